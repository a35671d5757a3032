import PyProof.Rows.All
import Wide.All
import OpenK.AllK
import Wide.FinOn
import HandS.ForMost
import HandS.ForExc
import HandS.HeadWalk
import HandS.TupAny
import HandS.IsInst
import HandS.Wide
import HandS.Deep
import HandS.TupMul
import HandS.ExcCtx
import HandS.ExcOwn
import KE.GoesNew
import KE.GoesMore
import HandS.Defaults
import HandS.HeadHook1
import HandS.HotCalls
import HandS.ExcIs
import HandS.Lambda
import PyProof.Rows.TupIter
import KE.GoesEnum
import KE.GoesComp
import PyProof.RulesMatch
import HandS.EndTab
import HandS.Strs
import HandS.Conv
import HandS.HeadHook4
import HandS.HeadEnd
import HandS.Head0
import HandS.Head1
import HandS.Head2
import HandS.SetFor
import HandS.CallSlots
import HandS.Comp
import HandS.SortOrd
import HandS.SortRule
import HandS.TupSets
import KE.KStateDown
import PySem.Challenge.RW_turnedshares_k07_whole_ways_that_must_be
set_option Elab.async false
set_option linter.all false
set_option maxRecDepth 100000
set_option maxHeartbeats 4000000
/-! The plain layer: what the slots of a def hold as plain data, with no heap in sight; lists that are changed in place belong to one slot. -/
namespace TS
open PySem PySem.Spec PyProof.Rows L2
/-! ### data -/
inductive D where
  | non | bl (b : Bool) | int (i : Int) | str (x : Str) | tup (l : List D) | lst (l : List D) | scr (ns : List Int) | glo (n : Str) | ty (n : String)
  deriving Inhabited
/-- what is fixed through a law: the written part, the module's names, what stays true of the tables of code objects -/
structure Zx where
  K : PySem.W.Frag
  mg : Str → Option Value
  J : Hp → Prop
/-- an object that may change in place -/
def Chg : HO → Prop
  | .lst _ => True
  | .dK _ => True
  | .dT _ => True
  | .set _ _ => True
  | .ins _ _ _ => True
  | _ => False
def Tbl : HO → Prop
  | .tbl _ => True
  | _ => False
/-- J hangs on what does not change in place -/
class GoodJ (Z : Zx) : Prop where
  j : ∀ H H' : Hp, (∀ a o, H a = some o → ¬ Chg o → H' a = some o) → Z.J H → Z.J H'
mutual
def Rp (Z : Zx) (H : Hp) : D → V → Prop
  | .non, v => v = .non
  | .bl b, v => v = .bl b
  | .int i, v => v = .int i
  | .str x, v => v = .str x
  | .tup ds, v => ∃ a vs, v = .ref a ∧ SqT Z.K H a vs ∧ RpL Z H ds vs
  | .lst ds, v => ∃ a vs, v = .ref a ∧ H a = some (.lst vs) ∧ RpL Z H ds vs
  | .scr ns, v => ∃ a, v = .ref a ∧ SqL Z.K H a (ns.map V.int)
  | .glo n, v => ∃ a, v = .ref a ∧ Z.mg n = some (.ref a)
  | .ty n, v => v = .ty n
def RpL (Z : Zx) (H : Hp) : List D → List V → Prop
  | [], [] => True
  | d :: ds, v :: vs => Rp Z H d v ∧ RpL Z H ds vs
  | [], _ :: _ => False
  | _ :: _, [] => False
end
/-- B tells at least what A tells, but for tables -/
def Sub (A B : Hp) : Prop := ∀ a o, A a = some o → ¬ Tbl o → B a = some o
theorem Sub.refl (A : Hp) : Sub A A := fun _ _ h _ => h
theorem Sub.trans {A B C : Hp} (x : Sub A B) (y : Sub B C) : Sub A C := fun a o h n => y a o (x a o h n) n
section
variable {Z : Zx} {A B : Hp}
theorem Sub.rd {a : Addr} {u : HO} (s : Sub A B) (n : ¬ Tbl u) (h : Rd A a u) : Rd B a u := by
  rcases h with h | ⟨o, h⟩
  · exact .inl (s _ _ h n)
  · exact .inr ⟨o, s _ _ h (fun z => z)⟩
theorem Sub.sqT {a : Addr} {xs : List V} (s : Sub A B) (h : SqT Z.K A a xs) : SqT Z.K B a xs := h.imp (s.rd fun z => z) fun z => z
theorem Sub.sqL {a : Addr} {xs : List V} (s : Sub A B) (h : SqL Z.K A a xs) : SqL Z.K B a xs := h.imp (s.rd fun z => z) fun z => z
mutual
theorem Rp.sub (s : Sub A B) : ∀ (d : D) (v : V), Rp Z A d v → Rp Z B d v
  | .non, _, h => h
  | .bl _, _, h => h
  | .int _, _, h => h
  | .str _, _, h => h
  | .tup ds, v, h => by
    obtain ⟨a, vs, e, q, r⟩ := (show ∃ a vs, v = .ref a ∧ SqT Z.K A a vs ∧ RpL Z A ds vs from h)
    exact ⟨a, vs, e, s.sqT q, RpL.sub s ds vs r⟩
  | .lst ds, v, h => by
    obtain ⟨a, vs, e, q, r⟩ := (show ∃ a vs, v = .ref a ∧ A a = some (.lst vs) ∧ RpL Z A ds vs from h)
    exact ⟨a, vs, e, s _ _ q (fun z => z), RpL.sub s ds vs r⟩
  | .scr _, v, h => by
    obtain ⟨a, e, q⟩ := h
    exact ⟨a, e, s.sqL q⟩
  | .glo _, _, h => h
  | .ty _, _, h => h
theorem RpL.sub (s : Sub A B) : ∀ (ds : List D) (vs : List V), RpL Z A ds vs → RpL Z B ds vs
  | [], [], _ => trivial
  | d :: ds, v :: vs, h => ⟨Rp.sub s d v h.1, RpL.sub s ds vs h.2⟩
  | [], _ :: _, h => h
  | _ :: _, [], h => h
end
theorem RpL.len : ∀ {ds : List D} {vs : List V}, RpL Z A ds vs → ds.length = vs.length
  | [], [], _ => rfl
  | _ :: _, _ :: _, h => by simp [RpL.len h.2]
  | [], _ :: _, h => h.elim
  | _ :: _, [], h => h.elim
theorem RpL.get : ∀ {ds : List D} {vs : List V} {i : Nat} {d : D}, RpL Z A ds vs → ds[i]? = some d → ∃ v, vs[i]? = some v ∧ Rp Z A d v
  | [], [], i, d, _, e => by simp at e
  | d' :: ds, v :: vs, 0, d, h, e => by
    simp at e
    subst e
    exact ⟨v, rfl, h.1⟩
  | d' :: ds, v :: vs, i + 1, d, h, e => by
    obtain ⟨w, q, r⟩ := RpL.get (i := i) (d := d) h.2 (by simpa using e)
    exact ⟨w, by simpa using q, r⟩
  | [], _ :: _, _, _, h, _ => h.elim
  | _ :: _, [], _, _, h, _ => h.elim
theorem RpL.getV : ∀ {ds : List D} {vs : List V} {i : Nat} {v : V}, RpL Z A ds vs → vs[i]? = some v → ∃ d, ds[i]? = some d ∧ Rp Z A d v
  | [], [], i, d, _, e => by simp at e
  | d' :: ds, v' :: vs, 0, v, h, e => by
    simp at e
    subst e
    exact ⟨d', rfl, h.1⟩
  | d' :: ds, v' :: vs, i + 1, v, h, e => by
    obtain ⟨w, q, r⟩ := RpL.getV (i := i) (v := v) h.2 (by simpa using e)
    exact ⟨w, by simpa using q, r⟩
  | [], _ :: _, _, _, h, _ => h.elim
  | _ :: _, [], _, _, h, _ => h.elim
theorem RpL.append : ∀ {ds es : List D} {vs ws : List V}, RpL Z A ds vs → RpL Z A es ws → RpL Z A (ds ++ es) (vs ++ ws)
  | [], _, [], _, _, k => k
  | _ :: _, _, _ :: _, _, h, k => ⟨h.1, RpL.append h.2 k⟩
  | [], _, _ :: _, _, h, _ => h.elim
  | _ :: _, _, [], _, h, _ => h.elim
theorem RpL.take : ∀ {ds : List D} {vs : List V} (n : Nat), RpL Z A ds vs → RpL Z A (ds.take n) (vs.take n)
  | [], [], n, _ => by simp [RpL]
  | _ :: _, _ :: _, 0, _ => trivial
  | _ :: _, _ :: _, n + 1, h => ⟨h.1, RpL.take n h.2⟩
  | [], _ :: _, _, h => h.elim
  | _ :: _, [], _, h => h.elim
theorem RpL.drop : ∀ {ds : List D} {vs : List V} (n : Nat), RpL Z A ds vs → RpL Z A (ds.drop n) (vs.drop n)
  | [], [], n, _ => by simp [RpL]
  | _ :: _, _ :: _, 0, h => h
  | _ :: _, _ :: _, n + 1, h => RpL.drop n h.2
  | [], _ :: _, _, h => h.elim
  | _ :: _, [], _, h => h.elim
theorem RpL.set : ∀ {ds : List D} {vs : List V} {d : D} {v : V} (i : Nat), RpL Z A ds vs → Rp Z A d v → RpL Z A (ds.set i d) (vs.set i v)
  | [], [], _, _, i, _, _ => by simp [RpL]
  | _ :: _, _ :: _, _, _, 0, h, k => ⟨k, h.2⟩
  | _ :: _, _ :: _, _, _, i + 1, h, k => ⟨h.1, RpL.set i h.2 k⟩
  | [], _ :: _, _, _, _, h, _ => h.elim
  | _ :: _, [], _, _, _, h, _ => h.elim
end
/-! ### slots -/
/-- nothing known; a value; a list of one's own; a list of a caller's that may be changed -/
inductive Sl where
  | no | val (d : D) | own (ds : List D) | brw (ds : List D)
  deriving Inhabited
abbrev Rho := List Sl
def Sl.held : Sl → Option (List D)
  | .own ds => some ds
  | .brw ds => some ds
  | _ => none
def Sl.put (ds : List D) : Sl → Sl
  | .own _ => .own ds
  | .brw _ => .brw ds
  | s => s
def slAt (ρ : Rho) (i : Nat) : Sl := ρ.getD i .no
def heldAt (ρ : Rho) (i : Nat) : Option (List D) := (slAt ρ i).held
def putAt (ρ : Rho) (i : Nat) (ds : List D) : Rho := ρ.set i ((slAt ρ i).put ds)
/-- the address of a list that a slot holds -/
def Ow (ρ : Rho) (σ : L2.St) (a : Addr) : Prop := ∃ i ds, heldAt ρ i = some ds ∧ σ[i]? = some (some (.ref a))
def Hid (ρ : Rho) (σ : L2.St) (G : Addr → Prop) (a : Addr) : Prop := G a ∨ Ow ρ σ a
open Classical in
noncomputable def vis (H : Hp) (S : Addr → Prop) : Hp := fun a => if S a then none else H a
theorem vis_some {H : Hp} {S : Addr → Prop} {a : Addr} {o : HO} : vis H S a = some o ↔ ¬ S a ∧ H a = some o := by
  unfold vis
  by_cases h : S a
  · rw [if_pos h]
    refine ⟨fun z => ?_, fun z => absurd h z.1⟩
    cases z
  · rw [if_neg h]
    exact ⟨fun z => ⟨h, z⟩, fun z => z.2⟩
theorem vis_sub {H H' : Hp} {S S' : Addr → Prop} (h : ∀ a o, H a = some o → ¬ S a → ¬ Tbl o → ¬ S' a ∧ H' a = some o) : Sub (vis H S) (vis H' S') := fun a o e n => by
  obtain ⟨e1, e2⟩ := vis_some.mp e
  exact vis_some.mpr (h a o e2 e1 n)
structure Ok (Z : Zx) (σ : L2.St) (ρ : Rho) (H : Hp) (G : Addr → Prop) : Prop where
  len : ρ.length = σ.length
  val : ∀ (i : Nat) (d : D), slAt ρ i = .val d → ∃ v, σ[i]? = some (some v) ∧ Rp Z (vis H (Hid ρ σ G)) d v
  own : ∀ (i : Nat) (ds : List D), heldAt ρ i = some ds → ∃ a vs, σ[i]? = some (some (.ref a)) ∧ H a = some (.lst vs) ∧ RpL Z (vis H (Hid ρ σ G)) ds vs ∧ ¬ G a
  inj : ∀ (i j : Nat) (ds es : List D) (a : Addr), heldAt ρ i = some ds → heldAt ρ j = some es → σ[i]? = some (some (.ref a)) → σ[j]? = some (some (.ref a)) → i = j
  j : Z.J H
  gt : ∀ a, G a → ∃ o, H a = some o ∧ ¬ Tbl o
/-- from one state to a later one: what no slot holds stays -/
structure Stp (Z : Zx) (σ : L2.St) (ρ : Rho) (H : Hp) (σ' : L2.St) (ρ' : Rho) (H' : Hp) : Prop where
  keep : ∀ a o, H a = some o → ¬ Tbl o → ¬ Ow ρ σ a → H' a = some o
  out : ∀ a o, H a = some o → ¬ Tbl o → ¬ Ow ρ σ a → ¬ Ow ρ' σ' a
  brw : ∀ (i : Nat) (ds : List D), slAt ρ i = .brw ds → σ'[i]? = σ[i]? ∧ ∃ ds', slAt ρ' i = .brw ds'
section
variable {Z : Zx} {σ σ1 σ2 : L2.St} {ρ ρ1 ρ2 : Rho} {H H1 H2 : Hp} {G : Addr → Prop}
theorem Stp.refl : Stp Z σ ρ H σ ρ H := ⟨fun _ _ h _ _ => h, fun _ _ _ _ h => h, fun i ds h => ⟨rfl, ds, h⟩⟩
theorem Stp.trans (a : Stp Z σ ρ H σ1 ρ1 H1) (b : Stp Z σ1 ρ1 H1 σ2 ρ2 H2) : Stp Z σ ρ H σ2 ρ2 H2 where
  keep := fun c o h m n => b.keep c o (a.keep c o h m n) m (a.out c o h m n)
  out := fun c o h m n => b.out c o (a.keep c o h m n) m (a.out c o h m n)
  brw := fun i ds h => by
    obtain ⟨e1, ds1, h1⟩ := a.brw i ds h
    obtain ⟨e2, ds2, h2⟩ := b.brw i ds1 h1
    exact ⟨e2.trans e1, ds2, h2⟩
/-- what was seen of a value stays true -/
theorem Stp.vis (s : Stp Z σ ρ H σ1 ρ1 H1) : Sub (TS.vis H (Hid ρ σ G)) (TS.vis H1 (Hid ρ1 σ1 G)) := vis_sub fun a o h n m => by
  have n1 : ¬ Ow ρ σ a := fun z => n (.inr z)
  exact ⟨fun z => z.elim (fun z => n (.inl z)) (s.out a o h m n1), s.keep a o h m n1⟩
end
end TS
set_option Elab.async false
set_option linter.all false
set_option maxRecDepth 100000
set_option maxHeartbeats 4000000
namespace TS
open PySem PySem.Spec PyProof.Rows L2
/-! ### small facts about slots -/
section
variable {Z : Zx} {σ σ' : L2.St} {ρ ρ' : Rho} {H H' : Hp} {G : Addr → Prop}
theorem slAt_set (ρ : Rho) (i j : Nat) (s : Sl) : slAt (ρ.set i s) j = if i = j ∧ j < ρ.length then s else slAt ρ j := by
  unfold slAt
  rw [List.getD_eq_getElem?_getD, List.getD_eq_getElem?_getD, List.getElem?_set]
  by_cases h : i = j
  · subst h
    by_cases k : i < ρ.length
    · simp [k]
    · simp [k]
  · simp [h]
theorem slAt_lt {i : Nat} (h : slAt ρ i ≠ .no) : i < ρ.length := by
  unfold slAt at h
  by_cases k : i < ρ.length
  · exact k
  · rw [List.getD_eq_getElem?_getD, List.getElem?_eq_none (by omega)] at h
    exact absurd rfl h
theorem heldAt_lt {i : Nat} {ds : List D} (h : heldAt ρ i = some ds) : i < ρ.length := slAt_lt fun z => by
  unfold heldAt at h
  rw [z] at h
  cases h
theorem heldAt_put {i : Nat} {ds es : List D} (h : heldAt ρ i = some ds) (j : Nat) : heldAt (putAt ρ i es) j = if i = j then some es else heldAt ρ j := by
  have hl := heldAt_lt h
  unfold heldAt putAt at *
  rw [slAt_set]
  by_cases k : i = j
  · subst k
    rw [if_pos ⟨rfl, hl⟩, if_pos rfl]
    cases e : slAt ρ i with
    | no => rw [e] at h; cases h
    | val d => rw [e] at h; cases h
    | own xs => rfl
    | brw xs => rfl
  · rw [if_neg (fun z => k z.1), if_neg k]
/-- a list of a slot is put anew, the heap with it -/
theorem Ow_put {i : Nat} {ds es : List D} (h : heldAt ρ i = some ds) (a : Addr) : Ow (putAt ρ i es) σ a ↔ Ow ρ σ a := by
  constructor
  · rintro ⟨j, xs, e1, e2⟩
    rw [heldAt_put h] at e1
    by_cases k : i = j
    · subst k
      exact ⟨i, ds, h, e2⟩
    · rw [if_neg k] at e1
      exact ⟨j, xs, e1, e2⟩
  · rintro ⟨j, xs, e1, e2⟩
    by_cases k : i = j
    · subst k
      exact ⟨i, es, by rw [heldAt_put h, if_pos rfl], e2⟩
    · exact ⟨j, xs, by rw [heldAt_put h, if_neg k]; exact e1, e2⟩
end
/-! ### exceptions -/
structure Exc where
  cls : Str
  pay : Option (Str × D)
def Pay (Z : Zx) (H : Hp) (x : Exc) (c : Value) (dd : Option Addr) : Prop := ∃ C, Z.mg x.cls = some (.ref C) ∧ c = .ref C ∧
  match x.pay with
  | none => dd = none
  | some p => ∃ d fs v, dd = some d ∧ H d = some (.xd fs) ∧ fs.lookup p.1 = some v ∧ Rp Z H p.2 v
abbrev EQ := Exc → Rho → Prop
/-- what is wished of an exception -/
def XP (Z : Zx) (W : WX) (σ : L2.St) (ρ : Rho) (H : Hp) (G : Addr → Prop) (E : EQ) : Prop :=
  ∀ x c dd σ' ρ' H', Ok Z σ' ρ' H' G → Stp Z σ ρ H σ' ρ' H' → Pay Z H' x c dd → E x ρ' → W c dd σ' H'
theorem XP.step {Z : Zx} {W : WX} {σ σ1 : L2.St} {ρ ρ1 : Rho} {H H1 : Hp} {G : Addr → Prop} {E : EQ} (x : XP Z W σ ρ H G E) (s : Stp Z σ ρ H σ1 ρ1 H1) : XP Z W σ1 ρ1 H1 G E :=
  fun x' c dd σ' ρ' H' o s' p e => x x' c dd σ' ρ' H' o (s.trans s') p e
/-- the same of an expression: the slots' values stand -/
def XPE (Z : Zx) (W : WX) (σ : L2.St) (ρ : Rho) (H : Hp) (G : Addr → Prop) (E : EQ) : Prop :=
  ∀ x c dd ρ' H', Ok Z σ ρ' H' G → Stp Z σ ρ H σ ρ' H' → Pay Z H' x c dd → E x ρ' → W c dd σ H'
theorem XPE.step {Z : Zx} {W : WX} {σ : L2.St} {ρ ρ1 : Rho} {H H1 : Hp} {G : Addr → Prop} {E : EQ} (x : XPE Z W σ ρ H G E) (s : Stp Z σ ρ H σ ρ1 H1) : XPE Z W σ ρ1 H1 G E :=
  fun x' c dd ρ' H' o s' p e => x x' c dd ρ' H' o (s.trans s') p e
theorem XP.e {Z : Zx} {W : WX} {σ : L2.St} {ρ : Rho} {H : Hp} {G : Addr → Prop} {E : EQ} (x : XP Z W σ ρ H G E) : XPE Z W σ ρ H G E := fun x' c dd ρ' H' o s p e => x x' c dd σ ρ' H' o s p e
/-! ### readings in plain data -/
abbrev DE := Rho → (D → Rho → Prop) → EQ → Prop
abbrev DT := Rho → (Bool → Rho → Prop) → EQ → Prop
abbrev DA := Rho → (List D → Rho → Prop) → EQ → Prop
structure DEnds where
  nx : Rho → Prop
  rt : D → Rho → Prop
  bk : Rho → Prop := fun _ => False
  ct : Rho → Prop := fun _ => False
abbrev DS := DEnds → EQ → Rho → Prop
def upE (Z : Zx) (W : WX) (t : DE) : TE := fun σ H Q => ∃ ρ G Qd E, Ok Z σ ρ H G ∧ t ρ Qd E ∧
  (∀ d v ρ' H', Ok Z σ ρ' H' G → Stp Z σ ρ H σ ρ' H' → Rp Z (vis H' (Hid ρ' σ G)) d v → Qd d ρ' → Q v H') ∧ XPE Z W σ ρ H G E
def upT (Z : Zx) (W : WX) (t : DT) : TT := fun σ H Q => ∃ ρ G Qd E, Ok Z σ ρ H G ∧ t ρ Qd E ∧
  (∀ b ρ' H', Ok Z σ ρ' H' G → Stp Z σ ρ H σ ρ' H' → Qd b ρ' → Q b H') ∧ XPE Z W σ ρ H G E
def upA (Z : Zx) (W : WX) (t : DA) : TA := fun σ H Q => ∃ ρ G Qd E, Ok Z σ ρ H G ∧ t ρ Qd E ∧
  (∀ ds vs ρ' H', Ok Z σ ρ' H' G → Stp Z σ ρ H σ ρ' H' → RpL Z (vis H' (Hid ρ' σ G)) ds vs → Qd ds ρ' → Q vs H') ∧ XPE Z W σ ρ H G E
def upS (Z : Zx) (W : WX) (t : DS) : TS := fun B σ H => ∃ ρ G DD E, Ok Z σ ρ H G ∧ t DD E ρ ∧
  (∀ σ' ρ' H', Ok Z σ' ρ' H' G → Stp Z σ ρ H σ' ρ' H' → (DD.nx ρ' → B.nx σ' H') ∧ (DD.bk ρ' → B.bk σ' H') ∧ (DD.ct ρ' → B.ct σ' H') ∧
    ∀ d v, Rp Z (vis H' (Hid ρ' σ' G)) d v → DD.rt d ρ' → B.rt v H') ∧ XP Z W σ ρ H G E
/-! ### weakening -/
section
variable {X : Cx}
theorem PE.wk {e : Expr} {t t' : TE} (h : PE X e t) (k : ∀ σ H Q, t' σ H Q → t σ H Q) : PE X e t' := ⟨fun pins s σ H Q I z => h.run pins s σ H Q I (k σ H Q z)⟩
theorem PT.wk {e : Expr} {t t' : TT} (h : PT X e t) (k : ∀ σ H Q, t' σ H Q → t σ H Q) : PT X e t' := ⟨fun pins s σ H Q I z => h.run pins s σ H Q I (k σ H Q z)⟩
theorem PW.wk {e : Expr} {t t' : TT} (h : PW X e t) (k : ∀ σ H Q, t' σ H Q → t σ H Q) : PW X e t' := ⟨fun wh pins s σ H Q I z => h.run wh pins s σ H Q I (k σ H Q z)⟩
theorem PA.wk {es : List Expr} {t t' : TA} (h : PA X es t) (k : ∀ σ H Q, t' σ H Q → t σ H Q) : PA X es t' := ⟨fun pos pins s σ H Q I z => h.run pos pins s σ H Q I (k σ H Q z)⟩
theorem PS.wk {e : Stmt} {t t' : TS} (h : PS X e t) (k : ∀ B σ H, t' B σ H → t B σ H) : PS X e t' := ⟨fun pins s σ H B I z => h.run pins s σ H B I (k B σ H z)⟩
theorem PSs.wk {e : List Stmt} {t t' : TS} (h : PSs X e t) (k : ∀ B σ H, t' B σ H → t B σ H) : PSs X e t' := ⟨fun pins s σ H B I z => h.run pins s σ H B I (k B σ H z)⟩
end
/-- the context's written part and names are Z's -/
class Fit (X : Cx) (Z : Zx) : Prop where
  K : X.K = Z.K
  mg : X.mg = Z.mg
/-! ### extension of the heap -/
section
variable {Z : Zx} {σ σ' : L2.St} {ρ ρ' : Rho} {H H' : Hp} {G : Addr → Prop}
theorem same_upd {p : Addr} {o : HO} (h : H p = none) : Same H (upd H p o) := fun b u e => by
  rw [upd_ne (ne_of_none e h)]
  exact e
theorem Stp.ext (s : Same H H') : Stp Z σ ρ H σ ρ H' := ⟨fun a o h _ _ => s a o h, fun _ _ _ _ h => h, fun i ds h => ⟨rfl, ds, h⟩⟩
theorem vis_ext {S : Addr → Prop} (s : Same H H') : Sub (vis H S) (vis H' S) := vis_sub fun a o h n _ => ⟨n, s a o h⟩
theorem Ok.ext [GoodJ Z] (k : Ok Z σ ρ H G) (s : Same H H') : Ok Z σ ρ H' G where
  len := k.len
  val := fun i d e => by
    obtain ⟨v, h1, h2⟩ := k.val i d e
    exact ⟨v, h1, h2.sub (vis_ext s)⟩
  own := fun i ds e => by
    obtain ⟨a, vs, h1, h2, h3, h4⟩ := k.own i ds e
    exact ⟨a, vs, h1, s _ _ h2, h3.sub (vis_ext s), h4⟩
  inj := k.inj
  j := GoodJ.j _ _ (fun a o h _ => s a o h) k.j
  gt := fun a h => by
    obtain ⟨o, h1, h2⟩ := k.gt a h
    exact ⟨o, s _ _ h1, h2⟩
/-- a fresh address is seen -/
theorem Ok.fresh (k : Ok Z σ ρ H G) {p : Addr} (h : H p = none) : ¬ Hid ρ σ G p := fun z => by
  rcases z with z | ⟨i, ds, e1, e2⟩
  · obtain ⟨o, h1, _⟩ := k.gt p z
    rw [h] at h1
    cases h1
  · obtain ⟨a, vs, h1, h2, _⟩ := k.own i ds e1
    rw [h1] at e2
    cases e2
    rw [h] at h2
    cases h2
theorem Ok.freshV (k : Ok Z σ ρ H G) {p : Addr} {o : HO} (h : H p = none) : vis (upd H p o) (Hid ρ σ G) p = some o := vis_some.mpr ⟨k.fresh h, upd_same⟩
end
/-! ### names, constants -/
section
variable {X : Cx} {Z : Zx} {W : WX}
/-- a slot is read; a list of one's own goes over into a value -/
def dVar (i : Nat) : DE := fun ρ Q _ => match slAt ρ i with
  | .val d => Q d ρ
  | .own ds => Q (.lst ds) (ρ.set i .no)
  | _ => False
theorem Ok.move {σ : L2.St} {ρ : Rho} {H : Hp} {G : Addr → Prop} {i : Nat} {ds : List D} (k : Ok Z σ ρ H G) (e : slAt ρ i = .own ds) :
    Ok Z σ (ρ.set i .no) H G ∧ Stp Z σ ρ H σ (ρ.set i .no) H ∧ ∃ v, σ[i]? = some (some v) ∧ Rp Z (vis H (Hid (ρ.set i .no) σ G)) (.lst ds) v := by
  have hl : i < ρ.length := slAt_lt (by rw [e]; exact fun z => by cases z)
  have hh : heldAt ρ i = some ds := by unfold heldAt; rw [e]; rfl
  have at_ : ∀ j, slAt (ρ.set i .no) j = if i = j then .no else slAt ρ j := fun j => by
    rw [slAt_set]
    by_cases q : i = j
    · subst q
      rw [if_pos ⟨rfl, hl⟩, if_pos rfl]
    · rw [if_neg (fun z => q z.1), if_neg q]
  have held : ∀ j xs, heldAt (ρ.set i .no) j = some xs → i ≠ j ∧ heldAt ρ j = some xs := fun j xs z => by
    unfold heldAt at z ⊢
    rw [at_ j] at z
    by_cases q : i = j
    · rw [if_pos q] at z
      cases z
    · rw [if_neg q] at z
      exact ⟨q, z⟩
  have ow : ∀ a, Ow (ρ.set i .no) σ a → Ow ρ σ a := fun a ⟨j, xs, e1, e2⟩ => ⟨j, xs, (held j xs e1).2, e2⟩
  have sub : Sub (vis H (Hid ρ σ G)) (vis H (Hid (ρ.set i .no) σ G)) := vis_sub fun a o h n _ => ⟨fun z => n (z.imp (fun z => z) (ow a)), h⟩
  obtain ⟨a, vs, h1, h2, h3, h4⟩ := k.own i ds hh
  refine ⟨⟨by rw [List.length_set]; exact k.len, fun j d z => ?_, fun j xs z => ?_, fun j l xs ys b z1 z2 => k.inj j l xs ys b (held j xs z1).2 (held l ys z2).2, k.j, k.gt⟩, ⟨fun _ _ h _ _ => h, fun a o _ _ n z => n (ow a z), fun j xs z => ⟨rfl, xs, ?_⟩⟩, .ref a, h1, a, vs, rfl, ?_, h3.sub sub⟩
  · rw [at_ j] at z
    by_cases q : i = j
    · rw [if_pos q] at z
      cases z
    · rw [if_neg q] at z
      obtain ⟨v, w1, w2⟩ := k.val j d z
      exact ⟨v, w1, w2.sub sub⟩
  · obtain ⟨b, ws, w1, w2, w3, w4⟩ := k.own j xs (held j xs z).2
    exact ⟨b, ws, w1, w2, w3.sub sub, w4⟩
  · rw [at_ j, if_neg]
    · exact z
    · intro q
      rw [← q, e] at z
      cases z
  · refine vis_some.mpr ⟨fun z => ?_, h2⟩
    rcases z with z | ⟨j, xs, e1, e2⟩
    · exact h4 z
    · obtain ⟨q, e3⟩ := held j xs e1
      exact q (k.inj i j ds xs a hh e3 h1 e2)
theorem de_var {i : Nat} {x : Str} {pos : Pos} (hN : X.N[i]? = some x := by rfl) (hv : Vis X.env.scope x := by first | exact Or.inl rfl | exact Or.inr (Or.inl rfl) | exact Or.inr (Or.inr rfl))
    (hd : (x == ("__debug__" : Str)) = false := by decide) (hcd : (x == ("__classdict__" : Str)) = false := by decide) : PE X (.Name x pos) (upE Z W (dVar i)) :=
  PE.wk (pe_var hN hv hd hcd) fun σ H Q ⟨ρ, G, Qd, E, ok, h, hq, _⟩ => by
    unfold dVar at h
    cases e : slAt ρ i with
    | val d =>
      rw [e] at h
      obtain ⟨v, h1, h2⟩ := ok.val i d e
      exact ⟨v, h1, hq d v ρ H ok .refl h2 h⟩
    | own ds =>
      rw [e] at h
      obtain ⟨k1, k2, v, k3, k4⟩ := ok.move e
      exact ⟨v, k3, hq _ v _ H k1 k2 k4 h⟩
    | no => rw [e] at h; exact h.elim
    | brw ds => rw [e] at h; exact h.elim
def dC (d : D) : DE := fun ρ Q _ => Q d ρ
theorem up_c {d : D} {v : V} (r : ∀ H, Rp Z H d v) (σ : L2.St) (H : Hp) (Q : VK) (h : upE Z W (dC d) σ H Q) : tC v σ H Q := by
  obtain ⟨ρ, G, Qd, E, ok, h, hq, _⟩ := h
  exact hq d v ρ H ok .refl (r _) h
theorem de_int {i j pos} : PE X (.Constant (.int i) j pos) (upE Z W (dC (.int i))) := PE.wk pe_int (up_c fun _ => rfl)
theorem de_bl {b j pos} : PE X (.Constant (.bool b) j pos) (upE Z W (dC (.bl b))) := PE.wk pe_bl (up_c fun _ => rfl)
theorem de_non {j pos} : PE X (.Constant .none j pos) (upE Z W (dC .non)) := PE.wk pe_non (up_c fun _ => rfl)
theorem de_str {x j pos} : PE X (.Constant (.str x) j pos) (upE Z W (dC (.str x))) := PE.wk pe_str (up_c fun _ => rfl)
/-- a function or a class of the module as a value -/
theorem de_glo {x : Str} {a : Addr} {pos : Pos} [F : Fit X Z] (hm : Z.mg x = some (.ref a)) (hg : Gl X x := by rfl) (hd : (x == ("__debug__" : Str)) = false := by decide) : PE X (.Name x pos) (upE Z W (dC (.glo x))) :=
  PE.wk (pe_glob (v := .ref a) hg (by rw [F.mg]; exact hm) rfl hd) (up_c fun _ => ⟨a, rfl, hm⟩)
/-- an int of the module -/
theorem de_gint {x : Str} {i : Int} {pos : Pos} [F : Fit X Z] (hm : ∃ t, Z.mg x = some (.int i t)) (hg : Gl X x := by rfl) (hd : (x == ("__debug__" : Str)) = false := by decide) : PE X (.Name x pos) (upE Z W (dC (.int i))) := by
  obtain ⟨t, hm⟩ := hm
  exact PE.wk (pe_glob (v := .int i) hg (by rw [F.mg]; exact hm) ⟨t, rfl⟩ hd) (up_c fun _ => rfl)
/-- any value of the module that is data -/
theorem de_gdat {x : Str} {d : D} {v : V} {u : Value} {pos : Pos} [F : Fit X Z] (hm : Z.mg x = some u) (hr : RelV v u) (hd' : ∀ H, Rp Z H d v) (hg : Gl X x := by rfl) (hd : (x == ("__debug__" : Str)) = false := by decide) : PE X (.Name x pos) (upE Z W (dC d)) :=
  PE.wk (pe_glob (v := v) hg (by rw [F.mg]; exact hm) hr hd) (up_c hd')
/-! ### argument lists, displays -/
def aNil : DA := fun ρ Q _ => Q [] ρ
def aCons (t : DE) (u : DA) : DA := fun ρ Q E => t ρ (fun d ρ1 => u ρ1 (fun ds ρ2 => Q (d :: ds) ρ2) E) E
theorem da_nil : PA X [] (upA Z W aNil) := PA.wk pa_nil fun σ H Q ⟨ρ, G, Qd, E, ok, h, hq, _⟩ => hq [] [] ρ H ok .refl trivial h
theorem da_cons {e : Expr} {es : List Expr} {t : DE} {u : DA} (ha : PE X e (upE Z W t)) (hr : PA X es (upA Z W u)) (hs : starEach (e :: es) X.env = (false, eval e X.env) :: starEach es X.env := by rfl) :
    PA X (e :: es) (upA Z W (aCons t u)) := PA.wk (pa_cons ha hr hs) fun σ H Q ⟨ρ, G, Qd, E, ok, h, hq, hx⟩ => by
  refine ⟨ρ, G, _, E, ok, h, fun d v ρ1 H1 ok1 s1 r1 h1 => ?_, hx⟩
  refine ⟨ρ1, G, _, E, ok1, h1, fun ds vs ρ2 H2 ok2 s2 r2 h2 => ?_, hx.step s1⟩
  exact hq (d :: ds) (v :: vs) ρ2 H2 ok2 (s1.trans s2) ⟨r1.sub s2.vis, r2⟩ h2
def dTup (t : DA) : DE := fun ρ Q E => t ρ (fun ds ρ' => Q (.tup ds) ρ') E
def dLst (t : DA) : DE := fun ρ Q E => t ρ (fun ds ρ' => Q (.lst ds) ρ') E
theorem up_tup [GoodJ Z] {t : DA} (hz : ∀ ρ Q E, t ρ Q E → t ρ (fun ds ρ' => ds.length ≤ sizeLine ∧ Q ds ρ') E) (σ : L2.St) (H : Hp) (Q : VK) (h : upE Z W (dTup t) σ H Q) : tTup (upA Z W t) σ H Q := by
  obtain ⟨ρ, G, Qd, E, ok, h, hq, hx⟩ := h
  refine ⟨ρ, G, _, E, ok, hz _ _ _ h, fun ds vs ρ1 H1 ok1 s1 r1 h1 => ⟨by rw [← r1.len]; exact h1.1, fun p hp => ?_⟩, hx⟩
  exact hq (.tup ds) (.ref p) ρ1 _ (ok1.ext (same_upd hp)) (s1.trans (.ext (same_upd hp))) ⟨p, vs, rfl, .of (ok1.freshV hp), r1.sub (vis_ext (same_upd hp))⟩ h1.2
theorem up_lst [GoodJ Z] {t : DA} (hz : ∀ ρ Q E, t ρ Q E → t ρ (fun ds ρ' => ds.length ≤ sizeLine ∧ Q ds ρ') E) (σ : L2.St) (H : Hp) (Q : VK) (h : upE Z W (dLst t) σ H Q) : tLst (upA Z W t) σ H Q := by
  obtain ⟨ρ, G, Qd, E, ok, h, hq, hx⟩ := h
  refine ⟨ρ, G, _, E, ok, hz _ _ _ h, fun ds vs ρ1 H1 ok1 s1 r1 h1 => ⟨by rw [← r1.len]; exact h1.1, fun p hp => ?_⟩, hx⟩
  exact hq (.lst ds) (.ref p) ρ1 _ (ok1.ext (same_upd hp)) (s1.trans (.ext (same_upd hp))) ⟨p, vs, rfl, ok1.freshV hp, r1.sub (vis_ext (same_upd hp))⟩ h1.2
end
end TS
set_option Elab.async false
set_option linter.all false
set_option maxRecDepth 100000
set_option maxHeartbeats 4000000
set_option exponentiation.threshold 10000
namespace TS
open PySem PySem.Spec PyProof.Rows L2
/-! ### equality of data -/
mutual
def eqD : D → D → Bool
  | .non, .non => true
  | .bl a, .bl b => a == b
  | .bl a, .int j => (if a then 1 else 0) == j
  | .int i, .bl b => i == (if b then 1 else 0)
  | .int i, .int j => i == j
  | .str x, .str y => x == y
  | .lst xs, .lst ys => eqL xs ys
  | .tup xs, .tup ys => eqL xs ys
  | .non, .bl _ | .non, .int _ | .non, .str _ | .non, .lst _ | .non, .tup _ | .non, .scr _ | .non, .glo _ | .non, .ty _ => false
  | .bl _, .non | .bl _, .str _ | .bl _, .lst _ | .bl _, .tup _ | .bl _, .scr _ | .bl _, .glo _ | .bl _, .ty _ => false
  | .int _, .non | .int _, .str _ | .int _, .lst _ | .int _, .tup _ | .int _, .scr _ | .int _, .glo _ | .int _, .ty _ => false
  | .str _, .non | .str _, .bl _ | .str _, .int _ | .str _, .lst _ | .str _, .tup _ | .str _, .scr _ | .str _, .glo _ | .str _, .ty _ => false
  | .lst _, .non | .lst _, .bl _ | .lst _, .int _ | .lst _, .str _ | .lst _, .tup _ | .lst _, .scr _ | .lst _, .glo _ | .lst _, .ty _ => false
  | .tup _, .non | .tup _, .bl _ | .tup _, .int _ | .tup _, .str _ | .tup _, .lst _ | .tup _, .scr _ | .tup _, .glo _ | .tup _, .ty _ => false
  | .scr _, _ => false
  | .glo _, _ => false
  | .ty _, _ => false
def eqL : List D → List D → Bool
  | [], [] => true
  | x :: xs, y :: ys => eqD x y && eqL xs ys
  | [], _ :: _ => false
  | _ :: _, [] => false
end
/-- data of depth at most n, its texts proper -/
def okD : Nat → D → Bool
  | _, .non => true
  | _, .bl _ => true
  | _, .int _ => true
  | _, .str x => PyData.strOk x
  | n + 1, .tup ds => ds.all (okD n)
  | n + 1, .lst ds => ds.all (okD n)
  | _, _ => false
mutual
def D.py : D → PyData
  | .non => .none
  | .bl b => .bool b
  | .int i => .int i
  | .str x => .str x
  | .tup ds => .tuple (D.pyL ds)
  | .lst ds => .list (D.pyL ds)
  | _ => .none
def D.pyL : List D → List PyData
  | [] => []
  | d :: ds => d.py :: D.pyL ds
end
theorem okD_shape : ∀ (n : Nat) (d : D), okD n d = true → d.py.canLay0 = true ∧ d.py.depth ≤ n
  | n, .non, _ => by cases n <;> simp [D.py, PyData.canLay0, PyData.depth]
  | n, .bl _, _ => by cases n <;> simp [D.py, PyData.canLay0, PyData.depth]
  | n, .int _, _ => by cases n <;> simp [D.py, PyData.canLay0, PyData.depth]
  | n, .str x, h => by
    have h' : PyData.strOk x = true := by cases n <;> exact h
    refine ⟨?_, ?_⟩
    · simp only [D.py, PyData.canLay0]
      exact h'
    · simp [D.py, PyData.depth]
  | 0, .tup ds, h => by simp [okD] at h
  | 0, .lst ds, h => by simp [okD] at h
  | n + 1, .tup ds, h => by
    have z : ∀ ds : List D, ds.all (okD n) = true → PyData.canLayAll0 (D.pyL ds) = true ∧ PyData.depthAll (D.pyL ds) ≤ n := by
      intro ds
      induction ds with
      | nil => intro _; simp [D.pyL, PyData.canLayAll0, PyData.depthAll]
      | cons d r ih =>
        intro h
        simp only [List.all_cons, Bool.and_eq_true] at h
        obtain ⟨a1, a2⟩ := okD_shape n d h.1
        obtain ⟨b1, b2⟩ := ih h.2
        simp only [D.pyL, PyData.canLayAll0, PyData.depthAll, a1, b1, Bool.and_self, true_and]
        exact Nat.max_le.mpr ⟨a2, b2⟩
    obtain ⟨b1, b2⟩ := z ds (by simpa [okD] using h)
    simp only [D.py, PyData.canLay0, PyData.depth]
    exact ⟨b1, by omega⟩
  | n + 1, .lst ds, h => by
    have z : ∀ ds : List D, ds.all (okD n) = true → PyData.canLayAll0 (D.pyL ds) = true ∧ PyData.depthAll (D.pyL ds) ≤ n := by
      intro ds
      induction ds with
      | nil => intro _; simp [D.pyL, PyData.canLayAll0, PyData.depthAll]
      | cons d r ih =>
        intro h
        simp only [List.all_cons, Bool.and_eq_true] at h
        obtain ⟨a1, a2⟩ := okD_shape n d h.1
        obtain ⟨b1, b2⟩ := ih h.2
        simp only [D.pyL, PyData.canLayAll0, PyData.depthAll, a1, b1, Bool.and_self, true_and]
        exact Nat.max_le.mpr ⟨a2, b2⟩
    obtain ⟨b1, b2⟩ := z ds (by simpa [okD] using h)
    simp only [D.py, PyData.canLay0, PyData.depth]
    exact ⟨b1, by omega⟩
  | n, .scr _, h => by cases n <;> simp [okD] at h
  | n, .glo _, h => by cases n <;> simp [okD] at h
  | n, .ty _, h => by cases n <;> simp [okD] at h
theorem okD_shaped {d : D} (h : okD 60 d = true) : SeqAt.shaped d.py = true := by
  obtain ⟨h1, h2⟩ := okD_shape 60 d h
  unfold SeqAt.shaped
  rw [h1, Bool.true_and]
  exact decide_eq_true (by omega)
mutual
/-- data without names -/
def bare : D → Bool
  | .non => true
  | .bl _ => true
  | .int _ => true
  | .str _ => true
  | .tup ds => bareL ds
  | .lst ds => bareL ds
  | .scr _ => false
  | .glo _ => false
  | .ty _ => false
def bareL : List D → Bool
  | [] => true
  | d :: ds => bare d && bareL ds
end
theorem okD_bare : ∀ (n : Nat) (d : D), okD n d = true → bare d = true
  | n, .non, _ => rfl
  | n, .bl _, _ => rfl
  | n, .int _, _ => rfl
  | n, .str x, h => rfl
  | 0, .tup ds, h => by simp [okD] at h
  | 0, .lst ds, h => by simp [okD] at h
  | n + 1, .tup ds, h => by
    have z : ∀ ds : List D, ds.all (okD n) = true → bareL ds = true := by
      intro ds
      induction ds with
      | nil => intro _; rfl
      | cons d r ih =>
        intro h
        simp only [List.all_cons, Bool.and_eq_true] at h
        simp only [bareL, okD_bare n d h.1, ih h.2, Bool.and_self]
    simp only [bare]
    exact z ds (by simpa [okD] using h)
  | n + 1, .lst ds, h => by
    have z : ∀ ds : List D, ds.all (okD n) = true → bareL ds = true := by
      intro ds
      induction ds with
      | nil => intro _; rfl
      | cons d r ih =>
        intro h
        simp only [List.all_cons, Bool.and_eq_true] at h
        simp only [bareL, okD_bare n d h.1, ih h.2, Bool.and_self]
    simp only [bare]
    exact z ds (by simpa [okD] using h)
  | n, .scr _, h => by cases n <;> simp [okD] at h
  | n, .glo _, h => by cases n <;> simp [okD] at h
  | n, .ty _, h => by cases n <;> simp [okD] at h
mutual
theorem eqD_py : ∀ d e : D, bare d = true → bare e = true → PyData.eqv d.py e.py = eqD d e
  | .lst xs, .lst ys, h, k => by simp only [D.py, PyData.eqv, eqD]; exact eqL_py xs ys (by simpa [bare] using h) (by simpa [bare] using k)
  | .tup xs, .tup ys, h, k => by simp only [D.py, PyData.eqv, eqD]; exact eqL_py xs ys (by simpa [bare] using h) (by simpa [bare] using k)
  | .non, e, _, k => by cases e <;> first | (simp [bare] at k; done) | simp [D.py, PyData.eqv, eqD]
  | .bl _, e, _, k => by cases e <;> first | (simp [bare] at k; done) | simp [D.py, PyData.eqv, eqD]
  | .int _, e, _, k => by cases e <;> first | (simp [bare] at k; done) | simp [D.py, PyData.eqv, eqD]
  | .str _, e, _, k => by cases e <;> first | (simp [bare] at k; done) | simp [D.py, PyData.eqv, eqD]
  | .lst _, .non, _, _ => by simp [D.py, PyData.eqv, eqD]
  | .lst _, .bl _, _, _ => by simp [D.py, PyData.eqv, eqD]
  | .lst _, .int _, _, _ => by simp [D.py, PyData.eqv, eqD]
  | .lst _, .str _, _, _ => by simp [D.py, PyData.eqv, eqD]
  | .lst _, .tup _, _, _ => by simp [D.py, PyData.eqv, eqD]
  | .tup _, .non, _, _ => by simp [D.py, PyData.eqv, eqD]
  | .tup _, .bl _, _, _ => by simp [D.py, PyData.eqv, eqD]
  | .tup _, .int _, _, _ => by simp [D.py, PyData.eqv, eqD]
  | .tup _, .str _, _, _ => by simp [D.py, PyData.eqv, eqD]
  | .tup _, .lst _, _, _ => by simp [D.py, PyData.eqv, eqD]
  | .lst _, .scr _, _, k => by simp [bare] at k
  | .lst _, .glo _, _, k => by simp [bare] at k
  | .lst _, .ty _, _, k => by simp [bare] at k
  | .tup _, .scr _, _, k => by simp [bare] at k
  | .tup _, .glo _, _, k => by simp [bare] at k
  | .tup _, .ty _, _, k => by simp [bare] at k
  | .scr _, _, h, _ => by simp [bare] at h
  | .glo _, _, h, _ => by simp [bare] at h
  | .ty _, _, h, _ => by simp [bare] at h
theorem eqL_py : ∀ ds es : List D, bareL ds = true → bareL es = true → PyData.eqvAll (D.pyL ds) (D.pyL es) = eqL ds es
  | [], [], _, _ => by simp [D.pyL, PyData.eqvAll, eqL]
  | d :: ds, e :: es, h, k => by
    simp only [bareL, Bool.and_eq_true] at h k
    simp only [D.pyL, PyData.eqvAll, eqL, eqD_py d e h.1 k.1, eqL_py ds es h.2 k.2]
  | [], _ :: _, _, _ => by simp [D.pyL, PyData.eqvAll, eqL]
  | _ :: _, [], _, _ => by simp [D.pyL, PyData.eqvAll, eqL]
end
section
variable {Z : Zx} {H : Hp} {S : Addr → Prop}
theorem vis_rd {a : Addr} {u : HO} (h : Rd (vis H S) a u) : Rd H a u := h.imp (fun h => (vis_some.mp h).2) fun ⟨o, h⟩ => ⟨o, (vis_some.mp h).2⟩
theorem vis_sqT {a : Addr} {xs : List V} (h : SqT Z.K (vis H S) a xs) : SqT Z.K H a xs := h.imp vis_rd fun z => z
theorem vis_sqL {a : Addr} {xs : List V} (h : SqL Z.K (vis H S) a xs) : SqL Z.K H a xs := h.imp vis_rd fun z => z
mutual
theorem Rp.dp : ∀ (d : D) (v : V), bare d = true → Rp Z (vis H S) d v → Dp Z.K H v d.py
  | .non, v, _, r => by cases r; exact .non
  | .bl b, v, _, r => by cases r; exact .bl b
  | .int i, v, _, r => by cases r; exact .int i
  | .str x, v, _, r => by cases r; exact .str x
  | .tup ds, v, h, r => by
    obtain ⟨a, vs, rfl, q, r2⟩ := (show ∃ a vs, v = .ref a ∧ SqT Z.K (vis H S) a vs ∧ RpL Z (vis H S) ds vs from r)
    exact .tup (vis_sqT q) (RpL.dp ds vs (by simpa [bare] using h) r2)
  | .lst ds, v, h, r => by
    obtain ⟨a, vs, rfl, q, r2⟩ := (show ∃ a vs, v = .ref a ∧ vis H S a = some (.lst vs) ∧ RpL Z (vis H S) ds vs from r)
    exact .lst (.of (vis_some.mp q).2) (RpL.dp ds vs (by simpa [bare] using h) r2)
  | .scr _, _, h, _ => by simp [bare] at h
  | .glo _, _, h, _ => by simp [bare] at h
  | .ty _, _, h, _ => by simp [bare] at h
theorem RpL.dp : ∀ (ds : List D) (vs : List V), bareL ds = true → RpL Z (vis H S) ds vs → DpAll Z.K H vs (D.pyL ds)
  | [], [], _, _ => .nil
  | d :: ds, v :: vs, h, r => by
    simp only [bareL, Bool.and_eq_true] at h
    exact .cons (Rp.dp d v h.1 r.1) (RpL.dp ds vs h.2 r.2)
  | [], _ :: _, _, r => r.elim
  | _ :: _, [], _, r => r.elim
end
end
/-! ### operators -/
/-- an operator on plain data -/
abbrev O2 := D → D → (D → Prop) → Prop
def OpOk (Z : Zx) (r : R2) (f : O2) : Prop := ∀ (σ : L2.St) (ρ : Rho) (H : Hp) (G : Addr → Prop) (x y : D) (v u : V) (Qd : D → Prop) (Q : VK), Ok Z σ ρ H G → Rp Z (vis H (Hid ρ σ G)) x v → Rp Z (vis H (Hid ρ σ G)) y u → f x y Qd →
  (∀ d w H', Same H H' → Rp Z (vis H' (Hid ρ σ G)) d w → Qd d → Q w H') → r v u H Q
def dOp (f : O2) (a b : DE) : DE := fun ρ Q E => a ρ (fun x ρ1 => b ρ1 (fun y ρ2 => f x y fun z => Q z ρ2) E) E
section
variable {X : Cx} {Z : Zx} {W : WX}
theorem up_op [GoodJ Z] {r : R2} {f : O2} (k : OpOk Z r f) {a b : DE} (σ : L2.St) (H : Hp) (Q : VK) (h : upE Z W (dOp f a b) σ H Q) : tOp r (upE Z W a) (upE Z W b) σ H Q := by
  obtain ⟨ρ, G, Qd, E, ok, h, hq, hx⟩ := h
  refine ⟨ρ, G, _, E, ok, h, fun x v ρ1 H1 ok1 s1 r1 h1 => ?_, hx⟩
  refine ⟨ρ1, G, _, E, ok1, h1, fun y u ρ2 H2 ok2 s2 r2 h2 => ?_, hx.step s1⟩
  exact k σ ρ2 H2 G x y v u _ Q ok2 (r1.sub s2.vis) r2 h2 fun d w H3 sm r3 q3 => hq d w ρ2 H3 (ok2.ext sm) ((s1.trans s2).trans (.ext sm)) r3 q3
theorem de_op [GoodJ Z] {op : Operator} {r : R2} {f : O2} (k : OpOk Z r f) {a b : Expr} {ta tb : DE} {pos : Pos} (ho : OpR X (binaryOp op) r) (ha : PE X a (upE Z W ta)) (hb : PE X b (upE Z W tb)) : PE X (.BinOp a op b pos) (upE Z W (dOp f ta tb)) :=
  PE.wk (pe_op ho ha hb) (up_op k)
theorem de_cmp [GoodJ Z] {op : CmpOp} {r : R2} {f : O2} (k : OpOk Z r f) {a b : Expr} {ta tb : DE} {pos : Pos} (ho : OpR X (compareOp op) r) (ha : PE X a (upE Z W ta)) (hb : PE X b (upE Z W tb)) (hm : behindInMarks op b = false) :
    PE X (.Compare a [op] [b] pos) (upE Z W (dOp f ta tb)) := PE.wk (pe_cmpR ho ha hb hm) (up_op k)
theorem de_ix [GoodJ Z] {r : R2} {f : O2} (k : OpOk Z r f) {a b : Expr} {ta tb : DE} {pos : Pos} (hr : IxR X r) (ha : PE X a (upE Z W ta)) (hb : PE X b (upE Z W tb)) (hs : PlainIx b) : PE X (.Subscript a b pos) (upE Z W (dOp f ta tb)) :=
  PE.wk (pe_ix hr ha hb hs) (up_op k)
end
theorem OpOk.or {Z : Zx} {r r' : R2} {f g : O2} (h : OpOk Z r f) (k : OpOk Z r' g) : OpOk Z (fun x y H Q => r x y H Q ∨ r' x y H Q) (fun x y Q => f x y Q ∨ g x y Q) :=
  fun σ ρ H G x y v u Qd Q ok rx ry z hq => z.elim (fun z => .inl (h σ ρ H G x y v u Qd Q ok rx ry z hq)) fun z => .inr (k σ ρ H G x y v u Qd Q ok rx ry z hq)
/-- lists, tuples, texts have at most so many items -/
def LIM : Nat := 1000000
theorem LIM_le : LIM ≤ sizeLine := by rw [sizeLine_eq]; decide
def MulOk (i j : Int) : Prop := (-(2 ^ 64) < j ∧ j < 2 ^ 64) ∨ (-(2 ^ 64) < i ∧ i < 2 ^ 64) ∨ (i.natAbs < 2 ^ 4000 ∧ j.natAbs < 2 ^ 4000)
def oAdd : O2
  | .int i, .int j, Q => Q (.int (i + j))
  | .str x, .str y, Q => x.length + y.length ≤ LIM ∧ Q (.str (x ++ y))
  | .tup xs, .tup ys, Q => xs.length + ys.length ≤ LIM ∧ Q (.tup (xs ++ ys))
  | .lst xs, .lst ys, Q => xs.length + ys.length ≤ LIM ∧ Q (.lst (xs ++ ys))
  | _, _, _ => False
def oInt (C : Int → Int → Prop) (g : Int → Int → D) : O2
  | .int i, .int j, Q => C i j ∧ Q (g i j)
  | _, _, _ => False
def oSub : O2 := oInt (fun _ _ => True) fun i j => .int (i - j)
def oMulI : O2 := oInt MulOk fun i j => .int (i * j)
def oMod : O2 := oInt (fun _ j => 0 < j) fun i j => .int (i % j)
def DivOk (j : Int) : Prop := 0 < j ∧ j < 2 ^ 8000
def oDiv : O2 := oInt (fun _ j => DivOk j) fun i j => .int (i / j)
def oPow : O2 := oInt (fun i j => 0 ≤ j ∧ j ≤ 1000 ∧ -(2 ^ 60) < i ∧ i < 2 ^ 60) fun i j => .int (i ^ j.toNat)
def oLt : O2 := oInt (fun _ _ => True) fun i j => .bl (decide (i < j))
def oLe : O2 := oInt (fun _ _ => True) fun i j => .bl (decide (i ≤ j))
def oGt : O2 := oInt (fun _ _ => True) fun i j => .bl (decide (j < i))
def oGe : O2 := oInt (fun _ _ => True) fun i j => .bl (decide (j ≤ i))
def oEq : O2 := fun x y Q => (okD 60 x = true ∧ okD 60 y = true) ∧ Q (.bl (eqD x y))
def oNe : O2 := fun x y Q => (okD 60 x = true ∧ okD 60 y = true) ∧ Q (.bl (!eqD x y))
def isNon : D → Bool
  | .non => true
  | _ => false
def oIsN : O2
  | x, .non, Q => Q (.bl (isNon x))
  | _, _, _ => False
def oNotN : O2
  | x, .non, Q => Q (.bl (!isNon x))
  | _, _, _ => False
def flatD : D → Bool
  | .non => true
  | .bl _ => true
  | .int _ => true
  | .str _ => true
  | _ => false
def oIn : O2
  | .str x, .str y, Q => Q (.bl (!(Builtin.Str.occurrences y x 0 y.length 1).isEmpty))
  | x, .tup ds, Q => (flatD x = true ∧ ds.all flatD = true) ∧ Q (.bl (ds.any fun y => eqD y x))
  | x, .lst ds, Q => (flatD x = true ∧ ds.all flatD = true) ∧ Q (.bl (ds.any fun y => eqD y x))
  | _, _, _ => False
def oNotIn : O2
  | .str x, .str y, Q => Q (.bl (!(!(Builtin.Str.occurrences y x 0 y.length 1).isEmpty)))
  | x, .tup ds, Q => (flatD x = true ∧ ds.all flatD = true) ∧ Q (.bl (!(ds.any fun y => eqD y x)))
  | x, .lst ds, Q => (flatD x = true ∧ ds.all flatD = true) ∧ Q (.bl (!(ds.any fun y => eqD y x)))
  | _, _, _ => False
/-- in a list of any data -/
def oInL : O2
  | x, .lst ds, Q => (okD 50 x = true ∧ ds.all (okD 50) = true) ∧ Q (.bl (ds.any fun y => eqD y x))
  | _, _, _ => False
def oNotInL : O2
  | x, .lst ds, Q => (okD 50 x = true ∧ ds.all (okD 50) = true) ∧ Q (.bl (!ds.any fun y => eqD y x))
  | _, _, _ => False
def oIx : O2
  | .tup ds, .int i, Q => ∃ d, atI ds i = some d ∧ Q d
  | .lst ds, .int i, Q => ∃ d, atI ds i = some d ∧ Q d
  | .scr ns, .int i, Q => ∃ n, atI ns i = some n ∧ Q (.int n)
  | .str x, .int i, Q => ∃ c, x.length ≤ LIM ∧ atI x.cps.toList i = some c ∧ Q (.str ⟨#[c]⟩)
  | _, _, _ => False
section
variable {X : Cx} {Z : Zx} {W : WX}
theorem ok_int {C : Int → Int → Prop} {C' : Int → Int → Prop} {g : Int → Int → D} {g' : Int → Int → V} (hC : ∀ i j, C i j → C' i j) (hg : ∀ i j H, Rp Z H (g i j) (g' i j)) : OpOk Z (rI C' g') (oInt C g) := by
  intro σ ρ H G x y v u Qd Q ok rx ry h hq
  cases x with
  | int i =>
    cases y with
    | int j =>
      cases rx
      cases ry
      exact ⟨i, j, rfl, rfl, hC i j h.1, hq _ _ H (.refl H) (hg i j _) h.2⟩
    | _ => exact h.elim
  | _ => cases y <;> exact h.elim
theorem ok_int0 {g : Int → Int → D} {g' : Int → Int → V} (hg : ∀ i j H, Rp Z H (g i j) (g' i j)) : OpOk Z (rI0 g') (oInt (fun _ _ => True) g) := by
  intro σ ρ H G x y v u Qd Q ok rx ry h hq
  cases x with
  | int i =>
    cases y with
    | int j =>
      cases rx
      cases ry
      exact ⟨i, j, rfl, rfl, hq _ _ H (.refl H) (hg i j _) h.2⟩
    | _ => exact h.elim
  | _ => cases y <;> exact h.elim
/-- + of ints, texts, tuples, lists -/
def rAddAll (K : PySem.W.Frag) : R2 := fun x y H Q => rI0 (fun i j => .int (i + j)) x y H Q ∨ (∃ i j, x = .str i ∧ y = .str j ∧ i.length + j.length ≤ sizeLine ∧ Q (.str (i ++ j)) H) ∨ rCatA K x y H Q ∨ rCat x y H Q
theorem or_addAll : OpR X (binaryOp .Add) (rAddAll X.K) := op_add.or (op_add_str.or (op_catA.or op_cat))
theorem ok_add : OpOk Z (rAddAll Z.K) oAdd := by
  intro σ ρ H G x y v u Qd Q ok rx ry h hq
  cases x with
  | int i =>
    cases y with
    | int j =>
      cases rx
      cases ry
      exact .inl ⟨i, j, rfl, rfl, hq (.int (i + j)) _ H (.refl H) rfl h⟩
    | _ => exact h.elim
  | str i =>
    cases y with
    | str j =>
      cases rx
      cases ry
      exact .inr (.inl ⟨i, j, rfl, rfl, Nat.le_trans h.1 LIM_le, hq (.str (i ++ j)) _ H (.refl H) rfl h.2⟩)
    | _ => exact h.elim
  | tup xs =>
    cases y with
    | tup ys =>
      obtain ⟨a, vs, rfl, qa, ra⟩ := rx
      obtain ⟨b, ws, rfl, qb, rb⟩ := ry
      have la := ra.len
      have lb := rb.len
      refine .inr (.inr (.inl ⟨a, b, vs, ws, rfl, rfl, vis_sqT qa, vis_sqT qb, by rw [← la, ← lb]; exact Nat.le_trans h.1 LIM_le, fun e => ?_, fun _ e => ?_, fun _ _ p hp => ?_⟩))
      · subst e
        have e2 : xs = [] := List.length_eq_zero_iff.mp la
        subst e2
        exact hq (.tup ys) _ H (.refl H) ⟨b, ws, rfl, qb, rb⟩ h.2
      · subst e
        have e2 : ys = [] := List.length_eq_zero_iff.mp lb
        subst e2
        have z := h.2
        rw [List.append_nil] at z
        exact hq (.tup xs) _ H (.refl H) ⟨a, vs, rfl, qa, ra⟩ z
      · exact hq (.tup (xs ++ ys)) _ _ (same_upd hp) ⟨p, vs ++ ws, rfl, .of (ok.freshV hp), (ra.append rb).sub (vis_ext (same_upd hp))⟩ h.2
    | _ => exact h.elim
  | lst xs =>
    cases y with
    | lst ys =>
      obtain ⟨a, vs, rfl, qa, ra⟩ := rx
      obtain ⟨b, ws, rfl, qb, rb⟩ := ry
      have la := ra.len
      have lb := rb.len
      exact .inr (.inr (.inr ⟨a, b, vs, ws, rfl, rfl, (vis_some.mp qa).2, (vis_some.mp qb).2, by rw [← la, ← lb]; exact Nat.le_trans h.1 LIM_le, fun p hp =>
        hq (.lst (xs ++ ys)) _ _ (same_upd hp) ⟨p, vs ++ ws, rfl, ok.freshV hp, (ra.append rb).sub (vis_ext (same_upd hp))⟩ h.2⟩))
    | _ => exact h.elim
  | _ => cases y <;> exact h.elim
theorem log2_of {i : Int} {n : Nat} (h0 : 0 < n) (h : i.natAbs < 2 ^ n) : i.natAbs.log2 < n := PySem.Flt.log2_lt_of h0 h
def rMulAll : R2 := fun x y H Q => rI CMul (fun i j => .int (i * j)) x y H Q ∨ rI CMulW (fun i j => .int (i * j)) x y H Q
theorem or_mulI : OpR X (binaryOp .Mult) rMulAll := op_mul.or op_mulW
theorem ok_mulI : OpOk Z rMulAll oMulI := by
  intro σ ρ H G x y v u Qd Q ok rx ry h hq
  cases x with
  | int i =>
    cases y with
    | int j =>
      cases rx
      cases ry
      rcases h with ⟨h | h | h, q⟩
      · exact .inl ⟨i, j, rfl, rfl, .inr h, hq (.int (i * j)) _ H (.refl H) rfl q⟩
      · exact .inl ⟨i, j, rfl, rfl, .inl h, hq (.int (i * j)) _ H (.refl H) rfl q⟩
      · exact .inr ⟨i, j, rfl, rfl, wide_mul h.1 h.2 (by decide) (by decide) (by decide), hq (.int (i * j)) _ H (.refl H) rfl q⟩
    | _ => exact h.elim
  | _ => cases y <;> exact h.elim
theorem ok_sub : OpOk Z (rI0 fun i j => .int (i - j)) oSub := ok_int0 fun _ _ _ => rfl
theorem ok_mod : OpOk Z (rI (fun _ j => 0 < j) fun i j => .int (i % j)) oMod := ok_int (fun _ _ h => h) fun _ _ _ => rfl
theorem ok_div : OpOk Z (rI CDivW fun i j => .int (i / j)) oDiv := ok_int (fun i j h => ⟨h.1, Nat.lt_trans (log2_of (n := 8000) (by decide) (by
    have h1 := h.1
    have h2 := h.2
    have e : (j.natAbs : Int) < ((2 ^ 8000 : Nat) : Int) := by
      rw [Int.natCast_pow]
      have : (j.natAbs : Int) = j := by omega
      rw [this]
      exact h2
    exact Int.ofNat_lt.mp e)) (by decide)⟩) fun _ _ _ => rfl
theorem ok_pow : OpOk Z (rI CPow fun i j => .int (i ^ j.toNat)) oPow := ok_int (fun i j h => ⟨h.1, by omega, by
    have := h.2.2
    have e : (2 : Nat) ^ 64 = 18446744073709551616 := by decide
    have e2 : (2 : Int) ^ 60 = 1152921504606846976 := by decide
    rw [e]
    omega⟩) fun _ _ _ => rfl
theorem ok_lt : OpOk Z (rI0 fun i j => .bl (decide (i < j))) oLt := ok_int0 fun _ _ _ => rfl
theorem ok_le : OpOk Z (rI0 fun i j => .bl (decide (i ≤ j))) oLe := ok_int0 fun _ _ _ => rfl
theorem ok_gt : OpOk Z (rI0 fun i j => .bl (decide (j < i))) oGt := ok_int0 fun _ _ _ => rfl
theorem ok_ge : OpOk Z (rI0 fun i j => .bl (decide (j ≤ i))) oGe := ok_int0 fun _ _ _ => rfl
theorem ok_eq : OpOk Z (rEqD Z.K) oEq := by
  intro σ ρ H G x y v u Qd Q ok rx ry h hq
  obtain ⟨⟨h1, h2⟩, q⟩ := h
  have b1 := okD_bare _ _ h1
  have b2 := okD_bare _ _ h2
  exact ⟨x.py, y.py, Rp.dp x v b1 rx, Rp.dp y u b2 ry, okD_shaped h1, okD_shaped h2, by rw [eqD_py x y b1 b2]; exact hq (.bl (eqD x y)) _ H (.refl H) rfl q⟩
theorem ok_ne : OpOk Z (rNeD Z.K) oNe := by
  intro σ ρ H G x y v u Qd Q ok rx ry h hq
  obtain ⟨⟨h1, h2⟩, q⟩ := h
  have b1 := okD_bare _ _ h1
  have b2 := okD_bare _ _ h2
  exact ⟨x.py, y.py, Rp.dp x v b1 rx, Rp.dp y u b2 ry, okD_shaped h1, okD_shaped h2, by rw [eqD_py x y b1 b2]; exact hq (.bl (!eqD x y)) _ H (.refl H) rfl q⟩
theorem Rp.isNon {H : Hp} {x : D} {v : V} (r : Rp Z H x v) : decide (v = V.non) = TS.isNon x := by
  cases x with
  | non => cases r; rfl
  | bl b => cases r; rfl
  | int i => cases r; rfl
  | str s => cases r; rfl
  | ty n => cases r; rfl
  | tup l => obtain ⟨a, _, rfl, _⟩ := r; rfl
  | lst l => obtain ⟨a, _, rfl, _⟩ := r; rfl
  | scr l => obtain ⟨a, rfl, _⟩ := r; rfl
  | glo n => obtain ⟨a, rfl, _⟩ := r; rfl
theorem ok_isN : OpOk Z (fun x y H Q => y = .non ∧ Q (.bl (decide (x = .non))) H) oIsN := by
  intro σ ρ H G x y v u Qd Q ok rx ry h hq
  cases y with
  | non =>
    cases ry
    have h' : Qd (.bl (isNon x)) := by cases x <;> exact h
    refine ⟨rfl, ?_⟩
    rw [rx.isNon]
    exact hq (.bl (isNon x)) _ H (.refl H) rfl h'
  | _ => cases x <;> exact h.elim
theorem ok_notN : OpOk Z (fun x y H Q => y = .non ∧ Q (.bl (!decide (x = .non))) H) oNotN := by
  intro σ ρ H G x y v u Qd Q ok rx ry h hq
  cases y with
  | non =>
    cases ry
    have h' : Qd (.bl (!isNon x)) := by cases x <;> exact h
    refine ⟨rfl, ?_⟩
    rw [rx.isNon]
    exact hq (.bl (!isNon x)) _ H (.refl H) rfl h'
  | _ => cases x <;> exact h.elim
end
end TS
set_option Elab.async false
set_option linter.all false
set_option maxRecDepth 100000
set_option maxHeartbeats 4000000
set_option exponentiation.threshold 10000
namespace TS
open PySem PySem.Spec PyProof.Rows L2
/-! ### items, in -/
section
variable {X : Cx} {Z : Zx} {W : WX} {A : Hp}
theorem atI_len {α β : Type} {xs : List α} {ys : List β} {i : Int} {x : α} (hl : xs.length = ys.length) (h : atI xs i = some x) : ∃ j : Nat, xs[j]? = some x ∧ ∀ y, ys[j]? = some y → atI ys i = some y := by
  unfold atI at h ⊢
  rw [← hl]
  cases e : ixN xs.length i with
  | none => rw [e] at h; cases h
  | some j =>
    rw [e] at h
    exact ⟨j, h, fun y q => q⟩
theorem RpL.atI {ds : List D} {vs : List V} {i : Int} {d : D} (r : RpL Z A ds vs) (h : L2.atI ds i = some d) : ∃ v, L2.atI vs i = some v ∧ Rp Z A d v := by
  obtain ⟨j, h1, h2⟩ := atI_len r.len h
  obtain ⟨v, h3, h4⟩ := r.get h1
  exact ⟨v, h2 v h3, h4⟩
theorem ok_ix : OpOk Z (rIx Z.K) oIx := by
  intro σ ρ H G x y v u Qd Q ok rx ry h hq
  cases x with
  | tup ds =>
    cases y with
    | int i =>
      obtain ⟨d, h1, h2⟩ := h
      obtain ⟨a, vs, rfl, q, r⟩ := rx
      cases ry
      obtain ⟨w, h3, h4⟩ := r.atI h1
      exact .inr (.inl ⟨a, vs, i, w, rfl, rfl, vis_sqT q, h3, hq d w H (.refl H) h4 h2⟩)
    | _ => exact h.elim
  | lst ds =>
    cases y with
    | int i =>
      obtain ⟨d, h1, h2⟩ := h
      obtain ⟨a, vs, rfl, q, r⟩ := rx
      cases ry
      obtain ⟨w, h3, h4⟩ := r.atI h1
      exact .inl ⟨a, vs, i, w, rfl, rfl, .of (vis_some.mp q).2, h3, hq d w H (.refl H) h4 h2⟩
    | _ => exact h.elim
  | scr ns =>
    cases y with
    | int i =>
      obtain ⟨n, h1, h2⟩ := h
      obtain ⟨a, rfl, q⟩ := rx
      cases ry
      obtain ⟨j, h3, h4⟩ := atI_len (ys := ns.map V.int) (by simp) h1
      exact .inl ⟨a, _, i, .int n, rfl, rfl, vis_sqL q, h4 _ (by rw [List.getElem?_map, h3]; rfl), hq (.int n) _ H (.refl H) rfl h2⟩
    | _ => exact h.elim
  | str s =>
    cases y with
    | int i =>
      obtain ⟨c, h0, h1, h2⟩ := h
      cases rx
      cases ry
      exact .inr (.inr ⟨s, i, c, rfl, rfl, Nat.le_trans h0 LIM_le, h1, hq (.str ⟨#[c]⟩) _ H (.refl H) rfl h2⟩)
    | _ => exact h.elim
  | _ => cases y <;> exact h.elim
theorem Rp.flat {d : D} {v : V} (r : Rp Z A d v) (h : flatD d = true) : flatV v = true := by
  cases d <;> first | (cases h; done) | (cases r; rfl)
theorem RpL.flat : ∀ {ds : List D} {vs : List V}, RpL Z A ds vs → ds.all flatD = true → vs.all flatV = true
  | [], [], _, _ => rfl
  | d :: ds, v :: vs, r, h => by
    simp only [List.all_cons, Bool.and_eq_true] at h ⊢
    exact ⟨r.1.flat h.1, RpL.flat r.2 h.2⟩
  | [], _ :: _, r, _ => r.elim
  | _ :: _, [], r, _ => r.elim
theorem eqV_eqD {d e : D} {v u : V} (r : Rp Z A d v) (q : Rp Z A e u) (h : flatD d = true) (k : flatD e = true) : eqV v u = eqD d e := by
  cases d <;> first | (cases h; done) | skip
  all_goals (cases e <;> first | (cases k; done) | skip)
  all_goals (cases r; cases q; first | rfl | (simp [eqV, eqD]; done) | (simp only [eqV, eqD, dec_str]; rfl))
theorem any_eqV {x : D} {v : V} (r : Rp Z A x v) (h : flatD x = true) : ∀ {ds : List D} {vs : List V}, RpL Z A ds vs → ds.all flatD = true → inV v vs = ds.any fun y => eqD y x
  | [], [], _, _ => rfl
  | d :: ds, w :: vs, q, k => by
    simp only [List.all_cons, Bool.and_eq_true] at k
    have ih := any_eqV r h (ds := ds) (vs := vs) q.2 k.2
    unfold inV at ih ⊢
    rw [List.any_cons, List.any_cons, ih, eqV_eqD q.1 r k.1 h]
  | [], _ :: _, q, _ => q.elim
  | _ :: _, [], q, _ => q.elim
def rInAll (K : PySem.W.Frag) : R2 := fun x y H Q => rIn K false x y H Q ∨ ∃ i j, x = .str i ∧ y = .str j ∧ Q (.bl (!(Builtin.Str.occurrences j i 0 j.length 1).isEmpty)) H
theorem or_in : OpR X (compareOp .In) (rInAll X.K) := op_in_seq.or op_in_str
def rNotInAll (K : PySem.W.Frag) : R2 := fun x y H Q => rIn K true x y H Q ∨ ∃ i j, x = .str i ∧ y = .str j ∧ Q (.bl (!(!(Builtin.Str.occurrences j i 0 j.length 1).isEmpty))) H
theorem or_notIn : OpR X (compareOp .NotIn) (rNotInAll X.K) := op_notIn_seq.or op_notIn_str
theorem ok_in : OpOk Z (rInAll Z.K) oIn := by
  intro σ ρ H G x y v u Qd Q ok rx ry h hq
  cases y with
  | tup ds =>
    obtain ⟨a, vs, rfl, q, r⟩ := ry
    have h' : (flatD x = true ∧ ds.all flatD = true) ∧ Qd (.bl (ds.any fun y => eqD y x)) := by cases x <;> exact h
    refine .inl ⟨a, vs, rfl, .inr (vis_sqT q), rx.flat h'.1.1, r.flat h'.1.2, ?_⟩
    rw [if_neg (by decide), any_eqV rx h'.1.1 r h'.1.2]
    exact hq (.bl _) _ H (.refl H) rfl h'.2
  | lst ds =>
    obtain ⟨a, vs, rfl, q, r⟩ := ry
    have h' : (flatD x = true ∧ ds.all flatD = true) ∧ Qd (.bl (ds.any fun y => eqD y x)) := by cases x <;> exact h
    refine .inl ⟨a, vs, rfl, .inl (.of (vis_some.mp q).2), rx.flat h'.1.1, r.flat h'.1.2, ?_⟩
    rw [if_neg (by decide), any_eqV rx h'.1.1 r h'.1.2]
    exact hq (.bl _) _ H (.refl H) rfl h'.2
  | str s =>
    cases x with
    | str t =>
      cases rx
      cases ry
      exact .inr ⟨t, s, rfl, rfl, hq (.bl _) _ H (.refl H) rfl h⟩
    | _ => exact h.elim
  | _ => cases x <;> exact h.elim
theorem ok_notIn : OpOk Z (rNotInAll Z.K) oNotIn := by
  intro σ ρ H G x y v u Qd Q ok rx ry h hq
  cases y with
  | tup ds =>
    obtain ⟨a, vs, rfl, q, r⟩ := ry
    have h' : (flatD x = true ∧ ds.all flatD = true) ∧ Qd (.bl (!(ds.any fun y => eqD y x))) := by cases x <;> exact h
    refine .inl ⟨a, vs, rfl, .inr (vis_sqT q), rx.flat h'.1.1, r.flat h'.1.2, ?_⟩
    rw [if_pos rfl, any_eqV rx h'.1.1 r h'.1.2]
    exact hq (.bl _) _ H (.refl H) rfl h'.2
  | lst ds =>
    obtain ⟨a, vs, rfl, q, r⟩ := ry
    have h' : (flatD x = true ∧ ds.all flatD = true) ∧ Qd (.bl (!(ds.any fun y => eqD y x))) := by cases x <;> exact h
    refine .inl ⟨a, vs, rfl, .inl (.of (vis_some.mp q).2), rx.flat h'.1.1, r.flat h'.1.2, ?_⟩
    rw [if_pos rfl, any_eqV rx h'.1.1 r h'.1.2]
    exact hq (.bl _) _ H (.refl H) rfl h'.2
  | str s =>
    cases x with
    | str t =>
      cases rx
      cases ry
      exact .inr ⟨t, s, rfl, rfl, hq (.bl _) _ H (.refl H) rfl h⟩
    | _ => exact h.elim
  | _ => cases x <;> exact h.elim
theorem okD_mono : ∀ (n m : Nat) (d : D), n ≤ m → okD n d = true → okD m d = true
  | n, m, .non, _, _ => by cases m <;> rfl
  | n, m, .bl _, _, _ => by cases m <;> rfl
  | n, m, .int _, _, _ => by cases m <;> rfl
  | n, m, .str x, _, h => by
    have h' : PyData.strOk x = true := by cases n <;> exact h
    cases m <;> exact h'
  | 0, _, .tup ds, _, h => by simp [okD] at h
  | 0, _, .lst ds, _, h => by simp [okD] at h
  | n + 1, 0, .tup ds, k, _ => by omega
  | n + 1, 0, .lst ds, k, _ => by omega
  | n + 1, m + 1, .tup ds, k, h => by
    simp only [okD, List.all_eq_true] at h ⊢
    exact fun d hd => okD_mono n m d (by omega) (h d hd)
  | n + 1, m + 1, .lst ds, k, h => by
    simp only [okD, List.all_eq_true] at h ⊢
    exact fun d hd => okD_mono n m d (by omega) (h d hd)
  | n, _, .scr _, _, h => by cases n <;> simp [okD] at h
  | n, _, .glo _, _, h => by cases n <;> simp [okD] at h
  | n, _, .ty _, _, h => by cases n <;> simp [okD] at h
theorem any_py {x : D} (hx : bare x = true) : ∀ ds : List D, bareL ds = true → (D.pyL ds).any (fun z => PyData.eqv z x.py) = ds.any fun y => eqD y x
  | [], _ => rfl
  | d :: ds, h => by
    simp only [bareL, Bool.and_eq_true] at h
    simp only [D.pyL, List.any_cons, eqD_py d x h.1 hx, any_py hx ds h.2]
theorem ok_inL : OpOk Z (rInD Z.K) oInL := by
  intro σ ρ H G x y v u Qd Q ok rx ry h hq
  cases y with
  | lst ds =>
    obtain ⟨⟨h1, h2⟩, h3⟩ := h
    have hx := okD_mono 50 60 x (by decide) h1
    have hd : okD 60 (.lst ds) = true := by
      simp only [okD, List.all_eq_true] at h2 ⊢
      exact fun d q => okD_mono 50 59 d (by decide) (h2 d q)
    have b1 := okD_bare _ _ hx
    have b2 := okD_bare _ _ hd
    refine ⟨x.py, D.pyL ds, Rp.dp x v b1 rx, Rp.dp (.lst ds) u b2 ry, okD_shaped hx, okD_shaped hd, ?_⟩
    rw [any_py b1 ds (by simpa [bare] using b2)]
    exact hq (.bl _) _ H (.refl H) rfl h3
  | _ => exact h.elim
theorem ok_notInL : OpOk Z (rNotInD Z.K) oNotInL := by
  intro σ ρ H G x y v u Qd Q ok rx ry h hq
  cases y with
  | lst ds =>
    obtain ⟨⟨h1, h2⟩, h3⟩ := h
    have hx := okD_mono 50 60 x (by decide) h1
    have hd : okD 60 (.lst ds) = true := by
      simp only [okD, List.all_eq_true] at h2 ⊢
      exact fun d q => okD_mono 50 59 d (by decide) (h2 d q)
    have b1 := okD_bare _ _ hx
    have b2 := okD_bare _ _ hd
    refine ⟨x.py, D.pyL ds, Rp.dp x v b1 rx, Rp.dp (.lst ds) u b2 ry, okD_shaped hx, okD_shaped hd, ?_⟩
    rw [any_py b1 ds (by simpa [bare] using b2)]
    exact hq (.bl _) _ H (.refl H) rfl h3
  | _ => exact h.elim
end
/-! ### chains of two comparisons; the one-place operators -/
def dChain (f g : O2) (a b c : DE) : DE := fun ρ Q E => a ρ (fun x ρ1 => b ρ1 (fun y ρ2 => f x y fun z => ∃ k, z = .bl k ∧
  if k = true then c ρ2 (fun w ρ3 => g y w fun r => Q r ρ3) E else Q (.bl false) ρ2) E) E
def dUn (f : D → (D → Prop) → Prop) (a : DE) : DE := fun ρ Q E => a ρ (fun x ρ1 => f x fun z => Q z ρ1) E
def oNeg : D → (D → Prop) → Prop
  | .int i, Q => Q (.int (-i))
  | _, _ => False
section
variable {X : Cx} {Z : Zx} {W : WX}
theorem Rp.bl_of {H : Hp} {k : Bool} {v : V} (r : Rp Z H (.bl k) v) : v = .bl k := r
theorem up_chain [GoodJ Z] {r r' : R2} {f g : O2} (kf : OpOk Z r f) (kg : OpOk Z r' g) {a b c : DE} (σ : L2.St) (H : Hp) (Q : VK) (h : upE Z W (dChain f g a b c) σ H Q) : tChain r r' (upE Z W a) (upE Z W b) (upE Z W c) σ H Q := by
  obtain ⟨ρ, G, Qd, E, ok, h, hq, hx⟩ := h
  refine ⟨ρ, G, _, E, ok, h, fun x v ρ1 H1 ok1 s1 r1 h1 => ?_, hx⟩
  refine ⟨ρ1, G, _, E, ok1, h1, fun y u ρ2 H2 ok2 s2 r2 h2 => ?_, hx.step s1⟩
  refine kf σ ρ2 H2 G x y v u _ _ ok2 (r1.sub s2.vis) r2 h2 fun d w H3 sm r3 q3 => ?_
  obtain ⟨k, ek, q⟩ := q3
  subst ek
  refine ⟨k, r3, ?_⟩
  have s3 : Stp Z σ ρ H σ ρ2 H3 := (s1.trans s2).trans (.ext sm)
  cases k with
  | false =>
    rw [if_neg (by decide)] at q ⊢
    exact hq (.bl false) _ ρ2 H3 (ok2.ext sm) s3 rfl q
  | true =>
    rw [if_pos rfl] at q ⊢
    refine ⟨ρ2, G, _, E, ok2.ext sm, q, fun z w2 ρ4 H4 ok4 s4 r4 h4 => ?_, hx.step s3⟩
    exact kg σ ρ4 H4 G y z u w2 _ Q ok4 ((r2.sub (vis_ext sm)).sub s4.vis) r4 h4 fun d w H5 sm5 r5 q5 => hq d w ρ4 H5 (ok4.ext sm5) ((s3.trans s4).trans (.ext sm5)) r5 q5
theorem de_chain [GoodJ Z] {op op' : CmpOp} {r r' : R2} {f g : O2} (kf : OpOk Z r f) (kg : OpOk Z r' g) {a b c : Expr} {ta tb tc : DE} {pos : Pos} (ho : OpR X (compareOp op) r) (ho' : OpR X (compareOp op') r')
    (ha : PE X a (upE Z W ta)) (hb : PE X b (upE Z W tb)) (hc : PE X c (upE Z W tc)) (hm : lastMarks [op, op'] [b, c] = false := by rfl) : PE X (.Compare a [op, op'] [b, c] pos) (upE Z W (dChain f g ta tb tc)) :=
  PE.wk (pe_chain ho ho' ha hb hc hm) (up_chain kf kg)
theorem de_neg {a : Expr} {ta : DE} {pos : Pos} (ha : PE X a (upE Z W ta)) : PE X (.UnaryOp .USub a pos) (upE Z W (dUn oNeg ta)) := PE.wk (pe_un un_neg ha) fun σ H Q ⟨ρ, G, Qd, E, ok, h, hq, hx⟩ => by
  refine ⟨ρ, G, _, E, ok, h, fun x v ρ1 H1 ok1 s1 r1 h1 => ?_, hx⟩
  cases x with
  | int i =>
    cases r1
    exact ⟨i, rfl, hq (.int (-i)) _ ρ1 H1 ok1 s1 rfl h1⟩
  | _ => exact h1.elim
/-! ### tests; and, or, not; a if c else b -/
def dTst (t : DE) : DT := fun ρ Q E => t ρ (fun d ρ' => ∃ b, d = .bl b ∧ Q b ρ') E
def tAndD (t u : DT) : DT := fun ρ Q E => t ρ (fun c ρ1 => if c = true then u ρ1 Q E else Q false ρ1) E
def tOrD (t u : DT) : DT := fun ρ Q E => t ρ (fun c ρ1 => if c = true then Q true ρ1 else u ρ1 Q E) E
def tNotD (t : DT) : DT := fun ρ Q E => t ρ (fun c ρ1 => Q (!c) ρ1) E
def dAnd (a b : DE) : DE := fun ρ Q E => a ρ (fun x ρ1 => ∃ c, x = .bl c ∧ if c = true then b ρ1 Q E else Q (.bl false) ρ1) E
def dOr (a b : DE) : DE := fun ρ Q E => a ρ (fun x ρ1 => ∃ c, x = .bl c ∧ if c = true then Q (.bl true) ρ1 else b ρ1 Q E) E
def dNot (a : DE) : DE := fun ρ Q E => a ρ (fun x ρ1 => ∃ c, x = .bl c ∧ Q (.bl (!c)) ρ1) E
def dIf (t : DT) (a b : DE) : DE := fun ρ Q E => t ρ (fun c ρ1 => if c = true then a ρ1 Q E else b ρ1 Q E) E
theorem up_tst {t : DE} (σ : L2.St) (H : Hp) (Q : Bool → Hp → Prop) (h : upT Z W (dTst t) σ H Q) : tB (upE Z W t) σ H Q := by
  obtain ⟨ρ, G, Qd, E, ok, h, hq, hx⟩ := h
  refine ⟨ρ, G, _, E, ok, h, fun x v ρ1 H1 ok1 s1 r1 h1 => ?_, hx⟩
  obtain ⟨b, e, q⟩ := h1
  subst e
  exact ⟨b, r1, hq b ρ1 H1 ok1 s1 q⟩
theorem dt_val {e : Expr} {t : DE} (h : PE X e (upE Z W t)) (he : ∀ whole, isTrue e X.env whole = (do let v ← whole; standAt e.pos; holding [v] (truthy v)) := by intro _; rfl) : PT X e (upT Z W (dTst t)) := PT.wk (pt_val h he) up_tst
theorem dt_cmp [GoodJ Z] {op : CmpOp} {r : R2} {f : O2} (k : OpOk Z r f) {a b : Expr} {ta tb : DE} {pos : Pos} (ho : OpR X (compareOp op) r) (ha : PE X a (upE Z W ta)) (hb : PE X b (upE Z W tb)) (hm : behindInMarks op b = false) :
    PT X (.Compare a [op] [b] pos) (upT Z W (dTst (dOp f ta tb))) := PT.wk (pt_cmpR ho ha hb hm) fun σ H Q ⟨ρ, G, Qd, E, ok, h, hq, hx⟩ =>
  up_op k σ H _ ⟨ρ, G, _, E, ok, h, fun x v ρ1 H1 ok1 s1 r1 ⟨b, e, q⟩ => by subst e; exact ⟨b, r1, hq b ρ1 H1 ok1 s1 q⟩, hx⟩
theorem dt_chain [GoodJ Z] {op op' : CmpOp} {r r' : R2} {f g : O2} (kf : OpOk Z r f) (kg : OpOk Z r' g) {a b c : Expr} {ta tb tc : DE} {pos : Pos} (ho : OpR X (compareOp op) r) (ho' : OpR X (compareOp op') r')
    (ha : PE X a (upE Z W ta)) (hb : PE X b (upE Z W tb)) (hc : PE X c (upE Z W tc)) (hm : lastMarks [op, op'] [b, c] = false := by rfl) : PT X (.Compare a [op, op'] [b, c] pos) (upT Z W (dTst (dChain f g ta tb tc))) :=
  PT.wk (pt_chain ho ho' ha hb hc hm) fun σ H Q ⟨ρ, G, Qd, E, ok, h, hq, hx⟩ =>
  up_chain kf kg σ H _ ⟨ρ, G, _, E, ok, h, fun x v ρ1 H1 ok1 s1 r1 ⟨b, e, q⟩ => by subst e; exact ⟨b, r1, hq b ρ1 H1 ok1 s1 q⟩, hx⟩
theorem dt_not {a : Expr} {ta : DT} {pos : Pos} (ha : PT X a (upT Z W ta)) : PT X (.UnaryOp .Not a pos) (upT Z W (tNotD ta)) := PT.wk (pt_not ha) fun σ H Q ⟨ρ, G, Qd, E, ok, h, hq, hx⟩ =>
  ⟨ρ, G, _, E, ok, h, fun b ρ1 H1 ok1 s1 h1 => hq (!b) ρ1 H1 ok1 s1 h1, hx⟩
theorem dw_and1 {a : Expr} {ta : DT} {pos : Pos} (ha : PT X a (upT Z W ta)) : PW X (.BoolOp .And [a] pos) (upT Z W ta) := pw_and1 ha
theorem dw_or1 {a : Expr} {ta : DT} {pos : Pos} (ha : PT X a (upT Z W ta)) : PW X (.BoolOp .Or [a] pos) (upT Z W ta) := pw_or1 ha
theorem dw_and {a b : Expr} {rest : List Expr} {ta tb : DT} {pos : Pos} (ha : PT X a (upT Z W ta)) (hb : PW X (.BoolOp .And (b :: rest) pos) (upT Z W tb)) : PW X (.BoolOp .And (a :: b :: rest) pos) (upT Z W (tAndD ta tb)) :=
  PW.wk (pw_and ha hb) fun σ H Q ⟨ρ, G, Qd, E, ok, h, hq, hx⟩ => by
    refine ⟨ρ, G, _, E, ok, h, fun b ρ1 H1 ok1 s1 h1 => ?_, hx⟩
    cases b with
    | true =>
      rw [if_pos rfl] at h1 ⊢
      exact ⟨ρ1, G, Qd, E, ok1, h1, fun c ρ2 H2 ok2 s2 q => hq c ρ2 H2 ok2 (s1.trans s2) q, hx.step s1⟩
    | false =>
      rw [if_neg (by decide)] at h1 ⊢
      exact hq false ρ1 H1 ok1 s1 h1
theorem dw_or {a b : Expr} {rest : List Expr} {ta tb : DT} {pos : Pos} (ha : PT X a (upT Z W ta)) (hb : PW X (.BoolOp .Or (b :: rest) pos) (upT Z W tb)) : PW X (.BoolOp .Or (a :: b :: rest) pos) (upT Z W (tOrD ta tb)) :=
  PW.wk (pw_or ha hb) fun σ H Q ⟨ρ, G, Qd, E, ok, h, hq, hx⟩ => by
    refine ⟨ρ, G, _, E, ok, h, fun b ρ1 H1 ok1 s1 h1 => ?_, hx⟩
    cases b with
    | false =>
      rw [if_neg (by decide)] at h1 ⊢
      exact ⟨ρ1, G, Qd, E, ok1, h1, fun c ρ2 H2 ok2 s2 q => hq c ρ2 H2 ok2 (s1.trans s2) q, hx.step s1⟩
    | true =>
      rw [if_pos rfl] at h1 ⊢
      exact hq true ρ1 H1 ok1 s1 h1
theorem de_one {a : Expr} {op : BoolOp} {ta : DE} {pos : Pos} (ha : PE X a (upE Z W ta)) : PE X (.BoolOp op [a] pos) (upE Z W ta) := pe_one ha
theorem de_and {a b : Expr} {rest : List Expr} {ta tb : DE} {pos : Pos} (ha : PE X a (upE Z W ta)) (hb : PE X (.BoolOp .And (b :: rest) pos) (upE Z W tb)) : PE X (.BoolOp .And (a :: b :: rest) pos) (upE Z W (dAnd ta tb)) :=
  PE.wk (pe_and ha hb) fun σ H Q ⟨ρ, G, Qd, E, ok, h, hq, hx⟩ => by
    refine ⟨ρ, G, _, E, ok, h, fun x v ρ1 H1 ok1 s1 r1 h1 => ?_, hx⟩
    obtain ⟨c, e, q⟩ := h1
    subst e
    refine ⟨c, r1, ?_⟩
    cases c with
    | true =>
      rw [if_pos rfl] at q ⊢
      exact ⟨ρ1, G, Qd, E, ok1, q, fun d w ρ2 H2 ok2 s2 r2 q => hq d w ρ2 H2 ok2 (s1.trans s2) r2 q, hx.step s1⟩
    | false =>
      rw [if_neg (by decide)] at q ⊢
      exact hq (.bl false) _ ρ1 H1 ok1 s1 rfl q
theorem de_or {a b : Expr} {rest : List Expr} {ta tb : DE} {pos : Pos} (ha : PE X a (upE Z W ta)) (hb : PE X (.BoolOp .Or (b :: rest) pos) (upE Z W tb)) : PE X (.BoolOp .Or (a :: b :: rest) pos) (upE Z W (dOr ta tb)) :=
  PE.wk (pe_or ha hb) fun σ H Q ⟨ρ, G, Qd, E, ok, h, hq, hx⟩ => by
    refine ⟨ρ, G, _, E, ok, h, fun x v ρ1 H1 ok1 s1 r1 h1 => ?_, hx⟩
    obtain ⟨c, e, q⟩ := h1
    subst e
    refine ⟨c, r1, ?_⟩
    cases c with
    | false =>
      rw [if_neg (by decide)] at q ⊢
      exact ⟨ρ1, G, Qd, E, ok1, q, fun d w ρ2 H2 ok2 s2 r2 q => hq d w ρ2 H2 ok2 (s1.trans s2) r2 q, hx.step s1⟩
    | true =>
      rw [if_pos rfl] at q ⊢
      exact hq (.bl true) _ ρ1 H1 ok1 s1 rfl q
theorem de_not {a : Expr} {ta : DE} {pos : Pos} (ha : PE X a (upE Z W ta)) : PE X (.UnaryOp .Not a pos) (upE Z W (dNot ta)) :=
  PE.wk (pe_not ha) fun σ H Q ⟨ρ, G, Qd, E, ok, h, hq, hx⟩ => by
    refine ⟨ρ, G, _, E, ok, h, fun x v ρ1 H1 ok1 s1 r1 h1 => ?_, hx⟩
    obtain ⟨c, e, q⟩ := h1
    subst e
    exact ⟨c, r1, hq (.bl (!c)) _ ρ1 H1 ok1 s1 rfl q⟩
theorem de_ifE {c a b : Expr} {tc : DT} {ta tb : DE} {pos : Pos} (hc : PT X c (upT Z W tc)) (ha : PE X a (upE Z W ta)) (hb : PE X b (upE Z W tb)) : PE X (.IfExp c a b pos) (upE Z W (dIf tc ta tb)) :=
  PE.wk (pe_ifExp hc ha hb) fun σ H Q ⟨ρ, G, Qd, E, ok, h, hq, hx⟩ => by
    refine ⟨ρ, G, _, E, ok, h, fun b ρ1 H1 ok1 s1 h1 => ?_, hx⟩
    cases b with
    | true =>
      rw [if_pos rfl] at h1 ⊢
      exact ⟨ρ1, G, Qd, E, ok1, h1, fun d w ρ2 H2 ok2 s2 r2 q => hq d w ρ2 H2 ok2 (s1.trans s2) r2 q, hx.step s1⟩
    | false =>
      rw [if_neg (by decide)] at h1 ⊢
      exact ⟨ρ1, G, Qd, E, ok1, h1, fun d w ρ2 H2 ok2 s2 r2 q => hq d w ρ2 H2 ok2 (s1.trans s2) r2 q, hx.step s1⟩
end
/-! ### slices -/
abbrev DO := Rho → (Option Int → Rho → Prop) → EQ → Prop
def upO (Z : Zx) (W : WX) (t : DO) : TO := fun σ H Q => ∃ ρ G Qd E, Ok Z σ ρ H G ∧ t ρ Qd E ∧
  (∀ b ρ' H', Ok Z σ ρ' H' G → Stp Z σ ρ H σ ρ' H' → Qd b ρ' → Q b H') ∧ XPE Z W σ ρ H G E
def oNo : DO := fun ρ Q _ => Q none ρ
def oSome (t : DE) : DO := fun ρ Q E => t ρ (fun d ρ' => ∃ i, d = .int i ∧ Q (some i) ρ') E
/-- xs[lo:hi] of plain lists -/
def cut {α : Type} (xs : List α) (lo hi : Option Int) : List α := (xs.drop (HT.sIx xs.length 0 lo)).take (HT.sIx xs.length xs.length hi - HT.sIx xs.length 0 lo)
def oSl : D → Option Int → Option Int → (D → Prop) → Prop
  | .tup ds, lo, hi, Q => Q (.tup (cut ds lo hi))
  | .lst ds, lo, hi, Q => Q (.lst (cut ds lo hi))
  | _, _, _, _ => False
def dSl (t : DE) (lo hi : DO) : DE := fun ρ Q E => t ρ (fun x ρ1 => lo ρ1 (fun l ρ2 => hi ρ2 (fun h ρ3 => oSl x l h fun z => Q z ρ3) E) E) E
section
variable {X : Cx} {Z : Zx} {W : WX}
theorem do_none : PO X none (upO Z W oNo) := ⟨fun pins s σ H Q I ⟨ρ, G, Qd, E, ok, h, hq, hx⟩ => po_none.run pins s σ H Q I (hq none ρ H ok .refl h)⟩
theorem do_some {e : Expr} {t : DE} (h : PE X e (upE Z W t)) : PO X (some e) (upO Z W (oSome t)) := ⟨fun pins s σ H Q I ⟨ρ, G, Qd, E, ok, hh, hq, hx⟩ => (po_some h).run pins s σ H Q I (by
  refine ⟨ρ, G, _, E, ok, hh, fun x v ρ1 H1 ok1 s1 r1 h1 => ?_, hx⟩
  obtain ⟨i, e, q⟩ := h1
  subst e
  exact ⟨i, r1, hq (some i) ρ1 H1 ok1 s1 q⟩)⟩
def rSlAll (K : PySem.W.Frag) : V → Option Int → Option Int → Hp → VK → Prop := fun x lo hi H Q => rSlL K x lo hi H Q ∨ rSlA K x lo hi H Q
theorem or_sl : SlR X (rSlAll X.K) := sl_list.or sl_tupA
theorem RpL.cut {A : Hp} {ds : List D} {vs : List V} (r : RpL Z A ds vs) (lo hi : Option Int) : RpL Z A (TS.cut ds lo hi) (cutV vs lo hi) := by
  unfold TS.cut cutV
  rw [r.len]
  exact (r.drop _).take _
theorem sIx_le' (n d : Nat) (hd : d ≤ n) (o : Option Int) : HT.sIx n d o ≤ n := HT.sIx_le n d hd o
theorem cut_whole {α : Type} {xs : List α} {lo hi : Option Int} (h : HT.sIx xs.length 0 lo = 0 ∧ HT.sIx xs.length xs.length hi = xs.length) : cut xs lo hi = xs := by
  unfold cut
  rw [h.1, h.2]
  simp
theorem de_slice [GoodJ Z] [F : Fit X Z] {e : Expr} {lo hi : Option Expr} {t : DE} {tl th : DO} {pos p2 : Pos} (he : PE X e (upE Z W t)) (hl : PO X lo (upO Z W tl)) (hh : PO X hi (upO Z W th)) :
    PE X (.Subscript e (.Slice lo hi none p2) pos) (upE Z W (dSl t tl th)) := PE.wk (pe_slice or_sl he hl hh) fun σ H Q ⟨ρ, G, Qd, E, ok, h, hq, hx⟩ => by
  refine ⟨ρ, G, _, E, ok, h, fun x v ρ1 H1 ok1 s1 r1 h1 => ?_, hx⟩
  refine ⟨ρ1, G, _, E, ok1, h1, fun l ρ2 H2 ok2 s2 h2 => ?_, hx.step s1⟩
  refine ⟨ρ2, G, _, E, ok2, h2, fun u ρ3 H3 ok3 s3 h3 => ?_, hx.step (s1.trans s2)⟩
  have r3 := (r1.sub s2.vis).sub s3.vis
  have st := (s1.trans s2).trans s3
  rw [F.K]
  cases x with
  | tup ds =>
    obtain ⟨a, vs, rfl, q, r⟩ := r3
    refine .inr ⟨a, vs, rfl, vis_sqT q, fun hw => ?_, fun _ p hp => ?_⟩
    · have e : cut ds l u = ds := cut_whole (by rw [r.len]; exact hw)
      have h4 : Qd (.tup (cut ds l u)) ρ3 := h3
      rw [e] at h4
      exact hq (.tup ds) _ ρ3 H3 ok3 st ⟨a, vs, rfl, q, r⟩ h4
    · exact hq (.tup (cut ds l u)) _ ρ3 _ (ok3.ext (same_upd hp)) (st.trans (.ext (same_upd hp))) ⟨p, _, rfl, .of (ok3.freshV hp), (r.cut l u).sub (vis_ext (same_upd hp))⟩ h3
  | lst ds =>
    obtain ⟨a, vs, rfl, q, r⟩ := r3
    refine .inl ⟨a, vs, rfl, .of (vis_some.mp q).2, fun p hp => ?_⟩
    exact hq (.lst (cut ds l u)) _ ρ3 _ (ok3.ext (same_upd hp)) (st.trans (.ext (same_upd hp))) ⟨p, _, rfl, ok3.freshV hp, (r.cut l u).sub (vis_ext (same_upd hp))⟩ h3
  | _ => exact h3.elim
end
end TS
set_option Elab.async false
set_option linter.all false
set_option maxRecDepth 100000
set_option maxHeartbeats 4000000
set_option exponentiation.threshold 10000
namespace TS
open PySem PySem.Spec PyProof.Rows L2
/-! ### built-in functions and types, called -/
abbrev OC := List D → (D → Prop) → Prop
def CallOk (Z : Zx) (r : List V → Hp → VK → Prop) (f : OC) : Prop := ∀ (σ : L2.St) (ρ : Rho) (H : Hp) (G : Addr → Prop) (ds : List D) (vs : List V) (Qd : D → Prop) (Q : VK), Ok Z σ ρ H G → RpL Z (vis H (Hid ρ σ G)) ds vs → f ds Qd →
  (∀ d w H', Same H H' → Rp Z (vis H' (Hid ρ σ G)) d w → Qd d → Q w H') → r vs H Q
def dCB (f : OC) (t : DA) : DE := fun ρ Q E => t ρ (fun ds ρ1 => f ds fun d => Q d ρ1) E
section
variable {X : Cx} {Z : Zx} {W : WX}
theorem up_cb [GoodJ Z] {r : List V → Hp → VK → Prop} {f : OC} (k : CallOk Z r f) {t : DA} (σ : L2.St) (H : Hp) (Q : VK) (h : upE Z W (dCB f t) σ H Q) : tCB r (upA Z W t) σ H Q := by
  obtain ⟨ρ, G, Qd, E, ok, h, hq, hx⟩ := h
  refine ⟨ρ, G, _, E, ok, h, fun ds vs ρ1 H1 ok1 s1 r1 h1 => ?_, hx⟩
  exact k σ ρ1 H1 G ds vs _ Q ok1 r1 h1 fun d w H2 sm r2 q2 => hq d w ρ1 H2 (ok1.ext sm) (s1.trans (.ext sm)) r2 q2
theorem de_callB [GoodJ Z] [F : Fit X Z] {x : Str} {id : String} {e : Expr} {es : List Expr} {r : List V → Hp → VK → Prop} {f : OC} (k : CallOk Z r f) {t : DA} {p pos : Pos} (hc : CallR X (.builtin id) r) (hm : Z.mg x = none) (hv : bootBuiltins x = some (.builtin id)) (ha : PA X (e :: es) (upA Z W t)) (hg : Gl X x := by rfl)
    (hn : x ≠ "__name__" := by decide) (hdb : (x == ("__debug__" : Str)) = false := by decide) (he : starEach (e :: es) X.env = (false, eval e X.env) :: starEach es X.env := by rfl) (hpl : (backTo pos (starEach es X.env)).any (·.1) = false := by rfl) :
    PE X (.Call (.Name x p) (e :: es) [] pos) (upE Z W (dCB f t)) := PE.wk (pe_callB hc hg (by rw [F.mg]; exact hm) hv ha hn hdb he hpl) (up_cb k)
theorem de_callTy [GoodJ Z] [F : Fit X Z] {x : Str} {T : String} {e : Expr} {es : List Expr} {r : List V → Hp → VK → Prop} {f : OC} (k : CallOk Z r f) {t : DA} {p pos : Pos} (hc : CallR X (.type T) r) (hm : Z.mg x = none) (hv : bootBuiltins x = some (.type T)) (ha : PA X (e :: es) (upA Z W t)) (hg : Gl X x := by rfl)
    (hn : x ≠ "__name__" := by decide) (hdb : (x == ("__debug__" : Str)) = false := by decide) (he : starEach (e :: es) X.env = (false, eval e X.env) :: starEach es X.env := by rfl) (hpl : (backTo pos (starEach es X.env)).any (·.1) = false := by rfl) :
    PE X (.Call (.Name x p) (e :: es) [] pos) (upE Z W (dCB f t)) := PE.wk (pe_callTy hc hg (by rw [F.mg]; exact hm) hv ha hn hdb he hpl) (up_cb k)
/-- the name of a built-in type as a value -/
theorem de_tyN [F : Fit X Z] {x : Str} {n : String} {pos : Pos} (hm : Z.mg x = none) (hv : bootBuiltins x = some (.type n)) (hg : Gl X x := by rfl) (hn : x ≠ "__name__" := by decide) (hd : (x == ("__debug__" : Str)) = false := by decide) :
    PE X (.Name x pos) (upE Z W (dC (.ty n))) := PE.wk (pe_bltn (v := .ty n) hg (by rw [F.mg]; exact hm) hv rfl hn hd) (up_c fun _ => rfl)
end
def fLen : OC
  | [.tup ds], Q => Q (.int ds.length)
  | [.lst ds], Q => Q (.int ds.length)
  | [.scr ns], Q => Q (.int ns.length)
  | [.str x], Q => x.length ≤ LIM ∧ Q (.int x.length)
  | _, _ => False
def fInt : OC
  | [.int i], Q => Q (.int i)
  | [.bl b], Q => Q (.int (if b then 1 else 0))
  | _, _ => False
def fAbs : OC
  | [.int i], Q => Q (.int (if i < 0 then -i else i))
  | _, _ => False
def fMax2 : OC
  | [.int i, .int j], Q => Q (.int (if j > i then j else i))
  | _, _ => False
def fMin2 : OC
  | [.int i, .int j], Q => Q (.int (if j < i then j else i))
  | _, _ => False
def fStrI : OC
  | [.int i], Q => i.natAbs.log2 < 1920 ∧ Q (.str (toString i))
  | _, _ => False
def fTuple : OC
  | [.tup ds], Q => Q (.tup ds)
  | [.lst ds], Q => Q (.tup ds)
  | _, _ => False
def fList : OC
  | [.tup ds], Q => Q (.lst ds)
  | [.lst ds], Q => Q (.lst ds)
  | _, _ => False
def fSum : OC
  | [.lst ds], Q => ∃ ns : List Int, ds = ns.map D.int ∧ Q (.int ns.sum)
  | _, _ => False
/-- isinstance of data against int, bool, str, tuple, list -/
def tyOf : D → Option String
  | .non => some "NoneType"
  | .bl _ => some "bool"
  | .int _ => some "int"
  | .str _ => some "str"
  | .tup _ => some "tuple"
  | .lst _ => some "list"
  | _ => none
def tyNames : List String := ["int", "bool", "str", "tuple", "list"]
def isTy (d : D) (n : String) : Option Bool := match tyOf d with
  | some t => if n ∈ tyNames then some (t == n || (t == "bool" && n == "int")) else none
  | none => none
theorem kit_all : ∀ t ∈ ("NoneType" :: tyNames), ∀ n ∈ tyNames, kitB t n = some (t == n || (t == "bool" && n == "int")) := by decide +kernel
theorem tyOf_mem {d : D} {t : String} (h : tyOf d = some t) : t ∈ ("NoneType" :: tyNames) := by
  cases d <;> first | (cases h; decide) | cases h
def fIsi : OC
  | [x, .ty n], Q => ∃ b, isTy x n = some b ∧ Q (.bl b)
  | _, _ => False
section
variable {X : Cx} {Z : Zx}
theorem RpL.one {A : Hp} {d : D} {vs : List V} (r : RpL Z A [d] vs) : ∃ v, vs = [v] ∧ Rp Z A d v := by
  match vs, r with
  | [v], r => exact ⟨v, rfl, r.1⟩
  | [], r => exact r.elim
  | _ :: _ :: _, r => exact r.2.elim
theorem RpL.two {A : Hp} {d e : D} {vs : List V} (r : RpL Z A [d, e] vs) : ∃ v u, vs = [v, u] ∧ Rp Z A d v ∧ Rp Z A e u := by
  match vs, r with
  | [v, u], r => exact ⟨v, u, rfl, r.1, r.2.1⟩
  | [], r => exact r.elim
  | [_], r => exact r.2.elim
  | _ :: _ :: _ :: _, r => exact r.2.2.elim
theorem cb_len : CallOk Z (fun xs H Q => ∃ x n, xs = [x] ∧ LenV Z.K x H n ∧ Q (.int n) H) fLen := by
  intro σ ρ H G ds vs Qd Q ok r h hq
  unfold fLen at h
  split at h
  · obtain ⟨v, rfl, a, ws, rfl, q, r1⟩ := r.one
    exact ⟨_, _, rfl, .inr ⟨ws, vis_sqT q, r1.len⟩, hq (.int _) _ H (.refl H) rfl h⟩
  · obtain ⟨v, rfl, a, ws, rfl, q, r1⟩ := r.one
    exact ⟨_, _, rfl, .inl ⟨ws, .of (vis_some.mp q).2, r1.len⟩, hq (.int _) _ H (.refl H) rfl h⟩
  · obtain ⟨v, rfl, a, rfl, q⟩ := r.one
    exact ⟨_, _, rfl, .inl ⟨_, vis_sqL q, (List.length_map _).symm⟩, hq (.int _) _ H (.refl H) rfl h⟩
  · obtain ⟨v, rfl, e⟩ := r.one
    cases e
    exact ⟨_, _, rfl, ⟨Nat.le_trans h.1 LIM_le, rfl⟩, hq (.int _) _ H (.refl H) rfl h.2⟩
  · exact h.elim
theorem cb_int : CallOk Z (fun xs H Q => (∃ i, xs = [.int i] ∧ Q (.int i) H) ∨ ∃ k, xs = [.bl k] ∧ Q (.int (if k then 1 else 0)) H) fInt := by
  intro σ ρ H G ds vs Qd Q ok r h hq
  unfold fInt at h
  split at h
  · obtain ⟨v, rfl, e⟩ := r.one
    cases e
    exact .inl ⟨_, rfl, hq (.int _) _ H (.refl H) rfl h⟩
  · obtain ⟨v, rfl, e⟩ := r.one
    cases e
    exact .inr ⟨_, rfl, hq (.int _) _ H (.refl H) rfl h⟩
  · exact h.elim
theorem cb_abs : CallOk Z (fun xs H Q => ∃ i, xs = [.int i] ∧ Q (.int (if i < 0 then -i else i)) H) fAbs := by
  intro σ ρ H G ds vs Qd Q ok r h hq
  unfold fAbs at h
  split at h
  · obtain ⟨v, rfl, e⟩ := r.one
    cases e
    exact ⟨_, rfl, hq (.int _) _ H (.refl H) rfl h⟩
  · exact h.elim
theorem cb_max2 : CallOk Z (fun xs H Q => ∃ i j, xs = [.int i, .int j] ∧ Q (.int (if j > i then j else i)) H) fMax2 := by
  intro σ ρ H G ds vs Qd Q ok r h hq
  unfold fMax2 at h
  split at h
  · obtain ⟨v, u, rfl, e1, e2⟩ := r.two
    cases e1
    cases e2
    exact ⟨_, _, rfl, hq (.int _) _ H (.refl H) rfl h⟩
  · exact h.elim
theorem cb_min2 : CallOk Z (fun xs H Q => ∃ i j, xs = [.int i, .int j] ∧ Q (.int (if j < i then j else i)) H) fMin2 := by
  intro σ ρ H G ds vs Qd Q ok r h hq
  unfold fMin2 at h
  split at h
  · obtain ⟨v, u, rfl, e1, e2⟩ := r.two
    cases e1
    cases e2
    exact ⟨_, _, rfl, hq (.int _) _ H (.refl H) rfl h⟩
  · exact h.elim
theorem cb_strI : CallOk Z (fun xs H Q => ∃ i, xs = [.int i] ∧ i.natAbs.log2 < 1920 ∧ Q (.str (toString i)) H) fStrI := by
  intro σ ρ H G ds vs Qd Q ok r h hq
  unfold fStrI at h
  split at h
  · obtain ⟨v, rfl, e⟩ := r.one
    cases e
    exact ⟨_, rfl, h.1, hq (.str _) _ H (.refl H) rfl h.2⟩
  · exact h.elim
theorem cb_tuple : CallOk Z (fun xs H Q => ∃ p ys, xs = [.ref p] ∧ ((SqL Z.K H p ys ∧ ∀ l, H l = none → Q (.ref l) (upd H l (.tup ys))) ∨ (SqT Z.K H p ys ∧ Q (.ref p) H))) fTuple := by
  intro σ ρ H G ds vs Qd Q ok r h hq
  unfold fTuple at h
  split at h
  · obtain ⟨v, rfl, a, ws, rfl, q, r1⟩ := r.one
    exact ⟨a, ws, rfl, .inr ⟨vis_sqT q, hq (.tup _) _ H (.refl H) ⟨a, ws, rfl, q, r1⟩ h⟩⟩
  · obtain ⟨v, rfl, a, ws, rfl, q, r1⟩ := r.one
    exact ⟨a, ws, rfl, .inl ⟨.of (vis_some.mp q).2, fun p hp => hq (.tup _) _ _ (same_upd hp) ⟨p, ws, rfl, .of (ok.freshV hp), r1.sub (vis_ext (same_upd hp))⟩ h⟩⟩
  · exact h.elim
theorem cb_list : CallOk Z (fun xs H Q => ∃ p ys, xs = [.ref p] ∧ (SqL Z.K H p ys ∨ SqT Z.K H p ys) ∧ ∀ l, H l = none → Q (.ref l) (upd H l (.lst ys))) fList := by
  intro σ ρ H G ds vs Qd Q ok r h hq
  unfold fList at h
  split at h
  · obtain ⟨v, rfl, a, ws, rfl, q, r1⟩ := r.one
    exact ⟨a, ws, rfl, .inr (vis_sqT q), fun p hp => hq (.lst _) _ _ (same_upd hp) ⟨p, ws, rfl, ok.freshV hp, r1.sub (vis_ext (same_upd hp))⟩ h⟩
  · obtain ⟨v, rfl, a, ws, rfl, q, r1⟩ := r.one
    exact ⟨a, ws, rfl, .inl (.of (vis_some.mp q).2), fun p hp => hq (.lst _) _ _ (same_upd hp) ⟨p, ws, rfl, ok.freshV hp, r1.sub (vis_ext (same_upd hp))⟩ h⟩
  · exact h.elim
theorem RpL.ints {A : Hp} : ∀ {ns : List Int} {vs : List V}, RpL Z A (ns.map D.int) vs → vs = ns.map V.int
  | [], [], _ => rfl
  | n :: ns, v :: vs, r => by
    have e : v = .int n := r.1
    rw [List.map_cons, e, RpL.ints (ns := ns) (vs := vs) r.2]
  | [], _ :: _, r => r.elim
  | _ :: _, [], r => r.elim
theorem cb_sum : CallOk Z (rSum Z.K) fSum := by
  intro σ ρ H G ds vs Qd Q ok r h hq
  unfold fSum at h
  split at h
  · obtain ⟨ns, e, h⟩ := h
    subst e
    obtain ⟨v, rfl, a, ws, rfl, q, r1⟩ := r.one
    rw [r1.ints] at q
    exact ⟨a, ns, rfl, .of (vis_some.mp q).2, hq (.int _) _ H (.refl H) rfl h⟩
  · exact h.elim
theorem Rp.tyx {K : PySem.W.Frag} {H : Hp} {S : Addr → Prop} {d : D} {v : V} {n : String} {b : Bool} (hK : K = Z.K) (r : Rp Z (vis H S) d v) (h : isTy d n = some b) : ∃ t : String, TyX K H v (.type t) ∧ PySem.W.kitOne K (.type t) (.type n) = some b := by
  subst hK
  unfold isTy at h
  cases e : tyOf d with
  | none => rw [e] at h; cases h
  | some t =>
    rw [e] at h
    have h' : (if n ∈ tyNames then some (t == n || (t == "bool" && n == "int")) else none) = some b := h
    by_cases hn : n ∈ tyNames
    · rw [if_pos hn] at h'
      refine ⟨t, ?_, kit_ty ((kit_all t (tyOf_mem e) n hn).trans h')⟩
      cases d with
      | non => cases r; cases e; exact .base .non
      | bl x => cases r; cases e; exact .base (.bl x)
      | int x => cases r; cases e; exact .base (.int x)
      | str x => cases r; cases e; exact .base (.str x)
      | tup ds =>
        obtain ⟨a, vs, rfl, q, _⟩ := r
        cases e
        rcases vis_sqT q with (q | ⟨o, q⟩) | ⟨o, its, n, q, c, _⟩
        · exact .base (.tup q)
        · exact .fTuple q
        · exact .kTuple q c
      | lst ds =>
        obtain ⟨a, vs, rfl, q, _⟩ := r
        cases e
        exact .base (.lst (vis_some.mp q).2)
      | _ => cases e
    · rw [if_neg hn] at h'
      cases h'
theorem cb_isi : CallOk Z (rIsi Z.K) fIsi := by
  intro σ ρ H G ds vs Qd Q ok r h hq
  unfold fIsi at h
  split at h
  · obtain ⟨b, e, h⟩ := h
    obtain ⟨v, u, rfl, e1, e2⟩ := r.two
    cases e2
    obtain ⟨t, h1, h2⟩ := Rp.tyx (K := Z.K) rfl e1 e
    exact ⟨v, _, _, _, b, rfl, .ty _, h1, h2, hq (.bl b) _ H (.refl H) rfl h⟩
  · exact h.elim
end
/-! ### calls of defs: a def's law in plain data -/
abbrev FS := List Sl → (D → List Sl → Prop) → EQ → Prop
/-- the promise that a law in plain data makes -/
def upF (Z : Zx) (n : Nat) (F : FS) : Sp := fun vs H Q E => vs.length = n ∧ ∃ as G Qd Ed, Ok Z (vs.map some) as H G ∧ F as Qd Ed ∧
  (∀ d v as' H', Ok Z (vs.map some) as' H' G → Stp Z (vs.map some) as H (vs.map some) as' H' → Rp Z (vis H' (Hid as' (vs.map some) G)) d v → Qd d as' → Q v H') ∧
  (∀ x c dd as' H', Ok Z (vs.map some) as' H' G → Stp Z (vs.map some) as H (vs.map some) as' H' → Pay Z H' x c dd → Ed x as' → E c dd H')
/-- a def of the text, as its callers know it -/
structure Df (P : Program) (w : World) (base : Heap) (Z : Zx) (k : Nat) (n : Str) (m : Nat) (F : FS) : Prop where
  ex : ∃ (f : Addr) (fd : FuncData) (ps : List Str), FnOk P w Z.K Z.mg base (L2N.CX P w) k f fd ps (upF Z m F) ∧ Z.mg n = some (.ref f) ∧ PySem.W.keepIn Z.K (.ref f) = true ∧ Binds Z.K fd ps []
def vals (ds : List D) : List Sl := ds.map Sl.val
/-- f(e, ..), values alone -/
def dCall (n : Nat) (F : FS) (t : DA) : DE := fun ρ Q E => t ρ (fun ds ρ1 => ds.length = n ∧ F (vals ds) (fun d _ => Q d ρ1) (fun x _ => E x ρ1)) E
/-- f(x, e, ..), x a list that f may change -/
def dCallR (n : Nat) (F : FS) (i : Nat) (t : DA) : DE := fun ρ Q E => (∃ ds0, heldAt ρ i = some ds0) ∧ t ρ (fun ds ρ1 => ds.length + 1 = n ∧ ∃ m, heldAt ρ1 i = some m ∧
  F (.brw m :: vals ds) (fun d as' => ∃ m', as' = .brw m' :: vals ds ∧ Q d (putAt ρ1 i m')) (fun x as' => ∃ m', as' = .brw m' :: vals ds ∧ E x (putAt ρ1 i m'))) E
section
variable {X : Cx} {Z : Zx} {W : WX}
theorem vals_at {ds : List D} {i : Nat} : slAt (vals ds) i = match ds[i]? with | some d => .val d | none => .no := by
  unfold slAt vals
  rw [List.getD_eq_getElem?_getD, List.getElem?_map]
  cases ds[i]? <;> rfl
theorem vals_held {ds : List D} {i : Nat} : heldAt (vals ds) i = none := by
  unfold heldAt
  rw [vals_at]
  cases ds[i]? <;> rfl
theorem vals_ow {ds : List D} {σ : L2.St} {a : Addr} : ¬ Ow (vals ds) σ a := fun ⟨i, xs, e, _⟩ => by
  rw [vals_held] at e
  cases e
theorem hid_ow {as : List Sl} {τ σ : L2.St} {ρ : Rho} {G : Addr → Prop} (n : ∀ a, ¬ Ow as τ a) : Hid as τ (Hid ρ σ G) = Hid ρ σ G := by
  funext a
  exact propext ⟨fun z => z.elim (fun z => z) fun z => (n a z).elim, .inl⟩
theorem Ok.args {σ : L2.St} {ρ : Rho} {H : Hp} {G : Addr → Prop} {ds : List D} {vs : List V} (k : Ok Z σ ρ H G) (r : RpL Z (vis H (Hid ρ σ G)) ds vs) : Ok Z (vs.map some) (vals ds) H (Hid ρ σ G) where
  len := by unfold vals; rw [List.length_map, List.length_map, r.len]
  val := fun i d e => by
    rw [vals_at] at e
    cases q : ds[i]? with
    | none => rw [q] at e; cases e
    | some d' =>
      rw [q] at e
      cases e
      obtain ⟨v, h1, h2⟩ := r.get q
      exact ⟨v, by rw [List.getElem?_map, h1]; rfl, by rw [hid_ow (fun a => vals_ow)]; exact h2⟩
  own := fun i xs e => by rw [vals_held] at e; cases e
  inj := fun i j xs ys a e => by rw [vals_held] at e; cases e
  j := k.j
  gt := fun a z => by
    rcases z with z | ⟨i, xs, e1, e2⟩
    · exact k.gt a z
    · obtain ⟨b, ws, h1, h2, _⟩ := k.own i xs e1
      rw [h1] at e2
      cases e2
      exact ⟨_, h2, fun z => z⟩
/-- behind a call that was handed values alone: the caller's slots stand -/
theorem Ok.back {σ : L2.St} {ρ : Rho} {H H' : Hp} {G : Addr → Prop} {ds : List D} {τ τ' : L2.St} {as' : List Sl} (k : Ok Z σ ρ H G) (s : Stp Z τ (vals ds) H τ' as' H') (j : Z.J H') : Ok Z σ ρ H' G ∧ Stp Z σ ρ H σ ρ H' ∧ Sub (vis H' (Hid as' τ' (Hid ρ σ G))) (vis H' (Hid ρ σ G)) := by
  have keep : ∀ a o, H a = some o → ¬ Tbl o → H' a = some o := fun a o h n => s.keep a o h n vals_ow
  have sub : Sub (vis H (Hid ρ σ G)) (vis H' (Hid ρ σ G)) := vis_sub fun a o h n m => ⟨n, keep a o h m⟩
  refine ⟨⟨k.len, fun i d e => ?_, fun i xs e => ?_, k.inj, j, fun a z => ?_⟩, ⟨fun a o h n _ => keep a o h n, fun _ _ _ _ n => n, fun i xs e => ⟨rfl, xs, e⟩⟩, vis_sub fun a o h n _ => ⟨fun z => n (.inl z), h⟩⟩
  · obtain ⟨v, h1, h2⟩ := k.val i d e
    exact ⟨v, h1, h2.sub sub⟩
  · obtain ⟨a, vs, h1, h2, h3, h4⟩ := k.own i xs e
    exact ⟨a, vs, h1, keep a _ h2 (fun z => z), h3.sub sub, h4⟩
  · obtain ⟨o, h1, h2⟩ := k.gt a z
    exact ⟨o, keep a o h1 h2, h2⟩
theorem de_call [F : Fit X Z] {k n : Nat} {x : Str} {e : Expr} {es : List Expr} {f : FS} {t : DA} {p pos : Pos} (d : Df X.prog X.w X.base Z k x n f) (tk : L2N.Takes X W) (hr : Room k X.A) (ha : PA X (e :: es) (upA Z W t)) (hg : Gl X x := by rfl)
    (hdb : (x == ("__debug__" : Str)) = false := by decide) (he : starEach (e :: es) X.env = (false, eval e X.env) :: starEach es X.env := by rfl) (hpl : (backTo pos (starEach es X.env)).any (·.1) = false := by rfl) :
    PE X (.Call (.Name x p) (e :: es) [] pos) (upE Z W (dCall n f t)) := by
  obtain ⟨fa, fd, ps, hF, hm, hk, hb⟩ := d.ex
  have hK := F.K
  have hM := F.mg
  rw [← hK, ← hM] at hF
  refine PE.wk (pe_callS hF hr hg (by rw [hM]; exact hm) (by rw [hK]; exact hk) (by rw [hK]; exact hb) (fun σ => L2N.passAt tk σ) ha hdb he hpl) fun σ H Q ⟨ρ, G, Qd, E, ok, h, hq, hx⟩ => ?_
  refine ⟨ρ, G, _, E, ok, h, fun ds vs ρ1 H1 ok1 s1 r1 h1 => ?_, hx⟩
  obtain ⟨hl', h1⟩ := h1
  refine ⟨by rw [← r1.len]; exact hl', vals ds, Hid ρ1 σ G, _, _, ok1.args r1, h1, fun d v as' H' ok' s' r' q' => ?_, fun x c dd as' H' ok' s' p' q' => ?_⟩
  · obtain ⟨b1, b2, b3⟩ := ok1.back s' ok'.j
    exact hq d v ρ1 H' b1 (s1.trans b2) (r'.sub b3) q'
  · obtain ⟨b1, b2, _⟩ := ok1.back s' ok'.j
    exact hx x c dd ρ1 H' b1 (s1.trans b2) p' q'
/-! a list handed on to be changed -/
theorem ow_brw {m : List D} {ds : List D} {a b : Addr} {vs : List V} : Ow (.brw m :: vals ds) ((V.ref a :: vs).map some) b ↔ b = a := by
  constructor
  · rintro ⟨j, xs, e1, e2⟩
    cases j with
    | zero =>
      have e3 : some (some (V.ref a)) = some (some (V.ref b)) := e2
      cases e3
      rfl
    | succ j =>
      have e3 : heldAt (vals ds) j = some xs := e1
      rw [vals_held] at e3
      cases e3
  · rintro rfl
    exact ⟨0, m, rfl, rfl⟩
theorem hid_brw {σ : L2.St} {ρ : Rho} {G : Addr → Prop} {m ds : List D} {a : Addr} {vs : List V} (h : Ow ρ σ a) : Hid (.brw m :: vals ds) ((V.ref a :: vs).map some) (fun b => Hid ρ σ G b ∧ b ≠ a) = Hid ρ σ G := by
  funext b
  refine propext ⟨fun z => ?_, fun z => ?_⟩
  · rcases z with z | z
    · exact z.1
    · rw [ow_brw.mp z]
      exact .inr h
  · by_cases e : b = a
    · exact .inr (ow_brw.mpr e)
    · exact .inl ⟨z, e⟩
theorem de_callR [F : Fit X Z] {k n i : Nat} {x y : Str} {es : List Expr} {f : FS} {t : DA} {p py pos : Pos} (d : Df X.prog X.w X.base Z k x n f) (tk : L2N.Takes X W) (hr : Room k X.A) (ha : PA X es (upA Z W t)) (hN : X.N[i]? = some y := by rfl)
    (hv : Vis X.env.scope y := by first | exact Or.inl rfl | exact Or.inr (Or.inl rfl) | exact Or.inr (Or.inr rfl)) (hg : Gl X x := by rfl) (hd : (y == ("__debug__" : Str)) = false := by decide) (hcd : (y == ("__classdict__" : Str)) = false := by decide)
    (hdb : (x == ("__debug__" : Str)) = false := by decide) (he : starEach (.Name y py :: es) X.env = (false, eval (.Name y py) X.env) :: starEach es X.env := by rfl) (hpl : (backTo pos (starEach es X.env)).any (·.1) = false := by rfl) :
    PE X (.Call (.Name x p) (.Name y py :: es) [] pos) (upE Z W (dCallR n f i t)) := by
  obtain ⟨fa, fd, ps, hF, hm, hk, hb⟩ := d.ex
  have hK := F.K
  have hM := F.mg
  rw [← hK, ← hM] at hF
  refine PE.wk (pe_callS hF hr hg (by rw [hM]; exact hm) (by rw [hK]; exact hk) (by rw [hK]; exact hb) (fun σ => L2N.passAt tk σ) (pa_cons (pe_var hN hv hd hcd) ha he) hdb he hpl) fun σ H Q ⟨ρ, G, Qd, E, ok, h, hq, hx⟩ => ?_
  obtain ⟨⟨ds0, h0⟩, h⟩ := h
  obtain ⟨a, _, ha0, _⟩ := ok.own i ds0 h0
  refine ⟨.ref a, ha0, ρ, G, _, E, ok, h, fun ds vs ρ1 H1 ok1 s1 r1 h1 => ?_, hx⟩
  obtain ⟨hl, m, hm1, h1⟩ := h1
  have how : Ow ρ1 σ a := ⟨i, m, hm1, ha0⟩
  obtain ⟨a', ws, hb0, hb1, hb2, hb3⟩ := ok1.own i m hm1
  rw [ha0] at hb0
  cases hb0
  have eH : Hid (.brw m :: vals ds) ((V.ref a :: vs).map some) (fun b => Hid ρ1 σ G b ∧ b ≠ a) = Hid ρ1 σ G := hid_brw how
  have okA : Ok Z ((V.ref a :: vs).map some) (.brw m :: vals ds) H1 (fun b => Hid ρ1 σ G b ∧ b ≠ a) := by
    have k0 := ok1.args r1
    refine ⟨by have := k0.len; simp only [List.map_cons, List.length_cons] at this ⊢; omega, fun j e q => ?_, fun j xs q => ?_, fun j l xs ys b q1 q2 q3 q4 => ?_, k0.j, fun b z => ?_⟩
    · cases j with
      | zero => cases q
      | succ j =>
        obtain ⟨v, z1, z2⟩ := k0.val j e q
        refine ⟨v, z1, ?_⟩
        rw [eH]
        rw [hid_ow (fun a => vals_ow)] at z2
        exact z2
    · cases j with
      | zero =>
        cases q
        exact ⟨a, ws, rfl, hb1, by rw [eH]; exact hb2, fun z => z.2 rfl⟩
      | succ j =>
        have q' : heldAt (vals ds) j = some xs := q
        rw [vals_held] at q'
        cases q'
    · cases j with
      | zero =>
        cases l with
        | zero => rfl
        | succ l =>
          have q' : heldAt (vals ds) l = some ys := q2
          rw [vals_held] at q'
          cases q'
      | succ j =>
        have q' : heldAt (vals ds) j = some xs := q1
        rw [vals_held] at q'
        cases q'
    · exact k0.gt b z.1
  have back : ∀ {m' : List D} {H' : Hp}, Ok Z ((V.ref a :: vs).map some) (.brw m' :: vals ds) H' (fun b => Hid ρ1 σ G b ∧ b ≠ a) → Stp Z ((V.ref a :: vs).map some) (.brw m :: vals ds) H1 ((V.ref a :: vs).map some) (.brw m' :: vals ds) H' →
      Ok Z σ (putAt ρ1 i m') H' G ∧ Stp Z σ ρ1 H1 σ (putAt ρ1 i m') H' ∧ Hid (.brw m' :: vals ds) ((V.ref a :: vs).map some) (fun b => Hid ρ1 σ G b ∧ b ≠ a) = Hid (putAt ρ1 i m') σ G := by
    intro m' H' ok' s'
    have keep : ∀ b o, H1 b = some o → ¬ Tbl o → b ≠ a → H' b = some o := fun b o q1 q2 q3 => s'.keep b o q1 q2 fun z => q3 (ow_brw.mp z)
    have eP : Hid (putAt ρ1 i m') σ G = Hid ρ1 σ G := by
      funext b
      exact propext ⟨fun z => z.imp (fun z => z) (Ow_put hm1 b).mp, fun z => z.imp (fun z => z) (Ow_put hm1 b).mpr⟩
    have eH' : Hid (.brw m' :: vals ds) ((V.ref a :: vs).map some) (fun b => Hid ρ1 σ G b ∧ b ≠ a) = Hid ρ1 σ G := hid_brw how
    have sub : Sub (vis H1 (Hid ρ1 σ G)) (vis H' (Hid (putAt ρ1 i m') σ G)) := vis_sub fun b o q1 q2 q3 => ⟨by rw [eP]; exact q2, keep b o q1 q3 fun z => q2 (.inr (by rw [z]; exact how))⟩
    refine ⟨⟨?_, fun j e q => ?_, fun j xs q => ?_, fun j l xs ys b q1 q2 q3 q4 => ?_, ok'.j, fun b z => ?_⟩, ⟨fun b o q1 q2 q3 => keep b o q1 q2 fun z => q3 (by rw [z]; exact how), fun b o _ _ q3 z => q3 ((Ow_put hm1 b).mp z), fun j xs q => ⟨rfl, ?_⟩⟩, by rw [eH', eP]⟩
    · unfold putAt
      rw [List.length_set]
      exact ok1.len
    · have hij : i ≠ j := fun z => by
        subst z
        unfold putAt at q
        rw [slAt_set, if_pos ⟨rfl, heldAt_lt hm1⟩] at q
        unfold heldAt at hm1
        cases w : slAt ρ1 i with
        | no => rw [w] at hm1; cases hm1
        | val d => rw [w] at hm1; cases hm1
        | own xs => rw [w] at q; cases q
        | brw xs => rw [w] at q; cases q
      unfold putAt at q
      rw [slAt_set, if_neg (fun z => hij z.1)] at q
      obtain ⟨v, z1, z2⟩ := ok1.val j e q
      exact ⟨v, z1, z2.sub sub⟩
    · rw [heldAt_put hm1] at q
      by_cases hij : i = j
      · rw [if_pos hij] at q
        cases q
        subst hij
        obtain ⟨b, us, z1, z2, z3, z4⟩ := ok'.own 0 m' rfl
        have z5 : some (some (V.ref a)) = some (some (V.ref b)) := z1
        cases z5
        refine ⟨a, us, ha0, z2, ?_, hb3⟩
        rw [eP, ← eH']
        exact z3
      · rw [if_neg hij] at q
        obtain ⟨b, us, z1, z2, z3, z4⟩ := ok1.own j xs q
        refine ⟨b, us, z1, keep b _ z2 (fun z => z) fun z => hij ?_, z3.sub sub, z4⟩
        rw [z] at z1
        exact ok1.inj i j m xs a hm1 q ha0 z1
    · have f : ∀ (j : Nat) (xs : List D), heldAt (putAt ρ1 i m') j = some xs → ∃ ys, heldAt ρ1 j = some ys := fun j xs z => by
        rw [heldAt_put hm1] at z
        by_cases hij : i = j
        · rw [← hij]
          exact ⟨m, hm1⟩
        · rw [if_neg hij] at z
          exact ⟨xs, z⟩
      obtain ⟨xs', w1⟩ := f j xs q1
      obtain ⟨ys', w2⟩ := f l ys q2
      exact ok1.inj j l xs' ys' b w1 w2 q3 q4
    · obtain ⟨o, z1, z2⟩ := ok1.gt b z
      exact ⟨o, keep b o z1 z2 (fun z3 => hb3 (by rw [← z3]; exact z)), z2⟩
    · by_cases hij : i = j
      · subst hij
        refine ⟨m', ?_⟩
        unfold putAt
        rw [slAt_set, if_pos ⟨rfl, heldAt_lt hm1⟩, q]
        rfl
      · refine ⟨xs, ?_⟩
        unfold putAt
        rw [slAt_set, if_neg (fun z => hij z.1)]
        exact q
  refine ⟨by have := r1.len; simp only [List.length_cons]; omega, _, _, _, _, okA, h1, fun e v as' H' ok' s' r' q' => ?_, fun x c dd as' H' ok' s' p' q' => ?_⟩
  · obtain ⟨m', rfl, q'⟩ := q'
    obtain ⟨b1, b2, b3⟩ := back ok' s'
    rw [b3] at r'
    exact hq e v _ H' b1 (s1.trans b2) r' q'
  · obtain ⟨m', rfl, q'⟩ := q'
    obtain ⟨b1, b2, b3⟩ := back ok' s'
    exact hx x c dd _ H' b1 (s1.trans b2) p' q'
end
end TS
set_option Elab.async false
set_option linter.all false
set_option maxRecDepth 100000
set_option maxHeartbeats 4000000
set_option exponentiation.threshold 10000
namespace TS
open PySem PySem.Spec PyProof.Rows L2
/-! ### what is walked -/
abbrev DI := Rho → (List D → Rho → Prop) → EQ → Prop
/-- the iterator J gives the data ds one by one, as long as what A shows stands -/
def ItOk (Z : Zx) (A : Hp) (J : It) (ds : List D) : Prop := ∀ (i : Nat) (H : Hp) (S : Addr → Prop), Sub A (vis H S) → (∀ a, S a → ∃ o, H a = some o) →
  (i < ds.length → J.go i H ∧ ∀ x H2, J.yld i H x H2 → Same H H2 ∧ ∃ d, ds[i]? = some d ∧ Rp Z (vis H2 S) d x) ∧ (i = ds.length → J.stop i H)
def upI (Z : Zx) (W : WX) (t : DI) : TI := fun σ H R => ∃ ρ G Qd E, Ok Z σ ρ H G ∧ t ρ Qd E ∧
  (∀ ds ρ' H' J, Ok Z σ ρ' H' G → Stp Z σ ρ H σ ρ' H' → ItOk Z (vis H' (Hid ρ' σ G)) J ds → Qd ds ρ' → R J H') ∧ XPE Z W σ ρ H G E
section
variable {X : Cx} {Z : Zx} {W : WX}
theorem PI.wk {tg e : Expr} {t t' : TI} (h : PI X tg e t) (k : ∀ σ H R, t' σ H R → t σ H R) : PI X tg e t' := ⟨fun pins s σ H R I z => h.run pins s σ H R I (k σ H R z)⟩
theorem it_list {A : Hp} {a : Addr} {vs : List V} {ds : List D} {K : PySem.W.Frag} (h : A a = some (.lst vs)) (r : RpL Z A ds vs) : ItOk Z A (Itl K a) ds := fun i H S sub _ => by
  have q : SqL K H a vs := .of (vis_some.mp (sub _ _ h (fun z => z))).2
  refine ⟨fun hi => ?_, fun hi => ⟨vs, q, by rw [hi, r.len]; exact Nat.le_refl _⟩⟩
  obtain ⟨v, h1, h2⟩ := r.get (List.getElem?_eq_getElem hi)
  refine ⟨⟨vs, v, q, h1⟩, fun x H2 y => ?_⟩
  obtain ⟨e, y⟩ := y
  subst e
  have e2 := y vs q
  rw [h1] at e2
  cases e2
  exact ⟨.refl _, _, List.getElem?_eq_getElem hi, h2.sub sub⟩
theorem it_tup {A : Hp} {a : Addr} {vs : List V} {ds : List D} (h : SqT Z.K A a vs) (r : RpL Z A ds vs) : ItOk Z A (Itt Z.K a) ds := fun i H S sub _ => by
  have q : SqT Z.K H a vs := vis_sqT (sub.sqT h)
  refine ⟨fun hi => ?_, fun hi => ⟨vs, q, by rw [hi, r.len]; exact Nat.le_refl _⟩⟩
  obtain ⟨v, h1, h2⟩ := r.get (List.getElem?_eq_getElem hi)
  refine ⟨⟨vs, v, q, h1⟩, fun x H2 y => ?_⟩
  obtain ⟨e, y⟩ := y
  subst e
  have e2 := y vs q
  rw [h1] at e2
  cases e2
  exact ⟨.refl _, _, List.getElem?_eq_getElem hi, h2.sub sub⟩
theorem it_range {A : Hp} {lo : Int} {n : Nat} : ItOk Z A (Itr lo n) ((List.range n).map fun (i : Nat) => D.int (lo + i)) := fun i H S _ _ => by
  refine ⟨fun hi => ?_, fun hi => ?_⟩
  · have hi' : i < n := by simpa using hi
    refine ⟨hi', fun x H2 y => ?_⟩
    obtain ⟨e, y⟩ := y
    subst e
    subst y
    exact ⟨.refl _, .int (lo + i), by simp [hi'], rfl⟩
  · have e : i = n := by simpa using hi
    exact Nat.le_of_eq e.symm
/-- a list or a tuple of data -/
def iSeq (t : DE) : DI := fun ρ Q E => t ρ (fun d ρ' => match d with
  | .lst ds => Q ds ρ'
  | .tup ds => Q ds ρ'
  | _ => False) E
/-- only lists; only tuples -/
def iL (t : DE) : DI := fun ρ Q E => t ρ (fun d ρ' => ∃ ds, d = .lst ds ∧ Q ds ρ') E
def iT (t : DE) : DI := fun ρ Q E => t ρ (fun d ρ' => ∃ ds, d = .tup ds ∧ Q ds ρ') E
theorem di_list {tg l : Expr} {t : DE} (hl : PE X l (upE Z W t)) : PI X tg l (upI Z W (iL t)) := PI.wk (pi_list hl) fun σ H R ⟨ρ, G, Qd, E, ok, h, hq, hx⟩ => by
  refine ⟨ρ, G, _, E, ok, h, fun d v ρ1 H1 ok1 s1 r1 h1 => ?_, hx⟩
  obtain ⟨ds, rfl, q⟩ := h1
  obtain ⟨a, vs, rfl, q1, q2⟩ := r1
  exact ⟨a, rfl, ⟨vs, .of (vis_some.mp q1).2⟩, hq ds ρ1 H1 _ ok1 s1 (it_list q1 q2) q⟩
theorem di_tup [F : Fit X Z] {tg l : Expr} {t : DE} (hl : PE X l (upE Z W t)) : PI X tg l (upI Z W (iT t)) := PI.wk (pi_tup hl) fun σ H R ⟨ρ, G, Qd, E, ok, h, hq, hx⟩ => by
  refine ⟨ρ, G, _, E, ok, h, fun d v ρ1 H1 ok1 s1 r1 h1 => ?_, hx⟩
  obtain ⟨ds, rfl, q⟩ := h1
  obtain ⟨a, vs, rfl, q1, q2⟩ := r1
  rw [F.K]
  exact ⟨a, rfl, ⟨vs, vis_sqT q1⟩, hq ds ρ1 H1 _ ok1 s1 (it_tup q1 q2) q⟩
/-- range(a), range(a, b) -/
def iR1 (t : DA) : DI := fun ρ Q E => t ρ (fun ds ρ' => ∃ n : Int, ds = [.int n] ∧ (-1000000 ≤ n ∧ n ≤ 1000000) ∧ Q ((List.range n.toNat).map fun (i : Nat) => D.int (0 + i)) ρ') E
def iR2 (t : DA) : DI := fun ρ Q E => t ρ (fun ds ρ' => ∃ a b : Int, ds = [.int a, .int b] ∧ (-1000000 ≤ a ∧ a ≤ 1000000 ∧ -1000000 ≤ b ∧ b ≤ 1000000) ∧ Q ((List.range (b - a).toNat).map fun (i : Nat) => D.int (a + i)) ρ') E
theorem di_range1 [F : Fit X Z] {tg a : Expr} {t : DA} {p pos : Pos} (hm : Z.mg "range" = none) (ha : PA X [a] (upA Z W t)) (hg : Gl X "range" := by rfl) (hs : starEach [a] X.env = [(false, eval a X.env)] := by rfl) : PI X tg (.Call (.Name "range" p) [a] [] pos) (upI Z W (iR1 t)) :=
  PI.wk (pi_range1 hg (by rw [F.mg]; exact hm) ha hs) fun σ H R ⟨ρ, G, Qd, E, ok, h, hq, hx⟩ => by
    refine ⟨ρ, G, _, E, ok, h, fun ds vs ρ1 H1 ok1 s1 r1 h1 => ?_, hx⟩
    obtain ⟨n, rfl, hb, q⟩ := h1
    obtain ⟨v, rfl, e⟩ := r1.one
    cases e
    exact ⟨n, rfl, by omega, by omega, hq _ ρ1 H1 _ ok1 s1 it_range q⟩
theorem di_range2 [F : Fit X Z] {tg a b : Expr} {t : DA} {p pos : Pos} (hm : Z.mg "range" = none) (ha : PA X [a, b] (upA Z W t)) (hg : Gl X "range" := by rfl) (hs : starEach [a, b] X.env = [(false, eval a X.env), (false, eval b X.env)] := by rfl)
    (hs2 : starEach [b] X.env = [(false, eval b X.env)] := by rfl) : PI X tg (.Call (.Name "range" p) [a, b] [] pos) (upI Z W (iR2 t)) :=
  PI.wk (pi_range2 hg (by rw [F.mg]; exact hm) ha hs hs2) fun σ H R ⟨ρ, G, Qd, E, ok, h, hq, hx⟩ => by
    refine ⟨ρ, G, _, E, ok, h, fun ds vs ρ1 H1 ok1 s1 r1 h1 => ?_, hx⟩
    obtain ⟨a, b, rfl, hb, q⟩ := h1
    obtain ⟨v, u, rfl, e1, e2⟩ := r1.two
    cases e1
    cases e2
    exact ⟨a, b, rfl, ⟨by omega, by omega, by omega, by omega⟩, hq _ ρ1 H1 _ ok1 s1 it_range q⟩
/-- a text, sign by sign -/
def iS (t : DE) : DI := fun ρ Q E => t ρ (fun d ρ' => ∃ x : Str, d = .str x ∧ Q (x.cps.toList.map fun c => D.str ⟨#[c]⟩) ρ') E
theorem di_str {tg l : Expr} {t : DE} (hl : PE X l (upE Z W t)) : PI X tg l (upI Z W (iS t)) := PI.wk (pi_str hl) fun σ H R ⟨ρ, G, Qd, E, ok, h, hq, hx⟩ => by
  refine ⟨ρ, G, _, E, ok, h, fun d v ρ1 H1 ok1 s1 r1 h1 => ?_, hx⟩
  obtain ⟨x, rfl, q⟩ := h1
  cases r1
  refine ⟨x, rfl, hq _ ρ1 H1 _ ok1 s1 (fun i H S _ _ => ⟨fun hi => ?_, fun hi => ?_⟩) q⟩
  · have hi' : i < x.cps.size := by simpa using hi
    refine ⟨hi', fun y H2 w => ?_⟩
    obtain ⟨e, c, h1, h2⟩ := w
    subst e
    subst h2
    exact ⟨.refl _, .str ⟨#[c]⟩, by rw [List.getElem?_map, Array.getElem?_toList, h1]; rfl, rfl⟩
  · have e : i = x.cps.size := by simpa using hi
    exact Nat.le_of_eq e.symm
end
/-! ### targets -/
abbrev DG := D → Rho → (Rho → Prop) → Prop
abbrev DGs := List D → Rho → (Rho → Prop) → Prop
def nb : Sl → Prop
  | .brw _ => False
  | _ => True
def gNm (i : Nat) : DG := fun d ρ Q => nb (slAt ρ i) ∧ Q (ρ.set i (.val d))
def gTp (n : Nat) (g : DGs) : DG := fun d ρ Q => match d with
  | .tup ds => ds.length = n ∧ g ds ρ Q
  | _ => False
def gN : DGs := fun ds ρ Q => match ds with
  | [] => Q ρ
  | _ => False
def gC (g : DG) (h : DGs) : DGs := fun ds ρ Q => match ds with
  | d :: ds => g d ρ fun ρ' => h ds ρ' Q
  | [] => False
/-- outside the slots ts all is as it was -/
def Only (ts : List Nat) (σ : L2.St) (ρ : Rho) (σ' : L2.St) (ρ' : Rho) : Prop := σ'.length = σ.length ∧ ∀ j, j ∉ ts → σ'[j]? = σ[j]? ∧ slAt ρ' j = slAt ρ j
def upG (Z : Zx) (ts : List Nat) (g : DG) : TG := fun v σ H Q => ∃ d ρ G Qd, Ok Z σ ρ H G ∧ Rp Z (vis H (Hid ρ σ G)) d v ∧ g d ρ Qd ∧ ∀ σ' ρ', Ok Z σ' ρ' H G → Stp Z σ ρ H σ' ρ' H → Only ts σ ρ σ' ρ' → Qd ρ' → Q σ' H
def upGs (Z : Zx) (ts : List Nat) (n : Nat) (g : DGs) : TGs := fun vs σ H Q => vs.length = n ∧ ∃ ds ρ G Qd, Ok Z σ ρ H G ∧ RpL Z (vis H (Hid ρ σ G)) ds vs ∧ g ds ρ Qd ∧ ∀ σ' ρ', Ok Z σ' ρ' H G → Stp Z σ ρ H σ' ρ' H → Only ts σ ρ σ' ρ' → Qd ρ' → Q σ' H
section
variable {X : Cx} {Z : Zx} {W : WX} {σ : L2.St} {ρ : Rho} {H : Hp} {G : Addr → Prop}
theorem Ok.set {i : Nat} {d : D} {v : V} (k : Ok Z σ ρ H G) (r : Rp Z (vis H (Hid ρ σ G)) d v) (hb : nb (slAt ρ i)) : Ok Z (σ.set i (some v)) (ρ.set i (.val d)) H G ∧ Stp Z σ ρ H (σ.set i (some v)) (ρ.set i (.val d)) H := by
  by_cases hi : i < ρ.length
  · have hiσ : i < σ.length := by rw [← k.len]; exact hi
    have held : ∀ j xs, heldAt (ρ.set i (.val d)) j = some xs → i ≠ j ∧ heldAt ρ j = some xs := fun j xs e => by
      unfold heldAt at e ⊢
      rw [slAt_set] at e
      by_cases q : i = j
      · subst q
        rw [if_pos ⟨rfl, hi⟩] at e
        cases e
      · rw [if_neg (fun z => q z.1)] at e
        exact ⟨q, e⟩
    have sg : ∀ j, i ≠ j → (σ.set i (some v))[j]? = σ[j]? := fun j q => List.getElem?_set_ne q
    have ow : ∀ a, Ow (ρ.set i (.val d)) (σ.set i (some v)) a → Ow ρ σ a := fun a ⟨j, xs, e1, e2⟩ => by
      obtain ⟨q, e3⟩ := held j xs e1
      rw [sg j q] at e2
      exact ⟨j, xs, e3, e2⟩
    have sub : Sub (vis H (Hid ρ σ G)) (vis H (Hid (ρ.set i (.val d)) (σ.set i (some v)) G)) := vis_sub fun a o h n _ => ⟨fun z => n (z.imp (fun z => z) (ow a)), h⟩
    refine ⟨⟨by rw [List.length_set, List.length_set]; exact k.len, fun j e q => ?_, fun j xs q => ?_, fun j l xs ys a q1 q2 q3 q4 => ?_, k.j, k.gt⟩, ⟨fun _ _ h _ _ => h, fun a _ _ _ n z => n (ow a z), fun j xs q => ?_⟩⟩
    · rw [slAt_set] at q
      by_cases w : i = j
      · subst w
        rw [if_pos ⟨rfl, hi⟩] at q
        cases q
        exact ⟨v, List.getElem?_set_self hiσ, r.sub sub⟩
      · rw [if_neg (fun z => w z.1)] at q
        obtain ⟨u, h1, h2⟩ := k.val j e q
        exact ⟨u, by rw [sg j w]; exact h1, h2.sub sub⟩
    · obtain ⟨w, q'⟩ := held j xs q
      obtain ⟨a, ws, h1, h2, h3, h4⟩ := k.own j xs q'
      exact ⟨a, ws, by rw [sg j w]; exact h1, h2, h3.sub sub, h4⟩
    · obtain ⟨w1, q1'⟩ := held j xs q1
      obtain ⟨w2, q2'⟩ := held l ys q2
      rw [sg j w1] at q3
      rw [sg l w2] at q4
      exact k.inj j l xs ys a q1' q2' q3 q4
    · have w : i ≠ j := fun z => by
        subst z
        rw [q] at hb
        exact hb
      exact ⟨sg j w, xs, by rw [slAt_set, if_neg (fun z => w z.1)]; exact q⟩
  · have e1 : ρ.set i (.val d) = ρ := List.set_eq_of_length_le (by omega)
    have e2 : σ.set i (some v) = σ := List.set_eq_of_length_le (by rw [← k.len]; omega)
    rw [e1, e2]
    exact ⟨k, .refl⟩
theorem PG.wk {tg : Expr} {t t' : TG} (h : PG X tg t) (k : ∀ v σ H Q, t' v σ H Q → t v σ H Q) : PG X tg t' := ⟨fun pins s σ H v u Q I r z => h.run pins s σ H v u Q I r (k v σ H Q z)⟩
theorem PGs.wk {ts : List Expr} {t t' : TGs} (h : PGs X ts t) (k : ∀ v σ H Q, t' v σ H Q → t v σ H Q) : PGs X ts t' := ⟨fun pins s σ H v u Q I r z => h.run pins s σ H v u Q I r (k v σ H Q z)⟩
theorem dg_name {i : Nat} {x : Str} {pos : Pos} (hN : X.N.Nodup) (hi : X.N[i]? = some x := by rfl) (hx : Loc X.env.scope x := by first | exact Or.inl rfl | exact Or.inr rfl) (hf : X.fn x = true ∨ X.env.scope.names.lookup x = some .local := by first | exact .inl rfl | exact .inr rfl) :
    PG X (.Name x pos) (upG Z [i] (gNm i)) := PG.wk (pg_name hN hi hx hf) fun v σ H Q ⟨d, ρ, G, Qd, ok, r, h, hq⟩ => by
  obtain ⟨k1, k2⟩ := ok.set r h.1
  exact hq _ _ k1 k2 ⟨List.length_set, fun j hj => by
    have q : i ≠ j := fun z => hj (by rw [z]; exact List.mem_cons_self)
    exact ⟨List.getElem?_set_ne q, by rw [slAt_set, if_neg (fun z => q z.1)]⟩⟩ h.2
theorem dgs_nil : PGs X [] (upGs Z [] 0 gN) := PGs.wk pgs_nil fun vs σ H Q ⟨hl, ds, ρ, G, Qd, ok, r, h, hq⟩ => by
  have e : vs = [] := List.length_eq_zero_iff.mp hl
  subst e
  have e2 : ds = [] := List.length_eq_zero_iff.mp r.len
  subst e2
  exact ⟨rfl, hq σ ρ ok .refl ⟨rfl, fun _ _ => ⟨rfl, rfl⟩⟩ h⟩
theorem dgs_cons {e : Expr} {es : List Expr} {n : Nat} {ts us : List Nat} {g : DG} {h : DGs} (h1 : PG X e (upG Z ts g)) (h2 : PGs X es (upGs Z us n h)) (hs : (assignEach (e :: es) X.env).map (·.2) = assign e X.env :: (assignEach es X.env).map (·.2) := by rfl) :
    PGs X (e :: es) (upGs Z (ts ++ us) (n + 1) (gC g h)) := PGs.wk (pgs_cons h1 h2 hs) fun vs σ H Q ⟨hl, ds, ρ, G, Qd, ok, r, z, hq⟩ => by
  match ds, vs, r with
  | d :: ds, v :: vs, r =>
    refine ⟨v, vs, rfl, d, ρ, G, _, ok, r.1, z, fun σ1 ρ1 ok1 s1 o1 q1 => ?_⟩
    exact ⟨by simpa using hl, ds, ρ1, G, Qd, ok1, r.2.sub s1.vis, q1, fun σ2 ρ2 ok2 s2 o2 q2 => hq σ2 ρ2 ok2 (s1.trans s2) ⟨o2.1.trans o1.1, fun j hj => by
      obtain ⟨a1, a2⟩ := o1.2 j fun z => hj (List.mem_append_left _ z)
      obtain ⟨b1, b2⟩ := o2.2 j fun z => hj (List.mem_append_right _ z)
      exact ⟨b1.trans a1, b2.trans a2⟩⟩ q2⟩
  | [], [], _ => exact z.elim
  | [], _ :: _, r => exact r.elim
  | _ :: _, [], r => exact r.elim
theorem dg_tup [F : Fit X Z] {es : List Expr} {n k : Nat} {ts : List Nat} {pos : Pos} {g : DGs} (hc : X.calm = true) (h : PGs X es (upGs Z ts n g)) (hn : (assignEach es X.env).length = n := by rfl) (hst : (assignEach es X.env).findIdx? (·.1) = none := by rfl) :
    PG X (.Tuple es k pos) (upG Z ts (gTp n g)) := PG.wk (pg_tup hc h hn hst) fun v σ H Q ⟨d, ρ, G, Qd, ok, r, z, hq⟩ => by
  cases d with
  | tup ds =>
    obtain ⟨a, vs, rfl, q1, q2⟩ := r
    have hl : vs.length = n := by rw [← q2.len]; exact z.1
    rw [F.K]
    exact ⟨a, vs, rfl, vis_sqT q1, hl, hl, ds, ρ, G, Qd, ok, q2, z.2, hq⟩
  | _ => exact z.elim
end
end TS
set_option Elab.async false
set_option linter.all false
set_option maxRecDepth 100000
set_option maxHeartbeats 4000000
set_option exponentiation.threshold 10000
namespace TS
open PySem PySem.Spec PyProof.Rows L2
/-! ### statements -/
def sNext : DS := fun B _ ρ => B.nx ρ
def sSeq (t u : DS) : DS := fun B E ρ => t { B with nx := fun ρ' => u B E ρ' } E ρ
def sDrop (t : DE) : DS := fun B E ρ => t ρ (fun _ ρ' => B.nx ρ') E
def sRet (t : DE) : DS := fun B E ρ => t ρ B.rt E
def sRetN : DS := fun B _ ρ => B.rt .non ρ
def sIf (c : DT) (t u : DS) : DS := fun B E ρ => c ρ (fun b ρ' => if b = true then t B E ρ' else u B E ρ') E
def sAsg (t : DE) (g : DG) : DS := fun B E ρ => t ρ (fun d ρ' => g d ρ' B.nx) E
def sBreak : DS := fun B _ ρ => B.bk ρ
def sCont : DS := fun B _ ρ => B.ct ρ
def sNever : DS := fun _ _ _ => False
def sRaise (n : Str) : DS := fun _ E ρ => E ⟨n, none⟩ ρ
def sPar (i j : Nat) (t : DA) : DS := fun B E ρ => t ρ (fun ds ρ' => match ds with
  | [d, e] => (nb (slAt ρ' i) ∧ nb (slAt (ρ'.set i (.val d)) j)) ∧ B.nx ((ρ'.set i (.val d)).set j (.val e))
  | _ => False) E
def forD (g : DG) (tb : DS) (B : DEnds) (E : EQ) : List D → Rho → Prop
  | [], ρ => B.nx ρ
  | d :: ds, ρ => g d ρ fun ρ' => tb { B with nx := forD g tb B E ds, ct := forD g tb B E ds, bk := B.nx } E ρ'
def sFor (ti : DI) (g : DG) (tb : DS) : DS := fun B E ρ => ti ρ (fun ds ρ' => forD g tb B E ds ρ') E
def sWhile (c : DT) (tb : DS) : DS := fun B E ρ => ∃ I : Nat → Rho → Prop, (∃ m, I m ρ) ∧ ∀ m ρ, I m ρ → c ρ (fun b ρ1 => if b = true then
  tb { B with nx := fun ρ' => ∃ m', m' < m ∧ I m' ρ', ct := fun ρ' => ∃ m', m' < m ∧ I m' ρ', bk := B.nx } E ρ1 else B.nx ρ1) E
/-- an exception class of the text over ValueError, without an own __init__ -/
structure ExcF (Z : Zx) (n : Str) : Prop where
  ex : ∃ C, Z.mg n = some (.ref C) ∧ PySem.W.excIn Z.K C He.veBase "ValueError.__new__" = true ∧ PySem.W.keepIn Z.K (.ref C) = true ∧ PySem.W.subIn Z.K (.ref C) (.type "BaseException") = some true ∧ PySem.W.typeIn Z.K (.ref C) = some (.type "type")
section
variable {X : Cx} {Z : Zx} {W : WX}
theorem dss_nil : PSs X [] (upS Z W sNext) := PSs.wk pss_nil fun B σ H ⟨ρ, G, DD, E, ok, h, hq, hx⟩ => (hq σ ρ H ok .refl).1 h
theorem dss_cons {s : Stmt} {r : List Stmt} {t u : DS} (h1 : PS X s (upS Z W t)) (h2 : PSs X r (upS Z W u)) : PSs X (s :: r) (upS Z W (sSeq t u)) := PSs.wk (pss_cons h1 h2) fun B σ H ⟨ρ, G, DD, E, ok, h, hq, hx⟩ => by
  refine ⟨ρ, G, _, E, ok, h, fun σ1 ρ1 H1 ok1 s1 => ⟨fun q => ?_, fun q => (hq σ1 ρ1 H1 ok1 s1).2.1 q, fun q => (hq σ1 ρ1 H1 ok1 s1).2.2.1 q, fun d v r q => (hq σ1 ρ1 H1 ok1 s1).2.2.2 d v r q⟩, hx⟩
  exact ⟨ρ1, G, DD, E, ok1, q, fun σ2 ρ2 H2 ok2 s2 => hq σ2 ρ2 H2 ok2 (s1.trans s2), hx.step s1⟩
theorem dss_one {s : Stmt} {t : DS} (h : PS X s (upS Z W t)) : PSs X [s] (upS Z W t) := pss_one h
theorem ds_pass {pos : Pos} : PS X (.Pass pos) (upS Z W sNext) := PS.wk ps_pass fun B σ H ⟨ρ, G, DD, E, ok, h, hq, hx⟩ => (hq σ ρ H ok .refl).1 h
theorem ds_break {pos : Pos} : PS X (.Break pos) (upS Z W sBreak) := PS.wk ps_break fun B σ H ⟨ρ, G, DD, E, ok, h, hq, hx⟩ => (hq σ ρ H ok .refl).2.1 h
theorem ds_cont {pos : Pos} : PS X (.Continue pos) (upS Z W sCont) := PS.wk ps_continue fun B σ H ⟨ρ, G, DD, E, ok, h, hq, hx⟩ => (hq σ ρ H ok .refl).2.2.1 h
theorem ds_never {s : Stmt} : PS X s (upS Z W sNever) := ⟨fun _ _ _ _ _ _ ⟨_, _, _, _, _, h, _⟩ => h.elim⟩
theorem dss_never {s : List Stmt} : PSs X s (upS Z W sNever) := ⟨fun _ _ _ _ _ _ ⟨_, _, _, _, _, h, _⟩ => h.elim⟩
theorem ds_expr {e : Expr} {t : DE} {pos : Pos} (he : PE X e (upE Z W t)) (hs : swapsWith e none pos.line X.env = pure false := by rfl) : PS X (.Expr e pos) (upS Z W (sDrop t)) := PS.wk (ps_expr he hs) fun B σ H ⟨ρ, G, DD, E, ok, h, hq, hx⟩ =>
  ⟨ρ, G, _, E, ok, h, fun d v ρ1 H1 ok1 s1 r1 h1 => (hq σ ρ1 H1 ok1 s1).1 h1, hx.e⟩
theorem ds_ret {e : Expr} {t : DE} {pos : Pos} (he : PE X e (upE Z W t)) : PS X (.Return (some e) pos) (upS Z W (sRet t)) := PS.wk (ps_ret he) fun B σ H ⟨ρ, G, DD, E, ok, h, hq, hx⟩ =>
  ⟨ρ, G, _, E, ok, h, fun d v ρ1 H1 ok1 s1 r1 h1 => (hq σ ρ1 H1 ok1 s1).2.2.2 d v r1 h1, hx.e⟩
theorem ds_retN {pos : Pos} : PS X (.Return none pos) (upS Z W sRetN) := PS.wk ps_retN fun B σ H ⟨ρ, G, DD, E, ok, h, hq, hx⟩ => (hq σ ρ H ok .refl).2.2.2 .non .non rfl h
theorem ds_if {c : Expr} {a b : List Stmt} {tc : DT} {t u : DS} {pos : Pos} (hc : PT X c (upT Z W tc)) (ha : PSs X a (upS Z W t)) (hb : PSs X b (upS Z W u)) : PS X (.If c a b pos) (upS Z W (sIf tc t u)) := PS.wk (ps_if hc ha hb) fun B σ H ⟨ρ, G, DD, E, ok, h, hq, hx⟩ => by
  refine ⟨ρ, G, _, E, ok, h, fun b ρ1 H1 ok1 s1 h1 => ?_, hx.e⟩
  cases b with
  | true =>
    rw [if_pos rfl] at h1 ⊢
    exact ⟨ρ1, G, DD, E, ok1, h1, fun σ2 ρ2 H2 ok2 s2 => hq σ2 ρ2 H2 ok2 (s1.trans s2), hx.step s1⟩
  | false =>
    rw [if_neg (by decide)] at h1 ⊢
    exact ⟨ρ1, G, DD, E, ok1, h1, fun σ2 ρ2 H2 ok2 s2 => hq σ2 ρ2 H2 ok2 (s1.trans s2), hx.step s1⟩
theorem up_asg {ts : List Nat} {t : DE} {g : DG} (B : Ends) (σ : L2.St) (H : Hp) (h : upS Z W (sAsg t g) B σ H) : tAsg (upE Z W t) (upG Z ts g) B σ H := by
  obtain ⟨ρ, G, DD, E, ok, h, hq, hx⟩ := h
  refine ⟨ρ, G, _, E, ok, h, fun d v ρ1 H1 ok1 s1 r1 h1 => ?_, hx.e⟩
  exact ⟨d, ρ1, G, _, ok1, r1, h1, fun σ2 ρ2 ok2 s2 _ q => (hq σ2 ρ2 H1 ok2 (s1.trans s2)).1 q⟩
/-- target = value -/
theorem ds_asg {tg e : Expr} {ts : List Nat} {t : DE} {g : DG} {pos : Pos} (he : PE X e (upE Z W t)) (hg : PG X tg (upG Z ts g)) (h1 : (assignEach [tg] X.env).map (·.2) = [assign tg X.env] := by rfl) (hs : swapsWithSole [tg] e pos.line X.env = pure false := by rfl) (hw : swappedStores [tg] e X.env = pure none := by rfl) :
    PS X (.Assign [tg] e pos) (upS Z W (sAsg t g)) := PS.wk (ps_asg he hg hs hw h1) up_asg
/-- name = value -/
theorem ds_set {i : Nat} {x : Str} {e : Expr} {t : DE} {pos pos' : Pos} (hN : X.N.Nodup) (he : PE X e (upE Z W t)) (hi : X.N[i]? = some x := by rfl) (hx : Loc X.env.scope x := by first | exact Or.inl rfl | exact Or.inr rfl)
    (hs : swapsWith e (some (.Name x pos')) pos.line X.env = pure false := by rfl) (hf : X.fn x = true ∨ X.env.scope.names.lookup x = some .local := by first | exact .inl rfl | exact .inr rfl) :
    PS X (.Assign [.Name x pos'] e pos) (upS Z W (sAsg t (gNm i))) := PS.wk (ps_set hN hi hx he hs hf) fun B σ H ⟨ρ, G, DD, E, ok, h, hq, hx⟩ =>
  ⟨ρ, G, _, E, ok, h, fun d v ρ1 H1 ok1 s1 r1 h1 => by
    obtain ⟨k1, k2⟩ := ok1.set r1 h1.1
    exact (hq _ _ H1 k1 (s1.trans k2)).1 h1.2, hx.e⟩
theorem ds_par {i j : Nat} {x y : Str} {a b : Expr} {t : DA} {px py pt : Pos} {kt k2 : Nat} {pt2 pos : Pos} (hc : X.calm = true) (hN : X.N.Nodup) (ha : PA X [a, b] (upA Z W t)) (hij : i ≠ j := by decide) (hi : X.N[i]? = some x := by rfl) (hj : X.N[j]? = some y := by rfl)
    (hx : X.env.scope.names.lookup x = some .local := by rfl) (hy : X.env.scope.names.lookup y = some .local := by rfl)
    (hw : swappedStores [.Tuple [.Name x px, .Name y py] kt pt] (.Tuple [a, b] k2 pt2) X.env = pure (some [x, y]) := by rfl)
    (hs : swapsWithSole [.Tuple [.Name x px, .Name y py] kt pt] (.Tuple [a, b] k2 pt2) pos.line X.env = pure false := by rfl) :
    PS X (.Assign [.Tuple [.Name x px, .Name y py] kt pt] (.Tuple [a, b] k2 pt2) pos) (upS Z W (sPar i j t)) := PS.wk (ps_par hc hN hi hj hij hx hy ha hw hs) fun B σ H ⟨ρ, G, DD, E, ok, h, hq, hx⟩ => by
  refine ⟨ρ, G, _, E, ok, h, fun ds vs ρ1 H1 ok1 s1 r1 h1 => ?_, hx.e⟩
  match ds, h1 with
  | [d, e], h1 =>
    obtain ⟨v, u, rfl, e1, e2⟩ := r1.two
    obtain ⟨⟨n1, n2⟩, h1⟩ := h1
    obtain ⟨k1, k2⟩ := ok1.set e1 n1
    obtain ⟨k3, k4⟩ := k1.set (e2.sub k2.vis) n2
    exact ⟨v, u, rfl, (hq _ _ H1 k3 ((s1.trans k2).trans k4)).1 h1⟩
theorem ds_raise [F : Fit X Z] {n m : Str} {j : Nat} {p p2 p3 pos : Pos} (f : ExcF Z n) (hc : X.calm = true) (tk : L2N.Takes X W) (hg : Gl X n := by rfl) (hdb : (n == ("__debug__" : Str)) = false := by decide) :
    PS X (.Raise (some (.Call (.Name n p) [.Constant (.str m) j p2] [] p3)) none pos) (upS Z W (sRaise n)) := by
  obtain ⟨C, h1, h2, h3, h4, h5⟩ := f.ex
  refine PS.wk (L2N.ps_raise hc tk (L2N.pmk_own PySem.F.excBase_ValueError (by rw [F.K]; exact h2) (by rw [F.mg]; exact h1) (by rw [F.K]; exact h3) (raises_own (by rw [F.K]; exact h4) (by rw [F.K]; exact h5)) hg hdb)) ?_
  exact fun B σ H ⟨ρ, G, DD, E, ok, h, hq, hx⟩ => hx _ _ _ σ ρ H ok .refl ⟨C, h1, rfl, rfl⟩ h
theorem XP.any {σ : L2.St} {ρ : Rho} {H : Hp} {G : Addr → Prop} {E E' : EQ} (x : XP Z W σ ρ H G E) (h : ∀ y ρ, E' y ρ → E y ρ) : XP Z W σ ρ H G E' := fun y c dd σ' ρ' H' o s p e => x y c dd σ' ρ' H' o s p (h y ρ' e)
/-- a for -/
theorem ds_for {tg iter : Expr} {ts : List Nat} {body : List Stmt} {ti : DI} {g : DG} {tb : DS} {pos : Pos} (hp : PassesOwn (model X.prog X.w) X.A X.env X.xe) (hc : X.calm = true) (hi : PI X tg iter (upI Z W ti)) (hg : PG X tg (upG Z ts g)) (hb : PSs X body (upS Z W tb))
    (hs : ∀ x, foldedSetIterable iter X.env x = pure x := by intro _; rfl) [GoodJ Z] : PS X (.For tg iter body [] pos) (upS Z W (sFor ti g tb)) := PS.wk (ps_for hp hc hi hg hb hs) fun B σ H ⟨ρ, G, DD, E, ok, h, hq, hx⟩ => by
  refine ⟨ρ, G, _, E, ok, h, fun ds ρ1 H1 J ok1 s1 it h1 => ?_, hx.e⟩
  refine ⟨fun i m σ' H' => m = ds.length - i ∧ i ≤ ds.length ∧ ∃ ρ', Ok Z σ' ρ' H' G ∧ Stp Z σ ρ1 H1 σ' ρ' H' ∧ forD g tb DD E (ds.drop i) ρ', ⟨ds.length, by simp, Nat.zero_le _, ρ1, ok1, .refl, h1⟩, ?_⟩
  rintro i m σ' H' ⟨rfl, hle, ρ', ok', s', h'⟩
  have hS : ∀ a, Hid ρ' σ' G a → ∃ o, H' a = some o := fun a z => by
    rcases z with z | ⟨j, xs, e1, e2⟩
    · obtain ⟨o, q, _⟩ := ok'.gt a z
      exact ⟨o, q⟩
    · obtain ⟨b, ws, q1, q2, _⟩ := ok'.own j xs e1
      rw [q1] at e2
      cases e2
      exact ⟨_, q2⟩
  obtain ⟨go, stop⟩ := it i H' (Hid ρ' σ' G) s'.vis hS
  by_cases hlt : i < ds.length
  · obtain ⟨hgo, hy⟩ := go hlt
    refine .inr ⟨hgo, fun σ2 H2 => ∃ ρ2, Ok Z σ2 ρ2 H2 G ∧ Stp Z σ ρ1 H1 σ2 ρ2 H2 ∧ forD g tb DD E (ds.drop (i + 1)) ρ2, fun σ2 H2 ⟨ρ2, k1, k2, k3⟩ => ⟨ds.length - (i + 1), by omega, rfl, hlt, ρ2, k1, k2, k3⟩, fun x H2 y => ?_⟩
    obtain ⟨sm, d, hd, r⟩ := hy x H2 y
    have ed : ds.drop i = d :: ds.drop (i + 1) := by
      rw [List.drop_eq_getElem_cons hlt]
      rw [List.getElem?_eq_getElem hlt] at hd
      rw [Option.some.inj hd]
    rw [ed] at h'
    have ok2 := ok'.ext sm
    refine ⟨d, ρ', G, _, ok2, r, h', fun σ3 ρ3 ok3 s3 _ q3 => ?_⟩
    have s4 : Stp Z σ' ρ' H' σ3 ρ3 H2 := (Stp.ext sm).trans s3
    refine ⟨ρ3, G, _, E, ok3, q3, fun σ5 ρ5 H5 ok5 s5 => ?_, hx.step (s1.trans (s'.trans s4))⟩
    have s6 : Stp Z σ ρ1 H1 σ5 ρ5 H5 := s'.trans (s4.trans s5)
    obtain ⟨q1, q2, q3, q4⟩ := hq σ5 ρ5 H5 ok5 (s1.trans s6)
    exact ⟨fun z => ⟨ρ5, ok5, s6, z⟩, fun z => q1 z, fun z => ⟨ρ5, ok5, s6, z⟩, q4⟩
  · have e : i = ds.length := by omega
    refine .inl ⟨stop e, ?_⟩
    rw [e, List.drop_length] at h'
    exact (hq σ' ρ' H' ok' (s1.trans s')).1 h'
theorem ds_while {c : Expr} {body : List Stmt} {tc : DT} {tb : DS} {pos : Pos} (hp : PassesOwn (model X.prog X.w) X.A X.env X.xe) (hc : PT X c (upT Z W tc)) (hb : PSs X body (upS Z W tb)) : PS X (.While c body [] pos) (upS Z W (sWhile tc tb)) :=
  PS.wk (ps_while hp hc hb) fun B σ H ⟨ρ, G, DD, E, ok, ⟨I, ⟨m0, h0⟩, turn⟩, hq, hx⟩ => by
    refine ⟨fun m σ' H' => ∃ ρ', Ok Z σ' ρ' H' G ∧ Stp Z σ ρ H σ' ρ' H' ∧ I m ρ', ⟨m0, ρ, ok, .refl, h0⟩, ?_⟩
    rintro m σ' H' ⟨ρ', ok', s', h'⟩
    refine ⟨ρ', G, _, E, ok', turn m ρ' h', fun b ρ1 H1 ok1 s1 q => ?_, (hx.step s').e⟩
    cases b with
    | true =>
      rw [if_pos rfl] at q ⊢
      refine ⟨fun σ2 H2 => ∃ m', m' < m ∧ ∃ ρ2, Ok Z σ2 ρ2 H2 G ∧ Stp Z σ ρ H σ2 ρ2 H2 ∧ I m' ρ2, fun σ2 H2 z => z, ?_⟩
      refine ⟨ρ1, G, _, E, ok1, q, fun σ5 ρ5 H5 ok5 s5 => ?_, hx.step (s'.trans s1)⟩
      have s6 : Stp Z σ ρ H σ5 ρ5 H5 := (s'.trans s1).trans s5
      obtain ⟨q1, q2, q3, q4⟩ := hq σ5 ρ5 H5 ok5 s6
      exact ⟨fun ⟨m', hm, z⟩ => ⟨m', hm, ρ5, ok5, s6, z⟩, fun z => q1 z, fun ⟨m', hm, z⟩ => ⟨m', hm, ρ5, ok5, s6, z⟩, q4⟩
    | false =>
      rw [if_neg (by decide)] at q ⊢
      exact (hq σ' ρ1 H1 ok1 (s'.trans s1)).1 q
end
/-! ### list comprehensions -/
def wipeR (ρ : Rho) : List Nat → Rho
  | [] => ρ
  | v :: vs => (wipeR ρ vs).set v .no
/-- behind an element: the comprehension's own slots as they were -/
def bakR (ρ ρe : Rho) : List Nat → Rho
  | [] => ρe
  | v :: vs => (bakR ρ ρe vs).set v (slAt ρ v)
/-- p was not there, or held -/
def Frs (σ : L2.St) (ρ : Rho) (H : Hp) (p : Addr) : Prop := ∀ o, H p = some o → ¬ Tbl o → Ow ρ σ p
/-- an expression that makes a new list -/
def upN (Z : Zx) (W : WX) (t : DA) : TE := fun σ H Q => ∃ ρ G Qd E, Ok Z σ ρ H G ∧ t ρ Qd E ∧
  (∀ ds vs p ρ' H', Ok Z σ ρ' H' (fun a => G a ∨ a = p) → Stp Z σ ρ H σ ρ' H' → Frs σ ρ H p → ¬ Hid ρ' σ G p → H' p = some (.lst vs) → RpL Z (vis H' (Hid ρ' σ fun a => G a ∨ a = p)) ds vs → Qd ds ρ' → Q (.ref p) H') ∧ XPE Z W σ ρ H G E
def lcD (g : DG) (tt : DT) (te : DE) (vs : List Nat) : List D → List D → Rho → (List D → Rho → Prop) → Prop
  | [], acc, ρ, Q => Q acc ρ
  | d :: ds, acc, ρ, Q => g d (wipeR ρ vs) fun ρ1 => tt ρ1 (fun b ρ2 => if b = true then
      te ρ2 (fun y ρ3 => lcD g tt te vs ds (acc ++ [y]) (bakR ρ ρ3 vs) Q) (fun _ _ => False) else lcD g tt te vs ds acc (bakR ρ ρ2 vs) Q) (fun _ _ => False)
def nLc (ti : DI) (g : DG) (tt : DT) (te : DE) (vs : List Nat) : DA := fun ρ Q E => (∀ v ∈ vs, heldAt ρ v = none) ∧ ti ρ (fun ds ρ' => (ds.length ≤ LIM ∧ ∀ v ∈ vs, heldAt ρ' v = none) ∧ lcD g tt te vs ds [] ρ' Q) E
/-- a new list as a value -/
def dOfN (t : DA) : DE := fun ρ Q E => t ρ (fun ds ρ' => Q (.lst ds) ρ') E
def tYesD : DT := fun ρ Q _ => Q true ρ
theorem slAt_wipe {ρ : Rho} : ∀ (vs : List Nat) (j : Nat), slAt (wipeR ρ vs) j = if j ∈ vs then .no else slAt ρ j
  | [], j => by simp [wipeR]
  | v :: vs, j => by
    have hl : (wipeR ρ vs).length = ρ.length := by
      clear j
      induction vs with
      | nil => rfl
      | cons w ws ih => unfold wipeR; rw [List.length_set, ih]
    unfold wipeR
    rw [slAt_set, slAt_wipe vs j]
    by_cases h : v = j
    · subst h
      by_cases k : v < ρ.length
      · simp [hl, k]
      · simp only [hl, k, and_false, if_false, List.mem_cons, true_or, if_true]
        split
        · rfl
        · exact Classical.byContradiction fun z => k (slAt_lt z)
    · have h' : ¬ j = v := fun z => h z.symm
      simp [h, h']
theorem wipeR_len {ρ : Rho} : ∀ vs : List Nat, (wipeR ρ vs).length = ρ.length
  | [] => rfl
  | v :: vs => by unfold wipeR; rw [List.length_set, wipeR_len vs]
theorem bakR_len {ρ ρe : Rho} : ∀ vs : List Nat, (bakR ρ ρe vs).length = ρe.length
  | [] => rfl
  | v :: vs => by unfold bakR; rw [List.length_set, bakR_len vs]
theorem slAt_bak {ρ ρe : Rho} (hl : ρ.length = ρe.length) : ∀ (vs : List Nat) (j : Nat), slAt (bakR ρ ρe vs) j = if j ∈ vs then slAt ρ j else slAt ρe j
  | [], j => by simp [bakR]
  | v :: vs, j => by
    unfold bakR
    rw [slAt_set, slAt_bak hl vs j, bakR_len]
    by_cases h : v = j
    · subst h
      by_cases k : v < ρe.length
      · simp [k]
      · have e1 : slAt ρ v = .no := Classical.byContradiction fun z => k (by rw [← hl]; exact slAt_lt z)
        have e2 : slAt ρe v = .no := Classical.byContradiction fun z => k (slAt_lt z)
        simp [k, e1, e2]
    · have h' : ¬ j = v := fun z => h z.symm
      simp [h, h']
theorem wipe_at {σ : L2.St} : ∀ (vs : List Nat) (j : Nat), (L2.wipe σ vs)[j]? = if j ∈ vs then (if j < σ.length then some none else none) else σ[j]?
  | [], j => by simp [L2.wipe]
  | v :: vs, j => by
    unfold L2.wipe
    rw [List.getElem?_set, wipe_at vs j, L2.wipe_length]
    by_cases h : v = j
    · subst h
      by_cases k : v < σ.length <;> simp [k]
    · have h' : ¬ j = v := fun z => h z.symm
      simp [h, h']
section
variable {X : Cx} {Z : Zx} {W : WX} {σ : L2.St} {ρ : Rho} {H : Hp} {G : Addr → Prop}
theorem Ok.held_tr (k : Ok Z σ ρ H G) : ∀ a, Hid ρ σ G a → ∃ o, H a = some o := fun a z => by
  rcases z with z | ⟨j, xs, e1, e2⟩
  · obtain ⟨o, q, _⟩ := k.gt a z
    exact ⟨o, q⟩
  · obtain ⟨b, ws, q1, q2, _⟩ := k.own j xs e1
    rw [q1] at e2
    cases e2
    exact ⟨_, q2⟩
/-- the slots of a comprehension forgotten -/
theorem Ok.wiped {vs : List Nat} (k : Ok Z σ ρ H G) (hv : ∀ v ∈ vs, heldAt ρ v = none) : Ok Z (L2.wipe σ vs) (wipeR ρ vs) H G ∧ Hid (wipeR ρ vs) (L2.wipe σ vs) G = Hid ρ σ G := by
  have held : ∀ j xs, heldAt (wipeR ρ vs) j = some xs ↔ heldAt ρ j = some xs := fun j xs => by
    unfold heldAt
    rw [slAt_wipe]
    by_cases h : j ∈ vs
    · have := hv j h
      unfold heldAt at this
      rw [if_pos h, this]
      exact ⟨(fun z => by cases z), (fun z => by cases z)⟩
    · rw [if_neg h]
  have sg : ∀ j xs, heldAt ρ j = some xs → (L2.wipe σ vs)[j]? = σ[j]? := fun j xs e => by
    rw [wipe_at, if_neg fun z => by rw [hv j z] at e; cases e]
  have ow : ∀ a, Ow (wipeR ρ vs) (L2.wipe σ vs) a ↔ Ow ρ σ a := fun a =>
    ⟨fun ⟨j, xs, e1, e2⟩ => ⟨j, xs, (held j xs).mp e1, by rw [← sg j xs ((held j xs).mp e1)]; exact e2⟩, fun ⟨j, xs, e1, e2⟩ => ⟨j, xs, (held j xs).mpr e1, by rw [sg j xs e1]; exact e2⟩⟩
  have eH : Hid (wipeR ρ vs) (L2.wipe σ vs) G = Hid ρ σ G := by
    funext a
    exact propext ⟨fun z => z.imp (fun z => z) (ow a).mp, fun z => z.imp (fun z => z) (ow a).mpr⟩
  refine ⟨⟨by rw [wipeR_len, L2.wipe_length]; exact k.len, fun j d e => ?_, fun j xs e => ?_, fun i j xs ys a q1 q2 q3 q4 => ?_, k.j, k.gt⟩, eH⟩
  · rw [slAt_wipe] at e
    by_cases h : j ∈ vs
    · rw [if_pos h] at e
      cases e
    · rw [if_neg h] at e
      obtain ⟨v, h1, h2⟩ := k.val j d e
      exact ⟨v, by rw [wipe_at, if_neg h]; exact h1, by rw [eH]; exact h2⟩
  · obtain ⟨a, ws, h1, h2, h3, h4⟩ := k.own j xs ((held j xs).mp e)
    exact ⟨a, ws, by rw [sg j xs ((held j xs).mp e)]; exact h1, h2, by rw [eH]; exact h3, h4⟩
  · rw [sg i xs ((held i xs).mp q1)] at q3
    rw [sg j ys ((held j ys).mp q2)] at q4
    exact k.inj i j xs ys a ((held i xs).mp q1) ((held j ys).mp q2) q3 q4
/-- behind an element: back to the slots around -/
theorem Ok.baked {vs : List Nat} {σe : L2.St} {ρe : Rho} {He : Hp} (k : Ok Z σ ρ H G) (hv : ∀ v ∈ vs, heldAt ρ v = none) (ke : Ok Z σe ρe He G) (s : Stp Z (L2.wipe σ vs) (wipeR ρ vs) H σe ρe He) (hlen : σe.length = σ.length) (oσ : ∀ j, j ∉ vs → σe[j]? = σ[j]?) :
    Ok Z σ (bakR ρ ρe vs) He G ∧ Stp Z σ ρ H σ (bakR ρ ρe vs) He ∧ Sub (vis He (Hid ρe σe G)) (vis He (Hid (bakR ρ ρe vs) σ G)) ∧ ∀ v ∈ vs, heldAt (bakR ρ ρe vs) v = none := by
  obtain ⟨kw, eH⟩ := k.wiped hv
  have hl : ρ.length = ρe.length := by
    rw [ke.len, hlen]
    exact k.len
  have at_ := slAt_bak hl vs
  have held : ∀ j xs, heldAt (bakR ρ ρe vs) j = some xs → j ∉ vs ∧ heldAt ρe j = some xs := fun j xs e => by
    unfold heldAt at e ⊢
    rw [at_] at e
    by_cases h : j ∈ vs
    · rw [if_pos h] at e
      have z := hv j h
      unfold heldAt at z
      rw [z] at e
      cases e
    · rw [if_neg h] at e
      exact ⟨h, e⟩
  have ow : ∀ a, Ow (bakR ρ ρe vs) σ a → Ow ρe σe a := fun a ⟨j, xs, e1, e2⟩ => by
    obtain ⟨h1, h2⟩ := held j xs e1
    exact ⟨j, xs, h2, by rw [oσ j h1]; exact e2⟩
  have owW : ∀ a, Ow (wipeR ρ vs) (L2.wipe σ vs) a → Ow ρ σ a := fun a ⟨j, xs, e1, e2⟩ => by
    unfold heldAt at e1
    rw [slAt_wipe] at e1
    by_cases h : j ∈ vs
    · rw [if_pos h] at e1
      cases e1
    · rw [if_neg h] at e1
      rw [wipe_at, if_neg h] at e2
      exact ⟨j, xs, e1, e2⟩
  have sub : Sub (vis He (Hid ρe σe G)) (vis He (Hid (bakR ρ ρe vs) σ G)) := vis_sub fun a o h n _ => ⟨fun z => n (z.imp (fun z => z) (ow a)), h⟩
  have sub0 : Sub (vis H (Hid ρ σ G)) (vis He (Hid (bakR ρ ρe vs) σ G)) := by
    have q : Sub (vis H (Hid (wipeR ρ vs) (L2.wipe σ vs) G)) (vis He (Hid ρe σe G)) := s.vis
    rw [eH] at q
    exact q.trans sub
  refine ⟨⟨by rw [bakR_len, ke.len, hlen], fun j d e => ?_, fun j xs e => ?_, fun i j xs ys a q1 q2 q3 q4 => ?_, ke.j, ke.gt⟩, ⟨fun a o h m n => s.keep a o h m fun z => n (owW a z), fun a o h m n z => s.out a o h m (fun z => n (owW a z)) (ow a z), fun j xs e => ⟨rfl, ?_⟩⟩, sub, fun v hm => ?_⟩
  · rw [at_] at e
    by_cases h : j ∈ vs
    · rw [if_pos h] at e
      obtain ⟨v, h1, h2⟩ := k.val j d e
      exact ⟨v, h1, h2.sub sub0⟩
    · rw [if_neg h] at e
      obtain ⟨v, h1, h2⟩ := ke.val j d e
      exact ⟨v, by rw [← oσ j h]; exact h1, h2.sub sub⟩
  · obtain ⟨h1, h2⟩ := held j xs e
    obtain ⟨a, ws, w1, w2, w3, w4⟩ := ke.own j xs h2
    exact ⟨a, ws, by rw [← oσ j h1]; exact w1, w2, w3.sub sub, w4⟩
  · obtain ⟨h1, h2⟩ := held i xs q1
    obtain ⟨h3, h4⟩ := held j ys q2
    exact ke.inj i j xs ys a h2 h4 (by rw [oσ i h1]; exact q3) (by rw [oσ j h3]; exact q4)
  · have hj : j ∉ vs := fun z => by
      have w := hv j z
      unfold heldAt at w
      rw [e] at w
      cases w
    obtain ⟨_, xs', q⟩ := s.brw j xs (by rw [slAt_wipe, if_neg hj]; exact e)
    exact ⟨xs', by rw [at_, if_neg hj]; exact q⟩
  · unfold heldAt
    rw [at_, if_pos hm]
    exact hv v hm
/-- the list that a comprehension fills is hidden meanwhile -/
theorem Ok.hide {D : Addr} {vs : List V} [GoodJ Z] (k : Ok Z σ ρ H G) (hD : H D = none) : Ok Z σ ρ (upd H D (.lst vs)) (fun a => G a ∨ a = D) ∧ vis (upd H D (.lst vs)) (Hid ρ σ fun a => G a ∨ a = D) = vis H (Hid ρ σ G) := by
  have sm := same_upd (o := .lst vs) hD
  have nD := k.fresh hD
  have eV : vis (upd H D (.lst vs)) (Hid ρ σ fun a => G a ∨ a = D) = vis H (Hid ρ σ G) := by
    funext a
    unfold vis
    by_cases h : a = D
    · subst h
      rw [if_pos (.inl (.inr rfl)), if_neg nD, hD]
    · by_cases h2 : Hid ρ σ G a
      · rw [if_pos h2, if_pos (show Hid ρ σ (fun a => G a ∨ a = D) a from h2.imp (fun z => .inl z) fun z => z)]
      · rw [if_neg h2, if_neg (fun z => z.elim (fun z => z.elim (fun z => h2 (.inl z)) h) fun z => h2 (.inr z)), upd_ne h]
  have k1 := k.ext sm
  refine ⟨⟨k.len, fun i d e => ?_, fun i xs e => ?_, k.inj, k1.j, fun a z => ?_⟩, eV⟩
  · obtain ⟨v, h1, h2⟩ := k.val i d e
    exact ⟨v, h1, by rw [eV]; exact h2⟩
  · obtain ⟨a, ws, h1, h2, h3, h4⟩ := k.own i xs e
    refine ⟨a, ws, h1, sm _ _ h2, by rw [eV]; exact h3, fun z => z.elim h4 fun z => ?_⟩
    rw [z, hD] at h2
    cases h2
  · rcases z with z | z
    · obtain ⟨o, h1, h2⟩ := k.gt a z
      exact ⟨o, sm _ _ h1, h2⟩
    · rw [z]
      exact ⟨_, upd_same, fun z => z⟩
/-- the hidden list grows -/
theorem Ok.grow {D : Addr} {vs ws : List V} [GoodJ Z] {G' : Addr → Prop} (k : Ok Z σ ρ H G') (hD : H D = some (.lst vs)) (hG : G' D) : Ok Z σ ρ (upd H D (.lst ws)) G' ∧ vis (upd H D (.lst ws)) (Hid ρ σ G') = vis H (Hid ρ σ G') := by
  have eV : vis (upd H D (.lst ws)) (Hid ρ σ G') = vis H (Hid ρ σ G') := by
    funext a
    unfold vis
    by_cases h : a = D
    · subst h
      rw [if_pos (.inl hG), if_pos (.inl hG)]
    · by_cases h2 : Hid ρ σ G' a
      · rw [if_pos h2, if_pos h2]
      · rw [if_neg h2, if_neg h2, upd_ne h]
  refine ⟨⟨k.len, fun i d e => ?_, fun i xs e => ?_, k.inj, ?_, fun a z => ?_⟩, eV⟩
  · obtain ⟨v, h1, h2⟩ := k.val i d e
    exact ⟨v, h1, by rw [eV]; exact h2⟩
  · obtain ⟨a, us, h1, h2, h3, h4⟩ := k.own i xs e
    have hne : a ≠ D := fun z => h4 (by rw [z]; exact hG)
    exact ⟨a, us, h1, by rw [upd_ne hne]; exact h2, by rw [eV]; exact h3, h4⟩
  · refine GoodJ.j H _ (fun a o h nc => ?_) k.j
    have hne : a ≠ D := fun z => by
      rw [z, hD] at h
      cases h
      exact nc trivial
    rw [upd_ne hne]
    exact h
  · by_cases h : a = D
    · rw [h]
      exact ⟨_, upd_same, fun z => z⟩
    · obtain ⟨o, h1, h2⟩ := k.gt a z
      exact ⟨o, by rw [upd_ne h]; exact h1, h2⟩
theorem PTs.wk {ifs : List Expr} {t t' : TT} (h : PTs X ifs t) (k : ∀ σ H Q, t' σ H Q → t σ H Q) : PTs X ifs t' := ⟨fun pins s σ H Q I z => h.run pins s σ H Q I (k σ H Q z)⟩
theorem dts_nil : PTs X [] (upT Z W tYesD) := PTs.wk pts_nil fun σ H Q ⟨ρ, G, Qd, E, ok, h, hq, hx⟩ => hq true ρ H ok .refl h
theorem dts_one {c : Expr} {t : DT} (h : PT X c (upT Z W t)) : PTs X [c] (upT Z W t) := pts_one h
/-- nothing is wished of an exception -/
abbrev W0 : WX := fun _ _ _ _ => False
theorem XPE.none {E : EQ} (h : ∀ x ρ, E x ρ → False) : XPE Z W σ ρ H G E := fun x c dd ρ' H' _ _ _ e => (h x ρ' e).elim
theorem wipe_eq {vs : List Nat} {σ2 : L2.St} (hl : σ2.length = σ.length) (h : ∀ j, j ∉ vs → σ2[j]? = σ[j]?) : L2.wipe σ2 vs = L2.wipe σ vs := by
  apply List.ext_getElem?
  intro j
  rw [wipe_at, wipe_at, hl]
  by_cases q : j ∈ vs
  · rw [if_pos q, if_pos q]
  · rw [if_neg q, if_neg q, h j q]
theorem Ok.shown {p : Addr} {vs : List V} (k : Ok Z σ ρ H fun a => G a ∨ a = p) : Ok Z σ ρ H G ∧ Sub (vis H (Hid ρ σ fun a => G a ∨ a = p)) (vis H (Hid ρ σ G)) := by
  have sub : Sub (vis H (Hid ρ σ fun a => G a ∨ a = p)) (vis H (Hid ρ σ G)) := vis_sub fun a o h n _ => ⟨fun z => n (z.imp .inl fun z => z), h⟩
  exact ⟨⟨k.len, fun j d e => by
      obtain ⟨v, w1, w2⟩ := k.val j d e
      exact ⟨v, w1, w2.sub sub⟩, fun j xs e => by
      obtain ⟨b, us, w1, w2, w3, w4⟩ := k.own j xs e
      exact ⟨b, us, w1, w2, w3.sub sub, fun z => w4 (.inl z)⟩, k.inj, k.j, fun a z => k.gt a (.inl z)⟩, sub⟩
theorem up_ofN {t : DA} (σ : L2.St) (H : Hp) (Q : VK) (h : upE Z W (dOfN t) σ H Q) : upN Z W t σ H Q := by
  obtain ⟨ρ, G, Qd, E, ok, h, hq, hx⟩ := h
  refine ⟨ρ, G, _, E, ok, h, fun ds vs p ρ1 H1 ok1 s1 fr nh hp r q => ?_, hx⟩
  obtain ⟨k1, k2⟩ := ok1.shown (vs := vs)
  exact hq (.lst ds) (.ref p) ρ1 H1 k1 s1 ⟨p, vs, rfl, vis_some.mpr ⟨nh, hp⟩, r.sub k2⟩ q
theorem up_lcN [GoodJ Z] {ti : DI} {ts : List Nat} {g : DG} {tt : DT} {te : DE} {vs : List Nat} (hts : ∀ i ∈ ts, i ∈ vs) (σ : L2.St) (H : Hp) (Q : VK) (h : upN Z W (nLc ti g tt te vs) σ H Q) :
    tLc (upI Z W ti) (upG Z ts g) (upT Z W0 tt) (upE Z W0 te) vs σ H Q := by
  obtain ⟨ρ, G, Qd, E, ok, ⟨_, h⟩, hq, hx⟩ := h
  refine ⟨ρ, G, _, E, ok, h, fun ds ρ1 H1 J ok1 s1 it h1 => ?_, hx⟩
  obtain ⟨⟨hz, hv⟩, h1⟩ := h1
  intro L hL
  obtain ⟨okh, eVh⟩ := ok1.hide (vs := []) hL
  have nL := ok1.fresh hL
  refine ⟨fun i m H' => m = ds.length - i ∧ i ≤ ds.length ∧ ∃ ρ' acc ws, Ok Z σ ρ' H' (fun a => G a ∨ a = L) ∧ H' L = some (.lst ws) ∧ ws.length ≤ i ∧ RpL Z (vis H' (Hid ρ' σ fun a => G a ∨ a = L)) acc ws ∧
    Stp Z σ ρ1 (upd H1 L (.lst [])) σ ρ' (upd H' L (.lst [])) ∧ (∀ v ∈ vs, heldAt ρ' v = none) ∧ lcD g tt te vs (ds.drop i) acc ρ' Qd,
    ⟨ds.length, by simp, Nat.zero_le _, ρ1, [], [], okh, upd_same, Nat.le_refl _, trivial, by rw [upd_upd]; exact .refl, hv, h1⟩, ?_⟩
  rintro i m H' ⟨rfl, hle, ρ', acc, ws, ok', hL', hw, ra, s', hv', h'⟩
  have keep1 : ∀ a o, H1 a = some o → ¬ Tbl o → ¬ Ow ρ1 σ a → H' a = some o ∧ ¬ Ow ρ' σ a := fun a o h n m => by
    have hne : a ≠ L := ne_of_none h hL
    have q1 := s'.keep a o (by rw [upd_ne hne]; exact h) n m
    rw [upd_ne hne] at q1
    exact ⟨q1, s'.out a o (by rw [upd_ne hne]; exact h) n m⟩
  have subA : Sub (vis H1 (Hid ρ1 σ G)) (vis H' (Hid ρ' σ fun a => G a ∨ a = L)) := vis_sub fun a o h n m => by
    obtain ⟨q1, q2⟩ := keep1 a o h m fun z => n (.inr z)
    exact ⟨fun z => z.elim (fun z => z.elim (fun z => n (.inl z)) (ne_of_none h hL)) q2, q1⟩
  obtain ⟨go, stop⟩ := it i H' _ subA ok'.held_tr
  by_cases hlt : i < ds.length
  · obtain ⟨hgo, hy⟩ := go hlt
    refine .inr ⟨hgo, fun H2 => ∃ ρ2 acc2 ws2, Ok Z σ ρ2 H2 (fun a => G a ∨ a = L) ∧ H2 L = some (.lst ws2) ∧ ws2.length ≤ i + 1 ∧ RpL Z (vis H2 (Hid ρ2 σ fun a => G a ∨ a = L)) acc2 ws2 ∧
      Stp Z σ ρ1 (upd H1 L (.lst [])) σ ρ2 (upd H2 L (.lst [])) ∧ (∀ v ∈ vs, heldAt ρ2 v = none) ∧ lcD g tt te vs (ds.drop (i + 1)) acc2 ρ2 Qd, fun H2 z => ⟨ds.length - (i + 1), by omega, rfl, hlt, z⟩, fun x H2 y => ?_⟩
    obtain ⟨sm, d, hd, r⟩ := hy x H2 y
    have ed : ds.drop i = d :: ds.drop (i + 1) := by
      rw [List.drop_eq_getElem_cons hlt]
      rw [List.getElem?_eq_getElem hlt] at hd
      rw [Option.some.inj hd]
    rw [ed] at h'
    have ok2 := ok'.ext sm
    obtain ⟨okw, eHw⟩ := ok2.wiped hv'
    refine ⟨d, _, _, _, okw, by rw [eHw]; exact r, h', fun σ3 ρ3 ok3 s3 o3 q3 => ?_⟩
    have o3' : ∀ j, j ∉ vs → σ3[j]? = σ[j]? := fun j hj => by
      rw [(o3.2 j fun z => hj (hts j z)).1, wipe_at, if_neg hj]
    have l3 : σ3.length = σ.length := o3.1.trans (L2.wipe_length σ vs)
    refine ⟨wipe_eq l3 o3', ρ3, _, _, _, ok3, q3, fun b ρ4 H4 ok4 s4 q4 => ?_, XPE.none fun _ _ z => z⟩
    have s34 := s3.trans s4
    have fin : ∀ {ρ5 : Rho} {H5 : Hp}, Ok Z σ3 ρ5 H5 (fun a => G a ∨ a = L) → Stp Z (L2.wipe σ vs) (wipeR ρ' vs) H2 σ3 ρ5 H5 → H5 L = some (.lst ws) ∧ Ok Z σ (bakR ρ' ρ5 vs) H5 (fun a => G a ∨ a = L) ∧ Sub (vis H5 (Hid ρ5 σ3 fun a => G a ∨ a = L)) (vis H5 (Hid (bakR ρ' ρ5 vs) σ fun a => G a ∨ a = L)) ∧
        (∀ v ∈ vs, heldAt (bakR ρ' ρ5 vs) v = none) ∧ RpL Z (vis H5 (Hid (bakR ρ' ρ5 vs) σ fun a => G a ∨ a = L)) acc ws ∧ ∀ H6 : Hp, (∀ a, a ≠ L → H6 a = H5 a) → Stp Z σ ρ1 (upd H1 L (.lst [])) σ (bakR ρ' ρ5 vs) (upd H6 L (.lst [])) := fun {ρ5 H5} ok5 s5 => by
      obtain ⟨b1, b2, b3, b4⟩ := ok2.baked hv' ok5 s5 l3 o3'
      have nOwL : ¬ Ow ρ' σ L := fun ⟨j, xs, e1, e2⟩ => by
        obtain ⟨b, us, w1, w2, w3, w4⟩ := ok'.own j xs e1
        rw [w1] at e2
        cases e2
        exact w4 (.inr rfl)
      refine ⟨b2.keep L _ (sm _ _ hL') (fun z => z) nOwL, b1, b3, b4, ra.sub ((vis_ext sm).trans b2.vis), fun H6 e6 => ?_⟩
      refine ⟨fun a o h n m => ?_, fun a o h n m => ?_, fun j xs e => ?_⟩
      · by_cases hne : a = L
        · rw [hne, upd_same] at h ⊢
          exact h
        · rw [upd_ne hne] at h ⊢
          obtain ⟨q1, q2⟩ := keep1 a o h n m
          rw [e6 a hne]
          exact b2.keep a o (sm _ _ q1) n q2
      · by_cases hne : a = L
        · intro z
          rw [hne] at z
          exact b2.out L _ (sm _ _ hL') (fun z => z) nOwL z
        · rw [upd_ne hne] at h
          obtain ⟨q1, q2⟩ := keep1 a o h n m
          exact b2.out a o (sm _ _ q1) n q2
      · obtain ⟨_, xs1, w1⟩ := s'.brw j xs e
        obtain ⟨_, xs2, w2⟩ := b2.brw j xs1 w1
        exact ⟨rfl, xs2, w2⟩
    cases b with
    | true =>
      rw [if_pos rfl] at q4
      refine iteT ?_
      refine ⟨ρ4, _, _, _, ok4, q4, fun y u ρ5 H5 ok5 s5 r5 q5 => ?_, XPE.none fun _ _ z => z⟩
      obtain ⟨f1, f2, f3, f4, f5, f6⟩ := fin ok5 (s34.trans s5)
      obtain ⟨g1, g2⟩ := f2.grow (ws := ws ++ [u]) f1 (.inr rfl)
      refine ⟨ws, f1, ?_, bakR ρ' ρ5 vs, acc ++ [y], ws ++ [u], g1, upd_same, by rw [List.length_append, List.length_singleton]; omega, ?_, f6 _ (fun a h => upd_ne h), f4, q5⟩
      · have := LIM_le
        have : (LIM : Nat) = 1000000 := rfl
        omega
      · rw [g2]
        exact f5.append ⟨r5.sub f3, trivial⟩
    | false =>
      rw [if_neg (by decide)] at q4
      refine iteF ?_
      obtain ⟨f1, f2, f3, f4, f5, f6⟩ := fin ok4 s34
      exact ⟨bakR ρ' ρ4 vs, acc, ws, f2, f1, by omega, f5, f6 _ (fun _ _ => rfl), f4, q4⟩
  · have e : i = ds.length := by omega
    refine .inl ⟨stop e, ?_⟩
    rw [e, List.drop_length] at h'
    have nOwL : ¬ Ow ρ' σ L := fun ⟨j, xs, e1, e2⟩ => by
      obtain ⟨b, us, w1, w2, w3, w4⟩ := ok'.own j xs e1
      rw [w1] at e2
      cases e2
      exact w4 (.inr rfl)
    have nHL : ¬ Hid ρ' σ G L := fun z => z.elim (fun z => nL (.inl z)) nOwL
    have sF : Stp Z σ ρ1 H1 σ ρ' H' := ⟨fun a o h n m => (keep1 a o h n m).1, fun a o h n m => (keep1 a o h n m).2, fun j xs e => s'.brw j xs e⟩
    refine hq acc ws L ρ' H' ok' (s1.trans sF) (fun o ho hn => Classical.byContradiction fun z => ?_) nHL hL' ra h'
    have q := s1.keep L o ho hn z
    rw [hL] at q
    cases q
instance fit_blk {s : Shared} {H : Hp} {scope : Scope} {cenv : Env} {fp : List Addr} [F : Fit X Z] : Fit (X.blk s H scope cenv fp) Z := ⟨F.K, F.mg⟩
instance fit_tr {pn : List (Addr × Obj)} {xe : Value → Shared → Prop} [F : Fit X Z] : Fit (X.tr pn xe) Z := ⟨F.K, F.mg⟩
instance fit_wish {xe : Value → Shared → Prop} [F : Fit X Z] : Fit (X.wish xe) Z := ⟨F.K, F.mg⟩
end
end TS
set_option Elab.async false
set_option linter.all false
set_option maxRecDepth 100000
set_option maxHeartbeats 4000000
set_option exponentiation.threshold 10000
namespace TS
open PySem PySem.Spec PyProof.Rows L2
/-! ### displays -/
def dTupL (t : DA) : DE := fun ρ Q E => t ρ (fun ds ρ' => ds.length ≤ LIM ∧ Q (.tup ds) ρ') E
def nLst (t : DA) : DA := fun ρ Q E => t ρ (fun ds ρ' => ds.length ≤ LIM ∧ Q ds ρ') E
section
variable {X : Cx} {Z : Zx} {W : WX} {σ : L2.St} {ρ : Rho} {H : Hp} {G : Addr → Prop}
theorem de_tup [GoodJ Z] {es : List Expr} {k : Nat} {t : DA} {pos : Pos} (ha : PA X es (upA Z W t)) : PE X (.Tuple es k pos) (upE Z W (dTupL t)) := PE.wk (pe_tup ha) fun σ H Q ⟨ρ, G, Qd, E, ok, h, hq, hx⟩ => by
  refine ⟨ρ, G, _, E, ok, h, fun ds vs ρ1 H1 ok1 s1 r1 h1 => ⟨by rw [← r1.len]; exact Nat.le_trans h1.1 LIM_le, fun p hp => ?_⟩, hx⟩
  exact hq (.tup ds) (.ref p) ρ1 _ (ok1.ext (same_upd hp)) (s1.trans (.ext (same_upd hp))) ⟨p, vs, rfl, .of (ok1.freshV hp), r1.sub (vis_ext (same_upd hp))⟩ h1.2
/-- a new list laid by a constructor -/
theorem Ok.laid [GoodJ Z] {p : Addr} {ds : List D} {vs : List V} (k : Ok Z σ ρ H G) (hp : H p = none) (r : RpL Z (vis H (Hid ρ σ G)) ds vs) :
    Ok Z σ ρ (upd H p (.lst vs)) (fun a => G a ∨ a = p) ∧ ¬ Hid ρ σ G p ∧ RpL Z (vis (upd H p (.lst vs)) (Hid ρ σ fun a => G a ∨ a = p)) ds vs := by
  obtain ⟨k1, k2⟩ := k.hide (vs := vs) hp
  exact ⟨k1, k.fresh hp, by rw [k2]; exact r⟩
theorem Stp.frs {σ1 : L2.St} {ρ1 : Rho} {H1 : Hp} {p : Addr} (s : Stp Z σ ρ H σ1 ρ1 H1) (hp : H1 p = none) : Frs σ ρ H p := fun o ho hn => Classical.byContradiction fun z => by
  have q := s.keep p o ho hn z
  rw [hp] at q
  cases q
theorem de_lstN [GoodJ Z] {es : List Expr} {t : DA} {pos : Pos} (ha : PA X es (upA Z W t)) : PE X (.List es pos) (upN Z W (nLst t)) := PE.wk (pe_lst ha) fun σ H Q ⟨ρ, G, Qd, E, ok, h, hq, hx⟩ => by
  refine ⟨ρ, G, _, E, ok, h, fun ds vs ρ1 H1 ok1 s1 r1 h1 => ⟨by rw [← r1.len]; exact Nat.le_trans h1.1 LIM_le, fun p hp => ?_⟩, hx⟩
  obtain ⟨k1, k2, k3⟩ := ok1.laid hp r1
  exact hq ds vs p ρ1 _ k1 (s1.trans (.ext (same_upd hp))) (s1.frs hp) k2 upd_same k3 h1.2
/-- a new list, as a value -/
theorem de_ofN {e : Expr} {t : DA} (h : PE X e (upN Z W t)) : PE X e (upE Z W (dOfN t)) := PE.wk h up_ofN
/-- list(e) -/
def nList (t : DA) : DA := fun ρ Q E => t ρ (fun ds ρ' => match ds with
  | [.tup xs] => Q xs ρ'
  | [.lst xs] => Q xs ρ'
  | _ => False) E
theorem de_listN [GoodJ Z] [F : Fit X Z] {e : Expr} {t : DA} {p pos : Pos} (hm : Z.mg "list" = none) (ha : PA X [e] (upA Z W t)) (hg : Gl X "list" := by rfl)
    (he : starEach [e] X.env = (false, eval e X.env) :: starEach [] X.env := by rfl) (hpl : (backTo pos (starEach [] X.env)).any (·.1) = false := by rfl) :
    PE X (.Call (.Name "list" p) [e] [] pos) (upN Z W (nList t)) := PE.wk (pe_callTy call_list_of hg (by rw [F.mg]; exact hm) boot_list ha (by decide) (by decide) he hpl) fun σ H Q ⟨ρ, G, Qd, E, ok, h, hq, hx⟩ => by
  refine ⟨ρ, G, _, E, ok, h, fun ds vs ρ1 H1 ok1 s1 r1 h1 => ?_, hx⟩
  rw [F.K]
  split at h1
  · obtain ⟨v, rfl, a, ws, rfl, q, r⟩ := r1.one
    refine ⟨a, ws, rfl, .inr (vis_sqT q), fun p hp => ?_⟩
    obtain ⟨k1, k2, k3⟩ := ok1.laid hp r
    exact hq _ ws p ρ1 _ k1 (s1.trans (.ext (same_upd hp))) (s1.frs hp) k2 upd_same k3 h1
  · obtain ⟨v, rfl, a, ws, rfl, q, r⟩ := r1.one
    refine ⟨a, ws, rfl, .inl (.of (vis_some.mp q).2), fun p hp => ?_⟩
    obtain ⟨k1, k2, k3⟩ := ok1.laid hp r
    exact hq _ ws p ρ1 _ k1 (s1.trans (.ext (same_upd hp))) (s1.frs hp) k2 upd_same k3 h1
  · exact h1.elim
/-! ### comprehensions -/
theorem de_lcN [GoodJ Z] {elt tg iter : Expr} {ifs : List Expr} {scope : Scope} {own : List (Str × Nat)} {ts : List Nat} {pos : Pos} {ti : DI} {g : DG} {tt : DT} {te : DE} (hc : X.calm = true) (hN : X.N.Nodup) (ok : BlkOk X.N X.env.scope scope own) (hi : PI X tg iter (upI Z W ti))
    (hg : ∀ (s : Shared) (H : Hp) (C : Addr) (cl : List (Str × Addr)) (fp : List Addr), PG (X.blk s H scope (compEnvC scope cl C X.env) fp) tg (upG Z ts g))
    (ht : ∀ (s : Shared) (H : Hp) (C : Addr) (cl : List (Str × Addr)) (fp : List Addr), PTs (X.blk s H scope (compEnvC scope cl C X.env) fp) ifs (upT Z W0 tt))
    (he : ∀ (s : Shared) (H : Hp) (C : Addr) (cl : List (Str × Addr)) (fp : List Addr), PE (X.blk s H scope (compEnvC scope cl C X.env) fp) elt (upE Z W0 te))
    (hts : ∀ i ∈ ts, i ∈ own.map (·.2) := by decide) (hs : ∀ x, foldedSetIterable iter X.env x = pure x := by intro _; rfl) :
    PE X (.ListComp elt [⟨tg, iter, ifs, 0⟩] scope pos) (upN Z W (nLc ti g tt te (own.map (·.2)))) := PE.wk (pe_lc hc hN hi ok hg ht he hs) (up_lcN hts)
/-- name = [..], the name a plain local: a value, or one's own -/
theorem ds_setLc [GoodJ Z] {i : Nat} {y : Str} {py : Pos} {elt tg iter : Expr} {ifs : List Expr} {scope : Scope} {own : List (Str × Nat)} {ts : List Nat} {pos spos : Pos} {ti : DI} {g : DG} {tt : DT} {te : DE} (hc : X.calm = true) (hN : X.N.Nodup) (ok : BlkOk X.N X.env.scope scope own) (hi : PI X tg iter (upI Z W ti))
    (hg : ∀ (s : Shared) (H : Hp) (C : Addr) (cl : List (Str × Addr)) (fp : List Addr), PG (X.blk s H scope (compEnvC scope cl C X.env) fp) tg (upG Z ts g))
    (ht : ∀ (s : Shared) (H : Hp) (C : Addr) (cl : List (Str × Addr)) (fp : List Addr), PTs (X.blk s H scope (compEnvC scope cl C X.env) fp) ifs (upT Z W0 tt))
    (he : ∀ (s : Shared) (H : Hp) (C : Addr) (cl : List (Str × Addr)) (fp : List Addr), PE (X.blk s H scope (compEnvC scope cl C X.env) fp) elt (upE Z W0 te))
    (hsw : swapsWith (.ListComp elt [⟨tg, iter, ifs, 0⟩] scope pos) (some (.Name y py)) spos.line X.env = pure true) (hy : X.N[i]? = some y := by rfl) (hyl : X.env.scope.names.lookup y = some .local := by rfl)
    (hts : ∀ i ∈ ts, i ∈ own.map (·.2) := by decide) (hs : ∀ x, foldedSetIterable iter X.env x = pure x := by intro _; rfl) :
    PS X (.Assign [.Name y py] (.ListComp elt [⟨tg, iter, ifs, 0⟩] scope pos) spos) (upS Z W (sAsg (dOfN (nLc ti g tt te (own.map (·.2)))) (gNm i))) :=
  PS.wk (ps_setLc hc hN hy hyl hsw hi ok hg ht he hs) fun B σ H ⟨ρ, G, DD, E, ok, h, hq, hx⟩ => up_lcN hts σ H _ (up_ofN σ H _ ⟨ρ, G, _, E, ok, h, fun d v ρ1 H1 ok1 s1 r1 h1 => by
    obtain ⟨k1, k2⟩ := ok1.set r1 h1.1
    exact (hq _ _ H1 k1 (s1.trans k2)).1 h1.2, hx.e⟩)
/-! ### lists of one's own -/
def sOwn (i : Nat) (t : DA) : DS := fun B E ρ => t ρ (fun ds ρ' => nb (slAt ρ' i) ∧ i < ρ'.length ∧ B.nx (ρ'.set i (.own ds))) E
theorem Ok.take {i : Nat} {p : Addr} {ds : List D} {vs : List V} {σ1 : L2.St} {ρ1 : Rho} {H1 : Hp} (k : Ok Z σ1 ρ1 H1 fun a => G a ∨ a = p) (s : Stp Z σ ρ H σ1 ρ1 H1) (fr : Frs σ ρ H p) (nh : ¬ Hid ρ1 σ1 G p) (hp : H1 p = some (.lst vs)) (r : RpL Z (vis H1 (Hid ρ1 σ1 fun a => G a ∨ a = p)) ds vs) (hb : nb (slAt ρ1 i)) (hi : i < ρ1.length) :
    Ok Z (σ1.set i (some (.ref p))) (ρ1.set i (.own ds)) H1 G ∧ Stp Z σ ρ H (σ1.set i (some (.ref p))) (ρ1.set i (.own ds)) H1 := by
  have hiσ : i < σ1.length := by
    have := k.len
    omega
  have sg : ∀ j, i ≠ j → (σ1.set i (some (V.ref p)))[j]? = σ1[j]? := fun j q => List.getElem?_set_ne q
  have sgi : (σ1.set i (some (V.ref p)))[i]? = some (some (.ref p)) := List.getElem?_set_self hiσ
  have held : ∀ j xs, heldAt (ρ1.set i (.own ds)) j = some xs → (i = j ∧ xs = ds) ∨ (i ≠ j ∧ heldAt ρ1 j = some xs) := fun j xs e => by
    unfold heldAt at e ⊢
    rw [slAt_set] at e
    by_cases q : i = j
    · subst q
      rw [if_pos ⟨rfl, hi⟩] at e
      cases e
      exact .inl ⟨rfl, rfl⟩
    · rw [if_neg (fun z => q z.1)] at e
      exact .inr ⟨q, e⟩
  have ow : ∀ a, Ow (ρ1.set i (.own ds)) (σ1.set i (some (.ref p))) a → a = p ∨ Ow ρ1 σ1 a := fun a ⟨j, xs, e1, e2⟩ => by
    rcases held j xs e1 with ⟨q, _⟩ | ⟨q, e3⟩
    · rw [← q, sgi] at e2
      cases e2
      exact .inl rfl
    · rw [sg j q] at e2
      exact .inr ⟨j, xs, e3, e2⟩
  have sub : Sub (vis H1 (Hid ρ1 σ1 fun a => G a ∨ a = p)) (vis H1 (Hid (ρ1.set i (.own ds)) (σ1.set i (some (.ref p))) G)) := vis_sub fun a o h n _ => ⟨fun z => by
    rcases z with z | z
    · exact n (.inl (.inl z))
    · rcases ow a z with z | z
      · exact n (.inl (.inr z))
      · exact n (.inr z), h⟩
  refine ⟨⟨by rw [List.length_set, List.length_set]; exact k.len, fun j e q => ?_, fun j xs q => ?_, fun j l xs ys a q1 q2 q3 q4 => ?_, k.j, fun a z => k.gt a (.inl z)⟩, ⟨s.keep, fun a o h n m z => ?_, fun j xs q => ?_⟩⟩
  · rw [slAt_set] at q
    by_cases w : i = j
    · subst w
      rw [if_pos ⟨rfl, hi⟩] at q
      cases q
    · rw [if_neg (fun z => w z.1)] at q
      obtain ⟨u, h1, h2⟩ := k.val j e q
      exact ⟨u, by rw [sg j w]; exact h1, h2.sub sub⟩
  · rcases held j xs q with ⟨e0, rfl⟩ | ⟨q, e3⟩
    · subst e0
      exact ⟨p, vs, sgi, hp, r.sub sub, fun z => nh (.inl z)⟩
    · obtain ⟨a, ws, h1, h2, h3, h4⟩ := k.own j xs e3
      exact ⟨a, ws, by rw [sg j q]; exact h1, h2, h3.sub sub, fun z => h4 (.inl z)⟩
  · have np : ∀ j xs, heldAt ρ1 j = some xs → σ1[j]? ≠ some (some (.ref p)) := fun j xs e z => nh (.inr ⟨j, xs, e, z⟩)
    rcases held j xs q1 with ⟨w1, _⟩ | ⟨w1, e1⟩
    · rcases held l ys q2 with ⟨w2, _⟩ | ⟨w2, e2⟩
      · exact w1.symm.trans w2
      · rw [← w1, sgi] at q3
        cases q3
        rw [sg l w2] at q4
        exact absurd q4 (np l ys e2)
    · rcases held l ys q2 with ⟨w2, _⟩ | ⟨w2, e2⟩
      · rw [← w2, sgi] at q4
        cases q4
        rw [sg j w1] at q3
        exact absurd q3 (np j xs e1)
      · rw [sg j w1] at q3
        rw [sg l w2] at q4
        exact k.inj j l xs ys a e1 e2 q3 q4
  · rcases ow a z with z | z
    · subst z
      exact m (fr o h n)
    · exact s.out a o h n m z
  · obtain ⟨e1, xs', e2⟩ := s.brw j xs q
    have w : i ≠ j := fun z => by
      subst z
      rw [e2] at hb
      exact hb
    exact ⟨(sg j w).trans e1, xs', by rw [slAt_set, if_neg (fun z => w z.1)]; exact e2⟩
theorem take_sub {i : Nat} {p : Addr} {ds : List D} {ρ1 : Rho} {H1 : Hp} (hi : i < ρ1.length) (hl : ρ1.length = σ.length) : Sub (vis H1 (Hid ρ1 σ fun a => G a ∨ a = p)) (vis H1 (Hid (ρ1.set i (.own ds)) (σ.set i (some (.ref p))) G)) := vis_sub fun a o h n _ => ⟨fun z => by
  rcases z with z | ⟨j, xs, e1, e2⟩
  · exact n (.inl (.inl z))
  · by_cases q : i = j
    · subst q
      rw [List.getElem?_set_self (by omega)] at e2
      cases e2
      exact n (.inl (.inr rfl))
    · unfold heldAt at e1
      rw [slAt_set, if_neg (fun z => q z.1)] at e1
      rw [List.getElem?_set_ne q] at e2
      exact n (.inr ⟨j, xs, e1, e2⟩), h⟩
theorem ds_own {i : Nat} {x : Str} {e : Expr} {t : DA} {pos pos' : Pos} (hN : X.N.Nodup) (he : PE X e (upN Z W t)) (hi : X.N[i]? = some x := by rfl) (hx : Loc X.env.scope x := by first | exact Or.inl rfl | exact Or.inr rfl)
    (hs : swapsWith e (some (.Name x pos')) pos.line X.env = pure false := by rfl) (hf : X.fn x = true ∨ X.env.scope.names.lookup x = some .local := by first | exact .inl rfl | exact .inr rfl) :
    PS X (.Assign [.Name x pos'] e pos) (upS Z W (sOwn i t)) := PS.wk (ps_set hN hi hx he hs hf) fun B σ H ⟨ρ, G, DD, E, ok, h, hq, hx⟩ =>
  ⟨ρ, G, _, E, ok, h, fun ds vs p ρ1 H1 ok1 s1 fr nh hp r1 h1 => by
    obtain ⟨k1, k2⟩ := ok1.take s1 fr nh hp r1 h1.1 h1.2.1
    exact (hq _ _ H1 k1 k2).1 h1.2.2, hx.e⟩
theorem ds_ownLc [GoodJ Z] {i : Nat} {y : Str} {py : Pos} {elt tg iter : Expr} {ifs : List Expr} {scope : Scope} {own : List (Str × Nat)} {ts : List Nat} {pos spos : Pos} {ti : DI} {g : DG} {tt : DT} {te : DE} (hc : X.calm = true) (hN : X.N.Nodup) (ok : BlkOk X.N X.env.scope scope own) (hi : PI X tg iter (upI Z W ti))
    (hg : ∀ (s : Shared) (H : Hp) (C : Addr) (cl : List (Str × Addr)) (fp : List Addr), PG (X.blk s H scope (compEnvC scope cl C X.env) fp) tg (upG Z ts g))
    (ht : ∀ (s : Shared) (H : Hp) (C : Addr) (cl : List (Str × Addr)) (fp : List Addr), PTs (X.blk s H scope (compEnvC scope cl C X.env) fp) ifs (upT Z W0 tt))
    (he : ∀ (s : Shared) (H : Hp) (C : Addr) (cl : List (Str × Addr)) (fp : List Addr), PE (X.blk s H scope (compEnvC scope cl C X.env) fp) elt (upE Z W0 te))
    (hsw : swapsWith (.ListComp elt [⟨tg, iter, ifs, 0⟩] scope pos) (some (.Name y py)) spos.line X.env = pure true) (hy : X.N[i]? = some y := by rfl) (hyl : X.env.scope.names.lookup y = some .local := by rfl)
    (hts : ∀ i ∈ ts, i ∈ own.map (·.2) := by decide) (hs : ∀ x, foldedSetIterable iter X.env x = pure x := by intro _; rfl) :
    PS X (.Assign [.Name y py] (.ListComp elt [⟨tg, iter, ifs, 0⟩] scope pos) spos) (upS Z W (sOwn i (nLc ti g tt te (own.map (·.2))))) :=
  PS.wk (ps_setLc hc hN hy hyl hsw hi ok hg ht he hs) fun B σ H ⟨ρ, G, DD, E, ok, h, hq, hx⟩ => up_lcN hts σ H _ ⟨ρ, G, _, E, ok, h, fun ds vs p ρ1 H1 ok1 s1 fr nh hp r1 h1 => by
    obtain ⟨k1, k2⟩ := ok1.take s1 fr nh hp r1 h1.1 h1.2.1
    exact (hq _ _ H1 k1 k2).1 h1.2.2, hx.e⟩
/-! ### what a slot holds is changed, read -/
/-- a list that a slot holds is written anew -/
theorem Ok.put [GoodJ Z] {i : Nat} {ds es : List D} {a : Addr} {vs ws : List V} (k : Ok Z σ ρ H G) (hd : heldAt ρ i = some ds) (ha : σ[i]? = some (some (.ref a))) (hv : H a = some (.lst vs)) (r : RpL Z (vis H (Hid ρ σ G)) es ws) :
    Ok Z σ (putAt ρ i es) (upd H a (.lst ws)) G ∧ Stp Z σ ρ H σ (putAt ρ i es) (upd H a (.lst ws)) := by
  have ho : Ow ρ σ a := ⟨i, ds, hd, ha⟩
  have eH : Hid (putAt ρ i es) σ G = Hid ρ σ G := by
    funext b
    exact propext ⟨fun z => z.imp (fun z => z) (Ow_put hd b).mp, fun z => z.imp (fun z => z) (Ow_put hd b).mpr⟩
  have eV : vis (upd H a (.lst ws)) (Hid ρ σ G) = vis H (Hid ρ σ G) := by
    funext b
    unfold vis
    by_cases q : b = a
    · subst q
      rw [if_pos (.inr ho), if_pos (.inr ho)]
    · by_cases q2 : Hid ρ σ G b
      · rw [if_pos q2, if_pos q2]
      · rw [if_neg q2, if_neg q2, upd_ne q]
  have nG : ¬ G a := by
    obtain ⟨b, us, h1, _, _, h4⟩ := k.own i ds hd
    rw [ha] at h1
    cases h1
    exact h4
  refine ⟨⟨by unfold putAt; rw [List.length_set]; exact k.len, fun j e q => ?_, fun j xs q => ?_, fun j l xs ys b q1 q2 q3 q4 => ?_, ?_, fun b z => ?_⟩, ⟨fun b o h n m => ?_, fun b o h n m z => m ((Ow_put hd b).mp z), fun j xs q => ⟨rfl, ?_⟩⟩⟩
  · have hij : i ≠ j := fun z => by
      subst z
      unfold putAt at q
      rw [slAt_set, if_pos ⟨rfl, heldAt_lt hd⟩] at q
      unfold heldAt at hd
      cases w : slAt ρ i with
      | no => rw [w] at hd; cases hd
      | val d => rw [w] at hd; cases hd
      | own xs => rw [w] at q; cases q
      | brw xs => rw [w] at q; cases q
    unfold putAt at q
    rw [slAt_set, if_neg (fun z => hij z.1)] at q
    obtain ⟨v, h1, h2⟩ := k.val j e q
    exact ⟨v, h1, by rw [eH, eV]; exact h2⟩
  · rw [heldAt_put hd] at q
    by_cases hij : i = j
    · rw [if_pos hij] at q
      cases q
      subst hij
      exact ⟨a, ws, ha, upd_same, by rw [eH, eV]; exact r, nG⟩
    · rw [if_neg hij] at q
      obtain ⟨b, us, h1, h2, h3, h4⟩ := k.own j xs q
      have hne : b ≠ a := fun z => by
        subst z
        exact hij (k.inj i j ds xs b hd q ha h1)
      exact ⟨b, us, h1, by rw [upd_ne hne]; exact h2, by rw [eH, eV]; exact h3, h4⟩
  · have f : ∀ (j : Nat) (xs : List D), heldAt (putAt ρ i es) j = some xs → ∃ ys, heldAt ρ j = some ys := fun j xs z => by
      rw [heldAt_put hd] at z
      by_cases hij : i = j
      · rw [← hij]
        exact ⟨ds, hd⟩
      · rw [if_neg hij] at z
        exact ⟨xs, z⟩
    obtain ⟨xs', w1⟩ := f j xs q1
    obtain ⟨ys', w2⟩ := f l ys q2
    exact k.inj j l xs' ys' b w1 w2 q3 q4
  · refine GoodJ.j H _ (fun b o h nc => ?_) k.j
    have hne : b ≠ a := fun z => by
      subst z
      rw [hv] at h
      cases h
      exact nc trivial
    rw [upd_ne hne]
    exact h
  · obtain ⟨o, h1, h2⟩ := k.gt b z
    exact ⟨o, by rw [upd_ne (fun q => nG (by rw [← q]; exact z))]; exact h1, h2⟩
  · rw [upd_ne (fun q => m (by rw [q]; exact ho))]
    exact h
  · by_cases hij : i = j
    · subst hij
      refine ⟨es, ?_⟩
      unfold putAt
      rw [slAt_set, if_pos ⟨rfl, heldAt_lt hd⟩, q]
      rfl
    · refine ⟨xs, ?_⟩
      unfold putAt
      rw [slAt_set, if_neg (fun z => hij z.1)]
      exact q
def Held (ρ : Rho) (i : Nat) : Prop := ∃ ds, heldAt ρ i = some ds
/-- x.append(e) -/
def sApp (i : Nat) (t : DA) : DS := fun B E ρ => Held ρ i ∧ t ρ (fun es ρ' => ∃ d ds, es = [d] ∧ heldAt ρ' i = some ds ∧ ds.length < LIM ∧ B.nx (putAt ρ' i (ds ++ [d]))) E
theorem ds_app [GoodJ Z] {i : Nat} {x : Str} {e : Expr} {t : DA} {px apos cpos pos : Pos} (ha : PA X [e] (upA Z W t)) (hN : X.N[i]? = some x := by rfl) (hv : Vis X.env.scope x := by first | exact Or.inl rfl | exact Or.inr (Or.inl rfl) | exact Or.inr (Or.inr rfl))
    (hd : (x == ("__debug__" : Str)) = false := by decide) (hcd : (x == ("__classdict__" : Str)) = false := by decide)
    (hbase : attributeBase (.Name x px) "append" X.env (eval (.Name x px) X.env) = eval (.Name x px) X.env := by rfl)
    (hfew : ((backTo cpos (starEach [e] X.env)).all (fun x => !x.1) && (backToKw cpos (keywordEach [] X.env)).all (fun x => x.1.isSome) && decide ([e].length + ([] : List Keyword).length + (if ([] : List Keyword).isEmpty then 0 else 1) < 30)) = true := by rfl)
    (hline : (apos.endLine == cpos.line) = true := by rfl) (hs : starEach [e] X.env = (false, eval e X.env) :: starEach [] X.env := by rfl) (hpl : (backTo cpos (starEach [] X.env)).any (·.1) = false := by rfl)
    (hsw : swapsWith (.Call (.Attribute (.Name x px) "append" apos) [e] [] cpos) none pos.line X.env = pure false := by rfl) :
    PS X (.Expr (.Call (.Attribute (.Name x px) "append" apos) [e] [] cpos) pos) (upS Z W (sApp i t)) :=
  PS.wk (ps_expr (pe_bm PySem.F.plainAttrs_list PySem.F.slot_list_append PySem.F.type_list_append mt_append (pe_var hN hv hd hcd) ha hbase hfew hline hs hpl) hsw) fun B σ H ⟨ρ, G, DD, E, ok, ⟨⟨ds0, h0⟩, h⟩, hq, hx⟩ => by
    obtain ⟨a, vs0, ha0, hv0, _⟩ := ok.own i ds0 h0
    refine ⟨.ref a, ha0, .inl ⟨rfl, vs0, .of hv0⟩, ρ, G, _, E, ok, h, fun es ws ρ1 H1 ok1 s1 r1 h1 => ?_, hx.e⟩
    obtain ⟨d, ds, rfl, h2, h3, h4⟩ := h1
    obtain ⟨v, rfl, rv⟩ := r1.one
    obtain ⟨b, vs, hb, hvb, rb, _⟩ := ok1.own i ds h2
    rw [ha0] at hb
    cases hb
    obtain ⟨k1, k2⟩ := ok1.put (es := ds ++ [d]) (ws := vs ++ [v]) h2 ha0 hvb (rb.append ⟨rv, trivial⟩)
    refine ⟨a, vs, v, rfl, rfl, hvb, ?_, (hq σ _ _ k1 (s1.trans k2)).1 h4⟩
    rw [← rb.len]
    exact Nat.lt_of_lt_of_le h3 LIM_le
/-- x[k] = e -/
def sSto (i : Nat) (te tk : DE) : DS := fun B E ρ => te ρ (fun d ρ1 => Held ρ1 i ∧ tk ρ1 (fun k ρ2 => ∃ n ds j, k = .int n ∧ heldAt ρ2 i = some ds ∧ ixN ds.length n = some j ∧ B.nx (putAt ρ2 i (ds.set j d))) E) E
theorem ds_sto [GoodJ Z] {i : Nat} {x : Str} {e k : Expr} {te tk : DE} {px tpos pos : Pos} (he : PE X e (upE Z W te)) (hk : PE X k (upE Z W tk)) (hN : X.N[i]? = some x := by rfl) (hv : Vis X.env.scope x := by first | exact Or.inl rfl | exact Or.inr (Or.inl rfl) | exact Or.inr (Or.inr rfl))
    (hd : (x == ("__debug__" : Str)) = false := by decide) (hcd : (x == ("__classdict__" : Str)) = false := by decide)
    (hs : swapsWithSole [.Subscript (.Name x px) k tpos] e pos.line X.env = pure false := by rfl) (hw : swappedStores [.Subscript (.Name x px) k tpos] e X.env = pure none := by rfl)
    (h1 : (assignEach [.Subscript (.Name x px) k tpos] X.env).map (·.2) = [assign (.Subscript (.Name x px) k tpos) X.env] := by rfl)
    (ha : ∀ v, assign (.Subscript (.Name x px) k tpos) X.env v = (do
      let ov ← holding [v] (eval (.Name x px) X.env)
      let iv ← holding [v, ov] (eval k X.env)
      standAt tpos
      holding [v, ov, iv] (setItem ov iv v)
      release [v, ov, iv] []) := by intro _; rfl) :
    PS X (.Assign [.Subscript (.Name x px) k tpos] e pos) (upS Z W (sSto i te tk)) := PS.wk (ps_asg he (pg_sub (pe_var hN hv hd hcd) hk set_list ha) hs hw h1) fun B σ H ⟨ρ, G, DD, E, ok, h, hq, hx⟩ => by
  refine ⟨ρ, G, _, E, ok, h, fun d v ρ1 H1 ok1 s1 r1 h1 => ?_, hx.e⟩
  obtain ⟨⟨ds0, h0⟩, h1⟩ := h1
  obtain ⟨a, vs0, ha0, hv0, _⟩ := ok1.own i ds0 h0
  refine ⟨.ref a, ha0, ρ1, G, _, E, ok1, h1, fun q u ρ2 H2 ok2 s2 r2 h2 => ?_, hx.e.step s1⟩
  obtain ⟨n, ds, j, rfl, h3, h4, h5⟩ := h2
  cases r2
  obtain ⟨b, vs, hb, hvb, rb, _⟩ := ok2.own i ds h3
  rw [ha0] at hb
  cases hb
  obtain ⟨k1, k2⟩ := ok2.put (es := ds.set j d) (ws := vs.set j v) h3 ha0 hvb (rb.set j (r1.sub s2.vis))
  exact ⟨a, vs, n, j, rfl, rfl, hvb, by rw [← rb.len]; exact h4, (hq σ _ _ k1 ((s1.trans s2).trans k2)).1 h5⟩
/-- x[k], len(x), e in x, for x that a slot holds -/
def dIxH (i : Nat) (tk : DE) : DE := fun ρ Q E => Held ρ i ∧ tk ρ (fun k ρ1 => ∃ n ds d, k = .int n ∧ heldAt ρ1 i = some ds ∧ atI ds n = some d ∧ Q d ρ1) E
theorem de_ixH [F : Fit X Z] {i : Nat} {x : Str} {k : Expr} {tk : DE} {px pos : Pos} (hk : PE X k (upE Z W tk)) (hs : PlainIx k) (hN : X.N[i]? = some x := by rfl) (hv : Vis X.env.scope x := by first | exact Or.inl rfl | exact Or.inr (Or.inl rfl) | exact Or.inr (Or.inr rfl))
    (hd : (x == ("__debug__" : Str)) = false := by decide) (hcd : (x == ("__classdict__" : Str)) = false := by decide) : PE X (.Subscript (.Name x px) k pos) (upE Z W (dIxH i tk)) :=
  PE.wk (pe_ix ix_list (pe_var hN hv hd hcd) hk hs) fun σ H Q ⟨ρ, G, Qd, E, ok, ⟨⟨ds0, h0⟩, h⟩, hq, hx⟩ => by
    obtain ⟨a, vs0, ha0, hv0, _⟩ := ok.own i ds0 h0
    refine ⟨.ref a, ha0, ρ, G, _, E, ok, h, fun q u ρ1 H1 ok1 s1 r1 h1 => ?_, hx⟩
    obtain ⟨n, ds, d, rfl, h3, h4, h5⟩ := h1
    cases r1
    obtain ⟨b, vs, hb, hvb, rb, _⟩ := ok1.own i ds h3
    rw [ha0] at hb
    cases hb
    obtain ⟨w, h6, h7⟩ := rb.atI h4
    exact ⟨a, vs, n, w, rfl, rfl, .of hvb, h6, hq d w ρ1 H1 ok1 s1 h7 h5⟩
def dLenH (i : Nat) : DE := fun ρ Q _ => ∃ ds, heldAt ρ i = some ds ∧ Q (.int ds.length) ρ
theorem de_lenH [F : Fit X Z] {i : Nat} {x : Str} {p px pos : Pos} (hm : Z.mg "len" = none) (hN : X.N[i]? = some x := by rfl) (hv : Vis X.env.scope x := by first | exact Or.inl rfl | exact Or.inr (Or.inl rfl) | exact Or.inr (Or.inr rfl))
    (hd : (x == ("__debug__" : Str)) = false := by decide) (hcd : (x == ("__classdict__" : Str)) = false := by decide) (hg : Gl X "len" := by rfl)
    (he : starEach [.Name x px] X.env = (false, eval (.Name x px) X.env) :: starEach [] X.env := by rfl) (hpl : (backTo pos (starEach [] X.env)).any (·.1) = false := by rfl) :
    PE X (.Call (.Name "len" p) [.Name x px] [] pos) (upE Z W (dLenH i)) := PE.wk (pe_callB call_len_seq hg (by rw [F.mg]; exact hm) boot_len (pa_cons (pe_var hN hv hd hcd) pa_nil he) (by decide) (by decide) he hpl) fun σ H Q ⟨ρ, G, Qd, E, ok, ⟨ds, h, h1⟩, hq, hx⟩ => by
  obtain ⟨a, vs, ha, hv, r, _⟩ := ok.own i ds h
  refine ⟨.ref a, ha, a, vs, rfl, .inl (.of hv), ?_⟩
  rw [← r.len]
  exact hq (.int _) _ ρ H ok .refl rfl h1
def dInH (neg : Bool) (i : Nat) (t : DE) : DE := fun ρ Q E => t ρ (fun d ρ1 => ∃ ds, heldAt ρ1 i = some ds ∧ (flatD d = true ∧ ds.all flatD = true) ∧ Q (.bl (if neg = true then !(ds.any fun y => eqD y d) else ds.any fun y => eqD y d)) ρ1) E
theorem up_inH [F : Fit X Z] (neg : Bool) {i : Nat} {t : DE} (σ : L2.St) (H : Hp) (Q : VK) (h : upE Z W (dInH neg i t) σ H Q) : tOp (rIn X.K neg) (upE Z W t) (tVar i) σ H Q := by
  obtain ⟨ρ, G, Qd, E, ok, h, hq, hx⟩ := h
  refine ⟨ρ, G, _, E, ok, h, fun d v ρ1 H1 ok1 s1 r1 h1 => ?_, hx⟩
  obtain ⟨ds, h2, h3, h4⟩ := h1
  obtain ⟨a, vs, ha, hv, r, _⟩ := ok1.own i ds h2
  refine ⟨.ref a, ha, a, vs, rfl, .inl (.of hv), r1.flat h3.1, r.flat h3.2, ?_⟩
  rw [any_eqV r1 h3.1 r h3.2]
  exact hq (.bl _) _ ρ1 H1 ok1 s1 rfl h4
theorem de_inH [F : Fit X Z] {i : Nat} {x : Str} {e : Expr} {t : DE} {px pos : Pos} (he : PE X e (upE Z W t)) (hN : X.N[i]? = some x := by rfl) (hv : Vis X.env.scope x := by first | exact Or.inl rfl | exact Or.inr (Or.inl rfl) | exact Or.inr (Or.inr rfl))
    (hd : (x == ("__debug__" : Str)) = false := by decide) (hcd : (x == ("__classdict__" : Str)) = false := by decide) (hm : behindInMarks .In (.Name x px) = false := by rfl) : PE X (.Compare e [.In] [.Name x px] pos) (upE Z W (dInH false i t)) :=
  PE.wk (pe_cmpR op_in_seq he (pe_var hN hv hd hcd) hm) (up_inH false)
theorem de_notInH [F : Fit X Z] {i : Nat} {x : Str} {e : Expr} {t : DE} {px pos : Pos} (he : PE X e (upE Z W t)) (hN : X.N[i]? = some x := by rfl) (hv : Vis X.env.scope x := by first | exact Or.inl rfl | exact Or.inr (Or.inl rfl) | exact Or.inr (Or.inr rfl))
    (hd : (x == ("__debug__" : Str)) = false := by decide) (hcd : (x == ("__classdict__" : Str)) = false := by decide) (hm : behindInMarks .NotIn (.Name x px) = false := by rfl) : PE X (.Compare e [.NotIn] [.Name x px] pos) (upE Z W (dInH true i t)) :=
  PE.wk (pe_cmpR op_notIn_seq he (pe_var hN hv hd hcd) hm) (up_inH true)
end
end TS
set_option Elab.async false
set_option linter.all false
set_option maxRecDepth 100000
set_option maxHeartbeats 4000000
set_option exponentiation.threshold 10000
/-! zip and enumerate over lists and tuples in any mix -/
namespace TS
open PySem PySem.Spec PyProof.Rows L2
/-- a list (k = true) or a tuple at a -/
def SqX (K : PySem.W.Frag) (H : Hp) (k : Bool) (a : Addr) (xs : List V) : Prop := match k with
  | true => SqL K H a xs
  | false => SqT K H a xs
def ItX (h : Heap) (k : Bool) (i a : Addr) (n : Nat) : Prop := match k with
  | true => h.IsListIter i a n
  | false => h.IsTupleIter i a n
def IsX (h : Heap) (k : Bool) (a : Addr) (its : Array Value) : Prop := match k with
  | true => h.IsList a its
  | false => h.IsTuple a its
def itO (k : Bool) (a : Addr) : Obj := match k with
  | true => { cls := .type "list_iterator", data := .fields #[.ref a, .int 0 0] }
  | false => { cls := .type "tuple_iterator", data := .fields #[.ref a, .int 0 0] }
section
variable {X : Cx} {pins : List (Addr × Obj)} {σ : L2.St} {H : Hp} {s : Shared} {K : PySem.W.Frag}
theorem ItX.ex {h : Heap} {k : Bool} {i a : Addr} {n : Nat} (q : ItX h k i a n) : ∃ o, h.get? i = some o ∧ ∀ v, o.data ≠ .cell v := by
  cases k with
  | true =>
    obtain ⟨o, e, _, d⟩ := q
    exact ⟨o, e, fun v z => by rw [d] at z; cases z⟩
  | false =>
    obtain ⟨o, e, _, d⟩ := q
    exact ⟨o, e, fun v z => by rw [d] at z; cases z⟩
theorem ItX.at {h h' : Heap} {k : Bool} {i a : Addr} {n : Nat} (q : ItX h k i a n) (e : ∀ o, h.get? i = some o → h'.get? i = some o) : ItX h' k i a n := by
  cases k with
  | true => exact Heap.IsListIter.at q e
  | false => exact Heap.IsTupleIter.at q e
theorem ItX.of {h : Heap} {k : Bool} {i a : Addr} (e : h.get? i = some (itO k a)) : ItX h k i a 0 := by
  cases k with
  | true => exact ⟨_, e, rfl, rfl⟩
  | false => exact ⟨_, e, rfl, rfl⟩
theorem beginsX (k : Bool) (a : Addr) (its : Array Value) : Begins (.ref a) (itO k a) fun h => IsX h k a its := by
  cases k with
  | true => exact begins_list a its
  | false => exact begins_tuple a its
theorem drawsX {prog : Program} {w : World} {A : Around} (hh : A.handled = none) (k : Bool) (it l : Addr) (hne : l ≠ it) (items : Array Value) :
    Draws prog w A it [it, l] items.size (fun i v => items[i]? = some v) (fun i h => ItX h k it l i ∧ IsX h k l items) := by
  cases k with
  | true => exact Draws.list hh it l hne items
  | false => exact Draws.tuple hh it l hne items
theorem isX (I : Inv X pins σ H s) {k : Bool} {a : Addr} {xs : List V} (h : SqX X.K H k a xs) : ∃ its : List Value, Vals xs its ∧ IsX s.heap k a its.toArray ∧ a < s.heap.objs.size := by
  cases k with
  | true =>
    obtain ⟨its, rv, p, _⟩ := I.list h
    exact ⟨its, rv, p.isList, p.lt⟩
  | false =>
    obtain ⟨its, rv, p, _⟩ := I.tuple h
    have p' : s.heap.IsTuple a its.toArray := p
    obtain ⟨o, ho, _⟩ := id p'
    exact ⟨its, rv, p', Heap.lt_size ho⟩
/-- the lists or tuples at a and b, their items in new pairs -/
def Jz (K : PySem.W.Frag) (k1 : Bool) (a : Addr) (xs : List V) (k2 : Bool) (b : Addr) (ys : List V) : It :=
  ⟨fun i H => i < min xs.length ys.length ∧ SqX K H k1 a xs ∧ SqX K H k2 b ys,
    fun i H v H' => ∃ T x y, v = .ref T ∧ H T = none ∧ H' = upd H T (.tup [x, y]) ∧ xs[i]? = some x ∧ ys[i]? = some y,
    fun i H => i = min xs.length ys.length ∧ SqX K H k1 a xs ∧ SqX K H k2 b ys⟩
theorem sepX {z TI TO i1 i2 a b : Addr} (D : ZipApart z TI TO i1 i2 a b) : ZipSep2 z TI TO i1 i2 [i1, a] [i2, b] where
  TIz := D.TIz
  TOz := D.TOz
  TITO := D.TITO
  TIi1 := D.TIi1
  mem1 := by simp
  zf1 := by simp only [List.mem_cons, List.not_mem_nil, or_false, not_or]; exact ⟨D.i1z.symm, D.l1z.symm⟩
  Tf1 := by simp only [List.mem_cons, List.not_mem_nil, or_false, not_or]; exact ⟨D.TOi1, D.l1TO.symm⟩
  TIi2 := D.TIi2
  mem2 := by simp
  zf2 := by simp only [List.mem_cons, List.not_mem_nil, or_false, not_or]; exact ⟨D.i2z.symm, D.l2z.symm⟩
  Tf2 := by simp only [List.mem_cons, List.not_mem_nil, or_false, not_or]; exact ⟨D.TOi2, D.l2TO.symm⟩
  sep1_2 := by simp only [List.mem_cons, List.not_mem_nil, or_false, not_or]; exact ⟨D.i12, D.l2i1.symm⟩
  sep2_1 := by simp only [List.mem_cons, List.not_mem_nil, or_false, not_or]; exact ⟨D.i12.symm, D.l1i2.symm⟩
theorem turn_zipX {P : Program} {w : World} {K : PySem.W.Frag} {elts : List Expr} {kk : Nat} {tpos : Pos} {k1 k2 : Bool} {a b z TI TO i1 i2 : Addr} {xs ys : List V} (D : ZipApart z TI TO i1 i2 a b) :
    Turn P w K (.Tuple elts kk tpos) (Jz K k1 a xs k2 b ys) [z, TI, TO, i1, i2] z (fun i h => IsZip h z TI TO .none ∧ IsTupOf2 h TI (.ref i1) (.ref i2) ∧ (∃ x y, IsTupOf2 h TO x y) ∧ ItX h k1 i1 a i ∧ ItX h k2 i2 b i) where
  mem := by simp
  obj := fun i h st c hc => by
    obtain ⟨hz, hTI, ⟨x, y, hTO⟩, h1, h2⟩ := st
    have e' : c = z ∨ c = TI ∨ c = TO ∨ c = i1 ∨ c = i2 := by simpa using hc
    rcases e' with q | q | q | q | q
    · rw [q]; exact ⟨_, hz, fun v q => nomatch q⟩
    · rw [q]; exact ⟨_, hTI, fun v q => nomatch q⟩
    · rw [q]; exact ⟨_, hTO, fun v q => nomatch q⟩
    · rw [q]; exact h1.ex
    · rw [q]; exact h2.ex
  keep := fun i h h' st k => by
    obtain ⟨hz, hTI, ⟨x, y, hTO⟩, h1, h2⟩ := st
    exact ⟨k z (by simp) _ hz, k TI (by simp) _ hTI, ⟨x, y, k TO (by simp) _ hTO⟩, h1.at fun o q => k i1 (by simp) o q, h2.at fun o q => k i2 (by simp) o q⟩
  item := by
    intro X hP hw hK hc i pins s σ H E I hf st hg
    subst hP hw hK
    obtain ⟨hz, hTI, hTO, h1, h2⟩ := st
    obtain ⟨hlt, q1, q2⟩ := hg
    obtain ⟨its1, rv1, p1, _⟩ := isX I q1
    obtain ⟨its2, rv2, p2, _⟩ := isX I q2
    have l1 := rv1.length
    have l2 := rv2.length
    have hh : X.A.in1.handled = none := I.ok.hd hc
    have G := GoesN.zip2 (elts := elts) (x1 := kk) (pos := tpos) (sepX D) (drawsX (prog := X.prog) (w := X.w) hh k1 i1 a D.l1i1 its1.toArray) (drawsX hh k2 i2 b D.l2i2 its2.toArray)
    refine wpAny_mono (G.goes i s (fun u s2 => ∃ x H', Inv X pins σ H' s2 ∧ RelV x u ∧ (Jz X.K k1 a xs k2 b ys).yld i H x H' ∧ (IsZip s2.heap z TI TO .none ∧ IsTupOf2 s2.heap TI (.ref i1) (.ref i2) ∧ (∃ x y, IsTupOf2 s2.heap TO x y) ∧ ItX s2.heap k1 i1 a (i + 1) ∧ ItX s2.heap k2 i2 b (i + 1)) ∧ ∀ c ∈ [z, TI, TO, i1, i2], H' c = none) E
      (by simp only [List.size_toArray]; omega) ⟨hz, hTI, hTO, ⟨h1, p1⟩, h2, p2⟩ fun v h' tk hY st' hk htk => ?_) (fun r s1 z => z) fun _ _ z => z
    obtain ⟨T, u, u2, ev, hT, hu, hu2, hTT⟩ := hY
    obtain ⟨g1, g2, g3, ⟨g4, _⟩, g5, _⟩ := st'
    subst ev
    obtain ⟨x, hx, rx⟩ : ∃ x, xs[i]? = some x ∧ RelV x u := by
      have hi : i < xs.length := by omega
      obtain ⟨u', hu', ru'⟩ := rv1.get (List.getElem?_eq_getElem hi)
      rw [List.getElem?_toArray] at hu
      rw [hu] at hu'
      cases hu'
      exact ⟨_, List.getElem?_eq_getElem hi, ru'⟩
    obtain ⟨y, hy, ry⟩ : ∃ y, ys[i]? = some y ∧ RelV y u2 := by
      have hi : i < ys.length := by omega
      obtain ⟨u', hu', ru'⟩ := rv2.get (List.getElem?_eq_getElem hi)
      rw [List.getElem?_toArray] at hu2
      rw [hu2] at hu'
      cases hu'
      exact ⟨_, List.getElem?_eq_getElem hi, ru'⟩
    have new : ObjOk X.prog X.w (upd H T (.tup [x, y])) h' T (.tup [x, y]) :=
      ⟨by show 2 ≤ sizeLine; decide, [u, u2], .cons rx (.cons ry .nil), hTT⟩
    have hlt' : ∀ c ∈ [z, TI, TO, i1, i2], c < s.heap.objs.size := fun c hc => by
      obtain ⟨x0, y0, hTO⟩ := hTO
      have e' : c = z ∨ c = TI ∨ c = TO ∨ c = i1 ∨ c = i2 := by simpa using hc
      rcases e' with q | q | q | q | q
      · rw [q]; exact Heap.lt_size hz
      · rw [q]; exact Heap.lt_size hTI
      · rw [q]; exact Heap.lt_size hTO
      · rw [q]; obtain ⟨_, e1, _⟩ := h1.ex; exact Heap.lt_size e1
      · rw [q]; obtain ⟨_, e2, _⟩ := h2.ex; exact Heap.lt_size e2
    have I1 : Inv X pins σ (upd H T (.tup [x, y])) { s with heap := h', toks := tk } :=
      I.turnedNew (ch := [z, TI, TO, i1, i2]) (fun c o hb q => hk c o (fun z => hb (by simp only [List.mem_cons, List.not_mem_nil, or_false] at z ⊢; rcases z with z | z | z | z <;> simp [z])) q) hf hT new
    exact ⟨.ref T, _, I1, rfl, ⟨T, x, y, rfl, I.hok.fresh hT, rfl, hx, hy⟩, ⟨g1, g2, g3, g4, g5⟩, fun c hcm => by
      rw [upd_ne (Nat.ne_of_lt (Nat.lt_of_lt_of_le (hlt' c hcm) hT))]
      exact (hf c hcm).1⟩
  done := by
    intro X hP hw hK hc i pins s σ H E I hf st hg
    subst hP hw hK
    obtain ⟨hz, hTI, hTO, h1, h2⟩ := st
    obtain ⟨hlt, q1, q2⟩ := hg
    obtain ⟨its1, rv1, p1, _⟩ := isX I q1
    obtain ⟨its2, rv2, p2, _⟩ := isX I q2
    have l1 := rv1.length
    have l2 := rv2.length
    have hh : X.A.in1.handled = none := I.ok.hd hc
    have G := GoesN.zip2 (elts := elts) (x1 := kk) (pos := tpos) (sepX D) (drawsX (prog := X.prog) (w := X.w) hh k1 i1 a D.l1i1 its1.toArray) (drawsX hh k2 i2 b D.l2i2 its2.toArray)
    have en : i = min its1.toArray.size its2.toArray.size := by simp only [List.size_toArray]; omega
    refine wpAny_mono (G.stops s (fun s1 => Inv X pins σ H s1) E ⟨hz, hTI, hTO, ⟨by rw [← en]; exact h1, p1⟩, by rw [← en]; exact h2, p2⟩ fun h' tk hk htk => ?_) (fun r s1 z => z) fun _ _ z => z
    exact I.turnedL (ch := [z, TI, TO, i1, i2]) (fun c o hb q => hk c o (fun z => hb (by simp only [List.mem_cons, List.not_mem_nil, or_false] at z ⊢; rcases z with z | z | z | z <;> simp [z])) q) hf
  self := fun A i s Q E st h => wpAny_pyIter_zip st.1 h
/-- the list or tuple at a, its items with their places -/
def Je (K : PySem.W.Frag) (k : Bool) (a : Addr) (xs : List V) : It :=
  ⟨fun i H => i < xs.length ∧ SqX K H k a xs,
    fun i H v H' => ∃ T x, v = .ref T ∧ H T = none ∧ H' = upd H T (.tup [.int (0 + (i : Int)), x]) ∧ xs[i]? = some x,
    fun i H => i = xs.length ∧ SqX K H k a xs⟩
theorem turn_enumX {P : Program} {w : World} {K : PySem.W.Frag} {elts : List Expr} {kk : Nat} {tpos : Pos} {k : Bool} {a e it : Addr} {xs : List V} (d1 : e ≠ it) (d2 : a ≠ e) (d3 : a ≠ it) :
    Turn P w K (.Tuple elts kk tpos) (Je K k a xs) [e, it] e (fun i h => (∃ old, IsEnum h e it (0 + (i : Int)) old) ∧ ItX h k it a i) where
  mem := by simp
  obj := fun i h st c hc => by
    obtain ⟨⟨old, he⟩, h1⟩ := st
    have e' : c = e ∨ c = it := by simpa using hc
    rcases e' with q | q
    · rw [q]; exact ⟨_, he, fun v q => nomatch q⟩
    · rw [q]; exact h1.ex
  keep := fun i h h' st k => by
    obtain ⟨⟨old, he⟩, h1⟩ := st
    exact ⟨⟨old, k e (by simp) _ he⟩, h1.at fun o q => k it (by simp) o q⟩
  item := by
    intro X hP hw hK hc i pins s σ H E I hf st hg
    subst hP hw hK
    obtain ⟨he, h1⟩ := st
    obtain ⟨hlt, q1⟩ := hg
    obtain ⟨its1, rv1, p1, _⟩ := isX I q1
    have l1 := rv1.length
    have hh : X.A.in1.handled = none := I.ok.hd hc
    have G := GoesN.enumFrom (elts := elts) (x1 := kk) (pos := tpos) 0 (drawsX (prog := X.prog) (w := X.w) hh k it a d3 its1.toArray) e d1 (by simp only [List.mem_cons, List.not_mem_nil, or_false, not_or]; exact ⟨d1, d2.symm⟩) (by simp)
    refine wpAny_mono (G.goes i s (fun u s2 => ∃ x H', Inv X pins σ H' s2 ∧ RelV x u ∧ (Je X.K k a xs).yld i H x H' ∧ ((∃ old, IsEnum s2.heap e it (0 + ((i + 1 : Nat) : Int)) old) ∧ ItX s2.heap k it a (i + 1)) ∧ ∀ c ∈ [e, it], H' c = none) E
      (by simp only [List.size_toArray]; omega) ⟨he, h1, p1⟩ fun v h' tk hY st' hk htk => ?_) (fun r s1 z => z) fun _ _ z => z
    obtain ⟨T, t, u, ev, hT, hu, hTT⟩ := hY
    obtain ⟨g1, g4, _⟩ := st'
    subst ev
    obtain ⟨x, hx, rx⟩ : ∃ x, xs[i]? = some x ∧ RelV x u := by
      have hi : i < xs.length := by omega
      obtain ⟨u', hu', ru'⟩ := rv1.get (List.getElem?_eq_getElem hi)
      rw [List.getElem?_toArray] at hu
      rw [hu] at hu'
      cases hu'
      exact ⟨_, List.getElem?_eq_getElem hi, ru'⟩
    have new : ObjOk X.prog X.w (upd H T (.tup [.int (0 + (i : Int)), x])) h' T (.tup [.int (0 + (i : Int)), x]) :=
      ⟨by show 2 ≤ sizeLine; decide, [.int (0 + (i : Int)) t, u], .cons ⟨_, rfl⟩ (.cons rx .nil), hTT⟩
    have hlt' : ∀ c ∈ [e, it], c < s.heap.objs.size := fun c hc => by
      obtain ⟨old, he⟩ := he
      have e' : c = e ∨ c = it := by simpa using hc
      rcases e' with q | q
      · rw [q]; exact Heap.lt_size he
      · rw [q]; obtain ⟨_, e1, _⟩ := h1.ex; exact Heap.lt_size e1
    have I1 : Inv X pins σ (upd H T (.tup [.int (0 + (i : Int)), x])) { s with heap := h', toks := tk } :=
      I.turnedNew (ch := [e, it]) (fun c o hb q => hk c o hb q) hf hT new
    exact ⟨.ref T, _, I1, rfl, ⟨T, x, rfl, I.hok.fresh hT, rfl, hx⟩, ⟨g1, g4⟩, fun c hcm => by
      rw [upd_ne (Nat.ne_of_lt (Nat.lt_of_lt_of_le (hlt' c hcm) hT))]
      exact (hf c hcm).1⟩
  done := by
    intro X hP hw hK hc i pins s σ H E I hf st hg
    subst hP hw hK
    obtain ⟨he, h1⟩ := st
    obtain ⟨hlt, q1⟩ := hg
    obtain ⟨its1, rv1, p1, _⟩ := isX I q1
    have l1 := rv1.length
    have hh : X.A.in1.handled = none := I.ok.hd hc
    have G := GoesN.enumFrom (elts := elts) (x1 := kk) (pos := tpos) 0 (drawsX (prog := X.prog) (w := X.w) hh k it a d3 its1.toArray) e d1 (by simp only [List.mem_cons, List.not_mem_nil, or_false, not_or]; exact ⟨d1, d2.symm⟩) (by simp)
    have en : i = its1.toArray.size := by simp only [List.size_toArray]; omega
    refine wpAny_mono (G.stops s (fun s1 => Inv X pins σ H s1) E ⟨by rw [← en]; exact he, by rw [← en]; exact h1, p1⟩ fun h' tk hk htk => ?_) (fun r s1 z => z) fun _ _ z => z
    exact I.turnedL (ch := [e, it]) (fun c o hb q => hk c o hb q) hf
  self := fun A i s Q E st h => let ⟨⟨_, he⟩, _⟩ := st; wpAny_pyIter_enum he h
end
end TS
set_option Elab.async false
set_option linter.all false
set_option maxRecDepth 100000
set_option maxHeartbeats 4000000
set_option exponentiation.threshold 10000
namespace TS
open PySem PySem.Spec PyProof.Rows L2
section
open Sem (wp)
open AutoSeq1 (wpAny_loadPart')
/-- enumerate(v), v a list or a tuple: the two new cells -/
theorem meets_enX (k : Bool) (a : Addr) (its : Array Value) : Meets (Builtin.«enumerate.__new__» ⟨[.type "enumerate", .ref a], []⟩) (fun _ R s => IsX s.heap k a its ∧
    R (.ok (.ret (.ref (s.heap.push (itO k a)).objs.size))) { s with heap := (s.heap.push (itO k a)).push { cls := .type "enumerate", data := .fields #[.none, .bool false, .ref s.heap.objs.size, rawInt 0, .none, .none] } }) :=
  .of_wp fun prog w A R s h => by
    obtain ⟨hp, g, d, tk, os⟩ := s; obtain ⟨h1, h⟩ := h
    have sb := sub_enumerate
    have q1 : ∀ {A' : Around} {E Q : Value → Shared → Prop}, Q (.ref hp.objs.size) ⟨hp.push (itO k a), g, d, tk, os⟩ → wpAny (model prog w) A' (pyIter (.ref a)) Q E ⟨hp, g, d, tk, os⟩ := fun q => (beginsX k a its).iter prog w _ _ ⟨hp, g, d, tk, os⟩ _ h1 q
    obtain ⟨ob, ho⟩ : ∃ ob, hp.get? a = some ob := by
      cases k <;> exact ⟨_, h1.choose_spec.1⟩
    wp_walk using wpAny_loadPart' ho, q1
    refine wpAny_stack_any fun st => wpAny_pure ?_
    split
    · rename_i c _ _ _ _ _
      cases (c == Value.type "enumerate") <;>
      · wp_walk using wpAny_loadPart' ho, q1
        exact ⟨_, rfl, h⟩
    · wp_walk using wpAny_loadPart' ho, q1
      exact ⟨_, rfl, h⟩
end
section
variable {prog : Program} {w : World} {A : Around} {E : Value → Shared → Prop} {s : Shared}
theorem call_enX {k : Bool} {a : Addr} {its : Array Value} {Q : Value → Shared → Prop} (h1 : IsX s.heap k a its)
    (h : ∀ g, IsEnum g (s.heap.objs.size + 1) s.heap.objs.size 0 .none → g.get? s.heap.objs.size = some (itO k a) → (∀ b o, s.heap.get? b = some o → g.get? b = some o) → Q (.ref (s.heap.objs.size + 1)) { s with heap := g }) :
    wpAny (model prog w) A (call (.type "enumerate") [.ref a]) Q E s := by
  refine callType_new F.called_enumerate (by decide) (F.typeCall_enumerate_1 _) (F.newCall_enumerate_1 _) (fun ob => F.args_object_init_2 ob _) F.entry_enumerate_new (meets_enX k a its) ⟨h1, ?_⟩
  have hz : (s.heap.push (itO k a)).objs.size = s.heap.objs.size + 1 := by rw [Heap.size_push]
  have he : ((s.heap.push (itO k a)).push { cls := .type "enumerate", data := .fields #[.none, .bool false, .ref s.heap.objs.size, rawInt 0, .none, .none] }).get? (s.heap.objs.size + 1) = some { cls := .type "enumerate", data := .fields #[.none, .bool false, .ref s.heap.objs.size, rawInt 0, .none, .none] } := by
    rw [← hz]
    exact Heap.get?_push_size _ rfl
  show _ ∧ _
  rw [hz]
  exact ⟨⟨_, he, rfl⟩, h _ he (Heap.get?_push_of_some _ (Heap.get?_push_size _ (beginsX k a its).free)) fun b o x => Heap.get?_push_of_some _ (Heap.get?_push_of_some _ x)⟩
end
def iEnX (K : PySem.W.Frag) (ta : TA) : TI := fun σ H R => ta σ H fun vs H1 => ∃ k a xs, vs = [.ref a] ∧ SqX K H1 k a xs ∧ R (Je K k a xs) H1
def iZipX (K : PySem.W.Frag) (ta : TA) : TI := fun σ H R => ta σ H fun vs H1 => ∃ k a xs k2 b ys, vs = [.ref a, .ref b] ∧ SqX K H1 k a xs ∧ SqX K H1 k2 b ys ∧ R (Jz K k a xs k2 b ys) H1
section
variable {X : Cx}
theorem pi_enX {e : Expr} {ta : TA} {p pos tpos : Pos} {elts : List Expr} {kk : Nat} (hg : Gl X "enumerate") (hm : X.mg "enumerate" = none) (ha : PA X [e] ta) (hs : starEach [e] X.env = [(false, eval e X.env)]) :
    PI X (.Tuple elts kk tpos) (.Call (.Name "enumerate" p) [e] [] pos) (iEnX X.K ta) := by
  refine ⟨fun pins s σ H R I h => Call_ (ld_blt I hg hm boot_enumerate (PyProof.Rows.callWith_type1 (thn (ha.run pos pins s σ H _ I h) fun us s1 ⟨vs, H1, I1, r1, k, a, xs, ex, hq, q⟩ => ?_) hs rfl))⟩
  subst ex
  cases r1 with
  | cons r rr =>
    cases rr
    cases r
    obtain ⟨its, rv, p1, hl⟩ := isX I1 hq
    refine call_enX p1 fun g he hit hk => wpAny_pyIter_enum he ?_
    have d1 : s1.heap.objs.size + 1 ≠ s1.heap.objs.size := Nat.succ_ne_self _
    have d2 : a ≠ s1.heap.objs.size + 1 := Nat.ne_of_lt (Nat.lt_succ_of_lt hl)
    have d3 : a ≠ s1.heap.objs.size := Nat.ne_of_lt hl
    refine ⟨s1.heap.objs.size + 1, [s1.heap.objs.size + 1, s1.heap.objs.size], _, _, H1, rfl, I1.kept (t' := s1.toks) hk, turn_enumX d1 d2 d3, ⟨⟨.none, he⟩, .of hit⟩, fun b hb => ?_, q⟩
    have hle : s1.heap.objs.size ≤ b := by
      simp only [List.mem_cons, List.not_mem_nil, or_false] at hb
      rcases hb with z | z <;> (rw [z]; first | exact Nat.le_refl _ | exact Nat.le_add_right _ _)
    exact I1.fpOk hle (I1.hok.fresh hle)
theorem pi_zpX {e e2 : Expr} {ta : TA} {p pos tpos : Pos} {elts : List Expr} {kk : Nat} (hg : Gl X "zip") (hm : X.mg "zip" = none) (ha : PA X [e, e2] ta)
    (hs : starEach [e, e2] X.env = (false, eval e X.env) :: starEach [e2] X.env) (hpl : (backTo pos (starEach [e2] X.env)).any (·.1) = false) :
    PI X (.Tuple elts kk tpos) (.Call (.Name "zip" p) [e, e2] [] pos) (iZipX X.K ta) := by
  refine ⟨fun pins s σ H R I h => Call_ (ld_blt I hg hm PyProof.Rows.boot_zip (PyProof.Rows.callWith_type1 (thn (ha.run pos pins s σ H _ I h) fun us s1 ⟨vs, H1, I1, r1, k, a, xs, k2, b, ys, ex, hq, hq2, q⟩ => ?_) hs hpl))⟩
  subst ex
  cases r1 with
  | cons r rr =>
   cases rr with
   | cons r' rr =>
    cases rr
    cases r
    cases r'
    obtain ⟨its, rv, p1, hl⟩ := isX I1 hq
    obtain ⟨its2, rv2, p2, hl2⟩ := isX I1 hq2
    refine zip_begins2 (beginsX k a its.toArray) (beginsX k2 b its2.toArray) p1 p2 fun g hz hTI hTO g1 g2 _ hk => wpAny_pyIter_zip hz ?_
    refine ⟨s1.heap.objs.size + 4, [s1.heap.objs.size + 4, s1.heap.objs.size + 2, s1.heap.objs.size + 3, s1.heap.objs.size, s1.heap.objs.size + 1], _, _, H1, rfl, I1.kept (t' := s1.toks) hk, turn_zipX (PySem.W.ktu_apart _ a b hl hl2), ⟨hz, hTI, ⟨_, _, hTO⟩, .of g1, .of g2⟩, fun c hc => ?_, q⟩
    have hle : s1.heap.objs.size ≤ c := by
      simp only [List.mem_cons, List.not_mem_nil, or_false] at hc
      rcases hc with z | z | z | z | z <;> (rw [z]; first | exact Nat.le_refl _ | exact Nat.le_add_right _ _)
    exact I1.fpOk hle (I1.hok.fresh hle)
end
/-- the items of a list or a tuple -/
def seqD : D → Option (List D)
  | .lst l => some l
  | .tup l => some l
  | _ => none
def enumD (xs : List D) : List D := xs.mapIdx fun i x => D.tup [.int (0 + (i : Int)), x]
def zipD (xs ys : List D) : List D := List.zipWith (fun x y => D.tup [x, y]) xs ys
def iEn (t : DA) : DI := fun ρ Q E => t ρ (fun ds ρ' => ∃ d xs, ds = [d] ∧ seqD d = some xs ∧ Q (enumD xs) ρ') E
def iZp (t : DA) : DI := fun ρ Q E => t ρ (fun ds ρ' => ∃ d e xs ys, ds = [d, e] ∧ seqD d = some xs ∧ seqD e = some ys ∧ Q (zipD xs ys) ρ') E
section
variable {X : Cx} {Z : Zx} {W : WX}
theorem Rp.seq {H : Hp} {d : D} {v : V} {xs : List D} (r : Rp Z H d v) (e : seqD d = some xs) : ∃ k a vs, v = .ref a ∧ SqX Z.K H k a vs ∧ RpL Z H xs vs := by
  cases d with
  | lst l =>
    cases e
    obtain ⟨a, vs, h1, h2, h3⟩ := r
    exact ⟨true, a, vs, h1, .of h2, h3⟩
  | tup l =>
    cases e
    obtain ⟨a, vs, h1, h2, h3⟩ := r
    exact ⟨false, a, vs, h1, h2, h3⟩
  | _ => cases e
theorem SqX.vis {H : Hp} {S : Addr → Prop} {k : Bool} {a : Addr} {vs : List V} (h : SqX Z.K (TS.vis H S) k a vs) : SqX Z.K H k a vs := by
  cases k with
  | true => exact vis_sqL h
  | false => exact vis_sqT h
theorem SqX.sub {A B : Hp} (s : Sub A B) {k : Bool} {a : Addr} {vs : List V} (h : SqX Z.K A k a vs) : SqX Z.K B k a vs := by
  cases k with
  | true => exact s.sqL h
  | false => exact s.sqT h
theorem vis_new {H : Hp} {S : Addr → Prop} {T : Addr} {o : HO} (hT : H T = none) (hS : ∀ a, S a → ∃ o, H a = some o) : vis (upd H T o) S T = some o := by
  refine vis_some.mpr ⟨fun z => ?_, upd_same⟩
  obtain ⟨o', e⟩ := hS _ z
  rw [hT] at e
  cases e
theorem it_en {A : Hp} {k : Bool} {a : Addr} {vs : List V} {ds : List D} (h : SqX Z.K A k a vs) (r : RpL Z A ds vs) : ItOk Z A (Je Z.K k a vs) (enumD ds) := fun i H S sub hS => by
  have q : SqX Z.K H k a vs := (h.sub sub).vis
  have hl : (enumD ds).length = vs.length := by unfold enumD; rw [List.length_mapIdx, r.len]
  refine ⟨fun hi => ⟨⟨by omega, q⟩, fun x H2 y => ?_⟩, fun hi => ⟨by omega, q⟩⟩
  obtain ⟨T, v, rfl, hT, rfl, hv⟩ := y
  obtain ⟨d, hd, rd⟩ := r.getV hv
  refine ⟨same_upd hT, .tup [.int (0 + (i : Int)), d], ?_, T, [.int (0 + (i : Int)), v], rfl, .of (vis_new hT hS), rfl, rd.sub (sub.trans (vis_ext (same_upd hT))), trivial⟩
  unfold enumD
  rw [List.getElem?_mapIdx, hd]
  rfl
theorem it_zp {A : Hp} {k k2 : Bool} {a b : Addr} {vs ws : List V} {ds es : List D} (h : SqX Z.K A k a vs) (r : RpL Z A ds vs) (h2 : SqX Z.K A k2 b ws) (r2 : RpL Z A es ws) : ItOk Z A (Jz Z.K k a vs k2 b ws) (zipD ds es) := fun i H S sub hS => by
  have q : SqX Z.K H k a vs := (h.sub sub).vis
  have q2 : SqX Z.K H k2 b ws := (h2.sub sub).vis
  have hl : (zipD ds es).length = min vs.length ws.length := by unfold zipD; rw [List.length_zipWith, r.len, r2.len]
  refine ⟨fun hi => ⟨⟨by omega, q, q2⟩, fun x H2 y => ?_⟩, fun hi => ⟨by omega, q, q2⟩⟩
  obtain ⟨T, v, u, rfl, hT, rfl, hv, hu⟩ := y
  obtain ⟨d, hd, rd⟩ := r.getV hv
  obtain ⟨e, he, re⟩ := r2.getV hu
  have s2 := sub.trans (vis_ext (S := S) (same_upd (o := .tup [v, u]) hT))
  refine ⟨same_upd hT, .tup [d, e], ?_, T, [v, u], rfl, .of (vis_new hT hS), rd.sub s2, re.sub s2, trivial⟩
  unfold zipD
  rw [List.getElem?_zipWith, hd, he]
theorem di_enum [F : Fit X Z] {e : Expr} {t : DA} {p pos tpos : Pos} {elts : List Expr} {kk : Nat} (hm : Z.mg "enumerate" = none) (ha : PA X [e] (upA Z W t)) (hg : Gl X "enumerate" := by rfl) (hs : starEach [e] X.env = [(false, eval e X.env)] := by rfl) :
    PI X (.Tuple elts kk tpos) (.Call (.Name "enumerate" p) [e] [] pos) (upI Z W (iEn t)) := PI.wk (pi_enX hg (by rw [F.mg]; exact hm) ha hs) fun σ H R ⟨ρ, G, Qd, E, ok, h, hq, hx⟩ => by
  refine ⟨ρ, G, _, E, ok, h, fun ds vs ρ1 H1 ok1 s1 r1 h1 => ?_, hx⟩
  obtain ⟨d, xs, rfl, es, q⟩ := h1
  obtain ⟨v, rfl, rv⟩ := r1.one
  obtain ⟨k, a, ws, rfl, sq, rr⟩ := rv.seq es
  rw [F.K]
  exact ⟨k, a, ws, rfl, sq.vis, hq _ ρ1 H1 _ ok1 s1 (it_en sq rr) q⟩
theorem di_zip [F : Fit X Z] {e e2 : Expr} {t : DA} {p pos tpos : Pos} {elts : List Expr} {kk : Nat} (hm : Z.mg "zip" = none) (ha : PA X [e, e2] (upA Z W t)) (hg : Gl X "zip" := by rfl)
    (hs : starEach [e, e2] X.env = (false, eval e X.env) :: starEach [e2] X.env := by rfl) (hpl : (backTo pos (starEach [e2] X.env)).any (·.1) = false := by rfl) :
    PI X (.Tuple elts kk tpos) (.Call (.Name "zip" p) [e, e2] [] pos) (upI Z W (iZp t)) := PI.wk (pi_zpX hg (by rw [F.mg]; exact hm) ha hs hpl) fun σ H R ⟨ρ, G, Qd, E, ok, h, hq, hx⟩ => by
  refine ⟨ρ, G, _, E, ok, h, fun ds vs ρ1 H1 ok1 s1 r1 h1 => ?_, hx⟩
  obtain ⟨d, e', xs, ys, rfl, es, es2, q⟩ := h1
  obtain ⟨v, u, rfl, rv, ru⟩ := r1.two
  obtain ⟨k, a, ws, rfl, sq, rr⟩ := rv.seq es
  obtain ⟨k2, b, ws2, rfl, sq2, rr2⟩ := ru.seq es2
  rw [F.K]
  exact ⟨k, a, ws, k2, b, ws2, rfl, sq.vis, sq2.vis, hq _ ρ1 H1 _ ok1 s1 (it_zp sq rr sq2 rr2) q⟩
end
end TS
set_option Elab.async false
set_option linter.all false
set_option maxRecDepth 100000
set_option maxHeartbeats 4000000
set_option exponentiation.threshold 10000
namespace TS
open PySem PySem.Spec PyProof.Rows L2
/-! ### a def keeps its law -/
/-- the parameters behind the def: the lists that it was handed to change as they are now -/
def exitR (as ρ : List Sl) : List Sl := as.mapIdx fun i s => match s with
  | .brw _ => slAt ρ i
  | s => s
def entR (as : List Sl) (n : Nat) : Rho := as ++ List.replicate (n - as.length) Sl.no
section
variable {Z : Zx} {H : Hp} {G : Addr → Prop}
theorem slAt_exit {as ρ : List Sl} (i : Nat) : slAt (exitR as ρ) i = match slAt as i with
    | .brw _ => slAt ρ i
    | s => s := by
  unfold exitR
  by_cases h : i < as.length
  · have e1 : slAt as i = as[i] := by
      unfold slAt
      rw [List.getD_eq_getElem?_getD, List.getElem?_eq_getElem h]
      rfl
    rw [e1]
    unfold slAt
    rw [List.getD_eq_getElem?_getD, List.getElem?_mapIdx, List.getElem?_eq_getElem h]
    rfl
  · have e1 : slAt as i = .no := Classical.byContradiction fun z => h (slAt_lt z)
    rw [e1]
    unfold slAt
    rw [List.getD_eq_getElem?_getD, List.getElem?_mapIdx, List.getElem?_eq_none (by omega)]
    rfl
theorem slAt_ent {as : List Sl} {n : Nat} (i : Nat) : slAt (entR as n) i = slAt as i := by
  unfold entR slAt
  rw [List.getD_eq_getElem?_getD, List.getD_eq_getElem?_getD]
  by_cases h : i < as.length
  · rw [List.getElem?_append_left h]
  · rw [List.getElem?_append_right (by omega), List.getElem?_eq_none (show as.length ≤ i by omega), List.getElem?_replicate]
    split <;> rfl
theorem start_at {N : List Str} {vs : List V} (i : Nat) (h : i < vs.length) : (L2.start N vs)[i]? = (vs.map some)[i]? := by
  unfold L2.start
  rw [List.getElem?_append_left (by simpa using h)]
theorem Ok.enter {N : List Str} {as : List Sl} {vs : List V} (k : Ok Z (vs.map some) as H G) : Ok Z (L2.start N vs) (entR as N.length) H G ∧ Hid (entR as N.length) (L2.start N vs) G = Hid as (vs.map some) G := by
  have hl : as.length = vs.length := by
    have := k.len
    rwa [List.length_map] at this
  have held : ∀ j, heldAt (entR as N.length) j = heldAt as j := fun j => by
    unfold heldAt
    rw [slAt_ent]
  have lt : ∀ j xs, heldAt as j = some xs → j < vs.length := fun j xs e => by
    rw [← hl]
    exact heldAt_lt e
  have ow : ∀ a, Ow (entR as N.length) (L2.start N vs) a ↔ Ow as (vs.map some) a := fun a => by
    constructor
    · rintro ⟨j, xs, e1, e2⟩
      rw [held] at e1
      rw [start_at j (lt j xs e1)] at e2
      exact ⟨j, xs, e1, e2⟩
    · rintro ⟨j, xs, e1, e2⟩
      exact ⟨j, xs, by rw [held]; exact e1, by rw [start_at j (lt j xs e1)]; exact e2⟩
  have eH : Hid (entR as N.length) (L2.start N vs) G = Hid as (vs.map some) G := by
    funext a
    exact propext ⟨fun z => z.imp (fun z => z) (ow a).mp, fun z => z.imp (fun z => z) (ow a).mpr⟩
  refine ⟨⟨by unfold entR L2.start; simp [hl], fun i d e => ?_, fun i xs e => ?_, fun i j xs ys a q1 q2 q3 q4 => ?_, k.j, k.gt⟩, eH⟩
  · rw [slAt_ent] at e
    have hi : i < vs.length := by
      rw [← hl]
      exact slAt_lt (by rw [e]; exact fun z => by cases z)
    obtain ⟨v, h1, h2⟩ := k.val i d e
    exact ⟨v, by rw [start_at i hi]; exact h1, by rw [eH]; exact h2⟩
  · rw [held] at e
    obtain ⟨a, ws, h1, h2, h3, h4⟩ := k.own i xs e
    exact ⟨a, ws, by rw [start_at i (lt i xs e)]; exact h1, h2, by rw [eH]; exact h3, h4⟩
  · rw [held] at q1 q2
    rw [start_at i (lt i xs q1)] at q3
    rw [start_at j (lt j ys q2)] at q4
    exact k.inj i j xs ys a q1 q2 q3 q4
/-- no list of the caller's is one's own at the entry -/
def NoOwn (as : List Sl) : Prop := ∀ i ds, slAt as i ≠ .own ds
theorem Ok.leave {N : List Str} {as : List Sl} {vs : List V} {σ' : L2.St} {ρ' : Rho} {H' : Hp} (k : Ok Z (vs.map some) as H G) (no : NoOwn as) (k' : Ok Z σ' ρ' H' G) (s : Stp Z (L2.start N vs) (entR as N.length) H σ' ρ' H') :
    Ok Z (vs.map some) (exitR as ρ') H' G ∧ Stp Z (vs.map some) as H (vs.map some) (exitR as ρ') H' ∧ Sub (vis H' (Hid ρ' σ' G)) (vis H' (Hid (exitR as ρ') (vs.map some) G)) := by
  have hl : as.length = vs.length := by
    have := k.len
    rwa [List.length_map] at this
  obtain ⟨kE, eE⟩ := k.enter (N := N)
  have ltA : ∀ j, slAt as j ≠ .no → j < vs.length := fun j e => by
    rw [← hl]
    exact slAt_lt e
  have br : ∀ j xs, heldAt (exitR as ρ') j = some xs → ∃ m, slAt as j = .brw m ∧ slAt ρ' j = .brw xs ∧ σ'[j]? = (vs.map some)[j]? := fun j xs e => by
    unfold heldAt at e
    rw [slAt_exit] at e
    cases w : slAt as j with
    | no => rw [w] at e; cases e
    | val d => rw [w] at e; cases e
    | own m => exact absurd w (no j m)
    | brw m =>
      rw [w] at e
      obtain ⟨e1, ds', e2⟩ := s.brw j m (by rw [slAt_ent]; exact w)
      refine ⟨m, rfl, ?_, by rw [e1, start_at j (ltA j (by rw [w]; exact fun z => by cases z))]⟩
      have e' : (slAt ρ' j).held = some xs := e
      rw [e2] at e' ⊢
      cases e'
      rfl
  have ow : ∀ a, Ow (exitR as ρ') (vs.map some) a → Ow ρ' σ' a := fun a ⟨j, xs, e1, e2⟩ => by
    obtain ⟨m, _, h2, h3⟩ := br j xs e1
    exact ⟨j, xs, by unfold heldAt; rw [h2]; rfl, by rw [h3]; exact e2⟩
  have owE : ∀ a, Ow (entR as N.length) (L2.start N vs) a → Ow as (vs.map some) a := fun a z => by
    have q : Hid (entR as N.length) (L2.start N vs) (fun _ => False) = Hid as (vs.map some) (fun _ => False) := ((show Ok Z (vs.map some) as H (fun _ => False) from ⟨k.len, fun i d e => by
      obtain ⟨v, h1, h2⟩ := k.val i d e
      exact ⟨v, h1, h2.sub (vis_sub fun a o h n _ => ⟨fun z => n (z.elim False.elim .inr), h⟩)⟩, fun i xs e => by
      obtain ⟨a, ws, h1, h2, h3, h4⟩ := k.own i xs e
      exact ⟨a, ws, h1, h2, h3.sub (vis_sub fun a o h n _ => ⟨fun z => n (z.elim False.elim .inr), h⟩), fun z => z⟩, k.inj, k.j, fun a z => z.elim⟩).enter (N := N)).2
    have z2 : Hid (entR as N.length) (L2.start N vs) (fun _ => False) a := .inr z
    rw [q] at z2
    exact z2.elim False.elim fun z => z
  have sub : Sub (vis H' (Hid ρ' σ' G)) (vis H' (Hid (exitR as ρ') (vs.map some) G)) := vis_sub fun a o h n _ => ⟨fun z => n (z.imp (fun z => z) (ow a)), h⟩
  have sub0 : Sub (vis H (Hid as (vs.map some) G)) (vis H' (Hid (exitR as ρ') (vs.map some) G)) := by
    have q : Sub (vis H (Hid (entR as N.length) (L2.start N vs) G)) (vis H' (Hid ρ' σ' G)) := s.vis
    rw [eE] at q
    exact q.trans sub
  refine ⟨⟨by unfold exitR; rw [List.length_mapIdx]; exact k.len, fun i d e => ?_, fun i xs e => ?_, fun i j xs ys a q1 q2 q3 q4 => ?_, k'.j, k'.gt⟩, ⟨fun a o h n m => s.keep a o h n fun z => m (owE a z), fun a o h n m z => s.out a o h n (fun z => m (owE a z)) (ow a z), fun i xs e => ⟨rfl, ?_⟩⟩, sub⟩
  · rw [slAt_exit] at e
    cases w : slAt as i with
    | no => rw [w] at e; cases e
    | own m => exact absurd w (no i m)
    | val d' =>
      rw [w] at e
      cases e
      obtain ⟨v, h1, h2⟩ := k.val i d w
      exact ⟨v, h1, h2.sub sub0⟩
    | brw m =>
      rw [w] at e
      obtain ⟨_, ds', e2⟩ := s.brw i m (by rw [slAt_ent]; exact w)
      have e' : slAt ρ' i = .val d := e
      rw [e2] at e'
      cases e'
  · obtain ⟨m, h1, h2, h3⟩ := br i xs e
    obtain ⟨a, ws, w1, w2, w3, w4⟩ := k'.own i xs (by unfold heldAt; rw [h2]; rfl)
    exact ⟨a, ws, by rw [← h3]; exact w1, w2, w3.sub sub, w4⟩
  · obtain ⟨m, _, h2, h3⟩ := br i xs q1
    obtain ⟨m', _, h2', h3'⟩ := br j ys q2
    exact k'.inj i j xs ys a (by unfold heldAt; rw [h2]; rfl) (by unfold heldAt; rw [h2']; rfl) (by rw [h3]; exact q3) (by rw [h3']; exact q4)
  · obtain ⟨_, ds', e2⟩ := s.brw i xs (by rw [slAt_ent]; exact e)
    exact ⟨ds', by rw [slAt_exit, e]; exact e2⟩
end
instance fit_cx {CXX : CXT} {P : Program} {w : World} {Z : Zx} {base : Heap} {N : List Str} {q : Str} {sc : Scope} {f : Addr} {cd : Value} {A : Around} {o : List Env} {s : Shared} {H : Hp} {E : XK} : Fit (cxOf CXX P w Z.K Z.mg base N q sc f cd A o s H E) Z := ⟨rfl, rfl⟩
/-- the context of a def's body -/
abbrev CxD (P : Program) (w : World) (base : Heap) (Z : Zx) (N : List Str) (n : Str) (sc : Scope) (f : Addr) (cd : Value) (A : Around) (o : List Env) (s : Shared) (H : Hp) (E : XK) : Cx := cxOf (L2N.CX P w) P w Z.K Z.mg base N n sc f cd A o s H E
abbrev WD (E : XK) : WX := fun c d _ H => E c d H
/-- what a def's body owes: its reading at the entry -/
def Body (t : DS) (n m : Nat) (F : FS) : Prop := ∀ as Qd Ed, F as Qd Ed → as.length = m ∧ NoOwn as ∧ t { nx := fun ρ => Qd .non (exitR as ρ), rt := fun d ρ => Qd d (exitR as ρ) } (fun x ρ => Ed x (exitR as ρ)) (entR as n)
theorem Df.of {P : Program} {w : World} {base : Heap} {Z : Zx} {N ps : List Str} {scope : Scope} {body : List Stmt} {params : Arguments} {f : Addr} {fd : FuncData} {n : Str} {k m : Nat} {F : FS} {t : DS} (FD : FunD Z.K n n params body scope [] [] f fd) (S : FnScope N ps scope) (hm : Z.mg n = some (.ref f))
    (hb : ∀ (kV doc pm : Value) (an : Option Addr) (cdv ct : Value) (us : List Value), us.length = ps.length → bindArgs (PySem.W.fnOf n n params body scope .none kV doc pm an cdv ct) ⟨us, []⟩ = pure (ps.zip us)) (hps : ps.length = m)
    (walk : ∀ (cdv : Value) (A : Around) (outer : List Env) (s : Shared) (H : Hp) (E : XK), Room k (A.deeper (envOfC n scope s.heap.objs.size f cdv)) → PSs (CxD P w base Z N n scope f cdv A outer s H E) body (upS Z (WD E) t))
    (pur : Body t N.length m F) : Df P w base Z (k + 1) n m F := by
  refine ⟨f, fd, ps, FD.ok S (fun vs H Q E h => h.1.trans hps.symm) fun cdv A outer s H vs Q E hr h => ⟨_, walk cdv A outer s H E hr, ?_⟩, hm, FD.kp, FD.bindsN hb⟩
  obtain ⟨hl, as, G, Qd, Ed, ok, hF, hq, hx⟩ := h
  obtain ⟨_, no, ht⟩ := pur as Qd Ed hF
  obtain ⟨kE, eE⟩ := ok.enter (N := N)
  refine ⟨entR as N.length, G, _, _, kE, ht, fun σ' ρ' H' ok' s' => ?_, fun x c dd σ' ρ' H' ok' s' p e => ?_⟩
  · obtain ⟨k1, k2, k3⟩ := ok.leave no ok' s'
    refine ⟨fun z => hq .non .non _ H' k1 k2 rfl z, fun z => z.elim, fun z => z.elim, fun d v r z => hq d v _ H' k1 k2 (r.sub k3) z⟩
  · obtain ⟨k1, k2, k3⟩ := ok.leave no ok' s'
    exact hx x c dd _ H' k1 k2 p e
end TS
set_option Elab.async false
set_option linter.all false
set_option maxRecDepth 100000
set_option maxHeartbeats 4000000
set_option exponentiation.threshold 10000
/-! the end of an iterator while an exception is handled -/
namespace TS
open PySem PySem.Spec PyProof.Rows L2 HotX
section
open Sem (wp)
variable {prog : Program} {w : World} {A : Around} {E : Value → Shared → Prop} {s : Shared}
theorem stop_hot {α : Type} {x1 : Addr} {Q : α → Shared → Prop} (hot : HotAt A x1 s.heap)
    (hE : ∀ h' e, (∀ b o, s.heap.get? b = some o → h'.get? b = some o) → (∃ o, h'.get? e = some o ∧ o.cls = .type "StopIteration") → E (.ref e) { s with heap := h' }) :
    wpAny (model prog w) A (newExc (.type "StopIteration") []) (fun a s' => wpAny (model prog w) A (raiseNew a : Sem α) Q E s') E s := by
  obtain ⟨hh, o1, vs1, h1, d1, c1⟩ := hot
  simp only [newExc, newTuple]
  refine wpAny_bind (wpAny_newObj_type ?_ (by size_fits)); refine wpAny_bind (m := firstArgMember _ _) (wpAny_of_eq (a := Value.none) (by first | rfl | (simp only [firstArgMember]; rfl)) ?_)
  refine wpAny_newObj_type ?_ (by size_fits); refine raiseNew_hot ⟨hh, o1, vs1, Heap.get?_push_of_some _ (Heap.get?_push_of_some _ h1), d1, c1⟩ (Nat.ne_of_lt (Heap.lt_size (Heap.get?_push_of_some _ h1))) (Heap.get?_push_size _ rfl) rfl
    (by first | (simp; done) | (simp; omega) | (simp only [Array.size_append]; simp; omega)) (hE _ _ (fun b o e => ?_) ⟨_, Heap.get?_update_self _ (Heap.get?_push_size _ rfl) rfl, rfl⟩)
  rw [Heap.get?_update_other _ _ (Nat.ne_of_gt (Heap.lt_size (Heap.get?_push_of_some _ e)))]; exact Heap.get?_push_of_some _ (Heap.get?_push_of_some _ e)
theorem hot_over {x1 it : Addr} {h h' : Heap} {o1 : Obj} (hs : Heap.SameBut it h h') (hne : x1 ≠ it) (e : h.get? x1 = some o1) : h'.get? x1 = some o1 := hs.extBut _ _ hne e
theorem hot_go {x1 : Addr} {h h' : Heap} (hot : HotAt A x1 h) (k : ∀ o, h.get? x1 = some o → h'.get? x1 = some o) : HotAt A x1 h' := by
  obtain ⟨hh, o1, vs1, h1, d1, c1⟩ := hot
  exact ⟨hh, o1, vs1, k _ h1, d1, c1⟩
theorem nextList_hot {it l x1 : Addr} {i : Nat} {items} {Q : Value → Shared → Prop} (hot : HotAt A x1 s.heap) (hne : x1 ≠ it) (hit : s.heap.IsListIter it l i) (hl : s.heap.IsList l items) (hx : items[i]? = none)
    (hE : ∀ h' e, Heap.ExtBut it s.heap h' → (∃ o, h'.get? e = some o ∧ o.cls = .type "StopIteration") → E (.ref e) { s with heap := h' }) : wpAny (model prog w) A (Builtin.SmallTypes.nextOf (.ref it)) Q E s := by
  obtain ⟨o, ho, hc, hd⟩ := id hit; obtain ⟨ol, hol, _, nl, hdl⟩ := hl
  unfold Builtin.SmallTypes.nextOf
  refine wpAny_bind (wpAny_callSpecial?_slot (name := Str.ofString "__next__") hit.typeIs slot_listiter_next (wpAny_call_entry slot_listiter_next hit.typeIs entry_listiter_next ?_ (args_listiter_next _)))
  show wpAny _ _ (field (.ref it) 0 >>= _) _ _ s; refine wpAny_bind (wpAny_field ho hd (x := .ref l) rfl ?_)
  show wpAny _ _ (if (Value.ref l == Value.none) = true then _ else _) _ _ s; rw [if_neg (show ¬ ((Value.ref l == Value.none) = true) from Bool.false_ne_true)]
  show wpAny _ _ (field (.ref it) 1 >>= _) _ _ s; refine wpAny_bind (wpAny_field ho hd (x := .int i 0) rfl ?_)
  show wpAny _ _ (seqItems? (.ref l) >>= _) _ _ s; refine wpAny_bind (wpAny_seqItems hol hdl ?_)
  simp only [Int.toNat_natCast, hx]; refine wpAny_bind (wpAny_rule (wpAny_bind (wpAny_setField ho hd (by simp) ?_)))
  show wpAny _ _ (newExc (.type "StopIteration") [] >>= _) _ _ _; refine wpAny_bind (stop_hot (x1 := x1) (hot_go hot fun o e => hot_over (Heap.SameBut.update ..) hne e) fun h' e hk he => ?_)
  exact hE h' e (fun b o hb q => hk b o ((Heap.SameBut.update ..).extBut b o hb q)) he
theorem nextTup_hot {it t x1 : Addr} {i : Nat} {items} {Q : Option Value → Shared → Prop} (hot : HotAt A x1 s.heap) (hne : x1 ≠ it) (hit : IsTupIter s.heap it t i) (ht : IsTup s.heap t items) (hx : items[i]? = none)
    (hQ : ∀ h', Heap.ExtBut it s.heap h' → Q none { s with heap := h' }) : wpAny (model prog w) A (pyNext (.ref it)) Q E s := by
  obtain ⟨o, ho, hc, hd⟩ := id hit; obtain ⟨ol, hol, _, nl, hdl⟩ := ht
  unfold pyNext
  refine wpAny_bind (wpAny_attempt (wpAny_callSpecial?_slot (name := Str.ofString "__next__") hit.typeIs slot_tupleiter_next (wpAny_call_entry slot_tupleiter_next hit.typeIs entry_tupleiter_next ?_ (args_tupleiter_next _))))
  show wpAny _ _ (field (.ref it) 0 >>= _) _ _ s; refine wpAny_bind (wpAny_field ho hd (x := .ref t) rfl ?_)
  show wpAny _ _ (if (Value.ref t == Value.none) = true then _ else _) _ _ s; rw [if_neg (show ¬ ((Value.ref t == Value.none) = true) from Bool.false_ne_true)]
  show wpAny _ _ (field (.ref it) 1 >>= _) _ _ s; refine wpAny_bind (wpAny_field ho hd (x := .int i 0) rfl ?_)
  show wpAny _ _ (seqItems? (.ref t) >>= _) _ _ s; refine wpAny_bind (wpAny_seqItems hol hdl ?_)
  simp only [Int.toNat_natCast, hx]; refine wpAny_bind (wpAny_rule (wpAny_bind (wpAny_setField ho hd (by simp) ?_)))
  show wpAny _ _ (newExc (.type "StopIteration") [] >>= _) _ _ _; refine wpAny_bind (stop_hot (x1 := x1) (hot_go hot fun o e => hot_over (Heap.SameBut.update ..) hne e) fun h' e hk he => ?_)
  obtain ⟨oe, he, hec⟩ := he
  refine wpAny_bind (wpAny_isInstance (T := "StopIteration") (b := true) ⟨oe, he, hec⟩ isSubtype_stop ?_)
  exact wpAny_pure (hQ h' fun b o hb q => hk b o ((Heap.SameBut.update ..).extBut b o hb q))
theorem unpack_hot {t x1 : Addr} {items : Array Value} {targets : List (Bool × (Value → Sem Unit))} {Q : Unit → Shared → Prop} (hot : HotAt A x1 s.heap) (ht : IsTup s.heap t items) (hn : targets.length = items.size) (hstar : targets.findIdx? (·.1) = none)
    (h : ∀ h', Heap.ExtBut s.heap.objs.size s.heap h' → wpAny (model prog w) A (assignInOrder (targets.map (·.2)) items.toList) Q E { s with heap := h' }) : wpAny (model prog w) A (unpack (.ref t) targets) Q E s := by
  have hlt : t ≠ s.heap.objs.size := by obtain ⟨o, ho, _⟩ := ht; exact Nat.ne_of_lt (Heap.lt_size ho)
  have hx1 : x1 ≠ s.heap.objs.size := by obtain ⟨_, o, _, ho, _⟩ := hot; exact Nat.ne_of_lt (Heap.lt_size ho)
  unfold unpack; rw [hn, hstar]
  refine wpAny_bind (wpAny_holding ?_)
  unfold unpackItems; refine wpAny_bind ?_
  unfold notIterableAtAll; refine wpAny_bind (wpAny_specialOf ht.typeIs slot_tuple_iter.lookup ?_)
  refine wpAny_pure ?_
  simp only [Bool.false_eq_true, if_false]
  refine wpAny_bind (wpAny_holding (iter_tuple ht ?_)); refine wpAny_bind (wpAny_holding (draw_tuple hlt items.size 0 _ _ ⟨_, Heap.get?_push_size _ rfl, rfl, rfl⟩ (ht.push _) (by omega) fun h₁ hit₁ hs₁ => ?_))
  have hall : List.take items.size (List.drop 0 items.toList) = items.toList := by rw [List.drop_zero]; exact List.take_of_length_le (by simp)
  rw [hall, if_neg (by simp)]
  have hot1 : HotAt A x1 h₁ := hot_go hot fun o e => hs₁.extBut x1 o hx1 (Heap.get?_push_of_some _ e)
  refine wpAny_bind (wpAny_holding (nextTup_hot hot1 hx1 hit₁ ((ht.push _).extBut hs₁.extBut hlt) (by simp) fun h₂ he₂ => ?_))
  simp only [Option.isSome_none, Bool.false_eq_true, if_false]
  exact wpAny_pure (h h₂ fun b o hb e => he₂ b o hb (hs₁.extBut b o hb (Heap.get?_push_of_some _ e)))
/-- what a list's iterator draws there -/
theorem draws_hot {x1 : Addr} (hh : A.handled = some (.ref x1)) (it l : Addr) (hne : l ≠ it) (hx : x1 ≠ it) (items : Array Value) :
    Draws prog w A it [it, l, x1] items.size (fun i v => items[i]? = some v) (fun i h => h.IsListIter it l i ∧ h.IsList l items ∧ HotAt A x1 h) where
  live := fun _ _ st => let ⟨o, ho, _⟩ := st.1; ⟨o, ho⟩
  frame := fun _ _ _ st hk => ⟨st.1.at fun o e => hk it (by simp) o e, st.2.1.at fun o e => hk l (by simp) o e, hot_go st.2.2 fun o e => hk x1 (by simp) o e⟩
  item := fun i s Q E hi st hQ => wpAny_nextOf_list_item st.1 st.2.1 (x := items[i]) (by simp [hi]) fun h' hit' hs' => hQ _ h' s.toks (by simp [hi]) ⟨hit', st.2.1.extBut hs'.extBut hne, hot_go st.2.2 fun o e => hot_over hs' hx e⟩ hs'
  done := fun s Q E st hE => nextList_hot st.2.2 hx st.1 st.2.1 (by simp) hE
end
end TS
set_option Elab.async false
set_option linter.all false
set_option maxRecDepth 100000
set_option maxHeartbeats 4000000
set_option exponentiation.threshold 10000
/-! [a for a, b in zip(xs, ys) if b] while an exception is handled -/
namespace TS
open PySem PySem.Spec PyProof.Rows L2 HotX
theorem nm_off {b N C D : Nat} (hb : b < N ∨ b = C) (hC : N + 5 ≤ C) (hD : N + 5 ≤ D) (h : D ≠ C) : ¬ (b = D ∨ b = N + 4 ∨ b = N + 3 ∨ b = N ∨ b = N + 1) := by omega
theorem nm_ne {b N C : Nat} (hb : b < N + 5) (hC : N + 5 ≤ C) : b ≠ C := by omega
theorem nm_lt {b N l1 l2 x : Nat} (h1 : l1 < N) (h2 : l2 < N) (h3 : x < N) (hb : b = N + 4 ∨ b = N + 2 ∨ b = N + 3 ∨ b = N ∨ b = l1 ∨ b = x ∨ b = N + 1 ∨ b = l2 ∨ b = x) : b < N + 5 := by omega
/-- the items whose flag is true -/
def pick {α : Type} : List α → List Bool → List α
  | x :: xs, b :: bs => if b then x :: pick xs bs else pick xs bs
  | _, _ => []
theorem pick_take {α : Type} : ∀ (xs : List α) (bs : List Bool) (i : Nat) (x : α) (b : Bool), xs[i]? = some x → bs[i]? = some b → pick (xs.take (i + 1)) (bs.take (i + 1)) = pick (xs.take i) (bs.take i) ++ (if b then [x] else [])
  | [], _, _, _, _, h, _ => by simp at h
  | _ :: _, [], _, _, _, _, h => by simp at h
  | y :: ys, c :: cs, 0, x, b, h, k => by
    simp at h k
    subst h k
    simp [pick]
  | y :: ys, c :: cs, i + 1, x, b, h, k => by
    have ih := pick_take ys cs i x b (by simpa using h) (by simpa using k)
    simp only [List.take_succ_cons, pick]
    cases c
    · simpa using ih
    · simpa using ih
section
open Sem (wp)
variable {prog : Program} {w : World} {A : Around} {env : Env} {s : Shared}
theorem lc_hot {E : Value → Shared → Prop} {scope : Scope} {cl : List (Str × Addr)} {l1 l2 x1 : Addr} {xs : List Value} {bs : List Bool} {xa xb : Str} {pa pb pc pt pe : Pos} {n : Nat} {Q : Value → Shared → Prop} (hot : HotAt A x1 s.heap)
    (hkind : scope.kind = .function) (ha : scope.names.lookup xa = some .local) (hb : scope.names.lookup xb = some .local) (hab : xa ≠ xb) (hda : (xa == ("__debug__" : Str)) = false) (hdb : (xb == ("__debug__" : Str)) = false)
    (hl1 : s.heap.IsList l1 xs.toArray) (hl2 : s.heap.IsList l2 (bs.map Value.bool).toArray) (hsz : xs.length ≤ sizeLine) (hlen : xs.length = bs.length)
    (h : ∀ D h' tk (vs : List Value), s.heap.objs.size ≤ D → h'.PlainList D vs.toArray → vs = pick xs bs → (∀ b o, s.heap.get? b = some o → h'.get? b = some o) → Q (.ref D) { s with heap := h', toks := tk }) :
    wpAny (model prog w) A (call (.type "zip") [.ref l1, .ref l2]) (fun xv s₁ => wpAny (model prog w) A (pyIter xv) (LcGoes prog w A E env scope cl (.Tuple [.Name xa pa, .Name xb pb] n pt) [.Name xb pc] (.Name xa pe) none Q) E s₁) E s := by
  have lt1 : l1 < s.heap.objs.size := by obtain ⟨o, ho, _⟩ := hl1; exact Heap.lt_size ho
  have lt2 : l2 < s.heap.objs.size := by obtain ⟨o, ho, _⟩ := hl2; exact Heap.lt_size ho
  obtain ⟨hh, o1, vs1, g1, d1, c1⟩ := id hot
  have ltx : x1 < s.heap.objs.size := Heap.lt_size g1
  refine zip_begins2 (begins_list l1 xs.toArray) (begins_list l2 (bs.map Value.bool).toArray) hl1 hl2 fun h₁ hZ hTI hTO hi1 hi2 hz5 hk₁ => wpAny_pyIter_zip hZ ?_
  refine ⟨_, _, _, _, _, _, rfl, Goes.zip2 (zip_sep2 (N := s.heap.objs.size) (fp1 := [l1, x1]) (fp2 := [l2, x1]) (fun b hb => by
      simp only [List.mem_cons, List.not_mem_nil, or_false] at hb
      rcases hb with e | e <;> (rw [e]; assumption)) (fun b hb => by
      simp only [List.mem_cons, List.not_mem_nil, or_false] at hb
      rcases hb with e | e <;> (rw [e]; assumption)))
      (draws_hot (A := A.in1) hh _ l1 (Nat.ne_of_lt lt1) (Nat.ne_of_lt ltx) xs.toArray) (draws_hot (A := A.in1) hh _ l2 (Nat.ne_of_lt (Nat.lt_succ_of_lt lt2)) (Nat.ne_of_lt (Nat.lt_succ_of_lt ltx)) (bs.map Value.bool).toArray),
    by simp only [List.size_toArray, List.length_map]; omega,
    ⟨hZ, hTI, ⟨_, _, hTO⟩, ⟨⟨_, hi1, rfl, rfl⟩, hl1.at fun o e => hk₁ _ o e, hh, o1, vs1, hk₁ _ _ g1, d1, c1⟩, ⟨⟨_, hi2, rfl, rfl⟩, hl2.at fun o e => hk₁ _ o e, hh, o1, vs1, hk₁ _ _ g1, d1, c1⟩⟩, ?_, fun D C s₃ hB => ?_⟩
  · intro b hb
    show b < h₁.objs.size
    rw [hz5]
    exact nm_lt lt1 lt2 ltx (by simpa using hb)
  obtain ⟨⟨h₃, tk₃, rfl⟩, old, nD, nC, hDC, hnm⟩ := hB
  have nC' : (s.heap.objs.size + 5 : Nat) ≤ C := by rw [← hz5]; exact nC
  have nD' : (s.heap.objs.size + 5 : Nat) ≤ D := by rw [← hz5]; exact nD
  have hDC' : (D : Nat) ≠ C := hDC
  have kinds : ∀ y, scope.names.lookup y = some .local → (compEnvC scope cl C env).kindOf y = some .local := fun y hy => lookup_relabel_local hy
  have hp : ((compEnvC scope cl C env).scope.kind == .class || ((compEnvC scope cl C env).scope.kind == .module && (compEnvC scope cl C env).locals != (compEnvC scope cl C env).globals)) = false := by
    show (scope.kind == .class || (scope.kind == .module && _)) = false
    rw [hkind]; rfl
  refine ⟨fun i vs s₁ => ∃ h' tk m, s₁ = { s with heap := h', toks := tk } ∧ h'.Ns C m ∧ vs = pick (xs.take i) (bs.take i) ∧ ∀ b o, s.heap.get? b = some o → h'.get? b = some o, ⟨h₃, tk₃, _, rfl, hnm, by simp [pick], fun b o e => old b o (hk₁ b o e)⟩, ?_, ?_, ?_⟩
  · rintro i vs s₁ h' tk ⟨h₄, tk₄, m, rfl, n₄, e₄, k₄⟩ hk' _
    have off : ∀ b : Addr, (b < s.heap.objs.size ∨ b = C) → b ∉ D :: [s.heap.objs.size + 4, s.heap.objs.size + 3, s.heap.objs.size, s.heap.objs.size + 1] := fun b hb hm => nm_off hb nC' nD' hDC' (by simpa using hm)
    exact ⟨h', tk, m, rfl, n₄.at' fun o e => hk' _ o (off _ (.inr rfl)) e, e₄, fun b o e => hk' b o (off _ (.inl (Heap.lt_size e))) (k₄ b o e)⟩
  · rintro i v vs s₁ hi ⟨T, x, y, rfl, hx, hy, hT⟩ st ⟨h₄, tk₄, m, rfl, n₄, e₄, k₄⟩ hpl
    have hx' : xs[i]? = some x := by simpa using hx
    obtain ⟨b, hbi, rfl⟩ : ∃ b, bs[i]? = some b ∧ y = .bool b := by
      have hy' : (bs.map Value.bool).toArray[i]? = some y := hy
      rw [List.getElem?_toArray, List.getElem?_map] at hy'
      cases e : bs[i]? with
      | none => rw [e] at hy'; cases hy'
      | some b => rw [e] at hy'; cases hy'; exact ⟨b, rfl, rfl⟩
    have hCs : C < h₄.objs.size := by obtain ⟨o, _, _, ho, _⟩ := n₄; exact Heap.lt_size ho
    have hot4 : HotAt A x1 h₄ := hot_go hot fun o e => k₄ _ o e
    rw [assign_Tuple]
    refine wpAny_bind (wpAny_standAt (unpack_hot (s := { s with heap := h₄, toks := tk₄ }) hot4 hT rfl rfl fun h₅ hs₅ => ?_))
    have up₅ : ∀ b o, h₄.get? b = some o → h₅.get? b = some o := fun b o e => hs₅ b o (Nat.ne_of_lt (Heap.lt_size e)) e
    show wpAny _ _ (assignInOrder [assign (.Name xa pa) _, assign (.Name xb pb) _] [x, .bool b]) _ _ _
    refine wpAny_assignInOrder_more (wpAny_assign_Name (wpAny_storeName_local (kinds _ ha) (n₄.at' fun o e => up₅ _ o e) (fun h₆ n₆ s₆ => ?_) hp))
    refine wpAny_assignInOrder_more (wpAny_assign_Name (wpAny_storeName_local (kinds _ hb) n₆ (fun h₇ n₇ s₇ => wpAny_assignInOrder_none ?_) hp))
    have up₇ : ∀ b o, b ≠ C → h₄.get? b = some o → h₇.get? b = some o := fun b o hb e => s₇.extBut _ _ hb (s₆.extBut _ _ hb (up₅ b o e))
    have offC : ∀ b : Addr, b < s.heap.objs.size + 5 → b ≠ C := fun b hb => nm_ne hb nC'
    have keepG : ∀ tk, ∃ h' tk' m, ({ s with heap := h₇, toks := tk } : Shared) = { s with heap := h', toks := tk' } ∧ h'.Ns C m ∧ pick (xs.take i) (bs.take i) ++ (if b then [x] else []) = pick (xs.take (i + 1)) (bs.take (i + 1)) ∧ ∀ b o, s.heap.get? b = some o → h'.get? b = some o :=
      fun tk => ⟨h₇, tk, _, rfl, n₇, (pick_take xs bs i x b hx' hbi).symm, fun b o e => up₇ b o (offC b (Nat.lt_add_right 5 (Heap.lt_size e))) (k₄ b o e)⟩
    obtain ⟨z1, z2, ⟨a1, a2, z3⟩, ⟨z4, z5, z6⟩, ⟨z7, z8, z9⟩⟩ := st
    have keepS : IsZip h₇ (s.heap.objs.size + 4) (s.heap.objs.size + 2) (s.heap.objs.size + 3) .none ∧ IsTupOf2 h₇ (s.heap.objs.size + 2) (.ref s.heap.objs.size) (.ref (s.heap.objs.size + 1)) ∧ (∃ a1 a2, IsTupOf2 h₇ (s.heap.objs.size + 3) a1 a2) ∧
        (h₇.IsListIter s.heap.objs.size l1 (i + 1) ∧ h₇.IsList l1 xs.toArray ∧ HotAt A.in1 x1 h₇) ∧ (h₇.IsListIter (s.heap.objs.size + 1) l2 (i + 1) ∧ h₇.IsList l2 (bs.map Value.bool).toArray ∧ HotAt A.in1 x1 h₇) :=
      ⟨up₇ _ _ (offC _ (Nat.add_lt_add_left (by decide) _)) z1, up₇ _ _ (offC _ (Nat.add_lt_add_left (by decide) _)) z2, ⟨a1, a2, up₇ _ _ (offC _ (Nat.add_lt_add_left (by decide) _)) z3⟩,
        ⟨z4.at fun o e => up₇ _ o (offC _ (Nat.lt_add_of_pos_right (by decide))) e, z5.at fun o e => up₇ _ o (offC _ (Nat.lt_add_right 5 lt1)) e, hot_go z6 fun o e => up₇ _ o (offC _ (Nat.lt_add_right 5 ltx)) e⟩,
        ⟨z7.at fun o e => up₇ _ o (offC _ (Nat.add_lt_add_left (by decide) _)) e, z8.at fun o e => up₇ _ o (offC _ (Nat.lt_add_right 5 lt2)) e, hot_go z9 fun o e => up₇ _ o (offC _ (Nat.lt_add_right 5 ltx)) e⟩⟩
    have plD : h₇.PlainList D vs.toArray := hpl.at fun o e => up₇ _ o hDC e
    refine wpAny_tests_one (isTrue_plain ?_ rfl)
    rw [eval_Name _ _ _ hdb]
    refine wpAny_bind (wpAny_standAt (wpAny_loadName_local hkind (kinds _ hb) n₇ (v := .bool b) (by simp) (wpAny_truthy_bool ?_)))
    cases b with
    | false =>
      rw [if_neg (by decide)]
      obtain ⟨h', tk', m', q1, q2, q3, q4⟩ := keepG (tk₄ + 1 + 1)
      exact ⟨⟨h', tk', m', q1, q2, by rw [e₄, ← q3]; simp, q4⟩, keepS, plD⟩
    | true =>
      rw [if_pos rfl, eval_Name _ _ _ hda]
      refine wpAny_bind (wpAny_standAt (wpAny_loadName_local hkind (kinds _ ha) n₇ (v := x) (by simp [hab]) ?_))
      obtain ⟨h', tk', m', q1, q2, q3, q4⟩ := keepG (tk₄ + 1 + 1)
      exact ⟨⟨h', tk', m', q1, q2, by rw [e₄, ← q3]; simp, q4⟩, keepS, plD⟩
  · rintro vs s₁ ⟨h₄, tk₄, m, rfl, n₄, e₄, k₄⟩ hpl
    have nD'' : s.heap.objs.size ≤ D := Nat.le_trans (Nat.le_add_right _ 5) nD'
    refine ⟨m, n₄, fun h' hs' => h D h' tk₄ vs nD'' (hpl.extBut hs'.extBut hDC) ?_ fun b o e => hs'.extBut b o (nm_ne (Nat.lt_add_right 5 (Heap.lt_size e)) nC') (k₄ b o e)⟩
    rw [e₄]
    have e1 : min xs.toArray.size (bs.map Value.bool).toArray.size = xs.length := by simp only [List.size_toArray, List.length_map]; omega
    rw [e1, List.take_length, hlen, List.take_length]
end
section
variable {X : Cx}
open L2H (HotC)
/-- what it leaves: a new list of the texts whose flag is true -/
def tNm (K : PySem.W.Frag) (ta : TA) : TE := fun σ H Q => ta σ H fun vs H1 => ∃ (p q : Addr) (xs : List Str) (bs : List Bool), vs = [.ref p, .ref q] ∧ SqL K H1 p (xs.map V.str) ∧ SqL K H1 q (bs.map V.bl) ∧ xs.length = bs.length ∧ ∀ D, H1 D = none → Q (.ref D) (upd H1 D (.lst ((pick xs bs).map V.str)))
theorem vals_bl : ∀ {bs : List Bool} {us : List Value}, Vals (bs.map V.bl) us → us = bs.map Value.bool
  | [], _, .nil => rfl
  | b :: bs, _, .cons r t => by
    cases r
    rw [vals_bl t]
    rfl
theorem vals_pick : ∀ {xs : List Str} {us : List Value} {bs : List Bool}, Vals (xs.map V.str) us → Vals ((pick xs bs).map V.str) (pick us bs)
  | [], _, _, .nil => by
    simp only [pick, List.map_nil]
    exact .nil
  | x :: xs, _, [], .cons r t => by
    simp only [pick, List.map_nil]
    exact .nil
  | x :: xs, _, b :: bs, .cons r t => by
    simp only [pick]
    cases b
    · rw [if_neg (by decide), if_neg (by decide)]
      exact vals_pick t
    · rw [if_pos rfl, if_pos rfl]
      exact .cons r (vals_pick t)
theorem pick_len {α : Type} : ∀ (xs : List α) (bs : List Bool), (pick xs bs).length ≤ xs.length
  | [], _ => by simp [pick]
  | _ :: _, [] => by simp [pick]
  | x :: xs, b :: bs => by
    have := pick_len xs bs
    simp only [pick]
    cases b <;> simp <;> omega
theorem pe_nm {e e2 : Expr} {ta : TA} {scope : Scope} {xa xb : Str} {pa pb pc pt pe p cpos pos : Pos} {n : Nat} (hot : HotC X) (hg : Gl X "zip") (hm : X.mg "zip" = none) (ha : PA X [e, e2] ta)
    (hcell : ∀ y ∈ scope.names, y.2 ≠ .cell ∧ y.2 ≠ .free) (hkind : scope.kind = .function) (hnames : ∀ y ∈ scope.names, y.2 = .local → scope.names.lookup y.1 = some .local)
    (hna : scope.names.lookup xa = some .local) (hnb : scope.names.lookup xb = some .local) (hab : xa ≠ xb) (hda : (xa == ("__debug__" : Str)) = false) (hdb : (xb == ("__debug__" : Str)) = false)
    (hs1 : starEach [e, e2] X.env = (false, eval e X.env) :: starEach [e2] X.env) (hpl : (backTo cpos (starEach [e2] X.env)).any (·.1) = false) (hs : ∀ x, foldedSetIterable (.Call (.Name "zip" p) [e, e2] [] cpos) X.env x = pure x) :
    PE X (.ListComp (.Name xa pe) [⟨.Tuple [.Name xa pa, .Name xb pb] n pt, .Call (.Name "zip" p) [e, e2] [] cpos, [.Name xb pc], 0⟩] scope pos) (tNm X.K ta) := by
  refine ⟨fun pins s σ H Q I h => ?_⟩
  have hclos : closureFor scope X.env = pure (cloFrom X.env.cells scope.names []) := closure_ok fun y hy e => absurd e (hcell y hy).2
  refine ListComp_goes hclos (fun y hy => (hcell y hy).1) hkind hnames ?_ hs
  refine Call_ (ld_blt I hg hm PyProof.Rows.boot_zip (PyProof.Rows.callWith_type1 (thn (ha.run cpos pins s σ H _ I h) fun us s1 ⟨vs, H1, I1, r1, a, b, xs, bs, ex, hq, hq2, hl, q⟩ => ?_) hs1 hpl))
  subst ex
  cases r1 with
  | cons r rr =>
   cases rr with
   | cons r' rr =>
    cases rr
    cases r
    cases r'
    obtain ⟨its, rv, p1, hz1⟩ := I1.list hq
    obtain ⟨its2, rv2, p2, _⟩ := I1.list hq2
    have e2 := vals_bl rv2
    subst e2
    obtain ⟨x1, hat⟩ := hot.at I1
    have l1 := rv.length
    rw [List.length_map] at l1
    refine lc_hot hat hkind hna hnb hab hda hdb p1.isList p2.isList (by rw [← l1, ← List.length_map (f := V.str)]; exact hz1) (by omega) fun D h' tk vs nD hpD ev hk => ?_
    subst ev
    have I2 : Inv X pins σ (upd H1 D (.lst ((pick xs bs).map V.str))) { s1 with heap := h', toks := tk } := I1.laid hk nD (by
      obtain ⟨m, hm⟩ := hpD
      refine ⟨?_, pick its bs, m, vals_pick rv, hm⟩
      rw [List.length_map]
      have := pick_len xs bs
      rw [List.length_map] at hz1
      omega)
    exact ⟨.ref D, _, I2, rfl, q D (I1.hok.fresh nD)⟩
end
end TS
set_option Elab.async false
set_option linter.all false
set_option maxRecDepth 100000
set_option maxHeartbeats 4000000
set_option exponentiation.threshold 10000
/-! the labels of a caught error: isinstance of it, told in a def that the suite calls -/
namespace TS
open PySem PySem.Spec PyProof.Rows L2 HotX
open L2H (HotC Hot1 PinOk RoomH cxH inv_startH)
/-! ### isinstance of the error that is pinned -/
theorem call_isH {X : Cx} {a D : Addr} {oe : Obj} (hp : (a, oe) ∈ X.pn) (C : ExcC X.K D) (hz : Zc (.ref D) none oe) (hf : ∃ vs, oe.data = .fields vs) : CallR X (.builtin "isinstance") (rIsE X.K D a) := by
  intro pins s σ H xs us Q I r h
  obtain ⟨c, cv, b, rfl, hcv, e, q⟩ := h
  obtain ⟨v, u, rfl, rx, rt⟩ := r.two
  cases rx
  have ec := hcv _ rt
  subst ec
  have hget := (I.pin (a, oe) (List.mem_append_left _ hp)).1
  obtain ⟨vs, hv⟩ := hf
  have J : PySem.W.InstAt s.heap a oe D none := by
    obtain ⟨oc, od, oda, osl⟩ := oe
    obtain ⟨h1, h2⟩ := hz
    dsimp only at h1 h2 hv
    subst h1 h2 hv
    exact ⟨hget, rfl, rfl, trivial⟩
  exact PySem.W.kia_one (PySem.W.handS_kitx_exc C.hg C.hk C.hs C.hd C.ha C.hn C.ht C.hm) I.kIn J e (fun z => nomatch z) fun tk => ⟨.bl b, H, I.kept (t' := tk) fun _ _ z => z, rfl, q⟩
/-- it is asked, of the error in slot 0 -/
def tIs (a : Addr) (b : Bool) : TE := fun σ H Q => σ[0]? = some (some (.ref a)) ∧ Q (.bl b) H
def tIss (a : Addr) (bs : List Bool) : TA := fun σ H Q => σ[0]? = some (some (.ref a)) ∧ Q (bs.map V.bl) H
section
variable {X : Cx} {a D : Addr}
theorem pe_is {x n : Str} {b : Bool} {C : Addr} {p px pn pos : Pos} (hc : CallR X (.builtin "isinstance") (rIsE X.K D a)) (hm : X.mg "isinstance" = none) (hg : Gl X "isinstance") (hN : X.N[0]? = some x) (hv : Vis X.env.scope x) (hgn : Gl X n) (hmn : X.mg n = some (.ref C)) (k : PySem.W.kitOne X.K (.ref D) (.ref C) = some b)
    (hd : (x == ("__debug__" : Str)) = false) (hcd : (x == ("__classdict__" : Str)) = false) (hdn : (n == ("__debug__" : Str)) = false)
    (he : starEach [.Name x px, .Name n pn] X.env = (false, eval (.Name x px) X.env) :: starEach [.Name n pn] X.env) (he2 : starEach [.Name n pn] X.env = (false, eval (.Name n pn) X.env) :: starEach [] X.env) (hpl : (backTo pos (starEach [.Name n pn] X.env)).any (·.1) = false) :
    PE X (.Call (.Name "isinstance" p) [.Name x px, .Name n pn] [] pos) (tIs a b) :=
  PE.wk (pe_callB hc hg hm boot_isinstance (pa_cons (pe_var (i := 0) hN hv hd hcd) (pa_cons (pe_glob (v := .ref C) hgn hmn rfl hdn) pa_nil he2) he) (by decide) (by decide) he hpl) fun σ H Q ⟨h0, h⟩ =>
    ⟨.ref a, h0, .ref C, .ref C, b, rfl, fun u r => by cases r; rfl, k, h⟩
theorem pe_isT {x n : Str} {b : Bool} {T : String} {p px pn pos : Pos} (hc : CallR X (.builtin "isinstance") (rIsE X.K D a)) (hm : X.mg "isinstance" = none) (hg : Gl X "isinstance") (hN : X.N[0]? = some x) (hv : Vis X.env.scope x) (hgn : Gl X n) (hmn : X.mg n = none) (hbn : bootBuiltins n = some (.type T)) (hnn : n ≠ "__name__") (k : PySem.W.kitOne X.K (.ref D) (.type T) = some b)
    (hd : (x == ("__debug__" : Str)) = false) (hcd : (x == ("__classdict__" : Str)) = false) (hdn : (n == ("__debug__" : Str)) = false)
    (he : starEach [.Name x px, .Name n pn] X.env = (false, eval (.Name x px) X.env) :: starEach [.Name n pn] X.env) (he2 : starEach [.Name n pn] X.env = (false, eval (.Name n pn) X.env) :: starEach [] X.env) (hpl : (backTo pos (starEach [.Name n pn] X.env)).any (·.1) = false) :
    PE X (.Call (.Name "isinstance" p) [.Name x px, .Name n pn] [] pos) (tIs a b) :=
  PE.wk (pe_callB hc hg hm boot_isinstance (pa_cons (pe_var (i := 0) hN hv hd hcd) (pa_cons (pe_bltn (v := .ty T) hgn hmn hbn rfl hnn hdn) pa_nil he2) he) (by decide) (by decide) he hpl) fun σ H Q ⟨h0, h⟩ =>
    ⟨.ref a, h0, .ty T, .type T, b, rfl, fun u r => r, k, h⟩
theorem pa_is0 : PA X [] (tIss a []) := PA.wk pa_nil fun _ _ _ h => h.2
theorem pa_is {e : Expr} {es : List Expr} {b : Bool} {bs : List Bool} (h : PE X e (tIs a b)) (k : PA X es (tIss a bs)) (hs : starEach (e :: es) X.env = (false, eval e X.env) :: starEach es X.env := by rfl) : PA X (e :: es) (tIss a (b :: bs)) :=
  PA.wk (pa_cons h k hs) fun _ _ _ h => ⟨h.1, h.1, h.2⟩
end
/-! ### the def that is called -/
structure FnZ (P : Program) (w : World) (K : PySem.W.Frag) (mg : Str → Option Value) (base : Heap) (k : Nat) (f : Addr) (fd : FuncData) (ps : List Str) (D : Addr) (r : Str) : Prop where
  len : ps.length = 1
  run : ∀ (A : Around) (outer : List Env) (s : Shared) (H : Hp) (args : Args) (us : List Value) (Q : VK) (p : Addr × Obj), RoomH k A → Hot1 A p → Zc (.ref D) none p.2 → PinOk outer H s p → Env0 P w K mg base A outer s H → BindsTo s fd args (ps.zip us) → Vals [.ref p.1] us →
    (∀ H', Same H H' → Q (.str r) H') → codeAny (model P w) A (.call (.ref f) args) (CR (L2N.CX P w) outer P w H s Q fun _ _ _ => False) s
theorem fnZ_of {P : Program} {w : World} {K : PySem.W.Frag} {mg : Str → Option Value} {base : Heap} {k : Nat} {f D : Addr} {r : Str} {name qual : Str} {params : Arguments} {body : List Stmt} {scope : Scope} {N ps : List Str} {fd : FuncData}
    (FD : FunD K name qual params body scope [] [] f fd) (S : FnScope N ps scope) (h1 : ps.length = 1)
    (hbody : ∀ (A : Around) (outer : List Env) (s : Shared) (H : Hp) (cdv : Value) (E : XK) (p : Addr × Obj), Hot1 A p → Zc (.ref D) none p.2 → RoomH k (A.deeper (envOfC qual scope s.heap.objs.size f cdv)) →
      ∃ t, PSs (cxH (L2N.CX P w) P w K mg base N qual scope f cdv A outer s H E p) body t ∧ ∀ Q : VK, (∀ H', Same H H' → Q (.str r) H') → t { nx := fun _ H' => Q .non H', rt := Q } (L2.start N [.ref p.1]) H) : FnZ P w K mg base (k + 1) f fd ps D r := by
  obtain ⟨oc, od, dV, kV, doc, pm, an, cdv, ct, osl, rfl, lk, hcd, _, _⟩ := FD.ex
  refine ⟨h1, fun A outer s H args us Q p hr hot hz hpin e0 hb rv hq => ?_⟩
  have hl : ([V.ref p.1] : List V).length = ps.length := h1.symm
  have KX : K.In s.heap := e0.mod.kin.keeps fun b o e => (e0.bs b o e).1
  have lim : s.heap.NoLimit := e0.mod.nolimit.keeps fun b o e => (e0.bs b o e).1
  have kinds : ∀ y ∈ ps.zip us, scope.names.lookup y.1 = some .local ∨ (scope.names.lookup y.1 = some .cell ∧ ((cellsFrom (s.heap.objs.size + 1) scope.names []).lookup y.1).isSome = true) := fun y hy =>
    (S.par y.1 (List.of_mem_zip (a := y.1) (b := y.2) hy).1).imp (fun q => q) fun q => ⟨q, PySem.W.cellsFrom_some _ _ _ (.inl q)⟩
  refine codeAny_call_function hr.depth (KX _ _ lk) rfl S.co S.gen rfl (PySem.W.codeRec_of KX hcd) (hb _ _ _ _ (wpAny_newFunctionEnv_cells S.kind kinds fun env he s1 x => ?_))
  subst he
  refine ⟨lim.keeps x.toInCall.keep, codeAny_func ?_⟩
  obtain ⟨t, ht, hT⟩ := hbody A outer s H cdv (fun _ _ _ => False) p hot hz (hr.deeper _)
  have I : Inv (cxH (L2N.CX P w) P w K mg base N qual scope f cdv A outer s H (fun _ _ _ => False) p) [] (L2.start N [.ref p.1]) H s1 := inv_startH S hpin e0 hl rv x
  refine wpAny_mono (ht.run [] s1 _ H _ I (hT Q hq)) (fun fl s' hs => ?_) fun e s' hs => hs
  cases fl with
  | ret u =>
    obtain ⟨v, σ', H', J, r', q⟩ := hs
    exact ⟨v, H', J.os, J.bare, J.base, J.hok, r', q⟩
  | next =>
    obtain ⟨σ', H', J, q⟩ := hs
    exact ⟨.non, H', J.os, J.bare, J.base, J.hok, rfl, q⟩
  | brk =>
    obtain ⟨_, _, _, q⟩ := hs
    exact q.elim
  | cont =>
    obtain ⟨_, _, _, q⟩ := hs
    exact q.elim
/-- f(e) in the suite, e the error -/
theorem pe_callZ {X : Cx} {k i : Nat} {f a D : Addr} {fd : FuncData} {ps : List Str} {r x n : Str} {oe : Obj} {px p pos : Pos} (F : FnZ X.prog X.w X.K X.mg X.base k f fd ps D r) (hr : RoomH k X.A) (hp : (a, oe) ∈ X.pn) (hot : Hot1 X.A (a, oe)) (hz : Zc (.ref D) none oe) (hg : Gl X x) (hm : X.mg x = some (.ref f)) (hk : PySem.W.keepIn X.K (.ref f) = true) (hb : Binds X.K fd ps [])
    (hN : X.N[i]? = some n) (hv : Vis X.env.scope n) (hd : (n == ("__debug__" : Str)) = false) (hcd : (n == ("__classdict__" : Str)) = false) (hdb : (x == ("__debug__" : Str)) = false)
    (he : starEach [.Name n px] X.env = (false, eval (.Name n px) X.env) :: starEach [] X.env) (hpl : (backTo pos (starEach [] X.env)).any (·.1) = false) :
    PE X (.Call (.Name x p) [.Name n px] [] pos) (fun σ H Q => σ[i]? = some (some (.ref a)) ∧ ∀ H', Same H H' → Q (.str r) H') := by
  refine ⟨fun pins s σ H Q I h => wpAny_Call_Name_kw (ld_glob I hg hm ?_ hdb)⟩
  refine PySem.W.callWith_K (h₀ := X.base) I.ok.mod.kin hk (thn ((pa_cons (pe_var (i := i) hN hv hd hcd) pa_nil he).run pos pins s σ H (fun vs H1 => vs = [.ref a] ∧ H1 = H) I ⟨.ref a, h.1, rfl, rfl⟩) fun us s1 ⟨vs, H1, I1, r1, e1, e2⟩ => ⟨I1.kIn, ?_⟩) he hpl
  subst e1 e2
  have P1 := I1.pin (a, oe) (List.mem_append_left _ hp)
  have b := hb s1 us I1.kIn (by rw [List.append_nil, ← r1.length, F.len]; rfl)
  rw [List.append_nil] at b
  have pin : PinOk X.stack H1 s1 (a, oe) := ⟨P1.1, P1.2.1, fun hm => (List.mem_cons.mp (I1.stkSub a hm)).elim P1.2.2.1 P1.2.2.2.1, P1.2.2.2.2⟩
  refine wpAny_call (codeAny_mono (F.run X.A X.stack s1 H1 ⟨us, []⟩ us Q (a, oe) hr hot hz pin I1.env0 b r1 h.2) fun q s' hq => ?_)
  match q, hq with
  | .error e, hq =>
    obtain ⟨_, _, _, _, _, _, _, _, _, _, _, _, z⟩ := hq
    exact z.elim
  | .ok (.ret u), hq => exact I1.after hq
  | .ok .next, hq => exact hq.elim
  | .ok .brk, hq => exact hq.elim
  | .ok .cont, hq => exact hq.elim
end TS
set_option Elab.async false
set_option linter.all false
set_option maxRecDepth 100000
set_option maxHeartbeats 4000000
set_option exponentiation.threshold 10000
/-! a lambda without parameters, handed to a def that tries it and tells the error's labels -/
namespace TS
open PySem PySem.Spec PyProof.Rows L2 HotX LamX
open L2H (HotC Hot1 PinOk RoomH cxH inv_startH roomH_of)
/-- the context of the lambda's body -/
abbrev lamN (X : Cx) (A : Around) (outer : List Env) (s : Shared) (H : Hp) (E : XK) (scope : Scope) (f c' : Addr) : Cx :=
  (lamCx X A outer s H E scope f c').wish fun e s' => wpAny (model X.prog X.w) (A.deeper (lamEnv X scope s.heap.objs.size f c')) (leaving (lamEnv X scope s.heap.objs.size f c') e) (fun _ s'' => L2N.CX X.prog X.w outer H s E e s'') (fun e' s'' => L2N.CX X.prog X.w outer H s E e' s'') s'
section
variable {X : Cx} {pins : List (Addr × Obj)} {σ : L2.St} {H HZ : Hp} {s s1 : Shared}
theorem takes_lam {A : Around} {outer : List Env} {E : XK} {scope : Scope} {f c' : Addr} : L2N.Takes (lamN X A outer s H E scope f c') (fun c d _ H => E c d H) := L2N.takes_of rfl rfl rfl rfl
/-- x(), in the def that got the lambda -/
theorem pe_actN {CXg : CXT} {Eg : XK} {Ng : List Str} {qg : Str} {sg : Scope} {g f c' : Addr} {cdg pm ctv : Value} {params : Arguments} {body : Expr} {scope : Scope} {k i : Nat} {a : Str} {pn : List (Addr × Obj)} {xe : Value → Shared → Prop} {W : WX} {E : XK} {tb : TE} {p1 p2 : Pos}
    (I : Inv X pins σ H s) (L : LamS X.env.scope scope) (hf : s.heap.get? f = some (PySem.W.kla_obj "<lambda>" (X.env.qual ++ "<lambda>") params body scope (cloFrom X.env.cells scope.names []) pm c' ctv)) (hfn : H f = none) (hfr : f ∉ frs X.stack)
    (hbind : bindArgs (PySem.W.kla_fn "<lambda>" (X.env.qual ++ "<lambda>") params body scope (cloFrom X.env.cells scope.names []) pm (.ref c') ctv) ⟨[], []⟩ = pure [])
    (tk : L2N.Takes ((cxOf CXg X.prog X.w X.K X.mg X.base Ng qg sg g cdg X.A X.stack s H Eg).tr pn xe) W) (hW : ∀ cls d σ' H', E cls d H' → W cls d σ' H') (hr : Room (k + 1) (X.A.deeper (envOfC qg sg s.heap.objs.size g cdg)))
    (hbody : ∀ (A : Around) (outer : List Env) (s : Shared) (H : Hp), Room k (A.deeper (lamEnv X scope s.heap.objs.size f c')) → PE (lamN X A outer s H E scope f c') body tb)
    (hN : Ng[i]? = some a) (hv : Vis sg a) (hd : (a == ("__debug__" : Str)) = false) (hcd : (a == ("__classdict__" : Str)) = false) :
    PE ((cxOf CXg X.prog X.w X.K X.mg X.base Ng qg sg g cdg X.A X.stack s H Eg).tr pn xe) (.Call (.Name a p1) [] [] p2) (fun τ HZ Q => τ[i]? = some (some (.ref f)) ∧ HZ c' = some (CodeO c' (X.env.qual ++ "<lambda>")) ∧ tb σ HZ Q) := by
  refine ⟨fun pZ sZ σZ HZ Q IZ ⟨hs, hc, ht⟩ => ?_⟩
  refine wpAny_Call_Name_kw (thn ((pe_var (pos := p1) (i := i) hN hv hd hcd).run pZ sZ σZ HZ (fun v H1 => v = .ref f ∧ H1 = HZ) IZ ⟨.ref f, hs, rfl, rfl⟩) fun u s1 ⟨v, H1, I1, r1, ev, eH⟩ => ?_)
  subst ev; subst eH
  obtain rfl : u = Value.ref f := r1
  have of1 := I1.base.keep f _ hf hfn hfr (fun z => nomatch (show f ∈ ([] : List Addr) from z))
  have un : Un (frs X.stack) [] H H1 s.heap s1.heap := I1.base
  obtain ⟨⟨oc, vs, t, hoc, hdc, hvc⟩, _, _⟩ := I1.hok c' _ hc
  have rc : codeAny (model X.prog X.w) (X.A.deeper (envOfC qg sg s.heap.objs.size g cdg)) (.call (.ref f) ⟨[], []⟩) (CR (L2N.CX X.prog X.w) (envOfC qg sg s.heap.objs.size g cdg :: X.stack) X.prog X.w H1 s1 Q E) s1 := by
    refine PySem.W.kla_callFunE hr.depth of1 rfl L.co L.gen rfl ⟨c', oc, vs, t, rfl, hoc, hdc, hvc⟩ ?_
    rw [hbind]
    refine wpAny_pure (wpAny_newFunctionEnv (fun y hy => (L.own y hy).2) (fun y hy => absurd hy (by simp)) (fun h₁ hns hsb => ⟨I1.nolimit.fresh _ hsb, ?_⟩) L.kind)
    have kp : ∀ b o, s1.heap.get? b = some o → h₁.get? b = some o := fun b o e => hsb.extBut b o (Nat.ne_of_lt (Heap.lt_size e)) (Heap.get?_push_of_some _ e)
    have J0 := lam_start2 (c' := c') (f := f) (E := E) (tk := s1.toks + ([] : List (Str × Value)).length) I L I1.env0 hr.hd un hns kp
    show codeAny _ _ (.expr body (lamEnv X scope s1.heap.objs.size f c')) _ _
    refine PySem.W.kla_codeExpr (wpAny_mono ((hbody _ _ s1 H1 (hr.deeper _)).run [] _ _ H1 Q (J0.wish _) ht) (fun v s' hq => ?_) fun e s' hq => hq)
    obtain ⟨w', H', J', rv, q⟩ := hq
    exact ⟨w', H', J'.os, J'.bare, J'.base, J'.hok, rv, q⟩
  have hx := L2N.passes_call tk hW
  refine PySem.W.callWith_F0 ⟨_, _, _, _, of1⟩ (wpAny_call (codeAny_mono rc fun r s' hq => ?_))
  match r, hq with
  | .error e, hq => exact hx pZ _ H1 s1 e s' I1 hq
  | .ok (.ret u), hq => exact I1.after hq
  | .ok .next, hq => exact hq.elim
  | .ok .brk, hq => exact hq.elim
  | .ok .cont, hq => exact hq.elim
/-- what is told of an error: no fields of its own, its labels known, caught by the clause's class -/
def Told (K : PySem.W.Frag) (CS : Addr) (nm : Addr → Option Str) (Q : VK) : XK := fun cls d H' => ∃ D r, cls = .ref D ∧ d = none ∧ PySem.W.exmOne K cls (.ref CS) = some true ∧ nm D = some r ∧ ∀ H'', Same H' H'' → Q (.str r) H''
def tErr (T : List (Addr × Str)) (K : PySem.W.Frag) (CS : Addr) (nm : Addr → Option Str) (t : XK → TE) : TE := fun σ H Q => Tabs T H ∧ ∀ H1, ExtN H H1 → Tabs T H1 → t (Told K CS nm Q) σ H1 fun _ H2 => Q (.str "") H2
/-- x(lambda: body), x the def: try: call(), except C as e: return names(e), return '' -/
theorem pe_err {T : List (Addr × Str)} {x a e C nmf : Str} {g c P CS fz : Addr} {fdz : FuncData} {psz : List Str} {nm : Addr → Option Str} {k kz : Nat} {pg : Arguments} {sg : Scope} {fd : FuncData} {Ng : List Str} {params : Arguments} {body : Expr} {scope : Scope} {t : XK → TE} {p lpos pos : Pos} {j1 : Nat}
    {q1 q2 q3 q4 q5 q6 q7 q8 q9 q10 q11 q12 : Pos}
    (FD : FunD X.K x x pg [.Try [.Expr (.Call (.Name a q1) [] [] q2) q3] [.ExceptHandler (some (.Name C q4)) (some e) [.Return (some (.Call (.Name nmf q5) [.Name e q6] [] q7)) q8] q9] [] [] q10, .Return (some (.Constant (.str "") j1 q11)) q12] sg [] [] g fd)
    (hg : Gl X x) (hm : X.mg x = some (.ref g)) (hb : L2.Binds X.K fd [a] []) (Sg : FnScope Ng [a] sg) (hNg : Ng[0]? = some a) (hva : Vis sg a) (hNe : Ng[1]? = some e) (hle : sg.names.lookup e = some .local)
    (hgC : sg.names.lookup C = some .globalImplicit) (hmC : X.mg C = some (.ref CS)) (hgn : sg.names.lookup nmf = some .globalImplicit) (hmn : X.mg nmf = some (.ref fz)) (hkz : PySem.W.keepIn X.K (.ref fz) = true) (hbz : L2.Binds X.K fdz psz [])
    (hZ : ∀ D r, nm D = some r → FnZ X.prog X.w X.K X.mg X.base kz fz fdz psz D r)
    (TB : TabB X.base X.mg c P) (hcode : X.env.code = .ref c) (hmT : (P, X.env.qual ++ "<lambda>") ∈ T) (hu : ∀ p ∈ T, p.1 = P → p.2 = X.env.qual ++ "<lambda>") (hr : Room (k + 2) X.A) (hkk : kz ≤ k + 1) (L : LamS X.env.scope scope) (hdef : defaultsOf params X.env = ([], []))
    (hbind : ∀ (q : Str) (cl : List (Str × Addr)) (pm cv ctv : Value), bindArgs (PySem.W.kla_fn "<lambda>" q params body scope cl pm cv ctv) ⟨[], []⟩ = pure [])
    (hbody : ∀ (A : Around) (outer : List Env) (s : Shared) (H : Hp) (E : XK) (f c' : Addr), Room k (A.deeper (lamEnv X scope s.heap.objs.size f c')) → PE (lamN X A outer s H E scope f c') body (t E))
    (hdb : (x == ("__debug__" : Str)) = false) (hd : (a == ("__debug__" : Str)) = false) (hcd : (a == ("__classdict__" : Str)) = false) (hdC : (C == ("__debug__" : Str)) = false) (hdn : (nmf == ("__debug__" : Str)) = false) (hde : (e == ("__debug__" : Str)) = false) (hce : (e == ("__classdict__" : Str)) = false)
    (h0 : ∀ f : Addr, (L2.start Ng [V.ref f])[0]? = some (some (V.ref f))) :
    PE X (.Call (.Name x p) [.Lambda params body scope lpos] [] pos) (tErr T X.K CS nm t) := by
  obtain ⟨oc, od, dV, kV, doc, pm, an, cdv, ct, osl, rfl, lk, hcg, _, _⟩ := FD.ex
  refine ⟨fun pins s σo H Q I ⟨hT, h⟩ => wpAny_Call_Name_kw (ld_glob I hg hm (PySem.W.callWith_K (h₀ := X.base) I.ok.mod.kin FD.kp ?_ (by rfl) (by rfl)) hdb)⟩
  show wpAny _ _ (spliced ((false, eval (.Lambda params body scope lpos) X.env) :: backTo pos (starEach [] X.env))) _ _ s
  refine Calls.spliced_cons (lam_make2 I TB hcode hmT hu hT hdef (L.has I.ok) fun f c' pm' ctv H1 s' I1 eN T1 hf hfn hfr hco => Calls.spliced_nil ⟨I1.kIn, ?_⟩)
  have rc : codeAny (model X.prog X.w) X.A (.call (.ref g) ⟨[.ref f], []⟩) (CR C8.CX0 X.stack X.prog X.w H1 s' Q C8.E0) s' := by
    refine run_ofS (N := Ng) (ps := [a]) (us := [.ref f]) (vs := [.ref f]) lk hcg Sg hr I1.env0 (hb s' [.ref f] I1.kIn rfl) (.cons rfl .nil) rfl fun hr' => ?_
    have hgl : Gl (cxOf C8.CX0 X.prog X.w X.K X.mg X.base Ng x sg g cdv X.A X.stack s' H1 C8.E0).nox C := hgC
    have takes0N : L2N.Takes (cxOf C8.CX0 X.prog X.w X.K X.mg X.base Ng x sg g cdv X.A X.stack s' H1 C8.E0).nox (fun _ _ _ _ => False) := fun _ _ x => by
      obtain ⟨_, _, _, _, _, _, _, _, _, _, _, _, _, _, _, _, z⟩ := x
      exact z.elim
    have bodyP : ∀ (W : WX) (pn : List (Addr × Obj)) (xe : Value → Shared → Prop), L2N.Takes ((cxOf C8.CX0 X.prog X.w X.K X.mg X.base Ng x sg g cdv X.A X.stack s' H1 C8.E0).nox.tr pn xe) W →
        PSs ((cxOf C8.CX0 X.prog X.w X.K X.mg X.base Ng x sg g cdv X.A X.stack s' H1 C8.E0).nox.tr pn xe) [.Expr (.Call (.Name a q1) [] [] q2) q3] (fun B τ H => ∃ Ech : XK, (∀ cls d σ' H', Ech cls d H' → W cls d σ' H') ∧ τ[0]? = some (some (.ref f)) ∧ H c' = some (CodeO c' (X.env.qual ++ "<lambda>")) ∧ t Ech σo H fun _ H2 => B.nx τ H2) := fun W pn xe tk => by
      refine ⟨fun pZ sZ τ HZ B IZ ⟨Ech, hW, e1, e2, e3⟩ => ?_⟩
      have q := pe_actN (CXg := C8.CX0) (Eg := C8.E0) (Ng := Ng) (pn := pn) (xe := xe) (i := 0) (p1 := q1) (p2 := q2) I1 L hf hfn hfr (hbind _ _ _ _ _) tk hW hr' (fun A outer s H hr2 => hbody A outer s H Ech f c' hr2) hNg hva hd hcd
      exact (pss_one (ps_expr q)).run pZ sZ τ HZ B IZ ⟨e1, e2, e3⟩
    have suiteP : ∀ (b : Addr) (oe : Obj) (cls : Value) (d : Option Addr) (pn : List (Addr × Obj)), L2N.Zn cls d oe → (∃ vs, oe.data = .fields vs) →
        PSs ((cxOf C8.CX0 X.prog X.w X.K X.mg X.base Ng x sg g cdv X.A X.stack s' H1 C8.E0).nox.suite b ((b, oe) :: pn)) [.Return (some (.Call (.Name nmf q5) [.Name e q6] [] q7)) q8] (fun B τ H => ∃ (D : Addr) (r : Str) (τ1 : L2.St), cls = .ref D ∧ d = none ∧ nm D = some r ∧ τ = τ1.set 1 (some (.ref b)) ∧ ∀ H', Same H H' → B.rt (.str r) H') := fun b oe cls d pn hz hfd => by
      refine ⟨fun pZ sZ τ HZ B IZ ⟨D, r, τ1, ec, ed, en, e0, e2⟩ => ?_⟩
      subst ec ed
      have e1 : τ[1]? = some (some (.ref b)) := by
        have hl : τ.length = Ng.length := IZ.len
        rw [e0, List.length_set] at hl
        have h2 : 1 < Ng.length := (List.getElem?_eq_some_iff.mp hNe).1
        rw [e0]
        exact List.getElem?_set_self (by omega)
      obtain ⟨vs, hvs⟩ := hfd
      exact (pss_one (ps_ret (pe_callZ (X := (cxOf C8.CX0 X.prog X.w X.K X.mg X.base Ng x sg g cdv X.A X.stack s' H1 C8.E0).nox.suite b ((b, oe) :: pn)) (i := 1) (hZ D r en) ⟨((roomH_of hr').mono hkk).dp, ((roomH_of hr').mono hkk).un⟩ List.mem_cons_self ⟨rfl, vs, hvs, hz.2.2 vs hvs⟩ hz.zc hgn hmn hkz hbz hNe (Or.inl hle) hde hce hdn (by rfl) (by rfl)))).run pZ sZ τ HZ B IZ ⟨e1, e2⟩
    refine ⟨_, PSs.nox (pss_cons (L2N.ps_try_as (X := (cxOf C8.CX0 X.prog X.w X.K X.mg X.base Ng x sg g cdv X.A X.stack s' H1 C8.E0).nox) (c := .ref CS) (i := 1)
      rfl rfl Sg.nd hNe hle ⟨hgl, hdC, .inl hmC⟩ takes0N (fun W pn xe tk _ => bodyP W pn xe tk) (fun a oe cls d pn hz hfd => suiteP a oe cls d pn hz hfd)) (pss_one (ps_ret pe_str))), ?_⟩
    refine ⟨Told X.K CS nm Q, fun cls d σ' H' ⟨D, r, ec, ed, ex, en, hq⟩ => ⟨true, ex, fun _ b hbn => ⟨D, r, σ', ec, ed, en, rfl, fun H'' sm => hq H'' sm⟩, fun z => nomatch z⟩, h0 f, hco, h H1 eN T1⟩
  refine wpAny_call (codeAny_mono rc fun r s2 hq => ?_)
  match r, hq with
  | .error e, hq => exact (show False from hq).elim
  | .ok (.ret u), hq => exact I1.after hq
  | .ok .next, hq => exact hq.elim
  | .ok .brk, hq => exact hq.elim
  | .ok .cont, hq => exact hq.elim
end
end TS
set_option Elab.async false
set_option linter.all false
set_option maxRecDepth 100000
set_option maxHeartbeats 4000000
set_option exponentiation.threshold 10000
namespace TS
open PySem PySem.Spec PyProof.Rows L2 LamX
/-! ### tables of code objects -/
instance goodTabs {K : PySem.W.Frag} {mg : Str → Option Value} {T : List (Addr × Str)} : GoodJ ⟨K, mg, Tabs T⟩ := ⟨fun H H' k t p hp => by
  obtain ⟨ps, h1, h2, h3⟩ := t p hp
  refine ⟨ps, k _ _ h1 (fun z => z), h2, fun pos cv hc => ?_⟩
  obtain ⟨c, e1, e2⟩ := h3 pos cv hc
  exact ⟨c, e1, k _ _ e2 (fun z => z)⟩⟩
section
variable {Z : Zx} {σ : L2.St} {ρ : Rho} {H H1 : Hp} {G : Addr → Prop}
theorem extN_keep (e : ExtN H H1) {a : Addr} {o : HO} (h : H a = some o) (n : ¬ Tbl o) : H1 a = some o := e a o h fun ps z => n (by rw [z]; exact trivial)
theorem Ok.extN (k : Ok Z σ ρ H G) (e : ExtN H H1) (j : Z.J H1) : Ok Z σ ρ H1 G ∧ Stp Z σ ρ H σ ρ H1 := by
  have sub : Sub (vis H (Hid ρ σ G)) (vis H1 (Hid ρ σ G)) := vis_sub fun a o h n m => ⟨n, extN_keep e h m⟩
  refine ⟨⟨k.len, fun i d q => ?_, fun i xs q => ?_, k.inj, j, fun a z => ?_⟩, ⟨fun a o h n _ => extN_keep e h n, fun _ _ _ _ n => n, fun i xs q => ⟨rfl, xs, q⟩⟩⟩
  · obtain ⟨v, h1, h2⟩ := k.val i d q
    exact ⟨v, h1, h2.sub sub⟩
  · obtain ⟨a, vs, h1, h2, h3, h4⟩ := k.own i xs q
    exact ⟨a, vs, h1, extN_keep e h2 (fun z => z), h3.sub sub, h4⟩
  · obtain ⟨o, h1, h2⟩ := k.gt a z
    exact ⟨o, extN_keep e h1 h2, h2⟩
end
/-- x(lambda: body), as data: the labels of the error, or no text -/
def dErr (nm : Str → Option Str) (t : DE) : DE := fun ρ Q E => t ρ (fun _ ρ' => Q (.str "") ρ') (fun x ρ' => x.pay = none ∧ ∃ r, nm x.cls = some r ∧ Q (.str r) ρ')
theorem up_err {Z : Zx} {W : WX} {T : List (Addr × Str)} {CS : Addr} {nmA : Addr → Option Str} {nm : Str → Option Str} {td : DE} {K : PySem.W.Frag} (hJ : ∀ H, Z.J H → Tabs T H) (hJ' : ∀ H, Tabs T H → Z.J H) [GoodJ Z]
    (hC : ∀ n r D, nm n = some r → Z.mg n = some (.ref D) → PySem.W.exmOne K (.ref D) (.ref CS) = some true ∧ nmA D = some r) (σ : L2.St) (H : Hp) (Q : VK) (h : upE Z W (dErr nm td) σ H Q) : tErr T K CS nmA (fun E => upE Z (WD E) td) σ H Q := by
  obtain ⟨ρ, G, Qd, E, ok, h, hq, hx⟩ := h
  refine ⟨hJ H ok.j, fun H1 e t1 => ?_⟩
  obtain ⟨k1, s1⟩ := ok.extN e (hJ' H1 t1)
  refine ⟨ρ, G, _, _, k1, h, fun d v ρ2 H2 ok2 s2 r2 q2 => hq (.str "") _ ρ2 H2 ok2 (s1.trans s2) rfl q2, fun x c dd ρ2 H2 ok2 s2 p e2 => ?_⟩
  obtain ⟨hp, r, hn, q2⟩ := e2
  obtain ⟨D, h1, h2, h3⟩ := p
  rw [hp] at h3
  obtain ⟨h4, h5⟩ := hC _ _ _ hn h1
  subst h2
  exact ⟨D, r, rfl, h3, h4, h5, fun H3 sm => hq (.str r) _ ρ2 H3 (ok2.ext sm) ((s1.trans s2).trans (.ext sm)) rfl q2⟩
end TS
set_option Elab.async false
set_option linter.all false
set_option maxRecDepth 100000
set_option maxHeartbeats 4000000
set_option exponentiation.threshold 10000
namespace TS
open PySem PySem.Spec PyProof.Rows L2
/-! ### the first place of an item -/
def ixOf (p : D → Bool) : List D → Option Nat
  | [] => none
  | d :: ds => if p d then some 0 else (ixOf p ds).map (· + 1)
theorem ixOf_some {p : D → Bool} : ∀ {ds : List D} {j : Nat}, ixOf p ds = some j → (∃ d, ds[j]? = some d ∧ p d = true) ∧ ∀ m, m < j → ∀ d, ds[m]? = some d → p d = false
  | [], j, h => by simp [ixOf] at h
  | d :: ds, j, h => by
    unfold ixOf at h
    by_cases hp : p d = true
    · rw [if_pos hp] at h
      cases h
      exact ⟨⟨d, rfl, hp⟩, fun m hm => absurd hm (by omega)⟩
    · rw [if_neg hp] at h
      cases e : ixOf p ds with
      | none => rw [e] at h; cases h
      | some k =>
        rw [e] at h
        cases h
        obtain ⟨⟨d', h1, h2⟩, h3⟩ := ixOf_some e
        refine ⟨⟨d', by simpa using h1, h2⟩, fun m hm d'' hd => ?_⟩
        cases m with
        | zero =>
          simp at hd
          rw [← hd]
          exact Bool.eq_false_iff.mpr hp
        | succ m => exact h3 m (Nat.lt_of_succ_lt_succ hm) d'' (by simpa using hd)
def flatAll (ds : List D) : Bool := ds.all flatD
/-- e.index(x) of a list -/
def dIxL (te : DE) (tx : DA) : DE := fun ρ Q E => te ρ (fun d ρ1 => ∃ ds, d = .lst ds ∧ tx ρ1 (fun xs ρ2 => ∃ x j, xs = [x] ∧ (flatD x = true ∧ flatAll ds = true) ∧ ixOf (fun y => eqD y x) ds = some j ∧ Q (.int (j : Nat)) ρ2) E) E
/-- the same of a tuple of texts of the module -/
def dIxT (ns : List Str) (tx : DA) : DE := fun ρ Q E => tx ρ (fun xs ρ2 => ∃ z j, xs = [.str z] ∧ ixOf (fun y => eqD y (.str z)) (ns.map D.str) = some j ∧ Q (.int (j : Nat)) ρ2) E
section
variable {X : Cx} {Z : Zx} {W : WX}
theorem de_ixL [F : Fit X Z] {o e : Expr} {te : DE} {tx : DA} {apos cpos : Pos} (ho : PE X o (upE Z W te)) (ha : PA X [e] (upA Z W tx)) (hbase : attributeBase o "index" X.env (eval o X.env) = eval o X.env := by rfl)
    (hfew : ((backTo cpos (starEach [e] X.env)).all (fun x => !x.1) && (backToKw cpos (keywordEach [] X.env)).all (fun x => x.1.isSome) && decide ([e].length + ([] : List Keyword).length + (if ([] : List Keyword).isEmpty then 0 else 1) < 30)) = true := by rfl)
    (hline : (apos.endLine == cpos.line) = true := by rfl) (hs : starEach [e] X.env = (false, eval e X.env) :: starEach [] X.env := by rfl) (hpl : (backTo cpos (starEach [] X.env)).any (·.1) = false := by rfl) :
    PE X (.Call (.Attribute o "index" apos) [e] [] cpos) (upE Z W (dIxL te tx)) := PE.wk (pe_bm PySem.F.plainAttrs_list PySem.F.slot_list_index PySem.F.type_list_index mt_index ho ha hbase hfew hline hs hpl) fun σ H Q ⟨ρ, G, Qd, E, ok, h, hq, hx⟩ => by
  refine ⟨ρ, G, _, E, ok, h, fun d v ρ1 H1 ok1 s1 r1 h1 => ?_, hx⟩
  obtain ⟨ds, rfl, h1⟩ := h1
  obtain ⟨a, vs, rfl, e1, r⟩ := r1
  refine ⟨.inl ⟨rfl, vs, .of (vis_some.mp e1).2⟩, ρ1, G, _, E, ok1, h1, fun xs ws ρ2 H2 ok2 s2 r2 h2 => ?_, hx.step s1⟩
  obtain ⟨x, j, rfl, ⟨f1, f2⟩, h3, h4⟩ := h2
  obtain ⟨u, rfl, ru⟩ := r2.one
  have e2 := s2.vis (G := G) _ _ e1 (fun z => z)
  have r' : RpL Z (vis H2 (Hid ρ2 σ G)) ds vs := r.sub s2.vis
  obtain ⟨⟨d, h5, h6⟩, h7⟩ := ixOf_some h3
  obtain ⟨w, h8, h9⟩ := r'.get h5
  have fd : ∀ y ∈ ds, flatD y = true := fun y hy => List.all_eq_true.mp f2 y hy
  refine ⟨a, vs, u, j, w, rfl, rfl, by rw [F.K]; exact .of (vis_some.mp e2).2, ru.flat f1, r'.flat f2, h8, by rw [eqV_eqD h9 ru (fd d (List.mem_of_getElem? h5)) f1]; exact h6, fun m z' hm hz => ?_, hq (.int (j : Nat)) _ ρ2 H2 ok2 (s1.trans s2) rfl h4⟩
  obtain ⟨d', h10, h11⟩ := r'.getV hz
  rw [eqV_eqD h11 ru (fd d' (List.mem_of_getElem? h10)) f1]
  exact h7 m hm d' h10
theorem de_ixT [F : Fit X Z] {x : Str} {a : Addr} {ns : List Str} {e : Expr} {tx : DA} {px apos cpos : Pos} (hm : Z.mg x = some (.ref a)) (hk : ∃ o, Z.K.lookup a = some o ∧ o.cls = .type "tuple" ∧ o.dict = none) (hS : ∀ H, SqT Z.K H a (ns.map V.str)) (ha : PA X [e] (upA Z W tx)) (hg : Gl X x := by rfl) (hd : (x == ("__debug__" : Str)) = false := by decide)
    (hbase : attributeBase (.Name x px) "index" X.env (eval (.Name x px) X.env) = eval (.Name x px) X.env := by rfl)
    (hfew : ((backTo cpos (starEach [e] X.env)).all (fun x => !x.1) && (backToKw cpos (keywordEach [] X.env)).all (fun x => x.1.isSome) && decide ([e].length + ([] : List Keyword).length + (if ([] : List Keyword).isEmpty then 0 else 1) < 30)) = true := by rfl)
    (hline : (apos.endLine == cpos.line) = true := by rfl) (hs : starEach [e] X.env = (false, eval e X.env) :: starEach [] X.env := by rfl) (hpl : (backTo cpos (starEach [] X.env)).any (·.1) = false := by rfl) :
    PE X (.Call (.Attribute (.Name x px) "index" apos) [e] [] cpos) (upE Z W (dIxT ns tx)) :=
  PE.wk (pe_bm PySem.F.plainAttrs_tuple PySem.F.slot_tuple_index PySem.F.type_tuple_index mt_tup_index (pe_glob (v := .ref a) hg (by rw [F.mg]; exact hm) rfl hd) ha hbase hfew hline hs hpl) fun σ H Q ⟨ρ, G, Qd, E, ok, h, hq, hx⟩ => by
    refine ⟨.inr (.inl ⟨rfl, by rw [F.K]; exact hk⟩), ρ, G, _, E, ok, h, fun xs ws ρ2 H2 ok2 s2 r2 h2 => ?_, hx⟩
    obtain ⟨z, j, rfl, h3, h4⟩ := h2
    obtain ⟨u, rfl, ru⟩ := r2.one
    cases ru
    obtain ⟨⟨d, h5, h6⟩, h7⟩ := ixOf_some h3
    have q : ∀ (m : Nat) (w : Str), ns[m]? = some w → (ns.map D.str)[m]? = some (.str w) := fun m w hw => by rw [List.getElem?_map, hw]; rfl
    refine ⟨a, ns, z, j, rfl, rfl, by rw [F.K]; exact hS H2, ?_, fun m hm hw => ?_, hq (.int (j : Nat)) _ ρ2 H2 ok2 s2 rfl h4⟩
    · rw [List.getElem?_map] at h5
      cases e1 : ns[j]? with
      | none => rw [e1] at h5; cases h5
      | some w =>
        rw [e1] at h5
        cases h5
        simp only [eqD, beq_iff_eq] at h6
        rw [h6]
    · have := h7 m hm _ (q m z hw)
      simp [eqD] at this
/-! ### list(range(n)), [..] * k -/
def nRg1 (t : DE) : DA := fun ρ Q E => t ρ (fun d ρ' => ∃ n : Int, d = .int n ∧ (0 ≤ n ∧ n ≤ 1000000) ∧ Q ((List.range n.toNat).map fun (i : Nat) => D.int (0 + i)) ρ') E
theorem RpL.range {A : Hp} {a : Int} : ∀ n : Nat, ∀ f : Nat → Nat, RpL Z A ((List.range n).map fun i => D.int (a + (f i : Nat))) ((List.range n).map fun i => V.int (a + (f i : Nat)))
  | 0, f => trivial
  | n + 1, f => by
    rw [List.range_succ_eq_map, List.map_cons, List.map_cons, List.map_map, List.map_map]
    exact ⟨rfl, RpL.range n (fun i => f (i + 1))⟩
theorem de_listRg [GoodJ Z] [F : Fit X Z] {e : Expr} {t : DE} {p p2 pos pos2 : Pos} (hc : X.calm = true) (hm : Z.mg "list" = none) (hm2 : Z.mg "range" = none) (he : PE X e (upE Z W t)) (hg : Gl X "list" := by rfl) (hg2 : Gl X "range" := by rfl)
    (na : starEach [.Call (.Name "range" p2) [e] [] pos2] X.env = (false, eval (.Call (.Name "range" p2) [e] [] pos2) X.env) :: starEach [] X.env := by rfl) (na2 : starEach [e] X.env = (false, eval e X.env) :: starEach [] X.env := by rfl) :
    PE X (.Call (.Name "list" p) [.Call (.Name "range" p2) [e] [] pos2] [] pos) (upN Z W (nRg1 t)) := PE.wk (pe_listRg hc hg (by rw [F.mg]; exact hm) (prg_1 hg2 (by rw [F.mg]; exact hm2) he na2) na) fun σ H Q ⟨ρ, G, Qd, E, ok, h, hq, hx⟩ => by
  refine ⟨ρ, G, _, E, ok, h, fun d v ρ1 H1 ok1 s1 r1 h1 => ?_, hx⟩
  obtain ⟨n, rfl, hb, h2⟩ := h1
  cases r1
  refine ⟨n, rfl, ⟨by omega, by omega, by omega, by omega, by omega⟩, fun p hp => ?_⟩
  have r : RpL Z (vis H1 (Hid ρ1 σ G)) ((List.range n.toNat).map fun (i : Nat) => D.int (0 + i)) (rgV 0 n) := by
    have e : rgV 0 n = (List.range n.toNat).map fun i => V.int (0 + (i : Nat)) := by
      unfold rgV
      rw [show (n - 0 : Int) = n by omega]
    rw [e]
    exact RpL.range n.toNat fun i => i
  obtain ⟨k1, k2, k3⟩ := ok1.laid hp r
  exact hq _ _ p ρ1 _ k1 (s1.trans (.ext (same_upd hp))) (s1.frs hp) k2 upd_same k3 h2
def oRep : O2
  | .lst ds, .int k, Q => (0 ≤ k ∧ k ≤ 1000 ∧ ds.length ≤ 1000) ∧ Q (.lst (List.replicate k.toNat ds).flatten)
  | _, _, _ => False
theorem RpL.rep {A : Hp} {ds : List D} {vs : List V} (r : RpL Z A ds vs) : ∀ n : Nat, RpL Z A (List.replicate n ds).flatten (List.replicate n vs).flatten
  | 0 => trivial
  | n + 1 => by
    rw [List.replicate_succ, List.replicate_succ, List.flatten_cons, List.flatten_cons]
    exact r.append (RpL.rep r n)
theorem ok_rep [GoodJ Z] : OpOk Z rRep oRep := by
  intro σ ρ H G x y v u Qd Q ok rx ry h hq
  cases x with
  | lst ds =>
    cases y with
    | int k =>
      obtain ⟨a, vs, rfl, q, r⟩ := rx
      cases ry
      obtain ⟨⟨h1, h2, h3⟩, h4⟩ := h
      refine ⟨a, k, vs, rfl, rfl, (vis_some.mp q).2, by omega, by omega, ?_, fun p hp => ?_⟩
      · rw [← r.len]
        have e1 : ds.length * k.toNat ≤ 1000 * 1000 := Nat.mul_le_mul h3 (by omega)
        exact Nat.le_trans e1 (by rw [sizeLine_eq]; decide)
      · exact hq (.lst _) _ _ (same_upd hp) ⟨p, _, rfl, ok.freshV hp, (r.rep _).sub (vis_ext (same_upd hp))⟩ h4
    | _ => exact h.elim
  | _ => exact h.elim
/-! ### calls without arguments -/
def dCall0 (F : FS) : DE := fun ρ Q _ => F [] (fun d _ => Q d ρ) (fun _ _ => False)
theorem de_call0 [F : Fit X Z] {k : Nat} {x : Str} {f : FS} {p pos : Pos} (d : Df X.prog X.w X.base Z k x 0 f) (hr : Room k X.A) (hg : Gl X x := by rfl) (hdb : (x == ("__debug__" : Str)) = false := by decide) : PE X (.Call (.Name x p) [] [] pos) (upE Z W (dCall0 f)) := by
  obtain ⟨fa, fd, ps, hF, hm, hk, hb⟩ := d.ex
  have hK := F.K
  have hM := F.mg
  rw [← hK, ← hM] at hF
  have hx : Passes (L2N.CX X.prog X.w) X (fun _ _ _ => False) := fun _ _ _ _ _ _ _ ⟨_, _, _, _, _, _, _, _, _, _, _, _, z⟩ => z.elim
  refine PE.wk (pe_call0 hF hr hg (by rw [hM]; exact hm) (by rw [hK]; exact hk) (by rw [hK]; exact hb) .nil hx hdb) fun σ H Q ⟨ρ, G, Qd, E, ok, h, hq, hxp⟩ => ?_
  have ok0 : Ok Z (([] : List V).map some) (vals []) H (Hid ρ σ G) := ok.args (ds := []) (vs := []) trivial
  refine ⟨rfl, vals [], Hid ρ σ G, _, _, ok0, h, fun d v as' H' ok' s' r' q' => ?_, fun x c dd as' H' _ _ _ q' => q'⟩
  obtain ⟨b1, b2, b3⟩ := ok.back s' ok'.j
  exact hq d v ρ H' b1 b2 (r'.sub b3) q'
end
end TS
set_option Elab.async false
set_option linter.all false
set_option maxRecDepth 100000
set_option maxHeartbeats 4000000
set_option exponentiation.threshold 10000
/-! defs that give back a new list, for the caller to own -/
namespace TS
open PySem PySem.Spec PyProof.Rows L2
def GP (G : Addr → Prop) (p : Addr) : Addr → Prop := fun a => G a ∨ a = p
def upFN (Z : Zx) (n : Nat) (F : FS) : Sp := fun vs H Q E => vs.length = n ∧ ∃ ds G Qd Ed, Ok Z (vs.map some) (vals ds) H G ∧ F (vals ds) Qd Ed ∧
  (∀ es ws p H', Ok Z (vs.map some) (vals ds) H' (fun a => G a ∨ a = p) → Stp Z (vs.map some) (vals ds) H (vs.map some) (vals ds) H' → (∀ o, H p = some o → Tbl o) → ¬ G p → H' p = some (.lst ws) → RpL Z (vis H' (Hid (vals ds) (vs.map some) fun a => G a ∨ a = p)) es ws → Qd (.lst es) (vals ds) → Q (.ref p) H') ∧
  (∀ x c dd H', Ok Z (vs.map some) (vals ds) H' G → Stp Z (vs.map some) (vals ds) H (vs.map some) (vals ds) H' → Pay Z H' x c dd → Ed x (vals ds) → E c dd H')
structure DfN (P : Program) (w : World) (base : Heap) (Z : Zx) (k : Nat) (n : Str) (m : Nat) (F : FS) : Prop where
  ex : ∃ (f : Addr) (fd : FuncData) (ps : List Str), FnOk P w Z.K Z.mg base (L2N.CX P w) k f fd ps (upFN Z m F) ∧ Z.mg n = some (.ref f) ∧ PySem.W.keepIn Z.K (.ref f) = true ∧ Binds Z.K fd ps []
def nCall (n : Nat) (F : FS) (t : DA) : DA := fun ρ Q E => t ρ (fun ds ρ1 => ds.length = n ∧ F (vals ds) (fun d _ => ∃ l, d = .lst l ∧ Q l ρ1) (fun x _ => E x ρ1)) E
section
variable {X : Cx} {Z : Zx} {W : WX} {σ : L2.St} {ρ : Rho} {H : Hp} {G : Addr → Prop}
theorem Stp.frs2 {σ1 : L2.St} {ρ1 : Rho} {H1 : Hp} {p : Addr} (s : Stp Z σ ρ H σ1 ρ1 H1) (f : Frs σ1 ρ1 H1 p) : Frs σ ρ H p := fun o ho hn => Classical.byContradiction fun z => s.out p o ho hn z (f o (s.keep p o ho hn z) hn)
theorem de_callN [F : Fit X Z] {k n : Nat} {x : Str} {e : Expr} {es : List Expr} {f : FS} {t : DA} {p pos : Pos} (d : DfN X.prog X.w X.base Z k x n f) (tk : L2N.Takes X W) (hr : Room k X.A) (ha : PA X (e :: es) (upA Z W t)) (hg : Gl X x := by rfl)
    (hdb : (x == ("__debug__" : Str)) = false := by decide) (he : starEach (e :: es) X.env = (false, eval e X.env) :: starEach es X.env := by rfl) (hpl : (backTo pos (starEach es X.env)).any (·.1) = false := by rfl) :
    PE X (.Call (.Name x p) (e :: es) [] pos) (upN Z W (nCall n f t)) := by
  obtain ⟨fa, fd, ps, hF, hm, hk, hb⟩ := d.ex
  have hK := F.K
  have hM := F.mg
  rw [← hK, ← hM] at hF
  refine PE.wk (pe_callS hF hr hg (by rw [hM]; exact hm) (by rw [hK]; exact hk) (by rw [hK]; exact hb) (fun σ => L2N.passAt tk σ) ha hdb he hpl) fun σ H Q ⟨ρ, G, Qd, E, ok, h, hq, hx⟩ => ?_
  refine ⟨ρ, G, _, E, ok, h, fun ds vs ρ1 H1 ok1 s1 r1 h1 => ?_, hx⟩
  obtain ⟨hl', h1⟩ := h1
  refine ⟨by rw [← r1.len]; exact hl', ds, Hid ρ1 σ G, _, _, ok1.args r1, h1, fun l ws q H' ok' s' fr ng hq' r' q' => ?_, fun x c dd H' ok' s' p' q' => ?_⟩
  · obtain ⟨l', e1, q'⟩ := q'
    cases e1
    have keep : ∀ a o, H1 a = some o → ¬ Tbl o → H' a = some o := fun a o h n => s'.keep a o h n vals_ow
    have ne : ∀ a o, H1 a = some o → ¬ Tbl o → a ≠ q := fun a o h n z => n (fr o (by rw [← z]; exact h))
    have nq : ¬ Hid ρ1 σ G q := ng
    have eH : ∀ a, Hid ρ1 σ (fun a => G a ∨ a = q) a → Hid (vals ds) (vs.map some) (fun a => Hid ρ1 σ G a ∨ a = q) a := fun a z => by
      rcases z with (z | z) | z
      · exact .inl (.inl (.inl z))
      · exact .inl (.inr z)
      · exact .inl (.inl (.inr z))
    have sub : Sub (vis H1 (Hid ρ1 σ G)) (vis H' (Hid ρ1 σ fun a => G a ∨ a = q)) := vis_sub fun a o h n m => ⟨fun z => by
      rcases z with (z | z) | z
      · exact n (.inl z)
      · exact ne a o h m z
      · exact n (.inr z), keep a o h m⟩
    have okR : Ok Z σ ρ1 H' (fun a => G a ∨ a = q) := ⟨ok1.len, fun i d e => by
        obtain ⟨v, h1, h2⟩ := ok1.val i d e
        exact ⟨v, h1, h2.sub sub⟩, fun i xs e => by
        obtain ⟨a, us, h1, h2, h3, h4⟩ := ok1.own i xs e
        exact ⟨a, us, h1, keep a _ h2 (fun z => z), h3.sub sub, fun z => z.elim h4 (ne a _ h2 (fun z => z))⟩, ok1.inj, ok'.j, fun a z => by
        rcases z with z | z
        · obtain ⟨o, h1, h2⟩ := ok1.gt a z
          exact ⟨o, keep a o h1 h2, h2⟩
        · rw [z]
          exact ⟨_, hq', fun z => z⟩⟩
    have st : Stp Z σ ρ1 H1 σ ρ1 H' := ⟨fun a o h n _ => keep a o h n, fun _ _ _ _ n => n, fun i xs e => ⟨rfl, xs, e⟩⟩
    exact hq l ws q ρ1 H' okR (s1.trans st) (s1.frs2 fun o ho hn => absurd (fr o ho) hn) nq hq' (r'.sub (vis_sub fun a o h n _ => ⟨fun z => n (eH a z), h⟩)) q'
  · obtain ⟨b1, b2, _⟩ := ok1.back s' ok'.j
    exact hx x c dd ρ1 H' b1 (s1.trans b2) p' q'
/-! ### their bodies -/
def upSN (Z : Zx) (W : WX) (t : DS) : TS := fun B σ H => ∃ ρ G DD E, Ok Z σ ρ H G ∧ t DD E ρ ∧
  (∀ ds ws p σ' ρ' H', Ok Z σ' ρ' H' (fun a => G a ∨ a = p) → Stp Z σ ρ H σ' ρ' H' → Frs σ ρ H p → ¬ Hid ρ' σ' G p → H' p = some (.lst ws) → RpL Z (vis H' (Hid ρ' σ' fun a => G a ∨ a = p)) ds ws → DD.rt (.lst ds) ρ' → B.rt (.ref p) H') ∧ XP Z W σ ρ H G E
theorem dssN_cons {s : Stmt} {r : List Stmt} {t u : DS} (h1 : PS X s (upS Z W t)) (hn : ∀ DD E ρ, t DD E ρ → t { nx := DD.nx, rt := fun _ _ => False } E ρ) (h2 : PSs X r (upSN Z W u)) : PSs X (s :: r) (upSN Z W (sSeq t u)) := PSs.wk (pss_cons h1 h2) fun B σ H ⟨ρ, G, DD, E, ok, h, hq, hx⟩ =>
  ⟨ρ, G, _, E, ok, hn _ _ _ h, fun σ1 ρ1 H1 ok1 s1 => ⟨fun q => ⟨ρ1, G, DD, E, ok1, q, fun ds ws p σ2 ρ2 H2 ok2 s2 f2 n2 e2 r2 q2 => hq ds ws p σ2 ρ2 H2 ok2 (s1.trans s2) (s1.frs2 f2) n2 e2 r2 q2, hx.step s1⟩, fun z => z.elim, fun z => z.elim, fun _ _ _ z => z.elim⟩, hx⟩
theorem dssN_ret {e : Expr} {t : DA} {pos : Pos} (he : PE X e (upN Z W t)) : PSs X [.Return (some e) pos] (upSN Z W (sRet (dOfN t))) := PSs.wk (pss_one (ps_ret he)) fun B σ H ⟨ρ, G, DD, E, ok, h, hq, hx⟩ =>
  ⟨ρ, G, _, E, ok, h, fun ds ws p ρ1 H1 ok1 s1 f1 n1 e1 r1 h1 => hq ds ws p σ ρ1 H1 ok1 s1 f1 n1 e1 r1 h1, hx.e⟩
end
theorem DfN.of {P : Program} {w : World} {base : Heap} {Z : Zx} {N ps : List Str} {scope : Scope} {body : List Stmt} {params : Arguments} {f : Addr} {fd : FuncData} {n : Str} {k m : Nat} {F : FS} {t : DS} (FD : FunD Z.K n n params body scope [] [] f fd) (S : FnScope N ps scope) (hm : Z.mg n = some (.ref f))
    (hb : ∀ (kV doc pm : Value) (an : Option Addr) (cdv ct : Value) (us : List Value), us.length = ps.length → bindArgs (PySem.W.fnOf n n params body scope .none kV doc pm an cdv ct) ⟨us, []⟩ = pure (ps.zip us)) (hps : ps.length = m)
    (walk : ∀ (cdv : Value) (A : Around) (outer : List Env) (s : Shared) (H : Hp) (E : XK), Room k (A.deeper (envOfC n scope s.heap.objs.size f cdv)) → PSs (CxD P w base Z N n scope f cdv A outer s H E) body (upSN Z (WD E) t))
    (pur : Body t N.length m F) : DfN P w base Z (k + 1) n m F := by
  refine ⟨f, fd, ps, FD.ok S (fun vs H Q E h => h.1.trans hps.symm) fun cdv A outer s H vs Q E hr h => ⟨_, walk cdv A outer s H E hr, ?_⟩, hm, FD.kp, FD.bindsN hb⟩
  obtain ⟨hl, ds, G, Qd, Ed, ok, hF, hq, hx⟩ := h
  obtain ⟨_, no, ht⟩ := pur (vals ds) Qd Ed hF
  obtain ⟨kE, eE⟩ := ok.enter (N := N)
  have owE : ∀ a, ¬ Ow (entR (vals ds) N.length) (L2.start N vs) a := fun a ⟨j, xs, e1, _⟩ => by
    unfold heldAt at e1
    rw [slAt_ent] at e1
    have e2 : heldAt (vals ds) j = some xs := e1
    rw [vals_held] at e2
    cases e2
  have ex : ∀ ρ' : List Sl, exitR (vals ds) ρ' = vals ds := fun ρ' => by
    apply List.ext_getElem?
    intro i
    unfold exitR vals
    rw [List.getElem?_mapIdx, List.getElem?_map]
    cases ds[i]? <;> rfl
  refine ⟨entR (vals ds) N.length, G, _, _, kE, ht, fun es ws p σ' ρ' H' ok' s' fr nh hp r z => ?_, fun x c dd σ' ρ' H' ok' s' p e => ?_⟩
  · have z' : Qd (.lst es) (exitR (vals ds) ρ') := z
    rw [ex ρ'] at z'
    have fr' : ∀ o, H p = some o → Tbl o := fun o ho => Classical.byContradiction fun n => owE p (fr o ho n)
    have keep : ∀ a o, H a = some o → ¬ Tbl o → H' a = some o := fun a o h n => s'.keep a o h n (owE a)
    have ne : ∀ a o, H a = some o → ¬ Tbl o → a ≠ p := fun a o h n z => n (fr' o (by rw [← z]; exact h))
    have okR : Ok Z (vs.map some) (vals ds) H' (fun a => G a ∨ a = p) := ⟨ok.len, fun i d e => by
        obtain ⟨v, h1, h2⟩ := ok.val i d e
        exact ⟨v, h1, h2.sub (vis_sub fun a o h n m => ⟨fun z => by
          rcases z with (z | z) | z
          · exact n (.inl z)
          · exact ne a o h m z
          · exact vals_ow z, keep a o h m⟩)⟩, fun i xs e => absurd (vals_held.symm.trans e) (fun z => nomatch z), fun i j xs ys a e => absurd (vals_held.symm.trans e) (fun z => nomatch z), ok'.j, fun a z => ok'.gt a z⟩
    exact hq es ws p H' okR ⟨fun a o h n _ => keep a o h n, fun _ _ _ _ n => n, fun i xs e => ⟨rfl, xs, e⟩⟩ fr' (fun z => nh (.inl z)) hp (r.sub (vis_sub fun a o h n _ => ⟨fun z => n (z.elim .inl fun z => (vals_ow z).elim), h⟩)) z'
  · have e' : Ed x (exitR (vals ds) ρ') := e
    obtain ⟨k1, k2, k3⟩ := ok.leave no ok' s'
    rw [ex ρ'] at k1 k2 e'
    exact hx x c dd H' k1 k2 p e'
end TS
set_option Elab.async false
set_option linter.all false
set_option maxRecDepth 100000
set_option maxHeartbeats 4000000
set_option exponentiation.threshold 10000
namespace TS
open PySem PySem.Spec PyProof.Rows L2
def Jx (K : PySem.W.Frag) (k : Bool) (a : Addr) : It := match k with
  | true => Itl K a
  | false => Itt K a
def iSqX (K : PySem.W.Frag) (te : TE) : TI := fun σ H R => te σ H fun v H1 => ∃ k a xs, v = .ref a ∧ SqX K H1 k a xs ∧ R (Jx K k a) H1
section
variable {X : Cx} {Z : Zx} {W : WX}
theorem pi_sqX {tg e : Expr} {te : TE} (he : PE X e te) : PI X tg e (iSqX X.K te) := ⟨fun pins s σ H R I h => thn (he.run pins s σ H _ I h) fun v s1 ⟨x, H1, I1, r1, k, a, xs, ex, hq, q⟩ => by
  subst ex
  cases r1
  have fin : ∀ b, b ∈ [s1.heap.objs.size] → FpOk X pins H1 b := fun b hb => by
    rw [List.mem_singleton.mp hb]
    exact I1.fpOk (Nat.le_refl _) (I1.hok.fresh (Nat.le_refl _))
  cases k with
  | true =>
    obtain ⟨its, rv, p, hz⟩ := I1.list hq
    exact wpAny_pyIter_list p.isList ⟨_, _, _, Itl X.K a, H1, rfl, I1.kept (t' := s1.toks) fun b o e => Heap.get?_push_of_some _ e, turn_list a _, ⟨_, Heap.get?_push_size _ rfl, rfl, rfl⟩, fin, q⟩
  | false =>
    obtain ⟨its, rv, p, hz⟩ := I1.tuple hq
    have p' : s1.heap.IsTuple a its.toArray := p
    exact wpAny_pyIter_tuple p' ⟨_, _, _, Itt X.K a, H1, rfl, I1.kept (t' := s1.toks) fun b o e => Heap.get?_push_of_some _ e, turn_tuple a _, ⟨_, Heap.get?_push_size _ rfl, rfl, rfl⟩, fin, q⟩⟩
/-- a list or a tuple is walked -/
def iSq (t : DE) : DI := fun ρ Q E => t ρ (fun d ρ' => ∃ xs, seqD d = some xs ∧ Q xs ρ') E
theorem it_sqL {A : Hp} {a : Addr} {vs : List V} {ds : List D} (h : SqL Z.K A a vs) (r : RpL Z A ds vs) : ItOk Z A (Itl Z.K a) ds := fun i H S sub _ => by
  have q : SqL Z.K H a vs := vis_sqL (sub.sqL h)
  refine ⟨fun hi => ?_, fun hi => ⟨vs, q, by rw [hi, r.len]; exact Nat.le_refl _⟩⟩
  obtain ⟨v, h1, h2⟩ := r.get (List.getElem?_eq_getElem hi)
  refine ⟨⟨vs, v, q, h1⟩, fun x H2 y => ?_⟩
  obtain ⟨e, y⟩ := y
  subst e
  have e2 := y vs q
  rw [h1] at e2
  cases e2
  exact ⟨.refl _, _, List.getElem?_eq_getElem hi, h2.sub sub⟩
theorem di_seq [F : Fit X Z] {tg e : Expr} {t : DE} (he : PE X e (upE Z W t)) : PI X tg e (upI Z W (iSq t)) := PI.wk (pi_sqX he) fun σ H R ⟨ρ, G, Qd, E, ok, h, hq, hx⟩ => by
  refine ⟨ρ, G, _, E, ok, h, fun d v ρ1 H1 ok1 s1 r1 h1 => ?_, hx⟩
  obtain ⟨xs, es, q⟩ := h1
  obtain ⟨k, a, ws, rfl, sq, rr⟩ := r1.seq es
  rw [F.K]
  refine ⟨k, a, ws, rfl, sq.vis, ?_⟩
  cases k with
  | true => exact hq _ ρ1 H1 _ ok1 s1 (it_sqL sq rr) q
  | false => exact hq _ ρ1 H1 _ ok1 s1 (it_tup sq rr) q
theorem takes0X : L2N.Takes X W0 := fun _ _ x => by
  obtain ⟨_, _, _, _, _, _, _, _, _, _, _, _, _, _, _, _, z⟩ := x
  exact z.elim
end
end TS
set_option Elab.async false
set_option linter.all false
set_option maxRecDepth 100000
set_option maxHeartbeats 4000000
set_option exponentiation.threshold 10000
namespace TS
open PySem PySem.Spec PyProof.Rows L2 LamX
/-! ### the error's labels, bundled -/
structure ErrZ (P : Program) (w : World) (base : Heap) (Z : Zx) (x : Str) (nm : Str → Option Str) (kz : Nat) : Prop where
  ex : ∃ (g CS fz : Addr) (fd fdz : FuncData) (psz : List Str) (nmA : Addr → Option Str) (pg : Arguments) (sg : Scope) (Ng : List Str) (a e C nmf : Str) (j1 : Nat) (q1 q2 q3 q4 q5 q6 q7 q8 q9 q10 q11 q12 : Pos),
    FunD Z.K x x pg [.Try [.Expr (.Call (.Name a q1) [] [] q2) q3] [.ExceptHandler (some (.Name C q4)) (some e) [.Return (some (.Call (.Name nmf q5) [.Name e q6] [] q7)) q8] q9] [] [] q10, .Return (some (.Constant (.str "") j1 q11)) q12] sg [] [] g fd ∧
    Z.mg x = some (.ref g) ∧ L2.Binds Z.K fd [a] [] ∧ FnScope Ng [a] sg ∧ Ng[0]? = some a ∧ Vis sg a ∧ Ng[1]? = some e ∧ sg.names.lookup e = some .local ∧ sg.names.lookup C = some .globalImplicit ∧ Z.mg C = some (.ref CS) ∧ sg.names.lookup nmf = some .globalImplicit ∧
    Z.mg nmf = some (.ref fz) ∧ PySem.W.keepIn Z.K (.ref fz) = true ∧ L2.Binds Z.K fdz psz [] ∧ (∀ D r, nmA D = some r → FnZ P w Z.K Z.mg base kz fz fdz psz D r) ∧
    (∀ n r D, nm n = some r → Z.mg n = some (.ref D) → PySem.W.exmOne Z.K (.ref D) (.ref CS) = some true ∧ nmA D = some r) ∧
    (a == ("__debug__" : Str)) = false ∧ (a == ("__classdict__" : Str)) = false ∧ (C == ("__debug__" : Str)) = false ∧ (nmf == ("__debug__" : Str)) = false ∧ (e == ("__debug__" : Str)) = false ∧ (e == ("__classdict__" : Str)) = false ∧ ∀ f : Addr, (L2.start Ng [V.ref f])[0]? = some (some (V.ref f))
/-- a def's table of code objects -/
structure TabZ (base : Heap) (Z : Zx) (T : List (Addr × Str)) (q : Str) (c Pt : Addr) : Prop where
  j : ∀ H, Z.J H ↔ Tabs T H
  tb : TabB base Z.mg c Pt
  mem : (Pt, q) ∈ T
  uni : ∀ p ∈ T, p.1 = Pt → p.2 = q
section
variable {X : Cx} {Z : Zx} {W : WX}
instance fit_lam {A : Around} {o : List Env} {s : Shared} {H : Hp} {E : XK} {sc : Scope} {f c' : Addr} [F : Fit X Z] : Fit (lamN X A o s H E sc f c') Z := ⟨F.K, F.mg⟩
theorem de_err [GoodJ Z] [F : Fit X Z] {x : Str} {nm : Str → Option Str} {k kz : Nat} {T : List (Addr × Str)} {q : Str} {c Pt : Addr} {params : Arguments} {body : Expr} {scope : Scope} {td : DE} {p lpos pos : Pos} (er : ErrZ X.prog X.w X.base Z x nm kz) (tz : TabZ X.base Z T q c Pt) (hcode : X.env.code = .ref c) (hr : Room (k + 2) X.A) (hkk : kz ≤ k + 1)
    (hbody : ∀ (A : Around) (outer : List Env) (s : Shared) (H : Hp) (E : XK) (f c' : Addr), Room k (A.deeper (lamEnv X scope s.heap.objs.size f c')) → PE (lamN X A outer s H E scope f c') body (upE Z (WD E) td))
    (hg : Gl X x := by rfl) (hq : X.env.qual ++ "<lambda>" = q := by rfl) (L : LamS X.env.scope scope := by exact lamS_by (by rfl)) (hdef : defaultsOf params X.env = ([], []) := by rfl)
    (hbind : ∀ (q : Str) (cl : List (Str × Addr)) (pm cv ctv : Value), bindArgs (PySem.W.kla_fn "<lambda>" q params body scope cl pm cv ctv) ⟨[], []⟩ = pure [] := by intros; rfl) (hdb : (x == ("__debug__" : Str)) = false := by decide) :
    PE X (.Call (.Name x p) [.Lambda params body scope lpos] [] pos) (upE Z W (dErr nm td)) := by
  obtain ⟨g, CS, fz, fd, fdz, psz, nmA, pg, sg, Ng, a, e, C, nmf, j1, q1, q2, q3, q4, q5, q6, q7, q8, q9, q10, q11, q12, FD, h1, h2, h3, h4, h5, h6, h7, h8, h9, h10, h11, h12, h13, h14, h15, h16, h17, h18, h19, h20, h21, h22⟩ := er.ex
  have hK := F.K
  have hM := F.mg
  have e1 := up_err (W := W) (td := td) (K := Z.K) (nmA := nmA) (T := T) (fun H => (tz.j H).mp) (fun H => (tz.j H).mpr) h15
  rw [← hK] at FD h2 h12 h13 e1
  simp only [← hK, ← hM] at h14
  have tb := tz.tb
  rw [← hM] at h1 h9 h11 tb
  exact PE.wk (pe_err FD hg h1 h2 h3 h4 h5 h6 h7 h8 h9 h10 h11 h12 h13 h14 tb hcode (by rw [hq]; exact tz.mem) (fun p hp z => by rw [hq]; exact tz.uni p hp z) hr hkk L hdef hbind hbody hdb h16 h17 h18 h19 h20 h21 h22) e1
end
/-! ### a def's law, with its code object -/
theorem Df.ofC {P : Program} {w : World} {base : Heap} {Z : Zx} {N ps : List Str} {scope : Scope} {body : List Stmt} {params : Arguments} {f : Addr} {fd : FuncData} {n : Str} {k m : Nat} {F : FS} {t : DS} (FD : FunD Z.K n n params body scope [] [] f fd) (S : FnScope N ps scope)
    (hps : ps.length = m)
    (walk : ∀ (cdv : Value) (A : Around) (outer : List Env) (s : Shared) (H : Hp) (E : XK), fd.code = cdv → PySem.W.codeIn Z.K cdv n = true → Room k (A.deeper (envOfC n scope s.heap.objs.size f cdv)) → PSs (CxD P w base Z N n scope f cdv A outer s H E) body (upS Z (WD E) t))
    (pur : Body t N.length m F) : FnOk P w Z.K Z.mg base (L2N.CX P w) (k + 1) f fd ps (upF Z m F) := by
  obtain ⟨oc, od, dV, kV, doc, pm, an, cdv, ct, osl, rfl, lk, hcd, _, _⟩ := FD.ex
  refine fn_of lk hcd S (fun vs H Q E h => h.1.trans hps.symm) fun A outer s H vs Q E hr h => ⟨_, walk cdv A outer s H E rfl hcd hr, ?_⟩
  obtain ⟨hl, as, G, Qd, Ed, ok, hF, hq, hx⟩ := h
  obtain ⟨_, no, ht⟩ := pur as Qd Ed hF
  obtain ⟨kE, eE⟩ := ok.enter (N := N)
  refine ⟨entR as N.length, G, _, _, kE, ht, fun σ' ρ' H' ok' s' => ?_, fun x c dd σ' ρ' H' ok' s' p e => ?_⟩
  · obtain ⟨k1, k2, k3⟩ := ok.leave no ok' s'
    refine ⟨fun z => hq .non .non _ H' k1 k2 rfl z, fun z => z.elim, fun z => z.elim, fun d v r z => hq d v _ H' k1 k2 (r.sub k3) z⟩
  · obtain ⟨k1, k2, k3⟩ := ok.leave no ok' s'
    exact hx x c dd _ H' k1 k2 p e
theorem hu64 {k : Nat} {A : Around} (hr : Room k A) : A.units + 64 < cLine := by have := hr.un; omega
theorem hu65 {k : Nat} {A : Around} (hr : Room k A) : A.units + 65 < cLine := by have := hr.un; omega
end TS
set_option Elab.async false
set_option linter.all false
set_option maxRecDepth 100000
set_option maxHeartbeats 4000000
set_option exponentiation.threshold 10000
namespace TS
open PySem PySem.Spec PyProof.Rows L2
/-! x, y = [..], e and x, y = e, [..], the list one's own -/
def sParN (i j : Nat) (t : DA) (u : DE) : DS := fun B E ρ => t ρ (fun ds ρ1 => u ρ1 (fun d ρ2 => (nb (slAt ρ2 i) ∧ i < ρ2.length ∧ nb (slAt (ρ2.set i (.own ds)) j)) ∧ B.nx ((ρ2.set i (.own ds)).set j (.val d))) E) E
def sParV (i j : Nat) (u : DE) (t : DA) : DS := fun B E ρ => u ρ (fun d ρ1 => t ρ1 (fun ds ρ2 => (nb (slAt ρ2 i) ∧ j < ρ2.length ∧ nb (slAt (ρ2.set i (.val d)) j)) ∧ B.nx ((ρ2.set i (.val d)).set j (.own ds))) E) E
section
variable {X : Cx} {Z : Zx} {W : WX} {σ : L2.St} {ρ : Rho} {H : Hp} {G : Addr → Prop}
theorem XPE.ghost {E : EQ} {p : Addr} (x : XPE Z W σ ρ H G E) : XPE Z W σ ρ H (fun a => G a ∨ a = p) E := fun y c dd ρ' H' o s q e => x y c dd ρ' H' (o.shown (vs := [])).1 s q e
theorem ds_parN {i j : Nat} {x y : Str} {a b : Expr} {t : DA} {u : DE} {px py pt : Pos} {kt k2 : Nat} {pt2 pos : Pos} (hc : X.calm = true) (hN : X.N.Nodup) (ha : PE X a (upN Z W t)) (hb : PE X b (upE Z W u)) (hij : i ≠ j := by decide) (hi : X.N[i]? = some x := by rfl) (hj : X.N[j]? = some y := by rfl)
    (hx : X.env.scope.names.lookup x = some .local := by rfl) (hy : X.env.scope.names.lookup y = some .local := by rfl) (s1 : starEach [a, b] X.env = (false, eval a X.env) :: starEach [b] X.env := by rfl) (s2 : starEach [b] X.env = (false, eval b X.env) :: starEach [] X.env := by rfl)
    (hw : swappedStores [.Tuple [.Name x px, .Name y py] kt pt] (.Tuple [a, b] k2 pt2) X.env = pure (some [x, y]) := by rfl) (hs : swapsWithSole [.Tuple [.Name x px, .Name y py] kt pt] (.Tuple [a, b] k2 pt2) pos.line X.env = pure false := by rfl) :
    PS X (.Assign [.Tuple [.Name x px, .Name y py] kt pt] (.Tuple [a, b] k2 pt2) pos) (upS Z W (sParN i j t u)) := PS.wk (ps_par hc hN hi hj hij hx hy (pa_cons ha (pa_cons hb pa_nil s2) s1) hw hs) fun B σ H ⟨ρ, G, DD, E, ok, h, hq, hx⟩ => by
  refine ⟨ρ, G, _, E, ok, h, fun ds vs p ρ1 H1 ok1 st1 fr nh hp r1 h1 => ?_, hx.e⟩
  refine ⟨ρ1, _, _, E, ok1, h1, fun d v ρ2 H2 ok2 st2 r2 h2 => ?_, (hx.e.step st1).ghost⟩
  obtain ⟨⟨n1, n2, n3⟩, h3⟩ := h2
  have np : ¬ Ow ρ1 σ p := fun z => nh (.inr z)
  have hp2 := st2.keep p _ hp (fun z => z) np
  have nh2 : ¬ Hid ρ2 σ G p := fun z => z.elim (fun z => nh (.inl z)) (st2.out p _ hp (fun z => z) np)
  obtain ⟨k1, k2⟩ := ok2.take (st1.trans st2) fr nh2 hp2 (r1.sub st2.vis) n1 n2
  obtain ⟨k3, k4⟩ := k1.set (r2.sub (take_sub n2 ok2.len)) n3
  exact ⟨_, _, rfl, (hq _ _ H2 k3 (k2.trans k4)).1 h3⟩
theorem ds_parV {i j : Nat} {x y : Str} {a b : Expr} {t : DA} {u : DE} {px py pt : Pos} {kt k2 : Nat} {pt2 pos : Pos} (hc : X.calm = true) (hN : X.N.Nodup) (ha : PE X a (upE Z W u)) (hb : PE X b (upN Z W t)) (hij : i ≠ j := by decide) (hi : X.N[i]? = some x := by rfl) (hj : X.N[j]? = some y := by rfl)
    (hx : X.env.scope.names.lookup x = some .local := by rfl) (hy : X.env.scope.names.lookup y = some .local := by rfl) (s1 : starEach [a, b] X.env = (false, eval a X.env) :: starEach [b] X.env := by rfl) (s2 : starEach [b] X.env = (false, eval b X.env) :: starEach [] X.env := by rfl)
    (hw : swappedStores [.Tuple [.Name x px, .Name y py] kt pt] (.Tuple [a, b] k2 pt2) X.env = pure (some [x, y]) := by rfl) (hs : swapsWithSole [.Tuple [.Name x px, .Name y py] kt pt] (.Tuple [a, b] k2 pt2) pos.line X.env = pure false := by rfl) :
    PS X (.Assign [.Tuple [.Name x px, .Name y py] kt pt] (.Tuple [a, b] k2 pt2) pos) (upS Z W (sParV i j u t)) := PS.wk (ps_par hc hN hi hj hij hx hy (pa_cons ha (pa_cons hb pa_nil s2) s1) hw hs) fun B σ H ⟨ρ, G, DD, E, ok, h, hq, hx⟩ => by
  refine ⟨ρ, G, _, E, ok, h, fun d v ρ1 H1 ok1 st1 r1 h1 => ?_, hx.e⟩
  refine ⟨ρ1, G, _, E, ok1, h1, fun ds vs p ρ2 H2 ok2 st2 fr nh hp r2 h2 => ?_, hx.e.step st1⟩
  obtain ⟨⟨n1, n2, n3⟩, h3⟩ := h2
  have fr1 : Frs σ ρ H p := st1.frs2 fr
  have rd : Rp Z (vis H2 (Hid ρ2 σ fun a => G a ∨ a = p)) d v := r1.sub (vis_sub fun a o h n m => by
    have na : ¬ Ow ρ1 σ a := fun z => n (.inr z)
    refine ⟨fun z => ?_, st2.keep a o h m na⟩
    rcases z with (z | z) | z
    · exact n (.inl z)
    · rw [z] at h na
      exact na (fr o h m)
    · exact st2.out a o h m na z)
  obtain ⟨k1, k2⟩ := ok2.set rd n1
  have np : ¬ Ow ρ2 σ p := fun z => nh (.inr z)
  have sm := (k2.out p _ hp (fun z => z) np)
  obtain ⟨k3, k4⟩ := k1.take ((st1.trans st2).trans k2) fr1 (fun z => z.elim (fun z => nh (.inl z)) sm) hp (r2.sub k2.vis) n3 (by rw [List.length_set]; exact n2)
  exact ⟨_, _, rfl, (hq _ _ H2 k3 k4).1 h3⟩
end
end TS
set_option Elab.async false
set_option linter.all false
set_option maxRecDepth 100000
set_option maxHeartbeats 4000000
set_option exponentiation.threshold 10000
/-! what the head's run asks of the exception classes -/
namespace TS
open PySem PySem.Spec PyProof.Rows L2
/-- an exception class: how its instances' attributes are found -/
def excB (K : PySem.W.Frag) (D : Addr) : Bool := He.eqO (PySem.W.findIn K (.ref D) "__getattribute__") (some (some (.builtin "BaseException.__getattribute__"))) && (He.eqO (PySem.W.findIn K (.ref D) "__getattr__") (some none) &&
  (decide (PySem.W.subIn K (.ref D) (.type "BaseException") = some true) && (PySem.W.hasDictIn K D && (He.eqO (PySem.W.findIn K (.ref D) "__class__") (some (some (.builtin "object.__class__"))) &&
  (He.eqO (PySem.W.specialIn K (.builtin "object.__class__") "__get__") (some (some (.builtin "getset_descriptor.__get__"))) && (decide (PySem.W.takesIn K (.builtin "object.__class__") = some true) && decide (PySem.W.mroIn K D (.type "object") = some true)))))))
theorem excB_ok {K : PySem.W.Frag} {D : Addr} (h : excB K D = true) : ExcC K D := by
  obtain ⟨h1, h⟩ := He.ba h
  obtain ⟨h2, h⟩ := He.ba h
  obtain ⟨h3, h⟩ := He.ba h
  obtain ⟨h4, h⟩ := He.ba h
  obtain ⟨h5, h⟩ := He.ba h
  obtain ⟨h6, h⟩ := He.ba h
  obtain ⟨h7, h8⟩ := He.ba h
  exact ⟨He.eqO_ok h1, He.eqO_ok h2, of_decide_eq_true h3, h4, He.eqO_ok h5, He.eqO_ok h6, of_decide_eq_true h7, of_decide_eq_true h8⟩
/-- the classes that are told -/
def XN : List Str := ["InvalidHouse", "InvalidPerson", "InvalidRow", "InvalidTurning", "InvalidWay", "InvalidWays", "InvalidWeights", "InvalidKind", "InvalidSightings", "InvalidAsks", "InvalidMenu", "InvalidSpread", "InvalidNumber", "NothingToUndo", "InvalidText", "TooMany"]
def labB (K : PySem.W.Frag) : Bool := XN.all fun n => excB K (He.ga K n) && (decide (PySem.W.kitOne K (.ref (He.ga K n)) (.type "ValueError") = some true) && (decide (PySem.W.exmOne K (.ref (He.ga K n)) (.ref (He.ga K "ShareError")) = some true) &&
  XN.all fun m => decide (PySem.W.kitOne K (.ref (He.ga K n)) (.ref (He.ga K m)) = some (n == m))))
structure LabF (K : PySem.W.Frag) (n : Str) : Prop where
  exc : ExcC K (He.ga K n)
  val : PySem.W.kitOne K (.ref (He.ga K n)) (.type "ValueError") = some true
  exm : PySem.W.exmOne K (.ref (He.ga K n)) (.ref (He.ga K "ShareError")) = some true
  kit : ∀ m ∈ XN, PySem.W.kitOne K (.ref (He.ga K n)) (.ref (He.ga K m)) = some (n == m)
theorem labB_ok {K : PySem.W.Frag} (h : labB K = true) {n : Str} (hn : n ∈ XN) : LabF K n := by
  obtain ⟨h1, h⟩ := He.ba (List.all_eq_true.mp h n hn)
  obtain ⟨h2, h⟩ := He.ba h
  obtain ⟨h3, h⟩ := He.ba h
  exact ⟨excB_ok h1, of_decide_eq_true h2, of_decide_eq_true h3, fun m hm => of_decide_eq_true (List.all_eq_true.mp h m hm)⟩
def flags (n : Str) : List Bool := XN.map fun m => n == m
def labS : Str := "house person row turning way ways weights kind sightings asks menu spread number undo text many value"
def labelOf (n : Str) : Option Str := if n ∈ XN then some (Txt.join " " (pick (Txt.split labS " ") (flags n ++ [true]))) else none
theorem bit_person : labelOf "InvalidPerson" = some "person value" := by decide +kernel
theorem bit_row : labelOf "InvalidRow" = some "row value" := by decide +kernel
theorem bit_house : labelOf "InvalidHouse" = some "house value" := by decide +kernel
theorem bit_way : labelOf "InvalidWay" = some "way value" := by decide +kernel
theorem bit_ways : labelOf "InvalidWays" = some "ways value" := by decide +kernel
theorem bit_weights : labelOf "InvalidWeights" = some "weights value" := by decide +kernel
theorem bit_kind : labelOf "InvalidKind" = some "kind value" := by decide +kernel
theorem bit_sightings : labelOf "InvalidSightings" = some "sightings value" := by decide +kernel
theorem bit_asks : labelOf "InvalidAsks" = some "asks value" := by decide +kernel
theorem bit_menu : labelOf "InvalidMenu" = some "menu value" := by decide +kernel
theorem lab_sum : ∀ n ∈ XN, ((pick (Txt.split labS " ") (flags n ++ [true])).map (·.length)).sum + (pick (Txt.split labS " ") (flags n ++ [true])).length * Str.length " " ≤ 16777216 := by decide +kernel
/-! ### the walk of the labels, plainly -/
section
variable {a p : Addr} {σ : L2.St} {H : Hp} {B : Ends} {rest : L2.TS}
theorem sl1000 {n : Nat} (h : n ≤ 1000) : n ≤ sizeLine := Nat.le_trans h (by rw [sizeLine_eq]; decide)
theorem nm_one {bs : List Bool} (h0 : σ[0]? = some (some (.ref a))) (hl : bs.length ≤ 1000) (k : ∀ p' H', Same H H' → H' p' = some (.lst (bs.map V.bl)) → rest B (σ.set 1 (some (.ref p'))) H') :
    tSeq (tAsg (tLst (tIss a bs)) (gName 1)) rest B σ H :=
  ⟨h0, by rw [List.length_map]; exact sl1000 hl, fun p2 n2 => k p2 _ (same_upd n2) upd_same⟩
theorem nm_more {acc bs : List Bool} (h0 : σ[0]? = some (some (.ref a))) (h1 : σ[1]? = some (some (.ref p))) (hp : H p = some (.lst (acc.map V.bl))) (hl : acc.length + bs.length ≤ 1000)
    (k : ∀ p' H', Same H H' → H' p' = some (.lst ((acc ++ bs).map V.bl)) → rest B (σ.set 1 (some (.ref p'))) H') : tSeq (tAsg (tOp rCat (tVar 1) (tLst (tIss a bs))) (gName 1)) rest B σ H := by
  refine ⟨_, h1, h0, by rw [List.length_map]; exact sl1000 (by omega), fun p2 n2 => ?_⟩
  have e : upd H p2 (.lst (bs.map V.bl)) p = some (.lst (acc.map V.bl)) := by
    rw [upd_ne (ne_of_none hp n2)]
    exact hp
  refine ⟨p, p2, _, _, rfl, rfl, e, upd_same, by rw [List.length_map, List.length_map]; exact sl1000 hl, fun p3 n3 => ?_⟩
  exact k p3 _ (fun b u z => same_upd n3 b u (same_upd n2 b u z)) (by rw [upd_same, List.map_append])
theorem nm_lab {x : Str} (k : rest B (σ.set 2 (some (.str x))) H) : tSeq (tAsg (tC (.str x)) (gName 2)) rest B σ H := k
theorem nm_lab2 {x y : Str} (h2 : σ[2]? = some (some (.str x))) (hl : x.length + y.length ≤ 1000) (k : rest B (σ.set 2 (some (.str (x ++ y)))) H) :
    tSeq (tAsg (tOp (fun x y H Q => ∃ i j, x = V.str i ∧ y = V.str j ∧ i.length + j.length ≤ sizeLine ∧ Q (V.str (i ++ j)) H) (tVar 2) (tC (.str y))) (gName 2)) rest B σ H :=
  ⟨_, h2, x, y, rfl, rfl, sl1000 hl, k⟩
theorem nm_end {K K' : PySem.W.Frag} {acc : List Bool} {x r : Str} {Q : V → Hp → Prop} (h1 : σ[1]? = some (some (.ref p))) (hp : H p = some (.lst (acc.map V.bl))) (h2 : σ[2]? = some (some (.str x)))
    (hx : x.length ≤ 900) (hn : (Txt.split x " ").length = acc.length) (hs : ((pick (Txt.split x " ") acc).map (·.length)).sum + (pick (Txt.split x " ") acc).length * Str.length " " ≤ 16777216) (hr : Txt.join " " (pick (Txt.split x " ") acc) = r) (hq : ∀ H', Same H H' → Q (.str r) H') :
    tM1 (fun x xs H Q => ∃ a p, ∃ ys : List Str, x = .str a ∧ xs = [.ref p] ∧ (SqL K H p (ys.map V.str) ∨ SqT K H p (ys.map V.str)) ∧ (ys.map (·.length)).sum + ys.length * a.length ≤ 16777216 ∧ Q (.str (Txt.join a ys)) H) (tC (.str " "))
      (tNm K' (tCons (tM1 (fun x xs H Q => ∃ a b, x = .str a ∧ xs = [.str b] ∧ (b.length == 0) = false ∧ a.length + 2 ≤ sizeLine ∧ rNewStrs (Txt.split a b) H Q) (tVar 2) (tC (.str " "))) (tCons (tVar 1) tNil))) σ H Q := by
  refine ⟨⟨_, rfl⟩, ?_⟩
  refine ⟨_, h2, ⟨_, rfl⟩, _, _, rfl, rfl, by decide +kernel, sl1000 (by omega), fun p2 n2 => ?_⟩
  refine ⟨_, h1, ?_⟩
  have e : upd H p2 (.lst ((Txt.split x " ").map V.str)) p = some (.lst (acc.map V.bl)) := by
    rw [upd_ne (ne_of_none hp n2)]
    exact hp
  refine ⟨p2, p, _, acc, rfl, .of upd_same, .of e, hn, fun D nD => ?_⟩
  refine ⟨" ", D, _, rfl, rfl, .inl (.of upd_same), hs, ?_⟩
  rw [hr]
  exact hq _ fun b u z => same_upd nD b u (same_upd n2 b u z)
end
end TS
set_option Elab.async false
set_option linter.all false
set_option maxRecDepth 100000
set_option maxHeartbeats 4000000
set_option exponentiation.threshold 10000
/-! what the end of a law's proof needs -/
namespace TS
open PySem PySem.Spec PyProof.Rows L2 LamX
theorem goodJ_tabs {K : PySem.W.Frag} {mg : Str → Option Value} {T : List (Addr × Str)} : GoodJ ⟨K, mg, Tabs T⟩ := ⟨fun H H' k t p hp => by
  obtain ⟨ps, h1, h2⟩ := t p hp
  exact ⟨ps, k _ _ h1 (fun z => z), h2.1, fun pos cv e => by
    obtain ⟨c, h3, h4⟩ := h2.2 pos cv e
    exact ⟨c, h3, k _ _ h4 (fun z => z)⟩⟩⟩
/-- a tuple of the module -/
def tupObj (K : PySem.W.Frag) (x : Str) : Bool := match K.lookup (He.ga K x) with
  | some o => decide (o.cls = .type "tuple") && o.dict.isNone
  | none => false
theorem tupObj_ok {K : PySem.W.Frag} {x : Str} (h : tupObj K x = true) : ∃ o, K.lookup (He.ga K x) = some o ∧ o.cls = .type "tuple" ∧ o.dict = none := by
  unfold tupObj at h
  cases q : K.lookup (He.ga K x) with
  | none => rw [q] at h; cases h
  | some o =>
    rw [q] at h
    obtain ⟨h1, h2⟩ := He.ba h
    exact ⟨o, rfl, of_decide_eq_true h1, Option.isNone_iff_eq_none.mp h2⟩
def tupS (K : PySem.W.Frag) (x : Str) (ns : List Str) : Bool := tupObj K x && He.tupB K x (ns.map He.Dv.str)
theorem tupS_sq {K : PySem.W.Frag} {x : Str} {ns : List Str} (h : tupS K x ns = true) (H : Hp) : SqT K H (He.ga K x) (ns.map V.str) := by
  have z := He.tupB_ok (He.ba h).2 H
  rw [List.map_map] at z
  exact z
theorem rp_strs {Z : Zx} {H : Hp} : ∀ ns : List Str, RpL Z H (ns.map D.str) (ns.map V.str)
  | [] => trivial
  | n :: ns => ⟨rfl, rp_strs ns⟩
theorem tupS_rp {Z : Zx} {x : Str} {ns : List Str} (h : tupS Z.K x ns = true) (H : Hp) : Rp Z H (.tup (ns.map D.str)) (.ref (He.ga Z.K x)) := ⟨_, _, rfl, tupS_sq h H, rp_strs ns⟩
theorem excF_of {Z : Zx} {n : Str} (hm : Z.mg n = some (.ref (He.ga Z.K n))) (c : (He.Fa.exc n).ok Z.K = true) : ExcF Z n := by
  obtain ⟨h1, h2, h3, h4⟩ := He.exc_ok c
  exact ⟨_, hm, h1, h2, h3, h4⟩
theorem codeOf_fd {K : PySem.W.Frag} {p : Str × Option Str} {n q : Str} {params : Arguments} {body : List Stmt} {scope : Scope} {dvs : List V} {kws : List (Str × V)} {fd : FuncData} (FD : FunD K n q params body scope dvs kws (He.fAd K p) fd) : fd.code = .ref (He.codeOf K p) := by
  obtain ⟨oc, od, dV, kV, doc, pm, an, cdv, ct, osl, rfl, lk, hcd, _, _⟩ := FD.ex
  obtain ⟨c, hc⟩ := He.codeIn_ref hcd
  rw [He.codeOf_eq lk hc]
  exact hc
/-! ### the labels by address -/
def nmA (K : PySem.W.Frag) (D : Addr) : Option Str := (XN.find? fun n => He.ga K n == D).bind labelOf
theorem label_mem {n r : Str} (h : labelOf n = some r) : n ∈ XN := by
  unfold labelOf at h
  by_cases q : n ∈ XN
  · exact q
  · rw [if_neg q] at h
    cases h
theorem nmA_at {K : PySem.W.Frag} (h : labB K = true) {n r : Str} (hl : labelOf n = some r) : nmA K (He.ga K n) = some r := by
  have hn := label_mem hl
  unfold nmA
  cases q : XN.find? fun m => He.ga K m == He.ga K n with
  | none =>
    have z := List.find?_eq_none.mp q n hn
    simp at z
  | some m =>
    have hm := List.mem_of_find?_eq_some q
    have e : He.ga K m = He.ga K n := by simpa using List.find?_some q
    have k1 := (labB_ok h hn).kit n hn
    have k2 := (labB_ok h hn).kit m hm
    rw [e, k1] at k2
    have k3 : (n == n) = (n == m) := Option.some.inj k2
    have k4 : n = m := by simpa using k3.symm
    show labelOf m = some r
    rw [← k4]
    exact hl
theorem nmA_inv {K : PySem.W.Frag} {D : Addr} {r : Str} (h : nmA K D = some r) : ∃ n, n ∈ XN ∧ D = He.ga K n ∧ labelOf n = some r := by
  unfold nmA at h
  cases q : XN.find? fun m => He.ga K m == D with
  | none => rw [q] at h; cases h
  | some m =>
    rw [q] at h
    have e : He.ga K m = D := by simpa using List.find?_some q
    exact ⟨m, List.mem_of_find?_eq_some q, e.symm, h⟩
/-- tables that differ -/
def apartB (K : PySem.W.Frag) (tf : List He.Defn) : Bool := tf.all fun p => tf.all fun q => decide ((He.cT K p).2 = (He.cT K q).2 → p = q)
theorem apartB_ok {K : PySem.W.Frag} {tf : List He.Defn} (h : apartB K tf = true) {p q : He.Defn} (hp : p ∈ tf) (hq : q ∈ tf) (e : (He.cT K p).2 = (He.cT K q).2) : p = q :=
  of_decide_eq_true (List.all_eq_true.mp (List.all_eq_true.mp h p hp) q hq) e
def lamQ (p : He.Defn) : Str := p.1 ++ ".<locals>.<lambda>"
def tabT (K : PySem.W.Frag) (tf : List He.Defn) : List (Addr × Str) := tf.map fun p => ((He.cT K p).2, lamQ p)
theorem tabZ_of {base : Heap} {K : PySem.W.Frag} {mg : Str → Option Value} {tf : List He.Defn} {p : He.Defn} {q : Str} (hp : p ∈ tf) (hq : lamQ p = q) (ap : apartB K tf = true) (tb : TabB base mg (He.cT K p).1 (He.cT K p).2) :
    TabZ base ⟨K, mg, Tabs (tabT K tf)⟩ (tabT K tf) q (He.codeOf K p) (He.cT K p).2 :=
  ⟨fun _ => Iff.rfl, tb, by rw [← hq]; exact List.mem_map.mpr ⟨p, hp, rfl⟩, fun x hx e => by
    obtain ⟨p', hp', rfl⟩ := List.mem_map.mp hx
    have z := apartB_ok ap hp' hp e
    rw [z]
    exact hq⟩
end TS
set_option Elab.async false
set_option linter.all false
set_option maxRecDepth 100000
set_option maxHeartbeats 4000000
set_option exponentiation.threshold 10000
/-! readings in plain data, told by simp -/
namespace TS
open PySem PySem.Spec PyProof.Rows L2
section
variable {ρ : Rho} {Q : D → Rho → Prop} {Qb : Bool → Rho → Prop} {Ql : List D → Rho → Prop} {Qr : Rho → Prop} {E : EQ} {B : DEnds}
@[simp] theorem slAt_z {s : Sl} {ρ : Rho} : slAt (s :: ρ) 0 = s := (rfl)
@[simp] theorem slAt_s {s : Sl} {ρ : Rho} {n : Nat} : slAt (s :: ρ) (n + 1) = slAt ρ n := (rfl)
theorem dVar_s {i : Nat} : dVar i ρ Q E = (match slAt ρ i with | .val d => Q d ρ | .own ds => Q (.lst ds) (ρ.set i .no) | _ => False) := rfl
@[simp] theorem dVar_v {d : D} : dVar 0 (.val d :: ρ) Q E = Q d (.val d :: ρ) := (rfl)
@[simp] theorem dVar_o {ds : List D} : dVar 0 (.own ds :: ρ) Q E = Q (.lst ds) (.no :: ρ) := (rfl)
@[simp] theorem dVar_n {i : Nat} {x : Sl} : dVar (i + 1) (x :: ρ) Q E = dVar i ρ (fun d ρ' => Q d (x :: ρ')) E := by
  unfold dVar
  rw [slAt_s]
  cases slAt ρ i <;> rfl
@[simp] theorem held_z {x : Sl} : heldAt (x :: ρ) 0 = x.held := (rfl)
@[simp] theorem held_s {x : Sl} {i : Nat} : heldAt (x :: ρ) (i + 1) = heldAt ρ i := (rfl)
@[simp] theorem hd_v {d : D} : (Sl.val d).held = none := (rfl)
@[simp] theorem hd_n : Sl.no.held = none := (rfl)
@[simp] theorem hd_o {ds : List D} : (Sl.own ds).held = some ds := (rfl)
@[simp] theorem hd_b {ds : List D} : (Sl.brw ds).held = some ds := (rfl)
@[simp] theorem dC_s {d : D} : dC d ρ Q E = Q d ρ := (rfl)
@[simp] theorem aNil_s : aNil ρ Ql E = Ql [] ρ := (rfl)
@[simp] theorem aCons_s {t : DE} {u : DA} : aCons t u ρ Ql E = t ρ (fun d ρ1 => u ρ1 (fun ds ρ2 => Ql (d :: ds) ρ2) E) E := (rfl)
@[simp] theorem dTupL_s {t : DA} : dTupL t ρ Q E = t ρ (fun ds ρ' => ds.length ≤ LIM ∧ Q (.tup ds) ρ') E := (rfl)
@[simp] theorem dOfN_s {t : DA} : dOfN t ρ Q E = t ρ (fun ds ρ' => Q (.lst ds) ρ') E := (rfl)
@[simp] theorem nLst_s {t : DA} : nLst t ρ Ql E = t ρ (fun ds ρ' => ds.length ≤ LIM ∧ Ql ds ρ') E := (rfl)
@[simp] theorem dOp_s {f : O2} {a b : DE} : dOp f a b ρ Q E = a ρ (fun x ρ1 => b ρ1 (fun y ρ2 => f x y fun z => Q z ρ2) E) E := (rfl)
@[simp] theorem dCB_s {f : OC} {t : DA} : dCB f t ρ Q E = t ρ (fun ds ρ1 => f ds fun d => Q d ρ1) E := (rfl)
theorem dCall_s {n : Nat} {F : FS} {t : DA} : dCall n F t ρ Q E = t ρ (fun ds ρ1 => ds.length = n ∧ F (vals ds) (fun d _ => Q d ρ1) (fun x _ => E x ρ1)) E := rfl
theorem dCall0_s {F : FS} : dCall0 F ρ Q E = F [] (fun d _ => Q d ρ) (fun _ _ => False) := rfl
@[simp] theorem dChain_s {f g : O2} {a b c : DE} : dChain f g a b c ρ Q E = a ρ (fun x ρ1 => b ρ1 (fun y ρ2 => f x y fun z => ∃ k, z = .bl k ∧ if k = true then c ρ2 (fun w ρ3 => g y w fun r => Q r ρ3) E else Q (.bl false) ρ2) E) E := (rfl)
@[simp] theorem dUn_s {f : D → (D → Prop) → Prop} {a : DE} : dUn f a ρ Q E = a ρ (fun x ρ1 => f x fun z => Q z ρ1) E := (rfl)
@[simp] theorem dTst_s {t : DE} : dTst t ρ Qb E = t ρ (fun d ρ' => ∃ b, d = .bl b ∧ Qb b ρ') E := (rfl)
@[simp] theorem tAndD_s {t u : DT} : tAndD t u ρ Qb E = t ρ (fun c ρ1 => if c = true then u ρ1 Qb E else Qb false ρ1) E := (rfl)
@[simp] theorem tOrD_s {t u : DT} : tOrD t u ρ Qb E = t ρ (fun c ρ1 => if c = true then Qb true ρ1 else u ρ1 Qb E) E := (rfl)
@[simp] theorem tNotD_s {t : DT} : tNotD t ρ Qb E = t ρ (fun c ρ1 => Qb (!c) ρ1) E := (rfl)
@[simp] theorem dAnd_s {a b : DE} : dAnd a b ρ Q E = a ρ (fun x ρ1 => ∃ c, x = .bl c ∧ if c = true then b ρ1 Q E else Q (.bl false) ρ1) E := (rfl)
@[simp] theorem dOr_s {a b : DE} : dOr a b ρ Q E = a ρ (fun x ρ1 => ∃ c, x = .bl c ∧ if c = true then Q (.bl true) ρ1 else b ρ1 Q E) E := (rfl)
@[simp] theorem dNot_s {a : DE} : dNot a ρ Q E = a ρ (fun x ρ1 => ∃ c, x = .bl c ∧ Q (.bl (!c)) ρ1) E := (rfl)
@[simp] theorem dIf_s {t : DT} {a b : DE} : dIf t a b ρ Q E = t ρ (fun c ρ1 => if c = true then a ρ1 Q E else b ρ1 Q E) E := (rfl)
@[simp] theorem dSl_s {t : DE} {lo hi : DO} : dSl t lo hi ρ Q E = t ρ (fun x ρ1 => lo ρ1 (fun l ρ2 => hi ρ2 (fun h ρ3 => oSl x l h fun z => Q z ρ3) E) E) E := (rfl)
@[simp] theorem oNo_s {Qo : Option Int → Rho → Prop} : oNo ρ Qo E = Qo none ρ := (rfl)
@[simp] theorem oSome_s {t : DE} {Qo : Option Int → Rho → Prop} : oSome t ρ Qo E = t ρ (fun d ρ' => ∃ i, d = .int i ∧ Qo (some i) ρ') E := (rfl)
@[simp] theorem sNext_s : sNext B E ρ = B.nx ρ := (rfl)
@[simp] theorem sSeq_s {t u : DS} : sSeq t u B E ρ = t { B with nx := fun ρ' => u B E ρ' } E ρ := (rfl)
@[simp] theorem sDrop_s {t : DE} : sDrop t B E ρ = t ρ (fun _ ρ' => B.nx ρ') E := (rfl)
@[simp] theorem sRet_s {t : DE} : sRet t B E ρ = t ρ B.rt E := (rfl)
@[simp] theorem sRetN_s : sRetN B E ρ = B.rt .non ρ := (rfl)
@[simp] theorem sIf_s {c : DT} {t u : DS} : sIf c t u B E ρ = c ρ (fun b ρ' => if b = true then t B E ρ' else u B E ρ') E := (rfl)
@[simp] theorem sAsg_s {t : DE} {g : DG} : sAsg t g B E ρ = t ρ (fun d ρ' => g d ρ' B.nx) E := (rfl)
@[simp] theorem sRaise_s {n : Str} : sRaise n B E ρ = E ⟨n, none⟩ ρ := (rfl)
theorem gNm_s {i : Nat} {d : D} : gNm i d ρ Qr = (nb (slAt ρ i) ∧ Qr (ρ.set i (.val d))) := rfl
@[simp] theorem gNm_z {d : D} {x : Sl} : gNm 0 d (x :: ρ) Qr = (nb x ∧ Qr (.val d :: ρ)) := (rfl)
@[simp] theorem gNm_n {i : Nat} {d : D} {x : Sl} : gNm (i + 1) d (x :: ρ) Qr = gNm i d ρ (fun ρ' => Qr (x :: ρ')) := (rfl)
@[simp] theorem gTp_s {n : Nat} {g : DGs} {d : D} : gTp n g d ρ Qr = (match d with | .tup ds => ds.length = n ∧ g ds ρ Qr | _ => False) := (rfl)
@[simp] theorem gN_s : gN [] ρ Qr = Qr ρ := (rfl)
@[simp] theorem gC_s {g : DG} {h : DGs} {d : D} {ds : List D} : gC g h (d :: ds) ρ Qr = g d ρ fun ρ' => h ds ρ' Qr := (rfl)
@[simp] theorem nb_v {d : D} : nb (.val d) = True := (rfl)
@[simp] theorem nb_n : nb .no = True := (rfl)
@[simp] theorem nb_o {ds : List D} : nb (.own ds) = True := (rfl)
@[simp] theorem sFor_s {ti : DI} {g : DG} {tb : DS} : sFor ti g tb B E ρ = ti ρ (fun ds ρ' => forD g tb B E ds ρ') E := (rfl)
@[simp] theorem iSq_s {t : DE} {Qi : List D → Rho → Prop} : iSq t ρ Qi E = t ρ (fun d ρ' => ∃ xs, seqD d = some xs ∧ Qi xs ρ') E := (rfl)
@[simp] theorem seqD_l {l : List D} : seqD (.lst l) = some l := (rfl)
@[simp] theorem seqD_t {l : List D} : seqD (.tup l) = some l := (rfl)
@[simp] theorem iEn_s {t : DA} {Qi : List D → Rho → Prop} : iEn t ρ Qi E = t ρ (fun ds ρ' => ∃ d xs, ds = [d] ∧ seqD d = some xs ∧ Qi (enumD xs) ρ') E := (rfl)
@[simp] theorem iZp_s {t : DA} {Qi : List D → Rho → Prop} : iZp t ρ Qi E = t ρ (fun ds ρ' => ∃ d e xs ys, ds = [d, e] ∧ seqD d = some xs ∧ seqD e = some ys ∧ Qi (zipD xs ys) ρ') E := (rfl)
@[simp] theorem iR1_s {t : DA} {Qi : List D → Rho → Prop} : iR1 t ρ Qi E = t ρ (fun ds ρ' => ∃ n : Int, ds = [.int n] ∧ (-1000000 ≤ n ∧ n ≤ 1000000) ∧ Qi ((List.range n.toNat).map fun (i : Nat) => D.int (0 + i)) ρ') E := (rfl)
@[simp] theorem iR2_s {t : DA} {Qi : List D → Rho → Prop} : iR2 t ρ Qi E = t ρ (fun ds ρ' => ∃ a b : Int, ds = [.int a, .int b] ∧ (-1000000 ≤ a ∧ a ≤ 1000000 ∧ -1000000 ≤ b ∧ b ≤ 1000000) ∧ Qi ((List.range (b - a).toNat).map fun (i : Nat) => D.int (a + i)) ρ') E := (rfl)
@[simp] theorem fIsi_s {x : D} {n : String} {Qd : D → Prop} : fIsi [x, .ty n] Qd = ∃ b, isTy x n = some b ∧ Qd (.bl b) := (rfl)
@[simp] theorem fLen_t {ds : List D} {Qd : D → Prop} : fLen [.tup ds] Qd = Qd (.int ds.length) := (rfl)
@[simp] theorem fLen_l {ds : List D} {Qd : D → Prop} : fLen [.lst ds] Qd = Qd (.int ds.length) := (rfl)
@[simp] theorem fLen_c {ns : List Int} {Qd : D → Prop} : fLen [.scr ns] Qd = Qd (.int ns.length) := (rfl)
@[simp] theorem fInt_i {i : Int} {Qd : D → Prop} : fInt [.int i] Qd = Qd (.int i) := (rfl)
@[simp] theorem fAbs_i {i : Int} {Qd : D → Prop} : fAbs [.int i] Qd = Qd (.int (if i < 0 then -i else i)) := (rfl)
@[simp] theorem fMax2_i {i j : Int} {Qd : D → Prop} : fMax2 [.int i, .int j] Qd = Qd (.int (if j > i then j else i)) := (rfl)
@[simp] theorem fMin2_i {i j : Int} {Qd : D → Prop} : fMin2 [.int i, .int j] Qd = Qd (.int (if j < i then j else i)) := (rfl)
@[simp] theorem fTuple_t {l : List D} {Qd : D → Prop} : fTuple [.tup l] Qd = Qd (.tup l) := (rfl)
@[simp] theorem fTuple_l {l : List D} {Qd : D → Prop} : fTuple [.lst l] Qd = Qd (.tup l) := (rfl)
@[simp] theorem nList_t {t : DA} : nList t ρ Ql E = t ρ (fun ds ρ' => match ds with | [.tup xs] => Ql xs ρ' | [.lst xs] => Ql xs ρ' | _ => False) E := (rfl)
@[simp] theorem nLc_s {ti : DI} {g : DG} {tt : DT} {te : DE} {vs : List Nat} : nLc ti g tt te vs ρ Ql E = ((∀ v ∈ vs, heldAt ρ v = none) ∧ ti ρ (fun ds ρ' => (ds.length ≤ LIM ∧ ∀ v ∈ vs, heldAt ρ' v = none) ∧ lcD g tt te vs ds [] ρ' Ql) E) := (rfl)
@[simp] theorem vals_nil : vals [] = [] := (rfl)
@[simp] theorem vals_cons {d : D} {ds : List D} : vals (d :: ds) = .val d :: vals ds := (rfl)
theorem held_v {d : D} {i : Nat} {ρ : Rho} (h : slAt ρ i = .val d) : heldAt ρ i = none := by unfold heldAt; rw [h]; rfl
@[simp] theorem oEq_s {x y : D} {Qd : D → Prop} : oEq x y Qd = ((okD 60 x = true ∧ okD 60 y = true) ∧ Qd (.bl (eqD x y))) := (rfl)
@[simp] theorem oNe_s {x y : D} {Qd : D → Prop} : oNe x y Qd = ((okD 60 x = true ∧ okD 60 y = true) ∧ Qd (.bl (!eqD x y))) := (rfl)
@[simp] theorem oIsN_s {x : D} {Qd : D → Prop} : oIsN x .non Qd = Qd (.bl (isNon x)) := (rfl)
@[simp] theorem oNotN_s {x : D} {Qd : D → Prop} : oNotN x .non Qd = Qd (.bl (!isNon x)) := (rfl)
@[simp] theorem oAdd_i {i j : Int} {Qd : D → Prop} : oAdd (.int i) (.int j) Qd = Qd (.int (i + j)) := (rfl)
@[simp] theorem oAdd_t {i j : List D} {Qd : D → Prop} : oAdd (.tup i) (.tup j) Qd = (i.length + j.length ≤ LIM ∧ Qd (.tup (i ++ j))) := (rfl)
@[simp] theorem oAdd_l {i j : List D} {Qd : D → Prop} : oAdd (.lst i) (.lst j) Qd = (i.length + j.length ≤ LIM ∧ Qd (.lst (i ++ j))) := (rfl)
@[simp] theorem oSub_i {i j : Int} {Qd : D → Prop} : oSub (.int i) (.int j) Qd = (True ∧ Qd (.int (i - j))) := (rfl)
@[simp] theorem oMulI_i {i j : Int} {Qd : D → Prop} : oMulI (.int i) (.int j) Qd = (MulOk i j ∧ Qd (.int (i * j))) := (rfl)
@[simp] theorem oMod_i {i j : Int} {Qd : D → Prop} : oMod (.int i) (.int j) Qd = (0 < j ∧ Qd (.int (i % j))) := (rfl)
@[simp] theorem oDiv_i {i j : Int} {Qd : D → Prop} : oDiv (.int i) (.int j) Qd = (DivOk j ∧ Qd (.int (i / j))) := (rfl)
@[simp] theorem oPow_i {i j : Int} {Qd : D → Prop} : oPow (.int i) (.int j) Qd = ((0 ≤ j ∧ j ≤ 1000 ∧ -(2 ^ 60) < i ∧ i < 2 ^ 60) ∧ Qd (.int (i ^ j.toNat))) := (rfl)
@[simp] theorem oLt_i {i j : Int} {Qd : D → Prop} : oLt (.int i) (.int j) Qd = (True ∧ Qd (.bl (decide (i < j)))) := (rfl)
@[simp] theorem oLe_i {i j : Int} {Qd : D → Prop} : oLe (.int i) (.int j) Qd = (True ∧ Qd (.bl (decide (i ≤ j)))) := (rfl)
@[simp] theorem oGt_i {i j : Int} {Qd : D → Prop} : oGt (.int i) (.int j) Qd = (True ∧ Qd (.bl (decide (j < i)))) := (rfl)
@[simp] theorem oGe_i {i j : Int} {Qd : D → Prop} : oGe (.int i) (.int j) Qd = (True ∧ Qd (.bl (decide (j ≤ i)))) := (rfl)
@[simp] theorem oIx_t {ds : List D} {i : Int} {Qd : D → Prop} : oIx (.tup ds) (.int i) Qd = ∃ d, atI ds i = some d ∧ Qd d := (rfl)
@[simp] theorem oIx_l {ds : List D} {i : Int} {Qd : D → Prop} : oIx (.lst ds) (.int i) Qd = ∃ d, atI ds i = some d ∧ Qd d := (rfl)
@[simp] theorem oIx_c {ns : List Int} {i : Int} {Qd : D → Prop} : oIx (.scr ns) (.int i) Qd = ∃ n, atI ns i = some n ∧ Qd (.int n) := (rfl)
@[simp] theorem oNeg_i {i : Int} {Qd : D → Prop} : oNeg (.int i) Qd = Qd (.int (-i)) := (rfl)
@[simp] theorem oSl_t {ds : List D} {lo hi : Option Int} {Qd : D → Prop} : oSl (.tup ds) lo hi Qd = Qd (.tup (cut ds lo hi)) := (rfl)
@[simp] theorem oSl_l {ds : List D} {lo hi : Option Int} {Qd : D → Prop} : oSl (.lst ds) lo hi Qd = Qd (.lst (cut ds lo hi)) := (rfl)
end
section
variable {ρ : Rho} {Q : D → Rho → Prop} {Ql : List D → Rho → Prop} {E : EQ} {B : DEnds}
@[simp] theorem sPar_s {i j : Nat} {t : DA} : sPar i j t B E ρ = t ρ (fun ds ρ' => match ds with
  | [d, e] => (nb (slAt ρ' i) ∧ nb (slAt (ρ'.set i (.val d)) j)) ∧ B.nx ((ρ'.set i (.val d)).set j (.val e))
  | _ => False) E := (rfl)
@[simp] theorem sParN_s {i j : Nat} {t : DA} {u : DE} : sParN i j t u B E ρ = t ρ (fun ds ρ1 => u ρ1 (fun d ρ2 => (nb (slAt ρ2 i) ∧ i < ρ2.length ∧ nb (slAt (ρ2.set i (.own ds)) j)) ∧ B.nx ((ρ2.set i (.own ds)).set j (.val d))) E) E := (rfl)
@[simp] theorem sParV_s {i j : Nat} {t : DA} {u : DE} : sParV i j u t B E ρ = u ρ (fun d ρ1 => t ρ1 (fun ds ρ2 => (nb (slAt ρ2 i) ∧ j < ρ2.length ∧ nb (slAt (ρ2.set i (.val d)) j)) ∧ B.nx ((ρ2.set i (.val d)).set j (.own ds))) E) E := (rfl)
@[simp] theorem sOwn_s {i : Nat} {t : DA} : sOwn i t B E ρ = t ρ (fun ds ρ' => nb (slAt ρ' i) ∧ i < ρ'.length ∧ B.nx (ρ'.set i (.own ds))) E := (rfl)
@[simp] theorem sApp_s {i : Nat} {t : DA} : sApp i t B E ρ = (Held ρ i ∧ t ρ (fun es ρ' => ∃ d ds, es = [d] ∧ heldAt ρ' i = some ds ∧ ds.length < LIM ∧ B.nx (putAt ρ' i (ds ++ [d]))) E) := (rfl)
@[simp] theorem sSto_s {i : Nat} {te tk : DE} : sSto i te tk B E ρ = te ρ (fun d ρ1 => Held ρ1 i ∧ tk ρ1 (fun k ρ2 => ∃ n ds j, k = .int n ∧ heldAt ρ2 i = some ds ∧ ixN ds.length n = some j ∧ B.nx (putAt ρ2 i (ds.set j d))) E) E := (rfl)
@[simp] theorem dIxH_s {i : Nat} {tk : DE} : dIxH i tk ρ Q E = (Held ρ i ∧ tk ρ (fun k ρ1 => ∃ n ds d, k = .int n ∧ heldAt ρ1 i = some ds ∧ atI ds n = some d ∧ Q d ρ1) E) := (rfl)
@[simp] theorem dLenH_s {i : Nat} : dLenH i ρ Q E = ∃ ds, heldAt ρ i = some ds ∧ Q (.int ds.length) ρ := (rfl)
@[simp] theorem dInH_s {n : Bool} {i : Nat} {t : DE} : dInH n i t ρ Q E = t ρ (fun d ρ1 => ∃ ds, heldAt ρ1 i = some ds ∧ (flatD d = true ∧ ds.all flatD = true) ∧ Q (.bl (if n = true then !(ds.any fun y => eqD y d) else ds.any fun y => eqD y d)) ρ1) E := (rfl)
@[simp] theorem dCallR_s {n : Nat} {F : FS} {i : Nat} {t : DA} : dCallR n F i t ρ Q E = ((∃ ds0, heldAt ρ i = some ds0) ∧ t ρ (fun ds ρ1 => ds.length + 1 = n ∧ ∃ m, heldAt ρ1 i = some m ∧
  F (.brw m :: vals ds) (fun d as' => ∃ m', as' = .brw m' :: vals ds ∧ Q d (putAt ρ1 i m')) (fun x as' => ∃ m', as' = .brw m' :: vals ds ∧ E x (putAt ρ1 i m'))) E) := (rfl)
@[simp] theorem nRg1_s {t : DE} : nRg1 t ρ Ql E = t ρ (fun d ρ' => ∃ n : Int, d = .int n ∧ (0 ≤ n ∧ n ≤ 1000000) ∧ Ql ((List.range n.toNat).map fun (i : Nat) => D.int (0 + i)) ρ') E := (rfl)
@[simp] theorem dIxL_s {te : DE} {tx : DA} : dIxL te tx ρ Q E = te ρ (fun d ρ1 => ∃ ds, d = .lst ds ∧ tx ρ1 (fun xs ρ2 => ∃ x j, xs = [x] ∧ (flatD x = true ∧ flatAll ds = true) ∧ ixOf (fun y => eqD y x) ds = some j ∧ Q (.int (j : Nat)) ρ2) E) E := (rfl)
@[simp] theorem dErr_s {nm : Str → Option Str} {t : DE} : dErr nm t ρ Q E = t ρ (fun _ ρ' => Q (.str "") ρ') (fun x ρ' => x.pay = none ∧ ∃ r, nm x.cls = some r ∧ Q (.str r) ρ') := (rfl)
@[simp] theorem Held_z {x : Sl} {ds : List D} (h : x.held = some ds) : Held (x :: ρ) 0 = True := eq_true ⟨ds, h⟩
@[simp] theorem Held_o {ds : List D} : Held (.own ds :: ρ) 0 = True := eq_true ⟨ds, rfl⟩
@[simp] theorem Held_b {ds : List D} : Held (.brw ds :: ρ) 0 = True := eq_true ⟨ds, rfl⟩
@[simp] theorem Held_s {x : Sl} {n : Nat} : Held (x :: ρ) (n + 1) = Held ρ n := (rfl)
@[simp] theorem put_z {x : Sl} {ds : List D} : putAt (x :: ρ) 0 ds = x.put ds :: ρ := (rfl)
@[simp] theorem put_s {x : Sl} {n : Nat} {ds : List D} : putAt (x :: ρ) (n + 1) ds = x :: putAt ρ n ds := (rfl)
@[simp] theorem pt_o {ds es : List D} : (Sl.own ds).put es = .own es := (rfl)
@[simp] theorem pt_b {ds es : List D} : (Sl.brw ds).put es = .brw es := (rfl)
@[simp] theorem oRep_s {ds : List D} {k : Int} {Qd : D → Prop} : oRep (.lst ds) (.int k) Qd = ((0 ≤ k ∧ k ≤ 1000 ∧ ds.length ≤ 1000) ∧ Qd (.lst (List.replicate k.toNat ds).flatten)) := (rfl)
end
/-! ### comprehensions with a plain test -/
theorem wipe_one {ρ : Rho} {i : Nat} : wipeR ρ [i] = ρ.set i .no := rfl
theorem lcD_pure {i : Nat} {tt : DT} {te : DE} {p : D → Bool} {f : D → D} {ρ : Rho} (hi : i < ρ.length) (hh : nb (slAt ρ i)) :
    ∀ (ds acc : List D) (Q : List D → Rho → Prop), (∀ d ∈ ds, ∀ (Qb : Bool → Rho → Prop), Qb (p d) (ρ.set i (.val d)) → tt (ρ.set i (.val d)) Qb (fun _ _ => False)) → (∀ d ∈ ds, p d = true → ∀ (Qd : D → Rho → Prop), Qd (f d) (ρ.set i (.val d)) → te (ρ.set i (.val d)) Qd (fun _ _ => False)) →
      Q (acc ++ (ds.filter p).map f) ρ → lcD (gNm i) tt te [i] ds acc ρ Q
  | [], acc, Q, _, _, h => by simpa [lcD] using h
  | d :: ds, acc, Q, h1, h2, h => by
    have e1 : (wipeR ρ [i]).set i (.val d) = ρ.set i (.val d) := by rw [wipe_one, List.set_set]
    have e2 : bakR ρ (ρ.set i (.val d)) [i] = ρ := by
      unfold bakR bakR
      rw [List.set_set]
      apply List.ext_getElem?
      intro j
      rw [List.getElem?_set]
      by_cases q : i = j
      · subst q
        rw [if_pos rfl, if_pos hi]
        unfold slAt
        rw [List.getD_eq_getElem?_getD, List.getElem?_eq_getElem hi]
        rfl
      · rw [if_neg q]
    unfold lcD
    refine ⟨?_, ?_⟩
    · rw [wipe_one, slAt_set, if_pos ⟨rfl, hi⟩]
      trivial
    · rw [e1]
      refine h1 d List.mem_cons_self _ ?_
      cases hp : p d with
      | true =>
        rw [if_pos rfl]
        refine h2 d List.mem_cons_self hp _ ?_
        rw [e2]
        refine lcD_pure hi hh ds _ Q (fun d hd => h1 d (List.mem_cons_of_mem _ hd)) (fun d hd => h2 d (List.mem_cons_of_mem _ hd)) ?_
        rw [List.filter_cons_of_pos hp] at h
        simpa using h
      | false =>
        rw [if_neg (by decide), e2]
        refine lcD_pure hi hh ds _ Q (fun d hd => h1 d (List.mem_cons_of_mem _ hd)) (fun d hd => h2 d (List.mem_cons_of_mem _ hd)) ?_
        rw [List.filter_cons_of_neg (by rw [hp]; decide)] at h
        exact h
theorem noOwn_vals {ds : List D} : NoOwn (vals ds) := fun i xs e => by
  rw [vals_at] at e
  cases q : ds[i]? with
  | none => rw [q] at e; cases e
  | some d => rw [q] at e; cases e
theorem exit_vals {ds : List D} {ρ : Rho} : exitR (vals ds) ρ = vals ds := by
  apply List.ext_getElem?
  intro i
  unfold exitR vals
  rw [List.getElem?_mapIdx, List.getElem?_map]
  cases ds[i]? <;> rfl
/-! ### laws of defs that take values alone -/
abbrev SV := List D → (D → Prop) → (Exc → Prop) → Prop
def FV (S : SV) : FS := fun as Q E => ∃ ds, as = vals ds ∧ S ds (fun d => Q d as) (fun x => E x as)
theorem vals_inj : ∀ {ds es : List D}, vals ds = vals es → ds = es
  | [], [], _ => rfl
  | d :: ds, e :: es, h => by
    rw [vals_cons, vals_cons] at h
    injection h with h1 h2
    injection h1 with h1
    rw [h1, vals_inj h2]
  | [], _ :: _, h => by cases h
  | _ :: _, [], h => by cases h
theorem FV_vals {S : SV} {ds : List D} {Q : D → List Sl → Prop} {E : EQ} : FV S (vals ds) Q E = S ds (fun d => Q d (vals ds)) (fun x => E x (vals ds)) := by
  refine propext ⟨fun ⟨es, e, h⟩ => ?_, fun h => ⟨ds, rfl, h⟩⟩
  have q := vals_inj e
  subst q
  exact h
theorem FV_nil {S : SV} {Q : D → List Sl → Prop} {E : EQ} : FV S [] Q E = S [] (fun d => Q d []) (fun x => E x []) := FV_vals (ds := [])
theorem Body.v {t : DS} {n m : Nat} {S : SV} (h : ∀ ds Q E, S ds Q E → ds.length = m ∧ t { nx := fun _ => Q .non, rt := fun d _ => Q d } (fun x _ => E x) (entR (vals ds) n)) : Body t n m (FV S) := by
  rintro as Qd Ed ⟨ds, rfl, hS⟩
  obtain ⟨h1, h2⟩ := h ds _ _ hS
  refine ⟨by unfold vals; rw [List.length_map]; exact h1, noOwn_vals, ?_⟩
  simp only [exit_vals]
  exact h2
@[simp] theorem dCall_v {n : Nat} {S : SV} {t : DA} {ρ : Rho} {Q : D → Rho → Prop} {E : EQ} : dCall n (FV S) t ρ Q E = t ρ (fun ds ρ1 => ds.length = n ∧ S ds (fun d => Q d ρ1) (fun x => E x ρ1)) E := by
  rw [dCall_s]
  simp only [FV_vals]
@[simp] theorem dCall0_v {S : SV} {ρ : Rho} {Q : D → Rho → Prop} {E : EQ} : dCall0 (FV S) ρ Q E = S [] (fun d => Q d ρ) (fun _ => False) := by
  rw [dCall0_s]
  simp only [FV_nil]
/-- a def that gives f of what it got, where C holds -/
def fnS (C : List D → Prop) (f : List D → D) : SV := fun ds Q _ => C ds ∧ Q (f ds)
@[simp] theorem ent_def {as : List Sl} {n : Nat} : entR as n = as ++ List.replicate (n - as.length) .no := (rfl)
@[simp] theorem rep1 {x : Sl} : List.replicate 1 x = [x] := (rfl)
@[simp] theorem rep2 {x : Sl} : List.replicate 2 x = [x, x] := (rfl)
@[simp] theorem rep3 {x : Sl} : List.replicate 3 x = [x, x, x] := (rfl)
@[simp] theorem rep4 {x : Sl} : List.replicate 4 x = [x, x, x, x] := (rfl)
@[simp] theorem rep5 {x : Sl} : List.replicate 5 x = [x, x, x, x, x] := (rfl)
@[simp] theorem rep6 {x : Sl} : List.replicate 6 x = [x, x, x, x, x, x] := (rfl)
@[simp] theorem rep7 {x : Sl} : List.replicate 7 x = [x, x, x, x, x, x, x] := (rfl)
@[simp] theorem rep8 {x : Sl} : List.replicate 8 x = [x, x, x, x, x, x, x, x] := (rfl)
@[simp] theorem rep9 {x : Sl} : List.replicate 9 x = [x, x, x, x, x, x, x, x, x] := (rfl)
@[simp] theorem rep10 {x : Sl} : List.replicate 10 x = [x, x, x, x, x, x, x, x, x, x] := (rfl)
section
variable {α : Type} {xs : List α}
theorem atI_pos {i : Int} (h : 0 ≤ i) : atI xs i = xs[i.toNat]? := by
  unfold atI ixN
  rw [if_pos h]
  by_cases k : i < xs.length
  · rw [if_pos k]
    rfl
  · rw [if_neg k, List.getElem?_eq_none (by omega)]
    rfl
@[simp] theorem atI_n {i : Nat} : atI xs (i : Int) = xs[i]? := by rw [atI_pos (by omega)]; rfl
@[simp] theorem atI_n1 {i : Nat} : atI xs ((i : Int) + 1) = xs[i + 1]? := by rw [atI_pos (by omega)]; rfl
@[simp] theorem atI_0 : atI xs 0 = xs[0]? := atI_pos (by decide)
@[simp] theorem atI_1 : atI xs 1 = xs[1]? := atI_pos (by decide)
@[simp] theorem atI_2 : atI xs 2 = xs[2]? := atI_pos (by decide)
@[simp] theorem atI_3 : atI xs 3 = xs[3]? := atI_pos (by decide)
@[simp] theorem atI_4 : atI xs 4 = xs[4]? := atI_pos (by decide)
@[simp] theorem atI_5 : atI xs 5 = xs[5]? := atI_pos (by decide)
@[simp] theorem atI_m1 : atI xs (-1) = xs.getLast? := by
  cases h : xs.getLast? with
  | none =>
    have e := List.getLast?_eq_none_iff.mp h
    subst e
    rfl
  | some v =>
    obtain ⟨ys, rfl⟩ := List.getLast?_eq_some_iff.mp h
    exact atI_last ys v
end
/-- the flag is asked -/
theorem ifb {b : Bool} {P Q : Prop} : (b = true → P) → (b = false → Q) → (if b = true then P else Q) := by
  cases b
  · intro _ h
    rw [if_neg (by decide)]
    exact h rfl
  · intro h _
    rw [if_pos rfl]
    exact h rfl
/-- enumerate, place by place -/
def enF : Nat → List D → List D
  | _, [] => []
  | i, x :: xs => D.tup [.int (i : Int), x] :: enF (i + 1) xs
theorem enF_eq : ∀ (xs : List D) (k : Nat), xs.mapIdx (fun i x => D.tup [.int (0 + ((i + k : Nat) : Int)), x]) = enF k xs
  | [], _ => rfl
  | x :: xs, k => by
    rw [List.mapIdx_cons]
    unfold enF
    rw [← enF_eq xs (k + 1)]
    congr 1
    · simp
    · congr 1
      funext i y
      congr 4
      omega
theorem enumD_eq {xs : List D} : enumD xs = enF 0 xs := enF_eq xs 0
end TS
set_option Elab.async false
set_option linter.all false
set_option maxRecDepth 100000
set_option maxHeartbeats 4000000
set_option exponentiation.threshold 10000
/-! plain functions and laws for the package's defs -/
namespace TS
open PySem PySem.Spec PyProof.Rows L2
/-! ### plain data of little depth -/
def pdB : Nat → D → Bool
  | _, .non => true
  | _, .bl _ => true
  | _, .int _ => true
  | _, .str x => PyData.strOk x
  | n + 1, .tup ds => decide (ds.length ≤ 1000) && ds.all (pdB n)
  | n + 1, .lst ds => decide (ds.length ≤ 1000) && ds.all (pdB n)
  | _, _ => false
def pd (d : D) : Prop := pdB 40 d = true
theorem pdB_ok : ∀ (n : Nat) (d : D), pdB n d = true → okD n d = true
  | n, .non, _ => by cases n <;> rfl
  | n, .bl _, _ => by cases n <;> rfl
  | n, .int _, _ => by cases n <;> rfl
  | n, .str x, h => by cases n <;> exact h
  | 0, .tup ds, h => by simp [pdB] at h
  | 0, .lst ds, h => by simp [pdB] at h
  | n + 1, .tup ds, h => by
    simp only [pdB, Bool.and_eq_true, List.all_eq_true] at h
    simp only [okD, List.all_eq_true]
    exact fun d hd => pdB_ok n d (h.2 d hd)
  | n + 1, .lst ds, h => by
    simp only [pdB, Bool.and_eq_true, List.all_eq_true] at h
    simp only [okD, List.all_eq_true]
    exact fun d hd => pdB_ok n d (h.2 d hd)
  | n, .scr _, h => by cases n <;> simp [pdB] at h
  | n, .glo _, h => by cases n <;> simp [pdB] at h
  | n, .ty _, h => by cases n <;> simp [pdB] at h
theorem pdB_mono : ∀ (n m : Nat) (d : D), n ≤ m → pdB n d = true → pdB m d = true
  | n, m, .non, _, _ => by cases m <;> rfl
  | n, m, .bl _, _, _ => by cases m <;> rfl
  | n, m, .int _, _, _ => by cases m <;> rfl
  | n, m, .str x, _, h => by cases n <;> cases m <;> exact h
  | 0, _, .tup ds, _, h => by simp [pdB] at h
  | 0, _, .lst ds, _, h => by simp [pdB] at h
  | n + 1, 0, .tup ds, k, _ => absurd k (by omega)
  | n + 1, 0, .lst ds, k, _ => absurd k (by omega)
  | n + 1, m + 1, .tup ds, k, h => by
    simp only [pdB, Bool.and_eq_true, List.all_eq_true] at h ⊢
    exact ⟨h.1, fun d hd => pdB_mono n m d (by omega) (h.2 d hd)⟩
  | n + 1, m + 1, .lst ds, k, h => by
    simp only [pdB, Bool.and_eq_true, List.all_eq_true] at h ⊢
    exact ⟨h.1, fun d hd => pdB_mono n m d (by omega) (h.2 d hd)⟩
  | n, _, .scr _, _, h => by cases n <;> simp [pdB] at h
  | n, _, .glo _, _, h => by cases n <;> simp [pdB] at h
  | n, _, .ty _, _, h => by cases n <;> simp [pdB] at h
theorem pd_tup {ds : List D} (h : pd (.tup ds)) : ds.length ≤ 1000 ∧ ∀ d ∈ ds, pd d := by
  simp only [pd, pdB, Bool.and_eq_true, List.all_eq_true, decide_eq_true_eq] at h
  exact ⟨h.1, fun d hd => pdB_mono 39 40 d (by decide) (h.2 d hd)⟩
theorem pd_lst {ds : List D} (h : pd (.lst ds)) : ds.length ≤ 1000 ∧ ∀ d ∈ ds, pd d := by
  simp only [pd, pdB, Bool.and_eq_true, List.all_eq_true, decide_eq_true_eq] at h
  exact ⟨h.1, fun d hd => pdB_mono 39 40 d (by decide) (h.2 d hd)⟩
theorem pd_ok {d : D} (h : pd d) : okD 60 d = true := okD_mono 40 60 d (by decide) (pdB_ok 40 d h)
theorem pd_lok {ds : List D} (h : ∀ d ∈ ds, pd d) : okD 60 (.lst ds) = true := by
  simp only [okD, List.all_eq_true]
  exact fun d hd => okD_mono 40 59 d (by decide) (pdB_ok 40 d (h d hd))
@[simp] theorem eqL_nil {ds : List D} : eqD (.lst ds) (.lst []) = ds.isEmpty := by cases ds <;> simp [eqD, eqL]
def isTup : D → Bool
  | .tup _ => true
  | _ => false
@[simp] theorem isTup_t {l : List D} : isTup (.tup l) = true := (rfl)
def isBl : D → Bool
  | .bl _ => true
  | _ => false
def isStr : D → Bool
  | .str _ => true
  | _ => false
def isInt : D → Bool
  | .int _ => true
  | .bl _ => true
  | _ => false
theorem isTy_int {v : D} (h : pd v) : isTy v "int" = some (isInt v) := by cases v <;> first | rfl | cases h
theorem isTy_bool {v : D} (h : pd v) : isTy v "bool" = some (isBl v) := by cases v <;> first | rfl | cases h
theorem isTy_str {v : D} (h : pd v) : isTy v "str" = some (isStr v) := by cases v <;> first | rfl | cases h
theorem isTy_tup {v : D} (h : pd v) : isTy v "tuple" = some (isTup v) := by cases v <;> first | rfl | cases h
/-- [x for x in xs if not good(x)]: is it empty? -/
theorem lcD_none {i : Nat} {tt : DT} {ρ : Rho} {g : D → Bool} {ds : List D} {Q : List D → Rho → Prop} (hi : i < ρ.length) (hh : nb (slAt ρ i)) (hd : ∀ d ∈ ds, pd d)
    (htt : ∀ d ∈ ds, ∀ (Qb : Bool → Rho → Prop), Qb (g d) (ρ.set i (.val d)) → tt (ρ.set i (.val d)) Qb (fun _ _ => False)) (hQ : ∀ l : List D, okD 60 (.lst l) = true → l.isEmpty = ds.all g → Q l ρ) :
    lcD (gNm i) (tNotD tt) (dVar i) [i] ds [] ρ Q := by
  refine lcD_pure (p := fun d => !g d) (f := id) hi hh ds [] Q (fun d h Qb hq => htt d h _ hq) (fun d h hp Qd hq => ?_) ?_
  · have e : slAt (ρ.set i (.val d)) i = .val d := by rw [slAt_set, if_pos ⟨rfl, hi⟩]
    rw [dVar_s, e]
    exact hq
  · simp only [List.nil_append, List.map_id]
    refine hQ _ (pd_lok fun d h => hd d (List.mem_filter.mp h).1) ?_
    rw [Bool.eq_iff_iff]
    simp
/-! ### is it of the kind -/
def isWhole (v : D) (lo hi : Int) : Bool := match v with
  | .int i => decide (lo ≤ i) && decide (i ≤ hi)
  | _ => false
def atD (ds : List D) (i : Nat) : D := ds.getD i .non
def intD : D → Int
  | .int i => i
  | _ => 0
@[simp] theorem intD_i {i : Int} : intD (.int i) = i := (rfl)
def rising (ds : List D) : Bool := (List.range (ds.length - 1)).all fun i => decide (intD (atD ds i) < intD (atD ds (i + 1)))
def isRising (v : D) (most : Int) : Bool := match v with
  | .tup ds => ds.all (fun d => isWhole d 0 most) && rising ds
  | _ => false
def isPart (size number place : Int) (v : D) : Bool :=
  if place = 0 then isWhole v 0 1 else if place = 1 then isWhole v 0 (size - 1) else if place = 2 then isWhole v 0 size else if place = 3 then isNon v || isWhole v 0 (number - 1)
  else if place = 4 then isRising v 2 && !eqD v (.tup []) else isBl v
def isWay (size number : Int) (v : D) : Bool := match v with
  | .tup ds => decide (ds.length = 6) && (List.range 6).all fun i => isPart size number i (atD ds i)
  | _ => false
def S_is_whole : SV
  | [v, .int lo, .int hi], Q, _ => pd v ∧ Q (.bl (isWhole v lo hi))
  | _, _, _ => False
abbrev F_is_whole : FS := FV S_is_whole
@[simp] theorem S_is_whole_s {v : D} {lo hi : Int} {Q : D → Prop} {E : Exc → Prop} : S_is_whole [v, .int lo, .int hi] Q E = (pd v ∧ Q (.bl (isWhole v lo hi))) := (rfl)
def S_is_rising : SV
  | [v, .int most], Q, _ => pd v ∧ Q (.bl (isRising v most))
  | _, _, _ => False
abbrev F_is_rising : FS := FV S_is_rising
@[simp] theorem S_is_rising_s {v : D} {most : Int} {Q : D → Prop} {E : Exc → Prop} : S_is_rising [v, .int most] Q E = (pd v ∧ Q (.bl (isRising v most))) := (rfl)
def S_is_part : SV
  | [.int size, .int number, .int place, v], Q, _ => pd v ∧ Q (.bl (isPart size number place v))
  | _, _, _ => False
abbrev F_is_part : FS := FV S_is_part
@[simp] theorem S_is_part_s {size number place : Int} {v : D} {Q : D → Prop} {E : Exc → Prop} : S_is_part [.int size, .int number, .int place, v] Q E = (pd v ∧ Q (.bl (isPart size number place v))) := (rfl)
def S_is_way : SV
  | [.int size, .int number, v], Q, _ => pd v ∧ Q (.bl (isWay size number v))
  | _, _, _ => False
abbrev F_is_way : FS := FV S_is_way
@[simp] theorem S_is_way_s {size number : Int} {v : D} {Q : D → Prop} {E : Exc → Prop} : S_is_way [.int size, .int number, v] Q E = (pd v ∧ Q (.bl (isWay size number v))) := (rfl)
@[simp] theorem pdN {n : Nat} : pd (.int (n : Int)) := (rfl)
@[simp] theorem pdI {n : Int} : pd (.int n) := (rfl)
@[simp] theorem pdBl {b : Bool} : pd (.bl b) := (rfl)
@[simp] theorem pdNon : pd .non := (rfl)
theorem pd_range {n : Nat} : ∀ d ∈ (List.range n).map (fun (i : Nat) => D.int (i : Int)), pd d := fun d h => by
  obtain ⟨i, _, rfl⟩ := List.mem_map.mp h
  rfl
@[simp] theorem okD_i {n : Nat} {i : Int} : okD n (.int i) = true := by cases n <;> rfl
@[simp] theorem okD_b {n : Nat} {i : Bool} : okD n (.bl i) = true := by cases n <;> rfl
@[simp] theorem okD_n {n : Nat} : okD n .non = true := by cases n <;> rfl
@[simp] theorem okD_s {n : Nat} {x : Str} : okD n (.str x) = PyData.strOk x := by cases n <;> rfl
@[simp] theorem okD_nil {n : Nat} : okD (n + 1) (.lst []) = true := (rfl)
@[simp] theorem okD_nit {n : Nat} : okD (n + 1) (.tup []) = true := (rfl)
@[simp] theorem eqD_ii {i j : Int} : eqD (.int i) (.int j) = (i == j) := by simp [eqD]
@[simp] theorem eqD_ss {i j : Str} : eqD (.str i) (.str j) = (i == j) := by simp [eqD]
/-- a Bool is given back -/
theorem giveb {b : Bool} {Q : D → Prop} : (b = false ∧ Q (.bl false) ∨ b = true ∧ Q (.bl true)) ↔ Q (.bl b) := by cases b <;> simp
theorem givet {b : Bool} {ρ : Rho} {Q : Bool → Rho → Prop} : (b = false ∧ Q false ρ ∨ b = true ∧ Q true ρ) ↔ Q b ρ := by cases b <;> simp
@[simp] theorem oIn_tt {x : D} {ds : List D} {Q : D → Prop} : oIn x (.tup ds) Q = ((flatD x = true ∧ ds.all flatD = true) ∧ Q (.bl (ds.any fun y => eqD y x))) := by cases x <;> rfl
@[simp] theorem oIn_ll {x : D} {ds : List D} {Q : D → Prop} : oIn x (.lst ds) Q = ((flatD x = true ∧ ds.all flatD = true) ∧ Q (.bl (ds.any fun y => eqD y x))) := by cases x <;> rfl
@[simp] theorem oNotIn_tt {x : D} {ds : List D} {Q : D → Prop} : oNotIn x (.tup ds) Q = ((flatD x = true ∧ ds.all flatD = true) ∧ Q (.bl (!(ds.any fun y => eqD y x)))) := by cases x <;> rfl
@[simp] theorem oNotIn_ll {x : D} {ds : List D} {Q : D → Prop} : oNotIn x (.lst ds) Q = ((flatD x = true ∧ ds.all flatD = true) ∧ Q (.bl (!(ds.any fun y => eqD y x)))) := by cases x <;> rfl
@[simp] theorem flat_i {i : Int} : flatD (.int i) = true := (rfl)
@[simp] theorem flat_b {i : Bool} : flatD (.bl i) = true := (rfl)
@[simp] theorem flat_s {i : Str} : flatD (.str i) = true := (rfl)
@[simp] theorem flat_n : flatD .non = true := (rfl)
@[simp] theorem dIxT_s {ns : List Str} {tx : DA} {ρ : Rho} {Q : D → Rho → Prop} {E : EQ} : dIxT ns tx ρ Q E = tx ρ (fun xs ρ2 => ∃ z j, xs = [.str z] ∧ ixOf (fun y => eqD y (.str z)) (ns.map D.str) = some j ∧ Q (.int (j : Nat)) ρ2) E := (rfl)
@[simp] theorem sok_back : PyData.strOk (Str.ofString "back") = true := by decide +kernel
@[simp] theorem isStr_s {x : Str} : isStr (.str x) = true := (rfl)
/-! ### houses, people, rows -/
def MOST : Int := 1000000000000000000000000000000
def tupL : D → List D
  | .tup ds => ds
  | _ => []
def hasHouse (v : D) : Bool := match v with
  | .tup [s, w] => isWhole s 1 MOST && isTup w && decide (1 ≤ (tupL w).length) && decide ((tupL w).length ≤ 3) && (List.range (tupL w).length).all fun i => isWay (intD s) i (atD (tupL w) i)
  | _ => false
def S_has_house : SV
  | [v], Q, _ => pd v ∧ Q (.bl (hasHouse v))
  | _, _, _ => False
abbrev F_has_house : FS := FV S_has_house
@[simp] theorem S_has_house_s {v : D} {Q : D → Prop} {E : Exc → Prop} : S_has_house [v] Q E = (pd v ∧ Q (.bl (hasHouse v))) := (rfl)
def hasPerson (size : Int) (v : D) : Bool := match v with
  | .tup [k, a, b] => isWhole k 0 2 && isWhole a 0 (size - 1) && isWhole b 0 (size - 1)
  | _ => false
/-- a house's shape: its size and its ways are there -/
def Hsh (h : D) (size : Int) (ws : List D) : Prop := h = .tup [.int size, .tup ws]
def S_has_person : SV
  | [h, v], Q, _ => ∃ size ws, Hsh h size ws ∧ pd v ∧ Q (.bl (hasPerson size v))
  | _, _, _ => False
abbrev F_has_person : FS := FV S_has_person
@[simp] theorem S_has_person_s {h v : D} {Q : D → Prop} {E : Exc → Prop} : S_has_person [h, v] Q E = ∃ size ws, Hsh h size ws ∧ pd v ∧ Q (.bl (hasPerson size v)) := (rfl)
def PL : List Str := ["word", "start", "share", "fence", "kinds", "keeps"]
def plIx (x : Str) : Option Nat := ixOf (fun y => eqD y (.str x)) (PL.map D.str)
def isTurning (size : Int) (many : Nat) (v : D) : Bool := match v with
  | .tup (.str x :: n :: r) => isWhole n 0 (many - 1) && (match r with
    | [] => decide (x = "back")
    | [u] => (match plIx x with
      | some j => isPart size (intD n) j u
      | none => false)
    | _ => false)
  | _ => false
def S_is_turning : SV
  | [h, v], Q, _ => ∃ size ws, Hsh h size ws ∧ pd v ∧ Q (.bl (isTurning size ws.length v))
  | _, _, _ => False
abbrev F_is_turning : FS := FV S_is_turning
@[simp] theorem S_is_turning_s {h v : D} {Q : D → Prop} {E : Exc → Prop} : S_is_turning [h, v] Q E = ∃ size ws, Hsh h size ws ∧ pd v ∧ Q (.bl (isTurning size ws.length v)) := (rfl)
def hasRow (size : Int) (many : Nat) (v : D) : Bool := match v with
  | .tup ds => decide (ds.length ≤ 6) && ds.all fun t => isTurning size many t
  | _ => false
def S_has_row : SV
  | [h, v], Q, _ => ∃ size ws, Hsh h size ws ∧ pd v ∧ Q (.bl (hasRow size ws.length v))
  | _, _, _ => False
abbrev F_has_row : FS := FV S_has_row
@[simp] theorem S_has_row_s {h v : D} {Q : D → Prop} {E : Exc → Prop} : S_has_row [h, v] Q E = ∃ size ws, Hsh h size ws ∧ pd v ∧ Q (.bl (hasRow size ws.length v)) := (rfl)
def S_need_house : SV
  | [v], Q, E => pd v ∧ (hasHouse v = true → Q .non) ∧ (hasHouse v = false → E ⟨"InvalidHouse", none⟩)
  | _, _, _ => False
abbrev F_need_house : FS := FV S_need_house
@[simp] theorem S_need_house_s {v : D} {Q : D → Prop} {E : Exc → Prop} : S_need_house [v] Q E = (pd v ∧ (hasHouse v = true → Q .non) ∧ (hasHouse v = false → E ⟨"InvalidHouse", none⟩)) := (rfl)
def hSize : D → Int
  | .tup [.int s, _] => s
  | _ => 0
def hMany : D → Nat
  | .tup [_, .tup ws] => ws.length
  | _ => 0
def S_need_row : SV
  | [h, v], Q, E => pd h ∧ pd v ∧ (hasHouse h = false → E ⟨"InvalidHouse", none⟩) ∧ (hasHouse h = true → hasRow (hSize h) (hMany h) v = false → E ⟨"InvalidRow", none⟩) ∧ (hasHouse h = true → hasRow (hSize h) (hMany h) v = true → Q .non)
  | _, _, _ => False
abbrev F_need_row : FS := FV S_need_row
@[simp] theorem S_need_row_s {h v : D} {Q : D → Prop} {E : Exc → Prop} : S_need_row [h, v] Q E = (pd h ∧ pd v ∧ (hasHouse h = false → E ⟨"InvalidHouse", none⟩) ∧ (hasHouse h = true → hasRow (hSize h) (hMany h) v = false → E ⟨"InvalidRow", none⟩) ∧ (hasHouse h = true → hasRow (hSize h) (hMany h) v = true → Q .non)) := (rfl)
end TS
set_option Elab.async false
set_option linter.all false
set_option maxRecDepth 100000
set_option maxHeartbeats 4000000
set_option exponentiation.threshold 10000
/-! houses, turnings, people as plain structures -/
namespace TS
open PySem PySem.Spec PyProof.Rows L2
structure Wy where
  word : Int
  start : Int
  share : Int
  fence : Option Int
  kinds : List Int
  keeps : Bool
  deriving Inhabited
def optD : Option Int → D
  | none => .non
  | some i => .int i
def Wy.d (w : Wy) : D := .tup [.int w.word, .int w.start, .int w.share, optD w.fence, .tup (w.kinds.map .int), .bl w.keeps]
structure Hs where
  size : Int
  ways : List Wy
def Hs.d (h : Hs) : D := .tup [.int h.size, .tup (h.ways.map Wy.d)]
inductive Tn where
  | word (n : Nat) (v : Int) | start (n : Nat) (v : Int) | share (n : Nat) (v : Int) | fence (n : Nat) (v : Option Int) | kinds (n : Nat) (v : List Int) | keeps (n : Nat) (v : Bool) | back (n : Nat)
def Tn.d : Tn → D
  | .word n v => .tup [.str "word", .int n, .int v]
  | .start n v => .tup [.str "start", .int n, .int v]
  | .share n v => .tup [.str "share", .int n, .int v]
  | .fence n v => .tup [.str "fence", .int n, optD v]
  | .kinds n v => .tup [.str "kinds", .int n, .tup (v.map .int)]
  | .keeps n v => .tup [.str "keeps", .int n, .bl v]
  | .back n => .tup [.str "back", .int n]
def Tn.n : Tn → Nat
  | .word n _ | .start n _ | .share n _ | .fence n _ | .kinds n _ | .keeps n _ | .back n => n
def Tn.upd : Tn → Wy → Wy
  | .word _ v, w => { w with word := v }
  | .start _ v, w => { w with start := v }
  | .share _ v, w => { w with share := v }
  | .fence _ v, w => { w with fence := v }
  | .kinds _ v, w => { w with kinds := v }
  | .keeps _ v, w => { w with keeps := v }
  | .back _, w => w
def turn (h : Hs) (t : Tn) : Hs := match h.ways[t.n]? with
  | some w => { h with ways := h.ways.set t.n (t.upd w) }
  | none => h
def along : Hs → List Tn → List Hs
  | h, [] => [h]
  | h, t :: ts => h :: along (turn h t) ts
def behind (h : Hs) (ts : List Tn) : Hs := ts.foldl turn h
structure Pn where
  kind : Int
  a : Int
  b : Int
def Pn.d (p : Pn) : D := .tup [.int p.kind, .int p.a, .int p.b]
def Pn.at (p : Pn) (word : Int) : Int := if word = 0 then p.a else p.b
def fitsB (size : Int) (w : Wy) (p : Pn) (seen : List Int) : Bool :=
  w.kinds.contains p.kind && decide ((p.at w.word - w.start) % size < w.share) && (match w.fence with | none => true | some f => seen.contains f)
def keptB (w : Wy) (n : Int) (before : List Int) (back : Option Int) : Bool := w.keeps && before.contains n && !(back == some n)
/-- what a person sees: the ways one by one -/
def seenGo (size : Int) (p : Pn) (before : List Int) (back : Option Int) : Nat → List Wy → List Int → List Int
  | _, [], acc => acc
  | i, w :: ws, acc => seenGo size p before back (i + 1) ws (if keptB w i before back || fitsB size w p acc then acc ++ [(i : Int)] else acc)
def seenAt (h : Hs) (p : Pn) (before : List Int) (back : Option Int) : List Int := seenGo h.size p before back 0 h.ways []
def Tn.bk : Tn → Option Int
  | .back n => some n
  | _ => none
/-- the moments behind the first -/
def moments (p : Pn) : List Int → Hs → List Tn → List (List Int)
  | _, _, [] => []
  | last, h, t :: ts => let m := seenAt (turn h t) p last t.bk; m :: moments p m (turn h t) ts
def history (h : Hs) (p : Pn) (ts : List Tn) : List (List Int) := let m := seenAt h p [] none; m :: moments p m h ts
def intsD (l : List Int) : D := .tup (l.map .int)
/-- all lots of kinds -/
def KS7 : List (List Int) := [[0], [1], [2], [0, 1], [0, 2], [1, 2], [0, 1, 2]]
structure GoodW (size : Int) (i : Nat) (w : Wy) : Prop where
  word : w.word = 0 ∨ w.word = 1
  start : 0 ≤ w.start ∧ w.start < size
  share : 0 ≤ w.share ∧ w.share ≤ size
  fence : ∀ f, w.fence = some f → 0 ≤ f ∧ f < i
  kinds : w.kinds ∈ KS7
structure GoodH (h : Hs) : Prop where
  size : 1 ≤ h.size ∧ h.size ≤ 1000000000000000000000000000000
  many : 1 ≤ h.ways.length ∧ h.ways.length ≤ 3
  ways : ∀ i w, h.ways[i]? = some w → GoodW h.size i w
def GoodT (h : Hs) (t : Tn) : Prop := t.n < h.ways.length ∧ ∀ w, GoodW h.size t.n w → GoodW h.size t.n (t.upd w)
theorem GoodH.turn {h : Hs} {t : Tn} (g : GoodH h) (gt : GoodT h t) : GoodH (turn h t) := by
  unfold TS.turn
  cases e : h.ways[t.n]? with
  | none => exact g
  | some w =>
    refine ⟨g.size, by simpa using g.many, fun i v hv => ?_⟩
    simp only [List.getElem?_set] at hv
    by_cases q : t.n = i
    · subst q
      rw [if_pos rfl, if_pos gt.1] at hv
      cases hv
      exact gt.2 w (g.ways _ w e)
    · rw [if_neg q] at hv
      exact g.ways i v hv
theorem GoodT.turn {h : Hs} {t u : Tn} (g : GoodT h u) : GoodT (turn h t) u := by
  unfold TS.turn
  cases e : h.ways[t.n]? with
  | none => exact g
  | some w => exact ⟨by simpa using g.1, g.2⟩
/-! ### words, cuts -/
@[simp] theorem sok_word : PyData.strOk (Str.ofString "word") = true := by decide +kernel
@[simp] theorem sok_start : PyData.strOk (Str.ofString "start") = true := by decide +kernel
@[simp] theorem sok_share : PyData.strOk (Str.ofString "share") = true := by decide +kernel
@[simp] theorem sok_fence : PyData.strOk (Str.ofString "fence") = true := by decide +kernel
@[simp] theorem sok_kinds : PyData.strOk (Str.ofString "kinds") = true := by decide +kernel
@[simp] theorem sok_keeps : PyData.strOk (Str.ofString "keeps") = true := by decide +kernel
@[simp] theorem sb_word : (Str.ofString "word" == Str.ofString "back") = false := by decide +kernel
@[simp] theorem sb_start : (Str.ofString "start" == Str.ofString "back") = false := by decide +kernel
@[simp] theorem sb_share : (Str.ofString "share" == Str.ofString "back") = false := by decide +kernel
@[simp] theorem sb_fence : (Str.ofString "fence" == Str.ofString "back") = false := by decide +kernel
@[simp] theorem sb_kinds : (Str.ofString "kinds" == Str.ofString "back") = false := by decide +kernel
@[simp] theorem sb_keeps : (Str.ofString "keeps" == Str.ofString "back") = false := by decide +kernel
def PLD : List D := [.str "word", .str "start", .str "share", .str "fence", .str "kinds", .str "keeps"]
@[simp] theorem ix_word : ixOf (fun y => eqD y (D.str (Str.ofString "word"))) [.str (Str.ofString "word"), .str (Str.ofString "start"), .str (Str.ofString "share"), .str (Str.ofString "fence"), .str (Str.ofString "kinds"), .str (Str.ofString "keeps")] = some 0 := by decide +kernel
@[simp] theorem ix_start : ixOf (fun y => eqD y (D.str (Str.ofString "start"))) [.str (Str.ofString "word"), .str (Str.ofString "start"), .str (Str.ofString "share"), .str (Str.ofString "fence"), .str (Str.ofString "kinds"), .str (Str.ofString "keeps")] = some 1 := by decide +kernel
@[simp] theorem ix_share : ixOf (fun y => eqD y (D.str (Str.ofString "share"))) [.str (Str.ofString "word"), .str (Str.ofString "start"), .str (Str.ofString "share"), .str (Str.ofString "fence"), .str (Str.ofString "kinds"), .str (Str.ofString "keeps")] = some 2 := by decide +kernel
@[simp] theorem ix_fence : ixOf (fun y => eqD y (D.str (Str.ofString "fence"))) [.str (Str.ofString "word"), .str (Str.ofString "start"), .str (Str.ofString "share"), .str (Str.ofString "fence"), .str (Str.ofString "kinds"), .str (Str.ofString "keeps")] = some 3 := by decide +kernel
@[simp] theorem ix_kinds : ixOf (fun y => eqD y (D.str (Str.ofString "kinds"))) [.str (Str.ofString "word"), .str (Str.ofString "start"), .str (Str.ofString "share"), .str (Str.ofString "fence"), .str (Str.ofString "kinds"), .str (Str.ofString "keeps")] = some 4 := by decide +kernel
@[simp] theorem ix_keeps : ixOf (fun y => eqD y (D.str (Str.ofString "keeps"))) [.str (Str.ofString "word"), .str (Str.ofString "start"), .str (Str.ofString "share"), .str (Str.ofString "fence"), .str (Str.ofString "kinds"), .str (Str.ofString "keeps")] = some 5 := by decide +kernel
theorem cut_hi' {α : Type} {xs : List α} {i : Int} (h : 0 ≤ i) : cut xs none (some i) = xs.take i.toNat := by
  unfold cut HT.sIx
  simp only [Nat.sub_zero, List.drop_zero]
  split
  · omega
  · by_cases k : i.toNat ≤ xs.length
    · rw [Nat.min_eq_left (by omega)] 
    · rw [Nat.min_eq_right (by omega), List.take_of_length_le (Nat.le_refl _), List.take_of_length_le (by omega)]
theorem cut_lo' {α : Type} {xs : List α} {i : Int} (h : 0 ≤ i) : cut xs (some i) none = xs.drop i.toNat := by
  unfold cut HT.sIx
  simp only []
  rw [if_neg (by omega)]
  by_cases k : i.toNat ≤ xs.length
  · rw [Nat.min_eq_left k, List.take_of_length_le (by rw [List.length_drop]; omega)]
  · rw [Nat.min_eq_right (by omega), List.drop_length, List.drop_of_length_le (by omega)]
    simp
@[simp] theorem cut_hi {α : Type} {xs : List α} {n : Nat} : cut xs none (some (n : Int)) = xs.take n := cut_hi' (by omega)
@[simp] theorem cut_lo {α : Type} {xs : List α} {n : Nat} : cut xs (some (n : Int)) none = xs.drop n := cut_lo' (by omega)
@[simp] theorem cut_lo1 {α : Type} {xs : List α} {n : Nat} : cut xs (some ((n : Int) + 1)) none = xs.drop (n + 1) := cut_lo' (by omega)
@[simp] theorem cut_hi1 {α : Type} {xs : List α} {n : Nat} : cut xs none (some ((n : Int) + 1)) = xs.take (n + 1) := cut_hi' (by omega)
@[simp] theorem cut_0 {α : Type} {xs : List α} : cut xs none (some 0) = [] := cut_hi' (by decide)
@[simp] theorem cut_a1 {α : Type} {xs : List α} : cut xs none (some 1) = xs.take 1 := cut_hi' (by decide)
@[simp] theorem cut_a2 {α : Type} {xs : List α} : cut xs none (some 2) = xs.take 2 := cut_hi' (by decide)
@[simp] theorem cut_a3 {α : Type} {xs : List α} : cut xs none (some 3) = xs.take 3 := cut_hi' (by decide)
@[simp] theorem cut_a4 {α : Type} {xs : List α} : cut xs none (some 4) = xs.take 4 := cut_hi' (by decide)
@[simp] theorem cut_a5 {α : Type} {xs : List α} : cut xs none (some 5) = xs.take 5 := cut_hi' (by decide)
@[simp] theorem cut_b1 {α : Type} {xs : List α} : cut xs (some 1) none = xs.drop 1 := cut_lo' (by decide)
@[simp] theorem cut_b2 {α : Type} {xs : List α} : cut xs (some 2) none = xs.drop 2 := cut_lo' (by decide)
@[simp] theorem cut_b3 {α : Type} {xs : List α} : cut xs (some 3) none = xs.drop 3 := cut_lo' (by decide)
@[simp] theorem cut_b4 {α : Type} {xs : List α} : cut xs (some 4) none = xs.drop 4 := cut_lo' (by decide)
@[simp] theorem cut_b5 {α : Type} {xs : List α} : cut xs (some 5) none = xs.drop 5 := cut_lo' (by decide)
@[simp] theorem cut_b6 {α : Type} {xs : List α} : cut xs (some 6) none = xs.drop 6 := cut_lo' (by decide)
theorem set_cut {α : Type} {xs : List α} {n : Nat} {x : α} (h : n < xs.length) : xs.take n ++ (x :: xs.drop (n + 1)) = xs.set n x := by rw [List.set_eq_take_append_cons_drop, if_pos h]
/-! ### what the package's defs give -/
def S_turned : SV
  | [hd, td], Q, _ => ∃ (h : Hs) (t : Tn), hd = h.d ∧ td = t.d ∧ t.n < h.ways.length ∧ h.ways.length ≤ 1000 ∧ Q (turn h t).d
  | _, _, _ => False
abbrev F_turned : FS := FV S_turned
@[simp] theorem S_turned_s {hd td : D} {Q : D → Prop} {E : Exc → Prop} : S_turned [hd, td] Q E = ∃ (h : Hs) (t : Tn), hd = h.d ∧ td = t.d ∧ t.n < h.ways.length ∧ h.ways.length ≤ 1000 ∧ Q (turn h t).d := (rfl)
def S_houses_along : SV
  | [hd, rd], Q, _ => ∃ (h : Hs) (ts : List Tn), hd = h.d ∧ rd = .tup (ts.map Tn.d) ∧ h.ways.length ≤ 1000 ∧ ts.length ≤ 1000 ∧ (∀ t ∈ ts, t.n < h.ways.length) ∧ Q (.lst ((along h ts).map Hs.d))
  | _, _, _ => False
abbrev F_houses_along : FS := FV S_houses_along
@[simp] theorem S_houses_along_s {hd rd : D} {Q : D → Prop} {E : Exc → Prop} : S_houses_along [hd, rd] Q E = ∃ (h : Hs) (ts : List Tn), hd = h.d ∧ rd = .tup (ts.map Tn.d) ∧ h.ways.length ≤ 1000 ∧ ts.length ≤ 1000 ∧ (∀ t ∈ ts, t.n < h.ways.length) ∧ Q (.lst ((along h ts).map Hs.d)) := (rfl)
theorem flat_ints {l : List Int} : (l.map D.int).all flatD = true := by
  rw [List.all_map]
  exact List.all_eq_true.mpr fun _ _ => rfl
theorem any_ints {l : List Int} {k : Int} : ((l.map D.int).any fun y => eqD y (.int k)) = l.contains k := by
  rw [List.any_map]
  induction l with
  | nil => rfl
  | cons a r ih =>
    rw [List.any_cons, ih, List.contains_cons]
    congr 1
    show (a == k) = (k == a)
    exact Bool.beq_comm
@[simp] theorem flat_opt {o : Option Int} : flatD (optD o) = true := by cases o <;> rfl
@[simp] theorem okD_opt {n : Nat} {o : Option Int} : okD n (optD o) = true := by cases o <;> simp [optD]
theorem eqD_opt {n : Int} {o : Option Int} : eqD (.int n) (optD o) = (o == some n) := by
  cases o with
  | none => rfl
  | some m =>
    show (n == m) = (some m == some n)
    simp [Bool.beq_comm]
theorem non_opt {o : Option Int} : isNon (optD o) = o.isNone := by cases o <;> rfl
@[simp] theorem oIx_w5 {w : Wy} {Qd : D → Prop} : oIx w.d (.int 5) Qd = Qd (.bl w.keeps) := by simp [Wy.d]
@[simp] theorem oIx_h0 {h : Hs} {Qd : D → Prop} : oIx h.d (.int 0) Qd = Qd (.int h.size) := by simp [Hs.d]
@[simp] theorem oIx_h1 {h : Hs} {Qd : D → Prop} : oIx h.d (.int 1) Qd = Qd (.tup (h.ways.map Wy.d)) := by simp [Hs.d]
def S_fits : SV
  | [hd, wd, pd', sd], Q, _ => ∃ (h : Hs) (w : Wy) (p : Pn) (sn : List Int), hd = h.d ∧ wd = w.d ∧ pd' = p.d ∧ sd = intsD sn ∧ (w.word = 0 ∨ w.word = 1) ∧ 0 < h.size ∧ Q (.bl (fitsB h.size w p sn))
  | _, _, _ => False
abbrev F_fits : FS := FV S_fits
@[simp] theorem S_fits_s {hd wd pd' sd : D} {Q : D → Prop} {E : Exc → Prop} : S_fits [hd, wd, pd', sd] Q E = ∃ (h : Hs) (w : Wy) (p : Pn) (sn : List Int), hd = h.d ∧ wd = w.d ∧ pd' = p.d ∧ sd = intsD sn ∧ (w.word = 0 ∨ w.word = 1) ∧ 0 < h.size ∧ Q (.bl (fitsB h.size w p sn)) := (rfl)
def S_seen_at : SV
  | [hd, pd', bd, kd], Q, _ => ∃ (h : Hs) (p : Pn) (bf : List Int) (bk : Option Int), hd = h.d ∧ pd' = p.d ∧ bd = intsD bf ∧ kd = optD bk ∧ (∀ w ∈ h.ways, w.word = 0 ∨ w.word = 1) ∧ 0 < h.size ∧ h.ways.length ≤ 1000 ∧ Q (intsD (seenAt h p bf bk))
  | _, _, _ => False
abbrev F_seen_at : FS := FV S_seen_at
@[simp] theorem S_seen_at_s {hd pd' bd kd : D} {Q : D → Prop} {E : Exc → Prop} : S_seen_at [hd, pd', bd, kd] Q E = ∃ (h : Hs) (p : Pn) (bf : List Int) (bk : Option Int), hd = h.d ∧ pd' = p.d ∧ bd = intsD bf ∧ kd = optD bk ∧ (∀ w ∈ h.ways, w.word = 0 ∨ w.word = 1) ∧ 0 < h.size ∧ h.ways.length ≤ 1000 ∧ Q (intsD (seenAt h p bf bk)) := (rfl)
def S_back_of : SV
  | [td], Q, _ => ∃ t : Tn, td = t.d ∧ Q (optD t.bk)
  | _, _, _ => False
abbrev F_back_of : FS := FV S_back_of
@[simp] theorem S_back_of_s {td : D} {Q : D → Prop} {E : Exc → Prop} : S_back_of [td] Q E = ∃ t : Tn, td = t.d ∧ Q (optD t.bk) := (rfl)
/-- what the walk of a house asks of it -/
def SeeOk (h : Hs) : Prop := (∀ w ∈ h.ways, w.word = 0 ∨ w.word = 1) ∧ 0 < h.size ∧ h.ways.length ≤ 1000
def S_history : SV
  | [hd, rd, pd'], Q, _ => ∃ (h : Hs) (ts : List Tn) (p : Pn), hd = .lst ((along h ts).map Hs.d) ∧ rd = .tup (ts.map Tn.d) ∧ pd' = p.d ∧ (∀ g ∈ along h ts, SeeOk g) ∧ ts.length ≤ 1000 ∧ Q (.lst ((history h p ts).map intsD))
  | _, _, _ => False
abbrev F_history : FS := FV S_history
@[simp] theorem S_history_s {hd rd pd' : D} {Q : D → Prop} {E : Exc → Prop} : S_history [hd, rd, pd'] Q E = ∃ (h : Hs) (ts : List Tn) (p : Pn), hd = .lst ((along h ts).map Hs.d) ∧ rd = .tup (ts.map Tn.d) ∧ pd' = p.d ∧ (∀ g ∈ along h ts, SeeOk g) ∧ ts.length ≤ 1000 ∧ Q (.lst ((history h p ts).map intsD)) := (rfl)
theorem along_head (h : Hs) (ts : List Tn) : ∃ r, along h ts = h :: r := by cases ts <;> exact ⟨_, rfl⟩
/-! ### what is drawn is of the kind -/
theorem isWhole_i {i lo hi : Int} : isWhole (.int i) lo hi = true ↔ lo ≤ i ∧ i ≤ hi := by simp [isWhole]
theorem kinds_ok {l : List Int} (h : l ∈ KS7) : (isRising (.tup (l.map .int)) 2 && !eqD (.tup (l.map .int)) (.tup [])) = true := by
  simp only [KS7, List.mem_cons, List.not_mem_nil, or_false] at h
  rcases h with rfl | rfl | rfl | rfl | rfl | rfl | rfl <;> decide +kernel
theorem fence_ok {f : Option Int} {i : Nat} (h : ∀ x, f = some x → 0 ≤ x ∧ x < i) : (isNon (optD f) || isWhole (optD f) 0 ((i : Int) - 1)) = true := by
  cases f with
  | none => rfl
  | some x =>
    have := h x rfl
    simp [optD, isNon, isWhole]
    omega
theorem way_ok {size : Int} {i : Nat} {w : Wy} (g : GoodW size i w) : isWay size i w.d = true := by
  have h1 : isWhole (.int w.word) 0 1 = true := isWhole_i.mpr (by rcases g.word with e | e <;> rw [e] <;> decide)
  have h2 : isWhole (.int w.start) 0 (size - 1) = true := isWhole_i.mpr (by have := g.start; omega)
  have h3 : isWhole (.int w.share) 0 size = true := isWhole_i.mpr g.share
  have h4 := fence_ok g.fence
  have h5 := kinds_ok g.kinds
  unfold isWay Wy.d
  simp only [List.length_cons, List.length_nil, decide_true, Bool.true_and]
  have r : List.range 6 = [0, 1, 2, 3, 4, 5] := rfl
  simp only [Nat.zero_add, Nat.reduceAdd, decide_true, Bool.true_and, r, List.all_cons, List.all_nil, Bool.and_true]
  simp only [atD, List.getD_cons_zero, List.getD_cons_succ]
  simp only [isPart]
  simp [h1, h2, h3, h5, isBl]
  simpa using h4
theorem house_ok {h : Hs} (g : GoodH h) : hasHouse h.d = true := by
  unfold Hs.d
  have h1 : isWhole (.int h.size) 1 MOST = true := isWhole_i.mpr g.size
  show (isWhole (.int h.size) 1 MOST && isTup _ && _ && _ && _) = true
  simp only [h1, isTup_t, tupL, List.length_map, Bool.true_and, Bool.and_eq_true, decide_eq_true_eq, List.all_eq_true]
  refine ⟨⟨g.many.1, g.many.2⟩, fun i hi => ?_⟩
  simp at hi
  have e : atD (h.ways.map Wy.d) i = (h.ways[i]).d := by simp [atD, hi]
  rw [e]
  exact way_ok (g.ways i _ (List.getElem?_eq_getElem hi))
theorem turning_ok {h : Hs} {t : Tn} (g : GoodH h) (gt : GoodT h t) : isTurning h.size h.ways.length t.d = true := by
  obtain ⟨w, gw⟩ : ∃ w, GoodW h.size t.n w := ⟨_, g.ways t.n _ (List.getElem?_eq_getElem gt.1)⟩
  have gu := gt.2 w gw
  have hn := gt.1
  have h1 : isWhole (.int (t.n : Int)) 0 ((h.ways.length : Int) - 1) = true := isWhole_i.mpr (by omega)
  cases t with
  | word n v =>
    show (isWhole (.int (n : Int)) 0 ((h.ways.length : Int) - 1) && isPart h.size n 0 (.int v)) = true
    rw [show isWhole (.int (n : Int)) 0 ((h.ways.length : Int) - 1) = true from h1]
    have := gu.word
    show isWhole (.int v) 0 1 = true
    exact isWhole_i.mpr (by rcases this with e | e <;> (have e' : v = _ := e; omega))
  | start n v =>
    show (isWhole (.int (n : Int)) 0 ((h.ways.length : Int) - 1) && isPart h.size n 1 (.int v)) = true
    rw [show isWhole (.int (n : Int)) 0 ((h.ways.length : Int) - 1) = true from h1]
    have : 0 ≤ v ∧ v < h.size := gu.start
    show isWhole (.int v) 0 (h.size - 1) = true
    exact isWhole_i.mpr (by omega)
  | share n v =>
    show (isWhole (.int (n : Int)) 0 ((h.ways.length : Int) - 1) && isPart h.size n 2 (.int v)) = true
    rw [show isWhole (.int (n : Int)) 0 ((h.ways.length : Int) - 1) = true from h1]
    show isWhole (.int v) 0 h.size = true
    exact isWhole_i.mpr gu.share
  | fence n v =>
    show (isWhole (.int (n : Int)) 0 ((h.ways.length : Int) - 1) && isPart h.size n 3 (optD v)) = true
    rw [show isWhole (.int (n : Int)) 0 ((h.ways.length : Int) - 1) = true from h1]
    exact fence_ok (i := n) gu.fence
  | kinds n v =>
    show (isWhole (.int (n : Int)) 0 ((h.ways.length : Int) - 1) && isPart h.size n 4 (.tup (v.map .int))) = true
    rw [show isWhole (.int (n : Int)) 0 ((h.ways.length : Int) - 1) = true from h1]
    exact kinds_ok gu.kinds
  | keeps n v =>
    show (isWhole (.int (n : Int)) 0 ((h.ways.length : Int) - 1) && isPart h.size n 5 (.bl v)) = true
    rw [show isWhole (.int (n : Int)) 0 ((h.ways.length : Int) - 1) = true from h1]
    rfl
  | back n =>
    show (isWhole (.int (n : Int)) 0 ((h.ways.length : Int) - 1) && true) = true
    rw [show isWhole (.int (n : Int)) 0 ((h.ways.length : Int) - 1) = true from h1]
    rfl
def GoodR (h : Hs) (ts : List Tn) : Prop := ts.length ≤ 6 ∧ ∀ t ∈ ts, GoodT h t
theorem row_ok {h : Hs} {ts : List Tn} (g : GoodH h) (gr : GoodR h ts) : hasRow h.size h.ways.length (.tup (ts.map Tn.d)) = true := by
  unfold hasRow
  simp only [List.length_map, Bool.and_eq_true, decide_eq_true_eq, List.all_eq_true]
  refine ⟨gr.1, fun d hd => ?_⟩
  obtain ⟨t, ht, rfl⟩ := List.mem_map.mp hd
  exact turning_ok g (gr.2 t ht)
/-! plain data -/
theorem pd_ints {l : List Int} (h : l.length ≤ 1000) : pdB 39 (.tup (l.map .int)) = true := by
  simp only [pdB, List.length_map, Bool.and_eq_true, decide_eq_true_eq, List.all_eq_true]
  refine ⟨h, fun d hd => ?_⟩
  obtain ⟨i, _, rfl⟩ := List.mem_map.mp hd
  rfl
theorem kinds_len {l : List Int} (h : l ∈ KS7) : l.length ≤ 1000 := by
  simp only [KS7, List.mem_cons, List.not_mem_nil, or_false] at h
  rcases h with rfl | rfl | rfl | rfl | rfl | rfl | rfl <;> decide
theorem pdB_opt {n : Nat} {o : Option Int} : pdB n (optD o) = true := by cases o <;> cases n <;> rfl
theorem pd_way {w : Wy} (h : w.kinds.length ≤ 1000) : pdB 38 w.d = true := by
  have e : pdB 37 (.tup (w.kinds.map .int)) = true := by
    simp only [pdB, List.length_map, Bool.and_eq_true, decide_eq_true_eq, List.all_eq_true]
    refine ⟨h, fun d hd => ?_⟩
    obtain ⟨i, _, rfl⟩ := List.mem_map.mp hd
    rfl
  show (decide _ && _) = true
  simp only [List.length_cons, List.length_nil, List.all_cons, List.all_nil, e, pdB_opt, Bool.and_true]
  rfl
theorem pd_house {h : Hs} (g : GoodH h) : pd h.d := by
  have e : pdB 39 (.tup (h.ways.map Wy.d)) = true := by
    simp only [pdB, List.length_map, Bool.and_eq_true, decide_eq_true_eq, List.all_eq_true]
    refine ⟨by have := g.many; omega, fun d hd => ?_⟩
    obtain ⟨w, hw, rfl⟩ := List.mem_map.mp hd
    obtain ⟨i, hi, rfl⟩ := List.mem_iff_getElem.mp hw
    exact pd_way (kinds_len (g.ways i _ (List.getElem?_eq_getElem hi)).kinds)
  show (decide _ && _) = true
  simp only [List.length_cons, List.length_nil, List.all_cons, List.all_nil, e, Bool.and_true]
  rfl
theorem pd_tn {t : Tn} (h : ∀ n v, t = .kinds n v → v.length ≤ 1000) : pdB 39 t.d = true := by
  cases t with
  | kinds n v =>
    have e : pdB 38 (.tup (v.map .int)) = true := by
      simp only [pdB, List.length_map, Bool.and_eq_true, decide_eq_true_eq, List.all_eq_true]
      refine ⟨h n v rfl, fun d hd => ?_⟩
      obtain ⟨i, _, rfl⟩ := List.mem_map.mp hd
      rfl
    show (decide _ && _) = true
    simp only [List.all_cons, List.all_nil, e, Bool.and_true]
    simp [pdB]
  | fence n v =>
    show (decide _ && _) = true
    simp only [List.all_cons, List.all_nil, pdB_opt, Bool.and_true]
    simp [pdB]
  | _ => show (decide _ && _) = true; simp only [List.all_cons, List.all_nil, Bool.and_true]; simp [pdB]
theorem GoodH.see {h : Hs} (g : GoodH h) : SeeOk h := ⟨fun w hw => by
  obtain ⟨i, hi, rfl⟩ := List.mem_iff_getElem.mp hw
  exact (g.ways i _ (List.getElem?_eq_getElem hi)).word, by have := g.size; omega, by have := g.many; omega⟩
theorem along_good : ∀ {ts : List Tn} {h : Hs}, GoodH h → (∀ t ∈ ts, GoodT h t) → ∀ k ∈ along h ts, GoodH k
  | [], h, g, _, k, hk => by
    simp only [along, List.mem_singleton] at hk
    rw [hk]
    exact g
  | t :: ts, h, g, gt, k, hk => by
    simp only [along, List.mem_cons] at hk
    rcases hk with rfl | hk
    · exact g
    · exact along_good (g.turn (gt t List.mem_cons_self)) (fun u hu => (gt u (List.mem_cons_of_mem _ hu)).turn) k hk
theorem along_last : ∀ (ts : List Tn) (h : Hs), (along h ts).getLast? = some (behind h ts)
  | [], h => rfl
  | t :: ts, h => by
    obtain ⟨r, e⟩ := along_head (turn h t) ts
    have ih := along_last ts (turn h t)
    rw [e] at ih
    show (h :: along (turn h t) ts).getLast? = some (behind (turn h t) ts)
    rw [e, List.getLast?_cons_cons]
    exact ih
def S_seen : SV
  | [hd, rd, pe], Q, E => ∃ h : Hs, hd = h.d ∧ GoodH h ∧ ((pd rd ∧ hasRow h.size h.ways.length rd = false ∧ E ⟨"InvalidRow", none⟩) ∨
      ∃ ts : List Tn, rd = .tup (ts.map Tn.d) ∧ pd rd ∧ GoodR h ts ∧ pd pe ∧ ((hasPerson h.size pe = false ∧ E ⟨"InvalidPerson", none⟩) ∨ ∃ p : Pn, pe = p.d ∧ hasPerson h.size pe = true ∧ Q (.tup ((history h p ts).map intsD))))
  | _, _, _ => False
abbrev F_seen : FS := FV S_seen
@[simp] theorem S_seen_s {hd rd pe : D} {Q : D → Prop} {E : Exc → Prop} : S_seen [hd, rd, pe] Q E = ∃ h : Hs, hd = h.d ∧ GoodH h ∧ ((pd rd ∧ hasRow h.size h.ways.length rd = false ∧ E ⟨"InvalidRow", none⟩) ∨
      ∃ ts : List Tn, rd = .tup (ts.map Tn.d) ∧ pd rd ∧ GoodR h ts ∧ pd pe ∧ ((hasPerson h.size pe = false ∧ E ⟨"InvalidPerson", none⟩) ∨ ∃ p : Pn, pe = p.d ∧ hasPerson h.size pe = true ∧ Q (.tup ((history h p ts).map intsD)))) := rfl
def S_house_behind : SV
  | [hd, rd], Q, E => ∃ h : Hs, hd = h.d ∧ GoodH h ∧ ((pd rd ∧ hasRow h.size h.ways.length rd = false ∧ E ⟨"InvalidRow", none⟩) ∨ ∃ ts : List Tn, rd = .tup (ts.map Tn.d) ∧ pd rd ∧ GoodR h ts ∧ Q (behind h ts).d)
  | _, _, _ => False
abbrev F_house_behind : FS := FV S_house_behind
@[simp] theorem S_house_behind_s {hd rd : D} {Q : D → Prop} {E : Exc → Prop} : S_house_behind [hd, rd] Q E = ∃ h : Hs, hd = h.d ∧ GoodH h ∧ ((pd rd ∧ hasRow h.size h.ways.length rd = false ∧ E ⟨"InvalidRow", none⟩) ∨ ∃ ts : List Tn, rd = .tup (ts.map Tn.d) ∧ pd rd ∧ GoodR h ts ∧ Q (behind h ts).d) := (rfl)
/-! ### the law's own defs -/
def PLD' : D := .lst [.str (Str.ofString "word"), .str (Str.ofString "start"), .str (Str.ofString "share"), .str (Str.ofString "fence"), .str (Str.ofString "kinds"), .str (Str.ofString "keeps")]
def S_law_part_names : SV
  | [], Q, _ => Q PLD'
  | _, _, _ => False
abbrev F_law_part_names : FS := FV S_law_part_names
@[simp] theorem S_law_part_names_s {Q : D → Prop} {E : Exc → Prop} : S_law_part_names [] Q E = Q PLD' := (rfl)
abbrev F_law_turned : FS := FV S_turned
def S_law_behind : SV
  | [hd, rd], Q, _ => ∃ (h : Hs) (ts : List Tn), hd = h.d ∧ rd = .tup (ts.map Tn.d) ∧ h.ways.length ≤ 1000 ∧ (∀ t ∈ ts, t.n < h.ways.length) ∧ Q (behind h ts).d
  | _, _, _ => False
abbrev F_law_behind : FS := FV S_law_behind
@[simp] theorem S_law_behind_s {hd rd : D} {Q : D → Prop} {E : Exc → Prop} : S_law_behind [hd, rd] Q E = ∃ (h : Hs) (ts : List Tn), hd = h.d ∧ rd = .tup (ts.map Tn.d) ∧ h.ways.length ≤ 1000 ∧ (∀ t ∈ ts, t.n < h.ways.length) ∧ Q (behind h ts).d := (rfl)
def hasB (size start share number : Int) : Bool := decide (start ≤ number) && decide (number < start + share) || decide (start ≤ number + size) && decide (number + size < start + share)
def S_law_has : SV
  | [.int sz, .int st, .int sh, .int nu], Q, _ => Q (.bl (hasB sz st sh nu))
  | _, _, _ => False
abbrev F_law_has : FS := FV S_law_has
@[simp] theorem S_law_has_s {size start share number : Int} {Q : D → Prop} {E : Exc → Prop} : S_law_has [.int size, .int start, .int share, .int number] Q E = Q (.bl (hasB size start share number)) := (rfl)
theorem has_mod {size start share number : Int} (h1 : 0 ≤ start ∧ start < size) (h2 : 0 ≤ share ∧ share ≤ size) (h3 : 0 ≤ number ∧ number < size) : hasB size start share number = decide ((number - start) % size < share) := by
  by_cases q : start ≤ number
  · have e : (number - start) % size = number - start := Int.emod_eq_of_lt (by omega) (by omega)
    rw [e]
    unfold hasB
    rw [Bool.eq_iff_iff]
    simp
    omega
  · have e : (number - start) % size = number - start + size := by
      rw [← Int.add_emod_right, Int.emod_eq_of_lt (by omega) (by omega)]
    rw [e]
    unfold hasB
    rw [Bool.eq_iff_iff]
    simp
    omega
@[simp] theorem ixN_n {n i : Nat} : ixN n (i : Int) = if i < n then some i else none := by
  unfold ixN
  by_cases h : i < n
  · rw [if_pos (by omega), if_pos (by omega), if_pos h]
    rfl
  · rw [if_pos (by omega), if_neg (by omega), if_neg h]
@[simp] theorem ixN_0 {n : Nat} : ixN (n + 1) 0 = some 0 := by
  have := ixN_n (n := n + 1) (i := 0)
  simpa using this
structure NowOk (h : Hs) (p : Pn) : Prop where
  ways : ∀ w ∈ h.ways, (w.word = 0 ∨ w.word = 1) ∧ (0 ≤ w.start ∧ w.start < h.size) ∧ 0 ≤ w.share ∧ w.share ≤ h.size
  len : h.ways.length ≤ 1000
  a : 0 ≤ p.a ∧ p.a < h.size
  b : 0 ≤ p.b ∧ p.b < h.size
def S_law_now : SV
  | [hd, pe, bd, kd], Q, _ => ∃ (h : Hs) (p : Pn) (bf : List Int) (bk : Option Int), hd = h.d ∧ pe = p.d ∧ bd = intsD bf ∧ kd = optD bk ∧ NowOk h p ∧ Q (intsD (seenAt h p bf bk))
  | _, _, _ => False
abbrev F_law_now : FS := FV S_law_now
@[simp] theorem S_law_now_s {hd pe bd kd : D} {Q : D → Prop} {E : Exc → Prop} : S_law_now [hd, pe, bd, kd] Q E = ∃ (h : Hs) (p : Pn) (bf : List Int) (bk : Option Int), hd = h.d ∧ pe = p.d ∧ bd = intsD bf ∧ kd = optD bk ∧ NowOk h p ∧ Q (intsD (seenAt h p bf bk)) := (rfl)
def S_law_seen : SV
  | [hd, rd, pe], Q, _ => ∃ (h : Hs) (ts : List Tn) (p : Pn), hd = h.d ∧ rd = .tup (ts.map Tn.d) ∧ pe = p.d ∧ (∀ k ∈ along h ts, NowOk k p) ∧ (∀ t ∈ ts, t.n < h.ways.length) ∧ ts.length ≤ 1000 ∧ Q (.tup ((history h p ts).map intsD))
  | _, _, _ => False
abbrev F_law_seen : FS := FV S_law_seen
@[simp] theorem S_law_seen_s {hd rd pe : D} {Q : D → Prop} {E : Exc → Prop} : S_law_seen [hd, rd, pe] Q E = ∃ (h : Hs) (ts : List Tn) (p : Pn), hd = h.d ∧ rd = .tup (ts.map Tn.d) ∧ pe = p.d ∧ (∀ k ∈ along h ts, NowOk k p) ∧ (∀ t ∈ ts, t.n < h.ways.length) ∧ ts.length ≤ 1000 ∧ Q (.tup ((history h p ts).map intsD)) := (rfl)
end TS
set_option Elab.async false
set_option linter.all false
set_option maxRecDepth 100000
set_option maxHeartbeats 1000000
set_option exponentiation.threshold 10000
namespace TS
open PySem PySem.Spec PyProof.Rows L2
/-! # laws of defs that draw from a list lent to them -/
abbrev SB := List D → List D → (D → Sl → Prop) → (Exc → Sl → Prop) → Prop
def FB (S : SB) : FS := fun as Q E => ∃ m ds, as = .brw m :: vals ds ∧ S m ds (fun d s => Q d (s :: vals ds)) (fun x s => E x (s :: vals ds))
theorem FB_s {S : SB} {m ds : List D} {Q : D → List Sl → Prop} {E : EQ} : FB S (.brw m :: vals ds) Q E = S m ds (fun d s => Q d (s :: vals ds)) (fun x s => E x (s :: vals ds)) := by
  apply propext
  constructor
  · rintro ⟨m1, ds1, e, h⟩
    injection e with e1 e2
    injection e1 with e1
    have e3 := vals_inj e2
    subst e1 e3
    exact h
  · exact fun h => ⟨m, ds, rfl, h⟩
theorem exit_brw {m : List D} {ds : List D} {ρ : Rho} : exitR (.brw m :: vals ds) ρ = slAt ρ 0 :: vals ds := by
  apply List.ext_getElem?
  intro i
  unfold exitR vals
  rw [List.getElem?_mapIdx]
  cases i with
  | zero => rfl
  | succ i =>
    simp only [List.getElem?_cons_succ, List.getElem?_map]
    cases ds[i]? <;> rfl
theorem noOwn_brw {m ds : List D} : NoOwn (.brw m :: vals ds) := fun i xs e => by
  cases i with
  | zero => cases e
  | succ i => exact noOwn_vals i xs e
theorem Body.b {t : DS} {n m : Nat} {S : SB} (h : ∀ b ds Q E, S b ds Q E → ds.length + 1 = m ∧ t { nx := fun ρ => Q .non (slAt ρ 0), rt := fun d ρ => Q d (slAt ρ 0) } (fun x ρ => E x (slAt ρ 0)) (entR (.brw b :: vals ds) n)) : Body t n m (FB S) := by
  rintro as Qd Ed ⟨b, ds, rfl, hS⟩
  obtain ⟨h1, h2⟩ := h b ds _ _ hS
  refine ⟨by unfold vals; rw [List.length_cons, List.length_map]; exact h1, noOwn_brw, ?_⟩
  simp only [exit_brw]
  exact h2
theorem cons_brw {m m' : List D} {r : List Sl} : (Sl.brw m :: r = .brw m' :: r) ↔ m = m' := ⟨fun e => by injection e with e; injection e, fun e => by rw [e]⟩
@[simp] theorem dCallR_b {n : Nat} {S : SB} {i : Nat} {t : DA} {ρ : Rho} {Q : D → Rho → Prop} {E : EQ} : dCallR n (FB S) i t ρ Q E = ((∃ ds0, heldAt ρ i = some ds0) ∧ t ρ (fun ds ρ1 => ds.length + 1 = n ∧ ∃ m, heldAt ρ1 i = some m ∧
    S m ds (fun d s => ∃ m', s = .brw m' ∧ Q d (putAt ρ1 i m')) (fun x s => ∃ m', s = .brw m' ∧ E x (putAt ρ1 i m'))) E) := by
  rw [dCallR_s]
  simp only [FB_s, List.cons.injEq, and_true]
@[simp] theorem FB_0 {S : SB} {m : List D} {Q : D → List Sl → Prop} {E : EQ} : FB S [.brw m] Q E = S m [] (fun d s => Q d [s]) (fun x s => E x [s]) := FB_s (ds := [])
@[simp] theorem FB_1 {S : SB} {m : List D} {d1 : D} {Q : D → List Sl → Prop} {E : EQ} : FB S [.brw m, .val d1] Q E = S m [d1] (fun d s => Q d [s, .val d1]) (fun x s => E x [s, .val d1]) := FB_s (ds := [d1])
@[simp] theorem FB_2 {S : SB} {m : List D} {d1 d2 : D} {Q : D → List Sl → Prop} {E : EQ} : FB S [.brw m, .val d1, .val d2] Q E = S m [d1, d2] (fun d s => Q d [s, .val d1, .val d2]) (fun x s => E x [s, .val d1, .val d2]) := FB_s (ds := [d1, d2])
/-! ### drawing -/
/-- a vat that can be drawn from -/
def Vat (m : List D) : Prop := ∃ a b : Int, m = [.int a, .int b] ∧ 0 ≤ a ∧ 0 ≤ b
def S_law_under : SB
  | m, [.int many], Q, _ => Vat m ∧ (0 < many ∧ many ≤ 10000000000000000000000000000000000000000) ∧ ∀ (r : Int) m', 0 ≤ r → r < many → Vat m' → Q (.int r) (.brw m')
  | _, _, _, _ => False
abbrev F_law_under : FS := FB S_law_under
@[simp] theorem S_law_under_s {m : List D} {many : Int} {Q : D → Sl → Prop} {E : Exc → Sl → Prop} : S_law_under m [.int many] Q E = (Vat m ∧ (0 < many ∧ many ≤ 10000000000000000000000000000000000000000) ∧ ∀ (r : Int) m', 0 ≤ r → r < many → Vat m' → Q (.int r) (.brw m')) := (rfl)
def S_law_some : SB
  | m, [.lst xs], Q, _ => Vat m ∧ (xs ≠ [] ∧ xs.length ≤ 1000) ∧ ∀ x ∈ xs, ∀ m', Vat m' → Q x (.brw m')
  | _, _, _, _ => False
abbrev F_law_some : FS := FB S_law_some
@[simp] theorem S_law_some_s {m xs : List D} {Q : D → Sl → Prop} {E : Exc → Sl → Prop} : S_law_some m [.lst xs] Q E = (Vat m ∧ (xs ≠ [] ∧ xs.length ≤ 1000) ∧ ∀ x ∈ xs, ∀ m', Vat m' → Q x (.brw m')) := (rfl)
def kindSets : List (List Int) := [[0, 1, 2], [0], [1], [0, 2], [1, 2]]
theorem kindSets_sub {k : List Int} (h : k ∈ kindSets) : k ∈ KS7 := by
  simp only [kindSets, List.mem_cons, List.not_mem_nil, or_false] at h
  rcases h with rfl | rfl | rfl | rfl | rfl <;> decide
def S_law_kinds : SB
  | m, [], Q, _ => Vat m ∧ ∀ k ∈ kindSets, ∀ m', Vat m' → Q (.tup (k.map .int)) (.brw m')
  | _, _, _, _ => False
abbrev F_law_kinds : FS := FB S_law_kinds
@[simp] theorem S_law_kinds_s {m : List D} {Q : D → Sl → Prop} {E : Exc → Sl → Prop} : S_law_kinds m [] Q E = (Vat m ∧ ∀ k ∈ kindSets, ∀ m', Vat m' → Q (.tup (k.map .int)) (.brw m')) := (rfl)
def S_law_house : SB
  | m, [.int most], Q, _ => Vat m ∧ (1 ≤ most ∧ most ≤ 1000000000000000000000000000000) ∧ ∀ h : Hs, GoodH h → h.size ≤ most → ∀ m', Vat m' → Q h.d (.brw m')
  | _, _, _, _ => False
abbrev F_law_house : FS := FB S_law_house
@[simp] theorem S_law_house_s {m : List D} {most : Int} {Q : D → Sl → Prop} {E : Exc → Sl → Prop} : S_law_house m [.int most] Q E = (Vat m ∧ (1 ≤ most ∧ most ≤ 1000000000000000000000000000000) ∧ ∀ h : Hs, GoodH h → h.size ≤ most → ∀ m', Vat m' → Q h.d (.brw m')) := (rfl)
def S_law_turning : SB
  | m, [hd], Q, _ => ∃ h : Hs, hd = h.d ∧ GoodH h ∧ h.size ≤ 1000000000000000000000000000000 ∧ Vat m ∧ ∀ t, GoodT h t → ∀ m', Vat m' → Q t.d (.brw m')
  | _, _, _, _ => False
abbrev F_law_turning : FS := FB S_law_turning
@[simp] theorem S_law_turning_s {m : List D} {hd : D} {Q : D → Sl → Prop} {E : Exc → Sl → Prop} : S_law_turning m [hd] Q E = ∃ h : Hs, hd = h.d ∧ GoodH h ∧ h.size ≤ 1000000000000000000000000000000 ∧ Vat m ∧ ∀ t, GoodT h t → ∀ m', Vat m' → Q t.d (.brw m') := (rfl)
def S_law_row : SB
  | m, [hd, .int most], Q, _ => ∃ h : Hs, hd = h.d ∧ GoodH h ∧ h.size ≤ 1000000000000000000000000000000 ∧ Vat m ∧ (0 ≤ most ∧ most ≤ 100) ∧ ∀ ts : List Tn, (ts.length : Int) ≤ most → (∀ t ∈ ts, GoodT h t) → ∀ m', Vat m' → Q (.tup (ts.map Tn.d)) (.brw m')
  | _, _, _, _ => False
abbrev F_law_row : FS := FB S_law_row
@[simp] theorem S_law_row_s {m : List D} {hd : D} {most : Int} {Q : D → Sl → Prop} {E : Exc → Sl → Prop} : S_law_row m [hd, .int most] Q E = ∃ h : Hs, hd = h.d ∧ GoodH h ∧ h.size ≤ 1000000000000000000000000000000 ∧ Vat m ∧ (0 ≤ most ∧ most ≤ 100) ∧ ∀ ts : List Tn, (ts.length : Int) ≤ most → (∀ t ∈ ts, GoodT h t) → ∀ m', Vat m' → Q (.tup (ts.map Tn.d)) (.brw m') := (rfl)
end TS
set_option Elab.async false
set_option linter.all false
set_option maxRecDepth 100000
set_option maxHeartbeats 1000000
set_option exponentiation.threshold 10000
/-! readings are monotone: invariants of loops and comprehensions -/
namespace TS
open PySem PySem.Spec PyProof.Rows L2
class MO (f : O2) : Prop where
  m : ∀ (x y : D) (Q Q' : D → Prop), (∀ d, Q d → Q' d) → f x y Q → f x y Q'
class MC (f : OC) : Prop where
  m : ∀ (xs : List D) (Q Q' : D → Prop), (∀ d, Q d → Q' d) → f xs Q → f xs Q'
class MU (f : D → (D → Prop) → Prop) : Prop where
  m : ∀ (x : D) (Q Q' : D → Prop), (∀ d, Q d → Q' d) → f x Q → f x Q'
class MF (F : FS) : Prop where
  m : ∀ (as : List Sl) (Q Q' : D → List Sl → Prop) (E E' : EQ), (∀ d s, Q d s → Q' d s) → (∀ x s, E x s → E' x s) → F as Q E → F as Q' E'
class MSV (S : SV) : Prop where
  m : ∀ (ds : List D) (Q Q' : D → Prop) (E E' : Exc → Prop), (∀ d, Q d → Q' d) → (∀ x, E x → E' x) → S ds Q E → S ds Q' E'
class MSB (S : SB) : Prop where
  m : ∀ (b ds : List D) (Q Q' : D → Sl → Prop) (E E' : Exc → Sl → Prop), (∀ d s, Q d s → Q' d s) → (∀ x s, E x s → E' x s) → S b ds Q E → S b ds Q' E'
class ME (t : DE) : Prop where
  m : ∀ (ρ : Rho) (Q Q' : D → Rho → Prop) (E E' : EQ), (∀ d s, Q d s → Q' d s) → (∀ x s, E x s → E' x s) → t ρ Q E → t ρ Q' E'
class MT (t : DT) : Prop where
  m : ∀ (ρ : Rho) (Q Q' : Bool → Rho → Prop) (E E' : EQ), (∀ d s, Q d s → Q' d s) → (∀ x s, E x s → E' x s) → t ρ Q E → t ρ Q' E'
class MA (t : DA) : Prop where
  m : ∀ (ρ : Rho) (Q Q' : List D → Rho → Prop) (E E' : EQ), (∀ d s, Q d s → Q' d s) → (∀ x s, E x s → E' x s) → t ρ Q E → t ρ Q' E'
class MOp (t : DO) : Prop where
  m : ∀ (ρ : Rho) (Q Q' : Option Int → Rho → Prop) (E E' : EQ), (∀ d s, Q d s → Q' d s) → (∀ x s, E x s → E' x s) → t ρ Q E → t ρ Q' E'
class MG (g : DG) : Prop where
  m : ∀ (d : D) (ρ : Rho) (Q Q' : Rho → Prop), (∀ s, Q s → Q' s) → g d ρ Q → g d ρ Q'
class MGs (g : DGs) : Prop where
  m : ∀ (d : List D) (ρ : Rho) (Q Q' : Rho → Prop), (∀ s, Q s → Q' s) → g d ρ Q → g d ρ Q'
structure BLe (B B' : DEnds) : Prop where
  nx : ∀ s, B.nx s → B'.nx s
  rt : ∀ d s, B.rt d s → B'.rt d s
  bk : ∀ s, B.bk s → B'.bk s
  ct : ∀ s, B.ct s → B'.ct s
class MS (t : DS) : Prop where
  m : ∀ (B B' : DEnds) (E E' : EQ) (ρ : Rho), BLe B B' → (∀ x s, E x s → E' x s) → t B E ρ → t B' E' ρ
/-- same exceptions -/
abbrev idE {E : EQ} : ∀ x s, E x s → E x s := fun _ _ h => h
/-! ### operators -/
instance {C : Int → Int → Prop} {g : Int → Int → D} : MO (oInt C g) := ⟨by (intro x y Q Q' hq h; cases x <;> cases y <;> first | exact h.elim | exact hq _ h | exact ⟨h.1, hq _ h.2⟩ | (obtain ⟨d, h1, h2⟩ := h; exact ⟨d, h1, hq _ h2⟩) | (obtain ⟨d, h1, h3, h2⟩ := h; exact ⟨d, h1, h3, hq _ h2⟩))⟩
instance : MO oAdd := ⟨by (intro x y Q Q' hq h; cases x <;> cases y <;> first | exact h.elim | exact hq _ h | exact ⟨h.1, hq _ h.2⟩ | (obtain ⟨d, h1, h2⟩ := h; exact ⟨d, h1, hq _ h2⟩) | (obtain ⟨d, h1, h3, h2⟩ := h; exact ⟨d, h1, h3, hq _ h2⟩))⟩
instance : MO oSub := inferInstanceAs (MO (oInt _ _))
instance : MO oMulI := inferInstanceAs (MO (oInt _ _))
instance : MO oMod := inferInstanceAs (MO (oInt _ _))
instance : MO oDiv := inferInstanceAs (MO (oInt _ _))
instance : MO oPow := inferInstanceAs (MO (oInt _ _))
instance : MO oLt := inferInstanceAs (MO (oInt _ _))
instance : MO oLe := inferInstanceAs (MO (oInt _ _))
instance : MO oGt := inferInstanceAs (MO (oInt _ _))
instance : MO oGe := inferInstanceAs (MO (oInt _ _))
instance : MO oEq := ⟨fun x y Q Q' hq h => ⟨h.1, hq _ h.2⟩⟩
instance : MO oNe := ⟨fun x y Q Q' hq h => ⟨h.1, hq _ h.2⟩⟩
instance : MO oIsN := ⟨by (intro x y Q Q' hq h; cases x <;> cases y <;> first | exact h.elim | exact hq _ h | exact ⟨h.1, hq _ h.2⟩ | (obtain ⟨d, h1, h2⟩ := h; exact ⟨d, h1, hq _ h2⟩) | (obtain ⟨d, h1, h3, h2⟩ := h; exact ⟨d, h1, h3, hq _ h2⟩))⟩
instance : MO oNotN := ⟨by (intro x y Q Q' hq h; cases x <;> cases y <;> first | exact h.elim | exact hq _ h | exact ⟨h.1, hq _ h.2⟩ | (obtain ⟨d, h1, h2⟩ := h; exact ⟨d, h1, hq _ h2⟩) | (obtain ⟨d, h1, h3, h2⟩ := h; exact ⟨d, h1, h3, hq _ h2⟩))⟩
instance : MO oIn := ⟨by (intro x y Q Q' hq h; cases x <;> cases y <;> first | exact h.elim | exact hq _ h | exact ⟨h.1, hq _ h.2⟩ | (obtain ⟨d, h1, h2⟩ := h; exact ⟨d, h1, hq _ h2⟩) | (obtain ⟨d, h1, h3, h2⟩ := h; exact ⟨d, h1, h3, hq _ h2⟩))⟩
instance : MO oNotIn := ⟨by (intro x y Q Q' hq h; cases x <;> cases y <;> first | exact h.elim | exact hq _ h | exact ⟨h.1, hq _ h.2⟩ | (obtain ⟨d, h1, h2⟩ := h; exact ⟨d, h1, hq _ h2⟩) | (obtain ⟨d, h1, h3, h2⟩ := h; exact ⟨d, h1, h3, hq _ h2⟩))⟩
instance : MO oInL := ⟨by (intro x y Q Q' hq h; cases x <;> cases y <;> first | exact h.elim | exact hq _ h | exact ⟨h.1, hq _ h.2⟩ | (obtain ⟨d, h1, h2⟩ := h; exact ⟨d, h1, hq _ h2⟩) | (obtain ⟨d, h1, h3, h2⟩ := h; exact ⟨d, h1, h3, hq _ h2⟩))⟩
instance : MO oNotInL := ⟨by (intro x y Q Q' hq h; cases x <;> cases y <;> first | exact h.elim | exact hq _ h | exact ⟨h.1, hq _ h.2⟩ | (obtain ⟨d, h1, h2⟩ := h; exact ⟨d, h1, hq _ h2⟩) | (obtain ⟨d, h1, h3, h2⟩ := h; exact ⟨d, h1, h3, hq _ h2⟩))⟩
instance : MO oIx := ⟨by (intro x y Q Q' hq h; cases x <;> cases y <;> first | exact h.elim | exact hq _ h | exact ⟨h.1, hq _ h.2⟩ | (obtain ⟨d, h1, h2⟩ := h; exact ⟨d, h1, hq _ h2⟩) | (obtain ⟨d, h1, h3, h2⟩ := h; exact ⟨d, h1, h3, hq _ h2⟩))⟩
instance : MO oRep := ⟨by (intro x y Q Q' hq h; cases x <;> cases y <;> first | exact h.elim | exact hq _ h | exact ⟨h.1, hq _ h.2⟩ | (obtain ⟨d, h1, h2⟩ := h; exact ⟨d, h1, hq _ h2⟩) | (obtain ⟨d, h1, h3, h2⟩ := h; exact ⟨d, h1, h3, hq _ h2⟩))⟩
instance : MU oNeg := ⟨fun x Q Q' hq h => by cases x <;> first | exact h.elim | exact hq _ h⟩
instance : MC fLen := ⟨by (intro xs Q Q' hq h; revert h; (first | unfold fLen | unfold fInt | unfold fAbs | unfold fMax2 | unfold fMin2 | unfold fStrI | unfold fTuple | unfold fList | unfold fSum | unfold fIsi); split <;> intro h <;> first | exact h.elim | exact hq _ h | exact ⟨h.1, hq _ h.2⟩ | (obtain ⟨d, h1, h2⟩ := h; exact ⟨d, h1, hq _ h2⟩))⟩
instance : MC fInt := ⟨by (intro xs Q Q' hq h; revert h; (first | unfold fLen | unfold fInt | unfold fAbs | unfold fMax2 | unfold fMin2 | unfold fStrI | unfold fTuple | unfold fList | unfold fSum | unfold fIsi); split <;> intro h <;> first | exact h.elim | exact hq _ h | exact ⟨h.1, hq _ h.2⟩ | (obtain ⟨d, h1, h2⟩ := h; exact ⟨d, h1, hq _ h2⟩))⟩
instance : MC fAbs := ⟨by (intro xs Q Q' hq h; revert h; (first | unfold fLen | unfold fInt | unfold fAbs | unfold fMax2 | unfold fMin2 | unfold fStrI | unfold fTuple | unfold fList | unfold fSum | unfold fIsi); split <;> intro h <;> first | exact h.elim | exact hq _ h | exact ⟨h.1, hq _ h.2⟩ | (obtain ⟨d, h1, h2⟩ := h; exact ⟨d, h1, hq _ h2⟩))⟩
instance : MC fMax2 := ⟨by (intro xs Q Q' hq h; revert h; (first | unfold fLen | unfold fInt | unfold fAbs | unfold fMax2 | unfold fMin2 | unfold fStrI | unfold fTuple | unfold fList | unfold fSum | unfold fIsi); split <;> intro h <;> first | exact h.elim | exact hq _ h | exact ⟨h.1, hq _ h.2⟩ | (obtain ⟨d, h1, h2⟩ := h; exact ⟨d, h1, hq _ h2⟩))⟩
instance : MC fMin2 := ⟨by (intro xs Q Q' hq h; revert h; (first | unfold fLen | unfold fInt | unfold fAbs | unfold fMax2 | unfold fMin2 | unfold fStrI | unfold fTuple | unfold fList | unfold fSum | unfold fIsi); split <;> intro h <;> first | exact h.elim | exact hq _ h | exact ⟨h.1, hq _ h.2⟩ | (obtain ⟨d, h1, h2⟩ := h; exact ⟨d, h1, hq _ h2⟩))⟩
instance : MC fStrI := ⟨by (intro xs Q Q' hq h; revert h; (first | unfold fLen | unfold fInt | unfold fAbs | unfold fMax2 | unfold fMin2 | unfold fStrI | unfold fTuple | unfold fList | unfold fSum | unfold fIsi); split <;> intro h <;> first | exact h.elim | exact hq _ h | exact ⟨h.1, hq _ h.2⟩ | (obtain ⟨d, h1, h2⟩ := h; exact ⟨d, h1, hq _ h2⟩))⟩
instance : MC fTuple := ⟨by (intro xs Q Q' hq h; revert h; (first | unfold fLen | unfold fInt | unfold fAbs | unfold fMax2 | unfold fMin2 | unfold fStrI | unfold fTuple | unfold fList | unfold fSum | unfold fIsi); split <;> intro h <;> first | exact h.elim | exact hq _ h | exact ⟨h.1, hq _ h.2⟩ | (obtain ⟨d, h1, h2⟩ := h; exact ⟨d, h1, hq _ h2⟩))⟩
instance : MC fList := ⟨by (intro xs Q Q' hq h; revert h; (first | unfold fLen | unfold fInt | unfold fAbs | unfold fMax2 | unfold fMin2 | unfold fStrI | unfold fTuple | unfold fList | unfold fSum | unfold fIsi); split <;> intro h <;> first | exact h.elim | exact hq _ h | exact ⟨h.1, hq _ h.2⟩ | (obtain ⟨d, h1, h2⟩ := h; exact ⟨d, h1, hq _ h2⟩))⟩
instance : MC fSum := ⟨by (intro xs Q Q' hq h; revert h; (first | unfold fLen | unfold fInt | unfold fAbs | unfold fMax2 | unfold fMin2 | unfold fStrI | unfold fTuple | unfold fList | unfold fSum | unfold fIsi); split <;> intro h <;> first | exact h.elim | exact hq _ h | exact ⟨h.1, hq _ h.2⟩ | (obtain ⟨d, h1, h2⟩ := h; exact ⟨d, h1, hq _ h2⟩))⟩
instance : MC fIsi := ⟨by (intro xs Q Q' hq h; revert h; (first | unfold fLen | unfold fInt | unfold fAbs | unfold fMax2 | unfold fMin2 | unfold fStrI | unfold fTuple | unfold fList | unfold fSum | unfold fIsi); split <;> intro h <;> first | exact h.elim | exact hq _ h | exact ⟨h.1, hq _ h.2⟩ | (obtain ⟨d, h1, h2⟩ := h; exact ⟨d, h1, hq _ h2⟩))⟩
instance {S : SV} [M : MSV S] : MF (FV S) := ⟨fun as Q Q' E E' hq hx ⟨ds, e, h⟩ => ⟨ds, e, M.m ds _ _ _ _ (fun d => hq d as) (fun x => hx x as) h⟩⟩
instance {S : SB} [M : MSB S] : MF (FB S) := ⟨fun as Q Q' E E' hq hx ⟨m, ds, e, h⟩ => ⟨m, ds, e, M.m m ds _ _ _ _ (fun d s => hq d _) (fun x s => hx x _) h⟩⟩
/-! ### expressions -/
instance {i : Nat} : ME (dVar i) := ⟨fun ρ Q Q' E E' hq hx h => by
  rw [dVar_s] at h ⊢
  cases e : slAt ρ i <;> rw [e] at h <;> first | exact h.elim | exact hq _ _ h⟩
instance {d : D} : ME (dC d) := ⟨fun ρ Q Q' E E' hq hx h => hq _ _ h⟩
instance : MA aNil := ⟨fun ρ Q Q' E E' hq hx h => hq _ _ h⟩
instance {t : DE} {u : DA} [M : ME t] [N : MA u] : MA (aCons t u) := ⟨fun ρ Q Q' E E' hq hx h => M.m ρ _ _ _ _ (fun d s => N.m s _ _ _ _ (fun ds s => hq _ s) hx) hx h⟩
instance {t : DA} [M : MA t] : ME (dTupL t) := ⟨fun ρ Q Q' E E' hq hx h => M.m ρ _ _ _ _ (fun d s h => ⟨h.1, hq _ s h.2⟩) hx h⟩
instance {t : DA} [M : MA t] : MA (nLst t) := ⟨fun ρ Q Q' E E' hq hx h => M.m ρ _ _ _ _ (fun d s h => ⟨h.1, hq _ s h.2⟩) hx h⟩
instance {t : DA} [M : MA t] : ME (dOfN t) := ⟨fun ρ Q Q' E E' hq hx h => M.m ρ _ _ _ _ (fun d s h => hq _ s h) hx h⟩
instance {f : O2} {a b : DE} [O : MO f] [M : ME a] [N : ME b] : ME (dOp f a b) := ⟨fun ρ Q Q' E E' hq hx h => M.m ρ _ _ _ _ (fun x s => N.m s _ _ _ _ (fun y s => O.m x y _ _ fun z => hq z s) hx) hx h⟩
instance {f : OC} {a : DA} [O : MC f] [M : MA a] : ME (dCB f a) := ⟨fun ρ Q Q' E E' hq hx h => M.m ρ _ _ _ _ (fun x s => O.m x _ _ fun z => hq z s) hx h⟩
instance {n : Nat} {F : FS} {a : DA} [O : MF F] [M : MA a] : ME (dCall n F a) := ⟨fun ρ Q Q' E E' hq hx h => M.m ρ _ _ _ _ (fun x s h => ⟨h.1, O.m _ _ _ _ _ (fun z _ => hq z s) (fun z _ => hx z s) h.2⟩) hx h⟩
instance {n i : Nat} {F : FS} {a : DA} [O : MF F] [M : MA a] : ME (dCallR n F i a) := ⟨fun ρ Q Q' E E' hq hx h => ⟨h.1, M.m ρ _ _ _ _ (fun x s ⟨h1, m, h2, h3⟩ => ⟨h1, m, h2, O.m _ _ _ _ _ (fun z _ ⟨m', e, q⟩ => ⟨m', e, hq z _ q⟩) (fun z _ ⟨m', e, q⟩ => ⟨m', e, hx z _ q⟩) h3⟩) hx h.2⟩⟩
instance {F : FS} [O : MF F] : ME (dCall0 F) := ⟨fun ρ Q Q' E E' hq hx h => O.m _ _ _ _ _ (fun z _ => hq z ρ) (fun _ _ h => h) h⟩
instance {n : Nat} {F : FS} {a : DA} [O : MF F] [M : MA a] : MA (nCall n F a) := ⟨fun ρ Q Q' E E' hq hx h => M.m ρ _ _ _ _ (fun x s h => ⟨h.1, O.m _ _ _ _ _ (fun z _ ⟨l, e, q⟩ => ⟨l, e, hq _ s q⟩) (fun z _ => hx z s) h.2⟩) hx h⟩
instance {f g : O2} {a b c : DE} [O : MO f] [P : MO g] [M : ME a] [N : ME b] [R : ME c] : ME (dChain f g a b c) := ⟨fun ρ Q Q' E E' hq hx h => M.m ρ _ _ _ _ (fun x s => N.m s _ _ _ _ (fun y s => O.m x y _ _ fun z ⟨k, e, q⟩ => ⟨k, e, by
  cases k with
  | true => rw [if_pos rfl] at q ⊢; exact R.m s _ _ _ _ (fun w s => P.m y w _ _ fun r => hq r s) hx q
  | false => rw [if_neg (by decide)] at q ⊢; exact hq _ _ q⟩) hx) hx h⟩
instance {f : D → (D → Prop) → Prop} {a : DE} [O : MU f] [M : ME a] : ME (dUn f a) := ⟨fun ρ Q Q' E E' hq hx h => M.m ρ _ _ _ _ (fun x s => O.m x _ _ fun z => hq z s) hx h⟩
instance {t : DE} [M : ME t] : MT (dTst t) := ⟨fun ρ Q Q' E E' hq hx h => M.m ρ _ _ _ _ (fun x s ⟨b, e, q⟩ => ⟨b, e, hq b s q⟩) hx h⟩
instance {t u : DT} [M : MT t] [N : MT u] : MT (tAndD t u) := ⟨fun ρ Q Q' E E' hq hx h => M.m ρ _ _ _ _ (fun c s q => by
  cases c with
  | true => rw [if_pos rfl] at q ⊢; exact N.m s _ _ _ _ hq hx q
  | false => rw [if_neg (by decide)] at q ⊢; exact hq _ _ q) hx h⟩
instance {t u : DT} [M : MT t] [N : MT u] : MT (tOrD t u) := ⟨fun ρ Q Q' E E' hq hx h => M.m ρ _ _ _ _ (fun c s q => by
  cases c with
  | true => rw [if_pos rfl] at q ⊢; exact hq _ _ q
  | false => rw [if_neg (by decide)] at q ⊢; exact N.m s _ _ _ _ hq hx q) hx h⟩
instance {t : DT} [M : MT t] : MT (tNotD t) := ⟨fun ρ Q Q' E E' hq hx h => M.m ρ _ _ _ _ (fun c s q => hq _ s q) hx h⟩
instance : MT tYesD := ⟨fun ρ Q Q' E E' hq hx h => hq _ _ h⟩
instance {a b : DE} [M : ME a] [N : ME b] : ME (dAnd a b) := ⟨fun ρ Q Q' E E' hq hx h => M.m ρ _ _ _ _ (fun x s ⟨c, e, q⟩ => ⟨c, e, by
  cases c with
  | true => rw [if_pos rfl] at q ⊢; exact N.m s _ _ _ _ hq hx q
  | false => rw [if_neg (by decide)] at q ⊢; exact hq _ _ q⟩) hx h⟩
instance {a b : DE} [M : ME a] [N : ME b] : ME (dOr a b) := ⟨fun ρ Q Q' E E' hq hx h => M.m ρ _ _ _ _ (fun x s ⟨c, e, q⟩ => ⟨c, e, by
  cases c with
  | true => rw [if_pos rfl] at q ⊢; exact hq _ _ q
  | false => rw [if_neg (by decide)] at q ⊢; exact N.m s _ _ _ _ hq hx q⟩) hx h⟩
instance {a : DE} [M : ME a] : ME (dNot a) := ⟨fun ρ Q Q' E E' hq hx h => M.m ρ _ _ _ _ (fun x s ⟨c, e, q⟩ => ⟨c, e, hq _ s q⟩) hx h⟩
instance {t : DT} {a b : DE} [T : MT t] [M : ME a] [N : ME b] : ME (dIf t a b) := ⟨fun ρ Q Q' E E' hq hx h => T.m ρ _ _ _ _ (fun c s q => by
  cases c with
  | true => rw [if_pos rfl] at q ⊢; exact M.m s _ _ _ _ hq hx q
  | false => rw [if_neg (by decide)] at q ⊢; exact N.m s _ _ _ _ hq hx q) hx h⟩
instance : MOp oNo := ⟨fun ρ Q Q' E E' hq hx h => hq _ _ h⟩
instance {t : DE} [M : ME t] : MOp (oSome t) := ⟨fun ρ Q Q' E E' hq hx h => M.m ρ _ _ _ _ (fun x s ⟨b, e, q⟩ => ⟨b, e, hq _ s q⟩) hx h⟩
instance {t : DE} {lo hi : DO} [M : ME t] [N : MOp lo] [O : MOp hi] : ME (dSl t lo hi) := ⟨fun ρ Q Q' E E' hq hx h => M.m ρ _ _ _ _ (fun x s => N.m s _ _ _ _ (fun l s => O.m s _ _ _ _ (fun u s q => by
  cases x <;> first | exact q.elim | exact hq _ s q) hx) hx) hx h⟩
instance {t : DE} [M : ME t] : MA (iSq t) := ⟨fun ρ Q Q' E E' hq hx h => M.m ρ _ _ _ _ (fun x s ⟨xs, e, q⟩ => ⟨xs, e, hq _ s q⟩) hx h⟩
instance {t : DE} [M : ME t] : MA (iS t) := ⟨fun ρ Q Q' E E' hq hx h => M.m ρ _ _ _ _ (fun x s ⟨xs, e, q⟩ => ⟨xs, e, hq _ s q⟩) hx h⟩
instance {t : DA} [M : MA t] : MA (iEn t) := ⟨fun ρ Q Q' E E' hq hx h => M.m ρ _ _ _ _ (fun x s ⟨a, b, e, f, q⟩ => ⟨a, b, e, f, hq _ s q⟩) hx h⟩
instance {t : DA} [M : MA t] : MA (iZp t) := ⟨fun ρ Q Q' E E' hq hx h => M.m ρ _ _ _ _ (fun x s ⟨a, b, c, d, e, f, g, q⟩ => ⟨a, b, c, d, e, f, g, hq _ s q⟩) hx h⟩
instance {t : DA} [M : MA t] : MA (iR1 t) := ⟨fun ρ Q Q' E E' hq hx h => M.m ρ _ _ _ _ (fun x s ⟨a, b, c, q⟩ => ⟨a, b, c, hq _ s q⟩) hx h⟩
instance {t : DA} [M : MA t] : MA (iR2 t) := ⟨fun ρ Q Q' E E' hq hx h => M.m ρ _ _ _ _ (fun x s ⟨a, b, c, d, q⟩ => ⟨a, b, c, d, hq _ s q⟩) hx h⟩
instance {i : Nat} : MG (gNm i) := ⟨fun d ρ Q Q' hq h => ⟨h.1, hq _ h.2⟩⟩
instance : MGs gN := ⟨fun d ρ Q Q' hq h => by cases d with
  | nil => exact hq _ h
  | cons a b => exact h.elim⟩
instance {g : DG} {h : DGs} [M : MG g] [N : MGs h] : MGs (gC g h) := ⟨fun d ρ Q Q' hq z => by cases d with
  | nil => exact z.elim
  | cons a b => exact M.m a ρ _ _ (fun s => N.m b s _ _ hq) z⟩
instance {n : Nat} {g : DGs} [M : MGs g] : MG (gTp n g) := ⟨fun d ρ Q Q' hq h => by cases d <;> first | exact h.elim | exact ⟨h.1, M.m _ ρ _ _ hq h.2⟩⟩
instance {t : DA} [M : MA t] : MA (nList t) := ⟨fun ρ Q Q' E E' hq hx h => by
  rw [nList_t] at h ⊢
  refine M.m ρ _ _ _ _ (fun x s q => ?_) hx h
  split at q
  · exact hq _ s q
  · exact hq _ s q
  · exact q.elim⟩
instance {t : DE} [M : ME t] : MA (nRg1 t) := ⟨fun ρ Q Q' E E' hq hx h => M.m ρ _ _ _ _ (fun x s ⟨a, b, c, q⟩ => ⟨a, b, c, hq _ s q⟩) hx h⟩
instance {i : Nat} {t : DE} [M : ME t] : ME (dIxH i t) := ⟨fun ρ Q Q' E E' hq hx h => ⟨h.1, M.m ρ _ _ _ _ (fun x s ⟨a, b, c, d, e, f, q⟩ => ⟨a, b, c, d, e, f, hq _ s q⟩) hx h.2⟩⟩
instance {i : Nat} : ME (dLenH i) := ⟨fun ρ Q Q' E E' hq hx ⟨ds, e, q⟩ => ⟨ds, e, hq _ _ q⟩⟩
instance {b : Bool} {i : Nat} {t : DE} [M : ME t] : ME (dInH b i t) := ⟨fun ρ Q Q' E E' hq hx h => M.m ρ _ _ _ _ (fun x s ⟨a, e, f, q⟩ => ⟨a, e, f, hq _ s q⟩) hx h⟩
instance {nm : Str → Option Str} {t : DE} [M : ME t] : ME (dErr nm t) := ⟨fun ρ Q Q' E E' hq hx h => M.m ρ _ _ _ _ (fun x s q => hq _ s q) (fun x s ⟨h1, r, h2, q⟩ => ⟨h1, r, h2, hq _ s q⟩) h⟩
instance {te : DE} {tx : DA} [M : ME te] [N : MA tx] : ME (dIxL te tx) := ⟨fun ρ Q Q' E E' hq hx h => M.m ρ _ _ _ _ (fun x s ⟨ds, e, q⟩ => ⟨ds, e, N.m s _ _ _ _ (fun y s ⟨a, b, c, d, e, q⟩ => ⟨a, b, c, d, e, hq _ s q⟩) hx q⟩) hx h⟩
instance {ns : List Str} {tx : DA} [N : MA tx] : ME (dIxT ns tx) := ⟨fun ρ Q Q' E E' hq hx h => N.m ρ _ _ _ _ (fun y s ⟨a, b, c, d, q⟩ => ⟨a, b, c, d, hq _ s q⟩) hx h⟩
theorem lcD_m {g : DG} {tt : DT} {te : DE} {vs : List Nat} [M : MG g] [N : MT tt] [O : ME te] {Q Q' : List D → Rho → Prop} (hq : ∀ l s, Q l s → Q' l s) : ∀ (ds acc : List D) (ρ : Rho), lcD g tt te vs ds acc ρ Q → lcD g tt te vs ds acc ρ Q'
  | [], acc, ρ, h => hq _ _ h
  | d :: ds, acc, ρ, h => by
    unfold lcD at h ⊢
    refine M.m d _ _ _ (fun s => N.m s _ _ _ _ (fun b s q => ?_) (fun _ _ h => h)) h
    cases b with
    | true => rw [if_pos rfl] at q ⊢; exact O.m s _ _ _ _ (fun y s => lcD_m hq ds _ _) (fun _ _ h => h) q
    | false => rw [if_neg (by decide)] at q ⊢; exact lcD_m hq ds _ _ q
instance {ti : DI} {g : DG} {tt : DT} {te : DE} {vs : List Nat} [I : MA ti] [M : MG g] [N : MT tt] [O : ME te] : MA (nLc ti g tt te vs) := ⟨fun ρ Q Q' E E' hq hx h => ⟨h.1, I.m ρ _ _ _ _ (fun ds s h => ⟨h.1, lcD_m hq ds _ _ h.2⟩) hx h.2⟩⟩
/-! ### statements -/
instance : MS sNext := ⟨fun B B' E E' ρ b hx h => b.nx _ h⟩
instance : MS sBreak := ⟨fun B B' E E' ρ b hx h => b.bk _ h⟩
instance : MS sCont := ⟨fun B B' E E' ρ b hx h => b.ct _ h⟩
instance : MS sNever := ⟨fun B B' E E' ρ b hx h => h.elim⟩
instance : MS sRetN := ⟨fun B B' E E' ρ b hx h => b.rt _ _ h⟩
instance {n : Str} : MS (sRaise n) := ⟨fun B B' E E' ρ b hx h => hx _ _ h⟩
instance {t u : DS} [M : MS t] [N : MS u] : MS (sSeq t u) := ⟨fun B B' E E' ρ b hx h => M.m { B with nx := fun ρ' => u B E ρ' } { B' with nx := fun ρ' => u B' E' ρ' } E E' ρ ⟨fun s => N.m B B' E E' s b hx, b.rt, b.bk, b.ct⟩ hx h⟩
instance {t : DE} [M : ME t] : MS (sDrop t) := ⟨fun B B' E E' ρ b hx h => M.m ρ _ _ _ _ (fun _ s => b.nx s) hx h⟩
instance {t : DE} [M : ME t] : MS (sRet t) := ⟨fun B B' E E' ρ b hx h => M.m ρ _ _ _ _ b.rt hx h⟩
instance {c : DT} {t u : DS} [C : MT c] [M : MS t] [N : MS u] : MS (sIf c t u) := ⟨fun B B' E E' ρ b hx h => C.m ρ _ _ _ _ (fun c s q => by
  cases c with
  | true => rw [if_pos rfl] at q ⊢; exact M.m _ _ _ _ s b hx q
  | false => rw [if_neg (by decide)] at q ⊢; exact N.m _ _ _ _ s b hx q) hx h⟩
instance {t : DE} {g : DG} [M : ME t] [N : MG g] : MS (sAsg t g) := ⟨fun B B' E E' ρ b hx h => M.m ρ _ _ _ _ (fun d s => N.m d s _ _ b.nx) hx h⟩
instance {i j : Nat} {t : DA} [M : MA t] : MS (sPar i j t) := ⟨fun B B' E E' ρ b hx h => by
  rw [sPar_s] at h ⊢
  refine M.m ρ _ _ _ _ (fun ds s q => ?_) hx h
  split at q
  · exact ⟨q.1, b.nx _ q.2⟩
  · exact q.elim⟩
theorem forD_m {g : DG} {tb : DS} [M : MG g] [N : MS tb] {B B' : DEnds} {E E' : EQ} (b : BLe B B') (hx : ∀ x s, E x s → E' x s) : ∀ (ds : List D) (ρ : Rho), forD g tb B E ds ρ → forD g tb B' E' ds ρ
  | [], ρ, h => b.nx _ h
  | d :: ds, ρ, h => by
    unfold forD at h ⊢
    exact M.m d ρ _ _ (fun s => N.m { B with nx := forD g tb B E ds, ct := forD g tb B E ds, bk := B.nx } { B' with nx := forD g tb B' E' ds, ct := forD g tb B' E' ds, bk := B'.nx } E E' s ⟨fun s => forD_m b hx ds s, b.rt, b.nx, fun s => forD_m b hx ds s⟩ hx) h
instance {ti : DI} {g : DG} {tb : DS} [I : MA ti] [M : MG g] [N : MS tb] : MS (sFor ti g tb) := ⟨fun B B' E E' ρ b hx h => I.m ρ _ _ _ _ (fun ds s => forD_m b hx ds s) hx h⟩
instance {c : DT} {tb : DS} [C : MT c] [N : MS tb] : MS (sWhile c tb) := ⟨fun B B' E E' ρ b hx ⟨I, h0, h⟩ => ⟨I, h0, fun m s i => C.m s _ _ _ _ (fun c s q => by
  cases c with
  | true => rw [if_pos rfl] at q ⊢; exact N.m { B with nx := fun ρ' => ∃ m', m' < m ∧ I m' ρ', ct := fun ρ' => ∃ m', m' < m ∧ I m' ρ', bk := B.nx } { B' with nx := fun ρ' => ∃ m', m' < m ∧ I m' ρ', ct := fun ρ' => ∃ m', m' < m ∧ I m' ρ', bk := B'.nx } E E' s ⟨fun _ h => h, b.rt, b.nx, fun _ h => h⟩ hx q
  | false => rw [if_neg (by decide)] at q ⊢; exact b.nx _ q) hx (h m s i)⟩⟩
instance {i : Nat} {t : DA} [M : MA t] : MS (sOwn i t) := ⟨fun B B' E E' ρ b hx h => M.m ρ _ _ _ _ (fun ds s q => ⟨q.1, q.2.1, b.nx _ q.2.2⟩) hx h⟩
instance {i : Nat} {t : DA} [M : MA t] : MS (sApp i t) := ⟨fun B B' E E' ρ b hx h => ⟨h.1, M.m ρ _ _ _ _ (fun ds s ⟨a, c, d, e, f, q⟩ => ⟨a, c, d, e, f, b.nx _ q⟩) hx h.2⟩⟩
instance {i : Nat} {te tk : DE} [M : ME te] [N : ME tk] : MS (sSto i te tk) := ⟨fun B B' E E' ρ b hx h => M.m ρ _ _ _ _ (fun d s q => ⟨q.1, N.m s _ _ _ _ (fun k s ⟨a, c, d, e, f, g, q⟩ => ⟨a, c, d, e, f, g, b.nx _ q⟩) hx q.2⟩) hx h⟩
instance {i j : Nat} {t : DA} {u : DE} [M : MA t] [N : ME u] : MS (sParN i j t u) := ⟨fun B B' E E' ρ b hx h => M.m ρ _ _ _ _ (fun ds s => N.m s _ _ _ _ (fun d s q => ⟨q.1, b.nx _ q.2⟩) hx) hx h⟩
instance {i j : Nat} {t : DA} {u : DE} [M : MA t] [N : ME u] : MS (sParV i j u t) := ⟨fun B B' E E' ρ b hx h => N.m ρ _ _ _ _ (fun d s => M.m s _ _ _ _ (fun ds s q => ⟨q.1, b.nx _ q.2⟩) hx) hx h⟩
/-! ### invariants -/
/-- a for: I of what is still to come -/
theorem forD_inv {g : DG} {tb : DS} [M : MG g] [N : MS tb] {B : DEnds} {E : EQ} (I : List D → Rho → Prop) : ∀ {ds : List D} {ρ : Rho}, I ds ρ → (∀ d r s, (∃ p, p ++ d :: r = ds) → I (d :: r) s → g d s fun s' => tb { B with nx := I r, ct := I r, bk := B.nx } E s') → (∀ s, I [] s → B.nx s) → forD g tb B E ds ρ
  | [], ρ, h0, _, he => he ρ h0
  | d :: ds, ρ, h0, hs, he => by
    unfold forD
    have k : ∀ s, I ds s → forD g tb B E ds s := fun s h => forD_inv I h (fun d' r s ⟨p, e⟩ => hs d' r s ⟨d :: p, by rw [List.cons_append, e]⟩) he
    exact M.m d ρ _ _ (fun s => N.m { B with nx := I ds, ct := I ds, bk := B.nx } { B with nx := forD g tb B E ds, ct := forD g tb B E ds, bk := B.nx } E E s ⟨k, fun _ _ h => h, fun _ h => h, k⟩ (fun _ _ h => h)) (hs d ds ρ ⟨[], rfl⟩ h0)
/-- the same, by the place -/
theorem forD_ix {g : DG} {tb : DS} [M : MG g] [N : MS tb] {B : DEnds} {E : EQ} (I : Nat → Rho → Prop) {ds : List D} {ρ : Rho} (h0 : I 0 ρ) (hs : ∀ i d s, ds[i]? = some d → I i s → g d s fun s' => tb { B with nx := I (i + 1), ct := I (i + 1), bk := B.nx } E s') (he : ∀ s, I ds.length s → B.nx s) : forD g tb B E ds ρ := by
  refine forD_inv (fun r s => I (ds.length - r.length) s) (by simpa using h0) (fun d r s ⟨p, e⟩ h => ?_) (by simpa using he)
  have e1 : ds.length - (d :: r).length = p.length := by rw [← e]; simp
  have e2 : ds.length - r.length = p.length + 1 := by rw [← e]; simp; omega
  have e3 : ds[p.length]? = some d := by rw [← e]; simp
  rw [e1] at h
  have z := hs _ d s e3 h
  rw [e2]
  exact z
/-- a comprehension -/
theorem lcD_inv {g : DG} {tt : DT} {te : DE} {vs : List Nat} [M : MG g] [N : MT tt] [O : ME te] (I : List D → List D → Rho → Prop) {Q : List D → Rho → Prop} : ∀ {ds acc : List D} {ρ : Rho}, I ds acc ρ →
    (∀ d r acc s, (∃ p, p ++ d :: r = ds) → I (d :: r) acc s → g d (wipeR s vs) fun ρ1 => tt ρ1 (fun b ρ2 => if b = true then te ρ2 (fun y ρ3 => I r (acc ++ [y]) (bakR s ρ3 vs)) (fun _ _ => False) else I r acc (bakR s ρ2 vs)) (fun _ _ => False)) →
    (∀ acc s, I [] acc s → Q acc s) → lcD g tt te vs ds acc ρ Q
  | [], acc, ρ, h0, _, he => he _ _ h0
  | d :: ds, acc, ρ, h0, hs, he => by
    unfold lcD
    have k : ∀ acc s, I ds acc s → lcD g tt te vs ds acc s Q := fun acc s h => lcD_inv I h (fun d' r acc s ⟨p, e⟩ => hs d' r acc s ⟨d :: p, by rw [List.cons_append, e]⟩) he
    refine M.m d _ _ _ (fun s => N.m s _ _ _ _ (fun b s q => ?_) (fun _ _ h => h)) (hs d ds acc ρ ⟨[], rfl⟩ h0)
    cases b with
    | true => rw [if_pos rfl] at q ⊢; exact O.m s _ _ _ _ (fun y s => k _ _) (fun _ _ h => h) q
    | false => rw [if_neg (by decide)] at q ⊢; exact k _ _ q
/-- a comprehension that draws nothing: an item each, or none -/
theorem lcD_fm {g : DG} {tt : DT} {te : DE} {vs : List Nat} [M : MG g] [N : MT tt] [O : ME te] (f : D → Option D) {Q : List D → Rho → Prop} {ds : List D} {acc : List D} {ρ : Rho}
    (hs : ∀ d ∈ ds, g d (wipeR ρ vs) fun ρ1 => tt ρ1 (fun b ρ2 => if b = true then te ρ2 (fun y ρ3 => f d = some y ∧ bakR ρ ρ3 vs = ρ) (fun _ _ => False) else f d = none ∧ bakR ρ ρ2 vs = ρ) (fun _ _ => False))
    (hQ : Q (acc ++ ds.filterMap f) ρ) : lcD g tt te vs ds acc ρ Q := by
  refine lcD_inv (fun r a s => s = ρ ∧ a ++ r.filterMap f = acc ++ ds.filterMap f) ⟨rfl, rfl⟩ (fun d r a s ⟨p, e⟩ ⟨h1, h2⟩ => ?_) (fun a s ⟨h1, h2⟩ => by rw [h1]; simp at h2; rw [h2]; exact hQ)
  subst h1
  have hm : d ∈ ds := by rw [← e]; simp
  refine M.m d _ _ _ (fun s1 => N.m s1 _ _ _ _ (fun b s2 q => ?_) (fun _ _ h => h)) (hs d hm)
  cases b with
  | true =>
    rw [if_pos rfl] at q ⊢
    refine O.m s2 _ _ _ _ (fun y s3 ⟨q1, q2⟩ => ⟨q2, ?_⟩) (fun _ _ h => h) q
    rw [List.filterMap_cons_some q1] at h2
    simpa using h2
  | false =>
    rw [if_neg (by decide)] at q ⊢
    refine ⟨q.2, ?_⟩
    rw [List.filterMap_cons_none q.1] at h2
    exact h2
/-! ### lengths -/
section
@[simp] theorem lim0 : (0 ≤ LIM) = True := eq_true (by show 0 ≤ 1000000; omega)
@[simp] theorem lim1 : (1 ≤ LIM) = True := eq_true (by show 1 ≤ 1000000; omega)
@[simp] theorem lim2 : (2 ≤ LIM) = True := eq_true (by show 2 ≤ 1000000; omega)
@[simp] theorem lim3 : (3 ≤ LIM) = True := eq_true (by show 3 ≤ 1000000; omega)
@[simp] theorem lim4 : (4 ≤ LIM) = True := eq_true (by show 4 ≤ 1000000; omega)
@[simp] theorem lim5 : (5 ≤ LIM) = True := eq_true (by show 5 ≤ 1000000; omega)
@[simp] theorem lim6 : (6 ≤ LIM) = True := eq_true (by show 6 ≤ 1000000; omega)
@[simp] theorem lim7 : (7 ≤ LIM) = True := eq_true (by show 7 ≤ 1000000; omega)
@[simp] theorem lim8 : (8 ≤ LIM) = True := eq_true (by show 8 ≤ 1000000; omega)
@[simp] theorem lim9 : (9 ≤ LIM) = True := eq_true (by show 9 ≤ 1000000; omega)
@[simp] theorem lim10 : (10 ≤ LIM) = True := eq_true (by show 10 ≤ 1000000; omega)
@[simp] theorem lim12 : (12 ≤ LIM) = True := eq_true (by show 12 ≤ 1000000; omega)
@[simp] theorem lim13 : (13 ≤ LIM) = True := eq_true (by show 13 ≤ 1000000; omega)
@[simp] theorem lim14 : (14 ≤ LIM) = True := eq_true (by show 14 ≤ 1000000; omega)
@[simp] theorem lim16 : (16 ≤ LIM) = True := eq_true (by show 16 ≤ 1000000; omega)
@[simp] theorem lim17 : (17 ≤ LIM) = True := eq_true (by show 17 ≤ 1000000; omega)
end
/-! ### the specs are monotone -/
instance : MSV S_is_whole := ⟨fun ds Q Q' E E' hq hx => by
  unfold S_is_whole
  split <;> repeat' (first | exact fun h => h | exact fun h => h.elim | exact hq _ | exact hq _ _ | exact hx _ | exact hx _ _ | apply And.imp | apply Or.imp | (apply Exists.imp; intro _) | (apply forall_imp; intro _))⟩
instance : MSV S_is_rising := ⟨fun ds Q Q' E E' hq hx => by
  unfold S_is_rising
  split <;> repeat' (first | exact fun h => h | exact fun h => h.elim | exact hq _ | exact hq _ _ | exact hx _ | exact hx _ _ | apply And.imp | apply Or.imp | (apply Exists.imp; intro _) | (apply forall_imp; intro _))⟩
instance : MSV S_is_part := ⟨fun ds Q Q' E E' hq hx => by
  unfold S_is_part
  split <;> repeat' (first | exact fun h => h | exact fun h => h.elim | exact hq _ | exact hq _ _ | exact hx _ | exact hx _ _ | apply And.imp | apply Or.imp | (apply Exists.imp; intro _) | (apply forall_imp; intro _))⟩
instance : MSV S_is_way := ⟨fun ds Q Q' E E' hq hx => by
  unfold S_is_way
  split <;> repeat' (first | exact fun h => h | exact fun h => h.elim | exact hq _ | exact hq _ _ | exact hx _ | exact hx _ _ | apply And.imp | apply Or.imp | (apply Exists.imp; intro _) | (apply forall_imp; intro _))⟩
instance : MSV S_has_house := ⟨fun ds Q Q' E E' hq hx => by
  unfold S_has_house
  split <;> repeat' (first | exact fun h => h | exact fun h => h.elim | exact hq _ | exact hq _ _ | exact hx _ | exact hx _ _ | apply And.imp | apply Or.imp | (apply Exists.imp; intro _) | (apply forall_imp; intro _))⟩
instance : MSV S_has_person := ⟨fun ds Q Q' E E' hq hx => by
  unfold S_has_person
  split <;> repeat' (first | exact fun h => h | exact fun h => h.elim | exact hq _ | exact hq _ _ | exact hx _ | exact hx _ _ | apply And.imp | apply Or.imp | (apply Exists.imp; intro _) | (apply forall_imp; intro _))⟩
instance : MSV S_is_turning := ⟨fun ds Q Q' E E' hq hx => by
  unfold S_is_turning
  split <;> repeat' (first | exact fun h => h | exact fun h => h.elim | exact hq _ | exact hq _ _ | exact hx _ | exact hx _ _ | apply And.imp | apply Or.imp | (apply Exists.imp; intro _) | (apply forall_imp; intro _))⟩
instance : MSV S_has_row := ⟨fun ds Q Q' E E' hq hx => by
  unfold S_has_row
  split <;> repeat' (first | exact fun h => h | exact fun h => h.elim | exact hq _ | exact hq _ _ | exact hx _ | exact hx _ _ | apply And.imp | apply Or.imp | (apply Exists.imp; intro _) | (apply forall_imp; intro _))⟩
instance : MSV S_need_house := ⟨fun ds Q Q' E E' hq hx => by
  unfold S_need_house
  split <;> repeat' (first | exact fun h => h | exact fun h => h.elim | exact hq _ | exact hq _ _ | exact hx _ | exact hx _ _ | apply And.imp | apply Or.imp | (apply Exists.imp; intro _) | (apply forall_imp; intro _))⟩
instance : MSV S_need_row := ⟨fun ds Q Q' E E' hq hx => by
  unfold S_need_row
  split <;> repeat' (first | exact fun h => h | exact fun h => h.elim | exact hq _ | exact hq _ _ | exact hx _ | exact hx _ _ | apply And.imp | apply Or.imp | (apply Exists.imp; intro _) | (apply forall_imp; intro _))⟩
instance : MSV S_turned := ⟨fun ds Q Q' E E' hq hx => by
  unfold S_turned
  split <;> repeat' (first | exact fun h => h | exact fun h => h.elim | exact hq _ | exact hq _ _ | exact hx _ | exact hx _ _ | apply And.imp | apply Or.imp | (apply Exists.imp; intro _) | (apply forall_imp; intro _))⟩
instance : MSV S_houses_along := ⟨fun ds Q Q' E E' hq hx => by
  unfold S_houses_along
  split <;> repeat' (first | exact fun h => h | exact fun h => h.elim | exact hq _ | exact hq _ _ | exact hx _ | exact hx _ _ | apply And.imp | apply Or.imp | (apply Exists.imp; intro _) | (apply forall_imp; intro _))⟩
instance : MSV S_fits := ⟨fun ds Q Q' E E' hq hx => by
  unfold S_fits
  split <;> repeat' (first | exact fun h => h | exact fun h => h.elim | exact hq _ | exact hq _ _ | exact hx _ | exact hx _ _ | apply And.imp | apply Or.imp | (apply Exists.imp; intro _) | (apply forall_imp; intro _))⟩
instance : MSV S_seen_at := ⟨fun ds Q Q' E E' hq hx => by
  unfold S_seen_at
  split <;> repeat' (first | exact fun h => h | exact fun h => h.elim | exact hq _ | exact hq _ _ | exact hx _ | exact hx _ _ | apply And.imp | apply Or.imp | (apply Exists.imp; intro _) | (apply forall_imp; intro _))⟩
instance : MSV S_back_of := ⟨fun ds Q Q' E E' hq hx => by
  unfold S_back_of
  split <;> repeat' (first | exact fun h => h | exact fun h => h.elim | exact hq _ | exact hq _ _ | exact hx _ | exact hx _ _ | apply And.imp | apply Or.imp | (apply Exists.imp; intro _) | (apply forall_imp; intro _))⟩
instance : MSV S_history := ⟨fun ds Q Q' E E' hq hx => by
  unfold S_history
  split <;> repeat' (first | exact fun h => h | exact fun h => h.elim | exact hq _ | exact hq _ _ | exact hx _ | exact hx _ _ | apply And.imp | apply Or.imp | (apply Exists.imp; intro _) | (apply forall_imp; intro _))⟩
instance : MSV S_seen := ⟨fun ds Q Q' E E' hq hx => by
  unfold S_seen
  split <;> repeat' (first | exact fun h => h | exact fun h => h.elim | exact hq _ | exact hq _ _ | exact hx _ | exact hx _ _ | apply And.imp | apply Or.imp | (apply Exists.imp; intro _) | (apply forall_imp; intro _))⟩
instance : MSV S_house_behind := ⟨fun ds Q Q' E E' hq hx => by
  unfold S_house_behind
  split <;> repeat' (first | exact fun h => h | exact fun h => h.elim | exact hq _ | exact hq _ _ | exact hx _ | exact hx _ _ | apply And.imp | apply Or.imp | (apply Exists.imp; intro _) | (apply forall_imp; intro _))⟩
instance : MSV S_law_part_names := ⟨fun ds Q Q' E E' hq hx => by
  unfold S_law_part_names
  split <;> repeat' (first | exact fun h => h | exact fun h => h.elim | exact hq _ | exact hq _ _ | exact hx _ | exact hx _ _ | apply And.imp | apply Or.imp | (apply Exists.imp; intro _) | (apply forall_imp; intro _))⟩
instance : MSV S_law_behind := ⟨fun ds Q Q' E E' hq hx => by
  unfold S_law_behind
  split <;> repeat' (first | exact fun h => h | exact fun h => h.elim | exact hq _ | exact hq _ _ | exact hx _ | exact hx _ _ | apply And.imp | apply Or.imp | (apply Exists.imp; intro _) | (apply forall_imp; intro _))⟩
instance : MSV S_law_has := ⟨fun ds Q Q' E E' hq hx => by
  unfold S_law_has
  split <;> repeat' (first | exact fun h => h | exact fun h => h.elim | exact hq _ | exact hq _ _ | exact hx _ | exact hx _ _ | apply And.imp | apply Or.imp | (apply Exists.imp; intro _) | (apply forall_imp; intro _))⟩
instance : MSV S_law_now := ⟨fun ds Q Q' E E' hq hx => by
  unfold S_law_now
  split <;> repeat' (first | exact fun h => h | exact fun h => h.elim | exact hq _ | exact hq _ _ | exact hx _ | exact hx _ _ | apply And.imp | apply Or.imp | (apply Exists.imp; intro _) | (apply forall_imp; intro _))⟩
instance : MSV S_law_seen := ⟨fun ds Q Q' E E' hq hx => by
  unfold S_law_seen
  split <;> repeat' (first | exact fun h => h | exact fun h => h.elim | exact hq _ | exact hq _ _ | exact hx _ | exact hx _ _ | apply And.imp | apply Or.imp | (apply Exists.imp; intro _) | (apply forall_imp; intro _))⟩
instance : MSB S_law_under := ⟨fun b ds Q Q' E E' hq hx => by
  unfold S_law_under
  split <;> repeat' (first | exact fun h => h | exact fun h => h.elim | exact hq _ | exact hq _ _ | exact hx _ | exact hx _ _ | apply And.imp | apply Or.imp | (apply Exists.imp; intro _) | (apply forall_imp; intro _))⟩
instance : MSB S_law_some := ⟨fun b ds Q Q' E E' hq hx => by
  unfold S_law_some
  split <;> repeat' (first | exact fun h => h | exact fun h => h.elim | exact hq _ | exact hq _ _ | exact hx _ | exact hx _ _ | apply And.imp | apply Or.imp | (apply Exists.imp; intro _) | (apply forall_imp; intro _))⟩
instance : MSB S_law_kinds := ⟨fun b ds Q Q' E E' hq hx => by
  unfold S_law_kinds
  split <;> repeat' (first | exact fun h => h | exact fun h => h.elim | exact hq _ | exact hq _ _ | exact hx _ | exact hx _ _ | apply And.imp | apply Or.imp | (apply Exists.imp; intro _) | (apply forall_imp; intro _))⟩
instance : MSB S_law_house := ⟨fun b ds Q Q' E E' hq hx => by
  unfold S_law_house
  split <;> repeat' (first | exact fun h => h | exact fun h => h.elim | exact hq _ | exact hq _ _ | exact hx _ | exact hx _ _ | apply And.imp | apply Or.imp | (apply Exists.imp; intro _) | (apply forall_imp; intro _))⟩
instance : MSB S_law_turning := ⟨fun b ds Q Q' E E' hq hx => by
  unfold S_law_turning
  split <;> repeat' (first | exact fun h => h | exact fun h => h.elim | exact hq _ | exact hq _ _ | exact hx _ | exact hx _ _ | apply And.imp | apply Or.imp | (apply Exists.imp; intro _) | (apply forall_imp; intro _))⟩
instance : MSB S_law_row := ⟨fun b ds Q Q' E E' hq hx => by
  unfold S_law_row
  split <;> repeat' (first | exact fun h => h | exact fun h => h.elim | exact hq _ | exact hq _ _ | exact hx _ | exact hx _ _ | apply And.imp | apply Or.imp | (apply Exists.imp; intro _) | (apply forall_imp; intro _))⟩
/-! ### the law -/
def S_law_vat : SV
  | [.scr ns, .int k], Q, _ => (0 ≤ k ∧ k ≤ 1000) ∧ ∀ m, Vat m → Q (.lst m)
  | _, _, _ => False
abbrev F_law_vat : FS := FV S_law_vat
@[simp] theorem S_law_vat_s {ns : List Int} {k : Int} {Q : D → Prop} {E : Exc → Prop} : S_law_vat [.scr ns, .int k] Q E = ((0 ≤ k ∧ k ≤ 1000) ∧ ∀ m, Vat m → Q (.lst m)) := (rfl)
instance : MSV S_law_vat := ⟨fun ds Q Q' E E' hq hx => by
  unfold S_law_vat
  split <;> repeat' (first | exact fun h => h | exact fun h => h.elim | exact hq _ | exact hq _ _ | exact hx _ | exact hx _ _ | apply And.imp | apply Or.imp | (apply Exists.imp; intro _) | (apply forall_imp; intro _))⟩
def S_law : SV
  | [.scr ns], Q, _ => ns.length ≤ 63 ∧ Q (.bl true)
  | _, _, _ => False
abbrev F_law : FS := FV S_law
end TS
set_option Elab.async false
set_option linter.all false
set_option maxRecDepth 100000
set_option maxHeartbeats 1000000
set_option exponentiation.threshold 10000
/-! how the specs are used, step by step -/
namespace TS
open PySem PySem.Spec PyProof.Rows L2
theorem sSeq_k {t u : DS} {B : DEnds} {E : EQ} {ρ : Rho} (h : ∀ K : Rho → Prop, (∀ s, u B E s → K s) → t { B with nx := K } E ρ) : sSeq t u B E ρ := h _ fun _ h => h
/-- one statement, the rest kept for later -/
theorem bNx {t : DS} {B : DEnds} {E : EQ} {ρ : Rho} (h : ∀ K : Rho → Prop, (∀ s, B.nx s → K s) → t { B with nx := K } E ρ) : t B E ρ := h _ fun _ h => h
@[simp] theorem nCall_v {n : Nat} {S : SV} {t : DA} {ρ : Rho} {Q : List D → Rho → Prop} {E : EQ} : nCall n (FV S) t ρ Q E = t ρ (fun ds ρ1 => ds.length = n ∧ S ds (fun d => ∃ l, d = .lst l ∧ Q l ρ1) (fun x => E x ρ1)) E := by
  unfold nCall
  simp only [FV_vals]
theorem giveT {b : Bool} {Q : D → Prop} (h : b = true) (hq : Q (.bl true)) : Q (.bl b) := h ▸ hq
theorem pd_by {d : D} (h : pdB 40 d = true) : pd d := h
@[simp] def nbl : List Sl → Prop
  | [] => True
  | x :: r => nb x ∧ nbl r
theorem rng_get {n i : Nat} {d : D} (h : ((List.range n).map fun (i : Nat) => D.int (0 + i))[i]? = some d) : d = .int i ∧ i < n := by
  rw [List.getElem?_map] at h
  by_cases q : i < n
  · rw [List.getElem?_range q] at h
    simp at h
    exact ⟨h.symm, q⟩
  · rw [List.getElem?_eq_none (by simp; omega)] at h
    cases h
theorem rng_get' {n i : Nat} {d : D} (h : ((List.range n).map fun (i : Nat) => D.int i)[i]? = some d) : d = .int i ∧ i < n := by
  rw [List.getElem?_map] at h
  by_cases q : i < n
  · rw [List.getElem?_range q] at h
    simp at h
    exact ⟨h.symm, q⟩
  · rw [List.getElem?_eq_none (by simp; omega)] at h
    cases h
theorem good_snoc {size : Int} {ws : List Wy} {w : Wy} (hg : ∀ j w, ws[j]? = some w → GoodW size j w) (g : GoodW size ws.length w) : ∀ j v, (ws ++ [w])[j]? = some v → GoodW size j v := fun j v hv => by
  rw [List.getElem?_append] at hv
  split at hv
  · exact hg j v hv
  · rename_i hj
    have e : j = ws.length := by
      have := (List.getElem?_eq_some_iff.mp hv).1
      simp at this
      omega
    subst e
    simp at hv
    subst hv
    exact g
mutual
theorem eqD_refl : ∀ d : D, bare d = true → eqD d d = true
  | .non, _ => by simp [eqD]
  | .bl _, _ => by simp [eqD]
  | .int _, _ => by simp [eqD]
  | .str _, _ => by simp [eqD]
  | .tup ds, h => by simp only [eqD]; exact eqL_refl ds (by simpa [bare] using h)
  | .lst ds, h => by simp only [eqD]; exact eqL_refl ds (by simpa [bare] using h)
  | .scr _, h => by simp [bare] at h
  | .glo _, h => by simp [bare] at h
  | .ty _, h => by simp [bare] at h
theorem eqL_refl : ∀ ds : List D, bareL ds = true → eqL ds ds = true
  | [], _ => by simp [eqL]
  | d :: ds, h => by
    simp only [bareL, Bool.and_eq_true] at h
    simp only [eqL, eqD_refl d h.1, eqL_refl ds h.2, Bool.and_self]
end
theorem eqD_same {d : D} (h : okD 60 d = true) : eqD d d = true := eqD_refl d (okD_bare 60 d h)
theorem okD_intsD {n : Nat} {l : List Int} : okD (n + 1) (intsD l) = true := by
  unfold intsD okD
  rw [List.all_map]
  exact List.all_eq_true.mpr fun x _ => okD_i
theorem okD_hist {n : Nat} {l : List (List Int)} : okD (n + 2) (.tup (l.map intsD)) = true := by
  unfold okD
  rw [List.all_map]
  exact List.all_eq_true.mpr fun x _ => okD_intsD
theorem okD_hs {h : Hs} (g : GoodH h) : okD 60 h.d = true := pd_ok (pd_house g)
theorem pd_tns {h : Hs} {ts : List Tn} (g : GoodH h) (gr : GoodR h ts) : pd (.tup (ts.map Tn.d)) := by
  simp only [pd, pdB, List.length_map, Bool.and_eq_true, decide_eq_true_eq, List.all_eq_true]
  refine ⟨by have := gr.1; omega, fun d hd => ?_⟩
  obtain ⟨t, ht, rfl⟩ := List.mem_map.mp hd
  refine pd_tn fun n v e => ?_
  subst e
  obtain ⟨h1, h2⟩ := gr.2 _ ht
  exact kinds_len (h2 _ (g.ways n _ (List.getElem?_eq_getElem h1))).kinds
def GoodP (h : Hs) (p : Pn) : Prop := (0 ≤ p.kind ∧ p.kind ≤ 2) ∧ (0 ≤ p.a ∧ p.a < h.size) ∧ (0 ≤ p.b ∧ p.b < h.size)
theorem person_ok {h : Hs} {p : Pn} (g : GoodP h p) : hasPerson h.size p.d = true := by
  obtain ⟨h1, h2, h3⟩ := g
  unfold Pn.d
  show (isWhole _ 0 2 && isWhole _ 0 (h.size - 1) && isWhole _ 0 (h.size - 1)) = true
  rw [isWhole_i.mpr h1, isWhole_i.mpr (by omega), isWhole_i.mpr (by omega)]
  rfl
theorem pd_person {p : Pn} : pd p.d := rfl
section
variable {h : Hs} {ts : List Tn} {p : Pn} {Q : D → Prop} {E : Exc → Prop}
theorem seen_ok (g : GoodH h) (gr : GoodR h ts) (gp : GoodP h p) (hq : Q (.tup ((history h p ts).map intsD))) : S_seen [h.d, .tup (ts.map Tn.d), p.d] Q E :=
  ⟨h, rfl, g, .inr ⟨ts, rfl, pd_tns g gr, gr, pd_person, .inr ⟨p, rfl, person_ok gp, hq⟩⟩⟩
theorem seen_noperson {d : D} (g : GoodH h) (gr : GoodR h ts) (hd : pd d) (hp : hasPerson h.size d = false) (hq : E ⟨"InvalidPerson", none⟩) : S_seen [h.d, .tup (ts.map Tn.d), d] Q E :=
  ⟨h, rfl, g, .inr ⟨ts, rfl, pd_tns g gr, gr, hd, .inl ⟨hp, hq⟩⟩⟩
theorem seen_norow {r d : D} (g : GoodH h) (hd : pd r) (hr : hasRow h.size h.ways.length r = false) (hq : E ⟨"InvalidRow", none⟩) : S_seen [h.d, r, d] Q E :=
  ⟨h, rfl, g, .inl ⟨hd, hr, hq⟩⟩
theorem behind_ok (g : GoodH h) (gr : GoodR h ts) (hq : Q (behind h ts).d) : S_house_behind [h.d, .tup (ts.map Tn.d)] Q E :=
  ⟨h, rfl, g, .inr ⟨ts, rfl, pd_tns g gr, gr, hq⟩⟩
theorem behind_norow {r : D} (g : GoodH h) (hd : pd r) (hr : hasRow h.size h.ways.length r = false) (hq : E ⟨"InvalidRow", none⟩) : S_house_behind [h.d, r] Q E :=
  ⟨h, rfl, g, .inl ⟨hd, hr, hq⟩⟩
theorem turn_size {h : Hs} {t : Tn} : (turn h t).size = h.size := by
  unfold turn
  cases h.ways[t.n]? <;> rfl
theorem along_size : ∀ {ts : List Tn} {h k : Hs}, k ∈ along h ts → k.size = h.size
  | [], h, k, hk => by
    simp only [along, List.mem_singleton] at hk
    rw [hk]
  | t :: ts, h, k, hk => by
    simp only [along, List.mem_cons] at hk
    rcases hk with rfl | hk
    · rfl
    · rw [along_size hk, turn_size]
theorem GoodH.now {h : Hs} {p : Pn} (g : GoodH h) (gp : GoodP h p) : NowOk h p := ⟨fun w hw => by
  obtain ⟨i, hi, rfl⟩ := List.mem_iff_getElem.mp hw
  have z := g.ways i _ (List.getElem?_eq_getElem hi)
  exact ⟨z.word, z.start, z.share⟩, by have := g.many; omega, gp.2.1, gp.2.2⟩
theorem now_along {ts : List Tn} (g : GoodH h) (gr : GoodR h ts) (gp : GoodP h p) : ∀ k ∈ along h ts, NowOk k p := fun k hk =>
  (along_good g gr.2 k hk).now (by unfold GoodP; rw [along_size hk]; exact gp)
theorem law_seen_ok (g : GoodH h) (gr : GoodR h ts) (gp : GoodP h p) (hq : Q (.tup ((history h p ts).map intsD))) : S_law_seen [h.d, .tup (ts.map Tn.d), p.d] Q E :=
  ⟨h, ts, p, rfl, rfl, rfl, now_along g gr gp, fun t ht => (gr.2 t ht).1, by have := gr.1; omega, hq⟩
theorem law_behind_ok (g : GoodH h) (gr : GoodR h ts) (hq : Q (behind h ts).d) : S_law_behind [h.d, .tup (ts.map Tn.d)] Q E :=
  ⟨h, ts, rfl, rfl, by have := g.many; omega, fun t ht => (gr.2 t ht).1, hq⟩
theorem behind_good : ∀ {ts : List Tn} {h : Hs}, GoodH h → (∀ t ∈ ts, GoodT h t) → GoodH (behind h ts)
  | [], h, g, _ => g
  | t :: ts, h, g, gt => behind_good (ts := ts) (g.turn (gt t List.mem_cons_self)) fun u hu => (gt u (List.mem_cons_of_mem _ hu)).turn
end
/-! good houses and rows, asked by a Bool -/
def goodWB (size : Int) (i : Nat) (w : Wy) : Bool := (w.word == 0 || w.word == 1) && decide (0 ≤ w.start) && decide (w.start < size) && decide (0 ≤ w.share) && decide (w.share ≤ size) && (match w.fence with | none => true | some f => decide (0 ≤ f) && decide (f < i)) && KS7.contains w.kinds
def goodHB (h : Hs) : Bool := decide (1 ≤ h.size) && decide (h.size ≤ 1000000000000000000000000000000) && decide (1 ≤ h.ways.length) && decide (h.ways.length ≤ 3) && (List.range h.ways.length).all fun i => match h.ways[i]? with
  | some w => goodWB h.size i w
  | none => false
def goodTB (h : Hs) (t : Tn) : Bool := decide (t.n < h.ways.length) && (match t with
  | .word _ v => v == 0 || v == 1
  | .start _ v => decide (0 ≤ v) && decide (v < h.size)
  | .share _ v => decide (0 ≤ v) && decide (v ≤ h.size)
  | .fence n v => (match v with | none => true | some f => decide (0 ≤ f) && decide (f < n))
  | .kinds _ v => KS7.contains v
  | .keeps _ _ => true
  | .back _ => true)
theorem goodWB_ok {size : Int} {i : Nat} {w : Wy} (h : goodWB size i w = true) : GoodW size i w := by
  unfold goodWB at h
  simp only [Bool.and_eq_true, Bool.or_eq_true, beq_iff_eq, decide_eq_true_eq, List.contains_iff_mem] at h
  obtain ⟨⟨⟨⟨⟨⟨h1, h2⟩, h3⟩, h4⟩, h5⟩, h6⟩, h7⟩ := h
  refine ⟨h1, ⟨h2, h3⟩, ⟨h4, h5⟩, fun f e => ?_, h7⟩
  rw [e] at h6
  simpa using h6
theorem goodHB_ok {h : Hs} (g : goodHB h = true) : GoodH h := by
  unfold goodHB at g
  simp only [Bool.and_eq_true, decide_eq_true_eq, List.all_eq_true, List.mem_range] at g
  obtain ⟨⟨⟨⟨h1, h2⟩, h3⟩, h4⟩, h5⟩ := g
  refine ⟨⟨h1, h2⟩, ⟨h3, h4⟩, fun i w e => ?_⟩
  have z := h5 i (List.getElem?_eq_some_iff.mp e).1
  rw [e] at z
  exact goodWB_ok z
theorem goodTB_ok {h : Hs} {t : Tn} (g : goodTB h t = true) : GoodT h t := by
  unfold goodTB at g
  rw [Bool.and_eq_true, decide_eq_true_eq] at g
  refine ⟨g.1, fun w z => ?_⟩
  have g2 := g.2
  cases t with
  | word n v => exact ⟨(by simpa using g2 : v = 0 ∨ v = 1), z.start, z.share, z.fence, z.kinds⟩
  | start n v => exact ⟨z.word, (by simpa using g2 : 0 ≤ v ∧ v < h.size), z.share, z.fence, z.kinds⟩
  | share n v => exact ⟨z.word, z.start, (by simpa using g2 : 0 ≤ v ∧ v ≤ h.size), z.fence, z.kinds⟩
  | fence n v => exact ⟨z.word, z.start, z.share, fun f e => by
      have e' : v = some f := e
      subst e'
      have g3 : (decide (0 ≤ f) && decide (f < (n : Int))) = true := g2
      show 0 ≤ f ∧ f < (n : Int)
      simpa using g3, z.kinds⟩
  | kinds n v => exact ⟨z.word, z.start, z.share, z.fence, List.contains_iff_mem.mp g2⟩
  | keeps n v => exact ⟨z.word, z.start, z.share, z.fence, z.kinds⟩
  | back n => exact z
def goodRB (h : Hs) (ts : List Tn) : Bool := decide (ts.length ≤ 6) && ts.all fun t => goodTB h t
theorem goodRB_ok {h : Hs} {ts : List Tn} (g : goodRB h ts = true) : GoodR h ts := by
  unfold goodRB at g
  rw [Bool.and_eq_true, decide_eq_true_eq, List.all_eq_true] at g
  exact ⟨g.1, fun t ht => goodTB_ok (g.2 t ht)⟩
def goodPB (h : Hs) (p : Pn) : Bool := decide (0 ≤ p.kind) && decide (p.kind ≤ 2) && (decide (0 ≤ p.a) && decide (p.a < h.size)) && (decide (0 ≤ p.b) && decide (p.b < h.size))
theorem goodPB_ok {h : Hs} {p : Pn} (g : goodPB h p = true) : GoodP h p := by
  unfold goodPB at g
  simp only [Bool.and_eq_true, decide_eq_true_eq] at g
  exact ⟨g.1.1, g.1.2, g.2⟩
end TS
set_option Elab.async false
set_option linter.all false
set_option maxRecDepth 100000
set_option maxHeartbeats 4000000
set_option exponentiation.threshold 10000
/-! the law is called -/
namespace TS
open PySem PySem.Spec PyProof.Rows L2 LamX
theorem cx_none {P : Program} {w : World} {H : Hp} {s : Shared} {e : Value} {s' : Shared} (h : L2N.CX P w [] H s (fun _ _ _ => False) e s') : False := by
  obtain ⟨_, _, _, _, _, _, _, _, _, _, _, _, z⟩ := h
  exact z
theorem tabs_empty {T : List (Addr × Str)} {H : Hp} (h : ∀ p ∈ T, H p.1 = some (.tbl #[])) : Tabs T H := fun p hp => ⟨#[], h p hp, trivial, fun _ _ e => by cases e⟩
theorem law_start {K : PySem.W.Frag} {mg : Str → Option Value} {tf : List He.Defn} {H : Hp} {a : Addr} {ns : List Int} (hl : ns.length ≤ 63) (hT : ∀ p ∈ tf.map (He.cT K), H p.2 = some (.tbl #[])) (hS : SqL K H a (ns.map V.int)) :
    upF ⟨K, mg, Tabs (tabT K tf)⟩ 1 F_law [.ref a] H (fun v _ => v = .bl true) fun _ _ _ => False := by
  have no : ∀ b, ¬ Hid [.val (.scr ns)] ([V.ref a].map some) (fun _ => False) b := fun b z => by
    rcases z with z | ⟨i, ds, e, _⟩
    · exact z
    · match i, e with
      | 0, e => cases e
      | i + 1, e => cases e
  have sub : Sub H (vis H (Hid [.val (.scr ns)] ([V.ref a].map some) fun _ => False)) := fun b o e _ => vis_some.mpr ⟨no b, e⟩
  refine ⟨rfl, [.val (.scr ns)], fun _ => False, fun d _ => d = .bl true, fun _ _ => False, ⟨rfl, fun i d e => ?_, fun i ds e => ?_, fun i j ds es b e => ?_, tabs_empty fun p hp => ?_, fun b z => z.elim⟩, ⟨[.scr ns], rfl, hl, rfl⟩, fun d v as' H' _ _ r e => ?_, fun _ _ _ _ _ _ _ _ z => z⟩
  · match i, e with
    | 0, e =>
      cases e
      exact ⟨.ref a, rfl, a, rfl, sub.sqL hS⟩
    | i + 1, e => cases e
  · match i, e with
    | 0, e => cases e
    | i + 1, e => cases e
  · match i, e with
    | 0, e => cases e
    | i + 1, e => cases e
  · obtain ⟨q, hq, rfl⟩ := List.mem_map.mp hp
    exact hT _ (List.mem_map.mpr ⟨q, hq, rfl⟩)
  · subst e
    exact r
end TS
set_option Elab.async false
set_option linter.all false
set_option maxRecDepth 100000
set_option maxHeartbeats 4000000
set_option exponentiation.threshold 10000
/-! sorted(set(..)) of a list or a tuple of ints -/
namespace TS
open PySem PySem.Spec PyProof.Rows L2
section
variable {P : Program} {w : World} {A : Around} {E : Value → Shared → Prop} {s : Shared}
/-- the set that is laid first, empty -/
abbrev set0 (w : World) : Obj := { cls := .type "set", dict := none, data := .set #[] 0 (.fresh 0 0 (!w.params.followText "set-order")) }
abbrev hp0 (w : World) (h : Heap) : Heap := h.push (set0 w)
set_option maxHeartbeats 8000000 in
theorem call_setL {l : Addr} {its : Array Value} (ks : List Int) {Q : Value → Shared → Prop} (hh : A.handled = none) (hl : s.heap.IsList l its) (hi : IntsAre its.toList ks) (hb : ks.length + 1 < scanBound)
    (fin : ∀ (h' : Heap) (tk c : Nat), SetR w h' s.heap.objs.size (fun j => decide (j ∈ ks)) c → c ≤ ks.length → (∀ b o, s.heap.get? b = some o → h'.get? b = some o) → Q (.ref s.heap.objs.size) { s with heap := h', toks := tk }) :
    wpAny (model P w) A (call (.type "set") [.ref l]) Q E s := by
  have hsz : its.size = ks.length := by
    have q := IntsAre.length hi
    rwa [Array.length_toList] at q
  obtain ⟨c0, tl0, mro0⟩ := F.called_set.mro
  have made0 := F.called_set.made
  have sub0 := F.called_set.sub
  refine wpAny_call (codeAny_of_tree (?_ : wpAny _ _ (callAny (.type "set") _) _ _ _))
  refine wpAny_pure ⟨Code.quiet_builtin _ (by decide +kernel), codeAny_builtin F.entry_type_call ?_⟩
  rw [Around.under_plain (weight_type_call_type "set" [.ref l] []) rfl]
  have f1 := F.called_set.notType
  have f2 := F.called_set.canCreate
  have f3 := F.typeCall_set_1 (.ref l)
  repeat (any_goals (first | assumption | wp_step))
  refine codeAny_mono (code_set_led1 (.ref l) (E := E) (Q₁ := fun ob s1 => ob = .ref s.heap.objs.size ∧ s1 = { s with heap := hp0 w s.heap }) ⟨rfl, rfl⟩) fun r s1 hr => ?_
  match r, hr with
  | .error e, hr => exact hr
  | .ok .next, hr => exact hr.elim
  | .ok .brk, hr => exact hr.elim
  | .ok .cont, hr => exact hr.elim
  | .ok (.ret ob), hr =>
    obtain ⟨rfl, rfl⟩ := hr
    have at0 : (hp0 w s.heap).get? s.heap.objs.size = some (set0 w) := Heap.get?_push_size _ rfl
    have ty0 : Shared.TypeIs { s with heap := hp0 w s.heap } (.ref s.heap.objs.size) "set" := ⟨_, at0, rfl⟩
    have lk0 := F.called_set.init.lookup
    have bd0 := F.called_set.init.bind (.ref s.heap.objs.size)
    repeat (any_goals (first | assumption | wp_step))
    refine codeAny_mono (codeAny_call_builtin (R := wants (fun r s2 => r = .none ∧ ∃ (h2 : Heap) (tk c : Nat), s2 = { s with heap := h2, toks := tk } ∧ SetR w h2 s.heap.objs.size (fun j => decide (j ∈ ks)) c ∧ c ≤ ks.length ∧ ∀ b o, s.heap.get? b = some o → h2.get? b = some o) E)
      F.called_set.init.plain F.entry_set_init (check_set_init_1 ty0 ?_)) fun r2 s2 hr2 => ?_
    · obtain ⟨ol, gl, cl, nl, dl⟩ := hl
      obtain ⟨oc, od, odt, osl⟩ := ol
      simp only at cl dl
      subst cl dl
      have gl1 : (hp0 w s.heap).get? l = some { cls := .type "list", dict := od, data := .seq its nl, slots := osl } := Heap.get?_push_of_some _ gl
      have g1 := F.sub_list_set
      have g2 := F.sub_list_frozenset
      have g3 : (Value.type "list" == Value.type "dict") = false := by decide
      have il1 : (hp0 w s.heap).IsList l its := ⟨_, gl1, rfl, nl, rfl⟩
      have il0 : s.heap.IsList l its := ⟨_, gl, rfl, nl, rfl⟩
      unfold Builtin.«set.__init__» noKeywords Builtin.Frozenset.updateFrom
      generalize hPI : pyIter = PI
      wp_walk
      subst hPI
      refine wpAny_pyIter_list il1 (wpAny_bind (wpAny_runValue ?_))
      have lt0 : l < s.heap.objs.size := Heap.lt_size gl
      have han : A.in1.in1.in1.handled = none := by simp [hh]
      have ne0 : l ≠ (hp0 w s.heap).objs.size := by
        rw [Heap.size_push]
        exact Nat.ne_of_lt (Nat.lt_succ_of_lt lt0)
      have nin : s.heap.objs.size ∉ [(hp0 w s.heap).objs.size, l] := by
        rw [Heap.size_push]
        simp only [List.mem_cons, List.not_mem_nil, or_false, not_or]
        exact And.intro (Nat.ne_of_lt (Nat.lt_succ_self _)) (Nat.ne_of_gt lt0)
      have val : ∀ (i : Nat) (v : Value), its[i]? = some v → ∃ k t, ks[i]? = some k ∧ v = .int k t := fun i v hv => by
        have hi' : i < ks.length := by rw [← hsz]; exact (Array.getElem?_eq_some_iff.mp hv).1
        obtain ⟨t, e⟩ := PyProof.Rows.IntsAre.int_at hi i v (by rw [Array.getElem?_toList]; exact hv)
        refine ⟨ks[i], t, List.getElem?_eq_getElem hi', ?_⟩
        rw [e, List.getD_eq_getElem?_getD, List.getElem?_eq_getElem hi']
        rfl
      refine set_update_ints ((Walks.list han _ l ne0 its).toS) s.heap.objs.size nin ks hsz hb val (its.size - 0) 0 _ (by omega) (Nat.zero_le _) ⟨⟨_, Heap.get?_push_size _ rfl, rfl, rfl⟩, il1.push _⟩ ⟨0, Nat.le_refl 0, setR_new_at (Heap.get?_push_of_some _ at0)⟩ fun s3 c mv hc R3 => ?_
      obtain ⟨h3, gn3, dr3, tk3, os3⟩ := s3
      have e1 : gn3 = s.gens := mv.gens
      have e2 : dr3 = s.drawn := mv.drawn
      have e3 : os3 = s.os := mv.os
      subst e1 e2 e3
      show wpAny _ _ _ _ _ _
      refine wpAny_pure (?_ : wpAny _ _ (ret Value.none) _ _ _)
      rw [hsz] at hc
      refine wpAny_pure ⟨rfl, h3, tk3, c, rfl, R3, hc, fun b o e => ?_⟩
      have lb : b < s.heap.objs.size := Heap.lt_size e
      refine mv.heap b o ?_ (Heap.get?_push_of_some _ (Heap.get?_push_of_some _ e))
      have sz : (hp0 w s.heap).objs.size = s.heap.objs.size + 1 := Heap.size_push ..
      simp only [List.mem_cons, List.not_mem_nil, or_false, not_or]
      exact ⟨Nat.ne_of_lt lb, by rw [sz]; exact Nat.ne_of_lt (Nat.lt_succ_of_lt lb)⟩
    · match r2, hr2 with
      | .error e, hr2 => exact hr2
      | .ok .next, hr2 => exact hr2.elim
      | .ok .brk, hr2 => exact hr2.elim
      | .ok .cont, hr2 => exact hr2.elim
      | .ok (.ret u), hr2 =>
        obtain ⟨rfl, h2, tk, c, rfl, R2, hc, kp⟩ := hr2
        repeat (any_goals (first | assumption | wp_step))
        exact fin _ _ _ R2 hc kp
end
/-! ### in order, each once -/
def sins (k : Int) : List Int → List Int
  | [] => [k]
  | x :: r => if k < x then k :: x :: r else if k = x then x :: r else x :: sins k r
def srt (ks : List Int) : List Int := ks.foldr sins []
theorem mem_sins {k j : Int} : ∀ {l : List Int}, j ∈ sins k l ↔ j = k ∨ j ∈ l
  | [] => by simp [sins]
  | x :: r => by
    unfold sins
    split
    · simp
    · split
      · rename_i h
        subst h
        simp
      · rw [List.mem_cons, mem_sins (l := r), List.mem_cons]
        constructor
        · rintro (h | h | h)
          · exact .inr (.inl h)
          · exact .inl h
          · exact .inr (.inr h)
        · rintro (h | h | h)
          · exact .inr (.inl h)
          · exact .inl h
          · exact .inr (.inr h)
theorem sins_up {k : Int} : ∀ {l : List Int}, l.Pairwise (· < ·) → (sins k l).Pairwise (· < ·)
  | [], _ => by simp [sins]
  | x :: r, h => by
    obtain ⟨h1, h2⟩ := List.pairwise_cons.mp h
    unfold sins
    split
    · rename_i q
      refine List.pairwise_cons.mpr ⟨fun y hy => ?_, h⟩
      rcases List.mem_cons.mp hy with e | e
      · rw [e]
        exact q
      · exact Int.lt_trans q (h1 y e)
    · split
      · exact h
      · rename_i q1 q2
        refine List.pairwise_cons.mpr ⟨fun y hy => ?_, sins_up h2⟩
        rcases mem_sins.mp hy with e | e
        · rw [e]
          omega
        · exact h1 y e
theorem mem_srt {j : Int} : ∀ {ks : List Int}, j ∈ srt ks ↔ j ∈ ks
  | [] => by simp [srt]
  | k :: r => by
    show j ∈ sins k (srt r) ↔ _
    rw [mem_sins, mem_srt (ks := r), List.mem_cons]
theorem srt_up : ∀ {ks : List Int}, (srt ks).Pairwise (· < ·)
  | [] => by simp [srt]
  | k :: r => sins_up (srt_up (ks := r))
/-- one list in order has the same members as another: it is the same -/
theorem up_one : ∀ {a b : List Int}, a.Pairwise (· < ·) → b.Pairwise (· < ·) → (∀ k, k ∈ a ↔ k ∈ b) → a = b
  | [], [], _, _, _ => rfl
  | [], y :: b, _, _, h => by
    have := (h y).mpr List.mem_cons_self
    cases this
  | x :: a, [], _, _, h => by
    have := (h x).mp List.mem_cons_self
    cases this
  | x :: a, y :: b, ha, hb, h => by
    obtain ⟨a1, a2⟩ := List.pairwise_cons.mp ha
    obtain ⟨b1, b2⟩ := List.pairwise_cons.mp hb
    have e : x = y := by
      rcases List.mem_cons.mp ((h x).mp List.mem_cons_self) with e | e
      · exact e
      · rcases List.mem_cons.mp ((h y).mpr List.mem_cons_self) with e2 | e2
        · exact e2.symm
        · have := a1 y e2
          have := b1 x e
          omega
    subst e
    rw [up_one a2 b2 fun k => ⟨fun z => by
      rcases List.mem_cons.mp ((h k).mp (List.mem_cons_of_mem _ z)) with e | e
      · have := a1 k z
        omega
      · exact e, fun z => by
      rcases List.mem_cons.mp ((h k).mpr (List.mem_cons_of_mem _ z)) with e | e
      · have := b1 k z
        omega
      · exact e⟩]
/-! ### the rule -/
def rSetL (K : PySem.W.Frag) (w : World) : List V → Hp → VK → Prop := fun xs H Q => ∃ (l : Addr) (ks : List Int), xs = [.ref l] ∧ (SqL K H l (ks.map V.int) ∨ SqT K H l (ks.map V.int)) ∧ ks.length ≤ 4000 ∧
  ∀ (p : Addr) (n : Nat), H p = none → (∀ L : List Int, L.Nodup → (∀ k, k ∈ L ↔ k ∈ ks) → L.length = n) → Q (.ref p) (upd H p (SetO w p (fun j => decide (j ∈ ks)) n))
theorem setR_count {w : World} {h : Heap} {a : Addr} {ks : List Int} {c : Nat} (R : SetR w h a (fun j => decide (j ∈ ks)) c) {L : List Int} (nd : L.Nodup) (hm : ∀ k, k ∈ L ↔ k ∈ ks) : L.length = c := by
  obtain ⟨o, es, ep, t, _, _, _, _, nd2, hm2, _, _, hn, _, _⟩ := R
  have p : L.Perm (es.toList.map keyOf) := (List.perm_ext_iff_of_nodup nd nd2).mpr fun k => by
    rw [hm k, ← hm2 k, decide_eq_true_eq]
  rw [p.length_eq, List.length_map, Array.length_toList]
  exact hn
section
variable {X : Cx}
theorem cr_setL (hc : X.calm = true) : CallR X (.type "set") (rSetL X.K X.w) := by
  intro pins s σ H xs us Q I r h
  obtain ⟨l, ks, rfl, hs, hl, q⟩ := h
  have hb : ks.length + 1 < scanBound := by unfold scanBound; omega
  rw [Vals.ref1 r]
  rcases hs with hs | hs
  · obtain ⟨its, rv, pl, hz⟩ := I.list hs
    refine call_setL ks (I.ok.hd hc) (show s.heap.IsList l its.toArray from pl.isList) (ints_of_vals rv) hb fun h' tk c R hcn k => ?_
    exact ⟨.ref _, upd H s.heap.objs.size (SetO X.w s.heap.objs.size (fun j => decide (j ∈ ks)) c), I.laid (t' := tk) k (Nat.le_refl _) (setO_new R), rfl, q _ c (I.hok.fresh (Nat.le_refl _)) fun L nd hm => setR_count R nd hm⟩
  · obtain ⟨its, rv, pt, hz⟩ := I.tuple hs
    refine call_set_tupI ks (I.ok.hd hc) (show s.heap.IsTuple l its.toArray from pt) (ints_of_vals rv) hb fun h' tk c R hcn k => ?_
    exact ⟨.ref _, upd H s.heap.objs.size (SetO X.w s.heap.objs.size (fun j => decide (j ∈ ks)) c), I.laid (t' := tk) k (Nat.le_refl _) (setO_new R), rfl, q _ c (I.hok.fresh (Nat.le_refl _)) fun L nd hm => setR_count R nd hm⟩
variable {Z : Zx} {W : WX}
/-- sorted(set(e)), ints -/
def nSS (t : DE) : DA := fun ρ Q E => t ρ (fun d ρ' => ∃ ks : List Int, seqD d = some (ks.map D.int) ∧ (ks.length ≤ 4000 ∧ (srt ks).length < 64) ∧ Q ((srt ks).map D.int) ρ') E
theorem rp_ints {A : Hp} : ∀ ns : List Int, RpL Z A (ns.map D.int) (ns.map V.int)
  | [] => trivial
  | n :: ns => ⟨rfl, rp_ints ns⟩
theorem up_ss [GoodJ Z] [F : Fit X Z] {t : DE} (σ : L2.St) (H : Hp) (Q : VK) (h : upN Z W (nSS t) σ H Q) : tCB (rSortedSet X.w) (tCons (tCB (rSetL X.K X.w) (tCons (upE Z W t) tNil)) tNil) σ H Q := by
  obtain ⟨ρ, G, Qd, E, ok, h, hq, hx⟩ := h
  refine ⟨ρ, G, _, E, ok, h, fun d v ρ1 H1 ok1 s1 r1 h1 => ?_, hx⟩
  obtain ⟨ks, e, ⟨hl, h64⟩, h2⟩ := h1
  have rv : ∃ l, v = .ref l ∧ (SqL X.K H1 l (ks.map V.int) ∨ SqT X.K H1 l (ks.map V.int)) := by
    obtain ⟨k, a, vs, rfl, q, r⟩ := r1.seq e
    have e2 : vs = ks.map V.int := r.ints
    subst e2
    rw [F.K]
    have q2 := q.vis
    cases k with
    | true => exact ⟨a, rfl, .inl q2⟩
    | false => exact ⟨a, rfl, .inr q2⟩
  obtain ⟨l, rfl, hs⟩ := rv
  refine ⟨l, ks, rfl, hs, hl, fun p n hp hn => ?_⟩
  have n1 : (srt ks).length = n := hn _ (srt_up.imp fun h => Int.ne_of_lt h) fun k => mem_srt
  refine ⟨p, _, n, rfl, upd_same, by omega, fun ns p2 hu hm _ hp2 => ?_⟩
  have e3 : ns = srt ks := up_one hu srt_up fun k => by rw [hm k, decide_eq_true_eq, mem_srt]
  subst e3
  have ok2 := ok1.ext (same_upd (o := SetO X.w p (fun j => decide (j ∈ ks)) n) hp)
  have s2 : Stp Z σ ρ H σ ρ1 (upd H1 p (SetO X.w p (fun j => decide (j ∈ ks)) n)) := s1.trans (.ext (same_upd hp))
  obtain ⟨k1, k2, k3⟩ := ok2.laid hp2 (rp_ints (srt ks))
  exact hq _ _ p2 ρ1 _ k1 (s2.trans (.ext (same_upd hp2))) (s2.frs hp2) k2 upd_same k3 h2
theorem de_sortSet [GoodJ Z] [F : Fit X Z] {e : Expr} {t : DE} {p p2 pos pos2 : Pos} (hc : X.calm = true) (hm : Z.mg "sorted" = none) (hm2 : Z.mg "set" = none) (he : PE X e (upE Z W t)) (hg : Gl X "sorted" := by rfl) (hg2 : Gl X "set" := by rfl)
    (hs : starEach [.Call (.Name "set" p2) [e] [] pos2] X.env = (false, eval (.Call (.Name "set" p2) [e] [] pos2) X.env) :: starEach [] X.env := by rfl) (hpl : (backTo pos (starEach [] X.env)).any (·.1) = false := by rfl)
    (hs2 : starEach [e] X.env = (false, eval e X.env) :: starEach [] X.env := by rfl) (hpl2 : (backTo pos2 (starEach [] X.env)).any (·.1) = false := by rfl) :
    PE X (.Call (.Name "sorted" p) [.Call (.Name "set" p2) [e] [] pos2] [] pos) (upN Z W (nSS t)) :=
  PE.wk (pe_callB (cr_sortedSet hc) hg (by rw [F.mg]; exact hm) boot_sorted (pa_cons (pe_callTy (cr_setL hc) hg2 (by rw [F.mg]; exact hm2) PyProof.Rows.boot_set (pa_cons he pa_nil hs2) (by decide) (by decide) hs2 hpl2) pa_nil hs) (by decide) (by decide) hs hpl) up_ss
end
end TS
set_option Elab.async false
set_option linter.all false
set_option maxRecDepth 100000
set_option maxHeartbeats 4000000
set_option exponentiation.threshold 10000
/-! calls of a name that holds one of some defs -/
namespace TS
open PySem PySem.Spec PyProof.Rows L2
abbrev FTab : Type := List (Str × FS)
def dCallV (m : Nat) (tab : FTab) (i : Nat) (t : DA) : DE := fun ρ Q E => ∃ n F, slAt ρ i = .val (.glo n) ∧ tab.lookup n = some F ∧ dCall m F t ρ Q E
/-- the table's defs keep their laws -/
def TabD (P : Program) (w : World) (base : Heap) (Z : Zx) (k m : Nat) (tab : FTab) : Prop := ∀ n F, tab.lookup n = some F → ∃ k', k' ≤ k ∧ Df P w base Z k' n m F
theorem TabD.nil {P : Program} {w : World} {base : Heap} {Z : Zx} {k m : Nat} : TabD P w base Z k m [] := fun n F h => by cases h
theorem TabD.cons {P : Program} {w : World} {base : Heap} {Z : Zx} {k k' m : Nat} {n : Str} {F : FS} {tab : FTab} (d : Df P w base Z k' n m F) (t : TabD P w base Z k m tab) (h : k' ≤ k := by decide) : TabD P w base Z k m ((n, F) :: tab) := fun x G e => by
  rw [List.lookup_cons] at e
  split at e
  · rename_i q
    have q' : x = n := by simpa using q
    subst q'
    have e2 : F = G := Option.some.inj e
    subst e2
    exact ⟨k', h, d⟩
  · exact t x G e
section
variable {X : Cx} {Z : Zx} {W : WX}
theorem de_gloD [Fi : Fit X Z] {x : Str} {k m : Nat} {F : FS} {pos : Pos} (d : Df X.prog X.w X.base Z k x m F) (hg : Gl X x := by rfl) (hd : (x == ("__debug__" : Str)) = false := by decide) : PE X (.Name x pos) (upE Z W (dC (.glo x))) := by
  obtain ⟨f, _, _, _, hm, _⟩ := d.ex
  exact de_glo hm hg hd
theorem up_call {n : Nat} {f : FS} {t : DA} {σ : L2.St} {H : Hp} {Q : VK} (h : upE Z W (dCall n f t) σ H Q) : upA Z W t σ H fun vs H1 => upF Z n f (vs ++ []) H1 Q fun c d H' => W c d σ H' := by
  obtain ⟨ρ, G, Qd, E, ok, h, hq, hx⟩ := h
  refine ⟨ρ, G, _, E, ok, h, fun ds vs ρ1 H1 ok1 s1 r1 h1 => ?_, hx⟩
  obtain ⟨hl', h1⟩ := h1
  rw [List.append_nil]
  refine ⟨by rw [← r1.len]; exact hl', vals ds, Hid ρ1 σ G, _, _, ok1.args r1, h1, fun d v as' H' ok' s' r' q' => ?_, fun x c dd as' H' ok' s' p' q' => ?_⟩
  · obtain ⟨b1, b2, b3⟩ := ok1.back s' ok'.j
    exact hq d v ρ1 H' b1 (s1.trans b2) (r'.sub b3) q'
  · obtain ⟨b1, b2, _⟩ := ok1.back s' ok'.j
    exact hx x c dd ρ1 H' b1 (s1.trans b2) p' q'
theorem de_callV [Fi : Fit X Z] {k m i : Nat} {x : Str} {e : Expr} {es : List Expr} {tab : FTab} {t : DA} {p pos : Pos} (A : TabD X.prog X.w X.base Z k m tab) (tk : L2N.Takes X W) (hr : Room k X.A) (ha : PA X (e :: es) (upA Z W t))
    (hN : X.N[i]? = some x := by rfl) (hv : Vis X.env.scope x := by first | exact Or.inl rfl | exact Or.inr (Or.inl rfl) | exact Or.inr (Or.inr rfl))
    (hdb : (x == ("__debug__" : Str)) = false := by decide) (hcd : (x == ("__classdict__" : Str)) = false := by decide) (he : starEach (e :: es) X.env = (false, eval e X.env) :: starEach es X.env := by rfl) (hpl : (backTo pos (starEach es X.env)).any (·.1) = false := by rfl) :
    PE X (.Call (.Name x p) (e :: es) [] pos) (upE Z W (dCallV m tab i t)) := by
  refine ⟨fun pins s σ H Q I h => ?_⟩
  obtain ⟨ρ, G, Qd, E, ok, ⟨n, F, hsl, hS, ht⟩, hq, hx⟩ := h
  obtain ⟨v, hv1, a, rfl, hma⟩ := ok.val i _ hsl
  obtain ⟨k', hk', d⟩ := A n F hS
  obtain ⟨fa, fd, ps, hF, hm, hk, hb⟩ := d.ex
  have ea : fa = a := by
    rw [hm] at hma
    cases hma
    rfl
  subst ea
  have hK := Fi.K
  have hM := Fi.mg
  rw [← hK, ← hM] at hF
  rw [← hK] at hk hb
  refine wpAny_Call_Name_kw (thn ((pe_var (pos := p) hN hv hdb hcd).run pins s σ H (fun v H1 => v = .ref fa ∧ H1 = H) I ⟨.ref fa, hv1, rfl, rfl⟩) fun u s1 ⟨v, H1, I1, r1, q1⟩ => ?_)
  obtain ⟨rfl, rfl⟩ := q1
  cases r1
  refine PySem.W.callWith_K (h₀ := X.base) I.ok.mod.kin hk (thn (ha.run pos pins s1 σ _ _ I1 (up_call ⟨ρ, G, Qd, E, ok, ht, hq, hx⟩)) fun us s2 ⟨vs, H2, I2, r, q⟩ => ⟨I2.kIn, ?_⟩) he hpl
  exact run_fnSD (dvs := []) (E := fun σ c d H' => W c d σ H') hF (hr.mono hk') hb .nil (L2N.passAt tk σ) I2 r q
end
class MTab (tab : FTab) : Prop where
  m : ∀ n F, tab.lookup n = some F → MF F
instance : MTab [] := ⟨fun n F h => by cases h⟩
instance {n : Str} {F : FS} {tab : FTab} [M : MF F] [N : MTab tab] : MTab ((n, F) :: tab) := ⟨fun x G e => by
  rw [List.lookup_cons] at e
  split at e
  · have e2 : F = G := Option.some.inj e
    rw [← e2]
    exact M
  · exact N.m x G e⟩
instance {m : Nat} {tab : FTab} {i : Nat} {t : DA} [M : MTab tab] [N : MA t] : ME (dCallV m tab i t) := ⟨fun ρ Q Q' E E' hq hx ⟨n, F, h1, h2, h3⟩ => by
  haveI := M.m n F h2
  exact ⟨n, F, h1, h2, (inferInstance : ME (dCall m F t)).m ρ _ _ _ _ hq hx h3⟩⟩
instance {t : DE} [M : ME t] : MA (nSS t) := ⟨fun ρ Q Q' E E' hq hx h => M.m ρ _ _ _ _ (fun d s ⟨ks, e, h, q⟩ => ⟨ks, e, h, hq _ s q⟩) hx h⟩
@[simp] theorem dCallV_s {m : Nat} {tab : FTab} {i : Nat} {t : DA} {ρ : Rho} {Q : D → Rho → Prop} {E : EQ} : dCallV m tab i t ρ Q E = ∃ n F, slAt ρ i = .val (.glo n) ∧ tab.lookup n = some F ∧ dCall m F t ρ Q E := (rfl)
@[simp] theorem nSS_s {t : DE} {ρ : Rho} {Q : List D → Rho → Prop} {E : EQ} : nSS t ρ Q E = t ρ (fun d ρ' => ∃ ks : List Int, seqD d = some (ks.map D.int) ∧ (ks.length ≤ 4000 ∧ (srt ks).length < 64) ∧ Q ((srt ks).map D.int) ρ') E := (rfl)
end TS
set_option Elab.async false
set_option linter.all false
set_option maxRecDepth 100000
set_option maxHeartbeats 1000000
set_option exponentiation.threshold 10000
/-! people in lots: plain theory -/
namespace TS
/-! ### cuts and pieces -/
def wayCuts (size word : Int) (w : Wy) : List Int := if w.word = word then [w.start, (w.start + w.share) % size] else []
def cutsL (size word : Int) (hs : List Hs) : List Int := 0 :: hs.flatMap fun h => h.ways.flatMap (wayCuts size word)
def cutsOf (size word : Int) (hs : List Hs) : List Int := srt (cutsL size word hs)
def pcs (s : Int) : List Int → List (Int × Int)
  | [] => []
  | [c] => [(c, s - c)]
  | c :: d :: r => (c, d - c) :: pcs s (d :: r)
def allP (size : Int) (hs : List Hs) : List (Pn × Int) := [0, 1, 2].flatMap fun k => (pcs size (cutsOf size 0 hs)).flatMap fun a => (pcs size (cutsOf size 1 hs)).map fun b => (⟨k, a.1, b.1⟩, a.2 * b.2)
/-- every number of a house, one by one -/
def nums (size : Int) : List Int := (List.range size.toNat).map fun (i : Nat) => (i : Int)
def persons (size : Int) : List Pn := [0, 1, 2].flatMap fun k => (nums size).flatMap fun a => (nums size).map fun b => ⟨k, a, b⟩
/-- c is where the piece of x begins -/
def Rep (cuts : List Int) (c x : Int) : Prop := c ∈ cuts ∧ c ≤ x ∧ ∀ d ∈ cuts, d ≤ x → d ≤ c
theorem has_rep {s st sh c x : Int} (h1 : 0 ≤ st ∧ st < s) (h2 : 0 ≤ sh ∧ sh ≤ s) (hc : 0 ≤ c) (hx : c ≤ x ∧ x < s) (e1 : st ≤ x → st ≤ c) (e2 : (st + sh) % s ≤ x → (st + sh) % s ≤ c) :
    decide ((x - st) % s < sh) = decide ((c - st) % s < sh) := by
  rw [← has_mod h1 h2 (by omega), ← has_mod h1 h2 (by omega)]
  have e : (st + sh) % s = if st + sh < s then st + sh else st + sh - s := by
    split
    · exact Int.emod_eq_of_lt (by omega) (by omega)
    · rw [← Int.sub_emod_right, Int.emod_eq_of_lt (by omega) (by omega)]
  rw [e] at e2
  unfold hasB
  rw [Bool.eq_iff_iff]
  simp only [Bool.or_eq_true, Bool.and_eq_true, decide_eq_true_eq]
  split at e2 <;> omega
/-- two people are alike in a house -/
def AlikeIn (h : Hs) (p q : Pn) : Prop := ∀ w ∈ h.ways, ∀ acc, fitsB h.size w p acc = fitsB h.size w q acc
theorem seenGo_alike {size : Int} {p q : Pn} {bf : List Int} {bk : Option Int} : ∀ (ws : List Wy) (i : Nat) (acc : List Int), (∀ w ∈ ws, ∀ acc, fitsB size w p acc = fitsB size w q acc) → seenGo size p bf bk i ws acc = seenGo size q bf bk i ws acc
  | [], i, acc, _ => rfl
  | w :: ws, i, acc, h => by
    unfold seenGo
    rw [h w List.mem_cons_self acc]
    exact seenGo_alike ws (i + 1) _ fun v hv => h v (List.mem_cons_of_mem _ hv)
theorem seenAt_alike {h : Hs} {p q : Pn} (a : AlikeIn h p q) (bf : List Int) (bk : Option Int) : seenAt h p bf bk = seenAt h q bf bk := seenGo_alike h.ways 0 [] a
theorem moments_alike {p q : Pn} : ∀ (ts : List Tn) (h : Hs) (last : List Int), (∀ k ∈ along h ts, AlikeIn k p q) → moments p last h ts = moments q last h ts
  | [], h, last, _ => rfl
  | t :: ts, h, last, a => by
    have a2 : ∀ k ∈ along (turn h t) ts, AlikeIn k p q := fun k hk => a k (by simp only [along, List.mem_cons]; exact .inr hk)
    obtain ⟨r, e⟩ := along_head (turn h t) ts
    have a1 : AlikeIn (turn h t) p q := a2 _ (by rw [e]; exact List.mem_cons_self)
    unfold moments
    simp only []
    rw [seenAt_alike a1, moments_alike ts (turn h t) _ a2]
theorem history_alike {p q : Pn} {h : Hs} {ts : List Tn} (a : ∀ k ∈ along h ts, AlikeIn k p q) : history h p ts = history h q ts := by
  obtain ⟨r, e⟩ := along_head h ts
  unfold history
  simp only []
  rw [seenAt_alike (a h (by rw [e]; exact List.mem_cons_self)), moments_alike ts h _ a]
/-- who begins the pieces is like all in them -/
theorem rep_alike {size : Int} {hs : List Hs} {h : Hs} {k a b a' b' : Int} (hm : h ∈ hs) (hz : h.size = size) (g : GoodH h) (ha : Rep (cutsOf size 0 hs) a' a) (hb : Rep (cutsOf size 1 hs) b' b) (a0 : 0 ≤ a') (a1 : a < size) (b0 : 0 ≤ b') (b1 : b < size) : AlikeIn h ⟨k, a, b⟩ ⟨k, a', b'⟩ := fun w hw acc => by
  obtain ⟨i, hi, rfl⟩ := List.mem_iff_getElem.mp hw
  have gw := g.ways i _ (List.getElem?_eq_getElem hi)
  have inc : ∀ word : Int, (h.ways[i]).word = word → (h.ways[i]).start ∈ cutsOf size word hs ∧ ((h.ways[i]).start + (h.ways[i]).share) % size ∈ cutsOf size word hs := fun word e => by
    have z : ∀ x ∈ wayCuts size word h.ways[i], x ∈ cutsOf size word hs := fun x hx => mem_srt.mpr (List.mem_cons_of_mem _ (List.mem_flatMap.mpr ⟨h, hm, List.mem_flatMap.mpr ⟨_, hw, hx⟩⟩))
    unfold wayCuts at z
    rw [if_pos e] at z
    exact ⟨z _ List.mem_cons_self, z _ (List.mem_cons_of_mem _ List.mem_cons_self)⟩
  have st := gw.start
  have sh := gw.share
  rw [hz] at st sh
  have key : decide ((Pn.at ⟨k, a, b⟩ (h.ways[i]).word - (h.ways[i]).start) % h.size < (h.ways[i]).share) = decide ((Pn.at ⟨k, a', b'⟩ (h.ways[i]).word - (h.ways[i]).start) % h.size < (h.ways[i]).share) := by
    rw [hz]
    rcases gw.word with e | e
    · obtain ⟨m1, m2⟩ := inc 0 e
      have e3 : Pn.at ⟨k, a, b⟩ (h.ways[i]).word = a := by rw [e]; rfl
      have e4 : Pn.at ⟨k, a', b'⟩ (h.ways[i]).word = a' := by rw [e]; rfl
      rw [e3, e4]
      exact has_rep st sh a0 ⟨ha.2.1, a1⟩ (fun z => ha.2.2 _ m1 z) (fun z => ha.2.2 _ m2 z)
    · obtain ⟨m1, m2⟩ := inc 1 e
      have e3 : Pn.at ⟨k, a, b⟩ (h.ways[i]).word = b := by rw [e]; rfl
      have e4 : Pn.at ⟨k, a', b'⟩ (h.ways[i]).word = b' := by rw [e]; rfl
      rw [e3, e4]
      exact has_rep st sh b0 ⟨hb.2.1, b1⟩ (fun z => hb.2.2 _ m1 z) (fun z => hb.2.2 _ m2 z)
  unfold fitsB
  rw [key]
/-! ### sums over pieces -/
def sumI {α : Type} (f : α → Int) (l : List α) : Int := (l.map f).sum
@[simp] theorem sumI_nil {α : Type} {f : α → Int} : sumI f [] = 0 := rfl
@[simp] theorem sumI_cons {α : Type} {f : α → Int} {x : α} {l : List α} : sumI f (x :: l) = f x + sumI f l := by simp [sumI]
theorem sumI_app {α : Type} {f : α → Int} : ∀ {l m : List α}, sumI f (l ++ m) = sumI f l + sumI f m
  | [], m => by simp
  | x :: l, m => by rw [List.cons_append, sumI_cons, sumI_cons, sumI_app]; omega
theorem sumI_congr {α : Type} {f g : α → Int} : ∀ {l : List α}, (∀ x ∈ l, f x = g x) → sumI f l = sumI g l
  | [], _ => rfl
  | x :: l, h => by rw [sumI_cons, sumI_cons, h x List.mem_cons_self, sumI_congr fun y hy => h y (List.mem_cons_of_mem _ hy)]
theorem sumI_flat {α β : Type} {f : β → Int} {g : α → List β} : ∀ {l : List α}, sumI f (l.flatMap g) = sumI (fun x => sumI f (g x)) l
  | [] => rfl
  | x :: l => by rw [List.flatMap_cons, sumI_app, sumI_cons, sumI_flat]
theorem sumI_map {α β : Type} {f : β → Int} {g : α → β} : ∀ {l : List α}, sumI f (l.map g) = sumI (fun x => f (g x)) l
  | [] => rfl
  | x :: l => by rw [List.map_cons, sumI_cons, sumI_cons, sumI_map]
theorem sumI_mul {α : Type} {f : α → Int} {c : Int} : ∀ {l : List α}, sumI (fun x => c * f x) l = c * sumI f l
  | [] => by simp
  | x :: l => by rw [sumI_cons, sumI_cons, sumI_mul, Int.mul_add]
/-- the numbers from lo on, so many -/
def from_ (lo : Int) (n : Nat) : List Int := (List.range n).map fun (i : Nat) => lo + (i : Int)
theorem from_succ (lo : Int) (n : Nat) : from_ lo (n + 1) = lo :: from_ (lo + 1) n := by
  unfold from_
  rw [List.range_succ_eq_map, List.map_cons, List.map_map]
  congr 1
  · simp
  · apply List.map_congr_left
    intro i _
    simp only [Function.comp]
    omega
theorem from_add (lo : Int) (n m : Nat) : from_ lo (n + m) = from_ lo n ++ from_ (lo + n) m := by
  induction n generalizing lo with
  | zero => simp [from_]
  | succ n ih =>
    rw [Nat.succ_add, from_succ, from_succ, ih, List.cons_append]
    congr 3
    omega
theorem mem_from {lo x : Int} {n : Nat} : x ∈ from_ lo n ↔ lo ≤ x ∧ x < lo + n := by
  unfold from_
  rw [List.mem_map]
  constructor
  · rintro ⟨i, hi, rfl⟩
    have := List.mem_range.mp hi
    omega
  · rintro ⟨h1, h2⟩
    exact ⟨(x - lo).toNat, List.mem_range.mpr (by omega), by omega⟩
theorem sum_const {f : Int → Int} {v : Int} : ∀ (n : Nat) (lo : Int), (∀ x, lo ≤ x → x < lo + n → f x = v) → sumI f (from_ lo n) = n * v
  | 0, lo, _ => by simp [from_]
  | n + 1, lo, h => by
    rw [from_succ, sumI_cons, sum_const n (lo + 1) fun x h1 h2 => h x (by omega) (by omega), h lo (by omega) (by omega)]
    have : ((n + 1 : Nat) : Int) = (n : Int) + 1 := by omega
    rw [this, Int.add_mul]
    omega
/-- the piece of x -/
theorem pcs_sum {f : Int → Int} {s : Int} : ∀ (c : Int) (r : List Int), (c :: r).Pairwise (· < ·) → (∀ d ∈ c :: r, d < s) → (∀ x y, Rep (c :: r) y x → x < s → f x = f y) → sumI f (from_ c (s - c).toNat) = sumI (fun p => p.2 * f p.1) (pcs s (c :: r))
  | c, [], hp, hs, hf => by
    have hc := hs c List.mem_cons_self
    rw [sum_const (v := f c) _ _ fun x h1 h2 => hf x c ⟨List.mem_cons_self, h1, fun d hd _ => by simp at hd; omega⟩ (by omega)]
    simp only [pcs, sumI_cons, sumI_nil, Int.add_zero]
    congr 1
    omega
  | c, d :: r, hp, hs, hf => by
    obtain ⟨h1, h2⟩ := List.pairwise_cons.mp hp
    have hcd := h1 d List.mem_cons_self
    have hd := hs d (List.mem_cons_of_mem _ List.mem_cons_self)
    have e : (s - c).toNat = (d - c).toNat + (s - d).toNat := by omega
    have e2 : c + ((d - c).toNat : Int) = d := by omega
    rw [e, from_add, sumI_app, e2, pcs_sum d r h2 (fun x hx => hs x (List.mem_cons_of_mem _ hx)) fun x y hy hx => hf x y ⟨List.mem_cons_of_mem _ hy.1, hy.2.1, fun z hz hzx => by
      rcases List.mem_cons.mp hz with q | q
      · rw [q]
        rcases List.mem_cons.mp hy.1 with q2 | q2
        · omega
        · have := (List.pairwise_cons.mp h2).1 y q2
          omega
      · exact hy.2.2 z q hzx⟩ hx]
    rw [sum_const (v := f c) _ _ fun x q1 q2 => hf x c ⟨List.mem_cons_self, q1, fun z hz hzx => by
      rcases List.mem_cons.mp hz with q | q
      · omega
      · rcases List.mem_cons.mp q with q3 | q3
        · omega
        · have := (List.pairwise_cons.mp h2).1 z q3
          omega⟩ (by omega)]
    simp only [pcs, sumI_cons]
    congr 2
    omega
theorem rep_ex {cuts : List Int} {x : Int} (h0 : (0 : Int) ∈ cuts) (hx : 0 ≤ x) : ∃ c, Rep cuts c x ∧ 0 ≤ c := by
  have key : ∀ (l : List Int) (c : Int), 0 ≤ c → c ≤ x → (∀ d ∈ l, d ∈ cuts) → c ∈ cuts → ∃ c', c' ∈ cuts ∧ c' ≤ x ∧ 0 ≤ c' ∧ c ≤ c' ∧ ∀ d ∈ l, d ≤ x → d ≤ c' := by
    intro l
    induction l with
    | nil => intro c c0 cx _ hc; exact ⟨c, hc, cx, c0, Int.le_refl _, by simp⟩
    | cons d l ih =>
      intro c c0 cx hl hc
      by_cases q : d ≤ x ∧ c ≤ d
      · obtain ⟨c', h1, h2, h3, h4, h5⟩ := ih d (by omega) q.1 (fun y hy => hl y (List.mem_cons_of_mem _ hy)) (hl d List.mem_cons_self)
        exact ⟨c', h1, h2, h3, by omega, fun y hy hyx => by
          rcases List.mem_cons.mp hy with e | e
          · omega
          · exact h5 y e hyx⟩
      · obtain ⟨c', h1, h2, h3, h4, h5⟩ := ih c c0 cx (fun y hy => hl y (List.mem_cons_of_mem _ hy)) hc
        exact ⟨c', h1, h2, h3, h4, fun y hy hyx => by
          rcases List.mem_cons.mp hy with e | e
          · omega
          · exact h5 y e hyx⟩
  obtain ⟨c', h1, h2, h3, _, h5⟩ := key cuts 0 (Int.le_refl _) hx (fun d hd => hd) h0
  exact ⟨c', ⟨h1, h2, h5⟩, h3⟩
theorem rep_self {cuts : List Int} {c : Int} (h : c ∈ cuts) : Rep cuts c c := ⟨h, Int.le_refl _, fun _ _ z => z⟩
/-- houses of one size, all good -/
structure Lots (size : Int) (hs : List Hs) : Prop where
  good : ∀ h ∈ hs, GoodH h
  sz : ∀ h ∈ hs, h.size = size
  pos : 0 < size
theorem Lots.cut {size word : Int} {hs : List Hs} (l : Lots size hs) {d : Int} (h : d ∈ cutsOf size word hs) : 0 ≤ d ∧ d < size := by
  have hp := l.pos
  rcases List.mem_cons.mp (mem_srt.mp h) with e | e
  · omega
  · obtain ⟨g, hg, e⟩ := List.mem_flatMap.mp e
    obtain ⟨w, hw, e⟩ := List.mem_flatMap.mp e
    obtain ⟨i, hi, rfl⟩ := List.mem_iff_getElem.mp hw
    have gw := (l.good g hg).ways i _ (List.getElem?_eq_getElem hi)
    have st := gw.start
    rw [l.sz g hg] at st
    unfold wayCuts at e
    split at e
    · rcases List.mem_cons.mp e with e | e
      · omega
      · rw [List.mem_singleton.mp e]
        exact ⟨Int.emod_nonneg _ (by omega), Int.emod_lt_of_pos _ hp⟩
    · cases e
theorem cuts_zero {size word : Int} {hs : List Hs} : (0 : Int) ∈ cutsOf size word hs := mem_srt.mpr List.mem_cons_self
theorem Lots.cuts {size word : Int} {hs : List Hs} (l : Lots size hs) : ∃ r, cutsOf size word hs = 0 :: r := by
  have up := srt_up (ks := cutsL size word hs)
  have h0 := cuts_zero (size := size) (word := word) (hs := hs)
  have hc := fun d => l.cut (word := word) (d := d)
  unfold cutsOf at h0 hc ⊢
  match e : srt (cutsL size word hs) with
  | [] => rw [e] at h0; cases h0
  | c :: r =>
    rw [e] at h0 up hc
    have h1 := (hc c List.mem_cons_self).1
    rcases List.mem_cons.mp h0 with q | q
    · exact ⟨r, by rw [← q]⟩
    · have := (List.pairwise_cons.mp up).1 0 q
      omega
/-- f is the same for all in a lot -/
def Flat (size : Int) (hs : List Hs) {α : Type} (f : Pn → α) : Prop := ∀ k a b a' b', 0 ≤ k → k ≤ 2 → Rep (cutsOf size 0 hs) a' a → Rep (cutsOf size 1 hs) b' b → a < size → b < size → f ⟨k, a, b⟩ = f ⟨k, a', b'⟩
theorem nums_eq {size : Int} : nums size = from_ 0 size.toNat := by
  unfold nums from_
  apply List.map_congr_left
  intro i _
  omega
theorem lot_sum {size word : Int} {hs : List Hs} (l : Lots size hs) {f : Int → Int} (hf : ∀ x y, Rep (cutsOf size word hs) y x → x < size → f x = f y) : sumI f (nums size) = sumI (fun p => p.2 * f p.1) (pcs size (cutsOf size word hs)) := by
  obtain ⟨r, e⟩ := l.cuts (word := word)
  have up : (cutsOf size word hs).Pairwise (· < ·) := srt_up
  have hc := fun d => l.cut (word := word) (d := d)
  rw [e] at up hc hf ⊢
  rw [nums_eq, ← pcs_sum 0 r up (fun d hd => (hc d hd).2) hf]
  congr 3
  omega
theorem kinds3 {k : Int} (h : k ∈ ([0, 1, 2] : List Int)) : 0 ≤ k ∧ k ≤ 2 := by
  simp only [List.mem_cons, List.not_mem_nil, or_false] at h
  omega
/-- all people, one by one or by lots -/
theorem people_sum {size : Int} {hs : List Hs} (l : Lots size hs) {f : Pn → Int} (hf : Flat size hs f) : sumI f (persons size) = sumI (fun p => p.2 * f p.1) (allP size hs) := by
  unfold persons allP
  rw [sumI_flat, sumI_flat]
  refine sumI_congr fun k hk => ?_
  obtain ⟨k0, k2⟩ := kinds3 hk
  rw [sumI_flat, sumI_flat]
  simp only [sumI_map]
  have e1 : ∀ a, 0 ≤ a → a < size → sumI (fun b => f ⟨k, a, b⟩) (nums size) = sumI (fun p => p.2 * f ⟨k, a, p.1⟩) (pcs size (cutsOf size 1 hs)) := fun a a0 a1 => lot_sum l fun x y r hx => by
    obtain ⟨a', ra, _⟩ := rep_ex (x := a) (cuts_zero (size := size) (word := 0) (hs := hs)) a0
    rw [hf k a x a' y k0 k2 ra r a1 hx, hf k a y a' y k0 k2 ra (rep_self r.1) a1 (l.cut r.1).2]
  have e2 := lot_sum (word := 0) l (f := fun a => sumI (fun b => f ⟨k, a, b⟩) (nums size)) fun x y r hx => by
    have hy := l.cut r.1
    refine sumI_congr fun b hb => ?_
    rw [nums_eq] at hb
    have hb := mem_from.mp hb
    obtain ⟨b', rb, _⟩ := rep_ex (x := b) (cuts_zero (size := size) (word := 1) (hs := hs)) hb.1
    rw [hf k x b y b' k0 k2 r rb hx (by omega), hf k y b y b' k0 k2 (rep_self r.1) rb hy.2 (by omega)]
  rw [e2]
  refine sumI_congr fun p hp => ?_
  have pin : p.1 ∈ cutsOf size 0 hs := by
    have : ∀ (c : List Int) (q : Int × Int), q ∈ pcs size c → q.1 ∈ c := by
      intro c
      induction c with
      | nil => intro q hq; cases hq
      | cons x r ih =>
        intro q hq
        cases r with
        | nil => simp [pcs] at hq; subst hq; simp
        | cons y r =>
          simp only [pcs, List.mem_cons] at hq
          rcases hq with e | e
          · subst e; exact List.mem_cons_self
          · exact List.mem_cons_of_mem _ (ih q (by simpa [pcs] using e))
    exact this _ _ hp
  have pc := l.cut pin
  rw [e1 p.1 pc.1 pc.2, ← sumI_mul]
  refine sumI_congr fun q _ => ?_
  rw [Int.mul_assoc]
/-! ### the first one -/
theorem from_none {β : Type} {g : Int → Option β} : ∀ (n : Nat) (lo : Int), (∀ x, lo ≤ x → x < lo + n → g x = none) → (from_ lo n).findSome? g = none
  | 0, lo, _ => by simp [from_]
  | n + 1, lo, h => by
    rw [from_succ, List.findSome?_cons, h lo (by omega) (by omega)]
    exact from_none n (lo + 1) fun x h1 h2 => h x (by omega) (by omega)
theorem pcs_first {β : Type} {g : Int → Option β} {s : Int} : ∀ (c : Int) (r : List Int), (c :: r).Pairwise (· < ·) → (∀ d ∈ c :: r, d < s) → (∀ x y, Rep (c :: r) y x → x < s → g y = none → g x = none) → (from_ c (s - c).toNat).findSome? g = (pcs s (c :: r)).findSome? fun p => g p.1
  | c, [], hp, hs, hf => by
    have hc := hs c List.mem_cons_self
    have e : (s - c).toNat = (s - c - 1).toNat + 1 := by omega
    simp only [pcs, List.findSome?_cons, List.findSome?_nil]
    rw [e, from_succ, List.findSome?_cons]
    cases q : g c with
    | some v => rfl
    | none => exact from_none _ _ fun x h1 h2 => hf x c ⟨List.mem_cons_self, by omega, fun d hd _ => by simp at hd; omega⟩ (by omega) q
  | c, d :: r, hp, hs, hf => by
    obtain ⟨h1, h2⟩ := List.pairwise_cons.mp hp
    have hcd := h1 d List.mem_cons_self
    have hd := hs d (List.mem_cons_of_mem _ List.mem_cons_self)
    have e : (s - c).toNat = (d - c).toNat + (s - d).toNat := by omega
    have e2 : c + ((d - c).toNat : Int) = d := by omega
    have e3 : (d - c).toNat = (d - c - 1).toNat + 1 := by omega
    have ih := pcs_first (g := g) d r h2 (fun x hx => hs x (List.mem_cons_of_mem _ hx)) fun x y hy hx => hf x y ⟨List.mem_cons_of_mem _ hy.1, hy.2.1, fun z hz hzx => by
      rcases List.mem_cons.mp hz with q | q
      · rw [q]
        rcases List.mem_cons.mp hy.1 with q2 | q2
        · omega
        · have := (List.pairwise_cons.mp h2).1 y q2
          omega
      · exact hy.2.2 z q hzx⟩ hx
    rw [e, from_add, List.findSome?_append, e2, ih]
    simp only [pcs, List.findSome?_cons]
    rw [e3, from_succ, List.findSome?_cons]
    cases q : g c with
    | some v => rfl
    | none =>
      simp only []
      rw [from_none _ _ fun x q1 q2 => hf x c ⟨List.mem_cons_self, by omega, fun z hz hzx => by
        rcases List.mem_cons.mp hz with w | w
        · omega
        · rcases List.mem_cons.mp w with w2 | w2
          · omega
          · have := (List.pairwise_cons.mp h2).1 z w2
            omega⟩ (by omega) q]
      rfl
theorem lot_first {β : Type} {size word : Int} {hs : List Hs} (l : Lots size hs) {g : Int → Option β} (hf : ∀ x y, Rep (cutsOf size word hs) y x → x < size → g y = none → g x = none) : (nums size).findSome? g = (pcs size (cutsOf size word hs)).findSome? fun p => g p.1 := by
  obtain ⟨r, e⟩ := l.cuts (word := word)
  have up : (cutsOf size word hs).Pairwise (· < ·) := srt_up
  have hc := fun d => l.cut (word := word) (d := d)
  rw [e] at up hc hf ⊢
  rw [nums_eq, ← pcs_first 0 r up (fun d hd => (hc d hd).2) hf]
  congr 2
  omega
theorem findSome_flat {α β γ : Type} {f : α → List β} {g : β → Option γ} : ∀ {l : List α}, (l.flatMap f).findSome? g = l.findSome? fun a => (f a).findSome? g
  | [] => rfl
  | a :: l => by
    rw [List.flatMap_cons, List.findSome?_append, List.findSome?_cons, findSome_flat]
    cases (f a).findSome? g <;> rfl
theorem findSome_map {α β γ : Type} {f : α → β} {g : β → Option γ} {l : List α} : (l.map f).findSome? g = l.findSome? fun a => g (f a) := by
  induction l with
  | nil => rfl
  | cons a l ih => rw [List.map_cons, List.findSome?_cons, List.findSome?_cons, ih]
theorem findSome_congr {α β : Type} {g g' : α → Option β} : ∀ {l : List α}, (∀ a ∈ l, g a = g' a) → l.findSome? g = l.findSome? g'
  | [], _ => rfl
  | a :: l, h => by rw [List.findSome?_cons, List.findSome?_cons, h a List.mem_cons_self, findSome_congr fun b hb => h b (List.mem_cons_of_mem _ hb)]
theorem people_first {β : Type} {size : Int} {hs : List Hs} (l : Lots size hs) {g : Pn → Option β} (hf : Flat size hs fun p => (g p).isNone) : (persons size).findSome? g = (allP size hs).findSome? fun p => g p.1 := by
  unfold persons allP
  rw [findSome_flat, findSome_flat]
  refine findSome_congr fun k hk => ?_
  obtain ⟨k0, k2⟩ := kinds3 hk
  rw [findSome_flat, findSome_flat]
  simp only [findSome_map]
  have non : ∀ {x y : Option β}, x.isNone = y.isNone → y = none → x = none := fun {x y} e h => by
    subst h
    cases x
    · rfl
    · cases e
  have e1 : ∀ a, 0 ≤ a → a < size → (nums size).findSome? (fun b => g ⟨k, a, b⟩) = (pcs size (cutsOf size 1 hs)).findSome? (fun p => g ⟨k, a, p.1⟩) := fun a a0 a1 => lot_first l fun x y r hx => non (by
    obtain ⟨a', ra, _⟩ := rep_ex (x := a) (cuts_zero (size := size) (word := 0) (hs := hs)) a0
    have z1 := hf k a x a' y k0 k2 ra r a1 hx
    have z2 := hf k a y a' y k0 k2 ra (rep_self r.1) a1 (l.cut r.1).2
    exact z1.trans z2.symm)
  have e2 := lot_first (word := 0) l (g := fun a => (nums size).findSome? fun b => g ⟨k, a, b⟩) fun x y r hx hn => by
    have hy := l.cut r.1
    rw [List.findSome?_eq_none_iff] at hn ⊢
    intro b hb
    have hb' := hb
    rw [nums_eq] at hb'
    have hb' := mem_from.mp hb'
    obtain ⟨b', rb, _⟩ := rep_ex (x := b) (cuts_zero (size := size) (word := 1) (hs := hs)) hb'.1
    have z1 := hf k x b y b' k0 k2 r rb hx (by omega)
    have z2 := hf k y b y b' k0 k2 (rep_self r.1) rb hy.2 (by omega)
    exact non (z1.trans z2.symm) (hn b hb)
  rw [e2]
  refine findSome_congr fun p hp => ?_
  have pin : p.1 ∈ cutsOf size 0 hs := by
    have : ∀ (c : List Int) (q : Int × Int), q ∈ pcs size c → q.1 ∈ c := by
      intro c
      induction c with
      | nil => intro q hq; cases hq
      | cons x r ih =>
        intro q hq
        cases r with
        | nil => simp [pcs] at hq; subst hq; simp
        | cons y r =>
          simp only [pcs, List.mem_cons] at hq
          rcases hq with e | e
          · subst e; exact List.mem_cons_self
          · exact List.mem_cons_of_mem _ (ih q (by simpa [pcs] using e))
    exact this _ _ hp
  have pc := l.cut pin
  exact e1 p.1 pc.1 pc.2
/-- what is seen by a row is the same for all in a lot -/
theorem flat_history {size : Int} {hs : List Hs} (l : Lots size hs) {h : Hs} {ts : List Tn} (hm : ∀ k ∈ along h ts, k ∈ hs) : Flat size hs fun p => history h p ts := fun k a b a' b' _ _ ra rb ha hb =>
  history_alike fun g hg => rep_alike (hm g hg) (l.sz g (hm g hg)) (l.good g (hm g hg)) ra rb (l.cut ra.1).1 ha (l.cut rb.1).1 hb
end TS
set_option Elab.async false
set_option linter.all false
set_option maxRecDepth 100000
set_option maxHeartbeats 1000000
set_option exponentiation.threshold 10000
/-! people in lots: what the defs give -/
namespace TS
open PySem PySem.Spec PyProof.Rows L2
@[simp] theorem tYesD_s {ρ : Rho} {Q : Bool → Rho → Prop} {E : EQ} : tYesD ρ Q E = Q true ρ := (rfl)
def pairD (p : Int × Int) : D := .tup [.int p.1, .int p.2]
def pmD (p : Pn × Int) : D := .tup [p.1.d, .int p.2]
def hisD (h : Hs) (ts : List Tn) (p : Pn × Int) : D := .tup [p.1.d, .int p.2, .lst ((history h p.1 ts).map intsD)]
def lawD (h : Hs) (ts : List Tn) (p : Pn) : D := .tup [p.d, .tup ((history h p ts).map intsD)]
/-! ### what is refused -/
abbrev Need (hd rd : D) (E : Exc → Prop) (K : Hs → List Tn → Prop) : Prop :=
  (pd hd ∧ pd rd ∧ hasHouse hd = false ∧ E ⟨"InvalidHouse", none⟩) ∨ ∃ h : Hs, hd = h.d ∧ GoodH h ∧ ((pd rd ∧ hasRow h.size h.ways.length rd = false ∧ E ⟨"InvalidRow", none⟩) ∨ ∃ ts : List Tn, rd = .tup (ts.map Tn.d) ∧ GoodR h ts ∧ K h ts)
def okWay (many : Nat) (d : D) : Bool := isWhole d 0 ((many : Int) - 1)
abbrev NeedW (many : Nat) (ds : List D) (E : Exc → Prop) (K : List Int → Prop) : Prop :=
  (∀ d ∈ ds, pd d) ∧ ((ds.all (okWay many) = false ∧ E ⟨"InvalidWay", none⟩) ∨ ∃ ws : List Int, ds = ws.map D.int ∧ (∀ w ∈ ws, 0 ≤ w ∧ w < many) ∧ K ws)
theorem need_row_ok {hd rd : D} {E : Exc → Prop} {K : Hs → List Tn → Prop} {Q : D → Prop} (n : Need hd rd E K) (k : ∀ h ts, hd = h.d → rd = .tup (ts.map Tn.d) → GoodH h → GoodR h ts → K h ts → Q .non) : S_need_row [hd, rd] Q E := by
  rcases n with ⟨h1, h2, h3, h4⟩ | ⟨h, rfl, g, ⟨h2, h3, h4⟩ | ⟨ts, rfl, gr, z⟩⟩
  · exact ⟨h1, h2, fun _ => h4, fun z => (by rw [h3] at z; cases z), fun z => (by rw [h3] at z; cases z)⟩
  · refine ⟨pd_house g, h2, fun z => (by rw [house_ok g] at z; cases z), fun _ _ => h4, fun _ z => ?_⟩
    have e : hasRow (hSize h.d) (hMany h.d) rd = hasRow h.size h.ways.length rd := by simp [Hs.d, hSize, hMany]
    rw [e, h3] at z
    cases z
  · have e : hasRow (hSize h.d) (hMany h.d) (.tup (ts.map Tn.d)) = true := by
      have e2 : hasRow (hSize h.d) (hMany h.d) (.tup (ts.map Tn.d)) = hasRow h.size h.ways.length (.tup (ts.map Tn.d)) := by simp [Hs.d, hSize, hMany]
      rw [e2]
      exact row_ok g gr
    exact ⟨pd_house g, pd_tns g gr, fun z => (by rw [house_ok g] at z; cases z), fun _ z => (by rw [e] at z; cases z), fun _ _ => k h ts rfl rfl g gr z⟩
def S_need_ways : SV
  | [hd, .tup ds], Q, E => ∃ size ws, Hsh hd size ws ∧ (∀ d ∈ ds, pd d) ∧ (ds.all (okWay ws.length) = true → Q .non) ∧ (ds.all (okWay ws.length) = false → E ⟨"InvalidWay", none⟩)
  | _, _, _ => False
abbrev F_need_ways : FS := FV S_need_ways
instance : MSV S_need_ways := ⟨fun ds Q Q' E E' hq hx => by
  unfold S_need_ways
  split <;> repeat' (first | exact fun h => h | exact fun h => h.elim | exact hq _ | exact hq _ _ | exact hx _ | exact hx _ _ | apply And.imp | apply Or.imp | (apply Exists.imp; intro _) | (apply forall_imp; intro _))⟩
theorem okWay_ints {many : Nat} {ws : List Int} (h : ∀ w ∈ ws, 0 ≤ w ∧ w < many) : (ws.map D.int).all (okWay many) = true := by
  rw [List.all_map, List.all_eq_true]
  intro w hw
  have := h w hw
  simp only [Function.comp, okWay]
  exact isWhole_i.mpr (by omega)
theorem need_ways_ok {h : Hs} {ds : List D} {E : Exc → Prop} {K : List Int → Prop} {Q : D → Prop} (n : NeedW h.ways.length ds E K) (k : ∀ ws : List Int, ds = ws.map D.int → (∀ w ∈ ws, 0 ≤ w ∧ w < h.ways.length) → K ws → Q .non) : S_need_ways [h.d, .tup ds] Q E := by
  obtain ⟨hp, ⟨h1, h2⟩ | ⟨ws, rfl, hw, z⟩⟩ := n
  · exact ⟨h.size, h.ways.map Wy.d, rfl, hp, fun q => (by rw [List.length_map, h1] at q; cases q), fun _ => h2⟩
  · exact ⟨h.size, h.ways.map Wy.d, rfl, hp, fun _ => k ws rfl hw z, fun q => (by rw [List.length_map, okWay_ints hw] at q; cases q)⟩
/-! ### lots -/
structure Few (size : Int) (hs : List Hs) : Prop where
  lots : Lots size hs
  ne : hs ≠ []
  len : hs.length ≤ 100
  c0 : (cutsOf size 0 hs).length < 64
  c1 : (cutsOf size 1 hs).length < 64
def S_cuts_of : SV
  | [.lst hds, .int word], Q, _ => ∃ size hs, hds = hs.map Hs.d ∧ Few size hs ∧ (word = 0 ∨ word = 1) ∧ Q (.lst ((cutsOf size word hs).map .int))
  | _, _, _ => False
abbrev F_cuts_of : FS := FV S_cuts_of
instance : MSV S_cuts_of := ⟨fun ds Q Q' E E' hq hx => by
  unfold S_cuts_of
  split <;> repeat' (first | exact fun h => h | exact fun h => h.elim | exact hq _ | exact hq _ _ | exact hx _ | exact hx _ _ | apply And.imp | apply Or.imp | (apply Exists.imp; intro _) | (apply forall_imp; intro _))⟩
def S_pieces : SV
  | [.lst hds, .int word], Q, _ => ∃ size hs, hds = hs.map Hs.d ∧ Few size hs ∧ (word = 0 ∨ word = 1) ∧ Q (.lst ((pcs size (cutsOf size word hs)).map pairD))
  | _, _, _ => False
abbrev F_pieces : FS := FV S_pieces
instance : MSV S_pieces := ⟨fun ds Q Q' E E' hq hx => by
  unfold S_pieces
  split <;> repeat' (first | exact fun h => h | exact fun h => h.elim | exact hq _ | exact hq _ _ | exact hx _ | exact hx _ _ | apply And.imp | apply Or.imp | (apply Exists.imp; intro _) | (apply forall_imp; intro _))⟩
def S_all_people : SV
  | [.lst hds], Q, _ => ∃ size hs, hds = hs.map Hs.d ∧ Few size hs ∧ Q (.lst ((allP size hs).map pmD))
  | _, _, _ => False
abbrev F_all_people : FS := FV S_all_people
instance : MSV S_all_people := ⟨fun ds Q Q' E E' hq hx => by
  unfold S_all_people
  split <;> repeat' (first | exact fun h => h | exact fun h => h.elim | exact hq _ | exact hq _ _ | exact hx _ | exact hx _ _ | apply And.imp | apply Or.imp | (apply Exists.imp; intro _) | (apply forall_imp; intro _))⟩
def S_histories : SV
  | [hd, rd], Q, _ => ∃ (h : Hs) (ts : List Tn), hd = h.d ∧ rd = .tup (ts.map Tn.d) ∧ GoodH h ∧ GoodR h ts ∧ Q (.lst ((allP h.size (along h ts)).map (hisD h ts)))
  | _, _, _ => False
abbrev F_histories : FS := FV S_histories
instance : MSV S_histories := ⟨fun ds Q Q' E E' hq hx => by
  unfold S_histories
  split <;> repeat' (first | exact fun h => h | exact fun h => h.elim | exact hq _ | exact hq _ _ | exact hx _ | exact hx _ _ | apply And.imp | apply Or.imp | (apply Exists.imp; intro _) | (apply forall_imp; intro _))⟩
def lastSeen (h : Hs) (ts : List Tn) (p : Pn) : List Int := (history h p ts).getLastD []
def seesAll (h : Hs) (ts : List Tn) (ws : List Int) (kind : Int) (p : Pn) : Bool := p.kind == kind && ws.all fun w => (lastSeen h ts p).contains w
def one (b : Bool) : Int := if b then 1 else 0
def seersN (h : Hs) (ts : List Tn) (ws : List Int) (kind : Int) : Int := sumI (fun pm => pm.2 * one (seesAll h ts ws kind pm.1)) (allP h.size (along h ts))
def S_seers : SV
  | [hd, rd, .tup wds, .int kind], Q, _ => ∃ (h : Hs) (ts : List Tn) (ws : List Int), hd = h.d ∧ rd = .tup (ts.map Tn.d) ∧ wds = ws.map D.int ∧ ws.length ≤ 100 ∧ GoodH h ∧ GoodR h ts ∧ Q (.int (seersN h ts ws kind))
  | _, _, _ => False
abbrev F_seers : FS := FV S_seers
instance : MSV S_seers := ⟨fun ds Q Q' E E' hq hx => by
  unfold S_seers
  split <;> repeat' (first | exact fun h => h | exact fun h => h.elim | exact hq _ | exact hq _ _ | exact hx _ | exact hx _ _ | apply And.imp | apply Or.imp | (apply Exists.imp; intro _) | (apply forall_imp; intro _))⟩
def lowest (t b : Int) : Int × Int := (t / (Int.gcd t b : Int), b / (Int.gcd t b : Int))
def S_divided : SV
  | [.int t, .int b], Q, _ => (0 < b ∧ b < 2 ^ 4000) ∧ Q (pairD (lowest t b))
  | _, _, _ => False
abbrev F_divided : FS := FV S_divided
abbrev F_law_lowest : FS := FV S_divided
instance : MSV S_divided := ⟨fun ds Q Q' E E' hq hx => by
  unfold S_divided
  split <;> repeat' (first | exact fun h => h | exact fun h => h.elim | exact hq _ | exact hq _ _ | exact hx _ | exact hx _ _ | apply And.imp | apply Or.imp | (apply Exists.imp; intro _) | (apply forall_imp; intro _))⟩
def hangF (h : Hs) (ts : List Tn) (a b kind : Int) : Int × Int := lowest (seersN h ts [a, b] kind * (h.size * h.size) - seersN h ts [a] kind * seersN h ts [b] kind) (h.size * h.size * (h.size * h.size))
def S_hanging : SV
  | [hd, rd, .int a, .int b, .int kind], Q, _ => ∃ (h : Hs) (ts : List Tn), hd = h.d ∧ rd = .tup (ts.map Tn.d) ∧ GoodH h ∧ GoodR h ts ∧ Q (pairD (hangF h ts a b kind))
  | _, _, _ => False
abbrev F_hanging : FS := FV S_hanging
instance : MSV S_hanging := ⟨fun ds Q Q' E E' hq hx => by
  unfold S_hanging
  split <;> repeat' (first | exact fun h => h | exact fun h => h.elim | exact hq _ | exact hq _ _ | exact hx _ | exact hx _ _ | apply And.imp | apply Or.imp | (apply Exists.imp; intro _) | (apply forall_imp; intro _))⟩
abbrev NeedK (d : D) (E : Exc → Prop) (K : Int → Prop) : Prop := pd d ∧ ((isWhole d 0 2 = false ∧ E ⟨"InvalidKind", none⟩) ∨ ∃ k : Int, d = .int k ∧ (0 ≤ k ∧ k ≤ 2) ∧ K k)
def S_need_kind : SV
  | [hd, rd, a, b, kd], Q, E => Need hd rd E fun h ts => NeedW h.ways.length [a, b] E fun _ => NeedK kd E fun _ => Q .non
  | _, _, _ => False
abbrev F_need_kind : FS := FV S_need_kind
instance : MSV S_need_kind := ⟨fun ds Q Q' E E' hq hx => by
  unfold S_need_kind
  split <;> repeat' (first | exact fun h => h | exact fun h => h.elim | exact hq _ | exact hq _ _ | exact hx _ | exact hx _ _ | apply And.imp | apply Or.imp | (apply Exists.imp; intro _) | (apply forall_imp; intro _))⟩
def S_hang : SV
  | [hd, rd, a, b, kd], Q, E => Need hd rd E fun h ts => NeedW h.ways.length [a, b] E fun ws => NeedK kd E fun k => ∀ x y, ws = [x, y] → Q (pairD (hangF h ts x y k))
  | _, _, _ => False
abbrev F_hang : FS := FV S_hang
instance : MSV S_hang := ⟨fun ds Q Q' E E' hq hx => by
  unfold S_hang
  split <;> repeat' (first | exact fun h => h | exact fun h => h.elim | exact hq _ | exact hq _ _ | exact hx _ | exact hx _ _ | apply And.imp | apply Or.imp | (apply Exists.imp; intro _) | (apply forall_imp; intro _))⟩
def S_apart : SV
  | [hd, rd, a, b, kd], Q, E => Need hd rd E fun h ts => NeedW h.ways.length [a, b] E fun ws => NeedK kd E fun k => ∀ x y, ws = [x, y] → Q (.bl ((hangF h ts x y k).1 == 0))
  | _, _, _ => False
abbrev F_apart : FS := FV S_apart
instance : MSV S_apart := ⟨fun ds Q Q' E E' hq hx => by
  unfold S_apart
  split <;> repeat' (first | exact fun h => h | exact fun h => h.elim | exact hq _ | exact hq _ _ | exact hx _ | exact hx _ _ | apply And.imp | apply Or.imp | (apply Exists.imp; intro _) | (apply forall_imp; intro _))⟩
def S_apart_kinds : SV
  | [hd, rd, a, b], Q, E => Need hd rd E fun h ts => NeedW h.ways.length [a, b] E fun ws => ∀ x y, ws = [x, y] → Q (.lst ((([0, 1, 2] : List Int).filter fun k => (hangF h ts x y k).1 == 0).map .int))
  | _, _, _ => False
abbrev F_apart_kinds : FS := FV S_apart_kinds
instance : MSV S_apart_kinds := ⟨fun ds Q Q' E E' hq hx => by
  unfold S_apart_kinds
  split <;> repeat' (first | exact fun h => h | exact fun h => h.elim | exact hq _ | exact hq _ _ | exact hx _ | exact hx _ _ | apply And.imp | apply Or.imp | (apply Exists.imp; intro _) | (apply forall_imp; intro _))⟩
/-! ### the law's defs -/
def S_law_people : SV
  | [.int size], Q, _ => (0 < size ∧ size ≤ 100) ∧ Q (.lst ((persons size).map Pn.d))
  | _, _, _ => False
abbrev F_law_people : FS := FV S_law_people
instance : MSV S_law_people := ⟨fun ds Q Q' E E' hq hx => by
  unfold S_law_people
  split <;> repeat' (first | exact fun h => h | exact fun h => h.elim | exact hq _ | exact hq _ _ | exact hx _ | exact hx _ _ | apply And.imp | apply Or.imp | (apply Exists.imp; intro _) | (apply forall_imp; intro _))⟩
def S_law_all_seen : SV
  | [hd, rd], Q, _ => ∃ (h : Hs) (ts : List Tn), hd = h.d ∧ rd = .tup (ts.map Tn.d) ∧ GoodH h ∧ GoodR h ts ∧ h.size ≤ 100 ∧ Q (.lst ((persons h.size).map (lawD h ts)))
  | _, _, _ => False
abbrev F_law_all_seen : FS := FV S_law_all_seen
instance : MSV S_law_all_seen := ⟨fun ds Q Q' E E' hq hx => by
  unfold S_law_all_seen
  split <;> repeat' (first | exact fun h => h | exact fun h => h.elim | exact hq _ | exact hq _ _ | exact hx _ | exact hx _ _ | apply And.imp | apply Or.imp | (apply Exists.imp; intro _) | (apply forall_imp; intro _))⟩
def S_law_hang : SV
  | [hd, rd, .int a, .int b, .int kind], Q, _ => ∃ (h : Hs) (ts : List Tn), hd = h.d ∧ rd = .tup (ts.map Tn.d) ∧ GoodH h ∧ GoodR h ts ∧ h.size ≤ 100 ∧ (0 ≤ kind ∧ kind ≤ 2) ∧ Q (pairD (hangF h ts a b kind))
  | _, _, _ => False
abbrev F_law_hang : FS := FV S_law_hang
instance : MSV S_law_hang := ⟨fun ds Q Q' E E' hq hx => by
  unfold S_law_hang
  split <;> repeat' (first | exact fun h => h | exact fun h => h.elim | exact hq _ | exact hq _ _ | exact hx _ | exact hx _ _ | apply And.imp | apply Or.imp | (apply Exists.imp; intro _) | (apply forall_imp; intro _))⟩
def S_law_truly : SV
  | [.bl a, .bl b], Q, _ => Q (.bl (a == b))
  | _, _, _ => False
abbrev F_law_truly : FS := FV S_law_truly
instance : MSV S_law_truly := ⟨fun ds Q Q' E E' hq hx => by
  unfold S_law_truly
  split <;> repeat' (first | exact fun h => h | exact fun h => h.elim | exact hq _ | exact hq _ _ | exact hx _ | exact hx _ _ | apply And.imp | apply Or.imp | (apply Exists.imp; intro _) | (apply forall_imp; intro _))⟩
/-! ### facts -/
theorem sins_len {k : Int} : ∀ {l : List Int}, (sins k l).length ≤ l.length + 1
  | [] => by simp [sins]
  | x :: r => by
    have := sins_len (k := k) (l := r)
    unfold sins
    split
    · simp
    · split <;> simp <;> omega
theorem srt_len : ∀ {l : List Int}, (srt l).length ≤ l.length
  | [] => by simp [srt]
  | k :: r => by
    have h1 := srt_len (l := r)
    have h2 := sins_len (k := k) (l := srt r)
    show (sins k (srt r)).length ≤ r.length + 1
    omega
theorem wayCuts_len {size word : Int} {w : Wy} : (wayCuts size word w).length ≤ 2 := by
  unfold wayCuts
  split <;> simp
theorem flat_len {α β : Type} {f : α → List β} {n : Nat} : ∀ {l : List α}, (∀ x ∈ l, (f x).length ≤ n) → (l.flatMap f).length ≤ n * l.length
  | [], _ => by simp
  | x :: l, h => by
    rw [List.flatMap_cons, List.length_append, List.length_cons, Nat.mul_succ]
    have h1 := h x List.mem_cons_self
    have h2 := flat_len (l := l) fun y hy => h y (List.mem_cons_of_mem _ hy)
    omega
theorem cutsL_len {size word : Int} {hs : List Hs} (g : ∀ h ∈ hs, GoodH h) : (cutsL size word hs).length ≤ 6 * hs.length + 1 := by
  unfold cutsL
  rw [List.length_cons]
  have := flat_len (n := 6) (l := hs) (f := fun h => h.ways.flatMap (wayCuts size word)) fun h hh => by
    have h1 := flat_len (n := 2) (l := h.ways) (f := wayCuts size word) fun w _ => wayCuts_len
    have h2 := (g h hh).many
    omega
  omega
theorem along_cnt : ∀ {ts : List Tn} {h : Hs}, (along h ts).length = ts.length + 1
  | [], h => rfl
  | t :: ts, h => by
    simp only [along, List.length_cons]
    rw [along_cnt]
theorem along_lots {h : Hs} {ts : List Tn} (g : GoodH h) (gr : GoodR h ts) : Lots h.size (along h ts) := ⟨along_good g gr.2, fun k hk => along_size hk, by have := g.size; omega⟩
theorem along_few {h : Hs} {ts : List Tn} (g : GoodH h) (gr : GoodR h ts) : Few h.size (along h ts) := by
  have l := along_lots g gr
  have n := along_cnt (h := h) (ts := ts)
  have h6 := gr.1
  have c : ∀ word, (cutsOf h.size word (along h ts)).length < 64 := fun word => by
    have h1 := srt_len (l := cutsL h.size word (along h ts))
    have h2 := cutsL_len (size := h.size) (word := word) l.good
    unfold cutsOf
    omega
  exact ⟨l, fun z => by rw [z] at n; simp at n, by omega, c 0, c 1⟩
theorem pcs_in {s : Int} : ∀ {c : List Int}, c.Pairwise (· < ·) → (∀ d ∈ c, 0 ≤ d ∧ d < s) → ∀ p ∈ pcs s c, p.1 ∈ c ∧ 0 < p.2 ∧ p.2 ≤ s
  | [], _, _, p, hp => by cases hp
  | [c], _, h, p, hp => by
    have := h c List.mem_cons_self
    simp [pcs] at hp
    subst hp
    refine ⟨List.mem_cons_self, ?_, ?_⟩
    · show 0 < s - c
      omega
    · show s - c ≤ s
      omega
  | c :: d :: r, up, h, p, hp => by
    obtain ⟨h1, h2⟩ := List.pairwise_cons.mp up
    have b1 := h c List.mem_cons_self
    have b2 := h d (List.mem_cons_of_mem _ List.mem_cons_self)
    have b3 := h1 d List.mem_cons_self
    have hp' : p ∈ (c, d - c) :: pcs s (d :: r) := hp
    rcases List.mem_cons.mp hp' with e | e
    · subst e
      refine ⟨List.mem_cons_self, ?_, ?_⟩
      · show 0 < d - c
        omega
      · show d - c ≤ s
        omega
    · obtain ⟨q1, q2⟩ := pcs_in h2 (fun x hx => h x (List.mem_cons_of_mem _ hx)) p e
      exact ⟨List.mem_cons_of_mem _ q1, q2⟩
theorem Few.pc {size word : Int} {hs : List Hs} (f : Few size hs) {p : Int × Int} (h : p ∈ pcs size (cutsOf size word hs)) : (0 ≤ p.1 ∧ p.1 < size) ∧ 0 < p.2 ∧ p.2 ≤ size := by
  obtain ⟨h1, h2⟩ := pcs_in srt_up (fun d hd => f.lots.cut hd) p h
  exact ⟨f.lots.cut h1, h2⟩
theorem Few.big {size : Int} {hs : List Hs} (f : Few size hs) : size ≤ 1000000000000000000000000000000 := by
  cases e : hs with
  | nil => exact absurd e f.ne
  | cons h r =>
    have hm : h ∈ hs := by rw [e]; exact List.mem_cons_self
    have := (f.lots.good h hm).size
    rw [f.lots.sz h hm] at this
    exact this.2
theorem big_abs {i : Int} (h0 : 0 ≤ i) (h : i ≤ 1000000000000000000000000000000) : i.natAbs < 2 ^ 4000 := by
  have h1 : i.natAbs < 2 ^ 100 := by
    have e : (2 : Nat) ^ 100 = 1267650600228229401496703205376 := by decide +kernel
    rw [e]
    omega
  exact Nat.lt_trans h1 (by decide +kernel)
theorem pcs_len {s : Int} : ∀ {c : List Int}, (pcs s c).length = c.length
  | [] => rfl
  | [c] => rfl
  | c :: d :: r => by
    show ((c, d - c) :: pcs s (d :: r)).length = _
    rw [List.length_cons, pcs_len]
    rfl
abbrev lotsK (size : Int) (hs : List Hs) (k : Int) : List (Pn × Int) := (pcs size (cutsOf size 0 hs)).flatMap fun a => (pcs size (cutsOf size 1 hs)).map fun b => (⟨k, a.1, b.1⟩, a.2 * b.2)
theorem allP_len {size : Int} {hs : List Hs} (f : Few size hs) : (allP size hs).length ≤ 12000 := by
  have h1 := f.c0
  have h2 := f.c1
  have e : ∀ k : Int, (lotsK size hs k).length ≤ 63 * 63 := fun k => by
    have z := flat_len (n := 63) (l := pcs size (cutsOf size 0 hs)) (f := fun a => (pcs size (cutsOf size 1 hs)).map fun b => ((⟨k, a.1, b.1⟩, a.2 * b.2) : Pn × Int)) fun x _ => by
      rw [List.length_map, pcs_len]
      omega
    rw [pcs_len] at z
    have z2 : (lotsK size hs k).length ≤ 63 * (cutsOf size 0 hs).length := z
    omega
  have z := flat_len (n := 63 * 63) (l := ([0, 1, 2] : List Int)) (f := lotsK size hs) fun x _ => e x
  have e2 : allP size hs = ([0, 1, 2] : List Int).flatMap (lotsK size hs) := rfl
  rw [e2]
  simp only [List.length_cons, List.length_nil] at z
  omega
end TS
set_option Elab.async false
set_option linter.all false
set_option maxRecDepth 100000
set_option maxHeartbeats 1000000
set_option exponentiation.threshold 10000
/-! counts by all people -/
namespace TS
open PySem PySem.Spec PyProof.Rows L2
theorem fm_map {α : Type} {f : D → Option D} {g : α → D} {P : α → Bool} {k : α → D} : ∀ {l : List α}, (∀ p ∈ l, f (g p) = if P p = true then some (k p) else none) → (l.map g).filterMap f = (l.filter P).map k
  | [], _ => rfl
  | p :: l, h => by
    have ih := fm_map (l := l) fun q hq => h q (List.mem_cons_of_mem _ hq)
    have e := h p List.mem_cons_self
    rw [List.map_cons]
    cases q : P p with
    | true =>
      rw [q, if_pos rfl] at e
      rw [List.filterMap_cons_some e, ih, List.filter_cons_of_pos q, List.map_cons]
    | false =>
      rw [q, if_neg (by decide)] at e
      rw [List.filterMap_cons_none e, ih, List.filter_cons_of_neg (by rw [q]; decide)]
theorem fm_all {α : Type} {f : D → Option D} {g : α → D} {k : α → D} {l : List α} (h : ∀ p ∈ l, f (g p) = some (k p)) : (l.map g).filterMap f = l.map k := by
  have z := fm_map (P := fun _ => true) (k := k) (l := l) (f := f) (g := g) fun p hp => by rw [h p hp]; rfl
  rw [z, List.filter_eq_self.mpr fun _ _ => rfl]
theorem sumI_one {α : Type} {P : α → Bool} : ∀ {l : List α}, sumI (fun p => one (P p)) l = ((l.filter P).length : Int)
  | [] => rfl
  | p :: l => by
    rw [sumI_cons, sumI_one]
    cases q : P p with
    | true =>
      rw [List.filter_cons_of_pos q]
      simp [one]
      omega
    | false =>
      rw [List.filter_cons_of_neg (by rw [q]; decide)]
      simp [one]
theorem mem_nums {size x : Int} (hp : 0 ≤ size) : x ∈ nums size ↔ 0 ≤ x ∧ x < size := by
  rw [nums_eq, mem_from]
  omega
theorem mem_persons {size : Int} (hp : 0 ≤ size) {p : Pn} : p ∈ persons size ↔ (0 ≤ p.kind ∧ p.kind ≤ 2) ∧ (0 ≤ p.a ∧ p.a < size) ∧ (0 ≤ p.b ∧ p.b < size) := by
  unfold persons
  constructor
  · intro h
    obtain ⟨k, hk, h⟩ := List.mem_flatMap.mp h
    obtain ⟨a, ha, h⟩ := List.mem_flatMap.mp h
    obtain ⟨b, hb, rfl⟩ := List.mem_map.mp h
    exact ⟨kinds3 hk, (mem_nums hp).mp ha, (mem_nums hp).mp hb⟩
  · rintro ⟨hk, ha, hb⟩
    refine List.mem_flatMap.mpr ⟨p.kind, ?_, List.mem_flatMap.mpr ⟨p.a, (mem_nums hp).mpr ha, List.mem_map.mpr ⟨p.b, (mem_nums hp).mpr hb, rfl⟩⟩⟩
    simp only [List.mem_cons, List.not_mem_nil, or_false]
    omega
theorem person_good {h : Hs} {p : Pn} (g : GoodH h) (hp : p ∈ persons h.size) : GoodP h p := (mem_persons (by have := g.size; omega)).mp hp
theorem nums_len {size : Int} : (nums size).length = size.toNat := by simp [nums]
theorem flat_len_eq {α β : Type} {f : α → List β} {n : Nat} : ∀ {l : List α}, (∀ x ∈ l, (f x).length = n) → (l.flatMap f).length = n * l.length
  | [], _ => by simp
  | x :: l, h => by
    rw [List.flatMap_cons, List.length_append, List.length_cons, Nat.mul_succ, h x List.mem_cons_self, flat_len_eq fun y hy => h y (List.mem_cons_of_mem _ hy)]
    omega
theorem kind_len {size k : Int} : ((nums size).flatMap fun a => (nums size).map fun b => (⟨k, a, b⟩ : Pn)).length = size.toNat * size.toNat := by
  rw [flat_len_eq (n := size.toNat) fun x _ => by rw [List.length_map, nums_len], nums_len]
theorem persons_len {size : Int} : (persons size).length = size.toNat * size.toNat * 3 := by
  unfold persons
  rw [flat_len_eq (n := size.toNat * size.toNat) fun x _ => kind_len]
  rfl
/-- so many people are of a kind -/
theorem kind_count {size k : Int} (hk : 0 ≤ k ∧ k ≤ 2) : ((persons size).filter fun p => p.kind == k).length = size.toNat * size.toNat := by
  have e : ∀ j : Int, ((nums size).flatMap fun a => (nums size).map fun b => (⟨j, a, b⟩ : Pn)).filter (fun p => p.kind == k) = if j = k then (nums size).flatMap (fun a => (nums size).map fun b => (⟨j, a, b⟩ : Pn)) else [] := fun j => by
    by_cases q : j = k
    · rw [if_pos q]
      apply List.filter_eq_self.mpr
      intro p hp
      obtain ⟨a, _, h⟩ := List.mem_flatMap.mp hp
      obtain ⟨b, _, rfl⟩ := List.mem_map.mp h
      simp [q]
    · rw [if_neg q]
      apply List.filter_eq_nil_iff.mpr
      intro p hp
      obtain ⟨a, _, h⟩ := List.mem_flatMap.mp hp
      obtain ⟨b, _, rfl⟩ := List.mem_map.mp h
      simp [q]
  unfold persons
  simp only [List.flatMap_cons, List.flatMap_nil, List.append_nil, List.filter_append, e]
  have h3 : k = 0 ∨ k = 1 ∨ k = 2 := by omega
  rcases h3 with rfl | rfl | rfl
  · rw [if_pos rfl, if_neg (by decide), if_neg (by decide), List.append_nil, List.append_nil]
    exact kind_len
  · rw [if_neg (by decide), if_pos rfl, if_neg (by decide), List.append_nil, List.nil_append]
    exact kind_len
  · rw [if_neg (by decide), if_neg (by decide), if_pos rfl, List.nil_append, List.nil_append]
    exact kind_len
theorem flat_seesAll {h : Hs} {ts : List Tn} (g : GoodH h) (gr : GoodR h ts) (ws : List Int) (kind : Int) : Flat h.size (along h ts) fun p => one (seesAll h ts ws kind p) := fun k a b a' b' k0 k2 ra rb ha hb => by
  have e := flat_history (along_lots g gr) (h := h) (ts := ts) (fun x hx => hx) k a b a' b' k0 k2 ra rb ha hb
  simp only [] at e
  show one (seesAll h ts ws kind ⟨k, a, b⟩) = one (seesAll h ts ws kind ⟨k, a', b'⟩)
  unfold seesAll lastSeen
  rw [e]
theorem seers_sum {h : Hs} {ts : List Tn} (g : GoodH h) (gr : GoodR h ts) (ws : List Int) (kind : Int) : seersN h ts ws kind = (((persons h.size).filter (seesAll h ts ws kind)).length : Int) := by
  rw [← sumI_one]
  exact (people_sum (along_lots g gr) (flat_seesAll g gr ws kind)).symm
theorem size_sq {h : Hs} (g : GoodH h) : 0 < h.size * h.size ∧ h.size * h.size ≤ 1000000000000000000000000000000000000000000000000000000000000 := by
  have z := g.size
  exact ⟨Int.mul_pos (by omega) (by omega), Int.le_trans (Int.mul_le_mul z.2 z.2 (by omega) (by omega)) (by decide)⟩
theorem seers_le {h : Hs} {ts : List Tn} (g : GoodH h) (gr : GoodR h ts) (ws : List Int) (kind : Int) : 0 ≤ seersN h ts ws kind ∧ seersN h ts ws kind ≤ 3 * (h.size * h.size) := by
  rw [seers_sum g gr]
  have h1 := List.length_filter_le (seesAll h ts ws kind) (persons h.size)
  rw [persons_len] at h1
  have z := g.size
  have e : ((h.size.toNat : Nat) : Int) = h.size := by omega
  have e2 : ((h.size.toNat * h.size.toNat : Nat) : Int) = h.size * h.size := by rw [Int.natCast_mul, e]
  omega
theorem big_abs2 {i : Int} (h0 : -(10 ^ 130) ≤ i) (h : i ≤ 10 ^ 130) : i.natAbs < 2 ^ 4000 := by
  have e1 : (10 : Int) ^ 130 = (((10 : Nat) ^ 130 : Nat) : Int) := by rw [Int.natCast_pow]; rfl
  rw [e1] at h0 h
  have h1 : i.natAbs ≤ 10 ^ 130 := by
    generalize (10 : Nat) ^ 130 = n at *
    omega
  exact Nat.lt_of_le_of_lt h1 (by decide +kernel)
theorem sq_sq {x : Int} (h0 : 0 ≤ x) (h : x ≤ 1000000000000000000000000000000000000000000000000000000000000) : x * x ≤ 1000000000000000000000000000000000000000000000000000000000000000000000000000000000000000000000000000000000000000000000000 :=
  Int.le_trans (Int.mul_le_mul h h h0 (by decide)) (by decide)
theorem hist_ne {h : Hs} {ts : List Tn} {p : Pn} : history h p ts ≠ [] := by
  unfold history
  simp
theorem hist_get {h : Hs} {ts : List Tn} {p : Pn} : (history h p ts).getLast? = some (lastSeen h ts p) := by
  unfold lastSeen
  rw [List.getLastD_eq_getLast?]
  cases e : (history h p ts).getLast? with
  | none => exact absurd (List.getLast?_eq_none_iff.mp e) hist_ne
  | some l => rfl
theorem hist_last {h : Hs} {ts : List Tn} {p : Pn} : ((history h p ts).map intsD).getLast? = some (intsD (lastSeen h ts p)) := by
  rw [List.getLast?_map]
  unfold lastSeen
  cases e : (history h p ts).getLast? with
  | none => exact absurd (List.getLast?_eq_none_iff.mp e) hist_ne
  | some l =>
    rw [List.getLastD_eq_getLast?, e]
    rfl
theorem rng_nums {size : Int} : (List.range size.toNat).map (fun (i : Nat) => D.int (i : Int)) = (nums size).map D.int := by
  unfold nums
  rw [List.map_map]
  rfl
theorem persons_lim {size : Int} (h : 0 < size ∧ size ≤ 100) : (persons size).length ≤ 30000 := by
  rw [persons_len]
  have e : size.toNat * size.toNat ≤ 100 * 100 := Nat.mul_le_mul (by omega) (by omega)
  omega
end TS
set_option Elab.async false
set_option linter.all false
set_option maxRecDepth 100000
set_option maxHeartbeats 4000000
set_option exponentiation.threshold 10000
/-! late additions to the layer -/
namespace TS
open PySem PySem.Spec PyProof.Rows L2
section
variable {X : Cx} {Z : Zx} {W : WX}
theorem op_isB : OpR X (compareOp .Is) (fun x y H Q => ∃ a b, x = .bl a ∧ y = .bl b ∧ Q (.bl (a == b)) H) := by
  intro pins s σ H x y v u Q I rx ry h
  obtain ⟨a, b, rfl, rfl, q⟩ := h
  cases (show v = Value.bool a from rx)
  cases (show u = Value.bool b from ry)
  by_cases e : a = b
  · subst e
    exact wpAny_is_self rfl ⟨.bl true, H, I, rfl, by simpa using q⟩
  · have e2 : (a == b) = false := by simpa using e
    rw [e2] at q
    exact wpAny_is_other rfl (fun z => e (Value.bool.inj z)) ⟨.bl false, H, I, rfl, q⟩
theorem op_isNotB : OpR X (compareOp .IsNot) (fun x y H Q => ∃ a b, x = .bl a ∧ y = .bl b ∧ Q (.bl (!(a == b))) H) := by
  intro pins s σ H x y v u Q I rx ry h
  obtain ⟨a, b, rfl, rfl, q⟩ := h
  cases (show v = Value.bool a from rx)
  cases (show u = Value.bool b from ry)
  by_cases e : a = b
  · subst e
    exact wpAny_isNot_self rfl ⟨.bl false, H, I, rfl, by simpa using q⟩
  · have e2 : (a == b) = false := by simpa using e
    rw [e2] at q
    exact wpAny_isNot_other rfl (fun z => e (Value.bool.inj z)) ⟨.bl true, H, I, rfl, q⟩
def oIsB : O2
  | .bl a, .bl b, Q => Q (.bl (a == b))
  | _, _, _ => False
def oNotB : O2
  | .bl a, .bl b, Q => Q (.bl (!(a == b)))
  | _, _, _ => False
theorem ok_isB : OpOk Z (fun x y H Q => ∃ a b, x = .bl a ∧ y = .bl b ∧ Q (.bl (a == b)) H) oIsB := by
  intro σ ρ H G x y v u Qd Q ok rx ry h hq
  cases x with
  | bl a =>
    cases y with
    | bl b =>
      cases rx
      cases ry
      exact ⟨a, b, rfl, rfl, hq (.bl _) _ H (.refl H) rfl h⟩
    | _ => exact h.elim
  | _ => cases y <;> exact h.elim
theorem ok_notB : OpOk Z (fun x y H Q => ∃ a b, x = .bl a ∧ y = .bl b ∧ Q (.bl (!(a == b))) H) oNotB := by
  intro σ ρ H G x y v u Qd Q ok rx ry h hq
  cases x with
  | bl a =>
    cases y with
    | bl b =>
      cases rx
      cases ry
      exact ⟨a, b, rfl, rfl, hq (.bl _) _ H (.refl H) rfl h⟩
    | _ => exact h.elim
  | _ => cases y <;> exact h.elim
end
instance : MO oIsB := ⟨by intro x y Q Q' hq h; cases x <;> cases y <;> first | exact h.elim | exact hq _ h⟩
instance : MO oNotB := ⟨by intro x y Q Q' hq h; cases x <;> cases y <;> first | exact h.elim | exact hq _ h⟩
@[simp] theorem oIsB_s {a b : Bool} {Q : D → Prop} : oIsB (.bl a) (.bl b) Q = Q (.bl (a == b)) := (rfl)
@[simp] theorem oNotB_s {a b : Bool} {Q : D → Prop} : oNotB (.bl a) (.bl b) Q = Q (.bl (!(a == b))) := (rfl)
@[simp] theorem limI3 : ((3 : Int) ≤ ((LIM : Nat) : Int)) = True := eq_true (by show (3 : Int) ≤ ((1000000 : Nat) : Int); omega)
@[simp] theorem limI5 : ((5 : Int) ≤ ((LIM : Nat) : Int)) = True := eq_true (by show (5 : Int) ≤ ((1000000 : Nat) : Int); omega)
@[simp] theorem limI6 : ((6 : Int) ≤ ((LIM : Nat) : Int)) = True := eq_true (by show (6 : Int) ≤ ((1000000 : Nat) : Int); omega)
/-! ### sum of a tuple -/
section
variable {P : Program} {w : World} {A : Around} {E : Value → Shared → Prop} {s : Shared}
theorem call_sumT {l : Addr} {its : List Value} {ks : List Int} {Q : Value → Shared → Prop} (hh : A.handled = none) (ht : s.heap.IsTuple l its.toArray) (hi : IntsAre its ks)
    (fin : ∀ h' tk t', (∀ b o, s.heap.get? b = some o → h'.get? b = some o) → Q (.int ks.sum t') { s with heap := h', toks := tk }) : wpAny (model P w) A (call (.builtin "sum") [.ref l]) Q E s := by
  obtain ⟨xs, e⟩ := hi.allInts.items
  have hn : numsOf (intItems xs).toList = ks := by rw [← e]; exact hi.numsOf
  rw [nums_intItems] at hn
  rw [e] at ht
  have lt0 : l < s.heap.objs.size := by
    obtain ⟨_, z, _⟩ := ht
    exact Heap.lt_size z
  refine call_sum_walkG (wpAny_pyIter_tuple ht ?_)
  refine ⟨_, _, _, _, _, _, numAt xs, rfl, Walks.tuple (A := A.in1) hh _ l (Nat.ne_of_lt lt0) (intItems xs), ⟨⟨_, Heap.get?_push_size _ rfl, rfl, rfl⟩, ht.push _⟩, fun b hb => ?_, (fun _ _ => intItems_at), fun h' tk t' hk => ?_⟩
  · show b < (s.heap.push _).objs.size
    rw [Heap.size_push]
    simp only [List.mem_cons, List.not_mem_nil, or_false] at hb
    rcases hb with rfl | rfl
    · exact Nat.lt_succ_self _
    · exact Nat.lt_succ_of_lt lt0
  · have z := fin h' tk t' fun b o q => hk b o (by
      rw [List.mem_singleton]
      exact Nat.ne_of_lt (Heap.lt_size q)) (Heap.get?_push_of_some _ q)
    have e2 : preSum (numAt xs) (intItems xs).size = ks.sum := by
      have e3 : (intItems xs).size = xs.size := by simp [intItems]
      rw [e3, preSum_eq, List.take_of_length_le (by simp), hn]
    rw [e2]
    exact z
end
section
variable {X : Cx} {Z : Zx}
def rSumT (K : PySem.W.Frag) : List V → Hp → VK → Prop := fun vs H Q => ∃ (a : Addr) (ks : List Int), vs = [V.ref a] ∧ (SqL K H a (ks.map V.int) ∨ SqT K H a (ks.map V.int)) ∧ Q (.int ks.sum) H
theorem cr_sumT (hc : X.calm = true) : CallR X (.builtin "sum") (rSumT X.K) := by
  intro pins s σ H vs us Q I r h
  obtain ⟨a, ks, rfl, hs | hs, q⟩ := h
  · exact cr_sum hc pins s σ H _ us Q I r ⟨a, ks, rfl, hs, q⟩
  · obtain ⟨its, rv, pt, _⟩ := I.tuple hs
    rw [Vals.ref1 r]
    exact call_sumT (I.ok.hd hc) (show s.heap.IsTuple a its.toArray from pt) rv.ints fun h' tk t' hk => ⟨.int _, H, I.kept hk, ⟨_, rfl⟩, q⟩
/-- sum of a list or a tuple of ints -/
def fSumT : OC
  | [d], Q => ∃ ks : List Int, seqD d = some (ks.map D.int) ∧ Q (.int ks.sum)
  | _, _ => False
@[simp] theorem fSumT_l {ds : List D} {Q : D → Prop} : fSumT [.lst ds] Q = ∃ ks : List Int, ds = ks.map D.int ∧ Q (.int ks.sum) := by simp [fSumT]
@[simp] theorem fSumT_t {ds : List D} {Q : D → Prop} : fSumT [.tup ds] Q = ∃ ks : List Int, ds = ks.map D.int ∧ Q (.int ks.sum) := by simp [fSumT]
instance : MC fSumT := ⟨fun xs Q Q' hq h => by
  unfold fSumT at h ⊢
  split at h
  · obtain ⟨ks, e, z⟩ := h
    exact ⟨ks, e, hq _ z⟩
  · exact h.elim⟩
theorem cb_sumT : CallOk Z (rSumT Z.K) fSumT := by
  intro σ ρ H G ds vs Qd Q ok r h hq
  unfold fSumT at h
  split at h
  · obtain ⟨ks, e, h⟩ := h
    obtain ⟨v, rfl, e1⟩ := r.one
    obtain ⟨k, a, ws, rfl, q, r1⟩ := e1.seq e
    have e2 := r1.ints
    subst e2
    have q2 := q.vis
    refine ⟨a, ks, rfl, ?_, hq (.int _) _ H (.refl H) rfl h⟩
    cases k with
    | true => exact .inl q2
    | false => exact .inr q2
  · exact h.elim
end
/-! ### texts: join, split, upper -/
def dJoin (to te : DE) : DE := fun ρ Q E => to ρ (fun x ρ1 => ∃ a : Str, x = .str a ∧ te ρ1 (fun d ρ2 => ∃ ys : List Str, seqD d = some (ys.map D.str) ∧ (ys.map (·.length)).sum + ys.length * a.length ≤ 16777216 ∧ Q (.str (Txt.join a ys)) ρ2) E) E
def nSplit (to te : DE) : DA := fun ρ Q E => to ρ (fun x ρ1 => ∃ a : Str, x = .str a ∧ te ρ1 (fun d ρ2 => ∃ b : Str, d = .str b ∧ ((b.length == 0) = false ∧ a.length ≤ LIM) ∧ Q ((Txt.split a b).map D.str) ρ2) E) E
def dUpper (to : DE) : DE := fun ρ Q E => to ρ (fun x ρ1 => ∃ a : Str, x = .str a ∧ a.length ≤ LIM ∧ Q (.str (Txt.upper a)) ρ1) E
section
variable {X : Cx} {Z : Zx} {W : WX}
theorem RpL.strs {A : Hp} : ∀ {ns : List Str} {vs : List V}, RpL Z A (ns.map D.str) vs → vs = ns.map V.str
  | [], [], _ => rfl
  | n :: ns, v :: vs, r => by
    have e : v = .str n := r.1
    rw [List.map_cons, e, RpL.strs (ns := ns) (vs := vs) r.2]
  | [], _ :: _, r => r.elim
  | _ :: _, [], r => r.elim
theorem LIM2 {n : Nat} (h : n ≤ LIM) : n + 2 ≤ sizeLine := by
  have h1 : n + 2 ≤ 1000002 := by
    have : LIM = 1000000 := rfl
    omega
  exact Nat.le_trans h1 (by rw [sizeLine_eq]; decide)
theorem de_join [Fi : Fit X Z] {o e : Expr} {to te : DE} {apos pos : Pos} (ho : PE X o (upE Z W to)) (he : PE X e (upE Z W te)) (hs : starEach [e] X.env = [(false, eval e X.env)] := by rfl) (hbase : attributeBase o "join" X.env (eval o X.env) = eval o X.env := by rfl) (hline : (apos.endLine == pos.line) = true := by rfl) :
    PE X (.Call (.Attribute o "join" apos) [e] [] pos) (upE Z W (dJoin to te)) := PE.wk (pe_join ho he hs hbase hline) fun σ H Q ⟨ρ, G, Qd, E, ok, h, hq, hx⟩ => by
  refine ⟨ρ, G, _, E, ok, h, fun x v ρ1 H1 ok1 s1 r1 h1 => ?_, hx⟩
  obtain ⟨a, rfl, h1⟩ := h1
  have ev : v = .str a := r1
  subst ev
  refine ⟨⟨a, rfl⟩, ρ1, G, _, E, ok1, h1, fun d u ρ2 H2 ok2 s2 r2 h2 => ?_, hx.step s1⟩
  obtain ⟨ys, e1, e2, h2⟩ := h2
  obtain ⟨k, b, ws, rfl, q, r⟩ := r2.seq e1
  have e3 := r.strs
  subst e3
  have q2 := q.vis
  refine ⟨a, b, ys, rfl, rfl, ?_, e2, hq (.str _) _ ρ2 H2 ok2 (s1.trans s2) rfl h2⟩
  rw [Fi.K]
  cases k with
  | true => exact .inl q2
  | false => exact .inr q2
theorem rp_strs' {A : Hp} : ∀ ns : List Str, RpL Z A (ns.map D.str) (ns.map V.str)
  | [] => trivial
  | n :: ns => ⟨rfl, rp_strs' ns⟩
theorem de_split [GoodJ Z] {o e : Expr} {to te : DE} {apos pos : Pos} (ho : PE X o (upE Z W to)) (he : PE X e (upE Z W te)) (hs : starEach [e] X.env = [(false, eval e X.env)] := by rfl) (hbase : attributeBase o "split" X.env (eval o X.env) = eval o X.env := by rfl) (hline : (apos.endLine == pos.line) = true := by rfl) :
    PE X (.Call (.Attribute o "split" apos) [e] [] pos) (upN Z W (nSplit to te)) := PE.wk (pe_split ho he hs hbase hline) fun σ H Q ⟨ρ, G, Qd, E, ok, h, hq, hx⟩ => by
  refine ⟨ρ, G, _, E, ok, h, fun x v ρ1 H1 ok1 s1 r1 h1 => ?_, hx⟩
  obtain ⟨a, rfl, h1⟩ := h1
  have ev : v = .str a := r1
  subst ev
  refine ⟨⟨a, rfl⟩, ρ1, G, _, E, ok1, h1, fun d u ρ2 H2 ok2 s2 r2 h2 => ?_, hx.step s1⟩
  obtain ⟨b, rfl, ⟨e1, e2⟩, h2⟩ := h2
  have eu : u = .str b := r2
  subst eu
  refine ⟨a, b, rfl, rfl, e1, LIM2 e2, fun p hp => ?_⟩
  obtain ⟨k1, k2, k3⟩ := ok2.laid hp (rp_strs' (Txt.split a b))
  have st := s1.trans s2
  exact hq _ _ p ρ2 _ k1 (st.trans (.ext (same_upd hp))) (st.frs hp) k2 upd_same k3 h2
theorem de_upper {o : Expr} {to : DE} {apos pos : Pos} (ho : PE X o (upE Z W to)) (hbase : attributeBase o "upper" X.env (eval o X.env) = eval o X.env := by rfl) (hline : (apos.endLine == pos.line) = true := by rfl) :
    PE X (.Call (.Attribute o "upper" apos) [] [] pos) (upE Z W (dUpper to)) := PE.wk (pe_upper ho hbase hline) fun σ H Q ⟨ρ, G, Qd, E, ok, h, hq, hx⟩ => by
  refine ⟨ρ, G, _, E, ok, h, fun x v ρ1 H1 ok1 s1 r1 h1 => ?_, hx⟩
  obtain ⟨a, rfl, e1, h1⟩ := h1
  have ev : v = .str a := r1
  subst ev
  refine ⟨⟨a, rfl⟩, a, rfl, rfl, ?_, hq (.str _) _ ρ1 H1 ok1 s1 rfl h1⟩
  have : LIM = 1000000 := rfl
  omega
end
instance {to te : DE} [M : ME to] [N : ME te] : ME (dJoin to te) := ⟨fun ρ Q Q' E E' hq hx h => M.m ρ _ _ _ _ (fun x s ⟨a, e, z⟩ => ⟨a, e, N.m s _ _ _ _ (fun d s ⟨ys, e1, e2, q⟩ => ⟨ys, e1, e2, hq _ s q⟩) hx z⟩) hx h⟩
instance {to te : DE} [M : ME to] [N : ME te] : MA (nSplit to te) := ⟨fun ρ Q Q' E E' hq hx h => M.m ρ _ _ _ _ (fun x s ⟨a, e, z⟩ => ⟨a, e, N.m s _ _ _ _ (fun d s ⟨b, e1, e2, q⟩ => ⟨b, e1, e2, hq _ s q⟩) hx z⟩) hx h⟩
instance {to : DE} [M : ME to] : ME (dUpper to) := ⟨fun ρ Q Q' E E' hq hx h => M.m ρ _ _ _ _ (fun x s ⟨a, e, e1, q⟩ => ⟨a, e, e1, hq _ s q⟩) hx h⟩
@[simp] theorem dJoin_s {to te : DE} {ρ : Rho} {Q : D → Rho → Prop} {E : EQ} : dJoin to te ρ Q E = to ρ (fun x ρ1 => ∃ a : Str, x = .str a ∧ te ρ1 (fun d ρ2 => ∃ ys : List Str, seqD d = some (ys.map D.str) ∧ (ys.map (·.length)).sum + ys.length * a.length ≤ 16777216 ∧ Q (.str (Txt.join a ys)) ρ2) E) E := (rfl)
@[simp] theorem nSplit_s {to te : DE} {ρ : Rho} {Q : List D → Rho → Prop} {E : EQ} : nSplit to te ρ Q E = to ρ (fun x ρ1 => ∃ a : Str, x = .str a ∧ te ρ1 (fun d ρ2 => ∃ b : Str, d = .str b ∧ ((b.length == 0) = false ∧ a.length ≤ LIM) ∧ Q ((Txt.split a b).map D.str) ρ2) E) E := (rfl)
@[simp] theorem dUpper_s {to : DE} {ρ : Rho} {Q : D → Rho → Prop} {E : EQ} : dUpper to ρ Q E = to ρ (fun x ρ1 => ∃ a : Str, x = .str a ∧ a.length ≤ LIM ∧ Q (.str (Txt.upper a)) ρ1) E := (rfl)
end TS
set_option Elab.async false
set_option linter.all false
set_option maxRecDepth 100000
set_option maxHeartbeats 4000000
set_option exponentiation.threshold 10000
/-! tuple times int; the least of a list that a slot holds -/
namespace TS
open PySem PySem.Spec PyProof.Rows L2
def oRepT : O2
  | .tup ds, .int k, Q => (2 ≤ k ∧ k ≤ 1000 ∧ ds ≠ [] ∧ ds.length ≤ 1000) ∧ Q (.tup (List.replicate k.toNat ds).flatten)
  | _, _, _ => False
section
variable {X : Cx} {Z : Zx} {W : WX}
theorem ok_repT [GoodJ Z] : OpOk Z (rRepT Z.K) oRepT := by
  intro σ ρ H G x y v u Qd Q ok rx ry h hq
  cases x with
  | tup ds =>
    cases y with
    | int k =>
      obtain ⟨a, vs, rfl, q, r⟩ := rx
      cases ry
      obtain ⟨⟨h1, h2, h3, h5⟩, h4⟩ := h
      refine ⟨a, k, vs, rfl, rfl, vis_sqT q, fun z => h3 ?_, h1, h2, by rw [← r.len]; exact h5, fun p hp => ?_⟩
      · have := r.len
        rw [z] at this
        exact List.eq_nil_of_length_eq_zero this
      · exact hq (.tup _) _ _ (same_upd hp) ⟨p, _, rfl, .of (ok.freshV hp), (r.rep _).sub (vis_ext (same_upd hp))⟩ h4
    | _ => exact h.elim
  | _ => cases y <;> exact h.elim
/-- a slot is read; a list of one's own is never changed again -/
def dVarF (i : Nat) : DE := fun ρ Q _ => match slAt ρ i with
  | .val d => Q d ρ
  | .own ds => Q (.lst ds) (ρ.set i (.val (.lst ds)))
  | _ => False
theorem Ok.freeze {σ : L2.St} {ρ : Rho} {H : Hp} {G : Addr → Prop} {i : Nat} {ds : List D} (k : Ok Z σ ρ H G) (e : slAt ρ i = .own ds) :
    Ok Z σ (ρ.set i (.val (.lst ds))) H G ∧ Stp Z σ ρ H σ (ρ.set i (.val (.lst ds))) H ∧ ∃ v, σ[i]? = some (some v) ∧ Rp Z (vis H (Hid (ρ.set i (.val (.lst ds))) σ G)) (.lst ds) v := by
  obtain ⟨m1, m2, v, m3, m4⟩ := k.move e
  have hh : ∀ j, heldAt (ρ.set i (.val (.lst ds))) j = heldAt (ρ.set i .no) j := fun j => by
    unfold heldAt
    rw [slAt_set, slAt_set]
    by_cases q : i = j ∧ j < ρ.length
    · rw [if_pos q, if_pos q]
      rfl
    · rw [if_neg q, if_neg q]
  have ow : Ow (ρ.set i (.val (.lst ds))) σ = Ow (ρ.set i .no) σ := by
    funext a
    unfold Ow
    simp only [hh]
  have hd : Hid (ρ.set i (.val (.lst ds))) σ G = Hid (ρ.set i .no) σ G := by
    funext a
    unfold Hid
    rw [ow]
  refine ⟨⟨by rw [List.length_set]; exact k.len, fun j d z => ?_, fun j xs z => ?_, fun j l xs ys b z1 z2 => m1.inj j l xs ys b (by rw [← hh]; exact z1) (by rw [← hh]; exact z2), m1.j, m1.gt⟩, ⟨m2.keep, fun a o h n m => by rw [ow]; exact m2.out a o h n m, fun j xs z => ⟨rfl, xs, ?_⟩⟩, v, m3, by rw [hd]; exact m4⟩
  · rw [hd]
    rw [slAt_set] at z
    by_cases q : i = j ∧ j < ρ.length
    · rw [if_pos q] at z
      cases z
      rw [← q.1]
      exact ⟨v, m3, m4⟩
    · rw [if_neg q] at z
      exact m1.val j d (by rw [slAt_set, if_neg q]; exact z)
  · rw [hd]
    rw [hh] at z
    exact m1.own j xs z
  · rw [slAt_set, if_neg]
    · exact z
    · intro q
      rw [← q.1, e] at z
      cases z
theorem de_varF {i : Nat} {x : Str} {pos : Pos} (hN : X.N[i]? = some x := by rfl) (hv : Vis X.env.scope x := by first | exact Or.inl rfl | exact Or.inr (Or.inl rfl) | exact Or.inr (Or.inr rfl))
    (hd : (x == ("__debug__" : Str)) = false := by decide) (hcd : (x == ("__classdict__" : Str)) = false := by decide) : PE X (.Name x pos) (upE Z W (dVarF i)) :=
  PE.wk (pe_var hN hv hd hcd) fun σ H Q ⟨ρ, G, Qd, E, ok, h, hq, _⟩ => by
    unfold dVarF at h
    cases e : slAt ρ i with
    | val d =>
      rw [e] at h
      obtain ⟨v, h1, h2⟩ := ok.val i d e
      exact ⟨v, h1, hq d v ρ H ok .refl h2 h⟩
    | own ds =>
      rw [e] at h
      obtain ⟨k1, k2, v, k3, k4⟩ := ok.freeze e
      exact ⟨v, k3, hq _ v _ H k1 k2 k4 h⟩
    | no => rw [e] at h; exact h.elim
    | brw ds => rw [e] at h; exact h.elim
def dMinH (i : Nat) : DE := fun ρ Q _ => ∃ ns : List Int, heldAt ρ i = some (ns.map D.int) ∧ ns ≠ [] ∧ ∀ m, m ∈ ns → (∀ y ∈ ns, m ≤ y) → Q (.int m) ρ
theorem de_minH [F : Fit X Z] {i : Nat} {x : Str} {p px pos : Pos} (hc : X.calm = true) (hm : Z.mg "min" = none) (hN : X.N[i]? = some x := by rfl) (hv : Vis X.env.scope x := by first | exact Or.inl rfl | exact Or.inr (Or.inl rfl) | exact Or.inr (Or.inr rfl))
    (hd : (x == ("__debug__" : Str)) = false := by decide) (hcd : (x == ("__classdict__" : Str)) = false := by decide) (hg : Gl X "min" := by rfl)
    (he : starEach [.Name x px] X.env = (false, eval (.Name x px) X.env) :: starEach [] X.env := by rfl) (hpl : (backTo pos (starEach [] X.env)).any (·.1) = false := by rfl) :
    PE X (.Call (.Name "min" p) [.Name x px] [] pos) (upE Z W (dMinH i)) := PE.wk (pe_callB (cr_min hc) hg (by rw [F.mg]; exact hm) boot_min (pa_cons (pe_var hN hv hd hcd) pa_nil he) (by decide) (by decide) he hpl) fun σ H Q ⟨ρ, G, Qd, E, ok, ⟨ns, h, hne, h1⟩, hq, hx⟩ => by
  obtain ⟨a, vs, ha, hv, r, _⟩ := ok.own i _ h
  have e := r.ints
  subst e
  refine ⟨.ref a, ha, a, ns, rfl, .of hv, List.length_pos_iff.mpr hne, fun m hm hl => ?_⟩
  exact hq (.int _) _ ρ H ok .refl rfl (h1 m hm hl)
end
theorem dVarF_s {i : Nat} {ρ : Rho} {Q : D → Rho → Prop} {E : EQ} : dVarF i ρ Q E = (match slAt ρ i with | .val d => Q d ρ | .own ds => Q (.lst ds) (ρ.set i (.val (.lst ds))) | _ => False) := rfl
@[simp] theorem dVarF_v {d : D} {ρ : Rho} {Q : D → Rho → Prop} {E : EQ} : dVarF 0 (.val d :: ρ) Q E = Q d (.val d :: ρ) := (rfl)
@[simp] theorem dVarF_o {ds : List D} {ρ : Rho} {Q : D → Rho → Prop} {E : EQ} : dVarF 0 (.own ds :: ρ) Q E = Q (.lst ds) (.val (.lst ds) :: ρ) := (rfl)
@[simp] theorem dVarF_n {i : Nat} {x : Sl} {ρ : Rho} {Q : D → Rho → Prop} {E : EQ} : dVarF (i + 1) (x :: ρ) Q E = dVarF i ρ (fun d ρ' => Q d (x :: ρ')) E := by
  unfold dVarF
  rw [slAt_s]
  cases slAt ρ i <;> rfl
instance {i : Nat} : ME (dVarF i) := ⟨fun ρ Q Q' E E' hq hx h => by
  rw [dVarF_s] at h ⊢
  cases e : slAt ρ i <;> rw [e] at h <;> first | exact h.elim | exact hq _ _ h⟩
instance : MO oRepT := ⟨fun x y Q Q' hq h => by
  cases x <;> cases y <;> first | exact h.elim | exact ⟨h.1, hq _ h.2⟩⟩
@[simp] theorem oRepT_s {ds : List D} {k : Int} {Q : D → Prop} : oRepT (.tup ds) (.int k) Q = ((2 ≤ k ∧ k ≤ 1000 ∧ ds ≠ [] ∧ ds.length ≤ 1000) ∧ Q (.tup (List.replicate k.toNat ds).flatten)) := (rfl)
instance {i : Nat} : ME (dMinH i) := ⟨fun ρ Q Q' E E' hq hx ⟨ns, e, e2, q⟩ => ⟨ns, e, e2, fun m h1 h2 => hq _ _ (q m h1 h2)⟩⟩
@[simp] theorem dMinH_s {i : Nat} {ρ : Rho} {Q : D → Rho → Prop} {E : EQ} : dMinH i ρ Q E = ∃ ns : List Int, heldAt ρ i = some (ns.map D.int) ∧ ns ≠ [] ∧ ∀ m, m ∈ ns → (∀ y ∈ ns, m ≤ y) → Q (.int m) ρ := (rfl)
@[simp] theorem FB_3 {S : SB} {m : List D} {d1 d2 d3 : D} {Q : D → List Sl → Prop} {E : EQ} : FB S [.brw m, .val d1, .val d2, .val d3] Q E = S m [d1, d2, d3] (fun d s => Q d [s, .val d1, .val d2, .val d3]) (fun x s => E x [s, .val d1, .val d2, .val d3]) := FB_s (ds := [d1, d2, d3])
@[simp] theorem FB_4 {S : SB} {m : List D} {d1 d2 d3 d4 : D} {Q : D → List Sl → Prop} {E : EQ} : FB S [.brw m, .val d1, .val d2, .val d3, .val d4] Q E = S m [d1, d2, d3, d4] (fun d s => Q d [s, .val d1, .val d2, .val d3, .val d4]) (fun x s => E x [s, .val d1, .val d2, .val d3, .val d4]) := FB_s (ds := [d1, d2, d3, d4])
@[simp] theorem rep11 {x : Sl} : List.replicate 11 x = [x, x, x, x, x, x, x, x, x, x, x] := (rfl)
@[simp] theorem rep12 {x : Sl} : List.replicate 12 x = [x, x, x, x, x, x, x, x, x, x, x, x] := (rfl)
@[simp] theorem rep13 {x : Sl} : List.replicate 13 x = [x, x, x, x, x, x, x, x, x, x, x, x, x] := (rfl)
@[simp] theorem rep14 {x : Sl} : List.replicate 14 x = [x, x, x, x, x, x, x, x, x, x, x, x, x, x] := (rfl)
@[simp] theorem rep15 {x : Sl} : List.replicate 15 x = [x, x, x, x, x, x, x, x, x, x, x, x, x, x, x] := (rfl)
@[simp] theorem rep16 {x : Sl} : List.replicate 16 x = [x, x, x, x, x, x, x, x, x, x, x, x, x, x, x, x] := (rfl)
@[simp] theorem rep17 {x : Sl} : List.replicate 17 x = [x, x, x, x, x, x, x, x, x, x, x, x, x, x, x, x, x] := (rfl)
@[simp] theorem rep18 {x : Sl} : List.replicate 18 x = [x, x, x, x, x, x, x, x, x, x, x, x, x, x, x, x, x, x] := (rfl)
@[simp] theorem rep19 {x : Sl} : List.replicate 19 x = [x, x, x, x, x, x, x, x, x, x, x, x, x, x, x, x, x, x, x] := (rfl)
@[simp] theorem rep20 {x : Sl} : List.replicate 20 x = [x, x, x, x, x, x, x, x, x, x, x, x, x, x, x, x, x, x, x, x] := (rfl)
@[simp] theorem rep21 {x : Sl} : List.replicate 21 x = [x, x, x, x, x, x, x, x, x, x, x, x, x, x, x, x, x, x, x, x, x] := (rfl)
@[simp] theorem rep22 {x : Sl} : List.replicate 22 x = [x, x, x, x, x, x, x, x, x, x, x, x, x, x, x, x, x, x, x, x, x, x] := (rfl)
@[simp] theorem rep23 {x : Sl} : List.replicate 23 x = [x, x, x, x, x, x, x, x, x, x, x, x, x, x, x, x, x, x, x, x, x, x, x] := (rfl)
@[simp] theorem rep24 {x : Sl} : List.replicate 24 x = [x, x, x, x, x, x, x, x, x, x, x, x, x, x, x, x, x, x, x, x, x, x, x, x] := (rfl)
@[simp] theorem rep25 {x : Sl} : List.replicate 25 x = [x, x, x, x, x, x, x, x, x, x, x, x, x, x, x, x, x, x, x, x, x, x, x, x, x] := (rfl)
@[simp] theorem rep26 {x : Sl} : List.replicate 26 x = [x, x, x, x, x, x, x, x, x, x, x, x, x, x, x, x, x, x, x, x, x, x, x, x, x, x] := (rfl)
@[simp] theorem rep27 {x : Sl} : List.replicate 27 x = [x, x, x, x, x, x, x, x, x, x, x, x, x, x, x, x, x, x, x, x, x, x, x, x, x, x, x] := (rfl)
@[simp] theorem rep28 {x : Sl} : List.replicate 28 x = [x, x, x, x, x, x, x, x, x, x, x, x, x, x, x, x, x, x, x, x, x, x, x, x, x, x, x, x] := (rfl)
@[simp] theorem rep29 {x : Sl} : List.replicate 29 x = [x, x, x, x, x, x, x, x, x, x, x, x, x, x, x, x, x, x, x, x, x, x, x, x, x, x, x, x, x] := (rfl)
end TS
set_option Elab.async false
set_option linter.all false
set_option maxRecDepth 100000
set_option maxHeartbeats 1000000
set_option exponentiation.threshold 10000
/-! sightings and asks: plain theory and specs -/
namespace TS
open PySem PySem.Spec PyProof.Rows L2
/-- a sighting: moment, way, seen or not -/
structure Sg where
  m : Nat
  w : Int
  b : Bool
def Sg.d (s : Sg) : D := .tup [.int s.m, .int s.w, .bl s.b]
def askD (a : Nat × Int) : D := .tup [.int a.1, .int a.2]
def isAskB (many rows : Nat) (d : D) : Bool := match d with
  | .tup [a, b] => isWhole a 0 rows && isWhole b 0 ((many : Int) - 1)
  | _ => false
def isSgB (many rows : Nat) (d : D) : Bool := match d with
  | .tup [a, b, c] => isBl c && (isWhole a 0 rows && isWhole b 0 ((many : Int) - 1))
  | _ => false
def isSgsB (many rows : Nat) (d : D) : Bool := match d with
  | .tup ds => decide (ds.length ≤ 6) && ds.all (isSgB many rows)
  | _ => false
def isAsksB (many rows : Nat) (d : D) : Bool := match d with
  | .tup ds => decide (1 ≤ ds.length) && decide (ds.length ≤ 6) && ds.all (isAskB many rows)
  | _ => false
def S_is_ask : SV
  | [hd, .tup rs, v], Q, _ => ∃ size ws, Hsh hd size ws ∧ pd v ∧ Q (.bl (isAskB ws.length rs.length v))
  | _, _, _ => False
abbrev F_is_ask : FS := FV S_is_ask
instance : MSV S_is_ask := ⟨fun ds Q Q' E E' hq hx => by
  unfold S_is_ask
  split <;> repeat' (first | exact fun h => h | exact fun h => h.elim | exact hq _ | exact hq _ _ | exact hx _ | exact hx _ _ | apply And.imp | apply Or.imp | (apply Exists.imp; intro _) | (apply forall_imp; intro _))⟩
def S_is_sighting : SV
  | [hd, .tup rs, v], Q, _ => ∃ size ws, Hsh hd size ws ∧ pd v ∧ Q (.bl (isSgB ws.length rs.length v))
  | _, _, _ => False
abbrev F_is_sighting : FS := FV S_is_sighting
instance : MSV S_is_sighting := ⟨fun ds Q Q' E E' hq hx => by
  unfold S_is_sighting
  split <;> repeat' (first | exact fun h => h | exact fun h => h.elim | exact hq _ | exact hq _ _ | exact hx _ | exact hx _ _ | apply And.imp | apply Or.imp | (apply Exists.imp; intro _) | (apply forall_imp; intro _))⟩
def GoodS (h : Hs) (ts : List Tn) (s : Sg) : Prop := s.m ≤ ts.length ∧ 0 ≤ s.w ∧ s.w < h.ways.length
def GoodSs (h : Hs) (ts : List Tn) (ss : List Sg) : Prop := ss.length ≤ 6 ∧ ∀ s ∈ ss, GoodS h ts s
def GoodA (h : Hs) (ts : List Tn) (a : Nat × Int) : Prop := a.1 ≤ ts.length ∧ 0 ≤ a.2 ∧ a.2 < h.ways.length
def GoodAs (h : Hs) (ts : List Tn) (as : List (Nat × Int)) : Prop := (1 ≤ as.length ∧ as.length ≤ 6) ∧ ∀ a ∈ as, GoodA h ts a
abbrev NeedS (h : Hs) (ts : List Tn) (d : D) (E : Exc → Prop) (K : List Sg → Prop) : Prop :=
  (pd d ∧ isSgsB h.ways.length ts.length d = false ∧ E ⟨"InvalidSightings", none⟩) ∨ ∃ ss : List Sg, d = .tup (ss.map Sg.d) ∧ GoodSs h ts ss ∧ K ss
abbrev NeedHS (hd rd sd : D) (E : Exc → Prop) (K : Hs → List Tn → List Sg → Prop) : Prop := Need hd rd E fun h ts => NeedS h ts sd E fun ss => K h ts ss
def S_need_sightings : SV
  | [hd, rd, sd], Q, E => NeedHS hd rd sd E fun _ _ _ => Q .non
  | _, _, _ => False
abbrev F_need_sightings : FS := FV S_need_sightings
instance : MSV S_need_sightings := ⟨fun ds Q Q' E E' hq hx => by
  unfold S_need_sightings
  split <;> repeat' (first | exact fun h => h | exact fun h => h.elim | exact hq _ | exact hq _ _ | exact hx _ | exact hx _ _ | apply And.imp | apply Or.imp | (apply Exists.imp; intro _) | (apply forall_imp; intro _))⟩
/-- whether what is seen goes with a sighting -/
def goesB (ms : List (List Int)) (s : Sg) : Bool := (ms.getD s.m []).contains s.w == s.b
def S_goes_with : SV
  | [.lst mds, sd], Q, _ => ∃ (ms : List (List Int)) (s : Sg), mds = ms.map intsD ∧ sd = s.d ∧ s.m < ms.length ∧ Q (.bl (goesB ms s))
  | _, _, _ => False
abbrev F_goes_with : FS := FV S_goes_with
instance : MSV S_goes_with := ⟨fun ds Q Q' E E' hq hx => by
  unfold S_goes_with
  split <;> repeat' (first | exact fun h => h | exact fun h => h.elim | exact hq _ | exact hq _ _ | exact hx _ | exact hx _ _ | apply And.imp | apply Or.imp | (apply Exists.imp; intro _) | (apply forall_imp; intro _))⟩
def goesAll (h : Hs) (ts : List Tn) (ss : List Sg) (p : Pn) : Bool := ss.all (goesB (history h p ts))
def left (h : Hs) (ts : List Tn) (ss : List Sg) : List (Pn × Int) := (allP h.size (along h ts)).filter fun p => goesAll h ts ss p.1
def S_people_left : SV
  | [hd, rd, sd], Q, _ => ∃ (h : Hs) (ts : List Tn) (ss : List Sg), hd = h.d ∧ rd = .tup (ts.map Tn.d) ∧ sd = .tup (ss.map Sg.d) ∧ GoodH h ∧ GoodR h ts ∧ GoodSs h ts ss ∧ Q (.lst ((left h ts ss).map (hisD h ts)))
  | _, _, _ => False
abbrev F_people_left : FS := FV S_people_left
instance : MSV S_people_left := ⟨fun ds Q Q' E E' hq hx => by
  unfold S_people_left
  split <;> repeat' (first | exact fun h => h | exact fun h => h.elim | exact hq _ | exact hq _ _ | exact hx _ | exact hx _ _ | apply And.imp | apply Or.imp | (apply Exists.imp; intro _) | (apply forall_imp; intro _))⟩
def wholeN (h : Hs) (ts : List Tn) (ss : List Sg) : Int := sumI (fun p => p.2) (left h ts ss)
def S_count_people : SV
  | [hd, rd, sd], Q, E => NeedHS hd rd sd E fun h ts ss => Q (.int (wholeN h ts ss))
  | _, _, _ => False
abbrev F_count_people : FS := FV S_count_people
instance : MSV S_count_people := ⟨fun ds Q Q' E E' hq hx => by
  unfold S_count_people
  split <;> repeat' (first | exact fun h => h | exact fun h => h.elim | exact hq _ | exact hq _ _ | exact hx _ | exact hx _ _ | apply And.imp | apply Or.imp | (apply Exists.imp; intro _) | (apply forall_imp; intro _))⟩
def firstD (h : Hs) (ts : List Tn) (ss : List Sg) : D := match (left h ts ss).head? with
  | some p => p.1.d
  | none => .non
def S_first_person : SV
  | [hd, rd, sd], Q, E => NeedHS hd rd sd E fun h ts ss => Q (firstD h ts ss)
  | _, _, _ => False
abbrev F_first_person : FS := FV S_first_person
instance : MSV S_first_person := ⟨fun ds Q Q' E E' hq hx => by
  unfold S_first_person
  split <;> repeat' (first | exact fun h => h | exact fun h => h.elim | exact hq _ | exact hq _ _ | exact hx _ | exact hx _ _ | apply And.imp | apply Or.imp | (apply Exists.imp; intro _) | (apply forall_imp; intro _))⟩
def folD (l : List Bool) : D := if l.contains true != l.contains false then .bl (l.contains true) else .non
def S_follows : SV
  | [hd, rd, sd, gd], Q, E => NeedHS hd rd sd E fun h ts ss => (pd gd ∧ isSgB h.ways.length ts.length gd = false ∧ E ⟨"InvalidSightings", none⟩) ∨
      ∃ s : Sg, gd = s.d ∧ GoodS h ts s ∧ Q (folD ((left h ts ss).map fun p => goesB (history h p.1 ts) s))
  | _, _, _ => False
abbrev F_follows : FS := FV S_follows
instance : MSV S_follows := ⟨fun ds Q Q' E E' hq hx => by
  unfold S_follows
  split <;> repeat' (first | exact fun h => h | exact fun h => h.elim | exact hq _ | exact hq _ _ | exact hx _ | exact hx _ _ | apply And.imp | apply Or.imp | (apply Exists.imp; intro _) | (apply forall_imp; intro _))⟩
def seesB (h : Hs) (ts : List Tn) (a : Nat × Int) (p : Pn) : Bool := ((history h p ts).getD a.1 []).contains a.2
def someN (h : Hs) (ts : List Tn) (ss : List Sg) (a : Nat × Int) : Int := sumI (fun p => p.2) ((left h ts ss).filter fun p => seesB h ts a p.1)
def askN (h : Hs) (ts : List Tn) (ss : List Sg) (a : Nat × Int) : Int := if wholeN h ts ss - someN h ts ss a > someN h ts ss a then wholeN h ts ss - someN h ts ss a else someN h ts ss a
/-- the least number with its first place -/
def bestGo : Nat → Option (Int × Nat) → List Int → Option (Int × Nat)
  | _, b, [] => b
  | i, none, n :: r => bestGo (i + 1) (some (n, i)) r
  | i, some b, n :: r => bestGo (i + 1) (if n < b.1 then some (n, i) else some b) r
def bestD : Option (Int × Nat) → D
  | none => .non
  | some b => .tup [.int b.1, .int b.2]
def S_best_ask : SV
  | [hd, rd, sd, ad], Q, E => NeedHS hd rd sd E fun h ts ss => (pd ad ∧ isAsksB h.ways.length ts.length ad = false ∧ E ⟨"InvalidAsks", none⟩) ∨
      ∃ as : List (Nat × Int), ad = .tup (as.map askD) ∧ GoodAs h ts as ∧ Q (bestD (bestGo 0 none (as.map (askN h ts ss))))
  | _, _, _ => False
abbrev F_best_ask : FS := FV S_best_ask
instance : MSV S_best_ask := ⟨fun ds Q Q' E E' hq hx => by
  unfold S_best_ask
  split <;> repeat' (first | exact fun h => h | exact fun h => h.elim | exact hq _ | exact hq _ _ | exact hx _ | exact hx _ _ | apply And.imp | apply Or.imp | (apply Exists.imp; intro _) | (apply forall_imp; intro _))⟩
def S_law_sighted : SB
  | m, [hd, rd, md], Q, _ => ∃ (h : Hs) (ts : List Tn) (ms : List (List Int)), hd = h.d ∧ rd = .tup (ts.map Tn.d) ∧ md = .tup (ms.map intsD) ∧ GoodH h ∧ GoodR h ts ∧ ms.length = ts.length + 1 ∧ Vat m ∧ ∀ s : Sg, GoodS h ts s → ∀ m', Vat m' → Q s.d (.brw m')
  | _, _, _, _ => False
abbrev F_law_sighted : FS := FB S_law_sighted
instance : MSB S_law_sighted := ⟨fun b ds Q Q' E E' hq hx => by
  unfold S_law_sighted
  split <;> repeat' (first | exact fun h => h | exact fun h => h.elim | exact hq _ | exact hq _ _ | exact hx _ | exact hx _ _ | apply And.imp | apply Or.imp | (apply Exists.imp; intro _) | (apply forall_imp; intro _))⟩
def S_law_right : SB
  | m, [hd, rd], Q, _ => ∃ (h : Hs) (ts : List Tn), hd = h.d ∧ rd = .tup (ts.map Tn.d) ∧ GoodH h ∧ GoodR h ts ∧ h.size ≤ 10 ∧ Vat m ∧ ∀ m', Vat m' → Q (.bl true) (.brw m')
  | _, _, _, _ => False
abbrev F_law_right : FS := FB S_law_right
instance : MSB S_law_right := ⟨fun b ds Q Q' E E' hq hx => by
  unfold S_law_right
  split <;> repeat' (first | exact fun h => h | exact fun h => h.elim | exact hq _ | exact hq _ _ | exact hx _ | exact hx _ _ | apply And.imp | apply Or.imp | (apply Exists.imp; intro _) | (apply forall_imp; intro _))⟩
def S_law_by_hand : SV
  | [], Q, _ => Q (.bl true)
  | _, _, _ => False
abbrev F_law_by_hand : FS := FV S_law_by_hand
instance : MSV S_law_by_hand := ⟨fun ds Q Q' E E' hq hx => by
  unfold S_law_by_hand
  split <;> repeat' (first | exact fun h => h | exact fun h => h.elim | exact hq _ | exact hq _ _ | exact hx _ | exact hx _ _ | apply And.imp | apply Or.imp | (apply Exists.imp; intro _) | (apply forall_imp; intro _))⟩
/-! ### facts -/
theorem moments_len {p : Pn} : ∀ {ts : List Tn} {h : Hs} {l : List Int}, (moments p l h ts).length = ts.length
  | [], h, l => rfl
  | t :: ts, h, l => by
    unfold moments
    simp only [List.length_cons]
    rw [moments_len]
theorem hist_len {h : Hs} {ts : List Tn} {p : Pn} : (history h p ts).length = ts.length + 1 := by
  unfold history
  simp only [List.length_cons]
  rw [moments_len]
theorem sumI_filter {α : Type} {f : α → Int} {P : α → Bool} : ∀ {l : List α}, sumI f (l.filter P) = sumI (fun x => f x * one (P x)) l
  | [] => rfl
  | x :: l => by
    have ih := sumI_filter (f := f) (P := P) (l := l)
    cases q : P x with
    | true =>
      rw [List.filter_cons_of_pos q, sumI_cons, sumI_cons, ih, q]
      simp [one]
    | false =>
      rw [List.filter_cons_of_neg (by rw [q]; decide), sumI_cons, ih, q]
      simp [one]
theorem flat_of_hist {h : Hs} {ts : List Tn} (g : GoodH h) (gr : GoodR h ts) {α : Type} (f : List (List Int) → α) : Flat h.size (along h ts) fun p => f (history h p ts) := fun k a b a' b' k0 k2 ra rb ha hb => by
  have e := flat_history (along_lots g gr) (h := h) (ts := ts) (fun x hx => hx) k a b a' b' k0 k2 ra rb ha hb
  simp only [] at e ⊢
  rw [e]
/-- so many people by lots as one by one -/
theorem lots_count {h : Hs} {ts : List Tn} (g : GoodH h) (gr : GoodR h ts) (P : List (List Int) → Bool) : sumI (fun p => p.2) ((allP h.size (along h ts)).filter fun p => P (history h p.1 ts)) = (((persons h.size).filter fun p => P (history h p ts)).length : Int) := by
  rw [sumI_filter, ← sumI_one]
  exact (people_sum (along_lots g gr) (flat_of_hist g gr fun ms => one (P ms))).symm
theorem find_some {α : Type} {P : α → Bool} : ∀ {l : List α}, (l.findSome? fun x => if P x = true then some x else none) = (l.filter P).head?
  | [] => rfl
  | x :: l => by
    rw [List.findSome?_cons]
    cases q : P x with
    | true => rw [List.filter_cons_of_pos q]; rfl
    | false =>
      rw [List.filter_cons_of_neg (by rw [q]; decide)]
      simp only [Bool.false_eq_true, if_false]
      exact find_some
theorem find_some2 {α β : Type} {P : β → Bool} {f : α → β} : ∀ {l : List α}, (l.findSome? fun x => if P (f x) = true then some (f x) else none) = ((l.filter fun x => P (f x)).head?).map f
  | [] => rfl
  | x :: l => by
    rw [List.findSome?_cons]
    cases q : P (f x) with
    | true => rw [List.filter_cons_of_pos (by exact q)]; rfl
    | false =>
      rw [List.filter_cons_of_neg (by rw [q]; decide)]
      simp only [Bool.false_eq_true, if_false]
      exact find_some2
theorem lots_first {h : Hs} {ts : List Tn} (g : GoodH h) (gr : GoodR h ts) (P : List (List Int) → Bool) : (((allP h.size (along h ts)).filter fun p => P (history h p.1 ts)).head?).map (fun p => p.1) = ((persons h.size).filter fun p => P (history h p ts)).head? := by
  have z := people_first (along_lots g gr) (g := fun p => if P (history h p ts) = true then some p else none) (fun k a b a' b' k0 k2 ra rb ha hb => by
    have e := flat_of_hist g gr P k a b a' b' k0 k2 ra rb ha hb
    simp only [] at e ⊢
    rw [e]
    cases P (history h ⟨k, a', b'⟩ ts) <;> rfl)
  rw [find_some (P := fun p => P (history h p ts))] at z
  rw [z]
  exact (find_some2 (P := fun p => P (history h p ts)) (f := fun x : Pn × Int => x.1)).symm
/-- something holds of a lot as of somebody -/
theorem lots_any {h : Hs} {ts : List Tn} (g : GoodH h) (gr : GoodR h ts) (P : List (List Int) → Bool) : ((allP h.size (along h ts)).any fun p => P (history h p.1 ts)) = ((persons h.size).any fun p => P (history h p ts)) := by
  have z := lots_first g gr P
  have e1 : ∀ {α : Type} (P : α → Bool) (l : List α), l.any P = ((l.filter P).head?).isSome := by
    intro α P l
    induction l with
    | nil => rfl
    | cons x l ih =>
      cases q : P x with
      | true => rw [List.any_cons, q, List.filter_cons_of_pos q]; rfl
      | false => rw [List.any_cons, q, List.filter_cons_of_neg (by rw [q]; decide), ih]; rfl
  rw [e1, e1, ← z, Option.isSome_map]
theorem left_any {h : Hs} {ts : List Tn} {ss : List Sg} (g : GoodH h) (gr : GoodR h ts) (P : List (List Int) → Bool) : ((left h ts ss).any fun p => P (history h p.1 ts)) = (((persons h.size).filter (goesAll h ts ss)).any fun p => P (history h p ts)) := by
  unfold left
  rw [List.any_filter, List.any_filter]
  exact lots_any g gr fun ms => ss.all (goesB ms) && P ms
theorem contains_map {α : Type} {f : α → Bool} {b : Bool} {l : List α} : (l.map f).contains b = l.any fun x => f x == b := by
  induction l with
  | nil => rfl
  | cons x l ih =>
    rw [List.map_cons, List.contains_cons, List.any_cons, ih]
    congr 1
    cases b <;> cases f x <;> rfl
theorem fol_same {h : Hs} {ts : List Tn} {ss : List Sg} {s : Sg} (g : GoodH h) (gr : GoodR h ts) :
    folD ((left h ts ss).map fun p => goesB (history h p.1 ts) s) = folD (((persons h.size).filter (goesAll h ts ss)).map fun p => goesB (history h p ts) s) := by
  unfold folD
  rw [contains_map, contains_map, contains_map, contains_map, left_any g gr fun ms => goesB ms s == true, left_any g gr fun ms => goesB ms s == false]
theorem whole_count {h : Hs} {ts : List Tn} {ss : List Sg} (g : GoodH h) (gr : GoodR h ts) : wholeN h ts ss = (((persons h.size).filter (goesAll h ts ss)).length : Int) := lots_count g gr fun ms => ss.all (goesB ms)
theorem some_count {h : Hs} {ts : List Tn} {ss : List Sg} {a : Nat × Int} (g : GoodH h) (gr : GoodR h ts) : someN h ts ss a = ((((persons h.size).filter (goesAll h ts ss)).filter (seesB h ts a)).length : Int) := by
  unfold someN left
  rw [List.filter_filter, List.filter_filter]
  exact lots_count g gr fun ms => (ms.getD a.1 []).contains a.2 && ss.all (goesB ms)
theorem first_is {h : Hs} {ts : List Tn} {ss : List Sg} (g : GoodH h) (gr : GoodR h ts) : firstD h ts ss = (match ((persons h.size).filter (goesAll h ts ss)).head? with | some p => p.d | none => .non) := by
  have z := lots_first g gr fun ms => ss.all (goesB ms)
  unfold firstD left
  have z' : (((allP h.size (along h ts)).filter fun p => goesAll h ts ss p.1).head?).map (fun p => p.1) = ((persons h.size).filter (goesAll h ts ss)).head? := z
  rw [← z']
  cases ((allP h.size (along h ts)).filter fun p => goesAll h ts ss p.1).head? <;> rfl
/-! the least number and its place -/
theorem best_some : ∀ (r : List Int) (i : Nat) (b : Int × Nat), ∃ c : Int × Nat, bestGo i (some b) r = some c ∧ (∀ y ∈ r, c.1 ≤ y) ∧ c.1 ≤ b.1 ∧ ((c = b ∧ ∀ y ∈ r, b.1 ≤ y) ∨ (c.1 < b.1 ∧ ∃ j, c.2 = i + j ∧ r[j]? = some c.1 ∧ ∀ k, k < j → ∀ y, r[k]? = some y → c.1 < y))
  | [], i, b => ⟨b, rfl, (fun y hy => by cases hy), Int.le_refl _, .inl ⟨rfl, fun y hy => by cases hy⟩⟩
  | n :: r, i, b => by
    by_cases q : n < b.1
    · obtain ⟨c, e, h1, h2, h3⟩ := best_some r (i + 1) (n, i)
      refine ⟨c, ?_, ?_, ?_, .inr ⟨?_, ?_⟩⟩
      · show bestGo (i + 1) (if n < b.1 then some (n, i) else some b) r = some c
        rw [if_pos q]
        exact e
      · intro y hy
        rcases List.mem_cons.mp hy with z | z
        · rw [z]; exact h2
        · exact h1 y z
      · have h2' : c.1 ≤ n := h2
        omega
      · have h2' : c.1 ≤ n := h2
        omega
      · rcases h3 with ⟨rfl, _⟩ | ⟨h3, j, e1, e2, e3⟩
        · exact ⟨0, rfl, rfl, fun k hk => absurd hk (by omega)⟩
        · refine ⟨j + 1, by omega, by simpa using e2, fun k hk y hy => ?_⟩
          match k, hk with
          | 0, _ =>
            simp at hy
            subst hy
            exact h3
          | k + 1, hk => exact e3 k (by omega) y (by simpa using hy)
    · obtain ⟨c, e, h1, h2, h3⟩ := best_some r (i + 1) b
      refine ⟨c, ?_, ?_, h2, ?_⟩
      · show bestGo (i + 1) (if n < b.1 then some (n, i) else some b) r = some c
        rw [if_neg q]
        exact e
      · intro y hy
        rcases List.mem_cons.mp hy with z | z
        · omega
        · exact h1 y z
      · rcases h3 with ⟨rfl, h4⟩ | ⟨h3, j, e1, e2, e3⟩
        · refine .inl ⟨rfl, fun y hy => ?_⟩
          rcases List.mem_cons.mp hy with z | z
          · omega
          · exact h4 y z
        · refine .inr ⟨h3, j + 1, by omega, by simpa using e2, fun k hk y hy => ?_⟩
          match k, hk with
          | 0, _ =>
            simp at hy
            omega
          | k + 1, hk => exact e3 k (by omega) y (by simpa using hy)
theorem ixOf_first {p : D → Bool} : ∀ {l : List D} {j : Nat} {x : D}, l[j]? = some x → p x = true → (∀ k, k < j → ∀ y, l[k]? = some y → p y = false) → ixOf p l = some j
  | y :: l, 0, x, h, hp, _ => by
    simp at h
    subst h
    unfold ixOf
    rw [if_pos hp]
  | y :: l, j + 1, x, h, hp, hk => by
    have h0 := hk 0 (by omega) y (by simp)
    unfold ixOf
    rw [if_neg (by rw [h0]; decide), ixOf_first (l := l) (j := j) (x := x) (by simpa using h) hp fun k q z hz => hk (k + 1) (by omega) z (by simpa using hz)]
    rfl
theorem best_is {ns : List Int} {m : Int} (hne : ns ≠ []) (hm : m ∈ ns) (hl : ∀ y ∈ ns, m ≤ y) : ∃ j, bestGo 0 none ns = some (m, j) ∧ ixOf (fun y => eqD y (.int m)) (ns.map D.int) = some j := by
  match ns, hne with
  | n :: r, _ =>
    obtain ⟨c, e, h1, h2, h3⟩ := best_some r 1 (n, 0)
    have cm : c.1 = m := by
      have hc : c.1 ∈ n :: r := by
        rcases h3 with ⟨rfl, _⟩ | ⟨_, j, _, e2, _⟩
        · exact List.mem_cons_self
        · exact List.mem_cons_of_mem _ (List.mem_of_getElem? e2)
      have := hl _ hc
      have h4 : c.1 ≤ m := by
        rcases List.mem_cons.mp hm with z | z
        · rw [z]; exact h2
        · exact h1 m z
      omega
    refine ⟨c.2, ?_, ?_⟩
    · show bestGo 1 (some (n, 0)) r = _
      rw [e, ← cm]
    · rcases h3 with ⟨rfl, _⟩ | ⟨h3, j, e1, e2, e3⟩
      · exact ixOf_first (x := D.int n) rfl (by rw [← cm]; simp) fun k hk => absurd hk (by show ¬ k < 0; omega)
      · rw [e1]
        refine ixOf_first (x := D.int c.1) ?_ (by rw [← cm]; simp) fun k hk y hy => ?_
        · rw [Nat.add_comm, List.getElem?_map, List.getElem?_cons_succ, e2]
          rfl
        · rw [← cm]
          match k, hk with
          | 0, _ =>
            simp at hy
            subst hy
            have : n ≠ c.1 := fun z => by
              have h3' : c.1 < n := h3
              omega
            simp [this]
          | k + 1, hk =>
            rw [List.getElem?_map, List.getElem?_cons_succ] at hy
            obtain ⟨z, hz, rfl⟩ := Option.map_eq_some_iff.mp hy
            have := e3 k (by omega) z hz
            have : z ≠ c.1 := by omega
            simp [this]
/-! so many lots at most -/
theorem flat2 {α β : Type} {f g : α → List β} {n : Nat} : ∀ {l : List α}, (∀ x ∈ l, (f x).length + (g x).length ≤ n) → (l.flatMap f).length + (l.flatMap g).length ≤ n * l.length
  | [], _ => by simp
  | x :: l, h => by
    rw [List.flatMap_cons, List.flatMap_cons, List.length_append, List.length_append, List.length_cons, Nat.mul_succ]
    have h1 := h x List.mem_cons_self
    have h2 := flat2 (l := l) fun y hy => h y (List.mem_cons_of_mem _ hy)
    omega
theorem wayCuts2 {size : Int} {w : Wy} : (wayCuts size 0 w).length + (wayCuts size 1 w).length ≤ 2 := by
  unfold wayCuts
  by_cases q : w.word = 0
  · have e : ¬ w.word = 1 := by omega
    rw [if_pos q, if_neg e]
    simp
  · rw [if_neg q]
    split <;> simp
theorem cuts2 {size : Int} {hs : List Hs} (g : ∀ h ∈ hs, GoodH h) : (cutsL size 0 hs).length + (cutsL size 1 hs).length ≤ 6 * hs.length + 2 := by
  unfold cutsL
  rw [List.length_cons, List.length_cons]
  have := flat2 (n := 6) (l := hs) (f := fun h => h.ways.flatMap (wayCuts size 0)) (g := fun h => h.ways.flatMap (wayCuts size 1)) fun h hh => by
    have h1 := flat2 (n := 2) (l := h.ways) (f := wayCuts size 0) (g := wayCuts size 1) fun w _ => wayCuts2
    have h2 := (g h hh).many
    omega
  omega
theorem prod44 : ∀ a ≤ 44, a * (44 - a) ≤ 484 := by decide
theorem allP_few {h : Hs} {ts : List Tn} (g : GoodH h) (gr : GoodR h ts) : (allP h.size (along h ts)).length ≤ 1452 := by
  have c2 := cuts2 (size := h.size) (along_lots g gr).good
  rw [along_cnt] at c2
  have h6 := gr.1
  have s0 := srt_len (l := cutsL h.size 0 (along h ts))
  have s1 := srt_len (l := cutsL h.size 1 (along h ts))
  have e : ∀ k : Int, (lotsK h.size (along h ts) k).length = (cutsOf h.size 1 (along h ts)).length * (cutsOf h.size 0 (along h ts)).length := fun k => by
    have z := flat_len_eq (n := (cutsOf h.size 1 (along h ts)).length) (l := pcs h.size (cutsOf h.size 0 (along h ts))) (f := fun a => (pcs h.size (cutsOf h.size 1 (along h ts))).map fun b => ((⟨k, a.1, b.1⟩, a.2 * b.2) : Pn × Int)) fun x _ => by
      rw [List.length_map, pcs_len]
    rw [pcs_len] at z
    exact z
  have z := flat_len_eq (l := ([0, 1, 2] : List Int)) (f := lotsK h.size (along h ts)) fun x _ => e x
  have e2 : allP h.size (along h ts) = ([0, 1, 2] : List Int).flatMap (lotsK h.size (along h ts)) := rfl
  rw [e2, z]
  have e3 : (cutsOf h.size 1 (along h ts)).length ≤ 44 - (cutsOf h.size 0 (along h ts)).length := by
    unfold cutsOf
    omega
  have e4 : (cutsOf h.size 0 (along h ts)).length ≤ 44 := by
    unfold cutsOf
    omega
  have e5 := prod44 _ e4
  have e6 := Nat.mul_le_mul_left (cutsOf h.size 0 (along h ts)).length e3
  rw [Nat.mul_comm] at e6
  simp only [List.length_cons, List.length_nil]
  omega
theorem left_len {h : Hs} {ts : List Tn} {ss : List Sg} (g : GoodH h) (gr : GoodR h ts) : (left h ts ss).length ≤ 1452 := Nat.le_trans (List.length_filter_le _ _) (allP_few g gr)
end TS
set_option Elab.async false
set_option linter.all false
set_option maxRecDepth 100000
set_option maxHeartbeats 4000000
set_option exponentiation.threshold 10000
/-! comprehensions of two clauses -/
namespace TS
open PySem PySem.Spec PyProof.Rows L2
def lcD2 (g : DG) (tt : DT) (ti1 : DI) (g1 : DG) (tt1 : DT) (te : DE) (vs vs1 : List Nat) : List D → List D → Rho → (List D → Rho → Prop) → Prop
  | [], acc, ρ, Q => Q acc ρ
  | d :: ds, acc, ρ, Q => g d (wipeR ρ vs) fun ρ1 => tt ρ1 (fun b ρ2 => if b = true then
      ti1 ρ2 (fun ds1 ρ3 => (acc.length + ds1.length ≤ LIM ∧ ∀ v ∈ vs1, heldAt ρ3 v = none) ∧ lcD g1 tt1 te vs1 ds1 acc ρ3 fun acc' ρ4 => lcD2 g tt ti1 g1 tt1 te vs vs1 ds acc' (bakR ρ ρ4 vs) Q) (fun _ _ => False)
    else lcD2 g tt ti1 g1 tt1 te vs vs1 ds acc (bakR ρ ρ2 vs) Q) (fun _ _ => False)
def nLc2 (ti : DI) (g : DG) (tt : DT) (ti1 : DI) (g1 : DG) (tt1 : DT) (te : DE) (vs vs1 : List Nat) : DA := fun ρ Q E => (∀ v ∈ vs, heldAt ρ v = none) ∧ ti ρ (fun ds ρ' => (∀ v ∈ vs, heldAt ρ' v = none) ∧ lcD2 g tt ti1 g1 tt1 te vs vs1 ds [] ρ' Q) E
section
variable {X : Cx} {Z : Zx} {W : WX} {σ : L2.St} {ρ : Rho} {H : Hp} {G : Addr → Prop}
abbrev GL (G : Addr → Prop) (L : Addr) : Addr → Prop := fun a => G a ∨ a = L
theorem upd_id {H : Hp} {a : Addr} {o : HO} (h : H a = some o) : upd H a o = H := by
  funext b
  by_cases q : b = a
  · rw [q, upd_same, h]
  · rw [upd_ne q]
/-- a state of a list that is being made -/
structure LSt (Z : Zx) (σ : L2.St) (ρ1 : Rho) (H1 : Hp) (G : Addr → Prop) (L : Addr) (vs : List Nat) (ρ' : Rho) (acc : List D) (ws : List V) (H' : Hp) : Prop where
  ok : Ok Z σ ρ' H' (GL G L)
  at_ : H' L = some (.lst ws)
  r : RpL Z (vis H' (Hid ρ' σ (GL G L))) acc ws
  st : Stp Z σ ρ1 (upd H1 L (.lst [])) σ ρ' (upd H' L (.lst []))
  hv : ∀ v ∈ vs, heldAt ρ' v = none
theorem nOw {L : Addr} (ok : Ok Z σ ρ H (GL G L)) : ¬ Ow ρ σ L := fun ⟨j, xs, e1, e2⟩ => by
  obtain ⟨b, us, w1, w2, w3, w4⟩ := ok.own j xs e1
  rw [w1] at e2
  cases e2
  exact w4 (.inr rfl)
/-- one element's end: the slots of the comprehension as before, the list as it is -/
theorem LSt.back [GoodJ Z] {ρ1 ρ' ρ5 : Rho} {H1 H' H2 H5 : Hp} {L : Addr} {vs : List Nat} {acc acc5 : List D} {ws ws5 : List V} {σ3 : L2.St} (s : LSt Z σ ρ1 H1 G L vs ρ' acc ws H') (sm : Same H' H2) (ok5 : Ok Z σ3 ρ5 H5 (GL G L)) (s5 : Stp Z (L2.wipe σ vs) (wipeR ρ' vs) (upd H2 L (.lst [])) σ3 ρ5 (upd H5 L (.lst [])))
    (h5 : H5 L = some (.lst ws5)) (r5 : RpL Z (vis H5 (Hid ρ5 σ3 (GL G L))) acc5 ws5) (l3 : σ3.length = σ.length) (o3 : ∀ j, j ∉ vs → σ3[j]? = σ[j]?) :
    LSt Z σ ρ1 H1 G L vs (bakR ρ' ρ5 vs) acc5 ws5 H5 ∧ Sub (vis H5 (Hid ρ5 σ3 (GL G L))) (vis H5 (Hid (bakR ρ' ρ5 vs) σ (GL G L))) := by
  have ok2 := s.ok.ext sm
  have h2 : H2 L = some (.lst ws) := sm _ _ s.at_
  obtain ⟨k2, e2⟩ := ok2.grow (ws := []) h2 (.inr rfl)
  obtain ⟨k5, e5⟩ := ok5.grow (ws := []) h5 (.inr rfl)
  obtain ⟨b1, b2, b3, b4⟩ := k2.baked s.hv k5 s5 l3 o3
  obtain ⟨k6, e6⟩ := b1.grow (ws := ws5) upd_same (.inr rfl)
  rw [upd_upd, upd_id h5] at k6 e6
  rw [e5] at b3
  rw [← e6] at b3
  have smu : Same (upd H' L (.lst [])) (upd H2 L (.lst [])) := fun a o h => by
    by_cases q : a = L
    · rw [q, upd_same] at h ⊢
      exact h
    · rw [upd_ne q] at h ⊢
      exact sm a o h
  exact ⟨⟨k6, h5, r5.sub b3, s.st.trans ((Stp.ext smu).trans b2), b4⟩, b3⟩
theorem LSt.keep {ρ1 ρ' : Rho} {H1 H' : Hp} {L : Addr} {vs : List Nat} {acc : List D} {ws : List V} (s : LSt Z σ ρ1 H1 G L vs ρ' acc ws H') {a : Addr} {o : HO} (h : H1 a = some o) (n : ¬ Tbl o) (ne : a ≠ L) (m : ¬ Ow ρ1 σ a) : H' a = some o ∧ ¬ Ow ρ' σ a := by
  have q1 := s.st.keep a o (by rw [upd_ne ne]; exact h) n m
  rw [upd_ne ne] at q1
  exact ⟨q1, s.st.out a o (by rw [upd_ne ne]; exact h) n m⟩
/-- one clause's loop, the list begun already -/
theorem lc_loop [GoodJ Z] {ts : List Nat} {g : DG} {tt : DT} {te : DE} {vs : List Nat} (hts : ∀ i ∈ ts, i ∈ vs) {ρ1 : Rho} {H1 : Hp} {L : Addr} {ws0 : List V} {acc0 ds : List D} {J : It} {Qd : List D → Rho → Prop} {Fin : Hp → Prop}
    (ok1 : Ok Z σ ρ1 H1 (GL G L)) (hL : H1 L = some (.lst ws0)) (r0 : RpL Z (vis H1 (Hid ρ1 σ (GL G L))) acc0 ws0) (hz : ws0.length + ds.length ≤ LIM) (hv : ∀ v ∈ vs, heldAt ρ1 v = none) (it : ItOk Z (vis H1 (Hid ρ1 σ (GL G L))) J ds)
    (h : lcD g tt te vs ds acc0 ρ1 Qd) (fin : ∀ ρ' acc ws H', LSt Z σ ρ1 H1 G L vs ρ' acc ws H' → Qd acc ρ' → Fin H') :
    ∃ W : Nat → Nat → Hp → Prop, (∃ m, W 0 m H1) ∧ ∀ i m H, W i m H → (J.stop i H ∧ Fin H) ∨ (J.go i H ∧ ∃ Nx : Hp → Prop, (∀ H', Nx H' → ∃ m', m' < m ∧ W (i + 1) m' H') ∧ ∀ x H', J.yld i H x H' → upG Z ts g x (L2.wipe σ vs) H' fun σ2 H2 => L2.wipe σ2 vs = L2.wipe σ vs ∧
      upT Z W0 tt σ2 H2 fun b H3 => if b = true then upE Z W0 te σ2 H3 fun y H4 => ∃ acc, H4 L = some (.lst acc) ∧ acc.length < sizeLine ∧ Nx (upd H4 L (.lst (acc ++ [y]))) else Nx H3) := by
  refine ⟨fun i m H' => m = ds.length - i ∧ i ≤ ds.length ∧ ∃ ρ' acc ws, LSt Z σ ρ1 H1 G L vs ρ' acc ws H' ∧ ws.length ≤ ws0.length + i ∧ lcD g tt te vs (ds.drop i) acc ρ' Qd,
    ⟨ds.length, by simp, Nat.zero_le _, ρ1, acc0, ws0, ⟨ok1, hL, r0, .refl, hv⟩, Nat.le_refl _, h⟩, ?_⟩
  rintro i m H' ⟨rfl, hle, ρ', acc, ws, s, hw, h'⟩
  have subA : Sub (vis H1 (Hid ρ1 σ (GL G L))) (vis H' (Hid ρ' σ (GL G L))) := vis_sub fun a o h n m => by
    have ne : a ≠ L := fun z => n (.inl (.inr z))
    obtain ⟨q1, q2⟩ := s.keep h m ne fun z => n (.inr z)
    exact ⟨fun z => z.elim (fun z => z.elim (fun z => n (.inl (.inl z))) ne) q2, q1⟩
  obtain ⟨go, stop⟩ := it i H' _ subA s.ok.held_tr
  by_cases hlt : i < ds.length
  · obtain ⟨hgo, hy⟩ := go hlt
    refine .inr ⟨hgo, fun H2 => ∃ ρ2 acc2 ws2, LSt Z σ ρ1 H1 G L vs ρ2 acc2 ws2 H2 ∧ ws2.length ≤ ws0.length + (i + 1) ∧ lcD g tt te vs (ds.drop (i + 1)) acc2 ρ2 Qd, fun H2 z => ⟨ds.length - (i + 1), by omega, rfl, hlt, z⟩, fun x H2 y => ?_⟩
    obtain ⟨sm, d, hd, r⟩ := hy x H2 y
    have ed : ds.drop i = d :: ds.drop (i + 1) := by
      rw [List.drop_eq_getElem_cons hlt]
      rw [List.getElem?_eq_getElem hlt] at hd
      rw [Option.some.inj hd]
    rw [ed] at h'
    have ok2 := s.ok.ext sm
    have h2 : H2 L = some (.lst ws) := sm _ _ s.at_
    obtain ⟨okw, eHw⟩ := ok2.wiped s.hv
    refine ⟨d, _, _, _, okw, by rw [eHw]; exact r, h', fun σ3 ρ3 ok3 s3 o3 q3 => ?_⟩
    have o3' : ∀ j, j ∉ vs → σ3[j]? = σ[j]? := fun j hj => by
      rw [(o3.2 j fun z => hj (hts j z)).1, wipe_at, if_neg hj]
    have l3 : σ3.length = σ.length := o3.1.trans (L2.wipe_length σ vs)
    refine ⟨wipe_eq l3 o3', ρ3, _, _, _, ok3, q3, fun b ρ4 H4 ok4 s4 q4 => ?_, XPE.none fun _ _ z => z⟩
    have s34 := s3.trans s4
    have nw : ¬ Ow (wipeR ρ' vs) (L2.wipe σ vs) L := fun z => nOw okw z
    have upS5 : ∀ {ρ5 : Rho} {H5 : Hp}, Stp Z (L2.wipe σ vs) (wipeR ρ' vs) H2 σ3 ρ5 H5 → Stp Z (L2.wipe σ vs) (wipeR ρ' vs) (upd H2 L (.lst [])) σ3 ρ5 (upd H5 L (.lst [])) := fun {ρ5 H5} s5 => ⟨fun a o h n m => by
        by_cases q : a = L
        · rw [q, upd_same] at h ⊢
          exact h
        · rw [upd_ne q] at h ⊢
          exact s5.keep a o h n m, fun a o h n m => by
        by_cases q : a = L
        · rw [q]
          exact s5.out L _ h2 (fun z => z) nw
        · rw [upd_ne q] at h
          exact s5.out a o h n m, s5.brw⟩
    have rb : ∀ {ρ5 : Rho} {H5 : Hp}, Stp Z (L2.wipe σ vs) (wipeR ρ' vs) H2 σ3 ρ5 H5 → RpL Z (vis H5 (Hid ρ5 σ3 (GL G L))) acc ws := fun {ρ5 H5} s5 => by
      have z := s.r.sub (vis_ext sm)
      rw [← eHw] at z
      exact z.sub s5.vis
    cases b with
    | true =>
      rw [if_pos rfl] at q4
      refine iteT ?_
      refine ⟨ρ4, _, _, _, ok4, q4, fun y u ρ5 H5 ok5 s5 r5 q5 => ?_, XPE.none fun _ _ z => z⟩
      have s35 := s34.trans s5
      have h5 : H5 L = some (.lst ws) := s35.keep L _ h2 (fun z => z) nw
      obtain ⟨f1, f2⟩ := s.back sm ok5 (upS5 s35) h5 (rb s35) l3 o3'
      obtain ⟨g1, g2⟩ := f1.ok.grow (ws := ws ++ [u]) h5 (.inr rfl)
      refine ⟨ws, h5, ?_, bakR ρ' ρ5 vs, acc ++ [y], ws ++ [u], ⟨g1, upd_same, ?_, by rw [upd_upd]; exact f1.st, f1.hv⟩, by rw [List.length_append, List.length_singleton]; omega, q5⟩
      · have := LIM_le
        have : (LIM : Nat) = 1000000 := rfl
        omega
      · rw [g2]
        exact f1.r.append ⟨r5.sub f2, trivial⟩
    | false =>
      rw [if_neg (by decide)] at q4
      refine iteF ?_
      have h5 : H4 L = some (.lst ws) := s34.keep L _ h2 (fun z => z) nw
      obtain ⟨f1, f2⟩ := s.back sm ok4 (upS5 s34) h5 (rb s34) l3 o3'
      exact ⟨bakR ρ' ρ4 vs, acc, ws, f1, by omega, q4⟩
  · have e : i = ds.length := by omega
    refine .inl ⟨stop e, ?_⟩
    rw [e, List.drop_length] at h'
    exact fin ρ' acc ws H' s h'
theorem up_lc2N [GoodJ Z] {ti ti1 : DI} {ts ts1 : List Nat} {g g1 : DG} {tt tt1 : DT} {te : DE} {vs vs1 : List Nat} (hts : ∀ i ∈ ts, i ∈ vs) (hts1 : ∀ i ∈ ts1, i ∈ vs1) (σ : L2.St) (H : Hp) (Q : VK) (h : upN Z W (nLc2 ti g tt ti1 g1 tt1 te vs vs1) σ H Q) :
    tLc2 (upI Z W ti) (upG Z ts g) (upT Z W0 tt) (upI Z W0 ti1) (upG Z ts1 g1) (upT Z W0 tt1) (upE Z W0 te) vs vs1 σ H Q := by
  obtain ⟨ρ, G, Qd, E, ok, ⟨_, h⟩, hq, hx⟩ := h
  refine ⟨ρ, G, _, E, ok, h, fun ds ρ1 H1 J ok1 s1 it h1 => ?_, hx⟩
  obtain ⟨hv, h1⟩ := h1
  intro L hL
  obtain ⟨okh, eVh⟩ := ok1.hide (vs := []) hL
  have nL := ok1.fresh hL
  refine ⟨fun i m H' => m = ds.length - i ∧ i ≤ ds.length ∧ ∃ ρ' acc ws, LSt Z σ ρ1 H1 G L vs ρ' acc ws H' ∧ lcD2 g tt ti1 g1 tt1 te vs vs1 (ds.drop i) acc ρ' Qd,
    ⟨ds.length, by simp, Nat.zero_le _, ρ1, [], [], ⟨okh, upd_same, trivial, by rw [upd_upd]; exact .refl, hv⟩, h1⟩, ?_⟩
  rintro i m H' ⟨rfl, hle, ρ', acc, ws, s, h'⟩
  have keep1 : ∀ a o, H1 a = some o → ¬ Tbl o → ¬ Ow ρ1 σ a → H' a = some o ∧ ¬ Ow ρ' σ a := fun a o h n m => s.keep h n (ne_of_none h hL) m
  have subA : Sub (vis H1 (Hid ρ1 σ G)) (vis H' (Hid ρ' σ (GL G L))) := vis_sub fun a o h n m => by
    obtain ⟨q1, q2⟩ := keep1 a o h m fun z => n (.inr z)
    exact ⟨fun z => z.elim (fun z => z.elim (fun z => n (.inl z)) (ne_of_none h hL)) q2, q1⟩
  obtain ⟨go, stop⟩ := it i H' _ subA s.ok.held_tr
  by_cases hlt : i < ds.length
  · obtain ⟨hgo, hy⟩ := go hlt
    refine .inr ⟨hgo, fun H2 => ∃ ρ2 acc2 ws2, LSt Z σ ρ1 H1 G L vs ρ2 acc2 ws2 H2 ∧ lcD2 g tt ti1 g1 tt1 te vs vs1 (ds.drop (i + 1)) acc2 ρ2 Qd, fun H2 z => ⟨ds.length - (i + 1), by omega, rfl, hlt, z⟩, fun x H2 y => ?_⟩
    obtain ⟨sm, d, hd, r⟩ := hy x H2 y
    have ed : ds.drop i = d :: ds.drop (i + 1) := by
      rw [List.drop_eq_getElem_cons hlt]
      rw [List.getElem?_eq_getElem hlt] at hd
      rw [Option.some.inj hd]
    rw [ed] at h'
    have ok2 := s.ok.ext sm
    have h2 : H2 L = some (.lst ws) := sm _ _ s.at_
    obtain ⟨okw, eHw⟩ := ok2.wiped s.hv
    refine ⟨d, _, _, _, okw, by rw [eHw]; exact r, h', fun σ3 ρ3 ok3 s3 o3 q3 => ?_⟩
    have o3' : ∀ j, j ∉ vs → σ3[j]? = σ[j]? := fun j hj => by
      rw [(o3.2 j fun z => hj (hts j z)).1, wipe_at, if_neg hj]
    have l3 : σ3.length = σ.length := o3.1.trans (L2.wipe_length σ vs)
    refine ⟨wipe_eq l3 o3', ρ3, _, _, _, ok3, q3, fun b ρ4 H4 ok4 s4 q4 => ?_, XPE.none fun _ _ z => z⟩
    have s34 := s3.trans s4
    have nw : ¬ Ow (wipeR ρ' vs) (L2.wipe σ vs) L := fun z => nOw okw z
    have upS5 : ∀ {ρ5 : Rho} {H5 : Hp}, Stp Z (L2.wipe σ vs) (wipeR ρ' vs) H2 σ3 ρ5 H5 → Stp Z (L2.wipe σ vs) (wipeR ρ' vs) (upd H2 L (.lst [])) σ3 ρ5 (upd H5 L (.lst [])) := fun {ρ5 H5} s5 => ⟨fun a o h n m => by
        by_cases q : a = L
        · rw [q, upd_same] at h ⊢
          exact h
        · rw [upd_ne q] at h ⊢
          exact s5.keep a o h n m, fun a o h n m => by
        by_cases q : a = L
        · rw [q]
          exact s5.out L _ h2 (fun z => z) nw
        · rw [upd_ne q] at h
          exact s5.out a o h n m, s5.brw⟩
    have rb : ∀ {ρ5 : Rho} {H5 : Hp}, Stp Z (L2.wipe σ vs) (wipeR ρ' vs) H2 σ3 ρ5 H5 → RpL Z (vis H5 (Hid ρ5 σ3 (GL G L))) acc ws := fun {ρ5 H5} s5 => by
      have z := s.r.sub (vis_ext sm)
      rw [← eHw] at z
      exact z.sub s5.vis
    cases b with
    | true =>
      rw [if_pos rfl] at q4
      refine iteT ?_
      refine ⟨ρ4, _, _, _, ok4, q4, fun ds1 ρ5 H5 J1 ok5 s5 it5 q5 => ?_, XPE.none fun _ _ z => z⟩
      obtain ⟨⟨hz, hv1⟩, q5⟩ := q5
      have s35 := s34.trans s5
      have h5 : H5 L = some (.lst ws) := s35.keep L _ h2 (fun z => z) nw
      refine lc_loop hts1 ok5 h5 (rb s35) (by rw [← s.r.len]; exact hz) hv1 it5 q5 fun ρ6 acc6 ws6 H6 s6 q6 => ?_
      obtain ⟨f1, f2⟩ := s.back sm s6.ok ((upS5 s35).trans s6.st) s6.at_ s6.r l3 o3'
      exact ⟨_, acc6, ws6, f1, q6⟩
    | false =>
      rw [if_neg (by decide)] at q4
      refine iteF ?_
      have h5 : H4 L = some (.lst ws) := s34.keep L _ h2 (fun z => z) nw
      obtain ⟨f1, f2⟩ := s.back sm ok4 (upS5 s34) h5 (rb s34) l3 o3'
      exact ⟨bakR ρ' ρ4 vs, acc, ws, f1, q4⟩
  · have e : i = ds.length := by omega
    refine .inl ⟨stop e, ?_⟩
    rw [e, List.drop_length] at h'
    have nHL : ¬ Hid ρ' σ G L := fun z => z.elim (fun z => nL (.inl z)) (nOw s.ok)
    have sF : Stp Z σ ρ1 H1 σ ρ' H' := ⟨fun a o h n m => (keep1 a o h n m).1, fun a o h n m => (keep1 a o h n m).2, fun j xs e => s.st.brw j xs e⟩
    refine hq acc ws L ρ' H' s.ok (s1.trans sF) (fun o ho hn => Classical.byContradiction fun z => ?_) nHL s.at_ s.r h'
    have q := s1.keep L o ho hn z
    rw [hL] at q
    cases q
theorem de_lc2N [GoodJ Z] {elt tg iter tg1 iter1 : Expr} {ifs ifs1 : List Expr} {scope : Scope} {own : List (Str × Nat)} {ts ts1 vs1 : List Nat} {pos : Pos} {ti ti1 : DI} {g g1 : DG} {tt tt1 : DT} {te : DE} (hc : X.calm = true) (hN : X.N.Nodup) (ok : BlkOk X.N X.env.scope scope own) (hi : PI X tg iter (upI Z W ti))
    (hg : ∀ (s : Shared) (H : Hp) (C : Addr) (cl : List (Str × Addr)) (fp : List Addr), PG (X.blk s H scope (compEnvC scope cl C X.env) fp) tg (upG Z ts g))
    (ht : ∀ (s : Shared) (H : Hp) (C : Addr) (cl : List (Str × Addr)) (fp : List Addr), PTs (X.blk s H scope (compEnvC scope cl C X.env) fp) ifs (upT Z W0 tt))
    (hi1 : ∀ (s : Shared) (H : Hp) (C : Addr) (cl : List (Str × Addr)) (fp : List Addr), PI (X.blk s H scope (compEnvC scope cl C X.env) fp) tg1 iter1 (upI Z W0 ti1))
    (hg1 : ∀ (s : Shared) (H : Hp) (C : Addr) (cl : List (Str × Addr)) (fp : List Addr), PG (X.blk s H scope (compEnvC scope cl C X.env) fp) tg1 (upG Z ts1 g1))
    (ht1 : ∀ (s : Shared) (H : Hp) (C : Addr) (cl : List (Str × Addr)) (fp : List Addr), PTs (X.blk s H scope (compEnvC scope cl C X.env) fp) ifs1 (upT Z W0 tt1))
    (he : ∀ (s : Shared) (H : Hp) (C : Addr) (cl : List (Str × Addr)) (fp : List Addr), PE (X.blk s H scope (compEnvC scope cl C X.env) fp) elt (upE Z W0 te))
    (hv : ∀ i ∈ vs1, i ∈ own.map (·.2) := by decide) (hts : ∀ i ∈ ts, i ∈ own.map (·.2) := by decide) (hts1 : ∀ i ∈ ts1, i ∈ vs1 := by decide) (hs : ∀ x, foldedSetIterable iter X.env x = pure x := by intro _; rfl) (hs1 : ∀ env x, foldedSetIterable iter1 env x = pure x := by intro _ _; rfl) :
    PE X (.ListComp elt [⟨tg, iter, ifs, 0⟩, ⟨tg1, iter1, ifs1, 0⟩] scope pos) (upN Z W (nLc2 ti g tt ti1 g1 tt1 te (own.map (·.2)) vs1)) := PE.wk (pe_lc2 hc hN hi ok hv hg ht hi1 hg1 ht1 he hs hs1) (up_lc2N hts hts1)
end
theorem lcD2_m {g g1 : DG} {tt tt1 : DT} {ti1 : DI} {te : DE} {vs vs1 : List Nat} [M : MG g] [N : MT tt] [I : MA ti1] [M1 : MG g1] [N1 : MT tt1] [O : ME te] {Q Q' : List D → Rho → Prop} (hq : ∀ l s, Q l s → Q' l s) : ∀ (ds acc : List D) (ρ : Rho), lcD2 g tt ti1 g1 tt1 te vs vs1 ds acc ρ Q → lcD2 g tt ti1 g1 tt1 te vs vs1 ds acc ρ Q'
  | [], acc, ρ, h => hq _ _ h
  | d :: ds, acc, ρ, h => by
    unfold lcD2 at h ⊢
    refine M.m d _ _ _ (fun s => N.m s _ _ _ _ (fun b s q => ?_) (fun _ _ h => h)) h
    cases b with
    | true =>
      rw [if_pos rfl] at q ⊢
      exact I.m s _ _ _ _ (fun ds1 s h => ⟨h.1, lcD_m (fun l s => lcD2_m hq ds l _) ds1 _ _ h.2⟩) (fun _ _ h => h) q
    | false => rw [if_neg (by decide)] at q ⊢; exact lcD2_m hq ds _ _ q
instance {ti ti1 : DI} {g g1 : DG} {tt tt1 : DT} {te : DE} {vs vs1 : List Nat} [I : MA ti] [M : MG g] [N : MT tt] [I1 : MA ti1] [M1 : MG g1] [N1 : MT tt1] [O : ME te] : MA (nLc2 ti g tt ti1 g1 tt1 te vs vs1) := ⟨fun ρ Q Q' E E' hq hx h => ⟨h.1, I.m ρ _ _ _ _ (fun ds s h => ⟨h.1, lcD2_m hq ds _ _ h.2⟩) hx h.2⟩⟩
@[simp] theorem nLc2_s {ti ti1 : DI} {g g1 : DG} {tt tt1 : DT} {te : DE} {vs vs1 : List Nat} {ρ : Rho} {Q : List D → Rho → Prop} {E : EQ} : nLc2 ti g tt ti1 g1 tt1 te vs vs1 ρ Q E = ((∀ v ∈ vs, heldAt ρ v = none) ∧ ti ρ (fun ds ρ' => (∀ v ∈ vs, heldAt ρ' v = none) ∧ lcD2 g tt ti1 g1 tt1 te vs vs1 ds [] ρ' Q) E) := (rfl)
end TS
set_option Elab.async false
set_option linter.all false
set_option maxRecDepth 100000
set_option maxHeartbeats 4000000
set_option exponentiation.threshold 10000
/-! sorted of a list of tuples of ints, of any lengths but none -/
namespace SrtO
open PySem PyProof.Rows Srt HT
theorem lex_asym : ∀ a b : List Int, lexLt a b = true → lexLt b a = false
  | [], [], h => by cases h
  | [], _ :: _, _ => rfl
  | _ :: _, [], h => by cases h
  | x :: xs, y :: ys, h => by
    rw [lexLt_cons] at h ⊢
    by_cases e : x = y
    · rw [if_pos e] at h
      rw [if_pos e.symm]
      exact lex_asym xs ys h
    · rw [if_neg e, decide_eq_true_eq] at h
      rw [if_neg (fun z => e z.symm)]
      exact decide_eq_false (by omega)
theorem lex_tr : ∀ x y z : List Int, lexLt y x = false → lexLt z y = false → lexLt z x = false
  | [], y, [], _, _ => rfl
  | [], [], _ :: _, _, h => rfl
  | [], _ :: _, _ :: _, _, _ => rfl
  | x :: xs, [], _, h, _ => by cases h
  | x :: xs, y :: ys, [], _, h => by cases h
  | x :: xs, y :: ys, z :: zs, h1, h2 => by
    rw [lexLt_cons] at h1 h2 ⊢
    by_cases e1 : y = x
    · rw [if_pos e1] at h1
      by_cases e2 : z = y
      · rw [if_pos e2] at h2
        rw [if_pos (e2.trans e1)]
        exact lex_tr xs ys zs h1 h2
      · rw [if_neg e2] at h2
        rw [if_neg (fun q => e2 (q.trans e1.symm)), ← e1]
        exact h2
    · rw [if_neg e1] at h1
      have h1 := of_decide_eq_false h1
      by_cases e2 : z = y
      · rw [e2, if_neg e1]
        exact decide_eq_false h1
      · rw [if_neg e2] at h2
        have h2 := of_decide_eq_false h2
        rw [if_neg (by omega)]
        exact decide_eq_false (by omega)
theorem swo_tup {α : Type} (k : α → List Int) : Swo fun v u => lexLt (k v) (k u) := ⟨fun x y h => lex_asym _ _ h, fun x y z h1 h2 => lex_tr _ _ _ h1 h2⟩
section
variable {prog : Program} {w : World} {A : Around} {E : Value → Shared → Prop} {s : Shared}
theorem katlex {Q : Bool → Shared → Prop} {fin : Bool} : ∀ {us ws : List Value} {xs ys : List Int} (i : Nat), IntsAre us xs → IntsAre ws ys → fin = decide (us.length < ws.length) → Q (lexLt xs ys) s → PySem.W.KatLex prog w A true fin Q (us.zip ws) i s := by
  intro us
  induction us with
  | nil =>
    intro ws xs ys i h1 h2 hf hq
    cases h1
    refine PySem.W.kat_nil ?_
    rw [hf]
    cases h2 with
    | nil => exact hq
    | cons y t r =>
      rw [decide_eq_true (by simp)]
      exact hq
  | cons u us ih =>
    intro ws xs ys i h1 h2 hf hq
    cases h1 with
    | cons x t r1 =>
      cases h2 with
      | nil =>
        refine PySem.W.kat_nil ?_
        rw [hf, decide_eq_false (by simp)]
        exact hq
      | cons y t' r2 =>
        refine PySem.W.kat_cons (SeqAt.EqAt.int_int x t y t' prog w _ _ ?_)
        rw [lexLt_cons] at hq
        refine PySem.W.kat_go (fun e1 => ?_) (fun e1 => ?_)
        · have ex : x = y := by simpa using e1
          rw [if_pos ex] at hq
          refine PySem.W.kat_yes (ih (i + 1) r1 r2 ?_ hq)
          rw [hf, List.length_cons, List.length_cons]
          rw [decide_eq_decide]
          omega
        · have ex : ¬ x = y := by simpa using e1
          rw [if_neg ex] at hq
          cases i with
          | zero => exact PySem.W.kat_no (oneLt_int hq)
          | succ i => exact PySem.W.kat_no (PySem.W.kat_one _ _ (PyProof.Rows.lt_int hq))
theorem tups_cmp {vs : List Value} {k : Value → List Int} (hp : ∀ v ∈ vs, TS.TupInts s.heap v (k v)) : Cmp prog w A s (tuples' true) (fun p => p.1 ∈ vs) (lt2 fun v u => lexLt (k v) (k u)) := by
  intro p q hm hm'
  have h1 := hp _ hm
  have h2 := hp _ hm'
  show wpAny (model prog w) A (keyLt' (tuples' true) p.1 q.1) (fun r s' => s' = s ∧ r = lexLt (k p.1) (k q.1)) (fun _ _ => False) s
  generalize k p.1 = xs at h1 ⊢
  generalize k q.1 = ys at h2 ⊢
  obtain ⟨a, us, e, ⟨o, ho, hc, n, hd⟩, i1⟩ := h1
  obtain ⟨b, ws, e', ⟨o', ho', hc', n', hd'⟩, i2⟩ := h2
  rw [e, e']
  refine PySem.W.kat_lt ho hd ho' hd' ?_
  refine katlex 0 i1 i2 ?_ ⟨rfl, rfl⟩
  rw [Array.length_toList, Array.length_toList]
theorem tup_firsts : ∀ {vs : List Value} {k : Value → List Int} {h : Heap}, (∀ v ∈ vs, TS.TupInts h v (k v) ∧ k v ≠ []) → ∃ fs, PySem.W.KatTups h vs fs ∧ fs.length = vs.length ∧ ∀ f ∈ fs, ∃ x t, f = Value.int x t
  | [], k, h, _ => ⟨[], .nil, rfl, fun f hf => by cases hf⟩
  | v :: vs, k, h, hp => by
    obtain ⟨fs, h1, h2, h3⟩ := tup_firsts fun u hu => hp u (List.mem_cons_of_mem _ hu)
    obtain ⟨⟨a, us, rfl, ⟨o, ho, hc, n, hd⟩, i1⟩, hne⟩ := hp v List.mem_cons_self
    generalize k (.ref a) = xs at i1 hne
    obtain ⟨its⟩ := us
    cases i1 with
    | nil => exact absurd rfl hne
    | cons x t r =>
      exact ⟨_ :: fs, .cons ho hc hd rfl h1, by rw [List.length_cons, List.length_cons, h2], fun f hf => by
        rcases List.mem_cons.mp hf with e | e
        · exact ⟨_, _, e⟩
        · exact h3 f e⟩
theorem tups_sortableO {a : Addr} {vs : List Value} {k : Value → List Int} (h0 : 0 < vs.length) (hp : ∀ v ∈ vs, TS.TupInts s.heap v (k v) ∧ k v ≠ []) (ha : ∀ o, s.heap.get? a = some o → o.cls ≠ .type "tuple") : SortableO prog w A s a vs fun v u => lexLt (k v) (k u) := by
  intro h' keep
  have hp' : ∀ v ∈ vs, TS.TupInts h' v (k v) ∧ k v ≠ [] := fun v hm => ⟨(hp v hm).1.keeps fun b o e c => keep b o (fun z => by subst z; exact ha o e c) e, (hp v hm).2⟩
  obtain ⟨fs, h1, h2, h3⟩ := tup_firsts hp'
  refine ⟨tuples' true, fun Q E hq => ?_, tups_cmp fun v hv => (hp' v hv).1⟩
  refine PySem.W.kat_kind (T := .type "int") h1 (by omega) (fun f hm => ?_) (by rfl) ?_
  · obtain ⟨x, t, rfl⟩ := h3 f hm
    exact PySem.W.Looks.now
  · have e : (Value.type "int" != Value.type "tuple") = true := by first | decide +kernel | rfl | decide
    rw [e]
    exact hq
theorem sorted_tupsO {l : Addr} {vs : List Value} {k : Value → List Int} {Q : Value → Shared → Prop} (hl : s.heap.IsList l vs.toArray) (hz : vs.length ≤ sizeLine) (hp : 2 ≤ vs.length → ∀ v ∈ vs, TS.TupInts s.heap v (k v) ∧ k v ≠ [])
    (h : ∀ (h' : Heap) (d : Addr) (out : List Value), Srtd (fun v u => lexLt (k v) (k u)) out → Stb (fun v u => lexLt (k v) (k u)) out vs → (∀ b o, s.heap.get? b = some o → h'.get? b = some o) → s.heap.objs.size ≤ d → (∃ n, h'.get? d = some (seqObj "list" out.toArray n)) → Q (.ref d) { s with heap := h' }) :
    wpAny (model prog w) A (call (.builtin "sorted") [.ref l]) Q E s := by
  refine sorted_ord (swo_tup k) hl hz (fun h2 h₁ a ha kk => ?_) fun out hs hb => ?_
  · refine tups_sortableO (s := { s with heap := h₁ }) (by omega) (fun v hm => ⟨(hp h2 v hm).1.keeps fun b o e _ => (kk b o e).2, (hp h2 v hm).2⟩) fun o e => ?_
    have e' : some o = some (seqObj "list" vs.toArray 0) := e.symm.trans ha
    cases e'
    intro c
    exact absurd (Value.type.inj c) (by decide)
  · exact h _ _ out hs hb (fun b o e => sortedAll_old e) (Nat.le_succ _) (sortedAll_at s.heap vs out.toArray)
end
end SrtO
namespace TS
open PySem PySem.Spec PyProof.Rows L2
/-- sorted(xs) of tuples of ints: none of them empty, or just one -/
def rSortTI (K : PySem.W.Frag) : List V → Hp → VK → Prop := fun vs H Q => ∃ (a : Addr) (xs : List V) (ls : List (List Int)), vs = [V.ref a] ∧ SqL K H a xs ∧ xs.length = ls.length ∧ (∀ (i : Nat) (x : V) (l : List Int), xs[i]? = some x → ls[i]? = some l → TupI K H x l) ∧ (2 ≤ ls.length → ∀ l ∈ ls, l ≠ []) ∧
  ∀ (ys : List V) (ms : List (List Int)) (p : Addr), ys.length = ms.length → (ys.zip ms).Perm (xs.zip ls) → ms.Perm ls → ms.Pairwise (fun x y => HT.lexLt y x = false) → H p = none → Q (.ref p) (upd H p (.lst ys))
section
variable {X : Cx} {Z : Zx} {W : WX}
theorem cr_sortTI : CallR X (.builtin "sorted") (rSortTI X.K) := by
  intro pins s σ H vs us Q I r h
  obtain ⟨a, xs, ls, rfl, hs, hlen, hx, hne, q⟩ := h
  obtain ⟨its, rv, hl, hz⟩ := I.list hs
  rw [Vals.ref1 r]
  have hxl : ∀ x ∈ xs, ∃ l ∈ ls, TupI X.K H x l := fun x m => by
    obtain ⟨i, hi, e⟩ := List.mem_iff_getElem.mp m
    have hi2 : i < ls.length := by omega
    exact ⟨ls[i], List.getElem_mem hi2, hx i x ls[i] (by rw [List.getElem?_eq_getElem hi, e]) (List.getElem?_eq_getElem hi2)⟩
  obtain ⟨e1, e2⟩ := bkV_refs rv fun x m => by
    obtain ⟨l, _, t, e, _⟩ := hxl x m
    exact ⟨t, e⟩
  have raw : ∀ {v : Value} {l : List Int}, (∃ t, v = .ref t) → TupI X.K H (bkV v) l → TS.intsOf s.heap v = l ∧ TS.TupInts s.heap v l := fun {v l} hv ht => by
    obtain ⟨t, rfl⟩ := hv
    obtain ⟨t', e, ht⟩ := ht
    cases e
    have z := tupI_raw I ht
    exact ⟨z.ints, z⟩
  have inL : ∀ v ∈ its, TS.intsOf s.heap v ∈ ls ∧ TS.TupInts s.heap v (TS.intsOf s.heap v) := fun v hv => by
    have hm : bkV v ∈ xs := by
      rw [e1]
      exact List.mem_map.mpr ⟨_, hv, rfl⟩
    obtain ⟨l, hl, ht⟩ := hxl _ hm
    obtain ⟨z1, z2⟩ := raw (e2 v hv) ht
    rw [z1]
    exact ⟨hl, z2⟩
  have mp : its.map (TS.intsOf s.heap) = ls := by
    apply List.ext_getElem?
    intro i
    rw [List.getElem?_map]
    cases h1 : its[i]? with
    | none =>
      have q1 := List.getElem?_eq_none_iff.mp h1
      have q2 : xs.length = its.length := by rw [e1, List.length_map]
      rw [List.getElem?_eq_none (by omega)]
      rfl
    | some v =>
      have q1 := (List.getElem?_eq_some_iff.mp h1).1
      have q2 : xs.length = its.length := by rw [e1, List.length_map]
      have q3 : i < ls.length := by omega
      have z := hx i (bkV v) ls[i] (by rw [e1, List.getElem?_map, h1]; rfl) (List.getElem?_eq_getElem q3)
      obtain ⟨z1, _⟩ := raw (e2 v (List.mem_of_getElem? h1)) z
      rw [List.getElem?_eq_getElem q3, ← z1]
      rfl
  have hl2 : its.length = ls.length := by rw [← mp, List.length_map]
  refine SrtO.sorted_tupsO (k := TS.intsOf s.heap) hl.isList (by rw [← rv.length]; exact hz) (fun h2 v hv => ⟨(inL v hv).2, hne (by omega) _ (inL v hv).1⟩) fun h' d out h1 h2 kp hd hn => ?_
  have h3 : ∀ u ∈ out, ∃ a, u = Value.ref a := fun u hu => e2 u (h2.perm.mem_iff.mp hu)
  obtain ⟨n, hn⟩ := hn
  have hlo : (out.map bkV).length ≤ sizeLine := by
    rw [List.length_map, h2.perm.length_eq, ← rv.length]
    exact hz
  refine ⟨.ref d, upd H d (.lst (out.map bkV)), I.laid (t' := s.toks) kp hd ⟨hlo, out, n, bkV_vals h3, hn⟩, rfl, q _ (out.map (TS.intsOf s.heap)) d (by rw [List.length_map, List.length_map]) ?_ ?_ (List.pairwise_map.mpr h1) (I.hok.fresh hd)⟩
  · rw [List.zip_map', ← mp, e1, List.zip_map']
    exact h2.perm.map _
  · rw [← mp]
    exact h2.perm.map _
theorem RpL.zip {Z : Zx} {A : Hp} : ∀ {ls : List (List Int)} {ws : List V}, RpL Z A (ls.map intsD) ws → ∀ p ∈ ws.zip ls, Rp Z A (intsD p.2) p.1
  | [], [], _, p, hp => by cases hp
  | l :: ls, w :: ws, r, p, hp => by
    rw [List.zip_cons_cons] at hp
    rcases List.mem_cons.mp hp with e | e
    · rw [e]
      exact r.1
    · exact RpL.zip (ls := ls) (ws := ws) r.2 p e
  | [], _ :: _, r, _, _ => r.elim
  | _ :: _, [], r, _, _ => r.elim
theorem RpL.of_zip {Z : Zx} {A : Hp} : ∀ {ls : List (List Int)} {ws : List V}, ws.length = ls.length → (∀ p ∈ ws.zip ls, Rp Z A (intsD p.2) p.1) → RpL Z A (ls.map intsD) ws
  | [], [], _, _ => trivial
  | l :: ls, w :: ws, e, h => ⟨h (w, l) (by rw [List.zip_cons_cons]; exact List.mem_cons_self), RpL.of_zip (ls := ls) (ws := ws) (by simpa using e) fun p hp => h p (by rw [List.zip_cons_cons]; exact List.mem_cons_of_mem _ hp)⟩
  | [], _ :: _, e, _ => by cases e
  | _ :: _, [], e, _ => by cases e
/-- sorted(e), a list of tuples of ints -/
def nSortT (t : DE) : DA := fun ρ Q E => t ρ (fun d ρ' => ∃ ls : List (List Int), d = .lst (ls.map intsD) ∧ (2 ≤ ls.length → ∀ l ∈ ls, l ≠ []) ∧ ∀ ms : List (List Int), ms.Perm ls → ms.Pairwise (fun x y => HT.lexLt y x = false) → Q (ms.map intsD) ρ') E
theorem up_sortT [GoodJ Z] [F : Fit X Z] {t : DE} (σ : L2.St) (H : Hp) (Q : VK) (h : upN Z W (nSortT t) σ H Q) : tCB (rSortTI X.K) (tCons (upE Z W t) tNil) σ H Q := by
  obtain ⟨ρ, G, Qd, E, ok, h, hq, hx⟩ := h
  refine ⟨ρ, G, _, E, ok, h, fun d v ρ1 H1 ok1 s1 r1 h1 => ?_, hx⟩
  obtain ⟨ls, rfl, hne, h2⟩ := h1
  obtain ⟨a, ws, rfl, q, r⟩ := r1
  have hlen : ws.length = ls.length := by rw [← r.len, List.length_map]
  have tupAt : ∀ {vs : List V} {ks : List (List Int)} {A : Hp}, RpL Z A (ks.map intsD) vs → ∀ (i : Nat) (x : V) (l : List Int), vs[i]? = some x → ks[i]? = some l → ∃ t, x = .ref t ∧ SqT Z.K A t (l.map V.int) := fun {vs ks A} r i x l hx hl => by
    obtain ⟨v, h1, h2⟩ := r.get (i := i) (d := intsD l) (by rw [List.getElem?_map, hl]; rfl)
    rw [hx] at h1
    cases h1
    obtain ⟨t, us, rfl, q1, q2⟩ := h2
    rw [q2.ints] at q1
    exact ⟨t, rfl, q1⟩
  refine ⟨a, ws, ls, rfl, ?_, hlen, fun i x l hx hl => ?_, hne, fun ys ms p hl hy hp hs hp2 => ?_⟩
  · rw [F.K]
    exact .of (vis_some.mp q).2
  · obtain ⟨t, rfl, q1⟩ := tupAt r i x l hx hl
    rw [F.K]
    exact ⟨t, rfl, vis_sqT q1⟩
  · have rr : RpL Z (vis H1 (Hid ρ1 σ G)) (ms.map intsD) ys := RpL.of_zip hl fun p hm => r.zip p (hy.mem_iff.mp hm)
    obtain ⟨k1, k2, k3⟩ := ok1.laid hp2 rr
    exact hq _ ys p ρ1 _ k1 (s1.trans (.ext (same_upd hp2))) (s1.frs hp2) k2 upd_same k3 (h2 ms hp hs)
theorem de_sortT [GoodJ Z] [F : Fit X Z] {e : Expr} {t : DE} {p pos : Pos} (hm : Z.mg "sorted" = none) (he : PE X e (upE Z W t)) (hg : Gl X "sorted" := by rfl)
    (hs : starEach [e] X.env = (false, eval e X.env) :: starEach [] X.env := by rfl) (hpl : (backTo pos (starEach [] X.env)).any (·.1) = false := by rfl) :
    PE X (.Call (.Name "sorted" p) [e] [] pos) (upN Z W (nSortT t)) :=
  PE.wk (pe_callB cr_sortTI hg (by rw [F.mg]; exact hm) boot_sorted (pa_cons he pa_nil hs) (by decide) (by decide) hs hpl) up_sortT
end
instance {t : DE} [M : ME t] : MA (nSortT t) := ⟨fun ρ Q Q' E E' hq hx h => M.m ρ _ _ _ _ (fun d s ⟨ls, e, h, q⟩ => ⟨ls, e, h, fun ms h1 h2 => hq _ s (q ms h1 h2)⟩) hx h⟩
@[simp] theorem nSortT_s {t : DE} {ρ : Rho} {Q : List D → Rho → Prop} {E : EQ} : nSortT t ρ Q E = t ρ (fun d ρ' => ∃ ls : List (List Int), d = .lst (ls.map intsD) ∧ (2 ≤ ls.length → ∀ l ∈ ls, l ≠ []) ∧ ∀ ms : List (List Int), ms.Perm ls → ms.Pairwise (fun x y => HT.lexLt y x = false) → Q (ms.map intsD) ρ') E := (rfl)
end TS
set_option Elab.async false
set_option linter.all false
set_option maxRecDepth 100000
set_option maxHeartbeats 4000000
set_option exponentiation.threshold 10000
/-! a comprehension over a list of one's own, which it leaves as it is -/
namespace TS
open PySem PySem.Spec PyProof.Rows L2
def lcDH (i0 : Nat) (ds0 : List D) (g : DG) (tt : DT) (te : DE) (vs : List Nat) : List D → List D → Rho → (List D → Rho → Prop) → Prop
  | [], acc, ρ, Q => heldAt ρ i0 = some ds0 ∧ Q acc ρ
  | d :: ds, acc, ρ, Q => heldAt ρ i0 = some ds0 ∧ g d (wipeR ρ vs) fun ρ1 => tt ρ1 (fun b ρ2 => if b = true then
      te ρ2 (fun y ρ3 => lcDH i0 ds0 g tt te vs ds (acc ++ [y]) (bakR ρ ρ3 vs) Q) (fun _ _ => False) else lcDH i0 ds0 g tt te vs ds acc (bakR ρ ρ2 vs) Q) (fun _ _ => False)
def nLcH (i0 : Nat) (g : DG) (tt : DT) (te : DE) (vs : List Nat) : DA := fun ρ Q _ => (∀ v ∈ vs, heldAt ρ v = none) ∧ ∃ ds0, heldAt ρ i0 = some ds0 ∧ ds0.length ≤ LIM ∧ lcDH i0 ds0 g tt te vs ds0 [] ρ Q
section
variable {X : Cx} {Z : Zx} {W : WX} {σ : L2.St} {ρ : Rho} {H : Hp} {G : Addr → Prop}
theorem lcDH_held {i0 : Nat} {ds0 : List D} {g : DG} {tt : DT} {te : DE} {vs : List Nat} {ds acc : List D} {ρ : Rho} {Q : List D → Rho → Prop} (h : lcDH i0 ds0 g tt te vs ds acc ρ Q) : heldAt ρ i0 = some ds0 := by
  cases ds with
  | nil => exact h.1
  | cons d ds => exact h.1
theorem up_lcH [GoodJ Z] [F : Fit X Z] {i0 : Nat} {ts : List Nat} {g : DG} {tt : DT} {te : DE} {vs : List Nat} (hts : ∀ i ∈ ts, i ∈ vs) (σ : L2.St) (H : Hp) (Q : VK) (h : upN Z W (nLcH i0 g tt te vs) σ H Q) :
    tLc (iList X.K (tVar i0)) (upG Z ts g) (upT Z W0 tt) (upE Z W0 te) vs σ H Q := by
  obtain ⟨ρ, G, Qd, E, ok, ⟨hv, ds0, h0, hz, h1⟩, hq, hx⟩ := h
  obtain ⟨a, vs0, ha, hva, _, _⟩ := ok.own i0 ds0 h0
  rw [F.K]
  refine ⟨.ref a, ha, a, rfl, ⟨vs0, .of hva⟩, ?_⟩
  intro L hL
  obtain ⟨okh, eVh⟩ := ok.hide (vs := []) hL
  have nL := ok.fresh hL
  refine ⟨fun i m H' => m = ds0.length - i ∧ i ≤ ds0.length ∧ ∃ ρ' acc ws, LSt Z σ ρ H G L vs ρ' acc ws H' ∧ ws.length ≤ i ∧ lcDH i0 ds0 g tt te vs (ds0.drop i) acc ρ' Qd,
    ⟨ds0.length, by simp, Nat.zero_le _, ρ, [], [], ⟨okh, upd_same, trivial, by rw [upd_upd]; exact .refl, hv⟩, Nat.le_refl _, h1⟩, ?_⟩
  rintro i m H' ⟨rfl, hle, ρ', acc, ws, s, hw, h'⟩
  have hh := lcDH_held h'
  obtain ⟨b, us, hb, hub, rb0, _⟩ := s.ok.own i0 ds0 hh
  have eb : b = a := by
    rw [ha] at hb
    cases hb
    rfl
  subst eb
  have sq : SqL Z.K H' b us := .of hub
  have keep1 : ∀ a o, H a = some o → ¬ Tbl o → ¬ Ow ρ σ a → H' a = some o ∧ ¬ Ow ρ' σ a := fun a o h n m => s.keep h n (ne_of_none h hL) m
  by_cases hlt : i < ds0.length
  · have hd : ds0[i]? = some ds0[i] := List.getElem?_eq_getElem hlt
    obtain ⟨u, hu, ru⟩ := rb0.get hd
    refine .inr ⟨⟨us, u, sq, hu⟩, fun H2 => ∃ ρ2 acc2 ws2, LSt Z σ ρ H G L vs ρ2 acc2 ws2 H2 ∧ ws2.length ≤ i + 1 ∧ lcDH i0 ds0 g tt te vs (ds0.drop (i + 1)) acc2 ρ2 Qd, fun H2 z => ⟨ds0.length - (i + 1), by omega, rfl, hlt, z⟩, fun x H2 y => ?_⟩
    obtain ⟨e2, y⟩ := y
    subst e2
    have ex := y us sq
    rw [hu] at ex
    cases ex
    have ed : ds0.drop i = ds0[i] :: ds0.drop (i + 1) := List.drop_eq_getElem_cons hlt
    rw [ed] at h'
    obtain ⟨_, h'⟩ := h'
    have sm : Same H2 H2 := .refl H2
    have h2 : H2 L = some (.lst ws) := s.at_
    obtain ⟨okw, eHw⟩ := s.ok.wiped s.hv
    refine ⟨ds0[i], _, _, _, okw, by rw [eHw]; exact ru, h', fun σ3 ρ3 ok3 s3 o3 q3 => ?_⟩
    have o3' : ∀ j, j ∉ vs → σ3[j]? = σ[j]? := fun j hj => by
      rw [(o3.2 j fun z => hj (hts j z)).1, wipe_at, if_neg hj]
    have l3 : σ3.length = σ.length := o3.1.trans (L2.wipe_length σ vs)
    refine ⟨wipe_eq l3 o3', ρ3, _, _, _, ok3, q3, fun b ρ4 H4 ok4 s4 q4 => ?_, XPE.none fun _ _ z => z⟩
    have s34 := s3.trans s4
    have nw : ¬ Ow (wipeR ρ' vs) (L2.wipe σ vs) L := fun z => nOw okw z
    have upS5 : ∀ {ρ5 : Rho} {H5 : Hp}, Stp Z (L2.wipe σ vs) (wipeR ρ' vs) H2 σ3 ρ5 H5 → Stp Z (L2.wipe σ vs) (wipeR ρ' vs) (upd H2 L (.lst [])) σ3 ρ5 (upd H5 L (.lst [])) := fun {ρ5 H5} s5 => ⟨fun a o h n m => by
        by_cases q : a = L
        · rw [q, upd_same] at h ⊢
          exact h
        · rw [upd_ne q] at h ⊢
          exact s5.keep a o h n m, fun a o h n m => by
        by_cases q : a = L
        · rw [q]
          exact s5.out L _ h2 (fun z => z) nw
        · rw [upd_ne q] at h
          exact s5.out a o h n m, s5.brw⟩
    have rb : ∀ {ρ5 : Rho} {H5 : Hp}, Stp Z (L2.wipe σ vs) (wipeR ρ' vs) H2 σ3 ρ5 H5 → RpL Z (vis H5 (Hid ρ5 σ3 (GL G L))) acc ws := fun {ρ5 H5} s5 => by
      have z := s.r
      rw [← eHw] at z
      exact z.sub s5.vis
    cases b with
    | true =>
      rw [if_pos rfl] at q4
      refine iteT ?_
      refine ⟨ρ4, _, _, _, ok4, q4, fun y u ρ5 H5 ok5 s5 r5 q5 => ?_, XPE.none fun _ _ z => z⟩
      have s35 := s34.trans s5
      have h5 : H5 L = some (.lst ws) := s35.keep L _ h2 (fun z => z) nw
      obtain ⟨f1, f2⟩ := s.back sm ok5 (upS5 s35) h5 (rb s35) l3 o3'
      obtain ⟨g1, g2⟩ := f1.ok.grow (ws := ws ++ [u]) h5 (.inr rfl)
      refine ⟨ws, h5, ?_, bakR ρ' ρ5 vs, acc ++ [y], ws ++ [u], ⟨g1, upd_same, ?_, by rw [upd_upd]; exact f1.st, f1.hv⟩, by rw [List.length_append, List.length_singleton]; omega, q5⟩
      · have := LIM_le
        have : (LIM : Nat) = 1000000 := rfl
        omega
      · rw [g2]
        exact f1.r.append ⟨r5.sub f2, trivial⟩
    | false =>
      rw [if_neg (by decide)] at q4
      refine iteF ?_
      have h5 : H4 L = some (.lst ws) := s34.keep L _ h2 (fun z => z) nw
      obtain ⟨f1, f2⟩ := s.back sm ok4 (upS5 s34) h5 (rb s34) l3 o3'
      exact ⟨bakR ρ' ρ4 vs, acc, ws, f1, by omega, q4⟩
  · have e : i = ds0.length := by omega
    refine .inl ⟨⟨us, sq, by rw [← rb0.len]; omega⟩, ?_⟩
    rw [e, List.drop_length] at h'
    have nHL : ¬ Hid ρ' σ G L := fun z => z.elim (fun z => nL (.inl z)) (nOw s.ok)
    have sF : Stp Z σ ρ H σ ρ' H' := ⟨fun a o h n m => (keep1 a o h n m).1, fun a o h n m => (keep1 a o h n m).2, fun j xs e => s.st.brw j xs e⟩
    refine hq acc ws L ρ' H' s.ok sF (fun o ho hn => Classical.byContradiction fun z => ?_) nHL s.at_ s.r h'.2
    rw [hL] at ho
    cases ho
theorem de_lcH [GoodJ Z] [F : Fit X Z] {elt tg : Expr} {x : Str} {px : Pos} {i0 : Nat} {ifs : List Expr} {scope : Scope} {own : List (Str × Nat)} {ts : List Nat} {pos : Pos} {g : DG} {tt : DT} {te : DE} (hc : X.calm = true) (hN : X.N.Nodup) (ok : BlkOk X.N X.env.scope scope own)
    (hg : ∀ (s : Shared) (H : Hp) (C : Addr) (cl : List (Str × Addr)) (fp : List Addr), PG (X.blk s H scope (compEnvC scope cl C X.env) fp) tg (upG Z ts g))
    (ht : ∀ (s : Shared) (H : Hp) (C : Addr) (cl : List (Str × Addr)) (fp : List Addr), PTs (X.blk s H scope (compEnvC scope cl C X.env) fp) ifs (upT Z W0 tt))
    (he : ∀ (s : Shared) (H : Hp) (C : Addr) (cl : List (Str × Addr)) (fp : List Addr), PE (X.blk s H scope (compEnvC scope cl C X.env) fp) elt (upE Z W0 te))
    (hNx : X.N[i0]? = some x := by rfl) (hv : Vis X.env.scope x := by first | exact Or.inl rfl | exact Or.inr (Or.inl rfl) | exact Or.inr (Or.inr rfl))
    (hd : (x == ("__debug__" : Str)) = false := by decide) (hcd : (x == ("__classdict__" : Str)) = false := by decide)
    (hts : ∀ i ∈ ts, i ∈ own.map (·.2) := by decide) (hs : ∀ y, foldedSetIterable (.Name x px) X.env y = pure y := by intro _; rfl) :
    PE X (.ListComp elt [⟨tg, .Name x px, ifs, 0⟩] scope pos) (upN Z W (nLcH i0 g tt te (own.map (·.2)))) := PE.wk (pe_lc hc hN (pi_list (pe_var hNx hv hd hcd)) ok hg ht he hs) (up_lcH hts)
end
theorem lcDH_m {i0 : Nat} {ds0 : List D} {g : DG} {tt : DT} {te : DE} {vs : List Nat} [M : MG g] [N : MT tt] [O : ME te] {Q Q' : List D → Rho → Prop} (hq : ∀ l s, Q l s → Q' l s) : ∀ (ds acc : List D) (ρ : Rho), lcDH i0 ds0 g tt te vs ds acc ρ Q → lcDH i0 ds0 g tt te vs ds acc ρ Q'
  | [], acc, ρ, h => ⟨h.1, hq _ _ h.2⟩
  | d :: ds, acc, ρ, h => by
    unfold lcDH at h ⊢
    refine ⟨h.1, M.m d _ _ _ (fun s => N.m s _ _ _ _ (fun b s q => ?_) (fun _ _ h => h)) h.2⟩
    cases b with
    | true => rw [if_pos rfl] at q ⊢; exact O.m s _ _ _ _ (fun y s => lcDH_m hq ds _ _) (fun _ _ h => h) q
    | false => rw [if_neg (by decide)] at q ⊢; exact lcDH_m hq ds _ _ q
instance {i0 : Nat} {g : DG} {tt : DT} {te : DE} {vs : List Nat} [M : MG g] [N : MT tt] [O : ME te] : MA (nLcH i0 g tt te vs) := ⟨fun ρ Q Q' E E' hq hx ⟨h1, ds0, h2, h3, h4⟩ => ⟨h1, ds0, h2, h3, lcDH_m hq _ _ _ h4⟩⟩
@[simp] theorem nLcH_s {i0 : Nat} {g : DG} {tt : DT} {te : DE} {vs : List Nat} {ρ : Rho} {Q : List D → Rho → Prop} {E : EQ} : nLcH i0 g tt te vs ρ Q E = ((∀ v ∈ vs, heldAt ρ v = none) ∧ ∃ ds0, heldAt ρ i0 = some ds0 ∧ ds0.length ≤ LIM ∧ lcDH i0 ds0 g tt te vs ds0 [] ρ Q) := (rfl)
/-- such a one that draws nothing: an item each, or none -/
theorem lcDH_fm {i0 : Nat} {ds0 : List D} {g : DG} {tt : DT} {te : DE} {vs : List Nat} [M : MG g] [N : MT tt] [O : ME te] (f : D → Option D) {Q : List D → Rho → Prop} : ∀ {ds acc : List D} {ρ : Rho}, heldAt ρ i0 = some ds0 →
    (∀ d ∈ ds, g d (wipeR ρ vs) fun ρ1 => tt ρ1 (fun b ρ2 => if b = true then te ρ2 (fun y ρ3 => f d = some y ∧ bakR ρ ρ3 vs = ρ) (fun _ _ => False) else f d = none ∧ bakR ρ ρ2 vs = ρ) (fun _ _ => False)) →
    Q (acc ++ ds.filterMap f) ρ → lcDH i0 ds0 g tt te vs ds acc ρ Q
  | [], acc, ρ, hh, _, h => ⟨hh, by simpa using h⟩
  | d :: ds, acc, ρ, hh, hs, h => by
    unfold lcDH
    refine ⟨hh, M.m d _ _ _ (fun s1 => N.m s1 _ _ _ _ (fun b s2 q => ?_) (fun _ _ h => h)) (hs d List.mem_cons_self)⟩
    cases b with
    | true =>
      rw [if_pos rfl] at q ⊢
      refine O.m s2 _ _ _ _ (fun y s3 ⟨q1, q2⟩ => ?_) (fun _ _ h => h) q
      rw [q2]
      refine lcDH_fm f hh (fun d hd => hs d (List.mem_cons_of_mem _ hd)) ?_
      rw [List.filterMap_cons_some q1] at h
      simpa using h
    | false =>
      rw [if_neg (by decide)] at q ⊢
      rw [q.2]
      refine lcDH_fm f hh (fun d hd => hs d (List.mem_cons_of_mem _ hd)) ?_
      rw [List.filterMap_cons_none q.1] at h
      exact h
end TS
set_option Elab.async false
set_option linter.all false
set_option maxRecDepth 100000
set_option maxHeartbeats 1000000
set_option exponentiation.threshold 10000
/-! ways that must be kept: plain theory and specs -/
namespace TS
open PySem PySem.Spec PyProof.Rows L2
@[simp] theorem oIn_ints {l : List Int} {a : Int} {Q : D → Prop} : oIn (.int a) (intsD l) Q = Q (.bl (l.contains a)) := by
  unfold intsD
  rw [oIn_tt, any_ints]
  simp [flat_ints]
@[simp] theorem oNotIn_ints {l : List Int} {a : Int} {Q : D → Prop} : oNotIn (.int a) (intsD l) Q = Q (.bl (!(l.contains a))) := by
  unfold intsD
  rw [oNotIn_tt, any_ints]
  simp [flat_ints]
/-! ### lots -/
def lotsF : Nat → List (List Int)
  | 0 => [[]]
  | n + 1 => lotsF n ++ (lotsF n).map fun l => l ++ [(n : Int)]
def lotsN : Nat → List (List Int)
  | 1 => [[], [0]]
  | 2 => [[], [0], [1], [0, 1]]
  | 3 => [[], [0], [1], [2], [0, 1], [0, 2], [1, 2], [0, 1, 2]]
  | _ => []
def leastGo (calm : List Int → Bool) : List (List Int) → List (List Int) → List (List Int)
  | [], fnd => fnd
  | lot :: r, fnd => leastGo calm r (if (fnd.any fun less => less.all fun w => lot.contains w) = true then fnd else if calm lot = true then fnd ++ [lot] else fnd)
def leastL (calm : List Int → Bool) (many : Nat) : List (List Int) := leastGo calm (lotsN many) []
def dueOf (good : List (List Int)) : List (List Int) := good.filter fun lot => (good.filter fun less => !(less == lot)).all fun less => !(less.all fun w => lot.contains w)
def dueL (calm : List Int → Bool) (many : Nat) : List (List Int) := dueOf ((lotsF many).filter calm)
theorem leastGo_congr {c c' : List Int → Bool} : ∀ {r f : List (List Int)}, (∀ l ∈ r, c l = c' l) → leastGo c r f = leastGo c' r f
  | [], f, _ => rfl
  | l :: r, f, h => by
    unfold leastGo
    rw [h l List.mem_cons_self]
    exact leastGo_congr fun x hx => h x (List.mem_cons_of_mem _ hx)
def tabB (bs : List Bool) (l : List Int) : Bool := match l with
  | [] => bs.getD 0 false
  | [0] => bs.getD 1 false
  | [1] => bs.getD 2 false
  | [2] => bs.getD 3 false
  | [0, 1] => bs.getD 4 false
  | [0, 2] => bs.getD 5 false
  | [1, 2] => bs.getD 6 false
  | [0, 1, 2] => bs.getD 7 false
  | _ => false
/-- the two ways to find the least lots agree, and what is sorted is short or holds no empty lot -/
def lotsOk (c : List Int → Bool) (many : Nat) : Bool := (leastL c many).isPerm (dueL c many) && (decide ((leastL c many).length < 2) || (leastL c many).all fun l => !l.isEmpty) && (decide ((dueL c many).length < 2) || (dueL c many).all fun l => !l.isEmpty)
theorem lots_all : ∀ b0 b1 b2 b3 b4 b5 b6 b7 : Bool, lotsOk (tabB [b0, b1, b2, b3, b4, b5, b6, b7]) 1 = true ∧ lotsOk (tabB [b0, b1, b2, b3, b4, b5, b6, b7]) 2 = true ∧ lotsOk (tabB [b0, b1, b2, b3, b4, b5, b6, b7]) 3 = true := by decide +kernel
theorem lots_ok (c : List Int → Bool) {many : Nat} (h : 1 ≤ many ∧ many ≤ 3) : lotsOk c many = true := by
  have z := lots_all (c []) (c [0]) (c [1]) (c [2]) (c [0, 1]) (c [0, 2]) (c [1, 2]) (c [0, 1, 2])
  have e : ∀ l ∈ lotsN 3, c l = tabB [c [], c [0], c [1], c [2], c [0, 1], c [0, 2], c [1, 2], c [0, 1, 2]] l := by
    intro l hl
    simp only [lotsN, List.mem_cons, List.not_mem_nil, or_false] at hl
    rcases hl with rfl | rfl | rfl | rfl | rfl | rfl | rfl | rfl <;> rfl
  generalize tabB [c [], c [0], c [1], c [2], c [0, 1], c [0, 2], c [1, 2], c [0, 1, 2]] = c' at z e
  have sub : ∀ m, 1 ≤ m → m ≤ 3 → (∀ l ∈ lotsN m, l ∈ lotsN 3) ∧ ∀ l ∈ lotsF m, l ∈ lotsN 3 := by
    intro m h1 h2
    rcases (by omega : m = 1 ∨ m = 2 ∨ m = 3) with rfl | rfl | rfl <;> exact ⟨by decide, by decide⟩
  obtain ⟨s1, s2⟩ := sub many h.1 h.2
  have e1 : leastL c many = leastL c' many := leastGo_congr fun l hl => e l (s1 l hl)
  have e2 : dueL c many = dueL c' many := by
    unfold dueL
    rw [List.filter_congr fun l hl => e l (s2 l hl)]
  unfold lotsOk
  rw [e1, e2]
  show lotsOk c' many = true
  rcases (by omega : many = 1 ∨ many = 2 ∨ many = 3) with rfl | rfl | rfl
  · exact z.1
  · exact z.2.1
  · exact z.2.2
theorem lots_perm (c : List Int → Bool) {many : Nat} (h : 1 ≤ many ∧ many ≤ 3) : (leastL c many).Perm (dueL c many) := by
  have z := lots_ok c h
  unfold lotsOk at z
  rw [Bool.and_eq_true, Bool.and_eq_true] at z
  exact List.isPerm_iff.mp z.1.1
theorem lots_ne1 (c : List Int → Bool) {many : Nat} (h : 1 ≤ many ∧ many ≤ 3) : 2 ≤ (leastL c many).length → ∀ l ∈ leastL c many, l ≠ [] := by
  have z := lots_ok c h
  unfold lotsOk at z
  rw [Bool.and_eq_true, Bool.and_eq_true, Bool.or_eq_true, decide_eq_true_eq, List.all_eq_true] at z
  intro h2 l hl e
  rcases z.1.2 with q | q
  · omega
  · have := q l hl
    rw [e] at this
    cases this
theorem lots_ne2 (c : List Int → Bool) {many : Nat} (h : 1 ≤ many ∧ many ≤ 3) : 2 ≤ (dueL c many).length → ∀ l ∈ dueL c many, l ≠ [] := by
  have z := lots_ok c h
  unfold lotsOk at z
  rw [Bool.and_eq_true, Bool.or_eq_true, decide_eq_true_eq, List.all_eq_true] at z
  intro h2 l hl e
  rcases z.2 with q | q
  · omega
  · have := q l hl
    rw [e] at this
    cases this
/-! ### sorted is sorted -/
theorem lex_anti : ∀ {a b : List Int}, HT.lexLt a b = false → HT.lexLt b a = false → a = b
  | [], [], _, _ => rfl
  | [], _ :: _, h, _ => by cases h
  | _ :: _, [], _, h => by cases h
  | x :: xs, y :: ys, h1, h2 => by
    rw [HT.lexLt_cons] at h1 h2
    by_cases e : x = y
    · rw [if_pos e] at h1
      rw [if_pos e.symm] at h2
      rw [e, lex_anti h1 h2]
    · rw [if_neg e] at h1
      rw [if_neg (fun z => e z.symm)] at h2
      have h1 := of_decide_eq_false h1
      have h2 := of_decide_eq_false h2
      omega
abbrev LexUp (l : List (List Int)) : Prop := l.Pairwise fun x y => HT.lexLt y x = false
theorem lex_uniq : ∀ {a b : List (List Int)}, a.Perm b → LexUp a → LexUp b → a = b
  | [], b, p, _, _ => (List.Perm.nil_eq p)
  | x :: a, b, p, h1, h2 => by
    match b with
    | [] => exact absurd p.length_eq (by simp)
    | y :: b =>
      obtain ⟨p1, q1⟩ := List.pairwise_cons.mp h1
      obtain ⟨p2, q2⟩ := List.pairwise_cons.mp h2
      have e : x = y := by
        have hx : x ∈ y :: b := p.mem_iff.mp List.mem_cons_self
        have hy : y ∈ x :: a := p.mem_iff.mpr List.mem_cons_self
        rcases List.mem_cons.mp hx with e | hx
        · exact e
        · rcases List.mem_cons.mp hy with e | hy
          · exact e.symm
          · exact lex_anti (p2 x hx) (p1 y hy)
      subst e
      rw [lex_uniq (List.Perm.cons_inv p) q1 q2]
/-! ### houses in which more ways are kept -/
def keepW (lot : List Int) (i : Nat) (w : Wy) : Wy := { w with keeps := w.keeps || lot.contains (i : Int) }
def keptH (h : Hs) (lot : List Int) : Hs := ⟨h.size, h.ways.mapIdx (keepW lot)⟩
theorem kept_good {h : Hs} {lot : List Int} (g : GoodH h) : GoodH (keptH h lot) := by
  refine ⟨g.size, by simpa [keptH] using g.many, fun i w e => ?_⟩
  simp only [keptH, List.getElem?_mapIdx] at e
  obtain ⟨v, hv, rfl⟩ := Option.map_eq_some_iff.mp e
  have z := g.ways i v hv
  exact ⟨z.word, z.start, z.share, z.fence, z.kinds⟩
theorem kept_row {h : Hs} {lot : List Int} {ts : List Tn} (gr : GoodR h ts) : GoodR (keptH h lot) ts :=
  ⟨gr.1, fun t ht => ⟨by have := (gr.2 t ht).1; simpa [keptH] using this, (gr.2 t ht).2⟩⟩
/-! ### what is lost -/
def lostL (ms : List (List Int)) (w : Int) : List Nat := (List.range (ms.length - 1)).filter fun i => (ms.getD i []).contains w && !((ms.getD (i + 1) []).contains w)
def natD : Option Nat → D
  | none => .non
  | some i => .int (i : Int)
def S_lost_at : SV
  | [.lst mds, .int w], Q, _ => ∃ ms : List (List Int), mds = ms.map intsD ∧ ms.length ≤ 1000 ∧ Q (natD (lostL ms w).head?)
  | _, _, _ => False
abbrev F_lost_at : FS := FV S_lost_at
instance : MSV S_lost_at := ⟨fun ds Q Q' E E' hq hx => by
  unfold S_lost_at
  split <;> repeat' (first | exact fun h => h | exact fun h => h.elim | exact hq _ | exact hq _ _ | exact hx _ | exact hx _ _ | apply And.imp | apply Or.imp | (apply Exists.imp; intro _) | (apply forall_imp; intro _))⟩
def S_law_lost : SV
  | [.tup mds, .int w], Q, _ => ∃ ms : List (List Int), mds = ms.map intsD ∧ ms.length ≤ 1000 ∧ Q (.lst ((lostL ms w).map fun (i : Nat) => D.int (i : Int)))
  | _, _, _ => False
abbrev F_law_lost : FS := FV S_law_lost
instance : MSV S_law_lost := ⟨fun ds Q Q' E E' hq hx => by
  unfold S_law_lost
  split <;> repeat' (first | exact fun h => h | exact fun h => h.elim | exact hq _ | exact hq _ _ | exact hx _ | exact hx _ _ | apply And.imp | apply Or.imp | (apply Exists.imp; intro _) | (apply forall_imp; intro _))⟩
/-- nothing is lost of so many ways -/
def noneLost (many : Nat) (ms : List (List Int)) : Bool := (List.range many).all fun (w : Nat) => (lostL ms (w : Int)).isEmpty
def calmB (h : Hs) (ts : List Tn) : Bool := (allP h.size (along h ts)).all fun p => noneLost h.ways.length (history h p.1 ts)
def calmP (h : Hs) (ts : List Tn) : Bool := (persons h.size).all fun p => noneLost h.ways.length (history h p ts)
theorem calm_same {h : Hs} {ts : List Tn} (g : GoodH h) (gr : GoodR h ts) : calmB h ts = calmP h ts := by
  have z := lots_any g gr fun ms => !(noneLost h.ways.length ms)
  unfold calmB calmP
  rw [List.all_eq_not_any_not, List.all_eq_not_any_not, z]
def S_all_lots : SV
  | [.int many], Q, _ => (1 ≤ many ∧ many ≤ 3) ∧ Q (.lst ((lotsN many.toNat).map intsD))
  | _, _, _ => False
abbrev F_all_lots : FS := FV S_all_lots
instance : MSV S_all_lots := ⟨fun ds Q Q' E E' hq hx => by
  unfold S_all_lots
  split <;> repeat' (first | exact fun h => h | exact fun h => h.elim | exact hq _ | exact hq _ _ | exact hx _ | exact hx _ _ | apply And.imp | apply Or.imp | (apply Exists.imp; intro _) | (apply forall_imp; intro _))⟩
def S_with_kept : SV
  | [hd, .tup ls], Q, _ => ∃ (h : Hs) (lot : List Int), hd = h.d ∧ ls = lot.map D.int ∧ h.ways.length ≤ 3 ∧ Q (keptH h lot).d
  | _, _, _ => False
abbrev F_with_kept : FS := FV S_with_kept
instance : MSV S_with_kept := ⟨fun ds Q Q' E E' hq hx => by
  unfold S_with_kept
  split <;> repeat' (first | exact fun h => h | exact fun h => h.elim | exact hq _ | exact hq _ _ | exact hx _ | exact hx _ _ | apply And.imp | apply Or.imp | (apply Exists.imp; intro _) | (apply forall_imp; intro _))⟩
def S_is_calm : SV
  | [hd, rd], Q, _ => ∃ (h : Hs) (ts : List Tn), hd = h.d ∧ rd = .tup (ts.map Tn.d) ∧ GoodH h ∧ GoodR h ts ∧ Q (.bl (calmB h ts))
  | _, _, _ => False
abbrev F_is_calm : FS := FV S_is_calm
instance : MSV S_is_calm := ⟨fun ds Q Q' E E' hq hx => by
  unfold S_is_calm
  split <;> repeat' (first | exact fun h => h | exact fun h => h.elim | exact hq _ | exact hq _ _ | exact hx _ | exact hx _ _ | apply And.imp | apply Or.imp | (apply Exists.imp; intro _) | (apply forall_imp; intro _))⟩
def calmK (h : Hs) (ts : List Tn) (lot : List Int) : Bool := calmB (keptH h lot) ts
def S_least_keeps : SV
  | [hd, rd], Q, E => Need hd rd E fun h ts => ∀ ms : List (List Int), ms.Perm (leastL (calmK h ts) h.ways.length) → LexUp ms → Q (.lst (ms.map intsD))
  | _, _, _ => False
abbrev F_least_keeps : FS := FV S_least_keeps
instance : MSV S_least_keeps := ⟨fun ds Q Q' E E' hq hx => by
  unfold S_least_keeps
  split <;> repeat' (first | exact fun h => h | exact fun h => h.elim | exact hq _ | exact hq _ _ | exact hx _ | exact hx _ _ | apply And.imp | apply Or.imp | (apply Exists.imp; intro _) | (apply forall_imp; intro _))⟩
def S_law_calm : SV
  | [hd, rd, .tup ls], Q, _ => ∃ (h : Hs) (ts : List Tn) (lot : List Int), hd = h.d ∧ rd = .tup (ts.map Tn.d) ∧ ls = lot.map D.int ∧ GoodH h ∧ GoodR h ts ∧ h.size ≤ 100 ∧ Q (.bl (calmK h ts lot))
  | _, _, _ => False
abbrev F_law_calm : FS := FV S_law_calm
instance : MSV S_law_calm := ⟨fun ds Q Q' E E' hq hx => by
  unfold S_law_calm
  split <;> repeat' (first | exact fun h => h | exact fun h => h.elim | exact hq _ | exact hq _ _ | exact hx _ | exact hx _ _ | apply And.imp | apply Or.imp | (apply Exists.imp; intro _) | (apply forall_imp; intro _))⟩
def S_law_keeps : SV
  | [hd, rd], Q, _ => pd hd ∧ pd rd ∧ hasHouse hd = false ∧ Q (.str "house value")
  | _, _, _ => False
abbrev F_law_keeps : FS := FV S_law_keeps
instance : MSV S_law_keeps := ⟨fun ds Q Q' E E' hq hx => by
  unfold S_law_keeps
  split <;> repeat' (first | exact fun h => h | exact fun h => h.elim | exact hq _ | exact hq _ _ | exact hx _ | exact hx _ _ | apply And.imp | apply Or.imp | (apply Exists.imp; intro _) | (apply forall_imp; intro _))⟩
end TS
set_option Elab.async false
set_option linter.all false
set_option maxRecDepth 100000
set_option maxHeartbeats 1000000
set_option exponentiation.threshold 10000
set_option synthInstance.maxSize 100000
set_option synthInstance.maxHeartbeats 0
namespace TS
open PySem PySem.Spec PyProof.Rows L2
/-! is_whole(value, low, high) -/
def N_is_whole : List Str := ["value", "low", "high"]
def t_is_whole : DS := (sRet (dAnd (dCB fIsi (aCons (dVar 0) (aCons (dC (.ty "int")) aNil))) (dAnd (dNot (dCB fIsi (aCons (dVar 0) (aCons (dC (.ty "bool")) aNil))))
    (dChain oLe oLe (dVar 1) (dVar 0) (dVar 2)))))
/-! is_rising(value, most) -/
def N_is_rising : List Str := ["value", "most", "at", "part"]
def t_is_rising : DS := (sSeq (sIf (tOrD (tNotD (dTst (dCB fIsi (aCons (dVar 0) (aCons (dC (.ty "tuple")) aNil))))) (dTst (dOp oNe (dOfN (nLc (iSq (dVar 0)) (gNm 3) (tNotD
    (dTst (dCall 3 F_is_whole (aCons (dVar 3) (aCons (dC (.int 0)) (aCons (dVar 1) aNil)))))) (dVar 3) [3])) (dOfN (nLst aNil))))) (sRet (dC (.bl false))) sNext) (sRet
    (dOp oEq (dOfN (nLc (iR1 (aCons (dOp oSub (dCB fLen (aCons (dVar 0) aNil)) (dC (.int 1))) aNil)) (gNm 2) (dTst (dOp oGe (dOp oIx (dVar 0) (dVar 2)) (dOp oIx (dVar 0)
    (dOp oAdd (dVar 2) (dC (.int 1)))))) (dVar 2) [2])) (dOfN (nLst aNil)))))
/-! is_part(size, number, place, value) -/
def N_is_part : List Str := ["size", "number", "place", "value"]
def t_is_part : DS := (sSeq (sIf (dTst (dOp oEq (dVar 2) (dC (.int 0)))) (sRet (dCall 3 F_is_whole (aCons (dVar 3) (aCons (dC (.int 0)) (aCons (dC (.int 1)) aNil)))))
    sNext) (sSeq (sIf (dTst (dOp oEq (dVar 2) (dC (.int 1)))) (sRet (dCall 3 F_is_whole (aCons (dVar 3) (aCons (dC (.int 0)) (aCons (dOp oSub (dVar 0) (dC (.int 1)))
    aNil))))) sNext) (sSeq (sIf (dTst (dOp oEq (dVar 2) (dC (.int 2)))) (sRet (dCall 3 F_is_whole (aCons (dVar 3) (aCons (dC (.int 0)) (aCons (dVar 0) aNil))))) sNext)
    (sSeq (sIf (dTst (dOp oEq (dVar 2) (dC (.int 3)))) (sRet (dOr (dOp oIsN (dVar 3) (dC .non)) (dCall 3 F_is_whole (aCons (dVar 3) (aCons (dC (.int 0)) (aCons (dOp oSub
    (dVar 1) (dC (.int 1))) aNil)))))) sNext) (sSeq (sIf (dTst (dOp oEq (dVar 2) (dC (.int 4)))) (sRet (dAnd (dCall 2 F_is_rising (aCons (dVar 3) (aCons (dC (.int 2))
    aNil))) (dOp oNe (dVar 3) (dTupL aNil)))) sNext) (sRet (dCB fIsi (aCons (dVar 3) (aCons (dC (.ty "bool")) aNil)))))))))
/-! is_way(size, number, value) -/
def N_is_way : List Str := ["size", "number", "value", "place"]
def t_is_way : DS := (sSeq (sIf (tOrD (tNotD (dTst (dCB fIsi (aCons (dVar 2) (aCons (dC (.ty "tuple")) aNil))))) (dTst (dOp oNe (dCB fLen (aCons (dVar 2) aNil)) (dC (.int
    6))))) (sRet (dC (.bl false))) sNext) (sRet (dOp oEq (dOfN (nLc (iR1 (aCons (dC (.int 6)) aNil)) (gNm 3) (tNotD (dTst (dCall 4 F_is_part (aCons (dVar 0) (aCons (dVar
    1) (aCons (dVar 3) (aCons (dOp oIx (dVar 2) (dVar 3)) aNil))))))) (dVar 3) [3])) (dOfN (nLst aNil)))))
/-! has_house(value) -/
def N_has_house : List Str := ["value", "number"]
def t_has_house : DS := (sSeq (sIf (tOrD (tNotD (dTst (dCB fIsi (aCons (dVar 0) (aCons (dC (.ty "tuple")) aNil))))) (tOrD (dTst (dOp oNe (dCB fLen (aCons (dVar 0) aNil))
    (dC (.int 2)))) (tNotD (dTst (dCall 3 F_is_whole (aCons (dOp oIx (dVar 0) (dC (.int 0))) (aCons (dC (.int 1)) (aCons (dC (.int (10 ^ 30))) aNil)))))))) (sRet (dC (.bl
    false))) sNext) (sSeq (sIf (tOrD (tNotD (dTst (dCB fIsi (aCons (dOp oIx (dVar 0) (dC (.int 1))) (aCons (dC (.ty "tuple")) aNil))))) (tNotD (dTst (dChain oLe oLe (dC
    (.int 1)) (dCB fLen (aCons (dOp oIx (dVar 0) (dC (.int 1))) aNil)) (dC (.int 3)))))) (sRet (dC (.bl false))) sNext) (sRet (dOp oEq (dOfN (nLc (iR1 (aCons (dCB fLen
    (aCons (dOp oIx (dVar 0) (dC (.int 1))) aNil)) aNil)) (gNm 1) (tNotD (dTst (dCall 3 F_is_way (aCons (dOp oIx (dVar 0) (dC (.int 0))) (aCons (dVar 1) (aCons (dOp oIx
    (dOp oIx (dVar 0) (dC (.int 1))) (dVar 1)) aNil)))))) (dVar 1) [1])) (dOfN (nLst aNil))))))
/-! is_turning(house, value) -/
def N_is_turning : List Str := ["house", "value"]
def t_is_turning : DS := (sSeq (sIf (tOrD (tNotD (dTst (dCB fIsi (aCons (dVar 1) (aCons (dC (.ty "tuple")) aNil))))) (tOrD (tNotD (dTst (dChain oLe oLe (dC (.int 2)) (dCB
    fLen (aCons (dVar 1) aNil)) (dC (.int 3))))) (tNotD (dTst (dCB fIsi (aCons (dOp oIx (dVar 1) (dC (.int 0))) (aCons (dC (.ty "str")) aNil))))))) (sRet (dC (.bl false)))
    sNext) (sSeq (sIf (tNotD (dTst (dCall 3 F_is_whole (aCons (dOp oIx (dVar 1) (dC (.int 1))) (aCons (dC (.int 0)) (aCons (dOp oSub (dCB fLen (aCons (dOp oIx (dVar 0) (dC
    (.int 1))) aNil)) (dC (.int 1))) aNil)))))) (sRet (dC (.bl false))) sNext) (sSeq (sIf (dTst (dOp oEq (dCB fLen (aCons (dVar 1) aNil)) (dC (.int 2)))) (sRet (dOp oEq
    (dOp oIx (dVar 1) (dC (.int 0))) (dC (.str "back")))) sNext) (sRet (dAnd (dOp oIn (dOp oIx (dVar 1) (dC (.int 0))) (dC (.tup [.str "word", .str "start", .str "share",
    .str "fence", .str "kinds", .str "keeps"]))) (dCall 4 F_is_part (aCons (dOp oIx (dVar 0) (dC (.int 0))) (aCons (dOp oIx (dVar 1) (dC (.int 1))) (aCons (dIxT ["word",
    "start", "share", "fence", "kinds", "keeps"] (aCons (dOp oIx (dVar 1) (dC (.int 0))) aNil)) (aCons (dOp oIx (dVar 1) (dC (.int 2))) aNil))))))))))
/-! has_row(house, value) -/
def N_has_row : List Str := ["house", "value", "turning"]
def t_has_row : DS := (sSeq (sIf (tOrD (tNotD (dTst (dCB fIsi (aCons (dVar 1) (aCons (dC (.ty "tuple")) aNil))))) (dTst (dOp oGt (dCB fLen (aCons (dVar 1) aNil)) (dC (.int
    6))))) (sRet (dC (.bl false))) sNext) (sRet (dOp oEq (dOfN (nLc (iSq (dVar 1)) (gNm 2) (tNotD (dTst (dCall 2 F_is_turning (aCons (dVar 0) (aCons (dVar 2) aNil)))))
    (dVar 2) [2])) (dOfN (nLst aNil)))))
/-! need_house(house) -/
def N_need_house : List Str := ["house"]
def t_need_house : DS := (sIf (tNotD (dTst (dCall 1 F_has_house (aCons (dVar 0) aNil)))) (sRaise "InvalidHouse") sNext)
/-! need_row(house, row) -/
def N_need_row : List Str := ["house", "row"]
def t_need_row : DS := (sSeq (sDrop (dCall 1 F_need_house (aCons (dVar 0) aNil))) (sIf (tNotD (dTst (dCall 2 F_has_row (aCons (dVar 0) (aCons (dVar 1) aNil))))) (sRaise
    "InvalidRow") sNext))
/-! turned(house, turning) -/
def N_turned : List Str := ["house", "turning", "way", "size", "ways", "number", "place"]
def t_turned : DS := (sSeq (sIf (dTst (dOp oEq (dOp oIx (dVar 1) (dC (.int 0))) (dC (.str "back")))) (sRet (dVar 0)) sNext) (sSeq (sAsg (dVar 0) (gTp 2 (gC (gNm 3) (gC
    (gNm 4) gN)))) (sSeq (sPar 5 6 (aCons (dOp oIx (dVar 1) (dC (.int 1))) (aCons (dIxT ["word", "start", "share", "fence", "kinds", "keeps"] (aCons (dOp oIx (dVar 1) (dC
    (.int 0))) aNil)) aNil))) (sSeq (sAsg (dOp oAdd (dOp oAdd (dSl (dOp oIx (dVar 4) (dVar 5)) oNo (oSome (dVar 6))) (dTupL (aCons (dOp oIx (dVar 1) (dC (.int 2))) aNil)))
    (dSl (dOp oIx (dVar 4) (dVar 5)) (oSome (dOp oAdd (dVar 6) (dC (.int 1)))) oNo)) (gNm 2)) (sRet (dTupL (aCons (dVar 3) (aCons (dOp oAdd (dOp oAdd (dSl (dVar 4) oNo
    (oSome (dVar 5))) (dTupL (aCons (dVar 2) aNil))) (dSl (dVar 4) (oSome (dOp oAdd (dVar 5) (dC (.int 1)))) oNo)) aNil))))))))
/-! houses_along(house, row) -/
def N_houses_along : List Str := ["house", "row", "found", "turning"]
def t_houses_along : DS := (sSeq (sOwn 2 (nLst (aCons (dVar 0) aNil))) (sSeq (sFor (iSq (dVar 1)) (gNm 3) (sApp 2 (aCons (dCall 2 F_turned (aCons (dIxH 2 (dUn oNeg (dC
    (.int 1)))) (aCons (dVar 3) aNil))) aNil))) (sRet (dVar 2))))
/-! fits(house, way, person, seen_so) -/
def N_fits : List Str := ["house", "way", "person", "seen_so", "word", "start", "share", "fence", "kinds", "keeps"]
def t_fits : DS := (sSeq (sAsg (dVar 1) (gTp 6 (gC (gNm 4) (gC (gNm 5) (gC (gNm 6) (gC (gNm 7) (gC (gNm 8) (gC (gNm 9) gN)))))))) (sSeq (sIf (tOrD (dTst (dOp oNotIn (dOp
    oIx (dVar 2) (dC (.int 0))) (dVar 8))) (dTst (dOp oGe (dOp oMod (dOp oSub (dOp oIx (dVar 2) (dOp oAdd (dC (.int 1)) (dVar 4))) (dVar 5)) (dOp oIx (dVar 0) (dC (.int
    0)))) (dVar 6)))) (sRet (dC (.bl false))) sNext) (sRet (dOr (dOp oIsN (dVar 7) (dC .non)) (dOp oIn (dVar 7) (dVar 3))))))
/-! seen_at(house, person, before, back) -/
def N_seen_at : List Str := ["house", "person", "before", "back", "found", "number", "way", "kept"]
def t_seen_at : DS := (sSeq (sAsg (dTupL aNil) (gNm 4)) (sSeq (sFor (iEn (aCons (dOp oIx (dVar 0) (dC (.int 1))) aNil)) (gTp 2 (gC (gNm 5) (gC (gNm 6) gN))) (sSeq (sAsg
    (dAnd (dOp oIx (dVar 6) (dC (.int 5))) (dAnd (dOp oIn (dVar 5) (dVar 2)) (dOp oNe (dVar 5) (dVar 3)))) (gNm 7)) (sIf (tOrD (dTst (dVar 7)) (dTst (dCall 4 F_fits (aCons
    (dVar 0) (aCons (dVar 6) (aCons (dVar 1) (aCons (dVar 4) aNil))))))) (sAsg (dOp oAdd (dVar 4) (dTupL (aCons (dVar 5) aNil))) (gNm 4)) sNext))) (sRet (dVar 4))))
/-! back_of(turning) -/
def N_back_of : List Str := ["turning"]
def t_back_of : DS := (sRet (dIf (dTst (dOp oEq (dOp oIx (dVar 0) (dC (.int 0))) (dC (.str "back")))) (dOp oIx (dVar 0) (dC (.int 1))) (dC .non)))
/-! history(houses, row, person) -/
def N_history : List Str := ["houses", "row", "person", "found", "house", "turning"]
def t_history : DS := (sSeq (sOwn 3 (nLst (aCons (dCall 4 F_seen_at (aCons (dOp oIx (dVar 0) (dC (.int 0))) (aCons (dVar 2) (aCons (dTupL aNil) (aCons (dC .non) aNil)))))
    aNil))) (sSeq (sFor (iZp (aCons (dSl (dVar 0) (oSome (dC (.int 1))) oNo) (aCons (dVar 1) aNil))) (gTp 2 (gC (gNm 4) (gC (gNm 5) gN))) (sApp 3 (aCons (dCall 4 F_seen_at
    (aCons (dVar 4) (aCons (dVar 2) (aCons (dIxH 3 (dUn oNeg (dC (.int 1)))) (aCons (dCall 1 F_back_of (aCons (dVar 5) aNil)) aNil))))) aNil))) (sRet (dVar 3))))
/-! cuts_of(houses, word) -/
def N_cuts_of : List Str := ["houses", "word", "house", "size", "found", "way"]
def t_cuts_of : DS := (sSeq (sPar 3 4 (aCons (dOp oIx (dOp oIx (dVar 0) (dC (.int 0))) (dC (.int 0))) (aCons (dOfN (nLst (aCons (dC (.int 0)) aNil))) aNil))) (sSeq (sFor
    (iSq (dVar 0)) (gNm 2) (sFor (iSq (dOp oIx (dVar 2) (dC (.int 1)))) (gNm 5) (sIf (dTst (dOp oEq (dOp oIx (dVar 5) (dC (.int 0))) (dVar 1))) (sAsg (dOp oAdd (dVar 4)
    (dOfN (nLst (aCons (dCB fInt (aCons (dOp oIx (dVar 5) (dC (.int 1))) aNil)) (aCons (dCB fInt (aCons (dOp oMod (dOp oAdd (dOp oIx (dVar 5) (dC (.int 1))) (dOp oIx (dVar
    5) (dC (.int 2)))) (dVar 3)) aNil)) aNil))))) (gNm 4)) sNext))) (sRet (dOfN (nSS (dVar 4))))))
/-! pieces(houses, word) -/
def N_pieces : List Str := ["houses", "word", "cuts", "low", "high"]
def t_pieces : DS := (sSeq (sAsg (dCall 2 F_cuts_of (aCons (dVar 0) (aCons (dVar 1) aNil))) (gNm 2)) (sRet (dOfN (nLc (iZp (aCons (dVar 2) (aCons (dOp oAdd (dSl (dVar 2)
    (oSome (dC (.int 1))) oNo) (dOfN (nLst (aCons (dOp oIx (dOp oIx (dVar 0) (dC (.int 0))) (dC (.int 0))) aNil)))) aNil))) (gTp 2 (gC (gNm 3) (gC (gNm 4) gN))) tYesD
    (dTupL (aCons (dVar 3) (aCons (dOp oSub (dVar 4) (dVar 3)) aNil))) [3, 4]))))
/-! all_people(houses) -/
def N_all_people : List Str := ["houses", "found", "kind", "first", "many", "second", "often"]
def t_all_people : DS := (sSeq (sAsg (dOfN (nLst aNil)) (gNm 1)) (sSeq (sFor (iR1 (aCons (dC (.int 3)) aNil)) (gNm 2) (sFor (iSq (dCall 2 F_pieces (aCons (dVar 0) (aCons
    (dC (.int 0)) aNil)))) (gTp 2 (gC (gNm 3) (gC (gNm 4) gN))) (sAsg (dOp oAdd (dVar 1) (dOfN (nLc (iSq (dCall 2 F_pieces (aCons (dVar 0) (aCons (dC (.int 1)) aNil))))
    (gTp 2 (gC (gNm 5) (gC (gNm 6) gN))) tYesD (dTupL (aCons (dTupL (aCons (dVar 2) (aCons (dVar 3) (aCons (dVar 5) aNil)))) (aCons (dOp oMulI (dVar 4) (dVar 6)) aNil)))
    [5, 6]))) (gNm 1)))) (sRet (dVar 1))))
/-! lost_at(moments, way) -/
def N_lost_at : List Str := ["moments", "way", "at"]
def t_lost_at : DS := (sSeq (sFor (iR1 (aCons (dOp oSub (dCB fLen (aCons (dVar 0) aNil)) (dC (.int 1))) aNil)) (gNm 2) (sIf (tAndD (dTst (dOp oIn (dVar 1) (dOp oIx (dVar
    0) (dVar 2)))) (dTst (dOp oNotIn (dVar 1) (dOp oIx (dVar 0) (dOp oAdd (dVar 2) (dC (.int 1))))))) (sRet (dVar 2)) sNext)) (sRet (dC .non)))
/-! histories(house, row) -/
def N_histories : List Str := ["house", "row", "houses", "person", "many"]
def t_histories : DS := (sSeq (sAsg (dCall 2 F_houses_along (aCons (dVar 0) (aCons (dVar 1) aNil))) (gNm 2)) (sRet (dOfN (nLc (iSq (dCall 1 F_all_people (aCons (dVar 2)
    aNil))) (gTp 2 (gC (gNm 3) (gC (gNm 4) gN))) tYesD (dTupL (aCons (dVar 3) (aCons (dVar 4) (aCons (dCall 3 F_history (aCons (dVar 2) (aCons (dVar 1) (aCons (dVar 3)
    aNil)))) aNil)))) [3, 4]))))
/-! all_lots(many) -/
def N_all_lots : List Str := ["many", "found", "at", "size", "lot"]
def t_all_lots : DS := (sSeq (sAsg (dOfN (nLst (aCons (dTupL aNil) aNil))) (gNm 1)) (sSeq (sFor (iR1 (aCons (dVar 0) aNil)) (gNm 2) (sAsg (dOp oAdd (dVar 1) (dOfN (nLc
    (iSq (dVar 1)) (gNm 4) tYesD (dOp oAdd (dVar 4) (dTupL (aCons (dVar 2) aNil))) [4]))) (gNm 1))) (sRet (dOfN (nLc2 (iR1 (aCons (dOp oAdd (dVar 0) (dC (.int 1))) aNil))
    (gNm 3) tYesD (iSq (dVar 1)) (gNm 4) (dTst (dOp oEq (dCB fLen (aCons (dVar 4) aNil)) (dVar 3))) (dVar 4) [3, 4] [4])))))
/-! with_kept(house, lot) -/
def N_with_kept : List Str := ["house", "lot", "size", "ways", "at", "way"]
def t_with_kept : DS := (sSeq (sAsg (dVar 0) (gTp 2 (gC (gNm 2) (gC (gNm 3) gN)))) (sRet (dTupL (aCons (dVar 2) (aCons (dCB fTuple (aCons (dOfN (nLc (iEn (aCons (dVar 3)
    aNil)) (gTp 2 (gC (gNm 4) (gC (gNm 5) gN))) tYesD (dOp oAdd (dSl (dVar 5) oNo (oSome (dC (.int 5)))) (dTupL (aCons (dOr (dOp oIx (dVar 5) (dC (.int 5))) (dOp oIn (dVar
    4) (dVar 1))) aNil))) [4, 5])) aNil)) aNil)))))
/-! is_calm(house, row) -/
def N_is_calm : List Str := ["house", "row", "person", "many", "moments", "way"]
def t_is_calm : DS := (sSeq (sFor (iSq (dCall 2 F_histories (aCons (dVar 0) (aCons (dVar 1) aNil)))) (gTp 3 (gC (gNm 2) (gC (gNm 3) (gC (gNm 4) gN)))) (sIf (dTst (dOp oNe
    (dOfN (nLc (iR1 (aCons (dCB fLen (aCons (dOp oIx (dVar 0) (dC (.int 1))) aNil)) aNil)) (gNm 5) (dTst (dOp oNotN (dCall 2 F_lost_at (aCons (dVar 4) (aCons (dVar 5)
    aNil))) (dC .non))) (dVar 5) [5])) (dOfN (nLst aNil)))) (sRet (dC (.bl false))) sNext)) (sRet (dC (.bl true))))
/-! least_keeps(house, row) -/
def N_least_keeps : List Str := ["house", "row", "found", "lot", "less", "way"]
def t_least_keeps : DS := (sSeq (sDrop (dCall 2 F_need_row (aCons (dVar 0) (aCons (dVar 1) aNil)))) (sSeq (sOwn 2 (nLst aNil)) (sSeq (sFor (iSq (dCall 1 F_all_lots (aCons
    (dCB fLen (aCons (dOp oIx (dVar 0) (dC (.int 1))) aNil)) aNil))) (gNm 3) (sIf (dTst (dOp oEq (dOfN (nLcH 2 (gNm 4) (dTst (dOp oEq (dOfN (nLc (iSq (dVar 4)) (gNm 5)
    (dTst (dOp oNotIn (dVar 5) (dVar 3))) (dVar 5) [5])) (dOfN (nLst aNil)))) (dVar 4) [4])) (dOfN (nLst aNil)))) (sIf (dTst (dCall 2 F_is_calm (aCons (dCall 2 F_with_kept
    (aCons (dVar 0) (aCons (dVar 3) aNil))) (aCons (dVar 1) aNil)))) (sApp 2 (aCons (dVar 3) aNil)) sNext) sNext)) (sRet (dOfN (nSortT (dVar 2)))))))
/-! _law_vat(script, k) -/
def N_law_vat : List Str := ["script", "k", "cell"]
def t_law_vat : DS := (sSeq (sAsg (dOp oAdd (dOp oMulI (dC (.int 7919)) (dVar 1)) (dC (.int 43))) (gNm 2)) (sSeq (sIf (dTst (dOp oLt (dVar 1) (dCB fLen (aCons (dVar 0)
    aNil)))) (sAsg (dCB fAbs (aCons (dCB fInt (aCons (dOp oIx (dVar 0) (dVar 1)) aNil)) aNil)) (gNm 2)) sNext) (sRet (dOfN (nLst (aCons (dIf (dTst (dOp oGe (dVar 2) (dOp
    oPow (dC (.int 10)) (dC (.int 18))))) (dVar 2) (dC (.int 0))) (aCons (dOp oAdd (dOp oMod (dCB fInt (aCons (dOp oAdd (dOp oAdd (dOp oMulI (dVar 2) (dC (.int 131071)))
    (dOp oMulI (dC (.int 8191)) (dVar 1))) (dC (.int 5))) aNil)) (dC (.int 2147483629))) (dC (.int 1))) aNil)))))))
/-! _law_under(vat, many) -/
def N_law_under : List Str := ["vat", "many", "wide", "found"]
def t_law_under : DS := (sSeq (sIf (dTst (dOp oGt (dIxH 0 (dC (.int 0))) (dC (.int 0)))) (sSeq (sAsg (dOp oMod (dCB fInt (aCons (dIxH 0 (dC (.int 0))) aNil)) (dVar 1))
    (gNm 3)) (sSeq (sSto 0 (dOp oDiv (dIxH 0 (dC (.int 0))) (dVar 1)) (dC (.int 0))) (sRet (dVar 3)))) sNext) (sSeq (sSto 0 (dOp oMod (dCB fInt (aCons (dOp oAdd (dOp oMulI
    (dIxH 0 (dC (.int 1))) (dC (.int 39373))) (dC (.int 101))) aNil)) (dC (.int 2147483629))) (dC (.int 1))) (sSeq (sAsg (dOp oMod (dCB fInt (aCons (dOp oMulI (dIxH 0 (dC
    (.int 1))) (dOp oAdd (dOp oDiv (dIxH 0 (dC (.int 1))) (dC (.int 5))) (dC (.int 9)))) aNil)) (dC (.int 2147483587))) (gNm 2)) (sRet (dOp oMod (dCB fInt (aCons (dOp oDiv
    (dVar 2) (dC (.int 32))) aNil)) (dVar 1))))))
/-! _law_some(vat, things) -/
def N_law_some : List Str := ["vat", "things"]
def t_law_some : DS := (sRet (dOp oIx (dVar 1) (dCallR 2 F_law_under 0 (aCons (dCB fLen (aCons (dVar 1) aNil)) aNil))))
/-! _law_part_names() -/
def N_law_part_names : List Str := []
def t_law_part_names : DS := (sRet (dOfN (nLst (aCons (dC (.str "word")) (aCons (dC (.str "start")) (aCons (dC (.str "share")) (aCons (dC (.str "fence")) (aCons (dC (.str
    "kinds")) (aCons (dC (.str "keeps")) aNil)))))))))
/-! _law_kinds(vat) -/
def N_law_kinds : List Str := ["vat"]
def t_law_kinds : DS := (sRet (dCallR 2 F_law_some 0 (aCons (dOfN (nLst (aCons (dTupL (aCons (dC (.int 0)) (aCons (dC (.int 1)) (aCons (dC (.int 2)) aNil)))) (aCons (dTupL
    (aCons (dC (.int 0)) (aCons (dC (.int 1)) (aCons (dC (.int 2)) aNil)))) (aCons (dTupL (aCons (dC (.int 0)) aNil)) (aCons (dTupL (aCons (dC (.int 1)) aNil)) (aCons
    (dTupL (aCons (dC (.int 0)) (aCons (dC (.int 2)) aNil))) (aCons (dTupL (aCons (dC (.int 1)) (aCons (dC (.int 2)) aNil))) aNil)))))))) aNil)))
/-! _law_house(vat, most) -/
def N_law_house : List Str := ["vat", "most", "number", "size", "ways", "fence", "way"]
def t_law_house : DS := (sSeq (sPar 3 4 (aCons (dOp oAdd (dC (.int 1)) (dCallR 2 F_law_under 0 (aCons (dVar 1) aNil))) (aCons (dTupL aNil) aNil))) (sSeq (sFor (iR1 (aCons
    (dOp oAdd (dC (.int 1)) (dCallR 2 F_law_under 0 (aCons (dC (.int 3)) aNil))) aNil)) (gNm 2) (sSeq (sAsg (dIf (tAndD (dTst (dOp oGt (dVar 2) (dC (.int 0)))) (dTst (dOp
    oEq (dCallR 2 F_law_under 0 (aCons (dC (.int 3)) aNil)) (dC (.int 0))))) (dCallR 2 F_law_under 0 (aCons (dVar 2) aNil)) (dC .non)) (gNm 5)) (sSeq (sAsg (dTupL (aCons
    (dCallR 2 F_law_under 0 (aCons (dC (.int 2)) aNil)) (aCons (dCallR 2 F_law_under 0 (aCons (dVar 3) aNil)) (aCons (dCallR 2 F_law_under 0 (aCons (dOp oAdd (dVar 3) (dC
    (.int 1))) aNil)) (aCons (dVar 5) aNil))))) (gNm 6)) (sAsg (dOp oAdd (dVar 4) (dTupL (aCons (dOp oAdd (dVar 6) (dTupL (aCons (dCallR 1 F_law_kinds 0 aNil) (aCons (dOp
    oEq (dCallR 2 F_law_under 0 (aCons (dC (.int 3)) aNil)) (dC (.int 0))) aNil)))) aNil))) (gNm 4))))) (sRet (dTupL (aCons (dVar 3) (aCons (dVar 4) aNil))))))
/-! _law_turning(vat, house) -/
def N_law_turning : List Str := ["vat", "house", "way", "size", "number"]
def t_law_turning : DS := (sSeq (sPar 3 4 (aCons (dOp oIx (dVar 1) (dC (.int 0))) (aCons (dCallR 2 F_law_under 0 (aCons (dCB fLen (aCons (dOp oIx (dVar 1) (dC (.int 1)))
    aNil)) aNil)) aNil))) (sSeq (sAsg (dCallR 2 F_law_under 0 (aCons (dC (.int 10)) aNil)) (gNm 2)) (sSeq (sIf (dTst (dOp oLt (dVar 2) (dC (.int 4)))) (sRet (dTupL (aCons
    (dC (.str "share")) (aCons (dVar 4) (aCons (dCallR 2 F_law_under 0 (aCons (dOp oAdd (dVar 3) (dC (.int 1))) aNil)) aNil))))) sNext) (sSeq (sIf (dTst (dOp oEq (dVar 2)
    (dC (.int 4)))) (sRet (dTupL (aCons (dC (.str "start")) (aCons (dVar 4) (aCons (dCallR 2 F_law_under 0 (aCons (dVar 3) aNil)) aNil))))) sNext) (sSeq (sIf (dTst (dOp
    oEq (dVar 2) (dC (.int 5)))) (sRet (dTupL (aCons (dC (.str "word")) (aCons (dVar 4) (aCons (dCallR 2 F_law_under 0 (aCons (dC (.int 2)) aNil)) aNil))))) sNext) (sSeq
    (sIf (dTst (dOp oEq (dVar 2) (dC (.int 6)))) (sRet (dTupL (aCons (dC (.str "fence")) (aCons (dVar 4) (aCons (dCallR 2 F_law_some 0 (aCons (dOp oAdd (dOfN (nLst (aCons
    (dC .non) aNil))) (dOfN (nRg1 (dVar 4)))) aNil)) aNil))))) sNext) (sSeq (sIf (dTst (dOp oEq (dVar 2) (dC (.int 7)))) (sRet (dTupL (aCons (dC (.str "kinds")) (aCons
    (dVar 4) (aCons (dCallR 1 F_law_kinds 0 aNil) aNil))))) sNext) (sRet (dIf (dTst (dOp oEq (dVar 2) (dC (.int 8)))) (dTupL (aCons (dC (.str "keeps")) (aCons (dVar 4)
    (aCons (dOp oEq (dCallR 2 F_law_under 0 (aCons (dC (.int 2)) aNil)) (dC (.int 0))) aNil)))) (dTupL (aCons (dC (.str "back")) (aCons (dVar 4) aNil))))))))))))
/-! _law_row(vat, house, most) -/
def N_law_row : List Str := ["vat", "house", "most", "turn"]
def t_law_row : DS := (sRet (dCB fTuple (aCons (dOfN (nLc (iR1 (aCons (dCallR 2 F_law_under 0 (aCons (dOp oAdd (dVar 2) (dC (.int 1))) aNil)) aNil)) (gNm 3) tYesD (dCallR
    2 F_law_turning 0 (aCons (dVar 1) aNil)) [3])) aNil)))
/-! _law_turned(house, turning) -/
def N_law_turned : List Str := ["house", "turning", "parts", "ways", "at"]
def t_law_turned : DS := (sSeq (sIf (dTst (dOp oEq (dOp oIx (dVar 1) (dC (.int 0))) (dC (.str "back")))) (sRet (dVar 0)) sNext) (sSeq (sParN 3 4 (nList (aCons (dOp oIx
    (dVar 0) (dC (.int 1))) aNil)) (dIxL (dCall0 F_law_part_names) (aCons (dOp oIx (dVar 1) (dC (.int 0))) aNil))) (sSeq (sOwn 2 (nList (aCons (dIxH 3 (dOp oIx (dVar 1)
    (dC (.int 1)))) aNil))) (sSeq (sSto 2 (dOp oIx (dVar 1) (dC (.int 2))) (dVar 4)) (sSeq (sSto 3 (dCB fTuple (aCons (dVar 2) aNil)) (dOp oIx (dVar 1) (dC (.int 1))))
    (sRet (dTupL (aCons (dOp oIx (dVar 0) (dC (.int 0))) (aCons (dCB fTuple (aCons (dVar 3) aNil)) aNil)))))))))
/-! _law_has(size, start, share, number) -/
def N_law_has : List Str := ["size", "start", "share", "number", "end"]
def t_law_has : DS := (sSeq (sAsg (dOp oAdd (dVar 1) (dVar 2)) (gNm 4)) (sRet (dOr (dChain oLe oLt (dVar 1) (dVar 3) (dVar 4)) (dChain oLe oLt (dVar 1) (dOp oAdd (dVar 3)
    (dVar 0)) (dVar 4)))))
/-! _law_now(house, person, before, back) -/
def N_law_now : List Str := ["house", "person", "before", "back", "found", "number", "good", "word", "start", "share", "fence", "kinds", "keeps"]
def t_law_now : DS := (sSeq (sOwn 4 (nLst aNil)) (sSeq (sFor (iEn (aCons (dOp oIx (dVar 0) (dC (.int 1))) aNil)) (gTp 2 (gC (gNm 5) (gC (gTp 6 (gC (gNm 7) (gC (gNm 8) (gC
    (gNm 9) (gC (gNm 10) (gC (gNm 11) (gC (gNm 12) gN))))))) gN))) (sSeq (sAsg (dAnd (dOp oIn (dOp oIx (dVar 1) (dC (.int 0))) (dVar 11)) (dCall 4 F_law_has (aCons (dOp
    oIx (dVar 0) (dC (.int 0))) (aCons (dVar 8) (aCons (dVar 9) (aCons (dOp oIx (dVar 1) (dOp oAdd (dC (.int 1)) (dVar 7))) aNil)))))) (gNm 6)) (sSeq (sAsg (dAnd (dVar 6)
    (dOr (dOp oIsN (dVar 10) (dC .non)) (dInH false 4 (dVar 10)))) (gNm 6)) (sSeq (sIf (tAndD (dTst (dVar 12)) (tAndD (dTst (dOp oIn (dVar 5) (dVar 2))) (dTst (dOp oNe
    (dVar 5) (dVar 3))))) (sAsg (dC (.bl true)) (gNm 6)) sNext) (sIf (dTst (dVar 6)) (sApp 4 (aCons (dVar 5) aNil)) sNext))))) (sRet (dCB fTuple (aCons (dVar 4) aNil)))))
/-! _law_seen(house, row, person) -/
def N_law_seen : List Str := ["house", "row", "person", "found", "turning", "back"]
def t_law_seen : DS := (sSeq (sOwn 3 (nLst (aCons (dCall 4 F_law_now (aCons (dVar 0) (aCons (dVar 2) (aCons (dTupL aNil) (aCons (dC .non) aNil))))) aNil))) (sSeq (sFor
    (iSq (dVar 1)) (gNm 4) (sSeq (sAsg (dCall 2 F_law_turned (aCons (dVar 0) (aCons (dVar 4) aNil))) (gNm 0)) (sSeq (sAsg (dIf (dTst (dOp oEq (dOp oIx (dVar 4) (dC (.int
    0))) (dC (.str "back")))) (dOp oIx (dVar 4) (dC (.int 1))) (dC .non)) (gNm 5)) (sApp 3 (aCons (dCall 4 F_law_now (aCons (dVar 0) (aCons (dVar 2) (aCons (dIxH 3 (dUn
    oNeg (dC (.int 1)))) (aCons (dVar 5) aNil))))) aNil))))) (sRet (dCB fTuple (aCons (dVar 3) aNil)))))
/-! _law_people(size) -/
def N_law_people : List Str := ["size", "found", "kind", "first", "second"]
def t_law_people : DS := (sSeq (sAsg (dOfN (nLst aNil)) (gNm 1)) (sSeq (sFor (iR1 (aCons (dC (.int 3)) aNil)) (gNm 2) (sFor (iR1 (aCons (dVar 0) aNil)) (gNm 3) (sAsg (dOp
    oAdd (dVar 1) (dOfN (nLc (iR1 (aCons (dVar 0) aNil)) (gNm 4) tYesD (dTupL (aCons (dVar 2) (aCons (dVar 3) (aCons (dVar 4) aNil)))) [4]))) (gNm 1)))) (sRet (dVar 1))))
/-! _law_lost(moments, way) -/
def N_law_lost : List Str := ["moments", "way", "found", "at"]
def t_law_lost : DS := (sSeq (sOwn 2 (nLst aNil)) (sSeq (sFor (iR1 (aCons (dOp oSub (dCB fLen (aCons (dVar 0) aNil)) (dC (.int 1))) aNil)) (gNm 3) (sIf (tAndD (dTst (dOp
    oIn (dVar 1) (dOp oIx (dVar 0) (dVar 3)))) (dTst (dOp oNotIn (dVar 1) (dOp oIx (dVar 0) (dOp oAdd (dVar 3) (dC (.int 1))))))) (sApp 2 (aCons (dVar 3) aNil)) sNext))
    (sRet (dVar 2))))
/-! _law_calm(house, row, lot) -/
def N_law_calm : List Str := ["house", "row", "lot", "ways", "person", "moments", "at", "way"]
def t_law_calm : DS := (sSeq (sAsg (dCB fTuple (aCons (dOfN (nLc (iEn (aCons (dOp oIx (dVar 0) (dC (.int 1))) aNil)) (gTp 2 (gC (gNm 6) (gC (gNm 7) gN))) tYesD (dOp oAdd
    (dSl (dVar 7) oNo (oSome (dC (.int 5)))) (dTupL (aCons (dOr (dOp oIx (dVar 7) (dC (.int 5))) (dOp oIn (dVar 6) (dVar 2))) aNil))) [6, 7])) aNil)) (gNm 3)) (sSeq (sFor
    (iSq (dCall 1 F_law_people (aCons (dOp oIx (dVar 0) (dC (.int 0))) aNil))) (gNm 4) (sSeq (sAsg (dCall 3 F_law_seen (aCons (dTupL (aCons (dOp oIx (dVar 0) (dC (.int
    0))) (aCons (dVar 3) aNil))) (aCons (dVar 1) (aCons (dVar 4) aNil)))) (gNm 5)) (sIf (dTst (dOp oNe (dOfN (nLc (iR1 (aCons (dCB fLen (aCons (dVar 3) aNil)) aNil)) (gNm
    7) (dTst (dOp oNe (dCall 2 F_law_lost (aCons (dVar 5) (aCons (dVar 7) aNil))) (dOfN (nLst aNil)))) (dVar 7) [7])) (dOfN (nLst aNil)))) (sRet (dC (.bl false))) sNext)))
    (sRet (dC (.bl true)))))
/-! _law_keeps(house, row) -/
def N_law_keeps : List Str := ["house", "row"]
def t_law_keeps : DS := (sRet (dErr labelOf (dCall 2 F_least_keeps (aCons (dVar 0) (aCons (dVar 1) aNil)))))
/-! law(script) -/
def N_law : List Str := ["script", "k", "house", "vat", "turn", "row", "free", "way", "good", "due", "lot", "lots", "others", "less"]
def t_law : DS := (sSeq (sFor (iR1 (aCons (dCB fMax2 (aCons (dC (.int 4)) (aCons (dCB fMin2 (aCons (dC (.int 10)) (aCons (dCB fLen (aCons (dVar 0) aNil)) aNil))) aNil)))
    aNil)) (gNm 1) (sSeq (sOwn 3 (nCall 2 F_law_vat (aCons (dVar 0) (aCons (dVar 1) aNil)))) (sSeq (sFor (iR1 (aCons (dC (.int 2)) aNil)) (gNm 4) (sSeq (sAsg (dCallR 2
    F_law_house 3 (aCons (dC (.int 5)) aNil)) (gNm 2)) (sSeq (sAsg (dTupL (aCons (dCallR 3 F_law_row 3 (aCons (dVar 2) (aCons (dC (.int 5)) aNil))) (aCons (dOfN (nLst
    (aCons (dTupL aNil) aNil))) aNil))) (gTp 2 (gC (gNm 5) (gC (gNm 11) gN)))) (sSeq (sFor (iR1 (aCons (dCB fLen (aCons (dOp oIx (dVar 2) (dC (.int 1))) aNil)) aNil)) (gNm
    7) (sAsg (dOp oAdd (dVar 11) (dOfN (nLc (iSq (dVar 11)) (gNm 10) tYesD (dOp oAdd (dVar 10) (dTupL (aCons (dVar 7) aNil))) [10]))) (gNm 11))) (sSeq (sAsg (dOfN (nLc
    (iSq (dVar 11)) (gNm 10) (dTst (dCall 3 F_law_calm (aCons (dVar 2) (aCons (dVar 5) (aCons (dVar 10) aNil))))) (dVar 10) [10])) (gNm 8)) (sSeq (sOwn 9 (nLst aNil))
    (sSeq (sFor (iSq (dVar 8)) (gNm 10) (sSeq (sAsg (dOfN (nLc (iSq (dVar 8)) (gNm 13) (dTst (dOp oNe (dVar 13) (dVar 10))) (dVar 13) [13])) (gNm 12)) (sIf (dTst (dOp oEq
    (dOfN (nLc (iSq (dVar 12)) (gNm 13) (dTst (dOp oEq (dOfN (nLc (iSq (dVar 13)) (gNm 7) (dTst (dOp oNotIn (dVar 7) (dVar 10))) (dVar 7) [7])) (dOfN (nLst aNil)))) (dVar
    13) [13])) (dOfN (nLst aNil)))) (sApp 9 (aCons (dVar 10) aNil)) sNext))) (sIf (dTst (dOp oNe (dCall 2 F_least_keeps (aCons (dVar 2) (aCons (dVar 5) aNil))) (dOfN
    (nSortT (dVar 9))))) (sRet (dC (.bl false))) sNext)))))))) (sIf (dTst (dOp oNe (dOfN (nLst (aCons (dErr labelOf (dCall 2 F_least_keeps (aCons (dVar 2) (aCons (dC .non)
    aNil)))) (aCons (dCall 2 F_law_keeps (aCons (dTupL aNil) (aCons (dTupL aNil) aNil))) aNil)))) (dOfN (nLst (aCons (dC (.str "row\x20value")) (aCons (dC (.str
    "house\x20value")) aNil)))))) (sRet (dC (.bl false))) sNext)))) (sSeq (sAsg (dTupL (aCons (dC (.int 10)) (aCons (dTupL (aCons (dTupL (aCons (dC (.int 0)) (aCons (dC
    (.int 0)) (aCons (dC (.int 3)) (aCons (dC .non) (aCons (dTupL (aCons (dC (.int 0)) (aCons (dC (.int 1)) (aCons (dC (.int 2)) aNil)))) (aCons (dC (.bl false))
    aNil))))))) (aCons (dTupL (aCons (dC (.int 0)) (aCons (dC (.int 5)) (aCons (dC (.int 4)) (aCons (dC .non) (aCons (dTupL (aCons (dC (.int 0)) aNil)) (aCons (dC (.bl
    true)) aNil))))))) (aCons (dTupL (aCons (dC (.int 1)) (aCons (dC (.int 0)) (aCons (dC (.int 5)) (aCons (dC (.int 0)) (aCons (dTupL (aCons (dC (.int 0)) (aCons (dC
    (.int 1)) (aCons (dC (.int 2)) aNil)))) (aCons (dC (.bl false)) aNil))))))) aNil)))) aNil))) (gNm 2)) (sSeq (sAsg (dTupL (aCons (dTupL (aCons (dTupL (aCons (dC (.str
    "share")) (aCons (dC (.int 0)) (aCons (dC (.int 5)) aNil)))) (aCons (dTupL (aCons (dC (.str "share")) (aCons (dC (.int 0)) (aCons (dC (.int 2)) aNil)))) (aCons (dTupL
    (aCons (dC (.str "share")) (aCons (dC (.int 1)) (aCons (dC (.int 0)) aNil)))) aNil)))) (aCons (dTupL (aCons (dC (.int 10)) (aCons (dTupL (aCons (dTupL (aCons (dC (.int
    0)) (aCons (dC (.int 0)) (aCons (dC (.int 3)) (aCons (dC .non) (aCons (dTupL (aCons (dC (.int 0)) (aCons (dC (.int 1)) (aCons (dC (.int 2)) aNil)))) (aCons (dC (.bl
    false)) aNil))))))) (aCons (dTupL (aCons (dC (.int 1)) (aCons (dC (.int 4)) (aCons (dC (.int 5)) (aCons (dC .non) (aCons (dTupL (aCons (dC (.int 0)) (aCons (dC (.int
    1)) (aCons (dC (.int 2)) aNil)))) (aCons (dC (.bl false)) aNil))))))) aNil))) aNil))) aNil))) (gTp 2 (gC (gNm 5) (gC (gNm 6) gN)))) (sSeq (sIf (dTst (dOp oNe (dOfN
    (nLst (aCons (dCall 2 F_least_keeps (aCons (dVar 2) (aCons (dVar 5) aNil))) (aCons (dCall 2 F_least_keeps (aCons (dVar 2) (aCons (dTupL aNil) aNil))) (aCons (dCall 2
    F_least_keeps (aCons (dVar 2) (aCons (dOp oAdd (dVar 5) (dTupL (aCons (dTupL (aCons (dC (.str "back")) (aCons (dC (.int 1)) aNil))) aNil))) aNil))) aNil))))) (dOfN
    (nLst (aCons (dOfN (nLst (aCons (dTupL (aCons (dC (.int 0)) aNil)) aNil))) (aCons (dOfN (nLst (aCons (dTupL aNil) aNil))) (aCons (dOfN (nLst aNil)) aNil))))))) (sRet
    (dC (.bl false))) sNext) (sSeq (sIf (dTst (dOp oNe (dCall 2 F_least_keeps (aCons (dVar 6) (aCons (dTupL (aCons (dTupL (aCons (dC (.str "start")) (aCons (dC (.int 0))
    (aCons (dC (.int 1)) aNil)))) (aCons (dTupL (aCons (dC (.str "share")) (aCons (dC (.int 1)) (aCons (dC (.int 0)) aNil)))) aNil))) aNil))) (dOfN (nLst (aCons (dTupL
    (aCons (dC (.int 0)) (aCons (dC (.int 1)) aNil))) aNil))))) (sRet (dC (.bl false))) sNext) (sRet (dAnd (dOp oEq (dCall 2 F_least_keeps (aCons (dVar 6) (aCons (dTupL
    (aCons (dTupL (aCons (dC (.str "keeps")) (aCons (dC (.int 0)) (aCons (dC (.bl true)) aNil)))) (aCons (dTupL (aCons (dC (.str "share")) (aCons (dC (.int 0)) (aCons (dC
    (.int 0)) aNil)))) aNil))) aNil))) (dOfN (nLst (aCons (dTupL aNil) aNil)))) (dOp oEq (dCall 2 F_least_keeps (aCons (dVar 6) (aCons (dTupL (aCons (dTupL (aCons (dC
    (.str "share")) (aCons (dC (.int 0)) (aCons (dC (.int 0)) aNil)))) (aCons (dTupL (aCons (dC (.str "keeps")) (aCons (dC (.int 0)) (aCons (dC (.bl false)) aNil))))
    aNil))) aNil))) (dOfN (nLst aNil))))))))))
end TS
set_option Elab.async false
set_option linter.all false
set_option maxRecDepth 100000
set_option maxHeartbeats 1000000
set_option exponentiation.threshold 10000
set_option synthInstance.maxSize 100000
set_option synthInstance.maxHeartbeats 0
namespace TS
open PySem PySem.Spec PyProof.Rows L2
theorem B_is_whole : Body t_is_whole 3 3 F_is_whole := Body.v fun ds Q E h => by
  unfold S_is_whole at h
  split at h
  · rename_i v lo hi
    obtain ⟨ok, h⟩ := h
    refine ⟨rfl, ?_⟩
    unfold t_is_whole
    cases v <;> simp [isTy_int ok, isTy_bool ok, isBl, isInt, isWhole] at h ⊢
    all_goals first | exact h | skip
    rename_i i
    by_cases q : lo ≤ i
    · right
      simpa [q] using h
    · left
      simp [q] at h
      exact ⟨by omega, h⟩
  · exact h.elim
theorem B_is_rising : Body t_is_rising 4 2 F_is_rising := Body.v fun ds Q E h => by
  unfold S_is_rising at h
  split at h
  · rename_i v most
    obtain ⟨ok, h⟩ := h
    refine ⟨rfl, ?_⟩
    unfold t_is_rising
    cases v <;> simp [F_is_whole, isTy_tup ok, isTup, isRising, eqL_nil] at h ⊢
    all_goals first | exact h | skip
    rename_i l
    obtain ⟨hl, he⟩ := pd_tup ok
    refine ⟨by show _ ≤ 1000000; omega, lcD_pure (p := fun d => !isWhole d 0 most) (f := id) (by simp) (by simp) _ _ _ (fun d hd Qb hq => ?_) (fun d hd hp Qd hq => ?_) ?_⟩
    · have hp := he d hd
      cases hb : isWhole d 0 most <;> simp [hb] at hq ⊢ <;> exact ⟨hp, hq⟩
    · simpa using hq
    · have ok1 : okD 60 (.lst (l.filter fun d => !isWhole d 0 most)) = true := pd_lok fun d hd => he d ((List.mem_filter.mp hd).1)
      have ok2 : okD 60 (.lst []) = true := rfl
      simp [ok1, ok2]
      by_cases hw : ∀ d ∈ l, isWhole d 0 most = true
      · left
        refine ⟨hw, by omega, by show _ ≤ 1000000; omega, lcD_pure (p := fun i => decide (intD (atD l (intD i).toNat) ≥ intD (atD l ((intD i).toNat + 1)))) (f := id) (by simp) (by simp) _ _ _ (fun d hd Qb hq => ?_) (fun d hd hp Qd hq => ?_) ?_⟩
        · simp at hd
          obtain ⟨i, hi, rfl⟩ := hd
          have h1 : i < l.length := by omega
          have h2 : i + 1 < l.length := by omega
          obtain ⟨a, ha⟩ : ∃ a, l[i] = .int a := by
            have := hw l[i] (List.getElem_mem h1)
            cases e : l[i] <;> rw [e] at this <;> simp [isWhole] at this
            exact ⟨_, rfl⟩
          obtain ⟨b, hb⟩ : ∃ b, l[i + 1] = .int b := by
            have := hw l[i + 1] (List.getElem_mem h2)
            cases e : l[i + 1] <;> rw [e] at this <;> simp [isWhole] at this
            exact ⟨_, rfl⟩
          have e1 : atD l i = .int a := by simp [atD, h1, ha]
          have e2 : atD l (i + 1) = .int b := by simp [atD, h2, hb]
          simp [e1, e2] at hq
          simp [h1, h2, ha, hb]
          by_cases q : b ≤ a
          · right
            simpa [q] using hq
          · left
            simp [q] at hq
            exact ⟨by omega, hq⟩
        · simpa using hq
        · have e : ((List.range (l.length - 1)).map fun (i : Nat) => D.int (i : Int)).filter (fun i => decide (intD (atD l (intD i).toNat) ≥ intD (atD l ((intD i).toNat + 1)))) = [] ↔ rising l = true := by
            simp [rising]
          have okk : ∀ ds : List D, okD 60 (.lst (((List.range (l.length - 1)).map fun (i : Nat) => D.int (i : Int)).filter (fun i => decide (intD (atD l (intD i).toNat) ≥ intD (atD l ((intD i).toNat + 1)))))) = true := fun _ => pd_lok fun d hd => by
            obtain ⟨i, _, rfl⟩ := List.mem_map.mp (List.mem_filter.mp hd).1
            rfl
          have hA : (l.all fun d => isWhole d 0 most) = true := List.all_eq_true.mpr hw
          rw [hA, Bool.true_and] at h
          simp only [List.nil_append, List.map_id]
          refine ⟨okk [], ?_⟩
          have e3 : (((List.range (l.length - 1)).map fun (i : Nat) => D.int (i : Int)).filter (fun i => decide (intD (atD l (intD i).toNat) ≥ intD (atD l ((intD i).toNat + 1))))).isEmpty = rising l := by
            rw [Bool.eq_iff_iff, List.isEmpty_iff, e]
          rw [e3]
          exact h
      · right
        simp at hw
        obtain ⟨d, hd, hw⟩ := hw
        refine ⟨⟨d, hd, hw⟩, ?_⟩
        have e : (l.all fun d => isWhole d 0 most) = false := by
          simp
          exact ⟨d, hd, hw⟩
        rw [e] at h
        exact h
  · exact h.elim
theorem B_is_part : Body t_is_part 4 4 F_is_part := Body.v fun ds Q E h => by
  unfold S_is_part at h
  split at h
  · rename_i size number place v
    obtain ⟨ok, h⟩ := h
    refine ⟨rfl, ?_⟩
    have ok2 := pd_ok ok
    unfold t_is_part
    by_cases h0 : place = 0
    · subst h0
      simp [isPart] at h
      simp [F_is_whole, F_is_rising, isTy_bool ok, eqD, okD, ok]
      exact h
    by_cases h1 : place = 1
    · subst h1
      simp [isPart] at h
      simp [F_is_whole, F_is_rising, isTy_bool ok, eqD, okD, ok]
      exact h
    by_cases h2 : place = 2
    · subst h2
      simp [isPart] at h
      simp [F_is_whole, F_is_rising, isTy_bool ok, eqD, okD, ok]
      exact h
    by_cases h3 : place = 3
    · subst h3
      simp [isPart] at h
      simp [F_is_whole, F_is_rising, isTy_bool ok, eqD, okD, ok]
      cases hn : isNon v <;> simp [hn] at h ⊢ <;> exact h
    by_cases h4 : place = 4
    · subst h4
      simp [isPart] at h
      simp [F_is_whole, F_is_rising, isTy_bool ok, eqD, okD, ok]
      cases hn : isRising v 2 <;> simp [hn] at h ⊢
      · exact h
      · exact ⟨ok2, h⟩
    simp [isPart, h0, h1, h2, h3, h4] at h
    simp [F_is_whole, F_is_rising, isTy_bool ok, eqD, okD, ok, h0, h1, h2, h3, h4, giveb]
    exact h
  · exact h.elim
theorem B_is_way : Body t_is_way 4 3 F_is_way := Body.v fun ds Q E h => by
  unfold S_is_way at h
  split at h
  · rename_i size number v
    obtain ⟨ok, h⟩ := h
    refine ⟨rfl, ?_⟩
    unfold t_is_way
    cases v <;> simp [F_is_part, isTy_tup ok, isTup, isWay, eqL_nil] at h ⊢
    all_goals first | exact h | skip
    rename_i l
    obtain ⟨hl, he⟩ := pd_tup ok
    by_cases h6 : (l.length : Int) = 6
    · have h6' : l.length = 6 := by omega
      simp [h6', MOST] at h ⊢
      first | refine ⟨by show (6 : Int) ≤ ((1000000 : Nat) : Int); omega, ?_⟩ | skip
      refine lcD_none (g := fun d => isPart size number (intD d) (atD l (intD d).toNat)) (by simp) (by simp) (pd_range (n := 6)) (fun d hd Qb hq => ?_) fun r hr hx => ?_
      · simp at hd
        obtain ⟨i, hi, rfl⟩ := hd
        have hi' : i < l.length := by omega
        have e : atD l i = l[i] := by simp [atD, hi']
        simp [e] at hq
        simp [hi', he l[i] (List.getElem_mem hi'), givet]
        exact hq
      · refine ⟨hr, ?_⟩
        rw [hx, List.all_map]
        exact h
    · have h6' : l.length ≠ 6 := by omega
      simp [h6, h6'] at h ⊢
      exact h
  · exact h.elim
theorem hh_shape {s w : D} : hasHouse (.tup [s, w]) = (isWhole s 1 MOST && isTup w && decide (1 ≤ (tupL w).length) && decide ((tupL w).length ≤ 3) && (List.range (tupL w).length).all fun i => isWay (intD s) i (atD (tupL w) i)) := rfl
theorem whole_int {s : D} {lo hi : Int} (h : isWhole s lo hi = true) : s = .int (intD s) := by
  cases s <;> first | rfl | cases h
theorem B_has_house : Body t_has_house 2 1 F_has_house := Body.v fun ds Q E h => by
  unfold S_has_house at h
  split at h
  · rename_i v
    obtain ⟨ok, h⟩ := h
    refine ⟨rfl, ?_⟩
    unfold t_has_house
    by_cases hv : isTup v = true
    · cases v <;> first | cases hv | skip
      rename_i l
      obtain ⟨hl, he⟩ := pd_tup ok
      match l, ok, h, he with
      | [s, w], ok, h, he =>
        have ps := he s (by simp)
        have pw := he w (by simp)
        rw [hh_shape] at h
        cases hs : isWhole s 1 MOST with
        | false =>
          simp [hs] at h
          simp [F_is_whole, F_is_way, isTy_tup ok, ps, show isWhole s 1 1000000000000000000000000000000 = false from hs]
          exact h
        | true =>
          obtain ⟨z, rfl⟩ : ∃ z, s = .int z := ⟨_, whole_int hs⟩
          by_cases hw : isTup w = true
          · cases w <;> first | cases hw | skip
            rename_i ws
            obtain ⟨hl2, he2⟩ := pd_tup pw
            simp [hs, tupL] at h
            simp [F_is_whole, F_is_way, isTy_tup ok, isTy_tup pw, ps, show isWhole (.int z) 1 1000000000000000000000000000000 = true from hs]
            by_cases q1 : 1 ≤ ws.length
            · right
              refine ⟨by omega, ?_⟩
              by_cases q2 : ws.length ≤ 3
              · right
                refine ⟨by omega, by omega, by show _ ≤ 1000000; omega, lcD_none (g := fun d => isWay z (intD d) (atD ws (intD d).toNat)) (by simp) (by simp) pd_range (fun d hd Qb hq => ?_) fun r hr hx => ?_⟩
                · simp at hd
                  obtain ⟨i, hi, rfl⟩ := hd
                  have e : atD ws i = ws[i] := by simp [atD, hi]
                  simp [e] at hq
                  simp [hi, he2 ws[i] (List.getElem_mem hi), givet]
                  exact hq
                · refine ⟨hr, ?_⟩
                  rw [hx, List.all_map]
                  simp [q1, q2] at h
                  exact h
              · left
                simp [q1, q2] at h
                exact ⟨by omega, h⟩
            · left
              simp [q1] at h
              exact ⟨by omega, h⟩
          · simp [hs, hw] at h
            simp [F_is_whole, F_is_way, isTy_tup ok, isTy_tup pw, ps, show isWhole (.int z) 1 1000000000000000000000000000000 = true from hs, hw]
            exact h
      | [], ok, h, he =>
        simp [hasHouse] at h
        simp [F_is_whole, F_is_way, isTy_tup ok]
        exact h
      | [_], ok, h, he =>
        simp [hasHouse] at h
        simp [F_is_whole, F_is_way, isTy_tup ok]
        exact h
      | _ :: _ :: _ :: r, ok, h, he =>
        have e : ((r.length : Int) + 1 + 1 + 1 = 2) = False := by
          simp
          omega
        simp [hasHouse] at h
        simp [F_is_whole, F_is_way, isTy_tup ok, e]
        exact h
    · have e : hasHouse v = false := by cases v <;> first | rfl | (exfalso; exact hv rfl)
      rw [e] at h
      have hv' : isTup v = false := by simpa using hv
      simp [isTy_tup ok, hv']
      exact h
  · exact h.elim
theorem B_need_house : Body t_need_house 1 1 F_need_house := Body.v fun ds Q E h => by
  unfold S_need_house at h
  split at h
  · rename_i v
    obtain ⟨ok, h1, h2⟩ := h
    refine ⟨rfl, ?_⟩
    unfold t_need_house
    cases q : hasHouse v <;> simp [F_has_house, ok, q]
    · exact h2 q
    · exact h1 q
  · exact h.elim
theorem B_has_row : Body t_has_row 3 2 F_has_row := Body.v fun ds Q E h => by
  unfold S_has_row at h
  split at h
  · rename_i hh v
    obtain ⟨size, ws, rfl, ok, h⟩ := h
    refine ⟨rfl, ?_⟩
    unfold t_has_row
    by_cases hv : isTup v = true
    · cases v <;> first | cases hv | skip
      rename_i l
      obtain ⟨hl, he⟩ := pd_tup ok
      simp [hasRow] at h
      simp [F_is_turning, isTy_tup ok]
      by_cases q : l.length ≤ 6
      · left
        refine ⟨by omega, by show _ ≤ 1000000; omega, lcD_none (g := fun d => isTurning size ws.length d) (by simp) (by simp) he (fun d hd Qb hq => ?_) fun r hr hx => ?_⟩
        · simp at hq
          simp [Hsh, he d hd, givet]
          exact ⟨_, _, ⟨rfl, rfl⟩, hq⟩
        · refine ⟨hr, ?_⟩
          rw [hx]
          simp [q] at h
          exact h
      · right
        simp [q] at h
        exact ⟨by omega, h⟩
    · have e : hasRow size ws.length v = false := by cases v <;> first | rfl | (exfalso; exact hv rfl)
      rw [e] at h
      have hv' : isTup v = false := by simpa using hv
      simp [isTy_tup ok, hv']
      exact h
  · exact h.elim
theorem B_need_row : Body t_need_row 2 2 F_need_row := Body.v fun ds Q E h => by
  unfold S_need_row at h
  split at h
  · rename_i hh v
    obtain ⟨ok, ok2, h1, h2, h3⟩ := h
    refine ⟨rfl, ?_⟩
    unfold t_need_row
    cases q : hasHouse hh <;> simp [F_need_house, F_has_row, ok, q]
    · exact h1 q
    · obtain ⟨z, ws, e⟩ : ∃ z ws, hh = .tup [.int z, .tup ws] := by
        cases hh with
        | tup l =>
          match l, q with
          | [s, w], q =>
            rw [hh_shape] at q
            simp only [Bool.and_eq_true] at q
            obtain ⟨⟨⟨⟨q1, q2⟩, _⟩, _⟩, _⟩ := q
            cases w <;> first | cases q2 | skip
            exact ⟨_, _, by rw [whole_int q1]⟩
          | [], q => cases q
          | [_], q => cases q
          | _ :: _ :: _ :: _, q => cases q
        | _ => cases q
      subst e
      refine ⟨z, ws, rfl, ok2, ?_⟩
      cases q2 : hasRow z ws.length v with
      | true =>
        right
        exact ⟨rfl, h3 q q2⟩
      | false =>
        left
        exact ⟨rfl, h2 q q2⟩
  · exact h.elim
theorem in_PL {x : Str} : ((PL.map D.str).any fun y => eqD y (.str x)) = (plIx x).isSome := by
  unfold plIx
  generalize PL.map D.str = l
  induction l with
  | nil => rfl
  | cons d r ih =>
    simp only [List.any_cons, ixOf]
    by_cases hq : eqD d (.str x) = true
    · rw [if_pos hq, hq]
      rfl
    · rw [if_neg hq, Bool.eq_false_iff.mpr hq, Bool.false_or, ih, Option.isSome_map]
theorem B_is_turning : Body t_is_turning 2 2 F_is_turning := Body.v fun ds Q E h => by
  unfold S_is_turning at h
  split at h
  · rename_i hh v
    obtain ⟨size, ws, rfl, ok, h⟩ := h
    refine ⟨rfl, ?_⟩
    unfold t_is_turning
    by_cases hv : isTup v = true
    · cases v <;> first | cases hv | skip
      rename_i l
      obtain ⟨hl, he⟩ := pd_tup ok
      by_cases h2 : 2 ≤ l.length ∧ l.length ≤ 3
      · have e1 : ∃ a b r, l = a :: b :: r ∧ r.length ≤ 1 := by
          match l, h2 with
          | [_], h2 => simp at h2
          | a :: b :: r, h2 =>
            simp at h2
            exact ⟨a, b, r, rfl, by omega⟩
          | [], h2 => simp at h2
        obtain ⟨a, b, r, rfl, hr⟩ := e1
        have pa := he a (by simp)
        have pb := he b (by simp)
        by_cases hs : isStr a = true
        · cases a <;> first | cases hs | skip
          rename_i x
          have sx : PyData.strOk x = true := pa
          match r, hr, ok, h, he with
          | [], _, ok, h, he =>
            have ht : isTurning size ws.length (.tup [.str x, b]) = (isWhole b 0 (ws.length - 1) && decide (x = "back")) := rfl
            rw [ht] at h
            simp [isTy_tup ok, isTy_str pa, pb, sx]
            cases q : isWhole b 0 (ws.length - 1) with
            | false =>
              left
              simp [q] at h
              exact ⟨rfl, h⟩
            | true =>
              right
              rw [q, Bool.true_and] at h
              refine ⟨rfl, ?_⟩
              have e : (x == Str.ofString "back") = decide (x = "back") := rfl
              rw [e]
              exact h
          | [u], _, ok, h, he =>
            have pu := he u (by simp)
            have ht : isTurning size ws.length (.tup [.str x, b, u]) = (isWhole b 0 (ws.length - 1) && (match plIx x with
              | some j => isPart size (intD b) j u
              | none => false)) := rfl
            rw [ht] at h
            cases q : isWhole b 0 (ws.length - 1) with
            | false =>
              simp [q] at h
              simp [isTy_tup ok, isTy_str pa, pb, sx, q]
              exact h
            | true =>
              obtain ⟨z, rfl⟩ : ∃ z, b = .int z := ⟨_, whole_int q⟩
              have hin := in_PL (x := x)
              cases hp : plIx x with
              | none =>
                rw [hp] at hin
                simp [hp] at h
                simp [PL] at hin
                simp [isTy_tup ok, isTy_str pa, sx, q]
                left
                exact ⟨hin, h⟩
              | some k =>
                rw [hp] at hin
                simp [hp, q] at h
                simp [PL] at hin
                have hx : ixOf (fun y => eqD y (D.str x)) [D.str (Str.ofString "word"), D.str (Str.ofString "start"), D.str (Str.ofString "share"), D.str (Str.ofString "fence"), D.str (Str.ofString "kinds"), D.str (Str.ofString "keeps")] = some k := hp
                simp [isTy_tup ok, isTy_str pa, sx, q, hx]
                right
                exact ⟨hin, pu, h⟩
          | _ :: _ :: _, hr, _, _, _ => simp at hr
        · have e : isTurning size ws.length (.tup (a :: b :: r)) = false := by cases a <;> first | rfl | (exfalso; exact hs rfl)
          rw [e] at h
          have hs' : isStr a = false := by simpa using hs
          simp [isTy_tup ok, isTy_str pa, hs']
          have := h2.1
          have := h2.2
          simp at h2
          exact .inr ⟨by omega, .inr ⟨by omega, h⟩⟩
      · have e : isTurning size ws.length (.tup l) = false := by
          match l, h2 with
          | [], _ => rfl
          | [a], _ => cases a <;> rfl
          | [_, _], h2 => simp at h2
          | [_, _, _], h2 => simp at h2
          | a :: b :: c :: d :: r, _ => cases a <;> simp [isTurning]
        rw [e] at h
        simp [isTy_tup ok]
        by_cases q1 : 2 ≤ l.length
        · have q2 : ¬ l.length ≤ 3 := fun z => h2 ⟨q1, z⟩
          right
          exact ⟨by omega, .inl ⟨by omega, h⟩⟩
        · left
          exact ⟨by omega, h⟩
    · have e : isTurning size ws.length v = false := by cases v <;> first | rfl | (exfalso; exact hv rfl)
      rw [e] at h
      have hv' : isTup v = false := by simpa using hv
      simp [isTy_tup ok, hv']
      exact h
  · exact h.elim
theorem B_turned : Body t_turned 7 2 F_turned := Body.v fun ds Q E h => by
  unfold S_turned at h
  split at h
  · obtain ⟨h, t, rfl, rfl, hn, hl, hq⟩ := h
    refine ⟨rfl, ?_⟩
    obtain ⟨size, ws⟩ := h
    have hw : ws[t.n]? = some ws[t.n] := List.getElem?_eq_getElem hn
    have e : turn ⟨size, ws⟩ t = ⟨size, ws.set t.n (t.upd ws[t.n])⟩ := by simp [turn, hw]
    rw [e] at hq
    have hs : ∀ x : Wy, List.take t.n (ws.map Wy.d) ++ (x.d :: List.drop (t.n + 1) (ws.map Wy.d)) = (ws.set t.n x).map Wy.d := fun x => by rw [set_cut (by simpa using hn), List.map_set]
    have hl' : ws.length ≤ 1000 := hl
    have b1 : min t.n ws.length + 1 ≤ LIM := by show _ ≤ 1000000; omega
    have b2 : min t.n ws.length + 1 + (ws.length - (t.n + 1)) ≤ LIM := by show _ ≤ 1000000; omega
    have b0 : 1 ≤ LIM ∧ 2 ≤ LIM ∧ 3 ≤ LIM ∧ 4 ≤ LIM ∧ 5 ≤ LIM ∧ 6 ≤ LIM := by decide
    unfold t_turned
    generalize hg : ws[t.n] = w at *
    cases t <;> simp only [Tn.n] at hn hl hq hw hs b1 b2 <;> simp [Hs.d, Tn.d, hw]
    all_goals first
      | (simp only [Wy.d, oSl_t]
         simp [b0, b1, b2]
         have h2 := hq
         simp only [Hs.d, Tn.upd, ← hs] at h2
         exact h2)
      | skip
    rename_i n
    have h3 : ws.set n w = ws := by
      rw [← hg]
      exact List.set_getElem_self _
    simp only [Hs.d, Tn.upd, h3] at hq
    exact hq
  · exact h.elim
theorem along_len (h : Hs) (ts : List Tn) : (along h ts).length = ts.length + 1 := by
  induction ts generalizing h with
  | nil => rfl
  | cons t ts ih => simp [along, ih]
theorem turn_len (h : Hs) (t : Tn) : (turn h t).ways.length = h.ways.length := by
  unfold turn
  cases h.ways[t.n]? <;> simp
theorem B_houses_along : Body t_houses_along 4 2 F_houses_along := Body.v fun ds Q E h => by
  unfold S_houses_along at h
  split at h
  · obtain ⟨h, ts, rfl, rfl, hl, hl2, ht, hq⟩ := h
    refine ⟨rfl, ?_⟩
    unfold t_houses_along
    simp [F_turned]
    have key : ∀ (ts : List Tn) (pre : List Hs) (last : Hs) (a b x : Sl), nb x → pre.length + ts.length ≤ 2000 → last.ways.length ≤ 1000 → (∀ t ∈ ts, t.n < last.ways.length) → Q (.lst ((pre ++ along last ts).map Hs.d)) →
        forD (gNm 3) (sApp 2 (aCons (dCall 2 (FV S_turned) (aCons (dIxH 2 (dUn oNeg (dC (D.int 1)))) (aCons (dVar 3) aNil))) aNil)) { nx := fun ρ' => dVar 2 ρ' (fun d x => Q d) fun x x_1 => E x, rt := fun d x => Q d } (fun x x_1 => E x)
          (List.map Tn.d ts) [a, b, Sl.own ((pre ++ [last]).map Hs.d), x] := by
      intro ts
      induction ts with
      | nil =>
        intro pre last a b x hx hz hl ht hq
        simp [forD]
        simpa [along] using hq
      | cons t ts ih =>
        intro pre last a b x hx hz hl ht hq
        have h1 := ih (pre ++ [last]) (turn last t) a b (.val t.d) trivial (by simp at hz ⊢; omega) (by rw [turn_len]; exact hl) (fun u hu => by rw [turn_len]; exact ht u (List.mem_cons_of_mem _ hu)) (by simpa [along] using hq)
        simp [forD, hx]
        refine ⟨last, rfl, t, rfl, ht t List.mem_cons_self, hl, ?_, ?_⟩
        · show _ < 1000000
          simp at hz
          omega
        · simpa using h1
    exact key ts [] h _ _ _ trivial (by simp; omega) hl ht (by simpa using hq)
  · exact h.elim
theorem B_back_of : Body t_back_of 1 1 F_back_of := Body.v fun ds Q E h => by
  unfold S_back_of at h
  split at h
  · obtain ⟨t, rfl, hq⟩ := h
    refine ⟨rfl, ?_⟩
    unfold t_back_of
    cases t <;> simp [Tn.d] <;> exact hq
  · exact h.elim
theorem fits_main {k start size share x : Int} {kinds sn : List Int} {fence : Option Int} {Q : D → Prop} : (k ∈ kinds ∧ ((x - start) % size < share ∧ (fence.isSome = true ∧ Q (.bl (sn.any ((fun y => eqD y (optD fence)) ∘ D.int))) ∨ fence = none ∧ Q (.bl true)) ∨ share ≤ (x - start) % size ∧ Q (.bl false)) ∨ (∀ (x : Int), x ∈ kinds → ¬x = k) ∧ Q (.bl false)) ↔
    Q (.bl (kinds.contains k && decide ((x - start) % size < share) && (match fence with | none => true | some f => sn.contains f))) := by
  by_cases hk : k ∈ kinds
  · have n1 : ¬ ∀ (x : Int), x ∈ kinds → ¬x = k := fun z => z k hk rfl
    by_cases hm : (x - start) % size < share
    · have n2 : ¬ share ≤ (x - start) % size := by omega
      cases fence with
      | none => simp [hk, hm, n1, n2]
      | some f =>
        have e : sn.any ((fun y => eqD y (optD (some f))) ∘ D.int) = sn.contains f := by
          rw [← List.any_map]
          exact any_ints
        simp [hk, hm, n1, n2, e]
    · have n2 : share ≤ (x - start) % size := by omega
      simp [hk, hm, n1, n2]
  · have n1 : ∀ (x : Int), x ∈ kinds → ¬x = k := fun x hx z => hk (by rw [← z]; exact hx)
    simp only [hk, false_and, false_or]
    have e : kinds.contains k = false := by simpa using hk
    rw [e]
    simp only [Bool.false_and]
    exact ⟨fun z => z.2, fun z => ⟨n1, z⟩⟩
theorem B_fits : Body t_fits 10 4 F_fits := Body.v fun ds Q E h => by
  unfold S_fits at h
  split at h
  · obtain ⟨h, w, p, sn, rfl, rfl, rfl, rfl, hw, hz, hq⟩ := h
    refine ⟨rfl, ?_⟩
    unfold t_fits
    obtain ⟨size, ws⟩ := h
    obtain ⟨word, start, share, fence, kinds, keeps⟩ := w
    obtain ⟨k, a, b⟩ := p
    simp only at hw hz hq
    rcases hw with rfl | rfl
    · simp [Hs.d, Wy.d, Pn.d, intsD, flat_ints, any_ints, non_opt, hz]
      have m := fits_main.mpr hq
      rcases m with ⟨m1, m2⟩ | m
      · left
        refine ⟨m1, ?_⟩
        rcases m2 with ⟨m2, m3⟩ | ⟨m2, m3⟩
        · left
          exact ⟨m2, m3⟩
        · right
          exact ⟨m2, m3⟩
      · exact .inr m
    · simp [Hs.d, Wy.d, Pn.d, intsD, flat_ints, any_ints, non_opt, hz]
      have m := fits_main.mpr hq
      rcases m with ⟨m1, m2⟩ | m
      · left
        refine ⟨m1, ?_⟩
        rcases m2 with ⟨m2, m3⟩ | ⟨m2, m3⟩
        · left
          exact ⟨m2, m3⟩
        · right
          exact ⟨m2, m3⟩
      · exact .inr m
  · exact h.elim
theorem seenGo_len {size : Int} {p : Pn} {bf : List Int} {bk : Option Int} : ∀ (ws : List Wy) (i : Nat) (acc : List Int), (seenGo size p bf bk i ws acc).length ≤ acc.length + ws.length
  | [], _, acc => by simp [seenGo]
  | w :: ws, i, acc => by
    unfold seenGo
    have h := seenGo_len (size := size) (p := p) (bf := bf) (bk := bk) ws (i + 1) (if keptB w i bf bk || fitsB size w p acc then acc ++ [(i : Int)] else acc)
    refine Nat.le_trans h ?_
    split
    · simp
      omega
    · simp
theorem B_seen_at : Body t_seen_at 8 4 F_seen_at := Body.v fun ds Q E h => by
  unfold S_seen_at at h
  split at h
  · obtain ⟨h, p, bf, bk, rfl, rfl, rfl, rfl, hw, hz, hl, hq⟩ := h
    refine ⟨rfl, ?_⟩
    unfold t_seen_at
    simp [F_fits, enumD_eq]
    have key : ∀ (us : List Wy) (i : Nat) (acc : List Int) (x y z : Sl), nb x → nb y → nb z → (∀ w ∈ us, w.word = 0 ∨ w.word = 1) → acc.length + us.length ≤ 1000 → Q (intsD (seenGo h.size p bf bk i us acc)) →
        forD (gTp 2 (gC (gNm 5) (gC (gNm 6) gN)))
          (sSeq
            (sAsg
              (dAnd (dOp oIx (dVar 6) (dC (D.int 5))) (dAnd (dOp oIn (dVar 5) (dVar 2)) (dOp oNe (dVar 5) (dVar 3))))
              (gNm 7))
            (sIf
              (tOrD (dTst (dVar 7))
                (dTst (dCall 4 (FV S_fits) (aCons (dVar 0) (aCons (dVar 6) (aCons (dVar 1) (aCons (dVar 4) aNil)))))))
              (sAsg (dOp oAdd (dVar 4) (dTupL (aCons (dVar 5) aNil))) (gNm 4)) sNext))
          { nx := fun ρ' => dVar 4 ρ' (fun d x => Q d) fun x x_1 => E x, rt := fun d x => Q d } (fun x x_1 => E x)
          (enF i (us.map Wy.d))
          [Sl.val h.d, Sl.val p.d, Sl.val (intsD bf), Sl.val (optD bk), Sl.val (intsD acc), x, y, z] := by
      intro us
      induction us with
      | nil =>
        intro i acc x y z hx hy hz' hw hl hq
        simp [enF, forD]
        exact hq
      | cons w us ih =>
        intro i acc x y z hx hy hz' hw hl hq
        unfold seenGo at hq
        have hin : (acc ++ [(i : Int)]).length + us.length ≤ 1000 := by simp at hl ⊢; omega
        have hin0 : acc.length + us.length ≤ 1000 := by simp at hl ⊢; omega
        have ih1 := fun kb h => ih (i + 1) (acc ++ [(i : Int)]) (.val (.int i)) (.val w.d) (.val (.bl kb)) trivial trivial trivial (fun v hv => hw v (List.mem_cons_of_mem _ hv)) hin h
        have ih0 := fun kb h => ih (i + 1) acc (.val (.int i)) (.val w.d) (.val (.bl kb)) trivial trivial trivial (fun v hv => hw v (List.mem_cons_of_mem _ hv)) hin0 h
        have hw0 := hw w List.mem_cons_self
        have hlim : acc.length + 1 ≤ LIM := by show _ ≤ 1000000; simp at hl; omega
        have e1 : (1 : Nat) ≤ LIM := by decide
        simp only [enF, List.map_cons, forD]
        simp [hx, hy, hz', intsD, flat_ints, any_ints, eqD_opt]
        cases hk : w.keeps
        · have hkept : keptB w i bf bk = false := by simp [keptB, hk]
          left
          refine ⟨rfl, h, rfl, w, rfl, p, rfl, acc, rfl, hw0, hz, ?_⟩
          cases hf : fitsB h.size w p acc
          · left
            exact ⟨rfl, by simpa [intsD] using ih0 false (by simpa [hkept, hf] using hq)⟩
          · right
            exact ⟨rfl, hlim, by simpa [intsD] using ih1 false (by simpa [hkept, hf] using hq)⟩
        · right
          refine ⟨rfl, ?_⟩
          by_cases hb : (i : Int) ∈ bf
          · right
            refine ⟨hb, ?_⟩
            by_cases hbk : bk = some (i : Int)
            · have hkept : keptB w i bf bk = false := by simp [keptB, hbk]
              left
              refine ⟨hbk, h, rfl, w, rfl, p, rfl, acc, rfl, hw0, hz, ?_⟩
              cases hf : fitsB h.size w p acc
              · left
                exact ⟨rfl, by simpa [intsD] using ih0 (!(bk == some (i : Int))) (by simpa [hkept, hf] using hq)⟩
              · right
                exact ⟨rfl, hlim, by simpa [intsD] using ih1 (!(bk == some (i : Int))) (by simpa [hkept, hf] using hq)⟩
            · have hkept : keptB w i bf bk = true := by simp [keptB, hbk, hb, hk]
              right
              exact ⟨hbk, hlim, by simpa [intsD] using ih1 (!(bk == some (i : Int))) (by simpa [hkept] using hq)⟩
          · have hkept : keptB w i bf bk = false := by simp [keptB, hb]
            left
            refine ⟨fun x hx e => hb (e ▸ hx), h, rfl, w, rfl, p, rfl, acc, rfl, hw0, hz, ?_⟩
            cases hf : fitsB h.size w p acc
            · left
              exact ⟨rfl, by simpa [intsD] using ih0 false (by simpa [hkept, hf] using hq)⟩
            · right
              exact ⟨rfl, hlim, by simpa [intsD] using ih1 false (by simpa [hkept, hf] using hq)⟩
    exact key h.ways 0 [] _ _ _ trivial trivial trivial hw (by simpa using hl) hq
  · exact h.elim
theorem B_history : Body t_history 6 3 F_history := Body.v fun ds Q E h => by
  unfold S_history at h
  split at h
  · obtain ⟨h, ts, p, rfl, rfl, rfl, hs, hl, hq⟩ := h
    refine ⟨rfl, ?_⟩
    unfold t_history
    have h0 := hs h (by obtain ⟨r, e⟩ := along_head h ts; rw [e]; exact List.mem_cons_self)
    have e0 : (List.map Hs.d (along h ts))[0]? = some h.d := by obtain ⟨r, e⟩ := along_head h ts; rw [e]; rfl
    simp [F_seen_at, F_back_of, e0]
    refine ⟨h, rfl, p, rfl, [], rfl, none, rfl, h0.1, h0.2.1, h0.2.2, _, _, ⟨rfl, rfl⟩, _, rfl, _, rfl, ?_⟩
    have key : ∀ (us : List Tn) (g : Hs) (pre : List (List Int)) (last : List Int) (A B x y : Sl), nb x → nb y → (∀ k ∈ along g us, SeeOk k) → pre.length + us.length ≤ 2000 → Q (.lst ((pre ++ last :: moments p last g us).map intsD)) →
        forD (gTp 2 (gC (gNm 4) (gC (gNm 5) gN)))
          (sApp 3
            (aCons
              (dCall 4 (FV S_seen_at)
                (aCons (dVar 4)
                  (aCons (dVar 2)
                    (aCons (dIxH 3 (dUn oNeg (dC (D.int 1))))
                      (aCons (dCall 1 (FV S_back_of) (aCons (dVar 5) aNil)) aNil)))))
              aNil))
          { nx := fun ρ' => dVar 3 ρ' (fun d x => Q d) fun x x_5 => E x, rt := fun d x => Q d }
          (fun x x_5 => E x) (zipD ((along g us).map Hs.d).tail (us.map Tn.d))
          [A, B, Sl.val p.d, Sl.own ((pre ++ [last]).map intsD), x, y] := by
      intro us
      induction us with
      | nil =>
        intro g pre last A B x y hx hy hs hz hq
        simp [along, zipD, forD]
        simpa [moments] using hq
      | cons t us ih =>
        intro g pre last A B x y hx hy hs hz hq
        obtain ⟨r, er⟩ := along_head (turn g t) us
        have h1 := ih (turn g t) (pre ++ [last]) (seenAt (turn g t) p last t.bk) A B (.val (turn g t).d) (.val t.d) trivial trivial (fun k hk => hs k (by simp only [along]; exact List.mem_cons_of_mem _ hk)) (by simp at hz ⊢; omega) (by simpa [moments] using hq)
        have hk : SeeOk (turn g t) := hs _ (by simp only [along, er]; simp)
        have e1 : zipD ((along g (t :: us)).map Hs.d).tail ((t :: us).map Tn.d) = .tup [(turn g t).d, t.d] :: zipD ((along (turn g t) us).map Hs.d).tail (us.map Tn.d) := by
          simp only [along, List.map_cons, List.tail_cons, er, zipD, List.zipWith_cons_cons]
        rw [e1]
        simp [forD, hx, hy]
        refine ⟨t, rfl, turn g t, rfl, p, rfl, last, rfl, t.bk, rfl, hk.1, hk.2.1, hk.2.2, ?_, ?_⟩
        · show _ < 1000000
          simp at hz
          omega
        · simpa using h1
    exact key ts h [] (seenAt h p [] none) _ _ _ _ trivial trivial hs (by simp; omega) (by simpa [history] using hq)
  · exact h.elim
theorem B_law_part_names : Body t_law_part_names 0 0 F_law_part_names := Body.v fun ds Q E hh => by
  unfold S_law_part_names at hh
  split at hh
  · refine ⟨rfl, ?_⟩
    unfold t_law_part_names
    simp
    exact hh
  · exact hh.elim
theorem B_law_has : Body t_law_has 5 4 F_law_has := Body.v fun ds Q E hh => by
  unfold S_law_has at hh
  split at hh
  · rename_i size start share number
    refine ⟨rfl, ?_⟩
    unfold t_law_has
    simp
    unfold hasB at hh
    by_cases q3 : start ≤ number + size
    · have p3 : (number + size < start) = False := by simp; omega
      by_cases q1 : start ≤ number
      · have p1 : (number < start) = False := by simp; omega
        by_cases q2 : number < start + share
        · have p2 : (start + share ≤ number) = False := by simp; omega
          simp [q1, q2, q3] at hh
          simp [p1, p2, p3, q1, q2, q3]
          exact hh
        · have p2 : (start + share ≤ number) = True := by simp; omega
          simp [q1, q2, q3] at hh
          simp [p1, p2, p3, q1, q2, q3]
          exact hh
      · have p1 : (number < start) = True := by simp; omega
        simp [q1, q3] at hh
        simp [p1, p3, q1, q3]
        exact hh
    · have p3 : (number + size < start) = True := by simp; omega
      by_cases q1 : start ≤ number
      · have p1 : (number < start) = False := by simp; omega
        by_cases q2 : number < start + share
        · have p2 : (start + share ≤ number) = False := by simp; omega
          simp [q1, q2, q3] at hh
          simp [p1, p2, p3, q1, q2, q3]
          exact hh
        · have p2 : (start + share ≤ number) = True := by simp; omega
          simp [q1, q2, q3] at hh
          simp [p1, p2, p3, q1, q2, q3]
          exact hh
      · have p1 : (number < start) = True := by simp; omega
        simp [q1, q3] at hh
        simp [p1, p3, q1, q3]
        exact hh
  · exact hh.elim
theorem B_law_turned : Body t_law_turned 5 2 F_law_turned := Body.v fun ds Q E h => by
  unfold S_turned at h
  split at h
  · obtain ⟨h, t, rfl, rfl, hn, hl, hq⟩ := h
    refine ⟨rfl, ?_⟩
    obtain ⟨size, ws⟩ := h
    have hw : ws[t.n]? = some ws[t.n] := List.getElem?_eq_getElem hn
    have e : turn ⟨size, ws⟩ t = ⟨size, ws.set t.n (t.upd ws[t.n])⟩ := by simp [turn, hw]
    rw [e] at hq
    unfold t_law_turned
    generalize hg : ws[t.n] = w at *
    cases t <;> simp only [Tn.n] at hn hl hq hw <;> simp [Hs.d, Tn.d, hw, F_law_part_names, PLD']
    all_goals first
      | (refine ⟨rfl, ?_⟩
         simp only [Wy.d]
         simp only [Hs.d, Tn.upd, List.map_set] at hq
         simp [hn]
         first | exact hq | exact ⟨by decide, hq⟩)
      | skip
    rename_i n
    have h3 : ws.set n w = ws := by
      rw [← hg]
      exact List.set_getElem_self _
    simp only [Hs.d, Tn.upd, h3] at hq
    exact hq
  · exact h.elim
theorem turn_len' (h : Hs) (t : Tn) : (turn h t).ways.length = h.ways.length := by
  unfold turn
  cases h.ways[t.n]? <;> simp
def nowA : DS := (sAsg
        (dAnd (dOp oIn (dOp oIx (dVar 1) (dC (D.int 0))) (dVar 11))
          (dCall 4 F_law_has
            (aCons (dOp oIx (dVar 0) (dC (D.int 0)))
              (aCons (dVar 8) (aCons (dVar 9) (aCons (dOp oIx (dVar 1) (dOp oAdd (dC (D.int 1)) (dVar 7))) aNil))))))
        (gNm 6))
def nowB : DS := (sAsg (dAnd (dVar 6) (dOr (dOp oIsN (dVar 10) (dC D.non)) (dInH false 4 (dVar 10)))) (gNm 6))
def nowC : DS := (sIf (tAndD (dTst (dVar 12)) (tAndD (dTst (dOp oIn (dVar 5) (dVar 2))) (dTst (dOp oNe (dVar 5) (dVar 3)))))
            (sAsg (dC (D.bl true)) (gNm 6)) sNext)
def nowD : DS := (sIf (dTst (dVar 6)) (sApp 4 (aCons (dVar 5) aNil)) sNext)
def nowBody : DS := sSeq nowA (sSeq nowB (sSeq nowC nowD))
section
variable {h : Hs} {p : Pn} {bf : List Int} {bk : Option Int} {acc : List Int} {i : Int} {w : Wy} {k : DEnds} {E : EQ}
theorem nin {l : List Int} {a : Int} : (∀ x, x ∈ l → ¬x = a) ↔ a ∉ l := ⟨fun h m => h a m rfl, fun h x m e => h (e ▸ m)⟩
theorem any_comp {l : List Int} {f : Int} : l.any ((fun y => eqD y (.int f)) ∘ D.int) = decide (f ∈ l) := by
  rw [← List.any_map, any_ints]
  simp
theorem beq_dec {i : Int} {bk : Option Int} : (bk == some i) = decide (bk = some i) := by
  rw [Bool.eq_iff_iff]
  simp
theorem optD_n : optD none = .non := rfl
theorem optD_s {j : Int} : optD (some j) = .int j := rfl
theorem pk0 {Qd : D → Prop} : oIx p.d (.int 0) Qd = Qd (.int p.kind) := by simp [Pn.d]
theorem nowA_s {x : Sl} (hx : nb x) (hw : w.word = 0 ∨ w.word = 1) : nowA k E [Sl.val h.d, Sl.val p.d, Sl.val (intsD bf), Sl.val (optD bk), Sl.own (acc.map .int), .val (.int i), x, .val (.int w.word), .val (.int w.start), .val (.int w.share), .val (optD w.fence), .val (.tup (w.kinds.map .int)), .val (.bl w.keeps)] = k.nx [Sl.val h.d, Sl.val p.d, Sl.val (intsD bf), Sl.val (optD bk), Sl.own (acc.map .int), .val (.int i), .val (.bl (w.kinds.contains p.kind && hasB h.size w.start w.share (p.at w.word))), .val (.int w.word), .val (.int w.start), .val (.int w.share), .val (optD w.fence), .val (.tup (w.kinds.map .int)), .val (.bl w.keeps)] := by
  have hat : ∀ Qd : D → Prop, oIx p.d (.int (1 + w.word)) Qd = Qd (.int (p.at w.word)) := by
    intro Qd
    rcases hw with e | e <;> rw [e] <;> simp [Pn.d, Pn.at]
  unfold nowA
  by_cases c : p.kind ∈ w.kinds <;> simp [hx, hat, pk0, any_ints, nin, c, F_law_has]
theorem nowB_s {g : Bool} : nowB k E [Sl.val h.d, Sl.val p.d, Sl.val (intsD bf), Sl.val (optD bk), Sl.own (acc.map .int), .val (.int i), .val (.bl g), .val (.int w.word), .val (.int w.start), .val (.int w.share), .val (optD w.fence), .val (.tup (w.kinds.map .int)), .val (.bl w.keeps)] = k.nx [Sl.val h.d, Sl.val p.d, Sl.val (intsD bf), Sl.val (optD bk), Sl.own (acc.map .int), .val (.int i), .val (.bl (g && (match w.fence with | none => true | some f => acc.contains f))), .val (.int w.word), .val (.int w.start), .val (.int w.share), .val (optD w.fence), .val (.tup (w.kinds.map .int)), .val (.bl w.keeps)] := by
  unfold nowB
  cases g
  · simp
  · cases e : w.fence with
    | none => simp [optD_n, isNon]
    | some f => simp [optD_s, isNon, any_comp]
theorem nowC_s {g : Bool} : nowC k E [Sl.val h.d, Sl.val p.d, Sl.val (intsD bf), Sl.val (optD bk), Sl.own (acc.map .int), .val (.int i), .val (.bl g), .val (.int w.word), .val (.int w.start), .val (.int w.share), .val (optD w.fence), .val (.tup (w.kinds.map .int)), .val (.bl w.keeps)] = k.nx [Sl.val h.d, Sl.val p.d, Sl.val (intsD bf), Sl.val (optD bk), Sl.own (acc.map .int), .val (.int i), .val (.bl ((w.keeps && bf.contains i && !(bk == some i)) || g)), .val (.int w.word), .val (.int w.start), .val (.int w.share), .val (optD w.fence), .val (.tup (w.kinds.map .int)), .val (.bl w.keeps)] := by
  unfold nowC
  cases c1 : w.keeps <;> by_cases c2 : i ∈ bf <;> by_cases c3 : bk = some i <;> cases g <;> simp [intsD, any_ints, nin, eqD_opt, beq_dec, c1, c2, c3]
theorem nowD_s {g : Bool} (hl : acc.length < LIM) (hq : k.nx [Sl.val h.d, Sl.val p.d, Sl.val (intsD bf), Sl.val (optD bk), Sl.own ((if g then acc ++ [i] else acc).map .int), .val (.int i), .val (.bl g), .val (.int w.word), .val (.int w.start), .val (.int w.share), .val (optD w.fence), .val (.tup (w.kinds.map .int)), .val (.bl w.keeps)]) : nowD k E [Sl.val h.d, Sl.val p.d, Sl.val (intsD bf), Sl.val (optD bk), Sl.own (acc.map .int), .val (.int i), .val (.bl g), .val (.int w.word), .val (.int w.start), .val (.int w.share), .val (optD w.fence), .val (.tup (w.kinds.map .int)), .val (.bl w.keeps)] := by
  unfold nowD
  cases g
  · simp at hq ⊢
    exact hq
  · simp at hq ⊢
    exact ⟨hl, hq⟩
theorem nowBody_s {x : Sl} (hx : nb x) (hw : w.word = 0 ∨ w.word = 1) (hl : acc.length < LIM) (g : Bool) (hg : ((w.keeps && bf.contains i && !(bk == some i)) || ((w.kinds.contains p.kind && hasB h.size w.start w.share (p.at w.word)) && (match w.fence with | none => true | some f => acc.contains f))) = g) (hq : k.nx [Sl.val h.d, Sl.val p.d, Sl.val (intsD bf), Sl.val (optD bk), Sl.own ((if g then acc ++ [i] else acc).map .int), .val (.int i), .val (.bl g), .val (.int w.word), .val (.int w.start), .val (.int w.share), .val (optD w.fence), .val (.tup (w.kinds.map .int)), .val (.bl w.keeps)]) : nowBody k E [Sl.val h.d, Sl.val p.d, Sl.val (intsD bf), Sl.val (optD bk), Sl.own (acc.map .int), .val (.int i), x, .val (.int w.word), .val (.int w.start), .val (.int w.share), .val (optD w.fence), .val (.tup (w.kinds.map .int)), .val (.bl w.keeps)] := by
  unfold nowBody
  simp only [sSeq_s]
  rw [nowA_s hx hw]
  dsimp only
  rw [nowB_s]
  dsimp only
  rw [nowC_s, hg]
  exact nowD_s hl hq
end
theorem B_law_now : Body t_law_now 13 4 F_law_now := Body.v fun ds Q E hh => by
  unfold S_law_now at hh
  split at hh
  · obtain ⟨h, p, bf, bk, rfl, rfl, rfl, rfl, hk, hq⟩ := hh
    refine ⟨rfl, ?_⟩
    unfold t_law_now
    simp [enumD_eq]
    have key : ∀ (us : List Wy) (i : Nat) (acc : List Int) (x5 x6 x7 x8 x9 xa xb xc : Sl), nb x5 → nb x6 → nb x7 → nb x8 → nb x9 → nb xa → nb xb → nb xc → (∀ w ∈ us, (w.word = 0 ∨ w.word = 1) ∧ (0 ≤ w.start ∧ w.start < h.size) ∧ 0 ≤ w.share ∧ w.share ≤ h.size) → acc.length + us.length ≤ 1000 → Q (intsD (seenGo h.size p bf bk i us acc)) →
        forD
          (gTp 2
            (gC (gNm 5) (gC (gTp 6 (gC (gNm 7) (gC (gNm 8) (gC (gNm 9) (gC (gNm 10) (gC (gNm 11) (gC (gNm 12) gN))))))) gN)))
          nowBody
          { nx := fun ρ' => dVar 4 ρ' (fun d ρ1 => fTuple [d] fun d => Q d) fun x x_1 => E x, rt := fun d x => Q d }
          (fun x x_1 => E x) (enF i (List.map Wy.d us))
          [Sl.val h.d, Sl.val p.d, Sl.val (intsD bf), Sl.val (optD bk), Sl.own (acc.map .int), x5, x6, x7, x8, x9, xa, xb, xc] := by
      intro us
      induction us with
      | nil =>
        intro i acc x5 x6 x7 x8 x9 xa xb xc _ _ _ _ _ _ _ _ hw hl hq
        simp [enF, forD]
        exact hq
      | cons w us ih =>
        intro i acc x5 x6 x7 x8 x9 xa xb xc h5 h6 h7 h8 h9 ha hb hc hw hl hq
        unfold seenGo at hq
        have hw0 := hw w List.mem_cons_self
        have hp : 0 ≤ p.at w.word ∧ p.at w.word < h.size := by
          unfold Pn.at
          split
          · exact hk.a
          · exact hk.b
        have hmod := has_mod hw0.2.1 hw0.2.2 hp
        have hl1 : acc.length < LIM := by show _ < 1000000; simp at hl; omega
        have ih1 := fun g => ih (i + 1) (if g then acc ++ [(i : Int)] else acc) (.val (.int i)) (.val (.bl g)) (.val (.int w.word)) (.val (.int w.start)) (.val (.int w.share)) (.val (optD w.fence)) (.val (.tup (w.kinds.map .int))) (.val (.bl w.keeps)) trivial trivial trivial trivial trivial trivial trivial trivial (fun v hv => hw v (List.mem_cons_of_mem _ hv)) (by simp at hl; cases g <;> simp <;> omega)
        simp only [enF, List.map_cons, forD]
        simp [h5, h6, h7, h8, h9, ha, hb, hc, Wy.d]
        apply nowBody_s h6 hw0.1 hl1 _ rfl
        apply ih1
        rw [hmod]
        exact hq
    exact key h.ways 0 [] _ _ _ _ _ _ _ _ trivial trivial trivial trivial trivial trivial trivial trivial hk.ways (by simpa using hk.len) hq
  · exact hh.elim
theorem turn_len9 (h : Hs) (t : Tn) : (turn h t).ways.length = h.ways.length := by
  unfold turn
  cases h.ways[t.n]? <;> simp
theorem o9n : optD none = .non := rfl
theorem o9s {j : Int} : optD (some j) = .int j := rfl
theorem B_law_seen : Body t_law_seen 6 3 F_law_seen := Body.v fun ds Q E hh => by
  unfold S_law_seen at hh
  split at hh
  · obtain ⟨h, ts, p, rfl, rfl, rfl, hk, ht, hl, hq⟩ := hh
    refine ⟨rfl, ?_⟩
    unfold t_law_seen
    have h0 := hk h (by obtain ⟨r, e⟩ := along_head h ts; rw [e]; exact List.mem_cons_self)
    simp [F_law_now, F_law_turned]
    refine ⟨h, rfl, p, rfl, [], rfl, none, rfl, h0, ?_⟩
    have key : ∀ (us : List Tn) (g : Hs) (pre : List (List Int)) (last : List Int) (A x y : Sl), nb x → nb y → (∀ k ∈ along g us, NowOk k p) → (∀ t ∈ us, t.n < g.ways.length) → pre.length + us.length ≤ 2000 → Q (.tup ((pre ++ last :: moments p last g us).map intsD)) →
        forD (gNm 4)
          (sSeq (sAsg (dCall 2 (FV S_turned) (aCons (dVar 0) (aCons (dVar 4) aNil))) (gNm 0))
            (sSeq
              (sAsg
                (dIf (dTst (dOp oEq (dOp oIx (dVar 4) (dC (D.int 0))) (dC (D.str (Str.ofString "back")))))
                  (dOp oIx (dVar 4) (dC (D.int 1))) (dC D.non))
                (gNm 5))
              (sApp 3
                (aCons
                  (dCall 4 (FV S_law_now)
                    (aCons (dVar 0)
                      (aCons (dVar 2) (aCons (dIxH 3 (dUn oNeg (dC (D.int 1)))) (aCons (dVar 5) aNil)))))
                  aNil))))
          { nx := fun ρ' => dVar 3 ρ' (fun d ρ1 => fTuple [d] fun d => Q d) fun x x_3 => E x,
            rt := fun d x => Q d }
          (fun x x_3 => E x) (List.map Tn.d us)
          [Sl.val g.d, A, Sl.val p.d, Sl.own ((pre ++ [last]).map intsD), x, y] := by
      intro us
      induction us with
      | nil =>
        intro g pre last A x y hx hy hk ht hz hq
        simp [forD]
        simpa [moments] using hq
      | cons t us ih =>
        intro g pre last A x y hx hy hk ht hz hq
        obtain ⟨r, er⟩ := along_head (turn g t) us
        have hng : NowOk g p := hk g (by simp [along])
        have hn : NowOk (turn g t) p := hk _ (by simp only [along, er]; simp)
        have h1 := ih (turn g t) (pre ++ [last]) (seenAt (turn g t) p last t.bk) A (.val t.d) (.val (optD t.bk)) trivial trivial (fun k hk' => hk k (by simp only [along]; exact List.mem_cons_of_mem _ hk')) (fun u hu => by rw [turn_len9]; exact ht u (List.mem_cons_of_mem _ hu)) (by simp at hz ⊢; omega) (by simpa [moments] using hq)
        simp [forD, hx, hy]
        refine ⟨g, rfl, t, rfl, ht t List.mem_cons_self, hng.len, ?_⟩
        have hlim : pre.length + 1 < LIM := by show _ < 1000000; simp at hz; omega
        cases t <;> simp [Tn.d]
        case back n => exact ⟨_, rfl, p, rfl, last, rfl, some (n : Int), rfl, hn, hlim, by simpa [Tn.d, Tn.bk, o9s] using h1⟩
        all_goals exact ⟨_, rfl, p, rfl, last, rfl, none, rfl, hn, hlim, by simpa [Tn.d, Tn.bk, o9n] using h1⟩
    exact key ts h [] (seenAt h p [] none) _ _ _ trivial trivial hk ht (by simp; omega) (by simpa [history] using hq)
  · exact hh.elim
theorem B_law_under : Body t_law_under 4 2 F_law_under := Body.b fun b ds Q E hh => by
  unfold S_law_under at hh
  split at hh
  · obtain ⟨⟨a, c, rfl, ha, hc⟩, ⟨hm, hM⟩, hq⟩ := hh
    refine ⟨rfl, ?_⟩
    unfold t_law_under
    simp
    rename_i many _
    have h1 : 0 ≤ (c * 39373 + 101) % 2147483629 ∧ (c * 39373 + 101) % 2147483629 < 2147483629 := ⟨Int.emod_nonneg _ (by decide), Int.emod_lt_of_pos _ (by decide)⟩
    generalize (c * 39373 + 101) % 2147483629 = e at h1
    by_cases h : a ≤ 0
    · left
      refine ⟨h, Or.inl ⟨by decide, by decide⟩, 1, rfl, ?_⟩
      simp
      refine ⟨⟨by decide, by decide⟩, Or.inl ⟨by omega, by omega⟩, ⟨by decide, by decide⟩, hm, ?_⟩
      exact hq _ _ (Int.emod_nonneg _ (by omega)) (Int.emod_lt_of_pos _ hm) ⟨a, e, rfl, ha, h1.1⟩
    · right
      refine ⟨by omega, hm, ⟨hm, ?_⟩, ?_⟩
      · exact Int.lt_of_le_of_lt hM (by decide)
      · exact hq _ _ (Int.emod_nonneg _ (by omega)) (Int.emod_lt_of_pos _ hm) ⟨_, c, rfl, Int.ediv_nonneg ha (by omega), hc⟩
  · exact hh.elim
theorem B_law_some : Body t_law_some 2 2 F_law_some := Body.b fun b ds Q E hh => by
  unfold S_law_some at hh
  split at hh
  · obtain ⟨hv, ⟨hn, hl⟩, hq⟩ := hh
    refine ⟨rfl, ?_⟩
    unfold t_law_some
    simp [F_law_under]
    rename_i xs
    have hp : 0 < xs.length := List.length_pos_iff.mpr hn
    refine ⟨hv, ⟨hp, by omega⟩, fun r m' h0 h1 hm => ?_⟩
    obtain ⟨j, rfl⟩ : ∃ j : Nat, r = j := ⟨r.toNat, by omega⟩
    have hr : j < xs.length := by omega
    refine ⟨xs[j], ?_, hq _ (List.getElem_mem hr) m' hm⟩
    simp [hr]
  · exact hh.elim
theorem B_law_kinds : Body t_law_kinds 1 1 F_law_kinds := Body.b fun b ds Q E hh => by
  unfold S_law_kinds at hh
  split at hh
  · obtain ⟨hv, hq⟩ := hh
    refine ⟨rfl, ?_⟩
    unfold t_law_kinds
    have l3 : 3 ≤ LIM := by show 3 ≤ 1000000; omega
    have l1 : 1 ≤ LIM := by show 1 ≤ 1000000; omega
    have l2 : 2 ≤ LIM := by show 2 ≤ 1000000; omega
    have l6 : 6 ≤ LIM := by show 6 ≤ 1000000; omega
    simp [F_law_some, l3, l1, l2, l6]
    exact ⟨hv, hq [0, 1, 2] (by simp [kindSets]), hq [0] (by simp [kindSets]), hq [1] (by simp [kindSets]), hq [0, 2] (by simp [kindSets]), hq [1, 2] (by simp [kindSets])⟩
  · exact hh.elim
theorem B_law_turning : Body t_law_turning 5 2 F_law_turning := Body.b fun b ds Q E hh => by
  unfold S_law_turning at hh
  split at hh
  · obtain ⟨h, rfl, gh, hz, hv, hq⟩ := hh
    refine ⟨rfl, ?_⟩
    unfold t_law_turning
    have l3 : 3 ≤ LIM := by show 3 ≤ 1000000; omega
    have l2 : 2 ≤ LIM := by show 2 ≤ 1000000; omega
    have l1 : 1 ≤ LIM := by show 1 ≤ 1000000; omega
    simp [F_law_under, F_law_some, F_law_kinds, l3, l2, l1]
    have hm := gh.many
    have hs := gh.size
    refine ⟨hv, ⟨by omega, by omega⟩, fun r m0 r0 r1 v0 => ⟨v0, fun c m1 c0 c1 v1 => ?_⟩⟩
    obtain ⟨j, rfl⟩ : ∃ j : Nat, r = j := ⟨r.toNat, by omega⟩
    have hj : j < h.ways.length := by omega
    by_cases q3 : c < 4
    · exact Or.inr ⟨q3, v1, ⟨by omega, by omega⟩, fun x m2 x0 x1 v2 => hq (.share j x) ⟨hj, fun w g => ⟨g.word, g.start, ⟨x0, by show x ≤ h.size; omega⟩, g.fence, g.kinds⟩⟩ m2 v2⟩
    refine Or.inl ⟨by omega, ?_⟩
    by_cases q4 : c = 4
    · exact Or.inr ⟨q4, v1, ⟨by omega, by omega⟩, fun x m2 x0 x1 v2 => hq (.start j x) ⟨hj, fun w g => ⟨g.word, ⟨x0, x1⟩, g.share, g.fence, g.kinds⟩⟩ m2 v2⟩
    refine Or.inl ⟨q4, ?_⟩
    by_cases q5 : c = 5
    · exact Or.inr ⟨q5, v1, fun x m2 x0 x1 v2 => hq (.word j x) ⟨hj, fun w g => ⟨by show x = 0 ∨ x = 1; omega, g.start, g.share, g.fence, g.kinds⟩⟩ m2 v2⟩
    refine Or.inl ⟨q5, ?_⟩
    by_cases q6 : c = 6
    · refine Or.inr ⟨q6, ⟨by omega, by omega⟩, by show _ ≤ 1000000; omega, v1, by omega, fun m2 v2 => hq (.fence j none) ⟨hj, fun w g => ⟨g.word, g.start, g.share, fun f e => (by cases e), g.kinds⟩⟩ m2 v2, fun a ha m2 v2 => hq (.fence j (some (a : Int))) ⟨hj, fun w g => ⟨g.word, g.start, g.share, fun f e => (by cases e; exact ⟨by omega, ha⟩), g.kinds⟩⟩ m2 v2⟩
    refine Or.inl ⟨q6, ?_⟩
    by_cases q7 : c = 7
    · exact Or.inr ⟨q7, v1, fun k hk m2 v2 => hq (.kinds j k) ⟨hj, fun w g => ⟨g.word, g.start, g.share, g.fence, kindSets_sub hk⟩⟩ m2 v2⟩
    refine Or.inl ⟨q7, ?_⟩
    by_cases q8 : c = 8
    · exact Or.inr ⟨q8, v1, fun x m2 x0 x1 v2 => hq (.keeps j (x == 0)) ⟨hj, fun w g => ⟨g.word, g.start, g.share, g.fence, g.kinds⟩⟩ m2 v2⟩
    exact Or.inl ⟨q8, hq (.back j) ⟨hj, fun w g => g⟩ m1 v1⟩
  · exact hh.elim
theorem B_law_row : Body t_law_row 4 3 F_law_row := Body.b fun b ds Q E hh => by
  unfold S_law_row at hh
  split at hh
  · obtain ⟨h, rfl, gh, hz, hv, hM, hq⟩ := hh
    refine ⟨rfl, ?_⟩
    unfold t_law_row
    simp [F_law_under, F_law_turning]
    rename_i most
    have key : ∀ (l : List Nat) (acc : List Tn) (m' : List D) (x : Sl), nb x → Vat m' → (∀ t ∈ acc, GoodT h t) → (acc.length : Int) + l.length ≤ most →
        lcD (gNm 3) tYesD (dCallR 2 (FB S_law_turning) 0 (aCons (dVar 1) aNil)) [3] (l.map fun (i : Nat) => D.int i) (acc.map Tn.d)
          [Sl.brw m', Sl.val h.d, Sl.val (D.int most), x] fun ds ρ' => Q (D.tup ds) (slAt ρ' 0) := by
      intro l
      induction l with
      | nil =>
        intro acc m' x hx hv ha hl
        simp [lcD]
        exact hq acc (by simpa using hl) ha m' hv
      | cons i l ih =>
        intro acc m' x hx hv ha hl
        simp [lcD, hx, wipeR, bakR]
        first | refine ⟨⟨m', rfl⟩, m', rfl, h, rfl, gh, hz, hv, fun t ht m2 v2 => ?_⟩ | refine ⟨h, rfl, gh, hz, hv, fun t ht m2 v2 => ?_⟩
        have h1 := ih (acc ++ [t]) m2 x hx v2 (fun u hu => by rcases List.mem_append.mp hu with q | q; exact ha u q; rw [List.mem_singleton.mp q]; exact ht) (by simp at hl ⊢; omega)
        simpa using h1
    refine ⟨hv, ⟨by omega, by omega⟩, fun r m0 r0 r1 v0 => ⟨⟨by omega, by omega⟩, by show _ ≤ 1000000; omega, ?_⟩⟩
    exact key (List.range r.toNat) [] m0 _ trivial v0 (by simp) (by simp; omega)
  · exact hh.elim
def InvHouse (most size : Int) (i : Nat) (s : Rho) : Prop := ∃ (m' : List D) (ws : List Wy) (x y z : Sl), s = [.brw m', .val (.int most), x, .val (.int size), .val (.tup (ws.map Wy.d)), y, z] ∧ nb x ∧ nb y ∧ nb z ∧ Vat m' ∧ ws.length = i ∧ ∀ j w, ws[j]? = some w → GoodW size j w
theorem InvHouse.next {most size : Int} {i : Nat} {ws : List Wy} {f : Option Int} {wd st sh : Int} {kd : List Int} {kp : Bool} {m2 : List D} {xx yy zz : Sl} {wt : D} (hl : ws.length = i) (hg : ∀ j w, ws[j]? = some w → GoodW size j w) (h1 : nb xx) (h2 : nb yy) (h3 : nb zz) (h4 : Vat m2) (h5 : GoodW size i ⟨wd, st, sh, f, kd, kp⟩) (e : wt = .tup [.int wd, .int st, .int sh, optD f, .tup (kd.map .int), .bl kp]) :
    InvHouse most size (i + 1) [.brw m2, .val (.int most), xx, .val (.int size), .val (.tup (ws.map Wy.d ++ [wt])), yy, zz] := by
  subst e
  refine ⟨m2, ws ++ [⟨wd, st, sh, f, kd, kp⟩], xx, yy, zz, ?_, h1, h2, h3, h4, by simp [hl], good_snoc hg (by rw [hl]; exact h5)⟩
  simp [Wy.d]
theorem B_law_house : Body t_law_house 7 2 F_law_house := Body.b fun b ds Q E hh => by
  unfold S_law_house at hh
  split at hh
  · obtain ⟨hv, hM, hq⟩ := hh
    refine ⟨rfl, ?_⟩
    unfold t_law_house
    simp [F_law_under, F_law_kinds]
    rename_i most
    refine ⟨hv, ⟨by omega, by omega⟩, fun r m0 r0 r1 v0 => ⟨v0, fun c m1 c0 c1 v1 => ⟨⟨by omega, by omega⟩, ?_⟩⟩⟩
    refine forD_ix (InvHouse most (1 + r)) ?_ ?_ ?_
    · exact ⟨m1, [], _, _, _, rfl, trivial, trivial, trivial, v1, rfl, by simp⟩
    · rintro i d s hd ⟨m', ws, x, y, z, rfl, hx, hy, hz, hv', hl, hg⟩
      obtain ⟨rfl, hi⟩ := rng_get' hd
      have hlim : ws.length + 1 ≤ LIM := by show _ ≤ 1000000; omega
      have fin := @InvHouse.next most (1 + r) i ws
      simp [hx, hy, hz, hlim]
      have sub : ∀ {f : Option Int} {fd : D}, fd = optD f → (∀ x, f = some x → 0 ≤ x ∧ x < i) → ∀ (a : Int), 0 ≤ a → a < 2 → ∀ (b : Int), 0 ≤ b → b < 1 + r → ∀ c : Int, 0 ≤ c → c < 1 + r + 1 → ∀ k ∈ kindSets, ∀ (p : Bool) (m2 : List D), Vat m2 → ∀ (yy zz : Sl), nb yy → nb zz →
          InvHouse most (1 + r) (i + 1) [.brw m2, .val (.int most), .val (.int i), .val (.int (1 + r)), .val (.tup (ws.map Wy.d ++ [.tup [.int a, .int b, .int c, fd, .tup (k.map .int), .bl p]])), yy, zz] :=
        fun {f fd} e hf a a0 a1 b b0 b1 c c0 c1 k hk p m2 v2 yy zz hy hz => fin (f := f) (kp := p) hl hg trivial hy hz v2 ⟨by show a = 0 ∨ a = 1; omega, ⟨b0, b1⟩, ⟨c0, by show c ≤ 1 + r; omega⟩, hf, kindSets_sub hk⟩ (by rw [e])
      by_cases h0 : i = 0
      · refine Or.inl ⟨h0, ?_⟩
        exact ⟨hv', fun a m a0 a1 v => ⟨v, ⟨by omega, by omega⟩, fun b m b0 b1 v => ⟨v, ⟨by omega, by omega⟩, fun c m c0 c1 v => ⟨v, fun k hk m v => ⟨v, fun p m p0 p1 v => sub (f := none) rfl (by simp) a a0 a1 b b0 b1 c c0 c1 k hk (p == 0) m v _ _ trivial trivial⟩⟩⟩⟩⟩
      · refine Or.inr ⟨by omega, hv', fun g m g0 g1 v => ?_⟩
        by_cases h3 : g = 0
        · refine Or.inr ⟨h3, v, ⟨by omega, by omega⟩, fun x m x0 x1 v => ?_⟩
          exact ⟨v, fun a m a0 a1 v => ⟨v, ⟨by omega, by omega⟩, fun b m b0 b1 v => ⟨v, ⟨by omega, by omega⟩, fun c m c0 c1 v => ⟨v, fun k hk m v => ⟨v, fun p m p0 p1 v => sub (f := some x) rfl (by intro y e; cases e; exact ⟨x0, x1⟩) a a0 a1 b b0 b1 c c0 c1 k hk (p == 0) m v _ _ trivial trivial⟩⟩⟩⟩⟩
        · refine Or.inl ⟨h3, ?_⟩
          exact ⟨v, fun a m a0 a1 v => ⟨v, ⟨by omega, by omega⟩, fun b m b0 b1 v => ⟨v, ⟨by omega, by omega⟩, fun c m c0 c1 v => ⟨v, fun k hk m v => ⟨v, fun p m p0 p1 v => sub (f := none) rfl (by simp) a a0 a1 b b0 b1 c c0 c1 k hk (p == 0) m v _ _ trivial trivial⟩⟩⟩⟩⟩
    · rintro s ⟨m', ws, x, y, z, rfl, hx, hy, hz, hv', hl, hg⟩
      simp
      refine hq ⟨1 + r, ws⟩ ⟨⟨by show 1 ≤ 1 + r; omega, by show 1 + r ≤ _; omega⟩, ?_, hg⟩ (by show 1 + r ≤ most; omega) m' hv'
      simp at hl
      show 1 ≤ ws.length ∧ ws.length ≤ 3
      omega
  · exact hh.elim
theorem B_law_vat : Body t_law_vat 3 2 F_law_vat := Body.v fun ds Q E hh => by
  unfold S_law_vat at hh
  split at hh
  · obtain ⟨⟨k0, k1⟩, hq⟩ := hh
    refine ⟨rfl, ?_⟩
    unfold t_law_vat
    simp
    rename_i ns k
    have m1 : MulOk 7919 k := Or.inr (Or.inl ⟨by omega, by omega⟩)
    have m2 : MulOk 8191 k := Or.inr (Or.inl ⟨by omega, by omega⟩)
    have m3 : ∀ c : Int, MulOk c 131071 := fun c => Or.inl ⟨by omega, by omega⟩
    have key : ∀ c : Int, 0 ≤ c → (c < 1000000000000000000 ∧ MulOk c 131071 ∧ MulOk 8191 k ∧ Q (.lst [.int 0, .int ((c * 131071 + 8191 * k + 5) % 2147483629 + 1)]) ∨
        1000000000000000000 ≤ c ∧ MulOk c 131071 ∧ MulOk 8191 k ∧ Q (.lst [.int c, .int ((c * 131071 + 8191 * k + 5) % 2147483629 + 1)])) := fun c hc => by
      have h : 0 ≤ (c * 131071 + 8191 * k + 5) % 2147483629 := Int.emod_nonneg _ (by decide)
      by_cases q : c < 1000000000000000000
      · exact Or.inl ⟨q, m3 c, m2, hq _ ⟨0, _, rfl, by omega, by omega⟩⟩
      · exact Or.inr ⟨by omega, m3 c, m2, hq _ ⟨c, _, rfl, hc, by omega⟩⟩
    refine ⟨m1, ?_⟩
    by_cases q : (ns.length : Int) ≤ k
    · exact Or.inl ⟨q, key _ (by omega)⟩
    · refine Or.inr ⟨by omega, ?_⟩
      obtain ⟨j, rfl⟩ : ∃ j : Nat, k = j := ⟨k.toNat, by omega⟩
      have hj : j < ns.length := by omega
      refine ⟨ns[j], by simp [hj], key _ ?_⟩
      split <;> omega
  · exact hh.elim
def Iv_ways (size : Int) (ws ds : List D) (r : List D) (s : Rho) : Prop := ∃ x, s = [.val (.tup [.int size, .tup ws]), .val (.tup ds), x] ∧ nb x ∧ (∀ d ∈ r, pd d) ∧ r.all (okWay ws.length) = ds.all (okWay ws.length)
def Iv_div (t b : Int) (m : Nat) (s : Rho) : Prop := ∃ x y : Int, s = [.val (.int t), .val (.int b), .val (.int x), .val (.int y)] ∧ 0 ≤ x ∧ 0 ≤ y ∧ Int.gcd x y = Int.gcd t b ∧ m = y.toNat
theorem Iv_div.start {t b : Int} (b0 : 0 < b) : ∃ m, Iv_div t b m [.val (.int t), .val (.int b), .val (.int (if t < 0 then -t else t)), .val (.int b)] := by
  refine ⟨_, _, b, rfl, ?_, by omega, ?_, rfl⟩
  · split <;> omega
  · split
    · rw [Int.neg_gcd]
    · rfl
theorem Iv_div.step {t b x y : Int} (hg : Int.gcd x y = Int.gcd t b) (q : 0 < y) : ∃ m' : Nat, (m' : Int) < y ∧ Iv_div t b m' [.val (.int t), .val (.int b), .val (.int y), .val (.int (x % y))] := by
  have h1 := Int.emod_lt_of_pos x q
  have h2 := Int.emod_nonneg x (show y ≠ 0 by omega)
  refine ⟨(x % y).toNat, by omega, _, _, rfl, by omega, h2, ?_, rfl⟩
  have e : x % y = x - x / y * y := by rw [Int.emod_def, Int.mul_comm]
  rw [← hg, e, Int.gcd_sub_mul_right_right, Int.gcd_comm]
theorem Iv_div.fin {t b x : Int} (x0 : 0 ≤ x) (hg : Int.gcd x 0 = Int.gcd t b) (b0 : 0 < b) (b1 : b < 2 ^ 4000) : x = (Int.gcd t b : Int) ∧ DivOk x := by
  have hx : x = (Int.gcd t b : Int) := by
    rw [← hg, Int.gcd_zero_right]
    omega
  have hg0 : 0 < (Int.gcd t b : Int) := by
    have : Int.gcd t b ≠ 0 := fun z => by
      have := (Int.gcd_eq_zero_iff.mp z).2
      omega
    omega
  have hgl : (Int.gcd t b : Int) ≤ b := Int.le_of_dvd b0 (Int.gcd_dvd_right t b)
  refine ⟨hx, ?_⟩
  rw [hx]
  exact ⟨hg0, Int.lt_trans (Int.lt_of_le_of_lt hgl b1) (by decide +kernel)⟩
def Iv_co (size word : Int) (hs : List Hs) (r : List D) (s : Rho) : Prop := ∃ (rest : List Hs) (acc : List Int) (x y : Sl), r = rest.map Hs.d ∧ s = [.val (.lst (hs.map Hs.d)), .val (.int word), x, .val (.int size), .val (.lst (acc.map .int)), y] ∧ nb x ∧ nb y ∧
  acc ++ rest.flatMap (fun h => h.ways.flatMap (wayCuts size word)) = cutsL size word hs
def Iv_co2 (size word : Int) (hs rest : List Hs) (r : List D) (s : Rho) : Prop := ∃ (us : List Wy) (acc : List Int) (x y : Sl), r = us.map Wy.d ∧ s = [.val (.lst (hs.map Hs.d)), .val (.int word), x, .val (.int size), .val (.lst (acc.map .int)), y] ∧ nb x ∧ nb y ∧
  acc ++ (us.flatMap (wayCuts size word) ++ rest.flatMap (fun h => h.ways.flatMap (wayCuts size word))) = cutsL size word hs
theorem B_cuts_of : Body t_cuts_of 6 2 F_cuts_of := Body.v fun ds Q E hh => by
  unfold S_cuts_of at hh
  split at hh
  · rename_i hds word
    obtain ⟨size, hs, rfl, few, hw, hq⟩ := hh
    have hl : (cutsL size word hs).length ≤ 601 := by
      have := cutsL_len (size := size) (word := word) few.lots.good
      have := few.len
      omega
    refine ⟨rfl, ?_⟩
    unfold t_cuts_of
    have h0 : ∃ h r, hs = h :: r := by
      cases hs with
      | nil => exact absurd rfl few.ne
      | cons h r => exact ⟨h, r, rfl⟩
    obtain ⟨h, r, e0⟩ := h0
    have hz : h.size = size := few.lots.sz h (by rw [e0]; exact List.mem_cons_self)
    refine sSeq_k fun K hK => ?_
    simp
    refine ⟨h.d, ⟨h, by rw [e0]; rfl, rfl⟩, ?_⟩
    simp [hz]
    refine hK _ ?_
    refine sSeq_k fun K1 hK1 => ?_
    simp
    refine forD_inv (Iv_co size word hs) ⟨hs, [0], _, _, rfl, rfl, trivial, trivial, rfl⟩ ?_ (fun s hs' => hK1 s ?_)
    · rintro d r2 s _ ⟨rest, acc, x, y, er, rfl, hx, hy, he⟩
      cases rest with
      | nil => cases er
      | cons g rest =>
        rw [List.map_cons] at er
        injection er with er1 er2
        subst er1 er2
        simp [hx]
        refine forD_inv (Iv_co2 size word hs rest) ⟨g.ways, acc, _, _, rfl, rfl, trivial, hy, by rw [← he, List.flatMap_cons]⟩ ?_ ?_
        · rintro d r3 s _ ⟨us, acc, x, y, er, rfl, hx, hy, he⟩
          cases us with
          | nil => cases er
          | cons u us =>
            rw [List.map_cons] at er
            injection er with er1 er2
            subst er1 er2
            have hl2 : acc.length + 2 ≤ LIM := by
              have := congrArg List.length he
              rw [List.length_append] at this
              show _ ≤ 1000000
              omega
            simp [hx, hy, Wy.d, hl2, few.lots.pos]
            by_cases q : u.word = word
            · refine Or.inr ⟨q, us, acc ++ [u.start, (u.start + u.share) % size], x, .val u.d, rfl, by simp [Wy.d], hx, trivial, ?_⟩
              rw [← he, List.flatMap_cons]
              have e : wayCuts size word u = [u.start, (u.start + u.share) % size] := by unfold wayCuts; rw [if_pos q]
              rw [e]
              simp
            · refine Or.inl ⟨q, us, acc, x, .val u.d, rfl, rfl, hx, trivial, ?_⟩
              rw [← he, List.flatMap_cons]
              have e : wayCuts size word u = [] := by unfold wayCuts; rw [if_neg q]
              rw [e]
              simp
        · rintro s ⟨us, acc, x, y, er, rfl, hx, hy, he⟩
          have e : us = [] := by
            cases us
            · rfl
            · cases er
          subst e
          exact ⟨rest, acc, _, _, rfl, rfl, hx, hy, by rw [← he]; rfl⟩
    · obtain ⟨rest, acc, x, y, er, rfl, hx, hy, he⟩ := hs'
      have e : rest = [] := by
        cases rest
        · rfl
        · cases er
      subst e
      have e2 : acc = cutsL size word hs := by rw [← he]; simp
      subst e2
      simp
      have h64 : (srt (cutsL size word hs)).length < 64 := by
        rcases hw with e | e
        · rw [e]; exact few.c0
        · rw [e]; exact few.c1
      exact ⟨cutsL size word hs, rfl, ⟨by omega, h64⟩, hq⟩
  · exact hh.elim
theorem zip_pcs {s : Int} : ∀ c : List Int, (zipD (c.map D.int) ((c.drop 1).map D.int ++ [.int s])).filterMap (fun d => match d with | .tup [.int a, .int b] => some (D.tup [.int a, .int (b - a)]) | _ => none) = (pcs s c).map pairD
  | [] => rfl
  | [c] => rfl
  | c :: d :: r => by
    have ih := zip_pcs (s := s) (d :: r)
    show D.tup [.int c, .int (d - c)] :: _ = pairD (c, d - c) :: _
    rw [List.cons.injEq]
    exact ⟨rfl, ih⟩
theorem zip_len {xs ys : List D} : (zipD xs ys).length ≤ xs.length := by
  unfold zipD
  rw [List.length_zipWith]
  omega
theorem zip_ints {s : Int} {d : D} : ∀ {c e : List Int}, d ∈ zipD (c.map D.int) (e.map D.int) → ∃ a b, d = .tup [.int a, .int b]
  | [], _, h => by simp [zipD] at h
  | _ :: _, [], h => by simp [zipD] at h
  | a :: c, b :: e, h => by
    have h' : d ∈ D.tup [.int a, .int b] :: zipD (c.map D.int) (e.map D.int) := h
    rcases List.mem_cons.mp h' with q | q
    · exact ⟨a, b, q⟩
    · exact zip_ints (s := s) q
theorem B_pieces : Body t_pieces 5 2 F_pieces := Body.v fun ds Q E hh => by
  unfold S_pieces at hh
  split at hh
  · rename_i hds word
    obtain ⟨size, hs, rfl, few, hw, hq⟩ := hh
    refine ⟨rfl, ?_⟩
    unfold t_pieces
    have h0 : ∃ h r, hs = h :: r := by
      cases hs with
      | nil => exact absurd rfl few.ne
      | cons h r => exact ⟨h, r, rfl⟩
    obtain ⟨h, r, e0⟩ := h0
    have hz : h.size = size := few.lots.sz h (by rw [e0]; exact List.mem_cons_self)
    have h64 : (cutsOf size word hs).length < 64 := by
      rcases hw with e | e
      · rw [e]; exact few.c0
      · rw [e]; exact few.c1
    refine sSeq_k fun K hK => ?_
    simp
    refine ⟨size, hs, rfl, few, hw, hK _ ?_⟩
    simp
    refine ⟨h.d, ⟨h, by rw [e0]; rfl, rfl⟩, ?_⟩
    simp [hz]
    refine ⟨?_, _, _, ⟨rfl, rfl⟩, _, rfl, _, rfl, ?_, ?_⟩
    · show _ ≤ 1000000
      omega
    · have := zip_len (xs := (cutsOf size word hs).map D.int) (ys := ((cutsOf size word hs).map D.int).drop 1 ++ [.int size])
      rw [List.length_map] at this
      show _ ≤ 1000000
      simp at this ⊢
      omega
    · refine lcD_fm (fun d => match d with | .tup [.int a, .int b] => some (D.tup [.int a, .int (b - a)]) | _ => none) (fun d hd => ?_) ?_
      · have e : ((cutsOf size word hs).map D.int).tail ++ [D.int size] = ((cutsOf size word hs).drop 1 ++ [size]).map D.int := by simp
        rw [e] at hd
        obtain ⟨a, b, rfl⟩ := zip_ints (s := size) hd
        simp [wipeR, bakR]
      · have z := zip_pcs (s := size) (cutsOf size word hs)
        have e : ((cutsOf size word hs).map D.int).tail ++ [D.int size] = ((cutsOf size word hs).drop 1).map D.int ++ [.int size] := by simp
        rw [e, List.nil_append, z]
        exact hq
  · exact hh.elim
def Iv_ap (size : Int) (hs : List Hs) (r : List D) (s : Rho) : Prop := ∃ (rest : List Int) (acc : List (Pn × Int)) (x2 x3 x4 : Sl), r = rest.map D.int ∧ s = [.val (.lst (hs.map Hs.d)), .val (.lst (acc.map pmD)), x2, x3, x4, .no, .no] ∧ nbl [x2, x3, x4] ∧ acc ++ rest.flatMap (lotsK size hs) = allP size hs
def Iv_ap2 (size : Int) (hs : List Hs) (k : Int) (rest : List Int) (r : List D) (s : Rho) : Prop := ∃ (us : List (Int × Int)) (acc : List (Pn × Int)) (x3 x4 : Sl), r = us.map pairD ∧ s = [.val (.lst (hs.map Hs.d)), .val (.lst (acc.map pmD)), .val (.int k), x3, x4, .no, .no] ∧ nbl [x3, x4] ∧
  (∀ a ∈ us, a ∈ pcs size (cutsOf size 0 hs)) ∧ acc ++ (us.flatMap (fun a => (pcs size (cutsOf size 1 hs)).map fun b => ((⟨k, a.1, b.1⟩, a.2 * b.2) : Pn × Int)) ++ rest.flatMap (lotsK size hs)) = allP size hs
theorem lot_map {k a m : Int} : ∀ l : List (Int × Int), (l.map pairD).filterMap (fun d => match d with | .tup [.int b, .int o] => some (pmD (⟨k, a, b⟩, m * o)) | _ => none) = (l.map fun b => ((⟨k, a, b.1⟩, m * b.2) : Pn × Int)).map pmD
  | [] => rfl
  | b :: l => by
    show pmD (⟨k, a, b.1⟩, m * b.2) :: _ = pmD (⟨k, a, b.1⟩, m * b.2) :: _
    rw [List.cons.injEq]
    exact ⟨rfl, lot_map l⟩
theorem B_all_people : Body t_all_people 7 1 F_all_people := Body.v fun ds Q E hh => by
  unfold S_all_people at hh
  split at hh
  · rename_i hds
    obtain ⟨size, hs, rfl, few, hq⟩ := hh
    refine ⟨rfl, ?_⟩
    unfold t_all_people
    have hl := allP_len few
    refine sSeq_k fun K hK => ?_
    simp
    refine hK _ ?_
    refine sSeq_k fun K1 hK1 => ?_
    simp
    refine forD_inv (Iv_ap size hs) ⟨[0, 1, 2], [], _, _, _, rfl, rfl, by simp, rfl⟩ ?_ (fun s hs' => hK1 s ?_)
    · rintro d r2 s _ ⟨rest, acc, x2, x3, x4, er, rfl, hn, he⟩
      cases rest with
      | nil => cases er
      | cons k rest =>
        rw [List.map_cons] at er
        injection er with er1 er2
        subst er1 er2
        simp at hn
        simp [hn]
        refine ⟨size, hs, rfl, few, Or.inl rfl, ?_⟩
        simp
        refine forD_inv (Iv_ap2 size hs k rest) ⟨pcs size (cutsOf size 0 hs), acc, _, _, rfl, rfl, by simp [hn], fun a ha => ha, by rw [← he, List.flatMap_cons]⟩ ?_ ?_
        · rintro d r3 s _ ⟨us, acc, x3, x4, er, rfl, hn, hin, he⟩
          cases us with
          | nil => cases er
          | cons u us =>
            rw [List.map_cons] at er
            injection er with er1 er2
            subst er1 er2
            simp at hn
            simp [hn, pairD]
            refine ⟨size, hs, rfl, few, Or.inr rfl, ?_⟩
            simp
            have hc := few.c1
            refine ⟨by rw [pcs_len]; show _ ≤ 1000000; omega, ?_⟩
            refine lcD_fm (fun d => match d with | .tup [.int b, .int o] => some (pmD (⟨k, u.1, b⟩, u.2 * o)) | _ => none) (fun d hd => ?_) ?_
            · obtain ⟨b, hb, rfl⟩ := List.mem_map.mp hd
              have h1 := few.pc (hin u List.mem_cons_self)
              have h2 := few.pc hb
              have mo : MulOk u.2 b.2 := Or.inr (Or.inr ⟨big_abs (by omega) (by have := few.big; omega), big_abs (by omega) (by have := few.big; omega)⟩)
              simp [wipeR, bakR, pairD, pmD, Pn.d, mo]
            · rw [List.nil_append, lot_map]
              have e : acc ++ (((pcs size (cutsOf size 1 hs)).map fun b => ((⟨k, u.1, b.1⟩, u.2 * b.2) : Pn × Int)) ++ (us.flatMap (fun a => (pcs size (cutsOf size 1 hs)).map fun b => ((⟨k, a.1, b.1⟩, a.2 * b.2) : Pn × Int)) ++ rest.flatMap (lotsK size hs))) = allP size hs := by
                rw [← he, List.flatMap_cons, List.append_assoc]
              have hll := congrArg List.length e
              rw [List.length_append, List.length_append] at hll
              simp only [oAdd_l, gNm_z, gNm_n, List.length_map]
              refine ⟨?_, by simp, us, acc ++ ((pcs size (cutsOf size 1 hs)).map fun b => ((⟨k, u.1, b.1⟩, u.2 * b.2) : Pn × Int)), _, _, rfl, by rw [List.map_append], by simp, fun a ha => hin a (List.mem_cons_of_mem _ ha), by rw [List.append_assoc]; exact e⟩
              rw [List.length_map] at hll
              show _ ≤ 1000000
              omega
        · rintro s ⟨us, acc, x3, x4, er, rfl, hn, hin, he⟩
          have e : us = [] := by
            cases us
            · rfl
            · cases er
          subst e
          simp at hn
          exact ⟨rest, acc, _, _, _, rfl, rfl, by simp [hn], by rw [← he]; rfl⟩
    · obtain ⟨rest, acc, x2, x3, x4, er, rfl, hn, he⟩ := hs'
      have e : rest = [] := by
        cases rest
        · rfl
        · cases er
      subst e
      have e2 : acc = allP size hs := by rw [← he]; simp
      subst e2
      simp
      exact hq
  · exact hh.elim
theorem his_map {h : Hs} {ts : List Tn} : ∀ l : List (Pn × Int), (l.map pmD).filterMap (fun d => match d with | .tup [.tup [.int k, .int a, .int b], .int m] => some (hisD h ts (⟨k, a, b⟩, m)) | _ => none) = l.map (hisD h ts)
  | [] => rfl
  | p :: l => by
    show hisD h ts p :: _ = hisD h ts p :: _
    rw [List.cons.injEq]
    exact ⟨rfl, his_map l⟩
theorem B_histories : Body t_histories 5 2 F_histories := Body.v fun ds Q E hh => by
  unfold S_histories at hh
  split at hh
  · rename_i hd rd
    obtain ⟨h, ts, rfl, rfl, g, gr, hq⟩ := hh
    refine ⟨rfl, ?_⟩
    unfold t_histories
    have few := along_few g gr
    have hl := allP_len few
    have hm := g.many
    have h6 := gr.1
    refine sSeq_k fun K hK => ?_
    simp
    refine ⟨h, rfl, ts, rfl, by omega, by omega, fun t ht => (gr.2 t ht).1, hK _ ?_⟩
    simp
    refine ⟨h.size, along h ts, rfl, few, ?_⟩
    simp
    refine ⟨by show _ ≤ 1000000; omega, ?_⟩
    refine lcD_fm (fun d => match d with | .tup [.tup [.int k, .int a, .int b], .int m] => some (hisD h ts (⟨k, a, b⟩, m)) | _ => none) (fun d hd => ?_) ?_
    · obtain ⟨p, hp, rfl⟩ := List.mem_map.mp hd
      simp [wipeR, bakR, pmD, -S_history_s]
      refine ⟨h, ts, p.1, rfl, rfl, rfl, fun k hk => (few.lots.good k hk).see, by omega, ?_⟩
      rfl
    · rw [List.nil_append, his_map]
      exact hq
  · exact hh.elim
/-- the ways that are not seen -/
def unseenF (l : List Int) (d : D) : Option D := match d with
  | .int w => if l.contains w then none else some (.int w)
  | _ => none
theorem unseen_empty {l : List Int} : ∀ ws : List Int, ((ws.map D.int).filterMap (unseenF l)).isEmpty = ws.all fun w => l.contains w
  | [] => rfl
  | w :: ws => by
    have ih := unseen_empty (l := l) ws
    rw [List.map_cons, List.all_cons]
    cases q : l.contains w with
    | true =>
      have e : unseenF l (.int w) = none := by
        show (if l.contains w = true then none else some (D.int w)) = none
        rw [if_pos q]
      rw [List.filterMap_cons_none e, ih, Bool.true_and]
    | false =>
      have e : unseenF l (.int w) = some (.int w) := by
        show (if l.contains w = true then none else some (D.int w)) = some (.int w)
        rw [if_neg (by rw [q]; decide)]
      rw [List.filterMap_cons_some e]
      rfl
theorem unseen_ok {l ws : List Int} {n : Nat} : okD (n + 1) (.lst ((ws.map D.int).filterMap (unseenF l))) = true := by
  unfold okD
  rw [List.all_eq_true]
  intro d hd
  obtain ⟨x, hx, e⟩ := List.mem_filterMap.mp hd
  obtain ⟨w, _, rfl⟩ := List.mem_map.mp hx
  unfold unseenF at e
  simp only [] at e
  split at e
  · cases e
  · cases e
    exact okD_i
def Iv_se (h : Hs) (ts : List Tn) (ws : List Int) (kind : Int) (r : List D) (s : Rho) : Prop := ∃ (rest : List (Pn × Int)) (acc : Int) (x y z : Sl), r = rest.map (hisD h ts) ∧ s = [.val h.d, .val (.tup (ts.map Tn.d)), .val (.tup (ws.map .int)), .val (.int kind), .val (.int acc), x, y, z, .no] ∧ nbl [x, y, z] ∧
  acc + sumI (fun pm => pm.2 * one (seesAll h ts ws kind pm.1)) rest = seersN h ts ws kind
theorem need_kind_sub {hd rd a b kd : D} {Q : D → Prop} {E : Exc → Prop} {K : Hs → List Tn → List Int → Int → Prop} (n : Need hd rd E fun h ts => NeedW h.ways.length [a, b] E fun ws => NeedK kd E fun k => K h ts ws k)
    (k : ∀ h ts x y kk, hd = h.d → rd = .tup (ts.map Tn.d) → GoodH h → GoodR h ts → a = .int x → b = .int y → kd = .int kk → (0 ≤ kk ∧ kk ≤ 2) → K h ts [x, y] kk → Q .non) : S_need_kind [hd, rd, a, b, kd] Q E := by
  rcases n with n | ⟨h, rfl, g, n | ⟨ts, rfl, gr, hp, n | ⟨ws, e, hw, hkp, n | ⟨kk, rfl, hk, z⟩⟩⟩⟩
  · exact .inl n
  · exact .inr ⟨h, rfl, g, .inl n⟩
  · exact .inr ⟨h, rfl, g, .inr ⟨ts, rfl, gr, hp, .inl n⟩⟩
  · exact .inr ⟨h, rfl, g, .inr ⟨ts, rfl, gr, hp, .inr ⟨ws, e, hw, hkp, .inl n⟩⟩⟩
  · match ws, e with
    | [x, y], e =>
      simp at e
      obtain ⟨rfl, rfl⟩ := e
      exact .inr ⟨h, rfl, g, .inr ⟨ts, rfl, gr, hp, .inr ⟨[x, y], rfl, hw, hkp, .inr ⟨kk, rfl, hk, k h ts x y kk rfl rfl g gr rfl rfl rfl hk z⟩⟩⟩⟩
    | [], e => cases e
    | [_], e => cases e
    | _ :: _ :: _ :: _, e => cases e
def Iv_lp (size : Int) (r : List D) (s : Rho) : Prop := ∃ (rest : List Int) (acc : List Pn) (x y : Sl), r = rest.map D.int ∧ s = [.val (.int size), .val (.lst (acc.map Pn.d)), x, y, .no] ∧ nbl [x, y] ∧ acc ++ rest.flatMap (fun k => (nums size).flatMap fun a => (nums size).map fun b => (⟨k, a, b⟩ : Pn)) = persons size
def Iv_lp2 (size k : Int) (rest : List Int) (r : List D) (s : Rho) : Prop := ∃ (us : List Int) (acc : List Pn) (y : Sl), r = us.map D.int ∧ s = [.val (.int size), .val (.lst (acc.map Pn.d)), .val (.int k), y, .no] ∧ nb y ∧
  acc ++ (us.flatMap (fun a => (nums size).map fun b => (⟨k, a, b⟩ : Pn)) ++ rest.flatMap (fun k => (nums size).flatMap fun a => (nums size).map fun b => (⟨k, a, b⟩ : Pn))) = persons size
theorem B_law_people : Body t_law_people 5 1 F_law_people := Body.v fun ds Q E hh => by
  unfold S_law_people at hh
  split at hh
  · rename_i size
    obtain ⟨hz, hq⟩ := hh
    refine ⟨rfl, ?_⟩
    unfold t_law_people
    have hl := persons_lim hz
    refine sSeq_k fun K hK => ?_
    simp
    refine hK _ ?_
    refine sSeq_k fun K1 hK1 => ?_
    simp
    refine forD_inv (Iv_lp size) ⟨[0, 1, 2], [], _, _, rfl, rfl, by simp, rfl⟩ ?_ (fun s hs' => hK1 s ?_)
    · rintro d r2 s _ ⟨rest, acc, x, y, er, rfl, hn, he⟩
      cases rest with
      | nil => cases er
      | cons k rest =>
        rw [List.map_cons] at er
        injection er with er1 er2
        subst er1 er2
        simp at hn
        simp [hn]
        refine ⟨⟨by omega, by omega⟩, ?_⟩
        rw [rng_nums]
        refine forD_inv (Iv_lp2 size k rest) ⟨nums size, acc, _, rfl, rfl, by simp [hn], by rw [← he, List.flatMap_cons]⟩ ?_ ?_
        · rintro d r3 s _ ⟨us, acc, y, er, rfl, hn, he⟩
          cases us with
          | nil => cases er
          | cons u us =>
            rw [List.map_cons] at er
            injection er with er1 er2
            subst er1 er2
            simp [hn]
            refine ⟨⟨by omega, by omega⟩, by show _ ≤ ((1000000 : Nat) : Int); omega, ?_⟩
            rw [rng_nums]
            refine lcD_fm (fun d => match d with | .int b => some (Pn.d ⟨k, u, b⟩) | _ => none) (fun d hd => ?_) ?_
            · obtain ⟨b, _, rfl⟩ := List.mem_map.mp hd
              simp [wipeR, bakR, Pn.d]
            · rw [List.nil_append, fm_all (k := fun b => Pn.d ⟨k, u, b⟩)]
              rotate_left
              · exact fun p _ => rfl
              have e : acc ++ (((nums size).map fun b => (⟨k, u, b⟩ : Pn)) ++ (us.flatMap (fun a => (nums size).map fun b => (⟨k, a, b⟩ : Pn)) ++ rest.flatMap (fun k => (nums size).flatMap fun a => (nums size).map fun b => (⟨k, a, b⟩ : Pn)))) = persons size := by
                rw [← he, List.flatMap_cons, List.append_assoc]
              have hll := congrArg List.length e
              rw [List.length_append, List.length_append] at hll
              simp only [oAdd_l, gNm_z, gNm_n, List.length_map] at hll ⊢
              refine ⟨by show _ ≤ 1000000; omega, by simp, us, acc ++ ((nums size).map fun b => (⟨k, u, b⟩ : Pn)), _, rfl, by rw [List.map_append, List.map_map]; rfl, by simp, by rw [List.append_assoc]; exact e⟩
        · rintro s ⟨us, acc, y, er, rfl, hn, he⟩
          have e : us = [] := by
            cases us
            · rfl
            · cases er
          subst e
          exact ⟨rest, acc, _, _, rfl, rfl, by simp [hn], by rw [← he]; rfl⟩
    · obtain ⟨rest, acc, x, y, er, rfl, hn, he⟩ := hs'
      have e : rest = [] := by
        cases rest
        · rfl
        · cases er
      subst e
      have e2 : acc = persons size := by rw [← he]; simp
      subst e2
      simp
      exact hq
  · exact hh.elim
theorem enum_get' {ds : List D} {i : Nat} {d : D} (h : (enumD ds)[i]? = some d) : ∃ y, ds[i]? = some y ∧ d = .tup [.int (i : Nat), y] := by
  unfold enumD at h
  rw [List.getElem?_mapIdx] at h
  obtain ⟨y, hy, rfl⟩ := Option.map_eq_some_iff.mp h
  exact ⟨y, hy, by rw [Int.zero_add]⟩
theorem get_some' {α : Type} {l : List α} {i : Nat} {d : α} (h : i < l.length) : l[i]? = some (l.getD i d) := by
  rw [List.getD_eq_getElem?_getD, List.getElem?_eq_getElem h]
  rfl
def lostP (ms : List (List Int)) (w : Int) (i : Nat) : Bool := (ms.getD i []).contains w && !((ms.getD (i + 1) []).contains w)
theorem lost_head {ms : List (List Int)} {w : Int} {i : Nat} (hi : i < ms.length - 1) (h0 : ∀ j, j < i → lostP ms w j = false) (h1 : lostP ms w i = true) : (lostL ms w).head? = some i := by
  unfold lostL
  rw [List.head?_filter, List.find?_range_eq_some]
  exact ⟨h1, List.mem_range.mpr hi, fun j hj => by
    have := h0 j hj
    unfold lostP at this
    rw [this]
    rfl⟩
theorem lost_none {ms : List (List Int)} {w : Int} (h0 : ∀ j, j < ms.length - 1 → lostP ms w j = false) : lostL ms w = [] := by
  unfold lostL
  rw [List.filter_eq_nil_iff]
  intro j hj
  have z : lostP ms w j = false := h0 j (List.mem_range.mp hj)
  show ¬ lostP ms w j = true
  rw [z]
  decide
def Iv_la (ms : List (List Int)) (w : Int) (i : Nat) (s : Rho) : Prop := ∃ x, s = [.val (.lst (ms.map intsD)), .val (.int w), x] ∧ nb x ∧ ∀ j, j < i → lostP ms w j = false
theorem B_lost_at : Body t_lost_at 3 2 F_lost_at := Body.v fun ds Q E hh => by
  unfold S_lost_at at hh
  split at hh
  · rename_i mds w
    obtain ⟨ms, rfl, hl, hq⟩ := hh
    refine ⟨rfl, ?_⟩
    unfold t_lost_at
    refine sSeq_k fun K hK => ?_
    simp
    refine ⟨⟨by omega, by omega⟩, ?_⟩
    refine forD_ix (Iv_la ms w) ⟨_, rfl, trivial, fun j hj => by omega⟩ ?_ (fun s hs => hK s ?_)
    · rintro i d s hd ⟨x, rfl, hn, h0⟩
      obtain ⟨rfl, hi⟩ := rng_get' hd
      have g1 := get_some' (d := []) (show i < ms.length by omega)
      have g2 := get_some' (d := []) (show i + 1 < ms.length by omega)
      simp [hn]
      refine ⟨intsD (ms.getD i []), ⟨_, g1, rfl⟩, ?_⟩
      simp
      have key : ∀ b, lostP ms w i = b → b = (decide (w ∈ ms[i]?.getD []) && !decide (w ∈ ms[i + 1]?.getD [])) := by
        intro b hb
        rw [← hb]
        unfold lostP
        simp
      by_cases c1 : w ∈ ms[i]?.getD []
      · refine Or.inr ⟨c1, intsD (ms.getD (i + 1) []), ⟨_, g2, rfl⟩, ?_⟩
        simp
        by_cases c2 : w ∈ ms[i + 1]?.getD []
        · refine Or.inl ⟨c2, _, rfl, trivial, fun j hj => ?_⟩
          rcases Nat.lt_or_ge j i with q | q
          · exact h0 j q
          · have e : j = i := by omega
            rw [e]
            have := key _ rfl
            rw [this]
            simp [c1, c2]
        · refine Or.inr ⟨c2, ?_⟩
          have h1 : lostP ms w i = true := by
            have := key _ rfl
            rw [this]
            simp [c1, c2]
          rw [lost_head hi h0 h1] at hq
          exact hq
      · refine Or.inl ⟨c1, _, rfl, trivial, fun j hj => ?_⟩
        rcases Nat.lt_or_ge j i with q | q
        · exact h0 j q
        · have e : j = i := by omega
          rw [e]
          have := key _ rfl
          rw [this]
          simp [c1]
    · obtain ⟨x, rfl, hn, h0⟩ := hs
      simp at h0
      rw [lost_none h0] at hq
      simp
      exact hq
  · exact hh.elim
def Iv_ll (ms : List (List Int)) (w : Int) (i : Nat) (s : Rho) : Prop := ∃ x, s = [.val (.tup (ms.map intsD)), .val (.int w), .own (((List.range i).filter (lostP ms w)).map fun (i : Nat) => D.int (i : Int)), x] ∧ nb x
theorem range_filter_succ {P : Nat → Bool} {i : Nat} : (List.range (i + 1)).filter P = (List.range i).filter P ++ if P i = true then [i] else [] := by
  rw [List.range_succ, List.filter_append]
  congr 1
  cases h : P i with
  | true => rw [List.filter_cons_of_pos h]; rfl
  | false => rw [List.filter_cons_of_neg (by rw [h]; decide)]; rfl
theorem B_law_lost : Body t_law_lost 4 2 F_law_lost := Body.v fun ds Q E hh => by
  unfold S_law_lost at hh
  split at hh
  · rename_i mds w
    obtain ⟨ms, rfl, hl, hq⟩ := hh
    refine ⟨rfl, ?_⟩
    unfold t_law_lost
    refine sSeq_k fun K hK => ?_
    simp
    refine hK _ ?_
    refine sSeq_k fun K1 hK1 => ?_
    simp
    refine ⟨⟨by omega, by omega⟩, ?_⟩
    refine forD_ix (Iv_ll ms w) ⟨_, rfl, trivial⟩ ?_ (fun s hs => hK1 s ?_)
    · rintro i d s hd ⟨x, rfl, hn⟩
      obtain ⟨rfl, hi⟩ := rng_get' hd
      have g1 := get_some' (d := []) (show i < ms.length by omega)
      have g2 := get_some' (d := []) (show i + 1 < ms.length by omega)
      have fl : ((List.range i).filter (lostP ms w)).length ≤ i := by
        have := List.length_filter_le (lostP ms w) (List.range i)
        rw [List.length_range] at this
        exact this
      simp [hn]
      refine ⟨intsD (ms.getD i []), ⟨_, g1, rfl⟩, ?_⟩
      simp
      have key : lostP ms w i = (decide (w ∈ ms[i]?.getD []) && !decide (w ∈ ms[i + 1]?.getD [])) := by
        unfold lostP
        simp
      by_cases c1 : w ∈ ms[i]?.getD []
      · refine Or.inr ⟨c1, intsD (ms.getD (i + 1) []), ⟨_, g2, rfl⟩, ?_⟩
        simp
        by_cases c2 : w ∈ ms[i + 1]?.getD []
        · have e : lostP ms w i = false := by rw [key]; simp [c1, c2]
          refine Or.inl ⟨c2, _, by rw [range_filter_succ, e]; simp; rfl, by exact trivial⟩
        · have e : lostP ms w i = true := by rw [key]; simp [c1, c2]
          refine Or.inr ⟨c2, by show _ < 1000000; omega, _, by rw [range_filter_succ, e]; simp; rfl, by exact trivial⟩
      · have e : lostP ms w i = false := by rw [key]; simp [c1]
        refine Or.inl ⟨c1, _, by rw [range_filter_succ, e]; simp; rfl, by exact trivial⟩
    · obtain ⟨x, rfl, hn⟩ := hs
      simp
      exact hq
  · exact hh.elim
theorem lotsF_small : ∀ i ≤ 3, (lotsF i).length ≤ 8 ∧ ∀ l ∈ lotsF i, l.length ≤ 3 := by decide
def addF (k : Nat) (d : D) : Option D := match d with
  | .tup l => some (.tup (l ++ [.int (k : Int)]))
  | _ => none
theorem add_map {i : Nat} : ((lotsF i).map intsD) ++ ((lotsF i).map intsD).filterMap (addF i) = (lotsF (i + 1)).map intsD := by
  rw [fm_all (k := fun l => intsD (l ++ [(i : Int)]))]
  · show _ = (lotsF i ++ (lotsF i).map fun l => l ++ [(i : Int)]).map intsD
    rw [List.map_append, List.map_map]
    rfl
  · intro l _
    show some (D.tup (l.map D.int ++ [.int (i : Int)])) = some (D.tup ((l ++ [(i : Int)]).map D.int))
    rw [List.map_append]
    rfl
def szF (k : Nat) (d : D) : Option D := match d with
  | .tup l => if l.length = k then some (.tup l) else none
  | _ => none
theorem al_turn {many : Int} {found : List (List Int)} {x2 : Sl} {acc ds : List D} {k : Nat} {Q : List D → Rho → Prop} (hl : acc.length + found.length ≤ LIM)
    (h : lcD2 (gNm 3) tYesD (iSq (dVar 1)) (gNm 4) (dTst (dOp oEq (dCB fLen (aCons (dVar 4) aNil)) (dVar 3))) (dVar 4) [3, 4] [4] ds (acc ++ (found.filter fun l => l.length == k).map intsD) [.val (.int many), .val (.lst (found.map intsD)), x2, .no, .no] Q) :
    lcD2 (gNm 3) tYesD (iSq (dVar 1)) (gNm 4) (dTst (dOp oEq (dCB fLen (aCons (dVar 4) aNil)) (dVar 3))) (dVar 4) [3, 4] [4] (D.int (k : Int) :: ds) acc [.val (.int many), .val (.lst (found.map intsD)), x2, .no, .no] Q := by
  unfold lcD2
  simp [wipeR]
  refine ⟨hl, lcD_fm (szF k) (fun d hd => ?_) ?_⟩
  · obtain ⟨l, _, rfl⟩ := List.mem_map.mp hd
    simp [wipeR, bakR, intsD, szF]
    by_cases c : l.length = k
    · exact Or.inr ⟨by omega, c⟩
    · exact Or.inl ⟨by omega, c⟩
  · have e : (found.map intsD).filterMap (szF k) = (found.filter fun l => l.length == k).map intsD := by
      rw [fm_map (P := fun l => l.length == k) (k := intsD)]
      intro l _
      show (if (l.map D.int).length = k then some (D.tup (l.map D.int)) else none) = _
      rw [List.length_map]
      by_cases c : l.length = k
      · simp [c, intsD]
      · simp [c]
    rw [e]
    simp [bakR]
    exact h
def Iv_al (many : Nat) (i : Nat) (s : Rho) : Prop := ∃ x2, s = [.val (.int (many : Int)), .val (.lst ((lotsF i).map intsD)), x2, .no, .no] ∧ nb x2
theorem B_all_lots : Body t_all_lots 5 1 F_all_lots := Body.v fun ds Q E hh => by
  unfold S_all_lots at hh
  split at hh
  · rename_i mi
    obtain ⟨hm, hq⟩ := hh
    refine ⟨rfl, ?_⟩
    obtain ⟨many, rfl⟩ : ∃ m : Nat, mi = m := ⟨mi.toNat, by omega⟩
    unfold t_all_lots
    refine sSeq_k fun K hK => ?_
    simp
    refine hK _ ?_
    refine sSeq_k fun K1 hK1 => ?_
    simp
    refine ⟨by omega, ?_⟩
    refine forD_ix (Iv_al many) ⟨_, rfl, trivial⟩ ?_ (fun s hs => hK1 s ?_)
    · rintro i d s hd ⟨x, rfl, hn⟩
      obtain ⟨rfl, hi⟩ := rng_get' hd
      have sm := lotsF_small i (by omega)
      have sm2 := lotsF_small (i + 1) (by omega)
      simp [hn]
      refine ⟨by show _ ≤ 1000000; omega, lcD_fm (addF i) (fun d hd => ?_) ?_⟩
      · obtain ⟨l, hl, rfl⟩ := List.mem_map.mp hd
        have := sm.2 l hl
        simp [wipeR, bakR, intsD, addF]
        show _ ≤ 1000000
        omega
      · rw [List.nil_append]
        have hz := congrArg List.length (add_map (i := i))
        rw [List.length_append, List.length_map, List.length_map] at hz
        simp only [oAdd_l, gNm_z, gNm_n]
        rw [add_map]
        refine ⟨by show _ ≤ 1000000; omega, by simp, _, rfl, by exact trivial⟩
    · obtain ⟨x, rfl, hn⟩ := hs
      simp only [List.length_map, List.length_range]
      simp
      refine ⟨by omega, ?_⟩
      have h3 : many = 1 ∨ many = 2 ∨ many = 3 := by omega
      rcases h3 with rfl | rfl | rfl
      · have e : (List.range (1 + 1)).map (fun (i : Nat) => D.int (i : Int)) = [D.int ((0 : Nat) : Int), D.int ((1 : Nat) : Int)] := rfl
        rw [e]
        refine al_turn (by show _ ≤ 1000000; decide) (al_turn (by show _ ≤ 1000000; decide) ?_)
        exact hq
      · have e : (List.range (2 + 1)).map (fun (i : Nat) => D.int (i : Int)) = [D.int ((0 : Nat) : Int), D.int ((1 : Nat) : Int), D.int ((2 : Nat) : Int)] := rfl
        rw [e]
        refine al_turn (by show _ ≤ 1000000; decide) (al_turn (by show _ ≤ 1000000; decide) (al_turn (by show _ ≤ 1000000; decide) ?_))
        exact hq
      · have e : (List.range (3 + 1)).map (fun (i : Nat) => D.int (i : Int)) = [D.int ((0 : Nat) : Int), D.int ((1 : Nat) : Int), D.int ((2 : Nat) : Int), D.int ((3 : Nat) : Int)] := rfl
        rw [e]
        refine al_turn (by show _ ≤ 1000000; decide) (al_turn (by show _ ≤ 1000000; decide) (al_turn (by show _ ≤ 1000000; decide) (al_turn (by show _ ≤ 1000000; decide) ?_)))
        exact hq
  · exact hh.elim
def wkF (lot : List Int) (d : D) : Option D := match d with
  | .tup [.int i, .tup [a, b, c, e, f, .bl k]] => some (.tup [a, b, c, e, f, .bl (k || lot.contains i)])
  | _ => none
theorem wk_map {lot : List Int} : ∀ (ws : List Wy) (i : Nat), (enF i (ws.map Wy.d)).filterMap (wkF lot) = (ws.mapIdx fun j w => keepW lot (i + j) w).map Wy.d
  | [], i => rfl
  | w :: ws, i => by
    rw [List.map_cons, List.mapIdx_cons, List.map_cons]
    have e : wkF lot (.tup [.int (i : Int), w.d]) = some (keepW lot (i + 0) w).d := rfl
    show ((D.tup [.int (i : Int), w.d]) :: enF (i + 1) (ws.map Wy.d)).filterMap (wkF lot) = _
    rw [List.filterMap_cons_some e, wk_map ws (i + 1)]
    congr 3
    funext j w
    congr 1
    omega
theorem wk_keeps {h : Hs} {lot : List Int} : (enumD (h.ways.map Wy.d)).filterMap (wkF lot) = (keptH h lot).ways.map Wy.d := by
  rw [enumD_eq, wk_map]
  show _ = (h.ways.mapIdx (keepW lot)).map Wy.d
  congr 2
  funext j w
  rw [Nat.zero_add]
theorem enum_mem {ds : List D} {d : D} (h : d ∈ enumD ds) : ∃ (i : Nat) (y : D), y ∈ ds ∧ d = .tup [.int (i : Nat), y] := by
  obtain ⟨i, hi, e⟩ := List.mem_iff_getElem.mp h
  obtain ⟨y, hy, e2⟩ := enum_get' (i := i) (d := d) (by rw [List.getElem?_eq_getElem hi, e])
  exact ⟨i, y, List.mem_of_getElem? hy, e2⟩
theorem enum_len {ds : List D} : (enumD ds).length = ds.length := by
  unfold enumD
  simp
theorem cut65 {a b c d e f : D} : cut [a, b, c, d, e, f] none (some 5) = [a, b, c, d, e] := rfl
theorem any_comp7 {l : List Int} {k : Int} : l.any ((fun y => eqD y (D.int k)) ∘ D.int) = l.contains k := by
  rw [← any_ints, List.any_map]
theorem B_with_kept : Body t_with_kept 6 2 F_with_kept := Body.v fun ds Q E hh => by
  unfold S_with_kept at hh
  split at hh
  · rename_i hd ls
    obtain ⟨h, lot, rfl, rfl, hm, hq⟩ := hh
    refine ⟨rfl, ?_⟩
    unfold t_with_kept
    refine sSeq_k fun K hK => ?_
    simp [Hs.d]
    refine hK _ ?_
    simp
    refine ⟨by rw [enum_len, List.length_map]; show _ ≤ 1000000; omega, ?_⟩
    refine lcD_fm (wkF lot) (fun d hd => ?_) ?_
    · obtain ⟨i, y, hy, rfl⟩ := enum_mem hd
      obtain ⟨w, _, rfl⟩ := List.mem_map.mp hy
      simp [wipeR, bakR, Wy.d, cut65, any_ints, flat_ints, wkF]
      cases w.keeps <;> simp [any_comp7]
    · rw [List.nil_append, wk_keeps]
      exact hq
  · exact hh.elim
def lostF (ms : List (List Int)) (d : D) : Option D := match d with
  | .int w => if (lostL ms w).isEmpty then none else some (.int w)
  | _ => none
theorem lost_empty {ms : List (List Int)} {many : Nat} : (((List.range many).map fun (i : Nat) => D.int (i : Int)).filterMap (lostF ms)).isEmpty = noneLost many ms := by
  unfold noneLost
  induction List.range many with
  | nil => rfl
  | cons w l ih =>
    rw [List.map_cons, List.all_cons]
    cases c : (lostL ms (w : Int)).isEmpty with
    | true =>
      rw [List.filterMap_cons_none (by show (if (lostL ms (w : Int)).isEmpty = true then none else _) = none; rw [if_pos c]), ih, Bool.true_and]
    | false =>
      rw [List.filterMap_cons_some (b := .int (w : Int)) (by show (if (lostL ms (w : Int)).isEmpty = true then none else _) = _; rw [if_neg (by rw [c]; decide)])]
      rfl
theorem lostF_ok {ms : List (List Int)} {many : Nat} {n : Nat} : okD (n + 1) (.lst (((List.range many).map fun (i : Nat) => D.int (i : Int)).filterMap (lostF ms))) = true := by
  unfold okD
  rw [List.all_eq_true]
  intro d hd
  obtain ⟨x, hx, e⟩ := List.mem_filterMap.mp hd
  obtain ⟨s, _, rfl⟩ := List.mem_map.mp hx
  unfold lostF at e
  simp only [] at e
  split at e
  · cases e
  · cases e
    exact okD_i
theorem natD_non {o : Option Nat} : isNon (natD o) = o.isNone := by cases o <;> rfl
theorem head_empty {α : Type} {l : List α} : l.head?.isNone = l.isEmpty := by cases l <;> rfl
def Iv_ic (h : Hs) (ts : List Tn) (r : List D) (s : Rho) : Prop := ∃ (rest : List (Pn × Int)) (x2 x3 x4 : Sl), r = rest.map (hisD h ts) ∧ s = [.val h.d, .val (.tup (ts.map Tn.d)), x2, x3, x4, .no] ∧ nbl [x2, x3, x4] ∧ (rest.all fun p => noneLost h.ways.length (history h p.1 ts)) = calmB h ts
theorem B_is_calm : Body t_is_calm 6 2 F_is_calm := Body.v fun ds Q E hh => by
  unfold S_is_calm at hh
  split at hh
  · rename_i hd rd
    obtain ⟨h, ts, rfl, rfl, g, gr, hq⟩ := hh
    refine ⟨rfl, ?_⟩
    unfold t_is_calm
    have hm := g.many
    refine sSeq_k fun K hK => ?_
    simp
    refine ⟨h, ts, rfl, rfl, g, gr, ?_⟩
    simp
    refine forD_inv (Iv_ic h ts) ⟨allP h.size (along h ts), _, _, _, rfl, rfl, by simp, rfl⟩ ?_ (fun s hs' => hK s ?_)
    · rintro d r s _ ⟨rest, x2, x3, x4, er, rfl, hn, he⟩
      cases rest with
      | nil => cases er
      | cons p rest =>
        rw [List.map_cons] at er
        injection er with er1 er2
        subst er1 er2
        simp at hn
        have hdd : ∀ {Q' : D → Prop}, Q' (.tup (h.ways.map Wy.d)) → oIx h.d (.int 1) Q' := fun {Q'} q => ⟨_, rfl, q⟩
        simp [hn, hisD]
        refine ⟨by omega, by show _ ≤ 1000000; omega, ?_⟩
        refine lcD_fm (lostF (history h p.1 ts)) (fun d hd => ?_) ?_
        · obtain ⟨w, _, rfl⟩ := List.mem_map.mp hd
          simp [wipeR, bakR, F_lost_at]
          refine ⟨history h p.1 ts, rfl, by rw [hist_len]; have := gr.1; omega, ?_⟩
          show isNon (natD _) = true ∧ _ ∨ isNon (natD _) = false ∧ _
          rw [natD_non, head_empty]
          cases c : (lostL (history h p.1 ts) (w : Int)).isEmpty with
          | true => exact Or.inl ⟨rfl, by simp [lostF, c]⟩
          | false => exact Or.inr ⟨rfl, by simp [lostF, c]⟩
        · rw [List.nil_append]
          have e3 := lost_empty (ms := history h p.1 ts) (many := h.ways.length)
          refine ⟨lostF_ok (n := 59), ?_⟩
          rw [List.all_cons] at he
          cases q : noneLost h.ways.length (history h p.1 ts) with
          | true =>
            have c := List.isEmpty_iff.mp (e3.trans q)
            rw [q, Bool.true_and] at he
            exact Or.inl ⟨c, rest, _, _, _, rfl, rfl, by simp, he⟩
          | false =>
            rw [q, Bool.false_and] at he
            refine Or.inr ⟨fun z => ?_, ?_⟩
            · rw [z, q] at e3
              cases e3
            · rw [← he] at hq
              exact hq
    · obtain ⟨rest, x2, x3, x4, er, rfl, hn, he⟩ := hs'
      have e : rest = [] := by
        cases rest
        · rfl
        · cases er
      subst e
      have e2 : calmB h ts = true := by rw [← he]; rfl
      rw [e2] at hq
      simp
      exact hq
  · exact hh.elim
@[simp] theorem seqD_ints {l : List Int} : seqD (intsD l) = some (l.map D.int) := (rfl)
def subF (lot : List Int) (d : D) : Option D := match d with
  | .tup l => if (l.map intD).all (fun w => lot.contains w) then some (.tup l) else none
  | _ => none
theorem ints_bk {l : List Int} : (l.map D.int).map intD = l := by
  rw [List.map_map]
  exact (List.map_congr_left fun _ _ => rfl).trans (List.map_id _)
theorem subF_d {lot less : List Int} : subF lot (intsD less) = if less.all (fun w => lot.contains w) = true then some (intsD less) else none := by
  show (if ((less.map D.int).map intD).all (fun w => lot.contains w) = true then some (D.tup (less.map D.int)) else none) = _
  rw [ints_bk]
  rfl
theorem sub_empty {lot : List Int} {fnd : List (List Int)} : ((fnd.map intsD).filterMap (subF lot)).isEmpty = !(fnd.any fun less => less.all fun w => lot.contains w) := by
  induction fnd with
  | nil => rfl
  | cons l fnd ih =>
    rw [List.map_cons, List.any_cons]
    cases c : l.all (fun w => lot.contains w) with
    | true =>
      rw [List.filterMap_cons_some (by rw [subF_d, if_pos c])]
      rfl
    | false =>
      rw [List.filterMap_cons_none (by rw [subF_d, if_neg (by rw [c]; decide)]), ih, Bool.false_or]
theorem okD_intss {n : Nat} {l : List (List Int)} : okD (n + 2) (.lst (l.map intsD)) = true := by
  unfold okD
  rw [List.all_map]
  exact List.all_eq_true.mpr fun x _ => okD_intsD
theorem sub_ok {lot : List Int} {fnd : List (List Int)} {n : Nat} : okD (n + 2) (.lst ((fnd.map intsD).filterMap (subF lot))) = true := by
  unfold okD
  rw [List.all_eq_true]
  intro d hd
  obtain ⟨x, hx, e⟩ := List.mem_filterMap.mp hd
  obtain ⟨l, _, rfl⟩ := List.mem_map.mp hx
  rw [subF_d] at e
  split at e
  · cases e
    exact okD_intsD
  · cases e
/-- is less within lot? asked by a comprehension -/
theorem within {ρ : Rho} {Qb : Prop} {lot less : List Int} (h : less.all (fun w => lot.contains w) = true ↔ Qb) : ((less.map D.int).filterMap (unseenF lot) = []) ↔ Qb := by
  rw [← List.isEmpty_iff, unseen_empty]
  exact h
theorem lotsN_all : ∀ many ≤ 3, (lotsN many).length ≤ 8 ∧ ∀ l ∈ lotsN many, l.length ≤ 3 := by decide
theorem leastGo_len {c : List Int → Bool} : ∀ {r f : List (List Int)}, (leastGo c r f).length ≤ f.length + r.length
  | [], f => Nat.le_refl _
  | l :: r, f => by
    unfold leastGo
    have := leastGo_len (c := c) (r := r) (f := if (f.any fun less => less.all fun w => l.contains w) = true then f else if c l = true then f ++ [l] else f)
    refine Nat.le_trans this ?_
    simp only [List.length_cons]
    split
    · omega
    · split
      · rw [List.length_append, List.length_singleton]
        omega
      · omega
def Iv_lk (h : Hs) (ts : List Tn) (r : List D) (s : Rho) : Prop := ∃ (rest fnd : List (List Int)) (x3 : Sl), r = rest.map intsD ∧ s = [.val h.d, .val (.tup (ts.map Tn.d)), .own (fnd.map intsD), x3, .no, .no] ∧ nb x3 ∧ fnd.length + rest.length ≤ 8 ∧ (∀ l ∈ fnd, l.length ≤ 3) ∧ (∀ l ∈ rest, l.length ≤ 3) ∧ leastGo (calmK h ts) rest fnd = leastL (calmK h ts) h.ways.length
theorem B_least_keeps : Body t_least_keeps 6 2 F_least_keeps := Body.v fun ds Q E hh => by
  unfold S_least_keeps at hh
  split at hh
  · rename_i hd rd
    refine ⟨rfl, ?_⟩
    unfold t_least_keeps
    refine sSeq_k fun K hK => ?_
    simp [-S_need_row_s]
    refine need_row_ok hh fun h ts e1 e2 g gr hq => hK _ ?_
    subst e1 e2
    have hm := g.many
    have la := lotsN_all h.ways.length hm.2
    refine sSeq_k fun K1 hK1 => ?_
    simp
    refine hK1 _ ?_
    refine sSeq_k fun K2 hK2 => ?_
    have hdd : h.d = D.tup [.int h.size, .tup (h.ways.map Wy.d)] := rfl
    simp
    have many : ∀ {Q' : D → Prop}, Q' (.tup (h.ways.map Wy.d)) → oIx h.d (.int 1) Q' := fun {Q'} q => ⟨_, rfl, q⟩
    refine ⟨⟨by omega, by omega⟩, ?_⟩
    simp
    refine forD_inv (Iv_lk h ts) ⟨lotsN h.ways.length, [], _, rfl, rfl, trivial, by simp; exact la.1, by simp, la.2, rfl⟩ ?_ (fun s hs' => hK2 s ?_)
    · rintro d r s _ ⟨rest, fnd, x3, er, rfl, hn, hl, hf, hr, he⟩
      cases rest with
      | nil => cases er
      | cons lot rest =>
        rw [List.map_cons] at er
        injection er with er1 er2
        subst er1 er2
        simp at hl
        simp [hn]
        refine ⟨by show _ ≤ 1000000; omega, ?_⟩
        refine lcDH_fm (subF lot) rfl (fun d hd => ?_) ?_
        · obtain ⟨less, hls, rfl⟩ := List.mem_map.mp hd
          have h3 := hf less hls
          rw [subF_d]
          simp [wipeR, bakR]
          refine ⟨by show _ ≤ 1000000; omega, ?_⟩
          refine lcD_fm (unseenF lot) (fun d hd => ?_) ?_
          · obtain ⟨w, _, rfl⟩ := List.mem_map.mp hd
            simp [wipeR, bakR]
            by_cases c : w ∈ lot
            · exact Or.inl ⟨c, by simp [unseenF, c]⟩
            · exact Or.inr ⟨c, by simp [unseenF, c]⟩
          · rw [List.nil_append]
            refine ⟨unseen_ok, ?_⟩
            have e3 := unseen_empty (l := lot) less
            cases q : less.all (fun w => lot.contains w) with
            | true =>
              have c := List.isEmpty_iff.mp (e3.trans q)
              refine Or.inr ⟨c, ?_⟩
              simpa using q
            | false =>
              refine Or.inl ⟨fun z => ?_, ?_⟩
              · rw [z, q] at e3
                cases e3
              · simpa using q
        · rw [List.nil_append]
          have e3 := sub_empty (lot := lot) (fnd := fnd)
          refine ⟨sub_ok (n := 58), ?_⟩
          have step : leastGo (calmK h ts) (lot :: rest) fnd = leastGo (calmK h ts) rest (if (fnd.any fun less => less.all fun w => lot.contains w) = true then fnd else if calmK h ts lot = true then fnd ++ [lot] else fnd) := rfl
          rw [step] at he
          cases q : fnd.any (fun less => less.all fun w => lot.contains w) with
          | true =>
            rw [q, if_pos rfl] at he
            refine Or.inl ⟨fun z => ?_, rest, fnd, _, rfl, rfl, by exact trivial, by omega, hf, fun l hl => hr l (List.mem_cons_of_mem _ hl), he⟩
            rw [z, q] at e3
            cases e3
          | false =>
            rw [q, if_neg (by decide)] at he
            rw [q] at e3
            have c := List.isEmpty_iff.mp e3
            refine Or.inr ⟨c, ?_⟩
            simp
            refine ⟨h, lot, rfl, rfl, hm.2, ?_⟩
            refine ⟨keptH h lot, ts, rfl, rfl, kept_good g, kept_row gr, ?_⟩
            simp
            cases b : calmB (keptH h lot) ts with
            | true =>
              have b' : calmK h ts lot = true := b
              rw [b', if_pos rfl] at he
              simp
              refine ⟨by show _ < 1000000; omega, rest, fnd ++ [lot], _, rfl, by rw [List.map_append]; rfl, by exact trivial, by simp; omega, fun l hl => ?_, fun l hl => hr l (List.mem_cons_of_mem _ hl), he⟩
              rcases List.mem_append.mp hl with z | z
              · exact hf l z
              · rw [List.mem_singleton.mp z]
                exact hr lot List.mem_cons_self
            | false =>
              have b' : calmK h ts lot = false := b
              rw [b', if_neg (by decide)] at he
              simp
              exact ⟨rest, fnd, _, rfl, rfl, by exact trivial, by omega, hf, fun l hl => hr l (List.mem_cons_of_mem _ hl), he⟩
    · obtain ⟨rest, fnd, x3, er, rfl, hn, hl, hf, hr, he⟩ := hs'
      have e : rest = [] := by
        cases rest
        · rfl
        · cases er
      subst e
      have e2 : fnd = leastL (calmK h ts) h.ways.length := he
      subst e2
      simp
      exact ⟨_, rfl, lots_ne1 _ hm, hq⟩
  · exact hh.elim
def Iv_lc (h : Hs) (ts : List Tn) (lot : List Int) (r : List D) (s : Rho) : Prop := ∃ (rest : List Pn) (x4 x5 : Sl), r = rest.map Pn.d ∧ s = [.val h.d, .val (.tup (ts.map Tn.d)), .val (.tup (lot.map D.int)), .val (.tup ((keptH h lot).ways.map Wy.d)), x4, x5, .no, .no] ∧ nbl [x4, x5] ∧ (∀ p ∈ rest, p ∈ persons h.size) ∧
  (rest.all fun p => noneLost h.ways.length (history (keptH h lot) p ts)) = calmK h ts lot
theorem kept_many {h : Hs} {lot : List Int} : (keptH h lot).ways.length = h.ways.length := by simp [keptH]
def lossF (ms : List (List Int)) (d : D) : Option D := lostF ms d
theorem B_law_calm : Body t_law_calm 8 3 F_law_calm := Body.v fun ds Q E hh => by
  unfold S_law_calm at hh
  split at hh
  · rename_i hd rd ls
    obtain ⟨h, ts, lot, rfl, rfl, rfl, g, gr, hz, hq⟩ := hh
    refine ⟨rfl, ?_⟩
    unfold t_law_calm
    have hm := g.many
    have z := g.size
    have hdd : ∀ {Q' : D → Prop}, Q' (.tup (h.ways.map Wy.d)) → oIx h.d (.int 1) Q' := fun {Q'} q => ⟨_, rfl, q⟩
    have hds : ∀ {Q' : D → Prop}, Q' (.int h.size) → oIx h.d (.int 0) Q' := fun {Q'} q => ⟨_, rfl, q⟩
    refine sSeq_k fun K hK => ?_
    simp
    refine ⟨by rw [enum_len, List.length_map]; show _ ≤ 1000000; omega, ?_⟩
    refine lcD_fm (wkF lot) (fun d hd => ?_) ?_
    · obtain ⟨i, y, hy, rfl⟩ := enum_mem hd
      obtain ⟨w, _, rfl⟩ := List.mem_map.mp hy
      simp [wipeR, bakR, Wy.d, cut65, any_ints, flat_ints, wkF]
      cases w.keeps <;> simp [any_comp7]
    rw [List.nil_append, wk_keeps]
    simp
    refine hK [.val h.d, .val (.tup (ts.map Tn.d)), .val (.tup (lot.map D.int)), .val (.tup ((keptH h lot).ways.map Wy.d)), .no, .no, .no, .no] ?_
    refine sSeq_k fun K1 hK1 => ?_
    simp
    refine ⟨⟨by omega, hz⟩, ?_⟩
    simp
    have gk := kept_good (lot := lot) g
    have grk := kept_row (lot := lot) gr
    refine forD_inv (Iv_lc h ts lot) ⟨persons h.size, _, _, rfl, rfl, by simp, fun p hp => hp, ?_⟩ ?_ (fun s hs' => hK1 s ?_)
    · show _ = calmB (keptH h lot) ts
      rw [calm_same gk grk]
      unfold calmP
      rw [kept_many]
      rfl
    · rintro d r s _ ⟨rest, x4, x5, er, rfl, hn, hp, he⟩
      cases rest with
      | nil => cases er
      | cons p rest =>
        rw [List.map_cons] at er
        injection er with er1 er2
        subst er1 er2
        simp at hn
        have hpp := hp p List.mem_cons_self
        have hms := hist_len (h := keptH h lot) (ts := ts) (p := p)
        have h6 := gr.1
        simp only [gNm_n, gNm_z]
        refine ⟨by simp [hn], ?_⟩
        refine sSeq_k fun K2 hK2 => ?_
        simp [hn, -S_law_seen_s]
        show S_law_seen [(keptH h lot).d, .tup (ts.map Tn.d), p.d] _ _
        refine law_seen_ok gk grk (person_good (h := keptH h lot) gk hpp) (hK2 _ ?_)
        simp [hn]
        refine ⟨by rw [kept_many]; omega, by rw [kept_many]; show _ ≤ 1000000; omega, ?_⟩
        rw [kept_many]
        refine lcD_fm (lostF (history (keptH h lot) p ts)) (fun d hd => ?_) ?_
        · obtain ⟨w, _, rfl⟩ := List.mem_map.mp hd
          simp [wipeR, bakR, F_law_lost]
          refine ⟨history (keptH h lot) p ts, rfl, by omega, ?_⟩
          have okl : okD 60 (.lst ((lostL (history (keptH h lot) p ts) (w : Int)).map fun (i : Nat) => D.int (i : Int))) = true := by
            unfold okD
            rw [List.all_map]
            exact List.all_eq_true.mpr fun x _ => okD_i
          refine ⟨okl, ?_⟩
          rw [eqL_nil, List.isEmpty_map]
          cases c : (lostL (history (keptH h lot) p ts) (w : Int)).isEmpty with
          | true => exact Or.inl ⟨rfl, by simp [lostF, c]⟩
          | false => exact Or.inr ⟨rfl, by simp [lostF, c]⟩
        · rw [List.nil_append]
          have e3 := lost_empty (ms := history (keptH h lot) p ts) (many := h.ways.length)
          refine ⟨lostF_ok (n := 59), ?_⟩
          rw [List.all_cons] at he
          cases q : noneLost h.ways.length (history (keptH h lot) p ts) with
          | true =>
            have c := List.isEmpty_iff.mp (e3.trans q)
            rw [q, Bool.true_and] at he
            exact Or.inl ⟨c, rest, _, _, rfl, rfl, by simp, fun p hp' => hp p (List.mem_cons_of_mem _ hp'), he⟩
          | false =>
            rw [q, Bool.false_and] at he
            refine Or.inr ⟨fun z => ?_, ?_⟩
            · rw [z, q] at e3
              cases e3
            · rw [← he] at hq
              exact hq
    · obtain ⟨rest, x4, x5, er, rfl, hn, hp, he⟩ := hs'
      have e : rest = [] := by
        cases rest
        · rfl
        · cases er
      subst e
      have e2 : calmK h ts lot = true := by rw [← he]; rfl
      rw [e2] at hq
      simp
      exact hq
  · exact hh.elim
theorem B_law_keeps : Body t_law_keeps 2 2 F_law_keeps := Body.v fun ds Q E hh => by
  unfold S_law_keeps at hh
  split at hh
  · rename_i hd rd
    obtain ⟨p1, p2, h1, hq⟩ := hh
    refine ⟨rfl, ?_⟩
    unfold t_law_keeps
    simp
    exact .inl ⟨p1, p2, h1, rfl, _, bit_house, hq⟩
  · exact hh.elim
section
variable {h : Hs} {ts : List Tn} {Q : D → Prop} {E : Exc → Prop}
theorem keeps_ok (g : GoodH h) (gr : GoodR h ts) (q : ∀ ms : List (List Int), ms.Perm (leastL (calmK h ts) h.ways.length) → LexUp ms → Q (.lst (ms.map intsD))) : S_least_keeps [h.d, .tup (ts.map Tn.d)] Q E := .inr ⟨h, rfl, g, .inr ⟨ts, rfl, gr, q⟩⟩
theorem keeps_norow {rd : D} (g : GoodH h) (p : pd rd) (n : hasRow h.size h.ways.length rd = false) (e : E ⟨"InvalidRow", none⟩) : S_least_keeps [h.d, rd] Q E := .inr ⟨h, rfl, g, .inl ⟨p, n, e⟩⟩
end
def othF (lot : List Int) (d : D) : Option D := match d with
  | .tup l => if l.map intD == lot then none else some (.tup l)
  | _ => none
theorem othF_d {lot l : List Int} : othF lot (intsD l) = if (!(l == lot)) = true then some (intsD l) else none := by
  show (if ((l.map D.int).map intD == lot) = true then none else some (D.tup (l.map D.int))) = _
  rw [ints_bk]
  cases l == lot <;> rfl
theorem eqD_ints {a b : List Int} : eqD (intsD a) (intsD b) = (a == b) := by
  show eqL (a.map D.int) (b.map D.int) = (a == b)
  induction a generalizing b with
  | nil => cases b <;> simp [eqL]
  | cons x a ih =>
    cases b with
    | nil => simp [eqL]
    | cons y b =>
      rw [List.map_cons, List.map_cons]
      simp only [eqL, ih, eqD_ii]
      rfl
def calF (h : Hs) (ts : List Tn) (d : D) : Option D := match d with
  | .tup l => if calmK h ts (l.map intD) then some (.tup l) else none
  | _ => none
theorem calF_d {h : Hs} {ts : List Tn} {l : List Int} : calF h ts (intsD l) = if calmK h ts l = true then some (intsD l) else none := by
  show (if calmK h ts ((l.map D.int).map intD) = true then some (D.tup (l.map D.int)) else none) = _
  rw [ints_bk]
  rfl
/-- the least of the good ones -/
def minB (good : List (List Int)) (lot : List Int) : Bool := (good.filter fun less => !(less == lot)).all fun less => !(less.all fun w => lot.contains w)
theorem sub_none {lot : List Int} {fnd : List (List Int)} : ((fnd.map intsD).filterMap (subF lot)).isEmpty = fnd.all fun less => !(less.all fun w => lot.contains w) := by
  rw [sub_empty, List.all_eq_not_any_not]
  simp
def InvL7 (ns : List Int) (_i : Nat) (s : Rho) : Prop := ∃ x1 x2 x3 x4 x5 x6 x7 x8 x9 x10 x11 x12 : Sl, s = [.val (.scr ns), x1, x2, x3, x4, x5, x6, x7, x8, x9, x10, x11, x12, .no] ∧ nbl [x1, x2, x3, x4, x5, x6, x7, x8, x9, x10, x11, x12] ∧ x7.held = none ∧ x10.held = none
def InvT7 (ns : List Int) (k i : Nat) (s : Rho) : Prop := ∃ (m : List D) (x2 x4 x5 x6 x7 x8 x9 x10 x11 x12 : Sl), s = [.val (.scr ns), .val (.int k), x2, .own m, x4, x5, x6, x7, x8, x9, x10, x11, x12, .no] ∧ nbl [x2, x4, x5, x6, x7, x8, x9, x10, x11, x12] ∧ x7.held = none ∧ x10.held = none ∧ Vat m ∧ (0 < i → ∃ h, GoodH h ∧ x2 = .val h.d)
def InvW7 (ns : List Int) (k : Nat) (h : Hs) (ts : List Tn) (m : List D) (i : Nat) (s : Rho) : Prop := ∃ (x4 x6 x7 x8 x9 x10 x12 : Sl), s = [.val (.scr ns), .val (.int k), .val h.d, .own m, x4, .val (.tup (ts.map Tn.d)), x6, x7, x8, x9, x10, .val (.lst ((lotsF i).map intsD)), x12, .no] ∧ nbl [x4, x6, x7, x8, x9, x10, x12] ∧ x7.held = none ∧ x10.held = none
def InvG7 (ns : List Int) (k : Nat) (h : Hs) (ts : List Tn) (m : List D) (good : List (List Int)) (i : Nat) (s : Rho) : Prop := ∃ (x4 x6 x7 x10 x11 x12 : Sl), s = [.val (.scr ns), .val (.int k), .val h.d, .own m, x4, .val (.tup (ts.map Tn.d)), x6, x7, .val (.lst (good.map intsD)), .own (((good.take i).filter (minB good)).map intsD), x10, x11, x12, .no] ∧ nbl [x4, x6, x7, x10, x11, x12] ∧ x7.held = none ∧ x10.held = none
def hKp : Hs := ⟨10, [⟨0, 0, 3, none, [0, 1, 2], false⟩, ⟨0, 5, 4, none, [0], true⟩, ⟨1, 0, 5, some 0, [0, 1, 2], false⟩]⟩
def rKp : List Tn := [.share 0 5, .share 0 2, .share 1 0]
def fKp : Hs := ⟨10, [⟨0, 0, 3, none, [0, 1, 2], false⟩, ⟨1, 4, 5, none, [0, 1, 2], false⟩]⟩
theorem hKp_good : GoodH hKp := goodHB_ok (by decide +kernel)
theorem fKp_good : GoodH fKp := goodHB_ok (by decide +kernel)
theorem leasts (h : Hs) (ts : List Tn) (l : List (List Int)) (e : (leastL (calmK h ts) h.ways.length == l) = true) (hl : l.length ≤ 1) {ms : List (List Int)} (p : ms.Perm (leastL (calmK h ts) h.ways.length)) : ms = l := by
  rw [beq_iff_eq.mp e] at p
  match l, hl with
  | [], _ => exact p.eq_nil
  | [x], _ => exact List.perm_singleton.mp p
theorem B_law : Body t_law 14 1 F_law := Body.v fun ds Q E hh => by
  unfold S_law at hh
  split at hh
  · obtain ⟨hl, hq⟩ := hh
    refine ⟨rfl, ?_⟩
    unfold t_law
    rename_i ns
    refine sSeq_k fun K hK => ?_
    simp
    refine ⟨⟨by omega, by omega⟩, ?_⟩
    refine forD_ix (InvL7 ns) ?_ ?_ (fun s hs => hK s ?_)
    · exact ⟨_, _, _, _, _, _, _, _, _, _, _, _, rfl, by simp, rfl, rfl⟩
    · rintro i d s hd ⟨x1, x2, x3, x4, x5, x6, x7, x8, x9, x10, x11, x12, rfl, hn, h7, h10⟩
      obtain ⟨rfl, hi⟩ := rng_get' hd
      simp at hn
      have hi2 : i < 10 := by revert hi; split <;> split <;> omega
      refine ⟨by simp [hn], ?_⟩
      refine sSeq_k fun K1 hK1 => ?_
      simp [hn]
      refine ⟨by omega, fun m hv => hK1 _ ?_⟩
      refine sSeq_k fun K2 hK2 => ?_
      simp
      refine forD_ix (InvT7 ns i) ?_ ?_ (fun s hs => hK2 s ?_)
      · exact ⟨_, _, _, _, _, _, _, _, _, _, _, rfl, by simp [hn], h7, h10, hv, by simp⟩
      · rintro j d s hd ⟨m, x2, x4, x5, x6, x7, x8, x9, x10, x11, x12, rfl, hn, h7, h10, hv, hi⟩
        obtain ⟨rfl, hj⟩ := rng_get' hd
        simp at hn
        refine ⟨by simp [hn], ?_⟩
        refine sSeq_k fun K3 hK3 => ?_
        simp [hn]
        refine ⟨hv, fun h gh hz m1 v1 => hK3 _ ?_⟩
        have z1 := gh.size
        have z2 := gh.many
        refine sSeq_k fun K4 hK4 => ?_
        simp [hn]
        refine ⟨h, rfl, gh, by omega, v1, fun ts hts gts m2 v2 => hK4 _ ?_⟩
        have gr : GoodR h ts := ⟨by omega, gts⟩
        refine sSeq_k fun K5 hK5 => ?_
        simp
        refine ⟨by omega, ?_⟩
        refine forD_ix (InvW7 ns i h ts m2) ⟨_, _, _, _, _, _, _, rfl, by simp [hn], h7, h10⟩ ?_ (fun s hs => hK5 s ?_)
        · rintro c d s hd ⟨x4, x6, x7, x8, x9, x10, x12, rfl, hn, h7, h10⟩
          obtain ⟨rfl, hc⟩ := rng_get' hd
          have sm := lotsF_small c (by omega)
          have sm2 := lotsF_small (c + 1) (by omega)
          simp at hn
          simp only [gNm_n, gNm_z]
          refine ⟨by simp [hn], ?_⟩
          simp [h10]
          refine ⟨by show _ ≤ 1000000; omega, lcD_fm (addF c) (fun d hd => ?_) ?_⟩
          · obtain ⟨l, hl, rfl⟩ := List.mem_map.mp hd
            have := sm.2 l hl
            simp [wipeR, bakR, intsD, addF]
            show _ ≤ 1000000
            omega
          · rw [List.nil_append]
            have hz := congrArg List.length (add_map (i := c))
            rw [List.length_append, List.length_map, List.length_map] at hz
            simp only [oAdd_l, gNm_z, gNm_n]
            rw [add_map]
            refine ⟨by show _ ≤ 1000000; omega, by simp, _, _, _, _, _, _, _, rfl, by simp [hn], rfl, h10⟩
        · obtain ⟨x4, x6, x7, x8, x9, x10, x12, rfl, hn, h7, h10⟩ := hs
          simp only [List.length_map, List.length_range]
          have sm := lotsF_small h.ways.length z2.2
          simp at hn
          refine sSeq_k fun K6 hK6 => ?_
          simp [hn, h10]
          refine ⟨by show _ ≤ 1000000; omega, lcD_fm (calF h ts) (fun d hd => ?_) ?_⟩
          · obtain ⟨l, hl, rfl⟩ := List.mem_map.mp hd
            rw [calF_d]
            simp [wipeR, bakR]
            refine ⟨h, ts, l, rfl, rfl, rfl, gh, gr, by omega, ?_⟩
            cases calmK h ts l <;> simp
          rw [List.nil_append, fm_map (P := calmK h ts) (k := intsD) fun l _ => calF_d]
          have gl := List.length_filter_le (calmK h ts) (lotsF h.ways.length)
          have g3 : ∀ l ∈ (lotsF h.ways.length).filter (calmK h ts), l.length ≤ 3 := fun l hl => sm.2 l (List.mem_filter.mp hl).1
          have ed : dueL (calmK h ts) h.ways.length = ((lotsF h.ways.length).filter (calmK h ts)).filter (minB ((lotsF h.ways.length).filter (calmK h ts))) := rfl
          generalize (lotsF h.ways.length).filter (calmK h ts) = good at gl g3 ed
          simp only [gNm_n, gNm_z]
          refine ⟨by simp [hn], hK6 _ ?_⟩
          refine sSeq_k fun K7 hK7 => ?_
          simp [hn]
          refine hK7 _ ?_
          refine sSeq_k fun K8 hK8 => ?_
          simp
          refine forD_ix (InvG7 ns i h ts m2 good) ⟨_, _, _, _, _, _, rfl, by simp [hn], h7, h10⟩ ?_ (fun s hs => hK8 s ?_)
          · rintro c d s hd ⟨x4, x6, x7, x10, x11, x12, rfl, hn, h7, h10⟩
            rw [List.getElem?_map] at hd
            obtain ⟨lot, hlot, rfl⟩ := Option.map_eq_some_iff.mp hd
            have et : good.take (c + 1) = good.take c ++ [lot] := by rw [List.take_add_one, hlot]; rfl
            have tl : ((good.take c).filter (minB good)).length ≤ good.length := by
              refine Nat.le_trans (List.length_filter_le _ _) ?_
              rw [List.length_take]
              omega
            simp at hn
            simp only [gNm_n, gNm_z]
            refine ⟨by simp [hn], ?_⟩
            refine sSeq_k fun K9 hK9 => ?_
            simp [hn]
            refine ⟨by show _ ≤ 1000000; omega, lcD_fm (othF lot) (fun d hd => ?_) ?_⟩
            · obtain ⟨l, hl, rfl⟩ := List.mem_map.mp hd
              rw [othF_d]
              have o1 : okD 60 (intsD l) = true := okD_intsD (n := 59)
              have o2 : okD 60 (intsD lot) = true := okD_intsD (n := 59)
              simp [wipeR, bakR, o1, o2, eqD_ints]
              exact Classical.em _
            rw [List.nil_append, fm_map (P := fun l => !(l == lot)) (k := intsD) fun l _ => othF_d]
            have ol := List.length_filter_le (fun l => !(l == lot)) good
            have o3 : ∀ l ∈ good.filter (fun l => !(l == lot)), l.length ≤ 3 := fun l hl => g3 l (List.mem_filter.mp hl).1
            have em : minB good lot = (good.filter fun l => !(l == lot)).all fun less => !(less.all fun w => lot.contains w) := rfl
            generalize good.filter (fun l => !(l == lot)) = oth at ol o3 em
            simp only [gNm_n, gNm_z]
            refine ⟨by simp [hn], hK9 _ ?_⟩
            simp [hn]
            refine ⟨by show _ ≤ 1000000; omega, lcD_fm (subF lot) (fun d hd => ?_) ?_⟩
            · obtain ⟨less, hls, rfl⟩ := List.mem_map.mp hd
              have h3 := o3 less hls
              rw [subF_d]
              simp [wipeR, bakR, h7]
              refine ⟨by show _ ≤ 1000000; omega, ?_⟩
              refine lcD_fm (unseenF lot) (fun d hd => ?_) ?_
              · obtain ⟨w, _, rfl⟩ := List.mem_map.mp hd
                simp [wipeR, bakR]
                by_cases c : w ∈ lot
                · exact Or.inl ⟨c, by simp [unseenF, c]⟩
                · exact Or.inr ⟨c, by simp [unseenF, c]⟩
              · rw [List.nil_append]
                refine ⟨unseen_ok, ?_⟩
                have e3 := unseen_empty (l := lot) less
                cases q : less.all (fun w => lot.contains w) with
                | true =>
                  have c := List.isEmpty_iff.mp (e3.trans q)
                  refine Or.inr ⟨c, ?_⟩
                  simpa using q
                | false =>
                  refine Or.inl ⟨fun z => ?_, ?_⟩
                  · rw [z, q] at e3
                    cases e3
                  · simpa using q
            · rw [List.nil_append]
              have e3 := sub_none (lot := lot) (fnd := oth)
              rw [← em] at e3
              refine ⟨sub_ok (n := 58), ?_⟩
              cases q : minB good lot with
              | true =>
                have c := List.isEmpty_iff.mp (e3.trans q)
                refine Or.inr ⟨c, ?_⟩
                simp
                refine ⟨by show _ < 1000000; omega, _, _, _, _, _, _, by rw [et, List.filter_append, List.filter_cons_of_pos q, List.map_append]; rfl, by simp [hn], h7, rfl⟩
              | false =>
                refine Or.inl ⟨fun z => ?_, _, _, _, _, _, _, by rw [et, List.filter_append, List.filter_cons_of_neg (by rw [q]; decide), List.filter_nil, List.append_nil], by simp [hn], h7, rfl⟩
                rw [z, q] at e3
                cases e3
          · obtain ⟨x4, x6, x7, x10, x11, x12, rfl, hn, h7, h10⟩ := hs
            simp only [List.length_map, List.take_length]
            rw [← ed]
            simp at hn
            simp
            refine keeps_ok gh gr fun ms p1 u1 => ?_
            refine ⟨_, rfl, lots_ne2 _ z2, fun ms2 p2 u2 => ?_⟩
            have e : ms2 = ms := lex_uniq (p2.trans ((lots_perm _ z2).symm.trans p1.symm)) u2 u1
            subst e
            have ok : okD 60 (.lst (ms2.map intsD)) = true := okD_intss (n := 58)
            simp [ok, eqD_same ok]
            exact ⟨m2, _, _, _, _, _, _, _, _, _, _, rfl, by simp [hn], h7, h10, v2, fun _ => ⟨h, gh, rfl⟩⟩
      · obtain ⟨m, x2, x4, x5, x6, x7, x8, x9, x10, x11, x12, rfl, hn, h7, h10, hv, hi⟩ := hs
        obtain ⟨h, gh, rfl⟩ := hi (by simp)
        simp at hn
        simp [F_law_keeps]
        refine keeps_norow gh rfl rfl ⟨rfl, _, bit_row, ?_⟩
        refine ⟨rfl, rfl, rfl, ?_⟩
        have ok : okD 60 (D.lst [.str "row value", .str "house value"]) = true := by decide +kernel
        exact ⟨⟨ok, ok⟩, Or.inl ⟨eqD_same ok, _, _, _, _, _, _, _, _, _, _, _, _, rfl, by simp [hn], h7, h10⟩⟩
    · obtain ⟨x1, x2, x3, x4, x5, x6, x7, x8, x9, x10, x11, x12, rfl, hn, h7, h10⟩ := hs
      simp at hn
      refine sSeq_k fun K1 hK1 => ?_
      simp [hn]
      refine hK1 [.val (.scr ns), x1, .val hKp.d, x3, x4, x5, x6, x7, x8, x9, x10, x11, x12, .no] ?_
      refine sSeq_k fun K2 hK2 => ?_
      simp [hn]
      refine hK2 [.val (.scr ns), x1, .val hKp.d, x3, x4, .val (.tup (rKp.map Tn.d)), .val fKp.d, x7, x8, x9, x10, x11, x12, .no] ?_
      refine sSeq_k fun K3 hK3 => ?_
      simp
      refine keeps_ok hKp_good (goodRB_ok (by decide +kernel)) fun ms1 p1 _ => ?_
      refine keeps_ok (ts := []) hKp_good (goodRB_ok (by decide +kernel)) fun ms2 p2 _ => ?_
      have e3 : D.tup (List.map Tn.d rKp ++ [D.tup [D.str (Str.ofString "back"), D.int 1]]) = D.tup ((rKp ++ [Tn.back 1]).map Tn.d) := rfl
      rw [e3]
      refine ⟨by show _ ≤ 1000000; decide, keeps_ok hKp_good (goodRB_ok (by decide +kernel)) fun ms3 p3 _ => ?_⟩
      obtain rfl := leasts hKp rKp [[0]] (by decide +kernel) (by decide) p1
      obtain rfl := leasts hKp [] [[]] (by decide +kernel) (by decide) p2
      obtain rfl := leasts hKp (rKp ++ [Tn.back 1]) [] (by decide +kernel) (by decide) p3
      refine ⟨⟨by decide +kernel, by decide +kernel⟩, Or.inl ⟨by decide +kernel, hK3 _ ?_⟩⟩
      refine sSeq_k fun K4 hK4 => ?_
      simp
      refine keeps_ok (ts := [.start 0 1, .share 1 0]) fKp_good (goodRB_ok (by decide +kernel)) fun ms4 p4 _ => ?_
      obtain rfl := leasts fKp [.start 0 1, .share 1 0] [[0, 1]] (by decide +kernel) (by decide) p4
      refine ⟨⟨by decide +kernel, by decide +kernel⟩, Or.inl ⟨by decide +kernel, hK4 _ ?_⟩⟩
      simp
      refine keeps_ok (ts := [.keeps 0 true, .share 0 0]) fKp_good (goodRB_ok (by decide +kernel)) fun ms5 p5 _ => ?_
      obtain rfl := leasts fKp [.keeps 0 true, .share 0 0] [[]] (by decide +kernel) (by decide) p5
      refine ⟨⟨by decide +kernel, by decide +kernel⟩, ?_⟩
      refine Or.inr ⟨by decide +kernel, keeps_ok (ts := [.share 0 0, .keeps 0 false]) fKp_good (goodRB_ok (by decide +kernel)) fun ms6 p6 _ => ?_⟩
      obtain rfl := leasts fKp [.share 0 0, .keeps 0 false] [] (by decide +kernel) (by decide) p6
      exact ⟨by decide +kernel, giveT (by decide +kernel) hq⟩
  · exact hh.elim
end TS
set_option Elab.async false
set_option linter.all false
set_option maxRecDepth 100000
set_option maxHeartbeats 4000000
set_option exponentiation.threshold 10000
set_option synthInstance.maxSize 100000
set_option synthInstance.maxHeartbeats 0
namespace TS
open PySem PySem.Spec PyProof.Rows L2 LamX
def top (i : Nat) : Stmt := PySem.Challenge.pw_turnedshares_k07_whole_ways_that_must_be.main.body.getD i (.Pass ⟨0, 0, 0, 0⟩)
structure Gs (Z : Zx) (aPL aKW : Addr) : Prop where
  abs_ : Z.mg "abs" = none
  bool_ : Z.mg "bool" = none
  enumerate_ : Z.mg "enumerate" = none
  int_ : Z.mg "int" = none
  isinstance_ : Z.mg "isinstance" = none
  len_ : Z.mg "len" = none
  list_ : Z.mg "list" = none
  max_ : Z.mg "max" = none
  min_ : Z.mg "min" = none
  range_ : Z.mg "range" = none
  set_ : Z.mg "set" = none
  sorted_ : Z.mg "sorted" = none
  str_ : Z.mg "str" = none
  tuple_ : Z.mg "tuple" = none
  zip_ : Z.mg "zip" = none
  MOST_SIZE : ∃ t, Z.mg "MOST_SIZE" = some (.int (10 ^ 30) t)
  PLACES : Z.mg "PLACES" = some (.ref aPL) ∧ ∀ H, Rp Z H (.tup [.str "word", .str "start", .str "share", .str "fence", .str "kinds", .str "keeps"]) (.ref aPL)
  PLACES_ : Z.mg "PLACES" = some (.ref aPL) ∧ (∃ o, Z.K.lookup aPL = some o ∧ o.cls = .type "tuple" ∧ o.dict = none) ∧ ∀ H, SqT Z.K H aPL ((["word", "start", "share", "fence", "kinds", "keeps"] : List Str).map V.str)
  ShareError : ExcF Z "ShareError"
  InvalidHouse : ExcF Z "InvalidHouse"
  InvalidPerson : ExcF Z "InvalidPerson"
  InvalidRow : ExcF Z "InvalidRow"
  InvalidTurning : ExcF Z "InvalidTurning"
  InvalidWay : ExcF Z "InvalidWay"
  InvalidWays : ExcF Z "InvalidWays"
  InvalidWeights : ExcF Z "InvalidWeights"
  InvalidKind : ExcF Z "InvalidKind"
  InvalidSightings : ExcF Z "InvalidSightings"
  InvalidAsks : ExcF Z "InvalidAsks"
  InvalidMenu : ExcF Z "InvalidMenu"
  InvalidSpread : ExcF Z "InvalidSpread"
  InvalidNumber : ExcF Z "InvalidNumber"
  NothingToUndo : ExcF Z "NothingToUndo"
section
variable {P : Program} {w : World} {base : Heap} {Z : Zx} [GoodJ Z] {aPL aKW : Addr}
theorem Sc_is_whole : FnScope N_is_whole ["value", "low", "high"] (defScope (top 21)) := ⟨rfl, rfl, rfl, by decide +kernel, rfl, by decide +kernel, by decide +kernel⟩
theorem W_is_whole (g : Gs Z aPL aKW) {f : Addr} (cdv : Value) (A : Around) (o : List Env) (s : Shared) (H : Hp) (E : XK) (hr : Room 0 (A.deeper (envOfC "is_whole" (defScope (top 21)) s.heap.objs.size f cdv))) :
    PSs (CxD P w base Z N_is_whole "is_whole" (defScope (top 21)) f cdv A o s H E) (defBody (top 21)) (upS Z (WD E) t_is_whole) := by
  have S := Sc_is_whole
  exact (dss_one (ds_ret (de_and (de_callB cb_isi call_isi g.isinstance_ boot_isinstance (da_cons (de_var) (da_cons (de_tyN g.int_ boot_int) da_nil))) (de_and (de_not (de_callB
    cb_isi call_isi g.isinstance_ boot_isinstance (da_cons (de_var) (da_cons (de_tyN g.bool_ boot_bool) da_nil)))) (de_one (de_chain ok_le ok_le op_le op_le (de_var)
    (de_var) (de_var)))))))
theorem Sc_is_rising : FnScope N_is_rising ["value", "most"] (defScope (top 22)) := ⟨rfl, rfl, rfl, by decide +kernel, rfl, by decide +kernel, by decide +kernel⟩
theorem W_is_rising (g : Gs Z aPL aKW) (d_is_whole : Df P w base Z 1 "is_whole" 3 F_is_whole) {f : Addr} (cdv : Value) (A : Around) (o : List Env) (s : Shared) (H : Hp) (E : XK) (hr : Room 1 (A.deeper (envOfC "is_rising" (defScope (top 22)) s.heap.objs.size f cdv))) :
    PSs (CxD P w base Z N_is_rising "is_rising" (defScope (top 22)) f cdv A o s H E) (defBody (top 22)) (upS Z (WD E) t_is_rising) := by
  have S := Sc_is_rising
  exact (dss_cons (ds_if ((dw_or (dt_not (dt_val (de_callB cb_isi call_isi g.isinstance_ boot_isinstance (da_cons (de_var) (da_cons (de_tyN g.tuple_ boot_tuple) da_nil)))))
    (dw_or1 (dt_cmp ok_ne (op_neD (hu64 hr)) (de_ofN (de_lcN (own := [("part", 3)]) rfl S.nd (blkOk_by (N := N_is_rising) (sc := defScope (top 22)) (by decide +kernel))
    (di_seq (de_var)) (fun _ _ _ _ _ => (dg_name S.nd)) (fun _ _ _ _ _ => (dts_one (dt_not (dt_val (de_call d_is_whole takes0X (hr.mono (by decide)) (da_cons (de_var)
    (da_cons (de_int) (da_cons (de_var) da_nil)))))))) (fun _ _ _ _ _ => (de_var)))) (de_ofN (de_lstN da_nil)) (nomark _)))).pt) (dss_one (ds_ret (de_bl))) dss_nil)
    (dss_one (ds_ret (de_cmp ok_eq (op_eqD (hu64 hr)) (de_ofN (de_lcN (own := [("at", 2)]) rfl S.nd (blkOk_by (N := N_is_rising) (sc := defScope (top 22)) (by
    decide +kernel)) (di_range1 g.range_ (da_cons (de_op ok_sub op_sub (de_callB cb_len call_len g.len_ boot_len (da_cons (de_var) da_nil)) (de_int)) da_nil)) (fun _ _ _ _
    _ => (dg_name S.nd)) (fun _ _ _ _ _ => (dts_one (dt_cmp ok_ge op_ge (de_ix ok_ix ix_seq (de_var) (de_var) (fun _ _ => rfl)) (de_ix ok_ix ix_seq (de_var) (de_op ok_add
    or_addAll (de_var) (de_int)) (fun _ _ => rfl)) (nomark _)))) (fun _ _ _ _ _ => (de_var)))) (de_ofN (de_lstN da_nil)) (nomark _)))))
theorem Sc_is_part : FnScope N_is_part ["size", "number", "place", "value"] (defScope (top 23)) := ⟨rfl, rfl, rfl, by decide +kernel, rfl, by decide +kernel, by decide +kernel⟩
theorem W_is_part (g : Gs Z aPL aKW) (d_is_whole : Df P w base Z 1 "is_whole" 3 F_is_whole) (d_is_rising : Df P w base Z 2 "is_rising" 2 F_is_rising) {f : Addr} (cdv : Value) (A : Around) (o : List Env) (s : Shared) (H : Hp) (E : XK) (hr : Room 2 (A.deeper (envOfC "is_part" (defScope (top 23)) s.heap.objs.size f cdv))) :
    PSs (CxD P w base Z N_is_part "is_part" (defScope (top 23)) f cdv A o s H E) (defBody (top 23)) (upS Z (WD E) t_is_part) := by
  have S := Sc_is_part
  exact (dss_cons (ds_if (dt_cmp ok_eq (op_eqD (hu64 hr)) (de_var) (de_int) (nomark _)) (dss_one (ds_ret (de_call d_is_whole (L2N.takes_of rfl rfl rfl rfl) (hr.mono (by decide))
    (da_cons (de_var) (da_cons (de_int) (da_cons (de_int) da_nil)))))) dss_nil) (dss_cons (ds_if (dt_cmp ok_eq (op_eqD (hu64 hr)) (de_var) (de_int) (nomark _)) (dss_one
    (ds_ret (de_call d_is_whole (L2N.takes_of rfl rfl rfl rfl) (hr.mono (by decide)) (da_cons (de_var) (da_cons (de_int) (da_cons (de_op ok_sub op_sub (de_var) (de_int))
    da_nil)))))) dss_nil) (dss_cons (ds_if (dt_cmp ok_eq (op_eqD (hu64 hr)) (de_var) (de_int) (nomark _)) (dss_one (ds_ret (de_call d_is_whole (L2N.takes_of rfl rfl rfl
    rfl) (hr.mono (by decide)) (da_cons (de_var) (da_cons (de_int) (da_cons (de_var) da_nil)))))) dss_nil) (dss_cons (ds_if (dt_cmp ok_eq (op_eqD (hu64 hr)) (de_var)
    (de_int) (nomark _)) (dss_one (ds_ret (de_or (de_cmp ok_isN op_isN (de_var) (de_non) (nomark _)) (de_one (de_call d_is_whole (L2N.takes_of rfl rfl rfl rfl) (hr.mono
    (by decide)) (da_cons (de_var) (da_cons (de_int) (da_cons (de_op ok_sub op_sub (de_var) (de_int)) da_nil)))))))) dss_nil) (dss_cons (ds_if (dt_cmp ok_eq (op_eqD (hu64
    hr)) (de_var) (de_int) (nomark _)) (dss_one (ds_ret (de_and (de_call d_is_rising (L2N.takes_of rfl rfl rfl rfl) (hr.mono (by decide)) (da_cons (de_var) (da_cons
    (de_int) da_nil))) (de_one (de_cmp ok_ne (op_neD (hu64 hr)) (de_var) (de_tup da_nil) (nomark _)))))) dss_nil) (dss_one (ds_ret (de_callB cb_isi call_isi g.isinstance_
    boot_isinstance (da_cons (de_var) (da_cons (de_tyN g.bool_ boot_bool) da_nil))))))))))
theorem Sc_is_way : FnScope N_is_way ["size", "number", "value"] (defScope (top 24)) := ⟨rfl, rfl, rfl, by decide +kernel, rfl, by decide +kernel, by decide +kernel⟩
theorem W_is_way (g : Gs Z aPL aKW) (d_is_part : Df P w base Z 3 "is_part" 4 F_is_part) {f : Addr} (cdv : Value) (A : Around) (o : List Env) (s : Shared) (H : Hp) (E : XK) (hr : Room 3 (A.deeper (envOfC "is_way" (defScope (top 24)) s.heap.objs.size f cdv))) :
    PSs (CxD P w base Z N_is_way "is_way" (defScope (top 24)) f cdv A o s H E) (defBody (top 24)) (upS Z (WD E) t_is_way) := by
  have S := Sc_is_way
  exact (dss_cons (ds_if ((dw_or (dt_not (dt_val (de_callB cb_isi call_isi g.isinstance_ boot_isinstance (da_cons (de_var) (da_cons (de_tyN g.tuple_ boot_tuple) da_nil)))))
    (dw_or1 (dt_cmp ok_ne (op_neD (hu64 hr)) (de_callB cb_len call_len g.len_ boot_len (da_cons (de_var) da_nil)) (de_int) (nomark _)))).pt) (dss_one (ds_ret (de_bl)))
    dss_nil) (dss_one (ds_ret (de_cmp ok_eq (op_eqD (hu64 hr)) (de_ofN (de_lcN (own := [("place", 3)]) rfl S.nd (blkOk_by (N := N_is_way) (sc := defScope (top 24)) (by
    decide +kernel)) (di_range1 g.range_ (da_cons (de_int) da_nil)) (fun _ _ _ _ _ => (dg_name S.nd)) (fun _ _ _ _ _ => (dts_one (dt_not (dt_val (de_call d_is_part takes0X
    (hr.mono (by decide)) (da_cons (de_var) (da_cons (de_var) (da_cons (de_var) (da_cons (de_ix ok_ix ix_seq (de_var) (de_var) (fun _ _ => rfl)) da_nil))))))))) (fun _ _ _
    _ _ => (de_var)))) (de_ofN (de_lstN da_nil)) (nomark _)))))
theorem Sc_has_house : FnScope N_has_house ["value"] (defScope (top 25)) := ⟨rfl, rfl, rfl, by decide +kernel, rfl, by decide +kernel, by decide +kernel⟩
theorem W_has_house (g : Gs Z aPL aKW) (d_is_whole : Df P w base Z 1 "is_whole" 3 F_is_whole) (d_is_way : Df P w base Z 4 "is_way" 3 F_is_way) {f : Addr} (cdv : Value) (A : Around) (o : List Env) (s : Shared) (H : Hp) (E : XK) (hr : Room 4 (A.deeper (envOfC "has_house" (defScope (top 25)) s.heap.objs.size f cdv))) :
    PSs (CxD P w base Z N_has_house "has_house" (defScope (top 25)) f cdv A o s H E) (defBody (top 25)) (upS Z (WD E) t_has_house) := by
  have S := Sc_has_house
  exact (dss_cons (ds_if ((dw_or (dt_not (dt_val (de_callB cb_isi call_isi g.isinstance_ boot_isinstance (da_cons (de_var) (da_cons (de_tyN g.tuple_ boot_tuple) da_nil))))) (dw_or
    (dt_cmp ok_ne (op_neD (hu64 hr)) (de_callB cb_len call_len g.len_ boot_len (da_cons (de_var) da_nil)) (de_int) (nomark _)) (dw_or1 (dt_not (dt_val (de_call d_is_whole
    (L2N.takes_of rfl rfl rfl rfl) (hr.mono (by decide)) (da_cons (de_ix ok_ix ix_seq (de_var) (de_int) (fun _ _ => rfl)) (da_cons (de_int) (da_cons (de_gint g.MOST_SIZE)
    da_nil))))))))).pt) (dss_one (ds_ret (de_bl))) dss_nil) (dss_cons (ds_if ((dw_or (dt_not (dt_val (de_callB cb_isi call_isi g.isinstance_ boot_isinstance (da_cons
    (de_ix ok_ix ix_seq (de_var) (de_int) (fun _ _ => rfl)) (da_cons (de_tyN g.tuple_ boot_tuple) da_nil))))) (dw_or1 (dt_not (dt_chain ok_le ok_le op_le op_le (de_int)
    (de_callB cb_len call_len g.len_ boot_len (da_cons (de_ix ok_ix ix_seq (de_var) (de_int) (fun _ _ => rfl)) da_nil)) (de_int))))).pt) (dss_one (ds_ret (de_bl)))
    dss_nil) (dss_one (ds_ret (de_cmp ok_eq (op_eqD (hu64 hr)) (de_ofN (de_lcN (own := [("number", 1)]) rfl S.nd (blkOk_by (N := N_has_house) (sc := defScope (top 25)) (by
    decide +kernel)) (di_range1 g.range_ (da_cons (de_callB cb_len call_len g.len_ boot_len (da_cons (de_ix ok_ix ix_seq (de_var) (de_int) (fun _ _ => rfl)) da_nil))
    da_nil)) (fun _ _ _ _ _ => (dg_name S.nd)) (fun _ _ _ _ _ => (dts_one (dt_not (dt_val (de_call d_is_way takes0X (hr.mono (by decide)) (da_cons (de_ix ok_ix ix_seq
    (de_var) (de_int) (fun _ _ => rfl)) (da_cons (de_var) (da_cons (de_ix ok_ix ix_seq (de_ix ok_ix ix_seq (de_var) (de_int) (fun _ _ => rfl)) (de_var) (fun _ _ => rfl))
    da_nil)))))))) (fun _ _ _ _ _ => (de_var)))) (de_ofN (de_lstN da_nil)) (nomark _))))))
theorem Sc_is_turning : FnScope N_is_turning ["house", "value"] (defScope (top 26)) := ⟨rfl, rfl, rfl, by decide +kernel, rfl, by decide +kernel, by decide +kernel⟩
theorem W_is_turning (g : Gs Z aPL aKW) (d_is_whole : Df P w base Z 1 "is_whole" 3 F_is_whole) (d_is_part : Df P w base Z 3 "is_part" 4 F_is_part) {f : Addr} (cdv : Value) (A : Around) (o : List Env) (s : Shared) (H : Hp) (E : XK) (hr : Room 3 (A.deeper (envOfC "is_turning" (defScope (top 26)) s.heap.objs.size f cdv))) :
    PSs (CxD P w base Z N_is_turning "is_turning" (defScope (top 26)) f cdv A o s H E) (defBody (top 26)) (upS Z (WD E) t_is_turning) := by
  have S := Sc_is_turning
  exact (dss_cons (ds_if ((dw_or (dt_not (dt_val (de_callB cb_isi call_isi g.isinstance_ boot_isinstance (da_cons (de_var) (da_cons (de_tyN g.tuple_ boot_tuple) da_nil))))) (dw_or
    (dt_not (dt_chain ok_le ok_le op_le op_le (de_int) (de_callB cb_len call_len g.len_ boot_len (da_cons (de_var) da_nil)) (de_int))) (dw_or1 (dt_not (dt_val (de_callB
    cb_isi call_isi g.isinstance_ boot_isinstance (da_cons (de_ix ok_ix ix_seq (de_var) (de_int) (fun _ _ => rfl)) (da_cons (de_tyN g.str_ boot_str) da_nil)))))))).pt)
    (dss_one (ds_ret (de_bl))) dss_nil) (dss_cons (ds_if (dt_not (dt_val (de_call d_is_whole (L2N.takes_of rfl rfl rfl rfl) (hr.mono (by decide)) (da_cons (de_ix ok_ix
    ix_seq (de_var) (de_int) (fun _ _ => rfl)) (da_cons (de_int) (da_cons (de_op ok_sub op_sub (de_callB cb_len call_len g.len_ boot_len (da_cons (de_ix ok_ix ix_seq
    (de_var) (de_int) (fun _ _ => rfl)) da_nil)) (de_int)) da_nil)))))) (dss_one (ds_ret (de_bl))) dss_nil) (dss_cons (ds_if (dt_cmp ok_eq (op_eqD (hu64 hr)) (de_callB
    cb_len call_len g.len_ boot_len (da_cons (de_var) da_nil)) (de_int) (nomark _)) (dss_one (ds_ret (de_cmp ok_eq (op_eqD (hu64 hr)) (de_ix ok_ix ix_seq (de_var) (de_int)
    (fun _ _ => rfl)) (de_str) (nomark _)))) dss_nil) (dss_one (ds_ret (de_and (de_cmp ok_in or_in (de_ix ok_ix ix_seq (de_var) (de_int) (fun _ _ => rfl)) (de_gdat (v :=
    .ref aPL) g.PLACES.1 rfl g.PLACES.2) (by with_unfolding_all rfl)) (de_one (de_call d_is_part (L2N.takes_of rfl rfl rfl rfl) (hr.mono (by decide)) (da_cons (de_ix ok_ix
    ix_seq (de_var) (de_int) (fun _ _ => rfl)) (da_cons (de_ix ok_ix ix_seq (de_var) (de_int) (fun _ _ => rfl)) (da_cons (de_ixT g.PLACES_.1 g.PLACES_.2.1 g.PLACES_.2.2
    (da_cons (de_ix ok_ix ix_seq (de_var) (de_int) (fun _ _ => rfl)) da_nil)) (da_cons (de_ix ok_ix ix_seq (de_var) (de_int) (fun _ _ => rfl)) da_nil))))))))))))
theorem Sc_has_row : FnScope N_has_row ["house", "value"] (defScope (top 27)) := ⟨rfl, rfl, rfl, by decide +kernel, rfl, by decide +kernel, by decide +kernel⟩
theorem W_has_row (g : Gs Z aPL aKW) (d_is_turning : Df P w base Z 4 "is_turning" 2 F_is_turning) {f : Addr} (cdv : Value) (A : Around) (o : List Env) (s : Shared) (H : Hp) (E : XK) (hr : Room 4 (A.deeper (envOfC "has_row" (defScope (top 27)) s.heap.objs.size f cdv))) :
    PSs (CxD P w base Z N_has_row "has_row" (defScope (top 27)) f cdv A o s H E) (defBody (top 27)) (upS Z (WD E) t_has_row) := by
  have S := Sc_has_row
  exact (dss_cons (ds_if ((dw_or (dt_not (dt_val (de_callB cb_isi call_isi g.isinstance_ boot_isinstance (da_cons (de_var) (da_cons (de_tyN g.tuple_ boot_tuple) da_nil)))))
    (dw_or1 (dt_cmp ok_gt op_gt (de_callB cb_len call_len g.len_ boot_len (da_cons (de_var) da_nil)) (de_int) (nomark _)))).pt) (dss_one (ds_ret (de_bl))) dss_nil)
    (dss_one (ds_ret (de_cmp ok_eq (op_eqD (hu64 hr)) (de_ofN (de_lcN (own := [("turning", 2)]) rfl S.nd (blkOk_by (N := N_has_row) (sc := defScope (top 27)) (by
    decide +kernel)) (di_seq (de_var)) (fun _ _ _ _ _ => (dg_name S.nd)) (fun _ _ _ _ _ => (dts_one (dt_not (dt_val (de_call d_is_turning takes0X (hr.mono (by decide))
    (da_cons (de_var) (da_cons (de_var) da_nil))))))) (fun _ _ _ _ _ => (de_var)))) (de_ofN (de_lstN da_nil)) (nomark _)))))
theorem Sc_need_house : FnScope N_need_house ["house"] (defScope (top 28)) := ⟨rfl, rfl, rfl, by decide +kernel, rfl, by decide +kernel, by decide +kernel⟩
theorem W_need_house (g : Gs Z aPL aKW) (d_has_house : Df P w base Z 5 "has_house" 1 F_has_house) {f : Addr} (cdv : Value) (A : Around) (o : List Env) (s : Shared) (H : Hp) (E : XK) (hr : Room 5 (A.deeper (envOfC "need_house" (defScope (top 28)) s.heap.objs.size f cdv))) :
    PSs (CxD P w base Z N_need_house "need_house" (defScope (top 28)) f cdv A o s H E) (defBody (top 28)) (upS Z (WD E) t_need_house) := by
  have S := Sc_need_house
  exact (dss_one (ds_if (dt_not (dt_val (de_call d_has_house (L2N.takes_of rfl rfl rfl rfl) (hr.mono (by decide)) (da_cons (de_var) da_nil)))) (dss_one (ds_raise g.InvalidHouse
    rfl (L2N.takes_of rfl rfl rfl rfl))) dss_nil))
theorem Sc_need_row : FnScope N_need_row ["house", "row"] (defScope (top 29)) := ⟨rfl, rfl, rfl, by decide +kernel, rfl, by decide +kernel, by decide +kernel⟩
theorem W_need_row (g : Gs Z aPL aKW) (d_need_house : Df P w base Z 6 "need_house" 1 F_need_house) (d_has_row : Df P w base Z 5 "has_row" 2 F_has_row) {f : Addr} (cdv : Value) (A : Around) (o : List Env) (s : Shared) (H : Hp) (E : XK) (hr : Room 6 (A.deeper (envOfC "need_row" (defScope (top 29)) s.heap.objs.size f cdv))) :
    PSs (CxD P w base Z N_need_row "need_row" (defScope (top 29)) f cdv A o s H E) (defBody (top 29)) (upS Z (WD E) t_need_row) := by
  have S := Sc_need_row
  exact (dss_cons (ds_expr (de_call d_need_house (L2N.takes_of rfl rfl rfl rfl) (hr.mono (by decide)) (da_cons (de_var) da_nil))) (dss_one (ds_if (dt_not (dt_val (de_call
    d_has_row (L2N.takes_of rfl rfl rfl rfl) (hr.mono (by decide)) (da_cons (de_var) (da_cons (de_var) da_nil))))) (dss_one (ds_raise g.InvalidRow rfl (L2N.takes_of rfl
    rfl rfl rfl))) dss_nil)))
theorem Sc_turned : FnScope N_turned ["house", "turning"] (defScope (top 30)) := ⟨rfl, rfl, rfl, by decide +kernel, rfl, by decide +kernel, by decide +kernel⟩
theorem W_turned (g : Gs Z aPL aKW) {f : Addr} (cdv : Value) (A : Around) (o : List Env) (s : Shared) (H : Hp) (E : XK) (hr : Room 0 (A.deeper (envOfC "turned" (defScope (top 30)) s.heap.objs.size f cdv))) :
    PSs (CxD P w base Z N_turned "turned" (defScope (top 30)) f cdv A o s H E) (defBody (top 30)) (upS Z (WD E) t_turned) := by
  have S := Sc_turned
  exact (dss_cons (ds_if (dt_cmp ok_eq (op_eqD (hu64 hr)) (de_ix ok_ix ix_seq (de_var) (de_int) (fun _ _ => rfl)) (de_str) (nomark _)) (dss_one (ds_ret (de_var))) dss_nil)
    (dss_cons (ds_asg (de_var) (dg_tup rfl (dgs_cons (dg_name S.nd) (dgs_cons (dg_name S.nd) dgs_nil)))) (dss_cons (ds_par rfl S.nd (da_cons (de_ix ok_ix ix_seq (de_var)
    (de_int) (fun _ _ => rfl)) (da_cons (de_ixT g.PLACES_.1 g.PLACES_.2.1 g.PLACES_.2.2 (da_cons (de_ix ok_ix ix_seq (de_var) (de_int) (fun _ _ => rfl)) da_nil)) da_nil)))
    (dss_cons (ds_set S.nd (de_op ok_add or_addAll (de_op ok_add or_addAll (de_slice (de_ix ok_ix ix_seq (de_var) (de_var) (fun _ _ => rfl)) do_none (do_some (de_var)))
    (de_tup (da_cons (de_ix ok_ix ix_seq (de_var) (de_int) (fun _ _ => rfl)) da_nil))) (de_slice (de_ix ok_ix ix_seq (de_var) (de_var) (fun _ _ => rfl)) (do_some (de_op
    ok_add or_addAll (de_var) (de_int))) do_none))) (dss_one (ds_ret (de_tup (da_cons (de_var) (da_cons (de_op ok_add or_addAll (de_op ok_add or_addAll (de_slice (de_var)
    do_none (do_some (de_var))) (de_tup (da_cons (de_var) da_nil))) (de_slice (de_var) (do_some (de_op ok_add or_addAll (de_var) (de_int))) do_none)) da_nil)))))))))
theorem Sc_houses_along : FnScope N_houses_along ["house", "row"] (defScope (top 31)) := ⟨rfl, rfl, rfl, by decide +kernel, rfl, by decide +kernel, by decide +kernel⟩
theorem W_houses_along (g : Gs Z aPL aKW) (d_turned : Df P w base Z 1 "turned" 2 F_turned) {f : Addr} (cdv : Value) (A : Around) (o : List Env) (s : Shared) (H : Hp) (E : XK) (hr : Room 1 (A.deeper (envOfC "houses_along" (defScope (top 31)) s.heap.objs.size f cdv))) :
    PSs (CxD P w base Z N_houses_along "houses_along" (defScope (top 31)) f cdv A o s H E) (defBody (top 31)) (upS Z (WD E) t_houses_along) := by
  have S := Sc_houses_along
  exact (dss_cons (ds_own S.nd (de_lstN (da_cons (de_var) da_nil))) (dss_cons (ds_for (passes_of rfl) rfl (di_seq (de_var)) (dg_name S.nd) (dss_one (ds_app (da_cons (de_call
    d_turned (L2N.takes_of rfl rfl rfl rfl) (hr.mono (by decide)) (da_cons (de_ixH (de_neg (de_int)) (fun _ _ => rfl)) (da_cons (de_var) da_nil))) da_nil)))) (dss_one
    (ds_ret (de_var)))))
theorem Sc_fits : FnScope N_fits ["house", "way", "person", "seen_so"] (defScope (top 32)) := ⟨rfl, rfl, rfl, by decide +kernel, rfl, by decide +kernel, by decide +kernel⟩
theorem W_fits (g : Gs Z aPL aKW) {f : Addr} (cdv : Value) (A : Around) (o : List Env) (s : Shared) (H : Hp) (E : XK) (hr : Room 0 (A.deeper (envOfC "fits" (defScope (top 32)) s.heap.objs.size f cdv))) :
    PSs (CxD P w base Z N_fits "fits" (defScope (top 32)) f cdv A o s H E) (defBody (top 32)) (upS Z (WD E) t_fits) := by
  have S := Sc_fits
  exact (dss_cons (ds_asg (de_var) (dg_tup rfl (dgs_cons (dg_name S.nd) (dgs_cons (dg_name S.nd) (dgs_cons (dg_name S.nd) (dgs_cons (dg_name S.nd) (dgs_cons (dg_name S.nd)
    (dgs_cons (dg_name S.nd) dgs_nil)))))))) (dss_cons (ds_if ((dw_or (dt_cmp ok_notIn or_notIn (de_ix ok_ix ix_seq (de_var) (de_int) (fun _ _ => rfl)) (de_var) (by
    with_unfolding_all rfl)) (dw_or1 (dt_cmp ok_ge op_ge (de_op ok_mod op_mod (de_op ok_sub op_sub (de_ix ok_ix ix_seq (de_var) (de_op ok_add or_addAll (de_int) (de_var))
    (fun _ _ => rfl)) (de_var)) (de_ix ok_ix ix_seq (de_var) (de_int) (fun _ _ => rfl))) (de_var) (nomark _)))).pt) (dss_one (ds_ret (de_bl))) dss_nil) (dss_one (ds_ret
    (de_or (de_cmp ok_isN op_isN (de_var) (de_non) (nomark _)) (de_one (de_cmp ok_in or_in (de_var) (de_var) (by with_unfolding_all rfl))))))))
theorem Sc_seen_at : FnScope N_seen_at ["house", "person", "before", "back"] (defScope (top 33)) := ⟨rfl, rfl, rfl, by decide +kernel, rfl, by decide +kernel, by decide +kernel⟩
theorem W_seen_at (g : Gs Z aPL aKW) (d_fits : Df P w base Z 1 "fits" 4 F_fits) {f : Addr} (cdv : Value) (A : Around) (o : List Env) (s : Shared) (H : Hp) (E : XK) (hr : Room 1 (A.deeper (envOfC "seen_at" (defScope (top 33)) s.heap.objs.size f cdv))) :
    PSs (CxD P w base Z N_seen_at "seen_at" (defScope (top 33)) f cdv A o s H E) (defBody (top 33)) (upS Z (WD E) t_seen_at) := by
  have S := Sc_seen_at
  exact (dss_cons (ds_set S.nd (de_tup da_nil)) (dss_cons (ds_for (passes_of rfl) rfl (di_enum g.enumerate_ (da_cons (de_ix ok_ix ix_seq (de_var) (de_int) (fun _ _ => rfl))
    da_nil)) (dg_tup rfl (dgs_cons (dg_name S.nd) (dgs_cons (dg_name S.nd) dgs_nil))) (dss_cons (ds_set S.nd (de_and (de_ix ok_ix ix_seq (de_var) (de_int) (fun _ _ =>
    rfl)) (de_and (de_cmp ok_in or_in (de_var) (de_var) (by with_unfolding_all rfl)) (de_one (de_cmp ok_ne (op_neD (hu64 hr)) (de_var) (de_var) (nomark _)))))) (dss_one
    (ds_if ((dw_or (dt_val (de_var)) (dw_or1 (dt_val (de_call d_fits (L2N.takes_of rfl rfl rfl rfl) (hr.mono (by decide)) (da_cons (de_var) (da_cons (de_var) (da_cons
    (de_var) (da_cons (de_var) da_nil)))))))).pt) (dss_one (ds_set S.nd (de_op ok_add or_addAll (de_var) (de_tup (da_cons (de_var) da_nil))))) dss_nil)))) (dss_one (ds_ret
    (de_var)))))
theorem Sc_back_of : FnScope N_back_of ["turning"] (defScope (top 34)) := ⟨rfl, rfl, rfl, by decide +kernel, rfl, by decide +kernel, by decide +kernel⟩
theorem W_back_of (g : Gs Z aPL aKW) {f : Addr} (cdv : Value) (A : Around) (o : List Env) (s : Shared) (H : Hp) (E : XK) (hr : Room 0 (A.deeper (envOfC "back_of" (defScope (top 34)) s.heap.objs.size f cdv))) :
    PSs (CxD P w base Z N_back_of "back_of" (defScope (top 34)) f cdv A o s H E) (defBody (top 34)) (upS Z (WD E) t_back_of) := by
  have S := Sc_back_of
  exact (dss_one (ds_ret (de_ifE (dt_cmp ok_eq (op_eqD (hu64 hr)) (de_ix ok_ix ix_seq (de_var) (de_int) (fun _ _ => rfl)) (de_str) (nomark _)) (de_ix ok_ix ix_seq (de_var)
    (de_int) (fun _ _ => rfl)) (de_non))))
theorem Sc_history : FnScope N_history ["houses", "row", "person"] (defScope (top 35)) := ⟨rfl, rfl, rfl, by decide +kernel, rfl, by decide +kernel, by decide +kernel⟩
theorem W_history (g : Gs Z aPL aKW) (d_seen_at : Df P w base Z 2 "seen_at" 4 F_seen_at) (d_back_of : Df P w base Z 1 "back_of" 1 F_back_of) {f : Addr} (cdv : Value) (A : Around) (o : List Env) (s : Shared) (H : Hp) (E : XK) (hr : Room 2 (A.deeper (envOfC "history" (defScope (top 35)) s.heap.objs.size f cdv))) :
    PSs (CxD P w base Z N_history "history" (defScope (top 35)) f cdv A o s H E) (defBody (top 35)) (upS Z (WD E) t_history) := by
  have S := Sc_history
  exact (dss_cons (ds_own S.nd (de_lstN (da_cons (de_call d_seen_at (L2N.takes_of rfl rfl rfl rfl) (hr.mono (by decide)) (da_cons (de_ix ok_ix ix_seq (de_var) (de_int) (fun _ _ =>
    rfl)) (da_cons (de_var) (da_cons (de_tup da_nil) (da_cons (de_non) da_nil))))) da_nil))) (dss_cons (ds_for (passes_of rfl) rfl (di_zip g.zip_ (da_cons (de_slice
    (de_var) (do_some (de_int)) do_none) (da_cons (de_var) da_nil))) (dg_tup rfl (dgs_cons (dg_name S.nd) (dgs_cons (dg_name S.nd) dgs_nil))) (dss_one (ds_app (da_cons
    (de_call d_seen_at (L2N.takes_of rfl rfl rfl rfl) (hr.mono (by decide)) (da_cons (de_var) (da_cons (de_var) (da_cons (de_ixH (de_neg (de_int)) (fun _ _ => rfl))
    (da_cons (de_call d_back_of (L2N.takes_of rfl rfl rfl rfl) (hr.mono (by decide)) (da_cons (de_var) da_nil)) da_nil))))) da_nil)))) (dss_one (ds_ret (de_var)))))
theorem Sc_cuts_of : FnScope N_cuts_of ["houses", "word"] (defScope (top 37)) := ⟨rfl, rfl, rfl, by decide +kernel, rfl, by decide +kernel, by decide +kernel⟩
theorem W_cuts_of (g : Gs Z aPL aKW) {f : Addr} (cdv : Value) (A : Around) (o : List Env) (s : Shared) (H : Hp) (E : XK) (hr : Room 0 (A.deeper (envOfC "cuts_of" (defScope (top 37)) s.heap.objs.size f cdv))) :
    PSs (CxD P w base Z N_cuts_of "cuts_of" (defScope (top 37)) f cdv A o s H E) (defBody (top 37)) (upS Z (WD E) t_cuts_of) := by
  have S := Sc_cuts_of
  exact (dss_cons (ds_par rfl S.nd (da_cons (de_ix ok_ix ix_seq (de_ix ok_ix ix_seq (de_var) (de_int) (fun _ _ => rfl)) (de_int) (fun _ _ => rfl)) (da_cons (de_ofN (de_lstN
    (da_cons (de_int) da_nil))) da_nil))) (dss_cons (ds_for (passes_of rfl) rfl (di_seq (de_var)) (dg_name S.nd) (dss_one (ds_for (passes_of rfl) rfl (di_seq (de_ix ok_ix
    ix_seq (de_var) (de_int) (fun _ _ => rfl))) (dg_name S.nd) (dss_one (ds_if (dt_cmp ok_eq (op_eqD (hu64 hr)) (de_ix ok_ix ix_seq (de_var) (de_int) (fun _ _ => rfl))
    (de_var) (nomark _)) (dss_one (ds_set S.nd (de_op ok_add or_addAll (de_var) (de_ofN (de_lstN (da_cons (de_callTy cb_int call_int1 g.int_ boot_int (da_cons (de_ix ok_ix
    ix_seq (de_var) (de_int) (fun _ _ => rfl)) da_nil)) (da_cons (de_callTy cb_int call_int1 g.int_ boot_int (da_cons (de_op ok_mod op_mod (de_op ok_add or_addAll (de_ix
    ok_ix ix_seq (de_var) (de_int) (fun _ _ => rfl)) (de_ix ok_ix ix_seq (de_var) (de_int) (fun _ _ => rfl))) (de_var)) da_nil)) da_nil))))))) dss_nil))))) (dss_one
    (ds_ret (de_ofN (de_sortSet rfl g.sorted_ g.set_ (de_var)))))))
theorem Sc_pieces : FnScope N_pieces ["houses", "word"] (defScope (top 38)) := ⟨rfl, rfl, rfl, by decide +kernel, rfl, by decide +kernel, by decide +kernel⟩
theorem W_pieces (g : Gs Z aPL aKW) (d_cuts_of : Df P w base Z 1 "cuts_of" 2 F_cuts_of) {f : Addr} (cdv : Value) (A : Around) (o : List Env) (s : Shared) (H : Hp) (E : XK) (hr : Room 1 (A.deeper (envOfC "pieces" (defScope (top 38)) s.heap.objs.size f cdv))) :
    PSs (CxD P w base Z N_pieces "pieces" (defScope (top 38)) f cdv A o s H E) (defBody (top 38)) (upS Z (WD E) t_pieces) := by
  have S := Sc_pieces
  exact (dss_cons (ds_set S.nd (de_call d_cuts_of (L2N.takes_of rfl rfl rfl rfl) (hr.mono (by decide)) (da_cons (de_var) (da_cons (de_var) da_nil)))) (dss_one (ds_ret (de_ofN
    (de_lcN (own := [("low", 3), ("high", 4)]) rfl S.nd (blkOk_by (N := N_pieces) (sc := defScope (top 38)) (by decide +kernel)) (di_zip g.zip_ (da_cons (de_var) (da_cons
    (de_op ok_add or_addAll (de_slice (de_var) (do_some (de_int)) do_none) (de_ofN (de_lstN (da_cons (de_ix ok_ix ix_seq (de_ix ok_ix ix_seq (de_var) (de_int) (fun _ _ =>
    rfl)) (de_int) (fun _ _ => rfl)) da_nil)))) da_nil))) (fun _ _ _ _ _ => (dg_tup rfl (dgs_cons (dg_name S.nd) (dgs_cons (dg_name S.nd) dgs_nil)))) (fun _ _ _ _ _ =>
    dts_nil) (fun _ _ _ _ _ => (de_tup (da_cons (de_var) (da_cons (de_op ok_sub op_sub (de_var) (de_var)) da_nil)))))))))
theorem Sc_all_people : FnScope N_all_people ["houses"] (defScope (top 39)) := ⟨rfl, rfl, rfl, by decide +kernel, rfl, by decide +kernel, by decide +kernel⟩
theorem W_all_people (g : Gs Z aPL aKW) (d_pieces : Df P w base Z 2 "pieces" 2 F_pieces) {f : Addr} (cdv : Value) (A : Around) (o : List Env) (s : Shared) (H : Hp) (E : XK) (hr : Room 2 (A.deeper (envOfC "all_people" (defScope (top 39)) s.heap.objs.size f cdv))) :
    PSs (CxD P w base Z N_all_people "all_people" (defScope (top 39)) f cdv A o s H E) (defBody (top 39)) (upS Z (WD E) t_all_people) := by
  have S := Sc_all_people
  exact (dss_cons (ds_set S.nd (de_ofN (de_lstN da_nil))) (dss_cons (ds_for (passes_of rfl) rfl (di_range1 g.range_ (da_cons (de_int) da_nil)) (dg_name S.nd) (dss_one (ds_for
    (passes_of rfl) rfl (di_seq (de_call d_pieces (L2N.takes_of rfl rfl rfl rfl) (hr.mono (by decide)) (da_cons (de_var) (da_cons (de_int) da_nil)))) (dg_tup rfl (dgs_cons
    (dg_name S.nd) (dgs_cons (dg_name S.nd) dgs_nil))) (dss_one (ds_set S.nd (de_op ok_add or_addAll (de_var) (de_ofN (de_lcN (own := [("second", 5), ("often", 6)]) rfl
    S.nd (blkOk_by (N := N_all_people) (sc := defScope (top 39)) (by decide +kernel)) (di_seq (de_call d_pieces (L2N.takes_of rfl rfl rfl rfl) (hr.mono (by decide))
    (da_cons (de_var) (da_cons (de_int) da_nil)))) (fun _ _ _ _ _ => (dg_tup rfl (dgs_cons (dg_name S.nd) (dgs_cons (dg_name S.nd) dgs_nil)))) (fun _ _ _ _ _ => dts_nil)
    (fun _ _ _ _ _ => (de_tup (da_cons (de_tup (da_cons (de_var) (da_cons (de_var) (da_cons (de_var) da_nil)))) (da_cons (de_op ok_mulI or_mulI (de_var) (de_var))
    da_nil)))))))))))) (dss_one (ds_ret (de_var)))))
theorem Sc_lost_at : FnScope N_lost_at ["moments", "way"] (defScope (top 41)) := ⟨rfl, rfl, rfl, by decide +kernel, rfl, by decide +kernel, by decide +kernel⟩
theorem W_lost_at (g : Gs Z aPL aKW) {f : Addr} (cdv : Value) (A : Around) (o : List Env) (s : Shared) (H : Hp) (E : XK) (hr : Room 0 (A.deeper (envOfC "lost_at" (defScope (top 41)) s.heap.objs.size f cdv))) :
    PSs (CxD P w base Z N_lost_at "lost_at" (defScope (top 41)) f cdv A o s H E) (defBody (top 41)) (upS Z (WD E) t_lost_at) := by
  have S := Sc_lost_at
  exact (dss_cons (ds_for (passes_of rfl) rfl (di_range1 g.range_ (da_cons (de_op ok_sub op_sub (de_callB cb_len call_len g.len_ boot_len (da_cons (de_var) da_nil)) (de_int))
    da_nil)) (dg_name S.nd) (dss_one (ds_if ((dw_and (dt_cmp ok_in or_in (de_var) (de_ix ok_ix ix_seq (de_var) (de_var) (fun _ _ => rfl)) (by with_unfolding_all rfl))
    (dw_and1 (dt_cmp ok_notIn or_notIn (de_var) (de_ix ok_ix ix_seq (de_var) (de_op ok_add or_addAll (de_var) (de_int)) (fun _ _ => rfl)) (by with_unfolding_all
    rfl)))).pt) (dss_one (ds_ret (de_var))) dss_nil))) (dss_one (ds_ret (de_non))))
theorem Sc_histories : FnScope N_histories ["house", "row"] (defScope (top 42)) := ⟨rfl, rfl, rfl, by decide +kernel, rfl, by decide +kernel, by decide +kernel⟩
theorem W_histories (g : Gs Z aPL aKW) (d_houses_along : Df P w base Z 2 "houses_along" 2 F_houses_along) (d_all_people : Df P w base Z 3 "all_people" 1 F_all_people) (d_history : Df P w base Z 3 "history" 3 F_history) {f : Addr} (cdv : Value) (A : Around) (o : List Env) (s : Shared) (H : Hp) (E : XK) (hr : Room 3 (A.deeper (envOfC "histories" (defScope (top 42)) s.heap.objs.size f cdv))) :
    PSs (CxD P w base Z N_histories "histories" (defScope (top 42)) f cdv A o s H E) (defBody (top 42)) (upS Z (WD E) t_histories) := by
  have S := Sc_histories
  exact (dss_cons (ds_set S.nd (de_call d_houses_along (L2N.takes_of rfl rfl rfl rfl) (hr.mono (by decide)) (da_cons (de_var) (da_cons (de_var) da_nil)))) (dss_one (ds_ret (de_ofN
    (de_lcN (own := [("person", 3), ("many", 4)]) rfl S.nd (blkOk_by (N := N_histories) (sc := defScope (top 42)) (by decide +kernel)) (di_seq (de_call d_all_people
    (L2N.takes_of rfl rfl rfl rfl) (hr.mono (by decide)) (da_cons (de_var) da_nil))) (fun _ _ _ _ _ => (dg_tup rfl (dgs_cons (dg_name S.nd) (dgs_cons (dg_name S.nd)
    dgs_nil)))) (fun _ _ _ _ _ => dts_nil) (fun _ _ _ _ _ => (de_tup (da_cons (de_var) (da_cons (de_var) (da_cons (de_call d_history takes0X (hr.mono (by decide)) (da_cons
    (de_var) (da_cons (de_var) (da_cons (de_var) da_nil)))) da_nil))))))))))
theorem Sc_all_lots : FnScope N_all_lots ["many"] (defScope (top 44)) := ⟨rfl, rfl, rfl, by decide +kernel, rfl, by decide +kernel, by decide +kernel⟩
theorem W_all_lots (g : Gs Z aPL aKW) {f : Addr} (cdv : Value) (A : Around) (o : List Env) (s : Shared) (H : Hp) (E : XK) (hr : Room 0 (A.deeper (envOfC "all_lots" (defScope (top 44)) s.heap.objs.size f cdv))) :
    PSs (CxD P w base Z N_all_lots "all_lots" (defScope (top 44)) f cdv A o s H E) (defBody (top 44)) (upS Z (WD E) t_all_lots) := by
  have S := Sc_all_lots
  exact (dss_cons (ds_set S.nd (de_ofN (de_lstN (da_cons (de_tup da_nil) da_nil)))) (dss_cons (ds_for (passes_of rfl) rfl (di_range1 g.range_ (da_cons (de_var) da_nil)) (dg_name
    S.nd) (dss_one (ds_set S.nd (de_op ok_add or_addAll (de_var) (de_ofN (de_lcN (own := [("lot", 4)]) rfl S.nd (blkOk_by (N := N_all_lots) (sc := defScope (top 44)) (by
    decide +kernel)) (di_seq (de_var)) (fun _ _ _ _ _ => (dg_name S.nd)) (fun _ _ _ _ _ => dts_nil) (fun _ _ _ _ _ => (de_op ok_add or_addAll (de_var) (de_tup (da_cons
    (de_var) da_nil)))))))))) (dss_one (ds_ret (de_ofN (de_lc2N (own := [("size", 3), ("lot", 4)]) rfl S.nd (blkOk_by (N := N_all_lots) (sc := defScope (top 44)) (by
    decide +kernel)) (di_range1 g.range_ (da_cons (de_op ok_add or_addAll (de_var) (de_int)) da_nil)) (fun _ _ _ _ _ => (dg_name S.nd)) (fun _ _ _ _ _ => dts_nil) (fun _ _
    _ _ _ => (di_seq (de_var))) (fun _ _ _ _ _ => (dg_name S.nd)) (fun _ _ _ _ _ => (dts_one (dt_cmp ok_eq (op_eqD (hu64 hr)) (de_callB cb_len call_len g.len_ boot_len
    (da_cons (de_var) da_nil)) (de_var) (nomark _)))) (fun _ _ _ _ _ => (de_var))))))))
theorem Sc_with_kept : FnScope N_with_kept ["house", "lot"] (defScope (top 45)) := ⟨rfl, rfl, rfl, by decide +kernel, rfl, by decide +kernel, by decide +kernel⟩
theorem W_with_kept (g : Gs Z aPL aKW) {f : Addr} (cdv : Value) (A : Around) (o : List Env) (s : Shared) (H : Hp) (E : XK) (hr : Room 0 (A.deeper (envOfC "with_kept" (defScope (top 45)) s.heap.objs.size f cdv))) :
    PSs (CxD P w base Z N_with_kept "with_kept" (defScope (top 45)) f cdv A o s H E) (defBody (top 45)) (upS Z (WD E) t_with_kept) := by
  have S := Sc_with_kept
  exact (dss_cons (ds_asg (de_var) (dg_tup rfl (dgs_cons (dg_name S.nd) (dgs_cons (dg_name S.nd) dgs_nil)))) (dss_one (ds_ret (de_tup (da_cons (de_var) (da_cons (de_callTy
    cb_tuple call_tuple_of g.tuple_ boot_tuple (da_cons (de_ofN (de_lcN (own := [("at", 4), ("way", 5)]) rfl S.nd (blkOk_by (N := N_with_kept) (sc := defScope (top 45))
    (by decide +kernel)) (di_enum g.enumerate_ (da_cons (de_var) da_nil)) (fun _ _ _ _ _ => (dg_tup rfl (dgs_cons (dg_name S.nd) (dgs_cons (dg_name S.nd) dgs_nil)))) (fun
    _ _ _ _ _ => dts_nil) (fun _ _ _ _ _ => (de_op ok_add or_addAll (de_slice (de_var) do_none (do_some (de_int))) (de_tup (da_cons (de_or (de_ix ok_ix ix_seq (de_var)
    (de_int) (fun _ _ => rfl)) (de_one (de_cmp ok_in or_in (de_var) (de_var) (by with_unfolding_all rfl)))) da_nil)))))) da_nil)) da_nil))))))
theorem Sc_is_calm : FnScope N_is_calm ["house", "row"] (defScope (top 46)) := ⟨rfl, rfl, rfl, by decide +kernel, rfl, by decide +kernel, by decide +kernel⟩
theorem W_is_calm (g : Gs Z aPL aKW) (d_histories : Df P w base Z 4 "histories" 2 F_histories) (d_lost_at : Df P w base Z 1 "lost_at" 2 F_lost_at) {f : Addr} (cdv : Value) (A : Around) (o : List Env) (s : Shared) (H : Hp) (E : XK) (hr : Room 4 (A.deeper (envOfC "is_calm" (defScope (top 46)) s.heap.objs.size f cdv))) :
    PSs (CxD P w base Z N_is_calm "is_calm" (defScope (top 46)) f cdv A o s H E) (defBody (top 46)) (upS Z (WD E) t_is_calm) := by
  have S := Sc_is_calm
  exact (dss_cons (ds_for (passes_of rfl) rfl (di_seq (de_call d_histories (L2N.takes_of rfl rfl rfl rfl) (hr.mono (by decide)) (da_cons (de_var) (da_cons (de_var) da_nil))))
    (dg_tup rfl (dgs_cons (dg_name S.nd) (dgs_cons (dg_name S.nd) (dgs_cons (dg_name S.nd) dgs_nil)))) (dss_one (ds_if (dt_cmp ok_ne (op_neD (hu64 hr)) (de_ofN (de_lcN
    (own := [("way", 5)]) rfl S.nd (blkOk_by (N := N_is_calm) (sc := defScope (top 46)) (by decide +kernel)) (di_range1 g.range_ (da_cons (de_callB cb_len call_len g.len_
    boot_len (da_cons (de_ix ok_ix ix_seq (de_var) (de_int) (fun _ _ => rfl)) da_nil)) da_nil)) (fun _ _ _ _ _ => (dg_name S.nd)) (fun _ _ _ _ _ => (dts_one (dt_cmp
    ok_notN op_notN (de_call d_lost_at takes0X (hr.mono (by decide)) (da_cons (de_var) (da_cons (de_var) da_nil))) (de_non) (nomark _)))) (fun _ _ _ _ _ => (de_var))))
    (de_ofN (de_lstN da_nil)) (nomark _)) (dss_one (ds_ret (de_bl))) dss_nil))) (dss_one (ds_ret (de_bl))))
theorem Sc_least_keeps : FnScope N_least_keeps ["house", "row"] (defScope (top 47)) := ⟨rfl, rfl, rfl, by decide +kernel, rfl, by decide +kernel, by decide +kernel⟩
theorem W_least_keeps (g : Gs Z aPL aKW) (d_need_row : Df P w base Z 7 "need_row" 2 F_need_row) (d_all_lots : Df P w base Z 1 "all_lots" 1 F_all_lots) (d_is_calm : Df P w base Z 5 "is_calm" 2 F_is_calm) (d_with_kept : Df P w base Z 1 "with_kept" 2 F_with_kept) {f : Addr} (cdv : Value) (A : Around) (o : List Env) (s : Shared) (H : Hp) (E : XK) (hr : Room 7 (A.deeper (envOfC "least_keeps" (defScope (top 47)) s.heap.objs.size f cdv))) :
    PSs (CxD P w base Z N_least_keeps "least_keeps" (defScope (top 47)) f cdv A o s H E) (defBody (top 47)) (upS Z (WD E) t_least_keeps) := by
  have S := Sc_least_keeps
  exact (dss_cons (ds_expr (de_call d_need_row (L2N.takes_of rfl rfl rfl rfl) (hr.mono (by decide)) (da_cons (de_var) (da_cons (de_var) da_nil)))) (dss_cons (ds_own S.nd (de_lstN
    da_nil)) (dss_cons (ds_for (passes_of rfl) rfl (di_seq (de_call d_all_lots (L2N.takes_of rfl rfl rfl rfl) (hr.mono (by decide)) (da_cons (de_callB cb_len call_len
    g.len_ boot_len (da_cons (de_ix ok_ix ix_seq (de_var) (de_int) (fun _ _ => rfl)) da_nil)) da_nil))) (dg_name S.nd) (dss_one (ds_if (dt_cmp ok_eq (op_eqD (hu64 hr))
    (de_ofN (de_lcH (own := [("less", 4)]) rfl S.nd (blkOk_by (N := N_least_keeps) (sc := defScope (top 47)) (by decide +kernel)) (fun _ _ _ _ _ => (dg_name S.nd)) (fun _
    _ _ _ _ => (dts_one (dt_cmp ok_eq (op_eqD (hu64 hr)) (de_ofN (de_lcN (own := [("way", 5)]) rfl S.nd (blkOk_by (by rfl)) (di_seq (de_var)) (fun _ _ _ _ _ => (dg_name
    S.nd)) (fun _ _ _ _ _ => (dts_one (dt_cmp ok_notIn or_notIn (de_var) (de_var) (by with_unfolding_all rfl)))) (fun _ _ _ _ _ => (de_var)))) (de_ofN (de_lstN da_nil))
    (nomark _)))) (fun _ _ _ _ _ => (de_var)))) (de_ofN (de_lstN da_nil)) (nomark _)) (dss_one (ds_if (dt_val (de_call d_is_calm (L2N.takes_of rfl rfl rfl rfl) (hr.mono
    (by decide)) (da_cons (de_call d_with_kept (L2N.takes_of rfl rfl rfl rfl) (hr.mono (by decide)) (da_cons (de_var) (da_cons (de_var) da_nil))) (da_cons (de_var)
    da_nil)))) (dss_one (ds_app (da_cons (de_var) da_nil))) dss_nil)) dss_nil))) (dss_one (ds_ret (de_ofN (de_sortT g.sorted_ (de_var))))))))
theorem Sc_law_vat : FnScope N_law_vat ["script", "k"] (defScope (top 49)) := ⟨rfl, rfl, rfl, by decide +kernel, rfl, by decide +kernel, by decide +kernel⟩
theorem W_law_vat (g : Gs Z aPL aKW) {f : Addr} (cdv : Value) (A : Around) (o : List Env) (s : Shared) (H : Hp) (E : XK) (hr : Room 0 (A.deeper (envOfC "_law_vat" (defScope (top 49)) s.heap.objs.size f cdv))) :
    PSs (CxD P w base Z N_law_vat "_law_vat" (defScope (top 49)) f cdv A o s H E) (defBody (top 49)) (upSN Z (WD E) t_law_vat) := by
  have S := Sc_law_vat
  exact (dssN_cons (ds_set S.nd (de_op ok_add or_addAll (de_op ok_mulI or_mulI (de_int) (de_var)) (de_int))) (fun _ _ _ h => h) (dssN_cons (ds_if (dt_cmp ok_lt op_lt (de_var)
    (de_callB cb_len call_len g.len_ boot_len (da_cons (de_var) da_nil)) (nomark _)) (dss_one (ds_set S.nd (de_callB cb_abs call_abs g.abs_ boot_abs (da_cons (de_callTy
    cb_int call_int1 g.int_ boot_int (da_cons (de_ix ok_ix ix_seq (de_var) (de_var) (fun _ _ => rfl)) da_nil)) da_nil)))) dss_nil) (fun _ _ _ h => h) (dssN_ret (de_lstN
    (da_cons (de_ifE (dt_cmp ok_ge op_ge (de_var) (de_op ok_pow op_pow (de_int) (de_int)) (nomark _)) (de_var) (de_int)) (da_cons (de_op ok_add or_addAll (de_op ok_mod
    op_mod (de_callTy cb_int call_int1 g.int_ boot_int (da_cons (de_op ok_add or_addAll (de_op ok_add or_addAll (de_op ok_mulI or_mulI (de_var) (de_int)) (de_op ok_mulI
    or_mulI (de_int) (de_var))) (de_int)) da_nil)) (de_int)) (de_int)) da_nil))))))
theorem Sc_law_under : FnScope N_law_under ["vat", "many"] (defScope (top 50)) := ⟨rfl, rfl, rfl, by decide +kernel, rfl, by decide +kernel, by decide +kernel⟩
theorem W_law_under (g : Gs Z aPL aKW) {f : Addr} (cdv : Value) (A : Around) (o : List Env) (s : Shared) (H : Hp) (E : XK) (hr : Room 0 (A.deeper (envOfC "_law_under" (defScope (top 50)) s.heap.objs.size f cdv))) :
    PSs (CxD P w base Z N_law_under "_law_under" (defScope (top 50)) f cdv A o s H E) (defBody (top 50)) (upS Z (WD E) t_law_under) := by
  have S := Sc_law_under
  exact (dss_cons (ds_if (dt_cmp ok_gt op_gt (de_ixH (de_int) (fun _ _ => rfl)) (de_int) (nomark _)) (dss_cons (ds_set S.nd (de_op ok_mod op_mod (de_callTy cb_int call_int1 g.int_
    boot_int (da_cons (de_ixH (de_int) (fun _ _ => rfl)) da_nil)) (de_var))) (dss_cons (ds_sto (de_op ok_div op_fdivW (de_ixH (de_int) (fun _ _ => rfl)) (de_var))
    (de_int)) (dss_one (ds_ret (de_var))))) dss_nil) (dss_cons (ds_sto (de_op ok_mod op_mod (de_callTy cb_int call_int1 g.int_ boot_int (da_cons (de_op ok_add or_addAll
    (de_op ok_mulI or_mulI (de_ixH (de_int) (fun _ _ => rfl)) (de_int)) (de_int)) da_nil)) (de_int)) (de_int)) (dss_cons (ds_set S.nd (de_op ok_mod op_mod (de_callTy
    cb_int call_int1 g.int_ boot_int (da_cons (de_op ok_mulI or_mulI (de_ixH (de_int) (fun _ _ => rfl)) (de_op ok_add or_addAll (de_op ok_div op_fdivW (de_ixH (de_int)
    (fun _ _ => rfl)) (de_int)) (de_int))) da_nil)) (de_int))) (dss_one (ds_ret (de_op ok_mod op_mod (de_callTy cb_int call_int1 g.int_ boot_int (da_cons (de_op ok_div
    op_fdivW (de_var) (de_int)) da_nil)) (de_var)))))))
theorem Sc_law_some : FnScope N_law_some ["vat", "things"] (defScope (top 51)) := ⟨rfl, rfl, rfl, by decide +kernel, rfl, by decide +kernel, by decide +kernel⟩
theorem W_law_some (g : Gs Z aPL aKW) (d_law_under : Df P w base Z 1 "_law_under" 2 F_law_under) {f : Addr} (cdv : Value) (A : Around) (o : List Env) (s : Shared) (H : Hp) (E : XK) (hr : Room 1 (A.deeper (envOfC "_law_some" (defScope (top 51)) s.heap.objs.size f cdv))) :
    PSs (CxD P w base Z N_law_some "_law_some" (defScope (top 51)) f cdv A o s H E) (defBody (top 51)) (upS Z (WD E) t_law_some) := by
  have S := Sc_law_some
  exact (dss_one (ds_ret (de_ix ok_ix ix_seq (de_var) (de_callR d_law_under (L2N.takes_of rfl rfl rfl rfl) (hr.mono (by decide)) (da_cons (de_callB cb_len call_len g.len_ boot_len
    (da_cons (de_var) da_nil)) da_nil)) (fun _ _ => rfl))))
theorem Sc_law_part_names : FnScope N_law_part_names [] (defScope (top 52)) := ⟨rfl, rfl, rfl, by decide +kernel, rfl, by decide +kernel, by decide +kernel⟩
theorem W_law_part_names (g : Gs Z aPL aKW) {f : Addr} (cdv : Value) (A : Around) (o : List Env) (s : Shared) (H : Hp) (E : XK) (hr : Room 0 (A.deeper (envOfC "_law_part_names" (defScope (top 52)) s.heap.objs.size f cdv))) :
    PSs (CxD P w base Z N_law_part_names "_law_part_names" (defScope (top 52)) f cdv A o s H E) (defBody (top 52)) (upS Z (WD E) t_law_part_names) := by
  have S := Sc_law_part_names
  exact (dss_one (ds_ret (de_ofN (de_lstN (da_cons (de_str) (da_cons (de_str) (da_cons (de_str) (da_cons (de_str) (da_cons (de_str) (da_cons (de_str) da_nil))))))))))
theorem Sc_law_kinds : FnScope N_law_kinds ["vat"] (defScope (top 53)) := ⟨rfl, rfl, rfl, by decide +kernel, rfl, by decide +kernel, by decide +kernel⟩
theorem W_law_kinds (g : Gs Z aPL aKW) (d_law_some : Df P w base Z 2 "_law_some" 2 F_law_some) {f : Addr} (cdv : Value) (A : Around) (o : List Env) (s : Shared) (H : Hp) (E : XK) (hr : Room 2 (A.deeper (envOfC "_law_kinds" (defScope (top 53)) s.heap.objs.size f cdv))) :
    PSs (CxD P w base Z N_law_kinds "_law_kinds" (defScope (top 53)) f cdv A o s H E) (defBody (top 53)) (upS Z (WD E) t_law_kinds) := by
  have S := Sc_law_kinds
  exact (dss_one (ds_ret (de_callR d_law_some (L2N.takes_of rfl rfl rfl rfl) (hr.mono (by decide)) (da_cons (de_ofN (de_lstN (da_cons (de_tup (da_cons (de_int) (da_cons (de_int)
    (da_cons (de_int) da_nil)))) (da_cons (de_tup (da_cons (de_int) (da_cons (de_int) (da_cons (de_int) da_nil)))) (da_cons (de_tup (da_cons (de_int) da_nil)) (da_cons
    (de_tup (da_cons (de_int) da_nil)) (da_cons (de_tup (da_cons (de_int) (da_cons (de_int) da_nil))) (da_cons (de_tup (da_cons (de_int) (da_cons (de_int) da_nil)))
    da_nil)))))))) da_nil))))
theorem Sc_law_house : FnScope N_law_house ["vat", "most"] (defScope (top 54)) := ⟨rfl, rfl, rfl, by decide +kernel, rfl, by decide +kernel, by decide +kernel⟩
theorem W_law_house (g : Gs Z aPL aKW) (d_law_under : Df P w base Z 1 "_law_under" 2 F_law_under) (d_law_kinds : Df P w base Z 3 "_law_kinds" 1 F_law_kinds) {f : Addr} (cdv : Value) (A : Around) (o : List Env) (s : Shared) (H : Hp) (E : XK) (hr : Room 3 (A.deeper (envOfC "_law_house" (defScope (top 54)) s.heap.objs.size f cdv))) :
    PSs (CxD P w base Z N_law_house "_law_house" (defScope (top 54)) f cdv A o s H E) (defBody (top 54)) (upS Z (WD E) t_law_house) := by
  have S := Sc_law_house
  exact (dss_cons (ds_par rfl S.nd (da_cons (de_op ok_add or_addAll (de_int) (de_callR d_law_under (L2N.takes_of rfl rfl rfl rfl) (hr.mono (by decide)) (da_cons (de_var) da_nil)))
    (da_cons (de_tup da_nil) da_nil))) (dss_cons (ds_for (passes_of rfl) rfl (di_range1 g.range_ (da_cons (de_op ok_add or_addAll (de_int) (de_callR d_law_under
    (L2N.takes_of rfl rfl rfl rfl) (hr.mono (by decide)) (da_cons (de_int) da_nil))) da_nil)) (dg_name S.nd) (dss_cons (ds_set S.nd (de_ifE ((dw_and (dt_cmp ok_gt op_gt
    (de_var) (de_int) (nomark _)) (dw_and1 (dt_cmp ok_eq (op_eqD (hu64 hr)) (de_callR d_law_under (L2N.takes_of rfl rfl rfl rfl) (hr.mono (by decide)) (da_cons (de_int)
    da_nil)) (de_int) (nomark _)))).pt) (de_callR d_law_under (L2N.takes_of rfl rfl rfl rfl) (hr.mono (by decide)) (da_cons (de_var) da_nil)) (de_non))) (dss_cons (ds_set
    S.nd (de_tup (da_cons (de_callR d_law_under (L2N.takes_of rfl rfl rfl rfl) (hr.mono (by decide)) (da_cons (de_int) da_nil)) (da_cons (de_callR d_law_under
    (L2N.takes_of rfl rfl rfl rfl) (hr.mono (by decide)) (da_cons (de_var) da_nil)) (da_cons (de_callR d_law_under (L2N.takes_of rfl rfl rfl rfl) (hr.mono (by decide))
    (da_cons (de_op ok_add or_addAll (de_var) (de_int)) da_nil)) (da_cons (de_var) da_nil)))))) (dss_one (ds_set S.nd (de_op ok_add or_addAll (de_var) (de_tup (da_cons
    (de_op ok_add or_addAll (de_var) (de_tup (da_cons (de_callR d_law_kinds (L2N.takes_of rfl rfl rfl rfl) (hr.mono (by decide)) da_nil) (da_cons (de_cmp ok_eq (op_eqD
    (hu64 hr)) (de_callR d_law_under (L2N.takes_of rfl rfl rfl rfl) (hr.mono (by decide)) (da_cons (de_int) da_nil)) (de_int) (nomark _)) da_nil)))) da_nil))))))))
    (dss_one (ds_ret (de_tup (da_cons (de_var) (da_cons (de_var) da_nil)))))))
theorem Sc_law_turning : FnScope N_law_turning ["vat", "house"] (defScope (top 55)) := ⟨rfl, rfl, rfl, by decide +kernel, rfl, by decide +kernel, by decide +kernel⟩
theorem W_law_turning (g : Gs Z aPL aKW) (d_law_under : Df P w base Z 1 "_law_under" 2 F_law_under) (d_law_some : Df P w base Z 2 "_law_some" 2 F_law_some) (d_law_kinds : Df P w base Z 3 "_law_kinds" 1 F_law_kinds) {f : Addr} (cdv : Value) (A : Around) (o : List Env) (s : Shared) (H : Hp) (E : XK) (hr : Room 3 (A.deeper (envOfC "_law_turning" (defScope (top 55)) s.heap.objs.size f cdv))) :
    PSs (CxD P w base Z N_law_turning "_law_turning" (defScope (top 55)) f cdv A o s H E) (defBody (top 55)) (upS Z (WD E) t_law_turning) := by
  have S := Sc_law_turning
  exact (dss_cons (ds_par rfl S.nd (da_cons (de_ix ok_ix ix_seq (de_var) (de_int) (fun _ _ => rfl)) (da_cons (de_callR d_law_under (L2N.takes_of rfl rfl rfl rfl) (hr.mono (by
    decide)) (da_cons (de_callB cb_len call_len g.len_ boot_len (da_cons (de_ix ok_ix ix_seq (de_var) (de_int) (fun _ _ => rfl)) da_nil)) da_nil)) da_nil))) (dss_cons
    (ds_set S.nd (de_callR d_law_under (L2N.takes_of rfl rfl rfl rfl) (hr.mono (by decide)) (da_cons (de_int) da_nil))) (dss_cons (ds_if (dt_cmp ok_lt op_lt (de_var)
    (de_int) (nomark _)) (dss_one (ds_ret (de_tup (da_cons (de_str) (da_cons (de_var) (da_cons (de_callR d_law_under (L2N.takes_of rfl rfl rfl rfl) (hr.mono (by decide))
    (da_cons (de_op ok_add or_addAll (de_var) (de_int)) da_nil)) da_nil)))))) dss_nil) (dss_cons (ds_if (dt_cmp ok_eq (op_eqD (hu64 hr)) (de_var) (de_int) (nomark _))
    (dss_one (ds_ret (de_tup (da_cons (de_str) (da_cons (de_var) (da_cons (de_callR d_law_under (L2N.takes_of rfl rfl rfl rfl) (hr.mono (by decide)) (da_cons (de_var)
    da_nil)) da_nil)))))) dss_nil) (dss_cons (ds_if (dt_cmp ok_eq (op_eqD (hu64 hr)) (de_var) (de_int) (nomark _)) (dss_one (ds_ret (de_tup (da_cons (de_str) (da_cons
    (de_var) (da_cons (de_callR d_law_under (L2N.takes_of rfl rfl rfl rfl) (hr.mono (by decide)) (da_cons (de_int) da_nil)) da_nil)))))) dss_nil) (dss_cons (ds_if (dt_cmp
    ok_eq (op_eqD (hu64 hr)) (de_var) (de_int) (nomark _)) (dss_one (ds_ret (de_tup (da_cons (de_str) (da_cons (de_var) (da_cons (de_callR d_law_some (L2N.takes_of rfl rfl
    rfl rfl) (hr.mono (by decide)) (da_cons (de_op ok_add or_addAll (de_ofN (de_lstN (da_cons (de_non) da_nil))) (de_ofN (de_listRg rfl g.list_ g.range_ (de_var))))
    da_nil)) da_nil)))))) dss_nil) (dss_cons (ds_if (dt_cmp ok_eq (op_eqD (hu64 hr)) (de_var) (de_int) (nomark _)) (dss_one (ds_ret (de_tup (da_cons (de_str) (da_cons
    (de_var) (da_cons (de_callR d_law_kinds (L2N.takes_of rfl rfl rfl rfl) (hr.mono (by decide)) da_nil) da_nil)))))) dss_nil) (dss_one (ds_ret (de_ifE (dt_cmp ok_eq
    (op_eqD (hu64 hr)) (de_var) (de_int) (nomark _)) (de_tup (da_cons (de_str) (da_cons (de_var) (da_cons (de_cmp ok_eq (op_eqD (hu64 hr)) (de_callR d_law_under
    (L2N.takes_of rfl rfl rfl rfl) (hr.mono (by decide)) (da_cons (de_int) da_nil)) (de_int) (nomark _)) da_nil)))) (de_tup (da_cons (de_str) (da_cons (de_var)
    da_nil)))))))))))))
theorem Sc_law_row : FnScope N_law_row ["vat", "house", "most"] (defScope (top 56)) := ⟨rfl, rfl, rfl, by decide +kernel, rfl, by decide +kernel, by decide +kernel⟩
theorem W_law_row (g : Gs Z aPL aKW) (d_law_under : Df P w base Z 1 "_law_under" 2 F_law_under) (d_law_turning : Df P w base Z 4 "_law_turning" 2 F_law_turning) {f : Addr} (cdv : Value) (A : Around) (o : List Env) (s : Shared) (H : Hp) (E : XK) (hr : Room 4 (A.deeper (envOfC "_law_row" (defScope (top 56)) s.heap.objs.size f cdv))) :
    PSs (CxD P w base Z N_law_row "_law_row" (defScope (top 56)) f cdv A o s H E) (defBody (top 56)) (upS Z (WD E) t_law_row) := by
  have S := Sc_law_row
  exact (dss_one (ds_ret (de_callTy cb_tuple call_tuple_of g.tuple_ boot_tuple (da_cons (de_ofN (de_lcN (own := [("turn", 3)]) rfl S.nd (blkOk_by (N := N_law_row) (sc := defScope
    (top 56)) (by decide +kernel)) (di_range1 g.range_ (da_cons (de_callR d_law_under (L2N.takes_of rfl rfl rfl rfl) (hr.mono (by decide)) (da_cons (de_op ok_add or_addAll
    (de_var) (de_int)) da_nil)) da_nil)) (fun _ _ _ _ _ => (dg_name S.nd)) (fun _ _ _ _ _ => dts_nil) (fun _ _ _ _ _ => (de_callR d_law_turning takes0X (hr.mono (by
    decide)) (da_cons (de_var) da_nil))))) da_nil))))
theorem Sc_law_turned : FnScope N_law_turned ["house", "turning"] (defScope (top 57)) := ⟨rfl, rfl, rfl, by decide +kernel, rfl, by decide +kernel, by decide +kernel⟩
theorem W_law_turned (g : Gs Z aPL aKW) (d_law_part_names : Df P w base Z 1 "_law_part_names" 0 F_law_part_names) {f : Addr} (cdv : Value) (A : Around) (o : List Env) (s : Shared) (H : Hp) (E : XK) (hr : Room 1 (A.deeper (envOfC "_law_turned" (defScope (top 57)) s.heap.objs.size f cdv))) :
    PSs (CxD P w base Z N_law_turned "_law_turned" (defScope (top 57)) f cdv A o s H E) (defBody (top 57)) (upS Z (WD E) t_law_turned) := by
  have S := Sc_law_turned
  exact (dss_cons (ds_if (dt_cmp ok_eq (op_eqD (hu64 hr)) (de_ix ok_ix ix_seq (de_var) (de_int) (fun _ _ => rfl)) (de_str) (nomark _)) (dss_one (ds_ret (de_var))) dss_nil)
    (dss_cons (ds_parN rfl S.nd (de_listN g.list_ (da_cons (de_ix ok_ix ix_seq (de_var) (de_int) (fun _ _ => rfl)) da_nil)) (de_ixL (de_call0 d_law_part_names (hr.mono (by
    decide))) (da_cons (de_ix ok_ix ix_seq (de_var) (de_int) (fun _ _ => rfl)) da_nil))) (dss_cons (ds_own S.nd (de_listN g.list_ (da_cons (de_ixH (de_ix ok_ix ix_seq
    (de_var) (de_int) (fun _ _ => rfl)) (fun _ _ => rfl)) da_nil))) (dss_cons (ds_sto (de_ix ok_ix ix_seq (de_var) (de_int) (fun _ _ => rfl)) (de_var)) (dss_cons (ds_sto
    (de_callTy cb_tuple call_tuple_of g.tuple_ boot_tuple (da_cons (de_var) da_nil)) (de_ix ok_ix ix_seq (de_var) (de_int) (fun _ _ => rfl))) (dss_one (ds_ret (de_tup
    (da_cons (de_ix ok_ix ix_seq (de_var) (de_int) (fun _ _ => rfl)) (da_cons (de_callTy cb_tuple call_tuple_of g.tuple_ boot_tuple (da_cons (de_var) da_nil))
    da_nil))))))))))
theorem Sc_law_has : FnScope N_law_has ["size", "start", "share", "number"] (defScope (top 58)) := ⟨rfl, rfl, rfl, by decide +kernel, rfl, by decide +kernel, by decide +kernel⟩
theorem W_law_has (g : Gs Z aPL aKW) {f : Addr} (cdv : Value) (A : Around) (o : List Env) (s : Shared) (H : Hp) (E : XK) (hr : Room 0 (A.deeper (envOfC "_law_has" (defScope (top 58)) s.heap.objs.size f cdv))) :
    PSs (CxD P w base Z N_law_has "_law_has" (defScope (top 58)) f cdv A o s H E) (defBody (top 58)) (upS Z (WD E) t_law_has) := by
  have S := Sc_law_has
  exact (dss_cons (ds_set S.nd (de_op ok_add or_addAll (de_var) (de_var))) (dss_one (ds_ret (de_or (de_chain ok_le ok_lt op_le op_lt (de_var) (de_var) (de_var)) (de_one (de_chain
    ok_le ok_lt op_le op_lt (de_var) (de_op ok_add or_addAll (de_var) (de_var)) (de_var)))))))
theorem Sc_law_now : FnScope N_law_now ["house", "person", "before", "back"] (defScope (top 59)) := ⟨rfl, rfl, rfl, by decide +kernel, rfl, by decide +kernel, by decide +kernel⟩
theorem W_law_now (g : Gs Z aPL aKW) (d_law_has : Df P w base Z 1 "_law_has" 4 F_law_has) {f : Addr} (cdv : Value) (A : Around) (o : List Env) (s : Shared) (H : Hp) (E : XK) (hr : Room 1 (A.deeper (envOfC "_law_now" (defScope (top 59)) s.heap.objs.size f cdv))) :
    PSs (CxD P w base Z N_law_now "_law_now" (defScope (top 59)) f cdv A o s H E) (defBody (top 59)) (upS Z (WD E) t_law_now) := by
  have S := Sc_law_now
  exact (dss_cons (ds_own S.nd (de_lstN da_nil)) (dss_cons (ds_for (passes_of rfl) rfl (di_enum g.enumerate_ (da_cons (de_ix ok_ix ix_seq (de_var) (de_int) (fun _ _ => rfl))
    da_nil)) (dg_tup rfl (dgs_cons (dg_name S.nd) (dgs_cons (dg_tup rfl (dgs_cons (dg_name S.nd) (dgs_cons (dg_name S.nd) (dgs_cons (dg_name S.nd) (dgs_cons (dg_name S.nd)
    (dgs_cons (dg_name S.nd) (dgs_cons (dg_name S.nd) dgs_nil))))))) dgs_nil))) (dss_cons (ds_set S.nd (de_and (de_cmp ok_in or_in (de_ix ok_ix ix_seq (de_var) (de_int)
    (fun _ _ => rfl)) (de_var) (by with_unfolding_all rfl)) (de_one (de_call d_law_has (L2N.takes_of rfl rfl rfl rfl) (hr.mono (by decide)) (da_cons (de_ix ok_ix ix_seq
    (de_var) (de_int) (fun _ _ => rfl)) (da_cons (de_var) (da_cons (de_var) (da_cons (de_ix ok_ix ix_seq (de_var) (de_op ok_add or_addAll (de_int) (de_var)) (fun _ _ =>
    rfl)) da_nil)))))))) (dss_cons (ds_set S.nd (de_and (de_var) (de_one (de_or (de_cmp ok_isN op_isN (de_var) (de_non) (nomark _)) (de_one (de_inH (de_var)))))))
    (dss_cons (ds_if ((dw_and (dt_val (de_var)) (dw_and (dt_cmp ok_in or_in (de_var) (de_var) (by with_unfolding_all rfl)) (dw_and1 (dt_cmp ok_ne (op_neD (hu64 hr))
    (de_var) (de_var) (nomark _))))).pt) (dss_one (ds_set S.nd (de_bl))) dss_nil) (dss_one (ds_if (dt_val (de_var)) (dss_one (ds_app (da_cons (de_var) da_nil)))
    dss_nil)))))) (dss_one (ds_ret (de_callTy cb_tuple call_tuple_of g.tuple_ boot_tuple (da_cons (de_var) da_nil))))))
theorem Sc_law_seen : FnScope N_law_seen ["house", "row", "person"] (defScope (top 60)) := ⟨rfl, rfl, rfl, by decide +kernel, rfl, by decide +kernel, by decide +kernel⟩
theorem W_law_seen (g : Gs Z aPL aKW) (d_law_now : Df P w base Z 2 "_law_now" 4 F_law_now) (d_law_turned : Df P w base Z 2 "_law_turned" 2 F_law_turned) {f : Addr} (cdv : Value) (A : Around) (o : List Env) (s : Shared) (H : Hp) (E : XK) (hr : Room 2 (A.deeper (envOfC "_law_seen" (defScope (top 60)) s.heap.objs.size f cdv))) :
    PSs (CxD P w base Z N_law_seen "_law_seen" (defScope (top 60)) f cdv A o s H E) (defBody (top 60)) (upS Z (WD E) t_law_seen) := by
  have S := Sc_law_seen
  exact (dss_cons (ds_own S.nd (de_lstN (da_cons (de_call d_law_now (L2N.takes_of rfl rfl rfl rfl) (hr.mono (by decide)) (da_cons (de_var) (da_cons (de_var) (da_cons (de_tup
    da_nil) (da_cons (de_non) da_nil))))) da_nil))) (dss_cons (ds_for (passes_of rfl) rfl (di_seq (de_var)) (dg_name S.nd) (dss_cons (ds_set S.nd (de_call d_law_turned
    (L2N.takes_of rfl rfl rfl rfl) (hr.mono (by decide)) (da_cons (de_var) (da_cons (de_var) da_nil)))) (dss_cons (ds_set S.nd (de_ifE (dt_cmp ok_eq (op_eqD (hu64 hr))
    (de_ix ok_ix ix_seq (de_var) (de_int) (fun _ _ => rfl)) (de_str) (nomark _)) (de_ix ok_ix ix_seq (de_var) (de_int) (fun _ _ => rfl)) (de_non))) (dss_one (ds_app
    (da_cons (de_call d_law_now (L2N.takes_of rfl rfl rfl rfl) (hr.mono (by decide)) (da_cons (de_var) (da_cons (de_var) (da_cons (de_ixH (de_neg (de_int)) (fun _ _ =>
    rfl)) (da_cons (de_var) da_nil))))) da_nil)))))) (dss_one (ds_ret (de_callTy cb_tuple call_tuple_of g.tuple_ boot_tuple (da_cons (de_var) da_nil))))))
theorem Sc_law_people : FnScope N_law_people ["size"] (defScope (top 61)) := ⟨rfl, rfl, rfl, by decide +kernel, rfl, by decide +kernel, by decide +kernel⟩
theorem W_law_people (g : Gs Z aPL aKW) {f : Addr} (cdv : Value) (A : Around) (o : List Env) (s : Shared) (H : Hp) (E : XK) (hr : Room 0 (A.deeper (envOfC "_law_people" (defScope (top 61)) s.heap.objs.size f cdv))) :
    PSs (CxD P w base Z N_law_people "_law_people" (defScope (top 61)) f cdv A o s H E) (defBody (top 61)) (upS Z (WD E) t_law_people) := by
  have S := Sc_law_people
  exact (dss_cons (ds_set S.nd (de_ofN (de_lstN da_nil))) (dss_cons (ds_for (passes_of rfl) rfl (di_range1 g.range_ (da_cons (de_int) da_nil)) (dg_name S.nd) (dss_one (ds_for
    (passes_of rfl) rfl (di_range1 g.range_ (da_cons (de_var) da_nil)) (dg_name S.nd) (dss_one (ds_set S.nd (de_op ok_add or_addAll (de_var) (de_ofN (de_lcN (own :=
    [("second", 4)]) rfl S.nd (blkOk_by (N := N_law_people) (sc := defScope (top 61)) (by decide +kernel)) (di_range1 g.range_ (da_cons (de_var) da_nil)) (fun _ _ _ _ _ =>
    (dg_name S.nd)) (fun _ _ _ _ _ => dts_nil) (fun _ _ _ _ _ => (de_tup (da_cons (de_var) (da_cons (de_var) (da_cons (de_var) da_nil))))))))))))) (dss_one (ds_ret
    (de_var)))))
theorem Sc_law_lost : FnScope N_law_lost ["moments", "way"] (defScope (top 62)) := ⟨rfl, rfl, rfl, by decide +kernel, rfl, by decide +kernel, by decide +kernel⟩
theorem W_law_lost (g : Gs Z aPL aKW) {f : Addr} (cdv : Value) (A : Around) (o : List Env) (s : Shared) (H : Hp) (E : XK) (hr : Room 0 (A.deeper (envOfC "_law_lost" (defScope (top 62)) s.heap.objs.size f cdv))) :
    PSs (CxD P w base Z N_law_lost "_law_lost" (defScope (top 62)) f cdv A o s H E) (defBody (top 62)) (upS Z (WD E) t_law_lost) := by
  have S := Sc_law_lost
  exact (dss_cons (ds_own S.nd (de_lstN da_nil)) (dss_cons (ds_for (passes_of rfl) rfl (di_range1 g.range_ (da_cons (de_op ok_sub op_sub (de_callB cb_len call_len g.len_ boot_len
    (da_cons (de_var) da_nil)) (de_int)) da_nil)) (dg_name S.nd) (dss_one (ds_if ((dw_and (dt_cmp ok_in or_in (de_var) (de_ix ok_ix ix_seq (de_var) (de_var) (fun _ _ =>
    rfl)) (by with_unfolding_all rfl)) (dw_and1 (dt_cmp ok_notIn or_notIn (de_var) (de_ix ok_ix ix_seq (de_var) (de_op ok_add or_addAll (de_var) (de_int)) (fun _ _ =>
    rfl)) (by with_unfolding_all rfl)))).pt) (dss_one (ds_app (da_cons (de_var) da_nil))) dss_nil))) (dss_one (ds_ret (de_var)))))
theorem Sc_law_calm : FnScope N_law_calm ["house", "row", "lot"] (defScope (top 65)) := ⟨rfl, rfl, rfl, by decide +kernel, rfl, by decide +kernel, by decide +kernel⟩
theorem W_law_calm (g : Gs Z aPL aKW) (d_law_people : Df P w base Z 1 "_law_people" 1 F_law_people) (d_law_seen : Df P w base Z 3 "_law_seen" 3 F_law_seen) (d_law_lost : Df P w base Z 1 "_law_lost" 2 F_law_lost) {f : Addr} (cdv : Value) (A : Around) (o : List Env) (s : Shared) (H : Hp) (E : XK) (hr : Room 3 (A.deeper (envOfC "_law_calm" (defScope (top 65)) s.heap.objs.size f cdv))) :
    PSs (CxD P w base Z N_law_calm "_law_calm" (defScope (top 65)) f cdv A o s H E) (defBody (top 65)) (upS Z (WD E) t_law_calm) := by
  have S := Sc_law_calm
  exact (dss_cons (ds_set S.nd (de_callTy cb_tuple call_tuple_of g.tuple_ boot_tuple (da_cons (de_ofN (de_lcN (own := [("at", 6), ("way", 7)]) rfl S.nd (blkOk_by (N := N_law_calm)
    (sc := defScope (top 65)) (by decide +kernel)) (di_enum g.enumerate_ (da_cons (de_ix ok_ix ix_seq (de_var) (de_int) (fun _ _ => rfl)) da_nil)) (fun _ _ _ _ _ =>
    (dg_tup rfl (dgs_cons (dg_name S.nd) (dgs_cons (dg_name S.nd) dgs_nil)))) (fun _ _ _ _ _ => dts_nil) (fun _ _ _ _ _ => (de_op ok_add or_addAll (de_slice (de_var)
    do_none (do_some (de_int))) (de_tup (da_cons (de_or (de_ix ok_ix ix_seq (de_var) (de_int) (fun _ _ => rfl)) (de_one (de_cmp ok_in or_in (de_var) (de_var) (by
    with_unfolding_all rfl)))) da_nil)))))) da_nil))) (dss_cons (ds_for (passes_of rfl) rfl (di_seq (de_call d_law_people (L2N.takes_of rfl rfl rfl rfl) (hr.mono (by
    decide)) (da_cons (de_ix ok_ix ix_seq (de_var) (de_int) (fun _ _ => rfl)) da_nil))) (dg_name S.nd) (dss_cons (ds_set S.nd (de_call d_law_seen (L2N.takes_of rfl rfl rfl
    rfl) (hr.mono (by decide)) (da_cons (de_tup (da_cons (de_ix ok_ix ix_seq (de_var) (de_int) (fun _ _ => rfl)) (da_cons (de_var) da_nil))) (da_cons (de_var) (da_cons
    (de_var) da_nil))))) (dss_one (ds_if (dt_cmp ok_ne (op_neD (hu64 hr)) (de_ofN (de_lcN (own := [("way", 7)]) rfl S.nd (blkOk_by (N := N_law_calm) (sc := defScope (top
    65)) (by decide +kernel)) (di_range1 g.range_ (da_cons (de_callB cb_len call_len g.len_ boot_len (da_cons (de_var) da_nil)) da_nil)) (fun _ _ _ _ _ => (dg_name S.nd))
    (fun _ _ _ _ _ => (dts_one (dt_cmp ok_ne (op_neD (hu64 hr)) (de_call d_law_lost takes0X (hr.mono (by decide)) (da_cons (de_var) (da_cons (de_var) da_nil))) (de_ofN
    (de_lstN da_nil)) (nomark _)))) (fun _ _ _ _ _ => (de_var)))) (de_ofN (de_lstN da_nil)) (nomark _)) (dss_one (ds_ret (de_bl))) dss_nil)))) (dss_one (ds_ret (de_bl)))))
theorem Sc_law_keeps : FnScope N_law_keeps ["house", "row"] (defScope (top 66)) := ⟨rfl, rfl, rfl, by decide +kernel, rfl, by decide +kernel, by decide +kernel⟩
theorem W_law_keeps (g : Gs Z aPL aKW) (er : ErrZ P w base Z "_law_error" labelOf 1) {T : List (Addr × Str)} {c Pt : Addr} (tz : TabZ base Z T "_law_keeps.<locals>.<lambda>" c Pt) (d_least_keeps : Df P w base Z 8 "least_keeps" 2 F_least_keeps) {f : Addr} (cdv : Value) (hcode : cdv = .ref c) (A : Around) (o : List Env) (s : Shared) (H : Hp) (E : XK) (hr : Room 10 (A.deeper (envOfC "_law_keeps" (defScope (top 66)) s.heap.objs.size f cdv))) :
    PSs (CxD P w base Z N_law_keeps "_law_keeps" (defScope (top 66)) f cdv A o s H E) (defBody (top 66)) (upS Z (WD E) t_law_keeps) := by
  have S := Sc_law_keeps
  exact (dss_one (ds_ret (de_err (k := 8) er tz hcode hr (by decide) (fun _ _ _ _ _ _ _ hr => (de_call d_least_keeps takes_lam (hr.mono (by decide)) (da_cons (de_var)
    (da_cons (de_var) da_nil)))))))
theorem Sc_law : FnScope N_law ["script"] (defScope (top 67)) := ⟨rfl, rfl, rfl, by decide +kernel, rfl, by decide +kernel, by decide +kernel⟩
theorem W_law (g : Gs Z aPL aKW) (er : ErrZ P w base Z "_law_error" labelOf 1) {T : List (Addr × Str)} {c Pt : Addr} (tz : TabZ base Z T "law.<locals>.<lambda>" c Pt) (d_law_vat : DfN P w base Z 1 "_law_vat" 2 F_law_vat) (d_law_house : Df P w base Z 4 "_law_house" 2 F_law_house) (d_law_row : Df P w base Z 5 "_law_row" 3 F_law_row) (d_law_calm : Df P w base Z 4 "_law_calm" 3 F_law_calm) (d_least_keeps : Df P w base Z 8 "least_keeps" 2 F_least_keeps) (d_law_keeps : Df P w base Z 11 "_law_keeps" 2 F_law_keeps) {f : Addr} (cdv : Value) (hcode : cdv = .ref c) (A : Around) (o : List Env) (s : Shared) (H : Hp) (E : XK) (hr : Room 13 (A.deeper (envOfC "law" (defScope (top 67)) s.heap.objs.size f cdv))) :
    PSs (CxD P w base Z N_law "law" (defScope (top 67)) f cdv A o s H E) (defBody (top 67)) (upS Z (WD E) t_law) := by
  have S := Sc_law
  exact (dss_cons (ds_for (passes_of rfl) rfl (di_range1 g.range_ (da_cons (de_callB cb_max2 (call_max2 rfl) g.max_ boot_max (da_cons (de_int) (da_cons (de_callB cb_min2
    (call_min2 rfl) g.min_ boot_min (da_cons (de_int) (da_cons (de_callB cb_len call_len g.len_ boot_len (da_cons (de_var) da_nil)) da_nil))) da_nil))) da_nil)) (dg_name
    S.nd) (dss_cons (ds_own S.nd (de_callN d_law_vat (L2N.takes_of rfl rfl rfl rfl) (hr.mono (by decide)) (da_cons (de_var) (da_cons (de_var) da_nil)))) (dss_cons (ds_for
    (passes_of rfl) rfl (di_range1 g.range_ (da_cons (de_int) da_nil)) (dg_name S.nd) (dss_cons (ds_set S.nd (de_callR d_law_house (L2N.takes_of rfl rfl rfl rfl) (hr.mono
    (by decide)) (da_cons (de_int) da_nil))) (dss_cons (ds_asg (de_tup (da_cons (de_callR d_law_row (L2N.takes_of rfl rfl rfl rfl) (hr.mono (by decide)) (da_cons (de_var)
    (da_cons (de_int) da_nil))) (da_cons (de_ofN (de_lstN (da_cons (de_tup da_nil) da_nil))) da_nil))) (dg_tup rfl (dgs_cons (dg_name S.nd) (dgs_cons (dg_name S.nd)
    dgs_nil)))) (dss_cons (ds_for (passes_of rfl) rfl (di_range1 g.range_ (da_cons (de_callB cb_len call_len g.len_ boot_len (da_cons (de_ix ok_ix ix_seq (de_var) (de_int)
    (fun _ _ => rfl)) da_nil)) da_nil)) (dg_name S.nd) (dss_one (ds_set S.nd (de_op ok_add or_addAll (de_var) (de_ofN (de_lcN (own := [("lot", 10)]) rfl S.nd (blkOk_by (N
    := N_law) (sc := defScope (top 67)) (by decide +kernel)) (di_seq (de_var)) (fun _ _ _ _ _ => (dg_name S.nd)) (fun _ _ _ _ _ => dts_nil) (fun _ _ _ _ _ => (de_op ok_add
    or_addAll (de_var) (de_tup (da_cons (de_var) da_nil)))))))))) (dss_cons (ds_setLc (own := [("lot", 10)]) rfl S.nd (blkOk_by (N := N_law) (sc := defScope (top 67)) (by
    decide +kernel)) (di_seq (de_var)) (fun _ _ _ _ _ => (dg_name S.nd)) (fun _ _ _ _ _ => (dts_one (dt_val (de_call d_law_calm takes0X (hr.mono (by decide)) (da_cons
    (de_var) (da_cons (de_var) (da_cons (de_var) da_nil))))))) (fun _ _ _ _ _ => (de_var)) (sw_true rfl rfl rfl (by decide +kernel))) (dss_cons (ds_own S.nd (de_lstN
    da_nil)) (dss_cons (ds_for (passes_of rfl) rfl (di_seq (de_var)) (dg_name S.nd) (dss_cons (ds_setLc (own := [("less", 13)]) rfl S.nd (blkOk_by (N := N_law) (sc :=
    defScope (top 67)) (by decide +kernel)) (di_seq (de_var)) (fun _ _ _ _ _ => (dg_name S.nd)) (fun _ _ _ _ _ => (dts_one (dt_cmp ok_ne (op_neD (hu64 hr)) (de_var)
    (de_var) (nomark _)))) (fun _ _ _ _ _ => (de_var)) (sw_true rfl rfl rfl (by decide +kernel))) (dss_one (ds_if (dt_cmp ok_eq (op_eqD (hu64 hr)) (de_ofN (de_lcN (own :=
    [("less", 13)]) rfl S.nd (blkOk_by (N := N_law) (sc := defScope (top 67)) (by decide +kernel)) (di_seq (de_var)) (fun _ _ _ _ _ => (dg_name S.nd)) (fun _ _ _ _ _ =>
    (dts_one (dt_cmp ok_eq (op_eqD (hu64 hr)) (de_ofN (de_lcN (own := [("way", 7)]) rfl S.nd (blkOk_by (by rfl)) (di_seq (de_var)) (fun _ _ _ _ _ => (dg_name S.nd)) (fun _
    _ _ _ _ => (dts_one (dt_cmp ok_notIn or_notIn (de_var) (de_var) (by with_unfolding_all rfl)))) (fun _ _ _ _ _ => (de_var)))) (de_ofN (de_lstN da_nil)) (nomark _))))
    (fun _ _ _ _ _ => (de_var)))) (de_ofN (de_lstN da_nil)) (nomark _)) (dss_one (ds_app (da_cons (de_var) da_nil))) dss_nil)))) (dss_one (ds_if (dt_cmp ok_ne (op_neD
    (hu64 hr)) (de_call d_least_keeps (L2N.takes_of rfl rfl rfl rfl) (hr.mono (by decide)) (da_cons (de_var) (da_cons (de_var) da_nil))) (de_ofN (de_sortT g.sorted_
    (de_var))) (nomark _)) (dss_one (ds_ret (de_bl))) dss_nil))))))))) (dss_one (ds_if (dt_cmp ok_ne (op_neD (hu64 hr)) (de_ofN (de_lstN (da_cons (de_err (k := 11)
    er tz hcode hr (by decide) (fun _ _ _ _ _ _ _ hr => (de_call d_least_keeps takes_lam (hr.mono (by decide)) (da_cons (de_var) (da_cons (de_non) da_nil))))) (da_cons
    (de_call d_law_keeps (L2N.takes_of rfl rfl rfl rfl) (hr.mono (by decide)) (da_cons (de_tup da_nil) (da_cons (de_tup da_nil) da_nil))) da_nil)))) (de_ofN (de_lstN
    (da_cons (de_str) (da_cons (de_str) da_nil)))) (nomark _)) (dss_one (ds_ret (de_bl))) dss_nil))))) (dss_cons (ds_set S.nd (de_tup (da_cons (de_int) (da_cons (de_tup
    (da_cons (de_tup (da_cons (de_int) (da_cons (de_int) (da_cons (de_int) (da_cons (de_non) (da_cons (de_tup (da_cons (de_int) (da_cons (de_int) (da_cons (de_int)
    da_nil)))) (da_cons (de_bl) da_nil))))))) (da_cons (de_tup (da_cons (de_int) (da_cons (de_int) (da_cons (de_int) (da_cons (de_non) (da_cons (de_tup (da_cons (de_int)
    da_nil)) (da_cons (de_bl) da_nil))))))) (da_cons (de_tup (da_cons (de_int) (da_cons (de_int) (da_cons (de_int) (da_cons (de_int) (da_cons (de_tup (da_cons (de_int)
    (da_cons (de_int) (da_cons (de_int) da_nil)))) (da_cons (de_bl) da_nil))))))) da_nil)))) da_nil)))) (dss_cons (ds_asg (de_tup (da_cons (de_tup (da_cons (de_tup
    (da_cons (de_str) (da_cons (de_int) (da_cons (de_int) da_nil)))) (da_cons (de_tup (da_cons (de_str) (da_cons (de_int) (da_cons (de_int) da_nil)))) (da_cons (de_tup
    (da_cons (de_str) (da_cons (de_int) (da_cons (de_int) da_nil)))) da_nil)))) (da_cons (de_tup (da_cons (de_int) (da_cons (de_tup (da_cons (de_tup (da_cons (de_int)
    (da_cons (de_int) (da_cons (de_int) (da_cons (de_non) (da_cons (de_tup (da_cons (de_int) (da_cons (de_int) (da_cons (de_int) da_nil)))) (da_cons (de_bl) da_nil)))))))
    (da_cons (de_tup (da_cons (de_int) (da_cons (de_int) (da_cons (de_int) (da_cons (de_non) (da_cons (de_tup (da_cons (de_int) (da_cons (de_int) (da_cons (de_int)
    da_nil)))) (da_cons (de_bl) da_nil))))))) da_nil))) da_nil))) da_nil))) (dg_tup rfl (dgs_cons (dg_name S.nd) (dgs_cons (dg_name S.nd) dgs_nil)))) (dss_cons (ds_if
    (dt_cmp ok_ne (op_neD (hu64 hr)) (de_ofN (de_lstN (da_cons (de_call d_least_keeps (L2N.takes_of rfl rfl rfl rfl) (hr.mono (by decide)) (da_cons (de_var) (da_cons
    (de_var) da_nil))) (da_cons (de_call d_least_keeps (L2N.takes_of rfl rfl rfl rfl) (hr.mono (by decide)) (da_cons (de_var) (da_cons (de_tup da_nil) da_nil))) (da_cons
    (de_call d_least_keeps (L2N.takes_of rfl rfl rfl rfl) (hr.mono (by decide)) (da_cons (de_var) (da_cons (de_op ok_add or_addAll (de_var) (de_tup (da_cons (de_tup
    (da_cons (de_str) (da_cons (de_int) da_nil))) da_nil))) da_nil))) da_nil))))) (de_ofN (de_lstN (da_cons (de_ofN (de_lstN (da_cons (de_tup (da_cons (de_int) da_nil))
    da_nil))) (da_cons (de_ofN (de_lstN (da_cons (de_tup da_nil) da_nil))) (da_cons (de_ofN (de_lstN da_nil)) da_nil))))) (nomark _)) (dss_one (ds_ret (de_bl))) dss_nil)
    (dss_cons (ds_if (dt_cmp ok_ne (op_neD (hu64 hr)) (de_call d_least_keeps (L2N.takes_of rfl rfl rfl rfl) (hr.mono (by decide)) (da_cons (de_var) (da_cons (de_tup
    (da_cons (de_tup (da_cons (de_str) (da_cons (de_int) (da_cons (de_int) da_nil)))) (da_cons (de_tup (da_cons (de_str) (da_cons (de_int) (da_cons (de_int) da_nil))))
    da_nil))) da_nil))) (de_ofN (de_lstN (da_cons (de_tup (da_cons (de_int) (da_cons (de_int) da_nil))) da_nil))) (nomark _)) (dss_one (ds_ret (de_bl))) dss_nil) (dss_one
    (ds_ret (de_and (de_cmp ok_eq (op_eqD (hu64 hr)) (de_call d_least_keeps (L2N.takes_of rfl rfl rfl rfl) (hr.mono (by decide)) (da_cons (de_var) (da_cons (de_tup
    (da_cons (de_tup (da_cons (de_str) (da_cons (de_int) (da_cons (de_bl) da_nil)))) (da_cons (de_tup (da_cons (de_str) (da_cons (de_int) (da_cons (de_int) da_nil))))
    da_nil))) da_nil))) (de_ofN (de_lstN (da_cons (de_tup da_nil) da_nil))) (nomark _)) (de_one (de_cmp ok_eq (op_eqD (hu64 hr)) (de_call d_least_keeps (L2N.takes_of rfl
    rfl rfl rfl) (hr.mono (by decide)) (da_cons (de_var) (da_cons (de_tup (da_cons (de_tup (da_cons (de_str) (da_cons (de_int) (da_cons (de_int) da_nil)))) (da_cons
    (de_tup (da_cons (de_str) (da_cons (de_int) (da_cons (de_bl) da_nil)))) da_nil))) da_nil))) (de_ofN (de_lstN da_nil)) (nomark _)))))))))))
end
end TS
set_option Elab.async false
set_option linter.all false
set_option maxRecDepth 100000
set_option maxHeartbeats 4000000
set_option exponentiation.threshold 10000
namespace TS
open PySem PySem.Spec PyProof.Rows L2 HotX
open L2H (HotC Hot1 PinOk RoomH cxH inv_startH)
def N_law_names : List Str := ["e", "some", "labels"]
theorem Sc_law_names : FnScope N_law_names ["e"] (defScope (top 63)) := ⟨rfl, rfl, rfl, by decide +kernel, rfl, by decide +kernel, by decide +kernel⟩
theorem Z_names {P : Program} {w : World} {base : Heap} {Z : Zx} {fz : Addr} {fdz : FuncData} (FD : FunD Z.K "_law_names" "_law_names" (defArgs (top 63)) (defBody (top 63)) (defScope (top 63)) [] [] fz fdz) (mi : Z.mg "isinstance" = none) (mz : Z.mg "zip" = none) (mv : Z.mg "ValueError" = none)
    (mc : ∀ m ∈ XN, Z.mg m = some (.ref (He.ga Z.K m))) {n r : Str} (hn : n ∈ XN) (L : LabF Z.K n) (hr : labelOf n = some r) : FnZ P w Z.K Z.mg base 1 fz fdz ["e"] (He.ga Z.K n) r := by
  have S := Sc_law_names
  refine fnZ_of FD S rfl fun A outer s H cdv E p hot hz hr' => ?_
  have HC : ∀ {X : Cx}, X = cxH (L2N.CX P w) P w Z.K Z.mg base N_law_names "_law_names" (defScope (top 63)) fz cdv A outer s H E p → CallR X (.builtin "isinstance") (rIsE X.K (He.ga Z.K n) p.1) := fun e => by
    subst e
    obtain ⟨h1, vs, h2, h3⟩ := hot
    exact call_isH (oe := p.2) (List.mem_singleton.mpr rfl) L.exc hz ⟨vs, h2⟩
  have HC := HC rfl
  have HV : Vis (cxH (L2N.CX P w) P w Z.K Z.mg base N_law_names "_law_names" (defScope (top 63)) fz cdv A outer s H E p).env.scope "e" := .inl rfl
  have HO : HotC (cxH (L2N.CX P w) P w Z.K Z.mg base N_law_names "_law_names" (defScope (top 63)) fz cdv A outer s H E p) := ⟨p, hot, List.mem_singleton.mpr rfl⟩
  have hr2 : Txt.join " " (pick (Txt.split labS " ") (flags n ++ [true])) = r := by
    unfold labelOf at hr
    rw [if_pos hn] at hr
    exact Option.some.inj hr
  refine ⟨_, pss_cons (ps_set (i := 1) S.nd rfl (.inl rfl) (pe_lst (pa_is (pe_is HC mi rfl rfl HV rfl (mc "InvalidHouse" (by decide +kernel)) (L.kit "InvalidHouse" (by decide +kernel)) rfl rfl rfl rfl rfl rfl) (pa_is (pe_is HC mi rfl rfl HV rfl (mc "InvalidPerson" (by decide +kernel)) (L.kit "InvalidPerson" (by decide +kernel)) rfl rfl rfl rfl rfl rfl) (pa_is (pe_is HC mi rfl rfl HV rfl (mc "InvalidRow" (by decide +kernel)) (L.kit "InvalidRow" (by decide +kernel)) rfl rfl rfl rfl rfl rfl) pa_is0))))) (pss_cons (ps_set (i := 1) S.nd rfl (.inl rfl) (pe_op op_cat (pv 1) (pe_lst (pa_is (pe_is HC mi rfl rfl HV rfl (mc "InvalidTurning" (by decide +kernel)) (L.kit "InvalidTurning" (by decide +kernel)) rfl rfl rfl rfl rfl rfl) (pa_is (pe_is HC mi rfl rfl HV rfl (mc "InvalidWay" (by decide +kernel)) (L.kit "InvalidWay" (by decide +kernel)) rfl rfl rfl rfl rfl rfl) (pa_is (pe_is HC mi rfl rfl HV rfl (mc "InvalidWays" (by decide +kernel)) (L.kit "InvalidWays" (by decide +kernel)) rfl rfl rfl rfl rfl rfl) pa_is0)))))) (pss_cons (ps_set (i := 1) S.nd rfl (.inl rfl) (pe_op op_cat (pv 1) (pe_lst (pa_is (pe_is HC mi rfl rfl HV rfl (mc "InvalidWeights" (by decide +kernel)) (L.kit "InvalidWeights" (by decide +kernel)) rfl rfl rfl rfl rfl rfl) (pa_is (pe_is HC mi rfl rfl HV rfl (mc "InvalidKind" (by decide +kernel)) (L.kit "InvalidKind" (by decide +kernel)) rfl rfl rfl rfl rfl rfl) pa_is0))))) (pss_cons (ps_set (i := 1) S.nd rfl (.inl rfl) (pe_op op_cat (pv 1) (pe_lst (pa_is (pe_is HC mi rfl rfl HV rfl (mc "InvalidSightings" (by decide +kernel)) (L.kit "InvalidSightings" (by decide +kernel)) rfl rfl rfl rfl rfl rfl) (pa_is (pe_is HC mi rfl rfl HV rfl (mc "InvalidAsks" (by decide +kernel)) (L.kit "InvalidAsks" (by decide +kernel)) rfl rfl rfl rfl rfl rfl) (pa_is (pe_is HC mi rfl rfl HV rfl (mc "InvalidMenu" (by decide +kernel)) (L.kit "InvalidMenu" (by decide +kernel)) rfl rfl rfl rfl rfl rfl) pa_is0)))))) (pss_cons (ps_set (i := 1) S.nd rfl (.inl rfl) (pe_op op_cat (pv 1) (pe_lst (pa_is (pe_is HC mi rfl rfl HV rfl (mc "InvalidSpread" (by decide +kernel)) (L.kit "InvalidSpread" (by decide +kernel)) rfl rfl rfl rfl rfl rfl) (pa_is (pe_is HC mi rfl rfl HV rfl (mc "InvalidNumber" (by decide +kernel)) (L.kit "InvalidNumber" (by decide +kernel)) rfl rfl rfl rfl rfl rfl) (pa_is (pe_is HC mi rfl rfl HV rfl (mc "NothingToUndo" (by decide +kernel)) (L.kit "NothingToUndo" (by decide +kernel)) rfl rfl rfl rfl rfl rfl) pa_is0)))))) (pss_cons (ps_set (i := 1) S.nd rfl (.inl rfl) (pe_op op_cat (pv 1) (pe_lst (pa_is (pe_is HC mi rfl rfl HV rfl (mc "InvalidText" (by decide +kernel)) (L.kit "InvalidText" (by decide +kernel)) rfl rfl rfl rfl rfl rfl) (pa_is (pe_is HC mi rfl rfl HV rfl (mc "TooMany" (by decide +kernel)) (L.kit "TooMany" (by decide +kernel)) rfl rfl rfl rfl rfl rfl) (pa_is (pe_isT HC mi rfl rfl HV rfl mv (by decide +kernel) (by decide) L.val rfl rfl rfl rfl rfl rfl) pa_is0)))))) (pss_cons (ps_set (i := 2) S.nd rfl (.inl rfl) pe_str) (pss_cons (ps_set (i := 2) S.nd rfl (.inl rfl) (pe_op op_add_str (pv 2) pe_str)) (pss_one (ps_ret (pe_join pe_str (pe_nm HO rfl mz (pa_cons (pe_split (pv 2) pe_str) (pa_cons (pv 1) pa_nil)) (by decide +kernel) rfl (by decide +kernel) rfl rfl (by decide) rfl rfl rfl rfl (by intro _; rfl)))))))))))), fun Q hq => ?_⟩
  refine nm_one rfl (by simp) fun p1 H1 s1 e1 => ?_
  refine nm_more rfl rfl e1 (by simp) fun p2 H2 s2 e2 => ?_
  refine nm_more rfl rfl e2 (by simp) fun p3 H3 s3 e3 => ?_
  refine nm_more rfl rfl e3 (by simp) fun p4 H4 s4 e4 => ?_
  refine nm_more rfl rfl e4 (by simp) fun p5 H5 s5 e5 => ?_
  refine nm_more rfl rfl e5 (by simp) fun p6 H6 s6 e6 => ?_
  refine nm_lab ?_
  refine nm_lab2 rfl (by decide +kernel) ?_
  refine nm_end rfl e6 rfl (by decide +kernel) (Eq.trans (b := 17) (by decide +kernel) rfl) (lab_sum n hn) hr2 fun H' sl => hq H' fun b u z => sl b u (s6 b u (s5 b u (s4 b u (s3 b u (s2 b u (s1 b u z))))))
end TS
set_option Elab.async false
set_option linter.all false
set_option maxRecDepth 100000
set_option maxHeartbeats 0
namespace TS
namespace Hd
open PySem PySem.Spec PyProof.Rows L2 TS
def d_is_whole : He.DefD := ⟨("is_whole", none), "is_whole", "is_whole", defArgs (top 21), defBody (top 21), defScope (top 21), [], []⟩
def d_is_rising : He.DefD := ⟨("is_rising", none), "is_rising", "is_rising", defArgs (top 22), defBody (top 22), defScope (top 22), [], []⟩
def d_is_part : He.DefD := ⟨("is_part", none), "is_part", "is_part", defArgs (top 23), defBody (top 23), defScope (top 23), [], []⟩
def d_is_way : He.DefD := ⟨("is_way", none), "is_way", "is_way", defArgs (top 24), defBody (top 24), defScope (top 24), [], []⟩
def d_has_house : He.DefD := ⟨("has_house", none), "has_house", "has_house", defArgs (top 25), defBody (top 25), defScope (top 25), [], []⟩
def d_is_turning : He.DefD := ⟨("is_turning", none), "is_turning", "is_turning", defArgs (top 26), defBody (top 26), defScope (top 26), [], []⟩
def d_has_row : He.DefD := ⟨("has_row", none), "has_row", "has_row", defArgs (top 27), defBody (top 27), defScope (top 27), [], []⟩
def d_need_house : He.DefD := ⟨("need_house", none), "need_house", "need_house", defArgs (top 28), defBody (top 28), defScope (top 28), [], []⟩
def d_need_row : He.DefD := ⟨("need_row", none), "need_row", "need_row", defArgs (top 29), defBody (top 29), defScope (top 29), [], []⟩
def d_turned : He.DefD := ⟨("turned", none), "turned", "turned", defArgs (top 30), defBody (top 30), defScope (top 30), [], []⟩
def d_houses_along : He.DefD := ⟨("houses_along", none), "houses_along", "houses_along", defArgs (top 31), defBody (top 31), defScope (top 31), [], []⟩
def d_fits : He.DefD := ⟨("fits", none), "fits", "fits", defArgs (top 32), defBody (top 32), defScope (top 32), [], []⟩
def d_seen_at : He.DefD := ⟨("seen_at", none), "seen_at", "seen_at", defArgs (top 33), defBody (top 33), defScope (top 33), [], []⟩
def d_back_of : He.DefD := ⟨("back_of", none), "back_of", "back_of", defArgs (top 34), defBody (top 34), defScope (top 34), [], []⟩
def d_history : He.DefD := ⟨("history", none), "history", "history", defArgs (top 35), defBody (top 35), defScope (top 35), [], []⟩
def d_cuts_of : He.DefD := ⟨("cuts_of", none), "cuts_of", "cuts_of", defArgs (top 37), defBody (top 37), defScope (top 37), [], []⟩
def d_pieces : He.DefD := ⟨("pieces", none), "pieces", "pieces", defArgs (top 38), defBody (top 38), defScope (top 38), [], []⟩
def d_all_people : He.DefD := ⟨("all_people", none), "all_people", "all_people", defArgs (top 39), defBody (top 39), defScope (top 39), [], []⟩
def d_lost_at : He.DefD := ⟨("lost_at", none), "lost_at", "lost_at", defArgs (top 41), defBody (top 41), defScope (top 41), [], []⟩
def d_histories : He.DefD := ⟨("histories", none), "histories", "histories", defArgs (top 42), defBody (top 42), defScope (top 42), [], []⟩
def d_all_lots : He.DefD := ⟨("all_lots", none), "all_lots", "all_lots", defArgs (top 44), defBody (top 44), defScope (top 44), [], []⟩
def d_with_kept : He.DefD := ⟨("with_kept", none), "with_kept", "with_kept", defArgs (top 45), defBody (top 45), defScope (top 45), [], []⟩
def d_is_calm : He.DefD := ⟨("is_calm", none), "is_calm", "is_calm", defArgs (top 46), defBody (top 46), defScope (top 46), [], []⟩
def d_least_keeps : He.DefD := ⟨("least_keeps", none), "least_keeps", "least_keeps", defArgs (top 47), defBody (top 47), defScope (top 47), [], []⟩
def d_law_vat : He.DefD := ⟨("_law_vat", none), "_law_vat", "_law_vat", defArgs (top 49), defBody (top 49), defScope (top 49), [], []⟩
def d_law_under : He.DefD := ⟨("_law_under", none), "_law_under", "_law_under", defArgs (top 50), defBody (top 50), defScope (top 50), [], []⟩
def d_law_some : He.DefD := ⟨("_law_some", none), "_law_some", "_law_some", defArgs (top 51), defBody (top 51), defScope (top 51), [], []⟩
def d_law_part_names : He.DefD := ⟨("_law_part_names", none), "_law_part_names", "_law_part_names", defArgs (top 52), defBody (top 52), defScope (top 52), [], []⟩
def d_law_kinds : He.DefD := ⟨("_law_kinds", none), "_law_kinds", "_law_kinds", defArgs (top 53), defBody (top 53), defScope (top 53), [], []⟩
def d_law_house : He.DefD := ⟨("_law_house", none), "_law_house", "_law_house", defArgs (top 54), defBody (top 54), defScope (top 54), [], []⟩
def d_law_turning : He.DefD := ⟨("_law_turning", none), "_law_turning", "_law_turning", defArgs (top 55), defBody (top 55), defScope (top 55), [], []⟩
def d_law_row : He.DefD := ⟨("_law_row", none), "_law_row", "_law_row", defArgs (top 56), defBody (top 56), defScope (top 56), [], []⟩
def d_law_turned : He.DefD := ⟨("_law_turned", none), "_law_turned", "_law_turned", defArgs (top 57), defBody (top 57), defScope (top 57), [], []⟩
def d_law_has : He.DefD := ⟨("_law_has", none), "_law_has", "_law_has", defArgs (top 58), defBody (top 58), defScope (top 58), [], []⟩
def d_law_now : He.DefD := ⟨("_law_now", none), "_law_now", "_law_now", defArgs (top 59), defBody (top 59), defScope (top 59), [], []⟩
def d_law_seen : He.DefD := ⟨("_law_seen", none), "_law_seen", "_law_seen", defArgs (top 60), defBody (top 60), defScope (top 60), [], []⟩
def d_law_people : He.DefD := ⟨("_law_people", none), "_law_people", "_law_people", defArgs (top 61), defBody (top 61), defScope (top 61), [], []⟩
def d_law_lost : He.DefD := ⟨("_law_lost", none), "_law_lost", "_law_lost", defArgs (top 62), defBody (top 62), defScope (top 62), [], []⟩
def d_law_names : He.DefD := ⟨("_law_names", none), "_law_names", "_law_names", defArgs (top 63), defBody (top 63), defScope (top 63), [], []⟩
def d_law_error : He.DefD := ⟨("_law_error", none), "_law_error", "_law_error", defArgs (top 64), defBody (top 64), defScope (top 64), [], []⟩
def d_law_calm : He.DefD := ⟨("_law_calm", none), "_law_calm", "_law_calm", defArgs (top 65), defBody (top 65), defScope (top 65), [], []⟩
def d_law_keeps : He.DefD := ⟨("_law_keeps", none), "_law_keeps", "_law_keeps", defArgs (top 66), defBody (top 66), defScope (top 66), [], []⟩
def d_law : He.DefD := ⟨("law", none), "law", "law", defArgs (top 67), defBody (top 67), defScope (top 67), [], []⟩
def fn : List He.DefD := [d_is_whole, d_is_rising, d_is_part, d_is_way, d_has_house, d_is_turning, d_has_row, d_need_house, d_need_row, d_turned, d_houses_along, d_fits, d_seen_at, d_back_of, d_history, d_cuts_of, d_pieces, d_all_people, d_lost_at, d_histories, d_all_lots, d_with_kept, d_is_calm, d_least_keeps, d_law_vat, d_law_under, d_law_some, d_law_part_names, d_law_kinds, d_law_house, d_law_turning, d_law_row, d_law_turned, d_law_has, d_law_now, d_law_seen, d_law_people, d_law_lost, d_law_names, d_law_error, d_law_calm, d_law_keeps, d_law]
def fa : List He.Fa := [.glo "is_whole", .glo "is_rising", .glo "is_part", .glo "is_way", .glo "has_house", .glo "is_turning", .glo "has_row", .glo "need_house", .glo "need_row", .glo "turned", .glo "houses_along", .glo "fits", .glo "seen_at", .glo "back_of", .glo "history", .glo "cuts_of", .glo "pieces", .glo "all_people", .glo "lost_at", .glo "histories", .glo "all_lots", .glo "with_kept", .glo "is_calm", .glo "least_keeps", .glo "_law_vat", .glo "_law_under", .glo "_law_some", .glo "_law_part_names", .glo "_law_kinds", .glo "_law_house", .glo "_law_turning", .glo "_law_row", .glo "_law_turned", .glo "_law_has", .glo "_law_now", .glo "_law_seen", .glo "_law_people", .glo "_law_lost", .glo "_law_names", .glo "_law_error", .glo "_law_calm", .glo "_law_keeps", .glo "law", .glo "ShareError", .glo "InvalidHouse", .glo "InvalidPerson", .glo "InvalidRow", .glo "InvalidTurning", .glo "InvalidWay", .glo "InvalidWays", .glo "InvalidWeights", .glo "InvalidKind", .glo "InvalidSightings", .glo "InvalidAsks", .glo "InvalidMenu", .glo "InvalidSpread", .glo "InvalidNumber", .glo "NothingToUndo", .glo "TooMany", .glo "InvalidText", .free "ValueError", .free "abs", .free "bool", .free "enumerate", .free "int", .free "isinstance", .free "len", .free "list", .free "max", .free "min", .free "range", .free "set", .free "sorted", .free "str", .free "tuple", .free "zip", .exc "ShareError", .exc "InvalidHouse", .exc "InvalidPerson", .exc "InvalidRow", .exc "InvalidTurning", .exc "InvalidWay", .exc "InvalidWays", .exc "InvalidWeights", .exc "InvalidKind", .exc "InvalidSightings", .exc "InvalidAsks", .exc "InvalidMenu", .exc "InvalidSpread", .exc "InvalidNumber", .exc "NothingToUndo", .glo "PLACES", .int "MOST_SIZE" (10 ^ 30)]
def tf : List He.Defn := [("_law_keeps", none), ("law", none)]
def ex (K : PySem.W.Frag) : Bool := labB K && apartB K tf && tupS K "PLACES" ["word", "start", "share", "fence", "kinds", "keeps"]
def names0 : List Str := ["ShareError", "InvalidHouse", "InvalidPerson", "InvalidRow", "InvalidTurning", "InvalidWay", "InvalidWays", "InvalidWeights", "InvalidKind", "InvalidSightings", "InvalidAsks", "InvalidMenu", "InvalidSpread", "InvalidNumber", "NothingToUndo", "TooMany", "InvalidText", "MOST_SIZE", "PLACES", "is_whole"]
def names1 : List Str := ["is_rising", "is_part", "is_way", "has_house", "is_turning", "has_row", "need_house", "need_row", "turned", "houses_along", "fits", "seen_at", "back_of", "history", "cuts_of", "pieces", "all_people", "lost_at", "histories", "all_lots"]
def names2 : List Str := ["with_kept", "is_calm", "least_keeps", "_law_vat", "_law_under", "_law_some", "_law_part_names", "_law_kinds", "_law_house", "_law_turning", "_law_row", "_law_turned", "_law_has", "_law_now", "_law_seen", "_law_people", "_law_lost", "_law_names", "_law_error", "_law_calm"]
def names3 : List Str := ["_law_keeps"]
def names : List Str := names0 ++ names1 ++ names2 ++ names3
abbrev R : PySem.W.OpenRow := PySem.W.OpenLaw.row PySem.Challenge.rw_turnedshares_k07_whole_ways_that_must_be
abbrev hk : PySem.W.Hook := He.hookX 5 fa fn [] tf ex
def ob (s : PySem.W.SharedT) : He.AlX := He.obsX 5 fa fn [] tf ex (HandSHeadRun.getT s)
theorem ob_eq (s : PySem.W.SharedT) : ob s = hk.obs s.abs := He.obsX_eq (HandSHeadRun.getT_eq s)
theorem run (w : World) : HandSHeadRun.RunEq R (PySem.W.view R.prog [67]) hk ob 9000 names w := by
  intro os
  kernel_rfl
end Hd
end TS
set_option Elab.async false
set_option linter.all false
set_option maxRecDepth 100000
set_option maxHeartbeats 0
namespace TS
open PySem PySem.Spec PyProof.Rows L2 LamX
theorem facts {w : World} {K : PySem.W.Frag} {h : Heap} {mg : Str → Option Value} {fa' : Addr} (X : K.In h) (G : h.Ns mainGlobals mg) (hfa : mg "law" = some (.ref fa')) (c : He.SaysX Hd.fa Hd.fn [] Hd.tf Hd.ex w h K) :
    LamX.LawAtS PySem.Challenge.rw_turnedshares_k07_whole_ways_that_must_be w K (L2N.CX (PySem.Challenge.rw_turnedshares_k07_whole_ways_that_must_be).prog w) 14 63 "script" mg fa' h := by
  have hx : (labB K && apartB K Hd.tf && tupS K "PLACES" ["word", "start", "share", "fence", "kinds", "keeps"]) = true := c.more
  obtain ⟨hx, ht0⟩ := He.ba hx
  obtain ⟨hx, hap⟩ := He.ba hx
  have hlab := hx
  obtain ⟨fd_is_whole, FD_is_whole⟩ := c.t.d.def_ 0 (d := Hd.d_is_whole) rfl
  obtain ⟨fd_is_rising, FD_is_rising⟩ := c.t.d.def_ 1 (d := Hd.d_is_rising) rfl
  obtain ⟨fd_is_part, FD_is_part⟩ := c.t.d.def_ 2 (d := Hd.d_is_part) rfl
  obtain ⟨fd_is_way, FD_is_way⟩ := c.t.d.def_ 3 (d := Hd.d_is_way) rfl
  obtain ⟨fd_has_house, FD_has_house⟩ := c.t.d.def_ 4 (d := Hd.d_has_house) rfl
  obtain ⟨fd_is_turning, FD_is_turning⟩ := c.t.d.def_ 5 (d := Hd.d_is_turning) rfl
  obtain ⟨fd_has_row, FD_has_row⟩ := c.t.d.def_ 6 (d := Hd.d_has_row) rfl
  obtain ⟨fd_need_house, FD_need_house⟩ := c.t.d.def_ 7 (d := Hd.d_need_house) rfl
  obtain ⟨fd_need_row, FD_need_row⟩ := c.t.d.def_ 8 (d := Hd.d_need_row) rfl
  obtain ⟨fd_turned, FD_turned⟩ := c.t.d.def_ 9 (d := Hd.d_turned) rfl
  obtain ⟨fd_houses_along, FD_houses_along⟩ := c.t.d.def_ 10 (d := Hd.d_houses_along) rfl
  obtain ⟨fd_fits, FD_fits⟩ := c.t.d.def_ 11 (d := Hd.d_fits) rfl
  obtain ⟨fd_seen_at, FD_seen_at⟩ := c.t.d.def_ 12 (d := Hd.d_seen_at) rfl
  obtain ⟨fd_back_of, FD_back_of⟩ := c.t.d.def_ 13 (d := Hd.d_back_of) rfl
  obtain ⟨fd_history, FD_history⟩ := c.t.d.def_ 14 (d := Hd.d_history) rfl
  obtain ⟨fd_cuts_of, FD_cuts_of⟩ := c.t.d.def_ 15 (d := Hd.d_cuts_of) rfl
  obtain ⟨fd_pieces, FD_pieces⟩ := c.t.d.def_ 16 (d := Hd.d_pieces) rfl
  obtain ⟨fd_all_people, FD_all_people⟩ := c.t.d.def_ 17 (d := Hd.d_all_people) rfl
  obtain ⟨fd_lost_at, FD_lost_at⟩ := c.t.d.def_ 18 (d := Hd.d_lost_at) rfl
  obtain ⟨fd_histories, FD_histories⟩ := c.t.d.def_ 19 (d := Hd.d_histories) rfl
  obtain ⟨fd_all_lots, FD_all_lots⟩ := c.t.d.def_ 20 (d := Hd.d_all_lots) rfl
  obtain ⟨fd_with_kept, FD_with_kept⟩ := c.t.d.def_ 21 (d := Hd.d_with_kept) rfl
  obtain ⟨fd_is_calm, FD_is_calm⟩ := c.t.d.def_ 22 (d := Hd.d_is_calm) rfl
  obtain ⟨fd_least_keeps, FD_least_keeps⟩ := c.t.d.def_ 23 (d := Hd.d_least_keeps) rfl
  obtain ⟨fd_law_vat, FD_law_vat⟩ := c.t.d.def_ 24 (d := Hd.d_law_vat) rfl
  obtain ⟨fd_law_under, FD_law_under⟩ := c.t.d.def_ 25 (d := Hd.d_law_under) rfl
  obtain ⟨fd_law_some, FD_law_some⟩ := c.t.d.def_ 26 (d := Hd.d_law_some) rfl
  obtain ⟨fd_law_part_names, FD_law_part_names⟩ := c.t.d.def_ 27 (d := Hd.d_law_part_names) rfl
  obtain ⟨fd_law_kinds, FD_law_kinds⟩ := c.t.d.def_ 28 (d := Hd.d_law_kinds) rfl
  obtain ⟨fd_law_house, FD_law_house⟩ := c.t.d.def_ 29 (d := Hd.d_law_house) rfl
  obtain ⟨fd_law_turning, FD_law_turning⟩ := c.t.d.def_ 30 (d := Hd.d_law_turning) rfl
  obtain ⟨fd_law_row, FD_law_row⟩ := c.t.d.def_ 31 (d := Hd.d_law_row) rfl
  obtain ⟨fd_law_turned, FD_law_turned⟩ := c.t.d.def_ 32 (d := Hd.d_law_turned) rfl
  obtain ⟨fd_law_has, FD_law_has⟩ := c.t.d.def_ 33 (d := Hd.d_law_has) rfl
  obtain ⟨fd_law_now, FD_law_now⟩ := c.t.d.def_ 34 (d := Hd.d_law_now) rfl
  obtain ⟨fd_law_seen, FD_law_seen⟩ := c.t.d.def_ 35 (d := Hd.d_law_seen) rfl
  obtain ⟨fd_law_people, FD_law_people⟩ := c.t.d.def_ 36 (d := Hd.d_law_people) rfl
  obtain ⟨fd_law_lost, FD_law_lost⟩ := c.t.d.def_ 37 (d := Hd.d_law_lost) rfl
  obtain ⟨fd_law_names, FD_law_names⟩ := c.t.d.def_ 38 (d := Hd.d_law_names) rfl
  obtain ⟨fd_law_error, FD_law_error⟩ := c.t.d.def_ 39 (d := Hd.d_law_error) rfl
  obtain ⟨fd_law_calm, FD_law_calm⟩ := c.t.d.def_ 40 (d := Hd.d_law_calm) rfl
  obtain ⟨fd_law_keeps, FD_law_keeps⟩ := c.t.d.def_ 41 (d := Hd.d_law_keeps) rfl
  obtain ⟨fd_law, FD_law⟩ := c.t.d.def_ 42 (d := Hd.d_law) rfl
  have e := hfa.symm.trans (He.glo_ok X G (c.t.d.fact 42 (f := .glo "law") rfl))
  cases e
  have mt0 : mg "PLACES" = some (.ref (He.ga K "PLACES")) := He.glo_ok X G (c.t.d.fact 91 (f := .glo "PLACES") rfl)
  haveI : GoodJ ⟨K, mg, Tabs (tabT K Hd.tf)⟩ := goodJ_tabs
  have g : Gs ⟨K, mg, Tabs (tabT K Hd.tf)⟩ (He.ga K "PLACES") 0 := ⟨He.free_ok X G (c.t.d.fact 61 (f := .free "abs") rfl),
    He.free_ok X G (c.t.d.fact 62 (f := .free "bool") rfl),
    He.free_ok X G (c.t.d.fact 63 (f := .free "enumerate") rfl),
    He.free_ok X G (c.t.d.fact 64 (f := .free "int") rfl),
    He.free_ok X G (c.t.d.fact 65 (f := .free "isinstance") rfl),
    He.free_ok X G (c.t.d.fact 66 (f := .free "len") rfl),
    He.free_ok X G (c.t.d.fact 67 (f := .free "list") rfl),
    He.free_ok X G (c.t.d.fact 68 (f := .free "max") rfl),
    He.free_ok X G (c.t.d.fact 69 (f := .free "min") rfl),
    He.free_ok X G (c.t.d.fact 70 (f := .free "range") rfl),
    He.free_ok X G (c.t.d.fact 71 (f := .free "set") rfl),
    He.free_ok X G (c.t.d.fact 72 (f := .free "sorted") rfl),
    He.free_ok X G (c.t.d.fact 73 (f := .free "str") rfl),
    He.free_ok X G (c.t.d.fact 74 (f := .free "tuple") rfl),
    He.free_ok X G (c.t.d.fact 75 (f := .free "zip") rfl),
    He.int_ok X G (c.t.d.fact 92 (f := .int "MOST_SIZE" (10 ^ 30)) rfl),
    ⟨mt0, fun H => tupS_rp (Z := ⟨K, mg, Tabs (tabT K Hd.tf)⟩) (x := "PLACES") (ns := ["word", "start", "share", "fence", "kinds", "keeps"]) ht0 H⟩,
    ⟨mt0, tupObj_ok (He.ba ht0).1, fun H => tupS_sq (x := "PLACES") (ns := ["word", "start", "share", "fence", "kinds", "keeps"]) ht0 H⟩,
    excF_of (Z := ⟨K, mg, Tabs (tabT K Hd.tf)⟩) (He.glo_ok X G (c.t.d.fact 43 (f := .glo "ShareError") rfl)) (c.t.d.fact 76 (f := .exc "ShareError") rfl),
    excF_of (Z := ⟨K, mg, Tabs (tabT K Hd.tf)⟩) (He.glo_ok X G (c.t.d.fact 44 (f := .glo "InvalidHouse") rfl)) (c.t.d.fact 77 (f := .exc "InvalidHouse") rfl),
    excF_of (Z := ⟨K, mg, Tabs (tabT K Hd.tf)⟩) (He.glo_ok X G (c.t.d.fact 45 (f := .glo "InvalidPerson") rfl)) (c.t.d.fact 78 (f := .exc "InvalidPerson") rfl),
    excF_of (Z := ⟨K, mg, Tabs (tabT K Hd.tf)⟩) (He.glo_ok X G (c.t.d.fact 46 (f := .glo "InvalidRow") rfl)) (c.t.d.fact 79 (f := .exc "InvalidRow") rfl),
    excF_of (Z := ⟨K, mg, Tabs (tabT K Hd.tf)⟩) (He.glo_ok X G (c.t.d.fact 47 (f := .glo "InvalidTurning") rfl)) (c.t.d.fact 80 (f := .exc "InvalidTurning") rfl),
    excF_of (Z := ⟨K, mg, Tabs (tabT K Hd.tf)⟩) (He.glo_ok X G (c.t.d.fact 48 (f := .glo "InvalidWay") rfl)) (c.t.d.fact 81 (f := .exc "InvalidWay") rfl),
    excF_of (Z := ⟨K, mg, Tabs (tabT K Hd.tf)⟩) (He.glo_ok X G (c.t.d.fact 49 (f := .glo "InvalidWays") rfl)) (c.t.d.fact 82 (f := .exc "InvalidWays") rfl),
    excF_of (Z := ⟨K, mg, Tabs (tabT K Hd.tf)⟩) (He.glo_ok X G (c.t.d.fact 50 (f := .glo "InvalidWeights") rfl)) (c.t.d.fact 83 (f := .exc "InvalidWeights") rfl),
    excF_of (Z := ⟨K, mg, Tabs (tabT K Hd.tf)⟩) (He.glo_ok X G (c.t.d.fact 51 (f := .glo "InvalidKind") rfl)) (c.t.d.fact 84 (f := .exc "InvalidKind") rfl),
    excF_of (Z := ⟨K, mg, Tabs (tabT K Hd.tf)⟩) (He.glo_ok X G (c.t.d.fact 52 (f := .glo "InvalidSightings") rfl)) (c.t.d.fact 85 (f := .exc "InvalidSightings") rfl),
    excF_of (Z := ⟨K, mg, Tabs (tabT K Hd.tf)⟩) (He.glo_ok X G (c.t.d.fact 53 (f := .glo "InvalidAsks") rfl)) (c.t.d.fact 86 (f := .exc "InvalidAsks") rfl),
    excF_of (Z := ⟨K, mg, Tabs (tabT K Hd.tf)⟩) (He.glo_ok X G (c.t.d.fact 54 (f := .glo "InvalidMenu") rfl)) (c.t.d.fact 87 (f := .exc "InvalidMenu") rfl),
    excF_of (Z := ⟨K, mg, Tabs (tabT K Hd.tf)⟩) (He.glo_ok X G (c.t.d.fact 55 (f := .glo "InvalidSpread") rfl)) (c.t.d.fact 88 (f := .exc "InvalidSpread") rfl),
    excF_of (Z := ⟨K, mg, Tabs (tabT K Hd.tf)⟩) (He.glo_ok X G (c.t.d.fact 56 (f := .glo "InvalidNumber") rfl)) (c.t.d.fact 89 (f := .exc "InvalidNumber") rfl),
    excF_of (Z := ⟨K, mg, Tabs (tabT K Hd.tf)⟩) (He.glo_ok X G (c.t.d.fact 57 (f := .glo "NothingToUndo") rfl)) (c.t.d.fact 90 (f := .exc "NothingToUndo") rfl)⟩
  have mc : ∀ m ∈ XN, mg m = some (.ref (He.ga K m)) := by
    intro m hm
    simp only [XN, List.mem_cons, List.not_mem_nil, or_false] at hm
    rcases hm with rfl | rfl | rfl | rfl | rfl | rfl | rfl | rfl | rfl | rfl | rfl | rfl | rfl | rfl | rfl | rfl
    · exact He.glo_ok X G (c.t.d.fact 44 (f := .glo "InvalidHouse") rfl)
    · exact He.glo_ok X G (c.t.d.fact 45 (f := .glo "InvalidPerson") rfl)
    · exact He.glo_ok X G (c.t.d.fact 46 (f := .glo "InvalidRow") rfl)
    · exact He.glo_ok X G (c.t.d.fact 47 (f := .glo "InvalidTurning") rfl)
    · exact He.glo_ok X G (c.t.d.fact 48 (f := .glo "InvalidWay") rfl)
    · exact He.glo_ok X G (c.t.d.fact 49 (f := .glo "InvalidWays") rfl)
    · exact He.glo_ok X G (c.t.d.fact 50 (f := .glo "InvalidWeights") rfl)
    · exact He.glo_ok X G (c.t.d.fact 51 (f := .glo "InvalidKind") rfl)
    · exact He.glo_ok X G (c.t.d.fact 52 (f := .glo "InvalidSightings") rfl)
    · exact He.glo_ok X G (c.t.d.fact 53 (f := .glo "InvalidAsks") rfl)
    · exact He.glo_ok X G (c.t.d.fact 54 (f := .glo "InvalidMenu") rfl)
    · exact He.glo_ok X G (c.t.d.fact 55 (f := .glo "InvalidSpread") rfl)
    · exact He.glo_ok X G (c.t.d.fact 56 (f := .glo "InvalidNumber") rfl)
    · exact He.glo_ok X G (c.t.d.fact 57 (f := .glo "NothingToUndo") rfl)
    · exact He.glo_ok X G (c.t.d.fact 59 (f := .glo "InvalidText") rfl)
    · exact He.glo_ok X G (c.t.d.fact 58 (f := .glo "TooMany") rfl)
  refine ⟨fd_law, Hd.tf.map (He.cT K), upF ⟨K, mg, Tabs (tabT K Hd.tf)⟩ 1 F_law, fun p hp => ?_, fun p hp => ?_, fun p hp => ?_, ?_, ?_, ?_⟩
  · obtain ⟨q, hq, rfl⟩ := List.mem_map.mp hp
    exact c.empty q hq
  · obtain ⟨q, hq, rfl⟩ := List.mem_map.mp hp
    exact c.out q hq
  · obtain ⟨q, hq, rfl⟩ := List.mem_map.mp hp
    exact PySem.W.codeHd_of_K X (c.hd q hq)
  · have b := FunD.bindsA (ps := ["script"]) FD_law fun _ _ _ _ _ _ us hl => match us, hl with | [_], _ => rfl
    exact fun s u => b s [u] rfl
  · intro H a ns hl hbits hT hS
    exact law_start hl hT hS
  · intro base KB GB htab
    have er : ErrZ (PySem.Challenge.rw_turnedshares_k07_whole_ways_that_must_be).prog w base ⟨K, mg, Tabs (tabT K Hd.tf)⟩ "_law_error" labelOf 1 := by
      refine ⟨_, _, _, _, _, ["e"], nmA K, _, _, ["call", "e"], "call", "e", "ShareError", "_law_names", _, _, _, _, _, _, _, _, _, _, _, _, _, FD_law_error, (He.glo_ok X G (c.t.d.fact 39 (f := .glo "_law_error") rfl)), FunD.bindsN FD_law_error (fun _ _ _ _ _ _ us hl => match us, hl with | [_], _ => rfl), ⟨rfl, rfl, rfl, by decide +kernel, rfl, by decide +kernel, by decide +kernel⟩, rfl, .inl rfl, rfl, rfl, rfl, He.glo_ok X G (c.t.d.fact 43 (f := .glo "ShareError") rfl), rfl, (He.glo_ok X G (c.t.d.fact 38 (f := .glo "_law_names") rfl)), FD_law_names.kp, FunD.bindsN FD_law_names (fun _ _ _ _ _ _ us hl => match us, hl with | [_], _ => rfl), ?_, ?_, by decide, by decide, by decide, by decide, by decide, by decide, fun f => rfl⟩
      · intro D r hD
        obtain ⟨n, hn, rfl, hr⟩ := nmA_inv hD
        exact Z_names (Z := ⟨K, mg, Tabs (tabT K Hd.tf)⟩) FD_law_names (He.free_ok X G (c.t.d.fact 65 (f := .free "isinstance") rfl)) (He.free_ok X G (c.t.d.fact 75 (f := .free "zip") rfl)) (He.free_ok X G (c.t.d.fact 60 (f := .free "ValueError") rfl)) mc hn (labB_ok hlab hn) hr
      · intro n r D hl hD
        have hn := label_mem hl
        have e := hD.symm.trans (mc n hn)
        cases e
        exact ⟨(labB_ok hlab hn).exm, nmA_at hlab hl⟩
    have D_law_vat : DfN (PySem.Challenge.rw_turnedshares_k07_whole_ways_that_must_be).prog w base ⟨K, mg, Tabs (tabT K Hd.tf)⟩ 1 "_law_vat" 2 F_law_vat := DfN.of (Z := ⟨K, mg, Tabs (tabT K Hd.tf)⟩) (k := 0) FD_law_vat Sc_law_vat (He.glo_ok X G (c.t.d.fact 24 (f := .glo "_law_vat") rfl)) (fun _ _ _ _ _ _ us hl => match us, hl with | [_, _], _ => rfl) rfl (fun cdv A o s H E hr => W_law_vat g cdv A o s H E hr) B_law_vat
    have D_law_under : Df (PySem.Challenge.rw_turnedshares_k07_whole_ways_that_must_be).prog w base ⟨K, mg, Tabs (tabT K Hd.tf)⟩ 1 "_law_under" 2 F_law_under := Df.of (Z := ⟨K, mg, Tabs (tabT K Hd.tf)⟩) (k := 0) FD_law_under Sc_law_under (He.glo_ok X G (c.t.d.fact 25 (f := .glo "_law_under") rfl)) (fun _ _ _ _ _ _ us hl => match us, hl with | [_, _], _ => rfl) rfl (fun cdv A o s H E hr => W_law_under g cdv A o s H E hr) B_law_under
    have D_law_some : Df (PySem.Challenge.rw_turnedshares_k07_whole_ways_that_must_be).prog w base ⟨K, mg, Tabs (tabT K Hd.tf)⟩ 2 "_law_some" 2 F_law_some := Df.of (Z := ⟨K, mg, Tabs (tabT K Hd.tf)⟩) (k := 1) FD_law_some Sc_law_some (He.glo_ok X G (c.t.d.fact 26 (f := .glo "_law_some") rfl)) (fun _ _ _ _ _ _ us hl => match us, hl with | [_, _], _ => rfl) rfl (fun cdv A o s H E hr => W_law_some g D_law_under cdv A o s H E hr) B_law_some
    have D_law_kinds : Df (PySem.Challenge.rw_turnedshares_k07_whole_ways_that_must_be).prog w base ⟨K, mg, Tabs (tabT K Hd.tf)⟩ 3 "_law_kinds" 1 F_law_kinds := Df.of (Z := ⟨K, mg, Tabs (tabT K Hd.tf)⟩) (k := 2) FD_law_kinds Sc_law_kinds (He.glo_ok X G (c.t.d.fact 28 (f := .glo "_law_kinds") rfl)) (fun _ _ _ _ _ _ us hl => match us, hl with | [_], _ => rfl) rfl (fun cdv A o s H E hr => W_law_kinds g D_law_some cdv A o s H E hr) B_law_kinds
    have D_law_house : Df (PySem.Challenge.rw_turnedshares_k07_whole_ways_that_must_be).prog w base ⟨K, mg, Tabs (tabT K Hd.tf)⟩ 4 "_law_house" 2 F_law_house := Df.of (Z := ⟨K, mg, Tabs (tabT K Hd.tf)⟩) (k := 3) FD_law_house Sc_law_house (He.glo_ok X G (c.t.d.fact 29 (f := .glo "_law_house") rfl)) (fun _ _ _ _ _ _ us hl => match us, hl with | [_, _], _ => rfl) rfl (fun cdv A o s H E hr => W_law_house g D_law_under D_law_kinds cdv A o s H E hr) B_law_house
    have D_law_turning : Df (PySem.Challenge.rw_turnedshares_k07_whole_ways_that_must_be).prog w base ⟨K, mg, Tabs (tabT K Hd.tf)⟩ 4 "_law_turning" 2 F_law_turning := Df.of (Z := ⟨K, mg, Tabs (tabT K Hd.tf)⟩) (k := 3) FD_law_turning Sc_law_turning (He.glo_ok X G (c.t.d.fact 30 (f := .glo "_law_turning") rfl)) (fun _ _ _ _ _ _ us hl => match us, hl with | [_, _], _ => rfl) rfl (fun cdv A o s H E hr => W_law_turning g D_law_under D_law_some D_law_kinds cdv A o s H E hr) B_law_turning
    have D_law_row : Df (PySem.Challenge.rw_turnedshares_k07_whole_ways_that_must_be).prog w base ⟨K, mg, Tabs (tabT K Hd.tf)⟩ 5 "_law_row" 3 F_law_row := Df.of (Z := ⟨K, mg, Tabs (tabT K Hd.tf)⟩) (k := 4) FD_law_row Sc_law_row (He.glo_ok X G (c.t.d.fact 31 (f := .glo "_law_row") rfl)) (fun _ _ _ _ _ _ us hl => match us, hl with | [_, _, _], _ => rfl) rfl (fun cdv A o s H E hr => W_law_row g D_law_under D_law_turning cdv A o s H E hr) B_law_row
    have D_law_people : Df (PySem.Challenge.rw_turnedshares_k07_whole_ways_that_must_be).prog w base ⟨K, mg, Tabs (tabT K Hd.tf)⟩ 1 "_law_people" 1 F_law_people := Df.of (Z := ⟨K, mg, Tabs (tabT K Hd.tf)⟩) (k := 0) FD_law_people Sc_law_people (He.glo_ok X G (c.t.d.fact 36 (f := .glo "_law_people") rfl)) (fun _ _ _ _ _ _ us hl => match us, hl with | [_], _ => rfl) rfl (fun cdv A o s H E hr => W_law_people g cdv A o s H E hr) B_law_people
    have D_law_has : Df (PySem.Challenge.rw_turnedshares_k07_whole_ways_that_must_be).prog w base ⟨K, mg, Tabs (tabT K Hd.tf)⟩ 1 "_law_has" 4 F_law_has := Df.of (Z := ⟨K, mg, Tabs (tabT K Hd.tf)⟩) (k := 0) FD_law_has Sc_law_has (He.glo_ok X G (c.t.d.fact 33 (f := .glo "_law_has") rfl)) (fun _ _ _ _ _ _ us hl => match us, hl with | [_, _, _, _], _ => rfl) rfl (fun cdv A o s H E hr => W_law_has g cdv A o s H E hr) B_law_has
    have D_law_now : Df (PySem.Challenge.rw_turnedshares_k07_whole_ways_that_must_be).prog w base ⟨K, mg, Tabs (tabT K Hd.tf)⟩ 2 "_law_now" 4 F_law_now := Df.of (Z := ⟨K, mg, Tabs (tabT K Hd.tf)⟩) (k := 1) FD_law_now Sc_law_now (He.glo_ok X G (c.t.d.fact 34 (f := .glo "_law_now") rfl)) (fun _ _ _ _ _ _ us hl => match us, hl with | [_, _, _, _], _ => rfl) rfl (fun cdv A o s H E hr => W_law_now g D_law_has cdv A o s H E hr) B_law_now
    have D_law_part_names : Df (PySem.Challenge.rw_turnedshares_k07_whole_ways_that_must_be).prog w base ⟨K, mg, Tabs (tabT K Hd.tf)⟩ 1 "_law_part_names" 0 F_law_part_names := Df.of (Z := ⟨K, mg, Tabs (tabT K Hd.tf)⟩) (k := 0) FD_law_part_names Sc_law_part_names (He.glo_ok X G (c.t.d.fact 27 (f := .glo "_law_part_names") rfl)) (fun _ _ _ _ _ _ us hl => match us, hl with | [], _ => rfl) rfl (fun cdv A o s H E hr => W_law_part_names g cdv A o s H E hr) B_law_part_names
    have D_law_turned : Df (PySem.Challenge.rw_turnedshares_k07_whole_ways_that_must_be).prog w base ⟨K, mg, Tabs (tabT K Hd.tf)⟩ 2 "_law_turned" 2 F_law_turned := Df.of (Z := ⟨K, mg, Tabs (tabT K Hd.tf)⟩) (k := 1) FD_law_turned Sc_law_turned (He.glo_ok X G (c.t.d.fact 32 (f := .glo "_law_turned") rfl)) (fun _ _ _ _ _ _ us hl => match us, hl with | [_, _], _ => rfl) rfl (fun cdv A o s H E hr => W_law_turned g D_law_part_names cdv A o s H E hr) B_law_turned
    have D_law_seen : Df (PySem.Challenge.rw_turnedshares_k07_whole_ways_that_must_be).prog w base ⟨K, mg, Tabs (tabT K Hd.tf)⟩ 3 "_law_seen" 3 F_law_seen := Df.of (Z := ⟨K, mg, Tabs (tabT K Hd.tf)⟩) (k := 2) FD_law_seen Sc_law_seen (He.glo_ok X G (c.t.d.fact 35 (f := .glo "_law_seen") rfl)) (fun _ _ _ _ _ _ us hl => match us, hl with | [_, _, _], _ => rfl) rfl (fun cdv A o s H E hr => W_law_seen g D_law_now D_law_turned cdv A o s H E hr) B_law_seen
    have D_law_lost : Df (PySem.Challenge.rw_turnedshares_k07_whole_ways_that_must_be).prog w base ⟨K, mg, Tabs (tabT K Hd.tf)⟩ 1 "_law_lost" 2 F_law_lost := Df.of (Z := ⟨K, mg, Tabs (tabT K Hd.tf)⟩) (k := 0) FD_law_lost Sc_law_lost (He.glo_ok X G (c.t.d.fact 37 (f := .glo "_law_lost") rfl)) (fun _ _ _ _ _ _ us hl => match us, hl with | [_, _], _ => rfl) rfl (fun cdv A o s H E hr => W_law_lost g cdv A o s H E hr) B_law_lost
    have D_law_calm : Df (PySem.Challenge.rw_turnedshares_k07_whole_ways_that_must_be).prog w base ⟨K, mg, Tabs (tabT K Hd.tf)⟩ 4 "_law_calm" 3 F_law_calm := Df.of (Z := ⟨K, mg, Tabs (tabT K Hd.tf)⟩) (k := 3) FD_law_calm Sc_law_calm (He.glo_ok X G (c.t.d.fact 40 (f := .glo "_law_calm") rfl)) (fun _ _ _ _ _ _ us hl => match us, hl with | [_, _, _], _ => rfl) rfl (fun cdv A o s H E hr => W_law_calm g D_law_people D_law_seen D_law_lost cdv A o s H E hr) B_law_calm
    have D_is_whole : Df (PySem.Challenge.rw_turnedshares_k07_whole_ways_that_must_be).prog w base ⟨K, mg, Tabs (tabT K Hd.tf)⟩ 1 "is_whole" 3 F_is_whole := Df.of (Z := ⟨K, mg, Tabs (tabT K Hd.tf)⟩) (k := 0) FD_is_whole Sc_is_whole (He.glo_ok X G (c.t.d.fact 0 (f := .glo "is_whole") rfl)) (fun _ _ _ _ _ _ us hl => match us, hl with | [_, _, _], _ => rfl) rfl (fun cdv A o s H E hr => W_is_whole g cdv A o s H E hr) B_is_whole
    have D_is_rising : Df (PySem.Challenge.rw_turnedshares_k07_whole_ways_that_must_be).prog w base ⟨K, mg, Tabs (tabT K Hd.tf)⟩ 2 "is_rising" 2 F_is_rising := Df.of (Z := ⟨K, mg, Tabs (tabT K Hd.tf)⟩) (k := 1) FD_is_rising Sc_is_rising (He.glo_ok X G (c.t.d.fact 1 (f := .glo "is_rising") rfl)) (fun _ _ _ _ _ _ us hl => match us, hl with | [_, _], _ => rfl) rfl (fun cdv A o s H E hr => W_is_rising g D_is_whole cdv A o s H E hr) B_is_rising
    have D_is_part : Df (PySem.Challenge.rw_turnedshares_k07_whole_ways_that_must_be).prog w base ⟨K, mg, Tabs (tabT K Hd.tf)⟩ 3 "is_part" 4 F_is_part := Df.of (Z := ⟨K, mg, Tabs (tabT K Hd.tf)⟩) (k := 2) FD_is_part Sc_is_part (He.glo_ok X G (c.t.d.fact 2 (f := .glo "is_part") rfl)) (fun _ _ _ _ _ _ us hl => match us, hl with | [_, _, _, _], _ => rfl) rfl (fun cdv A o s H E hr => W_is_part g D_is_whole D_is_rising cdv A o s H E hr) B_is_part
    have D_is_way : Df (PySem.Challenge.rw_turnedshares_k07_whole_ways_that_must_be).prog w base ⟨K, mg, Tabs (tabT K Hd.tf)⟩ 4 "is_way" 3 F_is_way := Df.of (Z := ⟨K, mg, Tabs (tabT K Hd.tf)⟩) (k := 3) FD_is_way Sc_is_way (He.glo_ok X G (c.t.d.fact 3 (f := .glo "is_way") rfl)) (fun _ _ _ _ _ _ us hl => match us, hl with | [_, _, _], _ => rfl) rfl (fun cdv A o s H E hr => W_is_way g D_is_part cdv A o s H E hr) B_is_way
    have D_has_house : Df (PySem.Challenge.rw_turnedshares_k07_whole_ways_that_must_be).prog w base ⟨K, mg, Tabs (tabT K Hd.tf)⟩ 5 "has_house" 1 F_has_house := Df.of (Z := ⟨K, mg, Tabs (tabT K Hd.tf)⟩) (k := 4) FD_has_house Sc_has_house (He.glo_ok X G (c.t.d.fact 4 (f := .glo "has_house") rfl)) (fun _ _ _ _ _ _ us hl => match us, hl with | [_], _ => rfl) rfl (fun cdv A o s H E hr => W_has_house g D_is_whole D_is_way cdv A o s H E hr) B_has_house
    have D_need_house : Df (PySem.Challenge.rw_turnedshares_k07_whole_ways_that_must_be).prog w base ⟨K, mg, Tabs (tabT K Hd.tf)⟩ 6 "need_house" 1 F_need_house := Df.of (Z := ⟨K, mg, Tabs (tabT K Hd.tf)⟩) (k := 5) FD_need_house Sc_need_house (He.glo_ok X G (c.t.d.fact 7 (f := .glo "need_house") rfl)) (fun _ _ _ _ _ _ us hl => match us, hl with | [_], _ => rfl) rfl (fun cdv A o s H E hr => W_need_house g D_has_house cdv A o s H E hr) B_need_house
    have D_is_turning : Df (PySem.Challenge.rw_turnedshares_k07_whole_ways_that_must_be).prog w base ⟨K, mg, Tabs (tabT K Hd.tf)⟩ 4 "is_turning" 2 F_is_turning := Df.of (Z := ⟨K, mg, Tabs (tabT K Hd.tf)⟩) (k := 3) FD_is_turning Sc_is_turning (He.glo_ok X G (c.t.d.fact 5 (f := .glo "is_turning") rfl)) (fun _ _ _ _ _ _ us hl => match us, hl with | [_, _], _ => rfl) rfl (fun cdv A o s H E hr => W_is_turning g D_is_whole D_is_part cdv A o s H E hr) B_is_turning
    have D_has_row : Df (PySem.Challenge.rw_turnedshares_k07_whole_ways_that_must_be).prog w base ⟨K, mg, Tabs (tabT K Hd.tf)⟩ 5 "has_row" 2 F_has_row := Df.of (Z := ⟨K, mg, Tabs (tabT K Hd.tf)⟩) (k := 4) FD_has_row Sc_has_row (He.glo_ok X G (c.t.d.fact 6 (f := .glo "has_row") rfl)) (fun _ _ _ _ _ _ us hl => match us, hl with | [_, _], _ => rfl) rfl (fun cdv A o s H E hr => W_has_row g D_is_turning cdv A o s H E hr) B_has_row
    have D_need_row : Df (PySem.Challenge.rw_turnedshares_k07_whole_ways_that_must_be).prog w base ⟨K, mg, Tabs (tabT K Hd.tf)⟩ 7 "need_row" 2 F_need_row := Df.of (Z := ⟨K, mg, Tabs (tabT K Hd.tf)⟩) (k := 6) FD_need_row Sc_need_row (He.glo_ok X G (c.t.d.fact 8 (f := .glo "need_row") rfl)) (fun _ _ _ _ _ _ us hl => match us, hl with | [_, _], _ => rfl) rfl (fun cdv A o s H E hr => W_need_row g D_need_house D_has_row cdv A o s H E hr) B_need_row
    have D_all_lots : Df (PySem.Challenge.rw_turnedshares_k07_whole_ways_that_must_be).prog w base ⟨K, mg, Tabs (tabT K Hd.tf)⟩ 1 "all_lots" 1 F_all_lots := Df.of (Z := ⟨K, mg, Tabs (tabT K Hd.tf)⟩) (k := 0) FD_all_lots Sc_all_lots (He.glo_ok X G (c.t.d.fact 20 (f := .glo "all_lots") rfl)) (fun _ _ _ _ _ _ us hl => match us, hl with | [_], _ => rfl) rfl (fun cdv A o s H E hr => W_all_lots g cdv A o s H E hr) B_all_lots
    have D_turned : Df (PySem.Challenge.rw_turnedshares_k07_whole_ways_that_must_be).prog w base ⟨K, mg, Tabs (tabT K Hd.tf)⟩ 1 "turned" 2 F_turned := Df.of (Z := ⟨K, mg, Tabs (tabT K Hd.tf)⟩) (k := 0) FD_turned Sc_turned (He.glo_ok X G (c.t.d.fact 9 (f := .glo "turned") rfl)) (fun _ _ _ _ _ _ us hl => match us, hl with | [_, _], _ => rfl) rfl (fun cdv A o s H E hr => W_turned g cdv A o s H E hr) B_turned
    have D_houses_along : Df (PySem.Challenge.rw_turnedshares_k07_whole_ways_that_must_be).prog w base ⟨K, mg, Tabs (tabT K Hd.tf)⟩ 2 "houses_along" 2 F_houses_along := Df.of (Z := ⟨K, mg, Tabs (tabT K Hd.tf)⟩) (k := 1) FD_houses_along Sc_houses_along (He.glo_ok X G (c.t.d.fact 10 (f := .glo "houses_along") rfl)) (fun _ _ _ _ _ _ us hl => match us, hl with | [_, _], _ => rfl) rfl (fun cdv A o s H E hr => W_houses_along g D_turned cdv A o s H E hr) B_houses_along
    have D_cuts_of : Df (PySem.Challenge.rw_turnedshares_k07_whole_ways_that_must_be).prog w base ⟨K, mg, Tabs (tabT K Hd.tf)⟩ 1 "cuts_of" 2 F_cuts_of := Df.of (Z := ⟨K, mg, Tabs (tabT K Hd.tf)⟩) (k := 0) FD_cuts_of Sc_cuts_of (He.glo_ok X G (c.t.d.fact 15 (f := .glo "cuts_of") rfl)) (fun _ _ _ _ _ _ us hl => match us, hl with | [_, _], _ => rfl) rfl (fun cdv A o s H E hr => W_cuts_of g cdv A o s H E hr) B_cuts_of
    have D_pieces : Df (PySem.Challenge.rw_turnedshares_k07_whole_ways_that_must_be).prog w base ⟨K, mg, Tabs (tabT K Hd.tf)⟩ 2 "pieces" 2 F_pieces := Df.of (Z := ⟨K, mg, Tabs (tabT K Hd.tf)⟩) (k := 1) FD_pieces Sc_pieces (He.glo_ok X G (c.t.d.fact 16 (f := .glo "pieces") rfl)) (fun _ _ _ _ _ _ us hl => match us, hl with | [_, _], _ => rfl) rfl (fun cdv A o s H E hr => W_pieces g D_cuts_of cdv A o s H E hr) B_pieces
    have D_all_people : Df (PySem.Challenge.rw_turnedshares_k07_whole_ways_that_must_be).prog w base ⟨K, mg, Tabs (tabT K Hd.tf)⟩ 3 "all_people" 1 F_all_people := Df.of (Z := ⟨K, mg, Tabs (tabT K Hd.tf)⟩) (k := 2) FD_all_people Sc_all_people (He.glo_ok X G (c.t.d.fact 17 (f := .glo "all_people") rfl)) (fun _ _ _ _ _ _ us hl => match us, hl with | [_], _ => rfl) rfl (fun cdv A o s H E hr => W_all_people g D_pieces cdv A o s H E hr) B_all_people
    have D_fits : Df (PySem.Challenge.rw_turnedshares_k07_whole_ways_that_must_be).prog w base ⟨K, mg, Tabs (tabT K Hd.tf)⟩ 1 "fits" 4 F_fits := Df.of (Z := ⟨K, mg, Tabs (tabT K Hd.tf)⟩) (k := 0) FD_fits Sc_fits (He.glo_ok X G (c.t.d.fact 11 (f := .glo "fits") rfl)) (fun _ _ _ _ _ _ us hl => match us, hl with | [_, _, _, _], _ => rfl) rfl (fun cdv A o s H E hr => W_fits g cdv A o s H E hr) B_fits
    have D_seen_at : Df (PySem.Challenge.rw_turnedshares_k07_whole_ways_that_must_be).prog w base ⟨K, mg, Tabs (tabT K Hd.tf)⟩ 2 "seen_at" 4 F_seen_at := Df.of (Z := ⟨K, mg, Tabs (tabT K Hd.tf)⟩) (k := 1) FD_seen_at Sc_seen_at (He.glo_ok X G (c.t.d.fact 12 (f := .glo "seen_at") rfl)) (fun _ _ _ _ _ _ us hl => match us, hl with | [_, _, _, _], _ => rfl) rfl (fun cdv A o s H E hr => W_seen_at g D_fits cdv A o s H E hr) B_seen_at
    have D_back_of : Df (PySem.Challenge.rw_turnedshares_k07_whole_ways_that_must_be).prog w base ⟨K, mg, Tabs (tabT K Hd.tf)⟩ 1 "back_of" 1 F_back_of := Df.of (Z := ⟨K, mg, Tabs (tabT K Hd.tf)⟩) (k := 0) FD_back_of Sc_back_of (He.glo_ok X G (c.t.d.fact 13 (f := .glo "back_of") rfl)) (fun _ _ _ _ _ _ us hl => match us, hl with | [_], _ => rfl) rfl (fun cdv A o s H E hr => W_back_of g cdv A o s H E hr) B_back_of
    have D_history : Df (PySem.Challenge.rw_turnedshares_k07_whole_ways_that_must_be).prog w base ⟨K, mg, Tabs (tabT K Hd.tf)⟩ 3 "history" 3 F_history := Df.of (Z := ⟨K, mg, Tabs (tabT K Hd.tf)⟩) (k := 2) FD_history Sc_history (He.glo_ok X G (c.t.d.fact 14 (f := .glo "history") rfl)) (fun _ _ _ _ _ _ us hl => match us, hl with | [_, _, _], _ => rfl) rfl (fun cdv A o s H E hr => W_history g D_seen_at D_back_of cdv A o s H E hr) B_history
    have D_histories : Df (PySem.Challenge.rw_turnedshares_k07_whole_ways_that_must_be).prog w base ⟨K, mg, Tabs (tabT K Hd.tf)⟩ 4 "histories" 2 F_histories := Df.of (Z := ⟨K, mg, Tabs (tabT K Hd.tf)⟩) (k := 3) FD_histories Sc_histories (He.glo_ok X G (c.t.d.fact 19 (f := .glo "histories") rfl)) (fun _ _ _ _ _ _ us hl => match us, hl with | [_, _], _ => rfl) rfl (fun cdv A o s H E hr => W_histories g D_houses_along D_all_people D_history cdv A o s H E hr) B_histories
    have D_lost_at : Df (PySem.Challenge.rw_turnedshares_k07_whole_ways_that_must_be).prog w base ⟨K, mg, Tabs (tabT K Hd.tf)⟩ 1 "lost_at" 2 F_lost_at := Df.of (Z := ⟨K, mg, Tabs (tabT K Hd.tf)⟩) (k := 0) FD_lost_at Sc_lost_at (He.glo_ok X G (c.t.d.fact 18 (f := .glo "lost_at") rfl)) (fun _ _ _ _ _ _ us hl => match us, hl with | [_, _], _ => rfl) rfl (fun cdv A o s H E hr => W_lost_at g cdv A o s H E hr) B_lost_at
    have D_is_calm : Df (PySem.Challenge.rw_turnedshares_k07_whole_ways_that_must_be).prog w base ⟨K, mg, Tabs (tabT K Hd.tf)⟩ 5 "is_calm" 2 F_is_calm := Df.of (Z := ⟨K, mg, Tabs (tabT K Hd.tf)⟩) (k := 4) FD_is_calm Sc_is_calm (He.glo_ok X G (c.t.d.fact 22 (f := .glo "is_calm") rfl)) (fun _ _ _ _ _ _ us hl => match us, hl with | [_, _], _ => rfl) rfl (fun cdv A o s H E hr => W_is_calm g D_histories D_lost_at cdv A o s H E hr) B_is_calm
    have D_with_kept : Df (PySem.Challenge.rw_turnedshares_k07_whole_ways_that_must_be).prog w base ⟨K, mg, Tabs (tabT K Hd.tf)⟩ 1 "with_kept" 2 F_with_kept := Df.of (Z := ⟨K, mg, Tabs (tabT K Hd.tf)⟩) (k := 0) FD_with_kept Sc_with_kept (He.glo_ok X G (c.t.d.fact 21 (f := .glo "with_kept") rfl)) (fun _ _ _ _ _ _ us hl => match us, hl with | [_, _], _ => rfl) rfl (fun cdv A o s H E hr => W_with_kept g cdv A o s H E hr) B_with_kept
    have D_least_keeps : Df (PySem.Challenge.rw_turnedshares_k07_whole_ways_that_must_be).prog w base ⟨K, mg, Tabs (tabT K Hd.tf)⟩ 8 "least_keeps" 2 F_least_keeps := Df.of (Z := ⟨K, mg, Tabs (tabT K Hd.tf)⟩) (k := 7) FD_least_keeps Sc_least_keeps (He.glo_ok X G (c.t.d.fact 23 (f := .glo "least_keeps") rfl)) (fun _ _ _ _ _ _ us hl => match us, hl with | [_, _], _ => rfl) rfl (fun cdv A o s H E hr => W_least_keeps g D_need_row D_all_lots D_is_calm D_with_kept cdv A o s H E hr) B_least_keeps
    have tz_law_keeps := tabZ_of (base := base) (mg := mg) (p := ("_law_keeps", none)) (q := "_law_keeps.<locals>.<lambda>") (List.mem_of_getElem? (i := 0) rfl) (by decide +kernel) hap (htab _ (List.mem_map.mpr ⟨_, List.mem_of_getElem? (l := Hd.tf) (i := 0) rfl, rfl⟩))
    have D_law_keeps : Df (PySem.Challenge.rw_turnedshares_k07_whole_ways_that_must_be).prog w base ⟨K, mg, Tabs (tabT K Hd.tf)⟩ 11 "_law_keeps" 2 F_law_keeps := ⟨_, _, _, Df.ofC (Z := ⟨K, mg, Tabs (tabT K Hd.tf)⟩) (k := 10) (m := 2) FD_law_keeps Sc_law_keeps rfl (fun cdv A o s H E hcd _ hr => W_law_keeps g er tz_law_keeps D_least_keeps cdv (hcd.symm.trans (codeOf_fd (p := ("_law_keeps", none)) FD_law_keeps)) A o s H E hr) B_law_keeps, (He.glo_ok X G (c.t.d.fact 41 (f := .glo "_law_keeps") rfl)), FD_law_keeps.kp, FunD.bindsN FD_law_keeps (fun _ _ _ _ _ _ us hl => match us, hl with | [_, _], _ => rfl)⟩
    have tz_law := tabZ_of (base := base) (mg := mg) (p := ("law", none)) (q := "law.<locals>.<lambda>") (List.mem_of_getElem? (i := 1) rfl) (by decide +kernel) hap (htab _ (List.mem_map.mpr ⟨_, List.mem_of_getElem? (l := Hd.tf) (i := 1) rfl, rfl⟩))
    exact Df.ofC (Z := ⟨K, mg, Tabs (tabT K Hd.tf)⟩) (k := 13) (m := 1) FD_law Sc_law rfl (fun cdv A o s H E hcd _ hr => W_law g er tz_law D_law_vat D_law_house D_law_row D_law_calm D_least_keeps D_law_keeps cdv (hcd.symm.trans (codeOf_fd (p := ("law", none)) FD_law)) A o s H E hr) B_law
end TS
open PySem PySem.W PySem.Calls PyProof.Rows
set_option maxRecDepth 100000 in
set_option maxHeartbeats 0 in
theorem PySem.Challenge.cw_turnedshares_k07_whole_ways_that_must_be_holds : PySem.Challenge.rw_turnedshares_k07_whole_ways_that_must_be.Holds := by
  w_on; o_law
  refine HandSHeadRun.head_any (r := OpenLaw.row PySem.Challenge.rw_turnedshares_k07_whole_ways_that_must_be) (q := view (OpenLaw.row PySem.Challenge.rw_turnedshares_k07_whole_ways_that_must_be).prog [67]) (H := TS.Hd.hk) (ob := TS.Hd.ob) (M := 9000) (loose := TS.Hd.names) (d := HandSHeadRun.topDef (OpenLaw.row PySem.Challenge.rw_turnedshares_k07_whole_ways_that_must_be).prog 67) (kwd := []) TS.Hd.ob_eq
    (by kernel_rfl) (fun s => by kernel_rfl) TS.Hd.run (by kernel_rfl) (by kernel_rfl) (by kernel_rfl) (by rfl) (by first | assumption | decide +kernel) (by decide +kernel) ⟨rfl, rfl, rfl, rfl, rfl, by decide +kernel⟩ ?hw ?hc
  case hw => w_witness2
  case hc =>
    refine LamX.walk_ofTsE (l := PySem.Challenge.rw_turnedshares_k07_whole_ways_that_must_be) (n := 63) (k := 14) (x := "script") (CX := fun w => L2N.CX (PySem.Challenge.rw_turnedshares_k07_whole_ways_that_must_be).prog w) rfl (by decide) (by kernel_rfl) ⟨rfl, by decide, by decide⟩ ?F ?X
    case X => exact fun w H s e s' => TS.cx_none
    case F =>
      intro w mg fa h Y G hmg0
      obtain ⟨K, KX, c⟩ := Y
      have hmg : mg ("law" : PySem.Str) = some (.ref fa) := by
        have e : (HandSHeadRun.topDef (OpenLaw.row PySem.Challenge.rw_turnedshares_k07_whole_ways_that_must_be).prog 67).name = ("law" : PySem.Str) := by kernel_rfl
        rw [← e]
        exact hmg0
      exact ⟨K, KX, TS.facts KX G hmg c⟩
