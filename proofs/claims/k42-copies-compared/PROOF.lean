import PyProof.Rows.All
import Wide.All
import OpenK.AllK
import Wide.FinOn
import KE.KStateDown
import Lean
import HandS.ForMost
import HandS.Flow
import HandS.Style
import HandS.Defaults
import HandS.MakeKw
import HandS.IsInst
import HandS.Conv
import HandS.Codes
import HandS.StrMore
import HandS.TupAny
import HandS.TupMul
import HandS.Wide
import HandS.WideMore
import HandS.FStr
import HandS.RaiseMore
import HandS.SetKeys
import HandS.Strs
import HandS.Deep
import HandS.HeadHook2
import HandS.MakeKwOnly
import HandS.Zip
import KE.GoesEnumKw
import PyProof.InstEq
import HandS.SlotsOwn
import HandS.More
import PyProof.StrOps2
import KE.DatumIndex
import PyProof.ReprRoads
import PyProof.P3In
import KE.KRevSl
import HandS.Ends
import HandS.EndBits
import HandS.Words
import HandS.WordsExc
import HandS.Head0
import HandS.Head1
import HandS.Head2
import HandS.HeadEnd
import HandS.HeadHook1
import PySem.Challenge.RW_paperkin_k42_copies_compared
import HandS.WordsDict
set_option Elab.async false
set_option linter.all false
set_option maxRecDepth 100000
set_option maxHeartbeats 4000000
/-! PkA: a small logic of kept and own objects over the hand layer: B, what is kept; M, what is one's own. -/
namespace Pap
open PySem PySem.Spec L2

abbrev MM := List (Addr × HO)
/-- B stands in H, M too, apart -/
structure Wd (B : Hp) (M : MM) (H : Hp) : Prop where
  per : ∀ a o, B a = some o → H a = some o
  exc : ∀ c ∈ M, H c.1 = some c.2 ∧ B c.1 = none
  nd : (M.map (·.1)).Nodup
/-- more is kept -/
def Ex (B B' : Hp) : Prop := ∀ a o, B a = some o → B' a = some o
theorem Ex.rfl' {B : Hp} : Ex B B := fun _ _ h => h
theorem Ex.trans {B B1 B2 : Hp} (a : Ex B B1) (b : Ex B1 B2) : Ex B B2 := fun c o h => b c o (a c o h)
theorem Ex.new {B : Hp} {p : Addr} {o : HO} (h : B p = none) : Ex B (upd B p o) := fun a u e => by rw [upd_ne (ne_of_none e h)]; exact e

section
variable {B : Hp} {M M' R : MM} {H : Hp} {a p : Addr} {o o' u : HO}
theorem Wd.at_ (W : Wd B M H) (h : (a, o) ∈ M) : H a = some o := (W.exc _ h).1
theorem Wd.perm (W : Wd B M H) (h : M.Perm M') : Wd B M' H :=
  ⟨W.per, fun c hc => W.exc c (h.mem_iff.mpr hc), ((h.map _).nodup_iff).mp W.nd⟩
theorem Wd.hd (W : Wd B ((a, o) :: M) H) : H a = some o := W.at_ (List.mem_cons_self ..)
theorem Wd.drop (W : Wd B ((a, o) :: M) H) : Wd B M H :=
  ⟨W.per, fun c hc => W.exc c (List.mem_cons_of_mem _ hc), (List.nodup_cons.mp W.nd).2⟩
theorem Wd.free (W : Wd B M H) (hp : H p = none) : B p = none := by
  cases e : B p with
  | none => rfl
  | some v => rw [W.per _ _ e] at hp; cases hp
theorem Wd.out (W : Wd B M H) (hp : H p = none) : ∀ c ∈ M, c.1 ≠ p := fun c hc e => by
  have h1 := (W.exc c hc).1
  rw [e, hp] at h1; cases h1
/-- a new object, one's own -/
theorem Wd.new (W : Wd B M H) (hp : H p = none) : Wd B ((p, o) :: M) (upd H p o) := by
  refine ⟨fun b v e => ?_, fun c hc => ?_, ?_⟩
  · rw [upd_ne (ne_of_none (W.per _ _ e) hp)]; exact W.per _ _ e
  · rcases List.mem_cons.mp hc with rfl | hc
    · exact ⟨upd_same, W.free hp⟩
    · exact ⟨by rw [upd_ne (W.out hp c hc)]; exact (W.exc c hc).1, (W.exc c hc).2⟩
  · refine List.nodup_cons.mpr ⟨fun h => ?_, W.nd⟩
    obtain ⟨c, hc, e⟩ := List.mem_map.mp h
    exact W.out hp c hc e
/-- an object that nobody asks for any more is laid -/
theorem Wd.lay (W : Wd B M H) (hp : H p = none) : Wd B M (upd H p o) := (W.new (o := o) hp).drop
/-- one's own object is kept from now on -/
theorem Wd.keep (W : Wd B ((p, o) :: M) H) : Wd (upd B p o) M H := by
  have hB := (W.exc _ (List.mem_cons_self ..)).2
  have nd := List.nodup_cons.mp W.nd
  refine ⟨fun b v e => ?_, fun c hc => ?_, nd.2⟩
  · by_cases hb : b = p
    · subst hb; rw [upd_same] at e; cases e; exact W.hd
    · rw [upd_ne hb] at e; exact W.per _ _ e
  · have hne : c.1 ≠ p := fun e => nd.1 (List.mem_map.mpr ⟨c, hc, e⟩)
    exact ⟨(W.exc c (List.mem_cons_of_mem _ hc)).1, by rw [upd_ne hne]; exact (W.exc c (List.mem_cons_of_mem _ hc)).2⟩
theorem Wd.fresh (W : Wd B ((p, o) :: M) H) : B p = none := (W.exc _ (List.mem_cons_self ..)).2
/-- one's own object changes -/
theorem Wd.write (W : Wd B ((a, o) :: M) H) : Wd B ((a, u) :: M) (upd H a u) := by
  have nd := List.nodup_cons.mp W.nd
  refine ⟨fun b v e => ?_, fun c hc => ?_, W.nd⟩
  · have hb : b ≠ a := fun q => by rw [q, W.fresh] at e; cases e
    rw [upd_ne hb]; exact W.per _ _ e
  · rcases List.mem_cons.mp hc with rfl | hc
    · exact ⟨upd_same, W.fresh⟩
    · have hne : c.1 ≠ a := fun e => nd.1 (List.mem_map.mpr ⟨c, hc, e⟩)
      exact ⟨by rw [upd_ne hne]; exact (W.exc c (List.mem_cons_of_mem _ hc)).1, (W.exc c (List.mem_cons_of_mem _ hc)).2⟩
end
/-- M is c and R, and F puts another one in c's place -/
inductive Sel : MM → MM → MM → (MM → MM) → Prop
  | hd (c R : MM) : Sel (c ++ R) c R (fun c' => c' ++ R)
  | tl {M c R : MM} {F : MM → MM} (d : Addr × HO) (h : Sel M c R F) : Sel (d :: M) c (d :: R) (fun c' => d :: F c')
theorem Sel.one (a : Addr) (o : HO) (R : MM) : Sel ((a, o) :: R) [(a, o)] R (fun c' => c' ++ R) := Sel.hd [(a, o)] R
theorem Sel.perm {M c R : MM} {F : MM → MM} (h : Sel M c R F) : M.Perm (c ++ R) ∧ ∀ c', (F c').Perm (c' ++ R) := by
  induction h with
  | hd c R => exact ⟨.refl _, fun _ => .refl _⟩
  | tl d h ih => exact ⟨(ih.1.cons d).trans List.perm_middle.symm, fun c' => ((ih.2 c').cons d).trans List.perm_middle.symm⟩
/-- where an object stands -/
def At (B : Hp) (M : MM) (a : Addr) (o : HO) : Prop := B a = some o ∨ (a, o) ∈ M
theorem At.of {B : Hp} {M : MM} {H : Hp} {a : Addr} {o : HO} (h : At B M a o) (W : Wd B M H) : H a = some o := h.elim (W.per _ _) W.at_

/-! ### what follows -/
abbrev KW := V → Hp → MM → Prop
def EW (te : TE) (σ : St) (B : Hp) (M : MM) (Q : KW) : Prop :=
  ∀ Q' : VK, (∀ v B' M' H', Wd B' M' H' → Q v B' M' → Q' v H') → ∀ H, Wd B M H → te σ H Q'
def TW (tt : TT) (σ : St) (B : Hp) (M : MM) (Q : Bool → Hp → MM → Prop) : Prop :=
  ∀ Q' : Bool → Hp → Prop, (∀ v B' M' H', Wd B' M' H' → Q v B' M' → Q' v H') → ∀ H, Wd B M H → tt σ H Q'
def AW (ta : TA) (σ : St) (B : Hp) (M : MM) (Q : List V → Hp → MM → Prop) : Prop :=
  ∀ Q' : List V → Hp → Prop, (∀ v B' M' H', Wd B' M' H' → Q v B' M' → Q' v H') → ∀ H, Wd B M H → ta σ H Q'
def OW (to : TO) (σ : St) (B : Hp) (M : MM) (Q : Option Int → Hp → MM → Prop) : Prop :=
  ∀ Q' : Option Int → Hp → Prop, (∀ v B' M' H', Wd B' M' H' → Q v B' M' → Q' v H') → ∀ H, Wd B M H → to σ H Q'
def R2W (r : R2) (x y : V) (B : Hp) (M : MM) (Q : KW) : Prop :=
  ∀ Q' : VK, (∀ v B' M' H', Wd B' M' H' → Q v B' M' → Q' v H') → ∀ H, Wd B M H → r x y H Q'
def R1W (r : V → Hp → VK → Prop) (x : V) (B : Hp) (M : MM) (Q : KW) : Prop :=
  ∀ Q' : VK, (∀ v B' M' H', Wd B' M' H' → Q v B' M' → Q' v H') → ∀ H, Wd B M H → r x H Q'
def RLW (r : List V → Hp → VK → Prop) (vs : List V) (B : Hp) (M : MM) (Q : KW) : Prop :=
  ∀ Q' : VK, (∀ v B' M' H', Wd B' M' H' → Q v B' M' → Q' v H') → ∀ H, Wd B M H → r vs H Q'
def RMW (r : V → List V → Hp → VK → Prop) (x : V) (vs : List V) (B : Hp) (M : MM) (Q : KW) : Prop :=
  ∀ Q' : VK, (∀ v B' M' H', Wd B' M' H' → Q v B' M' → Q' v H') → ∀ H, Wd B M H → r x vs H Q'
def RSW (r : V → Option Int → Option Int → Hp → VK → Prop) (x : V) (l h : Option Int) (B : Hp) (M : MM) (Q : KW) : Prop :=
  ∀ Q' : VK, (∀ v B' M' H', Wd B' M' H' → Q v B' M' → Q' v H') → ∀ H, Wd B M H → r x l h H Q'
def CW (sp : Sp) (E : XK) (vs : List V) (B : Hp) (M : MM) (Q : KW) : Prop :=
  ∀ Q' : VK, (∀ v B' M' H', Wd B' M' H' → Q v B' M' → Q' v H') → ∀ H, Wd B M H → sp vs H Q' E
/-- what is wanted behind a statement -/
structure DW where
  nx : St → Hp → MM → Prop
  rt : KW
  bk : St → Hp → MM → Prop := fun _ _ _ => False
  ct : St → Hp → MM → Prop := fun _ _ _ => False
structure DLe (D : DW) (D' : Ends) : Prop where
  nx : ∀ σ B M H, Wd B M H → D.nx σ B M → D'.nx σ H
  rt : ∀ v B M H, Wd B M H → D.rt v B M → D'.rt v H
  bk : ∀ σ B M H, Wd B M H → D.bk σ B M → D'.bk σ H
  ct : ∀ σ B M H, Wd B M H → D.ct σ B M → D'.ct σ H
def SW (ts : TS) (D : DW) (σ : St) (B : Hp) (M : MM) : Prop := ∀ D' : Ends, DLe D D' → ∀ H, Wd B M H → ts D' σ H
def GW (g : TG) (v : V) (σ : St) (B : Hp) (M : MM) (Q : St → Hp → MM → Prop) : Prop :=
  ∀ Q' : St → Hp → Prop, (∀ σ' B' M' H', Wd B' M' H' → Q σ' B' M' → Q' σ' H') → ∀ H, Wd B M H → g v σ H Q'
def GsW (g : TGs) (vs : List V) (σ : St) (B : Hp) (M : MM) (Q : St → Hp → MM → Prop) : Prop :=
  ∀ Q' : St → Hp → Prop, (∀ σ' B' M' H', Wd B' M' H' → Q σ' B' M' → Q' σ' H') → ∀ H, Wd B M H → g vs σ H Q'

/-! ### expressions -/
section
variable {K : PySem.W.Frag} {σ : St} {B B' : Hp} {M M' : MM} {Q : KW} {ta tb tc te : TE} {tt tu : TT} {v x y : V} {i : Nat}
theorem ew_var (h : σ[i]? = some (some v)) (q : Q v B M) : EW (tVar i) σ B M Q := fun _ k H W => ⟨v, h, k _ _ _ _ W q⟩
theorem ew_c (q : Q v B M) : EW (tC v) σ B M Q := fun _ k H W => k _ _ _ _ W q
theorem ew_op {r : R2} (h : EW ta σ B M fun x B1 M1 => EW tb σ B1 M1 fun y B2 M2 => R2W r x y B2 M2 Q) : EW (tOp r ta tb) σ B M Q := fun Q' k H W =>
  h _ (fun x B1 M1 H1 W1 h1 => h1 _ (fun y B2 M2 H2 W2 h2 => h2 Q' k H2 W2) H1 W1) H W
theorem ew_un {r : V → Hp → VK → Prop} (h : EW ta σ B M fun x B1 M1 => R1W r x B1 M1 Q) : EW (tUn r ta) σ B M Q := fun Q' k H W =>
  h _ (fun x B1 M1 H1 W1 h1 => h1 Q' k H1 W1) H W
theorem ew_cb {r : List V → Hp → VK → Prop} {t : TA} (h : AW t σ B M fun vs B1 M1 => RLW r vs B1 M1 Q) : EW (tCB r t) σ B M Q := fun Q' k H W =>
  h _ (fun x B1 M1 H1 W1 h1 => h1 Q' k H1 W1) H W
theorem ew_call {sp : Sp} {dvs : List V} {E : XK} {t : TA} (h : AW t σ B M fun vs B1 M1 => CW sp E (vs ++ dvs) B1 M1 Q) : EW (tCall sp dvs E t) σ B M Q := fun Q' k H W =>
  h _ (fun x B1 M1 H1 W1 h1 => h1 Q' k H1 W1) H W
theorem ew_meth {C : Addr} {m : Str} {sp : Sp} {dvs : List V} {E : XK} {t : TA}
    (h : EW ta σ B M fun x B1 M1 => ∃ a dx fs, x = .ref a ∧ At B1 M1 a (.ins C dx fs) ∧ fs.lookup m = none ∧ AW t σ B1 M1 fun vs B2 M2 => CW sp E (x :: (vs ++ dvs)) B2 M2 Q) : EW (tMeth C m sp dvs E ta t) σ B M Q := fun Q' k H W => by
  refine h _ (fun x B1 M1 H1 W1 h1 => ?_) H W
  obtain ⟨a, dx, fs, rfl, ha, hl, h2⟩ := h1
  exact ⟨a, dx, fs, rfl, ha.of W1, hl, h2 _ (fun vs B2 M2 H2 W2 h3 => h3 Q' k H2 W2) H1 W1⟩
theorem ew_fld {f : Str} {C : Addr} (hc : Cls K C) (hn : NoAttr K C f) (h : EW ta σ B M fun x B1 M1 => ∃ a dx fs v, x = .ref a ∧ At B1 M1 a (.ins C dx fs) ∧ fs.lookup f = some v ∧ Q v B1 M1) : EW (tFld K ta f) σ B M Q := fun Q' k H W => by
  refine h _ (fun x B1 M1 H1 W1 h1 => ?_) H W
  obtain ⟨a, dx, fs, v, rfl, ha, hl, q⟩ := h1
  exact ⟨a, C, dx, fs, v, rfl, ha.of W1, hc, hn, hl, k _ _ _ _ W1 q⟩
theorem ew_if (h : TW tt σ B M fun c B1 M1 => (c = true → EW ta σ B1 M1 Q) ∧ (c = false → EW tb σ B1 M1 Q)) : EW (tIf tt ta tb) σ B M Q := fun Q' k H W => by
  refine h _ (fun c B1 M1 H1 W1 h1 => ?_) H W
  cases c with
  | true => exact h1.1 rfl Q' k H1 W1
  | false => exact h1.2 rfl Q' k H1 W1
theorem ew_andV (h : EW ta σ B M fun x B1 M1 => ∃ c, x = .bl c ∧ (c = true → EW tb σ B1 M1 Q) ∧ (c = false → Q (.bl false) B1 M1)) : EW (tAndV ta tb) σ B M Q := fun Q' k H W => by
  refine h _ (fun x B1 M1 H1 W1 h1 => ?_) H W
  obtain ⟨c, rfl, h2, h3⟩ := h1
  refine ⟨c, rfl, ?_⟩
  cases c with
  | true => rw [if_pos rfl]; exact h2 rfl Q' k H1 W1
  | false => rw [if_neg Bool.false_ne_true]; exact k _ _ _ _ W1 (h3 rfl)
theorem ew_orV (h : EW ta σ B M fun x B1 M1 => ∃ c, x = .bl c ∧ (c = true → Q (.bl true) B1 M1) ∧ (c = false → EW tb σ B1 M1 Q)) : EW (tOrV ta tb) σ B M Q := fun Q' k H W => by
  refine h _ (fun x B1 M1 H1 W1 h1 => ?_) H W
  obtain ⟨c, rfl, h2, h3⟩ := h1
  refine ⟨c, rfl, ?_⟩
  cases c with
  | true => rw [if_pos rfl]; exact k _ _ _ _ W1 (h2 rfl)
  | false => rw [if_neg Bool.false_ne_true]; exact h3 rfl Q' k H1 W1
theorem ew_notV (h : EW ta σ B M fun x B1 M1 => ∃ c, x = .bl c ∧ Q (.bl (!c)) B1 M1) : EW (tNotV ta) σ B M Q := fun Q' k H W => by
  refine h _ (fun x B1 M1 H1 W1 h1 => ?_) H W
  obtain ⟨c, rfl, h2⟩ := h1
  exact ⟨c, rfl, k _ _ _ _ W1 h2⟩
theorem ew_tup {t : TA} (h : AW t σ B M fun xs B1 M1 => xs.length ≤ sizeLine ∧ ∀ p, Q (.ref p) B1 ((p, .tup xs) :: M1)) : EW (tTup t) σ B M Q := fun Q' k H W =>
  h _ (fun xs B1 M1 H1 W1 h1 => ⟨h1.1, fun p hp => k _ _ _ _ (W1.new hp) (h1.2 p)⟩) H W
theorem ew_lst {t : TA} (h : AW t σ B M fun xs B1 M1 => xs.length ≤ sizeLine ∧ ∀ p, Q (.ref p) B1 ((p, .lst xs) :: M1)) : EW (tLst t) σ B M Q := fun Q' k H W =>
  h _ (fun xs B1 M1 H1 W1 h1 => ⟨h1.1, fun p hp => k _ _ _ _ (W1.new hp) (h1.2 p)⟩) H W
theorem ew_dnew (h : ∀ p, Q (.ref p) B ((p, .dK []) :: M)) : EW tDNewK σ B M Q := fun Q' k H W p hp => k _ _ _ _ (W.new hp) (h p)
/-- C(..): a new instance, then its __init__ -/
theorem ew_make {C : Addr} {sp : Sp} {dvs : List V} {E : XK} {t : TA}
    (h : AW t σ B M fun vs B1 M1 => ∀ x dx, CW sp E (.ref x :: (vs ++ dvs)) B1 ((x, .ins C dx []) :: M1) fun v B2 M2 => v = .non ∧ Q (.ref x) B2 M2) : EW (tMake C sp dvs E t) σ B M Q := fun Q' k H W => by
  refine h _ (fun vs B1 M1 H1 W1 h1 x dx hx hd hne => ?_) H W
  refine h1 x dx _ (fun v B2 M2 H2 W2 q => ⟨q.1, k _ _ _ _ W2 q.2⟩) _ ?_
  have W2 := W1.lay (o := .own x) hd
  exact W2.new (by rw [upd_ne hne.symm]; exact hx)
theorem ew_sl {r : V → Option Int → Option Int → Hp → VK → Prop} {tl th : TO} (h : EW te σ B M fun x B1 M1 => OW tl σ B1 M1 fun l B2 M2 => OW th σ B2 M2 fun u B3 M3 => RSW r x l u B3 M3 Q) : EW (tSl r te tl th) σ B M Q := fun Q' k H W =>
  h _ (fun x B1 M1 H1 W1 h1 => h1 _ (fun l B2 M2 H2 W2 h2 => h2 _ (fun u B3 M3 H3 W3 h3 => h3 Q' k H3 W3) H2 W2) H1 W1) H W
theorem ow_no {Q : Option Int → Hp → MM → Prop} (q : Q none B M) : OW tNoPart σ B M Q := fun _ k H W => k _ _ _ _ W q
theorem ow_some {Q : Option Int → Hp → MM → Prop} (h : EW te σ B M fun x B1 M1 => ∃ i, x = .int i ∧ Q (some i) B1 M1) : OW (tPart te) σ B M Q := fun Q' k H W =>
  h _ (fun x B1 M1 H1 W1 h1 => by obtain ⟨i, rfl, q⟩ := h1; exact ⟨i, rfl, k _ _ _ _ W1 q⟩) H W
/-! arguments -/
theorem aw_nil {Q : List V → Hp → MM → Prop} (q : Q [] B M) : AW tNil σ B M Q := fun _ k H W => k _ _ _ _ W q
theorem aw_cons {t : TA} {Q : List V → Hp → MM → Prop} (h : EW ta σ B M fun x B1 M1 => AW t σ B1 M1 fun xs B2 M2 => Q (x :: xs) B2 M2) : AW (tCons ta t) σ B M Q := fun Q' k H W =>
  h _ (fun x B1 M1 H1 W1 h1 => h1 _ (fun xs B2 M2 H2 W2 q => k _ _ _ _ W2 q) H1 W1) H W
/-! tests -/
variable {QB : Bool → Hp → MM → Prop}
theorem tw_test (h : EW te σ B M fun x B1 M1 => ∃ c, x = .bl c ∧ QB c B1 M1) : TW (tTest te) σ B M QB := fun Q' k H W =>
  h _ (fun x B1 M1 H1 W1 h1 => by obtain ⟨c, rfl, q⟩ := h1; exact ⟨c, rfl, k _ _ _ _ W1 q⟩) H W
theorem tw_B (h : EW te σ B M fun x B1 M1 => ∃ c, x = .bl c ∧ QB c B1 M1) : TW (tB te) σ B M QB := fun Q' k H W =>
  h _ (fun x B1 M1 H1 W1 h1 => by obtain ⟨c, rfl, q⟩ := h1; exact ⟨c, rfl, k _ _ _ _ W1 q⟩) H W
theorem tw_not (h : TW tt σ B M fun c B1 M1 => QB (!c) B1 M1) : TW (tNot tt) σ B M QB := fun Q' k H W =>
  h _ (fun c B1 M1 H1 W1 q => k _ _ _ _ W1 q) H W
theorem tw_and (h : TW tt σ B M fun c B1 M1 => (c = true → TW tu σ B1 M1 QB) ∧ (c = false → QB false B1 M1)) : TW (tAnd tt tu) σ B M QB := fun Q' k H W => by
  refine h _ (fun c B1 M1 H1 W1 h1 => ?_) H W
  cases c with
  | true => exact h1.1 rfl Q' k H1 W1
  | false => exact k _ _ _ _ W1 (h1.2 rfl)
theorem tw_or (h : TW tt σ B M fun c B1 M1 => (c = true → QB true B1 M1) ∧ (c = false → TW tu σ B1 M1 QB)) : TW (tOr tt tu) σ B M QB := fun Q' k H W => by
  refine h _ (fun c B1 M1 H1 W1 h1 => ?_) H W
  cases c with
  | true => exact k _ _ _ _ W1 (h1.1 rfl)
  | false => exact h1.2 rfl Q' k H1 W1
theorem tw_yes (q : QB true B M) : TW tYes σ B M QB := fun _ k H W => k _ _ _ _ W q
end
/-! ### statements -/
section
variable {K : PySem.W.Frag} {σ : St} {B B' : Hp} {M M' : MM} {D : DW} {te ta tv : TE} {tt : TT} {t u : TS} {g : TG} {i : Nat}
theorem DLe.seq {D' : Ends} {nx : St → Hp → MM → Prop} {nx' : St → Hp → Prop} (l : DLe D D') (h : ∀ σ B M H, Wd B M H → nx σ B M → nx' σ H) : DLe { D with nx := nx } { D' with nx := nx' } := ⟨h, l.rt, l.bk, l.ct⟩
theorem sw_seq (h : SW t { D with nx := fun σ B M => SW u D σ B M } σ B M) : SW (tSeq t u) D σ B M := fun D' l H W =>
  h { D' with nx := u D' } (l.seq fun σ B M H W q => q D' l H W) H W
theorem sw_next (q : D.nx σ B M) : SW tNext D σ B M := fun D' l H W => l.nx _ _ _ _ W q
theorem sw_break (q : D.bk σ B M) : SW tBreak D σ B M := fun D' l H W => l.bk _ _ _ _ W q
theorem sw_cont (q : D.ct σ B M) : SW tCont D σ B M := fun D' l H W => l.ct _ _ _ _ W q
theorem sw_drop (h : EW te σ B M fun _ B1 M1 => D.nx σ B1 M1) : SW (tDrop te) D σ B M := fun D' l H W =>
  h _ (fun _ _ _ _ W1 q => l.nx _ _ _ _ W1 q) H W
theorem sw_ret (h : EW te σ B M D.rt) : SW (tRet te) D σ B M := fun D' l H W => h _ (fun _ _ _ _ W1 q => l.rt _ _ _ _ W1 q) H W
theorem sw_retN (q : D.rt .non B M) : SW tRetN D σ B M := fun D' l H W => l.rt _ _ _ _ W q
theorem sw_if (h : TW tt σ B M fun c B1 M1 => (c = true → SW t D σ B1 M1) ∧ (c = false → SW u D σ B1 M1)) : SW (tIfS tt t u) D σ B M := fun D' l H W => by
  refine h _ (fun c B1 M1 H1 W1 h1 => ?_) H W
  cases c with
  | true => rw [if_pos rfl]; exact h1.1 rfl D' l H1 W1
  | false => rw [if_neg Bool.false_ne_true]; exact h1.2 rfl D' l H1 W1
theorem sw_asg (h : EW te σ B M fun v B1 M1 => GW g v σ B1 M1 D.nx) : SW (tAsg te g) D σ B M := fun D' l H W =>
  h _ (fun v B1 M1 H1 W1 h1 => h1 _ (fun _ _ _ _ W2 q => l.nx _ _ _ _ W2 q) H1 W1) H W
theorem sw_set (h : EW te σ B M fun v B1 M1 => D.nx (σ.set i (some v)) B1 M1) : SW (tAsg te (gName i)) D σ B M := fun D' l H W =>
  h _ (fun v B1 M1 H1 W1 q => l.nx _ _ _ _ W1 q) H W
/-- o.f = e, o one's own -/
theorem sw_fld {f : Str} {C : Addr} (hc : Cls K C) (hn : NoAttr K C f)
    (h : EW tv σ B M fun y B1 M1 => EW ta σ B1 M1 fun x B2 M2 => ∃ a dx fs R F, x = .ref a ∧ Sel M2 [(a, .ins C dx fs)] R F ∧ fs.length < 1000 ∧ D.nx σ B2 (F [(a, .ins C dx (putF f y fs))])) : SW (sFld K ta tv f) D σ B M := fun D' l H W => by
  refine h _ (fun y B1 M1 H1 W1 h1 => ?_) H W
  refine h1 _ (fun x B2 M2 H2 W2 h2 => ?_) H1 W1
  obtain ⟨a, dx, fs, R, F, rfl, hs, hl, q⟩ := h2
  have W3 : Wd B2 ((a, .ins C dx fs) :: R) H2 := W2.perm hs.perm.1
  exact ⟨a, C, dx, fs, rfl, W3.hd, hc, hn, hl, l.nx _ _ _ _ ((W3.write).perm (hs.perm.2 [(a, .ins C dx (putF f y fs))]).symm) q⟩
/-! targets -/
variable {QS : St → Hp → MM → Prop} {v : V}
theorem gw_name (q : QS (σ.set i (some v)) B M) : GW (gName i) v σ B M QS := fun _ k H W => k _ _ _ _ W q
theorem gsw_nil (q : QS σ B M) : GsW gNil [] σ B M QS := fun _ k H W => ⟨rfl, k _ _ _ _ W q⟩
theorem gsw_cons {gs : TGs} {vs : List V} (h : GW g v σ B M fun σ1 B1 M1 => GsW gs vs σ1 B1 M1 QS) : GsW (gCons g gs) (v :: vs) σ B M QS := fun Q' k H W =>
  ⟨v, vs, rfl, h _ (fun σ1 B1 M1 H1 W1 h1 => h1 Q' k H1 W1) H W⟩
end
end Pap

set_option maxHeartbeats 4000000
/-! PkB: operators and built-ins over PkA's logic. -/
namespace Pap
open PySem PySem.Spec L2

/-- a tuple, a list to be read -/
def TupW (K : PySem.W.Frag) (B : Hp) (M : MM) (a : Addr) (xs : List V) : Prop := ∀ H, Wd B M H → SqT K H a xs
def LstW (K : PySem.W.Frag) (B : Hp) (M : MM) (a : Addr) (xs : List V) : Prop := ∀ H, Wd B M H → SqL K H a xs
section
variable {K : PySem.W.Frag} {B B' : Hp} {M M' : MM} {a : Addr} {xs : List V} {o : HO} {c : Addr × HO}
theorem TupW.of (h : At B M a (.tup xs)) : TupW K B M a xs := fun H W => .inl (.inl (h.of W))
theorem LstW.of (h : At B M a (.lst xs)) : LstW K B M a xs := fun H W => .inl (.inl (h.of W))
theorem TupW.per (h : B a = some (.tup xs)) : TupW K B M a xs := .of (.inl h)
theorem LstW.per (h : B a = some (.lst xs)) : LstW K B M a xs := .of (.inl h)
theorem Wd.less {H : Hp} (e : Ex B B') (W : Wd B' M H) : Wd B [] H := ⟨fun b u h => W.per _ _ (e _ _ h), (fun _ h => nomatch h), List.nodup_nil⟩
end

/-! ### operators -/
section
variable {X : Cx}
def rAddI : R2 := rI0 fun i j => .int (i + j)
def rAddS : R2 := fun x y H Q => ∃ i j, x = .str i ∧ y = .str j ∧ i.length + j.length ≤ sizeLine ∧ Q (.str (i ++ j)) H
def rAddU (K : PySem.W.Frag) : R2 := fun x y H Q => rAddI x y H Q ∨ (rAddS x y H Q ∨ (rCat x y H Q ∨ rCatA K x y H Q))
theorem op_addU : OpR X (binaryOp .Add) (rAddU X.K) := OpR.or op_add (OpR.or op_add_str (OpR.or op_cat op_catA))
def rSubI : R2 := rI0 fun i j => .int (i - j)
theorem op_subU : OpR X (binaryOp .Sub) rSubI := op_sub
def rMulI : R2 := rI CMulW fun i j => .int (i * j)
def rMulU : R2 := fun x y H Q => rMulI x y H Q ∨ rRep x y H Q
theorem op_mulU : OpR X (binaryOp .Mult) rMulU := OpR.or op_mulW op_rep
def rModI : R2 := rI (fun _ j => 0 < j) fun i j => .int (i % j)
theorem op_modU : OpR X (binaryOp .Mod) rModI := op_mod
def rDivI : R2 := rI CDivW fun i j => .int (i / j)
theorem op_divU : OpR X (binaryOp .FloorDiv) rDivI := op_fdivW
def rPowI : R2 := rI CPow fun i j => .int (i ^ j.toNat)
theorem op_powU : OpR X (binaryOp .Pow) rPowI := op_pow
def rLtI : R2 := rI0 fun i j => .bl (decide (i < j))
def rLeI : R2 := rI0 fun i j => .bl (decide (i ≤ j))
def rGtI : R2 := rI0 fun i j => .bl (decide (j < i))
def rGeI : R2 := rI0 fun i j => .bl (decide (j ≤ i))
def rLtS : R2 := fun x y H Q => ∃ i j, x = .str i ∧ y = .str j ∧ Q (.bl (decide (i.cps.toList < j.cps.toList))) H
def rLeS : R2 := fun x y H Q => ∃ i j, x = .str i ∧ y = .str j ∧ Q (.bl (!decide (j.cps.toList < i.cps.toList))) H
def rLtU : R2 := fun x y H Q => rLtI x y H Q ∨ rLtS x y H Q
def rLeU : R2 := fun x y H Q => rLeI x y H Q ∨ rLeS x y H Q
theorem op_ltU : OpR X (compareOp .Lt) rLtU := OpR.or op_lt op_lt_str
theorem op_leU : OpR X (compareOp .LtE) rLeU := OpR.or op_le op_le_str
theorem op_gtU : OpR X (compareOp .Gt) rGtI := op_gt
theorem op_geU : OpR X (compareOp .GtE) rGeI := op_ge
def rEqU (K : PySem.W.Frag) : R2 := fun x y H Q => rEq x y H Q ∨ rEqD K x y H Q
def rNeU (K : PySem.W.Frag) : R2 := fun x y H Q => rNe x y H Q ∨ rNeD K x y H Q
theorem op_eqU (hu : X.A.units + 64 < cLine) : OpR X (compareOp .Eq) (rEqU X.K) := OpR.or op_eq (op_eqD hu)
theorem op_neU (hu : X.A.units + 64 < cLine) : OpR X (compareOp .NotEq) (rNeU X.K) := OpR.or op_ne (op_neD hu)
def rInSg : R2 := fun x y H Q => ∃ (c : Nat) (z : Str), x = .str ⟨#[c]⟩ ∧ y = .str z ∧ Q (.bl (decide (c ∈ z.cps.toList))) H
def rNiSg : R2 := fun x y H Q => ∃ (c : Nat) (z : Str), x = .str ⟨#[c]⟩ ∧ y = .str z ∧ Q (.bl (!decide (c ∈ z.cps.toList))) H
def rInU (K : PySem.W.Frag) : R2 := fun x y H Q => rInSg x y H Q ∨ rIn K false x y H Q
def rNiU (K : PySem.W.Frag) : R2 := fun x y H Q => rNiSg x y H Q ∨ rIn K true x y H Q
theorem op_inU : OpR X (compareOp .In) (rInU X.K) := OpR.or op_in_sign op_in_seq
theorem op_niU : OpR X (compareOp .NotIn) (rNiU X.K) := OpR.or op_notIn_sign op_notIn_seq
def rIsN1 : R2 := fun x y H Q => y = .non ∧ Q (.bl (decide (x = .non))) H
def rNotN1 : R2 := fun x y H Q => y = .non ∧ Q (.bl (!decide (x = .non))) H
theorem op_isU : OpR X (compareOp .Is) rIsN1 := op_isN
theorem op_isnU : OpR X (compareOp .IsNot) rNotN1 := op_notN
end
section
variable {K : PySem.W.Frag} {B B' : Hp} {M M' : MM} {Q : KW} {i j : Int} {z w : Str} {x y : V} {a b : Addr} {xs ys : List V}
theorem add_int (q : Q (.int (i + j)) B M) : R2W (rAddU K) (.int i) (.int j) B M Q := fun _ k H W => .inl ⟨i, j, rfl, rfl, k _ _ _ _ W q⟩
theorem add_str (hl : z.length + w.length ≤ sizeLine) (q : Q (.str (z ++ w)) B M) : R2W (rAddU K) (.str z) (.str w) B M Q := fun _ k H W => .inr (.inl ⟨z, w, rfl, rfl, hl, k _ _ _ _ W q⟩)
theorem add_lst (ha : At B M a (.lst xs)) (hb : At B M b (.lst ys)) (hl : xs.length + ys.length ≤ sizeLine) (q : ∀ p, Q (.ref p) B ((p, .lst (xs ++ ys)) :: M)) : R2W (rAddU K) (.ref a) (.ref b) B M Q :=
  fun _ k H W => .inr (.inr (.inl ⟨a, b, xs, ys, rfl, rfl, ha.of W, hb.of W, hl, fun p hp => k _ _ _ _ (W.new hp) (q p)⟩))
/-- tuples: the one, the other or a new one -/
theorem add_tup (ha : TupW K B M a xs) (hb : TupW K B M b ys) (hl : xs.length + ys.length ≤ sizeLine) (q1 : xs = [] → Q (.ref b) B M) (q2 : xs ≠ [] → ys = [] → Q (.ref a) B M) (q : xs ≠ [] → ys ≠ [] → ∀ p, Q (.ref p) B ((p, .tup (xs ++ ys)) :: M)) :
    R2W (rAddU K) (.ref a) (.ref b) B M Q := fun _ k H W => .inr (.inr (.inr ⟨a, b, xs, ys, rfl, rfl, ha H W, hb H W, hl, fun h => k _ _ _ _ W (q1 h), fun h1 h2 => k _ _ _ _ W (q2 h1 h2), fun h1 h2 p hp => k _ _ _ _ (W.new hp) (q h1 h2 p)⟩))
theorem sub_int (q : Q (.int (i - j)) B M) : R2W rSubI (.int i) (.int j) B M Q := fun _ k H W => ⟨i, j, rfl, rfl, k _ _ _ _ W q⟩
theorem mul_int (h : CMulW i j) (q : Q (.int (i * j)) B M) : R2W rMulU (.int i) (.int j) B M Q := fun _ k H W => .inl ⟨i, j, rfl, rfl, h, k _ _ _ _ W q⟩
theorem mul_lst (ha : At B M a (.lst xs)) (h1 : -(2 ^ 63) ≤ j) (h2 : j < 2 ^ 63) (hl : xs.length * j.toNat ≤ sizeLine) (q : ∀ p, Q (.ref p) B ((p, .lst (List.replicate j.toNat xs).flatten) :: M)) : R2W rMulU (.ref a) (.int j) B M Q :=
  fun _ k H W => .inr ⟨a, j, xs, rfl, rfl, ha.of W, h1, h2, hl, fun p hp => k _ _ _ _ (W.new hp) (q p)⟩
theorem mod_int (h : 0 < j) (q : Q (.int (i % j)) B M) : R2W rModI (.int i) (.int j) B M Q := fun _ k H W => ⟨i, j, rfl, rfl, h, k _ _ _ _ W q⟩
theorem div_int (h : CDivW i j) (q : Q (.int (i / j)) B M) : R2W rDivI (.int i) (.int j) B M Q := fun _ k H W => ⟨i, j, rfl, rfl, h, k _ _ _ _ W q⟩
theorem pow_int (h : CPow i j) (q : Q (.int (i ^ j.toNat)) B M) : R2W rPowI (.int i) (.int j) B M Q := fun _ k H W => ⟨i, j, rfl, rfl, h, k _ _ _ _ W q⟩
theorem lt_int (q : Q (.bl (decide (i < j))) B M) : R2W rLtU (.int i) (.int j) B M Q := fun _ k H W => .inl ⟨i, j, rfl, rfl, k _ _ _ _ W q⟩
theorem lt_str (q : Q (.bl (decide (z.cps.toList < w.cps.toList))) B M) : R2W rLtU (.str z) (.str w) B M Q := fun _ k H W => .inr ⟨z, w, rfl, rfl, k _ _ _ _ W q⟩
theorem le_int (q : Q (.bl (decide (i ≤ j))) B M) : R2W rLeU (.int i) (.int j) B M Q := fun _ k H W => .inl ⟨i, j, rfl, rfl, k _ _ _ _ W q⟩
theorem le_str (q : Q (.bl (!decide (w.cps.toList < z.cps.toList))) B M) : R2W rLeU (.str z) (.str w) B M Q := fun _ k H W => .inr ⟨z, w, rfl, rfl, k _ _ _ _ W q⟩
theorem gt_int (q : Q (.bl (decide (j < i))) B M) : R2W rGtI (.int i) (.int j) B M Q := fun _ k H W => ⟨i, j, rfl, rfl, k _ _ _ _ W q⟩
theorem ge_int (q : Q (.bl (decide (j ≤ i))) B M) : R2W rGeI (.int i) (.int j) B M Q := fun _ k H W => ⟨i, j, rfl, rfl, k _ _ _ _ W q⟩
theorem eq_sc (h : scal x y = true) (q : Q (.bl (decide (x = y))) B M) : R2W (rEqU K) x y B M Q := fun _ k H W => .inl ⟨h, k _ _ _ _ W q⟩
theorem ne_sc (h : scal x y = true) (q : Q (.bl (!decide (x = y))) B M) : R2W (rNeU K) x y B M Q := fun _ k H W => .inl ⟨h, k _ _ _ _ W q⟩
theorem V.int_dec : decide (V.int i = V.int j) = decide (i = j) := by simp
theorem V.str_dec : decide (V.str z = V.str w) = decide (z = w) := by simp
theorem V.bl_dec {c d : Bool} : decide (V.bl c = V.bl d) = (c == d) := by cases c <;> cases d <;> rfl
theorem eq_int (q : Q (.bl (decide (i = j))) B M) : R2W (rEqU K) (.int i) (.int j) B M Q := eq_sc rfl (by rw [V.int_dec]; exact q)
theorem eq_str (q : Q (.bl (decide (z = w))) B M) : R2W (rEqU K) (.str z) (.str w) B M Q := eq_sc rfl (by rw [V.str_dec]; exact q)
theorem ne_int (q : Q (.bl (!decide (i = j))) B M) : R2W (rNeU K) (.int i) (.int j) B M Q := ne_sc rfl (by rw [V.int_dec]; exact q)
theorem ne_str (q : Q (.bl (!decide (z = w))) B M) : R2W (rNeU K) (.str z) (.str w) B M Q := ne_sc rfl (by rw [V.str_dec]; exact q)
/-- data -/
def DpW (K : PySem.W.Frag) (B : Hp) (M : MM) (x : V) (d : PyData) : Prop := ∀ H, Wd B M H → Dp K H x d
theorem eq_dat {d e : PyData} (h1 : DpW K B M x d) (h2 : DpW K B M y e) (s1 : SeqAt.shaped d = true) (s2 : SeqAt.shaped e = true) (q : Q (.bl (PyData.eqv d e)) B M) : R2W (rEqU K) x y B M Q := fun _ k H W => .inr ⟨d, e, h1 H W, h2 H W, s1, s2, k _ _ _ _ W q⟩
theorem ne_dat {d e : PyData} (h1 : DpW K B M x d) (h2 : DpW K B M y e) (s1 : SeqAt.shaped d = true) (s2 : SeqAt.shaped e = true) (q : Q (.bl (!PyData.eqv d e)) B M) : R2W (rNeU K) x y B M Q := fun _ k H W => .inr ⟨d, e, h1 H W, h2 H W, s1, s2, k _ _ _ _ W q⟩
theorem in_sg {c : Nat} (q : Q (.bl (decide (c ∈ z.cps.toList))) B M) : R2W (rInU K) (.str ⟨#[c]⟩) (.str z) B M Q := fun _ k H W => .inl ⟨c, z, rfl, rfl, k _ _ _ _ W q⟩
theorem ni_sg {c : Nat} (q : Q (.bl (!decide (c ∈ z.cps.toList))) B M) : R2W (rNiU K) (.str ⟨#[c]⟩) (.str z) B M Q := fun _ k H W => .inl ⟨c, z, rfl, rfl, k _ _ _ _ W q⟩
theorem in_sq (h : LstW K B M a xs ∨ TupW K B M a xs) (hx : flatV x = true) (hs : xs.all flatV = true) (q : Q (.bl (inV x xs)) B M) : R2W (rInU K) x (.ref a) B M Q := fun _ k H W =>
  .inr ⟨a, xs, rfl, h.elim (fun h => .inl (h H W)) (fun h => .inr (h H W)), hx, hs, by rw [if_neg Bool.false_ne_true]; exact k _ _ _ _ W q⟩
theorem ni_sq (h : LstW K B M a xs ∨ TupW K B M a xs) (hx : flatV x = true) (hs : xs.all flatV = true) (q : Q (.bl (!inV x xs)) B M) : R2W (rNiU K) x (.ref a) B M Q := fun _ k H W =>
  .inr ⟨a, xs, rfl, h.elim (fun h => .inl (h H W)) (fun h => .inr (h H W)), hx, hs, by rw [if_pos rfl]; exact k _ _ _ _ W q⟩
theorem is_n (q : Q (.bl (decide (x = .non))) B M) : R2W rIsN1 x .non B M Q := fun _ k H W => ⟨rfl, k _ _ _ _ W q⟩
theorem isn_n (q : Q (.bl (!decide (x = .non))) B M) : R2W rNotN1 x .non B M Q := fun _ k H W => ⟨rfl, k _ _ _ _ W q⟩
/-! ### subscripts, slices -/
theorem ix_l {v : V} (h : LstW K B M a xs) (e : atI xs i = some v) (q : Q v B M) : R2W (rIx K) (.ref a) (.int i) B M Q := fun _ k H W => .inl ⟨a, xs, i, v, rfl, rfl, h H W, e, k _ _ _ _ W q⟩
theorem ix_t {v : V} (h : TupW K B M a xs) (e : atI xs i = some v) (q : Q v B M) : R2W (rIx K) (.ref a) (.int i) B M Q := fun _ k H W => .inr (.inl ⟨a, xs, i, v, rfl, rfl, h H W, e, k _ _ _ _ W q⟩)
theorem ix_s {c : Nat} (hl : z.length ≤ sizeLine) (e : atI z.cps.toList i = some c) (q : Q (.str ⟨#[c]⟩) B M) : R2W (rIx K) (.str z) (.int i) B M Q := fun _ k H W => .inr (.inr ⟨z, i, c, rfl, rfl, hl, e, k _ _ _ _ W q⟩)
def rSlU (K : PySem.W.Frag) : V → Option Int → Option Int → Hp → VK → Prop := fun x lo hi H Q => rSlL K x lo hi H Q ∨ (rSlS x lo hi H Q ∨ rSlA K x lo hi H Q)
theorem sl_U {X : Cx} : SlR X (rSlU X.K) := SlR.or sl_list (SlR.or sl_str sl_tupA)
theorem sl_l {lo hi : Option Int} (h : LstW K B M a xs) (q : ∀ p, Q (.ref p) B ((p, .lst (cutV xs lo hi)) :: M)) : RSW (rSlU K) (.ref a) lo hi B M Q := fun _ k H W => .inl ⟨a, xs, rfl, h H W, fun p hp => k _ _ _ _ (W.new hp) (q p)⟩
theorem sl_s {lo hi : Option Int} (h : z.length ≤ sizeLine) (q : Q (.str (cutS z lo hi)) B M) : RSW (rSlU K) (.str z) lo hi B M Q := fun _ k H W => .inr (.inl ⟨z, rfl, h, k _ _ _ _ W q⟩)
theorem sl_t {lo hi : Option Int} (h : TupW K B M a xs) (q1 : cutV xs lo hi = xs → Q (.ref a) B M) (q : ∀ p, Q (.ref p) B ((p, .tup (cutV xs lo hi)) :: M)) : RSW (rSlU K) (.ref a) lo hi B M Q := fun _ k H W =>
  .inr (.inr ⟨a, xs, rfl, h H W, fun e => k _ _ _ _ W (q1 (by unfold cutV; rw [e.1, e.2, List.drop_zero, Nat.sub_zero, List.take_length])), fun _ p hp => k _ _ _ _ (W.new hp) (q p)⟩)
end

/-! ### built-ins -/
section
variable {X : Cx}
def rLenU (K : PySem.W.Frag) : List V → Hp → VK → Prop := fun xs H Q => ∃ x n, xs = [x] ∧ LenV K x H n ∧ Q (.int n) H
theorem call_lenU : CallR X (.builtin "len") (rLenU X.K) := call_len
def rTupOf (K : PySem.W.Frag) : V → Hp → VK → Prop := kTup K
end
section
variable {K : PySem.W.Frag} {σ : St} {B B' : Hp} {M M' : MM} {Q : KW} {i j : Int} {z w : Str} {x y v : V} {a b : Addr} {xs ys : List V} {t u : Value}
theorem len_s (h : z.length ≤ sizeLine) (q : Q (.int z.length) B M) : RLW (rLenU K) [.str z] B M Q := fun _ k H W => ⟨_, _, rfl, ⟨h, rfl⟩, k _ _ _ _ W q⟩
theorem len_l (h : LstW K B M a xs) (q : Q (.int xs.length) B M) : RLW (rLenU K) [.ref a] B M Q := fun _ k H W => ⟨_, _, rfl, .inl ⟨xs, h H W, rfl⟩, k _ _ _ _ W q⟩
theorem len_t (h : TupW K B M a xs) (q : Q (.int xs.length) B M) : RLW (rLenU K) [.ref a] B M Q := fun _ k H W => ⟨_, _, rfl, .inr ⟨xs, h H W, rfl⟩, k _ _ _ _ W q⟩
/-- the type of a value -/
def TyW (K : PySem.W.Frag) (B : Hp) (M : MM) (x : V) (t : Value) : Prop := ∀ H, Wd B M H → TyX K H x t
theorem TyW.non : TyW K B M .non (.type "NoneType") := fun _ _ => .base .non
theorem TyW.bl {b : Bool} : TyW K B M (.bl b) (.type "bool") := fun _ _ => .base (.bl b)
theorem TyW.int : TyW K B M (.int i) (.type "int") := fun _ _ => .base (.int i)
theorem TyW.str : TyW K B M (.str z) (.type "str") := fun _ _ => .base (.str z)
theorem TyW.lst (h : At B M a (.lst xs)) : TyW K B M (.ref a) (.type "list") := fun _ W => .base (.lst (h.of W))
theorem TyW.tup (h : At B M a (.tup xs)) : TyW K B M (.ref a) (.type "tuple") := fun _ W => .base (.tup (h.of W))
theorem TyW.dK {kvs : List (Key × V)} (h : At B M a (.dK kvs)) : TyW K B M (.ref a) (.type "dict") := fun _ W => .base (.dK (h.of W))
/-- what isinstance asks of an own class -/
structure IsC (K : PySem.W.Frag) (C : Addr) : Prop where
  cl : Cls K C
  ha : PySem.W.findIn K (.ref C) "__class__" = some (some (.builtin "object.__class__"))
  hn : PySem.W.specialIn K (.builtin "object.__class__") "__get__" = some (some (.builtin "getset_descriptor.__get__"))
  ht : PySem.W.takesIn K (.builtin "object.__class__") = some true
  hm : PySem.W.mroIn K C (.type "object") = some true
theorem TyW.ins {C dx : Addr} {fs : List (Str × V)} (c : IsC K C) (h : At B M a (.ins C dx fs)) : TyW K B M (.ref a) (.ref C) := fun _ W => .base (.ins (h.of W) c.cl c.ha c.hn c.ht c.hm)
theorem isi_ {c : V} {r : Bool} (h : TyW K B M x t) (hc : ClsV c u) (e : PySem.W.kitOne K t u = some r) (q : Q (.bl r) B M) : RLW (rIsi K) [x, c] B M Q := fun _ k H W => ⟨x, c, t, u, r, rfl, hc, h H W, e, k _ _ _ _ W q⟩
theorem isiT_ {cs : List V} {us : List Value} {r : Bool} (h : TyW K B M x t) (ha : At B M a (.tup cs)) (hc : Paired ClsV cs us) (e : PySem.W.kitAny K t us = some r) (q : Q (.bl r) B M) : RLW (rIsiT K) [x, .ref a] B M Q := fun _ k H W =>
  ⟨x, a, cs, t, us, r, rfl, ha.of W, hc, h H W, e, k _ _ _ _ W q⟩
theorem all_ {bs : List Bool} (h : LstW K B M a (bs.map V.bl)) (q : Q (.bl (bs.all id)) B M) : RLW (rAll K) [.ref a] B M Q := fun _ k H W => ⟨a, bs, rfl, h H W, k _ _ _ _ W q⟩
theorem any_ {bs : List Bool} (h : LstW K B M a (bs.map V.bl)) (q : Q (.bl (bs.any id)) B M) : RLW (rAny K) [.ref a] B M Q := fun _ k H W => ⟨a, bs, rfl, h H W, k _ _ _ _ W q⟩
theorem sum_ {ns : List Int} (h : LstW K B M a (ns.map V.int)) (q : Q (.int ns.sum) B M) : RLW (rSum K) [.ref a] B M Q := fun _ k H W => ⟨a, ns, rfl, h H W, k _ _ _ _ W q⟩
theorem max_ {ns : List Int} (h : LstW K B M a (ns.map V.int)) (h0 : 0 < ns.length) (q : ∀ m, m ∈ ns → (∀ y, y ∈ ns → y ≤ m) → Q (.int m) B M) : RLW (rMax K) [.ref a] B M Q := fun _ k H W => ⟨a, ns, rfl, h H W, h0, fun m h1 h2 => k _ _ _ _ W (q m h1 h2)⟩
theorem tup_l (h : LstW K B M a xs) (q : ∀ p, Q (.ref p) B ((p, .tup xs) :: M)) : R1W (kTup K) (.ref a) B M Q := fun _ k H W => .inl ⟨a, xs, rfl, h H W, fun p hp => k _ _ _ _ (W.new hp) (q p)⟩
theorem tup_t (h : TupW K B M a xs) (q : Q (.ref a) B M) : R1W (kTup K) (.ref a) B M Q := fun _ k H W => .inr ⟨a, xs, rfl, h H W, k _ _ _ _ W q⟩
theorem ew_then {te : TE} {r : V → Hp → VK → Prop} (h : EW te σ B M fun x B1 M1 => R1W r x B1 M1 Q) : EW (tThen te r) σ B M Q := fun Q' k H W =>
  h _ (fun x B1 M1 H1 W1 h1 => h1 Q' k H1 W1) H W
/-! ### methods of built-in types -/
def TyMW (K : PySem.W.Frag) (T : String) (x : V) (B : Hp) (M : MM) : Prop := ∀ H, Wd B M H → tyV K T x H
theorem TyMW.s : TyMW K "str" (.str z) B M := fun _ _ => rfl
theorem TyMW.l (h : LstW K B M a xs) : TyMW K "list" (.ref a) B M := fun H W => .inl ⟨rfl, xs, h H W⟩
theorem TyMW.d {kvs : List (Key × V)} (h : At B M a (.dK kvs)) : TyMW K "dict" (.ref a) B M := fun H W => .inr (.inr (.inl ⟨rfl, .inl ⟨kvs, h.of W⟩⟩))
theorem ew_bm0 {T : String} {r : V → List V → Hp → VK → Prop} {to : TE} (h : EW to σ B M fun x B1 M1 => TyMW K T x B1 M1 ∧ RMW r x [] B1 M1 Q) : EW (tBM0 K T r to) σ B M Q := fun Q' k H W =>
  h _ (fun x B1 M1 H1 W1 h1 => ⟨h1.1 H1 W1, h1.2 Q' k H1 W1⟩) H W
theorem ew_bm {T : String} {r : V → List V → Hp → VK → Prop} {to : TE} {ta : TA} (h : EW to σ B M fun x B1 M1 => TyMW K T x B1 M1 ∧ AW ta σ B1 M1 fun vs B2 M2 => RMW r x vs B2 M2 Q) : EW (tBM K T r to ta) σ B M Q := fun Q' k H W =>
  h _ (fun x B1 M1 H1 W1 h1 => ⟨h1.1 H1 W1, h1.2 _ (fun vs B2 M2 H2 W2 h2 => h2 Q' k H2 W2) H1 W1⟩) H W
theorem append_ {R : MM} {F : MM → MM} (s : Sel M [(a, .lst xs)] R F) (hl : xs.length < sizeLine) (q : Q .non B (F [(a, .lst (xs ++ [v]))])) : RMW rAppend (.ref a) [v] B M Q := fun _ k H W => by
  have W3 : Wd B ((a, .lst xs) :: R) H := W.perm s.perm.1
  exact ⟨a, xs, v, rfl, rfl, W3.hd, hl, k _ _ _ _ (W3.write.perm (s.perm.2 [(a, .lst (xs ++ [v]))]).symm) q⟩
theorem popAt_ {R : MM} {F : MM → MM} {n : Nat} (s : Sel M [(a, .lst xs)] R F) (h1 : -(2 ^ 63) ≤ i) (h2 : i < 2 ^ 63) (e : seqIndex? i xs.length = some n) (hv : xs[n]? = some v) (q : Q v B (F [(a, .lst (xs.eraseIdx n))])) : RMW rPopAt (.ref a) [.int i] B M Q := fun _ k H W => by
  have W3 : Wd B ((a, .lst xs) :: R) H := W.perm s.perm.1
  exact ⟨a, xs, i, n, v, rfl, rfl, W3.hd, h1, h2, e, hv, k _ _ _ _ (W3.write.perm (s.perm.2 [(a, .lst (xs.eraseIdx n))]).symm) q⟩
/-! ### dicts -/
theorem ew_dget {td ty : TE} (h : EW td σ B M fun x B1 M1 => EW ty σ B1 M1 fun y B2 M2 => ∃ a kvs k v, x = .ref a ∧ At B2 M2 a (.dK kvs) ∧ y = kV k ∧ valV kvs k = some v ∧ Q v B2 M2) : EW (tDGet td ty) σ B M Q := fun Q' k H W => by
  refine h _ (fun x B1 M1 H1 W1 h1 => ?_) H W
  refine h1 _ (fun y B2 M2 H2 W2 h2 => ?_) H1 W1
  obtain ⟨a, kvs, ke, v, rfl, ha, rfl, hv, q⟩ := h2
  exact ⟨a, v, rfl, by rw [← hv]; exact DGet.k (ha.of W2), k _ _ _ _ W2 q⟩
theorem ew_din {td ty : TE} (h : EW ty σ B M fun y B1 M1 => EW td σ B1 M1 fun x B2 M2 => ∃ a kvs k, x = .ref a ∧ At B2 M2 a (.dK kvs) ∧ y = kV k ∧ Q (.bl (valV kvs k).isSome) B2 M2) : EW (tDIn ty td) σ B M Q := fun Q' k H W => by
  refine h _ (fun y B1 M1 H1 W1 h1 => ?_) H W
  refine h1 _ (fun x B2 M2 H2 W2 h2 => ?_) H1 W1
  obtain ⟨a, kvs, ke, rfl, ha, rfl, q⟩ := h2
  exact ⟨a, _, rfl, DGet.k (ha.of W2), k _ _ _ _ W2 q⟩
theorem ew_dnotin {td ty : TE} (h : EW ty σ B M fun y B1 M1 => EW td σ B1 M1 fun x B2 M2 => ∃ a kvs k, x = .ref a ∧ At B2 M2 a (.dK kvs) ∧ y = kV k ∧ Q (.bl (!(valV kvs k).isSome)) B2 M2) : EW (tDNotIn ty td) σ B M Q := fun Q' k H W => by
  refine h _ (fun y B1 M1 H1 W1 h1 => ?_) H W
  refine h1 _ (fun x B2 M2 H2 W2 h2 => ?_) H1 W1
  obtain ⟨a, kvs, ke, rfl, ha, rfl, q⟩ := h2
  exact ⟨a, _, rfl, DGet.k (ha.of W2), k _ _ _ _ W2 q⟩
theorem sw_dput {td ty tv : TE} {D : DW} (h : EW tv σ B M fun v B1 M1 => EW td σ B1 M1 fun x B2 M2 => EW ty σ B2 M2 fun y B3 M3 => ∃ a kvs k R F, x = .ref a ∧ Sel M3 [(a, .dK kvs)] R F ∧ y = kV k ∧ kvs.length < sizeLine ∧ D.nx σ B3 (F [(a, .dK (putK kvs k v))])) :
    SW (sDPut td ty tv) D σ B M := fun D' l H W => by
  refine h _ (fun v B1 M1 H1 W1 h1 => ?_) H W
  refine h1 _ (fun x B2 M2 H2 W2 h2 => ?_) H1 W1
  refine h2 _ (fun y B3 M3 H3 W3 h3 => ?_) H2 W2
  obtain ⟨a, kvs, ke, R, F, rfl, s, rfl, hl, q⟩ := h3
  have W4 : Wd B3 ((a, .dK kvs) :: R) H3 := W3.perm s.perm.1
  exact ⟨a, _, rfl, DPut.k W4.hd hl, l.nx _ _ _ _ (W4.write.perm (s.perm.2 [(a, .dK (putK kvs ke v))]).symm) q⟩
end
end Pap

set_option maxHeartbeats 4000000
/-! PkC: loops, comprehensions, calls of the text's own defs. -/
namespace Pap
open PySem PySem.Spec L2

/-- what stands so stands so, too -/
def Le (B : Hp) (M : MM) (B' : Hp) (M' : MM) : Prop := ∀ H, Wd B M H → Wd B' M' H
section
variable {B B' B1 : Hp} {M M' M1 R : MM} {p a : Addr} {o : HO} {c : MM} {F : MM → MM} {d : Addr × HO}
theorem Le.refl : Le B M B M := fun _ W => W
theorem Le.trans (h : Le B M B1 M1) (h' : Le B1 M1 B' M') : Le B M B' M' := fun H W => h' H (h H W)
theorem Le.drop (h : Le B M B' M') : Le B (d :: M) B' M' := fun H W => h H (Wd.drop (a := d.1) (o := d.2) W)
theorem Le.keep (h : Le (upd B p o) M B' M') : Le B ((p, o) :: M) B' M' := fun H W => h H W.keep
theorem Le.perm (h : M.Perm M') : Le B M B M' := fun H W => W.perm h
theorem Le.sel (h : Sel M c R F) : Le B M B (c ++ R) := fun H W => W.perm h.perm.1
theorem Le.out (s : Sel M [(p, o)] R F) : Le B M B R := (Le.sel s).trans (Le.drop .refl)
theorem Le.keepS (s : Sel M [(p, o)] R F) : Le B M (upd B p o) R := (Le.sel s).trans (Le.keep .refl)
theorem Wd.freshM {H : Hp} (W : Wd B M H) (h : (p, o) ∈ M) : B p = none := (W.exc _ h).2
end
section
variable {σ : St} {B B' : Hp} {M M' : MM} {Q : KW} {te : TE} {D : DW} {ts : TS}
theorem ew_le (l : Le B M B' M') (h : EW te σ B' M' Q) : EW te σ B M Q := fun Q' k H W => h Q' k H (l H W)
theorem sw_le (l : Le B M B' M') (h : SW ts D σ B' M') : SW ts D σ B M := fun D' k H W => h D' k H (l H W)
/-- an object of one's own is fresh to what is kept: an extension -/
theorem sw_keep {p : Addr} {o : HO} (h : Ex B (upd B p o) → (upd B p o) p = some o → SW ts D σ (upd B p o) M) : SW ts D σ B ((p, o) :: M) := fun D' k H W =>
  h (Ex.new W.fresh) upd_same D' k H W.keep
theorem ew_keep {p : Addr} {o : HO} (h : Ex B (upd B p o) → (upd B p o) p = some o → EW te σ (upd B p o) M Q) : EW te σ B ((p, o) :: M) Q := fun D' k H W =>
  h (Ex.new W.fresh) upd_same D' k H W.keep
/-- what holds behind some rearranging -/
def Up (Q : Hp → MM → Prop) (B : Hp) (M : MM) : Prop := ∀ H, Wd B M H → ∃ B' M', Wd B' M' H ∧ Q B' M'
theorem Up.le {Q : Hp → MM → Prop} (l : Le B M B' M') (q : Q B' M') : Up Q B M := fun H W => ⟨B', M', l H W, q⟩
theorem Up.here {Q : Hp → MM → Prop} (q : Q B M) : Up Q B M := .le .refl q
theorem Up.via {Q : Hp → MM → Prop} (l : Le B M B' M') (q : Up Q B' M') : Up Q B M := fun H W => q H (l H W)
theorem Up.keep {Q : Hp → MM → Prop} {p : Addr} {o : HO} (h : Ex B (upd B p o) → (upd B p o) p = some o → Up Q (upd B p o) M) : Up Q B ((p, o) :: M) := fun H W => h (Ex.new W.fresh) upd_same H W.keep
theorem Up.drop {Q : Hp → MM → Prop} {c : Addr × HO} (h : Up Q B M) : Up Q B (c :: M) := .via (Le.drop .refl) h
def DW.up (D : DW) : DW := ⟨fun σ => Up (D.nx σ), fun v => Up (D.rt v), fun σ => Up (D.bk σ), fun σ => Up (D.ct σ)⟩
theorem up_ok {Q : Hp → MM → Prop} {Q' : Hp → Prop} (k : ∀ B M H, Wd B M H → Q B M → Q' H) {H : Hp} (W : Wd B M H) (q : Up Q B M) : Q' H := let ⟨_, _, W', q'⟩ := q H W; k _ _ _ W' q'
theorem DLe.up {D' : Ends} (l : DLe D D') : DLe D.up D' :=
  ⟨fun σ B M H W q => up_ok (l.nx σ) W q, fun v B M H W q => up_ok (l.rt v) W q, fun σ B M H W q => up_ok (l.bk σ) W q, fun σ B M H W q => up_ok (l.ct σ) W q⟩
theorem ew_up (h : EW te σ B M fun v => Up (Q v)) : EW te σ B M Q := fun Q' k H W => h Q' (fun v B1 M1 H1 W1 q => up_ok (k v) W1 q) H W
end

/-! ### iterators -/
def IW (wi : TI) (σ : St) (B : Hp) (M : MM) (R : It → Hp → MM → Prop) : Prop :=
  ∀ R' : It → Hp → Prop, (∀ J B' M' H', Wd B' M' H' → R J B' M' → R' J H') → ∀ H, Wd B M H → wi σ H R'
/-- J takes n turns while S stands; Y: what the turn gives -/
structure Runs (J : It) (n : Nat) (Y : Nat → Hp → MM → V → Hp → MM → Prop) (S : Hp → MM → Prop) : Prop where
  go : ∀ i B M H, i < n → Wd B M H → S B M → J.go i H
  yld : ∀ i B M H x H', i < n → Wd B M H → S B M → J.yld i H x H' → ∃ B' M', Wd B' M' H' ∧ Y i B M x B' M'
  stop : ∀ B M H, Wd B M H → S B M → J.stop n H
def YList (xs : List V) : Nat → Hp → MM → V → Hp → MM → Prop := fun i B M x B' M' => xs[i]? = some x ∧ B' = B ∧ M' = M
def YRng (lo : Int) : Nat → Hp → MM → V → Hp → MM → Prop := fun i B M x B' M' => x = .int (lo + i) ∧ B' = B ∧ M' = M
def YStr (z : Str) : Nat → Hp → MM → V → Hp → MM → Prop := fun i B M x B' M' => (∃ c, z.cps.toList[i]? = some c ∧ x = .str ⟨#[c]⟩) ∧ B' = B ∧ M' = M
def YPair (f g : Nat → V → Prop) : Nat → Hp → MM → V → Hp → MM → Prop := fun i B M x B' M' => ∃ T y z, x = .ref T ∧ f i y ∧ g i z ∧ B' = B ∧ M' = (T, .tup [y, z]) :: M
def anyS : Hp → MM → Prop := fun _ _ => True
section
variable {K : PySem.W.Frag} {a b : Addr} {xs ys : List V} {lo : Int} {n : Nat} {z : Str}
theorem runs_list : Runs (Itl K a) xs.length (YList xs) (fun B M => LstW K B M a xs) :=
  ⟨fun i B M H hi W s => ⟨xs, xs[i], s H W, List.getElem?_eq_getElem hi⟩, fun i B M H x H' hi W s ⟨e, h⟩ => ⟨B, M, e ▸ W, h xs (s H W), rfl, rfl⟩, fun B M H W s => ⟨xs, s H W, Nat.le_refl _⟩⟩
theorem runs_tup : Runs (Itt K a) xs.length (YList xs) (fun B M => TupW K B M a xs) :=
  ⟨fun i B M H hi W s => ⟨xs, xs[i], s H W, List.getElem?_eq_getElem hi⟩, fun i B M H x H' hi W s ⟨e, h⟩ => ⟨B, M, e ▸ W, h xs (s H W), rfl, rfl⟩, fun B M H W s => ⟨xs, s H W, Nat.le_refl _⟩⟩
theorem runs_rng : Runs (Itr lo n) n (YRng lo) anyS :=
  ⟨fun i B M H hi W s => hi, fun i B M H x H' hi W s ⟨e, h⟩ => ⟨B, M, e ▸ W, h, rfl, rfl⟩, fun B M H W s => Nat.le_refl _⟩
theorem runs_str : Runs (Its z) z.cps.toList.length (YStr z) anyS :=
  ⟨fun i B M H hi W s => (by simpa using hi : i < z.cps.size), fun i B M H x H' hi W s ⟨e, c, h1, h2⟩ => ⟨B, M, e ▸ W, ⟨c, by simpa using h1, h2⟩, rfl, rfl⟩, fun B M H W s => (by simp : z.cps.size ≤ z.cps.toList.length)⟩
theorem runs_enum : Runs (Ite K a) xs.length (YPair (fun i y => y = .int (i : Nat)) (fun i v => xs[i]? = some v)) (fun B M => LstW K B M a xs) :=
  ⟨fun i B M H hi W s => ⟨xs, xs[i], s H W, List.getElem?_eq_getElem hi⟩, fun i B M H x H' hi W s ⟨T, v, e1, e2, e3, h⟩ => ⟨B, _, e3 ▸ W.new e2, T, _, v, e1, rfl, h xs (s H W), rfl, rfl⟩, fun B M H W s => ⟨xs, s H W, Nat.le_refl _⟩⟩
theorem runs_zipL (hl : xs.length = ys.length) : Runs (Itz K a b) xs.length (YPair (fun i v => xs[i]? = some v) (fun i v => ys[i]? = some v)) (fun B M => LstW K B M a xs ∧ LstW K B M b ys) :=
  ⟨fun i B M H hi W s => ⟨xs, ys, xs[i], ys[i]'(hl ▸ hi), s.1 H W, s.2 H W, List.getElem?_eq_getElem hi, List.getElem?_eq_getElem (hl ▸ hi)⟩,
   fun i B M H x H' hi W s ⟨T, u, v, e1, e2, e3, h, h'⟩ => ⟨B, _, e3 ▸ W.new e2, T, u, v, e1, h xs (s.1 H W), h' ys (s.2 H W), rfl, rfl⟩, fun B M H W s => ⟨xs, ys, s.1 H W, s.2 H W, .inl (Nat.le_refl _)⟩⟩
end
section
variable {K : PySem.W.Frag} {σ : St} {B B' : Hp} {M M' : MM} {R : It → Hp → MM → Prop} {te : TE} {ta : TA}
theorem iw_list (h : EW te σ B M fun x B1 M1 => ∃ a xs, x = .ref a ∧ LstW K B1 M1 a xs ∧ R (Itl K a) B1 M1) : IW (iList K te) σ B M R := fun R' k H W =>
  h _ (fun x B1 M1 H1 W1 h1 => by obtain ⟨a, xs, rfl, s, q⟩ := h1; exact ⟨a, rfl, ⟨xs, s H1 W1⟩, k _ _ _ _ W1 q⟩) H W
theorem iw_tup (h : EW te σ B M fun x B1 M1 => ∃ a xs, x = .ref a ∧ TupW K B1 M1 a xs ∧ R (Itt K a) B1 M1) : IW (iTup K te) σ B M R := fun R' k H W =>
  h _ (fun x B1 M1 H1 W1 h1 => by obtain ⟨a, xs, rfl, s, q⟩ := h1; exact ⟨a, rfl, ⟨xs, s H1 W1⟩, k _ _ _ _ W1 q⟩) H W
theorem iw_rng1 (h : AW ta σ B M fun vs B1 M1 => ∃ j : Int, vs = [.int j] ∧ -(2 ^ 62) ≤ j ∧ j < 2 ^ 62 ∧ R (Itr 0 j.toNat) B1 M1) : IW (iRng1 ta) σ B M R := fun R' k H W =>
  h _ (fun x B1 M1 H1 W1 h1 => by obtain ⟨j, rfl, h1, h2, q⟩ := h1; exact ⟨j, rfl, h1, h2, k _ _ _ _ W1 q⟩) H W
theorem iw_rng2 (h : AW ta σ B M fun vs B1 M1 => ∃ i j : Int, vs = [.int i, .int j] ∧ (-(2 ^ 62) ≤ i ∧ i < 2 ^ 62 ∧ -(2 ^ 62) ≤ j ∧ j < 2 ^ 62) ∧ R (Itr i (j - i).toNat) B1 M1) : IW (iRng2 ta) σ B M R := fun R' k H W =>
  h _ (fun x B1 M1 H1 W1 h1 => by obtain ⟨i, j, rfl, h1, q⟩ := h1; exact ⟨i, j, rfl, h1, k _ _ _ _ W1 q⟩) H W
theorem iw_str (h : EW te σ B M fun x B1 M1 => ∃ z, x = .str z ∧ R (Its z) B1 M1) : IW (iStr te) σ B M R := fun R' k H W =>
  h _ (fun x B1 M1 H1 W1 h1 => by obtain ⟨z, rfl, q⟩ := h1; exact ⟨z, rfl, k _ _ _ _ W1 q⟩) H W
theorem iw_enum (h : AW ta σ B M fun vs B1 M1 => ∃ a xs, vs = [.ref a] ∧ LstW K B1 M1 a xs ∧ R (Ite K a) B1 M1) : IW (iEnum K ta) σ B M R := fun R' k H W =>
  h _ (fun x B1 M1 H1 W1 h1 => by obtain ⟨a, xs, rfl, s, q⟩ := h1; exact ⟨a, xs, rfl, s H1 W1, k _ _ _ _ W1 q⟩) H W
end
/-! ### for -/
def DW.loop (D : DW) (N : St → Hp → MM → Prop) : DW := ⟨fun σ => Up (N σ), D.rt, D.nx, fun σ => Up (N σ)⟩
section
variable {K : PySem.W.Frag} {σ : St} {B B' : Hp} {M M' : MM} {D : DW} {g : TG} {tb : TS} {wi : TI} {tc : TT}
theorem sw_for (h : IW wi σ B M fun J B1 M1 => ∃ n Y S, ∃ I : Nat → St → Hp → MM → Prop, Runs J n Y S ∧ I 0 σ B1 M1 ∧ (∀ i σ B M, I i σ B M → S B M) ∧
      (∀ i x σ B M B' M', i < n → I i σ B M → Y i B M x B' M' → GW g x σ B' M' fun σ2 B2 M2 => SW tb (D.loop (I (i + 1))) σ2 B2 M2) ∧ (∀ σ B M, I n σ B M → D.nx σ B M)) : SW (tFor wi g tb) D σ B M := fun D' l H W => by
  refine h _ (fun J B1 M1 H1 W1 h1 => ?_) H W
  obtain ⟨n, Y, S, I, ru, i0, iS, turn, fin⟩ := h1
  refine ⟨fun i m σ H => m = n - i ∧ i ≤ n ∧ ∃ B M, Wd B M H ∧ I i σ B M, ⟨n, by simp, Nat.zero_le _, B1, M1, W1, i0⟩, ?_⟩
  rintro i m σ2 H2 ⟨rfl, hi, B2, M2, W2, q2⟩
  by_cases hlt : i < n
  · refine .inr ⟨ru.go i B2 M2 H2 hlt W2 (iS _ _ _ _ q2), fun σ' H' => ∃ B M, Wd B M H' ∧ I (i + 1) σ' B M, fun σ' H' ⟨B3, M3, W3, q3⟩ => ⟨n - (i + 1), by omega, rfl, hlt, B3, M3, W3, q3⟩, fun x H3 hy => ?_⟩
    obtain ⟨B3, M3, W3, y3⟩ := ru.yld i B2 M2 H2 x H3 hlt W2 (iS _ _ _ _ q2) hy
    refine turn i x σ2 B2 M2 B3 M3 hlt q2 y3 _ (fun σ4 B4 M4 H4 W4 q4 => ?_) H3 W3
    exact q4 ⟨fun σ' H' => ∃ B M, Wd B M H' ∧ I (i + 1) σ' B M, D'.rt, D'.nx, fun σ' H' => ∃ B M, Wd B M H' ∧ I (i + 1) σ' B M⟩ ⟨fun σ B M H W q => q H W, l.rt, l.nx, fun σ B M H W q => q H W⟩ H4 W4
  · have e : i = n := by omega
    subst e
    exact .inl ⟨ru.stop B2 M2 H2 W2 (iS _ _ _ _ q2), l.nx _ _ _ _ W2 (fin _ _ _ q2)⟩
/-- while: I and a number that falls -/
theorem sw_while (I : St → Hp → MM → Prop) (μ : St → Nat) (h0 : I σ B M)
    (hs : ∀ σ B M, I σ B M → TW tc σ B M fun c B1 M1 => (c = true → SW tb (D.loop fun σ' B' M' => I σ' B' M' ∧ μ σ' < μ σ) σ B1 M1) ∧ (c = false → D.nx σ B1 M1)) : SW (tWhile tc tb) D σ B M := fun D' l H W => by
  refine ⟨fun m σ H => m = μ σ ∧ ∃ B M, Wd B M H ∧ I σ B M, ⟨_, rfl, B, M, W, h0⟩, ?_⟩
  rintro m σ2 H2 ⟨rfl, B2, M2, W2, q2⟩
  refine hs σ2 B2 M2 q2 _ (fun c B1 M1 H1 W1 h1 => ?_) H2 W2
  cases c with
  | true =>
    rw [if_pos rfl]
    refine ⟨fun σ' H' => ∃ B M, Wd B M H' ∧ I σ' B M ∧ μ σ' < μ σ2, fun σ' H' ⟨B3, M3, W3, q3, lt⟩ => ⟨μ σ', lt, rfl, B3, M3, W3, q3⟩, ?_⟩
    exact h1.1 rfl ⟨fun σ' H' => ∃ B M, Wd B M H' ∧ I σ' B M ∧ μ σ' < μ σ2, D'.rt, D'.nx, fun σ' H' => ∃ B M, Wd B M H' ∧ I σ' B M ∧ μ σ' < μ σ2⟩ ⟨fun σ B M H W q => q H W, l.rt, l.nx, fun σ B M H W q => q H W⟩ H1 W1
  | false =>
    rw [if_neg Bool.false_ne_true]
    exact l.nx _ _ _ _ W1 (h1.2 rfl)
end
/-! ### comprehensions -/
section
variable {K : PySem.W.Frag} {σ : St} {B B' : Hp} {M M' : MM} {Q : KW} {g : TG} {te : TE} {tt : TT} {wi : TI} {vs : List Nat}
/-- I: by the turn, what is made so far, what stands beside the new list -/
theorem ew_lc (h : IW wi σ B M fun J B1 M1 => ∃ n Y S, ∃ I : Nat → List V → Hp → MM → Prop, Runs J n Y S ∧ n ≤ sizeLine ∧ I 0 [] B1 M1 ∧ (∀ D i acc B M, I i acc B M → S B ((D, .lst acc) :: M)) ∧
      (∀ D i x acc B M B' M', i < n → acc.length ≤ i → I i acc B M → Y i B ((D, .lst acc) :: M) x B' M' → GW g x (wipe σ vs) B' M' fun σ2 B2 M2 => wipe σ2 vs = wipe σ vs ∧ TW tt σ2 B2 M2 fun c B3 M3 =>
        (c = true → EW te σ2 B3 M3 fun y => Up fun B5 M6 => ∃ M5, M6 = (D, .lst acc) :: M5 ∧ I (i + 1) (acc ++ [y]) B5 M5) ∧ (c = false → Up (fun B5 M6 => ∃ M5, M6 = (D, .lst acc) :: M5 ∧ I (i + 1) acc B5 M5) B3 M3)) ∧
      (∀ D acc B M, acc.length ≤ n → I n acc B M → Q (.ref D) B ((D, .lst acc) :: M))) : EW (tLc wi g tt te vs) σ B M Q := fun Q' k H W => by
  refine h _ (fun J B1 M1 H1 W1 h1 => ?_) H W
  obtain ⟨n, Y, S, I, ru, hn, i0, iS, turn, fin⟩ := h1
  intro D hD
  refine ⟨fun i m H => m = n - i ∧ i ≤ n ∧ ∃ acc B M, Wd B ((D, .lst acc) :: M) H ∧ acc.length ≤ i ∧ I i acc B M, ⟨n, by simp, Nat.zero_le _, [], B1, M1, W1.new hD, Nat.le_refl _, i0⟩, ?_⟩
  rintro i m H2 ⟨rfl, hi, acc, B2, M2, W2, hl, q2⟩
  by_cases hlt : i < n
  · refine .inr ⟨ru.go i B2 _ H2 hlt W2 (iS _ _ _ _ _ q2), fun H' => ∃ acc B M, Wd B ((D, .lst acc) :: M) H' ∧ acc.length ≤ i + 1 ∧ I (i + 1) acc B M, fun H' ⟨acc', B3, M3, W3, l3, q3⟩ => ⟨n - (i + 1), by omega, rfl, hlt, acc', B3, M3, W3, l3, q3⟩, fun x H3 hy => ?_⟩
    obtain ⟨B3, M3, W3, y3⟩ := ru.yld i B2 _ H2 x H3 hlt W2 (iS _ _ _ _ _ q2) hy
    refine turn D i x acc B2 M2 B3 M3 hlt hl q2 y3 _ (fun σ4 B4 M4 H4 W4 q4 => ?_) H3 W3
    refine ⟨q4.1, q4.2 _ (fun c B5 M5 H5 W5 q5 => ?_) H4 W4⟩
    cases c with
    | true =>
      rw [if_pos rfl]
      refine q5.1 rfl _ (fun y B6 M6 H6 W6 q6 => ?_) H5 W5
      obtain ⟨B7, _, W7, M7, rfl, q7⟩ := q6 H6 W6
      exact ⟨acc, W7.hd, by omega, acc ++ [y], B7, M7, W7.write, by rw [List.length_append, List.length_singleton]; omega, q7⟩
    | false =>
      rw [if_neg Bool.false_ne_true]
      obtain ⟨B7, _, W7, M7, rfl, q7⟩ := q5.2 rfl H5 W5
      exact ⟨acc, B7, M7, W7, by omega, q7⟩
  · have e : i = n := by omega
    subst e
    exact .inl ⟨ru.stop B2 _ H2 W2 (iS _ _ _ _ _ q2), k _ _ _ _ W2 (fin D acc B2 M2 hl q2)⟩
end
/-! ### what a def promises -/
abbrev XW := Value → Option Addr → Hp → MM → Prop
abbrev SpW := List V → Hp → MM → KW → XW → Prop
def spW (s : SpW) : Sp := fun vs H Q E => ∃ B M, ∃ Q0 : KW, ∃ E0 : XW, Wd B M H ∧ s vs B M Q0 E0 ∧ (∀ v B' M' H', Wd B' M' H' → Q0 v B' M' → Q v H') ∧ (∀ c d B' M' H', Wd B' M' H' → E0 c d B' M' → E c d H')
abbrev X0 : XW := fun _ _ _ _ => False
theorem cw_of {s : SpW} {vs : List V} {B : Hp} {M : MM} {Q : KW} (h : s vs B M Q X0) : CW (spW s) L2.E0 vs B M Q := fun Q' k H W => ⟨B, M, Q, X0, W, h, k, fun _ _ _ _ _ _ z => z.elim⟩
theorem cw_le {sp : Sp} {E : XK} {vs : List V} {B B' : Hp} {M M' : MM} {Q : KW} (l : Le B M B' M') (h : CW sp E vs B' M' Q) : CW sp E vs B M Q := fun Q' k H W => h Q' k H (l H W)
/-- an object of one's own is handed to the def, the others stand beside -/
theorem cw_sel {s : SpW} {vs : List V} {B : Hp} {M c R : MM} {F : MM → MM} {Q : KW} (x : Sel M c R F) (h : s vs B (c ++ R) (fun v B' M' => ∃ c', M' = c' ++ R ∧ Q v B' (F c')) X0) : CW (spW s) L2.E0 vs B M Q := fun Q' k H W =>
  ⟨B, c ++ R, _, X0, W.perm x.perm.1, h, fun v B' M' H' W' ⟨c', e, q⟩ => k v B' (F c') H' ((e ▸ W').perm (x.perm.2 c').symm) q, fun _ _ _ _ _ _ z => z.elim⟩
/-- a def by its body -/
theorem fn_ok {P : Program} {w : World} {K : PySem.W.Frag} {mg : Str → Option Value} {base : Heap} {x qual : Str} {params : Arguments} {body : List Stmt} {scope : Scope} {dvs : List V} {kws : List (Str × V)} {f : Addr} {fd : FuncData} {N ps : List Str} {k : Nat} {s : SpW} (t : TS)
    (F : FunD K x qual params body scope dvs kws f fd) (S : FnScope N ps scope) (len : ∀ vs B M Q E, s vs B M Q E → vs.length = ps.length)
    (hbody : ∀ (cdv : Value) (A : Around) (outer : List Env) (sh : Shared) (H : Hp) (E : XK), Room k (A.deeper (PyProof.Rows.envOfC qual scope sh.heap.objs.size f cdv)) → PSs (cxOf CX0 P w K mg base N qual scope f cdv A outer sh H E).nox body t)
    (pure_ : ∀ vs B M Q E, s vs B M Q E → SW t (DW.up ⟨fun _ B M => Q .non B M, Q, fun _ _ _ => False, fun _ _ _ => False⟩) (start N vs) B M) : FnOk P w K mg base CX0 (k + 1) f fd ps (spW s) := by
  refine F.ok S (fun vs H Q E h => ?_) fun cdv A outer sh H vs Q E hr h => ⟨t, (hbody cdv A outer sh H E hr).nox, ?_⟩
  · obtain ⟨B, M, Q0, E0, _, h, _⟩ := h
    exact len vs B M Q0 E0 h
  · obtain ⟨B, M, Q0, E0, W, h, hQ, _⟩ := h
    exact pure_ vs B M Q0 E0 h _ (DLe.up ⟨fun σ B M H W q => hQ _ _ _ _ W q, fun v B M H W q => hQ _ _ _ _ W q, fun _ _ _ _ _ z => z.elim, fun _ _ _ _ _ z => z.elim⟩) H W
end Pap

set_option maxHeartbeats 4000000
/-! PkD: the text's defs as they stand, called by place and by keywords. -/
namespace Pap
open PySem PySem.Spec L2

/-- a def of the top that keeps a promise -/
structure Fnk (P : Program) (w : World) (K : PySem.W.Frag) (mg : Str → Option Value) (base : Heap) (d : He.DefD) (ps : List Str) (k : Nat) (sp : Sp) : Prop where
  ex : ∃ fd, FunD K d.name d.qual d.params d.body d.scope (d.dvs K) (d.kws K) (He.fAd K d.at_) fd ∧ FnOk P w K mg base CX0 k (He.fAd K d.at_) fd ps sp
/-- how n values at places bind: the rest are defaults -/
def BindP (K : PySem.W.Frag) (d : He.DefD) (ps : List Str) (dvs : List V) : Prop :=
  ∀ fd, FunD K d.name d.qual d.params d.body d.scope (d.dvs K) (d.kws K) (He.fAd K d.at_) fd → ∃ ds, Vals dvs ds ∧ Binds K fd ps ds
/-- n values at places, keywords named ks -/
def BindK (K : PySem.W.Frag) (d : He.DefD) (ps : List Str) (n : Nat) (ks : List Str) (gV : List V → List V → List V) : Prop :=
  ∀ fd, FunD K d.name d.qual d.params d.body d.scope (d.dvs K) (d.kws K) (He.fAd K d.at_) fd → ∃ g, KBn K fd ps n ks g gV
section
variable {X : Cx} {d : He.DefD} {ps ks : List Str} {k j n : Nat} {sp : Sp} {x m : Str} {p pos apos : Pos} {e o : Expr} {es : List Expr} {kws : List Keyword} {t tk : TA} {ta : TE} {dvs : List V} {gV : List V → List V → List V} {C : Addr}
theorem pe_fn (G : Fnk X.prog X.w X.K X.mg X.base d ps k sp) (b : BindP X.K d ps dvs) (hr : Room j X.A) (hk : k ≤ j) (hg : Gl X x) (hm : X.mg x = some (.ref (He.fAd X.K d.at_)))
    (ha : PA X (e :: es) t) (hdb : (x == ("__debug__" : Str)) = false := by decide) (he : starEach (e :: es) X.env = (false, eval e X.env) :: starEach es X.env := by rfl) (hpl : (backTo pos (starEach es X.env)).any (·.1) = false := by rfl) :
    PE X (.Call (.Name x p) (e :: es) [] pos) (tCall sp dvs E0 t) := by
  obtain ⟨fd, F, G⟩ := G.ex
  obtain ⟨ds, hd, hb⟩ := b fd F
  exact pe_call G (hr.mono hk) hg hm F.kp hb hd pass0 ha hdb he hpl
theorem pe_fn0 (G : Fnk X.prog X.w X.K X.mg X.base d ps k sp) (b : BindP X.K d ps dvs) (hr : Room j X.A) (hk : k ≤ j) (hg : Gl X x) (hm : X.mg x = some (.ref (He.fAd X.K d.at_)))
    (hdb : (x == ("__debug__" : Str)) = false := by decide) : PE X (.Call (.Name x p) [] [] pos) (tCall sp dvs E0 tNil) := by
  obtain ⟨fd, F, G⟩ := G.ex
  obtain ⟨ds, hd, hb⟩ := b fd F
  exact pe_call0 G (hr.mono hk) hg hm F.kp hb hd pass0 hdb
theorem pe_fnk (G : Fnk X.prog X.w X.K X.mg X.base d ps k sp) (b : BindK X.K d ps n ks gV) (hr : Room j X.A) (hk : k ≤ j) (hg : Gl X x) (hm : X.mg x = some (.ref (He.fAd X.K d.at_)))
    (ha : PA X (e :: es) t) (hkw : L2.PK X kws tk) (hall : (backToKw pos (keywordEach kws X.env)).all (·.1.isSome) = true := by rfl) (hks : (backToKw pos (keywordEach kws X.env)).filterMap (·.1) = ks := by rfl)
    (hdb : (x == ("__debug__" : Str)) = false := by decide) (he : starEach (e :: es) X.env = (false, eval e X.env) :: starEach es X.env := by rfl)
    (hpl : ((backTo pos (starEach (e :: es) X.env)).any (·.1) || (backToKw pos (keywordEach kws X.env)).any (·.1.isNone)) = false := by rfl) :
    PE X (.Call (.Name x p) (e :: es) kws pos) (tCallN n ks.length sp gV E0 t tk) := by
  obtain ⟨fd, F, G⟩ := G.ex
  obtain ⟨g, hb⟩ := b fd F
  exact pe_callN G (hr.mono hk) hg hm F.kp hb pass0 ha hkw hall hks hdb he hpl
theorem pe_me {pl : Sem Bool} (G : Fnk X.prog X.w X.K X.mg X.base d ps k sp) (b : BindP X.K d ps dvs) (hr : Room j X.A) (hk : k ≤ j) (c : Cls X.K C) (hm : Meth X.K C m (He.fAd X.K d.at_)) (he : PE X o ta) (ha : PA X (e :: es) t)
    (hst : starEach (e :: es) X.env = (false, eval e X.env) :: starEach es X.env := by rfl) (hpl : (backTo pos (starEach es X.env)).any (·.1) = false := by rfl)
    (ht : eval (.Call (.Attribute o m apos) (e :: es) [] pos) X.env = (do
      let ov ← eval o X.env
      standAt apos.atName
      let (f, first) ← holding [ov] (getMethod ov m pl)
      callWith pos f first (backTo pos (starEach (e :: es) X.env)) (backToKw pos (keywordEach [] X.env))) := by rfl) :
    PE X (.Call (.Attribute o m apos) (e :: es) [] pos) (tMeth C m sp dvs E0 ta t) := by
  obtain ⟨fd, F, G⟩ := G.ex
  obtain ⟨ds, hd, hb⟩ := b fd F
  exact pe_meth (pl := pl) he c hm G (hr.mono hk) hb hd pass0 ha hst hpl ht
theorem pe_me0 {pl : Sem Bool} (G : Fnk X.prog X.w X.K X.mg X.base d ps k sp) (b : BindP X.K d ps dvs) (hr : Room j X.A) (hk : k ≤ j) (c : Cls X.K C) (hm : Meth X.K C m (He.fAd X.K d.at_)) (he : PE X o ta)
    (ht : eval (.Call (.Attribute o m apos) [] [] pos) X.env = (do
      let ov ← eval o X.env
      standAt apos.atName
      let (f, first) ← holding [ov] (getMethod ov m pl)
      callWith pos f first (backTo pos (starEach [] X.env)) (backToKw pos (keywordEach [] X.env))) := by rfl) :
    PE X (.Call (.Attribute o m apos) [] [] pos) (tMeth C m sp dvs E0 ta tNil) := by
  obtain ⟨fd, F, G⟩ := G.ex
  obtain ⟨ds, hd, hb⟩ := b fd F
  exact pe_meth0 (pl := pl) he c hm G (hr.mono hk) hb hd pass0 ht
/-- o.m(e, .., k = v, ..) -/
def tMethK (C : Addr) (m : Str) (n q : Nat) (sp : Sp) (gV : List V → List V → List V) (E : XK) (ta : TE) (t tk : TA) : TE := fun σ H Q => ta σ H fun x H1 => ∃ a dx fs, x = .ref a ∧ H1 a = some (.ins C dx fs) ∧ fs.lookup m = none ∧
  t σ H1 fun vs H2 => tk σ H2 fun zs H3 => vs.length = n ∧ zs.length = q ∧ sp (gV (x :: vs) zs) H3 Q E
theorem pe_mek {pl : Sem Bool} (G : Fnk X.prog X.w X.K X.mg X.base d ps k sp) (b : BindK X.K d ps (n + 1) ks gV) (hr : Room j X.A) (hk : k ≤ j) (c : Cls X.K C) (hm : Meth X.K C m (He.fAd X.K d.at_)) (he : PE X o ta) (ha : PA X (e :: es) t)
    (hkw : L2.PK X kws tk) (hall : (backToKw pos (keywordEach kws X.env)).all (·.1.isSome) = true := by rfl) (hks : (backToKw pos (keywordEach kws X.env)).filterMap (·.1) = ks := by rfl)
    (hst : starEach (e :: es) X.env = (false, eval e X.env) :: starEach es X.env := by rfl)
    (hpl : ((backTo pos (starEach (e :: es) X.env)).any (·.1) || (backToKw pos (keywordEach kws X.env)).any (·.1.isNone)) = false := by rfl)
    (ht : eval (.Call (.Attribute o m apos) (e :: es) kws pos) X.env = (do
      let ov ← eval o X.env
      standAt apos.atName
      let (f, first) ← holding [ov] (getMethod ov m pl)
      callWith pos f first (backTo pos (starEach (e :: es) X.env)) (backToKw pos (keywordEach kws X.env))) := by rfl) :
    PE X (.Call (.Attribute o m apos) (e :: es) kws pos) (tMethK C m n ks.length sp gV E0 ta t tk) := by
  obtain ⟨fd, F, G⟩ := G.ex
  obtain ⟨g, hb⟩ := b fd F
  refine ⟨fun pins s σ H Q I h => ?_⟩
  refine PySem.W.methodCall_KW (pl := pl) (thn (he.run pins s σ H _ I h) fun u s1 ⟨x, H1, I1, rx, a, dx, fs, ex, ea, l, q⟩ => ?_) ht
  subst ex
  obtain rfl : u = Value.ref a := rx
  refine getmeth_ok I1 ea c hm l ?_
  refine PySem.W.callWith_KW (first := [.ref a]) (h₀ := X.base) I.ok.mod.kin hm.kp hall (thn (ha.run pos pins s1 σ H1 _ I1 q) fun us s2 ⟨vs, H2, I2, r, q2⟩ => ?_) hpl hst
  refine thn (hkw.run pos pins s2 σ H2 _ I2 q2) fun ws s3 ⟨zs, H3, I3, rz, l1, l2, q3⟩ => ⟨I3.kIn, ?_⟩
  rw [hks]
  exact run_fnN (us := .ref a :: us) (vs := .ref a :: vs) G (hr.mono hk) hb pass0 I3 (.cons rfl r) rz (by rw [List.length_cons, l1]) l2 q3
theorem pe_mek0 {pl : Sem Bool} (G : Fnk X.prog X.w X.K X.mg X.base d ps k sp) (b : BindK X.K d ps 1 ks gV) (hr : Room j X.A) (hk : k ≤ j) (c : Cls X.K C) (hm : Meth X.K C m (He.fAd X.K d.at_)) (he : PE X o ta)
    (hkw : L2.PK X kws tk) (hall : (backToKw pos (keywordEach kws X.env)).all (·.1.isSome) = true := by rfl) (hks : (backToKw pos (keywordEach kws X.env)).filterMap (·.1) = ks := by rfl)
    (hpl : ((backTo pos (starEach [] X.env)).any (·.1) || (backToKw pos (keywordEach kws X.env)).any (·.1.isNone)) = false := by rfl)
    (ht : eval (.Call (.Attribute o m apos) [] kws pos) X.env = (do
      let ov ← eval o X.env
      standAt apos.atName
      let (f, first) ← holding [ov] (getMethod ov m pl)
      callWith pos f first (backTo pos (starEach [] X.env)) (backToKw pos (keywordEach kws X.env))) := by rfl) :
    PE X (.Call (.Attribute o m apos) [] kws pos) (tMethK C m 0 ks.length sp gV E0 ta tNil tk) := by
  obtain ⟨fd, F, G⟩ := G.ex
  obtain ⟨g, hb⟩ := b fd F
  refine ⟨fun pins s σ H Q I h => ?_⟩
  refine PySem.W.methodCall_KW (pl := pl) (thn (he.run pins s σ H _ I h) fun u s1 ⟨x, H1, I1, rx, a, dx, fs, ex, ea, l, q⟩ => ?_) ht
  subst ex
  obtain rfl : u = Value.ref a := rx
  refine getmeth_ok I1 ea c hm l ?_
  refine PySem.W.callWith_KW0 (first := [.ref a]) (h₀ := X.base) I.ok.mod.kin hm.kp hall (thn (hkw.run pos pins s1 σ H1 _ I1 q) fun ws s3 ⟨zs, H3, I3, rz, l1, l2, q3⟩ => ⟨I3.kIn, ?_⟩) hpl
  rw [hks]
  exact run_fnN (us := [.ref a]) (vs := [.ref a]) G (hr.mono hk) hb pass0 I3 (.cons rfl .nil) rz rfl l2 q3
/-- C(e, ..) -/
theorem pe_mkc (G : Fnk X.prog X.w X.K X.mg X.base d ps k sp) (b : BindP X.K d ps dvs) (hr : Room j X.A) (hk : k + 1 ≤ j) (Mc : Mk X.K C (He.fAd X.K d.at_)) (hg : Gl X x) (hm : X.mg x = some (.ref C))
    (ha : PA X (e :: es) t) (hdb : (x == ("__debug__" : Str)) = false := by decide) (he : starEach (e :: es) X.env = (false, eval e X.env) :: starEach es X.env := by rfl) (hpl : (backTo pos (starEach es X.env)).any (·.1) = false := by rfl) :
    PE X (.Call (.Name x p) (e :: es) [] pos) (tMake C sp dvs E0 t) := by
  obtain ⟨fd, F, G⟩ := G.ex
  obtain ⟨ds, hd, hb⟩ := b fd F
  exact pe_make Mc G (hr.mono hk) hg hm hb hd pass0 ha hdb he hpl
theorem pe_mkc0 (G : Fnk X.prog X.w X.K X.mg X.base d ps k sp) (b : BindP X.K d ps dvs) (hr : Room j X.A) (hk : k + 1 ≤ j) (Mc : Mk X.K C (He.fAd X.K d.at_)) (hg : Gl X x) (hm : X.mg x = some (.ref C))
    (hdb : (x == ("__debug__" : Str)) = false := by decide) : PE X (.Call (.Name x p) [] [] pos) (tMake C sp dvs E0 tNil) := by
  obtain ⟨fd, F, G⟩ := G.ex
  obtain ⟨ds, hd, hb⟩ := b fd F
  exact pe_make0 Mc G (hr.mono hk) hg hm hb hd pass0 hdb
theorem pe_mkk (G : Fnk X.prog X.w X.K X.mg X.base d ps k sp) (b : BindK X.K d ps (n + 1) ks gV) (hr : Room j X.A) (hk : k + 1 ≤ j) (Mc : Mk X.K C (He.fAd X.K d.at_)) (hg : Gl X x) (hm : X.mg x = some (.ref C))
    (ha : PA X (e :: es) t) (hkw : L2.PK X kws tk) (hall : (backToKw pos (keywordEach kws X.env)).all (·.1.isSome) = true := by rfl) (hks : (backToKw pos (keywordEach kws X.env)).filterMap (·.1) = ks := by rfl)
    (hdb : (x == ("__debug__" : Str)) = false := by decide) (he : starEach (e :: es) X.env = (false, eval e X.env) :: starEach es X.env := by rfl)
    (hpl : ((backTo pos (starEach (e :: es) X.env)).any (·.1) || (backToKw pos (keywordEach kws X.env)).any (·.1.isNone)) = false := by rfl) :
    PE X (.Call (.Name x p) (e :: es) kws pos) (tMakeN C n ks.length sp gV E0 t tk) := by
  obtain ⟨fd, F, G⟩ := G.ex
  obtain ⟨g, hb⟩ := b fd F
  exact pe_makeN Mc G (hr.mono hk) hg hm hb pass0 ha hkw hall hks hdb he hpl
end
section
variable {σ : St} {B : Hp} {M : MM} {Q : KW} {t tk : TA} {ta : TE} {sp : Sp} {E : XK} {n m : Nat} {gV : List V → List V → List V} {C : Addr} {f : Str}
theorem ew_callN (h : AW t σ B M fun vs B1 M1 => AW tk σ B1 M1 fun zs B2 M2 => vs.length = n ∧ zs.length = m ∧ CW sp E (gV vs zs) B2 M2 Q) : EW (tCallN n m sp gV E t tk) σ B M Q := fun Q' k H W =>
  h _ (fun vs B1 M1 H1 W1 h1 => h1 _ (fun zs B2 M2 H2 W2 h2 => ⟨h2.1, h2.2.1, h2.2.2 Q' k H2 W2⟩) H1 W1) H W
theorem ew_methK (h : EW ta σ B M fun x B1 M1 => ∃ a dx fs, x = .ref a ∧ At B1 M1 a (.ins C dx fs) ∧ fs.lookup f = none ∧ AW t σ B1 M1 fun vs B2 M2 => AW tk σ B2 M2 fun zs B3 M3 => vs.length = n ∧ zs.length = m ∧ CW sp E (gV (x :: vs) zs) B3 M3 Q) :
    EW (tMethK C f n m sp gV E ta t tk) σ B M Q := fun Q' k H W => by
  refine h _ (fun x B1 M1 H1 W1 h1 => ?_) H W
  obtain ⟨a, dx, fs, rfl, ha, hl, h2⟩ := h1
  exact ⟨a, dx, fs, rfl, ha.of W1, hl, h2 _ (fun vs B2 M2 H2 W2 h3 => h3 _ (fun zs B3 M3 H3 W3 h4 => ⟨h4.1, h4.2.1, h4.2.2 Q' k H3 W3⟩) H2 W2) H1 W1⟩
theorem ew_makeN (h : AW t σ B M fun vs B1 M1 => AW tk σ B1 M1 fun zs B2 M2 => vs.length = n ∧ zs.length = m ∧ ∀ x dx, CW sp E (gV (.ref x :: vs) zs) B2 ((x, .ins C dx []) :: M2) fun v B3 M3 => v = .non ∧ Q (.ref x) B3 M3) :
    EW (tMakeN C n m sp gV E t tk) σ B M Q := fun Q' k H W => by
  refine h _ (fun vs B1 M1 H1 W1 h1 => ?_) H W
  refine h1 _ (fun zs B2 M2 H2 W2 h2 => ?_) H1 W1
  obtain ⟨l1, l2, h2⟩ := h2
  refine ⟨l1, l2, fun x dx hx hd hne => ?_⟩
  refine h2 x dx _ (fun v B3 M3 H3 W3 q => ⟨q.1, k _ _ _ _ W3 q.2⟩) _ ?_
  exact (W2.lay (o := .own x) hd).new (by rw [upd_ne hne.symm]; exact hx)
end
/-! ### binding -/
section
variable {K : PySem.W.Frag} {d : He.DefD} {ps : List Str}
theorem bindP_n (h0 : d.dfl = []) (h1 : d.kwd = [])
    (h : ∀ (kV doc pm : Value) (an : Option Addr) (cdv ct : Value) (us : List Value), us.length = ps.length → bindArgs (PySem.W.fnOf d.name d.qual d.params d.body d.scope .none kV doc pm an cdv ct) ⟨us, []⟩ = pure (ps.zip us)) : BindP K d ps [] := fun fd F => by
  have e0 : d.dvs K = [] := by unfold He.DefD.dvs; rw [h0]; rfl
  rw [e0] at F
  exact ⟨[], .nil, F.bindsN h⟩
theorem bindP_d (n j : Nat) (h0 : d.dfl ≠ []) (hn : n + (d.dfl.length - j) = ps.length)
    (h : ∀ (T : Addr) (kV doc pm : Value) (an : Option Addr) (cdv ct : Value) (us its : List Value), us.length = n → its.length = d.dfl.length →
      ∃ k, bindArgs (PySem.W.fnOf d.name d.qual d.params d.body d.scope (.ref T) kV doc pm an cdv ct) ⟨us, []⟩ = seqItems? (.ref T) >>= k ∧ k (some its.toArray) = pure (ps.zip (us ++ its.drop j))) : BindP K d ps ((d.dvs K).drop j) := fun fd F => by
  have l : (d.dvs K).length = d.dfl.length := by unfold He.DefD.dvs; rw [List.length_map]
  exact F.binds1 n j (fun e => h0 (List.map_eq_nil_iff.mp e)) (by rw [l]; exact hn) (fun T kV doc pm an cdv ct us its h1 h2 => h T kV doc pm an cdv ct us its h1 (h2.trans l))
theorem bindK_d (n : Nat) (ks : List Str) (g : {α : Type} → List α → List α → List α → List α) (h0 : d.dfl ≠ [])
    (hrel : ∀ {vs ds zs : List V} {us its ws : List Value}, Vals vs us → Vals ds its → Vals zs ws → Vals (g vs ds zs) (g us its ws))
    (h : ∀ (T : Addr) (kV doc pm : Value) (an : Option Addr) (cdv ct : Value) (us its ws : List Value), us.length = n → its.length = d.dfl.length → ws.length = ks.length →
      ∃ k, bindArgs (PySem.W.fnOf d.name d.qual d.params d.body d.scope (.ref T) kV doc pm an cdv ct) ⟨us, ks.zip ws⟩ = seqItems? (.ref T) >>= k ∧ k (some its.toArray) = pure (ps.zip (g us its ws))) : BindK K d ps n ks (fun vs zs => g vs (d.dvs K) zs) := fun fd F => by
  have l : (d.dvs K).length = d.dfl.length := by unfold He.DefD.dvs; rw [List.length_map]
  obtain ⟨its, q⟩ := F.kbindsD n ks g (fun e => h0 (List.map_eq_nil_iff.mp e)) hrel (fun T kV doc pm an cdv ct us its ws h1 h2 h3 => h T kV doc pm an cdv ct us its ws h1 (h2.trans l) h3)
  exact ⟨_, q⟩
end
/-- the def by its body -/
theorem fnk_of {P : Program} {w : World} {K : PySem.W.Frag} {mg : Str → Option Value} {base : Heap} {d : He.DefD} {N ps : List Str} {k : Nat} {s : SpW} (t : TS)
    (F : ∃ fd, FunD K d.name d.qual d.params d.body d.scope (d.dvs K) (d.kws K) (He.fAd K d.at_) fd) (S : FnScope N ps d.scope) (len : ∀ vs B M Q E, s vs B M Q E → vs.length = ps.length)
    (hbody : ∀ (f : Addr) (cdv : Value) (A : Around) (outer : List Env) (sh : Shared) (H : Hp) (E : XK), Room k (A.deeper (PyProof.Rows.envOfC d.qual d.scope sh.heap.objs.size f cdv)) → PSs (cxOf CX0 P w K mg base N d.qual d.scope f cdv A outer sh H E).nox d.body t)
    (pure_ : ∀ vs B M Q E, s vs B M Q E → SW t (DW.up ⟨fun _ B M => Q .non B M, Q, fun _ _ _ => False, fun _ _ _ => False⟩) (start N vs) B M) : Fnk P w K mg base d ps (k + 1) (spW s) := by
  obtain ⟨fd, F⟩ := F
  exact ⟨fd, F, fn_ok t F S len (fun cdv A outer sh H E hr => hbody _ cdv A outer sh H E hr) pure_⟩
end Pap

set_option maxHeartbeats 4000000
/-! PkE: further rules over the hand layer. -/
namespace Pap
open PySem PySem.Spec L2

/-! ### a list, a tuple, a text is walked -/
def iAny (K : PySem.W.Frag) (te : TE) : TI := fun σ H R => te σ H fun x H1 => (∃ a, x = .ref a ∧ (∃ xs, SqL K H1 a xs) ∧ R (Itl K a) H1) ∨ (∃ a, x = .ref a ∧ (∃ xs, SqT K H1 a xs) ∧ R (Itt K a) H1) ∨ ∃ z, x = .str z ∧ R (Its z) H1
theorem pi_any {X : Cx} {tg e : Expr} {te : TE} (he : PE X e te) : PI X tg e (iAny X.K te) := by
  refine ⟨fun pins s σ H R I h => ?_⟩
  refine thn (he.run pins s σ H _ I h) fun v s1 ⟨x, H1, I1, r1, q1⟩ => ?_
  rcases q1 with ⟨a, e, ⟨xs, hq⟩, q⟩ | ⟨a, e, ⟨xs, hq⟩, q⟩ | ⟨z, e, q⟩
  · subst e
    cases r1
    obtain ⟨its, rv, p, hz⟩ := I1.list hq
    refine wpAny_pyIter_list p.isList ?_
    refine ⟨s1.heap.objs.size, [s1.heap.objs.size], _, _, H1, rfl, I1.kept (t' := s1.toks) fun b o e => Heap.get?_push_of_some _ e, turn_list a _, ⟨_, Heap.get?_push_size _ rfl, rfl, rfl⟩, fun b hb => ?_, q⟩
    have e : b = s1.heap.objs.size := by simpa using hb
    subst e
    exact I1.fpOk (Nat.le_refl _) (I1.hok.fresh (Nat.le_refl _))
  · subst e
    cases r1
    obtain ⟨its, rv, p, hz⟩ := I1.tuple hq
    refine wpAny_pyIter_tuple (show s1.heap.IsTuple a its.toArray from p) ?_
    refine ⟨s1.heap.objs.size, [s1.heap.objs.size], _, _, H1, rfl, I1.kept (t' := s1.toks) fun b o e => Heap.get?_push_of_some _ e, turn_tuple a _, ⟨_, Heap.get?_push_size _ rfl, rfl, rfl⟩, fun b hb => ?_, q⟩
    have e : b = s1.heap.objs.size := by simpa using hb
    subst e
    exact I1.fpOk (Nat.le_refl _) (I1.hok.fresh (Nat.le_refl _))
  · subst e
    obtain ⟨t, rfl⟩ := r1
    cases ha : z.cps.all (· < 128)
    · exact wpAny_pyIter_wide ha (pi_one (tk := s1.toks) I1 _ (turn_str _ z t "str_iterator" (.inr rfl)) ⟨_, Heap.get?_push_size _ rfl, rfl, rfl⟩ q)
    · exact wpAny_pyIter_ascii ha (pi_one (tk := s1.toks) I1 _ (turn_str _ z t "str_ascii_iterator" (.inl rfl)) ⟨_, Heap.get?_push_size _ rfl, rfl, rfl⟩ q)
section
variable {K : PySem.W.Frag} {σ : St} {B B' : Hp} {M M' : MM} {R : It → Hp → MM → Prop} {te : TE} {ta : TA}
theorem iw_any (h : EW te σ B M fun x B1 M1 => (∃ a xs, x = .ref a ∧ LstW K B1 M1 a xs ∧ R (Itl K a) B1 M1) ∨ (∃ a xs, x = .ref a ∧ TupW K B1 M1 a xs ∧ R (Itt K a) B1 M1) ∨ ∃ z, x = .str z ∧ R (Its z) B1 M1) : IW (iAny K te) σ B M R := fun R' k H W =>
  h _ (fun x B1 M1 H1 W1 h1 => by
    rcases h1 with ⟨a, xs, rfl, s, q⟩ | ⟨a, xs, rfl, s, q⟩ | ⟨z, rfl, q⟩
    · exact .inl ⟨a, rfl, ⟨xs, s H1 W1⟩, k _ _ _ _ W1 q⟩
    · exact .inr (.inl ⟨a, rfl, ⟨xs, s H1 W1⟩, k _ _ _ _ W1 q⟩)
    · exact .inr (.inr ⟨z, rfl, k _ _ _ _ W1 q⟩)) H W
theorem iw_zipA (h : AW ta σ B M fun vs B1 M1 => ∃ a b xs ys, vs = [.ref a, .ref b] ∧ ((LstW K B1 M1 a xs ∧ LstW K B1 M1 b ys ∧ R (Itz K a b) B1 M1) ∨ (TupW K B1 M1 a xs ∧ TupW K B1 M1 b ys ∧ R (RZ.ItzT K a b) B1 M1))) : IW (RZ.iZipA K ta) σ B M R := fun R' k H W =>
  h _ (fun x B1 M1 H1 W1 h1 => by
    obtain ⟨a, b, xs, ys, rfl, h2⟩ := h1
    refine ⟨a, b, xs, ys, rfl, ?_⟩
    rcases h2 with ⟨s, s', q⟩ | ⟨s, s', q⟩
    · exact .inl ⟨s H1 W1, s' H1 W1, k _ _ _ _ W1 q⟩
    · exact .inr ⟨s H1 W1, s' H1 W1, k _ _ _ _ W1 q⟩) H W
end

/-! ### enumerate of a list, a tuple, from any number on -/
def SqX (K : PySem.W.Frag) (tup : Bool) (H : Hp) (a : Addr) (xs : List V) : Prop := if tup = true then SqT K H a xs else SqL K H a xs
def IteC (K : PySem.W.Frag) (tup : Bool) (c : Int) (a : Addr) : It :=
  ⟨fun i H => ∃ (xs : List V) (x : V), SqX K tup H a xs ∧ xs[i]? = some x, fun i H v H' => ∃ T x, v = .ref T ∧ H T = none ∧ H' = upd H T (.tup [.int (c + (i : Nat)), x]) ∧ ∀ xs, SqX K tup H a xs → xs[i]? = some x, fun i H => ∃ xs : List V, SqX K tup H a xs ∧ xs.length = i⟩
theorem turn_enumL {P : Program} {w : World} {K : PySem.W.Frag} {elts : List Expr} {kk : Nat} {tpos : Pos} (c : Int) (a e it : Addr) :
    Turn P w K (.Tuple elts kk tpos) (IteC K false c a) [e, it] e (fun i h => (∃ old, IsEnum h e it (c + ((i : Nat) : Int)) old) ∧ h.IsListIter it a i ∧ e ≠ it) where
  mem := by simp
  obj := fun i h st b hb => by
    obtain ⟨⟨old, he⟩, ⟨o, ho, hc, hd⟩, _⟩ := st
    have e' : b = e ∨ b = it := by simpa using hb
    rcases e' with z | z
    · rw [z]; exact ⟨_, he, fun v q => nomatch q⟩
    · rw [z]; exact ⟨o, ho, fun v q => by rw [hd] at q; cases q⟩
  keep := fun i h h' st k => let ⟨⟨old, he⟩, hi, hne⟩ := st; ⟨⟨old, k e (by simp) _ he⟩, hi.at fun o q => k it (by simp) o q, hne⟩
  item := by
    intro X hP hw hK hc i pins s σ H E I hf st hg
    subst hP hw hK
    obtain ⟨⟨old, he⟩, hit, hne⟩ := st
    obtain ⟨xs, x, hq, hx⟩ := hg
    have hq' : SqL X.K H a xs := hq
    obtain ⟨its, rv, p, hz⟩ := I.list hq'
    have pl : s.heap.IsList a its.toArray := p.isList
    obtain ⟨u, hu, ru⟩ := rv.get hx
    have hel : e < s.heap.objs.size := Heap.lt_size he
    have hil : it < s.heap.objs.size := by obtain ⟨_, q, _⟩ := hit; exact Heap.lt_size q
    have hea : a ≠ e := fun q => by
      obtain ⟨o, h1, h2, _⟩ := pl
      rw [q] at h1
      have h3 : some o = some _ := h1.symm.trans he
      have h4 := Option.some.inj h3
      rw [h4] at h2
      exact absurd (Value.type.inj h2) (by decide)
    have hia : a ≠ it := fun q => by
      obtain ⟨o, h1, h2, _⟩ := pl
      obtain ⟨o2, h3, h4, _⟩ := hit
      rw [q, h3] at h1
      have h5 := Option.some.inj h1
      rw [← h5, h4] at h2
      exact absurd (Value.type.inj h2) (by decide)
    have hlt : i < its.toArray.size := by
      have := (List.getElem?_eq_some_iff.mp hu).1
      simpa using this
    refine wpAny_pyNext_enum_itemC (fp := [it, a]) (Draws.list (A := X.A.in1) (show X.A.in1.handled = none from I.ok.hd hc) it a hia its.toArray) he ⟨hit, pl⟩ hlt hne (by simp [hne, Ne.symm hea]) fun x' h' tk hP ho hst' hT hsz hk => ?_
    have ex : x' = u := by
      have h1 : its.toArray[i]? = some x' := hP
      have h2 : its.toArray[i]? = some u := by simpa using hu
      rw [h1] at h2
      exact Option.some.inj h2
    subst ex
    refine ⟨_, rfl, wpAny_letOwnedTupleGo_enum (s := { s with heap := h', toks := tk + 1 }) ho fun h'' he' sb => ?_⟩
    have hT2 : h''.get? s.heap.objs.size = some { cls := .type "tuple", data := .seq #[.int (c + (i : Nat)) tk, x'] } := (sb.2 _ (Nat.ne_of_gt hel)).trans hT
    have new : ObjOk X.prog X.w (upd H s.heap.objs.size (.tup [.int (c + (i : Nat)), x])) h'' s.heap.objs.size (.tup [.int (c + (i : Nat)), x]) :=
      ⟨by show 2 ≤ sizeLine; decide, [.int (c + (i : Nat)) tk, x'], .cons ⟨_, rfl⟩ (.cons ru .nil), ⟨_, hT2, rfl, _, rfl⟩⟩
    have I1 : Inv X pins σ (upd H s.heap.objs.size (.tup [.int (c + (i : Nat)), x])) { s with heap := h'', toks := tk + 1 } :=
      I.turnedNew (ch := [e, it]) (fun b ob hb q => (sb.2 b (fun z => hb (by simp [z]))).trans (hk b ob (fun z => hb (by simp [z])) (fun z => hb (by simp [z])) q)) hf (Nat.le_refl _) new
    refine ⟨.ref s.heap.objs.size, _, I1, rfl, ⟨_, x, rfl, I.hok.fresh (Nat.le_refl _), rfl, fun ys hy => by rw [I.list_inj (show SqL X.K H a ys from hy) hq']; exact hx⟩, ⟨⟨x', ?_⟩, hst'.1.at fun o q => (sb.2 it (Ne.symm hne)).trans q, hne⟩, fun b hb => ?_⟩
    · have e1 : c + ((i + 1 : Nat) : Int) = c + (i : Int) + 1 := by omega
      rw [e1]; exact he'
    · have hb' : b < s.heap.objs.size := by
        have e' : b = e ∨ b = it := by simpa using hb
        rcases e' with z | z
        · rw [z]; exact hel
        · rw [z]; exact hil
      rw [upd_ne (Nat.ne_of_lt hb')]
      exact (hf b hb).1
  done := by
    intro X hP hw hK hc i pins s σ H E I hf st hg
    subst hP hw hK
    obtain ⟨⟨old, he⟩, hit, hne⟩ := st
    obtain ⟨xs, hq, hx⟩ := hg
    obtain ⟨its, rv, p, hz⟩ := I.list (show SqL X.K H a xs from hq)
    have pl : s.heap.IsList a its.toArray := p.isList
    obtain ⟨f0, f1, f2, f3, f4, f5⟩ := hf it (by simp)
    have hl := rv.length
    have hia : a ≠ it := fun q => by
      obtain ⟨o, h1, h2, _⟩ := pl
      obtain ⟨o2, h3, h4, _⟩ := hit
      rw [q, h3] at h1
      have h5 := Option.some.inj h1
      rw [← h5, h4] at h2
      exact absurd (Value.type.inj h2) (by decide)
    have ei : its.toArray.size = i := by simp; omega
    exact wpAny_pyNext_enum_endD (Draws.list (A := X.A.in1) (show X.A.in1.handled = none from I.ok.hd hc) it a hia its.toArray) he (by rw [ei]; exact ⟨hit, pl⟩) fun h' eb => ⟨rfl, I.turned (t' := s.toks) (fun b o hb q => eb b o hb q) f0 f1 f3 f4 f5⟩
  self := fun A i s Q E st h => let ⟨⟨_, he⟩, _⟩ := st; wpAny_pyIter_enum he h

theorem turn_enumT {P : Program} {w : World} {K : PySem.W.Frag} {elts : List Expr} {kk : Nat} {tpos : Pos} (c : Int) (a e it : Addr) :
    Turn P w K (.Tuple elts kk tpos) (IteC K true c a) [e, it] e (fun i h => (∃ old, IsEnum h e it (c + ((i : Nat) : Int)) old) ∧ h.IsTupleIter it a i ∧ e ≠ it) where
  mem := by simp
  obj := fun i h st b hb => by
    obtain ⟨⟨old, he⟩, ⟨o, ho, hc, hd⟩, _⟩ := st
    have e' : b = e ∨ b = it := by simpa using hb
    rcases e' with z | z
    · rw [z]; exact ⟨_, he, fun v q => nomatch q⟩
    · rw [z]; exact ⟨o, ho, fun v q => by rw [hd] at q; cases q⟩
  keep := fun i h h' st k => let ⟨⟨old, he⟩, hi, hne⟩ := st; ⟨⟨old, k e (by simp) _ he⟩, hi.at fun o q => k it (by simp) o q, hne⟩
  item := by
    intro X hP hw hK hc i pins s σ H E I hf st hg
    subst hP hw hK
    obtain ⟨⟨old, he⟩, hit, hne⟩ := st
    obtain ⟨xs, x, hq, hx⟩ := hg
    have hq' : SqT X.K H a xs := hq
    obtain ⟨its, rv, p, hz⟩ := I.tuple hq'
    have pl : s.heap.IsTuple a its.toArray := p
    obtain ⟨u, hu, ru⟩ := rv.get hx
    have hel : e < s.heap.objs.size := Heap.lt_size he
    have hil : it < s.heap.objs.size := by obtain ⟨_, q, _⟩ := hit; exact Heap.lt_size q
    have hea : a ≠ e := fun q => by
      obtain ⟨o, h1, h2, _⟩ := pl
      rw [q] at h1
      have h3 : some o = some _ := h1.symm.trans he
      have h4 := Option.some.inj h3
      rw [h4] at h2
      exact absurd (Value.type.inj h2) (by decide)
    have hia : a ≠ it := fun q => by
      obtain ⟨o, h1, h2, _⟩ := pl
      obtain ⟨o2, h3, h4, _⟩ := hit
      rw [q, h3] at h1
      have h5 := Option.some.inj h1
      rw [← h5, h4] at h2
      exact absurd (Value.type.inj h2) (by decide)
    have hlt : i < its.toArray.size := by
      have := (List.getElem?_eq_some_iff.mp hu).1
      simpa using this
    refine wpAny_pyNext_enum_itemC (fp := [it, a]) (Draws.tuple (A := X.A.in1) (show X.A.in1.handled = none from I.ok.hd hc) it a hia its.toArray) he ⟨hit, pl⟩ hlt hne (by simp [hne, Ne.symm hea]) fun x' h' tk hP ho hst' hT hsz hk => ?_
    have ex : x' = u := by
      have h1 : its.toArray[i]? = some x' := hP
      have h2 : its.toArray[i]? = some u := by simpa using hu
      rw [h1] at h2
      exact Option.some.inj h2
    subst ex
    refine ⟨_, rfl, wpAny_letOwnedTupleGo_enum (s := { s with heap := h', toks := tk + 1 }) ho fun h'' he' sb => ?_⟩
    have hT2 : h''.get? s.heap.objs.size = some { cls := .type "tuple", data := .seq #[.int (c + (i : Nat)) tk, x'] } := (sb.2 _ (Nat.ne_of_gt hel)).trans hT
    have new : ObjOk X.prog X.w (upd H s.heap.objs.size (.tup [.int (c + (i : Nat)), x])) h'' s.heap.objs.size (.tup [.int (c + (i : Nat)), x]) :=
      ⟨by show 2 ≤ sizeLine; decide, [.int (c + (i : Nat)) tk, x'], .cons ⟨_, rfl⟩ (.cons ru .nil), ⟨_, hT2, rfl, _, rfl⟩⟩
    have I1 : Inv X pins σ (upd H s.heap.objs.size (.tup [.int (c + (i : Nat)), x])) { s with heap := h'', toks := tk + 1 } :=
      I.turnedNew (ch := [e, it]) (fun b ob hb q => (sb.2 b (fun z => hb (by simp [z]))).trans (hk b ob (fun z => hb (by simp [z])) (fun z => hb (by simp [z])) q)) hf (Nat.le_refl _) new
    refine ⟨.ref s.heap.objs.size, _, I1, rfl, ⟨_, x, rfl, I.hok.fresh (Nat.le_refl _), rfl, fun ys hy => by rw [I.tuple_inj (show SqT X.K H a ys from hy) hq']; exact hx⟩, ⟨⟨x', ?_⟩, hst'.1.at fun o q => (sb.2 it (Ne.symm hne)).trans q, hne⟩, fun b hb => ?_⟩
    · have e1 : c + ((i + 1 : Nat) : Int) = c + (i : Int) + 1 := by omega
      rw [e1]; exact he'
    · have hb' : b < s.heap.objs.size := by
        have e' : b = e ∨ b = it := by simpa using hb
        rcases e' with z | z
        · rw [z]; exact hel
        · rw [z]; exact hil
      rw [upd_ne (Nat.ne_of_lt hb')]
      exact (hf b hb).1
  done := by
    intro X hP hw hK hc i pins s σ H E I hf st hg
    subst hP hw hK
    obtain ⟨⟨old, he⟩, hit, hne⟩ := st
    obtain ⟨xs, hq, hx⟩ := hg
    obtain ⟨its, rv, p, hz⟩ := I.tuple (show SqT X.K H a xs from hq)
    have pl : s.heap.IsTuple a its.toArray := p
    obtain ⟨f0, f1, f2, f3, f4, f5⟩ := hf it (by simp)
    have hl := rv.length
    have hia : a ≠ it := fun q => by
      obtain ⟨o, h1, h2, _⟩ := pl
      obtain ⟨o2, h3, h4, _⟩ := hit
      rw [q, h3] at h1
      have h5 := Option.some.inj h1
      rw [← h5, h4] at h2
      exact absurd (Value.type.inj h2) (by decide)
    have ei : its.toArray.size = i := by simp; omega
    exact wpAny_pyNext_enum_endD (Draws.tuple (A := X.A.in1) (show X.A.in1.handled = none from I.ok.hd hc) it a hia its.toArray) he (by rw [ei]; exact ⟨hit, pl⟩) fun h' eb => ⟨rfl, I.turned (t' := s.toks) (fun b o hb q => eb b o hb q) f0 f1 f3 f4 f5⟩
  self := fun A i s Q E st h => let ⟨⟨_, he⟩, _⟩ := st; wpAny_pyIter_enum he h
end Pap

set_option maxHeartbeats 4000000
/-! PkF: enumerate as an iterator; methods of tuples; further built-ins. -/
namespace Pap
open PySem PySem.Spec L2

theorem meets_enum1 {v : Value} {o : Obj} {H : Heap → Prop} (B : Begins v o H) :
    Meets (Builtin.«enumerate.__new__» ⟨[.type "enumerate", v], []⟩) (fun _ R s => H s.heap ∧
      R (.ok (.ret (.ref (s.heap.push o).objs.size))) { s with heap := (s.heap.push o).push { cls := .type "enumerate", data := .fields #[.none, .bool false, .ref s.heap.objs.size, rawInt 0, .none, .none] } }) :=
  .of_wp fun prog w A R s h => by
    obtain ⟨hp, g, d, tk, os⟩ := s; obtain ⟨h1, h⟩ := h
    have hsub := sub_enumerate
    have q1 : ∀ {A' : Around} {E : Value → Shared → Prop} {Q : Value → Shared → Prop}, Q (.ref hp.objs.size) ⟨hp.push o, g, d, tk, os⟩ → wpAny (model prog w) A' (pyIter v) Q E ⟨hp, g, d, tk, os⟩ :=
      fun q => B.iter prog w _ _ ⟨hp, g, d, tk, os⟩ _ h1 q
    wp_walk using q1
    refine wpAny_stack_any fun st => wpAny_pure ?_
    split
    · rename_i c _ _ _ _ _
      cases (c == Value.type "enumerate")
      · wp_walk using q1
        exact ⟨_, rfl, h⟩
      · wp_walk using q1
        exact ⟨_, rfl, h⟩
    · wp_walk using q1
      exact ⟨_, rfl, h⟩
section
variable {prog : Program} {w : World} {A : Around} {E : Value → Shared → Prop} {s : Shared}
theorem enum_begins1 {v : Value} {o : Obj} {H : Heap → Prop} {Q : Value → Shared → Prop} (B : Begins v o H) (h1 : H s.heap)
    (h : ∀ h', IsEnum h' (s.heap.objs.size + 1) s.heap.objs.size 0 .none → h'.get? s.heap.objs.size = some o → h'.objs.size = s.heap.objs.size + 2 →
      (∀ b o, s.heap.get? b = some o → h'.get? b = some o) → Q (.ref (s.heap.objs.size + 1)) { s with heap := h' }) :
    wpAny (model prog w) A (call (.type "enumerate") [v]) Q E s := by
  refine callType_new F.called_enumerate (by decide) (F.typeCall_enumerate_1 _) (F.newCall_enumerate_1 _) (fun obj => F.args_object_init_2 obj _) F.entry_enumerate_new
    (meets_enum1 B) ⟨h1, ?_⟩
  have hz : (s.heap.push o).objs.size = s.heap.objs.size + 1 := Heap.size_push ..
  show _ ∧ _
  rw [hz]
  have he : IsEnum ((s.heap.push o).push { cls := .type "enumerate", data := .fields #[.none, .bool false, .ref s.heap.objs.size, rawInt 0, .none, .none] }) (s.heap.objs.size + 1) s.heap.objs.size 0 .none := by
    have := Heap.get?_push_size (s.heap.push o) (o := { cls := .type "enumerate", data := .fields #[.none, .bool false, .ref s.heap.objs.size, rawInt 0, .none, .none] }) rfl
    rw [hz] at this; exact this
  refine ⟨⟨_, he, rfl⟩, h _ he (Heap.get?_push_of_some _ (Heap.get?_push_size _ B.free)) (by rw [Heap.size_push, hz]) fun b o x => Heap.get?_push_of_some _ (Heap.get?_push_of_some _ x)⟩
end
def iEnumA (K : PySem.W.Frag) (ta : TA) : TI := fun σ H R => ta σ H fun vs H1 => ∃ a xs tup, vs = [.ref a] ∧ SqX K tup H1 a xs ∧ R (IteC K tup 0 a) H1
theorem pi_enumA {X : Cx} {e : Expr} {ta : TA} {p pos tpos : Pos} {elts : List Expr} {kk : Nat} (hg : Gl X "enumerate") (hm : X.mg "enumerate" = none) (ha : PA X [e] ta) (hs : starEach [e] X.env = [(false, eval e X.env)] := by rfl) :
    PI X (.Tuple elts kk tpos) (.Call (.Name "enumerate" p) [e] [] pos) (iEnumA X.K ta) := by
  refine ⟨fun pins s σ H R I h => ?_⟩
  refine PyProof.Rows.Call_ (ld_blt I hg hm PyProof.Rows.boot_enumerate (PyProof.Rows.callWith_type1 (thn (ha.run pos pins s σ H _ I h) fun us s1 ⟨vs, H1, I1, r1, q1⟩ => ?_) hs rfl))
  obtain ⟨a, xs, tup, ex, hq, q⟩ := q1
  subst ex
  cases r1 with
  | cons r rr =>
    cases rr
    cases r
    cases tup with
    | false =>
      obtain ⟨its, rv, p', hz⟩ := I1.list (show SqL X.K H1 a xs from hq)
      refine enum_begins1 (begins_list a its.toArray) p'.isList fun h' he hit hsz hk => wpAny_pyIter_enum he ?_
      have I2 : Inv X pins σ H1 { s1 with heap := h' } := I1.kept (t' := s1.toks) hk
      refine ⟨s1.heap.objs.size + 1, [s1.heap.objs.size + 1, s1.heap.objs.size], _, _, H1, rfl, I2, turn_enumL 0 a (s1.heap.objs.size + 1) s1.heap.objs.size, ⟨⟨.none, he⟩, ⟨_, hit, rfl, rfl⟩, Nat.succ_ne_self _⟩, fun b hb => ?_, q⟩
      have e' : b = s1.heap.objs.size + 1 ∨ b = s1.heap.objs.size := by simpa using hb
      have hle : s1.heap.objs.size ≤ b := by
        rcases e' with z | z
        · rw [z]; exact Nat.le_add_right _ _
        · rw [z]; exact Nat.le_refl _
      exact I1.fpOk hle (I1.hok.fresh hle)
    | true =>
      obtain ⟨its, rv, p', hz⟩ := I1.tuple (show SqT X.K H1 a xs from hq)
      refine enum_begins1 (begins_tuple a its.toArray) (show s1.heap.IsTuple a its.toArray from p') fun h' he hit hsz hk => wpAny_pyIter_enum he ?_
      have I2 : Inv X pins σ H1 { s1 with heap := h' } := I1.kept (t' := s1.toks) hk
      refine ⟨s1.heap.objs.size + 1, [s1.heap.objs.size + 1, s1.heap.objs.size], _, _, H1, rfl, I2, turn_enumT 0 a (s1.heap.objs.size + 1) s1.heap.objs.size, ⟨⟨.none, he⟩, ⟨_, hit, rfl, rfl⟩, Nat.succ_ne_self _⟩, fun b hb => ?_, q⟩
      have e' : b = s1.heap.objs.size + 1 ∨ b = s1.heap.objs.size := by simpa using hb
      have hle : s1.heap.objs.size ≤ b := by
        rcases e' with z | z
        · rw [z]; exact Nat.le_add_right _ _
        · rw [z]; exact Nat.le_refl _
      exact I1.fpOk hle (I1.hok.fresh hle)
/-- enumerate(v, start=k) -/
def iEnumS (K : PySem.W.Frag) (ta tk : TA) : TI := fun σ H R => ta σ H fun vs H0 => tk σ H0 fun zs H1 => ∃ a xs tup c, vs = [.ref a] ∧ zs = [.int c] ∧ -(2 ^ 63) ≤ c ∧ c < 2 ^ 63 ∧ SqX K tup H1 a xs ∧ R (IteC K tup c a) H1
section
variable {K : PySem.W.Frag} {σ : St} {B B' : Hp} {M M' : MM} {R : It → Hp → MM → Prop} {ta tk : TA} {a : Addr} {xs : List V} {c : Int}
def SqXW (K : PySem.W.Frag) (tup : Bool) (B : Hp) (M : MM) (a : Addr) (xs : List V) : Prop := ∀ H, Wd B M H → SqX K tup H a xs
theorem SqXW.l (h : LstW K B M a xs) : SqXW K false B M a xs := h
theorem SqXW.t (h : TupW K B M a xs) : SqXW K true B M a xs := h
theorem runs_enumC {tup : Bool} : Runs (IteC K tup c a) xs.length (YPair (fun i y => y = .int (c + (i : Nat))) (fun i v => xs[i]? = some v)) (fun B M => SqXW K tup B M a xs) :=
  ⟨fun i B M H hi W s => ⟨xs, xs[i], s H W, List.getElem?_eq_getElem hi⟩, fun i B M H x H' hi W s ⟨T, v, e1, e2, e3, h⟩ => ⟨B, _, e3 ▸ W.new e2, T, _, v, e1, rfl, h xs (s H W), rfl, rfl⟩, fun B M H W s => ⟨xs, s H W, rfl⟩⟩
theorem iw_enumA (h : AW ta σ B M fun vs B1 M1 => ∃ a xs tup, vs = [.ref a] ∧ SqXW K tup B1 M1 a xs ∧ R (IteC K tup 0 a) B1 M1) : IW (iEnumA K ta) σ B M R := fun R' k H W =>
  h _ (fun x B1 M1 H1 W1 h1 => by obtain ⟨a, xs, tup, rfl, s, q⟩ := h1; exact ⟨a, xs, tup, rfl, s H1 W1, k _ _ _ _ W1 q⟩) H W
theorem iw_enumS (h : AW ta σ B M fun vs B0 M0 => AW tk σ B0 M0 fun zs B1 M1 => ∃ a xs tup c, vs = [.ref a] ∧ zs = [.int c] ∧ -(2 ^ 63) ≤ c ∧ c < 2 ^ 63 ∧ SqXW K tup B1 M1 a xs ∧ R (IteC K tup c a) B1 M1) : IW (iEnumS K ta tk) σ B M R := fun R' k H W =>
  h _ (fun x B0 M0 H0 W0 h0 => h0 _ (fun z B1 M1 H1 W1 h1 => by obtain ⟨a, xs, tup, c, rfl, rfl, c1, c2, s, q⟩ := h1; exact ⟨a, xs, tup, c, rfl, rfl, c1, c2, s H1 W1, k _ _ _ _ W1 q⟩) H0 W0) H W
end
theorem pi_enumS {X : Cx} {e e2 : Expr} {ta tk : TA} {p pos tpos kpos : Pos} {elts : List Expr} {kk : Nat} (hg : Gl X "enumerate") (hm : X.mg "enumerate" = none) (ha : PA X [e] ta) (hk : L2.PK X [⟨some "start", e2, kpos⟩] tk) (hs : starEach [e] X.env = [(false, eval e X.env)] := by rfl) :
    PI X (.Tuple elts kk tpos) (.Call (.Name "enumerate" p) [e] [⟨some "start", e2, kpos⟩] pos) (iEnumS X.K ta tk) := by
  refine ⟨fun pins s σ H R I h => ?_⟩
  refine wpAny_Call_Name_kw (ld_blt I hg hm PyProof.Rows.boot_enumerate ?_)
  refine PySem.W.callWith_of (P := fun _ => True) (by rw [hs]; rfl) (fun h _ => ⟨.machine, .inr (.inl rfl), PySem.W.Looks.of_pure rfl⟩) (PyProof.Rows.evalArgs_kw2 rfl (thn (ha.run pos pins s σ H _ I h) fun us s1 ⟨vs, H0, I0, r1, q1⟩ => ?_) hs)
  refine thn (hk.run pos pins s1 σ H0 _ I0 q1) fun ws s2 ⟨zs, H1, I1, r2, a, xs, tup, c, ex, ez, c1, c2, hq, q⟩ => ⟨True.intro, ?_⟩
  subst ex ez
  cases r1 with
  | cons r rr =>
    cases rr
    cases r
    cases r2 with
    | cons r' rr' =>
      cases rr'
      obtain ⟨t, er⟩ := (show ∃ t, _ = Value.int c t from r')
      subst er
      cases tup with
      | false =>
        obtain ⟨its, rv, p', hz⟩ := I1.list (show SqL X.K H1 a xs from hq)
        refine enum_begins_start (begins_list a its.toArray) p'.isList c1 c2 fun h' he hit hsz hk => wpAny_pyIter_enum he ?_
        have I2 : Inv X pins σ H1 { s2 with heap := h' } := I1.kept (t' := s2.toks) hk
        refine ⟨s2.heap.objs.size + 1, [s2.heap.objs.size + 1, s2.heap.objs.size], _, _, H1, rfl, I2, turn_enumL c a (s2.heap.objs.size + 1) s2.heap.objs.size, ⟨⟨.none, by simpa using he⟩, ⟨_, hit, rfl, rfl⟩, Nat.succ_ne_self _⟩, fun b hb => ?_, q⟩
        have e' : b = s2.heap.objs.size + 1 ∨ b = s2.heap.objs.size := by simpa using hb
        have hle : s2.heap.objs.size ≤ b := by
          rcases e' with z | z
          · rw [z]; exact Nat.le_add_right _ _
          · rw [z]; exact Nat.le_refl _
        exact I1.fpOk hle (I1.hok.fresh hle)
      | true =>
        obtain ⟨its, rv, p', hz⟩ := I1.tuple (show SqT X.K H1 a xs from hq)
        refine enum_begins_start (begins_tuple a its.toArray) (show s2.heap.IsTuple a its.toArray from p') c1 c2 fun h' he hit hsz hk => wpAny_pyIter_enum he ?_
        have I2 : Inv X pins σ H1 { s2 with heap := h' } := I1.kept (t' := s2.toks) hk
        refine ⟨s2.heap.objs.size + 1, [s2.heap.objs.size + 1, s2.heap.objs.size], _, _, H1, rfl, I2, turn_enumT c a (s2.heap.objs.size + 1) s2.heap.objs.size, ⟨⟨.none, by simpa using he⟩, ⟨_, hit, rfl, rfl⟩, Nat.succ_ne_self _⟩, fun b hb => ?_, q⟩
        have e' : b = s2.heap.objs.size + 1 ∨ b = s2.heap.objs.size := by simpa using hb
        have hle : s2.heap.objs.size ≤ b := by
          rcases e' with z | z
          · rw [z]; exact Nat.le_add_right _ _
          · rw [z]; exact Nat.le_refl _
        exact I1.fpOk hle (I1.hok.fresh hle)
end Pap

set_option maxHeartbeats 4000000
/-! PkG: own ==, !=, len, str; str * int; in a tuple of data; repr of data. -/
namespace PySem.Pap
open PySem PySem.Spec PyProof.Rows PySem.W
section
variable {prog : Program} {w : World} {A A₀ : Around} {E : Value → Shared → Prop} {s : Shared} {K : Frag} {x C L f : Addr} {ox : Obj} {od : Option Obj} {b tb : Value}
/-- the class has == of its own at f, != of object's -/
structure EqNe (K : Frag) (C f : Addr) : Prop where
  eq : findIn K (.ref C) "__eq__" = some (some (.ref f))
  fn : isFn K (.ref f) = true
  ne : findIn K (.ref C) "__ne__" = some (some (.builtin "object.__ne__"))
  mo : mroIn K C (.type "object") = some true
theorem ifBound_objNe {M : Model} {args : List Value} {Q : Option Value → Shared → Prop} (X : K.In s.heap) (I : InstAt s.heap x ox C od) (hs : findIn K (.ref C) "__ne__" = some (some (.builtin "object.__ne__")))
    (h : wpAny M A (call (.builtin "object.__ne__") (.ref x :: args)) (fun v => Q (some v)) E s) : wpAny M A (callSpecialIfBound? (.ref x) "__ne__" args) Q E s := by
  simp only [callSpecialIfBound?, bindSpecialIfBound?]
  refine wpAny_holding (wpAny_bind (wpAny_bind (wpAny_bind (I.type.here ((looks_findIn X hs).here ?_)))))
  refine wpAny_bind (wpAny_askSetting (wpAny_ite ?_))
  have fin : wpAny M A (call (.builtin "object.__ne__") ([.ref x] ++ args) >>= fun v => pure (some v)) Q E s := wpAny_bind (wpAny_mono h (fun v s' h' => wpAny_pure h') fun _ _ h' => h')
  split
  · exact wpAny_bind (wpAny_of_eq (F.cmp_object.ne.bind _) (wpAny_pure (by exact fin)))
  · exact wpAny_tryCatch (wpAny_bind (wpAny_of_eq (F.cmp_object.ne.bind _) (wpAny_pure (by exact fin))))
theorem objNe_entry (X : K.In s.heap) (I : InstAt s.heap x ox C od) (k : EqNe K C f) (hu : A.units < cLine) {y : Value} {Q : Fin → Shared → Prop}
    (hcall : wpAny (model prog w) A (call (.ref f) [.ref x, y]) (fun v s' => ∃ b, v = .bool b ∧ Q (.done (.ret (.bool (!b)))) s') E s) :
    wpAny (model prog w) A (Builtin.«object.__ne__» ⟨[.ref x, y], []⟩) Q E s := by
  unfold Builtin.«object.__ne__»
  repeat (first
    | with_reducible refine wpAny_cRoomFor hu ?_
    | (refine wpAny_bind (m := callSpecialIfBound? (.ref x) (Str.ofString "__eq__") [y])
        (ifBound_K X I k.eq k.fn (wpAny_mono hcall (fun r s' hr => by
          obtain ⟨b, rfl, hq⟩ := hr
          repeat (first | exact hq | exact wpAny_pure hq | exact wpAny_truthy_bool hq | (refine wpAny_bind (m := truthy (.bool _)) (wpAny_truthy_bool ?_)) | wp_step)) fun _ _ e => e)))
    | wp_step)
theorem try_ne (X : K.In s.heap) (I : InstAt s.heap x ox C od) (k : EqNe K C f) (hu : A.units + 1 < cLine) {y : Value} {Q : Option Value → Shared → Prop}
    (hcall : wpAny (model prog w) A.in1 (call (.ref f) [.ref x, y]) (fun v s' => ∃ b, v = .bool b ∧ Q (some (.bool (!b))) s') E s) :
    wpAny (model prog w) A (tryCompare (.ref x) "__ne__" y) Q E s := by
  simp only [tryCompare]
  refine wpAny_bind (ifBound_objNe X I k.ne (wpAny_call (codeAny_call_builtin F.cmp_object.ne.plain F.cmpEntry_ne (PySem.W.check_slot F.cmpKind_ne F.cmpSplit_ne (I.type.andThen (PySem.W.looks_mroIn X k.mo)) (F.cmpArgs_ne _ _)
      (objNe_entry (A := A.in1) X I k hu (wpAny_mono hcall (fun v s' hv => ?_) fun _ _ e => e))))))
  obtain ⟨b, rfl, hq⟩ := hv
  first | exact ⟨b, rfl, wpAny_pure hq⟩ | exact ⟨b, rfl, wpAny_pure (wpAny_pure hq)⟩ | exact ⟨b, rfl, hq⟩
theorem try_eq (X : K.In s.heap) (I : InstAt s.heap x ox C od) (k : EqNe K C f) {y : Value} {Q : Option Value → Shared → Prop}
    (hcall : wpAny (model prog w) A (call (.ref f) [.ref x, y]) (fun v s' => ∃ b, v = .bool b ∧ Q (some (.bool b)) s') E s) :
    wpAny (model prog w) A (tryCompare (.ref x) "__eq__" y) Q E s := by
  unfold tryCompare
  refine wpAny_bind (ifBound_K X I k.eq k.fn (wpAny_mono hcall (fun v s' hv => ?_) fun _ _ e => e))
  obtain ⟨b, rfl, hq⟩ := hv
  exact wpAny_pure hq
/-- an instance on the left -/
theorem rc_left {op : CmpOp} {b : Value} {Q : Value → Shared → Prop} (hu : A.units < cLine) (X : K.In s.heap) (I : InstAt s.heap x ox C od) (hb : Looks (model prog w) s.heap (typeOf b) tb) (hn : notFirst K C tb = true)
    (one : wpAny (model prog w) A (tryCompare (.ref x) (cmpInfo op).2.1 b) (fun r s' => ∃ v, r = some v ∧ Q v s') E s) : wpAny (model prog w) A (richCompare op (.ref x) b) Q E s := by
  unfold richCompare
  simp only [oneThing_ref]
  refine wpAny_holding (wpAny_bind (wpAny_cRoomFor hu ?_))
  refine wpAny_bind (I.type.here (wpAny_bind (hb.here ?_)))
  split
  · rename_i q
    have e : subIn K tb (.ref C) = some false := by
      rcases Bool.or_eq_true_iff.mp hn with e | e
      · rw [beq_iff_eq.mp e] at q; simp at q
      · exact beq_iff_eq.mp e
    refine wpAny_bind ((looks_subIn X e).here ?_)
    simp only [Bool.false_eq_true, if_false]
    refine wpAny_bind (wpAny_mono one (fun r s' z => ?_) fun _ _ e => e)
    obtain ⟨v, rfl, hq⟩ := z
    exact wpAny_pure hq
  · refine wpAny_bind (wpAny_pure ?_)
    simp only [Bool.false_eq_true, if_false]
    refine wpAny_bind (wpAny_mono one (fun r s' z => ?_) fun _ _ e => e)
    obtain ⟨v, rfl, hq⟩ := z
    exact wpAny_pure hq
/-- a value of a built-in type on the left that declines -/
theorem rc_right {op : CmpOp} {a : Value} {T id : String} {Q : Value → Shared → Prop} (hu : A.units < cLine) (X : K.In s.heap) (I : InstAt s.heap x ox C od) (hT : s.TypeIs a T) (hone : oneThing? op a (.ref x) = none)
    (slot : Slot T (cmpInfo op).2.1 id) (hm : mroIn K C (.type T) = some false) (hc : wpAny (model prog w) A (call (.builtin id) [a, .ref x]) (fun v s' => v = .notImplemented ∧ s' = s) E s)
    (two : wpAny (model prog w) A (tryCompare (.ref x) (cmpInfo op).2.2 a) (fun r s' => ∃ v, r = some v ∧ Q v s') E s) : wpAny (model prog w) A (richCompare op a (.ref x)) Q E s := by
  unfold richCompare
  simp only [hone]
  refine wpAny_holding (wpAny_bind (wpAny_cRoomFor hu ?_))
  refine wpAny_bind (wpAny_typeOf hT (wpAny_bind (I.type.here ?_)))
  split
  · refine wpAny_bind ((looks_mroIn X hm).here ?_)
    simp only [Bool.false_eq_true, if_false, Bool.not_false, if_true]
    refine wpAny_bind (wpAny_tryCompare_declines hT slot (wpAny_mono hc (fun v s1 z => ⟨z.1, ?_⟩) fun _ _ e => e))
    obtain ⟨_, rfl⟩ := z
    refine wpAny_bind (wpAny_mono two (fun r s' z => ?_) fun _ _ e => e)
    obtain ⟨v, rfl, hq⟩ := z
    exact wpAny_pure hq
  · rename_i q
    exact absurd (by simp) q
end
end PySem.Pap

set_option maxHeartbeats 4000000
namespace PySem.Pap
open PySem PySem.Spec PyProof.Rows PySem.W

section
variable {prog : Program} {w : World} {A : Around} {E : Value → Shared → Prop} {s : Shared} {K : Frag} {x C : Addr} {ox : Obj} {od : Option Obj}
theorem entry_int_eq {dx : Addr} (hx : s.heap.get? x = some (instObj C dx)) (hi : ∀ (A' : Around) (E' : Value → Shared → Prop) (Q' : Bool → Shared → Prop), Q' false s → wpAny (model prog w) A' (isInstance (.ref x) (.type "int")) Q' E' s) {i : Int} {t : Tok} {Q : Fin → Shared → Prop} (hq : Q (.done (.ret .notImplemented)) s) :
    wpAny (model prog w) A (Builtin.«int.__eq__» ⟨[.int i t, .ref x], []⟩) Q E s := by
  obtain ⟨hp, g, d, tk, os⟩ := s
  unfold instObj at hx
  wp_walk using hi, AutoSeq1.wpAny_loadPart' hx
  exact hq
theorem entry_int_ne {dx : Addr} (hx : s.heap.get? x = some (instObj C dx)) (hi : ∀ (A' : Around) (E' : Value → Shared → Prop) (Q' : Bool → Shared → Prop), Q' false s → wpAny (model prog w) A' (isInstance (.ref x) (.type "int")) Q' E' s) {i : Int} {t : Tok} {Q : Fin → Shared → Prop} (hq : Q (.done (.ret .notImplemented)) s) :
    wpAny (model prog w) A (Builtin.«int.__ne__» ⟨[.int i t, .ref x], []⟩) Q E s := by
  obtain ⟨hp, g, d, tk, os⟩ := s
  unfold instObj at hx
  wp_walk using hi, AutoSeq1.wpAny_loadPart' hx
  exact hq
theorem entry_str_eq {dx : Addr} (hx : s.heap.get? x = some (instObj C dx)) (hi : ∀ (A' : Around) (E' : Value → Shared → Prop) (Q' : Bool → Shared → Prop), Q' false s → wpAny (model prog w) A' (isInstance (.ref x) (.type "str")) Q' E' s) {i : Str} {t : Tok} {Q : Fin → Shared → Prop} (hq : Q (.done (.ret .notImplemented)) s) :
    wpAny (model prog w) A (Builtin.«str.__eq__» ⟨[.str i t, .ref x], []⟩) Q E s := by
  obtain ⟨hp, g, d, tk, os⟩ := s
  unfold instObj at hx
  wp_walk using hi, AutoSeq1.wpAny_loadPart' hx
  exact hq
theorem entry_str_ne {dx : Addr} (hx : s.heap.get? x = some (instObj C dx)) (hi : ∀ (A' : Around) (E' : Value → Shared → Prop) (Q' : Bool → Shared → Prop), Q' false s → wpAny (model prog w) A' (isInstance (.ref x) (.type "str")) Q' E' s) {i : Str} {t : Tok} {Q : Fin → Shared → Prop} (hq : Q (.done (.ret .notImplemented)) s) :
    wpAny (model prog w) A (Builtin.«str.__ne__» ⟨[.str i t, .ref x], []⟩) Q E s := by
  obtain ⟨hp, g, d, tk, os⟩ := s
  unfold instObj at hx
  wp_walk using hi, AutoSeq1.wpAny_loadPart' hx
  exact hq
theorem entry_none_eq {Q : Fin → Shared → Prop} (hq : Q (.done (.ret .notImplemented)) s) : wpAny (model prog w) A (Builtin.«NoneType.__eq__» ⟨[.none, .ref x], []⟩) Q E s := by
  obtain ⟨hp, g, d, tk, os⟩ := s
  wp_walk
  exact hq
theorem entry_none_ne {Q : Fin → Shared → Prop} (hq : Q (.done (.ret .notImplemented)) s) : wpAny (model prog w) A (Builtin.«NoneType.__ne__» ⟨[.none, .ref x], []⟩) Q E s := by
  obtain ⟨hp, g, d, tk, os⟩ := s
  wp_walk
  exact hq
theorem entry_tup_eq (hi : ∀ (A' : Around) (E' : Value → Shared → Prop) (Q' : Bool → Shared → Prop), Q' false s → wpAny (model prog w) A' (isInstance (.ref x) (.type "tuple")) Q' E' s) {a : Addr} {items : Array Value} (ht : s.heap.IsTuple a items) {Q : Fin → Shared → Prop} (hq : Q (.done (.ret .notImplemented)) s) :
    wpAny (model prog w) A (Builtin.«tuple.__eq__» ⟨[.ref a, .ref x], []⟩) Q E s := by
  obtain ⟨⟨cls, dd, data, sl⟩, ho, hc, n, hd⟩ := id ht
  simp only at hc hd
  subst hc hd
  obtain ⟨hp, g, d, tk, os⟩ := s
  wp_walk using hi, AutoSeq1.wpAny_loadPart' ho
  exact hq
theorem entry_tup_ne (hi : ∀ (A' : Around) (E' : Value → Shared → Prop) (Q' : Bool → Shared → Prop), Q' false s → wpAny (model prog w) A' (isInstance (.ref x) (.type "tuple")) Q' E' s) {a : Addr} {items : Array Value} (ht : s.heap.IsTuple a items) {Q : Fin → Shared → Prop} (hq : Q (.done (.ret .notImplemented)) s) :
    wpAny (model prog w) A (Builtin.«tuple.__ne__» ⟨[.ref a, .ref x], []⟩) Q E s := by
  obtain ⟨⟨cls, dd, data, sl⟩, ho, hc, n, hd⟩ := id ht
  simp only at hc hd
  subst hc hd
  obtain ⟨hp, g, d, tk, os⟩ := s
  wp_walk using hi, AutoSeq1.wpAny_loadPart' ho
  exact hq
end
end PySem.Pap

set_option maxHeartbeats 4000000
namespace PySem.Pap
open PySem PySem.Spec PyProof.Rows PySem.W
open Builtin Builtin.Str
section
variable {prog : Program} {w : World} {A : Around} {E : Value → Shared → Prop} {s : Shared} {K : Frag} {x C f : Addr} {ox : Obj} {od : Option Obj}
theorem len_own {Q : Value → Shared → Prop} (X : K.In s.heap) (I : InstAt s.heap x ox C od) (hs : findIn K (.ref C) "__len__" = some (some (.ref f))) (hf : isFn K (.ref f) = true)
    (h : wpAny (model prog w) A.in1 (call (.ref f) [.ref x]) (fun r s₁ => ∃ n u, r = Value.int n u ∧ 0 ≤ n ∧ n < 2 ^ 63 ∧ ∀ tk u', Q (.int n u') { s₁ with toks := tk }) E s) : wpAny (model prog w) A (call (.builtin "len") [.ref x]) Q E s := by
  refine Calls.call_function_entry kind_len plain_len entry_len (args_len1 _) ?_
  unfold Builtin.«len»
  refine wpAny_bind (m := oneArg "len" _) (wpAny_pure ?_)
  refine wpAny_bind (m := callSpecial? (.ref x) (Str.ofString "__len__")) (special_fn X I hs (beq_iff_eq.mp hf) (wpAny_mono h (fun r s' hr => ?_) fun _ _ y => y))
  obtain ⟨n, u, rfl, h0, h1, hq⟩ := hr
  refine wpAny_bind (wpAny_holding (wpAny_pure ?_))
  refine wpAny_bind (wpAny_letGo ?_)
  show wpAny _ _ (if n < 0 then _ else _) _ _ _
  rw [if_neg (by omega)]
  show wpAny _ _ (if n ≥ 2 ^ 63 then _ else _) _ _ _
  rw [if_neg (by omega)]
  exact wpAny_bind (wpAny_mkInt (wpAny_pure ⟨_, rfl, hq _ _⟩))
theorem strOf_own {Q : Value → Shared → Prop} (hu : A.units < cLine) (X : K.In s.heap) (I : InstAt s.heap x ox C od) (hs : findIn K (.ref C) "__str__" = some (some (.ref f))) (hf : isFn K (.ref f) = true)
    (h : wpAny (model prog w) A (call (.ref f) [.ref x]) (fun r s₁ => ∃ n u, r = Value.str n u ∧ Q r s₁) E s) : wpAny (model prog w) A (Builtin.Str.strOf (.ref x)) Q E s := by
  unfold Builtin.Str.strOf
  rw [show isExactStr (.ref x) = false from rfl]
  simp only [Bool.false_eq_true, if_false]
  refine wpAny_bind (wpAny_cRoomFor hu ?_)
  refine wpAny_bind (m := callSpecial? (.ref x) (Str.ofString "__str__")) (special_fn X I hs (beq_iff_eq.mp hf) (wpAny_mono h (fun r s' hr => ?_) fun _ _ y => y))
  obtain ⟨n, u, rfl, hq⟩ := hr
  exact wpAny_pure hq
theorem str_own {Q : Value → Shared → Prop} (hu : A.units + 3 < cLine) (X : K.In s.heap) (I : InstAt s.heap x ox C od) (hs : findIn K (.ref C) "__str__" = some (some (.ref f))) (hf : isFn K (.ref f) = true)
    (h : wpAny (model prog w) A.in1.in1 (call (.ref f) [.ref x]) (fun r s₁ => ∃ n u, r = Value.str n u ∧ Q r s₁) E s) : wpAny (model prog w) A (call (.type "str") [.ref x]) Q E s := by
  refine callType_newIn (S := fun A' R s' => s' = s ∧ A'.units + 1 < cLine ∧ wpAny (model prog w) A'.in1 (call (.ref f) [.ref x]) (fun r s₁ => ∃ n u, r = Value.str n u ∧ R (.ok (.ret r)) s₁) (fun e s₁ => R (.error e) s₁) s') F.called_str (by decide) (F.typeCall_str_1 _) (F.newCall_str_1 _) (fun obj => F.args_object_init_2 obj _) F.entry_str_new ?_ ?_
  · refine MeetsIn.of_wp fun A' R s' hS => ?_
    obtain ⟨rfl, hu', hS⟩ := hS
    rw [str_new_tree]
    refine wpAny_bind (wpAny_pure ?_)
    refine wpAny_bind (wpAny_of_eq isSubtype_str_str ?_)
    refine wpAny_bind (strOf_own (A := A'.in1) hu' X I hs hf (wpAny_mono hS (fun r s1 z => ?_) fun _ _ e => e))
    obtain ⟨n, u, rfl, z⟩ := z
    exact ⟨n, u, rfl, wpAny_pure ⟨_, rfl, z⟩⟩
  · refine ⟨rfl, by show A.units + 1 + 1 < cLine; omega, wpAny_mono h (fun r s1 z => ?_) fun _ _ e => e⟩
    obtain ⟨n, u, rfl, z⟩ := z
    exact ⟨n, u, rfl, typeIs_str _ _ _, z⟩
end
end PySem.Pap

set_option maxHeartbeats 4000000
/-! PkH: own ==, !=, len, str as rules. -/
namespace Pap
open PySem PySem.Spec L2 PyProof.Rows
open PySem.Pap (EqNe)
theorem Fnk.fnR {P : Program} {w : World} {K : PySem.W.Frag} {mg : Str → Option Value} {base : Heap} {d : He.DefD} {ps : List Str} {k : Nat} {sp : Sp} (G : Fnk P w K mg base d ps k sp) (b : BindP K d ps []) : FnR P w K mg base CX0 k (He.fAd K d.at_) sp := by
  obtain ⟨fd, F, G⟩ := G.ex
  obtain ⟨ds, hd, hb⟩ := b fd F
  exact (G.raw hb hd).imp fun vs H Q E h => by rw [List.append_nil]; exact h
section
variable {X : Cx} {pins : List (Addr × Obj)} {σ : L2.St} {H : Hp} {s : Shared}
/-- a value of a built-in type whose == declines an instance of the class at C -/
inductive Decl (K : PySem.W.Frag) (C : Addr) (H : Hp) : V → Prop where
  | non (h : PySem.W.mroIn K C (.type "NoneType") = some false) : Decl K C H .non
  | int {i : Int} (h : PySem.W.mroIn K C (.type "int") = some false) : Decl K C H (.int i)
  | str {z : Str} (h : PySem.W.mroIn K C (.type "str") = some false) : Decl K C H (.str z)
  | tup {a : Addr} {xs : List V} (h : PySem.W.mroIn K C (.type "tuple") = some false) (e : H a = some (.tup xs)) : Decl K C H (.ref a)
def cmpB (neg : Bool) : CmpOp := if neg then .NotEq else .Eq
theorem decl_ok {neg : Bool} {C dx y : Addr} {fs : List (Str × V)} {x : V} {u : Value} (I : Inv X pins σ H s) (hy : H y = some (.ins C dx fs)) (hm : PySem.W.mroIn X.K C (.type "object") = some true) (rx : RelV x u) (d : Decl X.K C H x) :
    ∃ T id, s.TypeIs u T ∧ Slot T (cmpInfo (cmpB neg)).2.1 id ∧ PySem.W.mroIn X.K C (.type T) = some false ∧ oneThing? (cmpB neg) u (.ref y) = none ∧
      ∀ (A : Around) (E : Value → Shared → Prop), wpAny (model X.prog X.w) A (call (.builtin id) [u, .ref y]) (fun v s' => v = .notImplemented ∧ s' = s) E s := by
  obtain ⟨mA, O, _⟩ := ins_get I.hok hy
  obtain ⟨od, J, _⟩ := O.look
  have hx : s.heap.get? y = some (PySem.W.instObj C dx) := O.obj
  have li : ∀ {T : String}, PySem.W.mroIn X.K C (.type T) = some false → ∀ (A' : Around) (E' : Value → Shared → Prop) (Q' : Bool → Shared → Prop), Q' false s → wpAny (model X.prog X.w) A' (isInstance (.ref y) (.type T)) Q' E' s :=
    fun h A' E' Q' q => by
      have l : PySem.W.Looks (model X.prog X.w) s.heap (isInstance (.ref y) (.type _)) false := J.type.andThen (PySem.W.looks_mroIn I.kIn h)
      exact l.here q
  cases d with
  | non h =>
    cases (show u = Value.none from rx)
    cases neg with
    | false => exact ⟨"NoneType", _, rfl, F.slot_NoneType_eq, h, rfl, fun A E => wpAny_call_entry F.slot_NoneType_eq rfl F.entry_NoneType_eq (PySem.Pap.entry_none_eq ⟨_, rfl, rfl, rfl⟩) (F.args_NoneType_eq_2 _ _)⟩
    | true => exact ⟨"NoneType", _, rfl, F.slot_NoneType_ne, h, rfl, fun A E => wpAny_call_entry F.slot_NoneType_ne rfl F.entry_NoneType_ne (PySem.Pap.entry_none_ne ⟨_, rfl, rfl, rfl⟩) (F.args_NoneType_ne_2 _ _)⟩
  | int h =>
    obtain ⟨t, q⟩ := (show ∃ t, u = Value.int _ t from rx)
    cases q
    cases neg with
    | false => exact ⟨"int", _, rfl, F.slot_int_eq, h, rfl, fun A E => wpAny_call_entry F.slot_int_eq rfl F.entry_int_eq (PySem.Pap.entry_int_eq hx (li h) ⟨_, rfl, rfl, rfl⟩) (F.args_int_eq_2 _ _)⟩
    | true => exact ⟨"int", _, rfl, F.slot_int_ne, h, rfl, fun A E => wpAny_call_entry F.slot_int_ne rfl F.entry_int_ne (PySem.Pap.entry_int_ne hx (li h) ⟨_, rfl, rfl, rfl⟩) (F.args_int_ne_2 _ _)⟩
  | str h =>
    obtain ⟨t, q⟩ := (show ∃ t, u = Value.str _ t from rx)
    cases q
    cases neg with
    | false => exact ⟨"str", _, rfl, F.slot_str_eq, h, rfl, fun A E => wpAny_call_entry F.slot_str_eq rfl F.entry_str_eq (PySem.Pap.entry_str_eq hx (li h) ⟨_, rfl, rfl, rfl⟩) (F.args_str_eq_2 _ _)⟩
    | true => exact ⟨"str", _, rfl, F.slot_str_ne, h, rfl, fun A E => wpAny_call_entry F.slot_str_ne rfl F.entry_str_ne (PySem.Pap.entry_str_ne hx (li h) ⟨_, rfl, rfl, rfl⟩) (F.args_str_ne_2 _ _)⟩
  | @tup a xs h e =>
    cases (show u = Value.ref a from rx)
    obtain ⟨_, its, _, ht⟩ := (show ObjOk X.prog X.w H s.heap a (.tup xs) from I.hok a _ e)
    have hT : s.TypeIs (.ref a) "tuple" := by obtain ⟨o, h1, h2, _⟩ := ht; exact ⟨o, h1, h2⟩
    cases neg with
    | false => exact ⟨"tuple", _, hT, F.slot_tuple_eq, h, rfl, fun A E => wpAny_call_entry F.slot_tuple_eq hT F.entry_tuple_eq (PySem.Pap.entry_tup_eq (li h) ht ⟨_, rfl, rfl, rfl⟩) (F.args_tuple_eq_2 _ _)⟩
    | true => exact ⟨"tuple", _, hT, F.slot_tuple_ne, h, rfl, fun A E => wpAny_call_entry F.slot_tuple_ne hT F.entry_tuple_ne (PySem.Pap.entry_tup_ne (li h) ht ⟨_, rfl, rfl, rfl⟩) (F.args_tuple_ne_2 _ _)⟩
end
/-- ==, != where an instance of the class at C stands -/
def rOwn (K : PySem.W.Frag) (C : Addr) (sp : Sp) (neg : Bool) : R2 := fun x y H Q =>
  (∃ a dx fs t, x = .ref a ∧ H a = some (.ins C dx fs) ∧ TyX K H y t ∧ PySem.W.notFirst K C t = true ∧ sp [x, y] H (fun v H' => ∃ b, v = .bl b ∧ Q (.bl (if neg then !b else b)) H') E0) ∨
  (∃ a dx fs, y = .ref a ∧ H a = some (.ins C dx fs) ∧ Decl K C H x ∧ sp [y, x] H (fun v H' => ∃ b, v = .bl b ∧ Q (.bl (if neg then !b else b)) H') E0)
theorem run_b {X : Cx} {pins : List (Addr × Obj)} {σ : L2.St} {H : Hp} {s : Shared} {A : Around} {n : Nat} {g : Addr} {sp : Sp} {us : List Value} {ws : List V} {P : Bool → Hp → Prop} (F : FnR X.prog X.w X.K X.mg X.base CX0 n g sp) (hr : Room n A) (e0 : L2.Env0 X.prog X.w X.K X.mg X.base A X.stack s H) (I : Inv X pins σ H s) (r : Vals ws us)
    (h : sp ws H (fun v H' => ∃ b, v = .bl b ∧ P b H') E0) : wpAny (model X.prog X.w) A (call (.ref g) us) (fun v s' => ∃ b H', v = .bool b ∧ Inv X pins σ H' s' ∧ P b H') X.xe s := by
  refine wpAny_mono (wpAny_call (SlX.run_at F hr e0 pass0 I r h)) (fun v s' z => ?_) fun _ _ x => x
  obtain ⟨z', H', I', rz, b, eb, p⟩ := z
  subst eb
  cases (show v = Value.bool b from rz)
  exact ⟨b, H', rfl, I', p⟩
theorem op_own {X : Cx} {C g : Addr} {n j : Nat} {sp : Sp} {neg : Bool} (k : EqNe X.K C g) (F : FnR X.prog X.w X.K X.mg X.base CX0 n g sp) (hr : Room j X.A) (hn : n + 1 ≤ j) : OpR X (compareOp (cmpB neg)) (rOwn X.K C sp neg) := by
  intro pins s σ H x y v u Q I rx ry h
  have hc : compareOp (cmpB neg) v u = richCompare (cmpB neg) v u := by cases neg <;> rfl
  rw [hc]
  have hr1 : Room (n + 1) X.A := hr.mono hn
  have hu1 : X.A.units + 1 < cLine := hr1.in1.units0
  rcases h with ⟨a, dx, fs, t, rfl, ha, ty, nf, q⟩ | ⟨a, dx, fs, rfl, ha, d, q⟩
  · cases (show v = Value.ref a from rx)
    obtain ⟨mA, O, _⟩ := ins_get I.hok ha
    obtain ⟨od, J, _⟩ := O.look
    obtain ⟨P, Z, p, _⟩ := kit_of I ry ty
    refine PySem.Pap.rc_left hr1.units0 I.kIn J (Z.ty _ _ I.kIn p) nf ?_
    cases neg with
    | false =>
      refine PySem.Pap.try_eq I.kIn J k (wpAny_mono (run_b (us := [.ref a, u]) (ws := [.ref a, y]) F (hr1.mono (Nat.le_succ _)) I.env0 I (.cons rfl (.cons ry .nil)) q) (fun w s' z => ?_) fun _ _ x => x)
      obtain ⟨b, H', rfl, I', q'⟩ := z
      exact ⟨b, rfl, _, rfl, .bl b, H', I', rfl, q'⟩
    | true =>
      refine PySem.Pap.try_ne I.kIn J k hu1 (wpAny_mono (run_b (us := [.ref a, u]) (ws := [.ref a, y]) F hr1.in1 I.env0.in1 I (.cons rfl (.cons ry .nil)) q) (fun w s' z => ?_) fun _ _ x => x)
      obtain ⟨b, H', rfl, I', q'⟩ := z
      exact ⟨b, rfl, _, rfl, .bl (!b), H', I', rfl, q'⟩
  · cases (show u = Value.ref a from ry)
    obtain ⟨mA, O, _⟩ := ins_get I.hok ha
    obtain ⟨od, J, _⟩ := O.look
    obtain ⟨T, id, hT, slot, hm, ho, hd⟩ := decl_ok (neg := neg) I ha k.mo rx d
    refine PySem.Pap.rc_right hr1.units0 I.kIn J hT ho slot hm (hd _ _) ?_
    cases neg with
    | false =>
      refine PySem.Pap.try_eq I.kIn J k (wpAny_mono (run_b (us := [.ref a, v]) (ws := [.ref a, x]) F (hr1.mono (Nat.le_succ _)) I.env0 I (.cons rfl (.cons rx .nil)) q) (fun w s' z => ?_) fun _ _ x => x)
      obtain ⟨b, H', rfl, I', q'⟩ := z
      exact ⟨b, rfl, _, rfl, .bl b, H', I', rfl, q'⟩
    | true =>
      refine PySem.Pap.try_ne I.kIn J k hu1 (wpAny_mono (run_b (us := [.ref a, v]) (ws := [.ref a, x]) F hr1.in1 I.env0.in1 I (.cons rfl (.cons rx .nil)) q) (fun w s' z => ?_) fun _ _ x => x)
      obtain ⟨b, H', rfl, I', q'⟩ := z
      exact ⟨b, rfl, _, rfl, .bl (!b), H', I', rfl, q'⟩
/-- len(x), str(x) of an instance -/
structure OwnM (K : PySem.W.Frag) (C : Addr) (m : Str) (g : Addr) : Prop where
  at_ : PySem.W.findIn K (.ref C) m = some (some (.ref g))
  fn : PySem.W.isFn K (.ref g) = true
def rLenO (C : Addr) (sp : Sp) : List V → Hp → VK → Prop := fun xs H Q => ∃ a dx fs, xs = [V.ref a] ∧ H a = some (.ins C dx fs) ∧ sp [.ref a] H (fun v H' => ∃ n, v = .int n ∧ 0 ≤ n ∧ n < 2 ^ 63 ∧ Q v H') E0
theorem call_lenO {X : Cx} {C g : Addr} {n j : Nat} {sp : Sp} (k : OwnM X.K C "__len__" g) (F : FnR X.prog X.w X.K X.mg X.base CX0 n g sp) (hr : Room j X.A) (hn : n + 1 ≤ j) : CallR X (.builtin "len") (rLenO C sp) := by
  intro pins s σ H xs us Q I r h
  obtain ⟨a, dx, fs, rfl, ha, q⟩ := h
  obtain ⟨u, rfl, ru⟩ := r.one
  cases (show u = Value.ref a from ru)
  obtain ⟨mA, O, _⟩ := ins_get I.hok ha
  obtain ⟨od, J, _⟩ := O.look
  refine PySem.Pap.len_own I.kIn J k.at_ k.fn (wpAny_mono (wpAny_call (SlX.run_at (us := [.ref a]) (ws := [.ref a]) F (hr.mono hn).in1 I.env0.in1 pass0 I (.cons rfl .nil) q)) (fun w s' z => ?_) fun _ _ x => x)
  obtain ⟨z', H', I', rz, n, ei, h0, h1, qz⟩ := z
  subst ei
  obtain ⟨t, e⟩ := (show ∃ t, w = Value.int n t from rz)
  cases e
  exact ⟨n, t, rfl, h0, h1, fun tk u' => ⟨.int n, H', I'.tok tk, ⟨u', rfl⟩, qz⟩⟩
def rStrO (C : Addr) (sp : Sp) : List V → Hp → VK → Prop := fun xs H Q => ∃ a dx fs, xs = [V.ref a] ∧ H a = some (.ins C dx fs) ∧ sp [.ref a] H (fun v H' => ∃ z, v = .str z ∧ Q v H') E0
theorem call_strO {X : Cx} {C g : Addr} {n j : Nat} {sp : Sp} (k : OwnM X.K C "__str__" g) (F : FnR X.prog X.w X.K X.mg X.base CX0 n g sp) (hr : Room j X.A) (hn : n + 3 ≤ j) : CallR X (.type "str") (rStrO C sp) := by
  intro pins s σ H xs us Q I r h
  obtain ⟨a, dx, fs, rfl, ha, q⟩ := h
  obtain ⟨u, rfl, ru⟩ := r.one
  cases (show u = Value.ref a from ru)
  obtain ⟨mA, O, _⟩ := ins_get I.hok ha
  obtain ⟨od, J, _⟩ := O.look
  have hr3 : Room (n + 3) X.A := hr.mono hn
  refine PySem.Pap.str_own (show X.A.units + 3 < cLine from (hr3.in1.in1.in1).units0) I.kIn J k.at_ k.fn (wpAny_mono (wpAny_call (SlX.run_at (us := [.ref a]) (ws := [.ref a]) F ((hr3.mono (Nat.le_succ _)).in1.in1) I.env0.in1.in1 pass0 I (.cons rfl .nil) q)) (fun w s' z => ?_) fun _ _ x => x)
  obtain ⟨z', H', I', rz, n, ei, qz⟩ := z
  subst ei
  obtain ⟨t, e⟩ := (show ∃ t, w = Value.str n t from rz)
  cases e
  exact ⟨n, t, rfl, .str n, H', I', ⟨t, rfl⟩, qz⟩
end Pap

set_option maxHeartbeats 4000000
/-! PkI: tuples whose object is known to have no dict (frz), their methods; reversed tuples; str * int; in a tuple of data; repr. -/
namespace HT
open PySem PySem.Spec PyProof.Rows L2
section
variable {prog : Program} {w : World} {A : Around} {E : Value → Shared → Prop} {s : Shared}
theorem sliceApplied_rev {sl : Addr} {vl vu vs : Value} {n : Nat} {Q : Int × Int × Nat → Shared → Prop} (hs : s.heap.IsSliceOf sl vl vu vs) (pl : IsPart vl none) (pu : IsPart vu none) (ps : IsPart vs (some (-1)))
    (h : Q ((n : Int) - 1, -1, n) s) : wpAny (model prog w) A (Builtin.Slice.sliceApplied (.ref sl) (pure (n : Int))) Q E s := by
  obtain ⟨os, hos, hcs, hds⟩ := id hs
  unfold Builtin.Slice.sliceApplied Builtin.Slice.sliceFields
  refine wpAny_bind (wpAny_bind (wpAny_field hos hds (x := vl) rfl (wpAny_bind (wpAny_field hos hds (x := vu) rfl (wpAny_bind (wpAny_field hos hds (x := vs) rfl (wpAny_pure ?_)))))))
  refine wpAny_bind (slicePart_ ps ?_)
  show wpAny _ _ (if ((-1 : Int) == 0) = true then _ else _) _ _ s
  rw [if_neg (by decide)]
  refine wpAny_bind (slicePart_ pl (wpAny_bind (slicePart_ pu (wpAny_bind (wpAny_pure ?_)))))
  show wpAny _ _ (pure ((n : Int) - 1, (-1 : Int), Builtin.Slice.slicePlaces ((n : Int) - 1) (-1) (-1))) _ _ s
  have e : Builtin.Slice.slicePlaces ((n : Int) - 1) (-1) (-1) = n := by
    unfold Builtin.Slice.slicePlaces
    rw [if_neg (by decide)]
    by_cases hn : (n : Int) - 1 > -1
    · rw [if_pos hn]
      show (((n : Int) - 1 - -1 - 1) / 1 + 1).toNat = n
      rw [Int.ediv_one]
      omega
    · rw [if_neg hn]
      show (0 : Int).toNat = n
      omega
  rw [e]
  exact wpAny_pure h
theorem filterMap_some {α β : Type} (f : α → Option β) (g : α → β) : ∀ l : List α, (∀ m ∈ l, f m = some (g m)) → l.filterMap f = l.map g
  | [], _ => rfl
  | a :: l, h => by rw [List.filterMap_cons, h a (List.mem_cons_self ..), List.map_cons, filterMap_some f g l fun m hm => h m (List.mem_cons_of_mem _ hm)]
theorem pick_rev (xs : Array Value) : ((List.range xs.size).filterMap fun (m : Nat) => xs[(((xs.size : Nat) : Int) - 1 + (m : Int) * -1).toNat]?).toArray = xs.toList.reverse.toArray := by
  congr 1
  apply List.ext_getElem?
  intro i
  have e : ∀ m ∈ List.range xs.size, xs[(((xs.size : Nat) : Int) - 1 + (m : Int) * -1).toNat]? = some (xs.toList.getD (xs.size - 1 - m) .none) := by
    intro m hm
    rw [List.mem_range] at hm
    have e1 : (((xs.size : Nat) : Int) - 1 + (m : Int) * -1).toNat = xs.size - 1 - m := by omega
    rw [e1]
    have hlt : xs.size - 1 - m < xs.size := by omega
    simp [hlt]
  rw [filterMap_some _ (fun m => xs.toList.getD (xs.size - 1 - m) .none) _ e]
  by_cases hi : i < xs.size
  · rw [List.getElem?_map, List.getElem?_range hi, List.getElem?_reverse (by simpa using hi)]
    have hlt : xs.size - 1 - i < xs.size := by omega
    simp [hlt]
  · rw [List.getElem?_eq_none (by simpa using hi), List.getElem?_eq_none (by simpa using hi)]
theorem getItem_tuple_rev {t sl : Addr} {items : Array Value} {vl vu vs : Value} {Q : Value → Shared → Prop} (ht : IsTup s.heap t items) (hs : s.heap.IsSliceOf sl vl vu vs) (pl : IsPart vl none) (pu : IsPart vu none) (ps : IsPart vs (some (-1)))
    (h : Q (.ref s.heap.objs.size) { s with heap := s.heap.push { cls := .type "tuple", data := .seq items.toList.reverse.toArray } })
    (hsz : items.size ≤ sizeLine) : wpAny (model prog w) A (getItem (.ref t) (.ref sl)) Q E s := by
  have htake : sizeOk (.seq items.toList.reverse.toArray) := by
    show items.toList.reverse.toArray.size ≤ sizeLine
    rw [List.size_toArray, List.length_reverse, Array.length_toList]
    exact hsz
  obtain ⟨os, hos, hcs, hds⟩ := id hs
  have hTs : s.TypeIs (.ref sl) "slice" := ⟨os, hos, hcs⟩
  unfold getItem
  try with_reducible refine wpAny_holding ?_
  first | refine wpAny_bind (wpAny_pure ?_) | skip
  refine wpAny_bind (wpAny_sequenceKey ht.typeIs (by decide) ?_)
  refine wpAny_bind (wpAny_callSpecial?_slot (name := Str.ofString "__getitem__") ht.typeIs PyProof.Rows.slot_tuple_getitem
    (wpAny_call_entry PyProof.Rows.slot_tuple_getitem ht.typeIs entry_tuple_getitem ?_ (args_tuple_getitem _ _)))
  show wpAny _ _ (Builtin.Tuple.tupleItemsOf (.ref t) >>= _) _ _ s
  refine wpAny_bind (tupleItemsOf_ ht ?_)
  refine wpAny_bind (wpAny_typeOf hTs ?_)
  rw [if_pos (by decide)]
  refine wpAny_bind (sliceApplied_rev hs pl pu ps ?_)
  have hno : ¬ ((((items.size : Int) - 1) == 0 && (-1 : Int) == 1 && items.size == items.size) = true) := by
    intro q
    rw [Bool.and_eq_true, Bool.and_eq_true] at q
    have q1 := q.1.2
    exact absurd q1 (by decide)
  show wpAny _ _ (if (((items.size : Int) - 1) == 0 && (-1 : Int) == 1 && items.size == items.size) = true then _ else _) _ _ s
  rw [if_neg hno, pick_rev]
  first
    | exact wpAny_bind (m := Builtin.Tuple.tupleExact _) (wpAny_newObj_type (wpAny_pure ⟨_, rfl, wpAny_pure h⟩) htake)
    | exact wpAny_bind (m := Builtin.Tuple.tupleExact _) (wpAny_newObj_type (wpAny_bind (wpAny_pure (wpAny_pure ⟨_, rfl, wpAny_pure h⟩))) htake)
    | exact wpAny_bind (wpAny_bind (m := Builtin.Tuple.tupleExact _) (wpAny_newObj_type (wpAny_pure (wpAny_pure ⟨_, rfl, wpAny_pure h⟩)) htake))
    | exact wpAny_bind (wpAny_bind (m := Builtin.Tuple.tupleExact _) (wpAny_newObj_type (wpAny_pure ⟨_, rfl, wpAny_pure h⟩) htake))
end
end HT
namespace Pap
open PySem PySem.Spec L2 PyProof.Rows
/-- a tuple whose object has no dict -/
def TD (u : HO) (xs : List V) : Prop := ∃ o, o.dict = none ∧ u = .frz o (.tup xs)
abbrev KT (xs : List V) (H : Hp) (Q : VK) : Prop := ∀ p u, H p = none → TD u xs → Q (.ref p) (upd H p u)
section
variable {X : Cx} {pins : List (Addr × Obj)} {σ : L2.St} {H : Hp} {s : Shared}
theorem laidF {xs : List V} {its : List Value} {Q : VK} {t' : Nat} (I : Inv X pins σ H s) (r : Vals xs its) (z : xs.length ≤ sizeLine) (q : KT xs H Q) :
    EP X pins σ Q (.ref s.heap.objs.size) { s with heap := s.heap.push { cls := .type "tuple", data := .seq its.toArray }, toks := t' } := by
  have e : (s.heap.push { cls := .type "tuple", data := .seq its.toArray }).get? s.heap.objs.size = some { cls := .type "tuple", data := .seq its.toArray } := Heap.get?_push_size _ rfl
  refine ⟨.ref s.heap.objs.size, _, I.laid (t' := t') (o := .frz { cls := .type "tuple", data := .seq its.toArray } (.tup xs)) (fun b ob q => Heap.get?_push_of_some _ q) (Nat.le_refl _) ?_, rfl, q _ _ (I.hok.fresh (Nat.le_refl _)) ⟨_, rfl, rfl⟩⟩
  exact ⟨e, z, its, r, _, e, rfl, _, rfl⟩
/-- a display of a tuple -/
def tTupF (ta : TA) : TE := fun σ H Q => ta σ H fun xs H1 => xs.length ≤ sizeLine ∧ KT xs H1 Q
theorem pe_tupF {es : List Expr} {ta : TA} {x1 pos} (h : PA X es ta) : PE X (.Tuple es x1 pos) (tTupF ta) := by
  refine ⟨fun pins s σ H Q I hq => ?_⟩
  refine wpAny_Tuple_spliced (thn (h.run pos pins s σ H _ I hq) fun us s1 ⟨xs, H1, I1, r, z, q⟩ => ⟨by rw [← r.length]; exact z, ?_⟩)
  exact laidF (t' := s1.toks) I1 r z q
/-- tuple(list) -/
def kTupF (K : PySem.W.Frag) (x : V) (H : Hp) (Q : VK) : Prop := ∃ p xs, x = .ref p ∧ SqL K H p xs ∧ KT xs H Q
theorem pe_tupleOfF {a : Expr} {ta : TE} {p pos : Pos} (hg : Gl X "tuple") (hm : X.mg "tuple" = none) (ha : PE X a ta) (na : starEach [a] X.env = (false, eval a X.env) :: starEach [] X.env := by rfl) :
    PE X (.Call (.Name "tuple" p) [a] [] pos) (tThen ta (kTupF X.K)) := by
  refine ⟨fun pins s σ H Q I h => ?_⟩
  refine Call_ (ld_blt I hg hm boot_tuple (PyProof.Rows.callWith_type1 (one_arg ha I h (fun v s2 x H2 I2 r q => ?_) na) na))
  obtain ⟨p, xs, rfl, hs, q⟩ := q
  obtain rfl : v = .ref p := r
  obtain ⟨its, rv, pl, hz⟩ := I2.list hs
  refine call_tuple_list pl.isList (fun h' hk => ?_) (by rw [List.size_toArray, ← rv.length]; exact hz)
  exact laidF (t' := s2.toks) (I2.kept (t' := s2.toks) hk) rv hz q
/-- t + u, t not empty -/
def rCatF (K : PySem.W.Frag) : R2 := fun x y H Q => ∃ a b xs ys, x = .ref a ∧ y = .ref b ∧ SqT K H a xs ∧ SqT K H b ys ∧ xs.length + ys.length ≤ sizeLine ∧ (xs = [] → Q (.ref b) H) ∧ (xs ≠ [] → ys = [] → Q (.ref a) H) ∧ (xs ≠ [] → ys ≠ [] → KT (xs ++ ys) H Q)
theorem op_catF : OpR X (binaryOp .Add) (rCatF X.K) := by
  intro pins s σ H x y v u Q I rx ry h
  obtain ⟨a, b, xs, ys, rfl, rfl, ha, hb, hz, q0, q1, q2⟩ := h
  cases rx
  cases ry
  obtain ⟨its, r1, p1, _⟩ := I.tuple ha
  obtain ⟨its2, r2, p2, _⟩ := I.tuple hb
  by_cases hx : xs = []
  · subst hx
    cases r1
    exact cat_tup0 p1 p2 ⟨.ref b, H, I, rfl, q0 rfl⟩
  · refine HT.cat_tup p1 p2 (fun z => hx (r1.nil_iff.mp z)) (fun z => ⟨.ref a, H, I, rfl, q1 hx (r2.nil_iff.mp z)⟩) (fun z => ?_) (by rw [← r1.length, ← r2.length]; exact hz)
    exact laidF (t' := s.toks) I (r1.append r2) (by rw [List.length_append]; exact hz) (q2 hx fun w => z (r2.nil_iff.mpr w))
/-- t[lo:hi] -/
def rSlF (K : PySem.W.Frag) : V → Option Int → Option Int → Hp → VK → Prop := fun x lo hi H Q => ∃ a xs, x = .ref a ∧ SqT K H a xs ∧ (cutV xs lo hi = xs → Q (.ref a) H) ∧ KT (cutV xs lo hi) H Q
theorem sl_tupF : L2.SlR X (rSlF X.K) := by
  intro pins s σ H x v vl vu lo hi sl Q I rx hs pl pu h
  obtain ⟨a, xs, rfl, hx, q1, q2⟩ := h
  cases rx
  obtain ⟨its, r, ht, hz⟩ := I.tuple hx
  have hlen : its.toArray.size = xs.length := by rw [List.size_toArray]; exact r.length.symm
  refine ⟨"tuple", _, PyProof.Rows.slot_tuple_getitem.lookup, ht.typeIs, ?_⟩
  by_cases hw : HT.sIx xs.length 0 lo = 0 ∧ HT.sIx xs.length xs.length hi = xs.length
  · exact getItem_tuple_whole ht hs pl pu (by rw [hlen]; exact hw) ⟨.ref a, H, I, rfl, q1 (by unfold cutV; rw [hw.1, hw.2, List.drop_zero, Nat.sub_zero, List.take_length])⟩
  · refine HT.getItem_tuple_cut ht hs pl pu (by rw [hlen]; exact hw) ?_ (by rw [hlen]; exact hz)
    rw [hlen]
    exact laidF (t' := s.toks) I ((r.drop (HT.sIx xs.length 0 lo)).take (HT.sIx xs.length xs.length hi - HT.sIx xs.length 0 lo)) (Nat.le_trans (cutV_length xs lo hi) hz) q2
/-- t[::-1] -/
def tRevF (K : PySem.W.Frag) (te : TE) : TE := fun σ H Q => te σ H fun x H1 => ∃ a xs, x = .ref a ∧ SqT K H1 a xs ∧ KT xs.reverse H1 Q
theorem pe_revF {e : Expr} {te : TE} {k : Nat} {p1 p2 p3 pos : Pos} (he : PE X e te) : PE X (.Subscript e (.Slice none none (some (.UnaryOp .USub (.Constant (.int 1) k p1) p2)) p3) pos) (tRevF X.K te) := by
  refine ⟨fun pins s σ H Q I h => ?_⟩
  refine Subscript_ (thn (he.run pins s σ H _ I h) fun v s1 ⟨x, H1, I1, r1, q1⟩ => ?_)
  obtain ⟨a, xs, ex, hx, q⟩ := q1
  subst ex
  cases r1
  have hst : PO X (some (.UnaryOp .USub (.Constant (.int 1) k p1) p2)) (tPart (tUn (rU fun i => .int (-i)) (tC (.int 1)))) := po_some (pe_un un_neg pe_int)
  refine wpAny_Slice (thn (po_none.run pins s1 σ H1 (fun o H2 => o = none ∧ H2 = H1) I1 ⟨rfl, rfl⟩) fun vl s2 ⟨l, H2, I2, pl, el, e2⟩ => ?_)
  subst el e2
  refine thn (po_none.run pins s2 σ H2 (fun o H3 => o = none ∧ H3 = H2) I2 ⟨rfl, rfl⟩) fun vu s3 ⟨u, H3, I3, pu, eu, e3⟩ => ?_
  subst eu e3
  refine thn (hst.run pins s3 σ H3 (fun o H4 => o = some (-1) ∧ H4 = H3) I3 ⟨1, rfl, -1, rfl, rfl, rfl⟩) fun vs s4 ⟨o, H4, I4, ps, eo, e4⟩ => ?_
  subst eo e4
  have I5 : Inv X pins σ H4 { s4 with heap := s4.heap.push { cls := .type "slice", data := .fields #[vl, vu, vs] } } := I4.kept (t' := s4.toks) fun b ob q => Heap.get?_push_of_some _ q
  obtain ⟨its, r, ht, hz⟩ := I5.tuple hx
  have hlen := r.length
  show wpAny (model X.prog X.w) X.A (subscriptTail e (.Slice none none (some (.UnaryOp .USub (.Constant (.int 1) k p1) p2)) p3) (.ref a) (.ref s4.heap.objs.size)) (EP X pins σ Q) X.xe { s4 with heap := s4.heap.push { cls := .type "slice", data := .fields #[vl, vu, vs] } }
  refine tail_any (ops := [.ref a, .ref s4.heap.objs.size]) ht.typeIs (PyProof.Rows.slot_tuple_getitem.lookup) ?_ (by with_unfolding_all rfl)
  refine HT.getItem_tuple_rev ht (Heap.IsSliceOf.new _ vl vu vs) pl pu ps ?_ (by rw [List.size_toArray]; omega)
  exact laidF (t' := s4.toks) I5 r.reverse (by rw [List.length_reverse]; exact hz) q
/-- a method of such a tuple -/
def TDat (H : Hp) (x : V) : Prop := ∃ a o xs, x = .ref a ∧ o.dict = none ∧ H a = some (.frz o (.tup xs))
def tTM (r : V → List V → Hp → VK → Prop) (to : TE) (t : TA) : TE := fun σ H Q => to σ H fun x H1 => TDat H1 x ∧ t σ H1 fun xs H2 => r x xs H2 Q
theorem pe_tm {o e : Expr} {es : List Expr} {to : TE} {t : TA} {name : Str} {apos cpos : Pos} {id : String} {r : V → List V → Hp → VK → Prop} (pa : PlainAttrs "tuple") (slot : Slot "tuple" name id) (hty : typeOf (.builtin id) = pure (.type "method_descriptor")) (hm : MtR X id r) (ho : PE X o to) (ha : PA X (e :: es) t)
    (hbase : attributeBase o name X.env (eval o X.env) = eval o X.env := by rfl)
    (hfew : ((backTo cpos (starEach (e :: es) X.env)).all (fun x => !x.1) && (backToKw cpos (keywordEach [] X.env)).all (fun x => x.1.isSome)
      && decide ((e :: es).length + ([] : List Keyword).length + (if ([] : List Keyword).isEmpty then 0 else 1) < 30)) = true := by rfl)
    (hline : (apos.endLine == cpos.line) = true := by rfl) (hs : starEach (e :: es) X.env = (false, eval e X.env) :: starEach es X.env := by rfl) (hplain : (backTo cpos (starEach es X.env)).any (·.1) = false := by rfl) :
    PE X (.Call (.Attribute o name apos) (e :: es) [] cpos) (tTM r to t) := by
  refine ⟨fun pins s σ H Q I h => ?_⟩
  refine wpAny_Call_method_late hbase hfew hline rfl (thn (ho.run pins s σ H _ I h) fun v s1 ⟨x, H1, I1, r1, ty, q1⟩ => ?_)
  obtain ⟨a, ob, xs, rfl, hd, hat⟩ := ty
  obtain rfl : v = Value.ref a := r1
  obtain ⟨hg, _, its, _, ht⟩ := (show ObjOk X.prog X.w H1 s1.heap a (.frz ob (.tup xs)) from I1.hok a _ hat)
  refine ⟨"tuple", id, pa, slot, hty, PyProof.Rows.IsTup.typeIs ht, fun a' e => ⟨ob, by cases e; exact hg, hd⟩, ?_⟩
  have hA := ha.run cpos pins s1 σ H1 _ I1 q1
  rw [hs] at hA ⊢
  refine Calls.callWith_builtin (by show (false || (backTo cpos (starEach es X.env)).any (·.1)) = false; rw [hplain] <;> rfl) (Calls.evalArgs_plain ?_)
  exact thn hA fun us s2 ⟨vs, H2, I2, r2, q2⟩ => hm pins s2 σ H2 (.ref a) vs (.ref a) us Q I2 rfl r2 q2
/-- str * int -/
def repS (z : Str) (n : Nat) : Str := ⟨(List.replicate n z.cps).foldl (· ++ ·) #[]⟩
theorem foldl_size (c : Array Nat) : ∀ (k : Nat) (acc : Array Nat), ((List.replicate k c).foldl (· ++ ·) acc).size = acc.size + k * c.size
  | 0, acc => by simp
  | k + 1, acc => by
    rw [List.replicate_succ, List.foldl_cons, foldl_size c k, Array.size_append, Nat.succ_mul]
    omega
theorem repS_length (z : Str) (n : Nat) : (repS z n).length = n * z.length := by
  show ((List.replicate n z.cps).foldl (· ++ ·) #[]).size = _
  rw [foldl_size]
  show 0 + n * z.cps.size = n * z.cps.size
  omega
def rRepS : R2 := fun x y H Q => ∃ (z : Str) (n : Int), x = .str z ∧ y = .int n ∧ 1 ≤ n ∧ n ≤ 1000 ∧ z.length ≤ 1000 ∧ Q (.str (repS z n.toNat)) H
theorem op_repS : OpR X (binaryOp .Mult) rRepS := by
  intro pins s σ H x y v u Q I rx ry h
  obtain ⟨z, n, rfl, rfl, h1, h2, h3, q⟩ := h
  obtain ⟨t, rfl⟩ := (show ∃ t, v = Value.str z t from rx)
  obtain ⟨t', rfl⟩ := (show ∃ t, u = Value.int n t from ry)
  refine PySem.P.mul_str (by rw [decide_eq_false (by omega), decide_eq_false (by omega)] <;> rfl) (fun _ _ => ?_) (fun _ _ => ?_) ?_
  · have h5 : (z.length : Int) * n ≤ 1000 * 1000 := Int.mul_le_mul (by omega) h2 (by omega) (by omega)
    have : (z.length : Int) ≤ (2 ^ 63 - 1) / n := Int.le_ediv_of_mul_le (by omega) (by omega)
    omega
  · have h4 : z.length * n.toNat ≤ 1000 * 1000 := Nat.mul_le_mul h3 (by omega)
    unfold Builtin.Str.tooLong
    simp only [decide_eq_false_iff_not, sizeLine_eq]
    omega
  · rw [if_neg (by omega)]
    by_cases hc : (n == 1 || z.length == 0) = true
    · rw [if_pos hc]
      have e : repS z n.toNat = z := by
        unfold repS
        rcases Bool.or_eq_true_iff.mp hc with e | e
        · have : n = 1 := by simpa using e
          subst this
          show (⟨#[] ++ z.cps⟩ : Str) = z
          simp
        · have e' : z.cps = #[] := by
            have : z.cps.size = 0 := by simpa [Str.length] using e
            exact Array.eq_empty_of_size_eq_zero this
          have : ∀ k, (List.replicate k (#[] : Array Nat)).foldl (· ++ ·) #[] = #[] := fun k => by
            induction k with
            | zero => rfl
            | succ k ih => rw [List.replicate_succ, List.foldl_cons]; simpa using ih
          rw [e', this]
          cases z
          simp only at e'
          rw [e']
      rw [e] at q
      exact ⟨.str z, H, I, ⟨_, rfl⟩, q⟩
    · rw [if_neg hc]
      refine ⟨?_, .str _, H, I.tok _, ⟨_, rfl⟩, q⟩
      have h4 : n.toNat * z.length ≤ 1000 * 1000 := Nat.mul_le_mul (by omega) h3
      have h5 := repS_length z n.toNat
      show (repS z n.toNat).length ≤ sizeLine
      rw [h5, sizeLine_eq]
      omega
/-- x in t, t a tuple of data -/
def rInTD (K : PySem.W.Frag) : R2 := fun x y H Q => ∃ d ds, Dp K H x d ∧ Dp K H y (.tuple ds) ∧ SeqAt.shaped d = true ∧ SeqAt.shaped (.tuple ds) = true ∧ Q (.bl (ds.any fun z => PyData.eqv z d)) H
theorem op_inTD (hu : X.A.units + 65 < cLine) : OpR X (compareOp .In) (rInTD X.K) := by
  intro pins s σ H x y v u Q I rx ry h
  obtain ⟨d, ds, hd, he, sd, se, q⟩ := h
  obtain ⟨as, r1⟩ := Dp.reads I d x v hd rx
  obtain ⟨bs, r2⟩ := Dp.reads I (.tuple ds) y u he ry
  exact SeqAt.in_tuple_reads r2 r1 (SeqAt.canLay_of_shaped se) (SeqAt.canLay_of_shaped sd) (room_in_shaped sd hu) ⟨.bl _, H, I, rfl, q⟩
/-- repr(x) of a list -/
def rRepr (K : PySem.W.Frag) : List V → Hp → VK → Prop := fun xs H Q => ∃ a d, xs = [V.ref a] ∧ Dp K H (.ref a) d ∧ d.showable = true ∧ d.hasDict = false ∧ d.depth ≤ 64 ∧ d.shown.length ≤ sizeLine ∧ Q (.str d.shown) H
theorem call_reprD (hg : X.A.guards = some []) (hu : X.A.units + 66 < cLine) : CallR X (.builtin "repr") (rRepr X.K) := by
  intro pins s σ H xs us Q I r h
  obtain ⟨a, d, rfl, hd, hs, hn, hdp, hz, q⟩ := h
  obtain ⟨u, rfl, ru⟩ := r.one
  cases (show u = Value.ref a from ru)
  obtain ⟨as, rd⟩ := Dp.reads I d _ _ hd rfl
  exact PySem.repr_of_reads' rd hs (fun z => by rw [hn] at z; cases z) hg (by omega) (fun _ _ e => e) (fun h' u tk hk => ⟨.str d.shown, H, I.kept hk, ⟨_, rfl⟩, q⟩) hz
end
end Pap

set_option maxHeartbeats 4000000
/-! PkJ: the rules of PkH, PkI and others over PkA's logic. -/
namespace Pap
open PySem PySem.Spec L2 PyProof.Rows
def TupF (B : Hp) (M : MM) (a : Addr) (xs : List V) : Prop := ∃ u, TD u xs ∧ At B M a u
section
variable {K : PySem.W.Frag} {σ : L2.St} {B B' : Hp} {M M' R : MM} {Q : KW} {i j : Int} {z w : Str} {x y v : V} {a b : Addr} {xs ys : List V} {ta tb tc te : TE} {t : TA} {F : MM → MM} {o : HO}
theorem TupF.W (h : TupF B M a xs) : TupW K B M a xs := fun H W => by
  obtain ⟨u, ⟨o, _, rfl⟩, ha⟩ := h
  exact .inl (.inr ⟨o, ha.of W⟩)
theorem TupF.dat (h : TupF B M a xs) {H : Hp} (W : Wd B M H) : TDat H (.ref a) := by
  obtain ⟨u, ⟨o, hd, rfl⟩, ha⟩ := h
  exact ⟨a, o, xs, rfl, hd, ha.of W⟩
theorem TupF.ex (h : TupF B [] a xs) (e : Ex B B') : TupF B' M a xs := by
  obtain ⟨u, ho, ha⟩ := h
  exact ⟨u, ho, ha.elim (fun h => .inl (e _ _ h)) fun h => nomatch h⟩
/-- what becomes of a new tuple -/
abbrev QT (B : Hp) (M : MM) (xs : List V) (Q : KW) : Prop := ∀ p u, TD u xs → Q (.ref p) B ((p, u) :: M)
theorem kt_of {H : Hp} {Q' : VK} (k : ∀ v B' M' H', Wd B' M' H' → Q v B' M' → Q' v H') (W : Wd B M H) (q : QT B M xs Q) : KT xs H Q' := fun p u hp hu => k _ _ _ _ (W.new hp) (q p u hu)
theorem ew_tupF (h : AW t σ B M fun xs B1 M1 => xs.length ≤ sizeLine ∧ QT B1 M1 xs Q) : EW (tTupF t) σ B M Q := fun Q' k H W =>
  h _ (fun xs B1 M1 H1 W1 h1 => ⟨h1.1, kt_of k W1 h1.2⟩) H W
theorem tupF_l (h : LstW K B M a xs) (q : QT B M xs Q) : R1W (kTupF K) (.ref a) B M Q := fun _ k H W => ⟨a, xs, rfl, h H W, kt_of k W q⟩
theorem cat_F (ha : TupW K B M a xs) (hb : TupW K B M b ys) (hl : xs.length + ys.length ≤ sizeLine) (q1 : xs = [] → Q (.ref b) B M) (q2 : xs ≠ [] → ys = [] → Q (.ref a) B M) (q : xs ≠ [] → ys ≠ [] → QT B M (xs ++ ys) Q) : R2W (rCatF K) (.ref a) (.ref b) B M Q := fun _ k H W =>
  ⟨a, b, xs, ys, rfl, rfl, ha H W, hb H W, hl, fun h => k _ _ _ _ W (q1 h), fun h1 h2 => k _ _ _ _ W (q2 h1 h2), fun h1 h2 => kt_of k W (q h1 h2)⟩
theorem sl_F {lo hi : Option Int} (h : TupW K B M a xs) (q1 : cutV xs lo hi = xs → Q (.ref a) B M) (q : QT B M (cutV xs lo hi) Q) : RSW (rSlF K) (.ref a) lo hi B M Q := fun _ k H W => ⟨a, xs, rfl, h H W, fun e => k _ _ _ _ W (q1 e), kt_of k W q⟩
theorem ew_revF (h : EW te σ B M fun x B1 M1 => ∃ a xs, x = .ref a ∧ TupW K B1 M1 a xs ∧ QT B1 M1 xs.reverse Q) : EW (tRevF K te) σ B M Q := fun Q' k H W =>
  h _ (fun x B1 M1 H1 W1 h1 => by obtain ⟨a, xs, rfl, hx, q⟩ := h1; exact ⟨a, xs, rfl, hx H1 W1, kt_of k W1 q⟩) H W
theorem ew_tm {r : V → List V → Hp → VK → Prop} (h : EW te σ B M fun x B1 M1 => (∃ a xs, x = .ref a ∧ TupF B1 M1 a xs) ∧ AW t σ B1 M1 fun vs B2 M2 => RMW r x vs B2 M2 Q) : EW (tTM r te t) σ B M Q := fun Q' k H W =>
  h _ (fun x B1 M1 H1 W1 h1 => by obtain ⟨⟨a, xs, rfl, ht⟩, h2⟩ := h1; exact ⟨ht.dat W1, h2 _ (fun vs B2 M2 H2 W2 h3 => h3 Q' k H2 W2) H1 W1⟩) H W
/-- t.index(x) -/
def rTIx (K : PySem.W.Frag) : V → List V → Hp → VK → Prop := fun x xs H Q => ∃ p, ∃ ys : List Str, ∃ z j, x = .ref p ∧ xs = [.str z] ∧ SqT K H p (ys.map V.str) ∧ ys[j]? = some z ∧ (∀ m, m < j → ys[m]? ≠ some z) ∧ Q (.int (j : Nat)) H
theorem tix_ {zs : List Str} {n : Nat} (h : TupW K B M a (zs.map V.str)) (e : zs[n]? = some z) (hn : ∀ m, m < n → zs[m]? ≠ some z) (q : Q (.int (n : Nat)) B M) : RMW (rTIx K) (.ref a) [.str z] B M Q := fun _ k H W => ⟨a, zs, z, n, rfl, rfl, h H W, e, hn, k _ _ _ _ W q⟩
theorem rep_s (h1 : 1 ≤ i) (h2 : i ≤ 1000) (h3 : z.length ≤ 1000) (q : Q (.str (repS z i.toNat)) B M) : R2W rRepS (.str z) (.int i) B M Q := fun _ k H W => ⟨z, i, rfl, rfl, h1, h2, h3, k _ _ _ _ W q⟩
theorem in_td {d : PyData} {ds : List PyData} (h1 : DpW K B M x d) (h2 : DpW K B M y (.tuple ds)) (s1 : SeqAt.shaped d = true) (s2 : SeqAt.shaped (.tuple ds) = true) (q : Q (.bl (ds.any fun z => PyData.eqv z d)) B M) : R2W (rInTD K) x y B M Q := fun _ k H W =>
  ⟨d, ds, h1 H W, h2 H W, s1, s2, k _ _ _ _ W q⟩
theorem repr_d {d : PyData} (h : DpW K B M (.ref a) d) (h1 : d.showable = true) (h2 : d.hasDict = false) (h3 : d.depth ≤ 64) (h4 : d.shown.length ≤ sizeLine) (q : Q (.str d.shown) B M) : RLW (rRepr K) [.ref a] B M Q := fun _ k H W => ⟨a, d, rfl, h H W, h1, h2, h3, h4, k _ _ _ _ W q⟩
/-- own ==, != -/
theorem own_l {C : Addr} {dx : Addr} {fs : List (Str × V)} {sp : Sp} {neg : Bool} {u : Value} (ha : At B M a (.ins C dx fs)) (ty : TyW K B M y u) (nf : PySem.W.notFirst K C u = true)
    (h : CW sp E0 [.ref a, y] B M fun v B' M' => ∃ b, v = .bl b ∧ Q (.bl (if neg then !b else b)) B' M') : R2W (rOwn K C sp neg) (.ref a) y B M Q := fun Q' k H W =>
  .inl ⟨a, dx, fs, u, rfl, ha.of W, ty H W, nf, h _ (fun v B' M' H' W' ⟨b, e, q⟩ => ⟨b, e, k _ _ _ _ W' q⟩) H W⟩
def DeclW (K : PySem.W.Frag) (C : Addr) (B : Hp) (M : MM) (x : V) : Prop := ∀ H, Wd B M H → Decl K C H x
theorem own_r {C : Addr} {dx : Addr} {fs : List (Str × V)} {sp : Sp} {neg : Bool} (ha : At B M a (.ins C dx fs)) (d : DeclW K C B M x)
    (h : CW sp E0 [.ref a, x] B M fun v B' M' => ∃ b, v = .bl b ∧ Q (.bl (if neg then !b else b)) B' M') : R2W (rOwn K C sp neg) x (.ref a) B M Q := fun Q' k H W =>
  .inr ⟨a, dx, fs, rfl, ha.of W, d H W, h _ (fun v B' M' H' W' ⟨b, e, q⟩ => ⟨b, e, k _ _ _ _ W' q⟩) H W⟩
theorem r2w_inl {r r' : R2} (h : R2W r x y B M Q) : R2W (fun x y H Q => r x y H Q ∨ r' x y H Q) x y B M Q := fun Q' k H W => .inl (h Q' k H W)
theorem r2w_inr {r r' : R2} (h : R2W r' x y B M Q) : R2W (fun x y H Q => r x y H Q ∨ r' x y H Q) x y B M Q := fun Q' k H W => .inr (h Q' k H W)
theorem len_o {C dx : Addr} {fs : List (Str × V)} {sp : Sp} (ha : At B M a (.ins C dx fs)) (h : CW sp E0 [.ref a] B M fun v B' M' => ∃ n, v = .int n ∧ 0 ≤ n ∧ n < 2 ^ 63 ∧ Q v B' M') : RLW (rLenO C sp) [.ref a] B M Q := fun Q' k H W =>
  ⟨a, dx, fs, rfl, ha.of W, h _ (fun v B' M' H' W' ⟨n, e, h0, h1, q⟩ => ⟨n, e, h0, h1, k _ _ _ _ W' q⟩) H W⟩
theorem str_o {C dx : Addr} {fs : List (Str × V)} {sp : Sp} (ha : At B M a (.ins C dx fs)) (h : CW sp E0 [.ref a] B M fun v B' M' => ∃ z, v = .str z ∧ Q v B' M') : RLW (rStrO C sp) [.ref a] B M Q := fun Q' k H W =>
  ⟨a, dx, fs, rfl, ha.of W, h _ (fun v B' M' H' W' ⟨n, e, q⟩ => ⟨n, e, k _ _ _ _ W' q⟩) H W⟩
/-- sorted -/
theorem sortedS_ {zs : List Str} (h : LstW K B M a (zs.map V.str)) (hl : zs.length < 64) (q : ∀ (ys : List Str) (p : Addr), ys.Perm zs → sortedS ys = true → Q (.ref p) B ((p, .lst (ys.map V.str)) :: M)) : RLW (rSortedS K) [.ref a] B M Q := fun _ k H W =>
  ⟨a, zs, rfl, h H W, hl, fun ys p h1 h2 hp => k _ _ _ _ (W.new hp) (q ys p h1 h2)⟩
def rSortedD : List V → Hp → VK → Prop := fun xs H Q => ∃ (a : Addr) (kvs : List (Key × V)) (ks : List Str), xs = [.ref a] ∧ Rd H a (.dK kvs) ∧ kvs.map (·.1) = ks.map Sum.inr ∧ ks.length < 64 ∧ ∀ ys p, ys.Perm ks → sortedS ys = true → H p = none → Q (.ref p) (upd H p (.lst (ys.map V.str)))
theorem sortedD_ {kvs : List (Key × V)} {ks : List Str} (h : At B M a (.dK kvs)) (e : kvs.map (·.1) = ks.map Sum.inr) (hl : ks.length < 64) (q : ∀ (ys : List Str) (p : Addr), ys.Perm ks → sortedS ys = true → Q (.ref p) B ((p, .lst (ys.map V.str)) :: M)) : RLW rSortedD [.ref a] B M Q := fun _ k H W =>
  ⟨a, kvs, ks, rfl, .inl (h.of W), e, hl, fun ys p h1 h2 hp => k _ _ _ _ (W.new hp) (q ys p h1 h2)⟩
/-- join, strip, max of two -/
def rJoin (K : PySem.W.Frag) : V → List V → Hp → VK → Prop := fun x xs H Q => ∃ a p, ∃ ys : List Str, x = .str a ∧ xs = [.ref p] ∧ (SqL K H p (ys.map V.str) ∨ SqT K H p (ys.map V.str)) ∧ (ys.map (·.length)).sum + ys.length * a.length ≤ 16777216 ∧ Q (.str (Txt.join a ys)) H
theorem ew_m1 {r : V → List V → Hp → VK → Prop} (h : EW ta σ B M fun x B1 M1 => (∃ z, x = .str z) ∧ EW te σ B1 M1 fun y B2 M2 => RMW r x [y] B2 M2 Q) : EW (tM1 r ta te) σ B M Q := fun Q' k H W =>
  h _ (fun x B1 M1 H1 W1 h1 => ⟨h1.1, h1.2 _ (fun y B2 M2 H2 W2 h2 => h2 Q' k H2 W2) H1 W1⟩) H W
theorem join_ {zs : List Str} (h : LstW K B M a (zs.map V.str)) (hl : (zs.map (·.length)).sum + zs.length * z.length ≤ 16777216) (q : Q (.str (Txt.join z zs)) B M) : RMW (rJoin K) (.str z) [.ref a] B M Q := fun _ k H W => ⟨z, a, zs, rfl, rfl, .inl (h H W), hl, k _ _ _ _ W q⟩
def rStripC : V → List V → Hp → VK → Prop := fun x xs H Q => ∃ a b, x = .str a ∧ xs = [.str b] ∧ a.length ≤ sizeLine ∧ Q (.str (Txt.stripChars a b)) H
theorem strip_ (h : z.length ≤ sizeLine) (q : Q (.str (Txt.stripChars z w)) B M) : RMW rStripC (.str z) [.str w] B M Q := fun _ k H W => ⟨z, w, rfl, rfl, h, k _ _ _ _ W q⟩
def rMax2 : List V → Hp → VK → Prop := fun xs H Q => ∃ i j, xs = [.int i, .int j] ∧ Q (.int (if j > i then j else i)) H
theorem max2_ (q : Q (.int (if j > i then j else i)) B M) : RLW rMax2 [.int i, .int j] B M Q := fun _ k H W => ⟨i, j, rfl, k _ _ _ _ W q⟩
/-- a <= b <= c -/
theorem ew_chain {r r' : R2} (h : EW ta σ B M fun x B1 M1 => EW tb σ B1 M1 fun y B2 M2 => R2W r x y B2 M2 fun z B3 M3 => ∃ k, z = .bl k ∧ (k = true → EW tc σ B3 M3 fun u B4 M4 => R2W r' y u B4 M4 Q) ∧ (k = false → Q (.bl false) B3 M3)) : EW (tChain r r' ta tb tc) σ B M Q := fun Q' k H W => by
  refine h _ (fun x B1 M1 H1 W1 h1 => h1 _ (fun y B2 M2 H2 W2 h2 => h2 _ (fun z B3 M3 H3 W3 h3 => ?_) H2 W2) H1 W1) H W
  obtain ⟨c, rfl, h4, h5⟩ := h3
  refine ⟨c, rfl, ?_⟩
  cases c with
  | true => rw [if_pos rfl]; exact h4 rfl _ (fun u B4 M4 H4 W4 q => q Q' k H4 W4) H3 W3
  | false => rw [if_neg Bool.false_ne_true]; exact k _ _ _ _ W3 (h5 rfl)
/-- a or b by truth: a a list -/
theorem ew_orT (h : EW ta σ B M fun x B1 M1 => ∃ a xs, x = .ref a ∧ LstW K B1 M1 a xs ∧ (xs ≠ [] → Q x B1 M1) ∧ (xs = [] → EW tb σ B1 M1 Q)) : EW (tOrT K ta tb) σ B M Q := fun Q' k H W => by
  refine h _ (fun x B1 M1 H1 W1 h1 => ?_) H W
  obtain ⟨a, xs, rfl, hl, q1, q2⟩ := h1
  refine ⟨!xs.isEmpty, .inl ⟨xs, hl H1 W1, rfl⟩, ?_⟩
  cases xs with
  | nil => rw [if_neg (by simp)]; exact q2 rfl Q' k H1 W1
  | cons y ys => rw [if_pos (by simp)]; exact k _ _ _ _ W1 (q1 (by simp))
end
section
variable {K : PySem.W.Frag} {σ : L2.St} {B B' : Hp} {M M' R : MM} {D : DW} {ta te : TE} {t : TA} {i j l : Nat} {F : MM → MM} {QS : L2.St → Hp → MM → Prop} {v : V} {a : Addr} {xs : List V}
theorem sw_par (h : AW t σ B M fun vs B1 M1 => ∃ v w, vs = [v, w] ∧ D.nx ((σ.set i (some v)).set j (some w)) B1 M1) : SW (tPar i j t) D σ B M := fun D' l H W =>
  h _ (fun vs B1 M1 H1 W1 ⟨v, w, e, q⟩ => ⟨v, w, e, l.nx _ _ _ _ W1 q⟩) H W
theorem sw_par3 (h : AW t σ B M fun vs B1 M1 => ∃ u v w, vs = [u, v, w] ∧ D.nx (((σ.set i (some u)).set j (some v)).set l (some w)) B1 M1) : SW (tPar3 i j l t) D σ B M := fun D' l H W =>
  h _ (fun vs B1 M1 H1 W1 ⟨u, v, w, e, q⟩ => ⟨u, v, w, e, l.nx _ _ _ _ W1 q⟩) H W
theorem gw_tup {n : Nat} {g : TGs} (h : TupW K B M a xs) (hn : xs.length = n) (q : GsW g xs σ B M QS) : GW (gTup K n g) (.ref a) σ B M QS := fun Q' k H W => ⟨a, xs, rfl, h H W, hn, q Q' k H W⟩
/-- l[i] = v, l one's own list -/
theorem gw_subL {to ti : TE} (h : EW to σ B M fun o B1 M1 => EW ti σ B1 M1 fun i B2 M2 => ∃ p xs k j R F, o = .ref p ∧ i = .int k ∧ Sel M2 [(p, .lst xs)] R F ∧ ixN xs.length k = some j ∧ QS σ B2 (F [(p, .lst (xs.set j v))])) : GW (gSub to ti rSetL) v σ B M QS := fun Q' k H W => by
  refine h _ (fun o B1 M1 H1 W1 h1 => h1 _ (fun i B2 M2 H2 W2 h2 => ?_) H1 W1) H W
  obtain ⟨p, xs, n, j, R, F, rfl, rfl, s, hj, q⟩ := h2
  have W3 : Wd B2 ((p, .lst xs) :: R) H2 := W2.perm s.perm.1
  exact ⟨p, xs, n, j, rfl, rfl, W3.hd, hj, k _ _ _ _ (W3.write.perm (s.perm.2 [(p, .lst (xs.set j v))]).symm) q⟩
def IpW (ti : TIp) (x y : V) (B : Hp) (M : MM) (Q : KW) : Prop := ∀ Q' : VK, (∀ v B' M' H', Wd B' M' H' → Q v B' M' → Q' v H') → ∀ H, Wd B M H → ti x y H Q'
theorem sw_aug {ti : TIp} {x : V} (hx : σ[i]? = some (some x)) (h : EW te σ B M fun y B1 M1 => IpW ti x y B1 M1 fun z B2 M2 => D.nx (σ.set i (some z)) B2 M2) : SW (tAug i te ti) D σ B M := fun D' l H W =>
  ⟨x, hx, h _ (fun y B1 M1 H1 W1 h1 => h1 _ (fun z B2 M2 H2 W2 q => l.nx _ _ _ _ W2 q) H1 W1) H W⟩
end
end Pap

set_option maxHeartbeats 4000000
/-! PkK: defs that are run where no builtin is under way (a list's repr asks for that). -/
namespace Pap
open PySem PySem.Spec L2 PyProof.Rows
structure FnG (P : Program) (w : World) (K : PySem.W.Frag) (mg : Str → Option Value) (base : Heap) (k : Nat) (f : Addr) (fd : FuncData) (ps : List Str) (sp : Sp) : Prop where
  len : ∀ vs H Q E, sp vs H Q E → vs.length = ps.length
  run : ∀ (A : Around) (outer : List Env) (s : Shared) (H : Hp) (args : Args) (us : List Value) (vs : List V) (Q : VK) (E : XK), A.guards = some [] → Room k A → Env0 P w K mg base A outer s H → BindsTo s fd args (ps.zip us) → Vals vs us → sp vs H Q E →
    codeAny (model P w) A (.call (.ref f) args) (CR CX0 outer P w H s Q E) s
structure FnkG (P : Program) (w : World) (K : PySem.W.Frag) (mg : Str → Option Value) (base : Heap) (d : He.DefD) (ps : List Str) (k : Nat) (sp : Sp) : Prop where
  ex : ∃ fd, FunD K d.name d.qual d.params d.body d.scope (d.dvs K) (d.kws K) (He.fAd K d.at_) fd ∧ FnG P w K mg base k (He.fAd K d.at_) fd ps sp
section
variable {X : Cx} {d : He.DefD} {ps : List Str} {k j : Nat} {sp : Sp} {x : Str} {p pos : Pos} {e : Expr} {es : List Expr} {t : TA} {dvs : List V} {E : XK}
theorem run_fnG {f : Addr} {fd : FuncData} {ds : List Value} {pins : List (Addr × Obj)} {σ : L2.St} {H : Hp} {s : Shared} {Q : VK} {us : List Value} {vs : List V} (F : FnG X.prog X.w X.K X.mg X.base k f fd ps sp) (hgd : X.A.guards = some []) (hr : Room k X.A) (hb : Binds X.K fd ps ds) (hd : Vals dvs ds) (hx : Passes CX0 X E)
    (I : Inv X pins σ H s) (r : Vals vs us) (h : sp (vs ++ dvs) H Q E) : wpAny (model X.prog X.w) X.A (call (.ref f) us) (EP X pins σ Q) X.xe s := by
  have r2 : Vals (vs ++ dvs) (us ++ ds) := r.append hd
  have q := F.run X.A X.stack s H ⟨us, []⟩ (us ++ ds) (vs ++ dvs) Q E hgd hr I.env0 (hb s us I.kIn (r2.length ▸ F.len _ _ _ _ h)) r2 h
  refine wpAny_call (codeAny_mono q fun r s' hq => ?_)
  cases r with
  | error e => exact hx pins σ H s e s' I hq
  | ok fl => cases fl <;> first | exact I.after hq | exact False.elim hq
theorem pe_fnG (G : FnkG X.prog X.w X.K X.mg X.base d ps k sp) (hgd : X.A.guards = some []) (b : BindP X.K d ps dvs) (hr : Room j X.A) (hk : k ≤ j) (hg : Gl X x) (hm : X.mg x = some (.ref (He.fAd X.K d.at_)))
    (ha : PA X (e :: es) t) (hdb : (x == ("__debug__" : Str)) = false := by decide) (he : starEach (e :: es) X.env = (false, eval e X.env) :: starEach es X.env := by rfl) (hpl : (backTo pos (starEach es X.env)).any (·.1) = false := by rfl) :
    PE X (.Call (.Name x p) (e :: es) [] pos) (tCall sp dvs E0 t) := by
  obtain ⟨fd, F, G⟩ := G.ex
  obtain ⟨ds, hd, hb⟩ := b fd F
  refine ⟨fun pins s σ H Q I h => wpAny_Call_Name_kw (ld_glob I hg hm ?_ hdb)⟩
  refine PySem.W.callWith_K (h₀ := X.base) I.ok.mod.kin F.kp (thn (ha.run pos pins s σ H _ I h) fun us s1 ⟨vs, H1, I1, r, q⟩ => ⟨I1.kIn, ?_⟩) he hpl
  exact run_fnG G hgd (hr.mono hk) hb hd pass0 I1 r q
theorem pe_fnG0 (G : FnkG X.prog X.w X.K X.mg X.base d ps k sp) (hgd : X.A.guards = some []) (b : BindP X.K d ps dvs) (hr : Room j X.A) (hk : k ≤ j) (hg : Gl X x) (hm : X.mg x = some (.ref (He.fAd X.K d.at_)))
    (hdb : (x == ("__debug__" : Str)) = false := by decide) : PE X (.Call (.Name x p) [] [] pos) (tCall sp dvs E0 tNil) := by
  obtain ⟨fd, F, G⟩ := G.ex
  obtain ⟨ds, hd, hb⟩ := b fd F
  refine ⟨fun pins s σ H Q I h => wpAny_Call_Name_kw (ld_glob I hg hm ?_ hdb)⟩
  exact PySem.W.callWith_K0 I.kIn F.kp (run_fnG (us := []) G hgd (hr.mono hk) hb hd pass0 I .nil h)
end
/-- by its body -/
theorem fng_of {P : Program} {w : World} {K : PySem.W.Frag} {mg : Str → Option Value} {base : Heap} {d : He.DefD} {N ps : List Str} {k : Nat} {s : SpW} (t : TS)
    (F : ∃ fd, FunD K d.name d.qual d.params d.body d.scope (d.dvs K) (d.kws K) (He.fAd K d.at_) fd) (S : FnScope N ps d.scope) (len : ∀ vs B M Q E, s vs B M Q E → vs.length = ps.length)
    (hbody : ∀ (f : Addr) (cdv : Value) (A : Around) (outer : List Env) (sh : Shared) (H : Hp) (E : XK), A.guards = some [] → Room k (A.deeper (PyProof.Rows.envOfC d.qual d.scope sh.heap.objs.size f cdv)) → PSs (cxOf CX0 P w K mg base N d.qual d.scope f cdv A outer sh H E).nox d.body t)
    (pure_ : ∀ vs B M Q E, s vs B M Q E → SW t (DW.up ⟨fun _ B M => Q .non B M, Q, fun _ _ _ => False, fun _ _ _ => False⟩) (start N vs) B M) : FnkG P w K mg base d ps (k + 1) (spW s) := by
  obtain ⟨fd, F⟩ := F
  refine ⟨fd, F, ⟨fun vs H Q E ⟨B, M, Q0, E0, _, h, _⟩ => len vs B M Q0 E0 h, fun A outer sh H args us vs Q E hgd hr e0 hb r hsp => ?_⟩⟩
  obtain ⟨oc, od, dV, kV, doc, pm, an, cdv, ct, osl, rfl, lk, hcd, _, _⟩ := F.ex
  obtain ⟨B, M, Q0, E0, W, hs, hQ, _⟩ := hsp
  have hl := len _ _ _ _ _ hs
  have lim : sh.heap.NoLimit := e0.mod.nolimit.keeps fun b o e => (e0.bs b o e).1
  have KX : K.In sh.heap := e0.mod.kin.keeps fun b o e => (e0.bs b o e).1
  have hkind : ∀ y ∈ ps.zip us, d.scope.names.lookup y.1 = some .local ∨ (d.scope.names.lookup y.1 = some .cell ∧ ((cellsFrom (sh.heap.objs.size + 1) d.scope.names []).lookup y.1).isSome = true) := fun y hy =>
    (S.par y.1 (List.of_mem_zip (a := y.1) (b := y.2) hy).1).imp id fun q => ⟨q, PySem.W.cellsFrom_some _ _ _ (.inl q)⟩
  refine codeAny_call_function hr.depth (KX _ _ lk) rfl S.co S.gen rfl (PySem.W.codeRec_of KX hcd) (hb _ _ _ _ ?_)
  refine wpAny_newFunctionEnv_cells S.kind hkind fun env he s1 x => ?_
  subst he
  refine ⟨lim.keeps x.toInCall.keep, codeAny_func ?_⟩
  have ht := (hbody (He.fAd K d.at_) cdv A outer sh H E hgd (hr.deeper _)).nox
  have hq : t { nx := fun _ H' => Q .non H', rt := Q } (start N vs) H := pure_ vs B M Q0 E0 hs _ (DLe.up ⟨fun σ B M H W q => hQ _ _ _ _ W q, fun v B M H W q => hQ _ _ _ _ W q, fun _ _ _ _ _ z => z.elim, fun _ _ _ _ _ z => z.elim⟩) H W
  have I : Inv (cxOf CX0 P w K mg base N d.qual d.scope (He.fAd K d.at_) cdv A outer sh H E) [] (start N vs) H s1 := inv_start S hr.hd e0 hl r x
  refine wpAny_mono (ht.run [] s1 (start N vs) H _ I hq) (fun fl s' hs => ?_) fun e s' hs => hs
  have fin : ∀ {σ' : L2.St} {H' : Hp} {v : V} {u : Value}, Inv (cxOf CX0 P w K mg base N d.qual d.scope (He.fAd K d.at_) cdv A outer sh H E) [] σ' H' s' → RelV v u → Q v H' → CE outer P w H sh Q u s' :=
    fun {σ' H' v u} J rv q => ⟨v, H', J.os, J.bare, J.base, J.hok, rv, q⟩
  cases fl with
  | ret u =>
    obtain ⟨v, σ', H', J, rv, q⟩ := hs
    exact fin J rv q
  | next =>
    obtain ⟨σ', H', J, q⟩ := hs
    exact fin (v := V.non) (u := Value.none) J rfl q
  | brk => exact let ⟨_, _, _, q⟩ := hs; False.elim q
  | cont => exact let ⟨_, _, _, q⟩ := hs; False.elim q
/-- the law's def, called from the claim -/
theorem law_callG {P : Program} {w : World} {K : PySem.W.Frag} {mg mb : Str → Option Value} {k : Nat} {fa a : Addr} {fd : FuncData} {x : Str} {sp : Sp} {s₁ : Shared} {vs : List Value} {ns : List Int}
    (KX : K.In s₁.heap) (hns : s₁.heap.Ns mainGlobals mg) (hb : s₁.heap.Ns builtinsNs mb) (hbb : ∀ x : Str, x ≠ "__name__" → mb x = bootBuiltins x) (hlim : s₁.heap.NoLimit) (hg : s₁.gens = #[])
    (ha : s₁.heap.get? a = some { cls := .type "list", data := .seq vs.toArray }) (hi : IntsAre vs ns) (hl : ns.length ≤ sizeLine) (hr : Room k callerA)
    (F : ∀ base : Heap, K.In base → base.Ns mainGlobals mg → FnG P w K mg base k fa fd [x] sp) (hbind : ∀ (s : Shared) (u : Value), BindsTo s fd ⟨[u], []⟩ [(x, u)])
    (hsp : ∀ H : Hp, Only H → SqL K H a (ns.map V.int) → sp [.ref a] H (fun v _ => v = .bl true) fun _ _ _ => False) :
    codeAny (model P w) callerA (.call (.ref fa) ⟨[.ref a], []⟩) (fun r s' => r = .ok (.ret (.bool true)) ∧ OldK s₁.heap s'.heap ∧ s'.os = s₁.os ∧ AllBare s'.gens) s₁ := by
  have lenV := hi.length
  have core : ∀ H : Hp, Only H → SqL K H a (ns.map V.int) → HOk P w H s₁.heap → (∀ b, H b ≠ none → b = a ∧ K.lookup a = none) →
      codeAny (model P w) callerA (.call (.ref fa) ⟨[.ref a], []⟩) (fun r s' => r = .ok (.ret (.bool true)) ∧ OldK s₁.heap s'.heap ∧ s'.os = s₁.os ∧ AllBare s'.gens) s₁ := by
    intro H hO hS hok hA
    have noA : ∀ {b : Addr} {o : Obj} {es : Array DictEntry} {ep : Nat}, s₁.heap.get? b = some o → o.data = .dict es ep → H b = none := fun {b o es ep} e d => by
      rcases q : H b with _ | u
      · rfl
      · have e' := (hA b (by rw [q]; simp)).1
        subst e'
        have e2 := Option.some.inj (ha.symm.trans e)
        rw [← e2] at d
        cases d
    have nsK : ∀ {b : Addr} {m : Str → Option Value}, s₁.heap.Ns b m → (hidT s₁.heap H).Ns b m := fun {b m} ⟨o, es, ep, e, d, r⟩ => ⟨o, es, ep, hidT_get e (noA e d), d, r⟩
    have hKb : K.In (hidT s₁.heap H) := fun b o e => hidT_get (KX b o e) (by
      rcases q : H b with _ | u
      · rfl
      · obtain ⟨e', n⟩ := hA b (by rw [q]; simp)
        subst e'
        rw [n] at e
        cases e)
    have hM : Mod K mg (hidT s₁.heap H) := ⟨hKb, nsK hns, ⟨mb, nsK hb, hbb⟩, hlim.imp fun mc h => ⟨nsK h.1, h.2⟩⟩
    have e0 : Env0 P w K mg (hidT s₁.heap H) callerA [] s₁ H := ⟨rfl, hM, fun b o e => of_hidT e, Nat.le_of_eq (hidT_size _ _), trivial, fun b hb => absurd (show b ∈ ([] : List Addr) from hb) (by simp), hok, .of_eq hg⟩
    refine codeAny_mono ((F _ hKb (nsK hns)).run callerA [] s₁ H ⟨[.ref a], []⟩ [.ref a] [.ref a] _ _ rfl hr e0 (hbind s₁ (.ref a)) (.cons rfl .nil) (hsp H hO hS)) fun r s' h => ?_
    cases r with
    | error e => exact False.elim h
    | ok fl =>
      cases fl with
      | next => exact False.elim h
      | brk => exact False.elim h
      | cont => exact False.elim h
      | ret u =>
        obtain ⟨v, H', os, bare, un, hok', r', q⟩ := h
        subst q
        obtain rfl : u = Value.bool true := r'
        refine ⟨rfl, OldK.of_keep fun b o e => ?_, os, bare⟩
        rcases hO b with z | ⟨ob, xs, z⟩
        · exact un.keep b o e z (by intro z; exact absurd (show b ∈ ([] : List Addr) from z) (by simp)) (by simp)
        · have e1 := (hok b _ z).1
          have e2 := (hok' b _ (un.frzs b ob _ z)).1
          rw [e] at e1
          cases e1
          exact e2
  rcases hk : K.lookup a with _ | o
  · have hif : ∀ {b : Addr} {u : HO}, (if b = a then some (HO.frz { cls := .type "list", data := .seq vs.toArray } (.lst (ns.map V.int))) else none) = some u → b = a ∧ u = HO.frz { cls := .type "list", data := .seq vs.toArray } (.lst (ns.map V.int)) := fun {b u} z => by
      by_cases hb : b = a
      · rw [if_pos hb] at z; exact ⟨hb, (Option.some.inj z).symm⟩
      · rw [if_neg hb] at z; cases z
    refine core (fun b => if b = a then some (.frz { cls := .type "list", data := .seq vs.toArray } (.lst (ns.map V.int))) else none) (fun b => ?_) (.inl (.inr ⟨{ cls := .type "list", data := .seq vs.toArray }, if_pos rfl⟩)) (fun b u z => ?_) fun b z => ?_
    · by_cases hb : b = a
      · exact .inr ⟨_, _, if_pos hb⟩
      · exact .inl (if_neg hb)
    · obtain ⟨rfl, rfl⟩ := hif z
      exact ⟨ha, by rw [List.length_map]; exact hl, vs, _, vals_ints hi, ha⟩
    · obtain ⟨u, hu⟩ := Option.ne_none_iff_exists'.mp z
      exact ⟨(hif hu).1, hk⟩
  · have e := KX a o hk
    rw [ha] at e
    cases e
    exact core (fun _ => none) (fun _ => .inl rfl) (.inr ⟨_, vs.toArray, _, hk, rfl, rfl, rfl, by rw [List.size_toArray, lenV]; exact hl, by simpa using vals_ints hi⟩) (fun b u z => by cases z) fun b z => absurd rfl z
theorem walk_ofG {l : PySem.W.OpenLaw} {n k : Nat} {q : Program} {loose : List Str} {XP : (Str → Option Value) → Heap → Prop} {YP : World → Heap → Prop} {d : DefRec} {x : Str}
    (hn : l.most = some n) (hn2 : n ≤ sizeLine) (hdf : d.params.defaults = []) (hr : Room k callerA)
    (F : ∀ (w : World) (mg : Str → Option Value) (fa : Addr) (h : Heap), YP w h → h.Ns mainGlobals mg → mg d.name = some (.ref fa) →
      ∃ (K : PySem.W.Frag) (fd : FuncData) (sp : Sp), K.In h ∧ (∀ (s : Shared) (u : Value), BindsTo s fd ⟨[u], []⟩ [(x, u)]) ∧
        (∀ (H : Hp) (a : Addr) (ns : List Int), ns.length ≤ n → (∀ k ∈ ns, Builtin.Int.intBits k ≤ 1048576) → Only H → SqL K H a (ns.map V.int) → sp [.ref a] H (fun v _ => v = .bl true) fun _ _ _ => False) ∧
        ∀ base : Heap, K.In base → base.Ns mainGlobals mg → FnG l.prog w K mg base k fa fd [x] sp) :
    PySem.W.WalkO q loose XP YP l.row.toRowW d [] (fun f vs => PySem.call f vs) := by
  refine Att.attach_callB hn hdf fun w s₀ s₁ mg mb fa o pm cd doc a vs ns G Y ho hd hcd hmg hobj hints hlen hbits hg => ?_
  obtain ⟨K, fd, sp, KX, hb, hsp, hF⟩ := F w mg fa _ Y G.T.g hmg
  exact law_callG KX G.T.g G.T.b G.T.builtins G.T.nolimit hg hobj hints (Nat.le_trans hlen hn2) hr hF hb (fun H hO hS => hsp H a ns hlen hbits hO hS)
end Pap

set_option maxHeartbeats 4000000
/-! PkL: what the steps of a def's proof use. -/
namespace Pap
open PySem PySem.Spec L2 PyProof.Rows
section
variable {K : PySem.W.Frag} {σ : L2.St} {B B' : Hp} {M M' R : MM} {Q : KW} {i j : Int} {z w : Str} {x y v : V} {a b : Addr} {xs ys : List V} {te : TE} {D : DW} {o : HO} {p : Addr}
theorem ew_varE {n : Nat} (h : ∃ v, σ[n]? = some (some v) ∧ Q v B M) : EW (tVar n) σ B M Q := let ⟨_, e, q⟩ := h; ew_var e q
theorem ew_fldE {C : Addr} {f : Str} (hc : Cls K C) (hn : NoAttr K C f) (h : EW te σ B M fun x B1 M1 => ∃ a dx fs, x = .ref a ∧ At B1 M1 a (.ins C dx fs) ∧ ∃ v, fs.lookup f = some v ∧ Q v B1 M1) : EW (tFld K te f) σ B M Q := by
  refine ew_fld hc hn fun Q' k H W => h Q' (fun v B' M' H' W' h => ?_) H W
  obtain ⟨a, dx, fs, e1, e2, v, e3, q⟩ := h
  exact k _ _ _ _ W' ⟨a, dx, fs, v, e1, e2, e3, q⟩
theorem up_rt (h : Up (D.rt v) B M) : D.up.rt v B M := h
theorem up_nx (h : Up (D.nx σ) B M) : D.up.nx σ B M := h
theorem tt_ {A A' : Prop} (h : A) : (true = true → A) ∧ (true = false → A') := ⟨fun _ => h, nofun⟩
theorem ff_ {A A' : Prop} (h : A) : (false = true → A') ∧ (false = false → A) := ⟨nofun, fun _ => h⟩
/-- isinstance of plain values -/
theorem isi_k {T U : String} {r : Bool} (e : kitB T U = some r) (h : TyW K B M x (.type T)) (q : Q (.bl r) B M) : RLW (rIsi K) [x, .ty U] B M Q := isi_ h (.ty U) (kit_ty e) q
theorem isi_ii (q : Q (.bl true) B M) : RLW (rIsi K) [.int i, .ty "int"] B M Q := isi_k (by decide +kernel) .int q
theorem isi_ib (q : Q (.bl false) B M) : RLW (rIsi K) [.int i, .ty "bool"] B M Q := isi_k (by decide +kernel) .int q
theorem isi_ss (q : Q (.bl true) B M) : RLW (rIsi K) [.str z, .ty "str"] B M Q := isi_k (by decide +kernel) .str q
theorem isi_tt (h : TyW K B M x (.type "tuple")) (q : Q (.bl true) B M) : RLW (rIsi K) [x, .ty "tuple"] B M Q := isi_k (by decide +kernel) h q
theorem TyW.frz {o : Obj} (h : At B M a (.frz o (.tup xs))) : TyW K B M (.ref a) (.type "tuple") := fun H W => .fTuple (h.of W)
theorem TupF.ty (h : TupF B M a xs) : TyW K B M (.ref a) (.type "tuple") := by
  obtain ⟨u, ⟨o, _, rfl⟩, ha⟩ := h
  exact .frz ha
/-- monotone -/
theorem LstW.le (l : Le B M B' M') (h : LstW K B' M' a xs) : LstW K B M a xs := fun H W => h H (l H W)
theorem TupW.le (l : Le B M B' M') (h : TupW K B' M' a xs) : TupW K B M a xs := fun H W => h H (l H W)
theorem LstW.tl {c : Addr × HO} (h : LstW K B M a xs) : LstW K B (c :: M) a xs := h.le (Le.drop .refl)
theorem TupW.tl {c : Addr × HO} (h : TupW K B M a xs) : TupW K B (c :: M) a xs := h.le (Le.drop .refl)
theorem Wd.nil {H : Hp} (W : Wd B M H) : Wd B [] H := ⟨W.per, (fun _ h => nomatch h), List.nodup_nil⟩
theorem Le.nil : Le B M B [] := fun _ W => W.nil
theorem Le.app (h : Le B R B' M') : Le B (M ++ R) B' M' := by
  induction M with
  | nil => exact h
  | cons c M ih => exact Le.drop ih
theorem LstW.all (h : LstW K B [] a xs) : LstW K B M a xs := h.le .nil
theorem TupW.all (h : TupW K B [] a xs) : TupW K B M a xs := h.le .nil
theorem LstW.ex (h : LstW K B [] a xs) (e : Ex B B') : LstW K B' M a xs := fun H W => h H (Wd.less e W)
theorem TupW.ex (h : TupW K B [] a xs) (e : Ex B B') : TupW K B' M a xs := fun H W => h H (Wd.less e W)
theorem At.per_ (h : B a = some o) : At B M a o := .inl h
theorem At.here : At B ((a, o) :: M) a o := .inr (List.mem_cons_self ..)
theorem At.tail {c : Addr × HO} (h : At B M a o) : At B (c :: M) a o := h.imp id (List.mem_cons_of_mem _)
/-- an object of one's own is kept from here on -/
theorem cw_keep {sp : Sp} {E : XK} {vs : List V} (h : Ex B (upd B p o) → (upd B p o) p = some o → CW sp E vs (upd B p o) M Q) : CW sp E vs B ((p, o) :: M) Q := fun Q' k H W => h (Ex.new W.fresh) upd_same Q' k H W.keep
theorem aw_keep {ta : TA} {QL : List V → Hp → MM → Prop} (h : Ex B (upd B p o) → (upd B p o) p = some o → AW ta σ (upd B p o) M QL) : AW ta σ B ((p, o) :: M) QL := fun Q' k H W => h (Ex.new W.fresh) upd_same Q' k H W.keep
/-- what one may suppose from the frames: an own object is fresh -/
theorem sw_fresh {ts : TS} {c : Addr × HO} (hc : c ∈ M) (h : B c.1 = none → SW ts D σ B M) : SW ts D σ B M := fun D' k H W => h (W.exc _ hc).2 D' k H W
theorem ew_fresh (h : (∀ c ∈ M, B c.1 = none) → EW te σ B M Q) : EW te σ B M Q := fun D' k H W => h (fun c hc => (W.exc c hc).2) D' k H W
end
end Pap

set_option maxHeartbeats 4000000
/-! PkM: comprehensions of plain values. -/
namespace Pap
open PySem PySem.Spec L2 PyProof.Rows
section
variable {K : PySem.W.Frag} {σ : L2.St} {B B' : Hp} {M M' R : MM} {Q : KW} {te te0 : TE} {tt : TT} {g : TG} {wi : TI} {vs : List Nat} {j : Nat}
/-- the turns change nothing that is kept; t: which turns count; f: their values -/
theorem ew_lcP (h : IW wi σ B M fun J B1 M1 => ∃ n Y S, ∃ t : Nat → Bool, ∃ f : Nat → V, Runs J n Y S ∧ n ≤ sizeLine ∧ (∀ D acc, S B1 ((D, .lst acc) :: M1)) ∧
      (∀ D i x acc B' M', i < n → Y i B1 ((D, .lst acc) :: M1) x B' M' → GW g x (wipe σ vs) B' M' fun σ2 B2 M2 => wipe σ2 vs = wipe σ vs ∧ TW tt σ2 B2 M2 fun c B3 M3 => c = t i ∧ (c = false → Le B3 M3 B1 ((D, .lst acc) :: M1)) ∧
        (c = true → EW te σ2 B3 M3 fun y B4 M4 => y = f i ∧ Le B4 M4 B1 ((D, .lst acc) :: M1))) ∧
      (∀ D, Q (.ref D) B1 ((D, .lst (((List.range n).filter t).map f)) :: M1))) : EW (tLc wi g tt te vs) σ B M Q := by
  refine ew_lc fun R' k H W => h R' (fun J B1 M1 H1 W1 h1 => ?_) H W
  obtain ⟨n, Y, S, t, f, ru, hn, hS, turn, fin⟩ := h1
  refine k _ _ _ _ W1 ⟨n, Y, S, fun i acc B M => B = B1 ∧ M = M1 ∧ acc = ((List.range i).filter t).map f, ru, hn, ⟨rfl, rfl, rfl⟩, ?_, ?_, ?_⟩
  · rintro D i acc _ _ ⟨rfl, rfl, rfl⟩
    exact hS D _
  · rintro D i x acc _ _ B' M' hi hl ⟨rfl, rfl, rfl⟩ y
    refine fun Q' k' H' W' => turn D i x _ B' M' hi y Q' (fun σ2 B2 M2 H2 W2 h2 => k' _ _ _ _ W2 ⟨h2.1, fun Q2 k2 H2 W2 => h2.2 Q2 (fun c B3 M3 H3 W3 h3 => k2 _ _ _ _ W3 ⟨fun hc => ?_, fun hc => ?_⟩) H2 W2⟩) H' W'
    · refine fun Q3 k3 H3 W3 => h3.2.2 hc Q3 (fun y B4 M4 H4 W4 h4 => k3 _ _ _ _ W4 (.le h4.2 ⟨_, rfl, rfl, rfl, ?_⟩)) H3 W3
      have e : t i = true := h3.1.symm.trans hc
      rw [List.range_succ, List.filter_append, List.map_append, List.filter_cons_of_pos e, h4.1] <;> rfl
    · have e : ¬ t i = true := by rw [← h3.1, hc]; exact Bool.false_ne_true
      refine .le (h3.2.1 hc) ⟨_, rfl, rfl, rfl, ?_⟩
      rw [List.range_succ, List.filter_append, List.map_append, List.filter_cons_of_neg e] <;> simp
  · rintro D acc _ _ hl ⟨rfl, rfl, rfl⟩
    exact fin D
theorem wipe_set (v : Option V) : wipe ((wipe σ [j]).set j v) [j] = wipe σ [j] := by
  show ((σ.set j none).set j v).set j none = σ.set j none
  rw [List.set_set, List.set_set]
theorem map_range_get {α β : Type} (f : Nat → β) (F : α → β) (xs : List α) (h : ∀ i x, xs[i]? = some x → f i = F x) : (List.range xs.length).map f = xs.map F := by
  apply List.ext_getElem?
  intro i
  by_cases hi : i < xs.length
  · rw [List.getElem?_map, List.getElem?_range hi, List.getElem?_map, List.getElem?_eq_getElem hi]
    show some (f i) = some (F xs[i])
    rw [h i _ (List.getElem?_eq_getElem hi)]
  · rw [List.getElem?_eq_none (by simpa using hi), List.getElem?_eq_none (by simpa using hi)]
/-- [te for name in str] -/
theorem lc_str (h : EW te0 σ B M fun x B1 M1 => ∃ (z : Str) (F : Nat → V), x = .str z ∧ z.length ≤ sizeLine ∧ (∀ D acc c, c ∈ z.cps.toList → EW te ((wipe σ [j]).set j (some (.str ⟨#[c]⟩))) B1 ((D, .lst acc) :: M1) fun y B4 M4 => y = F c ∧ Le B4 M4 B1 ((D, .lst acc) :: M1)) ∧
      ∀ D, Q (.ref D) B1 ((D, .lst (z.cps.toList.map F)) :: M1)) : EW (tLc (iAny K te0) (gName j) tYes te [j]) σ B M Q := by
  refine ew_lcP (iw_any fun Q' k H W => h Q' (fun x B1 M1 H1 W1 h1 => k _ _ _ _ W1 ?_) H W)
  obtain ⟨z, F, rfl, hz, turn, fin⟩ := h1
  refine .inr (.inr ⟨z, rfl, _, _, _, fun _ => true, fun i => F (z.cps.toList.getD i 0), runs_str, by simpa [Str.length] using hz, fun _ _ => True.intro, ?_, fun D => ?_⟩)
  · rintro D i x acc B' M' hi ⟨⟨c, hc, rfl⟩, rfl, rfl⟩
    refine gw_name ⟨wipe_set _, tw_yes ⟨rfl, nofun, fun _ => ?_⟩⟩
    have e : z.cps.toList.getD i 0 = c := by rw [List.getD_eq_getElem?_getD, hc]; rfl
    show EW te _ _ _ fun y B4 M4 => y = F (z.cps.toList.getD i 0) ∧ _
    rw [e]
    exact turn D acc c (List.mem_of_getElem? hc)
  · have e : ((List.range z.cps.toList.length).filter fun _ => true).map (fun i => F (z.cps.toList.getD i 0)) = z.cps.toList.map F := by
      rw [List.filter_eq_self.mpr fun _ _ => rfl]
      exact map_range_get _ F _ fun i x hx => by rw [List.getD_eq_getElem?_getD, hx]; rfl
    rw [e]
    exact fin D
/-- [te for name in list or tuple], f by the item's place -/
theorem lc_seq (h : EW te0 σ B M fun x B1 M1 => ∃ (a : Addr) (xs : List V) (f : Nat → V), x = .ref a ∧ (LstW K B1 M1 a xs ∨ TupW K B1 M1 a xs) ∧ xs.length ≤ sizeLine ∧ (∀ D acc i x, xs[i]? = some x → EW te ((wipe σ [j]).set j (some x)) B1 ((D, .lst acc) :: M1) fun y B4 M4 => y = f i ∧ Le B4 M4 B1 ((D, .lst acc) :: M1)) ∧
      ∀ D, Q (.ref D) B1 ((D, .lst ((List.range xs.length).map f)) :: M1)) : EW (tLc (iAny K te0) (gName j) tYes te [j]) σ B M Q := by
  refine ew_lcP (iw_any fun Q' k H W => h Q' (fun x B1 M1 H1 W1 h1 => k _ _ _ _ W1 ?_) H W)
  obtain ⟨a, xs, f, rfl, hs, hz, turn, fin⟩ := h1
  have ef : ((List.range xs.length).filter fun _ => true) = List.range xs.length := List.filter_eq_self.mpr fun _ _ => rfl
  have T : ∀ (D : Addr) (i : Nat) (x : V) (acc : List V) (B' : Hp) (M' : MM), i < xs.length → YList xs i B1 ((D, .lst acc) :: M1) x B' M' → GW (gName j) x (wipe σ [j]) B' M' fun σ2 B2 M2 => wipe σ2 [j] = wipe σ [j] ∧ TW tYes σ2 B2 M2 fun c B3 M3 => c = (fun _ => true) i ∧ (c = false → Le B3 M3 B1 ((D, .lst acc) :: M1)) ∧
        (c = true → EW te σ2 B3 M3 fun y B4 M4 => y = f i ∧ Le B4 M4 B1 ((D, .lst acc) :: M1)) := by
    rintro D i x acc B' M' hi ⟨hx, rfl, rfl⟩
    exact gw_name ⟨wipe_set _, tw_yes ⟨rfl, nofun, fun _ => turn D acc i x hx⟩⟩
  rcases hs with hs | hs
  · exact .inl ⟨a, xs, rfl, hs, _, _, _, fun _ => true, f, runs_list, hz, fun _ _ => hs.tl, T, fun D => by rw [ef]; exact fin D⟩
  · exact .inr (.inl ⟨a, xs, rfl, hs, _, _, _, fun _ => true, f, runs_tup, hz, fun _ _ => hs.tl, T, fun D => by rw [ef]; exact fin D⟩)
theorem putF_new {f : Str} {y : V} : ∀ {fs : List (Str × V)}, fs.lookup f = none → putF f y fs = fs ++ [(f, y)]
  | [], _ => rfl
  | (g, x) :: r, h => by
    by_cases e : g = f
    · rw [List.lookup_cons, e, beq_self_eq_true] at h
      cases h
    · have e' : (f == g) = false := beq_eq_false_iff_ne.mpr fun q => e q.symm
      rw [List.lookup_cons, e'] at h
      unfold putF
      rw [if_neg e, putF_new (fs := r) h] <;> rfl
theorem sw_fldN {f : Str} {C : Addr} {D : DW} {ta tv : TE} (hc : Cls K C) (hn : NoAttr K C f) (h : EW tv σ B M fun y B1 M1 => EW ta σ B1 M1 fun x B2 M2 => ∃ a dx fs R, x = .ref a ∧ M2 = (a, .ins C dx fs) :: R ∧ fs.lookup f = none ∧ fs.length < 1000 ∧ D.nx σ B2 ((a, .ins C dx (fs ++ [(f, y)])) :: R)) :
    SW (sFld K ta tv f) D σ B M := by
  refine sw_fld hc hn fun Q' k H W => h Q' (fun y B1 M1 H1 W1 h1 => k _ _ _ _ W1 fun Q2 k2 H2 W2 => h1 Q2 (fun x B2 M2 H3 W3 h2 => ?_) H2 W2) H W
  obtain ⟨a, dx, fs, R, rfl, rfl, hl, hn', q⟩ := h2
  exact k2 _ _ _ _ W3 ⟨a, dx, fs, R, _, rfl, Sel.one _ _ _, hn', by rw [putF_new hl]; exact q⟩
end
end Pap

set_option maxHeartbeats 0
namespace PT
open PySem PySem.Spec PyProof.Rows L2
def top (i : Nat) : Stmt := PySem.Challenge.pw_paperkin_k42_copies_compared.main.body.getD i (.Pass ⟨0, 0, 0, 0⟩)
abbrev s_BadPaperX_initX : Stmt := inClass (top 3) 0
def d_BadPaperX_initX : He.DefD := ⟨("BadPaper", some "__init__"), "__init__", "BadPaper.__init__", defArgs s_BadPaperX_initX, defBody s_BadPaperX_initX, defScope s_BadPaperX_initX, [], []⟩
abbrev s_BadQuestionX_initX : Stmt := inClass (top 4) 0
def d_BadQuestionX_initX : He.DefD := ⟨("BadQuestion", some "__init__"), "__init__", "BadQuestion.__init__", defArgs s_BadQuestionX_initX, defBody s_BadQuestionX_initX, defScope s_BadQuestionX_initX, [], []⟩
abbrev s_BadQuestionX_strX : Stmt := inClass (top 4) 1
def d_BadQuestionX_strX : He.DefD := ⟨("BadQuestion", some "__str__"), "__str__", "BadQuestion.__str__", defArgs s_BadQuestionX_strX, defBody s_BadQuestionX_strX, defScope s_BadQuestionX_strX, [], []⟩
abbrev s_NoSuchX_initX : Stmt := inClass (top 5) 0
def d_NoSuchX_initX : He.DefD := ⟨("NoSuch", some "__init__"), "__init__", "NoSuch.__init__", defArgs s_NoSuchX_initX, defBody s_NoSuchX_initX, defScope s_NoSuchX_initX, [], []⟩
abbrev s_NoSuchX_strX : Stmt := inClass (top 5) 1
def d_NoSuchX_strX : He.DefD := ⟨("NoSuch", some "__str__"), "__str__", "NoSuch.__str__", defArgs s_NoSuchX_strX, defBody s_NoSuchX_strX, defScope s_NoSuchX_strX, [], []⟩
abbrev s_NoPlaceX_initX : Stmt := inClass (top 6) 0
def d_NoPlaceX_initX : He.DefD := ⟨("NoPlace", some "__init__"), "__init__", "NoPlace.__init__", defArgs s_NoPlaceX_initX, defBody s_NoPlaceX_initX, defScope s_NoPlaceX_initX, [], []⟩
abbrev s_TooManyX_initX : Stmt := inClass (top 7) 0
def d_TooManyX_initX : He.DefD := ⟨("TooMany", some "__init__"), "__init__", "TooMany.__init__", defArgs s_TooManyX_initX, defBody s_TooManyX_initX, defScope s_TooManyX_initX, [], []⟩
abbrev s_TooManyX_strX : Stmt := inClass (top 7) 1
def d_TooManyX_strX : He.DefD := ⟨("TooMany", some "__str__"), "__str__", "TooMany.__str__", defArgs s_TooManyX_strX, defBody s_TooManyX_strX, defScope s_TooManyX_strX, [], []⟩
abbrev s_BadKindX_initX : Stmt := inClass (top 8) 0
def d_BadKindX_initX : He.DefD := ⟨("BadKind", some "__init__"), "__init__", "BadKind.__init__", defArgs s_BadKindX_initX, defBody s_BadKindX_initX, defScope s_BadKindX_initX, [], []⟩
abbrev s_TwiceX_initX : Stmt := inClass (top 9) 0
def d_TwiceX_initX : He.DefD := ⟨("Twice", some "__init__"), "__init__", "Twice.__init__", defArgs s_TwiceX_initX, defBody s_TwiceX_initX, defScope s_TwiceX_initX, [], []⟩
abbrev s_is_whole : Stmt := top 15
def d_is_whole : He.DefD := ⟨("is_whole", none), "is_whole", "is_whole", defArgs s_is_whole, defBody s_is_whole, defScope s_is_whole, [.int (0), .int (9999)], []⟩
abbrev s_is_number : Stmt := top 16
def d_is_number : He.DefD := ⟨("is_number", none), "is_number", "is_number", defArgs s_is_number, defBody s_is_number, defScope s_is_number, [], []⟩
abbrev s_is_name : Stmt := top 17
def d_is_name : He.DefD := ⟨("is_name", none), "is_name", "is_name", defArgs s_is_name, defBody s_is_name, defScope s_is_name, [], []⟩
abbrev s_is_text : Stmt := top 18
def d_is_text : He.DefD := ⟨("is_text", none), "is_text", "is_text", defArgs s_is_text, defBody s_is_text, defScope s_is_text, [], []⟩
abbrev s_need_day : Stmt := top 19
def d_need_day : He.DefD := ⟨("need_day", none), "need_day", "need_day", defArgs s_need_day, defBody s_need_day, defScope s_need_day, [], []⟩
abbrev s_are_answers : Stmt := top 24
def d_are_answers : He.DefD := ⟨("are_answers", none), "are_answers", "are_answers", defArgs s_are_answers, defBody s_are_answers, defScope s_are_answers, [], []⟩
abbrev s_is_of : Stmt := top 25
def d_is_of : He.DefD := ⟨("is_of", none), "is_of", "is_of", defArgs s_is_of, defBody s_is_of, defScope s_is_of, [], []⟩
abbrev s_QuestionX_initX : Stmt := inClass (top 26) 0
def d_QuestionX_initX : He.DefD := ⟨("Question", some "__init__"), "__init__", "Question.__init__", defArgs s_QuestionX_initX, defBody s_QuestionX_initX, defScope s_QuestionX_initX, [.int (0), .int (5), .int (1), .str ""], []⟩
abbrev s_Question_parts : Stmt := inClass (top 26) 1
def d_Question_parts : He.DefD := ⟨("Question", some "parts"), "parts", "Question.parts", defArgs s_Question_parts, defBody s_Question_parts, defScope s_Question_parts, [], []⟩
abbrev s_QuestionX_eqX : Stmt := inClass (top 26) 2
def d_QuestionX_eqX : He.DefD := ⟨("Question", some "__eq__"), "__eq__", "Question.__eq__", defArgs s_QuestionX_eqX, defBody s_QuestionX_eqX, defScope s_QuestionX_eqX, [], []⟩
abbrev s_QuestionX_lenX : Stmt := inClass (top 26) 3
def d_QuestionX_lenX : He.DefD := ⟨("Question", some "__len__"), "__len__", "Question.__len__", defArgs s_QuestionX_lenX, defBody s_QuestionX_lenX, defScope s_QuestionX_lenX, [], []⟩
abbrev s_QuestionX_reprX : Stmt := inClass (top 26) 4
def d_QuestionX_reprX : He.DefD := ⟨("Question", some "__repr__"), "__repr__", "Question.__repr__", defArgs s_QuestionX_reprX, defBody s_QuestionX_reprX, defScope s_QuestionX_reprX, [], []⟩
abbrev s_QuestionX_strX : Stmt := inClass (top 26) 5
def d_QuestionX_strX : He.DefD := ⟨("Question", some "__str__"), "__str__", "Question.__str__", defArgs s_QuestionX_strX, defBody s_QuestionX_strX, defScope s_QuestionX_strX, [], []⟩
abbrev s_Question_turned : Stmt := inClass (top 26) 7
def d_Question_turned : He.DefD := ⟨("Question", some "turned"), "turned", "Question.turned", defArgs s_Question_turned, defBody s_Question_turned, defScope s_Question_turned, [], []⟩
abbrev s_need_question : Stmt := top 27
def d_need_question : He.DefD := ⟨("need_question", none), "need_question", "need_question", defArgs s_need_question, defBody s_need_question, defScope s_need_question, [], []⟩
abbrev s_BankX_initX : Stmt := inClass (top 30) 0
def d_BankX_initX : He.DefD := ⟨("Bank", some "__init__"), "__init__", "Bank.__init__", defArgs s_BankX_initX, defBody s_BankX_initX, defScope s_BankX_initX, [.non], []⟩
abbrev s_Bank_need_there : Stmt := inClass (top 30) 1
def d_Bank_need_there : He.DefD := ⟨("Bank", some "need_there"), "need_there", "Bank.need_there", defArgs s_Bank_need_there, defBody s_Bank_need_there, defScope s_Bank_need_there, [], []⟩
abbrev s_Bank_added : Stmt := inClass (top 30) 2
def d_Bank_added : He.DefD := ⟨("Bank", some "added"), "added", "Bank.added", defArgs s_Bank_added, defBody s_Bank_added, defScope s_Bank_added, [], []⟩
abbrev s_Bank_names : Stmt := inClass (top 30) 9
def d_Bank_names : He.DefD := ⟨("Bank", some "names"), "names", "Bank.names", defArgs s_Bank_names, defBody s_Bank_names, defScope s_Bank_names, [], []⟩
abbrev s_Bank_names_in : Stmt := inClass (top 30) 10
def d_Bank_names_in : He.DefD := ⟨("Bank", some "names_in"), "names_in", "Bank.names_in", defArgs s_Bank_names_in, defBody s_Bank_names_in, defScope s_Bank_names_in, [], []⟩
abbrev s_Bank_question : Stmt := inClass (top 30) 12
def d_Bank_question : He.DefD := ⟨("Bank", some "question"), "question", "Bank.question", defArgs s_Bank_question, defBody s_Bank_question, defScope s_Bank_question, [], []⟩
abbrev s_Bank_last_day : Stmt := inClass (top 30) 14
def d_Bank_last_day : He.DefD := ⟨("Bank", some "last_day"), "last_day", "Bank.last_day", defArgs s_Bank_last_day, defBody s_Bank_last_day, defScope s_Bank_last_day, [.int (9999)], []⟩
abbrev s_Bank_rests : Stmt := inClass (top 30) 16
def d_Bank_rests : He.DefD := ⟨("Bank", some "rests"), "rests", "Bank.rests", defArgs s_Bank_rests, defBody s_Bank_rests, defScope s_Bank_rests, [], []⟩
abbrev s_Bank_found : Stmt := inClass (top 30) 17
def d_Bank_found : He.DefD := ⟨("Bank", some "found"), "found", "Bank.found", defArgs s_Bank_found, defBody s_Bank_found, defScope s_Bank_found, [.str "", .int (1), .int (9), .str "", .non, .int (0)], []⟩
abbrev s_Bank_standing : Stmt := inClass (top 30) 18
def d_Bank_standing : He.DefD := ⟨("Bank", some "standing"), "standing", "Bank.standing", defArgs s_Bank_standing, defBody s_Bank_standing, defScope s_Bank_standing, [], []⟩
abbrev s_BankX_eqX : Stmt := inClass (top 30) 20
def d_BankX_eqX : He.DefD := ⟨("Bank", some "__eq__"), "__eq__", "Bank.__eq__", defArgs s_BankX_eqX, defBody s_BankX_eqX, defScope s_BankX_eqX, [], []⟩
abbrev s_BankX_lenX : Stmt := inClass (top 30) 21
def d_BankX_lenX : He.DefD := ⟨("Bank", some "__len__"), "__len__", "Bank.__len__", defArgs s_BankX_lenX, defBody s_BankX_lenX, defScope s_BankX_lenX, [], []⟩
abbrev s_need_bank : Stmt := top 31
def d_need_bank : He.DefD := ⟨("need_bank", none), "need_bank", "need_bank", defArgs s_need_bank, defBody s_need_bank, defScope s_need_bank, [], []⟩
abbrev s_is_paper : Stmt := top 34
def d_is_paper : He.DefD := ⟨("is_paper", none), "is_paper", "is_paper", defArgs s_is_paper, defBody s_is_paper, defScope s_is_paper, [], []⟩
abbrev s_need_paper : Stmt := top 35
def d_need_paper : He.DefD := ⟨("need_paper", none), "need_paper", "need_paper", defArgs s_need_paper, defBody s_need_paper, defScope s_need_paper, [], []⟩
abbrev s_need_ready : Stmt := top 36
def d_need_ready : He.DefD := ⟨("need_ready", none), "need_ready", "need_ready", defArgs s_need_ready, defBody s_need_ready, defScope s_need_ready, [], []⟩
abbrev s_questions_of : Stmt := top 37
def d_questions_of : He.DefD := ⟨("questions_of", none), "questions_of", "questions_of", defArgs s_questions_of, defBody s_questions_of, defScope s_questions_of, [], []⟩
abbrev s_CopyX_initX : Stmt := inClass (top 40) 0
def d_CopyX_initX : He.DefD := ⟨("Copy", some "__init__"), "__init__", "Copy.__init__", defArgs s_CopyX_initX, defBody s_CopyX_initX, defScope s_CopyX_initX, [.int (0)], []⟩
abbrev s_Copy_copy_by : Stmt := inClass (top 40) 1
def d_Copy_copy_by : He.DefD := ⟨("Copy", some "copy_by"), "copy_by", "Copy.copy_by", defArgs s_Copy_copy_by, defBody s_Copy_copy_by, defScope s_Copy_copy_by, [], []⟩
abbrev s_Copy_need_place : Stmt := inClass (top 40) 2
def d_Copy_need_place : He.DefD := ⟨("Copy", some "need_place"), "need_place", "Copy.need_place", defArgs s_Copy_need_place, defBody s_Copy_need_place, defScope s_Copy_need_place, [], []⟩
abbrev s_Copy_origin : Stmt := inClass (top 40) 3
def d_Copy_origin : He.DefD := ⟨("Copy", some "origin"), "origin", "Copy.origin", defArgs s_Copy_origin, defBody s_Copy_origin, defScope s_Copy_origin, [], []⟩
abbrev s_Copy_question_at : Stmt := inClass (top 40) 4
def d_Copy_question_at : He.DefD := ⟨("Copy", some "question_at"), "question_at", "Copy.question_at", defArgs s_Copy_question_at, defBody s_Copy_question_at, defScope s_Copy_question_at, [], []⟩
abbrev s_Copy_told_names : Stmt := inClass (top 40) 5
def d_Copy_told_names : He.DefD := ⟨("Copy", some "told_names"), "told_names", "Copy.told_names", defArgs s_Copy_told_names, defBody s_Copy_told_names, defScope s_Copy_told_names, [], []⟩
abbrev s_Copy_gone_on : Stmt := inClass (top 40) 7
def d_Copy_gone_on : He.DefD := ⟨("Copy", some "gone_on"), "gone_on", "Copy.gone_on", defArgs s_Copy_gone_on, defBody s_Copy_gone_on, defScope s_Copy_gone_on, [.int (1)], []⟩
abbrev s_Copy_first_one : Stmt := inClass (top 40) 8
def d_Copy_first_one : He.DefD := ⟨("Copy", some "first_one"), "first_one", "Copy.first_one", defArgs s_Copy_first_one, defBody s_Copy_first_one, defScope s_Copy_first_one, [], []⟩
abbrev s_CopyX_eqX : Stmt := inClass (top 40) 9
def d_CopyX_eqX : He.DefD := ⟨("Copy", some "__eq__"), "__eq__", "Copy.__eq__", defArgs s_CopyX_eqX, defBody s_CopyX_eqX, defScope s_CopyX_eqX, [], []⟩
abbrev s_CopyX_lenX : Stmt := inClass (top 40) 10
def d_CopyX_lenX : He.DefD := ⟨("Copy", some "__len__"), "__len__", "Copy.__len__", defArgs s_CopyX_lenX, defBody s_CopyX_lenX, defScope s_CopyX_lenX, [], []⟩
abbrev s_CopyX_strX : Stmt := inClass (top 40) 11
def d_CopyX_strX : He.DefD := ⟨("Copy", some "__str__"), "__str__", "Copy.__str__", defArgs s_CopyX_strX, defBody s_CopyX_strX, defScope s_CopyX_strX, [], []⟩
abbrev s_CopyX_reprX : Stmt := inClass (top 40) 12
def d_CopyX_reprX : He.DefD := ⟨("Copy", some "__repr__"), "__repr__", "Copy.__repr__", defArgs s_CopyX_reprX, defBody s_CopyX_reprX, defScope s_CopyX_reprX, [], []⟩
abbrev s_need_copy : Stmt := top 41
def d_need_copy : He.DefD := ⟨("need_copy", none), "need_copy", "need_copy", defArgs s_need_copy, defBody s_need_copy, defScope s_need_copy, [], []⟩
abbrev s_shared_divisor : Stmt := top 42
def d_shared_divisor : He.DefD := ⟨("shared_divisor", none), "shared_divisor", "shared_divisor", defArgs s_shared_divisor, defBody s_shared_divisor, defScope s_shared_divisor, [], []⟩
abbrev s_round_length : Stmt := top 43
def d_round_length : He.DefD := ⟨("round_length", none), "round_length", "round_length", defArgs s_round_length, defBody s_round_length, defScope s_round_length, [], []⟩
abbrev s_law_begun : Stmt := top 45
def d_law_begun : He.DefD := ⟨("_law_begun", none), "_law_begun", "_law_begun", defArgs s_law_begun, defBody s_law_begun, defScope s_law_begun, [], []⟩
abbrev s_law_draw : Stmt := top 46
def d_law_draw : He.DefD := ⟨("_law_draw", none), "_law_draw", "_law_draw", defArgs s_law_draw, defBody s_law_draw, defScope s_law_draw, [], []⟩
abbrev s_law_of : Stmt := top 47
def d_law_of : He.DefD := ⟨("_law_of", none), "_law_of", "_law_of", defArgs s_law_of, defBody s_law_of, defScope s_law_of, [], []⟩
abbrev s_law_names : Stmt := top 48
def d_law_names : He.DefD := ⟨("_law_names", none), "_law_names", "_law_names", defArgs s_law_names, defBody s_law_names, defScope s_law_names, [], []⟩
abbrev s_law_answers : Stmt := top 49
def d_law_answers : He.DefD := ⟨("_law_answers", none), "_law_answers", "_law_answers", defArgs s_law_answers, defBody s_law_answers, defScope s_law_answers, [], []⟩
abbrev s_law_rows : Stmt := top 50
def d_law_rows : He.DefD := ⟨("_law_rows", none), "_law_rows", "_law_rows", defArgs s_law_rows, defBody s_law_rows, defScope s_law_rows, [], []⟩
abbrev s_law_asked : Stmt := top 51
def d_law_asked : He.DefD := ⟨("_law_asked", none), "_law_asked", "_law_asked", defArgs s_law_asked, defBody s_law_asked, defScope s_law_asked, [], []⟩
abbrev s_law_bank : Stmt := top 52
def d_law_bank : He.DefD := ⟨("_law_bank", none), "_law_bank", "_law_bank", defArgs s_law_bank, defBody s_law_bank, defScope s_law_bank, [], []⟩
abbrev s_law_paper : Stmt := top 53
def d_law_paper : He.DefD := ⟨("_law_paper", none), "_law_paper", "_law_paper", defArgs s_law_paper, defBody s_law_paper, defScope s_law_paper, [], []⟩
abbrev s_law_by : Stmt := top 54
def d_law_by : He.DefD := ⟨("_law_by", none), "_law_by", "_law_by", defArgs s_law_by, defBody s_law_by, defScope s_law_by, [], []⟩
abbrev s_law_row_at : Stmt := top 55
def d_law_row_at : He.DefD := ⟨("_law_row_at", none), "_law_row_at", "_law_row_at", defArgs s_law_row_at, defBody s_law_row_at, defScope s_law_row_at, [], []⟩
abbrev s_law_size : Stmt := top 56
def d_law_size : He.DefD := ⟨("_law_size", none), "_law_size", "_law_size", defArgs s_law_size, defBody s_law_size, defScope s_law_size, [], []⟩
abbrev s_law_number : Stmt := top 57
def d_law_number : He.DefD := ⟨("_law_number", none), "_law_number", "_law_number", defArgs s_law_number, defBody s_law_number, defScope s_law_number, [], []⟩
abbrev s_law_all : Stmt := top 58
def d_law_all : He.DefD := ⟨("_law_all", none), "_law_all", "_law_all", defArgs s_law_all, defBody s_law_all, defScope s_law_all, [], []⟩
abbrev s_law_otherwise : Stmt := top 59
def d_law_otherwise : He.DefD := ⟨("_law_otherwise", none), "_law_otherwise", "_law_otherwise", defArgs s_law_otherwise, defBody s_law_otherwise, defScope s_law_otherwise, [], []⟩
abbrev s_law_round : Stmt := top 60
def d_law_round : He.DefD := ⟨("_law_round", none), "_law_round", "_law_round", defArgs s_law_round, defBody s_law_round, defScope s_law_round, [], []⟩
abbrev s_law_forty_right : Stmt := top 61
def d_law_forty_right : He.DefD := ⟨("_law_forty_right", none), "_law_forty_right", "_law_forty_right", defArgs s_law_forty_right, defBody s_law_forty_right, defScope s_law_forty_right, [], []⟩
abbrev s_law_like : Stmt := top 62
def d_law_like : He.DefD := ⟨("_law_like", none), "_law_like", "_law_like", defArgs s_law_like, defBody s_law_like, defScope s_law_like, [], []⟩
abbrev s_law : Stmt := top 63
def d_law : He.DefD := ⟨("law", none), "law", "law", defArgs s_law, defBody s_law, defScope s_law, [], []⟩
def fn : List He.DefD := [d_BadPaperX_initX, d_BadQuestionX_initX, d_BadQuestionX_strX, d_NoSuchX_initX, d_NoSuchX_strX, d_NoPlaceX_initX, d_TooManyX_initX, d_TooManyX_strX, d_BadKindX_initX, d_TwiceX_initX, d_is_whole, d_is_number, d_is_name, d_is_text, d_need_day, d_are_answers, d_is_of, d_QuestionX_initX, d_Question_parts, d_QuestionX_eqX, d_QuestionX_lenX, d_QuestionX_reprX, d_QuestionX_strX, d_Question_turned, d_need_question, d_BankX_initX, d_Bank_need_there, d_Bank_added, d_Bank_names, d_Bank_names_in, d_Bank_question, d_Bank_last_day, d_Bank_rests, d_Bank_found, d_Bank_standing, d_BankX_eqX, d_BankX_lenX, d_need_bank, d_is_paper, d_need_paper, d_need_ready, d_questions_of, d_CopyX_initX, d_Copy_copy_by, d_Copy_need_place, d_Copy_origin, d_Copy_question_at, d_Copy_told_names, d_Copy_gone_on, d_Copy_first_one, d_CopyX_eqX, d_CopyX_lenX, d_CopyX_strX, d_CopyX_reprX, d_need_copy, d_shared_divisor, d_round_length, d_law_begun, d_law_draw, d_law_of, d_law_names, d_law_answers, d_law_rows, d_law_asked, d_law_bank, d_law_paper, d_law_by, d_law_row_at, d_law_size, d_law_number, d_law_all, d_law_otherwise, d_law_round, d_law_forty_right, d_law_like, d_law]
def fa : List He.Fa := [.glo "is_whole",
  .glo "is_number",
  .glo "is_name",
  .glo "is_text",
  .glo "need_day",
  .glo "are_answers",
  .glo "is_of",
  .glo "need_question",
  .glo "need_bank",
  .glo "is_paper",
  .glo "need_paper",
  .glo "need_ready",
  .glo "questions_of",
  .glo "need_copy",
  .glo "shared_divisor",
  .glo "round_length",
  .glo "_law_begun",
  .glo "_law_draw",
  .glo "_law_of",
  .glo "_law_names",
  .glo "_law_answers",
  .glo "_law_rows",
  .glo "_law_asked",
  .glo "_law_bank",
  .glo "_law_paper",
  .glo "_law_by",
  .glo "_law_row_at",
  .glo "_law_size",
  .glo "_law_number",
  .glo "_law_all",
  .glo "_law_otherwise",
  .glo "_law_round",
  .glo "_law_forty_right",
  .glo "_law_like",
  .glo "law",
  .glo "BankError",
  .glo "BadPaper",
  .glo "BadQuestion",
  .glo "NoSuch",
  .glo "NoPlace",
  .glo "TooMany",
  .glo "BadKind",
  .glo "Twice",
  .glo "Question",
  .glo "Bank",
  .glo "Copy",
  .str "LETTERS" "abcdefghijklmnopqrstuvwxyz",
  .str "SIGNS" " !\"#$&'()*+,-./0123456789:;<=>?@ABCDEFGHIJKLMNOPQRSTUVWXYZ[\\]^_`abcdefghijklmnopqrstuvwxyz{|}~",
  .int "LONGEST_NAME" 8,
  .int "LONGEST_TEXT" 30,
  .int "FEWEST" 2,
  .int "MOST" 6,
  .int "TOP" 9,
  .int "MOST_QUESTIONS" 60,
  .int "MOST_NAMES" 40,
  .int "LAST_NUMBER" 999,
  .free "Exception",
  .free "IndexError",
  .free "KeyError",
  .free "OverflowError",
  .free "RuntimeError",
  .free "TypeError",
  .free "ValueError",
  .free "all",
  .free "bool",
  .free "enumerate",
  .free "int",
  .free "isinstance",
  .free "len",
  .free "list",
  .free "max",
  .free "range",
  .free "repr",
  .free "sorted",
  .free "str",
  .free "tuple",
  .free "zip",
  .cls "Question",
  .mkr "Question",
  .noat "Question" "answers",
  .noat "Question" "kin",
  .noat "Question" "marks",
  .noat "Question" "matter",
  .noat "Question" "name",
  .noat "Question" "right",
  .noat "Question" "toil",
  .meth "Question" "parts",
  .meth "Question" "__eq__",
  .meth "Question" "__len__",
  .meth "Question" "__repr__",
  .meth "Question" "__str__",
  .meth "Question" "answer",
  .meth "Question" "turned",
  .meth "Question" "changed",
  .meth "Question" "is_kin",
  .cls "Bank",
  .mkr "Bank",
  .noat "Bank" "days_here",
  .noat "Bank" "kept_here",
  .noat "Bank" "out_here",
  .meth "Bank" "need_there",
  .meth "Bank" "added",
  .meth "Bank" "put",
  .meth "Bank" "taken_out",
  .meth "Bank" "put_back",
  .meth "Bank" "dropped",
  .meth "Bank" "used_on",
  .meth "Bank" "unused_on",
  .meth "Bank" "names",
  .meth "Bank" "names_in",
  .meth "Bank" "outs",
  .meth "Bank" "question",
  .meth "Bank" "days_of",
  .meth "Bank" "last_day",
  .meth "Bank" "matters",
  .meth "Bank" "rests",
  .meth "Bank" "found",
  .meth "Bank" "standing",
  .meth "Bank" "twin",
  .meth "Bank" "__eq__",
  .meth "Bank" "__len__",
  .cls "Copy",
  .mkr "Copy",
  .noat "Copy" "laid_out",
  .noat "Copy" "number",
  .meth "Copy" "copy_by",
  .meth "Copy" "need_place",
  .meth "Copy" "origin",
  .meth "Copy" "question_at",
  .meth "Copy" "told_names",
  .meth "Copy" "place_of",
  .meth "Copy" "gone_on",
  .meth "Copy" "first_one",
  .meth "Copy" "__eq__",
  .meth "Copy" "__len__",
  .meth "Copy" "__str__",
  .meth "Copy" "__repr__"]
def exs (K : PySem.W.Frag) : List Bool := [He.eqO (PySem.W.findIn K (.ref (He.ga K "Question")) "__class__") (some (some (.builtin "object.__class__"))),
  decide (PySem.W.mroIn K (He.ga K "Question") (.type "object") = some true),
  He.eqO (PySem.W.findIn K (.ref (He.ga K "Question")) "__ne__") (some (some (.builtin "object.__ne__"))),
  decide (PySem.W.mroIn K (He.ga K "Question") (.type "NoneType") = some false),
  decide (PySem.W.kitOne K (.type "NoneType") (.ref (He.ga K "Question")) = some false),
  decide (PySem.W.kitOne K (.ref (He.ga K "Question")) (.type "NoneType") = some false),
  PySem.W.notFirst K (He.ga K "Question") (.type "NoneType"),
  decide (PySem.W.mroIn K (He.ga K "Question") (.type "bool") = some false),
  decide (PySem.W.kitOne K (.type "bool") (.ref (He.ga K "Question")) = some false),
  decide (PySem.W.kitOne K (.ref (He.ga K "Question")) (.type "bool") = some false),
  PySem.W.notFirst K (He.ga K "Question") (.type "bool"),
  decide (PySem.W.mroIn K (He.ga K "Question") (.type "int") = some false),
  decide (PySem.W.kitOne K (.type "int") (.ref (He.ga K "Question")) = some false),
  decide (PySem.W.kitOne K (.ref (He.ga K "Question")) (.type "int") = some false),
  PySem.W.notFirst K (He.ga K "Question") (.type "int"),
  decide (PySem.W.mroIn K (He.ga K "Question") (.type "str") = some false),
  decide (PySem.W.kitOne K (.type "str") (.ref (He.ga K "Question")) = some false),
  decide (PySem.W.kitOne K (.ref (He.ga K "Question")) (.type "str") = some false),
  PySem.W.notFirst K (He.ga K "Question") (.type "str"),
  decide (PySem.W.mroIn K (He.ga K "Question") (.type "list") = some false),
  decide (PySem.W.kitOne K (.type "list") (.ref (He.ga K "Question")) = some false),
  decide (PySem.W.kitOne K (.ref (He.ga K "Question")) (.type "list") = some false),
  PySem.W.notFirst K (He.ga K "Question") (.type "list"),
  decide (PySem.W.mroIn K (He.ga K "Question") (.type "tuple") = some false),
  decide (PySem.W.kitOne K (.type "tuple") (.ref (He.ga K "Question")) = some false),
  decide (PySem.W.kitOne K (.ref (He.ga K "Question")) (.type "tuple") = some false),
  PySem.W.notFirst K (He.ga K "Question") (.type "tuple"),
  decide (PySem.W.mroIn K (He.ga K "Question") (.type "dict") = some false),
  decide (PySem.W.kitOne K (.type "dict") (.ref (He.ga K "Question")) = some false),
  decide (PySem.W.kitOne K (.ref (He.ga K "Question")) (.type "dict") = some false),
  PySem.W.notFirst K (He.ga K "Question") (.type "dict"),
  decide (PySem.W.kitOne K (.ref (He.ga K "Question")) (.ref (He.ga K "Question")) = some true),
  PySem.W.notFirst K (He.ga K "Question") (.ref (He.ga K "Question")),
  decide (PySem.W.kitOne K (.ref (He.ga K "Bank")) (.ref (He.ga K "Question")) = some false),
  PySem.W.notFirst K (He.ga K "Question") (.ref (He.ga K "Bank")),
  decide (PySem.W.kitOne K (.ref (He.ga K "Copy")) (.ref (He.ga K "Question")) = some false),
  PySem.W.notFirst K (He.ga K "Question") (.ref (He.ga K "Copy")),
  He.eqO (PySem.W.findIn K (.ref (He.ga K "Bank")) "__class__") (some (some (.builtin "object.__class__"))),
  decide (PySem.W.mroIn K (He.ga K "Bank") (.type "object") = some true),
  He.eqO (PySem.W.findIn K (.ref (He.ga K "Bank")) "__ne__") (some (some (.builtin "object.__ne__"))),
  decide (PySem.W.mroIn K (He.ga K "Bank") (.type "NoneType") = some false),
  decide (PySem.W.kitOne K (.type "NoneType") (.ref (He.ga K "Bank")) = some false),
  decide (PySem.W.kitOne K (.ref (He.ga K "Bank")) (.type "NoneType") = some false),
  PySem.W.notFirst K (He.ga K "Bank") (.type "NoneType"),
  decide (PySem.W.mroIn K (He.ga K "Bank") (.type "bool") = some false),
  decide (PySem.W.kitOne K (.type "bool") (.ref (He.ga K "Bank")) = some false),
  decide (PySem.W.kitOne K (.ref (He.ga K "Bank")) (.type "bool") = some false),
  PySem.W.notFirst K (He.ga K "Bank") (.type "bool"),
  decide (PySem.W.mroIn K (He.ga K "Bank") (.type "int") = some false),
  decide (PySem.W.kitOne K (.type "int") (.ref (He.ga K "Bank")) = some false),
  decide (PySem.W.kitOne K (.ref (He.ga K "Bank")) (.type "int") = some false),
  PySem.W.notFirst K (He.ga K "Bank") (.type "int"),
  decide (PySem.W.mroIn K (He.ga K "Bank") (.type "str") = some false),
  decide (PySem.W.kitOne K (.type "str") (.ref (He.ga K "Bank")) = some false),
  decide (PySem.W.kitOne K (.ref (He.ga K "Bank")) (.type "str") = some false),
  PySem.W.notFirst K (He.ga K "Bank") (.type "str"),
  decide (PySem.W.mroIn K (He.ga K "Bank") (.type "list") = some false),
  decide (PySem.W.kitOne K (.type "list") (.ref (He.ga K "Bank")) = some false),
  decide (PySem.W.kitOne K (.ref (He.ga K "Bank")) (.type "list") = some false),
  PySem.W.notFirst K (He.ga K "Bank") (.type "list"),
  decide (PySem.W.mroIn K (He.ga K "Bank") (.type "tuple") = some false),
  decide (PySem.W.kitOne K (.type "tuple") (.ref (He.ga K "Bank")) = some false),
  decide (PySem.W.kitOne K (.ref (He.ga K "Bank")) (.type "tuple") = some false),
  PySem.W.notFirst K (He.ga K "Bank") (.type "tuple"),
  decide (PySem.W.mroIn K (He.ga K "Bank") (.type "dict") = some false),
  decide (PySem.W.kitOne K (.type "dict") (.ref (He.ga K "Bank")) = some false),
  decide (PySem.W.kitOne K (.ref (He.ga K "Bank")) (.type "dict") = some false),
  PySem.W.notFirst K (He.ga K "Bank") (.type "dict"),
  decide (PySem.W.kitOne K (.ref (He.ga K "Question")) (.ref (He.ga K "Bank")) = some false),
  PySem.W.notFirst K (He.ga K "Bank") (.ref (He.ga K "Question")),
  decide (PySem.W.kitOne K (.ref (He.ga K "Bank")) (.ref (He.ga K "Bank")) = some true),
  PySem.W.notFirst K (He.ga K "Bank") (.ref (He.ga K "Bank")),
  decide (PySem.W.kitOne K (.ref (He.ga K "Copy")) (.ref (He.ga K "Bank")) = some false),
  PySem.W.notFirst K (He.ga K "Bank") (.ref (He.ga K "Copy")),
  He.eqO (PySem.W.findIn K (.ref (He.ga K "Copy")) "__class__") (some (some (.builtin "object.__class__"))),
  decide (PySem.W.mroIn K (He.ga K "Copy") (.type "object") = some true),
  He.eqO (PySem.W.findIn K (.ref (He.ga K "Copy")) "__ne__") (some (some (.builtin "object.__ne__"))),
  decide (PySem.W.mroIn K (He.ga K "Copy") (.type "NoneType") = some false),
  decide (PySem.W.kitOne K (.type "NoneType") (.ref (He.ga K "Copy")) = some false),
  decide (PySem.W.kitOne K (.ref (He.ga K "Copy")) (.type "NoneType") = some false),
  PySem.W.notFirst K (He.ga K "Copy") (.type "NoneType"),
  decide (PySem.W.mroIn K (He.ga K "Copy") (.type "bool") = some false),
  decide (PySem.W.kitOne K (.type "bool") (.ref (He.ga K "Copy")) = some false),
  decide (PySem.W.kitOne K (.ref (He.ga K "Copy")) (.type "bool") = some false),
  PySem.W.notFirst K (He.ga K "Copy") (.type "bool"),
  decide (PySem.W.mroIn K (He.ga K "Copy") (.type "int") = some false),
  decide (PySem.W.kitOne K (.type "int") (.ref (He.ga K "Copy")) = some false),
  decide (PySem.W.kitOne K (.ref (He.ga K "Copy")) (.type "int") = some false),
  PySem.W.notFirst K (He.ga K "Copy") (.type "int"),
  decide (PySem.W.mroIn K (He.ga K "Copy") (.type "str") = some false),
  decide (PySem.W.kitOne K (.type "str") (.ref (He.ga K "Copy")) = some false),
  decide (PySem.W.kitOne K (.ref (He.ga K "Copy")) (.type "str") = some false),
  PySem.W.notFirst K (He.ga K "Copy") (.type "str"),
  decide (PySem.W.mroIn K (He.ga K "Copy") (.type "list") = some false),
  decide (PySem.W.kitOne K (.type "list") (.ref (He.ga K "Copy")) = some false),
  decide (PySem.W.kitOne K (.ref (He.ga K "Copy")) (.type "list") = some false),
  PySem.W.notFirst K (He.ga K "Copy") (.type "list"),
  decide (PySem.W.mroIn K (He.ga K "Copy") (.type "tuple") = some false),
  decide (PySem.W.kitOne K (.type "tuple") (.ref (He.ga K "Copy")) = some false),
  decide (PySem.W.kitOne K (.ref (He.ga K "Copy")) (.type "tuple") = some false),
  PySem.W.notFirst K (He.ga K "Copy") (.type "tuple"),
  decide (PySem.W.mroIn K (He.ga K "Copy") (.type "dict") = some false),
  decide (PySem.W.kitOne K (.type "dict") (.ref (He.ga K "Copy")) = some false),
  decide (PySem.W.kitOne K (.ref (He.ga K "Copy")) (.type "dict") = some false),
  PySem.W.notFirst K (He.ga K "Copy") (.type "dict"),
  decide (PySem.W.kitOne K (.ref (He.ga K "Question")) (.ref (He.ga K "Copy")) = some false),
  PySem.W.notFirst K (He.ga K "Copy") (.ref (He.ga K "Question")),
  decide (PySem.W.kitOne K (.ref (He.ga K "Bank")) (.ref (He.ga K "Copy")) = some false),
  PySem.W.notFirst K (He.ga K "Copy") (.ref (He.ga K "Bank")),
  decide (PySem.W.kitOne K (.ref (He.ga K "Copy")) (.ref (He.ga K "Copy")) = some true),
  PySem.W.notFirst K (He.ga K "Copy") (.ref (He.ga K "Copy")),
  He.eqO (PySem.W.specialIn K (.builtin "object.__class__") "__get__") (some (some (.builtin "getset_descriptor.__get__"))),
  decide (PySem.W.takesIn K (.builtin "object.__class__") = some true)]
def names0 : List PySem.Str := ["_wall", "BankError", "BadPaper", "BadQuestion", "NoSuch", "NoPlace", "TooMany", "BadKind", "Twice", "LETTERS", "SIGNS", "LONGEST_NAME", "LONGEST_TEXT", "is_whole", "is_number", "is_name", "is_text", "need_day", "FEWEST", "MOST", "TOP", "are_answers", "is_of", "Question", "need_question", "MOST_QUESTIONS", "Bank", "need_bank", "MOST_NAMES", "is_paper"]
def names1 : List PySem.Str := ["need_paper", "need_ready", "questions_of", "LAST_NUMBER", "Copy", "need_copy", "shared_divisor", "round_length", "_law_begun", "_law_draw", "_law_of", "_law_names", "_law_answers", "_law_rows", "_law_asked", "_law_bank", "_law_paper", "_law_by", "_law_row_at", "_law_size", "_law_number", "_law_all", "_law_otherwise", "_law_round", "_law_forty_right", "_law_like"]
def names : List PySem.Str := names0 ++ names1
abbrev R : PySem.W.OpenRow := PySem.W.OpenLaw.row PySem.Challenge.rw_paperkin_k42_copies_compared
def as : List Addr := [3, 6, 4, 21, 31, 51, 77, 104, 124, 151, 171, 191, 202, 209, 214, 219, 226, 231, 238, 320, 331, 495, 506, 511, 518, 525, 530, 627, 638, 645, 652, 657, 664, 671, 676, 681, 688, 695, 700, 705, 712, 719, 726, 733, 738, 745, 750, 757, 764, 771, 30, 50, 76, 103, 123, 150, 170, 190, 319, 494, 626, 29, 32, 48, 49, 67, 74, 75, 78, 94, 101, 102, 105, 121, 122, 125, 141, 148, 149, 152, 168, 169, 172, 188, 189, 192, 253, 260, 267, 274, 281, 288, 295, 302, 310, 317, 318, 321, 322, 346, 353, 360, 367, 375, 382, 389, 396, 403, 410, 415, 422, 429, 436, 442, 449, 456, 464, 471, 478, 485, 492, 493, 496, 497, 545, 550, 557, 564, 571, 576, 583, 591, 598, 603, 610, 617, 624, 625, 628, 629, 20, 201, 195, 208, 213, 218, 225, 230, 237, 330, 505, 510, 517, 524, 529, 637, 644, 651, 656, 663, 670, 675, 680, 687, 694, 699, 704, 711, 718, 725, 732, 737, 744, 749, 756, 763, 770, 47, 66, 73, 93, 100, 120, 140, 147, 167, 187, 252, 246, 259, 266, 273, 280, 287, 294, 301, 309, 303, 316, 345, 339, 352, 359, 366, 374, 368, 381, 388, 395, 402, 409, 414, 421, 428, 435, 441, 437, 448, 455, 463, 457, 470, 477, 484, 491, 544, 538, 549, 556, 563, 570, 575, 582, 590, 584, 597, 602, 609, 616, 623]
def ob0 (g : Addr → Option Obj) : He.AlD × Bool := (He.obsD fa fn (He.frG g as), (exs (He.frG g as)).all id)
def hk : PySem.W.Hook where
  α := He.AlD × Bool
  obs := fun s => ob0 s.heap.get?
  val := fun _ => (He.valD fn, true)
  says := fun _ h => ∃ K : PySem.W.Frag, K.In h ∧ He.SaysD fa fn K ∧ (exs K).all id = true
  of := fun _ _ e => ⟨_, He.frG_in, congrArg Prod.fst e, congrArg Prod.snd e⟩
  keeps := fun _ _ _ ⟨K, hK, c⟩ k => ⟨K, PySem.W.Frag.In.keeps hK k, c⟩
def ob (s : PySem.W.SharedT) : He.AlD × Bool := ob0 (HandSHeadRun.getT s)
theorem ob_eq (s : PySem.W.SharedT) : ob s = hk.obs s.abs := by
  have e : HandSHeadRun.getT s = s.abs.heap.get? := funext (HandSHeadRun.getT_eq s)
  show ob0 (HandSHeadRun.getT s) = _
  rw [e] <;> rfl
theorem run (w : World) : HandSHeadRun.RunEq R (PySem.W.view R.prog [63]) hk ob 20000 names w := by
  intro os
  kernel_rfl
end PT
namespace Pap
open PySem PySem.Spec PyProof.Rows L2 PT
structure TX (K : PySem.W.Frag) (mg : Str → Option Value) : Prop where
  says : He.SaysD PT.fa PT.fn K
  ex : (PT.exs K).all id = true
  ns : ∃ h : Heap, K.In h ∧ h.Ns mainGlobals mg
variable {K : PySem.W.Frag} {mg : Str → Option Value}
theorem TX.exf (T : TX K mg) (i : Nat) {b : Bool} (h : (PT.exs K)[i]? = some b := by rfl) : b = true := List.all_eq_true.mp T.ex b (List.mem_of_getElem? h)
theorem TX.g_is_whole (T : TX K mg) : mg "is_whole" = some (.ref (He.ga K "is_whole")) := let ⟨_, X, G⟩ := T.ns; He.glo_ok X G (T.says.fact 0)
theorem TX.g_is_number (T : TX K mg) : mg "is_number" = some (.ref (He.ga K "is_number")) := let ⟨_, X, G⟩ := T.ns; He.glo_ok X G (T.says.fact 1)
theorem TX.g_is_name (T : TX K mg) : mg "is_name" = some (.ref (He.ga K "is_name")) := let ⟨_, X, G⟩ := T.ns; He.glo_ok X G (T.says.fact 2)
theorem TX.g_is_text (T : TX K mg) : mg "is_text" = some (.ref (He.ga K "is_text")) := let ⟨_, X, G⟩ := T.ns; He.glo_ok X G (T.says.fact 3)
theorem TX.g_need_day (T : TX K mg) : mg "need_day" = some (.ref (He.ga K "need_day")) := let ⟨_, X, G⟩ := T.ns; He.glo_ok X G (T.says.fact 4)
theorem TX.g_are_answers (T : TX K mg) : mg "are_answers" = some (.ref (He.ga K "are_answers")) := let ⟨_, X, G⟩ := T.ns; He.glo_ok X G (T.says.fact 5)
theorem TX.g_is_of (T : TX K mg) : mg "is_of" = some (.ref (He.ga K "is_of")) := let ⟨_, X, G⟩ := T.ns; He.glo_ok X G (T.says.fact 6)
theorem TX.g_need_question (T : TX K mg) : mg "need_question" = some (.ref (He.ga K "need_question")) := let ⟨_, X, G⟩ := T.ns; He.glo_ok X G (T.says.fact 7)
theorem TX.g_need_bank (T : TX K mg) : mg "need_bank" = some (.ref (He.ga K "need_bank")) := let ⟨_, X, G⟩ := T.ns; He.glo_ok X G (T.says.fact 8)
theorem TX.g_is_paper (T : TX K mg) : mg "is_paper" = some (.ref (He.ga K "is_paper")) := let ⟨_, X, G⟩ := T.ns; He.glo_ok X G (T.says.fact 9)
theorem TX.g_need_paper (T : TX K mg) : mg "need_paper" = some (.ref (He.ga K "need_paper")) := let ⟨_, X, G⟩ := T.ns; He.glo_ok X G (T.says.fact 10)
theorem TX.g_need_ready (T : TX K mg) : mg "need_ready" = some (.ref (He.ga K "need_ready")) := let ⟨_, X, G⟩ := T.ns; He.glo_ok X G (T.says.fact 11)
theorem TX.g_questions_of (T : TX K mg) : mg "questions_of" = some (.ref (He.ga K "questions_of")) := let ⟨_, X, G⟩ := T.ns; He.glo_ok X G (T.says.fact 12)
theorem TX.g_need_copy (T : TX K mg) : mg "need_copy" = some (.ref (He.ga K "need_copy")) := let ⟨_, X, G⟩ := T.ns; He.glo_ok X G (T.says.fact 13)
theorem TX.g_shared_divisor (T : TX K mg) : mg "shared_divisor" = some (.ref (He.ga K "shared_divisor")) := let ⟨_, X, G⟩ := T.ns; He.glo_ok X G (T.says.fact 14)
theorem TX.g_round_length (T : TX K mg) : mg "round_length" = some (.ref (He.ga K "round_length")) := let ⟨_, X, G⟩ := T.ns; He.glo_ok X G (T.says.fact 15)
theorem TX.g__law_begun (T : TX K mg) : mg "_law_begun" = some (.ref (He.ga K "_law_begun")) := let ⟨_, X, G⟩ := T.ns; He.glo_ok X G (T.says.fact 16)
theorem TX.g__law_draw (T : TX K mg) : mg "_law_draw" = some (.ref (He.ga K "_law_draw")) := let ⟨_, X, G⟩ := T.ns; He.glo_ok X G (T.says.fact 17)
theorem TX.g__law_of (T : TX K mg) : mg "_law_of" = some (.ref (He.ga K "_law_of")) := let ⟨_, X, G⟩ := T.ns; He.glo_ok X G (T.says.fact 18)
theorem TX.g__law_names (T : TX K mg) : mg "_law_names" = some (.ref (He.ga K "_law_names")) := let ⟨_, X, G⟩ := T.ns; He.glo_ok X G (T.says.fact 19)
theorem TX.g__law_answers (T : TX K mg) : mg "_law_answers" = some (.ref (He.ga K "_law_answers")) := let ⟨_, X, G⟩ := T.ns; He.glo_ok X G (T.says.fact 20)
theorem TX.g__law_rows (T : TX K mg) : mg "_law_rows" = some (.ref (He.ga K "_law_rows")) := let ⟨_, X, G⟩ := T.ns; He.glo_ok X G (T.says.fact 21)
theorem TX.g__law_asked (T : TX K mg) : mg "_law_asked" = some (.ref (He.ga K "_law_asked")) := let ⟨_, X, G⟩ := T.ns; He.glo_ok X G (T.says.fact 22)
theorem TX.g__law_bank (T : TX K mg) : mg "_law_bank" = some (.ref (He.ga K "_law_bank")) := let ⟨_, X, G⟩ := T.ns; He.glo_ok X G (T.says.fact 23)
theorem TX.g__law_paper (T : TX K mg) : mg "_law_paper" = some (.ref (He.ga K "_law_paper")) := let ⟨_, X, G⟩ := T.ns; He.glo_ok X G (T.says.fact 24)
theorem TX.g__law_by (T : TX K mg) : mg "_law_by" = some (.ref (He.ga K "_law_by")) := let ⟨_, X, G⟩ := T.ns; He.glo_ok X G (T.says.fact 25)
theorem TX.g__law_row_at (T : TX K mg) : mg "_law_row_at" = some (.ref (He.ga K "_law_row_at")) := let ⟨_, X, G⟩ := T.ns; He.glo_ok X G (T.says.fact 26)
theorem TX.g__law_size (T : TX K mg) : mg "_law_size" = some (.ref (He.ga K "_law_size")) := let ⟨_, X, G⟩ := T.ns; He.glo_ok X G (T.says.fact 27)
theorem TX.g__law_number (T : TX K mg) : mg "_law_number" = some (.ref (He.ga K "_law_number")) := let ⟨_, X, G⟩ := T.ns; He.glo_ok X G (T.says.fact 28)
theorem TX.g__law_all (T : TX K mg) : mg "_law_all" = some (.ref (He.ga K "_law_all")) := let ⟨_, X, G⟩ := T.ns; He.glo_ok X G (T.says.fact 29)
theorem TX.g__law_otherwise (T : TX K mg) : mg "_law_otherwise" = some (.ref (He.ga K "_law_otherwise")) := let ⟨_, X, G⟩ := T.ns; He.glo_ok X G (T.says.fact 30)
theorem TX.g__law_round (T : TX K mg) : mg "_law_round" = some (.ref (He.ga K "_law_round")) := let ⟨_, X, G⟩ := T.ns; He.glo_ok X G (T.says.fact 31)
theorem TX.g__law_forty_right (T : TX K mg) : mg "_law_forty_right" = some (.ref (He.ga K "_law_forty_right")) := let ⟨_, X, G⟩ := T.ns; He.glo_ok X G (T.says.fact 32)
theorem TX.g__law_like (T : TX K mg) : mg "_law_like" = some (.ref (He.ga K "_law_like")) := let ⟨_, X, G⟩ := T.ns; He.glo_ok X G (T.says.fact 33)
theorem TX.g_law (T : TX K mg) : mg "law" = some (.ref (He.ga K "law")) := let ⟨_, X, G⟩ := T.ns; He.glo_ok X G (T.says.fact 34)
theorem TX.g_BankError (T : TX K mg) : mg "BankError" = some (.ref (He.ga K "BankError")) := let ⟨_, X, G⟩ := T.ns; He.glo_ok X G (T.says.fact 35)
theorem TX.g_BadPaper (T : TX K mg) : mg "BadPaper" = some (.ref (He.ga K "BadPaper")) := let ⟨_, X, G⟩ := T.ns; He.glo_ok X G (T.says.fact 36)
theorem TX.g_BadQuestion (T : TX K mg) : mg "BadQuestion" = some (.ref (He.ga K "BadQuestion")) := let ⟨_, X, G⟩ := T.ns; He.glo_ok X G (T.says.fact 37)
theorem TX.g_NoSuch (T : TX K mg) : mg "NoSuch" = some (.ref (He.ga K "NoSuch")) := let ⟨_, X, G⟩ := T.ns; He.glo_ok X G (T.says.fact 38)
theorem TX.g_NoPlace (T : TX K mg) : mg "NoPlace" = some (.ref (He.ga K "NoPlace")) := let ⟨_, X, G⟩ := T.ns; He.glo_ok X G (T.says.fact 39)
theorem TX.g_TooMany (T : TX K mg) : mg "TooMany" = some (.ref (He.ga K "TooMany")) := let ⟨_, X, G⟩ := T.ns; He.glo_ok X G (T.says.fact 40)
theorem TX.g_BadKind (T : TX K mg) : mg "BadKind" = some (.ref (He.ga K "BadKind")) := let ⟨_, X, G⟩ := T.ns; He.glo_ok X G (T.says.fact 41)
theorem TX.g_Twice (T : TX K mg) : mg "Twice" = some (.ref (He.ga K "Twice")) := let ⟨_, X, G⟩ := T.ns; He.glo_ok X G (T.says.fact 42)
theorem TX.g_Question (T : TX K mg) : mg "Question" = some (.ref (He.ga K "Question")) := let ⟨_, X, G⟩ := T.ns; He.glo_ok X G (T.says.fact 43)
theorem TX.g_Bank (T : TX K mg) : mg "Bank" = some (.ref (He.ga K "Bank")) := let ⟨_, X, G⟩ := T.ns; He.glo_ok X G (T.says.fact 44)
theorem TX.g_Copy (T : TX K mg) : mg "Copy" = some (.ref (He.ga K "Copy")) := let ⟨_, X, G⟩ := T.ns; He.glo_ok X G (T.says.fact 45)
theorem TX.k_LETTERS (T : TX K mg) : ∃ u, mg "LETTERS" = some u ∧ RelV (.str "abcdefghijklmnopqrstuvwxyz") u := let ⟨_, X, G⟩ := T.ns; let ⟨t, e⟩ := He.str_ok X G (T.says.fact 46); ⟨_, e, t, rfl⟩
theorem TX.k_SIGNS (T : TX K mg) : ∃ u, mg "SIGNS" = some u ∧ RelV (.str " !\"#$&'()*+,-./0123456789:;<=>?@ABCDEFGHIJKLMNOPQRSTUVWXYZ[\\]^_`abcdefghijklmnopqrstuvwxyz{|}~") u := let ⟨_, X, G⟩ := T.ns; let ⟨t, e⟩ := He.str_ok X G (T.says.fact 47); ⟨_, e, t, rfl⟩
theorem TX.k_LONGEST_NAME (T : TX K mg) : ∃ u, mg "LONGEST_NAME" = some u ∧ RelV (.int (8)) u := let ⟨_, X, G⟩ := T.ns; let ⟨t, e⟩ := He.int_ok X G (T.says.fact 48); ⟨_, e, t, rfl⟩
theorem TX.k_LONGEST_TEXT (T : TX K mg) : ∃ u, mg "LONGEST_TEXT" = some u ∧ RelV (.int (30)) u := let ⟨_, X, G⟩ := T.ns; let ⟨t, e⟩ := He.int_ok X G (T.says.fact 49); ⟨_, e, t, rfl⟩
theorem TX.k_FEWEST (T : TX K mg) : ∃ u, mg "FEWEST" = some u ∧ RelV (.int (2)) u := let ⟨_, X, G⟩ := T.ns; let ⟨t, e⟩ := He.int_ok X G (T.says.fact 50); ⟨_, e, t, rfl⟩
theorem TX.k_MOST (T : TX K mg) : ∃ u, mg "MOST" = some u ∧ RelV (.int (6)) u := let ⟨_, X, G⟩ := T.ns; let ⟨t, e⟩ := He.int_ok X G (T.says.fact 51); ⟨_, e, t, rfl⟩
theorem TX.k_TOP (T : TX K mg) : ∃ u, mg "TOP" = some u ∧ RelV (.int (9)) u := let ⟨_, X, G⟩ := T.ns; let ⟨t, e⟩ := He.int_ok X G (T.says.fact 52); ⟨_, e, t, rfl⟩
theorem TX.k_MOST_QUESTIONS (T : TX K mg) : ∃ u, mg "MOST_QUESTIONS" = some u ∧ RelV (.int (60)) u := let ⟨_, X, G⟩ := T.ns; let ⟨t, e⟩ := He.int_ok X G (T.says.fact 53); ⟨_, e, t, rfl⟩
theorem TX.k_MOST_NAMES (T : TX K mg) : ∃ u, mg "MOST_NAMES" = some u ∧ RelV (.int (40)) u := let ⟨_, X, G⟩ := T.ns; let ⟨t, e⟩ := He.int_ok X G (T.says.fact 54); ⟨_, e, t, rfl⟩
theorem TX.k_LAST_NUMBER (T : TX K mg) : ∃ u, mg "LAST_NUMBER" = some u ∧ RelV (.int (999)) u := let ⟨_, X, G⟩ := T.ns; let ⟨t, e⟩ := He.int_ok X G (T.says.fact 55); ⟨_, e, t, rfl⟩
theorem TX.f_Exception (T : TX K mg) : mg "Exception" = none := let ⟨_, X, G⟩ := T.ns; He.free_ok X G (T.says.fact 56)
theorem TX.f_IndexError (T : TX K mg) : mg "IndexError" = none := let ⟨_, X, G⟩ := T.ns; He.free_ok X G (T.says.fact 57)
theorem TX.f_KeyError (T : TX K mg) : mg "KeyError" = none := let ⟨_, X, G⟩ := T.ns; He.free_ok X G (T.says.fact 58)
theorem TX.f_OverflowError (T : TX K mg) : mg "OverflowError" = none := let ⟨_, X, G⟩ := T.ns; He.free_ok X G (T.says.fact 59)
theorem TX.f_RuntimeError (T : TX K mg) : mg "RuntimeError" = none := let ⟨_, X, G⟩ := T.ns; He.free_ok X G (T.says.fact 60)
theorem TX.f_TypeError (T : TX K mg) : mg "TypeError" = none := let ⟨_, X, G⟩ := T.ns; He.free_ok X G (T.says.fact 61)
theorem TX.f_ValueError (T : TX K mg) : mg "ValueError" = none := let ⟨_, X, G⟩ := T.ns; He.free_ok X G (T.says.fact 62)
theorem TX.f_all (T : TX K mg) : mg "all" = none := let ⟨_, X, G⟩ := T.ns; He.free_ok X G (T.says.fact 63)
theorem TX.f_bool (T : TX K mg) : mg "bool" = none := let ⟨_, X, G⟩ := T.ns; He.free_ok X G (T.says.fact 64)
theorem TX.f_enumerate (T : TX K mg) : mg "enumerate" = none := let ⟨_, X, G⟩ := T.ns; He.free_ok X G (T.says.fact 65)
theorem TX.f_int (T : TX K mg) : mg "int" = none := let ⟨_, X, G⟩ := T.ns; He.free_ok X G (T.says.fact 66)
theorem TX.f_isinstance (T : TX K mg) : mg "isinstance" = none := let ⟨_, X, G⟩ := T.ns; He.free_ok X G (T.says.fact 67)
theorem TX.f_len (T : TX K mg) : mg "len" = none := let ⟨_, X, G⟩ := T.ns; He.free_ok X G (T.says.fact 68)
theorem TX.f_list (T : TX K mg) : mg "list" = none := let ⟨_, X, G⟩ := T.ns; He.free_ok X G (T.says.fact 69)
theorem TX.f_max (T : TX K mg) : mg "max" = none := let ⟨_, X, G⟩ := T.ns; He.free_ok X G (T.says.fact 70)
theorem TX.f_range (T : TX K mg) : mg "range" = none := let ⟨_, X, G⟩ := T.ns; He.free_ok X G (T.says.fact 71)
theorem TX.f_repr (T : TX K mg) : mg "repr" = none := let ⟨_, X, G⟩ := T.ns; He.free_ok X G (T.says.fact 72)
theorem TX.f_sorted (T : TX K mg) : mg "sorted" = none := let ⟨_, X, G⟩ := T.ns; He.free_ok X G (T.says.fact 73)
theorem TX.f_str (T : TX K mg) : mg "str" = none := let ⟨_, X, G⟩ := T.ns; He.free_ok X G (T.says.fact 74)
theorem TX.f_tuple (T : TX K mg) : mg "tuple" = none := let ⟨_, X, G⟩ := T.ns; He.free_ok X G (T.says.fact 75)
theorem TX.f_zip (T : TX K mg) : mg "zip" = none := let ⟨_, X, G⟩ := T.ns; He.free_ok X G (T.says.fact 76)
theorem TX.c_Question (T : TX K mg) : Cls K (He.ga K "Question") := He.cls_ok (T.says.fact 77)
theorem TX.mk_Question (T : TX K mg) : Mk K (He.ga K "Question") (He.ma K (He.ga K "Question") "__init__") := He.mkr_ok (T.says.fact 78)
theorem TX.n_Question_answers (T : TX K mg) : NoAttr K (He.ga K "Question") "answers" := He.noat_ok (T.says.fact 79)
theorem TX.n_Question_kin (T : TX K mg) : NoAttr K (He.ga K "Question") "kin" := He.noat_ok (T.says.fact 80)
theorem TX.n_Question_marks (T : TX K mg) : NoAttr K (He.ga K "Question") "marks" := He.noat_ok (T.says.fact 81)
theorem TX.n_Question_matter (T : TX K mg) : NoAttr K (He.ga K "Question") "matter" := He.noat_ok (T.says.fact 82)
theorem TX.n_Question_name (T : TX K mg) : NoAttr K (He.ga K "Question") "name" := He.noat_ok (T.says.fact 83)
theorem TX.n_Question_right (T : TX K mg) : NoAttr K (He.ga K "Question") "right" := He.noat_ok (T.says.fact 84)
theorem TX.n_Question_toil (T : TX K mg) : NoAttr K (He.ga K "Question") "toil" := He.noat_ok (T.says.fact 85)
theorem TX.m_Question_parts (T : TX K mg) : Meth K (He.ga K "Question") "parts" (He.ma K (He.ga K "Question") "parts") := He.meth_ok (T.says.fact 86)
theorem TX.m_QuestionX_eqX (T : TX K mg) : Meth K (He.ga K "Question") "__eq__" (He.ma K (He.ga K "Question") "__eq__") := He.meth_ok (T.says.fact 87)
theorem TX.m_QuestionX_lenX (T : TX K mg) : Meth K (He.ga K "Question") "__len__" (He.ma K (He.ga K "Question") "__len__") := He.meth_ok (T.says.fact 88)
theorem TX.m_QuestionX_reprX (T : TX K mg) : Meth K (He.ga K "Question") "__repr__" (He.ma K (He.ga K "Question") "__repr__") := He.meth_ok (T.says.fact 89)
theorem TX.m_QuestionX_strX (T : TX K mg) : Meth K (He.ga K "Question") "__str__" (He.ma K (He.ga K "Question") "__str__") := He.meth_ok (T.says.fact 90)
theorem TX.m_Question_answer (T : TX K mg) : Meth K (He.ga K "Question") "answer" (He.ma K (He.ga K "Question") "answer") := He.meth_ok (T.says.fact 91)
theorem TX.m_Question_turned (T : TX K mg) : Meth K (He.ga K "Question") "turned" (He.ma K (He.ga K "Question") "turned") := He.meth_ok (T.says.fact 92)
theorem TX.m_Question_changed (T : TX K mg) : Meth K (He.ga K "Question") "changed" (He.ma K (He.ga K "Question") "changed") := He.meth_ok (T.says.fact 93)
theorem TX.m_Question_is_kin (T : TX K mg) : Meth K (He.ga K "Question") "is_kin" (He.ma K (He.ga K "Question") "is_kin") := He.meth_ok (T.says.fact 94)
theorem TX.c_Bank (T : TX K mg) : Cls K (He.ga K "Bank") := He.cls_ok (T.says.fact 95)
theorem TX.mk_Bank (T : TX K mg) : Mk K (He.ga K "Bank") (He.ma K (He.ga K "Bank") "__init__") := He.mkr_ok (T.says.fact 96)
theorem TX.n_Bank_days_here (T : TX K mg) : NoAttr K (He.ga K "Bank") "days_here" := He.noat_ok (T.says.fact 97)
theorem TX.n_Bank_kept_here (T : TX K mg) : NoAttr K (He.ga K "Bank") "kept_here" := He.noat_ok (T.says.fact 98)
theorem TX.n_Bank_out_here (T : TX K mg) : NoAttr K (He.ga K "Bank") "out_here" := He.noat_ok (T.says.fact 99)
theorem TX.m_Bank_need_there (T : TX K mg) : Meth K (He.ga K "Bank") "need_there" (He.ma K (He.ga K "Bank") "need_there") := He.meth_ok (T.says.fact 100)
theorem TX.m_Bank_added (T : TX K mg) : Meth K (He.ga K "Bank") "added" (He.ma K (He.ga K "Bank") "added") := He.meth_ok (T.says.fact 101)
theorem TX.m_Bank_put (T : TX K mg) : Meth K (He.ga K "Bank") "put" (He.ma K (He.ga K "Bank") "put") := He.meth_ok (T.says.fact 102)
theorem TX.m_Bank_taken_out (T : TX K mg) : Meth K (He.ga K "Bank") "taken_out" (He.ma K (He.ga K "Bank") "taken_out") := He.meth_ok (T.says.fact 103)
theorem TX.m_Bank_put_back (T : TX K mg) : Meth K (He.ga K "Bank") "put_back" (He.ma K (He.ga K "Bank") "put_back") := He.meth_ok (T.says.fact 104)
theorem TX.m_Bank_dropped (T : TX K mg) : Meth K (He.ga K "Bank") "dropped" (He.ma K (He.ga K "Bank") "dropped") := He.meth_ok (T.says.fact 105)
theorem TX.m_Bank_used_on (T : TX K mg) : Meth K (He.ga K "Bank") "used_on" (He.ma K (He.ga K "Bank") "used_on") := He.meth_ok (T.says.fact 106)
theorem TX.m_Bank_unused_on (T : TX K mg) : Meth K (He.ga K "Bank") "unused_on" (He.ma K (He.ga K "Bank") "unused_on") := He.meth_ok (T.says.fact 107)
theorem TX.m_Bank_names (T : TX K mg) : Meth K (He.ga K "Bank") "names" (He.ma K (He.ga K "Bank") "names") := He.meth_ok (T.says.fact 108)
theorem TX.m_Bank_names_in (T : TX K mg) : Meth K (He.ga K "Bank") "names_in" (He.ma K (He.ga K "Bank") "names_in") := He.meth_ok (T.says.fact 109)
theorem TX.m_Bank_outs (T : TX K mg) : Meth K (He.ga K "Bank") "outs" (He.ma K (He.ga K "Bank") "outs") := He.meth_ok (T.says.fact 110)
theorem TX.m_Bank_question (T : TX K mg) : Meth K (He.ga K "Bank") "question" (He.ma K (He.ga K "Bank") "question") := He.meth_ok (T.says.fact 111)
theorem TX.m_Bank_days_of (T : TX K mg) : Meth K (He.ga K "Bank") "days_of" (He.ma K (He.ga K "Bank") "days_of") := He.meth_ok (T.says.fact 112)
theorem TX.m_Bank_last_day (T : TX K mg) : Meth K (He.ga K "Bank") "last_day" (He.ma K (He.ga K "Bank") "last_day") := He.meth_ok (T.says.fact 113)
theorem TX.m_Bank_matters (T : TX K mg) : Meth K (He.ga K "Bank") "matters" (He.ma K (He.ga K "Bank") "matters") := He.meth_ok (T.says.fact 114)
theorem TX.m_Bank_rests (T : TX K mg) : Meth K (He.ga K "Bank") "rests" (He.ma K (He.ga K "Bank") "rests") := He.meth_ok (T.says.fact 115)
theorem TX.m_Bank_found (T : TX K mg) : Meth K (He.ga K "Bank") "found" (He.ma K (He.ga K "Bank") "found") := He.meth_ok (T.says.fact 116)
theorem TX.m_Bank_standing (T : TX K mg) : Meth K (He.ga K "Bank") "standing" (He.ma K (He.ga K "Bank") "standing") := He.meth_ok (T.says.fact 117)
theorem TX.m_Bank_twin (T : TX K mg) : Meth K (He.ga K "Bank") "twin" (He.ma K (He.ga K "Bank") "twin") := He.meth_ok (T.says.fact 118)
theorem TX.m_BankX_eqX (T : TX K mg) : Meth K (He.ga K "Bank") "__eq__" (He.ma K (He.ga K "Bank") "__eq__") := He.meth_ok (T.says.fact 119)
theorem TX.m_BankX_lenX (T : TX K mg) : Meth K (He.ga K "Bank") "__len__" (He.ma K (He.ga K "Bank") "__len__") := He.meth_ok (T.says.fact 120)
theorem TX.c_Copy (T : TX K mg) : Cls K (He.ga K "Copy") := He.cls_ok (T.says.fact 121)
theorem TX.mk_Copy (T : TX K mg) : Mk K (He.ga K "Copy") (He.ma K (He.ga K "Copy") "__init__") := He.mkr_ok (T.says.fact 122)
theorem TX.n_Copy_laid_out (T : TX K mg) : NoAttr K (He.ga K "Copy") "laid_out" := He.noat_ok (T.says.fact 123)
theorem TX.n_Copy_number (T : TX K mg) : NoAttr K (He.ga K "Copy") "number" := He.noat_ok (T.says.fact 124)
theorem TX.m_Copy_copy_by (T : TX K mg) : Meth K (He.ga K "Copy") "copy_by" (He.ma K (He.ga K "Copy") "copy_by") := He.meth_ok (T.says.fact 125)
theorem TX.m_Copy_need_place (T : TX K mg) : Meth K (He.ga K "Copy") "need_place" (He.ma K (He.ga K "Copy") "need_place") := He.meth_ok (T.says.fact 126)
theorem TX.m_Copy_origin (T : TX K mg) : Meth K (He.ga K "Copy") "origin" (He.ma K (He.ga K "Copy") "origin") := He.meth_ok (T.says.fact 127)
theorem TX.m_Copy_question_at (T : TX K mg) : Meth K (He.ga K "Copy") "question_at" (He.ma K (He.ga K "Copy") "question_at") := He.meth_ok (T.says.fact 128)
theorem TX.m_Copy_told_names (T : TX K mg) : Meth K (He.ga K "Copy") "told_names" (He.ma K (He.ga K "Copy") "told_names") := He.meth_ok (T.says.fact 129)
theorem TX.m_Copy_place_of (T : TX K mg) : Meth K (He.ga K "Copy") "place_of" (He.ma K (He.ga K "Copy") "place_of") := He.meth_ok (T.says.fact 130)
theorem TX.m_Copy_gone_on (T : TX K mg) : Meth K (He.ga K "Copy") "gone_on" (He.ma K (He.ga K "Copy") "gone_on") := He.meth_ok (T.says.fact 131)
theorem TX.m_Copy_first_one (T : TX K mg) : Meth K (He.ga K "Copy") "first_one" (He.ma K (He.ga K "Copy") "first_one") := He.meth_ok (T.says.fact 132)
theorem TX.m_CopyX_eqX (T : TX K mg) : Meth K (He.ga K "Copy") "__eq__" (He.ma K (He.ga K "Copy") "__eq__") := He.meth_ok (T.says.fact 133)
theorem TX.m_CopyX_lenX (T : TX K mg) : Meth K (He.ga K "Copy") "__len__" (He.ma K (He.ga K "Copy") "__len__") := He.meth_ok (T.says.fact 134)
theorem TX.m_CopyX_strX (T : TX K mg) : Meth K (He.ga K "Copy") "__str__" (He.ma K (He.ga K "Copy") "__str__") := He.meth_ok (T.says.fact 135)
theorem TX.m_CopyX_reprX (T : TX K mg) : Meth K (He.ga K "Copy") "__repr__" (He.ma K (He.ga K "Copy") "__repr__") := He.meth_ok (T.says.fact 136)
theorem TX.x1_Question (T : TX K mg) : PySem.W.findIn K (.ref (He.ga K "Question")) "__class__" = some (some (.builtin "object.__class__")) := He.eqO_ok (T.exf 0)
theorem TX.x2_Question (T : TX K mg) : PySem.W.mroIn K (He.ga K "Question") (.type "object") = some true := of_decide_eq_true (T.exf 1)
theorem TX.x3_Question (T : TX K mg) : PySem.W.findIn K (.ref (He.ga K "Question")) "__ne__" = some (some (.builtin "object.__ne__")) := He.eqO_ok (T.exf 2)
theorem TX.mn_Question_NoneType (T : TX K mg) : PySem.W.mroIn K (He.ga K "Question") (.type "NoneType") = some false := of_decide_eq_true (T.exf 3)
theorem TX.kt_NoneType_Question (T : TX K mg) : PySem.W.kitOne K (.type "NoneType") (.ref (He.ga K "Question")) = some false := of_decide_eq_true (T.exf 4)
theorem TX.kb_Question_NoneType (T : TX K mg) : PySem.W.kitOne K (.ref (He.ga K "Question")) (.type "NoneType") = some false := of_decide_eq_true (T.exf 5)
theorem TX.nf_Question_NoneType (T : TX K mg) : PySem.W.notFirst K (He.ga K "Question") (.type "NoneType") = true := T.exf 6
theorem TX.mn_Question_bool (T : TX K mg) : PySem.W.mroIn K (He.ga K "Question") (.type "bool") = some false := of_decide_eq_true (T.exf 7)
theorem TX.kt_bool_Question (T : TX K mg) : PySem.W.kitOne K (.type "bool") (.ref (He.ga K "Question")) = some false := of_decide_eq_true (T.exf 8)
theorem TX.kb_Question_bool (T : TX K mg) : PySem.W.kitOne K (.ref (He.ga K "Question")) (.type "bool") = some false := of_decide_eq_true (T.exf 9)
theorem TX.nf_Question_bool (T : TX K mg) : PySem.W.notFirst K (He.ga K "Question") (.type "bool") = true := T.exf 10
theorem TX.mn_Question_int (T : TX K mg) : PySem.W.mroIn K (He.ga K "Question") (.type "int") = some false := of_decide_eq_true (T.exf 11)
theorem TX.kt_int_Question (T : TX K mg) : PySem.W.kitOne K (.type "int") (.ref (He.ga K "Question")) = some false := of_decide_eq_true (T.exf 12)
theorem TX.kb_Question_int (T : TX K mg) : PySem.W.kitOne K (.ref (He.ga K "Question")) (.type "int") = some false := of_decide_eq_true (T.exf 13)
theorem TX.nf_Question_int (T : TX K mg) : PySem.W.notFirst K (He.ga K "Question") (.type "int") = true := T.exf 14
theorem TX.mn_Question_str (T : TX K mg) : PySem.W.mroIn K (He.ga K "Question") (.type "str") = some false := of_decide_eq_true (T.exf 15)
theorem TX.kt_str_Question (T : TX K mg) : PySem.W.kitOne K (.type "str") (.ref (He.ga K "Question")) = some false := of_decide_eq_true (T.exf 16)
theorem TX.kb_Question_str (T : TX K mg) : PySem.W.kitOne K (.ref (He.ga K "Question")) (.type "str") = some false := of_decide_eq_true (T.exf 17)
theorem TX.nf_Question_str (T : TX K mg) : PySem.W.notFirst K (He.ga K "Question") (.type "str") = true := T.exf 18
theorem TX.mn_Question_list (T : TX K mg) : PySem.W.mroIn K (He.ga K "Question") (.type "list") = some false := of_decide_eq_true (T.exf 19)
theorem TX.kt_list_Question (T : TX K mg) : PySem.W.kitOne K (.type "list") (.ref (He.ga K "Question")) = some false := of_decide_eq_true (T.exf 20)
theorem TX.kb_Question_list (T : TX K mg) : PySem.W.kitOne K (.ref (He.ga K "Question")) (.type "list") = some false := of_decide_eq_true (T.exf 21)
theorem TX.nf_Question_list (T : TX K mg) : PySem.W.notFirst K (He.ga K "Question") (.type "list") = true := T.exf 22
theorem TX.mn_Question_tuple (T : TX K mg) : PySem.W.mroIn K (He.ga K "Question") (.type "tuple") = some false := of_decide_eq_true (T.exf 23)
theorem TX.kt_tuple_Question (T : TX K mg) : PySem.W.kitOne K (.type "tuple") (.ref (He.ga K "Question")) = some false := of_decide_eq_true (T.exf 24)
theorem TX.kb_Question_tuple (T : TX K mg) : PySem.W.kitOne K (.ref (He.ga K "Question")) (.type "tuple") = some false := of_decide_eq_true (T.exf 25)
theorem TX.nf_Question_tuple (T : TX K mg) : PySem.W.notFirst K (He.ga K "Question") (.type "tuple") = true := T.exf 26
theorem TX.mn_Question_dict (T : TX K mg) : PySem.W.mroIn K (He.ga K "Question") (.type "dict") = some false := of_decide_eq_true (T.exf 27)
theorem TX.kt_dict_Question (T : TX K mg) : PySem.W.kitOne K (.type "dict") (.ref (He.ga K "Question")) = some false := of_decide_eq_true (T.exf 28)
theorem TX.kb_Question_dict (T : TX K mg) : PySem.W.kitOne K (.ref (He.ga K "Question")) (.type "dict") = some false := of_decide_eq_true (T.exf 29)
theorem TX.nf_Question_dict (T : TX K mg) : PySem.W.notFirst K (He.ga K "Question") (.type "dict") = true := T.exf 30
theorem TX.ko_Question_Question (T : TX K mg) : PySem.W.kitOne K (.ref (He.ga K "Question")) (.ref (He.ga K "Question")) = some true := of_decide_eq_true (T.exf 31)
theorem TX.nf_Question_Question (T : TX K mg) : PySem.W.notFirst K (He.ga K "Question") (.ref (He.ga K "Question")) = true := T.exf 32
theorem TX.ko_Bank_Question (T : TX K mg) : PySem.W.kitOne K (.ref (He.ga K "Bank")) (.ref (He.ga K "Question")) = some false := of_decide_eq_true (T.exf 33)
theorem TX.nf_Question_Bank (T : TX K mg) : PySem.W.notFirst K (He.ga K "Question") (.ref (He.ga K "Bank")) = true := T.exf 34
theorem TX.ko_Copy_Question (T : TX K mg) : PySem.W.kitOne K (.ref (He.ga K "Copy")) (.ref (He.ga K "Question")) = some false := of_decide_eq_true (T.exf 35)
theorem TX.nf_Question_Copy (T : TX K mg) : PySem.W.notFirst K (He.ga K "Question") (.ref (He.ga K "Copy")) = true := T.exf 36
theorem TX.x1_Bank (T : TX K mg) : PySem.W.findIn K (.ref (He.ga K "Bank")) "__class__" = some (some (.builtin "object.__class__")) := He.eqO_ok (T.exf 37)
theorem TX.x2_Bank (T : TX K mg) : PySem.W.mroIn K (He.ga K "Bank") (.type "object") = some true := of_decide_eq_true (T.exf 38)
theorem TX.x3_Bank (T : TX K mg) : PySem.W.findIn K (.ref (He.ga K "Bank")) "__ne__" = some (some (.builtin "object.__ne__")) := He.eqO_ok (T.exf 39)
theorem TX.mn_Bank_NoneType (T : TX K mg) : PySem.W.mroIn K (He.ga K "Bank") (.type "NoneType") = some false := of_decide_eq_true (T.exf 40)
theorem TX.kt_NoneType_Bank (T : TX K mg) : PySem.W.kitOne K (.type "NoneType") (.ref (He.ga K "Bank")) = some false := of_decide_eq_true (T.exf 41)
theorem TX.kb_Bank_NoneType (T : TX K mg) : PySem.W.kitOne K (.ref (He.ga K "Bank")) (.type "NoneType") = some false := of_decide_eq_true (T.exf 42)
theorem TX.nf_Bank_NoneType (T : TX K mg) : PySem.W.notFirst K (He.ga K "Bank") (.type "NoneType") = true := T.exf 43
theorem TX.mn_Bank_bool (T : TX K mg) : PySem.W.mroIn K (He.ga K "Bank") (.type "bool") = some false := of_decide_eq_true (T.exf 44)
theorem TX.kt_bool_Bank (T : TX K mg) : PySem.W.kitOne K (.type "bool") (.ref (He.ga K "Bank")) = some false := of_decide_eq_true (T.exf 45)
theorem TX.kb_Bank_bool (T : TX K mg) : PySem.W.kitOne K (.ref (He.ga K "Bank")) (.type "bool") = some false := of_decide_eq_true (T.exf 46)
theorem TX.nf_Bank_bool (T : TX K mg) : PySem.W.notFirst K (He.ga K "Bank") (.type "bool") = true := T.exf 47
theorem TX.mn_Bank_int (T : TX K mg) : PySem.W.mroIn K (He.ga K "Bank") (.type "int") = some false := of_decide_eq_true (T.exf 48)
theorem TX.kt_int_Bank (T : TX K mg) : PySem.W.kitOne K (.type "int") (.ref (He.ga K "Bank")) = some false := of_decide_eq_true (T.exf 49)
theorem TX.kb_Bank_int (T : TX K mg) : PySem.W.kitOne K (.ref (He.ga K "Bank")) (.type "int") = some false := of_decide_eq_true (T.exf 50)
theorem TX.nf_Bank_int (T : TX K mg) : PySem.W.notFirst K (He.ga K "Bank") (.type "int") = true := T.exf 51
theorem TX.mn_Bank_str (T : TX K mg) : PySem.W.mroIn K (He.ga K "Bank") (.type "str") = some false := of_decide_eq_true (T.exf 52)
theorem TX.kt_str_Bank (T : TX K mg) : PySem.W.kitOne K (.type "str") (.ref (He.ga K "Bank")) = some false := of_decide_eq_true (T.exf 53)
theorem TX.kb_Bank_str (T : TX K mg) : PySem.W.kitOne K (.ref (He.ga K "Bank")) (.type "str") = some false := of_decide_eq_true (T.exf 54)
theorem TX.nf_Bank_str (T : TX K mg) : PySem.W.notFirst K (He.ga K "Bank") (.type "str") = true := T.exf 55
theorem TX.mn_Bank_list (T : TX K mg) : PySem.W.mroIn K (He.ga K "Bank") (.type "list") = some false := of_decide_eq_true (T.exf 56)
theorem TX.kt_list_Bank (T : TX K mg) : PySem.W.kitOne K (.type "list") (.ref (He.ga K "Bank")) = some false := of_decide_eq_true (T.exf 57)
theorem TX.kb_Bank_list (T : TX K mg) : PySem.W.kitOne K (.ref (He.ga K "Bank")) (.type "list") = some false := of_decide_eq_true (T.exf 58)
theorem TX.nf_Bank_list (T : TX K mg) : PySem.W.notFirst K (He.ga K "Bank") (.type "list") = true := T.exf 59
theorem TX.mn_Bank_tuple (T : TX K mg) : PySem.W.mroIn K (He.ga K "Bank") (.type "tuple") = some false := of_decide_eq_true (T.exf 60)
theorem TX.kt_tuple_Bank (T : TX K mg) : PySem.W.kitOne K (.type "tuple") (.ref (He.ga K "Bank")) = some false := of_decide_eq_true (T.exf 61)
theorem TX.kb_Bank_tuple (T : TX K mg) : PySem.W.kitOne K (.ref (He.ga K "Bank")) (.type "tuple") = some false := of_decide_eq_true (T.exf 62)
theorem TX.nf_Bank_tuple (T : TX K mg) : PySem.W.notFirst K (He.ga K "Bank") (.type "tuple") = true := T.exf 63
theorem TX.mn_Bank_dict (T : TX K mg) : PySem.W.mroIn K (He.ga K "Bank") (.type "dict") = some false := of_decide_eq_true (T.exf 64)
theorem TX.kt_dict_Bank (T : TX K mg) : PySem.W.kitOne K (.type "dict") (.ref (He.ga K "Bank")) = some false := of_decide_eq_true (T.exf 65)
theorem TX.kb_Bank_dict (T : TX K mg) : PySem.W.kitOne K (.ref (He.ga K "Bank")) (.type "dict") = some false := of_decide_eq_true (T.exf 66)
theorem TX.nf_Bank_dict (T : TX K mg) : PySem.W.notFirst K (He.ga K "Bank") (.type "dict") = true := T.exf 67
theorem TX.ko_Question_Bank (T : TX K mg) : PySem.W.kitOne K (.ref (He.ga K "Question")) (.ref (He.ga K "Bank")) = some false := of_decide_eq_true (T.exf 68)
theorem TX.nf_Bank_Question (T : TX K mg) : PySem.W.notFirst K (He.ga K "Bank") (.ref (He.ga K "Question")) = true := T.exf 69
theorem TX.ko_Bank_Bank (T : TX K mg) : PySem.W.kitOne K (.ref (He.ga K "Bank")) (.ref (He.ga K "Bank")) = some true := of_decide_eq_true (T.exf 70)
theorem TX.nf_Bank_Bank (T : TX K mg) : PySem.W.notFirst K (He.ga K "Bank") (.ref (He.ga K "Bank")) = true := T.exf 71
theorem TX.ko_Copy_Bank (T : TX K mg) : PySem.W.kitOne K (.ref (He.ga K "Copy")) (.ref (He.ga K "Bank")) = some false := of_decide_eq_true (T.exf 72)
theorem TX.nf_Bank_Copy (T : TX K mg) : PySem.W.notFirst K (He.ga K "Bank") (.ref (He.ga K "Copy")) = true := T.exf 73
theorem TX.x1_Copy (T : TX K mg) : PySem.W.findIn K (.ref (He.ga K "Copy")) "__class__" = some (some (.builtin "object.__class__")) := He.eqO_ok (T.exf 74)
theorem TX.x2_Copy (T : TX K mg) : PySem.W.mroIn K (He.ga K "Copy") (.type "object") = some true := of_decide_eq_true (T.exf 75)
theorem TX.x3_Copy (T : TX K mg) : PySem.W.findIn K (.ref (He.ga K "Copy")) "__ne__" = some (some (.builtin "object.__ne__")) := He.eqO_ok (T.exf 76)
theorem TX.mn_Copy_NoneType (T : TX K mg) : PySem.W.mroIn K (He.ga K "Copy") (.type "NoneType") = some false := of_decide_eq_true (T.exf 77)
theorem TX.kt_NoneType_Copy (T : TX K mg) : PySem.W.kitOne K (.type "NoneType") (.ref (He.ga K "Copy")) = some false := of_decide_eq_true (T.exf 78)
theorem TX.kb_Copy_NoneType (T : TX K mg) : PySem.W.kitOne K (.ref (He.ga K "Copy")) (.type "NoneType") = some false := of_decide_eq_true (T.exf 79)
theorem TX.nf_Copy_NoneType (T : TX K mg) : PySem.W.notFirst K (He.ga K "Copy") (.type "NoneType") = true := T.exf 80
theorem TX.mn_Copy_bool (T : TX K mg) : PySem.W.mroIn K (He.ga K "Copy") (.type "bool") = some false := of_decide_eq_true (T.exf 81)
theorem TX.kt_bool_Copy (T : TX K mg) : PySem.W.kitOne K (.type "bool") (.ref (He.ga K "Copy")) = some false := of_decide_eq_true (T.exf 82)
theorem TX.kb_Copy_bool (T : TX K mg) : PySem.W.kitOne K (.ref (He.ga K "Copy")) (.type "bool") = some false := of_decide_eq_true (T.exf 83)
theorem TX.nf_Copy_bool (T : TX K mg) : PySem.W.notFirst K (He.ga K "Copy") (.type "bool") = true := T.exf 84
theorem TX.mn_Copy_int (T : TX K mg) : PySem.W.mroIn K (He.ga K "Copy") (.type "int") = some false := of_decide_eq_true (T.exf 85)
theorem TX.kt_int_Copy (T : TX K mg) : PySem.W.kitOne K (.type "int") (.ref (He.ga K "Copy")) = some false := of_decide_eq_true (T.exf 86)
theorem TX.kb_Copy_int (T : TX K mg) : PySem.W.kitOne K (.ref (He.ga K "Copy")) (.type "int") = some false := of_decide_eq_true (T.exf 87)
theorem TX.nf_Copy_int (T : TX K mg) : PySem.W.notFirst K (He.ga K "Copy") (.type "int") = true := T.exf 88
theorem TX.mn_Copy_str (T : TX K mg) : PySem.W.mroIn K (He.ga K "Copy") (.type "str") = some false := of_decide_eq_true (T.exf 89)
theorem TX.kt_str_Copy (T : TX K mg) : PySem.W.kitOne K (.type "str") (.ref (He.ga K "Copy")) = some false := of_decide_eq_true (T.exf 90)
theorem TX.kb_Copy_str (T : TX K mg) : PySem.W.kitOne K (.ref (He.ga K "Copy")) (.type "str") = some false := of_decide_eq_true (T.exf 91)
theorem TX.nf_Copy_str (T : TX K mg) : PySem.W.notFirst K (He.ga K "Copy") (.type "str") = true := T.exf 92
theorem TX.mn_Copy_list (T : TX K mg) : PySem.W.mroIn K (He.ga K "Copy") (.type "list") = some false := of_decide_eq_true (T.exf 93)
theorem TX.kt_list_Copy (T : TX K mg) : PySem.W.kitOne K (.type "list") (.ref (He.ga K "Copy")) = some false := of_decide_eq_true (T.exf 94)
theorem TX.kb_Copy_list (T : TX K mg) : PySem.W.kitOne K (.ref (He.ga K "Copy")) (.type "list") = some false := of_decide_eq_true (T.exf 95)
theorem TX.nf_Copy_list (T : TX K mg) : PySem.W.notFirst K (He.ga K "Copy") (.type "list") = true := T.exf 96
theorem TX.mn_Copy_tuple (T : TX K mg) : PySem.W.mroIn K (He.ga K "Copy") (.type "tuple") = some false := of_decide_eq_true (T.exf 97)
theorem TX.kt_tuple_Copy (T : TX K mg) : PySem.W.kitOne K (.type "tuple") (.ref (He.ga K "Copy")) = some false := of_decide_eq_true (T.exf 98)
theorem TX.kb_Copy_tuple (T : TX K mg) : PySem.W.kitOne K (.ref (He.ga K "Copy")) (.type "tuple") = some false := of_decide_eq_true (T.exf 99)
theorem TX.nf_Copy_tuple (T : TX K mg) : PySem.W.notFirst K (He.ga K "Copy") (.type "tuple") = true := T.exf 100
theorem TX.mn_Copy_dict (T : TX K mg) : PySem.W.mroIn K (He.ga K "Copy") (.type "dict") = some false := of_decide_eq_true (T.exf 101)
theorem TX.kt_dict_Copy (T : TX K mg) : PySem.W.kitOne K (.type "dict") (.ref (He.ga K "Copy")) = some false := of_decide_eq_true (T.exf 102)
theorem TX.kb_Copy_dict (T : TX K mg) : PySem.W.kitOne K (.ref (He.ga K "Copy")) (.type "dict") = some false := of_decide_eq_true (T.exf 103)
theorem TX.nf_Copy_dict (T : TX K mg) : PySem.W.notFirst K (He.ga K "Copy") (.type "dict") = true := T.exf 104
theorem TX.ko_Question_Copy (T : TX K mg) : PySem.W.kitOne K (.ref (He.ga K "Question")) (.ref (He.ga K "Copy")) = some false := of_decide_eq_true (T.exf 105)
theorem TX.nf_Copy_Question (T : TX K mg) : PySem.W.notFirst K (He.ga K "Copy") (.ref (He.ga K "Question")) = true := T.exf 106
theorem TX.ko_Bank_Copy (T : TX K mg) : PySem.W.kitOne K (.ref (He.ga K "Bank")) (.ref (He.ga K "Copy")) = some false := of_decide_eq_true (T.exf 107)
theorem TX.nf_Copy_Bank (T : TX K mg) : PySem.W.notFirst K (He.ga K "Copy") (.ref (He.ga K "Bank")) = true := T.exf 108
theorem TX.ko_Copy_Copy (T : TX K mg) : PySem.W.kitOne K (.ref (He.ga K "Copy")) (.ref (He.ga K "Copy")) = some true := of_decide_eq_true (T.exf 109)
theorem TX.nf_Copy_Copy (T : TX K mg) : PySem.W.notFirst K (He.ga K "Copy") (.ref (He.ga K "Copy")) = true := T.exf 110
theorem TX.x4 (T : TX K mg) : PySem.W.specialIn K (.builtin "object.__class__") "__get__" = some (some (.builtin "getset_descriptor.__get__")) := He.eqO_ok (T.exf 111)
theorem TX.x5 (T : TX K mg) : PySem.W.takesIn K (.builtin "object.__class__") = some true := of_decide_eq_true (T.exf 112)
theorem TX.i_Question (T : TX K mg) : IsC K (He.ga K "Question") := ⟨T.c_Question, T.x1_Question, T.x4, T.x5, T.x2_Question⟩
theorem TX.e_Question (T : TX K mg) : PySem.Pap.EqNe K (He.ga K "Question") (He.ma K (He.ga K "Question") "__eq__") := ⟨(T.m_QuestionX_eqX).at_, (T.m_QuestionX_eqX).fn, T.x3_Question, T.x2_Question⟩
theorem TX.o_QuestionX_lenX (T : TX K mg) : OwnM K (He.ga K "Question") "__len__" (He.ma K (He.ga K "Question") "__len__") := ⟨(T.m_QuestionX_lenX).at_, (T.m_QuestionX_lenX).fn⟩
theorem TX.o_QuestionX_strX (T : TX K mg) : OwnM K (He.ga K "Question") "__str__" (He.ma K (He.ga K "Question") "__str__") := ⟨(T.m_QuestionX_strX).at_, (T.m_QuestionX_strX).fn⟩
theorem TX.o_QuestionX_reprX (T : TX K mg) : OwnM K (He.ga K "Question") "__repr__" (He.ma K (He.ga K "Question") "__repr__") := ⟨(T.m_QuestionX_reprX).at_, (T.m_QuestionX_reprX).fn⟩
theorem TX.i_Bank (T : TX K mg) : IsC K (He.ga K "Bank") := ⟨T.c_Bank, T.x1_Bank, T.x4, T.x5, T.x2_Bank⟩
theorem TX.e_Bank (T : TX K mg) : PySem.Pap.EqNe K (He.ga K "Bank") (He.ma K (He.ga K "Bank") "__eq__") := ⟨(T.m_BankX_eqX).at_, (T.m_BankX_eqX).fn, T.x3_Bank, T.x2_Bank⟩
theorem TX.o_BankX_lenX (T : TX K mg) : OwnM K (He.ga K "Bank") "__len__" (He.ma K (He.ga K "Bank") "__len__") := ⟨(T.m_BankX_lenX).at_, (T.m_BankX_lenX).fn⟩
theorem TX.i_Copy (T : TX K mg) : IsC K (He.ga K "Copy") := ⟨T.c_Copy, T.x1_Copy, T.x4, T.x5, T.x2_Copy⟩
theorem TX.e_Copy (T : TX K mg) : PySem.Pap.EqNe K (He.ga K "Copy") (He.ma K (He.ga K "Copy") "__eq__") := ⟨(T.m_CopyX_eqX).at_, (T.m_CopyX_eqX).fn, T.x3_Copy, T.x2_Copy⟩
theorem TX.o_CopyX_lenX (T : TX K mg) : OwnM K (He.ga K "Copy") "__len__" (He.ma K (He.ga K "Copy") "__len__") := ⟨(T.m_CopyX_lenX).at_, (T.m_CopyX_lenX).fn⟩
theorem TX.o_CopyX_strX (T : TX K mg) : OwnM K (He.ga K "Copy") "__str__" (He.ma K (He.ga K "Copy") "__str__") := ⟨(T.m_CopyX_strX).at_, (T.m_CopyX_strX).fn⟩
theorem TX.o_CopyX_reprX (T : TX K mg) : OwnM K (He.ga K "Copy") "__repr__" (He.ma K (He.ga K "Copy") "__repr__") := ⟨(T.m_CopyX_reprX).at_, (T.m_CopyX_reprX).fn⟩
theorem TX.d_BadPaperX_initX (T : TX K mg) : ∃ fd, FunD K (d_BadPaperX_initX).name (d_BadPaperX_initX).qual (d_BadPaperX_initX).params (d_BadPaperX_initX).body (d_BadPaperX_initX).scope ((d_BadPaperX_initX).dvs K) ((d_BadPaperX_initX).kws K) (He.fAd K (d_BadPaperX_initX).at_) fd := T.says.def_ 0
theorem TX.d_BadQuestionX_initX (T : TX K mg) : ∃ fd, FunD K (d_BadQuestionX_initX).name (d_BadQuestionX_initX).qual (d_BadQuestionX_initX).params (d_BadQuestionX_initX).body (d_BadQuestionX_initX).scope ((d_BadQuestionX_initX).dvs K) ((d_BadQuestionX_initX).kws K) (He.fAd K (d_BadQuestionX_initX).at_) fd := T.says.def_ 1
theorem TX.d_BadQuestionX_strX (T : TX K mg) : ∃ fd, FunD K (d_BadQuestionX_strX).name (d_BadQuestionX_strX).qual (d_BadQuestionX_strX).params (d_BadQuestionX_strX).body (d_BadQuestionX_strX).scope ((d_BadQuestionX_strX).dvs K) ((d_BadQuestionX_strX).kws K) (He.fAd K (d_BadQuestionX_strX).at_) fd := T.says.def_ 2
theorem TX.d_NoSuchX_initX (T : TX K mg) : ∃ fd, FunD K (d_NoSuchX_initX).name (d_NoSuchX_initX).qual (d_NoSuchX_initX).params (d_NoSuchX_initX).body (d_NoSuchX_initX).scope ((d_NoSuchX_initX).dvs K) ((d_NoSuchX_initX).kws K) (He.fAd K (d_NoSuchX_initX).at_) fd := T.says.def_ 3
theorem TX.d_NoSuchX_strX (T : TX K mg) : ∃ fd, FunD K (d_NoSuchX_strX).name (d_NoSuchX_strX).qual (d_NoSuchX_strX).params (d_NoSuchX_strX).body (d_NoSuchX_strX).scope ((d_NoSuchX_strX).dvs K) ((d_NoSuchX_strX).kws K) (He.fAd K (d_NoSuchX_strX).at_) fd := T.says.def_ 4
theorem TX.d_NoPlaceX_initX (T : TX K mg) : ∃ fd, FunD K (d_NoPlaceX_initX).name (d_NoPlaceX_initX).qual (d_NoPlaceX_initX).params (d_NoPlaceX_initX).body (d_NoPlaceX_initX).scope ((d_NoPlaceX_initX).dvs K) ((d_NoPlaceX_initX).kws K) (He.fAd K (d_NoPlaceX_initX).at_) fd := T.says.def_ 5
theorem TX.d_TooManyX_initX (T : TX K mg) : ∃ fd, FunD K (d_TooManyX_initX).name (d_TooManyX_initX).qual (d_TooManyX_initX).params (d_TooManyX_initX).body (d_TooManyX_initX).scope ((d_TooManyX_initX).dvs K) ((d_TooManyX_initX).kws K) (He.fAd K (d_TooManyX_initX).at_) fd := T.says.def_ 6
theorem TX.d_TooManyX_strX (T : TX K mg) : ∃ fd, FunD K (d_TooManyX_strX).name (d_TooManyX_strX).qual (d_TooManyX_strX).params (d_TooManyX_strX).body (d_TooManyX_strX).scope ((d_TooManyX_strX).dvs K) ((d_TooManyX_strX).kws K) (He.fAd K (d_TooManyX_strX).at_) fd := T.says.def_ 7
theorem TX.d_BadKindX_initX (T : TX K mg) : ∃ fd, FunD K (d_BadKindX_initX).name (d_BadKindX_initX).qual (d_BadKindX_initX).params (d_BadKindX_initX).body (d_BadKindX_initX).scope ((d_BadKindX_initX).dvs K) ((d_BadKindX_initX).kws K) (He.fAd K (d_BadKindX_initX).at_) fd := T.says.def_ 8
theorem TX.d_TwiceX_initX (T : TX K mg) : ∃ fd, FunD K (d_TwiceX_initX).name (d_TwiceX_initX).qual (d_TwiceX_initX).params (d_TwiceX_initX).body (d_TwiceX_initX).scope ((d_TwiceX_initX).dvs K) ((d_TwiceX_initX).kws K) (He.fAd K (d_TwiceX_initX).at_) fd := T.says.def_ 9
theorem TX.d_is_whole (T : TX K mg) : ∃ fd, FunD K (d_is_whole).name (d_is_whole).qual (d_is_whole).params (d_is_whole).body (d_is_whole).scope ((d_is_whole).dvs K) ((d_is_whole).kws K) (He.fAd K (d_is_whole).at_) fd := T.says.def_ 10
theorem TX.d_is_number (T : TX K mg) : ∃ fd, FunD K (d_is_number).name (d_is_number).qual (d_is_number).params (d_is_number).body (d_is_number).scope ((d_is_number).dvs K) ((d_is_number).kws K) (He.fAd K (d_is_number).at_) fd := T.says.def_ 11
theorem TX.d_is_name (T : TX K mg) : ∃ fd, FunD K (d_is_name).name (d_is_name).qual (d_is_name).params (d_is_name).body (d_is_name).scope ((d_is_name).dvs K) ((d_is_name).kws K) (He.fAd K (d_is_name).at_) fd := T.says.def_ 12
theorem TX.d_is_text (T : TX K mg) : ∃ fd, FunD K (d_is_text).name (d_is_text).qual (d_is_text).params (d_is_text).body (d_is_text).scope ((d_is_text).dvs K) ((d_is_text).kws K) (He.fAd K (d_is_text).at_) fd := T.says.def_ 13
theorem TX.d_need_day (T : TX K mg) : ∃ fd, FunD K (d_need_day).name (d_need_day).qual (d_need_day).params (d_need_day).body (d_need_day).scope ((d_need_day).dvs K) ((d_need_day).kws K) (He.fAd K (d_need_day).at_) fd := T.says.def_ 14
theorem TX.d_are_answers (T : TX K mg) : ∃ fd, FunD K (d_are_answers).name (d_are_answers).qual (d_are_answers).params (d_are_answers).body (d_are_answers).scope ((d_are_answers).dvs K) ((d_are_answers).kws K) (He.fAd K (d_are_answers).at_) fd := T.says.def_ 15
theorem TX.d_is_of (T : TX K mg) : ∃ fd, FunD K (d_is_of).name (d_is_of).qual (d_is_of).params (d_is_of).body (d_is_of).scope ((d_is_of).dvs K) ((d_is_of).kws K) (He.fAd K (d_is_of).at_) fd := T.says.def_ 16
theorem TX.d_QuestionX_initX (T : TX K mg) : ∃ fd, FunD K (d_QuestionX_initX).name (d_QuestionX_initX).qual (d_QuestionX_initX).params (d_QuestionX_initX).body (d_QuestionX_initX).scope ((d_QuestionX_initX).dvs K) ((d_QuestionX_initX).kws K) (He.fAd K (d_QuestionX_initX).at_) fd := T.says.def_ 17
theorem TX.d_Question_parts (T : TX K mg) : ∃ fd, FunD K (d_Question_parts).name (d_Question_parts).qual (d_Question_parts).params (d_Question_parts).body (d_Question_parts).scope ((d_Question_parts).dvs K) ((d_Question_parts).kws K) (He.fAd K (d_Question_parts).at_) fd := T.says.def_ 18
theorem TX.d_QuestionX_eqX (T : TX K mg) : ∃ fd, FunD K (d_QuestionX_eqX).name (d_QuestionX_eqX).qual (d_QuestionX_eqX).params (d_QuestionX_eqX).body (d_QuestionX_eqX).scope ((d_QuestionX_eqX).dvs K) ((d_QuestionX_eqX).kws K) (He.fAd K (d_QuestionX_eqX).at_) fd := T.says.def_ 19
theorem TX.d_QuestionX_lenX (T : TX K mg) : ∃ fd, FunD K (d_QuestionX_lenX).name (d_QuestionX_lenX).qual (d_QuestionX_lenX).params (d_QuestionX_lenX).body (d_QuestionX_lenX).scope ((d_QuestionX_lenX).dvs K) ((d_QuestionX_lenX).kws K) (He.fAd K (d_QuestionX_lenX).at_) fd := T.says.def_ 20
theorem TX.d_QuestionX_reprX (T : TX K mg) : ∃ fd, FunD K (d_QuestionX_reprX).name (d_QuestionX_reprX).qual (d_QuestionX_reprX).params (d_QuestionX_reprX).body (d_QuestionX_reprX).scope ((d_QuestionX_reprX).dvs K) ((d_QuestionX_reprX).kws K) (He.fAd K (d_QuestionX_reprX).at_) fd := T.says.def_ 21
theorem TX.d_QuestionX_strX (T : TX K mg) : ∃ fd, FunD K (d_QuestionX_strX).name (d_QuestionX_strX).qual (d_QuestionX_strX).params (d_QuestionX_strX).body (d_QuestionX_strX).scope ((d_QuestionX_strX).dvs K) ((d_QuestionX_strX).kws K) (He.fAd K (d_QuestionX_strX).at_) fd := T.says.def_ 22
theorem TX.d_Question_turned (T : TX K mg) : ∃ fd, FunD K (d_Question_turned).name (d_Question_turned).qual (d_Question_turned).params (d_Question_turned).body (d_Question_turned).scope ((d_Question_turned).dvs K) ((d_Question_turned).kws K) (He.fAd K (d_Question_turned).at_) fd := T.says.def_ 23
theorem TX.d_need_question (T : TX K mg) : ∃ fd, FunD K (d_need_question).name (d_need_question).qual (d_need_question).params (d_need_question).body (d_need_question).scope ((d_need_question).dvs K) ((d_need_question).kws K) (He.fAd K (d_need_question).at_) fd := T.says.def_ 24
theorem TX.d_BankX_initX (T : TX K mg) : ∃ fd, FunD K (d_BankX_initX).name (d_BankX_initX).qual (d_BankX_initX).params (d_BankX_initX).body (d_BankX_initX).scope ((d_BankX_initX).dvs K) ((d_BankX_initX).kws K) (He.fAd K (d_BankX_initX).at_) fd := T.says.def_ 25
theorem TX.d_Bank_need_there (T : TX K mg) : ∃ fd, FunD K (d_Bank_need_there).name (d_Bank_need_there).qual (d_Bank_need_there).params (d_Bank_need_there).body (d_Bank_need_there).scope ((d_Bank_need_there).dvs K) ((d_Bank_need_there).kws K) (He.fAd K (d_Bank_need_there).at_) fd := T.says.def_ 26
theorem TX.d_Bank_added (T : TX K mg) : ∃ fd, FunD K (d_Bank_added).name (d_Bank_added).qual (d_Bank_added).params (d_Bank_added).body (d_Bank_added).scope ((d_Bank_added).dvs K) ((d_Bank_added).kws K) (He.fAd K (d_Bank_added).at_) fd := T.says.def_ 27
theorem TX.d_Bank_names (T : TX K mg) : ∃ fd, FunD K (d_Bank_names).name (d_Bank_names).qual (d_Bank_names).params (d_Bank_names).body (d_Bank_names).scope ((d_Bank_names).dvs K) ((d_Bank_names).kws K) (He.fAd K (d_Bank_names).at_) fd := T.says.def_ 28
theorem TX.d_Bank_names_in (T : TX K mg) : ∃ fd, FunD K (d_Bank_names_in).name (d_Bank_names_in).qual (d_Bank_names_in).params (d_Bank_names_in).body (d_Bank_names_in).scope ((d_Bank_names_in).dvs K) ((d_Bank_names_in).kws K) (He.fAd K (d_Bank_names_in).at_) fd := T.says.def_ 29
theorem TX.d_Bank_question (T : TX K mg) : ∃ fd, FunD K (d_Bank_question).name (d_Bank_question).qual (d_Bank_question).params (d_Bank_question).body (d_Bank_question).scope ((d_Bank_question).dvs K) ((d_Bank_question).kws K) (He.fAd K (d_Bank_question).at_) fd := T.says.def_ 30
theorem TX.d_Bank_last_day (T : TX K mg) : ∃ fd, FunD K (d_Bank_last_day).name (d_Bank_last_day).qual (d_Bank_last_day).params (d_Bank_last_day).body (d_Bank_last_day).scope ((d_Bank_last_day).dvs K) ((d_Bank_last_day).kws K) (He.fAd K (d_Bank_last_day).at_) fd := T.says.def_ 31
theorem TX.d_Bank_rests (T : TX K mg) : ∃ fd, FunD K (d_Bank_rests).name (d_Bank_rests).qual (d_Bank_rests).params (d_Bank_rests).body (d_Bank_rests).scope ((d_Bank_rests).dvs K) ((d_Bank_rests).kws K) (He.fAd K (d_Bank_rests).at_) fd := T.says.def_ 32
theorem TX.d_Bank_found (T : TX K mg) : ∃ fd, FunD K (d_Bank_found).name (d_Bank_found).qual (d_Bank_found).params (d_Bank_found).body (d_Bank_found).scope ((d_Bank_found).dvs K) ((d_Bank_found).kws K) (He.fAd K (d_Bank_found).at_) fd := T.says.def_ 33
theorem TX.d_Bank_standing (T : TX K mg) : ∃ fd, FunD K (d_Bank_standing).name (d_Bank_standing).qual (d_Bank_standing).params (d_Bank_standing).body (d_Bank_standing).scope ((d_Bank_standing).dvs K) ((d_Bank_standing).kws K) (He.fAd K (d_Bank_standing).at_) fd := T.says.def_ 34
theorem TX.d_BankX_eqX (T : TX K mg) : ∃ fd, FunD K (d_BankX_eqX).name (d_BankX_eqX).qual (d_BankX_eqX).params (d_BankX_eqX).body (d_BankX_eqX).scope ((d_BankX_eqX).dvs K) ((d_BankX_eqX).kws K) (He.fAd K (d_BankX_eqX).at_) fd := T.says.def_ 35
theorem TX.d_BankX_lenX (T : TX K mg) : ∃ fd, FunD K (d_BankX_lenX).name (d_BankX_lenX).qual (d_BankX_lenX).params (d_BankX_lenX).body (d_BankX_lenX).scope ((d_BankX_lenX).dvs K) ((d_BankX_lenX).kws K) (He.fAd K (d_BankX_lenX).at_) fd := T.says.def_ 36
theorem TX.d_need_bank (T : TX K mg) : ∃ fd, FunD K (d_need_bank).name (d_need_bank).qual (d_need_bank).params (d_need_bank).body (d_need_bank).scope ((d_need_bank).dvs K) ((d_need_bank).kws K) (He.fAd K (d_need_bank).at_) fd := T.says.def_ 37
theorem TX.d_is_paper (T : TX K mg) : ∃ fd, FunD K (d_is_paper).name (d_is_paper).qual (d_is_paper).params (d_is_paper).body (d_is_paper).scope ((d_is_paper).dvs K) ((d_is_paper).kws K) (He.fAd K (d_is_paper).at_) fd := T.says.def_ 38
theorem TX.d_need_paper (T : TX K mg) : ∃ fd, FunD K (d_need_paper).name (d_need_paper).qual (d_need_paper).params (d_need_paper).body (d_need_paper).scope ((d_need_paper).dvs K) ((d_need_paper).kws K) (He.fAd K (d_need_paper).at_) fd := T.says.def_ 39
theorem TX.d_need_ready (T : TX K mg) : ∃ fd, FunD K (d_need_ready).name (d_need_ready).qual (d_need_ready).params (d_need_ready).body (d_need_ready).scope ((d_need_ready).dvs K) ((d_need_ready).kws K) (He.fAd K (d_need_ready).at_) fd := T.says.def_ 40
theorem TX.d_questions_of (T : TX K mg) : ∃ fd, FunD K (d_questions_of).name (d_questions_of).qual (d_questions_of).params (d_questions_of).body (d_questions_of).scope ((d_questions_of).dvs K) ((d_questions_of).kws K) (He.fAd K (d_questions_of).at_) fd := T.says.def_ 41
theorem TX.d_CopyX_initX (T : TX K mg) : ∃ fd, FunD K (d_CopyX_initX).name (d_CopyX_initX).qual (d_CopyX_initX).params (d_CopyX_initX).body (d_CopyX_initX).scope ((d_CopyX_initX).dvs K) ((d_CopyX_initX).kws K) (He.fAd K (d_CopyX_initX).at_) fd := T.says.def_ 42
theorem TX.d_Copy_copy_by (T : TX K mg) : ∃ fd, FunD K (d_Copy_copy_by).name (d_Copy_copy_by).qual (d_Copy_copy_by).params (d_Copy_copy_by).body (d_Copy_copy_by).scope ((d_Copy_copy_by).dvs K) ((d_Copy_copy_by).kws K) (He.fAd K (d_Copy_copy_by).at_) fd := T.says.def_ 43
theorem TX.d_Copy_need_place (T : TX K mg) : ∃ fd, FunD K (d_Copy_need_place).name (d_Copy_need_place).qual (d_Copy_need_place).params (d_Copy_need_place).body (d_Copy_need_place).scope ((d_Copy_need_place).dvs K) ((d_Copy_need_place).kws K) (He.fAd K (d_Copy_need_place).at_) fd := T.says.def_ 44
theorem TX.d_Copy_origin (T : TX K mg) : ∃ fd, FunD K (d_Copy_origin).name (d_Copy_origin).qual (d_Copy_origin).params (d_Copy_origin).body (d_Copy_origin).scope ((d_Copy_origin).dvs K) ((d_Copy_origin).kws K) (He.fAd K (d_Copy_origin).at_) fd := T.says.def_ 45
theorem TX.d_Copy_question_at (T : TX K mg) : ∃ fd, FunD K (d_Copy_question_at).name (d_Copy_question_at).qual (d_Copy_question_at).params (d_Copy_question_at).body (d_Copy_question_at).scope ((d_Copy_question_at).dvs K) ((d_Copy_question_at).kws K) (He.fAd K (d_Copy_question_at).at_) fd := T.says.def_ 46
theorem TX.d_Copy_told_names (T : TX K mg) : ∃ fd, FunD K (d_Copy_told_names).name (d_Copy_told_names).qual (d_Copy_told_names).params (d_Copy_told_names).body (d_Copy_told_names).scope ((d_Copy_told_names).dvs K) ((d_Copy_told_names).kws K) (He.fAd K (d_Copy_told_names).at_) fd := T.says.def_ 47
theorem TX.d_Copy_gone_on (T : TX K mg) : ∃ fd, FunD K (d_Copy_gone_on).name (d_Copy_gone_on).qual (d_Copy_gone_on).params (d_Copy_gone_on).body (d_Copy_gone_on).scope ((d_Copy_gone_on).dvs K) ((d_Copy_gone_on).kws K) (He.fAd K (d_Copy_gone_on).at_) fd := T.says.def_ 48
theorem TX.d_Copy_first_one (T : TX K mg) : ∃ fd, FunD K (d_Copy_first_one).name (d_Copy_first_one).qual (d_Copy_first_one).params (d_Copy_first_one).body (d_Copy_first_one).scope ((d_Copy_first_one).dvs K) ((d_Copy_first_one).kws K) (He.fAd K (d_Copy_first_one).at_) fd := T.says.def_ 49
theorem TX.d_CopyX_eqX (T : TX K mg) : ∃ fd, FunD K (d_CopyX_eqX).name (d_CopyX_eqX).qual (d_CopyX_eqX).params (d_CopyX_eqX).body (d_CopyX_eqX).scope ((d_CopyX_eqX).dvs K) ((d_CopyX_eqX).kws K) (He.fAd K (d_CopyX_eqX).at_) fd := T.says.def_ 50
theorem TX.d_CopyX_lenX (T : TX K mg) : ∃ fd, FunD K (d_CopyX_lenX).name (d_CopyX_lenX).qual (d_CopyX_lenX).params (d_CopyX_lenX).body (d_CopyX_lenX).scope ((d_CopyX_lenX).dvs K) ((d_CopyX_lenX).kws K) (He.fAd K (d_CopyX_lenX).at_) fd := T.says.def_ 51
theorem TX.d_CopyX_strX (T : TX K mg) : ∃ fd, FunD K (d_CopyX_strX).name (d_CopyX_strX).qual (d_CopyX_strX).params (d_CopyX_strX).body (d_CopyX_strX).scope ((d_CopyX_strX).dvs K) ((d_CopyX_strX).kws K) (He.fAd K (d_CopyX_strX).at_) fd := T.says.def_ 52
theorem TX.d_CopyX_reprX (T : TX K mg) : ∃ fd, FunD K (d_CopyX_reprX).name (d_CopyX_reprX).qual (d_CopyX_reprX).params (d_CopyX_reprX).body (d_CopyX_reprX).scope ((d_CopyX_reprX).dvs K) ((d_CopyX_reprX).kws K) (He.fAd K (d_CopyX_reprX).at_) fd := T.says.def_ 53
theorem TX.d_need_copy (T : TX K mg) : ∃ fd, FunD K (d_need_copy).name (d_need_copy).qual (d_need_copy).params (d_need_copy).body (d_need_copy).scope ((d_need_copy).dvs K) ((d_need_copy).kws K) (He.fAd K (d_need_copy).at_) fd := T.says.def_ 54
theorem TX.d_shared_divisor (T : TX K mg) : ∃ fd, FunD K (d_shared_divisor).name (d_shared_divisor).qual (d_shared_divisor).params (d_shared_divisor).body (d_shared_divisor).scope ((d_shared_divisor).dvs K) ((d_shared_divisor).kws K) (He.fAd K (d_shared_divisor).at_) fd := T.says.def_ 55
theorem TX.d_round_length (T : TX K mg) : ∃ fd, FunD K (d_round_length).name (d_round_length).qual (d_round_length).params (d_round_length).body (d_round_length).scope ((d_round_length).dvs K) ((d_round_length).kws K) (He.fAd K (d_round_length).at_) fd := T.says.def_ 56
theorem TX.d_law_begun (T : TX K mg) : ∃ fd, FunD K (d_law_begun).name (d_law_begun).qual (d_law_begun).params (d_law_begun).body (d_law_begun).scope ((d_law_begun).dvs K) ((d_law_begun).kws K) (He.fAd K (d_law_begun).at_) fd := T.says.def_ 57
theorem TX.d_law_draw (T : TX K mg) : ∃ fd, FunD K (d_law_draw).name (d_law_draw).qual (d_law_draw).params (d_law_draw).body (d_law_draw).scope ((d_law_draw).dvs K) ((d_law_draw).kws K) (He.fAd K (d_law_draw).at_) fd := T.says.def_ 58
theorem TX.d_law_of (T : TX K mg) : ∃ fd, FunD K (d_law_of).name (d_law_of).qual (d_law_of).params (d_law_of).body (d_law_of).scope ((d_law_of).dvs K) ((d_law_of).kws K) (He.fAd K (d_law_of).at_) fd := T.says.def_ 59
theorem TX.d_law_names (T : TX K mg) : ∃ fd, FunD K (d_law_names).name (d_law_names).qual (d_law_names).params (d_law_names).body (d_law_names).scope ((d_law_names).dvs K) ((d_law_names).kws K) (He.fAd K (d_law_names).at_) fd := T.says.def_ 60
theorem TX.d_law_answers (T : TX K mg) : ∃ fd, FunD K (d_law_answers).name (d_law_answers).qual (d_law_answers).params (d_law_answers).body (d_law_answers).scope ((d_law_answers).dvs K) ((d_law_answers).kws K) (He.fAd K (d_law_answers).at_) fd := T.says.def_ 61
theorem TX.d_law_rows (T : TX K mg) : ∃ fd, FunD K (d_law_rows).name (d_law_rows).qual (d_law_rows).params (d_law_rows).body (d_law_rows).scope ((d_law_rows).dvs K) ((d_law_rows).kws K) (He.fAd K (d_law_rows).at_) fd := T.says.def_ 62
theorem TX.d_law_asked (T : TX K mg) : ∃ fd, FunD K (d_law_asked).name (d_law_asked).qual (d_law_asked).params (d_law_asked).body (d_law_asked).scope ((d_law_asked).dvs K) ((d_law_asked).kws K) (He.fAd K (d_law_asked).at_) fd := T.says.def_ 63
theorem TX.d_law_bank (T : TX K mg) : ∃ fd, FunD K (d_law_bank).name (d_law_bank).qual (d_law_bank).params (d_law_bank).body (d_law_bank).scope ((d_law_bank).dvs K) ((d_law_bank).kws K) (He.fAd K (d_law_bank).at_) fd := T.says.def_ 64
theorem TX.d_law_paper (T : TX K mg) : ∃ fd, FunD K (d_law_paper).name (d_law_paper).qual (d_law_paper).params (d_law_paper).body (d_law_paper).scope ((d_law_paper).dvs K) ((d_law_paper).kws K) (He.fAd K (d_law_paper).at_) fd := T.says.def_ 65
theorem TX.d_law_by (T : TX K mg) : ∃ fd, FunD K (d_law_by).name (d_law_by).qual (d_law_by).params (d_law_by).body (d_law_by).scope ((d_law_by).dvs K) ((d_law_by).kws K) (He.fAd K (d_law_by).at_) fd := T.says.def_ 66
theorem TX.d_law_row_at (T : TX K mg) : ∃ fd, FunD K (d_law_row_at).name (d_law_row_at).qual (d_law_row_at).params (d_law_row_at).body (d_law_row_at).scope ((d_law_row_at).dvs K) ((d_law_row_at).kws K) (He.fAd K (d_law_row_at).at_) fd := T.says.def_ 67
theorem TX.d_law_size (T : TX K mg) : ∃ fd, FunD K (d_law_size).name (d_law_size).qual (d_law_size).params (d_law_size).body (d_law_size).scope ((d_law_size).dvs K) ((d_law_size).kws K) (He.fAd K (d_law_size).at_) fd := T.says.def_ 68
theorem TX.d_law_number (T : TX K mg) : ∃ fd, FunD K (d_law_number).name (d_law_number).qual (d_law_number).params (d_law_number).body (d_law_number).scope ((d_law_number).dvs K) ((d_law_number).kws K) (He.fAd K (d_law_number).at_) fd := T.says.def_ 69
theorem TX.d_law_all (T : TX K mg) : ∃ fd, FunD K (d_law_all).name (d_law_all).qual (d_law_all).params (d_law_all).body (d_law_all).scope ((d_law_all).dvs K) ((d_law_all).kws K) (He.fAd K (d_law_all).at_) fd := T.says.def_ 70
theorem TX.d_law_otherwise (T : TX K mg) : ∃ fd, FunD K (d_law_otherwise).name (d_law_otherwise).qual (d_law_otherwise).params (d_law_otherwise).body (d_law_otherwise).scope ((d_law_otherwise).dvs K) ((d_law_otherwise).kws K) (He.fAd K (d_law_otherwise).at_) fd := T.says.def_ 71
theorem TX.d_law_round (T : TX K mg) : ∃ fd, FunD K (d_law_round).name (d_law_round).qual (d_law_round).params (d_law_round).body (d_law_round).scope ((d_law_round).dvs K) ((d_law_round).kws K) (He.fAd K (d_law_round).at_) fd := T.says.def_ 72
theorem TX.d_law_forty_right (T : TX K mg) : ∃ fd, FunD K (d_law_forty_right).name (d_law_forty_right).qual (d_law_forty_right).params (d_law_forty_right).body (d_law_forty_right).scope ((d_law_forty_right).dvs K) ((d_law_forty_right).kws K) (He.fAd K (d_law_forty_right).at_) fd := T.says.def_ 73
theorem TX.d_law_like (T : TX K mg) : ∃ fd, FunD K (d_law_like).name (d_law_like).qual (d_law_like).params (d_law_like).body (d_law_like).scope ((d_law_like).dvs K) ((d_law_like).kws K) (He.fAd K (d_law_like).at_) fd := T.says.def_ 74
theorem TX.d_law (T : TX K mg) : ∃ fd, FunD K (d_law).name (d_law).qual (d_law).params (d_law).body (d_law).scope ((d_law).dvs K) ((d_law).kws K) (He.fAd K (d_law).at_) fd := T.says.def_ 75
end Pap

set_option maxHeartbeats 4000000
/-! S1: words. -/
namespace Pap
open PySem PySem.Spec PyProof.Rows L2 PT
local macro_rules | `(tactic| walk_at "q1") => `(tactic| first
  | with_reducible refine sw_seq ?_
  | with_reducible refine sw_ret ?_
  | with_reducible refine sw_if ?_
  | with_reducible refine sw_next ?_
  | with_reducible refine sw_drop ?_
  | with_reducible refine sw_retN ?_
  | with_reducible refine sw_set ?_
  | with_reducible refine sw_par ?_
  | with_reducible refine sw_par3 ?_
  | with_reducible refine sw_asg ?_
  | with_reducible refine gw_name ?_
  | with_reducible refine gsw_cons ?_
  | with_reducible refine gsw_nil ?_
  | with_reducible refine tw_or ?_
  | with_reducible refine tw_and ?_
  | with_reducible refine tw_not ?_
  | with_reducible refine tw_B ?_
  | with_reducible refine tw_test ?_
  | with_reducible refine tw_yes ?_
  | with_reducible refine ew_cb ?_
  | with_reducible refine ew_c ?_
  | with_reducible refine ew_op ?_
  | with_reducible refine ew_chain ?_
  | with_reducible refine ew_notV ?_
  | with_reducible refine ew_andV ?_
  | with_reducible refine ew_orV ?_
  | with_reducible refine ew_un ?_
  | with_reducible refine ew_then ?_
  | with_reducible refine ew_sl ?_
  | with_reducible refine ow_no ?_
  | with_reducible refine ow_some ?_
  | with_reducible refine ew_tup ?_
  | with_reducible refine ew_lst ?_
  | with_reducible refine ew_tupF ?_
  | with_reducible refine ew_dnew ?_
  | with_reducible refine ew_call ?_
  | with_reducible refine ew_callN ?_
  | with_reducible refine ew_make ?_
  | with_reducible refine ew_makeN ?_
  | with_reducible refine ew_meth ?_
  | with_reducible refine ew_methK ?_
  | with_reducible refine ew_tm ?_
  | with_reducible refine ew_bm ?_
  | with_reducible refine ew_bm0 ?_
  | with_reducible refine aw_nil ?_
  | with_reducible refine aw_cons ?_
  | (with_reducible refine ew_varE ?_; refine ⟨_, rfl, ?_⟩)
  | with_reducible refine le_int ?_
  | with_reducible refine lt_int ?_
  | with_reducible refine ge_int ?_
  | with_reducible refine gt_int ?_
  | with_reducible refine eq_int ?_
  | with_reducible refine ne_int ?_
  | with_reducible refine eq_str ?_
  | with_reducible refine ne_str ?_
  | with_reducible refine add_int ?_
  | with_reducible refine sub_int ?_
  | with_reducible refine is_n ?_
  | with_reducible refine isn_n ?_
  | with_reducible refine isi_ii ?_
  | with_reducible refine isi_ib ?_
  | with_reducible refine isi_ss ?_
  | (with_reducible refine ⟨rfl, rfl, ?_⟩)
  | with_reducible refine up_rt ?_
  | with_reducible refine up_nx ?_
  | with_reducible refine tt_ ?_
  | with_reducible refine ff_ ?_
  | with_reducible refine ⟨_, rfl, ?_⟩
  | rw [Bool.not_true]
  | rw [Bool.not_false]
  | (show _ ∧ _; with_reducible refine tt_ ?_)
  | (show _ ∧ _; with_reducible refine ff_ ?_)
  | fail "q1: no step")
local macro_rules | `(tactic| walk_at "q") => `(tactic| repeat walk_at "q1")
local macro_rules | `(tactic| walk_at "le") => `(tactic| repeat (first | with_reducible exact Le.refl | with_reducible refine Le.drop ?_ | with_reducible refine Le.app ?_))
local macro_rules | `(tactic| walk_at "nq") => `(tactic| first | exact TX.n_Question_name (by assumption) | exact TX.n_Question_matter (by assumption) | exact TX.n_Question_answers (by assumption) | exact TX.n_Question_right (by assumption) | exact TX.n_Question_toil (by assumption) | exact TX.n_Question_marks (by assumption) | exact TX.n_Question_kin (by assumption))
local macro_rules | `(tactic| walk_at "fl") => `(tactic| refine ⟨_, _, _, rfl, .inl (by assumption), _, rfl, ?_⟩)
local macro_rules | `(tactic| walk_at "fq") => `(tactic| (walk_at "q"; (with_reducible refine ew_fldE (TX.c_Question (by assumption)) (by walk_at "nq") ?_); walk_at "q"; walk_at "fl"; walk_at "q"))

section
variable {P : Program} {w : World} {K : PySem.W.Frag} {mg : Str → Option Value} {base : Heap}
abbrev N_is_whole : List Str := ["thing", "least", "most"]
abbrev ps_is_whole : List Str := ["thing", "least", "most"]
theorem sc_is_whole : FnScope N_is_whole ps_is_whole (defScope s_is_whole) := ⟨rfl, rfl, rfl, by decide +kernel, rfl, by decide +kernel, by decide +kernel⟩
def rd_is_whole (K : PySem.W.Frag) : TS := (tRet (tAndV (tCB (rIsi K) (tCons (tVar 0) (tCons (tC (.ty "int")) tNil))) (tAndV (tNotV (tCB (rIsi K) (tCons (tVar 0) (tCons (tC (.ty "bool")) tNil)))) (tChain rLeU rLeU (tVar 1) (tVar 0) (tVar 2)))))
def sp_is_whole (K : PySem.W.Frag) : SpW := fun vs B M Q E => ∃ i l m, vs = [.int i, .int l, .int m] ∧ Q (.bl (decide (l ≤ i) && decide (i ≤ m))) B M
theorem len_is_whole (K : PySem.W.Frag) : ∀ vs B M Q E, sp_is_whole K vs B M Q E → vs.length = ps_is_whole.length := by
  intro _ _ _ _ _ h
  unfold sp_is_whole at h
  repeat (first | (obtain ⟨rfl, _⟩ := h; rfl) | (obtain ⟨_, h⟩ := h))
theorem pure_is_whole (T : TX K mg) : ∀ vs B M Q E, sp_is_whole K vs B M Q E → SW (rd_is_whole K) (DW.up ⟨fun _ B M => Q .non B M, Q, fun _ _ _ => False, fun _ _ _ => False⟩) (start N_is_whole vs) B M := by
  rintro _ B M Q E ⟨i, l, m, rfl, q⟩
  unfold rd_is_whole
  walk_at "q"
  refine ⟨fun h => ?_, fun h => ?_⟩
  · rw [h] at q
    walk_at "q"
    exact .le Le.refl q
  · rw [h] at q
    exact .le Le.refl q
theorem ok_is_whole (T : TX K mg) : Fnk P w K mg base d_is_whole ps_is_whole 1 (spW (sp_is_whole K)) :=
  fnk_of (N := N_is_whole) (rd_is_whole K) T.d_is_whole sc_is_whole (len_is_whole K) (fun f cdv A outer sh H E hr => (pss_one (ps_ret (pe_and (pe_callB call_isi (by rfl) T.f_isinstance (by decide +kernel) (pa_cons (pv 0) (pa_cons (pe_bltn (v := .ty "int") rfl T.f_int boot_int rfl) pa_nil))) (pe_and (pe_not (pe_callB call_isi (by rfl) T.f_isinstance (by decide +kernel) (pa_cons (pv 0) (pa_cons (pe_bltn (v := .ty "bool") rfl T.f_bool boot_bool rfl) pa_nil)))) (pe_one (pe_chain op_leU op_leU (pv 1) (pv 0) (pv 2)))))))) (pure_is_whole T)
abbrev N_is_number : List Str := ["thing"]
abbrev ps_is_number : List Str := ["thing"]
theorem sc_is_number : FnScope N_is_number ps_is_number (defScope s_is_number) := ⟨rfl, rfl, rfl, by decide +kernel, rfl, by decide +kernel, by decide +kernel⟩
def rd_is_number (K : PySem.W.Frag) : TS := (tRet (tAndV (tCB (rIsi K) (tCons (tVar 0) (tCons (tC (.ty "int")) tNil))) (tNotV (tCB (rIsi K) (tCons (tVar 0) (tCons (tC (.ty "bool")) tNil))))))
def sp_is_number (K : PySem.W.Frag) : SpW := fun vs B M Q E => ∃ i, vs = [.int i] ∧ Q (.bl true) B M
theorem len_is_number (K : PySem.W.Frag) : ∀ vs B M Q E, sp_is_number K vs B M Q E → vs.length = ps_is_number.length := by
  intro _ _ _ _ _ h
  unfold sp_is_number at h
  repeat (first | (obtain ⟨rfl, _⟩ := h; rfl) | (obtain ⟨_, h⟩ := h))
theorem pure_is_number (T : TX K mg) : ∀ vs B M Q E, sp_is_number K vs B M Q E → SW (rd_is_number K) (DW.up ⟨fun _ B M => Q .non B M, Q, fun _ _ _ => False, fun _ _ _ => False⟩) (start N_is_number vs) B M := by
  rintro _ B M Q E ⟨i, rfl, q⟩
  unfold rd_is_number
  walk_at "q"
  exact .le Le.refl q
theorem ok_is_number (T : TX K mg) : Fnk P w K mg base d_is_number ps_is_number 1 (spW (sp_is_number K)) :=
  fnk_of (N := N_is_number) (rd_is_number K) T.d_is_number sc_is_number (len_is_number K) (fun f cdv A outer sh H E hr => (pss_one (ps_ret (pe_and (pe_callB call_isi (by rfl) T.f_isinstance (by decide +kernel) (pa_cons (pv 0) (pa_cons (pe_bltn (v := .ty "int") rfl T.f_int boot_int rfl) pa_nil))) (pe_one (pe_not (pe_callB call_isi (by rfl) T.f_isinstance (by decide +kernel) (pa_cons (pv 0) (pa_cons (pe_bltn (v := .ty "bool") rfl T.f_bool boot_bool rfl) pa_nil))))))))) (pure_is_number T)
def letters : Str := "abcdefghijklmnopqrstuvwxyz"
def signs : Str := " !\"#$&'()*+,-./0123456789:;<=>?@ABCDEFGHIJKLMNOPQRSTUVWXYZ[\\]^_`abcdefghijklmnopqrstuvwxyz{|}~"
def nameB (z : Str) : Bool := (decide (1 ≤ (z.length : Int)) && decide ((z.length : Int) ≤ 8)) && z.cps.toList.all fun c => decide (c ∈ letters.cps.toList)
def textB (z : Str) : Bool := (decide (1 ≤ (z.length : Int)) && decide ((z.length : Int) ≤ 30)) && ((z.cps.toList.all fun c => decide (c ∈ signs.cps.toList)) && decide (z = Txt.stripChars z " "))
theorem all_id {α : Type} (l : List α) (f : α → Bool) : (l.map f).all id = l.all f := by rw [List.all_map]; rfl
abbrev N_is_name : List Str := ["thing", "sign"]
abbrev ps_is_name : List Str := ["thing"]
theorem sc_is_name : FnScope N_is_name ps_is_name (defScope s_is_name) := ⟨rfl, rfl, rfl, by decide +kernel, rfl, by decide +kernel, by decide +kernel⟩
def rd_is_name (K : PySem.W.Frag) : TS := (tSeq (tIfS (tOr (tNot (tB (tCB (rIsi K) (tCons (tVar 0) (tCons (tC (.ty "str")) tNil))))) (tNot (tTest (tChain rLeU rLeU (tC (.int (1))) (tCB (rLenU K) (tCons (tVar 0) tNil)) (tC (.int (8))))))) (tRet (tC (.bl false))) tNext) (tRet (tCB (rAll K) (tCons (tLc (iAny K (tVar 0)) (gName 1) tYes (tOp (rInU K) (tVar 1) (tC (.str "abcdefghijklmnopqrstuvwxyz"))) [1]) tNil))))
def sp_is_name (K : PySem.W.Frag) : SpW := fun vs B M Q E => ∃ z, vs = [.str z] ∧ z.length ≤ sizeLine ∧ Q (.bl (nameB z)) B M
theorem len_is_name (K : PySem.W.Frag) : ∀ vs B M Q E, sp_is_name K vs B M Q E → vs.length = ps_is_name.length := by
  intro _ _ _ _ _ h
  unfold sp_is_name at h
  repeat (first | (obtain ⟨rfl, _⟩ := h; rfl) | (obtain ⟨_, h⟩ := h))
theorem pure_is_name (T : TX K mg) : ∀ vs B M Q E, sp_is_name K vs B M Q E → SW (rd_is_name K) (DW.up ⟨fun _ B M => Q .non B M, Q, fun _ _ _ => False, fun _ _ _ => False⟩) (start N_is_name vs) B M := by
  rintro _ B M Q E ⟨z, rfl, hz, q⟩
  unfold rd_is_name
  unfold nameB at q
  walk_at "q"
  refine len_s hz ?_
  walk_at "q"
  refine ⟨fun h1 => ?_, fun h1 => ?_⟩
  · walk_at "q"
    refine ⟨fun h2 => ?_, fun h2 => ?_⟩
    · walk_at "q"
      have h3 : decide ((z.length : Int) ≤ 8) = false := by simpa using h2
      rw [h3, Bool.and_false] at q
      exact .le Le.refl q
    · walk_at "q"
      have h3 : decide ((z.length : Int) ≤ 8) = true := by simpa using h2
      rw [h1, h3, Bool.true_and, Bool.true_and] at q
      refine lc_str ?_
      walk_at "q"
      refine ⟨z, fun c => .bl (decide (c ∈ letters.cps.toList)), rfl, hz, fun D acc c hc => ?_, fun D => ?_⟩
      · walk_at "q"
        exact in_sg ⟨rfl, Le.refl⟩
      · walk_at "q"
        refine all_ (bs := z.cps.toList.map fun c => decide (c ∈ letters.cps.toList)) (.of (.inr (by rw [List.map_map]; exact List.mem_cons_self ..))) ?_
        rw [all_id]
        exact .le (Le.drop Le.refl) q
  · walk_at "q"
    rw [h1] at q
    exact .le Le.refl q
theorem ok_is_name (T : TX K mg) : Fnk P w K mg base d_is_name ps_is_name 1 (spW (sp_is_name K)) :=
  fnk_of (N := N_is_name) (rd_is_name K) T.d_is_name sc_is_name (len_is_name K) (fun f cdv A outer sh H E hr => (pss_cons (ps_if (PW.pt (pw_or (pt_not (pt_val (pe_callB call_isi (by rfl) T.f_isinstance (by decide +kernel) (pa_cons (pv 0) (pa_cons (pe_bltn (v := .ty "str") rfl T.f_str boot_str rfl) pa_nil))))) (pw_or1 (pt_not (pt_chain op_leU op_leU pe_int (pe_callB call_lenU (by rfl) T.f_len (by decide +kernel) (pa_cons (pv 0) pa_nil)) (C8.pe_gc rfl T.k_LONGEST_NAME)))))) (pss_one (ps_ret pe_bl)) pss_nil) (pss_one (ps_ret (pe_callB (cr_all rfl) (by rfl) T.f_all (by decide +kernel) (pa_cons (pe_lc (own := [("sign", 1)]) rfl sc_is_name.nd (pi_any (pv 0)) (blkOk_by (own := [("sign", 1)]) (N := N_is_name) (sc := defScope s_is_name) (by decide +kernel)) (fun _ _ _ _ _ => (pg_name (i := 1) sc_is_name.nd rfl (Or.inl rfl))) (fun _ _ _ _ _ => pts_nil) (fun _ _ _ _ _ => (pe_cmpR op_inU (pv 1) (C8.pe_gc rfl T.k_LETTERS) (by rfl)))) pa_nil)))))) (pure_is_name T)
abbrev N_is_text : List Str := ["thing", "sign"]
abbrev ps_is_text : List Str := ["thing"]
theorem sc_is_text : FnScope N_is_text ps_is_text (defScope s_is_text) := ⟨rfl, rfl, rfl, by decide +kernel, rfl, by decide +kernel, by decide +kernel⟩
def rd_is_text (K : PySem.W.Frag) : TS := (tSeq (tIfS (tOr (tNot (tB (tCB (rIsi K) (tCons (tVar 0) (tCons (tC (.ty "str")) tNil))))) (tNot (tTest (tChain rLeU rLeU (tC (.int (1))) (tCB (rLenU K) (tCons (tVar 0) tNil)) (tC (.int (30))))))) (tRet (tC (.bl false))) tNext) (tRet (tAndV (tCB (rAll K) (tCons (tLc (iAny K (tVar 0)) (gName 1) tYes (tOp (rInU K) (tVar 1) (tC (.str " !\"#$&'()*+,-./0123456789:;<=>?@ABCDEFGHIJKLMNOPQRSTUVWXYZ[\\]^_`abcdefghijklmnopqrstuvwxyz{|}~"))) [1]) tNil)) (tOp (rEqU K) (tVar 0) (tBM K "str" rStripC (tVar 0) (tCons (tC (.str " ")) tNil))))))
def sp_is_text (K : PySem.W.Frag) : SpW := fun vs B M Q E => ∃ z, vs = [.str z] ∧ z.length ≤ sizeLine ∧ Q (.bl (textB z)) B M
theorem len_is_text (K : PySem.W.Frag) : ∀ vs B M Q E, sp_is_text K vs B M Q E → vs.length = ps_is_text.length := by
  intro _ _ _ _ _ h
  unfold sp_is_text at h
  repeat (first | (obtain ⟨rfl, _⟩ := h; rfl) | (obtain ⟨_, h⟩ := h))
theorem pure_is_text (T : TX K mg) : ∀ vs B M Q E, sp_is_text K vs B M Q E → SW (rd_is_text K) (DW.up ⟨fun _ B M => Q .non B M, Q, fun _ _ _ => False, fun _ _ _ => False⟩) (start N_is_text vs) B M := by
  rintro _ B M Q E ⟨z, rfl, hz, q⟩
  unfold rd_is_text
  unfold textB at q
  walk_at "q"
  refine len_s hz ?_
  walk_at "q"
  refine ⟨fun h1 => ?_, fun h1 => ?_⟩
  · walk_at "q"
    refine ⟨fun h2 => ?_, fun h2 => ?_⟩
    · walk_at "q"
      have h3 : decide ((z.length : Int) ≤ 30) = false := by simpa using h2
      rw [h3, Bool.and_false] at q
      exact .le Le.refl q
    · walk_at "q"
      have h3 : decide ((z.length : Int) ≤ 30) = true := by simpa using h2
      rw [h1, h3, Bool.true_and, Bool.true_and] at q
      refine lc_str ?_
      walk_at "q"
      refine ⟨z, fun c => .bl (decide (c ∈ signs.cps.toList)), rfl, hz, fun D acc c hc => ?_, fun D => ?_⟩
      · walk_at "q"
        exact in_sg ⟨rfl, Le.refl⟩
      · walk_at "q"
        refine all_ (bs := z.cps.toList.map fun c => decide (c ∈ signs.cps.toList)) (.of (.inr (by rw [List.map_map]; exact List.mem_cons_self ..))) ?_
        rw [all_id]
        walk_at "q"
        refine ⟨fun h4 => ?_, fun h4 => ?_⟩
        · rw [h4, Bool.true_and] at q
          walk_at "q"
          refine ⟨TyMW.s, ?_⟩
          walk_at "q"
          refine strip_ hz ?_
          walk_at "q"
          exact .le (Le.drop Le.refl) q
        · rw [h4] at q
          exact .le (Le.drop Le.refl) q
  · walk_at "q"
    rw [h1] at q
    exact .le Le.refl q
theorem ok_is_text (T : TX K mg) : Fnk P w K mg base d_is_text ps_is_text 1 (spW (sp_is_text K)) :=
  fnk_of (N := N_is_text) (rd_is_text K) T.d_is_text sc_is_text (len_is_text K) (fun f cdv A outer sh H E hr => (pss_cons (ps_if (PW.pt (pw_or (pt_not (pt_val (pe_callB call_isi (by rfl) T.f_isinstance (by decide +kernel) (pa_cons (pv 0) (pa_cons (pe_bltn (v := .ty "str") rfl T.f_str boot_str rfl) pa_nil))))) (pw_or1 (pt_not (pt_chain op_leU op_leU pe_int (pe_callB call_lenU (by rfl) T.f_len (by decide +kernel) (pa_cons (pv 0) pa_nil)) (C8.pe_gc rfl T.k_LONGEST_TEXT)))))) (pss_one (ps_ret pe_bl)) pss_nil) (pss_one (ps_ret (pe_and (pe_callB (cr_all rfl) (by rfl) T.f_all (by decide +kernel) (pa_cons (pe_lc (own := [("sign", 1)]) rfl sc_is_text.nd (pi_any (pv 0)) (blkOk_by (own := [("sign", 1)]) (N := N_is_text) (sc := defScope s_is_text) (by decide +kernel)) (fun _ _ _ _ _ => (pg_name (i := 1) sc_is_text.nd rfl (Or.inl rfl))) (fun _ _ _ _ _ => pts_nil) (fun _ _ _ _ _ => (pe_cmpR op_inU (pv 1) (C8.pe_gc rfl T.k_SIGNS) (by rfl)))) pa_nil)) (pe_one (pe_cmpR (op_eqU hr.units) (pv 0) (pe_bm PySem.F.plainAttrs_str PySem.F.slot_str_strip PySem.F.type_str_strip mt_stripChars (pv 0) (pa_cons pe_str pa_nil)) (nomark _)))))))) (pure_is_text T)
abbrev N_is_of : List Str := ["kin"]
abbrev ps_is_of : List Str := ["kin"]
theorem sc_is_of : FnScope N_is_of ps_is_of (defScope s_is_of) := ⟨rfl, rfl, rfl, by decide +kernel, rfl, by decide +kernel, by decide +kernel⟩
theorem bp_is_name_1 {K : PySem.W.Frag} : BindP K d_is_name ps_is_name [] := bindP_n rfl rfl fun _ _ _ _ _ _ us hl => match us, hl with | [_], _ => rfl
def rd_is_of (K : PySem.W.Frag) : TS := (tRet (tOrV (tAndV (tCB (rIsi K) (tCons (tVar 0) (tCons (tC (.ty "str")) tNil))) (tOp (rEqU K) (tVar 0) (tC (.str "")))) (tCall (spW (sp_is_name K)) [] E0 (tCons (tVar 0) tNil))))
def sp_is_of (K : PySem.W.Frag) : SpW := fun vs B M Q E => ∃ z, vs = [.str z] ∧ z.length ≤ sizeLine ∧ Q (.bl (decide (z = "") || nameB z)) B M
theorem len_is_of (K : PySem.W.Frag) : ∀ vs B M Q E, sp_is_of K vs B M Q E → vs.length = ps_is_of.length := by
  intro _ _ _ _ _ h
  unfold sp_is_of at h
  repeat (first | (obtain ⟨rfl, _⟩ := h; rfl) | (obtain ⟨_, h⟩ := h))
theorem pure_is_of (T : TX K mg) : ∀ vs B M Q E, sp_is_of K vs B M Q E → SW (rd_is_of K) (DW.up ⟨fun _ B M => Q .non B M, Q, fun _ _ _ => False, fun _ _ _ => False⟩) (start N_is_of vs) B M := by
  rintro _ B M Q E ⟨z, rfl, hz, q⟩
  unfold rd_is_of
  walk_at "q"
  refine ⟨fun h1 => ?_, fun h1 => ?_⟩
  · have h2 : z = "" := of_decide_eq_true h1
    rw [decide_eq_true h2, Bool.true_or] at q
    exact .le Le.refl q
  · have h2 : ¬ z = "" := of_decide_eq_false h1
    rw [decide_eq_false h2, Bool.false_or] at q
    walk_at "q"
    exact cw_of ⟨z, rfl, hz, (.le Le.refl q)⟩
theorem ok_is_of (T : TX K mg) : Fnk P w K mg base d_is_of ps_is_of 2 (spW (sp_is_of K)) :=
  fnk_of (N := N_is_of) (rd_is_of K) T.d_is_of sc_is_of (len_is_of K) (fun f cdv A outer sh H E hr => (pss_one (ps_ret (pe_or (pe_and (pe_callB call_isi (by rfl) T.f_isinstance (by decide +kernel) (pa_cons (pv 0) (pa_cons (pe_bltn (v := .ty "str") rfl T.f_str boot_str rfl) pa_nil))) (pe_one (pe_cmpR (op_eqU hr.units) (pv 0) pe_str (nomark _)))) (pe_one (pe_fn (ok_is_name T) bp_is_name_1 hr (by decide) rfl T.g_is_name (pa_cons (pv 0) pa_nil))))))) (pure_is_of T)
end
end Pap

set_option maxHeartbeats 4000000
/-! S2: questions. -/
namespace Pap
open PySem PySem.Spec PyProof.Rows L2 PT
local macro_rules | `(tactic| walk_at "q1") => `(tactic| first
  | with_reducible refine sw_seq ?_
  | with_reducible refine sw_ret ?_
  | with_reducible refine sw_if ?_
  | with_reducible refine sw_next ?_
  | with_reducible refine sw_drop ?_
  | with_reducible refine sw_retN ?_
  | with_reducible refine sw_set ?_
  | with_reducible refine sw_par ?_
  | with_reducible refine sw_par3 ?_
  | with_reducible refine sw_asg ?_
  | with_reducible refine gw_name ?_
  | with_reducible refine gsw_cons ?_
  | with_reducible refine gsw_nil ?_
  | with_reducible refine tw_or ?_
  | with_reducible refine tw_and ?_
  | with_reducible refine tw_not ?_
  | with_reducible refine tw_B ?_
  | with_reducible refine tw_test ?_
  | with_reducible refine tw_yes ?_
  | with_reducible refine ew_cb ?_
  | with_reducible refine ew_c ?_
  | with_reducible refine ew_op ?_
  | with_reducible refine ew_chain ?_
  | with_reducible refine ew_notV ?_
  | with_reducible refine ew_andV ?_
  | with_reducible refine ew_orV ?_
  | with_reducible refine ew_un ?_
  | with_reducible refine ew_then ?_
  | with_reducible refine ew_sl ?_
  | with_reducible refine ow_no ?_
  | with_reducible refine ow_some ?_
  | with_reducible refine ew_tup ?_
  | with_reducible refine ew_lst ?_
  | with_reducible refine ew_tupF ?_
  | with_reducible refine ew_dnew ?_
  | with_reducible refine ew_call ?_
  | with_reducible refine ew_callN ?_
  | with_reducible refine ew_make ?_
  | with_reducible refine ew_makeN ?_
  | with_reducible refine ew_meth ?_
  | with_reducible refine ew_methK ?_
  | with_reducible refine ew_tm ?_
  | with_reducible refine ew_bm ?_
  | with_reducible refine ew_bm0 ?_
  | with_reducible refine aw_nil ?_
  | with_reducible refine aw_cons ?_
  | (with_reducible refine ew_varE ?_; refine ⟨_, rfl, ?_⟩)
  | with_reducible refine le_int ?_
  | with_reducible refine lt_int ?_
  | with_reducible refine ge_int ?_
  | with_reducible refine gt_int ?_
  | with_reducible refine eq_int ?_
  | with_reducible refine ne_int ?_
  | with_reducible refine eq_str ?_
  | with_reducible refine ne_str ?_
  | with_reducible refine add_int ?_
  | with_reducible refine sub_int ?_
  | with_reducible refine is_n ?_
  | with_reducible refine isn_n ?_
  | with_reducible refine isi_ii ?_
  | with_reducible refine isi_ib ?_
  | with_reducible refine isi_ss ?_
  | (with_reducible refine ⟨rfl, rfl, ?_⟩)
  | with_reducible refine up_rt ?_
  | with_reducible refine up_nx ?_
  | with_reducible refine tt_ ?_
  | with_reducible refine ff_ ?_
  | with_reducible refine ⟨_, rfl, ?_⟩
  | rw [Bool.not_true]
  | rw [Bool.not_false]
  | (show _ ∧ _; with_reducible refine tt_ ?_)
  | (show _ ∧ _; with_reducible refine ff_ ?_)
  | fail "q1: no step")
local macro_rules | `(tactic| walk_at "q") => `(tactic| repeat walk_at "q1")
local macro_rules | `(tactic| walk_at "le") => `(tactic| repeat (first | with_reducible exact Le.refl | with_reducible refine Le.drop ?_ | with_reducible refine Le.app ?_))
local macro_rules | `(tactic| walk_at "nq") => `(tactic| first | exact TX.n_Question_name (by assumption) | exact TX.n_Question_matter (by assumption) | exact TX.n_Question_answers (by assumption) | exact TX.n_Question_right (by assumption) | exact TX.n_Question_toil (by assumption) | exact TX.n_Question_marks (by assumption) | exact TX.n_Question_kin (by assumption))
local macro_rules | `(tactic| walk_at "fl") => `(tactic| refine ⟨_, _, _, rfl, .inl (by assumption), _, rfl, ?_⟩)
local macro_rules | `(tactic| walk_at "fq") => `(tactic| (walk_at "q"; (with_reducible refine ew_fldE (TX.c_Question (by assumption)) (by walk_at "nq") ?_); walk_at "q"; walk_at "fl"; walk_at "q"))

structure Qn where
  name : Str
  matter : Str
  ans : List Str
  right : Int
  toil : Int
  marks : Int
  kin : Str
  deriving DecidableEq
structure AnsOk (ans : List Str) : Prop where
  lo : 2 ≤ ans.length
  hi : ans.length ≤ 6
  nd : ans.Nodup
  tx : ∀ z ∈ ans, textB z = true
structure QOk (q : Qn) : Prop where
  nm : nameB q.name = true
  mt : nameB q.matter = true
  an : AnsOk q.ans
  r0 : 0 ≤ q.right
  r1 : q.right < q.ans.length
  t0 : 1 ≤ q.toil
  t1 : q.toil ≤ 9
  m0 : 1 ≤ q.marks
  m1 : q.marks ≤ 9
  kn : q.kin = "" ∨ nameB q.kin = true
theorem nameB_len {z : Str} (h : nameB z = true) : 1 ≤ z.length ∧ z.length ≤ 8 := by
  unfold nameB at h
  simp only [Bool.and_eq_true, decide_eq_true_eq] at h
  omega
theorem textB_len {z : Str} (h : textB z = true) : 1 ≤ z.length ∧ z.length ≤ 30 := by
  unfold textB at h
  simp only [Bool.and_eq_true, decide_eq_true_eq] at h
  omega
theorem le_line {n k : Nat} (h : n ≤ k) (hk : k ≤ 1000 := by decide) : n ≤ sizeLine := by rw [sizeLine_eq]; omega
def AnsAt (B : Hp) (b : Addr) (ans : List Str) : Prop := ∃ u, TD u (ans.map V.str) ∧ B b = some u
theorem AnsAt.F {B : Hp} {M : MM} {b : Addr} {ans : List Str} (h : AnsAt B b ans) : TupF B M b (ans.map V.str) := let ⟨u, h1, h2⟩ := h; ⟨u, h1, .inl h2⟩
theorem AnsAt.ex {B B' : Hp} {b : Addr} {ans : List Str} (h : AnsAt B b ans) (e : Ex B B') : AnsAt B' b ans := let ⟨u, h1, h2⟩ := h; ⟨u, h1, e _ _ h2⟩
def qVs (q : Qn) (b : Addr) : List V := [.str q.name, .str q.matter, .ref b, .int q.right, .int q.toil, .int q.marks, .str q.kin]
def qFs (q : Qn) (b : Addr) : List (Str × V) := [("name", .str q.name), ("matter", .str q.matter), ("answers", .ref b), ("right", .int q.right), ("toil", .int q.toil), ("marks", .int q.marks), ("kin", .str q.kin)]
def QAt (K : PySem.W.Frag) (B : Hp) (a : Addr) (q : Qn) : Prop := ∃ dx b, B a = some (.ins (He.ga K "Question") dx (qFs q b)) ∧ AnsAt B b q.ans
theorem QAt.ex {K : PySem.W.Frag} {B B' : Hp} {a : Addr} {q : Qn} (h : QAt K B a q) (e : Ex B B') : QAt K B' a q := let ⟨dx, b, h1, h2⟩ := h; ⟨dx, b, e _ _ h1, h2.ex e⟩
section
variable {P : Program} {w : World} {K : PySem.W.Frag} {mg : Str → Option Value} {base : Heap}
abbrev N_are_answers : List Str := ["thing", "one", "at"]
abbrev ps_are_answers : List Str := ["thing"]
theorem sc_are_answers : FnScope N_are_answers ps_are_answers (defScope s_are_answers) := ⟨rfl, rfl, rfl, by decide +kernel, rfl, by decide +kernel, by decide +kernel⟩
theorem bp_is_text_1 {K : PySem.W.Frag} : BindP K d_is_text ps_is_text [] := bindP_n rfl rfl fun _ _ _ _ _ _ us hl => match us, hl with | [_], _ => rfl
def rd_are_answers (K : PySem.W.Frag) : TS := (tSeq (tIfS (tOr (tNot (tB (tCB (rIsi K) (tCons (tVar 0) (tCons (tC (.ty "tuple")) tNil))))) (tOr (tNot (tTest (tChain rLeU rLeU (tC (.int (2))) (tCB (rLenU K) (tCons (tVar 0) tNil)) (tC (.int (6)))))) (tNot (tB (tCB (rAll K) (tCons (tLc (iAny K (tVar 0)) (gName 1) tYes (tCall (spW (sp_is_text K)) [] E0 (tCons (tVar 1) tNil)) [1]) tNil)))))) (tRet (tC (.bl false))) tNext) (tRet (tCB (rAll K) (tCons (tLc (iEnumA K (tCons (tVar 0) tNil)) (gTup K 2 (gCons (gName 2) (gCons (gName 1) gNil))) tYes (tOp (rEqU K) (tTM (rTIx K) (tVar 0) (tCons (tVar 1) tNil)) (tVar 2)) [2, 1]) tNil))))
def sp_are_answers (K : PySem.W.Frag) : SpW := fun vs B M Q E => ∃ b ans, vs = [.ref b] ∧ AnsAt B b ans ∧ AnsOk ans ∧ Q (.bl true) B M
theorem len_are_answers (K : PySem.W.Frag) : ∀ vs B M Q E, sp_are_answers K vs B M Q E → vs.length = ps_are_answers.length := by
  intro _ _ _ _ _ h
  unfold sp_are_answers at h
  repeat (first | (obtain ⟨rfl, _⟩ := h; rfl) | (obtain ⟨_, h⟩ := h))
theorem pure_are_answers (T : TX K mg) : ∀ vs B M Q E, sp_are_answers K vs B M Q E → SW (rd_are_answers K) (DW.up ⟨fun _ B M => Q .non B M, Q, fun _ _ _ => False, fun _ _ _ => False⟩) (start N_are_answers vs) B M := by
  rintro _ B M Q E ⟨b, ans, rfl, hb, ok, q⟩
  have hl : ans.length ≤ sizeLine := le_line ok.hi
  unfold rd_are_answers
  walk_at "q"
  refine isi_tt hb.F.ty ?_
  walk_at "q"
  refine len_t hb.F.W ?_
  walk_at "q"
  rw [List.length_map]
  refine ⟨fun _ => ?_, fun h => absurd h (by rw [decide_eq_true (by have := ok.lo; omega)]; decide)⟩
  walk_at "q"
  refine ⟨fun h => absurd h (by rw [decide_eq_true (by have := ok.hi; omega)]; decide), fun _ => ?_⟩
  walk_at "q"
  refine lc_seq ?_
  walk_at "q"
  refine ⟨b, ans.map V.str, fun _ => .bl true, rfl, .inr hb.F.W, by rw [List.length_map]; exact hl, fun D acc i x hx => ?_, fun D => ?_⟩
  · rw [List.getElem?_map, Option.map_eq_some_iff] at hx
    obtain ⟨z, hz, rfl⟩ := hx
    have ht := ok.tx z (List.mem_of_getElem? hz)
    walk_at "q"
    exact cw_of ⟨z, rfl, le_line (textB_len ht).2, by rw [ht], Le.refl⟩
  · walk_at "q"
    refine all_ (bs := (List.range (ans.map V.str).length).map fun _ => true) (.of (.inr (by rw [List.map_map]; exact List.mem_cons_self ..))) ?_
    rw [show ((List.range (ans.map V.str).length).map fun _ => true).all id = true by simp]
    walk_at "q"
    refine ew_lcP (iw_enumA ?_)
    walk_at "q"
    refine ⟨b, ans.map V.str, true, rfl, SqXW.t hb.F.W, _, _, _, fun _ => true, fun _ => .bl true, runs_enumC, by rw [List.length_map]; exact hl, fun D acc => SqXW.t hb.F.W, ?_, fun D => ?_⟩
    · rintro D i x acc B' M' hi ⟨Tt, y, z, rfl, rfl, hz, rfl, rfl⟩
      rw [List.getElem?_map, Option.map_eq_some_iff] at hz
      obtain ⟨z, hz, rfl⟩ := hz
      refine gw_tup (.of .here) rfl ?_
      walk_at "q"
      refine ⟨rfl, tw_yes ⟨rfl, nofun, fun _ => ?_⟩⟩
      walk_at "q"
      refine ⟨⟨b, _, rfl, hb.F⟩, ?_⟩
      walk_at "q"
      refine tix_ (zs := ans) (n := i) hb.F.W hz (fun m hm h => ?_) ?_
      · obtain ⟨h1, h2⟩ := List.getElem?_eq_some_iff.mp h
        obtain ⟨h3, h4⟩ := List.getElem?_eq_some_iff.mp hz
        exact (List.pairwise_iff_getElem.mp ok.nd) m i h1 h3 hm (h2.trans h4.symm)
      · walk_at "q"
        refine ⟨by simp, Le.drop Le.refl⟩
    · walk_at "q"
      refine all_ (bs := (List.range (ans.map V.str).length).map fun _ => true) (.of (.inr (by rw [List.map_map, List.filter_eq_self.mpr fun _ _ => rfl]; exact List.mem_cons_self ..))) ?_
      rw [show ((List.range (ans.map V.str).length).map fun _ => true).all id = true by simp]
      exact .le (Le.drop (Le.drop Le.refl)) q
theorem ok_are_answers (T : TX K mg) : Fnk P w K mg base d_are_answers ps_are_answers 2 (spW (sp_are_answers K)) :=
  fnk_of (N := N_are_answers) (rd_are_answers K) T.d_are_answers sc_are_answers (len_are_answers K) (fun f cdv A outer sh H E hr => (pss_cons (ps_if (PW.pt (pw_or (pt_not (pt_val (pe_callB call_isi (by rfl) T.f_isinstance (by decide +kernel) (pa_cons (pv 0) (pa_cons (pe_bltn (v := .ty "tuple") rfl T.f_tuple boot_tuple rfl) pa_nil))))) (pw_or (pt_not (pt_chain op_leU op_leU (C8.pe_gc rfl T.k_FEWEST) (pe_callB call_lenU (by rfl) T.f_len (by decide +kernel) (pa_cons (pv 0) pa_nil)) (C8.pe_gc rfl T.k_MOST))) (pw_or1 (pt_not (pt_val (pe_callB (cr_all rfl) (by rfl) T.f_all (by decide +kernel) (pa_cons (pe_lc (own := [("one", 1)]) rfl sc_are_answers.nd (pi_any (pv 0)) (blkOk_by (own := [("one", 1)]) (N := N_are_answers) (sc := defScope s_are_answers) (by decide +kernel)) (fun _ _ _ _ _ => (pg_name (i := 1) sc_are_answers.nd rfl (Or.inl rfl))) (fun _ _ _ _ _ => pts_nil) (fun _ _ _ _ _ => (pe_fn (ok_is_text T) bp_is_text_1 hr (by decide) rfl T.g_is_text (pa_cons (pv 1) pa_nil)))) pa_nil)))))))) (pss_one (ps_ret pe_bl)) pss_nil) (pss_one (ps_ret (pe_callB (cr_all rfl) (by rfl) T.f_all (by decide +kernel) (pa_cons (pe_lc (own := [("at", 2), ("one", 1)]) rfl sc_are_answers.nd (pi_enumA rfl T.f_enumerate (pa_cons (pv 0) pa_nil)) (blkOk_by (own := [("at", 2), ("one", 1)]) (N := N_are_answers) (sc := defScope s_are_answers) (by decide +kernel)) (fun _ _ _ _ _ => (pg_tup rfl (pgs_cons (pg_name (i := 2) sc_are_answers.nd rfl (Or.inl rfl)) (pgs_cons (pg_name (i := 1) sc_are_answers.nd rfl (Or.inl rfl)) pgs_nil)))) (fun _ _ _ _ _ => pts_nil) (fun _ _ _ _ _ => (pe_cmpR (op_eqU hr.units) (pe_tm PySem.F.plainAttrs_tuple PySem.F.slot_tuple_index (by rfl) mt_tup_index (pv 0) (pa_cons (pv 1) pa_nil)) (pv 2) (nomark _)))) pa_nil)))))) (pure_are_answers T)
end
end Pap

set_option maxHeartbeats 4000000
/-! S3: Question. -/
namespace Pap
open PySem PySem.Spec PyProof.Rows L2 PT
local macro_rules | `(tactic| walk_at "q1") => `(tactic| first
  | with_reducible refine sw_seq ?_
  | with_reducible refine sw_ret ?_
  | with_reducible refine sw_if ?_
  | with_reducible refine sw_next ?_
  | with_reducible refine sw_drop ?_
  | with_reducible refine sw_retN ?_
  | with_reducible refine sw_set ?_
  | with_reducible refine sw_par ?_
  | with_reducible refine sw_par3 ?_
  | with_reducible refine sw_asg ?_
  | with_reducible refine gw_name ?_
  | with_reducible refine gsw_cons ?_
  | with_reducible refine gsw_nil ?_
  | with_reducible refine tw_or ?_
  | with_reducible refine tw_and ?_
  | with_reducible refine tw_not ?_
  | with_reducible refine tw_B ?_
  | with_reducible refine tw_test ?_
  | with_reducible refine tw_yes ?_
  | with_reducible refine ew_cb ?_
  | with_reducible refine ew_c ?_
  | with_reducible refine ew_op ?_
  | with_reducible refine ew_chain ?_
  | with_reducible refine ew_notV ?_
  | with_reducible refine ew_andV ?_
  | with_reducible refine ew_orV ?_
  | with_reducible refine ew_un ?_
  | with_reducible refine ew_then ?_
  | with_reducible refine ew_sl ?_
  | with_reducible refine ow_no ?_
  | with_reducible refine ow_some ?_
  | with_reducible refine ew_tup ?_
  | with_reducible refine ew_lst ?_
  | with_reducible refine ew_tupF ?_
  | with_reducible refine ew_dnew ?_
  | with_reducible refine ew_call ?_
  | with_reducible refine ew_callN ?_
  | with_reducible refine ew_make ?_
  | with_reducible refine ew_makeN ?_
  | with_reducible refine ew_meth ?_
  | with_reducible refine ew_methK ?_
  | with_reducible refine ew_tm ?_
  | with_reducible refine ew_bm ?_
  | with_reducible refine ew_bm0 ?_
  | with_reducible refine aw_nil ?_
  | with_reducible refine aw_cons ?_
  | (with_reducible refine ew_varE ?_; refine ⟨_, rfl, ?_⟩)
  | with_reducible refine le_int ?_
  | with_reducible refine lt_int ?_
  | with_reducible refine ge_int ?_
  | with_reducible refine gt_int ?_
  | with_reducible refine eq_int ?_
  | with_reducible refine ne_int ?_
  | with_reducible refine eq_str ?_
  | with_reducible refine ne_str ?_
  | with_reducible refine add_int ?_
  | with_reducible refine sub_int ?_
  | with_reducible refine is_n ?_
  | with_reducible refine isn_n ?_
  | with_reducible refine isi_ii ?_
  | with_reducible refine isi_ib ?_
  | with_reducible refine isi_ss ?_
  | (with_reducible refine ⟨rfl, rfl, ?_⟩)
  | with_reducible refine up_rt ?_
  | with_reducible refine up_nx ?_
  | with_reducible refine tt_ ?_
  | with_reducible refine ff_ ?_
  | with_reducible refine ⟨_, rfl, ?_⟩
  | rw [Bool.not_true]
  | rw [Bool.not_false]
  | (show _ ∧ _; with_reducible refine tt_ ?_)
  | (show _ ∧ _; with_reducible refine ff_ ?_)
  | fail "q1: no step")
local macro_rules | `(tactic| walk_at "q") => `(tactic| repeat walk_at "q1")
local macro_rules | `(tactic| walk_at "le") => `(tactic| repeat (first | with_reducible exact Le.refl | with_reducible refine Le.drop ?_ | with_reducible refine Le.app ?_))
local macro_rules | `(tactic| walk_at "nq") => `(tactic| first | exact TX.n_Question_name (by assumption) | exact TX.n_Question_matter (by assumption) | exact TX.n_Question_answers (by assumption) | exact TX.n_Question_right (by assumption) | exact TX.n_Question_toil (by assumption) | exact TX.n_Question_marks (by assumption) | exact TX.n_Question_kin (by assumption))
local macro_rules | `(tactic| walk_at "fl") => `(tactic| refine ⟨_, _, _, rfl, .inl (by assumption), _, rfl, ?_⟩)
local macro_rules | `(tactic| walk_at "fq") => `(tactic| (walk_at "q"; (with_reducible refine ew_fldE (TX.c_Question (by assumption)) (by walk_at "nq") ?_); walk_at "q"; walk_at "fl"; walk_at "q"))

section
variable {P : Program} {w : World} {K : PySem.W.Frag} {mg : Str → Option Value} {base : Heap}
abbrev N_QuestionX_initX : List Str := ["self", "name", "matter", "answers", "right", "toil", "marks", "kin"]
abbrev ps_QuestionX_initX : List Str := ["self", "name", "matter", "answers", "right", "toil", "marks", "kin"]
theorem sc_QuestionX_initX : FnScope N_QuestionX_initX ps_QuestionX_initX (defScope s_QuestionX_initX) := ⟨rfl, rfl, rfl, by decide +kernel, rfl, by decide +kernel, by decide +kernel⟩
theorem bk_is_whole_1_least_most {K : PySem.W.Frag} : BindK K d_is_whole ps_is_whole 1 ["least", "most"] (fun vs zs => vs ++ zs) := bindK_d 1 ["least", "most"] (fun us its ws => us ++ ws) (by intro h; cases h) (fun r1 r2 r3 => (Vals.append r1 r3)) fun _ _ _ _ _ _ _ us its ws h1 h2 h3 => match us, its, ws, h1, h2, h3 with | [_], [_, _], [_, _], _, _, _ => ⟨_, rfl, rfl⟩
theorem bk_is_whole_1_most {K : PySem.W.Frag} : BindK K d_is_whole ps_is_whole 1 ["most"] (fun vs zs => vs ++ (((([.int (0), .int (9999)] : List V))).drop 0).take 1 ++ zs) := bindK_d 1 ["most"] (fun us its ws => us ++ ((its).drop 0).take 1 ++ ws) (by intro h; cases h) (fun r1 r2 r3 => (Vals.append (Vals.append r1 ((r2.drop 0).take 1)) r3)) fun _ _ _ _ _ _ _ us its ws h1 h2 h3 => match us, its, ws, h1, h2, h3 with | [_], [_, _], [_], _, _, _ => ⟨_, rfl, rfl⟩
theorem bp_are_answers_1 {K : PySem.W.Frag} : BindP K d_are_answers ps_are_answers [] := bindP_n rfl rfl fun _ _ _ _ _ _ us hl => match us, hl with | [_], _ => rfl
theorem bp_is_of_1 {K : PySem.W.Frag} : BindP K d_is_of ps_is_of [] := bindP_n rfl rfl fun _ _ _ _ _ _ us hl => match us, hl with | [_], _ => rfl
def rd_QuestionX_initX (K : PySem.W.Frag) : TS := (tSeq (tIfS (tNot (tB (tCall (spW (sp_is_name K)) [] E0 (tCons (tVar 1) tNil)))) tNever tNext) (tSeq (tIfS (tNot (tB (tCall (spW (sp_is_name K)) [] E0 (tCons (tVar 2) tNil)))) tNever tNext) (tSeq (tIfS (tNot (tB (tCall (spW (sp_are_answers K)) [] E0 (tCons (tVar 3) tNil)))) tNever tNext) (tSeq (tIfS (tNot (tB (tCallN 1 1 (spW (sp_is_whole K)) (fun vs zs => vs ++ (((([.int (0), .int (9999)] : List V))).drop 0).take 1 ++ zs) E0 (tCons (tVar 4) tNil) (tCons (tOp (rSubI) (tCB (rLenU K) (tCons (tVar 3) tNil)) (tC (.int (1)))) tNil)))) tNever tNext) (tSeq (tIfS (tNot (tB (tCallN 1 2 (spW (sp_is_whole K)) (fun vs zs => vs ++ zs) E0 (tCons (tVar 5) tNil) (tCons (tC (.int (1))) (tCons (tC (.int (9))) tNil))))) tNever tNext) (tSeq (tIfS (tNot (tB (tCallN 1 2 (spW (sp_is_whole K)) (fun vs zs => vs ++ zs) E0 (tCons (tVar 6) tNil) (tCons (tC (.int (1))) (tCons (tC (.int (9))) tNil))))) tNever tNext) (tSeq (tIfS (tNot (tB (tCall (spW (sp_is_of K)) [] E0 (tCons (tVar 7) tNil)))) tNever tNext) (tSeq (sFld K (tVar 0) (tVar 1) "name") (tSeq (sFld K (tVar 0) (tVar 2) "matter") (tSeq (sFld K (tVar 0) (tVar 3) "answers") (tSeq (sFld K (tVar 0) (tVar 4) "right") (tSeq (sFld K (tVar 0) (tVar 5) "toil") (tSeq (sFld K (tVar 0) (tVar 6) "marks") (sFld K (tVar 0) (tVar 7) "kin"))))))))))))))
def sp_QuestionX_initX (K : PySem.W.Frag) : SpW := fun vs B M Q E => ∃ x dx R q b, vs = .ref x :: qVs q b ∧ M = (x, .ins (He.ga K "Question") dx []) :: R ∧ AnsAt B b q.ans ∧ QOk q ∧ Q .non B ((x, .ins (He.ga K "Question") dx (qFs q b)) :: R)
theorem len_QuestionX_initX (K : PySem.W.Frag) : ∀ vs B M Q E, sp_QuestionX_initX K vs B M Q E → vs.length = ps_QuestionX_initX.length := by
  intro _ _ _ _ _ h
  unfold sp_QuestionX_initX at h
  repeat (first | (obtain ⟨rfl, _⟩ := h; rfl) | (obtain ⟨_, h⟩ := h))
theorem pure_QuestionX_initX (T : TX K mg) : ∀ vs B M Q E, sp_QuestionX_initX K vs B M Q E → SW (rd_QuestionX_initX K) (DW.up ⟨fun _ B M => Q .non B M, Q, fun _ _ _ => False, fun _ _ _ => False⟩) (start N_QuestionX_initX vs) B M := by
  rintro _ B _ Q E ⟨x, dx, R, q, b, rfl, rfl, hb, ok, hq⟩
  unfold rd_QuestionX_initX qVs
  walk_at "q"
  refine cw_of ⟨_, rfl, le_line (nameB_len ok.nm).2, ?_⟩
  rw [ok.nm]
  walk_at "q"
  refine cw_of ⟨_, rfl, le_line (nameB_len ok.mt).2, ?_⟩
  rw [ok.mt]
  walk_at "q"
  refine cw_of ⟨_, _, rfl, hb, ok.an, ?_⟩
  walk_at "q"
  refine len_t hb.F.W ?_
  walk_at "q"
  rw [List.length_map]
  refine cw_of ⟨_, _, _, rfl, ?_⟩
  rw [decide_eq_true ok.r0, decide_eq_true (by have := ok.r1; omega), Bool.true_and]
  walk_at "q"
  refine cw_of ⟨_, _, _, rfl, ?_⟩
  rw [decide_eq_true ok.t0, decide_eq_true ok.t1, Bool.true_and]
  walk_at "q"
  refine cw_of ⟨_, _, _, rfl, ?_⟩
  rw [decide_eq_true ok.m0, decide_eq_true ok.m1, Bool.true_and]
  walk_at "q"
  have hk : (decide (q.kin = "") || nameB q.kin) = true := by
    rcases ok.kn with h | h
    · rw [decide_eq_true h]; rfl
    · rw [h, Bool.or_true]
  have hkl : q.kin.length ≤ sizeLine := by
    rcases ok.kn with h | h
    · rw [h]; decide
    · exact le_line (nameB_len h).2
  refine cw_of ⟨_, rfl, hkl, ?_⟩
  rw [hk]
  walk_at "q"
  refine sw_fldN T.c_Question T.n_Question_name ?_
  walk_at "q"
  refine ⟨x, dx, _, _, rfl, rfl, rfl, by decide, ?_⟩
  simp only [List.cons_append, List.nil_append]
  walk_at "q"
  refine sw_fldN T.c_Question T.n_Question_matter ?_
  walk_at "q"
  refine ⟨x, dx, _, _, rfl, rfl, rfl, by simp, ?_⟩
  simp only [List.cons_append, List.nil_append]
  walk_at "q"
  refine sw_fldN T.c_Question T.n_Question_answers ?_
  walk_at "q"
  refine ⟨x, dx, _, _, rfl, rfl, rfl, by simp, ?_⟩
  simp only [List.cons_append, List.nil_append]
  walk_at "q"
  refine sw_fldN T.c_Question T.n_Question_right ?_
  walk_at "q"
  refine ⟨x, dx, _, _, rfl, rfl, rfl, by simp, ?_⟩
  simp only [List.cons_append, List.nil_append]
  walk_at "q"
  refine sw_fldN T.c_Question T.n_Question_toil ?_
  walk_at "q"
  refine ⟨x, dx, _, _, rfl, rfl, rfl, by simp, ?_⟩
  simp only [List.cons_append, List.nil_append]
  walk_at "q"
  refine sw_fldN T.c_Question T.n_Question_marks ?_
  walk_at "q"
  refine ⟨x, dx, _, _, rfl, rfl, rfl, by simp, ?_⟩
  simp only [List.cons_append, List.nil_append]
  walk_at "q"
  refine sw_fldN T.c_Question T.n_Question_kin ?_
  walk_at "q"
  refine ⟨x, dx, _, _, rfl, rfl, rfl, by simp, ?_⟩
  simp only [List.cons_append, List.nil_append]
  exact .le Le.refl hq
theorem ok_QuestionX_initX (T : TX K mg) : Fnk P w K mg base d_QuestionX_initX ps_QuestionX_initX 3 (spW (sp_QuestionX_initX K)) :=
  fnk_of (N := N_QuestionX_initX) (rd_QuestionX_initX K) T.d_QuestionX_initX sc_QuestionX_initX (len_QuestionX_initX K) (fun f cdv A outer sh H E hr => (pss_cons (ps_if (pt_not (pt_val (pe_fn (ok_is_name T) bp_is_name_1 hr (by decide) rfl T.g_is_name (pa_cons (pv 1) pa_nil)))) (pss_one ps_never) pss_nil) (pss_cons (ps_if (pt_not (pt_val (pe_fn (ok_is_name T) bp_is_name_1 hr (by decide) rfl T.g_is_name (pa_cons (pv 2) pa_nil)))) (pss_one ps_never) pss_nil) (pss_cons (ps_if (pt_not (pt_val (pe_fn (ok_are_answers T) bp_are_answers_1 hr (by decide) rfl T.g_are_answers (pa_cons (pv 3) pa_nil)))) (pss_one ps_never) pss_nil) (pss_cons (ps_if (pt_not (pt_val (pe_fnk (ok_is_whole T) bk_is_whole_1_most hr (by decide) rfl T.g_is_whole (pa_cons (pv 4) pa_nil) (pk_cons (pe_op op_subU (pe_callB call_lenU (by rfl) T.f_len (by decide +kernel) (pa_cons (pv 3) pa_nil)) pe_int) pk_nil)))) (pss_one ps_never) pss_nil) (pss_cons (ps_if (pt_not (pt_val (pe_fnk (ok_is_whole T) bk_is_whole_1_least_most hr (by decide) rfl T.g_is_whole (pa_cons (pv 5) pa_nil) (pk_cons pe_int (pk_cons (C8.pe_gc rfl T.k_TOP) pk_nil))))) (pss_one ps_never) pss_nil) (pss_cons (ps_if (pt_not (pt_val (pe_fnk (ok_is_whole T) bk_is_whole_1_least_most hr (by decide) rfl T.g_is_whole (pa_cons (pv 6) pa_nil) (pk_cons pe_int (pk_cons (C8.pe_gc rfl T.k_TOP) pk_nil))))) (pss_one ps_never) pss_nil) (pss_cons (ps_if (pt_not (pt_val (pe_fn (ok_is_of T) bp_is_of_1 hr (by decide) rfl T.g_is_of (pa_cons (pv 7) pa_nil)))) (pss_one ps_never) pss_nil) (pss_cons (ps_fld (pv 0) (pv 1) rfl) (pss_cons (ps_fld (pv 0) (pv 2) rfl) (pss_cons (ps_fld (pv 0) (pv 3) rfl) (pss_cons (ps_fld (pv 0) (pv 4) rfl) (pss_cons (ps_fld (pv 0) (pv 5) rfl) (pss_cons (ps_fld (pv 0) (pv 6) rfl) (pss_one (ps_fld (pv 0) (pv 7) rfl)))))))))))))))) (pure_QuestionX_initX T)
abbrev N_Question_parts : List Str := ["self"]
abbrev ps_Question_parts : List Str := ["self"]
theorem sc_Question_parts : FnScope N_Question_parts ps_Question_parts (defScope s_Question_parts) := ⟨rfl, rfl, rfl, by decide +kernel, rfl, by decide +kernel, by decide +kernel⟩
def rd_Question_parts (K : PySem.W.Frag) : TS := (tRet (tTup (tCons (tFld K (tVar 0) "name") (tCons (tFld K (tVar 0) "matter") (tCons (tFld K (tVar 0) "answers") (tCons (tFld K (tVar 0) "right") (tCons (tFld K (tVar 0) "toil") (tCons (tFld K (tVar 0) "marks") (tCons (tFld K (tVar 0) "kin") tNil)))))))))
def sp_Question_parts (K : PySem.W.Frag) : SpW := fun vs B M Q E => ∃ a q, vs = [.ref a] ∧ QAt K B a q ∧ ∀ p b, AnsAt B b q.ans → Q (.ref p) B ((p, .tup (qVs q b)) :: M)
theorem len_Question_parts (K : PySem.W.Frag) : ∀ vs B M Q E, sp_Question_parts K vs B M Q E → vs.length = ps_Question_parts.length := by
  intro _ _ _ _ _ h
  unfold sp_Question_parts at h
  repeat (first | (obtain ⟨rfl, _⟩ := h; rfl) | (obtain ⟨_, h⟩ := h))
theorem pure_Question_parts (T : TX K mg) : ∀ vs B M Q E, sp_Question_parts K vs B M Q E → SW (rd_Question_parts K) (DW.up ⟨fun _ B M => Q .non B M, Q, fun _ _ _ => False, fun _ _ _ => False⟩) (start N_Question_parts vs) B M := by
  rintro _ B M Q E ⟨a, q, rfl, ⟨dx, b, ha, hb⟩, hq⟩
  unfold rd_Question_parts
  walk_at "q"
  walk_at "fq"
  walk_at "fq"
  walk_at "fq"
  walk_at "fq"
  walk_at "fq"
  walk_at "fq"
  walk_at "fq"
  exact ⟨le_line (Nat.le_refl 7), fun p => .le Le.refl (hq p b hb)⟩
theorem ok_Question_parts (T : TX K mg) : Fnk P w K mg base d_Question_parts ps_Question_parts 1 (spW (sp_Question_parts K)) :=
  fnk_of (N := N_Question_parts) (rd_Question_parts K) T.d_Question_parts sc_Question_parts (len_Question_parts K) (fun f cdv A outer sh H E hr => (pss_one (ps_ret (pe_tup (pa_cons (pe_fld (pv 0) rfl) (pa_cons (pe_fld (pv 0) rfl) (pa_cons (pe_fld (pv 0) rfl) (pa_cons (pe_fld (pv 0) rfl) (pa_cons (pe_fld (pv 0) rfl) (pa_cons (pe_fld (pv 0) rfl) (pa_cons (pe_fld (pv 0) rfl) pa_nil))))))))))) (pure_Question_parts T)
abbrev N_QuestionX_lenX : List Str := ["self"]
abbrev ps_QuestionX_lenX : List Str := ["self"]
theorem sc_QuestionX_lenX : FnScope N_QuestionX_lenX ps_QuestionX_lenX (defScope s_QuestionX_lenX) := ⟨rfl, rfl, rfl, by decide +kernel, rfl, by decide +kernel, by decide +kernel⟩
def rd_QuestionX_lenX (K : PySem.W.Frag) : TS := (tRet (tCB (rLenU K) (tCons (tFld K (tVar 0) "answers") tNil)))
def sp_QuestionX_lenX (K : PySem.W.Frag) : SpW := fun vs B M Q E => ∃ a q, vs = [.ref a] ∧ QAt K B a q ∧ Q (.int q.ans.length) B M
theorem len_QuestionX_lenX (K : PySem.W.Frag) : ∀ vs B M Q E, sp_QuestionX_lenX K vs B M Q E → vs.length = ps_QuestionX_lenX.length := by
  intro _ _ _ _ _ h
  unfold sp_QuestionX_lenX at h
  repeat (first | (obtain ⟨rfl, _⟩ := h; rfl) | (obtain ⟨_, h⟩ := h))
theorem pure_QuestionX_lenX (T : TX K mg) : ∀ vs B M Q E, sp_QuestionX_lenX K vs B M Q E → SW (rd_QuestionX_lenX K) (DW.up ⟨fun _ B M => Q .non B M, Q, fun _ _ _ => False, fun _ _ _ => False⟩) (start N_QuestionX_lenX vs) B M := by
  rintro _ B M Q E ⟨a, q, rfl, ⟨dx, b, ha, hb⟩, hq⟩
  unfold rd_QuestionX_lenX
  walk_at "q"
  walk_at "fq"
  refine len_t hb.F.W ?_
  rw [List.length_map]
  exact .le Le.refl hq
theorem ok_QuestionX_lenX (T : TX K mg) : Fnk P w K mg base d_QuestionX_lenX ps_QuestionX_lenX 1 (spW (sp_QuestionX_lenX K)) :=
  fnk_of (N := N_QuestionX_lenX) (rd_QuestionX_lenX K) T.d_QuestionX_lenX sc_QuestionX_lenX (len_QuestionX_lenX K) (fun f cdv A outer sh H E hr => (pss_one (ps_ret (pe_callB call_lenU (by rfl) T.f_len (by decide +kernel) (pa_cons (pe_fld (pv 0) rfl) pa_nil))))) (pure_QuestionX_lenX T)
/-- a question as data -/
def qD (q : Qn) : PyData := .tuple [.str q.name, .str q.matter, .tuple (q.ans.map .str), .int q.right, .int q.toil, .int q.marks, .str q.kin]
theorem dpStrs {H : Hp} : ∀ zs : List Str, DpAll K H (zs.map V.str) (zs.map PyData.str)
  | [] => .nil
  | z :: zs => .cons (.str z) (dpStrs zs)
theorem dpq {B : Hp} {M : MM} {p b : Addr} {q : Qn} (hb : AnsAt B b q.ans) (h : At B M p (.tup (qVs q b))) : DpW K B M (.ref p) (qD q) := fun H W =>
  .tup (.inl (.inl (h.of W))) (.cons (.str _) (.cons (.str _) (.cons (.tup (hb.F.W H W) (dpStrs _)) (.cons (.int _) (.cons (.int _) (.cons (.int _) (.cons (.str _) .nil)))))))
theorem strs_lay : ∀ zs : List Str, (∀ z ∈ zs, PyData.strOk z = true) → PyData.canLayAll0 (zs.map PyData.str) = true
  | [], _ => by simp [PyData.canLayAll0]
  | z :: zs, h => by simp [PyData.canLayAll0, PyData.canLay0, strs_lay zs fun y hy => h y (List.mem_cons_of_mem _ hy), h z (List.mem_cons_self ..)]
theorem strs_depth : ∀ zs : List Str, PyData.depthAll (zs.map PyData.str) = 0
  | [] => by simp [PyData.depthAll]
  | z :: zs => by simp [PyData.depthAll, PyData.depth, strs_depth zs]
theorem strs_eqv : ∀ zs ws : List Str, PyData.eqvAll (zs.map PyData.str) (ws.map PyData.str) = decide (zs = ws)
  | [], [] => by simp [PyData.eqvAll]
  | [], w :: ws => by simp [PyData.eqvAll]
  | z :: zs, [] => by simp [PyData.eqvAll]
  | z :: zs, w :: ws => by
    rw [List.map_cons, List.map_cons]
    show (PyData.eqv (.str z) (.str w) && PyData.eqvAll (zs.map PyData.str) (ws.map PyData.str)) = _
    rw [strs_eqv zs ws]
    have e : PyData.eqv (.str z) (.str w) = (z == w) := by simp [PyData.eqv]
    rw [e]
    by_cases h : z = w
    · subst h; simp
    · simp [h]
theorem strOk_of {z l : Str} (h : z.cps.toList.all (fun c => decide (c ∈ l.cps.toList)) = true) (hl : l.cps.toList.all (fun c => decide (c < 128)) = true) : PyData.strOk z = true := by
  show z.cps.all (fun c => decide (c < 0x110000)) = true
  rw [← Array.all_toList, List.all_eq_true]
  intro c hc
  have h1 := of_decide_eq_true (List.all_eq_true.mp h c hc)
  have h2 := of_decide_eq_true (List.all_eq_true.mp hl c h1)
  exact decide_eq_true (by omega)
theorem nameB_ok {z : Str} (h : nameB z = true) : PyData.strOk z = true := strOk_of (Bool.and_eq_true_iff.mp h).2 (by decide +kernel)
theorem textB_ok {z : Str} (h : textB z = true) : PyData.strOk z = true := strOk_of (Bool.and_eq_true_iff.mp (Bool.and_eq_true_iff.mp h).2).1 (by decide +kernel)
structure QLay (q : Qn) : Prop where
  nm : PyData.strOk q.name = true
  mt : PyData.strOk q.matter = true
  an : ∀ z ∈ q.ans, PyData.strOk z = true
  kn : PyData.strOk q.kin = true
theorem QOk.lay {q : Qn} (ok : QOk q) : QLay q := ⟨nameB_ok ok.nm, nameB_ok ok.mt, fun z hz => textB_ok (ok.an.tx z hz), by
  rcases ok.kn with h | h
  · rw [h]; decide +kernel
  · exact nameB_ok h⟩
theorem qD_lay {q : Qn} (ok : QLay q) : (qD q).canLay0 = true := by simp [qD, PyData.canLay0, PyData.canLayAll0, strs_lay _ ok.an, ok.nm, ok.mt, ok.kn]
theorem qD_depth (q : Qn) : (qD q).depth = 2 := by simp [qD, PyData.depth, PyData.depthAll, strs_depth]
theorem qD_shaped {q : Qn} (ok : QLay q) : SeqAt.shaped (qD q) = true := by
  unfold SeqAt.shaped
  rw [qD_lay ok, qD_depth] <;> rfl
theorem qD_eqv (q q' : Qn) : PyData.eqv (qD q) (qD q') = decide (q = q') := by
  obtain ⟨n, m, an, r, t, mk, k⟩ := q
  obtain ⟨n', m', an', r', t', mk', k'⟩ := q'
  have e : PyData.eqv (qD ⟨n, m, an, r, t, mk, k⟩) (qD ⟨n', m', an', r', t', mk', k'⟩) = ((n == n') && ((m == m') && (PyData.eqvAll (an.map PyData.str) (an'.map PyData.str) && ((r == r') && ((t == t') && ((mk == mk') && ((k == k') && true))))))) := by
    simp [qD, PyData.eqv, PyData.eqvAll]
  rw [e, strs_eqv, Bool.eq_iff_iff]
  simp [Bool.and_eq_true]
abbrev N_QuestionX_eqX : List Str := ["self", "other"]
abbrev ps_QuestionX_eqX : List Str := ["self", "other"]
theorem sc_QuestionX_eqX : FnScope N_QuestionX_eqX ps_QuestionX_eqX (defScope s_QuestionX_eqX) := ⟨rfl, rfl, rfl, by decide +kernel, rfl, by decide +kernel, by decide +kernel⟩
theorem bp_Question_parts_1 {K : PySem.W.Frag} : BindP K d_Question_parts ps_Question_parts [] := bindP_n rfl rfl fun _ _ _ _ _ _ us hl => match us, hl with | [_], _ => rfl
def rd_QuestionX_eqX (K : PySem.W.Frag) : TS := (tRet (tAndV (tCB (rIsi K) (tCons (tVar 1) (tCons (tC (.ref (He.ga K "Question"))) tNil))) (tOp (rEqU K) (tMeth (He.ga K "Question") "parts" (spW (sp_Question_parts K)) [] E0 (tVar 0) tNil) (tMeth (He.ga K "Question") "parts" (spW (sp_Question_parts K)) [] E0 (tVar 1) tNil))))
def sp_QuestionX_eqX (K : PySem.W.Frag) : SpW := fun vs B M Q E => ∃ a q c q', vs = [.ref a, .ref c] ∧ QAt K B a q ∧ QAt K B c q' ∧ QOk q ∧ QOk q' ∧ Q (.bl (decide (q = q'))) B M
theorem len_QuestionX_eqX (K : PySem.W.Frag) : ∀ vs B M Q E, sp_QuestionX_eqX K vs B M Q E → vs.length = ps_QuestionX_eqX.length := by
  intro _ _ _ _ _ h
  unfold sp_QuestionX_eqX at h
  repeat (first | (obtain ⟨rfl, _⟩ := h; rfl) | (obtain ⟨_, h⟩ := h))
theorem pure_QuestionX_eqX (T : TX K mg) : ∀ vs B M Q E, sp_QuestionX_eqX K vs B M Q E → SW (rd_QuestionX_eqX K) (DW.up ⟨fun _ B M => Q .non B M, Q, fun _ _ _ => False, fun _ _ _ => False⟩) (start N_QuestionX_eqX vs) B M := by
  rintro _ B M Q E ⟨a, q, c, q', rfl, h1, h2, ok1, ok2, hq⟩
  obtain ⟨dx, b, ha, hb⟩ := id h1
  obtain ⟨dx', b', hc, hb'⟩ := id h2
  unfold rd_QuestionX_eqX
  walk_at "q"
  refine isi_ (TyW.ins T.i_Question (.inl hc)) (.own _) T.ko_Question_Question ?_
  walk_at "q"
  refine ⟨a, dx, _, rfl, .inl ha, rfl, ?_⟩
  walk_at "q"
  refine cw_of ⟨_, _, rfl, h1, fun p1 b1 hb1 => ?_⟩
  walk_at "q"
  refine ⟨c, dx', _, rfl, .inl hc, rfl, ?_⟩
  walk_at "q"
  refine cw_of ⟨_, _, rfl, h2, fun p2 b2 hb2 => ?_⟩
  refine eq_dat (d := qD q) (e := qD q') (dpq hb1 (.tail .here)) (dpq hb2 .here) (qD_shaped ok1.lay) (qD_shaped ok2.lay) ?_
  rw [qD_eqv]
  exact .le (Le.drop (Le.drop Le.refl)) hq
theorem ok_QuestionX_eqX (T : TX K mg) : Fnk P w K mg base d_QuestionX_eqX ps_QuestionX_eqX 2 (spW (sp_QuestionX_eqX K)) :=
  fnk_of (N := N_QuestionX_eqX) (rd_QuestionX_eqX K) T.d_QuestionX_eqX sc_QuestionX_eqX (len_QuestionX_eqX K) (fun f cdv A outer sh H E hr => (pss_one (ps_ret (pe_and (pe_callB call_isi (by rfl) T.f_isinstance (by decide +kernel) (pa_cons (pv 1) (pa_cons (pe_glob rfl T.g_Question rfl) pa_nil))) (pe_one (pe_cmpR (op_eqU hr.units) (pe_me0 (ok_Question_parts T) bp_Question_parts_1 hr (by decide) T.c_Question T.m_Question_parts (pv 0)) (pe_me0 (ok_Question_parts T) bp_Question_parts_1 hr (by decide) T.c_Question T.m_Question_parts (pv 1)) (nomark _))))))) (pure_QuestionX_eqX T)
end
end Pap

set_option maxHeartbeats 4000000
/-! S4: turned questions; parts of sequences. -/
namespace Pap
open PySem PySem.Spec PyProof.Rows L2 PT
local macro_rules | `(tactic| walk_at "q1") => `(tactic| first
  | with_reducible refine sw_seq ?_
  | with_reducible refine sw_ret ?_
  | with_reducible refine sw_if ?_
  | with_reducible refine sw_next ?_
  | with_reducible refine sw_drop ?_
  | with_reducible refine sw_retN ?_
  | with_reducible refine sw_set ?_
  | with_reducible refine sw_par ?_
  | with_reducible refine sw_par3 ?_
  | with_reducible refine sw_asg ?_
  | with_reducible refine gw_name ?_
  | with_reducible refine gsw_cons ?_
  | with_reducible refine gsw_nil ?_
  | with_reducible refine tw_or ?_
  | with_reducible refine tw_and ?_
  | with_reducible refine tw_not ?_
  | with_reducible refine tw_B ?_
  | with_reducible refine tw_test ?_
  | with_reducible refine tw_yes ?_
  | with_reducible refine ew_cb ?_
  | with_reducible refine ew_c ?_
  | with_reducible refine ew_op ?_
  | with_reducible refine ew_chain ?_
  | with_reducible refine ew_notV ?_
  | with_reducible refine ew_andV ?_
  | with_reducible refine ew_orV ?_
  | with_reducible refine ew_un ?_
  | with_reducible refine ew_then ?_
  | with_reducible refine ew_sl ?_
  | with_reducible refine ow_no ?_
  | with_reducible refine ow_some ?_
  | with_reducible refine ew_tup ?_
  | with_reducible refine ew_lst ?_
  | with_reducible refine ew_tupF ?_
  | with_reducible refine ew_dnew ?_
  | with_reducible refine ew_call ?_
  | with_reducible refine ew_callN ?_
  | with_reducible refine ew_make ?_
  | with_reducible refine ew_makeN ?_
  | with_reducible refine ew_meth ?_
  | with_reducible refine ew_methK ?_
  | with_reducible refine ew_tm ?_
  | with_reducible refine ew_bm ?_
  | with_reducible refine ew_bm0 ?_
  | with_reducible refine aw_nil ?_
  | with_reducible refine aw_cons ?_
  | (with_reducible refine ew_varE ?_; refine ⟨_, rfl, ?_⟩)
  | with_reducible refine le_int ?_
  | with_reducible refine lt_int ?_
  | with_reducible refine ge_int ?_
  | with_reducible refine gt_int ?_
  | with_reducible refine eq_int ?_
  | with_reducible refine ne_int ?_
  | with_reducible refine eq_str ?_
  | with_reducible refine ne_str ?_
  | with_reducible refine add_int ?_
  | with_reducible refine sub_int ?_
  | with_reducible refine is_n ?_
  | with_reducible refine isn_n ?_
  | with_reducible refine isi_ii ?_
  | with_reducible refine isi_ib ?_
  | with_reducible refine isi_ss ?_
  | (with_reducible refine ⟨rfl, rfl, ?_⟩)
  | with_reducible refine up_rt ?_
  | with_reducible refine up_nx ?_
  | with_reducible refine tt_ ?_
  | with_reducible refine ff_ ?_
  | with_reducible refine ⟨_, rfl, ?_⟩
  | rw [Bool.not_true]
  | rw [Bool.not_false]
  | (show _ ∧ _; with_reducible refine tt_ ?_)
  | (show _ ∧ _; with_reducible refine ff_ ?_)
  | fail "q1: no step")
local macro_rules | `(tactic| walk_at "q") => `(tactic| repeat walk_at "q1")
local macro_rules | `(tactic| walk_at "le") => `(tactic| repeat (first | with_reducible exact Le.refl | with_reducible refine Le.drop ?_ | with_reducible refine Le.app ?_))
local macro_rules | `(tactic| walk_at "nq") => `(tactic| first | exact TX.n_Question_name (by assumption) | exact TX.n_Question_matter (by assumption) | exact TX.n_Question_answers (by assumption) | exact TX.n_Question_right (by assumption) | exact TX.n_Question_toil (by assumption) | exact TX.n_Question_marks (by assumption) | exact TX.n_Question_kin (by assumption))
local macro_rules | `(tactic| walk_at "fl") => `(tactic| refine ⟨_, _, _, rfl, .inl (by assumption), _, rfl, ?_⟩)
local macro_rules | `(tactic| walk_at "fq") => `(tactic| (walk_at "q"; (with_reducible refine ew_fldE (TX.c_Question (by assumption)) (by walk_at "nq") ?_); walk_at "q"; walk_at "fl"; walk_at "q"))

theorem cutV_from {xs : List V} {i : Int} (h0 : 0 ≤ i) (h1 : i ≤ xs.length) : cutV xs (some i) none = xs.drop i.toNat := by
  have e : HT.sIx xs.length 0 (some i) = i.toNat := by
    show (if i < 0 then (i + (xs.length : Int)).toNat else min i.toNat xs.length) = i.toNat
    rw [if_neg (by omega)]
    omega
  have e2 : HT.sIx xs.length xs.length none = xs.length := rfl
  unfold cutV
  rw [e, e2]
  exact List.take_of_length_le (by rw [List.length_drop]; omega)
theorem cutV_to {xs : List V} {i : Int} (h0 : 0 ≤ i) (h1 : i ≤ xs.length) : cutV xs none (some i) = xs.take i.toNat := by
  have e : HT.sIx xs.length xs.length (some i) = i.toNat := by
    show (if i < 0 then (i + (xs.length : Int)).toNat else min i.toNat xs.length) = i.toNat
    rw [if_neg (by omega)]
    omega
  have e2 : HT.sIx xs.length 0 none = 0 := rfl
  unfold cutV
  rw [e, e2, List.drop_zero, Nat.sub_zero]
section
variable {K : PySem.W.Frag} {σ : L2.St} {B B' : Hp} {M M' R : MM} {Q : KW} {ta ta' ti ti' : TE} {v : V} {b : Addr} {xs : List V} {i : Int}
theorem ew_eq (h : EW ta σ B M fun x B1 M1 => x = v ∧ B1 = B ∧ M1 = M) (q : Q v B M) : EW ta σ B M Q := fun Q' k H W => h Q' (fun x B1 M1 H1 W1 ⟨e1, e2, e3⟩ => by subst e1 e2 e3; exact k _ _ _ _ W1 q) H W
def TupB (B : Hp) (a : Addr) (xs : List V) : Prop := ∃ u, TD u xs ∧ B a = some u
theorem TupB.F (h : TupB B b xs) : TupF B M b xs := let ⟨u, h1, h2⟩ := h; ⟨u, h1, .inl h2⟩
theorem TupB.ex (h : TupB B b xs) (e : Ex B B') : TupB B' b xs := let ⟨u, h1, h2⟩ := h; ⟨u, h1, e _ _ h2⟩
def tRot (K : PySem.W.Frag) (ta ti ta' ti' : TE) : TE := tOp (rCatF K) (tSl (rSlF K) ta (tPart ti) tNoPart) (tSl (rSlF K) ta' tNoPart (tPart ti'))
/-- t[i:] + t[:i] -/
theorem ew_rot (h1 : ∀ M', EW ta σ B M' fun x B1 M1 => x = .ref b ∧ B1 = B ∧ M1 = M') (h2 : ∀ M', EW ti σ B M' fun x B1 M1 => x = .int i ∧ B1 = B ∧ M1 = M')
    (h3 : ∀ B' M', Ex B B' → EW ta' σ B' M' fun x B1 M1 => x = .ref b ∧ B1 = B' ∧ M1 = M') (h4 : ∀ B' M', Ex B B' → EW ti' σ B' M' fun x B1 M1 => x = .int i ∧ B1 = B' ∧ M1 = M')
    (hb : TupB B b xs) (i0 : 0 ≤ i) (i1 : i ≤ xs.length) (hz : xs.length ≤ 1000) (q : ∀ a' B', Ex B B' → TupB B' a' (xs.drop i.toNat ++ xs.take i.toNat) → Q (.ref a') B' M) :
    EW (tRot K ta ti ta' ti') σ B M Q := by
  have k3 : ∀ a1 a2 B', Ex B B' → TupB B' a1 (xs.drop i.toNat) → TupB B' a2 (xs.take i.toNat) → R2W (rCatF K) (.ref a1) (.ref a2) B' M fun v => Up (Q v) := by
    intro a1 a2 B' e t1 t2
    refine cat_F t1.F.W t2.F.W (by rw [List.length_drop, List.length_take, sizeLine_eq]; omega) (fun h => .here (q a2 B' e ?_)) (fun _ h => .here (q a1 B' e ?_)) (fun _ _ p u hu => .keep fun ex at_ => .here (q p _ (e.trans ex) ⟨u, hu, at_⟩))
    · rw [h, List.nil_append]; exact t2
    · rw [h, List.append_nil]; exact t1
  have k2 : ∀ a1 B', Ex B B' → TupB B' a1 (xs.drop i.toNat) → EW (tSl (rSlF K) ta' tNoPart (tPart ti')) σ B' M fun y B2 M2 => R2W (rCatF K) (.ref a1) y B2 M2 fun v => Up (Q v) := by
    intro a1 B' e t1
    refine ew_sl (ew_eq (h3 B' M e) (ow_no (ow_some (ew_eq (h4 B' M e) ⟨i, rfl, ?_⟩))))
    refine sl_F (hb.ex e).F.W (fun h => k3 a1 b B' e t1 ?_) (fun p u hu => ?_)
    · rw [cutV_to i0 i1] at h; rw [h]; exact hb.ex e
    · rw [cutV_to i0 i1] at hu
      exact fun Q' k H W => k3 a1 p _ (e.trans (Ex.new W.fresh)) (t1.ex (Ex.new W.fresh)) ⟨u, hu, upd_same⟩ Q' k H W.keep
  refine ew_up (ew_op (ew_sl (ew_eq (h1 M) (ow_some (ew_eq (h2 M) ⟨i, rfl, ow_no ?_⟩)))))
  refine sl_F hb.F.W (fun h => k2 b B Ex.rfl' ?_) (fun p u hu => ?_)
  · rw [cutV_from i0 i1] at h; rw [h]; exact hb
  · rw [cutV_from i0 i1] at hu
    exact fun Q' k H W => k2 p _ (Ex.new W.fresh) ⟨u, hu, upd_same⟩ Q' k H W.keep
end
end Pap

set_option maxHeartbeats 4000000
/-! S5: turned, divisors. -/
namespace Pap
open PySem PySem.Spec PyProof.Rows L2 PT
local macro_rules | `(tactic| walk_at "q1") => `(tactic| first
  | with_reducible refine sw_seq ?_
  | with_reducible refine sw_ret ?_
  | with_reducible refine sw_if ?_
  | with_reducible refine sw_next ?_
  | with_reducible refine sw_drop ?_
  | with_reducible refine sw_retN ?_
  | with_reducible refine sw_set ?_
  | with_reducible refine sw_par ?_
  | with_reducible refine sw_par3 ?_
  | with_reducible refine sw_asg ?_
  | with_reducible refine gw_name ?_
  | with_reducible refine gsw_cons ?_
  | with_reducible refine gsw_nil ?_
  | with_reducible refine tw_or ?_
  | with_reducible refine tw_and ?_
  | with_reducible refine tw_not ?_
  | with_reducible refine tw_B ?_
  | with_reducible refine tw_test ?_
  | with_reducible refine tw_yes ?_
  | with_reducible refine ew_cb ?_
  | with_reducible refine ew_c ?_
  | with_reducible refine ew_op ?_
  | with_reducible refine ew_chain ?_
  | with_reducible refine ew_notV ?_
  | with_reducible refine ew_andV ?_
  | with_reducible refine ew_orV ?_
  | with_reducible refine ew_un ?_
  | with_reducible refine ew_then ?_
  | with_reducible refine ew_sl ?_
  | with_reducible refine ow_no ?_
  | with_reducible refine ow_some ?_
  | with_reducible refine ew_tup ?_
  | with_reducible refine ew_lst ?_
  | with_reducible refine ew_tupF ?_
  | with_reducible refine ew_dnew ?_
  | with_reducible refine ew_call ?_
  | with_reducible refine ew_callN ?_
  | with_reducible refine ew_make ?_
  | with_reducible refine ew_makeN ?_
  | with_reducible refine ew_meth ?_
  | with_reducible refine ew_methK ?_
  | with_reducible refine ew_tm ?_
  | with_reducible refine ew_bm ?_
  | with_reducible refine ew_bm0 ?_
  | with_reducible refine aw_nil ?_
  | with_reducible refine aw_cons ?_
  | (with_reducible refine ew_varE ?_; refine ⟨_, rfl, ?_⟩)
  | with_reducible refine le_int ?_
  | with_reducible refine lt_int ?_
  | with_reducible refine ge_int ?_
  | with_reducible refine gt_int ?_
  | with_reducible refine eq_int ?_
  | with_reducible refine ne_int ?_
  | with_reducible refine eq_str ?_
  | with_reducible refine ne_str ?_
  | with_reducible refine add_int ?_
  | with_reducible refine sub_int ?_
  | with_reducible refine is_n ?_
  | with_reducible refine isn_n ?_
  | with_reducible refine isi_ii ?_
  | with_reducible refine isi_ib ?_
  | with_reducible refine isi_ss ?_
  | (with_reducible refine ⟨rfl, rfl, ?_⟩)
  | with_reducible refine up_rt ?_
  | with_reducible refine up_nx ?_
  | with_reducible refine tt_ ?_
  | with_reducible refine ff_ ?_
  | with_reducible refine ⟨_, rfl, ?_⟩
  | rw [Bool.not_true]
  | rw [Bool.not_false]
  | (show _ ∧ _; with_reducible refine tt_ ?_)
  | (show _ ∧ _; with_reducible refine ff_ ?_)
  | fail "q1: no step")
local macro_rules | `(tactic| walk_at "q") => `(tactic| repeat walk_at "q1")
local macro_rules | `(tactic| walk_at "le") => `(tactic| repeat (first | with_reducible exact Le.refl | with_reducible refine Le.drop ?_ | with_reducible refine Le.app ?_))
local macro_rules | `(tactic| walk_at "nq") => `(tactic| first | exact TX.n_Question_name (by assumption) | exact TX.n_Question_matter (by assumption) | exact TX.n_Question_answers (by assumption) | exact TX.n_Question_right (by assumption) | exact TX.n_Question_toil (by assumption) | exact TX.n_Question_marks (by assumption) | exact TX.n_Question_kin (by assumption))
local macro_rules | `(tactic| walk_at "fl") => `(tactic| refine ⟨_, _, _, rfl, .inl (by assumption), _, rfl, ?_⟩)
local macro_rules | `(tactic| walk_at "fq") => `(tactic| (walk_at "q"; (with_reducible refine ew_fldE (TX.c_Question (by assumption)) (by walk_at "nq") ?_); walk_at "q"; walk_at "fl"; walk_at "q"))

theorem small_mul {i j : Int} (h0 : 0 ≤ i) (h1 : i < 2 ^ 62) (h2 : 0 ≤ j) (h3 : j < 2 ^ 62) : CMulW i j := wide_mul (a := 62) (b := 62) (by omega) (by omega) (by decide) (by decide) (by decide)
theorem small_div {i j : Int} (h2 : 0 < j) (h3 : j < 2 ^ 62) : CDivW i j := wide_div (b := 62) h2 (by omega) (by decide) (by decide)
/-- where a question's answers begin that is turned by b -/
def shf (q : Qn) (b : Int) : Int := b % q.ans.length
def turn (q : Qn) (b : Int) : Qn := { q with ans := q.ans.drop (shf q b).toNat ++ q.ans.take (shf q b).toNat, right := (q.right - shf q b) % q.ans.length }
theorem shf_0 {q : Qn} {b : Int} (h : 0 < q.ans.length) : 0 ≤ shf q b := Int.emod_nonneg _ (by omega)
theorem shf_1 {q : Qn} {b : Int} (h : 0 < q.ans.length) : shf q b < q.ans.length := Int.emod_lt_of_pos _ (by omega)
theorem turn_len (q : Qn) (b : Int) : (turn q b).ans.length = q.ans.length := by
  show (q.ans.drop (shf q b).toNat ++ q.ans.take (shf q b).toNat).length = _
  rw [List.length_append, List.length_drop, List.length_take]
  omega
theorem turn_ok {q : Qn} (ok : QOk q) (b : Int) : QOk (turn q b) := by
  have hl : 0 < q.ans.length := by have := ok.an.lo; omega
  have hp : (q.ans.drop (shf q b).toNat ++ q.ans.take (shf q b).toNat).Perm q.ans := List.perm_append_comm.trans (by rw [List.take_append_drop])
  refine ⟨ok.nm, ok.mt, ⟨?_, ?_, hp.nodup_iff.mpr ok.an.nd, fun z hz => ok.an.tx z (hp.mem_iff.mp hz)⟩, Int.emod_nonneg _ (by omega), ?_, ok.t0, ok.t1, ok.m0, ok.m1, ok.kn⟩
  · rw [turn_len]; exact ok.an.lo
  · rw [turn_len]; exact ok.an.hi
  · rw [turn_len]; exact Int.emod_lt_of_pos _ (by omega)
section
variable {P : Program} {w : World} {K : PySem.W.Frag} {mg : Str → Option Value} {base : Heap}
abbrev N_Question_turned : List Str := ["self", "by", "many", "first", "right", "answers"]
abbrev ps_Question_turned : List Str := ["self", "by"]
theorem sc_Question_turned : FnScope N_Question_turned ps_Question_turned (defScope s_Question_turned) := ⟨rfl, rfl, rfl, by decide +kernel, rfl, by decide +kernel, by decide +kernel⟩
theorem bk_QuestionX_initX_4_right_toil_marks_kin {K : PySem.W.Frag} : BindK K d_QuestionX_initX ps_QuestionX_initX 4 ["right", "toil", "marks", "kin"] (fun vs zs => vs ++ zs) := bindK_d 4 ["right", "toil", "marks", "kin"] (fun us its ws => us ++ ws) (by intro h; cases h) (fun r1 r2 r3 => (Vals.append r1 r3)) fun _ _ _ _ _ _ _ us its ws h1 h2 h3 => match us, its, ws, h1, h2, h3 with | [_, _, _, _], [_, _, _, _], [_, _, _, _], _, _, _ => ⟨_, rfl, rfl⟩
theorem bp_is_number_1 {K : PySem.W.Frag} : BindP K d_is_number ps_is_number [] := bindP_n rfl rfl fun _ _ _ _ _ _ us hl => match us, hl with | [_], _ => rfl
def rd_Question_turned (K : PySem.W.Frag) : TS := (tSeq (tIfS (tNot (tB (tCall (spW (sp_is_number K)) [] E0 (tCons (tVar 1) tNil)))) tNever tNext) (tSeq (tAsg (tCB (rLenU K) (tCons (tFld K (tVar 0) "answers") tNil)) (gName 2)) (tSeq (tAsg (tOp (rSubI) (tVar 1) (tOp (rMulU) (tOp (rDivI) (tVar 1) (tVar 2)) (tVar 2))) (gName 3)) (tSeq (tAsg (tIf (tTest (tOp rGeI (tFld K (tVar 0) "right") (tVar 3))) (tOp (rSubI) (tFld K (tVar 0) "right") (tVar 3)) (tOp (rAddU K) (tOp (rSubI) (tFld K (tVar 0) "right") (tVar 3)) (tVar 2))) (gName 4)) (tSeq (tAsg (tRot K (tFld K (tVar 0) "answers") (tVar 3) (tFld K (tVar 0) "answers") (tVar 3)) (gName 5)) (tRet (tMakeN (He.ga K "Question") 3 4 (spW (sp_QuestionX_initX K)) (fun vs zs => vs ++ zs) E0 (tCons (tFld K (tVar 0) "name") (tCons (tFld K (tVar 0) "matter") (tCons (tVar 5) tNil))) (tCons (tVar 4) (tCons (tFld K (tVar 0) "toil") (tCons (tFld K (tVar 0) "marks") (tCons (tFld K (tVar 0) "kin") tNil)))))))))))
def sp_Question_turned (K : PySem.W.Frag) : SpW := fun vs B M Q E => ∃ a q by_, vs = [.ref a, .int by_] ∧ QAt K B a q ∧ QOk q ∧ 0 ≤ by_ ∧ by_ < 2 ^ 40 ∧ ∀ a' B', Ex B B' → QAt K B' a' (turn q by_) → Q (.ref a') B' M
theorem len_Question_turned (K : PySem.W.Frag) : ∀ vs B M Q E, sp_Question_turned K vs B M Q E → vs.length = ps_Question_turned.length := by
  intro _ _ _ _ _ h
  unfold sp_Question_turned at h
  repeat (first | (obtain ⟨rfl, _⟩ := h; rfl) | (obtain ⟨_, h⟩ := h))
theorem pure_Question_turned (T : TX K mg) : ∀ vs B M Q E, sp_Question_turned K vs B M Q E → SW (rd_Question_turned K) (DW.up ⟨fun _ B M => Q .non B M, Q, fun _ _ _ => False, fun _ _ _ => False⟩) (start N_Question_turned vs) B M := by
  rintro _ B M Q E ⟨a, q, i, rfl, ⟨dx, b, ha, hb⟩, ok, i0, i1, hq⟩
  have l2 := ok.an.lo
  have l6 := ok.an.hi
  have hl : 0 < q.ans.length := by omega
  have e1 : i - i / (q.ans.length : Int) * (q.ans.length : Int) = shf q i := by
    unfold shf
    have := Int.emod_add_mul_ediv i q.ans.length
    have e : i / (q.ans.length : Int) * (q.ans.length : Int) = (q.ans.length : Int) * (i / (q.ans.length : Int)) := Int.mul_comm _ _
    omega
  have s0 := shf_0 (b := i) hl
  have s1 := shf_1 (b := i) hl
  unfold rd_Question_turned
  walk_at "q"
  refine cw_of ⟨_, rfl, ?_⟩
  walk_at "q"
  walk_at "fq"
  refine len_t hb.F.W ?_
  rw [List.length_map]
  walk_at "q"
  refine div_int (small_div (by omega) (by omega)) ?_
  walk_at "q"
  have d0 : 0 ≤ i / (q.ans.length : Int) := Int.ediv_nonneg i0 (by omega)
  have d1 : i / (q.ans.length : Int) ≤ i := Int.ediv_le_self _ i0
  refine mul_int (small_mul d0 (by omega) (by omega) (by omega)) ?_
  walk_at "q"
  rw [e1]
  have hr0 := ok.r0
  have hr1 := ok.r1
  refine ew_eq (v := .int ((q.right - shf q i) % q.ans.length)) (ew_if ?_) ?_
  · walk_at "fq"
    refine ⟨fun h => ?_, fun h => ?_⟩
    · have h' := of_decide_eq_true h
      walk_at "fq"
      rw [Int.emod_eq_of_lt (by omega) (by omega)]
      exact ⟨rfl, rfl, rfl⟩
    · have h' := of_decide_eq_false h
      walk_at "fq"
      rw [← Int.add_emod_right, Int.emod_eq_of_lt (by omega) (by omega)]
      exact ⟨rfl, rfl, rfl⟩
  walk_at "q"
  have fld : ∀ (σ : L2.St) (B' : Hp) (M' : MM), σ[0]? = some (some (.ref a)) → B' a = some (.ins (He.ga K "Question") dx (qFs q b)) → EW (tFld K (tVar 0) "answers") σ B' M' fun x B1 M1 => x = .ref b ∧ B1 = B' ∧ M1 = M' := by
    intro σ B' M' hσ ha
    refine ew_fldE T.c_Question T.n_Question_answers (ew_var hσ ⟨_, _, _, rfl, .inl ha, _, rfl, ?_⟩)
    exact ⟨rfl, rfl, rfl⟩
  refine ew_rot (b := b) (xs := q.ans.map V.str) (i := shf q i) (fun M' => fld _ B M' rfl ha) (fun M' => ?_) (fun B' M' e => fld _ B' M' rfl (e _ _ ha)) (fun B' M' e => ?_) hb s0 (by rw [List.length_map]; omega) (by rw [List.length_map]; omega) (fun a' B' e ht => ?_)
  · walk_at "q"
    rfl
  · walk_at "q"
    rfl
  have ha' := e _ _ ha
  rw [← List.map_drop, ← List.map_take, ← List.map_append] at ht
  walk_at "q"
  walk_at "fq"
  walk_at "fq"
  walk_at "fq"
  walk_at "fq"
  walk_at "fq"
  intro x dx'
  refine cw_of ⟨x, dx', M, turn q i, a', rfl, rfl, ht, turn_ok ok i, rfl, ?_⟩
  walk_at "q"
  exact .keep fun ex at_ => .here (hq x _ (e.trans ex) ⟨dx', a', at_, AnsAt.ex ht ex⟩)
theorem ok_Question_turned (T : TX K mg) : Fnk P w K mg base d_Question_turned ps_Question_turned 5 (spW (sp_Question_turned K)) :=
  fnk_of (N := N_Question_turned) (rd_Question_turned K) T.d_Question_turned sc_Question_turned (len_Question_turned K) (fun f cdv A outer sh H E hr => (pss_cons (ps_if (pt_not (pt_val (pe_fn (ok_is_number T) bp_is_number_1 hr (by decide) rfl T.g_is_number (pa_cons (pv 1) pa_nil)))) (pss_one ps_never) pss_nil) (pss_cons (ps_set (i := 2) sc_Question_turned.nd rfl (Or.inl rfl) (pe_callB call_lenU (by rfl) T.f_len (by decide +kernel) (pa_cons (pe_fld (pv 0) rfl) pa_nil))) (pss_cons (ps_set (i := 3) sc_Question_turned.nd rfl (Or.inl rfl) (pe_op op_subU (pv 1) (pe_op op_mulU (pe_op op_divU (pv 1) (pv 2)) (pv 2)))) (pss_cons (ps_set (i := 4) sc_Question_turned.nd rfl (Or.inl rfl) (pe_ifExp (pt_cmpR op_geU (pe_fld (pv 0) rfl) (pv 3) (nomark _)) (pe_op op_subU (pe_fld (pv 0) rfl) (pv 3)) (pe_op op_addU (pe_op op_subU (pe_fld (pv 0) rfl) (pv 3)) (pv 2)))) (pss_cons (ps_set (i := 5) sc_Question_turned.nd rfl (Or.inl rfl) (pe_op op_catF (pe_slice sl_tupF (pe_fld (pv 0) rfl) (po_some (pv 3)) po_none) (pe_slice sl_tupF (pe_fld (pv 0) rfl) po_none (po_some (pv 3))))) (pss_one (ps_ret (pe_mkk (ok_QuestionX_initX T) bk_QuestionX_initX_4_right_toil_marks_kin hr (by decide) T.mk_Question rfl T.g_Question (pa_cons (pe_fld (pv 0) rfl) (pa_cons (pe_fld (pv 0) rfl) (pa_cons (pv 5) pa_nil))) (pk_cons (pv 4) (pk_cons (pe_fld (pv 0) rfl) (pk_cons (pe_fld (pv 0) rfl) (pk_cons (pe_fld (pv 0) rfl) pk_nil))))))))))))) (pure_Question_turned T)
abbrev N_need_question : List Str := ["thing"]
abbrev ps_need_question : List Str := ["thing"]
theorem sc_need_question : FnScope N_need_question ps_need_question (defScope s_need_question) := ⟨rfl, rfl, rfl, by decide +kernel, rfl, by decide +kernel, by decide +kernel⟩
def rd_need_question (K : PySem.W.Frag) : TS := (tIfS (tNot (tB (tCB (rIsi K) (tCons (tVar 0) (tCons (tC (.ref (He.ga K "Question"))) tNil))))) tNever tNext)
def sp_need_question (K : PySem.W.Frag) : SpW := fun vs B M Q E => ∃ a q, vs = [.ref a] ∧ QAt K B a q ∧ Q .non B M
theorem len_need_question (K : PySem.W.Frag) : ∀ vs B M Q E, sp_need_question K vs B M Q E → vs.length = ps_need_question.length := by
  intro _ _ _ _ _ h
  unfold sp_need_question at h
  repeat (first | (obtain ⟨rfl, _⟩ := h; rfl) | (obtain ⟨_, h⟩ := h))
theorem pure_need_question (T : TX K mg) : ∀ vs B M Q E, sp_need_question K vs B M Q E → SW (rd_need_question K) (DW.up ⟨fun _ B M => Q .non B M, Q, fun _ _ _ => False, fun _ _ _ => False⟩) (start N_need_question vs) B M := by
  rintro _ B M Q E ⟨a, q, rfl, ⟨dx, b, ha, hb⟩, hq⟩
  unfold rd_need_question
  walk_at "q"
  refine isi_ (TyW.ins T.i_Question (.inl ha)) (.own _) T.ko_Question_Question ?_
  walk_at "q"
  exact .le Le.refl hq
theorem ok_need_question (T : TX K mg) : Fnk P w K mg base d_need_question ps_need_question 3 (spW (sp_need_question K)) :=
  fnk_of (N := N_need_question) (rd_need_question K) T.d_need_question sc_need_question (len_need_question K) (fun f cdv A outer sh H E hr => (pss_one (ps_if (pt_not (pt_val (pe_callB call_isi (by rfl) T.f_isinstance (by decide +kernel) (pa_cons (pv 0) (pa_cons (pe_glob rfl T.g_Question rfl) pa_nil))))) (pss_one ps_never) pss_nil))) (pure_need_question T)
end
end Pap

set_option maxHeartbeats 4000000
/-! S6: banks. -/
namespace Pap
open PySem PySem.Spec PyProof.Rows L2 PT
local macro_rules | `(tactic| walk_at "q1") => `(tactic| first
  | with_reducible refine sw_seq ?_
  | with_reducible refine sw_ret ?_
  | with_reducible refine sw_if ?_
  | with_reducible refine sw_next ?_
  | with_reducible refine sw_drop ?_
  | with_reducible refine sw_retN ?_
  | with_reducible refine sw_set ?_
  | with_reducible refine sw_par ?_
  | with_reducible refine sw_par3 ?_
  | with_reducible refine sw_asg ?_
  | with_reducible refine gw_name ?_
  | with_reducible refine gsw_cons ?_
  | with_reducible refine gsw_nil ?_
  | with_reducible refine tw_or ?_
  | with_reducible refine tw_and ?_
  | with_reducible refine tw_not ?_
  | with_reducible refine tw_B ?_
  | with_reducible refine tw_test ?_
  | with_reducible refine tw_yes ?_
  | with_reducible refine ew_cb ?_
  | with_reducible refine ew_c ?_
  | with_reducible refine ew_op ?_
  | with_reducible refine ew_chain ?_
  | with_reducible refine ew_notV ?_
  | with_reducible refine ew_andV ?_
  | with_reducible refine ew_orV ?_
  | with_reducible refine ew_un ?_
  | with_reducible refine ew_then ?_
  | with_reducible refine ew_sl ?_
  | with_reducible refine ow_no ?_
  | with_reducible refine ow_some ?_
  | with_reducible refine ew_tup ?_
  | with_reducible refine ew_lst ?_
  | with_reducible refine ew_tupF ?_
  | with_reducible refine ew_dnew ?_
  | with_reducible refine ew_call ?_
  | with_reducible refine ew_callN ?_
  | with_reducible refine ew_make ?_
  | with_reducible refine ew_makeN ?_
  | with_reducible refine ew_meth ?_
  | with_reducible refine ew_methK ?_
  | with_reducible refine ew_tm ?_
  | with_reducible refine ew_bm ?_
  | with_reducible refine ew_bm0 ?_
  | with_reducible refine aw_nil ?_
  | with_reducible refine aw_cons ?_
  | (with_reducible refine ew_varE ?_; refine ⟨_, rfl, ?_⟩)
  | with_reducible refine le_int ?_
  | with_reducible refine lt_int ?_
  | with_reducible refine ge_int ?_
  | with_reducible refine gt_int ?_
  | with_reducible refine eq_int ?_
  | with_reducible refine ne_int ?_
  | with_reducible refine eq_str ?_
  | with_reducible refine ne_str ?_
  | with_reducible refine add_int ?_
  | with_reducible refine sub_int ?_
  | with_reducible refine is_n ?_
  | with_reducible refine isn_n ?_
  | with_reducible refine isi_ii ?_
  | with_reducible refine isi_ib ?_
  | with_reducible refine isi_ss ?_
  | (with_reducible refine ⟨rfl, rfl, ?_⟩)
  | with_reducible refine up_rt ?_
  | with_reducible refine up_nx ?_
  | with_reducible refine tt_ ?_
  | with_reducible refine ff_ ?_
  | with_reducible refine ⟨_, rfl, ?_⟩
  | rw [Bool.not_true]
  | rw [Bool.not_false]
  | (show _ ∧ _; with_reducible refine tt_ ?_)
  | (show _ ∧ _; with_reducible refine ff_ ?_)
  | fail "q1: no step")
local macro_rules | `(tactic| walk_at "q") => `(tactic| repeat walk_at "q1")
local macro_rules | `(tactic| walk_at "le") => `(tactic| repeat (first | with_reducible exact Le.refl | with_reducible refine Le.drop ?_ | with_reducible refine Le.app ?_))
local macro_rules | `(tactic| walk_at "nq") => `(tactic| first | exact TX.n_Question_name (by assumption) | exact TX.n_Question_matter (by assumption) | exact TX.n_Question_answers (by assumption) | exact TX.n_Question_right (by assumption) | exact TX.n_Question_toil (by assumption) | exact TX.n_Question_marks (by assumption) | exact TX.n_Question_kin (by assumption))
local macro_rules | `(tactic| walk_at "fl") => `(tactic| refine ⟨_, _, _, rfl, .inl (by assumption), _, rfl, ?_⟩)
local macro_rules | `(tactic| walk_at "fq") => `(tactic| (walk_at "q"; (with_reducible refine ew_fldE (TX.c_Question (by assumption)) (by walk_at "nq") ?_); walk_at "q"; walk_at "fl"; walk_at "q"))

def tNeverE : TE := fun _ _ _ => False
theorem pe_never {X : Cx} {e : Expr} : PE X e tNeverE := ⟨fun _ _ _ _ _ _ h => h.elim⟩
def rLenD : List V → Hp → VK → Prop := fun xs H Q => ∃ a kvs, xs = [V.ref a] ∧ H a = some (.dK kvs) ∧ Q (.int kvs.length) H
theorem lenD_ {B : Hp} {M : MM} {Q : KW} {a : Addr} {kvs : List (Key × V)} (h : At B M a (.dK kvs)) (q : Q (.int kvs.length) B M) : RLW rLenD [.ref a] B M Q := fun _ k H W => ⟨a, kvs, rfl, h.of W, k _ _ _ _ W q⟩
theorem sw_fldS {K : PySem.W.Frag} {σ : L2.St} {B : Hp} {M : MM} {f : Str} {C : Addr} {D : DW} {ta tv : TE} (hc : Cls K C) (hn : NoAttr K C f) (h : EW tv σ B M fun y B1 M1 => EW ta σ B1 M1 fun x B2 M2 => ∃ a dx fs R F, x = .ref a ∧ Sel M2 [(a, .ins C dx fs)] R F ∧ fs.lookup f = none ∧ fs.length < 1000 ∧ D.nx σ B2 (F [(a, .ins C dx (fs ++ [(f, y)]))])) :
    SW (sFld K ta tv f) D σ B M := by
  refine sw_fld hc hn fun Q' k H W => h Q' (fun y B1 M1 H1 W1 h1 => k _ _ _ _ W1 fun Q2 k2 H2 W2 => h1 Q2 (fun x B2 M2 H3 W3 h2 => ?_) H2 W2) H W
  obtain ⟨a, dx, fs, R, F, rfl, s, hl, hn', q⟩ := h2
  exact k2 _ _ _ _ W3 ⟨a, dx, fs, R, F, rfl, s, hn', by rw [putF_new hl]; exact q⟩
abbrev QL := List (Addr × Qn)
def bkKV (qs : QL) : List (Key × V) := qs.map fun r => (Sum.inr r.2.name, .ref r.1)
def bkF (k o d : Addr) : List (Str × V) := [("kept_here", .ref k), ("out_here", .ref o), ("days_here", .ref d)]
abbrev CB (K : PySem.W.Frag) : Addr := He.ga K "Bank"
def BankC (K : PySem.W.Frag) (c : MM) (x : Addr) (qs : QL) : Prop := ∃ dx k o d dvs, dvs.length ≤ qs.length ∧ c = [(d, .dK dvs), (o, .dK []), (k, .dK (bkKV qs)), (x, .ins (CB K) dx (bkF k o d))]
def BankAt (K : PySem.W.Frag) (B : Hp) (x : Addr) (qs : QL) : Prop := ∃ dx k o d, B x = some (.ins (CB K) dx (bkF k o d)) ∧ B k = some (.dK (bkKV qs)) ∧ B o = some (.dK []) ∧ (∀ r ∈ qs, QAt K B r.1 r.2)
theorem BankAt.ex {K : PySem.W.Frag} {B B' : Hp} {x : Addr} {qs : QL} (h : BankAt K B x qs) (e : Ex B B') : BankAt K B' x qs := let ⟨dx, k, o, d, h1, h2, h3, h4⟩ := h; ⟨dx, k, o, d, e _ _ h1, e _ _ h2, e _ _ h3, fun r hr => (h4 r hr).ex e⟩
def nms (qs : QL) : List Str := qs.map (·.2.name)
theorem keys_bk (qs : QL) : (bkKV qs).map (·.1) = (nms qs).map Sum.inr := by unfold bkKV nms; rw [List.map_map, List.map_map]; rfl
theorem val_no : ∀ {qs : QL} {n : Str}, n ∉ nms qs → valV (bkKV qs) (Sum.inr n) = none
  | [], _, _ => rfl
  | r :: qs, n, h => by
    have h1 : ¬ (Sum.inr r.2.name : Key) = Sum.inr n := fun e => h (by rw [← Sum.inr.inj e]; exact List.mem_cons_self ..)
    show valV ((Sum.inr r.2.name, V.ref r.1) :: bkKV qs) _ = none
    rw [valV_neg h1]
    exact val_no fun h2 => h (List.mem_cons_of_mem _ h2)
theorem val_yes : ∀ {qs : QL} {n : Str}, n ∈ nms qs → ∃ r ∈ qs, r.2.name = n ∧ valV (bkKV qs) (Sum.inr n) = some (.ref r.1)
  | [], _, h => nomatch h
  | r :: qs, n, h => by
    by_cases e : r.2.name = n
    · exact ⟨r, List.mem_cons_self .., e, valV_pos (show (Sum.inr r.2.name : Key) = Sum.inr n by rw [e])⟩
    · obtain ⟨r', h1, h2, h3⟩ := val_yes (qs := qs) (n := n) ((List.mem_cons.mp h).resolve_left fun q => e q.symm)
      refine ⟨r', List.mem_cons_of_mem _ h1, h2, ?_⟩
      show valV ((Sum.inr r.2.name, V.ref r.1) :: bkKV qs) _ = _
      rw [valV_neg fun q => e (Sum.inr.inj q)]
      exact h3
theorem put_new {qs : QL} {q : Qn} {a : Addr} (h : q.name ∉ nms qs) : putK (bkKV qs) (Sum.inr q.name) (.ref a) = bkKV (qs ++ [(a, q)]) := by
  unfold putK
  rw [if_neg]
  · unfold bkKV; rw [List.map_append]; rfl
  · intro e
    obtain ⟨kv, h1, h2⟩ := List.any_eq_true.mp e
    obtain ⟨r, h3, rfl⟩ := List.mem_map.mp h1
    exact h (List.mem_map.mpr ⟨r, h3, Sum.inr.inj (of_decide_eq_true h2)⟩)
theorem putK_len (kvs : List (Key × V)) (k : Key) (v : V) : (putK kvs k v).length ≤ kvs.length + 1 := by
  unfold putK
  split
  · rw [List.length_map]; omega
  · rw [List.length_append]; exact Nat.le_refl _
section
variable {P : Program} {w : World} {K : PySem.W.Frag} {mg : Str → Option Value} {base : Heap}
abbrev N_Bank_added : List Str := ["self", "question"]
abbrev ps_Bank_added : List Str := ["self", "question"]
theorem sc_Bank_added : FnScope N_Bank_added ps_Bank_added (defScope s_Bank_added) := ⟨rfl, rfl, rfl, by decide +kernel, rfl, by decide +kernel, by decide +kernel⟩
theorem bp_need_question_1 {K : PySem.W.Frag} : BindP K d_need_question ps_need_question [] := bindP_n rfl rfl fun _ _ _ _ _ _ us hl => match us, hl with | [_], _ => rfl
def rd_Bank_added (K : PySem.W.Frag) : TS := (tSeq (tDrop (tCall (spW (sp_need_question K)) [] E0 (tCons (tVar 1) tNil))) (tSeq (tIfS (tB (tDIn (tFld K (tVar 1) "name") (tFld K (tVar 0) "kept_here"))) tNever tNext) (tSeq (tIfS (tTest (tOp (rEqU K) (tCB rLenD (tCons (tFld K (tVar 0) "kept_here") tNil)) (tC (.int (60))))) tNever tNext) (tSeq (sDPut (tFld K (tVar 0) "kept_here") (tFld K (tVar 1) "name") (tVar 1)) (sDPut (tFld K (tVar 0) "days_here") (tFld K (tVar 1) "name") (tLst tNil))))))
def sp_Bank_added (K : PySem.W.Frag) : SpW := fun vs B M Q E => ∃ x a qs q c R, vs = [.ref x, .ref a] ∧ M = c ++ R ∧ BankC K c x qs ∧ QAt K B a q ∧ q.name ∉ nms qs ∧ qs.length < 60 ∧ ∀ c' B', Ex B B' → BankC K c' x (qs ++ [(a, q)]) → Q .non B' (c' ++ R)
theorem len_Bank_added (K : PySem.W.Frag) : ∀ vs B M Q E, sp_Bank_added K vs B M Q E → vs.length = ps_Bank_added.length := by
  intro _ _ _ _ _ h
  unfold sp_Bank_added at h
  repeat (first | (obtain ⟨rfl, _⟩ := h; rfl) | (obtain ⟨_, h⟩ := h))
theorem pure_Bank_added (T : TX K mg) : ∀ vs B M Q E, sp_Bank_added K vs B M Q E → SW (rd_Bank_added K) (DW.up ⟨fun _ B M => Q .non B M, Q, fun _ _ _ => False, fun _ _ _ => False⟩) (start N_Bank_added vs) B M := by
  rintro _ B _ Q E ⟨x, a, qs, q, _, R, rfl, rfl, ⟨dx, k, o, d, dvs, hdl, rfl⟩, hq, hn, hl, k0⟩
  obtain ⟨dq, b, ha, hb⟩ := id hq
  have Ax : ∀ {M : MM}, At B ([(d, HO.dK dvs), (o, .dK []), (k, .dK (bkKV qs)), (x, .ins (CB K) dx (bkF k o d))] ++ M) x (.ins (CB K) dx (bkF k o d)) := .inr (by simp)
  have Ak : ∀ {M : MM}, At B ([(d, HO.dK dvs), (o, .dK []), (k, .dK (bkKV qs)), (x, .ins (CB K) dx (bkF k o d))] ++ M) k (.dK (bkKV qs)) := .inr (by simp)
  unfold rd_Bank_added
  walk_at "q"
  refine cw_of ⟨a, q, rfl, hq, ?_⟩
  walk_at "q"
  refine ew_din ?_
  walk_at "fq"
  refine ew_fldE T.c_Bank T.n_Bank_kept_here ?_
  walk_at "q"
  refine ⟨_, _, _, rfl, Ax, _, rfl, ?_⟩
  refine ⟨k, _, Sum.inr q.name, rfl, Ak, rfl, ?_⟩
  rw [val_no hn]
  refine ⟨_, rfl, ff_ ?_⟩
  walk_at "q"
  refine ew_fldE T.c_Bank T.n_Bank_kept_here ?_
  walk_at "q"
  refine ⟨_, _, _, rfl, Ax, _, rfl, ?_⟩
  walk_at "q"
  refine lenD_ Ak ?_
  walk_at "q"
  rw [decide_eq_false (by unfold bkKV; rw [List.length_map]; omega)]
  walk_at "q"
  refine sw_dput ?_
  walk_at "q"
  refine ew_fldE T.c_Bank T.n_Bank_kept_here ?_
  walk_at "q"
  refine ⟨_, _, _, rfl, Ax, _, rfl, ?_⟩
  walk_at "fq"
  refine ⟨k, _, Sum.inr q.name, _, _, rfl, Sel.tl _ (Sel.tl _ (Sel.one _ _ _)), rfl, by unfold bkKV; rw [List.length_map, sizeLine_eq]; omega, ?_⟩
  rw [put_new hn]
  simp only [List.cons_append, List.nil_append]
  walk_at "q"
  refine sw_dput ?_
  walk_at "q"
  refine ⟨by decide, fun p => ?_⟩
  refine ew_fldE T.c_Bank T.n_Bank_days_here ?_
  walk_at "q"
  refine ⟨x, dx, bkF k o d, rfl, .inr (by simp), _, rfl, ?_⟩
  walk_at "fq"
  refine ⟨d, _, Sum.inr q.name, _, _, rfl, Sel.tl _ (Sel.one _ _ _), rfl, by rw [sizeLine_eq]; omega, ?_⟩
  simp only [List.cons_append, List.nil_append]
  refine .le (Le.drop .refl) (k0 [(d, .dK (putK dvs (Sum.inr q.name) (.ref p))), (o, .dK []), (k, .dK (bkKV (qs ++ [(a, q)]))), (x, .ins (CB K) dx (bkF k o d))] B Ex.rfl' ⟨dx, k, o, d, _, ?_, rfl⟩)
  have := putK_len dvs (Sum.inr q.name) (.ref p)
  rw [List.length_append, List.length_singleton]
  omega
theorem ok_Bank_added (T : TX K mg) : Fnk P w K mg base d_Bank_added ps_Bank_added 4 (spW (sp_Bank_added K)) :=
  fnk_of (N := N_Bank_added) (rd_Bank_added K) T.d_Bank_added sc_Bank_added (len_Bank_added K) (fun f cdv A outer sh H E hr => (pss_cons (ps_expr (pe_fn (ok_need_question T) bp_need_question_1 hr (by decide) rfl T.g_need_question (pa_cons (pv 1) pa_nil))) (pss_cons (ps_if (pt_cmp (pc_din (hu_of hr) (pe_fld (pv 1) rfl) (pe_fld (pv 0) rfl))) (pss_one ps_never) pss_nil) (pss_cons (ps_if (pt_cmpR (op_eqU hr.units) (pe_callB call_lenD (by rfl) T.f_len (by decide +kernel) (pa_cons (pe_fld (pv 0) rfl) pa_nil)) (C8.pe_gc rfl T.k_MOST_QUESTIONS) (nomark _)) (pss_one ps_never) pss_nil) (pss_cons (ps_dput (hu_of hr) (pe_fld (pv 0) rfl) (pe_fld (pv 1) rfl) (pv 1) rfl) (pss_one (ps_dput (hu_of hr) (pe_fld (pv 0) rfl) (pe_fld (pv 1) rfl) (pe_lst pa_nil) rfl))))))) (pure_Bank_added T)
end
end Pap

set_option maxHeartbeats 4000000
/-! S7: banks, more. -/
namespace Pap
open PySem PySem.Spec PyProof.Rows L2 PT
local macro_rules | `(tactic| walk_at "q1") => `(tactic| first
  | with_reducible refine sw_seq ?_
  | with_reducible refine sw_ret ?_
  | with_reducible refine sw_if ?_
  | with_reducible refine sw_next ?_
  | with_reducible refine sw_drop ?_
  | with_reducible refine sw_retN ?_
  | with_reducible refine sw_set ?_
  | with_reducible refine sw_par ?_
  | with_reducible refine sw_par3 ?_
  | with_reducible refine sw_asg ?_
  | with_reducible refine gw_name ?_
  | with_reducible refine gsw_cons ?_
  | with_reducible refine gsw_nil ?_
  | with_reducible refine tw_or ?_
  | with_reducible refine tw_and ?_
  | with_reducible refine tw_not ?_
  | with_reducible refine tw_B ?_
  | with_reducible refine tw_test ?_
  | with_reducible refine tw_yes ?_
  | with_reducible refine ew_cb ?_
  | with_reducible refine ew_c ?_
  | with_reducible refine ew_op ?_
  | with_reducible refine ew_chain ?_
  | with_reducible refine ew_notV ?_
  | with_reducible refine ew_andV ?_
  | with_reducible refine ew_orV ?_
  | with_reducible refine ew_un ?_
  | with_reducible refine ew_then ?_
  | with_reducible refine ew_sl ?_
  | with_reducible refine ow_no ?_
  | with_reducible refine ow_some ?_
  | with_reducible refine ew_tup ?_
  | with_reducible refine ew_lst ?_
  | with_reducible refine ew_tupF ?_
  | with_reducible refine ew_dnew ?_
  | with_reducible refine ew_call ?_
  | with_reducible refine ew_callN ?_
  | with_reducible refine ew_make ?_
  | with_reducible refine ew_makeN ?_
  | with_reducible refine ew_meth ?_
  | with_reducible refine ew_methK ?_
  | with_reducible refine ew_tm ?_
  | with_reducible refine ew_bm ?_
  | with_reducible refine ew_bm0 ?_
  | with_reducible refine aw_nil ?_
  | with_reducible refine aw_cons ?_
  | (with_reducible refine ew_varE ?_; refine ⟨_, rfl, ?_⟩)
  | with_reducible refine le_int ?_
  | with_reducible refine lt_int ?_
  | with_reducible refine ge_int ?_
  | with_reducible refine gt_int ?_
  | with_reducible refine eq_int ?_
  | with_reducible refine ne_int ?_
  | with_reducible refine eq_str ?_
  | with_reducible refine ne_str ?_
  | with_reducible refine add_int ?_
  | with_reducible refine sub_int ?_
  | with_reducible refine is_n ?_
  | with_reducible refine isn_n ?_
  | with_reducible refine isi_ii ?_
  | with_reducible refine isi_ib ?_
  | with_reducible refine isi_ss ?_
  | (with_reducible refine ⟨rfl, rfl, ?_⟩)
  | with_reducible refine up_rt ?_
  | with_reducible refine up_nx ?_
  | with_reducible refine tt_ ?_
  | with_reducible refine ff_ ?_
  | with_reducible refine ⟨_, rfl, ?_⟩
  | rw [Bool.not_true]
  | rw [Bool.not_false]
  | (show _ ∧ _; with_reducible refine tt_ ?_)
  | (show _ ∧ _; with_reducible refine ff_ ?_)
  | fail "q1: no step")
local macro_rules | `(tactic| walk_at "q") => `(tactic| repeat walk_at "q1")
local macro_rules | `(tactic| walk_at "le") => `(tactic| repeat (first | with_reducible exact Le.refl | with_reducible refine Le.drop ?_ | with_reducible refine Le.app ?_))
local macro_rules | `(tactic| walk_at "nq") => `(tactic| first | exact TX.n_Question_name (by assumption) | exact TX.n_Question_matter (by assumption) | exact TX.n_Question_answers (by assumption) | exact TX.n_Question_right (by assumption) | exact TX.n_Question_toil (by assumption) | exact TX.n_Question_marks (by assumption) | exact TX.n_Question_kin (by assumption))
local macro_rules | `(tactic| walk_at "fl") => `(tactic| refine ⟨_, _, _, rfl, .inl (by assumption), _, rfl, ?_⟩)
local macro_rules | `(tactic| walk_at "fq") => `(tactic| (walk_at "q"; (with_reducible refine ew_fldE (TX.c_Question (by assumption)) (by walk_at "nq") ?_); walk_at "q"; walk_at "fl"; walk_at "q"))

def QsAt (K : PySem.W.Frag) (B : Hp) (l : Addr) (rs : QL) : Prop := B l = some (.lst (rs.map fun r => .ref r.1)) ∧ ∀ r ∈ rs, QAt K B r.1 r.2
theorem QsAt.ex {K : PySem.W.Frag} {B B' : Hp} {l : Addr} {rs : QL} (h : QsAt K B l rs) (e : Ex B B') : QsAt K B' l rs := ⟨e _ _ h.1, fun r hr => (h.2 r hr).ex e⟩
def q0 : Addr × Qn := (0, ⟨"", "", [], 0, 0, 0, ""⟩)
def pick (qs : QL) (n : Str) : Addr × Qn := (qs.find? fun r => decide (r.2.name = n)).getD q0
theorem pick_mem : ∀ {qs : QL} {n : Str}, n ∈ nms qs → pick qs n ∈ qs ∧ (pick qs n).2.name = n
  | [], _, h => nomatch h
  | r :: qs, n, h => by
    by_cases e : r.2.name = n
    · have : pick (r :: qs) n = r := by unfold pick; rw [List.find?_cons, decide_eq_true e]; rfl
      rw [this]
      exact ⟨List.mem_cons_self .., e⟩
    · have : pick (r :: qs) n = pick qs n := by unfold pick; rw [List.find?_cons, decide_eq_false e]
      rw [this]
      obtain ⟨h1, h2⟩ := pick_mem (qs := qs) ((List.mem_cons.mp h).resolve_left fun q => e q.symm)
      exact ⟨List.mem_cons_of_mem _ h1, h2⟩
theorem nd_inj {α : Type} {l : List α} (nd : l.Nodup) {i j : Nat} (hi : i < l.length) (hj : j < l.length) (e : l[i] = l[j]) : i = j := by
  rcases Nat.lt_trichotomy i j with h | h | h
  · exact absurd e (List.pairwise_iff_getElem.mp nd i j hi hj h)
  · exact h
  · exact absurd e.symm (List.pairwise_iff_getElem.mp nd j i hj hi h)
theorem pick_one {qs : QL} (nd : (nms qs).Nodup) {r : Addr × Qn} (h : r ∈ qs) : pick qs r.2.name = r := by
  have hm : r.2.name ∈ nms qs := List.mem_map.mpr ⟨r, h, rfl⟩
  obtain ⟨h1, h2⟩ := pick_mem hm
  obtain ⟨i, hi, e1⟩ := List.getElem_of_mem h1
  obtain ⟨j, hj, e2⟩ := List.getElem_of_mem h
  have e3 : (nms qs)[i]'(by unfold nms; rw [List.length_map]; exact hi) = (nms qs)[j]'(by unfold nms; rw [List.length_map]; exact hj) := by
    unfold nms
    rw [List.getElem_map, List.getElem_map, e1, e2, h2]
  have e4 := nd_inj nd _ _ e3
  subst e4
  exact e1.symm.trans e2
theorem pick_self {qs : QL} (nd : (nms qs).Nodup) : (nms qs).map (pick qs) = qs := by
  unfold nms
  rw [List.map_map]
  refine (List.map_congr_left (g := id) fun r hr => ?_).trans (List.map_id _)
  exact pick_one nd hr
theorem nms_pick {qs : QL} : ∀ {zs : List Str}, (∀ z ∈ zs, z ∈ nms qs) → nms (zs.map (pick qs)) = zs
  | [], _ => rfl
  | z :: zs, h => by
    show (pick qs z).2.name :: nms (zs.map (pick qs)) = _
    rw [(pick_mem (h z (List.mem_cons_self ..))).2, nms_pick fun y hy => h y (List.mem_cons_of_mem _ hy)]
theorem val_pick : ∀ {qs : QL} {n : Str}, n ∈ nms qs → valV (bkKV qs) (Sum.inr n) = some (.ref (pick qs n).1)
  | [], _, h => nomatch h
  | r :: qs, n, h => by
    by_cases e : r.2.name = n
    · have : pick (r :: qs) n = r := by unfold pick; rw [List.find?_cons, decide_eq_true e]; rfl
      rw [this]
      exact valV_pos (show (Sum.inr r.2.name : Key) = Sum.inr n by rw [e])
    · have : pick (r :: qs) n = pick qs n := by unfold pick; rw [List.find?_cons, decide_eq_false e]
      rw [this]
      show valV ((Sum.inr r.2.name, V.ref r.1) :: bkKV qs) _ = _
      rw [valV_neg fun q => e (Sum.inr.inj q)]
      exact val_pick ((List.mem_cons.mp h).resolve_left fun q => e q.symm)
section
variable {P : Program} {w : World} {K : PySem.W.Frag} {mg : Str → Option Value} {base : Heap}
abbrev N_BankX_initX : List Str := ["self", "questions", "question"]
abbrev ps_BankX_initX : List Str := ["self", "questions"]
theorem sc_BankX_initX : FnScope N_BankX_initX ps_BankX_initX (defScope s_BankX_initX) := ⟨rfl, rfl, rfl, by decide +kernel, rfl, by decide +kernel, by decide +kernel⟩
theorem bp_Bank_added_2 {K : PySem.W.Frag} : BindP K d_Bank_added ps_Bank_added [] := bindP_n rfl rfl fun _ _ _ _ _ _ us hl => match us, hl with | [_, _], _ => rfl
def rd_BankX_initX (K : PySem.W.Frag) : TS := (tSeq (sFld K (tVar 0) tDNewK "kept_here") (tSeq (sFld K (tVar 0) tDNewK "out_here") (tSeq (sFld K (tVar 0) tDNewK "days_here") (tSeq (tIfS (tTest (tOp rIsN1 (tVar 1) (tC .non))) (tAsg (tLst tNil) (gName 1)) tNext) (tSeq (tIfS (tNot (tB (tCB (rIsiT K) (tCons (tVar 1) (tCons (tTup (tCons (tC (.ty "list")) (tCons (tC (.ty "tuple")) tNil))) tNil))))) tNever tNext) (tFor (iAny K (tVar 1)) (gName 2) (tDrop (tMeth (He.ga K "Bank") "added" (spW (sp_Bank_added K)) [] E0 (tVar 0) (tCons (tVar 2) tNil)))))))))
def sp_BankX_initX (K : PySem.W.Frag) : SpW := fun vs B M Q E => ∃ x l dx rs R, vs = [.ref x, .ref l] ∧ M = (x, .ins (CB K) dx []) :: R ∧ QsAt K B l rs ∧ (nms rs).Nodup ∧ rs.length ≤ 60 ∧ ∀ c' B', Ex B B' → BankC K c' x rs → Q .non B' (c' ++ R)
theorem len_BankX_initX (K : PySem.W.Frag) : ∀ vs B M Q E, sp_BankX_initX K vs B M Q E → vs.length = ps_BankX_initX.length := by
  intro _ _ _ _ _ h
  unfold sp_BankX_initX at h
  repeat (first | (obtain ⟨rfl, _⟩ := h; rfl) | (obtain ⟨_, h⟩ := h))
theorem pure_BankX_initX (T : TX K mg) : ∀ vs B M Q E, sp_BankX_initX K vs B M Q E → SW (rd_BankX_initX K) (DW.up ⟨fun _ B M => Q .non B M, Q, fun _ _ _ => False, fun _ _ _ => False⟩) (start N_BankX_initX vs) B M := by
  rintro _ B _ Q E ⟨x, l, dx, rs, R, rfl, rfl, hrs, nd, hl, k0⟩
  unfold rd_BankX_initX
  walk_at "q"
  refine sw_fldS T.c_Bank T.n_Bank_kept_here ?_
  refine ew_dnew fun k => ?_
  walk_at "q"
  refine ⟨x, dx, [], _, _, rfl, Sel.tl _ (Sel.one _ _ _), rfl, by decide, ?_⟩
  simp only [List.cons_append, List.nil_append]
  walk_at "q"
  refine sw_fldS T.c_Bank T.n_Bank_out_here ?_
  refine ew_dnew fun o => ?_
  walk_at "q"
  refine ⟨x, dx, _, _, _, rfl, Sel.tl _ (Sel.tl _ (Sel.one _ _ _)), rfl, by simp, ?_⟩
  simp only [List.cons_append, List.nil_append]
  walk_at "q"
  refine sw_fldS T.c_Bank T.n_Bank_days_here ?_
  refine ew_dnew fun d => ?_
  walk_at "q"
  refine ⟨x, dx, _, _, _, rfl, Sel.tl _ (Sel.tl _ (Sel.tl _ (Sel.one _ _ _))), rfl, by simp, ?_⟩
  simp only [List.cons_append, List.nil_append]
  walk_at "q"
  refine ⟨fun h => absurd (of_decide_eq_true h) nofun, fun _ => ?_⟩
  walk_at "q"
  refine ⟨le_line (Nat.le_refl 2), fun p => ?_⟩
  walk_at "q"
  refine isiT_ (TyW.lst (.inl hrs.1)) .here (.cons (.ty _) (.cons (.ty _) .nil)) (kitAny_cons (b := true) (r := true) (kit_ty (by decide +kernel)) nofun (fun _ => rfl)) ?_
  walk_at "q"
  refine sw_le (Le.drop Le.refl) ?_
  refine sw_for (iw_any ?_)
  walk_at "q"
  refine .inl ⟨l, rs.map (fun r => V.ref r.1), rfl, .per hrs.1, _, _, _, fun i σ B' M' => (∃ v, σ = [some (.ref x), some (.ref l), v]) ∧ Ex B B' ∧ ∃ c, M' = c ++ R ∧ BankC K c x (rs.take i), runs_list (xs := rs.map fun r => V.ref r.1), ⟨⟨_, rfl⟩, Ex.rfl', [(d, .dK []), (o, .dK []), (k, .dK []), (x, .ins (CB K) dx (bkF k o d))], rfl, dx, k, o, d, [], Nat.zero_le _, rfl⟩, ?_, ?_, ?_⟩
  · rintro i σ B' M' ⟨_, e, _⟩
    exact .per (e _ _ hrs.1)
  · rintro i v _ B1 _ B2 M2 hi ⟨⟨v0, rfl⟩, e, c, rfl, hc⟩ ⟨hv, rfl, rfl⟩
    rw [List.getElem?_map, Option.map_eq_some_iff] at hv
    obtain ⟨r, hr, rfl⟩ := hv
    have hr' := List.mem_of_getElem? hr
    obtain ⟨dx', k', o', d', dvs, h1, h2⟩ := id hc
    walk_at "q"
    refine ⟨x, dx', bkF k' o' d', rfl, .inr (by rw [h2]; simp), rfl, ?_⟩
    walk_at "q"
    have ht : rs.take (i + 1) = rs.take i ++ [r] := by rw [List.take_succ, hr]; rfl
    have hnd : (nms (rs.take i ++ [r])).Nodup := by
      rw [← ht]
      exact (List.Sublist.map _ (List.take_sublist _ _)).nodup nd
    refine cw_of ⟨x, r.1, rs.take i, r.2, c, R, rfl, rfl, hc, (hrs.2 r hr').ex e, fun hm => ?_, by rw [List.length_map] at hi; rw [List.length_take]; omega, fun c' B' e' hc' => ?_⟩
    · unfold nms at hnd
      rw [List.map_append] at hnd
      exact (List.nodup_append.mp hnd).2.2 _ hm _ (List.mem_singleton.mpr rfl) rfl
    · refine .here ⟨⟨_, rfl⟩, e.trans e', c', rfl, ?_⟩
      rw [ht]
      exact hc'
  · rintro σ B' M' ⟨_, e, c, rfl, hc⟩
    rw [List.length_map, List.take_length] at hc
    exact .le Le.refl (k0 c B' e hc)
theorem ok_BankX_initX (T : TX K mg) : Fnk P w K mg base d_BankX_initX ps_BankX_initX 5 (spW (sp_BankX_initX K)) :=
  fnk_of (N := N_BankX_initX) (rd_BankX_initX K) T.d_BankX_initX sc_BankX_initX (len_BankX_initX K) (fun f cdv A outer sh H E hr => (pss_cons (ps_fld (pv 0) pe_dnewK rfl) (pss_cons (ps_fld (pv 0) pe_dnewK rfl) (pss_cons (ps_fld (pv 0) pe_dnewK rfl) (pss_cons (ps_if (pt_cmpR op_isU (pv 1) pe_non (nomark _)) (pss_one (ps_set (i := 1) sc_BankX_initX.nd rfl (Or.inl rfl) (pe_lst pa_nil))) pss_nil) (pss_cons (ps_if (pt_not (pt_val (pe_callB call_isiT (by rfl) T.f_isinstance (by decide +kernel) (pa_cons (pv 1) (pa_cons (pe_tup (pa_cons (pe_bltn (v := .ty "list") rfl T.f_list boot_list rfl) (pa_cons (pe_bltn (v := .ty "tuple") rfl T.f_tuple boot_tuple rfl) pa_nil))) pa_nil))))) (pss_one ps_never) pss_nil) (pss_one (ps_for PassesOwn.never rfl (pi_any (pv 1)) (pg_name (i := 2) sc_BankX_initX.nd rfl (Or.inl rfl)) (pss_one (ps_expr (pe_me (ok_Bank_added T) bp_Bank_added_2 hr (by decide) T.c_Bank T.m_Bank_added (pv 0) (pa_cons (pv 2) pa_nil)))))))))))) (pure_BankX_initX T)
abbrev N_Bank_need_there : List Str := ["self", "name"]
abbrev ps_Bank_need_there : List Str := ["self", "name"]
theorem sc_Bank_need_there : FnScope N_Bank_need_there ps_Bank_need_there (defScope s_Bank_need_there) := ⟨rfl, rfl, rfl, by decide +kernel, rfl, by decide +kernel, by decide +kernel⟩
def rd_Bank_need_there (K : PySem.W.Frag) : TS := (tIfS (tOr (tNot (tB (tCB (rIsi K) (tCons (tVar 1) (tCons (tC (.ty "str")) tNil))))) (tB (tDNotIn (tVar 1) (tFld K (tVar 0) "kept_here")))) tNever tNext)
def sp_Bank_need_there (K : PySem.W.Frag) : SpW := fun vs B M Q E => ∃ x n qs, vs = [.ref x, .str n] ∧ BankAt K B x qs ∧ n ∈ nms qs ∧ Q .non B M
theorem len_Bank_need_there (K : PySem.W.Frag) : ∀ vs B M Q E, sp_Bank_need_there K vs B M Q E → vs.length = ps_Bank_need_there.length := by
  intro _ _ _ _ _ h
  unfold sp_Bank_need_there at h
  repeat (first | (obtain ⟨rfl, _⟩ := h; rfl) | (obtain ⟨_, h⟩ := h))
theorem pure_Bank_need_there (T : TX K mg) : ∀ vs B M Q E, sp_Bank_need_there K vs B M Q E → SW (rd_Bank_need_there K) (DW.up ⟨fun _ B M => Q .non B M, Q, fun _ _ _ => False, fun _ _ _ => False⟩) (start N_Bank_need_there vs) B M := by
  rintro _ B M Q E ⟨x, n, qs, rfl, ⟨dx, k, o, d, hx, hk, ho, hq⟩, hn, q⟩
  unfold rd_Bank_need_there
  obtain ⟨r, _, _, hv⟩ := val_yes hn
  walk_at "q"
  refine ew_dnotin ?_
  walk_at "q"
  refine ew_fldE T.c_Bank T.n_Bank_kept_here ?_
  walk_at "q"
  refine ⟨_, _, _, rfl, .inl hx, _, rfl, ?_⟩
  refine ⟨k, _, Sum.inr n, rfl, .inl hk, rfl, ?_⟩
  rw [hv]
  refine ⟨_, rfl, ff_ ?_⟩
  walk_at "q"
  exact .le Le.refl q
theorem ok_Bank_need_there (T : TX K mg) : Fnk P w K mg base d_Bank_need_there ps_Bank_need_there 3 (spW (sp_Bank_need_there K)) :=
  fnk_of (N := N_Bank_need_there) (rd_Bank_need_there K) T.d_Bank_need_there sc_Bank_need_there (len_Bank_need_there K) (fun f cdv A outer sh H E hr => (pss_one (ps_if (PW.pt (pw_or (pt_not (pt_val (pe_callB call_isi (by rfl) T.f_isinstance (by decide +kernel) (pa_cons (pv 1) (pa_cons (pe_bltn (v := .ty "str") rfl T.f_str boot_str rfl) pa_nil))))) (pw_or1 (pt_cmp (pc_dnotin (hu_of hr) (pv 1) (pe_fld (pv 0) rfl)))))) (pss_one ps_never) pss_nil))) (pure_Bank_need_there T)
abbrev N_Bank_names : List Str := ["self"]
abbrev ps_Bank_names : List Str := ["self"]
theorem sc_Bank_names : FnScope N_Bank_names ps_Bank_names (defScope s_Bank_names) := ⟨rfl, rfl, rfl, by decide +kernel, rfl, by decide +kernel, by decide +kernel⟩
def rd_Bank_names (K : PySem.W.Frag) : TS := (tRet (tCB rSortedD (tCons (tFld K (tVar 0) "kept_here") tNil)))
def sp_Bank_names (K : PySem.W.Frag) : SpW := fun vs B M Q E => ∃ x qs, vs = [.ref x] ∧ BankAt K B x qs ∧ qs.length ≤ 60 ∧ ∀ (ys : List Str) p, ys.Perm (nms qs) → Q (.ref p) B ((p, .lst (ys.map .str)) :: M)
theorem len_Bank_names (K : PySem.W.Frag) : ∀ vs B M Q E, sp_Bank_names K vs B M Q E → vs.length = ps_Bank_names.length := by
  intro _ _ _ _ _ h
  unfold sp_Bank_names at h
  repeat (first | (obtain ⟨rfl, _⟩ := h; rfl) | (obtain ⟨_, h⟩ := h))
theorem pure_Bank_names (T : TX K mg) : ∀ vs B M Q E, sp_Bank_names K vs B M Q E → SW (rd_Bank_names K) (DW.up ⟨fun _ B M => Q .non B M, Q, fun _ _ _ => False, fun _ _ _ => False⟩) (start N_Bank_names vs) B M := by
  rintro _ B M Q E ⟨x, qs, rfl, ⟨dx, k, o, d, hx, hk, ho, hq⟩, hl, q⟩
  unfold rd_Bank_names
  walk_at "q"
  refine ew_fldE T.c_Bank T.n_Bank_kept_here ?_
  walk_at "q"
  refine ⟨_, _, _, rfl, .inl hx, _, rfl, ?_⟩
  walk_at "q"
  exact sortedD_ (.inl hk) (keys_bk qs) (by unfold nms; rw [List.length_map]; omega) fun ys p h1 _ => .le Le.refl (q ys p h1)
theorem ok_Bank_names (T : TX K mg) : Fnk P w K mg base d_Bank_names ps_Bank_names 1 (spW (sp_Bank_names K)) :=
  fnk_of (N := N_Bank_names) (rd_Bank_names K) T.d_Bank_names sc_Bank_names (len_Bank_names K) (fun f cdv A outer sh H E hr => (pss_one (ps_ret (pe_callB (call_sortedD rfl) (by rfl) T.f_sorted (by decide +kernel) (pa_cons (pe_fld (pv 0) rfl) pa_nil))))) (pure_Bank_names T)
abbrev N_Bank_names_in : List Str := ["self", "name"]
abbrev ps_Bank_names_in : List Str := ["self"]
theorem sc_Bank_names_in : FnScope N_Bank_names_in ps_Bank_names_in (defScope s_Bank_names_in) := ⟨rfl, rfl, rfl, by decide +kernel, rfl, by decide +kernel, by decide +kernel⟩
theorem bp_Bank_names_1 {K : PySem.W.Frag} : BindP K d_Bank_names ps_Bank_names [] := bindP_n rfl rfl fun _ _ _ _ _ _ us hl => match us, hl with | [_], _ => rfl
def rd_Bank_names_in (K : PySem.W.Frag) : TS := (tRet (tLc (iAny K (tMeth (He.ga K "Bank") "names" (spW (sp_Bank_names K)) [] E0 (tVar 0) tNil)) (gName 1) (tB (tDNotIn (tVar 1) (tFld K (tVar 0) "out_here"))) (tVar 1) [1]))
def sp_Bank_names_in (K : PySem.W.Frag) : SpW := fun vs B M Q E => ∃ x qs, vs = [.ref x] ∧ BankAt K B x qs ∧ qs.length ≤ 60 ∧ ∀ (ys : List Str) p, ys.Perm (nms qs) → Q (.ref p) B ((p, .lst (ys.map .str)) :: M)
theorem len_Bank_names_in (K : PySem.W.Frag) : ∀ vs B M Q E, sp_Bank_names_in K vs B M Q E → vs.length = ps_Bank_names_in.length := by
  intro _ _ _ _ _ h
  unfold sp_Bank_names_in at h
  repeat (first | (obtain ⟨rfl, _⟩ := h; rfl) | (obtain ⟨_, h⟩ := h))
theorem pure_Bank_names_in (T : TX K mg) : ∀ vs B M Q E, sp_Bank_names_in K vs B M Q E → SW (rd_Bank_names_in K) (DW.up ⟨fun _ B M => Q .non B M, Q, fun _ _ _ => False, fun _ _ _ => False⟩) (start N_Bank_names_in vs) B M := by
  rintro _ B M Q E ⟨x, qs, rfl, hb, hl, q⟩
  obtain ⟨dx, k, o, d, hx, hk, ho, hq⟩ := id hb
  unfold rd_Bank_names_in
  walk_at "q"
  refine ew_lcP (iw_any ?_)
  walk_at "q"
  refine ⟨x, dx, _, rfl, .inl hx, rfl, ?_⟩
  walk_at "q"
  refine cw_of ⟨x, qs, rfl, hb, hl, fun ys p hp => ?_⟩
  have hyl : ys.length ≤ 60 := by rw [hp.length_eq]; unfold nms; rw [List.length_map]; exact hl
  refine .inl ⟨p, ys.map .str, rfl, .of .here, _, _, _, fun _ => true, fun i => (ys.map V.str).getD i .non, runs_list (xs := ys.map V.str), by rw [List.length_map]; exact le_line hyl, fun D acc => .of (.tail .here), ?_, fun D => ?_⟩
  · rintro D i v acc B' M' hi ⟨hv, rfl, rfl⟩
    refine gw_name ⟨wipe_set _, tw_B ?_⟩
    refine ew_dnotin ?_
    have hv0 := hv
    rw [List.getElem?_map, Option.map_eq_some_iff] at hv
    obtain ⟨n, _, rfl⟩ := hv
    walk_at "q"
    refine ew_fldE T.c_Bank T.n_Bank_out_here ?_
    walk_at "q"
    refine ⟨_, _, _, rfl, .inl hx, _, rfl, ?_⟩
    refine ⟨o, [], Sum.inr n, rfl, .inl ho, rfl, ?_⟩
    refine ⟨true, rfl, rfl, nofun, fun _ => ?_⟩
    walk_at "q"
    exact ⟨show V.str n = (ys.map V.str).getD i .non by rw [List.getD_eq_getElem?_getD, hv0]; rfl, Le.refl⟩
  · have e : ((List.range (ys.map V.str).length).filter fun _ => true).map (fun i => (ys.map V.str).getD i .non) = ys.map V.str := by
      rw [List.filter_eq_self.mpr fun _ _ => rfl]
      refine (map_range_get _ id _ fun i x hx => by rw [List.getD_eq_getElem?_getD, hx]; rfl).trans (List.map_id _)
    rw [e]
    refine .le (M' := (D, .lst (ys.map V.str)) :: M) (fun H W => ?_) (q ys D hp)
    exact (W.perm (List.Perm.swap ..)).drop
theorem ok_Bank_names_in (T : TX K mg) : Fnk P w K mg base d_Bank_names_in ps_Bank_names_in 2 (spW (sp_Bank_names_in K)) :=
  fnk_of (N := N_Bank_names_in) (rd_Bank_names_in K) T.d_Bank_names_in sc_Bank_names_in (len_Bank_names_in K) (fun f cdv A outer sh H E hr => (pss_one (ps_ret (pe_lc (own := [("name", 1)]) rfl sc_Bank_names_in.nd (pi_any (pe_me0 (ok_Bank_names T) bp_Bank_names_1 hr (by decide) T.c_Bank T.m_Bank_names (pv 0))) (blkOk_by (own := [("name", 1)]) (N := N_Bank_names_in) (sc := defScope s_Bank_names_in) (by decide +kernel)) (fun _ _ _ _ _ => (pg_name (i := 1) sc_Bank_names_in.nd rfl (Or.inl rfl))) (fun _ _ _ _ _ => (pts_one (pt_cmp (pc_dnotin (hu_of hr) (pv 1) (pe_fld (pv 0) rfl))))) (fun _ _ _ _ _ => (pv 1)))))) (pure_Bank_names_in T)
abbrev N_Bank_question : List Str := ["self", "name"]
abbrev ps_Bank_question : List Str := ["self", "name"]
theorem sc_Bank_question : FnScope N_Bank_question ps_Bank_question (defScope s_Bank_question) := ⟨rfl, rfl, rfl, by decide +kernel, rfl, by decide +kernel, by decide +kernel⟩
theorem bp_Bank_need_there_2 {K : PySem.W.Frag} : BindP K d_Bank_need_there ps_Bank_need_there [] := bindP_n rfl rfl fun _ _ _ _ _ _ us hl => match us, hl with | [_, _], _ => rfl
def rd_Bank_question (K : PySem.W.Frag) : TS := (tSeq (tDrop (tMeth (He.ga K "Bank") "need_there" (spW (sp_Bank_need_there K)) [] E0 (tVar 0) (tCons (tVar 1) tNil))) (tRet (tDGet (tFld K (tVar 0) "kept_here") (tVar 1))))
def sp_Bank_question (K : PySem.W.Frag) : SpW := fun vs B M Q E => ∃ x n qs, vs = [.ref x, .str n] ∧ BankAt K B x qs ∧ n ∈ nms qs ∧ Q (.ref (pick qs n).1) B M
theorem len_Bank_question (K : PySem.W.Frag) : ∀ vs B M Q E, sp_Bank_question K vs B M Q E → vs.length = ps_Bank_question.length := by
  intro _ _ _ _ _ h
  unfold sp_Bank_question at h
  repeat (first | (obtain ⟨rfl, _⟩ := h; rfl) | (obtain ⟨_, h⟩ := h))
theorem pure_Bank_question (T : TX K mg) : ∀ vs B M Q E, sp_Bank_question K vs B M Q E → SW (rd_Bank_question K) (DW.up ⟨fun _ B M => Q .non B M, Q, fun _ _ _ => False, fun _ _ _ => False⟩) (start N_Bank_question vs) B M := by
  rintro _ B M Q E ⟨x, n, qs, rfl, hb, hn, q⟩
  obtain ⟨dx, k, o, d, hx, hk, ho, hq⟩ := id hb
  have hv := val_pick hn
  unfold rd_Bank_question
  walk_at "q"
  refine ⟨x, dx, _, rfl, .inl hx, rfl, ?_⟩
  walk_at "q"
  refine cw_of ⟨x, n, qs, rfl, hb, hn, ?_⟩
  walk_at "q"
  refine ew_dget ?_
  refine ew_fldE T.c_Bank T.n_Bank_kept_here ?_
  walk_at "q"
  refine ⟨_, _, _, rfl, .inl hx, _, rfl, ?_⟩
  walk_at "q"
  refine ⟨k, _, Sum.inr n, _, rfl, .inl hk, rfl, hv, ?_⟩
  exact .le Le.refl q
theorem ok_Bank_question (T : TX K mg) : Fnk P w K mg base d_Bank_question ps_Bank_question 4 (spW (sp_Bank_question K)) :=
  fnk_of (N := N_Bank_question) (rd_Bank_question K) T.d_Bank_question sc_Bank_question (len_Bank_question K) (fun f cdv A outer sh H E hr => (pss_cons (ps_expr (pe_me (ok_Bank_need_there T) bp_Bank_need_there_2 hr (by decide) T.c_Bank T.m_Bank_need_there (pv 0) (pa_cons (pv 1) pa_nil))) (pss_one (ps_ret (pe_dget (hu_of hr) (pe_fld (pv 0) rfl) (pv 1) (fun _ _ => rfl)))))) (pure_Bank_question T)
abbrev N_BankX_eqX : List Str := ["self", "other"]
abbrev ps_BankX_eqX : List Str := ["self", "other"]
theorem sc_BankX_eqX : FnScope N_BankX_eqX ps_BankX_eqX (defScope s_BankX_eqX) := ⟨rfl, rfl, rfl, by decide +kernel, rfl, by decide +kernel, by decide +kernel⟩
def rd_BankX_eqX (K : PySem.W.Frag) : TS := (tRet (tAndV (tCB (rIsi K) (tCons (tVar 1) (tCons (tC (.ref (He.ga K "Bank"))) tNil))) tNeverE))
def sp_BankX_eqX (K : PySem.W.Frag) : SpW := fun vs B M Q E => ∃ x v t, vs = [.ref x, v] ∧ TyW K B M v t ∧ PySem.W.kitOne K t (.ref (CB K)) = some false ∧ Q (.bl false) B M
theorem len_BankX_eqX (K : PySem.W.Frag) : ∀ vs B M Q E, sp_BankX_eqX K vs B M Q E → vs.length = ps_BankX_eqX.length := by
  intro _ _ _ _ _ h
  unfold sp_BankX_eqX at h
  repeat (first | (obtain ⟨rfl, _⟩ := h; rfl) | (obtain ⟨_, h⟩ := h))
theorem pure_BankX_eqX (T : TX K mg) : ∀ vs B M Q E, sp_BankX_eqX K vs B M Q E → SW (rd_BankX_eqX K) (DW.up ⟨fun _ B M => Q .non B M, Q, fun _ _ _ => False, fun _ _ _ => False⟩) (start N_BankX_eqX vs) B M := by
  rintro _ B M Q E ⟨x, v, t, rfl, hv, hk, q⟩
  unfold rd_BankX_eqX
  walk_at "q"
  refine isi_ hv (.own _) hk ?_
  walk_at "q"
  exact .le Le.refl q
theorem ok_BankX_eqX (T : TX K mg) : Fnk P w K mg base d_BankX_eqX ps_BankX_eqX 2 (spW (sp_BankX_eqX K)) :=
  fnk_of (N := N_BankX_eqX) (rd_BankX_eqX K) T.d_BankX_eqX sc_BankX_eqX (len_BankX_eqX K) (fun f cdv A outer sh H E hr => (pss_one (ps_ret (pe_and (pe_callB call_isi (by rfl) T.f_isinstance (by decide +kernel) (pa_cons (pv 1) (pa_cons (pe_glob rfl T.g_Bank rfl) pa_nil))) (pe_one pe_never))))) (pure_BankX_eqX T)
abbrev N_need_bank : List Str := ["thing"]
abbrev ps_need_bank : List Str := ["thing"]
theorem sc_need_bank : FnScope N_need_bank ps_need_bank (defScope s_need_bank) := ⟨rfl, rfl, rfl, by decide +kernel, rfl, by decide +kernel, by decide +kernel⟩
def rd_need_bank (K : PySem.W.Frag) : TS := (tIfS (tNot (tB (tCB (rIsi K) (tCons (tVar 0) (tCons (tC (.ref (He.ga K "Bank"))) tNil))))) tNever tNext)
def sp_need_bank (K : PySem.W.Frag) : SpW := fun vs B M Q E => ∃ a qs, vs = [.ref a] ∧ BankAt K B a qs ∧ Q .non B M
theorem len_need_bank (K : PySem.W.Frag) : ∀ vs B M Q E, sp_need_bank K vs B M Q E → vs.length = ps_need_bank.length := by
  intro _ _ _ _ _ h
  unfold sp_need_bank at h
  repeat (first | (obtain ⟨rfl, _⟩ := h; rfl) | (obtain ⟨_, h⟩ := h))
theorem pure_need_bank (T : TX K mg) : ∀ vs B M Q E, sp_need_bank K vs B M Q E → SW (rd_need_bank K) (DW.up ⟨fun _ B M => Q .non B M, Q, fun _ _ _ => False, fun _ _ _ => False⟩) (start N_need_bank vs) B M := by
  rintro _ B M Q E ⟨a, qs, rfl, ⟨dx, k, o, d, hx, _⟩, hq⟩
  unfold rd_need_bank
  walk_at "q"
  refine isi_ (TyW.ins T.i_Bank (.inl hx)) (.own _) T.ko_Bank_Bank ?_
  walk_at "q"
  exact .le Le.refl hq
theorem ok_need_bank (T : TX K mg) : Fnk P w K mg base d_need_bank ps_need_bank 3 (spW (sp_need_bank K)) :=
  fnk_of (N := N_need_bank) (rd_need_bank K) T.d_need_bank sc_need_bank (len_need_bank K) (fun f cdv A outer sh H E hr => (pss_one (ps_if (pt_not (pt_val (pe_callB call_isi (by rfl) T.f_isinstance (by decide +kernel) (pa_cons (pv 0) (pa_cons (pe_glob rfl T.g_Bank rfl) pa_nil))))) (pss_one ps_never) pss_nil))) (pure_need_bank T)
end
end Pap

set_option maxHeartbeats 4000000
/-! S8: papers. -/
namespace Pap
open PySem PySem.Spec PyProof.Rows L2 PT
local macro_rules | `(tactic| walk_at "q1") => `(tactic| first
  | with_reducible refine sw_seq ?_
  | with_reducible refine sw_ret ?_
  | with_reducible refine sw_if ?_
  | with_reducible refine sw_next ?_
  | with_reducible refine sw_drop ?_
  | with_reducible refine sw_retN ?_
  | with_reducible refine sw_set ?_
  | with_reducible refine sw_par ?_
  | with_reducible refine sw_par3 ?_
  | with_reducible refine sw_asg ?_
  | with_reducible refine gw_name ?_
  | with_reducible refine gsw_cons ?_
  | with_reducible refine gsw_nil ?_
  | with_reducible refine tw_or ?_
  | with_reducible refine tw_and ?_
  | with_reducible refine tw_not ?_
  | with_reducible refine tw_B ?_
  | with_reducible refine tw_test ?_
  | with_reducible refine tw_yes ?_
  | with_reducible refine ew_cb ?_
  | with_reducible refine ew_c ?_
  | with_reducible refine ew_op ?_
  | with_reducible refine ew_chain ?_
  | with_reducible refine ew_notV ?_
  | with_reducible refine ew_andV ?_
  | with_reducible refine ew_orV ?_
  | with_reducible refine ew_un ?_
  | with_reducible refine ew_then ?_
  | with_reducible refine ew_sl ?_
  | with_reducible refine ow_no ?_
  | with_reducible refine ow_some ?_
  | with_reducible refine ew_tup ?_
  | with_reducible refine ew_lst ?_
  | with_reducible refine ew_tupF ?_
  | with_reducible refine ew_dnew ?_
  | with_reducible refine ew_call ?_
  | with_reducible refine ew_callN ?_
  | with_reducible refine ew_make ?_
  | with_reducible refine ew_makeN ?_
  | with_reducible refine ew_meth ?_
  | with_reducible refine ew_methK ?_
  | with_reducible refine ew_tm ?_
  | with_reducible refine ew_bm ?_
  | with_reducible refine ew_bm0 ?_
  | with_reducible refine aw_nil ?_
  | with_reducible refine aw_cons ?_
  | (with_reducible refine ew_varE ?_; refine ⟨_, rfl, ?_⟩)
  | with_reducible refine le_int ?_
  | with_reducible refine lt_int ?_
  | with_reducible refine ge_int ?_
  | with_reducible refine gt_int ?_
  | with_reducible refine eq_int ?_
  | with_reducible refine ne_int ?_
  | with_reducible refine eq_str ?_
  | with_reducible refine ne_str ?_
  | with_reducible refine add_int ?_
  | with_reducible refine sub_int ?_
  | with_reducible refine is_n ?_
  | with_reducible refine isn_n ?_
  | with_reducible refine isi_ii ?_
  | with_reducible refine isi_ib ?_
  | with_reducible refine isi_ss ?_
  | (with_reducible refine ⟨rfl, rfl, ?_⟩)
  | with_reducible refine up_rt ?_
  | with_reducible refine up_nx ?_
  | with_reducible refine tt_ ?_
  | with_reducible refine ff_ ?_
  | with_reducible refine ⟨_, rfl, ?_⟩
  | rw [Bool.not_true]
  | rw [Bool.not_false]
  | (show _ ∧ _; with_reducible refine tt_ ?_)
  | (show _ ∧ _; with_reducible refine ff_ ?_)
  | fail "q1: no step")
local macro_rules | `(tactic| walk_at "q") => `(tactic| repeat walk_at "q1")
local macro_rules | `(tactic| walk_at "le") => `(tactic| repeat (first | with_reducible exact Le.refl | with_reducible refine Le.drop ?_ | with_reducible refine Le.app ?_))
local macro_rules | `(tactic| walk_at "nq") => `(tactic| first | exact TX.n_Question_name (by assumption) | exact TX.n_Question_matter (by assumption) | exact TX.n_Question_answers (by assumption) | exact TX.n_Question_right (by assumption) | exact TX.n_Question_toil (by assumption) | exact TX.n_Question_marks (by assumption) | exact TX.n_Question_kin (by assumption))
local macro_rules | `(tactic| walk_at "fl") => `(tactic| refine ⟨_, _, _, rfl, .inl (by assumption), _, rfl, ?_⟩)
local macro_rules | `(tactic| walk_at "fq") => `(tactic| (walk_at "q"; (with_reducible refine ew_fldE (TX.c_Question (by assumption)) (by walk_at "nq") ?_); walk_at "q"; walk_at "fl"; walk_at "q"))

theorem runs_zipT {K : PySem.W.Frag} {a b : Addr} {xs ys : List V} {n : Nat} (h1 : n ≤ xs.length) (h2 : n ≤ ys.length) (h3 : xs.length ≤ n ∨ ys.length ≤ n) : Runs (RZ.ItzT K a b) n (YPair (fun i v => xs[i]? = some v) (fun i v => ys[i]? = some v)) (fun B M => TupW K B M a xs ∧ TupW K B M b ys) :=
  ⟨fun i B M H hi W s => ⟨xs, ys, xs[i], ys[i], s.1 H W, s.2 H W, List.getElem?_eq_getElem _, List.getElem?_eq_getElem _⟩,
   fun i B M H x H' hi W s ⟨T, u, v, e1, e2, e3, h, h'⟩ => ⟨B, _, e3 ▸ W.new e2, T, u, v, e1, h xs (s.1 H W), h' ys (s.2 H W), rfl, rfl⟩, fun B M H W s => ⟨xs, ys, s.1 H W, s.2 H W, h3⟩⟩
abbrev StrLt (a b : Str) : Prop := a.cps.toList < b.cps.toList
structure PaperOk (zs : List Str) : Prop where
  lo : 1 ≤ zs.length
  hi : zs.length ≤ 40
  nm : ∀ z ∈ zs, nameB z = true
  up : zs.Pairwise StrLt
theorem StrLt.irr (a : Str) : ¬ StrLt a a := List.lt_irrefl _
theorem PaperOk.nd {zs : List Str} (h : zs.Pairwise StrLt) : zs.Nodup := List.Pairwise.imp (fun {a b} h => fun e => by rw [e] at h; exact StrLt.irr _ h) h
theorem inV_str {n : Str} : ∀ {ys : List Str}, n ∈ ys → inV (.str n) (ys.map V.str) = true := by
  intro ys h
  unfold inV
  rw [List.any_map, List.any_eq_true]
  exact ⟨n, h, by simp [eqV]⟩
theorem all_flat (ys : List Str) : (ys.map V.str).all flatV = true := by
  rw [List.all_map, List.all_eq_true]
  exact fun _ _ => rfl
section
variable {P : Program} {w : World} {K : PySem.W.Frag} {mg : Str → Option Value} {base : Heap}
abbrev N_is_paper : List Str := ["thing", "name", "one", "other"]
abbrev ps_is_paper : List Str := ["thing"]
theorem sc_is_paper : FnScope N_is_paper ps_is_paper (defScope s_is_paper) := ⟨rfl, rfl, rfl, by decide +kernel, rfl, by decide +kernel, by decide +kernel⟩
def rd_is_paper (K : PySem.W.Frag) : TS := (tSeq (tIfS (tOr (tNot (tB (tCB (rIsi K) (tCons (tVar 0) (tCons (tC (.ty "tuple")) tNil))))) (tOr (tNot (tTest (tChain rLeU rLeU (tC (.int (1))) (tCB (rLenU K) (tCons (tVar 0) tNil)) (tC (.int (40)))))) (tNot (tB (tCB (rAll K) (tCons (tLc (iAny K (tVar 0)) (gName 1) tYes (tCall (spW (sp_is_name K)) [] E0 (tCons (tVar 1) tNil)) [1]) tNil)))))) (tRet (tC (.bl false))) tNext) (tRet (tCB (rAll K) (tCons (tLc (RZ.iZipA K (tCons (tVar 0) (tCons (tSl (rSlU K) (tVar 0) (tPart (tC (.int (1)))) tNoPart) tNil))) (gTup K 2 (gCons (gName 2) (gCons (gName 3) gNil))) tYes (tOp rLtU (tVar 2) (tVar 3)) [2, 3]) tNil))))
def sp_is_paper (K : PySem.W.Frag) : SpW := fun vs B M Q E => ∃ p zs, vs = [.ref p] ∧ B p = some (.tup (zs.map .str)) ∧ PaperOk zs ∧ Q (.bl true) B M
theorem len_is_paper (K : PySem.W.Frag) : ∀ vs B M Q E, sp_is_paper K vs B M Q E → vs.length = ps_is_paper.length := by
  intro _ _ _ _ _ h
  unfold sp_is_paper at h
  repeat (first | (obtain ⟨rfl, _⟩ := h; rfl) | (obtain ⟨_, h⟩ := h))
theorem pure_is_paper (T : TX K mg) : ∀ vs B M Q E, sp_is_paper K vs B M Q E → SW (rd_is_paper K) (DW.up ⟨fun _ B M => Q .non B M, Q, fun _ _ _ => False, fun _ _ _ => False⟩) (start N_is_paper vs) B M := by
  rintro _ B M Q E ⟨p, zs, rfl, hp, ok, q⟩
  have hl : zs.length ≤ sizeLine := le_line ok.hi
  unfold rd_is_paper
  walk_at "q"
  refine isi_tt (.tup (.inl hp)) ?_
  walk_at "q"
  refine len_t (.per hp) ?_
  walk_at "q"
  rw [List.length_map]
  refine ⟨fun _ => ?_, fun h => absurd h (by rw [decide_eq_true (by have := ok.lo; omega)]; decide)⟩
  walk_at "q"
  refine ⟨fun h => absurd h (by rw [decide_eq_true (by have := ok.hi; omega)]; decide), fun _ => ?_⟩
  walk_at "q"
  refine lc_seq ?_
  walk_at "q"
  refine ⟨p, zs.map V.str, fun _ => .bl true, rfl, .inr (.per hp), by rw [List.length_map]; exact hl, fun D acc i x hx => ?_, fun D => ?_⟩
  · rw [List.getElem?_map, Option.map_eq_some_iff] at hx
    obtain ⟨z, hz, rfl⟩ := hx
    have ht := ok.nm z (List.mem_of_getElem? hz)
    walk_at "q"
    exact cw_of ⟨z, rfl, le_line (nameB_len ht).2, by rw [ht], Le.refl⟩
  · walk_at "q"
    refine all_ (bs := (List.range (zs.map V.str).length).map fun _ => true) (.of (.inr (by rw [List.map_map]; exact List.mem_cons_self ..))) ?_
    rw [show ((List.range (zs.map V.str).length).map fun _ => true).all id = true by simp]
    walk_at "q"
    have hcut : cutV (zs.map V.str) (some 1) none = (zs.map V.str).drop 1 := cutV_from (by decide) (by rw [List.length_map]; have := ok.lo; omega)
    refine ew_lcP (iw_zipA ?_)
    walk_at "q"
    refine sl_t (.per hp) (fun e => ?_) fun p2 => ?_
    · rw [hcut] at e
      have h1 := congrArg List.length e
      rw [List.length_drop, List.length_map] at h1
      have := ok.lo
      omega
    rw [hcut]
    walk_at "q"
    refine ⟨p, p2, _, _, rfl, .inr ⟨.per hp, .of .here, zs.length - 1, _, _, fun _ => true, fun _ => .bl true, runs_zipT (n := zs.length - 1) (xs := zs.map V.str) (ys := (zs.map V.str).drop 1) (by rw [List.length_map]; omega) (by rw [List.length_drop, List.length_map]; omega) (.inr (by rw [List.length_drop, List.length_map]; omega)), by have := hl; omega, fun D acc => ⟨.per hp, .of (.tail .here)⟩, ?_, fun D => ?_⟩⟩
    · rintro D i x acc B' M' hi ⟨Tt, y, z, rfl, hy, hz, rfl, rfl⟩
      rw [List.getElem?_map, Option.map_eq_some_iff] at hy
      obtain ⟨y, hy, rfl⟩ := hy
      rw [List.getElem?_drop, List.getElem?_map, Option.map_eq_some_iff] at hz
      obtain ⟨z, hz, rfl⟩ := hz
      refine gw_tup (.of .here) rfl ?_
      walk_at "q"
      refine ⟨rfl, tw_yes ⟨rfl, nofun, fun _ => ?_⟩⟩
      walk_at "q"
      refine lt_str ⟨?_, Le.drop Le.refl⟩
      obtain ⟨h1, e1⟩ := List.getElem?_eq_some_iff.mp hy
      obtain ⟨h2, e2⟩ := List.getElem?_eq_some_iff.mp hz
      have := List.pairwise_iff_getElem.mp ok.up i (1 + i) h1 h2 (by omega)
      rw [e1, e2] at this
      show V.bl _ = V.bl true
      rw [decide_eq_true this]
    · walk_at "q"
      refine all_ (bs := (List.range (zs.length - 1)).map fun _ => true) (.of (.inr (by rw [List.map_map, List.filter_eq_self.mpr fun _ _ => rfl]; exact List.mem_cons_self ..))) ?_
      rw [show ((List.range (zs.length - 1)).map fun _ => true).all id = true by simp]
      exact .le (Le.drop (Le.drop (Le.drop Le.refl))) q
theorem ok_is_paper (T : TX K mg) : Fnk P w K mg base d_is_paper ps_is_paper 2 (spW (sp_is_paper K)) :=
  fnk_of (N := N_is_paper) (rd_is_paper K) T.d_is_paper sc_is_paper (len_is_paper K) (fun f cdv A outer sh H E hr => (pss_cons (ps_if (PW.pt (pw_or (pt_not (pt_val (pe_callB call_isi (by rfl) T.f_isinstance (by decide +kernel) (pa_cons (pv 0) (pa_cons (pe_bltn (v := .ty "tuple") rfl T.f_tuple boot_tuple rfl) pa_nil))))) (pw_or (pt_not (pt_chain op_leU op_leU pe_int (pe_callB call_lenU (by rfl) T.f_len (by decide +kernel) (pa_cons (pv 0) pa_nil)) (C8.pe_gc rfl T.k_MOST_NAMES))) (pw_or1 (pt_not (pt_val (pe_callB (cr_all rfl) (by rfl) T.f_all (by decide +kernel) (pa_cons (pe_lc (own := [("name", 1)]) rfl sc_is_paper.nd (pi_any (pv 0)) (blkOk_by (own := [("name", 1)]) (N := N_is_paper) (sc := defScope s_is_paper) (by decide +kernel)) (fun _ _ _ _ _ => (pg_name (i := 1) sc_is_paper.nd rfl (Or.inl rfl))) (fun _ _ _ _ _ => pts_nil) (fun _ _ _ _ _ => (pe_fn (ok_is_name T) bp_is_name_1 hr (by decide) rfl T.g_is_name (pa_cons (pv 1) pa_nil)))) pa_nil)))))))) (pss_one (ps_ret pe_bl)) pss_nil) (pss_one (ps_ret (pe_callB (cr_all rfl) (by rfl) T.f_all (by decide +kernel) (pa_cons (pe_lc (own := [("one", 2), ("other", 3)]) rfl sc_is_paper.nd (RZ.pi_zipA rfl T.f_zip (pa_cons (pv 0) (pa_cons (pe_slice sl_U (pv 0) (po_some pe_int) po_none) pa_nil))) (blkOk_by (own := [("one", 2), ("other", 3)]) (N := N_is_paper) (sc := defScope s_is_paper) (by decide +kernel)) (fun _ _ _ _ _ => (pg_tup rfl (pgs_cons (pg_name (i := 2) sc_is_paper.nd rfl (Or.inl rfl)) (pgs_cons (pg_name (i := 3) sc_is_paper.nd rfl (Or.inl rfl)) pgs_nil)))) (fun _ _ _ _ _ => pts_nil) (fun _ _ _ _ _ => (pe_cmpR op_ltU (pv 2) (pv 3) (nomark _)))) pa_nil)))))) (pure_is_paper T)
abbrev N_need_paper : List Str := ["thing"]
abbrev ps_need_paper : List Str := ["thing"]
theorem sc_need_paper : FnScope N_need_paper ps_need_paper (defScope s_need_paper) := ⟨rfl, rfl, rfl, by decide +kernel, rfl, by decide +kernel, by decide +kernel⟩
theorem bp_is_paper_1 {K : PySem.W.Frag} : BindP K d_is_paper ps_is_paper [] := bindP_n rfl rfl fun _ _ _ _ _ _ us hl => match us, hl with | [_], _ => rfl
def rd_need_paper (K : PySem.W.Frag) : TS := (tIfS (tNot (tB (tCall (spW (sp_is_paper K)) [] E0 (tCons (tVar 0) tNil)))) tNever tNext)
def sp_need_paper (K : PySem.W.Frag) : SpW := fun vs B M Q E => ∃ p zs, vs = [.ref p] ∧ B p = some (.tup (zs.map .str)) ∧ PaperOk zs ∧ Q .non B M
theorem len_need_paper (K : PySem.W.Frag) : ∀ vs B M Q E, sp_need_paper K vs B M Q E → vs.length = ps_need_paper.length := by
  intro _ _ _ _ _ h
  unfold sp_need_paper at h
  repeat (first | (obtain ⟨rfl, _⟩ := h; rfl) | (obtain ⟨_, h⟩ := h))
theorem pure_need_paper (T : TX K mg) : ∀ vs B M Q E, sp_need_paper K vs B M Q E → SW (rd_need_paper K) (DW.up ⟨fun _ B M => Q .non B M, Q, fun _ _ _ => False, fun _ _ _ => False⟩) (start N_need_paper vs) B M := by
  rintro _ B M Q E ⟨p, zs, rfl, hp, ok, q⟩
  unfold rd_need_paper
  walk_at "q"
  refine cw_of ⟨p, zs, rfl, hp, ok, ?_⟩
  walk_at "q"
  exact .le Le.refl q
theorem ok_need_paper (T : TX K mg) : Fnk P w K mg base d_need_paper ps_need_paper 3 (spW (sp_need_paper K)) :=
  fnk_of (N := N_need_paper) (rd_need_paper K) T.d_need_paper sc_need_paper (len_need_paper K) (fun f cdv A outer sh H E hr => (pss_one (ps_if (pt_not (pt_val (pe_fn (ok_is_paper T) bp_is_paper_1 hr (by decide) rfl T.g_is_paper (pa_cons (pv 0) pa_nil)))) (pss_one ps_never) pss_nil))) (pure_need_paper T)
abbrev N_need_ready : List Str := ["bank", "paper", "there", "name"]
abbrev ps_need_ready : List Str := ["bank", "paper"]
theorem sc_need_ready : FnScope N_need_ready ps_need_ready (defScope s_need_ready) := ⟨rfl, rfl, rfl, by decide +kernel, rfl, by decide +kernel, by decide +kernel⟩
theorem bp_Bank_names_in_1 {K : PySem.W.Frag} : BindP K d_Bank_names_in ps_Bank_names_in [] := bindP_n rfl rfl fun _ _ _ _ _ _ us hl => match us, hl with | [_], _ => rfl
theorem bp_need_bank_1 {K : PySem.W.Frag} : BindP K d_need_bank ps_need_bank [] := bindP_n rfl rfl fun _ _ _ _ _ _ us hl => match us, hl with | [_], _ => rfl
theorem bp_need_paper_1 {K : PySem.W.Frag} : BindP K d_need_paper ps_need_paper [] := bindP_n rfl rfl fun _ _ _ _ _ _ us hl => match us, hl with | [_], _ => rfl
def rd_need_ready (K : PySem.W.Frag) : TS := (tSeq (tDrop (tCall (spW (sp_need_bank K)) [] E0 (tCons (tVar 0) tNil))) (tSeq (tDrop (tCall (spW (sp_need_paper K)) [] E0 (tCons (tVar 1) tNil))) (tSeq (tAsg (tMeth (He.ga K "Bank") "names_in" (spW (sp_Bank_names_in K)) [] E0 (tVar 0) tNil) (gName 2)) (tFor (iAny K (tVar 1)) (gName 3) (tIfS (tTest (tOp (rNiU K) (tVar 3) (tVar 2))) tNever tNext)))))
def sp_need_ready (K : PySem.W.Frag) : SpW := fun vs B M Q E => ∃ x qs p zs, vs = [.ref x, .ref p] ∧ BankAt K B x qs ∧ qs.length ≤ 60 ∧ B p = some (.tup (zs.map .str)) ∧ PaperOk zs ∧ (∀ z ∈ zs, z ∈ nms qs) ∧ Q .non B M
theorem len_need_ready (K : PySem.W.Frag) : ∀ vs B M Q E, sp_need_ready K vs B M Q E → vs.length = ps_need_ready.length := by
  intro _ _ _ _ _ h
  unfold sp_need_ready at h
  repeat (first | (obtain ⟨rfl, _⟩ := h; rfl) | (obtain ⟨_, h⟩ := h))
theorem pure_need_ready (T : TX K mg) : ∀ vs B M Q E, sp_need_ready K vs B M Q E → SW (rd_need_ready K) (DW.up ⟨fun _ B M => Q .non B M, Q, fun _ _ _ => False, fun _ _ _ => False⟩) (start N_need_ready vs) B M := by
  rintro _ B M Q E ⟨x, qs, p, zs, rfl, hb, hl, hp, ok, hz, q⟩
  obtain ⟨dx, k, o, d, hx, _⟩ := id hb
  unfold rd_need_ready
  walk_at "q"
  refine cw_of ⟨x, qs, rfl, hb, ?_⟩
  walk_at "q"
  refine cw_of ⟨p, zs, rfl, hp, ok, ?_⟩
  walk_at "q"
  refine ⟨x, dx, _, rfl, .inl hx, rfl, ?_⟩
  walk_at "q"
  refine cw_of ⟨x, qs, rfl, hb, hl, fun ys l hy => ?_⟩
  walk_at "q"
  refine sw_for (iw_any ?_)
  walk_at "q"
  refine .inr (.inl ⟨p, zs.map V.str, rfl, .per hp, _, _, _, fun i σ B' M' => (∃ v, σ = [some (.ref x), some (.ref p), some (.ref l), v]) ∧ B' = B ∧ M' = (l, .lst (ys.map .str)) :: M, runs_tup (xs := zs.map V.str), ⟨⟨_, rfl⟩, rfl, rfl⟩, ?_, ?_, ?_⟩)
  · rintro i σ _ _ ⟨_, rfl, rfl⟩
    exact .per hp
  · rintro i v _ _ _ B2 M2 hi ⟨⟨v0, rfl⟩, rfl, rfl⟩ ⟨hv, rfl, rfl⟩
    rw [List.getElem?_map, Option.map_eq_some_iff] at hv
    obtain ⟨z, hz', rfl⟩ := hv
    walk_at "q"
    refine ni_sq (.inl (.of .here)) rfl (all_flat ys) ?_
    rw [inV_str (hy.mem_iff.mpr (hz z (List.mem_of_getElem? hz')))]
    walk_at "q"
    exact .here ⟨⟨_, rfl⟩, rfl, rfl⟩
  · rintro σ _ _ ⟨_, rfl, rfl⟩
    exact .le (Le.drop Le.refl) q
theorem ok_need_ready (T : TX K mg) : Fnk P w K mg base d_need_ready ps_need_ready 4 (spW (sp_need_ready K)) :=
  fnk_of (N := N_need_ready) (rd_need_ready K) T.d_need_ready sc_need_ready (len_need_ready K) (fun f cdv A outer sh H E hr => (pss_cons (ps_expr (pe_fn (ok_need_bank T) bp_need_bank_1 hr (by decide) rfl T.g_need_bank (pa_cons (pv 0) pa_nil))) (pss_cons (ps_expr (pe_fn (ok_need_paper T) bp_need_paper_1 hr (by decide) rfl T.g_need_paper (pa_cons (pv 1) pa_nil))) (pss_cons (ps_set (i := 2) sc_need_ready.nd rfl (Or.inl rfl) (pe_me0 (ok_Bank_names_in T) bp_Bank_names_in_1 hr (by decide) T.c_Bank T.m_Bank_names_in (pv 0))) (pss_one (ps_for PassesOwn.never rfl (pi_any (pv 1)) (pg_name (i := 3) sc_need_ready.nd rfl (Or.inl rfl)) (pss_one (ps_if (pt_cmpR op_niU (pv 3) (pv 2) (by rfl)) (pss_one ps_never) pss_nil)))))))) (pure_need_ready T)
abbrev N_questions_of : List Str := ["bank", "paper", "name"]
abbrev ps_questions_of : List Str := ["bank", "paper"]
theorem sc_questions_of : FnScope N_questions_of ps_questions_of (defScope s_questions_of) := ⟨rfl, rfl, rfl, by decide +kernel, rfl, by decide +kernel, by decide +kernel⟩
theorem bp_Bank_question_2 {K : PySem.W.Frag} : BindP K d_Bank_question ps_Bank_question [] := bindP_n rfl rfl fun _ _ _ _ _ _ us hl => match us, hl with | [_, _], _ => rfl
theorem bp_need_ready_2 {K : PySem.W.Frag} : BindP K d_need_ready ps_need_ready [] := bindP_n rfl rfl fun _ _ _ _ _ _ us hl => match us, hl with | [_, _], _ => rfl
def rd_questions_of (K : PySem.W.Frag) : TS := (tSeq (tDrop (tCall (spW (sp_need_ready K)) [] E0 (tCons (tVar 0) (tCons (tVar 1) tNil)))) (tRet (tLc (iAny K (tVar 1)) (gName 2) tYes (tMeth (He.ga K "Bank") "question" (spW (sp_Bank_question K)) [] E0 (tVar 0) (tCons (tVar 2) tNil)) [2])))
def sp_questions_of (K : PySem.W.Frag) : SpW := fun vs B M Q E => ∃ x qs p zs, vs = [.ref x, .ref p] ∧ BankAt K B x qs ∧ qs.length ≤ 60 ∧ B p = some (.tup (zs.map .str)) ∧ PaperOk zs ∧ (∀ z ∈ zs, z ∈ nms qs) ∧ ∀ l B', Ex B B' → QsAt K B' l (zs.map (pick qs)) → Q (.ref l) B' M
theorem len_questions_of (K : PySem.W.Frag) : ∀ vs B M Q E, sp_questions_of K vs B M Q E → vs.length = ps_questions_of.length := by
  intro _ _ _ _ _ h
  unfold sp_questions_of at h
  repeat (first | (obtain ⟨rfl, _⟩ := h; rfl) | (obtain ⟨_, h⟩ := h))
theorem pure_questions_of (T : TX K mg) : ∀ vs B M Q E, sp_questions_of K vs B M Q E → SW (rd_questions_of K) (DW.up ⟨fun _ B M => Q .non B M, Q, fun _ _ _ => False, fun _ _ _ => False⟩) (start N_questions_of vs) B M := by
  rintro _ B M Q E ⟨x, qs, p, zs, rfl, hb, hl, hp, ok, hz, q⟩
  obtain ⟨dx, k, o, d, hx, hk, ho, hq⟩ := id hb
  unfold rd_questions_of
  walk_at "q"
  refine cw_of ⟨x, qs, p, zs, rfl, hb, hl, hp, ok, hz, ?_⟩
  walk_at "q"
  refine lc_seq ?_
  walk_at "q"
  refine ⟨p, zs.map V.str, fun i => .ref (pick qs (zs.getD i "")).1, rfl, .inr (.per hp), by rw [List.length_map]; exact le_line ok.hi, fun D acc i v hv => ?_, fun D => ?_⟩
  · rw [List.getElem?_map, Option.map_eq_some_iff] at hv
    obtain ⟨z, hz', rfl⟩ := hv
    walk_at "q"
    refine ⟨x, dx, _, rfl, .inl hx, rfl, ?_⟩
    walk_at "q"
    refine cw_of ⟨x, z, qs, rfl, hb, hz z (List.mem_of_getElem? hz'), ⟨?_, Le.refl⟩⟩
    show V.ref _ = V.ref _
    rw [List.getD_eq_getElem?_getD, hz'] <;> rfl
  · have e : ((List.range (zs.map V.str).length).map fun i => V.ref (pick qs (zs.getD i "")).1) = (zs.map (pick qs)).map fun r => .ref r.1 := by
      rw [List.length_map, List.map_map]
      exact map_range_get _ _ zs fun i z hz => by rw [List.getD_eq_getElem?_getD, hz] <;> rfl
    rw [e]
    exact .keep fun ex at_ => .here (q D _ ex ⟨at_, fun r hr => by
      obtain ⟨z, h1, rfl⟩ := List.mem_map.mp hr
      exact (hq _ (pick_mem (hz z h1)).1).ex ex⟩)
theorem ok_questions_of (T : TX K mg) : Fnk P w K mg base d_questions_of ps_questions_of 5 (spW (sp_questions_of K)) :=
  fnk_of (N := N_questions_of) (rd_questions_of K) T.d_questions_of sc_questions_of (len_questions_of K) (fun f cdv A outer sh H E hr => (pss_cons (ps_expr (pe_fn (ok_need_ready T) bp_need_ready_2 hr (by decide) rfl T.g_need_ready (pa_cons (pv 0) (pa_cons (pv 1) pa_nil)))) (pss_one (ps_ret (pe_lc (own := [("name", 2)]) rfl sc_questions_of.nd (pi_any (pv 1)) (blkOk_by (own := [("name", 2)]) (N := N_questions_of) (sc := defScope s_questions_of) (by decide +kernel)) (fun _ _ _ _ _ => (pg_name (i := 2) sc_questions_of.nd rfl (Or.inl rfl))) (fun _ _ _ _ _ => pts_nil) (fun _ _ _ _ _ => (pe_me (ok_Bank_question T) bp_Bank_question_2 hr (by decide) T.c_Bank T.m_Bank_question (pv 0) (pa_cons (pv 2) pa_nil)))))))) (pure_questions_of T)
end
end Pap

set_option maxHeartbeats 4000000
/-! S9: copies. -/
namespace Pap
open PySem PySem.Spec PyProof.Rows L2 PT
local macro_rules | `(tactic| walk_at "q1") => `(tactic| first
  | with_reducible refine sw_seq ?_
  | with_reducible refine sw_ret ?_
  | with_reducible refine sw_if ?_
  | with_reducible refine sw_next ?_
  | with_reducible refine sw_drop ?_
  | with_reducible refine sw_retN ?_
  | with_reducible refine sw_set ?_
  | with_reducible refine sw_par ?_
  | with_reducible refine sw_par3 ?_
  | with_reducible refine sw_asg ?_
  | with_reducible refine gw_name ?_
  | with_reducible refine gsw_cons ?_
  | with_reducible refine gsw_nil ?_
  | with_reducible refine tw_or ?_
  | with_reducible refine tw_and ?_
  | with_reducible refine tw_not ?_
  | with_reducible refine tw_B ?_
  | with_reducible refine tw_test ?_
  | with_reducible refine tw_yes ?_
  | with_reducible refine ew_cb ?_
  | with_reducible refine ew_c ?_
  | with_reducible refine ew_op ?_
  | with_reducible refine ew_chain ?_
  | with_reducible refine ew_notV ?_
  | with_reducible refine ew_andV ?_
  | with_reducible refine ew_orV ?_
  | with_reducible refine ew_un ?_
  | with_reducible refine ew_then ?_
  | with_reducible refine ew_sl ?_
  | with_reducible refine ow_no ?_
  | with_reducible refine ow_some ?_
  | with_reducible refine ew_tup ?_
  | with_reducible refine ew_lst ?_
  | with_reducible refine ew_tupF ?_
  | with_reducible refine ew_dnew ?_
  | with_reducible refine ew_call ?_
  | with_reducible refine ew_callN ?_
  | with_reducible refine ew_make ?_
  | with_reducible refine ew_makeN ?_
  | with_reducible refine ew_meth ?_
  | with_reducible refine ew_methK ?_
  | with_reducible refine ew_tm ?_
  | with_reducible refine ew_bm ?_
  | with_reducible refine ew_bm0 ?_
  | with_reducible refine aw_nil ?_
  | with_reducible refine aw_cons ?_
  | (with_reducible refine ew_varE ?_; refine ⟨_, rfl, ?_⟩)
  | with_reducible refine le_int ?_
  | with_reducible refine lt_int ?_
  | with_reducible refine ge_int ?_
  | with_reducible refine gt_int ?_
  | with_reducible refine eq_int ?_
  | with_reducible refine ne_int ?_
  | with_reducible refine eq_str ?_
  | with_reducible refine ne_str ?_
  | with_reducible refine add_int ?_
  | with_reducible refine sub_int ?_
  | with_reducible refine is_n ?_
  | with_reducible refine isn_n ?_
  | with_reducible refine isi_ii ?_
  | with_reducible refine isi_ib ?_
  | with_reducible refine isi_ss ?_
  | (with_reducible refine ⟨rfl, rfl, ?_⟩)
  | with_reducible refine up_rt ?_
  | with_reducible refine up_nx ?_
  | with_reducible refine tt_ ?_
  | with_reducible refine ff_ ?_
  | with_reducible refine ⟨_, rfl, ?_⟩
  | rw [Bool.not_true]
  | rw [Bool.not_false]
  | (show _ ∧ _; with_reducible refine tt_ ?_)
  | (show _ ∧ _; with_reducible refine ff_ ?_)
  | fail "q1: no step")
local macro_rules | `(tactic| walk_at "q") => `(tactic| repeat walk_at "q1")
local macro_rules | `(tactic| walk_at "le") => `(tactic| repeat (first | with_reducible exact Le.refl | with_reducible refine Le.drop ?_ | with_reducible refine Le.app ?_))
local macro_rules | `(tactic| walk_at "nq") => `(tactic| first | exact TX.n_Question_name (by assumption) | exact TX.n_Question_matter (by assumption) | exact TX.n_Question_answers (by assumption) | exact TX.n_Question_right (by assumption) | exact TX.n_Question_toil (by assumption) | exact TX.n_Question_marks (by assumption) | exact TX.n_Question_kin (by assumption))
local macro_rules | `(tactic| walk_at "fl") => `(tactic| refine ⟨_, _, _, rfl, .inl (by assumption), _, rfl, ?_⟩)
local macro_rules | `(tactic| walk_at "fq") => `(tactic| (walk_at "q"; (with_reducible refine ew_fldE (TX.c_Question (by assumption)) (by walk_at "nq") ?_); walk_at "q"; walk_at "fl"; walk_at "q"))

abbrev CC (K : PySem.W.Frag) : Addr := He.ga K "Copy"
def cpF (n : Int) (l : Addr) : List (Str × V) := [("number", .int n), ("laid_out", .ref l)]
def CopyAt (K : PySem.W.Frag) (B : Hp) (y : Addr) (rs : QL) (n : Int) : Prop := ∃ dx l, B y = some (.ins (CC K) dx (cpF n l)) ∧ QsAt K B l rs
theorem CopyAt.ex {K : PySem.W.Frag} {B B' : Hp} {y : Addr} {rs : QL} {n : Int} (h : CopyAt K B y rs n) (e : Ex B B') : CopyAt K B' y rs n := let ⟨dx, l, h1, h2⟩ := h; ⟨dx, l, e _ _ h1, h2.ex e⟩
structure RsOk (rs : QL) : Prop where
  pa : PaperOk (nms rs)
  qs : ∀ r ∈ rs, QOk r.2
theorem RsOk.lo {rs : QL} (h : RsOk rs) : 1 ≤ rs.length := by have := h.pa.lo; unfold nms at this; rwa [List.length_map] at this
theorem RsOk.hi {rs : QL} (h : RsOk rs) : rs.length ≤ 40 := by have := h.pa.hi; unfold nms at this; rwa [List.length_map] at this
section
variable {P : Program} {w : World} {K : PySem.W.Frag} {mg : Str → Option Value} {base : Heap}
abbrev N_CopyX_initX : List Str := ["self", "bank", "paper", "number"]
abbrev ps_CopyX_initX : List Str := ["self", "bank", "paper", "number"]
theorem sc_CopyX_initX : FnScope N_CopyX_initX ps_CopyX_initX (defScope s_CopyX_initX) := ⟨rfl, rfl, rfl, by decide +kernel, rfl, by decide +kernel, by decide +kernel⟩
theorem bp_questions_of_2 {K : PySem.W.Frag} : BindP K d_questions_of ps_questions_of [] := bindP_n rfl rfl fun _ _ _ _ _ _ us hl => match us, hl with | [_, _], _ => rfl
def rd_CopyX_initX (K : PySem.W.Frag) : TS := (tSeq (tDrop (tCall (spW (sp_need_ready K)) [] E0 (tCons (tVar 1) (tCons (tVar 2) tNil)))) (tSeq (tIfS (tNot (tB (tCallN 1 1 (spW (sp_is_whole K)) (fun vs zs => vs ++ (((([.int (0), .int (9999)] : List V))).drop 0).take 1 ++ zs) E0 (tCons (tVar 3) tNil) (tCons (tC (.int (999))) tNil)))) tNever tNext) (tSeq (sFld K (tVar 0) (tVar 3) "number") (sFld K (tVar 0) (tCall (spW (sp_questions_of K)) [] E0 (tCons (tVar 1) (tCons (tVar 2) tNil))) "laid_out"))))
def sp_CopyX_initX (K : PySem.W.Frag) : SpW := fun vs B M Q E => ∃ y dx R x qs p zs n, vs = [.ref y, .ref x, .ref p, .int n] ∧ M = (y, .ins (CC K) dx []) :: R ∧ BankAt K B x qs ∧ qs.length ≤ 60 ∧ B p = some (.tup (zs.map .str)) ∧ PaperOk zs ∧ (∀ z ∈ zs, z ∈ nms qs) ∧ 0 ≤ n ∧ n ≤ 999 ∧ ∀ l B', Ex B B' → QsAt K B' l (zs.map (pick qs)) → Q .non B' ((y, .ins (CC K) dx (cpF n l)) :: R)
theorem len_CopyX_initX (K : PySem.W.Frag) : ∀ vs B M Q E, sp_CopyX_initX K vs B M Q E → vs.length = ps_CopyX_initX.length := by
  intro _ _ _ _ _ h
  unfold sp_CopyX_initX at h
  repeat (first | (obtain ⟨rfl, _⟩ := h; rfl) | (obtain ⟨_, h⟩ := h))
theorem pure_CopyX_initX (T : TX K mg) : ∀ vs B M Q E, sp_CopyX_initX K vs B M Q E → SW (rd_CopyX_initX K) (DW.up ⟨fun _ B M => Q .non B M, Q, fun _ _ _ => False, fun _ _ _ => False⟩) (start N_CopyX_initX vs) B M := by
  rintro _ B _ Q E ⟨y, dx, R, x, qs, p, zs, n, rfl, rfl, hb, hl, hp, ok, hz, n0, n1, q⟩
  unfold rd_CopyX_initX
  walk_at "q"
  refine cw_of ⟨x, qs, p, zs, rfl, hb, hl, hp, ok, hz, ?_⟩
  walk_at "q"
  refine cw_of ⟨_, _, _, rfl, ?_⟩
  rw [decide_eq_true n0, decide_eq_true n1, Bool.true_and]
  walk_at "q"
  refine sw_fldN T.c_Copy T.n_Copy_number ?_
  walk_at "q"
  refine ⟨y, dx, _, _, rfl, rfl, rfl, by decide, ?_⟩
  simp only [List.cons_append, List.nil_append]
  walk_at "q"
  refine sw_fldN T.c_Copy T.n_Copy_laid_out ?_
  walk_at "q"
  refine cw_of ⟨x, qs, p, zs, rfl, hb, hl, hp, ok, hz, fun l B' e hl' => ?_⟩
  walk_at "q"
  refine ⟨y, dx, _, _, rfl, rfl, rfl, by simp, ?_⟩
  simp only [List.cons_append, List.nil_append]
  exact .le Le.refl (q l B' e hl')
theorem ok_CopyX_initX (T : TX K mg) : Fnk P w K mg base d_CopyX_initX ps_CopyX_initX 6 (spW (sp_CopyX_initX K)) :=
  fnk_of (N := N_CopyX_initX) (rd_CopyX_initX K) T.d_CopyX_initX sc_CopyX_initX (len_CopyX_initX K) (fun f cdv A outer sh H E hr => (pss_cons (ps_expr (pe_fn (ok_need_ready T) bp_need_ready_2 hr (by decide) rfl T.g_need_ready (pa_cons (pv 1) (pa_cons (pv 2) pa_nil)))) (pss_cons (ps_if (pt_not (pt_val (pe_fnk (ok_is_whole T) bk_is_whole_1_most hr (by decide) rfl T.g_is_whole (pa_cons (pv 3) pa_nil) (pk_cons (C8.pe_gc rfl T.k_LAST_NUMBER) pk_nil)))) (pss_one ps_never) pss_nil) (pss_cons (ps_fld (pv 0) (pv 3) rfl) (pss_one (ps_fld (pv 0) (pe_fn (ok_questions_of T) bp_questions_of_2 hr (by decide) rfl T.g_questions_of (pa_cons (pv 1) (pa_cons (pv 2) pa_nil))) rfl)))))) (pure_CopyX_initX T)
abbrev N_Copy_copy_by : List Str := ["self", "number", "names", "question"]
abbrev ps_Copy_copy_by : List Str := ["self", "number"]
theorem sc_Copy_copy_by : FnScope N_Copy_copy_by ps_Copy_copy_by (defScope s_Copy_copy_by) := ⟨rfl, rfl, rfl, by decide +kernel, rfl, by decide +kernel, by decide +kernel⟩
theorem bk_CopyX_initX_3_number {K : PySem.W.Frag} : BindK K d_CopyX_initX ps_CopyX_initX 3 ["number"] (fun vs zs => vs ++ zs) := bindK_d 3 ["number"] (fun us its ws => us ++ ws) (by intro h; cases h) (fun r1 r2 r3 => (Vals.append r1 r3)) fun _ _ _ _ _ _ _ us its ws h1 h2 h3 => match us, its, ws, h1, h2, h3 with | [_, _, _], [_], [_], _, _, _ => ⟨_, rfl, rfl⟩
theorem bp_BankX_initX_2 {K : PySem.W.Frag} : BindP K d_BankX_initX ps_BankX_initX [] := bindP_d 2 1 (by intro h; cases h) rfl fun _ _ _ _ _ _ _ us its h1 h2 => match us, its, h1, h2 with | [_, _], [_], _, _ => ⟨_, rfl, rfl⟩
def rd_Copy_copy_by (K : PySem.W.Frag) : TS := (tSeq (tAsg (tLc (iAny K (tFld K (tVar 0) "laid_out")) (gName 3) tYes (tFld K (tVar 3) "name") [3]) (gName 2)) (tRet (tMakeN (He.ga K "Copy") 2 1 (spW (sp_CopyX_initX K)) (fun vs zs => vs ++ zs) E0 (tCons (tMake (He.ga K "Bank") (spW (sp_BankX_initX K)) [] E0 (tCons (tFld K (tVar 0) "laid_out") tNil)) (tCons (tThen (tVar 2) (kTup K)) tNil)) (tCons (tVar 1) tNil))))
def sp_Copy_copy_by (K : PySem.W.Frag) : SpW := fun vs B M Q E => ∃ y rs n m, vs = [.ref y, .int m] ∧ CopyAt K B y rs n ∧ RsOk rs ∧ 0 ≤ m ∧ m ≤ 999 ∧ ∀ y' B', Ex B B' → CopyAt K B' y' rs m → Q (.ref y') B' M
theorem len_Copy_copy_by (K : PySem.W.Frag) : ∀ vs B M Q E, sp_Copy_copy_by K vs B M Q E → vs.length = ps_Copy_copy_by.length := by
  intro _ _ _ _ _ h
  unfold sp_Copy_copy_by at h
  repeat (first | (obtain ⟨rfl, _⟩ := h; rfl) | (obtain ⟨_, h⟩ := h))
theorem pure_Copy_copy_by (T : TX K mg) : ∀ vs B M Q E, sp_Copy_copy_by K vs B M Q E → SW (rd_Copy_copy_by K) (DW.up ⟨fun _ B M => Q .non B M, Q, fun _ _ _ => False, fun _ _ _ => False⟩) (start N_Copy_copy_by vs) B M := by
  rintro _ B M Q E ⟨y, rs, n, m, rfl, ⟨dx, l, hy, hrs⟩, ok, m0, m1, q⟩
  have nd := PaperOk.nd ok.pa.up
  unfold rd_Copy_copy_by
  walk_at "q"
  refine lc_seq ?_
  refine ew_fldE T.c_Copy T.n_Copy_laid_out ?_
  walk_at "q"
  refine ⟨_, _, _, rfl, .inl hy, _, rfl, ?_⟩
  refine ⟨l, rs.map fun r => .ref r.1, fun i => .str (rs.getD i q0).2.name, rfl, .inl (.per hrs.1), by rw [List.length_map]; exact le_line ok.hi, fun D acc i v hv => ?_, fun D => ?_⟩
  · rw [List.getElem?_map, Option.map_eq_some_iff] at hv
    obtain ⟨r, hr, rfl⟩ := hv
    obtain ⟨dq, bq, ha, hb⟩ := hrs.2 r (List.mem_of_getElem? hr)
    walk_at "fq"
    refine ⟨?_, Le.refl⟩
    show V.str _ = V.str _
    rw [List.getD_eq_getElem?_getD, hr] <;> rfl
  · have e : ((List.range (rs.map fun r => V.ref r.1).length).map fun i => V.str (rs.getD i q0).2.name) = (nms rs).map .str := by
      unfold nms
      rw [List.length_map, List.map_map]
      exact map_range_get _ _ rs fun i z hz => by rw [List.getD_eq_getElem?_getD, hz] <;> rfl
    rw [e]
    walk_at "q"
    refine ew_fldE T.c_Copy T.n_Copy_laid_out ?_
    walk_at "q"
    refine ⟨_, _, _, rfl, .inl hy, _, rfl, ?_⟩
    walk_at "q"
    intro x dx'
    refine cw_of ⟨x, l, dx', rs, _, rfl, rfl, hrs, nd, by have := ok.hi; omega, fun c' B1 e1 hc => ⟨rfl, ?_⟩⟩
    obtain ⟨dx2, k, o, d, dvs, hd, rfl⟩ := hc
    refine aw_keep fun e2 _ => aw_keep fun e3 a3 => aw_keep fun e4 a4 => aw_keep fun e5 a5 => ?_
    have hb : BankAt K _ x rs := ⟨dx2, k, o, d, a5, e5 _ _ a4, e5 _ _ (e4 _ _ a3), fun r hr => (hrs.2 r hr).ex ((((e1.trans e2).trans e3).trans e4).trans e5)⟩
    have ee := (((e1.trans e2).trans e3).trans e4).trans e5
    walk_at "q"
    refine tup_l (.of .here) fun p => ?_
    refine aw_keep fun e6 a6 => ?_
    walk_at "q"
    intro y' dy'
    refine cw_of ⟨y', dy', _, x, rs, p, nms rs, m, rfl, rfl, hb.ex e6, by have := ok.hi; omega, a6, ok.pa, fun z hz => hz, m0, m1, fun l' B2 e7 hl => ⟨rfl, ?_⟩⟩
    rw [pick_self nd] at hl
    exact .keep fun e8 a8 => .le (Le.drop Le.refl) (q y' _ (((ee.trans e6).trans e7).trans e8) ⟨dy', l', a8, hl.ex e8⟩)
theorem ok_Copy_copy_by (T : TX K mg) : Fnk P w K mg base d_Copy_copy_by ps_Copy_copy_by 8 (spW (sp_Copy_copy_by K)) :=
  fnk_of (N := N_Copy_copy_by) (rd_Copy_copy_by K) T.d_Copy_copy_by sc_Copy_copy_by (len_Copy_copy_by K) (fun f cdv A outer sh H E hr => (pss_cons (ps_setLc (i := 2) (own := [("question", 3)]) rfl sc_Copy_copy_by.nd rfl rfl (sw_true rfl rfl rfl (by decide +kernel)) (pi_any (pe_fld (pv 0) rfl)) (blkOk_by (own := [("question", 3)]) (N := N_Copy_copy_by) (sc := defScope s_Copy_copy_by) (by decide +kernel)) (fun _ _ _ _ _ => (pg_name (i := 3) sc_Copy_copy_by.nd rfl (Or.inl rfl))) (fun _ _ _ _ _ => pts_nil) (fun _ _ _ _ _ => (pe_fld (pv 3) rfl))) (pss_one (ps_ret (pe_mkk (ok_CopyX_initX T) bk_CopyX_initX_3_number hr (by decide) T.mk_Copy rfl T.g_Copy (pa_cons (pe_mkc (ok_BankX_initX T) bp_BankX_initX_2 hr (by decide) T.mk_Bank rfl T.g_Bank (pa_cons (pe_fld (pv 0) rfl) pa_nil)) (pa_cons (pe_tupleOf rfl T.f_tuple (pv 2)) pa_nil)) (pk_cons (pv 1) pk_nil)))))) (pure_Copy_copy_by T)
abbrev N_Copy_need_place : List Str := ["self", "place"]
abbrev ps_Copy_need_place : List Str := ["self", "place"]
theorem sc_Copy_need_place : FnScope N_Copy_need_place ps_Copy_need_place (defScope s_Copy_need_place) := ⟨rfl, rfl, rfl, by decide +kernel, rfl, by decide +kernel, by decide +kernel⟩
def rd_Copy_need_place (K : PySem.W.Frag) : TS := (tIfS (tNot (tB (tCallN 1 1 (spW (sp_is_whole K)) (fun vs zs => vs ++ (((([.int (0), .int (9999)] : List V))).drop 0).take 1 ++ zs) E0 (tCons (tVar 1) tNil) (tCons (tOp (rSubI) (tCB (rLenU K) (tCons (tFld K (tVar 0) "laid_out") tNil)) (tC (.int (1)))) tNil)))) tNever tNext)
def sp_Copy_need_place (K : PySem.W.Frag) : SpW := fun vs B M Q E => ∃ y rs n p, vs = [.ref y, .int p] ∧ CopyAt K B y rs n ∧ RsOk rs ∧ 0 ≤ p ∧ p < rs.length ∧ Q .non B M
theorem len_Copy_need_place (K : PySem.W.Frag) : ∀ vs B M Q E, sp_Copy_need_place K vs B M Q E → vs.length = ps_Copy_need_place.length := by
  intro _ _ _ _ _ h
  unfold sp_Copy_need_place at h
  repeat (first | (obtain ⟨rfl, _⟩ := h; rfl) | (obtain ⟨_, h⟩ := h))
theorem pure_Copy_need_place (T : TX K mg) : ∀ vs B M Q E, sp_Copy_need_place K vs B M Q E → SW (rd_Copy_need_place K) (DW.up ⟨fun _ B M => Q .non B M, Q, fun _ _ _ => False, fun _ _ _ => False⟩) (start N_Copy_need_place vs) B M := by
  rintro _ B M Q E ⟨y, rs, n, p, rfl, ⟨dx, l, hy, hrs⟩, ok, p0, p1, q⟩
  unfold rd_Copy_need_place
  walk_at "q"
  refine ew_fldE T.c_Copy T.n_Copy_laid_out ?_
  walk_at "q"
  refine ⟨_, _, _, rfl, .inl hy, _, rfl, ?_⟩
  walk_at "q"
  refine len_l (.per hrs.1) ?_
  walk_at "q"
  rw [List.length_map]
  refine cw_of ⟨_, _, _, rfl, ?_⟩
  rw [decide_eq_true p0, decide_eq_true (by omega), Bool.true_and]
  walk_at "q"
  exact .le Le.refl q
theorem ok_Copy_need_place (T : TX K mg) : Fnk P w K mg base d_Copy_need_place ps_Copy_need_place 3 (spW (sp_Copy_need_place K)) :=
  fnk_of (N := N_Copy_need_place) (rd_Copy_need_place K) T.d_Copy_need_place sc_Copy_need_place (len_Copy_need_place K) (fun f cdv A outer sh H E hr => (pss_one (ps_if (pt_not (pt_val (pe_fnk (ok_is_whole T) bk_is_whole_1_most hr (by decide) rfl T.g_is_whole (pa_cons (pv 1) pa_nil) (pk_cons (pe_op op_subU (pe_callB call_lenU (by rfl) T.f_len (by decide +kernel) (pa_cons (pe_fld (pv 0) rfl) pa_nil)) pe_int) pk_nil)))) (pss_one ps_never) pss_nil))) (pure_Copy_need_place T)
end
end Pap

set_option maxHeartbeats 4000000
/-! S10: copies, more. -/
namespace Pap
open PySem PySem.Spec PyProof.Rows L2 PT
local macro_rules | `(tactic| walk_at "q1") => `(tactic| first
  | with_reducible refine sw_seq ?_
  | with_reducible refine sw_ret ?_
  | with_reducible refine sw_if ?_
  | with_reducible refine sw_next ?_
  | with_reducible refine sw_drop ?_
  | with_reducible refine sw_retN ?_
  | with_reducible refine sw_set ?_
  | with_reducible refine sw_par ?_
  | with_reducible refine sw_par3 ?_
  | with_reducible refine sw_asg ?_
  | with_reducible refine gw_name ?_
  | with_reducible refine gsw_cons ?_
  | with_reducible refine gsw_nil ?_
  | with_reducible refine tw_or ?_
  | with_reducible refine tw_and ?_
  | with_reducible refine tw_not ?_
  | with_reducible refine tw_B ?_
  | with_reducible refine tw_test ?_
  | with_reducible refine tw_yes ?_
  | with_reducible refine ew_cb ?_
  | with_reducible refine ew_c ?_
  | with_reducible refine ew_op ?_
  | with_reducible refine ew_chain ?_
  | with_reducible refine ew_notV ?_
  | with_reducible refine ew_andV ?_
  | with_reducible refine ew_orV ?_
  | with_reducible refine ew_un ?_
  | with_reducible refine ew_then ?_
  | with_reducible refine ew_sl ?_
  | with_reducible refine ow_no ?_
  | with_reducible refine ow_some ?_
  | with_reducible refine ew_tup ?_
  | with_reducible refine ew_lst ?_
  | with_reducible refine ew_tupF ?_
  | with_reducible refine ew_dnew ?_
  | with_reducible refine ew_call ?_
  | with_reducible refine ew_callN ?_
  | with_reducible refine ew_make ?_
  | with_reducible refine ew_makeN ?_
  | with_reducible refine ew_meth ?_
  | with_reducible refine ew_methK ?_
  | with_reducible refine ew_tm ?_
  | with_reducible refine ew_bm ?_
  | with_reducible refine ew_bm0 ?_
  | with_reducible refine aw_nil ?_
  | with_reducible refine aw_cons ?_
  | (with_reducible refine ew_varE ?_; refine ⟨_, rfl, ?_⟩)
  | with_reducible refine le_int ?_
  | with_reducible refine lt_int ?_
  | with_reducible refine ge_int ?_
  | with_reducible refine gt_int ?_
  | with_reducible refine eq_int ?_
  | with_reducible refine ne_int ?_
  | with_reducible refine eq_str ?_
  | with_reducible refine ne_str ?_
  | with_reducible refine add_int ?_
  | with_reducible refine sub_int ?_
  | with_reducible refine is_n ?_
  | with_reducible refine isn_n ?_
  | with_reducible refine isi_ii ?_
  | with_reducible refine isi_ib ?_
  | with_reducible refine isi_ss ?_
  | (with_reducible refine ⟨rfl, rfl, ?_⟩)
  | with_reducible refine up_rt ?_
  | with_reducible refine up_nx ?_
  | with_reducible refine tt_ ?_
  | with_reducible refine ff_ ?_
  | with_reducible refine ⟨_, rfl, ?_⟩
  | rw [Bool.not_true]
  | rw [Bool.not_false]
  | (show _ ∧ _; with_reducible refine tt_ ?_)
  | (show _ ∧ _; with_reducible refine ff_ ?_)
  | fail "q1: no step")
local macro_rules | `(tactic| walk_at "q") => `(tactic| repeat walk_at "q1")
local macro_rules | `(tactic| walk_at "le") => `(tactic| repeat (first | with_reducible exact Le.refl | with_reducible refine Le.drop ?_ | with_reducible refine Le.app ?_))
local macro_rules | `(tactic| walk_at "nq") => `(tactic| first | exact TX.n_Question_name (by assumption) | exact TX.n_Question_matter (by assumption) | exact TX.n_Question_answers (by assumption) | exact TX.n_Question_right (by assumption) | exact TX.n_Question_toil (by assumption) | exact TX.n_Question_marks (by assumption) | exact TX.n_Question_kin (by assumption))
local macro_rules | `(tactic| walk_at "fl") => `(tactic| refine ⟨_, _, _, rfl, .inl (by assumption), _, rfl, ?_⟩)
local macro_rules | `(tactic| walk_at "fq") => `(tactic| (walk_at "q"; (with_reducible refine ew_fldE (TX.c_Question (by assumption)) (by walk_at "nq") ?_); walk_at "q"; walk_at "fl"; walk_at "q"))

theorem atI_in {xs : List V} {i : Int} (h0 : 0 ≤ i) (h1 : i < xs.length) : atI xs i = xs[i.toNat]? := by
  unfold atI ixN
  rw [if_pos h0, if_pos h1] <;> rfl
def qsL (rs : QL) : List Qn := rs.map (·.2)
def atL (qs : List Qn) (i : Int) : Qn := qs.getD i.toNat q0.2
def oAt (qs : List Qn) (n p : Int) : Int := (p + n) % qs.length
def oBy (qs : List Qn) (n p : Int) : Int := n * (p + 1) % (atL qs (oAt qs n p)).ans.length
def qAt (qs : List Qn) (n p : Int) : Qn := turn (atL qs (oAt qs n p)) (oBy qs n p)
theorem qsL_len (rs : QL) : (qsL rs).length = rs.length := List.length_map _
theorem oAt_0 {qs : List Qn} {n p : Int} (h : 1 ≤ qs.length) : 0 ≤ oAt qs n p := Int.emod_nonneg _ (by omega)
theorem oAt_1 {qs : List Qn} {n p : Int} (h : 1 ≤ qs.length) : oAt qs n p < qs.length := Int.emod_lt_of_pos _ (by omega)
theorem atL_get {rs : QL} {i : Int} (h0 : 0 ≤ i) (h1 : i < rs.length) : ∃ r ∈ rs, rs[i.toNat]? = some r ∧ r.2 = atL (qsL rs) i := by
  have hi : i.toNat < rs.length := by omega
  refine ⟨rs[i.toNat], List.getElem_mem hi, List.getElem?_eq_getElem hi, ?_⟩
  unfold atL qsL
  rw [List.getD_eq_getElem?_getD, List.getElem?_map, List.getElem?_eq_getElem hi] <;> rfl
theorem at_ref {rs : QL} {i : Int} {r : Addr × Qn} (h0 : 0 ≤ i) (h1 : i < rs.length) (h : rs[i.toNat]? = some r) : atI (rs.map fun r => V.ref r.1) i = some (.ref r.1) := by
  rw [atI_in h0 (by rw [List.length_map]; exact h1), List.getElem?_map, h] <;> rfl
section
variable {P : Program} {w : World} {K : PySem.W.Frag} {mg : Str → Option Value} {base : Heap}
abbrev N_Copy_origin : List Str := ["self", "place", "at"]
abbrev ps_Copy_origin : List Str := ["self", "place"]
theorem sc_Copy_origin : FnScope N_Copy_origin ps_Copy_origin (defScope s_Copy_origin) := ⟨rfl, rfl, rfl, by decide +kernel, rfl, by decide +kernel, by decide +kernel⟩
theorem bp_Copy_need_place_2 {K : PySem.W.Frag} : BindP K d_Copy_need_place ps_Copy_need_place [] := bindP_n rfl rfl fun _ _ _ _ _ _ us hl => match us, hl with | [_, _], _ => rfl
theorem bp_QuestionX_lenX_1 {K : PySem.W.Frag} : BindP K d_QuestionX_lenX ps_QuestionX_lenX [] := bindP_n rfl rfl fun _ _ _ _ _ _ us hl => match us, hl with | [_], _ => rfl
def rd_Copy_origin (K : PySem.W.Frag) : TS := (tSeq (tDrop (tMeth (He.ga K "Copy") "need_place" (spW (sp_Copy_need_place K)) [] E0 (tVar 0) (tCons (tVar 1) tNil))) (tSeq (tAsg (tOp (rModI) (tOp (rAddU K) (tVar 1) (tFld K (tVar 0) "number")) (tCB (rLenU K) (tCons (tFld K (tVar 0) "laid_out") tNil))) (gName 2)) (tRet (tTup (tCons (tVar 2) (tCons (tOp (rModI) (tOp (rMulU) (tFld K (tVar 0) "number") (tOp (rAddU K) (tVar 1) (tC (.int (1))))) (tCB (rLenO (He.ga K "Question") (spW (sp_QuestionX_lenX K))) (tCons (tOp (rIx K) (tFld K (tVar 0) "laid_out") (tVar 2)) tNil))) tNil))))))
def sp_Copy_origin (K : PySem.W.Frag) : SpW := fun vs B M Q E => ∃ y rs n p, vs = [.ref y, .int p] ∧ CopyAt K B y rs n ∧ RsOk rs ∧ 0 ≤ n ∧ n ≤ 999 ∧ 0 ≤ p ∧ p < rs.length ∧ ∀ t, Q (.ref t) B ((t, .tup [.int (oAt (qsL rs) n p), .int (oBy (qsL rs) n p)]) :: M)
theorem len_Copy_origin (K : PySem.W.Frag) : ∀ vs B M Q E, sp_Copy_origin K vs B M Q E → vs.length = ps_Copy_origin.length := by
  intro _ _ _ _ _ h
  unfold sp_Copy_origin at h
  repeat (first | (obtain ⟨rfl, _⟩ := h; rfl) | (obtain ⟨_, h⟩ := h))
theorem pure_Copy_origin (T : TX K mg) : ∀ vs B M Q E, sp_Copy_origin K vs B M Q E → SW (rd_Copy_origin K) (DW.up ⟨fun _ B M => Q .non B M, Q, fun _ _ _ => False, fun _ _ _ => False⟩) (start N_Copy_origin vs) B M := by
  rintro _ B M Q E ⟨y, rs, n, p, rfl, hc, ok, n0, n1, p0, p1, q⟩
  obtain ⟨dx, l, hy, hrs⟩ := id hc
  have lo := ok.lo
  have hi := ok.hi
  have a0 := oAt_0 (qs := qsL rs) (n := n) (p := p) (by rw [qsL_len]; exact lo)
  have a1 := oAt_1 (qs := qsL rs) (n := n) (p := p) (by rw [qsL_len]; exact lo)
  rw [qsL_len] at a1
  obtain ⟨r, hr, hg, er⟩ := atL_get a0 a1
  have rok := ok.qs r hr
  unfold rd_Copy_origin
  walk_at "q"
  refine ⟨y, dx, _, rfl, .inl hy, rfl, ?_⟩
  walk_at "q"
  refine cw_of ⟨y, rs, n, p, rfl, hc, ok, p0, p1, ?_⟩
  walk_at "q"
  refine ew_fldE T.c_Copy T.n_Copy_number ?_
  walk_at "q"
  refine ⟨_, _, _, rfl, .inl hy, _, rfl, ?_⟩
  walk_at "q"
  refine ew_fldE T.c_Copy T.n_Copy_laid_out ?_
  walk_at "q"
  refine ⟨_, _, _, rfl, .inl hy, _, rfl, ?_⟩
  walk_at "q"
  refine len_l (.per hrs.1) ?_
  rw [List.length_map]
  refine mod_int (by omega) ?_
  rw [show (p + n) % ((rs.length : Nat) : Int) = oAt (qsL rs) n p by unfold oAt; rw [qsL_len]]
  walk_at "q"
  refine ew_fldE T.c_Copy T.n_Copy_number ?_
  walk_at "q"
  refine ⟨_, _, _, rfl, .inl hy, _, rfl, ?_⟩
  walk_at "q"
  refine mul_int (small_mul n0 (by omega) (by omega) (by omega)) ?_
  walk_at "q"
  refine ew_fldE T.c_Copy T.n_Copy_laid_out ?_
  walk_at "q"
  refine ⟨_, _, _, rfl, .inl hy, _, rfl, ?_⟩
  walk_at "q"
  refine ix_l (.per hrs.1) (at_ref a0 a1 hg) ?_
  walk_at "q"
  obtain ⟨dq, bq, hqa, _⟩ := hrs.2 r hr
  refine len_o (.inl hqa) (cw_of ⟨r.1, r.2, rfl, hrs.2 r hr, _, rfl, by omega, by have := rok.an.hi; omega, ?_⟩)
  refine mod_int (by have := rok.an.lo; omega) ?_
  walk_at "q"
  refine ⟨le_line (Nat.le_refl 2), fun t => ?_⟩
  rw [er]
  exact .le Le.refl (q t)
theorem ok_Copy_origin (T : TX K mg) : Fnk P w K mg base d_Copy_origin ps_Copy_origin 4 (spW (sp_Copy_origin K)) :=
  fnk_of (N := N_Copy_origin) (rd_Copy_origin K) T.d_Copy_origin sc_Copy_origin (len_Copy_origin K) (fun f cdv A outer sh H E hr => (pss_cons (ps_expr (pe_me (ok_Copy_need_place T) bp_Copy_need_place_2 hr (by decide) T.c_Copy T.m_Copy_need_place (pv 0) (pa_cons (pv 1) pa_nil))) (pss_cons (ps_set (i := 2) sc_Copy_origin.nd rfl (Or.inl rfl) (pe_op op_modU (pe_op op_addU (pv 1) (pe_fld (pv 0) rfl)) (pe_callB call_lenU (by rfl) T.f_len (by decide +kernel) (pa_cons (pe_fld (pv 0) rfl) pa_nil)))) (pss_one (ps_ret (pe_tup (pa_cons (pv 2) (pa_cons (pe_op op_modU (pe_op op_mulU (pe_fld (pv 0) rfl) (pe_op op_addU (pv 1) pe_int)) (pe_callB (call_lenO T.o_QuestionX_lenX ((ok_QuestionX_lenX T).fnR bp_QuestionX_lenX_1) hr (by decide)) (by rfl) T.f_len (by decide +kernel) (pa_cons (pe_ix ix_seq (pe_fld (pv 0) rfl) (pv 2) (fun _ _ => rfl)) pa_nil))) pa_nil)))))))) (pure_Copy_origin T)
abbrev N_Copy_question_at : List Str := ["self", "place", "at", "by"]
abbrev ps_Copy_question_at : List Str := ["self", "place"]
theorem sc_Copy_question_at : FnScope N_Copy_question_at ps_Copy_question_at (defScope s_Copy_question_at) := ⟨rfl, rfl, rfl, by decide +kernel, rfl, by decide +kernel, by decide +kernel⟩
theorem bp_Copy_origin_2 {K : PySem.W.Frag} : BindP K d_Copy_origin ps_Copy_origin [] := bindP_n rfl rfl fun _ _ _ _ _ _ us hl => match us, hl with | [_, _], _ => rfl
theorem bp_Question_turned_2 {K : PySem.W.Frag} : BindP K d_Question_turned ps_Question_turned [] := bindP_n rfl rfl fun _ _ _ _ _ _ us hl => match us, hl with | [_, _], _ => rfl
def rd_Copy_question_at (K : PySem.W.Frag) : TS := (tSeq (tAsg (tMeth (He.ga K "Copy") "origin" (spW (sp_Copy_origin K)) [] E0 (tVar 0) (tCons (tVar 1) tNil)) (gTup K 2 (gCons (gName 2) (gCons (gName 3) gNil)))) (tRet (tMeth (He.ga K "Question") "turned" (spW (sp_Question_turned K)) [] E0 (tOp (rIx K) (tFld K (tVar 0) "laid_out") (tVar 2)) (tCons (tVar 3) tNil))))
def sp_Copy_question_at (K : PySem.W.Frag) : SpW := fun vs B M Q E => ∃ y rs n p, vs = [.ref y, .int p] ∧ CopyAt K B y rs n ∧ RsOk rs ∧ 0 ≤ n ∧ n ≤ 999 ∧ 0 ≤ p ∧ p < rs.length ∧ ∀ a B', Ex B B' → QAt K B' a (qAt (qsL rs) n p) → QOk (qAt (qsL rs) n p) → Q (.ref a) B' M
theorem len_Copy_question_at (K : PySem.W.Frag) : ∀ vs B M Q E, sp_Copy_question_at K vs B M Q E → vs.length = ps_Copy_question_at.length := by
  intro _ _ _ _ _ h
  unfold sp_Copy_question_at at h
  repeat (first | (obtain ⟨rfl, _⟩ := h; rfl) | (obtain ⟨_, h⟩ := h))
theorem pure_Copy_question_at (T : TX K mg) : ∀ vs B M Q E, sp_Copy_question_at K vs B M Q E → SW (rd_Copy_question_at K) (DW.up ⟨fun _ B M => Q .non B M, Q, fun _ _ _ => False, fun _ _ _ => False⟩) (start N_Copy_question_at vs) B M := by
  rintro _ B M Q E ⟨y, rs, n, p, rfl, hc, ok, n0, n1, p0, p1, q⟩
  obtain ⟨dx, l, hy, hrs⟩ := id hc
  have lo := ok.lo
  have hi := ok.hi
  have a0 := oAt_0 (qs := qsL rs) (n := n) (p := p) (by rw [qsL_len]; exact lo)
  have a1 := oAt_1 (qs := qsL rs) (n := n) (p := p) (by rw [qsL_len]; exact lo)
  rw [qsL_len] at a1
  obtain ⟨r, hr, hg, er⟩ := atL_get a0 a1
  have rok := ok.qs r hr
  unfold rd_Copy_question_at
  walk_at "q"
  refine ⟨y, dx, _, rfl, .inl hy, rfl, ?_⟩
  walk_at "q"
  refine cw_of ⟨y, rs, n, p, rfl, hc, ok, n0, n1, p0, p1, fun t => ?_⟩
  refine gw_tup (.of .here) rfl ?_
  walk_at "q"
  refine ew_fldE T.c_Copy T.n_Copy_laid_out ?_
  walk_at "q"
  refine ⟨_, _, _, rfl, .inl hy, _, rfl, ?_⟩
  walk_at "q"
  refine ix_l (.per hrs.1) (at_ref a0 a1 hg) ?_
  obtain ⟨dq, bq, hqa, _⟩ := hrs.2 r hr
  refine ⟨r.1, dq, _, rfl, .inl hqa, rfl, ?_⟩
  walk_at "q"
  have al := rok.an.lo
  have ah := rok.an.hi
  have b0 : 0 ≤ oBy (qsL rs) n p := Int.emod_nonneg _ (by rw [← er]; omega)
  have b1 : oBy (qsL rs) n p < (atL (qsL rs) (oAt (qsL rs) n p)).ans.length := Int.emod_lt_of_pos _ (by rw [← er]; omega)
  rw [← er] at b1
  refine cw_of ⟨r.1, r.2, oBy (qsL rs) n p, rfl, hrs.2 r hr, rok, b0, by omega, fun a B' e hq => ?_⟩
  have ho := turn_ok rok (oBy (qsL rs) n p)
  rw [er] at hq ho
  exact .le (Le.drop Le.refl) (q a B' e hq ho)
theorem ok_Copy_question_at (T : TX K mg) : Fnk P w K mg base d_Copy_question_at ps_Copy_question_at 6 (spW (sp_Copy_question_at K)) :=
  fnk_of (N := N_Copy_question_at) (rd_Copy_question_at K) T.d_Copy_question_at sc_Copy_question_at (len_Copy_question_at K) (fun f cdv A outer sh H E hr => (pss_cons (ps_asg (pe_me (ok_Copy_origin T) bp_Copy_origin_2 hr (by decide) T.c_Copy T.m_Copy_origin (pv 0) (pa_cons (pv 1) pa_nil)) (pg_tup rfl (pgs_cons (pg_name (i := 2) sc_Copy_question_at.nd rfl (Or.inl rfl)) (pgs_cons (pg_name (i := 3) sc_Copy_question_at.nd rfl (Or.inl rfl)) pgs_nil)))) (pss_one (ps_ret (pe_me (ok_Question_turned T) bp_Question_turned_2 hr (by decide) T.c_Question T.m_Question_turned (pe_ix ix_seq (pe_fld (pv 0) rfl) (pv 2) (fun _ _ => rfl)) (pa_cons (pv 3) pa_nil)))))) (pure_Copy_question_at T)
abbrev N_Copy_told_names : List Str := ["self", "place"]
abbrev ps_Copy_told_names : List Str := ["self"]
theorem sc_Copy_told_names : FnScope N_Copy_told_names ps_Copy_told_names (defScope s_Copy_told_names) := ⟨rfl, rfl, rfl, by decide +kernel, rfl, by decide +kernel, by decide +kernel⟩
def rd_Copy_told_names (K : PySem.W.Frag) : TS := (tRet (tLc (iRng1 (tCons (tCB (rLenU K) (tCons (tFld K (tVar 0) "laid_out") tNil)) tNil)) (gName 1) tYes (tFld K (tOp (rIx K) (tFld K (tVar 0) "laid_out") (tOp (rIx K) (tMeth (He.ga K "Copy") "origin" (spW (sp_Copy_origin K)) [] E0 (tVar 0) (tCons (tVar 1) tNil)) (tC (.int (0))))) "name") [1]))
def sp_Copy_told_names (K : PySem.W.Frag) : SpW := fun vs B M Q E => ∃ y rs n, vs = [.ref y] ∧ CopyAt K B y rs n ∧ RsOk rs ∧ 0 ≤ n ∧ n ≤ 999 ∧ ∀ l (zs : List Str), zs.length ≤ 40 → (∀ z ∈ zs, nameB z = true) → Q (.ref l) B ((l, .lst (zs.map .str)) :: M)
theorem len_Copy_told_names (K : PySem.W.Frag) : ∀ vs B M Q E, sp_Copy_told_names K vs B M Q E → vs.length = ps_Copy_told_names.length := by
  intro _ _ _ _ _ h
  unfold sp_Copy_told_names at h
  repeat (first | (obtain ⟨rfl, _⟩ := h; rfl) | (obtain ⟨_, h⟩ := h))
theorem pure_Copy_told_names (T : TX K mg) : ∀ vs B M Q E, sp_Copy_told_names K vs B M Q E → SW (rd_Copy_told_names K) (DW.up ⟨fun _ B M => Q .non B M, Q, fun _ _ _ => False, fun _ _ _ => False⟩) (start N_Copy_told_names vs) B M := by
  rintro _ B M Q E ⟨y, rs, n, rfl, hc, ok, n0, n1, q⟩
  obtain ⟨dx, l, hy, hrs⟩ := id hc
  have lo := ok.lo
  have hi := ok.hi
  unfold rd_Copy_told_names
  walk_at "q"
  refine ew_lcP (iw_rng1 ?_)
  walk_at "q"
  refine ew_fldE T.c_Copy T.n_Copy_laid_out ?_
  walk_at "q"
  refine ⟨_, _, _, rfl, .inl hy, _, rfl, ?_⟩
  walk_at "q"
  refine len_l (.per hrs.1) ?_
  rw [List.length_map]
  walk_at "q"
  refine ⟨by omega, by omega, rs.length, _, _, fun _ => true, fun i => .str (atL (qsL rs) (oAt (qsL rs) n i)).name, runs_rng, le_line hi, fun _ _ => True.intro, ?_, fun D => ?_⟩
  · rintro D i _ acc B' M' hlt ⟨rfl, rfl, rfl⟩
    have a0 := oAt_0 (qs := qsL rs) (n := n) (p := i) (by rw [qsL_len]; exact lo)
    have a1 := oAt_1 (qs := qsL rs) (n := n) (p := i) (by rw [qsL_len]; exact lo)
    rw [qsL_len] at a1
    obtain ⟨r, hr, hg, er⟩ := atL_get a0 a1
    obtain ⟨dq, bq, hqa, _⟩ := hrs.2 r hr
    rw [Int.zero_add]
    refine gw_name ⟨wipe_set _, tw_yes ⟨rfl, nofun, fun _ => ?_⟩⟩
    refine ew_fldE T.c_Question T.n_Question_name ?_
    walk_at "q"
    refine ew_fldE T.c_Copy T.n_Copy_laid_out ?_
    walk_at "q"
    refine ⟨_, _, _, rfl, .inl hy, _, rfl, ?_⟩
    walk_at "q"
    refine ⟨y, dx, _, rfl, .inl hy, rfl, ?_⟩
    walk_at "q"
    refine cw_of ⟨y, rs, n, i, rfl, hc, ok, n0, n1, by omega, by omega, fun t => ?_⟩
    walk_at "q"
    refine ix_t (.of .here) rfl ?_
    refine ix_l (.per hrs.1) (at_ref a0 a1 hg) ?_
    refine ⟨_, _, _, rfl, .inl hqa, _, rfl, ?_⟩
    exact ⟨by rw [er], Le.drop Le.refl⟩
  · have e : ((List.range rs.length).filter fun _ => true).map (fun i : Nat => V.str (atL (qsL rs) (oAt (qsL rs) n i)).name) = ((List.range rs.length).map fun i : Nat => (atL (qsL rs) (oAt (qsL rs) n i)).name).map V.str := by
      rw [List.filter_eq_self.mpr fun _ _ => rfl, List.map_map] <;> rfl
    rw [e]
    refine .le Le.refl (q D _ (by rw [List.length_map, List.length_range]; exact hi) fun z hz => ?_)
    obtain ⟨i, _, rfl⟩ := List.mem_map.mp hz
    have a0 := oAt_0 (qs := qsL rs) (n := n) (p := i) (by rw [qsL_len]; exact lo)
    have a1 := oAt_1 (qs := qsL rs) (n := n) (p := i) (by rw [qsL_len]; exact lo)
    rw [qsL_len] at a1
    obtain ⟨r, hr, hg, er⟩ := atL_get a0 a1
    rw [← er]
    exact (ok.qs r hr).nm
theorem ok_Copy_told_names (T : TX K mg) : Fnk P w K mg base d_Copy_told_names ps_Copy_told_names 5 (spW (sp_Copy_told_names K)) :=
  fnk_of (N := N_Copy_told_names) (rd_Copy_told_names K) T.d_Copy_told_names sc_Copy_told_names (len_Copy_told_names K) (fun f cdv A outer sh H E hr => (pss_one (ps_ret (pe_lc (own := [("place", 1)]) rfl sc_Copy_told_names.nd (pi_range1 rfl T.f_range (pa_cons (pe_callB call_lenU (by rfl) T.f_len (by decide +kernel) (pa_cons (pe_fld (pv 0) rfl) pa_nil)) pa_nil)) (blkOk_by (own := [("place", 1)]) (N := N_Copy_told_names) (sc := defScope s_Copy_told_names) (by decide +kernel)) (fun _ _ _ _ _ => (pg_name (i := 1) sc_Copy_told_names.nd rfl (Or.inl rfl))) (fun _ _ _ _ _ => pts_nil) (fun _ _ _ _ _ => (pe_fld (pe_ix ix_seq (pe_fld (pv 0) rfl) (pe_ix ix_seq (pe_me (ok_Copy_origin T) bp_Copy_origin_2 hr (by decide) T.c_Copy T.m_Copy_origin (pv 0) (pa_cons (pv 1) pa_nil)) pe_int (fun _ _ => rfl)) (fun _ _ => rfl)) rfl)))))) (pure_Copy_told_names T)
abbrev N_Copy_gone_on : List Str := ["self", "by"]
abbrev ps_Copy_gone_on : List Str := ["self", "by"]
theorem sc_Copy_gone_on : FnScope N_Copy_gone_on ps_Copy_gone_on (defScope s_Copy_gone_on) := ⟨rfl, rfl, rfl, by decide +kernel, rfl, by decide +kernel, by decide +kernel⟩
theorem bp_Copy_copy_by_2 {K : PySem.W.Frag} : BindP K d_Copy_copy_by ps_Copy_copy_by [] := bindP_n rfl rfl fun _ _ _ _ _ _ us hl => match us, hl with | [_, _], _ => rfl
def rd_Copy_gone_on (K : PySem.W.Frag) : TS := (tSeq (tIfS (tNot (tB (tCallN 1 2 (spW (sp_is_whole K)) (fun vs zs => vs ++ zs) E0 (tCons (tVar 1) tNil) (tCons (tOp (rSubI) (tC (.int (0))) (tC (.int (999)))) (tCons (tC (.int (999))) tNil))))) tNever tNext) (tSeq (tIfS (tNot (tTest (tChain rLeU rLeU (tC (.int (0))) (tOp (rAddU K) (tFld K (tVar 0) "number") (tVar 1)) (tC (.int (999)))))) tNever tNext) (tRet (tMeth (He.ga K "Copy") "copy_by" (spW (sp_Copy_copy_by K)) [] E0 (tVar 0) (tCons (tOp (rAddU K) (tFld K (tVar 0) "number") (tVar 1)) tNil)))))
def sp_Copy_gone_on (K : PySem.W.Frag) : SpW := fun vs B M Q E => ∃ y rs n m, vs = [.ref y, .int m] ∧ CopyAt K B y rs n ∧ RsOk rs ∧ 0 ≤ n ∧ n ≤ 999 ∧ 0 ≤ n + m ∧ n + m ≤ 999 ∧ ∀ y' B', Ex B B' → CopyAt K B' y' rs (n + m) → Q (.ref y') B' M
theorem len_Copy_gone_on (K : PySem.W.Frag) : ∀ vs B M Q E, sp_Copy_gone_on K vs B M Q E → vs.length = ps_Copy_gone_on.length := by
  intro _ _ _ _ _ h
  unfold sp_Copy_gone_on at h
  repeat (first | (obtain ⟨rfl, _⟩ := h; rfl) | (obtain ⟨_, h⟩ := h))
theorem pure_Copy_gone_on (T : TX K mg) : ∀ vs B M Q E, sp_Copy_gone_on K vs B M Q E → SW (rd_Copy_gone_on K) (DW.up ⟨fun _ B M => Q .non B M, Q, fun _ _ _ => False, fun _ _ _ => False⟩) (start N_Copy_gone_on vs) B M := by
  rintro _ B M Q E ⟨y, rs, n, m, rfl, hc, ok, n0, n1, m0, m1, q⟩
  obtain ⟨dx, l, hy, hrs⟩ := id hc
  unfold rd_Copy_gone_on
  walk_at "q"
  refine cw_of ⟨_, _, _, rfl, ?_⟩
  rw [decide_eq_true (by omega), decide_eq_true (by omega), Bool.true_and]
  walk_at "q"
  refine ew_fldE T.c_Copy T.n_Copy_number ?_
  walk_at "q"
  refine ⟨_, _, _, rfl, .inl hy, _, rfl, ?_⟩
  walk_at "q"
  rw [decide_eq_true m0]
  walk_at "q"
  rw [decide_eq_true m1]
  walk_at "q"
  refine ⟨y, dx, _, rfl, .inl hy, rfl, ?_⟩
  walk_at "q"
  refine ew_fldE T.c_Copy T.n_Copy_number ?_
  walk_at "q"
  refine ⟨_, _, _, rfl, .inl hy, _, rfl, ?_⟩
  walk_at "q"
  exact cw_of ⟨y, rs, n, n + m, rfl, hc, ok, m0, m1, fun y' B' e h => .le Le.refl (q y' B' e h)⟩
theorem ok_Copy_gone_on (T : TX K mg) : Fnk P w K mg base d_Copy_gone_on ps_Copy_gone_on 9 (spW (sp_Copy_gone_on K)) :=
  fnk_of (N := N_Copy_gone_on) (rd_Copy_gone_on K) T.d_Copy_gone_on sc_Copy_gone_on (len_Copy_gone_on K) (fun f cdv A outer sh H E hr => (pss_cons (ps_if (pt_not (pt_val (pe_fnk (ok_is_whole T) bk_is_whole_1_least_most hr (by decide) rfl T.g_is_whole (pa_cons (pv 1) pa_nil) (pk_cons (pe_op op_subU pe_int (C8.pe_gc rfl T.k_LAST_NUMBER)) (pk_cons (C8.pe_gc rfl T.k_LAST_NUMBER) pk_nil))))) (pss_one ps_never) pss_nil) (pss_cons (ps_if (pt_not (pt_chain op_leU op_leU pe_int (pe_op op_addU (pe_fld (pv 0) rfl) (pv 1)) (C8.pe_gc rfl T.k_LAST_NUMBER))) (pss_one ps_never) pss_nil) (pss_one (ps_ret (pe_me (ok_Copy_copy_by T) bp_Copy_copy_by_2 hr (by decide) T.c_Copy T.m_Copy_copy_by (pv 0) (pa_cons (pe_op op_addU (pe_fld (pv 0) rfl) (pv 1)) pa_nil))))))) (pure_Copy_gone_on T)
abbrev N_Copy_first_one : List Str := ["self"]
abbrev ps_Copy_first_one : List Str := ["self"]
theorem sc_Copy_first_one : FnScope N_Copy_first_one ps_Copy_first_one (defScope s_Copy_first_one) := ⟨rfl, rfl, rfl, by decide +kernel, rfl, by decide +kernel, by decide +kernel⟩
def rd_Copy_first_one (K : PySem.W.Frag) : TS := (tRet (tMeth (He.ga K "Copy") "copy_by" (spW (sp_Copy_copy_by K)) [] E0 (tVar 0) (tCons (tC (.int (0))) tNil)))
def sp_Copy_first_one (K : PySem.W.Frag) : SpW := fun vs B M Q E => ∃ y rs n, vs = [.ref y] ∧ CopyAt K B y rs n ∧ RsOk rs ∧ ∀ y' B', Ex B B' → CopyAt K B' y' rs 0 → Q (.ref y') B' M
theorem len_Copy_first_one (K : PySem.W.Frag) : ∀ vs B M Q E, sp_Copy_first_one K vs B M Q E → vs.length = ps_Copy_first_one.length := by
  intro _ _ _ _ _ h
  unfold sp_Copy_first_one at h
  repeat (first | (obtain ⟨rfl, _⟩ := h; rfl) | (obtain ⟨_, h⟩ := h))
theorem pure_Copy_first_one (T : TX K mg) : ∀ vs B M Q E, sp_Copy_first_one K vs B M Q E → SW (rd_Copy_first_one K) (DW.up ⟨fun _ B M => Q .non B M, Q, fun _ _ _ => False, fun _ _ _ => False⟩) (start N_Copy_first_one vs) B M := by
  rintro _ B M Q E ⟨y, rs, n, rfl, hc, ok, q⟩
  obtain ⟨dx, l, hy, hrs⟩ := id hc
  unfold rd_Copy_first_one
  walk_at "q"
  refine ⟨y, dx, _, rfl, .inl hy, rfl, ?_⟩
  walk_at "q"
  exact cw_of ⟨y, rs, n, 0, rfl, hc, ok, by decide, by decide, fun y' B' e h => .le Le.refl (q y' B' e h)⟩
theorem ok_Copy_first_one (T : TX K mg) : Fnk P w K mg base d_Copy_first_one ps_Copy_first_one 9 (spW (sp_Copy_first_one K)) :=
  fnk_of (N := N_Copy_first_one) (rd_Copy_first_one K) T.d_Copy_first_one sc_Copy_first_one (len_Copy_first_one K) (fun f cdv A outer sh H E hr => (pss_one (ps_ret (pe_me (ok_Copy_copy_by T) bp_Copy_copy_by_2 hr (by decide) T.c_Copy T.m_Copy_copy_by (pv 0) (pa_cons pe_int pa_nil))))) (pure_Copy_first_one T)
abbrev N_CopyX_lenX : List Str := ["self"]
abbrev ps_CopyX_lenX : List Str := ["self"]
theorem sc_CopyX_lenX : FnScope N_CopyX_lenX ps_CopyX_lenX (defScope s_CopyX_lenX) := ⟨rfl, rfl, rfl, by decide +kernel, rfl, by decide +kernel, by decide +kernel⟩
def rd_CopyX_lenX (K : PySem.W.Frag) : TS := (tRet (tCB (rLenU K) (tCons (tFld K (tVar 0) "laid_out") tNil)))
def sp_CopyX_lenX (K : PySem.W.Frag) : SpW := fun vs B M Q E => ∃ y rs n, vs = [.ref y] ∧ CopyAt K B y rs n ∧ Q (.int rs.length) B M
theorem len_CopyX_lenX (K : PySem.W.Frag) : ∀ vs B M Q E, sp_CopyX_lenX K vs B M Q E → vs.length = ps_CopyX_lenX.length := by
  intro _ _ _ _ _ h
  unfold sp_CopyX_lenX at h
  repeat (first | (obtain ⟨rfl, _⟩ := h; rfl) | (obtain ⟨_, h⟩ := h))
theorem pure_CopyX_lenX (T : TX K mg) : ∀ vs B M Q E, sp_CopyX_lenX K vs B M Q E → SW (rd_CopyX_lenX K) (DW.up ⟨fun _ B M => Q .non B M, Q, fun _ _ _ => False, fun _ _ _ => False⟩) (start N_CopyX_lenX vs) B M := by
  rintro _ B M Q E ⟨y, rs, n, rfl, ⟨dx, l, hy, hrs⟩, q⟩
  unfold rd_CopyX_lenX
  walk_at "q"
  refine ew_fldE T.c_Copy T.n_Copy_laid_out ?_
  walk_at "q"
  refine ⟨_, _, _, rfl, .inl hy, _, rfl, ?_⟩
  walk_at "q"
  refine len_l (.per hrs.1) ?_
  rw [List.length_map]
  exact .le Le.refl q
theorem ok_CopyX_lenX (T : TX K mg) : Fnk P w K mg base d_CopyX_lenX ps_CopyX_lenX 1 (spW (sp_CopyX_lenX K)) :=
  fnk_of (N := N_CopyX_lenX) (rd_CopyX_lenX K) T.d_CopyX_lenX sc_CopyX_lenX (len_CopyX_lenX K) (fun f cdv A outer sh H E hr => (pss_one (ps_ret (pe_callB call_lenU (by rfl) T.f_len (by decide +kernel) (pa_cons (pe_fld (pv 0) rfl) pa_nil))))) (pure_CopyX_lenX T)
abbrev N_CopyX_strX : List Str := ["self"]
abbrev ps_CopyX_strX : List Str := ["self"]
theorem sc_CopyX_strX : FnScope N_CopyX_strX ps_CopyX_strX (defScope s_CopyX_strX) := ⟨rfl, rfl, rfl, by decide +kernel, rfl, by decide +kernel, by decide +kernel⟩
theorem bp_Copy_told_names_1 {K : PySem.W.Frag} : BindP K d_Copy_told_names ps_Copy_told_names [] := bindP_n rfl rfl fun _ _ _ _ _ _ us hl => match us, hl with | [_], _ => rfl
def rd_CopyX_strX (K : PySem.W.Frag) : TS := (tRet (tM1 (rJoin K) (tC (.str " ")) (tMeth (He.ga K "Copy") "told_names" (spW (sp_Copy_told_names K)) [] E0 (tVar 0) tNil)))
def sp_CopyX_strX (K : PySem.W.Frag) : SpW := fun vs B M Q E => ∃ y rs n, vs = [.ref y] ∧ CopyAt K B y rs n ∧ RsOk rs ∧ 0 ≤ n ∧ n ≤ 999 ∧ ∀ z, Q (.str z) B M
theorem len_CopyX_strX (K : PySem.W.Frag) : ∀ vs B M Q E, sp_CopyX_strX K vs B M Q E → vs.length = ps_CopyX_strX.length := by
  intro _ _ _ _ _ h
  unfold sp_CopyX_strX at h
  repeat (first | (obtain ⟨rfl, _⟩ := h; rfl) | (obtain ⟨_, h⟩ := h))
theorem pure_CopyX_strX (T : TX K mg) : ∀ vs B M Q E, sp_CopyX_strX K vs B M Q E → SW (rd_CopyX_strX K) (DW.up ⟨fun _ B M => Q .non B M, Q, fun _ _ _ => False, fun _ _ _ => False⟩) (start N_CopyX_strX vs) B M := by
  rintro _ B M Q E ⟨y, rs, n, rfl, hc, ok, n0, n1, q⟩
  obtain ⟨dx, l, hy, hrs⟩ := id hc
  unfold rd_CopyX_strX
  walk_at "q"
  refine ew_m1 ?_
  walk_at "q"
  refine ⟨⟨_, rfl⟩, ?_⟩
  walk_at "q"
  refine ⟨y, dx, _, rfl, .inl hy, rfl, ?_⟩
  walk_at "q"
  refine cw_of ⟨y, rs, n, rfl, hc, ok, n0, n1, fun l' zs h40 hz => ?_⟩
  refine join_ (.of .here) ?_ (.le (Le.drop Le.refl) (q _))
  have : ∀ ws : List Str, (∀ z ∈ ws, nameB z = true) → (ws.map (·.length)).sum ≤ 8 * ws.length := by
    intro ws
    induction ws with
    | nil => intro _; exact Nat.le_refl _
    | cons a ws ih =>
      intro h
      have h1 := (nameB_len (h a (List.mem_cons_self ..))).2
      have h2 := ih fun z hz => h z (List.mem_cons_of_mem _ hz)
      rw [List.map_cons, List.sum_cons, List.length_cons]
      omega
  have h1 := this zs hz
  have h2 : (Str.ofString " ").length = 1 := by decide
  rw [h2]
  omega
theorem ok_CopyX_strX (T : TX K mg) : Fnk P w K mg base d_CopyX_strX ps_CopyX_strX 6 (spW (sp_CopyX_strX K)) :=
  fnk_of (N := N_CopyX_strX) (rd_CopyX_strX K) T.d_CopyX_strX sc_CopyX_strX (len_CopyX_strX K) (fun f cdv A outer sh H E hr => (pss_one (ps_ret (pe_join pe_str (pe_me0 (ok_Copy_told_names T) bp_Copy_told_names_1 hr (by decide) T.c_Copy T.m_Copy_told_names (pv 0)))))) (pure_CopyX_strX T)
abbrev N_need_copy : List Str := ["thing"]
abbrev ps_need_copy : List Str := ["thing"]
theorem sc_need_copy : FnScope N_need_copy ps_need_copy (defScope s_need_copy) := ⟨rfl, rfl, rfl, by decide +kernel, rfl, by decide +kernel, by decide +kernel⟩
def rd_need_copy (K : PySem.W.Frag) : TS := (tIfS (tNot (tB (tCB (rIsi K) (tCons (tVar 0) (tCons (tC (.ref (He.ga K "Copy"))) tNil))))) tNever tNext)
def sp_need_copy (K : PySem.W.Frag) : SpW := fun vs B M Q E => ∃ y rs n, vs = [.ref y] ∧ CopyAt K B y rs n ∧ Q .non B M
theorem len_need_copy (K : PySem.W.Frag) : ∀ vs B M Q E, sp_need_copy K vs B M Q E → vs.length = ps_need_copy.length := by
  intro _ _ _ _ _ h
  unfold sp_need_copy at h
  repeat (first | (obtain ⟨rfl, _⟩ := h; rfl) | (obtain ⟨_, h⟩ := h))
theorem pure_need_copy (T : TX K mg) : ∀ vs B M Q E, sp_need_copy K vs B M Q E → SW (rd_need_copy K) (DW.up ⟨fun _ B M => Q .non B M, Q, fun _ _ _ => False, fun _ _ _ => False⟩) (start N_need_copy vs) B M := by
  rintro _ B M Q E ⟨y, rs, n, rfl, ⟨dx, l, hy, hrs⟩, q⟩
  unfold rd_need_copy
  walk_at "q"
  refine isi_ (TyW.ins T.i_Copy (.inl hy)) (.own _) T.ko_Copy_Copy ?_
  walk_at "q"
  exact .le Le.refl q
theorem ok_need_copy (T : TX K mg) : Fnk P w K mg base d_need_copy ps_need_copy 3 (spW (sp_need_copy K)) :=
  fnk_of (N := N_need_copy) (rd_need_copy K) T.d_need_copy sc_need_copy (len_need_copy K) (fun f cdv A outer sh H E hr => (pss_one (ps_if (pt_not (pt_val (pe_callB call_isi (by rfl) T.f_isinstance (by decide +kernel) (pa_cons (pv 0) (pa_cons (pe_glob rfl T.g_Copy rfl) pa_nil))))) (pss_one ps_never) pss_nil))) (pure_need_copy T)
end
end Pap

set_option maxHeartbeats 4000000
/-! S11: copies compared; rounds. -/
namespace Pap
open PySem PySem.Spec PyProof.Rows L2 PT
local macro_rules | `(tactic| walk_at "q1") => `(tactic| first
  | with_reducible refine sw_seq ?_
  | with_reducible refine sw_ret ?_
  | with_reducible refine sw_if ?_
  | with_reducible refine sw_next ?_
  | with_reducible refine sw_drop ?_
  | with_reducible refine sw_retN ?_
  | with_reducible refine sw_set ?_
  | with_reducible refine sw_par ?_
  | with_reducible refine sw_par3 ?_
  | with_reducible refine sw_asg ?_
  | with_reducible refine gw_name ?_
  | with_reducible refine gsw_cons ?_
  | with_reducible refine gsw_nil ?_
  | with_reducible refine tw_or ?_
  | with_reducible refine tw_and ?_
  | with_reducible refine tw_not ?_
  | with_reducible refine tw_B ?_
  | with_reducible refine tw_test ?_
  | with_reducible refine tw_yes ?_
  | with_reducible refine ew_cb ?_
  | with_reducible refine ew_c ?_
  | with_reducible refine ew_op ?_
  | with_reducible refine ew_chain ?_
  | with_reducible refine ew_notV ?_
  | with_reducible refine ew_andV ?_
  | with_reducible refine ew_orV ?_
  | with_reducible refine ew_un ?_
  | with_reducible refine ew_then ?_
  | with_reducible refine ew_sl ?_
  | with_reducible refine ow_no ?_
  | with_reducible refine ow_some ?_
  | with_reducible refine ew_tup ?_
  | with_reducible refine ew_lst ?_
  | with_reducible refine ew_tupF ?_
  | with_reducible refine ew_dnew ?_
  | with_reducible refine ew_call ?_
  | with_reducible refine ew_callN ?_
  | with_reducible refine ew_make ?_
  | with_reducible refine ew_makeN ?_
  | with_reducible refine ew_meth ?_
  | with_reducible refine ew_methK ?_
  | with_reducible refine ew_tm ?_
  | with_reducible refine ew_bm ?_
  | with_reducible refine ew_bm0 ?_
  | with_reducible refine aw_nil ?_
  | with_reducible refine aw_cons ?_
  | (with_reducible refine ew_varE ?_; refine ⟨_, rfl, ?_⟩)
  | with_reducible refine le_int ?_
  | with_reducible refine lt_int ?_
  | with_reducible refine ge_int ?_
  | with_reducible refine gt_int ?_
  | with_reducible refine eq_int ?_
  | with_reducible refine ne_int ?_
  | with_reducible refine eq_str ?_
  | with_reducible refine ne_str ?_
  | with_reducible refine add_int ?_
  | with_reducible refine sub_int ?_
  | with_reducible refine is_n ?_
  | with_reducible refine isn_n ?_
  | with_reducible refine isi_ii ?_
  | with_reducible refine isi_ib ?_
  | with_reducible refine isi_ss ?_
  | (with_reducible refine ⟨rfl, rfl, ?_⟩)
  | with_reducible refine up_rt ?_
  | with_reducible refine up_nx ?_
  | with_reducible refine tt_ ?_
  | with_reducible refine ff_ ?_
  | with_reducible refine ⟨_, rfl, ?_⟩
  | rw [Bool.not_true]
  | rw [Bool.not_false]
  | (show _ ∧ _; with_reducible refine tt_ ?_)
  | (show _ ∧ _; with_reducible refine ff_ ?_)
  | fail "q1: no step")
local macro_rules | `(tactic| walk_at "q") => `(tactic| repeat walk_at "q1")
local macro_rules | `(tactic| walk_at "le") => `(tactic| repeat (first | with_reducible exact Le.refl | with_reducible refine Le.drop ?_ | with_reducible refine Le.app ?_))
local macro_rules | `(tactic| walk_at "nq") => `(tactic| first | exact TX.n_Question_name (by assumption) | exact TX.n_Question_matter (by assumption) | exact TX.n_Question_answers (by assumption) | exact TX.n_Question_right (by assumption) | exact TX.n_Question_toil (by assumption) | exact TX.n_Question_marks (by assumption) | exact TX.n_Question_kin (by assumption))
local macro_rules | `(tactic| walk_at "fl") => `(tactic| refine ⟨_, _, _, rfl, .inl (by assumption), _, rfl, ?_⟩)
local macro_rules | `(tactic| walk_at "fq") => `(tactic| (walk_at "q"; (with_reducible refine ew_fldE (TX.c_Question (by assumption)) (by walk_at "nq") ?_); walk_at "q"; walk_at "fl"; walk_at "q"))

def eqC (qs : List Qn) (n : Int) (qs' : List Qn) (n' : Int) : Bool := decide (qs'.length = qs.length) && (List.range qs.length).all fun i => decide (qAt qs n i = qAt qs' n' i)
def rMulIp : TIp := fun x y H Q => ∃ i j, x = .int i ∧ y = .int j ∧ CMulW i j ∧ Q (.int (i * j)) H
theorem ip_mulI {X : Cx} : PIp X .Mult rMulIp := by
  intro pins s σ H x y v u Q I r1 r2 h
  obtain ⟨i, j, e1, e2, hc, q⟩ := h
  subst e1; subst e2
  obtain ⟨t, rfl⟩ := r1
  obtain ⟨t', rfl⟩ := r2
  exact imul_int ⟨.int _, H, I.tok _, ⟨_, rfl⟩, q⟩ hc.ok
theorem ipmul_ {B : Hp} {M : MM} {Q : KW} {i j : Int} (h : CMulW i j) (q : Q (.int (i * j)) B M) : IpW rMulIp (.int i) (.int j) B M Q := fun _ k H W => ⟨i, j, rfl, rfl, h, k _ _ _ _ W q⟩
section
variable {P : Program} {w : World} {K : PySem.W.Frag} {mg : Str → Option Value} {base : Heap}
abbrev N_CopyX_eqX : List Str := ["self", "other", "place"]
abbrev ps_CopyX_eqX : List Str := ["self", "other"]
theorem sc_CopyX_eqX : FnScope N_CopyX_eqX ps_CopyX_eqX (defScope s_CopyX_eqX) := ⟨rfl, rfl, rfl, by decide +kernel, rfl, by decide +kernel, by decide +kernel⟩
theorem bp_CopyX_lenX_1 {K : PySem.W.Frag} : BindP K d_CopyX_lenX ps_CopyX_lenX [] := bindP_n rfl rfl fun _ _ _ _ _ _ us hl => match us, hl with | [_], _ => rfl
theorem bp_Copy_question_at_2 {K : PySem.W.Frag} : BindP K d_Copy_question_at ps_Copy_question_at [] := bindP_n rfl rfl fun _ _ _ _ _ _ us hl => match us, hl with | [_, _], _ => rfl
theorem bp_QuestionX_eqX_2 {K : PySem.W.Frag} : BindP K d_QuestionX_eqX ps_QuestionX_eqX [] := bindP_n rfl rfl fun _ _ _ _ _ _ us hl => match us, hl with | [_, _], _ => rfl
def rd_CopyX_eqX (K : PySem.W.Frag) : TS := (tSeq (tIfS (tOr (tNot (tB (tCB (rIsi K) (tCons (tVar 1) (tCons (tC (.ref (He.ga K "Copy"))) tNil))))) (tTest (tOp (rNeU K) (tCB (rLenO (He.ga K "Copy") (spW (sp_CopyX_lenX K))) (tCons (tVar 1) tNil)) (tCB (rLenO (He.ga K "Copy") (spW (sp_CopyX_lenX K))) (tCons (tVar 0) tNil))))) (tRet (tC (.bl false))) tNext) (tRet (tCB (rAll K) (tCons (tLc (iRng1 (tCons (tCB (rLenO (He.ga K "Copy") (spW (sp_CopyX_lenX K))) (tCons (tVar 0) tNil)) tNil)) (gName 2) tYes (tOp (rOwn K (He.ga K "Question") (spW (sp_QuestionX_eqX K)) false) (tMeth (He.ga K "Copy") "question_at" (spW (sp_Copy_question_at K)) [] E0 (tVar 0) (tCons (tVar 2) tNil)) (tMeth (He.ga K "Copy") "question_at" (spW (sp_Copy_question_at K)) [] E0 (tVar 1) (tCons (tVar 2) tNil))) [2]) tNil))))
def sp_CopyX_eqX (K : PySem.W.Frag) : SpW := fun vs B M Q E => ∃ y rs n v, vs = [.ref y, v] ∧ CopyAt K B y rs n ∧ RsOk rs ∧ 0 ≤ n ∧ n ≤ 999 ∧
  ((∃ t, TyW K B M v t ∧ PySem.W.kitOne K t (.ref (CC K)) = some false ∧ Q (.bl false) B M) ∨ (∃ y' rs' n', v = .ref y' ∧ CopyAt K B y' rs' n' ∧ RsOk rs' ∧ 0 ≤ n' ∧ n' ≤ 999 ∧ ∀ B', Ex B B' → Q (.bl (eqC (qsL rs) n (qsL rs') n')) B' M))
theorem len_CopyX_eqX (K : PySem.W.Frag) : ∀ vs B M Q E, sp_CopyX_eqX K vs B M Q E → vs.length = ps_CopyX_eqX.length := by
  intro _ _ _ _ _ h
  unfold sp_CopyX_eqX at h
  repeat (first | (obtain ⟨rfl, _⟩ := h; rfl) | (obtain ⟨_, h⟩ := h))
theorem pure_CopyX_eqX (T : TX K mg) : ∀ vs B M Q E, sp_CopyX_eqX K vs B M Q E → SW (rd_CopyX_eqX K) (DW.up ⟨fun _ B M => Q .non B M, Q, fun _ _ _ => False, fun _ _ _ => False⟩) (start N_CopyX_eqX vs) B M := by
  rintro _ B M Q E ⟨y, rs, n, v, rfl, hc, ok, n0, n1, h | ⟨y', rs', n', rfl, hc', ok', n0', n1', q⟩⟩
  · obtain ⟨t, ht, hk, q⟩ := h
    unfold rd_CopyX_eqX
    walk_at "q"
    refine isi_ ht (.own _) hk ?_
    walk_at "q"
    exact .le Le.refl q
  obtain ⟨dx, l, hy, hrs⟩ := id hc
  obtain ⟨dx', l', hy', hrs'⟩ := id hc'
  have lo := ok.lo
  have hi := ok.hi
  have hi' := ok'.hi
  unfold rd_CopyX_eqX
  walk_at "q"
  refine isi_ (TyW.ins T.i_Copy (.inl hy')) (.own _) T.ko_Copy_Copy ?_
  walk_at "q"
  refine len_o (.inl hy') (cw_of ⟨y', rs', n', rfl, hc', _, rfl, by omega, by omega, ?_⟩)
  walk_at "q"
  refine len_o (.inl hy) (cw_of ⟨y, rs, n, rfl, hc, _, rfl, by omega, by omega, ?_⟩)
  walk_at "q"
  refine ⟨fun h => ?_, fun h => ?_⟩
  · have hne : ¬ (qsL rs').length = (qsL rs).length := by
      rw [qsL_len, qsL_len]
      intro e
      rw [e] at h
      simp at h
    have := q B Ex.rfl'
    unfold eqC at this
    rw [decide_eq_false hne, Bool.false_and] at this
    walk_at "q"
    exact .le Le.refl this
  have hlen : (qsL rs').length = (qsL rs).length := by
    rw [qsL_len, qsL_len]
    have : ((rs'.length : Nat) : Int) = rs.length := by simpa using h
    omega
  have hl2 : rs'.length = rs.length := by rw [qsL_len, qsL_len] at hlen; exact hlen
  walk_at "q"
  refine ew_lc (iw_rng1 ?_)
  walk_at "q"
  refine len_o (.inl hy) (cw_of ⟨y, rs, n, rfl, hc, _, rfl, by omega, by omega, ?_⟩)
  walk_at "q"
  refine ⟨by omega, by omega, rs.length, _, _, fun i acc B' M' => Ex B B' ∧ M' = M ∧ acc = ((List.range i).map fun i : Nat => decide (qAt (qsL rs) n i = qAt (qsL rs') n' i)).map V.bl, runs_rng, le_line hi, ⟨Ex.rfl', rfl, rfl⟩, fun _ _ _ _ _ _ => True.intro, ?_, ?_⟩
  · rintro D i _ acc B1 _ _ _ hlt hal ⟨e, rfl, rfl⟩ ⟨rfl, rfl, rfl⟩
    rw [Int.zero_add]
    refine gw_name ⟨wipe_set _, tw_yes ⟨fun _ => ?_, nofun⟩⟩
    walk_at "q"
    refine ⟨y, dx, _, rfl, .inl (e _ _ hy), rfl, ?_⟩
    walk_at "q"
    refine cw_of ⟨y, rs, n, i, rfl, hc.ex e, ok, n0, n1, by omega, by omega, fun a1 B2 e2 h1 ok1 => ?_⟩
    walk_at "q"
    refine ⟨y', dx', _, rfl, .inl ((e.trans e2) _ _ hy'), rfl, ?_⟩
    walk_at "q"
    refine cw_of ⟨y', rs', n', i, rfl, hc'.ex (e.trans e2), ok', n0', n1', by omega, by omega, fun a2 B3 e3 h2 ok2 => ?_⟩
    obtain ⟨d1, b1, ha1, hb1⟩ := h1.ex e3
    obtain ⟨d2, b2, ha2, hb2⟩ := id h2
    refine own_l (.inl ha1) (TyW.ins T.i_Question (.inl ha2)) T.nf_Question_Question (cw_of ⟨a1, _, a2, _, rfl, h1.ex e3, h2, ok1, ok2, _, rfl, ?_⟩)
    refine .here ⟨_, rfl, (e.trans e2).trans e3, rfl, ?_⟩
    rw [List.range_succ, List.map_append, List.map_append] <;> rfl
  · rintro D acc B' _ hal ⟨e, rfl, rfl⟩
    walk_at "q"
    refine all_ (bs := (List.range rs.length).map fun i : Nat => decide (qAt (qsL rs) n i = qAt (qsL rs') n' i)) (.of .here) ?_
    have := q B' e
    unfold eqC at this
    rw [decide_eq_true hlen, Bool.true_and, qsL_len] at this
    rw [all_id]
    exact .le (Le.drop Le.refl) this
theorem ok_CopyX_eqX (T : TX K mg) : Fnk P w K mg base d_CopyX_eqX ps_CopyX_eqX 7 (spW (sp_CopyX_eqX K)) :=
  fnk_of (N := N_CopyX_eqX) (rd_CopyX_eqX K) T.d_CopyX_eqX sc_CopyX_eqX (len_CopyX_eqX K) (fun f cdv A outer sh H E hr => (pss_cons (ps_if (PW.pt (pw_or (pt_not (pt_val (pe_callB call_isi (by rfl) T.f_isinstance (by decide +kernel) (pa_cons (pv 1) (pa_cons (pe_glob rfl T.g_Copy rfl) pa_nil))))) (pw_or1 (pt_cmpR (op_neU hr.units) (pe_callB (call_lenO T.o_CopyX_lenX ((ok_CopyX_lenX T).fnR bp_CopyX_lenX_1) hr (by decide)) (by rfl) T.f_len (by decide +kernel) (pa_cons (pv 1) pa_nil)) (pe_callB (call_lenO T.o_CopyX_lenX ((ok_CopyX_lenX T).fnR bp_CopyX_lenX_1) hr (by decide)) (by rfl) T.f_len (by decide +kernel) (pa_cons (pv 0) pa_nil)) (nomark _))))) (pss_one (ps_ret pe_bl)) pss_nil) (pss_one (ps_ret (pe_callB (cr_all rfl) (by rfl) T.f_all (by decide +kernel) (pa_cons (pe_lc (own := [("place", 2)]) rfl sc_CopyX_eqX.nd (pi_range1 rfl T.f_range (pa_cons (pe_callB (call_lenO T.o_CopyX_lenX ((ok_CopyX_lenX T).fnR bp_CopyX_lenX_1) hr (by decide)) (by rfl) T.f_len (by decide +kernel) (pa_cons (pv 0) pa_nil)) pa_nil)) (blkOk_by (own := [("place", 2)]) (N := N_CopyX_eqX) (sc := defScope s_CopyX_eqX) (by decide +kernel)) (fun _ _ _ _ _ => (pg_name (i := 2) sc_CopyX_eqX.nd rfl (Or.inl rfl))) (fun _ _ _ _ _ => pts_nil) (fun _ _ _ _ _ => (pe_cmpR (op_own (neg := false) T.e_Question ((ok_QuestionX_eqX T).fnR bp_QuestionX_eqX_2) hr (by decide)) (pe_me (ok_Copy_question_at T) bp_Copy_question_at_2 hr (by decide) T.c_Copy T.m_Copy_question_at (pv 0) (pa_cons (pv 2) pa_nil)) (pe_me (ok_Copy_question_at T) bp_Copy_question_at_2 hr (by decide) T.c_Copy T.m_Copy_question_at (pv 1) (pa_cons (pv 2) pa_nil)) (nomark _)))) pa_nil)))))) (pure_CopyX_eqX T)
def intAt (σ : L2.St) (i : Nat) : Nat := match σ[i]? with
  | some (some (V.int y)) => y.toNat
  | _ => 0
abbrev N_shared_divisor : List Str := ["one", "other"]
abbrev ps_shared_divisor : List Str := ["one", "other"]
theorem sc_shared_divisor : FnScope N_shared_divisor ps_shared_divisor (defScope s_shared_divisor) := ⟨rfl, rfl, rfl, by decide +kernel, rfl, by decide +kernel, by decide +kernel⟩
def rd_shared_divisor (K : PySem.W.Frag) : TS := (tSeq (tWhile (tTest (tOp rGtI (tVar 1) (tC (.int (0))))) (tPar 0 1 (tCons (tVar 1) (tCons (tOp (rModI) (tVar 0) (tVar 1)) tNil)))) (tRet (tVar 0)))
def sp_shared_divisor (K : PySem.W.Frag) : SpW := fun vs B M Q E => ∃ a b : Nat, vs = [.int a, .int b] ∧ Q (.int (Nat.gcd a b)) B M
theorem len_shared_divisor (K : PySem.W.Frag) : ∀ vs B M Q E, sp_shared_divisor K vs B M Q E → vs.length = ps_shared_divisor.length := by
  intro _ _ _ _ _ h
  unfold sp_shared_divisor at h
  repeat (first | (obtain ⟨rfl, _⟩ := h; rfl) | (obtain ⟨_, h⟩ := h))
theorem pure_shared_divisor (T : TX K mg) : ∀ vs B M Q E, sp_shared_divisor K vs B M Q E → SW (rd_shared_divisor K) (DW.up ⟨fun _ B M => Q .non B M, Q, fun _ _ _ => False, fun _ _ _ => False⟩) (start N_shared_divisor vs) B M := by
  rintro _ B M Q E ⟨a, b, rfl, q⟩
  unfold rd_shared_divisor
  walk_at "q"
  refine sw_while (fun σ B' M' => ∃ x y : Nat, σ = [some (.int x), some (.int y)] ∧ Nat.gcd x y = Nat.gcd a b ∧ B' = B ∧ M' = M) (fun σ => intAt σ 1) ⟨a, b, rfl, rfl, rfl, rfl⟩ ?_
  rintro _ _ _ ⟨x, y, rfl, hg, rfl, rfl⟩
  walk_at "q"
  refine ⟨fun h => ?_, fun h => ?_⟩
  · have hy := of_decide_eq_true h
    walk_at "q"
    refine mod_int (by omega) ?_
    walk_at "q"
    refine ⟨_, _, rfl, ?_⟩
    refine .here ⟨⟨y, x % y, ?_, ?_, rfl, rfl⟩, ?_⟩
    · show [some (V.int y), some (V.int ((x : Int) % (y : Int)))] = _
      rw [Int.natCast_emod]
    · rw [← hg, Nat.gcd_comm, ← Nat.gcd_rec, Nat.gcd_comm]
    · show ((x : Int) % (y : Int)).toNat < (y : Int).toNat
      have := Int.emod_lt_of_pos (x : Int) hy
      omega
  · have hy : y = 0 := by have := of_decide_eq_false h; omega
    subst hy
    rw [Nat.gcd_zero_right] at hg
    walk_at "q"
    subst hg
    exact .le Le.refl q
theorem ok_shared_divisor (T : TX K mg) : Fnk P w K mg base d_shared_divisor ps_shared_divisor 1 (spW (sp_shared_divisor K)) :=
  fnk_of (N := N_shared_divisor) (rd_shared_divisor K) T.d_shared_divisor sc_shared_divisor (len_shared_divisor K) (fun f cdv A outer sh H E hr => (pss_cons (ps_while PassesOwn.never (pt_cmpR op_gtU (pv 1) pe_int (nomark _)) (pss_one (ps_par rfl sc_shared_divisor.nd (i := 0) (j := 1) rfl rfl (by decide) rfl rfl (pa_cons (pv 1) (pa_cons (pe_op op_modU (pv 0) (pv 1)) pa_nil)) rfl))) (pss_one (ps_ret (pv 0))))) (pure_shared_divisor T)
def stepN (m p : Nat) : Nat := m / Nat.gcd m p
def lenN (qs : List Qn) (i : Nat) : Nat := (qs.getD i q0.2).ans.length
def rlN (qs : List Qn) : Nat → Nat
  | 0 => qs.length
  | i + 1 => Nat.lcm (rlN qs i) (stepN (lenN qs i) (i + 1))
theorem rlN_dvd {qs : List Qn} (h : 1 ≤ qs.length) (hq : ∀ q ∈ qs, QOk q) : ∀ i, i ≤ qs.length → 0 < rlN qs i ∧ rlN qs i ∣ 60 * qs.length
  | 0, _ => ⟨h, ⟨60, Nat.mul_comm _ _⟩⟩
  | i + 1, hi => by
    obtain ⟨h1, h2⟩ := rlN_dvd h hq i (by omega)
    have hq' : QOk (qs.getD i q0.2) := by
      rw [List.getD_eq_getElem?_getD, List.getElem?_eq_getElem (by omega : i < qs.length)]
      exact hq _ (List.getElem_mem _)
    have m2 := hq'.an.lo
    have m6 := hq'.an.hi
    have hs : stepN (lenN qs i) (i + 1) ∣ lenN qs i := Nat.div_dvd_of_dvd (Nat.gcd_dvd_left _ _)
    have hm : lenN qs i ∣ 60 := by
      unfold lenN
      generalize (qs.getD i q0.2).ans.length = m at m2 m6
      have : m = 2 ∨ m = 3 ∨ m = 4 ∨ m = 5 ∨ m = 6 := by omega
      rcases this with rfl | rfl | rfl | rfl | rfl <;> decide
    have h60 : stepN (lenN qs i) (i + 1) ∣ 60 * qs.length := Nat.dvd_trans (Nat.dvd_trans hs hm) ⟨qs.length, rfl⟩
    have hp : 0 < stepN (lenN qs i) (i + 1) := Nat.pos_of_dvd_of_pos (Nat.dvd_trans hs hm) (by decide)
    exact ⟨Nat.lcm_pos h1 hp, Nat.lcm_dvd h2 h60⟩
abbrev N_round_length : List Str := ["copy", "found", "place", "question", "step"]
abbrev ps_round_length : List Str := ["copy"]
theorem sc_round_length : FnScope N_round_length ps_round_length (defScope s_round_length) := ⟨rfl, rfl, rfl, by decide +kernel, rfl, by decide +kernel, by decide +kernel⟩
theorem bp_need_copy_1 {K : PySem.W.Frag} : BindP K d_need_copy ps_need_copy [] := bindP_n rfl rfl fun _ _ _ _ _ _ us hl => match us, hl with | [_], _ => rfl
theorem bp_shared_divisor_2 {K : PySem.W.Frag} : BindP K d_shared_divisor ps_shared_divisor [] := bindP_n rfl rfl fun _ _ _ _ _ _ us hl => match us, hl with | [_, _], _ => rfl
def rd_round_length (K : PySem.W.Frag) : TS := (tSeq (tDrop (tCall (spW (sp_need_copy K)) [] E0 (tCons (tVar 0) tNil))) (tSeq (tAsg (tCB (rLenO (He.ga K "Copy") (spW (sp_CopyX_lenX K))) (tCons (tVar 0) tNil)) (gName 1)) (tSeq (tFor (iEnumS K (tCons (tFld K (tVar 0) "laid_out") tNil) (tCons (tC (.int (1))) tNil)) (gTup K 2 (gCons (gName 2) (gCons (gName 3) gNil))) (tSeq (tAsg (tOp (rDivI) (tCB (rLenO (He.ga K "Question") (spW (sp_QuestionX_lenX K))) (tCons (tVar 3) tNil)) (tCall (spW (sp_shared_divisor K)) [] E0 (tCons (tCB (rLenO (He.ga K "Question") (spW (sp_QuestionX_lenX K))) (tCons (tVar 3) tNil)) (tCons (tVar 2) tNil)))) (gName 4)) (tAug 1 (tOp (rDivI) (tVar 4) (tCall (spW (sp_shared_divisor K)) [] E0 (tCons (tVar 1) (tCons (tVar 4) tNil)))) rMulIp))) (tRet (tVar 1)))))
def sp_round_length (K : PySem.W.Frag) : SpW := fun vs B M Q E => ∃ y rs n, vs = [.ref y] ∧ CopyAt K B y rs n ∧ RsOk rs ∧ Q (.int (rlN (qsL rs) rs.length)) B M
theorem len_round_length (K : PySem.W.Frag) : ∀ vs B M Q E, sp_round_length K vs B M Q E → vs.length = ps_round_length.length := by
  intro _ _ _ _ _ h
  unfold sp_round_length at h
  repeat (first | (obtain ⟨rfl, _⟩ := h; rfl) | (obtain ⟨_, h⟩ := h))
theorem pure_round_length (T : TX K mg) : ∀ vs B M Q E, sp_round_length K vs B M Q E → SW (rd_round_length K) (DW.up ⟨fun _ B M => Q .non B M, Q, fun _ _ _ => False, fun _ _ _ => False⟩) (start N_round_length vs) B M := by
  rintro _ B M Q E ⟨y, rs, n, rfl, hc, ok, q⟩
  obtain ⟨dx, l, hy, hrs⟩ := id hc
  have lo := ok.lo
  have hi := ok.hi
  unfold rd_round_length
  walk_at "q"
  refine cw_of ⟨y, rs, n, rfl, hc, ?_⟩
  walk_at "q"
  refine len_o (.inl hy) (cw_of ⟨y, rs, n, rfl, hc, _, rfl, by omega, by omega, ?_⟩)
  walk_at "q"
  refine sw_for (iw_enumS ?_)
  walk_at "q"
  refine ew_fldE T.c_Copy T.n_Copy_laid_out ?_
  walk_at "q"
  refine ⟨_, _, _, rfl, .inl hy, _, rfl, ?_⟩
  walk_at "q"
  have qok : ∀ q ∈ qsL rs, QOk q := fun q hq => by
    obtain ⟨r, hr, rfl⟩ := List.mem_map.mp hq
    exact ok.qs r hr
  have rl := rlN_dvd (qs := qsL rs) (by rw [qsL_len]; exact lo) qok
  refine ⟨l, rs.map (fun r => V.ref r.1), false, 1, rfl, rfl, by decide, by decide, SqXW.l (.per hrs.1), _, _, _, fun i σ B' M' => (∃ v2 v3 v4, σ = [some (.ref y), some (.int (rlN (qsL rs) i)), v2, v3, v4]) ∧ B' = B ∧ M' = M, runs_enumC (xs := rs.map fun r => V.ref r.1), ⟨⟨_, _, _, by show _ = [some (V.ref y), some (V.int (((qsL rs).length : Nat) : Int)), _, _, _]; rw [qsL_len]; rfl⟩, rfl, rfl⟩, ?_, ?_, ?_⟩
  · rintro i σ _ _ ⟨_, rfl, rfl⟩
    exact SqXW.l (.per hrs.1)
  · rintro i v _ _ _ _ _ hi' ⟨⟨v2, v3, v4, rfl⟩, rfl, rfl⟩ ⟨Tt, _, z, rfl, rfl, hz, rfl, rfl⟩
    rw [List.length_map] at hi'
    rw [List.getElem?_map, Option.map_eq_some_iff] at hz
    obtain ⟨r, hr, rfl⟩ := hz
    have hrm := List.mem_of_getElem? hr
    obtain ⟨dq, bq, hqa, hqb⟩ := hrs.2 r hrm
    have rok := ok.qs r hrm
    have al := rok.an.lo
    have ah := rok.an.hi
    have hlen : lenN (qsL rs) i = r.2.ans.length := by
      unfold lenN qsL
      rw [List.getD_eq_getElem?_getD, List.getElem?_map, hr] <;> rfl
    obtain ⟨f0, f1⟩ := rl i (by rw [qsL_len]; omega)
    have f2 : rlN (qsL rs) i ≤ 60 * 40 := Nat.le_trans (Nat.le_of_dvd (by rw [qsL_len]; omega) f1) (by rw [qsL_len]; omega)
    have g0 : 0 < Nat.gcd r.2.ans.length (i + 1) := Nat.gcd_pos_of_pos_left _ (by omega)
    have g1 : Nat.gcd r.2.ans.length (i + 1) ≤ r.2.ans.length := Nat.gcd_le_left _ (by omega)
    have s0 : stepN r.2.ans.length (i + 1) ≤ r.2.ans.length := Nat.div_le_self _ _
    have h0 : 0 < Nat.gcd (rlN (qsL rs) i) (stepN r.2.ans.length (i + 1)) := Nat.gcd_pos_of_pos_left _ f0
    have h1 : Nat.gcd (rlN (qsL rs) i) (stepN r.2.ans.length (i + 1)) ≤ rlN (qsL rs) i := Nat.gcd_le_left _ f0
    refine gw_tup (.of .here) rfl ?_
    walk_at "q"
    refine len_o (.inl hqa) (cw_of ⟨r.1, r.2, rfl, hrs.2 r hrm, _, rfl, by omega, by omega, ?_⟩)
    walk_at "q"
    refine len_o (.inl hqa) (cw_of ⟨r.1, r.2, rfl, hrs.2 r hrm, _, rfl, by omega, by omega, ?_⟩)
    walk_at "q"
    refine cw_of ⟨r.2.ans.length, i + 1, by rw [show (1 : Int) + (i : Int) = ((i + 1 : Nat) : Int) by omega]; rfl, ?_⟩
    refine div_int (small_div (by omega) (by omega)) ?_
    rw [show ((r.2.ans.length : Nat) : Int) / ((Nat.gcd r.2.ans.length (i + 1) : Nat) : Int) = ((stepN r.2.ans.length (i + 1) : Nat) : Int) by unfold stepN; simp]
    walk_at "q"
    refine sw_aug rfl ?_
    walk_at "q"
    refine cw_of ⟨rlN (qsL rs) i, stepN r.2.ans.length (i + 1), rfl, ?_⟩
    refine div_int (small_div (by omega) (by omega)) ?_
    rw [show ((stepN r.2.ans.length (i + 1) : Nat) : Int) / ((Nat.gcd (rlN (qsL rs) i) (stepN r.2.ans.length (i + 1)) : Nat) : Int) = ((stepN r.2.ans.length (i + 1) / Nat.gcd (rlN (qsL rs) i) (stepN r.2.ans.length (i + 1)) : Nat) : Int) by simp]
    have d1 : stepN r.2.ans.length (i + 1) / Nat.gcd (rlN (qsL rs) i) (stepN r.2.ans.length (i + 1)) ≤ stepN r.2.ans.length (i + 1) := Nat.div_le_self _ _
    have e : rlN (qsL rs) i * (stepN r.2.ans.length (i + 1) / Nat.gcd (rlN (qsL rs) i) (stepN r.2.ans.length (i + 1))) = rlN (qsL rs) (i + 1) := by
      show _ = Nat.lcm (rlN (qsL rs) i) (stepN (lenN (qsL rs) i) (i + 1))
      rw [hlen]
      exact (Nat.mul_div_assoc _ (Nat.gcd_dvd_right _ _)).symm
    generalize stepN r.2.ans.length (i + 1) / Nat.gcd (rlN (qsL rs) i) (stepN r.2.ans.length (i + 1)) = k at d1 e ⊢
    refine ipmul_ (small_mul (by omega) (by omega) (by omega) (by omega)) ?_
    rw [← Int.natCast_mul]
    rw [e]
    exact .le (Le.drop Le.refl) ⟨⟨_, _, _, rfl⟩, rfl, rfl⟩
  · rintro σ _ _ ⟨⟨v2, v3, v4, rfl⟩, rfl, rfl⟩
    rw [List.length_map]
    walk_at "q"
    exact .le Le.refl q
theorem ok_round_length (T : TX K mg) : Fnk P w K mg base d_round_length ps_round_length 4 (spW (sp_round_length K)) :=
  fnk_of (N := N_round_length) (rd_round_length K) T.d_round_length sc_round_length (len_round_length K) (fun f cdv A outer sh H E hr => (pss_cons (ps_expr (pe_fn (ok_need_copy T) bp_need_copy_1 hr (by decide) rfl T.g_need_copy (pa_cons (pv 0) pa_nil))) (pss_cons (ps_set (i := 1) sc_round_length.nd rfl (Or.inl rfl) (pe_callB (call_lenO T.o_CopyX_lenX ((ok_CopyX_lenX T).fnR bp_CopyX_lenX_1) hr (by decide)) (by rfl) T.f_len (by decide +kernel) (pa_cons (pv 0) pa_nil))) (pss_cons (ps_for PassesOwn.never rfl (pi_enumS rfl T.f_enumerate (pa_cons (pe_fld (pv 0) rfl) pa_nil) (pk_cons pe_int pk_nil)) (pg_tup rfl (pgs_cons (pg_name (i := 2) sc_round_length.nd rfl (Or.inl rfl)) (pgs_cons (pg_name (i := 3) sc_round_length.nd rfl (Or.inl rfl)) pgs_nil))) (pss_cons (ps_set (i := 4) sc_round_length.nd rfl (Or.inl rfl) (pe_op op_divU (pe_callB (call_lenO T.o_QuestionX_lenX ((ok_QuestionX_lenX T).fnR bp_QuestionX_lenX_1) hr (by decide)) (by rfl) T.f_len (by decide +kernel) (pa_cons (pv 3) pa_nil)) (pe_fn (ok_shared_divisor T) bp_shared_divisor_2 hr (by decide) rfl T.g_shared_divisor (pa_cons (pe_callB (call_lenO T.o_QuestionX_lenX ((ok_QuestionX_lenX T).fnR bp_QuestionX_lenX_1) hr (by decide)) (by rfl) T.f_len (by decide +kernel) (pa_cons (pv 3) pa_nil)) (pa_cons (pv 2) pa_nil))))) (pss_one (ps_aug (i := 1) sc_round_length.nd rfl (Or.inl rfl) (pe_op op_divU (pv 4) (pe_fn (ok_shared_divisor T) bp_shared_divisor_2 hr (by decide) rfl T.g_shared_divisor (pa_cons (pv 1) (pa_cons (pv 4) pa_nil)))) ip_mulI)))) (pss_one (ps_ret (pv 1))))))) (pure_round_length T)
end
end Pap

set_option maxHeartbeats 4000000
/-! S12: drawing. -/
namespace Pap
open PySem PySem.Spec PyProof.Rows L2 PT
local macro_rules | `(tactic| walk_at "q1") => `(tactic| first
  | with_reducible refine sw_seq ?_
  | with_reducible refine sw_ret ?_
  | with_reducible refine sw_if ?_
  | with_reducible refine sw_next ?_
  | with_reducible refine sw_drop ?_
  | with_reducible refine sw_retN ?_
  | with_reducible refine sw_set ?_
  | with_reducible refine sw_par ?_
  | with_reducible refine sw_par3 ?_
  | with_reducible refine sw_asg ?_
  | with_reducible refine gw_name ?_
  | with_reducible refine gsw_cons ?_
  | with_reducible refine gsw_nil ?_
  | with_reducible refine tw_or ?_
  | with_reducible refine tw_and ?_
  | with_reducible refine tw_not ?_
  | with_reducible refine tw_B ?_
  | with_reducible refine tw_test ?_
  | with_reducible refine tw_yes ?_
  | with_reducible refine ew_cb ?_
  | with_reducible refine ew_c ?_
  | with_reducible refine ew_op ?_
  | with_reducible refine ew_chain ?_
  | with_reducible refine ew_notV ?_
  | with_reducible refine ew_andV ?_
  | with_reducible refine ew_orV ?_
  | with_reducible refine ew_un ?_
  | with_reducible refine ew_then ?_
  | with_reducible refine ew_sl ?_
  | with_reducible refine ow_no ?_
  | with_reducible refine ow_some ?_
  | with_reducible refine ew_tup ?_
  | with_reducible refine ew_lst ?_
  | with_reducible refine ew_tupF ?_
  | with_reducible refine ew_dnew ?_
  | with_reducible refine ew_call ?_
  | with_reducible refine ew_callN ?_
  | with_reducible refine ew_make ?_
  | with_reducible refine ew_makeN ?_
  | with_reducible refine ew_meth ?_
  | with_reducible refine ew_methK ?_
  | with_reducible refine ew_tm ?_
  | with_reducible refine ew_bm ?_
  | with_reducible refine ew_bm0 ?_
  | with_reducible refine aw_nil ?_
  | with_reducible refine aw_cons ?_
  | (with_reducible refine ew_varE ?_; refine ⟨_, rfl, ?_⟩)
  | with_reducible refine le_int ?_
  | with_reducible refine lt_int ?_
  | with_reducible refine ge_int ?_
  | with_reducible refine gt_int ?_
  | with_reducible refine eq_int ?_
  | with_reducible refine ne_int ?_
  | with_reducible refine eq_str ?_
  | with_reducible refine ne_str ?_
  | with_reducible refine add_int ?_
  | with_reducible refine sub_int ?_
  | with_reducible refine is_n ?_
  | with_reducible refine isn_n ?_
  | with_reducible refine isi_ii ?_
  | with_reducible refine isi_ib ?_
  | with_reducible refine isi_ss ?_
  | (with_reducible refine ⟨rfl, rfl, ?_⟩)
  | with_reducible refine up_rt ?_
  | with_reducible refine up_nx ?_
  | with_reducible refine tt_ ?_
  | with_reducible refine ff_ ?_
  | with_reducible refine ⟨_, rfl, ?_⟩
  | rw [Bool.not_true]
  | rw [Bool.not_false]
  | (show _ ∧ _; with_reducible refine tt_ ?_)
  | (show _ ∧ _; with_reducible refine ff_ ?_)
  | fail "q1: no step")
local macro_rules | `(tactic| walk_at "q") => `(tactic| repeat walk_at "q1")
local macro_rules | `(tactic| walk_at "le") => `(tactic| repeat (first | with_reducible exact Le.refl | with_reducible refine Le.drop ?_ | with_reducible refine Le.app ?_))
local macro_rules | `(tactic| walk_at "nq") => `(tactic| first | exact TX.n_Question_name (by assumption) | exact TX.n_Question_matter (by assumption) | exact TX.n_Question_answers (by assumption) | exact TX.n_Question_right (by assumption) | exact TX.n_Question_toil (by assumption) | exact TX.n_Question_marks (by assumption) | exact TX.n_Question_kin (by assumption))
local macro_rules | `(tactic| walk_at "fl") => `(tactic| refine ⟨_, _, _, rfl, .inl (by assumption), _, rfl, ?_⟩)
local macro_rules | `(tactic| walk_at "fq") => `(tactic| (walk_at "q"; (with_reducible refine ew_fldE (TX.c_Question (by assumption)) (by walk_at "nq") ?_); walk_at "q"; walk_at "fl"; walk_at "q"))

section
variable {K : PySem.W.Frag} {σ : L2.St} {B B' : Hp} {M M' R : MM} {Q : KW}
def PrW (trs : List (TE × TE)) (σ : L2.St) (B : Hp) (M : MM) (Q : List (V × V) → Hp → MM → Prop) : Prop :=
  ∀ Q' : List (V × V) → Hp → Prop, (∀ v B' M' H', Wd B' M' H' → Q v B' M' → Q' v H') → ∀ H, Wd B M H → tPairs trs σ H Q'
theorem prw_nil {Q : List (V × V) → Hp → MM → Prop} (q : Q [] B M) : PrW [] σ B M Q := fun Q' k H W => k _ _ _ _ W q
theorem prw_cons {tk tv : TE} {r : List (TE × TE)} {Q : List (V × V) → Hp → MM → Prop} (h : EW tk σ B M fun x B1 M1 => EW tv σ B1 M1 fun y B2 M2 => PrW r σ B2 M2 fun ps => Q ((x, y) :: ps)) : PrW ((tk, tv) :: r) σ B M Q := fun Q' k H W =>
  h _ (fun x B1 M1 H1 W1 h1 => h1 _ (fun y B2 M2 H2 W2 h2 => h2 _ (fun ps B3 M3 H3 W3 q => k _ _ _ _ W3 q) H2 W2) H1 W1) H W
theorem ew_disp {trs : List (TE × TE)} (h : ∀ p, PrW trs σ B ((p, .dK []) :: M) fun ps B1 M1 => ∃ kvs R F, Sel M1 [(p, .dK [])] R F ∧ ps = kvs.map (fun kv : Key × V => (kV kv.1, kv.2)) ∧ kvs.length ≤ 15 ∧ Q (.ref p) B1 (F [(p, .dK (mergeK [] kvs))])) : EW (tDisp trs) σ B M Q := fun Q' k H W p hp => by
  refine h p _ (fun ps B1 M1 H1 W1 h1 => ?_) _ (W.new hp)
  obtain ⟨kvs, R, F, s, e, hl, q⟩ := h1
  have W2 : Wd B1 ((p, .dK []) :: R) H1 := W1.perm s.perm.1
  exact ⟨W2.hd, kvs, e, hl, k _ _ _ _ (W2.write.perm (s.perm.2 [(p, .dK (mergeK [] kvs))]).symm) q⟩
theorem cw_mid {sp : Sp} {E : XK} {vs : List V} {c : MM} {d : Addr × HO} (h : CW sp E vs B (c ++ (d :: R)) Q) : CW sp E vs B (d :: (c ++ R)) Q := cw_le (Le.perm (List.perm_middle.symm)) h
/-- the numbers that are drawn from; the drawing -/
def Scr (K : PySem.W.Frag) (B : Hp) (s : Addr) (ns : List Int) : Prop := LstW K B [] s (ns.map V.int) ∧ ns.length ≤ 64
theorem Scr.ex {s : Addr} {ns : List Int} (h : Scr K B s ns) (e : Ex B B') : Scr K B' s ns := ⟨h.1.ex e, h.2⟩
def drD (s l : Addr) (k : Int) : List (Key × V) := [(Sum.inr "script", .ref s), (Sum.inr "at", .int k), (Sum.inr "left", .ref l)]
def Dr (K : PySem.W.Frag) (B : Hp) (c : MM) (m : Addr) (N : Nat) : Prop := ∃ (ns : List Int) (s l : Addr) (k : Nat) (left : List Int), Scr K B s ns ∧ c = [(m, .dK (drD s l (k : Int))), (l, .lst (left.map V.int))] ∧ k ≤ N ∧ left.length = ns.length ∧ ∀ x ∈ left, 0 ≤ x
theorem Dr.ex {c : MM} {m : Addr} {N : Nat} (h : Dr K B c m N) (e : Ex B B') : Dr K B' c m N := let ⟨ns, s, l, k, left, h1, h2⟩ := h; ⟨ns, s, l, k, left, h1.ex e, h2⟩
theorem Dr.up {c : MM} {m : Addr} {N N' : Nat} (h : Dr K B c m N) (e : N ≤ N') : Dr K B c m N' := let ⟨ns, s, l, k, left, h1, h2, h3, h4⟩ := h; ⟨ns, s, l, k, left, h1, h2, Nat.le_trans h3 e, h4⟩
theorem ew_same {te : TE} {v : V} (h : EW te σ B M fun x B1 M1 => x = v ∧ B1 = B ∧ M1 = M) (q : Q v B M) : EW te σ B M Q := ew_eq h q
theorem dpInts {H : Hp} : ∀ zs : List Int, DpAll K H (zs.map V.int) (zs.map PyData.int)
  | [] => .nil
  | z :: zs => .cons (.int z) (dpInts zs)
theorem ints_lay : ∀ zs : List Int, PyData.canLayAll0 (zs.map PyData.int) = true
  | [] => by simp [PyData.canLayAll0]
  | z :: zs => by simp [PyData.canLayAll0, PyData.canLay0, ints_lay zs]
theorem ints_depth : ∀ zs : List Int, PyData.depthAll (zs.map PyData.int) = 0
  | [] => by simp [PyData.depthAll]
  | z :: zs => by simp [PyData.depthAll, PyData.depth, ints_depth zs]
theorem ints_shaped (zs : List Int) : SeqAt.shaped (.list (zs.map PyData.int)) = true := by
  unfold SeqAt.shaped
  simp only [PyData.canLay0, PyData.depth, ints_lay, ints_depth] <;> rfl
theorem ints_nil (zs : List Int) : PyData.eqv (.list (zs.map PyData.int)) (.list []) = zs.isEmpty := by
  cases zs <;> simp [PyData.eqv, PyData.eqvAll]
theorem dpIntL {M : MM} {a : Addr} {zs : List Int} (h : LstW K B M a (zs.map V.int)) : DpW K B M (.ref a) (.list (zs.map PyData.int)) := fun H W => .lst (h H W) (dpInts zs)
end
section
variable {P : Program} {w : World} {K : PySem.W.Frag} {mg : Str → Option Value} {base : Heap}
abbrev N_law_begun : List Str := ["_law_script", "_law_cell"]
abbrev ps_law_begun : List Str := ["_law_script"]
theorem sc_law_begun : FnScope N_law_begun ps_law_begun (defScope s_law_begun) := ⟨rfl, rfl, rfl, by decide +kernel, rfl, by decide +kernel, by decide +kernel⟩
def rd_law_begun (K : PySem.W.Frag) : TS := (tRet (tDisp (((tC (.str "script")), (tVar 0)) :: (((tC (.str "at")), (tC (.int (0)))) :: (((tC (.str "left")), (tLc (iAny K (tVar 0)) (gName 1) tYes (tIf (tTest (tOp rGeI (tVar 1) (tOp (rPowI) (tC (.int (10))) (tC (.int (18)))))) (tVar 1) (tC (.int (0)))) [1])) :: [])))))
def sp_law_begun (K : PySem.W.Frag) : SpW := fun vs B M Q E => ∃ s ns, vs = [.ref s] ∧ Scr K B s ns ∧ ∀ m c, Dr K B c m 0 → Q (.ref m) B (c ++ M)
theorem len_law_begun (K : PySem.W.Frag) : ∀ vs B M Q E, sp_law_begun K vs B M Q E → vs.length = ps_law_begun.length := by
  intro _ _ _ _ _ h
  unfold sp_law_begun at h
  repeat (first | (obtain ⟨rfl, _⟩ := h; rfl) | (obtain ⟨_, h⟩ := h))
theorem pure_law_begun (T : TX K mg) : ∀ vs B M Q E, sp_law_begun K vs B M Q E → SW (rd_law_begun K) (DW.up ⟨fun _ B M => Q .non B M, Q, fun _ _ _ => False, fun _ _ _ => False⟩) (start N_law_begun vs) B M := by
  rintro _ B M Q E ⟨s, ns, rfl, hs, q⟩
  unfold rd_law_begun
  walk_at "q"
  refine ew_disp fun m => ?_
  refine prw_cons ?_
  walk_at "q"
  refine prw_cons ?_
  walk_at "q"
  refine prw_cons ?_
  walk_at "q"
  refine lc_seq ?_
  walk_at "q"
  refine ⟨s, ns.map V.int, fun i => .int (if ns.getD i 0 ≥ 10 ^ 18 then ns.getD i 0 else 0), rfl, .inl (LstW.all hs.1), by rw [List.length_map]; exact le_line hs.2, fun D acc i x hx => ?_, fun D => ?_⟩
  · rw [List.getElem?_map, Option.map_eq_some_iff] at hx
    obtain ⟨z, hz, rfl⟩ := hx
    have e : ns.getD i 0 = z := by rw [List.getD_eq_getElem?_getD, hz] <;> rfl
    refine ew_if ?_
    walk_at "q"
    refine pow_int ⟨by decide, by decide, by decide⟩ ?_
    walk_at "q"
    refine ⟨fun h => ?_, fun h => ?_⟩
    · walk_at "q"
      exact ⟨by show V.int z = V.int (if ns.getD i 0 ≥ 10 ^ 18 then ns.getD i 0 else 0); rw [e, if_pos (show z ≥ 10 ^ 18 from of_decide_eq_true h)], Le.refl⟩
    · walk_at "q"
      exact ⟨by show V.int 0 = V.int (if ns.getD i 0 ≥ 10 ^ 18 then ns.getD i 0 else 0); rw [e, if_neg (show ¬ z ≥ 10 ^ 18 from of_decide_eq_false h)], Le.refl⟩
  · refine prw_nil ⟨[(Sum.inr "script", .ref s), (Sum.inr "at", .int 0), (Sum.inr "left", .ref D)], _, _, Sel.tl _ (Sel.one _ _ _), rfl, by simp, ?_⟩
    have e : ((List.range (ns.map V.int).length).map fun i => V.int (if ns.getD i 0 ≥ 10 ^ 18 then ns.getD i 0 else 0)) = (ns.map fun z => if z ≥ 10 ^ 18 then z else 0).map V.int := by
      rw [List.length_map, List.map_map]
      exact map_range_get _ _ ns fun i z hz => by rw [List.getD_eq_getElem?_getD, hz] <;> rfl
    rw [e]
    refine .le (Le.perm (List.Perm.swap ..)) (q m [(m, .dK (drD s D (0 : Nat))), (D, .lst ((ns.map fun z => if z ≥ 10 ^ 18 then z else 0).map V.int))] ⟨ns, s, D, 0, _, hs, rfl, Nat.le_refl _, List.length_map _, fun x hx => ?_⟩)
    obtain ⟨z, _, rfl⟩ := List.mem_map.mp hx
    split <;> omega
theorem ok_law_begun (T : TX K mg) : Fnk P w K mg base d_law_begun ps_law_begun 1 (spW (sp_law_begun K)) :=
  fnk_of (N := N_law_begun) (rd_law_begun K) T.d_law_begun sc_law_begun (len_law_begun K) (fun f cdv A outer sh H E hr => (pss_one (ps_ret (pe_disp (pps_cons pe_str (pv 0) (pps_cons pe_str pe_int (pps_cons pe_str (pe_lc (own := [("_law_cell", 1)]) rfl sc_law_begun.nd (pi_any (pv 0)) (blkOk_by (own := [("_law_cell", 1)]) (N := N_law_begun) (sc := defScope s_law_begun) (by decide +kernel)) (fun _ _ _ _ _ => (pg_name (i := 1) sc_law_begun.nd rfl (Or.inl rfl))) (fun _ _ _ _ _ => pts_nil) (fun _ _ _ _ _ => (pe_ifExp (pt_cmpR op_geU (pv 1) (pe_op op_powU pe_int pe_int) (nomark _)) (pv 1) pe_int))) pps_nil))) (by rfl) (by rfl) (fun z => by cases z) (by decide))))) (pure_law_begun T)
abbrev N_law_draw : List Str := ["_law_m", "_law_count", "_law_k", "_law_at", "_law_cell", "_law_nth"]
abbrev ps_law_draw : List Str := ["_law_m", "_law_count"]
theorem sc_law_draw : FnScope N_law_draw ps_law_draw (defScope s_law_draw) := ⟨rfl, rfl, rfl, by decide +kernel, rfl, by decide +kernel, by decide +kernel⟩
def rd_law_draw (K : PySem.W.Frag) : TS := (tSeq (tAsg (tDGet (tVar 0) (tC (.str "at"))) (gName 2)) (tSeq (sDPut (tVar 0) (tC (.str "at")) (tOp (rAddU K) (tVar 2) (tC (.int (1))))) (tSeq (tAsg (tOp (rModI) (tVar 2) (tCB rMax2 (tCons (tC (.int (1))) (tCons (tCB (rLenU K) (tCons (tDGet (tVar 0) (tC (.str "script"))) tNil)) tNil)))) (gName 3)) (tSeq (tIfS (tAnd (tTest (tOp (rNeU K) (tDGet (tVar 0) (tC (.str "left"))) (tLst tNil))) (tTest (tOp rGtI (tOp (rIx K) (tDGet (tVar 0) (tC (.str "left"))) (tVar 3)) (tC (.int (0)))))) (tSeq (tAsg (tOp (rIx K) (tDGet (tVar 0) (tC (.str "left"))) (tVar 3)) (gName 4)) (tSeq (tAsg (tOp (rDivI) (tVar 4) (tVar 1)) (gSub (tDGet (tVar 0) (tC (.str "left"))) (tVar 3) rSetL)) (tRet (tOp (rModI) (tVar 4) (tVar 1))))) tNext) (tSeq (tAsg (tIf (tTest (tOp (rNeU K) (tDGet (tVar 0) (tC (.str "script"))) (tLst tNil))) (tOp (rModI) (tOp (rIx K) (tDGet (tVar 0) (tC (.str "script"))) (tVar 3)) (tC (.int (1000000007)))) (tC (.int (0)))) (gName 4)) (tSeq (tAsg (tOp (rModI) (tOp (rAddU K) (tOp (rAddU K) (tOp (rAddU K) (tOp (rMulU) (tVar 4) (tC (.int (48271)))) (tOp (rMulU) (tOp (rMulU) (tC (.int (7919))) (tVar 2)) (tVar 2))) (tOp (rMulU) (tC (.int (31))) (tVar 2))) (tC (.int (17)))) (tC (.int (2147483647)))) (gName 5)) (tSeq (tAsg (tOp (rModI) (tOp (rAddU K) (tOp (rAddU K) (tOp (rMulU) (tVar 5) (tC (.int (69619)))) (tOp (rMulU) (tC (.int (104729))) (tVar 2))) (tC (.int (5)))) (tC (.int (2147483629)))) (gName 5)) (tRet (tOp (rModI) (tOp (rDivI) (tOp (rModI) (tOp (rMulU) (tVar 5) (tVar 5)) (tC (.int (1000000007)))) (tC (.int (11)))) (tVar 1))))))))))
def sp_law_draw (K : PySem.W.Frag) : SpW := fun vs B M Q E => ∃ m c R N n, vs = [.ref m, .int n] ∧ M = c ++ R ∧ Dr K B c m N ∧ N ≤ 1000000000 ∧ 0 < n ∧ n ≤ 1000000 ∧ ∀ r c', 0 ≤ r → r < n → Dr K B c' m (N + 1) → Q (.int r) B (c' ++ R)
theorem len_law_draw (K : PySem.W.Frag) : ∀ vs B M Q E, sp_law_draw K vs B M Q E → vs.length = ps_law_draw.length := by
  intro _ _ _ _ _ h
  unfold sp_law_draw at h
  repeat (first | (obtain ⟨rfl, _⟩ := h; rfl) | (obtain ⟨_, h⟩ := h))
theorem pure_law_draw (T : TX K mg) : ∀ vs B M Q E, sp_law_draw K vs B M Q E → SW (rd_law_draw K) (DW.up ⟨fun _ B M => Q .non B M, Q, fun _ _ _ => False, fun _ _ _ => False⟩) (start N_law_draw vs) B M := by
  rintro _ B _ Q E ⟨m, _, R, N, n, rfl, rfl, ⟨ns, s, l, k, left, hs, rfl, hk, hl, h0⟩, hN, n0, n1, q⟩
  unfold rd_law_draw
  walk_at "q"
  refine ew_dget ?_
  walk_at "q"
  refine ⟨m, _, Sum.inr "at", _, rfl, .here, rfl, rfl, ?_⟩
  walk_at "q"
  refine sw_dput ?_
  walk_at "q"
  refine ⟨m, _, Sum.inr "at", _, _, rfl, Sel.one _ _ _, rfl, by simp [drD, sizeLine_eq], ?_⟩
  have ep : putK (drD s l (k : Int)) (Sum.inr "at") (.int ((k : Int) + 1)) = drD s l ((k + 1 : Nat) : Int) := rfl
  rw [ep]
  simp only [List.cons_append, List.nil_append]
  walk_at "q"
  have len0 : (ns.map V.int).length = ns.length := List.length_map _
  have hlen : ns.length ≤ 64 := hs.2
  refine ew_dget ?_
  walk_at "q"
  refine ⟨m, _, Sum.inr "script", _, rfl, .here, rfl, rfl, ?_⟩
  walk_at "q"
  refine len_l (LstW.all hs.1) ?_
  rw [len0]
  walk_at "q"
  refine max2_ ?_
  have hx : ∀ z : Int, z = (if ((ns.length : Nat) : Int) > 1 then ((ns.length : Nat) : Int) else 1) → 0 < z ∧ z ≤ 64 ∧ (ns ≠ [] → z = ns.length) := by
    intro z hz
    split at hz
    · exact ⟨by omega, by omega, fun _ => hz⟩
    · refine ⟨by omega, by omega, fun h => ?_⟩
      have : 0 < ns.length := List.length_pos_iff.mpr h
      omega
  obtain ⟨z, hz⟩ : ∃ z : Int, z = (if ((ns.length : Nat) : Int) > 1 then ((ns.length : Nat) : Int) else 1) := ⟨_, rfl⟩
  rw [← hz]
  obtain ⟨z0, z1, z2⟩ := hx z hz
  refine mod_int z0 ?_
  have a0 : 0 ≤ (k : Int) % z := Int.emod_nonneg _ (by omega)
  have a1 : (k : Int) % z < z := Int.emod_lt_of_pos _ z0
  generalize (k : Int) % z = at_ at a0 a1 ⊢
  walk_at "q"
  refine ew_dget ?_
  walk_at "q"
  refine ⟨m, _, Sum.inr "left", _, rfl, .here, rfl, rfl, ?_⟩
  walk_at "q"
  refine ⟨le_line (Nat.zero_le 0), fun p1 => ?_⟩
  refine ne_dat (d := .list (left.map PyData.int)) (e := .list []) (dpIntL (.of (.tail (.tail .here)))) (fun H W => .lst (LstW.of .here H W) .nil) (ints_shaped left) (ints_shaped []) ?_
  rw [ints_nil]
  have done2 : SW (tSeq (tAsg (tIf (tTest (tOp (rNeU K) (tDGet (tVar 0) (tC (.str "script"))) (tLst tNil))) (tOp rModI (tOp (rIx K) (tDGet (tVar 0) (tC (.str "script"))) (tVar 3)) (tC (.int 1000000007))) (tC (.int 0))) (gName 4)) (tSeq (tAsg (tOp rModI (tOp (rAddU K) (tOp (rAddU K) (tOp (rAddU K) (tOp rMulU (tVar 4) (tC (.int 48271))) (tOp rMulU (tOp rMulU (tC (.int 7919)) (tVar 2)) (tVar 2))) (tOp rMulU (tC (.int 31)) (tVar 2))) (tC (.int 17))) (tC (.int 2147483647))) (gName 5)) (tSeq (tAsg (tOp rModI (tOp (rAddU K) (tOp (rAddU K) (tOp rMulU (tVar 5) (tC (.int 69619))) (tOp rMulU (tC (.int 104729)) (tVar 2))) (tC (.int 5))) (tC (.int 2147483629))) (gName 5)) (tRet (tOp rModI (tOp rDivI (tOp rModI (tOp rMulU (tVar 5) (tVar 5)) (tC (.int 1000000007))) (tC (.int 11))) (tVar 1))))))
      (DW.up ⟨fun _ B M => Q .non B M, Q, fun _ _ _ => False, fun _ _ _ => False⟩) [some (.ref m), some (.int n), some (.int k), some (.int at_), none, none] B ((m, .dK (drD s l ((k + 1 : Nat) : Int))) :: (l, .lst (left.map V.int)) :: R) := by
    have fin : ∀ cell : Int, 0 ≤ cell → cell < 1000000007 → SW (tSeq (tAsg (tOp rModI (tOp (rAddU K) (tOp (rAddU K) (tOp (rAddU K) (tOp rMulU (tVar 4) (tC (.int 48271))) (tOp rMulU (tOp rMulU (tC (.int 7919)) (tVar 2)) (tVar 2))) (tOp rMulU (tC (.int 31)) (tVar 2))) (tC (.int 17))) (tC (.int 2147483647))) (gName 5)) (tSeq (tAsg (tOp rModI (tOp (rAddU K) (tOp (rAddU K) (tOp rMulU (tVar 5) (tC (.int 69619))) (tOp rMulU (tC (.int 104729)) (tVar 2))) (tC (.int 5))) (tC (.int 2147483629))) (gName 5)) (tRet (tOp rModI (tOp rDivI (tOp rModI (tOp rMulU (tVar 5) (tVar 5)) (tC (.int 1000000007))) (tC (.int 11))) (tVar 1)))))
        (DW.up ⟨fun _ B M => Q .non B M, Q, fun _ _ _ => False, fun _ _ _ => False⟩) [some (.ref m), some (.int n), some (.int k), some (.int at_), some (.int cell), none] B ((m, .dK (drD s l ((k + 1 : Nat) : Int))) :: (l, .lst (left.map V.int)) :: R) := by
      intro cell c0 c1
      have hk2 : (k : Int) ≤ 1000000000 := by omega
      walk_at "q"
      refine mul_int (small_mul (by omega) (by omega) (by omega) (by omega)) ?_
      walk_at "q"
      refine mul_int (small_mul (by omega) (by omega) (by omega) (by omega)) ?_
      walk_at "q"
      refine mul_int (small_mul (by omega) (by omega) (by omega) (by omega)) ?_
      walk_at "q"
      refine mul_int (small_mul (by omega) (by omega) (by omega) (by omega)) ?_
      walk_at "q"
      refine mod_int (by decide) ?_
      generalize he : (_ : Int) % 2147483647 = u
      have u0 : 0 ≤ u := by rw [← he]; exact Int.emod_nonneg _ (by decide)
      have u1 : u < 2147483647 := by rw [← he]; exact Int.emod_lt_of_pos _ (by decide)
      walk_at "q"
      refine mul_int (small_mul (by omega) (by omega) (by omega) (by omega)) ?_
      walk_at "q"
      refine mul_int (small_mul (by omega) (by omega) (by omega) (by omega)) ?_
      walk_at "q"
      refine mod_int (by decide) ?_
      generalize hf : (_ : Int) % 2147483629 = u'
      have v0 : 0 ≤ u' := by rw [← hf]; exact Int.emod_nonneg _ (by decide)
      have v1 : u' < 2147483629 := by rw [← hf]; exact Int.emod_lt_of_pos _ (by decide)
      walk_at "q"
      refine mul_int (small_mul (by omega) (by omega) (by omega) (by omega)) ?_
      walk_at "q"
      refine mod_int (by decide) ?_
      walk_at "q"
      refine div_int (small_div (by decide) (by decide)) ?_
      walk_at "q"
      refine mod_int n0 ?_
      exact .le Le.refl (q _ [(m, .dK (drD s l ((k + 1 : Nat) : Int))), (l, .lst (left.map V.int))] (Int.emod_nonneg _ (by omega)) (Int.emod_lt_of_pos _ n0) ⟨ns, s, l, k + 1, left, hs, rfl, by omega, hl, h0⟩)
    refine sw_seq (sw_set (ew_if ?_))
    walk_at "q"
    refine ew_dget ?_
    walk_at "q"
    refine ⟨m, _, Sum.inr "script", _, rfl, .here, rfl, rfl, ?_⟩
    walk_at "q"
    refine ⟨le_line (Nat.zero_le 0), fun p1 => ?_⟩
    refine ne_dat (d := .list (ns.map PyData.int)) (e := .list []) (dpIntL (LstW.all hs.1)) (fun H W => .lst (LstW.of .here H W) .nil) (ints_shaped ns) (ints_shaped []) ?_
    rw [ints_nil]
    refine ⟨_, rfl, fun h1 => ?_, fun h1 => ?_⟩
    · have hne : ns ≠ [] := by intro e; rw [e] at h1; simp at h1
      have zl := z2 hne
      have hi : at_.toNat < ns.length := by omega
      walk_at "q"
      refine ew_dget ?_
      walk_at "q"
      refine ⟨m, _, Sum.inr "script", _, rfl, .tail .here, rfl, rfl, ?_⟩
      walk_at "q"
      refine ix_l (v := .int ns[at_.toNat]) (LstW.all hs.1) (by rw [atI_in a0 (by rw [len0]; omega), List.getElem?_map, List.getElem?_eq_getElem hi]; rfl) ?_
      walk_at "q"
      refine mod_int (by decide) ?_
      exact sw_le (Le.drop Le.refl) (fin _ (Int.emod_nonneg _ (by decide)) (Int.emod_lt_of_pos _ (by decide)))
    · walk_at "q1"
      exact sw_le (Le.drop Le.refl) (fin 0 (by decide) (by decide))
  refine ⟨_, rfl, fun h1 => ?_, fun h1 => ⟨nofun, fun _ => sw_next (sw_le (Le.drop Le.refl) done2)⟩⟩
  have hne : ns ≠ [] := by
    intro e
    have : left = [] := List.length_eq_zero_iff.mp (by rw [hl, e]; rfl)
    rw [this] at h1
    simp at h1
  have zl := z2 hne
  have hi : at_.toNat < left.length := by omega
  have hcell : 0 ≤ left[at_.toNat] := h0 _ (List.getElem_mem hi)
  have hat : atI (left.map V.int) at_ = some (.int left[at_.toNat]) := by rw [atI_in a0 (by rw [List.length_map]; omega), List.getElem?_map, List.getElem?_eq_getElem hi]; rfl
  walk_at "q"
  refine ew_dget ?_
  walk_at "q"
  refine ⟨m, _, Sum.inr "left", _, rfl, .tail .here, rfl, rfl, ?_⟩
  walk_at "q"
  refine ix_l (.of (.tail (.tail .here))) hat ?_
  walk_at "q1"
  walk_at "q1"
  walk_at "q1"
  refine ⟨fun h2 => ?_, fun h2 => sw_next (sw_le (Le.drop Le.refl) done2)⟩
  refine sw_le (Le.drop Le.refl) ?_
  walk_at "q"
  refine ew_dget ?_
  walk_at "q"
  refine ⟨m, _, Sum.inr "left", _, rfl, .here, rfl, rfl, ?_⟩
  walk_at "q"
  refine ix_l (.of (.tail .here)) hat ?_
  walk_at "q"
  refine div_int (small_div n0 (by omega)) ?_
  refine gw_subL ?_
  refine ew_dget ?_
  walk_at "q"
  refine ⟨m, _, Sum.inr "left", _, rfl, .here, rfl, rfl, ?_⟩
  walk_at "q"
  refine ⟨l, _, _, at_.toNat, _, _, rfl, rfl, Sel.tl _ (Sel.one _ _ _), by unfold ixN; rw [if_pos a0, if_pos (by rw [List.length_map]; omega)], ?_⟩
  simp only [List.cons_append, List.nil_append]
  walk_at "q"
  refine mod_int n0 ?_
  have es : (left.map V.int).set at_.toNat (.int (left[at_.toNat] / n)) = (left.set at_.toNat (left[at_.toNat] / n)).map V.int := by rw [List.map_set]
  rw [es]
  refine .le Le.refl (q _ [(m, .dK (drD s l ((k + 1 : Nat) : Int))), (l, .lst ((left.set at_.toNat (left[at_.toNat] / n)).map V.int))] (Int.emod_nonneg _ (by omega)) (Int.emod_lt_of_pos _ n0) ⟨ns, s, l, k + 1, _, hs, rfl, by omega, by rw [List.length_set]; exact hl, fun x hx => ?_⟩)
  rcases List.mem_or_eq_of_mem_set hx with h | h
  · exact h0 x h
  · rw [h]; exact Int.ediv_nonneg hcell (by omega)
theorem ok_law_draw (T : TX K mg) : Fnk P w K mg base d_law_draw ps_law_draw 1 (spW (sp_law_draw K)) :=
  fnk_of (N := N_law_draw) (rd_law_draw K) T.d_law_draw sc_law_draw (len_law_draw K) (fun f cdv A outer sh H E hr => (pss_cons (ps_set (i := 2) sc_law_draw.nd rfl (Or.inl rfl) (pe_dget (hu_of hr) (pv 0) pe_str (fun _ _ => rfl))) (pss_cons (ps_dput (hu_of hr) (pv 0) pe_str (pe_op op_addU (pv 2) pe_int) rfl) (pss_cons (ps_set (i := 3) sc_law_draw.nd rfl (Or.inl rfl) (pe_op op_modU (pv 2) (pe_callB (call_max2 rfl) (by rfl) T.f_max (by decide +kernel) (pa_cons pe_int (pa_cons (pe_callB call_lenU (by rfl) T.f_len (by decide +kernel) (pa_cons (pe_dget (hu_of hr) (pv 0) pe_str (fun _ _ => rfl)) pa_nil)) pa_nil))))) (pss_cons (ps_if (PW.pt (pw_and (pt_cmpR (op_neU hr.units) (pe_dget (hu_of hr) (pv 0) pe_str (fun _ _ => rfl)) (pe_lst pa_nil) (nomark _)) (pw_and1 (pt_cmpR op_gtU (pe_ix ix_seq (pe_dget (hu_of hr) (pv 0) pe_str (fun _ _ => rfl)) (pv 3) (fun _ _ => rfl)) pe_int (nomark _))))) (pss_cons (ps_set (i := 4) sc_law_draw.nd rfl (Or.inl rfl) (pe_ix ix_seq (pe_dget (hu_of hr) (pv 0) pe_str (fun _ _ => rfl)) (pv 3) (fun _ _ => rfl))) (pss_cons (ps_asg (pe_op op_divU (pv 4) (pv 1)) (pg_sub (pe_dget (hu_of hr) (pv 0) pe_str (fun _ _ => rfl)) (pv 3) set_list)) (pss_one (ps_ret (pe_op op_modU (pv 4) (pv 1)))))) pss_nil) (pss_cons (ps_set (i := 4) sc_law_draw.nd rfl (Or.inl rfl) (pe_ifExp (pt_cmpR (op_neU hr.units) (pe_dget (hu_of hr) (pv 0) pe_str (fun _ _ => rfl)) (pe_lst pa_nil) (nomark _)) (pe_op op_modU (pe_ix ix_seq (pe_dget (hu_of hr) (pv 0) pe_str (fun _ _ => rfl)) (pv 3) (fun _ _ => rfl)) pe_int) pe_int)) (pss_cons (ps_set (i := 5) sc_law_draw.nd rfl (Or.inl rfl) (pe_op op_modU (pe_op op_addU (pe_op op_addU (pe_op op_addU (pe_op op_mulU (pv 4) pe_int) (pe_op op_mulU (pe_op op_mulU pe_int (pv 2)) (pv 2))) (pe_op op_mulU pe_int (pv 2))) pe_int) pe_int)) (pss_cons (ps_set (i := 5) sc_law_draw.nd rfl (Or.inl rfl) (pe_op op_modU (pe_op op_addU (pe_op op_addU (pe_op op_mulU (pv 5) pe_int) (pe_op op_mulU pe_int (pv 2))) pe_int) pe_int)) (pss_one (ps_ret (pe_op op_modU (pe_op op_divU (pe_op op_modU (pe_op op_mulU (pv 5) (pv 5)) pe_int) pe_int) (pv 1)))))))))))) (pure_law_draw T)
end
end Pap

set_option maxHeartbeats 4000000
/-! S13: drawn names. -/
namespace Pap
open PySem PySem.Spec PyProof.Rows L2 PT
local macro_rules | `(tactic| walk_at "q1") => `(tactic| first
  | with_reducible refine sw_seq ?_
  | with_reducible refine sw_ret ?_
  | with_reducible refine sw_if ?_
  | with_reducible refine sw_next ?_
  | with_reducible refine sw_drop ?_
  | with_reducible refine sw_retN ?_
  | with_reducible refine sw_set ?_
  | with_reducible refine sw_par ?_
  | with_reducible refine sw_par3 ?_
  | with_reducible refine sw_asg ?_
  | with_reducible refine gw_name ?_
  | with_reducible refine gsw_cons ?_
  | with_reducible refine gsw_nil ?_
  | with_reducible refine tw_or ?_
  | with_reducible refine tw_and ?_
  | with_reducible refine tw_not ?_
  | with_reducible refine tw_B ?_
  | with_reducible refine tw_test ?_
  | with_reducible refine tw_yes ?_
  | with_reducible refine ew_cb ?_
  | with_reducible refine ew_c ?_
  | with_reducible refine ew_op ?_
  | with_reducible refine ew_chain ?_
  | with_reducible refine ew_notV ?_
  | with_reducible refine ew_andV ?_
  | with_reducible refine ew_orV ?_
  | with_reducible refine ew_un ?_
  | with_reducible refine ew_then ?_
  | with_reducible refine ew_sl ?_
  | with_reducible refine ow_no ?_
  | with_reducible refine ow_some ?_
  | with_reducible refine ew_tup ?_
  | with_reducible refine ew_lst ?_
  | with_reducible refine ew_tupF ?_
  | with_reducible refine ew_dnew ?_
  | with_reducible refine ew_call ?_
  | with_reducible refine ew_callN ?_
  | with_reducible refine ew_make ?_
  | with_reducible refine ew_makeN ?_
  | with_reducible refine ew_meth ?_
  | with_reducible refine ew_methK ?_
  | with_reducible refine ew_tm ?_
  | with_reducible refine ew_bm ?_
  | with_reducible refine ew_bm0 ?_
  | with_reducible refine aw_nil ?_
  | with_reducible refine aw_cons ?_
  | (with_reducible refine ew_varE ?_; refine ⟨_, rfl, ?_⟩)
  | with_reducible refine le_int ?_
  | with_reducible refine lt_int ?_
  | with_reducible refine ge_int ?_
  | with_reducible refine gt_int ?_
  | with_reducible refine eq_int ?_
  | with_reducible refine ne_int ?_
  | with_reducible refine eq_str ?_
  | with_reducible refine ne_str ?_
  | with_reducible refine add_int ?_
  | with_reducible refine sub_int ?_
  | with_reducible refine is_n ?_
  | with_reducible refine isn_n ?_
  | with_reducible refine isi_ii ?_
  | with_reducible refine isi_ib ?_
  | with_reducible refine isi_ss ?_
  | (with_reducible refine ⟨rfl, rfl, ?_⟩)
  | with_reducible refine up_rt ?_
  | with_reducible refine up_nx ?_
  | with_reducible refine tt_ ?_
  | with_reducible refine ff_ ?_
  | with_reducible refine ⟨_, rfl, ?_⟩
  | rw [Bool.not_true]
  | rw [Bool.not_false]
  | (show _ ∧ _; with_reducible refine tt_ ?_)
  | (show _ ∧ _; with_reducible refine ff_ ?_)
  | fail "q1: no step")
local macro_rules | `(tactic| walk_at "q") => `(tactic| repeat walk_at "q1")
local macro_rules | `(tactic| walk_at "le") => `(tactic| repeat (first | with_reducible exact Le.refl | with_reducible refine Le.drop ?_ | with_reducible refine Le.app ?_))
local macro_rules | `(tactic| walk_at "nq") => `(tactic| first | exact TX.n_Question_name (by assumption) | exact TX.n_Question_matter (by assumption) | exact TX.n_Question_answers (by assumption) | exact TX.n_Question_right (by assumption) | exact TX.n_Question_toil (by assumption) | exact TX.n_Question_marks (by assumption) | exact TX.n_Question_kin (by assumption))
local macro_rules | `(tactic| walk_at "fl") => `(tactic| refine ⟨_, _, _, rfl, .inl (by assumption), _, rfl, ?_⟩)
local macro_rules | `(tactic| walk_at "fq") => `(tactic| (walk_at "q"; (with_reducible refine ew_fldE (TX.c_Question (by assumption)) (by walk_at "nq") ?_); walk_at "q"; walk_at "fl"; walk_at "q"))

theorem map_erase {α β : Type} (f : α → β) : ∀ (l : List α) (i : Nat), (l.map f).eraseIdx i = (l.eraseIdx i).map f
  | [], _ => rfl
  | _ :: _, 0 => rfl
  | a :: l, i + 1 => congrArg (f a :: ·) (map_erase f l i)
theorem erase_perm {α : Type} : ∀ (l : List α) (i : Nat) (h : i < l.length), (l[i] :: l.eraseIdx i).Perm l
  | [], _, h => absurd h (Nat.not_lt_zero _)
  | _ :: _, 0, _ => .refl _
  | a :: l, i + 1, h => (List.Perm.swap ..).trans ((erase_perm l i (Nat.lt_of_succ_lt_succ h)).cons a)
theorem Sel.app (c : MM) {M x R : MM} {F : MM → MM} (h : Sel M x R F) : Sel (c ++ M) x (c ++ R) (fun y => c ++ F y) := by
  induction c with
  | nil => exact h
  | cons d c ih => exact Sel.tl d ih
theorem seqIx {n : Nat} {i : Int} (h0 : 0 ≤ i) (h1 : i < n) : seqIndex? i n = some i.toNat := (ixN_seq (by unfold ixN; rw [if_pos h0, if_pos h1])).1
def word (c r : Nat) : Str := ⟨#[97 + c]⟩ ++ repS "x" r
def pool1 : List Str := ["ann", "an", "anna", "out", "in", "used", "question", "many", "toil", "marks", "rest", "kin", "with"]
def pool2 : List Str := ["less", "plain", "whole", "b", "bo", "zzzzzzzz", "q"]
def pool0 : List Str := pool1 ++ pool2
theorem pool0_ok : pool0.all (fun z => nameB z && decide (z ≠ "zyzzyva")) = true := by decide +kernel
theorem pool0_nd : pool0.Nodup := by decide +kernel
theorem words_ok : (List.range 26).all (fun c => [1, 2, 3].all fun r => nameB (word c r) && (decide (word c r ≠ "zyzzyva") && decide (word c r ∉ pool0))) = true := by decide +kernel
theorem mem123 {r : Nat} (h1 : 1 ≤ r) (h3 : r ≤ 3) : r ∈ [1, 2, 3] := by
  have : r = 1 ∨ r = 2 ∨ r = 3 := by omega
  rcases this with rfl | rfl | rfl <;> decide
theorem word_ok {c r : Nat} (hc : c < 26) (h1 : 1 ≤ r) (h3 : r ≤ 3) : nameB (word c r) = true ∧ word c r ≠ "zyzzyva" ∧ word c r ∉ pool0 := by
  have h := List.all_eq_true.mp (List.all_eq_true.mp words_ok c (List.mem_range.mpr hc)) r (mem123 h1 h3)
  simp only [Bool.and_eq_true, decide_eq_true_eq] at h
  exact ⟨h.1, h.2.1, h.2.2⟩
theorem word_inj {c c' r r' : Nat} (h : word c r = word c' r') : c = c' := by
  have h1 : (#[97 + c] ++ (repS "x" r).cps) = (#[97 + c'] ++ (repS "x" r').cps) := congrArg Str.cps h
  have h2 := congrArg (fun a : Array Nat => a.toList) h1
  simp only [Array.toList_append] at h2
  have h3 : 97 + c = 97 + c' := (List.cons.inj h2).1
  omega
def wds (f : Nat) (rs : List Nat) : List Str := rs.mapIdx fun j r => word ((f + 7 * j) % 26) r
theorem wds_len (f : Nat) (rs : List Nat) : (wds f rs).length = rs.length := List.length_mapIdx
theorem wds_get {f : Nat} {rs : List Nat} {i : Nat} (h : i < (wds f rs).length) : (wds f rs)[i] = word ((f + 7 * i) % 26) (rs[i]'(by rwa [wds_len] at h)) := by
  exact List.getElem_mapIdx ..
theorem wds_snoc (f : Nat) (rs : List Nat) (r : Nat) : wds f (rs ++ [r]) = wds f rs ++ [word ((f + 7 * rs.length) % 26) r] := by
  unfold wds
  rw [List.mapIdx_append] <;> simp
theorem pool_nd {f : Nat} {rs : List Nat} (hl : rs.length ≤ 26) (hr : ∀ r ∈ rs, 1 ≤ r ∧ r ≤ 3) : (pool0 ++ wds f rs).Nodup := by
  refine List.nodup_append.mpr ⟨pool0_nd, List.pairwise_iff_getElem.mpr fun i j hi hj hij => ?_, fun a ha b hb e => ?_⟩
  · rw [wds_get hi, wds_get hj]
    intro e
    have e1 := word_inj e
    rw [wds_len] at hi hj
    omega
  · obtain ⟨i, hi, rfl⟩ := List.getElem_of_mem hb
    rw [wds_get hi] at e
    have hi' : i < rs.length := by rwa [wds_len] at hi
    have h := hr _ (List.getElem_mem hi')
    have w := word_ok (c := (f + 7 * i) % 26) (Nat.mod_lt _ (by decide)) h.1 h.2
    exact w.2.2 (e ▸ ha)
theorem pool_ok {f : Nat} {rs : List Nat} (hr : ∀ r ∈ rs, 1 ≤ r ∧ r ≤ 3) : ∀ z ∈ pool0 ++ wds f rs, nameB z = true ∧ z ≠ "zyzzyva" := by
  intro z hz
  rcases List.mem_append.mp hz with h | h
  · have := List.all_eq_true.mp pool0_ok z h
    simp only [Bool.and_eq_true, decide_eq_true_eq] at this
    exact this
  · obtain ⟨i, hi, rfl⟩ := List.getElem_of_mem h
    rw [wds_get hi]
    have hi' : i < rs.length := by rwa [wds_len] at hi
    have h := hr _ (List.getElem_mem hi')
    have w := word_ok (c := (f + 7 * i) % 26) (Nat.mod_lt _ (by decide)) h.1 h.2
    exact ⟨w.1, w.2.1⟩
theorem letter_at {i : Nat} (h : i < 26) : letters.cps.toList[i]? = some (97 + i) := by
  have := List.all_eq_true.mp (show (List.range 26).all (fun i => decide (letters.cps.toList[i]? = some (97 + i))) = true by decide +kernel) i (List.mem_range.mpr h)
  exact of_decide_eq_true this
theorem cps_le_trans {a b c : List Nat} (h1 : ¬ b < a) (h2 : ¬ c < b) : ¬ c < a := List.not_lt.mpr (List.le_trans (List.not_lt.mp h1) (List.not_lt.mp h2))
theorem str_ext {a b : Str} (h : a.cps.toList = b.cps.toList) : a = b := by
  cases a
  cases b
  exact congrArg Str.mk (Array.toList_inj.mp h)
theorem rising_all : ∀ {ys : List Str} {p : Str}, risingS p ys = true → ∀ y ∈ ys, ¬ y.cps.toList < p.cps.toList
  | [], _, _ => fun _ h => nomatch h
  | x :: r, p, h => by
    unfold risingS at h
    rw [Bool.and_eq_true, ltCps_eq] at h
    have h1 : ¬ x.cps.toList < p.cps.toList := by simpa using h.1
    intro y hy
    rcases List.mem_cons.mp hy with rfl | hy
    · exact h1
    · exact cps_le_trans h1 (rising_all h.2 y hy)
theorem rising_sorted : ∀ {ys : List Str} {p : Str}, risingS p ys = true → sortedS ys = true
  | [], _, _ => rfl
  | x :: r, p, h => by
    unfold risingS at h
    exact (Bool.and_eq_true_iff.mp h).2
theorem sorted_lt : ∀ {ys : List Str}, sortedS ys = true → ys.Nodup → ys.Pairwise StrLt
  | [], _, _ => .nil
  | x :: r, h, nd => by
    have h1 : risingS x r = true := h
    have nd' := List.nodup_cons.mp nd
    refine List.pairwise_cons.mpr ⟨fun y hy => ?_, sorted_lt (rising_sorted h1) nd'.2⟩
    by_cases hlt : x.cps.toList < y.cps.toList
    · exact hlt
    · have e := List.le_antisymm (List.not_lt.mp (rising_all h1 y hy)) (List.not_lt.mp hlt)
      exact absurd (str_ext e) fun q => nd'.1 (q ▸ hy)
theorem Le.mid {B : Hp} {d : Addr × HO} {R : MM} (pre : MM) : Le B (d :: (pre ++ R)) B (pre ++ d :: R) := Le.perm List.perm_middle.symm
theorem Le.mid' {B : Hp} {d : Addr × HO} {R : MM} (pre : MM) : Le B (pre ++ d :: R) B (d :: (pre ++ R)) := Le.perm List.perm_middle
section
variable {P : Program} {w : World} {K : PySem.W.Frag} {mg : Str → Option Value} {base : Heap}
abbrev N_law_of : List Str := ["_law_m", "_law_some"]
abbrev ps_law_of : List Str := ["_law_m", "_law_some"]
theorem sc_law_of : FnScope N_law_of ps_law_of (defScope s_law_of) := ⟨rfl, rfl, rfl, by decide +kernel, rfl, by decide +kernel, by decide +kernel⟩
theorem bp_law_draw_2 {K : PySem.W.Frag} : BindP K d_law_draw ps_law_draw [] := bindP_n rfl rfl fun _ _ _ _ _ _ us hl => match us, hl with | [_, _], _ => rfl
def rd_law_of (K : PySem.W.Frag) : TS := (tRet (tOp (rIx K) (tVar 1) (tCall (spW (sp_law_draw K)) [] E0 (tCons (tVar 0) (tCons (tCB (rLenU K) (tCons (tVar 1) tNil)) tNil)))))
def sp_law_of (K : PySem.W.Frag) : SpW := fun vs B M Q E => ∃ m c R N l xs, vs = [.ref m, .ref l] ∧ M = c ++ R ∧ Dr K B c m N ∧ N ≤ 1000000000 ∧ LstW K B R l xs ∧ 0 < xs.length ∧ xs.length ≤ 1000 ∧ ∀ v c', v ∈ xs → Dr K B c' m (N + 1) → Q v B (c' ++ R)
theorem len_law_of (K : PySem.W.Frag) : ∀ vs B M Q E, sp_law_of K vs B M Q E → vs.length = ps_law_of.length := by
  intro _ _ _ _ _ h
  unfold sp_law_of at h
  repeat (first | (obtain ⟨rfl, _⟩ := h; rfl) | (obtain ⟨_, h⟩ := h))
theorem pure_law_of (T : TX K mg) : ∀ vs B M Q E, sp_law_of K vs B M Q E → SW (rd_law_of K) (DW.up ⟨fun _ B M => Q .non B M, Q, fun _ _ _ => False, fun _ _ _ => False⟩) (start N_law_of vs) B M := by
  rintro _ B _ Q E ⟨m, c, R, N, l, xs, rfl, rfl, hd, hN, hl, h0, h1, q⟩
  unfold rd_law_of
  walk_at "q"
  refine len_l (hl.le (Le.app Le.refl)) ?_
  walk_at "q"
  refine cw_of ⟨m, c, R, N, xs.length, rfl, rfl, hd, hN, by omega, by omega, fun r c' r0 r1 hd' => ?_⟩
  have hi : r.toNat < xs.length := by omega
  refine ix_l (v := xs[r.toNat]) (hl.le (Le.app Le.refl)) (by rw [atI_in r0 r1, List.getElem?_eq_getElem hi]) ?_
  exact .le Le.refl (q _ c' (List.getElem_mem hi) hd')
theorem ok_law_of (T : TX K mg) : Fnk P w K mg base d_law_of ps_law_of 2 (spW (sp_law_of K)) :=
  fnk_of (N := N_law_of) (rd_law_of K) T.d_law_of sc_law_of (len_law_of K) (fun f cdv A outer sh H E hr => (pss_one (ps_ret (pe_ix ix_seq (pv 1) (pe_fn (ok_law_draw T) bp_law_draw_2 hr (by decide) rfl T.g__law_draw (pa_cons (pv 0) (pa_cons (pe_callB call_lenU (by rfl) T.f_len (by decide +kernel) (pa_cons (pv 1) pa_nil)) pa_nil))) (fun _ _ => rfl))))) (pure_law_of T)
abbrev N_law_names : List Str := ["_law_m", "_law_count", "_law_some", "_law_letters", "_law_first", "_law_k"]
abbrev ps_law_names : List Str := ["_law_m", "_law_count"]
theorem sc_law_names : FnScope N_law_names ps_law_names (defScope s_law_names) := ⟨rfl, rfl, rfl, by decide +kernel, rfl, by decide +kernel, by decide +kernel⟩
def rd_law_names (K : PySem.W.Frag) : TS := (tSeq (tAsg (tLst (tCons (tC (.str "ann")) (tCons (tC (.str "an")) (tCons (tC (.str "anna")) (tCons (tC (.str "out")) (tCons (tC (.str "in")) (tCons (tC (.str "used")) (tCons (tC (.str "question")) (tCons (tC (.str "many")) (tCons (tC (.str "toil")) (tCons (tC (.str "marks")) (tCons (tC (.str "rest")) (tCons (tC (.str "kin")) (tCons (tC (.str "with")) tNil)))))))))))))) (gName 2)) (tSeq (tAsg (tOp (rAddU K) (tVar 2) (tLst (tCons (tC (.str "less")) (tCons (tC (.str "plain")) (tCons (tC (.str "whole")) (tCons (tC (.str "b")) (tCons (tC (.str "bo")) (tCons (tC (.str "zzzzzzzz")) (tCons (tC (.str "q")) tNil))))))))) (gName 2)) (tSeq (tPar 3 4 (tCons (tC (.str "abcdefghijklmnopqrstuvwxyz")) (tCons (tCall (spW (sp_law_draw K)) [] E0 (tCons (tVar 0) (tCons (tC (.int (26))) tNil))) tNil))) (tSeq (tFor (iRng1 (tCons (tC (.int (26))) tNil)) (gName 5) (tDrop (tBM K "list" rAppend (tVar 2) (tCons (tOp (rAddU K) (tOp (rIx K) (tVar 3) (tOp (rModI) (tOp (rAddU K) (tVar 4) (tOp (rMulU) (tC (.int (7))) (tVar 5))) (tC (.int (26))))) (tOp (rRepS) (tC (.str "x")) (tOp (rAddU K) (tC (.int (1))) (tCall (spW (sp_law_draw K)) [] E0 (tCons (tVar 0) (tCons (tC (.int (3))) tNil)))))) tNil)))) (tRet (tCB (rSortedS K) (tCons (tLc (iRng1 (tCons (tVar 1) tNil)) (gName 5) tYes (tBM K "list" rPopAt (tVar 2) (tCons (tCall (spW (sp_law_draw K)) [] E0 (tCons (tVar 0) (tCons (tCB (rLenU K) (tCons (tVar 2) tNil)) tNil))) tNil)) [5]) tNil)))))))
def sp_law_names (K : PySem.W.Frag) : SpW := fun vs B M Q E => ∃ m c R N, ∃ n : Nat, vs = [.ref m, .int n] ∧ M = c ++ R ∧ Dr K B c m N ∧ N ≤ 900000000 ∧ n ≤ 40 ∧ ∀ B' l (zs : List Str) c', Ex B B' → B' l = some (.lst (zs.map .str)) → zs.length = n → zs.Pairwise StrLt → (∀ z ∈ zs, nameB z = true ∧ z ≠ "zyzzyva") → Dr K B' c' m (N + 100) → Q (.ref l) B' (c' ++ R)
theorem len_law_names (K : PySem.W.Frag) : ∀ vs B M Q E, sp_law_names K vs B M Q E → vs.length = ps_law_names.length := by
  intro _ _ _ _ _ h
  unfold sp_law_names at h
  repeat (first | (obtain ⟨rfl, _⟩ := h; rfl) | (obtain ⟨_, h⟩ := h))
theorem pure_law_names (T : TX K mg) : ∀ vs B M Q E, sp_law_names K vs B M Q E → SW (rd_law_names K) (DW.up ⟨fun _ B M => Q .non B M, Q, fun _ _ _ => False, fun _ _ _ => False⟩) (start N_law_names vs) B M := by
  rintro _ B _ Q E ⟨m, c, R, N, n, rfl, rfl, hd, hN, hn, q⟩
  unfold rd_law_names
  walk_at "q"
  refine ⟨le_line (Nat.le_refl 13), fun p1 => ?_⟩
  walk_at "q"
  refine ⟨le_line (Nat.le_refl 7), fun p2 => ?_⟩
  refine add_lst (.tail .here) .here (le_line (Nat.le_refl 20)) fun p3 => ?_
  refine sw_le (B' := B) (M' := c ++ (p3, .lst (pool0.map V.str)) :: R) (Le.trans (Le.mid ((p2, _) :: (p1, _) :: c)) (Le.drop (Le.drop .refl))) ?_
  walk_at "q"
  refine cw_of ⟨m, c, _, N, 26, rfl, rfl, hd, by omega, by decide, by decide, fun f c1 f0 f1 hd1 => ?_⟩
  walk_at "q"
  refine ⟨_, _, rfl, ?_⟩
  refine sw_seq (sw_for (iw_rng1 ?_))
  walk_at "q"
  refine ⟨by decide, by decide, 26, _, _, fun i σ B' M' => (∃ v, σ = [some (.ref m), some (.int n), some (.ref p3), some (.str letters), some (.int f), v]) ∧ B' = B ∧ ∃ c' rs, M' = c' ++ (p3, .lst ((pool0 ++ wds f.toNat rs).map V.str)) :: R ∧ Dr K B c' m (N + 1 + i) ∧ rs.length = i ∧ ∀ r ∈ rs, 1 ≤ r ∧ r ≤ 3, runs_rng, ⟨⟨_, rfl⟩, rfl, c1, [], by rw [show wds f.toNat [] = [] from rfl, List.append_nil], hd1, rfl, fun _ h => nomatch h⟩, fun _ _ _ _ _ => True.intro, ?_, ?_⟩
  · rintro i _ _ _ _ _ _ hi ⟨⟨v, rfl⟩, rfl, c2, rs, rfl, hd2, hl2, hr2⟩ ⟨rfl, rfl, rfl⟩
    have hnn : 0 ≤ (f + 7 * (0 + (i : Int))) % 26 := Int.emod_nonneg _ (by decide)
    have hlt : (f + 7 * (0 + (i : Int))) % 26 < 26 := Int.emod_lt_of_pos _ (by decide)
    have hc : ((f + 7 * (0 + (i : Int))) % 26).toNat = (f.toNat + 7 * i) % 26 := by omega
    walk_at "q"
    refine ⟨TyMW.l (.of (.inr (List.mem_append_right _ (List.mem_cons_self ..)))), ?_⟩
    walk_at "q"
    refine mul_int (small_mul (by decide) (by decide) (by omega) (by omega)) ?_
    walk_at "q"
    refine mod_int (by decide) ?_
    refine ix_s (c := 97 + (f.toNat + 7 * i) % 26) (by decide) ?_ ?_
    · have h26 : letters.cps.toList.length = 26 := by decide +kernel
      unfold atI ixN
      rw [if_pos hnn, h26, if_pos (show (f + 7 * (0 + (i : Int))) % 26 < ((26 : Nat) : Int) from hlt)]
      show letters.cps.toList[((f + 7 * (0 + (i : Int))) % 26).toNat]? = _
      rw [hc]
      exact letter_at (Nat.mod_lt _ (by decide))
    walk_at "q"
    refine cw_of ⟨m, c2, _, N + 1 + i, 3, rfl, rfl, hd2, by omega, by decide, by decide, fun r c3 r0 r1 hd3 => ?_⟩
    walk_at "q"
    refine rep_s (by omega) (by omega) (by decide) ?_
    refine add_str ?_ ?_
    · rw [repS_length]
      show 1 + _ * 1 ≤ _
      rw [sizeLine_eq]
      omega
    walk_at "q"
    refine append_ (Sel.app c3 (Sel.one _ _ _)) ?_ ?_
    · rw [List.length_map, List.length_append, wds_len, sizeLine_eq]
      have : pool0.length = 20 := rfl
      omega
    simp only [List.cons_append, List.nil_append]
    refine .le Le.refl ⟨⟨_, rfl⟩, rfl, c3, rs ++ [(1 + r).toNat], ?_, hd3, by rw [List.length_append, hl2]; rfl, fun x hx => ?_⟩
    · rw [wds_snoc, hl2, ← List.append_assoc, List.map_append (l₁ := pool0 ++ wds f.toNat rs)]
      rfl
    · rcases List.mem_append.mp hx with h | h
      · exact hr2 x h
      · rw [List.mem_singleton.mp h]; omega
  · rintro σ B2 _ ⟨⟨v, rfl⟩, rfl, c2, rs, rfl, hd2, hl2, hr2⟩
    have hnd := pool_nd (f := f.toNat) (rs := rs) (by omega) hr2
    have hok := pool_ok (f := f.toNat) hr2
    have hplen : (pool0 ++ wds f.toNat rs).length = 46 := by
      rw [List.length_append, wds_len, hl2]
      rfl
    generalize pool0 ++ wds f.toNat rs = pool at hnd hok hplen
    walk_at "q"
    refine ew_lc (iw_rng1 ?_)
    walk_at "q"
    refine ⟨by omega, by omega, n, _, _, fun i acc B' M' => B' = B2 ∧ ∃ c' zs ps, M' = c' ++ (p3, .lst (ps.map V.str)) :: R ∧ acc = zs.map V.str ∧ (zs ++ ps).Perm pool ∧ zs.length = i ∧ Dr K B2 c' m (N + 27 + i), runs_rng, le_line hn, ⟨rfl, c2, [], pool, rfl, rfl, .refl _, rfl, hd2⟩, fun _ _ _ _ _ _ => True.intro, ?_, ?_⟩
    · rintro D i _ _ _ _ _ _ hi hal ⟨rfl, c3, zs, ps, rfl, rfl, hp, hz, hd3⟩ ⟨rfl, rfl, rfl⟩
      have hpl : zs.length + ps.length = 46 := by rw [← List.length_append, hp.length_eq, hplen]
      refine gw_name ⟨wipe_set _, tw_yes ⟨fun _ => ?_, nofun⟩⟩
      walk_at "q"
      refine ⟨TyMW.l (.of (.inr (List.mem_cons_of_mem _ (List.mem_append_right _ (List.mem_cons_self ..))))), ?_⟩
      walk_at "q"
      refine len_l (.of (.inr (List.mem_cons_of_mem _ (List.mem_append_right _ (List.mem_cons_self ..))))) ?_
      rw [List.length_map]
      walk_at "q"
      refine cw_mid (cw_of ⟨m, c3, _, N + 27 + i, ps.length, rfl, rfl, hd3, by omega, by omega, by omega, fun r c4 r0 r1 hd4 => ?_⟩)
      walk_at "q"
      have hr : r.toNat < ps.length := by omega
      refine popAt_ (n := r.toNat) (v := .str ps[r.toNat]) (Sel.app c4 (Sel.tl _ (Sel.one _ _ _))) (by omega) (by omega) (seqIx r0 (by rw [List.length_map]; exact r1)) (by rw [List.getElem?_map, List.getElem?_eq_getElem hr]; rfl) ?_
      simp only [List.cons_append, List.nil_append]
      refine .le (Le.mid' c4) ⟨_, rfl, rfl, c4, zs ++ [ps[r.toNat]], ps.eraseIdx r.toNat, ?_, by rw [List.map_append]; rfl, ?_, by rw [List.length_append, hz]; rfl, hd4⟩
      · rw [map_erase]
      · refine List.Perm.trans ?_ hp
        rw [List.append_assoc]
        refine List.Perm.append_left _ ?_
        exact erase_perm ps _ hr
    · rintro D _ _ _ hal ⟨rfl, c3, zs, ps, rfl, rfl, hp, hz, hd3⟩
      walk_at "q"
      refine sortedS_ (zs := zs) (.of .here) (by omega) fun ys l hy hs => ?_
      have hzs : zs.Nodup := (hp.nodup_iff.mpr hnd).sublist (List.sublist_append_left _ _)
      refine .keep fun ex at_ => .drop (.le (M' := c3 ++ R) ?_ (q _ l ys c3 ex at_ (by rw [hy.length_eq, hz]) (sorted_lt hs (hy.nodup_iff.mpr hzs)) (fun z hz' => hok z (hp.mem_iff.mp (List.mem_append_left _ (hy.mem_iff.mp hz')))) ((hd3.up (by omega)).ex ex)))
      exact (Le.mid' c3).trans (Le.drop .refl)
theorem ok_law_names (T : TX K mg) : Fnk P w K mg base d_law_names ps_law_names 2 (spW (sp_law_names K)) :=
  fnk_of (N := N_law_names) (rd_law_names K) T.d_law_names sc_law_names (len_law_names K) (fun f cdv A outer sh H E hr => (pss_cons (ps_set (i := 2) sc_law_names.nd rfl (Or.inr rfl) (pe_lst (pa_cons pe_str (pa_cons pe_str (pa_cons pe_str (pa_cons pe_str (pa_cons pe_str (pa_cons pe_str (pa_cons pe_str (pa_cons pe_str (pa_cons pe_str (pa_cons pe_str (pa_cons pe_str (pa_cons pe_str (pa_cons pe_str pa_nil))))))))))))))) (pss_cons (ps_set (i := 2) sc_law_names.nd rfl (Or.inr rfl) (pe_op op_addU (pv 2) (pe_lst (pa_cons pe_str (pa_cons pe_str (pa_cons pe_str (pa_cons pe_str (pa_cons pe_str (pa_cons pe_str (pa_cons pe_str pa_nil)))))))))) (pss_cons (ps_par rfl sc_law_names.nd (i := 3) (j := 4) rfl rfl (by decide) rfl rfl (pa_cons pe_str (pa_cons (pe_fn (ok_law_draw T) bp_law_draw_2 hr (by decide) rfl T.g__law_draw (pa_cons (pv 0) (pa_cons pe_int pa_nil))) pa_nil)) rfl) (pss_cons (ps_for PassesOwn.never rfl (pi_range1 rfl T.f_range (pa_cons pe_int pa_nil)) (pg_name (i := 5) sc_law_names.nd rfl (Or.inl rfl)) (pss_one (ps_expr (pe_bm PySem.F.plainAttrs_list PySem.F.slot_list_append PySem.F.type_list_append mt_append (pv 2) (pa_cons (pe_op op_addU (pe_ix ix_seq (pv 3) (pe_op op_modU (pe_op op_addU (pv 4) (pe_op op_mulU pe_int (pv 5))) pe_int) (fun _ _ => rfl)) (pe_op op_repS pe_str (pe_op op_addU pe_int (pe_fn (ok_law_draw T) bp_law_draw_2 hr (by decide) rfl T.g__law_draw (pa_cons (pv 0) (pa_cons pe_int pa_nil)))))) pa_nil))))) (pss_one (ps_ret (pe_callB cr_sortedS (by rfl) T.f_sorted (by decide +kernel) (pa_cons (pe_lc (own := [("_law_k", 5)]) rfl sc_law_names.nd (pi_range1 rfl T.f_range (pa_cons (pv 1) pa_nil)) (blkOk_by (own := [("_law_k", 5)]) (N := N_law_names) (sc := defScope s_law_names) (by decide +kernel)) (fun _ _ _ _ _ => (pg_name (i := 5) sc_law_names.nd rfl (Or.inl rfl))) (fun _ _ _ _ _ => pts_nil) (fun _ _ _ _ _ => (pe_bm PySem.F.plainAttrs_list PySem.F.slot_list_pop PySem.F.type_list_pop mt_popAt (pv 2) (pa_cons (pe_fn (ok_law_draw T) bp_law_draw_2 hr (by decide) rfl T.g__law_draw (pa_cons (pv 0) (pa_cons (pe_callB call_lenU (by rfl) T.f_len (by decide +kernel) (pa_cons (pv 2) pa_nil)) pa_nil))) pa_nil)))) pa_nil))))))))) (pure_law_names T)
end
end Pap

set_option maxHeartbeats 4000000
/-! S14: drawn rows. -/
namespace Pap
open PySem PySem.Spec PyProof.Rows L2 PT
local macro_rules | `(tactic| walk_at "q1") => `(tactic| first
  | with_reducible refine sw_seq ?_
  | with_reducible refine sw_ret ?_
  | with_reducible refine sw_if ?_
  | with_reducible refine sw_next ?_
  | with_reducible refine sw_drop ?_
  | with_reducible refine sw_retN ?_
  | with_reducible refine sw_set ?_
  | with_reducible refine sw_par ?_
  | with_reducible refine sw_par3 ?_
  | with_reducible refine sw_asg ?_
  | with_reducible refine gw_name ?_
  | with_reducible refine gsw_cons ?_
  | with_reducible refine gsw_nil ?_
  | with_reducible refine tw_or ?_
  | with_reducible refine tw_and ?_
  | with_reducible refine tw_not ?_
  | with_reducible refine tw_B ?_
  | with_reducible refine tw_test ?_
  | with_reducible refine tw_yes ?_
  | with_reducible refine ew_cb ?_
  | with_reducible refine ew_c ?_
  | with_reducible refine ew_op ?_
  | with_reducible refine ew_chain ?_
  | with_reducible refine ew_notV ?_
  | with_reducible refine ew_andV ?_
  | with_reducible refine ew_orV ?_
  | with_reducible refine ew_un ?_
  | with_reducible refine ew_then ?_
  | with_reducible refine ew_sl ?_
  | with_reducible refine ow_no ?_
  | with_reducible refine ow_some ?_
  | with_reducible refine ew_tup ?_
  | with_reducible refine ew_lst ?_
  | with_reducible refine ew_tupF ?_
  | with_reducible refine ew_dnew ?_
  | with_reducible refine ew_call ?_
  | with_reducible refine ew_callN ?_
  | with_reducible refine ew_make ?_
  | with_reducible refine ew_makeN ?_
  | with_reducible refine ew_meth ?_
  | with_reducible refine ew_methK ?_
  | with_reducible refine ew_tm ?_
  | with_reducible refine ew_bm ?_
  | with_reducible refine ew_bm0 ?_
  | with_reducible refine aw_nil ?_
  | with_reducible refine aw_cons ?_
  | (with_reducible refine ew_varE ?_; refine ⟨_, rfl, ?_⟩)
  | with_reducible refine le_int ?_
  | with_reducible refine lt_int ?_
  | with_reducible refine ge_int ?_
  | with_reducible refine gt_int ?_
  | with_reducible refine eq_int ?_
  | with_reducible refine ne_int ?_
  | with_reducible refine eq_str ?_
  | with_reducible refine ne_str ?_
  | with_reducible refine add_int ?_
  | with_reducible refine sub_int ?_
  | with_reducible refine is_n ?_
  | with_reducible refine isn_n ?_
  | with_reducible refine isi_ii ?_
  | with_reducible refine isi_ib ?_
  | with_reducible refine isi_ss ?_
  | (with_reducible refine ⟨rfl, rfl, ?_⟩)
  | with_reducible refine up_rt ?_
  | with_reducible refine up_nx ?_
  | with_reducible refine tt_ ?_
  | with_reducible refine ff_ ?_
  | with_reducible refine ⟨_, rfl, ?_⟩
  | rw [Bool.not_true]
  | rw [Bool.not_false]
  | (show _ ∧ _; with_reducible refine tt_ ?_)
  | (show _ ∧ _; with_reducible refine ff_ ?_)
  | fail "q1: no step")
local macro_rules | `(tactic| walk_at "q") => `(tactic| repeat walk_at "q1")
local macro_rules | `(tactic| walk_at "le") => `(tactic| repeat (first | with_reducible exact Le.refl | with_reducible refine Le.drop ?_ | with_reducible refine Le.app ?_))
local macro_rules | `(tactic| walk_at "nq") => `(tactic| first | exact TX.n_Question_name (by assumption) | exact TX.n_Question_matter (by assumption) | exact TX.n_Question_answers (by assumption) | exact TX.n_Question_right (by assumption) | exact TX.n_Question_toil (by assumption) | exact TX.n_Question_marks (by assumption) | exact TX.n_Question_kin (by assumption))
local macro_rules | `(tactic| walk_at "fl") => `(tactic| refine ⟨_, _, _, rfl, .inl (by assumption), _, rfl, ?_⟩)
local macro_rules | `(tactic| walk_at "fq") => `(tactic| (walk_at "q"; (with_reducible refine ew_fldE (TX.c_Question (by assumption)) (by walk_at "nq") ?_); walk_at "q"; walk_at "fl"; walk_at "q"))

def RowAt (B : Hp) (a : Addr) (q : Qn) : Prop := ∃ b, B a = some (.tup (qVs q b)) ∧ AnsAt B b q.ans
theorem RowAt.ex {B B' : Hp} {a : Addr} {q : Qn} (h : RowAt B a q) (e : Ex B B') : RowAt B' a q := let ⟨b, h1, h2⟩ := h; ⟨b, e _ _ h1, h2.ex e⟩
def RowsAt (B : Hp) (l : Addr) (rs : QL) : Prop := B l = some (.lst (rs.map fun r => .ref r.1)) ∧ ∀ r ∈ rs, RowAt B r.1 r.2
theorem RowsAt.ex {B B' : Hp} {l : Addr} {rs : QL} (h : RowsAt B l rs) (e : Ex B B') : RowsAt B' l rs := ⟨e _ _ h.1, fun r hr => (h.2 r hr).ex e⟩
def pool3 : List Str := ["a", "b", "c", "A", "1", "10", "-", "+", "a b", "out", "yes", "no", "none", "ab"]
theorem pool3_ok : pool3.all textB = true := by decide +kernel
theorem pool3_nd : pool3.Nodup := by decide +kernel
section
variable {P : Program} {w : World} {K : PySem.W.Frag} {mg : Str → Option Value} {base : Heap}
abbrev N_law_answers : List Str := ["_law_m", "_law_some", "_law_k"]
abbrev ps_law_answers : List Str := ["_law_m"]
theorem sc_law_answers : FnScope N_law_answers ps_law_answers (defScope s_law_answers) := ⟨rfl, rfl, rfl, by decide +kernel, rfl, by decide +kernel, by decide +kernel⟩
def rd_law_answers (K : PySem.W.Frag) : TS := (tSeq (tAsg (tLst (tCons (tC (.str "a")) (tCons (tC (.str "b")) (tCons (tC (.str "c")) (tCons (tC (.str "A")) (tCons (tC (.str "1")) (tCons (tC (.str "10")) (tCons (tC (.str "-")) (tCons (tC (.str "+")) (tCons (tC (.str "a b")) (tCons (tC (.str "out")) (tCons (tC (.str "yes")) (tCons (tC (.str "no")) (tCons (tC (.str "none")) (tCons (tC (.str "ab")) tNil))))))))))))))) (gName 1)) (tRet (tThen (tLc (iRng1 (tCons (tOp (rIx K) (tLst (tCons (tC (.int (2))) (tCons (tC (.int (3))) (tCons (tC (.int (4))) (tCons (tC (.int (5))) (tCons (tC (.int (6))) (tCons (tC (.int (4))) tNil))))))) (tCall (spW (sp_law_draw K)) [] E0 (tCons (tVar 0) (tCons (tC (.int (6))) tNil)))) tNil)) (gName 2) tYes (tBM K "list" rPopAt (tVar 1) (tCons (tCall (spW (sp_law_draw K)) [] E0 (tCons (tVar 0) (tCons (tCB (rLenU K) (tCons (tVar 1) tNil)) tNil))) tNil)) [2]) (kTupF K))))
def sp_law_answers (K : PySem.W.Frag) : SpW := fun vs B M Q E => ∃ m c R N, vs = [.ref m] ∧ M = c ++ R ∧ Dr K B c m N ∧ N ≤ 900000000 ∧ ∀ B' b ans c', Ex B B' → AnsAt B' b ans → AnsOk ans → Dr K B' c' m (N + 7) → Q (.ref b) B' (c' ++ R)
theorem len_law_answers (K : PySem.W.Frag) : ∀ vs B M Q E, sp_law_answers K vs B M Q E → vs.length = ps_law_answers.length := by
  intro _ _ _ _ _ h
  unfold sp_law_answers at h
  repeat (first | (obtain ⟨rfl, _⟩ := h; rfl) | (obtain ⟨_, h⟩ := h))
theorem pure_law_answers (T : TX K mg) : ∀ vs B M Q E, sp_law_answers K vs B M Q E → SW (rd_law_answers K) (DW.up ⟨fun _ B M => Q .non B M, Q, fun _ _ _ => False, fun _ _ _ => False⟩) (start N_law_answers vs) B M := by
  rintro _ B _ Q E ⟨m, c, R, N, rfl, rfl, hd, hN, q⟩
  unfold rd_law_answers
  walk_at "q"
  refine ⟨le_line (Nat.le_refl 14), fun p => ?_⟩
  refine sw_le (B' := B) (M' := c ++ (p, .lst (pool3.map V.str)) :: R) (Le.mid c) ?_
  walk_at "q"
  refine ew_lc (iw_rng1 ?_)
  walk_at "q"
  refine ⟨le_line (Nat.le_refl 6), fun p2 => ?_⟩
  walk_at "q"
  refine cw_mid (cw_of ⟨m, c, _, N, 6, rfl, rfl, hd, by omega, by decide, by decide, fun r c1 r0 r1 hd1 => ?_⟩)
  have hi : r.toNat < 6 := by omega
  have hv : ∃ n : Nat, [V.int 2, V.int 3, V.int 4, V.int 5, V.int 6, V.int 4][r.toNat]? = some (.int n) ∧ 2 ≤ n ∧ n ≤ 6 := by
    generalize r.toNat = j at hi
    have : j = 0 ∨ j = 1 ∨ j = 2 ∨ j = 3 ∨ j = 4 ∨ j = 5 := by omega
    rcases this with rfl | rfl | rfl | rfl | rfl | rfl
    · exact ⟨2, rfl, by decide, by decide⟩
    · exact ⟨3, rfl, by decide, by decide⟩
    · exact ⟨4, rfl, by decide, by decide⟩
    · exact ⟨5, rfl, by decide, by decide⟩
    · exact ⟨6, rfl, by decide, by decide⟩
    · exact ⟨4, rfl, by decide, by decide⟩
  obtain ⟨n, hn, n2, n6⟩ := hv
  refine ix_l (xs := [V.int 2, V.int 3, V.int 4, V.int 5, V.int 6, V.int 4]) (v := .int n) (.of (.inr (List.mem_append_right _ (List.mem_cons_self ..)))) (by refine Eq.trans (atI_in r0 ?_) hn; exact r1) ?_
  walk_at "q"
  refine ⟨by omega, by omega, n, _, _, fun i acc B' M' => B' = B ∧ ∃ c' zs ps, M' = c' ++ (p2, .lst [V.int 2, V.int 3, V.int 4, V.int 5, V.int 6, V.int 4]) :: (p, .lst (ps.map V.str)) :: R ∧ acc = zs.map V.str ∧ (zs ++ ps).Perm pool3 ∧ zs.length = i ∧ Dr K B c' m (N + 1 + i), runs_rng, by rw [sizeLine_eq]; omega, ⟨rfl, c1, [], pool3, rfl, rfl, .refl _, rfl, hd1⟩, fun _ _ _ _ _ _ => True.intro, ?_, ?_⟩
  · rintro D i _ _ _ _ _ _ hi hal ⟨rfl, c3, zs, ps, rfl, rfl, hp, hz, hd3⟩ ⟨rfl, rfl, rfl⟩
    have hpl : zs.length + ps.length = 14 := by rw [← List.length_append, hp.length_eq]; rfl
    have hin : ∀ {x : Addr × HO}, (p, HO.lst (ps.map V.str)) ∈ x :: (c3 ++ (p2, .lst [V.int 2, V.int 3, V.int 4, V.int 5, V.int 6, V.int 4]) :: (p, .lst (ps.map V.str)) :: R) := fun {x} => by simp
    refine gw_name ⟨wipe_set _, tw_yes ⟨fun _ => ?_, nofun⟩⟩
    walk_at "q"
    refine ⟨TyMW.l (.of (.inr hin)), ?_⟩
    walk_at "q"
    refine len_l (.of (.inr hin)) ?_
    rw [List.length_map]
    walk_at "q"
    refine cw_mid (cw_of ⟨m, c3, _, N + 1 + i, ps.length, rfl, rfl, hd3, by omega, by omega, by omega, fun r c4 r0 r1 hd4 => ?_⟩)
    walk_at "q"
    have hr : r.toNat < ps.length := by omega
    refine popAt_ (n := r.toNat) (v := .str ps[r.toNat]) (Sel.app c4 (Sel.tl _ (Sel.tl _ (Sel.one _ _ _)))) (by omega) (by omega) (seqIx r0 (by rw [List.length_map]; exact r1)) (by rw [List.getElem?_map, List.getElem?_eq_getElem hr]; rfl) ?_
    simp only [List.cons_append, List.nil_append]
    refine .le (Le.mid' c4) ⟨_, rfl, rfl, c4, zs ++ [ps[r.toNat]], ps.eraseIdx r.toNat, ?_, by rw [List.map_append]; rfl, ?_, by rw [List.length_append, hz]; rfl, hd4⟩
    · rw [map_erase]
    · refine List.Perm.trans ?_ hp
      rw [List.append_assoc]
      exact List.Perm.append_left _ (erase_perm ps _ hr)
  · rintro D _ B2 _ hal ⟨rfl, c3, zs, ps, rfl, rfl, hp, hz, hd3⟩
    have hzs : zs.Nodup := (hp.nodup_iff.mpr pool3_nd).sublist (List.sublist_append_left _ _)
    have hok : AnsOk zs := ⟨by omega, by omega, hzs, fun z hz' => List.all_eq_true.mp pool3_ok z (hp.mem_iff.mp (List.mem_append_left _ hz'))⟩
    refine tupF_l (.of .here) fun b u hu => ?_
    refine .keep fun ex at_ => .drop (.le (M' := c3 ++ R) ?_ (q _ b zs c3 ex ⟨u, hu, at_⟩ hok ((hd3.up (by omega)).ex ex)))
    exact (Le.mid' c3).trans (Le.drop ((Le.mid' c3).trans (Le.drop .refl)))
theorem ok_law_answers (T : TX K mg) : Fnk P w K mg base d_law_answers ps_law_answers 2 (spW (sp_law_answers K)) :=
  fnk_of (N := N_law_answers) (rd_law_answers K) T.d_law_answers sc_law_answers (len_law_answers K) (fun f cdv A outer sh H E hr => (pss_cons (ps_set (i := 1) sc_law_answers.nd rfl (Or.inr rfl) (pe_lst (pa_cons pe_str (pa_cons pe_str (pa_cons pe_str (pa_cons pe_str (pa_cons pe_str (pa_cons pe_str (pa_cons pe_str (pa_cons pe_str (pa_cons pe_str (pa_cons pe_str (pa_cons pe_str (pa_cons pe_str (pa_cons pe_str (pa_cons pe_str pa_nil)))))))))))))))) (pss_one (ps_ret (pe_tupleOfF rfl T.f_tuple (pe_lc (own := [("_law_k", 2)]) rfl sc_law_answers.nd (pi_range1 rfl T.f_range (pa_cons (pe_ix ix_seq (pe_lst (pa_cons pe_int (pa_cons pe_int (pa_cons pe_int (pa_cons pe_int (pa_cons pe_int (pa_cons pe_int pa_nil))))))) (pe_fn (ok_law_draw T) bp_law_draw_2 hr (by decide) rfl T.g__law_draw (pa_cons (pv 0) (pa_cons pe_int pa_nil))) (fun _ _ => rfl)) pa_nil)) (blkOk_by (own := [("_law_k", 2)]) (N := N_law_answers) (sc := defScope s_law_answers) (by decide +kernel)) (fun _ _ _ _ _ => (pg_name (i := 2) sc_law_answers.nd rfl (Or.inl rfl))) (fun _ _ _ _ _ => pts_nil) (fun _ _ _ _ _ => (pe_bm PySem.F.plainAttrs_list PySem.F.slot_list_pop PySem.F.type_list_pop mt_popAt (pv 1) (pa_cons (pe_fn (ok_law_draw T) bp_law_draw_2 hr (by decide) rfl T.g__law_draw (pa_cons (pv 0) (pa_cons (pe_callB call_lenU (by rfl) T.f_len (by decide +kernel) (pa_cons (pv 1) pa_nil)) pa_nil))) pa_nil))))))))) (pure_law_answers T)
abbrev N_law_size : List Str := ["_law_m"]
abbrev ps_law_size : List Str := ["_law_m"]
theorem sc_law_size : FnScope N_law_size ps_law_size (defScope s_law_size) := ⟨rfl, rfl, rfl, by decide +kernel, rfl, by decide +kernel, by decide +kernel⟩
def rd_law_size (K : PySem.W.Frag) : TS := (tRet (tOp (rIx K) (tLst (tCons (tC (.int (3))) (tCons (tC (.int (1))) (tCons (tC (.int (2))) (tCons (tC (.int (5))) (tCons (tC (.int (4))) (tCons (tC (.int (6))) (tCons (tC (.int (9))) (tCons (tC (.int (12))) tNil))))))))) (tCall (spW (sp_law_draw K)) [] E0 (tCons (tVar 0) (tCons (tC (.int (8))) tNil)))))
def sp_law_size (K : PySem.W.Frag) : SpW := fun vs B M Q E => ∃ m c R N, vs = [.ref m] ∧ M = c ++ R ∧ Dr K B c m N ∧ N ≤ 900000000 ∧ ∀ (n : Nat) c', 1 ≤ n → n ≤ 12 → Dr K B c' m (N + 1) → Q (.int n) B (c' ++ R)
theorem len_law_size (K : PySem.W.Frag) : ∀ vs B M Q E, sp_law_size K vs B M Q E → vs.length = ps_law_size.length := by
  intro _ _ _ _ _ h
  unfold sp_law_size at h
  repeat (first | (obtain ⟨rfl, _⟩ := h; rfl) | (obtain ⟨_, h⟩ := h))
theorem pure_law_size (T : TX K mg) : ∀ vs B M Q E, sp_law_size K vs B M Q E → SW (rd_law_size K) (DW.up ⟨fun _ B M => Q .non B M, Q, fun _ _ _ => False, fun _ _ _ => False⟩) (start N_law_size vs) B M := by
  rintro _ B _ Q E ⟨m, c, R, N, rfl, rfl, hd, hN, q⟩
  unfold rd_law_size
  walk_at "q"
  refine ⟨le_line (Nat.le_refl 8), fun p => ?_⟩
  walk_at "q"
  refine cw_mid (cw_of ⟨m, c, _, N, 8, rfl, rfl, hd, by omega, by decide, by decide, fun r c1 r0 r1 hd1 => ?_⟩)
  have hi : r.toNat < 8 := by omega
  have hv : ∃ n : Nat, [V.int 3, V.int 1, V.int 2, V.int 5, V.int 4, V.int 6, V.int 9, V.int 12][r.toNat]? = some (.int n) ∧ 1 ≤ n ∧ n ≤ 12 := by
    generalize r.toNat = j at hi
    have : j = 0 ∨ j = 1 ∨ j = 2 ∨ j = 3 ∨ j = 4 ∨ j = 5 ∨ j = 6 ∨ j = 7 := by omega
    rcases this with rfl | rfl | rfl | rfl | rfl | rfl | rfl | rfl
    · exact ⟨3, rfl, by decide, by decide⟩
    · exact ⟨1, rfl, by decide, by decide⟩
    · exact ⟨2, rfl, by decide, by decide⟩
    · exact ⟨5, rfl, by decide, by decide⟩
    · exact ⟨4, rfl, by decide, by decide⟩
    · exact ⟨6, rfl, by decide, by decide⟩
    · exact ⟨9, rfl, by decide, by decide⟩
    · exact ⟨12, rfl, by decide, by decide⟩
  obtain ⟨n, hn, n1, n12⟩ := hv
  refine ix_l (xs := [V.int 3, V.int 1, V.int 2, V.int 5, V.int 4, V.int 6, V.int 9, V.int 12]) (v := .int n) (.of (.inr (List.mem_append_right _ (List.mem_cons_self ..)))) (by refine Eq.trans (atI_in r0 ?_) hn; exact r1) ?_
  exact .le ((Le.mid' c1).trans (Le.drop .refl)) (q n c1 n1 n12 hd1)
theorem ok_law_size (T : TX K mg) : Fnk P w K mg base d_law_size ps_law_size 2 (spW (sp_law_size K)) :=
  fnk_of (N := N_law_size) (rd_law_size K) T.d_law_size sc_law_size (len_law_size K) (fun f cdv A outer sh H E hr => (pss_one (ps_ret (pe_ix ix_seq (pe_lst (pa_cons pe_int (pa_cons pe_int (pa_cons pe_int (pa_cons pe_int (pa_cons pe_int (pa_cons pe_int (pa_cons pe_int (pa_cons pe_int pa_nil))))))))) (pe_fn (ok_law_draw T) bp_law_draw_2 hr (by decide) rfl T.g__law_draw (pa_cons (pv 0) (pa_cons pe_int pa_nil))) (fun _ _ => rfl))))) (pure_law_size T)
abbrev N_law_number : List Str := ["_law_m", "_law_size_here"]
abbrev ps_law_number : List Str := ["_law_m", "_law_size_here"]
theorem sc_law_number : FnScope N_law_number ps_law_number (defScope s_law_number) := ⟨rfl, rfl, rfl, by decide +kernel, rfl, by decide +kernel, by decide +kernel⟩
def rd_law_number (K : PySem.W.Frag) : TS := (tRet (tOp (rIx K) (tLst (tCons (tC (.int (0))) (tCons (tC (.int (1))) (tCons (tVar 1) (tCons (tCall (spW (sp_law_draw K)) [] E0 (tCons (tVar 0) (tCons (tC (.int (1000))) tNil))) (tCons (tC (.int (999))) (tCons (tCall (spW (sp_law_draw K)) [] E0 (tCons (tVar 0) (tCons (tOp (rMulU) (tC (.int (2))) (tVar 1)) tNil))) (tCons (tOp (rMulU) (tC (.int (60))) (tOp (rAddU K) (tC (.int (1))) (tCall (spW (sp_law_draw K)) [] E0 (tCons (tVar 0) (tCons (tC (.int (4))) tNil))))) tNil)))))))) (tCall (spW (sp_law_draw K)) [] E0 (tCons (tVar 0) (tCons (tC (.int (7))) tNil)))))
def sp_law_number (K : PySem.W.Frag) : SpW := fun vs B M Q E => ∃ m c R N, ∃ z : Int, vs = [.ref m, .int z] ∧ M = c ++ R ∧ Dr K B c m N ∧ N ≤ 900000000 ∧ 1 ≤ z ∧ z ≤ 40 ∧ ∀ n c', 0 ≤ n → n ≤ 999 → Dr K B c' m (N + 4) → Q (.int n) B (c' ++ R)
theorem len_law_number (K : PySem.W.Frag) : ∀ vs B M Q E, sp_law_number K vs B M Q E → vs.length = ps_law_number.length := by
  intro _ _ _ _ _ h
  unfold sp_law_number at h
  repeat (first | (obtain ⟨rfl, _⟩ := h; rfl) | (obtain ⟨_, h⟩ := h))
theorem pure_law_number (T : TX K mg) : ∀ vs B M Q E, sp_law_number K vs B M Q E → SW (rd_law_number K) (DW.up ⟨fun _ B M => Q .non B M, Q, fun _ _ _ => False, fun _ _ _ => False⟩) (start N_law_number vs) B M := by
  rintro _ B _ Q E ⟨m, c, R, N, z, rfl, rfl, hd, hN, z1, z40, q⟩
  unfold rd_law_number
  walk_at "q"
  refine cw_of ⟨m, c, _, N, 1000, rfl, rfl, hd, by omega, by decide, by decide, fun a c1 a0 a1 hd1 => ?_⟩
  walk_at "q"
  refine mul_int (small_mul (by decide) (by decide) (by omega) (by omega)) ?_
  walk_at "q"
  refine cw_of ⟨m, c1, _, N + 1, 2 * z, rfl, rfl, hd1, by omega, by omega, by omega, fun b c2 b0 b1 hd2 => ?_⟩
  walk_at "q"
  refine cw_of ⟨m, c2, _, N + 2, 4, rfl, rfl, hd2, by omega, by decide, by decide, fun d c3 d0 d1 hd3 => ?_⟩
  walk_at "q"
  refine mul_int (small_mul (by decide) (by decide) (by omega) (by omega)) ?_
  walk_at "q"
  refine ⟨le_line (Nat.le_refl 7), fun p => ?_⟩
  walk_at "q"
  refine cw_mid (cw_of ⟨m, c3, _, N + 3, 7, rfl, rfl, hd3, by omega, by decide, by decide, fun r c4 r0 r1 hd4 => ?_⟩)
  have hi : r.toNat < 7 := by omega
  have hv : ∃ n : Int, [V.int 0, V.int 1, V.int z, V.int a, V.int 999, V.int b, V.int (60 * (1 + d))][r.toNat]? = some (.int n) ∧ 0 ≤ n ∧ n ≤ 999 := by
    generalize r.toNat = j at hi
    have : j = 0 ∨ j = 1 ∨ j = 2 ∨ j = 3 ∨ j = 4 ∨ j = 5 ∨ j = 6 := by omega
    rcases this with rfl | rfl | rfl | rfl | rfl | rfl | rfl
    · exact ⟨0, rfl, by decide, by decide⟩
    · exact ⟨1, rfl, by decide, by decide⟩
    · exact ⟨z, rfl, by omega, by omega⟩
    · exact ⟨a, rfl, by omega, by omega⟩
    · exact ⟨999, rfl, by decide, by decide⟩
    · exact ⟨b, rfl, by omega, by omega⟩
    · exact ⟨60 * (1 + d), rfl, by omega, by omega⟩
  obtain ⟨n, hn, n1, n12⟩ := hv
  refine ix_l (xs := [V.int 0, V.int 1, V.int z, V.int a, V.int 999, V.int b, V.int (60 * (1 + d))]) (v := .int n) (.of (.inr (List.mem_append_right _ (List.mem_cons_self ..)))) (by refine Eq.trans (atI_in r0 ?_) hn; exact r1) ?_
  exact .le ((Le.mid' c4).trans (Le.drop .refl)) (q n c4 n1 n12 hd4)
theorem ok_law_number (T : TX K mg) : Fnk P w K mg base d_law_number ps_law_number 2 (spW (sp_law_number K)) :=
  fnk_of (N := N_law_number) (rd_law_number K) T.d_law_number sc_law_number (len_law_number K) (fun f cdv A outer sh H E hr => (pss_one (ps_ret (pe_ix ix_seq (pe_lst (pa_cons pe_int (pa_cons pe_int (pa_cons (pv 1) (pa_cons (pe_fn (ok_law_draw T) bp_law_draw_2 hr (by decide) rfl T.g__law_draw (pa_cons (pv 0) (pa_cons pe_int pa_nil))) (pa_cons pe_int (pa_cons (pe_fn (ok_law_draw T) bp_law_draw_2 hr (by decide) rfl T.g__law_draw (pa_cons (pv 0) (pa_cons (pe_op op_mulU pe_int (pv 1)) pa_nil))) (pa_cons (pe_op op_mulU pe_int (pe_op op_addU pe_int (pe_fn (ok_law_draw T) bp_law_draw_2 hr (by decide) rfl T.g__law_draw (pa_cons (pv 0) (pa_cons pe_int pa_nil))))) pa_nil)))))))) (pe_fn (ok_law_draw T) bp_law_draw_2 hr (by decide) rfl T.g__law_draw (pa_cons (pv 0) (pa_cons pe_int pa_nil))) (fun _ _ => rfl))))) (pure_law_number T)
abbrev N_law_asked : List Str := ["_law_row"]
abbrev ps_law_asked : List Str := ["_law_row"]
theorem sc_law_asked : FnScope N_law_asked ps_law_asked (defScope s_law_asked) := ⟨rfl, rfl, rfl, by decide +kernel, rfl, by decide +kernel, by decide +kernel⟩
def rd_law_asked (K : PySem.W.Frag) : TS := (tRet (tMakeN (He.ga K "Question") 3 4 (spW (sp_QuestionX_initX K)) (fun vs zs => vs ++ zs) E0 (tCons (tOp (rIx K) (tVar 0) (tC (.int (0)))) (tCons (tOp (rIx K) (tVar 0) (tC (.int (1)))) (tCons (tOp (rIx K) (tVar 0) (tC (.int (2)))) tNil))) (tCons (tOp (rIx K) (tVar 0) (tC (.int (3)))) (tCons (tOp (rIx K) (tVar 0) (tC (.int (4)))) (tCons (tOp (rIx K) (tVar 0) (tC (.int (5)))) (tCons (tOp (rIx K) (tVar 0) (tC (.int (6)))) tNil))))))
def sp_law_asked (K : PySem.W.Frag) : SpW := fun vs B M Q E => ∃ a q, vs = [.ref a] ∧ RowAt B a q ∧ QOk q ∧ ∀ B' a', Ex B B' → QAt K B' a' q → Q (.ref a') B' M
theorem len_law_asked (K : PySem.W.Frag) : ∀ vs B M Q E, sp_law_asked K vs B M Q E → vs.length = ps_law_asked.length := by
  intro _ _ _ _ _ h
  unfold sp_law_asked at h
  repeat (first | (obtain ⟨rfl, _⟩ := h; rfl) | (obtain ⟨_, h⟩ := h))
theorem pure_law_asked (T : TX K mg) : ∀ vs B M Q E, sp_law_asked K vs B M Q E → SW (rd_law_asked K) (DW.up ⟨fun _ B M => Q .non B M, Q, fun _ _ _ => False, fun _ _ _ => False⟩) (start N_law_asked vs) B M := by
  rintro _ B M Q E ⟨a, q, rfl, ⟨b, ha, hb⟩, ok, k0⟩
  have tw : ∀ {M : MM}, TupW K B M a (qVs q b) := .per ha
  unfold rd_law_asked
  walk_at "q"
  refine ix_t tw rfl ?_
  walk_at "q"
  refine ix_t tw rfl ?_
  walk_at "q"
  refine ix_t tw rfl ?_
  walk_at "q"
  refine ix_t tw rfl ?_
  walk_at "q"
  refine ix_t tw rfl ?_
  walk_at "q"
  refine ix_t tw rfl ?_
  walk_at "q"
  refine ix_t tw rfl ?_
  walk_at "q"
  intro x dx
  refine cw_of ⟨x, dx, M, q, b, rfl, rfl, hb, ok, rfl, ?_⟩
  walk_at "q"
  exact .keep fun ex at_ => .here (k0 _ x ex ⟨dx, b, at_, hb.ex ex⟩)
theorem ok_law_asked (T : TX K mg) : Fnk P w K mg base d_law_asked ps_law_asked 5 (spW (sp_law_asked K)) :=
  fnk_of (N := N_law_asked) (rd_law_asked K) T.d_law_asked sc_law_asked (len_law_asked K) (fun f cdv A outer sh H E hr => (pss_one (ps_ret (pe_mkk (ok_QuestionX_initX T) bk_QuestionX_initX_4_right_toil_marks_kin hr (by decide) T.mk_Question rfl T.g_Question (pa_cons (pe_ix ix_seq (pv 0) pe_int (fun _ _ => rfl)) (pa_cons (pe_ix ix_seq (pv 0) pe_int (fun _ _ => rfl)) (pa_cons (pe_ix ix_seq (pv 0) pe_int (fun _ _ => rfl)) pa_nil))) (pk_cons (pe_ix ix_seq (pv 0) pe_int (fun _ _ => rfl)) (pk_cons (pe_ix ix_seq (pv 0) pe_int (fun _ _ => rfl)) (pk_cons (pe_ix ix_seq (pv 0) pe_int (fun _ _ => rfl)) (pk_cons (pe_ix ix_seq (pv 0) pe_int (fun _ _ => rfl)) pk_nil)))))))) (pure_law_asked T)
end
end Pap

set_option maxHeartbeats 4000000
/-! S15: rows, banks, papers of the law. -/
namespace Pap
open PySem PySem.Spec PyProof.Rows L2 PT
local macro_rules | `(tactic| walk_at "q1") => `(tactic| first
  | with_reducible refine sw_seq ?_
  | with_reducible refine sw_ret ?_
  | with_reducible refine sw_if ?_
  | with_reducible refine sw_next ?_
  | with_reducible refine sw_drop ?_
  | with_reducible refine sw_retN ?_
  | with_reducible refine sw_set ?_
  | with_reducible refine sw_par ?_
  | with_reducible refine sw_par3 ?_
  | with_reducible refine sw_asg ?_
  | with_reducible refine gw_name ?_
  | with_reducible refine gsw_cons ?_
  | with_reducible refine gsw_nil ?_
  | with_reducible refine tw_or ?_
  | with_reducible refine tw_and ?_
  | with_reducible refine tw_not ?_
  | with_reducible refine tw_B ?_
  | with_reducible refine tw_test ?_
  | with_reducible refine tw_yes ?_
  | with_reducible refine ew_cb ?_
  | with_reducible refine ew_c ?_
  | with_reducible refine ew_op ?_
  | with_reducible refine ew_chain ?_
  | with_reducible refine ew_notV ?_
  | with_reducible refine ew_andV ?_
  | with_reducible refine ew_orV ?_
  | with_reducible refine ew_un ?_
  | with_reducible refine ew_then ?_
  | with_reducible refine ew_sl ?_
  | with_reducible refine ow_no ?_
  | with_reducible refine ow_some ?_
  | with_reducible refine ew_tup ?_
  | with_reducible refine ew_lst ?_
  | with_reducible refine ew_tupF ?_
  | with_reducible refine ew_dnew ?_
  | with_reducible refine ew_call ?_
  | with_reducible refine ew_callN ?_
  | with_reducible refine ew_make ?_
  | with_reducible refine ew_makeN ?_
  | with_reducible refine ew_meth ?_
  | with_reducible refine ew_methK ?_
  | with_reducible refine ew_tm ?_
  | with_reducible refine ew_bm ?_
  | with_reducible refine ew_bm0 ?_
  | with_reducible refine aw_nil ?_
  | with_reducible refine aw_cons ?_
  | (with_reducible refine ew_varE ?_; refine ⟨_, rfl, ?_⟩)
  | with_reducible refine le_int ?_
  | with_reducible refine lt_int ?_
  | with_reducible refine ge_int ?_
  | with_reducible refine gt_int ?_
  | with_reducible refine eq_int ?_
  | with_reducible refine ne_int ?_
  | with_reducible refine eq_str ?_
  | with_reducible refine ne_str ?_
  | with_reducible refine add_int ?_
  | with_reducible refine sub_int ?_
  | with_reducible refine is_n ?_
  | with_reducible refine isn_n ?_
  | with_reducible refine isi_ii ?_
  | with_reducible refine isi_ib ?_
  | with_reducible refine isi_ss ?_
  | (with_reducible refine ⟨rfl, rfl, ?_⟩)
  | with_reducible refine up_rt ?_
  | with_reducible refine up_nx ?_
  | with_reducible refine tt_ ?_
  | with_reducible refine ff_ ?_
  | with_reducible refine ⟨_, rfl, ?_⟩
  | rw [Bool.not_true]
  | rw [Bool.not_false]
  | (show _ ∧ _; with_reducible refine tt_ ?_)
  | (show _ ∧ _; with_reducible refine ff_ ?_)
  | fail "q1: no step")
local macro_rules | `(tactic| walk_at "q") => `(tactic| repeat walk_at "q1")
local macro_rules | `(tactic| walk_at "le") => `(tactic| repeat (first | with_reducible exact Le.refl | with_reducible refine Le.drop ?_ | with_reducible refine Le.app ?_))
local macro_rules | `(tactic| walk_at "nq") => `(tactic| first | exact TX.n_Question_name (by assumption) | exact TX.n_Question_matter (by assumption) | exact TX.n_Question_answers (by assumption) | exact TX.n_Question_right (by assumption) | exact TX.n_Question_toil (by assumption) | exact TX.n_Question_marks (by assumption) | exact TX.n_Question_kin (by assumption))
local macro_rules | `(tactic| walk_at "fl") => `(tactic| refine ⟨_, _, _, rfl, .inl (by assumption), _, rfl, ?_⟩)
local macro_rules | `(tactic| walk_at "fq") => `(tactic| (walk_at "q"; (with_reducible refine ew_fldE (TX.c_Question (by assumption)) (by walk_at "nq") ?_); walk_at "q"; walk_at "fl"; walk_at "q"))

structure RowsOk (rs : QL) : Prop where
  qs : ∀ r ∈ rs, QOk r.2
  zy : ∀ r ∈ rs, r.2.name ≠ "zyzzyva"
  up : (nms rs).Pairwise StrLt
section
variable {P : Program} {w : World} {K : PySem.W.Frag} {mg : Str → Option Value} {base : Heap}
abbrev N_law_rows : List Str := ["_law_m", "_law_count", "_law_found", "_law_matters", "_law_name", "_law_answers_here", "_law_tribe", "_law_sure", "_law_heavy", "_law_worth"]
abbrev ps_law_rows : List Str := ["_law_m", "_law_count"]
theorem sc_law_rows : FnScope N_law_rows ps_law_rows (defScope s_law_rows) := ⟨rfl, rfl, rfl, by decide +kernel, rfl, by decide +kernel, by decide +kernel⟩
theorem bp_law_answers_1 {K : PySem.W.Frag} : BindP K d_law_answers ps_law_answers [] := bindP_n rfl rfl fun _ _ _ _ _ _ us hl => match us, hl with | [_], _ => rfl
theorem bp_law_names_2 {K : PySem.W.Frag} : BindP K d_law_names ps_law_names [] := bindP_n rfl rfl fun _ _ _ _ _ _ us hl => match us, hl with | [_, _], _ => rfl
theorem bp_law_of_2 {K : PySem.W.Frag} : BindP K d_law_of ps_law_of [] := bindP_n rfl rfl fun _ _ _ _ _ _ us hl => match us, hl with | [_, _], _ => rfl
def rd_law_rows (K : PySem.W.Frag) : TS := (tSeq (tPar 2 3 (tCons (tLst tNil) (tCons (tCall (spW (sp_law_names K)) [] E0 (tCons (tVar 0) (tCons (tC (.int (3))) tNil))) tNil))) (tSeq (tFor (iAny K (tCall (spW (sp_law_names K)) [] E0 (tCons (tVar 0) (tCons (tVar 1) tNil)))) (gName 4) (tSeq (tAsg (tCall (spW (sp_law_answers K)) [] E0 (tCons (tVar 0) tNil)) (gName 5)) (tSeq (tAsg (tCall (spW (sp_law_of K)) [] E0 (tCons (tVar 0) (tCons (tLst (tCons (tC (.str "")) (tCons (tC (.str "")) (tCons (tC (.str "kin")) (tCons (tC (.str "ab")) tNil))))) tNil))) (gName 6)) (tSeq (tPar3 7 8 9 (tCons (tCall (spW (sp_law_draw K)) [] E0 (tCons (tVar 0) (tCons (tCB (rLenU K) (tCons (tVar 5) tNil)) tNil))) (tCons (tOp (rAddU K) (tC (.int (1))) (tCall (spW (sp_law_draw K)) [] E0 (tCons (tVar 0) (tCons (tC (.int (9))) tNil)))) (tCons (tOp (rAddU K) (tC (.int (1))) (tCall (spW (sp_law_draw K)) [] E0 (tCons (tVar 0) (tCons (tC (.int (9))) tNil)))) tNil)))) (tDrop (tBM K "list" rAppend (tVar 2) (tCons (tTup (tCons (tVar 4) (tCons (tCall (spW (sp_law_of K)) [] E0 (tCons (tVar 0) (tCons (tVar 3) tNil))) (tCons (tVar 5) (tCons (tVar 7) (tCons (tVar 8) (tCons (tVar 9) (tCons (tVar 6) tNil)))))))) tNil))))))) (tRet (tVar 2))))
def sp_law_rows (K : PySem.W.Frag) : SpW := fun vs B M Q E => ∃ m c R N, ∃ n : Nat, vs = [.ref m, .int n] ∧ M = c ++ R ∧ Dr K B c m N ∧ N ≤ 800000000 ∧ n ≤ 40 ∧ ∀ B' l (rs : QL) c', Ex B B' → RowsAt B' l rs → rs.length = n → RowsOk rs → Dr K B' c' m (N + 1300) → Q (.ref l) B' (c' ++ R)
theorem len_law_rows (K : PySem.W.Frag) : ∀ vs B M Q E, sp_law_rows K vs B M Q E → vs.length = ps_law_rows.length := by
  intro _ _ _ _ _ h
  unfold sp_law_rows at h
  repeat (first | (obtain ⟨rfl, _⟩ := h; rfl) | (obtain ⟨_, h⟩ := h))
theorem pure_law_rows (T : TX K mg) : ∀ vs B M Q E, sp_law_rows K vs B M Q E → SW (rd_law_rows K) (DW.up ⟨fun _ B M => Q .non B M, Q, fun _ _ _ => False, fun _ _ _ => False⟩) (start N_law_rows vs) B M := by
  rintro _ B _ Q E ⟨m, c, R, N, n, rfl, rfl, hd, hN, hn, q⟩
  unfold rd_law_rows
  walk_at "q"
  refine ⟨le_line (Nat.zero_le 0), fun pf => ?_⟩
  walk_at "q"
  refine cw_mid (cw_of ⟨m, c, _, N, 3, rfl, rfl, hd, by omega, by decide, fun B1 lm zm c1 e1 hm zml _ zmo hd1 => ?_⟩)
  walk_at "q"
  refine ⟨_, _, rfl, ?_⟩
  refine sw_seq (sw_for (iw_any ?_))
  walk_at "q"
  refine cw_of ⟨m, c1, _, N + 100, n, rfl, rfl, hd1, by omega, hn, fun B2 ln zs c2 e2 hl zl zup zok hd2 => ?_⟩
  refine .inl ⟨ln, zs.map V.str, rfl, .per hl, _, _, _, fun i σ B' M' => (∃ v4 v5 v6 v7 v8 v9, σ = [some (.ref m), some (.int n), some (.ref pf), some (.ref lm), v4, v5, v6, v7, v8, v9]) ∧ Ex B2 B' ∧ ∃ c' rs, M' = c' ++ (pf, .lst (rs.map fun r : Addr × Qn => .ref r.1)) :: R ∧ Dr K B' c' m (N + 200 + 20 * i) ∧ nms rs = zs.take i ∧ ∀ r ∈ rs, RowAt B' r.1 r.2 ∧ QOk r.2, runs_list (xs := zs.map V.str), ⟨⟨_, _, _, _, _, _, rfl⟩, Ex.rfl', c2, [], rfl, hd2, rfl, fun _ h => nomatch h⟩, ?_, ?_, ?_⟩
  · rintro i σ B' M' ⟨_, e, _⟩
    exact .per (e _ _ hl)
  · rintro i v _ B3 _ _ _ hi ⟨⟨v4, v5, v6, v7, v8, v9, rfl⟩, e, c3, rs, rfl, hd3, hnm, hrs⟩ ⟨hv, rfl, rfl⟩
    rw [List.length_map] at hi
    rw [List.getElem?_map, Option.map_eq_some_iff] at hv
    obtain ⟨z, hz, rfl⟩ := hv
    have zk := zok z (List.mem_of_getElem? hz)
    walk_at "q"
    refine cw_of ⟨m, c3, _, N + 200 + 20 * i, rfl, rfl, hd3, by omega, fun B4 b ans c4 e4 hb ok hd4 => ?_⟩
    walk_at "q"
    refine ⟨le_line (Nat.le_refl 4), fun p => ?_⟩
    walk_at "q"
    refine cw_mid (cw_of ⟨m, c4, _, N + 200 + 20 * i + 7, p, [.str "", .str "", .str "kin", .str "ab"], rfl, rfl, hd4, by omega, .of .here, by decide, by decide, fun tr c5 htr hd5 => ?_⟩)
    have htr' : ∃ t : Str, tr = .str t ∧ (t = "" ∨ nameB t = true) := by
      simp only [List.mem_cons, List.not_mem_nil, or_false] at htr
      rcases htr with rfl | rfl | rfl | rfl
      · exact ⟨_, rfl, .inl rfl⟩
      · exact ⟨_, rfl, .inl rfl⟩
      · exact ⟨_, rfl, .inr (by decide +kernel)⟩
      · exact ⟨_, rfl, .inr (by decide +kernel)⟩
    obtain ⟨t, rfl, ht⟩ := htr'
    refine sw_le ((Le.mid' c5).trans (Le.drop .refl)) ?_
    walk_at "q"
    have al := ok.lo
    have ah := ok.hi
    refine len_t hb.F.W ?_
    rw [List.length_map]
    walk_at "q"
    refine cw_of ⟨m, c5, _, _, _, rfl, rfl, hd5, by omega, by omega, by omega, fun su c6 su0 su1 hd6 => ?_⟩
    walk_at "q"
    refine cw_of ⟨m, c6, _, _, 9, rfl, rfl, hd6, by omega, by decide, by decide, fun he c7 he0 he1 hd7 => ?_⟩
    walk_at "q"
    refine cw_of ⟨m, c7, _, _, 9, rfl, rfl, hd7, by omega, by decide, by decide, fun wo c8 wo0 wo1 hd8 => ?_⟩
    walk_at "q"
    refine ⟨_, _, _, rfl, ?_⟩
    walk_at "q"
    refine ⟨TyMW.l (.of (.inr (List.mem_append_right _ (List.mem_cons_self ..)))), ?_⟩
    walk_at "q"
    refine cw_of ⟨m, c8, _, _, lm, zm.map .str, rfl, rfl, hd8, by omega, .per ((e2.trans (e.trans e4)) _ _ hm), by rw [List.length_map]; omega, by rw [List.length_map]; omega, fun mv c9 hmv hd9 => ?_⟩
    obtain ⟨mt, hmt, rfl⟩ := List.mem_map.mp hmv
    walk_at "q"
    refine ⟨le_line (Nat.le_refl 7), fun pt => ?_⟩
    walk_at "q"
    have hql : rs.length = i := by
      have := congrArg List.length hnm
      unfold nms at this
      rw [List.length_map, List.length_take] at this
      omega
    have hap : zs.take (i + 1) = zs.take i ++ [z] := by rw [List.take_succ, hz] <;> rfl
    refine append_ (Sel.tl _ (Sel.app c9 (Sel.one _ _ _))) (by rw [List.length_map, sizeLine_eq]; omega) ?_
    refine .keep fun ex at_ => .here ⟨⟨_, _, _, _, _, _, rfl⟩, (e.trans e4).trans ex, c9, rs ++ [(pt, ⟨z, mt, ans, su, 1 + he, 1 + wo, t⟩)], by rw [List.map_append]; rfl, ((hd9.up (by omega)).ex ex), ?_, fun r hr => ?_⟩
    · unfold nms at hnm ⊢
      rw [List.map_append, hnm, hap] <;> rfl
    · rcases List.mem_append.mp hr with h | h
      · exact ⟨(hrs r h).1.ex (e4.trans ex), (hrs r h).2⟩
      · rw [List.mem_singleton.mp h]
        exact ⟨⟨b, at_, hb.ex ex⟩, ⟨zk.1, (zmo mt hmt).1, ok, su0, su1, by show (1 : Int) ≤ 1 + he; omega, by show 1 + he ≤ (9 : Int); omega, by show (1 : Int) ≤ 1 + wo; omega, by show 1 + wo ≤ (9 : Int); omega, ht⟩⟩
  · rintro σ B3 _ ⟨⟨v4, v5, v6, v7, v8, v9, rfl⟩, e, c3, rs, rfl, hd3, hnm, hrs⟩
    rw [List.length_map, List.take_length] at hnm
    have hql : rs.length = n := by
      have := congrArg List.length hnm
      unfold nms at this
      rw [List.length_map] at this
      omega
    rw [List.length_map, zl] at hd3
    walk_at "q"
    refine .via (Le.mid' c3) (.keep fun ex at_ => .here (q _ pf rs c3 (((e1.trans e2).trans e).trans ex) ⟨at_, fun r hr => (hrs r hr).1.ex ex⟩ hql ⟨fun r hr => (hrs r hr).2, fun r hr => ?_, by rw [hnm]; exact zup⟩ ((hd3.up (by omega)).ex ex)))
    have : r.2.name ∈ nms rs := List.mem_map.mpr ⟨r, hr, rfl⟩
    rw [hnm] at this
    exact (zok _ this).2
theorem ok_law_rows (T : TX K mg) : Fnk P w K mg base d_law_rows ps_law_rows 3 (spW (sp_law_rows K)) :=
  fnk_of (N := N_law_rows) (rd_law_rows K) T.d_law_rows sc_law_rows (len_law_rows K) (fun f cdv A outer sh H E hr => (pss_cons (ps_par rfl sc_law_rows.nd (i := 2) (j := 3) rfl rfl (by decide) rfl rfl (pa_cons (pe_lst pa_nil) (pa_cons (pe_fn (ok_law_names T) bp_law_names_2 hr (by decide) rfl T.g__law_names (pa_cons (pv 0) (pa_cons pe_int pa_nil))) pa_nil)) rfl) (pss_cons (ps_for PassesOwn.never rfl (pi_any (pe_fn (ok_law_names T) bp_law_names_2 hr (by decide) rfl T.g__law_names (pa_cons (pv 0) (pa_cons (pv 1) pa_nil)))) (pg_name (i := 4) sc_law_rows.nd rfl (Or.inl rfl)) (pss_cons (ps_set (i := 5) sc_law_rows.nd rfl (Or.inl rfl) (pe_fn (ok_law_answers T) bp_law_answers_1 hr (by decide) rfl T.g__law_answers (pa_cons (pv 0) pa_nil))) (pss_cons (ps_set (i := 6) sc_law_rows.nd rfl (Or.inl rfl) (pe_fn (ok_law_of T) bp_law_of_2 hr (by decide) rfl T.g__law_of (pa_cons (pv 0) (pa_cons (pe_lst (pa_cons pe_str (pa_cons pe_str (pa_cons pe_str (pa_cons pe_str pa_nil))))) pa_nil)))) (pss_cons (ps_par3 rfl sc_law_rows.nd (i := 7) (j := 8) (l := 9) rfl rfl rfl (by decide) (by decide) (by decide) rfl rfl rfl (pa_cons (pe_fn (ok_law_draw T) bp_law_draw_2 hr (by decide) rfl T.g__law_draw (pa_cons (pv 0) (pa_cons (pe_callB call_lenU (by rfl) T.f_len (by decide +kernel) (pa_cons (pv 5) pa_nil)) pa_nil))) (pa_cons (pe_op op_addU pe_int (pe_fn (ok_law_draw T) bp_law_draw_2 hr (by decide) rfl T.g__law_draw (pa_cons (pv 0) (pa_cons pe_int pa_nil)))) (pa_cons (pe_op op_addU pe_int (pe_fn (ok_law_draw T) bp_law_draw_2 hr (by decide) rfl T.g__law_draw (pa_cons (pv 0) (pa_cons pe_int pa_nil)))) pa_nil))) rfl) (pss_one (ps_expr (pe_bm PySem.F.plainAttrs_list PySem.F.slot_list_append PySem.F.type_list_append mt_append (pv 2) (pa_cons (pe_tup (pa_cons (pv 4) (pa_cons (pe_fn (ok_law_of T) bp_law_of_2 hr (by decide) rfl T.g__law_of (pa_cons (pv 0) (pa_cons (pv 3) pa_nil))) (pa_cons (pv 5) (pa_cons (pv 7) (pa_cons (pv 8) (pa_cons (pv 9) (pa_cons (pv 6) pa_nil)))))))) pa_nil)))))))) (pss_one (ps_ret (pv 2)))))) (pure_law_rows T)
abbrev N_law_paper : List Str := ["_law_rows_here", "_law_row"]
abbrev ps_law_paper : List Str := ["_law_rows_here"]
theorem sc_law_paper : FnScope N_law_paper ps_law_paper (defScope s_law_paper) := ⟨rfl, rfl, rfl, by decide +kernel, rfl, by decide +kernel, by decide +kernel⟩
def rd_law_paper (K : PySem.W.Frag) : TS := (tRet (tThen (tLc (iAny K (tVar 0)) (gName 1) tYes (tOp (rIx K) (tVar 1) (tC (.int (0)))) [1]) (kTup K)))
def sp_law_paper (K : PySem.W.Frag) : SpW := fun vs B M Q E => ∃ l rs, vs = [.ref l] ∧ RowsAt B l rs ∧ rs.length ≤ 40 ∧ ∀ B' p, Ex B B' → B' p = some (.tup ((nms rs).map .str)) → Q (.ref p) B' M
theorem len_law_paper (K : PySem.W.Frag) : ∀ vs B M Q E, sp_law_paper K vs B M Q E → vs.length = ps_law_paper.length := by
  intro _ _ _ _ _ h
  unfold sp_law_paper at h
  repeat (first | (obtain ⟨rfl, _⟩ := h; rfl) | (obtain ⟨_, h⟩ := h))
theorem pure_law_paper (T : TX K mg) : ∀ vs B M Q E, sp_law_paper K vs B M Q E → SW (rd_law_paper K) (DW.up ⟨fun _ B M => Q .non B M, Q, fun _ _ _ => False, fun _ _ _ => False⟩) (start N_law_paper vs) B M := by
  rintro _ B M Q E ⟨l, rs, rfl, hrs, hl, q⟩
  unfold rd_law_paper
  walk_at "q"
  refine lc_seq ?_
  walk_at "q"
  refine ⟨l, rs.map (fun r => V.ref r.1), fun i => .str (rs.getD i q0).2.name, rfl, .inl (.per hrs.1), by rw [List.length_map]; exact le_line hl, fun D acc i v hv => ?_, fun D => ?_⟩
  · rw [List.getElem?_map, Option.map_eq_some_iff] at hv
    obtain ⟨r, hr, rfl⟩ := hv
    obtain ⟨b, ha, hb⟩ := hrs.2 r (List.mem_of_getElem? hr)
    walk_at "q"
    refine ix_t (.per ha) rfl ⟨?_, Le.refl⟩
    show V.str _ = V.str _
    rw [List.getD_eq_getElem?_getD, hr] <;> rfl
  · have e : ((List.range (rs.map fun r => V.ref r.1).length).map fun i => V.str (rs.getD i q0).2.name) = (nms rs).map .str := by
      unfold nms
      rw [List.length_map, List.map_map]
      exact map_range_get _ _ rs fun i z hz => by rw [List.getD_eq_getElem?_getD, hz] <;> rfl
    rw [e]
    refine tup_l (.of .here) fun p => ?_
    exact .keep fun ex at_ => .le (Le.drop .refl) (q _ p ex at_)
theorem ok_law_paper (T : TX K mg) : Fnk P w K mg base d_law_paper ps_law_paper 1 (spW (sp_law_paper K)) :=
  fnk_of (N := N_law_paper) (rd_law_paper K) T.d_law_paper sc_law_paper (len_law_paper K) (fun f cdv A outer sh H E hr => (pss_one (ps_ret (pe_tupleOf rfl T.f_tuple (pe_lc (own := [("_law_row", 1)]) rfl sc_law_paper.nd (pi_any (pv 0)) (blkOk_by (own := [("_law_row", 1)]) (N := N_law_paper) (sc := defScope s_law_paper) (by decide +kernel)) (fun _ _ _ _ _ => (pg_name (i := 1) sc_law_paper.nd rfl (Or.inl rfl))) (fun _ _ _ _ _ => pts_nil) (fun _ _ _ _ _ => (pe_ix ix_seq (pv 1) pe_int (fun _ _ => rfl)))))))) (pure_law_paper T)
end
end Pap

set_option maxHeartbeats 4000000
/-! S16: banks of the law; its own rows of a copy. -/
namespace Pap
open PySem PySem.Spec PyProof.Rows L2 PT
local macro_rules | `(tactic| walk_at "q1") => `(tactic| first
  | with_reducible refine sw_seq ?_
  | with_reducible refine sw_ret ?_
  | with_reducible refine sw_if ?_
  | with_reducible refine sw_next ?_
  | with_reducible refine sw_drop ?_
  | with_reducible refine sw_retN ?_
  | with_reducible refine sw_set ?_
  | with_reducible refine sw_par ?_
  | with_reducible refine sw_par3 ?_
  | with_reducible refine sw_asg ?_
  | with_reducible refine gw_name ?_
  | with_reducible refine gsw_cons ?_
  | with_reducible refine gsw_nil ?_
  | with_reducible refine tw_or ?_
  | with_reducible refine tw_and ?_
  | with_reducible refine tw_not ?_
  | with_reducible refine tw_B ?_
  | with_reducible refine tw_test ?_
  | with_reducible refine tw_yes ?_
  | with_reducible refine ew_cb ?_
  | with_reducible refine ew_c ?_
  | with_reducible refine ew_op ?_
  | with_reducible refine ew_chain ?_
  | with_reducible refine ew_notV ?_
  | with_reducible refine ew_andV ?_
  | with_reducible refine ew_orV ?_
  | with_reducible refine ew_un ?_
  | with_reducible refine ew_then ?_
  | with_reducible refine ew_sl ?_
  | with_reducible refine ow_no ?_
  | with_reducible refine ow_some ?_
  | with_reducible refine ew_tup ?_
  | with_reducible refine ew_lst ?_
  | with_reducible refine ew_tupF ?_
  | with_reducible refine ew_dnew ?_
  | with_reducible refine ew_call ?_
  | with_reducible refine ew_callN ?_
  | with_reducible refine ew_make ?_
  | with_reducible refine ew_makeN ?_
  | with_reducible refine ew_meth ?_
  | with_reducible refine ew_methK ?_
  | with_reducible refine ew_tm ?_
  | with_reducible refine ew_bm ?_
  | with_reducible refine ew_bm0 ?_
  | with_reducible refine aw_nil ?_
  | with_reducible refine aw_cons ?_
  | (with_reducible refine ew_varE ?_; refine ⟨_, rfl, ?_⟩)
  | with_reducible refine le_int ?_
  | with_reducible refine lt_int ?_
  | with_reducible refine ge_int ?_
  | with_reducible refine gt_int ?_
  | with_reducible refine eq_int ?_
  | with_reducible refine ne_int ?_
  | with_reducible refine eq_str ?_
  | with_reducible refine ne_str ?_
  | with_reducible refine add_int ?_
  | with_reducible refine sub_int ?_
  | with_reducible refine is_n ?_
  | with_reducible refine isn_n ?_
  | with_reducible refine isi_ii ?_
  | with_reducible refine isi_ib ?_
  | with_reducible refine isi_ss ?_
  | (with_reducible refine ⟨rfl, rfl, ?_⟩)
  | with_reducible refine up_rt ?_
  | with_reducible refine up_nx ?_
  | with_reducible refine tt_ ?_
  | with_reducible refine ff_ ?_
  | with_reducible refine ⟨_, rfl, ?_⟩
  | rw [Bool.not_true]
  | rw [Bool.not_false]
  | (show _ ∧ _; with_reducible refine tt_ ?_)
  | (show _ ∧ _; with_reducible refine ff_ ?_)
  | fail "q1: no step")
local macro_rules | `(tactic| walk_at "q") => `(tactic| repeat walk_at "q1")
local macro_rules | `(tactic| walk_at "le") => `(tactic| repeat (first | with_reducible exact Le.refl | with_reducible refine Le.drop ?_ | with_reducible refine Le.app ?_))
local macro_rules | `(tactic| walk_at "nq") => `(tactic| first | exact TX.n_Question_name (by assumption) | exact TX.n_Question_matter (by assumption) | exact TX.n_Question_answers (by assumption) | exact TX.n_Question_right (by assumption) | exact TX.n_Question_toil (by assumption) | exact TX.n_Question_marks (by assumption) | exact TX.n_Question_kin (by assumption))
local macro_rules | `(tactic| walk_at "fl") => `(tactic| refine ⟨_, _, _, rfl, .inl (by assumption), _, rfl, ?_⟩)
local macro_rules | `(tactic| walk_at "fq") => `(tactic| (walk_at "q"; (with_reducible refine ew_fldE (TX.c_Question (by assumption)) (by walk_at "nq") ?_); walk_at "q"; walk_at "fl"; walk_at "q"))

def zq : Qn := ⟨"zyzzyva", "other", ["a", "b"], 0, 5, 1, ""⟩
theorem zq_ok : QOk zq := ⟨by decide +kernel, by decide +kernel, ⟨by decide, by decide, by decide +kernel, fun z hz => List.all_eq_true.mp (show (["a", "b"] : List Str).all textB = true by decide +kernel) z hz⟩, by decide, by decide, by decide, by decide, by decide, by decide, .inl rfl⟩
/-- a bank made of rows -/
structure BankOf (K : PySem.W.Frag) (B : Hp) (x : Addr) (rs : QL) : Prop where
  ex : ∃ qs, BankAt K B x qs ∧ qs.length ≤ 60 ∧ (nms qs).Nodup ∧ ∀ r ∈ rs, ∃ a, (a, r.2) ∈ qs
theorem BankOf.up {K : PySem.W.Frag} {B B' : Hp} {x : Addr} {rs : QL} (h : BankOf K B x rs) (e : Ex B B') : BankOf K B' x rs := let ⟨qs, h1, h2⟩ := h.ex; ⟨qs, h1.ex e, h2⟩
section
variable {P : Program} {w : World} {K : PySem.W.Frag} {mg : Str → Option Value} {base : Heap}
abbrev N_law_bank : List Str := ["_law_m", "_law_rows_here", "_law_turn", "_law_store", "_law_row"]
abbrev ps_law_bank : List Str := ["_law_m", "_law_rows_here"]
theorem sc_law_bank : FnScope N_law_bank ps_law_bank (defScope s_law_bank) := ⟨rfl, rfl, rfl, by decide +kernel, rfl, by decide +kernel, by decide +kernel⟩
theorem bp_QuestionX_initX_4 {K : PySem.W.Frag} : BindP K d_QuestionX_initX ps_QuestionX_initX [.int (0), .int (5), .int (1), .str ""] := bindP_d 4 0 (by intro h; cases h) rfl fun _ _ _ _ _ _ _ us its h1 h2 => match us, its, h1, h2 with | [_, _, _, _], [_, _, _, _], _, _ => ⟨_, rfl, rfl⟩
theorem bp_law_asked_1 {K : PySem.W.Frag} : BindP K d_law_asked ps_law_asked [] := bindP_n rfl rfl fun _ _ _ _ _ _ us hl => match us, hl with | [_], _ => rfl
def rd_law_bank (K : PySem.W.Frag) : TS := (tSeq (tAsg (tCall (spW (sp_law_draw K)) [] E0 (tCons (tVar 0) (tCons (tCB (rLenU K) (tCons (tVar 1) tNil)) tNil))) (gName 2)) (tSeq (tAsg (tMake (He.ga K "Bank") (spW (sp_BankX_initX K)) [] E0 (tCons (tLc (iAny K (tOp (rAddU K) (tSl (rSlU K) (tVar 1) (tPart (tVar 2)) tNoPart) (tSl (rSlU K) (tVar 1) tNoPart (tPart (tVar 2))))) (gName 4) tYes (tCall (spW (sp_law_asked K)) [] E0 (tCons (tVar 4) tNil)) [4]) tNil)) (gName 3)) (tSeq (tDrop (tMeth (He.ga K "Bank") "added" (spW (sp_Bank_added K)) [] E0 (tVar 3) (tCons (tMake (He.ga K "Question") (spW (sp_QuestionX_initX K)) [.int (0), .int (5), .int (1), .str ""] E0 (tCons (tC (.str "zyzzyva")) (tCons (tC (.str "other")) (tCons (tTupF (tCons (tC (.str "a")) (tCons (tC (.str "b")) tNil))) tNil)))) tNil))) (tRet (tVar 3)))))
def sp_law_bank (K : PySem.W.Frag) : SpW := fun vs B M Q E => ∃ m c R N l rs, vs = [.ref m, .ref l] ∧ M = c ++ R ∧ Dr K B c m N ∧ N ≤ 900000000 ∧ RowsAt B l rs ∧ RowsOk rs ∧ 1 ≤ rs.length ∧ rs.length ≤ 40 ∧ ∀ B' x c', Ex B B' → BankOf K B' x rs → Dr K B' c' m (N + 1) → Q (.ref x) B' (c' ++ R)
theorem len_law_bank (K : PySem.W.Frag) : ∀ vs B M Q E, sp_law_bank K vs B M Q E → vs.length = ps_law_bank.length := by
  intro _ _ _ _ _ h
  unfold sp_law_bank at h
  repeat (first | (obtain ⟨rfl, _⟩ := h; rfl) | (obtain ⟨_, h⟩ := h))
theorem pure_law_bank (T : TX K mg) : ∀ vs B M Q E, sp_law_bank K vs B M Q E → SW (rd_law_bank K) (DW.up ⟨fun _ B M => Q .non B M, Q, fun _ _ _ => False, fun _ _ _ => False⟩) (start N_law_bank vs) B M := by
  rintro _ B _ Q E ⟨m, c, R, N, l, rs, rfl, rfl, hd, hN, hrs, ok, l1, l40, q⟩
  have hll : (rs.map fun r : Addr × Qn => V.ref r.1).length = rs.length := List.length_map _
  unfold rd_law_bank
  walk_at "q"
  refine len_l (.per hrs.1) ?_
  rw [hll]
  walk_at "q"
  refine cw_of ⟨m, c, _, N, _, rfl, rfl, hd, by omega, by omega, by omega, fun t c1 t0 t1 hd1 => ?_⟩
  walk_at "q"
  refine ew_lc (iw_any ?_)
  walk_at "q"
  refine sl_l (.per hrs.1) fun p1 => ?_
  walk_at "q"
  refine sl_l (.per hrs.1) fun p2 => ?_
  rw [cutV_from t0 (by rw [hll]; omega), cutV_to t0 (by rw [hll]; omega), ← List.map_drop, ← List.map_take]
  refine add_lst (.tail .here) .here (by rw [List.length_map, List.length_map, List.length_drop, List.length_take, sizeLine_eq]; omega) fun p3 => ?_
  rw [← List.map_append]
  have hperm : (rs.drop t.toNat ++ rs.take t.toNat).Perm rs := List.perm_append_comm.trans (by rw [List.take_append_drop])
  have hrl : (rs.drop t.toNat ++ rs.take t.toNat).length = rs.length := hperm.length_eq
  generalize rs.drop t.toNat ++ rs.take t.toNat = ts at hperm hrl
  refine .inl ⟨p3, ts.map (fun r => V.ref r.1), rfl, .of .here, _, _, _, fun i acc B' M' => Ex B B' ∧ M' = (p3, .lst (ts.map fun r : Addr × Qn => V.ref r.1)) :: (p2, .lst ((rs.take t.toNat).map fun r : Addr × Qn => V.ref r.1)) :: (p1, .lst ((rs.drop t.toNat).map fun r : Addr × Qn => V.ref r.1)) :: (c1 ++ R) ∧ ∃ ps : QL, acc = (ps.map fun r : Addr × Qn => V.ref r.1) ∧ qsL ps = qsL (ts.take i) ∧ ∀ r ∈ ps, QAt K B' r.1 r.2, runs_list (xs := ts.map fun r => V.ref r.1), by rw [List.length_map, hrl, sizeLine_eq]; omega, ⟨Ex.rfl', rfl, [], rfl, rfl, fun _ h => nomatch h⟩, ?_, ?_, ?_⟩
  · rintro D i acc B' _ ⟨_, rfl, _⟩
    exact .of (.tail .here)
  · rintro D i v _ B' _ _ _ hi hal ⟨e, rfl, ps, rfl, hps, hqa⟩ ⟨hv, rfl, rfl⟩
    rw [List.getElem?_map, Option.map_eq_some_iff] at hv
    obtain ⟨r, hr, rfl⟩ := hv
    have hrm : r ∈ rs := hperm.mem_iff.mp (List.mem_of_getElem? hr)
    refine gw_name ⟨wipe_set _, tw_yes ⟨fun _ => ?_, nofun⟩⟩
    walk_at "q"
    refine cw_of ⟨r.1, r.2, rfl, (hrs.2 r hrm).ex e, ok.qs r hrm, fun B2 a e2 hq => ?_⟩
    refine .here ⟨_, rfl, e.trans e2, rfl, ps ++ [(a, r.2)], by rw [List.map_append]; rfl, ?_, fun x hx => ?_⟩
    · have ht : ts.take (i + 1) = ts.take i ++ [r] := by rw [List.take_succ, hr] <;> rfl
      unfold qsL at hps ⊢
      rw [List.map_append, hps, ht, List.map_append] <;> rfl
    · rcases List.mem_append.mp hx with h | h
      · exact (hqa x h).ex e2
      · rw [List.mem_singleton.mp h]; exact hq
  · rintro D _ B2 _ hal ⟨e, rfl, ps, rfl, hps, hqa⟩
    rw [List.length_map, List.take_length] at hps
    have hnp : nms ps = nms ts := by
      have := congrArg (fun l : List Qn => l.map (·.name)) hps
      unfold qsL at this
      rw [List.map_map, List.map_map] at this
      exact this
    have hpl : ps.length = rs.length := by
      have := congrArg List.length hps
      rw [qsL_len, qsL_len, hrl] at this
      exact this
    have ndp : (nms ps).Nodup := by
      rw [hnp]
      exact (hperm.map _).nodup_iff.mpr (PaperOk.nd ok.up)
    have zyp : zq.name ∉ nms ps := by
      intro h
      rw [hnp] at h
      obtain ⟨r, h1, h2⟩ := List.mem_map.mp h
      exact ok.zy r (hperm.mem_iff.mp h1) h2
    refine aw_keep fun e3 a3 => ?_
    walk_at "q"
    intro x dx
    refine cw_of ⟨x, D, dx, ps, _, rfl, rfl, ⟨a3, fun r hr => (hqa r hr).ex e3⟩, ndp, by omega, fun cb B4 e4 hb => ⟨rfl, ?_⟩⟩
    have Ax : ∀ {M : MM}, ∃ dx' k o d, At B4 (cb ++ M) x (.ins (CB K) dx' (bkF k o d)) := by
      intro M
      obtain ⟨dx', k, o, d, dvs, _, rfl⟩ := hb
      exact ⟨dx', k, o, d, .inr (by simp)⟩
    walk_at "q"
    obtain ⟨dx', k, o, d, ax⟩ := Ax (M := (p3, HO.lst (ts.map fun r : Addr × Qn => V.ref r.1)) :: (p2, .lst ((rs.take t.toNat).map fun r : Addr × Qn => V.ref r.1)) :: (p1, .lst ((rs.drop t.toNat).map fun r : Addr × Qn => V.ref r.1)) :: (c1 ++ R))
    refine ⟨x, dx', _, rfl, ax, rfl, ?_⟩
    walk_at "q"
    refine ⟨le_line (Nat.le_refl 2), fun pt u hu => ?_⟩
    refine aw_keep fun e5 a5 => ?_
    walk_at "q"
    intro xq dq
    refine cw_of ⟨xq, dq, _, zq, pt, rfl, rfl, ⟨u, hu, a5⟩, zq_ok, rfl, ?_⟩
    refine aw_keep fun e6 a6 => ?_
    walk_at "q"
    have hzq : QAt K _ xq zq := ⟨dq, pt, a6, AnsAt.ex ⟨u, hu, a5⟩ e6⟩
    refine cw_of ⟨x, xq, ps, zq, cb, _, rfl, rfl, hb, hzq, zyp, by omega, fun cb2 B7 e7 hb2 => ?_⟩
    walk_at "q"
    have ee := ((((e.trans e3).trans e4).trans e5).trans e6).trans e7
    obtain ⟨dx2, k2, o2, d2, dvs2, hdv, rfl⟩ := hb2
    refine .keep fun e8 _ => .keep fun e9 a9 => .keep fun e10 a10 => .keep fun e11 a11 => ?_
    have e12 := ((e8.trans e9).trans e10).trans e11
    refine .le (Le.drop (Le.drop (Le.drop .refl))) (q _ x c1 (ee.trans e12) ⟨ps ++ [(xq, zq)], ⟨dx2, k2, o2, d2, a11, e11 _ _ a10, e11 _ _ (e10 _ _ a9), fun r hr => ?_⟩, by rw [List.length_append, hpl]; show _ + 1 ≤ _; omega, ?_, fun r hr => ?_⟩ (hd1.ex (ee.trans e12)))
    · rcases List.mem_append.mp hr with h | h
      · exact (hqa r h).ex ((((e3.trans e4).trans e5).trans e6).trans (e7.trans e12))
      · rw [List.mem_singleton.mp h]; exact hzq.ex (e7.trans e12)
    · unfold nms
      rw [List.map_append]
      refine List.nodup_append.mpr ⟨ndp, by simp, fun a ha b hb e => zyp ?_⟩
      have hb' : b = zq.name := List.mem_singleton.mp hb
      rw [← hb', ← e]
      exact ha
    · have h1 : r.2 ∈ qsL ps := by
        rw [hps]
        exact List.mem_map.mpr ⟨r, hperm.mem_iff.mpr hr, rfl⟩
      obtain ⟨r', h2, h3⟩ := List.mem_map.mp h1
      exact ⟨r'.1, List.mem_append_left _ (by rw [← h3]; exact h2)⟩
theorem ok_law_bank (T : TX K mg) : Fnk P w K mg base d_law_bank ps_law_bank 7 (spW (sp_law_bank K)) :=
  fnk_of (N := N_law_bank) (rd_law_bank K) T.d_law_bank sc_law_bank (len_law_bank K) (fun f cdv A outer sh H E hr => (pss_cons (ps_set (i := 2) sc_law_bank.nd rfl (Or.inl rfl) (pe_fn (ok_law_draw T) bp_law_draw_2 hr (by decide) rfl T.g__law_draw (pa_cons (pv 0) (pa_cons (pe_callB call_lenU (by rfl) T.f_len (by decide +kernel) (pa_cons (pv 1) pa_nil)) pa_nil)))) (pss_cons (ps_set (i := 3) sc_law_bank.nd rfl (Or.inl rfl) (pe_mkc (ok_BankX_initX T) bp_BankX_initX_2 hr (by decide) T.mk_Bank rfl T.g_Bank (pa_cons (pe_lc (own := [("_law_row", 4)]) rfl sc_law_bank.nd (pi_any (pe_op op_addU (pe_slice sl_U (pv 1) (po_some (pv 2)) po_none) (pe_slice sl_U (pv 1) po_none (po_some (pv 2))))) (blkOk_by (own := [("_law_row", 4)]) (N := N_law_bank) (sc := defScope s_law_bank) (by decide +kernel)) (fun _ _ _ _ _ => (pg_name (i := 4) sc_law_bank.nd rfl (Or.inl rfl))) (fun _ _ _ _ _ => pts_nil) (fun _ _ _ _ _ => (pe_fn (ok_law_asked T) bp_law_asked_1 hr (by decide) rfl T.g__law_asked (pa_cons (pv 4) pa_nil)))) pa_nil))) (pss_cons (ps_expr (pe_me (ok_Bank_added T) bp_Bank_added_2 hr (by decide) T.c_Bank T.m_Bank_added (pv 3) (pa_cons (pe_mkc (ok_QuestionX_initX T) bp_QuestionX_initX_4 hr (by decide) T.mk_Question rfl T.g_Question (pa_cons pe_str (pa_cons pe_str (pa_cons (pe_tupF (pa_cons pe_str (pa_cons pe_str pa_nil))) pa_nil)))) pa_nil))) (pss_one (ps_ret (pv 3))))))) (pure_law_bank T)
abbrev N_law_by : List Str := ["_law_rows_here", "_law_nth", "_law_spot", "_law_at"]
abbrev ps_law_by : List Str := ["_law_rows_here", "_law_nth", "_law_spot"]
theorem sc_law_by : FnScope N_law_by ps_law_by (defScope s_law_by) := ⟨rfl, rfl, rfl, by decide +kernel, rfl, by decide +kernel, by decide +kernel⟩
def rd_law_by (K : PySem.W.Frag) : TS := (tSeq (tAsg (tOp (rModI) (tOp (rAddU K) (tVar 2) (tVar 1)) (tCB (rLenU K) (tCons (tVar 0) tNil))) (gName 3)) (tRet (tTup (tCons (tVar 3) (tCons (tOp (rModI) (tOp (rMulU) (tVar 1) (tOp (rAddU K) (tVar 2) (tC (.int (1))))) (tCB (rLenU K) (tCons (tOp (rIx K) (tOp (rIx K) (tVar 0) (tVar 3)) (tC (.int (2)))) tNil))) tNil)))))
def sp_law_by (K : PySem.W.Frag) : SpW := fun vs B M Q E => ∃ l rs n p, vs = [.ref l, .int n, .int p] ∧ RowsAt B l rs ∧ RsOk rs ∧ 0 ≤ n ∧ n ≤ 999 ∧ 0 ≤ p ∧ p < rs.length ∧ ∀ t, Q (.ref t) B ((t, .tup [.int (oAt (qsL rs) n p), .int (oBy (qsL rs) n p)]) :: M)
theorem len_law_by (K : PySem.W.Frag) : ∀ vs B M Q E, sp_law_by K vs B M Q E → vs.length = ps_law_by.length := by
  intro _ _ _ _ _ h
  unfold sp_law_by at h
  repeat (first | (obtain ⟨rfl, _⟩ := h; rfl) | (obtain ⟨_, h⟩ := h))
theorem pure_law_by (T : TX K mg) : ∀ vs B M Q E, sp_law_by K vs B M Q E → SW (rd_law_by K) (DW.up ⟨fun _ B M => Q .non B M, Q, fun _ _ _ => False, fun _ _ _ => False⟩) (start N_law_by vs) B M := by
  rintro _ B M Q E ⟨l, rs, n, p, rfl, hrs, ok, n0, n1, p0, p1, q⟩
  have lo := ok.lo
  have hi := ok.hi
  have a0 := oAt_0 (qs := qsL rs) (n := n) (p := p) (by rw [qsL_len]; exact lo)
  have a1 := oAt_1 (qs := qsL rs) (n := n) (p := p) (by rw [qsL_len]; exact lo)
  rw [qsL_len] at a1
  obtain ⟨r, hr, hg, er⟩ := atL_get a0 a1
  have rok := ok.qs r hr
  obtain ⟨b, ha, hb⟩ := hrs.2 r hr
  unfold rd_law_by
  walk_at "q"
  refine len_l (.per hrs.1) ?_
  rw [List.length_map]
  refine mod_int (by omega) ?_
  rw [show (p + n) % ((rs.length : Nat) : Int) = oAt (qsL rs) n p by unfold oAt; rw [qsL_len]]
  walk_at "q"
  refine mul_int (small_mul n0 (by omega) (by omega) (by omega)) ?_
  walk_at "q"
  refine ix_l (.per hrs.1) (at_ref a0 a1 hg) ?_
  walk_at "q"
  refine ix_t (.per ha) rfl ?_
  walk_at "q"
  refine len_t hb.F.W ?_
  rw [List.length_map]
  refine mod_int (by have := rok.an.lo; omega) ?_
  walk_at "q"
  refine ⟨le_line (Nat.le_refl 2), fun t => ?_⟩
  rw [er]
  exact .le Le.refl (q t)
theorem ok_law_by (T : TX K mg) : Fnk P w K mg base d_law_by ps_law_by 1 (spW (sp_law_by K)) :=
  fnk_of (N := N_law_by) (rd_law_by K) T.d_law_by sc_law_by (len_law_by K) (fun f cdv A outer sh H E hr => (pss_cons (ps_set (i := 3) sc_law_by.nd rfl (Or.inl rfl) (pe_op op_modU (pe_op op_addU (pv 2) (pv 1)) (pe_callB call_lenU (by rfl) T.f_len (by decide +kernel) (pa_cons (pv 0) pa_nil)))) (pss_one (ps_ret (pe_tup (pa_cons (pv 3) (pa_cons (pe_op op_modU (pe_op op_mulU (pv 1) (pe_op op_addU (pv 2) pe_int)) (pe_callB call_lenU (by rfl) T.f_len (by decide +kernel) (pa_cons (pe_ix ix_seq (pe_ix ix_seq (pv 0) (pv 3) (fun _ _ => rfl)) pe_int (fun _ _ => rfl)) pa_nil))) pa_nil))))))) (pure_law_by T)
abbrev N_law_row_at : List Str := ["_law_rows_here", "_law_nth", "_law_spot", "_law_at", "_law_shift", "_law_name", "_law_matter", "_law_answers_here", "_law_sure", "_law_heavy", "_law_worth", "_law_tribe"]
abbrev ps_law_row_at : List Str := ["_law_rows_here", "_law_nth", "_law_spot"]
theorem sc_law_row_at : FnScope N_law_row_at ps_law_row_at (defScope s_law_row_at) := ⟨rfl, rfl, rfl, by decide +kernel, rfl, by decide +kernel, by decide +kernel⟩
theorem bp_law_by_3 {K : PySem.W.Frag} : BindP K d_law_by ps_law_by [] := bindP_n rfl rfl fun _ _ _ _ _ _ us hl => match us, hl with | [_, _, _], _ => rfl
def rd_law_row_at (K : PySem.W.Frag) : TS := (tSeq (tAsg (tCall (spW (sp_law_by K)) [] E0 (tCons (tVar 0) (tCons (tVar 1) (tCons (tVar 2) tNil)))) (gTup K 2 (gCons (gName 3) (gCons (gName 4) gNil)))) (tSeq (tAsg (tOp (rIx K) (tVar 0) (tVar 3)) (gTup K 7 (gCons (gName 5) (gCons (gName 6) (gCons (gName 7) (gCons (gName 8) (gCons (gName 9) (gCons (gName 10) (gCons (gName 11) gNil))))))))) (tRet (tTup (tCons (tVar 5) (tCons (tVar 6) (tCons (tRot K (tVar 7) (tVar 4) (tVar 7) (tVar 4)) (tCons (tOp (rModI) (tOp (rSubI) (tVar 8) (tVar 4)) (tCB (rLenU K) (tCons (tVar 7) tNil))) (tCons (tVar 9) (tCons (tVar 10) (tCons (tVar 11) tNil)))))))))))
def sp_law_row_at (K : PySem.W.Frag) : SpW := fun vs B M Q E => ∃ l rs n p, vs = [.ref l, .int n, .int p] ∧ RowsAt B l rs ∧ RsOk rs ∧ 0 ≤ n ∧ n ≤ 999 ∧ 0 ≤ p ∧ p < rs.length ∧ ∀ B' a, Ex B B' → RowAt B' a (qAt (qsL rs) n p) → QOk (qAt (qsL rs) n p) → Q (.ref a) B' M
theorem len_law_row_at (K : PySem.W.Frag) : ∀ vs B M Q E, sp_law_row_at K vs B M Q E → vs.length = ps_law_row_at.length := by
  intro _ _ _ _ _ h
  unfold sp_law_row_at at h
  repeat (first | (obtain ⟨rfl, _⟩ := h; rfl) | (obtain ⟨_, h⟩ := h))
theorem pure_law_row_at (T : TX K mg) : ∀ vs B M Q E, sp_law_row_at K vs B M Q E → SW (rd_law_row_at K) (DW.up ⟨fun _ B M => Q .non B M, Q, fun _ _ _ => False, fun _ _ _ => False⟩) (start N_law_row_at vs) B M := by
  rintro _ B M Q E ⟨l, rs, n, p, rfl, hrs, ok, n0, n1, p0, p1, q⟩
  have lo := ok.lo
  have hi := ok.hi
  have a0 := oAt_0 (qs := qsL rs) (n := n) (p := p) (by rw [qsL_len]; exact lo)
  have a1 := oAt_1 (qs := qsL rs) (n := n) (p := p) (by rw [qsL_len]; exact lo)
  rw [qsL_len] at a1
  obtain ⟨r, hr, hg, er⟩ := atL_get a0 a1
  have rok := ok.qs r hr
  obtain ⟨b, ha, hb⟩ := hrs.2 r hr
  have al := rok.an.lo
  have ah := rok.an.hi
  have b0 : 0 ≤ oBy (qsL rs) n p := Int.emod_nonneg _ (by rw [← er]; omega)
  have b1 : oBy (qsL rs) n p < r.2.ans.length := by rw [er]; exact Int.emod_lt_of_pos _ (by rw [← er]; omega)
  have hs : shf r.2 (oBy (qsL rs) n p) = oBy (qsL rs) n p := Int.emod_eq_of_lt b0 b1
  have hqa : qAt (qsL rs) n p = turn r.2 (oBy (qsL rs) n p) := by unfold qAt; rw [er]
  have hok : QOk (qAt (qsL rs) n p) := by rw [hqa]; exact turn_ok rok _
  unfold rd_law_row_at
  walk_at "q"
  refine cw_of ⟨l, rs, n, p, rfl, hrs, ok, n0, n1, p0, p1, fun t => ?_⟩
  refine gw_tup (.of .here) rfl ?_
  walk_at "q"
  refine ix_l (.per hrs.1) (at_ref a0 a1 hg) ?_
  refine gw_tup (.per ha) rfl ?_
  unfold qVs
  walk_at "q"
  refine ew_rot (b := b) (xs := r.2.ans.map V.str) (i := oBy (qsL rs) n p) (fun M' => ?_) (fun M' => ?_) (fun B' M' e => ?_) (fun B' M' e => ?_) hb b0 (by rw [List.length_map]; omega) (by rw [List.length_map]; omega) (fun a' B' e ht => ?_)
  · walk_at "q"
    rfl
  · walk_at "q"
    rfl
  · walk_at "q"
    rfl
  · walk_at "q"
    rfl
  rw [← List.map_drop, ← List.map_take, ← List.map_append] at ht
  walk_at "q"
  refine len_t (hb.ex e).F.W ?_
  rw [List.length_map]
  refine mod_int (by omega) ?_
  walk_at "q"
  refine ⟨le_line (Nat.le_refl 7), fun pt => ?_⟩
  refine .keep fun ex at_ => .le (Le.drop .refl) (q _ pt (e.trans ex) ⟨a', ?_, ?_⟩ hok)
  · rw [at_, hqa]
    unfold turn qVs
    rw [hs]
  · rw [hqa]
    unfold turn
    rw [hs]
    exact AnsAt.ex ht ex
theorem ok_law_row_at (T : TX K mg) : Fnk P w K mg base d_law_row_at ps_law_row_at 2 (spW (sp_law_row_at K)) :=
  fnk_of (N := N_law_row_at) (rd_law_row_at K) T.d_law_row_at sc_law_row_at (len_law_row_at K) (fun f cdv A outer sh H E hr => (pss_cons (ps_asg (pe_fn (ok_law_by T) bp_law_by_3 hr (by decide) rfl T.g__law_by (pa_cons (pv 0) (pa_cons (pv 1) (pa_cons (pv 2) pa_nil)))) (pg_tup rfl (pgs_cons (pg_name (i := 3) sc_law_row_at.nd rfl (Or.inl rfl)) (pgs_cons (pg_name (i := 4) sc_law_row_at.nd rfl (Or.inl rfl)) pgs_nil)))) (pss_cons (ps_asg (pe_ix ix_seq (pv 0) (pv 3) (fun _ _ => rfl)) (pg_tup rfl (pgs_cons (pg_name (i := 5) sc_law_row_at.nd rfl (Or.inl rfl)) (pgs_cons (pg_name (i := 6) sc_law_row_at.nd rfl (Or.inl rfl)) (pgs_cons (pg_name (i := 7) sc_law_row_at.nd rfl (Or.inl rfl)) (pgs_cons (pg_name (i := 8) sc_law_row_at.nd rfl (Or.inl rfl)) (pgs_cons (pg_name (i := 9) sc_law_row_at.nd rfl (Or.inl rfl)) (pgs_cons (pg_name (i := 10) sc_law_row_at.nd rfl (Or.inl rfl)) (pgs_cons (pg_name (i := 11) sc_law_row_at.nd rfl (Or.inl rfl)) pgs_nil))))))))) (pss_one (ps_ret (pe_tup (pa_cons (pv 5) (pa_cons (pv 6) (pa_cons (pe_op op_catF (pe_slice sl_tupF (pv 7) (po_some (pv 4)) po_none) (pe_slice sl_tupF (pv 7) po_none (po_some (pv 4)))) (pa_cons (pe_op op_modU (pe_op op_subU (pv 8) (pv 4)) (pe_callB call_lenU (by rfl) T.f_len (by decide +kernel) (pa_cons (pv 7) pa_nil))) (pa_cons (pv 9) (pa_cons (pv 10) (pa_cons (pv 11) pa_nil))))))))))))) (pure_law_row_at T)
abbrev N_law_all : List Str := ["_law_rows_here", "_law_nth", "_law_spot"]
abbrev ps_law_all : List Str := ["_law_rows_here", "_law_nth"]
theorem sc_law_all : FnScope N_law_all ps_law_all (defScope s_law_all) := ⟨rfl, rfl, rfl, by decide +kernel, rfl, by decide +kernel, by decide +kernel⟩
theorem bp_law_row_at_3 {K : PySem.W.Frag} : BindP K d_law_row_at ps_law_row_at [] := bindP_n rfl rfl fun _ _ _ _ _ _ us hl => match us, hl with | [_, _, _], _ => rfl
def rd_law_all (K : PySem.W.Frag) : TS := (tRet (tLc (iRng1 (tCons (tCB (rLenU K) (tCons (tVar 0) tNil)) tNil)) (gName 2) tYes (tCall (spW (sp_law_row_at K)) [] E0 (tCons (tVar 0) (tCons (tVar 1) (tCons (tVar 2) tNil)))) [2]))
def sp_law_all (K : PySem.W.Frag) : SpW := fun vs B M Q E => ∃ l rs n, vs = [.ref l, .int n] ∧ RowsAt B l rs ∧ RsOk rs ∧ 0 ≤ n ∧ n ≤ 999 ∧ ∀ B' l' (ts : QL), Ex B B' → RowsAt B' l' ts → qsL ts = (List.range rs.length).map (fun i : Nat => qAt (qsL rs) n i) → (∀ q ∈ qsL ts, QOk q) → Q (.ref l') B' M
theorem len_law_all (K : PySem.W.Frag) : ∀ vs B M Q E, sp_law_all K vs B M Q E → vs.length = ps_law_all.length := by
  intro _ _ _ _ _ h
  unfold sp_law_all at h
  repeat (first | (obtain ⟨rfl, _⟩ := h; rfl) | (obtain ⟨_, h⟩ := h))
theorem pure_law_all (T : TX K mg) : ∀ vs B M Q E, sp_law_all K vs B M Q E → SW (rd_law_all K) (DW.up ⟨fun _ B M => Q .non B M, Q, fun _ _ _ => False, fun _ _ _ => False⟩) (start N_law_all vs) B M := by
  rintro _ B M Q E ⟨l, rs, n, rfl, hrs, ok, n0, n1, q⟩
  have lo := ok.lo
  have hi := ok.hi
  unfold rd_law_all
  walk_at "q"
  refine ew_lc (iw_rng1 ?_)
  walk_at "q"
  refine len_l (.per hrs.1) ?_
  rw [List.length_map]
  walk_at "q"
  refine ⟨by omega, by omega, rs.length, _, _, fun i acc B' M' => Ex B B' ∧ M' = M ∧ ∃ ts : QL, acc = (ts.map fun r : Addr × Qn => V.ref r.1) ∧ qsL ts = (List.range i).map (fun i : Nat => qAt (qsL rs) n i) ∧ ∀ r ∈ ts, RowAt B' r.1 r.2 ∧ QOk r.2, runs_rng, le_line hi, ⟨Ex.rfl', rfl, [], rfl, rfl, fun _ h => nomatch h⟩, fun _ _ _ _ _ _ => True.intro, ?_, ?_⟩
  · rintro D i _ _ B1 _ _ _ hlt hal ⟨e, rfl, ts, rfl, hts, hta⟩ ⟨rfl, rfl, rfl⟩
    rw [Int.zero_add]
    refine gw_name ⟨wipe_set _, tw_yes ⟨fun _ => ?_, nofun⟩⟩
    walk_at "q"
    refine cw_of ⟨l, rs, n, i, rfl, hrs.ex e, ok, n0, n1, by omega, by omega, fun B2 a e2 hq hqo => ?_⟩
    refine .here ⟨_, rfl, e.trans e2, rfl, ts ++ [(a, qAt (qsL rs) n i)], by rw [List.map_append]; rfl, ?_, fun x hx => ?_⟩
    · rw [List.range_succ, List.map_append, ← hts]
      unfold qsL
      rw [List.map_append] <;> rfl
    · rcases List.mem_append.mp hx with h | h
      · exact ⟨(hta x h).1.ex e2, (hta x h).2⟩
      · rw [List.mem_singleton.mp h]; exact ⟨hq, hqo⟩
  · rintro D _ B2 _ hal ⟨e, rfl, ts, rfl, hts, hta⟩
    refine .keep fun ex at_ => .here (q _ D ts (e.trans ex) ⟨at_, fun r hr => (hta r hr).1.ex ex⟩ hts fun x hx => ?_)
    obtain ⟨r, hr, rfl⟩ := List.mem_map.mp hx
    exact (hta r hr).2
theorem ok_law_all (T : TX K mg) : Fnk P w K mg base d_law_all ps_law_all 3 (spW (sp_law_all K)) :=
  fnk_of (N := N_law_all) (rd_law_all K) T.d_law_all sc_law_all (len_law_all K) (fun f cdv A outer sh H E hr => (pss_one (ps_ret (pe_lc (own := [("_law_spot", 2)]) rfl sc_law_all.nd (pi_range1 rfl T.f_range (pa_cons (pe_callB call_lenU (by rfl) T.f_len (by decide +kernel) (pa_cons (pv 0) pa_nil)) pa_nil)) (blkOk_by (own := [("_law_spot", 2)]) (N := N_law_all) (sc := defScope s_law_all) (by decide +kernel)) (fun _ _ _ _ _ => (pg_name (i := 2) sc_law_all.nd rfl (Or.inl rfl))) (fun _ _ _ _ _ => pts_nil) (fun _ _ _ _ _ => (pe_fn (ok_law_row_at T) bp_law_row_at_3 hr (by decide) rfl T.g__law_row_at (pa_cons (pv 0) (pa_cons (pv 1) (pa_cons (pv 2) pa_nil))))))))) (pure_law_all T)
end
end Pap

set_option maxHeartbeats 4000000
/-! S17: rounds of the law. -/
namespace Pap
open PySem PySem.Spec PyProof.Rows L2 PT
local macro_rules | `(tactic| walk_at "q1") => `(tactic| first
  | with_reducible refine sw_seq ?_
  | with_reducible refine sw_ret ?_
  | with_reducible refine sw_if ?_
  | with_reducible refine sw_next ?_
  | with_reducible refine sw_drop ?_
  | with_reducible refine sw_retN ?_
  | with_reducible refine sw_set ?_
  | with_reducible refine sw_par ?_
  | with_reducible refine sw_par3 ?_
  | with_reducible refine sw_asg ?_
  | with_reducible refine gw_name ?_
  | with_reducible refine gsw_cons ?_
  | with_reducible refine gsw_nil ?_
  | with_reducible refine tw_or ?_
  | with_reducible refine tw_and ?_
  | with_reducible refine tw_not ?_
  | with_reducible refine tw_B ?_
  | with_reducible refine tw_test ?_
  | with_reducible refine tw_yes ?_
  | with_reducible refine ew_cb ?_
  | with_reducible refine ew_c ?_
  | with_reducible refine ew_op ?_
  | with_reducible refine ew_chain ?_
  | with_reducible refine ew_notV ?_
  | with_reducible refine ew_andV ?_
  | with_reducible refine ew_orV ?_
  | with_reducible refine ew_un ?_
  | with_reducible refine ew_then ?_
  | with_reducible refine ew_sl ?_
  | with_reducible refine ow_no ?_
  | with_reducible refine ow_some ?_
  | with_reducible refine ew_tup ?_
  | with_reducible refine ew_lst ?_
  | with_reducible refine ew_tupF ?_
  | with_reducible refine ew_dnew ?_
  | with_reducible refine ew_call ?_
  | with_reducible refine ew_callN ?_
  | with_reducible refine ew_make ?_
  | with_reducible refine ew_makeN ?_
  | with_reducible refine ew_meth ?_
  | with_reducible refine ew_methK ?_
  | with_reducible refine ew_tm ?_
  | with_reducible refine ew_bm ?_
  | with_reducible refine ew_bm0 ?_
  | with_reducible refine aw_nil ?_
  | with_reducible refine aw_cons ?_
  | (with_reducible refine ew_varE ?_; refine ⟨_, rfl, ?_⟩)
  | with_reducible refine le_int ?_
  | with_reducible refine lt_int ?_
  | with_reducible refine ge_int ?_
  | with_reducible refine gt_int ?_
  | with_reducible refine eq_int ?_
  | with_reducible refine ne_int ?_
  | with_reducible refine eq_str ?_
  | with_reducible refine ne_str ?_
  | with_reducible refine add_int ?_
  | with_reducible refine sub_int ?_
  | with_reducible refine is_n ?_
  | with_reducible refine isn_n ?_
  | with_reducible refine isi_ii ?_
  | with_reducible refine isi_ib ?_
  | with_reducible refine isi_ss ?_
  | (with_reducible refine ⟨rfl, rfl, ?_⟩)
  | with_reducible refine up_rt ?_
  | with_reducible refine up_nx ?_
  | with_reducible refine tt_ ?_
  | with_reducible refine ff_ ?_
  | with_reducible refine ⟨_, rfl, ?_⟩
  | rw [Bool.not_true]
  | rw [Bool.not_false]
  | (show _ ∧ _; with_reducible refine tt_ ?_)
  | (show _ ∧ _; with_reducible refine ff_ ?_)
  | fail "q1: no step")
local macro_rules | `(tactic| walk_at "q") => `(tactic| repeat walk_at "q1")
local macro_rules | `(tactic| walk_at "le") => `(tactic| repeat (first | with_reducible exact Le.refl | with_reducible refine Le.drop ?_ | with_reducible refine Le.app ?_))
local macro_rules | `(tactic| walk_at "nq") => `(tactic| first | exact TX.n_Question_name (by assumption) | exact TX.n_Question_matter (by assumption) | exact TX.n_Question_answers (by assumption) | exact TX.n_Question_right (by assumption) | exact TX.n_Question_toil (by assumption) | exact TX.n_Question_marks (by assumption) | exact TX.n_Question_kin (by assumption))
local macro_rules | `(tactic| walk_at "fl") => `(tactic| refine ⟨_, _, _, rfl, .inl (by assumption), _, rfl, ?_⟩)
local macro_rules | `(tactic| walk_at "fq") => `(tactic| (walk_at "q"; (with_reducible refine ew_fldE (TX.c_Question (by assumption)) (by walk_at "nq") ?_); walk_at "q"; walk_at "fl"; walk_at "q"))

theorem step_dvd {m p k : Nat} (hm : 0 < m) : stepN m p ∣ k ↔ m ∣ k * p := by
  unfold stepN
  have hg : 0 < Nat.gcd m p := Nat.gcd_pos_of_pos_left _ hm
  obtain ⟨m', e1⟩ := Nat.gcd_dvd_left m p
  obtain ⟨p', e2⟩ := Nat.gcd_dvd_right m p
  have hco : Nat.Coprime (m / Nat.gcd m p) (p / Nat.gcd m p) := Nat.coprime_div_gcd_div_gcd hg
  have d1 : m / Nat.gcd m p = m' := by
    rw [show m / Nat.gcd m p = Nat.gcd m p * m' / Nat.gcd m p by rw [← e1]]
    exact Nat.mul_div_cancel_left _ hg
  have d2 : p / Nat.gcd m p = p' := by
    rw [show p / Nat.gcd m p = Nat.gcd m p * p' / Nat.gcd m p by rw [← e2]]
    exact Nat.mul_div_cancel_left _ hg
  rw [d1] at hco ⊢
  rw [d2] at hco
  have e3 : k * p = Nat.gcd m p * (k * p') := by
    rw [show k * p = k * (Nat.gcd m p * p') by rw [← e2], Nat.mul_left_comm]
  constructor
  · intro h
    rw [e3]
    rw [show (m ∣ Nat.gcd m p * (k * p')) = (Nat.gcd m p * m' ∣ Nat.gcd m p * (k * p')) by rw [← e1]]
    exact Nat.mul_dvd_mul_left _ (Nat.dvd_trans h (Nat.dvd_mul_right _ _))
  · intro h
    rw [e3] at h
    rw [show (m ∣ Nat.gcd m p * (k * p')) = (Nat.gcd m p * m' ∣ Nat.gcd m p * (k * p')) by rw [← e1]] at h
    exact hco.dvd_of_dvd_mul_right (Nat.dvd_of_mul_dvd_mul_left hg h)
theorem lenN_pos {qs : List Qn} (hq : ∀ q ∈ qs, QOk q) {i : Nat} (hi : i < qs.length) : 2 ≤ lenN qs i ∧ lenN qs i ≤ 6 := by
  have hq' : QOk (qs.getD i q0.2) := by
    rw [List.getD_eq_getElem?_getD, List.getElem?_eq_getElem hi]
    exact hq _ (List.getElem_mem _)
  exact ⟨hq'.an.lo, hq'.an.hi⟩
theorem rlN_iff {qs : List Qn} (hq : ∀ q ∈ qs, QOk q) (k : Nat) : ∀ i, i ≤ qs.length → (rlN qs i ∣ k ↔ qs.length ∣ k ∧ ∀ j, j < i → lenN qs j ∣ k * (j + 1))
  | 0, _ => ⟨fun h => ⟨h, fun j hj => absurd hj (Nat.not_lt_zero _)⟩, fun h => h.1⟩
  | i + 1, hi => by
    have ih := rlN_iff hq k i (by omega)
    have hs := step_dvd (m := lenN qs i) (p := i + 1) (k := k) (by have := (lenN_pos hq (i := i) (by omega)).1; omega)
    have hl : rlN qs (i + 1) ∣ k ↔ rlN qs i ∣ k ∧ stepN (lenN qs i) (i + 1) ∣ k := ⟨fun h => ⟨Nat.dvd_trans (Nat.dvd_lcm_left _ _) h, Nat.dvd_trans (Nat.dvd_lcm_right _ _) h⟩, fun h => Nat.lcm_dvd h.1 h.2⟩
    rw [hl, ih, hs]
    constructor
    · rintro ⟨⟨h1, h2⟩, h3⟩
      refine ⟨h1, fun j hj => ?_⟩
      by_cases e : j = i
      · rw [e]; exact h3
      · exact h2 j (by omega)
    · rintro ⟨h1, h2⟩
      exact ⟨⟨h1, fun j hj => h2 j (by omega)⟩, h2 i (by omega)⟩
section
variable {P : Program} {w : World} {K : PySem.W.Frag} {mg : Str → Option Value} {base : Heap}
abbrev N_law_round : List Str := ["_law_rows_here", "_law_k", "_law_turns", "_law_spot", "_law_row"]
abbrev ps_law_round : List Str := ["_law_rows_here"]
theorem sc_law_round : FnScope N_law_round ps_law_round (defScope s_law_round) := ⟨rfl, rfl, rfl, by decide +kernel, rfl, by decide +kernel, by decide +kernel⟩
def rd_law_round (K : PySem.W.Frag) : TS := (tSeq (tFor (iRng2 (tCons (tC (.int (1))) (tCons (tOp (rAddU K) (tOp (rMulU) (tC (.int (60))) (tCB (rLenU K) (tCons (tVar 0) tNil))) (tC (.int (1)))) tNil))) (gName 1) (tIfS (tTest (tOp (rEqU K) (tOp (rModI) (tVar 1) (tCB (rLenU K) (tCons (tVar 0) tNil))) (tC (.int (0))))) (tSeq (tAsg (tLc (iEnumA K (tCons (tVar 0) tNil)) (gTup K 2 (gCons (gName 3) (gCons (gName 4) gNil))) tYes (tOp (rModI) (tOp (rMulU) (tVar 1) (tOp (rAddU K) (tVar 3) (tC (.int (1))))) (tCB (rLenU K) (tCons (tOp (rIx K) (tVar 4) (tC (.int (2)))) tNil))) [3, 4]) (gName 2)) (tIfS (tTest (tOp (rEqU K) (tCB (rMax K) (tCons (tVar 2) tNil)) (tC (.int (0))))) (tRet (tVar 1)) tNext)) tNext)) (tRet (tC (.int (0)))))
def sp_law_round (K : PySem.W.Frag) : SpW := fun vs B M Q E => ∃ l rs, vs = [.ref l] ∧ RowsAt B l rs ∧ RsOk rs ∧ Q (.int (rlN (qsL rs) rs.length)) B M
theorem len_law_round (K : PySem.W.Frag) : ∀ vs B M Q E, sp_law_round K vs B M Q E → vs.length = ps_law_round.length := by
  intro _ _ _ _ _ h
  unfold sp_law_round at h
  repeat (first | (obtain ⟨rfl, _⟩ := h; rfl) | (obtain ⟨_, h⟩ := h))
theorem pure_law_round (T : TX K mg) : ∀ vs B M Q E, sp_law_round K vs B M Q E → SW (rd_law_round K) (DW.up ⟨fun _ B M => Q .non B M, Q, fun _ _ _ => False, fun _ _ _ => False⟩) (start N_law_round vs) B M := by
  rintro _ B M Q E ⟨l, rs, rfl, hrs, ok, q⟩
  have lo := ok.lo
  have hi := ok.hi
  have hll : (rs.map fun r : Addr × Qn => V.ref r.1).length = rs.length := List.length_map _
  have qok : ∀ q ∈ qsL rs, QOk q := fun q hq => by
    obtain ⟨r, hr, rfl⟩ := List.mem_map.mp hq
    exact ok.qs r hr
  obtain ⟨L0, L1⟩ := rlN_dvd (qs := qsL rs) (by rw [qsL_len]; exact lo) qok rs.length (by rw [qsL_len]; exact Nat.le_refl _)
  have Liff := fun k => rlN_iff (qs := qsL rs) qok k rs.length (by rw [qsL_len]; exact Nat.le_refl _)
  rw [qsL_len] at L1
  have Lle : rlN (qsL rs) rs.length ≤ 60 * rs.length := Nat.le_of_dvd (by omega) L1
  generalize rlN (qsL rs) rs.length = L at L0 L1 Liff Lle q
  unfold rd_law_round
  refine sw_seq (sw_for (iw_rng2 ?_))
  walk_at "q"
  refine len_l (.per hrs.1) ?_
  rw [hll]
  walk_at "q"
  refine mul_int (small_mul (by decide) (by decide) (by omega) (by omega)) ?_
  walk_at "q"
  refine ⟨1, 60 * (rs.length : Int) + 1, rfl, ⟨by decide, by decide, by omega, by omega⟩, 60 * rs.length, YRng 1, anyS, fun i σ B' M' => (∃ v1 v2 v3 v4, σ = [some (.ref l), v1, v2, v3, v4]) ∧ B' = B ∧ M' = M ∧ ∀ k, 1 ≤ k → k ≤ i → ¬ L ∣ k, ?_, ⟨⟨_, _, _, _, rfl⟩, rfl, rfl, fun k h1 h2 => by omega⟩, fun _ _ _ _ _ => True.intro, ?_, ?_⟩
  · rw [show (60 * (rs.length : Int) + 1 - 1).toNat = 60 * rs.length by omega]
    exact runs_rng
  · rintro i _ _ _ _ _ _ hlt ⟨⟨v1, v2, v3, v4, rfl⟩, rfl, rfl, hno⟩ ⟨rfl, rfl, rfl⟩
    rw [show (1 : Int) + (i : Int) = ((i + 1 : Nat) : Int) by omega]
    walk_at "q"
    refine len_l (.per hrs.1) ?_
    rw [hll]
    refine mod_int (by omega) ?_
    rw [show ((i + 1 : Nat) : Int) % ((rs.length : Nat) : Int) = (((i + 1) % rs.length : Nat) : Int) by simp]
    walk_at "q"
    have next : ¬ L ∣ (i + 1) → ∀ k, 1 ≤ k → k ≤ i + 1 → ¬ L ∣ k := fun h k h1 h2 => by
      by_cases e : k = i + 1
      · rw [e]; exact h
      · exact hno k h1 (by omega)
    refine ⟨fun h1 => ?_, fun h1 => ?_⟩
    · have h1' : rs.length ∣ i + 1 := Nat.dvd_of_mod_eq_zero (by have := of_decide_eq_true h1; omega)
      walk_at "q"
      refine ew_lcP (iw_enumA ?_)
      walk_at "q"
      refine ⟨l, rs.map (fun r => V.ref r.1), false, rfl, SqXW.l (.per hrs.1), _, _, _, fun _ => true, fun j => .int (((i + 1) * (j + 1) % lenN (qsL rs) j : Nat) : Int), runs_enumC (xs := rs.map fun r => V.ref r.1), by rw [hll]; exact le_line hi, fun D acc => SqXW.l (.per hrs.1), ?_, fun D => ?_⟩
      · rintro D j x acc B' M' hj ⟨Tt, y, z, rfl, rfl, hz, rfl, rfl⟩
        rw [hll] at hj
        rw [List.getElem?_map, Option.map_eq_some_iff] at hz
        obtain ⟨r, hr, rfl⟩ := hz
        have hrm := List.mem_of_getElem? hr
        obtain ⟨b, ha, hb⟩ := hrs.2 r hrm
        have rok := ok.qs r hrm
        have hlen : lenN (qsL rs) j = r.2.ans.length := by
          unfold lenN qsL
          rw [List.getD_eq_getElem?_getD, List.getElem?_map, hr] <;> rfl
        refine gw_tup (.of .here) rfl ?_
        walk_at "q"
        refine ⟨rfl, tw_yes ⟨rfl, nofun, fun _ => ?_⟩⟩
        walk_at "q"
        refine mul_int (small_mul (by omega) (by omega) (by omega) (by omega)) ?_
        walk_at "q"
        refine ix_t (.per ha) rfl ?_
        walk_at "q"
        refine len_t hb.F.W ?_
        rw [List.length_map]
        refine mod_int (by have := rok.an.lo; omega) ⟨?_, Le.drop .refl⟩
        show V.int _ = V.int _
        rw [hlen]
        congr 1
        rw [show ((i + 1 : Nat) : Int) * ((0 : Int) + (j : Int) + 1) = (((i + 1) * (j + 1) : Nat) : Int) by rw [Int.zero_add]; simp]
        simp
      · rw [hll]
        have e : (((List.range rs.length).filter fun _ => true).map fun j : Nat => V.int (((i + 1) * (j + 1) % lenN (qsL rs) j : Nat) : Int)) = ((List.range rs.length).map fun j : Nat => (((i + 1) * (j + 1) % lenN (qsL rs) j : Nat) : Int)).map V.int := by
          rw [List.filter_eq_self.mpr fun _ _ => rfl, List.map_map] <;> rfl
        rw [e]
        walk_at "q"
        refine max_ (.of .here) (by rw [List.length_map, List.length_range]; omega) fun mx hm hle => ?_
        walk_at "q"
        refine ⟨fun h2 => ?_, fun h2 => ?_⟩
        · have hz := of_decide_eq_true h2
          have hd : L ∣ i + 1 := (Liff _).mpr ⟨by rw [qsL_len]; exact h1', fun j hj => by
            have := hle _ (List.mem_map.mpr ⟨j, List.mem_range.mpr hj, rfl⟩)
            exact Nat.dvd_of_mod_eq_zero (by omega)⟩
          have hL : L = i + 1 := by
            have h3 := Nat.le_of_dvd (Nat.succ_pos i) hd
            by_cases h4 : L = i + 1
            · exact h4
            · exact absurd (Nat.dvd_refl L) (hno L L0 (by omega))
          walk_at "q"
          rw [hL] at q
          exact .le (Le.drop .refl) q
        · have hz := of_decide_eq_false h2
          walk_at "q"
          refine .le (Le.drop .refl) ⟨⟨_, _, _, _, rfl⟩, rfl, rfl, next fun hd => hz ?_⟩
          obtain ⟨j, hj, rfl⟩ := List.mem_map.mp hm
          have := ((Liff _).mp hd).2 j (List.mem_range.mp hj)
          rw [Nat.mod_eq_zero_of_dvd this]
          rfl
    · have h1' : ¬ rs.length ∣ i + 1 := fun h => by have := of_decide_eq_false h1; exact this (by rw [Nat.mod_eq_zero_of_dvd h]; rfl)
      walk_at "q"
      exact .here ⟨⟨_, _, _, _, rfl⟩, rfl, rfl, next fun h => h1' (by have := ((Liff _).mp h).1; rw [qsL_len] at this; exact this)⟩
  · rintro σ _ _ ⟨⟨v1, v2, v3, v4, rfl⟩, rfl, rfl, hno⟩
    exact absurd (Nat.dvd_refl L) (hno L L0 Lle)
theorem ok_law_round (T : TX K mg) : Fnk P w K mg base d_law_round ps_law_round 1 (spW (sp_law_round K)) :=
  fnk_of (N := N_law_round) (rd_law_round K) T.d_law_round sc_law_round (len_law_round K) (fun f cdv A outer sh H E hr => (pss_cons (ps_for PassesOwn.never rfl (pi_range2 rfl T.f_range (pa_cons pe_int (pa_cons (pe_op op_addU (pe_op op_mulU pe_int (pe_callB call_lenU (by rfl) T.f_len (by decide +kernel) (pa_cons (pv 0) pa_nil))) pe_int) pa_nil))) (pg_name (i := 1) sc_law_round.nd rfl (Or.inr rfl)) (pss_one (ps_if (pt_cmpR (op_eqU hr.units) (pe_op op_modU (pv 1) (pe_callB call_lenU (by rfl) T.f_len (by decide +kernel) (pa_cons (pv 0) pa_nil))) pe_int (nomark _)) (pss_cons (ps_setLc (i := 2) (own := [("_law_spot", 3), ("_law_row", 4)]) rfl sc_law_round.nd rfl rfl (sw_true rfl rfl rfl (by decide +kernel)) (pi_enumA rfl T.f_enumerate (pa_cons (pv 0) pa_nil)) (blkOk_by (own := [("_law_spot", 3), ("_law_row", 4)]) (N := N_law_round) (sc := defScope s_law_round) (by decide +kernel)) (fun _ _ _ _ _ => (pg_tup rfl (pgs_cons (pg_name (i := 3) sc_law_round.nd rfl (Or.inl rfl)) (pgs_cons (pg_name (i := 4) sc_law_round.nd rfl (Or.inl rfl)) pgs_nil)))) (fun _ _ _ _ _ => pts_nil) (fun _ _ _ _ _ => (pe_op op_modU (pe_op op_mulU (pv 1) (pe_op op_addU (pv 3) pe_int)) (pe_callB call_lenU (by rfl) T.f_len (by decide +kernel) (pa_cons (pe_ix ix_seq (pv 4) pe_int (fun _ _ => rfl)) pa_nil))))) (pss_one (ps_if (pt_cmpR (op_eqU hr.units) (pe_callB (cr_max rfl) (by rfl) T.f_max (by decide +kernel) (pa_cons (pv 2) pa_nil)) pe_int (nomark _)) (pss_one (ps_ret (pv 1))) pss_nil))) pss_nil))) (pss_one (ps_ret pe_int)))) (pure_law_round T)
end
end Pap

set_option maxHeartbeats 4000000
/-! S18: likeness. -/
namespace Pap
open PySem PySem.Spec PyProof.Rows L2 PT
local macro_rules | `(tactic| walk_at "q1") => `(tactic| first
  | with_reducible refine sw_seq ?_
  | with_reducible refine sw_ret ?_
  | with_reducible refine sw_if ?_
  | with_reducible refine sw_next ?_
  | with_reducible refine sw_drop ?_
  | with_reducible refine sw_retN ?_
  | with_reducible refine sw_set ?_
  | with_reducible refine sw_par ?_
  | with_reducible refine sw_par3 ?_
  | with_reducible refine sw_asg ?_
  | with_reducible refine gw_name ?_
  | with_reducible refine gsw_cons ?_
  | with_reducible refine gsw_nil ?_
  | with_reducible refine tw_or ?_
  | with_reducible refine tw_and ?_
  | with_reducible refine tw_not ?_
  | with_reducible refine tw_B ?_
  | with_reducible refine tw_test ?_
  | with_reducible refine tw_yes ?_
  | with_reducible refine ew_cb ?_
  | with_reducible refine ew_c ?_
  | with_reducible refine ew_op ?_
  | with_reducible refine ew_chain ?_
  | with_reducible refine ew_notV ?_
  | with_reducible refine ew_andV ?_
  | with_reducible refine ew_orV ?_
  | with_reducible refine ew_un ?_
  | with_reducible refine ew_then ?_
  | with_reducible refine ew_sl ?_
  | with_reducible refine ow_no ?_
  | with_reducible refine ow_some ?_
  | with_reducible refine ew_tup ?_
  | with_reducible refine ew_lst ?_
  | with_reducible refine ew_tupF ?_
  | with_reducible refine ew_dnew ?_
  | with_reducible refine ew_call ?_
  | with_reducible refine ew_callN ?_
  | with_reducible refine ew_make ?_
  | with_reducible refine ew_makeN ?_
  | with_reducible refine ew_meth ?_
  | with_reducible refine ew_methK ?_
  | with_reducible refine ew_tm ?_
  | with_reducible refine ew_bm ?_
  | with_reducible refine ew_bm0 ?_
  | with_reducible refine aw_nil ?_
  | with_reducible refine aw_cons ?_
  | (with_reducible refine ew_varE ?_; refine ⟨_, rfl, ?_⟩)
  | with_reducible refine le_int ?_
  | with_reducible refine lt_int ?_
  | with_reducible refine ge_int ?_
  | with_reducible refine gt_int ?_
  | with_reducible refine eq_int ?_
  | with_reducible refine ne_int ?_
  | with_reducible refine eq_str ?_
  | with_reducible refine ne_str ?_
  | with_reducible refine add_int ?_
  | with_reducible refine sub_int ?_
  | with_reducible refine is_n ?_
  | with_reducible refine isn_n ?_
  | with_reducible refine isi_ii ?_
  | with_reducible refine isi_ib ?_
  | with_reducible refine isi_ss ?_
  | (with_reducible refine ⟨rfl, rfl, ?_⟩)
  | with_reducible refine up_rt ?_
  | with_reducible refine up_nx ?_
  | with_reducible refine tt_ ?_
  | with_reducible refine ff_ ?_
  | with_reducible refine ⟨_, rfl, ?_⟩
  | rw [Bool.not_true]
  | rw [Bool.not_false]
  | (show _ ∧ _; with_reducible refine tt_ ?_)
  | (show _ ∧ _; with_reducible refine ff_ ?_)
  | fail "q1: no step")
local macro_rules | `(tactic| walk_at "q") => `(tactic| repeat walk_at "q1")
local macro_rules | `(tactic| walk_at "le") => `(tactic| repeat (first | with_reducible exact Le.refl | with_reducible refine Le.drop ?_ | with_reducible refine Le.app ?_))
local macro_rules | `(tactic| walk_at "nq") => `(tactic| first | exact TX.n_Question_name (by assumption) | exact TX.n_Question_matter (by assumption) | exact TX.n_Question_answers (by assumption) | exact TX.n_Question_right (by assumption) | exact TX.n_Question_toil (by assumption) | exact TX.n_Question_marks (by assumption) | exact TX.n_Question_kin (by assumption))
local macro_rules | `(tactic| walk_at "fl") => `(tactic| refine ⟨_, _, _, rfl, .inl (by assumption), _, rfl, ?_⟩)
local macro_rules | `(tactic| walk_at "fq") => `(tactic| (walk_at "q"; (with_reducible refine ew_fldE (TX.c_Question (by assumption)) (by walk_at "nq") ?_); walk_at "q"; walk_at "fl"; walk_at "q"))

theorem room66 {k : Nat} {A : Around} (r : Room k A) : A.units + 66 < cLine := by have := r.un; omega
abbrev rOr (r r' : R2) : R2 := fun x y H Q => r x y H Q ∨ r' x y H Q
theorem eqC_symm (qs : List Qn) (n : Int) (qs' : List Qn) (n' : Int) : eqC qs' n' qs n = eqC qs n qs' n' := by
  unfold eqC
  by_cases h : qs'.length = qs.length
  · rw [decide_eq_true h, decide_eq_true h.symm, Bool.true_and, Bool.true_and, h]
    congr 1
    funext i
    exact decide_eq_decide.mpr eq_comm
  · rw [decide_eq_false h, decide_eq_false fun e => h e.symm] <;> rfl
theorem dpBools {K : PySem.W.Frag} {H : Hp} : ∀ zs : List Bool, DpAll K H (zs.map V.bl) (zs.map PyData.bool)
  | [] => .nil
  | z :: zs => .cons (.bl z) (dpBools zs)
theorem dpBoolL {K : PySem.W.Frag} {B : Hp} {M : MM} {a : Addr} {zs : List Bool} (h : LstW K B M a (zs.map V.bl)) : DpW K B M (.ref a) (.list (zs.map PyData.bool)) := fun H W => .lst (h H W) (dpBools zs)
/-- what is no copy -/
structure Other (K : PySem.W.Frag) (B : Hp) (v : V) (t : Value) : Prop where
  ty : ∀ M, TyW K B M v t
  kt : PySem.W.kitOne K t (.ref (CC K)) = some false
  nf : PySem.W.notFirst K (CC K) t = true
  rv : (∀ M, DeclW K (CC K) B M v) ∨ ∃ x qs, v = .ref x ∧ BankAt K B x qs
section
variable {P : Program} {w : World} {K : PySem.W.Frag} {mg : Str → Option Value} {base : Heap}
theorem other_non {B : Hp} (T : TX K mg) : Other K B .non (.type "NoneType") := ⟨fun _ => .non, T.kt_NoneType_Copy, T.nf_Copy_NoneType, .inl fun _ _ _ => .non T.mn_Copy_NoneType⟩
theorem other_int {B : Hp} {i : Int} (T : TX K mg) : Other K B (.int i) (.type "int") := ⟨fun _ => .int, T.kt_int_Copy, T.nf_Copy_int, .inl fun _ _ _ => .int T.mn_Copy_int⟩
theorem other_str {B : Hp} {z : Str} (T : TX K mg) : Other K B (.str z) (.type "str") := ⟨fun _ => .str, T.kt_str_Copy, T.nf_Copy_str, .inl fun _ _ _ => .str T.mn_Copy_str⟩
theorem other_tup {B : Hp} {p : Addr} {xs : List V} (T : TX K mg) (h : B p = some (.tup xs)) : Other K B (.ref p) (.type "tuple") := ⟨fun _ => .tup (.inl h), T.kt_tuple_Copy, T.nf_Copy_tuple, .inl fun _ _ W => .tup T.mn_Copy_tuple (W.per _ _ h)⟩
theorem other_bank {B : Hp} {x : Addr} {qs : QL} (T : TX K mg) (h : BankAt K B x qs) : Other K B (.ref x) (.ref (CB K)) :=
  ⟨fun _ => let ⟨dx, k, o, d, hx, _⟩ := h; .ins T.i_Bank (.inl hx), T.ko_Bank_Copy, T.nf_Copy_Bank, .inr ⟨x, qs, rfl, h⟩⟩
abbrev N_law_like : List Str := ["_law_copy", "_law_second", "_law_due"]
abbrev ps_law_like : List Str := ["_law_copy", "_law_second", "_law_due"]
theorem sc_law_like : FnScope N_law_like ps_law_like (defScope s_law_like) := ⟨rfl, rfl, rfl, by decide +kernel, rfl, by decide +kernel, by decide +kernel⟩
theorem bp_BankX_eqX_2 {K : PySem.W.Frag} : BindP K d_BankX_eqX ps_BankX_eqX [] := bindP_n rfl rfl fun _ _ _ _ _ _ us hl => match us, hl with | [_, _], _ => rfl
theorem bp_CopyX_eqX_2 {K : PySem.W.Frag} : BindP K d_CopyX_eqX ps_CopyX_eqX [] := bindP_n rfl rfl fun _ _ _ _ _ _ us hl => match us, hl with | [_, _], _ => rfl
def rd_law_like (K : PySem.W.Frag) : TS := (tRet (tOp (rEqU K) (tCB (rRepr K) (tCons (tLst (tCons (tOp (rOwn K (He.ga K "Copy") (spW (sp_CopyX_eqX K)) false) (tVar 0) (tVar 1)) (tCons (tOp (rOr (rOwn K (He.ga K "Copy") (spW (sp_CopyX_eqX K)) false) (rOwn K (He.ga K "Bank") (spW (sp_BankX_eqX K)) false)) (tVar 1) (tVar 0)) (tCons (tOp (rOwn K (He.ga K "Copy") (spW (sp_CopyX_eqX K)) true) (tVar 0) (tVar 1)) (tCons (tOp (rOr (rOwn K (He.ga K "Copy") (spW (sp_CopyX_eqX K)) true) (rOwn K (He.ga K "Bank") (spW (sp_BankX_eqX K)) true)) (tVar 1) (tVar 0)) tNil))))) tNil)) (tCB (rRepr K) (tCons (tOp (rAddU K) (tOp (rMulU) (tLst (tCons (tVar 2) tNil)) (tC (.int (2)))) (tOp (rMulU) (tLst (tCons (tNotV (tVar 2)) tNil)) (tC (.int (2))))) tNil))))
def sp_law_like (K : PySem.W.Frag) : SpW := fun vs B M Q E => ∃ y rs n v due, vs = [.ref y, v, .bl due] ∧ CopyAt K B y rs n ∧ RsOk rs ∧ 0 ≤ n ∧ n ≤ 999 ∧
  ((∃ t, Other K B v t ∧ Q (.bl (!due)) B M) ∨ (∃ y' rs' n', v = .ref y' ∧ CopyAt K B y' rs' n' ∧ RsOk rs' ∧ 0 ≤ n' ∧ n' ≤ 999 ∧ ∀ B', Ex B B' → Q (.bl (eqC (qsL rs) n (qsL rs') n' == due)) B' M))
theorem like_tail {T : TX K mg} {B : Hp} {M : MM} {Q : KW} {y : Addr} {v : V} {e due : Bool} (q : Q (.bl (e == due)) B M) :
    ∀ p : Addr, RLW (rRepr K) [V.ref p] B ((p, .lst [.bl e, .bl e, .bl (!e), .bl (!e)]) :: M) fun x B1 M1 => EW (tCB (rRepr K) (tCons (tOp (rAddU K) (tOp rMulU (tLst (tCons (tVar 2) tNil)) (tC (.int 2))) (tOp rMulU (tLst (tCons (tNotV (tVar 2)) tNil)) (tC (.int 2)))) tNil)) [some (.ref y), some v, some (.bl due)] B1 M1 fun y B2 M2 =>
      R2W (rEqU K) x y B2 M2 fun v => Up (Q v) := by
  intro p
  refine repr_d (d := .list ([e, e, !e, !e].map PyData.bool)) (dpBoolL (zs := [e, e, !e, !e]) (.of .here)) (by cases e <;> decide) (by cases e <;> decide) (by cases e <;> decide) (by cases e <;> decide +kernel) ?_
  walk_at "q"
  refine ⟨le_line (Nat.le_refl 1), fun p1 => ?_⟩
  walk_at "q"
  refine mul_lst .here (by decide) (by decide) (le_line (Nat.le_refl 2)) fun p2 => ?_
  walk_at "q"
  refine ⟨le_line (Nat.le_refl 1), fun p3 => ?_⟩
  walk_at "q"
  refine mul_lst .here (by decide) (by decide) (le_line (Nat.le_refl 2)) fun p4 => ?_
  refine add_lst (.tail (.tail .here)) .here (le_line (Nat.le_refl 4)) fun p5 => ?_
  walk_at "q"
  refine repr_d (d := .list ([due, due, !due, !due].map PyData.bool)) (dpBoolL (zs := [due, due, !due, !due]) (.of .here)) (by cases due <;> decide) (by cases due <;> decide) (by cases due <;> decide) (by cases due <;> decide +kernel) ?_
  walk_at "q"
  have e1 : decide ((PyData.list ([e, e, !e, !e].map PyData.bool)).shown = (PyData.list ([due, due, !due, !due].map PyData.bool)).shown) = (e == due) := by cases e <;> cases due <;> decide +kernel
  rw [e1]
  exact .le (Le.drop (Le.drop (Le.drop (Le.drop (Le.drop (Le.drop .refl)))))) q
theorem len_law_like (K : PySem.W.Frag) : ∀ vs B M Q E, sp_law_like K vs B M Q E → vs.length = ps_law_like.length := by
  intro _ _ _ _ _ h
  unfold sp_law_like at h
  repeat (first | (obtain ⟨rfl, _⟩ := h; rfl) | (obtain ⟨_, h⟩ := h))
theorem pure_law_like (T : TX K mg) : ∀ vs B M Q E, sp_law_like K vs B M Q E → SW (rd_law_like K) (DW.up ⟨fun _ B M => Q .non B M, Q, fun _ _ _ => False, fun _ _ _ => False⟩) (start N_law_like vs) B M := by
  rintro _ B M Q E ⟨y, rs, n, v, due, rfl, hc, ok, n0, n1, h⟩
  obtain ⟨dx, l, hy, hrs⟩ := id hc
  unfold rd_law_like
  rcases h with ⟨t, ho, q⟩ | ⟨y', rs', n', rfl, hc', ok', n0', n1', q⟩
  · have s2 : ∀ (neg : Bool) (Q2 : KW), Q2 (.bl (if neg then !false else false)) B M → R2W (rOr (rOwn K (CC K) (spW (sp_CopyX_eqX K)) neg) (rOwn K (CB K) (spW (sp_BankX_eqX K)) neg)) v (.ref y) B M Q2 := by
      intro neg Q2 h2
      rcases ho.rv with dd | ⟨x, qs, rfl, hb⟩
      · exact r2w_inl (own_r (.inl hy) (dd _) (cw_of ⟨y, rs, n, v, rfl, hc, ok, n0, n1, .inl ⟨t, ho.ty _, ho.kt, false, rfl, h2⟩⟩))
      · obtain ⟨dx', k, o, d, hx, _⟩ := id hb
        exact r2w_inr (own_l (.inl hx) (TyW.ins T.i_Copy (.inl hy)) T.nf_Bank_Copy (cw_of ⟨x, .ref y, .ref (CC K), rfl, TyW.ins T.i_Copy (.inl hy), T.ko_Copy_Bank, false, rfl, h2⟩))
    have s1 : ∀ (neg : Bool) (Q2 : KW), Q2 (.bl (if neg then !false else false)) B M → R2W (rOwn K (CC K) (spW (sp_CopyX_eqX K)) neg) (.ref y) v B M Q2 := fun neg Q2 h2 =>
      own_l (.inl hy) (ho.ty _) ho.nf (cw_of ⟨y, rs, n, v, rfl, hc, ok, n0, n1, .inl ⟨t, ho.ty _, ho.kt, false, rfl, h2⟩⟩)
    walk_at "q"
    refine s1 false _ ?_
    walk_at "q"
    refine s2 false _ ?_
    walk_at "q"
    refine s1 true _ ?_
    walk_at "q"
    refine s2 true _ ?_
    walk_at "q"
    refine ⟨le_line (Nat.le_refl 4), fun p => ?_⟩
    walk_at "q"
    have q' : Q (.bl (false == due)) B M := by
      have : (false == due) = !due := by cases due <;> rfl
      rw [this]
      exact q
    exact like_tail (T := T) (e := false) (due := due) q' p
  · obtain ⟨dx', l', hy', hrs'⟩ := id hc'
    walk_at "q"
    refine own_l (.inl hy) (TyW.ins T.i_Copy (.inl hy')) T.nf_Copy_Copy (cw_of ⟨y, rs, n, _, rfl, hc, ok, n0, n1, .inr ⟨y', rs', n', rfl, hc', ok', n0', n1', fun B1 e1 => ⟨_, rfl, ?_⟩⟩⟩)
    walk_at "q"
    refine r2w_inl (own_l (.inl (e1 _ _ hy')) (TyW.ins T.i_Copy (.inl (e1 _ _ hy))) T.nf_Copy_Copy (cw_of ⟨y', rs', n', _, rfl, hc'.ex e1, ok', n0', n1', .inr ⟨y, rs, n, rfl, hc.ex e1, ok, n0, n1, fun B2 e2 => ⟨_, rfl, ?_⟩⟩⟩))
    have f2 := e1.trans e2
    walk_at "q"
    refine own_l (.inl (f2 _ _ hy)) (TyW.ins T.i_Copy (.inl (f2 _ _ hy'))) T.nf_Copy_Copy (cw_of ⟨y, rs, n, _, rfl, hc.ex f2, ok, n0, n1, .inr ⟨y', rs', n', rfl, hc'.ex f2, ok', n0', n1', fun B3 e3 => ⟨_, rfl, ?_⟩⟩⟩)
    have f3 := f2.trans e3
    walk_at "q"
    refine r2w_inl (own_l (.inl (f3 _ _ hy')) (TyW.ins T.i_Copy (.inl (f3 _ _ hy))) T.nf_Copy_Copy (cw_of ⟨y', rs', n', _, rfl, hc'.ex f3, ok', n0', n1', .inr ⟨y, rs, n, rfl, hc.ex f3, ok, n0, n1, fun B4 e4 => ⟨_, rfl, ?_⟩⟩⟩))
    have f4 := f3.trans e4
    rw [eqC_symm (qsL rs) n (qsL rs') n']
    walk_at "q"
    refine ⟨le_line (Nat.le_refl 4), fun p => ?_⟩
    walk_at "q"
    exact like_tail (T := T) (e := eqC (qsL rs) n (qsL rs') n') (due := due) (q B4 f4) p
theorem ok_law_like (T : TX K mg) : FnkG P w K mg base d_law_like ps_law_like 9 (spW (sp_law_like K)) :=
  fng_of (N := N_law_like) (rd_law_like K) T.d_law_like sc_law_like (len_law_like K) (fun f cdv A outer sh H E hgd hr => (pss_one (ps_ret (pe_cmpR (op_eqU hr.units) (pe_callB (call_reprD hgd (room66 hr)) (by rfl) T.f_repr (by decide +kernel) (pa_cons (pe_lst (pa_cons (pe_cmpR (op_own (neg := false) T.e_Copy ((ok_CopyX_eqX T).fnR bp_CopyX_eqX_2) hr (by decide)) (pv 0) (pv 1) (nomark _)) (pa_cons (pe_cmpR (OpR.or (op_own (neg := false) T.e_Copy ((ok_CopyX_eqX T).fnR bp_CopyX_eqX_2) hr (by decide)) (op_own (neg := false) T.e_Bank ((ok_BankX_eqX T).fnR bp_BankX_eqX_2) hr (by decide))) (pv 1) (pv 0) (nomark _)) (pa_cons (pe_cmpR (op_own (neg := true) T.e_Copy ((ok_CopyX_eqX T).fnR bp_CopyX_eqX_2) hr (by decide)) (pv 0) (pv 1) (nomark _)) (pa_cons (pe_cmpR (OpR.or (op_own (neg := true) T.e_Copy ((ok_CopyX_eqX T).fnR bp_CopyX_eqX_2) hr (by decide)) (op_own (neg := true) T.e_Bank ((ok_BankX_eqX T).fnR bp_BankX_eqX_2) hr (by decide))) (pv 1) (pv 0) (nomark _)) pa_nil))))) pa_nil)) (pe_callB (call_reprD hgd (room66 hr)) (by rfl) T.f_repr (by decide +kernel) (pa_cons (pe_op op_addU (pe_op op_mulU (pe_lst (pa_cons (pv 2) pa_nil)) pe_int) (pe_op op_mulU (pe_lst (pa_cons (pe_not (pv 2)) pa_nil)) pe_int)) pa_nil)) (nomark _))))) (pure_law_like T)
end
end Pap

set_option maxHeartbeats 4000000
/-! S19: one thing otherwise. -/
namespace Pap
open PySem PySem.Spec PyProof.Rows L2 PT
local macro_rules | `(tactic| walk_at "q1") => `(tactic| first
  | with_reducible refine sw_seq ?_
  | with_reducible refine sw_ret ?_
  | with_reducible refine sw_if ?_
  | with_reducible refine sw_next ?_
  | with_reducible refine sw_drop ?_
  | with_reducible refine sw_retN ?_
  | with_reducible refine sw_set ?_
  | with_reducible refine sw_par ?_
  | with_reducible refine sw_par3 ?_
  | with_reducible refine sw_asg ?_
  | with_reducible refine gw_name ?_
  | with_reducible refine gsw_cons ?_
  | with_reducible refine gsw_nil ?_
  | with_reducible refine tw_or ?_
  | with_reducible refine tw_and ?_
  | with_reducible refine tw_not ?_
  | with_reducible refine tw_B ?_
  | with_reducible refine tw_test ?_
  | with_reducible refine tw_yes ?_
  | with_reducible refine ew_cb ?_
  | with_reducible refine ew_c ?_
  | with_reducible refine ew_op ?_
  | with_reducible refine ew_chain ?_
  | with_reducible refine ew_notV ?_
  | with_reducible refine ew_andV ?_
  | with_reducible refine ew_orV ?_
  | with_reducible refine ew_un ?_
  | with_reducible refine ew_then ?_
  | with_reducible refine ew_sl ?_
  | with_reducible refine ow_no ?_
  | with_reducible refine ow_some ?_
  | with_reducible refine ew_tup ?_
  | with_reducible refine ew_lst ?_
  | with_reducible refine ew_tupF ?_
  | with_reducible refine ew_dnew ?_
  | with_reducible refine ew_call ?_
  | with_reducible refine ew_callN ?_
  | with_reducible refine ew_make ?_
  | with_reducible refine ew_makeN ?_
  | with_reducible refine ew_meth ?_
  | with_reducible refine ew_methK ?_
  | with_reducible refine ew_tm ?_
  | with_reducible refine ew_bm ?_
  | with_reducible refine ew_bm0 ?_
  | with_reducible refine aw_nil ?_
  | with_reducible refine aw_cons ?_
  | (with_reducible refine ew_varE ?_; refine ⟨_, rfl, ?_⟩)
  | with_reducible refine le_int ?_
  | with_reducible refine lt_int ?_
  | with_reducible refine ge_int ?_
  | with_reducible refine gt_int ?_
  | with_reducible refine eq_int ?_
  | with_reducible refine ne_int ?_
  | with_reducible refine eq_str ?_
  | with_reducible refine ne_str ?_
  | with_reducible refine add_int ?_
  | with_reducible refine sub_int ?_
  | with_reducible refine is_n ?_
  | with_reducible refine isn_n ?_
  | with_reducible refine isi_ii ?_
  | with_reducible refine isi_ib ?_
  | with_reducible refine isi_ss ?_
  | (with_reducible refine ⟨rfl, rfl, ?_⟩)
  | with_reducible refine up_rt ?_
  | with_reducible refine up_nx ?_
  | with_reducible refine tt_ ?_
  | with_reducible refine ff_ ?_
  | with_reducible refine ⟨_, rfl, ?_⟩
  | rw [Bool.not_true]
  | rw [Bool.not_false]
  | (show _ ∧ _; with_reducible refine tt_ ?_)
  | (show _ ∧ _; with_reducible refine ff_ ?_)
  | fail "q1: no step")
local macro_rules | `(tactic| walk_at "q") => `(tactic| repeat walk_at "q1")
local macro_rules | `(tactic| walk_at "le") => `(tactic| repeat (first | with_reducible exact Le.refl | with_reducible refine Le.drop ?_ | with_reducible refine Le.app ?_))
local macro_rules | `(tactic| walk_at "nq") => `(tactic| first | exact TX.n_Question_name (by assumption) | exact TX.n_Question_matter (by assumption) | exact TX.n_Question_answers (by assumption) | exact TX.n_Question_right (by assumption) | exact TX.n_Question_toil (by assumption) | exact TX.n_Question_marks (by assumption) | exact TX.n_Question_kin (by assumption))
local macro_rules | `(tactic| walk_at "fl") => `(tactic| refine ⟨_, _, _, rfl, .inl (by assumption), _, rfl, ?_⟩)
local macro_rules | `(tactic| walk_at "fq") => `(tactic| (walk_at "q"; (with_reducible refine ew_fldE (TX.c_Question (by assumption)) (by walk_at "nq") ?_); walk_at "q"; walk_at "fl"; walk_at "q"))

theorem ew_post {te : TE} {σ : L2.St} {B : Hp} {M : MM} {Q Q1 : KW} (h : EW te σ B M Q1) (k : ∀ v B' M', Q1 v B' M' → Q v B' M') : EW te σ B M Q := fun Q' kk H W => h Q' (fun v B' M' H' W' q1 => kk _ _ _ _ W' (k v B' M' q1)) H W
theorem ew_made {te : TE} {σ : L2.St} {B : Hp} {M : MM} {Q : KW} {xs : List V} (h : EW te σ B M fun v => Up fun B' M' => ∃ tt, v = .ref tt ∧ Ex B B' ∧ B' tt = some (.tup xs) ∧ M' = M) (k : ∀ tt B', Ex B B' → B' tt = some (.tup xs) → Q (.ref tt) B' M) : EW te σ B M Q :=
  ew_up (ew_post h fun v B' M' u => fun H W => by
    obtain ⟨B2, _, W2, tt, rfl, e, ht, rfl⟩ := u H W
    exact ⟨B2, _, W2, k tt B2 e ht⟩)
theorem mm_ok : nameB "mm" = true := by decide +kernel
theorem kk_ok : nameB "kk" = true := by decide +kernel
theorem rev_ok {ans : List Str} (h : AnsOk ans) : AnsOk ans.reverse := ⟨by rw [List.length_reverse]; exact h.lo, by rw [List.length_reverse]; exact h.hi, (List.reverse_perm ans).nodup_iff.mpr h.nd, fun z hz => h.tx z (List.mem_reverse.mp hz)⟩
section
variable {P : Program} {w : World} {K : PySem.W.Frag} {mg : Str → Option Value} {base : Heap}
abbrev N_law_otherwise : List Str := ["_law_m", "_law_rows_here", "_law_at", "_law_name", "_law_matter", "_law_answers_here", "_law_sure", "_law_heavy", "_law_worth", "_law_tribe", "_law_ways", "_law_manner", "_law_thing"]
abbrev ps_law_otherwise : List Str := ["_law_m", "_law_rows_here"]
theorem sc_law_otherwise : FnScope N_law_otherwise ps_law_otherwise (defScope s_law_otherwise) := ⟨rfl, rfl, rfl, by decide +kernel, rfl, by decide +kernel, by decide +kernel⟩
def rd_law_otherwise (K : PySem.W.Frag) : TS := (tSeq (tAsg (tCall (spW (sp_law_draw K)) [] E0 (tCons (tVar 0) (tCons (tCB (rLenU K) (tCons (tVar 1) tNil)) tNil))) (gName 2)) (tSeq (tAsg (tOp (rIx K) (tVar 1) (tVar 2)) (gTup K 7 (gCons (gName 3) (gCons (gName 4) (gCons (gName 5) (gCons (gName 6) (gCons (gName 7) (gCons (gName 8) (gCons (gName 9) gNil))))))))) (tSeq (tAsg (tLst (tCons (tTup (tCons (tC (.int (1))) (tCons (tC (.str "mm")) tNil))) (tCons (tTup (tCons (tC (.int (2))) (tCons (tRevF K (tVar 5)) tNil))) (tCons (tTup (tCons (tC (.int (3))) (tCons (tOp (rModI) (tOp (rAddU K) (tVar 6) (tC (.int (1)))) (tCB (rLenU K) (tCons (tVar 5) tNil))) tNil))) (tCons (tTup (tCons (tC (.int (4))) (tCons (tOp (rSubI) (tC (.int (10))) (tVar 7)) tNil))) tNil))))) (gName 10)) (tSeq (tAsg (tOp (rAddU K) (tVar 10) (tLst (tCons (tTup (tCons (tC (.int (5))) (tCons (tOp (rAddU K) (tC (.int (1))) (tOp (rModI) (tVar 8) (tC (.int (9))))) tNil))) (tCons (tTup (tCons (tC (.int (6))) (tCons (tC (.str "kk")) tNil))) tNil)))) (gName 10)) (tSeq (tAsg (tCall (spW (sp_law_of K)) [] E0 (tCons (tVar 0) (tCons (tVar 10) tNil))) (gTup K 2 (gCons (gName 11) (gCons (gName 12) gNil)))) (tRet (tOp (rAddU K) (tOp (rAddU K) (tSl (rSlU K) (tVar 1) tNoPart (tPart (tVar 2))) (tLst (tCons (tOp (rAddU K) (tOp (rAddU K) (tSl (rSlU K) (tOp (rIx K) (tVar 1) (tVar 2)) tNoPart (tPart (tVar 11))) (tTup (tCons (tVar 12) tNil))) (tSl (rSlU K) (tOp (rIx K) (tVar 1) (tVar 2)) (tPart (tOp (rAddU K) (tVar 11) (tC (.int (1))))) tNoPart)) tNil))) (tSl (rSlU K) (tVar 1) (tPart (tOp (rAddU K) (tVar 2) (tC (.int (1))))) tNoPart))))))))
def sp_law_otherwise (K : PySem.W.Frag) : SpW := fun vs B M Q E => ∃ m c R N l rs, vs = [.ref m, .ref l] ∧ M = c ++ R ∧ Dr K B c m N ∧ N ≤ 900000000 ∧ RowsAt B l rs ∧ RowsOk rs ∧ 1 ≤ rs.length ∧ rs.length ≤ 40 ∧ ∀ B' l' (ts : QL) c', Ex B B' → RowsAt B' l' ts → RowsOk ts → nms ts = nms rs → Dr K B' c' m (N + 2) → Q (.ref l') B' (c' ++ R)
theorem len_law_otherwise (K : PySem.W.Frag) : ∀ vs B M Q E, sp_law_otherwise K vs B M Q E → vs.length = ps_law_otherwise.length := by
  intro _ _ _ _ _ h
  unfold sp_law_otherwise at h
  repeat (first | (obtain ⟨rfl, _⟩ := h; rfl) | (obtain ⟨_, h⟩ := h))
theorem pure_law_otherwise (T : TX K mg) : ∀ vs B M Q E, sp_law_otherwise K vs B M Q E → SW (rd_law_otherwise K) (DW.up ⟨fun _ B M => Q .non B M, Q, fun _ _ _ => False, fun _ _ _ => False⟩) (start N_law_otherwise vs) B M := by
  rintro _ B _ Q E ⟨m, c, R, N, l, rs, rfl, rfl, hd, hN, hrs, ok, l1, l40, q⟩
  have hll : (rs.map fun r : Addr × Qn => V.ref r.1).length = rs.length := List.length_map _
  unfold rd_law_otherwise
  walk_at "q"
  refine len_l (.per hrs.1) ?_
  rw [hll]
  walk_at "q"
  refine cw_of ⟨m, c, _, N, _, rfl, rfl, hd, by omega, by omega, by omega, fun a c1 a0 a1 hd1 => ?_⟩
  have hai : a.toNat < rs.length := by omega
  have hg : rs[a.toNat]? = some rs[a.toNat] := List.getElem?_eq_getElem hai
  have hrm : rs[a.toNat] ∈ rs := List.getElem_mem hai
  generalize hre : rs[a.toNat] = r at hg hrm
  obtain ⟨b, ha, hb⟩ := hrs.2 r hrm
  have rok := ok.qs r hrm
  have al := rok.an.lo
  have ah := rok.an.hi
  have r0 := rok.r0
  have r1 := rok.r1
  have t0 := rok.t0
  have t1 := rok.t1
  have m0 := rok.m0
  have m1 := rok.m1
  walk_at "q"
  refine ix_l (.per hrs.1) (at_ref a0 a1 hg) ?_
  refine gw_tup (.per ha) rfl ?_
  unfold qVs
  walk_at "q"
  refine ⟨le_line (Nat.le_refl 2), fun p1 => ?_⟩
  refine aw_keep fun e1 g1 => ?_
  walk_at "q"
  refine ew_revF ?_
  walk_at "q"
  refine ⟨b, _, rfl, (hb.ex e1).F.W, fun pr ur hur => ?_⟩
  refine aw_keep fun e2 g2 => ?_
  walk_at "q"
  refine ⟨le_line (Nat.le_refl 2), fun p2 => ?_⟩
  refine aw_keep fun e3 g3 => ?_
  walk_at "q"
  refine len_t (hb.ex ((e1.trans e2).trans e3)).F.W ?_
  rw [List.length_map]
  refine mod_int (by omega) ?_
  walk_at "q"
  refine ⟨le_line (Nat.le_refl 2), fun p3 => ?_⟩
  refine aw_keep fun e4 g4 => ?_
  walk_at "q"
  refine ⟨le_line (Nat.le_refl 2), fun p4 => ?_⟩
  refine aw_keep fun e5 g5 => ?_
  walk_at "q"
  refine ⟨le_line (Nat.le_refl 4), fun w1 => ?_⟩
  walk_at "q"
  refine mod_int (by decide) ?_
  walk_at "q"
  refine ⟨le_line (Nat.le_refl 2), fun p5 => ?_⟩
  refine aw_keep fun e6 g6 => ?_
  walk_at "q"
  refine ⟨le_line (Nat.le_refl 2), fun p6 => ?_⟩
  refine aw_keep fun e7 g7 => ?_
  walk_at "q"
  refine ⟨le_line (Nat.le_refl 2), fun w2 => ?_⟩
  refine add_lst (.tail .here) .here (le_line (Nat.le_refl 6)) fun w3 => ?_
  refine sw_le ((Le.mid ((w2, _) :: (w1, _) :: c1)).trans (Le.drop (Le.drop .refl))) ?_
  have ee := (((((e1.trans e2).trans e3).trans e4).trans e5).trans e6).trans e7
  walk_at "q"
  refine cw_of ⟨m, c1, _, N + 1, w3, _, rfl, rfl, hd1.ex ee, by omega, .of .here, by simp, by simp, fun v c2 hv hd2 => ?_⟩
  have key : ∃ pp : Addr, ∃ k : Nat, ∃ th : V, ∃ q' : Qn, ∃ b' : Addr, v = .ref pp ∧ (upd (upd (upd (upd (upd (upd (upd B p1 (.tup [V.int 1, V.str "mm"])) pr ur) p2 (.tup [V.int 2, V.ref pr])) p3 (.tup [V.int 3, V.int ((r.2.right + 1) % (r.2.ans.length : Int))])) p4 (.tup [V.int 4, V.int (10 - r.2.toil)])) p5 (.tup [V.int 5, V.int (1 + r.2.marks % 9)])) p6 (.tup [V.int 6, V.str "kk"])) pp = some (.tup [.int k, th]) ∧ 1 ≤ k ∧ k ≤ 6 ∧
      (qVs r.2 b).take k ++ (th :: (qVs r.2 b).drop (k + 1)) = qVs q' b' ∧ AnsAt (upd (upd (upd (upd (upd (upd (upd B p1 (.tup [V.int 1, V.str "mm"])) pr ur) p2 (.tup [V.int 2, V.ref pr])) p3 (.tup [V.int 3, V.int ((r.2.right + 1) % (r.2.ans.length : Int))])) p4 (.tup [V.int 4, V.int (10 - r.2.toil)])) p5 (.tup [V.int 5, V.int (1 + r.2.marks % 9)])) p6 (.tup [V.int 6, V.str "kk"])) b' q'.ans ∧ QOk q' ∧ q'.name = r.2.name := by
    have hbb := hb.ex ee
    simp only [List.cons_append, List.nil_append, List.mem_cons, List.not_mem_nil, or_false] at hv
    rcases hv with rfl | rfl | rfl | rfl | rfl | rfl
    · exact ⟨p1, 1, _, { r.2 with matter := "mm" }, b, rfl, e7 _ _ (e6 _ _ (e5 _ _ (e4 _ _ (e3 _ _ (e2 _ _ g1))))), by decide, by decide, rfl, hbb, { rok with mt := mm_ok }, rfl⟩
    · exact ⟨p2, 2, _, { r.2 with ans := r.2.ans.reverse, right := r.2.right }, pr, rfl, e7 _ _ (e6 _ _ (e5 _ _ (e4 _ _ g3))), by decide, by decide, rfl, ⟨ur, by rw [List.map_reverse]; exact hur, e7 _ _ (e6 _ _ (e5 _ _ (e4 _ _ (e3 _ _ g2))))⟩, { rok with an := rev_ok rok.an, r1 := by show r.2.right < ((r.2.ans.reverse.length : Nat) : Int); rw [List.length_reverse]; exact r1 }, rfl⟩
    · exact ⟨p3, 3, _, { r.2 with right := (r.2.right + 1) % r.2.ans.length }, b, rfl, e7 _ _ (e6 _ _ (e5 _ _ g4)), by decide, by decide, rfl, hbb, { rok with r0 := Int.emod_nonneg _ (by omega), r1 := Int.emod_lt_of_pos _ (by omega) }, rfl⟩
    · exact ⟨p4, 4, _, { r.2 with toil := 10 - r.2.toil }, b, rfl, e7 _ _ (e6 _ _ g5), by decide, by decide, rfl, hbb, { rok with t0 := by show (1 : Int) ≤ 10 - r.2.toil; omega, t1 := by show 10 - r.2.toil ≤ (9 : Int); omega }, rfl⟩
    · exact ⟨p5, 5, _, { r.2 with marks := 1 + r.2.marks % 9 }, b, rfl, e7 _ _ g6, by decide, by decide, rfl, hbb, { rok with m0 := by show (1 : Int) ≤ 1 + r.2.marks % 9; omega, m1 := by show 1 + r.2.marks % 9 ≤ (9 : Int); omega }, rfl⟩
    · exact ⟨p6, 6, _, { r.2 with kin := "kk" }, b, rfl, g7, by decide, by decide, rfl, hbb, { rok with kn := .inr kk_ok }, rfl⟩
  obtain ⟨pp, k, th, q', b', rfl, hpp, k1, k6, hqv, hb', hq', hn'⟩ := key
  have hrs' := hrs.ex ee
  have ha' := ee _ _ ha
  have hq7 : (qVs r.2 b).length = 7 := rfl
  refine gw_tup (.per hpp) rfl ?_
  walk_at "q"
  refine sl_l (.per hrs'.1) fun s1 => ?_
  rw [cutV_to a0 (by rw [hll]; omega), ← List.map_take]
  refine ew_lst (aw_cons ?_)
  refine ew_made (xs := qVs q' b') ?_ fun tt B3 ex htt => ?_
  · walk_at "q"
    refine ix_l (.per hrs'.1) (at_ref a0 a1 hg) ?_
    walk_at "q"
    have hk1 : cutV (qVs r.2 b) none (some (k : Int)) = (qVs r.2 b).take k := cutV_to (by omega) (by rw [hq7]; omega)
    have hk2 : cutV (qVs r.2 b) (some ((k : Int) + 1)) none = (qVs r.2 b).drop (k + 1) := cutV_from (by omega) (by rw [hq7]; omega)
    refine sl_t (.per ha') (fun e => ?_) fun x1 => ?_
    · rw [hk1] at e
      have := congrArg List.length e
      rw [List.length_take, hq7] at this
      omega
    rw [hk1]
    walk_at "q"
    refine ⟨le_line (Nat.le_refl 1), fun x2 => ?_⟩
    have hne1 : (qVs r.2 b).take k ≠ [] := fun e => by
      have := congrArg List.length e
      rw [List.length_take, hq7, List.length_nil] at this
      omega
    refine add_tup (.of (.tail .here)) (.of .here) (by rw [List.length_take, hq7, sizeLine_eq]; show min k 7 + 1 ≤ _; omega) (fun e => absurd e hne1) (fun _ e => absurd e nofun) fun _ _ x3 => ?_
    walk_at "q"
    refine ix_l (.per hrs'.1) (at_ref a0 a1 hg) ?_
    walk_at "q"
    refine sl_t (.per ha') (fun e => ?_) fun x4 => ?_
    · rw [hk2] at e
      have := congrArg List.length e
      rw [List.length_drop, hq7] at this
      omega
    rw [hk2]
    have hxs : (qVs r.2 b).take k ++ [th] ++ (qVs r.2 b).drop (k + 1) = qVs q' b' := by rw [List.append_assoc]; exact hqv
    refine add_tup (.of (.tail .here)) (.of .here) (by rw [List.length_append, List.length_take, List.length_drop, hq7, sizeLine_eq]; show min k 7 + 1 + _ ≤ _; omega) (fun e => absurd e (by simp)) (fun _ e => ?_) fun _ _ x5 => ?_
    · rw [e, List.append_nil] at hxs
      rw [hxs]
      exact .drop (.keep fun ex at_ => .le (Le.drop (Le.drop .refl)) ⟨x3, rfl, ex, at_, rfl⟩)
    · rw [hxs]
      exact .keep fun ex at_ => .le (Le.drop (Le.drop (Le.drop (Le.drop .refl)))) ⟨x5, rfl, ex, at_, rfl⟩
  · have hrs3 := hrs'.ex ex
    walk_at "q"
    refine ⟨le_line (Nat.le_refl 1), fun y1 => ?_⟩
    refine add_lst (.tail .here) .here (by rw [List.length_map, List.length_take, sizeLine_eq]; show _ + 1 ≤ _; omega) fun y2 => ?_
    walk_at "q"
    refine sl_l (.per hrs3.1) fun y3 => ?_
    rw [cutV_from (by omega) (by rw [hll]; omega), ← List.map_drop]
    refine add_lst (.tail .here) .here (by rw [List.length_append, List.length_map, List.length_take, List.length_map, List.length_drop, sizeLine_eq]; show _ + 1 + _ ≤ _; omega) fun y4 => ?_
    have hat : (a + 1).toNat = a.toNat + 1 := by omega
    rw [hat]
    have hsplit : rs = rs.take a.toNat ++ (r :: rs.drop (a.toNat + 1)) := by
      rw [← hre, ← List.drop_eq_getElem_cons hai, List.take_append_drop]
    have hts : (rs.take a.toNat).map (fun r : Addr × Qn => V.ref r.1) ++ [V.ref tt] ++ (rs.drop (a.toNat + 1)).map (fun r : Addr × Qn => V.ref r.1) = (rs.take a.toNat ++ ((tt, q') :: rs.drop (a.toNat + 1))).map fun r : Addr × Qn => V.ref r.1 := by
      rw [List.map_append, List.append_assoc] <;> rfl
    rw [hts]
    have hnm : nms (rs.take a.toNat ++ ((tt, q') :: rs.drop (a.toNat + 1))) = nms rs := by
      have h1 : nms rs = nms (rs.take a.toNat ++ (r :: rs.drop (a.toNat + 1))) := by rw [← hsplit]
      rw [h1]
      unfold nms
      rw [List.map_append, List.map_append, List.map_cons, List.map_cons, hn']
    have hmem : ∀ x ∈ rs.take a.toNat ++ ((tt, q') :: rs.drop (a.toNat + 1)), x ∈ rs ∨ x = (tt, q') := fun x hx => by
      rcases List.mem_append.mp hx with h | h
      · exact .inl (List.mem_of_mem_take h)
      · rcases List.mem_cons.mp h with h | h
        · exact .inr h
        · exact .inl (List.mem_of_mem_drop h)
    refine .keep fun ex2 at_ => .drop (.drop (.drop (.drop (.le ((Le.mid' c2).trans (Le.drop .refl)) (q _ y4 _ c2 ((ee.trans ex).trans ex2) ⟨at_, fun x hx => ?_⟩ ⟨fun x hx => ?_, fun x hx => ?_, by rw [hnm]; exact ok.up⟩ hnm (hd2.ex (ex.trans ex2)))))))
    · rcases hmem x hx with h | rfl
      · exact (hrs.2 x h).ex ((ee.trans ex).trans ex2)
      · exact ⟨b', ex2 _ _ htt, hb'.ex (ex.trans ex2)⟩
    · rcases hmem x hx with h | rfl
      · exact ok.qs x h
      · exact hq'
    · rcases hmem x hx with h | rfl
      · exact ok.zy x h
      · show q'.name ≠ _
        rw [hn']
        exact ok.zy r hrm
theorem ok_law_otherwise (T : TX K mg) : Fnk P w K mg base d_law_otherwise ps_law_otherwise 3 (spW (sp_law_otherwise K)) :=
  fnk_of (N := N_law_otherwise) (rd_law_otherwise K) T.d_law_otherwise sc_law_otherwise (len_law_otherwise K) (fun f cdv A outer sh H E hr => (pss_cons (ps_set (i := 2) sc_law_otherwise.nd rfl (Or.inl rfl) (pe_fn (ok_law_draw T) bp_law_draw_2 hr (by decide) rfl T.g__law_draw (pa_cons (pv 0) (pa_cons (pe_callB call_lenU (by rfl) T.f_len (by decide +kernel) (pa_cons (pv 1) pa_nil)) pa_nil)))) (pss_cons (ps_asg (pe_ix ix_seq (pv 1) (pv 2) (fun _ _ => rfl)) (pg_tup rfl (pgs_cons (pg_name (i := 3) sc_law_otherwise.nd rfl (Or.inl rfl)) (pgs_cons (pg_name (i := 4) sc_law_otherwise.nd rfl (Or.inl rfl)) (pgs_cons (pg_name (i := 5) sc_law_otherwise.nd rfl (Or.inl rfl)) (pgs_cons (pg_name (i := 6) sc_law_otherwise.nd rfl (Or.inl rfl)) (pgs_cons (pg_name (i := 7) sc_law_otherwise.nd rfl (Or.inl rfl)) (pgs_cons (pg_name (i := 8) sc_law_otherwise.nd rfl (Or.inl rfl)) (pgs_cons (pg_name (i := 9) sc_law_otherwise.nd rfl (Or.inl rfl)) pgs_nil))))))))) (pss_cons (ps_set (i := 10) sc_law_otherwise.nd rfl (Or.inl rfl) (pe_lst (pa_cons (pe_tup (pa_cons pe_int (pa_cons pe_str pa_nil))) (pa_cons (pe_tup (pa_cons pe_int (pa_cons (pe_revF (pv 5)) pa_nil))) (pa_cons (pe_tup (pa_cons pe_int (pa_cons (pe_op op_modU (pe_op op_addU (pv 6) pe_int) (pe_callB call_lenU (by rfl) T.f_len (by decide +kernel) (pa_cons (pv 5) pa_nil))) pa_nil))) (pa_cons (pe_tup (pa_cons pe_int (pa_cons (pe_op op_subU pe_int (pv 7)) pa_nil))) pa_nil)))))) (pss_cons (ps_set (i := 10) sc_law_otherwise.nd rfl (Or.inl rfl) (pe_op op_addU (pv 10) (pe_lst (pa_cons (pe_tup (pa_cons pe_int (pa_cons (pe_op op_addU pe_int (pe_op op_modU (pv 8) pe_int)) pa_nil))) (pa_cons (pe_tup (pa_cons pe_int (pa_cons pe_str pa_nil))) pa_nil))))) (pss_cons (ps_asg (pe_fn (ok_law_of T) bp_law_of_2 hr (by decide) rfl T.g__law_of (pa_cons (pv 0) (pa_cons (pv 10) pa_nil))) (pg_tup rfl (pgs_cons (pg_name (i := 11) sc_law_otherwise.nd rfl (Or.inl rfl)) (pgs_cons (pg_name (i := 12) sc_law_otherwise.nd rfl (Or.inl rfl)) pgs_nil)))) (pss_one (ps_ret (pe_op op_addU (pe_op op_addU (pe_slice sl_U (pv 1) po_none (po_some (pv 2))) (pe_lst (pa_cons (pe_op op_addU (pe_op op_addU (pe_slice sl_U (pe_ix ix_seq (pv 1) (pv 2) (fun _ _ => rfl)) po_none (po_some (pv 11))) (pe_tup (pa_cons (pv 12) pa_nil))) (pe_slice sl_U (pe_ix ix_seq (pv 1) (pv 2) (fun _ _ => rfl)) (po_some (pe_op op_addU (pv 11) pe_int)) po_none)) pa_nil))) (pe_slice sl_U (pv 1) (po_some (pe_op op_addU (pv 2) pe_int)) po_none)))))))))) (pure_law_otherwise T)
end
end Pap

set_option maxHeartbeats 4000000
/-! S20: forty. -/
namespace Pap
open PySem PySem.Spec PyProof.Rows L2 PT
local macro_rules | `(tactic| walk_at "q1") => `(tactic| first
  | with_reducible refine sw_seq ?_
  | with_reducible refine sw_ret ?_
  | with_reducible refine sw_if ?_
  | with_reducible refine sw_next ?_
  | with_reducible refine sw_drop ?_
  | with_reducible refine sw_retN ?_
  | with_reducible refine sw_set ?_
  | with_reducible refine sw_par ?_
  | with_reducible refine sw_par3 ?_
  | with_reducible refine sw_asg ?_
  | with_reducible refine gw_name ?_
  | with_reducible refine gsw_cons ?_
  | with_reducible refine gsw_nil ?_
  | with_reducible refine tw_or ?_
  | with_reducible refine tw_and ?_
  | with_reducible refine tw_not ?_
  | with_reducible refine tw_B ?_
  | with_reducible refine tw_test ?_
  | with_reducible refine tw_yes ?_
  | with_reducible refine ew_cb ?_
  | with_reducible refine ew_c ?_
  | with_reducible refine ew_op ?_
  | with_reducible refine ew_chain ?_
  | with_reducible refine ew_notV ?_
  | with_reducible refine ew_andV ?_
  | with_reducible refine ew_orV ?_
  | with_reducible refine ew_un ?_
  | with_reducible refine ew_then ?_
  | with_reducible refine ew_sl ?_
  | with_reducible refine ow_no ?_
  | with_reducible refine ow_some ?_
  | with_reducible refine ew_tup ?_
  | with_reducible refine ew_lst ?_
  | with_reducible refine ew_tupF ?_
  | with_reducible refine ew_dnew ?_
  | with_reducible refine ew_call ?_
  | with_reducible refine ew_callN ?_
  | with_reducible refine ew_make ?_
  | with_reducible refine ew_makeN ?_
  | with_reducible refine ew_meth ?_
  | with_reducible refine ew_methK ?_
  | with_reducible refine ew_tm ?_
  | with_reducible refine ew_bm ?_
  | with_reducible refine ew_bm0 ?_
  | with_reducible refine aw_nil ?_
  | with_reducible refine aw_cons ?_
  | (with_reducible refine ew_varE ?_; refine ⟨_, rfl, ?_⟩)
  | with_reducible refine le_int ?_
  | with_reducible refine lt_int ?_
  | with_reducible refine ge_int ?_
  | with_reducible refine gt_int ?_
  | with_reducible refine eq_int ?_
  | with_reducible refine ne_int ?_
  | with_reducible refine eq_str ?_
  | with_reducible refine ne_str ?_
  | with_reducible refine add_int ?_
  | with_reducible refine sub_int ?_
  | with_reducible refine is_n ?_
  | with_reducible refine isn_n ?_
  | with_reducible refine isi_ii ?_
  | with_reducible refine isi_ib ?_
  | with_reducible refine isi_ss ?_
  | (with_reducible refine ⟨rfl, rfl, ?_⟩)
  | with_reducible refine up_rt ?_
  | with_reducible refine up_nx ?_
  | with_reducible refine tt_ ?_
  | with_reducible refine ff_ ?_
  | with_reducible refine ⟨_, rfl, ?_⟩
  | rw [Bool.not_true]
  | rw [Bool.not_false]
  | (show _ ∧ _; with_reducible refine tt_ ?_)
  | (show _ ∧ _; with_reducible refine ff_ ?_)
  | fail "q1: no step")
local macro_rules | `(tactic| walk_at "q") => `(tactic| repeat walk_at "q1")
local macro_rules | `(tactic| walk_at "le") => `(tactic| repeat (first | with_reducible exact Le.refl | with_reducible refine Le.drop ?_ | with_reducible refine Le.app ?_))
local macro_rules | `(tactic| walk_at "nq") => `(tactic| first | exact TX.n_Question_name (by assumption) | exact TX.n_Question_matter (by assumption) | exact TX.n_Question_answers (by assumption) | exact TX.n_Question_right (by assumption) | exact TX.n_Question_toil (by assumption) | exact TX.n_Question_marks (by assumption) | exact TX.n_Question_kin (by assumption))
local macro_rules | `(tactic| walk_at "fl") => `(tactic| refine ⟨_, _, _, rfl, .inl (by assumption), _, rfl, ?_⟩)
local macro_rules | `(tactic| walk_at "fq") => `(tactic| (walk_at "q"; (with_reducible refine ew_fldE (TX.c_Question (by assumption)) (by walk_at "nq") ?_); walk_at "q"; walk_at "fl"; walk_at "q"))

theorem RowsOk.paper {rs : QL} (ok : RowsOk rs) (l1 : 1 ≤ rs.length) (l40 : rs.length ≤ 40) : PaperOk (nms rs) :=
  ⟨by unfold nms; rw [List.length_map]; exact l1, by unfold nms; rw [List.length_map]; exact l40, fun z hz => by
    obtain ⟨r, hr, rfl⟩ := List.mem_map.mp hz
    exact (ok.qs r hr).nm, ok.up⟩
theorem RowsOk.rs {rs : QL} (ok : RowsOk rs) (l1 : 1 ≤ rs.length) (l40 : rs.length ≤ 40) : RsOk rs := ⟨ok.paper l1 l40, ok.qs⟩
theorem nms_qsL (rs : QL) : nms rs = (qsL rs).map (·.name) := by unfold nms qsL; rw [List.map_map] <;> rfl
theorem RsOk.of_qsL {rs ts : QL} (ok : RsOk rs) (h : qsL ts = qsL rs) : RsOk ts := ⟨by rw [nms_qsL, h, ← nms_qsL]; exact ok.pa, fun r hr => by
  have h1 : r.2 ∈ qsL rs := by rw [← h]; exact List.mem_map.mpr ⟨r, hr, rfl⟩
  obtain ⟨r', h2, h3⟩ := List.mem_map.mp h1
  rw [← h3]
  exact ok.qs r' h2⟩
theorem pick_rows {qs rs : QL} (nd : (nms qs).Nodup) (h : ∀ r ∈ rs, ∃ a, (a, r.2) ∈ qs) : qsL ((nms rs).map (pick qs)) = qsL rs := by
  unfold qsL nms
  rw [List.map_map, List.map_map]
  refine List.map_congr_left fun r hr => ?_
  obtain ⟨a, ha⟩ := h r hr
  have := pick_one nd ha
  show (pick qs r.2.name).2 = r.2
  rw [show r.2.name = ((a, r.2) : Addr × Qn).2.name from rfl, this]
theorem BankOf.sub {K : PySem.W.Frag} {B : Hp} {x : Addr} {rs ts : QL} (h : BankOf K B x rs) (hs : ∀ t ∈ ts, t ∈ rs) : BankOf K B x ts := ⟨let ⟨qs, h1, h2, h3, h4⟩ := h.ex; ⟨qs, h1, h2, h3, fun t ht => h4 t (hs t ht)⟩⟩
/-- Copy(bank, paper, n) -/
theorem cw_copy {K : PySem.W.Frag} {B : Hp} {M : MM} {Q : Addr → Hp → MM → Prop} {x p : Addr} {rs : QL} {n : Int} (hb : BankOf K B x rs) (hp : B p = some (.tup ((nms rs).map .str))) (ok : RowsOk rs) (l1 : 1 ≤ rs.length) (l40 : rs.length ≤ 40) (n0 : 0 ≤ n) (n1 : n ≤ 999)
    (q : ∀ y dx l B' ts, Ex B B' → QsAt K B' l ts → qsL ts = qsL rs → RsOk ts → Q y B' ((y, .ins (CC K) dx (cpF n l)) :: M)) :
    ∀ y dx, CW (spW (sp_CopyX_initX K)) E0 [.ref y, .ref x, .ref p, .int n] B ((y, .ins (CC K) dx []) :: M) fun v B' M' => v = .non ∧ Q y B' M' := by
  intro y dx
  obtain ⟨qs, h1, h2, h3, h4⟩ := hb.ex
  have hsub : ∀ z ∈ nms rs, z ∈ nms qs := fun z hz => by
    obtain ⟨r, hr, rfl⟩ := List.mem_map.mp hz
    obtain ⟨a, ha⟩ := h4 r hr
    exact List.mem_map.mpr ⟨_, ha, rfl⟩
  refine cw_of ⟨y, dx, M, x, qs, p, nms rs, n, rfl, rfl, h1, h2, hp, ok.paper l1 l40, hsub, n0, n1, fun l B' e hl => ⟨rfl, ?_⟩⟩
  have he := pick_rows h3 h4
  exact q y dx l B' _ e hl he ((ok.rs l1 l40).of_qsL he)
theorem qAt_marks (qs : List Qn) (n p : Int) : (qAt qs n p).marks = (atL qs (oAt qs n p)).marks := rfl
theorem eqC_no {qs qs' : List Qn} {n a : Int} (hl : qs'.length = qs.length) (a0 : 0 ≤ a) (a1 : a < qs.length) (h : (atL qs a).marks ≠ (atL qs' a).marks) : eqC qs n qs' n = false := by
  have hn : (0 : Int) < qs.length := by omega
  have p0 : 0 ≤ (a - n) % qs.length := Int.emod_nonneg _ (by omega)
  have p1 : (a - n) % qs.length < qs.length := Int.emod_lt_of_pos _ hn
  have hp : oAt qs n ((a - n) % qs.length) = a := by
    unfold oAt
    first
      | (rw [Int.add_emod_emod, show n + (a - n) = a by omega]; exact Int.emod_eq_of_lt a0 a1)
      | (rw [Int.emod_add_emod, show a - n + n = a by omega]; exact Int.emod_eq_of_lt a0 a1)
  have hp' : oAt qs' n ((a - n) % qs.length) = a := by
    have : oAt qs' n ((a - n) % qs.length) = oAt qs n ((a - n) % qs.length) := by unfold oAt; rw [hl]
    rw [this, hp]
  unfold eqC
  rw [decide_eq_true hl, Bool.true_and, List.all_eq_false]
  refine ⟨((a - n) % qs.length).toNat, List.mem_range.mpr (by omega), ?_⟩
  rw [show ((((a - n) % qs.length).toNat : Nat) : Int) = (a - n) % qs.length by omega]
  intro e
  have e' := congrArg Qn.marks (of_decide_eq_true e)
  rw [qAt_marks, qAt_marks, hp, hp'] at e'
  exact h e'
section
variable {P : Program} {w : World} {K : PySem.W.Frag} {mg : Str → Option Value} {base : Heap}
abbrev N_law_forty_right : List Str := ["_law_m", "_law_rows_here", "_law_at", "_law_nth", "_law_changed", "_law_one", "_law_second"]
abbrev ps_law_forty_right : List Str := ["_law_m"]
theorem sc_law_forty_right : FnScope N_law_forty_right ps_law_forty_right (defScope s_law_forty_right) := ⟨rfl, rfl, rfl, by decide +kernel, rfl, by decide +kernel, by decide +kernel⟩
theorem bp_CopyX_initX_4 {K : PySem.W.Frag} : BindP K d_CopyX_initX ps_CopyX_initX [] := bindP_d 4 1 (by intro h; cases h) rfl fun _ _ _ _ _ _ _ us its h1 h2 => match us, its, h1, h2 with | [_, _, _, _], [_], _, _ => ⟨_, rfl, rfl⟩
theorem bp_Copy_gone_on_2 {K : PySem.W.Frag} : BindP K d_Copy_gone_on ps_Copy_gone_on [] := bindP_d 2 1 (by intro h; cases h) rfl fun _ _ _ _ _ _ _ us its h1 h2 => match us, its, h1, h2 with | [_, _], [_], _, _ => ⟨_, rfl, rfl⟩
theorem bp_law_bank_2 {K : PySem.W.Frag} : BindP K d_law_bank ps_law_bank [] := bindP_n rfl rfl fun _ _ _ _ _ _ us hl => match us, hl with | [_, _], _ => rfl
theorem bp_law_like_3 {K : PySem.W.Frag} : BindP K d_law_like ps_law_like [] := bindP_n rfl rfl fun _ _ _ _ _ _ us hl => match us, hl with | [_, _, _], _ => rfl
theorem bp_law_number_2 {K : PySem.W.Frag} : BindP K d_law_number ps_law_number [] := bindP_n rfl rfl fun _ _ _ _ _ _ us hl => match us, hl with | [_, _], _ => rfl
theorem bp_law_paper_1 {K : PySem.W.Frag} : BindP K d_law_paper ps_law_paper [] := bindP_n rfl rfl fun _ _ _ _ _ _ us hl => match us, hl with | [_], _ => rfl
theorem bp_law_rows_2 {K : PySem.W.Frag} : BindP K d_law_rows ps_law_rows [] := bindP_n rfl rfl fun _ _ _ _ _ _ us hl => match us, hl with | [_, _], _ => rfl
def rd_law_forty_right (K : PySem.W.Frag) : TS := (tSeq (tAsg (tCall (spW (sp_law_rows K)) [] E0 (tCons (tVar 0) (tCons (tC (.int (40))) tNil))) (gName 1)) (tSeq (tPar 2 3 (tCons (tCall (spW (sp_law_draw K)) [] E0 (tCons (tVar 0) (tCons (tC (.int (40))) tNil))) (tCons (tCall (spW (sp_law_number K)) [] E0 (tCons (tVar 0) (tCons (tC (.int (40))) tNil))) tNil))) (tSeq (tAsg (tOp (rAddU K) (tOp (rAddU K) (tSl (rSlU K) (tVar 1) tNoPart (tPart (tVar 2))) (tLst (tCons (tOp (rAddU K) (tOp (rAddU K) (tSl (rSlU K) (tOp (rIx K) (tVar 1) (tVar 2)) tNoPart (tPart (tC (.int (5))))) (tTup (tCons (tOp (rAddU K) (tC (.int (1))) (tOp (rModI) (tOp (rIx K) (tOp (rIx K) (tVar 1) (tVar 2)) (tC (.int (5)))) (tC (.int (9))))) tNil))) (tSl (rSlU K) (tOp (rIx K) (tVar 1) (tVar 2)) (tPart (tC (.int (6)))) tNoPart)) tNil))) (tSl (rSlU K) (tVar 1) (tPart (tOp (rAddU K) (tVar 2) (tC (.int (1))))) tNoPart)) (gName 4)) (tSeq (tPar 5 6 (tCons (tMake (He.ga K "Copy") (spW (sp_CopyX_initX K)) [] E0 (tCons (tCall (spW (sp_law_bank K)) [] E0 (tCons (tVar 0) (tCons (tVar 1) tNil))) (tCons (tCall (spW (sp_law_paper K)) [] E0 (tCons (tVar 1) tNil)) (tCons (tVar 3) tNil)))) (tCons (tMake (He.ga K "Copy") (spW (sp_CopyX_initX K)) [] E0 (tCons (tCall (spW (sp_law_bank K)) [] E0 (tCons (tVar 0) (tCons (tVar 4) tNil))) (tCons (tCall (spW (sp_law_paper K)) [] E0 (tCons (tVar 1) tNil)) (tCons (tVar 3) tNil)))) tNil))) (tRet (tAndV (tCall (spW (sp_law_like K)) [] E0 (tCons (tVar 5) (tCons (tVar 6) (tCons (tC (.bl false)) tNil)))) (tCall (spW (sp_law_like K)) [] E0 (tCons (tVar 5) (tCons (tMeth (He.ga K "Copy") "gone_on" (spW (sp_Copy_gone_on K)) [] E0 (tVar 5) (tCons (tC (.int (0))) tNil)) (tCons (tC (.bl true)) tNil))))))))))
def sp_law_forty_right (K : PySem.W.Frag) : SpW := fun vs B M Q E => ∃ m c R N, vs = [.ref m] ∧ M = c ++ R ∧ Dr K B c m N ∧ N ≤ 800000000 ∧ ∀ B' M', Q (.bl true) B' M'
theorem len_law_forty_right (K : PySem.W.Frag) : ∀ vs B M Q E, sp_law_forty_right K vs B M Q E → vs.length = ps_law_forty_right.length := by
  intro _ _ _ _ _ h
  unfold sp_law_forty_right at h
  repeat (first | (obtain ⟨rfl, _⟩ := h; rfl) | (obtain ⟨_, h⟩ := h))
theorem pure_law_forty_right (T : TX K mg) : ∀ vs B M Q E, sp_law_forty_right K vs B M Q E → SW (rd_law_forty_right K) (DW.up ⟨fun _ B M => Q .non B M, Q, fun _ _ _ => False, fun _ _ _ => False⟩) (start N_law_forty_right vs) B M := by
  rintro _ B _ Q E ⟨m, c, R, N, rfl, rfl, hd, hN, q⟩
  unfold rd_law_forty_right
  walk_at "q"
  refine cw_of ⟨m, c, R, N, 40, rfl, rfl, hd, hN, by decide, fun B1 l rs c1 e1 hrs hlen ok hd1 => ?_⟩
  have hll : (rs.map fun r : Addr × Qn => V.ref r.1).length = 40 := by rw [List.length_map, hlen]
  walk_at "q"
  refine cw_of ⟨m, c1, R, _, 40, rfl, rfl, hd1, by omega, by decide, by decide, fun a c2 a0 a1 hd2 => ?_⟩
  walk_at "q"
  refine cw_of ⟨m, c2, R, _, 40, rfl, rfl, hd2, by omega, by decide, by decide, fun n c3 n0 n1 hd3 => ?_⟩
  walk_at "q"
  refine ⟨_, _, rfl, ?_⟩
  have hai : a.toNat < rs.length := by omega
  have hg : rs[a.toNat]? = some rs[a.toNat] := List.getElem?_eq_getElem hai
  have hrm : rs[a.toNat] ∈ rs := List.getElem_mem hai
  generalize hre : rs[a.toNat] = r at hg hrm
  obtain ⟨b, ha, hb⟩ := hrs.2 r hrm
  have rok := ok.qs r hrm
  have m0 := rok.m0
  have m1 := rok.m1
  have hq7 : (qVs r.2 b).length = 7 := rfl
  walk_at "q"
  refine sl_l (.per hrs.1) fun s1 => ?_
  rw [cutV_to a0 (by rw [hll]; omega), ← List.map_take]
  refine ew_lst (aw_cons ?_)
  refine ew_made (xs := qVs { r.2 with marks := 1 + r.2.marks % 9 } b) ?_ fun tt B3 ex htt => ?_
  · walk_at "q"
    refine ix_l (.per hrs.1) (at_ref a0 (by omega) hg) ?_
    walk_at "q"
    have hk1 : cutV (qVs r.2 b) none (some 5) = (qVs r.2 b).take 5 := cutV_to (by decide) (by rw [hq7]; decide)
    have hk2 : cutV (qVs r.2 b) (some 6) none = (qVs r.2 b).drop 6 := cutV_from (by decide) (by rw [hq7]; decide)
    refine sl_t (.per ha) (fun e => ?_) fun x1 => ?_
    · rw [hk1] at e
      exact absurd (congrArg List.length e) (by rw [List.length_take, hq7]; decide)
    rw [hk1]
    walk_at "q"
    refine ix_l (.per hrs.1) (at_ref a0 (by omega) hg) ?_
    walk_at "q"
    refine ix_t (.per ha) rfl ?_
    walk_at "q"
    refine mod_int (by decide) ?_
    walk_at "q"
    refine ⟨le_line (Nat.le_refl 1), fun x2 => ?_⟩
    refine add_tup (.of (.tail .here)) (.of .here) (le_line (Nat.le_refl 6)) (fun e => absurd e (by simp [qVs])) (fun _ e => absurd e nofun) fun _ _ x3 => ?_
    walk_at "q"
    refine ix_l (.per hrs.1) (at_ref a0 (by omega) hg) ?_
    walk_at "q"
    refine sl_t (.per ha) (fun e => ?_) fun x4 => ?_
    · rw [hk2] at e
      exact absurd (congrArg List.length e) (by rw [List.length_drop, hq7]; decide)
    rw [hk2]
    refine add_tup (.of (.tail .here)) (.of .here) (le_line (Nat.le_refl 7)) (fun e => absurd e (by simp)) (fun _ e => absurd e (by simp [qVs])) fun _ _ x5 => ?_
    exact .keep fun ex at_ => .le (Le.drop (Le.drop (Le.drop (Le.drop .refl)))) ⟨x5, rfl, ex, at_, rfl⟩
  have hrs3 := hrs.ex ex
  walk_at "q"
  refine ⟨le_line (Nat.le_refl 1), fun y1 => ?_⟩
  refine add_lst (.tail .here) .here (by rw [List.length_map, List.length_take, sizeLine_eq]; show _ + 1 ≤ _; omega) fun y2 => ?_
  walk_at "q"
  refine sl_l (.per hrs3.1) fun y3 => ?_
  rw [cutV_from (by omega) (by rw [hll]; omega), ← List.map_drop]
  refine add_lst (.tail .here) .here (by rw [List.length_append, List.length_map, List.length_take, List.length_map, List.length_drop, sizeLine_eq]; show _ + 1 + _ ≤ _; omega) fun y4 => ?_
  have hat : (a + 1).toNat = a.toNat + 1 := by omega
  rw [hat]
  have hsplit : rs = rs.take a.toNat ++ (r :: rs.drop (a.toNat + 1)) := by
    rw [← hre, ← List.drop_eq_getElem_cons hai, List.take_append_drop]
  have hts : (rs.take a.toNat).map (fun r : Addr × Qn => V.ref r.1) ++ [V.ref tt] ++ (rs.drop (a.toNat + 1)).map (fun r : Addr × Qn => V.ref r.1) = (rs.take a.toNat ++ ((tt, { r.2 with marks := 1 + r.2.marks % 9 }) :: rs.drop (a.toNat + 1))).map fun r : Addr × Qn => V.ref r.1 := by
    rw [List.map_append, List.append_assoc] <;> rfl
  rw [hts]
  have hnm : nms (rs.take a.toNat ++ ((tt, { r.2 with marks := 1 + r.2.marks % 9 }) :: rs.drop (a.toNat + 1))) = nms rs := by
    have h1 : nms rs = nms (rs.take a.toNat ++ (r :: rs.drop (a.toNat + 1))) := by rw [← hsplit]
    rw [h1]
    unfold nms
    rw [List.map_append, List.map_append, List.map_cons, List.map_cons]
  have hmem : ∀ x ∈ rs.take a.toNat ++ ((tt, { r.2 with marks := 1 + r.2.marks % 9 }) :: rs.drop (a.toNat + 1)), x ∈ rs ∨ x = (tt, { r.2 with marks := 1 + r.2.marks % 9 }) := fun x hx => by
    rcases List.mem_append.mp hx with h | h
    · exact .inl (List.mem_of_mem_take h)
    · rcases List.mem_cons.mp h with h | h
      · exact .inr h
      · exact .inl (List.mem_of_mem_drop h)
  have hta : (rs.take a.toNat ++ ((tt, { r.2 with marks := 1 + r.2.marks % 9 }) :: rs.drop (a.toNat + 1)))[a.toNat]? = some (tt, { r.2 with marks := 1 + r.2.marks % 9 }) := by
    rw [List.getElem?_append_right (by rw [List.length_take]; omega), List.length_take, show a.toNat - min a.toNat rs.length = 0 by omega] <;> rfl
  have htl : (rs.take a.toNat ++ ((tt, { r.2 with marks := 1 + r.2.marks % 9 }) :: rs.drop (a.toNat + 1))).length = 40 := by
    have := congrArg List.length hnm
    unfold nms at this
    rw [List.length_map, List.length_map, hlen] at this
    exact this
  generalize rs.take a.toNat ++ ((tt, { r.2 with marks := 1 + r.2.marks % 9 }) :: rs.drop (a.toNat + 1)) = ts at hnm hmem hta htl
  refine sw_keep fun ex2 at_ => ?_
  refine sw_le (Le.drop (Le.drop (Le.drop (Le.drop .refl)))) ?_
  have hts3 : RowsAt _ y4 ts := ⟨at_, fun x hx => by
    rcases hmem x hx with h | rfl
    · exact (hrs.2 x h).ex (ex.trans ex2)
    · exact ⟨b, ex2 _ _ htt, hb.ex (ex.trans ex2)⟩⟩
  have tok : RowsOk ts := ⟨fun x hx => by
      rcases hmem x hx with h | rfl
      · exact ok.qs x h
      · exact { rok with m0 := by show (1 : Int) ≤ 1 + r.2.marks % 9; omega, m1 := by show 1 + r.2.marks % 9 ≤ (9 : Int); omega },
    fun x hx => by
      rcases hmem x hx with h | rfl
      · exact ok.zy x h
      · exact ok.zy r hrm, by rw [hnm]; exact ok.up⟩
  have f2 := ex.trans ex2
  walk_at "q"
  refine cw_of ⟨m, c3, R, _, l, rs, rfl, rfl, hd3.ex f2, by omega, hrs.ex f2, ok, by omega, by omega, fun B5 x1 c4 e5 hb1 hd4 => ?_⟩
  walk_at "q"
  refine cw_of ⟨l, rs, rfl, (hrs.ex f2).ex e5, by omega, fun B6 pp1 e6 hp1 => ?_⟩
  walk_at "q"
  have k5 := hb1.up e6
  refine cw_copy k5 hp1 ok (by omega) (by omega) n0 n1 fun o dxo lo B7 us e7 hus heq rok1 => ?_
  refine aw_keep fun e8 a8 => ?_
  have hco : CopyAt K _ o us n := ⟨dxo, lo, a8, hus.ex e8⟩
  have g8 := ((e5.trans e6).trans e7).trans e8
  walk_at "q"
  refine cw_of ⟨m, c4, R, _, y4, ts, rfl, rfl, hd4.ex ((e6.trans e7).trans e8), by omega, hts3.ex g8, tok, by omega, by omega, fun B9 x2 c5 e9 hb2 hd5 => ?_⟩
  walk_at "q"
  refine cw_of ⟨l, rs, rfl, (hrs.ex f2).ex (g8.trans e9), by omega, fun B10 pp2 e10 hp2 => ?_⟩
  walk_at "q"
  refine cw_copy (hb2.up e10) (by rw [hnm]; exact hp2) tok (by omega) (by omega) n0 n1 fun o2 dxo2 lo2 B11 us2 e11 hus2 heq2 rok2 => ?_
  refine aw_keep fun e12 a12 => ?_
  have hco2 : CopyAt K _ o2 us2 n := ⟨dxo2, lo2, a12, hus2.ex e12⟩
  have hco' := hco.ex (((e9.trans e10).trans e11).trans e12)
  walk_at "q"
  refine ⟨_, _, rfl, ?_⟩
  walk_at "q"
  have hno : eqC (qsL us) n (qsL us2) n = false := by
    rw [heq, heq2]
    refine eqC_no (a := a) (by rw [qsL_len, qsL_len]; omega) a0 (by rw [qsL_len]; omega) ?_
    unfold atL qsL
    rw [List.getD_eq_getElem?_getD, List.getD_eq_getElem?_getD, List.getElem?_map, List.getElem?_map, hg, hta]
    show r.2.marks ≠ 1 + r.2.marks % 9
    omega
  refine cw_of ⟨o, us, n, .ref o2, false, rfl, hco', rok1, n0, n1, .inr ⟨o2, us2, n, rfl, hco2, rok2, n0, n1, fun B13 e13 => ?_⟩⟩
  rw [hno]
  refine ⟨true, rfl, fun _ => ?_, nofun⟩
  walk_at "q"
  obtain ⟨dx9, l9, h9, _⟩ := hco'.ex e13
  refine ⟨o, dx9, _, rfl, .inl h9, rfl, ?_⟩
  walk_at "q"
  refine cw_of ⟨o, us, n, 0, rfl, hco'.ex e13, rok1, n0, n1, by omega, by omega, fun o3 B14 e14 hc3 => ?_⟩
  walk_at "q"
  rw [Int.add_zero] at hc3
  have hyes : eqC (qsL us) n (qsL us) n = true := by
    unfold eqC
    rw [decide_eq_true rfl, Bool.true_and, List.all_eq_true]
    exact fun i _ => decide_eq_true rfl
  refine cw_of ⟨o, us, n, .ref o3, true, rfl, hco'.ex (e13.trans e14), rok1, n0, n1, .inr ⟨o3, us, n, rfl, hc3, rok1, n0, n1, fun B15 e15 => ?_⟩⟩
  rw [hyes]
  exact .here (q _ _)
theorem ok_law_forty_right (T : TX K mg) : FnkG P w K mg base d_law_forty_right ps_law_forty_right 10 (spW (sp_law_forty_right K)) :=
  fng_of (N := N_law_forty_right) (rd_law_forty_right K) T.d_law_forty_right sc_law_forty_right (len_law_forty_right K) (fun f cdv A outer sh H E hgd hr => (pss_cons (ps_set (i := 1) sc_law_forty_right.nd rfl (Or.inl rfl) (pe_fn (ok_law_rows T) bp_law_rows_2 hr (by decide) rfl T.g__law_rows (pa_cons (pv 0) (pa_cons pe_int pa_nil)))) (pss_cons (ps_par rfl sc_law_forty_right.nd (i := 2) (j := 3) rfl rfl (by decide) rfl rfl (pa_cons (pe_fn (ok_law_draw T) bp_law_draw_2 hr (by decide) rfl T.g__law_draw (pa_cons (pv 0) (pa_cons pe_int pa_nil))) (pa_cons (pe_fn (ok_law_number T) bp_law_number_2 hr (by decide) rfl T.g__law_number (pa_cons (pv 0) (pa_cons pe_int pa_nil))) pa_nil)) rfl) (pss_cons (ps_set (i := 4) sc_law_forty_right.nd rfl (Or.inl rfl) (pe_op op_addU (pe_op op_addU (pe_slice sl_U (pv 1) po_none (po_some (pv 2))) (pe_lst (pa_cons (pe_op op_addU (pe_op op_addU (pe_slice sl_U (pe_ix ix_seq (pv 1) (pv 2) (fun _ _ => rfl)) po_none (po_some pe_int)) (pe_tup (pa_cons (pe_op op_addU pe_int (pe_op op_modU (pe_ix ix_seq (pe_ix ix_seq (pv 1) (pv 2) (fun _ _ => rfl)) pe_int (fun _ _ => rfl)) pe_int)) pa_nil))) (pe_slice sl_U (pe_ix ix_seq (pv 1) (pv 2) (fun _ _ => rfl)) (po_some pe_int) po_none)) pa_nil))) (pe_slice sl_U (pv 1) (po_some (pe_op op_addU (pv 2) pe_int)) po_none))) (pss_cons (ps_par rfl sc_law_forty_right.nd (i := 5) (j := 6) rfl rfl (by decide) rfl rfl (pa_cons (pe_mkc (ok_CopyX_initX T) bp_CopyX_initX_4 hr (by decide) T.mk_Copy rfl T.g_Copy (pa_cons (pe_fn (ok_law_bank T) bp_law_bank_2 hr (by decide) rfl T.g__law_bank (pa_cons (pv 0) (pa_cons (pv 1) pa_nil))) (pa_cons (pe_fn (ok_law_paper T) bp_law_paper_1 hr (by decide) rfl T.g__law_paper (pa_cons (pv 1) pa_nil)) (pa_cons (pv 3) pa_nil)))) (pa_cons (pe_mkc (ok_CopyX_initX T) bp_CopyX_initX_4 hr (by decide) T.mk_Copy rfl T.g_Copy (pa_cons (pe_fn (ok_law_bank T) bp_law_bank_2 hr (by decide) rfl T.g__law_bank (pa_cons (pv 0) (pa_cons (pv 4) pa_nil))) (pa_cons (pe_fn (ok_law_paper T) bp_law_paper_1 hr (by decide) rfl T.g__law_paper (pa_cons (pv 1) pa_nil)) (pa_cons (pv 3) pa_nil)))) pa_nil)) rfl) (pss_one (ps_ret (pe_and (pe_fnG (ok_law_like T) hgd bp_law_like_3 hr (by decide) rfl T.g__law_like (pa_cons (pv 5) (pa_cons (pv 6) (pa_cons pe_bl pa_nil)))) (pe_one (pe_fnG (ok_law_like T) hgd bp_law_like_3 hr (by decide) rfl T.g__law_like (pa_cons (pv 5) (pa_cons (pe_me (ok_Copy_gone_on T) bp_Copy_gone_on_2 hr (by decide) T.c_Copy T.m_Copy_gone_on (pv 5) (pa_cons pe_int pa_nil)) (pa_cons pe_bl pa_nil))))))))))))) (pure_law_forty_right T)
end
end Pap

set_option maxHeartbeats 4000000
/-! S21: law. -/
namespace Pap
open PySem PySem.Spec PyProof.Rows L2 PT
local macro_rules | `(tactic| walk_at "q1") => `(tactic| first
  | with_reducible refine sw_seq ?_
  | with_reducible refine sw_ret ?_
  | with_reducible refine sw_if ?_
  | with_reducible refine sw_next ?_
  | with_reducible refine sw_drop ?_
  | with_reducible refine sw_retN ?_
  | with_reducible refine sw_set ?_
  | with_reducible refine sw_par ?_
  | with_reducible refine sw_par3 ?_
  | with_reducible refine sw_asg ?_
  | with_reducible refine gw_name ?_
  | with_reducible refine gsw_cons ?_
  | with_reducible refine gsw_nil ?_
  | with_reducible refine tw_or ?_
  | with_reducible refine tw_and ?_
  | with_reducible refine tw_not ?_
  | with_reducible refine tw_B ?_
  | with_reducible refine tw_test ?_
  | with_reducible refine tw_yes ?_
  | with_reducible refine ew_cb ?_
  | with_reducible refine ew_c ?_
  | with_reducible refine ew_op ?_
  | with_reducible refine ew_chain ?_
  | with_reducible refine ew_notV ?_
  | with_reducible refine ew_andV ?_
  | with_reducible refine ew_orV ?_
  | with_reducible refine ew_un ?_
  | with_reducible refine ew_then ?_
  | with_reducible refine ew_sl ?_
  | with_reducible refine ow_no ?_
  | with_reducible refine ow_some ?_
  | with_reducible refine ew_tup ?_
  | with_reducible refine ew_lst ?_
  | with_reducible refine ew_tupF ?_
  | with_reducible refine ew_dnew ?_
  | with_reducible refine ew_call ?_
  | with_reducible refine ew_callN ?_
  | with_reducible refine ew_make ?_
  | with_reducible refine ew_makeN ?_
  | with_reducible refine ew_meth ?_
  | with_reducible refine ew_methK ?_
  | with_reducible refine ew_tm ?_
  | with_reducible refine ew_bm ?_
  | with_reducible refine ew_bm0 ?_
  | with_reducible refine aw_nil ?_
  | with_reducible refine aw_cons ?_
  | (with_reducible refine ew_varE ?_; refine ⟨_, rfl, ?_⟩)
  | with_reducible refine le_int ?_
  | with_reducible refine lt_int ?_
  | with_reducible refine ge_int ?_
  | with_reducible refine gt_int ?_
  | with_reducible refine eq_int ?_
  | with_reducible refine ne_int ?_
  | with_reducible refine eq_str ?_
  | with_reducible refine ne_str ?_
  | with_reducible refine add_int ?_
  | with_reducible refine sub_int ?_
  | with_reducible refine is_n ?_
  | with_reducible refine isn_n ?_
  | with_reducible refine isi_ii ?_
  | with_reducible refine isi_ib ?_
  | with_reducible refine isi_ss ?_
  | (with_reducible refine ⟨rfl, rfl, ?_⟩)
  | with_reducible refine up_rt ?_
  | with_reducible refine up_nx ?_
  | with_reducible refine tt_ ?_
  | with_reducible refine ff_ ?_
  | with_reducible refine ⟨_, rfl, ?_⟩
  | rw [Bool.not_true]
  | rw [Bool.not_false]
  | (show _ ∧ _; with_reducible refine tt_ ?_)
  | (show _ ∧ _; with_reducible refine ff_ ?_)
  | fail "q1: no step")
local macro_rules | `(tactic| walk_at "q") => `(tactic| repeat walk_at "q1")
local macro_rules | `(tactic| walk_at "le") => `(tactic| repeat (first | with_reducible exact Le.refl | with_reducible refine Le.drop ?_ | with_reducible refine Le.app ?_))
local macro_rules | `(tactic| walk_at "nq") => `(tactic| first | exact TX.n_Question_name (by assumption) | exact TX.n_Question_matter (by assumption) | exact TX.n_Question_answers (by assumption) | exact TX.n_Question_right (by assumption) | exact TX.n_Question_toil (by assumption) | exact TX.n_Question_marks (by assumption) | exact TX.n_Question_kin (by assumption))
local macro_rules | `(tactic| walk_at "fl") => `(tactic| refine ⟨_, _, _, rfl, .inl (by assumption), _, rfl, ?_⟩)
local macro_rules | `(tactic| walk_at "fq") => `(tactic| (walk_at "q"; (with_reducible refine ew_fldE (TX.c_Question (by assumption)) (by walk_at "nq") ?_); walk_at "q"; walk_at "fl"; walk_at "q"))

/-! ### plain -/
theorem range_all_eq {α : Type} [DecidableEq α] {a : Nat} {f g : Nat → α} : ((List.range a).all fun i => decide (f i = g i)) = true ↔ (List.range a).map f = (List.range a).map g := by
  rw [List.all_eq_true]
  constructor
  · intro h
    exact List.map_congr_left fun i hi => of_decide_eq_true (h i hi)
  · intro h i hi
    have h1 := congrArg (fun l => l[i]?) h
    simp only [List.getElem?_map, List.getElem?_range (List.mem_range.mp hi), Option.map_some] at h1
    exact decide_eq_true (Option.some.inj h1)
def allN (qs : List Qn) (n : Int) : List Qn := (List.range qs.length).map fun i : Nat => qAt qs n i
theorem allN_len {qs : List Qn} {n : Int} : (allN qs n).length = qs.length := by unfold allN; rw [List.length_map, List.length_range]
theorem eqC_all (qs qs' : List Qn) (n n' : Int) : eqC qs n qs' n' = decide (allN qs n = allN qs' n') := by
  unfold eqC
  by_cases hl : qs'.length = qs.length
  · rw [decide_eq_true hl, Bool.true_and]
    unfold allN
    rw [hl]
    have h := range_all_eq (a := qs.length) (f := fun i : Nat => qAt qs n i) (g := fun i : Nat => qAt qs' n' i)
    cases hc : (List.range qs.length).all fun i : Nat => decide (qAt qs n i = qAt qs' n' i) with
    | true => exact (decide_eq_true (h.mp hc)).symm
    | false => exact (decide_eq_false fun e => by rw [h.mpr e] at hc; cases hc).symm
  · rw [decide_eq_false hl, Bool.false_and]
    refine (decide_eq_false fun e => hl ?_).symm
    have := congrArg List.length e
    rw [allN_len, allN_len] at this
    exact this.symm
theorem oAt_zero {qs : List Qn} {p : Nat} (h : p < qs.length) : oAt qs 0 p = p := by
  unfold oAt
  rw [Int.add_zero]
  exact Int.emod_eq_of_lt (by omega) (by omega)
theorem eqC_self (qs : List Qn) (n : Int) : eqC qs n qs n = true := by rw [eqC_all]; exact decide_eq_true rfl
theorem turn_zero {q : Qn} (ok : QOk q) : turn q 0 = q := by
  have a := ok.an.lo
  have hs : shf q 0 = 0 := Int.zero_emod _
  have hr : (q.right - 0) % (q.ans.length : Int) = q.right := by rw [Int.sub_zero]; exact Int.emod_eq_of_lt ok.r0 ok.r1
  unfold turn
  rw [hs, hr, show (0 : Int).toNat = 0 from rfl, List.drop_zero, List.take_zero, List.append_nil]
theorem allN_zero {qs : List Qn} (hq : ∀ q ∈ qs, QOk q) : allN qs 0 = qs := by
  unfold allN
  apply List.ext_getElem?
  intro i
  by_cases hi : i < qs.length
  · rw [List.getElem?_map, List.getElem?_range hi, List.getElem?_eq_getElem hi]
    show some (qAt qs 0 i) = some qs[i]
    have ho := oAt_zero hi
    have ha : atL qs (i : Int) = qs[i] := by
      unfold atL
      rw [List.getD_eq_getElem?_getD, show ((i : Nat) : Int).toNat = i by omega, List.getElem?_eq_getElem hi] <;> rfl
    unfold qAt oBy
    rw [ho, ha, Int.zero_mul, Int.zero_emod, turn_zero (hq _ (List.getElem_mem hi))]
  · rw [List.getElem?_eq_none (by simpa using hi), List.getElem?_eq_none (by simpa using hi)]
theorem qs_eqvA : ∀ qs ws : List Qn, PyData.eqvAll (qs.map qD) (ws.map qD) = decide (qs = ws)
  | [], [] => by simp [PyData.eqvAll]
  | [], w :: ws => by simp [PyData.eqvAll]
  | z :: zs, [] => by simp [PyData.eqvAll]
  | z :: zs, w :: ws => by
    rw [List.map_cons, List.map_cons]
    show (PyData.eqv (qD z) (qD w) && PyData.eqvAll (zs.map qD) (ws.map qD)) = _
    rw [qs_eqvA zs ws, qD_eqv]
    by_cases h : z = w
    · subst h; simp
    · simp [h]
def qsD (qs : List Qn) : PyData := .list (qs.map qD)
theorem qsD_eqv (qs ws : List Qn) : PyData.eqv (qsD qs) (qsD ws) = decide (qs = ws) := by
  rw [← qs_eqvA]
  unfold qsD
  simp only [PyData.eqv]
theorem qs_lay : ∀ qs : List Qn, (∀ q ∈ qs, QOk q) → PyData.canLayAll0 (qs.map qD) = true
  | [], _ => by simp [PyData.canLayAll0]
  | q :: qs, h => by
    rw [List.map_cons]
    show ((qD q).canLay0 && PyData.canLayAll0 (qs.map qD)) = true
    rw [qD_lay (h q (List.mem_cons_self ..)).lay, qs_lay qs fun r hr => h r (List.mem_cons_of_mem _ hr)] <;> rfl
theorem qs_depth : ∀ qs : List Qn, PyData.depthAll (qs.map qD) ≤ 2
  | [] => by simp [PyData.depthAll]
  | q :: qs => by
    rw [List.map_cons]
    have h1 := qs_depth qs
    have h2 := qD_depth q
    simp only [PyData.depthAll]
    omega
theorem qsD_lay {qs : List Qn} (h : ∀ q ∈ qs, QOk q) : (qsD qs).canLay0 = true := by
  unfold qsD
  simp only [PyData.canLay0]
  exact qs_lay qs h
theorem qsD_depth (qs : List Qn) : (qsD qs).depth ≤ 3 := by
  unfold qsD
  simp only [PyData.depth]
  have := qs_depth qs
  omega
theorem qsD_shaped {qs : List Qn} (h : ∀ q ∈ qs, QOk q) : SeqAt.shaped (qsD qs) = true := by
  unfold SeqAt.shaped
  rw [qsD_lay h, decide_eq_true (by have := qsD_depth qs; omega)] <;> rfl
theorem qsD2_shaped {qs ws : List Qn} (h : ∀ q ∈ qs, QOk q) (h' : ∀ q ∈ ws, QOk q) : SeqAt.shaped (.tuple [qsD qs, qsD ws]) = true := by
  unfold SeqAt.shaped
  have e1 : (PyData.tuple [qsD qs, qsD ws]).canLay0 = true := by simp [PyData.canLay0, PyData.canLayAll0, qsD_lay h, qsD_lay h']
  have e2 : (PyData.tuple [qsD qs, qsD ws]).depth ≤ 64 := by
    have d1 := qsD_depth qs
    have d2 := qsD_depth ws
    simp only [PyData.depth, PyData.depthAll]
    omega
  rw [e1, decide_eq_true e2] <;> rfl
theorem dpRowsA {K : PySem.W.Frag} {B : Hp} {M : MM} {H : Hp} (W : Wd B M H) : ∀ ts : QL, (∀ r ∈ ts, RowAt B r.1 r.2) → DpAll K H (ts.map fun r : Addr × Qn => V.ref r.1) ((qsL ts).map qD)
  | [], _ => .nil
  | r :: ts, h => .cons (by obtain ⟨b, ha, hb⟩ := h r (List.mem_cons_self ..); exact dpq (M := M) hb (.inl ha) H W) (dpRowsA W ts fun r hr => h r (List.mem_cons_of_mem _ hr))
theorem dpRows {K : PySem.W.Frag} {B : Hp} {M : MM} {l : Addr} {ts : QL} (h : LstW K B M l (ts.map fun r : Addr × Qn => V.ref r.1)) (hr : ∀ r ∈ ts, RowAt B r.1 r.2) : DpW K B M (.ref l) (qsD (qsL ts)) := fun H W => .lst (h H W) (dpRowsA W ts hr)
theorem qsL_ok {rs : QL} (ok : RowsOk rs) : ∀ q ∈ qsL rs, QOk q := fun q hq => by
  obtain ⟨r, hr, rfl⟩ := List.mem_map.mp hq
  exact ok.qs r hr
/-- a copy made of the names of `some` in the first bank -/
structure OwnQ (rs ts : QL) : Prop where
  ok : RowsOk ts
  lo : 1 ≤ ts.length
  hi : ts.length ≤ 12
  nm : nms ts = nms rs ∨ (ts = rs.drop 1)
def CpT (K : PySem.W.Frag) (B : Hp) (rs : QL) (t : Addr) : Prop := ∃ y l k x us ts, B t = some (.tup [.ref y, .ref l, .int k, .ref x]) ∧ CopyAt K B y us k ∧ qsL us = qsL ts ∧ RsOk us ∧ 0 ≤ k ∧ k ≤ 999 ∧ BankOf K B x ts ∧ RowsAt B l ts ∧ OwnQ rs ts
def OwT (K : PySem.W.Frag) (B : Hp) (rs : QL) (t : Addr) : Prop := ∃ x l ts, B t = some (.tup [.ref x, .ref l]) ∧ BankOf K B x ts ∧ RowsAt B l ts ∧ OwnQ rs ts
theorem CpT.ex {K : PySem.W.Frag} {B B' : Hp} {rs : QL} {t : Addr} (h : CpT K B rs t) (e : Ex B B') : CpT K B' rs t := by
  obtain ⟨y, l, k, x, us, ts, h1, h2, h3, h4, h5, h6, h7, h8, h9⟩ := h
  exact ⟨y, l, k, x, us, ts, e _ _ h1, h2.ex e, h3, h4, h5, h6, h7.up e, h8.ex e, h9⟩
theorem ew_mk {te : TE} {σ : L2.St} {B : Hp} {M : MM} {Q : KW} {p : V → Hp → Prop} (h : EW te σ B M fun v => Up fun B' M' => p v B' ∧ M' = M) (k : ∀ v B', p v B' → Q v B' M) : EW te σ B M Q :=
  ew_up (ew_post h fun v B' M' u => fun H W => by
    obtain ⟨B2, _, W2, hp, rfl⟩ := u H W
    exact ⟨B2, _, W2, k _ _ hp⟩)
theorem RowsOk.drop {rs : QL} (ok : RowsOk rs) (n : Nat) : RowsOk (rs.drop n) := ⟨fun r hr => ok.qs r (List.mem_of_mem_drop hr), fun r hr => ok.zy r (List.mem_of_mem_drop hr), by unfold nms; rw [List.map_drop]; exact List.Pairwise.sublist (List.drop_sublist _ _) ok.up⟩
theorem own_pick {K : PySem.W.Frag} {B : Hp} {x : Addr} {rs os : QL} (ow : OwnQ rs os) (ok : RowsOk rs) (l1 : 1 ≤ rs.length) (l12 : rs.length ≤ 12) (hb : BankOf K B x rs) : ∃ rs', nms rs' = nms os ∧ BankOf K B x rs' ∧ RowsOk rs' ∧ 1 ≤ rs'.length ∧ rs'.length ≤ 40 ∧ (decide (qsL os = qsL rs') == (decide (qsL rs = qsL os) || decide (qsL (rs.drop 1) = qsL os))) = true := by
  rcases ow.nm with h | h
  · have hl : os.length = rs.length := by
      have := congrArg List.length h
      unfold nms at this
      rw [List.length_map, List.length_map] at this
      exact this
    refine ⟨rs, h.symm, hb, ok, l1, by omega, ?_⟩
    have hne : ¬ qsL (rs.drop 1) = qsL os := fun e => by
      have := congrArg List.length e
      rw [qsL_len, qsL_len, List.length_drop] at this
      omega
    rw [decide_eq_false hne, Bool.or_false]
    by_cases e : qsL os = qsL rs
    · rw [decide_eq_true e, decide_eq_true e.symm] <;> rfl
    · rw [decide_eq_false e, decide_eq_false fun h => e h.symm] <;> rfl
  · subst h
    have := ow.lo
    have := ow.hi
    refine ⟨rs.drop 1, rfl, hb.sub fun t ht => List.mem_of_mem_drop ht, ok.drop 1, by omega, by omega, ?_⟩
    rw [decide_eq_true (p := qsL (rs.drop 1) = qsL (rs.drop 1)) rfl, Bool.or_true] <;> rfl
section
variable {P : Program} {w : World} {K : PySem.W.Frag} {mg : Str → Option Value} {base : Heap}
abbrev N_law : List Str := ["_law_script", "_law_m", "_law_turn", "_law_size_here", "_law_rows_here", "_law_store", "_law_listed", "_law_changed", "_law_banks", "_law_nth", "_law_second", "_law_copies", "_law_own", "_law_some", "_law_k", "_law_at", "_law_copy", "_law_shift", "_law_one", "_law_its", "_law_j", "_law_first", "_law_gone"]
abbrev ps_law : List Str := ["_law_script"]
theorem sc_law : FnScope N_law ps_law (defScope s_law) := ⟨rfl, rfl, rfl, by decide +kernel, rfl, by decide +kernel, by decide +kernel⟩
theorem bk_Copy_gone_on_1_by {K : PySem.W.Frag} : BindK K d_Copy_gone_on ps_Copy_gone_on 1 ["by"] (fun vs zs => vs ++ zs) := bindK_d 1 ["by"] (fun us its ws => us ++ ws) (by intro h; cases h) (fun r1 r2 r3 => (Vals.append r1 r3)) fun _ _ _ _ _ _ _ us its ws h1 h2 h3 => match us, its, ws, h1, h2, h3 with | [_], [_], [_], _, _, _ => ⟨_, rfl, rfl⟩
theorem bp_CopyX_strX_1 {K : PySem.W.Frag} : BindP K d_CopyX_strX ps_CopyX_strX [] := bindP_n rfl rfl fun _ _ _ _ _ _ us hl => match us, hl with | [_], _ => rfl
theorem bp_Copy_first_one_1 {K : PySem.W.Frag} : BindP K d_Copy_first_one ps_Copy_first_one [] := bindP_n rfl rfl fun _ _ _ _ _ _ us hl => match us, hl with | [_], _ => rfl
theorem bp_Copy_gone_on_1 {K : PySem.W.Frag} : BindP K d_Copy_gone_on ps_Copy_gone_on [.int (1)] := bindP_d 1 0 (by intro h; cases h) rfl fun _ _ _ _ _ _ _ us its h1 h2 => match us, its, h1, h2 with | [_], [_], _, _ => ⟨_, rfl, rfl⟩
theorem bp_law_all_2 {K : PySem.W.Frag} : BindP K d_law_all ps_law_all [] := bindP_n rfl rfl fun _ _ _ _ _ _ us hl => match us, hl with | [_, _], _ => rfl
theorem bp_law_begun_1 {K : PySem.W.Frag} : BindP K d_law_begun ps_law_begun [] := bindP_n rfl rfl fun _ _ _ _ _ _ us hl => match us, hl with | [_], _ => rfl
theorem bp_law_forty_right_1 {K : PySem.W.Frag} : BindP K d_law_forty_right ps_law_forty_right [] := bindP_n rfl rfl fun _ _ _ _ _ _ us hl => match us, hl with | [_], _ => rfl
theorem bp_law_otherwise_2 {K : PySem.W.Frag} : BindP K d_law_otherwise ps_law_otherwise [] := bindP_n rfl rfl fun _ _ _ _ _ _ us hl => match us, hl with | [_, _], _ => rfl
theorem bp_law_round_1 {K : PySem.W.Frag} : BindP K d_law_round ps_law_round [] := bindP_n rfl rfl fun _ _ _ _ _ _ us hl => match us, hl with | [_], _ => rfl
theorem bp_law_size_1 {K : PySem.W.Frag} : BindP K d_law_size ps_law_size [] := bindP_n rfl rfl fun _ _ _ _ _ _ us hl => match us, hl with | [_], _ => rfl
theorem bp_round_length_1 {K : PySem.W.Frag} : BindP K d_round_length ps_round_length [] := bindP_n rfl rfl fun _ _ _ _ _ _ us hl => match us, hl with | [_], _ => rfl
def rd_law (K : PySem.W.Frag) : TS := (tSeq (tAsg (tCall (spW (sp_law_begun K)) [] E0 (tCons (tVar 0) tNil)) (gName 1)) (tSeq (tFor (iRng1 (tCons (tC (.int (3))) tNil)) (gName 2) (tSeq (tAsg (tCall (spW (sp_law_size K)) [] E0 (tCons (tVar 1) tNil)) (gName 3)) (tSeq (tAsg (tCall (spW (sp_law_rows K)) [] E0 (tCons (tVar 1) (tCons (tVar 3) tNil))) (gName 4)) (tSeq (tPar 5 6 (tCons (tCall (spW (sp_law_bank K)) [] E0 (tCons (tVar 1) (tCons (tVar 4) tNil))) (tCons (tCall (spW (sp_law_paper K)) [] E0 (tCons (tVar 4) tNil)) tNil))) (tSeq (tAsg (tCall (spW (sp_law_otherwise K)) [] E0 (tCons (tVar 1) (tCons (tVar 4) tNil))) (gName 7)) (tSeq (tAsg (tLst (tCons (tTup (tCons (tVar 5) (tCons (tVar 4) tNil))) (tCons (tTup (tCons (tCall (spW (sp_law_bank K)) [] E0 (tCons (tVar 1) (tCons (tVar 4) tNil))) (tCons (tVar 4) tNil))) (tCons (tTup (tCons (tCall (spW (sp_law_bank K)) [] E0 (tCons (tVar 1) (tCons (tVar 7) tNil))) (tCons (tVar 7) tNil))) (tCons (tTup (tCons (tVar 5) (tCons (tOrT K (tSl (rSlU K) (tVar 4) (tPart (tC (.int (1)))) tNoPart) (tVar 4)) tNil))) tNil))))) (gName 8)) (tSeq (tPar 9 10 (tCons (tCall (spW (sp_law_number K)) [] E0 (tCons (tVar 1) (tCons (tVar 3) tNil))) (tCons (tCall (spW (sp_law_number K)) [] E0 (tCons (tVar 1) (tCons (tVar 3) tNil))) tNil))) (tSeq (tAsg (tLst tNil) (gName 11)) (tSeq (tFor (iAny K (tVar 8)) (gTup K 2 (gCons (gName 12) (gCons (gName 13) gNil))) (tFor (iAny K (tTup (tCons (tVar 9) (tCons (tVar 10) tNil)))) (gName 14) (tDrop (tBM K "list" rAppend (tVar 11) (tCons (tTup (tCons (tMake (He.ga K "Copy") (spW (sp_CopyX_initX K)) [] E0 (tCons (tVar 12) (tCons (tCall (spW (sp_law_paper K)) [] E0 (tCons (tVar 13) tNil)) (tCons (tVar 14) tNil)))) (tCons (tVar 13) (tCons (tVar 14) (tCons (tVar 12) tNil))))) tNil))))) (tFor (iEnumA K (tCons (tVar 11) tNil)) (gTup K 2 (gCons (gName 15) (gCons (gTup K 4 (gCons (gName 16) (gCons (gName 13) (gCons (gName 14) (gCons (gName 12) gNil))))) gNil))) (tSeq (tFor (iAny K (tTup (tCons (tC (.int (0))) (tCons (tC (.int (1))) (tCons (tC (.int (2))) (tCons (tCall (spW (sp_law_draw K)) [] E0 (tCons (tVar 1) (tCons (tC (.int (8))) tNil))) tNil)))))) (gName 17) (tSeq (tAsg (tOp (rIx K) (tVar 11) (tOp (rModI) (tOp (rAddU K) (tVar 15) (tVar 17)) (tC (.int (8))))) (gTup K 4 (gCons (gName 18) (gCons (gName 19) (gCons (gName 20) (gCons (gName 5) gNil)))))) (tIfS (tNot (tB (tCall (spW (sp_law_like K)) [] E0 (tCons (tVar 16) (tCons (tVar 18) (tCons (tOp (rEqU K) (tCall (spW (sp_law_all K)) [] E0 (tCons (tVar 13) (tCons (tVar 14) tNil))) (tCall (spW (sp_law_all K)) [] E0 (tCons (tVar 19) (tCons (tVar 20) tNil)))) tNil)))))) (tRet (tC (.bl false))) tNext))) (tSeq (tIfS (tNot (tB (tCall (spW (sp_law_like K)) [] E0 (tCons (tVar 16) (tCons (tOp (rIx K) (tLst (tCons (tC .non) (tCons (tVar 6) (tCons (tCB (rStrO (He.ga K "Copy") (spW (sp_CopyX_strX K))) (tCons (tVar 16) tNil)) (tCons (tVar 14) (tCons (tVar 5) tNil)))))) (tCall (spW (sp_law_draw K)) [] E0 (tCons (tVar 1) (tCons (tC (.int (5))) tNil)))) (tCons (tC (.bl false)) tNil)))))) (tRet (tC (.bl false))) tNext) (tSeq (tPar 21 17 (tCons (tMeth (He.ga K "Copy") "first_one" (spW (sp_Copy_first_one K)) [] E0 (tVar 16) tNil) (tCons (tOp (rSubI) (tCall (spW (sp_law_draw K)) [] E0 (tCons (tVar 1) (tCons (tC (.int (1000))) tNil))) (tVar 14)) tNil))) (tSeq (tIfS (tNot (tB (tCall (spW (sp_law_like K)) [] E0 (tCons (tVar 21) (tCons (tMake (He.ga K "Copy") (spW (sp_CopyX_initX K)) [] E0 (tCons (tOp (rIx K) (tOp (rIx K) (tVar 8) (tC (.int (0)))) (tC (.int (0)))) (tCons (tCall (spW (sp_law_paper K)) [] E0 (tCons (tVar 13) tNil)) (tCons (tC (.int (0))) tNil)))) (tCons (tOp (rInTD K) (tVar 13) (tTup (tCons (tVar 4) (tCons (tSl (rSlU K) (tVar 4) (tPart (tC (.int (1)))) tNoPart) tNil)))) tNil)))))) (tRet (tC (.bl false))) tNext) (tSeq (tAsg (tMethK (He.ga K "Copy") "gone_on" 0 1 (spW (sp_Copy_gone_on K)) (fun vs zs => vs ++ zs) E0 (tVar 16) tNil (tCons (tVar 17) tNil)) (gName 22)) (tSeq (tIfS (tOr (tTest (tOp (rNeU K) (tFld K (tVar 22) "number") (tOp (rAddU K) (tVar 14) (tVar 17)))) (tOr (tTest (tOp (rNeU K) (tFld K (tVar 21) "number") (tC (.int (0))))) (tTest (tOp (rOwn K (He.ga K "Copy") (spW (sp_CopyX_eqX K)) true) (tVar 22) (tMake (He.ga K "Copy") (spW (sp_CopyX_initX K)) [] E0 (tCons (tVar 12) (tCons (tCall (spW (sp_law_paper K)) [] E0 (tCons (tVar 13) tNil)) (tCons (tOp (rAddU K) (tVar 14) (tVar 17)) tNil)))))))) (tRet (tC (.bl false))) tNext) (tSeq (tIfS (tTest (tOp (rNeU K) (tCall (spW (sp_round_length K)) [] E0 (tCons (tVar 16) tNil)) (tCall (spW (sp_law_round K)) [] E0 (tCons (tVar 13) tNil)))) (tRet (tC (.bl false))) tNext) (tIfS (tOr (tTest (tOp (rNeU K) (tFld K (tVar 16) "number") (tVar 14))) (tAnd (tTest (tOp rLtU (tVar 14) (tC (.int (999))))) (tTest (tOp (rOwn K (He.ga K "Copy") (spW (sp_CopyX_eqX K)) true) (tMeth (He.ga K "Copy") "gone_on" (spW (sp_Copy_gone_on K)) [.int (1)] E0 (tVar 16) tNil) (tMethK (He.ga K "Copy") "gone_on" 0 1 (spW (sp_Copy_gone_on K)) (fun vs zs => vs ++ zs) E0 (tVar 16) tNil (tCons (tC (.int (1))) tNil)))))) (tRet (tC (.bl false))) tNext)))))))))))))))))) (tRet (tCall (spW (sp_law_forty_right K)) [] E0 (tCons (tVar 1) tNil)))))
def sp_law (K : PySem.W.Frag) : SpW := fun vs B M Q E => ∃ s ns, vs = [.ref s] ∧ Scr K B s ns ∧ ∀ B' M', Q (.bl true) B' M'
theorem len_law (K : PySem.W.Frag) : ∀ vs B M Q E, sp_law K vs B M Q E → vs.length = ps_law.length := by
  intro _ _ _ _ _ h
  unfold sp_law at h
  repeat (first | (obtain ⟨rfl, _⟩ := h; rfl) | (obtain ⟨_, h⟩ := h))
theorem pure_law (T : TX K mg) : ∀ vs B M Q E, sp_law K vs B M Q E → SW (rd_law K) (DW.up ⟨fun _ B M => Q .non B M, Q, fun _ _ _ => False, fun _ _ _ => False⟩) (start N_law vs) B M := by
  rintro _ B M Q E ⟨s, ns, rfl, hs, q⟩
  unfold rd_law
  walk_at "q"
  refine cw_of ⟨s, ns, rfl, hs, fun m c hd => ?_⟩
  refine sw_seq (sw_for (iw_rng1 ?_))
  walk_at "q"
  refine ⟨by decide, by decide, 3, YRng 0, anyS, fun i σ B' M' => (∃ v2 v3 v4 v5 v6 v7 v8 v9 v10 v11 v12 v13 v14 v15 v16 v17 v18 v19 v20 v21 v22, σ = [some (.ref s), some (.ref m), v2, v3, v4, v5, v6, v7, v8, v9, v10, v11, v12, v13, v14, v15, v16, v17, v18, v19, v20, v21, v22]) ∧ ∃ c, M' = c ++ M ∧ Dr K B' c m (10000 * i), runs_rng, ⟨⟨_, _, _, _, _, _, _, _, _, _, _, _, _, _, _, _, _, _, _, _, _, rfl⟩, c, rfl, hd⟩, fun _ _ _ _ _ => True.intro, ?_, ?_⟩
  · rintro i _ _ B0 _ _ _ hi ⟨⟨v2, v3, v4, v5, v6, v7, v8, v9, v10, v11, v12, v13, v14, v15, v16, v17, v18, v19, v20, v21, v22, rfl⟩, c, rfl, hd⟩ ⟨rfl, rfl, rfl⟩
    walk_at "q"
    refine cw_of ⟨m, c, M, _, rfl, rfl, hd, by omega, fun sz c1 sz1 sz12 hd1 => ?_⟩
    walk_at "q"
    refine cw_of ⟨m, c1, M, _, sz, rfl, rfl, hd1, by omega, by omega, fun B1 l rs c2 e1 hrs hlen ok hd2 => ?_⟩
    walk_at "q"
    refine cw_of ⟨m, c2, M, _, l, rs, rfl, rfl, hd2, by omega, hrs, ok, by omega, by omega, fun B2 x c3 e2 hb hd3 => ?_⟩
    walk_at "q"
    refine cw_of ⟨l, rs, rfl, hrs.ex e2, by omega, fun B3 p e3 hp => ?_⟩
    walk_at "q"
    refine ⟨_, _, rfl, ?_⟩
    have f3 := e2.trans e3
    walk_at "q"
    refine cw_of ⟨m, c3, M, _, l, rs, rfl, rfl, hd3.ex e3, by omega, hrs.ex f3, ok, by omega, by omega, fun B4 l' ts c4 e4 hts tok hnm hd4 => ?_⟩
    have htl : ts.length = rs.length := by
      have := congrArg List.length hnm
      unfold nms at this
      rw [List.length_map, List.length_map] at this
      exact this
    walk_at "q"
    refine ⟨le_line (Nat.le_refl 2), fun t1 => ?_⟩
    refine aw_keep fun e5 a5 => ?_
    have f5 := (f3.trans e4).trans e5
    walk_at "q"
    refine cw_of ⟨m, c4, M, _, l, rs, rfl, rfl, hd4.ex e5, by omega, hrs.ex f5, ok, by omega, by omega, fun B6 x2 c6 e6 hb2 hd6 => ?_⟩
    walk_at "q"
    refine ⟨le_line (Nat.le_refl 2), fun t2 => ?_⟩
    refine aw_keep fun e7 a7 => ?_
    walk_at "q"
    refine cw_of ⟨m, c6, M, _, l', ts, rfl, rfl, hd6.ex e7, by omega, ((hts.ex e5).ex e6).ex e7, tok, by omega, by omega, fun B8 x3 c8 e8 hb3 hd8 => ?_⟩
    walk_at "q"
    refine ⟨le_line (Nat.le_refl 2), fun t3 => ?_⟩
    refine aw_keep fun e9 a9 => ?_
    walk_at "q"
    have f9 := (((f5.trans e6).trans e7).trans e8).trans e9
    refine ew_mk (p := fun v B' => ∃ l4 ts4, v = .ref l4 ∧ Ex (upd B8 t3 (.tup [.ref x3, .ref l'])) B' ∧ RowsAt B' l4 ts4 ∧ OwnQ rs ts4 ∧ (∀ t ∈ ts4, t ∈ rs)) ?_ ?_
    · refine ew_orT ?_
      walk_at "q"
      refine sl_l (.per (hrs.ex f9).1) fun s1 => ?_
      rw [cutV_from (by decide) (by rw [List.length_map]; omega), ← List.map_drop]
      refine ⟨s1, _, rfl, .of .here, fun hne => ?_, fun he => ?_⟩
      · refine .keep fun ex at_ => .here ⟨⟨s1, rs.drop 1, rfl, ex, ⟨at_, fun r hr => ((hrs.ex f9).2 r (List.mem_of_mem_drop hr)).ex ex⟩, ⟨ok.drop 1, ?_, ?_, .inr rfl⟩, fun t ht => List.mem_of_mem_drop ht⟩, rfl⟩
        · cases hc : rs.drop 1 with
          | nil => exact absurd (by show (rs.drop 1).map _ = []; rw [hc] <;> rfl) hne
          | cons r t => exact Nat.succ_le_succ (Nat.zero_le _)
        · rw [List.length_drop]; omega
      · walk_at "q"
        exact .le (Le.drop .refl) ⟨⟨l, rs, rfl, Ex.rfl', hrs.ex f9, ⟨ok, by omega, by omega, .inl rfl⟩, fun _ h => h⟩, rfl⟩
    rintro _ B10 ⟨l4, ts4, rfl, e10, hr4, ow4, sub4⟩
    walk_at "q"
    refine ⟨le_line (Nat.le_refl 2), fun t4 => ?_⟩
    refine aw_keep fun e11 a11 => ?_
    walk_at "q"
    refine ⟨le_line (Nat.le_refl 4), fun lb => ?_⟩
    refine sw_keep fun e12 a12 => ?_
    have f12 := ((f9.trans e10).trans e11).trans e12
    walk_at "q"
    refine cw_of ⟨m, c8, M, _, sz, rfl, rfl, ((hd8.ex e9).ex e10).ex (e11.trans e12), by omega, by omega, by omega, fun k1 c13 k10 k11 hd13 => ?_⟩
    walk_at "q"
    refine cw_of ⟨m, c13, M, _, sz, rfl, rfl, hd13, by omega, by omega, by omega, fun k2 c14 k20 k21 hd14 => ?_⟩
    walk_at "q"
    refine ⟨_, _, rfl, ?_⟩
    walk_at "q"
    refine ⟨le_line (Nat.zero_le 0), fun lc => ?_⟩
    walk_at "q"
    have g10 := e11.trans e12
    have g9 := e10.trans g10
    have g7 := (e8.trans e9).trans g9
    have g5 := (e6.trans e7).trans g7
    have ow0 : OwnQ rs rs := ⟨ok, by omega, by omega, .inl rfl⟩
    have how : ∀ t ∈ [t1, t2, t3, t4], OwT K (upd (upd B10 t4 (.tup [.ref x, .ref l4])) lb (.lst [.ref t1, .ref t2, .ref t3, .ref t4])) rs t := by
      intro t ht
      simp only [List.mem_cons, List.not_mem_nil, or_false] at ht
      rcases ht with rfl | rfl | rfl | rfl
      · exact ⟨x, l, rs, g5 _ _ a5, hb.up (((e3.trans e4).trans e5).trans g5), hrs.ex f12, ow0⟩
      · exact ⟨x2, l, rs, g7 _ _ a7, hb2.up (e7.trans g7), hrs.ex f12, ow0⟩
      · exact ⟨x3, l', ts, g9 _ _ a9, hb3.up (e9.trans g9), hts.ex (e5.trans g5), ⟨tok, by omega, by omega, .inl hnm⟩⟩
      · exact ⟨x, l4, ts4, e12 _ _ a11, (hb.sub sub4).up (((e3.trans e4).trans e5).trans g5), hr4.ex g10, ow4⟩
    refine sw_le (Le.mid c14) ?_
    refine sw_seq (sw_for (iw_any ?_))
    walk_at "q"
    refine .inl ⟨lb, [.ref t1, .ref t2, .ref t3, .ref t4], rfl, .per a12, _, _, _, fun j σ B' M' => (∃ v2 v12 v13 v14 v15 v16 v17 v18 v19 v20 v21 v22, σ = [some (.ref s), some (.ref m), v2, some (.int sz), some (.ref l), some (.ref x), some (.ref p), some (.ref l'), some (.ref lb), some (.int k1), some (.int k2), some (.ref lc), v12, v13, v14, v15, v16, v17, v18, v19, v20, v21, v22]) ∧ Ex (upd (upd B10 t4 (.tup [.ref x, .ref l4])) lb (.lst [.ref t1, .ref t2, .ref t3, .ref t4])) B' ∧ ∃ c ps, M' = c ++ (lc, .lst (ps.map V.ref)) :: M ∧ Dr K B' c m (10000 * i + 2000) ∧ ps.length = 2 * j ∧ ∀ p ∈ ps, CpT K B' rs p, runs_list (xs := [.ref t1, .ref t2, .ref t3, .ref t4]), ⟨⟨_, _, _, _, _, _, _, _, _, _, _, _, rfl⟩, Ex.rfl', c14, [], rfl, hd14.up (by omega), rfl, fun _ h => nomatch h⟩, ?_, ?_, ?_⟩
    · rintro j σ B' M' ⟨_, e, _⟩
      exact .per (e _ _ a12)
    · rintro j v _ _ _ B14 _ hj ⟨⟨v2, v12, v13, v14, v15, v16, v17, v18, v19, v20, v21, v22, rfl⟩, e, c15, ps, rfl, hd15, hpl, hps⟩ ⟨hv, rfl, rfl⟩
      have hvm := List.mem_of_getElem? hv
      have hvt : ∃ t ∈ [t1, t2, t3, t4], v = V.ref t := by
        simp only [List.mem_cons, List.not_mem_nil, or_false] at hvm ⊢
        rcases hvm with rfl | rfl | rfl | rfl
        · exact ⟨t1, .inl rfl, rfl⟩
        · exact ⟨t2, .inr (.inl rfl), rfl⟩
        · exact ⟨t3, .inr (.inr (.inl rfl)), rfl⟩
        · exact ⟨t4, .inr (.inr (.inr rfl)), rfl⟩
      obtain ⟨t, ht, rfl⟩ := hvt
      obtain ⟨xo, lo, os, hto, hbo, hro, owo⟩ := how t ht
      refine gw_tup (.per (e _ _ hto)) rfl ?_
      walk_at "q"
      refine sw_for (iw_any ?_)
      walk_at "q"
      refine ⟨le_line (Nat.le_refl 2), fun tk => ?_⟩
      refine .inr (.inl ⟨tk, [.int k1, .int k2], rfl, .of .here, _, _, _, fun u σ B' M' => (∃ v2 v14 v15 v16 v17 v18 v19 v20 v21 v22, σ = [some (.ref s), some (.ref m), v2, some (.int sz), some (.ref l), some (.ref x), some (.ref p), some (.ref l'), some (.ref lb), some (.int k1), some (.int k2), some (.ref lc), some (.ref xo), some (.ref lo), v14, v15, v16, v17, v18, v19, v20, v21, v22]) ∧ Ex B14 B' ∧ ∃ ps, M' = (tk, .tup [.int k1, .int k2]) :: (c15 ++ (lc, .lst (ps.map V.ref)) :: M) ∧ ps.length = 2 * j + u ∧ ∀ p ∈ ps, CpT K B' rs p, runs_tup (xs := [.int k1, .int k2]), ⟨⟨_, _, _, _, _, _, _, _, _, _, rfl⟩, Ex.rfl', ps, rfl, hpl, hps⟩, ?_, ?_, ?_⟩)
      · rintro u σ B' M' ⟨_, _, _, rfl, _⟩
        exact .of .here
      · rintro u v _ _ _ B15 _ hu ⟨⟨v2, v14, v15, v16, v17, v18, v19, v20, v21, v22, rfl⟩, e15, ps, rfl, hpl, hps⟩ ⟨hv, rfl, rfl⟩
        have hvk : ∃ k, v = .int k ∧ 0 ≤ k ∧ k ≤ 999 := by
          have := List.mem_of_getElem? hv
          simp only [List.mem_cons, List.not_mem_nil, or_false] at this
          rcases this with rfl | rfl
          · exact ⟨k1, rfl, k10, k11⟩
          · exact ⟨k2, rfl, k20, k21⟩
        obtain ⟨k, rfl, k0, k9⟩ := hvk
        walk_at "q"
        have h15 := e.trans e15
        have oh := owo.hi
        have hj4 : j < 4 := hj
        have hu2 : u < 2 := hu
        refine ⟨TyMW.l (.of (.inr (List.mem_cons_of_mem _ (List.mem_append_right _ (List.mem_cons_self ..))))), ?_⟩
        walk_at "q"
        refine cw_of ⟨lo, os, rfl, hro.ex h15, by omega, fun B16 pp e16 hpp => ?_⟩
        walk_at "q"
        refine cw_copy (hbo.up (h15.trans e16)) hpp owo.ok owo.lo (by omega) k0 k9 fun y dxy ly B17 us e17 hus heq rok => ?_
        refine aw_keep fun e18 a18 => ?_
        walk_at "q"
        refine ⟨le_line (Nat.le_refl 4), fun pt => ?_⟩
        walk_at "q"
        refine append_ (Sel.tl _ (Sel.tl _ (Sel.app c15 (Sel.one _ _ _)))) (by rw [List.length_map, sizeLine_eq]; omega) ?_
        have g18 := (e16.trans e17).trans e18
        refine .keep fun ex at_ => .here ⟨⟨_, _, _, _, _, _, _, _, _, _, rfl⟩, (e15.trans g18).trans ex, ps ++ [pt], by rw [List.map_append]; rfl, by rw [List.length_append, hpl]; rfl, fun p hp => ?_⟩
        rcases List.mem_append.mp hp with h | h
        · exact (hps p h).ex (g18.trans ex)
        · rw [List.mem_singleton.mp h]
          exact ⟨y, lo, k, xo, us, os, at_, CopyAt.ex ⟨dxy, ly, a18, hus.ex e18⟩ ex, heq, rok, k0, k9, hbo.up ((h15.trans g18).trans ex), hro.ex ((h15.trans g18).trans ex), owo⟩
      · rintro σ B' M' ⟨⟨v2, v14, v15, v16, v17, v18, v19, v20, v21, v22, rfl⟩, e15, ps, rfl, hpl, hps⟩
        exact .le (Le.drop .refl) ⟨⟨_, _, _, _, _, _, _, _, _, _, _, _, rfl⟩, e.trans e15, c15, ps, rfl, hd15.ex e15, hpl, hps⟩
    · rintro σ B15 M15 ⟨⟨v2, v12, v13, v14, v15, v16, v17, v18, v19, v20, v21, v22, rfl⟩, e, c15, ps, rfl, hd15, hpl, hps⟩
      refine sw_next ?_
      have hp8 : ps.length = 8 := hpl
      have hml : (ps.map V.ref).length = 8 := by rw [List.length_map, hp8]
      refine sw_le (Le.mid' c15) ?_
      refine sw_keep fun ex at_ => ?_
      have hlb' := (e.trans ex) _ _ a12
      have hps' : ∀ p ∈ ps, CpT K (upd B15 lc (.lst (ps.map V.ref))) rs p := fun p hp => (hps p hp).ex ex
      have hd16 := hd15.ex ex
      have htot : (Ex B3 (upd B15 lc (.lst (ps.map V.ref)))) := (e4.trans (e5.trans g5)).trans (e.trans ex)
      have hrs16 := (hrs.ex f3).ex htot
      have hb16 := (hb.up e3).up htot
      have hp16 := htot _ _ hp
      have t116 := (g5.trans (e.trans ex)) _ _ a5
      generalize upd B15 lc (.lst (ps.map V.ref)) = BB at at_ hlb' hps' hd16 hrs16 hb16 hp16 t116 ⊢
      refine sw_for (iw_enumA ?_)
      walk_at "q"
      refine ⟨lc, ps.map V.ref, false, rfl, SqXW.l (.per at_), _, _, _, fun j σ B' M' => (∃ v2 x5 v12 v13 v14 v15 v16 v17 v18 v19 v20 v21 v22, σ = [some (.ref s), some (.ref m), v2, some (.int sz), some (.ref l), some (.ref x5), some (.ref p), some (.ref l'), some (.ref lb), some (.int k1), some (.int k2), some (.ref lc), v12, v13, v14, v15, v16, v17, v18, v19, v20, v21, v22] ∧ ∃ ts5, BankOf K B' x5 ts5) ∧ Ex BB B' ∧ ∃ c, M' = c ++ M ∧ Dr K B' c m (10000 * i + 3000 + 100 * j), runs_enumC (xs := ps.map V.ref), ⟨⟨_, x, _, _, _, _, _, _, _, _, _, _, _, rfl, rs, hb16⟩, Ex.rfl', c15, rfl, hd16.up (by omega)⟩, ?_, ?_, ?_⟩
      · rintro j σ B' M' ⟨_, e16, _⟩
        exact SqXW.l (.per (e16 _ _ at_))
      · rintro j v _ _ _ B16 _ hj ⟨⟨v2, x5, v12, v13, v14, v15, v16, v17, v18, v19, v20, v21, v22, rfl, ts5, hb5⟩, e16, c16, rfl, hd16⟩ ⟨Tt, _, z, rfl, rfl, hz, rfl, rfl⟩
        rw [hml] at hj
        rw [List.getElem?_map, Option.map_eq_some_iff] at hz
        obtain ⟨t, ht, rfl⟩ := hz
        obtain ⟨y, lo, k, xo, us, os, hto, hcy, hql, rok, k0, k9, hbo, hro, owo⟩ := (hps' t (List.mem_of_getElem? ht)).ex e16
        have ook : RsOk os := owo.ok.rs owo.lo (by have := owo.hi; omega)
        refine gw_tup (.of .here) rfl ?_
        walk_at "q"
        refine gw_tup (.per hto) rfl ?_
        walk_at "q"
        refine sw_le (Le.drop .refl) ?_
        refine sw_seq (sw_for (iw_any ?_))
        walk_at "q"
        refine cw_of ⟨m, c16, M, _, 8, rfl, rfl, hd16, by omega, by decide, by decide, fun sh c17 s0 s1 hd17 => ?_⟩
        walk_at "q"
        refine ⟨le_line (Nat.le_refl 4), fun tk => ?_⟩
        refine .inr (.inl ⟨tk, [.int 0, .int 1, .int 2, .int sh], rfl, .of .here, _, _, _, fun u σ B' M' => (∃ v2 x5 v17 v18 v19 v20 v21 v22, σ = [some (.ref s), some (.ref m), v2, some (.int sz), some (.ref l), some (.ref x5), some (.ref p), some (.ref l'), some (.ref lb), some (.int k1), some (.int k2), some (.ref lc), some (.ref xo), some (.ref lo), some (.int k), some (.int (0 + (j : Int))), some (.ref y), v17, v18, v19, v20, v21, v22] ∧ ∃ ts5, BankOf K B' x5 ts5) ∧ Ex B16 B' ∧ M' = (tk, .tup [.int 0, .int 1, .int 2, .int sh]) :: (c17 ++ M), runs_tup (xs := [.int 0, .int 1, .int 2, .int sh]), ⟨⟨_, x5, _, _, _, _, _, _, rfl, ts5, hb5⟩, Ex.rfl', rfl⟩, ?_, ?_, ?_⟩)
        · rintro u σ B' M' ⟨_, _, rfl⟩
          exact .of .here
        · rintro u v _ _ _ B17 _ hu ⟨⟨v2, x5, v17, v18, v19, v20, v21, v22, rfl, ts5, hb5⟩, e17, rfl⟩ ⟨hv, rfl, rfl⟩
          have hvk : ∃ d : Int, v = .int d ∧ 0 ≤ d ∧ d < 8 := by
            have := List.mem_of_getElem? hv
            simp only [List.mem_cons, List.not_mem_nil, or_false] at this
            rcases this with rfl | rfl | rfl | rfl
            · exact ⟨0, rfl, by decide, by decide⟩
            · exact ⟨1, rfl, by decide, by decide⟩
            · exact ⟨2, rfl, by decide, by decide⟩
            · exact ⟨sh, rfl, s0, s1⟩
          obtain ⟨d, rfl, d0, d8⟩ := hvk
          walk_at "q"
          refine mod_int (by decide) ?_
          have z0 : 0 ≤ (0 + (j : Int) + d) % 8 := Int.emod_nonneg _ (by decide)
          have z1 : (0 + (j : Int) + d) % 8 < 8 := Int.emod_lt_of_pos _ (by decide)
          have hpz : ((0 + (j : Int) + d) % 8).toNat < ps.length := by omega
          have f17 := e16.trans e17
          refine ix_l (v := .ref ps[((0 + (j : Int) + d) % 8).toNat]) (.per (f17 _ _ at_)) (by rw [atI_in z0 (by rw [hml]; exact z1), List.getElem?_map, List.getElem?_eq_getElem hpz] <;> rfl) ?_
          obtain ⟨y2, lo2, k', xo2, us2, os2, hto2, hcy2, hql2, rok2, k0', k9', hbo2, hro2, owo2⟩ := (hps' _ (List.getElem_mem hpz)).ex f17
          have ook2 : RsOk os2 := owo2.ok.rs owo2.lo (by have := owo2.hi; omega)
          refine gw_tup (.per hto2) rfl ?_
          walk_at "q"
          refine cw_of ⟨lo, os, k, rfl, hro.ex e17, ook, k0, k9, fun B18 la ta e18 hla hlae okla => ?_⟩
          walk_at "q"
          refine cw_of ⟨lo2, os2, k', rfl, hro2.ex e18, ook2, k0', k9', fun B19 lz tz e19 hlz hlze oklz => ?_⟩
          have hla9 := hla.ex e19
          refine eq_dat (dpRows (.per hla9.1) hla9.2) (dpRows (.per hlz.1) hlz.2) (qsD_shaped okla) (qsD_shaped oklz) ?_
          rw [qsD_eqv]
          walk_at "q"
          have f19 := e18.trans e19
          refine cw_of ⟨y, us, k, .ref y2, _, rfl, hcy.ex (e17.trans f19), rok, k0, k9, .inr ⟨y2, us2, k', rfl, hcy2.ex f19, rok2, k0', k9', fun B20 e20 => ?_⟩⟩
          have hdue : (eqC (qsL us) k (qsL us2) k' == decide (qsL ta = qsL tz)) = true := by
            rw [eqC_all, hql, hql2, hlae, hlze]
            unfold allN
            rw [qsL_len, qsL_len]
            exact beq_self_eq_true _
          rw [hdue]
          walk_at "q"
          refine .here ⟨⟨_, xo2, _, _, _, _, _, _, rfl, os2, hbo2.up (f19.trans e20)⟩, e17.trans (f19.trans e20), rfl⟩
        · rintro σ B17 M17 ⟨⟨v2, x5, v17, v18, v19, v20, v21, v22, rfl, ts5, hb5⟩, e17, rfl⟩
          refine sw_next ?_
          refine sw_le (Le.drop .refl) ?_
          have f17 := e16.trans e17
          have hcy7 := hcy.ex e17
          have hd17 := hd17.ex e17
          have hro7 := hro.ex e17
          have hbo7 := hbo.up e17
          have oh := owo.hi
          obtain ⟨dxy, lyy, hyy, _⟩ := id hcy7
          walk_at "q"
          refine str_o (.inl hyy) (cw_of (s := sp_CopyX_strX K) ?_)
          refine ⟨y, us, k, rfl, hcy7, rok, k0, k9, fun zs => ⟨zs, rfl, ?_⟩⟩
          walk_at "q"
          refine ⟨le_line (Nat.le_refl 5), fun p5 => ?_⟩
          walk_at "q"
          refine cw_mid (cw_of ⟨m, c17, _, _, 5, rfl, rfl, hd17, by omega, by decide, by decide, fun r c18 r0 r1 hd18 => ?_⟩)
          have hoth : ∃ vv tt, atI [V.non, .ref p, .str zs, .int k, .ref x5] r = some vv ∧ Other K B17 vv tt := by
            obtain ⟨qs5, hq5, _⟩ := hb5.ex
            have : r = 0 ∨ r = 1 ∨ r = 2 ∨ r = 3 ∨ r = 4 := by omega
            rcases this with rfl | rfl | rfl | rfl | rfl
            · exact ⟨_, _, rfl, other_non T⟩
            · exact ⟨_, _, rfl, other_tup T (f17 _ _ hp16)⟩
            · exact ⟨_, _, rfl, other_str T⟩
            · exact ⟨_, _, rfl, other_int T⟩
            · exact ⟨_, _, rfl, other_bank T hq5⟩
          obtain ⟨vv, tt, hat5, hot⟩ := hoth
          refine ix_l (.of (.inr (List.mem_append_right _ (List.mem_cons_self ..)))) hat5 ?_
          walk_at "q"
          refine cw_of ⟨y, us, k, vv, false, rfl, hcy7, rok, k0, k9, .inl ⟨tt, hot, ?_⟩⟩
          walk_at "q"
          refine ⟨y, dxy, _, rfl, .inl hyy, rfl, ?_⟩
          walk_at "q"
          refine cw_of ⟨y, us, k, rfl, hcy7, rok, fun y1 B18 e18 hc1 => ?_⟩
          walk_at "q"
          refine cw_of ⟨m, c18, _, _, 1000, rfl, rfl, hd18.ex e18, by omega, by decide, by decide, fun r2 c19 r20 r21 hd19 => ?_⟩
          walk_at "q"
          refine ⟨_, _, rfl, ?_⟩
          refine sw_le ((Le.mid' c19).trans (Le.drop .refl)) ?_
          walk_at "q"
          have f18 := f17.trans e18
          refine ix_l (.per (f18 _ _ hlb')) rfl ?_
          walk_at "q"
          refine ix_t (.per (f18 _ _ t116)) rfl ?_
          walk_at "q"
          refine cw_of ⟨lo, os, rfl, hro7.ex e18, by omega, fun B19 pp e19 hpp => ?_⟩
          walk_at "q"
          have f19 := f18.trans e19
          obtain ⟨rs', hnm', hb', ok', lo', hi', hpick⟩ := own_pick owo ok (by omega) (by omega) (hb16.up f19)
          refine cw_copy hb' (by rw [hnm']; exact hpp) ok' lo' hi' (by decide) (by decide) fun o1 dxo ly1 B20 us1 e20 hus1 heq1 rok1 => ?_
          refine aw_keep fun e21 a21 => ?_
          have f21 := (f19.trans e20).trans e21
          have h1921 := (e19.trans e20).trans e21
          have hrs21 := hrs16.ex f21
          have hro21 := hro7.ex (e18.trans h1921)
          walk_at "q"
          refine sl_l (.per hrs21.1) fun s1 => ?_
          rw [cutV_from (by decide) (by rw [List.length_map]; omega), ← List.map_drop]
          walk_at "q"
          refine ⟨le_line (Nat.le_refl 2), fun pt => ?_⟩
          refine in_td (d := qsD (qsL os)) (ds := [qsD (qsL rs), qsD (qsL (rs.drop 1))]) (dpRows (.per hro21.1) hro21.2) (fun H W => .tup (.inl (.inl W.hd)) (.cons (dpRows (.per hrs21.1) hrs21.2 H W) (.cons (dpRows (.of (.inr (List.mem_cons_of_mem _ (List.mem_cons_self ..)))) (fun r hr => hrs21.2 r (List.mem_of_mem_drop hr)) H W) .nil))) (qsD_shaped (qsL_ok owo.ok)) (qsD2_shaped (qsL_ok ok) (qsL_ok (ok.drop 1))) ?_
          have hdue : (eqC (qsL us) 0 (qsL us1) 0 == [qsD (qsL rs), qsD (qsL (rs.drop 1))].any fun z => PyData.eqv z (qsD (qsL os))) = true := by
            rw [eqC_all, hql, heq1, allN_zero (qsL_ok owo.ok), allN_zero (qsL_ok ok'), List.any_cons, List.any_cons, List.any_nil, qsD_eqv, qsD_eqv, Bool.or_false]
            exact hpick
          generalize ([qsD (qsL rs), qsD (qsL (rs.drop 1))].any fun z => PyData.eqv z (qsD (qsL os))) = due at hdue ⊢
          walk_at "q"
          refine cw_of ⟨y1, us, 0, .ref o1, due, rfl, hc1.ex h1921, rok, by decide, by decide, .inr ⟨o1, us1, 0, rfl, ⟨dxo, ly1, a21, hus1.ex e21⟩, rok1, by decide, by decide, fun B22 e22 => ?_⟩⟩
          rw [hdue]
          walk_at "q"
          have g22 : Ex B17 B22 := (e18.trans h1921).trans e22
          have hcy2 := hcy7.ex g22
          have hyy2 := g22 _ _ hyy
          refine ⟨y, dxy, _, rfl, .inl hyy2, rfl, ?_⟩
          walk_at "q"
          refine cw_of ⟨y, us, k, r2 - k, rfl, hcy2, rok, k0, k9, by omega, by omega, fun yg B23 e23 hg => ?_⟩
          obtain ⟨dxg, lyg, hyg, _⟩ := id hg
          walk_at "q"
          refine ew_fldE T.c_Copy T.n_Copy_number ?_
          walk_at "q"
          refine ⟨_, _, _, rfl, .inl hyg, _, rfl, ?_⟩
          walk_at "q"
          have hz1 : (!decide (k + (r2 - k) = k + (r2 - k))) = false := by simp
          refine ⟨fun h => (by rw [hz1] at h; cases h), fun _ => ?_⟩
          have hc13 := hc1.ex ((h1921.trans e22).trans e23)
          obtain ⟨dx1, lyf, hy1, _⟩ := id hc13
          walk_at "q"
          refine ew_fldE T.c_Copy T.n_Copy_number ?_
          walk_at "q"
          refine ⟨_, _, _, rfl, .inl hy1, _, rfl, ?_⟩
          walk_at "q"
          refine ⟨fun h => absurd h (by decide), fun _ => ?_⟩
          have g23 := g22.trans e23
          walk_at "q"
          refine cw_of ⟨lo, os, rfl, hro7.ex g23, by omega, fun B24 pp2 e24 hpp2 => ?_⟩
          walk_at "q"
          refine cw_copy (hbo7.up (g23.trans e24)) hpp2 owo.ok owo.lo (by omega) (by omega) (by omega) fun o2 dxo2 ly2 B25 us2 e25 hus2 heq2 rok2 => ?_
          have g25 := e24.trans e25
          refine own_l (.inl (g25 _ _ hyg)) (TyW.ins T.i_Copy (.inr (List.mem_cons_self ..))) T.nf_Copy_Copy ?_
          refine cw_keep fun e26 a26 => ?_
          refine cw_of (s := sp_CopyX_eqX K) ?_
          refine ⟨yg, us, k + (r2 - k), .ref o2, rfl, hg.ex (g25.trans e26), rok, by omega, by omega, .inr ⟨o2, us2, k + (r2 - k), rfl, ⟨dxo2, ly2, a26, hus2.ex e26⟩, rok2, by omega, by omega, fun B27 e27 => ⟨_, rfl, ?_⟩⟩⟩
          rw [heq2, hql, eqC_self]
          walk_at "q"
          refine ⟨fun h => absurd h (by decide), fun _ => ?_⟩
          have g27 := (g23.trans (g25.trans e26)).trans e27
          walk_at "q"
          refine cw_of ⟨y, us, k, rfl, hcy7.ex g27, rok, ?_⟩
          walk_at "q"
          refine cw_of ⟨lo, os, rfl, hro7.ex g27, ook, ?_⟩
          have hrl : rlN (qsL us) us.length = rlN (qsL os) os.length := by
            have := congrArg List.length hql
            rw [qsL_len, qsL_len] at this
            rw [hql, this]
          rw [hrl]
          walk_at "q"
          refine ⟨fun h => (by simp at h), fun _ => ?_⟩
          walk_at "q"
          have hyy7 := g27 _ _ hyy
          refine ew_fldE T.c_Copy T.n_Copy_number ?_
          walk_at "q"
          refine ⟨_, _, _, rfl, .inl hyy7, _, rfl, ?_⟩
          walk_at "q"
          refine ⟨fun h => (by simp at h), fun _ => ?_⟩
          walk_at "q"
          refine ⟨fun hk => ?_, fun _ => ?_⟩
          · have hk9 : k < 999 := of_decide_eq_true hk
            walk_at "q"
            refine ⟨y, dxy, _, rfl, .inl hyy7, rfl, ?_⟩
            walk_at "q"
            refine cw_of ⟨y, us, k, 1, rfl, hcy7.ex g27, rok, k0, k9, by omega, by omega, fun ya B28 e28 ha => ?_⟩
            walk_at "q"
            refine ⟨y, dxy, _, rfl, .inl (e28 _ _ hyy7), rfl, ?_⟩
            walk_at "q"
            refine cw_of ⟨y, us, k, 1, rfl, hcy7.ex (g27.trans e28), rok, k0, k9, by omega, by omega, fun yb B29 e29 hb => ?_⟩
            have ha' := ha.ex e29
            obtain ⟨dxa, lya, hya, _⟩ := id ha'
            obtain ⟨dxb, lyb, hyb, _⟩ := id hb
            refine own_l (.inl hya) (TyW.ins T.i_Copy (.inl hyb)) T.nf_Copy_Copy ?_
            refine cw_of (s := sp_CopyX_eqX K) ?_
            refine ⟨ya, us, k + 1, .ref yb, rfl, ha', rok, by omega, by omega, .inr ⟨yb, us, k + 1, rfl, hb, rok, by omega, by omega, fun B30 e30 => ⟨_, rfl, ?_⟩⟩⟩
            rw [eqC_self]
            walk_at "q"
            refine ⟨fun h => absurd h (by decide), fun _ => ?_⟩
            walk_at "q"
            have g30 := ((g27.trans e28).trans e29).trans e30
            exact .le (Le.drop (Le.drop .refl)) ⟨⟨_, x5, _, _, _, _, _, _, _, _, _, _, _, rfl, ts5, hb5.up g30⟩, f17.trans g30, c19, rfl, (hd19.ex ((h1921.trans e22).trans (((e23.trans (g25.trans e26)).trans e27).trans ((e28.trans e29).trans e30)))).up (by omega)⟩
          · walk_at "q"
            exact .le (Le.drop (Le.drop .refl)) ⟨⟨_, x5, _, _, _, _, _, _, _, _, _, _, _, rfl, ts5, hb5.up g27⟩, f17.trans g27, c19, rfl, (hd19.ex ((h1921.trans e22).trans ((e23.trans (g25.trans e26)).trans e27))).up (by omega)⟩
      · rintro σ B16 M16 ⟨⟨v2, x5, v12, v13, v14, v15, v16, v17, v18, v19, v20, v21, v22, rfl, ts5, hb5⟩, e16, c16, rfl, hd16⟩
        rw [hml] at hd16
        exact .here ⟨⟨_, _, _, _, _, _, _, _, _, _, _, _, _, _, _, _, _, _, _, _, _, rfl⟩, c16, rfl, hd16.up (by omega)⟩
  · rintro σ B' M' ⟨⟨v2, v3, v4, v5, v6, v7, v8, v9, v10, v11, v12, v13, v14, v15, v16, v17, v18, v19, v20, v21, v22, rfl⟩, c, rfl, hd⟩
    walk_at "q"
    refine cw_of ⟨m, c, M, _, rfl, rfl, hd, by omega, fun B1 M1 => ?_⟩
    exact .here (q _ _)
theorem ok_law (T : TX K mg) : FnkG P w K mg base d_law ps_law 11 (spW (sp_law K)) :=
  fng_of (N := N_law) (rd_law K) T.d_law sc_law (len_law K) (fun f cdv A outer sh H E hgd hr => (pss_cons (ps_set (i := 1) sc_law.nd rfl (Or.inl rfl) (pe_fn (ok_law_begun T) bp_law_begun_1 hr (by decide) rfl T.g__law_begun (pa_cons (pv 0) pa_nil))) (pss_cons (ps_for PassesOwn.never rfl (pi_range1 rfl T.f_range (pa_cons pe_int pa_nil)) (pg_name (i := 2) sc_law.nd rfl (Or.inl rfl)) (pss_cons (ps_set (i := 3) sc_law.nd rfl (Or.inl rfl) (pe_fn (ok_law_size T) bp_law_size_1 hr (by decide) rfl T.g__law_size (pa_cons (pv 1) pa_nil))) (pss_cons (ps_set (i := 4) sc_law.nd rfl (Or.inl rfl) (pe_fn (ok_law_rows T) bp_law_rows_2 hr (by decide) rfl T.g__law_rows (pa_cons (pv 1) (pa_cons (pv 3) pa_nil)))) (pss_cons (ps_par rfl sc_law.nd (i := 5) (j := 6) rfl rfl (by decide) rfl rfl (pa_cons (pe_fn (ok_law_bank T) bp_law_bank_2 hr (by decide) rfl T.g__law_bank (pa_cons (pv 1) (pa_cons (pv 4) pa_nil))) (pa_cons (pe_fn (ok_law_paper T) bp_law_paper_1 hr (by decide) rfl T.g__law_paper (pa_cons (pv 4) pa_nil)) pa_nil)) rfl) (pss_cons (ps_set (i := 7) sc_law.nd rfl (Or.inl rfl) (pe_fn (ok_law_otherwise T) bp_law_otherwise_2 hr (by decide) rfl T.g__law_otherwise (pa_cons (pv 1) (pa_cons (pv 4) pa_nil)))) (pss_cons (ps_set (i := 8) sc_law.nd rfl (Or.inl rfl) (pe_lst (pa_cons (pe_tup (pa_cons (pv 5) (pa_cons (pv 4) pa_nil))) (pa_cons (pe_tup (pa_cons (pe_fn (ok_law_bank T) bp_law_bank_2 hr (by decide) rfl T.g__law_bank (pa_cons (pv 1) (pa_cons (pv 4) pa_nil))) (pa_cons (pv 4) pa_nil))) (pa_cons (pe_tup (pa_cons (pe_fn (ok_law_bank T) bp_law_bank_2 hr (by decide) rfl T.g__law_bank (pa_cons (pv 1) (pa_cons (pv 7) pa_nil))) (pa_cons (pv 7) pa_nil))) (pa_cons (pe_tup (pa_cons (pv 5) (pa_cons (pe_orT (pe_slice sl_U (pv 4) (po_some pe_int) po_none) (pe_one (pv 4))) pa_nil))) pa_nil)))))) (pss_cons (ps_par rfl sc_law.nd (i := 9) (j := 10) rfl rfl (by decide) rfl rfl (pa_cons (pe_fn (ok_law_number T) bp_law_number_2 hr (by decide) rfl T.g__law_number (pa_cons (pv 1) (pa_cons (pv 3) pa_nil))) (pa_cons (pe_fn (ok_law_number T) bp_law_number_2 hr (by decide) rfl T.g__law_number (pa_cons (pv 1) (pa_cons (pv 3) pa_nil))) pa_nil)) rfl) (pss_cons (ps_set (i := 11) sc_law.nd rfl (Or.inl rfl) (pe_lst pa_nil)) (pss_cons (ps_for PassesOwn.never rfl (pi_any (pv 8)) (pg_tup rfl (pgs_cons (pg_name (i := 12) sc_law.nd rfl (Or.inl rfl)) (pgs_cons (pg_name (i := 13) sc_law.nd rfl (Or.inl rfl)) pgs_nil))) (pss_one (ps_for PassesOwn.never rfl (pi_any (pe_tup (pa_cons (pv 9) (pa_cons (pv 10) pa_nil)))) (pg_name (i := 14) sc_law.nd rfl (Or.inl rfl)) (pss_one (ps_expr (pe_bm PySem.F.plainAttrs_list PySem.F.slot_list_append PySem.F.type_list_append mt_append (pv 11) (pa_cons (pe_tup (pa_cons (pe_mkc (ok_CopyX_initX T) bp_CopyX_initX_4 hr (by decide) T.mk_Copy rfl T.g_Copy (pa_cons (pv 12) (pa_cons (pe_fn (ok_law_paper T) bp_law_paper_1 hr (by decide) rfl T.g__law_paper (pa_cons (pv 13) pa_nil)) (pa_cons (pv 14) pa_nil)))) (pa_cons (pv 13) (pa_cons (pv 14) (pa_cons (pv 12) pa_nil))))) pa_nil))))))) (pss_one (ps_for PassesOwn.never rfl (pi_enumA rfl T.f_enumerate (pa_cons (pv 11) pa_nil)) (pg_tup rfl (pgs_cons (pg_name (i := 15) sc_law.nd rfl (Or.inl rfl)) (pgs_cons (pg_tup rfl (pgs_cons (pg_name (i := 16) sc_law.nd rfl (Or.inl rfl)) (pgs_cons (pg_name (i := 13) sc_law.nd rfl (Or.inl rfl)) (pgs_cons (pg_name (i := 14) sc_law.nd rfl (Or.inl rfl)) (pgs_cons (pg_name (i := 12) sc_law.nd rfl (Or.inl rfl)) pgs_nil))))) pgs_nil))) (pss_cons (ps_for PassesOwn.never rfl (pi_any (pe_tup (pa_cons pe_int (pa_cons pe_int (pa_cons pe_int (pa_cons (pe_fn (ok_law_draw T) bp_law_draw_2 hr (by decide) rfl T.g__law_draw (pa_cons (pv 1) (pa_cons pe_int pa_nil))) pa_nil)))))) (pg_name (i := 17) sc_law.nd rfl (Or.inl rfl)) (pss_cons (ps_asg (pe_ix ix_seq (pv 11) (pe_op op_modU (pe_op op_addU (pv 15) (pv 17)) pe_int) (fun _ _ => rfl)) (pg_tup rfl (pgs_cons (pg_name (i := 18) sc_law.nd rfl (Or.inl rfl)) (pgs_cons (pg_name (i := 19) sc_law.nd rfl (Or.inl rfl)) (pgs_cons (pg_name (i := 20) sc_law.nd rfl (Or.inl rfl)) (pgs_cons (pg_name (i := 5) sc_law.nd rfl (Or.inl rfl)) pgs_nil)))))) (pss_one (ps_if (pt_not (pt_val (pe_fnG (ok_law_like T) hgd bp_law_like_3 hr (by decide) rfl T.g__law_like (pa_cons (pv 16) (pa_cons (pv 18) (pa_cons (pe_cmpR (op_eqU hr.units) (pe_fn (ok_law_all T) bp_law_all_2 hr (by decide) rfl T.g__law_all (pa_cons (pv 13) (pa_cons (pv 14) pa_nil))) (pe_fn (ok_law_all T) bp_law_all_2 hr (by decide) rfl T.g__law_all (pa_cons (pv 19) (pa_cons (pv 20) pa_nil))) (nomark _)) pa_nil)))))) (pss_one (ps_ret pe_bl)) pss_nil)))) (pss_cons (ps_if (pt_not (pt_val (pe_fnG (ok_law_like T) hgd bp_law_like_3 hr (by decide) rfl T.g__law_like (pa_cons (pv 16) (pa_cons (pe_ix ix_seq (pe_lst (pa_cons pe_non (pa_cons (pv 6) (pa_cons (pe_callTy (call_strO T.o_CopyX_strX ((ok_CopyX_strX T).fnR bp_CopyX_strX_1) hr (by decide)) (by rfl) T.f_str (by decide +kernel) (pa_cons (pv 16) pa_nil)) (pa_cons (pv 14) (pa_cons (pv 5) pa_nil)))))) (pe_fn (ok_law_draw T) bp_law_draw_2 hr (by decide) rfl T.g__law_draw (pa_cons (pv 1) (pa_cons pe_int pa_nil))) (fun _ _ => rfl)) (pa_cons pe_bl pa_nil)))))) (pss_one (ps_ret pe_bl)) pss_nil) (pss_cons (ps_par rfl sc_law.nd (i := 21) (j := 17) rfl rfl (by decide) rfl rfl (pa_cons (pe_me0 (ok_Copy_first_one T) bp_Copy_first_one_1 hr (by decide) T.c_Copy T.m_Copy_first_one (pv 16)) (pa_cons (pe_op op_subU (pe_fn (ok_law_draw T) bp_law_draw_2 hr (by decide) rfl T.g__law_draw (pa_cons (pv 1) (pa_cons pe_int pa_nil))) (pv 14)) pa_nil)) rfl) (pss_cons (ps_if (pt_not (pt_val (pe_fnG (ok_law_like T) hgd bp_law_like_3 hr (by decide) rfl T.g__law_like (pa_cons (pv 21) (pa_cons (pe_mkc (ok_CopyX_initX T) bp_CopyX_initX_4 hr (by decide) T.mk_Copy rfl T.g_Copy (pa_cons (pe_ix ix_seq (pe_ix ix_seq (pv 8) pe_int (fun _ _ => rfl)) pe_int (fun _ _ => rfl)) (pa_cons (pe_fn (ok_law_paper T) bp_law_paper_1 hr (by decide) rfl T.g__law_paper (pa_cons (pv 13) pa_nil)) (pa_cons pe_int pa_nil)))) (pa_cons (pe_cmpR (op_inTD (Nat.lt_of_succ_lt (room66 hr))) (pv 13) (pe_tup (pa_cons (pv 4) (pa_cons (pe_slice sl_U (pv 4) (po_some pe_int) po_none) pa_nil))) (by rfl)) pa_nil)))))) (pss_one (ps_ret pe_bl)) pss_nil) (pss_cons (ps_set (i := 22) sc_law.nd rfl (Or.inl rfl) (pe_mek0 (ok_Copy_gone_on T) bk_Copy_gone_on_1_by hr (by decide) T.c_Copy T.m_Copy_gone_on (pv 16) (pk_cons (pv 17) pk_nil))) (pss_cons (ps_if (PW.pt (pw_or (pt_cmpR (op_neU hr.units) (pe_fld (pv 22) rfl) (pe_op op_addU (pv 14) (pv 17)) (nomark _)) (pw_or (pt_cmpR (op_neU hr.units) (pe_fld (pv 21) rfl) pe_int (nomark _)) (pw_or1 (pt_cmpR (op_own (neg := true) T.e_Copy ((ok_CopyX_eqX T).fnR bp_CopyX_eqX_2) hr (by decide)) (pv 22) (pe_mkc (ok_CopyX_initX T) bp_CopyX_initX_4 hr (by decide) T.mk_Copy rfl T.g_Copy (pa_cons (pv 12) (pa_cons (pe_fn (ok_law_paper T) bp_law_paper_1 hr (by decide) rfl T.g__law_paper (pa_cons (pv 13) pa_nil)) (pa_cons (pe_op op_addU (pv 14) (pv 17)) pa_nil)))) (nomark _)))))) (pss_one (ps_ret pe_bl)) pss_nil) (pss_cons (ps_if (pt_cmpR (op_neU hr.units) (pe_fn (ok_round_length T) bp_round_length_1 hr (by decide) rfl T.g_round_length (pa_cons (pv 16) pa_nil)) (pe_fn (ok_law_round T) bp_law_round_1 hr (by decide) rfl T.g__law_round (pa_cons (pv 13) pa_nil)) (nomark _)) (pss_one (ps_ret pe_bl)) pss_nil) (pss_one (ps_if (PW.pt (pw_or (pt_cmpR (op_neU hr.units) (pe_fld (pv 16) rfl) (pv 14) (nomark _)) (pw_or1 (PW.pt (pw_and (pt_cmpR op_ltU (pv 14) pe_int (nomark _)) (pw_and1 (pt_cmpR (op_own (neg := true) T.e_Copy ((ok_CopyX_eqX T).fnR bp_CopyX_eqX_2) hr (by decide)) (pe_me0 (ok_Copy_gone_on T) bp_Copy_gone_on_1 hr (by decide) T.c_Copy T.m_Copy_gone_on (pv 16)) (pe_mek0 (ok_Copy_gone_on T) bk_Copy_gone_on_1_by hr (by decide) T.c_Copy T.m_Copy_gone_on (pv 16) (pk_cons pe_int pk_nil)) (nomark _)))))))) (pss_one (ps_ret pe_bl)) pss_nil)))))))))))))))))))) (pss_one (ps_ret (pe_fnG (ok_law_forty_right T) hgd bp_law_forty_right_1 hr (by decide) rfl T.g__law_forty_right (pa_cons (pv 1) pa_nil))))))) (pure_law T)
end
end Pap

set_option maxHeartbeats 0
namespace Pap
open PySem PySem.Spec PyProof.Rows L2 PT
theorem fund_one {K : PySem.W.Frag} {n q : Str} {pm : _} {bd : _} {sc : _} {ds ks : _} {f : Addr} {fd fd' : FuncData} (F : FunD K n q pm bd sc ds ks f fd) (F' : FunD K n q pm bd sc ds ks f fd') : fd = fd' := by
  obtain ⟨oc, od, dV, kV, doc, pm, an, cdv, ct, osl, e1, lk, _⟩ := F.ex
  obtain ⟨oc', od', dV', kV', doc', pm', an', cdv', ct', osl', e2, lk', _⟩ := F'.ex
  rw [lk] at lk'
  injection lk' with h
  injection h with h1 h2 h3
  injection h3 with h4
theorem law_facts {P : Program} {w : World} {h : Heap} {mg : Str → Option Value} {f : Addr} (Y : PT.hk.says w h) (G : h.Ns mainGlobals mg) (hfa : mg ("law" : Str) = some (.ref f)) :
    ∃ (K : PySem.W.Frag) (fd : FuncData), K.In h ∧ (∀ (s : Shared) (v : Value), BindsTo s fd ⟨[v], []⟩ [("_law_script", v)]) ∧ ∀ base : Heap, K.In base → base.Ns mainGlobals mg → FnG P w K mg base 11 f fd ["_law_script"] (spW (sp_law K)) := by
  obtain ⟨K, KX, c, hx⟩ := Y
  have T : TX K mg := ⟨c, hx, ⟨h, KX, G⟩⟩
  obtain ⟨fd, F⟩ := T.d_law
  have e := hfa.symm.trans T.g_law
  cases e
  have b := FunD.bindsA (ps := ["_law_script"]) F fun _ _ _ _ _ _ us hl => match us, hl with | [_], _ => rfl
  refine ⟨K, fd, KX, fun s v => b s [v] rfl, fun base _ _ => ?_⟩
  obtain ⟨fd', F', G'⟩ := (ok_law (P := P) (w := w) (base := base) T).ex
  rw [fund_one F F']
  exact G'
theorem law_says {K : PySem.W.Frag} {H : Hp} {a : Addr} {ns : List Int} (hl : ns.length ≤ 63) (hS : SqL K H a (ns.map V.int)) : spW (sp_law K) [.ref a] H (fun v _ => v = .bl true) fun _ _ _ => False := by
  refine ⟨H, [], fun v _ _ => v = .bl true, fun _ _ _ _ => False, ⟨fun _ _ h => h, (fun _ h => nomatch h), List.nodup_nil⟩, ⟨a, ns, rfl, ⟨fun H' W => ?_, by omega⟩, fun _ _ => rfl⟩, fun v B' M' H' _ q => q, fun _ _ _ _ _ _ z => z⟩
  rcases hS with h | h
  · rcases h with h | ⟨o, h⟩
    · exact .inl (.inl (W.per _ _ h))
    · exact .inl (.inr ⟨o, W.per _ _ h⟩)
  · exact .inr h
end Pap
open PySem PySem.W PySem.Calls PyProof.Rows
theorem PySem.Challenge.cw_paperkin_k42_copies_compared_holds : PySem.Challenge.rw_paperkin_k42_copies_compared.Holds := by
  w_on; o_law
  refine HandSHeadRun.head_any (r := OpenLaw.row PySem.Challenge.rw_paperkin_k42_copies_compared) (q := view (OpenLaw.row PySem.Challenge.rw_paperkin_k42_copies_compared).prog [63]) (H := PT.hk) (ob := PT.ob) (M := 20000) (loose := PT.names) (d := HandSHeadRun.topDef (OpenLaw.row PySem.Challenge.rw_paperkin_k42_copies_compared).prog 63) (kwd := []) PT.ob_eq
    (by kernel_rfl) (fun s => by kernel_rfl) PT.run (by kernel_rfl) (by kernel_rfl) (by kernel_rfl) (by rfl) (by first | assumption | decide +kernel) (by decide +kernel) ⟨rfl, rfl, rfl, rfl, rfl, by decide +kernel⟩ ?hw ?hc
  case hw => w_witness2
  case hc =>
    refine Pap.walk_ofG (l := PySem.Challenge.rw_paperkin_k42_copies_compared) (n := 63) (k := 11) (x := "_law_script") rfl (by decide) (by kernel_rfl) ⟨rfl, by decide, by decide⟩ ?F
    intro w mg fa h Y G hmg0
    have hmg : mg ("law" : PySem.Str) = some (.ref fa) := by
      have e : (HandSHeadRun.topDef (OpenLaw.row PySem.Challenge.rw_paperkin_k42_copies_compared).prog 63).name = ("law" : PySem.Str) := by kernel_rfl
      rw [← e]
      exact hmg0
    obtain ⟨K, fd, KX, hb, hF⟩ := Pap.law_facts (P := (PySem.Challenge.rw_paperkin_k42_copies_compared).prog) (w := w) Y G hmg
    exact ⟨K, fd, Pap.spW (Pap.sp_law K), KX, hb, fun H a ns hl _ _ hS => Pap.law_says hl hS, hF⟩
