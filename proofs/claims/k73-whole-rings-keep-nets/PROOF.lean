import PyProof.Rows.All
import Wide.All
import OpenK.AllK
import Wide.FinOn
import HandS.ForMost
import HandS.Codes
import HandS.More
import HandS.Wide
import HandS.Zip
import HandS.Conv
import HandS.DictComp
import HandS.Property
import HandS.ClsMeth
import HandS.Star
import HandS.OwnEq
import HandS.IsInst
import HandS.SetKeys
import HandS.TupSets
import HandS.TupAny
import HandS.NoneIn
import HandS.ListItems
import HandS.DeepEq
import HandS.Finally
import HandS.Head0
import HandS.Head1
import HandS.Head2
import HandS.HeadHook1
import HandS.HeadHook2
import HandS.HeadEnd
import HandS.SetTxt0
import PyProof.SeqIndex
import KE.SortData
import HandS.DictTup
import PyProof.DictTruth
import PyProof.Draws
import HandS.Zip0
import PyProof.EnumMake
import PyProof.DictUpdate
import PyProof.EvalArms
import KE.KDictZip
import HandS.TryOnly
import KE.KDictPairs
import HandS.Style
import PyProof.ReprRoads
import PyProof.ReprLen
import PyProof.StrLawsRepr
import KE.KDictCopyH
import PySem.Challenge.RW_crateround_k73_whole_rings_keep_nets
set_option Elab.async false
set_option linter.all false
set_option maxRecDepth 100000
set_option maxHeartbeats 4000000

section
/-! What a reading comes to. G: what is known for good; H: what is tracked (G and what may change). -/
namespace Crt
open PySem L2

/-- true from here on, as long as nothing known is lost -/
def Up (p : Hp → Prop) (H : Hp) : Prop := ∀ H', Same H H' → p H'
theorem Up.now {p : Hp → Prop} {H : Hp} (u : Up p H) : p H := u H (Same.refl H)
theorem Up.on {p : Hp → Prop} {H H' : Hp} (u : Up p H) (e : Same H H') : Up p H' := fun G g => u G (e.trans g)
theorem Up.imp {p q : Hp → Prop} {H : Hp} (u : Up p H) (h : ∀ G, p G → q G) : Up q H := fun G g => h G (u G g)
theorem Up.both {p q : Hp → Prop} {H : Hp} (u : Up p H) (v : Up q H) : Up (fun G => p G ∧ q G) H := fun G g => ⟨u G g, v G g⟩
theorem up_c {p : Prop} {H : Hp} (h : p) : Up (fun _ => p) H := fun _ _ => h
theorem up_at {H : Hp} {a : Addr} {o : HO} (h : H a = some o) : Up (fun G => G a = some o) H := fun _ g => g a o h
theorem same_new {H : Hp} {p : Addr} {o : HO} (h : H p = none) : Same H (upd H p o) := fun a u e => by
  rw [upd_ne (ne_of_none e h)]
  exact e
theorem same_mut {H H' : Hp} {p : Addr} {o : HO} (e : Same H H') (h : H p = none) : Same H (upd H' p o) := fun a u ha => by
  rw [upd_ne (ne_of_none ha h)]
  exact e a u ha
theorem same_both {G H : Hp} {p : Addr} {o : HO} (e : Same G H) : Same (upd G p o) (upd H p o) := fun a u ha => by
  by_cases h : a = p
  · subst h
    rw [upd_same] at ha ⊢
    exact ha
  · rw [upd_ne h] at ha ⊢
    exact e a u ha
theorem up_upd {H : Hp} {p : Addr} {o : HO} : Up (fun G => G p = some o) (upd H p o) := up_at upd_same

/-- a step: knowledge grows by new objects alone -/
structure Stp (G H G' H' : Hp) : Prop where
  gg : Same G G'
  gh : Same G' H'
  hh : Same H H'
  new : ∀ b o, G b = none → H b = some o → (∀ xs, o ≠ .tup xs) → G' b = none
section
variable {G H G' H' G2 H2 : Hp} {p : Addr} {o : HO}
theorem Stp.refl (e : Same G H) : Stp G H G H := ⟨Same.refl G, e, Same.refl H, fun _ _ h _ _ => h⟩
theorem Stp.trans (a : Stp G H G' H') (b : Stp G' H' G2 H2) : Stp G H G2 H2 := ⟨a.gg.trans b.gg, b.gh, a.hh.trans b.hh, fun c o h1 h2 h3 => b.new c o (a.new c o h1 h2 h3) (a.hh c o h2) h3⟩
/-- a new object, known for good -/
theorem Stp.laid (e : Same G H) (h : H p = none) : Stp G H (upd G p o) (upd H p o) := ⟨same_new (e.free h), same_both e, same_new h, fun b u h1 h2 _ => by
  rw [upd_ne (ne_of_none h2 h)]
  exact h1⟩
/-- a new object that may change: it is not in G -/
theorem Stp.held (e : Same G H) (h : H p = none) : Stp G H G (upd H p o) := ⟨Same.refl G, same_mut e (e.free h), same_new h, fun _ _ h1 _ _ => h1⟩
/-- .. and is from now on known -/
theorem Stp.known (a : Stp G H G' H') (hp : H p = none) (e : H' p = some o) (n : G' p = none) : Stp G H (upd G' p o) H' := ⟨a.gg.trans (same_new n), fun b u q => by
  by_cases hb : b = p
  · subst hb
    rw [upd_same] at q
    rw [e]
    exact q
  · rw [upd_ne hb] at q
    exact a.gh b u q, a.hh, fun b u h1 h2 h3 => by
    rw [upd_ne (ne_of_none h2 hp)]
    exact a.new b u h1 h2 h3⟩
/-- what is there may be learnt, if it is a tuple -/
theorem Stp.learn {xs : List V} (e : Same G H) (hp : H p = some (.tup xs)) : ∃ G', Stp G H G' H ∧ G' p = some (.tup xs) := by
  cases q : G p with
  | some o =>
    have h := e p o q
    rw [hp] at h
    exact ⟨G, Stp.refl e, by rw [q, h]⟩
  | none =>
    refine ⟨upd G p (.tup xs), ⟨same_new q, fun b u z => ?_, Same.refl H, fun b u h1 h2 h3 => ?_⟩, upd_same⟩
    · by_cases hb : b = p
      · subst hb
        rw [upd_same] at z
        rw [hp]
        exact z
      · rw [upd_ne hb] at z
        exact e b u z
    · rw [upd_ne fun z => h3 xs (by rw [z, hp] at h2; exact (Option.some.inj h2).symm)]
      exact h1
/-- two heaps put together -/
def join (G G2 : Hp) : Hp := fun b => match G b with
  | some o => some o
  | none => G2 b
theorem join_l : Same G (join G G2) := fun b o h => by
  unfold join
  rw [h]
theorem join_r (e : Same G H) (e2 : Same G2 H) : Same G2 (join G G2) := fun b o h => by
  unfold join
  cases q : G b with
  | none => exact h
  | some u =>
    have h1 := e b u q
    have h2 := e2 b o h
    rw [h1] at h2
    exact h2
theorem join_h (e : Same G H) (e2 : Same G2 H) : Same (join G G2) H := fun b o h => by
  unfold join at h
  cases q : G b with
  | none =>
    rw [q] at h
    exact e2 b o h
  | some u =>
    rw [q] at h
    exact e b o (q.trans h)
/-- what was a step from less is one from more -/
theorem Stp.grow (a : Stp G H G' H') (e : Same G G2) (e2 : Same G2 H) : Stp G2 H (join G2 G') H' ∧ Same G' (join G2 G') :=
  ⟨⟨join_l, join_h (e2.trans a.hh) a.gh, a.hh, fun b u h1 h2 h3 => by
    unfold join
    rw [h1]
    exact a.new b u (e.free h1) h2 h3⟩, join_r (e2.trans a.hh) a.gh⟩
end

abbrev PV : Type := V → Hp → Prop
/-- things that may change, as they stand -/
abbrev Held : Type := List (Addr × HO)
def Hold (cs : Held) (H : Hp) : Prop := ∀ p ∈ cs, H p.1 = some p.2
theorem Hold.on {cs : Held} {H H' : Hp} (h : Hold cs H) (e : Same H H') : Hold cs H' := fun p hp => e _ _ (h p hp)
theorem hold_nil {H : Hp} : Hold [] H := fun _ h => by cases h
theorem hold_one {H : Hp} {a : Addr} {o : HO} (h : H a = some o) : Hold [(a, o)] H := fun p hp => by
  rcases List.mem_cons.mp hp with e | e
  · rw [e]
    exact h
  · cases e
theorem Hold.hd {H : Hp} {a : Addr} {o : HO} {cs : Held} (h : Hold ((a, o) :: cs) H) : H a = some o := h (a, o) List.mem_cons_self
theorem Hold.tl {H : Hp} {p : Addr × HO} {cs : Held} (h : Hold (p :: cs) H) : Hold cs H := fun q hq => h q (List.mem_cons_of_mem _ hq)
theorem hold_cons {H : Hp} {a : Addr} {o : HO} {cs : Held} (h : H a = some o) (hs : Hold cs H) : Hold ((a, o) :: cs) H := fun p hp => by
  rcases List.mem_cons.mp hp with e | e
  · rw [e]
    exact h
  · exact hs p e
def Gv (cs : Held) (te : TE) (σ : L2.St) (G : Hp) (φ : PV) : Prop := ∀ H, Same G H → Hold cs H → ∀ Q : VK, (∀ v G' H', Stp G H G' H' → Up (φ v) G' → Q v H') → te σ H Q
def GvT (cs : Held) (tt : TT) (σ : L2.St) (G : Hp) (b : Bool) : Prop := ∀ H, Same G H → Hold cs H → ∀ Q : Bool → Hp → Prop, (∀ G' H', Stp G H G' H' → Q b H') → tt σ H Q
def GvA (cs : Held) (ta : TA) (σ : L2.St) (G : Hp) (ψ : List V → Hp → Prop) : Prop := ∀ H, Same G H → Hold cs H → ∀ Q : List V → Hp → Prop, (∀ vs G' H', Stp G H G' H' → Up (ψ vs) G' → Q vs H') → ta σ H Q
def GvO (cs : Held) (to : TO) (σ : L2.St) (G : Hp) (o : Option Int) : Prop := ∀ H, Same G H → Hold cs H → ∀ Q : Option Int → Hp → Prop, (∀ G' H', Stp G H G' H' → Q o H') → to σ H Q
/-- what a rule on values asks, with this answer -/
def Rv (r : VK → Prop) (G H : Hp) (φ : PV) : Prop := ∀ Q : VK, (∀ v G' H', Stp G H G' H' → Up (φ v) G' → Q v H') → r Q
/-- an int, a text, a truth value, None -/
def IsI (i : Int) : PV := fun v _ => v = .int i
def IsS (x : Str) : PV := fun v _ => v = .str x
def IsB (b : Bool) : PV := fun v _ => v = .bl b
def IsN : PV := fun v _ => v = .non
/-- a value as it is -/
def IsV (x : V) : PV := fun v _ => v = x

section
variable {cs : Held} {σ : L2.St} {G : Hp} {ta tb te : TE} {t u : TT} {φ ψ χ : PV} {v x y : V}
theorem Gv.mono {G' : Hp} (h : Gv cs te σ G φ) (e : Same G G') : Gv cs te σ G' φ := fun H a c Q q => h H (e.trans a) c Q fun v G1 H1 st up =>
  let ⟨s1, s2⟩ := st.grow e a
  q v _ H1 s1 (up.on s2)
theorem GvT.mono {G' : Hp} {b : Bool} (h : GvT cs t σ G b) (e : Same G G') : GvT cs t σ G' b := fun H a c Q q => h H (e.trans a) c Q fun G1 H1 st => q _ H1 (st.grow e a).1
theorem GvA.mono {G' : Hp} {ta : TA} {ψ : List V → Hp → Prop} (h : GvA cs ta σ G ψ) (e : Same G G') : GvA cs ta σ G' ψ := fun H a c Q q => h H (e.trans a) c Q fun v G1 H1 st up =>
  let ⟨s1, s2⟩ := st.grow e a
  q v _ H1 s1 (up.on s2)
theorem GvO.mono {G' : Hp} {to : TO} {o : Option Int} (h : GvO cs to σ G o) (e : Same G G') : GvO cs to σ G' o := fun H a c Q q => h H (e.trans a) c Q fun G1 H1 st => q _ H1 (st.grow e a).1
theorem Gv.more {p : Addr × HO} (h : Gv cs te σ G φ) : Gv (p :: cs) te σ G φ := fun H a c => h H a c.tl
theorem Gv.any (h : Gv [] te σ G φ) : Gv cs te σ G φ := fun H a _ => h H a hold_nil
theorem GvT.any {b : Bool} (h : GvT [] t σ G b) : GvT cs t σ G b := fun H a _ => h H a hold_nil
theorem GvA.any {ta : TA} {ψ : List V → Hp → Prop} (h : GvA [] ta σ G ψ) : GvA cs ta σ G ψ := fun H a _ => h H a hold_nil
theorem Gv.imp (h : Gv cs te σ G φ) (k : ∀ v G, φ v G → ψ v G) : Gv cs te σ G ψ := fun H a c Q q => h H a c Q fun v G1 H1 b up => q v G1 H1 b (up.imp (k v))
theorem gv_var {i : Nat} (h : σ[i]? = some (some v)) (up : Up (φ v) G) : Gv cs (tVar i) σ G φ := fun H a _ Q q => ⟨v, h, q v G H (Stp.refl a) up⟩
theorem gv_c (up : Up (φ v) G) : Gv cs (tC v) σ G φ := fun H a _ Q q => q v G H (Stp.refl a) up
theorem gv_v {i : Nat} (h : σ[i]? = some (some v)) : Gv cs (tVar i) σ G (IsV v) := gv_var h (up_c rfl)
theorem gv_vi {i : Nat} {n : Int} (h : σ[i]? = some (some (.int n))) : Gv cs (tVar i) σ G (IsI n) := gv_var h (up_c rfl)
theorem gv_vs {i : Nat} {n : Str} (h : σ[i]? = some (some (.str n))) : Gv cs (tVar i) σ G (IsS n) := gv_var h (up_c rfl)
theorem gv_ci {n : Int} : Gv cs (tC (.int n)) σ G (IsI n) := gv_c (up_c rfl)
theorem gv_cs {n : Str} : Gv cs (tC (.str n)) σ G (IsS n) := gv_c (up_c rfl)
theorem gv_cb {n : Bool} : Gv cs (tC (.bl n)) σ G (IsB n) := gv_c (up_c rfl)
theorem gv_cn : Gv cs (tC .non) σ G IsN := gv_c (up_c rfl)
/-- a two-place operation: what it asks of the two values -/
theorem gv_op {r : R2} (ha : Gv cs ta σ G φ) (hb : Gv cs tb σ G ψ) (hr : ∀ x y G1 H1, Same G1 H1 → Hold cs H1 → Same G G1 → Up (φ x) G1 → Up (ψ y) G1 → Rv (r x y H1) G1 H1 χ) : Gv cs (tOp r ta tb) σ G χ := fun H a c Q q =>
  ha H a c _ fun x G1 H1 s1 ux => (hb.mono s1.gg) H1 s1.gh (c.on s1.hh) _ fun y G2 H2 s2 uy => hr x y G2 H2 s2.gh (c.on (s1.hh.trans s2.hh)) (s1.gg.trans s2.gg) (ux.on s2.gg) uy Q fun v G3 H3 s3 uv => q v G3 H3 ((s1.trans s2).trans s3) uv
theorem gv_un {r : V → Hp → VK → Prop} (ha : Gv cs ta σ G φ) (hr : ∀ x G1 H1, Same G1 H1 → Hold cs H1 → Same G G1 → Up (φ x) G1 → Rv (r x H1) G1 H1 χ) : Gv cs (tUn r ta) σ G χ := fun H a c Q q =>
  ha H a c _ fun x G1 H1 s1 ux => hr x G1 H1 s1.gh (c.on s1.hh) s1.gg ux Q fun v G3 H3 s3 uv => q v G3 H3 (s1.trans s3) uv
theorem rv_at {r : VK → Prop} {G H : Hp} (e : Same G H) (up : Up (φ v) G) (h : ∀ Q : VK, Q v H → r Q) : Rv r G H φ := fun Q q => h Q (q v G H (Stp.refl e) up)
/-- the answer is a new object, known for good -/
theorem rv_new {r : VK → Prop} {G H : Hp} {o : HO} (e : Same G H) (up : ∀ p, H p = none → G p = none → Up (φ (.ref p)) (upd G p o)) (h : ∀ Q : VK, (∀ p, H p = none → Q (.ref p) (upd H p o)) → r Q) : Rv r G H φ := fun Q q =>
  h Q fun p hp => q _ _ _ (Stp.laid e hp) (up p hp (e.free hp))
theorem gv_I0 {g : Int → Int → V} {i j : Int} (ha : Gv cs ta σ G (IsI i)) (hb : Gv cs tb σ G (IsI j)) : Gv cs (tOp (rI0 g) ta tb) σ G (IsV (g i j)) :=
  gv_op ha hb fun x y G1 H1 e _ _ ux uy => rv_at (v := g i j) e (up_c rfl) fun Q q => ⟨i, j, ux.now, uy.now, q⟩
theorem gv_I {C : Int → Int → Prop} {g : Int → Int → V} {i j : Int} (ha : Gv cs ta σ G (IsI i)) (hb : Gv cs tb σ G (IsI j)) (hc : C i j) : Gv cs (tOp (rI C g) ta tb) σ G (IsV (g i j)) :=
  gv_op ha hb fun x y G1 H1 e _ _ ux uy => rv_at (v := g i j) e (up_c rfl) fun Q q => ⟨i, j, ux.now, uy.now, hc, q⟩
theorem gv_neg {i : Int} (ha : Gv cs ta σ G (IsI i)) : Gv cs (tUn (rU fun i => .int (-i)) ta) σ G (IsI (-i)) := gv_un ha fun x G1 H1 e _ _ ux => rv_at (v := .int (-i)) e (up_c rfl) fun Q q => ⟨i, ux.now, q⟩
theorem gv_eq (ha : Gv cs ta σ G (IsV x)) (hb : Gv cs tb σ G (IsV y)) (h : scal x y = true) : Gv cs (tOp rEq ta tb) σ G (IsB (decide (x = y))) :=
  gv_op ha hb fun x' y' G1 H1 e _ _ ux uy => rv_at (v := .bl (decide (x = y))) e (up_c rfl) fun Q q => by
    have e1 : x' = x := ux.now
    have e2 : y' = y := uy.now
    subst e1 e2
    exact ⟨h, q⟩
theorem gv_ne (ha : Gv cs ta σ G (IsV x)) (hb : Gv cs tb σ G (IsV y)) (h : scal x y = true) : Gv cs (tOp rNe ta tb) σ G (IsB (!decide (x = y))) :=
  gv_op ha hb fun x' y' G1 H1 e _ _ ux uy => rv_at (v := .bl (!decide (x = y))) e (up_c rfl) fun Q q => by
    have e1 : x' = x := ux.now
    have e2 : y' = y := uy.now
    subst e1 e2
    exact ⟨h, q⟩
theorem gt_test {b : Bool} (h : Gv cs te σ G (IsB b)) : GvT cs (tTest te) σ G b := fun H a c Q q => h H a c _ fun v G1 H1 s up => ⟨b, up.now, q G1 H1 s⟩
theorem gt_B {b : Bool} (h : Gv cs te σ G (IsB b)) : GvT cs (tB te) σ G b := fun H a c Q q => h H a c _ fun v G1 H1 s up => ⟨b, up.now, q G1 H1 s⟩
theorem gt_yes : GvT cs tYes σ G true := fun H a _ _ q => q G H (Stp.refl a)
theorem gt_not {b : Bool} (h : GvT cs t σ G b) : GvT cs (tNot t) σ G (!b) := fun H a c _ q => h H a c _ fun G1 H1 s => q G1 H1 s
theorem gt_and {a b : Bool} (h1 : GvT cs t σ G a) (h2 : a = true → GvT cs u σ G b) : GvT cs (tAnd t u) σ G (a && b) := fun H e c Q q => h1 H e c _ fun G1 H1 s1 => by
  cases a with
  | true => exact (h2 rfl).mono s1.gg H1 s1.gh (c.on s1.hh) Q fun G2 H2 s2 => q G2 H2 (s1.trans s2)
  | false => exact q G1 H1 s1
theorem gt_or {a b : Bool} (h1 : GvT cs t σ G a) (h2 : a = false → GvT cs u σ G b) : GvT cs (tOr t u) σ G (a || b) := fun H e c Q q => h1 H e c _ fun G1 H1 s1 => by
  cases a with
  | true => exact q G1 H1 s1
  | false => exact (h2 rfl).mono s1.gg H1 s1.gh (c.on s1.hh) Q fun G2 H2 s2 => q G2 H2 (s1.trans s2)
theorem gt_is {a b : Bool} (h : GvT cs t σ G a) (e : a = b) : GvT cs t σ G b := e ▸ h
theorem gv_andV {a b : Bool} (h1 : Gv cs ta σ G (IsB a)) (h2 : a = true → Gv cs tb σ G (IsB b)) : Gv cs (tAndV ta tb) σ G (IsB (a && b)) := fun H e c Q q => h1 H e c _ fun v G1 H1 s1 up => ⟨a, up.now, by
  cases a with
  | true => exact (h2 rfl).mono s1.gg H1 s1.gh (c.on s1.hh) Q fun v G2 H2 s2 uv => q v G2 H2 (s1.trans s2) uv
  | false => exact q _ G1 H1 s1 (up_c rfl)⟩
theorem gv_orV {a b : Bool} (h1 : Gv cs ta σ G (IsB a)) (h2 : a = false → Gv cs tb σ G (IsB b)) : Gv cs (tOrV ta tb) σ G (IsB (a || b)) := fun H e c Q q => h1 H e c _ fun v G1 H1 s1 up => ⟨a, up.now, by
  cases a with
  | true => exact q _ G1 H1 s1 (up_c rfl)
  | false => exact (h2 rfl).mono s1.gg H1 s1.gh (c.on s1.hh) Q fun v G2 H2 s2 uv => q v G2 H2 (s1.trans s2) uv⟩
theorem gv_notV {a : Bool} (h1 : Gv cs ta σ G (IsB a)) : Gv cs (tNotV ta) σ G (IsB (!a)) := fun H e c Q q => h1 H e c _ fun v G1 H1 s1 up => ⟨a, up.now, q _ G1 H1 s1 (up_c rfl)⟩
theorem gv_if {b : Bool} (h : GvT cs t σ G b) (h1 : b = true → Gv cs ta σ G φ) (h2 : b = false → Gv cs tb σ G φ) : Gv cs (tIf t ta tb) σ G φ := fun H e c Q q => h H e c _ fun G1 H1 s1 => by
  cases b with
  | true => exact (h1 rfl).mono s1.gg H1 s1.gh (c.on s1.hh) Q fun v G2 H2 s2 uv => q v G2 H2 (s1.trans s2) uv
  | false => exact (h2 rfl).mono s1.gg H1 s1.gh (c.on s1.hh) Q fun v G2 H2 s2 uv => q v G2 H2 (s1.trans s2) uv
/-- arguments -/
theorem ga_nil : GvA cs tNil σ G (fun vs _ => vs = []) := fun H a _ _ q => q [] G H (Stp.refl a) (up_c rfl)
theorem ga_cons {tr : TA} {ξ : List V → Hp → Prop} (h : Gv cs ta σ G φ) (hr : GvA cs tr σ G ξ) : GvA cs (tCons ta tr) σ G (fun vs G => ∃ v r, vs = v :: r ∧ φ v G ∧ ξ r G) := fun H a c Q q =>
  h H a c _ fun v G1 H1 s1 uv => (hr.mono s1.gg) H1 s1.gh (c.on s1.hh) _ fun r G2 H2 s2 ur => q (v :: r) G2 H2 (s1.trans s2) fun F f => ⟨v, r, rfl, uv F (s2.gg.trans f), ur F f⟩
theorem ga_1 (h : Gv cs ta σ G φ) : GvA cs (tCons ta tNil) σ G (fun vs G => ∃ v, vs = [v] ∧ φ v G) := fun H a c Q q =>
  h H a c _ fun v G1 H1 s1 uv => q [v] G1 H1 s1 fun F f => ⟨v, rfl, uv F f⟩
theorem ga_2 (h : Gv cs ta σ G φ) (h2 : Gv cs tb σ G ψ) : GvA cs (tCons ta (tCons tb tNil)) σ G (fun vs G => ∃ v w, vs = [v, w] ∧ φ v G ∧ ψ w G) := fun H a c Q q =>
  h H a c _ fun v G1 H1 s1 uv => (h2.mono s1.gg) H1 s1.gh (c.on s1.hh) _ fun w G2 H2 s2 uw => q [v, w] G2 H2 (s1.trans s2) fun F f => ⟨v, w, rfl, uv F (s2.gg.trans f), uw F f⟩
theorem ga_3 {tc : TE} (h : Gv cs ta σ G φ) (h2 : Gv cs tb σ G ψ) (h3 : Gv cs tc σ G χ) : GvA cs (tCons ta (tCons tb (tCons tc tNil))) σ G (fun vs G => ∃ v w z, vs = [v, w, z] ∧ φ v G ∧ ψ w G ∧ χ z G) := fun H a c Q q =>
  h H a c _ fun v G1 H1 s1 uv => (h2.mono s1.gg) H1 s1.gh (c.on s1.hh) _ fun w G2 H2 s2 uw => (h3.mono (s1.gg.trans s2.gg)) H2 s2.gh (c.on (s1.hh.trans s2.hh)) _ fun z G3 H3 s3 uz =>
    q [v, w, z] G3 H3 ((s1.trans s2).trans s3) fun F f => ⟨v, w, z, rfl, uv F ((s2.gg.trans s3.gg).trans f), uw F (s3.gg.trans f), uz F f⟩
theorem GvA.imp {ta : TA} {ξ ζ : List V → Hp → Prop} (h : GvA cs ta σ G ξ) (k : ∀ v G, ξ v G → ζ v G) : GvA cs ta σ G ζ := fun H a c Q q => h H a c Q fun v G1 H1 b up => q v G1 H1 b (up.imp (k v))
theorem gv_cb' {r : List V → Hp → VK → Prop} {ta : TA} {ξ : List V → Hp → Prop} (h : GvA cs ta σ G ξ) (hr : ∀ vs G1 H1, Same G1 H1 → Hold cs H1 → Same G G1 → Up (ξ vs) G1 → Rv (r vs H1) G1 H1 χ) : Gv cs (tCB r ta) σ G χ := fun H a c Q q =>
  h H a c _ fun vs G1 H1 s1 ux => hr vs G1 H1 s1.gh (c.on s1.hh) s1.gg ux Q fun v G2 H2 s2 uv => q v G2 H2 (s1.trans s2) uv
end

/-! ### promises -/
/-- a def that changes nothing that stands: from the data x told by pre to a value told by post -/
def SpF {α : Type} (pre : α → List V → Hp → Prop) (post : α → PV) : Sp := fun vs H Q _ => ∃ x G, Same G H ∧ pre x vs G ∧ ∀ v G' H', Stp G H G' H' → Up (post x v) G' → Q v H'
section
variable {cs : Held} {σ : L2.St} {G : Hp} {α : Type} {pre : α → List V → Hp → Prop} {post : α → PV} {E : XK} {ta : TA} {φ : PV}
theorem gv_call (x : α) (h : GvA cs ta σ G (pre x)) : Gv cs (tCall (SpF pre post) [] E ta) σ G (post x) := fun H a c Q q =>
  h H a c _ fun vs G1 H1 s1 up => ⟨x, G1, s1.gh, by rw [List.append_nil]; exact up.now, fun v G2 H2 s2 u => q v G2 H2 (s1.trans s2) u⟩
end

/-! ### data -/
def LstR {α : Type} (R : α → PV) (xs : List α) : PV := fun v H => ∃ a vs, v = .ref a ∧ H a = some (.lst vs) ∧ Paired (fun u x => R x u H) vs xs
def TupR {α : Type} (R : α → PV) (xs : List α) : PV := fun v H => ∃ a vs, v = .ref a ∧ H a = some (.tup vs) ∧ Paired (fun u x => R x u H) vs xs
def MonR {α : Type} (R : α → PV) : Prop := ∀ x v H H', Same H H' → R x v H → R x v H'
theorem mon_I : MonR IsI := fun _ _ _ _ _ h => h
theorem mon_S : MonR IsS := fun _ _ _ _ _ h => h
theorem mon_B : MonR IsB := fun _ _ _ _ _ h => h
section
variable {α : Type} {R : α → PV} {H H' : Hp} {v : V} {xs : List α}
theorem paired_mono {vs : List V} (m : MonR R) (e : Same H H') (p : Paired (fun u x => R x u H) vs xs) : Paired (fun u x => R x u H') vs xs := L2.Paired.mapP p fun u x r => m x u H H' e r
theorem mon_lst (m : MonR R) : MonR (LstR R) := fun x v H H' e ⟨a, vs, h1, h2, p⟩ => ⟨a, vs, h1, e a _ h2, paired_mono m e p⟩
theorem mon_tup (m : MonR R) : MonR (TupR R) := fun x v H H' e ⟨a, vs, h1, h2, p⟩ => ⟨a, vs, h1, e a _ h2, paired_mono m e p⟩
theorem MonR.up (m : MonR R) {x : α} (h : R x v H) : Up (R x v) H := fun G g => m x v H G g h
theorem lst_new {a : Addr} {vs : List V} (m : MonR R) (p : Paired (fun u x => R x u H) vs xs) (hn : H a = none) : Up (LstR R xs (.ref a)) (upd H a (.lst vs)) :=
  (mon_lst m).up ⟨a, vs, rfl, upd_same, paired_mono m (same_new hn) p⟩
end
/-- nums as they are -/
theorem paired_I {H : Hp} : ∀ {vs : List V} {xs : List Int}, Paired (fun u x => IsI x u H) vs xs → vs = xs.map V.int
  | _, _, .nil => rfl
  | _, _, .cons h t => by rw [List.map_cons, ← paired_I t]; exact congrArg (· :: _) h
theorem paired_I' {H : Hp} : ∀ xs : List Int, Paired (fun u x => IsI x u H) (xs.map V.int) xs
  | [] => .nil
  | x :: r => .cons rfl (paired_I' r)
theorem paired_S {H : Hp} : ∀ {vs : List V} {xs : List Str}, Paired (fun u x => IsS x u H) vs xs → vs = xs.map V.str
  | _, _, .nil => rfl
  | _, _, .cons h t => by rw [List.map_cons, ← paired_S t]; exact congrArg (· :: _) h
theorem paired_S' {H : Hp} : ∀ xs : List Str, Paired (fun u x => IsS x u H) (xs.map V.str) xs
  | [] => .nil
  | x :: r => .cons rfl (paired_S' r)
theorem paired_B {H : Hp} : ∀ {vs : List V} {xs : List Bool}, Paired (fun u x => IsB x u H) vs xs → vs = xs.map V.bl
  | _, _, .nil => rfl
  | _, _, .cons h t => by rw [List.map_cons, ← paired_B t]; exact congrArg (· :: _) h
abbrev Vec (xs : List Int) : PV := LstR IsI xs
theorem vec_iff {xs : List Int} {v : V} {H : Hp} : Vec xs v H ↔ ∃ a, v = .ref a ∧ H a = some (.lst (xs.map V.int)) := by
  constructor
  · rintro ⟨a, vs, h1, h2, p⟩
    exact ⟨a, h1, by rw [h2, paired_I p]⟩
  · rintro ⟨a, h1, h2⟩
    exact ⟨a, _, h1, h2, paired_I' xs⟩
theorem mon_vec : MonR Vec := mon_lst mon_I
theorem pr_at {α β : Type} {P : α → β → Prop} : ∀ {xs : List α} {ys : List β}, Paired P xs ys → ∀ {i : Nat} {x : α}, xs[i]? = some x → ∃ y, ys[i]? = some y ∧ P x y
  | _, _, .nil, _, _, h => by simp at h
  | _, _, .cons h _, 0, _, e => by
    simp at e
    subst e
    exact ⟨_, rfl, h⟩
  | _, _, .cons _ t, i + 1, _, e => pr_at t (i := i) (by simpa using e)
theorem pr_at' {α β : Type} {P : α → β → Prop} : ∀ {xs : List α} {ys : List β}, Paired P xs ys → ∀ {i : Nat} {y : β}, ys[i]? = some y → ∃ x, xs[i]? = some x ∧ P x y
  | _, _, .nil, _, _, h => by simp at h
  | _, _, .cons h _, 0, _, e => by
    simp at e
    subst e
    exact ⟨_, rfl, h⟩
  | _, _, .cons _ t, i + 1, _, e => pr_at' t (i := i) (by simpa using e)
theorem pr_app {α β : Type} {P : α → β → Prop} : ∀ {xs xs' : List α} {ys ys' : List β}, Paired P xs ys → Paired P xs' ys' → Paired P (xs ++ xs') (ys ++ ys')
  | _, _, _, _, .nil, q => q
  | _, _, _, _, .cons h t, q => .cons h (pr_app t q)
theorem pr_snoc {α β : Type} {P : α → β → Prop} {xs : List α} {ys : List β} {x : α} {y : β} (p : Paired P xs ys) (h : P x y) : Paired P (xs ++ [x]) (ys ++ [y]) := pr_app p (.cons h .nil)

/-! ### list comprehensions -/
theorem take_snoc {α : Type} : ∀ {xs : List α} {i : Nat} {x : α}, xs[i]? = some x → xs.take (i + 1) = xs.take i ++ [x]
  | [], _, _, h => by simp at h
  | a :: r, 0, x, h => by
    simp at h
    subst h
    rfl
  | a :: r, i + 1, x, h => by
    show a :: r.take (i + 1) = a :: (r.take i ++ [x])
    rw [take_snoc (xs := r) (i := i) (by simpa using h)]
/-- one turn: whether the item is kept, what it gives -/
def Turn (cs : Held) (tt : TT) (te : TE) (σ2 : L2.St) (G : Hp) (b : Bool) (φ : PV) : Prop := GvT cs tt σ2 G b ∧ (b = true → Gv cs te σ2 G φ)
/-- an iterator that walks these items, as long as cs stands -/
structure Walks {α : Type} (J : It) (cs : Held) (G1 : Hp) (xs : List α) (R : α → PV) : Prop where
  go : ∀ {i : Nat} {x : α} {Gc Hc : Hp}, xs[i]? = some x → Hold cs Hc → Same G1 Gc → Same Gc Hc → J.go i Hc ∧ ∀ v H', J.yld i Hc v H' → ∃ G2, Stp Gc Hc G2 H' ∧ Up (R x v) G2
  stop : ∀ {Gc Hc : Hp}, Hold cs Hc → Same G1 Gc → Same Gc Hc → J.stop xs.length Hc
/-- what a loop or a comprehension walks: these items -/
def Src {α : Type} (wi : TI) (σ : L2.St) (cs cs1 : Held) (G : Hp) (xs : List α) (R : α → PV) : Prop := ∀ H, Same G H → Hold cs H → ∀ Rk : It → Hp → Prop, (∀ J G1 H1, Stp G H G1 H1 → Hold cs1 H1 → Walks J cs1 G1 xs R → Rk J H1) → wi σ H Rk
section
variable {α β : Type} {R : α → PV} {R' : β → PV} {K : PySem.W.Frag} {σ : L2.St} {G H : Hp} {ws : List Nat} {tl te : TE} {tt : TT} {g : TG} {cs : Held}
/-- what holds ahead of turn i: G, H ahead of the whole, Gc, Hc now -/
structure LcI (R' : β → PV) (ys : List β) (G H : Hp) (D : Addr) (i : Nat) (Gc Hc : Hp) (acc : List V) : Prop where
  gg : Same G Gc
  gh : Same Gc Hc
  hh : Same H Hc
  nw : ∀ b o, G b = none → H b = some o → (∀ xs, o ≠ .tup xs) → Gc b = none
  nD : Gc D = none
  at_ : Hc D = some (.lst acc)
  ln : acc.length ≤ i
  pr : Paired (fun u x => R' x u Gc) acc ys
theorem LcI.start {D : Addr} (e : Same G H) (h : H D = none) : LcI R' [] G H D 0 G (upd H D (.lst [])) [] :=
  ⟨Same.refl G, same_mut e (e.free h), same_new h, fun _ _ h _ _ => h, e.free h, upd_same, Nat.le_refl _, .nil⟩
theorem LcI.step {ys : List β} {D : Addr} {i : Nat} {Gc Hc G2 H2 : Hp} {acc : List V} (I : LcI R' ys G H D i Gc Hc acc) (m : MonR R') (s : Stp Gc Hc G2 H2) : LcI R' ys G H D i G2 H2 acc :=
  ⟨I.gg.trans s.gg, s.gh, I.hh.trans s.hh, fun b o h1 h2 h3 => s.new b o (I.nw b o h1 h2 h3) (I.hh b o h2) h3, s.new D _ I.nD I.at_ (fun _ q => nomatch q), s.hh _ _ I.at_, I.ln, paired_mono m s.gg I.pr⟩
theorem LcI.app {ys : List β} {y : β} {D : Addr} {i : Nat} {Gc Hc : Hp} {acc : List V} {v : V} (hD : H D = none) (I : LcI R' ys G H D i Gc Hc acc) (h : R' y v Gc) : LcI R' (ys ++ [y]) G H D (i + 1) Gc (upd Hc D (.lst (acc ++ [v]))) (acc ++ [v]) :=
  ⟨I.gg, same_mut I.gh I.nD, same_mut I.hh hD, I.nw, I.nD, upd_same, by rw [List.length_append]; exact Nat.succ_le_succ I.ln, pr_snoc I.pr h⟩
theorem LcI.done {ys : List β} {D : Addr} {i : Nat} {Gc Hc : Hp} {acc : List V} (I : LcI R' ys G H D i Gc Hc acc) (m : MonR R') (h : H D = none) : Stp G H (upd Gc D (.lst acc)) Hc ∧ Up (LstR R' ys (.ref D)) (upd Gc D (.lst acc)) :=
  ⟨⟨I.gg.trans (same_new I.nD), fun b u q => by
    by_cases hb : b = D
    · subst hb
      rw [upd_same] at q
      rw [I.at_]
      exact q
    · rw [upd_ne hb] at q
      exact I.gh b u q, I.hh, fun b u h1 h2 h3 => by
    rw [upd_ne (ne_of_none h2 h)]
    exact I.nw b u h1 h2 h3⟩, lst_new m I.pr I.nD⟩
theorem lci_turn {ys : List β} {y : β} {D : Addr} {i : Nat} {b : Bool} {Gc Hc : Hp} {acc : List V} {σ2 : L2.St} {N : Hp → Prop} (m : MonR R') (hD : H D = none) (hc : Hold cs H) (hi : i < 100000) (I : LcI R' ys G H D i Gc Hc acc) (t : Turn cs tt te σ2 Gc b (R' y))
    (hN : ∀ G2 H2 acc2, LcI R' (ys ++ if b = true then [y] else []) G H D (i + 1) G2 H2 acc2 → N H2) :
    tt σ2 Hc fun b H3 => if b = true then te σ2 H3 fun y H4 => ∃ acc, H4 D = some (.lst acc) ∧ acc.length < sizeLine ∧ N (upd H4 D (.lst (acc ++ [y]))) else N H3 := by
  obtain ⟨ht, he⟩ := t
  refine ht Hc I.gh (hc.on I.hh) _ fun G3 H3 s3 => ?_
  have I3 := I.step m s3
  cases hb : b with
  | true =>
    subst hb
    rw [if_pos rfl]
    refine (he rfl).mono s3.gg H3 s3.gh (hc.on I3.hh) _ fun v G4 H4 s4 uv => ?_
    have I4 := I3.step m s4
    exact ⟨acc, I4.at_, Nat.lt_of_le_of_lt (Nat.le_trans I4.ln (Nat.le_of_lt hi)) (by decide), hN _ _ _ (I4.app hD uv.now)⟩
  | false =>
    subst hb
    rw [if_neg Bool.false_ne_true]
    refine hN G3 H3 acc ?_
    rw [if_neg Bool.false_ne_true, List.append_nil]
    exact ⟨I3.gg, I3.gh, I3.hh, I3.nw, I3.nD, I3.at_, Nat.le_succ_of_le I3.ln, I3.pr⟩
theorem filt_snoc {p : α → Bool} {f : α → β} {xs : List α} {x : α} : ((xs ++ [x]).filter p).map f = (xs.filter p).map f ++ if p x = true then [f x] else [] := by
  rw [List.filter_append, List.map_append, List.filter_cons]
  cases p x <;> rfl
/-- what a turn of a comprehension must do -/
def TurnOk (cs : Held) (g : TG) (tt : TT) (te : TE) (σ : L2.St) (ws : List Nat) (G : Hp) (xs : List α) (R : α → PV) (p : α → Bool) (φ : α → PV) : Prop :=
  ∀ (v : V) (x : α) (G1 : Hp), x ∈ xs → Same G G1 → Up (R x v) G1 → ∃ σ2, (∀ H1, Same G1 H1 → ∀ Q, Q σ2 H1 → g v (wipe σ ws) H1 Q) ∧ wipe σ2 ws = wipe σ ws ∧ Turn cs tt te σ2 G1 (p x) (φ x)
theorem TurnOk.mono {G' : Hp} {xs : List α} {p : α → Bool} {φ : α → PV} (t : TurnOk cs g tt te σ ws G xs R p φ) (e : Same G G') : TurnOk cs g tt te σ ws G' xs R p φ := fun v x G1 hx a u => t v x G1 hx (e.trans a) u
/-- [te for g in wi if tt] -/
theorem gv_lc {wi : TI} {cs1 : Held} {xs : List α} {p : α → Bool} {f : α → β} (m' : MonR R') (hs : Src wi σ cs cs1 G xs R) (hn : xs.length ≤ 100000) (turn : TurnOk cs1 g tt te σ ws G xs R p (fun x => R' (f x))) :
    Gv cs (tLc wi g tt te ws) σ G (LstR R' ((xs.filter p).map f)) := fun H a c Q q =>
  hs H a c _ fun J G1 H1 s1 c1 W D hD => by
    refine ⟨fun i m Hc => m = xs.length - i ∧ i ≤ xs.length ∧ ∃ Gc acc, LcI R' (((xs.take i).filter p).map f) G1 H1 D i Gc Hc acc, ⟨_, rfl, Nat.zero_le _, G1, [], LcI.start s1.gh hD⟩, ?_⟩
    rintro i m Hc ⟨rfl, hi, Gc, acc, I⟩
    by_cases hlt : i < xs.length
    · have hx : xs[i]? = some xs[i] := List.getElem?_eq_getElem hlt
      obtain ⟨hgo, hy⟩ := W.go hx (c1.on I.hh) I.gg I.gh
      refine .inr ⟨hgo, fun H' => ∃ Gc acc, LcI R' (((xs.take (i + 1)).filter p).map f) G1 H1 D (i + 1) Gc H' acc, fun H' h => ⟨xs.length - (i + 1), by omega, rfl, hlt, h⟩, fun v H' hv => ?_⟩
      obtain ⟨G2, s2, ur⟩ := hy v H' hv
      have I2 := I.step m' s2
      obtain ⟨σ2, hg, hw, t⟩ := turn v xs[i] G2 (List.mem_of_getElem? hx) (s1.gg.trans I2.gg) ur
      refine hg H' I2.gh _ ⟨hw, ?_⟩
      refine lci_turn m' hD c1 (by omega) I2 t fun G3 H3 acc3 I3 => ⟨G3, acc3, ?_⟩
      rw [take_snoc hx, filt_snoc]
      exact I3
    · have e : i = xs.length := by omega
      subst e
      rw [List.take_length] at I
      obtain ⟨s2, u2⟩ := I.done m' hD
      exact .inl ⟨W.stop (c1.on I.hh) I.gg I.gh, q _ _ _ (s1.trans s2) u2⟩
theorem filt_all {xs : List α} : xs.filter (fun _ => true) = xs := List.filter_eq_self.mpr fun _ _ => rfl
/-- [te for g in wi] -/
theorem gv_map {wi : TI} {cs1 : Held} {xs : List α} {f : α → β} (m' : MonR R') (hs : Src wi σ cs cs1 G xs R) (hn : xs.length ≤ 100000)
    (turn : ∀ (v : V) (x : α) (G1 : Hp), x ∈ xs → Same G G1 → Up (R x v) G1 → ∃ σ2, (∀ H1, Same G1 H1 → ∀ Q, Q σ2 H1 → g v (wipe σ ws) H1 Q) ∧ wipe σ2 ws = wipe σ ws ∧ Gv cs1 te σ2 G1 (R' (f x))) :
    Gv cs (tLc wi g tYes te ws) σ G (LstR R' (xs.map f)) := by
  have z := gv_lc (tt := tYes) (p := fun _ => true) (f := f) m' hs hn (te := te) (g := g) (ws := ws) fun v x G1 hx e u =>
    let ⟨σ2, h1, h2, h3⟩ := turn v x G1 hx e u
    ⟨σ2, h1, h2, gt_yes, fun _ => h3⟩
  rw [filt_all] at z
  exact z
/-- a list is walked -/
theorem src_list {xs : List α} (m : MonR R) (h : Gv cs tl σ G (LstR R xs)) : Src (iList K tl) σ cs cs G xs R := fun H a c Rk k => h H a c _ fun v G1 H1 s1 ul => by
  obtain ⟨l, vs, ev, el, pl⟩ := ul.now
  have at_ : ∀ {Gc Hc : Hp}, Same G1 Gc → Same Gc Hc → SqL K Hc l vs := fun e1 e2 => SqL.of (e2 _ _ (e1 _ _ el))
  refine ⟨l, ev, ⟨vs, at_ (Same.refl _) s1.gh⟩, k _ G1 H1 s1 (c.on s1.hh) ⟨fun {i x Gc Hc} hx _ e1 e2 => ?_, fun {Gc Hc} _ e1 e2 => ⟨vs, at_ e1 e2, by rw [pl.length] <;> exact Nat.le_refl _⟩⟩⟩
  obtain ⟨u, hu, ru⟩ := pr_at' pl hx
  refine ⟨⟨vs, u, at_ e1 e2, hu⟩, ?_⟩
  rintro v' H' ⟨rfl, hv⟩
  have e : v' = u := Option.some.inj ((hv vs (at_ e1 e2)).symm.trans hu)
  subst e
  exact ⟨Gc, Stp.refl e2, (m.up ru).on e1⟩
/-- a tuple -/
theorem src_tup {xs : List α} (m : MonR R) (h : Gv cs tl σ G (TupR R xs)) : Src (iTup K tl) σ cs cs G xs R := fun H a c Rk k => h H a c _ fun v G1 H1 s1 ul => by
  obtain ⟨l, vs, ev, el, pl⟩ := ul.now
  have at_ : ∀ {Gc Hc : Hp}, Same G1 Gc → Same Gc Hc → SqT K Hc l vs := fun e1 e2 => SqT.of (e2 _ _ (e1 _ _ el))
  refine ⟨l, ev, ⟨vs, at_ (Same.refl _) s1.gh⟩, k _ G1 H1 s1 (c.on s1.hh) ⟨fun {i x Gc Hc} hx _ e1 e2 => ?_, fun {Gc Hc} _ e1 e2 => ⟨vs, at_ e1 e2, by rw [pl.length] <;> exact Nat.le_refl _⟩⟩⟩
  obtain ⟨u, hu, ru⟩ := pr_at' pl hx
  refine ⟨⟨vs, u, at_ e1 e2, hu⟩, ?_⟩
  rintro v' H' ⟨rfl, hv⟩
  have e : v' = u := Option.some.inj ((hv vs (at_ e1 e2)).symm.trans hu)
  subst e
  exact ⟨Gc, Stp.refl e2, (m.up ru).on e1⟩
theorem range_at {n i : Nat} {x : Int} (h : ((List.range n).map fun (k : Nat) => (k : Int))[i]? = some x) : i < n ∧ x = (i : Int) := by
  rw [List.getElem?_map] at h
  by_cases hi : i < n
  · rw [List.getElem?_range hi] at h
    exact ⟨hi, (Option.some.inj h).symm⟩
  · rw [List.getElem?_eq_none (by rw [List.length_range]; omega)] at h
    cases h
/-- 0, 1, .. -/
def nums (n : Nat) : List Int := (List.range n).map fun (k : Nat) => (k : Int)
theorem nums_len (n : Nat) : (nums n).length = n := by unfold nums; rw [List.length_map, List.length_range]
theorem src_range {ta : TA} {n : Nat} (h : GvA cs ta σ G (fun vs _ => vs = [.int (n : Int)])) (hn : n ≤ 100000) : Src (iRng1 ta) σ cs cs G (nums n) IsI := fun H a c Rk k => h H a c _ fun vs G1 H1 s1 ul => by
  refine ⟨(n : Int), ul.now, by omega, by omega, k _ G1 H1 s1 (c.on s1.hh) ⟨fun {i x Gc Hc} hx _ e1 e2 => ?_, fun {Gc Hc} _ e1 e2 => ?_⟩⟩
  · obtain ⟨hi, rfl⟩ := range_at hx
    refine ⟨show i < (n : Int).toNat by omega, ?_⟩
    rintro v' H' ⟨rfl, rfl⟩
    exact ⟨Gc, Stp.refl e2, up_c (by show V.int (0 + (i : Int)) = V.int i; rw [Int.zero_add])⟩
  · show (n : Int).toNat ≤ (nums n).length
    rw [nums_len]
    omega
/-- the signs of a text -/
theorem src_str {z : Str} (h : Gv cs tl σ G (IsS z)) : Src (iStr tl) σ cs cs G (z.cps.toList.map fun c => (⟨#[c]⟩ : Str)) IsS := fun H a c Rk k => h H a c _ fun v G1 H1 s1 ul => by
  refine ⟨z, ul.now, k _ G1 H1 s1 (c.on s1.hh) ⟨fun {i x Gc Hc} hx _ e1 e2 => ?_, fun {Gc Hc} _ e1 e2 => ?_⟩⟩
  · rw [List.getElem?_map] at hx
    have hi : i < z.cps.size := by
      rcases Nat.lt_or_ge i z.cps.size with q | q
      · exact q
      · rw [List.getElem?_eq_none (by simpa using q)] at hx
        cases hx
    refine ⟨hi, ?_⟩
    rintro v' H' ⟨rfl, d, hd, rfl⟩
    refine ⟨Gc, Stp.refl e2, up_c ?_⟩
    rw [Array.getElem?_toList, hd] at hx
    exact congrArg V.str (Option.some.inj hx)
  · show z.cps.size ≤ _
    simp
/-- two lists side by side: a new pair each time -/
def PairR {α β : Type} (R : α → PV) (S : β → PV) : α × β → PV := fun p v G => ∃ t x y, v = .ref t ∧ G t = some (.tup [x, y]) ∧ R p.1 x G ∧ S p.2 y G
theorem mon_pair {α β : Type} {R : α → PV} {S : β → PV} (m : MonR R) (m2 : MonR S) : MonR (PairR R S) := fun p v H H' e ⟨t, x, y, h1, h2, h3, h4⟩ => ⟨t, x, y, h1, e _ _ h2, m _ _ _ _ e h3, m2 _ _ _ _ e h4⟩
theorem zip_at {α β : Type} : ∀ {xs : List α} {ys : List β} {i : Nat} {p : α × β}, (xs.zip ys)[i]? = some p → xs[i]? = some p.1 ∧ ys[i]? = some p.2
  | [], _, _, _, h => by simp at h
  | _ :: _, [], _, _, h => by simp at h
  | x :: xs, y :: ys, 0, p, h => by
    simp at h
    subst h
    exact ⟨rfl, rfl⟩
  | x :: xs, y :: ys, i + 1, p, h => by
    have := zip_at (xs := xs) (ys := ys) (i := i) (p := p) (by simpa using h)
    simpa using this
theorem src_zip {ta : TA} {S : β → PV} {xs : List α} {ys : List β} (m : MonR R) (m2 : MonR S) (h : GvA cs ta σ G (fun vs G => ∃ v w, vs = [v, w] ∧ LstR R xs v G ∧ LstR S ys w G)) : Src (iZip K ta) σ cs cs G (xs.zip ys) (PairR R S) := fun H a c Rk k => h H a c _ fun vs G1 H1 s1 ul => by
  obtain ⟨v, w, ev, ⟨l, us, e3, el, pl⟩, ⟨l2, us2, e4, el2, pl2⟩⟩ := ul.now
  subst e3 e4
  have at_ : ∀ {Gc Hc : Hp}, Same G1 Gc → Same Gc Hc → SqL K Hc l us := fun e1 e2 => SqL.of (e2 _ _ (e1 _ _ el))
  have at2 : ∀ {Gc Hc : Hp}, Same G1 Gc → Same Gc Hc → SqL K Hc l2 us2 := fun e1 e2 => SqL.of (e2 _ _ (e1 _ _ el2))
  refine ⟨l, l2, us, us2, ev, at_ (Same.refl _) s1.gh, at2 (Same.refl _) s1.gh, k _ G1 H1 s1 (c.on s1.hh) ⟨fun {i p Gc Hc} hp _ e1 e2 => ?_, fun {Gc Hc} _ e1 e2 => ⟨us, us2, at_ e1 e2, at2 e1 e2, ?_⟩⟩⟩
  · obtain ⟨hx, hy⟩ := zip_at hp
    obtain ⟨u, hu, ru⟩ := pr_at' pl hx
    obtain ⟨u2, hu2, ru2⟩ := pr_at' pl2 hy
    refine ⟨⟨us, us2, u, u2, at_ e1 e2, at2 e1 e2, hu, hu2⟩, ?_⟩
    rintro v' H' ⟨T, x, y, rfl, hT, rfl, h1, h2⟩
    have q1 : x = u := Option.some.inj ((h1 us (at_ e1 e2)).symm.trans hu)
    have q2 : y = u2 := Option.some.inj ((h2 us2 (at2 e1 e2)).symm.trans hu2)
    subst q1 q2
    exact ⟨_, Stp.laid e2 hT, (mon_pair m m2).up ⟨T, x, y, rfl, upd_same, m _ _ _ _ (e1.trans (same_new (e2.free hT))) ru, m2 _ _ _ _ (e1.trans (same_new (e2.free hT))) ru2⟩⟩
  · rw [List.length_zip, ← pl.length, ← pl2.length]
    omega
theorem src_zipT {ta : TA} {S : β → PV} {xs : List α} {ys : List β} (m : MonR R) (m2 : MonR S) (h : GvA cs ta σ G (fun vs G => ∃ v w, vs = [v, w] ∧ TupR R xs v G ∧ TupR S ys w G)) : Src (RZ.iZipA K ta) σ cs cs G (xs.zip ys) (PairR R S) := fun H a c Rk k => h H a c _ fun vs G1 H1 s1 ul => by
  obtain ⟨v, w, ev, ⟨l, us, e3, el, pl⟩, ⟨l2, us2, e4, el2, pl2⟩⟩ := ul.now
  subst e3 e4
  have at_ : ∀ {Gc Hc : Hp}, Same G1 Gc → Same Gc Hc → SqT K Hc l us := fun e1 e2 => SqT.of (e2 _ _ (e1 _ _ el))
  have at2 : ∀ {Gc Hc : Hp}, Same G1 Gc → Same Gc Hc → SqT K Hc l2 us2 := fun e1 e2 => SqT.of (e2 _ _ (e1 _ _ el2))
  refine ⟨l, l2, us, us2, ev, .inr ⟨at_ (Same.refl _) s1.gh, at2 (Same.refl _) s1.gh, k _ G1 H1 s1 (c.on s1.hh) ⟨fun {i p Gc Hc} hp _ e1 e2 => ?_, fun {Gc Hc} _ e1 e2 => ⟨us, us2, at_ e1 e2, at2 e1 e2, ?_⟩⟩⟩⟩
  · obtain ⟨hx, hy⟩ := zip_at hp
    obtain ⟨u, hu, ru⟩ := pr_at' pl hx
    obtain ⟨u2, hu2, ru2⟩ := pr_at' pl2 hy
    refine ⟨⟨us, us2, u, u2, at_ e1 e2, at2 e1 e2, hu, hu2⟩, ?_⟩
    rintro v' H' ⟨T, x, y, rfl, hT, rfl, h1, h2⟩
    have q1 : x = u := Option.some.inj ((h1 us (at_ e1 e2)).symm.trans hu)
    have q2 : y = u2 := Option.some.inj ((h2 us2 (at2 e1 e2)).symm.trans hu2)
    subst q1 q2
    exact ⟨_, Stp.laid e2 hT, (mon_pair m m2).up ⟨T, x, y, rfl, upd_same, m _ _ _ _ (e1.trans (same_new (e2.free hT))) ru, m2 _ _ _ _ (e1.trans (same_new (e2.free hT))) ru2⟩⟩
  · rw [List.length_zip, ← pl.length, ← pl2.length]
    omega

/-! ### a for statement -/
theorem for_run {J : It} {g : TG} {tb : TS} {D : Ends} {σ0 : L2.St} {G1 H1 : Hp} {xs : List α} (W : Walks J cs G1 xs R) (Pv : Nat → L2.St → Hp → Hp → Prop) (hC : ∀ i σ Gc Hc, Pv i σ Gc Hc → Same G1 Gc ∧ Same Gc Hc ∧ Hold cs Hc) (h0 : Pv 0 σ0 G1 H1)
    (hs : ∀ (i : Nat) (x : α) (v : V) σ Gc Hc G2 H2, xs[i]? = some x → Pv i σ Gc Hc → Stp Gc Hc G2 H2 → Up (R x v) G2 → g v σ H2 fun σ3 H3 => tb { D with nx := fun σ' H' => ∃ G', Pv (i + 1) σ' G' H', ct := fun σ' H' => ∃ G', Pv (i + 1) σ' G' H', bk := D.nx } σ3 H3)
    (hd : ∀ σ Gc Hc, Pv xs.length σ Gc Hc → D.nx σ Hc) :
    ∃ W : Nat → Nat → L2.St → Hp → Prop, (∃ m, W 0 m σ0 H1) ∧ ∀ i m σ H, W i m σ H →
      (J.stop i H ∧ D.nx σ H) ∨ (J.go i H ∧ ∃ N : L2.St → Hp → Prop, (∀ σ' H', N σ' H' → ∃ m', m' < m ∧ W (i + 1) m' σ' H') ∧ ∀ x H', J.yld i H x H' → g x σ H' fun σ2 H2 => tb { D with nx := N, ct := N, bk := D.nx } σ2 H2) := by
  refine ⟨fun i m σ Hc => m = xs.length - i ∧ i ≤ xs.length ∧ ∃ Gc, Pv i σ Gc Hc, ⟨_, rfl, Nat.zero_le _, G1, h0⟩, ?_⟩
  rintro i m σ Hc ⟨rfl, hi, Gc, p⟩
  obtain ⟨c1, c2, c3⟩ := hC i σ Gc Hc p
  by_cases hlt : i < xs.length
  · have hx : xs[i]? = some xs[i] := List.getElem?_eq_getElem hlt
    obtain ⟨hgo, hy⟩ := W.go hx c3 c1 c2
    refine .inr ⟨hgo, fun σ' H' => ∃ G', Pv (i + 1) σ' G' H', fun σ' H' h => ⟨xs.length - (i + 1), by omega, rfl, hlt, h⟩, fun v H' hv => ?_⟩
    obtain ⟨G2, s2, ur⟩ := hy v H' hv
    exact hs i xs[i] v σ Gc Hc G2 H' hx p s2 ur
  · have e : i = xs.length := by omega
    subst e
    exact .inl ⟨W.stop c3 c1 c2, hd σ Gc Hc p⟩
end
/-! ### targets -/
theorem tg_name {j : Nat} {v : V} {σ : L2.St} {G : Hp} : ∀ H1, Same G H1 → ∀ Q, Q (σ.set j (some v)) H1 → gName j v σ H1 Q := fun _ _ _ q => q
theorem tg_pair {K : PySem.W.Frag} {i j : Nat} {t : Addr} {x y : V} {σ : L2.St} {G : Hp} (h : G t = some (.tup [x, y])) : ∀ H1, Same G H1 → ∀ Q, Q ((σ.set i (some x)).set j (some y)) H1 → gTup K 2 (gCons (gName i) (gCons (gName j) gNil)) (.ref t) σ H1 Q :=
  fun H1 e Q q => ⟨t, [x, y], rfl, SqT.of (e _ _ h), rfl, x, [y], rfl, y, [], rfl, rfl, q⟩
end Crt
end

section
namespace Crt
open PySem PySem.Spec PyProof.Rows L2
/-! ### the text by places -/
def top (i : Nat) : Stmt := PySem.Challenge.pw_crateround_k73_whole_rings_keep_nets.main.body.getD i (.Pass ⟨0, 0, 0, 0⟩)
def mem (j : Nat) : Stmt := inClass (top 24) j
def memE (j : Nat) : Stmt := inClass (top 53) j
def letters : Str := Str.ofString "abcdefghijklmnopqrstuvwxyz"
/-- a def of the module that may be called by its name, no defaults -/
def Dfn (K : PySem.W.Frag) (mg : Str → Option Value) (x : Str) (st : Stmt) : Prop := ∃ f fd, C8.Def K mg x st f fd ∧ fd.defaults = .none
/-- a def at an address -/
def MFn (K : PySem.W.Frag) (x q : Str) (st : Stmt) (f : Addr) : Prop := ∃ fd, C8.Fun K x q st f fd ∧ fd.defaults = .none ∧ PySem.W.keepIn K (.ref f) = true ∧ PySem.W.isFn K (.ref f) = true ∧ PySem.W.fnIn K f = true
abbrev CalP (P : Program) (w : World) (K : PySem.W.Frag) (mg : Str → Option Value) (base : Heap) (k : Nat) (x : Str) (sp : Sp) : Prop := C8.Cal P w K mg base k x sp []
section
variable {P : Program} {w : World} {K : PySem.W.Frag} {mg : Str → Option Value} {base : Heap}
/-- THE RULE for a def of the module -/
theorem cal_of {x : Str} {st : Stmt} {N ps : List Str} {k : Nat} {sp : Sp} (F : Dfn K mg x st) (S : C8.scC N ps (C8.fnScope st) = true) (len : ∀ vs H Q E, sp vs H Q E → vs.length = ps.length)
    (b : ∀ (kV doc pm : Value) (an : Option Addr) (cdv ct : Value) (us : List Value), us.length = ps.length → bindArgs (PySem.W.fnOf x x (C8.fnArgs st) (C8.fnBody st) (C8.fnScope st) .none kV doc pm an cdv ct) ⟨us, []⟩ = pure (ps.zip us))
    (hbody : ∀ (nd : N.Nodup) (cdv : Value) (f : Addr) (A : Around) (outer : List Env) (s : Shared) (H : Hp) (vs : List V) (Q : VK) (E : XK), Room k (A.deeper (envOfC x (C8.fnScope st) s.heap.objs.size f cdv)) → sp vs H Q E →
      ∃ t, PSs (cxOf C8.CX0 P w K mg base N x (C8.fnScope st) f cdv A outer s H E).nox (C8.fnBody st) t ∧ t { nx := fun _ H' => Q .non H', rt := Q } (start N vs) H) : CalP P w K mg base (k + 1) x sp := by
  obtain ⟨f, fd, F, df⟩ := F
  have sc := C8.fnScope_by S
  exact C8.cal0 F (F.fn.binds df b) .nil sc len fun cdv A outer s H vs Q E hr h => hbody sc.nd cdv f A outer s H vs Q E hr h
end
end Crt
end

section
/-! The head's facts: what is looked at behind the top. -/
set_option autoImplicit false
namespace Crt
open PySem PySem.Spec PyProof.Rows L2 He
/-! ### the part of the heap that is looked at -/
/-- where an object leads to -/
def refsK (o : Obj) : List Addr := match o.data with
  | .dict es _ => es.toList.flatMap fun e => refV e.val
  | .func fd => refV fd.code
  | .cls cd => [cd.ns]
  | .fields vs => (match o.cls with
    | .type n => if n == "property" || n == "classmethod" then vs.toList.flatMap refV else []
    | _ => [])
  | _ => []
def stepK (g : Addr → Option Obj) (as : List Addr) : List Addr := as.flatMap fun a => match g a with
  | some o => refsK o
  | none => []
def levK (g : Addr → Option Obj) : Nat → List Addr → List Addr
  | 0, as => as
  | n + 1, as => as ++ levK g n (stepK g as)
def kG (g : Addr → Option Obj) : PySem.W.Frag := frG g (cStatics :: levK g 5 [mainGlobals])
/-! ### defs by their places -/
structure DefA where
  adr : PySem.W.Frag → Addr
  name : Str
  qual : Str
  st : Stmt
def fnAt (K : PySem.W.Frag) (d : DefA) : FnV := match K.lookup (d.adr K) with
  | some ⟨_, _, .func fd, _⟩ => some (fd.name, fd.qualname, fd.params, fd.body, fd.scope, fd.globals, fd.closure, fd.defaults, fd.builtins)
  | _ => none
def DefA.val (d : DefA) : FnV := some (d.name, d.qual, C8.fnArgs d.st, .stmts (C8.fnBody d.st), C8.fnScope d.st, mainGlobals, [], .none, builtinsNs)
def DefA.ok (K : PySem.W.Frag) (d : DefA) : Bool := (PySem.W.keepIn K (.ref (d.adr K)) && (PySem.W.isFn K (.ref (d.adr K)) && PySem.W.fnIn K (d.adr K))) && (match K.lookup (d.adr K) with
  | some ⟨_, _, .func fd, _⟩ => PySem.W.codeIn K fd.code d.qual
  | _ => false)
theorem DefA.fun_ {K : PySem.W.Frag} {d : DefA} (e : fnAt K d = d.val) (c : d.ok K = true) : MFn K d.name d.qual d.st (d.adr K) := by
  obtain ⟨c1, c2⟩ := ba c
  obtain ⟨k1, c3⟩ := ba c1
  obtain ⟨k2, k3⟩ := ba c3
  unfold fnAt at e
  split at e
  · rename_i oc od fd osl q
    obtain ⟨n1, n2, n3, n4, n5, n6, n7, n8, n9, n10, n11, n12, n13, n14, n15⟩ := fd
    unfold DefA.val at e
    simp only [Option.some.injEq, Prod.mk.injEq] at e
    obtain ⟨rfl, rfl, rfl, rfl, rfl, rfl, rfl, rfl, rfl⟩ := e
    rw [q] at c2
    exact ⟨_, ⟨⟨oc, od, .none, n9, n10, n11, n12, n13, n14, osl, rfl, q, c2⟩⟩, rfl, k1, k2, k3⟩
  · cases e
/-! ### the hook -/
def obsC (ds : List DefA) (ex : PySem.W.Frag → List Bool) (K : PySem.W.Frag) : Bool × List FnV := ((ex K).all id && ds.all fun d => d.ok K, ds.map fun d => fnAt K d)
def valC (ds : List DefA) : Bool × List FnV := (true, ds.map DefA.val)
def SaysC (ds : List DefA) (ex : PySem.W.Frag → List Bool) (K : PySem.W.Frag) : Prop := obsC ds ex K = valC ds
def hookC (ds : List DefA) (ex : PySem.W.Frag → List Bool) : PySem.W.Hook where
  α := Bool × List FnV
  obs := fun s => obsC ds ex (kG s.heap.get?)
  val := fun _ => valC ds
  says := fun _ h => ∃ K : PySem.W.Frag, K.In h ∧ SaysC ds ex K
  of := fun _ _ e => ⟨_, frG_in, e⟩
  keeps := fun _ _ _ ⟨K, hK, c⟩ k => ⟨K, PySem.W.Frag.In.keeps hK k, c⟩
theorem obsC_eq {ds : List DefA} {ex : PySem.W.Frag → List Bool} {g : Addr → Option Obj} {s : Shared} (h : ∀ a, g a = s.heap.get? a) : obsC ds ex (kG g) = (hookC ds ex).obs s := by
  rw [show g = s.heap.get? from funext h]
  rfl
section
variable {ds : List DefA} {ex : PySem.W.Frag → List Bool} {K : PySem.W.Frag}
theorem SaysC.holds (c : SaysC ds ex K) {b : Bool} (h : b ∈ ex K) : b = true := by
  have c1 := (ba (show ((ex K).all id && ds.all fun d => d.ok K) = true from congrArg (fun z : Bool × List FnV => z.1) c)).1
  exact List.all_eq_true.mp c1 b h
theorem SaysC.def_ (c : SaysC ds ex K) (i : Nat) {d : DefA} (h : ds[i]? = some d := by rfl) : MFn K d.name d.qual d.st (d.adr K) := by
  have c2 := (ba (show ((ex K).all id && ds.all fun d => d.ok K) = true from congrArg (fun z : Bool × List FnV => z.1) c)).2
  have e : (ds.map fun d => fnAt K d)[i]? = (ds.map DefA.val)[i]? := congrArg (fun z : List FnV => z[i]?) (congrArg (fun z : Bool × List FnV => z.2) c)
  rw [List.getElem?_map, List.getElem?_map, h] at e
  exact DefA.fun_ (Option.some.inj e) (List.all_eq_true.mp c2 d (List.mem_of_getElem? h))
end
/-! ### the facts -/
def dn (x : Str) (i : Nat) : Str × Nat := (x, i)
def defNames : List (Str × Nat) := [dn "is_integer" 9, dn "is_word" 10, dn "without_zeros" 22, dn "checked" 23, dn "load_of" 25, dn "houses_of" 27, dn "net_loads" 28, dn "after_rings" 29, dn "plus_times" 32, dn "first_place" 33, dn "least_row" 34, dn "cleared" 35, dn "triangular" 36, dn "reduced_by" 37, dn "has_no_debts" 43, dn "is_side" 44, dn "kinds_of" 45, dn "sides" 46, dn "vector_of" 47, dn "checked_pairs" 51,
  dn "_law_pen" 56, dn "_law_draw" 57, dn "_law_pick" 58, dn "_law_shuffled" 59, dn "_law_words" 60, dn "_law_count" 61, dn "_law_counts" 62, dn "_law_some_pairs" 63, dn "_law_exchanges" 64, dn "_law_debts" 65, dn "_law_loads" 66, dn "_law_some_rings" 67, dn "_law_nets_told" 68, dn "law" 69]
def recA (K : PySem.W.Frag) (T : String) (p : Addr) : Addr := match PySem.W.recIn K p T with
  | some (.ref g :: _) => g
  | _ => 0
def recB (K : PySem.W.Frag) (T : String) (p : Addr) : Bool := match PySem.W.recIn K p T with
  | some (.ref _ :: _) => true
  | _ => false
theorem recB_ok {K : PySem.W.Frag} {T : String} {p : Addr} (h : recB K T p = true) : ∃ rest, PySem.W.recIn K p T = some (.ref (recA K T p) :: rest) := by
  unfold recB at h
  unfold recA
  split at h
  · rename_i g rest q
    rw [q]
    exact ⟨rest, rfl⟩
  · cases h
def lA (K : PySem.W.Frag) : Addr := ga K "Load"
def eA (K : PySem.W.Frag) : Addr := ga K "Exchanges"
def lm (m : Str) (K : PySem.W.Frag) : Addr := ma K (lA K) m
def em (m : Str) (K : PySem.W.Frag) : Addr := ma K (eA K) m
def defsT : List DefA := defNames.map fun p => ⟨fun K => ga K p.1, p.1, p.1, top p.2⟩
def defsM : List DefA := [⟨lm "__init__", "__init__", "Load.__init__", mem 0⟩, ⟨fun K => recA K "classmethod" (lm "of" K), "of", "Load.of", mem 1⟩, ⟨fun K => recA K "property" (lm "counts" K), "counts", "Load.counts", mem 5⟩, ⟨fun K => recA K "property" (lm "kinds" K), "kinds", "Load.kinds", mem 6⟩,
  ⟨fun K => recA K "property" (lm "negative" K), "negative", "Load.negative", mem 8⟩, ⟨lm "__getitem__", "__getitem__", "Load.__getitem__", mem 9⟩, ⟨lm "__bool__", "__bool__", "Load.__bool__", mem 13⟩, ⟨lm "__eq__", "__eq__", "Load.__eq__", mem 14⟩, ⟨lm "__neg__", "__neg__", "Load.__neg__", mem 17⟩,
  ⟨lm "__add__", "__add__", "Load.__add__", mem 18⟩, ⟨lm "__sub__", "__sub__", "Load.__sub__", mem 19⟩, ⟨lm "__mul__", "__mul__", "Load.__mul__", mem 20⟩, ⟨lm "__rmul__", "__rmul__", "Load.__rmul__", mem 21⟩, ⟨em "__init__", "__init__", "Exchanges.__init__", memE 0⟩, ⟨em "plain", "plain", "Exchanges.plain", memE 13⟩]
def fas : List Fa := (defNames.map fun p => Fa.glo p.1) ++ ([("Load" : Str), ("Exchanges" : Str), ("Unbounded" : Str)]).map Fa.glo ++ ([("isinstance" : Str), ("int" : Str), ("bool" : Str), ("str" : Str), ("len" : Str), ("all" : Str), ("set" : Str), ("sorted" : Str), ("zip" : Str), ("dict" : Str), ("tuple" : Str), ("range" : Str), ("abs" : Str), ("list" : Str), ("enumerate" : Str), ("min" : Str), ("repr" : Str)]).map Fa.free
  ++ [.int "MOST_LETTERS" 8, .str "LETTERS" letters, .int "MAX_COUNT" 1000000, .int "MAX_PAIRS" 8, .int "MAX_KINDS" 6, .cls "Load", .cls "Exchanges", .noat "Load" "own_counts", .noat "Exchanges" "own_pairs", .noat "Exchanges" "own_kinds", .noat "Exchanges" "rows", .noat "Exchanges" "own_basis", .noat "Exchanges" "pivots", .mkr "Load", .mkr "Exchanges", .meth "Exchanges" "plain"]
  ++ ([("__getitem__" : Str), ("__bool__" : Str), ("__eq__" : Str), ("__neg__" : Str), ("__add__" : Str), ("__sub__" : Str), ("__mul__" : Str), ("__rmul__" : Str)]).map (Fa.meth "Load")
def prpB (K : PySem.W.Frag) (m : Str) : Bool := eqO (PySem.W.findIn K (.ref (lA K)) m) (some (some (.ref (lm m K)))) && (eqO (PySem.W.specialIn K (.ref (lm m K)) "__get__") (some (some (.builtin "property.__get__"))) && (decide (PySem.W.takesIn K (.ref (lm m K)) = some true) && recB K "property" (lm m K)))
def clmB (K : PySem.W.Frag) (m : Str) : Bool := (match PySem.W.findCls K (.ref (lA K)) (.type "type") m with
  | some (.get g a n c) => decide (g = .builtin "classmethod.__get__") && (decide (a = .ref (lm m K)) && (decide (n = .none) && decide (c = .ref (lA K))))
  | _ => false) && recB K "classmethod" (lm m K)
def exs (K : PySem.W.Frag) : List Bool := [eqO (PySem.W.findIn K (.ref (lA K)) "__class__") (some (some (.builtin "object.__class__"))), eqO (PySem.W.specialIn K (.builtin "object.__class__") "__get__") (some (some (.builtin "getset_descriptor.__get__"))), decide (PySem.W.takesIn K (.builtin "object.__class__") = some true),
  decide (PySem.W.mroIn K (lA K) (.type "object") = some true), decide (PySem.W.kitOne K (.ref (lA K)) (.ref (lA K)) = some true), PySem.W.selfFirst K (lA K), decide (PySem.W.kitOne K (.type "tuple") (.ref (ga K "Unbounded")) = some false), PySem.W.readsIn K (lA K) (.type "type"),
  eqO (PySem.W.specialIn K (.ref (lA K)) "__getattribute__") (some (some (.builtin "type.__getattribute__"))), clmB K "of", prpB K "counts", prpB K "kinds", prpB K "negative", decide (PySem.W.subIn K (.ref (lA K)) (.type "int") = some false), decide (PySem.W.subIn K (.type "int") (.ref (lA K)) = some false),
  (PySem.W.findIn K (.type "int") "__mul__").isSome, (PySem.W.findIn K (.type "int") "__rmul__").isSome]
def allEx (K : PySem.W.Frag) : List Bool := (fas.map fun f => f.ok K) ++ exs K
def allDs : List DefA := defsT ++ defsM
end Crt
end

section
/-! The head, the end. -/
set_option autoImplicit false
namespace Crt
open PySem PySem.Spec PyProof.Rows L2 He
abbrev R : PySem.W.OpenRow := PySem.W.OpenLaw.row PySem.Challenge.rw_crateround_k73_whole_rings_keep_nets
abbrev qv : Program := PySem.W.view R.prog [69]
abbrev hk : PySem.W.Hook := hookC allDs allEx
def ob (s : PySem.W.SharedT) : Bool × List FnV := obsC allDs allEx (kG (HandSHeadRun.getT s))
theorem ob_eq (s : PySem.W.SharedT) : ob s = hk.obs s.abs := obsC_eq (HandSHeadRun.getT_eq s)
def nm (l : List Str) : List Str := l
def names0 : List Str := nm ["_wall", "InvalidLoad", "InvalidText", "InvalidPair", "TooMany", "MOST_LETTERS", "LETTERS", "is_integer", "is_word", "DIGITS", "MOST_DIGITS", "NOTHING", "text_of", "can_begin", "kind_end", "first_digit", "count_end", "counts_in", "without_zeros", "checked", "Load", "load_of", "houses_of", "net_loads", "after_rings", "common_divisor", "plus_times", "first_place", "least_row", "cleared"]
def names1 : List Str := nm ["triangular", "reduced_by", "common_rows", "MAX_PAIRS", "MAX_KINDS", "MAX_COUNT", "has_no_debts", "is_side", "kinds_of", "sides", "vector_of", "load_with", "pair_of", "Unbounded", "checked_pairs", "Exchanges", "free_rules", "_law_pen", "_law_draw", "_law_pick", "_law_shuffled", "_law_words", "_law_count", "_law_counts", "_law_some_pairs", "_law_exchanges", "_law_debts", "_law_loads", "_law_some_rings", "_law_nets_told"]
def loose : List Str := names0 ++ names1
theorem run (w : World) : HandSHeadRun.RunEq R qv hk ob 6000 loose w := by
  intro os
  kernel_rfl
end Crt
open PySem PySem.W PySem.Calls PyProof.Rows
/-- the head: what is left is the law's own call -/
theorem Crt.head_of (call : WalkO Crt.qv Crt.loose (XL Crt.qv []) Crt.hk.says Crt.R.toRowW (HandSHeadRun.topDef Crt.R.prog 69) [] fun f vs => PySem.call f vs) : PySem.Challenge.rw_crateround_k73_whole_rings_keep_nets.Holds := by
  w_on; o_law
  refine HandSHeadRun.head_any (r := Crt.R) (q := Crt.qv) (H := Crt.hk) (ob := Crt.ob) (M := 6000) (loose := Crt.loose) (d := HandSHeadRun.topDef Crt.R.prog 69) (kwd := []) Crt.ob_eq (by kernel_rfl) (fun s => by kernel_rfl) Crt.run (by kernel_rfl) (by kernel_rfl) (by kernel_rfl) (by rfl)
    (by first | assumption | decide +kernel) (by decide +kernel) ⟨rfl, rfl, rfl, rfl, rfl, by decide +kernel⟩ ?hw call
  case hw => w_witness2
end

section
namespace Crt
open PySem PySem.Spec PyProof.Rows L2
def spPlus : Sp := SpF (α := List Int × Int × List Int) (fun x vs G => ∃ v w, vs = [v, .int x.2.1, w] ∧ Vec x.1 v G ∧ Vec x.2.2 w G ∧ x.1.length ≤ 1000 ∧ ∀ b ∈ x.2.2, CMulW x.2.1 b)
  (fun x => Vec ((x.1.zip x.2.2).map fun p => p.1 + x.2.1 * p.2))
theorem zip_snd {α β : Type} {xs : List α} {ys : List β} {p : α × β} (h : p ∈ xs.zip ys) : p.2 ∈ ys := (List.of_mem_zip h).2
section
variable {P : Program} {w : World} {K : PySem.W.Frag} {mg : Str → Option Value} {base : Heap}
theorem ok_plus (F : Dfn K mg "plus_times" (top 32)) (mz : mg "zip" = none) : CalP P w K mg base 1 "plus_times" spPlus := by
  refine cal_of (N := ["one", "factor", "other", "a", "b"]) (ps := ["one", "factor", "other"]) F (by decide +kernel) ?_ (fun _ _ _ _ _ _ us hl => match us, hl with | [_, _, _], _ => rfl) ?_
  · rintro vs H Q E ⟨x, G, _, ⟨v, w, e, _⟩, _⟩
    rw [e] <;> rfl
  · intro nd cdv f A outer s H vs Q E hr h
    refine ⟨_, pss_one (ps_ret (pe_lc (own := [("a", 3), ("b", 4)]) (g := gTup K 2 (gCons (gName 3) (gCons (gName 4) gNil))) (tt := tYes) (te := tOp (rI0 fun i j => .int (i + j)) (tVar 3) (tOp (rI CMulW fun i j => .int (i * j)) (tVar 1) (tVar 4))) rfl nd (pi_zip rfl mz (pa_cons (pv 0) (pa_cons (pv 2) pa_nil))) (blkOk_by (N := ["one", "factor", "other", "a", "b"]) (sc := C8.fnScope (top 32)) (by decide +kernel))
      (fun _ _ _ _ _ => pg_tup rfl (pgs_cons (pg_name (i := 3) nd rfl (Or.inl rfl)) (pgs_cons (pg_name (i := 4) nd rfl (Or.inl rfl)) pgs_nil))) (fun _ _ _ _ _ => pts_nil) (fun _ _ _ _ _ => pe_op op_add (pv 3) (pe_op op_mulW (pv 1) (pv 4))))), ?_⟩
    obtain ⟨⟨xs, n, ys⟩, G, eG, ⟨v, w, rfl, hx, hy, hn, hm⟩, k⟩ := h
    refine gv_map (cs := []) (f := fun p => p.1 + n * p.2) mon_I (src_zip mon_I mon_I (ga_2 (gv_var rfl (mon_vec.up hx)) (gv_var rfl (mon_vec.up hy)))) ?_ ?_ H eG hold_nil _ k
    · rw [List.length_zip]
      omega
    · rintro v ⟨a, b⟩ G1 hp e u
      obtain ⟨t, x, y, rfl, ht, rfl, rfl⟩ := u.now
      exact ⟨_, tg_pair ht, rfl, gv_I0 (gv_vi rfl) (gv_I (gv_vi rfl) (gv_vi rfl) (hm b (zip_snd hp)))⟩
end
end Crt
end

section
/-! Rules: operators, subscripts, truth of the text's own classes. -/
namespace Crt
open PySem PySem.Spec PyProof.Rows L2
section
variable {X : Cx} {k : Nat} {C f : Addr} {sp : Sp}
abbrev CalA (X : Cx) (k : Nat) (f : Addr) (sp : Sp) : Prop := C8.CalAt X.prog X.w X.K X.mg X.base k f sp
/-- a def at an address runs -/
theorem run_at {pins : List (Addr × Obj)} {σ : L2.St} {H : Hp} {s : Shared} {Q : VK} {us : List Value} {vs : List V} (F : CalA X k f sp) (hr : Room k X.A) (I : Inv X pins σ H s) (r : Vals vs us) (h : sp vs H Q C8.E0) :
    wpAny (model X.prog X.w) X.A (call (.ref f) us) (EP X pins σ Q) X.xe s := by
  obtain ⟨fd, ps, G, _, b⟩ := F.ex
  exact run_fn G hr b .nil C8.pass0 I r (by rw [List.append_nil]; exact h)
/-- .. one builtin deeper -/
theorem run_at1 {pins : List (Addr × Obj)} {σ : L2.St} {H : Hp} {s : Shared} {Q : VK} {us : List Value} {vs : List V} {E : Value → Shared → Prop} (F : CalA X k f sp) (hr : Room (k + 1) X.A) (I : Inv X pins σ H s) (r : Vals vs us) (h : sp vs H Q C8.E0) :
    wpAny (model X.prog X.w) X.A.in1 (call (.ref f) us) (EP X pins σ Q) E s := by
  obtain ⟨fd, ps, G, _, b⟩ := F.ex
  have hl : (us ++ []).length = ps.length := by
    rw [List.append_nil, ← r.length]
    exact G.len _ _ _ _ h
  have hb := b s us I.kIn hl
  rw [List.append_nil] at hb
  refine wpAny_call (codeAny_mono (G.run X.A.in1 X.stack s H ⟨us, []⟩ us vs Q C8.E0 hr.in1 I.env0.in1 hb r h) fun z s' hq => ?_)
  cases z with
  | error e => exact False.elim hq
  | ok fl =>
    cases fl with
    | ret u => exact I.after hq
    | next => exact False.elim hq
    | brk => exact False.elim hq
    | cont => exact False.elim hq
theorem cmp_back {P : Value → Shared → Prop} {z : V} {v : Value} {s' : Shared} (r : RelV z v) (h : P v s') : PySem.W.CmpBack P v s' := by
  cases z with
  | non => cases r; exact h
  | bl _ => cases r; exact h
  | int _ => obtain ⟨t, rfl⟩ := r; exact h
  | str _ => obtain ⟨t, rfl⟩ := r; exact h
  | byt _ => obtain ⟨t, rfl⟩ := r; exact h
  | flt _ => obtain ⟨t, rfl⟩ := r; exact h
  | ref _ => cases r; exact h
  | ty _ => cases r; exact h
theorem ins_look {pins : List (Addr × Obj)} {σ : L2.St} {H : Hp} {s : Shared} {a dx : Addr} {fs : List (Str × V)} (I : Inv X pins σ H s) (h : H a = some (.ins C dx fs)) : ∃ od, PySem.W.InstAt s.heap a (PySem.W.instObj C dx) C (some od) := by
  obtain ⟨mA, J, _⟩ := ins_get I.hok h
  obtain ⟨od, J, _⟩ := J.look
  exact ⟨od, J⟩
/-- x op y, both of the class at C -/
def rOwnB (C : Addr) (sp : Sp) : R2 := fun x y H Q => ∃ a b dx dy fs gs, x = .ref a ∧ y = .ref b ∧ H a = some (.ins C dx fs) ∧ H b = some (.ins C dy gs) ∧ sp [x, y] H Q C8.E0
theorem op_ownB {op : Operator} (hc : PySem.W.selfFirst X.K C = true) (hs : PySem.W.findIn X.K (.ref C) (PySem.dunder op.info.2) = some (some (.ref f))) (hf : PySem.W.isFn X.K (.ref f) = true) (F : CalA X k f sp) (hr : Room k X.A) : OpR X (binaryOp op) (rOwnB C sp) := by
  intro pins s σ H x y v u Q I rx ry h
  obtain ⟨a, b, dx, dy, fs, gs, rfl, rfl, ha, hb, q⟩ := h
  obtain rfl : v = Value.ref a := rx
  obtain rfl : u = Value.ref b := ry
  obtain ⟨od, J⟩ := ins_look I ha
  obtain ⟨od', J'⟩ := ins_look I hb
  obtain ⟨m, hF⟩ := I.fr
  refine PySem.W.binop_K hF I.ok.mod.kin J J'.type hc hs hf ?_
  refine wpAny_mono (run_at F hr I (us := [.ref a, .ref b]) (vs := [.ref a, .ref b]) (.cons rfl (.cons rfl .nil)) q) (fun w s' z => ?_) fun _ _ z => z
  obtain ⟨z', H', I', rz, qz⟩ := z
  exact cmp_back rz ⟨z', H', I', rz, qz⟩
/-- x * n, n an int -/
def rOwnI (C : Addr) (sp : Sp) : R2 := fun x y H Q => ∃ a n dx fs, x = .ref a ∧ y = .int n ∧ H a = some (.ins C dx fs) ∧ sp [x, y] H Q C8.E0
theorem op_ownI {op : Operator} {fo ro rc : Option Value} (hc : PySem.W.selfFirst X.K C = true) (hs : PySem.W.findIn X.K (.ref C) (PySem.dunder op.info.2) = some (some (.ref f))) (hf : PySem.W.isFn X.K (.ref f) = true) (hr' : PySem.W.findIn X.K (.ref C) (dunderR op.info.2) = some rc)
    (hp : rc = none ∨ ∃ g : Addr, rc = some (.ref g)) (h1 : PySem.W.findIn X.K (.type "int") (PySem.dunder op.info.2) = some fo) (h2 : PySem.W.findIn X.K (.type "int") (dunderR op.info.2) = some ro) (hsub : PySem.W.subIn X.K (.type "int") (.ref C) = some false)
    (F : CalA X k f sp) (hr : Room k X.A) : OpR X (binaryOp op) (rOwnI C sp) := by
  intro pins s σ H x y v u Q I rx ry h
  obtain ⟨a, n, dx, fs, rfl, rfl, ha, q⟩ := h
  obtain rfl : v = Value.ref a := rx
  obtain ⟨t, rfl⟩ := id ry
  obtain ⟨od, J⟩ := ins_look I ha
  obtain ⟨m, hF⟩ := I.fr
  refine PySem.W.ksp_binT (T := "int") hF I.ok.mod.kin J rfl hc hs hf hr' hp h1 h2 hsub ?_
  refine wpAny_mono (run_at F hr I (us := [.ref a, .int n t]) (vs := [.ref a, .int n]) (.cons rfl (.cons ry .nil)) q) (fun w s' z => ?_) fun _ _ z => z
  obtain ⟨z', H', I', rz, qz⟩ := z
  exact cmp_back rz ⟨z', H', I', rz, qz⟩
/-- -x -/
def rOwn1 (C : Addr) (sp : Sp) : V → Hp → VK → Prop := fun x H Q => ∃ a dx fs, x = .ref a ∧ H a = some (.ins C dx fs) ∧ sp [x] H Q C8.E0
theorem un_ownNeg (hs : PySem.W.findIn X.K (.ref C) "__neg__" = some (some (.ref f))) (hf : PySem.W.isFn X.K (.ref f) = true) (F : CalA X k f sp) (hr : Room k X.A) : UnR X (unaryOp .USub) (rOwn1 C sp) := by
  intro pins s σ H x v Q I rx h
  obtain ⟨a, dx, fs, rfl, ha, q⟩ := h
  obtain rfl : v = Value.ref a := rx
  obtain ⟨od, J⟩ := ins_look I ha
  obtain ⟨m, hF⟩ := I.fr
  exact PySem.W.ksp_neg hF I.ok.mod.kin J hs hf (run_at F hr I (us := [.ref a]) (vs := [.ref a]) (.cons rfl .nil) q)
/-- the truth of x by its __bool__ -/
def rOwnT (C : Addr) (sp : Sp) : V → Hp → (Bool → Hp → Prop) → Prop := fun x H Q => ∃ a dx fs, x = .ref a ∧ H a = some (.ins C dx fs) ∧ sp [x] H (fun v H' => ∃ b, v = .bl b ∧ Q b H') C8.E0
theorem tru_own (hs : PySem.W.findIn X.K (.ref C) "__bool__" = some (some (.ref f))) (hf : PySem.W.isFn X.K (.ref f) = true) (F : CalA X k f sp) (hr : Room k X.A) : TruR X (rOwnT C sp) := by
  intro pins s σ H x v Q I rx h
  obtain ⟨a, dx, fs, rfl, ha, q⟩ := h
  obtain rfl : v = Value.ref a := rx
  obtain ⟨od, J⟩ := ins_look I ha
  obtain ⟨m, hF⟩ := I.fr
  refine PySem.W.truthy_K hF I.ok.mod.kin J hs hf (wpAny_mono (run_at F hr I (us := [.ref a]) (vs := [.ref a]) (.cons rfl .nil) q) (fun w s' z => ?_) fun _ _ z => z)
  obtain ⟨z', H', I', rz, b, rfl, qz⟩ := z
  obtain rfl : w = Value.bool b := rz
  exact ⟨H', I', qz⟩
theorem pt_own {a : Expr} {ta : TE} (hs : PySem.W.findIn X.K (.ref C) "__bool__" = some (some (.ref f))) (hf : PySem.W.isFn X.K (.ref f) = true) (F : CalA X k f sp) (hr : Room k X.A) (ha : PE X a ta) (he : ∀ whole, isTrue a X.env whole = (do let v ← whole; standAt a.pos; holding [v] (truthy v))) :
    PT X a (fun σ H Q => ta σ H fun x H' => rOwnT C sp x H' Q) := by
  refine ⟨fun pins s σ H Q I h => ?_⟩
  exact isTrue_plain (thn (ha.run pins s σ H _ I h) fun v s1 ⟨x, H1, I1, r1, q1⟩ => tru_own hs hf F hr pins s1 σ H1 x v Q I1 r1 q1) (he _)
/-- x[y], x of the class at C -/
def rOwnG (C : Addr) (sp : Sp) : R2 := fun x y H Q => ∃ a dx fs, x = .ref a ∧ H a = some (.ins C dx fs) ∧ sp [x, y] H Q C8.E0
theorem pe_ownG {a b : Expr} {ta tb : TE} {pos : Pos} (hs : PySem.W.findIn X.K (.ref C) "__getitem__" = some (some (.ref f))) (hf : PySem.W.isFn X.K (.ref f) = true) (hfn : PySem.W.fnIn X.K f = true) (F : CalA X k f sp) (hr : Room (k + 1) X.A) (ha : PE X a ta) (hb : PE X b tb)
    (hsl : ∀ o i, subscripted b true o i = runValue (.builtin "lifetime.subscript" ⟨[o, i], []⟩) := by intro _ _; with_unfolding_all rfl) : PE X (.Subscript a b pos) (tOp (rOwnG C sp) ta tb) := by
  refine ⟨fun pins s σ H Q I h => ?_⟩
  refine Subscript_ (binT ha hb I h fun v u s2 x y H2 I2 rx ry q => ?_)
  obtain ⟨p, dx, fs, rfl, hp, q⟩ := q
  obtain rfl : v = Value.ref p := rx
  obtain ⟨od, J⟩ := ins_look I2 hp
  obtain ⟨m, hF⟩ := I2.fr
  exact PySem.W.sub_K hF I2.ok.mod.kin J hs hfn hf (run_at1 F hr I2 (us := [.ref p, u]) (vs := [.ref p, y]) (.cons rfl (.cons ry .nil)) q) (hsl _ _)
end
end Crt
end

section
/-! Rules: n * x, x of a class of the text's own. -/
namespace Crt
open PySem PySem.Spec PyProof.Rows L2
theorem int_mul_ins (n : Int) (t : Tok) (x C dx : Addr) : Meets (Builtin.«int.__mul__» ⟨[.int n t, .ref x], []⟩) (fun _ R s => s.heap.get? x = some (PySem.W.instObj C dx) ∧ R (.ok (.ret Value.notImplemented)) s) :=
  .of_wp fun prog w A R s h => by
    obtain ⟨hp, g, d, tk, os⟩ := s
    obtain ⟨hl, h⟩ := h
    wp_walk
    exact ⟨_, rfl, h⟩
section
variable {prog : Program} {w : World} {A : Around} {E : Value → Shared → Prop} {s : Shared} {K : PySem.W.Frag} {x C L f f0 dx : Addr} {h₀ : Heap} {m : Str → Option Value} {od : Option Obj} {n : Int} {t : Tok}
theorem mul_own {Q : Value → Shared → Prop} (X : K.In s.heap) (I : PySem.W.InstAt s.heap x (PySem.W.instObj C dx) C od) (hc : PySem.W.selfFirst K C = true)
    (hs0 : PySem.W.findIn K (.ref C) (PySem.dunder "mul") = some (some (.ref f0))) (hs : PySem.W.findIn K (.ref C) (dunderR "mul") = some (some (.ref f))) (hf : PySem.W.isFn K (.ref f) = true) (hsub : PySem.W.subIn K (.ref C) (.type "int") = some false)
    (h : wpAny (model prog w) A (call (.ref f) [.ref x, .int n t]) (PySem.W.CmpBack Q) E s) : wpAny (model prog w) A (binaryOp .Mult (.int n t) (.ref x)) Q E s := by
  obtain ⟨cd, rest, hcd, hm⟩ := PySem.W.ksp_first hc
  have one := PySem.W.ksp_try X I hs hf h
  have hx : s.heap.get? x = some (PySem.W.instObj C dx) := I.at_
  have hne : (Value.type "int" == Value.ref C) = false := Bool.eq_false_iff.mpr fun q => by cases beq_iff_eq.mp q
  unfold binaryOp
  refine wpAny_holding (wpAny_bind ?_)
  simp only [binaryOp1]
  refine wpAny_bind (wpAny_typeOf (typeIs_int s n t) (wpAny_bind (I.type.here (wpAny_bind (wpAny_of_eq F.fills_int_mul ?_)))))
  simp only [hne, Bool.false_eq_true, if_false]
  refine wpAny_bind ((PySem.W.fills_K X hcd hm hs0).here ?_)
  simp only [Bool.and_self, if_true]
  refine wpAny_bind ((PySem.W.looks_subIn X hsub).here ?_)
  simp only [Bool.false_eq_true, if_false, if_true, Bool.not_false, Bool.and_self]
  refine wpAny_bind (wpAny_of_eq (show numberSlotInPython (.type "int") "mul" = pure false from rfl) ?_)
  simp only [Bool.false_eq_true, if_false, if_true, Bool.not_false, Bool.and_self, pure_bind]
  refine wpAny_bind (wpAny_tryMethod_declines (typeIs_int s n t) F.slot_int_mul (call_meets F.slot_int_mul (typeIs_int s n t) F.entry_int_mul (F.args_int_mul_2 _ _) (int_mul_ins n t x C dx) ⟨hx, rfl, ?_⟩))
  refine wpAny_bind (wpAny_mono one (fun r s' hr' => ?_) fun _ _ e => e)
  obtain ⟨v, rfl, hq⟩ := hr'
  exact wpAny_bind (wpAny_rule (wpAny_pure (wpAny_pure hq)))
end
section
variable {X : Cx} {k : Nat} {C f f0 : Addr} {sp : Sp}
/-- n * x -/
def rOwnR (C : Addr) (sp : Sp) : R2 := fun x y H Q => ∃ a n dx fs, x = .int n ∧ y = .ref a ∧ H a = some (.ins C dx fs) ∧ sp [y, x] H Q C8.E0
theorem op_ownR (hc : PySem.W.selfFirst X.K C = true) (hs0 : PySem.W.findIn X.K (.ref C) (PySem.dunder "mul") = some (some (.ref f0))) (hs : PySem.W.findIn X.K (.ref C) (dunderR "mul") = some (some (.ref f))) (hf : PySem.W.isFn X.K (.ref f) = true)
    (hsub : PySem.W.subIn X.K (.ref C) (.type "int") = some false) (F : CalA X k f sp) (hr : Room k X.A) : OpR X (binaryOp .Mult) (rOwnR C sp) := by
  intro pins s σ H x y v u Q I rx ry h
  obtain ⟨a, n, dx, fs, rfl, rfl, ha, q⟩ := h
  obtain rfl : u = Value.ref a := ry
  obtain ⟨t, rfl⟩ := id rx
  obtain ⟨od, J⟩ := ins_look I ha
  refine mul_own I.kIn J hc hs0 hs hf hsub ?_
  refine wpAny_mono (run_at F hr I (us := [.ref a, .int n t]) (vs := [.ref a, .int n]) (.cons rfl (.cons rx .nil)) q) (fun w s' z => ?_) fun _ _ z => z
  obtain ⟨z', H', I', rz, qz⟩ := z
  exact cmp_back rz ⟨z', H', I', rz, qz⟩
end
end Crt
end

section
/-! Sets: made of a list or of a dict, gathered, sorted. -/
namespace Crt
open PySem PySem.Spec PyProof.Rows L2

/-- the set at a, by its members' values -/
def SetV (w : World) (h : Heap) (a : Addr) (ms : List Value) : Prop := ∃ es ep t, SetAt h a es ep t ∧ t.fits es.size = true ∧ es.size < scanBound ∧ Ris t.place.toList ∧ (w.params.followText "set-order" = true ∨ t.led = true) ∧ (es.toList.map (·.2)).Perm ms
theorem SetV.at {w : World} {h h' : Heap} {a : Addr} {ms : List Value} (S : SetV w h a ms) (k : ∀ o, h.get? a = some o → h'.get? a = some o) : SetV w h' a ms := by
  obtain ⟨es, ep, t, x, r⟩ := S
  exact ⟨es, ep, t, x.at k, r⟩
/-- a set just made -/
abbrev newSetO (w : World) : Obj := { cls := .type "set", dict := none, data := .set #[] 0 (.fresh 0 0 (!w.params.followText "set-order")) }
theorem led_new (w : World) : w.params.followText "set-order" = true ∨ (!w.params.followText "set-order") = true := by
  cases w.params.followText "set-order" with
  | true => exact .inl rfl
  | false => exact .inr rfl
section
variable {P : Program} {w : World} {A : Around} {E : Value → Shared → Prop} {s : Shared}
set_option maxHeartbeats 3200000 in
/-- set(x): a new set, brought up to date by x -/
theorem set_from {x : Addr} {Z : Shared → Prop} {Q : Value → Shared → Prop} (hZ : ∀ s2, Z s2 → Q (.ref s.heap.objs.size) s2)
    (hup : wpAny (model P w) A.in1.in1 (Builtin.Frozenset.updateFrom "set.__init__" s.heap.objs.size (.ref x)) (fun _ s2 => Z s2) E { s with heap := s.heap.push (newSetO w) }) : wpAny (model P w) A (call (.type "set") [.ref x]) Q E s := by
  obtain ⟨c, tl, hmro⟩ := F.called_set.mro
  have k1 := F.called_set.made
  have k2 := F.called_set.sub
  refine wpAny_call (codeAny_of_tree ?_)
  show wpAny _ _ (callAny (.type "set") _) _ _ _
  refine wpAny_pure ⟨Code.quiet_builtin _ (by decide +kernel), codeAny_builtin F.entry_type_call ?_⟩
  rw [Around.under_plain (weight_type_call_type "set" [.ref x] []) rfl]
  have k3 := F.called_set.notType
  have k4 := F.called_set.canCreate
  have k5 := F.typeCall_set_1 (.ref x)
  repeat (any_goals (first | assumption | wp_step))
  refine codeAny_mono (code_set_led1 (.ref x) (E := E) (Q₁ := fun ob s1 => ob = .ref s.heap.objs.size ∧ s1 = { s with heap := s.heap.push (newSetO w) }) ⟨rfl, rfl⟩) fun r s1 hr => ?_
  cases r with
  | error e => exact hr
  | ok fl =>
    cases fl with
    | ret ob =>
      obtain ⟨rfl, rfl⟩ := hr
      have hT : Shared.TypeIs { s with heap := s.heap.push (newSetO w) } (.ref s.heap.objs.size) "set" := ⟨_, Heap.get?_push_size _ rfl, rfl⟩
      have hS : (s.heap.push (newSetO w)).get? s.heap.objs.size = some (newSetO w) := Heap.get?_push_size _ rfl
      have k6 := F.called_set.init.lookup
      have k7 := F.called_set.init.bind (.ref s.heap.objs.size)
      repeat (any_goals (first | assumption | wp_step))
      refine codeAny_mono (codeAny_call_builtin (R := wants (fun r s2 => r = .none ∧ Z s2) E) F.called_set.init.plain F.entry_set_init (check_set_init_1 hT ?_)) fun r2 s2 hr2 => ?_
      · unfold Builtin.«set.__init__» noKeywords
        generalize hU : Builtin.Frozenset.updateFrom = U at hup ⊢
        wp_walk
        refine wpAny_mono hup (fun _ s2 hz => ?_) fun _ _ z => z
        first | exact ⟨rfl, hz⟩ | exact wpAny_pure ⟨rfl, hz⟩ | (show wpAny _ _ (ret Value.none) _ _ _; exact wpAny_pure ⟨rfl, hz⟩)
      · cases r2 with
        | error e => exact hr2
        | ok fl2 =>
          cases fl2 with
          | ret r =>
            obtain ⟨rfl, hq⟩ := hr2
            repeat (any_goals (first | assumption | wp_step))
            exact hZ _ hq
          | _ => exact hr2.elim
    | _ => exact hr.elim
end
end Crt
end

section
/-! Sets of texts. -/
namespace Crt
open PySem PySem.Spec PyProof.Rows L2 PySem.Froz
/-- the set of texts at a: l its members, in some order -/
def SSt (P : Program) (w : World) (h : Heap) (a : Addr) (l : List Str) : Prop := ∃ D : SD, h.get? a = some (sObj "set" D) ∧ TxOk P w D l ∧ l.Nodup ∧ Ris D.2.2.place.toList ∧ (w.params.followText "set-order" = true ∨ D.2.2.led = true) ∧ l.length < scanBound
theorem SSt.at {P : Program} {w : World} {h h' : Heap} {a : Addr} {l : List Str} (S : SSt P w h a l) (k : ∀ o, h.get? a = some o → h'.get? a = some o) : SSt P w h' a l := by
  obtain ⟨D, x, r⟩ := S
  exact ⟨D, k _ x, r⟩
theorem addTx_ris (h : Int) (v : Value) (D : SD) (r : Ris D.2.2.place.toList) : Ris (addTx h v D).2.2.place.toList ∧ (addTx h v D).2.2.led = D.2.2.led := by
  obtain ⟨es, ep, t⟩ := D
  have h1 := layNew_ris t es h v r
  have h2 := layNew_led t es h v
  have q : ∀ t2 : SetTable, Ris t2.place.toList → t2.led = t.led → ∀ es1 b, Ris (tailTx ep es1 t2 b).2.2.place.toList ∧ (tailTx ep es1 t2 b).2.2.led = t.led := fun t2 r2 l2 es1 b => by
    unfold tailTx
    by_cases c : (!b && t2.tooFull) = true
    · rw [if_pos c]
      exact ⟨relayAll_ris t2 es1 _, (relayAll_led t2 es1 _).trans l2⟩
    · rw [if_neg c]
      exact ⟨r2, l2⟩
  refine q _ ?_ ?_ _ _
  · split <;> exact h1
  · split <;> exact h2
theorem nodup_cons' {α : Type} {a : α} {l : List α} (h : a ∉ l) (d : l.Nodup) : (a :: l).Nodup := List.nodup_cons.mpr ⟨h, d⟩
theorem perm_len {α : Type} [DecidableEq α] : ∀ (l xs : List α), l.Nodup → (∀ k ∈ l, k ∈ xs) → xs.length = l.length → l.Perm xs
  | [], xs, _, _, h => by rw [List.eq_nil_of_length_eq_zero h]
  | a :: l, xs, d, m, h => by
    obtain ⟨d1, d2⟩ := List.nodup_cons.mp d
    have ha : a ∈ xs := m a List.mem_cons_self
    have p := List.perm_cons_erase ha
    refine ((perm_len l (xs.erase a) d2 (fun k hk => ?_) ?_).cons a).trans p.symm
    · exact (List.mem_erase_of_ne fun e : k = a => d1 (e ▸ hk)).mpr (m k (List.mem_cons_of_mem _ hk))
    · have := p.length_eq
      rw [List.length_cons] at this h
      omega
section
variable {P : Program} {w : World} {A : Around} {E : Value → Shared → Prop} {s : Shared} {a : Addr} {l : List Str}
theorem s_add {k : Str} {u : Tok} {Q : Bool → Shared → Prop} (S : SSt P w s.heap a l) (hb : l.length + 1 < scanBound)
    (hQ : ∀ b h' l', Heap.SameBut a s.heap h' → SSt P w h' a l' → (∀ j, j ∈ l' ↔ j ∈ l ∨ j = k) → l'.length ≤ l.length + 1 → Q b { s with heap := h' }) : wpAny (model P w) A (setAddHashed a (.str k u) (hashStr w k)) Q E s := by
  obtain ⟨D, ho, F, nd, hr, hl, hz⟩ := id S
  by_cases hk : k ∈ l
  · obtain ⟨es, ep, t⟩ := D
    have hd : (sObj "set" (es, ep, t)).data = .set es ep t := rfl
    have hel : ElemsOf (strKind P w) es.toList := F.el
    have hsz : es.size = l.length := F.sz
    have hf : t.fits es.size = true := F.fit
    have hkey : (strKind P w).is k (.str k u) = true := is_str k u
    unfold setAddHashed setAddHashedIn
    refine wpAny_holding (wpAny_bind (wpAny_setState_of ho hd hf ?_))
    dsimp only
    rw [byScan_of rfl (by omega) hel]
    simp only [↓reduceIte]
    unfold setAddByScan
    refine wpAny_bind (wpAny_bind (wpAny_rule (wpAny_bind (wpAny_setScan_of (knd := strKind P w) (k := k) hkey ho hd hf hel ?_))))
    cases hq : List.findIdx? (fun e => (strKind P w).is k e.2) es.toList with
    | none =>
      exfalso
      obtain ⟨e, he, hi⟩ := (F.mem k).mp hk
      have := List.findIdx?_eq_none_iff.mp hq e he
      rw [hi] at this
      cases this
    | some j =>
      dsimp only
      exact wpAny_pure (wpAny_pure (hQ false s.heap l (Heap.SameBut.refl a s.heap) S (fun i => ⟨.inl, fun q => q.elim id fun e => e ▸ hk⟩) (Nat.le_succ _)))
  · refine add_x ho F hk hb ?_
    obtain ⟨r2, l2⟩ := addTx_ris (hashStr w k) (.str k u) D hr
    refine hQ true _ (k :: l) (Heap.SameBut.update ..) ⟨_, Heap.get?_update_self (fun _ => _) ho (by obtain ⟨es, ep, t⟩ := D; rfl), add_ok u F, nodup_cons' hk nd, r2, hl.imp id fun z => l2.trans z, hb⟩ (fun i => ?_) (Nat.le_refl _)
    rw [List.mem_cons]
    exact Or.comm
theorem SSt.new (w : World) (h : Heap) : SSt P w (h.push (newSetO w)) h.objs.size [] := ⟨(#[], 0, .fresh 0 0 (!w.params.followText "set-order")), Heap.get?_push_size _ rfl, TxOk.nil (by rfl), List.nodup_nil, List.Pairwise.nil, led_new w, by show 0 < scanBound; decide⟩
/-- its members' values -/
theorem SSt.vals (S : SSt P w s.heap a l) : ∃ ms xs, SetV w s.heap a ms ∧ StrsAre ms xs ∧ xs.Perm l := by
  obtain ⟨D, ho, F, nd, hr, hl, hz⟩ := id S
  obtain ⟨es, ep, t⟩ := D
  have hsz : es.size = l.length := F.sz
  have el : ElemsOf (strKind P w) es.toList := F.el
  have key : ∀ r : List (Int × Value), (∀ e ∈ r, e ∈ es.toList) → ∃ xs, StrsAre (r.map (·.2)) xs ∧ ∀ k, (∃ e ∈ r, (strKind P w).is k e.2 = true) ↔ k ∈ xs := by
    intro r
    induction r with
    | nil => exact fun _ => ⟨[], .nil, fun k => by simp⟩
    | cons e r ih =>
      intro h
      obtain ⟨xs, h1, h2⟩ := ih fun e he => h e (List.mem_cons_of_mem _ he)
      obtain ⟨⟨k, hk, _⟩, _⟩ := el e (h e List.mem_cons_self)
      have hs : ∃ u, e.2 = .str k u := Value.isStrOf_shape hk
      obtain ⟨u, hu⟩ := hs
      refine ⟨k :: xs, by rw [List.map_cons, hu]; exact .cons k u h1, fun j => ?_⟩
      rw [List.mem_cons, ← h2 j]
      constructor
      · rintro ⟨e', he', q⟩
        rcases List.mem_cons.mp he' with z | z
        · rw [z] at q
          exact .inl ((strKind P w).inj e.2 j k q hk)
        · exact .inr ⟨e', z, q⟩
      · rintro (z | ⟨e', he', q⟩)
        · exact ⟨e, List.mem_cons_self, by rw [z]; exact hk⟩
        · exact ⟨e', List.mem_cons_of_mem _ he', q⟩
  obtain ⟨xs, h1, h2⟩ := key es.toList fun _ h => h
  refine ⟨es.toList.map (·.2), xs, ⟨es, ep, t, ⟨_, ho, rfl, rfl⟩, F.fit, by omega, hr, hl, List.Perm.refl _⟩, h1, ?_⟩
  have hlen : xs.length = l.length := by
    rw [← h1.length, List.length_map, Array.length_toList, hsz]
  have hm : ∀ k, k ∈ xs ↔ k ∈ l := fun k => (h2 k).symm.trans (F.mem k).symm
  exact (perm_len l xs nd (fun k hk => (hm k).mpr hk) hlen).symm
end
end Crt
end

section
/-! set(x) of a list of texts, of a dict. -/
namespace Crt
open PySem PySem.Spec PyProof.Rows L2 PySem.Froz
/-- what the first i items have given -/
def GotS (xs : List Str) (i : Nat) (l : List Str) : Prop := (∀ k, k ∈ l ↔ k ∈ xs.take i) ∧ l.length ≤ i
theorem strs_get : ∀ {us : List Value} {xs : List Str} {i : Nat} {v : Value}, StrsAre us xs → us[i]? = some v → ∃ k, xs[i]? = some k ∧ ∃ t, v = .str k t
  | _, _, _, _, .nil, h => by simp at h
  | _, _, 0, _, .cons y t _, h => by
    simp at h
    exact ⟨y, rfl, t, h.symm⟩
  | _, _, i + 1, _, .cons _ _ r, h => strs_get (i := i) r (by simpa using h)
section
variable {P : Program} {w : World} {A : Around} {E : Value → Shared → Prop} {s : Shared}
theorem set_loop {I : Addr} {fp wr : List Addr} {G : Array GenState → Array GenState → Prop} {n : Nat} {Pv : Nat → Value → Prop} {St : Nat → Shared → Prop} {R : Result → Shared → Prop}
    (W : WalksS P w A.in1 I fp wr G n Pv St) (S : Addr) (hSf : S ∉ fp) (xs : List Str) (hn : n = xs.length) (hb : xs.length + 1 < scanBound) (hval : ∀ i v, Pv i v → ∃ k t, xs[i]? = some k ∧ v = .str k t) :
    ∀ (m i : Nat) (s : Shared), n - i = m → i ≤ n → St i s → (∃ l, SSt P w s.heap S l ∧ GotS xs i l) →
      (∀ s' l, Moved (S :: wr) G s s' → SSt P w s'.heap S l → GotS xs n l → R (.ok (.ret .none)) s') → codeAny (model P w) A (.builtin "set.update.loop" ⟨[.ref S, .ref I], []⟩) R s := by
  have hSw : S ∉ wr := fun h => hSf (W.sub _ h)
  have sub : ∀ b ∈ wr, b ∈ S :: wr := fun b h => List.mem_cons_of_mem _ h
  intro m
  induction m with
  | zero =>
    intro i s hm hi hst ⟨l, hS, g⟩ hR
    obtain rfl : i = n := by omega
    refine codeAny_builtin F.entry_set_update_loop ?_
    rw [Around.under_plainId F.plain_set_update_loop _]
    show wpAny _ A.in1 (pyNext (.ref I) >>= _) _ _ s
    refine wpAny_bind (W.done s _ _ hst fun s' mv => ?_)
    show wpAny _ A.in1 (ret Value.none) _ _ s'
    exact wpAny_pure (hR s' l (mv.mono sub) (hS.at fun o e => mv.heap S o hSw e) g)
  | succ m ih =>
    intro i s hm hi hst ⟨l, hS, g⟩ hR
    have hlt : i < n := by omega
    refine codeAny_builtin F.entry_set_update_loop ?_
    rw [Around.under_plainId F.plain_set_update_loop _]
    show wpAny _ A.in1 (pyNext (.ref I) >>= _) _ _ s
    refine wpAny_bind (W.item i s _ _ hlt hst fun v s' hv hst' mv => ?_)
    obtain ⟨k, t, hk, rfl⟩ := hval i v hv
    have hS' : SSt P w s'.heap S l := hS.at fun o e => mv.heap S o hSw e
    show wpAny _ A.in1 (holding [Value.str k t] (setAdd S (.str k t)) >>= _) _ _ s'
    refine wpAny_bind (wpAny_holding ?_)
    unfold setAdd
    refine wpAny_holding (wpAny_bind ((strKind P w).pyHash (k := k) (is_str k t) ?_))
    have gl := g.2
    refine s_add (s := { s' with toks := s'.toks + 1 }) hS' (by omega) fun b h2 l2 sb hS2 m2 len2 => ?_
    refine wpAny_pure ⟨plainId_quiet F.plain_set_update_loop _, ih (i + 1) _ (by omega) hlt (W.frame _ s' _ _ hst' (Nat.le_succ _) fun c hc o e => ?_) ⟨l2, hS2, fun j => ?_, by omega⟩ fun s3 l3 mv3 hS3 g3 => ?_⟩
    · exact (sb.2 c fun z : c = S => hSf (z ▸ hc)).trans e
    · rw [take_snoc hk, List.mem_append, List.mem_singleton, m2 j, g.1 j]
    · refine hR s3 l3 (Moved.trans W.gtrans ((mv.mono sub).then_heap (Nat.le_succ _) fun c o hc e => ?_) mv3) hS3 g3
      exact (sb.2 c fun z : c = S => hc (by rw [z]; exact List.mem_cons_self)).trans e
/-- set(l), l a list of texts -/
theorem set_list {l : Addr} {items : Array Value} {xs : List Str} {Q : Value → Shared → Prop} (hh : A.handled = none) (hl : s.heap.IsList l items) (hit : StrsAre items.toList xs) (hb : xs.length + 1 < scanBound)
    (h : ∀ (h' : Heap) (tk : Nat) m, SSt P w h' s.heap.objs.size m → (∀ k, k ∈ m ↔ k ∈ xs) → (∀ b o, s.heap.get? b = some o → h'.get? b = some o) → Q (.ref s.heap.objs.size) { s with heap := h', toks := tk }) :
    wpAny (model P w) A (call (.type "set") [.ref l]) Q E s := by
  have hisz : items.size = xs.length := by rw [← hit.length, Array.length_toList]
  refine set_from (Z := fun s2 => ∃ h' tk m, s2 = { s with heap := h', toks := tk } ∧ SSt P w h' s.heap.objs.size m ∧ (∀ k, k ∈ m ↔ k ∈ xs) ∧ ∀ b o, s.heap.get? b = some o → h'.get? b = some o) (fun s2 z => ?_) ?_
  · obtain ⟨h', tk, m, rfl, z1, z2, z3⟩ := z
    exact h h' tk m z1 z2 z3
  have hl1 : (s.heap.push (newSetO w)).IsList l items := hl.push _
  have hlS : l < s.heap.objs.size := by
    obtain ⟨o, ho, _⟩ := hl
    exact Heap.lt_size ho
  have hT : Shared.TypeIs { s with heap := s.heap.push (newSetO w) } (.ref l) "list" := by
    obtain ⟨o, ho, hc, _⟩ := hl1
    exact ⟨o, ho, hc⟩
  have hsz1 : (s.heap.push (newSetO w)).objs.size = s.heap.objs.size + 1 := Heap.size_push ..
  unfold Builtin.Frozenset.updateFrom Builtin.Frozenset.isAnySet
  refine wpAny_bind (wpAny_bind ?_)
  refine wpAny_isInstance hT F.sub_list_set ?_
  simp only [Bool.false_eq_true, if_false]
  refine wpAny_isInstance hT F.sub_list_frozenset ?_
  simp only [Bool.false_eq_true, if_false]
  refine wpAny_bind (wpAny_typeOf hT ?_)
  rw [if_neg (by decide)]
  refine wpAny_bind (wpAny_pyIter_list hl1 ?_)
  refine wpAny_bind (wpAny_runValue ?_)
  have hneI : l ≠ (s.heap.push (newSetO w)).objs.size := Nat.ne_of_lt (by rw [hsz1]; exact Nat.lt_succ_of_lt hlS)
  refine set_loop ((Walks.list (A := A.in1.in1.in1) (by simp [hh]) _ l hneI items).toS) s.heap.objs.size (fun hm => ?_) xs hisz hb (fun i v hv => ?_) (items.size - 0) 0 _ (by omega) (Nat.zero_le _)
    ⟨⟨_, Heap.get?_push_size _ rfl, rfl, rfl⟩, hl1.push _⟩ ⟨[], (SSt.new w s.heap).at fun o e => Heap.get?_push_of_some _ e, fun k => by simp, Nat.le_refl _⟩ fun s' m mv hS g => ?_
  · rcases List.mem_cons.mp hm with e | e
    · exact absurd (e.trans hsz1) (Nat.ne_of_lt (Nat.lt_succ_self _))
    · exact absurd (List.mem_singleton.mp e) (Nat.ne_of_gt hlS)
  · have q : items.toList[i]? = some v := by rw [Array.getElem?_toList]; exact hv
    obtain ⟨k, hk, t, rfl⟩ := strs_get hit q
    exact ⟨k, t, hk, rfl⟩
  · obtain ⟨h', g2, d', tk', os'⟩ := s'
    have e1 : g2 = s.gens := mv.gens
    have e2 : d' = s.drawn := mv.drawn
    have e3 : os' = s.os := mv.os
    subst e1 e2 e3
    refine wpAny_pure ⟨h', tk', m, rfl, hS, fun k => by rw [g.1 k, hisz, List.take_length], fun b o e => ?_⟩
    have hb := Heap.lt_size e
    refine mv.heap b o (fun hm => ?_) (Heap.get?_push_of_some _ (Heap.get?_push_of_some _ e))
    rcases List.mem_cons.mp hm with z | z
    · exact absurd z (Nat.ne_of_lt hb)
    · exact absurd ((List.mem_singleton.mp z).trans hsz1) (Nat.ne_of_lt (Nat.lt_succ_of_lt hb))
end
end Crt
end

section
/-! Sets: room for the items of a dict; the search for a free slot among tuples. -/
namespace Crt
open PySem PySem.Spec PyProof.Rows L2 PySem.Froz
theorem live_none : ∀ (l : List Nat) (m : Nat), (l.filterMap fun j => ((Array.replicate (m + 1) (none : Option Nat)).getD j none).map (j, ·)) = []
  | [], _ => rfl
  | j :: l, m => by
    have e : (Array.replicate (m + 1) (none : Option Nat)).getD j none = none := by
      rw [Array.getD_eq_getD_getElem?]
      cases q : (Array.replicate (m + 1) (none : Option Nat))[j]? with
      | none => rfl
      | some v =>
        obtain ⟨h, z⟩ := Array.getElem?_eq_some_iff.mp q
        rw [Array.getElem_replicate] at z
        rw [← z] <;> rfl
    rw [List.filterMap_cons_none (by rw [e] <;> rfl)]
    exact live_none l m
theorem relaid_nil (t : SetTable) (wanted : Nat) : t.relaid #[] wanted = some ({ mask := SetTable.sizeAbove wanted - 1, place := #[], dummies := #[], finger := t.finger, led := t.led, moves := t.movedTo (SetTable.sizeAbove wanted - 1), plain := t.plain }, #[]) := by
  unfold SetTable.relaid SetTable.laid
  have e : SetTable.layClean (SetTable.sizeAbove wanted - 1) #[] = some (Array.replicate (SetTable.sizeAbove wanted - 1 + 1) none) := rfl
  rw [e]
  show some _ = some _
  simp only [live_none, List.map_nil, List.toArray]
/-- an empty table with room for n -/
structure Fresh (w : World) (n : Nat) (t : SetTable) : Prop where
  pl : t.place = #[]
  dm : t.dummies = #[]
  msk : t.mask = 7 ∨ t.mask = 15 ∨ t.mask = 31
  rm : n * 5 < t.mask * 3
  ld : w.params.followText "set-order" = true ∨ t.led = true
section
variable {P : Program} {w : World} {A : Around} {E : Value → Shared → Prop} {s : Shared} {a : Addr}
theorem room_new {n : Nat} {Q : Unit → Shared → Prop} (ho : s.heap.get? a = some (newSetO w)) (hn : n ≤ 15)
    (hQ : ∀ h' ep t, Heap.SameBut a s.heap h' → h'.get? a = some (sObj "set" (#[], ep, t)) → Fresh w n t → Q () { s with heap := h' }) : wpAny (model P w) A (setRoomFor a n) Q E s := by
  have hf : (SetTable.fresh 0 0 (!w.params.followText "set-order")).fits (#[] : Array (Int × Value)).size = true := rfl
  unfold setRoomFor
  refine wpAny_bind (wpAny_setState_of ho rfl hf ?_)
  dsimp only
  by_cases h5 : n < 5
  · have e : (SetTable.fresh 0 0 (!w.params.followText "set-order")).roomFor n = none := by
      unfold SetTable.roomFor
      rw [if_neg]
      show ¬ ((0 + 0 + n) * 5 ≥ 7 * 3)
      omega
    rw [e]
    exact wpAny_pure (hQ s.heap 0 _ (Heap.SameBut.refl a s.heap) ho ⟨rfl, rfl, .inl rfl, by show n * 5 < 7 * 3; omega, led_new w⟩)
  · have e : (SetTable.fresh 0 0 (!w.params.followText "set-order")).roomFor n = some (n * 2) := by
      unfold SetTable.roomFor
      rw [if_pos]
      · show some ((0 + n) * 2) = some (n * 2)
        rw [Nat.zero_add]
      · show (0 + 0 + n) * 5 ≥ 7 * 3
        omega
    rw [e]
    dsimp only
    have hm : (SetTable.sizeAbove (n * 2) = 16 ∧ n ≤ 7) ∨ (SetTable.sizeAbove (n * 2) = 32 ∧ n ≤ 15) := by
      have key : ∀ m, m ≤ 15 → 5 ≤ m → (SetTable.sizeAbove (m * 2) = 16 ∧ m ≤ 7) ∨ (SetTable.sizeAbove (m * 2) = 32 ∧ m ≤ 15) := by decide +kernel
      exact key n hn (by omega)
    rw [setRelay_eq]
    refine wpAny_bind (wpAny_setState_of ho rfl hf ?_)
    dsimp only
    refine wp_if_neg (by rw [sizeLine_eq]; omega) ?_
    try refine wpAny_bind (wpAny_pure ?_)
    have e0 : ((#[] : Array (Int × Value)).map (·.1)) = #[] := by simp
    rw [e0, relaid_nil]
    dsimp only
    refine wpAny_bind ?_
    refine wp_if_neg (by simp) ?_
    try refine wpAny_bind (wpAny_pure ?_)
    refine wpAny_pure ?_
    dsimp only
    refine wpAny_storeSet_of ho rfl ?_ (by simp)
    have e1 : (Array.filterMap (fun (x : Nat) => (#[] : Array (Int × Value))[x]?) #[]) = #[] := by simp
    rw [e1]
    refine hQ _ 1 _ (Heap.SameBut.update ..) (store_at ho rfl) ⟨rfl, rfl, ?_, ?_, led_new w⟩
    · show SetTable.sizeAbove (n * 2) - 1 = 7 ∨ SetTable.sizeAbove (n * 2) - 1 = 15 ∨ SetTable.sizeAbove (n * 2) - 1 = 31
      omega
    · show n * 5 < (SetTable.sizeAbove (n * 2) - 1) * 3
      omega
end
/-! ### the ways through tables of 8, 16 and 32 slots -/
def MaskS (m : Nat) : Prop := m = 7 ∨ m = 15 ∨ m = 31
theorem lcg15 : ((List.range 16).all fun i => (List.range 16).all fun j => (List.range 16).any fun k => lcgI 15 i k == j) = true := by decide +kernel
theorem lcgI_meets {m i j : Nat} (hm : MaskS m) (hi : i ≤ m) (hj : j ≤ m) : ∃ k, k ≤ m ∧ lcgI m i k = j := by
  rcases hm with e | e | e
  · exact lcgI_all (.inl e) hi hj
  · subst e
    have h := List.all_eq_true.mp (List.all_eq_true.mp lcg15 i (List.mem_range.mpr (by omega))) j (List.mem_range.mpr (by omega))
    obtain ⟨k, hk, q⟩ := List.any_eq_true.mp h
    exact ⟨k, Nat.le_of_lt_succ (List.mem_range.mp hk), beq_iff_eq.mp q⟩
  · exact lcgI_all (.inr (.inl e)) hi hj
theorem way_meets {m : Nat} (hm : MaskS m) (h : Int) {j : Nat} (hj : j ≤ m) : ∃ k, k < 10 * SetTable.turns m ∧ way m h k = j := by
  obtain ⟨n, hn, e⟩ := lcgI_meets hm (runI_le m (SetTable.bits h) 12) hj
  obtain ⟨k, hk, e2⟩ := run_nth m (SetTable.bits h) (12 + n)
  refine ⟨k, by unfold SetTable.turns; omega, ?_⟩
  show (nth m (runAt m (SetTable.bits h % (m + 1)) (SetTable.bits h)) k).j = j
  rw [e2, runI_tail (bits_lt h)]
  exact e
/-- a table of n items, none taken away, with a slot left -/
structure Tab (t : SetTable) (n : Nat) : Prop where
  ris : Ris t.place.toList
  dm : t.dummies = #[]
  sz : t.place.size = n
  mok : MaskS t.mask
  room : n ≤ t.mask
theorem Tab.first {t : SetTable} {n : Nat} (T : Tab t n) (h : Int) : ∃ K, K < 10 * SetTable.turns t.mask ∧ way t.mask h K ∉ t.place.toList ∧ ∀ k, k < K → way t.mask h k ∈ t.place.toList := by
  obtain ⟨j, hj, hn⟩ := st_missing t.place.toList (t.mask + 1) (by rw [Array.length_toList, T.sz]; have := T.room; omega)
  obtain ⟨k, hk, e⟩ := way_meets T.mok h (Nat.le_of_lt_succ hj)
  obtain ⟨K, h1, h2, h3⟩ := st_least (p := fun k => way t.mask h k ∉ t.place.toList) k (by show way t.mask h k ∉ _; rw [e]; exact hn)
  exact ⟨K, Nat.lt_of_le_of_lt h1 hk, h2, fun k' hk' => Classical.byContradiction fun c => h3 k' hk' c⟩
theorem Tab.fits {t : SetTable} {n : Nat} (T : Tab t n) : t.fits n = true := by
  unfold SetTable.fits SetTable.fill
  rw [T.dm, Bool.and_eq_true, beq_iff_eq, decide_eq_true_eq]
  exact ⟨T.sz, by rw [T.sz]; exact T.room⟩
theorem Tab.put {t : SetTable} {n K : Nat} {h : Int} (T : Tab t n) (hK : way t.mask h K ∉ t.place.toList) (hr : n + 1 ≤ t.mask) : Tab (t.put (way t.mask h K)).1 (n + 1) := by
  have hnp : t.place[SetTable.below t.place (way t.mask h K)]? ≠ some (way t.mask h K) := fun e => hK (List.mem_of_getElem? (by rw [Array.getElem?_toList]; exact e))
  obtain ⟨c1, _, _⟩ := below_cut T.ris (way t.mask h K)
  refine ⟨ris_insert T.ris hnp, put_dm T.dm _, ?_, T.mok, hr⟩
  rw [← Array.length_toList, put_place, len_ins _ (by rw [Array.length_toList]; exact c1), Array.length_toList, T.sz]
end Crt
end

section
/-! Sets of tuples of texts and ints, no two alike. -/
namespace Crt
open PySem PySem.Spec PyProof.Rows L2 PySem.Froz
abbrev TKy (P : Program) (w : World) (h : Heap) (k : List Key) (a : Addr) : Prop := IsTupleKey (mixKind P w) h k a
abbrev tkh (P : Program) (w : World) (k : List Key) : Int := tupleKeyHash (mixKind P w) k
def Plainly (v : Value) : Prop := (∃ i t, v = .int i t) ∨ ∃ x t, v = .str x t
section
variable {P : Program} {w : World} {A : Around} {E : Value → Shared → Prop} {s : Shared}
theorem items_plain {k : List Key} {vs : List Value} (h : ItemsAre (mixKind P w) k vs) : ∀ v ∈ vs, Plainly v := by
  induction h with
  | nil => exact fun v hv => by cases hv
  | @cons k0 v0 ks vs h1 _ ih =>
    intro v hv
    rcases List.mem_cons.mp hv with e | e
    · rcases keyIs_shape h1 with ⟨i, t, q, _⟩ | ⟨x, t, q, _⟩
      · exact .inl ⟨i, t, by first | exact e.trans q | (rw [e]; assumption)⟩
      · exact .inr ⟨x, t, by first | exact e.trans q | (rw [e]; assumption)⟩
    · exact ih v e
theorem stmt_plain (n : Nat) {v : Value} (h : Plainly v) : ofAClassStatement n v = pure false := by
  rcases h with ⟨i, t, rfl⟩ | ⟨x, t, rfl⟩ <;> cases n <;> rfl
theorem byv_plain (n : Nat) {v : Value} (h : Plainly v) : hashByValue n v = pure true ∨ hashByValue n v = pure false := by
  rcases h with ⟨i, t, rfl⟩ | ⟨x, t, rfl⟩
  · exact .inl (by cases n <;> rfl)
  · exact .inr (by cases n <;> rfl)
theorem stmt_tup {k : List Key} {b : Addr} {Q : Bool → Shared → Prop} (hk : TKy P w s.heap k b) (h : Q false s) : wpAny (model P w) A (ofAClassStatement 8 (.ref b)) Q E s := by
  have hT := hk.typeIs
  obtain ⟨o, items, n, ho, _, hd, hi⟩ := hk
  unfold ofAClassStatement
  refine wpAny_bind (wpAny_typeOf hT ?_)
  dsimp only
  have e : (("tuple" : String) == "tuple") = true := by decide
  simp only [e, if_true, Bool.not_true, Bool.false_eq_true, if_false]
  try refine wpAny_bind (wpAny_pure ?_)
  try simp only [Bool.not_true, Bool.false_eq_true, if_false]
  show wpAny _ _ (seqItems? (.ref b) >>= _) _ _ s
  refine wpAny_bind (wpAny_seqItems ho hd (wpAny_bind ?_))
  refine wpAny_forIn_array' _ (fun rest r s' => r.1 = none ∧ s' = s ∧ ∀ v ∈ rest, Plainly v) _ ?_ ?_ _ _ ⟨rfl, rfl, items_plain hi⟩
  · rintro v rest r s' ⟨hr, rfl, q⟩
    rw [stmt_plain _ (q v List.mem_cons_self)]
    refine wpAny_bind (wpAny_pure ?_)
    simp only [Bool.false_eq_true, if_false]
    exact wpAny_pure ⟨rfl, rfl, fun u hu => q u (List.mem_cons_of_mem _ hu)⟩
  · rintro ⟨r1, r2⟩ s' ⟨hr, rfl, _⟩
    simp only at hr
    subst hr
    exact wpAny_pure h
theorem byv_tup {k : List Key} {b : Addr} {Q : Bool → Shared → Prop} (hk : TKy P w s.heap k b) (h : ∀ c, Q c s) : wpAny (model P w) A (hashByValue 8 (.ref b)) Q E s := by
  have hT := hk.typeIs
  obtain ⟨o, items, n, ho, _, hd, hi⟩ := hk
  unfold hashByValue
  refine wpAny_bind (wpAny_specialOf hT F.slot_tuple_hash.lookup ?_)
  show wpAny _ _ (seqItems? (.ref b) >>= _) _ _ s
  refine wpAny_bind (wpAny_seqItems ho hd (wpAny_bind ?_))
  refine wpAny_forIn_array' _ (fun rest r s' => (r.1 = none ∨ r.1 = some false) ∧ s' = s ∧ ∀ v ∈ rest, Plainly v) _ ?_ ?_ _ _ ⟨.inl rfl, rfl, items_plain hi⟩
  · rintro v rest r s' ⟨hr, rfl, q⟩
    rcases byv_plain 7 (q v List.mem_cons_self) with e | e
    · rw [e]
      refine wpAny_bind (wpAny_pure ?_)
      simp only [Bool.not_true, Bool.false_eq_true, if_false]
      exact wpAny_pure ⟨.inl rfl, rfl, fun u hu => q u (List.mem_cons_of_mem _ hu)⟩
    · rw [e]
      refine wpAny_bind (wpAny_pure ?_)
      simp only [Bool.not_false, if_true]
      exact wpAny_pure (wpAny_pure (h false))
  · rintro ⟨r1, r2⟩ s' ⟨hr, rfl, _⟩
    simp only at hr
    rcases hr with e | e <;> subst e <;> exact wpAny_pure (h _)
theorem seen_no {k : List Key} {b : Addr} {Q : Bool → Shared → Prop} (hk : TKy P w s.heap k b) {ys : List Value} (hy : ∀ y ∈ ys, ∃ k' c, y = Value.ref c ∧ TKy P w s.heap k' c) (h : Q false s) :
    wpAny (model P w) A (searchCouldBeSeen (.ref b) ys) Q E s := by
  unfold searchCouldBeSeen
  refine wpAny_bind ?_
  refine wpAny_forIn_list _ (fun rest r s' => r.1 = none ∧ s' = s ∧ ∀ y ∈ rest, ∃ k' c, y = Value.ref c ∧ TKy P w s.heap k' c) _ ?_ ?_ _ _ ⟨rfl, rfl, hy⟩
  · rintro v rest r s' ⟨hr, rfl, q⟩
    obtain ⟨k', c, rfl, hc⟩ := q v List.mem_cons_self
    have more : ∀ y ∈ rest, ∃ k' c, y = Value.ref c ∧ TKy P w s'.heap k' c := fun u hu => q u (List.mem_cons_of_mem _ hu)
    dsimp only
    by_cases hv : (b == c || (carriedByValue (.ref b) && carriedByValue (.ref c))) = true
    · exact wp_if_pos hv (wpAny_pure ⟨rfl, rfl, more⟩)
    · refine wp_if_neg hv (wpAny_bind (wpAny_eqIsQuiet_tuple hk ?_))
      simp only [Bool.not_true, Bool.false_eq_true, if_false]
      refine wpAny_bind (wpAny_eqIsQuiet_tuple hc ?_)
      simp only [Bool.not_true, Bool.false_eq_true, if_false]
      refine wpAny_bind (stmt_tup hk ?_)
      simp only [Bool.false_eq_true, if_false]
      refine wpAny_bind (stmt_tup hc ?_)
      simp only [Bool.false_eq_true, if_false]
      exact wpAny_pure ⟨rfl, rfl, more⟩
  · rintro ⟨r1, r2⟩ s' ⟨hr, rfl, _⟩
    simp only at hr
    subst hr
    exact wpAny_pure h
/-- the set of tuples at a: L their keys and addresses, in any order -/
structure TSt (P : Program) (w : World) (h : Heap) (a : Addr) (L : List (List Key × Addr)) (D : SD) : Prop where
  ob : h.get? a = some (sObj "set" D)
  rows : D.1.toList.Perm (L.map fun p => (tkh P w p.1, Value.ref p.2))
  tab : Tab D.2.2 L.length
  nd : (L.map (·.1)).Nodup
  tup : ∀ p ∈ L, TKy P w h p.1 p.2
  led : w.params.followText "set-order" = true ∨ D.2.2.led = true
  few : L.length < 64
variable {a : Addr} {L : List (List Key × Addr)} {D : SD}
theorem TSt.size (S : TSt P w s.heap a L D) : D.1.size = L.length := by
  rw [← Array.length_toList, S.rows.length_eq, List.length_map]
theorem TSt.fits (S : TSt P w s.heap a L D) : D.2.2.fits D.1.size = true := by rw [S.size]; exact S.tab.fits
theorem TSt.entry (S : TSt P w s.heap a L D) {i : Nat} {e : Int × Value} (h : D.1[i]? = some e) : ∃ p ∈ L, e = (tkh P w p.1, Value.ref p.2) := by
  have m := S.rows.mem_iff.mp (List.mem_of_getElem? (by rw [Array.getElem?_toList]; exact h))
  obtain ⟨p, hp, q⟩ := List.mem_map.mp m
  exact ⟨p, hp, q.symm⟩
theorem odd_mask {t : SetTable} (h : MaskS t.mask) : ¬ t.gaveWay = true := by
  unfold SetTable.gaveWay
  rcases h with e | e | e <;> rw [e] <;> decide
/-- the search for a key that is not there ends at the first free slot of its way -/
theorem search_free {es : Array (Int × Value)} {ep : Nat} {t : SetTable} (S : TSt P w s.heap a L (es, ep, t)) {x : Addr} {k : List Key} (hx : TKy P w s.heap k x) (hu : A.units < cLine) (hnew : k ∉ L.map (·.1)) {K : Nat} (hKf : K < 10 * SetTable.turns t.mask)
    (hK : way t.mask (tkh P w k) K ∉ t.place.toList) (hKb : ∀ c, c < K → way t.mask (tkh P w k) c ∈ t.place.toList) {Q : SetFound → Shared → Prop} (h : Q (.free (way t.mask (tkh P w k) K) false) s) :
    ∀ (f c : Nat) (stand : Option SetTable.Probe), stand.getD (t.probeStart (tkh P w k)) = nth t.mask (runAt t.mask (SetTable.bits (tkh P w k) % (t.mask + 1)) (SetTable.bits (tkh P w k))) c → c ≤ K → K - c < f →
      wpAny (model P w) A (setSearchFrom a (.ref x) (tkh P w k) true f stand) Q E s
  | 0, _, _, _, _, q => absurd q (Nat.not_lt_zero _)
  | f + 1, c, stand, hst, hc, hf => by
    have ho := S.ob
    have fit : t.fits es.size = true := S.fits
    rw [setSearchFrom_succ]
    refine wpAny_bind (wpAny_setState_of ho rfl fit ?_)
    dsimp only
    refine wp_if_neg (odd_mask S.tab.mok) ?_
    try refine wpAny_bind (wpAny_pure ?_)
    generalize hst0 : runAt t.mask (SetTable.bits (tkh P w k) % (t.mask + 1)) (SetTable.bits (tkh P w k)) = p0 at hst
    have hd0 : p0.dummy = none := by rw [← hst0] <;> rfl
    have keyD : ∀ (n : Nat) (p : SetTable.Probe), p.dummy = none → (nth t.mask p n).dummy = none := by
      intro n
      induction n with
      | zero => exact fun p h => h
      | succ n ih =>
        intro p h
        refine ih (adv t.mask p) ?_
        unfold adv
        split <;> exact h
    have stp : ∀ q, nth t.mask (nth t.mask p0 c) q = nth t.mask p0 (c + q) := fun q => (nth_add t.mask c _ q).symm
    have wy : ∀ q, (nth t.mask (nth t.mask p0 c) q).j = way t.mask (tkh P w k) (c + q) := fun q => by rw [stp, ← hst0]
    have spec := go_spec t S.tab.ris S.tab.dm (fun i => (es[i]?.map (·.1)).getD 0) (tkh P w k) (10 * SetTable.turns t.mask) (K - c) _ (keyD c p0 hd0) (by omega)
      (fun q hq => by rw [wy]; exact hKb (c + q) (by omega)) (by rw [wy, show c + (K - c) = K by omega]; exact hK)
    rcases spec with ⟨q, i, hq, hi, _, _, hpr⟩ | ⟨_, hpr⟩
    · have hpr' : t.probe (fun i => (es[i]?.map (·.1)).getD 0) (tkh P w k) (stand.getD (t.probeStart (tkh P w k))) = some (.candidate (way t.mask (tkh P w k) (c + q)) i (nth t.mask p0 (c + (q + 1)))) := by
        rw [hst, ← wy, ← stp]
        exact hpr
      rw [hpr']
      dsimp only
      rw [wy] at hi
      have hil : i < es.size := by
        have h1 : i < t.place.toList.length := (List.getElem?_eq_some_iff.mp hi).1
        have h2 := S.tab.sz
        have h3 := S.size
        rw [Array.length_toList] at h1
        dsimp only at h2 h3
        omega
      have he : es[i]? = some es[i] := Array.getElem?_eq_getElem hil
      obtain ⟨p, hp, ee⟩ := S.entry (i := i) he
      rw [ee] at he
      have hne : ¬ p.1 = k := fun z => hnew (List.mem_map.mpr ⟨p, hp, z⟩)
      have rest : wpAny (model P w) A (searchRest a (.ref x) (tkh P w k) true f es t (way t.mask (tkh P w k) (c + q)) i (nth t.mask p0 (c + (q + 1)))) Q E s := by
        unfold searchRest
        rw [he]
        dsimp only
        refine wpAny_bind (wpAny_holding (wpAny_eqBool_tuple hu (S.tup p hp) hx (wpAny_bind (wpAny_setState_of ho rfl fit ?_))))
        dsimp only
        refine wp_if_neg (by simp [hne]) ?_
        try refine wpAny_bind (wpAny_pure ?_)
        rw [sameMem]
        dsimp only
        have hsl : t.slot (way t.mask (tkh P w k) (c + q)) = .live i := slot_live S.tab.ris hi
        simp only [if_true, hsl, he]
        refine wpAny_bind (wpAny_isSame_ref_self (wpAny_bind (wpAny_pure ?_)))
        simp only [if_true]
        refine wp_if_neg (by simp [hne]) ?_
        exact search_free S hx hu hnew hKf hK hKb h f (c + (q + 1)) _ (by rw [hst0] <;> rfl) (by omega) (by omega)
      by_cases hl : t.led = true
      · refine wp_if_neg (by simp [hl]) ?_
        try refine wpAny_bind (wpAny_pure ?_)
        exact rest
      · refine wp_if_pos (by simp [hl]) (wpAny_bind (seen_no hx (fun y hy => ?_) (wp_if_neg (by decide) ?_)))
        · obtain ⟨e, he1, e2⟩ := List.mem_map.mp hy
          have he2 : e ∈ es ∧ e.1 = tkh P w k := by simpa using he1
          have he3 : e ∈ es.toList := by simpa using he2.1
          obtain ⟨p2, hp2, q2⟩ := List.mem_map.mp (S.rows.mem_iff.mp he3)
          exact ⟨p2.1, p2.2, by rw [← e2, ← q2], S.tup p2 hp2⟩
        · try refine wpAny_bind (wpAny_pure ?_)
          exact rest
    · have hpr' : t.probe (fun i => (es[i]?.map (·.1)).getD 0) (tkh P w k) (stand.getD (t.probeStart (tkh P w k))) = some (.empty (way t.mask (tkh P w k) K) none) := by
        have e2 := wy (K - c)
        rw [show c + (K - c) = K by omega] at e2
        rw [hst, ← e2]
        exact hpr
      rw [hpr']
      exact wpAny_pure h
theorem key_same {h h' : Heap} {k : List Key} {b : Addr} {D : SD} (hb : TKy P w h k b) (ho : h.get? a = some (sObj "set" D)) (hs : Heap.SameBut a h h') : TKy P w h' k b := by
  obtain ⟨o, items, n, ho', hc, hd, hi⟩ := hb
  have hne : b ≠ a := by
    rintro rfl
    obtain rfl : o = sObj "set" D := Option.some.inj (ho'.symm.trans ho)
    exact nomatch hd
  exact ⟨o, items, n, (hs.2 b hne).trans ho', hc, hd, hi⟩
/-- a key that is not there yet is added -/
theorem t_add (S : TSt P w s.heap a L D) {x : Addr} {k : List Key} (hx : TKy P w s.heap k x) (hu : A.units < cLine) (hnew : k ∉ L.map (·.1)) (hr : (L.length + 1) * 5 < D.2.2.mask * 3) (hfew : L.length + 1 < 64) {Q : Bool → Shared → Prop}
    (hQ : ∀ b h' L' D', Heap.SameBut a s.heap h' → TSt P w h' a L' D' → L'.Perm ((k, x) :: L) → D'.2.2.mask = D.2.2.mask → Q b { s with heap := h' }) : wpAny (model P w) A (setAddHashed a (.ref x) (tkh P w k)) Q E s := by
  obtain ⟨es, ep, t⟩ := D
  have ho := S.ob
  have fit : t.fits es.size = true := S.fits
  obtain ⟨K, hKf, hK, hKb⟩ := S.tab.first (tkh P w k)
  dsimp only at hr hKf hK hKb hQ
  have hbig : K < 100000 := by
    have : 10 * SetTable.turns t.mask ≤ 1000 := by
      unfold SetTable.turns
      rcases S.tab.mok with e | e | e <;> dsimp only at e <;> omega
    omega
  have hz := S.size
  dsimp only at hz
  unfold setAddHashed
  refine wpAny_holding ?_
  rw [show (100000 : Nat) = 99999 + 1 from rfl, setAddHashedIn_succ]
  refine wpAny_bind (wpAny_setState_of ho rfl fit ?_)
  dsimp only
  refine wp_if_neg (by simp [byScan, Value.scannable]) ?_
  try refine wpAny_bind (wpAny_pure ?_)
  refine wpAny_bind (m := setSearch a (.ref x) (tkh P w k) true) ?_
  unfold setSearch
  refine search_free S hx hu hnew hKf hK hKb ?_ 100000 0 none rfl (Nat.zero_le _) (by omega)
  dsimp only
  refine wpAny_bind (wpAny_setState_of ho rfl fit ?_)
  dsimp only
  have T1 : Tab (t.put (way t.mask (tkh P w k) K)).1 (L.length + 1) := S.tab.put hK (by dsimp only; omega)
  have pm : (SetTable.insertAt es (t.put (way t.mask (tkh P w k) K)).2 (tkh P w k, Value.ref x)).toList.Perm (((k, x) :: L).map fun p => (tkh P w p.1, Value.ref p.2)) := by
    rw [SetTable.toList_insertAt]
    exact (put_perm es.toList _ _).trans (S.rows.cons _)
  have fin : ∀ (t1 : SetTable) (p : Nat), Tab t1 (L.length + 1) → t1.mask = t.mask → t1.led = t.led → (SetTable.insertAt es p (tkh P w k, Value.ref x)).toList.Perm (((k, x) :: L).map fun p => (tkh P w p.1, Value.ref p.2)) →
      wpAny (model P w) A (do
        storeSet a (SetTable.insertAt es p (tkh P w k, Value.ref x)) t1
        if !false && t1.tooFull then setRelay a (SetTable.grown (es.size + 1))
        return true) Q E s := fun t1 p T1 m1 l1 pm => by
    have hes : (SetTable.insertAt es p (tkh P w k, Value.ref x)).size = L.length + 1 := by
      rw [← Array.length_toList, pm.length_eq, List.length_map, List.length_cons]
    refine wpAny_bind (wpAny_storeSet_of ho rfl ?_ (by rw [hes, sizeLine_eq]; omega))
    have nf : ¬ (!false && t1.tooFull) = true := by
      have e : t1.tooFull = false := by
        unfold SetTable.tooFull SetTable.fill
        rw [T1.sz, T1.dm, m1]
        exact decide_eq_false (by show ¬ ((L.length + 1 + 0) * 5 ≥ t.mask * 3); omega)
      rw [e]
      decide
    have sb : Heap.SameBut a s.heap (s.heap.update a (Obj.putSet (SetTable.insertAt es p (tkh P w k, Value.ref x)) t1)) := Heap.SameBut.update ..
    have done : wpAny (model P w) A (pure true) Q E { s with heap := s.heap.update a (Obj.putSet (SetTable.insertAt es p (tkh P w k, Value.ref x)) t1) } := by
      refine wpAny_pure (hQ true _ ((k, x) :: L) (_, ep + 1, t1) sb ⟨store_at ho rfl, pm, T1, nodup_cons' hnew S.nd, fun p hp => ?_, S.led.imp id fun z => l1.trans z, hfew⟩ (List.Perm.refl _) m1)
      rcases List.mem_cons.mp hp with e | hp
      · rw [e]
        exact key_same hx ho sb
      · exact key_same (S.tup p hp) ho sb
    first
      | (refine wpAny_bind ?_; refine wp_if_neg nf ?_; exact wpAny_pure done)
      | (refine wp_if_neg nf ?_; exact done)
      | (refine wp_if_neg nf ?_; exact wpAny_bind (wpAny_pure done))
  have byv : ∀ c : Bool, wpAny (model P w) A (do
        storeSet a (SetTable.insertAt es (t.put (way t.mask (tkh P w k) K)).2 (tkh P w k, Value.ref x)) (if c then (t.put (way t.mask (tkh P w k) K)).1 else { (t.put (way t.mask (tkh P w k) K)).1 with plain := false })
        if !false && (if c then (t.put (way t.mask (tkh P w k) K)).1 else { (t.put (way t.mask (tkh P w k) K)).1 with plain := false }).tooFull then setRelay a (SetTable.grown (es.size + 1))
        return true) Q E s := fun c => by
    refine fin _ _ ?_ ?_ ?_ pm
    · cases c with
      | true => exact T1
      | false => exact ⟨T1.ris, T1.dm, T1.sz, T1.mok, T1.room⟩
    · cases c <;> rfl
    · cases c <;> rfl
  by_cases hp : (t.put (way t.mask (tkh P w k) K)).1.plain = true
  · exact wp_if_pos hp (wpAny_bind (byv_tup hx fun c => byv c))
  · exact wp_if_neg hp (wpAny_bind (wpAny_pure (byv true)))
end
end Crt
end

section
/-! set(d), sorted(set): as rules. -/
namespace Crt
open PySem PySem.Spec PyProof.Rows L2 PySem.Froz
/-- a set as a tracked thing: its members' values -/
def SetVO (w : World) (a : Addr) (ms : List Value) : HO := .ext fun h => SetV w h a ms
theorem setVO_new {P : Program} {w : World} {H : Hp} {h : Heap} {a : Addr} {ms : List Value} (S : SetV w h a ms) : ObjOk P w H h a (SetVO w a ms) := by
  have ⟨_, _, _, ⟨o, ho, _⟩, _⟩ := S
  exact ⟨S, ⟨o, ho⟩, fun h1 h2 p k => SetV.at p k⟩
section
variable {P : Program} {w : World} {A : Around} {E : Value → Shared → Prop} {s : Shared}
theorem set_dict0 {d : Addr} {es : Array DictEntry} {ep : Nat} {o : Obj} {J : Nat → Heap → Prop} {Q : Value → Shared → Prop} (hd : s.heap.get? d = some o) (hc : o.cls = .type "dict") (hdat : o.data = .dict es ep) (hsys : (d == sysModules) = false) (hn : es.size ≤ 15)
    (start : ∀ h' ep t, h'.get? s.heap.objs.size = some (sObj "set" (#[], ep, t)) → Fresh w es.size t → (∀ b u, s.heap.get? b = some u → h'.get? b = some u) → J 0 h')
    (step : ∀ i e (s1 : Shared) (Q1 : Bool → Shared → Prop), es[i]? = some e → (∀ b u, s.heap.get? b = some u → s1.heap.get? b = some u) → J i s1.heap → (∀ b h2, Heap.SameBut s.heap.objs.size s1.heap h2 → J (i + 1) h2 → Q1 b { s1 with heap := h2 }) →
      wpAny (model P w) A.in1.in1 (setAddHashed s.heap.objs.size e.key e.hash) Q1 E s1)
    (fin : ∀ h', (∀ b u, s.heap.get? b = some u → h'.get? b = some u) → J es.size h' → Q (.ref s.heap.objs.size) { s with heap := h' }) : wpAny (model P w) A (call (.type "set") [.ref d]) Q E s := by
  refine set_from (Z := fun s2 => ∃ h', s2 = { s with heap := h' } ∧ (∀ b u, s.heap.get? b = some u → h'.get? b = some u) ∧ J es.size h') (fun s2 z => ?_) ?_
  · obtain ⟨h', rfl, z1, z2⟩ := z
    exact fin h' z1 z2
  have hd1 : (s.heap.push (newSetO w)).get? d = some o := Heap.get?_push_of_some _ hd
  have hlt := Heap.lt_size hd
  have hT : Shared.TypeIs { s with heap := s.heap.push (newSetO w) } (.ref d) "dict" := ⟨o, hd1, hc⟩
  have old : ∀ {h' : Heap}, Heap.SameBut s.heap.objs.size (s.heap.push (newSetO w)) h' → ∀ b u, s.heap.get? b = some u → h'.get? b = some u := fun sb b u e =>
    (sb.2 b (Nat.ne_of_lt (Heap.lt_size e))).trans (Heap.get?_push_of_some _ e)
  unfold Builtin.Frozenset.updateFrom Builtin.Frozenset.isAnySet
  refine wpAny_bind (wpAny_bind ?_)
  refine wpAny_isInstance hT F.sub_dict_set ?_
  simp only [Bool.false_eq_true, if_false]
  refine wpAny_isInstance hT F.sub_dict_frozenset ?_
  simp only [Bool.false_eq_true, if_false]
  refine wpAny_bind (wpAny_typeOf hT ?_)
  rw [if_pos (by decide)]
  refine wpAny_bind (wpAny_rule ?_)
  refine wpAny_bind (m := Builtin.Frozenset.addrOf (.ref d)) (wpAny_of_eq (a := d) rfl ?_)
  refine wp_if_neg (by rw [hsys]; exact Bool.false_ne_true) ?_
  try refine wpAny_bind (wpAny_pure ?_)
  refine wpAny_bind (wpAny_dictEpoch hd1 hdat ?_)
  refine wpAny_bind (wpAny_dictEntries hd1 hdat ?_)
  refine wpAny_bind (room_new (s := { s with heap := s.heap.push (newSetO w) }) (Heap.get?_push_size _ rfl) hn fun h1 ep1 t1 sb ho1 fr => ?_)
  have hd2 : h1.get? d = some o := old sb d o hd
  refine wpAny_bind (wpAny_dictEntries hd2 hdat ?_)
  refine wpAny_bind ?_
  refine PySem.SeqAt.wpAny_forIn_span 0 es.size _ (fun i _ s' => ∃ h', s' = { s with heap := h' } ∧ (∀ b u, s.heap.get? b = some u → h'.get? b = some u) ∧ J i h') _ ?_ ?_ _ ⟨h1, rfl, old sb, start h1 ep1 t1 ho1 fr (old sb)⟩
  · rintro i c s' _ hi ⟨h', rfl, hk, hj⟩
    have he : es[i]? = some es[i] := Array.getElem?_eq_getElem hi
    refine wpAny_bind (wpAny_dictEntries (hk d o hd) hdat ?_)
    rw [he]
    dsimp only
    refine wpAny_bind (wpAny_holding (step i _ { s with heap := h' } _ he hk hj fun b h2 sb2 hj2 => ?_))
    have hk2 : ∀ b u, s.heap.get? b = some u → h2.get? b = some u := fun b u e => (sb2.2 b (Nat.ne_of_lt (Heap.lt_size e))).trans (hk b u e)
    refine wpAny_bind (wpAny_dictEpoch (hk2 d o hd) hdat ?_)
    refine wp_if_neg (by simp) ?_
    try refine wpAny_bind (wpAny_pure ?_)
    exact wpAny_pure ⟨h2, rfl, hk2, hj2⟩
  · rintro c s' ⟨h', rfl, hk, hj⟩
    rw [show max 0 es.size = es.size by omega] at hj
    exact wpAny_pure ⟨h', rfl, hk, hj⟩
end
section
variable {X : Cx}
theorem strs_of_vals : ∀ {xs : List Str} {us : List Value}, Vals (xs.map V.str) us → StrsAre us xs
  | [], _, r => by
    cases r
    exact .nil
  | x :: xs, _, r => by
    cases r with
    | cons h t =>
      obtain ⟨tk, rfl⟩ := h
      exact .cons x tk (strs_of_vals t)
/-- set(l), a list of texts -/
def rSetS (w : World) : List V → Hp → VK → Prop := fun vs H Q => ∃ (l : Addr) (xs : List Str), vs = [.ref l] ∧ H l = some (.lst (xs.map V.str)) ∧ xs.length ≤ 1000 ∧ ∀ p ms ys, H p = none → StrsAre ms ys → ys.Nodup → (∀ k, k ∈ ys ↔ k ∈ xs) → Q (.ref p) (upd H p (SetVO w p ms))
theorem cr_setS (hc : X.calm = true) : CallR X (.type "set") (rSetS X.w) := by
  intro pins s σ H vs us Q I r h
  obtain ⟨l, xs, rfl, hl, hn, q⟩ := h
  rw [Vals.ref1 r]
  obtain ⟨hz, its, n, rv, ho⟩ := (show ObjOk X.prog X.w H s.heap l (.lst (xs.map V.str)) from I.hok l _ hl)
  refine set_list (items := its.toArray) (xs := xs) (I.ok.hd hc) ⟨_, ho, rfl, n, rfl⟩ (by simpa using strs_of_vals rv) (by unfold scanBound; omega) fun h' tk m S hm k => ?_
  have hp : H s.heap.objs.size = none := I.hok.fresh (Nat.le_refl _)
  obtain ⟨ms, ys, S2, a2, pm⟩ := SSt.vals (s := { s with heap := h' }) S
  obtain ⟨_, _, _, nd, _⟩ := S
  exact ⟨.ref _, upd H s.heap.objs.size (SetVO X.w s.heap.objs.size ms), I.laid (t' := tk) k (Nat.le_refl _) (setVO_new S2), rfl, q _ ms ys hp a2 (pm.nodup_iff.mpr nd) fun j => by rw [pm.mem_iff, hm j]⟩
/-- set(d), a dict by texts -/
def rSetK (w : World) : List V → Hp → VK → Prop := fun vs H Q => ∃ (d : Addr) (kvs : List (Key × V)) (xs : List Str), vs = [.ref d] ∧ Rd H d (.dK kvs) ∧ kvs.map (·.1) = xs.map Sum.inr ∧ xs.length ≤ 15 ∧ ∀ p ms ys, H p = none → StrsAre ms ys → ys.Nodup → (∀ k, k ∈ ys ↔ k ∈ xs) → Q (.ref p) (upd H p (SetVO w p ms))
theorem pairs_ent : ∀ {es : List DictEntry} {vs : List (Key × Value)} {i : Nat} {e : DictEntry}, Pairs (mixKind X.prog X.w) es vs → (∀ e ∈ es, ∃ k, (mixKind X.prog X.w).is k e.key = true ∧ e.hash = (mixKind X.prog X.w).hash k) → es[i]? = some e →
    ∃ k v, vs[i]? = some (k, v) ∧ (mixKind X.prog X.w).is k e.key = true ∧ e.hash = (mixKind X.prog X.w).hash k
  | _, _, _, _, .nil, _, h => by simp at h
  | _, _, 0, _, .cons (kv := kv) h1 _ _, ko, h => by
    simp at h
    subst h
    obtain ⟨k, q1, q2⟩ := ko _ List.mem_cons_self
    have e := (mixKind X.prog X.w).inj _ _ _ q1 h1
    subst e
    exact ⟨kv.1, kv.2, rfl, q1, q2⟩
  | _, _, i + 1, _, .cons _ _ t, ko, h => pairs_ent (i := i) t (fun e he => ko e (List.mem_cons_of_mem _ he)) (by simpa using h)
theorem cr_setK (hc : X.calm = true) : CallR X (.type "set") (rSetK X.w) := by
  intro pins s σ H vs us Q I r h
  obtain ⟨d, kvs, xs, rfl, hd, hk, hn, q⟩ := h
  rw [Vals.ref1 r]
  obtain ⟨_, hsys, vs, rel, o, es, ep, ho, hex, hdat, hko, hpr, hnd⟩ := dk_rd I.hok hd
  have hsz : es.size = xs.length := by
    rw [← Array.length_toList, hpr.length, ← List.length_map (f := (·.1)), ← rel.keys, hk, List.length_map]
  have ent : ∀ (i : Nat) (e : DictEntry), es[i]? = some e → ∃ x t, xs[i]? = some x ∧ e.key = .str x t ∧ e.hash = hashStr X.w x := fun i e he => by
    obtain ⟨k, v, h1, h2, h3⟩ := pairs_ent hpr (fun e he => hko e (by simpa using he)) (by rw [Array.getElem?_toList]; exact he)
    have h4 : (vs.map (·.1))[i]? = some k := by rw [List.getElem?_map, h1] <;> rfl
    rw [← rel.keys, hk, List.getElem?_map] at h4
    obtain ⟨x, hx, e2⟩ := Option.map_eq_some_iff.mp h4
    subst e2
    rcases keyIs_shape (show keyIs (Sum.inr x) e.key = true from h2) with ⟨j, t, z, z2⟩ | ⟨y, t, z, z2⟩
    · cases z
    · cases z
      exact ⟨_, t, hx, z2, h3⟩
  have nd : xs.Nodup := by
    have z := hnd
    rw [← rel.keys, hk] at z
    exact nodup_of_map z
  refine set_dict0 (J := fun i h => ∃ l, SSt X.prog X.w h s.heap.objs.size l ∧ GotS xs i l) ho hex.1 hdat hsys (by omega) (fun h' ep' t ho' fr k => ⟨[], ⟨_, ho', ?_, List.nodup_nil, ?_, fr.ld, by show 0 < scanBound; decide⟩, fun k => by simp, Nat.le_refl _⟩)
    (fun i e s1 Q1 he k1 ⟨l, S, g⟩ hQ => ?_) fun h' k ⟨l, S, g⟩ => ?_
  · refine TxOk.nil ?_
    unfold SetTable.fits SetTable.fill
    rw [fr.pl, fr.dm]
    simp
  · show Ris t.place.toList
    rw [fr.pl]
    exact List.Pairwise.nil
  · obtain ⟨x, t, hx, e1, e2⟩ := ent i e he
    rw [e1, e2]
    have gl := g.2
    have hi : i < xs.length := (List.getElem?_eq_some_iff.mp hx).1
    refine s_add S (by unfold scanBound; omega) fun b h' l' sb S' hm hl => hQ b h' sb ⟨l', S', fun j => ?_, by omega⟩
    rw [take_snoc hx, List.mem_append, List.mem_singleton, hm j, g.1 j]
  · have hp : H s.heap.objs.size = none := I.hok.fresh (Nat.le_refl _)
    obtain ⟨ms, ys, S2, a2, pm⟩ := SSt.vals (s := { s with heap := h' }) S
    obtain ⟨_, _, _, nd', _⟩ := S
    refine ⟨.ref _, upd H s.heap.objs.size (SetVO X.w s.heap.objs.size ms), I.laid (t' := s.toks) k (Nat.le_refl _) (setVO_new S2), rfl, q _ ms ys hp a2 (pm.nodup_iff.mpr nd') fun j => ?_⟩
    rw [pm.mem_iff, g.1 j, hsz, List.take_length]
/-- set(d), a dict by tuples of texts and ints -/
def rSetD (w : World) : List V → Hp → VK → Prop := fun vs H Q => ∃ (d : Addr) (kvs : List (List Key × V)), vs = [.ref d] ∧ Rd H d (.dT kvs) ∧ kvs.length ≤ 15 ∧
  ∀ p (L : List (List Key × Addr)), H p = none → (L.map (·.1)).Perm (kvs.map (·.1)) → (L.map (·.1)).Nodup → (∀ q ∈ L, H q.2 = some (.tup (q.1.map kV))) → Q (.ref p) (upd H p (SetVO w p (L.map fun q => Value.ref q.2)))
theorem cr_setD (hc : X.calm = true) (hu : X.A.units + 64 < cLine) : CallR X (.type "set") (rSetD X.w) := by
  intro pins s σ H vs us Q I r h
  obtain ⟨d, kvs, rfl, hd, hn, q⟩ := h
  rw [Vals.ref1 r]
  obtain ⟨_, hsys, xs, rel, o, es, ep, ho, hex, hdat, hes, hkey, hnd⟩ := dt_rd I.hok hd
  have hl : kvs.length = xs.length := Paired.length rel
  have hsz : es.size = xs.length := by rw [← Array.length_toList, hes, List.length_map]
  have trk : ∀ {l : List (List Key × V)} {m : List (List Key × Addr × Value)}, KT H l m → l.map (·.1) = m.map (·.1) ∧ ∀ x ∈ m, H x.2.1 = some (.tup (x.1.map kV)) := by
    intro l m z
    induction z with
    | nil => exact ⟨rfl, fun x hx => by cases hx⟩
    | @cons p q ps qs h _ ih =>
      refine ⟨by rw [List.map_cons, List.map_cons, h.1, ih.1], fun x hx => ?_⟩
      rcases List.mem_cons.mp hx with e | hx
      · rw [e, ← h.1]
        exact h.2.1
      · exact ih.2 x hx
  obtain ⟨ks, tups⟩ := trk rel
  have ent : ∀ (i : Nat) (e : DictEntry), es[i]? = some e → ∃ x, xs[i]? = some x ∧ e.key = .ref x.2.1 ∧ e.hash = tkh X.prog X.w x.1 := fun i e he => by
    have z : es.toList[i]? = some e := by rw [Array.getElem?_toList]; exact he
    rw [hes, List.getElem?_map] at z
    obtain ⟨x, hx, e2⟩ := Option.map_eq_some_iff.mp z
    exact ⟨x, hx, by rw [← e2] <;> rfl, by rw [← e2] <;> rfl⟩
  have isk : ∀ x ∈ xs, TKy X.prog X.w s.heap x.1 x.2.1 := hkey
  refine set_dict0 (J := fun i h => ∃ L D, TSt X.prog X.w h s.heap.objs.size L D ∧ L.Perm ((xs.take i).map fun x => (x.1, x.2.1)) ∧ es.size * 5 < D.2.2.mask * 3) ho hex.1 hdat hsys (by omega)
    (fun h' ep' t ho' fr k => ⟨[], (#[], ep', t), ⟨ho', List.Perm.refl _, ⟨?_, fr.dm, by show t.place.size = 0; rw [fr.pl] <;> rfl, fr.msk, Nat.zero_le _⟩, List.nodup_nil, fun p hp => (by cases hp), fr.ld, by decide⟩, by simp, fr.rm⟩)
    (fun i e s1 Q1 he k1 ⟨L, D, S, pm, hm⟩ hQ => ?_) fun h' k ⟨L, D, S, pm, hm⟩ => ?_
  · show Ris t.place.toList
    rw [fr.pl]
    exact List.Pairwise.nil
  · obtain ⟨x, hx, e1, e2⟩ := ent i e he
    rw [e1, e2]
    have hi : i < xs.length := (List.getElem?_eq_some_iff.mp hx).1
    have hL : L.length = i := by rw [pm.length_eq, List.length_map, List.length_take]; omega
    have hx1 : TKy X.prog X.w s1.heap x.1 x.2.1 := by
      obtain ⟨o', its, n, h1, h2⟩ := isk x (List.mem_of_getElem? hx)
      exact ⟨o', its, n, k1 _ _ h1, h2⟩
    have hnew : x.1 ∉ L.map (·.1) := fun z => by
      have z2 := (pm.map (·.1)).mem_iff.mp z
      rw [List.map_map] at z2
      have z3 : x.1 ∈ (xs.map (·.1)).take i := by
        rw [← List.map_take]
        exact z2
      obtain ⟨j, hj⟩ := List.mem_iff_getElem?.mp z3
      have hji : j < i := by
        have := (List.getElem?_eq_some_iff.mp hj).1
        rw [List.length_take] at this
        omega
      rw [List.getElem?_take_of_lt hji] at hj
      have hxi : (xs.map (·.1))[i]? = some x.1 := by rw [List.getElem?_map, hx] <;> rfl
      have := (List.getElem?_inj (by rw [List.length_map]; omega) hnd).mp (hj.trans hxi.symm)
      omega
    refine t_add S hx1 (by show X.A.units + 1 + 1 < cLine; omega) hnew (by rw [hL]; omega) (by omega) fun b h' L' D' sb S' pm' em => hQ b h' sb ⟨L', D', S', ?_, by rw [em]; exact hm⟩
    rw [take_snoc hx, List.map_append]
    exact pm'.trans ((pm.cons _).trans (List.perm_append_singleton _ _).symm)
  · have hp : H s.heap.objs.size = none := I.hok.fresh (Nat.le_refl _)
    rw [hsz, List.take_length] at pm
    have SV : SetV X.w h' s.heap.objs.size (L.map fun q => Value.ref q.2) := by
      obtain ⟨es2, ep2, t2⟩ := D
      refine ⟨es2, ep2, t2, ⟨_, S.ob, rfl, rfl⟩, TSt.fits (s := { s with heap := h' }) S, ?_, S.tab.ris, S.led, ?_⟩
      · have := TSt.size (s := { s with heap := h' }) S
        have f := S.few
        dsimp only at this
        unfold scanBound
        omega
      · have z := S.rows.map (·.2)
        rw [List.map_map] at z
        exact z
    refine ⟨.ref _, upd H s.heap.objs.size (SetVO X.w s.heap.objs.size (L.map fun q => Value.ref q.2)), I.laid (t' := s.toks) k (Nat.le_refl _) (setVO_new SV), rfl, q _ L hp ?_ S.nd fun q hq => ?_⟩
    · have z := pm.map (·.1)
      rw [List.map_map] at z
      rw [ks]
      exact z
    · obtain ⟨x, hx, e⟩ := List.mem_map.mp (pm.mem_iff.mp hq)
      rw [← e]
      exact tups x hx
end
end Crt
end

section
/-! sorted(set). -/
namespace Crt
open PySem PySem.Spec PyProof.Rows L2 PySem.W
theorem each_perm {α β : Type} {R : α → β → Prop} {as as' : List α} (p : as'.Perm as) : ∀ {bs : List β}, EachIs R as bs → ∃ bs', EachIs R as' bs' ∧ bs'.Perm bs := by
  induction p with
  | nil => exact fun e => ⟨_, e, List.Perm.refl _⟩
  | cons x _ ih =>
    intro bs e
    cases e with
    | cons h t =>
      obtain ⟨r, e2, p2⟩ := ih t
      exact ⟨_, .cons h e2, p2.cons _⟩
  | swap x y l =>
    intro bs e
    cases e with
    | cons h t =>
      cases t with
      | cons h2 t2 => exact ⟨_, .cons h2 (.cons h t2), List.Perm.swap ..⟩
  | trans _ _ i1 i2 =>
    intro bs e
    obtain ⟨b2, e2, p2⟩ := i2 e
    obtain ⟨b1, e1, p1⟩ := i1 e2
    exact ⟨b1, e1, p1.trans p2⟩
section
variable {P : Program} {w : World} {A : Around} {E : Value → Shared → Prop} {s : Shared} {β : Type} {R : Value → β → Prop} {enc : β → PyData}
theorem sorted_setV {a : Addr} {ms : List Value} {bs : List β} {Q : Value → Shared → Prop} (S : SetV w s.heap a ms) (hh : A.handled = none) (e0 : EachIs R ms bs) (hR : ∀ v b, R v b → ∀ h' : Heap, (∀ c o, s.heap.get? c = some o → h'.get? c = some o) → Reads h' v (enc b) [])
    (hal : ∀ b b', alike (enc b) (enc b') = true) (hk : (∀ b, ∃ x r, enc b = .tuple (x :: r)) ∨ ∀ b, enc b ≠ .none ∧ ∀ xs, enc b ≠ .tuple xs) (hu : ∀ b, A.units + 3 + (enc b).depth < cLine) (hl : ms.length ≤ 1000)
    (hQ : ∀ s' p (out : List Value) (c : Nat) (zs : List β), (∀ b o, s.heap.get? b = some o → s'.heap.get? b = some o) → s'.gens = s.gens → s'.os = s.os → s.heap.objs.size ≤ p → s'.heap.get? p = some (seqObj "list" out.toArray c) → EachIs R out (zs.mergeSort (dataLe false enc)) → zs.Perm bs → Q (.ref p) s') :
    wpAny (model P w) A (call (.builtin "sorted") [.ref a]) Q E s := by
  obtain ⟨es, ep, t, ha, hf, hb, hr, hled, pm⟩ := S
  refine Calls.call_function_entry kind_sorted plain_sorted entry_sorted (args_sorted1 _) ?_
  unfold Builtin.«sorted»
  refine wpAny_bind (m := checkCount "sorted" 1 1 _) (wpAny_pure ?_)
  refine wpAny_bind (collect_set (A := A.in1) hh ha hf hb hr hled fun s1 vs k1 hz g1 o1 pm1 => ?_)
  obtain ⟨bs1, e1, p1⟩ := each_perm (pm1.trans pm) e0
  have hvl : vs.length ≤ 1000 := by rw [(pm1.trans pm).length_eq]; exact hl
  refine wpAny_bind (wpAny_newList ?_ (by rw [sizeLine_eq]; omega))
  have hoL : (s1.heap.push (seqObj "list" vs.toArray 0)).get? s1.heap.objs.size = some (seqObj "list" vs.toArray 0) := Heap.get?_push_size _ rfl
  have k2 : ∀ c o, s.heap.get? c = some o → (s1.heap.push (seqObj "list" vs.toArray 0)).get? c = some o := fun c o q => Heap.get?_push_of_some _ (k1 c o q)
  refine wpAny_bind (wpAny_holding (list_sort_data (s := { s1 with heap := s1.heap.push (seqObj "list" vs.toArray 0) }) (enc := enc) (R := R) (bs := bs1) hoL e1 (e1.mono fun v b r => ⟨[], hR v b r _ k2, by simp⟩) (AllAlike.of hal) (hk.elim (fun z => Sortable.tuples z) fun z => Sortable.others z) (by rw [← e1.length, sizeLine_eq]; omega)
    (fun b _ => by have := hu b; show A.units + 1 + 1 + (enc b).depth < cLine; omega) fun out hol ho => ?_))
  obtain ⟨c, hc⟩ := sortedHeap_at (vs := vs) (out := out.toArray) hoL
  refine wpAny_pure ⟨_, rfl, hQ _ s1.heap.objs.size out c bs1 (fun b u e => ?_) g1 o1 hz hc ho p1⟩
  have hlt := Heap.lt_size (k1 b u e)
  show (sortedHeap (s1.heap.push (seqObj "list" vs.toArray 0)) s1.heap.objs.size vs out.toArray).get? b = some u
  rw [sortedHeap_old (Nat.ne_of_lt hlt) (by rw [size_push']; exact Nat.lt_succ_of_lt hlt)]
  exact k2 b u e
end
/-! ### the two orders -/
def leS (x y : Str) : Bool := decide (x.cps.toList ≤ y.cps.toList)
def ltS (x y : Str) : Prop := x.cps.toList < y.cps.toList
def ltP (p q : Str × Str) : Prop := ltS p.1 q.1 ∨ p.1 = q.1 ∧ ltS p.2 q.2
theorem str_ext {x y : Str} (h : x.cps.toList = y.cps.toList) : x = y := str_of_cps h
theorem ltS_irrefl (x : Str) : ¬ ltS x x := fun h => List.lt_irrefl _ h
theorem ltS_trans {x y z : Str} (h : ltS x y) (h2 : ltS y z) : ltS x z := List.lt_trans h h2
theorem ltS_tri (x y : Str) : ltS x y ∨ x = y ∨ ltS y x := by
  by_cases h : x.cps.toList < y.cps.toList
  · exact .inl h
  · by_cases h2 : y.cps.toList < x.cps.toList
    · exact .inr (.inr h2)
    · exact .inr (.inl (str_ext (List.le_antisymm (List.not_lt.mp h2) (List.not_lt.mp h))))
theorem ltP_irrefl (p : Str × Str) : ¬ ltP p p := fun h => h.elim (ltS_irrefl _) fun z => ltS_irrefl _ z.2
theorem ltP_trans {p q r : Str × Str} (h : ltP p q) (h2 : ltP q r) : ltP p r := by
  rcases h with h | ⟨e, h⟩
  · rcases h2 with h2 | ⟨e2, _⟩
    · exact .inl (ltS_trans h h2)
    · exact .inl (e2 ▸ h)
  · rcases h2 with h2 | ⟨e2, h2⟩
    · exact .inl (e ▸ h2)
    · exact .inr ⟨e.trans e2, ltS_trans h h2⟩
theorem ltP_tri (p q : Str × Str) : ltP p q ∨ p = q ∨ ltP q p := by
  rcases ltS_tri p.1 q.1 with h | h | h
  · exact .inl (.inl h)
  · rcases ltS_tri p.2 q.2 with h2 | h2 | h2
    · exact .inl (.inr ⟨h, h2⟩)
    · exact .inr (.inl (Prod.ext h h2))
    · exact .inr (.inr (.inr ⟨h.symm, h2⟩))
  · exact .inr (.inr (.inl h))
/-- a strict order sorts a set in one way -/
theorem asc_uniq {α : Type} {lt : α → α → Prop} (ir : ∀ x, ¬ lt x x) (tr : ∀ x y z, lt x y → lt y z → lt x z) : ∀ {l m : List α}, l.Pairwise lt → m.Pairwise lt → (∀ x, x ∈ l ↔ x ∈ m) → l = m
  | [], [], _, _, _ => rfl
  | [], y :: m, _, _, h => absurd ((h y).mpr List.mem_cons_self) (by simp)
  | x :: l, [], _, _, h => absurd ((h x).mp List.mem_cons_self) (by simp)
  | x :: l, y :: m, hl, hm, h => by
    obtain ⟨l1, l2⟩ := List.pairwise_cons.mp hl
    obtain ⟨m1, m2⟩ := List.pairwise_cons.mp hm
    have e : x = y := by
      rcases List.mem_cons.mp ((h x).mp List.mem_cons_self) with e | e
      · exact e
      · rcases List.mem_cons.mp ((h y).mpr List.mem_cons_self) with e2 | e2
        · exact e2.symm
        · exact absurd (tr _ _ _ (m1 x e) (l1 y e2)) (ir _)
    subst e
    rw [asc_uniq ir tr l2 m2 fun z => ?_]
    constructor
    · intro hz
      rcases List.mem_cons.mp ((h z).mp (List.mem_cons_of_mem _ hz)) with e | e
      · exact absurd (e ▸ l1 z hz) (ir _)
      · exact e
    · intro hz
      rcases List.mem_cons.mp ((h z).mpr (List.mem_cons_of_mem _ hz)) with e | e
      · exact absurd (e ▸ m1 z hz) (ir _)
      · exact e
/-- .. sorted by not above: strictly, if no two are alike -/
theorem sort_strict {α β : Type} {lt : β → β → Prop} {le : α → α → Bool} (f : α → β) (hle : ∀ x y, le x y = true ↔ ¬ lt (f y) (f x)) (ir : ∀ x, ¬ lt x x) (tr : ∀ x y z, lt x y → lt y z → lt x z) (tri : ∀ x y, lt x y ∨ x = y ∨ lt y x) {l : List α} (nd : (l.map f).Nodup) : ((l.mergeSort le).map f).Pairwise lt := by
  have total : ∀ a b, (le a b || le b a) = true := fun a b => by
    rw [Bool.or_eq_true, hle, hle]
    exact Classical.byContradiction fun h => ir _ (tr _ _ _ (Classical.not_not.mp fun c => h (.inl c)) (Classical.not_not.mp fun c => h (.inr c)))
  have trans : ∀ a b c, le a b = true → le b c = true → le a c = true := fun a b c h1 h2 => by
    rw [hle] at h1 h2 ⊢
    intro h3
    rcases tri (f b) (f c) with q | q | q
    · exact h1 (tr _ _ _ q h3)
    · exact h1 (q ▸ h3)
    · exact h2 q
  have ps := List.pairwise_mergeSort (le := le) trans total l
  have pm := List.mergeSort_perm l le
  have nd2 : ((l.mergeSort le).map f).Nodup := (pm.map f).nodup_iff.mpr nd
  rw [List.pairwise_map]
  have nd3 : (l.mergeSort le).Pairwise (fun x y => f x ≠ f y) := List.pairwise_map.mp nd2
  refine (ps.and nd3).imp fun {x y} h => ?_
  rcases tri (f x) (f y) with q | q | q
  · exact q
  · exact absurd q h.2
  · exact absurd q ((hle _ _).mp h.1)
theorem dataLe_S {x y : Str} : dataLe false (fun b : Str => PyData.str b) x y = true ↔ ¬ ltS y x := by
  rw [dataLe_eq]
  show (!dataLt (.str y) (.str x)) = true ↔ _
  rw [dataLt_str]
  unfold ltS
  simp
theorem dataLe_P {β : Type} (f : β → Str × Str) {x y : β} : dataLe false (fun b : β => PyData.tuple [.str (f b).1, .str (f b).2]) x y = true ↔ ¬ ltP (f y) (f x) := by
  rw [dataLe_eq]
  show (!dataLt (.tuple [.str (f y).1, .str (f y).2]) (.tuple [.str (f x).1, .str (f x).2])) = true ↔ _
  rw [dataLt_pair (by simp [alike]) (by simp [alike]), dataLt_str, dataLt_str]
  simp only [PyData.eqv, beq_iff_eq]
  unfold ltP ltS
  by_cases h1 : (f y).1 = (f x).1
  · by_cases h2 : (f y).2 = (f x).2
    · simp [h1, h2, List.lt_irrefl]
    · simp [h1, h2, List.lt_irrefl]
  · simp [h1]
section
variable {X : Cx}
/-- sorted(a set of texts) -/
def rSortS (w : World) : List V → Hp → VK → Prop := fun vs H Q => ∃ (a : Addr) (ms : List Value) (ys : List Str), vs = [.ref a] ∧ H a = some (SetVO w a ms) ∧ StrsAre ms ys ∧ ys.Nodup ∧ ys.length ≤ 1000 ∧ ∀ p (zs : List Str), H p = none → zs.Pairwise ltS → (∀ k, k ∈ zs ↔ k ∈ ys) → zs.length = ys.length → Q (.ref p) (upd H p (.lst (zs.map V.str)))
theorem each_strs {us : List Value} {xs : List Str} (h : StrsAre us xs) : EachIs (fun v x => ∃ t, v = Value.str x t) us xs := by
  induction h with
  | nil => exact .nil
  | cons y t _ ih => exact .cons ⟨t, rfl⟩ ih
theorem vals_each : ∀ {us : List Value} {xs : List Str}, EachIs (fun v x => ∃ t, v = Value.str x t) us xs → Vals (xs.map V.str) us
  | _, _, .nil => .nil
  | _, _, .cons h t => .cons h (vals_each t)
theorem cr_sortS (hc : X.calm = true) (hu : X.A.units + 64 < cLine) : CallR X (.builtin "sorted") (rSortS X.w) := by
  intro pins s σ H vs us Q I r h
  obtain ⟨a, ms, ys, rfl, ha, hms, nd, hl, q⟩ := h
  have S : SetV X.w s.heap a ms := (I.hok a _ ha).1
  rw [Vals.ref1 r]
  refine sorted_setV (enc := fun b : Str => PyData.str b) S (I.ok.hd hc) (each_strs hms) (fun v b ⟨t, e⟩ h' _ => by rw [e]; exact .str b t) (fun _ _ => by simp [alike]) (.inr fun b => ⟨(fun e => nomatch e), (fun xs e => nomatch e)⟩) (fun b => by show X.A.units + 3 + 0 < cLine; omega) (by rw [hms.length]; exact hl)
    fun s' p out c zs k g o hp hg ho pm => ?_
  have pw : (zs.mergeSort (dataLe false fun b : Str => PyData.str b)).Pairwise ltS := by
    have z := sort_strict (lt := ltS) (le := dataLe false fun b : Str => PyData.str b) id (fun x y => dataLe_S) ltS_irrefl (fun _ _ _ => ltS_trans) ltS_tri (l := zs) (by rw [List.map_id]; exact pm.nodup_iff.mpr nd)
    rw [List.map_id] at z
    exact z
  have pm2 := (List.mergeSort_perm zs (dataLe false fun b : Str => PyData.str b)).trans pm
  generalize zs.mergeSort (dataLe false fun b : Str => PyData.str b) = z2 at ho pw pm2
  have hn : H p = none := I.hok.fresh hp
  have hlen : (z2.map V.str).length ≤ sizeLine := by rw [List.length_map, pm2.length_eq, sizeLine_eq]; omega
  have J : Inv X pins σ (upd H p (.lst (z2.map V.str))) { s with heap := s'.heap, gens := s'.gens, drawn := s'.drawn, toks := s'.toks } :=
    I.call (ch := []) (Un.laid k hp hn) (I.hok.laid k hp ⟨hlen, out, c, vals_each ho, hg⟩) (by rw [g]; exact I.bare) (fun _ z => nomatch z)
  have e : s' = { s with heap := s'.heap, gens := s'.gens, drawn := s'.drawn, toks := s'.toks } := by
    cases s'
    cases s
    cases o
    rfl
  rw [e]
  exact ⟨.ref p, _, J, rfl, q p z2 hn pw (fun k => pm2.mem_iff) pm2.length_eq⟩
/-- sorted(a set of pairs of texts) -/
def rSortP (w : World) : List V → Hp → VK → Prop := fun vs H Q => ∃ (a : Addr) (L : List ((Str × Str) × Addr)), vs = [.ref a] ∧ H a = some (SetVO w a (L.map fun q => Value.ref q.2)) ∧ (L.map (·.1)).Nodup ∧ (∀ q ∈ L, H q.2 = some (.tup [.str q.1.1, .str q.1.2])) ∧ L.length ≤ 1000 ∧
  ∀ p (M : List ((Str × Str) × Addr)), H p = none → (M.map (·.1)).Pairwise ltP → M.Perm L → Q (.ref p) (upd H p (.lst (M.map fun q => V.ref q.2)))
theorem reads_pair {P : Program} {w : World} {H : Hp} {h h' : Heap} {b : Addr} {x y : Str} (ok : HOk P w H h) (e : H b = some (.tup [.str x, .str y])) (k : ∀ c o, h.get? c = some o → h'.get? c = some o) : Reads h' (.ref b) (.tuple [.str x, .str y]) [] := by
  obtain ⟨_, its, r, o, h1, h2, n, h3⟩ := (show ObjOk P w H h b (.tup [.str x, .str y]) from ok b _ e)
  cases r with
  | cons r1 t =>
    cases t with
    | cons r2 t2 =>
      cases t2
      obtain ⟨t1, rfl⟩ := r1
      obtain ⟨t2, rfl⟩ := r2
      exact .tuple (k _ _ h1) h2 h3 (.cons (.str x t1) (.cons (.str y t2) .nil))
theorem vals_refs : ∀ {us : List Value} {L : List ((Str × Str) × Addr)} {T : (Str × Str) × Addr → Prop}, EachIs (fun v q => v = Value.ref q.2 ∧ T q) us L → Vals (L.map fun q => V.ref q.2) us
  | _, _, _, .nil => .nil
  | _, _, _, .cons h t => .cons (by rw [h.1] <;> rfl) (vals_refs t)
theorem depth_pair (x y : Str) : (PyData.tuple [.str x, .str y]).depth ≤ 10 := by simp [PyData.depth, PyData.depthAll]
theorem cr_sortP (hc : X.calm = true) (hu : X.A.units + 64 < cLine) : CallR X (.builtin "sorted") (rSortP X.w) := by
  intro pins s σ H vs us Q I r h
  obtain ⟨a, L, rfl, ha, nd, ht, hl, q⟩ := h
  have S : SetV X.w s.heap a (L.map fun q => Value.ref q.2) := (I.hok a _ ha).1
  rw [Vals.ref1 r]
  have e0 : EachIs (fun v (q : (Str × Str) × Addr) => v = Value.ref q.2 ∧ H q.2 = some (.tup [.str q.1.1, .str q.1.2])) (L.map fun q => Value.ref q.2) L := by
    clear q nd ha hl S r
    induction L with
    | nil => exact .nil
    | cons x l ih => exact .cons ⟨rfl, ht x List.mem_cons_self⟩ (ih fun q hq => ht q (List.mem_cons_of_mem _ hq))
  refine sorted_setV (enc := fun b : (Str × Str) × Addr => PyData.tuple [.str b.1.1, .str b.1.2]) S (I.ok.hd hc) e0 (fun v b ⟨e, hb⟩ h' k => by rw [e]; exact reads_pair I.hok hb k) (fun _ _ => by simp [alike, alikeAll]) (.inl fun b => ⟨_, _, rfl⟩)
    (fun b => Nat.lt_of_le_of_lt (Nat.add_le_add_left (depth_pair b.1.1 b.1.2) _) (by omega)) (by rw [List.length_map]; exact hl) fun s' p out c zs k g o hp hg ho pm => ?_
  have pw : ((zs.mergeSort (dataLe false fun b : (Str × Str) × Addr => PyData.tuple [.str b.1.1, .str b.1.2])).map (·.1)).Pairwise ltP :=
    sort_strict (lt := ltP) (·.1) (fun x y => dataLe_P (fun b : (Str × Str) × Addr => b.1)) ltP_irrefl (fun _ _ _ => ltP_trans) ltP_tri (l := zs) ((pm.map (·.1)).nodup_iff.mpr nd)
  have pm2 := (List.mergeSort_perm zs (dataLe false fun b : (Str × Str) × Addr => PyData.tuple [.str b.1.1, .str b.1.2])).trans pm
  generalize zs.mergeSort (dataLe false fun b : (Str × Str) × Addr => PyData.tuple [.str b.1.1, .str b.1.2]) = z2 at ho pw pm2
  have hn : H p = none := I.hok.fresh hp
  have hlen : (z2.map fun q => V.ref q.2).length ≤ sizeLine := by rw [List.length_map, pm2.length_eq, sizeLine_eq]; omega
  have J : Inv X pins σ (upd H p (.lst (z2.map fun q => V.ref q.2))) { s with heap := s'.heap, gens := s'.gens, drawn := s'.drawn, toks := s'.toks } :=
    I.call (ch := []) (Un.laid k hp hn) (I.hok.laid k hp ⟨hlen, out, c, vals_refs ho, hg⟩) (by rw [g]; exact I.bare) (fun _ z => nomatch z)
  have e : s' = { s with heap := s'.heap, gens := s'.gens, drawn := s'.drawn, toks := s'.toks } := by
    cases s'
    cases s
    cases o
    rfl
  rw [e]
  exact ⟨.ref p, _, J, rfl, q p z2 hn pw pm2⟩
end
end Crt
end

section
/-! Dict comprehensions by keys of either kind: ints and texts, or tuples of these. -/
namespace Crt
open PySem PySem.Spec PyProof.Rows L2
/-- the empty dict, to be of the one kind or of the other -/
def emp (tk : Bool) : HO := if tk = true then .dT [] else .dK []
theorem emp_ok {P : Program} {w : World} {H : Hp} {h : Heap} (tk : Bool) (hb : sysModules < h.objs.size) : ObjOk P w H (h.push { cls := .type "dict", data := .dict #[] }) h.objs.size (emp tk) := by
  cases tk with
  | true => exact dt_empty h hb
  | false => exact dk_empty h hb
section
variable {X : Cx} {pins : List (Addr × Obj)} {σ : L2.St} {H : Hp} {s : Shared} {E : Value → Shared → Prop}
/-- d[y] = v by a comprehension, keys of either kind -/
theorem dset_any {H' : Hp} {D : Addr} {y v : V} {u r : Value} {Q : Unit → Shared → Prop} (hu : X.A.units + 1 < cLine) (I : Inv X pins σ H s) (g : DPut H D y v H') (ry : RelV y u) (rv : RelV v r) (h : ∀ s', Inv X pins σ H' s' → Q () s') :
    wpAny (model X.prog X.w) X.A (dictSet D u r) Q E s := by
  rcases g with ⟨kvs, k, e, rfl, l, rfl⟩ | ⟨kvs, k, b, e, rfl, eb, l, rfl⟩
  · exact d_dictSet I e l ry rv h
  · obtain rfl : u = Value.ref b := ry
    obtain ⟨z, hd, xs, rel, dd⟩ := dt_of I.hok e
    have hz : xs.length ≤ sizeLine := by
      rw [← Paired.length rel]
      exact z
    refine wpAny_dictSet_heap (hsz := hz) (show X.A.units < cLine by omega) (key_of I.hok eb) dd fun h' dd' hs => h _ ?_
    obtain ⟨q, es, ep, hq, h2, h3, h4, _, h5⟩ := dd'
    have hl : (putK kvs k v).length ≤ sizeLine := Nat.le_trans (length_putK kvs k v) l
    refine d_write I (by rw [e]; exact True.intro) hs ⟨q, hq⟩ ⟨hl, hd, _, KT.keeps (rel.put k eb rv) fun c ys ec => ?_, q, es, ep, hq, h2, h3, h4, h5⟩
    rw [upd_ne (ne_of ec e fun z => nomatch z)]
    exact ec
end
section
variable {X : Cx}
/-- {k: v for target in iter if ..}: D the new dict -/
def tDq (tk : Bool) (wi : TI) (g : TG) (tt : TT) (ty tv : TE) (vs : List Nat) : TE := fun σ H Q => wi σ H fun J H1 => ∀ D, H1 D = none → ∃ W : Nat → Nat → Hp → Prop, (∃ m, W 0 m (upd H1 D (emp tk))) ∧ ∀ i m H, W i m H →
  (J.stop i H ∧ Q (.ref D) H) ∨ (J.go i H ∧ ∃ Nx : Hp → Prop, (∀ H', Nx H' → ∃ m', m' < m ∧ W (i + 1) m' H') ∧ ∀ x H', J.yld i H x H' → g x (wipe σ vs) H' fun σ2 H2 => wipe σ2 vs = wipe σ vs ∧ tt σ2 H2 fun b H3 =>
    if b = true then ty σ2 H3 fun y H4 => tv σ2 H4 fun z H5 => ∃ H6, DPut H5 D y z H6 ∧ Nx H6 else Nx H3)
theorem dq_core {tk : Bool} {pins : List (Addr × Obj)} {s : Shared} {σ : L2.St} {H : Hp} {Q : VK} {kx vx tg iter : Expr} {ifs : List Expr} {scope : Scope} {own : List (Str × Nat)} {pos pos' : Pos} {wi : TI} {g : TG} {tt : TT} {ty tv : TE} {use : Option (Value → Sem Unit)} {Qf : Value → Shared → Prop}
    (hc : X.calm = true) (hu : X.A.units + 1 < cLine) (hN : X.N.Nodup) (I : Inv X pins σ H s) (hi : PI X tg iter wi) (ok : BlkOk X.N X.env.scope scope own)
    (hg : ∀ (s : Shared) (H : Hp) (C : Addr) (cl : List (Str × Addr)) (fp : List Addr), PG (X.blk s H scope (compEnvC scope cl C X.env) fp) tg g) (ht : ∀ (s : Shared) (H : Hp) (C : Addr) (cl : List (Str × Addr)) (fp : List Addr), PTs (X.blk s H scope (compEnvC scope cl C X.env) fp) ifs tt)
    (hk : ∀ (s : Shared) (H : Hp) (C : Addr) (cl : List (Str × Addr)) (fp : List Addr), PE (X.blk s H scope (compEnvC scope cl C X.env) fp) kx ty)
    (he : ∀ (s : Shared) (H : Hp) (C : Addr) (cl : List (Str × Addr)) (fp : List Addr), PE (X.blk s H scope (compEnvC scope cl C X.env) fp) vx tv) (hs : ∀ x, foldedSetIterable iter X.env x = pure x)
    (h : tDq tk wi g tt ty tv (own.map (·.2)) σ H Q)
    (back : ∀ D C s' m H', Inv X pins σ H' s' → Q (.ref D) H' → s'.heap.Ns C m → FpOk X pins H' C → compPost (model X.prog X.w) X.A X.xe use Qf (.ref D) C (.ok .next) s') :
    wpAny (model X.prog X.w) X.A (comprehension (.DictComp kx vx [⟨tg, iter, ifs, 0⟩] scope pos) scope X.env pos' newDict false (eval iter X.env) use) Qf X.xe s := by
  have hfree : ∀ y ∈ scope.names, y.2 = .free → ∃ c, X.env.cells.lookup y.1 = some c := fun y hy e => by
    rcases ok.free y hy e with k | k
    · exact I.ok.has _ (.inl k)
    · exact I.ok.has _ (.inr k)
  refine wpAny_comprehension_free (use := use) rfl hs (closure_ok hfree) ok.kind (fun y hy e => by rw [ok.uniq y hy, e])
    (thn (hi.run pins s σ H _ I h) fun xv s1 hx => thn hx fun itv s2 h2 => ?_)
  obtain ⟨it, fp, tn, J, H2, e, I2, T, st2, f2, q⟩ := h2
  subst e
  refine wpAny_newObj_type (newEnv_comp ?_)
  generalize hD : s2.heap.objs.size = D
  obtain ⟨W, ⟨m0, w0⟩, turn⟩ := q D (I2.hok.fresh (Nat.le_of_eq hD))
  generalize hs3 : ({ s2 with heap := s2.heap.push { cls := .type "dict", data := .dict #[] } } : Shared) = s3
  have h3 : s3.heap = s2.heap.push { cls := .type "dict", data := .dict #[] } := by rw [← hs3]
  have I3 : Inv X pins σ (upd H2 D (emp tk)) s3 := by
    rw [← hs3]
    refine I2.laid (t' := s2.toks) (fun b o e => Heap.get?_push_of_some _ e) (Nat.le_of_eq hD) ?_
    rw [← hD]
    exact emp_ok tk I2.big
  have below : ∀ b ∈ fp, b < s2.heap.objs.size := fun b hb => let ⟨o, e, _⟩ := T.obj _ _ st2 b hb; Heap.lt_size e
  have f3 : ∀ b ∈ fp, FpOk X pins (upd H2 D (emp tk)) b ∧ b < s3.heap.objs.size := fun b hb => by
    have hlt := below b hb
    refine ⟨⟨?_, (f2 b hb).2⟩, by rw [h3, Heap.size_push]; exact Nat.lt_succ_of_lt hlt⟩
    rw [upd_ne (by rw [← hD]; exact Nat.ne_of_lt hlt)]
    exact (f2 b hb).1
  have st3 : tn 0 s3.heap := T.keep _ _ _ st2 fun b _ o e => by rw [h3]; exact Heap.get?_push_of_some _ e
  have I4 := block_start I3 ok hN f3
  have pg := hg s3 (upd H2 D (emp tk)) s3.heap.objs.size (cellsFrom (s3.heap.objs.size + 1) scope.names (cloFrom X.env.cells scope.names [])) fp
  have pt := ht s3 (upd H2 D (emp tk)) s3.heap.objs.size (cellsFrom (s3.heap.objs.size + 1) scope.names (cloFrom X.env.cells scope.names [])) fp
  have pk := hk s3 (upd H2 D (emp tk)) s3.heap.objs.size (cellsFrom (s3.heap.objs.size + 1) scope.names (cloFrom X.env.cells scope.names [])) fp
  have pv := he s3 (upd H2 D (emp tk)) s3.heap.objs.size (cellsFrom (s3.heap.objs.size + 1) scope.names (cloFrom X.env.cells scope.names [])) fp
  show codeAny _ _ (.compStart (.DictComp kx vx [⟨tg, iter, ifs, 0⟩] scope pos) 0 (.ref it) (.ref D) (compEnvC scope (cellsFrom (s3.heap.objs.size + 1) scope.names (cloFrom X.env.cells scope.names [])) s3.heap.objs.size X.env)) (compPost (model X.prog X.w) X.A X.xe use Qf (.ref D) s3.heap.objs.size) { s3 with heap := pushCells (s3.heap.push { cls := .type "dict", data := .dict #[] }) scope.names }
  have nfp : ∀ b ∈ fp, (upd H2 D (emp tk)) b = none := fun b hb => (f3 b hb).1.1
  generalize hce : compEnvC scope (cellsFrom (s3.heap.objs.size + 1) scope.names (cloFrom X.env.cells scope.names [])) s3.heap.objs.size X.env = ce at I4 pg pt pk pv ⊢
  have cL : ce.locals = s3.heap.objs.size := by
    subst hce
    rfl
  generalize hH3 : upd H2 D (emp tk) = H3 at I3 I4 pg pt pk pv w0 nfp f3
  generalize hs4 : ({ s3 with heap := pushCells (s3.heap.push { cls := .type "dict", data := .dict #[] }) scope.names } : Shared) = s4 at I4 ⊢
  have st4 : tn 0 s4.heap := T.keep _ _ _ st3 fun b _ o e => by rw [← hs4]; exact pushCells_keeps _ _ _ _ (Heap.get?_push_of_some _ e)
  have stat : ∀ {σ' : L2.St} {H' : Hp} {s' : Shared}, Inv (X.blk s3 H3 scope ce fp) [] σ' H' s' → (∀ b ∈ fp, H' b = none) → ∀ b ∈ fp, FpOk (X.blk s3 H3 scope ce fp) [] H' b := fun {σ' H' s'} I' hn b hb =>
    ⟨hn b hb, (I'.ok.exf b hb).1, I'.ok.exfs b hb, .inl hb, fun x c e => (I'.ok.exf b hb).2 x c e, fun p hp => absurd (show p ∈ ([] : List (Addr × Obj)) ++ [] from hp) (by simp)⟩
  refine codeAny_compStart_dict (?_ : codeAny (model X.prog X.w) X.A (.compLoop (.DictComp kx vx [⟨tg, iter, ifs, 0⟩] scope pos) 0 (.ref it) (.ref D) ce) (compPost (model X.prog X.w) X.A X.xe use Qf (.ref D) s3.heap.objs.size) s4) (T.self X.A 0 _ _ _ st4 ?_)
  all_goals
    refine compLoop_anyD (fun n s' => ∃ i H', Inv (X.blk s3 H3 scope ce fp) [] (wipe σ (own.map (·.2))) H' s' ∧ tn i s'.heap ∧ (∀ b ∈ fp, H' b = none) ∧ W i n H') ?_ m0 ⟨0, H3, I4, st4, nfp, w0⟩
    rintro n s5 ⟨i, H5, I5, st5, n5, w5⟩
    rcases turn i n H5 w5 with ⟨stop, qq⟩ | ⟨go, Nx, hNx, step⟩
    · refine thnF (T.done (X.blk s3 H3 scope ce fp) rfl rfl rfl hc i [] s5 _ H5 (fun _ _ => False) I5 (stat I5 n5) st5 stop) fun r s6 ⟨hr, I6⟩ => ?_
      subst hr
      have I7 : Inv X pins σ H5 s6 := I3.call' (ch := fp) I6.os I6.base I6.hok I6.bare fun b hb => ⟨(f3 b hb).1.2.2.2.1, (f3 b hb).1.2.1, (f3 b hb).1.2.2.2.2.1, (f3 b hb).1.2.2.2.2.2⟩
      have nC : H5 ce.locals = none := I6.free
      obtain ⟨m, hn, _⟩ := I6.loc
      have hn : s6.heap.Ns ce.locals m := hn
      rw [cL] at nC hn
      exact back D s3.heap.objs.size s6 m H5 I7 qq hn (I3.fpOk (Nat.le_refl _) nC)
    · refine thnF (T.item (X.blk s3 H3 scope ce fp) rfl rfl rfl hc i [] s5 _ H5 (fun _ _ => False) I5 (stat I5 n5) st5 go) fun r s6 ⟨u, hr, h6⟩ => ?_
      subst hr
      refine thnF h6 fun _ s7 ⟨x, H7, I7, r7, y7, st7, n7⟩ => ?_
      refine thnF (pg.run _ s7 _ H7 x u _ (I7.pinned (stat I7 n7) (T.obj _ _ st7)) r7 (step x H7 y7)) fun _ s8 ⟨σ8, H8, I8, hw8, q8⟩ => ?_
      refine thnF (pt.run _ s8 σ8 H8 _ I8 q8) fun b s9 ⟨H9, I9, q9⟩ => ?_
      have fin : ∀ {s' : Shared} {H' : Hp}, Inv (X.blk s3 H3 scope ce fp) ([] ++ pinsAt fp s7.heap) σ8 H' s' → Nx H' → ∃ m, m < n ∧ ∃ i H', Inv (X.blk s3 H3 scope ce fp) [] (wipe σ (own.map (·.2))) H' s' ∧ tn i s'.heap ∧ (∀ b ∈ fp, H' b = none) ∧ W i m H' := fun {s' H'} I' nx => by
        obtain ⟨m', hm, w'⟩ := hNx H' nx
        have pin' : ∀ b ∈ fp, ∀ o, s7.heap.get? b = some o → s'.heap.get? b = some o ∧ H' b = none := fun b hb o e =>
          let z := I'.pin (b, o) (List.mem_append_right _ (List.mem_append_right _ (mem_pinsAt hb e)))
          ⟨z.1, z.2.1⟩
        refine ⟨m', hm, i + 1, H', (I'.unpinned (pins := [])).weak (by rw [← hw8, wipe_length]) (fun j v e => ?_), T.keep _ _ _ st7 fun b hb o e => (pin' b hb o e).1, fun b hb => ?_, w'⟩
        · rw [← hw8] at e
          exact (wipe_some e).1
        · obtain ⟨o, e, _⟩ := T.obj _ _ st7 b hb
          exact (pin' b hb o e).2
      cases b with
      | false =>
        simp only [Bool.false_eq_true, if_false] at q9 ⊢
        exact fin I9 q9
      | true =>
        simp only [if_true] at q9 ⊢
        refine thnF (pk.run _ s9 σ8 H9 _ I9 q9) fun z s10 ⟨yk, H10, I10, r10, q10⟩ => ?_
        refine thnF (pv.run _ s10 σ8 H10 _ I10 q10) fun z2 s11 ⟨yv, H11, I11, r11, H12, dp, nx⟩ => ?_
        exact dset_any (X := X.blk s3 H3 scope ce fp) hu I11 dp r10 r11 fun s12 I12 => fin I12 nx
theorem pe_dq {tk : Bool} {kx vx tg iter : Expr} {ifs : List Expr} {scope : Scope} {own : List (Str × Nat)} {pos : Pos} {wi : TI} {g : TG} {tt : TT} {ty tv : TE} (hc : X.calm = true) (hu : X.A.units + 1 < cLine) (hN : X.N.Nodup) (hi : PI X tg iter wi) (ok : BlkOk X.N X.env.scope scope own)
    (hg : ∀ (s : Shared) (H : Hp) (C : Addr) (cl : List (Str × Addr)) (fp : List Addr), PG (X.blk s H scope (compEnvC scope cl C X.env) fp) tg g) (ht : ∀ (s : Shared) (H : Hp) (C : Addr) (cl : List (Str × Addr)) (fp : List Addr), PTs (X.blk s H scope (compEnvC scope cl C X.env) fp) ifs tt)
    (hk : ∀ (s : Shared) (H : Hp) (C : Addr) (cl : List (Str × Addr)) (fp : List Addr), PE (X.blk s H scope (compEnvC scope cl C X.env) fp) kx ty)
    (he : ∀ (s : Shared) (H : Hp) (C : Addr) (cl : List (Str × Addr)) (fp : List Addr), PE (X.blk s H scope (compEnvC scope cl C X.env) fp) vx tv) (hs : ∀ x, foldedSetIterable iter X.env x = pure x := by intro _; rfl) :
    PE X (.DictComp kx vx [⟨tg, iter, ifs, 0⟩] scope pos) (tDq tk wi g tt ty tv (own.map (·.2))) := by
  refine ⟨fun pins s σ H Q I h => ?_⟩
  rw [arm_eval_DictComp]
  refine dq_core hc hu hN I hi ok hg ht hk he hs h fun D C s' m H' I' q hn f => ⟨m, hn, fun h'' sb => ?_⟩
  obtain ⟨f0, f1, f2, f3, f4, f5⟩ := f
  exact ⟨.ref D, H', I'.turned (t' := s'.toks) (fun b o hb e => (sb.2 b hb).trans e) f0 f1 f3 f4 f5, rfl, q⟩
end
end Crt
end

section
/-! Dicts that stand for good, by what their values stand for. -/
namespace Crt
open PySem PySem.Spec PyProof.Rows L2
/-! ### locking what has been made -/
/-- the value is a new thing: it never changes again -/
def tFz (te : TE) : TE := fun σ H Q => te σ H fun v H' => ∃ d u, v = .ref d ∧ H' d = some u ∧ Mut (some u) ∧ ∀ o, Q v (upd H' d (.frz o u))
theorem pe_fz {X : Cx} {e : Expr} {te : TE} (he : PE X e te) : PE X e (tFz te) := by
  refine ⟨fun pins s σ H Q I h => ?_⟩
  refine wpAny_mono (he.run pins s σ H _ I h) (fun v s1 z => ?_) fun _ _ z => z
  obtain ⟨x, H1, I1, rx, d, u, rfl, hd, mu, q⟩ := z
  obtain ⟨o, I2⟩ := I1.lock hd mu
  exact ⟨.ref d, _, I2, rx, q o⟩
/-! ### tables -/
def valA {κ β : Type} [DecidableEq κ] (l : List (κ × β)) (k : κ) : Option β := (l.find? fun p => decide (p.1 = k)).map (·.2)
def putA {κ β : Type} [DecidableEq κ] (l : List (κ × β)) (k : κ) (b : β) : List (κ × β) := if (l.any fun p => decide (p.1 = k)) = true then l.map fun p => if p.1 = k then (p.1, b) else p else l ++ [(k, b)]
def putAll {κ β : Type} [DecidableEq κ] (l more : List (κ × β)) : List (κ × β) := more.foldl (fun acc p => putA acc p.1 p.2) l
section
variable {κ β γ : Type} [DecidableEq κ]
theorem valA_cons (p : κ × β) (l : List (κ × β)) (k : κ) : valA (p :: l) k = if p.1 = k then some p.2 else valA l k := by
  unfold valA
  rw [List.find?_cons]
  by_cases h : p.1 = k
  · rw [if_pos h]
    simp [h]
  · rw [if_neg h]
    simp [h]
theorem putA_len (l : List (κ × β)) (k : κ) (b : β) : (putA l k b).length ≤ l.length + 1 := by
  unfold putA
  split
  · rw [List.length_map]
    omega
  · rw [List.length_append]
    exact Nat.le_refl _
theorem valA_mem {l : List (κ × β)} {k : κ} {b : β} (h : valA l k = some b) : (k, b) ∈ l := by
  induction l with
  | nil => cases h
  | cons p l ih =>
    rw [valA_cons] at h
    by_cases e : p.1 = k
    · rw [if_pos e] at h
      obtain ⟨p1, p2⟩ := p
      cases e
      cases h
      exact List.mem_cons_self
    · rw [if_neg e] at h
      exact List.mem_cons_of_mem _ (ih h)
theorem valA_none {l : List (κ × β)} {k : κ} : valA l k = none ↔ k ∉ l.map (·.1) := by
  induction l with
  | nil => simp [valA]
  | cons p l ih =>
    rw [valA_cons, List.map_cons, List.mem_cons, not_or]
    by_cases e : p.1 = k
    · rw [if_pos e]
      exact ⟨fun h => (by cases h), fun h => absurd e.symm h.1⟩
    · rw [if_neg e, ih]
      exact ⟨fun h => ⟨fun z => e z.symm, h⟩, fun h => h.2⟩
theorem valA_nodup {l : List (κ × β)} (nd : (l.map (·.1)).Nodup) {k : κ} {b : β} (h : (k, b) ∈ l) : valA l k = some b := by
  induction l with
  | nil => cases h
  | cons p l ih =>
    rw [List.map_cons, List.nodup_cons] at nd
    rw [valA_cons]
    rcases List.mem_cons.mp h with e | e
    · rw [← e, if_pos rfl]
    · rw [if_neg fun z : p.1 = k => nd.1 (z ▸ List.mem_map.mpr ⟨(k, b), e, rfl⟩)]
      exact ih nd.2 e
theorem any_key (l : List (κ × β)) (k : κ) : (l.any fun p => decide (p.1 = k)) = decide (k ∈ l.map (·.1)) := by
  induction l with
  | nil => rfl
  | cons p l ih =>
    rw [List.any_cons, ih, List.map_cons]
    by_cases e : p.1 = k
    · simp [e]
    · have q : ¬ k = p.1 := fun z => e z.symm
      rw [decide_eq_false e, Bool.false_or]
      exact decide_eq_decide.mpr ⟨fun z => List.mem_cons_of_mem _ z, fun z => (List.mem_cons.mp z).resolve_left q⟩
theorem putA_keys (l : List (κ × β)) (k : κ) (b : β) : (putA l k b).map (·.1) = if k ∈ l.map (·.1) then l.map (·.1) else l.map (·.1) ++ [k] := by
  unfold putA
  rw [any_key]
  by_cases h : k ∈ l.map (·.1)
  · rw [if_pos (decide_eq_true h), if_pos h, List.map_map]
    refine List.map_congr_left fun p _ => ?_
    show (if p.1 = k then (p.1, b) else p).1 = p.1
    split <;> rfl
  · rw [if_neg (by simp [h]), if_neg h, List.map_append]
    rfl
theorem putA_nodup {l : List (κ × β)} (nd : (l.map (·.1)).Nodup) (k : κ) (b : β) : ((putA l k b).map (·.1)).Nodup := by
  rw [putA_keys]
  by_cases h : k ∈ l.map (·.1)
  · rw [if_pos h]
    exact nd
  · rw [if_neg h]
    exact List.nodup_append.mpr ⟨nd, List.nodup_cons.mpr ⟨by simp, List.nodup_nil⟩, fun x hx y hy e => h (by rw [List.mem_singleton] at hy; rw [← hy, ← e]; exact hx)⟩
theorem valA_map_put (k j : κ) (b : β) : ∀ l : List (κ × β), valA (l.map fun p => if p.1 = k then (p.1, b) else p) j = (valA l j).map fun x => if j = k then b else x
  | [] => rfl
  | p :: r => by
    rw [List.map_cons, valA_cons, valA_cons, valA_map_put k j b r]
    by_cases h : p.1 = k
    · rw [if_pos h]
      by_cases e : p.1 = j
      · rw [if_pos e, if_pos e, Option.map_some, if_pos (e.symm.trans h)]
      · rw [if_neg e, if_neg e]
    · rw [if_neg h]
      by_cases e : p.1 = j
      · rw [if_pos e, if_pos e, Option.map_some, if_neg fun z => h (e.trans z)]
      · rw [if_neg e, if_neg e]
theorem valA_snoc (k j : κ) (b : β) : ∀ l : List (κ × β), k ∉ l.map (·.1) → valA (l ++ [(k, b)]) j = if j = k then some b else valA l j
  | [], _ => by
    rw [List.nil_append, valA_cons]
    by_cases e : k = j
    · rw [if_pos e, if_pos e.symm]
    · rw [if_neg e, if_neg fun z => e z.symm]
  | p :: r, h => by
    rw [List.map_cons, List.mem_cons, not_or] at h
    rw [List.cons_append, valA_cons, valA_snoc k j b r h.2, valA_cons]
    by_cases e : p.1 = j
    · rw [if_pos e, if_neg fun z => h.1 (z.symm.trans e.symm), if_pos e]
    · rw [if_neg e, if_neg e]
theorem valA_put (l : List (κ × β)) (k j : κ) (b : β) : valA (putA l k b) j = if j = k then some b else valA l j := by
  unfold putA
  rw [any_key]
  by_cases h : k ∈ l.map (·.1)
  · rw [if_pos (decide_eq_true h), valA_map_put]
    by_cases e : j = k
    · rw [if_pos e]
      cases q : valA l j with
      | none => exact absurd h (valA_none.mp (e ▸ q))
      | some x => rw [Option.map_some, if_pos e]
    · rw [if_neg e]
      cases valA l j with
      | none => rfl
      | some x => rw [Option.map_some, if_neg e]
  · rw [if_neg (by simp [h])]
    exact valA_snoc k j b l h
theorem putA_map {κ' : Type} [DecidableEq κ'] (f : κ → κ') (inj : ∀ a b, f a = f b → a = b) (l : List (κ × β)) (k : κ) (b : β) : putA (l.map fun p => (f p.1, p.2)) (f k) b = (putA l k b).map fun p => (f p.1, p.2) := by
  have ek : ∀ p : κ × β, decide (f p.1 = f k) = decide (p.1 = k) := fun p => decide_eq_decide.mpr ⟨inj _ _, fun e => by rw [e]⟩
  unfold putA
  rw [List.any_map]
  have e1 : ((fun p : κ' × β => decide (p.1 = f k)) ∘ fun p : κ × β => (f p.1, p.2)) = fun p : κ × β => decide (p.1 = k) := funext ek
  rw [e1]
  by_cases h : (l.any fun p => decide (p.1 = k)) = true
  · rw [if_pos h, if_pos h, List.map_map, List.map_map]
    refine List.map_congr_left fun p _ => ?_
    show (if f p.1 = f k then (f p.1, b) else (f p.1, p.2)) = (fun p : κ × β => (f p.1, p.2)) (if p.1 = k then (p.1, b) else p)
    by_cases q : p.1 = k
    · rw [if_pos q, if_pos (by rw [q])]
    · rw [if_neg q, if_neg fun z => q (inj _ _ z)]
  · rw [if_neg h, if_neg h, List.map_append]
    rfl
theorem valA_mapk {κ' : Type} [DecidableEq κ'] (f : κ → κ') (inj : ∀ a b, f a = f b → a = b) (k : κ) : ∀ l : List (κ × β), valA (l.map fun p => (f p.1, p.2)) (f k) = valA l k
  | [] => rfl
  | p :: r => by
    rw [List.map_cons, valA_cons, valA_cons, valA_mapk f inj k r]
    by_cases h : p.1 = k
    · rw [if_pos h, if_pos (by rw [h])]
    · rw [if_neg h, if_neg fun z => h (inj _ _ z)]
theorem putAll_keys_mem (more : List (κ × β)) : ∀ (l : List (κ × β)) (k : κ), k ∈ (putAll l more).map (·.1) ↔ k ∈ l.map (·.1) ∨ k ∈ more.map (·.1) := by
  induction more with
  | nil => exact fun l k => by simp [putAll]
  | cons p r ih =>
    intro l k
    show k ∈ (putAll (putA l p.1 p.2) r).map (·.1) ↔ _
    rw [ih, putA_keys, List.map_cons, List.mem_cons]
    by_cases h : p.1 ∈ l.map (·.1)
    · rw [if_pos h]
      constructor
      · rintro (z | z)
        · exact .inl z
        · exact .inr (.inr z)
      · rintro (z | z | z)
        · exact .inl z
        · exact .inl (z ▸ h)
        · exact .inr z
    · rw [if_neg h, List.mem_append, List.mem_singleton, or_assoc]
theorem putAll_nodup (more : List (κ × β)) : ∀ {l : List (κ × β)}, (l.map (·.1)).Nodup → ((putAll l more).map (·.1)).Nodup := by
  induction more with
  | nil => exact fun h => h
  | cons p r ih => exact fun h => ih (putA_nodup h p.1 p.2)
/-- no key twice: the list itself -/
theorem putAll_new (more : List (κ × β)) : ∀ {l : List (κ × β)}, ((l ++ more).map (·.1)).Nodup → putAll l more = l ++ more := by
  induction more with
  | nil => exact fun _ => (List.append_nil _).symm
  | cons p r ih =>
    intro l h
    have hp : p.1 ∉ l.map (·.1) := fun z => by
      rw [List.map_append, List.map_cons, List.nodup_append] at h
      exact h.2.2 _ z _ List.mem_cons_self rfl
    have e : putA l p.1 p.2 = l ++ [p] := by
      unfold putA
      rw [any_key, if_neg (by simp [hp])]
    show putAll (putA l p.1 p.2) r = _
    rw [e, ih (by rw [List.append_assoc]; exact h), List.append_assoc]
    rfl
theorem putAll_snoc (l more : List (κ × β)) (p : κ × β) : putAll l (more ++ [p]) = putA (putAll l more) p.1 p.2 := by
  unfold putAll
  rw [List.foldl_append]
  rfl
theorem putAll_len (more : List (κ × β)) : ∀ l : List (κ × β), (putAll l more).length ≤ l.length + more.length := by
  induction more with
  | nil => exact fun l => Nat.le_refl _
  | cons p r ih =>
    intro l
    have := ih (putA l p.1 p.2)
    have := putA_len l p.1 p.2
    show (putAll (putA l p.1 p.2) r).length ≤ _
    rw [List.length_cons]
    omega
theorem paired_put {R : V → β → Prop} {us : List (κ × V)} {kvs : List (κ × β)} (p : Paired (fun u x => u.1 = x.1 ∧ R u.2 x.2) us kvs) (k : κ) {z : V} {b : β} (h : R z b) : Paired (fun u x => u.1 = x.1 ∧ R u.2 x.2) (putA us k z) (putA kvs k b) := by
  have ek : us.map (·.1) = kvs.map (·.1) := by
    clear h
    induction p with
    | nil => rfl
    | cons a _ ih => rw [List.map_cons, List.map_cons, a.1, ih]
  unfold putA
  rw [any_key, any_key, ek]
  by_cases hk : k ∈ kvs.map (·.1)
  · rw [if_pos (decide_eq_true hk), if_pos (decide_eq_true hk)]
    clear hk ek
    induction p with
    | nil => exact .nil
    | @cons u x us xs a _ ih =>
      rw [List.map_cons, List.map_cons]
      refine .cons ?_ ih
      by_cases e : x.1 = k
      · rw [if_pos e, if_pos (a.1.trans e)]
        exact ⟨a.1, h⟩
      · rw [if_neg e, if_neg fun q => e (a.1.symm.trans q)]
        exact a
  · rw [if_neg (by simp [hk]), if_neg (by simp [hk])]
    exact pr_snoc p ⟨rfl, h⟩
theorem paired_val {R : V → β → Prop} {us : List (κ × V)} {kvs : List (κ × β)} (p : Paired (fun u x => u.1 = x.1 ∧ R u.2 x.2) us kvs) (k : κ) : (∀ b, valA kvs k = some b → ∃ z, valA us k = some z ∧ R z b) ∧ (valA kvs k = none → valA us k = none) := by
  induction p with
  | nil => exact ⟨fun b h => (by cases h), fun _ => rfl⟩
  | @cons u x us xs a _ ih =>
    rw [valA_cons, valA_cons, a.1]
    by_cases e : x.1 = k
    · rw [if_pos e, if_pos e]
      exact ⟨fun b h => ⟨_, rfl, (by cases h; exact a.2)⟩, fun h => (by cases h)⟩
    · rw [if_neg e, if_neg e]
      exact ih
end
/-! ### the two kinds of keys -/
structure KK (κ : Type) [DecidableEq κ] where
  tk : Bool
  ho : List (κ × V) → HO
  kr : κ → PV
  e0 : ho [] = emp tk
  mono : MonR kr
  put : ∀ {H : Hp} {D : Addr} {us : List (κ × V)} {k : κ} {y z : V}, H D = some (ho us) → kr k y H → us.length < sizeLine → DPut H D y z (upd H D (ho (putA us k z)))
  get : ∀ {H : Hp} {D : Addr} {us : List (κ × V)} {k : κ} {y : V}, Rd H D (ho us) → kr k y H → DGet H D y (valA us k)
  mu : ∀ us, Mut (some (ho us))
  isd : ∀ us, (∃ l, ho us = .dK l) ∨ ∃ l, ho us = .dT l
def PrR : Str × Str → PV := fun p v G => ∃ b, v = .ref b ∧ G b = some (.tup [.str p.1, .str p.2])
theorem mon_PrR : MonR PrR := fun p v H H' e ⟨b, h1, h2⟩ => ⟨b, h1, e _ _ h2⟩
def KS : KK Str where
  tk := false
  ho us := .dK (us.map fun p => (.inr p.1, p.2))
  kr := IsS
  e0 := rfl
  mono := mon_S
  put := fun {H D us k y z} h hk hl => by
    obtain rfl : y = .str k := hk
    have e := putA_map (fun k : Str => (Sum.inr k : Key)) (fun a b h => Sum.inr.inj h) us k z
    rw [← e]
    exact DPut.k (k := Sum.inr k) h (by rw [List.length_map]; exact hl)
  get := fun {H D us k y} h hk => by
    obtain rfl : y = .str k := hk
    rw [← valA_mapk (fun k : Str => (Sum.inr k : Key)) (fun a b h => Sum.inr.inj h) k us]
    exact .inl ⟨_, Sum.inr k, h, rfl, rfl⟩
  mu := fun _ => True.intro
  isd := fun us => .inl ⟨_, rfl⟩
def KP : KK (Str × Str) where
  tk := true
  ho us := .dT (us.map fun p => ([.inr p.1.1, .inr p.1.2], p.2))
  kr := PrR
  e0 := rfl
  mono := mon_PrR
  put := fun {H D us k y z} h hk hl => by
    obtain ⟨b, rfl, hb⟩ := hk
    have e := putA_map (fun k : Str × Str => ([.inr k.1, .inr k.2] : List Key)) (fun a b h => by injection h with h1 h2; injection h2 with h3 _; exact Prod.ext (Sum.inr.inj h1) (Sum.inr.inj h3)) us k z
    rw [← e]
    exact DPut.t (k := [.inr k.1, .inr k.2]) h hb (by rw [List.length_map]; exact hl)
  get := fun {H D us k y} h hk => by
    obtain ⟨b, rfl, hb⟩ := hk
    rw [← valA_mapk (fun k : Str × Str => ([.inr k.1, .inr k.2] : List Key)) (fun a b h => by injection h with h1 h2; injection h2 with h3 _; exact Prod.ext (Sum.inr.inj h1) (Sum.inr.inj h3)) k us]
    exact .inr ⟨_, [.inr k.1, .inr k.2], b, h, rfl, hb, rfl⟩
  mu := fun _ => True.intro
  isd := fun us => .inr ⟨_, rfl⟩
section
variable {κ β : Type} [DecidableEq κ]
/-- a dict that never changes -/
def Dic (K : KK κ) (R : β → PV) (kvs : List (κ × β)) : PV := fun v H => ∃ a o us, v = .ref a ∧ H a = some (.frz o (K.ho us)) ∧ Paired (fun u x => u.1 = x.1 ∧ R x.2 u.2 H) us kvs
theorem mon_dic {K : KK κ} {R : β → PV} (m : MonR R) : MonR (Dic K R) := fun x v H H' e ⟨a, o, us, h1, h2, p⟩ => ⟨a, o, us, h1, e _ _ h2, L2.Paired.mapP p fun u x r => ⟨r.1, m _ _ _ _ e r.2⟩⟩
end
end Crt
end

section
/-! d.items() of a dict by tuples; sources; dict comprehensions as readings. -/
namespace Crt
open PySem PySem.Spec PyProof.Rows L2
/-- the pairs of a locked dict by tuples -/
def ItT (d : Addr) (o : Obj) (kvs : List (List Key × V)) : It :=
  ⟨fun i H => H d = some (.frz o (.dT kvs)) ∧ i < kvs.length, fun i H x H' => ∃ T k v q, kvs[i]? = some (k, v) ∧ x = .ref T ∧ H q = some (.tup (k.map kV)) ∧ H T = none ∧ H' = upd H T (.tup [.ref q, v]), fun i H => H d = some (.frz o (.dT kvs)) ∧ kvs.length ≤ i⟩
section
variable {X : Cx} {pins : List (Addr × Obj)} {σ : L2.St} {H : Hp} {s : Shared} {d : Addr} {o : Obj}
theorem frzT_full {kvs : List (List Key × V)} (I : Inv X pins σ H s) (h : H d = some (.frz o (.dT kvs))) :
    (d == sysModules) = false ∧ s.heap.get? d = some o ∧ o.ExactDict ∧ ∃ (es : Array DictEntry) (ep : Nat), o.data = .dict es ep ∧ es.size = kvs.length ∧
      ∀ (i : Nat) (k : List Key) (v : V), kvs[i]? = some (k, v) → ∃ (en : DictEntry) (q : Addr), es[i]? = some en ∧ en.key = .ref q ∧ H q = some (.tup (k.map kV)) ∧ RelV v en.val := by
  obtain ⟨hd, z, hs, xs, pr, o', es, ep, ho, hx, hdt, he, _⟩ := I.hok d _ h
  rw [hd] at ho
  cases ho
  refine ⟨hs, hd, hx, es, ep, hdt, ?_, fun i k v e => ?_⟩
  · have l1 : es.size = xs.length := size_of_entries he
    have l2 : kvs.length = xs.length := Paired.length pr
    omega
  · obtain ⟨b, hb, e1, e2, e3⟩ := paired_get pr e
    have q := entry_at he i
    rw [hb] at q
    exact ⟨_, b.2.1, q, rfl, e2, e3⟩
end
section
variable {P : Program} {w : World} {K : PySem.W.Frag} {d : Addr} {o : Obj} {es : Array DictEntry} {ep : Nat}
theorem turn_itemsT {kvs : List (List Key × V)} {elts : List Expr} {kk : Nat} {tpos : Pos} (it : Addr) (hod : o.data = .dict es ep) :
    L2.Turn P w K (.Tuple elts kk tpos) (ItT d o kvs) [it] it (fun i h => ∃ a b, IsItemIter h it d i kvs.length ep a b) where
  mem := by simp
  obj := fun i h st b hb => by
    obtain rfl : b = it := by simpa using hb
    obtain ⟨x, y, e⟩ := st
    exact ⟨_, e, fun v z => nomatch z⟩
  keep := fun i h h' st k => let ⟨x, y, e⟩ := st; ⟨x, y, k it (by simp) _ e⟩
  item := by
    intro X hP hw hK hc i pins s σ H E I hf st hg
    subst hP hw hK
    obtain ⟨hd, hi⟩ := hg
    obtain ⟨hs, hgd, hx, es', ep', hdt, hsz, ent⟩ := frzT_full I hd
    obtain ⟨rfl, rfl⟩ := dict_ep hod hdt
    obtain ⟨⟨k, v⟩, hkv⟩ : ∃ p, kvs[i]? = some p := ⟨kvs[i], List.getElem?_eq_getElem hi⟩
    obtain ⟨en, q, hen, hkey, hq, rv⟩ := ent i k v hkv
    obtain ⟨x, y, he⟩ := st
    rw [← hsz] at he
    have hlt : it < s.heap.objs.size := Heap.lt_size he
    have hie : i < es'.size := by omega
    have een : es'[i] = en := by
      rw [Array.getElem?_eq_getElem hie] at hen
      exact Option.some.inj hen
    refine DT.nextI he ⟨o, hgd, hx, hdt⟩ hie fun h' ho hT hz hk => ?_
    rw [een, hkey] at ho hT
    refine ⟨_, rfl, wpAny_letOwnedTupleGo_items (s := { s with heap := h' }) ho fun h'' he' sb => ?_⟩
    have hT2 : h''.get? s.heap.objs.size = some { cls := .type "tuple", data := .seq #[.ref q, en.val] } := (sb.2 _ (Nat.ne_of_gt hlt)).trans hT
    have new : ObjOk X.prog X.w (upd H s.heap.objs.size (.tup [.ref q, v])) h'' s.heap.objs.size (.tup [.ref q, v]) :=
      ⟨by show 2 ≤ sizeLine; decide, [.ref q, en.val], .cons rfl (.cons rv .nil), ⟨_, hT2, rfl, _, rfl⟩⟩
    have I1 : Inv X pins σ (upd H s.heap.objs.size (.tup [.ref q, v])) { s with heap := h'' } :=
      I.turnedNew (t' := s.toks) (ch := [it]) (fun b ob hb e => (sb.2 b (by simpa using hb)).trans (hk b ob (by simpa using hb) e)) hf (Nat.le_refl _) new
    refine ⟨.ref s.heap.objs.size, _, I1, rfl, ⟨_, k, v, q, hkv, rfl, hq, I.hok.fresh (Nat.le_refl _), rfl⟩, ⟨.ref q, en.val, ?_⟩, fun b hb => ?_⟩
    · rw [← hsz]
      exact he'
    · obtain rfl : b = it := by simpa using hb
      rw [upd_ne (Nat.ne_of_lt hlt)]
      exact (hf b (by simp)).1
  done := by
    intro X hP hw hK hc i pins s σ H E I hf st hg
    subst hP hw hK
    obtain ⟨hd, hi⟩ := hg
    obtain ⟨f0, f1, f2, f3, f4, f5⟩ := hf it (by simp)
    obtain ⟨hs, hgd, hx, es', ep', hdt, hsz, ent⟩ := frzT_full I hd
    obtain ⟨rfl, rfl⟩ := dict_ep hod hdt
    obtain ⟨x, y, he⟩ := st
    rw [← hsz] at he
    exact DT.endI (I.ok.hd hc) he ⟨o, hgd, hx, hdt⟩ (by omega) fun h' eb => ⟨rfl, I.turned (t' := s.toks) (fun b ob hb e => eb b ob hb e) f0 f1 f3 f4 f5⟩
  self := fun A i s Q E st h => let ⟨_, _, e⟩ := st; PySem.W.kcp_self e h
end
def iItemsT (td : TE) : TI := fun σ H R => td σ H fun x H1 => ∃ d o kvs, x = .ref d ∧ H1 d = some (.frz o (.dT kvs)) ∧ R (ItT d o kvs) H1
section
variable {X : Cx} {e : Expr} {td : TE} {apos cpos : Pos}
theorem pi_itemsT {elts : List Expr} {kk : Nat} {tpos : Pos} (he : PE X e td) (hbase : attributeBase e "items" X.env (eval e X.env) = eval e X.env := by rfl) (hline : (apos.endLine == cpos.line) = true := by rfl) :
    PI X (.Tuple elts kk tpos) (.Call (.Attribute e "items" apos) [] [] cpos) (iItemsT td) := by
  refine ⟨fun pins s σ H R I h => ?_⟩
  refine wpAny_Call_method (T := "dict") (id := "dict.items") hbase rfl hline F.plainAttrs_dict F.slot_dict_items F.type_dict_items (thn (he.run pins s σ H _ I h) fun u s1 ⟨x, H1, I1, rx, d, o, kvs, ex, hd, q⟩ => ?_)
  subst ex
  obtain rfl : u = Value.ref d := rx
  obtain ⟨hs, hgd, hx, es, ep, hdt, hsz, ent⟩ := frzT_full I1 hd
  have raw : DT.Raw s1.heap d es ep := ⟨o, hgd, hx, hdt⟩
  have nodict : ∀ b, Value.ref d = .ref b → ∃ ob, s1.heap.get? b = some ob ∧ ob.dict = none := fun b eb => by
    cases eb
    exact ⟨o, hgd, hx.2.1⟩
  refine ⟨raw.typeIs, nodict, ?_⟩
  have I2 : Inv X pins σ H1 { s1 with heap := s1.heap.push { cls := .type "dict_items", data := .fields #[.ref d] } } := I1.kept (t' := s1.toks) fun b ob q => Heap.get?_push_of_some _ q
  have fin : wpAny (model X.prog X.w) X.A (pyIter (.ref s1.heap.objs.size)) (PIE X pins σ (.Tuple elts kk tpos) R) X.xe { s1 with heap := s1.heap.push { cls := .type "dict_items", data := .fields #[.ref d] } } := by
    refine DT.iterI (d := d) ⟨_, Heap.get?_push_size _ rfl, rfl, rfl⟩ (raw.push _) (pi_one (tk := s1.toks) I2 _ (turn_itemsT _ hdt) ⟨.none, .none, ?_⟩ q)
    rw [← hsz]
    exact Heap.get?_push_size _ rfl
  show wpAny _ _ (callWith cpos (.builtin "dict.items") [.ref d] [] []) _ X.xe s1
  exact method_meetsIn F.slot_dict_items F.entry_dict_items rfl (PySem.evalArgs_none ⟨rfl, raw.typeIs, F.args_dict_items_1 _, _, DT.meetsItems (es := es) (ep := ep) hs, raw, fin⟩)
end

/-! ### sources -/
section
variable {α β : Type} {R : β → PV} {σ : L2.St} {G : Hp} {cs : Held} {td : TE}
theorem map_at {κ : Type} {us : List (κ × V)} {xs : List (κ × β)} {H : Hp} (p : Paired (fun u x => u.1 = x.1 ∧ R x.2 u.2 H) us xs) {i : Nat} {x : κ × β} (h : xs[i]? = some x) : ∃ v, us[i]? = some (x.1, v) ∧ R x.2 v H := by
  obtain ⟨u, hu, e, r⟩ := pr_at' p h
  exact ⟨u.2, by rw [hu, ← e], r⟩
/-- the keys, texts -/
theorem src_keysS {kvs : List (Str × β)} (h : Gv cs td σ G (Dic KS R kvs)) : Src (iKeys td) σ cs cs G (kvs.map (·.1)) IsS := fun H a c Rk k => h H a c _ fun v G1 H1 s1 ul => by
  obtain ⟨d, o, us, ev, el, pl⟩ := ul.now
  have at_ : ∀ {Gc Hc : Hp}, Same G1 Gc → Same Gc Hc → Hc d = some (.frz o (KS.ho us)) := fun e1 e2 => e2 _ _ (e1 _ _ el)
  have len : (us.map fun p => ((Sum.inr p.1 : Key), p.2)).length = (kvs.map (·.1)).length := by rw [List.length_map, List.length_map, pl.length]
  refine ⟨d, o, ev, .inl ⟨_, at_ (Same.refl _) s1.gh, k _ G1 H1 s1 (c.on s1.hh) ⟨fun {i x Gc Hc} hx _ e1 e2 => ?_, fun {Gc Hc} _ e1 e2 => ⟨at_ e1 e2, Nat.le_of_eq len⟩⟩⟩⟩
  have hi : i < (kvs.map (·.1)).length := (List.getElem?_eq_some_iff.mp hx).1
  refine ⟨⟨at_ e1 e2, by rw [len]; exact hi⟩, ?_⟩
  rintro v' H' ⟨rfl, k', z, hk, rfl⟩
  rw [List.getElem?_map] at hx hk
  obtain ⟨p, hp, rfl⟩ := Option.map_eq_some_iff.mp hx
  obtain ⟨u, hu, _⟩ := map_at pl hp
  rw [hu] at hk
  cases hk
  exact ⟨Gc, Stp.refl e2, up_c rfl⟩
/-- the keys, pairs of texts -/
theorem src_keysP {kvs : List ((Str × Str) × β)} (h : Gv cs td σ G (Dic KP R kvs)) : Src (iKeys td) σ cs cs G (kvs.map (·.1)) PrR := fun H a c Rk k => h H a c _ fun v G1 H1 s1 ul => by
  obtain ⟨d, o, us, ev, el, pl⟩ := ul.now
  have at_ : ∀ {Gc Hc : Hp}, Same G1 Gc → Same Gc Hc → Hc d = some (.frz o (KP.ho us)) := fun e1 e2 => e2 _ _ (e1 _ _ el)
  have len : (us.map fun p => (([.inr p.1.1, .inr p.1.2] : List Key), p.2)).length = (kvs.map (·.1)).length := by rw [List.length_map, List.length_map, pl.length]
  refine ⟨d, o, ev, .inr ⟨_, at_ (Same.refl _) s1.gh, k _ G1 H1 s1 (c.on s1.hh) ⟨fun {i x Gc Hc} hx _ e1 e2 => ?_, fun {Gc Hc} _ e1 e2 => ⟨at_ e1 e2, Nat.le_of_eq len⟩⟩⟩⟩
  have hi : i < (kvs.map (·.1)).length := (List.getElem?_eq_some_iff.mp hx).1
  refine ⟨⟨at_ e1 e2, by rw [len]; exact hi⟩, ?_⟩
  rintro v' H' ⟨rfl, k', z, q, hk, rfl, hq⟩
  rw [List.getElem?_map] at hx hk
  obtain ⟨p, hp, rfl⟩ := Option.map_eq_some_iff.mp hx
  obtain ⟨u, hu, _⟩ := map_at pl hp
  rw [hu] at hk
  cases hk
  obtain ⟨G2, s2, hq2⟩ := Stp.learn e2 hq
  exact ⟨G2, s2, mon_PrR.up ⟨q, rfl, hq2⟩⟩
/-- the pairs -/
theorem src_itemsS {kvs : List (Str × β)} (m : MonR R) (h : Gv cs td σ G (Dic KS R kvs)) : Src (iItems td) σ cs cs G kvs (PairR IsS R) := fun H a c Rk k => h H a c _ fun v G1 H1 s1 ul => by
  obtain ⟨d, o, us, ev, el, pl⟩ := ul.now
  have at_ : ∀ {Gc Hc : Hp}, Same G1 Gc → Same Gc Hc → Hc d = some (.frz o (KS.ho us)) := fun e1 e2 => e2 _ _ (e1 _ _ el)
  have len : (us.map fun p => ((Sum.inr p.1 : Key), p.2)).length = kvs.length := by rw [List.length_map, pl.length]
  refine ⟨d, o, _, ev, at_ (Same.refl _) s1.gh, k _ G1 H1 s1 (c.on s1.hh) ⟨fun {i x Gc Hc} hx _ e1 e2 => ?_, fun {Gc Hc} _ e1 e2 => ⟨at_ e1 e2, Nat.le_of_eq len⟩⟩⟩
  have hi : i < kvs.length := (List.getElem?_eq_some_iff.mp hx).1
  refine ⟨⟨at_ e1 e2, by rw [len]; exact hi⟩, ?_⟩
  rintro v' H' ⟨T, k', z, hk, rfl, hT, rfl⟩
  rw [List.getElem?_map] at hk
  obtain ⟨u, hu, r⟩ := map_at pl hx
  rw [hu] at hk
  cases hk
  exact ⟨_, Stp.laid e2 hT, (mon_pair mon_S m).up ⟨T, _, _, rfl, upd_same, rfl, m _ _ _ _ (e1.trans (same_new (e2.free hT))) r⟩⟩
theorem src_itemsP {kvs : List ((Str × Str) × β)} (m : MonR R) (h : Gv cs td σ G (Dic KP R kvs)) : Src (iItemsT td) σ cs cs G kvs (PairR PrR R) := fun H a c Rk k => h H a c _ fun v G1 H1 s1 ul => by
  obtain ⟨d, o, us, ev, el, pl⟩ := ul.now
  have at_ : ∀ {Gc Hc : Hp}, Same G1 Gc → Same Gc Hc → Hc d = some (.frz o (KP.ho us)) := fun e1 e2 => e2 _ _ (e1 _ _ el)
  have len : (us.map fun p => (([.inr p.1.1, .inr p.1.2] : List Key), p.2)).length = kvs.length := by rw [List.length_map, pl.length]
  refine ⟨d, o, _, ev, at_ (Same.refl _) s1.gh, k _ G1 H1 s1 (c.on s1.hh) ⟨fun {i x Gc Hc} hx _ e1 e2 => ?_, fun {Gc Hc} _ e1 e2 => ⟨at_ e1 e2, Nat.le_of_eq len⟩⟩⟩
  have hi : i < kvs.length := (List.getElem?_eq_some_iff.mp hx).1
  refine ⟨⟨at_ e1 e2, by rw [len]; exact hi⟩, ?_⟩
  rintro v' H' ⟨T, k', z, q, hk, rfl, hq, hT, rfl⟩
  rw [List.getElem?_map] at hk
  obtain ⟨u, hu, r⟩ := map_at pl hx
  rw [hu] at hk
  cases hk
  obtain ⟨G2, s2, hq2⟩ := Stp.learn e2 hq
  exact ⟨_, s2.trans (Stp.laid s2.gh hT), (mon_pair mon_PrR m).up ⟨T, _, _, rfl, upd_same, ⟨q, rfl, (same_new (s2.gh.free hT)) _ _ hq2⟩, m _ _ _ _ (e1.trans (s2.gg.trans (same_new (s2.gh.free hT)))) r⟩⟩
end
end Crt
end

section
/-! A thing that is being made; dict comprehensions as readings; subscripts. -/
namespace Crt
open PySem PySem.Spec PyProof.Rows L2
/-- from G, H on, the thing at D (new behind H, unknown) has come to o -/
structure AcI (G H : Hp) (D : Addr) (o : HO) (Gc Hc : Hp) : Prop where
  gg : Same G Gc
  gh : Same Gc Hc
  hh : Same H Hc
  nw : ∀ b u, G b = none → H b = some u → (∀ xs, u ≠ .tup xs) → Gc b = none
  nD : Gc D = none
  at_ : Hc D = some o
section
variable {G H Gc Hc G2 H2 : Hp} {D : Addr} {o o' : HO}
theorem AcI.start (e : Same G H) (h : H D = none) : AcI G H D o G (upd H D o) := ⟨Same.refl G, same_mut e (e.free h), same_new h, fun _ _ h _ _ => h, e.free h, upd_same⟩
theorem AcI.step (I : AcI G H D o Gc Hc) (s : Stp Gc Hc G2 H2) (ht : ∀ xs, o ≠ .tup xs) : AcI G H D o G2 H2 :=
  ⟨I.gg.trans s.gg, s.gh, I.hh.trans s.hh, fun b u h1 h2 h3 => s.new b u (I.nw b u h1 h2 h3) (I.hh b u h2) h3, s.new D o I.nD I.at_ ht, s.hh _ _ I.at_⟩
theorem AcI.set (hD : H D = none) (I : AcI G H D o Gc Hc) (o' : HO) : AcI G H D o' Gc (upd Hc D o') := ⟨I.gg, same_mut I.gh I.nD, same_mut I.hh hD, I.nw, I.nD, upd_same⟩
theorem AcI.fin (hD : H D = none) (I : AcI G H D o Gc Hc) (o' : HO) : Stp G H (upd Gc D o') (upd Hc D o') := ⟨I.gg.trans (same_new I.nD), same_both I.gh, same_mut I.hh hD, fun b u h1 h2 h3 => by
  rw [upd_ne (ne_of_none h2 hD)]
  exact I.nw b u h1 h2 h3⟩
theorem AcI.fin' (hD : H D = none) (I : AcI G H D o Gc Hc) : Stp G H (upd Gc D o) Hc := by
  have s := I.fin hD o
  have e : upd Hc D o = Hc := by
    funext b
    by_cases hb : b = D
    · rw [hb, upd_same, I.at_]
    · rw [upd_ne hb]
  rw [e] at s
  exact s
/-- .. and stays unknown -/
theorem AcI.stp (hD : H D = none) (I : AcI G H D o Gc Hc) : Stp G H Gc Hc := ⟨I.gg, I.gh, I.hh, I.nw⟩
end
section
variable {α β κ : Type} [DecidableEq κ] {K : KK κ} {R : α → PV} {R' : β → PV} {σ : L2.St} {G H : Hp} {cs : Held} {ws : List Nat} {wi : TI} {g : TG} {tt : TT} {ty tv : TE}
theorem ho_not_tup (K : KK κ) (us : List (κ × V)) : ∀ xs, K.ho us ≠ .tup xs := fun xs e => by
  have := K.mu us
  rw [e] at this
  exact this
def DPr (R' : β → PV) (us : List (κ × V)) (ys : List (κ × β)) (G : Hp) : Prop := Paired (fun u x => u.1 = x.1 ∧ R' x.2 u.2 G) us ys
theorem DPr.on {us : List (κ × V)} {ys : List (κ × β)} {G2 : Hp} (p : DPr R' us ys G) (m : MonR R') (e : Same G G2) : DPr R' us ys G2 := L2.Paired.mapP p fun u x r => ⟨r.1, m _ _ _ _ e r.2⟩
/-- {ty: tv for g in wi if tt}, locked -/
theorem gv_dq {cs1 : Held} {xs : List α} {p : α → Bool} {kf : α → κ} {vf : α → β} (m' : MonR R') (hs : Src wi σ cs cs1 G xs R) (hn : xs.length ≤ 100000)
    (turn : ∀ (v : V) (x : α) (G1 : Hp), x ∈ xs → Same G G1 → Up (R x v) G1 → ∃ σ2, (∀ H1, Same G1 H1 → ∀ Q, Q σ2 H1 → g v (wipe σ ws) H1 Q) ∧ wipe σ2 ws = wipe σ ws ∧ GvT cs1 tt σ2 G1 (p x) ∧ (p x = true → Gv cs1 ty σ2 G1 (K.kr (kf x)) ∧ Gv cs1 tv σ2 G1 (R' (vf x)))) :
    Gv cs (tFz (tDq K.tk wi g tt ty tv ws)) σ G (Dic K R' (putAll [] ((xs.filter p).map fun x => (kf x, vf x)))) := fun H a c Q q =>
  hs H a c _ fun J G1 H1 s1 c1 W D hD => by
    rw [← K.e0]
    refine ⟨fun i m Hc => m = xs.length - i ∧ i ≤ xs.length ∧ ∃ Gc us, AcI G1 H1 D (K.ho us) Gc Hc ∧ us.length ≤ i ∧ DPr R' us (putAll [] (((xs.take i).filter p).map fun x => (kf x, vf x))) Gc, ⟨_, rfl, Nat.zero_le _, G1, [], AcI.start s1.gh hD, Nat.zero_le _, .nil⟩, ?_⟩
    rintro i m Hc ⟨rfl, hi, Gc, us, I, hl, pr⟩
    by_cases hlt : i < xs.length
    · have hx : xs[i]? = some xs[i] := List.getElem?_eq_getElem hlt
      obtain ⟨hgo, hy⟩ := W.go hx (c1.on I.hh) I.gg I.gh
      refine .inr ⟨hgo, fun H' => ∃ Gc us, AcI G1 H1 D (K.ho us) Gc H' ∧ us.length ≤ i + 1 ∧ DPr R' us (putAll [] (((xs.take (i + 1)).filter p).map fun x => (kf x, vf x))) Gc, fun H' h => ⟨xs.length - (i + 1), by omega, rfl, hlt, h⟩, fun v H' hv => ?_⟩
      obtain ⟨G2, s2, ur⟩ := hy v H' hv
      have I2 := I.step s2 (ho_not_tup K us)
      obtain ⟨σ2, hg, hw, ht, hb⟩ := turn v xs[i] G2 (List.mem_of_getElem? hx) (s1.gg.trans I2.gg) ur
      refine hg H' I2.gh _ ⟨hw, ht H' I2.gh (c1.on I2.hh) _ fun G3 H3 s3 => ?_⟩
      have I3 := I2.step s3 (ho_not_tup K us)
      have pr3 := (pr.on m' s2.gg).on m' s3.gg
      rw [take_snoc hx, filt_snoc]
      cases hp : p xs[i] with
      | false =>
        rw [if_neg Bool.false_ne_true]
        exact ⟨G3, us, I3, Nat.le_succ_of_le hl, by rw [if_neg Bool.false_ne_true, List.append_nil]; exact pr3⟩
      | true =>
        rw [if_pos rfl, if_pos rfl]
        obtain ⟨hk, hv⟩ := hb hp
        refine (hk.mono s3.gg) H3 s3.gh (c1.on I3.hh) _ fun y G4 H4 s4 uk => ?_
        have I4 := I3.step s4 (ho_not_tup K us)
        refine (hv.mono (s3.gg.trans s4.gg)) H4 s4.gh (c1.on I4.hh) _ fun z G5 H5 s5 uz => ?_
        have I5 := I4.step s5 (ho_not_tup K us)
        refine ⟨_, K.put I5.at_ (K.mono _ _ _ _ s5.gh (uk.on s5.gg).now) (Nat.lt_of_le_of_lt (Nat.le_trans hl (Nat.le_of_lt (Nat.lt_of_lt_of_le hlt hn))) (by decide)), G5, _, I5.set hD _, Nat.le_trans (putA_len _ _ _) (Nat.succ_le_succ hl), ?_⟩
        rw [putAll_snoc]
        exact paired_put (R := fun z b => R' b z G5) ((pr3.on m' s4.gg).on m' s5.gg) _ uz.now
    · obtain rfl : i = xs.length := by omega
      rw [List.take_length] at pr
      refine .inl ⟨W.stop (c1.on I.hh) I.gg I.gh, D, _, rfl, I.at_, K.mu us, fun ob => ?_⟩
      exact q _ _ _ (s1.trans (I.fin hD _)) ((mon_dic m').up ⟨D, ob, us, rfl, upd_same, pr.on m' (same_new I.nD)⟩)
/-- d[y], there -/
theorem gv_dget {kvs : List (κ × β)} {k : κ} {b : β} {td ty : TE} (m' : MonR R') (hd : Gv cs td σ G (Dic K R' kvs)) (hk : Gv cs ty σ G (K.kr k)) (hv : valA kvs k = some b) : Gv cs (tDGet td ty) σ G (R' b) := fun H a c Q q =>
  hd H a c _ fun x G1 H1 s1 ux => (hk.mono s1.gg) H1 s1.gh (c.on s1.hh) _ fun y G2 H2 s2 uy => by
    obtain ⟨d, o, us, ex, hd', p⟩ := (ux.on s2.gg).now
    obtain ⟨z, hz, r⟩ := (paired_val (R := fun z b => R' b z G2) p k).1 b hv
    exact ⟨d, z, ex, by rw [← hz]; exact K.get (.inr ⟨o, s2.gh _ _ hd'⟩) (K.mono _ _ _ _ s2.gh uy.now), q z G2 H2 (s1.trans s2) (m'.up r)⟩
/-- d.get(y, x) -/
theorem gv_dget2 {kvs : List (κ × β)} {k : κ} {b : β} {td ty tx : TE} (m' : MonR R') (hd : Gv cs td σ G (Dic K R' kvs)) (hk : Gv cs ty σ G (K.kr k)) (hx : Gv cs tx σ G (R' b)) : Gv cs (tDGet2 td ty tx) σ G (R' ((valA kvs k).getD b)) := fun H a c Q q =>
  hd H a c _ fun x G1 H1 s1 ux => by
    obtain ⟨d, o, us, ex, hd', p⟩ := ux.now
    have isd : ∀ {Hc : Hp}, Hc d = some (.frz o (K.ho us)) → IsD Hc d := fun {Hc} h => by
      rcases K.isd us with ⟨l, e⟩ | ⟨l, e⟩
      · exact .inl ⟨l, .inr ⟨o, by rw [h, e]⟩⟩
      · exact .inr ⟨l, .inr ⟨o, by rw [h, e]⟩⟩
    refine ⟨d, ex, isd (s1.gh _ _ hd'), (hk.mono s1.gg) H1 s1.gh (c.on s1.hh) _ fun y G2 H2 s2 uy => (hx.mono (s1.gg.trans s2.gg)) H2 s2.gh (c.on (s1.hh.trans s2.hh)) _ fun z G3 H3 s3 uz => ?_⟩
    have e3 := s2.gg.trans s3.gg
    have g := K.get (.inr ⟨o, s3.gh _ _ (e3 _ _ hd')⟩) (K.mono _ _ _ _ s3.gh (uy.on s3.gg).now)
    refine ⟨_, g, q _ G3 H3 ((s1.trans s2).trans s3) ?_⟩
    have p3 : DPr R' us kvs G3 := DPr.on p m' e3
    obtain ⟨p1, p2⟩ := paired_val (R := fun z b => R' b z G3) p3 k
    cases hv : valA kvs k with
    | none =>
      rw [p2 hv]
      exact uz
    | some b' =>
      obtain ⟨w, hw, r⟩ := p1 b' hv
      rw [hw]
      exact m'.up r
end
end Crt
end

section
/-! Checks: is_integer, is_word. -/
namespace Crt
open PySem PySem.Spec PyProof.Rows L2
section
variable {cs : Held} {σ : L2.St} {G : Hp} {ta tb tc : TE} {φ ψ χ : PV} {K : PySem.W.Frag}
/-- isinstance(x, c) -/
theorem gv_isi {c : V} {u t : Value} {b : Bool} (ha : Gv cs ta σ G φ) (hc : Gv cs tc σ G (IsV c)) (k : ClsV c u) (ty : ∀ x G1 H1, Same G1 H1 → φ x G1 → TyX K H1 x t) (e : PySem.W.kitOne K t u = some b) : Gv cs (tCB (rIsi K) (tCons ta (tCons tc tNil))) σ G (IsB b) :=
  gv_cb' (ga_2 ha hc) fun vs G1 H1 s c1 g up => rv_at (v := .bl b) s (up_c rfl) fun Q q => by
    obtain ⟨v, w, rfl, h1, h2⟩ := up.now
    have h2 : w = c := h2
    subst h2
    exact ⟨v, w, t, u, b, rfl, k, ty v G1 H1 s h1, e, q⟩
/-- x op y op' z of ints -/
theorem gv_chain {f f' : Int → Int → Bool} {i j k : Int} (ha : Gv cs ta σ G (IsI i)) (hb : Gv cs tb σ G (IsI j)) (hc : Gv cs tc σ G (IsI k)) :
    Gv cs (tChain (rI0 fun a b => .bl (f a b)) (rI0 fun a b => .bl (f' a b)) ta tb tc) σ G (IsB (f i j && f' j k)) := fun H a c Q q =>
  ha H a c _ fun x G1 H1 s1 ux => (hb.mono s1.gg) H1 s1.gh (c.on s1.hh) _ fun y G2 H2 s2 uy => by
    refine ⟨i, j, ux.now, uy.now, f i j, rfl, ?_⟩
    cases h : f i j with
    | true =>
      rw [if_pos rfl]
      refine (hc.mono (s1.gg.trans s2.gg)) H2 s2.gh (c.on (s1.hh.trans s2.hh)) _ fun z G3 H3 s3 uz => ⟨j, k, uy.now, uz.now, ?_⟩
      exact q _ G3 H3 ((s1.trans s2).trans s3) (by rw [h]; exact up_c rfl)
    | false =>
      rw [if_neg Bool.false_ne_true]
      exact q _ G2 H2 (s1.trans s2) (by rw [h]; exact up_c rfl)
/-- all(bs) -/
theorem gv_all {bs : List Bool} (ha : Gv cs ta σ G (LstR IsB bs)) : Gv cs (tCB (rAll K) (tCons ta tNil)) σ G (IsB (bs.all id)) :=
  gv_cb' (ga_1 ha) fun vs G1 H1 s c1 g up => rv_at (v := .bl (bs.all id)) s (up_c rfl) fun Q q => by
    obtain ⟨v, rfl, a, us, rfl, h2, p⟩ := up.now
    exact ⟨a, bs, rfl, SqL.of (by rw [← paired_B p]; exact s _ _ h2), q⟩
/-- len(text) -/
theorem gv_lenS {z : Str} (hz : z.length ≤ sizeLine) (ha : Gv cs ta σ G (IsS z)) : Gv cs (tCB (fun xs H Q => ∃ z, xs = [.str z] ∧ z.length ≤ sizeLine ∧ Q (.int z.length) H) (tCons ta tNil)) σ G (IsI z.length) :=
  gv_cb' (ga_1 ha) fun vs G1 H1 s c1 g up => rv_at (v := .int z.length) s (up_c rfl) fun Q q => by
    obtain ⟨v, rfl, h⟩ := up.now
    exact ⟨z, by rw [show v = .str z from h], hz, q⟩
theorem gv_inS {c : Nat} {z : Str} (ha : Gv cs ta σ G (IsS ⟨#[c]⟩)) (hb : Gv cs tb σ G (IsS z)) : Gv cs (tOp (fun x y H Q => ∃ (c : Nat) (z : Str), x = .str ⟨#[c]⟩ ∧ y = .str z ∧ Q (.bl (decide (c ∈ z.cps.toList))) H) ta tb) σ G (IsB (decide (c ∈ z.cps.toList))) :=
  gv_op ha hb fun x y G1 H1 e _ _ ux uy => rv_at (v := .bl (decide (c ∈ z.cps.toList))) e (up_c rfl) fun Q q => ⟨c, z, ux.now, uy.now, q⟩
theorem ga_imp {ta : TA} {ψ ψ' : List V → Hp → Prop} (h : GvA cs ta σ G ψ) (k : ∀ vs G, ψ vs G → ψ' vs G) : GvA cs ta σ G ψ' := fun H a c Q q => h H a c Q fun vs G' H' s u => q vs G' H' s (u.imp (k vs))
theorem gv_isb {te : TE} {a b : Bool} (h : Gv cs te σ G (IsB a)) (e : a = b) : Gv cs te σ G (IsB b) := e ▸ h
theorem if_gv {b : Bool} {tt : TT} {t u : TS} {σ : L2.St} {H : Hp} {D : Ends} (h : GvT cs tt σ G b) (e : Same G H) (c : Hold cs H) (k : ∀ G1 H1, Stp G H G1 H1 → if b = true then t D σ H1 else u D σ H1) : tIfS tt t u D σ H := h H e c _ fun G1 H1 s => k G1 H1 s
/-- the statement ends here with that value -/
theorem ret_gv {te : TE} {σ : L2.St} {H : Hp} {D : Ends} (h : Gv cs te σ G φ) (e : Same G H) (c : Hold cs H) (k : ∀ v G' H', Stp G H G' H' → Up (φ v) G' → D.rt v H') : tRet te D σ H := h H e c _ k
theorem nx_go {σ : L2.St} {H : Hp} {D : Ends} (h : D.nx σ H) : tNext D σ H := h
end
section
variable {α : Type} {R : α → PV} {cs cs1 : Held} {σ : L2.St} {G H : Hp} {wi : TI} {g : TG} {tb t u : TS} {D : Ends} {xs : List α}
theorem seq_go (h : t { D with nx := u D } σ H) : tSeq t u D σ H := h
/-- a loop that changes nothing but names -/
theorem for_gv (hs : Src wi σ cs cs1 G xs R) (e : Same G H) (c : Hold cs H) (Iv : Nat → L2.St → Hp → Hp → Prop) (h0 : ∀ G1 H1, Stp G H G1 H1 → Iv 0 σ G1 H1)
    (step : ∀ G1 H1, Stp G H G1 H1 → ∀ (i : Nat) (x : α) (v : V) σ2 Gc Hc G2 H2, xs[i]? = some x → Stp G1 H1 Gc Hc → Iv i σ2 Gc Hc → Stp Gc Hc G2 H2 → Up (R x v) G2 →
      g v σ2 H2 fun σ3 H3 => tb { D with nx := fun σ' H' => ∃ G', Stp G1 H1 G' H' ∧ Iv (i + 1) σ' G' H', ct := fun σ' H' => ∃ G', Stp G1 H1 G' H' ∧ Iv (i + 1) σ' G' H', bk := D.nx } σ3 H3)
    (fin : ∀ σ2 Gc Hc, Stp G H Gc Hc → Iv xs.length σ2 Gc Hc → D.nx σ2 Hc) : tFor wi g tb D σ H := hs H e c _ fun J G1 H1 s1 c1 W =>
  for_run W (fun i σ2 Gc Hc => Stp G1 H1 Gc Hc ∧ Iv i σ2 Gc Hc) (fun i σ2 Gc Hc h => ⟨h.1.gg, h.1.gh, c1.on h.1.hh⟩) ⟨Stp.refl s1.gh, h0 G1 H1 s1⟩
    (fun i x v σ2 Gc Hc G2 H2 hx h s u => step G1 H1 s1 i x v σ2 Gc Hc G2 H2 hx h.1 h.2 s u) fun σ2 Gc Hc h => fin σ2 Gc Hc (s1.trans h.1) h.2
end
/-- the module's constants -/
def MgV (mg : Str → Option Value) (x : Str) (v : V) : Prop := ∃ u, mg x = some u ∧ RelV v u
/-- a word: one to eight letters -/
def Word (z : Str) : Prop := 1 ≤ z.length ∧ z.length ≤ 8 ∧ ∀ c ∈ z.cps.toList, c ∈ letters.cps.toList
def spIsInt : Sp := SpF (α := Int) (fun i vs _ => vs = [.int i]) (fun _ => IsB true)
def spIsWord : Sp := SpF (α := Str) (fun z vs _ => vs = [.str z] ∧ Word z) (fun _ => IsB true)
section
variable {P : Program} {w : World} {K : PySem.W.Frag} {mg : Str → Option Value} {base : Heap}
theorem ok_is_integer (F : Dfn K mg "is_integer" (top 9)) (mi : mg "isinstance" = none) (mn : mg "int" = none) (mb : mg "bool" = none) : CalP P w K mg base 1 "is_integer" spIsInt := by
  refine cal_of (N := ["value"]) (ps := ["value"]) F (by decide +kernel) ?_ (fun _ _ _ _ _ _ us hl => match us, hl with | [_], _ => rfl) ?_
  · rintro vs H Q E ⟨x, G, _, e, _⟩
    rw [e] <;> rfl
  · intro nd cdv f A outer s H vs Q E hr h
    refine ⟨_, pss_one (ps_ret (pe_and (pe_callB call_isi rfl mi boot_isinstance (pa_cons (pv 0) (pa_cons (pe_bltn (v := .ty "int") rfl mn boot_int rfl) pa_nil))) (pe_one (pe_not (pe_callB call_isi rfl mi boot_isinstance (pa_cons (pv 0) (pa_cons (pe_bltn (v := .ty "bool") rfl mb boot_bool rfl) pa_nil))))))), ?_⟩
    obtain ⟨i, G, eG, rfl, k⟩ := h
    exact gv_andV (cs := []) (a := true) (b := true) (gv_isi (gv_vi rfl) (gv_c (up_c rfl)) (.ty "int") (fun x _ _ _ e => by rw [show x = .int i from e]; exact .base (.int i)) (kit_ty (by decide +kernel)))
      (fun _ => gv_notV (a := false) (gv_isi (gv_vi rfl) (gv_c (up_c rfl)) (.ty "bool") (fun x _ _ _ e => by rw [show x = .int i from e]; exact .base (.int i)) (kit_ty (by decide +kernel)))) H eG hold_nil _ k
theorem ok_is_word (F : Dfn K mg "is_word" (top 10)) (mi : mg "isinstance" = none) (ms : mg "str" = none) (ml : mg "len" = none) (ma : mg "all" = none) (m1 : MgV mg "MOST_LETTERS" (.int 8)) (m2 : MgV mg "LETTERS" (.str letters)) : CalP P w K mg base 1 "is_word" spIsWord := by
  refine cal_of (N := ["value", "letter"]) (ps := ["value"]) F (by decide +kernel) ?_ (fun _ _ _ _ _ _ us hl => match us, hl with | [_], _ => rfl) ?_
  · rintro vs H Q E ⟨x, G, _, e, _⟩
    rw [e.1] <;> rfl
  · intro nd cdv f A outer s H vs Q E hr h
    refine ⟨_, pss_cons (ps_if (PW.pt (pw_or (pt_not (pt_val (pe_callB call_isi rfl mi boot_isinstance (pa_cons (pv 0) (pa_cons (pe_bltn (v := .ty "str") rfl ms boot_str rfl) pa_nil))))) (pw_or1 (pt_not (pt_chain op_le op_le pe_int (pe_callB call_len_str rfl ml boot_len (pa_cons (pv 0) pa_nil)) (C8.pe_gc rfl m1)))))) (pss_one (ps_ret pe_bl)) pss_nil)
      (pss_one (ps_ret (pe_callB (cr_all rfl) rfl ma boot_all (pa_cons (pe_lc (own := [("letter", 1)]) (g := gName 1) (tt := tYes) rfl nd (pi_str (pv 0)) (blkOk_by (N := ["value", "letter"]) (sc := C8.fnScope (top 10)) (by decide +kernel)) (fun _ _ _ _ _ => pg_name (i := 1) nd rfl (Or.inl rfl)) (fun _ _ _ _ _ => pts_nil) (fun _ _ _ _ _ => pe_cmpR op_in_sign (pv 1) (C8.pe_gc rfl m2) (by with_unfolding_all rfl))) pa_nil)))), ?_⟩
    obtain ⟨z, G, eG, ⟨rfl, h1, h2, h3⟩, k⟩ := h
    have hz : z.length ≤ sizeLine := Nat.le_trans h2 (by decide)
    refine if_gv (cs := []) (b := false || !(true && true)) (gt_or (a := false) (gt_not (b := true) (gt_B (gv_isi (gv_vs rfl) (gv_c (up_c rfl)) (.ty "str") (fun x _ _ _ e => by rw [show x = .str z from e]; exact .base (.str z)) (kit_ty (by decide +kernel))))) fun _ => gt_not (b := true) (gt_test (gv_isb (gv_chain (f := fun i j => decide (i ≤ j)) (f' := fun i j => decide (i ≤ j)) gv_ci (gv_lenS hz (gv_vs rfl)) gv_ci) ?_))) eG hold_nil fun G1 H1 s1 => ?_
    · rw [Bool.and_eq_true]
      exact ⟨decide_eq_true (by omega), decide_eq_true (by omega)⟩
    · rw [if_neg (by decide)]
      refine nx_go ?_
      dsimp only
      refine ret_gv (cs := []) (φ := IsB true) ?_ s1.gh hold_nil fun v G' H' s2 u => k v G' H' (s1.trans s2) u
      have e : ((z.cps.toList.map fun c => (⟨#[c]⟩ : Str)).map fun x => decide (x.cps.toList.all fun c => decide (c ∈ letters.cps.toList))).all id = true := by
        rw [List.all_map, List.all_map, List.all_eq_true]
        intro c hc
        simpa using h3 c hc
      rw [← e]
      refine gv_all (gv_map mon_B (src_str (gv_vs rfl)) ?_ ?_)
      · rw [List.length_map, Array.length_toList]
        have : z.cps.size ≤ 8 := h2
        omega
      · rintro v x G2 hx e2 u
        obtain ⟨c, hc, rfl⟩ := List.mem_map.mp hx
        obtain rfl := u.now
        refine ⟨_, tg_name, rfl, ?_⟩
        have e3 : decide ((⟨#[c]⟩ : Str).cps.toList.all fun c => decide (c ∈ letters.cps.toList)) = decide (c ∈ letters.cps.toList) := by simp
        rw [e3]
        exact gv_inS (gv_vs rfl) gv_cs
end
end Crt
end

section
/-! Texts in order; the canonical table of a function. -/
namespace Crt
open PySem PySem.Spec PyProof.Rows L2
instance (x y : Str) : Decidable (ltS x y) := inferInstanceAs (Decidable (x.cps.toList < y.cps.toList))
instance (p q : Str × Str) : Decidable (ltP p q) := inferInstanceAs (Decidable (_ ∨ _))
section
variable {α : Type} [DecidableEq α] (lt : α → α → Prop) [DecidableRel lt]
/-- put into an ascending list -/
def insA (x : α) : List α → List α
  | [] => [x]
  | y :: l => if x = y then y :: l else if lt x y then x :: y :: l else y :: insA x l
def srtA (l : List α) : List α := l.foldr (insA lt) []
variable {lt}
theorem insA_mem {x z : α} : ∀ {l : List α}, z ∈ insA lt x l ↔ z = x ∨ z ∈ l
  | [] => by simp [insA]
  | y :: l => by
    unfold insA
    by_cases h : x = y
    · rw [if_pos h, List.mem_cons]
      constructor
      · exact fun z => .inr z
      · rintro (e | e)
        · exact .inl (e.trans h)
        · exact e
    · rw [if_neg h]
      by_cases h2 : lt x y
      · rw [if_pos h2, List.mem_cons]
      · rw [if_neg h2, List.mem_cons, insA_mem, List.mem_cons]
        exact or_left_comm
theorem insA_asc (tr : ∀ x y z, lt x y → lt y z → lt x z) (tri : ∀ x y, lt x y ∨ x = y ∨ lt y x) {x : α} : ∀ {l : List α}, l.Pairwise lt → (insA lt x l).Pairwise lt
  | [], _ => List.pairwise_singleton _ _
  | y :: l, h => by
    obtain ⟨h1, h2⟩ := List.pairwise_cons.mp h
    unfold insA
    by_cases e : x = y
    · rw [if_pos e]
      exact h
    · rw [if_neg e]
      by_cases q : lt x y
      · rw [if_pos q]
        refine List.pairwise_cons.mpr ⟨fun z hz => ?_, h⟩
        rcases List.mem_cons.mp hz with k | k
        · exact k ▸ q
        · exact tr _ _ _ q (h1 z k)
      · rw [if_neg q]
        refine List.pairwise_cons.mpr ⟨fun z hz => ?_, insA_asc tr tri h2⟩
        rcases insA_mem.mp hz with k | k
        · rcases tri x y with r | r | r
          · exact absurd r q
          · exact absurd r e
          · exact k ▸ r
        · exact h1 z k
theorem srtA_mem {z : α} : ∀ {l : List α}, z ∈ srtA lt l ↔ z ∈ l
  | [] => Iff.rfl
  | x :: l => by
    show z ∈ insA lt x (srtA lt l) ↔ _
    rw [insA_mem, srtA_mem, List.mem_cons]
theorem srtA_asc (tr : ∀ x y z, lt x y → lt y z → lt x z) (tri : ∀ x y, lt x y ∨ x = y ∨ lt y x) : ∀ {l : List α}, (srtA lt l).Pairwise lt
  | [] => List.Pairwise.nil
  | _ :: _ => insA_asc tr tri (srtA_asc tr tri)
theorem asc_nodup (ir : ∀ x, ¬ lt x x) {l : List α} (h : l.Pairwise lt) : l.Nodup := h.imp fun {a b} q (e : a = b) => ir a (by rw [← e] at q; exact q)
end
theorem nodup_le {α : Type} [DecidableEq α] : ∀ {l D : List α}, l.Nodup → (∀ x ∈ l, x ∈ D) → l.length ≤ D.length
  | [], _, _, _ => Nat.zero_le _
  | a :: l, D, d, m => by
    obtain ⟨d1, d2⟩ := List.nodup_cons.mp d
    have ha : a ∈ D := m a List.mem_cons_self
    have h := nodup_le (D := D.erase a) d2 fun x hx => (List.mem_erase_of_ne fun e : x = a => d1 (e ▸ hx)).mpr (m x (List.mem_cons_of_mem _ hx))
    rw [List.length_erase_of_mem ha] at h
    have := List.length_pos_of_mem ha
    rw [List.length_cons]
    omega
def srtS (l : List Str) : List Str := srtA ltS l
def srtP (l : List (Str × Str)) : List (Str × Str) := srtA ltP l
theorem srtS_mem {z : Str} {l : List Str} : z ∈ srtS l ↔ z ∈ l := srtA_mem
theorem srtP_mem {z : Str × Str} {l : List (Str × Str)} : z ∈ srtP l ↔ z ∈ l := srtA_mem
theorem srtS_asc (l : List Str) : (srtS l).Pairwise ltS := srtA_asc (lt := ltS) (fun _ _ _ => ltS_trans) ltS_tri
theorem srtP_asc (l : List (Str × Str)) : (srtP l).Pairwise ltP := srtA_asc (lt := ltP) (fun _ _ _ => ltP_trans) ltP_tri
theorem ascS_nodup {l : List Str} (h : l.Pairwise ltS) : l.Nodup := asc_nodup ltS_irrefl h
theorem ascP_nodup {l : List (Str × Str)} (h : l.Pairwise ltP) : l.Nodup := asc_nodup ltP_irrefl h
theorem ascS_uniq {l m : List Str} (h : l.Pairwise ltS) (k : m.Pairwise ltS) (e : ∀ x, x ∈ l ↔ x ∈ m) : l = m := asc_uniq ltS_irrefl (fun _ _ _ => ltS_trans) h k e
theorem ascP_uniq {l m : List (Str × Str)} (h : l.Pairwise ltP) (k : m.Pairwise ltP) (e : ∀ x, x ∈ l ↔ x ∈ m) : l = m := asc_uniq ltP_irrefl (fun _ _ _ => ltP_trans) h k e
theorem srtS_of {l zs : List Str} (h : zs.Pairwise ltS) (e : ∀ x, x ∈ zs ↔ x ∈ l) : zs = srtS l := ascS_uniq h (srtS_asc l) fun x => (e x).trans srtS_mem.symm
theorem srtP_of {l zs : List (Str × Str)} (h : zs.Pairwise ltP) (e : ∀ x, x ∈ zs ↔ x ∈ l) : zs = srtP l := ascP_uniq h (srtP_asc l) fun x => (e x).trans srtP_mem.symm

/-! ### the table of a function that is zero but for some texts -/
abbrev Fn := Str → Int
def Sup (f : Fn) (U : List Str) : Prop := ∀ k, f k ≠ 0 → k ∈ U
def nf (f : Fn) (U : List Str) : List (Str × Int) := ((srtS U).filter fun k => decide (f k ≠ 0)).map fun k => (k, f k)
/-- the function of a table -/
def fnOfT (l : List (Str × Int)) : Fn := fun k => (valA l k).getD 0
theorem nf_keys (f : Fn) (U : List Str) : (nf f U).map (·.1) = (srtS U).filter fun k => decide (f k ≠ 0) := by
  unfold nf
  rw [List.map_map]
  exact List.map_id _
theorem nf_asc (f : Fn) (U : List Str) : ((nf f U).map (·.1)).Pairwise ltS := by
  rw [nf_keys]
  exact (srtS_asc U).filter _
theorem nf_nodup (f : Fn) (U : List Str) : ((nf f U).map (·.1)).Nodup := ascS_nodup (nf_asc f U)
theorem nf_mem {f : Fn} {U : List Str} {k : Str} : k ∈ (nf f U).map (·.1) ↔ k ∈ U ∧ f k ≠ 0 := by
  rw [nf_keys, List.mem_filter, srtS_mem, decide_eq_true_eq]
theorem valA_mapf {f : Fn} {k : Str} : ∀ l : List Str, valA (l.map fun k => (k, f k)) k = if k ∈ l then some (f k) else none
  | [] => rfl
  | x :: l => by
    rw [List.map_cons, valA_cons, valA_mapf l]
    by_cases e : x = k
    · subst e
      rw [if_pos rfl, if_pos List.mem_cons_self]
    · rw [if_neg e]
      by_cases h : k ∈ l
      · rw [if_pos h, if_pos (List.mem_cons_of_mem _ h)]
      · rw [if_neg h, if_neg fun z => h ((List.mem_cons.mp z).resolve_left fun q => e q.symm)]
theorem nf_val {f : Fn} {U : List Str} (s : Sup f U) (k : Str) : (valA (nf f U) k).getD 0 = f k := by
  unfold nf
  rw [valA_mapf]
  by_cases h : k ∈ (srtS U).filter fun k => decide (f k ≠ 0)
  · rw [if_pos h]
    rfl
  · rw [if_neg h]
    rw [List.mem_filter, srtS_mem, decide_eq_true_eq] at h
    exact (Classical.byContradiction fun q => h ⟨s k q, q⟩ : f k = 0).symm
theorem nf_fn {f : Fn} {U : List Str} (s : Sup f U) : fnOfT (nf f U) = f := funext fun k => nf_val s k
theorem nf_sup {f : Fn} {U V : List Str} (s : Sup f U) (t : Sup f V) : nf f U = nf f V := by
  have e : ((srtS U).filter fun k => decide (f k ≠ 0)) = (srtS V).filter fun k => decide (f k ≠ 0) := by
    refine ascS_uniq ((srtS_asc U).filter _) ((srtS_asc V).filter _) fun x => ?_
    rw [List.mem_filter, List.mem_filter, srtS_mem, srtS_mem, decide_eq_true_eq]
    exact ⟨fun h => ⟨t x h.2, h.2⟩, fun h => ⟨s x h.2, h.2⟩⟩
  unfold nf
  rw [e]
theorem nf_len (f : Fn) (U : List Str) : (nf f U).length ≤ U.length := by
  have h1 : (nf f U).length = ((nf f U).map (·.1)).length := (List.length_map ..).symm
  rw [h1]
  exact nodup_le (nf_nodup f U) fun x hx => (nf_mem.mp hx).1
theorem nf_inj {f g : Fn} {U V : List Str} (s : Sup f U) (t : Sup g V) (e : nf f U = nf g V) : f = g := by
  rw [← nf_fn s, ← nf_fn t, e]
theorem sup_table (l : List (Str × Int)) : Sup (fnOfT l) (l.map (·.1)) := fun k h => Classical.byContradiction fun q => h (by unfold fnOfT; rw [valA_none.mpr q] <;> rfl)
end Crt
end

section
/-! sorted(set(..)) as readings; without_zeros, checked. -/
namespace Crt
open PySem PySem.Spec PyProof.Rows L2
section
variable {cs : Held} {σ : L2.St} {G : Hp} {td : TE} {w : World} {β : Type} {R : β → PV}
theorem keys_eq {κ : Type} {F : κ × V → κ × β → Prop} {us : List (κ × V)} {kvs : List (κ × β)} (p : Paired (fun u x => u.1 = x.1 ∧ F u x) us kvs) : us.map (·.1) = kvs.map (·.1) := by
  induction p with
  | nil => rfl
  | cons a _ ih => rw [List.map_cons, List.map_cons, a.1, ih]
/-- a set of texts -/
def SetR2 (w : World) (xs : List Str) : PV := fun v G => ∃ a ms ys, v = .ref a ∧ G a = some (SetVO w a ms) ∧ StrsAre ms ys ∧ ys.Nodup ∧ ∀ k, k ∈ ys ↔ k ∈ xs
theorem mon_set2 {w : World} : MonR (SetR2 w) := fun x v H H' e ⟨a, ms, ys, h1, h2, h3⟩ => ⟨a, ms, ys, h1, e _ _ h2, h3⟩
theorem gv_setK {kvs : List (Str × β)} (hn : kvs.length ≤ 15) (h : Gv cs td σ G (Dic KS R kvs)) : Gv cs (tCB (rSetK w) (tCons td tNil)) σ G (SetR2 w (kvs.map (·.1))) :=
  gv_cb' (ga_1 h) fun vs G1 H1 s c1 g up => fun Q q => by
    obtain ⟨v, rfl, d, o, us, rfl, hd, p⟩ := up.now
    have ek : us.map (·.1) = kvs.map (·.1) := keys_eq p
    refine ⟨d, us.map fun p : Str × V => ((Sum.inr p.1 : Key), p.2), us.map (·.1), rfl, .inr ⟨o, s _ _ hd⟩, by rw [List.map_map, List.map_map] <;> rfl, by rw [List.length_map, p.length]; exact hn, fun r ms ys hr h1 h2 h3 => ?_⟩
    exact q _ _ _ (Stp.laid s hr) (mon_set2.up ⟨r, ms, ys, rfl, upd_same, h1, h2, by rw [← ek]; exact h3⟩)
theorem gv_setS {xs : List Str} (hn : xs.length ≤ 1000) (h : Gv cs td σ G (LstR IsS xs)) : Gv cs (tCB (rSetS w) (tCons td tNil)) σ G (SetR2 w xs) :=
  gv_cb' (ga_1 h) fun vs G1 H1 s c1 g up => fun Q q => by
    obtain ⟨v, rfl, d, us, rfl, hd, p⟩ := up.now
    rw [paired_S p] at hd
    exact ⟨d, xs, rfl, s _ _ hd, hn, fun r ms ys hr h1 h2 h3 => q _ _ _ (Stp.laid s hr) (mon_set2.up ⟨r, ms, ys, rfl, upd_same, h1, h2, h3⟩)⟩
theorem gv_sortS {xs : List Str} (hn : xs.length ≤ 1000) (h : Gv cs td σ G (SetR2 w xs)) : Gv cs (tCB (rSortS w) (tCons td tNil)) σ G (LstR IsS (srtS xs)) :=
  gv_cb' (ga_1 h) fun vs G1 H1 s c1 g up => fun Q q => by
    obtain ⟨v, rfl, a, ms, ys, rfl, ha, h1, h2, h3⟩ := up.now
    have hl := nodup_le h2 fun k hk => (h3 k).mp hk
    refine ⟨a, ms, ys, rfl, s _ _ ha, h1, h2, Nat.le_trans hl hn, fun r zs hr p m _ => ?_⟩
    have e := srtS_of p fun k => (m k).trans (h3 k)
    subst e
    exact q _ _ _ (Stp.laid s hr) (lst_new mon_S (paired_S' _) (s.free hr))
/-- sorted(set(d)), d by pairs of texts -/
def SetR3 (w : World) (xs : List (Str × Str)) : PV := fun v G => ∃ (a : Addr) (L : List ((Str × Str) × Addr)), v = .ref a ∧ G a = some (SetVO w a (L.map fun q : (Str × Str) × Addr => Value.ref q.2)) ∧ (L.map (·.1)).Perm xs ∧ (L.map (·.1)).Nodup ∧ ∀ q ∈ L, G q.2 = some (.tup [.str q.1.1, .str q.1.2])
theorem mon_set3 {w : World} : MonR (SetR3 w) := fun x v H H' e ⟨a, L, h1, h2, h3, h4, h5⟩ => ⟨a, L, h1, e _ _ h2, h3, h4, fun q hq => e _ _ (h5 q hq)⟩
theorem learn_all : ∀ (L : List ((Str × Str) × Addr)) {G H : Hp}, Same G H → (∀ q ∈ L, H q.2 = some (.tup [.str q.1.1, .str q.1.2])) → ∃ G', Stp G H G' H ∧ ∀ q ∈ L, G' q.2 = some (.tup [.str q.1.1, .str q.1.2])
  | [], G, H, e, _ => ⟨G, Stp.refl e, fun q h => by cases h⟩
  | q :: L, G, H, e, h => by
    obtain ⟨G1, s1, h1⟩ := Stp.learn e (h q List.mem_cons_self)
    obtain ⟨G2, s2, h2⟩ := learn_all L s1.gh fun r hr => h r (List.mem_cons_of_mem _ hr)
    refine ⟨G2, s1.trans s2, fun r hr => ?_⟩
    rcases List.mem_cons.mp hr with e | hr
    · rw [e]
      exact s2.gg _ _ h1
    · exact h2 r hr
theorem gv_setD {kvs : List ((Str × Str) × β)} (hn : kvs.length ≤ 15) (h : Gv cs td σ G (Dic KP R kvs)) : Gv cs (tCB (rSetD w) (tCons td tNil)) σ G (SetR3 w (kvs.map (·.1))) :=
  gv_cb' (ga_1 h) fun vs G1 H1 s c1 g up => fun Q q => by
    obtain ⟨v, rfl, d, o, us, rfl, hd, p⟩ := up.now
    have ek : us.map (·.1) = kvs.map (·.1) := keys_eq p
    refine ⟨d, us.map fun p : (Str × Str) × V => (([.inr p.1.1, .inr p.1.2] : List Key), p.2), rfl, .inr ⟨o, s _ _ hd⟩, by rw [List.length_map, p.length]; exact hn, fun r L hr pm nd ht => ?_⟩
    have inj : ∀ a b : Str × Str, ([.inr a.1, .inr a.2] : List Key) = [.inr b.1, .inr b.2] → a = b := fun a b h => by
      injection h with h1 h2
      injection h2 with h3 _
      exact Prod.ext (Sum.inr.inj h1) (Sum.inr.inj h3)
    rw [List.map_map] at pm
    have e1 : (us.map ((fun x : List Key × V => x.1) ∘ fun p : (Str × Str) × V => ([.inr p.1.1, .inr p.1.2], p.2))) = (kvs.map (·.1)).map fun p => ([.inr p.1, .inr p.2] : List Key) := by
      rw [← ek, List.map_map]
      rfl
    rw [e1] at pm
    have dec : ∃ M : List ((Str × Str) × Addr), L = M.map fun q => ([.inr q.1.1, .inr q.1.2], q.2) := by
      have hm : ∀ q ∈ L, ∃ p : Str × Str, q.1 = [.inr p.1, .inr p.2] := fun q hq => by
        obtain ⟨p, _, e⟩ := List.mem_map.mp (pm.mem_iff.mp (List.mem_map.mpr ⟨q, hq, rfl⟩))
        exact ⟨p, e.symm⟩
      clear pm nd ht q
      induction L with
      | nil => exact ⟨[], rfl⟩
      | cons x l ih =>
        obtain ⟨M, e⟩ := ih fun q hq => hm q (List.mem_cons_of_mem _ hq)
        obtain ⟨p, hp⟩ := hm x List.mem_cons_self
        exact ⟨(p, x.2) :: M, by rw [List.map_cons, ← e, ← hp]⟩
    obtain ⟨M, rfl⟩ := dec
    rw [List.map_map] at pm nd
    have e2 : (M.map ((fun x : List Key × Addr => x.1) ∘ fun q : (Str × Str) × Addr => ([.inr q.1.1, .inr q.1.2], q.2))) = (M.map (·.1)).map fun p => ([.inr p.1, .inr p.2] : List Key) := by
      rw [List.map_map]
      rfl
    rw [e2] at pm nd
    have pm2 : (M.map (·.1)).Perm (kvs.map (·.1)) := by
      have nd1 : (M.map (·.1)).Nodup := nodup_of_map nd
      refine perm_len _ _ nd1 (fun k hk => ?_) ?_
      · obtain ⟨p, hp, e⟩ := List.mem_map.mp (pm.mem_iff.mp (List.mem_map.mpr ⟨k, hk, rfl⟩))
        rw [← inj _ _ e]
        exact hp
      · have := pm.length_eq
        simp only [List.length_map] at this ⊢
        exact this.symm
    have st := Stp.laid (o := SetVO w r (M.map fun q => Value.ref q.2)) s hr
    have e3 : ((M.map fun q : (Str × Str) × Addr => (([.inr q.1.1, .inr q.1.2] : List Key), q.2)).map fun q => Value.ref q.2) = M.map fun q => Value.ref q.2 := by
      rw [List.map_map]
      rfl
    rw [e3]
    obtain ⟨G2, s2, h2⟩ := learn_all M st.gh fun q hq => by
      have hq2 := ht _ (List.mem_map.mpr ⟨q, hq, rfl⟩)
      rw [upd_ne (ne_of_none hq2 hr)]
      exact hq2
    exact q _ _ _ (st.trans s2) (mon_set3.up ⟨r, M, rfl, s2.gg _ _ upd_same, pm2, nodup_of_map nd, h2⟩)
theorem gv_sortP {xs : List (Str × Str)} (hn : xs.length ≤ 1000) (h : Gv cs td σ G (SetR3 w xs)) : Gv cs (tCB (rSortP w) (tCons td tNil)) σ G (LstR PrR (srtP xs)) :=
  gv_cb' (ga_1 h) fun vs G1 H1 s c1 g up => fun Q q => by
    obtain ⟨v, rfl, a, L, rfl, ha, pm, nd, ht⟩ := up.now
    refine ⟨a, L, rfl, s _ _ ha, nd, fun r hr => s _ _ (ht r hr), by rw [← List.length_map (f := (·.1)), pm.length_eq]; exact hn, fun r M hr p m => ?_⟩
    have e : M.map (·.1) = srtP xs := srtP_of p fun k => ((m.map (·.1)).trans pm).mem_iff
    have pr : Paired (fun u x => PrR x u G1) (M.map fun q => V.ref q.2) (srtP xs) := by
      rw [← e]
      have hM : ∀ r ∈ M, G1 r.2 = some (.tup [.str r.1.1, .str r.1.2]) := fun r hr => ht r (m.mem_iff.mp hr)
      clear p m e
      induction M with
      | nil => exact .nil
      | cons x l ih => exact .cons ⟨x.2, rfl, hM x List.mem_cons_self⟩ (ih fun r hr => hM r (List.mem_cons_of_mem _ hr))
    exact q _ _ _ (Stp.laid s hr) (lst_new mon_PrR pr (s.free hr))
end
end Crt
end

section
/-! without_zeros, checked. -/
namespace Crt
open PySem PySem.Spec PyProof.Rows L2
abbrev Cnt (l : List (Str × Int)) : PV := Dic KS IsI l
theorem mon_cnt : MonR Cnt := mon_dic mon_I
/-- the table without its zeros, in order -/
def wz (l : List (Str × Int)) : List (Str × Int) := nf (fnOfT l) (l.map (·.1))
theorem fnOfT_some {l : List (Str × Int)} {k : Str} (h : k ∈ l.map (·.1)) : valA l k = some (fnOfT l k) := by
  unfold fnOfT
  cases q : valA l k with
  | none => exact absurd h (valA_none.mp q)
  | some b => rfl
def spWz : Sp := SpF (α := List (Str × Int)) (fun l vs G => ∃ v, vs = [v] ∧ Cnt l v G ∧ l.length ≤ 15) (fun l => Cnt (wz l))
section
variable {P : Program} {w : World} {K : PySem.W.Frag} {mg : Str → Option Value} {base : Heap}
theorem ok_without_zeros (F : Dfn K mg "without_zeros" (top 22)) (ms : mg "set" = none) (mo : mg "sorted" = none) : CalP P w K mg base 1 "without_zeros" spWz := by
  refine cal_of (N := ["counts", "kind"]) (ps := ["counts"]) F (by decide +kernel) ?_ (fun _ _ _ _ _ _ us hl => match us, hl with | [_], _ => rfl) ?_
  · rintro vs H Q E ⟨x, G, _, ⟨v, e, _⟩, _⟩
    rw [e] <;> rfl
  · intro nd cdv f A outer s H vs Q E hr h
    have hu := hu_of hr
    refine ⟨_, pss_one (ps_ret (pe_fz (pe_dq (tk := false) (own := [("kind", 1)]) (g := gName 1) rfl hu nd (pi_list (pe_callB (cr_sortS rfl hr.units) rfl mo boot_sorted (pa_cons (pe_callTy (cr_setK rfl) rfl ms boot_set (pa_cons (pv 0) pa_nil)) pa_nil)))
      (blkOk_by (N := ["counts", "kind"]) (sc := C8.fnScope (top 22)) (by decide +kernel)) (fun _ _ _ _ _ => pg_name (i := 1) nd rfl (Or.inl rfl)) (fun _ _ _ _ _ => pts_one (pt_cmpR op_ne (pe_dget hu (pv 0) (pv 1) (fun _ _ => rfl)) pe_int (nomark _))) (fun _ _ _ _ _ => pv 1) (fun _ _ _ _ _ => pe_dget hu (pv 0) (pv 1) (fun _ _ => rfl))))), ?_⟩
    obtain ⟨l, G, eG, ⟨v, rfl, hl, hn⟩, k⟩ := h
    have hkl : (l.map (·.1)).length ≤ 15 := by rw [List.length_map]; exact hn
    have e : putAll [] (((srtS (l.map (·.1))).filter fun k => decide (fnOfT l k ≠ 0)).map fun k => (k, fnOfT l k)) = wz l := by
      have nd0 := nf_nodup (fnOfT l) (l.map (·.1))
      exact putAll_new (l := []) _ nd0
    dsimp only at k
    rw [← e] at k
    refine gv_dq (cs := []) (cs1 := []) (K := KS) (kf := fun k => k) mon_I (src_list mon_S (gv_sortS (by omega) (gv_setK hn (gv_var rfl (mon_cnt.up hl))))) ?_ ?_ H eG hold_nil _ k
    · have := nodup_le (ascS_nodup (srtS_asc (l.map (·.1)))) fun x hx => srtS_mem.mp hx
      omega
    · rintro v x G1 hx e1 u
      obtain rfl := u.now
      have hv := fnOfT_some (srtS_mem.mp hx)
      have get : ∀ {σ : L2.St}, σ[0]? = some (some v) → σ[1]? = some (some (.str x)) → Gv [] (tDGet (tVar 0) (tVar 1)) σ G1 (IsI (fnOfT l x)) := fun h0 h1 => gv_dget (K := KS) mon_I (gv_var h0 ((mon_cnt.up hl).on e1)) (gv_vs h1) hv
      refine ⟨_, tg_name, rfl, gt_test (gv_isb (gv_ne (get rfl rfl) gv_ci rfl) ?_), fun _ => ⟨gv_vs rfl, get rfl rfl⟩⟩
      by_cases h : fnOfT l x = 0 <;> simp [h]
end
end Crt
end

section
/-! checked. -/
namespace Crt
open PySem PySem.Spec PyProof.Rows L2
def spChecked : Sp := SpF (α := List (Str × Int)) (fun l vs G => ∃ v, vs = [v] ∧ Cnt l v G ∧ l.length ≤ 15 ∧ ∀ k ∈ l.map (·.1), Word k) (fun l => Cnt (wz l))
section
variable {P : Program} {w : World} {K : PySem.W.Frag} {mg : Str → Option Value} {base : Heap}
theorem ok_checked (F : Dfn K mg "checked" (top 23)) (ms : mg "set" = none) (mo : mg "sorted" = none) (h1 : CalP P w K mg base 1 "is_word" spIsWord) (h2 : CalP P w K mg base 1 "is_integer" spIsInt) (h3 : CalP P w K mg base 1 "without_zeros" spWz) : CalP P w K mg base 2 "checked" spChecked := by
  refine cal_of (N := ["counts", "kind"]) (ps := ["counts"]) F (by decide +kernel) ?_ (fun _ _ _ _ _ _ us hl => match us, hl with | [_], _ => rfl) ?_
  · rintro vs H Q E ⟨x, G, _, ⟨v, e, _⟩, _⟩
    rw [e] <;> rfl
  · intro nd cdv f A outer s H vs Q E hr h
    have hu := hu_of hr
    refine ⟨_, pss_cons (ps_for PassesOwn.never rfl (pi_list (pe_callB (cr_sortS rfl hr.units) rfl mo boot_sorted (pa_cons (pe_callTy (cr_setK rfl) rfl ms boot_set (pa_cons (pv 0) pa_nil)) pa_nil))) (pg_name (i := 1) nd rfl (Or.inl rfl))
      (pss_one (ps_if (PW.pt (pw_or (pt_not (pt_val (C8.pe_c h1 hr (Nat.le_refl _) rfl (pa_cons (pv 1) pa_nil)))) (pw_or1 (pt_not (pt_val (C8.pe_c h2 hr (Nat.le_refl _) rfl (pa_cons (pe_dget hu (pv 0) (pv 1) (fun _ _ => rfl)) pa_nil))))))) (pss_one ps_never) pss_nil)))
      (pss_one (ps_ret (C8.pe_c h3 hr (Nat.le_refl _) rfl (pa_cons (pv 0) pa_nil)))), ?_⟩
    obtain ⟨l, G, eG, ⟨v, rfl, hl, hn, hw⟩, k⟩ := h
    dsimp only at k
    have hkl : (l.map (·.1)).length ≤ 15 := by rw [List.length_map]; exact hn
    refine seq_go (for_gv (cs := []) (src_list mon_S (gv_sortS (by omega) (gv_setK hn (gv_var rfl (mon_cnt.up hl))))) eG hold_nil (fun i σ Gc Hc => σ[0]? = some (some v) ∧ σ.length = 2) (fun _ _ _ => ⟨rfl, rfl⟩) ?_ ?_)
    · rintro G1 H1 s1 i x z σ Gc Hc G2 H2 hx s2 ⟨h0, hlen⟩ s3 u
      obtain rfl := u.now
      have s4 := s1.trans (s2.trans s3)
      have hk := srtS_mem.mp (List.mem_of_getElem? hx)
      have e0 : (σ.set 1 (some (.str x)))[0]? = some (some v) := by rw [List.getElem?_set_ne (by decide)]; exact h0
      have e1 : (σ.set 1 (some (.str x)))[1]? = some (some (.str x)) := List.getElem?_set_self (by omega)
      refine if_gv (cs := []) (b := false || false) (gt_or (a := false) (gt_not (b := true) (gt_B (gv_call x ?_))) fun _ => gt_not (b := true) (gt_B (gv_call (fnOfT l x) ?_))) s3.gh hold_nil fun G3 H3 s5 => ?_
      · exact ga_imp (ga_1 (gv_vs e1)) fun vs G ⟨v, e, h⟩ => ⟨by rw [e, show v = .str x from h], hw x hk⟩
      · exact ga_imp (ga_1 (gv_dget (K := KS) mon_I (gv_var e0 ((mon_cnt.up hl).on s4.gg)) (gv_vs e1) (fnOfT_some hk))) fun vs G ⟨v, e, h⟩ => by rw [e, show v = .int _ from h]
      · rw [if_neg (by decide)]
        exact ⟨G3, s2.trans (s3.trans s5), e0, by rw [List.length_set]; exact hlen⟩
    · rintro σ Gc Hc s1 ⟨h0, hlen⟩
      dsimp only
      refine ret_gv (cs := []) (gv_call l ?_) s1.gh hold_nil fun v G' H' s u => k v G' H' (s1.trans s) u
      exact ga_imp (ga_1 (gv_var h0 ((mon_cnt.up hl).on s1.gg))) fun vs G ⟨v, e, h⟩ => ⟨v, e, h, hn⟩
end
end Crt
end

section
/-! Loads: fields, counts, kinds, [], truth. -/
namespace Crt
open PySem PySem.Spec PyProof.Rows L2
section
variable {P : Program} {w : World} {K : PySem.W.Frag} {mg : Str → Option Value} {base : Heap}
/-- THE RULE for a def of a class -/
theorem calAt_of {x q : Str} {st : Stmt} {f : Addr} {N ps : List Str} {k : Nat} {sp : Sp} (F : MFn K x q st f) (S : C8.scC N ps (C8.fnScope st) = true) (len : ∀ vs H Q E, sp vs H Q E → vs.length = ps.length)
    (b : ∀ (kV doc pm : Value) (an : Option Addr) (cdv ct : Value) (us : List Value), us.length = ps.length → bindArgs (PySem.W.fnOf x q (C8.fnArgs st) (C8.fnBody st) (C8.fnScope st) .none kV doc pm an cdv ct) ⟨us, []⟩ = pure (ps.zip us))
    (hbody : ∀ (nd : N.Nodup) (cdv : Value) (A : Around) (outer : List Env) (s : Shared) (H : Hp) (vs : List V) (Q : VK) (E : XK), Room k (A.deeper (envOfC q (C8.fnScope st) s.heap.objs.size f cdv)) → sp vs H Q E →
      ∃ t, PSs (cxOf C8.CX0 P w K mg base N q (C8.fnScope st) f cdv A outer s H E).nox (C8.fnBody st) t ∧ t { nx := fun _ H' => Q .non H', rt := Q } (start N vs) H) : C8.CalAt P w K mg base (k + 1) f sp := by
  obtain ⟨fd, F1, df, kp, _, _⟩ := F
  have sc := C8.fnScope_by S
  exact ⟨fd, ps, C8.fn0 F1 sc len fun cdv A outer s H vs Q E hr h => hbody sc.nd cdv A outer s H vs Q E hr h, kp, F1.binds df b⟩
end
/-- a def under a name of a class, that keeps a promise -/
def Dun (P : Program) (w : World) (K : PySem.W.Frag) (mg : Str → Option Value) (base : Heap) (k : Nat) (C : Addr) (nm : Str) (sp : Sp) : Prop :=
  ∃ f, PySem.W.findIn K (.ref C) nm = some (some (.ref f)) ∧ PySem.W.isFn K (.ref f) = true ∧ PySem.W.fnIn K f = true ∧ C8.CalAt P w K mg base k f sp
/-- the def as it stands under that name -/
def DunF (K : PySem.W.Frag) (C : Addr) (nm q : Str) (st : Stmt) : Prop := ∃ f, PySem.W.findIn K (.ref C) nm = some (some (.ref f)) ∧ MFn K nm q st f
theorem DunF.dun {P : Program} {w : World} {K : PySem.W.Frag} {mg : Str → Option Value} {base : Heap} {k : Nat} {C : Addr} {nm q : Str} {st : Stmt} {sp : Sp} (D : DunF K C nm q st) (h : ∀ f, MFn K nm q st f → C8.CalAt P w K mg base k f sp) : Dun P w K mg base k C nm sp := by
  obtain ⟨f, h1, h2⟩ := D
  obtain ⟨fd, a, b, c, d, e⟩ := id h2
  exact ⟨f, h1, d, e, h f h2⟩
/-- a property that keeps a promise -/
def Prp (P : Program) (w : World) (K : PySem.W.Frag) (mg : Str → Option Value) (base : Heap) (k : Nat) (C : Addr) (nm : Str) (sp : Sp) : Prop :=
  ∃ p g, PropOf K C nm p g ∧ C8.CalAt P w K mg base k g sp
def PrpF (K : PySem.W.Frag) (C : Addr) (nm q : Str) (st : Stmt) : Prop := ∃ p g, PropOf K C nm p g ∧ MFn K nm q st g
theorem PrpF.prp {P : Program} {w : World} {K : PySem.W.Frag} {mg : Str → Option Value} {base : Heap} {k : Nat} {C : Addr} {nm q : Str} {st : Stmt} {sp : Sp} (D : PrpF K C nm q st) (h : ∀ f, MFn K nm q st f → C8.CalAt P w K mg base k f sp) : Prp P w K mg base k C nm sp := by
  obtain ⟨p, g, h1, h2⟩ := D
  exact ⟨p, g, h1, h g h2⟩
section
variable {X : Cx} {k j : Nat} {C : Addr} {nm : Str} {sp : Sp} {e : Expr} {ta : TE} {pos : Pos}
/-- e.nm, a property of the class at C -/
theorem pe_prp (D : Prp X.prog X.w X.K X.mg X.base k C nm sp) (c : Cls X.K C) (hr : Room j X.A) (hk : k + 1 ≤ j) (he : PE X e ta) (hab : attributeBase e nm X.env (eval e X.env) = eval e X.env := by rfl) : PE X (.Attribute e nm pos) (tProp C sp [] C8.E0 ta) := by
  obtain ⟨p, g, hp, ⟨fd, ps, F, kp, b⟩⟩ := D
  exact pe_prop he c hp F (hr.mono hk) b .nil C8.pass0 hab
end
/-! ### loads -/
/-- what a class needs that its instances are read -/
structure ClsF (K : PySem.W.Frag) (C : Addr) (f : Str) : Prop where
  cls : Cls K C
  na : NoAttr K C f
def LdR (C : Addr) (U : List Str) (f : Fn) : PV := fun v H => Sup f U ∧ U.length ≤ 6 ∧ ∃ a dx d, v = .ref a ∧ H a = some (.ins C dx [("own_counts", d)]) ∧ Cnt (nf f U) d H
theorem mon_ld {C : Addr} {U : List Str} : MonR (LdR C U) := fun f v H H' e ⟨s, hu, a, dx, d, h1, h2, h3⟩ => ⟨s, hu, a, dx, d, h1, e _ _ h2, mon_cnt _ _ _ _ e h3⟩
section
variable {cs : Held} {σ : L2.St} {G : Hp} {ta : TE} {K : PySem.W.Frag} {C : Addr} {U : List Str} {f : Fn} {φ ψ : PV}
theorem gv_fld {nm : Str} (hc : ClsF K C nm) (h : Gv cs ta σ G φ) (hf : ∀ v G, φ v G → ∃ a dx fs u, v = .ref a ∧ G a = some (.ins C dx fs) ∧ fs.lookup nm = some u ∧ ψ u G) (m : ∀ u G G', Same G G' → ψ u G → ψ u G') : Gv cs (tFld K ta nm) σ G ψ := fun H a c Q q =>
  h H a c _ fun x G1 H1 s1 u1 => by
    obtain ⟨p, dx, fs, u, rfl, hp, hl, hu⟩ := hf x G1 u1.now
    exact ⟨p, C, dx, fs, u, rfl, s1.gh _ _ hp, hc.cls, hc.na, hl, q u G1 H1 s1 fun G' g => m u G1 G' g hu⟩
/-- load.own_counts -/
theorem gv_own (hc : ClsF K C "own_counts") (h : Gv cs ta σ G (LdR C U f)) : Gv cs (tFld K ta "own_counts") σ G (Cnt (nf f U)) :=
  gv_fld hc h (fun v G ⟨_, _, a, dx, d, h1, h2, h3⟩ => ⟨a, dx, _, d, h1, h2, rfl, h3⟩) fun u G G' e h => mon_cnt _ _ _ _ e h
/-- dict(d) -/
theorem gv_copy {l : List (Str × Int)} (h : Gv cs ta σ G (Cnt l)) : Gv cs (tFz (tCB (fun xs H Q => ∃ (a : Addr) (kvs : List (Key × V)), xs = [.ref a] ∧ Rd H a (.dK kvs) ∧ ∀ p, H p = none → Q (.ref p) (upd H p (.dK kvs))) (tCons ta tNil))) σ G (Cnt l) := fun H a c Q q =>
  h H a c _ fun x G1 H1 s1 u1 => by
    obtain ⟨d, o, us, rfl, hd, p⟩ := u1.now
    refine ⟨d, _, rfl, .inr ⟨o, s1.gh _ _ hd⟩, fun r hr => ⟨r, _, rfl, upd_same, True.intro, fun ob => ?_⟩⟩
    have st : Stp G1 H1 (upd G1 r (.frz ob (KS.ho us))) (upd (upd H1 r (KS.ho us)) r (.frz ob (KS.ho us))) := by
      rw [upd_upd]
      exact Stp.laid s1.gh hr
    exact q _ _ _ (s1.trans st) (mon_cnt.up ⟨r, ob, us, rfl, upd_same, L2.Paired.mapP p fun u x h => h⟩)
end
end Crt
end

section
/-! The keys of a dict by texts, gathered: tuple(d), a starred d. -/
namespace Crt
open PySem PySem.Spec PyProof.Rows L2
section
variable {prog : Program} {w : World} {A : Around} {E : Value → Shared → Prop} {s : Shared} {T : String} {r d : Addr} {n : Nat} {P : Nat → Value → Prop} {OK : Heap → Prop}
theorem collect_src {Q : List Value → Shared → Prop} (K : PySem.W.KdlSrc prog w T r d n P OK) (hh : A.handled = none) (hok : OK s.heap) (hn : n ≤ sizeLine)
    (hQ : ∀ h' tk (acc : Array Value), (∀ b o, s.heap.get? b = some o → h'.get? b = some o) → s.heap.objs.size ≤ h'.objs.size → ItemsOf P acc n → Q acc.toList { s with heap := h', toks := tk }) : wpAny (model prog w) A (collect (.ref r)) Q E s := by
  have hlt := K.there _ hok
  unfold collect
  refine wpAny_bind (wpAny_runValue (codeAny_builtin PySem.F.entry_proto_collect ?_))
  rw [Around.under_plainId PySem.F.plain_proto_collect _]
  show wpAny _ A.in1 (newList [] >>= fun l => again (.builtin "list.__iadd__" ⟨[l, .ref r], []⟩)) _ _ s
  refine wpAny_bind (wpAny_newObj_type ?_)
  refine wpAny_pure ⟨plainId_quiet PySem.F.plain_list_iadd _, codeAny_builtin PySem.F.entry_list_iadd ?_⟩
  rw [Around.under_plainId PySem.F.plain_list_iadd _]
  have hS : (s.heap.push { cls := .type "list", data := .seq ([] : List Value).toArray }).get? s.heap.objs.size = some { cls := .type "list", data := .seq #[] 0 } := Heap.get?_push_size _ rfl
  show wpAny _ A.in1 (Builtin.List.listExtendWith (.ref s.heap.objs.size) (.ref r) (.ref s.heap.objs.size)) _ _ _
  have fin : ∀ (r : Result) (s' : Shared), (r = .ok (.ret (.ref s.heap.objs.size)) ∧ ∃ h' tk acc c', s' = { s with heap := h', toks := tk } ∧ (∀ b o, s.heap.get? b = some o → h'.get? b = some o) ∧ h'.get? s.heap.objs.size = some { cls := .type "list", dict := none, data := .seq acc c', slots := #[] } ∧ ItemsOf P acc n) →
      wpAny (model prog w) A (load s.heap.objs.size >>= fun o => match o.data with | .seq xs _ => pure xs.toList | _ => unsupported "internal:collect") Q E s' := by
    rintro _ _ ⟨rfl, h', tk, acc, c', rfl, hk, hS', hacc⟩
    exact wpAny_bind (wpAny_load hS' (wpAny_pure (hQ h' tk acc hk (Nat.le_of_lt (Heap.lt_size hS')) hacc)))
  refine wpAny_mono (PySem.W.kdl_extend (A := A) (R := fun r s' => r = .ok (.ret (.ref s.heap.objs.size)) ∧ ∃ h' tk acc c', s' = { s with heap := h', toks := tk } ∧ (∀ b o, s.heap.get? b = some o → h'.get? b = some o) ∧ h'.get? s.heap.objs.size = some { cls := .type "list", dict := none, data := .seq acc c', slots := #[] } ∧ ItemsOf P acc n)
    (s := { s with heap := s.heap.push { cls := .type "list", data := .seq ([] : List Value).toArray } }) K hh (K.keep _ _ hok fun b _ o e => Heap.get?_push_of_some _ e) _ (Nat.ne_of_gt hlt.1) (Nat.ne_of_gt hlt.2) (.ref s.heap.objs.size) 0 hS (fun h' tk acc' c' hk hS' hacc => ⟨rfl, h', tk, acc', c', rfl, fun b o e => hk b o (Nat.ne_of_lt (Heap.lt_size e)) (Heap.get?_push_of_some _ e), hS', hacc⟩) hn) (fun fi s' hf => ?_) fun _ _ hf => nomatch hf.1
  cases fi with
  | done f =>
    obtain ⟨e, r⟩ := id hf
    cases e
    exact fin _ _ hf
  | again c' =>
    refine ⟨hf.1, codeAny_mono hf.2 fun r s2 hr => ?_⟩
    obtain ⟨e, q⟩ := id hr
    subst e
    exact fin _ _ hr
end
section
variable {X : Cx} {pins : List (Addr × Obj)} {σ : L2.St} {H : Hp} {s : Shared} {d : Addr} {kvs : List (Key × V)} {A : Around} {E : Value → Shared → Prop}
/-- the keys as a list of values -/
theorem d_collect {Q : List Value → Shared → Prop} (I : Inv X pins σ H s) (hh : A.handled = none) (e : Rd H d (.dK kvs)) (h : ∀ us s', Inv X pins σ H s' → s.heap.objs.size ≤ s'.heap.objs.size → Vals (kvs.map fun kv => kV kv.1) us → Q us s') : wpAny (model X.prog X.w) A (collect (.ref d)) Q E s := by
  obtain ⟨z, lo, vs, rk, hd⟩ := dk_rd I.hok e
  obtain ⟨ep, hat⟩ := hd.dictAt
  have hl : kvs.length = vs.length := Paired.length rk
  refine collect_src (PySem.W.kdl_dict (knd := mixKind X.prog X.w) (kvs := vs) (ep := ep) lo) hh hat (by rw [← hl]; exact z) fun h' tk acc hk big hacc => ?_
  refine h _ _ (I.kept (t' := tk) hk) big ?_
  have el : acc.toList.length = acc.size := by simp
  refine vals_of_at (by rw [List.length_map, el, hacc.1, hl]) fun j x u h1 h2 => ?_
  obtain ⟨k, y, hky, hi⟩ := hacc.2 j u (by rw [← Array.getElem?_toList]; exact h2)
  have e1 : (kvs.map (·.1))[j]? = some k := by rw [KV.keys rk, List.getElem?_map, hky] <;> rfl
  have e3 : (kvs.map fun kv => kV kv.1) = (kvs.map (·.1)).map kV := by rw [List.map_map] <;> rfl
  rw [e3, List.getElem?_map, e1] at h1
  cases h1
  exact keyIs_rel hi
end
end Crt
end

section
/-! tuple(d), a starred d: as rules. -/
namespace Crt
open PySem PySem.Spec PyProof.Rows L2
section
variable {prog : Program} {w : World} {A : Around} {E : Value → Shared → Prop} {s : Shared} {d : Addr}
end
section
variable {X : Cx}
def rTupD : List V → Hp → VK → Prop := fun xs H Q => ∃ d kvs, xs = [.ref d] ∧ Rd H d (.dK kvs) ∧ ∀ p, H p = none → Q (.ref p) (upd H p (.tup (kvs.map fun kv => kV kv.1)))
theorem cr_tupD (hc : X.calm = true) : CallR X (.type "tuple") rTupD := by
  intro pins s σ H xs us Q I r h
  obtain ⟨d, kvs, e, hk, q⟩ := h
  subst e
  rw [Vals.ref1 r]
  have hlen : kvs.length ≤ sizeLine := (dk_rd I.hok hk).1
  have hT : s.TypeIs (.ref d) "dict" := by
    obtain ⟨_, _, vs, _, o, es, ep, ho, hex, _⟩ := dk_rd I.hok hk
    exact ⟨o, ho, hex.1⟩
  have hh1 : X.A.in1.in1.handled = none := by
    have := I.ok.hd hc
    exact this
  have new : ∀ (us : List Value) (s' : Shared), Inv X pins σ H s' → s.heap.objs.size ≤ s'.heap.objs.size → Vals (kvs.map fun kv => kV kv.1) us → EP X pins σ Q (.ref s'.heap.objs.size) { s' with heap := s'.heap.push { cls := .type "tuple", data := .seq us.toArray } } := fun us s' I' _ rv => by
    refine ⟨.ref s'.heap.objs.size, upd H s'.heap.objs.size (.tup (kvs.map fun kv => kV kv.1)), I'.laid (t' := s'.toks) (fun b o e => Heap.get?_push_of_some _ e) (Nat.le_refl _) ⟨by rw [List.length_map]; exact hlen, us, rv, ⟨_, Heap.get?_push_size _ rfl, rfl, _, rfl⟩⟩, rfl, q _ (I'.hok.fresh (Nat.le_refl _))⟩
  refine callType_codes (Q₁ := fun obj s₁ => s₁.TypeIs obj "tuple" ∧ EP X pins σ Q obj s₁) PySem.F.called_tuple (PySem.F.typeCall_tuple_1 _) PySem.F.entry_object_init ?_ fun obj s₁ h₁ =>
    ⟨h₁.1, PySem.F.args_object_init_2 obj _, object_init_meets PySem.F.called_tuple.init.lookup PySem.F.called_tuple.made (by decide) _ _ _ _ s₁ ⟨h₁.1, rfl, h₁.2⟩⟩
  refine codeAny_of_tree ?_
  show wpAny _ X.A.in1.in1 (do checkBuiltinCall "tuple.__new__" ⟨[.type "tuple", .ref d], []⟩; again (.builtin "tuple.__new__" ⟨[.type "tuple", .ref d], []⟩)) _ _ s
  refine wpAny_bind (wpAny_of_eq (PySem.F.newCall_tuple_1 _) (wpAny_pure ⟨plainId_quiet PySem.F.plain_tuple_new _, codeAny_builtin PySem.F.entry_tuple_new ?_⟩))
  rw [Around.under_plainId PySem.F.plain_tuple_new _]
  have hsub := sub_tuple_self
  have hinit := init_tuple_lookup
  have hmh := madeHere_tuple
  wp_walk using wpAny_typeOf hT, d_collect I hh1 hk
  intro us s' I' big rv
  show wpAny _ _ (Builtin.Tuple.tupleExact us.toArray >>= fun v => ret v) _ _ _
  unfold Builtin.Tuple.tupleExact
  have hl : us.length ≤ sizeLine := by
    rw [← rv.length, List.length_map]
    exact hlen
  refine wpAny_bind (wpAny_newObj_type ?_ (by show us.toArray.size ≤ sizeLine; rw [List.size_toArray]; exact hl))
  exact wpAny_pure ⟨⟨_, Heap.get?_push_size _ rfl, rfl⟩, new us s' I' big rv⟩
/-- *d in a list or an argument list -/
def tStarD (te : TE) (t : TA) : TA := fun σ H Q => te σ H fun x H1 => ∃ d kvs, x = .ref d ∧ Rd H1 d (.dK kvs) ∧ t σ H1 fun ys H2 => Q ((kvs.map fun kv => kV kv.1) ++ ys) H2
theorem pa_starD {e : Expr} {es : List Expr} {p : Pos} {te : TE} {t : TA} (hc : X.calm = true) (he : PE X e te) (hr : PA X es t) (hs : starEach (.Starred e p :: es) X.env = (true, eval e X.env) :: starEach es X.env := by rfl) : PA X (.Starred e p :: es) (tStarD te t) := by
  refine ⟨fun pos pins s σ H Q I h => ?_⟩
  refine PySem.W.items_star (thn (he.run pins s σ H _ I h) fun v s1 ⟨y, H1, I1, ry, d, kvs, ey, hx, q⟩ => ?_) hs
  subst ey
  obtain rfl : v = Value.ref d := ry
  have hT : s1.TypeIs (.ref d) "dict" := by
    obtain ⟨_, _, vs, _, o, es, ep, ho, hex, _⟩ := dk_rd I1.hok hx
    exact ⟨o, ho, hex.1⟩
  unfold PySem.W.StarOf notIterableAtAll
  refine wpAny_bind (wpAny_specialOf hT PySem.F.slot_dict_iter.lookup (wpAny_pure ⟨rfl, ?_⟩))
  refine d_collect I1 (I1.ok.hd hc) hx fun us s2 I2 _ rv => ?_
  exact thn (hr.run pos pins s2 σ H1 _ I2 q) fun ws s3 ⟨vs, H3, I3, r3, q3⟩ => ⟨_, H3, I3, rv.append r3, q3⟩
end
end Crt
end

section
/-! Loads: [], truth, counts, kinds. -/
namespace Crt
open PySem PySem.Spec PyProof.Rows L2
section
variable {X : Cx}
/-- bool(d) -/
def rBoolD : List V → Hp → VK → Prop := fun xs H Q => ∃ d kvs, xs = [.ref d] ∧ Rd H d (.dK kvs) ∧ Q (.bl (!kvs.isEmpty)) H
theorem cr_boolD : CallR X (.type "bool") rBoolD := by
  intro pins s σ H xs us Q I r h
  obtain ⟨d, kvs, e, hk, q⟩ := h
  subst e
  rw [Vals.ref1 r]
  refine callType_codes (Q₁ := fun obj s₁ => s₁.TypeIs obj "bool" ∧ EP X pins σ Q obj s₁) PySem.F.called_bool (PySem.F.typeCall_bool_1 _) PySem.F.entry_object_init ?_ fun obj s₁ h₁ =>
    ⟨h₁.1, PySem.F.args_object_init_2 obj _, object_init_meets PySem.F.called_bool.init.lookup PySem.F.called_bool.made PySem.F.newNe_bool _ _ _ _ s₁ ⟨h₁.1, rfl, h₁.2⟩⟩
  refine codeAny_of_tree ?_
  show wpAny _ X.A.in1.in1 (do checkBuiltinCall "bool.__new__" ⟨[.type "bool", .ref d], []⟩; again (.builtin "bool.__new__" ⟨[.type "bool", .ref d], []⟩)) _ _ s
  refine wpAny_bind (wpAny_of_eq (PySem.F.newCall_bool_1 _) (wpAny_pure ⟨Code.quiet_builtin _ (by decide +kernel), codeAny_builtin PySem.F.entry_bool_new ?_⟩))
  have f1 := PySem.F.conv_sub_bool
  have tr : ∀ {A : Around} {E' : Value → Shared → Prop} {Q' : Bool → Shared → Prop}, (∀ s', Inv X pins σ H s' → Q' (!kvs.isEmpty) s') → wpAny (model X.prog X.w) A (truthy (.ref d)) Q' E' s := fun {A E' Q'} h => d_truth I hk h
  unfold Builtin.«bool.__new__»
  refine wpAny_bind (m := isType (.type "bool")) (wpAny_of_eq (a := true) rfl ?_)
  simp only [Bool.not_true, Bool.false_eq_true, if_false]
  try refine wpAny_bind (wpAny_pure ?_)
  refine wp_if_neg (by decide +kernel) ?_
  try refine wpAny_bind (wpAny_pure ?_)
  refine wpAny_bind (tr fun s' I' => wpAny_pure ⟨(rfl : s'.TypeIs (.bool (!kvs.isEmpty)) "bool"), .bl (!kvs.isEmpty), H, I', rfl, q⟩)
end
end Crt
end

section
/-! Loads: [], truth, counts, kinds. -/
namespace Crt
open PySem PySem.Spec PyProof.Rows L2
def spGet (C : Addr) : Sp := SpF (α := (Fn × List Str) × Str) (fun x vs G => ∃ v, vs = [v, .str x.2] ∧ LdR C x.1.2 x.1.1 v G) (fun x => IsI (x.1.1 x.2))
def spTru (C : Addr) : Sp := SpF (α := Fn × List Str) (fun x vs G => ∃ v, vs = [v] ∧ LdR C x.2 x.1 v G) (fun x => IsB (!(nf x.1 x.2).isEmpty))
def spCts (C : Addr) : Sp := SpF (α := Fn × List Str) (fun x vs G => ∃ v, vs = [v] ∧ LdR C x.2 x.1 v G) (fun x => Cnt (nf x.1 x.2))
def spKnd (C : Addr) : Sp := SpF (α := Fn × List Str) (fun x vs G => ∃ v, vs = [v] ∧ LdR C x.2 x.1 v G) (fun x => TupR IsS ((nf x.1 x.2).map (·.1)))
section
variable {cs : Held} {σ : L2.St} {G : Hp} {ta : TE}
theorem gv_boolD {l : List (Str × Int)} (h : Gv cs ta σ G (Cnt l)) : Gv cs (tCB rBoolD (tCons ta tNil)) σ G (IsB (!l.isEmpty)) :=
  gv_cb' (ga_1 h) fun vs G1 H1 s c1 g up => rv_at (v := .bl (!l.isEmpty)) s (up_c rfl) fun Q q => by
    obtain ⟨v, rfl, d, o, us, rfl, hd, p⟩ := up.now
    refine ⟨d, us.map fun p : Str × V => ((Sum.inr p.1 : Key), p.2), rfl, .inr ⟨o, s _ _ hd⟩, ?_⟩
    have e : (us.map fun p : Str × V => ((Sum.inr p.1 : Key), p.2)).isEmpty = l.isEmpty := by
      clear up hd h
      cases p <;> rfl
    rw [e]
    exact q
theorem gv_keysT {β : Type} {R : β → PV} {l : List (Str × β)} (h : Gv cs ta σ G (Dic KS R l)) : Gv cs (tCB rTupD (tCons ta tNil)) σ G (TupR IsS (l.map (·.1))) :=
  gv_cb' (ga_1 h) fun vs G1 H1 s c1 g up => fun Q q => by
    obtain ⟨v, rfl, d, o, us, rfl, hd, p⟩ := up.now
    refine ⟨d, us.map fun p : Str × V => ((Sum.inr p.1 : Key), p.2), rfl, .inr ⟨o, s _ _ hd⟩, fun r hr => q _ _ _ (Stp.laid s hr) ((mon_tup mon_S).up ⟨r, _, rfl, upd_same, ?_⟩)⟩
    have e : ((us.map fun p : Str × V => ((Sum.inr p.1 : Key), p.2)).map fun kv => kV kv.1) = (l.map (·.1)).map V.str := by
      rw [← keys_eq p, List.map_map, List.map_map]
      rfl
    rw [e]
    exact paired_S' _
end
section
variable {P : Program} {w : World} {K : PySem.W.Frag} {mg : Str → Option Value} {base : Heap} {C f : Addr}
theorem ok_getitem (F : MFn K "__getitem__" "Load.__getitem__" (mem 9) f) (hc : ClsF K C "own_counts") : C8.CalAt P w K mg base 1 f (spGet C) := by
  refine calAt_of (N := ["self", "kind"]) (ps := ["self", "kind"]) F (by decide +kernel) ?_ (fun _ _ _ _ _ _ us hl => match us, hl with | [_, _], _ => rfl) ?_
  · rintro vs H Q E ⟨x, G, _, ⟨v, e, _⟩, _⟩
    rw [e] <;> rfl
  · intro nd cdv A outer s H vs Q E hr h
    have hu := hu_of hr
    refine ⟨_, pss_one (ps_ret (pe_dget2 hu (pe_fld (pv 0) rfl) (pv 1) pe_int ⟨by rfl, by rfl, by rfl, by rfl⟩)), ?_⟩
    obtain ⟨⟨⟨g, U⟩, z⟩, G, eG, ⟨v, rfl, hl⟩, k⟩ := h
    dsimp only at k hl
    rw [← nf_val hl.1 z] at k
    exact gv_dget2 (cs := []) (K := KS) mon_I (gv_own hc (gv_var rfl (mon_ld.up hl))) (gv_vs rfl) gv_ci H eG hold_nil _ k
theorem ok_bool (F : MFn K "__bool__" "Load.__bool__" (mem 13) f) (hc : ClsF K C "own_counts") (mb : mg "bool" = none) : C8.CalAt P w K mg base 1 f (spTru C) := by
  refine calAt_of (N := ["self"]) (ps := ["self"]) F (by decide +kernel) ?_ (fun _ _ _ _ _ _ us hl => match us, hl with | [_], _ => rfl) ?_
  · rintro vs H Q E ⟨x, G, _, ⟨v, e, _⟩, _⟩
    rw [e] <;> rfl
  · intro nd cdv A outer s H vs Q E hr h
    refine ⟨_, pss_one (ps_ret (pe_callTy cr_boolD rfl mb boot_bool (pa_cons (pe_fld (pv 0) rfl) pa_nil))), ?_⟩
    obtain ⟨⟨g, U⟩, G, eG, ⟨v, rfl, hl⟩, k⟩ := h
    exact gv_boolD (cs := []) (gv_own hc (gv_var rfl (mon_ld.up hl))) H eG hold_nil _ k
theorem ok_counts (F : MFn K "counts" "Load.counts" (mem 5) f) (hc : ClsF K C "own_counts") (md : mg "dict" = none) : C8.CalAt P w K mg base 1 f (spCts C) := by
  refine calAt_of (N := ["self"]) (ps := ["self"]) F (by decide +kernel) ?_ (fun _ _ _ _ _ _ us hl => match us, hl with | [_], _ => rfl) ?_
  · rintro vs H Q E ⟨x, G, _, ⟨v, e, _⟩, _⟩
    rw [e] <;> rfl
  · intro nd cdv A outer s H vs Q E hr h
    refine ⟨_, pss_one (ps_ret (pe_fz (pe_callTy call_dictD rfl md boot_dict (pa_cons (pe_fld (pv 0) rfl) pa_nil)))), ?_⟩
    obtain ⟨⟨g, U⟩, G, eG, ⟨v, rfl, hl⟩, k⟩ := h
    exact gv_copy (cs := []) (gv_own hc (gv_var rfl (mon_ld.up hl))) H eG hold_nil _ k
theorem ok_kinds (F : MFn K "kinds" "Load.kinds" (mem 6) f) (hc : ClsF K C "own_counts") (mt : mg "tuple" = none) : C8.CalAt P w K mg base 1 f (spKnd C) := by
  refine calAt_of (N := ["self"]) (ps := ["self"]) F (by decide +kernel) ?_ (fun _ _ _ _ _ _ us hl => match us, hl with | [_], _ => rfl) ?_
  · rintro vs H Q E ⟨x, G, _, ⟨v, e, _⟩, _⟩
    rw [e] <;> rfl
  · intro nd cdv A outer s H vs Q E hr h
    refine ⟨_, pss_one (ps_ret (pe_callTy (cr_tupD rfl) rfl mt boot_tuple (pa_cons (pe_fld (pv 0) rfl) pa_nil))), ?_⟩
    obtain ⟨⟨g, U⟩, G, eG, ⟨v, rfl, hl⟩, k⟩ := h
    exact gv_keysT (cs := []) (gv_own hc (gv_var rfl (mon_ld.up hl))) H eG hold_nil _ k
end
end Crt
end

section
/-! Comparisons of unlike lengths: t == (), l == []. -/
namespace Crt
open PySem PySem.Spec PyProof.Rows L2 PySem.SeqAt
open AutoSeq1 (wpAny_loadPart')
open MeetsSeq MeetsSeq2 MeetsSeq3 SeqRoads2
section
variable {prog : Program} {w : World} {A : Around} {E : Value → Shared → Prop} {s : Shared}
theorem tuple_eq0 {R : Result → Shared → Prop} (l b : Addr) (items : Array Value) (n n2 : Nat) (dd dd2 : Option Addr) (sl sl2 : Array (Option Value)) (h1 : s.heap.get? l = some { cls := .type "tuple", dict := dd, data := .seq items n, slots := sl })
    (h2 : s.heap.get? b = some { cls := .type "tuple", dict := dd2, data := .seq #[] n2, slots := sl2 }) (h : R (.ok (.ret (.bool (items.size == 0)))) s) :
    wpAny (model prog w) A.in1 (Builtin.«tuple.__eq__» ⟨[.ref l, .ref b], []⟩) (GQ.FinOf prog w A R) (fun e s' => R (.error e) s') s := by
  have f2 := AutoSeq1.sub_tuple_tuple
  have hz : items.toList.zip (#[] : Array Value).toList = [] := by simp
  have h0 := h
  obtain ⟨hp, g, d, tk, os⟩ := s
  wp_walk using wpAny_loadPart' h1, wpAny_loadPart' h2, wpAny_forIn_list _ (fun rest b s' => b.1 = none ∧ rest = [] ∧ s' = { heap := hp, gens := g, drawn := d, toks := tk, os := os }) _
  case turn =>
    rintro x rest b s' ⟨_, hz, _⟩
    cases hz
  case fin =>
    rintro ⟨b1, b2⟩ s' ⟨hb, _, hs⟩
    simp only at hb
    subst hb hs
    wp_walk
    simpa [Builtin.Tuple.tupleCompareSizes] using h
  case h => exact ⟨rfl, hz, rfl⟩
theorem rc_tup0 {l b : Addr} {items : Array Value} {Q : Value → Shared → Prop} (hu : A.units < cLine) (hl : s.heap.IsTuple l items) (hb : s.heap.IsTuple b #[]) (h : Q (.bool (items.size == 0)) s) : wpAny (model prog w) A (richCompare .Eq (.ref l) (.ref b)) Q E s := by
  obtain ⟨⟨cls, dd, data, sl⟩, ho, hc, n, hd⟩ := id hl
  obtain ⟨⟨cls2, dd2, data2, sl2⟩, ho2, hc2, n2, hd2⟩ := id hb
  simp only at hc hd hc2 hd2
  subst hc hd hc2 hd2
  refine wpAny_richCompare_same_room (op := .Eq) ⟨_, ho, rfl⟩ ⟨_, ho2, rfl⟩ F.slot_tuple_eq (GQ.call_here F.slot_tuple_eq ⟨_, ho, rfl⟩ F.entry_tuple_eq (F.args_tuple_eq_2 _ _) ?_) hu
  exact tuple_eq0 (R := wants (fun v s' => v ≠ .notImplemented ∧ Q v s') E) l b items n n2 dd dd2 sl sl2 ho ho2 ⟨(fun x => nomatch x), h⟩
end
section
variable {X : Cx}
/-- t == () -/
def rEqT0 : R2 := fun x y H Q => ∃ a b xs, x = .ref a ∧ y = .ref b ∧ H a = some (.tup xs) ∧ H b = some (.tup []) ∧ Q (.bl xs.isEmpty) H
theorem op_eqT0 (hu : X.A.units < cLine) : OpR X (compareOp .Eq) rEqT0 := by
  intro pins s σ H x y v u Q I rx ry h
  obtain ⟨a, b, xs, rfl, rfl, ha, hb, q⟩ := h
  cases rx
  cases ry
  obtain ⟨_, its, r1, p1⟩ := (show ObjOk X.prog X.w H s.heap a (.tup xs) from I.hok a _ ha)
  obtain ⟨_, its2, r2, p2⟩ := (show ObjOk X.prog X.w H s.heap b (.tup []) from I.hok b _ hb)
  cases r2
  refine rc_tup0 hu p1 p2 ⟨.bl xs.isEmpty, H, I, ?_, q⟩
  have e : (its.toArray.size == 0) = xs.isEmpty := by
    cases r1 <;> simp
  rw [e]
  rfl
end
end Crt
end

section
/-! Loads are made. -/
namespace Crt
open PySem PySem.Spec PyProof.Rows L2
/-- what __init__ promises its body's caller: one positional argument, or none -/
def spIniB (C : Addr) : Sp := fun vs H Q _ => ∃ a dx p d rest, vs = [.ref a, .ref p, .ref d] ∧ H a = some (.ins C dx []) ∧ H p = some (.tup rest) ∧ H d = some (.dK []) ∧
  ((∃ x, rest = [x] ∧ ∀ H', (∀ b o, b ≠ a → H b = some o → H' b = some o) → H' a = some (.ins C dx [("own_counts", x)]) → Q .non H') ∨
   (rest = [] ∧ ∀ H' c o, (∀ b u, b ≠ a → b ≠ d → H b = some u → H' b = some u) → H' a = some (.ins C dx [("own_counts", .ref c)]) → c = d ∨ H c = none → H' c = some (.frz o (.dK [])) → Q .non H'))
def spIni (C : Addr) : Sp := fun vs H Q _ => ∃ a dx rest, vs = .ref a :: rest ∧ H a = some (.ins C dx []) ∧
  ((∃ x, rest = [x] ∧ ∀ H', (∀ b o, b ≠ a → H b = some o → H' b = some o) → H' a = some (.ins C dx [("own_counts", x)]) → Q .non H') ∨
   (rest = [] ∧ ∀ H' c o, (∀ b u, b ≠ a → H b = some u → H' b = some u) → H' a = some (.ins C dx [("own_counts", .ref c)]) → H c = none → H' c = some (.frz o (.dK [])) → Q .non H'))
theorem bind_starkw1 {B : List Value → Sem (List (Str × Value))} {p1 pv pd : Str} (h0 : ∀ a, B [a] = (newTuple [] >>= fun t => (alloc ({ cls := .type "dict", data := .dict #[] } : Obj) : Sem Addr) >>= fun d => pure [(p1, a), (pv, t), (pd, Value.ref d)]))
    (h1 : ∀ a r rs, B (a :: r :: rs) = (newTuple (r :: rs) >>= fun t => (alloc ({ cls := .type "dict", data := .dict #[] } : Obj) : Sem Addr) >>= fun d => pure [(p1, a), (pv, t), (pd, Value.ref d)])) :
    ∀ us rest : List Value, us.length = [p1].length → B (us ++ rest) = (newTuple rest >>= fun t => (alloc ({ cls := .type "dict", data := .dict #[] } : Obj) : Sem Addr) >>= fun d => pure ([p1].zip us ++ [(pv, t), (pd, Value.ref d)]))
  | [a], [], _ => h0 a
  | [a], r :: rs, _ => h1 a r rs
section
variable {P : Program} {w : World} {K : PySem.W.Frag} {mg : Str → Option Value} {base : Heap} {C f : Addr}
theorem wz_nil : wz [] = [] := rfl
theorem fnr_init (F : MFn K "__init__" "Load.__init__" (mem 0) f) (hc : ClsF K C "own_counts") (h1 : CalP P w K mg base 2 "checked" spChecked) : StX.CXUp C8.CX0 → FnR P w K mg base C8.CX0 3 f (spIni C) := by
  intro up
  obtain ⟨fd, ⟨oc, od, dV, kV, doc, pm, an, cdv, ct, osl, rfl, lk, hcd⟩, df, _, _, _⟩ := F
  have e : dV = .none := df
  subst e
  have S : FnScope ["self", "known", "counts"] (([("self" : Str)] : List Str) ++ [("known" : Str), ("counts" : Str)]) (C8.fnScope (mem 0)) := C8.fnScope_by (by decide +kernel)
  refine FnR.imp (StX.fn_starkw (k := 2) (ps := ["self"]) (pv := "known") (pd := "counts") (sp := spIniB C) lk hcd S up (bind_starkw1 (B := fun us => bindArgs (PySem.W.fnOf "__init__" "Load.__init__" (C8.fnArgs (mem 0)) (C8.fnBody (mem 0)) (C8.fnScope (mem 0)) .none kV doc pm an cdv ct) ⟨us, []⟩) (fun a => rfl) (fun a r rs => rfl)) ?_) ?_
  · intro A outer s H vs Q E hr h
    have hu := hu_of hr
    obtain ⟨a, dx, p, d, rest, rfl, ha, hp, hd, k⟩ := h
    refine ⟨_, PSs.nox (pss_one (ps_fld (pv 0) (pe_ifExp (pt_cmpR (op_eqT0 hr.units0) (pv 1) (pe_tup pa_nil) (nomark _)) (C8.pe_c h1 hr (Nat.le_refl _) rfl (pa_cons (pe_fz (pv 2)) pa_nil)) (pe_ix ix_seq (pv 1) pe_int fun _ _ => rfl)) rfl)), ?_⟩
    refine ⟨.ref p, rfl, by decide, fun t ht => ⟨p, t, rest, rfl, rfl, by rw [upd_ne (ne_of_none hp ht)]; exact hp, upd_same, _, rfl, ?_⟩⟩
    rcases k with ⟨x, rfl, k⟩ | ⟨rfl, k⟩
    · rw [if_neg (show ¬ ([x] : List V).isEmpty = true from Bool.false_ne_true)]
      have e1 : upd H t (.tup []) p = some (.tup [x]) := by rw [upd_ne (ne_of_none hp ht)]; exact hp
      have e2 : upd H t (.tup []) a = some (.ins C dx []) := by rw [upd_ne (ne_of_none ha ht)]; exact ha
      refine ⟨.ref p, rfl, .inr (.inl ⟨p, [x], 0, x, rfl, rfl, SqT.of e1, rfl, ?_⟩)⟩
      refine ⟨.ref a, rfl, a, C, dx, [], rfl, e2, hc.cls, hc.na, by decide, ?_⟩
      refine k _ (fun b o hb e => ?_) upd_same
      rw [upd_ne hb, upd_ne (ne_of_none e ht)]
      exact e
    · rw [if_pos (show ([] : List V).isEmpty = true from rfl)]
      have e1 : upd H t (.tup []) d = some (.dK []) := by rw [upd_ne (ne_of_none hd ht)]; exact hd
      refine ⟨.ref d, rfl, d, .dK [], rfl, e1, True.intro, fun o => ?_⟩
      have had : a ≠ d := ne_of ha hd fun z => nomatch z
      refine ⟨[], upd (fun _ => none) d (.frz o (.dK [])), fun b u hb => ?_, ⟨_, rfl, ⟨d, o, [], rfl, upd_same, .nil⟩, Nat.zero_le _, fun k hk => by cases hk⟩, fun v G' H' st up => ?_⟩
      · by_cases q : b = d
        · subst q
          rw [upd_same] at hb ⊢
          exact hb
        · rw [upd_ne q] at hb
          cases hb
      · obtain ⟨c, ob, us, rfl, hcc, pr⟩ := up.now
        cases pr
        have hcc2 := st.gh _ _ hcc
        have keepH : ∀ b u, b ≠ d → H b = some u → H' b = some u := fun b u hb e => st.hh b u (by rw [upd_ne hb, upd_ne (ne_of_none e ht)]; exact e)
        have hca : c ≠ a := fun q => by
          have g2 := keepH a _ had ha
          rw [← q, hcc2] at g2
          cases g2
        refine ⟨.ref a, rfl, a, C, dx, [], rfl, keepH a _ had ha, hc.cls, hc.na, by decide, ?_⟩
        refine k _ c ob (fun b u hb hbd e => ?_) upd_same ?_ ?_
        · rw [upd_ne hb]
          exact keepH b u hbd e
        · by_cases q : c = d
          · exact .inl q
          · right
            cases e : H c with
            | none => rfl
            | some u =>
              exfalso
              have g2 := keepH c u q e
              rw [hcc2] at g2
              have g3 := Option.some.inj g2
              have n := st.new c u (by rw [upd_ne q]) (by rw [upd_ne q, upd_ne (ne_of_none e ht)]; exact e) (fun xs z => by rw [z] at g3; cases g3)
              rw [hcc] at n
              cases n
        · rw [upd_ne hca]
          exact hcc2
  · rintro vs H Q E ⟨a, dx, rest, rfl, ha, k⟩
    refine ⟨[.ref a], rest, rfl, rfl, ?_, fun p d hp hd hne => ⟨a, dx, p, d, rest, rfl, ?_, ?_, upd_same, ?_⟩⟩
    · rcases k with ⟨x, rfl, _⟩ | ⟨rfl, _⟩
      · show 1 ≤ sizeLine
        decide
      · exact Nat.zero_le _
    · rw [upd_ne (ne_of_none ha hd), upd_ne (ne_of_none ha hp)]
      exact ha
    · rw [upd_ne (Ne.symm hne)]
      exact upd_same
    · have old : ∀ b u, H b = some u → upd (upd H p (.tup rest)) d (.dK []) b = some u := fun b u e => by
        rw [upd_ne (ne_of_none e hd), upd_ne (ne_of_none e hp)]
        exact e
      rcases k with ⟨x, rfl, k⟩ | ⟨rfl, k⟩
      · exact .inl ⟨x, rfl, fun H' h1 h2 => k H' (fun b o hb e => h1 b o hb (old b o e)) h2⟩
      · refine .inr ⟨rfl, fun H' c o h1 h2 h3 h4 => k H' c o (fun b u hb e => h1 b u hb (ne_of_none e hd) (old b u e)) h2 ?_ h4⟩
        rcases h3 with h3 | h3
        · rw [h3]
          exact hd
        · cases e : H c with
          | none => rfl
          | some u =>
            rw [old c u e] at h3
            cases h3
end
end Crt
end

section
/-! Load(x), Load(), cls(x); load_of, Load.of. -/
namespace Crt
open PySem PySem.Spec PyProof.Rows L2
/-- the class at C may be made -/
def MkL (P : Program) (w : World) (K : PySem.W.Frag) (mg : Str → Option Value) (base : Heap) (k : Nat) (C : Addr) : Prop := ∃ f, Mk K C f ∧ FnR P w K mg base C8.CX0 k f (spIni C)
theorem up0 : StX.CXUp C8.CX0 := fun _ _ _ _ _ _ _ _ _ _ _ z => z
section
variable {X : Cx} {k j i : Nat} {C : Addr} {x : Str} {p pos : Pos} {e : Expr} {es : List Expr} {t : TA}
abbrev tMkL (C : Addr) (t : TA) : TE := StX.tMakeR C (spIni C) C8.E0 t
theorem pe_mkL (M : MkL X.prog X.w X.K X.mg X.base k C) (hr : Room j X.A) (hk : k + 1 ≤ j) (hg : Gl X x) (hm : X.mg x = some (.ref C)) (ha : PA X (e :: es) t) (hdb : (x == ("__debug__" : Str)) = false := by decide)
    (he : starEach (e :: es) X.env = (false, eval e X.env) :: starEach es X.env := by rfl) (hpl : (backTo pos (starEach es X.env)).any (·.1) = false := by rfl) : PE X (.Call (.Name x p) (e :: es) [] pos) (tMkL C t) := by
  obtain ⟨f, m, F⟩ := M
  exact StX.pe_makeR m F (hr.mono hk) hg hm C8.pass0 ha hdb he hpl
theorem pe_mkL0 (M : MkL X.prog X.w X.K X.mg X.base k C) (hr : Room j X.A) (hk : k + 1 ≤ j) (hg : Gl X x) (hm : X.mg x = some (.ref C)) (hdb : (x == ("__debug__" : Str)) = false := by decide) : PE X (.Call (.Name x p) [] [] pos) (tMkL C tNil) := by
  obtain ⟨f, m, F⟩ := M
  refine ⟨fun pins s σ H Q I h => ?_⟩
  refine wpAny_Call_Name_kw (ld_glob I hg hm ?_ hdb)
  exact PySem.W.callWith_K0 I.kIn m.kp (StX.run_makeR (us := []) (vs := []) m F (hr.mono hk) C8.pass0 I .nil h)
/-- a local name that holds the class, called -/
theorem pe_mkV (M : MkL X.prog X.w X.K X.mg X.base k C) (hr : Room j X.A) (hk : k + 1 ≤ j) (hN : X.N[i]? = some x) (hv : Vis X.env.scope x) (ha : PA X (e :: es) t) (hd : (x == ("__debug__" : Str)) = false := by decide) (hcd : (x == ("__classdict__" : Str)) = false := by decide)
    (he : starEach (e :: es) X.env = (false, eval e X.env) :: starEach es X.env := by rfl) (hpl : (backTo pos (starEach es X.env)).any (·.1) = false := by rfl) : PE X (.Call (.Name x p) (e :: es) [] pos) (fun σ H Q => σ[i]? = some (some (.ref C)) ∧ tMkL C t σ H Q) := by
  obtain ⟨f, m, F⟩ := M
  refine ⟨fun pins s σ H Q I ⟨hs, h⟩ => ?_⟩
  refine wpAny_Call_Name_kw (thn ((pe_var (pos := p) hN hv hd hcd).run pins s σ H (fun v H1 => v = .ref C ∧ H1 = H) I ⟨.ref C, hs, rfl, rfl⟩) fun u s1 ⟨v, H1, I1, r1, q1⟩ => ?_)
  obtain ⟨rfl, rfl⟩ := q1
  cases r1
  refine PySem.W.callWith_K (h₀ := X.base) I.ok.mod.kin m.kp (thn (ha.run pos pins s1 σ _ _ I1 h) fun us s2 ⟨vs, H2, I2, r, q⟩ => ⟨I2.kIn, ?_⟩) he hpl
  exact StX.run_makeR m F (hr.mono hk) C8.pass0 I2 r q
end
section
variable {cs : Held} {σ : L2.St} {G : Hp} {ta : TE} {C : Addr} {U : List Str} {f : Fn}
/-- what has been made, behind its __init__ -/
theorem made_stp {G H H' : Hp} {x dx : Addr} {fs : List (Str × V)} (e : Same G H) (hx : H x = none) (hdx : H dx = none) (hne : dx ≠ x) (keep : ∀ b o, b ≠ x → upd (upd H dx (.own x)) x (.ins C dx []) b = some o → H' b = some o) (at_ : H' x = some (.ins C dx fs)) : Stp G H (upd G x (.ins C dx fs)) H' := by
  have old : ∀ b o, H b = some o → H' b = some o := fun b o h => keep b o (ne_of_none h hx) (by rw [upd_ne (ne_of_none h hx), upd_ne (ne_of_none h hdx)]; exact h)
  refine ⟨same_new (e.free hx), fun b o h => ?_, old, fun b u h1 h2 _ => ?_⟩
  · by_cases q : b = x
    · subst q
      rw [upd_same] at h
      rw [at_]
      exact h
    · rw [upd_ne q] at h
      exact old b o (e b o h)
  · rw [upd_ne (ne_of_none h2 hx)]
    exact h1
theorem gv_mkL (sf : Sup f U) (hu : U.length ≤ 6) (h : Gv cs ta σ G (Cnt (nf f U))) : Gv cs (tMkL C (tCons ta tNil)) σ G (LdR C U f) := fun H a c Q q =>
  ga_1 h H a c _ fun vs G1 H1 s1 u1 => fun x dx hx hdx hne => by
    obtain ⟨v, rfl, hv⟩ := u1.now
    refine ⟨x, dx, [v], rfl, upd_same, .inl ⟨v, rfl, fun H' k1 k2 => ⟨rfl, ?_⟩⟩⟩
    have st := made_stp s1.gh hx hdx hne k1 k2
    exact q _ _ _ (s1.trans st) (mon_ld.up ⟨sf, hu, x, dx, v, rfl, upd_same, mon_cnt _ _ _ _ st.gg hv⟩)
theorem gv_mkL0 (hu : U.length ≤ 6) : Gv cs (tMkL C tNil) σ G (LdR C U (fun _ => 0)) := fun H a c Q q => fun x dx hx hdx hne => by
  refine ⟨x, dx, [], rfl, upd_same, .inr ⟨rfl, fun H' d o k1 k2 k3 k4 => ⟨rfl, ?_⟩⟩⟩
  have st := made_stp a hx hdx hne k1 k2
  have hnx : d ≠ x := fun e => by
    rw [e, k2] at k4
    cases k4
  have hdn : H d = none := by
    cases e : H d with
    | none => rfl
    | some u => rw [upd_ne hnx, upd_ne (ne_of_none e hdx), e] at k3; cases k3
  have st2 := st.known hdn k4 (by rw [upd_ne hnx]; exact a.free hdn)
  refine q _ _ _ st2 (mon_ld.up ⟨fun k h => absurd rfl h, hu, x, dx, .ref d, rfl, by rw [upd_ne (Ne.symm hnx)]; exact upd_same, ?_⟩)
  have e : nf (fun _ => 0) U = [] := by
    unfold nf
    have : (srtS U).filter (fun k => decide ((0 : Int) ≠ 0)) = [] := List.filter_eq_nil_iff.mpr fun k _ => by simp
    rw [this]
    rfl
  rw [e]
  exact ⟨d, o, [], rfl, upd_same, .nil⟩
end
/-- the load of a table -/
def spLoadOf (C : Addr) : Sp := SpF (α := List (Str × Int) × Fn × List Str) (fun x vs G => ∃ v, vs = [v] ∧ Cnt x.1 v G ∧ x.1.length ≤ 15 ∧ fnOfT x.1 = x.2.1 ∧ Sup x.2.1 x.2.2 ∧ x.2.2.length ≤ 6) (fun x => LdR C x.2.2 x.2.1)
section
variable {P : Program} {w : World} {K : PySem.W.Frag} {mg : Str → Option Value} {base : Heap} {C f : Addr}
theorem wz_nf {l : List (Str × Int)} {g : Fn} {U : List Str} (e : fnOfT l = g) (s : Sup g U) : wz l = nf g U := by
  subst e
  exact nf_sup (sup_table l) s
theorem ok_load_of (F : Dfn K mg "load_of" (top 25)) (h3 : CalP P w K mg base 1 "without_zeros" spWz) (M : MkL P w K mg base 3 C) (hm : mg "Load" = some (.ref C)) : CalP P w K mg base 5 "load_of" (spLoadOf C) := by
  refine cal_of (N := ["counts"]) (ps := ["counts"]) F (by decide +kernel) ?_ (fun _ _ _ _ _ _ us hl => match us, hl with | [_], _ => rfl) ?_
  · rintro vs H Q E ⟨x, G, _, ⟨v, e, _⟩, _⟩
    rw [e] <;> rfl
  · intro nd cdv f A outer s H vs Q E hr h
    refine ⟨_, pss_one (ps_ret (pe_mkL M hr (by decide) rfl hm (pa_cons (C8.pe_c h3 hr (by decide) rfl (pa_cons (pv 0) pa_nil)) pa_nil))), ?_⟩
    obtain ⟨⟨l, g, U⟩, G, eG, ⟨v, rfl, hl, hn, e, sg, hu⟩, k⟩ := h
    dsimp only at e sg hu hl hn
    have ew := wz_nf e sg
    refine gv_mkL (cs := []) sg hu ?_ H eG hold_nil _ k
    rw [← ew]
    exact gv_call l (ga_imp (ga_1 (gv_var rfl (mon_cnt.up hl))) fun vs G ⟨v, e, h⟩ => ⟨v, e, h, hn⟩)
end
end Crt
end

section
/-! Load.of; the arithmetic of loads. -/
namespace Crt
open PySem PySem.Spec PyProof.Rows L2
def spOf (C : Addr) : Sp := SpF (α := List (Str × Int) × Fn × List Str) (fun x vs G => ∃ v, vs = [.ref C, v] ∧ Cnt x.1 v G ∧ x.1.length ≤ 15 ∧ (∀ k ∈ x.1.map (·.1), Word k) ∧ fnOfT x.1 = x.2.1 ∧ Sup x.2.1 x.2.2 ∧ x.2.2.length ≤ 6) (fun x => LdR C x.2.2 x.2.1)
def spNeg (C : Addr) : Sp := SpF (α := Fn × List Str) (fun x vs G => ∃ v, vs = [v] ∧ LdR C x.2 x.1 v G) (fun x => LdR C x.2 fun k => -x.1 k)
def spMul (C : Addr) : Sp := SpF (α := (Fn × List Str) × Int) (fun x vs G => ∃ v, vs = [v, .int x.2] ∧ LdR C x.1.2 x.1.1 v G ∧ ∀ k, CMulW (x.1.1 k) x.2) (fun x => LdR C x.1.2 fun k => x.1.1 k * x.2)
def spAdd (C : Addr) (g : Int → Int → Int) : Sp := SpF (α := Fn × Fn × List Str) (fun x vs G => ∃ v u, vs = [v, u] ∧ LdR C x.2.2 x.1 v G ∧ LdR C x.2.2 x.2.1 u G) (fun x => LdR C x.2.2 fun k => g (x.1 k) (x.2.1 k))
section
variable {cs : Held} {σ : L2.St} {G : Hp}
theorem gv_calls {α : Type} {pre : α → List V → Hp → Prop} {post : α → PV} {E : XK} {ta : TA} {ψ : List V → Hp → Prop} (x : α) (h : GvA cs ta σ G ψ) (k : ∀ vs G, ψ vs G → pre x vs G) : Gv cs (tCall (SpF pre post) [] E ta) σ G (post x) := gv_call x (ga_imp h k)
/-- the table of a function over the keys of some tables -/
theorem fnOfT_map {g : Fn} {l : List Str} : fnOfT (l.map fun k => (k, g k)) = fun k => if k ∈ l then g k else 0 := funext fun k => by
  unfold fnOfT
  rw [valA_mapf]
  by_cases h : k ∈ l
  · rw [if_pos h, if_pos h]
    rfl
  · rw [if_neg h, if_neg h]
    rfl
theorem putAll_val {g : Fn} : ∀ (l : List Str) (acc : List (Str × Int)) (k : Str), valA (putAll acc (l.map fun k => (k, g k))) k = if k ∈ l then some (g k) else valA acc k
  | [], acc, k => by rfl
  | x :: l, acc, k => by
    show valA (putAll (putA acc x (g x)) (l.map fun k => (k, g k))) k = _
    rw [putAll_val l, valA_put]
    by_cases h : k ∈ l
    · rw [if_pos h, if_pos (List.mem_cons_of_mem _ h)]
    · rw [if_neg h]
      by_cases e : k = x
      · subst e
        rw [if_pos rfl, if_pos List.mem_cons_self]
      · rw [if_neg e, if_neg fun z => h ((List.mem_cons.mp z).resolve_left e)]
theorem fnOfT_putAll {g : Fn} {l : List Str} : fnOfT (putAll [] (l.map fun k => (k, g k))) = fun k => if k ∈ l then g k else 0 := funext fun k => by
  unfold fnOfT
  rw [putAll_val]
  by_cases h : k ∈ l
  · rw [if_pos h, if_pos h]
    rfl
  · rw [if_neg h, if_neg h]
    rfl
end
section
variable {P : Program} {w : World} {K : PySem.W.Frag} {mg : Str → Option Value} {base : Heap} {C f : Addr}
theorem ok_of (F : MFn K "of" "Load.of" (mem 1) f) (mi : mg "isinstance" = none) (ms : mg "str" = none) (md : mg "dict" = none) (ma : mg "all" = none) (h2 : CalP P w K mg base 2 "checked" spChecked) (M : MkL P w K mg base 3 C) : C8.CalAt P w K mg base 5 f (spOf C) := by
  refine calAt_of (N := ["cls", "counts", "kind"]) (ps := ["cls", "counts"]) F (by decide +kernel) ?_ (fun _ _ _ _ _ _ us hl => match us, hl with | [_, _], _ => rfl) ?_
  · rintro vs H Q E ⟨x, G, _, ⟨v, e, _⟩, _⟩
    rw [e] <;> rfl
  · intro nd cdv A outer s H vs Q E hr h
    refine ⟨_, pss_cons (ps_if (PW.pt (pw_or (pt_not (pt_val (pe_callB call_isi rfl mi boot_isinstance (pa_cons (pv 1) (pa_cons (pe_bltn (v := .ty "dict") rfl md boot_dict rfl) pa_nil))))) (pw_or1 (pt_not (pt_val (pe_callB (cr_all rfl) rfl ma boot_all (pa_cons (pe_lc (own := [("kind", 2)]) (g := gName 2) (tt := tYes) (te := tCB (rIsi K) (tCons (tVar 2) (tCons (tC (.ty "str")) tNil))) rfl nd (pi_keys (pv 1)) (blkOk_by (N := ["cls", "counts", "kind"]) (sc := C8.fnScope (mem 1)) (by decide +kernel)) (fun _ _ _ _ _ => pg_name (i := 2) nd rfl (Or.inl rfl)) (fun _ _ _ _ _ => pts_nil)
      (fun _ _ _ _ _ => pe_callB call_isi rfl mi boot_isinstance (pa_cons (pv 2) (pa_cons (pe_bltn (v := .ty "str") rfl ms boot_str rfl) pa_nil)))) pa_nil))))))) (pss_one ps_never) pss_nil)
      (pss_one (ps_ret (pe_mkV (i := 0) M hr (by decide) rfl (Or.inl rfl) (pa_cons (C8.pe_c h2 hr (by decide) rfl (pa_cons (pv 1) pa_nil)) pa_nil)))), ?_⟩
    obtain ⟨⟨l, g, U⟩, G, eG, ⟨v, rfl, hl, hn, hw, e, sg, hu⟩, k⟩ := h
    dsimp only at e sg hu hl hn hw
    have ew := wz_nf e sg
    have isd : ∀ x G1 H1, Same G1 H1 → Cnt l x G1 → TyX K H1 x (.type "dict") := fun x G1 H1 s1 ⟨d, o, us, ex, hd, _⟩ => by
      rw [ex]
      exact .fDict (s1 _ _ hd)
    refine seq_go (if_gv (cs := []) (b := false || false) (gt_or (a := false) (gt_not (b := true) (gt_B (gv_isi (gv_var rfl (mon_cnt.up hl)) (gv_c (up_c rfl)) (.ty "dict") isd (kit_ty (by decide +kernel))))) fun _ => gt_not (b := true) (gt_B ?_)) eG hold_nil fun G1 H1 s1 => ?_)
    · have e1 : ((l.map (·.1)).map fun _ => true).all id = true := by
        rw [List.all_map, List.all_eq_true]
        exact fun _ _ => rfl
      rw [← e1]
      refine gv_all (gv_map mon_B (src_keysS (gv_var rfl (mon_cnt.up hl))) (by rw [List.length_map]; omega) ?_)
      rintro z x G2 hx e2 u
      obtain rfl := u.now
      exact ⟨_, tg_name, rfl, gv_isi (gv_vs rfl) (gv_c (up_c rfl)) (.ty "str") (fun y _ _ _ e => by rw [show y = .str x from e]; exact .base (.str x)) (kit_ty (by decide +kernel))⟩
    · rw [if_neg (by decide)]
      refine nx_go ?_
      dsimp only
      refine ⟨rfl, ?_⟩
      refine gv_mkL (cs := []) sg hu ?_ H1 s1.gh hold_nil _ fun v G' H' s u => k v G' H' (s1.trans s) u
      rw [← ew]
      exact gv_calls l (ga_1 (gv_var rfl ((mon_cnt.up hl).on s1.gg))) fun vs G ⟨v, e, h⟩ => ⟨v, e, h, hn, hw⟩
end
end Crt
end

section
/-! Loads: -x, x * n, x + y, x - y. -/
namespace Crt
open PySem PySem.Spec PyProof.Rows L2
theorem nf_map {f : Fn} {U : List Str} (g : Int → Int) : (nf f U).map (fun p => (p.1, g p.2)) = ((nf f U).map (·.1)).map fun k => (k, g (f k)) := by
  unfold nf
  rw [List.map_map, List.map_map, List.map_map]
  rfl
theorem nf_mapped {f : Fn} {U : List Str} (s : Sup f U) {g : Int → Int} (g0 : g 0 = 0) : fnOfT (putAll [] ((nf f U).map fun p => (p.1, g p.2))) = (fun k => g (f k)) ∧ Sup (fun k => g (f k)) U ∧ (putAll [] ((nf f U).map fun p => (p.1, g p.2))).length ≤ U.length := by
  refine ⟨?_, fun k h => s k fun q => h (by show g (f k) = 0; rw [q]; exact g0), Nat.le_trans (putAll_len _ _) (by rw [List.length_map]; exact Nat.le_trans (Nat.le_of_eq (Nat.zero_add _)) (nf_len f U))⟩
  rw [nf_map, fnOfT_putAll (g := fun k => g (f k))]
  funext k
  by_cases h : k ∈ (nf f U).map (·.1)
  · rw [if_pos h]
  · rw [if_neg h]
    have : f k = 0 := Classical.byContradiction fun q => h (nf_mem.mpr ⟨s k q, q⟩)
    rw [this, g0]
theorem nf_joined {f g : Fn} {U : List Str} (s : Sup f U) (t : Sup g U) {o : Int → Int → Int} (o0 : o 0 0 = 0) : fnOfT (putAll [] (((nf f U).map (·.1) ++ (nf g U).map (·.1)).map fun k => (k, o (f k) (g k)))) = (fun k => o (f k) (g k)) ∧ Sup (fun k => o (f k) (g k)) U := by
  constructor
  · rw [fnOfT_putAll (g := fun k => o (f k) (g k))]
    funext k
    by_cases h : k ∈ (nf f U).map (·.1) ++ (nf g U).map (·.1)
    · rw [if_pos h]
    · rw [if_neg h]
      rw [List.mem_append, not_or] at h
      have e1 : f k = 0 := Classical.byContradiction fun q => h.1 (nf_mem.mpr ⟨s k q, q⟩)
      have e2 : g k = 0 := Classical.byContradiction fun q => h.2 (nf_mem.mpr ⟨t k q, q⟩)
      rw [e1, e2, o0]
  · intro k h
    by_cases q : f k = 0
    · refine t k fun q2 => h ?_
      show o (f k) (g k) = 0
      rw [q, q2, o0]
    · exact s k q
section
variable {cs : Held} {σ : L2.St} {G : Hp} {ta tb : TE} {C : Addr} {U : List Str} {f : Fn} {φ : PV} {K : PySem.W.Frag}
theorem gv_ownG {k : Str} (ha : Gv cs ta σ G (LdR C U f)) (hb : Gv cs tb σ G (IsS k)) : Gv cs (tOp (rOwnG C (spGet C)) ta tb) σ G (IsI (f k)) :=
  gv_op ha hb fun x y G1 H1 s _ _ ux uy => fun Q q => by
    obtain ⟨a, dx, d, rfl, h1, h2⟩ := ux.now.2.2
    exact ⟨a, dx, _, rfl, s _ _ h1, ((f, U), k), G1, s, ⟨.ref a, by rw [show y = .str k from uy.now], ux.now⟩, q⟩
/-- [*d, *e] -/
theorem gv_star2 {β γ : Type} {R : β → PV} {S : γ → PV} {l : List (Str × β)} {m : List (Str × γ)} (hn : l.length + m.length ≤ 1000) (ha : Gv cs ta σ G (Dic KS R l)) (hb : Gv cs tb σ G (Dic KS S m)) :
    Gv cs (tLst (tStarD ta (tStarD tb tNil))) σ G (LstR IsS (l.map (·.1) ++ m.map (·.1))) := fun H a c Q q =>
  ha H a c _ fun x G1 H1 s1 ux => by
    obtain ⟨d, o, us, rfl, hd, p⟩ := ux.now
    refine ⟨d, us.map fun p : Str × V => ((Sum.inr p.1 : Key), p.2), rfl, .inr ⟨o, s1.gh _ _ hd⟩, (hb.mono s1.gg) H1 s1.gh (c.on s1.hh) _ fun y G2 H2 s2 uy => ?_⟩
    obtain ⟨e, o2, us2, rfl, he, p2⟩ := uy.now
    refine ⟨e, us2.map fun p : Str × V => ((Sum.inr p.1 : Key), p.2), rfl, .inr ⟨o2, s2.gh _ _ he⟩, ?_⟩
    have e1 : ((us.map fun p : Str × V => ((Sum.inr p.1 : Key), p.2)).map fun kv => kV kv.1) = (l.map (·.1)).map V.str := by
      rw [← keys_eq p, List.map_map, List.map_map]
      rfl
    have e2 : ((us2.map fun p : Str × V => ((Sum.inr p.1 : Key), p.2)).map fun kv => kV kv.1) = (m.map (·.1)).map V.str := by
      rw [← keys_eq p2, List.map_map, List.map_map]
      rfl
    show _ ∧ _
    rw [e1, e2, List.append_nil, ← List.map_append]
    refine ⟨?_, fun r hr => q _ _ _ ((s1.trans s2).trans (Stp.laid s2.gh hr)) (lst_new mon_S (paired_S' _) (s2.gh.free hr))⟩
    rw [List.length_map, List.length_append, List.length_map, List.length_map, sizeLine_eq]
    omega
end
section
variable {P : Program} {w : World} {K : PySem.W.Frag} {mg : Str → Option Value} {base : Heap} {C f : Addr}
theorem ok_neg (F : MFn K "__neg__" "Load.__neg__" (mem 17) f) (hc : ClsF K C "own_counts") (h5 : CalP P w K mg base 5 "load_of" (spLoadOf C)) : C8.CalAt P w K mg base 6 f (spNeg C) := by
  refine calAt_of (N := ["self", "kind", "count"]) (ps := ["self"]) F (by decide +kernel) ?_ (fun _ _ _ _ _ _ us hl => match us, hl with | [_], _ => rfl) ?_
  · rintro vs H Q E ⟨x, G, _, ⟨v, e, _⟩, _⟩
    rw [e] <;> rfl
  · intro nd cdv A outer s H vs Q E hr h
    have hu := hu_of hr
    refine ⟨_, pss_one (ps_ret (C8.pe_c h5 hr (by decide) rfl (pa_cons (pe_fz (pe_dq (tk := false) (own := [("kind", 1), ("count", 2)]) (g := gTup K 2 (gCons (gName 1) (gCons (gName 2) gNil))) (tt := tYes) (tv := tUn (rU fun i => .int (-i)) (tVar 2)) rfl hu nd (pi_items (pe_fld (pv 0) rfl))
      (blkOk_by (N := ["self", "kind", "count"]) (sc := C8.fnScope (mem 17)) (by decide +kernel)) (fun _ _ _ _ _ => pg_tup rfl (pgs_cons (pg_name (i := 1) nd rfl (Or.inl rfl)) (pgs_cons (pg_name (i := 2) nd rfl (Or.inl rfl)) pgs_nil))) (fun _ _ _ _ _ => pts_nil) (fun _ _ _ _ _ => pv 1) (fun _ _ _ _ _ => pe_un un_neg (pv 2)))) pa_nil))), ?_⟩
    obtain ⟨⟨g, U⟩, G, eG, ⟨v, rfl, hl⟩, k⟩ := h
    obtain ⟨m1, m2, m3⟩ := nf_mapped hl.1 (g := fun i => -i) rfl
    refine gv_calls (cs := []) (pre := fun x vs G => ∃ v, vs = [v] ∧ Cnt x.1 v G ∧ x.1.length ≤ 15 ∧ fnOfT x.1 = x.2.1 ∧ Sup x.2.1 x.2.2 ∧ x.2.2.length ≤ 6) (putAll [] (((nf g U).filter fun _ => true).map fun p => (p.1, -p.2)), (fun k => -g k), U) (ga_1 (gv_dq (K := KS) (kf := fun p : Str × Int => p.1) (vf := fun p => -p.2) (p := fun _ => true) mon_I (src_itemsS mon_I (gv_own hc (gv_var rfl (mon_ld.up hl)))) ?_ ?_)) ?_ H eG hold_nil _ k
    · have := nf_len g U
      have := hl.2.1
      dsimp only at *
      omega
    · rintro z ⟨a, b⟩ G1 hp e u
      obtain ⟨t, x, y, rfl, ht, rfl, rfl⟩ := u.now
      exact ⟨_, tg_pair ht, rfl, gt_yes, fun _ => ⟨gv_vs rfl, gv_neg (gv_vi rfl)⟩⟩
    · rw [filt_all]
      rintro vs G ⟨v, e, h⟩
      have := hl.2.1
      dsimp only at *
      exact ⟨v, e, h, by omega, m1, m2, hl.2.1⟩
end
end Crt
end

section
/-! Loads: x * n, n * x, x + y, x - y. -/
namespace Crt
open PySem PySem.Spec PyProof.Rows L2
/-- what load_of asks -/
abbrev preLO : (List (Str × Int) × Fn × List Str) → List V → Hp → Prop := fun x vs G => ∃ v, vs = [v] ∧ Cnt x.1 v G ∧ x.1.length ≤ 15 ∧ fnOfT x.1 = x.2.1 ∧ Sup x.2.1 x.2.2 ∧ x.2.2.length ≤ 6
def spRmul (C : Addr) : Sp := SpF (α := (Fn × List Str) × Int) (fun x vs G => ∃ v, vs = [v, .int x.2] ∧ LdR C x.1.2 x.1.1 v G ∧ ∀ k, CMulW (x.1.1 k) x.2) (fun x => LdR C x.1.2 fun k => x.1.1 k * x.2)
section
variable {P : Program} {w : World} {K : PySem.W.Frag} {mg : Str → Option Value} {base : Heap} {C f : Addr}
theorem ok_mul (F : MFn K "__mul__" "Load.__mul__" (mem 20) f) (hc : ClsF K C "own_counts") (h5 : CalP P w K mg base 5 "load_of" (spLoadOf C)) : C8.CalAt P w K mg base 6 f (spMul C) := by
  refine calAt_of (N := ["self", "number", "kind", "count"]) (ps := ["self", "number"]) F (by decide +kernel) ?_ (fun _ _ _ _ _ _ us hl => match us, hl with | [_, _], _ => rfl) ?_
  · rintro vs H Q E ⟨x, G, _, ⟨v, e, _⟩, _⟩
    rw [e] <;> rfl
  · intro nd cdv A outer s H vs Q E hr h
    have hu := hu_of hr
    refine ⟨_, pss_one (ps_ret (C8.pe_c h5 hr (by decide) rfl (pa_cons (pe_fz (pe_dq (tk := false) (own := [("kind", 2), ("count", 3)]) (g := gTup K 2 (gCons (gName 2) (gCons (gName 3) gNil))) (tt := tYes) (tv := tOp (rI CMulW fun i j => .int (i * j)) (tVar 3) (tVar 1)) rfl hu nd (pi_items (pe_fld (pv 0) rfl))
      (blkOk_by (N := ["self", "number", "kind", "count"]) (sc := C8.fnScope (mem 20)) (by decide +kernel)) (fun _ _ _ _ _ => pg_tup rfl (pgs_cons (pg_name (i := 2) nd rfl (Or.inl rfl)) (pgs_cons (pg_name (i := 3) nd rfl (Or.inl rfl)) pgs_nil))) (fun _ _ _ _ _ => pts_nil) (fun _ _ _ _ _ => pv 2) (fun _ _ _ _ _ => pe_op op_mulW (pv 3) (pv 1)))) pa_nil))), ?_⟩
    obtain ⟨⟨⟨g, U⟩, n⟩, G, eG, ⟨v, rfl, hl, hm⟩, k⟩ := h
    obtain ⟨m1, m2, m3⟩ := nf_mapped hl.1 (g := fun i => i * n) (Int.zero_mul n)
    refine gv_calls (cs := []) (pre := preLO) (putAll [] (((nf g U).filter fun _ => true).map fun p => (p.1, p.2 * n)), (fun k => g k * n), U) (ga_1 (gv_dq (K := KS) (kf := fun p : Str × Int => p.1) (vf := fun p => p.2 * n) (p := fun _ => true) mon_I (src_itemsS mon_I (gv_own hc (gv_var rfl (mon_ld.up hl)))) ?_ ?_)) ?_ H eG hold_nil _ k
    · have := nf_len g U
      have := hl.2.1
      dsimp only at *
      omega
    · rintro z ⟨a, b⟩ G1 hp e u
      obtain ⟨t, x, y, rfl, ht, rfl, rfl⟩ := u.now
      have hb : CMulW b n := by
        obtain ⟨k', _, q⟩ := List.mem_map.mp hp
        cases q
        exact hm _
      exact ⟨_, tg_pair ht, rfl, gt_yes, fun _ => ⟨gv_vs rfl, gv_I (gv_vi rfl) (gv_vi rfl) hb⟩⟩
    · rw [filt_all]
      rintro vs G ⟨v, e, h⟩
      have := hl.2.1
      dsimp only at *
      exact ⟨v, e, h, Nat.le_trans m3 (Nat.le_trans hl.2.1 (by decide)), m1, m2, hl.2.1⟩
theorem ok_rmul (F : MFn K "__rmul__" "Load.__rmul__" (mem 21) f) {fm : Addr} {fo ro rc : Option Value} (sf : PySem.W.selfFirst K C = true) (hs : PySem.W.findIn K (.ref C) "__mul__" = some (some (.ref fm))) (hf : PySem.W.isFn K (.ref fm) = true) (hr' : PySem.W.findIn K (.ref C) "__rmul__" = some rc)
    (hp : rc = none ∨ ∃ g : Addr, rc = some (.ref g)) (i1 : PySem.W.findIn K (.type "int") "__mul__" = some fo) (i2 : PySem.W.findIn K (.type "int") "__rmul__" = some ro) (hsub : PySem.W.subIn K (.type "int") (.ref C) = some false) (h6 : C8.CalAt P w K mg base 6 fm (spMul C)) : C8.CalAt P w K mg base 7 f (spRmul C) := by
  refine calAt_of (N := ["self", "number"]) (ps := ["self", "number"]) F (by decide +kernel) ?_ (fun _ _ _ _ _ _ us hl => match us, hl with | [_, _], _ => rfl) ?_
  · rintro vs H Q E ⟨x, G, _, ⟨v, e, _⟩, _⟩
    rw [e] <;> rfl
  · intro nd cdv A outer s H vs Q E hr h
    refine ⟨_, pss_one (ps_ret (pe_op (op_ownI (C := C) (f := fm) (sp := spMul C) (k := 6) sf hs hf hr' hp i1 i2 hsub h6 hr) (pv 0) (pv 1))), ?_⟩
    obtain ⟨⟨⟨g, U⟩, n⟩, G, eG, ⟨v, rfl, hl, hm⟩, k⟩ := h
    obtain ⟨s1, s2, a, dx, d, rfl, ha, hd⟩ := hl
    exact ⟨.ref a, rfl, .int n, rfl, a, n, dx, _, rfl, rfl, eG _ _ ha, ((g, U), n), G, eG, ⟨.ref a, rfl, ⟨s1, s2, a, dx, d, rfl, ha, hd⟩, hm⟩, k⟩
theorem ok_add (F : MFn K "__add__" "Load.__add__" (mem 18) f) (hc : ClsF K C "own_counts") (h5 : CalP P w K mg base 5 "load_of" (spLoadOf C)) (hg : Dun P w K mg base 1 C "__getitem__" (spGet C)) : C8.CalAt P w K mg base 6 f (spAdd C (· + ·)) := by
  refine calAt_of (N := ["self", "other", "kind"]) (ps := ["self", "other"]) F (by decide +kernel) ?_ (fun _ _ _ _ _ _ us hl => match us, hl with | [_, _], _ => rfl) ?_
  · rintro vs H Q E ⟨x, G, _, ⟨v, u, e, _⟩, _⟩
    rw [e] <;> rfl
  · intro nd cdv A outer s H vs Q E hr h
    have hu := hu_of hr
    obtain ⟨fg, g1, g2, g3, g4⟩ := hg
    refine ⟨_, pss_one (ps_ret (C8.pe_c h5 hr (by decide) rfl (pa_cons (pe_fz (pe_dq (tk := false) (own := [("kind", 2)]) (g := gName 2) (tt := tYes) (tv := tOp (rI0 fun i j => .int (i + j)) (tOp (rOwnG C (spGet C)) (tVar 0) (tVar 2)) (tOp (rOwnG C (spGet C)) (tVar 1) (tVar 2))) rfl hu nd (pi_list (pe_lst (pa_starD rfl (pe_fld (pv 0) rfl) (pa_starD rfl (pe_fld (pv 1) rfl) pa_nil))))
      (blkOk_by (N := ["self", "other", "kind"]) (sc := C8.fnScope (mem 18)) (by decide +kernel)) (fun _ _ _ _ _ => pg_name (i := 2) nd rfl (Or.inl rfl)) (fun _ _ _ _ _ => pts_nil) (fun _ _ _ _ _ => pv 2) (fun _ _ _ _ _ => pe_op op_add (pe_ownG (k := 1) g1 g2 g3 g4 (hr.mono (by decide)) (pv 0) (pv 2)) (pe_ownG (k := 1) g1 g2 g3 g4 (hr.mono (by decide)) (pv 1) (pv 2))))) pa_nil))), ?_⟩
    obtain ⟨⟨a, b, U⟩, G, eG, ⟨v, u, rfl, hl, hl2⟩, k⟩ := h
    dsimp only at hl hl2
    have hU := hl.2.1
    have n1 := nf_len a U
    have n2 := nf_len b U
    obtain ⟨m1, m2⟩ := nf_joined hl.1 hl2.1 (o := (· + ·)) rfl
    refine gv_calls (cs := []) (pre := preLO) (putAll [] ((((nf a U).map (·.1) ++ (nf b U).map (·.1)).filter fun _ => true).map fun k => (k, a k + b k)), (fun k => a k + b k), U) (ga_1 (gv_dq (K := KS) (kf := fun k : Str => k) (vf := fun k => a k + b k) (p := fun _ => true) mon_I (src_list mon_S (gv_star2 (by omega) (gv_own hc (gv_var rfl (mon_ld.up hl))) (gv_own hc (gv_var rfl (mon_ld.up hl2))))) ?_ ?_)) ?_ H eG hold_nil _ k
    · rw [List.length_append, List.length_map, List.length_map]
      omega
    · rintro z x G1 hp e u
      obtain rfl := u.now
      exact ⟨_, tg_name, rfl, gt_yes, fun _ => ⟨gv_vs rfl, gv_I0 (gv_ownG (gv_var rfl ((mon_ld.up hl).on e)) (gv_vs rfl)) (gv_ownG (gv_var rfl ((mon_ld.up hl2).on e)) (gv_vs rfl))⟩⟩
    · rw [filt_all]
      rintro vs G ⟨v, e, h⟩
      refine ⟨v, e, h, ?_, m1, m2, hU⟩
      refine Nat.le_trans (putAll_len _ _) ?_
      rw [List.length_map, List.length_append, List.length_map, List.length_map, List.length_nil]
      omega
theorem ok_sub (F : MFn K "__sub__" "Load.__sub__" (mem 19) f) (hc : ClsF K C "own_counts") (h5 : CalP P w K mg base 5 "load_of" (spLoadOf C)) (hg : Dun P w K mg base 1 C "__getitem__" (spGet C)) : C8.CalAt P w K mg base 6 f (spAdd C (· - ·)) := by
  refine calAt_of (N := ["self", "other", "kind"]) (ps := ["self", "other"]) F (by decide +kernel) ?_ (fun _ _ _ _ _ _ us hl => match us, hl with | [_, _], _ => rfl) ?_
  · rintro vs H Q E ⟨x, G, _, ⟨v, u, e, _⟩, _⟩
    rw [e] <;> rfl
  · intro nd cdv A outer s H vs Q E hr h
    have hu := hu_of hr
    obtain ⟨fg, g1, g2, g3, g4⟩ := hg
    refine ⟨_, pss_one (ps_ret (C8.pe_c h5 hr (by decide) rfl (pa_cons (pe_fz (pe_dq (tk := false) (own := [("kind", 2)]) (g := gName 2) (tt := tYes) (tv := tOp (rI0 fun i j => .int (i - j)) (tOp (rOwnG C (spGet C)) (tVar 0) (tVar 2)) (tOp (rOwnG C (spGet C)) (tVar 1) (tVar 2))) rfl hu nd (pi_list (pe_lst (pa_starD rfl (pe_fld (pv 0) rfl) (pa_starD rfl (pe_fld (pv 1) rfl) pa_nil))))
      (blkOk_by (N := ["self", "other", "kind"]) (sc := C8.fnScope (mem 19)) (by decide +kernel)) (fun _ _ _ _ _ => pg_name (i := 2) nd rfl (Or.inl rfl)) (fun _ _ _ _ _ => pts_nil) (fun _ _ _ _ _ => pv 2) (fun _ _ _ _ _ => pe_op op_sub (pe_ownG (k := 1) g1 g2 g3 g4 (hr.mono (by decide)) (pv 0) (pv 2)) (pe_ownG (k := 1) g1 g2 g3 g4 (hr.mono (by decide)) (pv 1) (pv 2))))) pa_nil))), ?_⟩
    obtain ⟨⟨a, b, U⟩, G, eG, ⟨v, u, rfl, hl, hl2⟩, k⟩ := h
    dsimp only at hl hl2
    have hU := hl.2.1
    have n1 := nf_len a U
    have n2 := nf_len b U
    obtain ⟨m1, m2⟩ := nf_joined hl.1 hl2.1 (o := (· - ·)) rfl
    refine gv_calls (cs := []) (pre := preLO) (putAll [] ((((nf a U).map (·.1) ++ (nf b U).map (·.1)).filter fun _ => true).map fun k => (k, a k - b k)), (fun k => a k - b k), U) (ga_1 (gv_dq (K := KS) (kf := fun k : Str => k) (vf := fun k => a k - b k) (p := fun _ => true) mon_I (src_list mon_S (gv_star2 (by omega) (gv_own hc (gv_var rfl (mon_ld.up hl))) (gv_own hc (gv_var rfl (mon_ld.up hl2))))) ?_ ?_)) ?_ H eG hold_nil _ k
    · rw [List.length_append, List.length_map, List.length_map]
      omega
    · rintro z x G1 hp e u
      obtain rfl := u.now
      exact ⟨_, tg_name, rfl, gt_yes, fun _ => ⟨gv_vs rfl, gv_I0 (gv_ownG (gv_var rfl ((mon_ld.up hl).on e)) (gv_vs rfl)) (gv_ownG (gv_var rfl ((mon_ld.up hl2).on e)) (gv_vs rfl))⟩⟩
    · rw [filt_all]
      rintro vs G ⟨v, e, h⟩
      refine ⟨v, e, h, ?_, m1, m2, hU⟩
      refine Nat.le_trans (putAll_len _ _) ?_
      rw [List.length_map, List.length_append, List.length_map, List.length_map, List.length_nil]
      omega
end
end Crt
end

section
/-! Dicts of counts compared. -/
namespace Crt
open PySem PySem.Spec PyProof.Rows L2
section
variable {X : Cx}
/-- two dicts of the same flat values, whoever holds them -/
def DCt : Eqv := fun x y H => ∃ a b ks ls, x = .ref a ∧ y = .ref b ∧ Rd H a (.dK ks) ∧ Rd H b (.dK ls) ∧ ks.length = ls.length ∧ ∀ p ∈ ks, valV ls p.1 = some p.2 ∧ flatB p.2 = true
theorem mon_DCt : Mon DCt := fun x y H H' e ⟨a, b, ks, ls, h1, h2, h3, h4, h5⟩ => ⟨a, b, ks, ls, h1, h2, h3.imp (e _ _) (fun ⟨o, h⟩ => ⟨o, e _ _ h⟩), h4.imp (e _ _) (fun ⟨o, h⟩ => ⟨o, e _ _ h⟩), h5⟩
theorem rcG_ct {n : Nat} : RcG X n DCt := by
  intro A pins s σ H x y u v sb I rx ry d
  obtain ⟨a, b, ks, ls, rfl, rfl, ea, eb, hlen, hp⟩ := d
  cases rx
  cases ry
  obtain ⟨_, ya, va, ra, da⟩ := dk_rd I.hok ea
  obtain ⟨_, yb, vb, rb, db⟩ := dk_rd I.hok eb
  have hl : va.length = vb.length := by rw [← ra.length, ← rb.length]; exact hlen
  refine PySem.W.keq_eq (knd := mixKind X.prog X.w) (r := true) ya yb da db sb.room.units0 (fun _ => hits_all rb ra hp) ?_
  exact ⟨by simp [hl], H, I, Ext.rfl'⟩
theorem eqG_ct {n : Nat} : EqG X n DCt := rcG_ct.eqG fun _ _ _ ⟨a, b, _, _, h1, h2, _⟩ => ⟨a, b, h1, h2⟩
/-- d != {} -/
def rNe0 : R2 := fun x y H Q => ∃ a b ks, x = .ref a ∧ y = .ref b ∧ Rd H a (.dK ks) ∧ H b = some (.dK []) ∧ Q (.bl (!ks.isEmpty)) H
theorem op_ne0 (hu : X.A.units < cLine) : OpR X (compareOp .NotEq) rNe0 := by
  intro pins s σ H x y v u Q I rx ry h
  obtain ⟨a, b, ks, rfl, rfl, ea, eb, q⟩ := h
  cases rx
  cases ry
  obtain ⟨_, ya, va, ra, da⟩ := dk_rd I.hok ea
  obtain ⟨_, yb, vb, rb, db⟩ := dk_rd I.hok (.inl eb)
  cases rb
  have hl : ks.length = va.length := ra.length
  refine PySem.W.keq_ne (knd := mixKind X.prog X.w) (r := true) ya yb da db hu (fun e => ?_) ⟨.bl (!ks.isEmpty), H, I, ?_, q⟩
  · cases va with
    | nil => exact .nil
    | cons _ _ => cases e
  · have e : (!(va.length == ([] : List (Key × Value)).length && true)) = !ks.isEmpty := by
      cases ks with
      | nil =>
        cases ra
        rfl
      | cons p r =>
        cases ra
        rfl
    rw [e]
    rfl
end
section
variable {cs : Held} {σ : L2.St} {G : Hp} {ta tb : TE} {l : List (Str × Int)}
theorem cnt_us {us : List (Str × V)} {G : Hp} (p : Paired (fun u x => u.1 = x.1 ∧ IsI x.2 u.2 G) us l) : us = l.map fun q => (q.1, V.int q.2) := by
  induction p with
  | nil => rfl
  | cons a _ ih =>
    rw [List.map_cons, ← ih]
    exact congrArg (· :: _) (Prod.ext a.1 a.2)
theorem cnt_dct {v u : V} {G H : Hp} (e : Same G H) (nd : (l.map (·.1)).Nodup) (hv : Cnt l v G) (hu : Cnt l u G) : DCt v u H := by
  obtain ⟨a, o, us, rfl, ha, p⟩ := hv
  obtain ⟨b, o2, us2, rfl, hb, p2⟩ := hu
  rw [cnt_us p] at ha
  rw [cnt_us p2] at hb
  refine ⟨a, b, _, _, rfl, rfl, .inr ⟨o, e _ _ ha⟩, .inr ⟨o2, e _ _ hb⟩, rfl, fun q hq => ?_⟩
  rw [List.map_map] at hq
  obtain ⟨r, hr, rfl⟩ := List.mem_map.mp hq
  refine ⟨?_, rfl⟩
  have e2 : valV ((l.map fun q => (q.1, V.int q.2)).map fun p : Str × V => ((Sum.inr p.1 : Key), p.2)) (Sum.inr r.1) = valA (l.map fun q => (q.1, V.int q.2)) r.1 := valA_mapk (fun k : Str => (Sum.inr k : Key)) (fun a b h => Sum.inr.inj h) r.1 _
  refine e2.trans (valA_nodup ?_ (List.mem_map.mpr ⟨r, hr, rfl⟩))
  rw [List.map_map]
  exact nd
theorem gv_ne0 (ha : Gv cs ta σ G (Cnt l)) : Gv cs (tOp rNe0 ta tDNewK) σ G (IsB (!l.isEmpty)) := fun H a c Q q =>
  ha H a c _ fun x G1 H1 s1 ux => fun p hp => by
    obtain ⟨d, o, us, rfl, hd, pr⟩ := ux.now
    have hd2 := s1.gh _ _ hd
    refine ⟨d, p, _, rfl, rfl, .inr ⟨o, by rw [upd_ne (ne_of_none hd2 hp)]; exact hd2⟩, upd_same, ?_⟩
    have e : (us.map fun p : Str × V => ((Sum.inr p.1 : Key), p.2)).isEmpty = l.isEmpty := by
      rw [cnt_us pr]
      cases l <;> rfl
    rw [e]
    exact q _ _ _ (s1.trans (Stp.held s1.gh hp)) (up_c rfl)
/-- load == load, alike -/
def spEqL (C : Addr) : Sp := L2.spEq (fun a b H => ∃ f U G, Same G H ∧ LdR C U f (.ref a) G ∧ LdR C U f (.ref b) G)
end
section
variable {P : Program} {w : World} {K : PySem.W.Frag} {mg : Str → Option Value} {base : Heap} {C f : Addr}
theorem ok_eq (F : MFn K "__eq__" "Load.__eq__" (mem 14) f) (hc : ClsF K C "own_counts") (mi : mg "isinstance" = none) (hm : mg "Load" = some (.ref C)) (ic : C8.InsC K C) : C8.CalAt P w K mg base 2 f (spEqL C) := by
  refine calAt_of (N := ["self", "other"]) (ps := ["self", "other"]) F (by decide +kernel) ?_ (fun _ _ _ _ _ _ us hl => match us, hl with | [_, _], _ => rfl) ?_
  · rintro vs H Q E ⟨a, b, e, _⟩
    rw [e] <;> rfl
  · intro nd cdv A outer s H vs Q E hr h
    refine ⟨_, pss_one (ps_ret (pe_and (pe_callB (C8.call_isC ic) rfl mi boot_isinstance (pa_cons (pv 1) (pa_cons (C8.pe_gc (v := .ref C) rfl ⟨_, hm, rfl⟩) pa_nil))) (pe_one (pe_cmpR (op_eqG (rcG_ct (n := 1)) hr) (pe_fld (pv 0) rfl) (pe_fld (pv 1) rfl) (nomark _))))), ?_⟩
    obtain ⟨a, b, rfl, ⟨g, U, G, eG, ⟨s1, s2, a1, dx, d, e1, ha, hd⟩, ⟨_, _, b1, dy, d2, e2, hb, hd2⟩⟩, k⟩ := h
    cases e1
    cases e2
    refine ⟨.ref b, rfl, b, dy, _, rfl, eG _ _ hb, true, rfl, ?_⟩
    rw [if_pos rfl]
    refine ⟨.ref a, rfl, a, C, dx, _, d, rfl, eG _ _ ha, hc.cls, hc.na, rfl, ?_⟩
    refine ⟨.ref b, rfl, b, C, dy, _, d2, rfl, eG _ _ hb, hc.cls, hc.na, rfl, ?_⟩
    exact ⟨cnt_dct eG (nf_nodup g U) hd hd2, k⟩
end
end Crt
end

section
/-! l != m, alike item by item. -/
namespace Crt
open PySem PySem.Spec PyProof.Rows L2 PySem.SeqAt
open AutoSeq1 (wpAny_loadPart')
open MeetsSeq MeetsSeq2 MeetsSeq3 SeqRoads2
section
variable {prog : Program} {w : World} {A : Around} {R : Result → Shared → Prop}
theorem ne_loop (l b : Addr) (N : Nat) (I : Nat → Shared → Prop) (hl : GQ.ListI prog w A (fun e s' => R (.error e) s') l b N I) (fin : ∀ s, I N s → R (.ok (.ret (.bool false))) s) (m : Nat) :
    ∀ i : Nat, N - i = m → i ≤ N → ∀ s, I i s → wpAny (model prog w) A.in1 (Builtin.«list.__eq__.loop» ⟨[.ref l, .ref b, rawInt i, rawInt 3], []⟩) (GQ.FinOf prog w A R) (fun e s' => R (.error e) s') s := by
  induction m with
  | zero =>
    intro i hk hi s h
    obtain ⟨xs, ys, n, n2, h1, h2, e1, e2, _⟩ := hl _ _ h
    obtain rfl : i = N := by omega
    have hR := fin s h
    obtain ⟨hp, g, d, tk, os⟩ := s
    wp_walk using wpAny_loadPart' h1, wpAny_loadPart' h2
    have hi1 : xs[((i : Nat) : Int).toNat]? = none := by simp; omega
    have hi2 : ys[((i : Nat) : Int).toNat]? = none := by simp; omega
    rw [hi1, hi2]
    wp_walk using wpAny_loadPart' h1, wpAny_loadPart' h2
    show R (.ok (.ret (.bool (xs.size != ys.size)))) _
    rw [e1, e2]
    simpa using hR
  | succ m ih =>
    intro i hk hi s h
    obtain ⟨xs, ys, n, n2, h1, h2, e1, e2, turn⟩ := hl _ _ h
    have lt1 : i < xs.size := by omega
    have lt2 : i < ys.size := by omega
    have ht := turn lt1 lt2
    obtain ⟨hp, g, d, tk, os⟩ := s
    wp_walk using wpAny_loadPart' h1, wpAny_loadPart' h2
    have hi1 : xs[((i : Nat) : Int).toNat]? = some xs[i] := by simp [lt1]
    have hi2 : ys[((i : Nat) : Int).toNat]? = some ys[i] := by simp [lt2]
    have hc : ((i : Int) + 1) = ((i + 1 : Nat) : Int) := by omega
    rw [hi1, hi2]
    refine wpAny_bind (wpAny_mono ht (fun r s2 q => ?_) fun _ _ x => x)
    obtain ⟨hr, q⟩ := q
    subst hr
    have hrec := ih (i + 1) (by omega) (by omega) s2 q
    obtain ⟨hp2, g2, d2, tk2, os2⟩ := s2
    wp_walk
    rw [hc]
    exact ⟨plainId_quiet plain_eq_loop _, codeAny_builtin entry_eq_loop (by
      rw [Around.under_plainId plain_eq_loop _]
      exact hrec)⟩
theorem list_neG (l b : Addr) (N : Nat) (I : Nat → Shared → Prop) (hl : GQ.ListI prog w A (fun e s' => R (.error e) s') l b N I) (fin : ∀ s, I N s → R (.ok (.ret (.bool false))) s) {s : Shared} (h : I 0 s) :
    wpAny (model prog w) A.in1 (Builtin.«list.__ne__» ⟨[.ref l, .ref b], []⟩) (GQ.FinOf prog w A R) (fun e s' => R (.error e) s') s := by
  obtain ⟨xs, ys, n, n2, h1, h2, e1, e2, _⟩ := hl _ _ h
  have hrec := ne_loop (A := A) (R := R) l b N I hl fin _ 0 rfl (Nat.zero_le _) s h
  obtain ⟨hp, g, d, tk, os⟩ := s
  have f3 := AutoSeq1.sub_list_list
  have hne : ¬ (xs.size != ys.size) = true := by simp [e1, e2]
  wp_walk using wpAny_loadPart' h1, wpAny_loadPart' h2
  exact ⟨plainId_quiet plain_eq_loop _, codeAny_builtin entry_eq_loop (by
    rw [Around.under_plainId plain_eq_loop _]
    exact hrec)⟩
theorem rc_neG {E : Value → Shared → Prop} {s : Shared} {l b : Addr} {N : Nat} {Q : Value → Shared → Prop} (hu : A.units < cLine) (I : Nat → Shared → Prop) (hl : GQ.ListI prog w A E l b N I) (fin : ∀ s, I N s → Q (.bool false) s) (h : I 0 s) :
    wpAny (model prog w) A (richCompare .NotEq (.ref l) (.ref b)) Q E s := by
  obtain ⟨xs, ys, n, n2, h1, h2, _, _, _⟩ := hl _ _ h
  refine wpAny_richCompare_same_room (op := .NotEq) ⟨_, h1, rfl⟩ ⟨_, h2, rfl⟩ F.slot_list_ne (GQ.call_here F.slot_list_ne ⟨_, h1, rfl⟩ F.entry_list_ne (F.args_list_ne_2 _ _) ?_) hu
  exact list_neG (R := wants (fun v s' => v ≠ .notImplemented ∧ Q v s') E) l b N I hl (fun s' q => ⟨(fun x => nomatch x), fin s' q⟩) h
end
section
variable {X : Cx} {n : Nat} {D : Eqv}
/-- x != y, the items alike -/
def rNeG (D : Eqv) : R2 := fun x y H Q => DList D x y H ∧ ∀ H', Ext H H' → Q (.bl false) H'
theorem op_neG (hD : Mon D) (h : EqG X n D) (hr : Room (n + 1) X.A) : OpR X (compareOp .NotEq) (rNeG D) := by
  intro pins s σ H x y v u Q I rx ry hq
  obtain ⟨⟨a, b, xs, ys, rfl, rfl, ha, hb, p⟩, q⟩ := hq
  cases rx
  cases ry
  have sb : Sub X (n + 1) X.A := ⟨hr, rfl⟩
  refine rc_neG (N := xs.length) hr.units0 (fun _ s' => LoopI X pins σ H s') (fun i s' z => ?_) (fun s' z => ?_) ⟨H, I, Ext.rfl'⟩
  · obtain ⟨H1, I1, e1⟩ := id z
    obtain ⟨z1, its, k, r, e⟩ := I1.hok a _ (e1 _ _ ha)
    obtain ⟨z2, its2, k2, r2, e2⟩ := I1.hok b _ (e1 _ _ hb)
    refine ⟨its.toArray, its2.toArray, k, k2, e, e2, by rw [List.size_toArray, ← r.length], by rw [List.size_toArray, ← r2.length, ← p.1], fun h1 h2 => ?_⟩
    exact turnG hD h sb p r r2 i h1 h2 s' z
  · obtain ⟨H1, I1, e1⟩ := z
    exact ⟨.bl false, H1, I1, rfl, q H1 e1⟩
end
end Crt
end

section
/-! Dicts by tuples compared, their values alike by their own ==. -/
namespace Crt
open PySem PySem.Spec PyProof.Rows L2
/-- two locked dicts by tuples with the same keys, the values alike -/
def DDt (D : Eqv) : Eqv := fun x y H => ∃ a b oa ob ks ls, x = .ref a ∧ y = .ref b ∧ H a = some (.frz oa (.dT ks)) ∧ H b = some (.frz ob (.dT ls)) ∧ ks.length = ls.length ∧ ∀ p ∈ ks, ∃ q, valV ls p.1 = some q ∧ D p.2 q H
section
variable {X : Cx} {n : Nat} {D : Eqv} {pins : List (Addr × Obj)} {σ : L2.St} {H : Hp} {s : Shared} {A : Around}
theorem pairs_T (hD : Mon D) (h : EqG X n D) (sb : Sub X (n + 1) A) {id : String} {a b : Addr} {oa ob : Obj} {ks ls : List (List Key × V)} (I : Inv X pins σ H s) (ha : H a = some (.frz oa (.dT ks))) (hb : H b = some (.frz ob (.dT ls))) (hlen : ks.length = ls.length) (hp : ∀ p ∈ ks, ∃ q, valV ls p.1 = some q ∧ D p.2 q H)
    {Q : Bool → Shared → Prop} (hQ : ∀ s', LoopI X pins σ H s' → Q true s') : wpAny (model X.prog X.w) A.in1 (Builtin.Dict.samePairs id a b) Q X.xe s := by
  obtain ⟨la, ga, xa, es, ep, da, sa, _⟩ := frzT_full I ha
  obtain ⟨lb, gb, xb, es', ep', db, sb', _⟩ := frzT_full I hb
  have obj : ∀ {s' : Shared} {H1 : Hp}, Inv X pins σ H1 s' → Ext H H1 → s'.heap.get? a = some oa ∧ s'.heap.get? b = some ob := fun {s' H1} I1 e1 => ⟨(frzT_full I1 (e1 _ _ ha)).2.1, (frzT_full I1 (e1 _ _ hb)).2.1⟩
  unfold Builtin.Dict.samePairs Builtin.Dict.showsAll
  rw [if_neg (show ¬ (a == sysModules) = true by rw [la]; exact Bool.false_ne_true), if_neg (show ¬ (b == sysModules) = true by rw [lb]; exact Bool.false_ne_true)]
  refine wpAny_bind (wpAny_pure (wpAny_bind (wpAny_pure ?_)))
  refine wpAny_bind (wpAny_dictEntries ga da ?_)
  dsimp only
  refine wpAny_bind (wpAny_dictEntries gb db ?_)
  rw [if_neg (by rw [sa, sb', hlen]; simp)]
  refine wpAny_bind (wpAny_dictEpoch ga da (wpAny_bind ?_))
  refine PySem.SeqAt.wpAny_forIn_span 0 es.size _ (fun i c s' => c = (none, ()) ∧ LoopI X pins σ H s') _ ?_ ?_ _ ⟨rfl, H, I, Ext.rfl'⟩
  · rintro i c s' _ hi ⟨rfl, H1, I1, e1⟩
    obtain ⟨g1, g2⟩ := obj I1 e1
    obtain ⟨_, _, _, es1, ep1, da1, _, ent⟩ := frzT_full I1 (e1 _ _ ha)
    obtain ⟨rfl, rfl⟩ := dict_ep da da1
    have hik : i < ks.length := by omega
    obtain ⟨en, kq, hen, hkey, hkt, rv⟩ := ent i ks[i].1 ks[i].2 (List.getElem?_eq_getElem hik)
    obtain ⟨q, hq, hd⟩ := hp ks[i] (List.getElem_mem hik)
    refine wpAny_bind (wpAny_dictEntries g1 da ?_)
    rw [hen]
    dsimp only
    -- the other dict
    obtain ⟨_, _, xs, rel, o2, es2, ep2, ho2, hx2, hd2, he2, hk2, hn2⟩ := dt_rd I1.hok (.inr ⟨ob, e1 _ _ hb⟩)
    obtain rfl : o2 = ob := Option.some.inj (ho2.symm.trans g2)
    obtain ⟨rfl, rfl⟩ := dict_ep db hd2
    have hash : en.hash = (tupleKind (mixKind X.prog X.w)).hash ks[i].1 := by
      obtain ⟨_, _, ya, rela, o3, es3, ep3, ho3, _, hd3, he3, _, _⟩ := dt_rd I1.hok (.inr ⟨oa, e1 _ _ ha⟩)
      obtain rfl : o3 = oa := Option.some.inj (ho3.symm.trans g1)
      obtain ⟨rfl, rfl⟩ := dict_ep da hd3
      obtain ⟨z, hz, z1, _⟩ := paired_get rela (List.getElem?_eq_getElem hik)
      have w := entry_at he3 i
      rw [hz, hen] at w
      have w2 := Option.some.inj w
      rw [w2, z1]
      rfl
    rw [hkey, hash]
    have val := rel.val ks[i].1
    rw [hq] at val
    have room : A.in1.units < cLine := sb.in1.room.units0
    refine wpAny_bind (wpAny_holding (wpAny_bind (wpAny_dictFind_heap (knd := tupleKind (mixKind X.prog X.w)) room (key_of I1.hok hkt) g2 db he2 hk2 hn2 (fun no => ?_) fun j p hj => ?_)))
    · rw [atKey_none_of_get no] at val
      exact False.elim val
    · rw [atKey_of_get hn2 hj] at val
      have hj2 := entry_at he2 j
      rw [hj] at hj2
      refine wpAny_bind (wpAny_dictEntries g2 db ?_)
      rw [hj2]
      dsimp only [Option.map_some]
      have rq : RelV q (entryOfKey (tupleKind (mixKind X.prog X.w)) (ks[i].1, p)).val := val
      refine wpAny_holding (wpAny_mono (h A.in1 pins s' σ H1 _ _ _ _ sb.in1 I1 rv rq (hD _ _ _ _ e1 hd)) (fun r s2 z => ?_) fun _ _ z => z)
      obtain ⟨rfl, H2, I2, e2⟩ := z
      show wpAny _ _ (if (!true) = true then _ else _) _ _ _
      rw [if_neg (by decide)]
      refine wpAny_bind (wpAny_dictEpoch (obj I2 (e1.trans e2)).1 da ?_)
      rw [if_neg (by simp)]
      exact wpAny_pure ⟨rfl, H2, I2, e1.trans e2⟩
  · rintro c s' ⟨rfl, l⟩
    exact wpAny_pure (hQ s' l)
/-- x != y -/
def rNeDt (D : Eqv) : R2 := fun x y H Q => DDt D x y H ∧ ∀ H', Ext H H' → Q (.bl false) H'
theorem op_neDt (hD : Mon D) (h : EqG X n D) (hr : Room (n + 1) X.A) : OpR X (compareOp .NotEq) (rNeDt D) := by
  intro pins s σ H x y v u Q I rx ry hq
  obtain ⟨⟨a, b, oa, ob, ks, ls, rfl, rfl, ha, hb, hlen, hp⟩, q⟩ := hq
  cases rx
  cases ry
  obtain ⟨la, ga, xa, _⟩ := frzT_full I ha
  obtain ⟨lb, gb, xb, _⟩ := frzT_full I hb
  have ta : s.TypeIs (.ref a) "dict" := ⟨oa, ga, xa.1⟩
  have tb : s.TypeIs (.ref b) "dict" := ⟨ob, gb, xb.1⟩
  have sb : Sub X (n + 1) X.A := ⟨hr, rfl⟩
  refine wpAny_richCompare_same_room (op := .NotEq) ta tb PySem.F.slot_dict_ne (wpAny_call_entry PySem.F.slot_dict_ne ta PySem.F.entry_dict_ne ?_ (PySem.F.args_dict_ne_2 _ _)) hr.units0
  show wpAny _ _ (Builtin.Dict.dictSlotArgs "__ne__" ⟨[.ref a, .ref b], []⟩ >>= _) _ _ s
  refine wpAny_bind ?_
  unfold Builtin.Dict.dictSlotArgs
  refine wpAny_bind (wpAny_notOrdered_dict ta ?_)
  show wpAny _ _ (pure (Value.ref a, Value.ref b)) _ _ s
  refine wpAny_pure ?_
  refine wpAny_bind (wpAny_isInstance (T := "dict") tb PySem.F.sub_dict_dict ?_)
  simp only [Bool.not_true, Bool.false_eq_true, if_false]
  refine wpAny_bind (wpAny_pure (wpAny_bind (wpAny_pure ?_)))
  refine wpAny_bind (pairs_T hD h sb I ha hb hlen hp fun s' l => ?_)
  obtain ⟨H1, I1, e1⟩ := l
  exact wpAny_pure ⟨_, rfl, (fun x => nomatch x), .bl false, H1, I1, rfl, q H1 e1⟩
end
end Crt
end

section
/-! Rows of ints: rules. -/
namespace Crt
open PySem PySem.Spec PyProof.Rows L2
/-- // by a divisor below 2 ^ 9000, of any sign -/
def CDivX (_ j : Int) : Prop := j ≠ 0 ∧ j.natAbs.log2 < 9000
theorem op_fdivX {X : Cx} : OpR X (binaryOp .FloorDiv) (rI CDivX fun i j => .int (i.fdiv j)) := opI fun i j _ _ _ _ _ hc q => floordiv_int hc.1 q (.inl (PyProof.noPylong_of_log2 hc.2))
def asInts (xs : List Int) : PyData := .list (xs.map PyData.int)
theorem eqvAll_ints : ∀ xs ys : List Int, PyData.eqvAll (xs.map PyData.int) (ys.map PyData.int) = decide (xs = ys)
  | [], [] => rfl
  | [], _ :: _ => rfl
  | _ :: _, [] => rfl
  | x :: xs, y :: ys => by
    show (PyData.eqv (.int x) (.int y) && PyData.eqvAll (xs.map PyData.int) (ys.map PyData.int)) = _
    rw [eqvAll_ints xs ys]
    show (x == y && _) = _
    by_cases h : x = y
    · subst h
      by_cases h2 : xs = ys
      · subst h2
        simp
      · simp [h2]
    · simp [h]
theorem eqv_ints (xs ys : List Int) : PyData.eqv (asInts xs) (asInts ys) = decide (xs = ys) := eqvAll_ints xs ys
theorem canLay_ints : ∀ xs : List Int, PyData.canLayAll0 (xs.map PyData.int) = true
  | [] => rfl
  | x :: xs => by
    show (PyData.canLay0 (.int x) && PyData.canLayAll0 (xs.map PyData.int)) = true
    rw [canLay_ints xs]
    rfl
theorem depth_ints : ∀ xs : List Int, PyData.depthAll (xs.map PyData.int) ≤ 1
  | [] => by decide
  | x :: xs => by
    show max (PyData.depth (.int x)) (PyData.depthAll (xs.map PyData.int)) ≤ 1
    have := depth_ints xs
    have h : PyData.depth (.int x) ≤ 1 := by simp [PyData.depth]
    omega
theorem shaped_ints (xs : List Int) : SeqAt.shaped (asInts xs) = true := by
  unfold SeqAt.shaped
  rw [Bool.and_eq_true]
  refine ⟨canLay_ints xs, decide_eq_true ?_⟩
  have := depth_ints xs
  show PyData.depthAll (xs.map PyData.int) + 1 ≤ 64
  omega
theorem dp_all {K : PySem.W.Frag} {H : Hp} : ∀ xs : List Int, DpAll K H (xs.map V.int) (xs.map PyData.int)
  | [] => .nil
  | x :: xs => .cons (.int x) (dp_all xs)
theorem dp_ints {K : PySem.W.Frag} {G H : Hp} {xs : List Int} {v : V} (h : Vec xs v G) (e : Same G H) : Dp K H v (asInts xs) := by
  obtain ⟨a, rfl, ha⟩ := vec_iff.mp h
  exact .lst (SqL.of (e _ _ ha)) (dp_all xs)
theorem pr_drop {α β : Type} {P : α → β → Prop} : ∀ {xs : List α} {ys : List β}, Paired P xs ys → ∀ {i : Nat}, Paired P (xs.drop i) (ys.drop i)
  | _, _, .nil, _ => by rw [List.drop_nil, List.drop_nil]; exact .nil
  | _, _, .cons h t, 0 => .cons h t
  | _, _, .cons _ t, i + 1 => pr_drop t
/-- what a list of arguments holds -/
def PrA {α : Type} (R : α → PV) (xs : List α) : List V → Hp → Prop := fun vs G => Paired (fun u x => R x u G) vs xs
section
variable {α β : Type} {R : α → PV} {S : β → PV} {cs : Held} {σ : L2.St} {G : Hp} {ta tb te : TE} {tr : TA} {K : PySem.W.Frag} {xs ys : List α} {x : α} {φ : PV}
theorem gv_eqI {i j : Int} (ha : Gv cs ta σ G (IsI i)) (hb : Gv cs tb σ G (IsI j)) : Gv cs (tOp rEq ta tb) σ G (IsB (decide (i = j))) := gv_isb (gv_eq ha hb rfl) (decide_eq_decide.mpr ⟨fun e => V.int.inj e, fun e => by rw [e]⟩)
theorem gv_neI {i j : Int} (ha : Gv cs ta σ G (IsI i)) (hb : Gv cs tb σ G (IsI j)) : Gv cs (tOp rNe ta tb) σ G (IsB (!decide (i = j))) := gv_isb (gv_ne ha hb rfl) (congrArg (! ·) (decide_eq_decide.mpr ⟨fun e => V.int.inj e, fun e => by rw [e]⟩))
theorem gv_eqVec {xs ys : List Int} (ha : Gv cs ta σ G (Vec xs)) (hb : Gv cs tb σ G (Vec ys)) : Gv cs (tOp (rEqD K) ta tb) σ G (IsB (decide (xs = ys))) :=
  gv_op ha hb fun x y G1 H1 s _ _ ux uy => rv_at (v := .bl (decide (xs = ys))) s (up_c rfl) fun Q q => ⟨asInts xs, asInts ys, dp_ints ux.now s, dp_ints uy.now s, shaped_ints xs, shaped_ints ys, by rw [eqv_ints]; exact q⟩
theorem gv_neVec {xs ys : List Int} (ha : Gv cs ta σ G (Vec xs)) (hb : Gv cs tb σ G (Vec ys)) : Gv cs (tOp (rNeD K) ta tb) σ G (IsB (!decide (xs = ys))) :=
  gv_op ha hb fun x y G1 H1 s _ _ ux uy => rv_at (v := .bl (!decide (xs = ys))) s (up_c rfl) fun Q q => ⟨asInts xs, asInts ys, dp_ints ux.now s, dp_ints uy.now s, shaped_ints xs, shaped_ints ys, by rw [eqv_ints]; exact q⟩
/-- xs == [] , of any things -/
theorem gv_ixL {i : Nat} (m : MonR R) (ha : Gv cs ta σ G (LstR R xs)) (hb : Gv cs tb σ G (IsI (i : Int))) (hx : xs[i]? = some x) : Gv cs (tOp (rIxL K) ta tb) σ G (R x) :=
  gv_op ha hb fun v w G1 H1 s _ _ ux uy => by
    obtain ⟨a, vs, rfl, h2, p⟩ := ux.now
    obtain ⟨u, hu, ru⟩ := pr_at' p hx
    exact rv_at (v := u) s (m.up ru) fun Q q => ⟨a, vs, (i : Int), u, rfl, uy.now, SqL.of (s _ _ h2), atI_nat hu, q⟩
theorem gv_ixT {i : Nat} (m : MonR R) (ha : Gv cs ta σ G (TupR R xs)) (hb : Gv cs tb σ G (IsI (i : Int))) (hx : xs[i]? = some x) : Gv cs (tOp (rIxT K) ta tb) σ G (R x) :=
  gv_op ha hb fun v w G1 H1 s _ _ ux uy => by
    obtain ⟨a, vs, rfl, h2, p⟩ := ux.now
    obtain ⟨u, hu, ru⟩ := pr_at' p hx
    exact rv_at (v := u) s (m.up ru) fun Q q => ⟨a, vs, (i : Int), u, rfl, uy.now, SqT.of (s _ _ h2), atI_nat hu, q⟩
theorem gv_abs {i : Int} (ha : Gv cs ta σ G (IsI i)) : Gv cs (tCB (fun xs H Q => ∃ i, xs = [.int i] ∧ Q (.int (if i < 0 then -i else i)) H) (tCons ta tNil)) σ G (IsI (i.natAbs : Int)) :=
  gv_cb' (ga_1 ha) fun vs G1 H1 s c1 g up => by
    refine rv_at (v := .int i.natAbs) s (up_c rfl) fun Q q => ?_
    obtain ⟨v, rfl, e⟩ := up.now
    have e2 : (if i < 0 then -i else i) = (i.natAbs : Int) := by
      split <;> omega
    exact ⟨i, by rw [show v = .int i from e], by rw [e2]; exact q⟩
theorem gv_lenL (ha : Gv cs ta σ G (LstR R xs)) : Gv cs (tCB (fun xs H Q => ∃ p ys, xs = [.ref p] ∧ (SqL K H p ys ∨ SqT K H p ys) ∧ Q (.int ys.length) H) (tCons ta tNil)) σ G (IsI (xs.length : Int)) :=
  gv_cb' (ga_1 ha) fun vs G1 H1 s c1 g up => by
    refine rv_at (v := .int xs.length) s (up_c rfl) fun Q q => ?_
    obtain ⟨v, rfl, a, us, rfl, h2, p⟩ := up.now
    exact ⟨a, us, rfl, .inl (SqL.of (s _ _ h2)), by rw [p.length]; exact q⟩
theorem gv_lenT (ha : Gv cs ta σ G (TupR R xs)) : Gv cs (tCB (fun xs H Q => ∃ p ys, xs = [.ref p] ∧ (SqL K H p ys ∨ SqT K H p ys) ∧ Q (.int ys.length) H) (tCons ta tNil)) σ G (IsI (xs.length : Int)) :=
  gv_cb' (ga_1 ha) fun vs G1 H1 s c1 g up => by
    refine rv_at (v := .int xs.length) s (up_c rfl) fun Q q => ?_
    obtain ⟨v, rfl, a, us, rfl, h2, p⟩ := up.now
    exact ⟨a, us, rfl, .inr (SqT.of (s _ _ h2)), by rw [p.length]; exact q⟩
/-- list(xs) -/
theorem gv_listL (m : MonR R) (ha : Gv cs ta σ G (LstR R xs)) : Gv cs (tCB (fun xs H Q => ∃ p ys, xs = [.ref p] ∧ (SqL K H p ys ∨ SqT K H p ys) ∧ ∀ l, H l = none → Q (.ref l) (upd H l (.lst ys))) (tCons ta tNil)) σ G (LstR R xs) :=
  gv_cb' (ga_1 ha) fun vs G1 H1 s c1 g up => by
    obtain ⟨v, rfl, a, us, rfl, h2, p⟩ := up.now
    exact rv_new s (fun q _ hq => lst_new m p hq) fun Q k => ⟨a, us, rfl, .inl (SqL.of (s _ _ h2)), k⟩
theorem ga_nilP : GvA cs tNil σ G (PrA R []) := fun H a _ _ q => q [] G H (Stp.refl a) (fun _ _ => .nil)
theorem ga_consP (m : MonR R) (h : Gv cs te σ G (R x)) (hr : GvA cs tr σ G (PrA R xs)) : GvA cs (tCons te tr) σ G (PrA R (x :: xs)) := fun H a c Q q =>
  h H a c _ fun v G1 H1 s1 uv => (hr.mono s1.gg) H1 s1.gh (c.on s1.hh) _ fun r G2 H2 s2 ur => q (v :: r) G2 H2 (s1.trans s2) fun F f => .cons (uv F (s2.gg.trans f)) (ur F f)
theorem ga_star (m : MonR R) (h : Gv cs te σ G (LstR R xs)) (hr : GvA cs tr σ G (PrA R ys)) : GvA cs (StX.tStar K te tr) σ G (PrA R (xs ++ ys)) := fun H a c Q q =>
  h H a c _ fun v G1 H1 s1 uv => by
    obtain ⟨p, us, rfl, h2, pr⟩ := uv.now
    refine ⟨p, us, rfl, .inr (SqL.of (s1.gh _ _ h2)), (hr.mono s1.gg) H1 s1.gh (c.on s1.hh) _ fun r G2 H2 s2 ur => q (us ++ r) G2 H2 (s1.trans s2) fun F f => pr_app (paired_mono m (s2.gg.trans f) pr) (ur F f)⟩
theorem gv_lstP (m : MonR R) (h : GvA cs tr σ G (PrA R xs)) (hn : xs.length ≤ 100000) : Gv cs (tLst tr) σ G (LstR R xs) := fun H a c Q q =>
  h H a c _ fun vs G1 H1 s1 u => ⟨Nat.le_trans (by rw [Paired.length u.now]; exact hn) (by decide), fun p hp => q _ _ _ (s1.trans (Stp.laid s1.gh hp)) (lst_new m u.now (s1.gh.free hp))⟩
theorem tup_new {a : Addr} {vs : List V} {H : Hp} (m : MonR R) (p : Paired (fun u x => R x u H) vs xs) (hn : H a = none) : Up (TupR R xs (.ref a)) (upd H a (.tup vs)) :=
  (mon_tup m).up ⟨a, vs, rfl, upd_same, paired_mono m (same_new hn) p⟩
theorem gv_tupP (m : MonR R) (h : GvA cs tr σ G (PrA R xs)) (hn : xs.length ≤ 100000) : Gv cs (tTup tr) σ G (TupR R xs) := fun H a c Q q =>
  h H a c _ fun vs G1 H1 s1 u => ⟨Nat.le_trans (by rw [Paired.length u.now]; exact hn) (by decide), fun p hp => q _ _ _ (s1.trans (Stp.laid s1.gh hp)) (tup_new m u.now (s1.gh.free hp))⟩
/-- (a, b) -/
theorem gv_pair {a : α} {b : β} (m : MonR R) (m2 : MonR S) (ha : Gv cs ta σ G (R a)) (hb : Gv cs tb σ G (S b)) : Gv cs (tTup (tCons ta (tCons tb tNil))) σ G (PairR R S (a, b)) := fun H e c Q q =>
  ga_2 ha hb H e c _ fun vs G1 H1 s1 u => by
    obtain ⟨v, w, rfl, h1, h2⟩ := u.now
    exact ⟨by show 2 ≤ sizeLine; decide, fun p hp => q _ _ _ (s1.trans (Stp.laid s1.gh hp)) ((mon_pair m m2).up ⟨p, v, w, rfl, upd_same, m _ _ _ _ (same_new (s1.gh.free hp)) h1, m2 _ _ _ _ (same_new (s1.gh.free hp)) h2⟩)⟩
/-- xs[i:] -/
theorem gv_from (m : MonR R) {i : Nat} {tl : TO} (hl : GvO cs tl σ G (some (i : Int))) (ha : Gv cs ta σ G (LstR R xs)) : Gv cs (tSl (rSlL K) ta tl tNoPart) σ G (LstR R (xs.drop i)) := fun H a c Q q =>
  ha H a c _ fun v G1 H1 s1 uv => (hl.mono s1.gg) H1 s1.gh (c.on s1.hh) _ fun G2 H2 s2 => by
    obtain ⟨p, us, rfl, h2, pr⟩ := uv.now
    refine ⟨p, us, rfl, SqL.of (s2.gh _ _ (s2.gg _ _ h2)), fun l hl => ?_⟩
    have e : cutV us (some (i : Int)) none = us.drop i := by
      unfold cutV
      rw [HT.sIx_nat, HT.sIx_none]
      rcases Nat.le_total i us.length with h | h
      · rw [Nat.min_eq_left h, List.take_of_length_le (by rw [List.length_drop] <;> exact Nat.le_refl _)]
      · rw [Nat.min_eq_right h, List.drop_eq_nil_of_le h, List.drop_eq_nil_of_le (Nat.le_refl _), List.take_nil]
    rw [e]
    exact q _ _ _ ((s1.trans s2).trans (Stp.laid s2.gh hl)) (lst_new m (paired_mono m s2.gg (pr_drop pr)) (s2.gh.free hl))
end
end Crt
end

section
/-! first_place, least_row. -/
namespace Crt
open PySem PySem.Spec PyProof.Rows L2
def fstNz (row : List Int) : Option Nat := row.findIdx? fun x => !decide (x = 0)
def optV : Option Nat → V
  | some p => .int p
  | none => .non
def spFirst : Sp := SpF (α := List Int) (fun x vs G => ∃ v, vs = [v, .int x.length] ∧ Vec x v G ∧ x.length ≤ 1000) (fun x => IsV (optV (fstNz x)))
theorem fst_some {row : List Int} {i : Nat} {x : Int} (hx : row[i]? = some x) (h0 : ∀ (j : Nat), j < i → ∀ y : Int, row[j]? = some y → y = 0) (hn : x ≠ 0) : fstNz row = some i := by
  unfold fstNz
  rw [List.findIdx?_eq_some_iff_getElem]
  have hi : i < row.length := (List.getElem?_eq_some_iff.mp hx).1
  refine ⟨hi, ?_, fun j hj => ?_⟩
  · rw [List.getElem?_eq_getElem hi] at hx
    rw [Option.some.inj hx]
    simpa using hn
  · have := h0 j hj row[j] (List.getElem?_eq_getElem _)
    simp [this]
theorem fst_none {row : List Int} (h0 : ∀ (j : Nat) (y : Int), row[j]? = some y → y = 0) : fstNz row = none := by
  unfold fstNz
  rw [List.findIdx?_eq_none_iff]
  intro x hx
  obtain ⟨j, hj⟩ := List.mem_iff_getElem?.mp hx
  rw [h0 j x hj]
  rfl
section
variable {P : Program} {w : World} {K : PySem.W.Frag} {mg : Str → Option Value} {base : Heap}
theorem ok_first_place (F : Dfn K mg "first_place" (top 33)) (mr : mg "range" = none) : CalP P w K mg base 1 "first_place" spFirst := by
  refine cal_of (N := ["row", "width", "place"]) (ps := ["row", "width"]) F (by decide +kernel) ?_ (fun _ _ _ _ _ _ us hl => match us, hl with | [_, _], _ => rfl) ?_
  · rintro vs H Q E ⟨x, G, _, ⟨v, e, _⟩, _⟩
    rw [e] <;> rfl
  · intro nd cdv f A outer s H vs Q E hr h
    refine ⟨_, pss_cons (ps_for (tb := tSeq (tIfS (tTest (tOp rNe (tOp (rIxL K) (tVar 0) (tVar 2)) (tC (.int 0)))) (tSeq (tRet (tVar 2)) tNext) tNext) tNext) PassesOwn.never rfl (pi_range1 rfl mr (pa_cons (pv 1) pa_nil)) (pg_name (i := 2) nd rfl (Or.inl rfl)) (pss_one (ps_if (pt_cmpR op_ne (pe_ix ix_list (pv 0) (pv 2) (fun _ _ => rfl)) pe_int (nomark _)) (pss_one (ps_ret (pv 2))) pss_nil)))
      (pss_one (ps_ret pe_non)), ?_⟩
    obtain ⟨xs, G, eG, ⟨v, rfl, hx, hn⟩, k⟩ := h
    have hup := mon_vec.up hx
    refine seq_go (for_gv (cs := []) (src_range (n := xs.length) (ga_imp (ga_1 (gv_vi rfl)) fun vs G ⟨v, e, h⟩ => by rw [e, show v = _ from h]) (by omega)) eG hold_nil (fun i σ _ _ => (∃ o, σ = [some v, some (.int xs.length), o]) ∧ ∀ j, j < i → ∀ y, xs[j]? = some y → y = 0) (fun _ _ _ => ⟨⟨none, rfl⟩, fun j hj => absurd hj (Nat.not_lt_zero j)⟩) ?_ ?_)
    · rintro G1 H1 s1 i x u σ2 Gc Hc G2 H2 hi sc ⟨⟨o, rfl⟩, hz⟩ s2 hu
      obtain ⟨hlt, rfl⟩ := range_at hi
      obtain rfl := hu.now
      have hg : xs[i]? = some xs[i] := List.getElem?_eq_getElem hlt
      refine seq_go (if_gv (cs := []) (b := !decide (xs[i] = 0)) (gt_B (gv_neI (gv_ixL mon_I (gv_var rfl (hup.on (s1.gg.trans (sc.gg.trans s2.gg)))) (gv_vi rfl) hg) gv_ci)) s2.gh hold_nil fun G3 H3 s3 => ?_)
      by_cases h0 : xs[i] = 0
      · rw [if_neg (by simp [h0])]
        refine ⟨G3, sc.trans (s2.trans s3), ⟨_, rfl⟩, fun j hj y hy => ?_⟩
        rcases Nat.lt_or_ge j i with q | q
        · exact hz j q y hy
        · obtain rfl : j = i := by omega
          rw [hg] at hy
          rw [← Option.some.inj hy]
          exact h0
      · rw [if_pos (by simp [h0])]
        refine seq_go ⟨.int i, rfl, k (.int i) G3 H3 (s1.trans (sc.trans (s2.trans s3))) (up_c ?_)⟩
        rw [fst_some hg hz h0]
        rfl
    · rintro σ2 Gc Hc sc ⟨⟨o, rfl⟩, hz⟩
      rw [nums_len] at hz
      refine k .non Gc Hc sc (up_c ?_)
      rw [fst_none fun j y hy => hz j (List.getElem?_eq_some_iff.mp hy).1 y hy]
      rfl
end
end Crt
end

section
/-! least_row, reduced_by. -/
namespace Crt
open PySem PySem.Spec PyProof.Rows L2
section
variable {α β : Type} {R : α → PV} {S : β → PV} {cs : Held} {σ : L2.St} {G H : Hp} {te : TE} {φ : PV} {D : Ends} {K : PySem.W.Frag}
/-- x = e -/
theorem set_gv {i : Nat} (h : Gv cs te σ G φ) (e : Same G H) (c : Hold cs H) (k : ∀ v G1 H1, Stp G H G1 H1 → Up (φ v) G1 → D.nx (σ.set i (some v)) H1) : tAsg te (gName i) D σ H := h H e c _ k
/-- x, y = e -/
theorem set2_gv {i j : Nat} {p : α × β} (h : Gv cs te σ G (PairR R S p)) (e : Same G H) (c : Hold cs H) (k : ∀ x y G1 H1, Stp G H G1 H1 → R p.1 x G1 → S p.2 y G1 → D.nx ((σ.set i (some x)).set j (some y)) H1) : tAsg te (gTup K 2 (gCons (gName i) (gCons (gName j) gNil))) D σ H := h H e c _ fun v G1 H1 s u => by
  obtain ⟨t, x, y, rfl, ht, h1, h2⟩ := u.now
  exact tg_pair ht H1 s.gh _ (k x y G1 H1 s h1 h2)
end
theorem gv_callE {α : Type} {pre : α → List V → Hp → Prop} {post : α → PV} {E : XK} {ta : TA} {cs : Held} {σ : L2.St} {G : Hp} {φ : PV} (x : α) (h : GvA cs ta σ G (pre x)) (e : post x = φ) : Gv cs (tCall (SpF pre post) [] E ta) σ G φ := e ▸ gv_call x h
def atZ (r : List Int) (p : Nat) : Int := r.getD p 0
theorem atZ_get {r : List Int} {p : Nat} (h : p < r.length) : r[p]? = some (atZ r p) := by
  unfold atZ
  rw [List.getD_eq_getElem?_getD, List.getElem?_eq_getElem h]
  rfl
def leastR (p : Nat) (f : List Int) (rows : List (List Int)) : List Int := rows.foldl (fun f r => if (atZ r p).natAbs < (atZ f p).natAbs then r else f) f
def spLeast : Sp := SpF (α := List Int × List (List Int) × Nat) (fun x vs G => ∃ v, vs = [v, .int x.2.2] ∧ LstR Vec (x.1 :: x.2.1) v G ∧ (∀ r ∈ x.1 :: x.2.1, x.2.2 < r.length) ∧ x.2.1.length ≤ 1000) (fun x => Vec (leastR x.2.2 x.1 (x.1 :: x.2.1)))
def redStep (f r : List Int) : List Int := match fstNz r with
  | some p => (f.zip r).map fun q => q.1 + -((atZ f p).fdiv (atZ r p)) * q.2
  | none => f
def redBy (basis : List (List Int)) (f : List Int) : List Int := basis.foldl redStep f
def RedOk (w : Nat) : List (List Int) → List Int → Prop
  | [], _ => True
  | r :: rs, f => (f.length = w ∧ r.length = w ∧ ∃ p, fstNz r = some p ∧ CDivX (atZ f p) (atZ r p) ∧ ∀ b ∈ r, CMulW (-((atZ f p).fdiv (atZ r p))) b) ∧ RedOk w rs (redStep f r)
theorem RedOk.at_ {w : Nat} : ∀ {basis : List (List Int)} {f : List Int}, RedOk w basis f → ∀ {i : Nat} {r : List Int}, basis[i]? = some r → RedOk w (r :: basis.drop (i + 1)) (redBy (basis.take i) f)
  | [], _, _, _, _, h => by simp at h
  | r :: rs, f, h, 0, q, e => by
    simp at e
    subst e
    exact h
  | r :: rs, f, h, i + 1, q, e => RedOk.at_ (basis := rs) h.2 (i := i) (by simpa using e)
def spRed : Sp := SpF (α := List (List Int) × List Int × Nat) (fun x vs G => ∃ b v, vs = [b, v, .int x.2.2] ∧ LstR Vec x.1 b G ∧ Vec x.2.1 v G ∧ x.1.length ≤ 1000 ∧ x.2.2 ≤ 1000 ∧ RedOk x.2.2 x.1 x.2.1) (fun x => Vec (redBy x.1 x.2.1))
theorem fst_lt {r : List Int} {p : Nat} (h : fstNz r = some p) : p < r.length := by
  unfold fstNz at h
  rw [List.findIdx?_eq_some_iff_getElem] at h
  exact h.1
section
variable {P : Program} {w : World} {K : PySem.W.Frag} {mg : Str → Option Value} {base : Heap}
theorem ok_least_row (F : Dfn K mg "least_row" (top 34)) (ma : mg "abs" = none) : CalP P w K mg base 1 "least_row" spLeast := by
  refine cal_of (N := ["rows", "place", "found", "row"]) (ps := ["rows", "place"]) F (by decide +kernel) ?_ (fun _ _ _ _ _ _ us hl => match us, hl with | [_, _], _ => rfl) ?_
  · rintro vs H Q E ⟨x, G, _, ⟨v, e, _⟩, _⟩
    rw [e] <;> rfl
  · intro nd cdv f A outer s H vs Q E hr h
    refine ⟨_, pss_cons (ps_set (i := 2) nd rfl (Or.inl rfl) (pe_ix ix_list (pv 0) pe_int (fun _ _ => rfl)))
      (pss_cons (ps_for (tb := tSeq (tIfS (tTest (tOp (rI0 fun i j => .bl (decide (i < j))) (tCB (fun xs H Q => ∃ i, xs = [.int i] ∧ Q (.int (if i < 0 then -i else i)) H) (tCons (tOp (rIxL K) (tVar 3) (tVar 1)) tNil)) (tCB (fun xs H Q => ∃ i, xs = [.int i] ∧ Q (.int (if i < 0 then -i else i)) H) (tCons (tOp (rIxL K) (tVar 2) (tVar 1)) tNil)))) (tSeq (tAsg (tVar 3) (gName 2)) tNext) tNext) tNext) PassesOwn.never rfl (pi_list (pv 0)) (pg_name (i := 3) nd rfl (Or.inl rfl))
        (pss_one (ps_if (pt_cmpR op_lt (pe_callB call_abs rfl ma boot_abs (pa_cons (pe_ix ix_list (pv 3) (pv 1) (fun _ _ => rfl)) pa_nil)) (pe_callB call_abs rfl ma boot_abs (pa_cons (pe_ix ix_list (pv 2) (pv 1) (fun _ _ => rfl)) pa_nil)) (nomark _)) (pss_one (ps_set (i := 2) nd rfl (Or.inl rfl) (pv 3))) pss_nil)))
      (pss_one (ps_ret (pv 2)))), ?_⟩
    obtain ⟨⟨r0, rs, p⟩, G, eG, ⟨v, rfl, hx, hp, hn⟩, k⟩ := h
    dsimp only at hx hp hn k
    have hup := (mon_lst mon_vec).up hx
    refine seq_go (set_gv (cs := []) (gv_ixL (i := 0) mon_vec (gv_var rfl hup) gv_ci rfl) eG hold_nil fun u0 G0 H0 s0 hu0 => ?_)
    refine seq_go (for_gv (cs := []) (src_list mon_vec (gv_var rfl (hup.on s0.gg))) s0.gh hold_nil (fun i σ Gc _ => (∃ u o, σ = [some v, some (.int p), some u, o] ∧ Vec (leastR p r0 ((r0 :: rs).take i)) u Gc ∧ leastR p r0 ((r0 :: rs).take i) ∈ r0 :: rs)) (fun _ _ s => ⟨u0, none, rfl, hu0.now |> mon_vec _ _ _ _ s.gg, List.mem_cons_self⟩) ?_ ?_)
    · rintro G1 H1 s1 i x u σ2 Gc Hc G2 H2 hi sc ⟨u1, o, rfl, hv, hm⟩ s2 hu
      have hm2 : x ∈ r0 :: rs := List.mem_of_getElem? hi
      have e : leastR p r0 ((r0 :: rs).take (i + 1)) = if (atZ x p).natAbs < (atZ (leastR p r0 ((r0 :: rs).take i)) p).natAbs then x else leastR p r0 ((r0 :: rs).take i) := by
        rw [take_snoc hi]
        unfold leastR
        rw [List.foldl_append]
        rfl
      have hv2 := (mon_vec.up hv).on s2.gg
      refine seq_go (if_gv (cs := []) (b := decide (((atZ x p).natAbs : Int) < (atZ (leastR p r0 ((r0 :: rs).take i)) p).natAbs)) (gt_B (gv_I0 (g := fun i j => .bl (decide (i < j))) (gv_abs (gv_ixL mon_I (gv_var rfl hu) (gv_vi rfl) (atZ_get (hp _ hm2)))) (gv_abs (gv_ixL mon_I (gv_var rfl hv2) (gv_vi rfl) (atZ_get (hp _ hm)))))) s2.gh hold_nil fun G3 H3 s3 => ?_)
      by_cases h : (atZ x p).natAbs < (atZ (leastR p r0 ((r0 :: rs).take i)) p).natAbs
      · rw [if_pos (by simpa using h)]
        refine seq_go ⟨u, rfl, G3, sc.trans (s2.trans s3), u, _, rfl, ?_, ?_⟩
        · rw [e, if_pos h]
          exact hu G3 s3.gg
        · rw [e, if_pos h]
          exact hm2
      · rw [if_neg (by simpa using h)]
        refine ⟨G3, sc.trans (s2.trans s3), u1, _, rfl, ?_, ?_⟩
        · rw [e, if_neg h]
          exact hv2 G3 s3.gg
        · rw [e, if_neg h]
          exact hm
    · rintro σ2 Gc Hc sc ⟨u1, o, rfl, hv, _⟩
      rw [List.take_length] at hv
      exact ⟨u1, rfl, k u1 Gc Hc (s0.trans sc) (mon_vec.up hv)⟩
theorem ok_reduced_by (F : Dfn K mg "reduced_by" (top 37)) (h1 : CalP P w K mg base 1 "first_place" spFirst) (h2 : CalP P w K mg base 1 "plus_times" spPlus) : CalP P w K mg base 2 "reduced_by" spRed := by
  refine cal_of (N := ["basis", "vector", "width", "found", "row", "place"]) (ps := ["basis", "vector", "width"]) F (by decide +kernel) ?_ (fun _ _ _ _ _ _ us hl => match us, hl with | [_, _, _], _ => rfl) ?_
  · rintro vs H Q E ⟨x, G, _, ⟨b, v, e, _⟩, _⟩
    rw [e] <;> rfl
  · intro nd cdv f A outer s H vs Q E hr h
    refine ⟨_, pss_cons (ps_set (i := 3) nd rfl (Or.inl rfl) (pv 1))
      (pss_cons (ps_for (tb := tSeq (tAsg (tCall spFirst [] C8.E0 (tCons (tVar 4) (tCons (tVar 2) tNil))) (gName 5)) (tSeq (tAsg (tCall spPlus [] C8.E0 (tCons (tVar 3) (tCons (tUn (rU fun i => .int (-i)) (tOp (rI CDivX fun i j => .int (i.fdiv j)) (tOp (rIxL K) (tVar 3) (tVar 5)) (tOp (rIxL K) (tVar 4) (tVar 5)))) (tCons (tVar 4) tNil)))) (gName 3)) tNext)) PassesOwn.never rfl (pi_list (pv 0)) (pg_name (i := 4) nd rfl (Or.inl rfl))
        (pss_cons (ps_set (i := 5) nd rfl (Or.inl rfl) (C8.pe_c h1 hr (by decide) rfl (pa_cons (pv 4) (pa_cons (pv 2) pa_nil)))) (pss_one (ps_set (i := 3) nd rfl (Or.inl rfl) (C8.pe_c h2 hr (by decide) rfl (pa_cons (pv 3) (pa_cons (pe_un un_neg (pe_op op_fdivX (pe_ix ix_list (pv 3) (pv 5) (fun _ _ => rfl)) (pe_ix ix_list (pv 4) (pv 5) (fun _ _ => rfl)))) (pa_cons (pv 4) pa_nil))))))))
      (pss_one (ps_ret (pv 3)))), ?_⟩
    obtain ⟨⟨basis, f0, w0⟩, G, eG, ⟨b, v, rfl, hx, hv0, hn, hw, ok⟩, k⟩ := h
    dsimp only at hx hv0 hn hw ok k
    have hup := (mon_lst mon_vec).up hx
    refine seq_go ⟨v, rfl, ?_⟩
    refine seq_go (for_gv (cs := []) (src_list mon_vec (gv_var rfl hup)) eG hold_nil (fun i σ Gc _ => ∃ u o o2, σ = [some b, some v, some (.int w0), some u, o, o2] ∧ Vec (redBy (basis.take i) f0) u Gc) (fun _ _ s => ⟨v, none, none, rfl, mon_vec _ _ _ _ s.gg hv0⟩) ?_ ?_)
    · rintro G1 H1 s1 i x u σ2 Gc Hc G2 H2 hi sc ⟨u1, o, o2, rfl, hv⟩ s2 hu
      obtain ⟨⟨l1, l2, p, hp, hd, hm⟩, _⟩ := ok.at_ hi
      have hv2 := (mon_vec.up hv).on s2.gg
      refine seq_go (set_gv (cs := []) (gv_call x (ga_imp (ga_2 (gv_var rfl hu) (gv_vi rfl)) fun vs G ⟨v, w, e, h1, h2⟩ => ⟨v, by rw [e, show w = _ from h2, l2], h1, by omega⟩)) s2.gh hold_nil fun v3 G3 H3 s3 u3 => ?_)
      obtain rfl : v3 = .int p := by
        have := u3.now
        rw [hp] at this
        exact this
      dsimp only
      refine seq_go (set_gv (cs := []) (φ := Vec (((redBy (basis.take i) f0).zip x).map fun q => q.1 + -((atZ (redBy (basis.take i) f0) p).fdiv (atZ x p)) * q.2)) (gv_callE (α := List Int × Int × List Int) (redBy (basis.take i) f0, -((atZ (redBy (basis.take i) f0) p).fdiv (atZ x p)), x) ?_ ?_) s3.gh hold_nil fun v4 G4 H4 s4 u4 => ?_)
      · exact ga_imp (ga_3 (gv_var rfl (hv2.on s3.gg)) (gv_neg (gv_I (gv_ixL mon_I (gv_var rfl (hv2.on s3.gg)) (gv_vi rfl) (atZ_get (by rw [l1, ← l2]; exact fst_lt hp))) (gv_ixL mon_I (gv_var rfl (hu.on s3.gg)) (gv_vi rfl) (atZ_get (fst_lt hp))) hd)) (gv_var rfl (hu.on s3.gg))) fun vs G ⟨v, w, z, e, h1, h2, h3⟩ => ⟨v, z, by rw [e, show w = _ from h2], h1, h3, by dsimp only; omega, hm⟩
      · rfl
      refine ⟨G4, sc.trans (s2.trans (s3.trans s4)), v4, _, _, rfl, ?_⟩
      rw [take_snoc hi]
      unfold redBy
      rw [List.foldl_append]
      show Vec (redStep (redBy (basis.take i) f0) x) v4 G4
      unfold redStep
      rw [hp]
      exact u4.now
    · rintro σ2 Gc Hc sc ⟨u1, o, o2, rfl, hv⟩
      rw [List.take_length] at hv
      exact ⟨u1, rfl, k u1 Gc Hc sc (mon_vec.up hv)⟩
end
end Crt
end

section
/-! l == [], l != [], any items. -/
namespace Crt
open PySem PySem.Spec PyProof.Rows L2 PySem.SeqAt
open AutoSeq1 (wpAny_loadPart')
open MeetsSeq MeetsSeq2 MeetsSeq3 SeqRoads2
section
variable {prog : Program} {w : World} {A : Around} {R : Result → Shared → Prop}
theorem list_ne0 (l b : Addr) {s : Shared} (xs : Array Value) (n n2 : Nat) (dd dd2 : Option Addr) (sl sl2 : Array (Option Value)) (h1 : s.heap.get? l = some { cls := .type "list", dict := dd, data := .seq xs n, slots := sl })
    (h2 : s.heap.get? b = some { cls := .type "list", dict := dd2, data := .seq #[] n2, slots := sl2 }) (h : R (.ok (.ret (.bool (!(xs.size == 0))))) s) :
    wpAny (model prog w) A.in1 (Builtin.«list.__ne__» ⟨[.ref l, .ref b], []⟩) (GQ.FinOf prog w A R) (fun e s' => R (.error e) s') s := by
  obtain ⟨hp, g, d, tk, os⟩ := s
  have f3 := AutoSeq1.sub_list_list
  by_cases hz : xs.size = 0
  · have hne : ¬ (xs.size != (#[] : Array Value).size) = true := by simp [hz]
    wp_walk using wpAny_loadPart' h1, wpAny_loadPart' h2
    exact ⟨plainId_quiet plain_eq_loop _, codeAny_builtin entry_eq_loop (by
      rw [Around.under_plainId plain_eq_loop _]
      wp_walk using wpAny_loadPart' h1, wpAny_loadPart' h2
      have hi1' : xs[(0 : Int).toNat]? = none := by simp; exact Array.eq_empty_of_size_eq_zero hz
      simp only [hi1']
      wp_walk using wpAny_loadPart' h1, wpAny_loadPart' h2
      show R (.ok (.ret (.bool (xs.size != (#[] : Array Value).size)))) _
      simpa [hz] using h)⟩
  · have hne : (xs.size != (#[] : Array Value).size) = true := by simp [hz]
    wp_walk using wpAny_loadPart' h1, wpAny_loadPart' h2
    show R (.ok (.ret (.bool true))) _
    have e : (!(xs.size == 0)) = true := by simp; exact fun q => hz (by rw [q]; rfl)
    rw [← e]
    exact h
theorem list_eq0 (l b : Addr) {s : Shared} (xs : Array Value) (n n2 : Nat) (dd dd2 : Option Addr) (sl sl2 : Array (Option Value)) (h1 : s.heap.get? l = some { cls := .type "list", dict := dd, data := .seq xs n, slots := sl })
    (h2 : s.heap.get? b = some { cls := .type "list", dict := dd2, data := .seq #[] n2, slots := sl2 }) (h : R (.ok (.ret (.bool (xs.size == 0)))) s) :
    wpAny (model prog w) A.in1 (Builtin.«list.__eq__» ⟨[.ref l, .ref b], []⟩) (GQ.FinOf prog w A R) (fun e s' => R (.error e) s') s := by
  obtain ⟨hp, g, d, tk, os⟩ := s
  have f3 := AutoSeq1.sub_list_list
  by_cases hz : xs.size = 0
  · have hne : ¬ (xs.size != (#[] : Array Value).size) = true := by simp [hz]
    wp_walk using wpAny_loadPart' h1, wpAny_loadPart' h2
    exact ⟨plainId_quiet plain_eq_loop _, codeAny_builtin entry_eq_loop (by
      rw [Around.under_plainId plain_eq_loop _]
      wp_walk using wpAny_loadPart' h1, wpAny_loadPart' h2
      have hi1' : xs[(0 : Int).toNat]? = none := by simp; exact Array.eq_empty_of_size_eq_zero hz
      simp only [hi1']
      wp_walk using wpAny_loadPart' h1, wpAny_loadPart' h2
      show R (.ok (.ret (.bool (xs.size == (#[] : Array Value).size)))) _
      simpa [hz] using h)⟩
  · have hne : (xs.size != (#[] : Array Value).size) = true := by simp [hz]
    wp_walk using wpAny_loadPart' h1, wpAny_loadPart' h2
    show R (.ok (.ret (.bool false))) _
    have e : (xs.size == 0) = false := by simpa using fun q => hz (by rw [q]; rfl)
    rw [← e]
    exact h
theorem rc_ne0 {E : Value → Shared → Prop} {s : Shared} {l b : Addr} {items : Array Value} {Q : Value → Shared → Prop} (hu : A.units < cLine) (hl : s.heap.IsList l items) (hb : s.heap.IsList b #[]) (h : Q (.bool (!(items.size == 0))) s) : wpAny (model prog w) A (richCompare .NotEq (.ref l) (.ref b)) Q E s := by
  obtain ⟨⟨cls, dd, data, sl⟩, ho, hc, n, hd⟩ := id hl
  obtain ⟨⟨cls2, dd2, data2, sl2⟩, ho2, hc2, n2, hd2⟩ := id hb
  simp only at hc hd hc2 hd2
  subst hc hd hc2 hd2
  refine wpAny_richCompare_same_room (op := .NotEq) ⟨_, ho, rfl⟩ ⟨_, ho2, rfl⟩ F.slot_list_ne (GQ.call_here F.slot_list_ne ⟨_, ho, rfl⟩ F.entry_list_ne (F.args_list_ne_2 _ _) ?_) hu
  exact list_ne0 (R := wants (fun v s' => v ≠ .notImplemented ∧ Q v s') E) l b items n n2 dd dd2 sl sl2 ho ho2 ⟨(fun x => nomatch x), h⟩
theorem rc_eq0 {E : Value → Shared → Prop} {s : Shared} {l b : Addr} {items : Array Value} {Q : Value → Shared → Prop} (hu : A.units < cLine) (hl : s.heap.IsList l items) (hb : s.heap.IsList b #[]) (h : Q (.bool (items.size == 0)) s) : wpAny (model prog w) A (richCompare .Eq (.ref l) (.ref b)) Q E s := by
  obtain ⟨⟨cls, dd, data, sl⟩, ho, hc, n, hd⟩ := id hl
  obtain ⟨⟨cls2, dd2, data2, sl2⟩, ho2, hc2, n2, hd2⟩ := id hb
  simp only at hc hd hc2 hd2
  subst hc hd hc2 hd2
  refine wpAny_richCompare_same_room (op := .Eq) ⟨_, ho, rfl⟩ ⟨_, ho2, rfl⟩ F.slot_list_eq (GQ.call_here F.slot_list_eq ⟨_, ho, rfl⟩ F.entry_list_eq (F.args_list_eq_2 _ _) ?_) hu
  exact list_eq0 (R := wants (fun v s' => v ≠ .notImplemented ∧ Q v s') E) l b items n n2 dd dd2 sl sl2 ho ho2 ⟨(fun x => nomatch x), h⟩
end
section
variable {X : Cx}
/-- l == [] -/
def rEqL0 : R2 := fun x y H Q => ∃ a b xs, x = .ref a ∧ y = .ref b ∧ H a = some (.lst xs) ∧ H b = some (.lst []) ∧ Q (.bl xs.isEmpty) H
def rNeL0 : R2 := fun x y H Q => ∃ a b xs, x = .ref a ∧ y = .ref b ∧ H a = some (.lst xs) ∧ H b = some (.lst []) ∧ Q (.bl (!xs.isEmpty)) H
theorem op_eqL0 (hu : X.A.units < cLine) : OpR X (compareOp .Eq) rEqL0 := by
  intro pins s σ H x y v u Q I rx ry h
  obtain ⟨a, b, xs, rfl, rfl, ha, hb, q⟩ := h
  cases rx
  cases ry
  obtain ⟨_, its, k1, r1, p1⟩ := (show ObjOk X.prog X.w H s.heap a (.lst xs) from I.hok a _ ha)
  obtain ⟨_, its2, k2, r2, p2⟩ := (show ObjOk X.prog X.w H s.heap b (.lst []) from I.hok b _ hb)
  cases r2
  refine rc_eq0 hu ⟨_, p1, rfl, _, rfl⟩ ⟨_, p2, rfl, _, rfl⟩ ⟨.bl xs.isEmpty, H, I, ?_, q⟩
  have e : (its.toArray.size == 0) = xs.isEmpty := by
    cases r1 <;> simp
  rw [e]
  rfl
theorem op_neL0 (hu : X.A.units < cLine) : OpR X (compareOp .NotEq) rNeL0 := by
  intro pins s σ H x y v u Q I rx ry h
  obtain ⟨a, b, xs, rfl, rfl, ha, hb, q⟩ := h
  cases rx
  cases ry
  obtain ⟨_, its, k1, r1, p1⟩ := (show ObjOk X.prog X.w H s.heap a (.lst xs) from I.hok a _ ha)
  obtain ⟨_, its2, k2, r2, p2⟩ := (show ObjOk X.prog X.w H s.heap b (.lst []) from I.hok b _ hb)
  cases r2
  refine rc_ne0 hu ⟨_, p1, rfl, _, rfl⟩ ⟨_, p2, rfl, _, rfl⟩ ⟨.bl (!xs.isEmpty), H, I, ?_, q⟩
  have e : (its.toArray.size == 0) = xs.isEmpty := by
    cases r1 <;> simp
  rw [e]
  rfl
end
end Crt
end

section
/-! cleared: its rules and what it computes. -/
set_option autoImplicit false
namespace Crt
open PySem PySem.Spec PyProof.Rows L2
section
variable {α β : Type} {R : α → PV} {S : β → PV} {cs : Held} {σ : L2.St} {G H : Hp} {ta te : TE} {φ : PV} {D : Ends} {K : PySem.W.Frag} {xs : List α}
theorem gv_nilL (m : MonR R) : Gv cs (tLst tNil) σ G (LstR R []) := gv_lstP m ga_nilP (Nat.zero_le _)
theorem lst_nil {v : V} {G : Hp} (h : LstR R [] v G) : ∃ a, v = .ref a ∧ G a = some (.lst []) := by
  obtain ⟨a, vs, rfl, h2, p⟩ := h
  cases p
  exact ⟨a, rfl, h2⟩
theorem lst_empty {us : List V} {G : Hp} (p : Paired (fun u x => R x u G) us xs) : us.isEmpty = xs.isEmpty := by cases p <;> rfl
theorem gv_eqL0 (m : MonR R) (ha : Gv cs ta σ G (LstR R xs)) : Gv cs (tOp rEqL0 ta (tLst tNil)) σ G (IsB xs.isEmpty) :=
  gv_op ha (gv_nilL m) fun x y G1 H1 s _ _ ux uy => rv_at (v := .bl xs.isEmpty) s (up_c rfl) fun Q q => by
    obtain ⟨a, us, rfl, h2, p⟩ := ux.now
    obtain ⟨b, rfl, h3⟩ := lst_nil uy.now
    exact ⟨a, b, us, rfl, rfl, s _ _ h2, s _ _ h3, by rw [lst_empty p]; exact q⟩
theorem gv_neL0 (m : MonR R) (ha : Gv cs ta σ G (LstR R xs)) : Gv cs (tOp rNeL0 ta (tLst tNil)) σ G (IsB (!xs.isEmpty)) :=
  gv_op ha (gv_nilL m) fun x y G1 H1 s _ _ ux uy => rv_at (v := .bl (!xs.isEmpty)) s (up_c rfl) fun Q q => by
    obtain ⟨a, us, rfl, h2, p⟩ := ux.now
    obtain ⟨b, rfl, h3⟩ := lst_nil uy.now
    exact ⟨a, b, us, rfl, rfl, s _ _ h2, s _ _ h3, by rw [lst_empty p]; exact q⟩
/-- while c: tb; m counts the turns left -/
theorem while_gv {c : TT} {tb : TS} (Iv : Nat → L2.St → Hp → Hp → Prop) {n0 : Nat} (e : Same G H) (h0 : Iv n0 σ G H)
    (step : ∀ m σ2 Gc Hc, Stp G H Gc Hc → Iv m σ2 Gc Hc → ∃ b, GvT cs c σ2 Gc b ∧ Hold cs Hc ∧ ∀ G1 H1, Stp Gc Hc G1 H1 → if b = true then tb { D with nx := fun σ' H' => ∃ m' G', m' < m ∧ Stp G H G' H' ∧ Iv m' σ' G' H', ct := fun σ' H' => ∃ m' G', m' < m ∧ Stp G H G' H' ∧ Iv m' σ' G' H', bk := D.nx } σ2 H1 else D.nx σ2 H1) : tWhile c tb D σ H := by
  refine ⟨fun m σ2 Hc => ∃ Gc, Stp G H Gc Hc ∧ Iv m σ2 Gc Hc, ⟨n0, G, Stp.refl e, h0⟩, ?_⟩
  rintro m σ2 Hc ⟨Gc, s, h⟩
  obtain ⟨b, hb, hc, k⟩ := step m σ2 Gc Hc s h
  refine hb Hc s.gh hc _ fun G1 H1 s1 => ?_
  have z := k G1 H1 s1
  cases b with
  | true => exact ⟨_, fun σ' H' ⟨m', G', l, h1, h2⟩ => ⟨m', l, G', h1, h2⟩, z⟩
  | false => exact z
end
/-! ### what it computes -/
def elimR (p : Nat) (piv row : List Int) : List Int := (row.zip piv).map fun q => q.1 + -((atZ row p).fdiv (atZ piv p)) * q.2
def chgR (p : Nat) (piv : List Int) (act : List (List Int)) : List (List Int) :=
  (act.filter (fun r => !decide (r = piv)) ++ ((act.filter fun r => decide (r = piv)).map fun _ => piv).drop 1).map (elimR p piv)
def headR (p : Nat) : List (List Int) → List Int
  | [] => []
  | r :: rs => leastR p r (r :: rs)
def clA (p : Nat) (act : List (List Int)) : List (List Int) := headR p act :: (chgR p (headR p act) act).filter fun r => !decide (atZ r p = 0)
def clO (p : Nat) (act oth : List (List Int)) : List (List Int) := oth ++ (chgR p (headR p act) act).filter fun r => decide (atZ r p = 0)
/-- a turn can be walked -/
def StOk (w p : Nat) (act oth : List (List Int)) : Prop := act.length ≤ 1000 ∧ oth.length ≤ 1000 ∧ (∀ r ∈ act, r.length = w) ∧ (∀ r ∈ oth, r.length = w)
def StBd (p : Nat) (act : List (List Int)) : Prop := ∀ r ∈ act, CDivX (atZ r p) (atZ (headR p act) p) ∧ ∀ b ∈ headR p act, CMulW (-((atZ r p).fdiv (atZ (headR p act) p))) b
/-- the loop ends within n turns with these rows -/
def ClOk (w p : Nat) : Nat → List (List Int) → List (List Int) → List (List Int) → List (List Int) → Prop
  | 0, a, o, a', o' => StOk w p a o ∧ a.length ≤ 1 ∧ a' = a ∧ o' = o
  | n + 1, a, o, a', o' => StOk w p a o ∧ (a.length ≤ 1 ∧ a' = a ∧ o' = o ∨ 1 < a.length ∧ StBd p a ∧ ClOk w p n (clA p a) (clO p a o) a' o')
def negR (r : List Int) : List Int := r.map fun x => -x
def pivOf (p : Nat) : List (List Int) → Option (List Int)
  | [] => none
  | r :: _ => some (if 0 < atZ r p then r else negR r)
def OptR {α : Type} (R : α → PV) : Option α → PV
  | none => IsN
  | some x => R x
theorem mon_opt {α : Type} {R : α → PV} (m : MonR R) : MonR (OptR R) := fun x v H H' e h => match x, h with
  | none, h => h
  | some _, h => m _ _ _ _ e h
/-- cleared(rows, place) -/
def Cleared (w p : Nat) (rows : List (List Int)) (piv : Option (List Int)) (oth : List (List Int)) : Prop :=
  rows.length ≤ 1000 ∧ (∀ r ∈ rows, r.length = w) ∧ ∃ n a, ClOk w p n (rows.filter fun r => !decide (atZ r p = 0)) (rows.filter fun r => decide (atZ r p = 0)) a oth ∧ piv = pivOf p a
def spCleared : Sp := SpF (α := List (List Int) × Nat × Nat × Option (List Int) × List (List Int)) (fun x vs G => ∃ v, vs = [v, .int x.2.1] ∧ LstR Vec x.1 v G ∧ x.2.1 < x.2.2.1 ∧ x.2.2.1 ≤ 1000 ∧ Cleared x.2.2.1 x.2.1 x.1 x.2.2.2.1 x.2.2.2.2) (fun x => PairR (OptR Vec) (LstR Vec) (x.2.2.2.1, x.2.2.2.2))
theorem headR_mem {p : Nat} : ∀ {act : List (List Int)}, act ≠ [] → headR p act ∈ act
  | [], h => absurd rfl h
  | r :: rs, _ => by
    have z : ∀ (l : List (List Int)) (f : List Int), f ∈ r :: rs → (∀ x ∈ l, x ∈ r :: rs) → leastR p f l ∈ r :: rs := fun l => by
      induction l with
      | nil => exact fun f h _ => h
      | cons x l ih =>
        intro f h hl
        unfold leastR
        rw [List.foldl_cons]
        refine ih _ ?_ fun y hy => hl y (List.mem_cons_of_mem _ hy)
        split
        · exact hl x List.mem_cons_self
        · exact h
    exact z _ r List.mem_cons_self fun _ h => h
end Crt
end

section
/-! cleared: the walk. -/
set_option autoImplicit false
namespace Crt
open PySem PySem.Spec PyProof.Rows L2
section
variable {K : PySem.W.Frag} {cs : Held} {G : Hp} {tl : TE} {xs : List (List Int)} {p : Nat} {a0 a2 a3 a4 a5 a6 a7 a8 a9 : Option V}
theorem gv_filtNe (hr : Gv cs tl [a0, some (.int p), a2, a3, a4, a5, a6, a7, a8, a9] G (LstR Vec xs)) (hl : ∀ r ∈ xs, p < r.length) (hn : xs.length ≤ 100000) :
    Gv cs (tLc (iList K tl) (gName 8) (tTest (tOp rNe (tOp (rIxL K) (tVar 8) (tVar 1)) (tC (.int 0)))) (tVar 8) [8]) [a0, some (.int p), a2, a3, a4, a5, a6, a7, a8, a9] G (LstR Vec (xs.filter fun r => !decide (atZ r p = 0))) := by
  have z := gv_lc (cs := cs) (cs1 := cs) (σ := [a0, some (.int p), a2, a3, a4, a5, a6, a7, a8, a9]) (G := G) (g := gName 8) (ws := [8]) (tt := tTest (tOp rNe (tOp (rIxL K) (tVar 8) (tVar 1)) (tC (.int 0)))) (te := tVar 8) (R := Vec) (R' := Vec) (p := fun r => !decide (atZ r p = 0)) (f := fun r => r) mon_vec (src_list (K := K) mon_vec hr) hn ?_
  · rw [List.map_id'] at z
    exact z
  · rintro v x G1 hx e u
    exact ⟨_, tg_name, rfl, gt_test (gv_neI (gv_ixL mon_I (gv_var rfl u) (gv_vi rfl) (atZ_get (hl x hx))) gv_ci), fun _ => gv_var rfl u⟩
theorem gv_filtEq (hr : Gv cs tl [a0, some (.int p), a2, a3, a4, a5, a6, a7, a8, a9] G (LstR Vec xs)) (hl : ∀ r ∈ xs, p < r.length) (hn : xs.length ≤ 100000) :
    Gv cs (tLc (iList K tl) (gName 8) (tTest (tOp rEq (tOp (rIxL K) (tVar 8) (tVar 1)) (tC (.int 0)))) (tVar 8) [8]) [a0, some (.int p), a2, a3, a4, a5, a6, a7, a8, a9] G (LstR Vec (xs.filter fun r => decide (atZ r p = 0))) := by
  have z := gv_lc (cs := cs) (cs1 := cs) (σ := [a0, some (.int p), a2, a3, a4, a5, a6, a7, a8, a9]) (G := G) (g := gName 8) (ws := [8]) (tt := tTest (tOp rEq (tOp (rIxL K) (tVar 8) (tVar 1)) (tC (.int 0)))) (te := tVar 8) (R := Vec) (R' := Vec) (p := fun r => decide (atZ r p = 0)) (f := fun r => r) mon_vec (src_list (K := K) mon_vec hr) hn ?_
  · rw [List.map_id'] at z
    exact z
  · rintro v x G1 hx e u
    exact ⟨_, tg_name, rfl, gt_test (gv_eqI (gv_ixL mon_I (gv_var rfl u) (gv_vi rfl) (atZ_get (hl x hx))) gv_ci), fun _ => gv_var rfl u⟩
variable {piv : List Int} {vp : V}
theorem gvo_ci {i : Int} {σ : L2.St} : GvO cs (tPart (tC (.int i))) σ G (some i) := fun H e _ Q q => ⟨i, rfl, q G H (Stp.refl e)⟩
theorem gv_rest (hr : Gv cs tl [a0, some (.int p), a2, a3, some vp, a5, a6, a7, a8, a9] G (LstR Vec xs)) (hp : Up (Vec piv vp) G) (hn : xs.length ≤ 100000) :
    Gv cs (tLc (iList K tl) (gName 8) (tTest (tOp (rNeD K) (tVar 8) (tVar 4))) (tVar 8) [8]) [a0, some (.int p), a2, a3, some vp, a5, a6, a7, a8, a9] G (LstR Vec (xs.filter fun r => !decide (r = piv))) := by
  have z := gv_lc (cs := cs) (cs1 := cs) (σ := [a0, some (.int p), a2, a3, some vp, a5, a6, a7, a8, a9]) (G := G) (g := gName 8) (ws := [8]) (tt := tTest (tOp (rNeD K) (tVar 8) (tVar 4))) (te := tVar 8) (R := Vec) (R' := Vec) (p := fun r => !decide (r = piv)) (f := fun r => r) mon_vec (src_list (K := K) mon_vec hr) hn ?_
  · rw [List.map_id'] at z
    exact z
  · rintro v x G1 hx e u
    exact ⟨_, tg_name, rfl, gt_test (gv_neVec (gv_var rfl u) (gv_var rfl (hp.on e))), fun _ => gv_var rfl u⟩
theorem gv_dbl (hr : Gv cs tl [a0, some (.int p), a2, a3, some vp, a5, a6, a7, a8, a9] G (LstR Vec xs)) (hp : Up (Vec piv vp) G) (hn : xs.length ≤ 100000) :
    Gv cs (tLc (iList K tl) (gName 8) (tTest (tOp (rEqD K) (tVar 8) (tVar 4))) (tVar 4) [8]) [a0, some (.int p), a2, a3, some vp, a5, a6, a7, a8, a9] G (LstR Vec ((xs.filter fun r => decide (r = piv)).map fun _ => piv)) := by
  refine gv_lc (cs := cs) (cs1 := cs) (R := Vec) (R' := Vec) (p := fun r => decide (r = piv)) (f := fun r => piv) mon_vec (src_list (K := K) mon_vec hr) hn ?_
  rintro v x G1 hx e u
  exact ⟨_, tg_name, rfl, gt_test (gv_eqVec (gv_var rfl u) (gv_var rfl (hp.on e))), fun _ => gv_var rfl (hp.on e)⟩
theorem gv_chg (hr : Gv cs tl [a0, some (.int p), a2, a3, some vp, a5, a6, a7, a8, a9] G (LstR Vec xs)) (hp : Up (Vec piv vp) G) (hn : xs.length ≤ 100000) (hx : ∀ r ∈ xs, p < r.length ∧ r.length ≤ 1000 ∧ CDivX (atZ r p) (atZ piv p) ∧ ∀ b ∈ piv, CMulW (-((atZ r p).fdiv (atZ piv p))) b) (hpl : p < piv.length) :
    Gv cs (tLc (iList K tl) (gName 8) tYes (tCall spPlus [] C8.E0 (tCons (tVar 8) (tCons (tUn (rU fun i => .int (-i)) (tOp (rI CDivX fun i j => .int (i.fdiv j)) (tOp (rIxL K) (tVar 8) (tVar 1)) (tOp (rIxL K) (tVar 4) (tVar 1)))) (tCons (tVar 4) tNil)))) [8]) [a0, some (.int p), a2, a3, some vp, a5, a6, a7, a8, a9] G (LstR Vec (xs.map (elimR p piv))) := by
  refine gv_map (cs := cs) (cs1 := cs) (R := Vec) (R' := Vec) (f := elimR p piv) mon_vec (src_list (K := K) mon_vec hr) hn ?_
  rintro v x G1 hm e u
  obtain ⟨h1, h2, h3, h4⟩ := hx x hm
  refine ⟨_, tg_name, rfl, gv_callE (α := List Int × Int × List Int) (x, -((atZ x p).fdiv (atZ piv p)), piv) ?_ rfl⟩
  exact ga_imp (ga_3 (gv_var rfl u) (gv_neg (gv_I (gv_ixL mon_I (gv_var rfl u) (gv_vi rfl) (atZ_get h1)) (gv_ixL mon_I (gv_var rfl (hp.on e)) (gv_vi rfl) (atZ_get hpl)) h3)) (gv_var rfl (hp.on e))) fun vs G ⟨v, w, z, e, q1, q2, q3⟩ => ⟨v, z, by rw [e, show w = _ from q2], q1, q3, h2, h4⟩
theorem gv_negs {a1 : Option V} (hr : Up (Vec piv vp) G) (hn : piv.length ≤ 100000) : Gv cs (tLc (iList K (tVar 4)) (gName 9) tYes (tUn (rU fun i => .int (-i)) (tVar 9)) [9]) [a0, a1, a2, a3, some vp, a5, a6, a7, a8, a9] G (Vec (negR piv)) := by
  refine gv_map (cs := cs) (cs1 := cs) (R := IsI) (R' := IsI) (f := fun x => -x) mon_I (src_list mon_I (gv_var rfl hr)) hn ?_
  rintro v x G1 hm e u
  obtain rfl := u.now
  exact ⟨_, tg_name, rfl, gv_neg (gv_vi rfl)⟩
end
section
variable {P : Program} {w : World} {K : PySem.W.Frag} {mg : Str → Option Value} {base : Heap}
theorem ok_cleared (F : Dfn K mg "cleared" (top 35)) (ml : mg "len" = none) (h1 : CalP P w K mg base 1 "least_row" spLeast) (h2 : CalP P w K mg base 1 "plus_times" spPlus) : CalP P w K mg base 2 "cleared" spCleared := by
  refine cal_of (N := ["rows", "place", "active", "others", "pivot", "rest", "doubled", "changed", "row", "entry"]) (ps := ["rows", "place"]) F (by decide +kernel) ?_ (fun _ _ _ _ _ _ us hl => match us, hl with | [_, _], _ => rfl) ?_
  · rintro vs H Q E ⟨x, G, _, ⟨v, e, _⟩, _⟩
    rw [e] <;> rfl
  · intro nd cdv f A outer s H vs Q E hr h
    refine ⟨_, pss_cons (ps_setLc (i := 2) (own := [("row", 8)]) (g := gName 8) (tt := tTest (tOp rNe (tOp (rIxL K) (tVar 8) (tVar 1)) (tC (.int 0)))) (te := tVar 8) rfl nd rfl rfl (sw_true rfl rfl rfl (by decide +kernel)) (pi_list (pv 0)) (blkOk_by (N := ["rows", "place", "active", "others", "pivot", "rest", "doubled", "changed", "row", "entry"]) (sc := C8.fnScope (top 35)) (by decide +kernel)) (fun _ _ _ _ _ => pg_name (i := 8) nd rfl (Or.inl rfl)) (fun _ _ _ _ _ => pts_one (pt_cmpR op_ne (pe_ix ix_list (pv 8) (pv 1) (fun _ _ => rfl)) pe_int (nomark _))) (fun _ _ _ _ _ => pv 8))
      (pss_cons (ps_setLc (i := 3) (own := [("row", 8)]) (g := gName 8) (tt := tTest (tOp rEq (tOp (rIxL K) (tVar 8) (tVar 1)) (tC (.int 0)))) (te := tVar 8) rfl nd rfl rfl (sw_true rfl rfl rfl (by decide +kernel)) (pi_list (pv 0)) (blkOk_by (N := ["rows", "place", "active", "others", "pivot", "rest", "doubled", "changed", "row", "entry"]) (sc := C8.fnScope (top 35)) (by decide +kernel)) (fun _ _ _ _ _ => pg_name (i := 8) nd rfl (Or.inl rfl)) (fun _ _ _ _ _ => pts_one (pt_cmpR op_eq (pe_ix ix_list (pv 8) (pv 1) (fun _ _ => rfl)) pe_int (nomark _))) (fun _ _ _ _ _ => pv 8))
      (pss_cons (ps_while PassesOwn.never (pt_cmpR op_gt (pe_callB call_len_seq rfl ml boot_len (pa_cons (pv 2) pa_nil)) pe_int (nomark _))
        (pss_cons (ps_set (i := 4) nd rfl (Or.inr rfl) (C8.pe_c h1 hr (by decide) rfl (pa_cons (pv 2) (pa_cons (pv 1) pa_nil))))
        (pss_cons (ps_setLc (i := 5) (own := [("row", 8)]) (g := gName 8) (tt := tTest (tOp (rNeD K) (tVar 8) (tVar 4))) (te := tVar 8) rfl nd rfl rfl (sw_true rfl rfl rfl (by decide +kernel)) (pi_list (pv 2)) (blkOk_by (N := ["rows", "place", "active", "others", "pivot", "rest", "doubled", "changed", "row", "entry"]) (sc := C8.fnScope (top 35)) (by decide +kernel)) (fun _ _ _ _ _ => pg_name (i := 8) nd rfl (Or.inl rfl)) (fun _ _ _ _ _ => pts_one (pt_cmpR (op_neD hr.units) (pv 8) (pv 4) (nomark _))) (fun _ _ _ _ _ => pv 8))
        (pss_cons (ps_set (i := 6) nd rfl (Or.inl rfl) (pe_slice sl_list (pe_lc (own := [("row", 8)]) (g := gName 8) (tt := tTest (tOp (rEqD K) (tVar 8) (tVar 4))) (te := tVar 4) rfl nd (pi_list (pv 2)) (blkOk_by (N := ["rows", "place", "active", "others", "pivot", "rest", "doubled", "changed", "row", "entry"]) (sc := C8.fnScope (top 35)) (by decide +kernel)) (fun _ _ _ _ _ => pg_name (i := 8) nd rfl (Or.inl rfl)) (fun _ _ _ _ _ => pts_one (pt_cmpR (op_eqD hr.units) (pv 8) (pv 4) (nomark _))) (fun _ _ _ _ _ => pv 4)) (po_some pe_int) po_none))
        (pss_cons (ps_setLc (i := 7) (own := [("row", 8)]) (g := gName 8) (tt := tYes) (te := tCall spPlus [] C8.E0 (tCons (tVar 8) (tCons (tUn (rU fun i => .int (-i)) (tOp (rI CDivX fun i j => .int (i.fdiv j)) (tOp (rIxL K) (tVar 8) (tVar 1)) (tOp (rIxL K) (tVar 4) (tVar 1)))) (tCons (tVar 4) tNil)))) rfl nd rfl rfl (sw_true rfl rfl rfl (by decide +kernel)) (pi_list (pe_lst (StX.pa_star (pv 5) (StX.pa_star (pv 6) pa_nil)))) (blkOk_by (N := ["rows", "place", "active", "others", "pivot", "rest", "doubled", "changed", "row", "entry"]) (sc := C8.fnScope (top 35)) (by decide +kernel)) (fun _ _ _ _ _ => pg_name (i := 8) nd rfl (Or.inl rfl)) (fun _ _ _ _ _ => pts_nil) (fun _ _ _ _ _ => C8.pe_c h2 hr (by decide) rfl (pa_cons (pv 8) (pa_cons (pe_un un_neg (pe_op op_fdivX (pe_ix ix_list (pv 8) (pv 1) (fun _ _ => rfl)) (pe_ix ix_list (pv 4) (pv 1) (fun _ _ => rfl)))) (pa_cons (pv 4) pa_nil)))))
        (pss_cons (ps_set (i := 3) nd rfl (Or.inl rfl) (pe_lst (StX.pa_star (pv 3) (StX.pa_star (pe_lc (own := [("row", 8)]) (g := gName 8) (tt := tTest (tOp rEq (tOp (rIxL K) (tVar 8) (tVar 1)) (tC (.int 0)))) (te := tVar 8) rfl nd (pi_list (pv 7)) (blkOk_by (N := ["rows", "place", "active", "others", "pivot", "rest", "doubled", "changed", "row", "entry"]) (sc := C8.fnScope (top 35)) (by decide +kernel)) (fun _ _ _ _ _ => pg_name (i := 8) nd rfl (Or.inl rfl)) (fun _ _ _ _ _ => pts_one (pt_cmpR op_eq (pe_ix ix_list (pv 8) (pv 1) (fun _ _ => rfl)) pe_int (nomark _))) (fun _ _ _ _ _ => pv 8)) pa_nil))))
        (pss_one (ps_set (i := 2) nd rfl (Or.inl rfl) (pe_lst (pa_cons (pv 4) (StX.pa_star (pe_lc (own := [("row", 8)]) (g := gName 8) (tt := tTest (tOp rNe (tOp (rIxL K) (tVar 8) (tVar 1)) (tC (.int 0)))) (te := tVar 8) rfl nd (pi_list (pv 7)) (blkOk_by (N := ["rows", "place", "active", "others", "pivot", "rest", "doubled", "changed", "row", "entry"]) (sc := C8.fnScope (top 35)) (by decide +kernel)) (fun _ _ _ _ _ => pg_name (i := 8) nd rfl (Or.inl rfl)) (fun _ _ _ _ _ => pts_one (pt_cmpR op_ne (pe_ix ix_list (pv 8) (pv 1) (fun _ _ => rfl)) pe_int (nomark _))) (fun _ _ _ _ _ => pv 8)) pa_nil)))))))))))
      (pss_cons (ps_if (pt_cmpR (op_eqL0 hr.units0) (pv 2) (pe_lst pa_nil) (nomark _)) (pss_one (ps_ret (pe_tup (pa_cons pe_non (pa_cons (pv 3) pa_nil))))) pss_nil)
      (pss_cons (ps_set (i := 4) nd rfl (Or.inr rfl) (pe_ix ix_list (pv 2) pe_int (fun _ _ => rfl)))
      (pss_one (ps_ret (pe_tup (pa_cons (pe_ifExp (pt_cmpR op_gt (pe_ix ix_list (pv 4) (pv 1) (fun _ _ => rfl)) pe_int (nomark _)) (pv 4) (pe_lc (own := [("entry", 9)]) (g := gName 9) (tt := tYes) (te := tUn (rU fun i => .int (-i)) (tVar 9)) rfl nd (pi_list (pv 4)) (blkOk_by (N := ["rows", "place", "active", "others", "pivot", "rest", "doubled", "changed", "row", "entry"]) (sc := C8.fnScope (top 35)) (by decide +kernel)) (fun _ _ _ _ _ => pg_name (i := 9) nd rfl (Or.inl rfl)) (fun _ _ _ _ _ => pts_nil) (fun _ _ _ _ _ => pe_un un_neg (pv 9)))) (pa_cons (pv 3) pa_nil))))))))), ?_⟩
    obtain ⟨⟨rows, p, w0, piv, oth⟩, G, eG, ⟨v, rfl, hx, hp, hw, hn, hlen, n, aE, ok, epiv⟩, k⟩ := h
    dsimp only at hx hp hw hn hlen ok k epiv
    subst epiv
    have hup := (mon_lst mon_vec).up hx
    have hlp : ∀ r ∈ rows, p < r.length := fun r hr => by rw [hlen r hr]; exact hp
    show tSeq _ _ _ [some v, some (.int p), none, none, none, none, none, none, none, none] H
    refine seq_go (set_gv (cs := []) (gv_filtNe (gv_var rfl hup) hlp (by omega)) eG hold_nil fun v1 G1 H1 s1 u1 => ?_)
    refine seq_go (set_gv (cs := []) (gv_filtEq (gv_var rfl (hup.on s1.gg)) hlp (by omega)) s1.gh hold_nil fun v2 G2 H2 s2 u2 => ?_)
    have s12 := s1.trans s2
    refine seq_go (while_gv (cs := []) (G := G2) (fun m σ Gc _ => ∃ va vo o4 o5 o6 o7 a o, σ = [some v, some (.int p), some va, some vo, o4, o5, o6, o7, none, none] ∧ LstR Vec a va Gc ∧ LstR Vec o vo Gc ∧ ClOk w0 p m a o aE oth) (n0 := n) s2.gh ⟨v1, v2, none, none, none, none, _, _, rfl, (mon_lst mon_vec) _ _ _ _ s2.gg u1.now, u2.now, ok⟩ ?_)
    rintro m σ2 Gc Hc sc ⟨va, vo, o4, o5, o6, o7, a, o, rfl, ha, ho, hok⟩
    have ua := (mon_lst mon_vec).up ha
    have uo := (mon_lst mon_vec).up ho
    refine ⟨decide ((1 : Int) < a.length), gt_test (gv_I0 (g := fun i j => .bl (decide (j < i))) (gv_lenL (gv_var rfl ua)) gv_ci), hold_nil, fun G3 H3 s3 => ?_⟩
    by_cases hgt : 1 < a.length
    · rw [if_pos (by simp; omega)]
      obtain ⟨m', rfl, ⟨la, lo, wa, wo⟩, bd, hnx⟩ : ∃ m', m = m' + 1 ∧ StOk w0 p a o ∧ StBd p a ∧ ClOk w0 p m' (clA p a) (clO p a o) aE oth := by
        cases m with
        | zero => exact absurd hok.2.1 (by omega)
        | succ m =>
          obtain ⟨z1, z2⟩ := hok
          rcases z2 with z2 | z2
          · exact absurd z2.1 (by omega)
          · exact ⟨m, rfl, z1, z2.2⟩
      have hne : a ≠ [] := by
        rintro rfl
        exact absurd hgt (by decide)
      have hpm := headR_mem (p := p) hne
      obtain ⟨r0, rs, rfl⟩ : ∃ r0 rs, a = r0 :: rs := by
        cases a with
        | nil => exact absurd rfl hne
        | cons r0 rs => exact ⟨r0, rs, rfl⟩
      refine seq_go (set_gv (cs := []) (φ := Vec (headR p (r0 :: rs))) (gv_callE (α := List Int × List (List Int) × Nat) (r0, rs, p) ?_ rfl) s3.gh hold_nil fun v4 G4 H4 s4 u4 => ?_)
      · exact ga_imp (ga_2 (gv_var rfl (ua.on s3.gg)) (gv_vi rfl)) fun vs G ⟨v, w, e, q1, q2⟩ => ⟨v, by rw [e, show w = _ from q2], q1, fun r hr => by rw [wa r hr]; exact hp, by rw [List.length_cons] at la; dsimp only; omega⟩
      generalize hpiv : headR p (r0 :: rs) = pv at *
      generalize r0 :: rs = a at *
      have la' : a.length ≤ 100000 := by omega
      refine seq_go (set_gv (cs := []) (gv_rest (gv_var rfl (ua.on (s3.gg.trans s4.gg))) u4 la') s4.gh hold_nil fun v5 G5 H5 s5 u5 => ?_)
      refine seq_go (set_gv (cs := []) (gv_from mon_vec (i := 1) gvo_ci (gv_dbl (gv_var rfl (ua.on (s3.gg.trans (s4.gg.trans s5.gg)))) (u4.on s5.gg) la')) s5.gh hold_nil fun v6 G6 H6 s6 u6 => ?_)
      have hwpv : pv.length = w0 := wa pv hpm
      have hdl : ((a.filter fun r => decide (r = pv)).map fun _ => pv).drop 1 = ((a.filter fun r => decide (r = pv)).map fun _ => pv).drop 1 := rfl
      have hl1 : (a.filter fun r => !decide (r = pv)).length ≤ a.length := List.length_filter_le _ _
      have hl2 : (((a.filter fun r => decide (r = pv)).map fun _ => pv).drop 1).length ≤ a.length := by
        rw [List.length_drop, List.length_map]
        have := List.length_filter_le (fun r => decide (r = pv)) a
        omega
      have hall : ∀ r ∈ a.filter (fun r => !decide (r = pv)) ++ ((a.filter fun r => decide (r = pv)).map fun _ => pv).drop 1, r ∈ a := fun r hr => by
        rcases List.mem_append.mp hr with q | q
        · exact (List.mem_filter.mp q).1
        · obtain ⟨_, _, e⟩ := List.mem_map.mp (List.mem_of_mem_drop q)
          rw [← e]
          exact hpm
      have hg : GvA [] (StX.tStar K (tVar 5) (StX.tStar K (tVar 6) tNil)) [some v, some (.int p), some va, some vo, some v4, some v5, some v6, o7, none, none] G6 (PrA Vec (a.filter (fun r => !decide (r = pv)) ++ ((a.filter fun r => decide (r = pv)).map fun _ => pv).drop 1)) := by
        have z := ga_star (K := K) (cs := []) (σ := [some v, some (.int p), some va, some vo, some v4, some v5, some v6, o7, none, none]) mon_vec (te := tVar 6) (ys := []) (gv_var rfl u6) ga_nilP
        rw [List.append_nil] at z
        exact ga_star mon_vec (gv_var rfl (u5.on s6.gg)) z
      refine seq_go (set_gv (cs := []) (φ := LstR Vec (chgR p pv a)) (gv_chg (piv := pv) (gv_lstP mon_vec hg ?_) (u4.on (s5.gg.trans s6.gg)) ?_ ?_ (by rw [hwpv]; exact hp)) s6.gh hold_nil fun v7 G7 H7 s7 u7 => ?_)
      · rw [List.length_append]
        omega
      · rw [List.length_append]
        omega
      · intro r hr
        have hra := hall r hr
        have hb := bd r hra
        rw [hpiv] at hb
        exact ⟨by rw [wa r hra]; exact hp, by rw [wa r hra]; exact hw, hb⟩
      have hcw : ∀ r ∈ chgR p pv a, r.length = w0 := fun r hr => by
        unfold chgR at hr
        obtain ⟨x, hx, rfl⟩ := List.mem_map.mp hr
        unfold elimR
        rw [List.length_map, List.length_zip, wa x (hall x hx), hwpv, Nat.min_self]
      have hcp : ∀ r ∈ chgR p pv a, p < r.length := fun r hr => by rw [hcw r hr]; exact hp
      have hcl : (chgR p pv a).length ≤ 2000 := by
        unfold chgR
        rw [List.length_map, List.length_append]
        omega
      have s37 := s3.trans (s4.trans (s5.trans (s6.trans s7)))
      have hg2 : GvA [] (StX.tStar K (tVar 3) (StX.tStar K (tLc (iList K (tVar 7)) (gName 8) (tTest (tOp rEq (tOp (rIxL K) (tVar 8) (tVar 1)) (tC (.int 0)))) (tVar 8) [8]) tNil)) [some v, some (.int p), some va, some vo, some v4, some v5, some v6, some v7, none, none] G7 (PrA Vec (o ++ (chgR p pv a).filter fun r => decide (atZ r p = 0))) := by
        have z := ga_star (K := K) (cs := []) (σ := [some v, some (.int p), some va, some vo, some v4, some v5, some v6, some v7, none, none]) mon_vec (ys := []) (gv_filtEq (K := K) (gv_var (i := 7) rfl u7) hcp (by omega)) ga_nilP
        rw [List.append_nil] at z
        exact ga_star mon_vec (gv_var rfl (uo.on s37.gg)) z
      refine seq_go (set_gv (cs := []) (φ := LstR Vec (o ++ (chgR p pv a).filter fun r => decide (atZ r p = 0))) (gv_lstP mon_vec hg2 ?_) s7.gh hold_nil fun v8 G8 H8 s8 u8 => ?_)
      · have := List.length_filter_le (fun r => decide (atZ r p = 0)) (chgR p pv a)
        rw [List.length_append]
        omega
      have hg3 : GvA [] (tCons (tVar 4) (StX.tStar K (tLc (iList K (tVar 7)) (gName 8) (tTest (tOp rNe (tOp (rIxL K) (tVar 8) (tVar 1)) (tC (.int 0)))) (tVar 8) [8]) tNil)) [some v, some (.int p), some va, some v8, some v4, some v5, some v6, some v7, none, none] G8 (PrA Vec (pv :: (chgR p pv a).filter fun r => !decide (atZ r p = 0))) := by
        have z := ga_star (K := K) (cs := []) (σ := [some v, some (.int p), some va, some v8, some v4, some v5, some v6, some v7, none, none]) mon_vec (ys := []) (gv_filtNe (K := K) (gv_var (i := 7) rfl (u7.on s8.gg)) hcp (by omega)) ga_nilP
        rw [List.append_nil] at z
        exact ga_consP mon_vec (gv_var rfl (u4.on (s5.gg.trans (s6.gg.trans (s7.gg.trans s8.gg))))) z
      refine set_gv (cs := []) (φ := LstR Vec (pv :: (chgR p pv a).filter fun r => !decide (atZ r p = 0))) (gv_lstP mon_vec hg3 ?_) s8.gh hold_nil fun v9 G9 H9 s9 u9 => ?_
      · have := List.length_filter_le (fun r => !decide (atZ r p = 0)) (chgR p pv a)
        rw [List.length_cons]
        omega
      refine ⟨m', G9, Nat.lt_succ_self _, sc.trans (s37.trans (s8.trans s9)), v9, v8, some v4, some v5, some v6, some v7, _, _, rfl, ?_, ?_, hnx⟩
      · have e : clA p a = pv :: (chgR p pv a).filter fun r => !decide (atZ r p = 0) := by
          unfold clA
          rw [hpiv]
        rw [e]
        exact u9.now
      · have e : clO p a o = o ++ (chgR p pv a).filter fun r => decide (atZ r p = 0) := by
          unfold clO
          rw [hpiv]
        rw [e]
        exact mon_lst mon_vec _ _ _ _ s9.gg u8.now
    · rw [if_neg (by simp; omega)]
      obtain ⟨⟨la, lo, wa, wo⟩, rfl, rfl⟩ : StOk w0 p a o ∧ aE = a ∧ oth = o := by
        cases m with
        | zero => exact ⟨hok.1, hok.2.2.1, hok.2.2.2⟩
        | succ m =>
          obtain ⟨z1, z2⟩ := hok
          rcases z2 with z2 | z2
          · exact ⟨z1, z2.2.1, z2.2.2⟩
          · exact absurd z2.1 hgt
      refine seq_go (if_gv (cs := []) (b := aE.isEmpty) (gt_test (gv_eqL0 mon_vec (gv_var rfl (ua.on s3.gg)))) s3.gh hold_nil fun G4 H4 s4 => ?_)
      have s34 := s3.trans s4
      cases aE with
      | nil =>
        rw [if_pos (show ([] : List (List Int)).isEmpty = true from rfl)]
        exact ret_gv (cs := []) (gv_pair (R := OptR Vec) (S := LstR Vec) (a := none) (mon_opt mon_vec) (mon_lst mon_vec) gv_cn (gv_var rfl (uo.on s34.gg))) s4.gh hold_nil fun v5 G5 H5 s5 u5 => k v5 G5 H5 (s12.trans (sc.trans (s34.trans s5))) u5
      | cons r0 rs =>
        rw [if_neg (show ¬ (r0 :: rs).isEmpty = true by simp)]
        have hr0 : p < r0.length := by rw [wa r0 List.mem_cons_self]; exact hp
        refine nx_go (seq_go (set_gv (cs := []) (gv_ixL (i := 0) mon_vec (gv_var rfl (ua.on s34.gg)) gv_ci rfl) s4.gh hold_nil fun v5 G5 H5 s5 u5 => ?_))
        dsimp only
        refine ret_gv (cs := []) (φ := PairR (OptR Vec) (LstR Vec) (some (if 0 < atZ r0 p then r0 else negR r0), oth)) (gv_pair (mon_opt mon_vec) (mon_lst mon_vec) ?_ (gv_var rfl (uo.on (s34.gg.trans s5.gg)))) s5.gh hold_nil fun v6 G6 H6 s6 u6 => k v6 G6 H6 (s12.trans (sc.trans (s34.trans (s5.trans s6)))) u6
        refine gv_if (b := decide ((0 : Int) < atZ r0 p)) (gt_test (gv_I0 (g := fun i j => .bl (decide (j < i))) (gv_ixL mon_I (gv_var rfl u5) (gv_vi rfl) (atZ_get hr0)) gv_ci)) (fun h => ?_) fun h => ?_
        · rw [if_pos (of_decide_eq_true h)]
          exact gv_var rfl u5
        · rw [if_neg (of_decide_eq_false h)]
          exact gv_negs u5 (by have := wa r0 List.mem_cons_self; omega)
end
end Crt
end

section
/-! triangular. -/
set_option autoImplicit false
namespace Crt
open PySem PySem.Spec PyProof.Rows L2
def addP : Option (List Int) → List (List Int) → List (List Int)
  | none, b => b
  | some q, b => q :: b
abbrev rIsN : R2 := fun x y H Q => y = .non ∧ Q (.bl (decide (x = .non))) H
abbrev rLstOf (K : PySem.W.Frag) : List V → Hp → VK → Prop := fun xs H Q => ∃ p ys, xs = [.ref p] ∧ (SqL K H p ys ∨ SqT K H p ys) ∧ ∀ l, H l = none → Q (.ref l) (upd H l (.lst ys))
/-- after n places -/
def TriRel (w : Nat) (rows : List (List Int)) : Nat → List (List Int) → List (List Int) → Prop
  | 0, b, r => b = [] ∧ r = rows
  | n + 1, b, r => ∃ b' r' piv, TriRel w rows n b' r' ∧ Cleared w n r' piv r ∧ b = addP piv b'
def redAll (basis : List (List Int)) : List (List Int) := basis.foldl (fun acc row => redBy acc row :: acc) []
def RAOk (w : Nat) : List (List Int) → List (List Int) → Prop
  | _, [] => True
  | acc, r :: rs => RedOk w acc r ∧ RAOk w (redBy acc r :: acc) rs
def TriOk (w : Nat) (rows b rest : List (List Int)) : Prop := TriRel w rows w b rest ∧ RAOk w [] b ∧ w ≤ 1000 ∧ rest.length ≤ 1000
def spTri : Sp := SpF (α := List (List Int) × Nat × List (List Int) × List (List Int)) (fun x vs G => ∃ v, vs = [v, .int x.2.1] ∧ LstR Vec x.1 v G ∧ TriOk x.2.1 x.1 x.2.2.1 x.2.2.2) (fun x => PairR (LstR Vec) (LstR Vec) (redAll x.2.2.1, x.2.2.2))
/-- the states on the way -/
theorem TriRel.way {w : Nat} {rows : List (List Int)} : ∀ {n : Nat} {b r : List (List Int)}, TriRel w rows n b r → ∃ f : Nat → List (List Int) × List (List Int), f 0 = ([], rows) ∧ f n = (b, r) ∧ ∀ i, i < n → ∃ piv, Cleared w i (f i).2 piv (f (i + 1)).2 ∧ (f (i + 1)).1 = addP piv (f i).1
  | 0, b, r, h => ⟨fun _ => ([], rows), rfl, by rw [h.1, h.2], fun i hi => absurd hi (Nat.not_lt_zero i)⟩
  | n + 1, b, r, ⟨b', r', piv, h, c, e⟩ => by
    obtain ⟨f, f0, fn, fs⟩ := h.way
    refine ⟨fun i => if i ≤ n then f i else (b, r), ?_, ?_, fun i hi => ?_⟩
    · dsimp only
      rw [if_pos (Nat.zero_le n)]
      exact f0
    · dsimp only
      rw [if_neg (by omega)]
    · dsimp only
      rcases Nat.lt_or_ge i n with q | q
      · rw [if_pos (by omega), if_pos (by omega)]
        exact fs i q
      · obtain rfl : i = n := by omega
        rw [if_pos (Nat.le_refl _), if_neg (by omega), fn]
        exact ⟨piv, c, e⟩
theorem addP_len {piv : Option (List Int)} {b : List (List Int)} : (addP piv b).length ≤ b.length + 1 := by
  cases piv with
  | none => exact Nat.le_succ _
  | some q => exact Nat.le_refl _
theorem RAOk.at_ {w : Nat} : ∀ {b acc : List (List Int)}, RAOk w acc b → ∀ {i : Nat} {r : List Int}, b[i]? = some r → RedOk w ((b.take i).foldl (fun acc row => redBy acc row :: acc) acc) r
  | [], _, _, _, _, h => by simp at h
  | r :: rs, acc, h, 0, q, e => by
    simp at e
    subst e
    exact h.1
  | r :: rs, acc, h, i + 1, q, e => RAOk.at_ (b := rs) h.2 (i := i) (by simpa using e)
theorem foldA_len (f : List (List Int) → List Int → List Int) : ∀ (b acc : List (List Int)), (b.foldl (fun acc row => f acc row :: acc) acc).length = b.length + acc.length
  | [], acc => by simp
  | r :: rs, acc => by
    rw [List.foldl_cons, foldA_len f rs, List.length_cons, List.length_cons]
    omega
section
variable {cs : Held} {σ : L2.St} {G : Hp} {ta te : TE} {α : Type} {R : α → PV}
theorem gv_isN {o : Option (List Int)} (ha : Gv cs ta σ G (OptR Vec o)) : Gv cs (tOp rIsN ta (tC .non)) σ G (IsB o.isNone) :=
  gv_op ha gv_cn fun x y G1 H1 s _ _ ux uy => rv_at (v := .bl o.isNone) s (up_c rfl) fun Q q => by
    have e : decide (x = V.non) = o.isNone := by
      cases o with
      | none =>
        rw [show x = V.non from ux.now]
        rfl
      | some r =>
        obtain ⟨a, vs, rfl, _⟩ := ux.now
        rfl
    refine ⟨uy.now, ?_⟩
    rw [e]
    exact q
end
section
variable {cs : Held} {σ : L2.St} {G H : Hp} {ta tb : TE} {φ ψ : PV} {D : Ends}
/-- x, y = a, b -/
theorem par_gv {i j : Nat} (h1 : Gv cs ta σ G φ) (h2 : Gv cs tb σ G ψ) (e : Same G H) (c : Hold cs H) (k : ∀ v w G1 H1, Stp G H G1 H1 → Up (φ v) G1 → Up (ψ w) G1 → D.nx ((σ.set i (some v)).set j (some w)) H1) : tPar i j (tCons ta (tCons tb tNil)) D σ H :=
  ga_2 h1 h2 H e c _ fun vs G1 H1 s u => by
    obtain ⟨v, w, rfl, _, _⟩ := u.now
    refine ⟨v, w, rfl, k v w G1 H1 s (fun F f => ?_) fun F f => ?_⟩
    · obtain ⟨v2, w2, e2, q1, _⟩ := u F f
      cases e2
      exact q1
    · obtain ⟨v2, w2, e2, _, q2⟩ := u F f
      cases e2
      exact q2
end
section
variable {P : Program} {w : World} {K : PySem.W.Frag} {mg : Str → Option Value} {base : Heap}
theorem ok_triangular (F : Dfn K mg "triangular" (top 36)) (mr : mg "range" = none) (ml : mg "list" = none) (h1 : CalP P w K mg base 2 "cleared" spCleared) (h2 : CalP P w K mg base 2 "reduced_by" spRed) : CalP P w K mg base 3 "triangular" spTri := by
  refine cal_of (N := ["rows", "width", "basis", "rest", "place", "pivot", "reduced", "row"]) (ps := ["rows", "width"]) F (by decide +kernel) ?_ (fun _ _ _ _ _ _ us hl => match us, hl with | [_, _], _ => rfl) ?_
  · rintro vs H Q E ⟨x, G, _, ⟨v, e, _⟩, _⟩
    rw [e] <;> rfl
  · intro nd cdv f A outer s H vs Q E hr h
    refine ⟨_, pss_cons (ps_par (i := 2) (j := 3) rfl nd rfl rfl (by decide) rfl rfl (pa_cons (pe_lst pa_nil) (pa_cons (pv 0) pa_nil)) (by rfl))
      (pss_cons (ps_for (tb := tSeq (tAsg (tCall spCleared [] C8.E0 (tCons (tVar 3) (tCons (tVar 4) tNil))) (gTup K 2 (gCons (gName 5) (gCons (gName 3) gNil)))) (tSeq (tAsg (tIf (tTest (tOp rIsN (tVar 5) (tC .non))) (tVar 2) (tLst (tCons (tVar 5) (StX.tStar K (tVar 2) tNil)))) (gName 2)) tNext)) PassesOwn.never rfl (pi_range1 rfl mr (pa_cons (pv 1) pa_nil)) (pg_name (i := 4) nd rfl (Or.inl rfl))
        (pss_cons (ps_asg (C8.pe_c h1 hr (by decide) rfl (pa_cons (pv 3) (pa_cons (pv 4) pa_nil))) (pg_tup rfl (pgs_cons (pg_name (i := 5) nd rfl (Or.inl rfl)) (pgs_cons (pg_name (i := 3) nd rfl (Or.inl rfl)) pgs_nil))))
          (pss_one (ps_set (i := 2) nd rfl (Or.inl rfl) (pe_ifExp (pt_cmpR op_isN (pv 5) pe_non (nomark _)) (pv 2) (pe_lst (pa_cons (pv 5) (StX.pa_star (pv 2) pa_nil))))))))
      (pss_cons (ps_set (i := 6) nd rfl (Or.inl rfl) (pe_lst pa_nil))
      (pss_cons (ps_for (tb := tSeq (tAsg (tLst (tCons (tCall spRed [] C8.E0 (tCons (tVar 6) (tCons (tVar 7) (tCons (tVar 1) tNil)))) (StX.tStar K (tVar 6) tNil))) (gName 6)) tNext) PassesOwn.never rfl (pi_list (pv 2)) (pg_name (i := 7) nd rfl (Or.inl rfl))
        (pss_one (ps_set (i := 6) nd rfl (Or.inl rfl) (pe_lst (pa_cons (C8.pe_c h2 hr (by decide) rfl (pa_cons (pv 6) (pa_cons (pv 7) (pa_cons (pv 1) pa_nil)))) (StX.pa_star (pv 6) pa_nil))))))
      (pss_one (ps_ret (pe_tup (pa_cons (pv 6) (pa_cons (pe_lc (own := [("row", 7)]) (g := gName 7) (tt := tYes) (te := tCB (rLstOf K) (tCons (tVar 7) tNil)) rfl nd (pi_list (pv 3)) (blkOk_by (N := ["rows", "width", "basis", "rest", "place", "pivot", "reduced", "row"]) (sc := C8.fnScope (top 36)) (by decide +kernel)) (fun _ _ _ _ _ => pg_name (i := 7) nd rfl (Or.inl rfl)) (fun _ _ _ _ _ => pts_nil) (fun _ _ _ _ _ => pe_callTy call_list_of rfl ml boot_list (pa_cons (pv 7) pa_nil))) pa_nil)))))))), ?_⟩
    obtain ⟨⟨rows, w0, b, rest⟩, G, eG, ⟨v, rfl, hx, tri, ra, hw, hrl⟩, k⟩ := h
    dsimp only at hx tri ra hw hrl k
    have hup := (mon_lst mon_vec).up hx
    obtain ⟨fs, f0, fn, fstep⟩ := tri.way
    have blen : ∀ i, i ≤ w0 → (fs i).1.length ≤ i := fun i => by
      induction i with
      | zero =>
        intro _
        rw [f0]
        exact Nat.le_refl _
      | succ i ih =>
        intro hi
        obtain ⟨piv, _, e⟩ := fstep i (by omega)
        rw [e]
        have := ih (by omega)
        have := addP_len (piv := piv) (b := (fs i).1)
        omega
    have bl : b.length ≤ w0 := by
      have := blen w0 (Nat.le_refl _)
      rw [fn] at this
      exact this
    show tSeq _ _ _ [some v, some (.int w0), none, none, none, none, none, none] H
    refine seq_go (par_gv (cs := []) (φ := LstR Vec []) (gv_nilL mon_vec) (gv_var rfl hup) eG hold_nil fun vb vr G1 H1 s1 ub ur => ?_)
    refine seq_go (for_gv (cs := []) (src_range (n := w0) (ga_imp (ga_1 (gv_vi rfl)) fun vs G ⟨v, e, h⟩ => by rw [e, show v = _ from h]) (by omega)) s1.gh hold_nil (fun i σ Gc _ => ∃ vb vr o4 o5, σ = [some v, some (.int w0), some vb, some vr, o4, o5, none, none] ∧ LstR Vec (fs i).1 vb Gc ∧ LstR Vec (fs i).2 vr Gc) (fun G2 H2 s2 => ⟨vb, vr, none, none, rfl, by rw [f0]; exact ub G2 s2.gg, by rw [f0]; exact ur G2 s2.gg⟩) ?_ ?_)
    · rintro G2 H2 s2 i x u σ2 Gc Hc G3 H3 hi sc ⟨vb, vr, o4, o5, rfl, hb, hr2⟩ s3 hu
      obtain ⟨hlt, rfl⟩ := range_at hi
      obtain rfl := hu.now
      obtain ⟨piv, hcl, e⟩ := fstep i hlt
      have ub := (mon_lst mon_vec).up hb
      have ur := (mon_lst mon_vec).up hr2
      refine seq_go (set2_gv (cs := []) (R := OptR Vec) (S := LstR Vec) (p := (piv, (fs (i + 1)).2)) (gv_callE (α := List (List Int) × Nat × Nat × Option (List Int) × List (List Int)) ((fs i).2, i, w0, piv, (fs (i + 1)).2) ?_ rfl) s3.gh hold_nil fun vp vr2 G4 H4 s4 hp hr4 => ?_)
      · exact ga_imp (ga_2 (gv_var rfl (ur.on s3.gg)) (gv_vi rfl)) fun vs G ⟨v, w, e, q1, q2⟩ => ⟨v, by rw [e, show w = _ from q2], q1, hlt, hw, hcl⟩
      have up := (mon_opt mon_vec).up hp
      have s34 := s3.trans s4
      show tSeq _ _ _ [some v, some (.int w0), some vb, some vr2, some (.int i), some vp, none, none] H4
      refine seq_go (set_gv (cs := []) (φ := LstR Vec (fs (i + 1)).1) (gv_if (b := piv.isNone) (gt_test (gv_isN (gv_var rfl up))) (fun h => ?_) fun h => ?_) s4.gh hold_nil fun vb2 G5 H5 s5 u5 => ?_)
      · obtain rfl : piv = none := Option.isNone_iff_eq_none.mp h
        rw [e]
        exact gv_var rfl (ub.on s34.gg)
      · obtain ⟨q, rfl⟩ : ∃ q, piv = some q := by
          cases piv with
          | none => cases h
          | some q => exact ⟨q, rfl⟩
        have hg : GvA [] (tCons (tVar 5) (StX.tStar K (tVar 2) tNil)) [some v, some (.int w0), some vb, some vr2, some (.int i), some vp, none, none] G4 (PrA Vec (q :: (fs i).1)) := by
          have z := ga_star (K := K) (cs := []) (σ := [some v, some (.int w0), some vb, some vr2, some (.int i), some vp, none, none]) mon_vec (te := tVar 2) (ys := []) (gv_var (i := 2) rfl (ub.on s34.gg)) ga_nilP
          rw [List.append_nil] at z
          exact ga_consP mon_vec (gv_var rfl up) z
        rw [e]
        refine gv_lstP mon_vec hg ?_
        have := blen i (by omega)
        have := addP_len (piv := some q) (b := (fs i).1)
        omega
      · exact ⟨G5, sc.trans (s34.trans s5), vb2, vr2, _, _, rfl, u5.now, mon_lst mon_vec _ _ _ _ s5.gg hr4⟩
    · rintro σ2 Gc Hc sc ⟨vb, vr, o4, o5, rfl, hb, hr2⟩
      rw [nums_len, fn] at hb hr2
      dsimp only at hb hr2
      have ub := (mon_lst mon_vec).up hb
      have ur := (mon_lst mon_vec).up hr2
      refine seq_go (set_gv (cs := []) (φ := LstR Vec []) (gv_nilL mon_vec) sc.gh hold_nil fun va G3 H3 s3 u3 => ?_)
      refine seq_go (for_gv (cs := []) (src_list mon_vec (gv_var rfl (ub.on s3.gg))) s3.gh hold_nil (fun i σ Gc _ => ∃ va o7, σ = [some v, some (.int w0), some vb, some vr, o4, o5, some va, o7] ∧ LstR Vec (redAll (b.take i)) va Gc) (fun G4 H4 s4 => ⟨va, none, rfl, u3 G4 s4.gg⟩) ?_ ?_)
      · rintro G4 H4 s4 i x u σ2 Gd Hd G5 H5 hi sd ⟨va, o7, rfl, ha⟩ s5 hu
        have ua := ((mon_lst mon_vec).up ha).on s5.gg
        have hil : (redAll (b.take i)).length ≤ w0 := by
          unfold redAll
          rw [foldA_len, List.length_nil, List.length_take]
          omega
        have hg : GvA [] (tCons (tCall spRed [] C8.E0 (tCons (tVar 6) (tCons (tVar 7) (tCons (tVar 1) tNil)))) (StX.tStar K (tVar 6) tNil)) [some v, some (.int w0), some vb, some vr, o4, o5, some va, some u] G5 (PrA Vec (redBy (redAll (b.take i)) x :: redAll (b.take i))) := by
          have z := ga_star (K := K) (cs := []) (σ := [some v, some (.int w0), some vb, some vr, o4, o5, some va, some u]) mon_vec (te := tVar 6) (ys := []) (gv_var (i := 6) rfl ua) ga_nilP
          rw [List.append_nil] at z
          refine ga_consP mon_vec (gv_callE (α := List (List Int) × List Int × Nat) (redAll (b.take i), x, w0) ?_ rfl) z
          exact ga_imp (ga_3 (gv_var rfl ua) (gv_var rfl hu) (gv_vi rfl)) fun vs G ⟨v, w, z, e, q1, q2, q3⟩ => ⟨v, w, by rw [e, show z = _ from q3], q1, q2, by dsimp only; omega, hw, ra.at_ hi⟩
        refine seq_go (set_gv (cs := []) (gv_lstP mon_vec hg (by rw [List.length_cons]; omega)) s5.gh hold_nil fun va2 G6 H6 s6 u6 => ?_)
        refine ⟨G6, sd.trans (s5.trans s6), va2, _, rfl, ?_⟩
        have e : redAll (b.take (i + 1)) = redBy (redAll (b.take i)) x :: redAll (b.take i) := by
          rw [take_snoc hi]
          unfold redAll
          rw [List.foldl_append]
          rfl
        rw [e]
        exact u6.now
      · rintro σ2 Gd Hd sd ⟨va, o7, rfl, ha⟩
        rw [List.take_length] at ha
        have s3d := s3.trans sd
        refine ret_gv (cs := []) (φ := PairR (LstR Vec) (LstR Vec) (redAll b, rest)) (gv_pair (mon_lst mon_vec) (mon_lst mon_vec) (gv_var rfl ((mon_lst mon_vec).up ha)) ?_) sd.gh hold_nil fun v6 G6 H6 s6 u6 => k v6 G6 H6 (s1.trans (sc.trans (s3d.trans s6))) u6
        have z := gv_map (cs := []) (cs1 := []) (σ := [some v, some (.int w0), some vb, some vr, o4, o5, some va, o7]) (G := Gd) (g := gName 7) (ws := [7]) (te := tCB (rLstOf K) (tCons (tVar 7) tNil)) (R := Vec) (R' := Vec) (f := fun r => r) mon_vec (src_list (K := K) (tl := tVar 3) mon_vec (gv_var rfl (ur.on s3d.gg))) (xs := rest) (by omega) ?_
        · rw [List.map_id'] at z
          exact z
        · rintro v x G1 hx e u
          exact ⟨_, tg_name, rfl, gv_listL mon_I (gv_var rfl u)⟩
end
end Crt
end

section
/-! Two fors in a comprehension; the values of a dict; not of an own object. -/
set_option autoImplicit false
namespace Crt
open PySem PySem.Spec PyProof.Rows L2
section
variable {α β γ : Type} {R : α → PV} {R' : β → PV} {S : γ → PV} {K : PySem.W.Frag} {σ : L2.St} {G H : Hp} {ws ws1 : List Nat} {te : TE} {g g1 : TG} {cs cs1 : Held} {wi wi1 : TI} {D : Addr}
theorem LcI.appJ {ys : List β} {y : β} {Gc Hc : Hp} {acc : List V} {v : V} (hD : H D = none) (I : LcI R' ys G H D ys.length Gc Hc acc) (h : R' y v Gc) : LcI R' (ys ++ [y]) G H D (ys ++ [y]).length Gc (upd Hc D (.lst (acc ++ [v]))) (acc ++ [v]) := by
  have z := I.app hD h
  rw [List.length_append]
  exact z
theorem flat_take {h : α → List β} {xs : List α} {i : Nat} {x : α} (hx : xs[i]? = some x) : (xs.take (i + 1)).flatMap h = (xs.take i).flatMap h ++ h x := by
  rw [take_snoc hx, List.flatMap_append]
  simp
theorem flat_le {h : α → List β} {xs : List α} {i : Nat} : ((xs.take i).flatMap h).length ≤ (xs.flatMap h).length := by
  conv => rhs; rw [← List.take_append_drop i xs]
  rw [List.flatMap_append, List.length_append]
  exact Nat.le_add_right _ _
/-- [te for g in wi for g1 in wi1] -/
theorem gv_lc2 {xs : List α} {zs : α → List γ} {f : α → γ → β} (m' : MonR R') (hs : Src wi σ cs cs1 G xs R) (hn : (xs.flatMap fun x => (zs x).map (f x)).length ≤ 100000)
    (turn : ∀ (v : V) (x : α) (G1 : Hp), x ∈ xs → Same G G1 → Up (R x v) G1 → ∃ σ2, (∀ H1, Same G1 H1 → ∀ Q, Q σ2 H1 → g v (wipe σ ws) H1 Q) ∧ wipe σ2 ws = wipe σ ws ∧ Src wi1 σ2 cs1 cs1 G1 (zs x) S ∧
      ∀ (u : V) (y : γ) (G2 : Hp), y ∈ zs x → Same G1 G2 → Up (S y u) G2 → ∃ σ3, (∀ H1, Same G2 H1 → ∀ Q, Q σ3 H1 → g1 u (wipe σ2 ws1) H1 Q) ∧ wipe σ3 ws1 = wipe σ2 ws1 ∧ Gv cs1 te σ3 G2 (R' (f x y))) :
    Gv cs (tLc2 wi g tYes wi1 g1 tYes te ws ws1) σ G (LstR R' (xs.flatMap fun x => (zs x).map (f x))) := fun H a c Q q =>
  hs H a c _ fun J G1 H1 s1 c1 W D hD => by
    let h : α → List β := fun x => (zs x).map (f x)
    refine ⟨fun i m Hc => m = xs.length - i ∧ i ≤ xs.length ∧ ∃ Gc acc, LcI R' ((xs.take i).flatMap h) G1 H1 D ((xs.take i).flatMap h).length Gc Hc acc, ⟨_, rfl, Nat.zero_le _, G1, [], LcI.start s1.gh hD⟩, ?_⟩
    rintro i m Hc ⟨rfl, hi, Gc, acc, I⟩
    by_cases hlt : i < xs.length
    · have hx : xs[i]? = some xs[i] := List.getElem?_eq_getElem hlt
      obtain ⟨hgo, hy⟩ := W.go hx (c1.on I.hh) I.gg I.gh
      refine .inr ⟨hgo, fun H' => ∃ Gc acc, LcI R' ((xs.take (i + 1)).flatMap h) G1 H1 D ((xs.take (i + 1)).flatMap h).length Gc H' acc, fun H' h => ⟨xs.length - (i + 1), by omega, rfl, hlt, h⟩, fun v H' hv => ?_⟩
      obtain ⟨G2, s2, ur⟩ := hy v H' hv
      have I2 := I.step m' s2
      obtain ⟨σ2, hg, hw, hs1, t⟩ := turn v xs[i] G2 (List.mem_of_getElem? hx) (s1.gg.trans I2.gg) ur
      refine hg H' I2.gh _ ⟨hw, ?_⟩
      show tYes σ2 H' _
      refine hs1 H' I2.gh (c1.on I2.hh) _ fun J1 G3 H3 s3 c3 W1 => ?_
      have I3 := I2.step m' s3
      refine ⟨fun j k Hj => k = (zs xs[i]).length - j ∧ j ≤ (zs xs[i]).length ∧ ∃ Gj acc, Same G3 Gj ∧ LcI R' ((xs.take i).flatMap h ++ ((zs xs[i]).take j).map (f xs[i])) G1 H1 D ((xs.take i).flatMap h ++ ((zs xs[i]).take j).map (f xs[i])).length Gj Hj acc, ⟨_, rfl, Nat.zero_le _, G3, acc, Same.refl _, ?_⟩, ?_⟩
      · rw [List.take_zero, List.map_nil, List.append_nil]
        exact I3
      · rintro j k Hj ⟨rfl, hj, Gj, acc4, e4, I4⟩
        by_cases hjl : j < (zs xs[i]).length
        · have hz : (zs xs[i])[j]? = some (zs xs[i])[j] := List.getElem?_eq_getElem hjl
          obtain ⟨hgo1, hy1⟩ := W1.go hz (c1.on I4.hh) e4 I4.gh
          refine .inr ⟨hgo1, fun H' => ∃ Gj acc, Same G3 Gj ∧ LcI R' ((xs.take i).flatMap h ++ ((zs xs[i]).take (j + 1)).map (f xs[i])) G1 H1 D ((xs.take i).flatMap h ++ ((zs xs[i]).take (j + 1)).map (f xs[i])).length Gj H' acc, fun H' h => ⟨(zs xs[i]).length - (j + 1), by omega, rfl, hjl, h⟩, fun u H5 hu => ?_⟩
          obtain ⟨G5, s5, us⟩ := hy1 u H5 hu
          have I5 := I4.step m' s5
          obtain ⟨σ3, hg1, hw1, he⟩ := t u (zs xs[i])[j] G5 (List.mem_of_getElem? hz) (s3.gg.trans (e4.trans s5.gg)) us
          refine hg1 H5 I5.gh _ ⟨hw1, ?_⟩
          show tYes σ3 H5 _
          refine he H5 I5.gh (c1.on I5.hh) _ fun y G6 H6 s6 u6 => ?_
          have I6 := I5.step m' s6
          refine ⟨acc4, I6.at_, ?_, G6, acc4 ++ [y], e4.trans (s5.gg.trans s6.gg), ?_⟩
          · have l1 := I6.ln
            have l2 : ((xs.take i).flatMap h ++ ((zs xs[i]).take j).map (f xs[i])).length ≤ (xs.flatMap h).length := by
              refine Nat.le_trans ?_ (flat_le (i := i + 1))
              rw [flat_take hx, List.length_append, List.length_append]
              show _ + (((zs xs[i]).take j).map (f xs[i])).length ≤ _ + ((zs xs[i]).map (f xs[i])).length
              rw [List.length_map, List.length_map, List.length_take]
              omega
            exact Nat.lt_of_le_of_lt (Nat.le_trans l1 (Nat.le_trans l2 hn)) (by decide)
          · rw [take_snoc hz, List.map_append, ← List.append_assoc]
            exact I6.appJ hD u6.now
        · have e : j = (zs xs[i]).length := by omega
          subst e
          rw [List.take_length] at I4
          refine .inl ⟨W1.stop (c1.on I4.hh) e4 I4.gh, Gj, acc4, ?_⟩
          rw [flat_take hx]
          exact I4
    · have e : i = xs.length := by omega
      subst e
      rw [List.take_length] at I
      obtain ⟨s2, u2⟩ := I.done m' hD
      exact .inl ⟨W.stop (c1.on I.hh) I.gg I.gh, q _ _ _ (s1.trans s2) u2⟩
end
section
variable {β : Type} {R : β → PV} {cs : Held} {σ : L2.St} {G : Hp} {td : TE}
theorem src_valsS {kvs : List (Str × β)} (m : MonR R) (h : Gv cs td σ G (Dic KS R kvs)) : Src (iVals td) σ cs cs G (kvs.map (·.2)) R := fun H a c Rk k => h H a c _ fun v G1 H1 s1 ul => by
  obtain ⟨d, o, us, ev, el, pl⟩ := ul.now
  have at_ : ∀ {Gc Hc : Hp}, Same G1 Gc → Same Gc Hc → Hc d = some (.frz o (KS.ho us)) := fun e1 e2 => e2 _ _ (e1 _ _ el)
  have len : (us.map fun p => ((Sum.inr p.1 : Key), p.2)).length = (kvs.map (·.2)).length := by rw [List.length_map, List.length_map, pl.length]
  refine ⟨d, o, _, ev, at_ (Same.refl _) s1.gh, k _ G1 H1 s1 (c.on s1.hh) ⟨fun {i x Gc Hc} hx _ e1 e2 => ?_, fun {Gc Hc} _ e1 e2 => ⟨at_ e1 e2, Nat.le_of_eq len⟩⟩⟩
  have hi : i < (kvs.map (·.2)).length := (List.getElem?_eq_some_iff.mp hx).1
  refine ⟨⟨at_ e1 e2, by rw [len]; exact hi⟩, ?_⟩
  rintro v' H' ⟨rfl, k', hk⟩
  rw [List.getElem?_map] at hx hk
  obtain ⟨p, hp, rfl⟩ := Option.map_eq_some_iff.mp hx
  obtain ⟨u, hu, r⟩ := map_at pl hp
  rw [hu] at hk
  cases hk
  exact ⟨Gc, Stp.refl e2, (m.up r).on e1⟩
end
section
variable {X : Cx} {C f : Addr} {k : Nat} {sp : Sp} {a : Expr} {ta : TE} {pos : Pos}
/-- not e, by its own truth -/
def tNotO (C : Addr) (sp : Sp) (ta : TE) : TE := fun σ H Q => ta σ H fun x H1 => rOwnT C sp x H1 fun b H2 => Q (.bl (!b)) H2
theorem pe_notO (hs : PySem.W.findIn X.K (.ref C) "__bool__" = some (some (.ref f))) (hf : PySem.W.isFn X.K (.ref f) = true) (F : CalA X k f sp) (hr : Room k X.A) (ha : PE X a ta) : PE X (.UnaryOp .Not a pos) (tNotO C sp ta) := by
  refine ⟨fun pins s σ H Q I h => ?_⟩
  refine UnaryOp_ (thn (ha.run pins s σ H _ I h) fun v s1 ⟨x, H1, I1, r1, q1⟩ => ?_)
  exact not_of (thn (tru_own hs hf F hr pins s1 σ H1 x v (fun c H2 => Q (.bl (!c)) H2) I1 r1 q1) fun c s2 ⟨H2, I2, q2⟩ => ⟨.bl (!c), H2, I2, rfl, q2⟩)
end
section
variable {cs : Held} {σ : L2.St} {G : Hp} {C : Addr} {U : List Str} {f : Fn} {ta : TE}
theorem gv_notO (h : Gv cs ta σ G (LdR C U f)) : Gv cs (tNotO C (spTru C) ta) σ G (IsB (nf f U).isEmpty) := fun H a c Q q =>
  h H a c _ fun x G1 H1 s1 u1 => by
    obtain ⟨p, dx, d, rfl, hp, _⟩ := u1.now.2.2
    refine ⟨p, dx, _, rfl, s1.gh _ _ hp, (f, U), G1, s1.gh, ⟨.ref p, rfl, u1.now⟩, fun v G2 H2 s2 u2 => ⟨_, u2.now, q _ _ _ (s1.trans s2) ?_⟩⟩
    rw [Bool.not_not]
    exact up_c rfl
end
end Crt
end

section
/-! enumerate(tuple). -/
set_option autoImplicit false
namespace Crt
open PySem PySem.Spec PyProof.Rows L2
open AutoSeq1 (wpAny_loadPart')
theorem draws_tuple {prog : Program} {w : World} {A : Around} (hh : A.handled = none) (it l : Addr) (hne : l ≠ it) (items : Array Value) :
    Draws prog w A it [it, l] items.size (fun i v => items[i]? = some v) (fun i h => h.IsTupleIter it l i ∧ h.IsTuple l items) where
  live := fun _ _ st => let ⟨o, ho, _⟩ := st.1; ⟨o, ho⟩
  frame := fun _ _ _ st hk => ⟨st.1.at fun o e => hk it (by simp) o e, let ⟨o, ho, r⟩ := st.2; ⟨o, hk l (by simp) o ho, r⟩⟩
  item := fun i s Q E hi st hQ => by
    refine RZ.nextOf_tuple_item st.1 st.2 (x := items[i]) (by simp [hi]) fun h' hit' hs' => ?_
    exact hQ _ h' s.toks (by simp [hi]) ⟨hit', st.2.extBut hs'.extBut hne⟩ hs'
  done := fun s Q E st hE => RZ.nextOf_tuple_end hh st.1 st.2 (by simp) hE
theorem meets_enum_newT (l : Addr) (items : Array Value) (n : Nat) (dct : Option Addr) (sl : Array (Option Value)) :
    Meets (Builtin.«enumerate.__new__» ⟨[.type "enumerate", .ref l], []⟩) (fun _ R s => s.heap.get? l = some { cls := .type "tuple", dict := dct, data := .seq items n, slots := sl } ∧
      R (.ok (.ret (.ref (s.heap.push { cls := .type "tuple_iterator", data := .fields #[.ref l, .int 0 0] }).objs.size)))
        { s with heap := (s.heap.push { cls := .type "tuple_iterator", data := .fields #[.ref l, .int 0 0] }).push { cls := .type "enumerate", data := .fields #[.none, .bool false, .ref s.heap.objs.size, rawInt 0, .none, .none] } }) :=
  .of_wp fun prog w A R s h => by
    obtain ⟨hp, g, d, tk, os⟩ := s
    obtain ⟨hl, h⟩ := h
    have hsub := sub_enumerate
    have hL : Heap.IsTuple (Shared.heap ⟨hp, g, d, tk, os⟩) l items := ⟨_, hl, rfl, n, rfl⟩
    wp_walk using wpAny_loadPart' hl
    refine wpAny_stack_any fun st => wpAny_pure ?_
    split
    · rename_i c _ _ _ _ _
      cases (c == Value.type "enumerate")
      · wp_walk using wpAny_loadPart' hl, wpAny_pyIter_tuple hL
        exact ⟨_, rfl, h⟩
      · wp_walk using wpAny_loadPart' hl, wpAny_pyIter_tuple hL
        exact ⟨_, rfl, h⟩
    · wp_walk using wpAny_loadPart' hl, wpAny_pyIter_tuple hL
      exact ⟨_, rfl, h⟩
section
variable {prog : Program} {w : World} {A : Around} {E : Value → Shared → Prop} {s : Shared}
theorem call_enum_tuple {l : Addr} {items : Array Value} {Q : Value → Shared → Prop} (hL : s.heap.IsTuple l items)
    (h : ∀ h', IsEnum h' (s.heap.objs.size + 1) s.heap.objs.size 0 .none → h'.IsTupleIter s.heap.objs.size l 0 → h'.objs.size = s.heap.objs.size + 2 →
      (∀ b o, s.heap.get? b = some o → h'.get? b = some o) → Q (.ref (s.heap.objs.size + 1)) { s with heap := h' }) :
    wpAny (model prog w) A (call (.type "enumerate") [.ref l]) Q E s := by
  obtain ⟨⟨c, dct, dt, sl⟩, hl, hc, n, hd⟩ := hL
  replace hc : c = .type "tuple" := hc
  replace hd : dt = .seq items n := hd
  subst hc hd
  refine callType_new F.called_enumerate (by decide) (F.typeCall_enumerate_1 _) (F.newCall_enumerate_1 _) (fun obj => F.args_object_init_2 obj _) F.entry_enumerate_new
    (meets_enum_newT l items n dct sl) ⟨hl, ?_⟩
  have hz : (s.heap.push { cls := .type "tuple_iterator", data := .fields #[.ref l, .int 0 0] }).objs.size = s.heap.objs.size + 1 := Heap.size_push ..
  show _ ∧ _
  rw [hz]
  have he : IsEnum ((s.heap.push { cls := .type "tuple_iterator", data := .fields #[.ref l, .int 0 0] }).push
      { cls := .type "enumerate", data := .fields #[.none, .bool false, .ref s.heap.objs.size, rawInt 0, .none, .none] }) (s.heap.objs.size + 1) s.heap.objs.size 0 .none := by
    have := Heap.get?_push_size (s.heap.push { cls := .type "tuple_iterator", data := .fields #[.ref l, .int 0 0] })
      (o := { cls := .type "enumerate", data := .fields #[.none, .bool false, .ref s.heap.objs.size, rawInt 0, .none, .none] }) rfl
    rw [hz] at this
    exact this
  refine ⟨⟨_, he, rfl⟩, h _ he ⟨_, Heap.get?_push_of_some _ (Heap.get?_push_size _ rfl), rfl, rfl⟩ (by rw [Heap.size_push, hz]) fun b o x => Heap.get?_push_of_some _ (Heap.get?_push_of_some _ x)⟩
end
section
variable {prog : Program} {w : World} {A : Around} {E : Value → Shared → Prop} {s : Shared}
theorem enum_endT {e it l : Addr} {i : Nat} {items : Array Value} {old : Value} {Q : Option Value → Shared → Prop} (hh : A.in1.handled = none) (he : IsEnum s.heap e it ((i : Nat) : Int) old) (hit : s.heap.IsTupleIter it l i) (hl : s.heap.IsTuple l items) (hx : items[i]? = none)
    (hQ : ∀ h', Heap.ExtBut it s.heap h' → Q none { s with heap := h' }) : wpAny (model prog w) A (pyNext (.ref e)) Q E s := by
  have hT : s.TypeIs (.ref e) "enumerate" := ⟨_, he, rfl⟩
  unfold pyNext
  refine wpAny_bind (wpAny_attempt (wpAny_callSpecial?_slot (name := Str.ofString "__next__") hT F.slot_enumerate_next
    (wpAny_call_entry F.slot_enumerate_next hT F.entry_enumerate_next ?_ (F.args_enumerate_next_1 _))))
  show wpAny _ _ (field (.ref e) 2 >>= _) _ _ _
  refine wpAny_bind (wpAny_field he rfl (x := .ref it) rfl ?_)
  refine wpAny_bind (RZ.nextOf_tuple_end hh hit hl hx fun h' x he' hx' => ?_)
  obtain ⟨o, ho, hc⟩ := hx'
  refine wpAny_bind (wpAny_isInstance (T := "StopIteration") (b := true) ⟨o, ho, hc⟩ isSubtype_stop ?_)
  exact wpAny_pure (hQ _ he')
end
/-- the tuple at a, each item in a new pair -/
def IteT (K : PySem.W.Frag) (a : Addr) : It :=
  ⟨fun i H => ∃ (xs : List V) (x : V), SqT K H a xs ∧ xs[i]? = some x, fun i H v H' => ∃ T x, v = .ref T ∧ H T = none ∧ H' = upd H T (.tup [.int (i : Nat), x]) ∧ ∀ xs, SqT K H a xs → xs[i]? = some x, fun i H => ∃ xs : List V, SqT K H a xs ∧ xs.length ≤ i⟩
theorem turn_enumT {P : Program} {w : World} {K : PySem.W.Frag} {elts : List Expr} {kk : Nat} {tpos : Pos} (a e it : Addr) (hai : a ≠ it) (hae : a ≠ e) :
    L2.Turn P w K (.Tuple elts kk tpos) (IteT K a) [e, it] e (fun i h => (∃ old, IsEnum h e it ((i : Nat) : Int) old) ∧ h.IsTupleIter it a i ∧ e ≠ it) where
  mem := by simp
  obj := fun i h st b hb => by
    obtain ⟨⟨old, he⟩, ⟨o, ho, hc, hd⟩, _⟩ := st
    have e' : b = e ∨ b = it := by simpa using hb
    rcases e' with z | z
    · rw [z]; exact ⟨_, he, fun v q => nomatch q⟩
    · rw [z]; exact ⟨o, ho, fun v q => by rw [hd] at q; cases q⟩
  keep := fun i h h' st k => let ⟨⟨old, he⟩, hi, hne⟩ := st; ⟨⟨old, k e (by simp) _ he⟩, hi.at fun o q => k it (by simp) o q, hne⟩
  item := by
    intro X hP hw hK hc i pins s σ H E I hf st hg
    subst hP hw hK
    obtain ⟨⟨old, he⟩, hit, hne⟩ := st
    obtain ⟨xs, x, hq, hx⟩ := hg
    obtain ⟨its, rv, p, hz⟩ := I.tuple hq
    obtain ⟨u, hu, ru⟩ := rv.get hx
    have hel : e < s.heap.objs.size := Heap.lt_size he
    have hil : it < s.heap.objs.size := by obtain ⟨_, q, _⟩ := hit; exact Heap.lt_size q
    have hu' : its.toArray[i]? = some u := by simpa using hu
    have hlt : i < its.toArray.size := by
      rcases Nat.lt_or_ge i its.toArray.size with q | q
      · exact q
      · rw [Array.getElem?_eq_none q] at hu'
        cases hu'
    refine wpAny_pyNext_enum_itemD (draws_tuple (A := X.A.in1) (show X.A.in1.handled = none from I.ok.hd hc) it a hai its.toArray) he ⟨hit, p⟩ hlt hne (by simp; exact ⟨hne, Ne.symm hae⟩) fun u' h' tk hu2 ho hit' hT hsz hk => ?_
    rw [hu'] at hu2
    obtain rfl := Option.some.inj hu2
    refine ⟨_, rfl, wpAny_letOwnedTupleGo_enum (s := { s with heap := h', toks := tk + 1 }) ho fun h'' he' sb => ?_⟩
    have hT2 : h''.get? s.heap.objs.size = some { cls := .type "tuple", data := .seq #[.int i tk, u] } := (sb.2 _ (Nat.ne_of_gt hel)).trans hT
    have new : ObjOk X.prog X.w (upd H s.heap.objs.size (.tup [.int (i : Nat), x])) h'' s.heap.objs.size (.tup [.int (i : Nat), x]) :=
      ⟨by show 2 ≤ sizeLine; decide, [.int i tk, u], .cons ⟨_, rfl⟩ (.cons ru .nil), ⟨_, hT2, rfl, _, rfl⟩⟩
    have I1 : Inv X pins σ (upd H s.heap.objs.size (.tup [.int (i : Nat), x])) { s with heap := h'', toks := tk + 1 } :=
      I.turnedNew (ch := [e, it]) (fun b ob hb q => (sb.2 b (fun z => hb (by simp [z]))).trans (hk b ob (fun z => hb (by simp [z])) (fun z => hb (by simp [z])) q)) hf (Nat.le_refl _) new
    refine ⟨.ref s.heap.objs.size, _, I1, rfl, ⟨_, x, rfl, I.hok.fresh (Nat.le_refl _), rfl, fun ys hy => by rw [I.tuple_inj hy hq]; exact hx⟩, ⟨⟨u, ?_⟩, hit'.1.at fun o q => (sb.2 it (Ne.symm hne)).trans q, hne⟩, fun b hb => ?_⟩
    · have e1 : ((i + 1 : Nat) : Int) = (i : Int) + 1 := by omega
      rw [e1]; exact he'
    · have hb' : b < s.heap.objs.size := by
        have e' : b = e ∨ b = it := by simpa using hb
        rcases e' with z | z
        · rw [z]; exact hel
        · rw [z]; exact hil
      rw [upd_ne (Nat.ne_of_lt hb')]
      exact (hf b hb).1
  done := by
    intro X hP hw hK hc i pins s σ H E I hf st hg
    subst hP hw hK
    obtain ⟨⟨old, he⟩, hit, hne⟩ := st
    obtain ⟨xs, hq, hx⟩ := hg
    obtain ⟨its, rv, p, hz⟩ := I.tuple hq
    obtain ⟨f0, f1, f2, f3, f4, f5⟩ := hf it (by simp)
    have hl := rv.length
    exact enum_endT (show X.A.in1.handled = none from I.ok.hd hc) he hit p (by simp; omega) fun h' eb => ⟨rfl, I.turned (t' := s.toks) (fun b o hb q => eb b o hb q) f0 f1 f3 f4 f5⟩
  self := fun A i s Q E st h => let ⟨⟨_, he⟩, _⟩ := st; wpAny_pyIter_enum he h
def iEnumT (K : PySem.W.Frag) (ta : TA) : TI := fun σ H R => ta σ H fun vs H1 => ∃ a xs, vs = [.ref a] ∧ SqT K H1 a xs ∧ R (IteT K a) H1
theorem pi_enumT {X : Cx} {e : Expr} {ta : TA} {p pos tpos : Pos} {elts : List Expr} {kk : Nat} (hg : Gl X "enumerate") (hm : X.mg "enumerate" = none) (ha : PA X [e] ta) (hs : starEach [e] X.env = [(false, eval e X.env)] := by rfl) :
    PI X (.Tuple elts kk tpos) (.Call (.Name "enumerate" p) [e] [] pos) (iEnumT X.K ta) := by
  refine ⟨fun pins s σ H R I h => ?_⟩
  refine Call_ (ld_blt I hg hm boot_enumerate (PyProof.Rows.callWith_type1 (thn (ha.run pos pins s σ H _ I h) fun us s1 ⟨vs, H1, I1, r1, q1⟩ => ?_) hs rfl))
  obtain ⟨a, xs, ex, hq, q⟩ := q1
  subst ex
  cases r1 with
  | cons r rr =>
    cases rr
    cases r
    obtain ⟨its, rv, p', hz⟩ := I1.tuple hq
    have hal : a < s1.heap.objs.size := by
      obtain ⟨_, z, _⟩ := p'
      exact Heap.lt_size z
    refine call_enum_tuple p' fun h' he hit hsz hk => wpAny_pyIter_enum he ?_
    have I2 : Inv X pins σ H1 { s1 with heap := h' } := I1.kept (t' := s1.toks) hk
    refine ⟨s1.heap.objs.size + 1, [s1.heap.objs.size + 1, s1.heap.objs.size], _, _, H1, rfl, I2, turn_enumT a (s1.heap.objs.size + 1) s1.heap.objs.size (Nat.ne_of_lt hal) (Nat.ne_of_lt (Nat.lt_succ_of_lt hal)), ⟨⟨.none, he⟩, hit, Nat.succ_ne_self _⟩, fun b hb => ?_, q⟩
    have e' : b = s1.heap.objs.size + 1 ∨ b = s1.heap.objs.size := by simpa using hb
    have hle : s1.heap.objs.size ≤ b := by
      rcases e' with z | z
      · rw [z]; exact Nat.le_add_right _ _
      · rw [z]; exact Nat.le_refl _
    exact I1.fpOk hle (I1.hok.fresh hle)
section
variable {α : Type} {R : α → PV} {cs : Held} {σ : L2.St} {G : Hp} {tl : TE} {K : PySem.W.Frag}
/-- the number does not matter -/
def AnyI {α : Type} (R : α → PV) : α → PV := fun x v G => ∃ t i y, v = .ref t ∧ G t = some (.tup [.int i, y]) ∧ R x y G
theorem mon_any {α : Type} {R : α → PV} (m : MonR R) : MonR (AnyI R) := fun x v H H' e ⟨t, i, y, h1, h2, h3⟩ => ⟨t, i, y, h1, e _ _ h2, m _ _ _ _ e h3⟩
theorem src_enumT {xs : List α} (m : MonR R) (h : Gv cs tl σ G (TupR R xs)) : Src (iEnumT K (tCons tl tNil)) σ cs cs G xs (AnyI R) := fun H a c Rk k => ga_1 h H a c _ fun vs G1 H1 s1 ul => by
  obtain ⟨v, rfl, l, us, rfl, el, pl⟩ := ul.now
  have at_ : ∀ {Gc Hc : Hp}, Same G1 Gc → Same Gc Hc → SqT K Hc l us := fun e1 e2 => SqT.of (e2 _ _ (e1 _ _ el))
  refine ⟨l, us, rfl, at_ (Same.refl _) s1.gh, k _ G1 H1 s1 (c.on s1.hh) ⟨fun {i x Gc Hc} hx _ e1 e2 => ?_, fun {Gc Hc} _ e1 e2 => ⟨us, at_ e1 e2, by rw [pl.length] <;> exact Nat.le_refl _⟩⟩⟩
  obtain ⟨u, hu, ru⟩ := pr_at' pl hx
  refine ⟨⟨us, u, at_ e1 e2, hu⟩, ?_⟩
  rintro v' H' ⟨T, y, rfl, hT, rfl, h1⟩
  have q1 : y = u := Option.some.inj ((h1 us (at_ e1 e2)).symm.trans hu)
  subst q1
  exact ⟨_, Stp.laid e2 hT, (mon_any m).up ⟨T, _, y, rfl, upd_same, m _ _ _ _ (e1.trans (same_new (e2.free hT))) ru⟩⟩
end
end Crt
end

section
/-! Load.negative; has_no_debts, is_side. -/
set_option autoImplicit false
namespace Crt
open PySem PySem.Spec PyProof.Rows L2
def negF (f : Fn) : Fn := fun k => if f k < 0 then -f k else 0
theorem nf_negative {f : Fn} {U : List Str} (s : Sup f U) : fnOfT (putAll [] (((nf f U).filter fun q => decide (q.2 < 0)).map fun q => (q.1, -q.2))) = negF f ∧ Sup (negF f) U ∧ (putAll [] (((nf f U).filter fun q => decide (q.2 < 0)).map fun q => (q.1, -q.2))).length ≤ U.length := by
  have e : ((nf f U).filter fun q => decide (q.2 < 0)).map (fun q => (q.1, -q.2)) = (((nf f U).map (·.1)).filter fun k => decide (f k < 0)).map fun k => (k, -f k) := by
    rw [nf_keys]
    unfold nf
    rw [List.filter_map, List.map_map, ]
    rfl
  refine ⟨?_, fun k h => ?_, ?_⟩
  · rw [e, fnOfT_putAll (g := fun k => -f k)]
    funext k
    unfold negF
    by_cases h : f k < 0
    · have hm : k ∈ ((nf f U).map (·.1)).filter fun k => decide (f k < 0) := List.mem_filter.mpr ⟨nf_mem.mpr ⟨s k (by omega), by omega⟩, decide_eq_true h⟩
      rw [if_pos hm, if_pos h]
    · have hm : ¬ k ∈ ((nf f U).map (·.1)).filter fun k => decide (f k < 0) := fun q => h (of_decide_eq_true (List.mem_filter.mp q).2)
      rw [if_neg hm, if_neg h]
  · unfold negF at h
    by_cases q : f k < 0
    · exact s k (by omega)
    · rw [if_neg q] at h
      exact absurd rfl h
  · refine Nat.le_trans (putAll_len _ _) ?_
    rw [List.length_map, List.length_nil, Nat.zero_add]
    exact Nat.le_trans (List.length_filter_le _ _) (nf_len f U)
def spNgv (C : Addr) : Sp := SpF (α := Fn × List Str) (fun x vs G => ∃ v, vs = [v] ∧ LdR C x.2 x.1 v G) (fun x => LdR C x.2 (negF x.1))
/-- no debts in it -/
def NoD (f : Fn) : Prop := ∀ k, 0 ≤ f k
def spNoD (C : Addr) : Sp := SpF (α := Fn × List Str) (fun x vs G => ∃ v, vs = [v] ∧ LdR C x.2 x.1 v G ∧ NoD x.1) (fun _ => IsB true)
def Side (f : Fn) : Prop := ∀ k, 0 ≤ f k ∧ f k ≤ 1000000
def spSide (C : Addr) : Sp := SpF (α := Fn × List Str) (fun x vs G => ∃ v, vs = [v] ∧ LdR C x.2 x.1 v G ∧ Side x.1) (fun _ => IsB true)
theorem nf_nil {f : Fn} {U : List Str} (h : ∀ k, f k = 0) : nf f U = [] := by
  unfold nf
  rw [List.filter_eq_nil_iff.mpr fun k _ => by simp [h k]]
  rfl
section
variable {cs : Held} {σ : L2.St} {G : Hp} {ta tc : TE} {C : Addr} {U : List Str} {f : Fn}
theorem gv_isC {φ : PV} (ha : Gv cs ta σ G φ) (hf : ∀ v G, φ v G → ∃ a dx fs, v = .ref a ∧ G a = some (.ins C dx fs)) (hc : Gv cs tc σ G (IsV (.ref C))) : Gv cs (tCB (fun xs H Q => ∃ a dx fs, xs = [.ref a, .ref C] ∧ H a = some (.ins C dx fs) ∧ Q (.bl true) H) (tCons ta (tCons tc tNil))) σ G (IsB true) :=
  gv_cb' (ga_2 ha hc) fun vs G1 H1 s c1 g up => rv_at (v := .bl true) s (up_c rfl) fun Q q => by
    obtain ⟨v, w, rfl, h1, h2⟩ := up.now
    obtain ⟨a, dx, fs, rfl, h3⟩ := hf v G1 h1
    exact ⟨a, dx, fs, by rw [show w = _ from h2], s _ _ h3, q⟩
/-- a property of a load -/
theorem gv_prp {sp : Sp} {α : Type} {pre : α → List V → Hp → Prop} {post : α → PV} {E : XK} (x : α) (hs : sp = SpF pre post) (h : Gv cs ta σ G (LdR C U f)) (k : ∀ v G, LdR C U f v G → pre x [v] G) : Gv cs (tProp C sp [] E ta) σ G (post x) := fun H a c Q q =>
  h H a c _ fun v G1 H1 s1 u1 => by
    obtain ⟨p, dx, d, rfl, hp, _⟩ := u1.now.2.2
    rw [hs]
    exact ⟨p, dx, _, rfl, s1.gh _ _ hp, x, G1, s1.gh, k _ _ u1.now, fun v G2 H2 s2 u2 => q _ _ _ (s1.trans s2) u2⟩
end
section
variable {P : Program} {w : World} {K : PySem.W.Frag} {mg : Str → Option Value} {base : Heap} {C f : Addr}
theorem ok_negative (F : MFn K "negative" "Load.negative" (mem 8) f) (hc : ClsF K C "own_counts") (h5 : CalP P w K mg base 5 "load_of" (spLoadOf C)) : C8.CalAt P w K mg base 6 f (spNgv C) := by
  refine calAt_of (N := ["self", "kind", "count"]) (ps := ["self"]) F (by decide +kernel) ?_ (fun _ _ _ _ _ _ us hl => match us, hl with | [_], _ => rfl) ?_
  · rintro vs H Q E ⟨x, G, _, ⟨v, e, _⟩, _⟩
    rw [e] <;> rfl
  · intro nd cdv A outer s H vs Q E hr h
    have hu := hu_of hr
    refine ⟨_, pss_one (ps_ret (C8.pe_c h5 hr (by decide) rfl (pa_cons (pe_fz (pe_dq (tk := false) (own := [("kind", 1), ("count", 2)]) (g := gTup K 2 (gCons (gName 1) (gCons (gName 2) gNil))) (tt := tTest (tOp (rI0 fun i j => .bl (decide (i < j))) (tVar 2) (tC (.int 0)))) (tv := tUn (rU fun i => .int (-i)) (tVar 2)) rfl hu nd (pi_items (pe_fld (pv 0) rfl))
      (blkOk_by (N := ["self", "kind", "count"]) (sc := C8.fnScope (mem 8)) (by decide +kernel)) (fun _ _ _ _ _ => pg_tup rfl (pgs_cons (pg_name (i := 1) nd rfl (Or.inl rfl)) (pgs_cons (pg_name (i := 2) nd rfl (Or.inl rfl)) pgs_nil))) (fun _ _ _ _ _ => pts_one (pt_cmpR op_lt (pv 2) pe_int (nomark _))) (fun _ _ _ _ _ => pv 1) (fun _ _ _ _ _ => pe_un un_neg (pv 2)))) pa_nil))), ?_⟩
    obtain ⟨⟨g, U⟩, G, eG, ⟨v, rfl, hl⟩, k⟩ := h
    obtain ⟨m1, m2, m3⟩ := nf_negative hl.1
    refine gv_calls (cs := []) (pre := preLO) (putAll [] (((nf g U).filter fun q => decide (q.2 < 0)).map fun p => (p.1, -p.2)), negF g, U) (ga_1 (gv_dq (K := KS) (kf := fun p : Str × Int => p.1) (vf := fun p => -p.2) (p := fun q => decide (q.2 < 0)) mon_I (src_itemsS mon_I (gv_own hc (gv_var rfl (mon_ld.up hl)))) ?_ ?_)) ?_ H eG hold_nil _ k
    · have := nf_len g U
      have := hl.2.1
      dsimp only at *
      omega
    · rintro z ⟨a, b⟩ G1 hp e u
      obtain ⟨t, x, y, rfl, ht, rfl, rfl⟩ := u.now
      exact ⟨_, tg_pair ht, rfl, gt_test (gv_I0 (g := fun i j => .bl (decide (i < j))) (gv_vi rfl) gv_ci), fun _ => ⟨gv_vs rfl, gv_neg (gv_vi rfl)⟩⟩
    · rintro vs G ⟨v, e, h⟩
      have := hl.2.1
      dsimp only at *
      exact ⟨v, e, h, Nat.le_trans m3 (Nat.le_trans hl.2.1 (by decide)), m1, m2, hl.2.1⟩
theorem ok_has_no_debts (F : Dfn K mg "has_no_debts" (top 43)) (mi : mg "isinstance" = none) (hm : mg "Load" = some (.ref C)) (ic : C8.InsC K C) (hn : Prp P w K mg base 6 C "negative" (spNgv C)) (hb : Dun P w K mg base 1 C "__bool__" (spTru C)) : CalP P w K mg base 8 "has_no_debts" (spNoD C) := by
  refine cal_of (N := ["value"]) (ps := ["value"]) F (by decide +kernel) ?_ (fun _ _ _ _ _ _ us hl => match us, hl with | [_], _ => rfl) ?_
  · rintro vs H Q E ⟨x, G, _, ⟨v, e, _⟩, _⟩
    rw [e] <;> rfl
  · intro nd cdv f A outer s H vs Q E hr h
    obtain ⟨fb, b1, b2, b3, b4⟩ := hb
    refine ⟨_, pss_one (ps_ret (pe_and (pe_callB (C8.call_isC ic) rfl mi boot_isinstance (pa_cons (pv 0) (pa_cons (C8.pe_gc (v := .ref C) rfl ⟨_, hm, rfl⟩) pa_nil))) (pe_one (pe_notO (k := 1) b1 b2 b4 (hr.mono (by decide)) (pe_prp hn ic.cl hr (by decide) (pv 0)))))), ?_⟩
    obtain ⟨⟨g, U⟩, G, eG, ⟨v, rfl, hl, hd⟩, k⟩ := h
    have ul := mon_ld.up hl
    refine gv_andV (cs := []) (a := true) (b := true) (gv_isC (gv_var rfl ul) (fun v G h => let ⟨_, _, a, dx, d, e, h, _⟩ := h; ⟨a, dx, _, e, h⟩) (gv_c (up_c rfl))) (fun _ => ?_) H eG hold_nil _ k
    refine gv_isb (gv_notO (f := negF g) (U := U) (gv_prp (α := Fn × List Str) (g, U) rfl (gv_var rfl ul) fun v G h => ⟨v, rfl, h⟩)) ?_
    rw [nf_nil fun k => ?_]
    · rfl
    · unfold negF
      have := hd k
      rw [if_neg (by dsimp only at *; omega)]
theorem ok_is_side (F : Dfn K mg "is_side" (top 44)) (ma : mg "all" = none) (mc : MgV mg "MAX_COUNT" (.int 1000000)) (ic : C8.InsC K C) (h8 : CalP P w K mg base 8 "has_no_debts" (spNoD C)) (hn : Prp P w K mg base 1 C "counts" (spCts C)) : CalP P w K mg base 9 "is_side" (spSide C) := by
  refine cal_of (N := ["value", "count"]) (ps := ["value"]) F (by decide +kernel) ?_ (fun _ _ _ _ _ _ us hl => match us, hl with | [_], _ => rfl) ?_
  · rintro vs H Q E ⟨x, G, _, ⟨v, e, _⟩, _⟩
    rw [e] <;> rfl
  · intro nd cdv f A outer s H vs Q E hr h
    refine ⟨_, pss_one (ps_ret (pe_and (C8.pe_c h8 hr (by decide) rfl (pa_cons (pv 0) pa_nil)) (pe_one (pe_callB (cr_all rfl) rfl ma boot_all (pa_cons (pe_lc (own := [("count", 1)]) (g := gName 1) (tt := tYes) (te := tOp (rI0 fun i j => .bl (decide (i ≤ j))) (tVar 1) (tC (.int 1000000))) rfl nd (pi_values (pe_prp hn ic.cl hr (by decide) (pv 0))) (blkOk_by (N := ["value", "count"]) (sc := C8.fnScope (top 44)) (by decide +kernel)) (fun _ _ _ _ _ => pg_name (i := 1) nd rfl (Or.inl rfl)) (fun _ _ _ _ _ => pts_nil) (fun _ _ _ _ _ => pe_cmpR op_le (pv 1) (C8.pe_gc rfl mc) (nomark _))) pa_nil))))), ?_⟩
    obtain ⟨⟨g, U⟩, G, eG, ⟨v, rfl, hl, hd⟩, k⟩ := h
    have ul := mon_ld.up hl
    refine gv_andV (cs := []) (a := true) (b := true) (gv_callE (α := Fn × List Str) (g, U) (ga_imp (ga_1 (gv_var rfl ul)) fun vs G ⟨v, e, h⟩ => ⟨v, e, h, fun k => (hd k).1⟩) rfl) (fun _ => ?_) H eG hold_nil _ k
    have e1 : (((nf g U).map (·.2)).map fun c => decide (c ≤ 1000000)).all id = true := by
      rw [List.all_map, List.all_eq_true]
      intro c hc
      obtain ⟨⟨a, b⟩, hp, rfl⟩ := List.mem_map.mp hc
      obtain ⟨k', _, q⟩ := List.mem_map.mp hp
      cases q
      simpa using (hd a).2
    rw [← e1]
    have := nf_len g U
    have := hl.2.1
    refine gv_all (gv_map mon_B (src_valsS mon_I (gv_prp (α := Fn × List Str) (g, U) rfl (gv_var rfl ul) fun v G h => ⟨v, rfl, h⟩)) (by rw [List.length_map]; dsimp only at *; omega) ?_)
    rintro z x G1 hx e u
    obtain rfl := u.now
    exact ⟨_, tg_name, rfl, gv_I0 (g := fun i j => .bl (decide (i ≤ j))) (gv_vi rfl) gv_ci⟩
end
end Crt
end

section
/-! kinds_of, sides, vector_of. -/
set_option autoImplicit false
namespace Crt
open PySem PySem.Spec PyProof.Rows L2
abbrev LdU (C : Addr) (U : List Str) : Fn → PV := fun f => LdR C U f
def kindsOf (U : List Str) (fs : List Fn) : List Str := srtS (fs.flatMap fun f => (nf f U).map (·.1))
def spKindsOf (C : Addr) : Sp := SpF (α := List Fn × List Str) (fun x vs G => ∃ v, vs = [v] ∧ LstR (LdU C x.2) x.1 v G ∧ x.1.length ≤ 100) (fun x => TupR IsS (kindsOf x.2 x.1))
def sidesOf (ps : List (Fn × Fn)) : List Fn := ps.flatMap fun p => [p.1, p.2]
abbrev PrL (C : Addr) (U : List Str) : Fn × Fn → PV := PairR (LdU C U) (LdU C U)
def spSides (C : Addr) : Sp := SpF (α := List (Fn × Fn) × List Str) (fun x vs G => ∃ v, vs = [v] ∧ TupR (PrL C x.2) x.1 v G ∧ x.1.length ≤ 50) (fun x => LstR (LdU C x.2) (sidesOf x.1))
def spVec (C : Addr) : Sp := SpF (α := List Str × Fn × List Str) (fun x vs G => ∃ v u, vs = [v, u] ∧ TupR IsS x.1 v G ∧ LdR C x.2.2 x.2.1 u G ∧ x.1.length ≤ 1000) (fun x => Vec (x.1.map x.2.1))
theorem mon_ldU {C : Addr} {U : List Str} : MonR (LdU C U) := mon_ld
theorem mon_prL {C : Addr} {U : List Str} : MonR (PrL C U) := mon_pair mon_ldU mon_ldU
abbrev rTupOf (K : PySem.W.Frag) : List V → Hp → VK → Prop := fun xs H Q => ∃ p ys, xs = [.ref p] ∧ ((SqL K H p ys ∧ ∀ l, H l = none → Q (.ref l) (upd H l (.tup ys))) ∨ (SqT K H p ys ∧ Q (.ref p) H))
section
variable {α : Type} {R : α → PV} {cs : Held} {σ : L2.St} {G : Hp} {ta : TE} {K : PySem.W.Frag} {xs : List α}
/-- tuple(xs) -/
theorem gv_tupleL (m : MonR R) (ha : Gv cs ta σ G (LstR R xs)) : Gv cs (tCB (rTupOf K) (tCons ta tNil)) σ G (TupR R xs) :=
  gv_cb' (ga_1 ha) fun vs G1 H1 s c1 g up => by
    obtain ⟨v, rfl, a, us, rfl, h2, p⟩ := up.now
    exact rv_new s (fun q _ hq => tup_new m p hq) fun Q k => ⟨a, us, rfl, .inl ⟨SqL.of (s _ _ h2), k⟩⟩
theorem pair_tup {p : α × α} {v : V} {G : Hp} (h : PairR R R p v G) : TupR R [p.1, p.2] v G := by
  obtain ⟨t, x, y, rfl, h1, h2, h3⟩ := h
  exact ⟨t, [x, y], rfl, h1, .cons h2 (.cons h3 .nil)⟩
end
section
variable {P : Program} {w : World} {K : PySem.W.Frag} {mg : Str → Option Value} {base : Heap} {C : Addr}
theorem ok_kinds_of (F : Dfn K mg "kinds_of" (top 45)) (mt : mg "tuple" = none) (mo : mg "sorted" = none) (ms : mg "set" = none) (cl : Cls K C) (hn : Prp P w K mg base 1 C "kinds" (spKnd C)) : CalP P w K mg base 3 "kinds_of" (spKindsOf C) := by
  refine cal_of (N := ["loads", "load", "kind"]) (ps := ["loads"]) F (by decide +kernel) ?_ (fun _ _ _ _ _ _ us hl => match us, hl with | [_], _ => rfl) ?_
  · rintro vs H Q E ⟨x, G, _, ⟨v, e, _⟩, _⟩
    rw [e] <;> rfl
  · intro nd cdv f A outer s H vs Q E hr h
    refine ⟨_, pss_one (ps_ret (pe_callTy (r := rTupOf K) call_tuple_of rfl mt boot_tuple (pa_cons (pe_callB (cr_sortS rfl hr.units) rfl mo boot_sorted (pa_cons (pe_callTy (cr_setS rfl) rfl ms boot_set (pa_cons (pe_lc2 (own := [("load", 1), ("kind", 2)]) (vs1 := [2]) (g := gName 1) (tt := tYes) (g1 := gName 2) (tt1 := tYes) (te := tVar 2) (wi1 := iTup K (tProp C (spKnd C) [] C8.E0 (tVar 1))) rfl nd (pi_list (pv 0)) (blkOk_by (N := ["loads", "load", "kind"]) (sc := C8.fnScope (top 45)) (by decide +kernel)) (by decide) (fun _ _ _ _ _ => pg_name (i := 1) nd rfl (Or.inl rfl)) (fun _ _ _ _ _ => pts_nil)
      (fun _ _ _ _ _ => pi_tup (pe_prp hn cl hr (by decide) (pv 1))) (fun _ _ _ _ _ => pg_name (i := 2) nd rfl (Or.inl rfl)) (fun _ _ _ _ _ => pts_nil) (fun _ _ _ _ _ => pv 2)) pa_nil)) pa_nil)) pa_nil))), ?_⟩
    obtain ⟨⟨fs, U⟩, G, eG, ⟨v, rfl, hl, hn⟩, k⟩ := h
    dsimp only at hl hn k
    have hz : ∀ l : List Fn, (∀ f ∈ l, (nf f U).length ≤ 6) → (l.flatMap fun f => ((nf f U).map (·.1)).map fun y => y).length ≤ 6 * l.length := fun l => by
      induction l with
      | nil => exact fun _ => Nat.le_refl _
      | cons f l ih =>
        intro h
        rw [List.flatMap_cons, List.length_append, List.length_map, List.length_map, List.length_cons]
        have := ih fun g hg => h g (List.mem_cons_of_mem _ hg)
        have := h f List.mem_cons_self
        omega
    have hU : ∀ f ∈ fs, (nf f U).length ≤ 6 := fun f hf => by
      obtain ⟨a, vs, _, _, p⟩ := hl
      obtain ⟨i, hi⟩ := List.mem_iff_getElem?.mp hf
      obtain ⟨u, _, hu⟩ := pr_at' p hi
      exact Nat.le_trans (nf_len f U) hu.2.1
    have e : (fs.flatMap fun f => ((nf f U).map (·.1)).map fun y => y) = fs.flatMap fun f => (nf f U).map (·.1) := by
      congr 1
      funext f
      rw [List.map_id']
    have hle := hz fs hU
    have z := gv_lc2 (cs := []) (cs1 := []) (σ := [some v, none, none]) (G := G) (g := gName 1) (g1 := gName 2) (ws := [1, 2]) (ws1 := [2]) (te := tVar 2) (wi := iList K (tVar 0)) (wi1 := iTup K (tProp C (spKnd C) [] C8.E0 (tVar 1))) (S := IsS) (zs := fun f => (nf f U).map (·.1)) (f := fun _ y => y) mon_S (src_list (mon_ldU (C := C) (U := U)) (gv_var rfl ((mon_lst mon_ldU).up hl))) (by omega) ?_
    · rw [e] at z hle
      exact gv_tupleL (cs := []) mon_S (gv_sortS (by omega) (gv_setS (by omega) z)) H eG hold_nil _ k
    · rintro v f G1 hf e u
      refine ⟨_, tg_name, rfl, src_tup mon_S (gv_prp (U := U) (f := f) (α := Fn × List Str) (f, U) rfl (gv_var rfl u) fun v G h => ⟨v, rfl, h⟩), ?_⟩
      rintro u2 y G2 hy e2 uy
      obtain rfl := uy.now
      exact ⟨_, tg_name, rfl, gv_vs rfl⟩
theorem ok_sides (F : Dfn K mg "sides" (top 46)) : CalP P w K mg base 1 "sides" (spSides C) := by
  refine cal_of (N := ["pairs", "pair", "load"]) (ps := ["pairs"]) F (by decide +kernel) ?_ (fun _ _ _ _ _ _ us hl => match us, hl with | [_], _ => rfl) ?_
  · rintro vs H Q E ⟨x, G, _, ⟨v, e, _⟩, _⟩
    rw [e] <;> rfl
  · intro nd cdv f A outer s H vs Q E hr h
    refine ⟨_, pss_one (ps_ret (pe_lc2 (own := [("pair", 1), ("load", 2)]) (vs1 := [2]) (g := gName 1) (tt := tYes) (g1 := gName 2) (tt1 := tYes) (te := tVar 2) (wi1 := iTup K (tVar 1)) rfl nd (pi_tup (pv 0)) (blkOk_by (N := ["pairs", "pair", "load"]) (sc := C8.fnScope (top 46)) (by decide +kernel)) (by decide) (fun _ _ _ _ _ => pg_name (i := 1) nd rfl (Or.inl rfl)) (fun _ _ _ _ _ => pts_nil)
      (fun _ _ _ _ _ => pi_tup (pv 1)) (fun _ _ _ _ _ => pg_name (i := 2) nd rfl (Or.inl rfl)) (fun _ _ _ _ _ => pts_nil) (fun _ _ _ _ _ => pv 2))), ?_⟩
    obtain ⟨⟨ps, U⟩, G, eG, ⟨v, rfl, hl, hn⟩, k⟩ := h
    dsimp only at hl hn k
    have hz : ∀ l : List (Fn × Fn), (l.flatMap fun p => [p.1, p.2].map fun y => y).length = 2 * l.length := fun l => by
      induction l with
      | nil => rfl
      | cons f l ih =>
        rw [List.flatMap_cons, List.length_append, ih, List.length_cons]
        show 2 + 2 * l.length = _
        omega
    have z := gv_lc2 (cs := []) (cs1 := []) (σ := [some v, none, none]) (G := G) (g := gName 1) (g1 := gName 2) (ws := [1, 2]) (ws1 := [2]) (te := tVar 2) (wi := iTup K (tVar 0)) (wi1 := iTup K (tVar 1)) (S := LdU C U) (zs := fun p : Fn × Fn => [p.1, p.2]) (f := fun _ y => y) (mon_ldU (C := C) (U := U)) (src_tup mon_prL (gv_var rfl ((mon_tup mon_prL).up hl))) (by rw [hz]; omega) ?_
    · exact z H eG hold_nil _ k
    · rintro v p G1 hf e u
      refine ⟨_, tg_name, rfl, src_tup mon_ldU (gv_var rfl (u.imp fun _ h => pair_tup h)), ?_⟩
      rintro u2 y G2 hy e2 uy
      exact ⟨_, tg_name, rfl, gv_var rfl uy⟩
theorem ok_vector_of (F : Dfn K mg "vector_of" (top 47)) (hg : Dun P w K mg base 1 C "__getitem__" (spGet C)) : CalP P w K mg base 3 "vector_of" (spVec C) := by
  refine cal_of (N := ["kinds", "load", "kind"]) (ps := ["kinds", "load"]) F (by decide +kernel) ?_ (fun _ _ _ _ _ _ us hl => match us, hl with | [_, _], _ => rfl) ?_
  · rintro vs H Q E ⟨x, G, _, ⟨v, u, e, _⟩, _⟩
    rw [e] <;> rfl
  · intro nd cdv f A outer s H vs Q E hr h
    obtain ⟨fg, g1, g2, g3, g4⟩ := hg
    refine ⟨_, pss_one (ps_ret (pe_lc (own := [("kind", 2)]) (g := gName 2) (tt := tYes) (te := tOp (rOwnG C (spGet C)) (tVar 1) (tVar 2)) rfl nd (pi_tup (pv 0)) (blkOk_by (N := ["kinds", "load", "kind"]) (sc := C8.fnScope (top 47)) (by decide +kernel)) (fun _ _ _ _ _ => pg_name (i := 2) nd rfl (Or.inl rfl)) (fun _ _ _ _ _ => pts_nil) (fun _ _ _ _ _ => pe_ownG (k := 1) g1 g2 g3 g4 (hr.mono (by decide)) (pv 1) (pv 2)))), ?_⟩
    obtain ⟨⟨ks, g, U⟩, G, eG, ⟨v, u, rfl, hk, hl, hn⟩, k⟩ := h
    refine gv_map (cs := []) (f := g) mon_I (src_tup mon_S (gv_var rfl ((mon_tup mon_S).up hk))) (by dsimp only at *; omega) ?_ H eG hold_nil _ k
    rintro z x G1 hx e uz
    obtain rfl := uz.now
    exact ⟨_, tg_name, rfl, gv_ownG (gv_var rfl ((mon_ld.up hl).on e)) (gv_vs rfl)⟩
end
end Crt
end

section
/-! checked_pairs. -/
set_option autoImplicit false
namespace Crt
open PySem PySem.Spec PyProof.Rows L2
def spChk (C : Addr) : Sp := SpF (α := List (Fn × Fn) × List Str) (fun x vs G => ∃ v, vs = [v] ∧ TupR (PrL C x.2) x.1 v G ∧ x.1.length ≤ 8 ∧ (∀ p ∈ x.1, Side p.1 ∧ Side p.2) ∧ x.2.length ≤ 6) (fun x => TupR (PrL C x.2) x.1)
theorem kindsOf_sub {U : List Str} {fs : List Fn} {k : Str} (h : k ∈ kindsOf U fs) : k ∈ U := by
  obtain ⟨f, _, hk⟩ := List.mem_flatMap.mp (srtS_mem.mp h)
  exact (nf_mem.mp hk).1
theorem kindsOf_len (U : List Str) (fs : List Fn) : (kindsOf U fs).length ≤ U.length := nodup_le (ascS_nodup (srtS_asc _)) fun _ h => kindsOf_sub h
theorem sidesOf_len : ∀ ps : List (Fn × Fn), (sidesOf ps).length = 2 * ps.length
  | [] => rfl
  | p :: ps => by
    show ([p.1, p.2] ++ sidesOf ps).length = _
    rw [List.length_append, sidesOf_len ps]
    show 2 + 2 * ps.length = 2 * (ps.length + 1)
    omega
section
variable {P : Program} {w : World} {K : PySem.W.Frag} {mg : Str → Option Value} {base : Heap} {C Ub : Addr}
theorem ok_checked_pairs (F : Dfn K mg "checked_pairs" (top 51)) (mi : mg "isinstance" = none) (ml : mg "len" = none) (ma : mg "all" = none) (me : mg "enumerate" = none) (mt : mg "tuple" = none) (hub : mg "Unbounded" = some (.ref Ub)) (kub : PySem.W.kitOne K (.type "tuple") (.ref Ub) = some false)
    (m8 : MgV mg "MAX_PAIRS" (.int 8)) (m6 : MgV mg "MAX_KINDS" (.int 6)) (h9 : CalP P w K mg base 9 "is_side" (spSide C)) (h3 : CalP P w K mg base 3 "kinds_of" (spKindsOf C)) (h1 : CalP P w K mg base 1 "sides" (spSides C)) : CalP P w K mg base 10 "checked_pairs" (spChk C) := by
  refine cal_of (N := ["pairs", "index", "pair", "side"]) (ps := ["pairs"]) F (by decide +kernel) ?_ (fun _ _ _ _ _ _ us hl => match us, hl with | [_], _ => rfl) ?_
  · rintro vs H Q E ⟨x, G, _, ⟨v, e, _⟩, _⟩
    rw [e] <;> rfl
  · intro nd cdv f A outer s H vs Q E hr h
    refine ⟨_, pss_cons (ps_if (PW.pt (pw_and (pt_cmpR op_eq (pe_callB call_len_seq rfl ml boot_len (pa_cons (pv 0) pa_nil)) pe_int (nomark _)) (pw_and1 (pt_val (pe_callB call_isi rfl mi boot_isinstance (pa_cons (pe_ix ix_tup (pv 0) pe_int (fun _ _ => rfl)) (pa_cons (C8.pe_gc (v := .ref Ub) rfl ⟨_, hub, rfl⟩) pa_nil))))))) (pss_one ps_never) pss_nil)
      (pss_cons (ps_for PassesOwn.never rfl (pi_enumT rfl me (pa_cons (pv 0) pa_nil)) (pg_tup rfl (pgs_cons (pg_name (i := 1) nd rfl (Or.inl rfl)) (pgs_cons (pg_name (i := 2) nd rfl (Or.inl rfl)) pgs_nil)))
        (pss_one (ps_if (PW.pt (pw_or (pt_not (pt_val (pe_callB call_isi rfl mi boot_isinstance (pa_cons (pv 2) (pa_cons (pe_bltn (v := .ty "tuple") rfl mt boot_tuple rfl) pa_nil))))) (pw_or (pt_cmpR op_ne (pe_callB call_len_seq rfl ml boot_len (pa_cons (pv 2) pa_nil)) pe_int (nomark _)) (pw_or1 (pt_not (pt_val (pe_callB (cr_all rfl) rfl ma boot_all (pa_cons (pe_lc (own := [("side", 3)]) (g := gName 3) (tt := tYes) (te := tCall (spSide C) [] C8.E0 (tCons (tVar 3) tNil)) rfl nd (pi_tup (pv 2)) (blkOk_by (N := ["pairs", "index", "pair", "side"]) (sc := C8.fnScope (top 51)) (by decide +kernel)) (fun _ _ _ _ _ => pg_name (i := 3) nd rfl (Or.inl rfl)) (fun _ _ _ _ _ => pts_nil) (fun _ _ _ _ _ => C8.pe_c h9 hr (by decide) rfl (pa_cons (pv 3) pa_nil))) pa_nil)))))))) (pss_one ps_never) pss_nil)))
      (pss_cons (ps_if (pt_cmpR op_gt (pe_callB call_len_seq rfl ml boot_len (pa_cons (pv 0) pa_nil)) (C8.pe_gc rfl m8) (nomark _)) (pss_one ps_never) pss_nil)
      (pss_cons (ps_if (pt_cmpR op_gt (pe_callB call_len_seq rfl ml boot_len (pa_cons (C8.pe_c h3 hr (by decide) rfl (pa_cons (C8.pe_c h1 hr (by decide) rfl (pa_cons (pv 0) pa_nil)) pa_nil)) pa_nil)) (C8.pe_gc rfl m6) (nomark _)) (pss_one ps_never) pss_nil)
      (pss_one (ps_ret (pv 0)))))), ?_⟩
    obtain ⟨⟨ps, U⟩, G, eG, ⟨v, rfl, hl, hn, hs, hU⟩, k⟩ := h
    dsimp only at hl hn hs hU k
    have ul := (mon_tup mon_prL).up hl
    have tyT : ∀ x G1 H1, Same G1 H1 → (∃ a xs, x = .ref a ∧ G1 a = some (.tup xs)) → TyX K H1 x (.type "tuple") := fun x G1 H1 s1 ⟨a, xs, e, h⟩ => by
      rw [e]
      exact .base (.tup (s1 _ _ h))
    have lenP : ∀ {p : Fn × Fn} {x : V} {G1 : Hp}, Up (PrL C U p x) G1 → Gv [] (tVar 2) [some v, none, some x, none] G1 (TupR (LdU C U) [p.1, p.2]) := fun u => gv_var rfl (u.imp fun _ h => pair_tup h)
    refine seq_go (if_gv (cs := []) (b := decide ((ps.length : Int) = 1) && false) (gt_and (gt_test (gv_eqI (gv_lenT (gv_var rfl ul)) gv_ci)) fun h1 => gt_B (gv_isi (φ := fun x G1 => ∃ a xs, x = .ref a ∧ G1 a = some (.tup xs)) ?_ (gv_c (v := .ref Ub) (up_c rfl)) (.own Ub) tyT kub)) eG hold_nil fun G1 H1 s1 => ?_)
    · have e1 : (ps.length : Int) = 1 := of_decide_eq_true h1
      have hp : ps[0]? = some ps[0] := List.getElem?_eq_getElem (by omega)
      exact (gv_ixT (i := 0) mon_prL (gv_var rfl ul) gv_ci hp).imp fun v G ⟨t, x, y, e, h, _⟩ => ⟨t, _, e, h⟩
    rw [if_neg (by simp)]
    refine nx_go (seq_go (for_gv (cs := []) (src_enumT mon_prL (gv_var rfl (ul.on s1.gg))) s1.gh hold_nil (fun i σ Gc _ => ∃ o1 o2, σ = [some v, o1, o2, none]) (fun _ _ _ => ⟨none, none, rfl⟩) ?_ ?_))
    · rintro G2 H2 s2 i p u σ2 Gc Hc G3 H3 hi sc ⟨o1, o2, rfl⟩ s3 hu
      obtain ⟨t, n, y, rfl, ht, hy⟩ := hu.now
      have uy : Up (PrL C U p y) G3 := mon_prL.up hy
      refine tg_pair ht H3 s3.gh _ ?_
      have hm := hs p (List.mem_of_getElem? hi)
      refine if_gv (cs := []) (b := false || (false || false)) (gt_or (a := false) (gt_not (b := true) (gt_B (gv_isi (φ := fun x G1 => ∃ a xs, x = .ref a ∧ G1 a = some (.tup xs)) (gv_var rfl (uy.imp fun _ ⟨t, x, y, e, h, _⟩ => ⟨t, _, e, h⟩)) (gv_c (up_c rfl)) (.ty "tuple") tyT (kit_ty (by decide +kernel))))) fun _ => gt_or (a := false) (gt_test (gv_isb (gv_neI (i := (([p.1, p.2] : List Fn).length : Int)) (gv_lenT (gv_var rfl (uy.imp fun _ h => pair_tup h))) gv_ci) (by rfl))) fun _ => gt_not (b := true) (gt_B ?_)) s3.gh hold_nil fun G4 H4 s4 => ?_
      · have e1 : (([p.1, p.2] : List Fn).map fun _ => true).all id = true := rfl
        rw [← e1]
        refine gv_all (gv_map mon_B (src_tup mon_ldU (gv_var rfl (uy.imp fun _ h => pair_tup h))) (by show 2 ≤ 100000; decide) ?_)
        rintro z f1 G4 hf e u4
        refine ⟨_, tg_name, rfl, gv_callE (α := Fn × List Str) (f1, U) (ga_imp (ga_1 (gv_var rfl u4)) fun vs G ⟨v, e, h⟩ => ⟨v, e, h, ?_⟩) rfl⟩
        rcases List.mem_cons.mp hf with q | q
        · rw [q]
          exact hm.1
        · rw [List.mem_singleton.mp q]
          exact hm.2
      · rw [if_neg (by decide)]
        exact ⟨G4, sc.trans (s3.trans s4), _, _, rfl⟩
    · rintro σ2 Gc Hc sc ⟨o1, o2, rfl⟩
      have s1c := s1.trans sc
      have uc := ul.on s1c.gg
      refine seq_go (if_gv (cs := []) (b := decide ((8 : Int) < ps.length)) (gt_test (gv_I0 (g := fun i j => .bl (decide (j < i))) (gv_lenT (gv_var rfl uc)) gv_ci)) sc.gh hold_nil fun G2 H2 s2 => ?_)
      have e8 : ¬ (decide ((8 : Int) < ps.length)) = true := by
        intro q
        have := of_decide_eq_true q
        omega
      rw [if_neg e8]
      refine nx_go (seq_go (if_gv (cs := []) (b := decide ((6 : Int) < (kindsOf U (sidesOf ps)).length)) (gt_test (gv_I0 (g := fun i j => .bl (decide (j < i))) (gv_lenT (R := IsS) (xs := kindsOf U (sidesOf ps)) (gv_callE (α := List Fn × List Str) (sidesOf ps, U) (ga_imp (ga_1 (gv_callE (φ := LstR (LdU C U) (sidesOf ps)) (α := List (Fn × Fn) × List Str) (ps, U) (ga_imp (ga_1 (gv_var rfl (uc.on s2.gg))) fun vs G ⟨v, e, h⟩ => ⟨v, e, h, by dsimp only; omega⟩) rfl)) fun vs G ⟨v, e, h⟩ => ⟨v, e, h, by dsimp only; rw [sidesOf_len]; omega⟩) rfl)) gv_ci)) s2.gh hold_nil fun G3 H3 s3 => ?_))
      have := kindsOf_len U (sidesOf ps)
      have e3 : ¬ (decide ((6 : Int) < (kindsOf U (sidesOf ps)).length)) = true := by
        intro q
        have := of_decide_eq_true q
        omega
      rw [if_neg e3]
      exact nx_go ⟨v, rfl, k v G3 H3 (s1c.trans (s2.trans s3)) (uc.on (s2.gg.trans s3.gg))⟩
end
end Crt
end

section
/-! Exchanges are made: what __init__ does. -/
set_option autoImplicit false
namespace Crt
open PySem PySem.Spec PyProof.Rows L2
section
variable {C : Addr} {U : List Str} {f g : Fn} {cs : Held} {σ : L2.St} {G : Hp} {ta tb : TE}
theorem gv_ownB {o : Int → Int → Int} (ha : Gv cs ta σ G (LdR C U f)) (hb : Gv cs tb σ G (LdR C U g)) : Gv cs (tOp (rOwnB C (spAdd C o)) ta tb) σ G (LdR C U fun k => o (f k) (g k)) :=
  gv_op ha hb fun x y G1 H1 s _ _ ux uy => fun Q q => by
    obtain ⟨a, dx, d, rfl, h1, _⟩ := ux.now.2.2
    obtain ⟨b, dy, e, rfl, h2, _⟩ := uy.now.2.2
    exact ⟨a, b, dx, dy, _, _, rfl, rfl, s _ _ h1, s _ _ h2, (f, g, U), G1, s, ⟨.ref a, .ref b, rfl, ux.now, uy.now⟩, q⟩
theorem gv_ix0 {α β : Type} {R : α → PV} {S : β → PV} {K : PySem.W.Frag} {p : α × β} (m : MonR R) (ha : Gv cs ta σ G (PairR R S p)) : Gv cs (tOp (rIxT K) ta (tC (.int 0))) σ G (R p.1) :=
  gv_op ha (gv_ci (n := 0)) fun v w G1 H1 s _ _ ux uy => by
    obtain ⟨t, x, y, rfl, h2, h3, h4⟩ := ux.now
    exact rv_at (v := x) s (m.up h3) fun Q q => ⟨t, [x, y], 0, x, rfl, uy.now, SqT.of (s _ _ h2), rfl, q⟩
end
section
variable {K : PySem.W.Frag} {E a dx : Addr} {fs : List (Str × V)} {σ : L2.St} {G0 H0 G Gc Hc : Hp} {tv : TE} {φ : PV} {D : Ends} {nm : Str}
/-- self.f = e, self not done yet -/
theorem fld_gv (hc : ClsF K E nm) (hv : Gv [(a, .ins E dx fs)] tv σ Gc φ) (I : AcI G0 H0 a (.ins E dx fs) Gc Hc) (hD : H0 a = none) (h0 : σ[0]? = some (some (.ref a))) (hl : fs.length < 1000)
    (k : ∀ y G1 H1, Same Gc G1 → Up (φ y) G1 → AcI G0 H0 a (.ins E dx (putF nm y fs)) G1 H1 → D.nx σ H1) : sFld K (tVar 0) tv nm D σ Hc :=
  hv Hc I.gh (hold_one I.at_) _ fun y G1 H1 s u => by
    have I1 := I.step s (fun xs z => nomatch z)
    exact ⟨.ref a, h0, a, E, dx, fs, rfl, I1.at_, hc.cls, hc.na, hl, k y G1 _ s.gg u (I1.set hD _)⟩
/-- self.f, self not done yet -/
theorem gv_fldH {u : V} (hc : ClsF K E nm) (h0 : σ[0]? = some (some (.ref a))) (hl : fs.lookup nm = some u) (up : Up (φ u) G) : Gv [(a, .ins E dx fs)] (tFld K (tVar 0) nm) σ G φ := fun H e c Q q =>
  ⟨.ref a, h0, a, E, dx, fs, u, rfl, c.hd, hc.cls, hc.na, hl, q u G H (Stp.refl e) up⟩
end
theorem len_lt {α : Type} {l : List α} {n : Nat} (h : l.length = n) (k : n < 1000) : l.length < 1000 := by rw [h]; exact k
theorem TriRel.len {w : Nat} {rows : List (List Int)} : ∀ {n : Nat} {b r : List (List Int)}, TriRel w rows n b r → b.length ≤ n
  | 0, b, r, h => by rw [h.1]; exact Nat.le_refl _
  | n + 1, b, r, ⟨b', r', piv, h, c, e⟩ => by
    rw [e]
    exact Nat.le_trans addP_len (Nat.succ_le_succ h.len)
/-- rules that are made: their kinds, their basis -/
def ExR (E : Addr) : List Str × List (List Int) → PV := fun x v G => ∃ a dx v1 v2 v3 v4 v5, v = .ref a ∧ G a = some (.ins E dx [("own_pairs", v1), ("own_kinds", v2), ("rows", v3), ("own_basis", v4), ("pivots", v5)]) ∧ TupR IsS x.1 v2 G ∧ LstR Vec x.2 v4 G
theorem mon_ex {E : Addr} : MonR (ExR E) := fun x v H H' e ⟨a, dx, v1, v2, v3, v4, v5, h1, h2, h3, h4⟩ => ⟨a, dx, v1, v2, v3, v4, v5, h1, e _ _ h2, mon_tup mon_S _ _ _ _ e h3, mon_lst mon_vec _ _ _ _ e h4⟩
def rowsOf (ks : List Str) (ps : List (Fn × Fn)) : List (List Int) := ps.map fun p => ks.map fun k => p.1 k - p.2 k
/-- what the pairs must be that rules are made -/
def MkOk (ps : List (Fn × Fn)) (U : List Str) (b rest : List (List Int)) : Prop :=
  ps.length ≤ 8 ∧ (∀ p ∈ ps, Side p.1 ∧ Side p.2) ∧ U.length ≤ 6 ∧ TriOk (kindsOf U (sidesOf ps)).length (rowsOf (kindsOf U (sidesOf ps)) ps) b rest ∧ ∀ r ∈ redAll b, r.length = (kindsOf U (sidesOf ps)).length
def spIniE (C E : Addr) : Sp := fun vs H Q _ => ∃ (a dx : Addr) (rest : List V) (ps : List (Fn × Fn)) (U : List Str) (b br : List (List Int)) (G0 H0 : Hp), vs = .ref a :: rest ∧ H0 a = none ∧ AcI G0 H0 a (.ins E dx []) G0 H ∧ Paired (fun u p => PrL C U p u G0) rest ps ∧ MkOk ps U b br ∧
  ∀ G' H' v1 v2 v3 v4 v5, AcI G0 H0 a (.ins E dx [("own_pairs", v1), ("own_kinds", v2), ("rows", v3), ("own_basis", v4), ("pivots", v5)]) G' H' → TupR IsS (kindsOf U (sidesOf ps)) v2 G' → LstR Vec (redAll b) v4 G' → Q .non H'
def spIniEB (C E : Addr) : Sp := fun vs H Q _ => ∃ (a dx p : Addr) (ps : List (Fn × Fn)) (U : List Str) (b br : List (List Int)) (G0 Gc H0 : Hp), vs = [.ref a, .ref p] ∧ H0 a = none ∧ AcI G0 H0 a (.ins E dx []) Gc H ∧ TupR (PrL C U) ps (.ref p) Gc ∧ MkOk ps U b br ∧
  ∀ G' H' v1 v2 v3 v4 v5, AcI G0 H0 a (.ins E dx [("own_pairs", v1), ("own_kinds", v2), ("rows", v3), ("own_basis", v4), ("pivots", v5)]) G' H' → TupR IsS (kindsOf U (sidesOf ps)) v2 G' → LstR Vec (redAll b) v4 G' → Q .non H'
/-- what a class needs that its fields are read and written -/
structure ClsE (K : PySem.W.Frag) (E : Addr) : Prop where
  f1 : ClsF K E "own_pairs"
  f2 : ClsF K E "own_kinds"
  f3 : ClsF K E "rows"
  f4 : ClsF K E "own_basis"
  f5 : ClsF K E "pivots"
section
variable {P : Program} {w : World} {K : PySem.W.Frag} {mg : Str → Option Value} {base : Heap} {C E f : Addr}
theorem fnr_initE (F : MFn K "__init__" "Exchanges.__init__" (memE 0) f) (hc : ClsE K E) (ml : mg "len" = none) (h10 : CalP P w K mg base 10 "checked_pairs" (spChk C)) (h3 : CalP P w K mg base 3 "kinds_of" (spKindsOf C)) (h1 : CalP P w K mg base 1 "sides" (spSides C)) (hv : CalP P w K mg base 3 "vector_of" (spVec C))
    (ht : CalP P w K mg base 3 "triangular" spTri) (hp : CalP P w K mg base 1 "first_place" spFirst) {fs : Addr} (sf : PySem.W.selfFirst K C = true) (hs : PySem.W.findIn K (.ref C) "__sub__" = some (some (.ref fs))) (hfn : PySem.W.isFn K (.ref fs) = true) (h6 : C8.CalAt P w K mg base 6 fs (spAdd C (· - ·))) : StX.CXUp C8.CX0 → FnR P w K mg base C8.CX0 11 f (spIniE C E) := by
  intro up
  obtain ⟨fd, ⟨oc, od, dV, kV, doc, pm, an, cdv, ct, osl, rfl, lk, hcd⟩, df, _, _, _⟩ := F
  have e : dV = .none := df
  subst e
  have S : FnScope ["self", "pairs", "left", "right", "row"] (([("self" : Str)] : List Str) ++ [("pairs" : Str)]) (C8.fnScope (memE 0)) := C8.fnScope_by (by decide +kernel)
  refine FnR.imp (StX.fn_star (k := 10) (ps := ["self"]) (pv := "pairs") (sp := spIniEB C E) lk hcd S up (fun us rest hl => match us, rest, hl with | [_], [], _ => rfl | [_], _ :: _, _ => rfl) ?_) ?_
  · intro A outer s H vs Q E' hr h
    have nd := S.nd
    refine ⟨_, PSs.nox (pss_cons (ps_fld (pv 0) (C8.pe_c h10 hr (by decide) rfl (pa_cons (pv 1) pa_nil)) rfl)
      (pss_cons (ps_fld (pv 0) (C8.pe_c h3 hr (by decide) rfl (pa_cons (C8.pe_c h1 hr (by decide) rfl (pa_cons (pe_fld (pv 0) rfl) pa_nil)) pa_nil)) rfl)
      (pss_cons (ps_fld (pv 0) (pe_lc (own := [("left", 2), ("right", 3)]) (g := gTup K 2 (gCons (gName 2) (gCons (gName 3) gNil))) (tt := tYes) (te := tCall (spVec C) [] C8.E0 (tCons (tFld K (tVar 0) "own_kinds") (tCons (tOp (rOwnB C (spAdd C (· - ·))) (tVar 2) (tVar 3)) tNil))) rfl nd (pi_tup (pe_fld (pv 0) rfl)) (blkOk_by (N := ["self", "pairs", "left", "right", "row"]) (sc := C8.fnScope (memE 0)) (by decide +kernel)) (fun _ _ _ _ _ => pg_tup rfl (pgs_cons (pg_name (i := 2) nd rfl (Or.inl rfl)) (pgs_cons (pg_name (i := 3) nd rfl (Or.inl rfl)) pgs_nil))) (fun _ _ _ _ _ => pts_nil)
          (fun _ _ _ _ _ => C8.pe_c hv hr (by decide) rfl (pa_cons (pe_fld (pv 0) rfl) (pa_cons (pe_op (op_ownB (C := C) (f := fs) (k := 6) sf hs hfn h6 (hr.mono (by decide))) (pv 2) (pv 3)) pa_nil)))) rfl)
      (pss_cons (ps_fld (pv 0) (pe_ix ix_tup (C8.pe_c ht hr (by decide) rfl (pa_cons (pe_fld (pv 0) rfl) (pa_cons (pe_callB call_len_seq rfl ml boot_len (pa_cons (pe_fld (pv 0) rfl) pa_nil)) pa_nil))) pe_int (fun _ _ => rfl)) rfl)
      (pss_one (ps_fld (pv 0) (pe_lc (own := [("row", 4)]) (g := gName 4) (tt := tYes) (te := tCall spFirst [] C8.E0 (tCons (tVar 4) (tCons (tCB (fun xs H Q => ∃ p ys, xs = [.ref p] ∧ (SqL K H p ys ∨ SqT K H p ys) ∧ Q (.int ys.length) H) (tCons (tFld K (tVar 0) "own_kinds") tNil)) tNil))) rfl nd (pi_list (pe_fld (pv 0) rfl)) (blkOk_by (N := ["self", "pairs", "left", "right", "row"]) (sc := C8.fnScope (memE 0)) (by decide +kernel)) (fun _ _ _ _ _ => pg_name (i := 4) nd rfl (Or.inl rfl)) (fun _ _ _ _ _ => pts_nil)
          (fun _ _ _ _ _ => C8.pe_c hp hr (by decide) rfl (pa_cons (pv 4) (pa_cons (pe_callB call_len_seq rfl ml boot_len (pa_cons (pe_fld (pv 0) rfl) pa_nil)) pa_nil)))) rfl)))))), ?_⟩
    obtain ⟨a, dx, p, ps, U, b, br, G0, Gc, H0, rfl, hD, I0, hl, ⟨hn, hsd, hU, tri, hw⟩, k⟩ := h
    have ul := (mon_tup mon_prL).up hl
    refine seq_go (fld_gv hc.f1 (φ := TupR (PrL C U) ps) (gv_callE (α := List (Fn × Fn) × List Str) (ps, U) (ga_imp (ga_1 (gv_var rfl ul)) fun vs G ⟨v, e, h⟩ => ⟨v, e, h, hn, hsd, hU⟩) rfl) I0 hD rfl (by decide) fun v1 G1 H1 e1 u1 I1 => ?_)
    refine seq_go (fld_gv hc.f2 (φ := TupR IsS (kindsOf U (sidesOf ps))) (gv_callE (α := List Fn × List Str) (sidesOf ps, U) (ga_imp (ga_1 (gv_callE (φ := LstR (LdU C U) (sidesOf ps)) (α := List (Fn × Fn) × List Str) (ps, U) (ga_imp (ga_1 (gv_fldH hc.f1 rfl rfl u1)) fun vs G ⟨v, e, h⟩ => ⟨v, e, h, by dsimp only; omega⟩) rfl)) fun vs G ⟨v, e, h⟩ => ⟨v, e, h, by dsimp only; rw [sidesOf_len]; omega⟩) rfl) I1 hD rfl (len_lt (n := 1) rfl (by decide)) fun v2 G2 H2 e2 u2 I2 => ?_)
    have hkl := kindsOf_len U (sidesOf ps)
    refine seq_go (fld_gv hc.f3 (φ := LstR Vec (rowsOf (kindsOf U (sidesOf ps)) ps)) (gv_map (f := fun p : Fn × Fn => (kindsOf U (sidesOf ps)).map fun k => p.1 k - p.2 k) mon_vec (src_tup mon_prL (gv_fldH hc.f1 rfl rfl (u1.on e2))) (by omega) ?_) I2 hD rfl (len_lt (n := 2) rfl (by decide)) fun v3 G3 H3 e3 u3 I3 => ?_)
    · rintro z q G3 hq e u
      obtain ⟨t, x, y, rfl, ht, hx, hy⟩ := u.now
      exact ⟨_, tg_pair ht, rfl, gv_callE (α := List Str × Fn × List Str) (kindsOf U (sidesOf ps), (fun k => q.1 k - q.2 k), U) (ga_imp (ga_2 (gv_fldH hc.f2 rfl rfl (u2.on e)) (gv_ownB (o := (· - ·)) (gv_var rfl (mon_ld.up hx)) (gv_var rfl (mon_ld.up hy)))) fun vs G ⟨v, w, e, h1, h2⟩ => ⟨v, w, e, h1, h2, by dsimp only; omega⟩) rfl⟩
    refine seq_go (fld_gv hc.f4 (φ := LstR Vec (redAll b)) (gv_ix0 (p := (redAll b, br)) (S := LstR Vec) (mon_lst mon_vec) (gv_callE (α := List (List Int) × Nat × List (List Int) × List (List Int)) (rowsOf (kindsOf U (sidesOf ps)) ps, (kindsOf U (sidesOf ps)).length, b, br) (ga_imp (ga_2 (gv_fldH hc.f3 rfl rfl u3) (gv_lenT (gv_fldH hc.f2 rfl rfl (u2.on e3)))) fun vs G ⟨v, w, e, h1, h2⟩ => ⟨v, by rw [e, show w = _ from h2], h1, tri⟩) rfl)) I3 hD rfl (len_lt (n := 3) rfl (by decide)) fun v4 G4 H4 e4 u4 I4 => ?_)
    have hrl : (redAll b).length ≤ 100000 := by
      unfold redAll
      rw [foldA_len, List.length_nil]
      have := tri.1.len
      have := tri.2.2.1
      omega
    refine fld_gv hc.f5 (φ := LstR (fun o => IsV (optV o)) ((redAll b).map fstNz)) (gv_map (f := fstNz) (fun _ _ _ _ _ h => h) (src_list mon_vec (gv_fldH hc.f4 rfl rfl u4)) hrl ?_) I4 hD rfl (len_lt (n := 4) rfl (by decide)) fun v5 G5 H5 e5 u5 I5 => ?_
    · rintro z r G5 hr e u
      refine ⟨_, tg_name, rfl, gv_callE (α := List Int) r (ga_imp (ga_2 (gv_var rfl u) (gv_lenT (gv_fldH hc.f2 rfl rfl (u2.on (e3.trans (e4.trans e)))))) fun vs G ⟨v, w, e, h1, h2⟩ => ⟨v, by rw [e, show w = _ from h2, hw r hr], h1, by rw [hw r hr]; omega⟩) rfl⟩
    · exact k G5 H5 v1 v2 v3 v4 v5 I5 (mon_tup mon_S _ _ _ _ (e3.trans (e4.trans e5)) u2.now) (mon_lst mon_vec _ _ _ _ e5 u4.now)
  · rintro vs H Q E' ⟨a, dx, rest, ps, U, b, br, G0, H0, rfl, hD, I, pr, ok, k⟩
    have hrl : rest.length = ps.length := pr.length
    refine ⟨[.ref a], rest, rfl, rfl, ?_, fun p hp => ⟨a, dx, p, ps, U, b, br, G0, upd G0 p (.tup rest), H0, rfl, hD, I.step (Stp.laid I.gh hp) (fun xs z => nomatch z), ?_, ok, k⟩⟩
    · rw [hrl]
      exact Nat.le_trans ok.1 (by decide)
    · exact (tup_new mon_prL pr (I.gh.free hp)).now
end
end Crt
end

section
/-! {**a, **b}. -/
set_option autoImplicit false
namespace Crt
open PySem PySem.Spec PyProof.Rows L2
section
variable {prog : Program} {w : World} {K : Type} [DecidableEq K] {knd : KeyKind prog w K} {A : Around} {E : Value → Shared → Prop} {s : Shared}
theorem dictPut_pairs {d : Addr} {kvs : List (K × Value)} {k : K} {key v : Value} {Q : Unit → Shared → Prop} (hkey : knd.is k key = true) (hm : s.heap.DictOf knd d kvs)
    (hQ : ∀ h', h'.DictOf knd d (stored kvs k v) → Heap.SameBut d s.heap h' → Q () { s with heap := h' })
    (hsz : kvs.length ≤ sizeLine) :
    wpAny (model prog w) A (dictPut d (knd.hash k) key v) Q E s := by
  obtain ⟨o, es, ep, ho, hc, hd, hk, hp, hn⟩ := hm
  have hes : es.size ≤ sizeLine := by
    have e1 := hp.length
    have e2 : es.toList.length = es.size := by simp
    omega
  unfold dictPut
  refine wpAny_bind (wpAny_dictFind_of hkey ho hd hk ?_)
  have hidx : (es.findIdx? fun e => knd.is k e.key) = kvs.findIdx? fun kv => decide (kv.1 = k) := by
    rw [← hp.findIdx k]
    obtain ⟨l⟩ := es
    simp
  cases hi : es.findIdx? fun e => knd.is k e.key with
  | some i =>
    refine wpAny_updateDict ho hd (hQ _ ⟨_, _, ep, Heap.get?_update_self _ ho (Obj.isFreed_of_dict (Obj.data_mapDict hd _)),
      hc.mapDict _, Obj.data_mapDict hd _, hk.modify _ _, ?_, ?_⟩ (Heap.SameBut.update ..))
    · rw [stored, if_pos (any_of_findIdx_some (hidx ▸ hi))]
      have hl : (es.toList.findIdx? fun e => knd.is k e.key) = some i := by
        rw [← hi]
        obtain ⟨l⟩ := es
        simp
      have := hp.modify hn hl v
      obtain ⟨l⟩ := es
      simpa using this
    · rw [stored, if_pos (any_of_findIdx_some (hidx ▸ hi)), keys_map_store]
      exact hn
  | none =>
    have hnot : k ∉ kvs.map (·.1) := not_mem_of_findIdx_none (hidx ▸ hi)
    have hany : ¬ (kvs.any fun kv => decide (kv.1 = k)) = true := by
      rw [List.any_eq_true]
      rintro ⟨kv, hkv, he⟩
      exact hnot (List.mem_map.mpr ⟨kv, hkv, of_decide_eq_true he⟩)
    refine wpAny_updateDictKeys (hz := hes) ho hd (hQ _ ⟨_, _, ep + 1, Heap.get?_update_self _ ho (Obj.isFreed_of_dict (Obj.data_mapDictKeys hd _)),
      hc.mapDictKeys _, Obj.data_mapDictKeys hd _, hk.push hkey _, ?_, ?_⟩ (Heap.SameBut.update ..))
    · rw [stored, if_neg hany]
      have := hp.append hkey (knd.hash k) v
      obtain ⟨l⟩ := es
      simpa using this
    · rw [stored, if_neg hany, List.map_append, List.nodup_append]
      refine ⟨hn, by simp, ?_⟩
      intro a ha b hb
      simp only [List.map_cons, List.map_nil, List.mem_singleton] at hb
      subst hb
      exact fun e => hnot (e ▸ ha)
theorem mergeMapping_pairs {d o : Addr} {kvs more : List (K × Value)} {Q : Unit → Shared → Prop} (hdo : d ≠ o) (hoS : (o == sysModules) = false)
    (hd : s.heap.DictOf knd d kvs) (ho : s.heap.DictOf knd o more)
    (hQ : ∀ h', h'.DictOf knd d (merged kvs more) → Heap.SameBut d s.heap h' → Q () { s with heap := h' })
    (hsz : kvs.length + more.length ≤ sizeLine) :
    wpAny (model prog w) A (mergeMapping d (.ref o) false) Q E s := by
  obtain ⟨od, esd, epd, hod, hcd, hdd, hkd, hpd, hnd⟩ := id hd
  obtain ⟨oo, eso, epo, hoo, hco, hdo', hko, hpo, hno⟩ := id ho
  have hlen : more.length = eso.size := by
    rw [← hpo.length]
    simp
  have tyo : s.TypeIs (.ref o) "dict" := ho.typeIs
  unfold mergeMapping
  refine wpAny_bind (m := isInstance (.ref o) (.type "dict")) (wpAny_isInstance tyo isSubtype_dict_dict ?_)
  dsimp only
  rw [if_pos rfl]
  refine wpAny_bind (m := specialOf (.ref o) "__iter__") (wpAny_specialOf tyo F.slot_dict_iter.lookup ?_)
  have e1 : (some (Value.builtin "dict.__iter__") == some (Value.builtin "dict.__iter__")) = true := by decide +kernel
  rw [e1]
  refine wpAny_bind (wpAny_pure ?_)
  dsimp only
  rw [hoS, if_neg Bool.false_ne_true]
  try refine wpAny_bind (wpAny_pure ?_)
  refine wpAny_bind (wpAny_dictEntries hod hdd ?_)
  have loop : wpAny (model prog w) A (do
      let l ← dictEntries o
      let epoch ← dictEpoch o
      forIn (List.range l.size) PUnit.unit fun i (_ : PUnit) => (do
          let l' ← dictEntries o
          match l'[i]? with
            | some e => do
              holding [e.key, e.val] (dictPut d e.hash e.key e.val)
              let ep' ← dictEpoch o
              if (ep' != epoch) = true then do
                  (unsupported "dict.changed-during-merge" : Sem PUnit)
                  pure (ForInStep.yield PUnit.unit)
                else pure (ForInStep.yield PUnit.unit)
            | _ => do
              (unsupported "dict.changed-during-merge" : Sem PUnit)
              pure (ForInStep.yield PUnit.unit) : Sem (ForInStep PUnit))
      pure ()) Q E s := by
    refine wpAny_bind (wpAny_dictEntries hoo hdo' ?_)
    refine wpAny_bind (wpAny_dictEpoch hoo hdo' ?_)
    refine wpAny_bind ?_
    rw [List.range_eq_range']
    refine wpAny_forIn_list _
      (fun rest _ s' => ∃ h' i, s' = { s with heap := h' } ∧ rest = List.range' i (eso.size - i) ∧ i ≤ eso.size ∧ h'.DictOf knd d (merged kvs (more.take i)) ∧ h'.get? o = some oo ∧ Heap.SameBut d s.heap h')
      _ ?_ ?_ _ _ ⟨s.heap, 0, rfl, by simp, Nat.zero_le _, by simpa [merged] using hd, hoo, Heap.SameBut.refl _ _⟩
    · rintro x rest b s' ⟨h', i, rfl, hr, hi, hd', hoo', hs'⟩
      have hlt : i < eso.size := by
        rcases Nat.lt_or_ge i eso.size with h | h
        · exact h
        · rw [Nat.sub_eq_zero_of_le h] at hr
          simp at hr
      obtain ⟨rfl, hrest⟩ : x = i ∧ rest = List.range' (i + 1) (eso.size - (i + 1)) := by
        have e : eso.size - i = (eso.size - (i + 1)) + 1 := by omega
        rw [e, List.range'_succ] at hr
        injection hr with h1 h2
        exact ⟨h1, h2⟩
      refine wpAny_bind (wpAny_dictEntries hoo' hdo' ?_)
      rw [Array.getElem?_eq_getElem hlt]
      obtain ⟨kv, hkv⟩ : ∃ kv, more[x]? = some kv := ⟨more[x]'(by rw [hlen]; exact hlt), List.getElem?_eq_getElem _⟩
      obtain ⟨k, v⟩ := kv
      obtain ⟨hkey, hval⟩ := hpo.get? (e := eso[x]) (by simp [hlt]) hkv
      obtain ⟨k', hkey', hhash⟩ := hko eso[x] (Array.getElem_mem hlt)
      obtain rfl : k' = k := knd.inj _ _ _ hkey' hkey
      show wpAny _ _ (holding [eso[x].key, eso[x].val] (dictPut d eso[x].hash eso[x].key eso[x].val) >>= _) _ _ _
      rw [hhash, hval]
      have hmx : (merged kvs (more.take x)).length ≤ sizeLine := by
        have e1 := merged_length_le kvs (more.take x)
        have e2 : (more.take x).length ≤ more.length := by
          rw [List.length_take]
          omega
        omega
      refine wpAny_bind (wpAny_holding (dictPut_pairs (hsz := hmx) hkey hd' fun h'' hd'' hs'' => ?_))
      have hoo'' : h''.get? o = some oo := (hs''.2 o (Ne.symm hdo)).trans hoo'
      refine wpAny_bind (wpAny_dictEpoch hoo'' hdo' ?_)
      rw [if_neg (by simp)]
      exact wpAny_pure ⟨h'', x + 1, rfl, hrest, hlt, by rw [merged_take_succ kvs more x (k', v) hkv]; exact hd'', hoo'', hs'.trans hs''⟩
    · rintro b s' ⟨h', i, rfl, hr, hi, hd', hoo', hs'⟩
      have hin : i = eso.size := by
        rcases Nat.lt_or_ge i eso.size with h | h
        · have e : eso.size - i = (eso.size - (i + 1)) + 1 := by omega
          rw [e, List.range'_succ] at hr
          exact nomatch hr
        · exact Nat.le_antisymm hi h
      refine wpAny_pure (hQ h' ?_ hs')
      rw [hin, ← hlen, List.take_length] at hd'
      exact hd'
  split
  · refine wpAny_bind (wpAny_dictEntries hoo hdo' ?_)
    refine wpAny_bind ?_
    rw [← Array.forIn_toList]
    refine wpAny_forIn_list _ (fun rest _ s' => s' = s ∧ ∀ e ∈ rest, e ∈ eso) _ ?_ ?_ _ _ ⟨rfl, fun e he => Array.mem_toList_iff.mp he⟩
    · rintro x rest b s' ⟨rfl, hr⟩
      obtain ⟨k', hkey', hhash⟩ := hko x (hr x List.mem_cons_self)
      have hb := knd.byValue _ _ hkey'
      obtain ⟨hh, kk, vv⟩ := x
      cases kk with
      | ref a => cases hb
      | _ => exact wpAny_pure ⟨rfl, fun e he => hr e (List.mem_cons_of_mem _ he)⟩
    · rintro b s' ⟨rfl, _⟩
      exact loop
  · exact loop
end
end Crt
end

section
/-! zip over two drawn things of one length. -/
set_option autoImplicit false
namespace Crt
open PySem PySem.Spec PyProof.Rows L2
open PySem.Sem (wp)
section
variable {prog : Program} {w : World} {A : Around} {E : Value → Shared → Prop} {s : Shared} {z TI TO T i1 i2 l1 l2 : Addr} {n k : Nat} {P1 P2 : Nat → Value → Prop} {S1 S2 : Nat → Heap → Prop} {a b : Value} {f : Bool} {oT : Obj}
/-- kept, apart from these -/
abbrev KeptBut (L : List Addr) (h h' : Heap) : Prop := ∀ c o, c ∉ L → h.get? c = some o → h'.get? c = some o
theorem kb_one {c : Addr} {h h' : Heap} (e : Heap.SameBut c h h') {L : List Addr} (hc : c ∈ L) : KeptBut L h h' := fun x o hx q => (e.2 x fun y => hx (y ▸ hc)).trans q
theorem kb_ext {c : Addr} {h h' : Heap} (e : Heap.ExtBut c h h') {L : List Addr} (hc : c ∈ L) : KeptBut L h h' := fun x o hx q => e x o (fun y => hx (y ▸ hc)) q
theorem kb_two {h h2 h3 : Heap} {L : List Addr} (p : KeptBut L h h2) (q : KeptBut L h2 h3) : KeptBut L h h3 := fun x o hx e => q x o hx (p x o hx e)
theorem kb_push {h : Heap} {o : Obj} {L : List Addr} : KeptBut L h (h.push o) := fun _ _ _ e => Heap.get?_push_of_some _ e
theorem zd_item (ap : ZipApart z TI TO i1 i2 l1 l2) (D1 : Draws prog w A i1 [i1, l1] n P1 S1) (D2 : Draws prog w A i2 [i2, l2] n P2 S2) {Q : Value → Shared → Prop}
    (hz : IsZip s.heap z TI TO .none) (hI : IsPair s.heap TI (.ref i1) (.ref i2)) (hO : IsPair s.heap TO a b) (t1 : S1 k s.heap) (t2 : S2 k s.heap) (hk : k < n)
    (hQ : ∀ x y h' tk, P1 k x → P2 k y → IsZip h' z TI TO (rawInt s.heap.objs.size) → S1 (k + 1) h' → S2 (k + 1) h' → IsPair h' s.heap.objs.size x y → KeptBut [z, TO, i1, i2] s.heap h' → Q (.ref s.heap.objs.size) { s with heap := h', toks := tk }) :
    wpAny (model prog w) A (Builtin.«zip.__next__» ⟨[.ref z], []⟩) (fun r s' => ∃ v, r = .done (.ret v) ∧ Q v s') E s := by
  show wpAny _ _ (field (.ref z) 2 >>= _) _ _ _
  refine wpAny_bind (wpAny_field hz rfl (x := .bool false) rfl ?_)
  show wpAny _ _ (field (.ref z) 3 >>= _) _ _ _
  refine wpAny_bind (wpAny_field hz rfl (x := .ref TI) rfl ?_)
  refine wpAny_bind (wpAny_seqItems hI rfl ?_)
  show wpAny _ _ (Builtin.SmallTypes.ownedTupleIsFree (.ref z) >>= _) _ _ _
  refine wpAny_bind ?_
  unfold Builtin.SmallTypes.ownedTupleIsFree
  refine wpAny_bind (wpAny_field hz rfl (x := .none) rfl (wpAny_pure ?_))
  simp only [if_true]
  refine wpAny_bind (wpAny_rule ?_)
  refine wpAny_bind (wpAny_field hz rfl (x := .ref TO) rfl ?_)
  refine wpAny_bind (wpAny_setField_rec hz (by simp) fun g1 z1 e1 => ?_)
  replace z1 : IsZip g1 z TI TO .ellipsis := z1
  refine wpAny_bind ?_
  simp only [List.zipIdx_cons, List.zipIdx_nil, List.forIn_cons, List.forIn_nil]
  refine wpAny_bind (wpAny_bind (wpAny_onRaise ?_))
  show wpAny _ _ (Builtin.SmallTypes.nextOf (.ref i1) >>= _) _ _ _
  refine wpAny_bind (D1.item k { s with heap := g1 } _ _ hk (D1.frame _ _ _ t1 fun c hc o q => e1.extBut c o ?_ q) fun x g2 tk2 p1 u2 e2 => wpAny_pure ?_)
  · rcases List.mem_cons.mp hc with r | r
    · exact r ▸ ap.i1z
    · exact (List.mem_singleton.mp r) ▸ ap.l1z
  replace e2 : Heap.SameBut i1 g1 g2 := e2
  have O2 : IsPair g2 TO a b := e2.extBut _ _ ap.TOi1 (e1.extBut _ _ ap.TOz hO)
  refine wpAny_bind (wpAny_seqItems O2 rfl ?_)
  refine wpAny_bind (wpAny_updateSeq_pair O2 fun g3 O3 e3 => ?_)
  replace O3 : IsPair g3 TO x b := O3
  replace e3 : Heap.SameBut TO g2 g3 := e3
  refine wpAny_bind (wpAny_letGo (wpAny_pure ?_))
  refine wpAny_bind (wpAny_bind (wpAny_onRaise ?_))
  show wpAny _ _ (Builtin.SmallTypes.nextOf (.ref i2) >>= _) _ _ _
  refine wpAny_bind (D2.item k { s with heap := g3, toks := tk2 } _ _ hk (D2.frame _ _ _ t2 fun c hc o q => ?_) fun y g4 tk4 p2 u4 e4 => wpAny_pure ?_)
  · have h1 : c ≠ z ∧ c ≠ i1 ∧ c ≠ TO := by
      rcases List.mem_cons.mp hc with r | r
      · exact r ▸ ⟨ap.i2z, ap.i12.symm, ap.TOi2.symm⟩
      · exact (List.mem_singleton.mp r) ▸ ⟨ap.l2z, ap.l2i1, ap.l2TO⟩
    exact e3.extBut _ _ h1.2.2 (e2.extBut _ _ h1.2.1 (e1.extBut _ _ h1.1 q))
  replace e4 : Heap.SameBut i2 g3 g4 := e4
  have O4 : IsPair g4 TO x b := e4.extBut _ _ ap.TOi2 O3
  refine wpAny_bind (wpAny_seqItems O4 rfl ?_)
  refine wpAny_bind (wpAny_updateSeq_pair O4 fun g5 O5 e5 => ?_)
  replace O5 : IsPair g5 TO x y := O5
  replace e5 : Heap.SameBut TO g4 g5 := e5
  refine wpAny_bind (wpAny_letGo (wpAny_pure (wpAny_pure ?_)))
  refine wpAny_bind (wpAny_seqItems O5 rfl ?_)
  refine wpAny_bind (wpAny_newTuple ?_)
  have sz : g5.objs.size = s.heap.objs.size := by rw [e5.1, e4.1, e3.1, e2.1, e1.1]
  have z5 : IsZip g5 z TI TO .ellipsis := e5.extBut _ _ ap.TOz.symm (e4.extBut _ _ ap.i2z.symm (e3.extBut _ _ ap.TOz.symm (e2.extBut _ _ ap.i1z.symm z1)))
  have zlt : z < g5.objs.size := Heap.lt_size z5
  show wpAny _ _ (Builtin.SmallTypes.ownedTupleHandOut (.ref z) (.ref g5.objs.size) >>= _) _ _ _
  refine wpAny_bind ?_
  unfold Builtin.SmallTypes.ownedTupleHandOut
  have z6 : IsZip (g5.push { cls := .type "tuple", data := .seq #[x, y] }) z TI TO .ellipsis := Heap.get?_push_of_some _ z5
  refine wpAny_bind (wpAny_setField_rec z6 (by simp) fun g7 z7 e7 => ?_)
  replace z7 : IsZip g7 z TI TO (rawInt g5.objs.size) := z7
  refine wpAny_setField_rec z7 (by simp) fun g8 z8 e8 => ?_
  replace z8 : IsZip g8 z TI TO (rawInt g5.objs.size) := z8
  have up8 : ∀ c o, c ≠ z → g5.get? c = some o → g8.get? c = some o := fun c o c1 q => e8.extBut _ _ c1 (e7.extBut _ _ c1 (Heap.get?_push_of_some _ q))
  have T8 : IsPair g8 g5.objs.size x y := e8.extBut _ _ (Nat.ne_of_gt zlt) (e7.extBut _ _ (Nat.ne_of_gt zlt) (Heap.get?_push_size _ rfl))
  rw [sz] at z8 T8
  refine wpAny_pure ⟨_, rfl, ?_⟩
  show Q (.ref g5.objs.size) _
  rw [sz]
  refine hQ x y g8 tk4 p1 p2 z8 (D1.frame _ _ _ u2 fun c hc o q => ?_) (D2.frame _ _ _ u4 fun c hc o q => ?_) T8 fun c o hc q => ?_
  · have h1 : c ≠ z ∧ c ≠ TO ∧ c ≠ i2 := by
      rcases List.mem_cons.mp hc with r | r
      · exact r ▸ ⟨ap.i1z, ap.TOi1.symm, ap.i12⟩
      · exact (List.mem_singleton.mp r) ▸ ⟨ap.l1z, ap.l1TO, ap.l1i2⟩
    exact up8 c o h1.1 (e5.extBut _ _ h1.2.1 (e4.extBut _ _ h1.2.2 (e3.extBut _ _ h1.2.1 q)))
  · have h1 : c ≠ z ∧ c ≠ TO := by
      rcases List.mem_cons.mp hc with r | r
      · exact r ▸ ⟨ap.i2z, ap.TOi2.symm⟩
      · exact (List.mem_singleton.mp r) ▸ ⟨ap.l2z, ap.l2TO⟩
    exact up8 c o h1.1 (e5.extBut _ _ h1.2 q)
  · have h1 : c ≠ z ∧ c ≠ TO ∧ c ≠ i1 ∧ c ≠ i2 := by simpa using hc
    exact up8 c o h1.1 (e5.extBut _ _ h1.2.1 (e4.extBut _ _ h1.2.2.2 (e3.extBut _ _ h1.2.1 (e2.extBut _ _ h1.2.2.1 (e1.extBut _ _ h1.1 q)))))
/-- .. while the pair given out before is still out -/
theorem zd_held (ap : ZipApart z TI TO i1 i2 l1 l2) (D1 : Draws prog w A i1 [i1, l1] n P1 S1) (D2 : Draws prog w A i2 [i2, l2] n P2 S2) {Q : Value → Shared → Prop}
    (hz : IsZipHeld s.heap z TI TO T f) (hT : s.heap.get? T = some oT) (hI : IsPair s.heap TI (.ref i1) (.ref i2)) (t1 : S1 k s.heap) (t2 : S2 k s.heap) (hk : k < n)
    (hQ : ∀ x y h' tk, P1 k x → P2 k y → IsZipHeld h' z TI TO T true → S1 (k + 1) h' → S2 (k + 1) h' → IsPair h' s.heap.objs.size x y → KeptBut [z, i1, i2] s.heap h' → Q (.ref s.heap.objs.size) { s with heap := h', toks := tk }) :
    wpAny (model prog w) A (Builtin.«zip.__next__» ⟨[.ref z], []⟩) (fun r s' => ∃ v, r = .done (.ret v) ∧ Q v s') E s := by
  show wpAny _ _ (field (.ref z) 2 >>= _) _ _ _
  refine wpAny_bind (wpAny_field hz rfl (x := .bool false) rfl ?_)
  show wpAny _ _ (field (.ref z) 3 >>= _) _ _ _
  refine wpAny_bind (wpAny_field hz rfl (x := .ref TI) rfl ?_)
  refine wpAny_bind (wpAny_seqItems hI rfl ?_)
  show wpAny _ _ (Builtin.SmallTypes.ownedTupleIsFree (.ref z) >>= _) _ _ _
  refine wpAny_bind (wpAny_tupleHeld_zip hz hT fun g1 z1 e1 => ?_)
  simp only [Bool.false_eq_true, if_false]
  refine wpAny_bind ?_
  rw [← Array.forIn_toList]
  simp only [List.forIn_cons, List.forIn_nil]
  refine wpAny_bind (wpAny_bind (wpAny_holding ?_))
  show wpAny _ _ (Builtin.SmallTypes.nextOf (.ref i1) >>= _) _ _ _
  refine wpAny_bind (D1.item k { s with heap := g1 } _ _ hk (D1.frame _ _ _ t1 fun c hc o q => e1.extBut c o ?_ q) fun x g2 tk2 p1 u2 e2 => wpAny_pure ?_)
  · rcases List.mem_cons.mp hc with r | r
    · exact r ▸ ap.i1z
    · exact (List.mem_singleton.mp r) ▸ ap.l1z
  replace e2 : Heap.SameBut i1 g1 g2 := e2
  refine wpAny_pure ?_
  refine wpAny_bind (wpAny_bind (wpAny_holding ?_))
  show wpAny _ _ (Builtin.SmallTypes.nextOf (.ref i2) >>= _) _ _ _
  refine wpAny_bind (D2.item k { s with heap := g2, toks := tk2 } _ _ hk (D2.frame _ _ _ t2 fun c hc o q => ?_) fun y g3 tk3 p2 u3 e3 => wpAny_pure ?_)
  · have h1 : c ≠ z ∧ c ≠ i1 := by
      rcases List.mem_cons.mp hc with r | r
      · exact r ▸ ⟨ap.i2z, ap.i12.symm⟩
      · exact (List.mem_singleton.mp r) ▸ ⟨ap.l2z, ap.l2i1⟩
    exact e2.extBut _ _ h1.2 (e1.extBut _ _ h1.1 q)
  replace e3 : Heap.SameBut i2 g2 g3 := e3
  refine wpAny_pure (wpAny_pure ?_)
  show wpAny _ _ (newTuple [x, y] >>= _) _ _ _
  refine wpAny_bind (wpAny_newTuple ?_)
  have sz : g3.objs.size = s.heap.objs.size := by rw [e3.1, e2.1, e1.1]
  have z3 : IsZipHeld g3 z TI TO T true := e3.extBut _ _ ap.i2z.symm (e2.extBut _ _ ap.i1z.symm z1)
  refine wpAny_pure ⟨_, rfl, ?_⟩
  show Q (.ref g3.objs.size) _
  have T4 : IsPair (g3.push { cls := .type "tuple", data := .seq #[x, y] }) g3.objs.size x y := Heap.get?_push_size _ rfl
  rw [sz] at T4 ⊢
  refine hQ x y _ tk3 p1 p2 (Heap.get?_push_of_some _ z3) (D1.frame _ _ _ u2 fun c hc o q => Heap.get?_push_of_some _ (e3.extBut _ _ ?_ q)) (D2.frame _ _ _ u3 fun c hc o q => Heap.get?_push_of_some _ q) T4 fun c o hc q => ?_
  · rcases List.mem_cons.mp hc with r | r
    · exact r ▸ ap.i12
    · exact (List.mem_singleton.mp r) ▸ ap.l1i2
  · have h1 : c ≠ z ∧ c ≠ i1 ∧ c ≠ i2 := by simpa using hc
    exact Heap.get?_push_of_some _ (e3.extBut _ _ h1.2.2 (e2.extBut _ _ h1.2.1 (e1.extBut _ _ h1.1 q)))
end
end Crt
end

section
/-! zip of a tuple and a list, as the argument of dict. -/
set_option autoImplicit false
namespace Crt
open PySem PySem.Spec PyProof.Rows L2
open PySem.Sem (wp)
section
variable {prog : Program} {w : World} {A : Around} {E : Value → Shared → Prop} {s : Shared} {z TI TO T i1 i2 l1 l2 : Addr} {n k : Nat} {P1 P2 : Nat → Value → Prop} {S1 S2 : Nat → Heap → Prop} {a b : Value} {f : Bool} {oT : Obj}
theorem zd_end (ap : ZipApart z TI TO i1 i2 l1 l2) (D1 : Draws prog w A i1 [i1, l1] n P1 S1) {Q : Fin → Shared → Prop}
    (hz : IsZip s.heap z TI TO .none) (hI : IsPair s.heap TI (.ref i1) (.ref i2)) (t1 : S1 n s.heap)
    (hE : ∀ h' e, KeptBut [z, TO, i1, i2] s.heap h' → (∃ o, h'.get? e = some o ∧ o.cls = .type "StopIteration") → E (.ref e) { s with heap := h' }) :
    wpAny (model prog w) A (Builtin.«zip.__next__» ⟨[.ref z], []⟩) Q E s := by
  show wpAny _ _ (field (.ref z) 2 >>= _) _ _ _
  refine wpAny_bind (wpAny_field hz rfl (x := .bool false) rfl ?_)
  show wpAny _ _ (field (.ref z) 3 >>= _) _ _ _
  refine wpAny_bind (wpAny_field hz rfl (x := .ref TI) rfl ?_)
  refine wpAny_bind (wpAny_seqItems hI rfl ?_)
  show wpAny _ _ (Builtin.SmallTypes.ownedTupleIsFree (.ref z) >>= _) _ _ _
  refine wpAny_bind ?_
  unfold Builtin.SmallTypes.ownedTupleIsFree
  refine wpAny_bind (wpAny_field hz rfl (x := .none) rfl (wpAny_pure ?_))
  simp only [if_true]
  refine wpAny_bind (wpAny_rule ?_)
  refine wpAny_bind (wpAny_field hz rfl (x := .ref TO) rfl ?_)
  refine wpAny_bind (wpAny_setField_rec hz (by simp) fun g1 z1 e1 => ?_)
  replace z1 : IsZip g1 z TI TO .ellipsis := z1
  refine wpAny_bind ?_
  simp only [List.zipIdx_cons, List.zipIdx_nil, List.forIn_cons, List.forIn_nil]
  refine wpAny_bind (wpAny_bind (wpAny_onRaise ?_))
  show wpAny _ _ (Builtin.SmallTypes.nextOf (.ref i1) >>= _) _ _ _
  refine wpAny_bind (D1.done { s with heap := g1 } _ _ (D1.frame _ _ _ t1 fun c hc o q => e1.extBut c o ?_ q) fun g2 e e2 he => ?_)
  · rcases List.mem_cons.mp hc with r | r
    · exact r ▸ ap.i1z
    · exact (List.mem_singleton.mp r) ▸ ap.l1z
  replace e2 : Heap.ExtBut i1 g1 g2 := e2
  obtain ⟨oe, hoe, hce⟩ := he
  have z2 : IsZip g2 z TI TO .ellipsis := e2 _ _ ap.i1z.symm z1
  have hez : e ≠ z := fun x => by
    subst x
    rw [z2] at hoe
    cases hoe
    simp at hce
  refine wpAny_setField_rec z2 (by simp) fun g3 _ e3 => hE g3 e (kb_two (kb_one e1 (by simp)) (kb_two (kb_ext e2 (by simp)) (kb_one e3 (by simp)))) ⟨oe, e3.extBut _ _ hez hoe, hce⟩
theorem zd_endH (ap : ZipApart z TI TO i1 i2 l1 l2) (D1 : Draws prog w A i1 [i1, l1] n P1 S1) {Q : Fin → Shared → Prop}
    (hz : IsZipHeld s.heap z TI TO T f) (hT : s.heap.get? T = some oT) (hI : IsPair s.heap TI (.ref i1) (.ref i2)) (t1 : S1 n s.heap)
    (hE : ∀ h' e, KeptBut [z, TO, i1, i2] s.heap h' → (∃ o, h'.get? e = some o ∧ o.cls = .type "StopIteration") → E (.ref e) { s with heap := h' }) :
    wpAny (model prog w) A (Builtin.«zip.__next__» ⟨[.ref z], []⟩) Q E s := by
  show wpAny _ _ (field (.ref z) 2 >>= _) _ _ _
  refine wpAny_bind (wpAny_field hz rfl (x := .bool false) rfl ?_)
  show wpAny _ _ (field (.ref z) 3 >>= _) _ _ _
  refine wpAny_bind (wpAny_field hz rfl (x := .ref TI) rfl ?_)
  refine wpAny_bind (wpAny_seqItems hI rfl ?_)
  show wpAny _ _ (Builtin.SmallTypes.ownedTupleIsFree (.ref z) >>= _) _ _ _
  refine wpAny_bind (wpAny_tupleHeld_zip hz hT fun g1 z1 e1 => ?_)
  simp only [Bool.false_eq_true, if_false]
  refine wpAny_bind ?_
  rw [← Array.forIn_toList]
  simp only [List.forIn_cons, List.forIn_nil]
  refine wpAny_bind (wpAny_bind (wpAny_holding ?_))
  show wpAny _ _ (Builtin.SmallTypes.nextOf (.ref i1) >>= _) _ _ _
  refine wpAny_bind (D1.done { s with heap := g1 } _ _ (D1.frame _ _ _ t1 fun c hc o q => e1.extBut c o ?_ q) fun g2 e e2 he => ?_)
  · rcases List.mem_cons.mp hc with r | r
    · exact r ▸ ap.i1z
    · exact (List.mem_singleton.mp r) ▸ ap.l1z
  exact hE g2 e (kb_two (kb_one e1 (by simp)) (kb_ext e2 (by simp))) he
theorem nx_item (ap : ZipApart z TI TO i1 i2 l1 l2) (D1 : Draws prog w A.in1 i1 [i1, l1] n P1 S1) (D2 : Draws prog w A.in1 i2 [i2, l2] n P2 S2) {Q : Option Value → Shared → Prop}
    (hz : IsZip s.heap z TI TO .none) (hI : IsPair s.heap TI (.ref i1) (.ref i2)) (hO : IsPair s.heap TO a b) (t1 : S1 k s.heap) (t2 : S2 k s.heap) (hk : k < n)
    (hQ : ∀ x y h' tk, P1 k x → P2 k y → IsZip h' z TI TO (rawInt s.heap.objs.size) → S1 (k + 1) h' → S2 (k + 1) h' → IsPair h' s.heap.objs.size x y → KeptBut [z, TO, i1, i2] s.heap h' → Q (some (.ref s.heap.objs.size)) { s with heap := h', toks := tk }) :
    wpAny (model prog w) A (pyNext (.ref z)) Q E s := by
  have hT : s.TypeIs (.ref z) "zip" := ⟨_, hz, rfl⟩
  unfold pyNext
  exact wpAny_bind (wpAny_attempt (wpAny_callSpecial?_slot (name := Str.ofString "__next__") hT F.slot_zip_next
    (wpAny_call_entry F.slot_zip_next hT F.entry_zip_next (zd_item ap D1 D2 hz hI hO t1 t2 hk fun x y h' tk a1 a2 a3 a4 a5 a6 a7 => wpAny_pure (hQ x y h' tk a1 a2 a3 a4 a5 a6 a7)) (F.args_zip_next_1 _))))
theorem nx_held (ap : ZipApart z TI TO i1 i2 l1 l2) (D1 : Draws prog w A.in1 i1 [i1, l1] n P1 S1) (D2 : Draws prog w A.in1 i2 [i2, l2] n P2 S2) {Q : Option Value → Shared → Prop}
    (hz : IsZipHeld s.heap z TI TO T f) (hT : s.heap.get? T = some oT) (hI : IsPair s.heap TI (.ref i1) (.ref i2)) (t1 : S1 k s.heap) (t2 : S2 k s.heap) (hk : k < n)
    (hQ : ∀ x y h' tk, P1 k x → P2 k y → IsZipHeld h' z TI TO T true → S1 (k + 1) h' → S2 (k + 1) h' → IsPair h' s.heap.objs.size x y → KeptBut [z, i1, i2] s.heap h' → Q (some (.ref s.heap.objs.size)) { s with heap := h', toks := tk }) :
    wpAny (model prog w) A (pyNext (.ref z)) Q E s := by
  have hy : s.TypeIs (.ref z) "zip" := ⟨_, hz, rfl⟩
  unfold pyNext
  exact wpAny_bind (wpAny_attempt (wpAny_callSpecial?_slot (name := Str.ofString "__next__") hy F.slot_zip_next
    (wpAny_call_entry F.slot_zip_next hy F.entry_zip_next (zd_held ap D1 D2 hz hT hI t1 t2 hk fun x y h' tk a1 a2 a3 a4 a5 a6 a7 => wpAny_pure (hQ x y h' tk a1 a2 a3 a4 a5 a6 a7)) (F.args_zip_next_1 _))))
theorem nx_end (ap : ZipApart z TI TO i1 i2 l1 l2) (D1 : Draws prog w A.in1 i1 [i1, l1] n P1 S1) {Q : Option Value → Shared → Prop}
    (hz : IsZip s.heap z TI TO .none ∨ ∃ T f oT, IsZipHeld s.heap z TI TO T f ∧ s.heap.get? T = some oT) (hI : IsPair s.heap TI (.ref i1) (.ref i2)) (t1 : S1 n s.heap)
    (hQ : ∀ h', KeptBut [z, TO, i1, i2] s.heap h' → Q none { s with heap := h' }) : wpAny (model prog w) A (pyNext (.ref z)) Q E s := by
  have hy : s.TypeIs (.ref z) "zip" := by
    rcases hz with hz | ⟨T, f, oT, hz, _⟩
    · exact ⟨_, hz, rfl⟩
    · exact ⟨_, hz, rfl⟩
  unfold pyNext
  refine wpAny_bind (wpAny_attempt (wpAny_callSpecial?_slot (name := Str.ofString "__next__") hy F.slot_zip_next
    (wpAny_call_entry F.slot_zip_next hy F.entry_zip_next ?_ (F.args_zip_next_1 _))))
  have fin : ∀ h' e, KeptBut [z, TO, i1, i2] s.heap h' → (∃ o, h'.get? e = some o ∧ o.cls = .type "StopIteration") → wpAny (model prog w) A (do if ← isInstance (.ref e) (.type "StopIteration") then pure none else throw (.ref e)) Q E { s with heap := h' } := fun h' e hk ⟨o, ho, hc⟩ =>
    wpAny_bind (wpAny_isInstance (T := "StopIteration") (b := true) ⟨o, ho, hc⟩ isSubtype_stop (wpAny_pure (hQ _ hk)))
  rcases hz with hz | ⟨T, f, oT, hz, hT⟩
  · exact zd_end ap D1 hz hI t1 fin
  · exact zd_endH ap D1 hz hT hI t1 fin
end
section
variable {prog : Program} {w : World}
/-- zip(t, l), a tuple and a list of one length -/
theorem parg_zip (z TI TO i1 i2 l1 l2 : Addr) (ap : ZipApart z TI TO i1 i2 l1 l2) (xs ys : Array Value) (hn : ys.size = xs.size) :
    PairArg prog w "zip" z [z, TI, TO, i1, i2, l1, l2] [z, TO, i1, i2] xs.size (fun i k v => xs[i]? = some k ∧ ys[i]? = some v)
      (fun h => IsZip h z TI TO .none ∧ IsPair h TI (.ref i1) (.ref i2) ∧ (∃ a b, IsPair h TO a b) ∧ (h.IsTupleIter i1 l1 0 ∧ h.IsTuple l1 xs) ∧ (h.IsListIter i2 l2 0 ∧ h.IsList l2 ys)) where
  type := fun s ok => ⟨_, ok.1, rfl⟩
  notDict := by decide
  keep := fun h h' ok hk => by
    obtain ⟨hz, hI, ⟨a, b, hO⟩, ⟨h1, m1⟩, ⟨h2, m2⟩⟩ := ok
    obtain ⟨o, ho, r⟩ := m1
    exact ⟨hk _ _ hz, hk _ _ hI, ⟨a, b, hk _ _ hO⟩, ⟨h1.at fun o e => hk _ o e, ⟨o, hk _ _ ho, r⟩⟩, ⟨h2.at fun o e => hk _ o e, m2.at fun o e => hk _ o e⟩⟩
  there := fun h ok b hb => by
    obtain ⟨hz, hI, ⟨a, c, hO⟩, ⟨⟨o1, h1, _⟩, ⟨o3, m1, _⟩⟩, ⟨⟨o2, h2, _⟩, ⟨o4, m2, _⟩⟩⟩ := ok
    simp only [List.mem_cons, List.not_mem_nil, or_false] at hb
    rcases hb with rfl | rfl | rfl | rfl | rfl | rfl | rfl
    · exact ⟨_, hz⟩
    · exact ⟨_, hI⟩
    · exact ⟨_, hO⟩
    · exact ⟨_, h1⟩
    · exact ⟨_, h2⟩
    · exact ⟨_, m1⟩
    · exact ⟨_, m2⟩
  sub := fun b hb => by
    simp only [List.mem_cons, List.not_mem_nil, or_false] at hb ⊢
    rcases hb with h | h | h | h <;> simp [h]
  noKeys := fun A s Q E hA ok h => getAttrOr_miss_zip ok.1 rfl rfl rfl zip_no_keys (by decide +kernel) hA h
  iter := fun A s d Q E hA ok hd hdf h => by
    obtain ⟨hz, hI, ⟨a, b, hO⟩, t1, t2⟩ := ok
    simp only [List.mem_cons, List.not_mem_nil, or_false, not_or] at hdf
    obtain ⟨dz, dTI, dTO, di1, di2, dl1, dl2⟩ := hdf
    have D1 := draws_tuple (prog := prog) (w := w) (A := A.in1) (show A.in1.handled = none from hA) i1 l1 ap.l1i1 xs
    have D2 := Draws.list (prog := prog) (w := w) (A := A.in1) (show A.in1.handled = none from hA) i2 l2 ap.l2i2 ys
    rw [hn] at D2
    refine wpAny_pyIter_zip hz (h z [z, TO, i1, i2] (fun i h => IsPair h TI (.ref i1) (.ref i2) ∧ (h.IsTupleIter i1 l1 i ∧ h.IsTuple l1 xs) ∧ (h.IsListIter i2 l2 i ∧ h.IsList l2 ys) ∧
      ((IsZip h z TI TO .none ∧ ∃ a b, IsPair h TO a b) ∨ ∃ T f oT, IsZipHeld h z TI TO T f ∧ h.get? T = some oT ∧ T ≠ z ∧ T ≠ i1 ∧ T ≠ i2 ∧ T ≠ d)) s.heap s.toks ?_
      ⟨hI, t1, t2, .inl ⟨hz, a, b, hO⟩⟩ (fun _ _ e => e) fun b hb => .inl hb)
    refine ⟨fun hm => ?_, fun i g1 g2 st hk => ?_, fun i s1 Q1 E1 hi st hds hQ => ?_, fun s1 Q1 E1 st hQ => ?_⟩
    · simp only [List.mem_cons, List.not_mem_nil, or_false] at hm
      rcases hm with e | e | e | e
      · exact dz e
      · exact dTO e
      · exact di1 e
      · exact di2 e
    · obtain ⟨hI, u1, u2, hz⟩ := st
      refine ⟨hk _ _ (Ne.symm dTI) hI, D1.frame _ _ _ u1 fun c hc o q => hk c o ?_ q, D2.frame _ _ _ u2 fun c hc o q => hk c o ?_ q, ?_⟩
      · rcases List.mem_cons.mp hc with r | r
        · exact r ▸ Ne.symm di1
        · exact (List.mem_singleton.mp r) ▸ Ne.symm dl1
      · rcases List.mem_cons.mp hc with r | r
        · exact r ▸ Ne.symm di2
        · exact (List.mem_singleton.mp r) ▸ Ne.symm dl2
      · rcases hz with ⟨hz, a, b, hO⟩ | ⟨T, f, oT, hz, hT, r1, r2, r3, r4⟩
        · exact .inl ⟨hk _ _ (Ne.symm dz) hz, a, b, hk _ _ (Ne.symm dTO) hO⟩
        · exact .inr ⟨T, f, oT, hk _ _ (Ne.symm dz) hz, hk _ _ r4 hT, r1, r2, r3, r4⟩
    · obtain ⟨hI, u1, u2, hz⟩ := st
      have lt : ∀ {c o}, s1.heap.get? c = some o → s1.heap.objs.size ≠ c := fun e => Nat.ne_of_gt (Heap.lt_size e)
      have n1 : s1.heap.objs.size ≠ i1 := let ⟨⟨_, e, _⟩, _⟩ := u1; lt e
      have n2 : s1.heap.objs.size ≠ i2 := let ⟨⟨_, e, _⟩, _⟩ := u2; lt e
      rcases hz with ⟨hz, a, b, hO⟩ | ⟨T, f, oT, hz, hT, r1, r2, r3, r4⟩
      · refine nx_item ap D1 D2 hz hI hO u1 u2 hi fun x y h' tk p1 p2 z' v1 v2 hp hk => ?_
        exact hQ s1.heap.objs.size x y h' tk ⟨p1, p2⟩ (.inl ⟨_, hp, rfl, _, rfl⟩)
          ⟨hk _ _ (by simp; exact ⟨ap.TIz, ap.TITO, ap.TIi1, ap.TIi2⟩) hI, v1, v2, .inr ⟨s1.heap.objs.size, false, _, z', hp, lt hz, n1, n2, Nat.ne_of_gt hds⟩⟩ hk
      · refine nx_held ap D1 D2 hz hT hI u1 u2 hi fun x y h' tk p1 p2 z' v1 v2 hp hk => ?_
        exact hQ s1.heap.objs.size x y h' tk ⟨p1, p2⟩ (.inl ⟨_, hp, rfl, _, rfl⟩)
          ⟨hk _ _ (by simp; exact ⟨ap.TIz, ap.TIi1, ap.TIi2⟩) hI, v1, v2, .inr ⟨T, true, oT, z', hk _ _ (by simp; exact ⟨r1, r2, r3⟩) hT, r1, r2, r3, r4⟩⟩
          fun c o hc q => hk c o (fun m => hc (by simp only [List.mem_cons, List.not_mem_nil, or_false] at m ⊢; rcases m with e | e | e <;> simp [e])) q
    · obtain ⟨hI, u1, u2, hz⟩ := st
      refine nx_end ap D1 ?_ hI u1 fun h' hk => hQ h' s1.toks hk
      rcases hz with ⟨hz, _⟩ | ⟨T, f, oT, hz, hT, _⟩
      · exact .inl hz
      · exact .inr ⟨T, f, oT, hz, hT⟩
end
end Crt
end

section
/-! dict(zip(t, l)); {**a, **b}. -/
set_option autoImplicit false
namespace Crt
open PySem PySem.Spec PyProof.Rows L2
/-- the heap behind zip(t, l) -/
def zmA (h : Heap) (t : Addr) : Heap := h.push { cls := .type "tuple_iterator", data := .fields #[.ref t, .int 0 0] }
def zmB (h : Heap) (t l : Addr) : Heap := (zmA h t).push { cls := .type "list_iterator", data := .fields #[.ref l, .int 0 0] }
def zmC (h : Heap) (t l : Addr) : Heap := (zmB h t l).push { cls := .type "tuple", data := .seq #[.ref h.objs.size, .ref (zmA h t).objs.size] }
def zmD (h : Heap) (t l : Addr) : Heap := (zmC h t l).push { cls := .type "tuple", data := .seq #[.none, .none] }
def zmE (h : Heap) (t l : Addr) : Heap := (zmD h t l).push { cls := .type "zip", data := .fields #[.none, .bool false, .bool false, .ref (zmB h t l).objs.size, .ref (zmC h t l).objs.size] }
theorem meets_zip_mix (t l : Addr) (xs ys : Array Value) :
    Meets (Builtin.«zip.__new__» ⟨[.type "zip", .ref t, .ref l], []⟩) (fun _ R s => s.heap.IsTuple t xs ∧ s.heap.IsList l ys ∧
      R (.ok (.ret (.ref (zmD s.heap t l).objs.size))) { s with heap := zmE s.heap t l }) :=
  .of_wp fun prog w A R s h => by
    obtain ⟨hp, g, d, tk, os⟩ := s
    obtain ⟨m1, m2, h⟩ := h
    have hsub := sub_zip
    have u1 : Heap.IsTuple (Shared.heap ⟨hp, g, d, tk, os⟩) t xs := m1
    have u2 : Heap.IsList (Shared.heap ⟨hp.push { cls := .type "tuple_iterator", data := .fields #[.ref t, .int 0 0] }, g, d, tk, os⟩) l ys := Heap.IsList.push m2 _
    wp_walk using wpAny_pyIter_tuple u1, wpAny_pyIter_list u2
    exact ⟨_, rfl, h⟩
section
variable {prog : Program} {w : World} {A : Around} {E : Value → Shared → Prop} {s : Shared}
theorem call_zip_mix {t l : Addr} {xs ys : Array Value} {Q : Value → Shared → Prop} (m1 : s.heap.IsTuple t xs) (m2 : s.heap.IsList l ys)
    (h : ∀ h', IsZip h' (s.heap.objs.size + 4) (s.heap.objs.size + 2) (s.heap.objs.size + 3) .none → IsPair h' (s.heap.objs.size + 2) (.ref s.heap.objs.size) (.ref (s.heap.objs.size + 1)) →
      IsPair h' (s.heap.objs.size + 3) .none .none → h'.IsTupleIter s.heap.objs.size t 0 → h'.IsListIter (s.heap.objs.size + 1) l 0 → h'.objs.size = s.heap.objs.size + 5 →
      (∀ c o, s.heap.get? c = some o → h'.get? c = some o) → Q (.ref (s.heap.objs.size + 4)) { s with heap := h' }) :
    wpAny (model prog w) A (call (.type "zip") [.ref t, .ref l]) Q E s := by
  refine callType_new F.called_zip (by decide) (F.typeCall_zip_2 _ _) (F.newCall_zip_2 _ _) (fun obj => F.args_object_init_3 obj _ _) F.entry_zip_new
    (meets_zip_mix t l xs ys) ⟨m1, m2, ?_⟩
  have z1 : (zmA s.heap t).objs.size = s.heap.objs.size + 1 := Heap.size_push ..
  have z2 : (zmB s.heap t l).objs.size = s.heap.objs.size + 2 := by unfold zmB; rw [Heap.size_push, z1]
  have z3 : (zmC s.heap t l).objs.size = s.heap.objs.size + 3 := by unfold zmC; rw [Heap.size_push, z2]
  have z4 : (zmD s.heap t l).objs.size = s.heap.objs.size + 4 := by unfold zmD; rw [Heap.size_push, z3]
  have z5 : (zmE s.heap t l).objs.size = s.heap.objs.size + 5 := by unfold zmE; rw [Heap.size_push, z4]
  have up : ∀ c o, (zmA s.heap t).get? c = some o → (zmE s.heap t l).get? c = some o := fun c o q => Heap.get?_push_of_some _ (Heap.get?_push_of_some _ (Heap.get?_push_of_some _ (Heap.get?_push_of_some _ q)))
  have g5 : (zmE s.heap t l).get? (zmD s.heap t l).objs.size = some _ := Heap.get?_push_size _ rfl
  have g4 : (zmE s.heap t l).get? (zmC s.heap t l).objs.size = some _ := Heap.get?_push_of_some _ (Heap.get?_push_size _ rfl)
  have g3 : (zmE s.heap t l).get? (zmB s.heap t l).objs.size = some _ := Heap.get?_push_of_some _ (Heap.get?_push_of_some _ (Heap.get?_push_size _ rfl))
  have g2 : (zmE s.heap t l).get? (zmA s.heap t).objs.size = some _ := Heap.get?_push_of_some _ (Heap.get?_push_of_some _ (Heap.get?_push_of_some _ (Heap.get?_push_size _ rfl)))
  have g1 : (zmE s.heap t l).get? s.heap.objs.size = some _ := up _ _ (Heap.get?_push_size _ rfl)
  show _ ∧ _
  rw [z2, z3, z4] at g5
  rw [z1, z2] at g3
  rw [z3] at g4
  rw [z1] at g2
  rw [z4]
  exact ⟨⟨_, g5, rfl⟩, h _ g5 g3 g4 ⟨_, g1, rfl, rfl⟩ ⟨_, g2, rfl, rfl⟩ z5 fun c o x => up c o (Heap.get?_push_of_some _ x)⟩
end
theorem kv_zip : ∀ (ks : List Key) {ws : List V} {us : List Value}, Vals ws us → KV (ks.zip ws) (ks.zip us)
  | [], _, _, _ => by
    rw [List.zip_nil_left, List.zip_nil_left]
    exact .nil
  | _ :: _, _, _, .nil => .nil
  | k :: ks, _, _, .cons h t => .cons ⟨rfl, h⟩ (kv_zip ks t)
section
variable {X : Cx}
/-- dict(zip(t, l)): texts beside any things, as many of both -/
def tDZip (K : PySem.W.Frag) (ta : TA) : TE := fun σ H Q => ta σ H fun vs H1 => ∃ (t l : Addr) (ks : List Str) (us : List V), vs = [.ref t, .ref l] ∧ SqT K H1 t (ks.map V.str) ∧ SqL K H1 l us ∧ ks.length = us.length ∧ ∀ d, H1 d = none → Q (.ref d) (upd H1 d (.dK (mergeK [] ((ks.map fun k => (Sum.inr k : Key)).zip us))))
theorem pe_dzip {e e2 : Expr} {ta : TA} {p p2 pos pos2 : Pos} (hcalm : X.calm = true) (hg : Gl X "dict") (hm : X.mg "dict" = none) (hg2 : Gl X "zip") (hm2 : X.mg "zip" = none) (ha : PA X [e, e2] ta)
    (na : starEach [.Call (.Name "zip" p2) [e, e2] [] pos2] X.env = (false, eval (.Call (.Name "zip" p2) [e, e2] [] pos2) X.env) :: starEach [] X.env := by rfl)
    (hs : starEach [e, e2] X.env = (false, eval e X.env) :: starEach [e2] X.env := by rfl) (hpl : (backTo pos2 (starEach [e2] X.env)).any (·.1) = false := by rfl) :
    PE X (.Call (.Name "dict" p) [.Call (.Name "zip" p2) [e, e2] [] pos2] [] pos) (tDZip X.K ta) := by
  refine ⟨fun pins s σ H Q I h => ?_⟩
  refine Call_ (ld_blt I hg hm boot_dict (PyProof.Rows.callWith_type1 (args_cons (Call_ (ld_blt I hg2 hm2 PyProof.Rows.boot_zip (PyProof.Rows.callWith_type1 (thn (ha.run pos2 pins s σ H _ I h) fun us s1 ⟨vs, H1, I1, r1, q1⟩ => ?_) hs hpl))) na) na))
  obtain ⟨t, l, ks, ws, ex, ht, hl, hn, q⟩ := q1
  subst ex
  obtain ⟨u1, u2, rfl, ru1, ru2⟩ := vals2 r1
  cases ru1
  cases ru2
  obtain ⟨its, rv, p1, _⟩ := I1.tuple ht
  obtain ⟨its2, rv2, p2', hz2⟩ := I1.list hl
  have hlt : t < s1.heap.objs.size := let ⟨_, z, _⟩ := p1; Heap.lt_size z
  have ap := PySem.W.ktu_apart s1.heap.objs.size t l hlt p2'.lt
  have l1 : its.length = ks.length := by rw [← rv.length, List.length_map]
  have l2 : its2.length = ws.length := rv2.length.symm
  refine call_zip_mix (show s1.heap.IsTuple t its.toArray from p1) p2'.isList fun h' hz hI hO h1 h2 hsz hk => args_nil ?_
  have P := parg_zip (prog := X.prog) (w := X.w) _ _ _ _ _ _ _ ap its.toArray its2.toArray (by rw [List.size_toArray, List.size_toArray, l1, l2, hn])
  have rel := kv_zip (ks.map fun k => (Sum.inr k : Key)) rv2
  have lz : ((ks.map fun k => (Sum.inr k : Key)).zip its2).length = its.toArray.size := by
    rw [List.length_zip, List.length_map, List.size_toArray, l1, l2, hn, Nat.min_self]
  refine call_dict_pairs (knd := mixKind X.prog X.w) (kvs := (ks.map fun k => (Sum.inr k : Key)).zip its2) P (I1.ok.hd hcalm) ⟨hz, hI, ⟨_, _, hO⟩, ⟨h1, ?_⟩, ⟨h2, p2'.isList.at fun o e => hk _ _ e⟩⟩ ⟨lz, fun i key v ⟨e1, e2⟩ => ?_⟩ ?_ fun h'' tk hd hkeep => ?_
  · obtain ⟨o, ho, r⟩ := p1
    exact ⟨o, hk _ _ ho, r⟩
  · have e1' : its[i]? = some key := by simpa using e1
    have e2' : its2[i]? = some v := by simpa using e2
    obtain ⟨x, hx, rx⟩ := pr_at' rv e1'
    rw [List.getElem?_map] at hx
    obtain ⟨k, hk', rfl⟩ := Option.map_eq_some_iff.mp hx
    obtain ⟨tk, rfl⟩ := rx
    refine ⟨Sum.inr k, ?_, ?_⟩
    · rw [List.getElem?_zip_eq_some]
      exact ⟨by rw [List.getElem?_map, hk']; rfl, e2'⟩
    · show keyIs (Sum.inr k) (.str k tk) = true
      simp [keyIs, Value.isStrOf]
  · rw [List.size_toArray, l1, hn, ← l2]
    rw [← l2] at hz2
    exact hz2
  · have big : s1.heap.objs.size ≤ h'.objs.size := by
      rw [hsz]
      exact Nat.le_add_right _ _
    have hm' : (h'.objs.size == sysModules) = false := beq_eq_false_iff_ne.mpr (Nat.ne_of_gt (Nat.lt_of_lt_of_le I1.big big))
    have keep : ∀ b u, s1.heap.get? b = some u → h''.get? b = some u := fun b u e => hkeep b u (fun hb => by
      have hb' := Heap.lt_size e
      simp only [List.mem_cons, List.not_mem_nil, or_false] at hb
      rcases hb with z | z | z | z <;> (rw [z] at hb'; exact absurd hb' (Nat.not_lt.mpr (by first | exact Nat.le_add_right _ _ | exact Nat.le_refl _)))) (hk b u e)
    have hlen : (mergeK [] ((ks.map fun k => (Sum.inr k : Key)).zip ws)).length ≤ sizeLine := by
      refine Nat.le_trans (length_mergeK _ []) ?_
      rw [List.length_nil, Nat.zero_add, List.length_zip, List.length_map, hn, Nat.min_self]
      exact hz2
    exact ⟨.ref h'.objs.size, upd H1 h'.objs.size (.dK (mergeK [] ((ks.map fun k => (Sum.inr k : Key)).zip ws))), I1.laid (t' := tk) keep big (show ObjOk X.prog X.w _ _ _ (.dK _) from ⟨hlen, hm', merged [] _, KV.merge rel .nil, hd⟩), rfl, q _ (I1.hok.fresh big)⟩
end
end Crt
end

section
/-! {**a, **b}. -/
set_option autoImplicit false
namespace Crt
open PySem PySem.Spec PyProof.Rows L2
section
variable {X : Cx}
/-- {**a, **b}: a's pairs, then b's -/
def tDD (ta tb : TE) : TE := fun σ H Q => ∀ d, H d = none → ta σ (upd H d (.dK [])) fun x H1 => ∃ (a : Addr) (k1 : List (Key × V)), x = .ref a ∧ Rd H1 a (.dK k1) ∧ H1 d = some (.dK []) ∧ a ≠ d ∧ k1.length ≤ 1000 ∧
  tb σ (upd H1 d (.dK (mergeK [] k1))) fun y H2 => ∃ (b : Addr) (k2 : List (Key × V)), y = .ref b ∧ Rd H2 b (.dK k2) ∧ H2 d = some (.dK (mergeK [] k1)) ∧ b ≠ d ∧ k2.length ≤ 1000 ∧ Q (.ref d) (upd H2 d (.dK (mergeK (mergeK [] k1) k2)))
theorem pe_dd2 {ea eb : Expr} {ta tb : TE} {pos : Pos} (ha : PE X ea ta) (hb : PE X eb tb) : PE X (.Dict [none, none] [ea, eb] pos) (tDD ta tb) := by
  refine ⟨fun pins s σ H Q I q => ?_⟩
  rw [arm_eval_Dict]
  refine wpAny_bind (wpAny_standAt ?_)
  show wpAny _ _ (dictDisplay [(none, do let x ← eval ea X.env; standAt pos; pure x), (none, do let x ← eval eb X.env; standAt pos; pure x)]) _ _ _
  have hn := I.hok.fresh (Nat.le_refl s.heap.objs.size)
  have I1 := I.laid (a := s.heap.objs.size) (o := .dK []) (h' := s.heap.push { cls := .type "dict", data := .dict #[] }) (t' := s.toks) (fun _ _ q => Heap.get?_push_of_some _ q) (Nat.le_refl _) (dk_empty s.heap I.big)
  unfold dictDisplay
  simp only [List.forIn_cons, List.forIn_nil]
  have mg : ∀ {d a : Addr} {m : Value} {k1 acc : List (Key × V)} {σ2 : L2.St} {H2 : Hp} {s2 : Shared} {E2 : Value → Shared → Prop} {Q2 : Unit → Shared → Prop}, Inv X pins σ2 H2 s2 → m = .ref a → Rd H2 a (.dK k1) → H2 d = some (.dK acc) → a ≠ d → k1.length ≤ 1000 → acc.length ≤ 1000 →
      (∀ h', Inv X pins σ2 (upd H2 d (.dK (mergeK acc k1))) { s2 with heap := h' } → Q2 () { s2 with heap := h' }) →
      wpAny (model X.prog X.w) X.A ((((holding [.ref d, m] (mergeMapping d m false)).onRaise fun x => do let _ ← holding [.ref d, m, x] (runValue (.builtin "proto.let_go" {}))).tryCatch fun e => do
        if ← isInstance e (.type "AttributeError") then
          rule "dict.display.not-a-mapping"
          raiseError "TypeError" s!"'{← typeNameOf m}' object is not a mapping"
        throw e).onRaise fun x => do let _ ← holding [.ref d, x] (runValue (.builtin "proto.let_go" {}))) Q2 E2 s2 := by
    intro d a m k1 acc σ2 H2 s2 E2 Q2 J em h1 h2 hne z1 z2 k
    subst em
    obtain ⟨_, hs1, vs, rel, dd⟩ := dk_rd J.hok h1
    obtain ⟨_, hs2, vs2, rel2, dd2⟩ := dk_of J.hok h2
    refine wpAny_onRaise (wpAny_tryCatch (wpAny_onRaise (wpAny_holding ?_)))
    refine mergeMapping_pairs (Ne.symm hne) hs1 dd2 dd (fun h' d' sb => ?_) ?_
    · have hz : (mergeK acc k1).length ≤ sizeLine := by
        have := length_mergeK k1 acc
        rw [sizeLine_eq]
        omega
      have he : ∃ q, h'.get? d = some q := let ⟨q, _, _, hq, _⟩ := d'; ⟨q, hq⟩
      exact k h' (d_write J (by rw [h2]; exact True.intro) sb he (dk_new hz hs2 (KV.merge rel rel2) d'))
    · rw [← rel.length, ← rel2.length, sizeLine_eq]
      omega
  refine wpAny_bind (wpAny_bind (wpAny_bind ?_))
  rw [if_pos (show ([] : List (Sem Value × Sem Value)).isEmpty = true from rfl)]
  refine wpAny_pure ?_
  dsimp only
  refine wpAny_bind (wpAny_alloc ?_)
  refine wpAny_bind (wpAny_holding (wpAny_bind (thn (ha.run pins _ σ _ _ I1 (q _ hn)) fun v s2 ⟨x, H2, I2, rx, a, k1, ex, h1, hd, hne, z1, q2⟩ => wpAny_bind (wpAny_standAt (wpAny_pure ?_)))))
  subst ex
  refine wpAny_bind (mg I2 rx h1 hd hne z1 (by decide) fun g1 I3 => wpAny_pure ?_)
  dsimp only
  refine wpAny_bind (wpAny_bind ?_)
  rw [if_pos (show ([] : List (Sem Value × Sem Value)).isEmpty = true from rfl)]
  refine wpAny_pure ?_
  dsimp only
  refine wpAny_bind (wpAny_pure ?_)
  refine wpAny_bind (wpAny_holding (wpAny_bind (thn (hb.run pins _ σ _ _ I3 q2) fun v4 s4 ⟨y, H4, I4, ry, b, k2, ey, h4, hd4, hne4, z4, q4⟩ => wpAny_bind (wpAny_standAt (wpAny_pure ?_)))))
  subst ey
  have zl : (mergeK [] k1).length ≤ 1000 := by
    have := length_mergeK k1 []
    rw [List.length_nil] at this
    omega
  refine wpAny_bind (mg I4 ry h4 hd4 hne4 z4 zl fun g5 I5 => wpAny_pure ?_)
  dsimp only
  refine wpAny_pure ?_
  refine wpAny_bind ?_
  rw [if_pos (show ([] : List (Sem Value × Sem Value)).isEmpty = true from rfl)]
  refine wpAny_pure ?_
  dsimp only
  exact wpAny_pure ⟨.ref _, _, I5, rfl, q4⟩
end
/-- a text as a key -/
abbrev inK (p : Str × V) : Key × V := (Sum.inr p.1, p.2)
theorem merge_map : ∀ (us vs : List (Str × V)), mergeK (vs.map inK) (us.map inK) = (putAll vs us).map inK
  | [], vs => rfl
  | u :: us, vs => by
    show mergeK (putA (vs.map inK) (Sum.inr u.1) u.2) (us.map inK) = (putAll (putA vs u.1 u.2) us).map inK
    have e := putA_map (fun k : Str => (Sum.inr k : Key)) (fun a b h => Sum.inr.inj h) vs u.1 u.2
    rw [← merge_map us]
    exact congrArg (fun x => mergeK x (us.map inK)) e
theorem paired_putAll {β : Type} {R : V → β → Prop} {us : List (Str × V)} {l : List (Str × β)} (p : Paired (fun u x => u.1 = x.1 ∧ R u.2 x.2) us l) : ∀ {vs : List (Str × V)} {m : List (Str × β)}, Paired (fun u x => u.1 = x.1 ∧ R u.2 x.2) vs m → Paired (fun u x => u.1 = x.1 ∧ R u.2 x.2) (putAll vs us) (putAll m l) := by
  induction p with
  | nil => exact fun q => q
  | @cons u x us l h t ih =>
    intro vs m q
    show Paired _ (putAll (putA vs u.1 u.2) us) (putAll (putA m x.1 x.2) l)
    rw [h.1]
    exact ih (paired_put q x.1 h.2)
theorem zip_pr {β : Type} {P : V → β → Prop} : ∀ (ks : List Str) {ws : List V} {xs : List β}, Paired P ws xs → Paired (fun (u : Str × V) (x : Str × β) => u.1 = x.1 ∧ P u.2 x.2) (ks.zip ws) (ks.zip xs)
  | [], _, _, _ => by
    rw [List.zip_nil_left, List.zip_nil_left]
    exact .nil
  | _ :: _, _, _, .nil => .nil
  | k :: ks, _, _, .cons h t => .cons ⟨rfl, h⟩ (zip_pr ks t)
section
variable {β : Type} {R : β → PV} {cs : Held} {σ : L2.St} {G : Hp} {ta tb : TE} {K : PySem.W.Frag} {tu : TA} {l m : List (Str × β)}
/-- dict(zip(t, l)) -/
theorem gv_dzip {ks : List Str} {xs : List β} (mo : MonR R) (hl : ks.length = xs.length) (h : GvA cs tu σ G (fun vs G => ∃ v w, vs = [v, w] ∧ TupR IsS ks v G ∧ LstR R xs w G)) : Gv cs (tFz (tDZip K tu)) σ G (Dic KS R (putAll [] (ks.zip xs))) := fun H a c Q q =>
  h H a c _ fun vs G1 H1 s1 u1 => by
    obtain ⟨v, w, rfl, ⟨t, us, rfl, ht, pt⟩, ⟨l, ws, rfl, hl', pl⟩⟩ := u1.now
    rw [paired_S pt] at ht
    refine ⟨t, l, ks, ws, rfl, SqT.of (s1.gh _ _ ht), SqL.of (s1.gh _ _ hl'), by rw [hl, pl.length], fun d hd => ⟨d, _, rfl, upd_same, True.intro, fun ob => ?_⟩⟩
    have e : mergeK [] ((ks.map fun k => (Sum.inr k : Key)).zip ws) = (putAll [] (ks.zip ws)).map inK := by
      rw [← merge_map (ks.zip ws) []]
      congr 1
      rw [List.zip_map_left]
      rfl
    rw [e, upd_upd]
    refine q _ _ _ (s1.trans (Stp.laid s1.gh hd)) ((mon_dic mo).up ⟨d, ob, putAll [] (ks.zip ws), rfl, upd_same, ?_⟩)
    have p := paired_putAll (R := fun u x => R x u G1) (zip_pr ks pl) (vs := []) (m := []) .nil
    exact L2.Paired.mapP p fun u x r => ⟨r.1, mo _ _ _ _ (same_new (s1.gh.free hd)) r.2⟩
/-- {**a, **b} -/
theorem gv_dd (mo : MonR R) (hl : l.length ≤ 1000) (hm : m.length ≤ 1000) (ha : Gv cs ta σ G (Dic KS R l)) (hb : Gv cs tb σ G (Dic KS R m)) : Gv cs (tFz (tDD ta tb)) σ G (Dic KS R (putAll (putAll [] l) m)) := fun H e c Q q => by
  intro d hd
  have I0 : AcI G H d (.dK []) G (upd H d (.dK [])) := AcI.start e hd
  refine ha _ I0.gh (c.on I0.hh) _ fun x G1 H1 s1 u1 => ?_
  have I1 := I0.step s1 (fun xs z => nomatch z)
  obtain ⟨a, o, us, rfl, h1, p1⟩ := u1.now
  have a1 := s1.gh _ _ h1
  have had : a ≠ d := fun z => by
    rw [z, I1.at_] at a1
    cases a1
  have em : mergeK [] (us.map inK) = (putAll [] us).map inK := merge_map us []
  refine ⟨a, us.map inK, rfl, .inr ⟨o, a1⟩, I1.at_, had, by rw [List.length_map, p1.length]; exact hl, ?_⟩
  rw [em]
  have I2 := I1.set hd (.dK ((putAll [] us).map inK))
  refine (hb.mono I2.gg) _ I2.gh (c.on I2.hh) _ fun y G3 H3 s3 u3 => ?_
  have I3 := I2.step s3 (fun xs z => nomatch z)
  obtain ⟨b, o2, us2, rfl, h3, p3⟩ := u3.now
  have b3 := s3.gh _ _ h3
  have hbd : b ≠ d := fun z => by
    rw [z, I3.at_] at b3
    cases b3
  refine ⟨b, us2.map inK, rfl, .inr ⟨o2, b3⟩, I3.at_, hbd, by rw [List.length_map, p3.length]; exact hm, ?_⟩
  rw [merge_map]
  refine ⟨d, _, rfl, upd_same, True.intro, fun ob => ?_⟩
  rw [upd_upd]
  have st := I3.fin hd (.frz ob (KS.ho (putAll (putAll [] us) us2)))
  refine q _ _ _ st ((mon_dic mo).up ⟨d, ob, putAll (putAll [] us) us2, rfl, upd_same, ?_⟩)
  have p1' : Paired (fun u x => u.1 = x.1 ∧ R x.2 u.2 G3) us l := L2.Paired.mapP p1 fun u x r => ⟨r.1, mo _ _ _ _ s3.gg r.2⟩
  have p := paired_putAll (R := fun u x => R x u G3) p3 (paired_putAll (R := fun u x => R x u G3) p1' (vs := []) (m := []) .nil)
  exact L2.Paired.mapP p fun u x r => ⟨r.1, mo _ _ _ _ (same_new I3.nD) r.2⟩
end
end Crt
end

section
/-! Exchanges.plain. -/
set_option autoImplicit false
namespace Crt
open PySem PySem.Spec PyProof.Rows L2
section
variable {κ β : Type} [DecidableEq κ]
theorem valA_putAll : ∀ (m l : List (κ × β)) (k : κ), (m.map (·.1)).Nodup → valA (putAll l m) k = (valA m k).or (valA l k)
  | [], l, k, _ => by
    show valA l k = (none : Option β).or (valA l k)
    rfl
  | p :: m, l, k, nd => by
    rw [List.map_cons, List.nodup_cons] at nd
    show valA (putAll (putA l p.1 p.2) m) k = _
    rw [valA_putAll m _ k nd.2, valA_put, valA_cons]
    by_cases h : p.1 = k
    · have hn : valA m k = none := valA_none.mpr (by rw [← h]; exact nd.1)
      rw [if_pos h, if_pos h.symm, hn]
      rfl
    · rw [if_neg h, if_neg fun q => h q.symm]
end
/-- the plain form over those kinds -/
def plainF (ks : List Str) (basis : List (List Int)) (f : Fn) : Fn := fun k => (valA (ks.zip (redBy basis (ks.map f))) k).getD (f k)
def spPlain (C E : Addr) : Sp := SpF (α := (List Str × List (List Int)) × Fn × List Str) (fun x vs G => ∃ u v, vs = [u, v] ∧ ExR E x.1 u G ∧ LdR C x.2.2 x.2.1 v G ∧ x.1.1.Nodup ∧ (∀ k ∈ x.1.1, k ∈ x.2.2) ∧ x.1.1.length ≤ 6 ∧ x.1.2.length ≤ 1000 ∧ RedOk x.1.1.length x.1.2 (x.1.1.map x.2.1)) (fun x => LdR C x.2.2 (plainF x.1.1 x.1.2 x.2.1))
theorem redStep_len {f r : List Int} (h : f.length = r.length) : (redStep f r).length = f.length := by
  unfold redStep
  split
  · rw [List.length_map, List.length_zip, h, Nat.min_self]
  · rfl
theorem redBy_len {w : Nat} : ∀ {basis : List (List Int)} {f : List Int}, RedOk w basis f → f.length = w → (redBy basis f).length = w
  | [], _, _, h => h
  | r :: rs, f, ok, h => redBy_len (basis := rs) ok.2 (by rw [redStep_len (by rw [ok.1.1, ok.1.2.1]), h])
theorem zip_keys {β : Type} : ∀ {ks : List Str} {xs : List β}, ks.length = xs.length → (ks.zip xs).map (·.1) = ks
  | [], [], _ => rfl
  | k :: ks, x :: xs, h => by
    rw [List.zip_cons_cons, List.map_cons, zip_keys (Nat.succ.inj h)]
theorem plain_table {ks : List Str} {basis : List (List Int)} {f : Fn} {U : List Str} (s : Sup f U) (nd : ks.Nodup) (hu : ∀ k ∈ ks, k ∈ U) (hl : ks.length = (redBy basis (ks.map f)).length) :
    fnOfT (putAll (putAll [] (nf f U)) (putAll [] (ks.zip (redBy basis (ks.map f))))) = plainF ks basis f ∧ Sup (plainF ks basis f) U := by
  have zk := zip_keys hl
  have n1 : ((ks.zip (redBy basis (ks.map f))).map (·.1)).Nodup := by rw [zk]; exact nd
  have e1 : putAll [] (ks.zip (redBy basis (ks.map f))) = ks.zip (redBy basis (ks.map f)) := by
    have := putAll_new (l := []) (ks.zip (redBy basis (ks.map f))) (by simpa using n1)
    simpa using this
  have e2 : putAll [] (nf f U) = nf f U := by
    have := putAll_new (l := []) (nf f U) (by simpa using nf_nodup f U)
    simpa using this
  refine ⟨funext fun k => ?_, fun k h => ?_⟩
  · rw [e1, e2]
    unfold fnOfT plainF
    rw [valA_putAll _ _ _ n1]
    have := nf_val s k
    cases h : valA (ks.zip (redBy basis (ks.map f))) k with
    | some b => rfl
    | none => exact this
  · unfold plainF at h
    cases q : valA (ks.zip (redBy basis (ks.map f))) k with
    | some b =>
      refine hu k (Classical.byContradiction fun z => ?_)
      rw [valA_none.mpr (by rw [zk]; exact z)] at q
      cases q
    | none =>
      rw [q] at h
      exact s k h
section
variable {cs : Held} {σ : L2.St} {G : Hp} {ta : TE} {K : PySem.W.Frag} {E : Addr} {ks : List Str} {b : List (List Int)}
theorem gv_kinds (hc : ClsE K E) (h : Gv cs ta σ G (ExR E (ks, b))) : Gv cs (tFld K ta "own_kinds") σ G (TupR IsS ks) :=
  gv_fld hc.f2 h (fun v G ⟨a, dx, v1, v2, v3, v4, v5, h1, h2, h3, h4⟩ => ⟨a, dx, _, v2, h1, h2, rfl, h3⟩) fun u G G' e h => mon_tup mon_S _ _ _ _ e h
theorem gv_basis (hc : ClsE K E) (h : Gv cs ta σ G (ExR E (ks, b))) : Gv cs (tFld K ta "own_basis") σ G (LstR Vec b) :=
  gv_fld hc.f4 h (fun v G ⟨a, dx, v1, v2, v3, v4, v5, h1, h2, h3, h4⟩ => ⟨a, dx, _, v4, h1, h2, rfl, h4⟩) fun u G G' e h => mon_lst mon_vec _ _ _ _ e h
end
section
variable {P : Program} {w : World} {K : PySem.W.Frag} {mg : Str → Option Value} {base : Heap} {C E f : Addr}
theorem ok_plain (F : MFn K "plain" "Exchanges.plain" (memE 13) f) (hc : ClsE K E) (cl : Cls K C) (ml : mg "len" = none) (md : mg "dict" = none) (mz : mg "zip" = none) (h2 : CalP P w K mg base 2 "reduced_by" spRed) (h3 : CalP P w K mg base 3 "vector_of" (spVec C)) (h5 : CalP P w K mg base 5 "load_of" (spLoadOf C)) (hn : Prp P w K mg base 1 C "counts" (spCts C)) :
    C8.CalAt P w K mg base 6 f (spPlain C E) := by
  refine calAt_of (N := ["self", "load", "vector"]) (ps := ["self", "load"]) F (by decide +kernel) ?_ (fun _ _ _ _ _ _ us hl => match us, hl with | [_, _], _ => rfl) ?_
  · rintro vs H Q E ⟨x, G, _, ⟨v, u, e, _⟩, _⟩
    rw [e] <;> rfl
  · intro nd cdv A outer s H vs Q E' hr h
    refine ⟨_, pss_cons (ps_set (i := 2) nd rfl (Or.inl rfl) (C8.pe_c h2 hr (by decide) rfl (pa_cons (pe_fld (pv 0) rfl) (pa_cons (C8.pe_c h3 hr (by decide) rfl (pa_cons (pe_fld (pv 0) rfl) (pa_cons (pv 1) pa_nil))) (pa_cons (pe_callB call_len_seq rfl ml boot_len (pa_cons (pe_fld (pv 0) rfl) pa_nil)) pa_nil)))))
      (pss_one (ps_ret (C8.pe_c h5 hr (by decide) rfl (pa_cons (pe_fz (pe_dd2 (pe_prp hn cl hr (by decide) (pv 1)) (pe_fz (pe_dzip rfl rfl md rfl mz (pa_cons (pe_fld (pv 0) rfl) (pa_cons (pv 2) pa_nil)))))) pa_nil)))), ?_⟩
    obtain ⟨⟨⟨ks, b⟩, g, U⟩, G, eG, ⟨u, v, rfl, hx, hl, hnd, hu, h6, hb, ok⟩, k⟩ := h
    dsimp only at hx hl hnd hu h6 hb ok k
    have ux := mon_ex.up hx
    have ul := mon_ld.up hl
    refine seq_go (set_gv (cs := []) (φ := Vec (redBy b (ks.map g))) (gv_callE (α := List (List Int) × List Int × Nat) (b, ks.map g, ks.length) (ga_imp (ga_3 (gv_basis hc (gv_var rfl ux)) (gv_callE (φ := Vec (ks.map g)) (α := List Str × Fn × List Str) (ks, g, U) (ga_imp (ga_2 (gv_kinds hc (gv_var rfl ux)) (gv_var rfl ul)) fun vs G ⟨v, w, e, q1, q2⟩ => ⟨v, w, e, q1, q2, by dsimp only; omega⟩) rfl) (gv_lenT (gv_kinds hc (gv_var rfl ux)))) fun vs G ⟨v, w, z, e, q1, q2, q3⟩ => ⟨v, w, by rw [e, show z = _ from q3], q1, q2, hb, by dsimp only; omega, ok⟩) rfl) eG hold_nil fun vv G1 H1 s1 u1 => ?_)
    have rl : ks.length = (redBy b (ks.map g)).length := (redBy_len ok (by rw [List.length_map])).symm
    obtain ⟨m1, m2⟩ := plain_table (basis := b) hl.1 hnd hu rl
    have n1 := nf_len g U
    have n2 := hl.2.1
    refine ret_gv (cs := []) (φ := LdR C U (plainF ks b g)) (gv_callE (α := List (Str × Int) × Fn × List Str) (putAll (putAll [] (nf g U)) (putAll [] (ks.zip (redBy b (ks.map g)))), plainF ks b g, U) (ga_imp (ga_1 (gv_dd (l := nf g U) (m := putAll [] (ks.zip (redBy b (ks.map g)))) mon_I (by omega) ?_ (gv_prp (α := Fn × List Str) (g, U) rfl (gv_var rfl (ul.on s1.gg)) fun v G h => ⟨v, rfl, h⟩) (gv_dzip mon_I rl (ga_2 (gv_kinds hc (gv_var rfl (ux.on s1.gg))) (gv_var rfl u1))))) fun vs G ⟨v, e, h⟩ => ⟨v, e, h, ?_, m1, m2, n2⟩) rfl) s1.gh hold_nil fun v G' H' s2 u2 => k v G' H' (s1.trans s2) u2
    · refine Nat.le_trans (putAll_len _ _) ?_
      rw [List.length_nil, List.length_zip, ← rl, Nat.min_self]
      omega
    · refine Nat.le_trans (putAll_len _ _) ?_
      have a1 := putAll_len (nf g U) ([] : List (Str × Int))
      have a2 := putAll_len (ks.zip (redBy b (ks.map g))) ([] : List (Str × Int))
      rw [List.length_zip, ← rl, Nat.min_self, List.length_nil] at a2
      rw [List.length_nil] at a1
      refine Nat.le_trans (Nat.add_le_add a1 a2) ?_
      omega
end
end Crt
end

section
/-! Exchanges(..) is made. -/
set_option autoImplicit false
namespace Crt
open PySem PySem.Spec PyProof.Rows L2
/-- the class at E may be made -/
def MkE (P : Program) (w : World) (K : PySem.W.Frag) (mg : Str → Option Value) (base : Heap) (k : Nat) (C E : Addr) : Prop := ∃ f, Mk K E f ∧ FnR P w K mg base C8.CX0 k f (spIniE C E)
abbrev tMkE (C E : Addr) (t : TA) : TE := StX.tMakeR E (spIniE C E) C8.E0 t
section
variable {X : Cx} {k j : Nat} {C E : Addr} {x : Str} {p pos : Pos} {e : Expr} {es : List Expr} {t : TA}
theorem pe_mkE (M : MkE X.prog X.w X.K X.mg X.base k C E) (hr : Room j X.A) (hk : k + 1 ≤ j) (hg : Gl X x) (hm : X.mg x = some (.ref E)) (ha : PA X (e :: es) t) (hdb : (x == ("__debug__" : Str)) = false := by decide)
    (he : starEach (e :: es) X.env = (false, eval e X.env) :: starEach es X.env := by rfl) (hpl : (backTo pos (starEach es X.env)).any (·.1) = false := by rfl) : PE X (.Call (.Name x p) (e :: es) [] pos) (tMkE C E t) := by
  obtain ⟨f, m, F⟩ := M
  exact StX.pe_makeR m F (hr.mono hk) hg hm C8.pass0 ha hdb he hpl
theorem pe_mkE0 (M : MkE X.prog X.w X.K X.mg X.base k C E) (hr : Room j X.A) (hk : k + 1 ≤ j) (hg : Gl X x) (hm : X.mg x = some (.ref E)) (hdb : (x == ("__debug__" : Str)) = false := by decide) : PE X (.Call (.Name x p) [] [] pos) (tMkE C E tNil) := by
  obtain ⟨f, m, F⟩ := M
  refine ⟨fun pins s σ H Q I h => ?_⟩
  refine wpAny_Call_Name_kw (ld_glob I hg hm ?_ hdb)
  exact PySem.W.callWith_K0 I.kIn m.kp (StX.run_makeR (us := []) (vs := []) m F (hr.mono hk) C8.pass0 I .nil h)
end
section
variable {cs : Held} {σ : L2.St} {G : Hp} {ta : TA} {C E : Addr} {U : List Str} {ps : List (Fn × Fn)} {b br : List (List Int)}
theorem gv_mkE (ok : MkOk ps U b br) (h : GvA cs ta σ G (PrA (PrL C U) ps)) : Gv cs (tMkE C E ta) σ G (ExR E (kindsOf U (sidesOf ps), redAll b)) := fun H a c Q q =>
  h H a c _ fun vs G1 H1 s1 u1 => fun x dx hx hdx hne => by
    have hx0 : upd H1 dx (.own x) x = none := by
      rw [upd_ne (Ne.symm hne)]
      exact hx
    have st0 : Stp G1 H1 G1 (upd H1 dx (.own x)) := Stp.held s1.gh hdx
    refine ⟨x, dx, vs, ps, U, b, br, G1, upd H1 dx (.own x), rfl, hx0, AcI.start st0.gh hx0, u1.now, ok, fun G' H' v1 v2 v3 v4 v5 I h2 h4 => ⟨rfl, ?_⟩⟩
    have st := I.fin' hx0
    refine q _ _ _ (s1.trans (st0.trans st)) (mon_ex.up ⟨x, dx, v1, v2, v3, v4, v5, rfl, upd_same, ?_, ?_⟩)
    · exact mon_tup mon_S _ _ _ _ (same_new I.nD) h2
    · exact mon_lst mon_vec _ _ _ _ (same_new I.nD) h4
end
end Crt
end

section
/-! Dicts that change; methods; houses_of. -/
set_option autoImplicit false
namespace Crt
open PySem PySem.Spec PyProof.Rows L2
/-- a method that keeps a promise -/
def MetP (P : Program) (w : World) (K : PySem.W.Frag) (mg : Str → Option Value) (base : Heap) (k : Nat) (C : Addr) (m : Str) (sp : Sp) : Prop := ∃ f, Meth K C m f ∧ C8.CalAt P w K mg base k f sp
section
variable {X : Cx} {k j : Nat} {C : Addr} {m : Str} {sp : Sp} {o e : Expr} {es : List Expr} {ta : TE} {t : TA} {apos pos : Pos}
theorem pe_metP {pl : Sem Bool} (D : MetP X.prog X.w X.K X.mg X.base k C m sp) (c : Cls X.K C) (hr : Room j X.A) (hk : k ≤ j) (he : PE X o ta) (ha : PA X (e :: es) t)
    (hst : starEach (e :: es) X.env = (false, eval e X.env) :: starEach es X.env := by rfl) (hpl : (backTo pos (starEach es X.env)).any (·.1) = false := by rfl)
    (ht : eval (.Call (.Attribute o m apos) (e :: es) [] pos) X.env = (do
      let ov ← eval o X.env
      standAt apos.atName
      let (f, first) ← holding [ov] (getMethod ov m pl)
      callWith pos f first (backTo pos (starEach (e :: es) X.env)) (backToKw pos (keywordEach [] X.env))) := by rfl) : PE X (.Call (.Attribute o m apos) (e :: es) [] pos) (tMeth C m sp [] C8.E0 ta t) := by
  obtain ⟨f, hm, ⟨fd, ps, F, kp, b⟩⟩ := D
  exact pe_meth he c hm F (hr.mono hk) b .nil C8.pass0 ha hst hpl ht
end
section
variable {α β κ : Type} [DecidableEq κ] {K : KK κ} {R : α → PV} {R' : β → PV} {σ : L2.St} {G H : Hp} {cs : Held} {ws : List Nat} {wi : TI} {g : TG} {tt : TT} {ty tv td : TE} {D : Ends}
/-- {ty: tv for g in wi if tt}, that will change -/
theorem dq_open {cs1 : Held} {xs : List α} {p : α → Bool} {kf : α → κ} {vf : α → β} (m' : MonR R') (hs : Src wi σ cs cs1 G xs R) (hn : xs.length ≤ 100000)
    (turn : ∀ (v : V) (x : α) (G1 : Hp), x ∈ xs → Same G G1 → Up (R x v) G1 → ∃ σ2, (∀ H1, Same G1 H1 → ∀ Q, Q σ2 H1 → g v (wipe σ ws) H1 Q) ∧ wipe σ2 ws = wipe σ ws ∧ GvT cs1 tt σ2 G1 (p x) ∧ (p x = true → Gv cs1 ty σ2 G1 (K.kr (kf x)) ∧ Gv cs1 tv σ2 G1 (R' (vf x))))
    (a : Same G H) (c : Hold cs H) {Q : VK} (q : ∀ d G0 H0 G' H' us, Stp G H G0 H0 → H0 d = none → AcI G0 H0 d (K.ho us) G' H' → DPr R' us (putAll [] ((xs.filter p).map fun x => (kf x, vf x))) G' → Q (.ref d) H') :
    tDq K.tk wi g tt ty tv ws σ H Q :=
  hs H a c _ fun J G1 H1 s1 c1 W D hD => by
    rw [← K.e0]
    refine ⟨fun i m Hc => m = xs.length - i ∧ i ≤ xs.length ∧ ∃ Gc us, AcI G1 H1 D (K.ho us) Gc Hc ∧ us.length ≤ i ∧ DPr R' us (putAll [] (((xs.take i).filter p).map fun x => (kf x, vf x))) Gc, ⟨_, rfl, Nat.zero_le _, G1, [], AcI.start s1.gh hD, Nat.zero_le _, .nil⟩, ?_⟩
    rintro i m Hc ⟨rfl, hi, Gc, us, I, hl, pr⟩
    by_cases hlt : i < xs.length
    · have hx : xs[i]? = some xs[i] := List.getElem?_eq_getElem hlt
      obtain ⟨hgo, hy⟩ := W.go hx (c1.on I.hh) I.gg I.gh
      refine .inr ⟨hgo, fun H' => ∃ Gc us, AcI G1 H1 D (K.ho us) Gc H' ∧ us.length ≤ i + 1 ∧ DPr R' us (putAll [] (((xs.take (i + 1)).filter p).map fun x => (kf x, vf x))) Gc, fun H' h => ⟨xs.length - (i + 1), by omega, rfl, hlt, h⟩, fun v H' hv => ?_⟩
      obtain ⟨G2, s2, ur⟩ := hy v H' hv
      have I2 := I.step s2 (ho_not_tup K us)
      obtain ⟨σ2, hg, hw, ht, hb⟩ := turn v xs[i] G2 (List.mem_of_getElem? hx) (s1.gg.trans I2.gg) ur
      refine hg H' I2.gh _ ⟨hw, ht H' I2.gh (c1.on I2.hh) _ fun G3 H3 s3 => ?_⟩
      have I3 := I2.step s3 (ho_not_tup K us)
      have pr3 := (pr.on m' s2.gg).on m' s3.gg
      rw [take_snoc hx, filt_snoc]
      cases hp : p xs[i] with
      | false =>
        rw [if_neg Bool.false_ne_true]
        exact ⟨G3, us, I3, Nat.le_succ_of_le hl, by rw [if_neg Bool.false_ne_true, List.append_nil]; exact pr3⟩
      | true =>
        rw [if_pos rfl, if_pos rfl]
        obtain ⟨hk, hv⟩ := hb hp
        refine (hk.mono s3.gg) H3 s3.gh (c1.on I3.hh) _ fun y G4 H4 s4 uk => ?_
        have I4 := I3.step s4 (ho_not_tup K us)
        refine (hv.mono (s3.gg.trans s4.gg)) H4 s4.gh (c1.on I4.hh) _ fun z G5 H5 s5 uz => ?_
        have I5 := I4.step s5 (ho_not_tup K us)
        refine ⟨_, K.put I5.at_ (K.mono _ _ _ _ s5.gh (uk.on s5.gg).now) (Nat.lt_of_le_of_lt (Nat.le_trans hl (Nat.le_of_lt (Nat.lt_of_lt_of_le hlt hn))) (by decide)), G5, _, I5.set hD _, Nat.le_trans (putA_len _ _ _) (Nat.succ_le_succ hl), ?_⟩
        rw [putAll_snoc]
        exact paired_put (R := fun z b => R' b z G5) ((pr3.on m' s4.gg).on m' s5.gg) _ uz.now
    · obtain rfl : i = xs.length := by omega
      rw [List.take_length] at pr
      exact .inl ⟨W.stop (c1.on I.hh) I.gg I.gh, q D G1 H1 Gc Hc us s1 hD I pr⟩
/-- d[y], d may change -/
theorem gv_dgetH {d : Addr} {us : List (κ × V)} {kvs : List (κ × β)} {k : κ} {b : β} (m' : MonR R') (hd : Gv [(d, K.ho us)] td σ G (IsV (.ref d))) (p : DPr R' us kvs G) (hk : Gv [(d, K.ho us)] ty σ G (K.kr k)) (hv : valA kvs k = some b) : Gv [(d, K.ho us)] (tDGet td ty) σ G (R' b) := fun H a c Q q =>
  hd H a c _ fun x G1 H1 s1 ux => (hk.mono s1.gg) H1 s1.gh (c.on s1.hh) _ fun y G2 H2 s2 uy => by
    obtain rfl : x = .ref d := ux.now
    have p2 : DPr R' us kvs G2 := p.on m' (s1.gg.trans s2.gg)
    obtain ⟨z, hz, r⟩ := (paired_val (R := fun z b => R' b z G2) p2 k).1 b hv
    exact ⟨d, z, rfl, by rw [← hz]; exact K.get (.inl (c.on (s1.hh.trans s2.hh)).hd) (K.mono _ _ _ _ s2.gh uy.now), q z G2 H2 (s1.trans s2) (m'.up r)⟩
/-- d.get(y, x), d may change -/
theorem gv_dget2H {d : Addr} {us : List (κ × V)} {kvs : List (κ × β)} {k : κ} {b : β} {tx : TE} (m' : MonR R') (hd : Gv [(d, K.ho us)] td σ G (IsV (.ref d))) (p : DPr R' us kvs G) (hk : Gv [(d, K.ho us)] ty σ G (K.kr k)) (hx : Gv [(d, K.ho us)] tx σ G (R' b)) : Gv [(d, K.ho us)] (tDGet2 td ty tx) σ G (R' ((valA kvs k).getD b)) := fun H a c Q q =>
  hd H a c _ fun x G1 H1 s1 ux => by
    obtain rfl : x = .ref d := ux.now
    have isd : ∀ {Hc : Hp}, Hc d = some (K.ho us) → IsD Hc d := fun {Hc} h => by
      rcases K.isd us with ⟨l, e⟩ | ⟨l, e⟩
      · exact .inl ⟨l, .inl (by rw [h, e])⟩
      · exact .inr ⟨l, .inl (by rw [h, e])⟩
    refine ⟨d, rfl, isd (c.on s1.hh).hd, (hk.mono s1.gg) H1 s1.gh (c.on s1.hh) _ fun y G2 H2 s2 uy => (hx.mono (s1.gg.trans s2.gg)) H2 s2.gh (c.on (s1.hh.trans s2.hh)) _ fun z G3 H3 s3 uz => ?_⟩
    have g := K.get (.inl (c.on (s1.hh.trans (s2.hh.trans s3.hh))).hd) (K.mono _ _ _ _ s3.gh (uy.on s3.gg).now)
    refine ⟨_, g, q _ G3 H3 ((s1.trans s2).trans s3) ?_⟩
    have p3 : DPr R' us kvs G3 := p.on m' (s1.gg.trans (s2.gg.trans s3.gg))
    obtain ⟨p1, p2⟩ := paired_val (R := fun z b => R' b z G3) p3 k
    cases hv : valA kvs k with
    | none =>
      rw [p2 hv]
      exact uz
    | some b' =>
      obtain ⟨z', hz, r⟩ := p1 b' hv
      rw [hz]
      exact m'.up r
/-- d[y] = v -/
theorem dput_gv {d : Addr} {us : List (κ × V)} {kvs : List (κ × β)} {k : κ} {b : β} {G0 H0 Gc Hc : Hp} (m' : MonR R') (hv : Gv [(d, K.ho us)] tv σ Gc (R' b)) (hd : ∀ {G}, Same Gc G → Gv [(d, K.ho us)] td σ G (IsV (.ref d))) (hk : Gv [(d, K.ho us)] ty σ Gc (K.kr k)) (I : AcI G0 H0 d (K.ho us) Gc Hc) (hD : H0 d = none) (p : DPr R' us kvs Gc) (hl : us.length ≤ 1000)
    (kk : ∀ z G1 H1, Same Gc G1 → AcI G0 H0 d (K.ho (putA us k z)) G1 H1 → DPr R' (putA us k z) (putA kvs k b) G1 → D.nx σ H1) : sDPut td ty tv D σ Hc :=
  hv Hc I.gh (hold_one I.at_) _ fun z G1 H1 s1 uz => by
    have I1 := I.step s1 (ho_not_tup K us)
    refine (hd s1.gg) H1 s1.gh (hold_one I1.at_) _ fun x G2 H2 s2 ux => ?_
    obtain rfl : x = .ref d := ux.now
    have I2 := I1.step s2 (ho_not_tup K us)
    refine (hk.mono (s1.gg.trans s2.gg)) H2 s2.gh (hold_one I2.at_) _ fun y G3 H3 s3 uy => ?_
    have I3 := I2.step s3 (ho_not_tup K us)
    refine ⟨d, _, rfl, K.put I3.at_ (K.mono _ _ _ _ s3.gh uy.now) (Nat.lt_of_le_of_lt hl (by decide)), kk z G3 _ (s1.gg.trans (s2.gg.trans s3.gg)) (I3.set hD _) ?_⟩
    exact paired_put (R := fun z b => R' b z G3) (p.on m' (s1.gg.trans (s2.gg.trans s3.gg))) k ((uz.on (s2.gg.trans s3.gg)).now)
/-- d, from here on unchanged -/
theorem gv_frzH {d : Addr} {us : List (κ × V)} {kvs : List (κ × β)} {G0 H0 Gc Hc : Hp} {te : TE} (m' : MonR R') (h : Gv [(d, K.ho us)] te σ Gc (IsV (.ref d))) (I : AcI G0 H0 d (K.ho us) Gc Hc) (hD : H0 d = none) (p : DPr R' us kvs Gc) {Q : VK}
    (q : ∀ v G' H', Stp G0 H0 G' H' → Same Gc G' → Up (Dic K R' kvs v) G' → Q v H') : tFz te σ Hc Q :=
  h Hc I.gh (hold_one I.at_) _ fun x G1 H1 s1 ux => by
    obtain rfl : x = .ref d := ux.now
    have I1 := I.step s1 (ho_not_tup K us)
    refine ⟨d, _, rfl, I1.at_, K.mu us, fun ob => q _ _ _ (I1.fin hD (.frz ob (K.ho us))) (s1.gg.trans (same_new I1.nD)) ((mon_dic m').up ⟨d, ob, us, rfl, upd_same, p.on m' (s1.gg.trans (same_new I1.nD))⟩)⟩
end
end Crt
end

section
/-! houses_of, net_loads. -/
set_option autoImplicit false
namespace Crt
open PySem PySem.Spec PyProof.Rows L2
abbrev Debts := List ((Str × Str) × Fn)
def housesOf (d : Debts) : List Str := srtS ((d.map (·.1)).flatMap fun p => [p.1, p.2])
def getF (acc : List (Str × Fn)) (k : Str) : Fn := (valA acc k).getD fun _ => 0
def netStep (acc : List (Str × Fn)) (p : (Str × Str) × Fn) : List (Str × Fn) :=
  putA (putA acc p.1.1 fun k => getF acc p.1.1 k + p.2 k) p.1.2 fun k => getF (putA acc p.1.1 fun k => getF acc p.1.1 k + p.2 k) p.1.2 k - p.2 k
def nets0 (d : Debts) : List (Str × Fn) := putAll [] (((housesOf d).filter fun _ => true).map fun h => (h, fun _ => 0))
def netsOf (d : Debts) : List (Str × Fn) := d.foldl netStep (nets0 d)
def spHouses (C : Addr) : Sp := SpF (α := Debts × List Str) (fun x vs G => ∃ v, vs = [v] ∧ Dic KP (LdU C x.2) x.1 v G ∧ x.1.length ≤ 30) (fun x => LstR IsS (housesOf x.1))
/-- what plain needs -/
def PlOk (ks : List Str) (b : List (List Int)) (U : List Str) : Prop := ks.Nodup ∧ (∀ k ∈ ks, k ∈ U) ∧ ks.length ≤ 6 ∧ b.length ≤ 1000 ∧ U.length ≤ 6
def plainD (ks : List Str) (b : List (List Int)) (l : List (Str × Fn)) : List (Str × Fn) := putAll [] ((l.filter fun _ => true).map fun p => (p.1, plainF ks b p.2))
def spNets (C E : Addr) : Sp := SpF (α := (List Str × List (List Int)) × Debts × List Str) (fun x vs G => ∃ u v, vs = [u, v] ∧ ExR E x.1 u G ∧ Dic KP (LdU C x.2.2) x.2.1 v G ∧ x.2.1.length ≤ 30 ∧ PlOk x.1.1 x.1.2 x.2.2 ∧ ∀ p ∈ netsOf x.2.1, RedOk x.1.1.length x.1.2 (x.1.1.map p.2)) (fun x => Dic KS (LdU C x.2.2) (plainD x.1.1 x.1.2 (netsOf x.2.1)))
theorem putA_same {κ β : Type} [DecidableEq κ] {l : List (κ × β)} {k : κ} {b : β} (h : k ∈ l.map (·.1)) : (putA l k b).map (·.1) = l.map (·.1) := by
  unfold putA
  have e : (l.any fun p => decide (p.1 = k)) = true := by
    obtain ⟨p, hp, rfl⟩ := List.mem_map.mp h
    exact List.any_eq_true.mpr ⟨p, hp, by simp⟩
  rw [if_pos e, List.map_map]
  refine List.map_congr_left fun p _ => ?_
  show (if p.1 = k then (p.1, b) else p).1 = p.1
  split <;> rfl
theorem nets0_eq (d : Debts) : nets0 d = (housesOf d).map fun h => (h, fun _ => 0) := by
  unfold nets0
  rw [filt_all]
  have := putAll_new (l := []) ((housesOf d).map fun h => (h, (fun _ => 0 : Fn))) (by
    rw [List.nil_append, List.map_map]
    show ((housesOf d).map fun h => h).Nodup
    rw [List.map_id']
    exact ascS_nodup (srtS_asc _))
  simpa using this
theorem nets0_keys (d : Debts) : (nets0 d).map (·.1) = housesOf d := by
  rw [nets0_eq, List.map_map]
  show (housesOf d).map (fun h => h) = _
  rw [List.map_id']
theorem mem_houses {d : Debts} {p : (Str × Str) × Fn} (h : p ∈ d) : p.1.1 ∈ housesOf d ∧ p.1.2 ∈ housesOf d :=
  ⟨srtS_mem.mpr (List.mem_flatMap.mpr ⟨p.1, List.mem_map.mpr ⟨p, h, rfl⟩, List.mem_cons_self⟩), srtS_mem.mpr (List.mem_flatMap.mpr ⟨p.1, List.mem_map.mpr ⟨p, h, rfl⟩, List.mem_cons_of_mem _ List.mem_cons_self⟩)⟩
theorem netStep_keys {hs : List Str} {acc : List (Str × Fn)} {p : (Str × Str) × Fn} (h : acc.map (·.1) = hs) (h1 : p.1.1 ∈ hs) (h2 : p.1.2 ∈ hs) : (netStep acc p).map (·.1) = hs := by
  have e1 : (putA acc p.1.1 fun k => getF acc p.1.1 k + p.2 k).map (·.1) = hs := by rw [putA_same (by rw [h]; exact h1), h]
  unfold netStep
  rw [putA_same (by rw [e1]; exact h2), e1]
theorem nets_keys {d : Debts} : ∀ {l : Debts} {acc : List (Str × Fn)}, (∀ p ∈ l, p ∈ d) → acc.map (·.1) = housesOf d → (l.foldl netStep acc).map (·.1) = housesOf d
  | [], _, _, h => h
  | p :: l, acc, hl, h => nets_keys (d := d) (l := l) (fun q hq => hl q (List.mem_cons_of_mem _ hq)) (netStep_keys h (mem_houses (hl p List.mem_cons_self)).1 (mem_houses (hl p List.mem_cons_self)).2)
theorem getF_some {acc : List (Str × Fn)} {k : Str} (h : k ∈ acc.map (·.1)) : valA acc k = some (getF acc k) := by
  unfold getF
  cases e : valA acc k with
  | none => exact absurd h (valA_none.mp e)
  | some b => rfl
theorem housesOf_len (d : Debts) : (housesOf d).length ≤ 2 * d.length := by
  have e : ∀ l : List (Str × Str), (l.flatMap fun p => [p.1, p.2]).length = 2 * l.length := fun l => by
    induction l with
    | nil => rfl
    | cons p l ih =>
      show ([p.1, p.2] ++ l.flatMap fun p => [p.1, p.2]).length = _
      rw [List.length_append, ih]
      show 2 + 2 * l.length = 2 * (l.length + 1)
      omega
  refine Nat.le_trans (nodup_le (ascS_nodup (srtS_asc _)) fun _ h => srtS_mem.mp h) ?_
  rw [e, List.length_map]
  exact Nat.le_refl _
section
variable {P : Program} {w : World} {K : PySem.W.Frag} {mg : Str → Option Value} {base : Heap} {C E : Addr}
theorem ok_houses_of (F : Dfn K mg "houses_of" (top 27)) (mo : mg "sorted" = none) (ms : mg "set" = none) : CalP P w K mg base 1 "houses_of" (spHouses C) := by
  refine cal_of (N := ["pairs", "pair", "house"]) (ps := ["pairs"]) F (by decide +kernel) ?_ (fun _ _ _ _ _ _ us hl => match us, hl with | [_], _ => rfl) ?_
  · rintro vs H Q E ⟨x, G, _, ⟨v, e, _⟩, _⟩
    rw [e] <;> rfl
  · intro nd cdv f A outer s H vs Q E hr h
    refine ⟨_, pss_one (ps_ret (pe_callB (cr_sortS rfl hr.units) rfl mo boot_sorted (pa_cons (pe_callTy (cr_setS rfl) rfl ms boot_set (pa_cons (pe_lc2 (own := [("pair", 1), ("house", 2)]) (vs1 := [2]) (g := gName 1) (tt := tYes) (g1 := gName 2) (tt1 := tYes) (te := tVar 2) (wi1 := iTup K (tVar 1)) rfl nd (pi_keys (pv 0)) (blkOk_by (N := ["pairs", "pair", "house"]) (sc := C8.fnScope (top 27)) (by decide +kernel)) (by decide) (fun _ _ _ _ _ => pg_name (i := 1) nd rfl (Or.inl rfl)) (fun _ _ _ _ _ => pts_nil)
      (fun _ _ _ _ _ => pi_tup (pv 1)) (fun _ _ _ _ _ => pg_name (i := 2) nd rfl (Or.inl rfl)) (fun _ _ _ _ _ => pts_nil) (fun _ _ _ _ _ => pv 2)) pa_nil)) pa_nil))), ?_⟩
    obtain ⟨⟨d, U⟩, G, eG, ⟨v, rfl, hl, hn⟩, k⟩ := h
    dsimp only at hl hn k
    have z := gv_lc2 (cs := []) (cs1 := []) (σ := [some v, none, none]) (G := G) (g := gName 1) (g1 := gName 2) (ws := [1, 2]) (ws1 := [2]) (te := tVar 2) (wi := iKeys (tVar 0)) (wi1 := iTup K (tVar 1)) (S := IsS) (zs := fun p : Str × Str => [p.1, p.2]) (f := fun _ y => y) mon_S (src_keysP (gv_var rfl ((mon_dic (mon_ldU (C := C) (U := U))).up hl))) ?_ ?_
    · have e : ((d.map (·.1)).flatMap fun p => [p.1, p.2].map fun y => y) = (d.map (·.1)).flatMap fun p => [p.1, p.2] := rfl
      rw [e] at z
      have hlen : ((d.map (·.1)).flatMap fun p => [p.1, p.2]).length ≤ 1000 := by
        clear z e hl k
        have e : ∀ l : List (Str × Str), (l.flatMap fun p => [p.1, p.2]).length = 2 * l.length := fun l => by
          induction l with
          | nil => rfl
          | cons p l ih =>
            show ([p.1, p.2] ++ l.flatMap fun p => [p.1, p.2]).length = _
            rw [List.length_append, ih]
            show 2 + 2 * l.length = 2 * (l.length + 1)
            omega
        rw [e, List.length_map]
        omega
      exact gv_sortS (cs := []) hlen (gv_setS hlen z) H eG hold_nil _ k
    · have e : ∀ l : List (Str × Str), (l.flatMap fun p => [p.1, p.2].map fun y => y).length = 2 * l.length := fun l => by
        induction l with
        | nil => rfl
        | cons p l ih =>
          show ([p.1, p.2] ++ l.flatMap fun p => [p.1, p.2].map fun y => y).length = _
          rw [List.length_append, ih]
          show 2 + 2 * l.length = 2 * (l.length + 1)
          omega
      rw [e, List.length_map]
      omega
    · rintro v p G1 hf e u
      refine ⟨_, tg_name, rfl, src_tup mon_S (gv_var rfl (u.imp fun G ⟨b, e, h⟩ => ⟨b, _, e, h, .cons rfl (.cons rfl .nil)⟩)), ?_⟩
      rintro u2 y G2 hy e2 uy
      obtain rfl := uy.now
      exact ⟨_, tg_name, rfl, gv_vs rfl⟩
end
end Crt
end

section
/-! x = {k: v for ..}. -/
set_option autoImplicit false
namespace Crt
open PySem PySem.Spec PyProof.Rows L2
section
variable {X : Cx}
theorem ps_setDq {tk : Bool} {i : Nat} {y : Str} {py : Pos} {kx vx tg iter : Expr} {ifs : List Expr} {scope : Scope} {own : List (Str × Nat)} {pos spos : Pos} {wi : TI} {g : TG} {tt : TT} {ty tv : TE} (hc : X.calm = true) (hu : X.A.units + 1 < cLine) (hN : X.N.Nodup) (hy : X.N[i]? = some y) (hyl : X.env.scope.names.lookup y = some .local)
    (hsw : swapsWith (.DictComp kx vx [⟨tg, iter, ifs, 0⟩] scope pos) (some (.Name y py)) spos.line X.env = pure true) (hi : PI X tg iter wi) (ok : BlkOk X.N X.env.scope scope own)
    (hg : ∀ (s : Shared) (H : Hp) (C : Addr) (cl : List (Str × Addr)) (fp : List Addr), PG (X.blk s H scope (compEnvC scope cl C X.env) fp) tg g) (ht : ∀ (s : Shared) (H : Hp) (C : Addr) (cl : List (Str × Addr)) (fp : List Addr), PTs (X.blk s H scope (compEnvC scope cl C X.env) fp) ifs tt)
    (hk : ∀ (s : Shared) (H : Hp) (C : Addr) (cl : List (Str × Addr)) (fp : List Addr), PE (X.blk s H scope (compEnvC scope cl C X.env) fp) kx ty)
    (he : ∀ (s : Shared) (H : Hp) (C : Addr) (cl : List (Str × Addr)) (fp : List Addr), PE (X.blk s H scope (compEnvC scope cl C X.env) fp) vx tv) (hs : ∀ x, foldedSetIterable iter X.env x = pure x := by intro _; rfl) :
    PS X (.Assign [.Name y py] (.DictComp kx vx [⟨tg, iter, ifs, 0⟩] scope pos) spos) (tAsg (tDq tk wi g tt ty tv (own.map (·.2))) (gName i)) := by
  refine ⟨fun pins s σ H D I h => ?_⟩
  rw [exec_Assign_Name_used _ _ _ _ hsw]
  refine wpAny_bind (wpAny_standAt (wpAny_bind ?_))
  show wpAny _ X.A (do let _ ← comprehension (.DictComp kx vx [⟨tg, iter, ifs, 0⟩] scope pos) scope X.env (firstIterPos [⟨tg, iter, ifs, 0⟩] pos) newDict false (eval iter X.env) (some (assign (.Name y py) X.env))) _ _ s
  have q0 : tDq tk wi g tt ty tv (own.map (·.2)) σ H (fun x H1 => gName i x σ H1 D.nx) := h
  refine wpAny_bind (thn (dq_core (Qf := fun _ s' => SP X pins D .next s') hc hu hN I hi ok hg ht hk he hs q0 fun L C s' m H' I' q hn f => ?_) fun _ s' hq => wpAny_pure (wpAny_pure hq))
  show wpAny _ _ (assign (.Name y py) X.env (.ref L)) _ _ _
  refine wpAny_assign_Name (store_ok2 (v := V.ref L) I' hN hy (.inl hyl) rfl (fun s2 I2 ⟨a, sb, ha⟩ => ?_) (.inr hyl))
  obtain ⟨f0, f1, f2, f3, f4, f5⟩ := f
  have haC : C ≠ a := by
    rcases ha with r | r
    · rw [r]
      exact f1
    · exact fun e => f4 y a r e.symm
  exact ⟨m, hn.sameBut sb haC, fun h3 sb3 => ⟨_, H', I2.turned (t' := s2.toks) (fun b o hb e => (sb3.2 b hb).trans e) f0 f1 f3 f4 f5, q⟩⟩
theorem sw_trueD {kx vx : Expr} {gs : List Comprehension} {scope : Scope} {pos py : Pos} {y : Str} {l : Nat} {env : Env} (hk : env.scope.kind = .function) (hy : env.scope.names.lookup y = some .local) (hl : (py.line == pos.line) = true)
    (ha : (scope.names.any fun (n, k) => n == y && (k == .local || k == .cell)) = false) : swapsWith (.DictComp kx vx gs scope pos) (some (.Name y py)) l env = pure true := by
  have ky : env.kindOf y = some .local := hy
  have hb : env.blockKind = .function := by
    unfold Env.blockKind
    rw [hk]
    rfl
  unfold swapsWith
  simp only [hb, ky, ha, Expr.pos, hl]
  rfl
end
end Crt
end

section
/-! net_loads. -/
set_option autoImplicit false
namespace Crt
open PySem PySem.Spec PyProof.Rows L2
section
variable {α : Type} {R : α → PV} {cs : Held} {σ : L2.St} {G H : Hp} {wi : TI} {g : TG} {tb : TS} {D : Ends} {xs : List α}
/-- a loop that changes what is being made -/
theorem forH_gv (hs : Src wi σ cs [] G xs R) (e : Same G H) (c : Hold cs H) (Iv : Nat → L2.St → Hp → Hp → Prop) (hsame : ∀ i σ Gc Hc, Iv i σ Gc Hc → Same Gc Hc) (h0 : ∀ G1 H1, Stp G H G1 H1 → Iv 0 σ G1 H1)
    (step : ∀ G1, Same G G1 → ∀ (i : Nat) (x : α) (v : V) σ2 Gc Hc G2 H2, xs[i]? = some x → Same G1 Gc → Iv i σ2 Gc Hc → Stp Gc Hc G2 H2 → Up (R x v) G2 →
      g v σ2 H2 fun σ3 H3 => tb { D with nx := fun σ' H' => ∃ G', Same G1 G' ∧ Iv (i + 1) σ' G' H', ct := fun σ' H' => ∃ G', Same G1 G' ∧ Iv (i + 1) σ' G' H', bk := D.nx } σ3 H3)
    (fin : ∀ σ2 Gc Hc, Same G Gc → Iv xs.length σ2 Gc Hc → D.nx σ2 Hc) : tFor wi g tb D σ H := hs H e c _ fun J G1 H1 s1 c1 W =>
  for_run W (fun i σ2 Gc Hc => Same G1 Gc ∧ Iv i σ2 Gc Hc) (fun i σ2 Gc Hc h => ⟨h.1, hsame _ _ _ _ h.2, hold_nil⟩) ⟨Same.refl _, h0 G1 H1 s1⟩
    (fun i x v σ2 Gc Hc G2 H2 hx h s u => step G1 s1.gg i x v σ2 Gc Hc G2 H2 hx h.1 h.2 s u) fun σ2 Gc Hc h => fin σ2 Gc Hc (s1.gg.trans h.1) h.2
end
/-- (i, j), l of a pair with a pair of texts -/
theorem tg_nest {α : Type} {R : α → PV} {K : PySem.W.Frag} {i j l : Nat} {p : (Str × Str) × α} {v : V} {σ : L2.St} {G : Hp} (h : PairR PrR R p v G) : ∃ y, R p.2 y G ∧ ∀ H1, Same G H1 → ∀ Q, Q (((σ.set i (some (.str p.1.1))).set j (some (.str p.1.2))).set l (some y)) H1 → gTup K 2 (gCons (gTup K 2 (gCons (gName i) (gCons (gName j) gNil))) (gCons (gName l) gNil)) v σ H1 Q := by
  obtain ⟨t, x, y, rfl, ht, ⟨b, rfl, hb⟩, hy⟩ := h
  refine ⟨y, hy, fun H1 e Q q => ?_⟩
  exact ⟨t, [.ref b, y], rfl, SqT.of (e _ _ ht), rfl, .ref b, [y], rfl, b, [.str p.1.1, .str p.1.2], rfl, SqT.of (e _ _ hb), rfl, .str p.1.1, [.str p.1.2], rfl, .str p.1.2, [], rfl, rfl, y, [], rfl, rfl, q⟩
section
variable {cs : Held} {σ : L2.St} {G : Hp} {ta tb : TE} {C E : Addr} {U : List Str} {f : Fn} {ks : List Str} {b : List (List Int)}
theorem gv_plain (hs : PlOk ks b U) (ok : RedOk ks.length b (ks.map f)) (ha : Gv cs ta σ G (ExR E (ks, b))) (hb : Gv cs tb σ G (LdR C U f)) : Gv cs (tMeth E "plain" (spPlain C E) [] C8.E0 ta (tCons tb tNil)) σ G (LdR C U (plainF ks b f)) := fun H e c Q q =>
  ha H e c _ fun x G1 H1 s1 u1 => by
    obtain ⟨a, dx, v1, v2, v3, v4, v5, rfl, h1, h2, h3⟩ := u1.now
    refine ⟨a, dx, _, rfl, s1.gh _ _ h1, rfl, (hb.mono s1.gg) H1 s1.gh (c.on s1.hh) _ fun y G2 H2 s2 u2 => ?_⟩
    obtain ⟨p1, p2, p3, p4, p5⟩ := hs
    exact ⟨((ks, b), f, U), G2, s2.gh, ⟨.ref a, y, rfl, (u1.on s2.gg).now, u2.now, p1, p2, p3, p4, ok⟩, fun v G3 H3 s3 u3 => q v G3 H3 ((s1.trans s2).trans s3) u3⟩
end
section
variable {P : Program} {w : World} {K : PySem.W.Frag} {mg : Str → Option Value} {base : Heap} {C E : Addr}
theorem ok_net_loads (F : Dfn K mg "net_loads" (top 28)) (cle : Cls K E) (hmL : mg "Load" = some (.ref C)) (M : MkL P w K mg base 3 C) (h1 : CalP P w K mg base 1 "houses_of" (spHouses C)) (sf : PySem.W.selfFirst K C = true) (ha : Dun P w K mg base 6 C "__add__" (spAdd C (· + ·))) (hsb : Dun P w K mg base 6 C "__sub__" (spAdd C (· - ·))) (hp : MetP P w K mg base 6 E "plain" (spPlain C E)) : CalP P w K mg base 7 "net_loads" (spNets C E) := by
  refine cal_of (N := ["exchanges", "debts", "found", "one", "other", "load", "house", "net"]) (ps := ["exchanges", "debts"]) F (by decide +kernel) ?_ (fun _ _ _ _ _ _ us hl => match us, hl with | [_, _], _ => rfl) ?_
  · rintro vs H Q E ⟨x, G, _, ⟨v, u, e, _⟩, _⟩
    rw [e] <;> rfl
  · intro nd cdv f A outer s H vs Q E' hr h
    have hu := hu_of hr
    obtain ⟨fa, a1, a2, a3, a4⟩ := ha
    obtain ⟨fs, b1, b2, b3, b4⟩ := hsb
    refine ⟨_, pss_cons (ps_setDq (tk := false) (i := 2) (own := [("house", 6)]) (g := gName 6) (tt := tYes) (ty := tVar 6) (tv := tMkL C tNil) rfl hu nd rfl rfl (sw_trueD rfl rfl rfl (by decide +kernel)) (pi_list (C8.pe_c h1 hr (by decide) rfl (pa_cons (pv 1) pa_nil))) (blkOk_by (N := ["exchanges", "debts", "found", "one", "other", "load", "house", "net"]) (sc := C8.fnScope (top 28)) (by decide +kernel)) (fun _ _ _ _ _ => pg_name (i := 6) nd rfl (Or.inl rfl)) (fun _ _ _ _ _ => pts_nil) (fun _ _ _ _ _ => pv 6) (fun _ _ _ _ _ => pe_mkL0 M hr (by decide) rfl hmL))
      (pss_cons (ps_for (tb := tSeq (sDPut (tVar 2) (tVar 3) (tOp (rOwnB C (spAdd C (· + ·))) (tDGet (tVar 2) (tVar 3)) (tVar 5))) (tSeq (sDPut (tVar 2) (tVar 4) (tOp (rOwnB C (spAdd C (· - ·))) (tDGet (tVar 2) (tVar 4)) (tVar 5))) tNext)) PassesOwn.never rfl (pi_itemsT (pv 1)) (pg_tup rfl (pgs_cons (pg_tup rfl (pgs_cons (pg_name (i := 3) nd rfl (Or.inl rfl)) (pgs_cons (pg_name (i := 4) nd rfl (Or.inl rfl)) pgs_nil))) (pgs_cons (pg_name (i := 5) nd rfl (Or.inl rfl)) pgs_nil)))
        (pss_cons (ps_dput hu (pv 2) (pv 3) (pe_op (op_ownB (C := C) (f := fa) (k := 6) sf a1 a2 a4 hr) (pe_dget hu (pv 2) (pv 3) (fun _ _ => rfl)) (pv 5)) rfl)
        (pss_one (ps_dput hu (pv 2) (pv 4) (pe_op (op_ownB (C := C) (f := fs) (k := 6) sf b1 b2 b4 hr) (pe_dget hu (pv 2) (pv 4) (fun _ _ => rfl)) (pv 5)) rfl))))
      (pss_one (ps_ret (pe_fz (pe_dq (tk := false) (own := [("house", 6), ("net", 7)]) (g := gTup K 2 (gCons (gName 6) (gCons (gName 7) gNil))) (tt := tYes) (ty := tVar 6) (tv := tMeth E "plain" (spPlain C E) [] C8.E0 (tVar 0) (tCons (tVar 7) tNil)) rfl hu nd (pi_items (pe_fz (pv 2))) (blkOk_by (N := ["exchanges", "debts", "found", "one", "other", "load", "house", "net"]) (sc := C8.fnScope (top 28)) (by decide +kernel)) (fun _ _ _ _ _ => pg_tup rfl (pgs_cons (pg_name (i := 6) nd rfl (Or.inl rfl)) (pgs_cons (pg_name (i := 7) nd rfl (Or.inl rfl)) pgs_nil))) (fun _ _ _ _ _ => pts_nil) (fun _ _ _ _ _ => pv 6) (fun _ _ _ _ _ => pe_metP hp cle hr (by decide) (pv 0) (pa_cons (pv 7) pa_nil))))))), ?_⟩
    obtain ⟨⟨⟨ks, b⟩, d, U⟩, G, eG, ⟨u, v, rfl, hx, hl, hn, pok, red⟩, k⟩ := h
    dsimp only at hx hl hn pok red k
    have ux := mon_ex.up hx
    have ul := (mon_dic (mon_ldU (C := C) (U := U))).up hl
    have hln := housesOf_len d
    show tSeq _ _ _ [some u, some v, none, none, none, none, none, none] H
    refine seq_go (dq_open (K := KS) (cs := []) (cs1 := []) (R := IsS) (kf := fun h : Str => h) (vf := fun _ => (fun _ => 0 : Fn)) (p := fun _ => true) (mon_ldU (C := C) (U := U)) (src_list mon_S (gv_callE (φ := LstR IsS (housesOf d)) (α := Debts × List Str) (d, U) (ga_imp (ga_1 (gv_var rfl ul)) fun vs G ⟨v, e, h⟩ => ⟨v, e, h, hn⟩) rfl)) (by omega) ?_ eG hold_nil fun D0 G0 H0 G1 H1 us s0 hD I1 pr1 => ?_)
    · rintro z x G1 hx1 e uz
      obtain rfl := uz.now
      exact ⟨_, tg_name, rfl, gt_yes, fun _ => ⟨gv_vs rfl, gv_mkL0 pok.2.2.2.2⟩⟩
    show tSeq _ _ _ [some u, some v, some (.ref D0), none, none, none, none, none] H1
    have e01 : Same G G1 := s0.gg.trans I1.gg
    refine seq_go (forH_gv (cs := []) (src_itemsP (mon_ldU (C := C) (U := U)) (gv_var rfl (ul.on e01))) I1.gh hold_nil (fun i σ Gc Hc => ∃ us o3 o4 o5, σ = [some u, some v, some (.ref D0), o3, o4, o5, none, none] ∧ AcI G0 H0 D0 (KS.ho us) Gc Hc ∧ DPr (LdU C U) us ((d.take i).foldl netStep (nets0 d)) Gc) (fun i σ Gc Hc ⟨_, _, _, _, _, I, _⟩ => I.gh) (fun G2 H2 s2 => ⟨us, none, none, none, rfl, I1.step s2 (ho_not_tup KS us), pr1.on mon_ldU s2.gg⟩) ?_ ?_)
    · rintro G2 s2 i p x σ2 Gc Hc G3 H3 hi sc ⟨us, o3, o4, o5, rfl, I, pr⟩ s3 hu3
      have hpd : p ∈ d := List.mem_of_getElem? hi
      obtain ⟨y, hy, tg⟩ := tg_nest (K := K) (i := 3) (j := 4) (l := 5) (σ := [some u, some v, some (.ref D0), o3, o4, o5, none, none]) hu3.now
      refine tg H3 s3.gh _ ?_
      have I3 := I.step s3 (ho_not_tup KS us)
      have pr3 := pr.on mon_ldU s3.gg
      have keys := nets_keys (d := d) (l := d.take i) (acc := nets0 d) (fun q hq => List.mem_of_mem_take hq) (nets0_keys d)
      have kus : us.length ≤ 60 := by
        have e1 := Paired.length pr
        have e2 := congrArg List.length keys
        rw [List.length_map] at e2
        omega
      have hm := mem_houses hpd
      have uy : Up (LdR C U p.2 y) G3 := mon_ld.up hy
      show tSeq _ _ _ [some u, some v, some (.ref D0), some (.str p.1.1), some (.str p.1.2), some y, none, none] H3
      refine seq_go (dput_gv (K := KS) (k := p.1.1) mon_ldU (gv_ownB (o := (· + ·)) (gv_dgetH (K := KS) (R' := LdU C U) mon_ldU (gv_v rfl) pr3 (gv_vs rfl) (getF_some (by rw [keys]; exact hm.1))) (gv_var rfl uy)) (fun _ => gv_v rfl) (gv_vs rfl) I3 hD pr3 (by omega) fun z G4 H4 e4 I4 pr4 => ?_)
      have keys2 : (putA ((d.take i).foldl netStep (nets0 d)) p.1.1 fun k => getF ((d.take i).foldl netStep (nets0 d)) p.1.1 k + p.2 k).map (·.1) = housesOf d := by
        rw [putA_same (by rw [keys]; exact hm.1), keys]
      have kus2 : (putA us p.1.1 z).length ≤ 61 := Nat.le_trans (putA_len _ _ _) (Nat.succ_le_succ kus)
      refine dput_gv (K := KS) (k := p.1.2) mon_ldU (gv_ownB (o := (· - ·)) (gv_dgetH (K := KS) (R' := LdU C U) mon_ldU (gv_v rfl) pr4 (gv_vs rfl) (getF_some (by rw [keys2]; exact hm.2))) (gv_var rfl (uy.on e4))) (fun _ => gv_v rfl) (gv_vs rfl) I4 hD pr4 (by omega) fun z2 G5 H5 e5 I5 pr5 => ?_
      refine ⟨G5, sc.trans (s3.gg.trans (e4.trans e5)), _, _, _, _, rfl, I5, ?_⟩
      rw [take_snoc hi, List.foldl_append]
      exact pr5
    · rintro σ2 Gc Hc sc ⟨us, o3, o4, o5, rfl, I, pr⟩
      rw [List.take_length] at pr
      have keys := nets_keys (d := d) (l := d) (acc := nets0 d) (fun q hq => hq) (nets0_keys d)
      have hnl : (netsOf d).length ≤ 60 := by
        have e2 := congrArg List.length keys
        rw [List.length_map] at e2
        show (d.foldl netStep (nets0 d)).length ≤ 60
        omega
      show tFz (tVar 2) [some u, some v, some (.ref D0), o3, o4, o5, none, none] Hc fun x H1 => tFz (tDq KS.tk (iItems (tC x)) (gTup K 2 (gCons (gName 6) (gCons (gName 7) gNil))) tYes (tVar 6) (tMeth E "plain" (spPlain C E) [] C8.E0 (tVar 0) (tCons (tVar 7) tNil)) [6, 7]) [some u, some v, some (.ref D0), o3, o4, o5, none, none] H1 Q
      refine gv_frzH (K := KS) (mon_ldU (C := C) (U := U)) (gv_v rfl) I hD pr fun x G2 H2 s2 e2 u2 => ?_
      refine gv_dq (K := KS) (cs := []) (cs1 := []) (kf := fun p : Str × Fn => p.1) (vf := fun p => plainF ks b p.2) (p := fun _ => true) (mon_ldU (C := C) (U := U)) (src_itemsS mon_ldU (gv_c u2)) (by show (netsOf d).length ≤ 100000; omega) ?_ H2 s2.gh hold_nil _ fun v G' H' s3 u3 => k v G' H' (s0.trans (s2.trans s3)) u3
      rintro z p G3 hp e3 uz
      obtain ⟨t, x1, y1, rfl, ht, rfl, hy⟩ := uz.now
      exact ⟨_, tg_pair ht, rfl, gt_yes, fun _ => ⟨gv_vs rfl, gv_plain pok (red p hp) (gv_var rfl (ux.on (s0.gg.trans (I.gg.trans (e2.trans e3))))) (gv_var rfl (mon_ld.up hy))⟩⟩
end
end Crt
end

section
/-! after_rings: what it computes, its term. -/
set_option autoImplicit false
namespace Crt
open PySem PySem.Spec PyProof.Rows L2
def ltSb (x y : Str) : Bool := decide (x.cps.toList < y.cps.toList)
theorem ltSb_iff {x y : Str} : ltSb x y = true ↔ ltS x y := decide_eq_true_iff
def getP (acc : Debts) (q : Str × Str) : Fn := (valA acc q).getD fun _ => 0
def edges (row : List Str) : List (Str × Str) := row.zip (row.drop 1 ++ row.take 1)
def edgeKey (e : Str × Str) : Str × Str := if ltSb e.1 e.2 = true then (e.1, e.2) else (e.2, e.1)
def edgePart (e : Str × Str) (f : Fn) : Fn := if ltSb e.1 e.2 = true then f else fun k => -f k
def edgeDo (f : Fn) (acc : Debts) (e : Str × Str) : Debts := putA acc (edgeKey e) fun k => getP acc (edgeKey e) k - edgePart e f k
def ringDo (acc : Debts) (r : List Str × Fn) : Debts := (edges r.1).foldl (edgeDo r.2) acc
def debts0 (d : Debts) : Debts := putAll [] ((d.filter fun _ => true).map fun p => (p.1, p.2))
def afterDo (d : Debts) (rs : List (List Str × Fn)) : Debts := rs.foldl ringDo (debts0 d)
def plainR (ks : List Str) (b : List (List Int)) (acc : Debts) : Debts := putAll [] (((srtP (acc.map (·.1))).filter fun _ => true).map fun q => (q, plainF ks b (getP acc q)))
def keepR (U : List Str) (l : Debts) : Debts := putAll [] ((l.filter fun p => !(nf p.2 U).isEmpty).map fun p => (p.1, p.2))
def afterR (ks : List Str) (b : List (List Int)) (U : List Str) (d : Debts) (rs : List (List Str × Fn)) : Debts := keepR U (plainR ks b (afterDo d rs))
abbrev RgR (C : Addr) (U : List Str) : List Str × Fn → PV := PairR (TupR IsS) (LdU C U)
/-- .. and the value is a new object -/
def SpN {α : Type} (pre : α → List V → Hp → Prop) (post : α → PV) : Sp := fun vs H Q _ => ∃ x G, Same G H ∧ pre x vs G ∧ ∀ v G' H', Stp G H G' H' → Up (post x v) G' → (∃ d, v = .ref d ∧ H d = none) → Q v H'
def spAfter (C E : Addr) : Sp := SpN (α := (List Str × List (List Int)) × Debts × List (List Str × Fn) × List Str) (fun x vs G => ∃ u v r, vs = [u, v, r] ∧ ExR E x.1 u G ∧ Dic KP (LdU C x.2.2.2) x.2.1 v G ∧ LstR (RgR C x.2.2.2) x.2.2.1 r G ∧ x.2.1.length ≤ 15 ∧ x.2.2.1.length ≤ 20 ∧ (∀ q ∈ x.2.2.1, 2 ≤ q.1.length ∧ q.1.length ≤ 10) ∧ PlOk x.1.1 x.1.2 x.2.2.2 ∧ (afterDo x.2.1 x.2.2.1).length ≤ 15 ∧
    ∀ q ∈ (afterDo x.2.1 x.2.2.1).map (·.1), RedOk x.1.1.length x.1.2 (x.1.1.map (getP (afterDo x.2.1 x.2.2.1) q))) (fun x => Dic KP (LdU C x.2.2.2) (afterR x.1.1 x.1.2 x.2.2.2 x.2.1 x.2.2.1))
section
variable {cs : Held} {σ : L2.St} {G : Hp} {ta tb : TE} {C : Addr} {U : List Str} {f : Fn} {K : PySem.W.Frag} {row : List Str}
theorem gt_own (h : Gv cs ta σ G (LdR C U f)) : GvT cs (fun σ H Q => ta σ H fun x H' => rOwnT C (spTru C) x H' Q) σ G (!(nf f U).isEmpty) := fun H a c Q q =>
  h H a c _ fun x G1 H1 s1 u1 => by
    obtain ⟨p, dx, d, rfl, hp, _⟩ := u1.now.2.2
    exact ⟨p, dx, _, rfl, s1.gh _ _ hp, (f, U), G1, s1.gh, ⟨.ref p, rfl, u1.now⟩, fun v G2 H2 s2 u2 => ⟨_, u2.now, q _ _ (s1.trans s2)⟩⟩
theorem gv_negO (h : Gv cs ta σ G (LdR C U f)) : Gv cs (tUn (rOwn1 C (spNeg C)) ta) σ G (LdR C U fun k => -f k) :=
  gv_un h fun x G1 H1 s _ _ ux => fun Q q => by
    obtain ⟨a, dx, d, rfl, h1, _⟩ := ux.now.2.2
    exact ⟨a, dx, _, rfl, s _ _ h1, (f, U), G1, s, ⟨.ref a, rfl, ux.now⟩, q⟩
theorem gv_ltS {x y : Str} (ha : Gv cs ta σ G (IsS x)) (hb : Gv cs tb σ G (IsS y)) : Gv cs (tOp (fun x y H Q => ∃ i j, x = .str i ∧ y = .str j ∧ Q (.bl (decide (i.cps.toList < j.cps.toList))) H) ta tb) σ G (IsB (ltSb x y)) :=
  gv_op ha hb fun a b G1 H1 e _ _ ux uy => rv_at (v := .bl (ltSb x y)) e (up_c rfl) fun Q q => ⟨x, y, ux.now, uy.now, q⟩
/-- (x, y), two texts -/
theorem gv_key {x y : Str} (ha : Gv cs ta σ G (IsS x)) (hb : Gv cs tb σ G (IsS y)) : Gv cs (tTup (tCons ta (tCons tb tNil))) σ G (PrR (x, y)) :=
  (gv_pair mon_S mon_S ha hb).imp fun v G ⟨t, a, b, e, h, h1, h2⟩ => ⟨t, e, by rw [h, show a = .str x from h1, show b = .str y from h2]⟩
theorem cut_from {us : List V} : cutV us (some (1 : Int)) none = us.drop 1 := by
  unfold cutV
  rw [show (some (1 : Int)) = some ((1 : Nat) : Int) from rfl, HT.sIx_nat, HT.sIx_none]
  rcases Nat.le_total 1 us.length with h | h
  · rw [Nat.min_eq_left h, List.take_of_length_le (by rw [List.length_drop] <;> exact Nat.le_refl _)]
  · rw [Nat.min_eq_right h, List.drop_eq_nil_of_le h, List.drop_eq_nil_of_le (Nat.le_refl _), List.take_nil]
theorem cut_to {us : List V} : cutV us none (some (1 : Int)) = us.take 1 := by
  unfold cutV
  rw [show (some (1 : Int)) = some ((1 : Nat) : Int) from rfl, HT.sIx_nat, HT.sIx_none, List.drop_zero, Nat.sub_zero]
  rcases Nat.le_total 1 us.length with h | h
  · rw [Nat.min_eq_left h]
  · rw [Nat.min_eq_right h, List.take_of_length_le h, List.take_of_length_le (Nat.le_refl _)]
theorem pr_take {α β : Type} {P : α → β → Prop} : ∀ {xs : List α} {ys : List β}, Paired P xs ys → ∀ {i : Nat}, Paired P (xs.take i) (ys.take i)
  | _, _, .nil, _ => by rw [List.take_nil, List.take_nil]; exact .nil
  | _, _, .cons _ _, 0 => .nil
  | _, _, .cons h t, _ + 1 => .cons h (pr_take t)
/-- row[1:] + row[:1] -/
theorem gv_rot (h2 : 2 ≤ row.length) (hn : row.length ≤ 1000) (h : Gv cs ta σ G (TupR IsS row)) : Gv cs (tOp (rCatT K) (tSl (rSlT K) ta (tPart (tC (.int 1))) tNoPart) (tSl (rSlT K) ta tNoPart (tPart (tC (.int 1))))) σ G (TupR IsS (row.drop 1 ++ row.take 1)) := by
  have A : Gv cs (tSl (rSlT K) ta (tPart (tC (.int 1))) tNoPart) σ G (TupR IsS (row.drop 1)) := fun H a c Q q =>
    h H a c _ fun v G1 H1 s1 u1 => by
      obtain ⟨p, us, rfl, hp, pr⟩ := u1.now
      have hl : us.length = row.length := pr.length
      refine ⟨1, rfl, p, us, rfl, SqT.of (s1.gh _ _ hp), fun z => ?_, fun l hl' => ?_⟩
      · have z1 := z.1
        rw [show (some (1 : Int)) = some ((1 : Nat) : Int) from rfl, HT.sIx_nat, Nat.min_eq_left (by omega)] at z1
        exact absurd z1 (by decide)
      · rw [cut_from]
        exact q _ _ _ (s1.trans (Stp.laid s1.gh hl')) (tup_new mon_S (pr_drop pr) (s1.gh.free hl'))
  have B : Gv cs (tSl (rSlT K) ta tNoPart (tPart (tC (.int 1)))) σ G (TupR IsS (row.take 1)) := fun H a c Q q =>
    h H a c _ fun v G1 H1 s1 u1 => by
      obtain ⟨p, us, rfl, hp, pr⟩ := u1.now
      have hl : us.length = row.length := pr.length
      refine ⟨1, rfl, p, us, rfl, SqT.of (s1.gh _ _ hp), fun z => ?_, fun l hl' => ?_⟩
      · have z1 := z.2
        rw [show (some (1 : Int)) = some ((1 : Nat) : Int) from rfl, HT.sIx_nat, Nat.min_eq_left (by omega)] at z1
        omega
      · rw [cut_to]
        exact q _ _ _ (s1.trans (Stp.laid s1.gh hl')) (tup_new mon_S (pr_take pr) (s1.gh.free hl'))
  refine gv_op A B fun x y G1 H1 s _ _ ux uy => ?_
  obtain ⟨p, us, rfl, hp, pr⟩ := ux.now
  obtain ⟨p2, us2, rfl, hp2, pr2⟩ := uy.now
  have l1 := pr.length
  have l2 := pr2.length
  rw [List.length_drop] at l1
  rw [List.length_take, Nat.min_eq_left (by omega)] at l2
  refine rv_new s (fun q _ hq => tup_new mon_S (pr_app pr pr2) hq) fun Q k => ⟨p, p2, us, us2, rfl, rfl, SqT.of (s _ _ hp), SqT.of (s _ _ hp2), fun z => ?_, ?_, fun z => ?_, fun _ => k⟩
  · rw [z] at l1
    rw [List.length_nil] at l1
    omega
  · rw [sizeLine_eq]
    omega
  · rw [z] at l2
    cases l2
end
/-- what is walked is locked first -/
theorem asg_frz {tk : Bool} {K : PySem.W.Frag} {r1 r2 : List V → Hp → VK → Prop} {te ty tw : TE} {g gg : TG} {tt : TT} {ws : List Nat} {D : Ends} {σ : L2.St} {H : Hp} (h : tFz te σ H fun x H1 => tAsg (tDq tk (iList K (tCB r1 (tCons (tCB r2 (tCons (tC x) tNil)) tNil))) g tt ty tw ws) gg D σ H1) :
    tAsg (tDq tk (iList K (tCB r1 (tCons (tCB r2 (tCons (tFz te) tNil)) tNil))) g tt ty tw ws) gg D σ H := h
section
variable {β κ : Type} [DecidableEq κ] {K : KK κ} {R' : β → PV} {σ : L2.St}
/-- d, from here on unchanged, itself -/
theorem gv_frzR {d : Addr} {us : List (κ × V)} {kvs : List (κ × β)} {G0 H0 Gc Hc : Hp} {te : TE} (m' : MonR R') (h : Gv [(d, K.ho us)] te σ Gc (IsV (.ref d))) (I : AcI G0 H0 d (K.ho us) Gc Hc) (hD : H0 d = none) (p : DPr R' us kvs Gc) {Q : VK}
    (q : ∀ G' H', Stp G0 H0 G' H' → Same Gc G' → Up (Dic K R' kvs (.ref d)) G' → Q (.ref d) H') : tFz te σ Hc Q :=
  h Hc I.gh (hold_one I.at_) _ fun x G1 H1 s1 ux => by
    obtain rfl : x = .ref d := ux.now
    have I1 := I.step s1 (ho_not_tup K us)
    exact ⟨d, _, rfl, I1.at_, K.mu us, fun ob => q _ _ (I1.fin hD (.frz ob (K.ho us))) (s1.gg.trans (same_new I1.nD)) ((mon_dic m').up ⟨d, ob, us, rfl, upd_same, p.on m' (s1.gg.trans (same_new I1.nD))⟩)⟩
end
section
variable {P : Program} {w : World} {K : PySem.W.Frag} {mg : Str → Option Value} {base : Heap} {C E : Addr}
theorem ok_after_rings (F : Dfn K mg "after_rings" (top 29)) (cle : Cls K E) (hmL : mg "Load" = some (.ref C)) (mz : mg "zip" = none) (mo : mg "sorted" = none) (ms : mg "set" = none) (M : MkL P w K mg base 3 C) (sf : PySem.W.selfFirst K C = true) (hng : Dun P w K mg base 6 C "__neg__" (spNeg C)) (hsb : Dun P w K mg base 6 C "__sub__" (spAdd C (· - ·))) (hbl : Dun P w K mg base 1 C "__bool__" (spTru C)) (hp : MetP P w K mg base 6 E "plain" (spPlain C E)) : CalP P w K mg base 7 "after_rings" (spAfter C E) := by
  refine cal_of (N := ["exchanges", "debts", "rings", "found", "houses", "load", "one", "other", "pair", "part", "plain"]) (ps := ["exchanges", "debts", "rings"]) F (by decide +kernel) ?_ (fun _ _ _ _ _ _ us hl => match us, hl with | [_, _, _], _ => rfl) ?_
  · rintro vs H Q E ⟨x, G, _, ⟨v, u, r, e, _⟩, _⟩
    rw [e] <;> rfl
  · intro nd cdv f A outer s H vs Q E' hr h
    have hu := hu_of hr
    obtain ⟨fn, a1, a2, a3, a4⟩ := hng
    obtain ⟨fs, b1, b2, b3, b4⟩ := hsb
    obtain ⟨fb, c1, c2, c3, c4⟩ := hbl
    refine ⟨_, pss_cons (ps_set (i := 3) nd rfl (Or.inr rfl) (pe_dq (tk := true) (own := [("pair", 8), ("load", 5)]) (g := gTup K 2 (gCons (gName 8) (gCons (gName 5) gNil))) (tt := tYes) (ty := tVar 8) (tv := tVar 5) rfl hu nd (pi_itemsT (pv 1)) (blkOk_by (N := ["exchanges", "debts", "rings", "found", "houses", "load", "one", "other", "pair", "part", "plain"]) (sc := C8.fnScope (top 29)) (by decide +kernel)) (fun _ _ _ _ _ => pg_tup rfl (pgs_cons (pg_name (i := 8) nd rfl (Or.inl rfl)) (pgs_cons (pg_name (i := 5) nd rfl (Or.inl rfl)) pgs_nil))) (fun _ _ _ _ _ => pts_nil) (fun _ _ _ _ _ => pv 8) (fun _ _ _ _ _ => pv 5)))
      (pss_cons (ps_for PassesOwn.never rfl (pi_list (pv 2)) (pg_tup rfl (pgs_cons (pg_name (i := 4) nd rfl (Or.inl rfl)) (pgs_cons (pg_name (i := 5) nd rfl (Or.inl rfl)) pgs_nil)))
        (pss_one (ps_for PassesOwn.never rfl (RZ.pi_zipA rfl mz (pa_cons (pv 4) (pa_cons (pe_op op_catT (pe_slice sl_tup (pv 4) (po_some pe_int) po_none) (pe_slice sl_tup (pv 4) po_none (po_some pe_int))) pa_nil))) (pg_tup rfl (pgs_cons (pg_name (i := 6) nd rfl (Or.inl rfl)) (pgs_cons (pg_name (i := 7) nd rfl (Or.inl rfl)) pgs_nil)))
          (pss_cons (ps_asg (pe_ifExp (pt_cmpR op_lt_str (pv 6) (pv 7) (nomark _)) (pe_tup (pa_cons (pe_tup (pa_cons (pv 6) (pa_cons (pv 7) pa_nil))) (pa_cons (pv 5) pa_nil))) (pe_tup (pa_cons (pe_tup (pa_cons (pv 7) (pa_cons (pv 6) pa_nil))) (pa_cons (pe_un (un_ownNeg (C := C) (f := fn) (k := 6) a1 a2 a4 hr) (pv 5)) pa_nil)))) (pg_tup rfl (pgs_cons (pg_name (i := 8) nd rfl (Or.inl rfl)) (pgs_cons (pg_name (i := 9) nd rfl (Or.inl rfl)) pgs_nil))))
          (pss_one (ps_dput hu (pv 3) (pv 8) (pe_op (op_ownB (C := C) (f := fs) (k := 6) sf b1 b2 b4 hr) (pe_dget2 hu (pv 3) (pv 8) (pe_mkL0 M hr (by decide) rfl hmL) ⟨by rfl, by rfl, by rfl, by rfl⟩) (pv 9)) rfl))))))
      (pss_cons (ps_setDq (tk := true) (i := 10) (own := [("pair", 8)]) (g := gName 8) (tt := tYes) (ty := tVar 8) (tv := tMeth E "plain" (spPlain C E) [] C8.E0 (tVar 0) (tCons (tDGet (tVar 3) (tVar 8)) tNil)) rfl hu nd rfl rfl (sw_trueD rfl rfl rfl (by decide +kernel)) (pi_list (pe_callB (cr_sortP rfl hr.units) rfl mo boot_sorted (pa_cons (pe_callTy (cr_setD rfl hr.units) rfl ms boot_set (pa_cons (pe_fz (pv 3)) pa_nil)) pa_nil))) (blkOk_by (N := ["exchanges", "debts", "rings", "found", "houses", "load", "one", "other", "pair", "part", "plain"]) (sc := C8.fnScope (top 29)) (by decide +kernel)) (fun _ _ _ _ _ => pg_name (i := 8) nd rfl (Or.inl rfl)) (fun _ _ _ _ _ => pts_nil) (fun _ _ _ _ _ => pv 8) (fun _ _ _ _ _ => pe_metP hp cle hr (by decide) (pv 0) (pa_cons (pe_dget hu (pv 3) (pv 8) (fun _ _ => rfl)) pa_nil)))
      (pss_one (ps_ret (pe_fz (pe_dq (tk := true) (own := [("pair", 8), ("load", 5)]) (g := gTup K 2 (gCons (gName 8) (gCons (gName 5) gNil))) (tt := fun σ H Q => (tVar 5) σ H fun x H' => rOwnT C (spTru C) x H' Q) (ty := tVar 8) (tv := tVar 5) rfl hu nd (pi_itemsT (pe_fz (pv 10))) (blkOk_by (N := ["exchanges", "debts", "rings", "found", "houses", "load", "one", "other", "pair", "part", "plain"]) (sc := C8.fnScope (top 29)) (by decide +kernel)) (fun _ _ _ _ _ => pg_tup rfl (pgs_cons (pg_name (i := 8) nd rfl (Or.inl rfl)) (pgs_cons (pg_name (i := 5) nd rfl (Or.inl rfl)) pgs_nil))) (fun _ _ _ _ _ => pts_one (pt_own (k := 1) c1 c2 c4 (hr.mono (by decide)) (pv 5) (by intro _; rfl))) (fun _ _ _ _ _ => pv 8) (fun _ _ _ _ _ => pv 5))))))), ?_⟩
    obtain ⟨⟨⟨ks, b⟩, d, rs, U⟩, G, eG, ⟨u, v, r, rfl, hx, hl, hr2, hn, hrn, hrow, pok, h15, red⟩, k⟩ := h
    dsimp only at hx hl hr2 hn hrn hrow pok h15 red k
    have mL : MonR (LdU C U) := mon_ldU
    have mG : MonR (RgR C U) := mon_pair (mon_tup mon_S) mL
    have ux := mon_ex.up hx
    have ul := (mon_dic (K := KP) mL).up hl
    have ur := (mon_lst mG).up hr2
    show tSeq _ _ _ [some u, some v, some r, none, none, none, none, none, none, none, none] H
    refine seq_go (dq_open (K := KP) (cs := []) (cs1 := []) (R := PairR PrR (LdU C U)) (kf := fun p : (Str × Str) × Fn => p.1) (vf := fun p => p.2) (p := fun _ => true) mL (src_itemsP mL (gv_var rfl ul)) (by omega) ?_ eG hold_nil fun D0 G0 H0 G1 H1 us s0 hD I1 pr1 => ?_)
    · rintro z p G1 hp e uz
      obtain ⟨t, x1, y1, rfl, ht, hx1, hy1⟩ := uz.now
      exact ⟨_, tg_pair ht, rfl, gt_yes, fun _ => ⟨gv_var rfl (mon_PrR.up hx1), gv_var rfl (mon_ld.up hy1)⟩⟩
    have e01 : Same G G1 := s0.gg.trans I1.gg
    have l0 : us.length ≤ 15 := by
      have e1 := Paired.length pr1
      have e2 := putAll_len ((d.filter fun _ => true).map fun p => (p.1, p.2)) ([] : Debts)
      rw [filt_all, List.length_map, List.length_nil] at e2
      rw [filt_all] at e1
      omega
    show tSeq _ _ _ [some u, some v, some r, some (.ref D0), none, none, none, none, none, none, none] H1
    refine seq_go (forH_gv (cs := []) (src_list mG (gv_var rfl (ur.on e01))) I1.gh hold_nil (fun i σ Gc Hc => ∃ us o4 o5 o6 o7 o8 o9, σ = [some u, some v, some r, some (.ref D0), o4, o5, o6, o7, o8, o9, none] ∧ AcI G0 H0 D0 (KP.ho us) Gc Hc ∧ DPr (LdU C U) us ((rs.take i).foldl ringDo (debts0 d)) Gc ∧ us.length ≤ 15 + 10 * i) (fun i σ Gc Hc ⟨_, _, _, _, _, _, _, _, I, _⟩ => I.gh) (fun G2 H2 s2 => ⟨us, none, none, none, none, none, none, rfl, I1.step s2 (ho_not_tup KP us), pr1.on mL s2.gg, by omega⟩) ?_ ?_)
    · rintro G2 s2 i q x σ2 Gc Hc G3 H3 hi sc ⟨us, o4, o5, o6, o7, o8, o9, rfl, I, pr, hlen⟩ s3 hu3
      have hq := hrow q (List.mem_of_getElem? hi)
      have hi20 : i < rs.length := (List.getElem?_eq_some_iff.mp hi).1
      obtain ⟨t, hv, lv, rfl, ht, hhv, hlv⟩ := hu3.now
      refine tg_pair ht H3 s3.gh _ ?_
      have I3 := I.step s3 (ho_not_tup KP us)
      have pr3 := pr.on mL s3.gg
      have uh : Up (TupR IsS q.1 hv) G3 := (mon_tup mon_S).up hhv
      have uf : Up (LdR C U q.2 lv) G3 := mon_ld.up hlv
      show tFor _ _ _ _ [some u, some v, some r, some (.ref D0), some hv, some lv, o6, o7, o8, o9, none] H3
      refine forH_gv (cs := []) (src_zipT (xs := q.1) (ys := q.1.drop 1 ++ q.1.take 1) mon_S mon_S (ga_2 (gv_var rfl uh) (gv_rot hq.1 (by omega) (gv_var rfl uh)))) I3.gh hold_nil (fun j σ Gc Hc => ∃ us o6 o7 o8 o9, σ = [some u, some v, some r, some (.ref D0), some hv, some lv, o6, o7, o8, o9, none] ∧ AcI G0 H0 D0 (KP.ho us) Gc Hc ∧ DPr (LdU C U) us (((edges q.1).take j).foldl (edgeDo q.2) ((rs.take i).foldl ringDo (debts0 d))) Gc ∧ us.length ≤ 15 + 10 * i + j) (fun i σ Gc Hc ⟨_, _, _, _, _, _, I, _⟩ => I.gh) (fun G4 H4 s4 => ⟨us, o6, o7, o8, o9, rfl, I3.step s4 (ho_not_tup KP us), pr3.on mL s4.gg, by omega⟩) ?_ ?_
      · rintro G4 s4 j e x σ3 Gd Hd G5 H5 hj sd ⟨us, o6, o7, o8, o9, rfl, Id, prd, hld⟩ s5 hu5
        have hj10 : j < (edges q.1).length := (List.getElem?_eq_some_iff.mp hj).1
        have hel : (edges q.1).length ≤ 10 := by
          unfold edges
          rw [List.length_zip]
          omega
        obtain ⟨t, x1, y1, rfl, ht, rfl, rfl⟩ := hu5.now
        refine tg_pair ht H5 s5.gh _ ?_
        have I5 := Id.step s5 (ho_not_tup KP us)
        have pr5 := prd.on mL s5.gg
        have e35 : Same G3 G5 := s4.trans (sd.trans s5.gg)
        show tSeq _ _ _ [some u, some v, some r, some (.ref D0), some hv, some lv, some (.str e.1), some (.str e.2), o8, o9, none] H5
        refine seq_go (set2_gv (cs := []) (R := PrR) (S := LdU C U) (p := (edgeKey e, edgePart e q.2)) (gv_if (b := ltSb e.1 e.2) (gt_test (gv_ltS (gv_vs rfl) (gv_vs rfl))) (fun hb => ?_) fun hb => ?_) I5.gh hold_nil fun kv pv G6 H6 s6 hk6 hp6 => ?_)
        · have e1 : (edgeKey e, edgePart e q.2) = ((e.1, e.2), q.2) := by
            unfold edgeKey edgePart
            rw [if_pos hb, if_pos hb]
          rw [e1]
          exact gv_pair mon_PrR mL (gv_key (gv_vs rfl) (gv_vs rfl)) (gv_var rfl (uf.on e35))
        · have e1 : (edgeKey e, edgePart e q.2) = ((e.2, e.1), fun k => -q.2 k) := by
            unfold edgeKey edgePart
            rw [if_neg (by rw [hb]; exact Bool.false_ne_true), if_neg (by rw [hb]; exact Bool.false_ne_true)]
          rw [e1]
          exact gv_pair mon_PrR mL (gv_key (gv_vs rfl) (gv_vs rfl)) (gv_negO (gv_var rfl (uf.on e35)))
        have I6 := I5.step s6 (ho_not_tup KP us)
        have pr6 := pr5.on mL s6.gg
        have uk : Up (PrR (edgeKey e) kv) G6 := mon_PrR.up hk6
        have up : Up (LdR C U (edgePart e q.2) pv) G6 := mon_ld.up hp6
        refine dput_gv (K := KP) (k := edgeKey e) mL (gv_ownB (o := (· - ·)) (gv_dget2H (K := KP) (R' := LdU C U) (b := fun _ => 0) mL (gv_v rfl) pr6 (gv_var rfl uk) (gv_mkL0 pok.2.2.2.2)) (gv_var rfl up)) (fun _ => gv_v rfl) (gv_var rfl uk) I6 hD pr6 (by omega) fun z G7 H7 e7 I7 pr7 => ?_
        refine ⟨G7, sd.trans (s5.gg.trans (s6.gg.trans e7)), _, _, _, _, _, rfl, I7, ?_, ?_⟩
        · have hj' : (edges q.1)[j]? = some e := hj
          rw [take_snoc hj', List.foldl_append]
          exact pr7
        · have := putA_len us (edgeKey e) z
          omega
      · rintro σ3 Gd Hd sd ⟨us, o6, o7, o8, o9, rfl, Id, prd, hld⟩
        have hel : (edges q.1).length ≤ 10 := by
          unfold edges
          rw [List.length_zip]
          omega
        refine ⟨Gd, sc.trans (s3.gg.trans sd), us, _, _, _, _, _, _, rfl, Id, ?_, ?_⟩
        · rw [take_snoc hi, List.foldl_append]
          have e1 : (edges q.1).take (q.1.zip (q.1.drop 1 ++ q.1.take 1)).length = edges q.1 := List.take_length
          rw [e1] at prd
          exact prd
        · have e1 : (q.1.zip (q.1.drop 1 ++ q.1.take 1)).length = (edges q.1).length := rfl
          omega
    · rintro σ2 Gc Hc sc ⟨us, o4, o5, o6, o7, o8, o9, rfl, I, pr, hlen⟩
      rw [List.take_length] at pr
      have kl : (srtP ((afterDo d rs).map (·.1))).length ≤ 15 := by
        refine Nat.le_trans (nodup_le (ascP_nodup (srtP_asc _)) fun _ h => srtP_mem.mp h) ?_
        rw [List.length_map]
        exact h15
      have e0c : Same G Gc := s0.gg.trans I.gg
      dsimp only
      refine seq_go ?_
      refine asg_frz ?_
      refine gv_frzR (K := KP) mL (gv_v rfl) I hD pr fun G2 H2 s2 e2 u2 => ?_
      refine dq_open (K := KP) (cs := []) (cs1 := []) (R := PrR) (kf := fun q : Str × Str => q) (vf := fun q => plainF ks b (getP (afterDo d rs) q)) (p := fun _ => true) mL (src_list mon_PrR (gv_sortP (by rw [List.length_map]; exact Nat.le_trans h15 (by decide)) (gv_setD h15 (gv_c u2)))) (by omega) ?_ s2.gh hold_nil fun D1 G3 H3 G4 H4 us2 s3 hD1 I4 pr4 => ?_
      · rintro z q G3 hq e3 uz
        have hk := srtP_mem.mp hq
        have hv : valA (afterDo d rs) q = some (getP (afterDo d rs) q) := by
          unfold getP
          cases e : valA (afterDo d rs) q with
          | none => exact absurd hk (valA_none.mp e)
          | some x => rfl
        exact ⟨_, tg_name, rfl, gt_yes, fun _ => ⟨gv_var rfl uz, gv_plain pok (red q hk) (gv_var rfl (ux.on (e0c.trans (e2.trans e3)))) (gv_dget (K := KP) mL (gv_var rfl (u2.on e3)) (gv_var rfl uz) hv)⟩⟩
      · show tFz (tVar 10) [some u, some v, some r, some (.ref D0), o4, o5, o6, o7, o8, o9, some (.ref D1)] H4 fun x H1 => tFz (tDq KP.tk (iItemsT (tC x)) (gTup K 2 (gCons (gName 8) (gCons (gName 5) gNil))) (fun σ H Q => (tVar 5) σ H fun x H' => rOwnT C (spTru C) x H' Q) (tVar 8) (tVar 5) [8, 5]) [some u, some v, some r, some (.ref D0), o4, o5, o6, o7, o8, o9, some (.ref D1)] H1 Q
        refine gv_frzR (K := KP) mL (gv_v rfl) I4 hD1 pr4 fun G5 H5 s5 e5 u5 => ?_
        refine dq_open (K := KP) (cs := []) (cs1 := []) (R := PairR PrR (LdU C U)) (kf := fun p : (Str × Str) × Fn => p.1) (vf := fun p => p.2) (p := fun p : (Str × Str) × Fn => !(nf p.2 U).isEmpty) mL (src_itemsP mL (gv_c u5)) ?_ ?_ s5.gh hold_nil fun D2 G6 H6 G7 H7 us3 s6 hD2 I7 pr7 => ⟨D2, _, rfl, I7.at_, KP.mu _, fun ob => ?_⟩
        · refine Nat.le_trans (putAll_len _ _) ?_
          rw [filt_all, List.length_map, List.length_nil]
          omega
        · rintro z p G6 hp e6 uz
          obtain ⟨t, x1, y1, rfl, ht, hx1, hy1⟩ := uz.now
          exact ⟨_, tg_pair ht, rfl, gt_own (gv_var rfl (mon_ld.up hy1)), fun _ => ⟨gv_var rfl (mon_PrR.up hx1), gv_var rfl (mon_ld.up hy1)⟩⟩
        · have sa := s0.trans (s2.trans (s3.trans (s5.trans s6)))
          exact k (.ref D2) _ _ (sa.trans (I7.fin hD2 (.frz ob (KP.ho us3)))) ((mon_dic (K := KP) mL).up ⟨D2, ob, us3, rfl, upd_same, pr7.on mL (same_new I7.nD)⟩) ⟨D2, rfl, sa.hh.free hD2⟩
end
end Crt
end

section
/-! The pen: what it is, a draw. -/
set_option autoImplicit false
namespace Crt
open PySem PySem.Spec PyProof.Rows L2
/-- a pen: its dict, its cells -/
abbrev Pen := Addr × Addr
/-- the heap but for the pen -/
def exc (p : Pen) (H : Hp) : Hp := fun b => if b = p.1 then none else H b
def penO (cl : Addr) (b l : Int) : HO := .dK [(.inr "cells", .ref cl), (.inr "begun", .int b), (.inr "left", .int l)]
/-- the pen at p: at most B draws so far -/
def Pn (p : Pen) (B : Nat) (H : Hp) : Prop := ∃ (xs : List Int) (b l : Int), H p.1 = some (penO p.2 b l) ∧ H p.2 = some (.lst (xs.map V.int)) ∧ xs.length ≤ 63 ∧ 0 ≤ b ∧ b ≤ B ∧ 0 ≤ l
/-- an int below m, not negative -/
def InR (m : Int) : PV := fun v _ => ∃ i, v = .int i ∧ 0 ≤ i ∧ i < m
/-- a def that draws: its first argument is the pen, n draws at most -/
def SpP {α : Type} (n : Nat) (pre : α → List V → Hp → Prop) (post : α → PV) : Sp := fun vs H Q _ => ∃ x G p B rest, vs = .ref p.1 :: rest ∧ Same G (exc p H) ∧ Pn p B H ∧ B + n ≤ 1000000 ∧ pre x rest G ∧ ∀ v G' H', Stp G (exc p H) G' (exc p H') → Pn p (B + n) H' → Up (post x v) G' → Q v H'
def spDraw : Sp := SpP (α := Int) 1 (fun m vs _ => vs = [.int m] ∧ 1 ≤ m ∧ m ≤ 100000) (fun m => InR m)
theorem exc_upd {p : Pen} {H : Hp} {o : HO} : exc p (upd H p.1 o) = exc p H := funext fun b => by
  unfold exc
  by_cases h : b = p.1
  · rw [if_pos h, if_pos h]
  · rw [if_neg h, if_neg h, upd_ne h]
theorem exc_same {p : Pen} {H : Hp} : Same (exc p H) H := fun b o h => by
  unfold exc at h
  by_cases e : b = p.1
  · rw [if_pos e] at h
    cases h
  · rw [if_neg e] at h
    exact h
theorem exc_none {p : Pen} {G H : Hp} (e : Same G (exc p H)) : G p.1 = none := by
  cases h : G p.1 with
  | none => rfl
  | some o =>
    have z := e p.1 o h
    unfold exc at z
    rw [if_pos rfl] at z
    cases z
theorem exc_at {p : Pen} {G H : Hp} (e : Same G H) (h : G p.1 = none) : Same G (exc p H) := fun b o q => by
  unfold exc
  rw [if_neg (fun z => by rw [z, h] at q; cases q)]
  exact e b o q
theorem stp_exc {p : Pen} {G H G' H' : Hp} {o : HO} (s : Stp G H G' H') (h : G p.1 = none) (hp : H p.1 = some o) (nt : ∀ xs, o ≠ .tup xs) : Stp G (exc p H) G' (exc p H') ∧ G' p.1 = none := by
  have n := s.new p.1 o h hp nt
  refine ⟨⟨s.gg, exc_at s.gh n, fun b u q => ?_, fun b u h1 h2 h3 => s.new b u h1 (exc_same b u h2) h3⟩, n⟩
  have hb : b ≠ p.1 := fun z => by
    unfold exc at q
    rw [if_pos z] at q
    cases q
  unfold exc at q ⊢
  rw [if_neg hb] at q ⊢
  exact s.hh b u q
section
variable {cs : Held} {σ : L2.St} {G H : Hp} {p cl : Addr} {b l i : Int} {tv ta tb : TE} {D : Ends} {φ : PV}
theorem gv_left (h0 : σ[0]? = some (some (.ref p))) : Gv ((p, penO cl b l) :: cs) (tDGet (tVar 0) (tC (.str "left"))) σ G (IsI l) := fun H a c Q q =>
  ⟨.ref p, h0, p, .int l, rfl, DGet.k (k := Sum.inr "left") c.hd, q _ G H (Stp.refl a) (up_c rfl)⟩
theorem gv_begun (h0 : σ[0]? = some (some (.ref p))) : Gv ((p, penO cl b l) :: cs) (tDGet (tVar 0) (tC (.str "begun"))) σ G (IsI b) := fun H a c Q q =>
  ⟨.ref p, h0, p, .int b, rfl, DGet.k (k := Sum.inr "begun") c.hd, q _ G H (Stp.refl a) (up_c rfl)⟩
theorem gv_cells {xs : List Int} (h0 : σ[0]? = some (some (.ref p))) (u : Up (Vec xs (.ref cl)) G) : Gv ((p, penO cl b l) :: cs) (tDGet (tVar 0) (tC (.str "cells"))) σ G (Vec xs) := fun H a c Q q =>
  ⟨.ref p, h0, p, .ref cl, rfl, DGet.k (k := Sum.inr "cells") c.hd, q _ G H (Stp.refl a) u⟩
theorem put_left (h0 : σ[0]? = some (some (.ref p))) (hv : Gv [(p, penO cl b l)] tv σ G (IsI i)) (e : Same G H) (hp : H p = some (penO cl b l)) (k : ∀ G1 H1, Stp G H G1 H1 → H1 p = some (penO cl b l) → D.nx σ (upd H1 p (penO cl b i))) : sDPut (tVar 0) (tC (.str "left")) tv D σ H :=
  hv H e (hold_one hp) _ fun v G1 H1 s u => by
    obtain rfl : v = .int i := u.now
    exact ⟨.ref p, h0, p, _, rfl, DPut.k (k := Sum.inr "left") (s.hh _ _ hp) (show 3 < sizeLine by decide), k G1 H1 s (s.hh _ _ hp)⟩
theorem put_begun (h0 : σ[0]? = some (some (.ref p))) (hv : Gv [(p, penO cl b l)] tv σ G (IsI i)) (e : Same G H) (hp : H p = some (penO cl b l)) (k : ∀ G1 H1, Stp G H G1 H1 → H1 p = some (penO cl b l) → D.nx σ (upd H1 p (penO cl i l))) : sDPut (tVar 0) (tC (.str "begun")) tv D σ H :=
  hv H e (hold_one hp) _ fun v G1 H1 s u => by
    obtain rfl : v = .int i := u.now
    exact ⟨.ref p, h0, p, _, rfl, DPut.k (k := Sum.inr "begun") (s.hh _ _ hp) (show 3 < sizeLine by decide), k G1 H1 s (s.hh _ _ hp)⟩
theorem gv_lenC {K : PySem.W.Frag} {xs : List Int} (h0 : σ[0]? = some (some (.ref p))) : Gv [(p, penO cl b l), (cl, .lst (xs.map V.int))] (tCB (fun xs H Q => ∃ p ys, xs = [.ref p] ∧ (SqL K H p ys ∨ SqT K H p ys) ∧ Q (.int ys.length) H) (tCons (tDGet (tVar 0) (tC (.str "cells"))) tNil)) σ G (IsI xs.length) := fun H a c Q q =>
  ⟨.ref p, h0, p, .ref cl, rfl, DGet.k (k := Sum.inr "cells") c.hd, cl, xs.map V.int, rfl, .inl (SqL.of c.tl.hd), by rw [List.length_map]; exact q _ G H (Stp.refl a) (up_c rfl)⟩
theorem gv_ixC {K : PySem.W.Frag} {xs : List Int} {j : Nat} (h0 : σ[0]? = some (some (.ref p))) (hb : Gv [(p, penO cl b l), (cl, .lst (xs.map V.int))] tb σ G (IsI (j : Int))) (hj : j < xs.length) : Gv [(p, penO cl b l), (cl, .lst (xs.map V.int))] (tOp (rIxL K) (tDGet (tVar 0) (tC (.str "cells"))) tb) σ G (fun v _ => ∃ c, v = .int c) := fun H a c Q q =>
  ⟨.ref p, h0, p, .ref cl, rfl, DGet.k (k := Sum.inr "cells") c.hd, hb H a c _ fun v G1 H1 s u => by
    obtain rfl : v = .int j := u.now
    exact ⟨cl, xs.map V.int, j, .int xs[j], rfl, rfl, SqL.of (s.hh _ _ c.tl.hd), atI_nat (by rw [List.getElem?_map, List.getElem?_eq_getElem hj]; rfl), q _ G1 H1 s (up_c ⟨_, rfl⟩)⟩⟩
theorem hold_two {H : Hp} {a b : Addr} {o u : HO} (h : H a = some o) (k : H b = some u) : Hold [(a, o), (b, u)] H := hold_cons h (hold_one k)
theorem gv_int (ha : Gv cs ta σ G (IsI i)) : Gv cs (tCB (fun xs H Q => (∃ i, xs = [.int i] ∧ Q (.int i) H) ∨ ∃ k, xs = [.bl k] ∧ Q (.int (if k then 1 else 0)) H) (tCons ta tNil)) σ G (IsI i) :=
  gv_cb' (ga_1 ha) fun vs G1 H1 s c1 g up => rv_at (v := .int i) s (up_c rfl) fun Q q => by
    obtain ⟨v, rfl, e⟩ := up.now
    exact .inl ⟨i, by rw [show v = .int i from e], q⟩
end
section
variable {P : Program} {w : World} {K : PySem.W.Frag} {mg : Str → Option Value} {base : Heap}
theorem ok_draw (F : Dfn K mg "_law_draw" (top 57)) (mi : mg "int" = none) (ml : mg "len" = none) (ma : mg "abs" = none) : CalP P w K mg base 1 "_law_draw" spDraw := by
  refine cal_of (N := ["_law_pen_here", "_law_many", "_law_digit", "_law_at", "_law_size", "_law_cell", "_law_blend"]) (ps := ["_law_pen_here", "_law_many"]) F (by decide +kernel) ?_ (fun _ _ _ _ _ _ us hl => match us, hl with | [_, _], _ => rfl) ?_
  · rintro vs H Q E ⟨x, G, p, B, rest, rfl, _, _, _, ⟨e, _⟩, _⟩
    rw [e] <;> rfl
  · intro nd cdv f A outer s H vs Q E hr h
    have hu := hu_of hr
    refine ⟨_, pss_cons (ps_if (pt_cmpR op_gt (pe_dget hu (pv 0) pe_str (fun _ _ => rfl)) pe_int (nomark _))
        (pss_cons (ps_set (i := 2) nd rfl (Or.inl rfl) (pe_op op_modN (pe_callTy call_int1 rfl mi boot_int (pa_cons (pe_dget hu (pv 0) pe_str (fun _ _ => rfl)) pa_nil)) (pv 1)))
        (pss_cons (ps_dput hu (pv 0) pe_str (pe_op op_fdivN (pe_dget hu (pv 0) pe_str (fun _ _ => rfl)) (pv 1)) rfl)
        (pss_one (ps_ret (pv 2))))) pss_nil)
      (pss_cons (ps_par (i := 3) (j := 4) rfl nd rfl rfl (by decide) rfl rfl (pa_cons (pe_dget hu (pv 0) pe_str (fun _ _ => rfl)) (pa_cons (pe_callB call_len_seq rfl ml boot_len (pa_cons (pe_dget hu (pv 0) pe_str (fun _ _ => rfl)) pa_nil)) pa_nil)) (by rfl))
      (pss_cons (ps_dput hu (pv 0) pe_str (pe_op op_add (pv 3) pe_int) rfl)
      (pss_cons (ps_set (i := 5) nd rfl (Or.inl rfl) (pe_ifExp (pt_cmpR op_gt (pv 4) pe_int (nomark _)) (pe_ix ix_list (pe_dget hu (pv 0) pe_str (fun _ _ => rfl)) (pe_op op_modN (pe_callTy call_int1 rfl mi boot_int (pa_cons (pv 3) pa_nil)) (pv 4)) (fun _ _ => rfl)) (pe_op op_add (pe_op op_mul pe_int (pv 3)) pe_int)))
      (pss_cons (ps_if (PW.pt (pw_and (pt_cmpR op_lt (pv 3) (pv 4) (nomark _)) (pw_and1 (pt_cmpR op_ge (pe_callB call_abs rfl ma boot_abs (pa_cons (pv 5) pa_nil)) (pe_op op_pow pe_int pe_int) (nomark _)))))
        (pss_cons (ps_dput hu (pv 0) pe_str (pe_op op_fdivN (pe_op op_sub (pe_callB call_abs rfl ma boot_abs (pa_cons (pv 5) pa_nil)) (pe_op op_pow pe_int pe_int)) (pv 1)) rfl)
        (pss_one (ps_ret (pe_op op_modN (pe_callTy call_int1 rfl mi boot_int (pa_cons (pe_op op_sub (pe_callB call_abs rfl ma boot_abs (pa_cons (pv 5) pa_nil)) (pe_op op_pow pe_int pe_int)) pa_nil)) (pv 1))))) pss_nil)
      (pss_cons (ps_set (i := 6) nd rfl (Or.inl rfl) (pe_op op_modN (pe_callTy call_int1 rfl mi boot_int (pa_cons (pe_op op_add (pe_op op_add (pe_op op_add (pe_op op_mul (pe_op op_modN (pe_callTy call_int1 rfl mi boot_int (pa_cons (pv 5) pa_nil)) pe_int) pe_int) (pe_op op_mul (pe_op op_mul pe_int (pv 3)) (pv 3))) (pe_op op_mul pe_int (pv 3))) pe_int) pa_nil)) pe_int))
      (pss_cons (ps_set (i := 6) nd rfl (Or.inl rfl) (pe_op op_modN (pe_callTy call_int1 rfl mi boot_int (pa_cons (pe_op op_add (pe_op op_add (pe_op op_mul (pv 6) (pv 6)) (pe_op op_mul pe_int (pv 6))) (pe_op op_mul pe_int (pv 3))) pa_nil)) pe_int))
      (pss_one (ps_ret (pe_op op_modN (pe_callTy call_int1 rfl mi boot_int (pa_cons (pe_op op_fdivN (pe_op op_modN (pe_callTy call_int1 rfl mi boot_int (pa_cons (pe_op op_mul (pv 6) (pe_op op_add (pv 6) pe_int)) pa_nil)) pe_int) pe_int) pa_nil)) (pv 1)))))))))), ?_⟩
    obtain ⟨m, G, ⟨p, cl⟩, B, rest, rfl, eG, ⟨xs, b, l, hp, hcl, hxl, hb0, hbB, hl0⟩, hB, ⟨rfl, hm1, hm2⟩, k⟩ := h
    dsimp only at hp hcl
    have hGp : G p = none := exc_none eG
    have eH : Same G H := eG.trans exc_same
    show tSeq _ _ _ [some (.ref p), some (.int m), none, none, none, none, none] H
    have fin : ∀ (i : Int) (G1 H1 : Hp) (b' l' : Int), Stp G H G1 H1 → H1 p = some (penO cl b l) → 0 ≤ b' → b' ≤ B + 1 → 0 ≤ l' → 0 ≤ i → i < m → Q (.int i) (upd H1 p (penO cl b' l')) := fun i G1 H1 b' l' s1 h1 q1 q2 q3 q4 q5 => by
      obtain ⟨st, n1⟩ := stp_exc (p := (p, cl)) s1 hGp hp (fun xs z => nomatch z)
      refine k (.int i) G1 _ (by rw [show upd H1 p (penO cl b' l') = upd H1 (p, cl).1 (penO cl b' l') from rfl, exc_upd]; exact st) ⟨xs, b', l', upd_same, ?_, hxl, q1, by exact_mod_cast q2, q3⟩ (up_c ⟨i, rfl, q4, q5⟩)
      rw [upd_ne (ne_of (s1.hh _ _ hcl) h1 (fun z => nomatch z))]
      exact s1.hh _ _ hcl
    refine seq_go (if_gv (cs := [(p, penO cl b l)]) (b := decide ((0 : Int) < l)) (gt_test (gv_I0 (g := fun i j => .bl (decide (j < i))) (gv_left rfl) gv_ci)) eH (hold_one hp) fun G1 H1 s1 => ?_)
    have hp1 := s1.hh _ _ hp
    by_cases hl : 0 < l
    · rw [if_pos (decide_eq_true hl)]
      refine seq_go (set_gv (cs := [(p, penO cl b l)]) (gv_I (C := fun _ j => j ≠ 0) (g := fun i j => .int (i.fmod j)) (gv_int (gv_left rfl)) (gv_vi rfl) (by omega)) s1.gh (hold_one hp1) fun v2 G2 H2 s2 u2 => ?_)
      obtain rfl : v2 = .int (l.fmod m) := u2.now
      have hp2 := s2.hh _ _ hp1
      refine seq_go (put_left rfl (gv_I (C := CDivN) (g := fun i j => .int (i.fdiv j)) (gv_left rfl) (gv_vi rfl) ⟨by omega, by omega⟩) s2.gh hp2 fun G3 H3 s3 hp3 => ?_)
      have s13 := s1.trans (s2.trans s3)
      refine ⟨.int (l.fmod m), rfl, fin (l.fmod m) G3 H3 b (l.fdiv m) s13 hp3 hb0 (by omega) ?_ ?_ ?_⟩
      · exact Int.fdiv_nonneg hl0 (by omega)
      · exact Int.fmod_nonneg hl0 (by omega)
      · exact Int.fmod_lt_of_pos _ (by omega)
    · rw [if_neg (fun z => hl (of_decide_eq_true z))]
      obtain rfl : l = 0 := by omega
      have hcl1 := s1.hh _ _ hcl
      refine nx_go (seq_go (par_gv (cs := [(p, penO cl b 0), (cl, .lst (xs.map V.int))]) (gv_begun rfl) (gv_lenC rfl) s1.gh (hold_two hp1 hcl1) fun v3 v4 G2 H2 s2 u3 u4 => ?_))
      obtain rfl : v3 = .int b := u3.now
      obtain rfl : v4 = .int xs.length := u4.now
      have hp2 := s2.hh _ _ hp1
      refine seq_go (put_begun (i := b + 1) rfl (gv_I0 (g := fun i j => .int (i + j)) (gv_vi rfl) gv_ci) s2.gh hp2 fun G3 H3 s3 hp3 => ?_)
      have s13 := s1.trans (s2.trans s3)
      obtain ⟨st3, n3⟩ := stp_exc (p := (p, cl)) s13 hGp hp (fun xs z => nomatch z)
      have hne : cl ≠ p := ne_of hcl hp (fun z => nomatch z)
      have e4 : Same G3 (upd H3 p (penO cl (b + 1) 0)) := same_mut s3.gh n3
      have hp4 : upd H3 p (penO cl (b + 1) 0) p = some (penO cl (b + 1) 0) := upd_same
      have hc4 : upd H3 p (penO cl (b + 1) 0) cl = some (.lst (xs.map V.int)) := by
        rw [upd_ne hne]
        exact s13.hh _ _ hcl
      have st4 : Stp G (exc (p, cl) H) G3 (exc (p, cl) (upd H3 p (penO cl (b + 1) 0))) := by
        rw [exc_upd]
        exact st3
      have fin2 : ∀ (i : Int) (G5 H5 : Hp), Stp G3 (upd H3 p (penO cl (b + 1) 0)) G5 H5 → 0 ≤ i → i < m → Q (.int i) H5 := fun i G5 H5 s5 q4 q5 => by
        obtain ⟨st, n1⟩ := stp_exc (p := (p, cl)) s5 n3 hp4 (fun xs z => nomatch z)
        exact k (.int i) G5 H5 (st4.trans st) ⟨xs, b + 1, 0, s5.hh _ _ hp4, s5.hh _ _ hc4, hxl, by omega, by push_cast; omega, Int.le_refl _⟩ (up_c ⟨i, rfl, q4, q5⟩)
      have fin3 : ∀ (i l' : Int) (G5 H5 : Hp), Stp G3 (upd H3 p (penO cl (b + 1) 0)) G5 H5 → 0 ≤ l' → 0 ≤ i → i < m → Q (.int i) (upd H5 p (penO cl (b + 1) l')) := fun i l' G5 H5 s5 q3 q4 q5 => by
        obtain ⟨st, n1⟩ := stp_exc (p := (p, cl)) s5 n3 hp4 (fun xs z => nomatch z)
        refine k (.int i) G5 _ (by rw [exc_upd]; exact st4.trans st) ⟨xs, b + 1, l', upd_same, ?_, hxl, by omega, by push_cast; omega, q3⟩ (up_c ⟨i, rfl, q4, q5⟩)
        rw [upd_ne hne]
        exact s5.hh _ _ hc4
      generalize upd H3 p (penO cl (b + 1) 0) = H4 at *
      show tSeq _ _ _ [some (.ref p), some (.int m), none, some (.int b), some (.int xs.length), none, none] H4
      refine seq_go (set_gv (cs := [(p, penO cl (b + 1) 0), (cl, .lst (xs.map V.int))]) (φ := fun v _ => ∃ c, v = .int c) (gv_if (b := decide ((0 : Int) < xs.length)) (gt_test (gv_I0 (g := fun i j => .bl (decide (j < i))) (gv_vi rfl) gv_ci)) (fun hx => ?_) fun _ => ?_) e4 (hold_two hp4 hc4) fun v5 G5 H5 s5 u5 => ?_)
      · have hx' : (0 : Int) < xs.length := of_decide_eq_true hx
        have f1 : 0 ≤ b.fmod xs.length := Int.fmod_nonneg hb0 (by omega)
        have f2 : b.fmod xs.length < xs.length := Int.fmod_lt_of_pos _ hx'
        have f3 : b.fmod xs.length = (((b.fmod xs.length).toNat : Nat) : Int) := by omega
        refine gv_ixC rfl ?_ (j := (b.fmod xs.length).toNat) (by omega)
        rw [← f3]
        exact gv_I (C := fun _ j => j ≠ 0) (g := fun i j => .int (i.fmod j)) (gv_int (gv_vi rfl)) (gv_vi rfl) (by omega)
      · exact (gv_I0 (g := fun i j => .int (i + j)) (gv_I (C := CMul) (g := fun i j => .int (i * j)) gv_ci (gv_vi rfl) (.inl ⟨by decide, by decide⟩)) gv_ci).imp fun v G h => ⟨_, h⟩
      obtain ⟨c, rfl⟩ := u5.now
      have hp5 := s5.hh _ _ hp4
      show tSeq _ _ _ [some (.ref p), some (.int m), none, some (.int b), some (.int xs.length), some (.int c), none] H5
      have pw : ∀ {G : Hp} {cs : Held}, Gv cs (tOp (rI CPow fun i j => .int (i ^ j.toNat)) (tC (.int 10)) (tC (.int 18))) [some (.ref p), some (.int m), none, some (.int b), some (.int xs.length), some (.int c), none] G (IsI (10 ^ 18)) := fun {G cs} => gv_I (C := CPow) (g := fun i j => .int (i ^ j.toNat)) gv_ci gv_ci ⟨by decide, by decide, by decide⟩
      refine seq_go (if_gv (cs := []) (b := decide (b < (xs.length : Int)) && decide ((10 : Int) ^ 18 ≤ (c.natAbs : Int))) (gt_and (gt_test (gv_I0 (g := fun i j => .bl (decide (i < j))) (gv_vi rfl) (gv_vi rfl))) fun _ => gt_test (gv_I0 (g := fun i j => .bl (decide (j ≤ i))) (gv_abs (gv_vi rfl)) pw)) s5.gh hold_nil fun G6 H6 s6 => ?_)
      have hp6 := s6.hh _ _ hp5
      cases hbig : decide (b < (xs.length : Int)) && decide ((10 : Int) ^ 18 ≤ (c.natAbs : Int)) with
      | true =>
        rw [if_pos rfl]
        have hge : (10 : Int) ^ 18 ≤ (c.natAbs : Int) := of_decide_eq_true (Bool.and_eq_true_iff.mp hbig).2
        refine seq_go (put_left (i := ((c.natAbs : Int) - 10 ^ 18).fdiv m) rfl (gv_I (C := CDivN) (g := fun i j => .int (i.fdiv j)) (gv_I0 (g := fun i j => .int (i - j)) (gv_abs (gv_vi rfl)) pw) (gv_vi rfl) ⟨by omega, by omega⟩) s6.gh hp6 fun G7 H7 s7 hp7 => ?_)
        have s57 := s5.trans (s6.trans s7)
        obtain ⟨st7, n7⟩ := stp_exc (p := (p, cl)) s57 n3 hp4 (fun xs z => nomatch z)
        refine ret_gv (cs := []) (gv_I (C := fun _ j => j ≠ 0) (g := fun i j => .int (i.fmod j)) (gv_int (gv_I0 (g := fun i j => .int (i - j)) (gv_abs (gv_vi rfl)) pw)) (gv_vi rfl) (by omega)) (same_mut s7.gh n7) hold_nil fun v8 G8 H8 s8 u8 => ?_
        obtain rfl := u8.now
        obtain ⟨st8, n8⟩ := stp_exc (p := (p, cl)) s8 n7 upd_same (fun xs z => nomatch z)
        rw [exc_upd] at st8
        refine k _ G8 H8 (st4.trans (st7.trans st8)) ⟨xs, b + 1, _, s8.hh _ _ upd_same, ?_, hxl, by omega, by push_cast; omega, Int.fdiv_nonneg (by omega) (by omega)⟩ (up_c ⟨_, rfl, Int.fmod_nonneg_of_pos _ (by omega), Int.fmod_lt_of_pos _ (by omega)⟩)
        refine s8.hh _ _ ?_
        rw [upd_ne hne]
        exact s57.hh _ _ hc4
      | false =>
        rw [if_neg Bool.false_ne_true]
        have hb64 : -(2 ^ 64) < b ∧ b < 2 ^ 64 := ⟨by omega, by omega⟩
        refine nx_go (seq_go (set_gv (cs := []) (φ := IsI ((c.fmod 2147483543 * 52679 + 41011 * b * b + 613 * b + 19).fmod 2147483549)) (gv_I (C := fun _ j => j ≠ 0) (g := fun i j => .int (i.fmod j)) (gv_int (gv_I0 (g := fun i j => .int (i + j)) (gv_I0 (g := fun i j => .int (i + j)) (gv_I0 (g := fun i j => .int (i + j)) (gv_I (C := CMul) (g := fun i j => .int (i * j)) (gv_I (C := fun _ j => j ≠ 0) (g := fun i j => .int (i.fmod j)) (gv_int (gv_vi rfl)) gv_ci (by decide)) gv_ci (.inr ⟨by decide, by decide⟩)) (gv_I (C := CMul) (g := fun i j => .int (i * j)) (gv_I (C := CMul) (g := fun i j => .int (i * j)) gv_ci (gv_vi rfl) (.inl ⟨by decide, by decide⟩)) (gv_vi rfl) (.inr hb64))) (gv_I (C := CMul) (g := fun i j => .int (i * j)) gv_ci (gv_vi rfl) (.inl ⟨by decide, by decide⟩))) gv_ci)) gv_ci (by decide)) s6.gh hold_nil fun v7 G7 H7 s7 u7 => ?_))
        generalize hd : (c.fmod 2147483543 * 52679 + 41011 * b * b + 613 * b + 19).fmod 2147483549 = d at u7
        have hd0 : 0 ≤ d := by rw [← hd]; exact Int.fmod_nonneg_of_pos _ (by decide)
        have hd1 : d < 2147483549 := by rw [← hd]; exact Int.fmod_lt_of_pos _ (by decide)
        obtain rfl : v7 = .int d := u7.now
        show tSeq _ _ _ [some (.ref p), some (.int m), none, some (.int b), some (.int xs.length), some (.int c), some (.int d)] H7
        refine seq_go (set_gv (cs := []) (φ := IsI ((d * d + 31337 * d + 17 * b).fmod 2147483477)) (gv_I (C := fun _ j => j ≠ 0) (g := fun i j => .int (i.fmod j)) (gv_int (gv_I0 (g := fun i j => .int (i + j)) (gv_I0 (g := fun i j => .int (i + j)) (gv_I (C := CMul) (g := fun i j => .int (i * j)) (gv_vi rfl) (gv_vi rfl) (.inl ⟨by omega, by omega⟩)) (gv_I (C := CMul) (g := fun i j => .int (i * j)) gv_ci (gv_vi rfl) (.inl ⟨by decide, by decide⟩))) (gv_I (C := CMul) (g := fun i j => .int (i * j)) gv_ci (gv_vi rfl) (.inl ⟨by decide, by decide⟩)))) gv_ci (by decide)) s7.gh hold_nil fun v8 G8 H8 s8 u8 => ?_)
        generalize he : (d * d + 31337 * d + 17 * b).fmod 2147483477 = e at u8
        have he0 : 0 ≤ e := by rw [← he]; exact Int.fmod_nonneg_of_pos _ (by decide)
        have he1 : e < 2147483477 := by rw [← he]; exact Int.fmod_lt_of_pos _ (by decide)
        obtain rfl : v8 = .int e := u8.now
        dsimp only
        refine ret_gv (cs := []) (gv_I (C := fun _ j => j ≠ 0) (g := fun i j => .int (i.fmod j)) (gv_int (gv_I (C := CDivN) (g := fun i j => .int (i.fdiv j)) (gv_I (C := fun _ j => j ≠ 0) (g := fun i j => .int (i.fmod j)) (gv_int (gv_I (C := CMul) (g := fun i j => .int (i * j)) (gv_vi rfl) (gv_I0 (g := fun i j => .int (i + j)) (gv_vi rfl) gv_ci) (.inl ⟨by omega, by omega⟩))) gv_ci (by decide)) gv_ci ⟨by decide, by decide⟩)) (gv_vi rfl) (by omega)) s8.gh hold_nil fun v9 G9 H9 s9 u9 => ?_
        obtain rfl := u9.now
        exact fin2 _ G9 H9 (s5.trans (s6.trans (s7.trans (s8.trans s9)))) (Int.fmod_nonneg_of_pos _ (by omega)) (Int.fmod_lt_of_pos _ (by omega))
end
end Crt
end

section
/-! Readings beside a pen. -/
set_option autoImplicit false
namespace Crt
open PySem PySem.Spec PyProof.Rows L2
theorem Pn.le {p : Pen} {B C : Nat} {H : Hp} (h : Pn p B H) (l : B ≤ C) : Pn p C H := by
  obtain ⟨xs, b, d, h1, h2, h3, h4, h5, h6⟩ := h
  exact ⟨xs, b, d, h1, h2, h3, h4, by omega, h6⟩
theorem Pn.on {p : Pen} {B : Nat} {H H' : Hp} (h : Pn p B H) (e : Same H H') : Pn p B H' := by
  obtain ⟨xs, b, d, h1, h2, h3, h4, h5, h6⟩ := h
  exact ⟨xs, b, d, e _ _ h1, e _ _ h2, h3, h4, h5, h6⟩
/-- a step that leaves the pen -/
theorem Pn.step {p : Pen} {B : Nat} {G H G' H' : Hp} (h : Pn p B H) (e : Same G (exc p H)) (s : Stp G H G' H') : Stp G (exc p H) G' (exc p H') ∧ Pn p B H' := by
  have h0 := h
  obtain ⟨xs, b, d, h1, _⟩ := h
  exact ⟨(stp_exc s (exc_none e) h1 (fun xs z => nomatch z)).1, h0.on s.hh⟩
def Gp (p : Pen) (n : Nat) (te : TE) (σ : L2.St) (G : Hp) (φ : PV) : Prop := ∀ H B, Same G (exc p H) → Pn p B H → B + n ≤ 1000000 → ∀ Q : VK, (∀ v G' H', Stp G (exc p H) G' (exc p H') → Pn p (B + n) H' → Up (φ v) G' → Q v H') → te σ H Q
def GpA (p : Pen) (n : Nat) (ta : TA) (σ : L2.St) (G : Hp) (ψ : List V → Hp → Prop) : Prop := ∀ H B, Same G (exc p H) → Pn p B H → B + n ≤ 1000000 → ∀ Q : List V → Hp → Prop, (∀ vs G' H', Stp G (exc p H) G' (exc p H') → Pn p (B + n) H' → Up (ψ vs) G' → Q vs H') → ta σ H Q
def GpT (p : Pen) (n : Nat) (tt : TT) (σ : L2.St) (G : Hp) (φ : Bool → Prop) : Prop := ∀ H B, Same G (exc p H) → Pn p B H → B + n ≤ 1000000 → ∀ Q : Bool → Hp → Prop, (∀ b G' H', Stp G (exc p H) G' (exc p H') → Pn p (B + n) H' → φ b → Q b H') → tt σ H Q
section
variable {p : Pen} {n m : Nat} {σ : L2.St} {G G2 : Hp} {te ta tb : TE} {tr : TA} {φ ψ χ : PV} {ξ ζ : List V → Hp → Prop}
theorem Gp.mono (h : Gp p n te σ G φ) (e : Same G G2) : Gp p n te σ G2 φ := fun H B a c l Q q => h H B (e.trans a) c l Q fun v G1 H1 st pn up =>
  let ⟨s1, s2⟩ := st.grow e a
  q v _ H1 s1 pn (up.on s2)
theorem GpA.mono (h : GpA p n tr σ G ξ) (e : Same G G2) : GpA p n tr σ G2 ξ := fun H B a c l Q q => h H B (e.trans a) c l Q fun v G1 H1 st pn up =>
  let ⟨s1, s2⟩ := st.grow e a
  q v _ H1 s1 pn (up.on s2)
theorem Gp.imp (h : Gp p n te σ G φ) (k : ∀ v G, φ v G → ψ v G) : Gp p n te σ G ψ := fun H B a c l Q q => h H B a c l Q fun v G1 H1 s pn up => q v G1 H1 s pn (up.imp (k v))
theorem gp_le (h : Gp p n te σ G φ) (l : n ≤ m) : Gp p m te σ G φ := fun H B a c l2 Q q => h H B a c (by omega) Q fun v G1 H1 s pn up => q v G1 H1 s (pn.le (by omega)) up
/-- without the pen -/
theorem gp_of (h : Gv [] te σ G φ) : Gp p n te σ G φ := fun H B a c l Q q => h H (a.trans exc_same) hold_nil Q fun v G1 H1 s up => by
  obtain ⟨s1, c1⟩ := c.step a s
  exact q v G1 H1 s1 (c1.le (Nat.le_add_right _ _)) up
theorem gpa_nil : GpA p n tNil σ G (fun vs _ => vs = []) := fun H B a c l Q q => q [] G H (Stp.refl a) (c.le (Nat.le_add_right _ _)) (up_c rfl)
theorem gpa_cons (h : Gp p n te σ G φ) (hr : GpA p m tr σ G ξ) : GpA p (n + m) (tCons te tr) σ G (fun vs G => ∃ v r, vs = v :: r ∧ φ v G ∧ ξ r G) := fun H B a c l Q q =>
  h H B a c (by omega) _ fun v G1 H1 s1 c1 uv => (hr.mono s1.gg) H1 (B + n) s1.gh c1 (by omega) _ fun r G2 H2 s2 c2 ur => q (v :: r) G2 H2 (s1.trans s2) (c2.le (by omega)) fun F f => ⟨v, r, rfl, uv F (s2.gg.trans f), ur F f⟩
theorem gpa_imp (h : GpA p n tr σ G ξ) (k : ∀ v G, ξ v G → ζ v G) : GpA p n tr σ G ζ := fun H B a c l Q q => h H B a c l Q fun v G1 H1 s pn up => q v G1 H1 s pn (up.imp (k v))
/-- a def that draws -/
theorem gp_call {α : Type} {pre : α → List V → Hp → Prop} {post : α → PV} {E : XK} (x : α) (h : GpA p n tr σ G (fun vs G => ∃ rest, vs = .ref p.1 :: rest ∧ pre x rest G)) (e : post x = φ) : Gp p (n + m) (tCall (SpP m pre post) [] E tr) σ G φ := fun H B a c l Q q =>
  h H B a c (by omega) _ fun vs G1 H1 s1 c1 up => by
    obtain ⟨rest, rfl, h1⟩ := up.now
    rw [List.append_nil]
    refine ⟨x, G1, p, B + n, rest, rfl, s1.gh, c1, by omega, h1, fun v G2 H2 s2 c2 u => q v G2 H2 (s1.trans s2) (c2.le (by omega)) ?_⟩
    rw [← e]
    exact u
theorem gp_cb {r : List V → Hp → VK → Prop} (h : GpA p n tr σ G ξ) (hr : ∀ vs G1 H1, Same G1 H1 → Same G G1 → Up (ξ vs) G1 → Rv (r vs H1) G1 H1 χ) : Gp p n (tCB r tr) σ G χ := fun H B a c l Q q =>
  h H B a c l _ fun vs G1 H1 s1 c1 u => hr vs G1 H1 (s1.gh.trans exc_same) s1.gg u Q fun v G2 H2 s2 uv => by
    obtain ⟨s3, c3⟩ := c1.step s1.gh s2
    exact q v G2 H2 (s1.trans s3) c3 uv
theorem gp_op {r : R2} (ha : Gp p n ta σ G φ) (hb : Gp p m tb σ G ψ) (hr : ∀ x y G1 H1, Same G1 H1 → Same G G1 → Up (φ x) G1 → Up (ψ y) G1 → Rv (r x y H1) G1 H1 χ) : Gp p (n + m) (tOp r ta tb) σ G χ := fun H B a c l Q q =>
  ha H B a c (by omega) _ fun x G1 H1 s1 c1 ux => (hb.mono s1.gg) H1 (B + n) s1.gh c1 (by omega) _ fun y G2 H2 s2 c2 uy => hr x y G2 H2 (s2.gh.trans exc_same) (s1.gg.trans s2.gg) (ux.on s2.gg) uy Q fun v G3 H3 s3 uv => by
    obtain ⟨s4, c4⟩ := c2.step s2.gh s3
    exact q v G3 H3 ((s1.trans s2).trans s4) (c4.le (by omega)) uv
theorem gpt_test (h : Gp p n te σ G (fun v _ => ∃ b, v = .bl b)) : GpT p n (tTest te) σ G (fun _ => True) := fun H B a c l Q q => h H B a c l _ fun v G1 H1 s pn up => by
  obtain ⟨b, rfl⟩ := up.now
  exact ⟨b, rfl, q b G1 H1 s pn True.intro⟩
/-- a draw -/
theorem gp_draw {k : Int} {E : XK} (h : GpA p n tr σ G (fun vs _ => vs = [.ref p.1, .int k])) (h1 : 1 ≤ k) (h2 : k ≤ 100000) : Gp p (n + 1) (tCall spDraw [] E tr) σ G (InR k) :=
  gp_call k (gpa_imp h fun vs G e => ⟨[.int k], e, rfl, h1, h2⟩) rfl
end
section
variable {p : Pen} {n B : Nat} {σ : L2.St} {G H : Hp} {te ta tb : TE} {φ ψ : PV} {D : Ends} {t u : TS} {tt : TT}
theorem set_gp {i : Nat} (h : Gp p n te σ G φ) (e : Same G (exc p H)) (c : Pn p B H) (l : B + n ≤ 1000000) (k : ∀ v G1 H1, Stp G (exc p H) G1 (exc p H1) → Pn p (B + n) H1 → Up (φ v) G1 → D.nx (σ.set i (some v)) H1) : tAsg te (gName i) D σ H := h H B e c l _ k
theorem ret_gp (h : Gp p n te σ G φ) (e : Same G (exc p H)) (c : Pn p B H) (l : B + n ≤ 1000000) (k : ∀ v G1 H1, Stp G (exc p H) G1 (exc p H1) → Pn p (B + n) H1 → Up (φ v) G1 → D.rt v H1) : tRet te D σ H := h H B e c l _ k
theorem if_gp {φ : Bool → Prop} (h : GpT p n tt σ G φ) (e : Same G (exc p H)) (c : Pn p B H) (l : B + n ≤ 1000000) (k : ∀ b G1 H1, Stp G (exc p H) G1 (exc p H1) → Pn p (B + n) H1 → φ b → if b = true then t D σ H1 else u D σ H1) : tIfS tt t u D σ H := h H B e c l _ k
end
end Crt
end

section
/-! _law_pick. -/
set_option autoImplicit false
namespace Crt
open PySem PySem.Spec PyProof.Rows L2
/-- one of these -/
def OneI (xs : List Int) : PV := fun v _ => ∃ i, v = .int i ∧ i ∈ xs
def OneS (z : Str) : PV := fun v _ => ∃ c, v = .str ⟨#[c]⟩ ∧ c ∈ z.cps.toList
def spPickI : Sp := SpP (α := List Int) 1 (fun xs vs G => ∃ v, vs = [v] ∧ Vec xs v G ∧ 1 ≤ xs.length ∧ xs.length ≤ 1000) OneI
def spPickS : Sp := SpP (α := Str) 1 (fun z vs _ => vs = [.str z] ∧ 1 ≤ z.length ∧ z.length ≤ 1000) OneS
section
variable {P : Program} {w : World} {K : PySem.W.Frag} {mg : Str → Option Value} {base : Heap}
theorem ok_pickI (F : Dfn K mg "_law_pick" (top 58)) (ml : mg "len" = none) (h1 : CalP P w K mg base 1 "_law_draw" spDraw) : CalP P w K mg base 2 "_law_pick" spPickI := by
  refine cal_of (N := ["_law_pen_here", "_law_items"]) (ps := ["_law_pen_here", "_law_items"]) F (by decide +kernel) ?_ (fun _ _ _ _ _ _ us hl => match us, hl with | [_, _], _ => rfl) ?_
  · rintro vs H Q E ⟨x, G, p, B, rest, rfl, _, _, _, ⟨v, e, _⟩, _⟩
    rw [e] <;> rfl
  · intro nd cdv f A outer s H vs Q E hr h
    refine ⟨_, pss_one (ps_ret (pe_ix ix_list (pv 1) (C8.pe_c h1 hr (by decide) rfl (pa_cons (pv 0) (pa_cons (pe_callB call_len_seq rfl ml boot_len (pa_cons (pv 1) pa_nil)) pa_nil))) (fun _ _ => rfl))), ?_⟩
    obtain ⟨xs, G, p, B, rest, rfl, eG, pn, hB, ⟨v, rfl, hx, l1, l2⟩, k⟩ := h
    have ux := mon_vec.up hx
    refine ret_gp (p := p) (n := 1) (φ := OneI xs) (gp_le (n := 0 + (0 + 1)) (gp_op (φ := Vec xs) (ψ := InR (xs.length : Int)) (gp_of (gv_var rfl ux)) (gp_draw (n := 0) (gpa_imp (gpa_cons (n := 0) (m := 0 + 0) (gp_of (gv_v rfl)) (gpa_cons (gp_of (gv_lenL (gv_var rfl ux))) (gpa_nil (n := 0)))) fun vs G ⟨v, r, e, h1, w, r2, e2, h2, h3⟩ => by rw [e, e2, h3, show v = _ from h1, show w = _ from h2]) (by omega) (by omega)) ?_) (by decide)) eG pn hB k
    intro x y G1 H1 s _ u1 u2 Q q
    obtain ⟨a, us, rfl, ha, pr⟩ := u1.now
    obtain ⟨i, rfl, i0, i1⟩ := u2.now
    obtain ⟨j, rfl⟩ : ∃ j : Nat, i = j := ⟨i.toNat, by omega⟩
    have hi : j < xs.length := by omega
    have e : us = xs.map V.int := paired_I pr
    subst e
    refine ⟨a, xs.map V.int, j, .int xs[j], rfl, rfl, SqL.of (s _ _ ha), ?_, q _ _ _ (Stp.refl s) (up_c ⟨_, rfl, List.getElem_mem hi⟩)⟩
    exact atI_nat (by rw [List.getElem?_map, List.getElem?_eq_getElem hi]; rfl)
theorem ok_pickS (F : Dfn K mg "_law_pick" (top 58)) (ml : mg "len" = none) (h1 : CalP P w K mg base 1 "_law_draw" spDraw) : CalP P w K mg base 2 "_law_pick" spPickS := by
  refine cal_of (N := ["_law_pen_here", "_law_items"]) (ps := ["_law_pen_here", "_law_items"]) F (by decide +kernel) ?_ (fun _ _ _ _ _ _ us hl => match us, hl with | [_, _], _ => rfl) ?_
  · rintro vs H Q E ⟨x, G, p, B, rest, rfl, _, _, _, ⟨e, _⟩, _⟩
    rw [e] <;> rfl
  · intro nd cdv f A outer s H vs Q E hr h
    refine ⟨_, pss_one (ps_ret (pe_ix ix_str (pv 1) (C8.pe_c h1 hr (by decide) rfl (pa_cons (pv 0) (pa_cons (pe_callB call_len_str rfl ml boot_len (pa_cons (pv 1) pa_nil)) pa_nil))) (fun _ _ => rfl))), ?_⟩
    obtain ⟨z, G, p, B, rest, rfl, eG, pn, hB, ⟨rfl, l1, l2⟩, k⟩ := h
    have zl : z.length ≤ sizeLine := Nat.le_trans l2 (by decide)
    refine ret_gp (p := p) (n := 1) (φ := OneS z) (gp_le (n := 0 + (0 + 1)) (gp_op (φ := IsS z) (ψ := InR (z.length : Int)) (gp_of (gv_vs rfl)) (gp_draw (n := 0) (gpa_imp (gpa_cons (n := 0) (m := 0 + 0) (gp_of (gv_v rfl)) (gpa_cons (gp_of (gv_lenS zl (gv_vs rfl))) (gpa_nil (n := 0)))) fun vs G ⟨v, r, e, h1, w, r2, e2, h2, h3⟩ => by rw [e, e2, h3, show v = _ from h1, show w = _ from h2]) (by omega) (by omega)) ?_) (by decide)) eG pn hB k
    intro x y G1 H1 s _ u1 u2 Q q
    obtain rfl : x = .str z := u1.now
    obtain ⟨i, rfl, i0, i1⟩ := u2.now
    obtain ⟨j, rfl⟩ : ∃ j : Nat, i = j := ⟨i.toNat, by omega⟩
    have hi : j < z.cps.toList.length := by
      have : z.length = z.cps.toList.length := by simp [Str.length]
      omega
    refine ⟨z, j, z.cps.toList[j], rfl, rfl, zl, ?_, q _ _ _ (Stp.refl s) (up_c ⟨_, rfl, List.getElem_mem hi⟩)⟩
    exact atI_nat (List.getElem?_eq_getElem hi)
end
end Crt
end

section
/-! _law_count. -/
set_option autoImplicit false
namespace Crt
open PySem PySem.Spec PyProof.Rows L2
section
variable {p : Pen} {n m : Nat} {σ : L2.St} {G : Hp} {te ta tb : TE} {tr : TA} {tt : TT} {φ ψ χ : PV}
/-- a def that draws, its data told by what it is called with -/
theorem gp_callX {α : Type} {pre : α → List V → Hp → Prop} {post : α → PV} {E : XK} (h : GpA p n tr σ G (fun vs G => ∃ rest x, vs = .ref p.1 :: rest ∧ pre x rest G ∧ ∀ v G', post x v G' → φ v G')) : Gp p (n + m) (tCall (SpP m pre post) [] E tr) σ G φ := fun H B a c l Q q =>
  h H B a c (by omega) _ fun vs G1 H1 s1 c1 up => by
    obtain ⟨rest, x, rfl, h1, h2⟩ := up.now
    rw [List.append_nil]
    exact ⟨x, G1, p, B + n, rest, rfl, s1.gh, c1, by omega, h1, fun v G2 H2 s2 c2 u => q v G2 H2 (s1.trans s2) (c2.le (by omega)) (u.imp (h2 v))⟩
theorem gp_if {φt : Bool → Prop} (h : GpT p n tt σ G φt) (h1 : Gp p m ta σ G φ) (h2 : Gp p m tb σ G φ) : Gp p (n + m) (tIf tt ta tb) σ G φ := fun H B a c l Q q =>
  h H B a c (by omega) _ fun b G1 H1 s1 c1 _ => by
    cases b with
    | true => exact (h1.mono s1.gg) H1 (B + n) s1.gh c1 (by omega) Q fun v G2 H2 s2 c2 u => q v G2 H2 (s1.trans s2) (c2.le (by omega)) u
    | false => exact (h2.mono s1.gg) H1 (B + n) s1.gh c1 (by omega) Q fun v G2 H2 s2 c2 u => q v G2 H2 (s1.trans s2) (c2.le (by omega)) u
theorem gp_lstI {Pr : List Int → Prop} (h : GpA p n tr σ G (fun vs _ => ∃ xs : List Int, vs = xs.map V.int ∧ xs.length ≤ 1000 ∧ Pr xs)) : Gp p n (tLst tr) σ G (fun v G => ∃ xs, Vec xs v G ∧ xs.length ≤ 1000 ∧ Pr xs) := fun H B a c l Q q =>
  h H B a c l _ fun vs G1 H1 s1 c1 u => by
    obtain ⟨xs, rfl, l1, h1⟩ := u.now
    have e1 := s1.gh.trans exc_same
    refine ⟨by rw [List.length_map]; exact Nat.le_trans l1 (by decide), fun d hd => ?_⟩
    obtain ⟨s3, c3⟩ := c1.step s1.gh (Stp.laid (o := .lst (xs.map V.int)) e1 hd)
    exact q _ _ _ (s1.trans s3) c3 fun F f => ⟨xs, (lst_new mon_I (paired_I' xs) (e1.free hd)) F f, l1, h1⟩
/-- a draw, is it k -/
theorem gpt_draw {k j : Int} {E : XK} (h : GpA p n tr σ G (fun vs _ => vs = [.ref p.1, .int k])) (h1 : 1 ≤ k) (h2 : k ≤ 100000) : GpT p (n + 1) (tTest (tOp rEq (tCall spDraw [] E tr) (tC (.int j)))) σ G (fun _ => True) :=
  gpt_test (gp_op (n := n + 1) (m := 0) (ψ := IsI j) (gp_draw h h1 h2) (gp_of gv_ci) fun x y G1 H1 s _ u1 u2 Q q => by
    obtain ⟨i, rfl, _, _⟩ := u1.now
    obtain rfl : y = .int j := u2.now
    exact ⟨rfl, q _ _ _ (Stp.refl s) (up_c ⟨_, rfl⟩)⟩)
theorem gpa_pen {k : Int} (h0 : σ[0]? = some (some (.ref p.1))) : GpA p 0 (tCons (tVar 0) (tCons (tC (.int k)) tNil)) σ G (fun vs _ => vs = [.ref p.1, .int k]) :=
  gpa_imp (gpa_cons (n := 0) (m := 0 + 0) (gp_of (gv_v h0)) (gpa_cons (gp_of (gv_ci (n := k))) (gpa_nil (n := 0)))) fun vs G ⟨v, r, e, h1, w, r2, e2, h2, h3⟩ => by rw [e, e2, h3, show v = _ from h1, show w = _ from h2]
theorem gpa_int {k : Int} {P : List Int → Prop} (h : GpA p n tr σ G (fun vs _ => ∃ xs : List Int, vs = xs.map V.int ∧ P (k :: xs))) : GpA p n (tCons (tC (.int k)) tr) σ G (fun vs _ => ∃ xs : List Int, vs = xs.map V.int ∧ P xs) := by
  have z := gpa_imp (gpa_cons (n := 0) (gp_of (gv_ci (n := k))) h) (ζ := fun vs _ => ∃ xs : List Int, vs = xs.map V.int ∧ P xs) fun vs G ⟨v, r, e, h1, xs, h2, h3⟩ => ⟨k :: xs, by rw [e, h2, show v = _ from h1]; rfl, h3⟩
  rw [Nat.zero_add] at z
  exact z
end
def CntR : PV := fun v _ => ∃ c : Int, v = .int c ∧ c.natAbs ≤ 1000000000
def spCount : Sp := SpP (α := Unit) 3 (fun _ vs _ => vs = []) (fun _ => CntR)
section
variable {P : Program} {w : World} {K : PySem.W.Frag} {mg : Str → Option Value} {base : Heap}
theorem ok_count (F : Dfn K mg "_law_count" (top 61)) (h1 : CalP P w K mg base 1 "_law_draw" spDraw) (h2 : CalP P w K mg base 2 "_law_pick" spPickI) : CalP P w K mg base 3 "_law_count" spCount := by
  refine cal_of (N := ["_law_pen_here", "_law_size"]) (ps := ["_law_pen_here"]) F (by decide +kernel) ?_ (fun _ _ _ _ _ _ us hl => match us, hl with | [_], _ => rfl) ?_
  · rintro vs H Q E ⟨x, G, p, B, rest, rfl, _, _, _, e, _⟩
    rw [e] <;> rfl
  · intro nd cdv f A outer s H vs Q E hr h
    refine ⟨_, pss_cons (ps_set (i := 1) nd rfl (Or.inl rfl) (C8.pe_c h2 hr (by decide) rfl (pa_cons (pv 0) (pa_cons (pe_lst (pa_cons pe_int (pa_cons pe_int (pa_cons pe_int (pa_cons pe_int (pa_cons pe_int (pa_cons pe_int (pa_cons pe_int (pa_cons (pe_op op_add pe_int (C8.pe_c h1 hr (by decide) rfl (pa_cons (pv 0) (pa_cons pe_int pa_nil)))) (pa_cons (pe_op op_pow pe_int pe_int) pa_nil)))))))))) pa_nil))))
      (pss_one (ps_ret (pe_ifExp (pt_cmpR op_eq (C8.pe_c h1 hr (by decide) rfl (pa_cons (pv 0) (pa_cons pe_int pa_nil))) pe_int (nomark _)) (pv 1) (pe_op op_sub pe_int (pv 1))))), ?_⟩
    obtain ⟨_, G, p, B, rest, rfl, eG, pn, hB, rfl, k⟩ := h
    have lst : GpA p 1 (tCons (tOp (rI0 fun i j => .int (i + j)) (tC (.int 1)) (tCall spDraw [] C8.E0 (tCons (tVar 0) (tCons (tC (.int 999)) tNil)))) (tCons (tOp (rI CPow fun i j => .int (i ^ j.toNat)) (tC (.int 10)) (tC (.int 9))) tNil)) [some (.ref p.1), none] G (fun vs _ => ∃ xs : List Int, vs = xs.map V.int ∧ ∃ i, 0 ≤ i ∧ i < 999 ∧ xs = [1 + i, 1000000000]) := by
      have z := gpa_imp (p := p) (n := 1) (σ := [some (.ref p.1), none]) (G := G) (gpa_cons (p := p) (σ := [some (.ref p.1), none]) (G := G) (n := 1) (m := 0 + 0) (φ := fun v _ => ∃ i, v = .int (1 + i) ∧ 0 ≤ i ∧ i < 999) (gp_op (r := rI0 fun i j => .int (i + j)) (n := 0) (m := 1) (φ := IsI 1) (ψ := InR 999) (gp_of gv_ci) (gp_draw (E := C8.E0) (n := 0) (gpa_pen rfl) (by decide) (by decide)) fun x y G1 H1 s _ u1 u2 Q q => by
        obtain rfl : x = .int 1 := u1.now
        obtain ⟨i, rfl, i0, i1⟩ := u2.now
        exact ⟨1, i, rfl, rfl, q _ _ _ (Stp.refl s) (up_c ⟨i, rfl, i0, i1⟩)⟩) (gpa_cons (gp_of (gv_I (C := CPow) (g := fun i j => .int (i ^ j.toNat)) (gv_ci (n := 10)) (gv_ci (n := 9)) ⟨by decide, by decide, by decide⟩)) (gpa_nil (n := 0)))) (ζ := fun vs _ => ∃ xs : List Int, vs = xs.map V.int ∧ ∃ i, 0 ≤ i ∧ i < 999 ∧ xs = [1 + i, 1000000000]) fun vs G ⟨v, r, e, ⟨i, e1, i0, i1⟩, w', r2, e2, e3, e4⟩ => ⟨[1 + i, 1000000000], by rw [e, e2, e4, e1, show w' = _ from e3]; rfl, i, i0, i1, rfl⟩
      exact z
    refine seq_go (set_gp (p := p) (n := 0 + 1 + 0 + 1) (φ := fun v _ => ∃ c : Int, v = .int c ∧ 0 ≤ c ∧ c ≤ 1000000000) (gp_callX (n := 0 + 1 + 0) ?_) eG pn (by omega) fun v1 G1 H1 s1 c1 u1 => ?_)
    · have l9 := gpa_int (k := 1) (P := fun xs => ∃ i, 0 ≤ i ∧ i < 999 ∧ xs = [1, 1, 2, 3, 4, 6, 12, 1 + i, 1000000000]) (gpa_int (k := 1) (P := fun xs => ∃ i, 0 ≤ i ∧ i < 999 ∧ 1 :: xs = [1, 1, 2, 3, 4, 6, 12, 1 + i, 1000000000]) (gpa_int (k := 2) (P := fun xs => ∃ i, 0 ≤ i ∧ i < 999 ∧ 1 :: 1 :: xs = [1, 1, 2, 3, 4, 6, 12, 1 + i, 1000000000]) (gpa_int (k := 3) (P := fun xs => ∃ i, 0 ≤ i ∧ i < 999 ∧ 1 :: 1 :: 2 :: xs = [1, 1, 2, 3, 4, 6, 12, 1 + i, 1000000000]) (gpa_int (k := 4) (P := fun xs => ∃ i, 0 ≤ i ∧ i < 999 ∧ 1 :: 1 :: 2 :: 3 :: xs = [1, 1, 2, 3, 4, 6, 12, 1 + i, 1000000000]) (gpa_int (k := 6) (P := fun xs => ∃ i, 0 ≤ i ∧ i < 999 ∧ 1 :: 1 :: 2 :: 3 :: 4 :: xs = [1, 1, 2, 3, 4, 6, 12, 1 + i, 1000000000]) (gpa_int (k := 12) (P := fun xs => ∃ i, 0 ≤ i ∧ i < 999 ∧ 1 :: 1 :: 2 :: 3 :: 4 :: 6 :: xs = [1, 1, 2, 3, 4, 6, 12, 1 + i, 1000000000]) (gpa_imp lst fun vs G ⟨xs, e, i, i0, i1, e2⟩ => ⟨xs, e, i, i0, i1, by rw [e2]⟩)))))))
      have l10 := gp_lstI (Pr := fun xs => ∃ i, 0 ≤ i ∧ i < 999 ∧ xs = [1, 1, 2, 3, 4, 6, 12, 1 + i, 1000000000]) (gpa_imp l9 fun vs G ⟨xs, e, i, i0, i1, e2⟩ => ⟨xs, e, by rw [e2]; show 9 ≤ 1000; decide, i, i0, i1, e2⟩)
      refine gpa_imp (gpa_cons (n := 0) (gp_of (gv_v rfl)) (gpa_cons (n := 1) (m := 0) l10 (gpa_nil (n := 0)))) fun vs G ⟨v, r, e, h1, w', r2, e2, ⟨xs, hx, hl, i, i0, i1, ex⟩, e4⟩ => ⟨[w'], xs, by rw [e, e2, e4, show v = _ from h1], ⟨w', rfl, hx, by rw [ex]; exact Nat.succ_le_succ (Nat.zero_le _), hl⟩, fun v G' ⟨c, ec, hc⟩ => ⟨c, ec, ?_⟩⟩
      rw [ex] at hc
      simp only [List.mem_cons, List.not_mem_nil, or_false] at hc
      omega
    · obtain ⟨c, rfl, q0, q1⟩ := u1.now
      refine ret_gp (p := p) (n := 0 + 1 + 0) (B := B + (0 + 1 + 0 + 1)) (gp_if (m := 0) (φ := CntR) (gpt_draw (n := 0) (gpa_pen rfl) (by decide) (by decide)) (gp_of (gv_var rfl (up_c ⟨c, rfl, by omega⟩))) (gp_of ((gv_I0 (g := fun i j => .int (i - j)) (gv_ci (n := 0)) (gv_vi (n := c) rfl)).imp fun v G h => ⟨0 - c, h, by omega⟩))) s1.gh c1 (by omega) fun v G' H' s2 c2 u => k v G' H' (s1.trans s2) (c2.le (by omega)) u
end
end Crt
end

section
/-! Loops beside a pen. -/
set_option autoImplicit false
namespace Crt
open PySem PySem.Spec PyProof.Rows L2
theorem exc_put {p : Pen} {D : Addr} {H : Hp} {o : HO} (h : D ≠ p.1) : exc p (upd H D o) = upd (exc p H) D o := funext fun b => by
  unfold exc
  by_cases hb : b = p.1
  · rw [if_pos hb, upd_ne (by rw [hb]; exact Ne.symm h), if_pos hb]
  · rw [if_neg hb]
    by_cases hd : b = D
    · rw [hd, upd_same, upd_same]
    · rw [upd_ne hd, upd_ne hd, if_neg hb]
theorem exc_free {p : Pen} {D : Addr} {H : Hp} (h : H D = none) : exc p H D = none := by
  unfold exc
  split
  · rfl
  · exact h
theorem exc_of {p : Pen} {D : Addr} {H : Hp} {o : HO} (h : H D = some o) (k : D ≠ p.1) : exc p H D = some o := by
  unfold exc
  rw [if_neg k]
  exact h
theorem Pn.pen {p : Pen} {B : Nat} {H : Hp} (c : Pn p B H) {D : Addr} (h : H D = none) : D ≠ p.1 ∧ D ≠ p.2 := by
  obtain ⟨xs, b, l, h1, h2, _⟩ := c
  exact ⟨(fun z => by rw [z, h1] at h; cases h), fun z => by rw [z, h2] at h; cases h⟩
theorem Pn.put {p : Pen} {B : Nat} {H : Hp} (c : Pn p B H) {D : Addr} {o : HO} (h1 : D ≠ p.1) (h2 : D ≠ p.2) : Pn p B (upd H D o) := by
  obtain ⟨xs, b, l, q1, q2, q3⟩ := c
  exact ⟨xs, b, l, by rw [upd_ne (Ne.symm h1)]; exact q1, by rw [upd_ne (Ne.symm h2)]; exact q2, q3⟩
section
variable {α β : Type} {R : α → PV} {φ : α → PV} {p : Pen} {n k N B : Nat} {σ : L2.St} {G H : Hp} {wi : TI} {g : TG} {tb : TS} {te : TE} {D : Ends} {xs : List α} {P : List α → Prop} {ws : List Nat} {tr : TA}
/-- what is walked, after draws -/
def SrcP (p : Pen) (n : Nat) (wi : TI) (σ : L2.St) (G : Hp) (P : List α → Prop) (R : α → PV) : Prop := ∀ H B, Same G (exc p H) → Pn p B H → B + n ≤ 1000000 → ∀ Rk : It → Hp → Prop,
  (∀ J G1 H1 xs, Stp G (exc p H) G1 (exc p H1) → Pn p (B + n) H1 → P xs → Walks J [] G1 xs R → Rk J H1) → wi σ H Rk
theorem srcP_of (hs : Src wi σ [] [] G xs R) : SrcP p 0 wi σ G (fun ys => ys = xs) R := fun H B a c l Rk k => hs H (a.trans exc_same) hold_nil Rk fun J G1 H1 s1 _ W =>
  let ⟨s2, c2⟩ := c.step a s1
  k J G1 H1 xs s2 c2 rfl W
theorem srcP_range {ta : TA} {Pm : Nat → Prop} (h : GpA p n ta σ G (fun vs _ => ∃ m : Nat, vs = [.int (m : Int)] ∧ Pm m)) (hn : ∀ m, Pm m → m ≤ 100000) : SrcP p n (iRng1 ta) σ G (fun xs => ∃ m, Pm m ∧ xs = nums m) IsI := fun H B a c l Rk k =>
  h H B a c l _ fun vs G1 H1 s1 c1 ul => by
    obtain ⟨m, e, hm⟩ := ul.now
    have hm2 := hn m hm
    refine ⟨(m : Int), e, by omega, by omega, k _ G1 H1 (nums m) s1 c1 ⟨m, hm, rfl⟩ ⟨fun {i x Gc Hc} hx _ e1 e2 => ?_, fun {Gc Hc} _ e1 e2 => ?_⟩⟩
    · obtain ⟨hi, rfl⟩ := range_at hx
      refine ⟨show i < (m : Int).toNat by omega, ?_⟩
      rintro v' H' ⟨rfl, rfl⟩
      exact ⟨Gc, Stp.refl e2, up_c (by show V.int (0 + (i : Int)) = V.int i; rw [Int.zero_add])⟩
    · show (m : Int).toNat ≤ (nums m).length
      rw [nums_len]
      omega
/-- a for, its body may draw -/
theorem for_gp (hs : SrcP p n wi σ G P R) (e : Same G (exc p H)) (c : Pn p B H) (l : B + n ≤ 1000000) (Iv : List α → Nat → L2.St → Hp → Hp → Prop) (hsame : ∀ xs i σ Gc Hc, Iv xs i σ Gc Hc → Same Gc (exc p Hc))
    (h0 : ∀ G1 H1 xs, Stp G (exc p H) G1 (exc p H1) → Pn p (B + n) H1 → P xs → Iv xs 0 σ G1 H1)
    (step : ∀ xs, P xs → ∀ (i : Nat) (x : α) (v : V) σ2 Gc Hc G2 H2, xs[i]? = some x → Same G Gc → Iv xs i σ2 Gc Hc → Stp Gc Hc G2 H2 → Up (R x v) G2 →
      g v σ2 H2 fun σ3 H3 => tb { D with nx := fun σ' H' => ∃ G', Same Gc G' ∧ Iv xs (i + 1) σ' G' H', ct := fun σ' H' => ∃ G', Same Gc G' ∧ Iv xs (i + 1) σ' G' H', bk := D.nx } σ3 H3)
    (fin : ∀ xs σ2 Gc Hc, P xs → Same G Gc → Iv xs xs.length σ2 Gc Hc → D.nx σ2 Hc) : tFor wi g tb D σ H := hs H B e c l _ fun J G1 H1 xs s1 c1 hp W => by
  refine ⟨fun i m σ Hc => m = xs.length - i ∧ i ≤ xs.length ∧ ∃ Gc, Same G1 Gc ∧ Iv xs i σ Gc Hc, ⟨_, rfl, Nat.zero_le _, G1, Same.refl _, h0 G1 H1 xs s1 c1 hp⟩, ?_⟩
  rintro i m σ Hc ⟨rfl, hi, Gc, q1, q2⟩
  have sm := (hsame _ _ _ _ _ q2).trans exc_same
  by_cases hlt : i < xs.length
  · have hx : xs[i]? = some xs[i] := List.getElem?_eq_getElem hlt
    obtain ⟨hgo, hy⟩ := W.go hx hold_nil q1 sm
    refine .inr ⟨hgo, fun σ' H' => ∃ G', Same Gc G' ∧ Iv xs (i + 1) σ' G' H', ?_, fun v H' hv => ?_⟩
    · rintro σ' H' ⟨G', s', h'⟩
      exact ⟨xs.length - (i + 1), by omega, rfl, hlt, G', q1.trans s', h'⟩
    · obtain ⟨G2, s2, ur⟩ := hy v H' hv
      exact step xs hp i xs[i] v σ Gc Hc G2 H' hx (s1.gg.trans q1) q2 s2 ur
  · obtain rfl : i = xs.length := by omega
    exact .inl ⟨W.stop hold_nil q1 sm, fin xs σ Gc Hc hp (s1.gg.trans q1) q2⟩
theorem LcI.len {R' : β → PV} {ys : List β} {D : Addr} {i : Nat} {Gc Hc G0 H0 : Hp} {acc : List V} (I : LcI R' ys G0 H0 D i Gc Hc acc) : acc.length ≤ i := I.ln
/-- [te for g in wi], te may draw -/
theorem gp_lc (m' : MonR φ) (hs : SrcP p n wi σ G P R) (hN : ∀ xs, P xs → xs.length ≤ N) (hN2 : N ≤ 100000)
    (turn : ∀ (v : V) (x : α) (G1 : Hp), Same G G1 → Up (R x v) G1 → ∃ σ2, (∀ H1, Same G1 H1 → ∀ Q, Q σ2 H1 → g v (wipe σ ws) H1 Q) ∧ wipe σ2 ws = wipe σ ws ∧ Gp p k te σ2 G1 (φ x)) :
    Gp p (n + N * k) (tLc wi g tYes te ws) σ G (fun v G => ∃ xs, P xs ∧ LstR φ xs v G) := fun H B a c l Q q =>
  hs H B a c (by omega) _ fun J G1 H1 xs s1 c1 hp W D hD => by
    have hN3 := hN xs hp
    obtain ⟨d1, d2⟩ := c1.pen hD
    have hDx : exc p H1 D = none := exc_free hD
    refine ⟨fun i m Hc => m = xs.length - i ∧ i ≤ xs.length ∧ ∃ Gc acc, LcI φ (xs.take i) G1 (exc p H1) D i Gc (exc p Hc) acc ∧ Pn p (B + n + i * k) Hc, ⟨_, rfl, Nat.zero_le _, G1, [], ?_, ?_⟩, ?_⟩
    · rw [exc_put d1]
      exact LcI.start s1.gh hDx
    · rw [Nat.zero_mul, Nat.add_zero]
      exact c1.put d1 d2
    rintro i m Hc ⟨rfl, hi, Gc, acc, I, cc⟩
    have sm := I.gh.trans exc_same
    by_cases hlt : i < xs.length
    · have hx : xs[i]? = some xs[i] := List.getElem?_eq_getElem hlt
      obtain ⟨hgo, hy⟩ := W.go hx hold_nil I.gg sm
      refine .inr ⟨hgo, fun H' => ∃ Gc acc, LcI φ (xs.take (i + 1)) G1 (exc p H1) D (i + 1) Gc (exc p H') acc ∧ Pn p (B + n + (i + 1) * k) H', fun H' h => ⟨xs.length - (i + 1), by omega, rfl, hlt, h⟩, fun v H' hv => ?_⟩
      obtain ⟨G2, s2, ur⟩ := hy v H' hv
      obtain ⟨s3, c3⟩ := cc.step I.gh s2
      have I2 := I.step m' s3
      obtain ⟨σ2, hg, hw, t⟩ := turn v xs[i] G2 (s1.gg.trans I2.gg) ur
      have hb : (i + 1) * k ≤ N * k := Nat.mul_le_mul_right _ (by omega)
      rw [Nat.add_mul, Nat.one_mul] at hb
      refine hg H' (I2.gh.trans exc_same) _ ⟨hw, ?_⟩
      unfold tYes
      dsimp only
      rw [if_pos rfl]
      refine t H' (B + n + i * k) I2.gh c3 (by omega) _ fun y G4 H4 s4 c4 uy => ?_
      have I4 := I2.step m' s4
      refine ⟨acc, exc_same _ _ I4.at_, Nat.lt_of_le_of_lt (Nat.le_trans I4.ln (show i ≤ 100000 by omega)) (by decide), G4, acc ++ [y], ?_, ?_⟩
      · rw [exc_put d1, take_snoc hx]
        exact I4.app hDx uy.now
      · rw [Nat.add_mul, Nat.one_mul, ← Nat.add_assoc]
        exact c4.put d1 d2
    · obtain rfl : i = xs.length := by omega
      rw [List.take_length] at I
      obtain ⟨s2, u2⟩ := I.done m' hDx
      have hb : xs.length * k ≤ N * k := Nat.mul_le_mul_right _ hN3
      exact .inl ⟨W.stop hold_nil I.gg sm, q _ _ _ (s1.trans s2) (cc.le (by omega)) (u2.imp fun G h => ⟨xs, hp, h⟩)⟩
end
end Crt
end

section
/-! _law_shuffled. -/
set_option autoImplicit false
namespace Crt
open PySem PySem.Spec PyProof.Rows L2
theorem AcI.other {G H Gc Hc : Hp} {D E : Addr} {o u : HO} (I : AcI G H D o Gc Hc) (g : Gc E = none) (h : H E = none) (ne : E ≠ D) : AcI G H D o Gc (upd Hc E u) :=
  ⟨I.gg, same_mut I.gh g, same_mut I.hh h, I.nw, I.nD, by rw [upd_ne (Ne.symm ne)]; exact I.at_⟩
def spShuf : Sp := SpP (α := List Str) 6 (fun xs vs G => ∃ v, vs = [v] ∧ LstR IsS xs v G ∧ xs.length ≤ 6) (fun xs v G => ∃ ys : List Str, ys.Perm xs ∧ LstR IsS ys v G)
section
variable {P : Program} {w : World} {K : PySem.W.Frag} {mg : Str → Option Value} {base : Heap}
theorem erase_perm {α : Type} : ∀ {l : List α} {i : Nat} {x : α}, l[i]? = some x → (x :: l.eraseIdx i).Perm l
  | [], _, _, h => by simp at h
  | a :: l, 0, x, h => by
    simp at h
    rw [h]
    exact List.Perm.refl _
  | a :: l, i + 1, x, h => by
    have ih := erase_perm (l := l) (i := i) (x := x) (by simpa using h)
    exact (List.Perm.swap a x _).trans (ih.cons a)
theorem erase_map {α β : Type} (f : α → β) : ∀ (l : List α) (i : Nat), (l.map f).eraseIdx i = (l.eraseIdx i).map f
  | [], _ => rfl
  | _ :: _, 0 => rfl
  | a :: l, i + 1 => by
    show f a :: (l.map f).eraseIdx i = f a :: (l.eraseIdx i).map f
    rw [erase_map f l i]
theorem ok_shuffled (F : Dfn K mg "_law_shuffled" (top 59)) (mL : mg "list" = none) (ml : mg "len" = none) (h1 : CalP P w K mg base 1 "_law_draw" spDraw) : CalP P w K mg base 2 "_law_shuffled" spShuf := by
  refine cal_of (N := ["_law_pen_here", "_law_items", "_law_left", "_law_found"]) (ps := ["_law_pen_here", "_law_items"]) F (by decide +kernel) ?_ (fun _ _ _ _ _ _ us hl => match us, hl with | [_, _], _ => rfl) ?_
  · rintro vs H Q E ⟨x, G, p, B, rest, rfl, _, _, _, ⟨v, e, _⟩, _⟩
    rw [e] <;> rfl
  · intro nd cdv f A outer s H vs Q E hr h
    have hu := hu_of hr
    refine ⟨_, pss_cons (ps_par (i := 2) (j := 3) rfl nd rfl rfl (by decide) rfl rfl (pa_cons (pe_callTy call_list_of rfl mL boot_list (pa_cons (pv 1) pa_nil)) (pa_cons (pe_lst pa_nil) pa_nil)) (by rfl))
      (pss_cons (ps_while PassesOwn.never (pt_cmpR (op_neL0 hr.units0) (pv 2) (pe_lst pa_nil) (nomark _))
        (pss_one (ps_expr (pe_bm PySem.F.plainAttrs_list PySem.F.slot_list_append PySem.F.type_list_append mt_append (pv 3) (pa_cons (pe_bm PySem.F.plainAttrs_list PySem.F.slot_list_pop PySem.F.type_list_pop mt_popAt (pv 2) (pa_cons (C8.pe_c h1 hr (by decide) rfl (pa_cons (pv 0) (pa_cons (pe_callB call_len_seq rfl ml boot_len (pa_cons (pv 2) pa_nil)) pa_nil))) pa_nil)) pa_nil)))))
      (pss_one (ps_ret (pv 3)))), ?_⟩
    obtain ⟨xs, G, p, B, rest, rfl, eG, pn, hB, ⟨v, rfl, hx, hxl⟩, k⟩ := h
    obtain ⟨a, us, rfl, ha, pr⟩ := hx
    obtain rfl := paired_S pr
    have haH : H a = some (.lst (xs.map V.str)) := exc_same _ _ (eG _ _ ha)
    show tSeq _ _ _ [some (.ref p.1), some (.ref a), none, none] H
    refine seq_go ⟨.ref a, rfl, a, xs.map V.str, rfl, .inl (SqL.of haH), fun l hl => ⟨Nat.zero_le _, fun f hf => ⟨.ref l, .ref f, rfl, ?_⟩⟩⟩
    have hfl : f ≠ l := fun z => by rw [z, upd_same] at hf; cases hf
    have hfH : H f = none := by
      rw [upd_ne hfl] at hf
      exact hf
    obtain ⟨l1, l2⟩ := pn.pen hl
    obtain ⟨f1, f2⟩ := pn.pen hfH
    have xl : exc p H l = none := exc_free hl
    have xf : exc p H f = none := exc_free hfH
    show tSeq _ _ _ [some (.ref p.1), some (.ref a), some (.ref l), some (.ref f)] _
    refine seq_go ?_
    refine ⟨fun m σ Hc => ∃ left found Gc, σ = [some (.ref p.1), some (.ref a), some (.ref l), some (.ref f)] ∧ m = left.length ∧ (found ++ left).Perm xs ∧ AcI G (exc p H) l (.lst (left.map V.str)) Gc (exc p Hc) ∧ AcI G (exc p H) f (.lst (found.map V.str)) Gc (exc p Hc) ∧ Pn p (B + found.length) Hc,
      ⟨_, xs, [], G, rfl, rfl, List.Perm.refl _, ?_, ?_, ?_⟩, ?_⟩
    · rw [exc_put f1, exc_put l1]
      exact (AcI.start eG xl).other (eG.free xf) xf hfl
    · have z := (AcI.start (o := .lst []) eG xf).other (E := l) (u := .lst (xs.map V.str)) (eG.free xl) xl (Ne.symm hfl)
      have e : upd (upd (exc p H) f (.lst [])) l (.lst (xs.map V.str)) = exc p (upd (upd H l (.lst (xs.map V.str))) f (.lst [])) := by
        rw [exc_put f1, exc_put l1]
        funext b
        by_cases hb : b = l
        · subst hb
          rw [upd_same, upd_ne (Ne.symm hfl), upd_same]
        · rw [upd_ne hb]
          by_cases hb2 : b = f
          · subst hb2
            rw [upd_same, upd_same]
          · rw [upd_ne hb2, upd_ne hb2, upd_ne hb]
      rw [e] at z
      exact z
    · exact (pn.put l1 l2).put f1 f2
    rintro m σ Hc ⟨left, found, Gc, rfl, rfl, pm, Il, If, pc⟩
    have hll : left.length ≤ 6 := by
      have := pm.length_eq
      rw [List.length_append] at this
      omega
    have hfl2 : found.length + left.length ≤ 6 := by
      have := pm.length_eq
      rw [List.length_append] at this
      omega
    have atl : Hc l = some (.lst (left.map V.str)) := exc_same _ _ Il.at_
    refine ⟨.ref l, rfl, Nat.zero_le _, fun e he => ⟨l, e, left.map V.str, rfl, rfl, by rw [upd_ne (ne_of_none atl he)]; exact atl, upd_same, _, rfl, ?_⟩⟩
    obtain ⟨e1, e2⟩ := pc.pen he
    have pc1 := pc.put (o := .lst []) e1 e2
    have st1 : Stp Gc (exc p Hc) Gc (exc p (upd Hc e (.lst []))) := by
      rw [exc_put e1]
      exact ⟨Same.refl _, same_mut Il.gh (Il.gh.free (exc_free he)), same_new (exc_free he), fun _ _ h _ _ => h⟩
    have Il1 := Il.step st1 (fun xs z => nomatch z)
    have If1 := If.step st1 (fun xs z => nomatch z)
    generalize upd Hc e (.lst []) = H1 at *
    cases left with
    | nil =>
      rw [if_neg (by decide)]
      rw [List.append_nil] at pm
      have st := If1.fin' xf
      exact ⟨.ref f, rfl, k (.ref f) _ H1 st (pc1.le (by rw [List.length_nil] at hfl2; omega)) fun F hF => ⟨found, pm, mon_lst mon_S _ _ _ _ hF ⟨f, found.map V.str, rfl, upd_same, paired_S' found⟩⟩⟩
    | cons x0 left0 =>
      rw [if_pos (show (!((x0 :: left0).map V.str).isEmpty) = true from rfl)]
      generalize hL : x0 :: left0 = left at *
      have hlp : 1 ≤ left.length := by rw [← hL]; exact Nat.succ_le_succ (Nat.zero_le _)
      clear hL
      have atl1 : H1 l = some (.lst (left.map V.str)) := exc_same _ _ Il1.at_
      have atf1 : H1 f = some (.lst (found.map V.str)) := exc_same _ _ If1.at_
      refine ⟨fun σ' H' => ∃ left' found' Gc', left'.length < left.length ∧ σ' = [some (.ref p.1), some (.ref a), some (.ref l), some (.ref f)] ∧ (found' ++ left').Perm xs ∧ AcI G (exc p H) l (.lst (left'.map V.str)) Gc' (exc p H') ∧ AcI G (exc p H) f (.lst (found'.map V.str)) Gc' (exc p H') ∧ Pn p (B + found'.length) H',
        fun σ' H' ⟨left', found', Gc', lt, q1, q2, q3, q4, q5⟩ => ⟨left'.length, lt, left', found', Gc', q1, rfl, q2, q3, q4, q5⟩, ?_⟩
      refine ⟨.ref f, rfl, .inl ⟨rfl, _, SqL.of atf1⟩, .ref l, rfl, .inl ⟨rfl, _, SqL.of atl1⟩, .ref p.1, rfl, .ref l, rfl, l, left.map V.str, rfl, .inl (SqL.of atl1), ?_⟩
      rw [List.length_map]
      refine ⟨(left.length : Int), Gc, p, B + found.length, [.int left.length], rfl, Il1.gh, pc1, by omega, ⟨rfl, by omega, by omega⟩, fun y G2 H2 s2 c2 u2 => ?_⟩
      obtain ⟨i, rfl, i0, i1⟩ := u2.now
      obtain ⟨j, rfl⟩ : ∃ j : Nat, i = j := ⟨i.toNat, by omega⟩
      have hj : j < left.length := by omega
      have Il2 := Il1.step s2 (fun xs z => nomatch z)
      have If2 := If1.step s2 (fun xs z => nomatch z)
      have atl2 : H2 l = some (.lst (left.map V.str)) := exc_same _ _ Il2.at_
      have hx : left[j]? = some left[j] := List.getElem?_eq_getElem hj
      refine ⟨l, left.map V.str, j, j, .str left[j], rfl, rfl, atl2, by omega, by omega, by rw [List.length_map]; exact seqIndex_of (by omega) (by omega), by rw [List.getElem?_map, hx]; rfl, ?_⟩
      rw [erase_map]
      have Il3 := Il2.set xl (.lst ((left.eraseIdx j).map V.str))
      have If3 := If2.other (u := .lst ((left.eraseIdx j).map V.str)) Il2.nD xl (Ne.symm hfl)
      rw [← exc_put l1] at Il3 If3
      have pc3 := c2.put (o := .lst ((left.eraseIdx j).map V.str)) l1 l2
      generalize upd H2 l (.lst ((left.eraseIdx j).map V.str)) = H3 at *
      have atf3 : H3 f = some (.lst (found.map V.str)) := exc_same _ _ If3.at_
      refine ⟨f, found.map V.str, .str left[j], rfl, rfl, atf3, by rw [List.length_map]; exact Nat.lt_of_le_of_lt (show found.length ≤ 6 by omega) (by decide), ?_⟩
      have e0 : found.map V.str ++ [V.str left[j]] = (found ++ [left[j]]).map V.str := by rw [List.map_append]; rfl
      rw [e0]
      have If4 := If3.set xf (.lst ((found ++ [left[j]]).map V.str))
      have Il4 := Il3.other (u := .lst ((found ++ [left[j]]).map V.str)) If3.nD xf hfl
      rw [← exc_put f1] at If4 Il4
      refine ⟨left.eraseIdx j, found ++ [left[j]], G2, ?_, rfl, ?_, Il4, If4, ?_⟩
      · have := (erase_perm hx).length_eq
        rw [List.length_cons] at this
        omega
      · rw [List.append_assoc]
        exact ((erase_perm hx).append_left found).trans pm
      · rw [List.length_append, List.length_singleton, ← Nat.add_assoc]
        exact pc3.put f1 f2
end
end Crt
end

section
/-! dict(pairs), slices with draws; _law_counts. -/
set_option autoImplicit false
namespace Crt
open PySem PySem.Spec PyProof.Rows L2
theorem cut_toN {us : List V} {j : Nat} : cutV us none (some (j : Int)) = us.take j := by
  unfold cutV
  rw [HT.sIx_nat, HT.sIx_none, List.drop_zero, Nat.sub_zero]
  rcases Nat.le_total j us.length with h | h
  · rw [Nat.min_eq_left h]
  · rw [Nat.min_eq_right h, List.take_of_length_le h, List.take_of_length_le (Nat.le_refl _)]
abbrev rDictP (K : PySem.W.Frag) : List V → Hp → VK → Prop := fun xs H Q => ∃ (a : Addr) (ps : List Addr) (kvs : List (Key × V)), xs = [.ref a] ∧ SqL K H a (ps.map V.ref) ∧ Paired (fun p kv => SqT K H p [kV kv.1, kv.2]) ps kvs ∧ ∀ p, H p = none → Q (.ref p) (upd H p (.dK (mergeK [] kvs)))
section
variable {α : Type} {R : α → PV} {φ ψ χ : PV} {p : Pen} {n m : Nat} {σ : L2.St} {G H : Hp} {te ta tb : TE} {tr : TA} {ξ : List V → Hp → Prop} {K : PySem.W.Frag}
/-- a pair, its parts may draw -/
theorem gp_tup2 (ha : Gp p n ta σ G φ) (hb : Gp p m tb σ G ψ) (k : ∀ x y t G, φ x G → ψ y G → G t = some (.tup [x, y]) → χ (.ref t) G) : Gp p (n + m) (tTup (tCons ta (tCons tb tNil))) σ G χ := fun H B a c l Q q =>
  ha H B a c (by omega) _ fun x G1 H1 s1 c1 ux => (hb.mono s1.gg) H1 (B + n) s1.gh c1 (by omega) _ fun y G2 H2 s2 c2 uy => by
    have e2 := s2.gh.trans exc_same
    refine ⟨by show 2 ≤ sizeLine; decide, fun t ht => ?_⟩
    obtain ⟨s3, c3⟩ := c2.step s2.gh (Stp.laid (o := .tup [x, y]) e2 ht)
    have nw := same_new (o := .tup [x, y]) (e2.free ht)
    exact q _ _ _ ((s1.trans s2).trans s3) (c3.le (by omega)) fun F hF => k x y t F (ux F (s2.gg.trans (nw.trans hF))) (uy F (nw.trans hF)) (hF _ _ upd_same)
/-- xs[:j], j drawn -/
theorem gp_cut {Pa : List α → Prop} {Pj : Nat → Prop} (mR : MonR R) (ha : Gp p n ta σ G (fun v G => ∃ xs : List α, Pa xs ∧ LstR R xs v G)) (hb : Gp p m tb σ G (fun v _ => ∃ j : Nat, v = .int (j : Int) ∧ Pj j)) :
    Gp p (n + m) (tSl (rSlL K) ta tNoPart (tPart tb)) σ G (fun v G => ∃ (xs : List α) (j : Nat), Pa xs ∧ Pj j ∧ LstR R (xs.take j) v G) := fun H B a c l Q q =>
  ha H B a c (by omega) _ fun x G1 H1 s1 c1 ux => (hb.mono s1.gg) H1 (B + n) s1.gh c1 (by omega) _ fun y G2 H2 s2 c2 uy => by
    obtain ⟨j, rfl, hj⟩ := uy.now
    obtain ⟨xs, hxs, b, us, rfl, hb1, pr⟩ := (ux.on s2.gg).now
    refine ⟨(j : Int), rfl, b, us, rfl, SqL.of ((s2.gh.trans exc_same) _ _ hb1), fun d hd => ?_⟩
    rw [cut_toN]
    obtain ⟨s3, c3⟩ := c2.step s2.gh (Stp.laid (o := .lst (us.take j)) (s2.gh.trans exc_same) hd)
    exact q _ _ _ ((s1.trans s2).trans s3) (c3.le (by omega)) ((lst_new mR (pr_take pr) ((s2.gh.trans exc_same).free hd)).imp fun G h => ⟨xs, j, hxs, hj, h⟩)
/-- a new thing, from here on unchanged -/
theorem gp_cbz {r : List V → Hp → VK → Prop} (h : GpA p n tr σ G ξ) (hr : ∀ vs G1 H1, Same G1 H1 → Same G G1 → Up (ξ vs) G1 → ∃ u : HO, Mut (some u) ∧ (∀ Q : VK, (∀ d, H1 d = none → Q (.ref d) (upd H1 d u)) → r vs H1 Q) ∧ ∀ d o, G1 d = none → Up (χ (.ref d)) (upd G1 d (.frz o u))) : Gp p n (tFz (tCB r tr)) σ G χ := fun H B a c l Q q =>
  h H B a c l _ fun vs G1 H1 s1 c1 u1 => by
    have e1 := s1.gh.trans exc_same
    obtain ⟨u, mu, hq, hχ⟩ := hr vs G1 H1 e1 s1.gg u1
    refine hq _ fun d hd => ⟨d, u, rfl, upd_same, mu, fun o => ?_⟩
    rw [upd_upd]
    obtain ⟨s3, c3⟩ := c1.step s1.gh (Stp.laid (o := .frz o u) e1 hd)
    exact q _ _ _ (s1.trans s3) c3 (hχ d o (e1.free hd))
theorem gv_cbz {cs : Held} {r : List V → Hp → VK → Prop} (h : GvA cs tr σ G ξ) (hr : ∀ vs G1 H1, Same G1 H1 → Same G G1 → Up (ξ vs) G1 → ∃ u : HO, Mut (some u) ∧ (∀ Q : VK, (∀ d, H1 d = none → Q (.ref d) (upd H1 d u)) → r vs H1 Q) ∧ ∀ d o, G1 d = none → Up (χ (.ref d)) (upd G1 d (.frz o u))) : Gv cs (tFz (tCB r tr)) σ G χ := fun H a c Q q =>
  h H a c _ fun vs G1 H1 s1 u1 => by
    obtain ⟨u, mu, hq, hχ⟩ := hr vs G1 H1 s1.gh s1.gg u1
    refine hq _ fun d hd => ⟨d, u, rfl, upd_same, mu, fun o => ?_⟩
    rw [upd_upd]
    exact q _ _ _ (s1.trans (Stp.laid (o := .frz o u) s1.gh hd)) (hχ d o (s1.gh.free hd))
/-- what dict makes of pairs -/
theorem dictP_made {β : Type} {R' : β → PV} (m' : MonR R') {xs : List (Str × β)} {v : V} {G1 H1 : Hp} (e : Same G1 H1) (h : LstR (PairR IsS R') xs v G1) : ∃ u : HO, Mut (some u) ∧ (∀ Q : VK, (∀ d, H1 d = none → Q (.ref d) (upd H1 d u)) → rDictP K [v] H1 Q) ∧ ∀ d o, G1 d = none → Up (Dic KS R' (putAll [] xs) (.ref d)) (upd G1 d (.frz o u)) := by
  obtain ⟨a, vs, rfl, ha, pr⟩ := h
  have dec : ∃ (ps : List Addr) (us : List (Str × V)), vs = ps.map V.ref ∧ Paired (fun (p : Addr) (u : Str × V) => G1 p = some (.tup [.str u.1, u.2])) ps us ∧ Paired (fun (u : Str × V) (x : Str × β) => u.1 = x.1 ∧ R' x.2 u.2 G1) us xs := by
    clear ha
    induction pr with
    | nil => exact ⟨[], [], rfl, .nil, .nil⟩
    | cons h _ ih =>
      obtain ⟨ps, us, e1, e2, e3⟩ := ih
      obtain ⟨t, x, y, rfl, ht, hx, hy⟩ := h
      obtain rfl := hx
      exact ⟨t :: ps, (_, y) :: us, by rw [e1]; rfl, .cons ht e2, .cons ⟨rfl, hy⟩ e3⟩
  obtain ⟨ps, us, rfl, e2, e3⟩ := dec
  refine ⟨KS.ho (putAll [] us), KS.mu _, fun Q q => ⟨a, ps, us.map inK, rfl, SqL.of (e _ _ ha), ?_, fun d hd => ?_⟩, fun d o hd => ?_⟩
  · clear ha pr e3 q
    induction e2 with
    | nil => exact .nil
    | cons h _ ih => exact .cons (SqT.of (e _ _ h)) ih
  · have em : mergeK [] (us.map inK) = (putAll [] us).map inK := merge_map us []
    rw [em]
    exact q d hd
  · have pp : ∀ {us : List (Str × V)} {xs : List (Str × β)}, Paired (fun (u : Str × V) (x : Str × β) => u.1 = x.1 ∧ R' x.2 u.2 G1) us xs → ∀ {us0 : List (Str × V)} {xs0 : List (Str × β)}, Paired (fun (u : Str × V) (x : Str × β) => u.1 = x.1 ∧ R' x.2 u.2 G1) us0 xs0 → Paired (fun (u : Str × V) (x : Str × β) => u.1 = x.1 ∧ R' x.2 u.2 G1) (putAll us0 us) (putAll xs0 xs) := fun {us xs} p => by
      induction p with
      | nil => exact fun h => h
      | @cons u x us xs h _ ih =>
        intro us0 xs0 h0
        show Paired _ (putAll (putA us0 u.1 u.2) us) (putAll (putA xs0 x.1 x.2) xs)
        refine ih ?_
        rw [h.1]
        exact paired_put (R := fun z b => R' b z G1) h0 x.1 h.2
    have z := pp e3 (us0 := []) (xs0 := []) .nil
    exact (mon_dic m').up ⟨d, o, _, rfl, upd_same, L2.Paired.mapP z fun u x r => ⟨r.1, m' _ _ _ _ (same_new hd) r.2⟩⟩
end
/-- a count of the law's -/
def CntB (i : Int) : Prop := i.natAbs ≤ 1000000000
def spCounts : Sp := SpP (α := List Str) 16 (fun xs vs G => ∃ v, vs = [v] ∧ LstR IsS xs v G ∧ xs.length ≤ 6 ∧ xs.Nodup) (fun xs v G => ∃ l : List (Str × Int), Cnt l v G ∧ l.length ≤ 3 ∧ (l.map (·.1)).Nodup ∧ ∀ q ∈ l, q.1 ∈ xs ∧ CntB q.2)
/-- kind and some count -/
def KCnt (k : Str) : PV := fun v G => ∃ i : Int, CntB i ∧ PairR IsS IsI (k, i) v G
theorem mon_KCnt : MonR KCnt := fun k v H H' e ⟨i, h1, h2⟩ => ⟨i, h1, mon_pair mon_S mon_I _ _ _ _ e h2⟩
theorem kcnt_list {G : Hp} : ∀ {vs : List V} {ys : List Str}, Paired (fun u x => KCnt x u G) vs ys → ∃ l : List (Str × Int), Paired (fun u x => PairR IsS IsI x u G) vs l ∧ l.map (·.1) = ys ∧ ∀ q ∈ l, CntB q.2
  | _, _, .nil => ⟨[], .nil, rfl, fun _ h => by cases h⟩
  | _, _, .cons h t => by
    obtain ⟨l, h1, h2, h3⟩ := kcnt_list t
    obtain ⟨i, hi, hp⟩ := h
    refine ⟨(_, i) :: l, .cons hp h1, by rw [List.map_cons, h2], fun q hq => ?_⟩
    rcases List.mem_cons.mp hq with e | e
    · rw [e]
      exact hi
    · exact h3 q e
section
variable {P : Program} {w : World} {K : PySem.W.Frag} {mg : Str → Option Value} {base : Heap}
theorem ok_lcounts (F : Dfn K mg "_law_counts" (top 62)) (md : mg "dict" = none) (h1 : CalP P w K mg base 1 "_law_draw" spDraw) (h2 : CalP P w K mg base 2 "_law_shuffled" spShuf) (h3 : CalP P w K mg base 3 "_law_count" spCount) : CalP P w K mg base 4 "_law_counts" spCounts := by
  refine cal_of (N := ["_law_pen_here", "_law_kinds", "_law_some", "_law_kind"]) (ps := ["_law_pen_here", "_law_kinds"]) F (by decide +kernel) ?_ (fun _ _ _ _ _ _ us hl => match us, hl with | [_, _], _ => rfl) ?_
  · rintro vs H Q E ⟨x, G, p, B, rest, rfl, _, _, _, ⟨v, e, _⟩, _⟩
    rw [e] <;> rfl
  · intro nd cdv f A outer s H vs Q E hr h
    have hu := hu_of hr
    refine ⟨_, pss_cons (ps_set (i := 2) nd rfl (Or.inl rfl) (pe_slice sl_list (C8.pe_c h2 hr (by decide) rfl (pa_cons (pv 0) (pa_cons (pv 1) pa_nil))) po_none (po_some (C8.pe_c h1 hr (by decide) rfl (pa_cons (pv 0) (pa_cons pe_int pa_nil))))))
      (pss_one (ps_ret (pe_fz (pe_callTy (call_dictP rfl) rfl md boot_dict (pa_cons (pe_lc (own := [("_law_kind", 3)]) (g := gName 3) (tt := tYes) (te := tTup (tCons (tVar 3) (tCons (tCall spCount [] C8.E0 (tCons (tVar 0) tNil)) tNil))) rfl nd (pi_list (pv 2)) (blkOk_by (N := ["_law_pen_here", "_law_kinds", "_law_some", "_law_kind"]) (sc := C8.fnScope (top 62)) (by decide +kernel)) (fun _ _ _ _ _ => pg_name (i := 3) nd rfl (Or.inl rfl)) (fun _ _ _ _ _ => pts_nil) (fun _ _ _ _ _ => pe_tup (pa_cons (pv 3) (pa_cons (C8.pe_c h3 hr (by decide) rfl (pa_cons (pv 0) pa_nil)) pa_nil)))) pa_nil))))), ?_⟩
    obtain ⟨xs, G, p, B, rest, rfl, eG, pn, hB, ⟨v, rfl, hx, hxl, hnd⟩, k⟩ := h
    have ux := (mon_lst mon_S).up hx
    show tSeq _ _ _ [some (.ref p.1), some v, none, none] H
    refine seq_go (set_gp (p := p) (n := (0 + 6) + (0 + 1)) (gp_cut (Pa := fun ys : List Str => ys.Perm xs) (Pj := fun j => j < 4) mon_S (gp_callX (n := 0) (gpa_imp (gpa_cons (n := 0) (m := 0 + 0) (gp_of (gv_v rfl)) (gpa_cons (gp_of (gv_var rfl ux)) (gpa_nil (n := 0)))) fun vs G ⟨v, r, e, h1, w', r2, e2, h2, h3⟩ => ⟨[w'], xs, by rw [e, e2, h3, show v = _ from h1], ⟨w', rfl, h2, hxl⟩, fun v G h => h⟩)) ((gp_draw (n := 0) (gpa_pen rfl) (by decide) (by decide)).imp fun v G ⟨i, e, i0, i1⟩ => ⟨i.toNat, by rw [e]; congr 1; omega, by omega⟩)) eG pn (by omega) fun v1 G1 H1 s1 c1 u1 => ?_)
    obtain ⟨ys0, j, pm, hj, hl1⟩ := u1.now
    have ul1 := (mon_lst mon_S).up hl1
    have yl : (ys0.take j).length ≤ 3 := by rw [List.length_take]; omega
    dsimp only
    show tRet _ _ [some (.ref p.1), some v, some v1, none] H1
    refine ret_gp (p := p) (n := 0 + 3 * (0 + 3) + 0) (gp_cbz (gpa_cons (m := 0) (gp_lc (R := IsS) (φ := KCnt) (N := 3) (k := 0 + 3) mon_KCnt (srcP_of (src_list mon_S (gv_var rfl ul1))) (fun xs e => by rw [e]; exact yl) (by decide) ?_) gpa_nil) ?_) s1.gh c1 (by omega) fun v2 G2 H2 s2 c2 u2 => k v2 G2 H2 (s1.trans s2) (c2.le (by omega)) (u2.imp fun G h => h)
    · rintro z x G2 e2 uz
      obtain rfl := uz.now
      refine ⟨_, tg_name, rfl, ?_⟩
      refine gp_tup2 (φ := IsS x) (ψ := CntR) (n := 0) (m := 0 + 3) (gp_of (gv_vs rfl)) (gp_callX (n := 0) (m := 3) (α := Unit) (pre := fun _ vs _ => vs = []) (post := fun _ => CntR) (gpa_imp (gpa_cons (n := 0) (m := 0) (gp_of (gv_v rfl)) (gpa_nil (n := 0))) fun vs G ⟨v, r, e, h1, h2⟩ => ⟨[], (), by rw [e, h2, show v = _ from h1], rfl, fun v G h => h⟩)) fun x y t G h1 h2 ht => by
        obtain rfl := h1
        obtain ⟨i, rfl, hi⟩ := h2
        exact ⟨i, hi, t, _, _, rfl, ht, rfl, rfl⟩
    · rintro vs G1 H1 e1 _ u1
      obtain ⟨v, r, rfl, ⟨zs, rfl, a, us, rfl, ha, pr⟩, rfl⟩ := u1.now
      obtain ⟨l, q1, q2, q3⟩ := kcnt_list pr
      obtain ⟨u, mu, hq, hd⟩ := dictP_made (K := K) mon_I e1 (xs := l) (v := .ref a) ⟨a, us, rfl, ha, q1⟩
      have ndl : (l.map (·.1)).Nodup := by
        rw [q2]
        exact (pm.nodup_iff.mpr hnd).sublist (List.take_sublist _ _)
      have el : putAll [] l = l := putAll_new (l := []) l (by rw [List.nil_append]; exact ndl)
      rw [el] at hd
      refine ⟨u, mu, hq, fun d o hn => (hd d o hn).imp fun G h => ⟨l, h, ?_, ndl, fun q hq => ⟨?_, q3 q hq⟩⟩⟩
      · rw [← List.length_map (f := (·.1)) (as := l), q2]
        exact yl
      · have : q.1 ∈ ys0.take j := by
          rw [← q2]
          exact List.mem_map.mpr ⟨q, hq, rfl⟩
        exact pm.mem_iff.mp (List.mem_of_mem_take this)
end
end Crt
end

section
/-! Words: the plain part. -/
set_option autoImplicit false
namespace Crt
open PySem PySem.Spec PyProof.Rows L2
/-- only letters -/
def Lets (z : Str) : Prop := ∀ c ∈ z.cps.toList, c ∈ letters.cps.toList
theorem app_list (a b : Str) : (a ++ b).cps.toList = a.cps.toList ++ b.cps.toList := by
  show (a.cps ++ b.cps).toList = _
  rw [Array.toList_append]
theorem len_list (a : Str) : a.length = a.cps.toList.length := by
  show a.cps.size = _
  rw [Array.length_toList]
theorem join_lets {sep : Str} (hs : Lets sep) : ∀ {ys : List Str}, (∀ y ∈ ys, Lets y) → Lets (Str.join sep ys)
  | [], _ => fun c h => by
    have : (Str.empty).cps.toList = [] := rfl
    rw [show Str.join sep [] = Str.empty from rfl, this] at h
    cases h
  | [x], h => h x List.mem_cons_self
  | x :: y :: r, h => fun c hc => by
    rw [show Str.join sep (x :: y :: r) = x ++ sep ++ Str.join sep (y :: r) from rfl, app_list, app_list] at hc
    rcases List.mem_append.mp hc with q | q
    · rcases List.mem_append.mp q with q2 | q2
      · exact h x List.mem_cons_self c q2
      · exact hs c q2
    · exact join_lets hs (ys := y :: r) (fun z hz => h z (List.mem_cons_of_mem _ hz)) c q
theorem txt_join (sep : Str) (ys : List Str) : Txt.join sep ys = Str.join sep ys := by
  show Builtin.Str.glued sep ys = _
  rw [StrLaws.glued_eq_join]
theorem sum_ones : ∀ {ys : List Str}, (∀ y ∈ ys, y.length = 1) → (ys.map (·.length)).sum = ys.length
  | [], _ => rfl
  | y :: ys, h => by
    rw [List.map_cons, List.sum_cons, sum_ones fun z hz => h z (List.mem_cons_of_mem _ hz), h y List.mem_cons_self, List.length_cons]
    omega
/-- the parts of a text -/
def sOf (l : List Nat) : Str := ⟨l.toArray⟩
theorem sOf_list (l : List Nat) : (sOf l).cps.toList = l := rfl
theorem sOf_eq (z : Str) : sOf z.cps.toList = z := rfl
theorem cutS_from {z : Str} {j : Nat} (h : j ≤ z.length) : cutS z (some (j : Int)) none = sOf (z.cps.toList.drop j) := by
  have l := len_list z
  unfold cutS sOf
  rw [HT.sIx_nat, HT.sIx_none, Nat.min_eq_left h, List.take_of_length_le]
  rw [List.length_drop]
  omega
theorem cutS_to {z : Str} {j : Nat} : cutS z none (some (j : Int)) = sOf (z.cps.toList.take j) := by
  have l := len_list z
  unfold cutS sOf
  rw [HT.sIx_nat, HT.sIx_none, List.drop_zero, Nat.sub_zero]
  rcases Nat.le_total j z.length with h | h
  · rw [Nat.min_eq_left h]
  · rw [Nat.min_eq_right h, List.take_of_length_le (by omega), List.take_of_length_le (by omega)]
def ltr (i : Nat) : Nat := letters.cps.toList.getD i 97
theorem letters_list : letters.cps.toList = [97, 98, 99, 100, 101, 102, 103, 104, 105, 106, 107, 108, 109, 110, 111, 112, 113, 114, 115, 116, 117, 118, 119, 120, 121, 122] := by decide +kernel
theorem letters_len : letters.length = 26 := by
  rw [len_list, letters_list]
  rfl
theorem ltr_mem {i : Nat} (h : i < 26) : letters.cps.toList[i]? = some (ltr i) ∧ ltr i ∈ letters.cps.toList := by
  have hl : i < letters.cps.toList.length := by
    rw [← len_list, letters_len]
    exact h
  have e : letters.cps.toList[i]? = some (ltr i) := by
    unfold ltr
    rw [List.getD_eq_getElem?_getD, List.getElem?_eq_getElem hl]
    rfl
  exact ⟨e, List.mem_of_getElem? e⟩
theorem ltr_eq {i : Nat} (h : i < 26) : ltr i = 97 + i := by
  unfold ltr
  rw [letters_list]
  have : ∀ n, n < 26 → ([97, 98, 99, 100, 101, 102, 103, 104, 105, 106, 107, 108, 109, 110, 111, 112, 113, 114, 115, 116, 117, 118, 119, 120, 121, 122] : List Nat).getD n 97 = 97 + n := by decide
  exact this i h
/-- the words -/
def wordL (st : List Nat) (at_ fr sp : Nat) (cut : Bool) (k : Nat) : Str := sOf (st.take at_ ++ [ltr ((fr + sp * k) % 26)] ++ if cut = true then (st.drop at_).take (k % 3) else st.drop at_)
def steps : List Int := [1, 3, 5, 7, 9, 11, 15, 17]
theorem wordL_word {z : Str} {at_ fr sp k : Nat} {cut : Bool} (hz : Lets z) (hl : z.length ≤ 7) : Word (wordL z.cps.toList at_ fr sp cut k) := by
  have l := len_list z
  unfold wordL Word
  refine ⟨?_, ?_, ?_⟩
  · rw [len_list, sOf_list, List.length_append, List.length_append, List.length_singleton]
    omega
  · rw [len_list, sOf_list, List.length_append, List.length_append, List.length_singleton, List.length_take]
    have : (if cut = true then (z.cps.toList.drop at_).take (k % 3) else z.cps.toList.drop at_).length ≤ z.length - at_ := by
      split
      · rw [List.length_take, List.length_drop]
        omega
      · rw [List.length_drop]
        omega
    omega
  · intro c hc
    rw [sOf_list] at hc
    rcases List.mem_append.mp hc with q | q
    · rcases List.mem_append.mp q with q2 | q2
      · exact hz c (List.mem_of_mem_take q2)
      · rw [List.mem_singleton.mp q2]
        exact (ltr_mem (Nat.mod_lt _ (by decide))).2
    · split at q
      · exact hz c (List.mem_of_mem_drop (List.mem_of_mem_take q))
      · exact hz c (List.mem_of_mem_drop q)
theorem step_ne {sp : Nat} (hs : (sp : Int) ∈ steps) {fr j k : Nat} (hj : j < 6) (hk : k < 6) (h : (fr + sp * j) % 26 = (fr + sp * k) % 26) : j = k := by
  unfold steps at hs
  simp only [List.mem_cons, List.not_mem_nil, or_false] at hs
  rcases hs with e | e | e | e | e | e | e | e
  · obtain rfl : sp = 1 := by omega
    omega
  · obtain rfl : sp = 3 := by omega
    omega
  · obtain rfl : sp = 5 := by omega
    omega
  · obtain rfl : sp = 7 := by omega
    omega
  · obtain rfl : sp = 9 := by omega
    omega
  · obtain rfl : sp = 11 := by omega
    omega
  · obtain rfl : sp = 15 := by omega
    omega
  · obtain rfl : sp = 17 := by omega
    omega
theorem wordL_ne {st : List Nat} {at_ fr sp j k : Nat} {cut : Bool} (ha : at_ ≤ st.length) (hs : (sp : Int) ∈ steps) (hj : j < 6) (hk : k < 6) (h : wordL st at_ fr sp cut j = wordL st at_ fr sp cut k) : j = k := by
  have e := congrArg (fun z : Str => z.cps.toList[at_]?) h
  have hat : ∀ i, (wordL st at_ fr sp cut i).cps.toList[at_]? = some (ltr ((fr + sp * i) % 26)) := fun i => by
    unfold wordL
    rw [sOf_list, List.append_assoc, List.getElem?_append_right (by rw [List.length_take]; omega), List.length_take, Nat.min_eq_left ha, Nat.sub_self]
    rfl
  have e2 : ltr ((fr + sp * j) % 26) = ltr ((fr + sp * k) % 26) := by
    have e : (wordL st at_ fr sp cut j).cps.toList[at_]? = (wordL st at_ fr sp cut k).cps.toList[at_]? := e
    rw [hat, hat] at e
    exact Option.some.inj e
  rw [ltr_eq (Nat.mod_lt _ (by decide)), ltr_eq (Nat.mod_lt _ (by decide))] at e2
  exact step_ne (fr := fr) hs hj hk (by omega)
theorem words_nodup {st : List Nat} {at_ fr sp many : Nat} {cut : Bool} (ha : at_ ≤ st.length) (hs : (sp : Int) ∈ steps) (hm : many ≤ 6) : ((List.range many).map (wordL st at_ fr sp cut)).Nodup := by
  have : ∀ l : List Nat, l.Nodup → (∀ k ∈ l, k < 6) → (l.map (wordL st at_ fr sp cut)).Nodup := fun l => by
    induction l with
    | nil => exact fun _ _ => List.nodup_nil
    | cons k l ih =>
      intro nd hl
      obtain ⟨n1, n2⟩ := List.nodup_cons.mp nd
      rw [List.map_cons, List.nodup_cons]
      refine ⟨fun h => ?_, ih n2 fun x hx => hl x (List.mem_cons_of_mem _ hx)⟩
      obtain ⟨j, hj, e⟩ := List.mem_map.mp h
      have := wordL_ne ha hs (hl j (List.mem_cons_of_mem _ hj)) (hl k List.mem_cons_self) e
      rw [this] at hj
      exact n1 hj
  exact this _ List.nodup_range fun k hk => by
    have := List.mem_range.mp hk
    omega
end Crt
end

section
/-! _law_words, _law_pen. -/
set_option autoImplicit false
namespace Crt
open PySem PySem.Spec PyProof.Rows L2
section
variable {α : Type} {R : α → PV} {φ ψ χ : PV} {p : Pen} {n m B : Nat} {σ : L2.St} {G H : Hp} {te ta tb : TE} {tr : TA} {ξ : List V → Hp → Prop} {K : PySem.W.Frag} {D : Ends} {cs : Held}
theorem par_gp {i j : Nat} (h1 : Gp p n ta σ G φ) (h2 : Gp p m tb σ G ψ) (e : Same G (exc p H)) (c : Pn p B H) (l : B + (n + m) ≤ 1000000) (k : ∀ v w G1 H1, Stp G (exc p H) G1 (exc p H1) → Pn p (B + (n + m)) H1 → Up (φ v) G1 → Up (ψ w) G1 → D.nx ((σ.set i (some v)).set j (some w)) H1) : tPar i j (tCons ta (tCons tb tNil)) D σ H :=
  h1 H B e c (by omega) _ fun v G1 H1 s1 c1 u1 => (h2.mono s1.gg) H1 (B + n) s1.gh c1 (by omega) _ fun w G2 H2 s2 c2 u2 => ⟨v, w, rfl, k v w G2 H2 (s1.trans s2) (by rw [← Nat.add_assoc]; exact c2) (u1.on s2.gg) u2⟩
theorem gv_addS {x y : Str} (ha : Gv cs ta σ G (IsS x)) (hb : Gv cs tb σ G (IsS y)) (hl : x.length + y.length ≤ 100000) : Gv cs (tOp (fun x y H Q => ∃ i j, x = .str i ∧ y = .str j ∧ i.length + j.length ≤ sizeLine ∧ Q (.str (i ++ j)) H) ta tb) σ G (IsS (x ++ y)) :=
  gv_op ha hb fun u v G1 H1 s _ _ ux uy => rv_at (v := .str (x ++ y)) s (up_c rfl) fun Q q => ⟨x, y, ux.now, uy.now, Nat.le_trans hl (by decide), q⟩
theorem gv_cutFrom {z : Str} {j : Nat} (ha : Gv cs ta σ G (IsS z)) (hb : Gv cs tb σ G (IsI (j : Int))) (hj : j ≤ z.length) (hl : z.length ≤ 100000) : Gv cs (tSl rSlS ta (tPart tb) tNoPart) σ G (IsS (sOf (z.cps.toList.drop j))) := fun H a c Q q =>
  ha H a c _ fun v G1 H1 s1 u1 => (hb.mono s1.gg) H1 s1.gh (c.on s1.hh) _ fun w G2 H2 s2 u2 => by
    refine ⟨(j : Int), u2.now, z, u1.now, Nat.le_trans hl (by decide), ?_⟩
    rw [cutS_from hj]
    exact q _ _ _ (s1.trans s2) (up_c rfl)
theorem gv_cutTo {z : Str} {j : Nat} (ha : Gv cs ta σ G (IsS z)) (hb : Gv cs tb σ G (IsI (j : Int))) (hl : z.length ≤ 100000) : Gv cs (tSl rSlS ta tNoPart (tPart tb)) σ G (IsS (sOf (z.cps.toList.take j))) := fun H a c Q q =>
  ha H a c _ fun v G1 H1 s1 u1 => (hb.mono s1.gg) H1 s1.gh (c.on s1.hh) _ fun w G2 H2 s2 u2 => by
    refine ⟨(j : Int), u2.now, z, u1.now, Nat.le_trans hl (by decide), ?_⟩
    rw [cutS_to]
    exact q _ _ _ (s1.trans s2) (up_c rfl)
theorem gv_ixS {z : Str} {j c : Nat} (ha : Gv cs ta σ G (IsS z)) (hb : Gv cs tb σ G (IsI (j : Int))) (hc : z.cps.toList[j]? = some c) (hl : z.length ≤ 100000) : Gv cs (tOp rIxS ta tb) σ G (IsS (sOf [c])) :=
  gv_op ha hb fun u v G1 H1 s _ _ ux uy => rv_at (v := .str (sOf [c])) s (up_c rfl) fun Q q => ⟨z, (j : Int), c, ux.now, uy.now, Nat.le_trans hl (by decide), atI_nat hc, q⟩
abbrev rJoin (K : PySem.W.Frag) : V → List V → Hp → VK → Prop := fun x xs H Q => ∃ a p, ∃ ys : List Str, x = .str a ∧ xs = [.ref p] ∧ (SqL K H p (ys.map V.str) ∨ SqT K H p (ys.map V.str)) ∧ (ys.map (·.length)).sum + ys.length * a.length ≤ 16777216 ∧ Q (.str (Txt.join a ys)) H
/-- letters, joined -/
theorem gp_joinL {N : Nat} (hN : N ≤ 1000) (h : Gp p n te σ G (fun v G => ∃ xs : List α, xs.length ≤ N ∧ LstR (fun _ => OneS letters) xs v G)) : Gp p n (tM1 (rJoin K) (tC (.str "")) te) σ G (fun v _ => ∃ z : Str, v = .str z ∧ z.length ≤ N ∧ Lets z) := fun H B a c l Q q =>
  ⟨⟨_, rfl⟩, h H B a c l _ fun v G1 H1 s1 c1 u1 => by
    obtain ⟨xs, hx, d, us, rfl, hd, pr⟩ := u1.now
    have dec : ∃ ys : List Str, us = ys.map V.str ∧ ys.length = xs.length ∧ ∀ y ∈ ys, y.length = 1 ∧ Lets y := by
      clear hd hx
      induction pr with
      | nil => exact ⟨[], rfl, rfl, fun _ h => by cases h⟩
      | cons h _ ih =>
        obtain ⟨ys, e1, e2, e3⟩ := ih
        obtain ⟨ch, rfl, hc⟩ := h
        refine ⟨⟨#[ch]⟩ :: ys, by rw [e1]; rfl, by rw [List.length_cons, List.length_cons, e2], fun y hy => ?_⟩
        rcases List.mem_cons.mp hy with e | e
        · rw [e]
          refine ⟨rfl, fun x hx => ?_⟩
          have : x = ch := by simpa using hx
          rw [this]
          exact hc
        · exact e3 y e
    obtain ⟨ys, rfl, e2, e3⟩ := dec
    have s0 : (Str.ofString "").length = 0 := by decide
    have sm := sum_ones fun y hy => (e3 y hy).1
    refine ⟨Str.ofString "", d, ys, rfl, rfl, .inl (SqL.of (exc_same _ _ (s1.gh _ _ hd))), by rw [sm, s0]; omega, q _ _ _ s1 c1 (up_c ⟨_, rfl, ?_, ?_⟩)⟩
    · rw [txt_join]
      have := StrLaws.join_length_le (Str.ofString "") ys
      rw [sm, s0] at this
      omega
    · rw [txt_join]
      refine join_lets (fun ch h => ?_) fun y hy => (e3 y hy).2
      have : (Str.ofString "").cps.toList = [] := by decide
      rw [this] at h
      cases h⟩
end
theorem sOf_app (a b : List Nat) : sOf a ++ sOf b = sOf (a ++ b) := by
  show (⟨a.toArray ++ b.toArray⟩ : Str) = ⟨(a ++ b).toArray⟩
  simp
theorem steps_lit {cs : Held} {σ : L2.St} {G : Hp} : Gv cs (tLst (tCons (tC (.int 1)) (tCons (tC (.int 3)) (tCons (tC (.int 5)) (tCons (tC (.int 7)) (tCons (tC (.int 9)) (tCons (tC (.int 11)) (tCons (tC (.int 15)) (tCons (tC (.int 17)) tNil))))))))) σ G (Vec steps) := fun H a _ Q q =>
  ⟨by show 8 ≤ sizeLine; decide, fun d hd => q _ _ _ (Stp.laid a hd) (lst_new mon_I (paired_I' steps) (a.free hd))⟩
theorem modN {i m : Nat} : ((i : Int).fmod (m : Int)) = ((i % m : Nat) : Int) := by
  rw [Int.fmod_eq_emod_of_nonneg _ (by omega)]
  exact (Int.natCast_emod i m).symm
def spWords : Sp := SpP (α := Nat) 12 (fun many vs _ => vs = [.int (many : Int)] ∧ many ≤ 6) (fun many v G => ∃ ys : List Str, LstR IsS ys v G ∧ ys.length = many ∧ ys.Nodup ∧ ∀ y ∈ ys, Word y)
def spPen (K : PySem.W.Frag) : Sp := fun vs H Q _ => ∃ (G : Hp) (a : Addr) (xs : List Int), vs = [.ref a] ∧ Same G H ∧ SqL K H a (xs.map V.int) ∧ ∀ (p : Pen) H', Stp G H G (exc p H') → H p.1 = none → Pn p 0 H' → Q (.ref p.1) H'
section
variable {P : Program} {w : World} {K : PySem.W.Frag} {mg : Str → Option Value} {base : Heap}
theorem ok_words (F : Dfn K mg "_law_words" (top 60)) (mr : mg "range" = none) (ml : mg "len" = none) (mi : mg "int" = none) (h1 : CalP P w K mg base 1 "_law_draw" spDraw) (h2 : CalP P w K mg base 2 "_law_pick" spPickS) (h3 : CalP P w K mg base 2 "_law_pick" spPickI) : CalP P w K mg base 3 "_law_words" spWords := by
  refine cal_of (N := ["_law_pen_here", "_law_many", "_law_letters", "_law_stem", "_law_at", "_law_front", "_law_step", "_law_is_cut", "_law_found", "_law_k", "_law_tail"]) (ps := ["_law_pen_here", "_law_many"]) F (by decide +kernel) ?_ (fun _ _ _ _ _ _ us hl => match us, hl with | [_, _], _ => rfl) ?_
  · rintro vs H Q E ⟨x, G, p, B, rest, rfl, _, _, _, ⟨e, _⟩, _⟩
    rw [e] <;> rfl
  · intro nd cdv f A outer s H vs Q E hr h
    have hu := hu_of hr
    refine ⟨_, pss_cons (ps_set (i := 2) nd rfl (Or.inr rfl) pe_str)
      (pss_cons (ps_set (i := 3) nd rfl (Or.inl rfl) (pe_join pe_str (pe_lc (own := [("_law_k", 9)]) (g := gName 9) (tt := tYes) (te := tCall spPickS [] C8.E0 (tCons (tVar 0) (tCons (tVar 2) tNil))) rfl nd (pi_range1 rfl mr (pa_cons (C8.pe_c h1 hr (by decide) rfl (pa_cons (pv 0) (pa_cons pe_int pa_nil))) pa_nil)) (blkOk_by (N := ["_law_pen_here", "_law_many", "_law_letters", "_law_stem", "_law_at", "_law_front", "_law_step", "_law_is_cut", "_law_found", "_law_k", "_law_tail"]) (sc := C8.fnScope (top 60)) (by decide +kernel)) (fun _ _ _ _ _ => pg_name (i := 9) nd rfl (Or.inl rfl)) (fun _ _ _ _ _ => pts_nil) (fun _ _ _ _ _ => C8.pe_c h2 hr (by decide) rfl (pa_cons (pv 0) (pa_cons (pv 2) pa_nil))))))
      (pss_cons (ps_par (i := 4) (j := 5) rfl nd rfl rfl (by decide) rfl rfl (pa_cons (C8.pe_c h1 hr (by decide) rfl (pa_cons (pv 0) (pa_cons (pe_op op_add (pe_callB call_len_str rfl ml boot_len (pa_cons (pv 3) pa_nil)) pe_int) pa_nil))) (pa_cons (C8.pe_c h1 hr (by decide) rfl (pa_cons (pv 0) (pa_cons pe_int pa_nil))) pa_nil)) (by rfl))
      (pss_cons (ps_par (i := 6) (j := 7) rfl nd rfl rfl (by decide) rfl rfl (pa_cons (C8.pe_c h3 hr (by decide) rfl (pa_cons (pv 0) (pa_cons (pe_lst (pa_cons pe_int (pa_cons pe_int (pa_cons pe_int (pa_cons pe_int (pa_cons pe_int (pa_cons pe_int (pa_cons pe_int (pa_cons pe_int pa_nil))))))))) pa_nil))) (pa_cons (C8.pe_c h1 hr (by decide) rfl (pa_cons (pv 0) (pa_cons pe_int pa_nil))) pa_nil)) (by rfl))
      (pss_cons (ps_set (i := 8) nd rfl (Or.inl rfl) (pe_lst pa_nil))
      (pss_cons (ps_for PassesOwn.never rfl (pi_range1 rfl mr (pa_cons (pv 1) pa_nil)) (pg_name (i := 9) nd rfl (Or.inl rfl))
        (pss_cons (ps_set (i := 10) nd rfl (Or.inl rfl) (pe_ifExp (pt_cmpR op_eq (pv 7) pe_int (nomark _)) (pe_slice sl_str (pe_slice sl_str (pv 3) (po_some (pv 4)) po_none) po_none (po_some (pe_op op_modN (pe_callTy call_int1 rfl mi boot_int (pa_cons (pv 9) pa_nil)) pe_int))) (pe_slice sl_str (pv 3) (po_some (pv 4)) po_none)))
        (pss_one (ps_expr (pe_bm PySem.F.plainAttrs_list PySem.F.slot_list_append PySem.F.type_list_append mt_append (pv 8) (pa_cons (pe_op op_add_str (pe_op op_add_str (pe_slice sl_str (pv 3) po_none (po_some (pv 4))) (pe_ix ix_str (pv 2) (pe_op op_modN (pe_callTy call_int1 rfl mi boot_int (pa_cons (pe_op op_add (pv 5) (pe_op op_mul (pv 6) (pv 9))) pa_nil)) pe_int) (fun _ _ => rfl))) (pv 10)) pa_nil))))))
      (pss_one (ps_ret (pv 8)))))))), ?_⟩
    obtain ⟨many, G, p, B, rest, rfl, eG, pn, hB, ⟨rfl, hm⟩, k⟩ := h
    refine seq_go ?_
    show tSeq _ _ _ [some (.ref p.1), some (.int many), some (.str letters), none, none, none, none, none, none, none, none] H
    refine seq_go (set_gp (p := p) (n := (0 + 1 + 0) + 7 * (0 + 1)) (gp_joinL (α := Int) (N := 7) (by decide) ((gp_lc (R := IsI) (φ := fun _ => OneS letters) (P := fun xs => ∃ m, m < 8 ∧ xs = nums m) (N := 7) (k := 0 + 1) (fun _ _ _ _ _ h => h) (srcP_range (Pm := fun m => m < 8) (gpa_imp (gpa_cons (n := 0 + 1) (m := 0) (gp_draw (n := 0) (gpa_pen rfl) (by decide) (by decide)) (gpa_nil (n := 0))) fun vs G ⟨v, r, e, ⟨i, e1, i0, i1⟩, h2⟩ => ⟨i.toNat, by rw [e, e1, h2]; congr 2; omega, by omega⟩) fun m h => by omega) (fun xs ⟨m, h, e⟩ => by rw [e, nums_len]; omega) (by decide) ?_).imp fun v G ⟨xs, ⟨m, h, e⟩, hl⟩ => ⟨xs, by rw [e, nums_len]; omega, hl⟩)) eG pn (by omega) fun v1 G1 H1 s1 c1 u1 => ?_)
    · rintro z x G2 e2 uz
      refine ⟨_, tg_name, rfl, ?_⟩
      exact gp_callX (n := 0) (m := 1) (α := Str) (pre := fun z vs _ => vs = [.str z] ∧ 1 ≤ z.length ∧ z.length ≤ 1000) (post := OneS) (gpa_imp (gpa_cons (n := 0) (m := 0 + 0) (gp_of (gv_v rfl)) (gpa_cons (gp_of (gv_vs rfl)) (gpa_nil (n := 0)))) fun vs G ⟨v, r, e, h1, w', r2, e2, h2, h3⟩ => ⟨[w'], letters, by rw [e, e2, h3, show v = _ from h1], ⟨by rw [show w' = _ from h2], by rw [letters_len]; decide, by rw [letters_len]; decide⟩, fun v G h => h⟩)
    obtain ⟨z, rfl, hz7, hzl⟩ := u1.now
    dsimp only
    show tSeq _ _ _ [some (.ref p.1), some (.int many), some (.str letters), some (.str z), none, none, none, none, none, none, none] H1
    refine seq_go (par_gp (p := p) (n := 0 + 1) (m := 0 + 1) (φ := InR ((z.length : Int) + 1)) (ψ := InR 26) (gp_draw (n := 0) (gpa_imp (gpa_cons (n := 0) (m := 0 + 0) (gp_of (gv_v rfl)) (gpa_cons (gp_of (gv_I0 (g := fun i j => .int (i + j)) (gv_lenS (Nat.le_trans hz7 (by decide)) (gv_vs rfl)) gv_ci)) (gpa_nil (n := 0)))) fun vs G ⟨v, r, e, h1, w', r2, e2, h2, h3⟩ => by rw [e, e2, h3, show v = _ from h1, show w' = _ from h2]) (by omega) (by omega)) (gp_draw (n := 0) (gpa_pen rfl) (by decide) (by decide)) s1.gh c1 (by omega) fun v2 v3 G2 H2 s2 c2 u2 u3 => ?_)
    obtain ⟨ai, rfl, a0, a1⟩ := u2.now
    obtain ⟨fi, rfl, f0, f1⟩ := u3.now
    obtain ⟨at_, rfl⟩ : ∃ j : Nat, ai = j := ⟨ai.toNat, by omega⟩
    obtain ⟨fr, rfl⟩ : ∃ j : Nat, fi = j := ⟨fi.toNat, by omega⟩
    have hat : at_ ≤ z.length := by omega
    dsimp only
    show tSeq _ _ _ [some (.ref p.1), some (.int many), some (.str letters), some (.str z), some (.int at_), some (.int fr), none, none, none, none, none] H2
    refine seq_go (par_gp (p := p) (n := 0 + 1) (m := 0 + 1) (φ := OneI steps) (ψ := InR 2) (gp_callX (n := 0) (m := 1) (α := List Int) (pre := fun xs vs G => ∃ v, vs = [v] ∧ Vec xs v G ∧ 1 ≤ xs.length ∧ xs.length ≤ 1000) (post := OneI) (gpa_imp (gpa_cons (n := 0) (m := 0 + 0) (gp_of (gv_v rfl)) (gpa_cons (gp_of steps_lit) (gpa_nil (n := 0)))) fun vs G ⟨v, r, e, h1, w', r2, e2, h2, h3⟩ => ⟨[w'], steps, by rw [e, e2, h3, show v = _ from h1], ⟨w', rfl, h2, by decide, by decide⟩, fun v G h => h⟩)) (gp_draw (n := 0) (gpa_pen rfl) (by decide) (by decide)) s2.gh c2 (by omega) fun v4 v5 G3 H3 s3 c3 u4 u5 => ?_)
    obtain ⟨si, rfl, hsi⟩ := u4.now
    obtain ⟨ci, rfl, ci0, ci1⟩ := u5.now
    have hsb : 1 ≤ si ∧ si ≤ 17 := by
      have : ∀ x ∈ steps, 1 ≤ x ∧ x ≤ 17 := by decide
      exact this si hsi
    obtain ⟨sp, rfl⟩ : ∃ j : Nat, si = j := ⟨si.toNat, by omega⟩
    have s03 := s1.trans (s2.trans s3)
    dsimp only
    show tSeq _ _ _ [some (.ref p.1), some (.int many), some (.str letters), some (.str z), some (.int at_), some (.int fr), some (.int sp), some (.int ci), none, none, none] H3
    refine seq_go ⟨Nat.zero_le _, fun f0 hf => ?_⟩
    have e3 : Same G3 H3 := s3.gh.trans exc_same
    have I0 := AcI.start (o := .lst []) e3 hf
    show tSeq _ _ _ [some (.ref p.1), some (.int many), some (.str letters), some (.str z), some (.int at_), some (.int fr), some (.int sp), some (.int ci), some (.ref f0), none, none] (upd H3 f0 (.lst []))
    generalize hcut : decide (V.int ci = V.int 1) = cut
    refine seq_go (forH_gv (cs := []) (src_range (n := many) (ga_imp (ga_1 (gv_vi rfl)) fun vs G ⟨v, e, h⟩ => by rw [e, show v = _ from h]) (by omega)) I0.gh hold_nil (fun i σ Gc Hc => ∃ o9 o10, σ = [some (.ref p.1), some (.int many), some (.str letters), some (.str z), some (.int at_), some (.int fr), some (.int sp), some (.int ci), some (.ref f0), o9, o10] ∧ AcI G3 H3 f0 (.lst (((List.range i).map (wordL z.cps.toList at_ fr sp cut)).map V.str)) Gc Hc) (fun i σ Gc Hc ⟨_, _, _, I⟩ => I.gh) (fun G4 H4 s4 => ⟨none, none, rfl, I0.step s4 (fun xs z => nomatch z)⟩) ?_ ?_)
    · rintro G4 s4 i x v σ2 Gc Hc G5 H5 hi sc ⟨o9, o10, rfl, I⟩ s5 hu5
      obtain ⟨hi2, rfl⟩ := range_at hi
      obtain rfl := hu5.now
      have I5 := I.step s5 (fun xs z => nomatch z)
      show tSeq _ _ _ [some (.ref p.1), some (.int many), some (.str letters), some (.str z), some (.int at_), some (.int fr), some (.int sp), some (.int ci), some (.ref f0), some (.int i), o10] H5
      refine seq_go (set_gv (cs := []) (φ := IsS (sOf (if cut = true then (z.cps.toList.drop at_).take (i % 3) else z.cps.toList.drop at_))) (gv_if (b := cut) (gt_test (gv_isb (gv_eq (gv_v rfl) (gv_c (up_c rfl)) rfl) hcut)) (fun hc => ?_) fun hc => ?_) I5.gh hold_nil fun v6 G6 H6 s6 u6 => ?_)
      · rw [if_pos hc]
        refine gv_cutTo (z := sOf (z.cps.toList.drop at_)) (j := i % 3) (gv_cutFrom (gv_vs rfl) (gv_vi rfl) hat (by omega)) ?_ ?_
        · rw [show ((i % 3 : Nat) : Int) = (i : Int).fmod (3 : Int) from (modN (m := 3)).symm]
          exact gv_I (C := fun _ j => j ≠ 0) (g := fun i j => .int (i.fmod j)) (gv_int (gv_vi rfl)) gv_ci (by decide)
        · rw [len_list, sOf_list, List.length_drop]
          have := len_list z
          omega
      · rw [if_neg (by rw [hc]; exact Bool.false_ne_true)]
        exact gv_cutFrom (gv_vs rfl) (gv_vi rfl) hat (by omega)
      obtain rfl := u6.now
      have I6 := I5.step s6 (fun xs z => nomatch z)
      dsimp only
      generalize htl : (if cut = true then (z.cps.toList.drop at_).take (i % 3) else z.cps.toList.drop at_) = tl at *
      have htl7 : tl.length ≤ 7 := by
        have := len_list z
        rw [← htl]
        split
        · rw [List.length_take, List.length_drop]
          omega
        · rw [List.length_drop]
          omega
      have hix : ((fr : Int) + (sp : Int) * (i : Int)).fmod 26 = (((fr + sp * i) % 26 : Nat) : Int) := by
        rw [show (fr : Int) + (sp : Int) * (i : Int) = ((fr + sp * i : Nat) : Int) by push_cast; rfl]
        exact modN (m := 26)
      have lw : ∀ l : List Nat, (sOf l).length = l.length := fun l => by rw [len_list, sOf_list]
      have hzl2 := len_list z
      have gw : Gv [] (tOp (fun x y H Q => ∃ i j, x = .str i ∧ y = .str j ∧ i.length + j.length ≤ sizeLine ∧ Q (.str (i ++ j)) H) (tOp (fun x y H Q => ∃ i j, x = .str i ∧ y = .str j ∧ i.length + j.length ≤ sizeLine ∧ Q (.str (i ++ j)) H) (tSl rSlS (tVar 3) tNoPart (tPart (tVar 4))) (tOp rIxS (tVar 2) (tOp (rI (fun _ j => j ≠ 0) fun i j => .int (i.fmod j)) (tCB (fun xs H Q => (∃ i, xs = [.int i] ∧ Q (.int i) H) ∨ ∃ k, xs = [.bl k] ∧ Q (.int (if k then 1 else 0)) H) (tCons (tOp (rI0 fun i j => .int (i + j)) (tVar 5) (tOp (rI CMul fun i j => .int (i * j)) (tVar 6) (tVar 9))) tNil)) (tC (.int 26))))) (tVar 10)) [some (.ref p.1), some (.int many), some (.str letters), some (.str z), some (.int at_), some (.int fr), some (.int sp), some (.int ci), some (.ref f0), some (.int i), some (.str (sOf tl))] G6 (IsS (wordL z.cps.toList at_ fr sp cut i)) := by
        have ew : wordL z.cps.toList at_ fr sp cut i = sOf (z.cps.toList.take at_) ++ sOf [ltr ((fr + sp * i) % 26)] ++ sOf tl := by
          rw [sOf_app, sOf_app, ← htl]
          rfl
        rw [ew]
        refine gv_addS (gv_addS (gv_cutTo (gv_vs rfl) (gv_vi rfl) (by omega)) (gv_ixS (z := letters) (j := (fr + sp * i) % 26) (gv_vs rfl) ?_ (ltr_mem (Nat.mod_lt _ (by decide))).1 (by rw [letters_len]; decide)) ?_) (gv_vs rfl) ?_
        · rw [← hix]
          exact gv_I (C := fun _ j => j ≠ 0) (g := fun i j => .int (i.fmod j)) (gv_int (gv_I0 (g := fun i j => .int (i + j)) (gv_vi rfl) (gv_I (C := CMul) (g := fun i j => .int (i * j)) (gv_vi rfl) (gv_vi rfl) (.inl ⟨by omega, by omega⟩)))) gv_ci (by decide)
        · rw [lw, lw, List.length_take, List.length_singleton]
          omega
        · rw [sOf_app, lw, lw, List.length_append, List.length_take, List.length_singleton]
          omega
      refine ⟨.ref f0, rfl, .inl ⟨rfl, _, SqL.of I6.at_⟩, ?_⟩
      refine gw H6 I6.gh hold_nil _ fun v7 G7 H7 s7 u7 => ?_
      obtain rfl := u7.now
      have I7 := I6.step s7 (fun xs z => nomatch z)
      refine ⟨f0, _, _, rfl, rfl, I7.at_, by rw [List.length_map, List.length_map, List.length_range]; exact Nat.lt_of_le_of_lt (show i ≤ 6 by omega) (by decide), G7, sc.trans (s5.gg.trans (s6.gg.trans s7.gg)), _, _, rfl, ?_⟩
      have e8 : ((List.range i).map (wordL z.cps.toList at_ fr sp cut)).map V.str ++ [V.str (wordL z.cps.toList at_ fr sp cut i)] = ((List.range (i + 1)).map (wordL z.cps.toList at_ fr sp cut)).map V.str := by
        rw [List.range_succ, List.map_append, List.map_append]
        rfl
      rw [e8]
      exact I7.set hf _
    · rintro σ2 Gc Hc sc ⟨o9, o10, rfl, I⟩
      rw [nums_len] at I
      refine ⟨.ref f0, rfl, ?_⟩
      obtain ⟨s9, c9⟩ := c3.step s3.gh (I.fin' hf)
      refine k _ _ _ (s03.trans s9) (c9.le (by omega)) fun F hF => ⟨_, mon_lst mon_S _ _ _ _ hF ⟨f0, _, rfl, upd_same, paired_S' _⟩, by rw [List.length_map, List.length_range], words_nodup (by rw [← len_list]; exact hat) hsi hm, fun y hy => ?_⟩
      obtain ⟨j, _, rfl⟩ := List.mem_map.mp hy
      exact wordL_word hzl hz7
end
end Crt
end

section
/-! _law_pen; dict displays; _law_some_pairs. -/
set_option autoImplicit false
namespace Crt
open PySem PySem.Spec PyProof.Rows L2
section
variable {P : Program} {w : World} {K : PySem.W.Frag} {mg : Str → Option Value} {base : Heap}
theorem ok_pen (F : Dfn K mg "_law_pen" (top 56)) (mL : mg "list" = none) : CalP P w K mg base 1 "_law_pen" (spPen K) := by
  refine cal_of (N := ["_law_script"]) (ps := ["_law_script"]) F (by decide +kernel) ?_ (fun _ _ _ _ _ _ us hl => match us, hl with | [_], _ => rfl) ?_
  · rintro vs H Q E ⟨G, a, xs, e, _⟩
    rw [e] <;> rfl
  · intro nd cdv f A outer s H vs Q E hr h
    refine ⟨_, pss_one (ps_ret (pe_disp (pps_cons pe_str (pe_callTy call_list_of rfl mL boot_list (pa_cons (pe_slice sl_list (pv 0) po_none (po_some pe_int)) pa_nil)) (pps_cons pe_str pe_int (pps_cons pe_str pe_int pps_nil))) rfl rfl (by simp) (by decide))), ?_⟩
    obtain ⟨G, a, xs, rfl, eG, ha, k⟩ := h
    intro d hd
    refine ⟨.ref a, rfl, 63, rfl, a, xs.map V.int, rfl, ha.ext (same_new hd), fun l hl => ?_⟩
    refine ⟨l, _, rfl, .inl (SqL.of upd_same), fun cl hcl => ?_⟩
    have e1 : cutV (xs.map V.int) none (some (63 : Int)) = (xs.take 63).map V.int := by
      rw [show (63 : Int) = ((63 : Nat) : Int) from rfl, cut_toN, List.map_take]
    have hld : l ≠ d := fun z => by rw [z, upd_same] at hl; cases hl
    have hcl2 : cl ≠ l := fun z => by rw [z, upd_same] at hcl; cases hcl
    have hcl3 : cl ≠ d := fun z => by rw [z, upd_ne (Ne.symm hld), upd_same] at hcl; cases hcl
    have hlH : H l = none := by
      rw [upd_ne hld] at hl
      exact hl
    have hclH : H cl = none := by
      rw [upd_ne hcl2, upd_ne hcl3] at hcl
      exact hcl
    refine ⟨by rw [upd_ne (Ne.symm hcl3), upd_ne (Ne.symm hld), upd_same], [(.inr "cells", .ref cl), (.inr "begun", .int 0), (.inr "left", .int 0)], rfl, by show 3 ≤ 15; decide, ?_⟩
    rw [e1]
    refine k (d, cl) _ ⟨Same.refl G, ?_, ?_, fun _ _ h _ _ => h⟩ hd ⟨xs.take 63, 0, 0, upd_same, ?_, by rw [List.length_take]; omega, Int.le_refl _, Int.le_refl _, Int.le_refl _⟩
    · intro b o hb
      have hbH := eG b o hb
      have : b ≠ d := ne_of_none hbH hd
      unfold exc
      rw [if_neg this, upd_ne this, upd_ne (ne_of_none hbH hclH), upd_ne (ne_of_none hbH hlH), upd_ne this]
      exact hbH
    · intro b o hbH
      have : b ≠ d := ne_of_none hbH hd
      unfold exc
      rw [if_neg this, upd_ne this, upd_ne (ne_of_none hbH hclH), upd_ne (ne_of_none hbH hlH), upd_ne this]
      exact hbH
    · rw [upd_ne hcl3, upd_same]
end
section
variable {cs : Held} {σ : L2.St} {G : Hp} {te ta tb : TE} {φ : PV}
theorem pairs_gv {cs : Held} {σ : L2.St} : ∀ {trs : List (TE × TE)} {l : List (Str × Int)} {G : Hp}, Paired (fun (tr : TE × TE) (q : Str × Int) => Gv cs tr.1 σ G (IsS q.1) ∧ Gv cs tr.2 σ G (IsI q.2)) trs l → ∀ {H : Hp} {Q : List (V × V) → Hp → Prop}, Same G H → Hold cs H → (∀ G' H', Stp G H G' H' → Q (l.map fun q => (V.str q.1, V.int q.2)) H') → tPairs trs σ H Q
  | _, _, G, .nil, H, Q, e, _, q => q G H (Stp.refl e)
  | _, _, G, .cons h t, H, Q, e, c, q => h.1 H e c _ fun x G1 H1 s1 u1 => (h.2.mono s1.gg) H1 s1.gh (c.on s1.hh) _ fun y G2 H2 s2 u2 => by
    obtain rfl := u1.now
    obtain rfl := u2.now
    have s12 := s1.trans s2
    refine pairs_gv (L2.Paired.mapP t fun u x r => ⟨r.1.mono s12.gg, r.2.mono s12.gg⟩) s2.gh (c.on s12.hh) fun G3 H3 s3 => ?_
    exact q G3 H3 (s12.trans s3)
/-- {k: v, ..}, from here on unchanged -/
theorem gv_disp {trs : List (TE × TE)} {l : List (Str × Int)} (h : Paired (fun (tr : TE × TE) (q : Str × Int) => Gv cs tr.1 σ G (IsS q.1) ∧ Gv cs tr.2 σ G (IsI q.2)) trs l) (hl : l.length ≤ 15) (nd : (l.map (·.1)).Nodup) : Gv cs (tFz (tDisp trs)) σ G (Cnt l) := fun H a c Q q d hd => by
  have I0 := AcI.start (o := .dK []) a hd
  refine pairs_gv h I0.gh (c.on I0.hh) fun G1 H1 s1 => ?_
  have I1 := I0.step s1 (fun xs z => nomatch z)
  refine ⟨I1.at_, l.map fun q => ((.inr q.1 : Key), V.int q.2), by rw [List.map_map]; rfl, by rw [List.length_map]; exact hl, ?_⟩
  have em : mergeK [] (l.map fun q => ((.inr q.1 : Key), V.int q.2)) = (l.map fun q => (q.1, V.int q.2)).map inK := by
    have z := merge_map (l.map fun q => (q.1, V.int q.2)) []
    rw [List.map_map] at z
    have e2 : putAll ([] : List (Str × V)) (l.map fun q => (q.1, V.int q.2)) = l.map fun q => (q.1, V.int q.2) := putAll_new (l := []) _ (by
      rw [List.nil_append, List.map_map]
      exact nd)
    rw [e2] at z
    exact z
  rw [em]
  refine ⟨d, _, rfl, upd_same, True.intro, fun o => ?_⟩
  rw [upd_upd]
  have s := I1.fin hd (.frz o (KS.ho (l.map fun q => (q.1, V.int q.2))))
  refine q _ _ _ s (mon_cnt.up ⟨d, o, l.map fun q => (q.1, V.int q.2), rfl, upd_same, ?_⟩)
  have : ∀ {X : Hp} (m : List (Str × Int)), Paired (fun (u : Str × V) (x : Str × Int) => u.1 = x.1 ∧ IsI x.2 u.2 X) (m.map fun q => (q.1, V.int q.2)) m := fun {X} m => by
    induction m with
    | nil => exact .nil
    | cons x m ih => exact .cons ⟨rfl, rfl⟩ ih
  exact this l
theorem gv_disp0 : Gv cs (tFz tDNewK) σ G (Cnt []) := fun H a c Q q d hd => ⟨d, _, rfl, upd_same, True.intro, fun o => by
  rw [upd_upd]
  exact q _ _ _ (Stp.laid a hd) (mon_cnt.up ⟨d, o, [], rfl, upd_same, .nil⟩)⟩
/-- a list, each item of a kind -/
def AllL (n : Nat) (φ : PV) : PV := fun v G => ∃ a us, v = .ref a ∧ G a = some (.lst us) ∧ us.length = n ∧ ∀ u ∈ us, φ u G
def MonV (φ : PV) : Prop := ∀ v H H', Same H H' → φ v H → φ v H'
theorem MonV.up (m : MonV φ) {v : V} {H : Hp} (h : φ v H) : Up (φ v) H := fun G g => m v H G g h
theorem mon_all {n : Nat} (m : MonV φ) : MonV (AllL n φ) := fun v H H' e ⟨a, us, h1, h2, h3, h4⟩ => ⟨a, us, h1, e _ _ h2, h3, fun u hu => m _ _ _ e (h4 u hu)⟩
def AllA (n : Nat) (φ : PV) : List V → Hp → Prop := fun vs G => vs.length = n ∧ ∀ u ∈ vs, φ u G
theorem ga_all0 : GvA cs tNil σ G (AllA 0 φ) := fun H a _ _ q => q [] G H (Stp.refl a) (fun _ _ => ⟨rfl, fun _ h => by cases h⟩)
theorem ga_allC {n : Nat} {tr : TA} (h : Gv cs te σ G φ) (hr : GvA cs tr σ G (AllA n φ)) : GvA cs (tCons te tr) σ G (AllA (n + 1) φ) := ga_imp (ψ' := AllA (n + 1) φ) (ga_cons h hr) fun vs G ⟨v, r, e, h1, h2, h3⟩ => ⟨by rw [e, List.length_cons, h2], fun u hu => by
  rw [e] at hu
  rcases List.mem_cons.mp hu with z | z
  · rw [z]
    exact h1
  · exact h3 u z⟩
theorem gv_lstA {n : Nat} {tr : TA} (m : MonV φ) (h : GvA cs tr σ G (AllA n φ)) (hn : n ≤ 100000) : Gv cs (tLst tr) σ G (AllL n φ) := fun H a c Q q =>
  h H a c _ fun vs G1 H1 s1 u1 => by
    obtain ⟨e1, e2⟩ := u1.now
    exact ⟨by rw [e1]; exact Nat.le_trans hn (by decide), fun d hd => q _ _ _ (s1.trans (Stp.laid s1.gh hd)) ((mon_all m).up ⟨d, vs, rfl, upd_same, e1, fun u hu => m _ _ _ (same_new (s1.gh.free hd)) (e2 u hu)⟩)⟩
theorem gv_catA {n k : Nat} (m : MonV φ) (ha : Gv cs ta σ G (AllL n φ)) (hb : Gv cs tb σ G (AllL k φ)) (hn : n + k ≤ 100000) : Gv cs (tOp rCat ta tb) σ G (AllL (n + k) φ) :=
  gv_op ha hb fun x y G1 H1 s _ _ ux uy => by
    obtain ⟨p, us, rfl, hp, l1, q1⟩ := ux.now
    obtain ⟨p2, us2, rfl, hp2, l2, q2⟩ := uy.now
    refine rv_new s (fun d _ hd => (mon_all m).up ⟨d, us ++ us2, rfl, upd_same, by rw [List.length_append, l1, l2], fun u hu => ?_⟩) fun Q k => ⟨p, p2, us, us2, rfl, rfl, s _ _ hp, s _ _ hp2, by rw [l1, l2]; exact Nat.le_trans hn (by decide), k⟩
    rcases List.mem_append.mp hu with z | z
    · exact m _ _ _ (same_new hd) (q1 u z)
    · exact m _ _ _ (same_new hd) (q2 u z)
theorem gv_ixA {n : Nat} {K : PySem.W.Frag} {j : Nat} (m : MonV φ) (ha : Gv cs ta σ G (AllL n φ)) (hb : Gv cs tb σ G (IsI (j : Int))) (hj : j < n) : Gv cs (tOp (rIxL K) ta tb) σ G φ :=
  gv_op ha hb fun x y G1 H1 s _ _ ux uy => fun Q q => by
    obtain ⟨p, us, rfl, hp, l1, q1⟩ := ux.now
    have hi : j < us.length := by omega
    exact ⟨p, us, j, us[j], rfl, uy.now, SqL.of (s _ _ hp), atI_nat (List.getElem?_eq_getElem hi), q _ _ _ (Stp.refl s) (m.up (q1 _ (List.getElem_mem hi)))⟩
end
end Crt
end

section
/-! _law_some_pairs. -/
set_option autoImplicit false
namespace Crt
open PySem PySem.Spec PyProof.Rows L2
/-- the counts of a side -/
def SideL (xs : List Str) (l : List (Str × Int)) : Prop := l.length ≤ 3 ∧ (l.map (·.1)).Nodup ∧ ∀ q ∈ l, q.1 ∈ xs ∧ 0 ≤ q.2 ∧ q.2 ≤ 1000000
def SomeP (xs : List Str) : PV := fun v G => ∃ q : List (Str × Int) × List (Str × Int), PairR Cnt Cnt q v G ∧ SideL xs q.1 ∧ SideL xs q.2
theorem mon_someP {xs : List Str} : MonV (SomeP xs) := fun v H H' e ⟨q, h1, h2⟩ => ⟨q, mon_pair mon_cnt mon_cnt _ _ _ _ e h1, h2⟩
def spPairs : Sp := SpP (α := List Str) 38 (fun xs vs G => ∃ v, vs = [v] ∧ LstR IsS xs v G ∧ xs.length ≤ 6 ∧ 3 ≤ xs.length ∧ xs.Nodup) (fun xs v G => ∃ prs : List (List (Str × Int) × List (Str × Int)), LstR (PairR Cnt Cnt) prs v G ∧ prs.length ≤ 4 ∧ ∀ q ∈ prs, SideL xs q.1 ∧ SideL xs q.2)
section
variable {cs : Held} {σ : L2.St} {G : Hp} {te ta tb : TE}
/-- a side as a reading -/
def SideG (cs : Held) (σ : L2.St) (G : Hp) (xs : List Str) (te : TE) : Prop := Gv cs te σ G (fun v G => ∃ l, Cnt l v G ∧ SideL xs l)
theorem side_of {xs : List Str} {l : List (Str × Int)} (h : Gv cs te σ G (Cnt l)) (s : SideL xs l) : SideG cs σ G xs te := h.imp fun v G k => ⟨l, k, s⟩
theorem gv_someP {xs : List Str} (ha : SideG cs σ G xs ta) (hb : SideG cs σ G xs tb) : Gv cs (tTup (tCons ta (tCons tb tNil))) σ G (SomeP xs) := fun H e c Q q =>
  ga_2 ha hb H e c _ fun vs G1 H1 s u => by
    obtain ⟨v, w, rfl, ⟨l1, h1, k1⟩, ⟨l2, h2, k2⟩⟩ := u.now
    exact ⟨by show 2 ≤ sizeLine; decide, fun p hp => q _ _ _ (s.trans (Stp.laid s.gh hp)) (mon_someP.up ⟨(l1, l2), ⟨p, v, w, rfl, upd_same, mon_cnt _ _ _ _ (same_new (s.gh.free hp)) h1, mon_cnt _ _ _ _ (same_new (s.gh.free hp)) h2⟩, k1, k2⟩)⟩
theorem someP_list {xs : List Str} {G : Hp} : ∀ {us : List V}, (∀ u ∈ us, SomeP xs u G) → ∃ prs : List (List (Str × Int) × List (Str × Int)), Paired (fun u x => PairR Cnt Cnt x u G) us prs ∧ ∀ q ∈ prs, SideL xs q.1 ∧ SideL xs q.2
  | [], _ => ⟨[], .nil, fun _ h => by cases h⟩
  | u :: us, h => by
    obtain ⟨prs, h1, h2⟩ := someP_list (us := us) fun x hx => h x (List.mem_cons_of_mem _ hx)
    obtain ⟨q, hq, k⟩ := h u List.mem_cons_self
    refine ⟨q :: prs, .cons hq h1, fun x hx => ?_⟩
    rcases List.mem_cons.mp hx with e | e
    · rw [e]
      exact k
    · exact h2 x e
theorem sideL1 {xs : List Str} {a : Str} {i : Int} (ha : a ∈ xs) (h : 0 ≤ i ∧ i ≤ 1000000) : SideL xs [(a, i)] := ⟨by show 1 ≤ 3; decide, by simp, fun q hq => by
  rw [List.mem_singleton.mp hq]
  exact ⟨ha, h⟩⟩
theorem sideL2 {xs : List Str} {a b : Str} {i j : Int} (ha : a ∈ xs) (hb : b ∈ xs) (ne : a ≠ b) (h : 0 ≤ i ∧ i ≤ 1000000) (h2 : 0 ≤ j ∧ j ≤ 1000000) : SideL xs [(a, i), (b, j)] := ⟨by show 2 ≤ 3; decide, by simp [ne], fun q hq => by
  rcases List.mem_cons.mp hq with e | e
  · rw [e]
    exact ⟨ha, h⟩
  · rw [List.mem_singleton.mp e]
    exact ⟨hb, h2⟩⟩
theorem sideL3 {xs : List Str} {a b c : Str} {i j l : Int} (ha : a ∈ xs) (hb : b ∈ xs) (hc : c ∈ xs) (ne : a ≠ b) (ne2 : a ≠ c) (ne3 : b ≠ c) (h : 0 ≤ i ∧ i ≤ 1000000) (h2 : 0 ≤ j ∧ j ≤ 1000000) (h3 : 0 ≤ l ∧ l ≤ 1000000) : SideL xs [(a, i), (b, j), (c, l)] := ⟨by show 3 ≤ 3; decide, by simp [ne, ne2, ne3], fun q hq => by
  rcases List.mem_cons.mp hq with e | e
  · rw [e]
    exact ⟨ha, h⟩
  · rcases List.mem_cons.mp e with e | e
    · rw [e]
      exact ⟨hb, h2⟩
    · rw [List.mem_singleton.mp e]
      exact ⟨hc, h3⟩⟩
theorem sideG1 {xs : List Str} {a : Str} {i : Int} (ka : Gv cs ta σ G (IsS a)) (va : Gv cs tb σ G (IsI i)) (ha : a ∈ xs) (h : 0 ≤ i ∧ i ≤ 1000000) : SideG cs σ G xs (tFz (tDisp [(ta, tb)])) :=
  side_of (gv_disp (.cons ⟨ka, va⟩ .nil) (by show 1 ≤ 15; decide) (sideL1 ha h).2.1) (sideL1 ha h)
theorem sideG2 {tc td : TE} {xs : List Str} {a b : Str} {i j : Int} (ka : Gv cs ta σ G (IsS a)) (va : Gv cs tb σ G (IsI i)) (kb : Gv cs tc σ G (IsS b)) (vb : Gv cs td σ G (IsI j)) (ha : a ∈ xs) (hb : b ∈ xs) (ne : a ≠ b) (h : 0 ≤ i ∧ i ≤ 1000000) (h2 : 0 ≤ j ∧ j ≤ 1000000) : SideG cs σ G xs (tFz (tDisp [(ta, tb), (tc, td)])) :=
  side_of (gv_disp (.cons ⟨ka, va⟩ (.cons ⟨kb, vb⟩ .nil)) (by show 2 ≤ 15; decide) (sideL2 ha hb ne h h2).2.1) (sideL2 ha hb ne h h2)
theorem sideG3 {tc td tf tg : TE} {xs : List Str} {a b c : Str} {i j l : Int} (ka : Gv cs ta σ G (IsS a)) (va : Gv cs tb σ G (IsI i)) (kb : Gv cs tc σ G (IsS b)) (vb : Gv cs td σ G (IsI j)) (kc : Gv cs tf σ G (IsS c)) (vc : Gv cs tg σ G (IsI l)) (ha : a ∈ xs) (hb : b ∈ xs) (hc : c ∈ xs) (ne : a ≠ b) (ne2 : a ≠ c) (ne3 : b ≠ c) (h : 0 ≤ i ∧ i ≤ 1000000) (h2 : 0 ≤ j ∧ j ≤ 1000000) (h3 : 0 ≤ l ∧ l ≤ 1000000) : SideG cs σ G xs (tFz (tDisp [(ta, tb), (tc, td), (tf, tg)])) :=
  side_of (gv_disp (.cons ⟨ka, va⟩ (.cons ⟨kb, vb⟩ (.cons ⟨kc, vc⟩ .nil))) (by show 3 ≤ 15; decide) (sideL3 ha hb hc ne ne2 ne3 h h2 h3).2.1) (sideL3 ha hb hc ne ne2 ne3 h h2 h3)
theorem sideG0 {xs : List Str} : SideG cs σ G xs (tFz tDNewK) := side_of gv_disp0 ⟨Nat.zero_le _, List.nodup_nil, fun _ h => by cases h⟩
theorem ints_lit7 : Gv cs (tLst (tCons (tC (.int 1)) (tCons (tC (.int 2)) (tCons (tC (.int 2)) (tCons (tC (.int 3)) (tCons (tC (.int 3)) (tCons (tC (.int 4)) (tCons (tC (.int 0)) tNil)))))))) σ G (Vec [1, 2, 2, 3, 3, 4, 0]) := fun H a _ Q q =>
  ⟨by show 7 ≤ sizeLine; decide, fun d hd => q _ _ _ (Stp.laid a hd) (lst_new mon_I (paired_I' [1, 2, 2, 3, 3, 4, 0]) (a.free hd))⟩
end
section
variable {P : Program} {w : World} {K : PySem.W.Frag} {mg : Str → Option Value} {base : Heap}
theorem ok_some_pairs (F : Dfn K mg "_law_some_pairs" (top 63)) (mr : mg "range" = none) (h1 : CalP P w K mg base 1 "_law_draw" spDraw) (h2 : CalP P w K mg base 2 "_law_pick" spPickI) (h3 : CalP P w K mg base 2 "_law_shuffled" spShuf) : CalP P w K mg base 3 "_law_some_pairs" spPairs := by
  refine cal_of (N := ["_law_pen_here", "_law_kinds", "_law_found", "_law_k", "_law_one", "_law_other", "_law_third", "_law_many", "_law_more", "_law_way", "_law_some"]) (ps := ["_law_pen_here", "_law_kinds"]) F (by decide +kernel) ?_ (fun _ _ _ _ _ _ us hl => match us, hl with | [_, _], _ => rfl) ?_
  · rintro vs H Q E ⟨x, G, p, B, rest, rfl, _, _, _, ⟨v, e, _⟩, _⟩
    rw [e] <;> rfl
  · intro nd cdv f A outer s H vs Q E hr h
    have hu := hu_of hr
    refine ⟨_, pss_cons (ps_set (i := 2) nd rfl (Or.inl rfl) (pe_lst pa_nil))
      (pss_cons (ps_for PassesOwn.never rfl (pi_range1 rfl mr (pa_cons (C8.pe_c h2 hr (by decide) rfl (pa_cons (pv 0) (pa_cons (pe_lst (pa_cons pe_int (pa_cons pe_int (pa_cons pe_int (pa_cons pe_int (pa_cons pe_int (pa_cons pe_int (pa_cons pe_int pa_nil)))))))) pa_nil))) pa_nil)) (pg_name (i := 3) nd rfl (Or.inl rfl))
        (pss_cons (ps_asg (pe_slice sl_list (C8.pe_c h3 hr (by decide) rfl (pa_cons (pv 0) (pa_cons (pv 1) pa_nil))) po_none (po_some pe_int)) (pg_lst rfl (pgs_cons (pg_name (i := 4) nd rfl (Or.inl rfl)) (pgs_cons (pg_name (i := 5) nd rfl (Or.inl rfl)) (pgs_cons (pg_name (i := 6) nd rfl (Or.inl rfl)) pgs_nil)))))
        (pss_cons (ps_par (i := 7) (j := 8) rfl nd rfl rfl (by decide) rfl rfl (pa_cons (pe_op op_add pe_int (C8.pe_c h1 hr (by decide) rfl (pa_cons (pv 0) (pa_cons pe_int pa_nil)))) (pa_cons (pe_op op_add pe_int (C8.pe_c h2 hr (by decide) rfl (pa_cons (pv 0) (pa_cons (pe_lst (pa_cons pe_int (pa_cons pe_int (pa_cons pe_int (pa_cons pe_int (pa_cons pe_int (pa_cons (pe_op op_sub (pe_op op_pow pe_int pe_int) pe_int) pa_nil))))))) pa_nil)))) pa_nil)) (by rfl))
        (pss_cons (ps_set (i := 9) nd rfl (Or.inl rfl) (C8.pe_c h1 hr (by decide) rfl (pa_cons (pv 0) (pa_cons pe_int pa_nil))))
        (pss_cons (ps_set (i := 10) nd rfl (Or.inl rfl) (pe_lst (pa_cons (pe_tup (pa_cons (pe_fz (pe_disp (pps_cons (pv 4) (pv 7) pps_nil) rfl rfl (by simp) (by decide))) (pa_cons (pe_fz (pe_disp (pps_cons (pv 5) (pv 7) pps_nil) rfl rfl (by simp) (by decide))) pa_nil))) (pa_cons (pe_tup (pa_cons (pe_fz (pe_disp (pps_cons (pv 4) (pv 7) pps_nil) rfl rfl (by simp) (by decide))) (pa_cons (pe_fz (pe_disp (pps_cons (pv 5) (pv 8) pps_nil) rfl rfl (by simp) (by decide))) pa_nil))) (pa_cons (pe_tup (pa_cons (pe_fz (pe_disp (pps_cons (pv 4) (pv 8) pps_nil) rfl rfl (by simp) (by decide))) (pa_cons (pe_fz pe_dnewK) pa_nil))) pa_nil)))))
        (pss_cons (ps_set (i := 10) nd rfl (Or.inl rfl) (pe_op op_cat (pv 10) (pe_lst (pa_cons (pe_tup (pa_cons (pe_fz (pe_disp (pps_cons (pv 4) (pv 7) (pps_cons (pv 5) pe_int pps_nil)) rfl rfl (by simp) (by decide))) (pa_cons (pe_fz (pe_disp (pps_cons (pv 6) pe_int pps_nil) rfl rfl (by simp) (by decide))) pa_nil))) (pa_cons (pe_tup (pa_cons (pe_fz (pe_disp (pps_cons (pv 4) (pv 7) (pps_cons (pv 5) pe_int pps_nil)) rfl rfl (by simp) (by decide))) (pa_cons (pe_fz (pe_disp (pps_cons (pv 6) pe_int (pps_cons (pv 4) pe_int pps_nil)) rfl rfl (by simp) (by decide))) pa_nil))) pa_nil)))))
        (pss_cons (ps_set (i := 10) nd rfl (Or.inl rfl) (pe_op op_cat (pv 10) (pe_lst (pa_cons (pe_tup (pa_cons (pe_fz (pe_disp (pps_cons (pv 4) (pv 7) pps_nil) rfl rfl (by simp) (by decide))) (pa_cons (pe_fz (pe_disp (pps_cons (pv 4) (pv 7) pps_nil) rfl rfl (by simp) (by decide))) pa_nil))) (pa_cons (pe_tup (pa_cons (pe_fz (pe_disp (pps_cons (pv 4) pe_int (pps_cons (pv 5) pe_int (pps_cons (pv 6) pe_int pps_nil))) rfl rfl (by simp) (by decide))) (pa_cons (pe_fz (pe_disp (pps_cons (pv 4) (pv 7) pps_nil) rfl rfl (by simp) (by decide))) pa_nil))) pa_nil)))))
        (pss_one (ps_expr (pe_bm PySem.F.plainAttrs_list PySem.F.slot_list_append PySem.F.type_list_append mt_append (pv 2) (pa_cons (pe_ix ix_list (pv 10) (pv 9) (fun _ _ => rfl)) pa_nil)))))))))))
      (pss_one (ps_ret (pv 2)))), ?_⟩
    obtain ⟨xs, G, p, B, rest, rfl, eG, pn, hB, ⟨v, rfl, hx, hxl, hx3, hnd⟩, k⟩ := h
    have ux := (mon_lst mon_S).up hx
    show tSeq _ _ _ [some (.ref p.1), some v, none, none, none, none, none, none, none, none, none] H
    refine seq_go ⟨Nat.zero_le _, fun f0 hf => ?_⟩
    obtain ⟨f1, f2⟩ := pn.pen hf
    have hfx : exc p H f0 = none := exc_free hf
    have I0 := AcI.start (o := .lst []) eG hfx
    rw [← exc_put f1] at I0
    have pn0 := pn.put (o := .lst []) f1 f2
    show tSeq _ _ _ [some (.ref p.1), some v, some (.ref f0), none, none, none, none, none, none, none, none] _
    generalize upd H f0 (.lst []) = H0 at *
    refine seq_go (for_gp (p := p) (n := 0 + 1 + 0) (P := fun ys => ∃ m, m ≤ 4 ∧ ys = nums m) (R := IsI) (srcP_range (Pm := fun m => m ≤ 4) (gpa_imp (gpa_cons (n := 0 + 1) (m := 0) (gp_callX (n := 0) (m := 1) (α := List Int) (pre := fun xs vs G => ∃ v, vs = [v] ∧ Vec xs v G ∧ 1 ≤ xs.length ∧ xs.length ≤ 1000) (post := OneI) (φ := OneI [1, 2, 2, 3, 3, 4, 0]) (gpa_imp (gpa_cons (n := 0) (m := 0 + 0) (gp_of (gv_v rfl)) (gpa_cons (gp_of ints_lit7) (gpa_nil (n := 0)))) fun vs G ⟨v, r, e, h1, w', r2, e2, h2, h3⟩ => ⟨[w'], [1, 2, 2, 3, 3, 4, 0], by rw [e, e2, h3, show v = _ from h1], ⟨w', rfl, h2, by decide, by decide⟩, fun v G h => h⟩)) (gpa_nil (n := 0))) fun vs G ⟨v, r, e, ⟨i, e1, hi⟩, h2⟩ => ?_) fun m h => by omega) I0.gh pn0 (by omega) (fun ys i σ Gc Hc => ∃ us o3 o4 o5 o6 o7 o8 o9 o10, σ = [some (.ref p.1), some v, some (.ref f0), o3, o4, o5, o6, o7, o8, o9, o10] ∧ AcI G (exc p H) f0 (.lst us) Gc (exc p Hc) ∧ us.length ≤ i ∧ (∀ u ∈ us, SomeP xs u Gc) ∧ Pn p (B + 1 + i * 9) Hc) (fun ys i σ Gc Hc ⟨_, _, _, _, _, _, _, _, _, _, I, _⟩ => I.gh) (fun G1 H1 ys s1 c1 hp => ⟨[], none, none, none, none, none, none, none, none, rfl, I0.step s1 (fun xs z => nomatch z), Nat.zero_le _, fun _ h => (by cases h), c1.le (by omega)⟩) ?_ ?_)
    · have : ∀ x ∈ ([1, 2, 2, 3, 3, 4, 0] : List Int), 0 ≤ x ∧ x ≤ 4 := by decide
      have := this i hi
      exact ⟨i.toNat, by rw [e, e1, h2]; congr 2; omega, by omega⟩
    · rintro ys ⟨m, hm, rfl⟩ i x v3 σ2 Gc Hc G2 H2 hi sG ⟨us, o3, o4, o5, o6, o7, o8, o9, o10, rfl, I, hl, hall, pc⟩ s2 u2
      obtain ⟨hi2, rfl⟩ := range_at hi
      obtain ⟨s2x, pc2⟩ := pc.step I.gh s2
      have I2 := I.step s2x (fun xs z => nomatch z)
      show tSeq _ _ _ [some (.ref p.1), some v, some (.ref f0), some v3, o4, o5, o6, o7, o8, o9, o10] H2
      refine seq_go ?_
      refine (gp_cut (p := p) (n := 0 + 6) (m := 0) (Pa := fun ys : List Str => ys.Perm xs) (Pj := fun j => j = 3) mon_S (gp_callX (n := 0) (m := 6) (α := List Str) (pre := fun xs vs G => ∃ v, vs = [v] ∧ LstR IsS xs v G ∧ xs.length ≤ 6) (post := fun xs v G => ∃ ys : List Str, ys.Perm xs ∧ LstR IsS ys v G) (gpa_imp (gpa_cons (n := 0) (m := 0 + 0) (gp_of (gv_v rfl)) (gpa_cons (gp_of (gv_var rfl (ux.on (sG.trans s2.gg)))) (gpa_nil (n := 0)))) fun vs G ⟨v, r, e, h1, w', r2, e2, h2, h3⟩ => ⟨[w'], xs, by rw [e, e2, h3, show v = _ from h1], ⟨w', rfl, h2, hxl⟩, fun v G h => h⟩)) (gp_of ((gv_ci (n := 3)).imp fun v G e => ⟨3, e, rfl⟩))) H2 _ I2.gh pc2 (by omega) _ fun v4 G4 H4 s4 c4 u4 => ?_
      obtain ⟨ys0, j, pm, rfl, a4, us4, rfl, ha4, pr4⟩ := u4.now
      have yl := pm.length_eq
      have ynd := pm.nodup_iff.mpr hnd
      match ys0, yl, ynd, pm, pr4 with
      | [], yl, _, _, _ => rw [List.length_nil] at yl; omega
      | [_], yl, _, _, _ => rw [List.length_singleton] at yl; omega
      | [_, _], yl, _, _, _ => rw [List.length_cons, List.length_singleton] at yl; omega
      | a :: b :: c :: r, _, ynd, pm, pr4 =>
        have ma : a ∈ xs := pm.mem_iff.mp (by simp)
        have mb : b ∈ xs := pm.mem_iff.mp (by simp)
        have mc : c ∈ xs := pm.mem_iff.mp (by simp)
        have ne1 : a ≠ b := fun z => by rw [z] at ynd; simp at ynd
        have ne2 : a ≠ c := fun z => by rw [z] at ynd; simp at ynd
        have ne3 : b ≠ c := fun z => by rw [z] at ynd; simp at ynd
        have e4 : us4 = [.str a, .str b, .str c] := paired_S pr4
        subst e4
        refine ⟨a4, _, rfl, SqL.of (exc_same _ _ (s4.gh _ _ ha4)), rfl, .str a, _, rfl, .str b, _, rfl, .str c, _, rfl, rfl, ?_⟩
        have I4 := I2.step s4 (fun xs z => nomatch z)
        have hal4 : ∀ u ∈ us, SomeP xs u G4 := fun u hu => mon_someP _ _ _ (s2.gg.trans s4.gg) (hall u hu)
        show tSeq _ _ _ [some (.ref p.1), some v, some (.ref f0), some v3, some (.str a), some (.str b), some (.str c), o7, o8, o9, o10] H4
        refine seq_go (par_gp (p := p) (n := 0 + (0 + 1)) (m := 0 + (0 + 1)) (φ := fun v _ => ∃ i, v = .int i ∧ 0 ≤ i ∧ i ≤ 1000000) (ψ := fun v _ => ∃ i, v = .int i ∧ 0 ≤ i ∧ i ≤ 1000000) (gp_op (φ := IsI 1) (ψ := InR 4) (gp_of gv_ci) (gp_draw (n := 0) (gpa_pen rfl) (by decide) (by decide)) ?_) (gp_op (φ := IsI 1) (ψ := OneI [0, 1, 2, 3, 5, 999999]) (gp_of gv_ci) (gp_callX (n := 0) (m := 1) (α := List Int) (pre := fun xs vs G => ∃ v, vs = [v] ∧ Vec xs v G ∧ 1 ≤ xs.length ∧ xs.length ≤ 1000) (post := OneI) (gpa_imp (gpa_cons (n := 0) (m := 0 + 0) (gp_of (gv_v rfl)) (gpa_cons (gp_of (gv_lstP (xs := [0, 1, 2, 3, 5, 999999]) mon_I (ga_consP mon_I gv_ci (ga_consP mon_I gv_ci (ga_consP mon_I gv_ci (ga_consP mon_I gv_ci (ga_consP mon_I gv_ci (ga_consP mon_I (gv_I0 (g := fun i j => .int (i - j)) (gv_I (C := CPow) (g := fun i j => .int (i ^ j.toNat)) (gv_ci (n := 10)) (gv_ci (n := 6)) ⟨by decide, by decide, by decide⟩) (gv_ci (n := 1))) ga_nilP)))))) (by decide))) (gpa_nil (n := 0)))) fun vs G ⟨v, r, e, h1, w', r2, e2, h2, h3⟩ => ⟨[w'], [0, 1, 2, 3, 5, 999999], by rw [e, e2, h3, show v = _ from h1], ⟨w', rfl, h2, by decide, by decide⟩, fun v G h => h⟩)) ?_) I4.gh c4 (by omega) fun v5 v6 G5 H5 s5 c5 u5 u6 => ?_)
        · intro x y G1 H1 s _ q1 q2 Q q
          obtain rfl := q1.now
          obtain ⟨i, rfl, i0, i1⟩ := q2.now
          exact ⟨1, i, rfl, rfl, q _ _ _ (Stp.refl s) (up_c ⟨1 + i, rfl, by omega, by omega⟩)⟩
        · intro x y G1 H1 s _ q1 q2 Q q
          obtain rfl := q1.now
          obtain ⟨i, rfl, hi⟩ := q2.now
          have : ∀ x ∈ ([0, 1, 2, 3, 5, 999999] : List Int), 0 ≤ x ∧ x ≤ 999999 := by decide
          have := this i hi
          exact ⟨1, i, rfl, rfl, q _ _ _ (Stp.refl s) (up_c ⟨1 + i, rfl, by omega, by omega⟩)⟩
        obtain ⟨i7, rfl, h7⟩ := u5.now
        obtain ⟨i8, rfl, h8⟩ := u6.now
        have I5 := I4.step s5 (fun xs z => nomatch z)
        dsimp only
        show tSeq _ _ _ [some (.ref p.1), some v, some (.ref f0), some v3, some (.str a), some (.str b), some (.str c), some (.int i7), some (.int i8), o9, o10] H5
        refine seq_go (set_gp (p := p) (n := 0 + 1) (φ := InR 7) (gp_draw (n := 0) (gpa_pen rfl) (by decide) (by decide)) I5.gh c5 (by omega) fun v9 G6 H6 s6 c6 u9 => ?_)
        obtain ⟨i9, rfl, h90, h91⟩ := u9.now
        obtain ⟨j9, rfl⟩ : ∃ j : Nat, i9 = j := ⟨i9.toNat, by omega⟩
        have I6 := I5.step s6 (fun xs z => nomatch z)
        dsimp only
        show tSeq _ _ _ [some (.ref p.1), some v, some (.ref f0), some v3, some (.str a), some (.str b), some (.str c), some (.int i7), some (.int i8), some (.int j9), o10] H6
        have e6 : Same G6 H6 := I6.gh.trans exc_same
        refine seq_go (set_gv (cs := []) (φ := AllL 3 (SomeP xs)) (gv_lstA mon_someP (ga_allC (gv_someP (sideG1 (gv_vs rfl) (gv_vi rfl) ma h7) (sideG1 (gv_vs rfl) (gv_vi rfl) mb h7)) (ga_allC (gv_someP (sideG1 (gv_vs rfl) (gv_vi rfl) ma h7) (sideG1 (gv_vs rfl) (gv_vi rfl) mb h8)) (ga_allC (gv_someP (sideG1 (gv_vs rfl) (gv_vi rfl) ma h8) sideG0) ga_all0))) (by decide)) e6 hold_nil fun v7 G7 H7 s7 u7 => ?_)
        dsimp only
        show tSeq _ _ _ [some (.ref p.1), some v, some (.ref f0), some v3, some (.str a), some (.str b), some (.str c), some (.int i7), some (.int i8), some (.int j9), some v7] H7
        refine seq_go (set_gv (cs := []) (φ := AllL (3 + 2) (SomeP xs)) (gv_catA mon_someP (gv_var rfl u7) (gv_lstA mon_someP (ga_allC (gv_someP (sideG2 (gv_vs rfl) (gv_vi rfl) (gv_vs rfl) gv_ci ma mb ne1 h7 (by decide)) (sideG1 (gv_vs rfl) gv_ci mc (by decide))) (ga_allC (gv_someP (sideG2 (gv_vs rfl) (gv_vi rfl) (gv_vs rfl) gv_ci ma mb ne1 h7 (by decide)) (sideG2 (gv_vs rfl) gv_ci (gv_vs rfl) gv_ci mc ma (Ne.symm ne2) (by decide) (by decide))) ga_all0)) (by decide)) (by decide)) s7.gh hold_nil fun v8 G8 H8 s8 u8 => ?_)
        dsimp only
        show tSeq _ _ _ [some (.ref p.1), some v, some (.ref f0), some v3, some (.str a), some (.str b), some (.str c), some (.int i7), some (.int i8), some (.int j9), some v8] H8
        refine seq_go (set_gv (cs := []) (φ := AllL (3 + 2 + 2) (SomeP xs)) (gv_catA mon_someP (gv_var rfl u8) (gv_lstA mon_someP (ga_allC (gv_someP (sideG1 (gv_vs rfl) (gv_vi rfl) ma h7) (sideG1 (gv_vs rfl) (gv_vi rfl) ma h7)) (ga_allC (gv_someP (sideG3 (gv_vs rfl) gv_ci (gv_vs rfl) gv_ci (gv_vs rfl) gv_ci ma mb mc ne1 ne2 ne3 (by decide) (by decide) (by decide)) (sideG1 (gv_vs rfl) (gv_vi rfl) ma h7)) ga_all0)) (by decide)) (by decide)) s8.gh hold_nil fun v9 G9 H9 s9 u9 => ?_)
        dsimp only
        have s69 := s7.trans (s8.trans s9)
        obtain ⟨s69x, c9⟩ := c6.step I6.gh s69
        have I9 := I6.step s69x (fun xs z => nomatch z)
        show tDrop _ _ [some (.ref p.1), some v, some (.ref f0), some v3, some (.str a), some (.str b), some (.str c), some (.int i7), some (.int i8), some (.int j9), some v9] H9
        refine ⟨.ref f0, rfl, .inl ⟨rfl, _, SqL.of (exc_same _ _ I9.at_)⟩, ?_⟩
        refine (gv_ixA (cs := []) (K := K) (j := j9) (n := 7) mon_someP (gv_var (φ := AllL 7 (SomeP xs)) rfl u9) (gv_vi rfl) (by omega)) H9 (I9.gh.trans exc_same) hold_nil _ fun v10 G10 H10 s10 u10 => ?_
        obtain ⟨s10x, c10⟩ := c9.step I9.gh s10
        have I10 := I9.step s10x (fun xs z => nomatch z)
        refine ⟨f0, us, v10, rfl, rfl, exc_same _ _ I10.at_, Nat.lt_of_le_of_lt (show us.length ≤ 4 by omega) (by decide), G10, ?_⟩
        have gg : Same Gc G10 := s2.gg.trans (s4.gg.trans (s5.gg.trans (s6.gg.trans (s69.gg.trans s10.gg))))
        refine ⟨gg, us ++ [v10], _, _, _, _, _, _, _, _, rfl, ?_, by rw [List.length_append, List.length_singleton]; omega, fun u hu => ?_, ?_⟩
        · rw [exc_put f1]
          exact I10.set hfx _
        · rcases List.mem_append.mp hu with z | z
          · exact mon_someP _ _ _ gg (hall u z)
          · rw [List.mem_singleton.mp z]
            exact u10.now
        · have z := c10.put (o := .lst (us ++ [v10])) f1 f2
          exact z.le (by omega)
    · rintro ys σ2 Gc Hc ⟨m, hm, rfl⟩ sG ⟨us, o3, o4, o5, o6, o7, o8, o9, o10, rfl, I, hl, hall, pc⟩
      rw [nums_len] at hl pc
      obtain ⟨prs, q1, q2⟩ := someP_list hall
      have nw := same_new (o := .lst us) I.nD
      refine ⟨.ref f0, rfl, k _ _ _ (I.fin' hfx) (pc.le (by omega)) fun F hF => ⟨prs, mon_lst (mon_pair mon_cnt mon_cnt) _ _ _ _ hF ⟨f0, us, rfl, upd_same, paired_mono (mon_pair mon_cnt mon_cnt) nw q1⟩, ?_, q2⟩⟩
      have := q1.length
      omega
end
end Crt
end

section
/-! Rows: u + c * r; rows that differ by combinations. -/
set_option autoImplicit false
namespace Crt
def axpy (u : List Int) (c : Int) (r : List Int) : List Int := (u.zip r).map fun q => q.1 + c * q.2
theorem axpy_len {u r : List Int} {c : Int} (h : u.length = r.length) : (axpy u c r).length = u.length := by
  unfold axpy
  rw [List.length_map, List.length_zip, h, Nat.min_self]
theorem atZ_lt {u : List Int} {i : Nat} (h : ¬ i < u.length) : atZ u i = 0 := by
  unfold atZ
  rw [List.getD_eq_getElem?_getD, List.getElem?_eq_none (by omega)]
  rfl
theorem axpy_at {u r : List Int} {c : Int} (h : u.length = r.length) (i : Nat) : atZ (axpy u c r) i = atZ u i + c * atZ r i := by
  by_cases hi : i < u.length
  · have e1 := atZ_get hi
    have e2 := atZ_get (show i < r.length by omega)
    have e3 : (axpy u c r)[i]? = some (atZ u i + c * atZ r i) := by
      unfold axpy
      have e5 : (u.zip r)[i]? = some (atZ u i, atZ r i) := List.getElem?_zip_eq_some.mpr ⟨e1, e2⟩
      rw [List.getElem?_map, e5]
      rfl
    have e4 := atZ_get (show i < (axpy u c r).length by rw [axpy_len h]; exact hi)
    rw [e3] at e4
    exact (Option.some.inj e4).symm
  · rw [atZ_lt (u := axpy u c r) (by rw [axpy_len h]; exact hi), atZ_lt hi, atZ_lt (u := r) (by omega)]
    simp
theorem row_ext {u v : List Int} (h : u.length = v.length) (e : ∀ i, i < u.length → atZ u i = atZ v i) : u = v := by
  refine List.ext_getElem? fun i => ?_
  by_cases hi : i < u.length
  · rw [atZ_get hi, atZ_get (show i < v.length by omega), e i hi]
  · rw [List.getElem?_eq_none (by omega), List.getElem?_eq_none (by omega)]
/-- v comes from u by adding multiples of rows of B -/
inductive Cg (w : Nat) (B : List (List Int)) (u : List Int) : List Int → Prop where
  | refl : u.length = w → Cg w B u u
  | step {v r : List Int} (c : Int) : Cg w B u v → r ∈ B → r.length = w → Cg w B u (axpy v c r)
theorem Cg.len {w : Nat} {B : List (List Int)} {u v : List Int} (h : Cg w B u v) : u.length = w ∧ v.length = w := by
  induction h with
  | refl h => exact ⟨h, h⟩
  | step c _ _ hr ih => exact ⟨ih.1, by rw [axpy_len (by rw [ih.2, hr]), ih.2]⟩
theorem Cg.trans {w : Nat} {B : List (List Int)} {u v x : List Int} (h : Cg w B u v) (k : Cg w B v x) : Cg w B u x := by
  induction k with
  | refl _ => exact h
  | step c _ hm hr ih => exact .step c ih hm hr
theorem axpy_back {u r : List Int} {c : Int} (h : u.length = r.length) : axpy (axpy u c r) (-c) r = u := by
  have l1 := axpy_len (c := c) h
  refine row_ext (by rw [axpy_len (by rw [l1, h]), l1]) fun i _ => ?_
  rw [axpy_at (by rw [l1, h]), axpy_at h, Int.neg_mul]
  omega
theorem Cg.symm {w : Nat} {B : List (List Int)} {u v : List Int} (h : Cg w B u v) : Cg w B v u := by
  induction h with
  | refl h => exact .refl h
  | @step v r c k hm hr ih =>
    have l := k.len.2
    have z : Cg w B (axpy v c r) v := by
      have := Cg.step (u := axpy v c r) (v := axpy v c r) (-c) (.refl (by rw [axpy_len (by rw [l, hr]), l])) hm hr
      rw [axpy_back (by rw [l, hr])] at this
      exact this
    exact z.trans ih
theorem Cg.mono {w : Nat} {B C : List (List Int)} {u v : List Int} (h : Cg w B u v) (s : ∀ r ∈ B, r ∈ C) : Cg w C u v := by
  induction h with
  | refl h => exact .refl h
  | step c _ hm hr ih => exact .step c ih (s _ hm) hr
theorem redStep_axpy {f r : List Int} {p : Nat} (h : fstNz r = some p) : redStep f r = axpy f (-((atZ f p).fdiv (atZ r p))) r := by
  unfold redStep
  rw [h]
  rfl
/-- reducing stays in the class -/
theorem redBy_cg {w : Nat} {B : List (List Int)} : ∀ {basis : List (List Int)} {f : List Int}, (∀ r ∈ basis, r ∈ B ∧ r.length = w) → f.length = w → Cg w B f (redBy basis f)
  | [], _, _, h => .refl h
  | r :: rs, f, hb, h => by
    have hr := hb r List.mem_cons_self
    have z : Cg w B f (redStep f r) := by
      cases e : fstNz r with
      | none =>
        unfold redStep
        rw [e]
        exact .refl h
      | some p =>
        rw [redStep_axpy e]
        exact .step _ (.refl h) hr.1 hr.2
    exact z.trans (redBy_cg (basis := rs) (fun r h => hb r (List.mem_cons_of_mem _ h)) z.len.2)
end Crt
end

section
/-! Echelon rows: the plain row of a class is one. -/
set_option autoImplicit false
namespace Crt
theorem fst_zero {r : List Int} {p i : Nat} (h : fstNz r = some p) (hi : i < p) : atZ r i = 0 := by
  unfold fstNz at h
  rw [List.findIdx?_eq_some_iff_getElem] at h
  obtain ⟨hp, _, hz⟩ := h
  have z := hz i hi
  have e := atZ_get (show i < r.length by omega)
  rw [List.getElem?_eq_getElem (show i < r.length by omega)] at e
  have e2 := Option.some.inj e
  simp at z
  rw [← e2, z]
/-- rows with rising first places, all from k on, positive there -/
def Ech (w : Nat) : Nat → List (List Int) → Prop
  | _, [] => True
  | k, r :: rs => ∃ p, k ≤ p ∧ fstNz r = some p ∧ 0 < atZ r p ∧ r.length = w ∧ Ech w (p + 1) rs
theorem Ech.low {w : Nat} : ∀ {B : List (List Int)} {k : Nat}, Ech w k B → ∀ {r : List Int}, r ∈ B → ∀ {i : Nat}, i < k → atZ r i = 0
  | [], _, _, _, h, _, _ => by cases h
  | a :: rs, k, ⟨p, hk, hp, _, _, hr⟩, r, h, i, hi => by
    rcases List.mem_cons.mp h with e | e
    · rw [e]
      exact fst_zero hp (by omega)
    · exact hr.low e (by omega)
theorem axpy_zero {u r : List Int} (h : u.length = r.length) : axpy u 0 r = u := row_ext (axpy_len h) fun i _ => by
  rw [axpy_at h]
  simp
theorem axpy_comm {u r s : List Int} {c d : Int} (h : u.length = r.length) (k : u.length = s.length) : axpy (axpy u c r) d s = axpy (axpy u d s) c r := by
  have l1 := axpy_len (c := c) h
  have l2 := axpy_len (c := d) k
  have L1 : (axpy (axpy u c r) d s).length = u.length := by rw [axpy_len (l1.trans k), l1]
  have L2 : (axpy (axpy u d s) c r).length = u.length := by rw [axpy_len (l2.trans h), l2]
  refine row_ext (L1.trans L2.symm) fun i _ => ?_
  rw [axpy_at (l1.trans k), axpy_at (l2.trans h), axpy_at h, axpy_at k]
  omega
theorem axpy_add {u r : List Int} {c d : Int} (h : u.length = r.length) : axpy (axpy u c r) d r = axpy u (c + d) r := by
  have l1 := axpy_len (c := c) h
  have l2 := axpy_len (c := c + d) h
  have L1 : (axpy (axpy u c r) d r).length = u.length := by rw [axpy_len (l1.trans h), l1]
  refine row_ext (L1.trans l2.symm) fun i _ => ?_
  rw [axpy_at (l1.trans h), axpy_at h, axpy_at h, Int.add_mul]
  omega
theorem Cg.shift {w : Nat} {B : List (List Int)} {u v r : List Int} {d : Int} (h : Cg w B u v) (hr : r.length = w) : Cg w B (axpy u d r) (axpy v d r) := by
  induction h with
  | refl h => exact .refl (by rw [axpy_len (by rw [h, hr]), h])
  | @step v s c k hm hs ih =>
    have l := k.len.2
    rw [axpy_comm (by rw [l, hs]) (by rw [l, hr])]
    exact .step c ih hm hs
theorem Cg.split {w : Nat} {B : List (List Int)} {u v r : List Int} (h : Cg w (r :: B) u v) (hr : r.length = w) : ∃ c, Cg w B (axpy u c r) v := by
  induction h with
  | refl h => exact ⟨0, by rw [axpy_zero (by rw [h, hr])]; exact .refl h⟩
  | @step v s d k hm hs ih =>
    obtain ⟨c, hc⟩ := ih
    rcases List.mem_cons.mp hm with e | e
    · subst e
      have z := hc.shift (d := d) hr
      rw [axpy_add (by rw [k.len.1, hr])] at z
      exact ⟨c + d, z⟩
    · exact ⟨c, .step d hc e hs⟩
theorem Cg.at_ {w i : Nat} {B : List (List Int)} {u v : List Int} (h : Cg w B u v) (z : ∀ r ∈ B, atZ r i = 0) : atZ v i = atZ u i := by
  induction h with
  | refl _ => rfl
  | @step v s d k hm hs ih => rw [axpy_at (by rw [k.len.2, hs]), ih, z s hm, Int.mul_zero, Int.add_zero]
/-- within the steps of B at each first place -/
def Low (B : List (List Int)) (u : List Int) : Prop := ∀ r ∈ B, ∀ p, fstNz r = some p → 0 ≤ atZ u p ∧ atZ u p < atZ r p
theorem ech_uniq {w : Nat} : ∀ {B : List (List Int)} {k : Nat} {u v : List Int}, Ech w k B → Cg w B u v → Low B u → Low B v → u = v
  | [], _, u, v, _, h, _, _ => by
    induction h with
    | refl _ => rfl
    | step _ _ hm _ _ => cases hm
  | r :: rs, k, u, v, ⟨p, hk, hp, h0, hr, he⟩, h, lu, lv => by
    obtain ⟨c, hc⟩ := h.split hr
    have e1 : atZ v p = atZ u p + c * atZ r p := by
      rw [hc.at_ fun s hs => he.low hs (Nat.lt_succ_self p), axpy_at (by rw [h.len.1, hr])]
    obtain ⟨a1, a2⟩ := lu r List.mem_cons_self p hp
    obtain ⟨b1, b2⟩ := lv r List.mem_cons_self p hp
    have c0 : c = 0 := by
      rcases Int.lt_trichotomy c 0 with q | q | q
      · exfalso
        have : c * atZ r p ≤ -1 * atZ r p := Int.mul_le_mul_of_nonneg_right (by omega) (Int.le_of_lt h0)
        omega
      · exact q
      · exfalso
        have : 1 * atZ r p ≤ c * atZ r p := Int.mul_le_mul_of_nonneg_right (by omega) (Int.le_of_lt h0)
        omega
    rw [c0, axpy_zero (by rw [h.len.1, hr])] at hc
    exact ech_uniq he hc (fun s hs => lu s (List.mem_cons_of_mem _ hs)) fun s hs => lv s (List.mem_cons_of_mem _ hs)
end Crt
end

section
/-! Reducing by echelon rows. -/
set_option autoImplicit false
namespace Crt
theorem Ech.lens {w : Nat} : ∀ {B : List (List Int)} {k : Nat}, Ech w k B → ∀ r ∈ B, r.length = w
  | [], _, _, _, h => by cases h
  | a :: rs, k, ⟨p, _, _, _, hl, hr⟩, r, h => by
    rcases List.mem_cons.mp h with e | e
    · rw [e]
      exact hl
    · exact hr.lens r e
theorem red_low {w : Nat} : ∀ {B : List (List Int)} {k : Nat} {f : List Int}, Ech w k B → f.length = w → Low B (redBy B f)
  | [], _, _, _, _ => fun r h => by cases h
  | r :: rs, k, f, ⟨p, hk, hp, h0, hr, he⟩, hf => by
    have es : redStep f r = axpy f (-((atZ f p).fdiv (atZ r p))) r := redStep_axpy hp
    have l1 : (redStep f r).length = w := by rw [es, axpy_len (hf.trans hr.symm), hf]
    have ih := red_low he l1
    intro s hs q hq
    show 0 ≤ atZ (redBy rs (redStep f r)) q ∧ atZ (redBy rs (redStep f r)) q < atZ s q
    rcases List.mem_cons.mp hs with e | e
    · subst e
      obtain rfl : p = q := by
        rw [hp] at hq
        exact Option.some.inj hq
      have c : Cg w rs (redStep f s) (redBy rs (redStep f s)) := redBy_cg (fun a ha => ⟨ha, he.lens a ha⟩) l1
      have ev : atZ (redBy rs (redStep f s)) p = (atZ f p).fmod (atZ s p) := by
        rw [c.at_ fun a ha => he.low ha (Nat.lt_succ_self p), es, axpy_at (hf.trans hr.symm), Int.fmod_def, Int.neg_mul, Int.mul_comm]
        omega
      rw [ev]
      exact ⟨Int.fmod_nonneg_of_pos _ h0, Int.fmod_lt_of_pos _ h0⟩
    · exact ih s e q hq
/-- the plain rows of two rows of a class are one row -/
theorem red_same {w k : Nat} {B : List (List Int)} {f g : List Int} (he : Ech w k B) (h : Cg w B f g) : redBy B f = redBy B g := by
  have a : Cg w B f (redBy B f) := redBy_cg (fun r hr => ⟨hr, he.lens r hr⟩) h.len.1
  have b : Cg w B g (redBy B g) := redBy_cg (fun r hr => ⟨hr, he.lens r hr⟩) h.len.2
  exact ech_uniq he (a.symm.trans (h.trans b)) (red_low he h.len.1) (red_low he h.len.2)
end Crt
end

section
/-! The span of rows. -/
set_option autoImplicit false
namespace Crt
def zer (w : Nat) : List Int := List.replicate w 0
theorem zer_len (w : Nat) : (zer w).length = w := List.length_replicate
theorem zer_at {w i : Nat} : atZ (zer w) i = 0 := by
  unfold atZ zer
  rw [List.getD_eq_getElem?_getD, List.getElem?_replicate]
  split <;> rfl
/-- r is a combination of rows of B -/
def InSp (w : Nat) (B : List (List Int)) (r : List Int) : Prop := Cg w B (zer w) r
theorem axpy_zer {w : Nat} {u : List Int} {c : Int} (h : u.length = w) : axpy u c (zer w) = u := by
  have l := h.trans (zer_len w).symm
  refine row_ext (axpy_len l) fun i _ => ?_
  rw [axpy_at l, zer_at, Int.mul_zero, Int.add_zero]
theorem axpy_axpy {u v s : List Int} {c d : Int} (h : u.length = v.length) (k : v.length = s.length) : axpy u c (axpy v d s) = axpy (axpy u c v) (c * d) s := by
  have l1 := axpy_len (c := d) k
  have l2 := axpy_len (c := c) h
  have L1 : (axpy u c (axpy v d s)).length = u.length := axpy_len (h.trans l1.symm)
  have L2 : (axpy (axpy u c v) (c * d) s).length = u.length := by rw [axpy_len (l2.trans (h.trans k)), l2]
  refine row_ext (L1.trans L2.symm) fun i _ => ?_
  rw [axpy_at (h.trans l1.symm), axpy_at (l2.trans (h.trans k)), axpy_at h, axpy_at k, Int.mul_add, Int.mul_assoc]
  omega
/-- adding a combination -/
theorem InSp.add {w : Nat} {B : List (List Int)} {u r : List Int} (c : Int) (hu : u.length = w) (h : InSp w B r) : Cg w B u (axpy u c r) := by
  unfold InSp at h
  induction h with
  | refl _ =>
    rw [axpy_zer hu]
    exact .refl hu
  | @step v s d k hm hs ih =>
    have lv := k.len.2
    rw [axpy_axpy (hu.trans lv.symm) (lv.trans hs.symm)]
    exact .step _ ih hm hs
/-- rows of A are combinations of rows of B -/
theorem Cg.via {w : Nat} {A B : List (List Int)} {u v : List Int} (h : Cg w A u v) (s : ∀ r ∈ A, InSp w B r) : Cg w B u v := by
  induction h with
  | refl h => exact .refl h
  | @step v r c k hm _ ih => exact ih.trans ((s r hm).add c k.len.2)
theorem InSp.of {w : Nat} {B : List (List Int)} {r : List Int} (h : r ∈ B) (hr : r.length = w) : InSp w B r := by
  have z := Cg.step (w := w) (B := B) (u := zer w) (v := zer w) 1 (.refl (zer_len w)) h hr
  have e : axpy (zer w) 1 r = r := by
    have l := (zer_len w).trans hr.symm
    refine row_ext ((axpy_len l).trans l) fun i _ => ?_
    rw [axpy_at l, zer_at, Int.one_mul, Int.zero_add]
  rw [e] at z
  exact z
/-- both differences at once -/
theorem Cg.both {w : Nat} {B : List (List Int)} {u v x y : List Int} (c : Int) (h : Cg w B u v) (k : Cg w B x y) : Cg w B (axpy u c x) (axpy v c y) := by
  have z := h.shift (d := c) k.len.1
  refine z.trans ?_
  induction k with
  | refl hx => exact .refl (by rw [axpy_len (h.len.2.trans hx.symm), h.len.2])
  | @step y s d k hm hs ih =>
    have ly := k.len.2
    rw [axpy_axpy (h.len.2.trans ly.symm) (ly.trans hs.symm)]
    exact .step _ ih hm hs
end Crt
end

section
/-! A turn of cleared keeps the span. -/
set_option autoImplicit false
namespace Crt
theorem InSp.plus {w : Nat} {B : List (List Int)} {a b : List Int} (c : Int) (h : InSp w B a) (k : InSp w B b) : InSp w B (axpy a c b) := Cg.trans h (k.add c h.len.2)
theorem elimR_axpy (p : Nat) (piv row : List Int) : elimR p piv row = axpy row (-((atZ row p).fdiv (atZ piv p))) piv := rfl
section
variable {w p : Nat} {act oth : List (List Int)}
theorem chg_from {pv r : List Int} (hp : pv ∈ act) (h : r ∈ chgR p pv act) : ∃ s ∈ act, r = elimR p pv s := by
  unfold chgR at h
  obtain ⟨s, hs, rfl⟩ := List.mem_map.mp h
  refine ⟨s, ?_, rfl⟩
  rcases List.mem_append.mp hs with q | q
  · exact (List.mem_filter.mp q).1
  · obtain ⟨_, _, e⟩ := List.mem_map.mp (List.mem_of_mem_drop q)
    rw [← e]
    exact hp
theorem cl_sub (hne : act ≠ []) (la : ∀ r ∈ act, r.length = w) (lo : ∀ r ∈ oth, r.length = w) : ∀ r ∈ clA p act ++ clO p act oth, InSp w (act ++ oth) r := by
  have hp := headR_mem (p := p) hne
  have spv : InSp w (act ++ oth) (headR p act) := InSp.of (List.mem_append_left _ hp) (la _ hp)
  have sch : ∀ r ∈ chgR p (headR p act) act, InSp w (act ++ oth) r := fun r hr => by
    obtain ⟨s, hs, rfl⟩ := chg_from hp hr
    rw [elimR_axpy]
    exact InSp.plus _ (InSp.of (List.mem_append_left _ hs) (la s hs)) spv
  intro r hr
  rcases List.mem_append.mp hr with h | h
  · rcases List.mem_cons.mp h with e | e
    · rw [e]
      exact spv
    · exact sch r (List.mem_filter.mp e).1
  · rcases List.mem_append.mp h with e | e
    · exact InSp.of (List.mem_append_right _ e) (lo r e)
    · exact sch r (List.mem_filter.mp e).1
theorem cl_sup (hne : act ≠ []) (la : ∀ r ∈ act, r.length = w) (lo : ∀ r ∈ oth, r.length = w) : ∀ r ∈ act ++ oth, InSp w (clA p act ++ clO p act oth) r := by
  have hp := headR_mem (p := p) hne
  have hpl := la _ hp
  have spv : InSp w (clA p act ++ clO p act oth) (headR p act) := InSp.of (List.mem_append_left _ List.mem_cons_self) hpl
  intro r hr
  rcases List.mem_append.mp hr with h | h
  · by_cases e : r = headR p act
    · rw [e]
      exact spv
    · have hl := la r h
      have lr : r.length = (headR p act).length := hl.trans hpl.symm
      have hm : elimR p (headR p act) r ∈ chgR p (headR p act) act := List.mem_map.mpr ⟨r, List.mem_append_left _ (List.mem_filter.mpr ⟨h, by simp [e]⟩), rfl⟩
      have el : (elimR p (headR p act) r).length = w := by rw [elimR_axpy, axpy_len lr, hl]
      have sm : InSp w (clA p act ++ clO p act oth) (elimR p (headR p act) r) := by
        refine InSp.of ?_ el
        by_cases z : atZ (elimR p (headR p act) r) p = 0
        · exact List.mem_append_right _ (List.mem_append_right _ (List.mem_filter.mpr ⟨hm, by simp [z]⟩))
        · exact List.mem_append_left _ (List.mem_cons_of_mem _ (List.mem_filter.mpr ⟨hm, by simp [z]⟩))
      have back := InSp.plus (-(-((atZ r p).fdiv (atZ (headR p act) p)))) sm spv
      rw [elimR_axpy, axpy_back lr] at back
      exact back
  · exact InSp.of (List.mem_append_right _ (List.mem_append_left _ h)) (lo r h)
end
end Crt
end

section
/-! cleared keeps the span. -/
set_option autoImplicit false
namespace Crt
/-- one span -/
def OneSp (w : Nat) (A B : List (List Int)) : Prop := (∀ r ∈ A, InSp w B r) ∧ ∀ r ∈ B, InSp w A r
theorem OneSp.refl {w : Nat} {A : List (List Int)} (h : ∀ r ∈ A, r.length = w) : OneSp w A A := ⟨fun r hr => .of hr (h r hr), fun r hr => .of hr (h r hr)⟩
theorem OneSp.trans {w : Nat} {A B C : List (List Int)} (h : OneSp w A B) (k : OneSp w B C) : OneSp w A C := ⟨fun r hr => (h.1 r hr).via k.1, fun r hr => (k.2 r hr).via h.2⟩
theorem OneSp.symm {w : Nat} {A B : List (List Int)} (h : OneSp w A B) : OneSp w B A := ⟨h.2, h.1⟩
theorem OneSp.cg {w : Nat} {A B : List (List Int)} {u v : List Int} (h : OneSp w A B) : Cg w A u v ↔ Cg w B u v := ⟨fun k => k.via h.1, fun k => k.via h.2⟩
theorem clok_span {w p : Nat} : ∀ {n : Nat} {a o a' o' : List (List Int)}, ClOk w p n a o a' o' → OneSp w (a ++ o) (a' ++ o')
  | 0, a, o, a', o', ⟨⟨_, _, la, lo⟩, _, e1, e2⟩ => by
    rw [e1, e2]
    exact .refl fun r hr => (List.mem_append.mp hr).elim (la r) (lo r)
  | n + 1, a, o, a', o', ⟨⟨_, _, la, lo⟩, h⟩ => by
    rcases h with ⟨_, e1, e2⟩ | ⟨hl, _, h⟩
    · rw [e1, e2]
      exact .refl fun r hr => (List.mem_append.mp hr).elim (la r) (lo r)
    · have hne : a ≠ [] := by
        intro e
        rw [e] at hl
        exact absurd hl (by decide)
      exact OneSp.trans ⟨cl_sup hne la lo, cl_sub hne la lo⟩ (clok_span h)
end Crt
end

section
/-! What cleared leaves. -/
set_option autoImplicit false
namespace Crt
theorem InSp.zero {w i : Nat} {B : List (List Int)} {r : List Int} (h : InSp w B r) (z : ∀ s ∈ B, atZ s i = 0) : atZ r i = 0 := by
  rw [Cg.at_ h z]
  exact zer_at
theorem clok_end {w p : Nat} : ∀ {n : Nat} {a o a' o' : List (List Int)}, ClOk w p n a o a' o' → (∀ r ∈ a, atZ r p ≠ 0) → (∀ r ∈ o, atZ r p = 0) → a'.length ≤ 1 ∧ (∀ r ∈ a', atZ r p ≠ 0 ∧ r.length = w) ∧ ∀ r ∈ o', atZ r p = 0 ∧ r.length = w
  | 0, a, o, a', o', ⟨⟨_, _, la, lo⟩, h1, e1, e2⟩, za, zo => by
    rw [e1, e2]
    exact ⟨h1, fun r hr => ⟨za r hr, la r hr⟩, fun r hr => ⟨zo r hr, lo r hr⟩⟩
  | n + 1, a, o, a', o', ⟨⟨_, _, la, lo⟩, h⟩, za, zo => by
    rcases h with ⟨h1, e1, e2⟩ | ⟨hl, _, h⟩
    · rw [e1, e2]
      exact ⟨h1, fun r hr => ⟨za r hr, la r hr⟩, fun r hr => ⟨zo r hr, lo r hr⟩⟩
    · have hne : a ≠ [] := by
        intro e
        rw [e] at hl
        exact absurd hl (by decide)
      refine clok_end h (fun r hr => ?_) fun r hr => ?_
      · rcases List.mem_cons.mp hr with e | e
        · rw [e]
          exact za _ (headR_mem hne)
        · simpa using (List.mem_filter.mp e).2
      · rcases List.mem_append.mp hr with e | e
        · exact zo r e
        · simpa using (List.mem_filter.mp e).2
theorem filt_span {w p : Nat} {rows : List (List Int)} (h : ∀ r ∈ rows, r.length = w) : OneSp w rows ((rows.filter fun r => !decide (atZ r p = 0)) ++ rows.filter fun r => decide (atZ r p = 0)) := by
  refine ⟨fun r hr => .of ?_ (h r hr), fun r hr => ?_⟩
  · by_cases z : atZ r p = 0
    · exact List.mem_append_right _ (List.mem_filter.mpr ⟨hr, by simp [z]⟩)
    · exact List.mem_append_left _ (List.mem_filter.mpr ⟨hr, by simp [z]⟩)
  · have hm : r ∈ rows := (List.mem_append.mp hr).elim (fun q => (List.mem_filter.mp q).1) fun q => (List.mem_filter.mp q).1
    exact .of hm (h r hm)
end Crt
end

section
/-! cleared, told whole. -/
set_option autoImplicit false
namespace Crt
theorem negR_axpy (r : List Int) : negR r = axpy r (-2) r := by
  have l := axpy_len (u := r) (r := r) (c := -2) rfl
  have ln : (negR r).length = r.length := List.length_map _
  refine row_ext (ln.trans l.symm) fun i hi => ?_
  rw [axpy_at rfl]
  have hr : i < r.length := by omega
  have e1 := atZ_get hi
  have e2 := atZ_get hr
  unfold negR at e1
  rw [List.getElem?_map, e2] at e1
  have e3 : -atZ r i = atZ (negR r) i := Option.some.inj e1
  omega
theorem neg_span {w : Nat} {r : List Int} {o : List (List Int)} (hr : r.length = w) (ho : ∀ s ∈ o, s.length = w) : OneSp w (r :: o) (negR r :: o) := by
  have ln : (negR r).length = w := (List.length_map _).trans hr
  have nn : negR (negR r) = r := by
    unfold negR
    rw [List.map_map, show ((fun x : Int => -x) ∘ fun x => -x) = id from funext fun x => Int.neg_neg x, List.map_id]
  have up : ∀ (a : List Int), a.length = w → InSp w (a :: o) (negR a) := fun a ha => by
    rw [negR_axpy]
    exact InSp.plus _ (.of List.mem_cons_self ha) (.of List.mem_cons_self ha)
  refine ⟨fun s hs => ?_, fun s hs => ?_⟩
  · rcases List.mem_cons.mp hs with e | e
    · rw [e]
      have z := up (negR r) ln
      rw [nn] at z
      exact z
    · exact .of (List.mem_cons_of_mem _ e) (ho s e)
  · rcases List.mem_cons.mp hs with e | e
    · rw [e]
      exact up r hr
    · exact .of (List.mem_cons_of_mem _ e) (ho s e)
theorem cleared_none {w p : Nat} {rows oth : List (List Int)} (h : Cleared w p rows none oth) : OneSp w rows oth ∧ ∀ r ∈ oth, atZ r p = 0 ∧ r.length = w := by
  obtain ⟨_, hl, n, a, ok, e⟩ := h
  have sp := (filt_span (p := p) hl).trans (clok_span ok)
  obtain ⟨_, _, zo⟩ := clok_end ok (fun r hr => by simpa using (List.mem_filter.mp hr).2) fun r hr => by simpa using (List.mem_filter.mp hr).2
  cases a with
  | nil => exact ⟨sp, zo⟩
  | cons r rs => cases e
theorem cleared_some {w p : Nat} {rows oth : List (List Int)} {q : List Int} (h : Cleared w p rows (some q) oth) : OneSp w rows (q :: oth) ∧ 0 < atZ q p ∧ q.length = w ∧ ∀ r ∈ oth, atZ r p = 0 ∧ r.length = w := by
  obtain ⟨_, hl, n, a, ok, e⟩ := h
  have sp := (filt_span (p := p) hl).trans (clok_span ok)
  obtain ⟨l1, za, zo⟩ := clok_end ok (fun r hr => by simpa using (List.mem_filter.mp hr).2) fun r hr => by simpa using (List.mem_filter.mp hr).2
  cases a with
  | nil => cases e
  | cons r rs =>
    obtain rfl : rs = [] := by
      cases rs with
      | nil => rfl
      | cons _ _ => exact absurd l1 (by simp)
    obtain ⟨zr, lr⟩ := za r List.mem_cons_self
    have e' : q = if 0 < atZ r p then r else negR r := Option.some.inj e
    by_cases h0 : 0 < atZ r p
    · rw [if_pos h0] at e'
      rw [e']
      exact ⟨sp, h0, lr, zo⟩
    · rw [if_neg h0] at e'
      rw [e']
      refine ⟨sp.trans (neg_span lr fun s hs => (zo s hs).2), ?_, (List.length_map _).trans lr, zo⟩
      rw [negR_axpy, axpy_at rfl]
      omega
end Crt
end

section
/-! triangular's rows ahead of the reducing. -/
set_option autoImplicit false
namespace Crt
theorem InSp.more {w : Nat} {A B : List (List Int)} {r : List Int} (h : InSp w A r) (s : ∀ x ∈ A, x ∈ B) : InSp w B r := Cg.mono h s
theorem fst_is {r : List Int} {p : Nat} (z : ∀ i, i < p → atZ r i = 0) (h : atZ r p ≠ 0) : fstNz r = some p := by
  have hp : p < r.length := by
    rcases Nat.lt_or_ge p r.length with q | q
    · exact q
    · exact absurd (atZ_lt (by omega)) h
  refine fst_some (atZ_get hp) (fun j hj y hy => ?_) h
  have e := atZ_get (show j < r.length by omega)
  rw [hy] at e
  rw [Option.some.inj e, z j hj]
/-- falling first places, all below n -/
def EchD (w : Nat) : Nat → List (List Int) → Prop
  | _, [] => True
  | n, q :: b => ∃ p, p < n ∧ fstNz q = some p ∧ 0 < atZ q p ∧ q.length = w ∧ EchD w p b
theorem EchD.up {w : Nat} : ∀ {b : List (List Int)} {n m : Nat}, EchD w n b → n ≤ m → EchD w m b
  | [], _, _, _, _ => True.intro
  | q :: b, n, m, ⟨p, h1, h2⟩, l => ⟨p, by omega, h2⟩
theorem EchD.lens {w : Nat} : ∀ {b : List (List Int)} {n : Nat}, EchD w n b → ∀ r ∈ b, r.length = w
  | [], _, _, _, h => by cases h
  | q :: b, n, ⟨p, _, _, _, hl, hb⟩, r, h => by
    rcases List.mem_cons.mp h with e | e
    · rw [e]
      exact hl
    · exact hb.lens r e
theorem OneSp.app {w : Nat} {A B C : List (List Int)} (h : OneSp w A B) (l : ∀ r ∈ C, r.length = w) : OneSp w (C ++ A) (C ++ B) := by
  refine ⟨fun r hr => ?_, fun r hr => ?_⟩
  · rcases List.mem_append.mp hr with q | q
    · exact .of (List.mem_append_left _ q) (l r q)
    · exact (h.1 r q).more fun x hx => List.mem_append_right _ hx
  · rcases List.mem_append.mp hr with q | q
    · exact .of (List.mem_append_left _ q) (l r q)
    · exact (h.2 r q).more fun x hx => List.mem_append_right _ hx
theorem tri_inv {w : Nat} {rows : List (List Int)} (hl : ∀ r ∈ rows, r.length = w) : ∀ {n : Nat} {b r : List (List Int)}, TriRel w rows n b r → OneSp w rows (b ++ r) ∧ (∀ s ∈ r, s.length = w ∧ ∀ i, i < n → atZ s i = 0) ∧ EchD w n b
  | 0, b, r, h => by
    rw [h.1, h.2]
    exact ⟨.refl hl, fun s hs => ⟨hl s hs, fun i hi => absurd hi (Nat.not_lt_zero i)⟩, True.intro⟩
  | n + 1, b, r, ⟨b', r', piv, h, c, e⟩ => by
    obtain ⟨sp, zr, eb⟩ := tri_inv hl h
    have lb := eb.lens
    cases piv with
    | none =>
      obtain ⟨s1, z1⟩ := cleared_none c
      rw [e]
      refine ⟨sp.trans (s1.app lb), fun s hs => ⟨(z1 s hs).2, fun i hi => ?_⟩, eb.up (Nat.le_succ n)⟩
      rcases Nat.lt_or_ge i n with q | q
      · exact (s1.2 s hs).zero fun x hx => (zr x hx).2 i q
      · obtain rfl : i = n := by omega
        exact (z1 s hs).1
    | some q =>
      obtain ⟨s1, q0, ql, z1⟩ := cleared_some c
      rw [e]
      have zq : ∀ i, i < n → atZ q i = 0 := fun i hi => (s1.2 q List.mem_cons_self).zero fun x hx => (zr x hx).2 i hi
      have lr : ∀ x ∈ b' ++ (q :: r), x.length = w := fun x hx => by
        rcases List.mem_append.mp hx with y | y
        · exact lb x y
        · rcases List.mem_cons.mp y with z | z
          · rw [z]
            exact ql
          · exact (z1 x z).2
      have perm : OneSp w (b' ++ (q :: r)) ((q :: b') ++ r) := by
        refine ⟨fun x hx => .of ?_ (lr x hx), fun x hx => ?_⟩
        · simp at hx ⊢
          rcases hx with y | y | y <;> simp [y]
        · have hm : x ∈ b' ++ (q :: r) := by
            simp at hx ⊢
            rcases hx with y | y | y <;> simp [y]
          exact .of hm (lr x hm)
      refine ⟨(sp.trans (s1.app lb)).trans perm, fun s hs => ⟨(z1 s hs).2, fun i hi => ?_⟩, n, Nat.lt_succ_self n, fst_is zq (by omega), q0, ql, eb⟩
      rcases Nat.lt_or_ge i n with y | y
      · exact (s1.2 s (List.mem_cons_of_mem _ hs)).zero fun x hx => (zr x hx).2 i y
      · obtain rfl : i = n := by omega
        exact (z1 s hs).1
end Crt
end

section
/-! The reduced rows. -/
set_option autoImplicit false
namespace Crt
theorem Ech.down {w : Nat} : ∀ {B : List (List Int)} {k j : Nat}, Ech w k B → j ≤ k → Ech w j B
  | [], _, _, _, _ => True.intro
  | r :: rs, k, j, ⟨p, h1, h2⟩, l => ⟨p, by omega, h2⟩
theorem redAll_inv {w : Nat} : ∀ {b acc : List (List Int)} {k : Nat}, EchD w k b → Ech w k acc → Ech w 0 (b.foldl (fun acc row => redBy acc row :: acc) acc) ∧ OneSp w (acc ++ b) (b.foldl (fun acc row => redBy acc row :: acc) acc)
  | [], acc, k, _, he => by
    rw [List.append_nil]
    exact ⟨he.down (Nat.zero_le k), .refl he.lens⟩
  | q :: b, acc, k, ⟨p, hk, hp, h0, hl, hb⟩, he => by
    have c : Cg w acc q (redBy acc q) := redBy_cg (fun r hr => ⟨hr, he.lens r hr⟩) hl
    have same : ∀ i, i < k → atZ (redBy acc q) i = atZ q i := fun i hi => c.at_ fun r hr => he.low hr hi
    have hl2 := c.len.2
    have e1 : atZ (redBy acc q) p = atZ q p := same p hk
    have e2 : fstNz (redBy acc q) = some p := fst_is (fun i hi => by rw [same i (by omega)]; exact fst_zero hp hi) (by rw [e1]; omega)
    have hn : Ech w p (redBy acc q :: acc) := ⟨p, Nat.le_refl p, e2, by rw [e1]; exact h0, hl2, he.down (by omega)⟩
    obtain ⟨r1, r2⟩ := redAll_inv hb hn
    refine ⟨r1, OneSp.trans ⟨fun x hx => ?_, fun x hx => ?_⟩ r2⟩
    · rcases List.mem_append.mp hx with y | y
      · exact .of (List.mem_append_left _ (List.mem_cons_of_mem _ y)) (he.lens x y)
      · rcases List.mem_cons.mp y with z | z
        · rw [z]
          exact Cg.trans (InSp.of (List.mem_append_left _ List.mem_cons_self) hl2) (c.symm.mono fun r hr => List.mem_append_left _ (List.mem_cons_of_mem _ hr))
        · exact .of (List.mem_append_right _ z) (hb.lens x z)
    · rcases List.mem_append.mp hx with y | y
      · rcases List.mem_cons.mp y with z | z
        · rw [z]
          exact Cg.trans (InSp.of (List.mem_append_right _ List.mem_cons_self) hl) (c.mono fun r hr => List.mem_append_left _ hr)
        · exact .of (List.mem_append_left _ z) (he.lens x z)
      · exact .of (List.mem_append_right _ (List.mem_cons_of_mem _ y)) (hb.lens x y)
end Crt
end

section
/-! triangular, told whole. -/
set_option autoImplicit false
namespace Crt
theorem basis_span {w : Nat} {rows b r : List (List Int)} (hl : ∀ x ∈ rows, x.length = w) (h : TriRel w rows w b r) : Ech w 0 (redAll b) ∧ OneSp w rows (redAll b) := by
  obtain ⟨sp, zr, eb⟩ := tri_inv hl h
  obtain ⟨e1, s1⟩ := redAll_inv (acc := []) eb (show Ech w w [] from True.intro)
  rw [List.nil_append] at s1
  have drop : OneSp w (b ++ r) b := by
    refine ⟨fun x hx => ?_, fun x hx => .of (List.mem_append_left _ hx) (eb.lens x hx)⟩
    rcases List.mem_append.mp hx with y | y
    · exact .of y (eb.lens x y)
    · obtain ⟨lx, z⟩ := zr x y
      have e : x = zer w := row_ext (lx.trans (zer_len w).symm) fun i hi => by
        rw [zer_at, z i (by omega)]
      rw [e]
      exact Cg.refl (zer_len w)
  exact ⟨e1, (sp.trans drop).trans s1⟩
end Crt
end

section
/-! cleared ends, and its rows stay small: one turn. -/
set_option autoImplicit false
namespace Crt
/-- the product of the doubled values at p -/
def prd (p : Nat) : List (List Int) → Nat
  | [] => 1
  | r :: rs => 2 * (atZ r p).natAbs * prd p rs
theorem prd_pos {p : Nat} : ∀ {l : List (List Int)}, (∀ r ∈ l, atZ r p ≠ 0) → 1 ≤ prd p l
  | [], _ => Nat.le_refl 1
  | r :: rs, h => by
    have h1 := h r List.mem_cons_self
    have h2 := prd_pos fun x hx => h x (List.mem_cons_of_mem _ hx)
    exact Nat.mul_pos (by omega) h2
theorem prd_perm {p : Nat} {a b : List (List Int)} (h : a.Perm b) : prd p a = prd p b := by
  induction h with
  | nil => rfl
  | cons x _ ih => show 2 * _ * _ = 2 * _ * _; rw [ih]
  | swap x y l => show 2 * _ * (2 * _ * _) = 2 * _ * (2 * _ * _); rw [Nat.mul_left_comm]
  | trans _ _ h1 h2 => exact h1.trans h2
theorem leastR_le {p : Nat} : ∀ (l : List (List Int)) (f : List Int), (atZ (leastR p f l) p).natAbs ≤ (atZ f p).natAbs ∧ ∀ r ∈ l, (atZ (leastR p f l) p).natAbs ≤ (atZ r p).natAbs
  | [], f => ⟨Nat.le_refl _, fun _ h => by cases h⟩
  | x :: l, f => by
    have e : leastR p f (x :: l) = leastR p (if (atZ x p).natAbs < (atZ f p).natAbs then x else f) l := rfl
    rw [e]
    obtain ⟨h1, h2⟩ := leastR_le (p := p) l (if (atZ x p).natAbs < (atZ f p).natAbs then x else f)
    by_cases q : (atZ x p).natAbs < (atZ f p).natAbs
    · rw [if_pos q] at h1 h2 ⊢
      refine ⟨by omega, fun r hr => ?_⟩
      rcases List.mem_cons.mp hr with z | z
      · rw [z]
        exact h1
      · exact h2 r z
    · rw [if_neg q] at h1 h2 ⊢
      refine ⟨h1, fun r hr => ?_⟩
      rcases List.mem_cons.mp hr with z | z
      · rw [z]
        omega
      · exact h2 r z
theorem headR_le {p : Nat} {act : List (List Int)} {r : List Int} (h : r ∈ act) : (atZ (headR p act) p).natAbs ≤ (atZ r p).natAbs := by
  cases act with
  | nil => cases h
  | cons a l => exact (leastR_le (a :: l) a).2 r h
/-- the rows that are changed -/
def srcR (pv : List Int) (act : List (List Int)) : List (List Int) := act.filter (fun r => !decide (r = pv)) ++ ((act.filter fun r => decide (r = pv)).map fun _ => pv).drop 1
theorem chg_src {p : Nat} {pv : List Int} {act : List (List Int)} : chgR p pv act = (srcR pv act).map (elimR p pv) := rfl
theorem src_perm {pv : List Int} {act : List (List Int)} (h : pv ∈ act) : (pv :: srcR pv act).Perm act := by
  have hm : (act.filter fun r => decide (r = pv)).map (fun _ => pv) = act.filter fun r => decide (r = pv) := by
    have : ∀ l : List (List Int), (∀ r ∈ l, r = pv) → l.map (fun _ => pv) = l := fun l => by
      induction l with
      | nil => exact fun _ => rfl
      | cons x l ih =>
        intro hl
        rw [List.map_cons, ih fun r hr => hl r (List.mem_cons_of_mem _ hr), hl x List.mem_cons_self]
    exact this _ fun r hr => by simpa using (List.mem_filter.mp hr).2
  have hd : pv :: (act.filter fun r => decide (r = pv)).drop 1 = act.filter fun r => decide (r = pv) := by
    have hp : pv ∈ act.filter fun r => decide (r = pv) := List.mem_filter.mpr ⟨h, by simp⟩
    cases e : act.filter fun r => decide (r = pv) with
    | nil =>
      rw [e] at hp
      cases hp
    | cons a l =>
      have ha : a ∈ act.filter fun r => decide (r = pv) := by
        rw [e]
        exact List.mem_cons_self
      have : a = pv := by simpa using (List.mem_filter.mp ha).2
      rw [this]
      rfl
  unfold srcR
  rw [hm]
  have z : (pv :: (act.filter (fun r => !decide (r = pv)) ++ (act.filter fun r => decide (r = pv)).drop 1)).Perm (act.filter (fun r => !decide (r = pv)) ++ (pv :: (act.filter fun r => decide (r = pv)).drop 1)) := (List.perm_middle).symm
  rw [hd] at z
  refine z.trans ?_
  exact (List.perm_append_comm).trans (List.filter_append_perm _ _)
/-- ints of one sign -/
theorem same_div {m s : Int} (h : (0 < m ∧ 0 < s) ∨ (m < 0 ∧ s < 0)) : m.natAbs = (m.fdiv s).natAbs * s.natAbs + (m.fmod s).natAbs := by
  have e := Int.mul_fdiv_add_fmod m s
  rcases h with ⟨h1, h2⟩ | ⟨h1, h2⟩
  · have q0 : 0 ≤ m.fdiv s := Int.fdiv_nonneg (by omega) (by omega)
    have r0 : 0 ≤ m.fmod s := Int.fmod_nonneg_of_pos _ h2
    have p0 : 0 ≤ s * m.fdiv s := Int.mul_nonneg (by omega) q0
    have : (m.fdiv s).natAbs * s.natAbs = (s * m.fdiv s).natAbs := by rw [Int.natAbs_mul, Nat.mul_comm]
    rw [this]
    omega
  · have e2 : m.fdiv s = (-m).fdiv (-s) := by rw [Int.neg_fdiv_neg]
    have q0 : 0 ≤ m.fdiv s := by
      rw [e2]
      exact Int.fdiv_nonneg (by omega) (by omega)
    have r0 : m.fmod s ≤ 0 := by
      have : (-m).fmod (-s) = -(m.fmod s) := by
        have z := Int.mul_fdiv_add_fmod (-m) (-s)
        rw [← e2, Int.neg_mul] at z
        omega
      have z2 := Int.fmod_nonneg_of_pos (-m) (show 0 < -s by omega)
      omega
    have p0 : s * m.fdiv s ≤ 0 := Int.mul_nonpos_of_nonpos_of_nonneg (by omega) q0
    have : (m.fdiv s).natAbs * s.natAbs = (s * m.fdiv s).natAbs := by rw [Int.natAbs_mul, Nat.mul_comm]
    rw [this]
    omega
theorem fmod_small {m s : Int} (h : s ≠ 0) : (m.fmod s).natAbs < s.natAbs ∧ (0 < s → 0 ≤ m.fmod s) ∧ (s < 0 → m.fmod s ≤ 0) := by
  rcases Int.lt_or_gt_of_ne h with q | q
  · have e : (-m).fmod (-s) = -(m.fmod s) := by
      have z := Int.mul_fdiv_add_fmod (-m) (-s)
      have z2 := Int.mul_fdiv_add_fmod m s
      rw [Int.neg_fdiv_neg, Int.neg_mul] at z
      omega
    have a := Int.fmod_nonneg_of_pos (-m) (show 0 < -s by omega)
    have b := Int.fmod_lt_of_pos (-m) (show 0 < -s by omega)
    omega
  · have a := Int.fmod_nonneg_of_pos m q
    have b := Int.fmod_lt_of_pos m q
    omega
theorem fdiv_small {m s : Int} (h : s ≠ 0) : (m.fdiv s).natAbs ≤ m.natAbs + 1 := by
  have e := Int.mul_fdiv_add_fmod m s
  have l := (fmod_small (m := m) h).1
  have e2 : (s * m.fdiv s).natAbs ≤ m.natAbs + (m.fmod s).natAbs := by omega
  rw [Int.natAbs_mul] at e2
  rcases Nat.lt_or_ge (m.natAbs + 1) (m.fdiv s).natAbs with q | q
  · exfalso
    have h1 : s.natAbs * (m.natAbs + 2) ≤ s.natAbs * (m.fdiv s).natAbs := Nat.mul_le_mul_left _ q
    have h2 : s.natAbs * (m.natAbs + 2) = s.natAbs * m.natAbs + s.natAbs * 2 := Nat.mul_add _ _ _
    have h3 : 1 * m.natAbs ≤ s.natAbs * m.natAbs := Nat.mul_le_mul_right _ (by omega)
    omega
  · exact q
section
variable {p : Nat} {pv : List Int}
theorem elim_p {r : List Int} (h : r.length = pv.length) : atZ (elimR p pv r) p = (atZ r p).fmod (atZ pv p) := by
  rw [elimR_axpy, axpy_at h, Int.fmod_def, Int.neg_mul, Int.mul_comm]
  omega
theorem elim_i {r : List Int} {i : Nat} (h : r.length = pv.length) : (atZ (elimR p pv r) i).natAbs ≤ (atZ r i).natAbs + ((atZ r p).fdiv (atZ pv p)).natAbs * (atZ pv i).natAbs := by
  rw [elimR_axpy, axpy_at h, Int.neg_mul, ← Int.natAbs_mul]
  omega
/-- the changed rows that are not 0 at p -/
def newA (p : Nat) (pv : List Int) (src : List (List Int)) : List (List Int) := (src.map (elimR p pv)).filter fun r => !decide (atZ r p = 0)
theorem newA_cons0 {r : List Int} {src : List (List Int)} (h : r.length = pv.length) (z : (atZ r p).fmod (atZ pv p) = 0) : newA p pv (r :: src) = newA p pv src := by
  unfold newA
  rw [List.map_cons, List.filter_cons, if_neg (by rw [elim_p h, z]; decide)]
theorem newA_cons1 {r : List Int} {src : List (List Int)} (h : r.length = pv.length) (z : (atZ r p).fmod (atZ pv p) ≠ 0) : newA p pv (r :: src) = elimR p pv r :: newA p pv src := by
  unfold newA
  rw [List.map_cons, List.filter_cons, if_pos (by rw [elim_p h]; simp [z])]
theorem newA_le : ∀ {src : List (List Int)}, atZ pv p ≠ 0 → (∀ r ∈ src, r.length = pv.length ∧ atZ r p ≠ 0 ∧ (atZ pv p).natAbs ≤ (atZ r p).natAbs) → prd p (newA p pv src) ≤ prd p src ∧ (src ≠ [] → prd p (newA p pv src) < prd p src)
  | [], _, _ => ⟨Nat.le_refl _, fun h => absurd rfl h⟩
  | r :: src, h0, h => by
    obtain ⟨l, nz, le⟩ := h r List.mem_cons_self
    have hs := fun x hx => h x (List.mem_cons_of_mem _ hx)
    have ih := (newA_le (src := src) h0 hs).1
    have p1 : 1 ≤ prd p src := prd_pos fun x hx => (hs x hx).2.1
    have goal : prd p (newA p pv (r :: src)) < prd p (r :: src) := by
      show _ < 2 * (atZ r p).natAbs * prd p src
      by_cases z : (atZ r p).fmod (atZ pv p) = 0
      · rw [newA_cons0 l z]
        have : 2 * prd p src ≤ 2 * (atZ r p).natAbs * prd p src := Nat.mul_le_mul_right _ (by omega)
        omega
      · rw [newA_cons1 l z]
        show 2 * (atZ (elimR p pv r) p).natAbs * _ < _
        rw [elim_p l]
        have sm := (fmod_small (m := atZ r p) h0).1
        have a1 : 2 * ((atZ r p).fmod (atZ pv p)).natAbs * prd p (newA p pv src) ≤ 2 * ((atZ r p).fmod (atZ pv p)).natAbs * prd p src := Nat.mul_le_mul_left _ ih
        have a2 : (2 * ((atZ r p).fmod (atZ pv p)).natAbs + 1) * prd p src ≤ 2 * (atZ r p).natAbs * prd p src := Nat.mul_le_mul_right _ (by omega)
        rw [Nat.add_mul, Nat.one_mul] at a2
        omega
    exact ⟨Nat.le_of_lt goal, fun _ => goal⟩
/-- of one sign -/
def SgR (p : Nat) (pv : List Int) (r : List Int) : Prop := (0 < atZ r p ∧ 0 < atZ pv p) ∨ (atZ r p < 0 ∧ atZ pv p < 0)
theorem newA_grow : ∀ {src : List (List Int)}, (∀ r ∈ src, r.length = pv.length ∧ SgR p pv r ∧ (atZ pv p).natAbs ≤ (atZ r p).natAbs) → ∀ r ∈ src, (1 + ((atZ r p).fdiv (atZ pv p)).natAbs) * prd p (newA p pv src) ≤ prd p src
  | [], _, _, h => by cases h
  | a :: src, h, r, hr => by
    obtain ⟨l, sg, le⟩ := h a List.mem_cons_self
    have hs := fun x hx => h x (List.mem_cons_of_mem _ hx)
    have h0 : atZ pv p ≠ 0 := by rcases sg with ⟨_, q⟩ | ⟨_, q⟩ <;> omega
    have a0 : atZ a p ≠ 0 := by rcases sg with ⟨q, _⟩ | ⟨q, _⟩ <;> omega
    have nz : ∀ x ∈ src, atZ x p ≠ 0 := fun x hx => by
      rcases (hs x hx).2.1 with ⟨q, _⟩ | ⟨q, _⟩ <;> omega
    have lle := (newA_le (src := src) h0 fun x hx => ⟨(hs x hx).1, nz x hx, (hs x hx).2.2⟩).1
    have e := same_div sg
    show _ ≤ 2 * (atZ a p).natAbs * prd p src
    have ih : ∀ x ∈ src, (1 + ((atZ x p).fdiv (atZ pv p)).natAbs) * prd p (newA p pv src) ≤ prd p src := newA_grow hs
    have s1 : 1 ≤ (atZ pv p).natAbs := by omega
    have q1 : ((atZ a p).fdiv (atZ pv p)).natAbs * 1 ≤ ((atZ a p).fdiv (atZ pv p)).natAbs * (atZ pv p).natAbs := Nat.mul_le_mul_left _ s1
    by_cases z : (atZ a p).fmod (atZ pv p) = 0
    · rw [newA_cons0 l z]
      rcases List.mem_cons.mp hr with e1 | e1
      · rw [e1]
        exact Nat.mul_le_mul (by omega) lle
      · refine Nat.le_trans (ih r e1) ?_
        have : 1 * prd p src ≤ 2 * (atZ a p).natAbs * prd p src := Nat.mul_le_mul_right _ (by omega)
        omega
    · rw [newA_cons1 l z]
      show _ * (2 * (atZ (elimR p pv a) p).natAbs * _) ≤ _
      rw [elim_p l]
      have sm := (fmod_small (m := atZ a p) h0).1
      rcases List.mem_cons.mp hr with e1 | e1
      · rw [e1, ← Nat.mul_assoc]
        refine Nat.mul_le_mul ?_ lle
        have b1 : ((atZ a p).fdiv (atZ pv p)).natAbs * ((atZ a p).fmod (atZ pv p)).natAbs ≤ ((atZ a p).fdiv (atZ pv p)).natAbs * (atZ pv p).natAbs := Nat.mul_le_mul_left _ (by omega)
        rw [Nat.mul_left_comm, Nat.add_mul, Nat.one_mul]
        omega
      · rw [Nat.mul_left_comm]
        exact Nat.mul_le_mul (by omega) (ih r e1)
end
end Crt
end

section
/-! cleared ends, and its rows stay small: the loop. -/
set_option autoImplicit false
namespace Crt
section
variable {w p : Nat} {act oth : List (List Int)}
theorem filt_len {α : Type} (f : α → Bool) : ∀ l : List α, (l.filter fun x => !f x).length + (l.filter f).length = l.length
  | [] => rfl
  | x :: l => by
    have ih := filt_len f l
    rw [List.filter_cons, List.filter_cons]
    cases f x
    · rw [if_neg Bool.false_ne_true, if_pos (show (!false) = true from rfl), List.length_cons, List.length_cons]
      omega
    · rw [if_pos rfl, if_neg (show ¬ (!true) = true by decide), List.length_cons, List.length_cons]
      omega
theorem cl_len (hne : act ≠ []) : (clA p act).length + (clO p act oth).length = act.length + oth.length := by
  have hp := headR_mem (p := p) hne
  have e := (src_perm hp).length_eq
  have e2 := filt_len (fun r : List Int => decide (atZ r p = 0)) (chgR p (headR p act) act)
  have e3 : (chgR p (headR p act) act).length = (srcR (headR p act) act).length := by rw [chg_src, List.length_map]
  unfold clA clO
  rw [List.length_cons, List.length_append]
  rw [List.length_cons] at e
  omega
theorem clA_prd : prd p (clA p act) = 2 * (atZ (headR p act) p).natAbs * prd p (newA p (headR p act) (srcR (headR p act) act)) := rfl
theorem act_prd (hne : act ≠ []) : prd p act = 2 * (atZ (headR p act) p).natAbs * prd p (srcR (headR p act) act) := (prd_perm (src_perm (headR_mem (p := p) hne))).symm
theorem src_mem {pv r : List Int} (hp : pv ∈ act) (h : r ∈ srcR pv act) : r ∈ act := (src_perm hp).mem_iff.mp (List.mem_cons_of_mem _ h)
theorem cl_lt (h2 : 1 < act.length) (nz : ∀ r ∈ act, atZ r p ≠ 0) (la : ∀ r ∈ act, r.length = w) : prd p (clA p act) < prd p act := by
  have hne : act ≠ [] := fun e => by rw [e] at h2; exact absurd h2 (by decide)
  have hp := headR_mem (p := p) hne
  rw [clA_prd, act_prd hne]
  have h0 := nz _ hp
  have hs : srcR (headR p act) act ≠ [] := fun e => by
    have z := (src_perm hp).length_eq
    rw [e, List.length_cons, List.length_nil] at z
    omega
  have z := (newA_le (p := p) h0 fun r hr => ⟨(la r (src_mem hp hr)).trans (la _ hp).symm, nz r (src_mem hp hr), headR_le (src_mem hp hr)⟩).2 hs
  exact Nat.mul_lt_mul_of_pos_left z (by omega)
/-- of one sign -/
def SameSg (p : Nat) (act : List (List Int)) : Prop := (∀ r ∈ act, 0 < atZ r p) ∨ ∀ r ∈ act, atZ r p < 0
/-- small, against the product -/
def InvP (p Ψ : Nat) (act oth : List (List Int)) : Prop := ∀ r ∈ act ++ oth, ∀ i, (atZ r i).natAbs * prd p act ≤ Ψ
theorem cl_sg (hne : act ≠ []) (nz : ∀ r ∈ act, atZ r p ≠ 0) (la : ∀ r ∈ act, r.length = w) : SameSg p (clA p act) := by
  have hp := headR_mem (p := p) hne
  have h0 := nz _ hp
  have st : ∀ r ∈ (chgR p (headR p act) act).filter fun r => !decide (atZ r p = 0), (0 < atZ (headR p act) p → 0 < atZ r p) ∧ (atZ (headR p act) p < 0 → atZ r p < 0) := fun r hr => by
    obtain ⟨hm, hz⟩ := List.mem_filter.mp hr
    obtain ⟨s, hs, rfl⟩ := chg_from hp hm
    have e := elim_p (p := p) ((la s hs).trans (la _ hp).symm)
    rw [e] at hz ⊢
    have z : (atZ s p).fmod (atZ (headR p act) p) ≠ 0 := by simpa using hz
    obtain ⟨_, a, b⟩ := fmod_small (m := atZ s p) h0
    exact ⟨fun q => by have := a q; omega, fun q => by have := b q; omega⟩
  rcases Int.lt_or_gt_of_ne h0 with q | q
  · refine .inr fun r hr => ?_
    rcases List.mem_cons.mp hr with e | e
    · rw [e]
      exact q
    · exact (st r e).2 q
  · refine .inl fun r hr => ?_
    rcases List.mem_cons.mp hr with e | e
    · rw [e]
      exact q
    · exact (st r e).1 q
theorem cl_nz (hne : act ≠ []) (nz : ∀ r ∈ act, atZ r p ≠ 0) : ∀ r ∈ clA p act, atZ r p ≠ 0 := fun r hr => by
  rcases List.mem_cons.mp hr with e | e
  · rw [e]
    exact nz _ (headR_mem hne)
  · simpa using (List.mem_filter.mp e).2
/-- what is in the new rows -/
theorem cl_from (hne : act ≠ []) {r : List Int} (hr : r ∈ clA p act ++ clO p act oth) : r = headR p act ∨ r ∈ oth ∨ ∃ s ∈ srcR (headR p act) act, r = elimR p (headR p act) s := by
  have ch : ∀ x ∈ chgR p (headR p act) act, ∃ s ∈ srcR (headR p act) act, x = elimR p (headR p act) s := fun x hx => by
    rw [chg_src] at hx
    obtain ⟨s, hs, e⟩ := List.mem_map.mp hx
    exact ⟨s, hs, e.symm⟩
  rcases List.mem_append.mp hr with h | h
  · rcases List.mem_cons.mp h with e | e
    · exact .inl e
    · exact .inr (.inr (ch r (List.mem_filter.mp e).1))
  · rcases List.mem_append.mp h with e | e
    · exact .inr (.inl e)
    · exact .inr (.inr (ch r (List.mem_filter.mp e).1))
theorem cl_lens (hne : act ≠ []) (la : ∀ r ∈ act, r.length = w) (lo : ∀ r ∈ oth, r.length = w) : ∀ r ∈ clA p act ++ clO p act oth, r.length = w := fun r hr => by
  have hp := headR_mem (p := p) hne
  rcases cl_from hne hr with e | e | ⟨s, hs, e⟩
  · rw [e]
    exact la _ hp
  · exact lo r e
  · have ls := la s (src_mem hp hs)
    rw [e, elimR_axpy, axpy_len (ls.trans (la _ hp).symm), ls]
theorem cl_inv {Ψ : Nat} (hne : act ≠ []) (sg : SameSg p act) (la : ∀ r ∈ act, r.length = w) (I : InvP p Ψ act oth) : InvP p Ψ (clA p act) (clO p act oth) := by
  have hp := headR_mem (p := p) hne
  have nz : ∀ r ∈ act, atZ r p ≠ 0 := fun r hr => by
    rcases sg with q | q
    · have := q r hr; omega
    · have := q r hr; omega
  have h0 := nz _ hp
  have hsg : ∀ r ∈ act, SgR p (headR p act) r := fun r hr => by
    rcases sg with q | q
    · exact .inl ⟨q r hr, q _ hp⟩
    · exact .inr ⟨q r hr, q _ hp⟩
  have le : prd p (clA p act) ≤ prd p act := by
    rw [clA_prd, act_prd hne]
    exact Nat.mul_le_mul_left _ (newA_le (p := p) h0 fun r hr => ⟨(la r (src_mem hp hr)).trans (la _ hp).symm, nz r (src_mem hp hr), headR_le (src_mem hp hr)⟩).1
  intro r hr i
  rcases cl_from hne hr with e | e | ⟨s, hs, e⟩
  · rw [e]
    exact Nat.le_trans (Nat.mul_le_mul_left _ le) (I _ (List.mem_append_left _ hp) i)
  · exact Nat.le_trans (Nat.mul_le_mul_left _ le) (I r (List.mem_append_right _ e) i)
  · have sm := src_mem hp hs
    have ls : s.length = (headR p act).length := (la s sm).trans (la _ hp).symm
    have gr := newA_grow (p := p) (pv := headR p act) (src := srcR (headR p act) act) (fun x hx => ⟨(la x (src_mem hp hx)).trans (la _ hp).symm, hsg x (src_mem hp hx), headR_le (src_mem hp hx)⟩) s hs
    have g2 : (1 + ((atZ s p).fdiv (atZ (headR p act) p)).natAbs) * prd p (clA p act) ≤ prd p act := by
      rw [clA_prd, act_prd hne, Nat.mul_left_comm]
      exact Nat.mul_le_mul_left _ gr
    have b := elim_i (p := p) (pv := headR p act) (i := i) ls
    rw [e]
    generalize ((atZ s p).fdiv (atZ (headR p act) p)).natAbs = q at b g2
    have i1 := I s (List.mem_append_left _ sm) i
    have i2 := I _ (List.mem_append_left _ hp) i
    generalize (atZ s i).natAbs = x at b i1
    generalize (atZ (headR p act) i).natAbs = y at b i2
    have b2 : (atZ (elimR p (headR p act) s) i).natAbs ≤ (1 + q) * max x y := by
      have h1 : q * y ≤ q * max x y := Nat.mul_le_mul_left _ (Nat.le_max_right _ _)
      have h2 : x ≤ max x y := Nat.le_max_left _ _
      rw [Nat.add_mul, Nat.one_mul]
      omega
    have h3 : max x y * prd p act ≤ Ψ := by
      rcases Nat.le_total x y with z | z
      · rw [Nat.max_eq_right z]
        exact i2
      · rw [Nat.max_eq_left z]
        exact i1
    refine Nat.le_trans (Nat.mul_le_mul_right _ b2) (Nat.le_trans ?_ h3)
    rw [Nat.mul_comm (1 + q), Nat.mul_assoc]
    exact Nat.mul_le_mul_left _ g2
end
theorem log2_lt {n k : Nat} (h : n < 2 ^ k) (hk : 0 < k) : n.log2 < k := by
  by_cases z : n = 0
  · rw [z]
    exact hk
  · exact (Nat.log2_lt z).mpr h
theorem mem_at {r : List Int} {b : Int} (h : b ∈ r) : ∃ i, b = atZ r i := by
  obtain ⟨i, hi, e⟩ := List.mem_iff_getElem.mp h
  have z := atZ_get hi
  rw [List.getElem?_eq_getElem hi] at z
  exact ⟨i, by rw [← e]; exact Option.some.inj z⟩
/-- entries below 2 ^ e -/
def Sm (e : Nat) (l : List (List Int)) : Prop := ∀ r ∈ l, ∀ i, (atZ r i).natAbs ≤ 2 ^ e
theorem Sm.up {e f : Nat} {l : List (List Int)} (h : Sm e l) (k : e ≤ f) : Sm f l := fun r hr i => Nat.le_trans (h r hr i) (Nat.pow_le_pow_right (by decide) k)
theorem Sm.sub {e : Nat} {l m : List (List Int)} (h : Sm e l) (s : ∀ r ∈ m, r ∈ l) : Sm e m := fun r hr => h r (s r hr)
theorem stbd_of {p e : Nat} {act : List (List Int)} (hne : act ≠ []) (nz : ∀ r ∈ act, atZ r p ≠ 0) (h : Sm e act) (he : e < 8000) : StBd p act := by
  have hp := headR_mem (p := p) hne
  have pw : (2 : Nat) ^ e < 2 ^ (e + 1) := Nat.pow_lt_pow_right (by decide) (Nat.lt_succ_self e)
  intro r hr
  refine ⟨⟨nz _ hp, Nat.lt_trans (log2_lt (k := e + 1) (Nat.lt_of_le_of_lt (h _ hp p) pw) (Nat.succ_pos _)) (by omega)⟩, fun b hb => ?_⟩
  obtain ⟨i, rfl⟩ := mem_at hb
  have q1 := fdiv_small (m := atZ r p) (nz _ hp)
  have q2 := h r hr p
  have pw2 : (2 : Nat) ^ e + 1 < 2 ^ (e + 2) := by
    rw [Nat.pow_add]
    have : 1 ≤ 2 ^ e := Nat.one_le_two_pow
    omega
  have l1 : (-((atZ r p).fdiv (atZ (headR p act) p))).natAbs.log2 < e + 2 := log2_lt (by rw [Int.natAbs_neg]; omega) (Nat.succ_pos _)
  have l2 : (atZ (headR p act) i).natAbs.log2 < e + 1 := log2_lt (Nat.lt_of_le_of_lt (h _ hp i) pw) (Nat.succ_pos _)
  show _ + _ < 1000000
  omega
theorem inv_sm {p e : Nat} {act oth : List (List Int)} (nz : ∀ r ∈ act, atZ r p ≠ 0) (I : InvP p (2 ^ e) act oth) : Sm e (act ++ oth) := fun r hr i => by
  have a := I r hr i
  have b : (atZ r i).natAbs * 1 ≤ (atZ r i).natAbs * prd p act := Nat.mul_le_mul_left _ (prd_pos nz)
  omega
/-- from one sign on -/
theorem clok_ex {w p e : Nat} (he : e < 8000) : ∀ (n : Nat) (act oth : List (List Int)), prd p act ≤ n → act.length + oth.length ≤ 1000 → (∀ r ∈ act, r.length = w) → (∀ r ∈ oth, r.length = w) → SameSg p act → InvP p (2 ^ e) act oth →
    ∃ a' o', ClOk w p n act oth a' o' ∧ Sm e (a' ++ o') ∧ a'.length + o'.length = act.length + oth.length ∧ (act ≠ [] → a' ≠ [])
  | 0, act, oth, h, _, _, _, sg, _ => by
    have nz : ∀ r ∈ act, atZ r p ≠ 0 := fun r hr => by
      rcases sg with q | q
      · have := q r hr; omega
      · have := q r hr; omega
    have := prd_pos nz
    omega
  | n + 1, act, oth, h, hl, la, lo, sg, I => by
    have nz : ∀ r ∈ act, atZ r p ≠ 0 := fun r hr => by
      rcases sg with q | q
      · have := q r hr; omega
      · have := q r hr; omega
    have st : StOk w p act oth := ⟨by omega, by omega, la, lo⟩
    by_cases h1 : act.length ≤ 1
    · exact ⟨act, oth, ⟨st, .inl ⟨h1, rfl, rfl⟩⟩, inv_sm nz I, rfl, id⟩
    · have h2 : 1 < act.length := by omega
      have hne : act ≠ [] := fun e => by rw [e] at h2; exact absurd h2 (by decide)
      have lt := cl_lt h2 nz la
      have ln := cl_len (p := p) (oth := oth) hne
      have ls := cl_lens (p := p) hne la lo
      obtain ⟨a', o', c1, c2, c3, c4⟩ := clok_ex he n (clA p act) (clO p act oth) (by omega) (by omega) (fun r hr => ls r (List.mem_append_left _ hr)) (fun r hr => ls r (List.mem_append_right _ hr)) (cl_sg hne nz la) (cl_inv hne sg la I)
      exact ⟨a', o', ⟨st, .inr ⟨h2, stbd_of hne nz ((inv_sm nz I).sub fun r hr => List.mem_append_left _ hr) he, c1⟩⟩, c2, by omega, fun _ => c4 (fun z => by have := congrArg List.length z; exact absurd this (by unfold clA; simp))⟩
end Crt
end

section
/-! cleared is there, with small rows. -/
set_option autoImplicit false
namespace Crt
theorem prd_le {p e : Nat} : ∀ {l : List (List Int)}, Sm e l → prd p l ≤ 2 ^ ((e + 1) * l.length)
  | [], _ => by
    show 1 ≤ _
    exact Nat.one_le_two_pow
  | r :: l, h => by
    have ih := prd_le (p := p) (h.sub fun x hx => List.mem_cons_of_mem r hx)
    have a := h r List.mem_cons_self p
    show 2 * (atZ r p).natAbs * prd p l ≤ _
    rw [List.length_cons, Nat.mul_add, Nat.mul_one, Nat.pow_add, Nat.mul_comm (2 ^ ((e + 1) * l.length))]
    refine Nat.mul_le_mul ?_ ih
    rw [Nat.pow_succ]
    omega
theorem negR_at (r : List Int) (i : Nat) : atZ (negR r) i = -atZ r i := by
  rw [negR_axpy, axpy_at rfl]
  omega
theorem cleared_ex {w p e : Nat} {rows : List (List Int)} (he : 1 < rows.length → 6 * e + 6 < 8000) (hn : rows.length ≤ 4) (la : ∀ r ∈ rows, r.length = w) (sm : Sm e rows) :
    ∃ piv oth, Cleared w p rows piv oth ∧ (piv = none → oth.length = rows.length ∧ Sm e oth) ∧ ∀ q, piv = some q → oth.length + 1 = rows.length ∧ (1 < rows.length → Sm (6 * e + 6) (q :: oth)) ∧ (rows.length ≤ 1 → Sm e (q :: oth)) := by
  have fl := filt_len (fun r : List Int => decide (atZ r p = 0)) rows
  have sa : Sm e (rows.filter fun r => !decide (atZ r p = 0)) := sm.sub fun r hr => (List.mem_filter.mp hr).1
  have so : Sm e (rows.filter fun r => decide (atZ r p = 0)) := sm.sub fun r hr => (List.mem_filter.mp hr).1
  have nz : ∀ r ∈ rows.filter fun r => !decide (atZ r p = 0), atZ r p ≠ 0 := fun r hr => by simpa using (List.mem_filter.mp hr).2
  have zo : ∀ r ∈ rows.filter fun r => decide (atZ r p = 0), atZ r p = 0 := fun r hr => by simpa using (List.mem_filter.mp hr).2
  have lA : ∀ r ∈ rows.filter fun r => !decide (atZ r p = 0), r.length = w := fun r hr => la r (List.mem_filter.mp hr).1
  have lO : ∀ r ∈ rows.filter fun r => decide (atZ r p = 0), r.length = w := fun r hr => la r (List.mem_filter.mp hr).1
  have ng : ∀ {f : Nat} {r : List Int}, (∀ i, (atZ r i).natAbs ≤ 2 ^ f) → ∀ i, (atZ (if 0 < atZ r p then r else negR r) i).natAbs ≤ 2 ^ f := fun {f r} h i => by
    by_cases z : 0 < atZ r p
    · rw [if_pos z]
      exact h i
    · rw [if_neg z, negR_at, Int.natAbs_neg]
      exact h i
  unfold Cleared
  generalize (rows.filter fun r => !decide (atZ r p = 0)) = act at *
  generalize (rows.filter fun r => decide (atZ r p = 0)) = oth at *
  have st : StOk w p act oth := ⟨by omega, by omega, lA, lO⟩
  by_cases h1 : act.length ≤ 1
  · refine ⟨pivOf p act, oth, ⟨by omega, la, 0, act, ⟨st, h1, rfl, rfl⟩, rfl⟩, fun z => ?_, fun q z => ?_⟩
    · cases act with
      | nil => exact ⟨by simpa using fl, so⟩
      | cons a l => cases z
    · cases act with
      | nil => cases z
      | cons a l =>
        have l0 : l = [] := by
          cases l with
          | nil => rfl
          | cons _ _ => exact absurd h1 (by simp)
        subst l0
        have e1 : q = if 0 < atZ a p then a else negR a := (Option.some.inj z).symm
        have sq : Sm e (q :: oth) := fun r hr => by
          rcases List.mem_cons.mp hr with y | y
          · rw [y, e1]
            exact ng fun i => sa a List.mem_cons_self i
          · exact so r y
        refine ⟨?_, fun _ => sq.up (by omega), fun _ => sq⟩
        rw [List.length_cons, List.length_nil] at fl
        omega
  · have h2 : 1 < act.length := by omega
    have hne : act ≠ [] := fun z => by rw [z] at h2; exact absurd h2 (by decide)
    have hr1 : 1 < rows.length := by omega
    have he2 := he hr1
    have hp := headR_mem (p := p) hne
    have lt := cl_lt h2 nz lA
    have ln := cl_len (p := p) (oth := oth) hne
    have ls := cl_lens (p := p) hne lA lO
    have pb : prd p (clA p act) ≤ 2 ^ ((e + 1) * 4) := by
      refine Nat.le_trans (Nat.le_of_lt lt) (Nat.le_trans (prd_le sa) (Nat.pow_le_pow_right (by decide) (Nat.mul_le_mul_left _ (by omega))))
    have inv : InvP p (2 ^ (6 * e + 6)) (clA p act) (clO p act oth) := fun r hr i => by
      have e1 : 1 ≤ 2 ^ e := Nat.one_le_two_pow
      have b : (atZ r i).natAbs ≤ 2 ^ (2 * e + 2) := by
        have p2 : (2 : Nat) ^ (2 * e + 2) = 4 * (2 ^ e * 2 ^ e) := by
          rw [show 2 * e + 2 = (e + e) + 2 by omega, Nat.pow_add, Nat.pow_add]
          omega
        have p3 : 2 ^ e * 1 ≤ 2 ^ e * 2 ^ e := Nat.mul_le_mul_left _ e1
        rw [p2]
        rcases cl_from hne hr with q | q | ⟨s, hs, q⟩
        · rw [q]
          have := sa _ hp i
          omega
        · have := so r q i
          omega
        · have sm2 := src_mem hp hs
          have ls2 : s.length = (headR p act).length := (lA s sm2).trans (lA _ hp).symm
          rw [q]
          have b1 := elim_i (p := p) (pv := headR p act) (i := i) ls2
          have b2 := sa s sm2 i
          have b3 := fdiv_small (m := atZ s p) (nz _ hp)
          have b4 := sa s sm2 p
          have b5 : ((atZ s p).fdiv (atZ (headR p act) p)).natAbs * (atZ (headR p act) i).natAbs ≤ (2 ^ e + 1) * 2 ^ e := Nat.mul_le_mul (by omega) (sa _ hp i)
          rw [Nat.add_mul, Nat.one_mul] at b5
          omega
      refine Nat.le_trans (Nat.mul_le_mul b pb) ?_
      rw [← Nat.pow_add]
      exact Nat.pow_le_pow_right (by decide) (by omega)
    obtain ⟨a', o', c1, c2, c3, c4⟩ := clok_ex he2 _ (clA p act) (clO p act oth) (Nat.le_refl _) (by omega) (fun r hr => ls r (List.mem_append_left _ hr)) (fun r hr => ls r (List.mem_append_right _ hr)) (cl_sg hne nz lA) inv
    have a1 := c4 (fun z => by have := congrArg List.length z; exact absurd this (by unfold clA; simp))
    have c0 : ClOk w p (prd p (clA p act) + 1) act oth a' o' := ⟨st, .inr ⟨h2, stbd_of hne nz sa (by omega), c1⟩⟩
    obtain ⟨d1, _, _⟩ := clok_end c0 nz zo
    refine ⟨pivOf p a', o', ⟨by omega, la, _, a', c0, rfl⟩, fun z => ?_, fun q z => ?_⟩
    · cases a' with
      | nil => exact absurd rfl a1
      | cons _ _ => cases z
    · cases a' with
      | nil => cases z
      | cons a l =>
        have l0 : l = [] := by
          cases l with
          | nil => rfl
          | cons _ _ => exact absurd d1 (by simp)
        subst l0
        have e1 : q = if 0 < atZ a p then a else negR a := (Option.some.inj z).symm
        refine ⟨?_, fun _ r hr => ?_, fun z => by omega⟩
        · rw [List.length_cons, List.length_nil] at c3
          omega
        · rcases List.mem_cons.mp hr with y | y
          · rw [y, e1]
            exact ng fun i => c2 a (List.mem_append_left _ List.mem_cons_self) i
          · exact c2 r (List.mem_append_right _ y)
/-- how large, by the rows left -/
def gex : Nat → Nat
  | 0 => 4578
  | 1 => 4578
  | 2 => 762
  | 3 => 126
  | _ => 20
theorem gex_le : ∀ {m : Nat}, m ≤ 3 → gex (m + 1) ≤ gex m ∧ (1 ≤ m → 6 * gex (m + 1) + 6 ≤ gex m) ∧ gex m ≤ 4578
  | 0, _ => by decide
  | 1, _ => by decide
  | 2, _ => by decide
  | 3, _ => by decide
  | n + 4, h => by omega
theorem gex_ok : ∀ {m : Nat}, m ≤ 4 → (1 < m → 6 * gex m + 6 < 8000) ∧ gex m ≤ 4578
  | 0, _ => by decide
  | 1, _ => by decide
  | 2, _ => by decide
  | 3, _ => by decide
  | 4, _ => by decide
  | n + 5, h => by omega
theorem tri_ex {w : Nat} {rows : List (List Int)} (hn : rows.length ≤ 4) (la : ∀ r ∈ rows, r.length = w) (sm : Sm 20 rows) :
    ∀ n, ∃ b r, TriRel w rows n b r ∧ b.length + r.length ≤ 4 ∧ Sm (gex r.length) r ∧ Sm 4578 b ∧ ∀ s ∈ r, s.length = w
  | 0 => by
    refine ⟨[], rows, ⟨rfl, rfl⟩, by rw [List.length_nil]; omega, sm.up ?_, (fun _ h => by cases h), la⟩
    have : ∀ m, m ≤ 4 → 20 ≤ gex m := fun m h => by
      match m, h with
      | 0, _ => decide
      | 1, _ => decide
      | 2, _ => decide
      | 3, _ => decide
      | 4, _ => decide
    exact this _ hn
  | n + 1 => by
    obtain ⟨b, r, t, hl, sr, sb, lr⟩ := tri_ex hn la sm n
    obtain ⟨piv, oth, c, c0, c1⟩ := cleared_ex (p := n) (gex_ok (show r.length ≤ 4 by omega)).1 (by omega) lr sr
    refine ⟨addP piv b, oth, ⟨b, r, piv, t, c, rfl⟩, ?_⟩
    cases piv with
    | none =>
      obtain ⟨e1, e2⟩ := c0 rfl
      refine ⟨by show b.length + _ ≤ 4; omega, by rw [e1]; exact e2, sb, fun s hs => ((cleared_none c).2 s hs).2⟩
    | some q =>
      obtain ⟨e1, e2, e3⟩ := c1 q rfl
      have e4 : Sm (gex oth.length) (q :: oth) := by
        obtain ⟨g1, g2, _⟩ := gex_le (show oth.length ≤ 3 by omega)
        rw [← e1] at e2 e3
        by_cases z : 1 ≤ oth.length
        · exact (e2 (by omega)).up (g2 z)
        · exact (e3 (by omega)).up g1
      have g3 := (gex_ok (show oth.length ≤ 4 by omega)).2
      refine ⟨by show b.length + 1 + _ ≤ 4; omega, e4.sub fun x hx => List.mem_cons_of_mem _ hx, fun x hx => ?_, fun s hs => ((cleared_some c).2.2.2 s hs).2⟩
      rcases List.mem_cons.mp hx with y | y
      · rw [y]
        exact (e4.up g3) q List.mem_cons_self
      · exact sb x y
end Crt
end

section
/-! Reducing stays below sizes that can be reckoned. -/
set_option autoImplicit false
namespace Crt
/-- a row with a positive first entry that may divide -/
def PvOk (w : Nat) (r : List Int) : Prop := r.length = w ∧ ∃ p, fstNz r = some p ∧ 0 < atZ r p ∧ (atZ r p).natAbs.log2 < 9000
theorem redBy_bd {w c : Nat} : ∀ {basis : List (List Int)} {f : List Int} {e : Nat}, (∀ r ∈ basis, PvOk w r) → Sm c basis → f.length = w → (∀ i, (atZ f i).natAbs ≤ 2 ^ e) → e + basis.length * (c + 2) + c < 900000 →
    RedOk w basis f ∧ ∀ i, (atZ (redBy basis f) i).natAbs ≤ 2 ^ (e + basis.length * (c + 2))
  | [], f, e, _, _, _, hf, _ => ⟨True.intro, fun i => by
    rw [List.length_nil, Nat.zero_mul]
    exact hf i⟩
  | r :: rs, f, e, pv, sc, lf, hf, hb => by
    obtain ⟨lr, p, hp, h0, h9⟩ := pv r List.mem_cons_self
    have lfr := lf.trans lr.symm
    rw [List.length_cons, Nat.add_mul, Nat.one_mul] at hb ⊢
    have q1 := fdiv_small (m := atZ f p) (s := atZ r p) (by omega)
    have q2 := hf p
    have e1 : 1 ≤ 2 ^ e := Nat.one_le_two_pow
    have q3 : ((atZ f p).fdiv (atZ r p)).natAbs ≤ 2 ^ e + 1 := by omega
    have es := redStep_axpy (f := f) hp
    have nf : ∀ i, (atZ (redStep f r) i).natAbs ≤ 2 ^ (e + (c + 2)) := fun i => by
      rw [es, axpy_at lfr, Int.neg_mul]
      have b1 : ((atZ f p).fdiv (atZ r p) * atZ r i).natAbs ≤ (2 ^ e + 1) * 2 ^ c := by
        rw [Int.natAbs_mul]
        exact Nat.mul_le_mul q3 (sc r List.mem_cons_self i)
      have b2 := hf i
      have p2 : (2 : Nat) ^ (e + (c + 2)) = 4 * (2 ^ e * 2 ^ c) := by
        rw [Nat.pow_add, Nat.pow_add, Nat.mul_comm (2 ^ c), Nat.mul_left_comm]
      have c1 : 1 ≤ 2 ^ c := Nat.one_le_two_pow
      have p3 : 2 ^ e * 1 ≤ 2 ^ e * 2 ^ c := Nat.mul_le_mul_left _ c1
      have p4 : 1 * 2 ^ c ≤ 2 ^ e * 2 ^ c := Nat.mul_le_mul_right _ e1
      rw [Nat.add_mul] at b1
      rw [p2]
      omega
    have lf2 : (redStep f r).length = w := by rw [es, axpy_len lfr, lf]
    obtain ⟨k1, k2⟩ := redBy_bd (e := e + (c + 2)) (fun x hx => pv x (List.mem_cons_of_mem _ hx)) (sc.sub fun x hx => List.mem_cons_of_mem _ hx) lf2 nf (by omega)
    refine ⟨⟨⟨lf, lr, p, hp, ⟨by omega, h9⟩, fun b hb2 => ?_⟩, k1⟩, fun i => ?_⟩
    · obtain ⟨i, rfl⟩ := mem_at hb2
      have l1 : (-((atZ f p).fdiv (atZ r p))).natAbs.log2 < e + 2 := log2_lt (by rw [Int.natAbs_neg, Nat.pow_add]; omega) (Nat.succ_pos _)
      have l2 : (atZ r i).natAbs.log2 < c + 1 := log2_lt (Nat.lt_of_le_of_lt (sc r List.mem_cons_self i) (Nat.pow_lt_pow_right (by decide) (Nat.lt_succ_self c))) (Nat.succ_pos _)
      show _ + _ < 1000000
      omega
    · have z := k2 i
      rw [show e + (c + 2) + rs.length * (c + 2) = e + (rs.length * (c + 2) + (c + 2)) by omega] at z
      exact z
/-- how large the reduced rows are -/
def cex : Nat → Nat
  | 0 => 4578
  | 1 => 4578
  | 2 => 9158
  | 3 => 22898
  | _ => 73278
theorem cex_ok : ∀ {m : Nat}, m ≤ 3 → cex m ≤ cex (m + 1) ∧ 4578 + m * (cex m + 2) ≤ cex (m + 1) ∧ 4578 + m * (cex m + 2) + cex m < 900000
  | 0, _ => by decide
  | 1, _ => by decide
  | 2, _ => by decide
  | 3, _ => by decide
  | n + 4, h => by omega
theorem raok_ex {w : Nat} : ∀ {b acc : List (List Int)} {k : Nat}, EchD w k b → Ech w k acc → acc.length + b.length ≤ 4 → Sm 4578 b → (∀ r ∈ acc, PvOk w r) → Sm (cex acc.length) acc →
    RAOk w acc b ∧ Sm (cex (acc.length + b.length)) (b.foldl (fun acc row => redBy acc row :: acc) acc) ∧ (∀ r ∈ b.foldl (fun acc row => redBy acc row :: acc) acc, PvOk w r) ∧ (b.foldl (fun acc row => redBy acc row :: acc) acc).length = acc.length + b.length
  | [], acc, k, _, _, _, _, pv, sa => ⟨True.intro, sa, pv, rfl⟩
  | q :: b, acc, k, ⟨p, hk, hp, h0, hl, hb⟩, he, hn, sb, pv, sa => by
    rw [List.length_cons] at hn ⊢
    have sq := sb q List.mem_cons_self
    obtain ⟨x1, x2, x3⟩ := cex_ok (show acc.length ≤ 3 by omega)
    obtain ⟨ok, bd⟩ := redBy_bd (f := q) pv sa hl sq x3
    have c : Cg w acc q (redBy acc q) := redBy_cg (fun r hr => ⟨hr, he.lens r hr⟩) hl
    have same : ∀ i, i < k → atZ (redBy acc q) i = atZ q i := fun i hi => c.at_ fun r hr => he.low hr hi
    have e1 : atZ (redBy acc q) p = atZ q p := same p hk
    have e2 : fstNz (redBy acc q) = some p := fst_is (fun i hi => by rw [same i (by omega)]; exact fst_zero hp hi) (by rw [e1]; omega)
    have hn2 : Ech w p (redBy acc q :: acc) := ⟨p, Nat.le_refl p, e2, by rw [e1]; exact h0, c.len.2, he.down (by omega)⟩
    have l9 : (atZ q p).natAbs.log2 < 9000 := Nat.lt_trans (log2_lt (k := 4579) (Nat.lt_of_le_of_lt (sq p) (Nat.pow_lt_pow_right (by decide) (by decide))) (by decide)) (by decide)
    have pv2 : ∀ r ∈ redBy acc q :: acc, PvOk w r := fun r hr => by
      rcases List.mem_cons.mp hr with y | y
      · rw [y]
        exact ⟨c.len.2, p, e2, by rw [e1]; exact h0, by rw [e1]; exact l9⟩
      · exact pv r y
    have sa2 : Sm (cex (acc.length + 1)) (redBy acc q :: acc) := fun r hr i => by
      rcases List.mem_cons.mp hr with y | y
      · rw [y]
        exact Nat.le_trans (bd i) (Nat.pow_le_pow_right (by decide) x2)
      · exact (sa.up x1) r y i
    obtain ⟨r1, r2, r3, r4⟩ := raok_ex hb hn2 (by rw [List.length_cons]; omega) (sb.sub fun x hx => List.mem_cons_of_mem _ hx) pv2 sa2
    rw [List.length_cons] at r2 r4
    refine ⟨⟨ok, r1⟩, ?_, r3, ?_⟩
    · rw [show acc.length + (b.length + 1) = acc.length + 1 + b.length by omega]
      exact r2
    · exact r4.trans (by omega)
end Crt
end

section
/-! A tight bound: what the pivots' places tell of the others. -/
set_option autoImplicit false
namespace Crt
/-- e's entry at p times x, less x's entry at p times e -/
def elT (p : Nat) (e x : List Int) : List Int := (x.zip e).map fun q => atZ e p * q.1 - atZ x p * q.2
theorem elT_len {p : Nat} {e x : List Int} (h : x.length = e.length) : (elT p e x).length = x.length := by
  unfold elT
  rw [List.length_map, List.length_zip, h, Nat.min_self]
theorem elT_at {p : Nat} {e x : List Int} (h : x.length = e.length) (i : Nat) : atZ (elT p e x) i = atZ e p * atZ x i - atZ x p * atZ e i := by
  by_cases hi : i < x.length
  · have e1 := atZ_get hi
    have e2 := atZ_get (show i < e.length by omega)
    have e3 : (elT p e x)[i]? = some (atZ e p * atZ x i - atZ x p * atZ e i) := by
      unfold elT
      have e5 : (x.zip e)[i]? = some (atZ x i, atZ e i) := List.getElem?_zip_eq_some.mpr ⟨e1, e2⟩
      rw [List.getElem?_map, e5]
      rfl
    have e4 := atZ_get (show i < (elT p e x).length by rw [elT_len h]; exact hi)
    rw [e3] at e4
    exact (Option.some.inj e4).symm
  · rw [atZ_lt (u := elT p e x) (by rw [elT_len h]; exact hi), atZ_lt hi, atZ_lt (u := e) (i := i) (by omega)]
    simp
theorem elT_in {w p : Nat} {rows : List (List Int)} {e x : List Int} (he : e.length = w) (h : InSp w rows x) : InSp w (rows.map (elT p e)) (elT p e x) := by
  unfold InSp at h
  induction h with
  | refl _ =>
    have z : elT p e (zer w) = zer w := by
      have l := (zer_len w).trans he.symm
      refine row_ext (elT_len l) fun i _ => ?_
      rw [elT_at l, zer_at, zer_at]
      simp
    rw [z]
    exact .refl (zer_len w)
  | @step v r c k hm hr ih =>
    have lv := k.len.2
    have lvr := lv.trans hr.symm
    have lr : r.length = e.length := hr.trans he.symm
    have la := axpy_len (c := c) lvr
    have z : elT p e (axpy v c r) = axpy (elT p e v) c (elT p e r) := by
      have l1 := elT_len (p := p) (e := e) (x := axpy v c r) (by omega)
      have l2 := elT_len (p := p) (e := e) (x := v) (by omega)
      have l3 := elT_len (p := p) (e := e) (x := r) lr
      have l4 := axpy_len (u := elT p e v) (r := elT p e r) (c := c) (by omega)
      refine row_ext (by omega) fun i _ => ?_
      rw [elT_at (by omega), axpy_at lvr, axpy_at lvr, axpy_at (by omega), elT_at (by omega), elT_at lr]
      rw [Int.mul_add, Int.add_mul, Int.mul_sub, Int.mul_left_comm (atZ e p) c, Int.mul_assoc c]
      omega
    rw [z]
    exact .step c ih (List.mem_map.mpr ⟨r, hm, rfl⟩) (by rw [elT_len lr, hr])
/-- y is one with its first place at q, small there -/
def FirstAt (w E : Nat) (B : List (List Int)) (q : Nat) : Prop := ∃ y, InSp w B y ∧ (∀ i, i < q → atZ y i = 0) ∧ atZ y q ≠ 0 ∧ (atZ y q).natAbs ≤ 2 ^ E
def bnd : Nat → Nat → Nat → Nat
  | 0, _, X => X
  | n + 1, e, X => bnd n (2 * e + 1) (X + e + 1) + 1
theorem bnd_ge : ∀ {n e X : Nat}, X ≤ bnd n e X
  | 0, _, _ => Nat.le_refl _
  | n + 1, e, X => by
    have := bnd_ge (n := n) (e := 2 * e + 1) (X := X + e + 1)
    show X ≤ bnd n _ _ + 1
    omega
theorem bnd_mono : ∀ {n e X f Y : Nat}, e ≤ f → X ≤ Y → bnd n e X ≤ bnd n f Y
  | 0, _, _, _, _, _, h => h
  | n + 1, e, X, f, Y, h1, h2 => Nat.succ_le_succ (bnd_mono (n := n) (show 2 * e + 1 ≤ 2 * f + 1 by omega) (show X + e + 1 ≤ Y + f + 1 by omega))
theorem tight {w E : Nat} {B : List (List Int)} : ∀ (n : Nat) {k e X : Nat} {rows : List (List Int)} {x : List Int}, k + n = w → (∀ r ∈ rows, r.length = w ∧ InSp w B r ∧ ∀ i, i < k → atZ r i = 0) → Sm e rows → (e + 1) * 2 ^ n ≤ E + 1 → InSp w rows x →
    (∀ q, k ≤ q → FirstAt w E B q → (atZ x q).natAbs ≤ 2 ^ X) → ∀ i, (atZ x i).natAbs ≤ 2 ^ bnd n e X
  | 0, k, e, X, rows, x, hk, hr, sm, hE, hx, hq, i => by
    have z : atZ x i = 0 := by
      rcases Nat.lt_or_ge i k with q | q
      · exact hx.zero fun s hs => (hr s hs).2.2 i q
      · have := hx.len.2
        exact atZ_lt (by omega)
    rw [z]
    exact Nat.zero_le _
  | n + 1, k, e, X, rows, x, hk, hr, sm, hE, hx, hq, i => by
    have pe : (e + 1) * 2 ^ (n + 1) = 2 * ((e + 1) * 2 ^ n) := by
      rw [Nat.pow_succ]
      rw [Nat.mul_comm (2 ^ n) 2, Nat.mul_left_comm]
    have p1 : 1 ≤ 2 ^ n := Nat.one_le_two_pow
    have p2 : (e + 1) * 1 ≤ (e + 1) * 2 ^ n := Nat.mul_le_mul_left _ p1
    by_cases hz : ∃ r ∈ rows, atZ r k ≠ 0
    · obtain ⟨y, hy, yk⟩ := hz
      obtain ⟨ly, yB, y0⟩ := hr y hy
      have ym := sm y hy
      have lx := hx.len.2
      have lxy : x.length = y.length := lx.trans ly.symm
      have first : FirstAt w E B k := ⟨y, yB, y0, yk, Nat.le_trans (ym k) (Nat.pow_le_pow_right (by decide) (by omega))⟩
      have xk := hq k (Nat.le_refl k) first
      have en : ∀ {z : List Int}, z.length = y.length → ∀ j, (atZ (elT k y z) j).natAbs ≤ (atZ y k).natAbs * (atZ z j).natAbs + (atZ z k).natAbs * (atZ y j).natAbs := fun {z} hz j => by
        rw [elT_at hz, ← Int.natAbs_mul, ← Int.natAbs_mul]
        omega
      have hr2 : ∀ r ∈ rows.map (elT k y), r.length = w ∧ InSp w B r ∧ ∀ i, i < k + 1 → atZ r i = 0 := fun r hr3 => by
        obtain ⟨s, hs, rfl⟩ := List.mem_map.mp hr3
        obtain ⟨ls, sB, s0⟩ := hr s hs
        have lsy : s.length = y.length := ls.trans ly.symm
        refine ⟨by rw [elT_len lsy, ls], ?_, fun j hj => ?_⟩
        · have z : elT k y s = axpy (axpy (zer w) (atZ y k) s) (-(atZ s k)) y := by
            have l0 := zer_len w
            have l1 := axpy_len (u := zer w) (r := s) (c := atZ y k) (by omega)
            have l2 := axpy_len (u := axpy (zer w) (atZ y k) s) (r := y) (c := -(atZ s k)) (by omega)
            refine row_ext (by rw [elT_len lsy]; omega) fun j _ => ?_
            rw [elT_at lsy, axpy_at (by omega), axpy_at (by omega), zer_at, Int.neg_mul]
            omega
          rw [z]
          exact Cg.trans (InSp.add (u := zer w) (atZ y k) (zer_len w) sB) (yB.add (-(atZ s k)) (by rw [axpy_len ((zer_len w).trans ls.symm), zer_len]))
        · rw [elT_at lsy]
          rcases Nat.lt_or_ge j k with q | q
          · rw [s0 j q, y0 j q]
            simp
          · obtain rfl : j = k := by omega
            rw [Int.mul_comm]
            omega
      have sm2 : Sm (2 * e + 1) (rows.map (elT k y)) := fun r hr3 j => by
        obtain ⟨s, hs, rfl⟩ := List.mem_map.mp hr3
        have ls := (hr s hs).1.trans ly.symm
        have b := en ls j
        have b1 : (atZ y k).natAbs * (atZ s j).natAbs ≤ 2 ^ e * 2 ^ e := Nat.mul_le_mul (ym k) (sm s hs j)
        have b2 : (atZ s k).natAbs * (atZ y j).natAbs ≤ 2 ^ e * 2 ^ e := Nat.mul_le_mul (sm s hs k) (ym j)
        rw [show 2 * e + 1 = e + e + 1 by omega, Nat.pow_succ, Nat.pow_add]
        omega
      have hq2 : ∀ q, k + 1 ≤ q → FirstAt w E B q → (atZ (elT k y x) q).natAbs ≤ 2 ^ (X + e + 1) := fun q hkq fq => by
        have b := en lxy q
        have b1 : (atZ y k).natAbs * (atZ x q).natAbs ≤ 2 ^ e * 2 ^ X := Nat.mul_le_mul (ym k) (hq q (by omega) fq)
        have b2 : (atZ x k).natAbs * (atZ y q).natAbs ≤ 2 ^ X * 2 ^ e := Nat.mul_le_mul xk (ym q)
        rw [Nat.mul_comm (2 ^ e)] at b1
        rw [Nat.pow_succ, Nat.pow_add]
        omega
      have ih := tight n (k := k + 1) (by omega) hr2 sm2 (by rw [show 2 * e + 1 + 1 = (e + 1) * 2 by omega, Nat.mul_right_comm]; omega) (elT_in (p := k) ly hx) hq2 i
      rw [elT_at lxy] at ih
      show _ ≤ 2 ^ (bnd n (2 * e + 1) (X + e + 1) + 1)
      have g := bnd_ge (n := n) (e := 2 * e + 1) (X := X + e + 1)
      have b2 : (atZ x k).natAbs * (atZ y i).natAbs ≤ 2 ^ X * 2 ^ e := Nat.mul_le_mul xk (ym i)
      rw [← Nat.pow_add] at b2
      have b3 : 2 ^ (X + e) ≤ 2 ^ bnd n (2 * e + 1) (X + e + 1) := Nat.pow_le_pow_right (by decide) (by omega)
      have b4 : 1 * (atZ x i).natAbs ≤ (atZ y k).natAbs * (atZ x i).natAbs := Nat.mul_le_mul_right _ (by omega)
      rw [← Int.natAbs_mul] at b2 b4
      rw [Nat.pow_succ]
      omega
    · have z0 : ∀ r ∈ rows, atZ r k = 0 := fun r h => by
        rcases Decidable.em (atZ r k = 0) with q | q
        · exact q
        · exact absurd ⟨r, h, q⟩ hz
      have ih := tight n (k := k + 1) (e := e) (by omega) (fun r h => ⟨(hr r h).1, (hr r h).2.1, fun i hi => by
        rcases Nat.lt_or_ge i k with q | q
        · exact (hr r h).2.2 i q
        · obtain rfl : i = k := by omega
          exact z0 r h⟩) sm (by omega) hx (fun q hk2 f => hq q (by omega) f) i
      refine Nat.le_trans ih (Nat.pow_le_pow_right (by decide) ?_)
      show _ ≤ bnd n (2 * e + 1) (X + e + 1) + 1
      have := bnd_mono (n := n) (e := e) (X := X) (f := 2 * e + 1) (Y := X + e + 1) (by omega) (by omega)
      omega
/-- the step divides: it is not above -/
theorem ech_div {w : Nat} : ∀ {B : List (List Int)} {k q : Nat} {y : List Int}, Ech w k B → InSp w B y → (∀ i, i < q → atZ y i = 0) → atZ y q ≠ 0 → ∃ r ∈ B, fstNz r = some q ∧ (atZ r q).natAbs ≤ (atZ y q).natAbs
  | [], k, q, y, _, h, _, hq => by
    exfalso
    exact hq (h.zero fun s hs => by cases hs)
  | r :: rs, k, q, y, ⟨p, hk, hp, h0, hr, he⟩, h, y0, hq => by
    obtain ⟨c, hc⟩ := Cg.split (u := zer w) h hr
    have lz := (zer_len w).trans hr.symm
    have at_ : ∀ i, i ≤ p → atZ y i = c * atZ r i := fun i hi => by
      rw [Cg.at_ hc fun s hs => he.low hs (by omega), axpy_at lz, zer_at, Int.zero_add]
    rcases Nat.lt_or_ge q p with a | a
    · exfalso
      apply hq
      rw [at_ q (by omega), fst_zero hp a, Int.mul_zero]
    · rcases Nat.lt_or_ge p q with b | b
      · have c0 : c = 0 := by
          have z := at_ p (Nat.le_refl p)
          rw [y0 p b] at z
          rcases Int.mul_eq_zero.mp z.symm with u | u
          · exact u
          · omega
        rw [c0, axpy_zero lz] at hc
        obtain ⟨s, hs, k1, k2⟩ := ech_div he (show InSp w rs y from hc) y0 hq
        exact ⟨s, List.mem_cons_of_mem _ hs, k1, k2⟩
      · obtain rfl : p = q := by omega
        refine ⟨r, List.mem_cons_self, hp, ?_⟩
        have z := at_ p (Nat.le_refl p)
        rw [z, Int.natAbs_mul]
        have c0 : c ≠ 0 := fun u => hq (by rw [z, u, Int.zero_mul])
        have : 1 * (atZ r p).natAbs ≤ c.natAbs * (atZ r p).natAbs := Nat.mul_le_mul_right _ (by omega)
        omega
/-- the plain row of a row is small -/
theorem plain_small {w V : Nat} {rows B : List (List Int)} {f : List Int} (hw : w ≤ 5) (lr : ∀ r ∈ rows, r.length = w) (sm : Sm 20 rows) (he : Ech w 0 B) (sp : OneSp w rows B) (lf : f.length = w) (hf : ∀ i, (atZ f i).natAbs ≤ 2 ^ V) (hV : V ≤ 671) : ∀ i, (atZ (redBy B f) i).natAbs ≤ 2 ^ 1400 := by
  have c : Cg w B f (redBy B f) := redBy_cg (fun r hr => ⟨hr, he.lens r hr⟩) lf
  have low := red_low he lf
  have hx : InSp w B (axpy (redBy B f) (-1) f) := by
    have z := c.shift (d := -1) lf
    have e1 : axpy f (-1) f = zer w := row_ext (by rw [axpy_len rfl, lf, zer_len]) fun i _ => by
      rw [axpy_at rfl, zer_at]
      omega
    rw [e1] at z
    exact z
  have lrf := c.len.2.trans lf.symm
  have hx2 : InSp w rows (axpy (redBy B f) (-1) f) := (sp.cg (u := zer w)).mpr hx
  have t := tight (w := w) (E := 671) (B := B) w (k := 0) (e := 20) (X := 672) (rows := rows) (Nat.zero_add w) (fun r hr => ⟨lr r hr, sp.1 r hr, fun i hi => absurd hi (Nat.not_lt_zero i)⟩) sm (by
    have : (2 : Nat) ^ w ≤ 2 ^ 5 := Nat.pow_le_pow_right (by decide) hw
    have : (20 + 1) * 2 ^ w ≤ (20 + 1) * 2 ^ 5 := Nat.mul_le_mul_left _ this
    omega) hx2 fun q _ ⟨y, yB, y0, yq, ym⟩ => by
      obtain ⟨r, hr, e1, e2⟩ := ech_div he yB y0 yq
      obtain ⟨a1, a2⟩ := low r hr q e1
      have b := hf q
      have b2 : (2 : Nat) ^ V ≤ 2 ^ 671 := Nat.pow_le_pow_right (by decide) hV
      rw [axpy_at lrf, show (672 : Nat) = 671 + 1 from rfl, Nat.pow_succ]
      generalize (2 : Nat) ^ 671 = T at *
      omega
  intro i
  have ti := t i
  rw [axpy_at lrf] at ti
  have bm : bnd w 20 672 ≤ 1399 := by
    match w, hw with
    | 0, _ => decide
    | 1, _ => decide
    | 2, _ => decide
    | 3, _ => decide
    | 4, _ => decide
    | 5, _ => decide
  have t2 : (2 : Nat) ^ bnd w 20 672 ≤ 2 ^ 1399 := Nat.pow_le_pow_right (by decide) bm
  have b := hf i
  have b2 : (2 : Nat) ^ V ≤ 2 ^ 1399 := Nat.pow_le_pow_right (by decide) (by omega)
  rw [show (1400 : Nat) = 1399 + 1 from rfl, Nat.pow_succ]
  generalize (2 : Nat) ^ 1399 = T at *
  omega
end Crt
end

section
/-! Rules: their basis; what plain does. -/
set_option autoImplicit false
namespace Crt
open PySem
/-- kinds, rows and a basis that fit -/
structure BaseOk (U ks : List Str) (B : List (List Int)) : Prop where
  nd : ks.Nodup
  sub : ∀ k ∈ ks, k ∈ U
  u5 : U.length ≤ 5
  ech : Ech ks.length 0 B
  pv : ∀ r ∈ B, PvOk ks.length r
  sm : Sm 73278 B
  len : B.length ≤ 4
  src : ∃ rows, (∀ r ∈ rows, r.length = ks.length) ∧ Sm 20 rows ∧ OneSp ks.length rows B
theorem mapF_at {ks : List Str} {f : Fn} {i : Nat} (h : i < ks.length) : atZ (ks.map f) i = f ks[i] := by
  have e := atZ_get (r := ks.map f) (p := i) (by rw [List.length_map]; exact h)
  rw [List.getElem?_map, List.getElem?_eq_getElem h] at e
  exact (Option.some.inj e).symm
theorem map_small {ks : List Str} {f : Fn} {e : Nat} (h : ∀ k, (f k).natAbs ≤ 2 ^ e) (i : Nat) : (atZ (ks.map f) i).natAbs ≤ 2 ^ e := by
  rcases Nat.lt_or_ge i ks.length with q | q
  · rw [mapF_at q]
    exact h _
  · rw [atZ_lt (by rw [List.length_map]; omega)]
    exact Nat.zero_le _
theorem mk_ex {ps : List (Fn × Fn)} {U : List Str} (hn : ps.length ≤ 4) (hs : ∀ p ∈ ps, Side p.1 ∧ Side p.2) (hU : U.length ≤ 5) :
    ∃ b rest, MkOk ps U b rest ∧ BaseOk U (kindsOf U (sidesOf ps)) (redAll b) := by
  generalize hk : kindsOf U (sidesOf ps) = ks
  have nd : ks.Nodup := by
    rw [← hk]
    exact ascS_nodup (srtS_asc _)
  have sub : ∀ k ∈ ks, k ∈ U := fun k h => by
    rw [← hk] at h
    obtain ⟨f, _, hf⟩ := List.mem_flatMap.mp (srtS_mem.mp h)
    exact (nf_mem.mp hf).1
  have lr : ∀ r ∈ rowsOf ks ps, r.length = ks.length := fun r hr => by
    obtain ⟨p, _, rfl⟩ := List.mem_map.mp hr
    exact List.length_map _
  have sm : Sm 20 (rowsOf ks ps) := fun r hr => by
    obtain ⟨p, hp, rfl⟩ := List.mem_map.mp hr
    refine map_small fun k => ?_
    have a := (hs p hp).1 k
    have b := (hs p hp).2 k
    have : (2 : Nat) ^ 20 = 1048576 := by decide
    omega
  have rl : (rowsOf ks ps).length ≤ 4 := by
    unfold rowsOf
    rw [List.length_map]
    exact hn
  obtain ⟨b, r, t, hl, _, sb, _⟩ := tri_ex rl lr sm ks.length
  obtain ⟨_, _, eb⟩ := tri_inv lr t
  obtain ⟨he, sp⟩ := basis_span lr t
  obtain ⟨r1, r2, r3, r4⟩ := raok_ex (acc := []) eb (show Ech ks.length ks.length [] from True.intro) (by rw [List.length_nil]; omega) sb (fun _ h => by cases h) (fun _ h => by cases h)
  rw [List.length_nil] at r2 r4
  have kl : ks.length ≤ 5 := Nat.le_trans (nodup_le nd sub) hU
  refine ⟨b, r, ⟨by omega, hs, by omega, ?_, ?_⟩, nd, sub, hU, he, r3, ?_, ?_, rowsOf ks ps, lr, sm, sp⟩
  · rw [hk]
    exact ⟨t, r1, by omega, by omega⟩
  · rw [hk]
    exact fun x hx => (r3 x hx).1
  · refine Sm.up r2 ?_
    have : ∀ m, m ≤ 4 → cex m ≤ 73278 := fun m h => by
      match m, h with
      | 0, _ => decide
      | 1, _ => decide
      | 2, _ => decide
      | 3, _ => decide
      | 4, _ => decide
    exact this _ (by omega)
  · show (b.foldl (fun acc row => redBy acc row :: acc) []).length ≤ 4
    omega
section
variable {U ks : List Str} {B : List (List Int)} (O : BaseOk U ks B)
include O
theorem BaseOk.k5 : ks.length ≤ 5 := Nat.le_trans (nodup_le O.nd O.sub) O.u5
theorem BaseOk.pl : PlOk ks B U := by
  have := O.k5
  have := O.len
  have := O.u5
  exact ⟨O.nd, O.sub, by omega, by omega, by omega⟩
theorem BaseOk.red {f : Fn} {e : Nat} (h : ∀ k, (f k).natAbs ≤ 2 ^ e) (he : e ≤ 10000) : RedOk ks.length B (ks.map f) := by
  refine (redBy_bd O.pv O.sm (List.length_map _) (map_small h) ?_).1
  have h4 := O.len
  have : B.length * (73278 + 2) ≤ 4 * (73278 + 2) := Nat.mul_le_mul_right _ h4
  omega
theorem BaseOk.rlen (f : Fn) : (redBy B (ks.map f)).length = ks.length := (redBy_cg (w := ks.length) (B := B) (fun r hr => ⟨hr, O.ech.lens r hr⟩) (List.length_map _)).len.2
theorem valA_zip {β : Type} : ∀ {ks : List Str} {xs : List β} {i : Nat} (hi : i < ks.length) (hx : i < xs.length), ks.Nodup → valA (ks.zip xs) ks[i] = some xs[i]
  | [], _, _, h, _, _ => by cases h
  | _ :: _, [], _, _, h, _ => by cases h
  | k :: ks, x :: xs, 0, _, _, _ => by
    rw [List.zip_cons_cons, valA_cons]
    simp
  | k :: ks, x :: xs, i + 1, hi, hx, nd => by
    obtain ⟨n1, n2⟩ := List.nodup_cons.mp nd
    have hi2 : i < ks.length := Nat.lt_of_succ_lt_succ hi
    rw [List.zip_cons_cons, valA_cons, if_neg]
    · exact valA_zip hi2 (Nat.lt_of_succ_lt_succ hx) n2
    · intro e
      have e : k = ks[i] := e
      exact n1 (by rw [e]; exact List.getElem_mem hi2)
theorem BaseOk.at_in {f : Fn} {i : Nat} (hi : i < ks.length) : plainF ks B f ks[i] = atZ (redBy B (ks.map f)) i := by
  unfold plainF
  have hx : i < (redBy B (ks.map f)).length := by
    rw [O.rlen]
    exact hi
  rw [valA_zip O hi hx O.nd]
  have e := atZ_get hx
  rw [List.getElem?_eq_getElem hx] at e
  exact Option.some.inj e
theorem BaseOk.at_out {f : Fn} {k : Str} (hk : k ∉ ks) : plainF ks B f k = f k := by
  unfold plainF
  rw [valA_none.mpr]
  · rfl
  · rw [zip_keys (O.rlen f).symm]
    exact hk
theorem BaseOk.row (f : Fn) : ks.map (plainF ks B f) = redBy B (ks.map f) := by
  refine row_ext (by rw [List.length_map, O.rlen]) fun i hi => ?_
  rw [List.length_map] at hi
  rw [mapF_at hi, O.at_in hi]
/-- loads that are alike by the rules -/
def Alk (ks : List Str) (B : List (List Int)) (x y : Fn) : Prop := (∀ k, k ∉ ks → x k = y k) ∧ Cg ks.length B (ks.map x) (ks.map y)
omit O in
theorem Alk.refl (x : Fn) : Alk ks B x x := ⟨fun _ _ => rfl, .refl (List.length_map _)⟩
omit O in
theorem Alk.symm {x y : Fn} (h : Alk ks B x y) : Alk ks B y x := ⟨fun k hk => (h.1 k hk).symm, h.2.symm⟩
omit O in
theorem Alk.trans {x y z : Fn} (h : Alk ks B x y) (k : Alk ks B y z) : Alk ks B x z := ⟨fun j hj => (h.1 j hj).trans (k.1 j hj), h.2.trans k.2⟩
omit O in
theorem map_axpy (x y : Fn) (c : Int) : ks.map (fun k => x k + c * y k) = axpy (ks.map x) c (ks.map y) := by
  have l := (List.length_map x (as := ks)).trans (List.length_map y).symm
  have l2 := axpy_len (c := c) l
  refine row_ext (by rw [List.length_map, l2, List.length_map]) fun i hi => ?_
  rw [List.length_map] at hi
  rw [mapF_at hi, axpy_at l, mapF_at hi, mapF_at hi]
omit O in
theorem Alk.add {x y x' y' : Fn} (c : Int) (h : Alk ks B x y) (k : Alk ks B x' y') : Alk ks B (fun j => x j + c * x' j) (fun j => y j + c * y' j) := by
  refine ⟨fun j hj => ?_, ?_⟩
  · show x j + c * x' j = y j + c * y' j
    rw [h.1 j hj, k.1 j hj]
  · rw [map_axpy, map_axpy]
    exact h.2.both c k.2
theorem BaseOk.eqv (f : Fn) : Alk ks B f (plainF ks B f) := ⟨fun k hk => (O.at_out hk).symm, by
  rw [O.row]
  exact redBy_cg (fun r hr => ⟨hr, O.ech.lens r hr⟩) (List.length_map _)⟩
theorem BaseOk.same {x y : Fn} (h : Alk ks B x y) : plainF ks B x = plainF ks B y := funext fun k => by
  by_cases hk : k ∈ ks
  · obtain ⟨i, hi, rfl⟩ := List.mem_iff_getElem.mp hk
    rw [O.at_in hi, O.at_in hi, red_same O.ech h.2]
  · rw [O.at_out hk, O.at_out hk, h.1 k hk]
theorem BaseOk.zero : plainF ks B (fun _ => 0) = fun _ => 0 := by
  have e0 : ks.map (fun _ => (0 : Int)) = zer ks.length := by
    unfold zer
    rw [List.map_const']
  have e : redBy B (zer ks.length) = zer ks.length := by
    have c : Cg ks.length B (zer ks.length) (redBy B (zer ks.length)) := redBy_cg (fun r hr => ⟨hr, O.ech.lens r hr⟩) (zer_len _)
    refine ech_uniq O.ech c.symm (red_low O.ech (zer_len _)) fun r hr p hp => ?_
    rw [zer_at]
    obtain ⟨_, p', hp', h0, _⟩ := O.pv r hr
    rw [hp] at hp'
    rw [Option.some.inj hp']
    omega
  funext k
  by_cases hk : k ∈ ks
  · obtain ⟨i, hi, rfl⟩ := List.mem_iff_getElem.mp hk
    rw [O.at_in hi, e0, e, zer_at]
  · exact O.at_out hk
theorem BaseOk.small {f : Fn} (h : ∀ k, (f k).natAbs ≤ 2 ^ 671) (k : Str) : (plainF ks B f k).natAbs ≤ 2 ^ 1400 := by
  obtain ⟨rows, lr, sr, sp⟩ := O.src
  by_cases hk : k ∈ ks
  · obtain ⟨i, hi, rfl⟩ := List.mem_iff_getElem.mp hk
    rw [O.at_in hi]
    exact plain_small O.k5 lr sr O.ech sp (List.length_map _) (map_small h) (Nat.le_refl _) i
  · rw [O.at_out hk]
    exact Nat.le_trans (h k) (Nat.pow_le_pow_right (by decide) (by decide))
theorem BaseOk.sup {f : Fn} (h : Sup f U) : Sup (plainF ks B f) U := fun k hk => by
  by_cases hm : k ∈ ks
  · exact O.sub k hm
  · rw [O.at_out hm] at hk
    exact h k hk
end
end Crt
end

section
/-! Rings: what they add up to. -/
set_option autoImplicit false
namespace Crt
open PySem
/-! ### sums over a way -/
section
variable {α : Type} (φ : α → α → Int)
def wayS : List α → Int
  | [] => 0
  | [_] => 0
  | a :: b :: l => φ a b + wayS (b :: l)
def zipS : List (α × α) → Int
  | [] => 0
  | e :: l => φ e.1 e.2 + zipS l
variable {φ}
theorem wayS_snoc (a b : α) : ∀ l : List α, wayS φ (l ++ [a] ++ [b]) = wayS φ (l ++ [a]) + φ a b
  | [] => by
    show φ a b + 0 = 0 + φ a b
    omega
  | [x] => by
    show φ x a + (φ a b + 0) = φ x a + 0 + φ a b
    omega
  | x :: y :: l => by
    have ih := wayS_snoc a b (y :: l)
    show φ x y + wayS φ ((y :: l) ++ [a] ++ [b]) = φ x y + wayS φ ((y :: l) ++ [a]) + φ a b
    rw [ih]
    omega
theorem wayS_rev : ∀ l : List α, wayS φ l.reverse = wayS (fun a b => φ b a) l
  | [] => rfl
  | [_] => rfl
  | a :: b :: l => by
    rw [List.reverse_cons, List.reverse_cons, wayS_snoc, ← List.reverse_cons, wayS_rev (b :: l)]
    show _ = φ b a + _
    omega
theorem zipS_way (z : α) : ∀ (l : List α) (a : α), zipS φ ((a :: l).zip (l ++ [z])) = wayS φ (a :: l ++ [z])
  | [], a => rfl
  | b :: l, a => by
    show φ a b + zipS φ ((b :: l).zip (l ++ [z])) = φ a b + wayS φ (b :: l ++ [z])
    rw [zipS_way z l b]
/-- different neighbours -/
def Alt : List α → Prop
  | [] => True
  | [_] => True
  | a :: b :: l => a ≠ b ∧ Alt (b :: l)
theorem alt_ring {z : α} : ∀ (t : List α) (y : α), t ≠ [] → z ∉ t → (y :: t).Nodup → Alt (y :: t ++ [z])
  | [], _, h, _, _ => absurd rfl h
  | [b], y, _, hz, nd => ⟨fun e => by
      rw [e] at nd
      exact (List.nodup_cons.mp nd).1 List.mem_cons_self, fun e => hz (by rw [e]; exact List.mem_cons_self), True.intro⟩
  | b :: c :: t, y, _, hz, nd => ⟨fun e => by
      rw [e] at nd
      exact (List.nodup_cons.mp nd).1 List.mem_cons_self, alt_ring (c :: t) b (by simp) (fun h => hz (List.mem_cons_of_mem _ h)) (List.nodup_cons.mp nd).2⟩
theorem wayS_neg {ψ : α → α → Int} (h : ∀ a b, a ≠ b → ψ a b = -φ a b) : ∀ l : List α, Alt l → wayS ψ l = -wayS φ l
  | [], _ => rfl
  | [_], _ => rfl
  | a :: b :: l, ⟨h1, h2⟩ => by
    show ψ a b + wayS ψ (b :: l) = -(φ a b + wayS φ (b :: l))
    rw [h a b h1, wayS_neg h (b :: l) h2]
    omega
end
theorem edges_way {φ : Str → Str → Int} (x : Str) (r : List Str) : zipS φ (edges (x :: r)) = wayS φ (x :: r ++ [x]) := zipS_way x r x
theorem edges_turn {φ : Str → Str → Int} (x : Str) (s : List Str) : zipS φ (edges (s ++ [x])) = zipS φ (edges (x :: s)) := by
  cases s with
  | nil => rfl
  | cons y t =>
    rw [List.cons_append, edges_way, edges_way]
    show wayS φ (y :: (t ++ [x]) ++ [y]) = φ x y + wayS φ (y :: t ++ [x])
    have := wayS_snoc (φ := φ) x y (y :: t)
    rw [show y :: (t ++ [x]) ++ [y] = y :: t ++ [x] ++ [y] by simp, this]
    omega
theorem edges_rev {φ : Str → Str → Int} (h : ∀ a b, a ≠ b → φ b a = -φ a b) {row : List Str} (nd : row.Nodup) (hl : 2 ≤ row.length) : zipS φ (edges row.reverse) = -zipS φ (edges row) := by
  cases row with
  | nil => exact absurd hl (by decide)
  | cons x r =>
    have hr : r ≠ [] := fun e => by rw [e] at hl; exact absurd (show 2 ≤ 1 from hl) (by decide)
    rw [List.reverse_cons, edges_turn, edges_way, edges_way]
    have e : x :: r.reverse ++ [x] = (x :: r ++ [x]).reverse := by simp
    rw [e, wayS_rev]
    exact wayS_neg h _ (alt_ring r x hr (List.nodup_cons.mp nd).1 nd)
/-! ### what a ring does -/
/-- what an edge takes from the debt of q -/
def takeE (q : Str × Str) (f : Fn) (k : Str) (a b : Str) : Int := if edgeKey (a, b) = q then edgePart (a, b) f k else 0
def ringS (q : Str × Str) (k : Str) (r : List Str × Fn) : Int := zipS (takeE q r.2 k) (edges r.1)
def sumI {α : Type} (f : α → Int) : List α → Int
  | [] => 0
  | x :: l => f x + sumI f l
theorem sumI_app {α : Type} {f : α → Int} : ∀ l m : List α, sumI f (l ++ m) = sumI f l + sumI f m
  | [], m => by
    show sumI f m = 0 + sumI f m
    omega
  | x :: l, m => by
    show f x + sumI f (l ++ m) = f x + sumI f l + sumI f m
    rw [sumI_app l m]
    omega
theorem getP_put (acc : Debts) (q j : Str × Str) (f : Fn) : getP (putA acc q f) j = if j = q then f else getP acc j := by
  unfold getP
  rw [valA_put]
  split <;> rfl
theorem getP_edge (f : Fn) (acc : Debts) (e q : Str × Str) (k : Str) : getP (edgeDo f acc e) q k = getP acc q k - takeE q f k e.1 e.2 := by
  unfold edgeDo takeE
  rw [getP_put]
  by_cases h : q = edgeKey e
  · rw [if_pos h, if_pos (show edgeKey (e.1, e.2) = q from h.symm), h]
  · rw [if_neg h, if_neg (fun z => h (Eq.symm z))]
    omega
theorem getP_edges (f : Fn) (q : Str × Str) (k : Str) : ∀ (es : List (Str × Str)) (acc : Debts), getP (es.foldl (edgeDo f) acc) q k = getP acc q k - zipS (takeE q f k) es
  | [], acc => by
    show getP acc q k = getP acc q k - 0
    omega
  | e :: es, acc => by
    show getP (es.foldl (edgeDo f) (edgeDo f acc e)) q k = getP acc q k - (takeE q f k e.1 e.2 + zipS (takeE q f k) es)
    rw [getP_edges f q k es, getP_edge]
    omega
theorem getP_rings (q : Str × Str) (k : Str) : ∀ (rs : List (List Str × Fn)) (acc : Debts), getP (rs.foldl ringDo acc) q k = getP acc q k - sumI (ringS q k) rs
  | [], acc => by
    show getP acc q k = getP acc q k - 0
    omega
  | r :: rs, acc => by
    show getP (rs.foldl ringDo (ringDo acc r)) q k = getP acc q k - (ringS q k r + sumI (ringS q k) rs)
    rw [getP_rings q k rs]
    unfold ringDo ringS
    rw [getP_edges]
    omega
theorem debts0_eq {d : Debts} (nd : (d.map (·.1)).Nodup) : debts0 d = d := by
  unfold debts0
  rw [filt_all, show (d.map fun p => (p.1, p.2)) = d from List.map_id' d]
  exact putAll_new (l := []) d (by rw [List.nil_append]; exact nd)
theorem getP_after {d : Debts} (nd : (d.map (·.1)).Nodup) (rs : List (List Str × Fn)) (q : Str × Str) (k : Str) : getP (afterDo d rs) q k = getP d q k - sumI (ringS q k) rs := by
  unfold afterDo
  rw [getP_rings, debts0_eq nd]
theorem takeE_swap {q : Str × Str} {f : Fn} {k : Str} (a b : Str) (h : a ≠ b) : takeE q f k b a = -takeE q f k a b := by
  have key : edgeKey (b, a) = edgeKey (a, b) ∧ edgePart (b, a) f k = -edgePart (a, b) f k := by
    unfold edgeKey edgePart
    rcases ltS_tri a b with z | z | z
    · have n : ¬ ltSb b a = true := fun y => ltS_irrefl a (ltS_trans z (ltSb_iff.mp y))
      rw [if_neg n, if_neg n, if_pos (ltSb_iff.mpr z), if_pos (ltSb_iff.mpr z)]
      exact ⟨rfl, rfl⟩
    · exact absurd z h
    · have n : ¬ ltSb a b = true := fun y => ltS_irrefl a (ltS_trans (ltSb_iff.mp y) z)
      rw [if_neg n, if_neg n, if_pos (ltSb_iff.mpr z), if_pos (ltSb_iff.mpr z)]
      exact ⟨rfl, (Int.neg_neg _).symm⟩
  unfold takeE
  rw [key.1, key.2]
  split <;> omega
theorem ringS_rev {q : Str × Str} {k : Str} {r : List Str × Fn} (nd : r.1.Nodup) (hl : 2 ≤ r.1.length) : ringS q k (r.1.reverse, r.2) = -ringS q k r := edges_rev (fun a b h => takeE_swap a b h) nd hl
theorem takeE_mul {q : Str × Str} {f : Fn} {k : Str} (c : Int) (a b : Str) : takeE q (fun j => c * f j) k a b = c * takeE q f k a b := by
  unfold takeE edgePart
  split
  · split
    · rfl
    · show -(c * f k) = c * -f k
      rw [Int.mul_neg]
  · rw [Int.mul_zero]
theorem zipS_mul {α : Type} {φ ψ : α → α → Int} {c : Int} (h : ∀ a b, ψ a b = c * φ a b) : ∀ l : List (α × α), zipS ψ l = c * zipS φ l
  | [] => (Int.mul_zero c).symm
  | e :: l => by
    show ψ e.1 e.2 + zipS ψ l = c * (φ e.1 e.2 + zipS φ l)
    rw [h, zipS_mul h l, Int.mul_add]
theorem ringS_mul {q : Str × Str} {k : Str} (c : Int) (r : List Str × Fn) : ringS q k (r.1, fun j => c * r.2 j) = c * ringS q k r := zipS_mul (fun a b => takeE_mul c a b) _
/-! ### keys -/
theorem edges_keys {f : Fn} : ∀ {es : List (Str × Str)} {acc : Debts}, (acc.map (·.1)).Nodup → ((es.foldl (edgeDo f) acc).map (·.1)).Nodup ∧ ∀ q, q ∈ (es.foldl (edgeDo f) acc).map (·.1) ↔ q ∈ acc.map (·.1) ∨ q ∈ es.map edgeKey
  | [], acc, h => ⟨h, fun q => by simp⟩
  | e :: es, acc, h => by
    obtain ⟨h1, h2⟩ := edges_keys (f := f) (es := es) (acc := edgeDo f acc e) (putA_nodup h _ _)
    refine ⟨h1, fun q => ?_⟩
    show q ∈ (es.foldl (edgeDo f) (edgeDo f acc e)).map (·.1) ↔ _
    rw [h2]
    unfold edgeDo
    rw [putA_keys, List.map_cons, List.mem_cons]
    split
    · rename_i hk
      constructor
      · rintro (a | a)
        · exact .inl a
        · exact .inr (.inr a)
      · rintro (a | a | a)
        · exact .inl a
        · exact .inl (by rw [a]; exact hk)
        · exact .inr a
    · rw [List.mem_append, List.mem_singleton]
      constructor
      · rintro ((a | a) | a)
        · exact .inl a
        · exact .inr (.inl a)
        · exact .inr (.inr a)
      · rintro (a | a | a)
        · exact .inl (.inl a)
        · exact .inl (.inr a)
        · exact .inr a
theorem rings_keys : ∀ {rs : List (List Str × Fn)} {acc : Debts}, (acc.map (·.1)).Nodup → ((rs.foldl ringDo acc).map (·.1)).Nodup ∧ ∀ q, q ∈ (rs.foldl ringDo acc).map (·.1) ↔ q ∈ acc.map (·.1) ∨ ∃ r ∈ rs, q ∈ (edges r.1).map edgeKey
  | [], acc, h => ⟨h, fun q => by simp⟩
  | r :: rs, acc, h => by
    obtain ⟨k1, k2⟩ := edges_keys (f := r.2) (es := edges r.1) h
    obtain ⟨h1, h2⟩ := rings_keys (rs := rs) (acc := ringDo acc r) k1
    refine ⟨h1, fun q => ?_⟩
    show q ∈ (rs.foldl ringDo (ringDo acc r)).map (·.1) ↔ _
    rw [h2]
    show (q ∈ ((edges r.1).foldl (edgeDo r.2) acc).map (·.1) ∨ _) ↔ _
    rw [k2]
    constructor
    · rintro ((a | a) | ⟨s, hs, a⟩)
      · exact .inl a
      · exact .inr ⟨r, List.mem_cons_self, a⟩
      · exact .inr ⟨s, List.mem_cons_of_mem _ hs, a⟩
    · rintro (a | ⟨s, hs, a⟩)
      · exact .inl (.inl a)
      · rcases List.mem_cons.mp hs with e | e
        · rw [e] at a
          exact .inl (.inr a)
        · exact .inr ⟨s, e, a⟩
theorem after_keys {d : Debts} (nd : (d.map (·.1)).Nodup) (rs : List (List Str × Fn)) : ((afterDo d rs).map (·.1)).Nodup ∧ ∀ q, q ∈ (afterDo d rs).map (·.1) ↔ q ∈ d.map (·.1) ∨ ∃ r ∈ rs, q ∈ (edges r.1).map edgeKey := by
  unfold afterDo
  rw [debts0_eq nd]
  exact rings_keys nd
theorem edge_in {row : List Str} {e : Str × Str} (h : e ∈ edges row) : e.1 ∈ row ∧ e.2 ∈ row := by
  have z := List.of_mem_zip (a := e.1) (b := e.2) h
  refine ⟨z.1, ?_⟩
  rcases List.mem_append.mp z.2 with q | q
  · exact List.mem_of_mem_drop q
  · exact List.mem_of_mem_take q
theorem alt_zip {z : Str} : ∀ {l : List Str} {a : Str} {e : Str × Str}, Alt (a :: l ++ [z]) → e ∈ (a :: l).zip (l ++ [z]) → e.1 ≠ e.2
  | [], a, e, h, he => by
    have : e = (a, z) := by simpa using he
    rw [this]
    exact h.1
  | b :: l, a, e, h, he => by
    have he2 : e = (a, b) ∨ e ∈ (b :: l).zip (l ++ [z]) := List.mem_cons.mp he
    rcases he2 with q | q
    · rw [q]
      exact h.1
    · exact alt_zip (l := l) (a := b) h.2 q
theorem edge_ne {row : List Str} {e : Str × Str} (nd : row.Nodup) (hl : 2 ≤ row.length) (h : e ∈ edges row) : e.1 ≠ e.2 := by
  cases row with
  | nil => exact absurd hl (by decide)
  | cons x r =>
    have hr : r ≠ [] := fun e => by rw [e] at hl; exact absurd (show 2 ≤ 1 from hl) (by decide)
    exact alt_zip (alt_ring r x hr (List.nodup_cons.mp nd).1 nd) h
theorem edgeKey_lt {e : Str × Str} (h : e.1 ≠ e.2) : ltS (edgeKey e).1 (edgeKey e).2 ∧ ((edgeKey e).1 = e.1 ∧ (edgeKey e).2 = e.2 ∨ (edgeKey e).1 = e.2 ∧ (edgeKey e).2 = e.1) := by
  unfold edgeKey
  by_cases z : ltSb e.1 e.2 = true
  · rw [if_pos z]
    exact ⟨ltSb_iff.mp z, .inl ⟨rfl, rfl⟩⟩
  · rw [if_neg z]
    rcases ltS_tri e.1 e.2 with y | y | y
    · exact absurd (ltSb_iff.mpr y) z
    · exact absurd y h
    · exact ⟨y, .inr ⟨rfl, rfl⟩⟩
end Crt
end

section
/-! after_rings as a function. -/
set_option autoImplicit false
namespace Crt
open PySem
theorem nf_none {f : Fn} {U : List Str} (s : Sup f U) (h : nf f U = []) : f = fun _ => 0 := funext fun k => by
  have z := nf_val s k
  rw [h] at z
  exact z.symm
theorem nf_zero (U : List Str) : nf (fun _ => 0) U = [] := by
  unfold nf
  rw [List.filter_eq_nil_iff.mpr]
  · rfl
  · intro k _
    simp
theorem isE_iff {α : Type} {l : List α} : (!l.isEmpty) = true ↔ l ≠ [] := by
  cases l <;> simp
/-- the table of a function over ascending pairs -/
def tabP (U : List Str) (qs : List (Str × Str)) (A : Str × Str → Fn) : Debts := ((srtP qs).filter fun q => !(nf (A q) U).isEmpty).map fun q => (q, A q)
theorem map_filt {α β : Type} (f : α → β) (p : β → Bool) : ∀ l : List α, (l.map f).filter p = (l.filter fun x => p (f x)).map f
  | [] => rfl
  | x :: l => by
    rw [List.map_cons, List.filter_cons, List.filter_cons, map_filt f p l]
    split <;> rfl
theorem tabP_keys (U : List Str) (qs : List (Str × Str)) (A : Str × Str → Fn) : (tabP U qs A).map (·.1) = (srtP qs).filter fun q => !(nf (A q) U).isEmpty := by
  unfold tabP
  rw [List.map_map]
  exact List.map_id' _
theorem tabP_asc (U : List Str) (qs : List (Str × Str)) (A : Str × Str → Fn) : ((tabP U qs A).map (·.1)).Pairwise ltP := by
  rw [tabP_keys]
  exact (srtP_asc qs).filter _
theorem tabP_nodup (U : List Str) (qs : List (Str × Str)) (A : Str × Str → Fn) : ((tabP U qs A).map (·.1)).Nodup := ascP_nodup (tabP_asc U qs A)
theorem tabP_mem {U : List Str} {qs : List (Str × Str)} {A : Str × Str → Fn} {q : Str × Str} : q ∈ (tabP U qs A).map (·.1) ↔ q ∈ qs ∧ nf (A q) U ≠ [] := by
  rw [tabP_keys, List.mem_filter, srtP_mem, isE_iff]
theorem tabP_val {U : List Str} {qs : List (Str × Str)} {A : Str × Str → Fn} {p : (Str × Str) × Fn} (h : p ∈ tabP U qs A) : p.2 = A p.1 := by
  obtain ⟨q, _, rfl⟩ := List.mem_map.mp h
  rfl
/-- two tables of one function, each with all that is not nothing -/
theorem tabP_eq {U : List Str} {qs ps : List (Str × Str)} {A : Str × Str → Fn} (h : ∀ q, nf (A q) U ≠ [] → q ∈ qs ∧ q ∈ ps) : tabP U qs A = tabP U ps A := by
  have e : ((srtP qs).filter fun q => !(nf (A q) U).isEmpty) = (srtP ps).filter fun q => !(nf (A q) U).isEmpty := by
    refine ascP_uniq ((srtP_asc qs).filter _) ((srtP_asc ps).filter _) fun q => ?_
    rw [List.mem_filter, List.mem_filter, srtP_mem, srtP_mem, isE_iff]
    exact ⟨fun z => ⟨(h q z.2).2, z.2⟩, fun z => ⟨(h q z.2).1, z.2⟩⟩
  unfold tabP
  rw [e]
theorem getP_out {acc : Debts} {q : Str × Str} (h : q ∉ acc.map (·.1)) : getP acc q = fun _ => 0 := by
  unfold getP
  rw [valA_none.mpr h]
  rfl
theorem getP_in {acc : Debts} (nd : (acc.map (·.1)).Nodup) {p : (Str × Str) × Fn} (h : p ∈ acc) : getP acc p.1 = p.2 := by
  unfold getP
  rw [valA_nodup nd (k := p.1) (b := p.2) h]
  rfl
theorem getP_tab {U : List Str} {qs : List (Str × Str)} {A : Str × Str → Fn} (hs : ∀ q, Sup (A q) U) (hq : ∀ q, q ∉ qs → A q = fun _ => 0) (q : Str × Str) : getP (tabP U qs A) q = A q := by
  by_cases h : q ∈ (tabP U qs A).map (·.1)
  · obtain ⟨p, hp, rfl⟩ := List.mem_map.mp h
    rw [getP_in (tabP_nodup U qs A) hp, tabP_val hp]
  · rw [getP_out h]
    by_cases k : q ∈ qs
    · have z : nf (A q) U = [] := by
        rcases Decidable.em (nf (A q) U = []) with y | y
        · exact y
        · exact absurd (tabP_mem.mpr ⟨k, y⟩) h
      exact (nf_none (hs q) z).symm
    · exact (hq q k).symm
section
variable {U ks : List Str} {B : List (List Int)}
theorem afterR_tab (d : Debts) (rs : List (List Str × Fn)) : afterR ks B U d rs = tabP U ((afterDo d rs).map (·.1)) fun q => plainF ks B (getP (afterDo d rs) q) := by
  have nd := ascP_nodup (srtP_asc ((afterDo d rs).map (·.1)))
  have e1 : plainR ks B (afterDo d rs) = (srtP ((afterDo d rs).map (·.1))).map fun q => (q, plainF ks B (getP (afterDo d rs) q)) := by
    unfold plainR
    rw [filt_all]
    have := putAll_new (l := []) ((srtP ((afterDo d rs).map (·.1))).map fun q => (q, plainF ks B (getP (afterDo d rs) q))) (by
      rw [List.nil_append, List.map_map]
      show ((srtP _).map fun q => q).Nodup
      rw [List.map_id']
      exact nd)
    simpa using this
  unfold afterR keepR
  rw [e1, map_filt, List.map_map]
  show putAll [] (tabP U _ _) = _
  exact putAll_new (l := []) _ (by rw [List.nil_append]; exact tabP_nodup _ _ _)
/-- debts as they must be -/
structure DOk (U hs : List Str) (V : Nat) (d : Debts) : Prop where
  nd : (d.map (·.1)).Nodup
  key : ∀ q ∈ d.map (·.1), ltS q.1 q.2 ∧ q.1 ∈ hs ∧ q.2 ∈ hs
  sup : ∀ p ∈ d, Sup p.2 U
  bd : ∀ p ∈ d, ∀ k, (p.2 k).natAbs ≤ 2 ^ V
/-- a ring as it must be -/
structure ROk (U hs : List Str) (V : Nat) (r : List Str × Fn) : Prop where
  nd : r.1.Nodup
  l3 : 3 ≤ r.1.length
  l6 : r.1.length ≤ 6
  sub : ∀ x ∈ r.1, x ∈ hs
  sup : Sup r.2 U
  bd : ∀ k, (r.2 k).natAbs ≤ 2 ^ V
variable {hs : List Str} {V : Nat} {d : Debts} {rs : List (List Str × Fn)}
theorem DOk.gsup (D : DOk U hs V d) (q : Str × Str) : Sup (getP d q) U := by
  by_cases h : q ∈ d.map (·.1)
  · obtain ⟨p, hp, rfl⟩ := List.mem_map.mp h
    rw [getP_in D.nd hp]
    exact D.sup p hp
  · rw [getP_out h]
    exact fun k hk => absurd rfl hk
theorem DOk.gbd (D : DOk U hs V d) (q : Str × Str) (k : Str) : (getP d q k).natAbs ≤ 2 ^ V := by
  by_cases h : q ∈ d.map (·.1)
  · obtain ⟨p, hp, rfl⟩ := List.mem_map.mp h
    rw [getP_in D.nd hp]
    exact D.bd p hp k
  · rw [getP_out h]
    exact Nat.zero_le _
theorem takeE_bd {q : Str × Str} {f : Fn} {k a b : Str} {n : Nat} (h : (f k).natAbs ≤ n) : (takeE q f k a b).natAbs ≤ n := by
  unfold takeE edgePart
  split
  · split
    · exact h
    · show (-f k).natAbs ≤ n
      rw [Int.natAbs_neg]
      exact h
  · exact Nat.zero_le _
theorem zipS_bd {α : Type} {φ : α → α → Int} {n : Nat} (h : ∀ a b, (φ a b).natAbs ≤ n) : ∀ l : List (α × α), (zipS φ l).natAbs ≤ l.length * n
  | [] => by
    show (0 : Int).natAbs ≤ _
    exact Nat.zero_le _
  | e :: l => by
    have ih := zipS_bd h l
    have a := h e.1 e.2
    show (φ e.1 e.2 + zipS φ l).natAbs ≤ _
    rw [List.length_cons, Nat.add_mul, Nat.one_mul]
    omega
theorem edges_len (row : List Str) : (edges row).length ≤ row.length := by
  unfold edges
  rw [List.length_zip]
  omega
theorem sumI_bd {α : Type} {f : α → Int} {n : Nat} : ∀ {l : List α}, (∀ x ∈ l, (f x).natAbs ≤ n) → (sumI f l).natAbs ≤ l.length * n
  | [], _ => by
    show (0 : Int).natAbs ≤ _
    exact Nat.zero_le _
  | x :: l, h => by
    have ih := sumI_bd (f := f) (l := l) fun y hy => h y (List.mem_cons_of_mem _ hy)
    have a := h x List.mem_cons_self
    show (f x + sumI f l).natAbs ≤ _
    rw [List.length_cons, Nat.add_mul, Nat.one_mul]
    omega
theorem ROk.bdS (R : ∀ r ∈ rs, ROk U hs V r) (q : Str × Str) (k : Str) : (sumI (ringS q k) rs).natAbs ≤ rs.length * (6 * 2 ^ V) := by
  refine sumI_bd fun r hr => ?_
  have z := zipS_bd (φ := takeE q r.2 k) (fun a b => takeE_bd ((R r hr).bd k)) (edges r.1)
  refine Nat.le_trans z (Nat.mul_le_mul_right _ ?_)
  exact Nat.le_trans (edges_len _) (R r hr).l6
theorem takeE_sup {q : Str × Str} {f : Fn} {k : Str} (a b : Str) (h : f k = 0) : takeE q f k a b = 0 := by
  unfold takeE edgePart
  split
  · split
    · exact h
    · show -f k = 0
      rw [h]
      rfl
  · rfl
theorem zipS_zero {α : Type} {φ : α → α → Int} (h : ∀ a b, φ a b = 0) : ∀ l : List (α × α), zipS φ l = 0
  | [] => rfl
  | e :: l => by
    show φ e.1 e.2 + zipS φ l = 0
    rw [h, zipS_zero h l]
    rfl
theorem sumI_zero {α : Type} {f : α → Int} : ∀ {l : List α}, (∀ x ∈ l, f x = 0) → sumI f l = 0
  | [], _ => rfl
  | x :: l, h => by
    show f x + sumI f l = 0
    rw [h x List.mem_cons_self, sumI_zero fun y hy => h y (List.mem_cons_of_mem _ hy)]
    rfl
theorem ROk.sumS (R : ∀ r ∈ rs, ROk U hs V r) (q : Str × Str) (k : Str) (h : sumI (ringS q k) rs ≠ 0) : k ∈ U := by
  rcases Decidable.em (k ∈ U) with y | y
  · exact y
  · exfalso
    refine h (sumI_zero fun r hr => zipS_zero (fun a b => takeE_sup a b ?_) _)
    rcases Decidable.em (r.2 k = 0) with z | z
    · exact z
    · exact absurd ((R r hr).sup k z) y
/-- the debts that are made -/
theorem DOk.after (D : DOk U hs V d) (R : ∀ r ∈ rs, ROk U hs V r) (hn : rs.length ≤ 20) : DOk U hs (V + 7) (afterDo d rs) := by
  obtain ⟨n1, n2⟩ := after_keys D.nd rs
  refine ⟨n1, fun q hq => ?_, fun p hp => ?_, fun p hp k => ?_⟩
  · rcases (n2 q).mp hq with h | ⟨r, hr, h⟩
    · exact D.key q h
    · obtain ⟨e, he, rfl⟩ := List.mem_map.mp h
      have ne := edge_ne (R r hr).nd (by have := (R r hr).l3; omega) he
      obtain ⟨m1, m2⟩ := edge_in he
      obtain ⟨lt, z⟩ := edgeKey_lt ne
      refine ⟨lt, ?_⟩
      rcases z with ⟨z1, z2⟩ | ⟨z1, z2⟩
      · rw [z1, z2]
        exact ⟨(R r hr).sub _ m1, (R r hr).sub _ m2⟩
      · rw [z1, z2]
        exact ⟨(R r hr).sub _ m2, (R r hr).sub _ m1⟩
  · rw [← getP_in n1 hp]
    intro k hk
    rw [getP_after D.nd] at hk
    by_cases a : getP d p.1 k = 0
    · exact ROk.sumS R p.1 k (by omega)
    · exact D.gsup p.1 k a
  · rw [← getP_in n1 hp, getP_after D.nd]
    have a := D.gbd p.1 k
    have b := ROk.bdS R p.1 k
    have c : rs.length * (6 * 2 ^ V) ≤ 20 * (6 * 2 ^ V) := Nat.mul_le_mul_right _ hn
    rw [Nat.pow_add]
    omega
variable (O : BaseOk U ks B)
include O
/-- after_rings, told whole -/
theorem afterR_eq (D : DOk U hs V d) (R : ∀ r ∈ rs, ROk U hs V r) (hn : rs.length ≤ 20) {qs : List (Str × Str)} {A : Str × Str → Fn} (hA : ∀ q, Alk ks B (getP (afterDo d rs) q) (A q)) (hq : ∀ q, nf (plainF ks B (A q)) U ≠ [] → q ∈ qs) : afterR ks B U d rs = tabP U qs fun q => plainF ks B (A q) := by
  have D2 := D.after R hn
  rw [afterR_tab]
  have e : (fun q => plainF ks B (getP (afterDo d rs) q)) = fun q => plainF ks B (A q) := funext fun q => O.same (hA q)
  rw [e]
  refine tabP_eq fun q h => ⟨?_, hq q h⟩
  rcases Decidable.em (q ∈ (afterDo d rs).map (·.1)) with y | y
  · exact y
  · exfalso
    apply h
    rw [← O.same (hA q), getP_out y, O.zero, nf_zero]
/-- the debts that it gives, as a function -/
theorem getP_afterR (D : DOk U hs V d) (R : ∀ r ∈ rs, ROk U hs V r) (hn : rs.length ≤ 20) (q : Str × Str) : getP (afterR ks B U d rs) q = plainF ks B (getP (afterDo d rs) q) := by
  have D2 := D.after R hn
  rw [afterR_tab]
  exact getP_tab (fun q => O.sup (D2.gsup q)) (fun q hq => by rw [getP_out hq, O.zero]) q
theorem DOk.afterR (D : DOk U hs V d) (R : ∀ r ∈ rs, ROk U hs V r) (hn : rs.length ≤ 20) (hV : V + 7 ≤ 671) : DOk U hs 1400 (afterR ks B U d rs) := by
  have D2 := D.after R hn
  rw [afterR_tab]
  refine ⟨tabP_nodup _ _ _, fun q hq => D2.key q (tabP_mem.mp hq).1, fun p hp => ?_, fun p hp k => ?_⟩
  · rw [tabP_val hp]
    exact O.sup (D2.gsup _)
  · rw [tabP_val hp]
    exact O.small (fun k => Nat.le_trans (D2.gbd _ k) (Nat.pow_le_pow_right (by decide) hV)) k
theorem afterR_same {d' : Debts} {rs' : List (List Str × Fn)} {V' : Nat} (D : DOk U hs V d) (R : ∀ r ∈ rs, ROk U hs V r) (hn : rs.length ≤ 20) (D' : DOk U hs V' d') (R' : ∀ r ∈ rs', ROk U hs V' r) (hn' : rs'.length ≤ 20)
    (h : ∀ q, Alk ks B (getP (afterDo d rs) q) (getP (afterDo d' rs') q)) : afterR ks B U d rs = afterR ks B U d' rs' := by
  rw [afterR_eq (qs := (afterDo d' rs').map (·.1)) O D R hn h fun q hq => ?_, afterR_tab]
  rcases Decidable.em (q ∈ (afterDo d' rs').map (·.1)) with y | y
  · exact y
  · exfalso
    apply hq
    rw [getP_out y, O.zero, nf_zero]
end
end Crt
end

section
/-! The nets; the laws of rings. -/
set_option autoImplicit false
namespace Crt
open PySem
def sg (q : Str × Str) (h : Str) : Int := (if q.1 = h then 1 else 0) - if q.2 = h then 1 else 0
def netL (l : Debts) (h : Str) : Fn := fun k => sumI (fun p => sg p.1 h * p.2 k) l
theorem getF_put (acc : List (Str × Fn)) (a j : Str) (f : Fn) : getF (putA acc a f) j = if j = a then f else getF acc j := by
  unfold getF
  rw [valA_put]
  split <;> rfl
theorem netStep_at (acc : List (Str × Fn)) (p : (Str × Str) × Fn) (h k : Str) : getF (netStep acc p) h k = getF acc h k + sg p.1 h * p.2 k := by
  unfold netStep sg
  rw [getF_put]
  by_cases h2 : h = p.1.2
  · rw [if_pos h2, if_pos (show p.1.2 = h from h2.symm), getF_put]
    by_cases h1 : p.1.2 = p.1.1
    · rw [if_pos h1, if_pos (show p.1.1 = h by rw [h2, h1])]
      show getF acc p.1.1 k + p.2 k - p.2 k = _
      rw [h2, h1]
      simp
    · rw [if_neg h1, if_neg (show ¬ p.1.1 = h from fun z => h1 (by rw [← h2, z]))]
      rw [h2]
      simp [Int.sub_eq_add_neg]
  · rw [if_neg h2, if_neg (show ¬ p.1.2 = h from fun z => h2 (Eq.symm z)), getF_put]
    by_cases h1 : h = p.1.1
    · rw [if_pos h1, if_pos (show p.1.1 = h from h1.symm), h1]
      simp
    · rw [if_neg h1, if_neg (show ¬ p.1.1 = h from fun z => h1 (Eq.symm z))]
      simp
theorem nets_at (h k : Str) : ∀ (l : Debts) (acc : List (Str × Fn)), getF (l.foldl netStep acc) h k = getF acc h k + netL l h k
  | [], acc => by
    show _ = _ + 0
    rw [Int.add_zero]
    rfl
  | p :: l, acc => by
    show getF (l.foldl netStep (netStep acc p)) h k = getF acc h k + (sg p.1 h * p.2 k + netL l h k)
    rw [nets_at h k l, netStep_at]
    omega
theorem netsOf_keys (d : Debts) : (netsOf d).map (·.1) = housesOf d := nets_keys (d := d) (fun _ h => h) (nets0_keys d)
theorem netsOf_at (d : Debts) (h : Str) : getF (netsOf d) h = netL d h := funext fun k => by
  unfold netsOf
  rw [nets_at]
  have z : getF (nets0 d) h k = 0 := by
    rw [nets0_eq]
    unfold getF
    rw [valA_mapf (f := fun _ => (0 : Int)) (k := h) (housesOf d) |> fun _ => (rfl : valA ((housesOf d).map fun h => (h, (fun _ => 0 : Fn))) h = valA ((housesOf d).map fun h => (h, (fun _ => 0 : Fn))) h)]
    cases e : valA ((housesOf d).map fun h => (h, (fun _ => 0 : Fn))) h with
    | none => rfl
    | some f =>
      obtain ⟨_, _, q⟩ := List.mem_map.mp (valA_mem e)
      have : f = fun _ => 0 := (congrArg Prod.snd q).symm
      rw [this]
      rfl
  rw [z]
  omega
theorem netsOf_mem {d : Debts} {p : Str × Fn} (h : p ∈ netsOf d) : p.1 ∈ housesOf d ∧ p.2 = netL d p.1 := by
  have hk : p.1 ∈ (netsOf d).map (·.1) := List.mem_map.mpr ⟨p, h, rfl⟩
  have nd : ((netsOf d).map (·.1)).Nodup := by
    rw [netsOf_keys]
    exact ascS_nodup (srtS_asc _)
  refine ⟨by rw [netsOf_keys] at hk; exact hk, ?_⟩
  rw [← netsOf_at]
  unfold getF
  rw [valA_nodup nd (k := p.1) (b := p.2) h]
  rfl
theorem netsOf_eq (d : Debts) : netsOf d = (housesOf d).map fun h => (h, netL d h) := by
  have : ∀ l : List (Str × Fn), (∀ p ∈ l, p.2 = netL d p.1) → l = (l.map (·.1)).map fun h => (h, netL d h) := fun l => by
    induction l with
    | nil => exact fun _ => rfl
    | cons p l ih =>
      intro h
      rw [List.map_cons, List.map_cons, ← ih fun q hq => h q (List.mem_cons_of_mem _ hq), ← h p List.mem_cons_self]
  rw [← netsOf_keys]
  exact this _ fun p hp => (netsOf_mem hp).2
theorem plainD_eq {ks : List Str} {B : List (List Int)} (d : Debts) : plainD ks B (netsOf d) = (housesOf d).map fun h => (h, plainF ks B (netL d h)) := by
  unfold plainD
  rw [filt_all, netsOf_eq, List.map_map]
  have := putAll_new (l := []) ((housesOf d).map ((fun p : Str × Fn => (p.1, plainF ks B p.2)) ∘ fun h => (h, netL d h))) (by
    rw [List.nil_append, List.map_map]
    show ((housesOf d).map fun h => h).Nodup
    rw [List.map_id']
    exact ascS_nodup (srtS_asc _))
  exact this
/-! ### the nets stay -/
theorem netL_map {q : Str × Str} {g : Fn} {h k : Str} : ∀ {acc : Debts}, (acc.map (·.1)).Nodup → q ∈ acc.map (·.1) → netL (acc.map fun p => if p.1 = q then (p.1, g) else p) h k = netL acc h k + sg q h * (g k - getP acc q k)
  | [], _, m => by cases m
  | p :: acc, nd, m => by
    obtain ⟨n1, n2⟩ := List.nodup_cons.mp nd
    show sg (if p.1 = q then (p.1, g) else p).1 h * (if p.1 = q then (p.1, g) else p).2 k + netL (acc.map fun p => if p.1 = q then (p.1, g) else p) h k = sg p.1 h * p.2 k + netL acc h k + _
    have gp : getP (p :: acc) q = if p.1 = q then p.2 else getP acc q := by
      unfold getP
      rw [valA_cons]
      split <;> rfl
    rw [gp]
    by_cases e : p.1 = q
    · rw [if_pos e, if_pos e]
      have idm : (acc.map fun p => if p.1 = q then (p.1, g) else p) = acc := by
        have : ∀ l : Debts, q ∉ l.map (·.1) → (l.map fun p => if p.1 = q then (p.1, g) else p) = l := fun l => by
          induction l with
          | nil => exact fun _ => rfl
          | cons x l ih =>
            intro hx
            rw [List.map_cons, if_neg (fun z => hx (by rw [List.map_cons, z]; exact List.mem_cons_self)), ih fun z => hx (by rw [List.map_cons]; exact List.mem_cons_of_mem _ z)]
        exact this acc (by rw [← e]; exact n1)
      rw [idm]
      show sg p.1 h * g k + _ = _
      rw [e, Int.mul_sub]
      omega
    · rw [if_neg e, if_neg e]
      rcases List.mem_cons.mp m with z | z
      · exact absurd (Eq.symm z) e
      · rw [netL_map n2 z]
        omega
theorem netL_app (l m : Debts) (h k : Str) : netL (l ++ m) h k = netL l h k + netL m h k := sumI_app l m
theorem netL_put {acc : Debts} {q : Str × Str} {g : Fn} {h k : Str} (nd : (acc.map (·.1)).Nodup) : netL (putA acc q g) h k = netL acc h k + sg q h * (g k - getP acc q k) := by
  unfold putA
  by_cases m : q ∈ acc.map (·.1)
  · rw [if_pos (by rw [any_key]; simpa using m)]
    exact netL_map nd m
  · rw [if_neg (by rw [any_key]; simpa using m), netL_app, getP_out m]
    show _ + (sg q h * g k + 0) = _ + sg q h * (g k - 0)
    rw [Int.sub_zero]
    omega
theorem sg_edge (e : Str × Str) (f : Fn) (h k : Str) : sg (edgeKey e) h * edgePart e f k = sg e h * f k := by
  unfold edgeKey edgePart sg
  by_cases z : ltSb e.1 e.2 = true
  · rw [if_pos z, if_pos z]
  · rw [if_neg z, if_neg z]
    show ((if e.2 = h then (1 : Int) else 0) - if e.1 = h then 1 else 0) * -f k = _
    rw [Int.mul_neg, ← Int.neg_mul, Int.neg_sub]
theorem netL_edges {f : Fn} {h k : Str} : ∀ {es : List (Str × Str)} {acc : Debts}, (acc.map (·.1)).Nodup → netL (es.foldl (edgeDo f) acc) h k = netL acc h k - zipS (fun a b => sg (a, b) h * f k) es
  | [], acc, _ => by
    show netL acc h k = netL acc h k - 0
    omega
  | e :: es, acc, nd => by
    show netL (es.foldl (edgeDo f) (edgeDo f acc e)) h k = netL acc h k - (sg (e.1, e.2) h * f k + zipS (fun a b => sg (a, b) h * f k) es)
    rw [netL_edges (show ((edgeDo f acc e).map (·.1)).Nodup from putA_nodup nd _ _)]
    have z : netL (edgeDo f acc e) h k = netL acc h k - sg e h * f k := by
      unfold edgeDo
      rw [netL_put nd]
      show _ + sg (edgeKey e) h * (getP acc (edgeKey e) k - edgePart e f k - getP acc (edgeKey e) k) = _
      rw [show getP acc (edgeKey e) k - edgePart e f k - getP acc (edgeKey e) k = -edgePart e f k by omega, Int.mul_neg, sg_edge]
      omega
    rw [z, show sg e h = sg (e.1, e.2) h from rfl]
    omega
theorem zipS_diff {α : Type} {u : α → Int} : ∀ {xs ys : List α}, xs.length = ys.length → zipS (fun a b => u a - u b) (xs.zip ys) = sumI u xs - sumI u ys
  | [], [], _ => rfl
  | [], _ :: _, h => by cases h
  | _ :: _, [], h => by cases h
  | x :: xs, y :: ys, h => by
    show u x - u y + zipS _ (xs.zip ys) = u x + sumI u xs - (u y + sumI u ys)
    rw [zipS_diff (xs := xs) (ys := ys) (Nat.succ.inj h)]
    omega
theorem ring_zero (row : List Str) (h : Str) (c : Int) : zipS (fun a b => sg (a, b) h * c) (edges row) = 0 := by
  have e : (fun a b : Str => sg (a, b) h * c) = fun a b => (fun x : Str => (if x = h then 1 else 0) * c) a - (fun x : Str => (if x = h then 1 else 0) * c) b := by
    funext a b
    unfold sg
    rw [Int.sub_mul]
  rw [e]
  unfold edges
  cases row with
  | nil => rfl
  | cons x r =>
    rw [zipS_diff (by simp)]
    show _ - sumI _ (r ++ [x]) = 0
    rw [sumI_app]
    show _ + sumI _ r - (sumI _ r + (_ + 0)) = 0
    omega
theorem netL_rings {h k : Str} : ∀ {rs : List (List Str × Fn)} {acc : Debts}, (acc.map (·.1)).Nodup → netL (rs.foldl ringDo acc) h k = netL acc h k
  | [], _, _ => rfl
  | r :: rs, acc, nd => by
    show netL (rs.foldl ringDo (ringDo acc r)) h k = _
    rw [netL_rings (show ((ringDo acc r).map (·.1)).Nodup from (edges_keys nd).1)]
    unfold ringDo
    rw [netL_edges nd, ring_zero]
    omega
theorem netL_after {d : Debts} (nd : (d.map (·.1)).Nodup) (rs : List (List Str × Fn)) (h : Str) : netL (afterDo d rs) h = netL d h := funext fun k => by
  unfold afterDo
  rw [debts0_eq nd, netL_rings nd]
/-- a net by keys -/
def netK (qs : List (Str × Str)) (A : Str × Str → Fn) (h : Str) : Fn := fun k => sumI (fun q => sg q h * A q k) qs
theorem sumI_perm {α : Type} {f : α → Int} {l m : List α} (p : l.Perm m) : sumI f l = sumI f m := by
  induction p with
  | nil => rfl
  | cons x _ ih =>
    show f x + _ = f x + _
    rw [ih]
  | swap x y l =>
    show f y + (f x + sumI f l) = f x + (f y + sumI f l)
    omega
  | trans _ _ h1 h2 => exact h1.trans h2
theorem sumI_filt {α : Type} {f : α → Int} {p : α → Bool} : ∀ {l : List α}, (∀ x ∈ l, p x = false → f x = 0) → sumI f (l.filter p) = sumI f l
  | [], _ => rfl
  | x :: l, h => by
    have ih := sumI_filt (f := f) (p := p) (l := l) fun y hy => h y (List.mem_cons_of_mem _ hy)
    rw [List.filter_cons]
    cases e : p x with
    | true =>
      rw [if_pos rfl]
      show f x + _ = f x + _
      rw [ih]
    | false =>
      rw [if_neg Bool.false_ne_true, ih]
      show _ = f x + _
      rw [h x List.mem_cons_self e]
      omega
theorem sumI_map {α β : Type} {f : β → Int} (g : α → β) : ∀ l : List α, sumI f (l.map g) = sumI (fun x => f (g x)) l
  | [] => rfl
  | x :: l => by
    show f (g x) + _ = f (g x) + _
    rw [sumI_map g l]
theorem netL_keys {acc : Debts} (nd : (acc.map (·.1)).Nodup) (h : Str) : netL acc h = netK (acc.map (·.1)) (getP acc) h := funext fun k => by
  unfold netL netK
  rw [sumI_map]
  have : ∀ l : Debts, (∀ p ∈ l, getP acc p.1 = p.2) → sumI (fun p : (Str × Str) × Fn => sg p.1 h * p.2 k) l = sumI (fun p : (Str × Str) × Fn => sg p.1 h * getP acc p.1 k) l := fun l => by
    induction l with
    | nil => exact fun _ => rfl
    | cons p l ih =>
      intro hl
      show sg p.1 h * p.2 k + _ = sg p.1 h * getP acc p.1 k + _
      rw [ih fun q hq => hl q (List.mem_cons_of_mem _ hq), hl p List.mem_cons_self]
  exact this acc fun p hp => getP_in nd hp
theorem netL_tab {U : List Str} {qs : List (Str × Str)} {A : Str × Str → Fn} (nd : qs.Nodup) (hs : ∀ q, Sup (A q) U) (h : Str) : netL (tabP U qs A) h = netK qs A h := funext fun k => by
  unfold netL tabP netK
  rw [sumI_map]
  show sumI (fun q => sg q h * A q k) _ = _
  rw [sumI_filt fun q _ e => ?_]
  · refine sumI_perm ?_
    exact (List.perm_ext_iff_of_nodup (ascP_nodup (srtP_asc qs)) nd).mpr fun q => srtP_mem
  · have z : nf (A q) U = [] := by
      have : (nf (A q) U).isEmpty = true := by simpa using e
      simpa using this
    rw [nf_none (hs q) z]
    exact Int.mul_zero _
theorem netK_alk {ks : List Str} {B : List (List Int)} {A A' : Str × Str → Fn} (hA : ∀ q, Alk ks B (A q) (A' q)) (h : Str) : ∀ qs, Alk ks B (netK qs A h) (netK qs A' h)
  | [] => Alk.refl _
  | q :: qs => by
    have z := (netK_alk hA h qs).add (sg q h) (hA q)
    have e : ∀ A : Str × Str → Fn, netK (q :: qs) A h = fun j => netK qs A h j + sg q h * A q j := fun A => funext fun k => by
      show sg q h * A q k + netK qs A h k = _
      omega
    rw [e, e]
    exact z
theorem netL_out {d : Debts} {h : Str} (hh : h ∉ housesOf d) : netL d h = fun _ => 0 := funext fun k => sumI_zero fun p hp => by
  obtain ⟨a, b⟩ := mem_houses hp
  unfold sg
  rw [if_neg (fun z => hh (by rw [← z]; exact a)), if_neg (fun z => hh (by rw [← z]; exact b))]
  simp
/-- the told nets -/
def toldN (ks : List Str) (B : List (List Int)) (U : List Str) (d : Debts) : List (Str × List (Str × Int)) := ((housesOf d).filter fun h => !(nf (plainF ks B (netL d h)) U).isEmpty).map fun h => (h, nf (plainF ks B (netL d h)) U)
section
variable {U ks hs : List Str} {B : List (List Int)} {V : Nat} {d : Debts} {rs : List (List Str × Fn)} (O : BaseOk U ks B)
include O
theorem net_alk (D : DOk U hs V d) (R : ∀ r ∈ rs, ROk U hs V r) (hn : rs.length ≤ 20) (h : Str) : Alk ks B (netL (afterR ks B U d rs) h) (netL d h) := by
  have D2 := D.after R hn
  rw [afterR_tab, netL_tab D2.nd (fun q => O.sup (D2.gsup q)), ← netL_after D.nd rs, netL_keys D2.nd]
  exact netK_alk (fun q => (O.eqv _).symm) h _
/-- the nets are the same -/
theorem told_same (D : DOk U hs V d) (R : ∀ r ∈ rs, ROk U hs V r) (hn : rs.length ≤ 20) : toldN ks B U (afterR ks B U d rs) = toldN ks B U d := by
  have e : ∀ h, plainF ks B (netL (afterR ks B U d rs) h) = plainF ks B (netL d h) := fun h => O.same (net_alk O D R hn h)
  have z : ∀ {d' : Debts} {h : Str}, nf (plainF ks B (netL d' h)) U ≠ [] → h ∈ housesOf d' := fun {d' h} hne => by
    rcases Decidable.em (h ∈ housesOf d') with y | y
    · exact y
    · exfalso
      apply hne
      rw [netL_out y, O.zero, nf_zero]
  unfold toldN
  have e2 : ((housesOf (afterR ks B U d rs)).filter fun h => !(nf (plainF ks B (netL (afterR ks B U d rs) h)) U).isEmpty) = (housesOf d).filter fun h => !(nf (plainF ks B (netL d h)) U).isEmpty := by
    refine ascS_uniq ((srtS_asc _).filter _) ((srtS_asc _).filter _) fun h => ?_
    rw [List.mem_filter, List.mem_filter, isE_iff, isE_iff, e h]
    refine ⟨fun y => ⟨z y.2, y.2⟩, fun y => ⟨?_, y.2⟩⟩
    have y2 := y.2
    rw [← e h] at y2
    exact z y2
  rw [e2]
  refine List.map_congr_left fun h _ => ?_
  rw [e h]
theorem ROk.up {V' : Nat} (l : V ≤ V') {r : List Str × Fn} (R : ROk U hs V r) : ROk U hs V' r := ⟨R.nd, R.l3, R.l6, R.sub, R.sup, fun k => Nat.le_trans (R.bd k) (Nat.pow_le_pow_right (by decide) l)⟩
/-- in two parts -/
theorem after_two {a b c : List (List Str × Fn)} (D : DOk U hs V d) (hV : V + 7 ≤ 671) (Ra : ∀ r ∈ a, ROk U hs V r) (Rb : ∀ r ∈ b, ROk U hs V r) (Rc : ∀ r ∈ c, ROk U hs V r) (na : a.length ≤ 20) (nb : b.length ≤ 20) (nc : c.length ≤ 20)
    (hsum : ∀ q k, sumI (ringS q k) c = sumI (ringS q k) a + sumI (ringS q k) b) : afterR ks B U (afterR ks B U d a) b = afterR ks B U d c := by
  have D1 := DOk.afterR O D Ra na hV
  refine afterR_same O D1 (fun r hr => ROk.up O (by omega) (Rb r hr)) nb D Rc nc fun q => ?_
  have e1 : getP (afterDo (afterR ks B U d a) b) q = fun k => plainF ks B (getP (afterDo d a) q) k + -1 * sumI (ringS q k) b := funext fun k => by
    rw [getP_after D1.nd, getP_afterR O D Ra na]
    omega
  have e2 : getP (afterDo d c) q = fun k => getP (afterDo d a) q k + -1 * sumI (ringS q k) b := funext fun k => by
    rw [getP_after D.nd, getP_after D.nd, hsum]
    omega
  rw [e1, e2]
  exact (O.eqv _).symm.add (-1) (Alk.refl _)
/-- other rings that add up to the same -/
theorem after_sum {a b : List (List Str × Fn)} {V' : Nat} (D : DOk U hs V d) (Ra : ∀ r ∈ a, ROk U hs V r) (Rb : ∀ r ∈ b, ROk U hs V' r) (na : a.length ≤ 20) (nb : b.length ≤ 20) (D' : DOk U hs V' d)
    (hsum : ∀ q k, sumI (ringS q k) a = sumI (ringS q k) b) : afterR ks B U d a = afterR ks B U d b := by
  refine afterR_same O D Ra na D' Rb nb fun q => ?_
  have e : getP (afterDo d a) q = getP (afterDo d b) q := funext fun k => by
    rw [getP_after D.nd, getP_after D.nd, hsum]
  rw [e]
  exact Alk.refl _
end
/-! ### how many debts -/
def pairsS : List Str → List (Str × Str)
  | [] => []
  | a :: s => s.map (fun b => (a, b)) ++ pairsS s
theorem pairsS_mem {x y : Str} : ∀ {s : List Str}, s.Pairwise ltS → x ∈ s → y ∈ s → ltS x y → (x, y) ∈ pairsS s
  | [], _, h, _, _ => by cases h
  | a :: s, asc, hx, hy, lt => by
    obtain ⟨h1, h2⟩ := List.pairwise_cons.mp asc
    show _ ∈ s.map (fun b => (a, b)) ++ pairsS s
    rcases List.mem_cons.mp hx with e | e
    · rcases List.mem_cons.mp hy with e2 | e2
      · rw [e, e2] at lt
        exact absurd lt (ltS_irrefl a)
      · rw [e]
        exact List.mem_append_left _ (List.mem_map.mpr ⟨y, e2, rfl⟩)
    · rcases List.mem_cons.mp hy with e2 | e2
      · rw [e2] at lt
        exact absurd (ltS_trans lt (h1 x e)) (ltS_irrefl x)
      · exact List.mem_append_right _ (pairsS_mem h2 e e2 lt)
theorem pairsS_len : ∀ (s : List Str), 2 * (pairsS s).length + s.length = s.length * s.length
  | [] => rfl
  | a :: s => by
    have ih := pairsS_len s
    show 2 * (s.map _ ++ pairsS s).length + (s.length + 1) = (s.length + 1) * (s.length + 1)
    rw [List.length_append, List.length_map, Nat.mul_add, Nat.mul_add, Nat.add_mul]
    omega
theorem DOk.len {U hs : List Str} {V : Nat} {d : Debts} (D : DOk U hs V d) (h6 : hs.length ≤ 6) : d.length ≤ 15 := by
  have sl : (srtS hs).length ≤ 6 := Nat.le_trans (nodup_le (ascS_nodup (srtS_asc hs)) fun x h => srtS_mem.mp h) h6
  have z := nodup_le D.nd (D := pairsS (srtS hs)) fun q hq => by
    obtain ⟨a, b, c⟩ := D.key q hq
    exact pairsS_mem (srtS_asc hs) (srtS_mem.mpr b) (srtS_mem.mpr c) a
  rw [List.length_map] at z
  have l := pairsS_len (srtS hs)
  have m : (srtS hs).length * (srtS hs).length ≤ 6 * (srtS hs).length := Nat.mul_le_mul_right _ sl
  omega
theorem DOk.net_bd {U hs : List Str} {V : Nat} {d : Debts} (D : DOk U hs V d) (h6 : hs.length ≤ 6) (h k : Str) : (netL d h k).natAbs ≤ 2 ^ (V + 4) := by
  have l := D.len h6
  have z := sumI_bd (f := fun p : (Str × Str) × Fn => sg p.1 h * p.2 k) (n := 2 ^ V) (l := d) fun p hp => by
    have b := D.bd p hp k
    have s : (sg p.1 h).natAbs ≤ 1 := by
      unfold sg
      split <;> split <;> decide
    rw [Int.natAbs_mul]
    have : (sg p.1 h).natAbs * (p.2 k).natAbs ≤ 1 * (p.2 k).natAbs := Nat.mul_le_mul_right _ s
    omega
  have m : d.length * 2 ^ V ≤ 16 * 2 ^ V := Nat.mul_le_mul_right _ (by omega)
  show (sumI _ d).natAbs ≤ _
  rw [Nat.pow_add]
  omega
end Crt
end

section
/-! Load.of as called; _law_exchanges. -/
set_option autoImplicit false
namespace Crt
open PySem PySem.Spec PyProof.Rows L2
/-- a classmethod that keeps a promise -/
def ClM (P : Program) (w : World) (K : PySem.W.Frag) (mg : Str → Option Value) (base : Heap) (k : Nat) (C : Addr) (m : Str) (sp : Sp) : Prop := ∃ mc p g, ClX.CRead K C mc ∧ ClX.CMet K C mc m p g ∧ FnR P w K mg base C8.CX0 k g sp
/-- the classmethod as it stands -/
def ClMF (K : PySem.W.Frag) (C : Addr) (m q : Str) (st : Stmt) : Prop := ∃ mc p g, ClX.CRead K C mc ∧ ClX.CMet K C mc m p g ∧ MFn K m q st g
section
variable {P : Program} {w : World} {K : PySem.W.Frag} {mg : Str → Option Value} {base : Heap}
theorem fnR_of {k : Nat} {f : Addr} {sp : Sp} (c : C8.CalAt P w K mg base k f sp) : FnR P w K mg base C8.CX0 k f sp := by
  obtain ⟨fd, ps, F, _, b⟩ := c
  exact (FnOk.raw F b .nil).imp fun vs H Q E h => by
    rw [List.append_nil]
    exact h
theorem ClMF.clm {k : Nat} {C : Addr} {m q : Str} {st : Stmt} {sp : Sp} (D : ClMF K C m q st) (h : ∀ f, MFn K m q st f → C8.CalAt P w K mg base k f sp) : ClM P w K mg base k C m sp := by
  obtain ⟨mc, p, g, h1, h2, h3⟩ := D
  exact ⟨mc, p, g, h1, h2, fnR_of (h g h3)⟩
end
section
variable {X : Cx} {k j : Nat} {C : Addr} {m : Str} {sp : Sp} {o e : Expr} {es : List Expr} {ta : TE} {t : TA} {apos pos : Pos} {pl : Sem Bool}
theorem pe_clm (D : ClM X.prog X.w X.K X.mg X.base k C m sp) (hr : Room j X.A) (hk : k ≤ j) (he : PE X o ta) (ha : PA X (e :: es) t)
    (hst : starEach (e :: es) X.env = (false, eval e X.env) :: starEach es X.env := by rfl) (hpl : (backTo pos (starEach es X.env)).any (·.1) = false := by rfl)
    (ht : eval (.Call (.Attribute o m apos) (e :: es) [] pos) X.env = (do
      let ov ← eval o X.env
      standAt apos.atName
      let (f, first) ← holding [ov] (getMethod ov m pl)
      callWith pos f first (backTo pos (starEach (e :: es) X.env)) (backToKw pos (keywordEach [] X.env))) := by rfl) : PE X (.Call (.Attribute o m apos) (e :: es) [] pos) (ClX.tCMeth C sp C8.E0 ta t) := by
  obtain ⟨mc, p, g, r, c, F⟩ := D
  exact ClX.pe_cmeth he r c F (hr.mono hk) C8.pass0 ha hst hpl ht
end
section
variable {cs : Held} {σ : L2.St} {G : Hp} {ta : TE} {C : Addr} {U : List Str} {l : List (Str × Int)}
/-- Load.of(counts) -/
theorem gv_of (h : Gv cs ta σ G (Cnt l)) (hl : l.length ≤ 15) (hk : ∀ k ∈ l.map (·.1), k ∈ U) (hw : ∀ k ∈ U, Word k) (hU : U.length ≤ 6) : Gv cs (ClX.tCMeth C (spOf C) C8.E0 (tC (.ref C)) (tCons ta tNil)) σ G (LdR C U (fnOfT l)) := fun H a c Q q =>
  ⟨rfl, ga_1 h H a c _ fun vs G1 H1 s1 u1 => by
    obtain ⟨v, rfl, hv⟩ := u1.now
    exact ⟨(l, fnOfT l, U), G1, s1.gh, ⟨v, rfl, hv, hl, fun k hk2 => hw k (hk k hk2), rfl, fun k hk2 => hk k (sup_table l k hk2), hU⟩, fun v G2 H2 s2 u2 => q v G2 H2 (s1.trans s2) u2⟩⟩
end
theorem is1 {α : Type} : ∀ {l : List α}, l.length = 1 → ∃ a, l = [a]
  | [a], _ => ⟨a, rfl⟩
theorem is2 {α : Type} : ∀ {l : List α}, l.length = 2 → ∃ a b, l = [a, b]
  | [a, b], _ => ⟨a, b, rfl⟩
theorem is3 {α : Type} : ∀ {l : List α}, l.length = 3 → ∃ a b c, l = [a, b, c]
  | [a, b, c], _ => ⟨a, b, c, rfl⟩
theorem is4 {α : Type} : ∀ {l : List α}, l.length = 4 → ∃ a b c d, l = [a, b, c, d]
  | [a, b, c, d], _ => ⟨a, b, c, d, rfl⟩
theorem side_fn {U : List Str} {l : List (Str × Int)} (h : SideL U l) : Side (fnOfT l) := fun k => by
  unfold fnOfT
  cases e : valA l k with
  | none => exact ⟨Int.le_refl _, by decide⟩
  | some i => exact ⟨(h.2.2 (k, i) (valA_mem e)).2.1, (h.2.2 (k, i) (valA_mem e)).2.2⟩
theorem side_keys {U : List Str} {l : List (Str × Int)} (h : SideL U l) : ∀ k ∈ l.map (·.1), k ∈ U := fun k hk => by
  obtain ⟨q, hq, rfl⟩ := List.mem_map.mp hk
  exact (h.2.2 q hq).1
/-- the pairs as functions -/
def psOf (prs : List (List (Str × Int) × List (Str × Int))) : List (Fn × Fn) := prs.map fun q => (fnOfT q.1, fnOfT q.2)
/-- rules that are made, with a basis that fits -/
def RulR (E : Addr) (U : List Str) : PV := fun v G => ∃ ks B, BaseOk U ks B ∧ ExR E (ks, B) v G
def spEx (E : Addr) : Sp := SpF (α := List (List (Str × Int) × List (Str × Int)) × List Str) (fun x vs G => ∃ v, vs = [v] ∧ LstR (PairR Cnt Cnt) x.1 v G ∧ x.1.length ≤ 4 ∧ (∀ q ∈ x.1, SideL x.2 q.1 ∧ SideL x.2 q.2) ∧ x.2.length ≤ 5 ∧ ∀ k ∈ x.2, Word k) (fun x => RulR E x.2)
section
variable {P : Program} {w : World} {K : PySem.W.Frag} {mg : Str → Option Value} {base : Heap} {C E : Addr}
theorem ok_exchanges (F : Dfn K mg "_law_exchanges" (top 64)) (ml : mg "len" = none) (mC : MgV mg "Load" (.ref C)) (mE : mg "Exchanges" = some (.ref E)) (D : ClM P w K mg base 5 C "of" (spOf C)) (M : MkE P w K mg base 11 C E) : CalP P w K mg base 13 "_law_exchanges" (spEx E) := by
  refine cal_of (N := ["_law_pairs", "_law_rows", "_law_left", "_law_right"]) (ps := ["_law_pairs"]) F (by decide +kernel) ?_ (fun _ _ _ _ _ _ us hl => match us, hl with | [_], _ => rfl) ?_
  · rintro vs H Q E ⟨x, G, _, ⟨v, e, _⟩, _⟩
    rw [e] <;> rfl
  · intro nd cdv f A outer s H vs Q E' hr h
    refine ⟨_, pss_cons (ps_setLc (i := 1) (own := [("_law_left", 2), ("_law_right", 3)]) (g := gTup K 2 (gCons (gName 2) (gCons (gName 3) gNil))) (tt := tYes) (te := tTup (tCons (ClX.tCMeth C (spOf C) C8.E0 (tC (.ref C)) (tCons (tVar 2) tNil)) (tCons (ClX.tCMeth C (spOf C) C8.E0 (tC (.ref C)) (tCons (tVar 3) tNil)) tNil))) rfl nd rfl rfl (sw_true rfl rfl rfl (by decide +kernel)) (pi_list (pv 0)) (blkOk_by (N := ["_law_pairs", "_law_rows", "_law_left", "_law_right"]) (sc := C8.fnScope (top 64)) (by decide +kernel)) (fun _ _ _ _ _ => pg_tup rfl (pgs_cons (pg_name (i := 2) nd rfl (Or.inl rfl)) (pgs_cons (pg_name (i := 3) nd rfl (Or.inl rfl)) pgs_nil))) (fun _ _ _ _ _ => pts_nil)
        (fun _ _ _ _ _ => pe_tup (pa_cons (pe_clm D hr (by decide) (C8.pe_gc rfl mC) (pa_cons (pv 2) pa_nil)) (pa_cons (pe_clm D hr (by decide) (C8.pe_gc rfl mC) (pa_cons (pv 3) pa_nil)) pa_nil))))
      (pss_cons (ps_if (pt_cmpR op_lt (pe_callB call_len_seq rfl ml boot_len (pa_cons (pv 1) pa_nil)) pe_int (nomark _)) (pss_one (ps_ret (pe_ifExp (pt_cmpR (op_eqL0 hr.units0) (pv 1) (pe_lst pa_nil) (nomark _)) (pe_mkE0 M hr (by decide) rfl mE) (pe_mkE M hr (by decide) rfl mE (pa_cons (pe_ix ix_list (pv 1) pe_int (fun _ _ => rfl)) pa_nil))))) pss_nil)
      (pss_cons (ps_if (pt_cmpR op_eq (pe_callB call_len_seq rfl ml boot_len (pa_cons (pv 1) pa_nil)) pe_int (nomark _)) (pss_one (ps_ret (pe_mkE M hr (by decide) rfl mE (pa_cons (pe_ix ix_list (pv 1) pe_int (fun _ _ => rfl)) (pa_cons (pe_ix ix_list (pv 1) pe_int (fun _ _ => rfl)) pa_nil))))) pss_nil)
      (pss_one (ps_ret (pe_ifExp (pt_cmpR op_eq (pe_callB call_len_seq rfl ml boot_len (pa_cons (pv 1) pa_nil)) pe_int (nomark _)) (pe_mkE M hr (by decide) rfl mE (pa_cons (pe_ix ix_list (pv 1) pe_int (fun _ _ => rfl)) (pa_cons (pe_ix ix_list (pv 1) pe_int (fun _ _ => rfl)) (pa_cons (pe_ix ix_list (pv 1) pe_int (fun _ _ => rfl)) pa_nil)))) (pe_mkE M hr (by decide) rfl mE (pa_cons (pe_ix ix_list (pv 1) pe_int (fun _ _ => rfl)) (pa_cons (pe_ix ix_list (pv 1) pe_int (fun _ _ => rfl)) (pa_cons (pe_ix ix_list (pv 1) pe_int (fun _ _ => rfl)) (pa_cons (pe_ix ix_list (pv 1) pe_int (fun _ _ => rfl)) pa_nil))))))))))
      , ?_⟩
    obtain ⟨⟨prs, U⟩, G, eG, ⟨v, rfl, hx, hn, hsd, hU, hw⟩, k⟩ := h
    dsimp only at hx hn hsd hU hw k
    have ux := (mon_lst (mon_pair mon_cnt mon_cnt)).up hx
    have hpn : (psOf prs).length ≤ 4 := by
      unfold psOf
      rw [List.length_map]
      exact hn
    obtain ⟨b, rest, mk, bok⟩ := mk_ex (U := U) hpn (fun q hq => by
      obtain ⟨r, hr, rfl⟩ := List.mem_map.mp hq
      exact ⟨side_fn (hsd r hr).1, side_fn (hsd r hr).2⟩) hU
    show tSeq _ _ _ [some v, none, none, none] H
    refine seq_go (set_gv (cs := []) (φ := LstR (PrL C U) (psOf prs)) (gv_map (f := fun q : List (Str × Int) × List (Str × Int) => (fnOfT q.1, fnOfT q.2)) mon_prL (src_list (mon_pair mon_cnt mon_cnt) (gv_var rfl ux)) (by omega) ?_) eG hold_nil fun v1 G1 H1 s1 u1 => ?_)
    · rintro z q G2 hq e2 uz
      obtain ⟨t, x, y, rfl, ht, hx1, hy1⟩ := uz.now
      have h12 := hsd q hq
      have l1 := h12.1.1
      have l2 := h12.2.1
      exact ⟨_, tg_pair ht, rfl, gv_pair mon_ldU mon_ldU (gv_of (gv_var rfl (mon_cnt.up hx1)) (by omega) (side_keys h12.1) hw (by omega)) (gv_of (gv_var rfl (mon_cnt.up hy1)) (by omega) (side_keys h12.2) hw (by omega))⟩
    dsimp only
    show tSeq _ _ _ [some v, some v1, none, none] H1
    have gmk : ∀ {ta : TA} {G2 : Hp}, GvA [] ta [some v, some v1, none, none] G2 (PrA (PrL C U) (psOf prs)) → Gv [] (tMkE C E ta) [some v, some v1, none, none] G2 (RulR E U) := fun {ta G2} ha => (gv_mkE mk ha).imp fun v G h => ⟨_, _, bok, h⟩
    clear hsd
    generalize psOf prs = ps at *
    have lenG : ∀ {G2 : Hp}, Same G1 G2 → Gv [] (tCB (fun xs H Q => ∃ p ys, xs = [.ref p] ∧ (SqL K H p ys ∨ SqT K H p ys) ∧ Q (.int ys.length) H) (tCons (tVar 1) tNil)) [some v, some v1, none, none] G2 (IsI (ps.length : Int)) := fun {G2} e => gv_lenL (gv_var rfl (u1.on e))
    refine seq_go (if_gv (cs := []) (b := decide ((ps.length : Int) < 2)) (gt_test (gv_I0 (g := fun i j => .bl (decide (i < j))) (lenG (Same.refl _)) gv_ci)) s1.gh hold_nil fun G2 H2 s2 => ?_)
    have ix : ∀ {G2 : Hp} (i : Nat) {q : Fn × Fn}, Same G1 G2 → ps[i]? = some q → Gv [] (tOp (rIxL K) (tVar 1) (tC (.int (i : Int)))) [some v, some v1, none, none] G2 (PrL C U q) := fun {G2} i q e h => gv_ixL mon_prL (gv_var rfl (u1.on e)) gv_ci h
    by_cases c2 : ps.length < 2
    · rw [if_pos (decide_eq_true (by omega))]
      refine ret_gv (cs := []) (φ := RulR E U) (gv_if (b := ps.isEmpty) (gt_test (gv_eqL0 mon_prL (gv_var rfl (u1.on s2.gg)))) (fun z => ?_) fun z => ?_) s2.gh hold_nil fun v3 G3 H3 s3 u3 => k v3 G3 H3 (s1.trans (s2.trans s3)) u3
      · obtain rfl : ps = [] := by simpa using z
        exact gmk ga_nilP
      · obtain ⟨q1, rfl⟩ : ∃ a, ps = [a] := is1 (by
          cases ps with
          | nil => cases z
          | cons a l =>
            rw [List.length_cons] at c2 ⊢
            omega)
        exact gmk (ga_consP mon_prL (ix 0 s2.gg rfl) ga_nilP)
    · rw [if_neg (fun z => c2 (by have := of_decide_eq_true z; omega))]
      refine nx_go ?_
      dsimp only
      refine seq_go (if_gv (cs := []) (b := decide (V.int (ps.length : Int) = V.int 2)) (gt_test (gv_eq (lenG s2.gg) (gv_c (up_c rfl)) rfl)) s2.gh hold_nil fun G3 H3 s3 => ?_)
      have e13 := s2.gg.trans s3.gg
      by_cases c3 : ps.length = 2
      · rw [if_pos (decide_eq_true (by rw [c3]; rfl))]
        refine ret_gv (cs := []) (φ := RulR E U) ?_ s3.gh hold_nil fun v3 G4 H4 s4 u3 => k v3 G4 H4 (s1.trans (s2.trans (s3.trans s4))) u3
        obtain ⟨q1, q2, rfl⟩ := is2 c3
        exact gmk (ga_consP mon_prL (ix 0 e13 rfl) (ga_consP mon_prL (ix 1 e13 rfl) ga_nilP))
      · rw [if_neg (fun z => c3 (by have := V.int.inj (of_decide_eq_true z); omega))]
        refine nx_go ?_
        dsimp only
        refine ret_gv (cs := []) (φ := RulR E U) (gv_if (b := decide (V.int (ps.length : Int) = V.int 3)) (gt_test (gv_eq (lenG e13) (gv_c (up_c rfl)) rfl)) (fun z => ?_) fun z => ?_) s3.gh hold_nil fun v3 G4 H4 s4 u3 => k v3 G4 H4 (s1.trans (s2.trans (s3.trans s4))) u3
        · have c4 : ps.length = 3 := by have := V.int.inj (of_decide_eq_true z); omega
          clear z
          obtain ⟨q1, q2, q3, rfl⟩ := is3 c4
          exact gmk (ga_consP mon_prL (ix 0 e13 rfl) (ga_consP mon_prL (ix 1 e13 rfl) (ga_consP mon_prL (ix 2 e13 rfl) ga_nilP)))
        · have c4 : ps.length = 4 := by
            have : ps.length ≠ 3 := fun y => (of_decide_eq_false z) (by rw [y]; rfl)
            omega
          clear z
          obtain ⟨q1, q2, q3, q4, rfl⟩ := is4 c4
          exact gmk (ga_consP mon_prL (ix 0 e13 rfl) (ga_consP mon_prL (ix 1 e13 rfl) (ga_consP mon_prL (ix 2 e13 rfl) (ga_consP mon_prL (ix 3 e13 rfl) ga_nilP))))
end
end Crt
end

section
/-! dict(pairs), the keys tuples. -/
set_option autoImplicit false
namespace Crt
open PySem PySem.Spec PyProof.Rows L2
def putAllT (kvs : List ((List Key × Addr) × V)) : List (List Key × V) := kvs.foldl (fun acc kv => putK acc kv.1.1 kv.2) []
abbrev rDictT (K : PySem.W.Frag) : List V → Hp → VK → Prop := fun xs H Q => ∃ (a : Addr) (ps : List Addr) (kvs : List ((List Key × Addr) × V)), xs = [.ref a] ∧ SqL K H a (ps.map V.ref) ∧ Paired (fun p kv => SqT K H p [.ref kv.1.2, kv.2] ∧ H kv.1.2 = some (.tup (kv.1.1.map kV))) ps kvs ∧ ∀ d, H d = none → Q (.ref d) (upd H d (.dT (putAllT kvs)))
section
variable {X : Cx}
theorem pairs_ofT {pins : List (Addr × Obj)} {σ : L2.St} {H : Hp} {s : Shared} (I : Inv X pins σ H s) : ∀ {ps : List Addr} {kvs : List ((List Key × Addr) × V)}, Paired (fun p kv => SqT X.K H p [.ref kv.1.2, kv.2] ∧ H kv.1.2 = some (.tup (kv.1.1.map kV))) ps kvs →
    ∃ us : List Value, us.length = ps.length ∧ Paired (fun (kv : (List Key × Addr) × V) (u : Value) => RelV kv.2 u) kvs us ∧ ∀ (j : Nat) (kv : (List Key × Addr) × V) (u : Value), kvs[j]? = some kv → us[j]? = some u → ∃ b, ps[j]? = some b ∧ IsTup s.heap b #[.ref kv.1.2, u]
  | _, _, .nil => ⟨[], rfl, .nil, fun j kv u e => by simp at e⟩
  | _, _, .cons (a := p) (b := kv) h t => by
    obtain ⟨us, e1, e2, e3⟩ := pairs_ofT I t
    obtain ⟨its, rv, ht, _⟩ := I.tuple h.1
    obtain ⟨u, y, ei, ru, ry⟩ := vals2 rv
    subst ei
    obtain rfl : u = Value.ref kv.1.2 := ru
    refine ⟨y :: us, by rw [List.length_cons, List.length_cons, e1], .cons ry e2, fun j q z hq hz => ?_⟩
    cases j with
    | zero =>
      obtain rfl : kv = q := Option.some.inj hq
      obtain rfl : y = z := Option.some.inj hz
      exact ⟨p, rfl, ht⟩
    | succ j =>
      obtain ⟨b, h1, h2⟩ := e3 j q z (by simpa using hq) (by simpa using hz)
      exact ⟨b, by simpa using h1, h2⟩
def psH : List ((List Key × Addr) × V) → List Value → List (List Key × Addr × Value)
  | kv :: kvs, u :: us => (kv.1.1, kv.1.2, u) :: psH kvs us
  | _, _ => []
theorem psH_len : ∀ {kvs : List ((List Key × Addr) × V)} {us : List Value}, kvs.length = us.length → (psH kvs us).length = us.length
  | [], [], _ => rfl
  | [], _ :: _, h => by cases h
  | _ :: _, [], h => by cases h
  | kv :: kvs, u :: us, h => by
    show (psH kvs us).length + 1 = us.length + 1
    rw [psH_len (Nat.succ.inj h)]
theorem psH_at : ∀ {kvs : List ((List Key × Addr) × V)} {us : List Value} {j : Nat} {x : List Key × Addr × Value}, (psH kvs us)[j]? = some x → ∃ kv u, kvs[j]? = some kv ∧ us[j]? = some u ∧ x = (kv.1.1, kv.1.2, u)
  | [], _, j, x, h => by simp [psH] at h
  | _ :: _, [], j, x, h => by simp [psH] at h
  | kv :: kvs, u :: us, 0, x, h => by
    have e : (kv.1.1, kv.1.2, u) = x := Option.some.inj h
    exact ⟨kv, u, rfl, rfl, e.symm⟩
  | kv :: kvs, u :: us, j + 1, x, h => by
    obtain ⟨kv', u', h1, h2, h3⟩ := psH_at (kvs := kvs) (us := us) (j := j) (x := x) h
    exact ⟨kv', u', by simpa using h1, by simpa using h2, h3⟩
theorem kt_all {H : Hp} : ∀ {kvs : List ((List Key × Addr) × V)} {us : List Value}, Paired (fun (kv : (List Key × Addr) × V) (u : Value) => RelV kv.2 u) kvs us → (∀ kv ∈ kvs, H kv.1.2 = some (.tup (kv.1.1.map kV))) → ∀ {acc : List (List Key × V)} {xs : List (List Key × Addr × Value)}, KT H acc xs → KT H (kvs.foldl (fun acc kv => putK acc kv.1.1 kv.2) acc) (storedAllH xs (psH kvs us))
  | _, _, .nil, _, _, _, r => r
  | _, _, .cons h t, hm, acc, xs, r => by
    exact kt_all t (fun kv hk => hm kv (List.mem_cons_of_mem _ hk)) (r.put _ (hm _ List.mem_cons_self) h)
theorem call_dictT (hcalm : X.calm = true) (hu : X.A.units + 64 < cLine) : CallR X (.type "dict") (rDictT X.K) := by
  intro pins s σ H xs us Q I r q
  obtain ⟨a, ps, kvs, ex, hq, hp, q⟩ := q
  subst ex
  obtain ⟨u, eu, rx⟩ := vals1 r
  subst eu
  cases rx
  obtain ⟨its, rv, pl, hz⟩ := I.list hq
  have ei := refs_at rv
  subst ei
  rw [List.length_map] at hz
  obtain ⟨vs, e1, e2, e3⟩ := pairs_ofT I hp
  have hkl : kvs.length = ps.length := hp.length.symm
  have hkv : kvs.length = vs.length := e2.length
  have hmem : ∀ kv ∈ kvs, H kv.1.2 = some (.tup (kv.1.1.map kV)) := by
    clear q hq rv pl e1 e2 e3 hkl hkv hz
    induction hp with
    | nil => exact fun _ h => by cases h
    | cons h _ ih =>
      intro kv hk
      rcases List.mem_cons.mp hk with e | e
      · rw [e]
        exact h.2
      · exact ih kv e
  obtain ⟨o, n, ho, hc, hd, hdat⟩ := pl
  have keyAt : ∀ {j : Nat} {k v : Value}, ((psH kvs vs).map fun x => ((Value.ref x.2.1 : Value), x.2.2))[j]? = some (k, v) → ∃ (kv : (List Key × Addr) × V) (b : Addr), kvs[j]? = some kv ∧ vs[j]? = some v ∧ k = Value.ref kv.1.2 ∧ ps[j]? = some b ∧ IsTup s.heap b #[k, v] := fun {j k v} h => by
    rw [List.getElem?_map] at h
    cases e : (psH kvs vs)[j]? with
    | none =>
      rw [e] at h
      cases h
    | some x =>
      rw [e] at h
      obtain ⟨kv, u, h1, h2, rfl⟩ := psH_at e
      have h3 := Option.some.inj h
      cases h3
      obtain ⟨b, h4, h5⟩ := e3 j kv u h1 h2
      exact ⟨kv, b, h1, h2, rfl, h4, h5⟩
  have pln : ((psH kvs vs).map fun x => ((Value.ref x.2.1 : Value), x.2.2)).length = vs.length := by rw [List.length_map, psH_len hkv]
  refine call_dict_pairsH (knd := tupleKind (mixKind X.prog X.w)) (ps := psH kvs vs) (PairArg.list a (ps.map Value.ref).toArray (fun j => ps.getD j 0) ((psH kvs vs).map fun x => ((Value.ref x.2.1 : Value), x.2.2))) (I.ok.hd hcalm) (show X.A.in1.in1.units < cLine by show X.A.units + 1 + 1 < cLine; omega) ⟨⟨o, n, ho, hc, hd, hdat⟩, by simp [pln, e1], fun j k v h => ?_⟩ ⟨by rw [List.length_map], fun i key v h => ?_⟩ (fun h' hk x hx => ?_) (by rw [pln, e1]; exact hz) fun h' tk hd' k => ?_
  · obtain ⟨kv, b, _, _, _, h4, h5⟩ := keyAt h
    have eb : ps.getD j 0 = b := by rw [List.getD_eq_getElem?_getD, h4]; rfl
    dsimp only
    rw [eb]
    refine ⟨by simp [h4], .inl ?_⟩
    obtain ⟨o2, g1, g2, n2, g3⟩ := h5
    exact ⟨o2, g1, g2, n2, g3⟩
  · have h' : ((psH kvs vs).map fun x => ((Value.ref x.2.1 : Value), x.2.2))[i]? = some (key, v) := h
    rw [List.getElem?_map] at h'
    cases e : (psH kvs vs)[i]? with
    | none =>
      rw [e] at h'
      cases h'
    | some x =>
      rw [e] at h'
      have h3 := Option.some.inj h'
      cases h3
      exact ⟨x.1, x.2.1, rfl, rfl⟩
  · obtain ⟨j, hj⟩ := List.mem_iff_getElem?.mp hx
    obtain ⟨kv, u, h1, _, rfl⟩ := psH_at hj
    obtain ⟨o2, items, n2, g1, g2, g3, g4⟩ := key_of I.hok (hmem kv (List.mem_of_getElem? h1))
    exact ⟨o2, items, n2, hk _ _ (Nat.ne_of_lt (Heap.lt_size g1)) (by simp) g1, g2, g3, g4⟩
  · have hm : (s.heap.objs.size == sysModules) = false := beq_eq_false_iff_ne.mpr (Nat.ne_of_gt I.big)
    obtain ⟨q2, es, ep, hq2, h2, h3, h4, _, h5⟩ := hd'
    have kt : KT H (putAllT kvs) (storedAllH [] (psH kvs vs)) := kt_all e2 hmem .nil
    have hfr := I.hok.fresh (Nat.le_refl s.heap.objs.size)
    have kl : (putAllT kvs).length ≤ sizeLine := by
      rw [kt.length]
      have := storedAllH_length (psH kvs vs) []
      rw [psH_len hkv, List.length_nil] at this
      omega
    have kt2 : KT (upd H s.heap.objs.size (.dT (putAllT kvs))) (putAllT kvs) (storedAllH [] (psH kvs vs)) := kt.keeps fun b ys e => by
      rw [upd_ne (ne_of_none e hfr)]
      exact e
    exact ⟨.ref s.heap.objs.size, upd H s.heap.objs.size (.dT (putAllT kvs)), I.laid (t' := tk) (fun b o e => k b o (by simp) e) (Nat.le_refl _) (show ObjOk X.prog X.w _ _ _ (.dT (putAllT kvs)) from ⟨kl, hm, _, kt2, q2, es, ep, hq2, h2, h3, h4, h5⟩), rfl, q _ hfr⟩
end
section
variable {β : Type} {R' : β → PV} {K : PySem.W.Frag}
/-- what dict makes of pairs with pairs of texts -/
theorem dictT_made (m' : MonR R') {xs : List ((Str × Str) × β)} {v : V} {G1 H1 : Hp} (e : Same G1 H1) (h : LstR (PairR PrR R') xs v G1) : ∃ u : HO, Mut (some u) ∧ (∀ Q : VK, (∀ d, H1 d = none → Q (.ref d) (upd H1 d u)) → rDictT K [v] H1 Q) ∧ ∀ d o, G1 d = none → Up (Dic KP R' (putAll [] xs) (.ref d)) (upd G1 d (.frz o u)) := by
  obtain ⟨a, vs, rfl, ha, pr⟩ := h
  have dec : ∃ (ps : List Addr) (us : List (((Str × Str) × Addr) × V)), vs = ps.map V.ref ∧ Paired (fun (p : Addr) (u : ((Str × Str) × Addr) × V) => G1 p = some (.tup [.ref u.1.2, u.2]) ∧ G1 u.1.2 = some (.tup [.str u.1.1.1, .str u.1.1.2])) ps us ∧ Paired (fun (u : ((Str × Str) × Addr) × V) (x : (Str × Str) × β) => u.1.1 = x.1 ∧ R' x.2 u.2 G1) us xs := by
    clear ha
    induction pr with
    | nil => exact ⟨[], [], rfl, .nil, .nil⟩
    | cons h _ ih =>
      obtain ⟨ps, us, e1, e2, e3⟩ := ih
      obtain ⟨t, x, y, rfl, ht, ⟨b, rfl, hb⟩, hy⟩ := h
      exact ⟨t :: ps, ((_, b), y) :: us, by rw [e1]; rfl, .cons ⟨ht, hb⟩ e2, .cons ⟨rfl, hy⟩ e3⟩
  obtain ⟨ps, us, rfl, e2, e3⟩ := dec
  have em : putAllT (us.map fun u => ((([.inr u.1.1.1, .inr u.1.1.2] : List Key), u.1.2), u.2)) = (putAll [] (us.map fun u => (u.1.1, u.2))).map fun p => (([.inr p.1.1, .inr p.1.2] : List Key), p.2) := by
    have : ∀ (l : List (((Str × Str) × Addr) × V)) (acc : List ((Str × Str) × V)), (l.map fun u => ((([.inr u.1.1.1, .inr u.1.1.2] : List Key), u.1.2), u.2)).foldl (fun acc kv => putK acc kv.1.1 kv.2) (acc.map fun p => (([.inr p.1.1, .inr p.1.2] : List Key), p.2)) = (putAll acc (l.map fun u => (u.1.1, u.2))).map fun p => (([.inr p.1.1, .inr p.1.2] : List Key), p.2) := fun l => by
      induction l with
      | nil => exact fun _ => rfl
      | cons u l ih =>
        intro acc
        rw [List.map_cons, List.foldl_cons, List.map_cons]
        show List.foldl _ (putK (acc.map fun p => (([.inr p.1.1, .inr p.1.2] : List Key), p.2)) [.inr u.1.1.1, .inr u.1.1.2] u.2) _ = (putAll (putA acc u.1.1 u.2) _).map _
        rw [← ih]
        congr 1
        exact putA_map (fun k : Str × Str => ([.inr k.1, .inr k.2] : List Key)) (fun a b h => by injection h with h1 h2; injection h2 with h3 _; exact Prod.ext (Sum.inr.inj h1) (Sum.inr.inj h3)) acc u.1.1 u.2
    exact this us []
  refine ⟨KP.ho (putAll [] (us.map fun u => (u.1.1, u.2))), KP.mu _, fun Q q => ⟨a, ps, us.map fun u => ((([.inr u.1.1.1, .inr u.1.1.2] : List Key), u.1.2), u.2), rfl, SqL.of (e _ _ ha), ?_, fun d hd => ?_⟩, fun d o hd => ?_⟩
  · clear ha pr e3 q em
    induction e2 with
    | nil => exact .nil
    | cons h _ ih => exact .cons ⟨SqT.of (e _ _ h.1), e _ _ h.2⟩ ih
  · rw [em]
    exact q d hd
  · have pp : ∀ {us : List (((Str × Str) × Addr) × V)} {xs : List ((Str × Str) × β)}, Paired (fun (u : ((Str × Str) × Addr) × V) (x : (Str × Str) × β) => u.1.1 = x.1 ∧ R' x.2 u.2 G1) us xs → ∀ {us0 : List ((Str × Str) × V)} {xs0 : List ((Str × Str) × β)}, Paired (fun (u : (Str × Str) × V) (x : (Str × Str) × β) => u.1 = x.1 ∧ R' x.2 u.2 G1) us0 xs0 → Paired (fun (u : (Str × Str) × V) (x : (Str × Str) × β) => u.1 = x.1 ∧ R' x.2 u.2 G1) (putAll us0 (us.map fun u => (u.1.1, u.2))) (putAll xs0 xs) := fun {us xs} p => by
      induction p with
      | nil => exact fun h => h
      | @cons u x us xs h _ ih =>
        intro us0 xs0 h0
        show Paired _ (putAll (putA us0 u.1.1 u.2) _) (putAll (putA xs0 x.1 x.2) xs)
        refine ih ?_
        rw [h.1]
        exact paired_put (R := fun z b => R' b z G1) h0 x.1 h.2
    have z := pp e3 (us0 := []) (xs0 := []) .nil
    exact (mon_dic m').up ⟨d, o, _, rfl, upd_same, L2.Paired.mapP z fun u x r => ⟨r.1, m' _ _ _ _ (same_new hd) r.2⟩⟩
end
end Crt
end

section
/-! _law_loads, _law_debts. -/
set_option autoImplicit false
namespace Crt
open PySem PySem.Spec PyProof.Rows L2
abbrev CDebts := List ((Str × Str) × List (Str × Int))
/-- debts told by counts -/
structure CDOk (U hs : List Str) (kvs : CDebts) : Prop where
  nd : (kvs.map (·.1)).Nodup
  key : ∀ q ∈ kvs.map (·.1), ltS q.1 q.2 ∧ q.1 ∈ hs ∧ q.2 ∈ hs
  cnt : ∀ p ∈ kvs, p.2.length ≤ 3 ∧ (p.2.map (·.1)).Nodup ∧ ∀ q ∈ p.2, q.1 ∈ U ∧ CntB q.2
def loadsOf (kvs : CDebts) : Debts := kvs.map fun p => (p.1, fnOfT p.2)
theorem fn_bd {l : List (Str × Int)} (h : ∀ q ∈ l, CntB q.2) (k : Str) : (fnOfT l k).natAbs ≤ 2 ^ 30 := by
  unfold fnOfT
  cases e : valA l k with
  | none => exact Nat.zero_le _
  | some i =>
    have := h (k, i) (valA_mem e)
    unfold CntB at this
    show i.natAbs ≤ _
    have p30 : (2 : Nat) ^ 30 = 1073741824 := by decide
    dsimp only at this
    omega
theorem fn_sup {U : List Str} {l : List (Str × Int)} (h : ∀ q ∈ l, q.1 ∈ U) : Sup (fnOfT l) U := fun k hk => by
  obtain ⟨q, hq, rfl⟩ := List.mem_map.mp (sup_table l k hk)
  exact h q hq
theorem loads_ok {U hs : List Str} {kvs : CDebts} (D : CDOk U hs kvs) : DOk U hs 30 (loadsOf kvs) := by
  have e : (loadsOf kvs).map (·.1) = kvs.map (·.1) := by
    unfold loadsOf
    rw [List.map_map]
    rfl
  refine ⟨by rw [e]; exact D.nd, fun q hq => D.key q (by rw [← e]; exact hq), fun p hp => ?_, fun p hp => ?_⟩
  · obtain ⟨r, hr, rfl⟩ := List.mem_map.mp hp
    exact fn_sup fun q hq => ((D.cnt r hr).2.2 q hq).1
  · obtain ⟨r, hr, rfl⟩ := List.mem_map.mp hp
    exact fn_bd fun q hq => ((D.cnt r hr).2.2 q hq).2
def spLoads (C : Addr) : Sp := SpF (α := CDebts × List Str × List Str) (fun x vs G => ∃ v, vs = [v] ∧ Dic KP Cnt x.1 v G ∧ CDOk x.2.1 x.2.2 x.1 ∧ x.1.length ≤ 15 ∧ x.2.1.length ≤ 5 ∧ ∀ k ∈ x.2.1, Word k) (fun x => Dic KP (LdU C x.2.1) (loadsOf x.1))
section
variable {P : Program} {w : World} {K : PySem.W.Frag} {mg : Str → Option Value} {base : Heap} {C : Addr}
theorem ok_loads (F : Dfn K mg "_law_loads" (top 66)) (md : mg "dict" = none) (mC : MgV mg "Load" (.ref C)) (D : ClM P w K mg base 5 C "of" (spOf C)) : CalP P w K mg base 6 "_law_loads" (spLoads C) := by
  refine cal_of (N := ["_law_counts_by", "_law_key"]) (ps := ["_law_counts_by"]) F (by decide +kernel) ?_ (fun _ _ _ _ _ _ us hl => match us, hl with | [_], _ => rfl) ?_
  · rintro vs H Q E ⟨x, G, _, ⟨v, e, _⟩, _⟩
    rw [e] <;> rfl
  · intro nd cdv f A outer s H vs Q E' hr h
    have hu := hu_of hr
    refine ⟨_, pss_one (ps_ret (pe_fz (pe_callTy (call_dictT rfl hr.units) rfl md boot_dict (pa_cons (pe_lc (own := [("_law_key", 1)]) (g := gName 1) (tt := tYes) (te := tTup (tCons (tVar 1) (tCons (ClX.tCMeth C (spOf C) C8.E0 (tC (.ref C)) (tCons (tDGet (tVar 0) (tVar 1)) tNil)) tNil))) rfl nd (pi_keys (pv 0)) (blkOk_by (N := ["_law_counts_by", "_law_key"]) (sc := C8.fnScope (top 66)) (by decide +kernel)) (fun _ _ _ _ _ => pg_name (i := 1) nd rfl (Or.inl rfl)) (fun _ _ _ _ _ => pts_nil)
      (fun _ _ _ _ _ => pe_tup (pa_cons (pv 1) (pa_cons (pe_clm D hr (by decide) (C8.pe_gc rfl mC) (pa_cons (pe_dget hu (pv 0) (pv 1) (fun _ _ => rfl)) pa_nil)) pa_nil)))) pa_nil)))), ?_⟩
    obtain ⟨⟨kvs, U, hs⟩, G, eG, ⟨v, rfl, hx, ok, hn, hU, hw⟩, k⟩ := h
    dsimp only at hx ok hn hU hw k
    have ux := (mon_dic (K := KP) mon_cnt).up hx
    have fe : (kvs.map (·.1)).map (fun q => (q, fnOfT ((valA kvs q).getD []))) = loadsOf kvs := by
      unfold loadsOf
      rw [List.map_map]
      refine List.map_congr_left fun p hp => ?_
      show (p.1, fnOfT ((valA kvs p.1).getD [])) = _
      rw [valA_nodup ok.nd (k := p.1) (b := p.2) hp]
      rfl
    refine ret_gv (cs := []) (gv_cbz (ga_1 (gv_map (f := fun q => (q, fnOfT ((valA kvs q).getD []))) (mon_pair mon_PrR (mon_ldU (C := C) (U := U))) (src_keysP (gv_var rfl ux)) (by rw [List.length_map]; omega) ?_)) ?_) eG hold_nil k
    · rintro z q G2 hq e2 uz
      obtain ⟨p, hp, rfl⟩ := List.mem_map.mp hq
      have hv : valA kvs p.1 = some p.2 := valA_nodup ok.nd (k := p.1) (b := p.2) hp
      obtain ⟨c1, _, c3⟩ := ok.cnt p hp
      refine ⟨_, tg_name, rfl, gv_pair mon_PrR mon_ldU (gv_var rfl uz) ?_⟩
      rw [hv]
      refine gv_of (gv_dget (K := KP) mon_cnt (gv_var rfl (ux.on e2)) (gv_var rfl uz) hv) (show p.2.length ≤ 15 by omega) (fun j hj => ?_) hw (by omega)
      obtain ⟨r, hr, rfl⟩ := List.mem_map.mp hj
      exact (c3 r hr).1
    · rintro vs G1 H1 e1 _ u1
      obtain ⟨v1, rfl, hl⟩ := u1.now
      rw [fe] at hl
      obtain ⟨u, mu, hq, hd⟩ := dictT_made (K := K) mon_ldU e1 hl
      have el : putAll [] (loadsOf kvs) = loadsOf kvs := putAll_new (l := []) _ (by rw [List.nil_append]; exact (loads_ok ok).nd)
      rw [el] at hd
      exact ⟨u, mu, hq, hd⟩
end
end Crt
end

section
/-! _law_debts, _law_some_rings. -/
set_option autoImplicit false
namespace Crt
open PySem PySem.Spec PyProof.Rows L2
section
variable {p : Pen} {n : Nat} {σ : L2.St} {G : Hp} {te : TE} {φ χ : PV} {C : Addr} {U : List Str}
/-- what is done with a value that was drawn -/
theorem gp_via {r : List V → Hp → VK → Prop} (h : Gp p n te σ G φ) (hr : ∀ x G1, Same G G1 → Up (φ x) G1 → Gv [] (tCB r (tCons (tC x) tNil)) σ G1 χ) : Gp p n (tCB r (tCons te tNil)) σ G χ := fun H B a c l Q q =>
  h H B a c l _ fun x G1 H1 s1 c1 u1 => hr x G1 s1.gg u1 H1 (s1.gh.trans exc_same) hold_nil Q fun v G2 H2 s2 u2 => by
    obtain ⟨s3, c3⟩ := c1.step s1.gh s2
    exact q v G2 H2 (s1.trans s3) c3 u2
/-- Load.of(counts that are drawn) -/
theorem gp_of' {Pl : List (Str × Int) → Prop} (h : Gp p n te σ G (fun v G => ∃ l, Cnt l v G ∧ Pl l)) (hp : ∀ l, Pl l → l.length ≤ 15 ∧ ∀ k ∈ l.map (·.1), k ∈ U) (hw : ∀ k ∈ U, Word k) (hU : U.length ≤ 6) : Gp p n (ClX.tCMeth C (spOf C) C8.E0 (tC (.ref C)) (tCons te tNil)) σ G (fun v G => ∃ l, Pl l ∧ LdR C U (fnOfT l) v G) := fun H B a c l Q q =>
  ⟨rfl, h H B a c l _ fun v G1 H1 s1 c1 u1 => by
    obtain ⟨l, hl, k⟩ := u1.now
    obtain ⟨h1, h2⟩ := hp l k
    exact ⟨(l, fnOfT l, U), G1, s1.gh.trans exc_same, ⟨v, rfl, hl, h1, fun j hj => hw j (h2 j hj), rfl, fun j hj => h2 j (sup_table l j hj), hU⟩, fun v G2 H2 s2 u2 => by
      obtain ⟨s3, c3⟩ := c1.step s1.gh s2
      exact q v G2 H2 (s1.trans s3) c3 (u2.imp fun G h => ⟨l, k, h⟩)⟩⟩
end
theorem srt2 {a b : Str} (ne : a ≠ b) : ∃ x y, srtS [a, b] = [x, y] ∧ ltS x y ∧ x ∈ [a, b] ∧ y ∈ [a, b] := by
  have asc := srtS_asc [a, b]
  have nd := ascS_nodup asc
  have l1 := nodup_le nd (D := [a, b]) fun x h => srtS_mem.mp h
  have l2 := nodup_le (l := [a, b]) (D := srtS [a, b]) (by simp [ne]) fun x h => srtS_mem.mpr h
  obtain ⟨x, y, e⟩ := is2 (l := srtS [a, b]) (Nat.le_antisymm l1 l2)
  have mx : x ∈ srtS [a, b] := by rw [e]; simp
  have my : y ∈ srtS [a, b] := by rw [e]; simp
  refine ⟨x, y, e, ?_, srtS_mem.mp mx, srtS_mem.mp my⟩
  rw [e] at asc
  exact (List.pairwise_cons.mp asc).1 y List.mem_cons_self
theorem putA_mem {κ β : Type} [DecidableEq κ] {l : List (κ × β)} {k : κ} {b : β} {p : κ × β} (h : p ∈ putA l k b) : p ∈ l ∨ p = (k, b) := by
  unfold putA at h
  split at h
  · obtain ⟨q, hq, e⟩ := List.mem_map.mp h
    by_cases z : q.1 = k
    · rw [if_pos z] at e
      exact .inr (by rw [← e, z])
    · rw [if_neg z] at e
      exact .inl (by rw [← e]; exact hq)
  · rcases List.mem_append.mp h with z | z
    · exact .inl z
    · exact .inr (List.mem_singleton.mp z)
theorem CDOk.put {U hs : List Str} {kvs : CDebts} (D : CDOk U hs kvs) {x y : Str} {l : List (Str × Int)} (lt : ltS x y) (hx : x ∈ hs) (hy : y ∈ hs) (h1 : l.length ≤ 3) (h2 : (l.map (·.1)).Nodup) (h3 : ∀ q ∈ l, q.1 ∈ U ∧ CntB q.2) : CDOk U hs (putA kvs (x, y) l) := by
  refine ⟨putA_nodup D.nd _ _, fun q hq => ?_, fun p hp => ?_⟩
  · rw [putA_keys] at hq
    split at hq
    · exact D.key q hq
    · rcases List.mem_append.mp hq with z | z
      · exact D.key q z
      · rw [List.mem_singleton.mp z]
        exact ⟨lt, hx, hy⟩
  · rcases putA_mem hp with z | z
    · exact D.cnt p z
    · rw [z]
      exact ⟨h1, h2, h3⟩
def spDebts : Sp := SpP (α := List Str × List Str) 309 (fun x vs G => ∃ v u, vs = [v, u] ∧ LstR IsS x.1 v G ∧ LstR IsS x.2 u G ∧ x.1.length ≤ 5 ∧ x.1.Nodup ∧ x.2.length ≤ 6 ∧ 3 ≤ x.2.length ∧ x.2.Nodup) (fun x v G => ∃ kvs : CDebts, Dic KP Cnt kvs v G ∧ CDOk x.1 x.2 kvs ∧ kvs.length ≤ 15)
section
variable {P : Program} {w : World} {K : PySem.W.Frag} {mg : Str → Option Value} {base : Heap}
theorem ok_debts (F : Dfn K mg "_law_debts" (top 65)) (mr : mg "range" = none) (ml : mg "len" = none) (mt : mg "tuple" = none) (mo : mg "sorted" = none) (ms : mg "set" = none) (h1 : CalP P w K mg base 1 "_law_draw" spDraw) (h2 : CalP P w K mg base 2 "_law_shuffled" spShuf) (h4 : CalP P w K mg base 4 "_law_counts" spCounts) : CalP P w K mg base 5 "_law_debts" spDebts := by
  refine cal_of (N := ["_law_pen_here", "_law_kinds", "_law_houses", "_law_found", "_law_k", "_law_pair"]) (ps := ["_law_pen_here", "_law_kinds", "_law_houses"]) F (by decide +kernel) ?_ (fun _ _ _ _ _ _ us hl => match us, hl with | [_, _, _], _ => rfl) ?_
  · rintro vs H Q E ⟨x, G, p, B, rest, rfl, _, _, _, ⟨v, u, e, _⟩, _⟩
    rw [e] <;> rfl
  · intro nd cdv f A outer s H vs Q E' hr h
    have hu := hu_of hr
    refine ⟨_, pss_cons (ps_set (i := 3) nd rfl (Or.inl rfl) pe_dnewT)
      (pss_cons (ps_for PassesOwn.never rfl (pi_range1 rfl mr (pa_cons (C8.pe_c h1 hr (by decide) rfl (pa_cons (pv 0) (pa_cons (pe_op op_add pe_int (pe_op op_mul pe_int (pe_callB call_len_seq rfl ml boot_len (pa_cons (pv 2) pa_nil)))) pa_nil))) pa_nil)) (pg_name (i := 4) nd rfl (Or.inl rfl))
        (pss_cons (ps_set (i := 5) nd rfl (Or.inl rfl) (pe_callTy (r := rTupOf K) call_tuple_of rfl mt boot_tuple (pa_cons (pe_callB (cr_sortS rfl hr.units) rfl mo boot_sorted (pa_cons (pe_callTy (cr_setS rfl) rfl ms boot_set (pa_cons (pe_slice sl_list (C8.pe_c h2 hr (by decide) rfl (pa_cons (pv 0) (pa_cons (pv 2) pa_nil))) po_none (po_some pe_int)) pa_nil)) pa_nil)) pa_nil)))
        (pss_one (ps_dput hu (pv 3) (pv 5) (C8.pe_c h4 hr (by decide) rfl (pa_cons (pv 0) (pa_cons (pv 1) pa_nil))) rfl))))
      (pss_one (ps_ret (pe_fz (pv 3))))), ?_⟩
    obtain ⟨⟨xs, hs⟩, G, p, B, rest, rfl, eG, pn, hB, ⟨v, u, rfl, hx, hy, hxl, hxn, hyl, hy3, hyn⟩, k⟩ := h
    dsimp only at hx hy hxl hxn hyl hy3 hyn k
    have ux := (mon_lst mon_S).up hx
    have uy := (mon_lst mon_S).up hy
    show tSeq _ _ _ [some (.ref p.1), some v, some u, none, none, none] H
    refine seq_go fun d hd => ?_
    obtain ⟨d1, d2⟩ := pn.pen hd
    have hdx : exc p H d = none := exc_free hd
    have I0 := AcI.start (o := KP.ho []) eG hdx
    rw [← exc_put d1] at I0
    have pn0 := pn.put (o := KP.ho []) d1 d2
    show tSeq _ _ _ [some (.ref p.1), some v, some u, some (.ref d), none, none] (upd H d (KP.ho []))
    generalize upd H d (KP.ho []) = H0 at *
    refine seq_go (for_gp (p := p) (n := 0 + 1 + 0) (P := fun ys => ∃ m, m ≤ 14 ∧ ys = nums m) (R := IsI) (srcP_range (Pm := fun m => m ≤ 14) (gpa_imp (gpa_cons (n := 0 + 1) (m := 0) (gp_draw (n := 0) (k := 3 + 2 * (hs.length : Int)) (gpa_imp (gpa_cons (n := 0) (m := 0 + 0) (gp_of (gv_v rfl)) (gpa_cons (gp_of (gv_I0 (g := fun i j => .int (i + j)) gv_ci (gv_I (C := CMul) (g := fun i j => .int (i * j)) gv_ci (gv_lenL (gv_var rfl uy)) (.inl ⟨by decide, by decide⟩)))) (gpa_nil (n := 0)))) fun vs G ⟨v, r, e, h1, w', r2, e2, h2, h3⟩ => by rw [e, e2, h3, show v = _ from h1, show w' = _ from h2]) (by omega) (by omega)) (gpa_nil (n := 0))) fun vs G ⟨v, r, e, ⟨i, e1, i0, i1⟩, h2⟩ => ⟨i.toNat, by rw [e, e1, h2]; congr 2; omega, by omega⟩) fun m h => by omega) I0.gh pn0 (by omega) (fun ys i σ Gc Hc => ∃ us kvs o4 o5, σ = [some (.ref p.1), some v, some u, some (.ref d), o4, o5] ∧ AcI G (exc p H) d (KP.ho us) Gc (exc p Hc) ∧ DPr Cnt us kvs Gc ∧ us.length ≤ i ∧ CDOk xs hs kvs ∧ Pn p (B + 1 + i * 22) Hc) (fun ys i σ Gc Hc ⟨_, _, _, _, _, I, _⟩ => I.gh) (fun G1 H1 ys s1 c1 hp => ⟨[], [], none, none, rfl, I0.step s1 (ho_not_tup KP []), .nil, Nat.zero_le _, ⟨List.nodup_nil, (fun _ h => by cases h), fun _ h => by cases h⟩, c1.le (by omega)⟩) ?_ ?_)
    · rintro ys ⟨m, hm, rfl⟩ i x v3 σ2 Gc Hc G2 H2 hi sG ⟨us, kvs, o4, o5, rfl, I, pr, hl, ok, pc⟩ s2 u2
      obtain ⟨hi2, rfl⟩ := range_at hi
      obtain ⟨s2x, pc2⟩ := pc.step I.gh s2
      have I2 := I.step s2x (ho_not_tup KP us)
      show tSeq _ _ _ [some (.ref p.1), some v, some u, some (.ref d), some v3, o5] H2
      refine seq_go (set_gp (p := p) (n := 0 + 6 + 0) (φ := fun v G => ∃ x y, PrR (x, y) v G ∧ ltS x y ∧ x ∈ hs ∧ y ∈ hs) (gp_via (φ := fun v G => ∃ x y, LstR IsS [x, y] v G ∧ ltS x y ∧ x ∈ hs ∧ y ∈ hs) (gp_via (φ := fun v G => ∃ a b, SetR2 w [a, b] v G ∧ a ≠ b ∧ a ∈ hs ∧ b ∈ hs) (gp_via (φ := fun v G => ∃ a b, LstR IsS [a, b] v G ∧ a ≠ b ∧ a ∈ hs ∧ b ∈ hs) ((gp_cut (p := p) (n := 0 + 6) (m := 0) (Pa := fun ys : List Str => ys.Perm hs) (Pj := fun j => j = 2) mon_S (gp_callX (n := 0) (m := 6) (α := List Str) (pre := fun xs vs G => ∃ v, vs = [v] ∧ LstR IsS xs v G ∧ xs.length ≤ 6) (post := fun xs v G => ∃ ys : List Str, ys.Perm xs ∧ LstR IsS ys v G) (gpa_imp (gpa_cons (n := 0) (m := 0 + 0) (gp_of (gv_v rfl)) (gpa_cons (gp_of (gv_var rfl (uy.on (sG.trans s2.gg)))) (gpa_nil (n := 0)))) fun vs G ⟨v, r, e, h1, w', r2, e2, h2, h3⟩ => ⟨[w'], hs, by rw [e, e2, h3, show v = _ from h1], ⟨w', rfl, h2, hyl⟩, fun v G h => h⟩)) (gp_of ((gv_ci (n := 2)).imp fun v G e => ⟨2, e, rfl⟩))).imp ?_) ?_) ?_) ?_) I2.gh pc2 (by omega) fun v5 G4 H4 s4 c4 u5 => ?_)
      · rintro z F ⟨ys0, j, pm, rfl, hz⟩
        have yl := pm.length_eq
        have ynd := pm.nodup_iff.mpr hyn
        match ys0, yl, ynd, pm, hz with
        | [], yl, _, _, _ => rw [List.length_nil] at yl; omega
        | [_], yl, _, _, _ => rw [List.length_singleton] at yl; omega
        | a :: b :: r, _, ynd, pm, hz => exact ⟨a, b, hz, (fun z => by rw [z] at ynd; simp at ynd), pm.mem_iff.mp (by simp), pm.mem_iff.mp (by simp)⟩
      · rintro z F _ uz
        obtain ⟨a, b, hz, ne, ma, mb⟩ := uz.now
        exact (gv_setS (w := w) (by show 2 ≤ 1000; decide) (gv_c ((mon_lst mon_S).up hz))).imp fun v G h => ⟨a, b, h, ne, ma, mb⟩
      · rintro z F _ uz
        obtain ⟨a, b, hz, ne, ma, mb⟩ := uz.now
        obtain ⟨x, y, e, lt, mx, my⟩ := srt2 ne
        refine (gv_sortS (w := w) (by show 2 ≤ 1000; decide) (gv_c (mon_set2.up hz))).imp fun v G h => ⟨x, y, by rw [← e]; exact h, lt, ?_, ?_⟩
        · rcases List.mem_cons.mp mx with q | q
          · rw [q]; exact ma
          · rw [List.mem_singleton.mp q]; exact mb
        · rcases List.mem_cons.mp my with q | q
          · rw [q]; exact ma
          · rw [List.mem_singleton.mp q]; exact mb
      · rintro z F _ uz
        obtain ⟨a, b, hz, lt, ma, mb⟩ := uz.now
        refine (gv_tupleL (R := IsS) mon_S (gv_c ((mon_lst mon_S).up hz))).imp fun v G h => ⟨a, b, ?_, lt, ma, mb⟩
        obtain ⟨t, vs, rfl, ht, pr⟩ := h
        exact ⟨t, rfl, by rw [ht, paired_S pr]; rfl⟩
      have I4 := I2.step s4 (ho_not_tup KP us)
      obtain ⟨x, y, ⟨b5, rfl, hb5⟩, lt, mx, my⟩ := u5.now
      dsimp only
      show sDPut _ _ _ _ [some (.ref p.1), some v, some u, some (.ref d), some v3, some (.ref b5)] H4
      refine (gp_callX (p := p) (n := 0) (m := 16) (α := List Str) (pre := fun xs vs G => ∃ v, vs = [v] ∧ LstR IsS xs v G ∧ xs.length ≤ 6 ∧ xs.Nodup) (post := fun xs v G => ∃ l : List (Str × Int), Cnt l v G ∧ l.length ≤ 3 ∧ (l.map (·.1)).Nodup ∧ ∀ q ∈ l, q.1 ∈ xs ∧ CntB q.2) (φ := fun v G => ∃ l : List (Str × Int), Cnt l v G ∧ l.length ≤ 3 ∧ (l.map (·.1)).Nodup ∧ ∀ q ∈ l, q.1 ∈ xs ∧ CntB q.2) (gpa_imp (gpa_cons (n := 0) (m := 0 + 0) (gp_of (gv_v rfl)) (gpa_cons (gp_of (gv_var rfl (ux.on (sG.trans (s2.gg.trans s4.gg))))) (gpa_nil (n := 0)))) fun vs G ⟨v, r, e, h1, w', r2, e2, h2, h3⟩ => ⟨[w'], xs, by rw [e, e2, h3, show v = _ from h1], ⟨w', rfl, h2, by omega, hxn⟩, fun v G h => h⟩)) H4 _ I4.gh c4 (by omega) _ fun z G5 H5 s5 c5 u6 => ?_
      obtain ⟨l, hl1, l3, lnd, lq⟩ := u6.now
      have I5 := I4.step s5 (ho_not_tup KP us)
      have gg : Same Gc G5 := s2.gg.trans (s4.gg.trans s5.gg)
      have pr5 := pr.on mon_cnt gg
      refine ⟨.ref d, rfl, .ref b5, rfl, d, _, rfl, KP.put (k := (x, y)) (exc_same _ _ I5.at_) ⟨b5, rfl, (I5.gh.trans exc_same) _ _ (s5.gg _ _ hb5)⟩ (Nat.lt_of_le_of_lt (show us.length ≤ 14 by omega) (by decide)), G5, gg, putA us (x, y) z, putA kvs (x, y) l, _, _, rfl, ?_, paired_put (R := fun z b => Cnt b z G5) pr5 _ hl1, ?_, ok.put lt mx my l3 lnd lq, ?_⟩
      · rw [exc_put d1]
        exact I5.set hdx _
      · have := putA_len us (x, y) z
        omega
      · exact (c5.put d1 d2).le (by omega)
    · rintro ys σ2 Gc Hc ⟨m, hm, rfl⟩ sG ⟨us, kvs, o4, o5, rfl, I, pr, hl, ok, pc⟩
      rw [nums_len] at hl pc
      refine ⟨.ref d, rfl, d, _, rfl, exc_same _ _ I.at_, KP.mu _, fun o => ?_⟩
      have st := I.fin hdx (.frz o (KP.ho us))
      rw [← exc_put d1] at st
      refine k _ _ _ st ((pc.put d1 d2).le (by omega)) fun F hF => ⟨kvs, mon_dic (K := KP) mon_cnt _ _ _ _ hF ⟨d, o, us, rfl, upd_same, pr.on mon_cnt (same_new I.nD)⟩, ok, ?_⟩
      have := Paired.length pr
      omega
end
end Crt
end

section
/-! _law_some_rings. -/
set_option autoImplicit false
namespace Crt
open PySem PySem.Spec PyProof.Rows L2
def RingV (C : Addr) (U hs : List Str) : PV := fun v G => ∃ r : List Str × Fn, RgR C U r v G ∧ ROk U hs 30 r
theorem mon_RgR {C : Addr} {U : List Str} : MonR (RgR C U) := mon_pair (mon_tup mon_S) mon_ldU
theorem mon_ringV {C : Addr} {U hs : List Str} : MonV (RingV C U hs) := fun v H H' e ⟨r, h1, h2⟩ => ⟨r, mon_RgR _ _ _ _ e h1, h2⟩
theorem ringV_list {C : Addr} {U hs : List Str} {G : Hp} : ∀ {us : List V}, (∀ u ∈ us, RingV C U hs u G) → ∃ rs : List (List Str × Fn), Paired (fun u x => RgR C U x u G) us rs ∧ ∀ r ∈ rs, ROk U hs 30 r
  | [], _ => ⟨[], .nil, fun _ h => by cases h⟩
  | u :: us, h => by
    obtain ⟨prs, h1, h2⟩ := ringV_list (us := us) fun x hx => h x (List.mem_cons_of_mem _ hx)
    obtain ⟨q, hq, k⟩ := h u List.mem_cons_self
    refine ⟨q :: prs, .cons hq h1, fun x hx => ?_⟩
    rcases List.mem_cons.mp hx with e | e
    · rw [e]
      exact k
    · exact h2 x e
def spRings (C : Addr) : Sp := SpP (α := List Str × List Str) 70 (fun x vs G => ∃ v u, vs = [v, u] ∧ LstR IsS x.1 v G ∧ LstR IsS x.2 u G ∧ x.1.length ≤ 5 ∧ x.1.Nodup ∧ (∀ k ∈ x.1, Word k) ∧ x.2.length ≤ 6 ∧ 3 ≤ x.2.length ∧ x.2.Nodup) (fun x v G => ∃ rs : List (List Str × Fn), LstR (RgR C x.1) rs v G ∧ rs.length ≤ 3 ∧ ∀ r ∈ rs, ROk x.1 x.2 30 r)
section
variable {P : Program} {w : World} {K : PySem.W.Frag} {mg : Str → Option Value} {base : Heap} {C : Addr}
theorem ok_some_rings (F : Dfn K mg "_law_some_rings" (top 67)) (mr : mg "range" = none) (ml : mg "len" = none) (mt : mg "tuple" = none) (mC : MgV mg "Load" (.ref C)) (D : ClM P w K mg base 5 C "of" (spOf C)) (h1 : CalP P w K mg base 1 "_law_draw" spDraw) (h2 : CalP P w K mg base 2 "_law_shuffled" spShuf) (h4 : CalP P w K mg base 4 "_law_counts" spCounts) : CalP P w K mg base 6 "_law_some_rings" (spRings C) := by
  refine cal_of (N := ["_law_pen_here", "_law_kinds", "_law_houses", "_law_found", "_law_k", "_law_row"]) (ps := ["_law_pen_here", "_law_kinds", "_law_houses"]) F (by decide +kernel) ?_ (fun _ _ _ _ _ _ us hl => match us, hl with | [_, _, _], _ => rfl) ?_
  · rintro vs H Q E ⟨x, G, p, B, rest, rfl, _, _, _, ⟨v, u, e, _⟩, _⟩
    rw [e] <;> rfl
  · intro nd cdv f A outer s H vs Q E' hr h
    have hu := hu_of hr
    refine ⟨_, pss_cons (ps_set (i := 3) nd rfl (Or.inl rfl) (pe_lst pa_nil))
      (pss_cons (ps_for PassesOwn.never rfl (pi_range1 rfl mr (pa_cons (pe_op op_add pe_int (C8.pe_c h1 hr (by decide) rfl (pa_cons (pv 0) (pa_cons pe_int pa_nil)))) pa_nil)) (pg_name (i := 4) nd rfl (Or.inl rfl))
        (pss_cons (ps_set (i := 5) nd rfl (Or.inl rfl) (pe_callTy (r := rTupOf K) call_tuple_of rfl mt boot_tuple (pa_cons (pe_slice sl_list (C8.pe_c h2 hr (by decide) rfl (pa_cons (pv 0) (pa_cons (pv 2) pa_nil))) po_none (po_some (pe_op op_add pe_int (C8.pe_c h1 hr (by decide) rfl (pa_cons (pv 0) (pa_cons (pe_op op_sub (pe_callB call_len_seq rfl ml boot_len (pa_cons (pv 2) pa_nil)) pe_int) pa_nil)))))) pa_nil)))
        (pss_one (ps_expr (pe_bm PySem.F.plainAttrs_list PySem.F.slot_list_append PySem.F.type_list_append mt_append (pv 3) (pa_cons (pe_tup (pa_cons (pv 5) (pa_cons (pe_clm D hr (by decide) (C8.pe_gc rfl mC) (pa_cons (C8.pe_c h4 hr (by decide) rfl (pa_cons (pv 0) (pa_cons (pv 1) pa_nil))) pa_nil)) pa_nil))) pa_nil))))))
      (pss_one (ps_ret (pv 3)))), ?_⟩
    obtain ⟨⟨xs, hs⟩, G, p, B, rest, rfl, eG, pn, hB, ⟨v, u, rfl, hx, hy, hxl, hxn, hw, hyl, hy3, hyn⟩, k⟩ := h
    dsimp only at hx hy hxl hxn hw hyl hy3 hyn k
    have ux := (mon_lst mon_S).up hx
    have uy := (mon_lst mon_S).up hy
    show tSeq _ _ _ [some (.ref p.1), some v, some u, none, none, none] H
    refine seq_go ⟨Nat.zero_le _, fun f0 hf => ?_⟩
    obtain ⟨f1, f2⟩ := pn.pen hf
    have hfx : exc p H f0 = none := exc_free hf
    have I0 := AcI.start (o := .lst []) eG hfx
    rw [← exc_put f1] at I0
    have pn0 := pn.put (o := .lst []) f1 f2
    show tSeq _ _ _ [some (.ref p.1), some v, some u, some (.ref f0), none, none] (upd H f0 (.lst []))
    generalize upd H f0 (.lst []) = H0 at *
    refine seq_go (for_gp (p := p) (n := 0 + (0 + 1) + 0) (P := fun ys => ∃ m, m ≤ 3 ∧ ys = nums m) (R := IsI) (srcP_range (Pm := fun m => m ≤ 3) (gpa_imp (gpa_cons (n := 0 + (0 + 1)) (m := 0) (gp_op (φ := IsI 1) (ψ := InR 3) (χ := fun v _ => ∃ i, v = .int (1 + i) ∧ 0 ≤ i ∧ i < 3) (gp_of gv_ci) (gp_draw (n := 0) (gpa_pen rfl) (by decide) (by decide)) ?_) (gpa_nil (n := 0))) fun vs G ⟨v, r, e, ⟨i, e1, i0, i1⟩, h2⟩ => ⟨(1 + i).toNat, by rw [e, e1, h2]; congr 2; omega, by omega⟩) fun m h => by omega) I0.gh pn0 (by omega) (fun ys i σ Gc Hc => ∃ us o4 o5, σ = [some (.ref p.1), some v, some u, some (.ref f0), o4, o5] ∧ AcI G (exc p H) f0 (.lst us) Gc (exc p Hc) ∧ us.length ≤ i ∧ (∀ u ∈ us, RingV C xs hs u Gc) ∧ Pn p (B + 1 + i * 23) Hc) (fun ys i σ Gc Hc ⟨_, _, _, _, I, _⟩ => I.gh) (fun G1 H1 ys s1 c1 hp => ⟨[], none, none, rfl, I0.step s1 (fun xs z => nomatch z), Nat.zero_le _, (fun _ h => by cases h), c1.le (by omega)⟩) ?_ ?_)
    · intro x y G1 H1 s _ q1 q2 Q q
      obtain rfl := q1.now
      obtain ⟨i, rfl, i0, i1⟩ := q2.now
      exact ⟨1, i, rfl, rfl, q _ _ _ (Stp.refl s) (up_c ⟨i, rfl, i0, i1⟩)⟩
    · rintro ys ⟨m, hm, rfl⟩ i x v3 σ2 Gc Hc G2 H2 hi sG ⟨us, o4, o5, rfl, I, hl, hall, pc⟩ s2 u2
      obtain ⟨hi2, rfl⟩ := range_at hi
      obtain ⟨s2x, pc2⟩ := pc.step I.gh s2
      have I2 := I.step s2x (fun xs z => nomatch z)
      have uy2 := uy.on (sG.trans s2.gg)
      show tSeq _ _ _ [some (.ref p.1), some v, some u, some (.ref f0), some v3, o5] H2
      refine seq_go (set_gp (p := p) (n := 0 + 6 + (0 + (0 + 1))) (φ := fun v G => ∃ row : List Str, TupR IsS row v G ∧ row.Nodup ∧ 3 ≤ row.length ∧ row.length ≤ 6 ∧ ∀ x ∈ row, x ∈ hs) (gp_via (φ := fun v G => ∃ row : List Str, LstR IsS row v G ∧ row.Nodup ∧ 3 ≤ row.length ∧ row.length ≤ 6 ∧ ∀ x ∈ row, x ∈ hs) ((gp_cut (p := p) (n := 0 + 6) (m := 0 + (0 + 1)) (Pa := fun ys : List Str => ys.Perm hs) (Pj := fun j => 3 ≤ j ∧ j ≤ hs.length) mon_S (gp_callX (n := 0) (m := 6) (α := List Str) (pre := fun xs vs G => ∃ v, vs = [v] ∧ LstR IsS xs v G ∧ xs.length ≤ 6) (post := fun xs v G => ∃ ys : List Str, ys.Perm xs ∧ LstR IsS ys v G) (gpa_imp (gpa_cons (n := 0) (m := 0 + 0) (gp_of (gv_v rfl)) (gpa_cons (gp_of (gv_var rfl uy2)) (gpa_nil (n := 0)))) fun vs G ⟨v, r, e, h1, w', r2, e2, h2, h3⟩ => ⟨[w'], hs, by rw [e, e2, h3, show v = _ from h1], ⟨w', rfl, h2, hyl⟩, fun v G h => h⟩)) (gp_op (φ := IsI 3) (ψ := InR ((hs.length : Int) - 2)) (gp_of gv_ci) (gp_draw (n := 0) (gpa_imp (gpa_cons (n := 0) (m := 0 + 0) (gp_of (gv_v rfl)) (gpa_cons (gp_of (gv_I0 (g := fun i j => .int (i - j)) (gv_lenL (gv_var rfl uy2)) gv_ci)) (gpa_nil (n := 0)))) fun vs G ⟨v, r, e, h1, w', r2, e2, h2, h3⟩ => by rw [e, e2, h3, show v = _ from h1, show w' = _ from h2]) (by omega) (by omega)) ?_)).imp ?_) ?_) I2.gh pc2 (by omega) fun v5 G4 H4 s4 c4 u5 => ?_)
      · intro x y G1 H1 s _ q1 q2 Q q
        obtain rfl := q1.now
        obtain ⟨i, rfl, i0, i1⟩ := q2.now
        exact ⟨3, i, rfl, rfl, q _ _ _ (Stp.refl s) (up_c ⟨(3 + i).toNat, by rw [show (((3 + i).toNat : Nat) : Int) = 3 + i by omega], by omega, by omega⟩)⟩
      · rintro z F ⟨ys0, j, pm, hj, hz⟩
        have yl := pm.length_eq
        refine ⟨_, hz, (pm.nodup_iff.mpr hyn).sublist (List.take_sublist _ _), ?_, ?_, fun x hx => pm.mem_iff.mp (List.mem_of_mem_take hx)⟩
        · rw [List.length_take]
          omega
        · rw [List.length_take]
          omega
      · rintro z F _ uz
        obtain ⟨row, hz, q⟩ := uz.now
        exact (gv_tupleL (R := IsS) mon_S (gv_c ((mon_lst mon_S).up hz))).imp fun v G h => ⟨row, h, q⟩
      have I4 := I2.step s4 (fun xs z => nomatch z)
      obtain ⟨row, hrow, rnd, r3, r6, rsub⟩ := u5.now
      have ur : Up (TupR IsS row v5) G4 := (mon_tup mon_S).up hrow
      dsimp only
      show tDrop _ _ [some (.ref p.1), some v, some u, some (.ref f0), some v3, some v5] H4
      refine ⟨.ref f0, rfl, .inl ⟨rfl, _, SqL.of (exc_same _ _ I4.at_)⟩, ?_⟩
      refine (gp_tup2 (p := p) (n := 0) (m := 0 + 16) (χ := RingV C xs hs) (gp_of (gv_var (φ := TupR IsS row) rfl ur)) (gp_of' (Pl := fun l => l.length ≤ 3 ∧ (l.map (·.1)).Nodup ∧ ∀ q ∈ l, q.1 ∈ xs ∧ CntB q.2) (gp_callX (n := 0) (m := 16) (α := List Str) (pre := fun xs vs G => ∃ v, vs = [v] ∧ LstR IsS xs v G ∧ xs.length ≤ 6 ∧ xs.Nodup) (post := fun xs v G => ∃ l : List (Str × Int), Cnt l v G ∧ l.length ≤ 3 ∧ (l.map (·.1)).Nodup ∧ ∀ q ∈ l, q.1 ∈ xs ∧ CntB q.2) (gpa_imp (gpa_cons (n := 0) (m := 0 + 0) (gp_of (gv_v rfl)) (gpa_cons (gp_of (gv_var rfl (ux.on (sG.trans (s2.gg.trans s4.gg))))) (gpa_nil (n := 0)))) fun vs G ⟨v, r, e, h1, w', r2, e2, h2, h3⟩ => ⟨[w'], xs, by rw [e, e2, h3, show v = _ from h1], ⟨w', rfl, h2, by omega, hxn⟩, fun v G h => h⟩)) (fun l hl => ⟨by omega, fun j hj => by
        obtain ⟨q, hq, rfl⟩ := List.mem_map.mp hj
        exact (hl.2.2 q hq).1⟩) hw (by omega)) ?_) H4 _ I4.gh c4 (by omega) _ fun z G5 H5 s5 c5 u6 => ?_
      · rintro x y t F hx1 ⟨l, hl, hy1⟩ ht
        exact ⟨(row, fnOfT l), ⟨t, x, y, rfl, ht, hx1, hy1⟩, rnd, r3, r6, rsub, fn_sup fun q hq => (hl.2.2 q hq).1, fn_bd fun q hq => (hl.2.2 q hq).2⟩
      have I5 := I4.step s5 (fun xs z => nomatch z)
      have gg : Same Gc G5 := s2.gg.trans (s4.gg.trans s5.gg)
      refine ⟨f0, us, z, rfl, rfl, exc_same _ _ I5.at_, Nat.lt_of_le_of_lt (show us.length ≤ 3 by omega) (by decide), G5, gg, us ++ [z], _, _, rfl, ?_, by rw [List.length_append, List.length_singleton]; omega, fun q hq => ?_, ?_⟩
      · rw [exc_put f1]
        exact I5.set hfx _
      · rcases List.mem_append.mp hq with e | e
        · exact mon_ringV _ _ _ gg (hall q e)
        · rw [List.mem_singleton.mp e]
          exact u6.now
      · exact (c5.put f1 f2).le (by omega)
    · rintro ys σ2 Gc Hc ⟨m, hm, rfl⟩ sG ⟨us, o4, o5, rfl, I, hl, hall, pc⟩
      rw [nums_len] at hl pc
      obtain ⟨rs, q1, q2⟩ := ringV_list hall
      have nw := same_new (o := .lst us) I.nD
      refine ⟨.ref f0, rfl, k _ _ _ (I.fin' hfx) (pc.le (by omega)) fun F hF => ⟨rs, mon_lst mon_RgR _ _ _ _ hF ⟨f0, us, rfl, upd_same, paired_mono mon_RgR nw q1⟩, ?_, q2⟩⟩
      have := q1.length
      omega
end
end Crt
end

section
/-! _law_nets_told. -/
set_option autoImplicit false
namespace Crt
open PySem PySem.Spec PyProof.Rows L2
def spTold (C E : Addr) : Sp := SpF (α := (List Str × List (List Int)) × Debts × List Str) (fun x vs G => ∃ u v, vs = [u, v] ∧ ExR E x.1 u G ∧ Dic KP (LdU C x.2.2) x.2.1 v G ∧ x.2.1.length ≤ 30 ∧ PlOk x.1.1 x.1.2 x.2.2 ∧ ∀ p ∈ netsOf x.2.1, RedOk x.1.1.length x.1.2 (x.1.1.map p.2)) (fun x => LstR (PairR IsS Cnt) (toldN x.1.1 x.1.2 x.2.2 x.2.1))
section
variable {P : Program} {w : World} {K : PySem.W.Frag} {mg : Str → Option Value} {base : Heap} {C E : Addr}
theorem ok_nets_told (F : Dfn K mg "_law_nets_told" (top 68)) (cl : Cls K C) (h7 : CalP P w K mg base 7 "net_loads" (spNets C E)) (hn : Prp P w K mg base 1 C "counts" (spCts C)) : CalP P w K mg base 8 "_law_nets_told" (spTold C E) := by
  refine cal_of (N := ["_law_rules", "_law_owing", "_law_told", "_law_house"]) (ps := ["_law_rules", "_law_owing"]) F (by decide +kernel) ?_ (fun _ _ _ _ _ _ us hl => match us, hl with | [_, _], _ => rfl) ?_
  · rintro vs H Q E ⟨x, G, _, ⟨u, v, e, _⟩, _⟩
    rw [e] <;> rfl
  · intro nd cdv f A outer s H vs Q E' hr h
    have hu := hu_of hr
    refine ⟨_, pss_cons (ps_set (i := 2) nd rfl (Or.inr rfl) (C8.pe_c h7 hr (by decide) rfl (pa_cons (pv 0) (pa_cons (pv 1) pa_nil))))
      (pss_one (ps_ret (pe_lc (own := [("_law_house", 3)]) (g := gName 3) (tt := tTest (tOp rNe0 (tProp C (spCts C) [] C8.E0 (tDGet (tVar 2) (tVar 3))) tDNewK)) (te := tTup (tCons (tVar 3) (tCons (tProp C (spCts C) [] C8.E0 (tDGet (tVar 2) (tVar 3))) tNil))) rfl nd (pi_keys (pv 2)) (blkOk_by (N := ["_law_rules", "_law_owing", "_law_told", "_law_house"]) (sc := C8.fnScope (top 68)) (by decide +kernel)) (fun _ _ _ _ _ => pg_name (i := 3) nd rfl (Or.inl rfl))
        (fun _ _ _ _ _ => pts_one (pt_cmpR (op_ne0 hr.units0) (pe_prp hn cl hr (by decide) (pe_dget hu (pv 2) (pv 3) (fun _ _ => rfl))) pe_dnewK (nomark _)))
        (fun _ _ _ _ _ => pe_tup (pa_cons (pv 3) (pa_cons (pe_prp hn cl hr (by decide) (pe_dget hu (pv 2) (pv 3) (fun _ _ => rfl))) pa_nil)))))), ?_⟩
    obtain ⟨⟨⟨ks, b⟩, d, U⟩, G, eG, ⟨u, v, rfl, hx, hy, hn2, pok, red⟩, k⟩ := h
    dsimp only at hx hy hn2 pok red k
    have ux := mon_ex.up hx
    have uy := (mon_dic (K := KP) (mon_ldU (C := C) (U := U))).up hy
    show tSeq _ _ _ [some u, some v, none, none] H
    refine seq_go (set_gv (cs := []) (φ := Dic KS (LdU C U) (plainD ks b (netsOf d))) (gv_callE (α := (List Str × List (List Int)) × Debts × List Str) ((ks, b), d, U) (ga_imp (ga_2 (gv_var rfl ux) (gv_var rfl uy)) fun vs G ⟨v, w, e, h1, h2⟩ => ⟨v, w, e, h1, h2, hn2, pok, red⟩) rfl) eG hold_nil fun v1 G1 H1 s1 u1 => ?_)
    dsimp only
    rw [plainD_eq] at u1
    have hl := housesOf_len d
    refine ret_gv (cs := []) (φ := LstR (PairR IsS Cnt) (toldN ks b U d)) ?_ s1.gh hold_nil fun v2 G2 H2 s2 u2 => k v2 G2 H2 (s1.trans s2) u2
    have ek : ((housesOf d).map fun h => (h, plainF ks b (netL d h))).map (·.1) = housesOf d := by
      rw [List.map_map]
      exact List.map_id' _
    have src := src_keysS (cs := []) (σ := [some u, some v, some v1, none]) (td := tVar 2) (gv_var rfl u1)
    rw [ek] at src
    refine gv_lc (f := fun h => (h, nf (plainF ks b (netL d h)) U)) (p := fun h => !(nf (plainF ks b (netL d h)) U).isEmpty) (mon_pair mon_S mon_cnt) src (by omega) ?_
    rintro z h G2 hh e2 uz
    obtain rfl := uz.now
    have hv : valA ((housesOf d).map fun h => (h, plainF ks b (netL d h))) h = some (plainF ks b (netL d h)) := by
      refine valA_nodup ?_ (List.mem_map.mpr ⟨h, hh, rfl⟩)
      rw [ek]
      exact ascS_nodup (srtS_asc _)
    have gc : ∀ {G3 : Hp}, Same G2 G3 → Gv [] (tProp C (spCts C) [] C8.E0 (tDGet (tVar 2) (tVar 3))) [some u, some v, some v1, some (.str h)] G3 (Cnt (nf (plainF ks b (netL d h)) U)) := fun {G3} e3 => gv_prp (α := Fn × List Str) (plainF ks b (netL d h), U) rfl (gv_dget (K := KS) mon_ldU (gv_var rfl (u1.on (e2.trans e3))) (gv_vs rfl) hv) fun v G h => ⟨v, rfl, h⟩
    exact ⟨_, tg_name, rfl, gt_test (gv_ne0 (gc (Same.refl _))), fun _ => gv_pair mon_S mon_cnt (gv_vs rfl) (gc (Same.refl _))⟩
end
end Crt
end

section
/-! t[::-1], a tuple. -/
set_option autoImplicit false
namespace Crt
open PySem PySem.Spec PyProof.Rows L2
section
variable {prog : Program} {w : World} {A : Around} {E : Value → Shared → Prop} {s : Shared}
theorem adjust_rev (n : Nat) : Builtin.Slice.sliceAdjust none none (-1) (n : Int) = ((n : Int) - 1, -1) := by
  first
  | rfl
  | simp [Builtin.Slice.sliceAdjust]
theorem places_rev (n : Nat) : Builtin.Slice.slicePlaces ((n : Int) - 1) (-1) (-1) = n := by
  unfold Builtin.Slice.slicePlaces
  have h1 : ¬ ((-1 : Int) > 0) := by decide
  simp only [h1, if_false]
  split
  · rw [show (-(-1) : Int) = 1 from by decide, Int.ediv_one]
    omega
  · omega
theorem pick_rev (xs : Array Value) : ((List.range xs.size).filterMap fun (m : Nat) => xs[(((xs.size : Int) - 1) + (m : Int) * (-1)).toNat]?).toArray = xs.toList.reverse.toArray := by
  have e : (List.range xs.size).filterMap (fun (m : Nat) => xs[(((xs.size : Int) - 1) + (m : Int) * (-1)).toNat]?) = ((List.range xs.size).map fun k => xs.size - 1 - k).filterMap (xs[·]?) := by
    rw [List.filterMap_map]
    congr 1
    funext m
    show _ = xs[xs.size - 1 - m]?
    have : (((xs.size : Int) - 1) + (m : Int) * (-1)).toNat = xs.size - 1 - m := by omega
    rw [this]
  rw [e, PySem.W.krv_range, List.filterMap_reverse, PySem.W.krv_all]
theorem sliceApplied_rev {sl : Addr} {vl vu vs : Value} {n : Nat} {Q : Int × Int × Nat → Shared → Prop} (hs : s.heap.IsSliceOf sl vl vu vs) (pl : IsPart vl none) (pu : IsPart vu none) (ps : IsPart vs (some (-1)))
    (h : Q ((n : Int) - 1, -1, n) s) : wpAny (model prog w) A (Builtin.Slice.sliceApplied (.ref sl) (pure (n : Int))) Q E s := by
  obtain ⟨os, hos, hcs, hds⟩ := id hs
  unfold Builtin.Slice.sliceApplied Builtin.Slice.sliceFields
  refine wpAny_bind (wpAny_bind (wpAny_field hos hds (x := vl) rfl (wpAny_bind (wpAny_field hos hds (x := vu) rfl (wpAny_bind (wpAny_field hos hds (x := vs) rfl (wpAny_pure ?_)))))))
  refine wpAny_bind (HT.slicePart_ ps ?_)
  show wpAny _ _ (if ((-1 : Int) == 0) = true then _ else _) _ _ s
  rw [if_neg (by decide)]
  refine wpAny_bind (HT.slicePart_ pl (wpAny_bind (HT.slicePart_ pu (wpAny_bind (wpAny_pure ?_)))))
  show wpAny _ _ (match Builtin.Slice.sliceAdjust none none (-1) (n : Int) with | (lo, hi) => pure (lo, (-1 : Int), Builtin.Slice.slicePlaces lo hi (-1))) _ _ s
  rw [adjust_rev n]
  show wpAny _ _ (pure (((n : Int) - 1), (-1 : Int), Builtin.Slice.slicePlaces ((n : Int) - 1) (-1) (-1))) _ _ s
  rw [places_rev]
  exact wpAny_pure h
theorem getItem_tuple_rev {t sl : Addr} {items : Array Value} {vl vu vs : Value} {Q : Value → Shared → Prop} (ht : IsTup s.heap t items) (hs : s.heap.IsSliceOf sl vl vu vs) (pl : IsPart vl none) (pu : IsPart vu none) (ps : IsPart vs (some (-1)))
    (h : Q (.ref s.heap.objs.size) { s with heap := s.heap.push { cls := .type "tuple", data := .seq items.toList.reverse.toArray } }) (hsz : items.size ≤ sizeLine) : wpAny (model prog w) A (getItem (.ref t) (.ref sl)) Q E s := by
  have htake : sizeOk (.seq items.toList.reverse.toArray) := by
    show items.toList.reverse.toArray.size ≤ sizeLine
    rw [List.size_toArray, List.length_reverse, Array.length_toList]
    exact hsz
  obtain ⟨os, hos, hcs, hds⟩ := id hs
  have hTs : s.TypeIs (.ref sl) "slice" := ⟨os, hos, hcs⟩
  unfold getItem
  try with_reducible refine wpAny_holding ?_
  first | refine wpAny_bind (wpAny_pure ?_) | skip
  refine wpAny_bind (wpAny_sequenceKey ht.typeIs (by decide) ?_)
  refine wpAny_bind (wpAny_callSpecial?_slot (name := Str.ofString "__getitem__") ht.typeIs PyProof.Rows.slot_tuple_getitem
    (wpAny_call_entry PyProof.Rows.slot_tuple_getitem ht.typeIs entry_tuple_getitem ?_ (args_tuple_getitem _ _)))
  show wpAny _ _ (Builtin.Tuple.tupleItemsOf (.ref t) >>= _) _ _ s
  refine wpAny_bind (tupleItemsOf_ ht ?_)
  refine wpAny_bind (wpAny_typeOf hTs ?_)
  rw [if_pos (by decide)]
  refine wpAny_bind (sliceApplied_rev hs pl pu ps ?_)
  have hno : ¬ ((((items.size : Int) - 1) == 0 && (-1 : Int) == 1 && items.size == items.size) = true) := by
    rw [show ((-1 : Int) == 1) = false from by decide, Bool.and_false, Bool.false_and]
    exact Bool.false_ne_true
  show wpAny _ _ (if (((items.size : Int) - 1) == 0 && (-1 : Int) == 1 && items.size == items.size) = true then _ else _) _ _ s
  rw [if_neg hno, pick_rev]
  first
    | exact wpAny_bind (m := Builtin.Tuple.tupleExact _) (wpAny_newObj_type (wpAny_pure ⟨_, rfl, wpAny_pure h⟩) htake)
    | exact wpAny_bind (m := Builtin.Tuple.tupleExact _) (wpAny_newObj_type (wpAny_bind (wpAny_pure (wpAny_pure ⟨_, rfl, wpAny_pure h⟩))) htake)
    | exact wpAny_bind (wpAny_bind (m := Builtin.Tuple.tupleExact _) (wpAny_newObj_type (wpAny_pure (wpAny_pure ⟨_, rfl, wpAny_pure h⟩)) htake))
    | exact wpAny_bind (wpAny_bind (m := Builtin.Tuple.tupleExact _) (wpAny_newObj_type (wpAny_pure ⟨_, rfl, wpAny_pure h⟩) htake))
end
section
variable {X : Cx}
def tRevT (K : PySem.W.Frag) (te : TE) : TE := fun σ H Q => te σ H fun x H1 => ∃ a xs, x = .ref a ∧ SqT K H1 a xs ∧ ∀ p, H1 p = none → Q (.ref p) (upd H1 p (.tup xs.reverse))
theorem pe_revT {e : Expr} {te : TE} {k : Nat} {p1 p2 p3 pos : Pos} (he : PE X e te) : PE X (.Subscript e (.Slice none none (some (.UnaryOp .USub (.Constant (.int 1) k p1) p2)) p3) pos) (tRevT X.K te) := by
  refine ⟨fun pins s σ H Q I h => ?_⟩
  refine Subscript_ (thn (he.run pins s σ H _ I h) fun v s1 ⟨x, H1, I1, r1, q1⟩ => ?_)
  obtain ⟨a, xs, ex, hx, q⟩ := q1
  subst ex
  cases r1
  have hst : PO X (some (.UnaryOp .USub (.Constant (.int 1) k p1) p2)) (tPart (tUn (rU fun i => .int (-i)) (tC (.int 1)))) := po_some (pe_un un_neg pe_int)
  refine wpAny_Slice (thn (po_none.run pins s1 σ H1 (fun o H2 => o = none ∧ H2 = H1) I1 ⟨rfl, rfl⟩) fun vl s2 ⟨l, H2, I2, pl, el, e2⟩ => ?_)
  subst el e2
  refine thn (po_none.run pins s2 σ H2 (fun o H3 => o = none ∧ H3 = H2) I2 ⟨rfl, rfl⟩) fun vu s3 ⟨u, H3, I3, pu, eu, e3⟩ => ?_
  subst eu e3
  refine thn (hst.run pins s3 σ H3 (fun o H4 => o = some (-1) ∧ H4 = H3) I3 ⟨1, rfl, -1, rfl, rfl, rfl⟩) fun vs s4 ⟨o, H4, I4, ps, eo, e4⟩ => ?_
  subst eo e4
  have I5 : Inv X pins σ H4 { s4 with heap := s4.heap.push { cls := .type "slice", data := .fields #[vl, vu, vs] } } := I4.kept (t' := s4.toks) fun b ob q => Heap.get?_push_of_some _ q
  obtain ⟨its, r, ht, hz⟩ := I5.tuple hx
  have hlen := r.length
  show wpAny (model X.prog X.w) X.A (subscriptTail e (.Slice none none (some (.UnaryOp .USub (.Constant (.int 1) k p1) p2)) p3) (.ref a) (.ref s4.heap.objs.size)) (EP X pins σ Q) X.xe { s4 with heap := s4.heap.push { cls := .type "slice", data := .fields #[vl, vu, vs] } }
  refine tail_any (ops := [.ref a, .ref s4.heap.objs.size]) ht.typeIs (PyProof.Rows.slot_tuple_getitem.lookup) ?_ (by with_unfolding_all rfl)
  refine getItem_tuple_rev ht (Heap.IsSliceOf.new _ vl vu vs) pl pu ps ?_ (by rw [List.size_toArray]; omega)
  refine ⟨.ref _, _, I5.laid (t' := s4.toks) (o := .tup xs.reverse) (fun b ob q => Heap.get?_push_of_some _ q) (Nat.le_refl _) ?_, rfl, q _ (I5.hok.fresh (Nat.le_refl _))⟩
  exact ⟨by rw [List.length_reverse]; exact hz, _, r.reverse, ⟨_, Heap.get?_push_size _ rfl, rfl, _, rfl⟩⟩
end
section
variable {α : Type} {R : α → PV} {cs : Held} {σ : L2.St} {G : Hp} {ta : TE} {K : PySem.W.Frag} {xs : List α}
theorem pr_rev {β : Type} {P : α → β → Prop} {xs : List α} {ys : List β} (p : Paired P xs ys) : Paired P xs.reverse ys.reverse := by
  induction p with
  | nil => exact .nil
  | cons h _ ih =>
    rw [List.reverse_cons, List.reverse_cons]
    exact pr_snoc ih h
theorem gv_revT (m : MonR R) (ha : Gv cs ta σ G (TupR R xs)) : Gv cs (tRevT K ta) σ G (TupR R xs.reverse) := fun H a c Q q =>
  ha H a c _ fun v G1 H1 s1 u1 => by
    obtain ⟨p, us, rfl, hp, pr⟩ := u1.now
    exact ⟨p, us, rfl, SqT.of (s1.gh _ _ hp), fun d hd => q _ _ _ (s1.trans (Stp.laid s1.gh hd)) (tup_new m (pr_rev pr) (s1.gh.free hd))⟩
end
end Crt
end

section
/-! repr(list of (pair of texts, dict of counts)). -/
set_option autoImplicit false
namespace Crt
open PySem PySem.Spec PyProof.Rows L2
abbrev Row := (Str × Str) × List (Str × Int)
def dCnt (l : List (Str × Int)) : PyData := .dict (l.map fun q => (.str q.1, .int q.2))
def dRow (r : Row) : PyData := .tuple [.tuple [.str r.1.1, .str r.1.2], dCnt r.2]
def rowsText (rows : List Row) : Str := listText (PyData.shownAll (rows.map dRow))
section
variable {X : Cx} {pins : List (Addr × Obj)} {σ : L2.St} {H : Hp} {s : Shared}
theorem entries_read {h : Heap} : ∀ {l : List (Str × Int)} {vs : List (Key × Value)} {es : List DictEntry}, KV ((l.map fun q => (q.1, V.int q.2)).map fun p => ((Sum.inr p.1 : Key), p.2)) vs → Pairs (mixKind X.prog X.w) es vs → ReadsAll h (es.map (·.key)) (l.map fun q => PyData.str q.1) [] ∧ ReadsAll h (es.map (·.val)) (l.map fun q => PyData.int q.2) []
  | [], vs, es, r, p => by
    cases r
    cases p
    exact ⟨.nil, .nil⟩
  | q :: l, vs, es, r, p => by
    rw [List.map_cons, List.map_cons] at r
    cases r with
    | cons h1 t =>
      cases p with
      | cons k1 k2 k3 =>
        obtain ⟨ih1, ih2⟩ := entries_read (h := h) t k3
        have e1 := keyIs_rel (show keyIs _ _ = true from k1)
        rw [← h1.1] at e1
        obtain ⟨t1, e1⟩ := e1
        obtain ⟨t2, e2⟩ := h1.2
        rw [List.map_cons, List.map_cons, List.map_cons, List.map_cons, e1, k2, e2]
        exact ⟨.cons (.str _ _) ih1, .cons (.int _ _) ih2⟩
theorem cnt_reads {l : List (Str × Int)} {v : V} (I : Inv X pins σ H s) (h : Cnt l v H) : ∃ d as, v = .ref d ∧ Reads s.heap (.ref d) (dCnt l) as ∧ sysModules ∉ as := by
  obtain ⟨d, o, us, rfl, hd, p⟩ := h
  have e := cnt_us p
  subst e
  obtain ⟨_, hs, vs, kv, o2, es, ep, h1, h2, h3, _, h5, _⟩ := dk_rd I.hok (kvs := (l.map fun q => (q.1, V.int q.2)).map fun p => ((Sum.inr p.1 : Key), p.2)) (.inr ⟨o, hd⟩)
  obtain ⟨r1, r2⟩ := entries_read (h := s.heap) kv h5
  refine ⟨d, d :: [] ++ [], rfl, Reads.dict (kvs := l.map fun q : Str × Int => (PyData.str q.1, PyData.int q.2)) (as := []) (bs := []) h1 h2.1 h3 ?_ ?_, fun hm => ?_⟩
  · rw [List.map_map]
    exact r1
  · rw [List.map_map]
    exact r2
  · have : sysModules = d := by simpa using hm
    rw [← this] at hs
    simp at hs
theorem tup2_at {t : Addr} {x y : V} (I : Inv X pins σ H s) (h : H t = some (.tup [x, y])) : ∃ o n u v, s.heap.get? t = some o ∧ o.cls = .type "tuple" ∧ o.data = .seq #[u, v] n ∧ RelV x u ∧ RelV y v := by
  obtain ⟨_, its, rv, o, h1, h2, n, h3⟩ := (show ObjOk X.prog X.w H s.heap t (.tup [x, y]) from I.hok t _ h)
  obtain ⟨u, v, rfl, ru, rv⟩ := vals2 rv
  exact ⟨o, n, u, v, h1, h2, h3, ru, rv⟩
theorem row_reads {r : Row} {v : V} (I : Inv X pins σ H s) (h : PairR PrR Cnt r v H) : ∃ t as, v = .ref t ∧ Reads s.heap (.ref t) (dRow r) as ∧ sysModules ∉ as := by
  obtain ⟨t, x, y, rfl, ht, ⟨b, rfl, hb⟩, hy⟩ := h
  obtain ⟨d, as, rfl, rd, ns⟩ := cnt_reads I hy
  obtain ⟨o, n, u, v, h1, h2, h3, ru, rv⟩ := tup2_at I ht
  obtain ⟨o2, n2, u2, v2, g1, g2, g3, ru2, rv2⟩ := tup2_at I hb
  obtain rfl : u = Value.ref b := ru
  obtain rfl : v = Value.ref d := rv
  obtain ⟨t2, rfl⟩ := ru2
  obtain ⟨t3, rfl⟩ := rv2
  refine ⟨t, [] ++ (as ++ []), rfl, .tuple h1 h2 h3 (.cons (.tuple g1 g2 g3 (.cons (as := []) (bs := []) (.str _ _) (.cons (as := []) (bs := []) (.str _ _) .nil))) (.cons rd .nil)), ?_⟩
  rw [List.nil_append, List.append_nil]
  exact ns
theorem rows_read {h : Heap} (I : Inv X pins σ H s) : ∀ {us : List V} {its : List Value} {rows : List Row}, Vals us its → Paired (fun u r => PairR PrR Cnt r u H) us rows → ∃ as, ReadsAll s.heap its (rows.map dRow) as ∧ sysModules ∉ as
  | _, _, _, .nil, .nil => ⟨[], .nil, by simp⟩
  | _, _, _, .cons r t, .cons p q => by
    obtain ⟨as, h1, h2⟩ := rows_read (h := h) I t q
    obtain ⟨b, bs, rfl, h3, h4⟩ := row_reads I p
    have r' := r
    rw [show _ = Value.ref b from r']
    refine ⟨bs ++ as, .cons h3 h1, fun hm => ?_⟩
    rcases List.mem_append.mp hm with z | z
    · exact h4 z
    · exact h2 z
end
/-! ### how long -/
def SmallS (x : Str) : Prop := x.length ≤ 8 ∧ ∀ c ∈ x.cps.toList, c < 16 ^ 8
def RowOk (r : Row) : Prop := SmallS r.1.1 ∧ SmallS r.1.2 ∧ r.2.length ≤ 6 ∧ ∀ q ∈ r.2, SmallS q.1 ∧ q.2.natAbs.log2 < 1920
theorem shownStr_len {x : Str} (h : SmallS x) : (PyData.shown (.str x)).length ≤ 82 := by
  have := StrLaws.reprText_len x h.2
  have := h.1
  show (reprText x).length ≤ 82
  omega
theorem shownInt_len {i : Int} (h : i.natAbs.log2 < 1920) : (PyData.shown (.int i)).length ≤ 1921 := by
  have e := int_text_length_le (k := 1920) (by decide) h
  show (Str.ofString (toString i)).length ≤ 1921
  rw [PySem.ofString_length]
  exact e
theorem sum_le {α : Type} {f : α → Nat} {B : Nat} : ∀ {l : List α}, (∀ x ∈ l, f x ≤ B) → (l.map f).sum ≤ l.length * B
  | [], _ => Nat.zero_le _
  | x :: l, h => by
    have ih := sum_le (f := f) (l := l) fun y hy => h y (List.mem_cons_of_mem _ hy)
    have := h x List.mem_cons_self
    rw [List.map_cons, List.sum_cons, List.length_cons, Nat.add_mul, Nat.one_mul]
    omega
theorem shownAll_eq : ∀ ds : List PyData, PyData.shownAll ds = ds.map PyData.shown
  | [] => by simp only [PyData.shownAll, List.map_nil]
  | d :: ds => by simp only [PyData.shownAll, List.map_cons, shownAll_eq ds]
theorem shownKv_map : ∀ kvs : List (PyData × PyData), PyData.shownKv kvs = kvs.map fun p => p.1.shown ++ Str.ofString ": " ++ p.2.shown
  | [] => by simp only [PyData.shownKv, List.map_nil]
  | (k, v) :: r => by simp only [PyData.shownKv, List.map_cons, shownKv_map r]
theorem dCnt_len {l : List (Str × Int)} (h6 : l.length ≤ 6) (h : ∀ q ∈ l, SmallS q.1 ∧ q.2.natAbs.log2 < 1920) : (dCnt l).shown.length ≤ 12100 := by
  unfold dCnt
  simp only [PyData.shown]
  rw [shownKv_map, List.map_map]
  refine Nat.le_trans (dictText_len_le _) ?_
  rw [List.map_map, List.length_map]
  have z := sum_le (f := (fun x : Str => x.length) ∘ ((fun p : PyData × PyData => p.1.shown ++ Str.ofString ": " ++ p.2.shown) ∘ fun q : Str × Int => (PyData.str q.1, PyData.int q.2))) (B := 2005) (l := l) fun q hq => by
    show ((PyData.str q.1).shown ++ Str.ofString ": " ++ (PyData.int q.2).shown).length ≤ 2005
    rw [strLen_append, strLen_append]
    have a := shownStr_len (h q hq).1
    have b := shownInt_len (h q hq).2
    have c : (Str.ofString ": ").length = 2 := by decide
    omega
  omega
theorem dRow_len {r : Row} (h : RowOk r) : (dRow r).shown.length ≤ 12300 := by
  unfold dRow
  simp only [PyData.shown, PyData.shownAll]
  refine Nat.le_trans (tupleText_len_le _) ?_
  have a := tupleText_len_le [(PyData.str r.1.1).shown, (PyData.str r.1.2).shown]
  have b1 := shownStr_len h.1
  have b2 := shownStr_len h.2.1
  have c := dCnt_len h.2.2.1 h.2.2.2
  simp only [List.map_cons, List.map_nil, List.sum_cons, List.sum_nil, List.length_cons, List.length_nil, PyData.shown] at a b1 b2 ⊢
  omega
theorem rowsText_len {rows : List Row} (h15 : rows.length ≤ 15) (h : ∀ r ∈ rows, RowOk r) : (rowsText rows).length ≤ 200000 := by
  unfold rowsText
  refine Nat.le_trans (listText_len_le _) ?_
  rw [shownAll_eq, List.map_map, List.map_map, List.length_map, List.length_map]
  have z := sum_le (f := ((fun x : Str => x.length) ∘ PyData.shown) ∘ dRow) (B := 12300) (l := rows) fun r hr => dRow_len (h r hr)
  omega
theorem rows_showable : ∀ {rows : List Row}, (∀ r ∈ rows, RowOk r) → PyData.showableAll (rows.map dRow) = true
  | [], _ => by simp only [List.map_nil, PyData.showableAll]
  | r :: rows, h => by
    have ih := rows_showable fun x hx => h x (List.mem_cons_of_mem r hx)
    have hr := h r List.mem_cons_self
    have hk : ∀ {l : List (Str × Int)}, (∀ q ∈ l, SmallS q.1 ∧ q.2.natAbs.log2 < 1920) → PyData.showableKv (l.map fun q => (PyData.str q.1, PyData.int q.2)) = true := fun {l} => by
      induction l with
      | nil => exact fun _ => by simp only [List.map_nil, PyData.showableKv]
      | cons q l ih2 =>
        intro hl
        have := (hl q List.mem_cons_self).2
        simp only [List.map_cons, PyData.showableKv, PyData.showable, ih2 fun x hx => hl x (List.mem_cons_of_mem _ hx), decide_eq_true this, Bool.and_self]
    have hd : (dRow r).showable = true := by
      unfold dRow dCnt
      simp only [PyData.showable, PyData.showableAll, hk hr.2.2.2, Bool.and_self]
    simp only [List.map_cons, PyData.showableAll, hd, ih, Bool.and_self]
theorem rows_depth : ∀ rows : List Row, PyData.depthAll (rows.map dRow) ≤ 2
  | [] => by simp only [List.map_nil, PyData.depthAll, Nat.zero_le]
  | r :: rows => by
    have ih := rows_depth rows
    have hk : ∀ l : List (Str × Int), PyData.depthKv (l.map fun q => (PyData.str q.1, PyData.int q.2)) = 0 := fun l => by
      induction l with
      | nil => simp only [List.map_nil, PyData.depthKv]
      | cons q l ih2 => simp only [List.map_cons, PyData.depthKv, PyData.depth, ih2, Nat.max_self]
    have hd : (dRow r).depth ≤ 2 := by
      unfold dRow dCnt
      simp only [PyData.depth, PyData.depthAll, hk]
      omega
    simp only [List.map_cons, PyData.depthAll]
    omega
def rRepr : List V → Hp → VK → Prop := fun xs H Q => ∃ v rows, xs = [v] ∧ LstR (PairR PrR Cnt) rows v H ∧ rows.length ≤ 15 ∧ (∀ r ∈ rows, RowOk r) ∧ Q (.str (rowsText rows)) H
section
variable {X : Cx}
theorem call_repr (hg : X.A.guards = some []) (hu : X.A.units + 64 < cLine) : CallR X (.builtin "repr") rRepr := by
  intro pins s σ H xs us Q I r h
  obtain ⟨v, rows, rfl, ⟨a, vs, rfl, ha, pr⟩, h15, ok, q⟩ := h
  rw [Vals.ref1 r]
  obtain ⟨_, its, n, rv, hget⟩ := (show ObjOk X.prog X.w H s.heap a (.lst vs) from I.hok a _ ha)
  obtain ⟨as, ra, ns⟩ := rows_read (h := s.heap) I rv pr
  have tl := rowsText_len h15 ok
  have sl : (listText (PyData.shownAll (rows.map dRow))).length ≤ sizeLine := Nat.le_trans tl (by decide)
  obtain ⟨bs, hb, hk⟩ := ReprAllK.of_readsAll (prog := X.prog) (w := X.w) ra (rows_showable ok) (fun _ => ns) fun t ht => Nat.le_trans (listText_mem_le ht) sl
  have dp := rows_depth rows
  have rl : Reads s.heap (.ref a) (.list (rows.map dRow)) _ := .list (vs := its.toArray) hget rfl rfl (by simpa using ra)
  have hna : a ∉ bs := not_mem_of_deeper rl (by simp only [PyData.depth]; omega) hb
  have fin : ∀ h' u tk, (∀ b o, s.heap.get? b = some o → h'.get? b = some o) → EP X pins σ Q (.str (listText (PyData.shownAll (rows.map dRow))) u) { s with heap := h', toks := tk } := fun h' u tk keep =>
    ⟨.str (rowsText rows), H, I.kept (t' := tk) keep, ⟨u, rfl⟩, q⟩
  refine call_repr_slot (by omega) (T := "list") ⟨_, hget, rfl⟩ PySem.F.slot_list_repr.toG ?_
  match its, hget, ra, hk with
  | [], hget, ra, hk =>
    have e : rows.map dRow = [] := by
      cases hh : rows.map dRow with
      | nil => rfl
      | cons d ds =>
        rw [hh] at ra
        cases ra
    rw [e] at fin
    simp only [PyData.shownAll, listText_nil] at fin
    exact call_list_repr_empty ⟨_, hget, rfl⟩ hget rfl ⟨_, _, rfl, fin s.heap _ _ fun _ _ e => e⟩
  | x :: l, hget, ra, hk =>
    exact call_list_reprK hget rfl rfl hna (by simpa using hk.length_eq) (fun i y e => hk.item i y (by simpa using e)) (g := []) (show X.A.in1.guards = some [] from hg) (fun b _ => Clear.nil b) (show X.A.units + 1 + _ < cLine by omega) (fun _ _ e => e) (fun h' u tk keep => ⟨_, _, rfl, fin h' u tk keep⟩) sl
end
end Crt
end

section
/-! What the law does with debts: readings. -/
set_option autoImplicit false
namespace Crt
open PySem PySem.Spec PyProof.Rows L2
/-! ### d.clear(), d locked -/
def rClearT : V → List V → Hp → VK → Prop := fun x vs H Q => ∃ (a : Addr) (kvs : List (List Key × V)), x = .ref a ∧ vs = [] ∧ H a = some (.dT kvs) ∧ Q .non (upd H a (.dT []))
def tUnl (to : TE) : TE := fun σ H Q => to σ H fun x H1 => ∃ a od kvs, x = .ref a ∧ H1 a = some (.frz od (.dT kvs)) ∧ Q x (upd H1 a (.dT kvs))
abbrev tTClear (K : PySem.W.Frag) (to : TE) : TE := tBM0 K "dict" rClearT (tUnl to)
section
variable {X : Cx}
theorem mtd_clearT : MtR X "dict.clear" rClearT := by
  intro pins s σ H x vs v us Q I rx rv h
  obtain ⟨a, kvs, rfl, rfl, e, q⟩ := h
  obtain rfl : v = Value.ref a := rx
  have hus := rv.zero
  subst hus
  obtain ⟨z, hd, xs, rel, dd⟩ := dt_of I.hok e
  have hz : xs.length ≤ sizeLine := by
    rw [← rel.length]
    exact z
  obtain ⟨o, es, ep, h1, h2, h3, h4, _, _⟩ := id dd
  have hes : es.size ≤ sizeLine := by
    rw [size_of_entries h4]
    exact hz
  refine call_meetsIn PySem.F.slot_dict_clear dd.typeIs PySem.F.entry_dict_clear (PySem.F.args_dict_clear_1 _) (meets_dict_clear_raw a) ⟨es, ep, ⟨o, h1, h2, h3⟩, hes, fun h' dd' hs => ?_⟩
  obtain ⟨o2, g1, g2, g3⟩ := dd'
  exact ⟨.non, _, d_write (t' := s.toks) I (by rw [e]; exact True.intro) hs ⟨o2, g1⟩ (show ObjOk X.prog X.w _ _ _ (.dT []) from ⟨Nat.zero_le _, hd, [], .nil, o2, #[], ep + 1, g1, g2, g3, rfl, List.nodup_nil⟩), rfl, q⟩
theorem pe_unl {o : Expr} {to : TE} (hO : Only X.H_0) (ho : PE X o to) : PE X o (tUnl to) := by
  refine ⟨fun pins s σ H Q I h => ?_⟩
  refine wpAny_mono (ho.run pins s σ H _ I h) (fun v s1 z => ?_) fun _ _ z => z
  obtain ⟨x, H1, I1, rx, a, od, kvs, rfl, ha, q⟩ := z
  refine ⟨.ref a, _, I1.unlock ha fun o' u' e => ?_, rx, q⟩
  rcases hO a with z | ⟨ob, ys, z⟩
  · rw [z] at e
    cases e
  · have e2 := I1.base.frzs a ob _ z
    rw [ha] at e2
    injection e2 with e3
    injection e3 with _ e4
    cases e4
theorem pe_clearT {o : Expr} {to : TE} {apos cpos : Pos} (hO : Only X.H_0) (ho : PE X o to) (hbase : attributeBase o "clear" X.env (eval o X.env) = eval o X.env := by rfl) (hline : (apos.endLine == cpos.line) = true := by rfl) : PE X (.Call (.Attribute o "clear" apos) [] [] cpos) (tTClear X.K to) :=
  pe_bm0 PySem.F.plainAttrs_dict PySem.F.slot_dict_clear PySem.F.type_dict_clear mtd_clearT (pe_unl hO ho) hbase hline
end
end Crt
end

section
/-! Calls and comparisons of the law, as readings. -/
set_option autoImplicit false
namespace Crt
open PySem PySem.Spec PyProof.Rows L2
section
variable {α : Type} {R : α → PV} {cs : Held} {σ : L2.St} {G H : Hp} {ta tb tc : TE} {xs ys : List α} {C E : Addr} {U hs ks : List Str} {B : List (List Int)} {Vb : Nat} {d : Debts} {rs : List (List Str × Fn)} {D : Ends} {K : PySem.W.Frag}
theorem gv_cat (m : MonR R) (ha : Gv cs ta σ G (LstR R xs)) (hb : Gv cs tb σ G (LstR R ys)) (hn : xs.length + ys.length ≤ 100000) : Gv cs (tOp rCat ta tb) σ G (LstR R (xs ++ ys)) :=
  gv_op ha hb fun x y G1 H1 s _ _ ux uy => by
    obtain ⟨p, us, rfl, hp, q1⟩ := ux.now
    obtain ⟨p2, us2, rfl, hp2, q2⟩ := uy.now
    have l1 := q1.length
    have l2 := q2.length
    exact rv_new s (fun d _ hd => lst_new m (pr_app q1 q2) hd) fun Q k => ⟨p, p2, us, us2, rfl, rfl, s _ _ hp, s _ _ hp2, by rw [l1, l2]; exact Nat.le_trans hn (by decide), k⟩
theorem after_pre (O : BaseOk U ks B) (Dk : DOk U hs Vb d) (Rk : ∀ r ∈ rs, ROk U hs Vb r) (hn : rs.length ≤ 20) (h6 : hs.length ≤ 6) (hV : Vb ≤ 9000) :
    d.length ≤ 15 ∧ rs.length ≤ 20 ∧ (∀ q ∈ rs, 2 ≤ q.1.length ∧ q.1.length ≤ 10) ∧ PlOk ks B U ∧ (afterDo d rs).length ≤ 15 ∧ ∀ q ∈ (afterDo d rs).map (·.1), RedOk ks.length B (ks.map (getP (afterDo d rs) q)) := by
  have D2 := Dk.after Rk hn
  refine ⟨Dk.len h6, hn, fun q hq => ?_, O.pl, D2.len h6, fun q _ => O.red (e := Vb + 7) (fun k => D2.gbd q k) (by omega)⟩
  have a := (Rk q hq).l3
  have b := (Rk q hq).l6
  omega
theorem gv_after (O : BaseOk U ks B) (Dk : DOk U hs Vb d) (Rk : ∀ r ∈ rs, ROk U hs Vb r) (hn : rs.length ≤ 20) (h6 : hs.length ≤ 6) (hV : Vb ≤ 9000) (ha : Gv cs ta σ G (ExR E (ks, B))) (hb : Gv cs tb σ G (Dic KP (LdU C U) d)) (hc : Gv cs tc σ G (LstR (RgR C U) rs)) : Gv cs (tCall (spAfter C E) [] C8.E0 (tCons ta (tCons tb (tCons tc tNil)))) σ G (Dic KP (LdU C U) (afterR ks B U d rs)) := fun H a c Q q =>
  ga_3 ha hb hc H a c _ fun vs G1 H1 s1 u1 => by
    obtain ⟨u, v, r, e, h1, h2, h3⟩ := u1.now
    rw [List.append_nil]
    exact ⟨((ks, B), d, rs, U), G1, s1.gh, ⟨u, v, r, e, h1, h2, h3, after_pre O Dk Rk hn h6 hV⟩, fun w G2 H2 s2 u2 _ => q w G2 H2 (s1.trans s2) u2⟩
/-- x = after_rings(..): a new dict -/
theorem set_after {i : Nat} (O : BaseOk U ks B) (Dk : DOk U hs Vb d) (Rk : ∀ r ∈ rs, ROk U hs Vb r) (hn : rs.length ≤ 20) (h6 : hs.length ≤ 6) (hV : Vb ≤ 9000) (ha : Gv cs ta σ G (ExR E (ks, B))) (hb : Gv cs tb σ G (Dic KP (LdU C U) d)) (hc : Gv cs tc σ G (LstR (RgR C U) rs)) (e : Same G H) (c : Hold cs H)
    (k : ∀ a G1 H1, Stp G H G1 H1 → Up (Dic KP (LdU C U) (afterR ks B U d rs) (.ref a)) G1 → H a = none → D.nx (σ.set i (some (.ref a))) H1) : tAsg (tCall (spAfter C E) [] C8.E0 (tCons ta (tCons tb (tCons tc tNil)))) (gName i) D σ H :=
  show tCall (spAfter C E) [] C8.E0 (tCons ta (tCons tb (tCons tc tNil))) σ H (fun v H' => D.nx (σ.set i (some v)) H') from ga_3 ha hb hc H e c _ fun vs G1 H1 s1 u1 => by
    obtain ⟨u, v, r, ev, h1, h2, h3⟩ := u1.now
    rw [List.append_nil]
    refine ⟨((ks, B), d, rs, U), G1, s1.gh, ⟨u, v, r, ev, h1, h2, h3, after_pre O Dk Rk hn h6 hV⟩, fun w G2 H2 s2 u2 nw => ?_⟩
    obtain ⟨a, rfl, ha⟩ := nw
    exact k a G2 H2 (s1.trans s2) u2 (s1.hh.free ha)
theorem gv_told (O : BaseOk U ks B) (Dk : DOk U hs Vb d) (h6 : hs.length ≤ 6) (hV : Vb ≤ 9000) (ha : Gv cs ta σ G (ExR E (ks, B))) (hb : Gv cs tb σ G (Dic KP (LdU C U) d)) : Gv cs (tCall (spTold C E) [] C8.E0 (tCons ta (tCons tb tNil))) σ G (LstR (PairR IsS Cnt) (toldN ks B U d)) :=
  gv_callE (α := (List Str × List (List Int)) × Debts × List Str) ((ks, B), d, U) (ga_imp (ga_2 ha hb) fun vs G ⟨u, v, e, h1, h2⟩ => ⟨u, v, e, h1, h2, by have := Dk.len h6; show d.length ≤ 30; omega, O.pl, fun p hp => by
    rw [(netsOf_mem hp).2]
    exact O.red (e := Vb + 4) (fun k => Dk.net_bd h6 p.1 k) (by omega)⟩) rfl
/-! ### comparing -/
theorem stp_ext {G H H' : Hp} (s : Same G H) (e : Ext H H') : Stp G H G H' := ⟨Same.refl G, s.trans e, e, fun _ _ h _ _ => h⟩
def LoadA (C : Addr) : Addr → Addr → Hp → Prop := fun a b H => ∃ f U G, Same G H ∧ LdR C U f (.ref a) G ∧ LdR C U f (.ref b) G
theorem mon_loadA {C : Addr} : ∀ a b H H', Ext H H' → LoadA C a b H → LoadA C a b H' := fun a b H H' e ⟨f, U, G, s, h1, h2⟩ => ⟨f, U, G, s.trans e, h1, h2⟩
theorem gv_neDt (nd : (d.map (·.1)).Nodup) (ha : Gv cs ta σ G (Dic KP (LdU C U) d)) (hb : Gv cs tb σ G (Dic KP (LdU C U) d)) : Gv cs (tOp (rNeDt (DIns C (LoadA C))) ta tb) σ G (IsB false) :=
  gv_op ha hb fun x y G1 H1 s _ _ ux uy => fun Q q => by
    obtain ⟨a, oa, us, rfl, h1, p1⟩ := ux.now
    obtain ⟨b, ob, us2, rfl, h2, p2⟩ := uy.now
    refine ⟨⟨a, b, oa, ob, _, _, rfl, rfl, s _ _ h1, s _ _ h2, by rw [List.length_map, List.length_map, p1.length, p2.length], fun p hp => ?_⟩, fun H' e => q _ G1 H' (stp_ext s e) (up_c rfl)⟩
    obtain ⟨u, hu, rfl⟩ := List.mem_map.mp hp
    obtain ⟨i, hi⟩ := List.mem_iff_getElem?.mp hu
    obtain ⟨kv, hkv, e1, r1⟩ := pr_at p1 hi
    have hv : valA d kv.1 = some kv.2 := valA_nodup nd (k := kv.1) (b := kv.2) (List.mem_of_getElem? hkv)
    obtain ⟨z, hz, r2⟩ := (paired_val (R := fun z b => LdU C U b z G1) p2 kv.1).1 _ hv
    refine ⟨z, ?_, ?_⟩
    · have e2 := valA_mapk (fun k : Str × Str => ([.inr k.1, .inr k.2] : List Key)) (fun a b h => by injection h with h1 h2; injection h2 with h3 _; exact Prod.ext (Sum.inr.inj h1) (Sum.inr.inj h3)) kv.1 us2
      show valA (us2.map fun p => (([.inr p.1.1, .inr p.1.2] : List Key), p.2)) ([.inr u.1.1, .inr u.1.2] : List Key) = some z
      rw [e1, e2, hz]
    · obtain ⟨p3, dx3, w3, ev3, g3, _⟩ := r1.2.2
      obtain ⟨p4, dx4, w4, ev4, g4, _⟩ := r2.2.2
      have ev3' : u.2 = .ref p3 := ev3
      rw [ev3'] at r1
      rw [ev4] at r2
      show DIns C (LoadA C) u.2 z H1
      rw [ev3', ev4]
      exact ⟨p3, p4, dx3, dx4, _, _, rfl, rfl, s _ _ g3, s _ _ g4, kv.2, U, G1, s, r1, r2⟩
def DSC : L2.Eqv := fun x y H => DFlat x y H ∨ DCt x y H
theorem mon_DSC : Mon DSC := Mon.or mon_flat mon_DCt
theorem gv_neTold {l : List (Str × List (Str × Int))} (nd : ∀ q ∈ l, (q.2.map (·.1)).Nodup) (ha : Gv cs ta σ G (LstR (PairR IsS Cnt) l)) (hb : Gv cs tb σ G (LstR (PairR IsS Cnt) l)) : Gv cs (tOp (rNeG (DTup K DSC)) ta tb) σ G (IsB false) :=
  gv_op ha hb fun x y G1 H1 s _ _ ux uy => fun Q q => by
    obtain ⟨a, us, rfl, h1, p1⟩ := ux.now
    obtain ⟨b, us2, rfl, h2, p2⟩ := uy.now
    refine ⟨⟨a, b, us, us2, rfl, rfl, s _ _ h1, s _ _ h2, by rw [p1.length, p2.length], fun i x y hx hy => ?_⟩, fun H' e => q _ G1 H' (stp_ext s e) (up_c rfl)⟩
    obtain ⟨kv, hkv, t, x1, x2, rfl, ht, e1, c1⟩ := pr_at p1 hx
    obtain ⟨kv2, hkv2, t2, y1, y2, rfl, ht2, e2, c2⟩ := pr_at p2 hy
    rw [hkv] at hkv2
    obtain rfl := Option.some.inj hkv2
    obtain rfl : x1 = .str kv.1 := e1
    obtain rfl : y1 = .str kv.1 := e2
    refine ⟨t, t2, _, _, rfl, rfl, SqT.of (s _ _ ht), SqT.of (s _ _ ht2), Prs.cons (.inl ⟨rfl, rfl, ?_⟩) (Prs.cons (.inr (cnt_dct s (nd kv (List.mem_of_getElem? hkv)) c1 c2)) Prs.nil)⟩
    simp [eqV]
/-! ### what repr tells -/
def rowsD (U : List Str) (d : Debts) : List Row := d.map fun p => (p.1, nf p.2 U)
theorem word_small {x : Str} (h : Word x) : SmallS x := ⟨h.2.1, fun c hc => by
  have := h.2.2 c hc
  rw [letters_list] at this
  have : ∀ n ∈ ([97, 98, 99, 100, 101, 102, 103, 104, 105, 106, 107, 108, 109, 110, 111, 112, 113, 114, 115, 116, 117, 118, 119, 120, 121, 122] : List Nat), n < 16 ^ 8 := by decide
  exact this c (by assumption)⟩
theorem rows_ok (Dk : DOk U hs 1400 d) (hU : U.length ≤ 5) (wU : ∀ k ∈ U, Word k) (wh : ∀ h ∈ hs, Word h) : ∀ r ∈ rowsD U d, RowOk r := fun r hr => by
  obtain ⟨p, hp, rfl⟩ := List.mem_map.mp hr
  obtain ⟨_, m1, m2⟩ := Dk.key p.1 (List.mem_map.mpr ⟨p, hp, rfl⟩)
  refine ⟨word_small (wh _ m1), word_small (wh _ m2), Nat.le_trans (nf_len p.2 U) (by omega), fun q hq => ?_⟩
  have hk : q.1 ∈ (nf p.2 U).map (·.1) := List.mem_map.mpr ⟨q, hq, rfl⟩
  refine ⟨word_small (wU _ (nf_mem.mp hk).1), ?_⟩
  obtain ⟨k, _, rfl⟩ := List.mem_map.mp hq
  have b := Dk.bd p hp k
  exact log2_lt (Nat.lt_of_le_of_lt b (Nat.pow_lt_pow_right (by decide) (by decide))) (by decide)
theorem gv_rows {j k : Nat} {x : L2.V} (nd : (d.map (·.1)).Nodup) (hn : d.length ≤ 100000) (u : Up (Dic KP (LdU C U) d x) G) (h0 : σ[j]? = some (some x)) (h1 : ∀ v, wipe ((wipe σ [k]).set k (some v)) [k] = wipe σ [k]) (h2 : ∀ v, ((wipe σ [k]).set k (some v))[k]? = some (some v)) (h3 : ∀ v, ((wipe σ [k]).set k (some v))[j]? = some (some x)) :
    Gv cs (tLc (iKeys (tVar j)) (gName k) tYes (tTup (tCons (tVar k) (tCons (tProp C (spCts C) [] C8.E0 (tDGet (tVar j) (tVar k))) tNil))) [k]) σ G (LstR (PairR PrR Cnt) (rowsD U d)) := by
  have fe : (d.map (·.1)).map (fun q => (q, nf (getP d q) U)) = rowsD U d := by
    unfold rowsD
    rw [List.map_map]
    refine List.map_congr_left fun p hp => ?_
    show (p.1, nf (getP d p.1) U) = _
    rw [getP_in nd hp]
  rw [← fe]
  refine gv_map (f := fun q => (q, nf (getP d q) U)) (mon_pair mon_PrR mon_cnt) (src_keysP (gv_var h0 u)) (by rw [List.length_map]; exact hn) ?_
  rintro z q G2 hq e2 uz
  obtain ⟨p, hp, rfl⟩ := List.mem_map.mp hq
  have hv : valA d p.1 = some (getP d p.1) := by
    rw [getP_in nd hp]
    exact valA_nodup nd (k := p.1) (b := p.2) hp
  refine ⟨(wipe σ [k]).set k (some z), tg_name, h1 z, gv_pair mon_PrR mon_cnt (gv_var (h2 z) uz) ?_⟩
  exact gv_prp (α := Fn × List Str) (getP d p.1, U) rfl (gv_dget (K := KP) mon_ldU (gv_var (h3 z) (u.on e2)) (gv_var (h2 z) uz) hv) fun v G h => ⟨v, rfl, h⟩
end
end Crt
end

section
/-! The law's turn: readings of its parts. -/
set_option autoImplicit false
namespace Crt
open PySem PySem.Spec PyProof.Rows L2
section
variable {α : Type} {R : α → PV} {φ ψ χ : PV} {p : Pen} {n m B : Nat} {σ : L2.St} {G H : Hp} {te ta tb tc td tw tr : TE} {tq : TA} {ξ : List V → Hp → Prop} {K : PySem.W.Frag} {C E : Addr} {U hs : List Str}
theorem gp_callF {α : Type} {pre : α → List V → Hp → Prop} {post : α → PV} {X : XK} (h : GpA p n tq σ G (fun vs G => ∃ x, pre x vs G ∧ ∀ v G', post x v G' → φ v G')) : Gp p n (tCall (SpF pre post) [] X tq) σ G φ := fun H B a c l Q q =>
  h H B a c l _ fun vs G1 H1 s1 c1 up => by
    obtain ⟨x, h1, h2⟩ := up.now
    rw [List.append_nil]
    refine ⟨x, G1, s1.gh.trans exc_same, h1, fun v G2 H2 s2 u2 => ?_⟩
    obtain ⟨s3, c3⟩ := c1.step s1.gh s2
    exact q v G2 H2 (s1.trans s3) c3 (u2.imp (h2 v))
/-- c + a draw -/
theorem gp_addDraw {j : Nat} {c k : Int} (h0 : σ[j]? = some (some (.ref p.1))) (h1 : 1 ≤ k) (h2 : k ≤ 100000) : Gp p 1 (tOp (rI0 fun i j => .int (i + j)) (tC (.int c)) (tCall spDraw [] C8.E0 (tCons (tVar j) (tCons (tC (.int k)) tNil)))) σ G (fun v _ => ∃ i : Int, v = .int (c + i) ∧ 0 ≤ i ∧ i < k) :=
  gp_le (n := 0 + (0 + 1)) (gp_op (φ := IsI c) (ψ := InR k) (gp_of gv_ci) (gp_draw (n := 0) (gpa_imp (gpa_cons (n := 0) (m := 0 + 0) (gp_of (gv_v h0)) (gpa_cons (gp_of (gv_ci (n := k))) (gpa_nil (n := 0)))) fun vs G ⟨v, r, e, h1, w, r2, e2, h2, h3⟩ => by rw [e, e2, h3, show v = _ from h1, show w = _ from h2]) h1 h2) fun x y G1 H1 s _ u1 u2 Q q => by
    obtain rfl : x = .int c := u1.now
    obtain ⟨i, rfl, i0, i1⟩ := u2.now
    exact ⟨c, i, rfl, rfl, q _ _ _ (Stp.refl s) (up_c ⟨i, rfl, i0, i1⟩)⟩) (by decide)
def WordsV (k : Nat) : PV := fun v G => ∃ ys : List Str, LstR IsS ys v G ∧ 3 ≤ ys.length ∧ ys.length < 3 + k ∧ ys.Nodup ∧ ∀ y ∈ ys, Word y
theorem gp_wordsJ {j k : Nat} (h0 : σ[j]? = some (some (.ref p.1))) (h1 : 1 ≤ k) (h2 : k ≤ 4) : Gp p 13 (tCall spWords [] C8.E0 (tCons (tVar j) (tCons (tOp (rI0 fun i j => .int (i + j)) (tC (.int 3)) (tCall spDraw [] C8.E0 (tCons (tVar j) (tCons (tC (.int (k : Int))) tNil)))) tNil))) σ G (WordsV k) :=
  gp_callX (n := 1) (m := 12) (gpa_imp (gpa_cons (n := 0) (m := 1 + 0) (gp_of (gv_v h0)) (gpa_cons (gp_addDraw h0 (by omega) (by omega)) (gpa_nil (n := 0)))) fun vs G ⟨v, r, e, q1, w', r2, e2, ⟨i, q2, i0, i1⟩, q3⟩ => ⟨[w'], (3 + i).toNat, by rw [e, e2, q3, show v = _ from q1], ⟨by rw [q2]; congr 2; omega, by omega⟩, fun v G ⟨ys, a, b, c, d⟩ => ⟨ys, a, by omega, by omega, c, d⟩⟩)
theorem gpa_varsL {i j : Nat} {x : V} (h0 : σ[i]? = some (some (.ref p.1))) (h1 : σ[j]? = some (some x)) (u : Up (φ x) G) : GpA p 0 (tCons (tVar i) (tCons (tVar j) tNil)) σ G (fun vs G => ∃ w, vs = [.ref p.1, w] ∧ φ w G) :=
  gpa_imp (gpa_cons (n := 0) (m := 0 + 0) (gp_of (gv_v h0)) (gpa_cons (gp_of (gv_var h1 u)) (gpa_nil (n := 0)))) fun vs G ⟨v, r, e, q1, w', r2, e2, q2, q3⟩ => ⟨w', by rw [e, e2, q3, show v = _ from q1], q2⟩
theorem gpa_varsK {j k : Nat} {x y : V} (h1 : σ[j]? = some (some x)) (u : Up (φ x) G) (h2 : σ[k]? = some (some y)) (w : Up (ψ y) G) : GpA p 0 (tCons (tVar j) (tCons (tVar k) tNil)) σ G (fun vs G => ∃ a b, vs = [a, b] ∧ φ a G ∧ ψ b G) :=
  gpa_imp (gpa_cons (n := 0) (m := 0 + 0) (gp_of (gv_var h1 u)) (gpa_cons (gp_of (gv_var h2 w)) (gpa_nil (n := 0)))) fun vs G ⟨v, r, e, q1, w', r2, e2, q2, q3⟩ => ⟨v, w', by rw [e, e2, q3], q1, q2⟩
theorem gpa_varsM {i j k : Nat} {x y : V} (h0 : σ[i]? = some (some (.ref p.1))) (h1 : σ[j]? = some (some x)) (u : Up (φ x) G) (h2 : σ[k]? = some (some y)) (w : Up (ψ y) G) : GpA p 0 (tCons (tVar i) (tCons (tVar j) (tCons (tVar k) tNil))) σ G (fun vs G => ∃ a b, vs = [.ref p.1, a, b] ∧ φ a G ∧ ψ b G) :=
  gpa_imp (gpa_cons (n := 0) (m := 0) (gp_of (gv_v h0)) (gpa_varsK h1 u h2 w)) fun vs G ⟨v, r, e, q1, a, b, q2, q3, q4⟩ => ⟨a, b, by rw [e, q2, show v = _ from q1], q3, q4⟩
theorem gp_exch {i j : Nat} {x : V} (h0 : σ[i]? = some (some (.ref p.1))) (h1 : σ[j]? = some (some x)) (u : Up (LstR IsS U x) G) (l3 : 3 ≤ U.length) (l5 : U.length ≤ 5) (nd : U.Nodup) (hw : ∀ k ∈ U, Word k) : Gp p 38 (tCall (spEx E) [] C8.E0 (tCons (tCall spPairs [] C8.E0 (tCons (tVar i) (tCons (tVar j) tNil))) tNil)) σ G (RulR E U) :=
  gp_callF (gpa_imp (gpa_cons (n := 38) (m := 0) (gp_callX (n := 0) (m := 38) (φ := fun v G => ∃ prs : List (List (Str × Int) × List (Str × Int)), LstR (PairR Cnt Cnt) prs v G ∧ prs.length ≤ 4 ∧ ∀ q ∈ prs, SideL U q.1 ∧ SideL U q.2) (gpa_imp (gpa_varsL h0 h1 u) fun vs G ⟨w, e, h⟩ => ⟨[w], U, e, ⟨w, rfl, h, by omega, l3, nd⟩, fun v G h => h⟩)) (gpa_nil (n := 0))) fun vs G ⟨v, r, e, ⟨prs, q1, q2, q3⟩, q4⟩ => ⟨(prs, U), ⟨v, by rw [e, q4], q1, q2, q3, l5, hw⟩, fun v G h => h⟩)
theorem gp_loads {i j k : Nat} {x y : V} (h0 : σ[i]? = some (some (.ref p.1))) (h1 : σ[j]? = some (some x)) (u : Up (LstR IsS U x) G) (h2 : σ[k]? = some (some y)) (uh : Up (LstR IsS hs y) G) (l5 : U.length ≤ 5) (nd : U.Nodup) (hw : ∀ k ∈ U, Word k) (l3 : 3 ≤ hs.length) (l6 : hs.length ≤ 6) (hn : hs.Nodup) :
    Gp p 309 (tCall (spLoads C) [] C8.E0 (tCons (tCall spDebts [] C8.E0 (tCons (tVar i) (tCons (tVar j) (tCons (tVar k) tNil)))) tNil)) σ G (fun v G => ∃ d, Dic KP (LdU C U) d v G ∧ DOk U hs 30 d) :=
  gp_callF (gpa_imp (gpa_cons (n := 309) (m := 0) (gp_callX (n := 0) (m := 309) (φ := fun v G => ∃ kvs : CDebts, Dic KP Cnt kvs v G ∧ CDOk U hs kvs ∧ kvs.length ≤ 15) (gpa_imp (gpa_varsM h0 h1 u h2 uh) fun vs G ⟨a, b, e, q1, q2⟩ => ⟨[a, b], (U, hs), e, ⟨a, b, rfl, q1, q2, l5, nd, l6, l3, hn⟩, fun v G h => h⟩)) (gpa_nil (n := 0))) fun vs G ⟨v, r, e, ⟨kvs, q1, q2, q3⟩, q4⟩ => ⟨(kvs, U, hs), ⟨v, by rw [e, q4], q1, q2, q3, l5, hw⟩, fun v G h => ⟨_, h, loads_ok q2⟩⟩)
def RingsV (C : Addr) (U hs : List Str) : PV := fun v G => ∃ rs : List (List Str × Fn), LstR (RgR C U) rs v G ∧ rs.length ≤ 3 ∧ ∀ r ∈ rs, ROk U hs 30 r
theorem gp_rings {i j k : Nat} {x y : V} (h0 : σ[i]? = some (some (.ref p.1))) (h1 : σ[j]? = some (some x)) (u : Up (LstR IsS U x) G) (h2 : σ[k]? = some (some y)) (uh : Up (LstR IsS hs y) G) (l5 : U.length ≤ 5) (nd : U.Nodup) (hw : ∀ k ∈ U, Word k) (l3 : 3 ≤ hs.length) (l6 : hs.length ≤ 6) (hn : hs.Nodup) :
    Gp p 70 (tCall (spRings C) [] C8.E0 (tCons (tVar i) (tCons (tVar j) (tCons (tVar k) tNil)))) σ G (RingsV C U hs) :=
  gp_callX (n := 0) (m := 70) (gpa_imp (gpa_varsM h0 h1 u h2 uh) fun vs G ⟨a, b, e, q1, q2⟩ => ⟨[a, b], (U, hs), e, ⟨a, b, rfl, q1, q2, l5, nd, hw, l6, l3, hn⟩, fun v G h => h⟩)
end
section
variable {σ : L2.St} {G H : Hp} {te ta tb tc td tw tr : TE} {K : PySem.W.Frag} {C E : Addr} {U hs ks : List Str} {Bs : List (List Int)} {d : Debts} {a b : List (List Str × Fn)}
variable (O : BaseOk U ks Bs) (Dk : DOk U hs 30 d) (Ra : ∀ r ∈ a, ROk U hs 30 r) (Rb : ∀ r ∈ b, ROk U hs 30 r) (na : a.length ≤ 3) (nb : b.length ≤ 3) (h6 : hs.length ≤ 6)
theorem ROk.app {V : Nat} {a b : List (List Str × Fn)} (Ra : ∀ r ∈ a, ROk U hs V r) (Rb : ∀ r ∈ b, ROk U hs V r) : ∀ r ∈ a ++ b, ROk U hs V r := fun r hr => (List.mem_append.mp hr).elim (Ra r) (Rb r)
include O Dk Ra na h6
section
include Rb nb
theorem gt_told (hr : Gv [] tr σ G (ExR E (ks, Bs))) (hw : Gv [] tw σ G (Dic KP (LdU C U) (afterR ks Bs U d (a ++ b)))) (hd : Gv [] td σ G (Dic KP (LdU C U) d)) :
    GvT [] (tTest (tOp (rNeG (DTup K DSC)) (tCall (spTold C E) [] C8.E0 (tCons tr (tCons tw tNil))) (tCall (spTold C E) [] C8.E0 (tCons tr (tCons td tNil))))) σ G false := by
  have ln : (a ++ b).length ≤ 20 := by
    rw [List.length_append]
    omega
  have R := ROk.app Ra Rb
  have z := gv_told O (Dk.afterR O R ln (by decide)) h6 (by decide) hr hw
  rw [told_same O Dk R ln] at z
  refine gt_test (gv_neTold (fun q hq => ?_) z (gv_told O Dk h6 (by decide) hr hd))
  obtain ⟨h, _, rfl⟩ := List.mem_map.mp hq
  exact nf_nodup _ _
theorem gt_two {c : List (List Str × Fn)} (hc : ∀ q k, sumI (ringS q k) c = sumI (ringS q k) (a ++ b)) (Rc : ∀ r ∈ c, ROk U hs 30 r) (nc : c.length ≤ 6) (hr : Gv [] tr σ G (ExR E (ks, Bs))) (hd : Gv [] td σ G (Dic KP (LdU C U) d)) (ha : Gv [] ta σ G (LstR (RgR C U) a)) (hb : Gv [] tb σ G (LstR (RgR C U) b)) (hw : Gv [] tw σ G (Dic KP (LdU C U) (afterR ks Bs U d c))) :
    GvT [] (tTest (tOp (rNeDt (DIns C (LoadA C))) (tCall (spAfter C E) [] C8.E0 (tCons tr (tCons (tCall (spAfter C E) [] C8.E0 (tCons tr (tCons td (tCons ta tNil)))) (tCons tb tNil)))) tw)) σ G false := by
  have D1 : DOk U hs 1400 (afterR ks Bs U d a) := Dk.afterR O Ra (by omega) (by decide)
  have e := after_two O Dk (by decide) Ra Rb Rc (by omega) (by omega) (by omega) (c := c) fun q k => by rw [hc, sumI_app]
  have D2 : DOk U hs 1400 (afterR ks Bs U d c) := Dk.afterR O Rc (by omega) (by decide)
  have z := gv_after (C := C) O D1 (fun r hr => ROk.up O (by decide) (Rb r hr)) (by omega) h6 (by decide) hr (gv_after (C := C) O Dk Ra (by omega) h6 (by decide) hr hd ha) hb
  rw [e] at z
  exact gt_test (gv_neDt D2.nd z hw)
end
theorem gt_back (hr : Gv [] tr σ G (ExR E (ks, Bs))) (hd : Gv [] td σ G (Dic KP (LdU C U) d)) (ha : Gv [] ta σ G (LstR (RgR C U) a)) (hb : Gv [] tb σ G (LstR (RgR C U) (a.map fun r => (r.1.reverse, r.2)))) :
    GvT [] (tTest (tOp (rNeDt (DIns C (LoadA C))) (tCall (spAfter C E) [] C8.E0 (tCons tr (tCons td (tCons (tOp rCat ta tb) tNil)))) (tCall (spAfter C E) [] C8.E0 (tCons tr (tCons td (tCons (tLst tNil) tNil)))))) σ G false := by
  have Rb : ∀ r ∈ a.map (fun r => (r.1.reverse, r.2)), ROk U hs 30 r := fun r hr => by
    obtain ⟨q, hq, rfl⟩ := List.mem_map.mp hr
    have R := Ra q hq
    exact ⟨List.pairwise_reverse.mpr (R.nd.imp fun h => Ne.symm h), by rw [List.length_reverse]; exact R.l3, by rw [List.length_reverse]; exact R.l6, fun x hx => R.sub x (List.mem_reverse.mp hx), R.sup, R.bd⟩
  have nb : (a.map fun r => (r.1.reverse, r.2)).length ≤ 3 := by
    rw [List.length_map]
    exact na
  have ln : (a ++ a.map fun r => (r.1.reverse, r.2)).length ≤ 20 := by
    rw [List.length_append]
    omega
  have sm : ∀ (q : Str × Str) (k : Str) (a : List (List Str × Fn)), (∀ r ∈ a, ROk U hs 30 r) → sumI (ringS q k) (a.map fun r => (r.1.reverse, r.2)) = -sumI (ringS q k) a := fun q k a => by
    induction a with
    | nil => exact fun _ => rfl
    | cons r a ih =>
      intro h
      have R := h r List.mem_cons_self
      have e := ringS_rev (q := q) (k := k) (r := r) R.nd (by have := R.l3; omega)
      show ringS q k (r.1.reverse, r.2) + sumI (ringS q k) (a.map fun r => (r.1.reverse, r.2)) = -(ringS q k r + sumI (ringS q k) a)
      rw [e, ih fun x hx => h x (List.mem_cons_of_mem _ hx)]
      omega
  have R := ROk.app Ra Rb
  have e : afterR ks Bs U d (a ++ a.map fun r => (r.1.reverse, r.2)) = afterR ks Bs U d [] := after_sum O Dk R (fun r hr => by cases hr) ln (by decide) Dk fun q k => by
    rw [sumI_app, sm q k a Ra]
    show _ = (0 : Int)
    omega
  have D2 : DOk U hs 1400 (afterR ks Bs U d []) := Dk.afterR O (fun r hr => by cases hr) (by decide) (by decide)
  have z := gv_after (C := C) O Dk R ln h6 (by decide) hr hd (gv_cat mon_RgR ha hb (by omega))
  rw [e] at z
  exact gt_test (gv_neDt D2.nd z (gv_after (C := C) (rs := []) O Dk (fun r hr => by cases hr) (by decide) h6 (by decide) hr hd (gv_nilL mon_RgR)))
theorem gt_twice (hr : Gv [] tr σ G (ExR E (ks, Bs))) (hd : Gv [] td σ G (Dic KP (LdU C U) d)) (ha : Gv [] ta σ G (LstR (RgR C U) a)) (hb : Gv [] tb σ G (LstR (RgR C U) (a.map fun r => (r.1, fun k => r.2 k * 2)))) :
    GvT [] (tTest (tOp (rNeDt (DIns C (LoadA C))) (tCall (spAfter C E) [] C8.E0 (tCons tr (tCons td (tCons (tOp rCat ta ta) tNil)))) (tCall (spAfter C E) [] C8.E0 (tCons tr (tCons td (tCons tb tNil)))))) σ G false := by
  have Rb : ∀ r ∈ a.map (fun r => (r.1, fun k => r.2 k * 2)), ROk U hs 31 r := fun r hr => by
    obtain ⟨q, hq, rfl⟩ := List.mem_map.mp hr
    have R := Ra q hq
    refine ⟨R.nd, R.l3, R.l6, R.sub, fun k hk => R.sup k fun z => hk ?_, fun k => ?_⟩
    · show q.2 k * 2 = 0
      rw [z]
      rfl
    · show (q.2 k * 2).natAbs ≤ _
      rw [Int.natAbs_mul, Nat.pow_succ]
      exact Nat.mul_le_mul (R.bd k) (Nat.le_refl _)
  have nb : (a.map fun r => (r.1, fun k => r.2 k * 2)).length ≤ 3 := by
    rw [List.length_map]
    exact na
  have ln : (a ++ a).length ≤ 20 := by
    rw [List.length_append]
    omega
  have sm : ∀ (q : Str × Str) (k : Str) (a : List (List Str × Fn)), sumI (ringS q k) (a.map fun r => (r.1, fun k => r.2 k * 2)) = 2 * sumI (ringS q k) a := fun q k a => by
    induction a with
    | nil => rfl
    | cons r a ih =>
      have e := ringS_mul (q := q) (k := k) 2 r
      have e2 : (fun j => r.2 j * 2) = fun j => 2 * r.2 j := funext fun j => Int.mul_comm _ _
      show ringS q k (r.1, fun j => r.2 j * 2) + sumI (ringS q k) (a.map fun r => (r.1, fun k => r.2 k * 2)) = 2 * (ringS q k r + sumI (ringS q k) a)
      rw [e2, e, ih]
      omega
  have R := ROk.app Ra Ra
  have D31 : DOk U hs 31 d := ⟨Dk.nd, Dk.key, Dk.sup, fun p hp k => Nat.le_trans (Dk.bd p hp k) (Nat.pow_le_pow_right (by decide) (by decide))⟩
  have e : afterR ks Bs U d (a ++ a) = afterR ks Bs U d (a.map fun r => (r.1, fun k => r.2 k * 2)) := after_sum O Dk R Rb ln (by omega) D31 fun q k => by
    rw [sumI_app, sm q k a]
    omega
  have D2 : DOk U hs 1400 (afterR ks Bs U d (a.map fun r => (r.1, fun k => r.2 k * 2))) := D31.afterR O Rb (by omega) (by decide)
  have z := gv_after (C := C) O Dk R ln h6 (by decide) hr hd (gv_cat mon_RgR ha ha (by omega))
  rw [e] at z
  exact gt_test (gv_neDt D2.nd z (gv_after (C := C) O D31 Rb (by omega) h6 (by decide) hr hd hb))
end
section
variable {σ : L2.St} {G H : Hp} {te ta tb : TE} {K : PySem.W.Frag} {C : Addr} {U hs : List Str} {a : List (List Str × Fn)}
theorem gv_back {i j : Nat} (ha : Gv [] ta σ G (LstR (RgR C U) a)) (na : a.length ≤ 3) (h1 : ∀ x y, wipe (((wipe σ [i, j]).set i (some x)).set j (some y)) [i, j] = wipe σ [i, j]) (h2 : ∀ x y, (((wipe σ [i, j]).set i (some x)).set j (some y))[i]? = some (some x)) (h3 : ∀ x y, (((wipe σ [i, j]).set i (some x)).set j (some y))[j]? = some (some y)) :
    Gv [] (tLc (iList K ta) (gTup K 2 (gCons (gName i) (gCons (gName j) gNil))) tYes (tTup (tCons (tRevT K (tVar i)) (tCons (tVar j) tNil))) [i, j]) σ G (LstR (RgR C U) (a.map fun r => (r.1.reverse, r.2))) := by
  refine gv_map (f := fun r : List Str × Fn => (r.1.reverse, r.2)) mon_RgR (src_list mon_RgR ha) (by omega) ?_
  rintro z r G2 hr e2 uz
  obtain ⟨t, x, y, rfl, ht, hx, hy⟩ := uz.now
  exact ⟨_, tg_pair ht, h1 x y, gv_pair (mon_tup mon_S) mon_ldU (gv_revT mon_S (gv_var (h2 x y) ((mon_tup mon_S).up hx))) (gv_var (h3 x y) (mon_ldU.up hy))⟩
theorem gv_ownTwo {f : Fn} (hb : Gv [] tb σ G (LdR C U f)) (hf : ∀ k, (f k).natAbs ≤ 2 ^ 30) : Gv [] (tOp (rOwnR C (spRmul C)) (tC (.int 2)) tb) σ G (LdR C U fun k => f k * 2) := fun H e c Q q =>
  hb H e c _ fun y G1 H1 s1 u1 => by
    obtain ⟨a, dx, w, rfl, h1, _⟩ := u1.now.2.2
    refine ⟨a, 2, dx, _, rfl, rfl, s1.gh _ _ h1, ((f, U), 2), G1, s1.gh, ⟨_, rfl, u1.now, fun k => ?_⟩, fun v G2 H2 s2 u2 => q v G2 H2 (s1.trans s2) u2⟩
    show (f k).natAbs.log2 + (2 : Int).natAbs.log2 < 1000000
    have a := log2_lt (Nat.lt_of_le_of_lt (hf k) (show 2 ^ 30 < 2 ^ 31 by decide)) (by decide)
    have b : (2 : Int).natAbs.log2 ≤ 1 := by decide +kernel
    omega
theorem gv_twice {i j : Nat} (ha : Gv [] ta σ G (LstR (RgR C U) a)) (na : a.length ≤ 3) (Ra : ∀ r ∈ a, ROk U hs 30 r) (h1 : ∀ x y, wipe (((wipe σ [i, j]).set i (some x)).set j (some y)) [i, j] = wipe σ [i, j]) (h2 : ∀ x y, (((wipe σ [i, j]).set i (some x)).set j (some y))[i]? = some (some x)) (h3 : ∀ x y, (((wipe σ [i, j]).set i (some x)).set j (some y))[j]? = some (some y)) :
    Gv [] (tLc (iList K ta) (gTup K 2 (gCons (gName i) (gCons (gName j) gNil))) tYes (tTup (tCons (tVar i) (tCons (tOp (rOwnR C (spRmul C)) (tC (.int 2)) (tVar j)) tNil))) [i, j]) σ G (LstR (RgR C U) (a.map fun r => (r.1, fun k => r.2 k * 2))) := by
  refine gv_map (f := fun r : List Str × Fn => (r.1, fun k => r.2 k * 2)) mon_RgR (src_list mon_RgR ha) (by omega) ?_
  rintro z r G2 hr e2 uz
  obtain ⟨t, x, y, rfl, ht, hx, hy⟩ := uz.now
  exact ⟨_, tg_pair ht, h1 x y, gv_pair (mon_tup mon_S) mon_ldU (gv_var (h2 x y) ((mon_tup mon_S).up hx)) (gv_ownTwo (gv_var (h3 x y) (mon_ldU.up hy)) (Ra r hr).bd)⟩
theorem gv_repr {rows : List Row} (ha : Gv [] ta σ G (LstR (PairR PrR Cnt) rows)) (h15 : rows.length ≤ 15) (ok : ∀ r ∈ rows, RowOk r) : Gv [] (tCB rRepr (tCons ta tNil)) σ G (IsS (rowsText rows)) :=
  gv_cb' (ga_1 ha) fun vs G1 H1 s c1 g up => rv_at (v := .str (rowsText rows)) s (up_c rfl) fun Q q => by
    obtain ⟨v, rfl, e⟩ := up.now
    exact ⟨v, rows, rfl, mon_lst (mon_pair mon_PrR mon_cnt) _ _ _ _ s e, h15, ok, q⟩
end
end Crt
end

section
/-! The law: its walk. -/
set_option autoImplicit false
namespace Crt
open PySem PySem.Spec PyProof.Rows L2
def lawN : List Str := ["_law_script", "_law_pen_here", "_law_turn", "_law_kinds", "_law_rules", "_law_houses", "_law_owing", "_law_some", "_law_more", "_law_whole", "_law_back", "_law_twice", "_law_kept", "_law_again", "_law_row", "_law_load", "_law_pair"]
def spLaw (K : PySem.W.Frag) : Sp := fun vs H Q _ => ∃ (a : Addr) (ns : List Int), vs = [.ref a] ∧ Only H ∧ ns.length ≤ 63 ∧ SqL K H a (ns.map V.int) ∧ ∀ H', Q (.bl true) H'
/-- what the law needs of the text -/
structure LawF (P : Program) (w : World) (K : PySem.W.Frag) (mg : Str → Option Value) (base : Heap) (C E : Addr) : Prop where
  mr : mg "range" = none
  mm : mg "min" = none
  ml : mg "len" = none
  mp : mg "repr" = none
  sf : PySem.W.selfFirst K C = true
  cl : Cls K C
  pen : CalP P w K mg base 1 "_law_pen" (spPen K)
  draw : CalP P w K mg base 1 "_law_draw" spDraw
  words : CalP P w K mg base 3 "_law_words" spWords
  pairs : CalP P w K mg base 3 "_law_some_pairs" spPairs
  exch : CalP P w K mg base 13 "_law_exchanges" (spEx E)
  debts : CalP P w K mg base 5 "_law_debts" spDebts
  loads : CalP P w K mg base 6 "_law_loads" (spLoads C)
  rings : CalP P w K mg base 6 "_law_some_rings" (spRings C)
  told : CalP P w K mg base 8 "_law_nets_told" (spTold C E)
  after : CalP P w K mg base 7 "after_rings" (spAfter C E)
  cts : Prp P w K mg base 1 C "counts" (spCts C)
  eq : Dun P w K mg base 2 C "__eq__" (spEqL C)
  sub : PySem.W.subIn K (.ref C) (.type "int") = some false
  mul : ∃ f0 f, PySem.W.findIn K (.ref C) (PySem.dunder "mul") = some (some (.ref f0)) ∧ PySem.W.findIn K (.ref C) (dunderR "mul") = some (some (.ref f)) ∧ PySem.W.isFn K (.ref f) = true ∧ C8.CalAt P w K mg base 7 f (spRmul C)
section
variable {α : Type} {R : α → PV} {p : Pen} {n B : Nat} {σ : L2.St} {G H : Hp} {wi : TI} {g : TG} {tb : TS} {D : Ends} {P : List α → Prop}
/-- as for_gp, what is walked told at this heap -/
theorem for_gpH (hs : ∀ Rk : It → Hp → Prop, (∀ J G1 H1 xs, Stp G (exc p H) G1 (exc p H1) → Pn p (B + n) H1 → P xs → Walks J [] G1 xs R → Rk J H1) → wi σ H Rk) (Iv : List α → Nat → L2.St → Hp → Hp → Prop) (hsame : ∀ xs i σ Gc Hc, Iv xs i σ Gc Hc → Same Gc (exc p Hc))
    (h0 : ∀ G1 H1 xs, Stp G (exc p H) G1 (exc p H1) → Pn p (B + n) H1 → P xs → Iv xs 0 σ G1 H1)
    (step : ∀ xs, P xs → ∀ (i : Nat) (x : α) (v : V) σ2 Gc Hc G2 H2, xs[i]? = some x → Same G Gc → Iv xs i σ2 Gc Hc → Stp Gc Hc G2 H2 → Up (R x v) G2 →
      g v σ2 H2 fun σ3 H3 => tb { D with nx := fun σ' H' => ∃ G', Same Gc G' ∧ Iv xs (i + 1) σ' G' H', ct := fun σ' H' => ∃ G', Same Gc G' ∧ Iv xs (i + 1) σ' G' H', bk := D.nx } σ3 H3)
    (fin : ∀ xs σ2 Gc Hc, P xs → Same G Gc → Iv xs xs.length σ2 Gc Hc → D.nx σ2 Hc) : tFor wi g tb D σ H := hs _ fun J G1 H1 xs s1 c1 hp W => by
  refine ⟨fun i m σ Hc => m = xs.length - i ∧ i ≤ xs.length ∧ ∃ Gc, Same G1 Gc ∧ Iv xs i σ Gc Hc, ⟨_, rfl, Nat.zero_le _, G1, Same.refl _, h0 G1 H1 xs s1 c1 hp⟩, ?_⟩
  rintro i m σ Hc ⟨rfl, hi, Gc, q1, q2⟩
  have sm := (hsame _ _ _ _ _ q2).trans exc_same
  by_cases hlt : i < xs.length
  · have hx : xs[i]? = some xs[i] := List.getElem?_eq_getElem hlt
    obtain ⟨hgo, hy⟩ := W.go hx hold_nil q1 sm
    refine .inr ⟨hgo, fun σ' H' => ∃ G', Same Gc G' ∧ Iv xs (i + 1) σ' G' H', ?_, fun v H' hv => ?_⟩
    · rintro σ' H' ⟨G', s', h'⟩
      exact ⟨xs.length - (i + 1), by omega, rfl, hlt, G', q1.trans s', h'⟩
    · obtain ⟨G2, s2, ur⟩ := hy v H' hv
      exact step xs hp i xs[i] v σ Gc Hc G2 H' hx (s1.gg.trans q1) q2 s2 ur
  · obtain rfl : i = xs.length := by omega
    exact .inl ⟨W.stop hold_nil q1 sm, fin xs σ Gc Hc hp (s1.gg.trans q1) q2⟩
/-- what walks over 0 .. n - 1 -/
theorem walks_nums {j : Int} {G : Hp} (h0 : 0 ≤ j) : Walks (Itr 0 j.toNat) [] G (nums j.toNat) IsI := ⟨fun {i x Gc Hc} hx _ e1 e2 => by
  obtain ⟨hi, rfl⟩ := range_at hx
  refine ⟨hi, ?_⟩
  rintro v' H' ⟨rfl, rfl⟩
  exact ⟨Gc, Stp.refl e2, up_c (by show V.int (0 + (i : Int)) = V.int i; rw [Int.zero_add])⟩, fun {Gc Hc} _ e1 e2 => by
  show j.toNat ≤ (nums j.toNat).length
  rw [nums_len]
  omega⟩
end
section
variable {P : Program} {w : World} {K : PySem.W.Frag} {mg : Str → Option Value} {base : Heap} {C E : Addr}
theorem law_body (L : LawF P w K mg base C E) (cdv : Value) (f : Addr) (A : Around) (outer : List Env) (s : Shared) (H : Hp) (vs : List V) (Q : VK) (Ex : XK) (hgd : A.guards = some []) (hr : Room 14 (A.deeper (envOfC "law" (C8.fnScope (top 69)) s.heap.objs.size f cdv))) (h : spLaw K vs H Q Ex) :
    ∃ t, PSs (cxOf C8.CX0 P w K mg base lawN "law" (C8.fnScope (top 69)) f cdv A outer s H Ex).nox (C8.fnBody (top 69)) t ∧ t { nx := fun _ H' => Q .non H', rt := Q } (start lawN vs) H := by
  have nd : lawN.Nodup := by decide +kernel
  have hu := hu_of hr
  obtain ⟨f0, fr, m1, m2, m3, m4⟩ := L.mul
  obtain ⟨fq, q1, q2, _, ⟨fdq, psq, Fq, _, bq⟩⟩ := L.eq
  obtain ⟨a, ns, rfl, hO, hns, hS, hQ⟩ := h
  refine ⟨_, pss_cons (ps_set (i := 1) nd rfl (Or.inl rfl) (C8.pe_c L.pen hr (by decide) rfl (pa_cons (pv 0) pa_nil)))
    (pss_cons (ps_for PassesOwn.never rfl (pi_range1 rfl L.mr (pa_cons (pe_op op_add pe_int (pe_callB (call_min2 rfl) rfl L.mm boot_min (pa_cons pe_int (pa_cons (pe_callB call_len_seq rfl L.ml boot_len (pa_cons (pv 0) pa_nil)) pa_nil)))) pa_nil)) (pg_name (i := 2) nd rfl (Or.inl rfl))
      (pss_cons (ps_set (i := 3) nd rfl (Or.inl rfl) (C8.pe_c L.words hr (by decide) rfl (pa_cons (pv 1) (pa_cons (pe_op op_add pe_int (C8.pe_c L.draw hr (by decide) rfl (pa_cons (pv 1) (pa_cons pe_int pa_nil)))) pa_nil))))
      (pss_cons (ps_par (i := 4) (j := 5) rfl nd rfl rfl (by decide) rfl rfl (pa_cons (C8.pe_c L.exch hr (by decide) rfl (pa_cons (C8.pe_c L.pairs hr (by decide) rfl (pa_cons (pv 1) (pa_cons (pv 3) pa_nil))) pa_nil)) (pa_cons (C8.pe_c L.words hr (by decide) rfl (pa_cons (pv 1) (pa_cons (pe_op op_add pe_int (C8.pe_c L.draw hr (by decide) rfl (pa_cons (pv 1) (pa_cons pe_int pa_nil)))) pa_nil))) pa_nil)) (by rfl))
      (pss_cons (ps_set (i := 6) nd rfl (Or.inl rfl) (C8.pe_c L.loads hr (by decide) rfl (pa_cons (C8.pe_c L.debts hr (by decide) rfl (pa_cons (pv 1) (pa_cons (pv 3) (pa_cons (pv 5) pa_nil)))) pa_nil)))
      (pss_cons (ps_par (i := 7) (j := 8) rfl nd rfl rfl (by decide) rfl rfl (pa_cons (C8.pe_c L.rings hr (by decide) rfl (pa_cons (pv 1) (pa_cons (pv 3) (pa_cons (pv 5) pa_nil)))) (pa_cons (C8.pe_c L.rings hr (by decide) rfl (pa_cons (pv 1) (pa_cons (pv 3) (pa_cons (pv 5) pa_nil)))) pa_nil)) (by rfl))
      (pss_cons (ps_set (i := 9) nd rfl (Or.inr rfl) (C8.pe_c L.after hr (by decide) rfl (pa_cons (pv 4) (pa_cons (pv 6) (pa_cons (pe_op op_cat (pv 7) (pv 8)) pa_nil)))))
      (pss_cons (ps_if (pt_cmpR (op_neG (L2.mon_tup mon_DSC) (L2.eqG_tup mon_DSC (EqG.or eqG_flat eqG_ct)) (hr.mono (by decide))) (C8.pe_c L.told hr (by decide) rfl (pa_cons (pv 4) (pa_cons (pv 9) pa_nil))) (C8.pe_c L.told hr (by decide) rfl (pa_cons (pv 4) (pa_cons (pv 6) pa_nil))) (nomark _)) (pss_one (ps_ret pe_bl)) pss_nil)
      (pss_cons (ps_if (pt_cmpR (op_neDt (mon_ins mon_loadA) (eqG_ins (R := LoadA C) (E := C8.E0) Fq q1 q2 bq C8.pass0) (hr.mono (by decide))) (C8.pe_c L.after hr (by decide) rfl (pa_cons (pv 4) (pa_cons (C8.pe_c L.after hr (by decide) rfl (pa_cons (pv 4) (pa_cons (pv 6) (pa_cons (pv 7) pa_nil)))) (pa_cons (pv 8) pa_nil)))) (pv 9) (nomark _)) (pss_one (ps_ret pe_bl)) pss_nil)
      (pss_cons (ps_if (pt_cmpR (op_neDt (mon_ins mon_loadA) (eqG_ins (R := LoadA C) (E := C8.E0) Fq q1 q2 bq C8.pass0) (hr.mono (by decide))) (C8.pe_c L.after hr (by decide) rfl (pa_cons (pv 4) (pa_cons (C8.pe_c L.after hr (by decide) rfl (pa_cons (pv 4) (pa_cons (pv 6) (pa_cons (pv 8) pa_nil)))) (pa_cons (pv 7) pa_nil)))) (pv 9) (nomark _)) (pss_one (ps_ret pe_bl)) pss_nil)
      (pss_cons (ps_setLc (i := 10) (own := [("_law_row", 14), ("_law_load", 15)]) (g := gTup K 2 (gCons (gName 14) (gCons (gName 15) gNil))) (tt := tYes) (te := tTup (tCons (tRevT K (tVar 14)) (tCons (tVar 15) tNil))) rfl nd rfl rfl (sw_true rfl rfl rfl (by decide +kernel)) (pi_list (pv 7)) (blkOk_by (N := lawN) (sc := C8.fnScope (top 69)) (by decide +kernel)) (fun _ _ _ _ _ => pg_tup rfl (pgs_cons (pg_name (i := 14) nd rfl (Or.inl rfl)) (pgs_cons (pg_name (i := 15) nd rfl (Or.inl rfl)) pgs_nil))) (fun _ _ _ _ _ => pts_nil) (fun _ _ _ _ _ => pe_tup (pa_cons (pe_revT (pv 14)) (pa_cons (pv 15) pa_nil))))
      (pss_cons (ps_if (pt_cmpR (op_neDt (mon_ins mon_loadA) (eqG_ins (R := LoadA C) (E := C8.E0) Fq q1 q2 bq C8.pass0) (hr.mono (by decide))) (C8.pe_c L.after hr (by decide) rfl (pa_cons (pv 4) (pa_cons (pv 6) (pa_cons (pe_op op_cat (pv 7) (pv 10)) pa_nil)))) (C8.pe_c L.after hr (by decide) rfl (pa_cons (pv 4) (pa_cons (pv 6) (pa_cons (pe_lst pa_nil) pa_nil)))) (nomark _)) (pss_one (ps_ret pe_bl)) pss_nil)
      (pss_cons (ps_setLc (i := 11) (own := [("_law_row", 14), ("_law_load", 15)]) (g := gTup K 2 (gCons (gName 14) (gCons (gName 15) gNil))) (tt := tYes) (te := tTup (tCons (tVar 14) (tCons (tOp (rOwnR C (spRmul C)) (tC (.int 2)) (tVar 15)) tNil))) rfl nd rfl rfl (sw_true rfl rfl rfl (by decide +kernel)) (pi_list (pv 7)) (blkOk_by (N := lawN) (sc := C8.fnScope (top 69)) (by decide +kernel)) (fun _ _ _ _ _ => pg_tup rfl (pgs_cons (pg_name (i := 14) nd rfl (Or.inl rfl)) (pgs_cons (pg_name (i := 15) nd rfl (Or.inl rfl)) pgs_nil))) (fun _ _ _ _ _ => pts_nil) (fun _ _ _ _ _ => pe_tup (pa_cons (pv 14) (pa_cons (pe_op (op_ownR (C := C) (f := fr) (f0 := f0) (k := 7) L.sf m1 m2 m3 L.sub m4 (hr.mono (by decide))) pe_int (pv 15)) pa_nil))))
      (pss_cons (ps_if (pt_cmpR (op_neDt (mon_ins mon_loadA) (eqG_ins (R := LoadA C) (E := C8.E0) Fq q1 q2 bq C8.pass0) (hr.mono (by decide))) (C8.pe_c L.after hr (by decide) rfl (pa_cons (pv 4) (pa_cons (pv 6) (pa_cons (pe_op op_cat (pv 7) (pv 7)) pa_nil)))) (C8.pe_c L.after hr (by decide) rfl (pa_cons (pv 4) (pa_cons (pv 6) (pa_cons (pv 11) pa_nil)))) (nomark _)) (pss_one (ps_ret pe_bl)) pss_nil)
      (pss_cons (ps_set (i := 12) nd rfl (Or.inl rfl) (pe_callB (call_repr hgd hr.units) rfl L.mp boot_repr (pa_cons (pe_lc (own := [("_law_pair", 16)]) (g := gName 16) (tt := tYes) (te := tTup (tCons (tVar 16) (tCons (tProp C (spCts C) [] C8.E0 (tDGet (tVar 9) (tVar 16))) tNil))) rfl nd (pi_keys (pv 9)) (blkOk_by (N := lawN) (sc := C8.fnScope (top 69)) (by decide +kernel)) (fun _ _ _ _ _ => pg_name (i := 16) nd rfl (Or.inl rfl)) (fun _ _ _ _ _ => pts_nil) (fun _ _ _ _ _ => pe_tup (pa_cons (pv 16) (pa_cons (pe_prp L.cts L.cl hr (by decide) (pe_dget hu (pv 9) (pv 16) (fun _ _ => rfl))) pa_nil)))) pa_nil)))
      (pss_cons (ps_expr (pe_clearT hO (pv 9)))
      (pss_cons (ps_set (i := 13) nd rfl (Or.inr rfl) (C8.pe_c L.after hr (by decide) rfl (pa_cons (pv 4) (pa_cons (pv 6) (pa_cons (pe_op op_cat (pv 7) (pv 8)) pa_nil)))))
      (pss_one (ps_if (pt_cmpR op_ne (pe_callB (call_repr hgd hr.units) rfl L.mp boot_repr (pa_cons (pe_lc (own := [("_law_pair", 16)]) (g := gName 16) (tt := tYes) (te := tTup (tCons (tVar 16) (tCons (tProp C (spCts C) [] C8.E0 (tDGet (tVar 13) (tVar 16))) tNil))) rfl nd (pi_keys (pv 13)) (blkOk_by (N := lawN) (sc := C8.fnScope (top 69)) (by decide +kernel)) (fun _ _ _ _ _ => pg_name (i := 16) nd rfl (Or.inl rfl)) (fun _ _ _ _ _ => pts_nil) (fun _ _ _ _ _ => pe_tup (pa_cons (pv 16) (pa_cons (pe_prp L.cts L.cl hr (by decide) (pe_dget hu (pv 13) (pv 16) (fun _ _ => rfl))) pa_nil)))) pa_nil)) (pv 12) (nomark _)) (pss_one (ps_ret pe_bl)) pss_nil))))))))))))))))))
    (pss_one (ps_ret pe_bl))), ?_⟩
  show tSeq _ _ _ [some (.ref a), none, none, none, none, none, none, none, none, none, none, none, none, none, none, none, none] H
  refine seq_go ⟨.ref a, rfl, ?_⟩
  refine ⟨fun _ => none, a, ns, rfl, (fun _ _ h => by cases h), hS, fun p H1 s1 hn pn => ?_⟩
  have hS1 : SqL K H1 a (ns.map V.int) := hS.ext (s1.hh.trans exc_same)
  dsimp only
  show tSeq _ _ _ [some (.ref a), some (.ref p.1), none, none, none, none, none, none, none, none, none, none, none, none, none, none, none] H1
  refine seq_go (for_gpH (p := p) (n := 0) (B := 0) (G := fun _ => none) (R := IsI) (P := fun xs => ∃ m, m ≤ 8 ∧ xs = nums m) (fun Rk hk => ?_) (fun ys i σ Gc Hc => ∃ o2 o3 o4 o5 o6 o7 o8 o9 o10 o11 o12 o13 o14 o15 o16, σ = [some (.ref a), some (.ref p.1), o2, o3, o4, o5, o6, o7, o8, o9, o10, o11, o12, o13, o14, o15, o16] ∧ Same Gc (exc p Hc) ∧ Pn p (i * 1000) Hc) (fun ys i σ Gc Hc ⟨_, _, _, _, _, _, _, _, _, _, _, _, _, _, _, _, h, _⟩ => h) (fun G2 H2 ys s2 c2 hp => ⟨none, none, none, none, none, none, none, none, none, none, none, none, none, none, none, rfl, s2.gh, c2.le (by omega)⟩) ?_ ?_)
  · refine ⟨.ref a, rfl, a, ns.map V.int, rfl, .inl hS1, 4, _, rfl, 4, _, rfl, rfl, ?_⟩
    obtain ⟨z, hz, z0, z8⟩ : ∃ z : Int, (4 : Int) + (if ((ns.map V.int).length : Int) < 4 then ((ns.map V.int).length : Int) else 4) = z ∧ 0 ≤ z ∧ z ≤ 8 := by
      refine ⟨_, rfl, ?_⟩
      split <;> omega
    exact ⟨z, congrArg (fun z => [V.int z]) hz, by omega, by omega, hk _ (fun _ => none) H1 (nums z.toNat) (Stp.refl fun _ _ h => by cases h) pn ⟨z.toNat, by omega, rfl⟩ (walks_nums z0)⟩
  · rintro ys ⟨m, hm, rfl⟩ i x v2 σ2 Gc Hc G2 H2 hi sG ⟨o2, o3, o4, o5, o6, o7, o8, o9, o10, o11, o12, o13, o14, o15, o16, rfl, eGc, pc⟩ s2 u2
    obtain ⟨hi2, rfl⟩ := range_at hi
    obtain ⟨s2x, pc2⟩ := pc.step eGc s2
    have bi : i * 1000 + 1000 = (i + 1) * 1000 := by omega
    have bi8 : i * 1000 + 1000 ≤ 1000000 := by omega
    generalize i * 1000 = B at *
    show tSeq _ _ _ [some (.ref a), some (.ref p.1), some v2, o3, o4, o5, o6, o7, o8, o9, o10, o11, o12, o13, o14, o15, o16] H2
    refine seq_go (set_gp (p := p) (n := 13) (gp_wordsJ (k := 3) rfl (by decide) (by decide)) s2x.gh pc2 (by omega) fun v3 G3 H3 s3 c3 u3 => ?_)
    obtain ⟨U, hU, U3, U6, Und, Uw⟩ := u3.now
    have uU := (mon_lst mon_S).up hU
    dsimp only
    show tSeq _ _ _ [some (.ref a), some (.ref p.1), some v2, some v3, o4, o5, o6, o7, o8, o9, o10, o11, o12, o13, o14, o15, o16] H3
    refine seq_go (par_gp (p := p) (n := 38) (m := 13) (gp_exch rfl rfl uU U3 (by omega) Und Uw) (gp_wordsJ (k := 4) rfl (by decide) (by decide)) s3.gh c3 (by omega) fun v4 v5 G4 H4 s4 c4 u4 u5 => ?_)
    obtain ⟨ks, Bs, O, hE⟩ := u4.now
    obtain ⟨hs, hh, h3, h7, hnd, hw⟩ := u5.now
    have uE := mon_ex.up hE
    have uh := (mon_lst mon_S).up hh
    have uU4 := uU.on s4.gg
    have h6 : hs.length ≤ 6 := by omega
    dsimp only
    show tSeq _ _ _ [some (.ref a), some (.ref p.1), some v2, some v3, some v4, some v5, o6, o7, o8, o9, o10, o11, o12, o13, o14, o15, o16] H4
    refine seq_go (set_gp (p := p) (n := 309) (gp_loads rfl rfl uU4 rfl uh (by omega) Und Uw h3 h6 hnd) s4.gh c4 (by omega) fun v6 G5 H5 s5 c5 u6 => ?_)
    obtain ⟨d, hd, Dk⟩ := u6.now
    have ud := (mon_dic (K := KP) mon_ldU).up hd
    dsimp only
    show tSeq _ _ _ [some (.ref a), some (.ref p.1), some v2, some v3, some v4, some v5, some v6, o7, o8, o9, o10, o11, o12, o13, o14, o15, o16] H5
    refine seq_go (par_gp (p := p) (n := 70) (m := 70) (gp_rings rfl rfl (uU4.on s5.gg) rfl (uh.on s5.gg) (by omega) Und Uw h3 h6 hnd) (gp_rings rfl rfl (uU4.on s5.gg) rfl (uh.on s5.gg) (by omega) Und Uw h3 h6 hnd) s5.gh c5 (by omega) fun v7 v8 G6 H6 s6 c6 u7 u8 => ?_)
    obtain ⟨as, ha, na, Ra⟩ := u7.now
    obtain ⟨bs, hb, nb, Rb⟩ := u8.now
    have ua := (mon_lst mon_RgR).up ha
    have ub := (mon_lst mon_RgR).up hb
    have uE6 := uE.on (s5.gg.trans s6.gg)
    have ud6 := ud.on s6.gg
    have gg6 : Same Gc G6 := s2.gg.trans (s3.gg.trans (s4.gg.trans (s5.gg.trans s6.gg)))
    have c6' : Pn p (B + 1000) H6 := c6.le (by omega)
    clear c6 c5 c4 c3 u3 u4 u5 u6 u7 u8
    have e6 : Same G6 H6 := s6.gh.trans exc_same
    have n6 : G6 p.1 = none := exc_none s6.gh
    have ln : (as ++ bs).length ≤ 20 := by
      rw [List.length_append]
      omega
    have Rab := ROk.app Ra Rb
    have Dw : DOk U hs 1400 (afterR ks Bs U d (as ++ bs)) := Dk.afterR O Rab ln (by decide)
    dsimp only
    show tSeq _ _ _ [some (.ref a), some (.ref p.1), some v2, some v3, some v4, some v5, some v6, some v7, some v8, o9, o10, o11, o12, o13, o14, o15, o16] H6
    refine seq_go (set_after (cs := []) (C := C) (E := E) O Dk Rab ln h6 (by decide) (gv_var rfl uE6) (gv_var rfl ud6) (gv_cat mon_RgR (gv_var rfl ua) (gv_var rfl ub) (by omega)) e6 hold_nil fun dd G7 H7 s7 u9 hdd => ?_)
    obtain ⟨dd1, dd2⟩ := c6'.pen hdd
    have ddG : G6 dd = none := e6.free hdd
    dsimp only
    show tSeq _ _ _ [some (.ref a), some (.ref p.1), some v2, some v3, some v4, some v5, some v6, some v7, some v8, some (.ref dd), o10, o11, o12, o13, o14, o15, o16] H7
    refine seq_go (if_gv (cs := []) (gt_told O Dk Ra Rb na nb h6 (gv_var rfl (uE6.on s7.gg)) (gv_var rfl u9) (gv_var rfl (ud6.on s7.gg))) s7.gh hold_nil fun G8 H8 s8 => ?_)
    rw [if_neg Bool.false_ne_true]
    refine nx_go ?_
    have s78 := s7.trans s8
    dsimp only
    show tSeq _ _ _ [some (.ref a), some (.ref p.1), some v2, some v3, some v4, some v5, some v6, some v7, some v8, some (.ref dd), o10, o11, o12, o13, o14, o15, o16] H8
    refine seq_go (if_gv (cs := []) (gt_two O Dk Ra Rb na nb h6 (fun _ _ => rfl) Rab (by rw [List.length_append]; omega) (gv_var rfl (uE6.on s78.gg)) (gv_var rfl (ud6.on s78.gg)) (gv_var rfl (ua.on s78.gg)) (gv_var rfl (ub.on s78.gg)) (gv_var rfl (u9.on s8.gg))) s8.gh hold_nil fun G9 H9 s9 => ?_)
    rw [if_neg Bool.false_ne_true]
    refine nx_go ?_
    have s79 := s78.trans s9
    dsimp only
    show tSeq _ _ _ [some (.ref a), some (.ref p.1), some v2, some v3, some v4, some v5, some v6, some v7, some v8, some (.ref dd), o10, o11, o12, o13, o14, o15, o16] H9
    refine seq_go (if_gv (cs := []) (gt_two O Dk Rb Ra nb na h6 (c := as ++ bs) (fun q k => by rw [sumI_app, sumI_app]; omega) Rab (by rw [List.length_append]; omega) (gv_var rfl (uE6.on s79.gg)) (gv_var rfl (ud6.on s79.gg)) (gv_var rfl (ub.on s79.gg)) (gv_var rfl (ua.on s79.gg)) (gv_var rfl (u9.on (s8.trans s9).gg))) s9.gh hold_nil fun G10 H10 s10 => ?_)
    rw [if_neg Bool.false_ne_true]
    refine nx_go ?_
    have s7a := s79.trans s10
    dsimp only
    show tSeq _ _ _ [some (.ref a), some (.ref p.1), some v2, some v3, some v4, some v5, some v6, some v7, some v8, some (.ref dd), o10, o11, o12, o13, o14, o15, o16] H10
    refine seq_go (set_gv (cs := []) (gv_back (gv_var rfl (ua.on s7a.gg)) na (fun _ _ => rfl) (fun _ _ => rfl) (fun _ _ => rfl)) s10.gh hold_nil fun v10 G11 H11 s11 u10 => ?_)
    have s7b := s7a.trans s11
    dsimp only
    show tSeq _ _ _ [some (.ref a), some (.ref p.1), some v2, some v3, some v4, some v5, some v6, some v7, some v8, some (.ref dd), some v10, o11, o12, o13, o14, o15, o16] H11
    refine seq_go (if_gv (cs := []) (gt_back O Dk Ra na h6 (gv_var rfl (uE6.on s7b.gg)) (gv_var rfl (ud6.on s7b.gg)) (gv_var rfl (ua.on s7b.gg)) (gv_var rfl u10)) s11.gh hold_nil fun G12 H12 s12 => ?_)
    rw [if_neg Bool.false_ne_true]
    refine nx_go ?_
    have s7c := s7b.trans s12
    dsimp only
    show tSeq _ _ _ [some (.ref a), some (.ref p.1), some v2, some v3, some v4, some v5, some v6, some v7, some v8, some (.ref dd), some v10, o11, o12, o13, o14, o15, o16] H12
    refine seq_go (set_gv (cs := []) (gv_twice (gv_var rfl (ua.on s7c.gg)) na Ra (fun _ _ => rfl) (fun _ _ => rfl) (fun _ _ => rfl)) s12.gh hold_nil fun v11 G13 H13 s13 u11 => ?_)
    have s7d := s7c.trans s13
    dsimp only
    show tSeq _ _ _ [some (.ref a), some (.ref p.1), some v2, some v3, some v4, some v5, some v6, some v7, some v8, some (.ref dd), some v10, some v11, o12, o13, o14, o15, o16] H13
    refine seq_go (if_gv (cs := []) (gt_twice O Dk Ra na h6 (gv_var rfl (uE6.on s7d.gg)) (gv_var rfl (ud6.on s7d.gg)) (gv_var rfl (ua.on s7d.gg)) (gv_var rfl u11)) s13.gh hold_nil fun G14 H14 s14 => ?_)
    rw [if_neg Bool.false_ne_true]
    refine nx_go ?_
    have s7e := s7d.trans s14
    have u9e := u9.on (s8.trans (s9.trans (s10.trans (s11.trans (s12.trans (s13.trans s14)))))).gg
    have l15 := Dw.len h6
    have rl : (rowsD U (afterR ks Bs U d (as ++ bs))).length ≤ 15 := by
      unfold rowsD
      rw [List.length_map]
      exact l15
    have rok := rows_ok Dw (by omega) Uw hw
    dsimp only
    show tSeq _ _ _ [some (.ref a), some (.ref p.1), some v2, some v3, some v4, some v5, some v6, some v7, some v8, some (.ref dd), some v10, some v11, o12, o13, o14, o15, o16] H14
    refine seq_go (set_gv (cs := []) (gv_repr (gv_rows Dw.nd (by omega) u9e rfl (fun _ => rfl) (fun _ => rfl) (fun _ => rfl)) rl rok) s14.gh hold_nil fun v12 G15 H15 s15 u12 => ?_)
    obtain rfl := u12.now
    have s7f := s7e.trans s15
    obtain ⟨a9, od9, kv9, ea9, h9, pr9⟩ := (u9e.on s15.gg).now
    obtain rfl : dd = a9 := by injection ea9
    have hd15 : H15 dd = some (.frz od9 (KP.ho kv9)) := s15.gh _ _ h9
    obtain ⟨x15, c15⟩ := c6'.step s6.gh s7f
    dsimp only
    show tSeq _ _ _ [some (.ref a), some (.ref p.1), some v2, some v3, some v4, some v5, some v6, some v7, some v8, some (.ref dd), some v10, some v11, some (.str _), o13, o14, o15, o16] H15
    refine seq_go ⟨.ref dd, rfl, dd, od9, _, rfl, hd15, .inr (.inr (.inl ⟨rfl, .inr ⟨_, upd_same⟩⟩)), dd, _, rfl, rfl, upd_same, ?_⟩
    rw [upd_upd]
    have e16 : Same G6 (upd H15 dd (.dT [])) := same_mut (e6.trans s7f.hh) ddG
    have c16 : Pn p (B + 1000) (upd H15 dd (.dT [])) := c15.put dd1 dd2
    generalize upd H15 dd (.dT []) = H16 at *
    have x16 : Same G6 (exc p H16) := exc_at e16 n6
    dsimp only
    show tSeq _ _ _ [some (.ref a), some (.ref p.1), some v2, some v3, some v4, some v5, some v6, some v7, some v8, some (.ref dd), some v10, some v11, some (.str _), o13, o14, o15, o16] H16
    refine seq_go (set_after (cs := []) (C := C) (E := E) O Dk Rab ln h6 (by decide) (gv_var rfl uE6) (gv_var rfl ud6) (gv_cat mon_RgR (gv_var rfl ua) (gv_var rfl ub) (by omega)) e16 hold_nil fun d2 G17 H17 s17 u17 _ => ?_)
    dsimp only
    show tIfS _ _ _ _ [some (.ref a), some (.ref p.1), some v2, some v3, some v4, some v5, some v6, some v7, some v8, some (.ref dd), some v10, some v11, some (.str _), some (.ref d2), o14, o15, o16] H17
    refine if_gv (cs := []) (gt_test (gv_ne (gv_repr (gv_rows Dw.nd (by omega) u17 rfl (fun _ => rfl) (fun _ => rfl) (fun _ => rfl)) rl rok) (gv_vs rfl) rfl)) s17.gh hold_nil fun G18 H18 s18 => ?_
    rw [if_neg (by simp)]
    refine nx_go ?_
    obtain ⟨x18, c18⟩ := c16.step x16 (s17.trans s18)
    exact ⟨G18, gg6.trans (s17.trans s18).gg, _, _, _, _, _, _, _, _, _, _, _, _, _, _, _, rfl, x18.gh, by rw [← bi]; exact c18⟩
  · rintro ys σ2 Gc Hc ⟨m, hm, rfl⟩ sG ⟨o2, o3, o4, o5, o6, o7, o8, o9, o10, o11, o12, o13, o14, o15, o16, rfl, eGc, pc⟩
    exact hQ Hc
end
end Crt
end

section
/-! A def called at one place; the law called by its caller. -/
set_option autoImplicit false
namespace Crt
open PySem PySem.Spec PyProof.Rows L2
section
variable {P : Program} {w : World} {K : PySem.W.Frag} {mg : Str → Option Value} {base : Heap} {A : Around} {outer : List Env} {s : Shared} {H : Hp}
/-- a def, called at one place: its body is read there -/
theorem call_here {x q : Str} {st : Stmt} {f : Addr} {fd : FuncData} {N ps : List Str} {k : Nat} {args : Args} {us : List Value} {vs : List V} {Q : VK} {E : XK} (F : C8.Fun K x q st f fd) (S : FnScope N ps (C8.fnScope st)) (hl : vs.length = ps.length) (hr : Room (k + 1) A) (e0 : Env0 P w K mg base A outer s H) (hb : BindsTo s fd args (ps.zip us)) (r : Vals vs us)
    (body : ∀ cdv : Value, ∃ t, PSs (cxOf C8.CX0 P w K mg base N q (C8.fnScope st) f cdv A outer s H E).nox (C8.fnBody st) t ∧ t { nx := fun _ H' => Q .non H', rt := Q } (start N vs) H) :
    codeAny (model P w) A (.call (.ref f) args) (CR C8.CX0 outer P w H s Q E) s := by
  obtain ⟨oc, od, dV, kV, doc, pm, an, cdv, ct, osl, rfl, lk, cd⟩ := F.ex
  obtain ⟨t, pt, q0⟩ := body cdv
  have up : ∀ b o, base.get? b = some o → s.heap.get? b = some o := fun b o z => (e0.bs b o z).1
  have kin := e0.mod.kin.keeps up
  have nl := e0.mod.nolimit.keeps up
  have cdr := PySem.W.codeRec_of kin cd
  refine codeAny_call_function hr.depth (kin _ _ lk) rfl S.co S.gen rfl cdr (hb _ _ _ _ ?_)
  refine wpAny_newFunctionEnv_cells S.kind (fun y hy => ?_) fun env he s1 ic => ?_
  · rcases S.par y.1 (List.of_mem_zip (a := y.1) (b := y.2) hy).1 with z | z
    · exact Or.inl z
    · exact Or.inr ⟨z, PySem.W.cellsFrom_some _ _ _ (Or.inl z)⟩
  subst he
  refine ⟨nl.keeps ic.toInCall.keep, ?_⟩
  have J0 := inv_start (CX := C8.CX0) (E := E) S hr.hd e0 hl r ic
  have go := pt.nox.run [] s1 (start N vs) H _ J0 q0
  refine codeAny_func (wpAny_mono go (fun fl s' z => ?_) fun _ _ z => z)
  match fl, z with
  | .ret u, ⟨v, σ', H', J, rv, q⟩ => exact ⟨v, H', J.os, J.bare, J.base, J.hok, rv, q⟩
  | .next, ⟨σ', H', J, q⟩ => exact ⟨.non, H', J.os, J.bare, J.base, J.hok, rfl, q⟩
  | .brk, ⟨_, _, _, q⟩ => exact False.elim q
  | .cont, ⟨_, _, _, q⟩ => exact False.elim q
end
section
variable {P : Program} {w : World} {K : PySem.W.Frag} {mg mb : Str → Option Value} {s : Shared} {a fa : Addr} {vs : List Value} {ns : List Int}
/-- the law's end, as its caller wants it -/
def LawEnd (P : Program) (w : World) (fa a : Addr) (s : Shared) : Prop :=
  codeAny (model P w) callerA (.call (.ref fa) ⟨[.ref a], []⟩) (fun r s' => r = .ok (.ret (.bool true)) ∧ OldK s.heap s'.heap ∧ s'.os = s.os ∧ AllBare s'.gens) s
/-- what the law must do at this heap -/
def LawDo (P : Program) (w : World) (K : PySem.W.Frag) (mg : Str → Option Value) (fa a : Addr) (ns : List Int) (s : Shared) : Prop := ∀ (base : Heap) (H : Hp), Only H → SqL K H a (ns.map V.int) → K.In base → base.Ns mainGlobals mg → Env0 P w K mg base callerA [] s H →
  codeAny (model P w) callerA (.call (.ref fa) ⟨[.ref a], []⟩) (CR C8.CX0 [] P w H s (fun v _ => v = .bl true) C8.E0) s
theorem law_from {H : Hp} (hO : Only H) (hS : SqL K H a (ns.map V.int)) (hok : HOk P w H s.heap) (hA : ∀ b u, H b = some u → b = a) (hK : ∀ u, H a = some u → K.lookup a = none) (ha : s.heap.get? a = some { cls := .type "list", data := .seq vs.toArray }) (kin : K.In s.heap)
    (gl : s.heap.Ns mainGlobals mg) (bl : s.heap.Ns builtinsNs mb) (bb : ∀ x : Str, x ≠ "__name__" → mb x = bootBuiltins x) (nl : s.heap.NoLimit) (hg : s.gens = #[]) (go : LawDo P w K mg fa a ns s) : LawEnd P w fa a s := by
  have away : ∀ {b : Addr} {o : Obj}, s.heap.get? b = some o → (∀ u, b = a → H a = some u → False) → (hidT s.heap H).get? b = some o := fun {b o} e z => by
    refine hidT_get e ?_
    cases q : H b with
    | none => rfl
    | some u =>
      obtain rfl := hA b u q
      exact (z u rfl q).elim
  have dict : ∀ {b : Addr} {m : Str → Option Value}, s.heap.Ns b m → (hidT s.heap H).Ns b m := fun {b m} h => by
    obtain ⟨o, es, ep, e, d, r⟩ := h
    refine ⟨o, es, ep, away e (fun u z _ => ?_), d, r⟩
    subst z
    rw [ha] at e
    obtain rfl := Option.some.inj e
    exact nomatch (show Data.seq vs.toArray _ = Data.dict es ep from d)
  have kb : K.In (hidT s.heap H) := fun b o e => away (kin b o e) fun u z q => by
    subst z
    rw [hK u q] at e
    cases e
  have lim : (hidT s.heap H).NoLimit := by
    obtain ⟨mc, l1, l2⟩ := nl
    exact ⟨mc, dict l1, l2⟩
  have e0 : Env0 P w K mg (hidT s.heap H) callerA [] s H := ⟨rfl, ⟨kb, dict gl, ⟨mb, dict bl, bb⟩, lim⟩, fun _ _ => of_hidT, Nat.le_of_eq (hidT_size _ _), trivial, (fun b z => absurd (show b ∈ ([] : List Addr) from z) (by simp)), hok, .of_eq hg⟩
  refine codeAny_mono (go _ H hO hS kb (dict gl) e0) fun r s' z => ?_
  match r, z with
  | .error e, z => exact False.elim z
  | .ok .next, z => exact False.elim z
  | .ok .brk, z => exact False.elim z
  | .ok .cont, z => exact False.elim z
  | .ok (.ret u), ⟨v, H', os, bare, un, hok', rv, q⟩ =>
    subst q
    obtain rfl : u = Value.bool true := rv
    refine ⟨rfl, OldK.of_keep fun b o e => ?_, os, bare⟩
    cases q : H b with
    | none => exact un.keep b o e q (fun z => absurd (show b ∈ ([] : List Addr) from z) (by simp)) (by simp)
    | some u =>
      rcases hO b with z | ⟨ob, xs, z⟩
      · exact nomatch q.symm.trans z
      · have g1 := (hok b _ z).1
        have g2 := (hok' b _ (un.frzs b ob _ z)).1
        rw [g2, ← g1]
        exact e
theorem law_top (hl : ns.length ≤ sizeLine) (hi : IntsAre vs ns) (ha : s.heap.get? a = some { cls := .type "list", data := .seq vs.toArray }) (kin : K.In s.heap)
    (gl : s.heap.Ns mainGlobals mg) (bl : s.heap.Ns builtinsNs mb) (bb : ∀ x : Str, x ≠ "__name__" → mb x = bootBuiltins x) (nl : s.heap.NoLimit) (hg : s.gens = #[]) (go : LawDo P w K mg fa a ns s) : LawEnd P w fa a s := by
  have rv := vals_ints hi
  have lv := hi.length
  rcases Option.eq_none_or_eq_some (K.lookup a) with n | ⟨o, e⟩
  · have at_ : ∀ {b : Addr} {u : HO}, (if b = a then some (HO.frz { cls := .type "list", data := .seq vs.toArray } (.lst (ns.map V.int))) else none) = some u → b = a ∧ u = HO.frz { cls := .type "list", data := .seq vs.toArray } (.lst (ns.map V.int)) := fun {b u} z => by
      split at z
      · exact ⟨by assumption, (Option.some.inj z).symm⟩
      · cases z
    refine law_from (H := fun b => if b = a then some (.frz { cls := .type "list", data := .seq vs.toArray } (.lst (ns.map V.int))) else none) (fun b => ?_) (Or.inl (Or.inr ⟨_, if_pos rfl⟩)) (fun b u z => ?_) (fun b u z => (at_ z).1) (fun _ _ => n) ha kin gl bl bb nl hg go
    · rcases Decidable.em (b = a) with z | z
      · exact Or.inr ⟨_, _, if_pos z⟩
      · exact Or.inl (if_neg z)
    · obtain ⟨rfl, rfl⟩ := at_ z
      exact ⟨ha, by rw [List.length_map]; exact hl, vs, _, rv, ha⟩
  · have e1 := kin a o e
    rw [ha] at e1
    obtain rfl := Option.some.inj e1
    exact law_from (H := fun _ => none) (fun _ => Or.inl rfl) (Or.inr ⟨_, vs.toArray, _, e, rfl, rfl, rfl, by rw [List.size_toArray, lv]; exact hl, by simpa using rv⟩) (fun _ _ z => nomatch z) (fun _ _ z => nomatch z) (fun _ z => nomatch z) ha kin gl bl bb nl hg go
end
end Crt
end

section
/-! The head's facts, joined to the law. -/
set_option autoImplicit false
namespace Crt
open PySem PySem.Spec PyProof.Rows L2 He
section
variable {P : Program} {w : World} {K : PySem.W.Frag} {mg : Str → Option Value} {h : Heap}
theorem fa_at (c : SaysC allDs allEx K) (i : Nat) {f : Fa} (q : fas[i]? = some f := by rfl) : f.ok K = true :=
  c.holds (List.mem_append_left _ (List.mem_map_of_mem (f := fun f : Fa => f.ok K) (List.mem_of_getElem? q)))
theorem ex_at (c : SaysC allDs allEx K) (i : Nat) {b : Bool} (q : (exs K)[i]? = some b := by rfl) : b = true :=
  c.holds (List.mem_append_right _ (List.mem_of_getElem? q))
theorem dfn_at (X : K.In h) (G : h.Ns mainGlobals mg) (c : SaysC allDs allEx K) (i : Nat) {x : Str} {k : Nat} (q : defNames[i]? = some (x, k) := by rfl) (q2 : fas[i]? = some (.glo x) := by rfl) (q3 : allDs[i]? = some ⟨fun K => ga K x, x, x, top k⟩ := by rfl) : Dfn K mg x (top k) := by
  obtain ⟨fd, h1, h2, h3, _, _⟩ := c.def_ i q3
  exact ⟨ga K x, fd, ⟨h1, glo_ok X G (fa_at c i q2), h3⟩, h2⟩
theorem prp_ok {m : Str} (e : prpB K m = true) : PropOf K (lA K) m (lm m K) (recA K "property" (lm m K)) := by
  obtain ⟨e1, e2⟩ := ba e
  obtain ⟨e3, e4⟩ := ba e2
  obtain ⟨e5, e6⟩ := ba e4
  exact ⟨eqO_ok e1, eqO_ok e3, of_decide_eq_true e5, recB_ok e6⟩
theorem clm_ok {m : Str} (e : clmB K m = true) (f : PySem.W.fnIn K (recA K "classmethod" (lm m K)) = true) : ClX.CMet K (lA K) (.type "type") m (lm m K) (recA K "classmethod" (lm m K)) := by
  obtain ⟨e1, e2⟩ := ba e
  split at e1
  · rename_i g a n c q
    obtain ⟨k1, k2⟩ := ba e1
    obtain ⟨k3, k4⟩ := ba k2
    obtain ⟨k5, k6⟩ := ba k4
    rw [of_decide_eq_true k1, of_decide_eq_true k3, of_decide_eq_true k5, of_decide_eq_true k6] at q
    exact ⟨q, recB_ok e2, f⟩
  · cases e1
theorem law_ok (X : K.In h) (G : h.Ns mainGlobals mg) (c : SaysC allDs allEx K) (base : Heap) : LawF P w K mg base (lA K) (eA K) := by
  have hmL : mg "Load" = some (.ref (lA K)) := glo_ok X G (fa_at c 34)
  have hmE : mg "Exchanges" = some (.ref (eA K)) := glo_ok X G (fa_at c 35)
  have hub : mg "Unbounded" = some (.ref (ga K "Unbounded")) := glo_ok X G (fa_at c 36)
  have mC : MgV mg "Load" (.ref (lA K)) := ⟨_, hmL, rfl⟩
  have mis : mg "isinstance" = none := free_ok X G (fa_at c 37)
  have mint : mg "int" = none := free_ok X G (fa_at c 38)
  have mbool : mg "bool" = none := free_ok X G (fa_at c 39)
  have mstr : mg "str" = none := free_ok X G (fa_at c 40)
  have mlen : mg "len" = none := free_ok X G (fa_at c 41)
  have mall : mg "all" = none := free_ok X G (fa_at c 42)
  have mset : mg "set" = none := free_ok X G (fa_at c 43)
  have msor : mg "sorted" = none := free_ok X G (fa_at c 44)
  have mzip : mg "zip" = none := free_ok X G (fa_at c 45)
  have mdic : mg "dict" = none := free_ok X G (fa_at c 46)
  have mtup : mg "tuple" = none := free_ok X G (fa_at c 47)
  have mran : mg "range" = none := free_ok X G (fa_at c 48)
  have mabs : mg "abs" = none := free_ok X G (fa_at c 49)
  have mlst : mg "list" = none := free_ok X G (fa_at c 50)
  have menu : mg "enumerate" = none := free_ok X G (fa_at c 51)
  have mmin : mg "min" = none := free_ok X G (fa_at c 52)
  have mrep : mg "repr" = none := free_ok X G (fa_at c 53)
  have v1 : MgV mg "MOST_LETTERS" (.int 8) := (int_ok X G (fa_at c 54)).elim fun t e => ⟨_, e, t, rfl⟩
  have v2 : MgV mg "LETTERS" (.str letters) := (str_ok X G (fa_at c 55)).elim fun t e => ⟨_, e, t, rfl⟩
  have v3 : MgV mg "MAX_COUNT" (.int 1000000) := (int_ok X G (fa_at c 56)).elim fun t e => ⟨_, e, t, rfl⟩
  have v4 : MgV mg "MAX_PAIRS" (.int 8) := (int_ok X G (fa_at c 57)).elim fun t e => ⟨_, e, t, rfl⟩
  have v5 : MgV mg "MAX_KINDS" (.int 6) := (int_ok X G (fa_at c 58)).elim fun t e => ⟨_, e, t, rfl⟩
  have clL : Cls K (lA K) := cls_ok (fa_at c 59)
  have clE : Cls K (eA K) := cls_ok (fa_at c 60)
  have cfL : ClsF K (lA K) "own_counts" := ⟨clL, noat_ok (fa_at c 61)⟩
  have cfE : ClsE K (eA K) := ⟨⟨clE, noat_ok (fa_at c 62)⟩, ⟨clE, noat_ok (fa_at c 63)⟩, ⟨clE, noat_ok (fa_at c 64)⟩, ⟨clE, noat_ok (fa_at c 65)⟩, ⟨clE, noat_ok (fa_at c 66)⟩⟩
  have mkL := mkr_ok (fa_at c 67)
  have mkE := mkr_ok (fa_at c 68)
  have mtP := meth_ok (fa_at c 69)
  have ic : C8.InsC K (lA K) := ⟨clL, eqO_ok (ex_at c 0), eqO_ok (ex_at c 1), of_decide_eq_true (ex_at c 2), of_decide_eq_true (ex_at c 3), of_decide_eq_true (ex_at c 4)⟩
  have sf : PySem.W.selfFirst K (lA K) = true := ex_at c 5
  have kub := of_decide_eq_true (ex_at c 6)
  have rd : ClX.CRead K (lA K) (.type "type") := ⟨ex_at c 7, eqO_ok (ex_at c 8)⟩
  have sub1 := of_decide_eq_true (ex_at c 13)
  have sub2 := of_decide_eq_true (ex_at c 14)
  obtain ⟨fo, i1⟩ := Option.isSome_iff_exists.mp (ex_at c 15)
  obtain ⟨ro, i2⟩ := Option.isSome_iff_exists.mp (ex_at c 16)
  have h_int := ok_is_integer (P := P) (w := w) (base := base) (dfn_at X G c 0) mis mint mbool
  have h_word := ok_is_word (P := P) (w := w) (base := base) (dfn_at X G c 1) mis mstr mlen mall v1 v2
  have h_wz := ok_without_zeros (P := P) (w := w) (base := base) (dfn_at X G c 2) mset msor
  have h_chk := ok_checked (dfn_at X G c 3) mset msor h_word h_int h_wz
  have ML : MkL P w K mg base 3 (lA K) := ⟨lm "__init__" K, mkL, fnr_init (c.def_ 34) cfL h_chk up0⟩
  have h_lo := ok_load_of (dfn_at X G c 4) h_wz ML hmL
  have d_get : Dun P w K mg base 1 (lA K) "__getitem__" (spGet (lA K)) := DunF.dun ⟨lm "__getitem__" K, (meth_ok (fa_at c 70)).at_, c.def_ 39⟩ fun f F => ok_getitem F cfL
  have d_bool : Dun P w K mg base 1 (lA K) "__bool__" (spTru (lA K)) := DunF.dun ⟨lm "__bool__" K, (meth_ok (fa_at c 71)).at_, c.def_ 40⟩ fun f F => ok_bool F cfL mbool
  have d_eq : Dun P w K mg base 2 (lA K) "__eq__" (spEqL (lA K)) := DunF.dun ⟨lm "__eq__" K, (meth_ok (fa_at c 72)).at_, c.def_ 41⟩ fun f F => ok_eq F cfL mis hmL ic
  have d_neg : Dun P w K mg base 6 (lA K) "__neg__" (spNeg (lA K)) := DunF.dun ⟨lm "__neg__" K, (meth_ok (fa_at c 73)).at_, c.def_ 42⟩ fun f F => ok_neg F cfL h_lo
  have d_add : Dun P w K mg base 6 (lA K) "__add__" (spAdd (lA K) (· + ·)) := DunF.dun ⟨lm "__add__" K, (meth_ok (fa_at c 74)).at_, c.def_ 43⟩ fun f F => ok_add F cfL h_lo d_get
  have d_sub : Dun P w K mg base 6 (lA K) "__sub__" (spAdd (lA K) (· - ·)) := DunF.dun ⟨lm "__sub__" K, (meth_ok (fa_at c 75)).at_, c.def_ 44⟩ fun f F => ok_sub F cfL h_lo d_get
  have ts := meth_ok (fa_at c 75)
  have tm := meth_ok (fa_at c 76)
  have tr := meth_ok (fa_at c 77)
  have c_mul := ok_mul (c.def_ 45) cfL h_lo
  have c_rmul := ok_rmul (c.def_ 46) sf tm.at_ tm.fn tr.at_ (.inr ⟨_, rfl⟩) i1 i2 sub2 c_mul
  have p_cts : Prp P w K mg base 1 (lA K) "counts" (spCts (lA K)) := PrpF.prp ⟨_, _, prp_ok (ex_at c 10), c.def_ 36⟩ fun f F => ok_counts F cfL mdic
  have p_knd : Prp P w K mg base 1 (lA K) "kinds" (spKnd (lA K)) := PrpF.prp ⟨_, _, prp_ok (ex_at c 11), c.def_ 37⟩ fun f F => ok_kinds F cfL mtup
  have p_neg : Prp P w K mg base 6 (lA K) "negative" (spNgv (lA K)) := PrpF.prp ⟨_, _, prp_ok (ex_at c 12), c.def_ 38⟩ fun f F => ok_negative F cfL h_lo
  have fof := c.def_ 35 (d := ⟨fun K => recA K "classmethod" (lm "of" K), "of", "Load.of", mem 1⟩)
  have D : ClM P w K mg base 5 (lA K) "of" (spOf (lA K)) := ClMF.clm ⟨_, _, _, rd, clm_ok (ex_at c 9) fof.choose_spec.2.2.2.2, fof⟩ fun f F => ok_of F mis mstr mdic mall h_chk ML
  have h_pt := ok_plus (P := P) (w := w) (base := base) (dfn_at X G c 8) mzip
  have h_fp := ok_first_place (P := P) (w := w) (base := base) (dfn_at X G c 9) mran
  have h_lr := ok_least_row (P := P) (w := w) (base := base) (dfn_at X G c 10) mabs
  have h_cl := ok_cleared (dfn_at X G c 11) mlen h_lr h_pt
  have h_red := ok_reduced_by (dfn_at X G c 13) h_fp h_pt
  have h_tri := ok_triangular (dfn_at X G c 12) mran mlst h_cl h_red
  have h_hnd := ok_has_no_debts (dfn_at X G c 14) mis hmL ic p_neg d_bool
  have h_side := ok_is_side (dfn_at X G c 15) mall v3 ic h_hnd p_cts
  have h_ko := ok_kinds_of (dfn_at X G c 16) mtup msor mset clL p_knd
  have h_sides := ok_sides (P := P) (w := w) (base := base) (C := lA K) (dfn_at X G c 17)
  have h_vec := ok_vector_of (dfn_at X G c 18) d_get
  have h_cp := ok_checked_pairs (dfn_at X G c 19) mis mlen mall menu mtup hub kub v4 v5 h_side h_ko h_sides
  have ME : MkE P w K mg base 11 (lA K) (eA K) := ⟨em "__init__" K, mkE, fnr_initE (c.def_ 47) cfE mlen h_cp h_ko h_sides h_vec h_tri h_fp sf ts.at_ ts.fn (ok_sub (c.def_ 44) cfL h_lo d_get) up0⟩
  have MP : MetP P w K mg base 6 (eA K) "plain" (spPlain (lA K) (eA K)) := ⟨em "plain" K, mtP, ok_plain (c.def_ 48) cfE clL mlen mdic mzip h_red h_vec h_lo p_cts⟩
  have h_hou := ok_houses_of (P := P) (w := w) (base := base) (C := lA K) (dfn_at X G c 5) msor mset
  have h_net := ok_net_loads (dfn_at X G c 6) clE hmL ML h_hou sf d_add d_sub MP
  have h_aft := ok_after_rings (dfn_at X G c 7) clE hmL mzip msor mset ML sf d_neg d_sub d_bool MP
  have l_draw := ok_draw (P := P) (w := w) (base := base) (dfn_at X G c 21) mint mlen mabs
  have l_pickI := ok_pickI (dfn_at X G c 22) mlen l_draw
  have l_pickS := ok_pickS (dfn_at X G c 22) mlen l_draw
  have l_shuf := ok_shuffled (dfn_at X G c 23) mlst mlen l_draw
  have l_words := ok_words (dfn_at X G c 24) mran mlen mint l_draw l_pickS l_pickI
  have l_count := ok_count (dfn_at X G c 25) l_draw l_pickI
  have l_cnts := ok_lcounts (dfn_at X G c 26) mdic l_draw l_shuf l_count
  have l_pairs := ok_some_pairs (dfn_at X G c 27) mran l_draw l_pickI l_shuf
  have l_exch := ok_exchanges (dfn_at X G c 28) mlen mC hmE D ME
  have l_debts := ok_debts (dfn_at X G c 29) mran mlen mtup msor mset l_draw l_shuf l_cnts
  have l_loads := ok_loads (dfn_at X G c 30) mdic mC D
  have l_rings := ok_some_rings (dfn_at X G c 31) mran mlen mtup mC D l_draw l_shuf l_cnts
  have l_told := ok_nets_told (dfn_at X G c 32) clL h_net p_cts
  have l_pen := ok_pen (P := P) (w := w) (base := base) (dfn_at X G c 20) mlst
  exact ⟨mran, mmin, mlen, mrep, sf, clL, l_pen, l_draw, l_words, l_pairs, l_exch, l_debts, l_loads, l_rings, l_told, h_aft, p_cts, d_eq, sub1, _, _, tm.at_, tr.at_, tr.fn, c_rmul⟩
end
end Crt
end

/-! The end. -/
set_option autoImplicit false
namespace Crt
open PySem PySem.Spec PyProof.Rows L2 He
/-- the law, called behind the top -/
theorem law_do {w : World} {K : PySem.W.Frag} {h : Heap} {mg : Str → Option Value} {fa a : Addr} {ns : List Int} {s : Shared} (X : K.In h) (G : h.Ns mainGlobals mg) (c : SaysC allDs allEx K) (hm : mg "law" = some (.ref fa)) (hn : ns.length ≤ 63) : LawDo R.prog w K mg fa a ns s := by
  intro base H hO hS kb gb e0
  have F0 : MFn K "law" "law" (top 69) (ga K "law") := c.def_ 33 (d := ⟨fun K => ga K "law", "law", "law", top 69⟩)
  obtain ⟨fd, F, df, _, _, _⟩ := F0
  obtain rfl : fa = ga K "law" := by
    have e := hm.symm.trans (glo_ok X G (fa_at c 33))
    injection e with e1
    injection e1
  have hr : Room 15 callerA := ⟨rfl, by decide, by decide⟩
  have S : FnScope lawN ["_law_script"] (C8.fnScope (top 69)) := C8.fnScope_by (by decide +kernel)
  have b := F.binds df (ps := ["_law_script"]) fun _ _ _ _ _ _ us hl => match us, hl with | [_], _ => rfl
  have hb : BindsTo s fd ⟨[.ref a], []⟩ ([("_law_script" : Str)].zip [.ref a]) := b s [.ref a] (kb.keeps fun b o z => (e0.bs b o z).1) rfl
  exact call_here F S rfl hr e0 hb (.cons (show RelV (V.ref a) (Value.ref a) from rfl) .nil) fun cdv => law_body (P := R.prog) (w := w) (law_ok X G c base) cdv (ga K "law") callerA [] s H [.ref a] (fun v _ => v = .bl true) C8.E0 rfl (hr.deeper _) ⟨a, ns, rfl, hO, hn, hS, fun _ => rfl⟩
end Crt
open PySem PySem.W PySem.Calls PyProof.Rows
theorem PySem.Challenge.cw_crateround_k73_whole_rings_keep_nets_holds : PySem.Challenge.rw_crateround_k73_whole_rings_keep_nets.Holds := by
  refine Crt.head_of (Att.attach_call (n := 63) rfl (by kernel_rfl) fun w s₀ s₁ mg mb fa o pm cd doc a vs ns G Y ho hd hcd hmg hobj hints hlen hg => ?_)
  obtain ⟨K, X, c⟩ := Y
  have hm : mg ("law" : PySem.Str) = some (.ref fa) := by
    have e : (HandSHeadRun.topDef Crt.R.prog 69).name = ("law" : PySem.Str) := by kernel_rfl
    rw [← e]
    exact hmg
  exact Crt.law_top (Nat.le_trans hlen (by decide)) hints hobj X G.T.g G.T.b G.T.builtins G.T.nolimit hg (Crt.law_do X G.T.g c hm hlen)
