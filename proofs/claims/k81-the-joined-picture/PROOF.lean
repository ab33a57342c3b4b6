import PyProof.Rows.All
import Wide.All
import OpenK.AllK
import Wide.FinOn
import HandS.ForMost
import HandS.IsInst
import HandS.Wide
import HandS.CallLocal
import HandS.TupAny
import HandS.TupMul
import HandS.TupLen
import HandS.DictTup
import HandS.Codes
import HandS.Walk
import HandS.Iter
import KE.GoesEnum
import HandS.Zip
import KE.KDictZip
import HandS.Call
import PyProof.MaxThree
import KE.DatumOrd
import HandS.TupSets
import HandS.SortOrd
import HandS.SortRule
import PySem.Challenge.RW_skystrips_k81_the_joined_picture
set_option Elab.async false
set_option linter.all false
set_option maxRecDepth 100000
set_option maxHeartbeats 4000000
namespace Sky
open PySem PySem.Spec PyProof.Rows L2

/-! ### growing heaps: G holds what never changes, H is what stands -/
theorem same_t {K : PySem.W.Frag} {H H' : Hp} {a : Addr} {xs : List V} (e : Same H H') (h : SqT K H a xs) : SqT K H' a xs := by
  rcases h with (h | ⟨o, h⟩) | h
  · exact .inl (.inl (e _ _ h))
  · exact .inl (.inr ⟨o, e _ _ h⟩)
  · exact .inr h
theorem same_new {H : Hp} {p : Addr} {o : HO} (h : H p = none) : Same H (upd H p o) := fun a u e => by
  rw [upd_ne (ne_of_none e h)]
  exact e
mutual
theorem dp_mono {K : PySem.W.Frag} {H H' : Hp} (e : Same H H') : ∀ (d : PyData) (v : V), Dp K H v d → Dp K H' v d
  | .none, _, h => by cases h; exact .non
  | .bool b, _, h => by cases h; exact .bl b
  | .int i, _, h => by cases h; exact .int i
  | .str x, _, h => by cases h; exact .str x
  | .list ds, _, h => by
    cases h with
    | lst hs ha => exact .lst (e.seq hs) (dpall_mono e ds _ ha)
  | .tuple ds, _, h => by
    cases h with
    | tup hs ha => exact .tup (same_t e hs) (dpall_mono e ds _ ha)
  | .dict _, _, h => by cases h
theorem dpall_mono {K : PySem.W.Frag} {H H' : Hp} (e : Same H H') : ∀ (ds : List PyData) (vs : List V), DpAll K H vs ds → DpAll K H' vs ds
  | [], _, h => by cases h; exact .nil
  | d :: ds, _, h => by
    cases h with
    | cons h1 h2 => exact .cons (dp_mono e d _ h1) (dpall_mono e ds _ h2)
end
/-- predicates of a value over a heap -/
abbrev VP := V → Hp → Prop
def Mn (R : VP) : Prop := ∀ v G G', Same G G' → R v G → R v G'
def isD (K : PySem.W.Frag) (d : PyData) : VP := fun v G => Dp K G v d
theorem mn_isD {K : PySem.W.Frag} {d : PyData} : Mn (isD K d) := fun v _ _ e h => dp_mono e d v h

/-- a step: G to G', H to H'; what stands at M may have changed -/
structure Gw (M : List Addr) (G H G' H' : Hp) : Prop where
  gg : Same G G'
  gh : Same G' H'
  hh : ∀ a o, H a = some o → a ∉ M → H' a = some o
  fr : ∀ a o, G' a = some o → G a = some o ∨ H a = none
  tr : ∀ a, H' a = none → H a = none
theorem Gw.refl {M : List Addr} {G H : Hp} (e : Same G H) : Gw M G H G H := ⟨fun _ _ h => h, e, fun _ _ h _ => h, fun _ _ h => .inl h, fun _ h => h⟩
theorem Gw.trans {M : List Addr} {G H G1 H1 G2 H2 : Hp} (a : Gw M G H G1 H1) (b : Gw M G1 H1 G2 H2) : Gw M G H G2 H2 :=
  ⟨a.gg.trans b.gg, b.gh, fun x o e n => b.hh x o (a.hh x o e n) n, fun x o e => (b.fr x o e).elim (fun z => a.fr x o z) (fun z => .inr (a.tr x z)), fun x e => a.tr x (b.tr x e)⟩
theorem Gw.weak {M : List Addr} {G H G' H' : Hp} (a : Gw [] G H G' H') : Gw M G H G' H' := ⟨a.gg, a.gh, fun x o e _ => a.hh x o e (by simp), a.fr, a.tr⟩
theorem Gw.sub {M N : List Addr} {G H G' H' : Hp} (a : Gw M G H G' H') (h : ∀ x ∈ M, x ∈ N) : Gw N G H G' H' := ⟨a.gg, a.gh, fun x o e n => a.hh x o e fun z => n (h x z), a.fr, a.tr⟩
theorem Gw.same {G H G' H' : Hp} (a : Gw [] G H G' H') : Same H H' := fun x o e => a.hh x o e (by simp)
/-- what may change and isn't in G isn't in G' either -/
theorem Gw.out {M : List Addr} {G H G' H' : Hp} (a : Gw M G H G' H') {x : Addr} {o : HO} (hg : G x = none) (hx : H x = some o) : G' x = none := by
  cases e : G' x with
  | none => rfl
  | some u =>
    rcases a.fr x u e with z | z
    · rw [hg] at z; cases z
    · rw [hx] at z; cases z
/-- a new object that never changes -/
theorem Gw.new {M : List Addr} {G H : Hp} {p : Addr} {o : HO} (e : Same G H) (h : H p = none) : Gw M G H (upd G p o) (upd H p o) := by
  have hg : G p = none := e.free h
  refine ⟨same_new hg, fun a u q => ?_, fun a u q _ => same_new h a u q, fun a u q => ?_, fun a q => ?_⟩
  · by_cases ha : a = p
    · subst ha; rw [upd_same] at q ⊢; exact q
    · rw [upd_ne ha] at q ⊢; exact e a u q
  · by_cases ha : a = p
    · subst ha; exact .inr h
    · rw [upd_ne ha] at q; exact .inl q
  · by_cases ha : a = p
    · subst ha; exact h
    · rw [upd_ne ha] at q; exact q
/-- a new object of which G knows nothing (it will change, or it is forgotten) -/
theorem Gw.lay {M : List Addr} {G H : Hp} {p : Addr} {o : HO} (e : Same G H) (h : H p = none) : Gw M G H G (upd H p o) := by
  refine ⟨fun _ _ q => q, e.trans (same_new h), fun a u q _ => same_new h a u q, fun a u q => .inl q, fun a q => ?_⟩
  by_cases ha : a = p
  · subst ha; exact h
  · rw [upd_ne ha] at q; exact q
/-- what may change has changed -/
theorem Gw.put {M : List Addr} {G H : Hp} {p : Addr} {o : HO} (e : Same G H) (hg : G p = none) (hm : p ∈ M) : Gw M G H G (upd H p o) := by
  refine ⟨fun _ _ q => q, fun a u q => ?_, fun a u q n => ?_, fun a u q => .inl q, fun a q => ?_⟩
  · rw [upd_ne (fun z => by subst z; rw [hg] at q; cases q)]; exact e a u q
  · rw [upd_ne (fun z => n (by rw [z]; exact hm))]; exact q
  · by_cases ha : a = p
    · subst ha; rw [upd_same] at q; cases q
    · rw [upd_ne ha] at q; exact q
/-- what was laid and stands as it is from now on: G knows it -/
theorem Gw.fix {G H G1 H1 : Hp} {p : Addr} {o : HO} (e : Same G H) (g : Gw [p] G H G1 H1) (hn : H p = none) (h1 : H1 p = some o) : Gw [] G H (upd G1 p o) H1 := by
  have hg : G p = none := e.free hn
  refine ⟨fun a u q => ?_, fun a u q => ?_, fun a u q _ => g.hh a u q (fun z => ?_), fun a u q => ?_, g.tr⟩
  · rw [upd_ne (fun z => by subst z; rw [hg] at q; cases q)]; exact g.gg a u q
  · by_cases ha : a = p
    · subst ha; rw [upd_same] at q; cases q; exact h1
    · rw [upd_ne ha] at q; exact g.gh a u q
  · rcases List.mem_cons.mp z with z | z
    · subst z; rw [hn] at q; cases q
    · cases z
  · by_cases ha : a = p
    · subst ha; exact .inr hn
    · rw [upd_ne ha] at q; exact g.fr a u q
theorem same_upd_r {G H : Hp} {p : Addr} {o : HO} (e : Same G H) (h : H p = some o) : Same (upd G p o) H := fun a u q => by
  by_cases ha : a = p
  · subst ha; rw [upd_same] at q; cases q; exact h
  · rw [upd_ne ha] at q; exact e a u q
/-- both of two heaps that lie in a third -/
def both (G1 G2 : Hp) : Hp := fun a => match G1 a with
  | some o => some o
  | none => G2 a
theorem both_l (G1 G2 : Hp) : Same G1 (both G1 G2) := fun a o e => by unfold both; rw [e]
theorem both_r {G1 G2 H : Hp} (h1 : Same G1 H) (h2 : Same G2 H) : Same G2 (both G1 G2) := fun a o e => by
  unfold both
  cases q : G1 a with
  | none => exact e
  | some u =>
    have a1 := h1 a u q
    have a2 := h2 a o e
    rw [a1] at a2
    exact a2
theorem both_in {G1 G2 H : Hp} (h1 : Same G1 H) (h2 : Same G2 H) : Same (both G1 G2) H := fun a o e => by
  unfold both at e
  cases q : G1 a with
  | none => rw [q] at e; exact h2 a o e
  | some u => rw [q] at e; rw [← e]; exact h1 a u q
theorem Gw.join {M : List Addr} {G G1 H G' H' : Hp} (e : Same G G1) (e1 : Same G1 H) (g : Gw M G H G' H') (k : Same G1 H') : Gw M G1 H (both G1 G') H' :=
  ⟨both_l _ _, both_in k g.gh, g.hh, fun a o q => by
    unfold both at q
    cases z : G1 a with
    | some u => exact .inl (by rw [z] at q; exact q)
    | none =>
      rw [z] at q
      rcases g.fr a o q with w | w
      · have := e a o w
        rw [z] at this; cases this
      · exact .inr w, g.tr⟩

/-! ### what an expression evaluates to -/
def EvR (te : TE) (σ : L2.St) (G : Hp) (R : VP) : Prop := ∀ H, Same G H → ∀ Q : VK, (∀ v G' H', Gw [] G H G' H' → R v G' → Q v H') → te σ H Q
def EvT (tt : TT) (σ : L2.St) (G : Hp) (b : Bool) : Prop := ∀ H, Same G H → ∀ Q : Bool → Hp → Prop, (∀ G' H', Gw [] G H G' H' → Q b H') → tt σ H Q
inductive All2 : List VP → List V → Hp → Prop
  | nil {G} : All2 [] [] G
  | cons {R Rs v vs G} : R v G → All2 Rs vs G → All2 (R :: Rs) (v :: vs) G
def Mns (Rs : List VP) : Prop := ∀ R ∈ Rs, Mn R
theorem All2.mono {G G' : Hp} (e : Same G G') : ∀ {Rs : List VP} {vs : List V}, Mns Rs → All2 Rs vs G → All2 Rs vs G'
  | _, _, _, .nil => .nil
  | R :: Rs, _, m, .cons h t => .cons (m R List.mem_cons_self _ _ _ e h) (t.mono e fun R' h' => m R' (List.mem_cons_of_mem _ h'))
def EvA (ta : TA) (σ : L2.St) (G : Hp) (Rs : List VP) : Prop := Mns Rs ∧ ∀ H, Same G H → ∀ Q : List V → Hp → Prop, (∀ vs G' H', Gw [] G H G' H' → All2 Rs vs G' → Q vs H') → ta σ H Q
def EvD (ta : TA) (σ : L2.St) (G : Hp) (K : PySem.W.Frag) (ds : List PyData) : Prop := ∀ H, Same G H → ∀ Q : List V → Hp → Prop, (∀ vs G' H', Gw [] G H G' H' → DpAll K G' vs ds → Q vs H') → ta σ H Q
section
variable {K : PySem.W.Frag} {σ : L2.St} {G G1 : Hp} {ta tb te : TE} {t u : TT} {R S : VP} {d e : PyData} {i j : Int} {b c : Bool}
theorem EvR.mono (hR : Mn R) (e : Same G G1) (h : EvR te σ G R) : EvR te σ G1 R := fun H e1 Q q =>
  h H (e.trans e1) Q fun v G' H' g r => q v (both G1 G') H' (g.join e e1 (e1.trans g.same)) (hR _ _ _ (both_r (e1.trans g.same) g.gh) r)
theorem EvT.mono (e : Same G G1) (h : EvT t σ G b) : EvT t σ G1 b := fun H e1 Q q =>
  h H (e.trans e1) Q fun G' H' g => q (both G1 G') H' (g.join e e1 (e1.trans g.same))
theorem EvA.mono {ta : TA} {Rs : List VP} (e : Same G G1) (h : EvA ta σ G Rs) : EvA ta σ G1 Rs := ⟨h.1, fun H e1 Q q =>
  h.2 H (e.trans e1) Q fun vs G' H' g r => q vs (both G1 G') H' (g.join e e1 (e1.trans g.same)) (r.mono (both_r (e1.trans g.same) g.gh) h.1)⟩
theorem EvD.mono {ta : TA} {ds : List PyData} (e : Same G G1) (h : EvD ta σ G K ds) : EvD ta σ G1 K ds := fun H e1 Q q =>
  h H (e.trans e1) Q fun vs G' H' g r => q vs (both G1 G') H' (g.join e e1 (e1.trans g.same)) (dpall_mono (both_r (e1.trans g.same) g.gh) _ _ r)
theorem EvR.imp (h : EvR te σ G R) (k : ∀ v G', Same G G' → R v G' → S v G') : EvR te σ G S := fun H e1 Q q => h H e1 Q fun v G' H' g r => q v G' H' g (k v G' g.gg r)
theorem EvR.to (h : EvR te σ G (isD K d)) (k : d = e) : EvR te σ G (isD K e) := k ▸ h
theorem EvT.to (h : EvT t σ G b) (k : b = c) : EvT t σ G c := k ▸ h

/-! names, constants -/
theorem ev_var {i : Nat} {v : V} (h : σ[i]? = some (some v)) (r : R v G) : EvR (tVar i) σ G R := fun H e Q q => ⟨v, h, q v G H (Gw.refl e) r⟩
theorem ev_int : EvR (tC (.int i)) σ G (isD K (.int i)) := fun H e Q q => q _ G H (Gw.refl e) (Dp.int i)
theorem ev_bl : EvR (tC (.bl b)) σ G (isD K (.bool b)) := fun H e Q q => q _ G H (Gw.refl e) (Dp.bl b)
theorem ev_non : EvR (tC .non) σ G (isD K .none) := fun H e Q q => q _ G H (Gw.refl e) .non
theorem ev_str {x : Str} : EvR (tC (.str x)) σ G (isD K (.str x)) := fun H e Q q => q _ G H (Gw.refl e) (Dp.str x)
theorem ev_c {v : V} (r : R v G) : EvR (tC v) σ G R := fun H e Q q => q _ G H (Gw.refl e) r

/-! two operands -/
def RV (r : R2) (x y : V) (G : Hp) (S : VP) : Prop := ∀ H, Same G H → ∀ Q : VK, (∀ z G' H', Gw [] G H G' H' → S z G' → Q z H') → r x y H Q
theorem ev_op {r : R2} {R1 R2' : VP} (m1 : Mn R1) (m2 : Mn R2') (ha : EvR ta σ G R1) (hb : EvR tb σ G R2') (hr : ∀ x y G', Same G G' → R1 x G' → R2' y G' → RV r x y G' S) : EvR (tOp r ta tb) σ G S := fun H e Q q =>
  ha H e _ fun x G1 H1 g1 r1 => (hb.mono m2 g1.gg) H1 g1.gh _ fun y G2 H2 g2 r2 => hr x y G2 (g1.gg.trans g2.gg) (m1 _ _ _ g2.gg r1) r2 H2 g2.gh Q fun z G3 H3 g3 s => q z G3 H3 ((g1.trans g2).trans g3) s
theorem ev_i0 {g : Int → Int → V} (hg : ∀ G', Dp K G' (g i j) d) (ha : EvR ta σ G (isD K (.int i))) (hb : EvR tb σ G (isD K (.int j))) : EvR (tOp (rI0 g) ta tb) σ G (isD K d) :=
  ev_op mn_isD mn_isD ha hb fun x y G' _ r1 r2 H e Q q => by
    cases r1; cases r2
    exact ⟨i, j, rfl, rfl, q _ G' H (Gw.refl e) (hg G')⟩
theorem ev_iC {C : Int → Int → Prop} {g : Int → Int → V} (hc : C i j) (hg : ∀ G', Dp K G' (g i j) d) (ha : EvR ta σ G (isD K (.int i))) (hb : EvR tb σ G (isD K (.int j))) : EvR (tOp (rI C g) ta tb) σ G (isD K d) :=
  ev_op mn_isD mn_isD ha hb fun x y G' _ r1 r2 H e Q q => by
    cases r1; cases r2
    exact ⟨i, j, rfl, rfl, hc, q _ G' H (Gw.refl e) (hg G')⟩
theorem ev_add (ha : EvR ta σ G (isD K (.int i))) (hb : EvR tb σ G (isD K (.int j))) : EvR (tOp (rI0 fun i j => .int (i + j)) ta tb) σ G (isD K (.int (i + j))) := ev_i0 (fun _ => .int _) ha hb
theorem ev_sub (ha : EvR ta σ G (isD K (.int i))) (hb : EvR tb σ G (isD K (.int j))) : EvR (tOp (rI0 fun i j => .int (i - j)) ta tb) σ G (isD K (.int (i - j))) := ev_i0 (fun _ => .int _) ha hb
theorem ev_mul (hc : CMul i j) (ha : EvR ta σ G (isD K (.int i))) (hb : EvR tb σ G (isD K (.int j))) : EvR (tOp (rI CMul fun i j => .int (i * j)) ta tb) σ G (isD K (.int (i * j))) := ev_iC hc (fun _ => .int _) ha hb
theorem ev_mulW (hc : CMulW i j) (ha : EvR ta σ G (isD K (.int i))) (hb : EvR tb σ G (isD K (.int j))) : EvR (tOp (rI CMulW fun i j => .int (i * j)) ta tb) σ G (isD K (.int (i * j))) := ev_iC hc (fun _ => .int _) ha hb
theorem ev_mod (hc : 0 < j) (ha : EvR ta σ G (isD K (.int i))) (hb : EvR tb σ G (isD K (.int j))) : EvR (tOp (rI (fun _ j => 0 < j) fun i j => .int (i % j)) ta tb) σ G (isD K (.int (i % j))) := ev_iC hc (fun _ => .int _) ha hb
theorem ev_fdiv (hc : CDiv i j) (ha : EvR ta σ G (isD K (.int i))) (hb : EvR tb σ G (isD K (.int j))) : EvR (tOp (rI CDiv fun i j => .int (i / j)) ta tb) σ G (isD K (.int (i / j))) := ev_iC hc (fun _ => .int _) ha hb
theorem ev_fdivW (hc : CDivW i j) (ha : EvR ta σ G (isD K (.int i))) (hb : EvR tb σ G (isD K (.int j))) : EvR (tOp (rI CDivW fun i j => .int (i / j)) ta tb) σ G (isD K (.int (i / j))) := ev_iC hc (fun _ => .int _) ha hb
theorem ev_pow (hc : CPow i j) (ha : EvR ta σ G (isD K (.int i))) (hb : EvR tb σ G (isD K (.int j))) : EvR (tOp (rI CPow fun i j => .int (i ^ j.toNat)) ta tb) σ G (isD K (.int (i ^ j.toNat))) := ev_iC hc (fun _ => .int _) ha hb
theorem ev_lt (ha : EvR ta σ G (isD K (.int i))) (hb : EvR tb σ G (isD K (.int j))) : EvR (tOp (rI0 fun i j => .bl (decide (i < j))) ta tb) σ G (isD K (.bool (decide (i < j)))) := ev_i0 (fun _ => .bl _) ha hb
theorem ev_le (ha : EvR ta σ G (isD K (.int i))) (hb : EvR tb σ G (isD K (.int j))) : EvR (tOp (rI0 fun i j => .bl (decide (i ≤ j))) ta tb) σ G (isD K (.bool (decide (i ≤ j)))) := ev_i0 (fun _ => .bl _) ha hb
theorem ev_gt (ha : EvR ta σ G (isD K (.int i))) (hb : EvR tb σ G (isD K (.int j))) : EvR (tOp (rI0 fun i j => .bl (decide (j < i))) ta tb) σ G (isD K (.bool (decide (j < i)))) := ev_i0 (fun _ => .bl _) ha hb
theorem ev_ge (ha : EvR ta σ G (isD K (.int i))) (hb : EvR tb σ G (isD K (.int j))) : EvR (tOp (rI0 fun i j => .bl (decide (j ≤ i))) ta tb) σ G (isD K (.bool (decide (j ≤ i)))) := ev_i0 (fun _ => .bl _) ha hb
theorem ev_neg (ha : EvR ta σ G (isD K (.int i))) : EvR (tUn (rU fun i => .int (-i)) ta) σ G (isD K (.int (-i))) := fun H e Q q => ha H e _ fun v G' H' g r => by
  cases r
  exact ⟨i, rfl, q _ G' H' g (.int _)⟩
/-- == and != of ints, bools, texts, None -/
def sv : PyData → Option V
  | .none => some .non
  | .bool b => some (.bl b)
  | .int i => some (.int i)
  | .str x => some (.str x)
  | _ => none
theorem sv_dp {v w : V} (h : Dp K G v d) (e : sv d = some w) : v = w := by
  cases h <;> simp [sv] at e <;> exact e
theorem ev_eqS {x y : V} (hx : sv d = some x) (hy : sv e = some y) (hs : scal x y = true) (ha : EvR ta σ G (isD K d)) (hb : EvR tb σ G (isD K e)) : EvR (tOp rEq ta tb) σ G (isD K (.bool (decide (x = y)))) :=
  ev_op mn_isD mn_isD ha hb fun v w G' _ r1 r2 H k Q q => by
    have e1 := sv_dp r1 hx
    have e2 := sv_dp r2 hy
    subst e1 e2
    exact ⟨hs, q _ G' H (Gw.refl k) (.bl _)⟩
theorem ev_neS {x y : V} (hx : sv d = some x) (hy : sv e = some y) (hs : scal x y = true) (ha : EvR ta σ G (isD K d)) (hb : EvR tb σ G (isD K e)) : EvR (tOp rNe ta tb) σ G (isD K (.bool (!decide (x = y)))) :=
  ev_op mn_isD mn_isD ha hb fun v w G' _ r1 r2 H k Q q => by
    have e1 := sv_dp r1 hx
    have e2 := sv_dp r2 hy
    subst e1 e2
    exact ⟨hs, q _ G' H (Gw.refl k) (.bl _)⟩
theorem ev_eqI (ha : EvR ta σ G (isD K (.int i))) (hb : EvR tb σ G (isD K (.int j))) : EvR (tOp rEq ta tb) σ G (isD K (.bool (decide (i = j)))) :=
  (ev_eqS rfl rfl rfl ha hb).to (by simp)
theorem ev_neI (ha : EvR ta σ G (isD K (.int i))) (hb : EvR tb σ G (isD K (.int j))) : EvR (tOp rNe ta tb) σ G (isD K (.bool (!decide (i = j)))) :=
  (ev_neS rfl rfl rfl ha hb).to (by simp)
theorem ev_eqD (sd : SeqAt.shaped d = true) (se : SeqAt.shaped e = true) (ha : EvR ta σ G (isD K d)) (hb : EvR tb σ G (isD K e)) : EvR (tOp (rEqD K) ta tb) σ G (isD K (.bool (PyData.eqv d e))) :=
  ev_op mn_isD mn_isD ha hb fun v w G' _ r1 r2 H k Q q => ⟨d, e, dp_mono k _ _ r1, dp_mono k _ _ r2, sd, se, q _ G' H (Gw.refl k) (.bl _)⟩
theorem ev_neD (sd : SeqAt.shaped d = true) (se : SeqAt.shaped e = true) (ha : EvR ta σ G (isD K d)) (hb : EvR tb σ G (isD K e)) : EvR (tOp (rNeD K) ta tb) σ G (isD K (.bool (!PyData.eqv d e))) :=
  ev_op mn_isD mn_isD ha hb fun v w G' _ r1 r2 H k Q q => ⟨d, e, dp_mono k _ _ r1, dp_mono k _ _ r2, sd, se, q _ G' H (Gw.refl k) (.bl _)⟩
def isN : PyData → Bool
  | .none => true
  | _ => false
theorem dp_non {v : V} (h : Dp K G v d) : decide (v = .non) = isN d := by
  cases h <;> simp [isN]
theorem ev_isN (ha : EvR ta σ G (isD K d)) : EvR (tOp (fun x y H Q => y = .non ∧ Q (.bl (decide (x = .non))) H) ta (tC .non)) σ G (isD K (.bool (isN d))) := fun H e Q q =>
  ha H e _ fun v G' H' g r => ⟨rfl, q _ G' H' g (by rw [dp_non r]; exact .bl _)⟩
theorem ev_notN (ha : EvR ta σ G (isD K d)) : EvR (tOp (fun x y H Q => y = .non ∧ Q (.bl (!decide (x = .non))) H) ta (tC .non)) σ G (isD K (.bool (!isN d))) := fun H e Q q =>
  ha H e _ fun v G' H' g r => ⟨rfl, q _ G' H' g (by rw [dp_non r]; exact .bl _)⟩
/-- a < b < c -/
theorem ev_chain {r r' : R2} {R1 R2' R3 : VP} (m2 : Mn R2') (m3 : Mn R3) (m1 : Mn R1) (ha : EvR ta σ G R1) (hb : EvR tb σ G R2') {tc : TE}
    (h1 : ∀ x y G', Same G G' → R1 x G' → R2' y G' → RV r x y G' (isD K (.bool b))) (hc : b = true → EvR tc σ G R3) (h2 : b = true → ∀ x y G', Same G G' → R2' x G' → R3 y G' → RV r' x y G' (isD K (.bool c))) :
    EvR (tChain r r' ta tb tc) σ G (isD K (.bool (b && c))) := fun H e Q q =>
  ha H e _ fun x G1 H1 g1 r1 => (hb.mono m2 g1.gg) H1 g1.gh _ fun y G2 H2 g2 r2 => h1 x y G2 (g1.gg.trans g2.gg) (m1 _ _ _ g2.gg r1) r2 H2 g2.gh _ fun z G3 H3 g3 s => by
    cases s
    refine ⟨b, rfl, ?_⟩
    cases b with
    | true =>
      refine iteT ?_
      refine (hc rfl).mono m3 ((g1.gg.trans g2.gg).trans g3.gg) H3 g3.gh _ fun w G4 H4 g4 r4 => ?_
      refine h2 rfl y w G4 (((g1.gg.trans g2.gg).trans g3.gg).trans g4.gg) (m2 _ _ _ (g3.gg.trans g4.gg) r2) r4 H4 g4.gh Q fun z G5 H5 g5 s5 => ?_
      exact q z G5 H5 ((((g1.trans g2).trans g3).trans g4).trans g5) s5
    | false =>
      refine iteF ?_
      exact q _ G3 H3 ((g1.trans g2).trans g3) (.bl _)
theorem rv_i0 {g : Int → Int → V} (hg : ∀ G', Dp K G' (g i j) d) {x y : V} (r1 : isD K (.int i) x G) (r2 : isD K (.int j) y G) : RV (rI0 g) x y G (isD K d) := fun H e Q q => by
  cases r1; cases r2
  exact ⟨i, j, rfl, rfl, q _ G H (Gw.refl e) (hg G)⟩
theorem ev_chI {k : Int} {p q : Int → Int → Bool} {tc : TE} (ha : EvR ta σ G (isD K (.int i))) (hb : EvR tb σ G (isD K (.int j))) (hc : EvR tc σ G (isD K (.int k))) :
    EvR (tChain (rI0 fun i j => .bl (p i j)) (rI0 fun i j => .bl (q i j)) ta tb tc) σ G (isD K (.bool (p i j && q j k))) :=
  ev_chain mn_isD mn_isD mn_isD ha hb (fun _ _ _ _ r1 r2 => rv_i0 (fun _ => .bl _) r1 r2) (fun _ => hc) (fun _ _ _ _ _ r1 r2 => rv_i0 (fun _ => .bl _) r1 r2)

/-! tests -/
theorem et_test (h : EvR te σ G (isD K (.bool b))) : EvT (tTest te) σ G b := fun H e Q q => h H e _ fun v G' H' g r => by
  cases r
  exact ⟨b, rfl, q G' H' g⟩
theorem et_B (h : EvR te σ G (isD K (.bool b))) : EvT (tB te) σ G b := fun H e Q q => h H e _ fun v G' H' g r => by
  cases r
  exact ⟨b, rfl, q G' H' g⟩
theorem et_and (h1 : EvT t σ G b) (h2 : b = true → EvT u σ G c) : EvT (tAnd t u) σ G (b && c) := fun H e Q q => h1 H e _ fun G1 H1 g1 => by
  cases b with
  | true => exact iteT ((h2 rfl).mono g1.gg H1 g1.gh Q fun G2 H2 g2 => q G2 H2 (g1.trans g2))
  | false => exact iteF (q G1 H1 g1)
theorem et_or (h1 : EvT t σ G b) (h2 : b = false → EvT u σ G c) : EvT (tOr t u) σ G (b || c) := fun H e Q q => h1 H e _ fun G1 H1 g1 => by
  cases b with
  | true => exact iteT (q G1 H1 g1)
  | false => exact iteF ((h2 rfl).mono g1.gg H1 g1.gh Q fun G2 H2 g2 => q G2 H2 (g1.trans g2))
theorem et_not (h1 : EvT t σ G b) : EvT (tNot t) σ G (!b) := fun H e Q q => h1 H e _ fun G1 H1 g1 => q G1 H1 g1
theorem ev_andV (h1 : EvR ta σ G (isD K (.bool b))) (h2 : b = true → EvR tb σ G (isD K (.bool c))) : EvR (tAndV ta tb) σ G (isD K (.bool (b && c))) := fun H e Q q => h1 H e _ fun v G1 H1 g1 r1 => by
  cases r1
  refine ⟨b, rfl, ?_⟩
  cases b with
  | true => exact iteT ((h2 rfl).mono mn_isD g1.gg H1 g1.gh Q fun v G2 H2 g2 r => q v G2 H2 (g1.trans g2) r)
  | false => exact iteF (q _ G1 H1 g1 (.bl _))
theorem ev_orV (h1 : EvR ta σ G (isD K (.bool b))) (h2 : b = false → EvR tb σ G (isD K (.bool c))) : EvR (tOrV ta tb) σ G (isD K (.bool (b || c))) := fun H e Q q => h1 H e _ fun v G1 H1 g1 r1 => by
  cases r1
  refine ⟨b, rfl, ?_⟩
  cases b with
  | true => exact iteT (q _ G1 H1 g1 (.bl _))
  | false => exact iteF ((h2 rfl).mono mn_isD g1.gg H1 g1.gh Q fun v G2 H2 g2 r => q v G2 H2 (g1.trans g2) r)
theorem ev_notV (h1 : EvR ta σ G (isD K (.bool b))) : EvR (tNotV ta) σ G (isD K (.bool (!b))) := fun H e Q q => h1 H e _ fun v G1 H1 g1 r1 => by
  cases r1
  exact ⟨b, rfl, q _ G1 H1 g1 (.bl _)⟩
theorem ev_ifE (hR : Mn R) (h1 : EvT t σ G b) (h2 : b = true → EvR ta σ G R) (h3 : b = false → EvR tb σ G R) : EvR (tIf t ta tb) σ G R := fun H e Q q => h1 H e _ fun G1 H1 g1 => by
  cases b with
  | true => exact iteT ((h2 rfl).mono hR g1.gg H1 g1.gh Q fun v G2 H2 g2 r => q v G2 H2 (g1.trans g2) r)
  | false => exact iteF ((h3 rfl).mono hR g1.gg H1 g1.gh Q fun v G2 H2 g2 r => q v G2 H2 (g1.trans g2) r)

/-! arguments, displays -/
theorem ea_nil : EvA tNil σ G [] := ⟨fun _ h => (by cases h), fun H e Q q => q [] G H (Gw.refl e) .nil⟩
theorem ea_cons {tr : TA} {Rs : List VP} (m : Mn R) (h : EvR ta σ G R) (hr : EvA tr σ G Rs) : EvA (tCons ta tr) σ G (R :: Rs) :=
  ⟨fun R' h' => (List.mem_cons.mp h').elim (fun z => by rw [z]; exact m) (fun z => hr.1 R' z), fun H e Q q => h H e _ fun v G1 H1 g1 r1 => (hr.mono g1.gg).2 H1 g1.gh _ fun vs G2 H2 g2 r2 => q (v :: vs) G2 H2 (g1.trans g2) (.cons (m _ _ _ g2.gg r1) r2)⟩
theorem ed_nil : EvD tNil σ G K [] := fun H e Q q => q [] G H (Gw.refl e) .nil
theorem ed_cons {tr : TA} {ds : List PyData} (h : EvR ta σ G (isD K d)) (hr : EvD tr σ G K ds) : EvD (tCons ta tr) σ G K (d :: ds) := fun H e Q q =>
  h H e _ fun v G1 H1 g1 r1 => (hr.mono g1.gg) H1 g1.gh _ fun vs G2 H2 g2 r2 => q (v :: vs) G2 H2 (g1.trans g2) (.cons (dp_mono g2.gg _ _ r1) r2)
theorem dpall_len : ∀ {vs : List V} {ds : List PyData}, DpAll K G vs ds → vs.length = ds.length
  | _, _, .nil => rfl
  | _, _, .cons _ t => by rw [List.length_cons, List.length_cons, dpall_len t]
theorem ev_tup {ta : TA} {ds : List PyData} (h : EvD ta σ G K ds) (hl : ds.length ≤ 1000) : EvR (tTup ta) σ G (isD K (.tuple ds)) := fun H e Q q =>
  h H e _ fun vs G1 H1 g1 r1 => ⟨Nat.le_of_lt (small1000 (by rw [dpall_len r1]; exact hl)), fun p hp => q (.ref p) (upd G1 p (.tup vs)) _ (g1.trans (Gw.new g1.gh hp)) (.tup (SqT.of upd_same) (dpall_mono (same_new (g1.gh.free hp)) _ _ r1))⟩
theorem ev_lst {ta : TA} {ds : List PyData} (h : EvD ta σ G K ds) (hl : ds.length ≤ 1000) : EvR (tLst ta) σ G (isD K (.list ds)) := fun H e Q q =>
  h H e _ fun vs G1 H1 g1 r1 => ⟨Nat.le_of_lt (small1000 (by rw [dpall_len r1]; exact hl)), fun p hp => q (.ref p) (upd G1 p (.lst vs)) _ (g1.trans (Gw.new g1.gh hp)) (.lst (SqL.of upd_same) (dpall_mono (same_new (g1.gh.free hp)) _ _ r1))⟩

/-! items -/
theorem dpall_at : ∀ {vs : List V} {ds : List PyData} {n : Nat} {d : PyData}, DpAll K G vs ds → ds[n]? = some d → ∃ v, vs[n]? = some v ∧ Dp K G v d
  | _, _, _, _, .nil, h => by simp at h
  | _, _, 0, _, .cons (v := v) h1 _, h => by
    simp at h; subst h
    exact ⟨v, rfl, h1⟩
  | _, _, n + 1, _, .cons _ h2, h => by
    obtain ⟨v, e, r⟩ := dpall_at (n := n) h2 (by simpa using h)
    exact ⟨v, by simpa using e, r⟩
theorem dpall_of : ∀ {vs : List V} {ds : List PyData} {n : Nat} {v : V}, DpAll K G vs ds → vs[n]? = some v → ∃ d, ds[n]? = some d ∧ Dp K G v d
  | _, _, _, _, .nil, h => by simp at h
  | _, _, 0, _, .cons (d := d) h1 _, h => by
    simp at h; subst h
    exact ⟨d, rfl, h1⟩
  | _, _, n + 1, _, .cons _ h2, h => by
    obtain ⟨d, e, r⟩ := dpall_of (n := n) h2 (by simpa using h)
    exact ⟨d, by simpa using e, r⟩
theorem dpall_atI {vs : List V} {ds : List PyData} (r : DpAll K G vs ds) (h : atI ds i = some d) : ∃ v, atI vs i = some v ∧ Dp K G v d := by
  unfold atI at h ⊢
  rw [dpall_len r]
  cases e : ixN ds.length i with
  | none => rw [e] at h; cases h
  | some n =>
    rw [e] at h
    exact dpall_at r h
theorem ev_ixL {ds : List PyData} (h : atI ds i = some d) (ha : EvR ta σ G (isD K (.list ds))) (hb : EvR tb σ G (isD K (.int i))) : EvR (tOp (rIxL K) ta tb) σ G (isD K d) :=
  ev_op mn_isD mn_isD ha hb fun v w G' _ r1 r2 H k Q q => by
    cases r2
    cases r1 with
    | lst hs hd =>
      obtain ⟨z, e, r⟩ := dpall_atI hd h
      exact ⟨_, _, _, z, rfl, rfl, k.seq hs, e, q z G' H (Gw.refl k) r⟩
theorem ev_ixT {ds : List PyData} (h : atI ds i = some d) (ha : EvR ta σ G (isD K (.tuple ds))) (hb : EvR tb σ G (isD K (.int i))) : EvR (tOp (rIxT K) ta tb) σ G (isD K d) :=
  ev_op mn_isD mn_isD ha hb fun v w G' _ r1 r2 H k Q q => by
    cases r2
    cases r1 with
    | tup hs hd =>
      obtain ⟨z, e, r⟩ := dpall_atI hd h
      exact ⟨_, _, _, z, rfl, rfl, same_t k hs, e, q z G' H (Gw.refl k) r⟩

/-! built-ins of one argument -/
theorem ev_cb1 {r : List V → Hp → VK → Prop} (m : Mn R) (ha : EvR ta σ G R) (hr : ∀ x G', Same G G' → R x G' → ∀ H, Same G' H → ∀ Q : VK, (∀ z G'' H', Gw [] G' H G'' H' → S z G'' → Q z H') → r [x] H Q) : EvR (tCB r (tCons ta tNil)) σ G S := fun H e Q q =>
  ha H e _ fun x G1 H1 g1 r1 => hr x G1 g1.gg r1 H1 g1.gh Q fun z G2 H2 g2 s => q z G2 H2 (g1.trans g2) s
abbrev rLenS (K : PySem.W.Frag) : List V → Hp → VK → Prop := fun xs H Q => ∃ x n, xs = [x] ∧ LenV K x H n ∧ Q (.int n) H
theorem ev_lenL {ds : List PyData} (ha : EvR ta σ G (isD K (.list ds))) : EvR (tCB (rLenS K) (tCons ta tNil)) σ G (isD K (.int (ds.length : Nat))) := ev_cb1 mn_isD ha fun x G' _ r H e Q q => by
  cases r with
  | lst hs hd => exact ⟨_, ds.length, rfl, .inl ⟨_, e.seq hs, (dpall_len hd).symm⟩, q _ G' H (Gw.refl e) (.int _)⟩
theorem ev_lenT {ds : List PyData} (ha : EvR ta σ G (isD K (.tuple ds))) : EvR (tCB (rLenS K) (tCons ta tNil)) σ G (isD K (.int (ds.length : Nat))) := ev_cb1 mn_isD ha fun x G' _ r H e Q q => by
  cases r with
  | tup hs hd => exact ⟨_, ds.length, rfl, .inr ⟨_, same_t e hs, (dpall_len hd).symm⟩, q _ G' H (Gw.refl e) (.int _)⟩
theorem dp_bools : ∀ {bs : List Bool} {vs : List V}, DpAll K G vs (bs.map PyData.bool) → vs = bs.map V.bl
  | [], _, h => by cases h; rfl
  | b :: bs, _, h => by
    cases h with
    | cons h1 h2 => cases h1; rw [dp_bools h2]; rfl
theorem ev_all {bs : List Bool} (ha : EvR ta σ G (isD K (.list (bs.map PyData.bool)))) : EvR (tCB (rAll K) (tCons ta tNil)) σ G (isD K (.bool (bs.all id))) := ev_cb1 mn_isD ha fun x G' _ r H e Q q => by
  cases r with
  | lst hs hd =>
    rw [dp_bools hd] at hs
    exact ⟨_, bs, rfl, e.seq hs, q _ G' H (Gw.refl e) (.bl _)⟩
theorem ev_any {bs : List Bool} (ha : EvR ta σ G (isD K (.list (bs.map PyData.bool)))) : EvR (tCB (rAny K) (tCons ta tNil)) σ G (isD K (.bool (bs.any id))) := ev_cb1 mn_isD ha fun x G' _ r H e Q q => by
  cases r with
  | lst hs hd =>
    rw [dp_bools hd] at hs
    exact ⟨_, bs, rfl, e.seq hs, q _ G' H (Gw.refl e) (.bl _)⟩
end
end Sky

namespace Sky
open PySem PySem.Spec PyProof.Rows L2

/-! ### promises of defs that change nothing -/
def spP {α : Type} (Ps : α → List VP) (pre : α → Prop) (R : α → VP) : Sp := fun vs H Q _ => ∃ (x : α) (G : Hp), Same G H ∧ All2 (Ps x) vs G ∧ pre x ∧ ∀ v G' H', Gw [] G H G' H' → R x v G' → Q v H'
theorem all2_len {Rs : List VP} : ∀ {vs : List V} {G : Hp}, All2 Rs vs G → vs.length = Rs.length := by
  induction Rs with
  | nil => intro vs G h; cases h; rfl
  | cons R Rs ih => intro vs G h; cases h with | cons h1 h2 => rw [List.length_cons, List.length_cons, ih h2]
/-- an instance whose attributes are as F says -/
def isO (C : Addr) (F : List (Str × V) → Hp → Prop) : VP := fun v G => ∃ p dx fs, v = .ref p ∧ G p = some (.ins C dx fs) ∧ F fs G
def MnF (F : List (Str × V) → Hp → Prop) : Prop := ∀ fs G G', Same G G' → F fs G → F fs G'
theorem mn_isO {C : Addr} {F : List (Str × V) → Hp → Prop} (m : MnF F) : Mn (isO C F) := fun v G G' e ⟨p, dx, fs, h1, h2, h3⟩ => ⟨p, dx, fs, h1, e _ _ h2, m _ _ _ e h3⟩
/-- __init__ -/
def spI {α : Type} (C : Addr) (Ps : α → List VP) (pre : α → Prop) (F : α → List (Str × V) → Hp → Prop) : Sp := fun vs H Q _ => ∃ (x : α) (G : Hp) (p dx : Addr) (ws : List V), vs = .ref p :: ws ∧ Same G H ∧ G p = none ∧ H p = some (.ins C dx []) ∧ All2 (Ps x) ws G ∧ pre x ∧
  ∀ G' H' fs, Gw [p] G H G' H' → H' p = some (.ins C dx fs) → F x fs G' → Q .non H'
section
variable {K : PySem.W.Frag} {σ : L2.St} {G G1 H : Hp} {ta tb te : TE} {t : TA} {R S R0 : VP} {E : XK} {C : Addr} {m : Str}
theorem ev_call {α : Type} {Ps : α → List VP} {pre : α → Prop} {Rr : α → VP} (x : α) (ha : EvA t σ G (Ps x)) (hp : pre x) : EvR (tCall (spP Ps pre Rr) [] E t) σ G (Rr x) := fun H e Q q =>
  ha.2 H e _ fun vs G1 H1 g1 r1 => ⟨x, G1, g1.gh, by rw [List.append_nil]; exact r1, hp, fun v G2 H2 g2 r => q v G2 H2 (g1.trans g2) r⟩
theorem ev_meth {α : Type} {Ps : α → List VP} {pre : α → Prop} {Rr : α → VP} {Rs : List VP} (x : α) (hx : Ps x = R0 :: Rs) (m0 : Mn R0) (h0 : ∀ v G, R0 v G → ∃ a dx fs, v = .ref a ∧ G a = some (.ins C dx fs) ∧ fs.lookup m = none)
    (hr : EvR ta σ G R0) (ha : EvA t σ G Rs) (hp : pre x) : EvR (tMeth C m (spP Ps pre Rr) [] E ta t) σ G (Rr x) := fun H e Q q =>
  hr H e _ fun v G1 H1 g1 r1 => by
    obtain ⟨a, dx, fs, rfl, hG, hl⟩ := h0 v G1 r1
    exact ⟨a, dx, fs, rfl, g1.gh _ _ hG, hl, (ha.mono g1.gg).2 H1 g1.gh _ fun vs G2 H2 g2 r2 => ⟨x, G2, g2.gh, by rw [hx, List.append_nil]; exact .cons (m0 _ _ _ g2.gg r1) r2, hp, fun v G3 H3 g3 r => q v G3 H3 ((g1.trans g2).trans g3) r⟩⟩
theorem ev_make {α : Type} {Ps : α → List VP} {pre : α → Prop} {F : α → List (Str × V) → Hp → Prop} (x : α) (hF : MnF (F x)) (ha : EvA t σ G (Ps x)) (hp : pre x) : EvR (tMake C (spI C Ps pre F) [] E t) σ G (isO C (F x)) := fun H e Q q =>
  ha.2 H e _ fun vs G1 H1 g1 r1 => fun y dx hy hdx hne => by
    have e2 : Same G1 (upd H1 dx (.own y)) := g1.gh.trans (same_new hdx)
    have hy2 : (upd H1 dx (.own y)) y = none := by rw [upd_ne (Ne.symm hne)]; exact hy
    have ga : Gw [] G1 H1 G1 (upd (upd H1 dx (.own y)) y (.ins C dx [])) := (Gw.lay g1.gh hdx).trans (Gw.lay e2 hy2)
    refine ⟨x, G1, y, dx, vs, by rw [List.append_nil], ga.gh, g1.gh.free hy, upd_same, r1, hp, fun G2 H2 fs g2 h2 f => ⟨rfl, ?_⟩⟩
    have gb : Gw [y] G1 H1 G2 H2 := ga.weak.trans g2
    have gc : Gw [] G1 H1 (upd G2 y (.ins C dx fs)) H2 := gb.fix g1.gh hy h2
    have n2 : G2 y = none := g2.out (g1.gh.free hy) upd_same
    exact q _ _ H2 (g1.trans gc) ⟨y, dx, fs, rfl, upd_same, hF _ _ _ (same_new n2) f⟩
theorem ev_fld {f : Str} (hc : Cls K C) (hn : NoAttr K C f) (hr : EvR ta σ G R0) (h0 : ∀ v G, R0 v G → ∃ a dx fs w, v = .ref a ∧ G a = some (.ins C dx fs) ∧ fs.lookup f = some w ∧ R w G) : EvR (tFld K ta f) σ G R := fun H e Q q =>
  hr H e _ fun v G1 H1 g1 r1 => by
    obtain ⟨a, dx, fs, w, rfl, hG, hl, r⟩ := h0 v G1 r1
    exact ⟨a, C, dx, fs, w, rfl, g1.gh _ _ hG, hc, hn, hl, q w G1 H1 g1 r⟩

/-! ### comprehensions whose element changes nothing -/
theorem dpall_app {vs ws : List V} {ds es : List PyData} (h : DpAll K G vs ds) (h2 : DpAll K G ws es) : DpAll K G (vs ++ ws) (ds ++ es) := by
  induction vs generalizing ds with
  | nil => cases h; exact h2
  | cons v vs ih =>
    cases h with
    | cons a b => exact .cons a (ih b)
theorem take_snoc {α : Type} {l : List α} {i : Nat} {x : α} (h : l[i]? = some x) : l.take (i + 1) = l.take i ++ [x] := by
  rw [List.take_add_one, h]
  rfl
theorem take_none {α : Type} {l : List (Option α)} {i : Nat} (h : l[i]? = some none) : (l.take (i + 1)).filterMap id = (l.take i).filterMap id := by
  rw [take_snoc h, List.filterMap_append]
  simp
theorem take_some {α : Type} {l : List (Option α)} {i : Nat} {x : α} (h : l[i]? = some (some x)) : (l.take (i + 1)).filterMap id = (l.take i).filterMap id ++ [x] := by
  rw [take_snoc h, List.filterMap_append]
  simp
theorem len_take_fm {α : Type} (l : List (Option α)) (i : Nat) : ((l.take i).filterMap id).length ≤ i := by
  refine Nat.le_trans (List.length_filterMap_le _ _) ?_
  rw [List.length_take]
  exact Nat.min_le_left _ _
/-- over a walk J that reads what stands: the i-th turn gives what es says (none: left out) -/
theorem lcR {J : It} {n : Nat} {Gd : Hp → Prop} {Y : Nat → Hp → V → Hp → Prop} {g : TG} {tt : TT} {te : TE} {vs : List Nat} {G H1 : Hp} {D : Addr} {Q : Hp → Prop} (w : Walk J n Gd Y) (es : List (Option PyData)) (hn : es.length = n) (e : Same G H1) (hD : H1 D = none) (hz : n ≤ 1000)
    (hG : ∀ H, Same G H → Gd H)
    (hs : ∀ i x o G' H H', es[i]? = some o → Same G G' → Same G' H → Y i H x H' → ∃ σ2 G2, Gw [] G' H G2 H' ∧ (∀ Q' : L2.St → Hp → Prop, Q' σ2 H' → g x (wipe σ vs) H' Q') ∧ wipe σ2 vs = wipe σ vs ∧ EvT tt σ2 G2 o.isSome ∧ ∀ d, o = some d → EvR te σ2 G2 (isD K d))
    (hd : ∀ xs G' H', Gw [D] G H1 G' H' → G' D = none → H' D = some (.lst xs) → DpAll K G' xs (es.filterMap id) → Q H') :
    ∃ W : Nat → Nat → Hp → Prop, (∃ m, W 0 m (upd H1 D (.lst []))) ∧ ∀ i m H, W i m H →
      (J.stop i H ∧ Q H) ∨ (J.go i H ∧ ∃ Nx : Hp → Prop, (∀ H', Nx H' → ∃ m', m' < m ∧ W (i + 1) m' H') ∧ ∀ x H', J.yld i H x H' → g x (wipe σ vs) H' fun σ2 H2 => wipe σ2 vs = wipe σ vs ∧ tt σ2 H2 fun b H3 =>
        if b = true then te σ2 H3 fun y H4 => ∃ acc, H4 D = some (.lst acc) ∧ acc.length < sizeLine ∧ Nx (upd H4 D (.lst (acc ++ [y]))) else Nx H3) := by
  subst hn
  have hgD : G D = none := e.free hD
  refine lc_it w (fun i H => ∃ G' xs, Gw [D] G (upd H1 D (.lst [])) G' H ∧ H D = some (.lst xs) ∧ DpAll K G' xs ((es.take i).filterMap id)) ⟨G, [], Gw.refl (e.trans (same_new hD)), upd_same, by simpa using DpAll.nil⟩
    (fun i H _ ⟨G', xs, g, _, _⟩ => hG H (g.gg.trans g.gh)) ?_ (fun H ⟨G', xs, g, h1, h2⟩ => hd xs G' H ((Gw.lay e hD).weak.trans g) (g.out hgD upd_same) h1 (by simpa using h2))
  rintro i x H H' hi ⟨G', xs, gw, hx, hxs⟩ hy
  have hgD' : G' D = none := gw.out hgD upd_same
  obtain ⟨o, ho⟩ : ∃ o, es[i]? = some o := ⟨es[i], List.getElem?_eq_getElem hi⟩
  obtain ⟨σ2, G2, g2, hg, hw, ht, he⟩ := hs i x o G' H H' ho gw.gg gw.gh hy
  refine hg _ ⟨hw, ht H' g2.gh _ fun G3 H3 g3 => ?_⟩
  have g23 := g2.trans g3
  cases o with
  | none =>
    refine iteF ⟨G3, xs, gw.trans g23.weak, g23.hh _ _ hx (by simp), ?_⟩
    rw [take_none ho]
    exact dpall_mono g23.gg _ _ hxs
  | some d =>
    refine iteT ((he d rfl).mono mn_isD g3.gg H3 g3.gh _ fun y G4 H4 g4 r4 => ?_)
    have g24 := g23.trans g4
    have hD4 : H4 D = some (.lst xs) := g24.hh _ _ hx (by simp)
    have hl : xs.length ≤ 1000 := by
      rw [dpall_len hxs]
      exact Nat.le_trans (len_take_fm es i) (Nat.le_trans (Nat.le_of_lt hi) hz)
    refine ⟨xs, hD4, small1000 hl, G4, xs ++ [y], (gw.trans g24.weak).trans (Gw.put g24.gh (g24.out hgD' hx) (by simp)), upd_same, ?_⟩
    rw [take_some ho]
    exact dpall_app (dpall_mono g24.gg _ _ hxs) (.cons r4 .nil)
theorem et_yes : EvT tYes σ G true := fun H e Q q => q G H (Gw.refl e)
theorem fm_map {α β : Type} (f : α → β) (l : List α) : (l.map fun x => some (f x)).filterMap id = l.map f := by
  induction l with
  | nil => rfl
  | cons a l ih => simp [ih]
/-- [f(x) for x in a list that stands] -/
theorem ev_lcSq {tl : TE} {j : Nat} {vs : List Nat} {xs : List V} (es : List PyData) (hx : ∀ v G', R v G' → ∃ a, v = .ref a ∧ SqL K G' a xs) (hl : es.length = xs.length) (hz : xs.length ≤ 1000) (h : EvR tl σ G R)
    (hw : ∀ x, wipe ((wipe σ vs).set j (some x)) vs = wipe σ vs) (he : ∀ (i : Nat) (x : V) (d : PyData) G1, Same G G1 → xs[i]? = some x → es[i]? = some d → EvR te ((wipe σ vs).set j (some x)) G1 (isD K d)) :
    EvR (tLc (iList K tl) (gName j) tYes te vs) σ G (isD K (.list es)) := fun H e Q q => h H e _ fun v G1 H1 g1 r1 => by
  obtain ⟨a, rfl, hs⟩ := hx v G1 r1
  refine ⟨a, rfl, ⟨xs, g1.gh.seq hs⟩, fun D hD => ?_⟩
  refine lcR (K := K) (walk_list (K := K) (a := a) (xs := xs)) (es.map some) (by simp [hl]) g1.gh hD hz (fun H2 e2 => e2.seq hs) ?_ fun ys G' H' g2 hg2 hD' hy => ?_
  · rintro i x o G' H2 H3 ho e1 e2 ⟨rfl, hi⟩
    rw [List.getElem?_map] at ho
    cases hd : es[i]? with
    | none => rw [hd] at ho; cases ho
    | some d =>
      rw [hd] at ho
      cases ho
      exact ⟨(wipe σ vs).set j (some x), G', Gw.refl e2, fun Q' q' => q', hw x, et_yes, fun d' hd' => by cases hd'; exact he i x d G' (g1.gg.trans e1) hi hd⟩
  · rw [show (es.map some).filterMap id = es by simp] at hy
    have g3 := g2.fix g1.gh hD hD'
    exact q (.ref D) _ H' (g1.trans g3) (.lst (SqL.of upd_same) (dpall_mono (same_new hg2) _ _ hy))
/-- [f(x) for x in xs], xs data -/
theorem ev_lc {tl : TE} {j : Nat} {vs : List Nat} {ds : List PyData} (f : PyData → PyData) (h : EvR tl σ G (isD K (.list ds))) (hz : ds.length ≤ 1000)
    (hw : ∀ x, wipe ((wipe σ vs).set j (some x)) vs = wipe σ vs) (he : ∀ (x : V) (d : PyData) G1, Same G G1 → d ∈ ds → Dp K G1 x d → EvR te ((wipe σ vs).set j (some x)) G1 (isD K (f d))) :
    EvR (tLc (iList K tl) (gName j) tYes te vs) σ G (isD K (.list (ds.map f))) := fun H e Q q => h H e _ fun v G1 H1 g1 r1 => by
  cases r1 with
  | @lst a xs _ hs hd =>
  refine ⟨a, rfl, ⟨xs, g1.gh.seq hs⟩, fun D hD => ?_⟩
  refine lcR (K := K) (walk_list (K := K) (a := a) (xs := xs)) (ds.map fun d => some (f d)) (by simp [dpall_len hd]) g1.gh hD (by rw [dpall_len hd]; exact hz) (fun H2 e2 => e2.seq hs) ?_ fun ys G' H' g2 hg2 hD' hy => ?_
  · rintro i x o G' H2 H3 ho e1 e2 ⟨rfl, hi⟩
    obtain ⟨d, h1, h2⟩ := dpall_of hd hi
    rw [List.getElem?_map, h1] at ho
    cases ho
    exact ⟨(wipe σ vs).set j (some x), G', Gw.refl e2, fun Q' q' => q', hw x, et_yes, fun d' hd' => by cases hd'; exact he x d G' (g1.gg.trans e1) (List.mem_of_getElem? h1) (dp_mono e1 _ _ h2)⟩
  · rw [fm_map] at hy
    have g3 := g2.fix g1.gh hD hD'
    exact q (.ref D) _ H' (g1.trans g3) (.lst (SqL.of upd_same) (dpall_mono (same_new hg2) _ _ hy))
/-- over a tuple -/
theorem ev_lcT {tl : TE} {j : Nat} {vs : List Nat} {ds : List PyData} (f : PyData → PyData) (h : EvR tl σ G (isD K (.tuple ds))) (hz : ds.length ≤ 1000)
    (hw : ∀ x, wipe ((wipe σ vs).set j (some x)) vs = wipe σ vs) (he : ∀ (x : V) (d : PyData) G1, Same G G1 → d ∈ ds → Dp K G1 x d → EvR te ((wipe σ vs).set j (some x)) G1 (isD K (f d))) :
    EvR (tLc (iTup K tl) (gName j) tYes te vs) σ G (isD K (.list (ds.map f))) := fun H e Q q => h H e _ fun v G1 H1 g1 r1 => by
  cases r1 with
  | @tup a xs _ hs hd =>
  refine ⟨a, rfl, ⟨xs, same_t g1.gh hs⟩, fun D hD => ?_⟩
  refine lcR (K := K) (walk_tup (K := K) (a := a) (xs := xs)) (ds.map fun d => some (f d)) (by simp [dpall_len hd]) g1.gh hD (by rw [dpall_len hd]; exact hz) (fun H2 e2 => same_t e2 hs) ?_ fun ys G' H' g2 hg2 hD' hy => ?_
  · rintro i x o G' H2 H3 ho e1 e2 ⟨rfl, hi⟩
    obtain ⟨d, h1, h2⟩ := dpall_of hd hi
    rw [List.getElem?_map, h1] at ho
    cases ho
    exact ⟨(wipe σ vs).set j (some x), G', Gw.refl e2, fun Q' q' => q', hw x, et_yes, fun d' hd' => by cases hd'; exact he x d G' (g1.gg.trans e1) (List.mem_of_getElem? h1) (dp_mono e1 _ _ h2)⟩
  · rw [fm_map] at hy
    have g3 := g2.fix g1.gh hD hD'
    exact q (.ref D) _ H' (g1.trans g3) (.lst (SqL.of upd_same) (dpall_mono (same_new hg2) _ _ hy))
/-- over range(lo, hi) -/
theorem ev_lcR2 {ta : TA} {j : Nat} {vs : List Nat} {lo hi : Int} (f : Int → PyData) (h : EvD ta σ G K [.int lo, .int hi]) (hb : -(2 ^ 62) ≤ lo ∧ lo < 2 ^ 62 ∧ -(2 ^ 62) ≤ hi ∧ hi < 2 ^ 62) (hz : (hi - lo).toNat ≤ 1000)
    (hw : ∀ x, wipe ((wipe σ vs).set j (some x)) vs = wipe σ vs) (he : ∀ (k : Int) G1, Same G G1 → lo ≤ k → k < hi → EvR te ((wipe σ vs).set j (some (.int k))) G1 (isD K (f k))) :
    EvR (tLc (iRng2 ta) (gName j) tYes te vs) σ G (isD K (.list ((List.range (hi - lo).toNat).map fun i => f (lo + (i : Nat))))) := fun H e Q q => h H e _ fun ws G1 H1 g1 r1 => by
  cases r1 with
  | cons a1 r1 =>
  cases r1 with
  | cons a2 r1 =>
  cases r1
  cases a1; cases a2
  refine ⟨lo, hi, rfl, hb, fun D hD => ?_⟩
  refine lcR (K := K) (walk_range (lo := lo) (n := (hi - lo).toNat)) ((List.range (hi - lo).toNat).map fun i => some (f (lo + (i : Nat)))) (by simp) g1.gh hD hz (fun H2 e2 => trivial) ?_ fun ys G' H' g2 hg2 hD' hy => ?_
  · rintro i x o G' H2 H3 ho e1 e2 ⟨rfl, rfl⟩
    rw [List.getElem?_map] at ho
    cases hr : (List.range (hi - lo).toNat)[i]? with
    | none => rw [hr] at ho; cases ho
    | some k =>
      rw [hr] at ho
      cases ho
      have hk := List.getElem?_eq_some_iff.mp hr
      obtain ⟨hk1, hk2⟩ := hk
      rw [List.length_range] at hk1
      rw [List.getElem_range] at hk2
      subst hk2
      exact ⟨(wipe σ vs).set j (some (.int (lo + (i : Nat)))), G', Gw.refl e2, fun Q' q' => q', hw _, et_yes, fun d' hd' => by cases hd'; exact he (lo + (i : Nat)) G' (g1.gg.trans e1) (by omega) (by omega)⟩
  · rw [fm_map] at hy
    have g3 := g2.fix g1.gh hD hD'
    exact q (.ref D) _ H' (g1.trans g3) (.lst (SqL.of upd_same) (dpall_mono (same_new hg2) _ _ hy))
end
/-! ### statements -/
section
variable {K : PySem.W.Frag} {σ : L2.St} {G G1 H : Hp} {ta tb te : TE} {t u : TT} {R : VP} {b : Bool} {D : Ends} {ts tu tw tz : TS} {i : Nat} {ds : List PyData}
theorem s_set (e : Same G H) (h : EvR te σ G R) (k : ∀ v G' H', Gw [] G H G' H' → R v G' → D.nx (σ.set i (some v)) H') : tAsg te (gName i) D σ H := h H e _ k
theorem q_set (e : Same G H) (h : EvR te σ G R) (k : ∀ v G' H', Gw [] G H G' H' → R v G' → tz D (σ.set i (some v)) H') : tSeq (tAsg te (gName i)) tz D σ H := h H e _ k
theorem s_ret (e : Same G H) (h : EvR te σ G R) (k : ∀ v G' H', Gw [] G H G' H' → R v G' → D.rt v H') : tRet te D σ H := h H e _ k
theorem s_drop (e : Same G H) (h : EvR te σ G R) (k : ∀ v G' H', Gw [] G H G' H' → R v G' → D.nx σ H') : tDrop te D σ H := h H e _ k
theorem q_drop (e : Same G H) (h : EvR te σ G R) (k : ∀ v G' H', Gw [] G H G' H' → R v G' → tz D σ H') : tSeq (tDrop te) tz D σ H := h H e _ k
theorem s_if (e : Same G H) (h : EvT t σ G b) (h1 : b = true → ∀ G' H', Gw [] G H G' H' → tu D σ H') (h2 : b = false → ∀ G' H', Gw [] G H G' H' → tw D σ H') : tIfS t tu tw D σ H := h H e _ fun G' H' g => by
  cases b with
  | true => exact iteT (h1 rfl G' H' g)
  | false => exact iteF (h2 rfl G' H' g)
theorem q_if (e : Same G H) (h : EvT t σ G b) (h1 : b = true → ∀ G' H', Gw [] G H G' H' → tu { D with nx := tz D } σ H') (h2 : b = false → ∀ G' H', Gw [] G H G' H' → tw { D with nx := tz D } σ H') : tSeq (tIfS t tu tw) tz D σ H := s_if (D := { D with nx := tz D }) e h h1 h2
/-- an if whose test comes out false -/
theorem q_no (e : Same G H) (h : EvT t σ G false) (h2 : ∀ G' H', Gw [] G H G' H' → tz D σ H') : tSeq (tIfS t tu tNext) tz D σ H := q_if e h (fun z => by cases z) (fun _ G' H' g => h2 G' H' g)
theorem s_no (e : Same G H) (h : EvT t σ G false) (h2 : ∀ G' H', Gw [] G H G' H' → D.nx σ H') : tIfS t tu tNext D σ H := s_if e h (fun z => by cases z) (fun _ G' H' g => h2 G' H' g)
theorem q_yes (e : Same G H) (h : EvT t σ G true) (h2 : ∀ G' H', Gw [] G H G' H' → tu { D with nx := tz D } σ H') : tSeq (tIfS t tu tw) tz D σ H := q_if e h (fun _ G' H' g => h2 G' H' g) (fun z => by cases z)
theorem s_yes (e : Same G H) (h : EvT t σ G true) (h2 : ∀ G' H', Gw [] G H G' H' → tu D σ H') : tIfS t tu tw D σ H := s_if e h (fun _ G' H' g => h2 G' H' g) (fun z => by cases z)
/-- a, b, .. = a tuple -/
theorem g_tup {n : Nat} {t : TGs} {v : V} {Q : L2.St → Hp → Prop} (e : Same G H) (h : Dp K G v (.tuple ds)) (hn : ds.length = n) (k : ∀ xs, DpAll K G xs ds → t xs σ H Q) : gTup K n t v σ H Q := by
  cases h with
  | @tup a xs _ hs hd => exact ⟨a, xs, rfl, same_t e hs, by rw [dpall_len hd]; exact hn, k xs hd⟩
theorem g_cons {t : TG} {u : TGs} {v : V} {r : List V} {Q : L2.St → Hp → Prop} (k : t v σ H fun σ' H' => u r σ' H' Q) : gCons t u (v :: r) σ H Q := ⟨v, r, rfl, k⟩
theorem g_nil {Q : L2.St → Hp → Prop} (k : Q σ H) : gNil [] σ H Q := ⟨rfl, k⟩
/-- x = [] (it will change: M) -/
theorem q_new (hs : tz = tz := rfl) (k : ∀ p, H p = none → tz D (σ.set i (some (.ref p))) (upd H p (.lst []))) : tSeq (tAsg (tLst tNil) (gName i)) tz D σ H := ⟨Nat.zero_le _, k⟩
/-- xs.append(e), xs a list that may change -/
theorem s_app {l : Addr} {xs : List V} (e : Same G H) (hl : H l = some (.lst xs)) (ha : EvR ta σ G (fun v _ => v = .ref l)) (h : EvR te σ G R) (hR : Mn R) (hz : xs.length ≤ 1000)
    (k : ∀ v G' H', Gw [] G H G' H' → R v G' → H' l = some (.lst xs) → D.nx σ (upd H' l (.lst (xs ++ [v])))) : tDrop (tBM K "list" rAppend ta (tCons te tNil)) D σ H :=
  ha H e _ fun v G1 H1 g1 r1 => by
    subst r1
    have h1 : H1 l = some (.lst xs) := g1.hh _ _ hl (by simp)
    refine ⟨.inl ⟨rfl, _, SqL.of h1⟩, (h.mono hR g1.gg) H1 g1.gh _ fun w G2 H2 g2 r2 => ?_⟩
    have h2 : H2 l = some (.lst xs) := g2.hh _ _ h1 (by simp)
    exact ⟨l, xs, w, rfl, rfl, h2, small1000 hz, k w G2 H2 (g1.trans g2) r2 h2⟩
theorem q_app {l : Addr} {xs : List V} (e : Same G H) (hl : H l = some (.lst xs)) (ha : EvR ta σ G (fun v _ => v = .ref l)) (h : EvR te σ G R) (hR : Mn R) (hz : xs.length ≤ 1000)
    (k : ∀ v G' H', Gw [] G H G' H' → R v G' → H' l = some (.lst xs) → tz D σ (upd H' l (.lst (xs ++ [v])))) : tSeq (tDrop (tBM K "list" rAppend ta (tCons te tNil))) tz D σ H := s_app (D := { D with nx := tz D }) e hl ha h hR hz k
/-- self.f = e -/
theorem s_fldSet {C : Addr} {f : Str} {p dx : Addr} {fs : List (Str × V)} (e : Same G H) (hp : H p = some (.ins C dx fs)) (hc : Cls K C) (hn : NoAttr K C f) (hl : fs.length < 1000) (hv : EvR te σ G R) (ho : EvR ta σ G (fun v _ => v = .ref p))
    (k : ∀ v G' H', Gw [] G H G' H' → (∃ G0, Same G0 G' ∧ R v G0) → H' p = some (.ins C dx fs) → D.nx σ (upd H' p (.ins C dx (putF f v fs)))) : sFld K ta te f D σ H :=
  hv H e _ fun v G1 H1 g1 r1 => (ho.mono (fun _ _ _ _ h => h) g1.gg) H1 g1.gh _ fun w G2 H2 g2 r2 => by
    subst r2
    have h2 : H2 p = some (.ins C dx fs) := (g1.trans g2).hh _ _ hp (by simp)
    exact ⟨p, C, dx, fs, rfl, h2, hc, hn, hl, k v G2 H2 (g1.trans g2) ⟨G1, g2.gg, r1⟩ h2⟩
theorem q_fldSet {C : Addr} {f : Str} {p dx : Addr} {fs : List (Str × V)} (e : Same G H) (hp : H p = some (.ins C dx fs)) (hc : Cls K C) (hn : NoAttr K C f) (hl : fs.length < 1000) (hR : Mn R) (hv : EvR te σ G R) (ho : EvR ta σ G (fun v _ => v = .ref p))
    (k : ∀ v G' H', Gw [] G H G' H' → R v G' → H' p = some (.ins C dx fs) → tz D σ (upd H' p (.ins C dx (putF f v fs)))) : tSeq (sFld K ta te f) tz D σ H :=
  s_fldSet (D := { D with nx := tz D }) e hp hc hn hl hv ho fun v G' H' g ⟨G0, a, b⟩ h => k v G' H' g (hR _ _ _ a b) h
/-- for x in a walk; what the loop keeps is I: turn, slots, G, H -/
theorem s_walk {J : It} {n : Nat} {Gd : Hp → Prop} {Y : Nat → Hp → V → Hp → Prop} {g : TG} {tb : TS} (w : Walk J n Gd Y) (I : Nat → L2.St → Hp → Hp → Prop) (h0 : I 0 σ G H) (e : Same G H) (hG : ∀ H, Same G H → Gd H)
    (hs : ∀ i x σ' G' H' H'', i < n → Same G G' → Same G' H' → I i σ' G' H' → Y i H' x H'' → g x σ' H'' fun σ2 H2 => tb { D with nx := fun σ3 H3 => ∃ G3, Same G G3 ∧ Same G3 H3 ∧ I (i + 1) σ3 G3 H3, ct := fun σ3 H3 => ∃ G3, Same G G3 ∧ Same G3 H3 ∧ I (i + 1) σ3 G3 H3, bk := D.nx } σ2 H2)
    (hd : ∀ σ' G' H', Same G G' → Same G' H' → I n σ' G' H' → D.nx σ' H') :
    ∃ W : Nat → Nat → L2.St → Hp → Prop, (∃ m, W 0 m σ H) ∧ ∀ i m σ H, W i m σ H →
      (J.stop i H ∧ D.nx σ H) ∨ (J.go i H ∧ ∃ N : L2.St → Hp → Prop, (∀ σ' H', N σ' H' → ∃ m', m' < m ∧ W (i + 1) m' σ' H') ∧ ∀ x H', J.yld i H x H' → g x σ H' fun σ2 H2 => tb { D with nx := N, ct := N, bk := D.nx } σ2 H2) :=
  for_it w (fun i σ' H' => ∃ G', Same G G' ∧ Same G' H' ∧ I i σ' G' H') ⟨G, fun _ _ h => h, e, h0⟩ (fun i σ' H' _ ⟨G', a, b, _⟩ => hG H' (a.trans b))
    (fun i x σ' H' H'' hi ⟨G', a, b, c⟩ y => hs i x σ' G' H' H'' hi a b c y) fun σ' H' ⟨G', a, b, c⟩ => hd σ' G' H' a b c
end
end Sky

namespace Sky
open PySem PySem.Spec PyProof.Rows L2

theorem dpm {K : PySem.W.Frag} {G G' : Hp} {v : V} {d : PyData} (e : Same G G') (h : Dp K G v d) : Dp K G' v d := dp_mono e d v h
theorem ev_varD {K : PySem.W.Frag} {σ : L2.St} {G : Hp} {d : PyData} {i : Nat} {v : V} (h : σ[i]? = some (some v)) (r : Dp K G v d) : EvR (tVar i) σ G (isD K d) := ev_var h r
/-- a promise over data: the arguments a list of data, f of them handed back -/
def spD (K : PySem.W.Frag) (pre : List PyData → Prop) (f : List PyData → PyData) : Sp := fun vs H Q _ => ∃ (ds : List PyData) (G : Hp), Same G H ∧ DpAll K G vs ds ∧ pre ds ∧ ∀ v G' H', Gw [] G H G' H' → Dp K G' v (f ds) → Q v H'
section
variable {K : PySem.W.Frag} {σ : L2.St} {G G1 H : Hp} {ta tb te : TE} {t : TA} {R S R0 : VP} {E : XK} {C : Addr} {m : Str} {d : PyData} {ds : List PyData}
theorem ev_callD {pre : List PyData → Prop} {f : List PyData → PyData} (ha : EvD t σ G K ds) (hp : pre ds) : EvR (tCall (spD K pre f) [] E t) σ G (isD K (f ds)) := fun H e Q q =>
  ha H e _ fun vs G1 H1 g1 r1 => ⟨ds, G1, g1.gh, by rw [List.append_nil]; exact r1, hp, fun v G2 H2 g2 r => q v G2 H2 (g1.trans g2) r⟩

/-! ### isinstance -/
def tyN : PyData → String
  | .none => "NoneType"
  | .bool _ => "bool"
  | .int _ => "int"
  | .str _ => "str"
  | .list _ => "list"
  | .tuple _ => "tuple"
  | .dict _ => "dict"
theorem tyX_of {H : Hp} {v : V} (h : Dp K H v d) : TyX K H v (.type (tyN d)) := by
  cases h with
  | non => exact .base .non
  | bl b => exact .base (.bl b)
  | int i => exact .base (.int i)
  | str x => exact .base (.str x)
  | lst hs _ =>
    rcases hs with (h | ⟨o, h⟩) | ⟨o, its, n, h, c, _⟩
    · exact .base (.lst h)
    · exact .base (.frz h)
    · exact .kList h c
  | tup hs _ =>
    rcases hs with (h | ⟨o, h⟩) | ⟨o, its, n, h, c, _⟩
    · exact .base (.tup h)
    · exact .fTuple h
    · exact .kTuple h c
theorem ev_isi {T : String} {b : Bool} (ha : EvR ta σ G (isD K d)) (hb : kitB (tyN d) T = some b) : EvR (tCB (rIsi K) (tCons ta (tCons (tC (.ty T)) tNil))) σ G (isD K (.bool b)) := fun H e Q q =>
  ha H e _ fun v G1 H1 g1 r1 => ⟨v, .ty T, .type (tyN d), .type T, b, rfl, .ty T, tyX_of (dpm g1.gh r1), kit_ty hb, q _ G1 H1 g1 (.bl b)⟩
def isWhole : PyData → Bool
  | .int _ => true
  | _ => false
def isB : PyData → Bool
  | .bool _ => true
  | _ => false
def isTu : PyData → Bool
  | .tuple _ => true
  | _ => false
def isLi : PyData → Bool
  | .list _ => true
  | _ => false
theorem kit_int : ∀ d : PyData, kitB (tyN d) "int" = some (isWhole d || isB d)
  | .none => (by decide +kernel : kitB "NoneType" "int" = some false)
  | .bool _ => (by decide +kernel : kitB "bool" "int" = some true)
  | .int _ => (by decide +kernel : kitB "int" "int" = some true)
  | .str _ => (by decide +kernel : kitB "str" "int" = some false)
  | .list _ => (by decide +kernel : kitB "list" "int" = some false)
  | .tuple _ => (by decide +kernel : kitB "tuple" "int" = some false)
  | .dict _ => (by decide +kernel : kitB "dict" "int" = some false)
theorem kit_bool : ∀ d : PyData, kitB (tyN d) "bool" = some (isB d)
  | .none => (by decide +kernel : kitB "NoneType" "bool" = some false)
  | .bool _ => (by decide +kernel : kitB "bool" "bool" = some true)
  | .int _ => (by decide +kernel : kitB "int" "bool" = some false)
  | .str _ => (by decide +kernel : kitB "str" "bool" = some false)
  | .list _ => (by decide +kernel : kitB "list" "bool" = some false)
  | .tuple _ => (by decide +kernel : kitB "tuple" "bool" = some false)
  | .dict _ => (by decide +kernel : kitB "dict" "bool" = some false)
theorem kit_tuple : ∀ d : PyData, kitB (tyN d) "tuple" = some (isTu d)
  | .none => (by decide +kernel : kitB "NoneType" "tuple" = some false)
  | .bool _ => (by decide +kernel : kitB "bool" "tuple" = some false)
  | .int _ => (by decide +kernel : kitB "int" "tuple" = some false)
  | .str _ => (by decide +kernel : kitB "str" "tuple" = some false)
  | .list _ => (by decide +kernel : kitB "list" "tuple" = some false)
  | .tuple _ => (by decide +kernel : kitB "tuple" "tuple" = some true)
  | .dict _ => (by decide +kernel : kitB "dict" "tuple" = some false)
theorem kit_list : ∀ d : PyData, kitB (tyN d) "list" = some (isLi d)
  | .none => (by decide +kernel : kitB "NoneType" "list" = some false)
  | .bool _ => (by decide +kernel : kitB "bool" "list" = some false)
  | .int _ => (by decide +kernel : kitB "int" "list" = some false)
  | .str _ => (by decide +kernel : kitB "str" "list" = some false)
  | .list _ => (by decide +kernel : kitB "list" "list" = some true)
  | .tuple _ => (by decide +kernel : kitB "tuple" "list" = some false)
  | .dict _ => (by decide +kernel : kitB "dict" "list" = some false)

/-! ### list(xs), tuple(xs), slices -/
theorem ev_listL (ha : EvR ta σ G (isD K (.list ds))) : EvR (tCB (fun xs H Q => ∃ p ys, xs = [.ref p] ∧ (SqL K H p ys ∨ SqT K H p ys) ∧ ∀ l, H l = none → Q (.ref l) (upd H l (.lst ys))) (tCons ta tNil)) σ G (isD K (.list ds)) := ev_cb1 mn_isD ha fun x G' _ r H e Q q => by
  cases r with
  | lst hs hd => exact ⟨_, _, rfl, .inl (e.seq hs), fun l hl => q _ _ _ (Gw.new e hl) (.lst (SqL.of upd_same) (dpall_mono (same_new (e.free hl)) _ _ hd))⟩
theorem ev_listT (ha : EvR ta σ G (isD K (.tuple ds))) : EvR (tCB (fun xs H Q => ∃ p ys, xs = [.ref p] ∧ (SqL K H p ys ∨ SqT K H p ys) ∧ ∀ l, H l = none → Q (.ref l) (upd H l (.lst ys))) (tCons ta tNil)) σ G (isD K (.list ds)) := ev_cb1 mn_isD ha fun x G' _ r H e Q q => by
  cases r with
  | tup hs hd => exact ⟨_, _, rfl, .inr (same_t e hs), fun l hl => q _ _ _ (Gw.new e hl) (.lst (SqL.of upd_same) (dpall_mono (same_new (e.free hl)) _ _ hd))⟩
theorem ev_tupleL (ha : EvR ta σ G (isD K (.list ds))) : EvR (tCB (fun xs H Q => ∃ p ys, xs = [.ref p] ∧ ((SqL K H p ys ∧ ∀ l, H l = none → Q (.ref l) (upd H l (.tup ys))) ∨ (SqT K H p ys ∧ Q (.ref p) H))) (tCons ta tNil)) σ G (isD K (.tuple ds)) := ev_cb1 mn_isD ha fun x G' _ r H e Q q => by
  cases r with
  | lst hs hd => exact ⟨_, _, rfl, .inl ⟨e.seq hs, fun l hl => q _ _ _ (Gw.new e hl) (.tup (SqT.of upd_same) (dpall_mono (same_new (e.free hl)) _ _ hd))⟩⟩
theorem dpall_take {vs : List V} (h : DpAll K G vs ds) (n : Nat) : DpAll K G (vs.take n) (ds.take n) := by
  induction n generalizing vs ds with
  | zero => rw [List.take_zero, List.take_zero]; exact .nil
  | succ n ih =>
    cases h with
    | nil => exact .nil
    | cons a b => exact .cons a (ih b)
theorem dpall_drop {vs : List V} (h : DpAll K G vs ds) (n : Nat) : DpAll K G (vs.drop n) (ds.drop n) := by
  induction n generalizing vs ds with
  | zero => exact h
  | succ n ih =>
    cases h with
    | nil => exact .nil
    | cons a b => exact ih b
/-- a slice as data -/
def cutD (ds : List PyData) (lo hi : Option Int) : List PyData := (ds.drop (HT.sIx ds.length 0 lo)).take (HT.sIx ds.length ds.length hi - HT.sIx ds.length 0 lo)
theorem dpall_cut {vs : List V} (h : DpAll K G vs ds) (lo hi : Option Int) : DpAll K G (cutV vs lo hi) (cutD ds lo hi) := by
  unfold cutV cutD
  rw [dpall_len h]
  exact dpall_take (dpall_drop h _) _
def EvO (to : TO) (σ : L2.St) (G : Hp) (o : Option Int) : Prop := ∀ H, Same G H → ∀ Q : Option Int → Hp → Prop, (∀ G' H', Gw [] G H G' H' → Q o H') → to σ H Q
theorem EvO.mono {to : TO} {o : Option Int} (e : Same G G1) (h : EvO to σ G o) : EvO to σ G1 o := fun H e1 Q q =>
  h H (e.trans e1) Q fun G' H' g => q (both G1 G') H' (g.join e e1 (e1.trans g.same))
theorem eo_none : EvO tNoPart σ G none := fun H e Q q => q G H (Gw.refl e)
theorem eo_some {i : Int} (h : EvR te σ G (isD K (.int i))) : EvO (tPart te) σ G (some i) := fun H e Q q => h H e _ fun v G1 H1 g1 r => by
  cases r
  exact ⟨i, rfl, q G1 H1 g1⟩
theorem ev_slL {tl th : TO} {lo hi : Option Int} (ha : EvR ta σ G (isD K (.list ds))) (hl : EvO tl σ G lo) (hh : EvO th σ G hi) : EvR (tSl (rSlL K) ta tl th) σ G (isD K (.list (cutD ds lo hi))) := fun H e Q q =>
  ha H e _ fun v G1 H1 g1 r1 => (hl.mono g1.gg) H1 g1.gh _ fun G2 H2 g2 => (hh.mono (g1.gg.trans g2.gg)) H2 g2.gh _ fun G3 H3 g3 => by
    cases r1 with
    | lst hs hd => exact ⟨_, _, rfl, ((g2.trans g3).gg.trans g3.gh).seq hs, fun p hp => q _ _ _ (((g1.trans g2).trans g3).trans (Gw.new g3.gh hp)) (.lst (SqL.of upd_same) (dpall_mono (same_new (g3.gh.free hp)) _ _ (dpall_cut (dpall_mono (g2.trans g3).gg _ _ hd) lo hi)))⟩
theorem cut_whole {vs : List V} {lo hi : Option Int} (h : HT.sIx vs.length 0 lo = 0 ∧ HT.sIx vs.length vs.length hi = vs.length) : cutV vs lo hi = vs := by
  unfold cutV
  rw [h.1, h.2, List.drop_zero, Nat.sub_zero, List.take_length]
theorem ev_slT {tl th : TO} {lo hi : Option Int} (ha : EvR ta σ G (isD K (.tuple ds))) (hl : EvO tl σ G lo) (hh : EvO th σ G hi) : EvR (tSl (rSlA K) ta tl th) σ G (isD K (.tuple (cutD ds lo hi))) := fun H e Q q =>
  ha H e _ fun v G1 H1 g1 r1 => (hl.mono g1.gg) H1 g1.gh _ fun G2 H2 g2 => (hh.mono (g1.gg.trans g2.gg)) H2 g2.gh _ fun G3 H3 g3 => by
    cases r1 with
    | tup hs hd =>
      have hd' := dpall_mono (g2.trans g3).gg _ _ hd
      refine ⟨_, _, rfl, same_t ((g2.trans g3).gg.trans g3.gh) hs, fun hw => ?_, fun _ p hp => ?_⟩
      · refine q _ G3 H3 ((g1.trans g2).trans g3) (.tup (same_t (g2.trans g3).gg hs) ?_)
        have := dpall_cut hd' lo hi
        rw [cut_whole hw] at this
        exact this
      · exact q _ _ _ (((g1.trans g2).trans g3).trans (Gw.new g3.gh hp)) (.tup (SqT.of upd_same) (dpall_mono (same_new (g3.gh.free hp)) _ _ (dpall_cut hd' lo hi)))
/-- xs + ys -/
theorem ev_catT {es : List PyData} (ha : EvR ta σ G (isD K (.tuple ds))) (hb : EvR tb σ G (isD K (.tuple es))) (hz : ds.length + es.length ≤ 1000) : EvR (tOp (rCatA K) ta tb) σ G (isD K (.tuple (ds ++ es))) :=
  ev_op mn_isD mn_isD ha hb fun v w G' _ r1 r2 H k Q q => by
    cases r1 with
    | @tup a xs _ hs hd =>
    cases r2 with
    | @tup b ys _ ht he =>
    refine ⟨a, b, xs, ys, rfl, rfl, same_t k hs, same_t k ht, Nat.le_of_lt (small1000 (by rw [dpall_len hd, dpall_len he]; exact hz)), fun hx => ?_, fun _ hy => ?_, fun _ _ p hp => ?_⟩
    · subst hx
      cases hd
      exact q _ G' H (Gw.refl k) (.tup ht he)
    · subst hy
      cases he
      rw [List.append_nil] at q
      exact q _ G' H (Gw.refl k) (.tup hs hd)
    · exact q _ _ _ (Gw.new k hp) (.tup (SqT.of upd_same) (dpall_mono (same_new (k.free hp)) _ _ (dpall_app hd he)))
theorem dpall_rep {vs : List V} (h : DpAll K G vs ds) : ∀ n : Nat, DpAll K G (List.replicate n vs).flatten (List.replicate n ds).flatten
  | 0 => .nil
  | n + 1 => by
    rw [List.replicate_succ, List.replicate_succ, List.flatten_cons, List.flatten_cons]
    exact dpall_app h (dpall_rep h n)
theorem ev_repT {k : Int} (ha : EvR ta σ G (isD K (.tuple ds))) (hb : EvR tb σ G (isD K (.int k))) (hn : ds ≠ []) (hk : 2 ≤ k ∧ k ≤ 1000) (hz : ds.length ≤ 1000) : EvR (tOp (rRepT K) ta tb) σ G (isD K (.tuple (List.replicate k.toNat ds).flatten)) :=
  ev_op mn_isD mn_isD ha hb fun v w G' _ r1 r2 H e Q q => by
    cases r2
    cases r1 with
    | @tup a xs _ hs hd =>
    refine ⟨a, k, xs, rfl, rfl, same_t e hs, fun z => ?_, hk.1, hk.2, by rw [dpall_len hd]; exact hz, fun p hp => ?_⟩
    · subst z; cases hd; exact hn rfl
    · exact q _ _ _ (Gw.new e hp) (.tup (SqT.of upd_same) (dpall_mono (same_new (e.free hp)) _ _ (dpall_rep hd _)))
/-! ### int(..) -/
theorem ev_intI {i : Int} (ha : EvR ta σ G (isD K (.int i))) : EvR (tCB (fun xs H Q => (∃ i, xs = [.int i] ∧ Q (.int i) H) ∨ ∃ k, xs = [.bl k] ∧ Q (.int (if k then 1 else 0)) H) (tCons ta tNil)) σ G (isD K (.int i)) := ev_cb1 mn_isD ha fun x G' _ r H e Q q => by
  cases r
  exact .inl ⟨i, rfl, q _ G' H (Gw.refl e) (.int i)⟩
theorem ev_intB {b : Bool} (ha : EvR ta σ G (isD K (.bool b))) : EvR (tCB (fun xs H Q => (∃ i, xs = [.int i] ∧ Q (.int i) H) ∨ ∃ k, xs = [.bl k] ∧ Q (.int (if k then 1 else 0)) H) (tCons ta tNil)) σ G (isD K (.int (if b then 1 else 0))) := ev_cb1 mn_isD ha fun x G' _ r H e Q q => by
  cases r
  exact .inr ⟨b, rfl, q _ G' H (Gw.refl e) (.int _)⟩
/-- index by any of the three (ix_seq is not used: written apart) -/
theorem ev_shape {d e : PyData} (h : EvR te σ G (isD K d)) (k : d = e) : EvR te σ G (isD K e) := k ▸ h
end
end Sky
namespace Sky
open PySem PySem.Spec PyProof.Rows L2
theorem vpm {R : VP} {G G' : Hp} {v : V} (m : Mn R) (e : Same G G') (h : R v G) : R v G' := m v G G' e h
theorem isD_to {K : PySem.W.Frag} {d e : PyData} {v : V} {G : Hp} (r : isD K d v G) (h : d = e) : Dp K G v e := h ▸ r
theorem data1 {K : PySem.W.Frag} {G : Hp} {vs : List V} {ds : List PyData} (h : DpAll K G vs ds) (hl : ds.length = 1) : ∃ d x, ds = [d] ∧ vs = [x] ∧ Dp K G x d := by
  match ds, vs, h with
  | [d], [x], .cons hx .nil => exact ⟨d, x, rfl, rfl, hx⟩
theorem data2 {K : PySem.W.Frag} {G : Hp} {vs : List V} {ds : List PyData} (h : DpAll K G vs ds) (hl : ds.length = 2) : ∃ d e x y, ds = [d, e] ∧ vs = [x, y] ∧ Dp K G x d ∧ Dp K G y e := by
  match ds, vs, h with
  | [d, e], [x, y], .cons hx (.cons hy .nil) => exact ⟨d, e, x, y, rfl, rfl, hx, hy⟩
theorem spD_len {K : PySem.W.Frag} {pre : List PyData → Prop} {f : List PyData → PyData} {vs : List V} {H : Hp} {Q : VK} {E : XK} {n : Nat} (hp : ∀ ds, pre ds → ds.length = n) (h : spD K pre f vs H Q E) : vs.length = n := by
  obtain ⟨ds, G, e, hd, hl, q⟩ := h
  rw [dpall_len hd, hp _ hl]
end Sky
namespace Sky
open PySem PySem.Spec PyProof.Rows L2
theorem ev_shapeT {σ : L2.St} {G : Hp} {t : TT} {b c : Bool} (h : EvT t σ G b) (k : b = c) : EvT t σ G c := k ▸ h
end Sky
namespace Sky
open PySem PySem.Spec PyProof.Rows L2
/-- K by its name, for a search -/
def KK (_ : PySem.W.Frag) : Prop := True
theorem kk {K : PySem.W.Frag} : KK K := trivial
theorem et_testK {K : PySem.W.Frag} {σ : L2.St} {G : Hp} {te : TE} {b : Bool} (_ : KK K) (h : EvR te σ G (isD K (.bool b))) : EvT (tTest te) σ G b := et_test h
theorem et_BK {K : PySem.W.Frag} {σ : L2.St} {G : Hp} {te : TE} {b : Bool} (_ : KK K) (h : EvR te σ G (isD K (.bool b))) : EvT (tB te) σ G b := et_B h
end Sky

namespace Sky
open PySem PySem.Spec PyProof.Rows L2

/-- a walk by its turns, over heaps alone -/
theorem heap_it {J : It} {n : Nat} {Gd : Hp → Prop} {Y : Nat → Hp → V → Hp → Prop} (w : Walk J n Gd Y) {H1 : Hp} {End : Hp → Prop} {Step : (Hp → Prop) → V → Hp → Prop} (Pv : Nat → Hp → Prop) (h0 : Pv 0 H1) (hG : ∀ i H, i ≤ n → Pv i H → Gd H)
    (hs : ∀ i x H H', i < n → Pv i H → Y i H x H' → Step (Pv (i + 1)) x H') (hd : ∀ H, Pv n H → End H) :
    ∃ W : Nat → Nat → Hp → Prop, (∃ m, W 0 m H1) ∧ ∀ i m H, W i m H →
      (J.stop i H ∧ End H) ∨ (J.go i H ∧ ∃ Nx : Hp → Prop, (∀ H', Nx H' → ∃ m', m' < m ∧ W (i + 1) m' H') ∧ ∀ x H', J.yld i H x H' → Step Nx x H') := by
  refine ⟨fun i m H => m = n - i ∧ i ≤ n ∧ Pv i H, ⟨n, by simp, Nat.zero_le _, h0⟩, ?_⟩
  rintro i m H ⟨rfl, hi, p⟩
  have q := hG i H hi p
  by_cases hlt : i < n
  · exact .inr ⟨w.goes i H hlt q, Pv (i + 1), fun H' p' => ⟨n - (i + 1), by omega, rfl, hlt, p'⟩, fun x H' y => hs i x H H' hlt p (w.yields i H x H' hlt q y)⟩
  · have e : i = n := by omega
    subst e
    exact .inl ⟨w.stops H q, hd H p⟩
section
variable {K : PySem.W.Frag} {σ : L2.St} {G G1 H : Hp} {ta tb te : TE} {t : TA} {R S R0 : VP} {d : PyData} {ds : List PyData}
/-- [f(y) for x in xss for y in x], data -/
theorem ev_lc2 {tl : TE} {j j1 : Nat} {vs : List Nat} {dss : List (List PyData)} (f : PyData → PyData) (h : EvR tl σ G (isD K (.list (dss.map PyData.list)))) (hz : (dss.flatMap fun es => es.map f).length ≤ 1000)
    (hw : ∀ x y, wipe ((wipe ((wipe σ vs).set j (some x)) [j1]).set j1 (some y)) [j1] = wipe ((wipe σ vs).set j (some x)) [j1]) (hw0 : ∀ x, wipe ((wipe σ vs).set j (some x)) vs = wipe σ vs)
    (hv : ∀ x : V, ((wipe σ vs).set j (some x))[j]? = some (some x))
    (he : ∀ (x y : V) (es : List PyData) (d : PyData) G1, Same G G1 → es ∈ dss → d ∈ es → Dp K G1 y d → EvR te ((wipe ((wipe σ vs).set j (some x)) [j1]).set j1 (some y)) G1 (isD K (f d))) :
    EvR (tLc2 (iList K tl) (gName j) tYes (iList K (tVar j)) (gName j1) tYes te vs [j1]) σ G (isD K (.list (dss.flatMap fun es => es.map f))) := fun H e Q q => h H e _ fun v G1 H1 g1 r1 => by
  cases r1 with
  | @lst a xs _ hs hd =>
  refine ⟨a, rfl, ⟨xs, g1.gh.seq hs⟩, fun D hD => ?_⟩
  have hgD : G1 D = none := g1.gh.free hD
  have hlen : xs.length = dss.length := by rw [dpall_len hd, List.length_map]
  -- the list so far
  let Pv : Nat → Nat → List PyData → Hp → Prop := fun i k es H => ∃ G' ys, Gw [D] G1 (upd H1 D (.lst [])) G' H ∧ H D = some (.lst ys) ∧ DpAll K G' ys (((dss.take i).flatMap fun es => es.map f) ++ (es.take k).map f)
  refine heap_it (walk_list (K := K) (a := a) (xs := xs)) (Step := fun Nx x H' => gName j x (wipe σ vs) H' fun σ2 H2 => wipe σ2 vs = wipe σ vs ∧ tYes σ2 H2 fun b H3 =>
    if b = true then iList K (tVar j) σ2 H3 fun J1 H4 => ∃ W1 : Nat → Nat → Hp → Prop, (∃ m, W1 0 m H4) ∧ ∀ j k H, W1 j k H →
      (J1.stop j H ∧ Nx H) ∨ (J1.go j H ∧ ∃ Nx1 : Hp → Prop, (∀ H', Nx1 H' → ∃ k', k' < k ∧ W1 (j + 1) k' H') ∧ ∀ x H', J1.yld j H x H' → gName j1 x (wipe σ2 [j1]) H' fun σ3 H5 => wipe σ3 [j1] = wipe σ2 [j1] ∧ tYes σ3 H5 fun b H6 =>
        if b = true then te σ3 H6 fun y H7 => ∃ acc, H7 D = some (.lst acc) ∧ acc.length < sizeLine ∧ Nx1 (upd H7 D (.lst (acc ++ [y]))) else Nx1 H6)
    else Nx H3) (fun i H => Pv i 0 [] H) ⟨G1, [], Gw.refl (g1.gh.trans (same_new hD)), upd_same, by simpa using DpAll.nil⟩ (fun i H _ ⟨G', ys, g, _, _⟩ => (g.gg.trans g.gh).seq hs) ?_ ?_
  · rintro i x H2 H3 hi ⟨G2, ys, g2, hy, hys⟩ ⟨rfl, hx⟩
    refine ⟨hw0 x, ?_⟩
    dsimp only [tYes]
    rw [if_pos rfl]
    obtain ⟨d, hd1, hd2⟩ := dpall_of hd hx
    rw [List.getElem?_map] at hd1
    obtain ⟨es, he1, rfl⟩ : ∃ es, dss[i]? = some es ∧ PyData.list es = d := by
      cases hq : dss[i]? with
      | none => rw [hq] at hd1; cases hd1
      | some es => rw [hq] at hd1; exact ⟨es, rfl, by simpa using hd1⟩
    have htk : (dss.take (i + 1)).flatMap (fun es => es.map f) = (dss.take i).flatMap (fun es => es.map f) ++ es.map f := by
      rw [take_snoc he1, List.flatMap_append]
      simp
    have hmem : es ∈ dss := List.mem_of_getElem? he1
    cases hd2 with
    | @lst b zs _ hzs hzd =>
    refine ⟨_, hv _, b, rfl, ⟨zs, (g2.gg.trans g2.gh).seq hzs⟩, ?_⟩
    refine heap_it (walk_list (K := K) (a := b) (xs := zs)) (Step := fun Nx1 x1 H' => gName j1 x1 (wipe ((wipe σ vs).set j (some (.ref b))) [j1]) H' fun σ3 H5 => wipe σ3 [j1] = wipe ((wipe σ vs).set j (some (.ref b))) [j1] ∧ tYes σ3 H5 fun b H6 =>
        if b = true then te σ3 H6 fun y H7 => ∃ acc, H7 D = some (.lst acc) ∧ acc.length < sizeLine ∧ Nx1 (upd H7 D (.lst (acc ++ [y]))) else Nx1 H6)
      (fun k H => Pv i k es H) ⟨G2, ys, g2, hy, by simpa using hys⟩ (fun k H _ ⟨G', ys, g, _, _⟩ => (g.gg.trans g.gh).seq hzs) ?_ ?_
    · rintro k x1 H4 H5 hk ⟨G4, us, g4, hu, hus⟩ ⟨rfl, hx1⟩
      refine ⟨hw _ _, ?_⟩
      dsimp only [tYes]
      rw [if_pos rfl]
      obtain ⟨d1, hd3, hd4⟩ := dpall_of hzd hx1
      refine he (.ref b) x1 es d1 G4 (g1.gg.trans g4.gg) hmem (List.mem_of_getElem? hd3) (dpm g4.gg hd4) _ g4.gh _ fun y G5 H5 g5 r5 => ?_
      have hD5 : H5 D = some (.lst us) := g5.hh _ _ hu (by simp)
      have hgD4 : G4 D = none := g4.out hgD upd_same
      have hl : us.length ≤ 1000 := by
        rw [dpall_len hus]
        refine Nat.le_trans ?_ hz
        have h1 : dss.flatMap (fun es => es.map f) = (dss.take (i + 1)).flatMap (fun es => es.map f) ++ (dss.drop (i + 1)).flatMap (fun es => es.map f) := by
          rw [← List.flatMap_append, List.take_append_drop]
        rw [h1, htk, List.length_append, List.length_append, List.length_append, List.length_map, List.length_map, List.length_take]
        omega
      refine ⟨us, hD5, small1000 hl, G5, us ++ [y], (g4.trans g5.weak).trans (Gw.put g5.gh (g5.out hgD4 hu) (by simp)), upd_same, ?_⟩
      rw [take_snoc hd3, List.map_append, ← List.append_assoc]
      exact dpall_app (dpall_mono g5.gg _ _ hus) (.cons r5 .nil)
    · rintro H4 ⟨G4, us, g4, hu, hus⟩
      refine ⟨G4, us, g4, hu, ?_⟩
      rw [htk]
      rw [dpall_len hzd] at hus
      simpa using hus
  · rintro H2 ⟨G2, ys, g2, hy, hys⟩
    rw [hlen] at hys
    have hys' : DpAll K G2 ys (dss.flatMap fun es => es.map f) := by simpa using hys
    have g3 := ((Gw.lay g1.gh hD).weak.trans g2).fix g1.gh hD hy
    exact q (.ref D) _ H2 (g1.trans g3) (.lst (SqL.of upd_same) (dpall_mono (same_new (g2.out hgD upd_same)) _ _ hys'))
end
end Sky

namespace Sky
open PySem PySem.Spec PyProof.Rows L2
/-- what stands between two turns -/
def Lp (Gb : Hp) (I : L2.St → Hp → Hp → Prop) : L2.St → Hp → Prop := fun σ H => ∃ G, Same Gb G ∧ Same G H ∧ I σ G H
section
variable {K : PySem.W.Frag} {σ : L2.St} {G G1 H : Hp} {ta tb te : TE} {t : TA} {R S R0 : VP} {d : PyData} {ds : List PyData} {D : Ends} {tu tz : TS} {g : TG}
theorem s_wk {J : It} {n : Nat} {Gd : Hp → Prop} {Y : Nat → Hp → V → Hp → Prop} {tb : TS} (w : Walk J n Gd Y) (I : Nat → L2.St → Hp → Hp → Prop) (h0 : I 0 σ G H) (e : Same G H) (hG : ∀ H, Same G H → Gd H)
    (hs : ∀ i x σ' G' H' H'', i < n → Same G G' → Same G' H' → I i σ' G' H' → Y i H' x H'' → g x σ' H'' fun σ2 H2 => tb { D with nx := Lp G (I (i + 1)), ct := Lp G (I (i + 1)), bk := D.nx } σ2 H2)
    (hd : ∀ σ' G' H', Same G G' → Same G' H' → I n σ' G' H' → D.nx σ' H') :
    ∃ W : Nat → Nat → L2.St → Hp → Prop, (∃ m, W 0 m σ H) ∧ ∀ i m σ H, W i m σ H →
      (J.stop i H ∧ D.nx σ H) ∨ (J.go i H ∧ ∃ N : L2.St → Hp → Prop, (∀ σ' H', N σ' H' → ∃ m', m' < m ∧ W (i + 1) m' σ' H') ∧ ∀ x H', J.yld i H x H' → g x σ H' fun σ2 H2 => tb { D with nx := N, ct := N, bk := D.nx } σ2 H2) :=
  for_it w (fun i => Lp G (I i)) ⟨G, fun _ _ h => h, e, h0⟩ (fun i σ' H' _ ⟨G', a, b, _⟩ => hG H' (a.trans b))
    (fun i x σ' H' H'' hi ⟨G', a, b, c⟩ y => hs i x σ' G' H' H'' hi a b c y) fun σ' H' ⟨G', a, b, c⟩ => hd σ' G' H' a b c
/-- a loop's body and end, over a base Gb -/
def LpOk (D : Ends) (Gb : Hp) (I : Nat → L2.St → Hp → Hp → Prop) (i : Nat) : Ends := { D with nx := Lp Gb (I (i + 1)), ct := Lp Gb (I (i + 1)), bk := D.nx }
/-- for x in xs, the items as values -/
theorem s_forS {tl : TE} {xs : List V} (e : Same G H) (hx : ∀ v G', R v G' → ∃ a, v = .ref a ∧ SqL K G' a xs) (h : EvR tl σ G R) (k : ∀ Gb Hb, Gw [] G H Gb Hb → ∃ I : Nat → L2.St → Hp → Hp → Prop, I 0 σ Gb Hb ∧
      (∀ i x σ' G' H', xs[i]? = some x → Same Gb G' → Same G' H' → I i σ' G' H' → g x σ' H' fun σ2 H2 => tu (LpOk D Gb I i) σ2 H2) ∧
      (∀ σ' G' H', Same Gb G' → Same G' H' → I xs.length σ' G' H' → D.nx σ' H')) : tFor (iList K tl) g tu D σ H := h H e _ fun v G1 H1 g1 r1 => by
  obtain ⟨a, rfl, hs⟩ := hx v G1 r1
  obtain ⟨I, h0, h1, h2⟩ := k G1 H1 g1
  refine ⟨a, rfl, ⟨xs, g1.gh.seq hs⟩, s_wk (walk_list (K := K) (a := a) (xs := xs)) I h0 g1.gh (fun H2 e2 => e2.seq hs) ?_ h2⟩
  rintro i x σ' G' H' H'' hi a1 a2 hI ⟨rfl, hx⟩
  exact h1 i x σ' G' _ hx a1 a2 hI
theorem s_forL {tl : TE} (e : Same G H) (h : EvR tl σ G (isD K (.list ds))) (k : ∀ Gb Hb, Gw [] G H Gb Hb → ∃ I : Nat → L2.St → Hp → Hp → Prop, I 0 σ Gb Hb ∧
      (∀ i x d σ' G' H', ds[i]? = some d → Same Gb G' → Same G' H' → Dp K G' x d → I i σ' G' H' → g x σ' H' fun σ2 H2 => tu (LpOk D Gb I i) σ2 H2) ∧
      (∀ σ' G' H', Same Gb G' → Same G' H' → I ds.length σ' G' H' → D.nx σ' H')) : tFor (iList K tl) g tu D σ H := h H e _ fun v G1 H1 g1 r1 => by
  cases r1 with
  | @lst a xs _ hs hd =>
  obtain ⟨I, h0, h1, h2⟩ := k G1 H1 g1
  refine ⟨a, rfl, ⟨xs, g1.gh.seq hs⟩, s_wk (walk_list (K := K) (a := a) (xs := xs)) I h0 g1.gh (fun H2 e2 => e2.seq hs) ?_ (by rw [dpall_len hd]; exact h2)⟩
  rintro i x σ' G' H' H'' hi a1 a2 hI ⟨rfl, hx⟩
  obtain ⟨d, hd1, hd2⟩ := dpall_of hd hx
  exact h1 i x d σ' G' _ hd1 a1 a2 (dpm a1 hd2) hI
theorem q_forL {tl : TE} (e : Same G H) (h : EvR tl σ G (isD K (.list ds))) (k : ∀ Gb Hb, Gw [] G H Gb Hb → ∃ I : Nat → L2.St → Hp → Hp → Prop, I 0 σ Gb Hb ∧
      (∀ i x d σ' G' H', ds[i]? = some d → Same Gb G' → Same G' H' → Dp K G' x d → I i σ' G' H' → g x σ' H' fun σ2 H2 => tu (LpOk { D with nx := tz D } Gb I i) σ2 H2) ∧
      (∀ σ' G' H', Same Gb G' → Same G' H' → I ds.length σ' G' H' → tz D σ' H')) : tSeq (tFor (iList K tl) g tu) tz D σ H := s_forL (D := { D with nx := tz D }) e h k
theorem s_forT {tl : TE} (e : Same G H) (h : EvR tl σ G (isD K (.tuple ds))) (k : ∀ Gb Hb, Gw [] G H Gb Hb → ∃ I : Nat → L2.St → Hp → Hp → Prop, I 0 σ Gb Hb ∧
      (∀ i x d σ' G' H', ds[i]? = some d → Same Gb G' → Same G' H' → Dp K G' x d → I i σ' G' H' → g x σ' H' fun σ2 H2 => tu (LpOk D Gb I i) σ2 H2) ∧
      (∀ σ' G' H', Same Gb G' → Same G' H' → I ds.length σ' G' H' → D.nx σ' H')) : tFor (iTup K tl) g tu D σ H := h H e _ fun v G1 H1 g1 r1 => by
  cases r1 with
  | @tup a xs _ hs hd =>
  obtain ⟨I, h0, h1, h2⟩ := k G1 H1 g1
  refine ⟨a, rfl, ⟨xs, same_t g1.gh hs⟩, s_wk (walk_tup (K := K) (a := a) (xs := xs)) I h0 g1.gh (fun H2 e2 => same_t e2 hs) ?_ (by rw [dpall_len hd]; exact h2)⟩
  rintro i x σ' G' H' H'' hi a1 a2 hI ⟨rfl, hx⟩
  obtain ⟨d, hd1, hd2⟩ := dpall_of hd hx
  exact h1 i x d σ' G' _ hd1 a1 a2 (dpm a1 hd2) hI
theorem q_forT {tl : TE} (e : Same G H) (h : EvR tl σ G (isD K (.tuple ds))) (k : ∀ Gb Hb, Gw [] G H Gb Hb → ∃ I : Nat → L2.St → Hp → Hp → Prop, I 0 σ Gb Hb ∧
      (∀ i x d σ' G' H', ds[i]? = some d → Same Gb G' → Same G' H' → Dp K G' x d → I i σ' G' H' → g x σ' H' fun σ2 H2 => tu (LpOk { D with nx := tz D } Gb I i) σ2 H2) ∧
      (∀ σ' G' H', Same Gb G' → Same G' H' → I ds.length σ' G' H' → tz D σ' H')) : tSeq (tFor (iTup K tl) g tu) tz D σ H := s_forT (D := { D with nx := tz D }) e h k
/-- for k, x in enumerate(xs), xs values -/
theorem s_forE {tl : TE} {xs : List V} (e : Same G H) (hx : ∀ v G', R v G' → ∃ a, v = .ref a ∧ SqL K G' a xs) (h : EvR tl σ G R) (k : ∀ Gb Hb, Gw [] G H Gb Hb → ∃ I : Nat → L2.St → Hp → Hp → Prop, I 0 σ Gb Hb ∧
      (∀ i x σ' G' H', xs[i]? = some x → Same Gb G' → Same G' H' → I i σ' G' H' → ∀ T, H' T = none → g (.ref T) σ' (upd H' T (.tup [.int (i : Nat), x])) fun σ2 H2 => tu (LpOk D Gb I i) σ2 H2) ∧
      (∀ σ' G' H', Same Gb G' → Same G' H' → I xs.length σ' G' H' → D.nx σ' H')) : tFor (iEnum K (tCons tl tNil)) g tu D σ H := h H e _ fun v G1 H1 g1 r1 => by
  obtain ⟨a, rfl, hs⟩ := hx v G1 r1
  obtain ⟨I, h0, h1, h2⟩ := k G1 H1 g1
  refine ⟨a, xs, rfl, g1.gh.seq hs, s_wk (walk_enum (K := K) (a := a) (xs := xs)) I h0 g1.gh (fun H2 e2 => e2.seq hs) ?_ h2⟩
  rintro i v σ' G' H' H'' hi a1 a2 hI ⟨T, x, y, rfl, hT, rfl, hx1, hx2⟩
  cases hx1
  exact h1 i y σ' G' H' hx2 a1 a2 hI T hT
theorem s_forEL {tl : TE} (e : Same G H) (h : EvR tl σ G (isD K (.list ds))) (k : ∀ Gb Hb, Gw [] G H Gb Hb → ∃ I : Nat → L2.St → Hp → Hp → Prop, I 0 σ Gb Hb ∧
      (∀ i x d σ' G' H' G'' H'', ds[i]? = some d → Same Gb G' → Same G' H' → I i σ' G' H' → Gw [] G' H' G'' H'' → Dp K G'' x (.tuple [.int (i : Nat), d]) → g x σ' H'' fun σ2 H2 => tu (LpOk D Gb I i) σ2 H2) ∧
      (∀ σ' G' H', Same Gb G' → Same G' H' → I ds.length σ' G' H' → D.nx σ' H')) : tFor (iEnum K (tCons tl tNil)) g tu D σ H := h H e _ fun v G1 H1 g1 r1 => by
  cases r1 with
  | @lst a xs _ hs hd =>
  obtain ⟨I, h0, h1, h2⟩ := k G1 H1 g1
  refine ⟨a, xs, rfl, g1.gh.seq hs, s_wk (walk_enum (K := K) (a := a) (xs := xs)) I h0 g1.gh (fun H2 e2 => e2.seq hs) ?_ (by rw [dpall_len hd]; exact h2)⟩
  rintro i v σ' G' H' H'' hi a1 a2 hI ⟨T, x, y, rfl, hT, rfl, hx1, hx2⟩
  cases hx1
  obtain ⟨d, hd1, hd2⟩ := dpall_of hd hx2
  exact h1 i _ d σ' G' H' _ _ hd1 a1 a2 hI (Gw.new a2 hT) (.tup (SqT.of upd_same) (.cons (.int _) (.cons (dpm (a1.trans (same_new (a2.free hT))) hd2) .nil)))
/-- for i in range(..) -/
theorem s_forR1 {ta : TA} {n : Int} (e : Same G H) (h : EvD ta σ G K [.int n]) (hb : -(2 ^ 62) ≤ n ∧ n < 2 ^ 62) (k : ∀ Gb Hb, Gw [] G H Gb Hb → ∃ I : Nat → L2.St → Hp → Hp → Prop, I 0 σ Gb Hb ∧
      (∀ (i : Nat) σ' G' H', (i : Int) < n → Same Gb G' → Same G' H' → I i σ' G' H' → g (.int (i : Nat)) σ' H' fun σ2 H2 => tu (LpOk D Gb I i) σ2 H2) ∧
      (∀ σ' G' H', Same Gb G' → Same G' H' → I n.toNat σ' G' H' → D.nx σ' H')) : tFor (iRng1 ta) g tu D σ H := h H e _ fun ws G1 H1 g1 r1 => by
  cases r1 with
  | cons a1 r1 =>
  cases r1
  cases a1
  obtain ⟨I, h0, h1, h2⟩ := k G1 H1 g1
  refine ⟨n, rfl, hb.1, hb.2, s_wk (walk_range (lo := 0) (n := n.toNat)) I h0 g1.gh (fun H2 e2 => trivial) ?_ h2⟩
  rintro i v σ' G' H' H'' hi a1 a2 hI ⟨rfl, rfl⟩
  have e0 : (0 : Int) + (i : Nat) = (i : Nat) := Int.zero_add _
  show g (.int ((0 : Int) + (i : Nat))) σ' _ _
  rw [e0]
  exact h1 i σ' G' _ (by omega) a1 a2 hI
theorem s_forR2 {ta : TA} {lo hi : Int} (e : Same G H) (h : EvD ta σ G K [.int lo, .int hi]) (hb : -(2 ^ 62) ≤ lo ∧ lo < 2 ^ 62 ∧ -(2 ^ 62) ≤ hi ∧ hi < 2 ^ 62) (k : ∀ Gb Hb, Gw [] G H Gb Hb → ∃ I : Nat → L2.St → Hp → Hp → Prop, I 0 σ Gb Hb ∧
      (∀ (i : Nat) σ' G' H', lo + (i : Nat) < hi → Same Gb G' → Same G' H' → I i σ' G' H' → g (.int (lo + (i : Nat))) σ' H' fun σ2 H2 => tu (LpOk D Gb I i) σ2 H2) ∧
      (∀ σ' G' H', Same Gb G' → Same G' H' → I (hi - lo).toNat σ' G' H' → D.nx σ' H')) : tFor (iRng2 ta) g tu D σ H := h H e _ fun ws G1 H1 g1 r1 => by
  cases r1 with
  | cons a1 r1 =>
  cases r1 with
  | cons a2 r1 =>
  cases r1
  cases a1; cases a2
  obtain ⟨I, h0, h1, h2⟩ := k G1 H1 g1
  refine ⟨lo, hi, rfl, hb, s_wk (walk_range (lo := lo) (n := (hi - lo).toNat)) I h0 g1.gh (fun H2 e2 => trivial) ?_ h2⟩
  rintro i v σ' G' H' H'' hi' a1 a2 hI ⟨rfl, rfl⟩
  exact h1 i σ' G' _ (by omega) a1 a2 hI
/-- for x, y in zip(xs, ys), values -/
theorem s_forZ {ta : TA} {xs ys : List V} {R2' : VP} (e : Same G H) (hx : ∀ v G', R v G' → ∃ a, v = .ref a ∧ SqL K G' a xs) (hy : ∀ v G', R2' v G' → ∃ a, v = .ref a ∧ SqL K G' a ys) (h : EvA ta σ G [R, R2']) {n : Nat} (hn : n = min xs.length ys.length) (k : ∀ Gb Hb, Gw [] G H Gb Hb → ∃ I : Nat → L2.St → Hp → Hp → Prop, I 0 σ Gb Hb ∧
      (∀ i x y σ' G' H', xs[i]? = some x → ys[i]? = some y → Same Gb G' → Same G' H' → I i σ' G' H' → ∀ T, H' T = none → g (.ref T) σ' (upd H' T (.tup [x, y])) fun σ2 H2 => tu (LpOk D Gb I i) σ2 H2) ∧
      (∀ σ' G' H', Same Gb G' → Same G' H' → I n σ' G' H' → D.nx σ' H')) : tFor (iZip K ta) g tu D σ H := h.2 H e _ fun ws G1 H1 g1 r1 => by
  cases r1 with
  | cons ra r1 =>
  cases r1 with
  | cons rb r1 =>
  cases r1
  obtain ⟨a, rfl, ha⟩ := hx _ _ ra
  obtain ⟨b, rfl, hb⟩ := hy _ _ rb
  obtain ⟨I, h0, h1, h2⟩ := k G1 H1 g1
  refine ⟨a, b, xs, ys, rfl, g1.gh.seq ha, g1.gh.seq hb, s_wk (walk_zip (K := K) (a := a) (b := b) (xs := xs) (ys := ys) hn) I h0 g1.gh (fun H2 e2 => ⟨e2.seq ha, e2.seq hb⟩) ?_ h2⟩
  rintro i v σ' G' H' H'' hi a1 a2 hI ⟨T, x, y, rfl, hT, rfl, hx1, hx2⟩
  exact h1 i x y σ' G' H' hx1 hx2 a1 a2 hI T hT
end
/-! ### attributes by name -/
theorem lk_here {k : Str} {v : V} {r : List (Str × V)} : List.lookup k ((k, v) :: r) = some v := by
  have e : (k == k) = true := beq_self_eq_true k
  simp only [List.lookup, e]
theorem lk_past {k g : Str} {v : V} {r : List (Str × V)} (h : (k == g) = false) : List.lookup k ((g, v) :: r) = List.lookup k r := by
  simp only [List.lookup, h]
/-! ### strips' readings as data -/
def oD : Option Int → PyData
  | none => .none
  | some i => .int i
abbrev rowsL (rows : List (List (Option Int))) : PyData := .list (rows.map fun r => .list (r.map oD))
abbrev rowsT (rows : List (List (Option Int))) : PyData := .tuple (rows.map fun r => .tuple (r.map oD))
structure RowsOk (rows : List (List (Option Int))) (w : Nat) : Prop where
  h1 : 1 ≤ rows.length
  h2 : rows.length ≤ 12
  w1 : 1 ≤ w
  w2 : w ≤ 12
  all : ∀ r ∈ rows, r.length = w
theorem RowsOk.zero {rows : List (List (Option Int))} {w : Nat} (h : RowsOk rows w) : ∃ r, rows[0]? = some r ∧ r.length = w := by
  cases rows with
  | nil => exact absurd h.h1 (by simp)
  | cons r rs => exact ⟨r, rfl, h.all r List.mem_cons_self⟩
theorem atI_nn {α : Type} {xs : List α} {i : Int} {x : α} (h0 : 0 ≤ i) (h : xs[i.toNat]? = some x) : atI xs i = some x := by
  have hlt := (List.getElem?_eq_some_iff.mp h).1
  unfold atI ixN
  rw [if_pos h0, if_pos (by omega)]
  exact h
theorem atI_map {α β : Type} {xs : List α} {i : Int} {x : α} (f : α → β) (h : atI xs i = some x) : atI (xs.map f) i = some (f x) := by
  unfold atI at h ⊢
  rw [List.length_map]
  cases e : ixN xs.length i with
  | none => rw [e] at h; cases h
  | some j =>
    rw [e] at h
    have h' : xs[j]? = some x := h
    show (xs.map f)[j]? = some (f x)
    rw [List.getElem?_map, h']
    rfl
end Sky

namespace Sky
open PySem PySem.Spec PyProof.Rows L2
/-! ### the layer's rules with K by its name -/
abbrev rListOf (K : PySem.W.Frag) : List V → Hp → VK → Prop := fun xs H Q => ∃ p ys, xs = [.ref p] ∧ (SqL K H p ys ∨ SqT K H p ys) ∧ ∀ l, H l = none → Q (.ref l) (upd H l (.lst ys))
abbrev rTupOf (K : PySem.W.Frag) : List V → Hp → VK → Prop := fun xs H Q => ∃ p ys, xs = [.ref p] ∧ ((SqL K H p ys ∧ ∀ l, H l = none → Q (.ref l) (upd H l (.tup ys))) ∨ (SqT K H p ys ∧ Q (.ref p) H))
section
variable {X : Cx} {K : PySem.W.Frag} {e o value a : Expr} {ta tv te : TE} {f : Str} {pos pos' : Pos}
theorem kisi (hK : X.K = K) : CallR X (.builtin "isinstance") (rIsi K) := by subst hK; exact call_isi
theorem klen (hK : X.K = K) : CallR X (.builtin "len") (rLenS K) := by subst hK; exact call_len
theorem kall (hK : X.K = K) (hc : X.calm = true) : CallR X (.builtin "all") (rAll K) := by subst hK; exact cr_all hc
theorem kany (hK : X.K = K) (hc : X.calm = true) : CallR X (.builtin "any") (rAny K) := by subst hK; exact cr_any hc
theorem klist (hK : X.K = K) : CallR X (.type "list") (rListOf K) := by subst hK; exact call_list_of
theorem ktup (hK : X.K = K) : CallR X (.type "tuple") (rTupOf K) := by subst hK; exact call_tuple_of
theorem kixL (hK : X.K = K) : IxR X (rIxL K) := by subst hK; exact ix_list
theorem kixT (hK : X.K = K) : IxR X (rIxT K) := by subst hK; exact ix_tup
theorem kslL (hK : X.K = K) : SlR X (rSlL K) := by subst hK; exact sl_list
theorem kslT (hK : X.K = K) : SlR X (rSlA K) := by subst hK; exact sl_tupA
theorem kcatT (hK : X.K = K) : OpR X (binaryOp .Add) (rCatA K) := by subst hK; exact op_catA
theorem krepT (hK : X.K = K) : OpR X (binaryOp .Mult) (rRepT K) := by subst hK; exact op_repT
theorem keqD (hK : X.K = K) (hu : X.A.units + 64 < cLine) : OpR X (compareOp .Eq) (rEqD K) := by subst hK; exact op_eqD hu
theorem kneD (hK : X.K = K) (hu : X.A.units + 64 < cLine) : OpR X (compareOp .NotEq) (rNeD K) := by subst hK; exact op_neD hu
theorem kfld (hK : X.K = K) (he : PE X e ta) (hb : attributeBase e f X.env (eval e X.env) = eval e X.env) : PE X (.Attribute e f pos) (tFld K ta f) := by subst hK; exact pe_fld he hb
theorem kfldS (hK : X.K = K) (ha : PE X o ta) (hv : PE X value tv) (hs : swapsWith value (some (.Attribute o f pos')) pos.line X.env = pure false) : PS X (.Assign [.Attribute o f pos'] value pos) (sFld K ta tv f) := by subst hK; exact ps_fld ha hv hs
theorem kpgT (hK : X.K = K) {es : List Expr} {k : Nat} {t : TGs} {n : Nat} (hc : X.calm = true) (h : PGs X es t)
    (hn : (assignEach es X.env).length = n := by rfl) (hst : (assignEach es X.env).findIdx? (·.1) = none := by rfl) : PG X (.Tuple es k pos) (gTup K n t) := by subst hK; exact pg_tup hc h hn hst
theorem kpiL (hK : X.K = K) {tg l : Expr} {tl : TE} (hl : PE X l tl) : PI X tg l (iList K tl) := by subst hK; exact pi_list hl
theorem kpiT (hK : X.K = K) {tg l : Expr} {tl : TE} (hl : PE X l tl) : PI X tg l (iTup K tl) := by subst hK; exact pi_tup hl
theorem kpiE (hK : X.K = K) {ta : TA} {p tpos : Pos} {elts : List Expr} {kk : Nat} (hg : Gl X "enumerate") (hm : X.mg "enumerate" = none) (ha : PA X [e] ta) (hs : starEach [e] X.env = [(false, eval e X.env)] := by rfl) :
    PI X (.Tuple elts kk tpos) (.Call (.Name "enumerate" p) [e] [] pos) (iEnum K ta) := by subst hK; exact pi_enum hg hm ha hs
theorem kpiZ (hK : X.K = K) {e2 : Expr} {ta : TA} {p tpos : Pos} {elts : List Expr} {kk : Nat} (hg : Gl X "zip") (hm : X.mg "zip" = none) (ha : PA X [e, e2] ta)
    (hs : starEach [e, e2] X.env = (false, eval e X.env) :: starEach [e2] X.env := by rfl) (hpl : (backTo pos (starEach [e2] X.env)).any (·.1) = false := by rfl) :
    PI X (.Tuple elts kk tpos) (.Call (.Name "zip" p) [e, e2] [] pos) (iZip K ta) := by subst hK; exact pi_zip hg hm ha hs hpl
theorem kbm0 (hK : X.K = K) {name : Str} {T : String} {id : String} {r : V → List V → Hp → VK → Prop} {to : TE} {apos cpos : Pos} (pa : PlainAttrs T) (slot : Slot T name id) (hty : typeOf (.builtin id) = pure (.type "method_descriptor")) (hm : MtR X id r) (ho : PE X o to)
    (hbase : attributeBase o name X.env (eval o X.env) = eval o X.env := by rfl) (hline : (apos.endLine == cpos.line) = true := by rfl) : PE X (.Call (.Attribute o name apos) [] [] cpos) (tBM0 K T r to) := by subst hK; exact pe_bm0 pa slot hty hm ho hbase hline
theorem kbm (hK : X.K = K) {name : Str} {T : String} {id : String} {r : V → List V → Hp → VK → Prop} {to : TE} {t : TA} {es : List Expr} {apos cpos : Pos} (pa : PlainAttrs T) (slot : Slot T name id) (hty : typeOf (.builtin id) = pure (.type "method_descriptor")) (hm : MtR X id r) (ho : PE X o to) (ha : PA X (e :: es) t)
    (hbase : attributeBase o name X.env (eval o X.env) = eval o X.env := by rfl)
    (hfew : ((backTo cpos (starEach (e :: es) X.env)).all (fun x => !x.1) && (backToKw cpos (keywordEach [] X.env)).all (fun x => x.1.isSome)
      && decide ((e :: es).length + ([] : List Keyword).length + (if ([] : List Keyword).isEmpty then 0 else 1) < 30)) = true := by rfl)
    (hline : (apos.endLine == cpos.line) = true := by rfl) (hs : starEach (e :: es) X.env = (false, eval e X.env) :: starEach es X.env := by rfl) (hplain : (backTo cpos (starEach es X.env)).any (·.1) = false := by rfl) :
    PE X (.Call (.Attribute o name apos) (e :: es) [] cpos) (tBM K T r to t) := by subst hK; exact pe_bm pa slot hty hm ho ha hbase hfew hline hs hplain
/-- is None, by one name -/
abbrev rIsNon : R2 := fun x y H Q => y = .non ∧ Q (.bl (decide (x = .non))) H
abbrev rNotNon : R2 := fun x y H Q => y = .non ∧ Q (.bl (!decide (x = .non))) H
end
end Sky

namespace Sky
open PySem PySem.Spec PyProof.Rows L2

/-! ### for k, x in enumerate(a tuple) -/
/-- enumerate(v) of one argument, by what iter(v) lays -/
theorem en1_meets {thing : Value} {ob : Obj} {Good : Heap → Prop} (B : Begins thing ob Good) :
    Meets (Builtin.«enumerate.__new__» ⟨[.type "enumerate", thing], []⟩) (fun _ Rr st => Good st.heap ∧
      Rr (.ok (.ret (.ref (st.heap.push ob).objs.size))) { st with heap := (st.heap.push ob).push { cls := .type "enumerate", data := .fields #[.none, .bool false, .ref st.heap.objs.size, rawInt 0, .none, .none] } }) :=
  .of_wp fun prog w A Rr st hyp => by
    obtain ⟨hp, g, d, tk, os⟩ := st
    obtain ⟨good, hyp⟩ := hyp
    have hsub := sub_enumerate
    have walk1 : ∀ {A' : Around} {E : Value → Shared → Prop} {Q : Value → Shared → Prop}, Q (.ref hp.objs.size) ⟨hp.push ob, g, d, tk, os⟩ → wpAny (model prog w) A' (pyIter thing) Q E ⟨hp, g, d, tk, os⟩ :=
      fun fin => B.iter prog w _ _ ⟨hp, g, d, tk, os⟩ _ good fin
    wp_walk using walk1
    refine wpAny_stack_any fun stk => wpAny_pure ?_
    split
    · rename_i cl _ _ _ _ _
      cases (cl == Value.type "enumerate") <;> (wp_walk using walk1; exact ⟨_, rfl, hyp⟩)
    · wp_walk using walk1
      exact ⟨_, rfl, hyp⟩
theorem en1_call {prog : Program} {w : World} {A : Around} {E : Value → Shared → Prop} {st : Shared} {thing : Value} {ob : Obj} {Good : Heap → Prop} {Q : Value → Shared → Prop} (B : Begins thing ob Good) (good : Good st.heap)
    (fin : ∀ h', IsEnum h' (st.heap.objs.size + 1) st.heap.objs.size 0 .none → h'.get? st.heap.objs.size = some ob → h'.objs.size = st.heap.objs.size + 2 →
      (∀ b o, st.heap.get? b = some o → h'.get? b = some o) → Q (.ref (st.heap.objs.size + 1)) { st with heap := h' }) :
    wpAny (model prog w) A (call (.type "enumerate") [thing]) Q E st := by
  refine callType_new F.called_enumerate (by decide) (F.typeCall_enumerate_1 _) (F.newCall_enumerate_1 _) (fun obj => F.args_object_init_2 obj _) F.entry_enumerate_new (en1_meets B) ⟨good, ?_⟩
  have sz : (st.heap.push ob).objs.size = st.heap.objs.size + 1 := Heap.size_push ..
  have made : IsEnum ((st.heap.push ob).push { cls := .type "enumerate", data := .fields #[.none, .bool false, .ref st.heap.objs.size, rawInt 0, .none, .none] }) (st.heap.objs.size + 1) st.heap.objs.size 0 .none := by
    have q := Heap.get?_push_size (st.heap.push ob) (o := { cls := .type "enumerate", data := .fields #[.none, .bool false, .ref st.heap.objs.size, rawInt 0, .none, .none] }) rfl
    rw [sz] at q
    exact q
  show _ ∧ _
  rw [sz]
  exact ⟨⟨_, made, rfl⟩, fin _ made (Heap.get?_push_of_some _ (Heap.get?_push_size _ B.free)) (by rw [Heap.size_push, sz]) fun b o x => Heap.get?_push_of_some _ (Heap.get?_push_of_some _ x)⟩

/-- the end of an enumerate: what it walks has ended -/
theorem en_over {prog : Program} {w : World} {A : Around} {E : Value → Shared → Prop} {st : Shared} {e it : Addr} {c : Int} {old : Value} {Q : Option Value → Shared → Prop} {Kp : Heap → Prop} (he : IsEnum st.heap e it c old)
    (ends : ∀ (Q' : Value → Shared → Prop) (E' : Value → Shared → Prop), (∀ h' x, Kp h' → (∃ o, h'.get? x = some o ∧ o.cls = .type "StopIteration") → E' (.ref x) { st with heap := h' }) → wpAny (model prog w) A.in1 (Builtin.SmallTypes.nextOf (.ref it)) Q' E' st)
    (fin : ∀ h', Kp h' → Q none { st with heap := h' }) : wpAny (model prog w) A (pyNext (.ref e)) Q E st := by
  have ty : st.TypeIs (.ref e) "enumerate" := ⟨_, he, rfl⟩
  unfold pyNext
  refine wpAny_bind (wpAny_attempt (wpAny_callSpecial?_slot (name := Str.ofString "__next__") ty F.slot_enumerate_next (wpAny_call_entry F.slot_enumerate_next ty F.entry_enumerate_next ?_ (F.args_enumerate_next_1 _))))
  show wpAny _ _ (field (.ref e) 2 >>= _) _ _ _
  refine wpAny_bind (wpAny_field he rfl (x := .ref it) rfl ?_)
  refine wpAny_bind (ends _ _ fun h' x kp ⟨o, ho, hcl⟩ => ?_)
  exact wpAny_bind (wpAny_isInstance (T := "StopIteration") (b := true) ⟨o, ho, hcl⟩ isSubtype_stop (wpAny_pure (fin _ kp)))

/-- the tuple at a, each item in a new pair with its count -/
def IteT (K : PySem.W.Frag) (a : Addr) : It where
  go := fun i H => ∃ (xs : List V) (x : V), SqT K H a xs ∧ xs[i]? = some x
  yld := fun i H v H' => ∃ T x, v = .ref T ∧ H T = none ∧ H' = upd H T (.tup [.int (i : Nat), x]) ∧ ∀ xs, SqT K H a xs → xs[i]? = some x
  stop := fun i H => ∃ xs : List V, SqT K H a xs ∧ xs.length ≤ i
theorem tup_off {h : Heap} {a e it : Addr} {c : Int} {old : Value} {its : Array Value} (he : IsEnum h e it c old) (ht : h.IsTuple a its) : e ≠ a := fun z => by
  obtain ⟨o, ho, hc, _⟩ := ht
  rw [← z] at ho
  have := he.symm.trans ho
  cases this
  exact absurd hc (by simp)
theorem tit_off {h : Heap} {a e it t : Addr} {i : Nat} {its : Array Value} (he : h.IsTupleIter it t i) (ht : h.IsTuple a its) : a ≠ it := fun z => by
  obtain ⟨o, ho, hc, _⟩ := ht
  obtain ⟨o', ho', hc', _⟩ := he
  rw [z, ho'] at ho
  cases ho
  rw [hc'] at hc
  exact absurd hc (by simp)
theorem turn_enumT {P : Program} {w : World} {K : PySem.W.Frag} {elts : List Expr} {kk : Nat} {tpos : Pos} (a e it : Addr) :
    Turn P w K (.Tuple elts kk tpos) (IteT K a) [e, it] e (fun i h => (∃ old, IsEnum h e it ((i : Nat) : Int) old) ∧ h.IsTupleIter it a i ∧ e ≠ it) where
  mem := List.mem_cons_self
  obj := fun i h stt b hb => by
    obtain ⟨⟨old, he⟩, ⟨o, ho, hc, hd⟩, _⟩ := stt
    rcases List.mem_cons.mp hb with z | z
    · subst z; exact ⟨_, he, fun v q => nomatch q⟩
    · rw [List.mem_singleton] at z
      subst z; exact ⟨o, ho, fun v q => by rw [hd] at q; cases q⟩
  keep := fun i h h' stt k => by
    obtain ⟨⟨old, he⟩, hi, hne⟩ := stt
    exact ⟨⟨old, k e (by simp) _ he⟩, hi.at fun o q => k it (by simp) o q, hne⟩
  item := by
    intro X hP hw hK hc i pins s σ H E I hf stt hg
    subst hP hw hK
    obtain ⟨⟨old, he⟩, hit, hne⟩ := stt
    obtain ⟨xs, x, hq, hx⟩ := hg
    obtain ⟨its, rv, p, hz⟩ := I.tuple hq
    obtain ⟨u, hu, ru⟩ := rv.get hx
    have ht : s.heap.IsTuple a its.toArray := p
    have hel : e < s.heap.objs.size := Heap.lt_size he
    have hil : it < s.heap.objs.size := by obtain ⟨_, q, _⟩ := hit; exact Heap.lt_size q
    have hlen : i < its.toArray.size := by
      have := (List.getElem?_eq_some_iff.mp hu).1
      simpa using this
    have hea : e ≠ a := tup_off he ht
    have hai : a ≠ it := tit_off (e := e) hit ht
    have DD := Draws.tuple (prog := X.prog) (w := X.w) (A := X.A.in1) (I.ok.hd hc) it a hai its.toArray
    refine wpAny_pyNext_enum_itemD DD he ⟨hit, ht⟩ hlen hne (fun z => ?_) fun u' h' tk hu' ho hst' hT hsz hk => ?_
    · rcases List.mem_cons.mp z with z | z
      · exact hne z
      · exact hea (List.mem_singleton.mp z)
    have eu : u' = u := by
      have h1 : its.toArray[i]? = some u := by simpa using hu
      rw [h1] at hu'
      cases hu'
      rfl
    subst eu
    refine ⟨_, rfl, wpAny_letOwnedTupleGo_enum (s := { s with heap := h', toks := tk + 1 }) ho fun h'' he' sb => ?_⟩
    have hT2 : h''.get? s.heap.objs.size = some { cls := .type "tuple", data := .seq #[.int i tk, u'] } := (sb.2 _ (Nat.ne_of_gt hel)).trans hT
    have new : ObjOk X.prog X.w (upd H s.heap.objs.size (.tup [.int (i : Nat), x])) h'' s.heap.objs.size (.tup [.int (i : Nat), x]) := by
      refine ⟨?_, [.int i tk, u'], .cons ⟨_, rfl⟩ (.cons ru .nil), ⟨_, hT2, rfl, _, rfl⟩⟩
      show 2 ≤ sizeLine
      decide
    have I1 : Inv X pins σ (upd H s.heap.objs.size (.tup [.int (i : Nat), x])) { s with heap := h'', toks := tk + 1 } := by
      refine I.turnedNew (ch := [e, it]) (fun b ob hb q => ?_) hf (Nat.le_refl _) new
      have b1 : b ≠ e := fun z => hb (by simp [z])
      have b2 : b ≠ it := fun z => hb (by simp [z])
      exact (sb.2 b b1).trans (hk b ob b1 b2 q)
    refine ⟨.ref s.heap.objs.size, _, I1, rfl, ⟨_, x, rfl, I.hok.fresh (Nat.le_refl _), rfl, fun ys hy => by rw [I.tuple_inj hy hq]; exact hx⟩, ⟨⟨u', ?_⟩, hst'.1.at fun o q => (sb.2 it (Ne.symm hne)).trans q, hne⟩, fun b hb => ?_⟩
    · have e1 : ((i + 1 : Nat) : Int) = (i : Int) + 1 := by omega
      rw [e1]; exact he'
    · have hb' : b < s.heap.objs.size := by
        rcases List.mem_cons.mp hb with z | z
        · rw [z]; exact hel
        · rw [List.mem_singleton.mp z]; exact hil
      rw [upd_ne (Nat.ne_of_lt hb')]
      exact (hf b hb).1
  done := by
    intro X hP hw hK hc i pins s σ H E I hf stt hg
    subst hP hw hK
    obtain ⟨⟨old, he⟩, hit, hne⟩ := stt
    obtain ⟨xs, hq, hx⟩ := hg
    obtain ⟨its, rv, p, hz⟩ := I.tuple hq
    have ht : s.heap.IsTuple a its.toArray := p
    obtain ⟨f0, f1, f2, f3, f4, f5⟩ := hf it (by simp)
    have hai : a ≠ it := tit_off (e := e) hit ht
    have hl := rv.length
    have none_ : its.toArray[i]? = none := by simp; omega
    exact en_over (Kp := Heap.ExtBut it s.heap) he (fun Q' E' k => wpAny_nextOf_tuple_end (I.ok.hd hc) hit ht none_ k) fun h' eb => ⟨rfl, I.turned (t' := s.toks) (fun b o hb q => eb b o hb q) f0 f1 f3 f4 f5⟩
  self := fun A i s Q E stt h => by
    obtain ⟨⟨_, he⟩, _⟩ := stt
    exact wpAny_pyIter_enum he h
def iEnumT (K : PySem.W.Frag) (ta : TA) : TI := fun σ H R => ta σ H fun vs H1 => ∃ a xs, vs = [.ref a] ∧ SqT K H1 a xs ∧ R (IteT K a) H1
theorem pi_enumT {X : Cx} {e : Expr} {ta : TA} {p pos tpos : Pos} {elts : List Expr} {kk : Nat} (hg : Gl X "enumerate") (hm : X.mg "enumerate" = none) (ha : PA X [e] ta) (hs : starEach [e] X.env = [(false, eval e X.env)] := by rfl) :
    PI X (.Tuple elts kk tpos) (.Call (.Name "enumerate" p) [e] [] pos) (iEnumT X.K ta) := by
  refine ⟨fun pins s σ H R I h => ?_⟩
  refine Call_ (ld_blt I hg hm boot_enumerate (PyProof.Rows.callWith_type1 (thn (ha.run pos pins s σ H _ I h) fun us s1 ⟨vs, H1, I1, r1, q1⟩ => ?_) hs rfl))
  obtain ⟨a, xs, ex, hq, q⟩ := q1
  subst ex
  cases r1 with
  | cons r rr =>
    cases rr
    cases r
    obtain ⟨its, rv, p', hz⟩ := I1.tuple hq
    have ht : s1.heap.IsTuple a its.toArray := p'
    refine en1_call (begins_tuple a its.toArray) ht fun h' he hit hsz hk => wpAny_pyIter_enum he ?_
    refine ⟨s1.heap.objs.size + 1, [s1.heap.objs.size + 1, s1.heap.objs.size], _, _, H1, rfl, I1.kept (t' := s1.toks) hk, turn_enumT a (s1.heap.objs.size + 1) s1.heap.objs.size, ⟨⟨.none, he⟩, ⟨_, hit, rfl, rfl⟩, Nat.succ_ne_self _⟩, fun b hb => ?_, q⟩
    have hle : s1.heap.objs.size ≤ b := by
      rcases List.mem_cons.mp hb with z | z
      · rw [z]; exact Nat.le_add_right _ _
      · rw [List.mem_singleton.mp z]; exact Nat.le_refl _
    exact I1.fpOk hle (I1.hok.fresh hle)
theorem walk_enumT {K : PySem.W.Frag} {a : Addr} {xs : List V} : Walk (IteT K a) xs.length (fun H => SqT K H a xs) (YPair (fun i => some (.int (i : Nat))) (fun i => xs[i]?)) where
  goes := fun i _ hi q => ⟨xs, xs[i], q, by simp [hi]⟩
  stops := fun _ q => ⟨xs, q, Nat.le_refl _⟩
  yields := fun i H v H' _ q ⟨T, x, h1, h2, h3, h4⟩ => ⟨T, .int (i : Nat), x, h1, h2, h3, rfl, h4 xs q⟩
end Sky

namespace Sky
open PySem PySem.Spec PyProof.Rows L2

/-! ### for k, (a, b) in enumerate(zip(xs, ys)) -/
/-- a zip, whatever it says of the tuple it gave out -/
abbrev IsZg (h : Heap) (zz TI TO : Addr) (f0 : Value) (f1 : Bool) : Prop :=
  h.get? zz = some { cls := .type "zip", dict := none, data := .fields #[f0, .bool f1, .bool false, .ref TI, .ref TO], slots := #[] }
def Out0 (f0 : Value) : Prop := f0 = .none ∨ ∃ T : Nat, f0 = rawInt (T : Nat)
section
variable {prog : Program} {w : World} {A : Around} {E : Value → Shared → Prop} {st : Shared} {zz TI TO i1 i2 l1 l2 : Addr} {f0 : Value} {f1 : Bool}

theorem own_free (hz : IsZg st.heap zz TI TO f0 f1) (h0 : Out0 f0) :
    (∀ (E' : Value → Shared → Prop) (Q' : Bool → Shared → Prop) (A' : Around), Q' true st → wpAny (model prog w) A' (Builtin.SmallTypes.ownedTupleIsFree (.ref zz)) Q' E' st) ∨ ∃ (T : Nat) (oT : Obj), f0 = rawInt (T : Nat) ∧ st.heap.get? T = some oT := by
  rcases h0 with z | ⟨T, z⟩
  · subst z
    refine .inl fun E' Q' A' q => ?_
    unfold Builtin.SmallTypes.ownedTupleIsFree
    exact wpAny_bind (wpAny_field hz rfl (x := .none) rfl (wpAny_pure q))
  · subst z
    cases hT : st.heap.get? T with
    | some oT => exact .inr ⟨T, oT, rfl, hT⟩
    | none =>
      refine .inl fun E' Q' A' q => ?_
      unfold Builtin.SmallTypes.ownedTupleIsFree
      refine wpAny_bind (wpAny_field hz rfl (x := rawInt T) rfl ?_)
      show wpAny _ _ (loadIfAlive ((T : Int).toNat) >>= _) _ _ st
      rw [Int.toNat_natCast]
      refine wpAny_bind ?_
      have dead : ∀ R : Option Obj → Shared → Prop, R none st → wpAny (model prog w) A' (loadIfAlive T) R E' st := fun R r => by
        have r' : R (st.heap.get? T) st := by rw [hT]; exact r
        exact fun _ _ _ => r'
      refine dead _ ?_
      simp only [Option.isNone_none, if_true]
      exact wpAny_pure q

/-- next of a zip that may use its tuple again -/
theorem zg_item {k1 k2 : Nat} {xs ys : Array Value} {x y a b : Value} {Q : Value → Shared → Prop} (D : ZipApart zz TI TO i1 i2 l1 l2)
    (free : ∀ (E' : Value → Shared → Prop) (Q' : Bool → Shared → Prop) (A' : Around), Q' true st → wpAny (model prog w) A' (Builtin.SmallTypes.ownedTupleIsFree (.ref zz)) Q' E' st)
    (hz : IsZg st.heap zz TI TO f0 f1) (ti : IsPair st.heap TI (.ref i1) (.ref i2)) (to : IsPair st.heap TO a b)
    (w1 : st.heap.IsListIter i1 l1 k1) (w2 : st.heap.IsListIter i2 l2 k2) (p1 : st.heap.IsList l1 xs) (p2 : st.heap.IsList l2 ys) (hx : xs[k1]? = some x) (hy : ys[k2]? = some y)
    (fin : ∀ h', (∃ g0 g1, Out0 g0 ∧ IsZg h' zz TI TO g0 g1) → (∃ a b, IsPair h' TO a b) → h'.IsListIter i1 l1 (k1 + 1) → h'.IsListIter i2 l2 (k2 + 1) → IsPair h' st.heap.objs.size x y → h'.objs.size = st.heap.objs.size + 1 →
      (∀ c o, c ≠ zz → c ≠ TO → c ≠ i1 → c ≠ i2 → st.heap.get? c = some o → h'.get? c = some o) → Q (.ref st.heap.objs.size) { st with heap := h' }) :
    wpAny (model prog w) A (Builtin.«zip.__next__» ⟨[.ref zz], []⟩) (fun out s' => ∃ v, out = .done (.ret v) ∧ Q v s') E st := by
  show wpAny _ _ (field (.ref zz) 2 >>= _) _ _ _
  refine wpAny_bind (wpAny_field hz rfl (x := .bool false) rfl ?_)
  show wpAny _ _ (field (.ref zz) 3 >>= _) _ _ _
  refine wpAny_bind (wpAny_field hz rfl (x := .ref TI) rfl ?_)
  refine wpAny_bind (wpAny_seqItems ti rfl ?_)
  show wpAny _ _ (Builtin.SmallTypes.ownedTupleIsFree (.ref zz) >>= _) _ _ _
  refine wpAny_bind (free _ _ _ ?_)
  simp only [if_true]
  refine wpAny_bind (wpAny_rule ?_)
  refine wpAny_bind (wpAny_field hz rfl (x := .ref TO) rfl ?_)
  refine wpAny_bind (wpAny_setField_rec hz (by simp) fun ha hza sa => ?_)
  replace hza : IsZg ha zz TI TO .ellipsis f1 := hza
  refine wpAny_bind ?_
  simp only [List.zipIdx_cons, List.zipIdx_nil, List.forIn_cons, List.forIn_nil]
  refine wpAny_bind (wpAny_bind (wpAny_onRaise ?_))
  show wpAny _ _ (Builtin.SmallTypes.nextOf (.ref i1) >>= _) _ _ _
  refine wpAny_bind (wpAny_nextOf_list_item (w1.extBut sa.extBut D.i1z) (p1.extBut sa.extBut D.l1z) hx fun hb w1b sb => wpAny_pure ?_)
  have tob : IsPair hb TO a b := sb.extBut _ _ D.TOi1 (sa.extBut _ _ D.TOz to)
  refine wpAny_bind (wpAny_seqItems tob rfl ?_)
  refine wpAny_bind (wpAny_updateSeq_pair tob fun hc toc sc => ?_)
  replace toc : IsPair hc TO x b := toc
  refine wpAny_bind (wpAny_letGo (wpAny_pure ?_))
  refine wpAny_bind (wpAny_bind (wpAny_onRaise ?_))
  show wpAny _ _ (Builtin.SmallTypes.nextOf (.ref i2) >>= _) _ _ _
  have w2c := ((w2.extBut sa.extBut D.i2z).extBut sb.extBut D.i12.symm).extBut sc.extBut D.TOi2.symm
  have p2c := ((p2.extBut sa.extBut D.l2z).extBut sb.extBut D.l2i1).extBut sc.extBut D.l2TO
  refine wpAny_bind (wpAny_nextOf_list_item w2c p2c hy fun hd w2d sd => wpAny_pure ?_)
  have tod : IsPair hd TO x b := sd.extBut _ _ D.TOi2 toc
  refine wpAny_bind (wpAny_seqItems tod rfl ?_)
  refine wpAny_bind (wpAny_updateSeq_pair tod fun he toe se => ?_)
  replace toe : IsPair he TO x y := toe
  refine wpAny_bind (wpAny_letGo (wpAny_pure (wpAny_pure ?_)))
  refine wpAny_bind (wpAny_seqItems toe rfl ?_)
  refine wpAny_bind (wpAny_newTuple ?_)
  have size_ : he.objs.size = st.heap.objs.size := by rw [se.1, sd.1, sc.1, sb.1, sa.1]
  have hze : IsZg he zz TI TO .ellipsis f1 := se.extBut _ _ D.TOz.symm (sd.extBut _ _ D.i2z.symm (sc.extBut _ _ D.TOz.symm (sb.extBut _ _ D.i1z.symm hza)))
  have keep_ : ∀ c o, c ≠ zz → c ≠ TO → c ≠ i1 → c ≠ i2 → st.heap.get? c = some o → he.get? c = some o := fun c o c1 c2 c3 c4 q =>
    se.extBut _ _ c2 (sd.extBut _ _ c4 (sc.extBut _ _ c2 (sb.extBut _ _ c3 (sa.extBut _ _ c1 q))))
  have w1e := ((w1b.extBut sc.extBut D.TOi1.symm).extBut sd.extBut D.i12).extBut se.extBut D.TOi1.symm
  have w2e := w2d.extBut se.extBut D.TOi2.symm
  have zlt : zz < he.objs.size := Heap.lt_size hze
  show wpAny _ _ (Builtin.SmallTypes.ownedTupleHandOut (.ref zz) (.ref he.objs.size) >>= _) _ _ _
  refine wpAny_bind ?_
  unfold Builtin.SmallTypes.ownedTupleHandOut
  have hzf : IsZg (he.push { cls := .type "tuple", data := .seq #[x, y] }) zz TI TO .ellipsis f1 := Heap.get?_push_of_some _ hze
  refine wpAny_bind (wpAny_setField_rec hzf (by simp) fun hg hzg sg => ?_)
  replace hzg : IsZg hg zz TI TO (rawInt he.objs.size) f1 := hzg
  refine wpAny_setField_rec hzg (by simp) fun hh hzh sh => ?_
  replace hzh : IsZg hh zz TI TO (rawInt he.objs.size) false := hzh
  have up : ∀ c o, c ≠ zz → he.get? c = some o → hh.get? c = some o := fun c o c1 q => sh.extBut _ _ c1 (sg.extBut _ _ c1 (Heap.get?_push_of_some _ q))
  have pair_ : IsPair hh he.objs.size x y := sh.extBut _ _ (Nat.ne_of_gt zlt) (sg.extBut _ _ (Nat.ne_of_gt zlt) (Heap.get?_push_size _ rfl))
  have size2 : hh.objs.size = he.objs.size + 1 := by rw [sh.1, sg.1, Heap.size_push]
  rw [size_] at pair_ size2 hzh
  refine wpAny_pure ⟨_, rfl, ?_⟩
  show Q (.ref he.objs.size) _
  rw [size_]
  exact fin hh ⟨_, _, .inr ⟨_, rfl⟩, hzh⟩ ⟨_, _, up _ _ D.TOz toe⟩ (w1e.at fun o q => up _ o D.i1z q) (w2e.at fun o q => up _ o D.i2z q) pair_ size2 fun c o c1 c2 c3 c4 q => up c o c1 (keep_ c o c1 c2 c3 c4 q)

/-- the end of one that may use its tuple again -/
theorem zg_end {k1 k2 : Nat} {xs ys : Array Value} {a b : Value} {Q : Fin → Shared → Prop} (calm : A.handled = none) (D : ZipApart zz TI TO i1 i2 l1 l2)
    (free : ∀ (E' : Value → Shared → Prop) (Q' : Bool → Shared → Prop) (A' : Around), Q' true st → wpAny (model prog w) A' (Builtin.SmallTypes.ownedTupleIsFree (.ref zz)) Q' E' st)
    (hz : IsZg st.heap zz TI TO f0 f1) (ti : IsPair st.heap TI (.ref i1) (.ref i2)) (to : IsPair st.heap TO a b)
    (w1 : st.heap.IsListIter i1 l1 k1) (w2 : st.heap.IsListIter i2 l2 k2) (p1 : st.heap.IsList l1 xs) (p2 : st.heap.IsList l2 ys) (over : xs[k1]? = none ∨ ys[k2]? = none)
    (fin : ∀ h' e, (∀ c o, c ≠ zz → c ≠ TO → c ≠ i1 → c ≠ i2 → st.heap.get? c = some o → h'.get? c = some o) → (∃ o, h'.get? e = some o ∧ o.cls = .type "StopIteration") → E (.ref e) { st with heap := h' }) :
    wpAny (model prog w) A (Builtin.«zip.__next__» ⟨[.ref zz], []⟩) Q E st := by
  show wpAny _ _ (field (.ref zz) 2 >>= _) _ _ _
  refine wpAny_bind (wpAny_field hz rfl (x := .bool false) rfl ?_)
  show wpAny _ _ (field (.ref zz) 3 >>= _) _ _ _
  refine wpAny_bind (wpAny_field hz rfl (x := .ref TI) rfl ?_)
  refine wpAny_bind (wpAny_seqItems ti rfl ?_)
  show wpAny _ _ (Builtin.SmallTypes.ownedTupleIsFree (.ref zz) >>= _) _ _ _
  refine wpAny_bind (free _ _ _ ?_)
  simp only [if_true]
  refine wpAny_bind (wpAny_rule ?_)
  refine wpAny_bind (wpAny_field hz rfl (x := .ref TO) rfl ?_)
  refine wpAny_bind (wpAny_setField_rec hz (by simp) fun ha hza sa => ?_)
  replace hza : IsZg ha zz TI TO .ellipsis f1 := hza
  refine wpAny_bind ?_
  simp only [List.zipIdx_cons, List.zipIdx_nil, List.forIn_cons, List.forIn_nil]
  refine wpAny_bind (wpAny_bind (wpAny_onRaise ?_))
  show wpAny _ _ (Builtin.SmallTypes.nextOf (.ref i1) >>= _) _ _ _
  cases hx : xs[k1]? with
  | none =>
    refine wpAny_bind (wpAny_nextOf_list_end calm (w1.extBut sa.extBut D.i1z) (p1.extBut sa.extBut D.l1z) hx fun hb e sb ex => ?_)
    obtain ⟨oe, hoe, hce⟩ := ex
    have hzb : IsZg hb zz TI TO .ellipsis f1 := sb _ _ D.i1z.symm hza
    have off : e ≠ zz := fun q => by subst q; rw [hzb] at hoe; cases hoe; simp at hce
    exact wpAny_setField_rec hzb (by simp) fun hc _ sc => fin hc e (fun c o c1 _ c3 _ q => sc.extBut _ _ c1 (sb _ _ c3 (sa.extBut _ _ c1 q))) ⟨oe, sc.extBut _ _ off hoe, hce⟩
  | some x =>
    have hy : ys[k2]? = none := by
      rcases over with q | q
      · rw [hx] at q; cases q
      · exact q
    refine wpAny_bind (wpAny_nextOf_list_item (w1.extBut sa.extBut D.i1z) (p1.extBut sa.extBut D.l1z) hx fun hb w1b sb => wpAny_pure ?_)
    have tob : IsPair hb TO a b := sb.extBut _ _ D.TOi1 (sa.extBut _ _ D.TOz to)
    refine wpAny_bind (wpAny_seqItems tob rfl ?_)
    refine wpAny_bind (wpAny_updateSeq_pair tob fun hc toc sc => ?_)
    refine wpAny_bind (wpAny_letGo (wpAny_pure ?_))
    refine wpAny_bind (wpAny_bind (wpAny_onRaise ?_))
    show wpAny _ _ (Builtin.SmallTypes.nextOf (.ref i2) >>= _) _ _ _
    have w2c := ((w2.extBut sa.extBut D.i2z).extBut sb.extBut D.i12.symm).extBut sc.extBut D.TOi2.symm
    have p2c := ((p2.extBut sa.extBut D.l2z).extBut sb.extBut D.l2i1).extBut sc.extBut D.l2TO
    refine wpAny_bind (wpAny_nextOf_list_end calm w2c p2c hy fun hd e sd ex => ?_)
    obtain ⟨oe, hoe, hce⟩ := ex
    have hzd : IsZg hd zz TI TO .ellipsis f1 := sd _ _ D.i2z.symm (sc.extBut _ _ D.TOz.symm (sb.extBut _ _ D.i1z.symm hza))
    have off : e ≠ zz := fun q => by subst q; rw [hzd] at hoe; cases hoe; simp at hce
    exact wpAny_setField_rec hzd (by simp) fun he _ se => fin he e (fun c o c1 c2 c3 c4 q => se.extBut _ _ c1 (sd _ _ c4 (sc.extBut _ _ c2 (sb.extBut _ _ c3 (sa.extBut _ _ c1 q))))) ⟨oe, se.extBut _ _ off hoe, hce⟩
end
end Sky

namespace Sky
open PySem PySem.Spec PyProof.Rows L2
section
variable {prog : Program} {w : World} {A : Around} {E : Value → Shared → Prop} {st : Shared} {zz TI TO i1 i2 l1 l2 : Addr} {f0 : Value} {f1 : Bool}
theorem zg_next {k1 k2 : Nat} {xs ys : Array Value} {x y a b : Value} {Q : Value → Shared → Prop} (D : ZipApart zz TI TO i1 i2 l1 l2) (h0 : Out0 f0)
    (hz : IsZg st.heap zz TI TO f0 f1) (ti : IsPair st.heap TI (.ref i1) (.ref i2)) (to : IsPair st.heap TO a b)
    (w1 : st.heap.IsListIter i1 l1 k1) (w2 : st.heap.IsListIter i2 l2 k2) (p1 : st.heap.IsList l1 xs) (p2 : st.heap.IsList l2 ys) (hx : xs[k1]? = some x) (hy : ys[k2]? = some y)
    (fin : ∀ h', (∃ g0 g1, Out0 g0 ∧ IsZg h' zz TI TO g0 g1) → (∃ a b, IsPair h' TO a b) → h'.IsListIter i1 l1 (k1 + 1) → h'.IsListIter i2 l2 (k2 + 1) → IsPair h' st.heap.objs.size x y → h'.objs.size = st.heap.objs.size + 1 →
      (∀ c o, c ≠ zz → c ≠ TO → c ≠ i1 → c ≠ i2 → st.heap.get? c = some o → h'.get? c = some o) → Q (.ref st.heap.objs.size) { st with heap := h' }) :
    wpAny (model prog w) A (Builtin.SmallTypes.nextOf (.ref zz)) Q E st := by
  have ty : st.TypeIs (.ref zz) "zip" := ⟨_, hz, rfl⟩
  unfold Builtin.SmallTypes.nextOf
  refine wpAny_bind (wpAny_callSpecial?_slot (name := Str.ofString "__next__") ty F.slot_zip_next (wpAny_call_entry F.slot_zip_next ty F.entry_zip_next ?_ (F.args_zip_next_1 _)))
  rcases own_free hz h0 with free | ⟨T, oT, e0, alive⟩
  · exact zg_item D free hz ti to w1 w2 p1 p2 hx hy fun h' a1 a2 a3 a4 a5 a6 a7 => wpAny_pure (fin h' a1 a2 a3 a4 a5 a6 a7)
  · subst e0
    exact zip_next_item_held D hz alive ti w1 w2 p1 p2 hx hy fun h' a1 a3 a4 a5 a6 a7 => wpAny_pure (fin h' ⟨_, _, .inr ⟨T, rfl⟩, a1⟩ ⟨_, _, a7 _ _ D.TOz D.TOi1 D.TOi2 to⟩ a3 a4 a5 a6 fun c o c1 _ c3 c4 q => a7 c o c1 c3 c4 q)
theorem zg_over {k1 k2 : Nat} {xs ys : Array Value} {a b : Value} {Q : Value → Shared → Prop} (calm : A.handled = none) (D : ZipApart zz TI TO i1 i2 l1 l2) (h0 : Out0 f0)
    (hz : IsZg st.heap zz TI TO f0 f1) (ti : IsPair st.heap TI (.ref i1) (.ref i2)) (to : IsPair st.heap TO a b)
    (w1 : st.heap.IsListIter i1 l1 k1) (w2 : st.heap.IsListIter i2 l2 k2) (p1 : st.heap.IsList l1 xs) (p2 : st.heap.IsList l2 ys) (over : xs[k1]? = none ∨ ys[k2]? = none)
    (fin : ∀ h' e, (∀ c o, c ≠ zz → c ≠ TO → c ≠ i1 → c ≠ i2 → st.heap.get? c = some o → h'.get? c = some o) → (∃ o, h'.get? e = some o ∧ o.cls = .type "StopIteration") → E (.ref e) { st with heap := h' }) :
    wpAny (model prog w) A (Builtin.SmallTypes.nextOf (.ref zz)) Q E st := by
  have ty : st.TypeIs (.ref zz) "zip" := ⟨_, hz, rfl⟩
  unfold Builtin.SmallTypes.nextOf
  refine wpAny_bind (wpAny_callSpecial?_slot (name := Str.ofString "__next__") ty F.slot_zip_next (wpAny_call_entry F.slot_zip_next ty F.entry_zip_next ?_ (F.args_zip_next_1 _)))
  rcases own_free hz h0 with free | ⟨T, oT, e0, alive⟩
  · exact zg_end calm D free hz ti to w1 w2 p1 p2 over fin
  · subst e0
    exact zip_next_end_held calm D hz alive ti w1 w2 p1 p2 over fun h' e a1 a2 => fin h' e (fun c o c1 _ c3 c4 q => a1 c o c1 c3 c4 q) a2

/-- a step of enumerate over anything that gives one item, laying new objects if it likes -/
theorem en_step {e it : Addr} {c : Int} {old : Value} {Good : Value → Heap → Nat → Prop} {Q : Option Value → Shared → Prop}
    (gives : ∀ (R : Value → Shared → Prop) (E' : Value → Shared → Prop), (∀ v h1 tk, Good v h1 tk → IsEnum h1 e it c old → R v { st with heap := h1, toks := tk }) → wpAny (model prog w) A.in1 (Builtin.SmallTypes.nextOf (.ref it)) R E' st)
    (he : IsEnum st.heap e it c old)
    (fin : ∀ v h1 tk h', Good v h1 tk → IsEnumOut h' e it (c + 1) v h1.objs.size → h'.get? h1.objs.size = some { cls := .type "tuple", data := .seq #[.int c tk, v] } → h'.objs.size = h1.objs.size + 1 →
      (∀ b o, b ≠ e → h1.get? b = some o → h'.get? b = some o) → Q (some (.ref h1.objs.size)) { st with heap := h', toks := tk + 1 }) :
    wpAny (model prog w) A (pyNext (.ref e)) Q E st := by
  have ty : st.TypeIs (.ref e) "enumerate" := ⟨_, he, rfl⟩
  unfold pyNext
  refine wpAny_bind (wpAny_attempt (wpAny_callSpecial?_slot (name := Str.ofString "__next__") ty F.slot_enumerate_next (wpAny_call_entry F.slot_enumerate_next ty F.entry_enumerate_next ?_ (F.args_enumerate_next_1 _))))
  obtain ⟨hp, g, d, tk0, os⟩ := st
  show wpAny _ _ (field (.ref e) 2 >>= _) _ _ _
  refine wpAny_bind (wpAny_field he rfl (x := .ref it) rfl ?_)
  refine wpAny_bind (gives _ _ fun v h1 tk good he1 => ?_)
  show wpAny _ _ (field (.ref e) 3 >>= _) _ _ (⟨h1, g, d, tk, os⟩ : Shared)
  refine wpAny_bind (wpAny_field he1 rfl (x := rawInt c) rfl ?_)
  show wpAny _ _ (field (.ref e) 4 >>= _) _ _ (⟨h1, g, d, tk, os⟩ : Shared)
  refine wpAny_bind (wpAny_field he1 rfl (x := .none) rfl ?_)
  show wpAny _ _ (mkInt c >>= _) _ _ (⟨h1, g, d, tk, os⟩ : Shared)
  refine wpAny_bind (wpAny_mkInt ?_)
  show wpAny _ _ (setField (.ref e) 3 (rawInt (c + 1)) >>= _) _ _ (⟨h1, g, d, tk + 1, os⟩ : Shared)
  refine wpAny_bind (wpAny_setField_rec he1 (by simp) fun h2 he2 s2 => ?_)
  replace s2 : Heap.SameBut e h1 h2 := s2
  replace he2 : IsEnum h2 e it (c + 1) old := he2
  show wpAny _ _ (setField (.ref e) 4 .none >>= _) _ _ (⟨h2, g, d, tk + 1, os⟩ : Shared)
  refine wpAny_bind (wpAny_setField_rec he2 (by simp) fun h3 he3 s3 => ?_)
  replace s3 : Heap.SameBut e h2 h3 := s3
  replace he3 : IsEnum h3 e it (c + 1) old := he3
  show wpAny _ _ (newTuple [.int c tk, v] >>= _) _ _ (⟨h3, g, d, tk + 1, os⟩ : Shared)
  refine wpAny_bind (wpAny_newTuple ?_)
  have he4 : IsEnum (h3.push { cls := .type "tuple", data := .seq #[.int c tk, v] }) e it (c + 1) old := Heap.get?_push_of_some _ he3
  have hsz : h3.objs.size = h1.objs.size := by rw [s3.1, s2.1]
  have hel : e < h1.objs.size := Heap.lt_size he1
  have ht4 : (h3.push { cls := .type "tuple", data := .seq #[.int c tk, v] }).get? h1.objs.size = some { cls := .type "tuple", data := .seq #[.int c tk, v] } := by
    rw [← hsz]; exact Heap.get?_push_size _ rfl
  have hz4 : (h3.push { cls := .type "tuple", data := .seq #[.int c tk, v] }).objs.size = h1.objs.size + 1 := by rw [Heap.size_push, hsz]
  have hk4 : ∀ b o, b ≠ e → h1.get? b = some o → (h3.push { cls := .type "tuple", data := .seq #[.int c tk, v] }).get? b = some o := fun b o hb q => Heap.get?_push_of_some _ (s3.extBut b o hb (s2.extBut b o hb q))
  rw [hsz]
  generalize h3.push { cls := .type "tuple", data := .seq #[.int c tk, v] } = h4 at he4 ht4 hz4 hk4
  show wpAny _ _ (Builtin.SmallTypes.ownedTupleIsFree (.ref e) >>= _) _ _ (⟨h4, g, d, tk + 1, os⟩ : Shared)
  refine wpAny_bind ?_
  unfold Builtin.SmallTypes.ownedTupleIsFree
  refine wpAny_bind (wpAny_field he4 rfl (x := .none) rfl (wpAny_pure ?_))
  simp only [if_true]
  refine wpAny_bind (wpAny_rule ?_)
  refine wpAny_bind (wpAny_field he4 rfl (x := old) rfl ?_)
  refine wpAny_bind (wpAny_setField_rec he4 (by simp) fun h5 he5 s5 => ?_)
  replace s5 : Heap.SameBut e h4 h5 := s5
  replace he5 : IsEnum h5 e it (c + 1) v := he5
  show wpAny _ _ (Builtin.SmallTypes.ownedTupleHandOut (.ref e) (.ref h1.objs.size) >>= _) _ _ (⟨h5, g, d, tk + 1, os⟩ : Shared)
  refine wpAny_bind ?_
  unfold Builtin.SmallTypes.ownedTupleHandOut
  refine wpAny_bind (wpAny_setField_rec he5 (by simp) fun h6 he6 s6 => ?_)
  replace s6 : Heap.SameBut e h5 h6 := s6
  replace he6 : IsEnumOut h6 e it (c + 1) v h1.objs.size := he6
  refine wpAny_setField_rec he6 (by simp) fun h7 he7 s7 => ?_
  replace s7 : Heap.SameBut e h6 h7 := s7
  replace he7 : IsEnumOut h7 e it (c + 1) v h1.objs.size := he7
  have up : ∀ b o, b ≠ e → h4.get? b = some o → h7.get? b = some o := fun b o hb q => s7.extBut b o hb (s6.extBut b o hb (s5.extBut b o hb q))
  refine wpAny_bind (wpAny_letGo (wpAny_pure ⟨_, rfl, wpAny_pure (fin v h1 tk h7 good he7 (up _ _ (Nat.ne_of_gt hel) ht4) ?_ fun b o hb q => up b o hb (hk4 b o hb q))⟩))
  rw [s7.1, s6.1, s5.1, hz4]
end
end Sky

namespace Sky
open PySem PySem.Spec PyProof.Rows L2
/-- the lists at a and b, each pair of items in a new pair with its count -/
def Itez (K : PySem.W.Frag) (a b : Addr) : It where
  go := fun i H => ∃ (xs ys : List V) (x y : V), SqL K H a xs ∧ SqL K H b ys ∧ xs[i]? = some x ∧ ys[i]? = some y
  yld := fun i H v H' => ∃ T1 T x y, v = .ref T ∧ H T1 = none ∧ H T = none ∧ T ≠ T1 ∧ H' = upd (upd H T1 (.tup [x, y])) T (.tup [.int (i : Nat), .ref T1]) ∧ (∀ xs, SqL K H a xs → xs[i]? = some x) ∧ ∀ ys, SqL K H b ys → ys[i]? = some y
  stop := fun i H => ∃ xs ys : List V, SqL K H a xs ∧ SqL K H b ys ∧ (xs.length ≤ i ∨ ys.length ≤ i)
structure EzSt (h : Heap) (e zz TI TO i1 i2 a b : Addr) (i : Nat) : Prop where
  en : ∃ old, IsEnum h e zz ((i : Nat) : Int) old
  zg : ∃ f0 f1, Out0 f0 ∧ IsZg h zz TI TO f0 f1
  ti : IsPair h TI (.ref i1) (.ref i2)
  to : ∃ x y, IsPair h TO x y
  w1 : h.IsListIter i1 a i
  w2 : h.IsListIter i2 b i
theorem six {c e z TI TO i1 i2 : Addr} (h : c ∈ [e, z, TI, TO, i1, i2]) : c = e ∨ c = z ∨ c = TI ∨ c = TO ∨ c = i1 ∨ c = i2 := by simpa using h
theorem EzSt.ob {h : Heap} {e zz TI TO i1 i2 a b : Addr} {i : Nat} (S : EzSt h e zz TI TO i1 i2 a b i) : ∀ c ∈ [e, zz, TI, TO, i1, i2], ∃ o, h.get? c = some o ∧ ∀ v, o.data ≠ .cell v := fun c hc => by
  obtain ⟨old, he⟩ := S.en
  obtain ⟨f0, f1, _, hz⟩ := S.zg
  obtain ⟨x, y, hTO⟩ := S.to
  obtain ⟨o1, e1, _, d1⟩ := S.w1
  obtain ⟨o2, e2, _, d2⟩ := S.w2
  rcases six hc with q | q | q | q | q | q
  · rw [q]; exact ⟨_, he, fun v z => nomatch z⟩
  · rw [q]; exact ⟨_, hz, fun v z => nomatch z⟩
  · rw [q]; exact ⟨_, S.ti, fun v z => nomatch z⟩
  · rw [q]; exact ⟨_, hTO, fun v z => nomatch z⟩
  · rw [q]; exact ⟨o1, e1, fun v z => by rw [d1] at z; cases z⟩
  · rw [q]; exact ⟨o2, e2, fun v z => by rw [d2] at z; cases z⟩
theorem EzSt.fr {h h' : Heap} {e zz TI TO i1 i2 a b : Addr} {i : Nat} (S : EzSt h e zz TI TO i1 i2 a b i) (k : ∀ c ∈ [e, zz, TI, TO, i1, i2], ∀ o, h.get? c = some o → h'.get? c = some o) : EzSt h' e zz TI TO i1 i2 a b i := by
  obtain ⟨old, he⟩ := S.en
  obtain ⟨f0, f1, h0, hz⟩ := S.zg
  obtain ⟨x, y, hTO⟩ := S.to
  exact ⟨⟨old, k e (by simp) _ he⟩, ⟨f0, f1, h0, k zz (by simp) _ hz⟩, k TI (by simp) _ S.ti, ⟨x, y, k TO (by simp) _ hTO⟩, S.w1.at fun o q => k i1 (by simp) o q, S.w2.at fun o q => k i2 (by simp) o q⟩
structure EzApart (e zz TI TO i1 i2 a b : Addr) : Prop extends ZipApart zz TI TO i1 i2 a b where
  ez : e ≠ zz
  eTI : e ≠ TI
  eTO : e ≠ TO
  e1 : e ≠ i1
  e2 : e ≠ i2
/-- what holds when the zip has given its pair -/
structure EzMid (h h1 : Heap) (e zz TI TO i1 i2 a b : Addr) (i : Nat) (u u2 : Value) : Prop where
  zg : ∃ g0 g1, Out0 g0 ∧ IsZg h1 zz TI TO g0 g1
  to : ∃ x y, IsPair h1 TO x y
  ti : IsPair h1 TI (.ref i1) (.ref i2)
  w1 : h1.IsListIter i1 a (i + 1)
  w2 : h1.IsListIter i2 b (i + 1)
  pr : IsPair h1 h.objs.size u u2
  sz : h1.objs.size = h.objs.size + 1
  kp : ∀ c o, c ≠ zz → c ≠ TO → c ≠ i1 → c ≠ i2 → h.get? c = some o → h1.get? c = some o
theorem turn_ez {P : Program} {w : World} {K : PySem.W.Frag} {elts : List Expr} {kk : Nat} {tpos : Pos} {a b e zz TI TO i1 i2 : Addr} (D : EzApart e zz TI TO i1 i2 a b) :
    Turn P w K (.Tuple elts kk tpos) (Itez K a b) [e, zz, TI, TO, i1, i2] e (fun i h => EzSt h e zz TI TO i1 i2 a b i) where
  mem := List.mem_cons_self
  obj := fun i h S => S.ob
  keep := fun i h h' S k => S.fr k
  item := by
    intro X hP hw hK hc i pins s σ H E I hf S hg
    subst hP hw hK
    obtain ⟨xs, ys, x, y, hqx, hqy, hx, hy⟩ := hg
    obtain ⟨its, rv, p, _⟩ := I.list hqx
    obtain ⟨its2, rv2, p2, _⟩ := I.list hqy
    obtain ⟨u, hu, ru⟩ := rv.get hx
    obtain ⟨u2, hu2, ru2⟩ := rv2.get hy
    obtain ⟨old, he⟩ := S.en
    obtain ⟨f0, f1, h0, hz⟩ := S.zg
    obtain ⟨x0, y0, hTO⟩ := S.to
    have hel : e < s.heap.objs.size := Heap.lt_size he
    have below : ∀ c ∈ [e, zz, TI, TO, i1, i2], c < s.heap.objs.size := fun c hcm => by
      obtain ⟨o, q, _⟩ := S.ob c hcm
      exact Heap.lt_size q
    refine en_step (Good := fun v h1 tk => v = .ref s.heap.objs.size ∧ tk = s.toks ∧ EzMid s.heap h1 e zz TI TO i1 i2 a b i u u2) (fun R E' q => ?_) he fun v h1 tk h' ⟨ev, etk, M⟩ ho hT hsz hk => ?_
    · refine zg_next D.toZipApart h0 hz S.ti hTO S.w1 S.w2 p.isList p2.isList (x := u) (y := u2) (by simpa using hu) (by simpa using hu2) fun h1 a1 a2 a3 a4 a5 a6 a7 => ?_
      exact q _ h1 s.toks ⟨rfl, rfl, ⟨a1, a2, a7 _ _ D.TIz D.TITO D.TIi1 D.TIi2 S.ti, a3, a4, a5, a6, a7⟩⟩ (a7 _ _ D.ez D.eTO D.e1 D.e2 he)
    · subst ev etk
      have hel1 : e < h1.objs.size := by rw [M.sz]; exact Nat.lt_succ_of_lt hel
      refine ⟨_, rfl, wpAny_letOwnedTupleGo_enum (s := { s with heap := h', toks := s.toks + 1 }) ho fun h'' he' sb => ?_⟩
      have up : ∀ c o, c ≠ e → h1.get? c = some o → h''.get? c = some o := fun c o c1 q => (sb.2 c c1).trans (hk c o c1 q)
      have nT1 : s.heap.objs.size ≠ e := Nat.ne_of_gt hel
      have nT : h1.objs.size ≠ e := Nat.ne_of_gt hel1
      have hT1 : IsPair h'' s.heap.objs.size u u2 := up _ _ nT1 M.pr
      have hTT : h''.get? h1.objs.size = some { cls := .type "tuple", data := .seq #[.int i s.toks, .ref s.heap.objs.size] } := (sb.2 _ nT).trans hT
      have new1 : ObjOk X.prog X.w (upd H s.heap.objs.size (.tup [x, y])) h1 s.heap.objs.size (.tup [x, y]) := by
        refine ⟨?_, [u, u2], .cons ru (.cons ru2 .nil), ⟨_, M.pr, rfl, _, rfl⟩⟩
        show 2 ≤ sizeLine
        decide
      have hH1 : H s.heap.objs.size = none := I.hok.fresh (Nat.le_refl _)
      have hHT : H h1.objs.size = none := I.hok.fresh (by rw [M.sz]; omega)
      have I1 : Inv X pins σ (upd H s.heap.objs.size (.tup [x, y])) { s with heap := h1, toks := s.toks } := by
        refine I.turnedNew (ch := [e, zz, TI, TO, i1, i2]) (fun c o hb q => ?_) hf (Nat.le_refl _) new1
        have off : ∀ d ∈ [e, zz, TI, TO, i1, i2], c ≠ d := fun d hd z => hb (by rw [z]; exact hd)
        exact M.kp c o (off _ (by simp)) (off _ (by simp)) (off _ (by simp)) (off _ (by simp)) q
      have hf1 : ∀ c ∈ [e], FpOk X pins (upd H s.heap.objs.size (.tup [x, y])) c := fun c hcm => by
        obtain ⟨q1, q2⟩ := hf c (by rw [List.mem_singleton.mp hcm]; simp)
        have lt_ : c ≠ s.heap.objs.size := Nat.ne_of_lt (below c (by rw [List.mem_singleton.mp hcm]; simp))
        exact ⟨by rw [upd_ne lt_]; exact q1, q2⟩
      have neT : h1.objs.size ≠ s.heap.objs.size := by rw [M.sz]; omega
      have new2 : ObjOk X.prog X.w (upd (upd H s.heap.objs.size (.tup [x, y])) h1.objs.size (.tup [.int (i : Nat), .ref s.heap.objs.size])) h'' h1.objs.size (.tup [.int (i : Nat), .ref s.heap.objs.size]) := by
        refine ⟨?_, [.int i s.toks, .ref s.heap.objs.size], .cons ⟨_, rfl⟩ (.cons rfl .nil), ⟨_, hTT, rfl, _, rfl⟩⟩
        show 2 ≤ sizeLine
        decide
      have I2 := I1.turnedNew (t' := s.toks + 1) (h' := h'') (ch := [e]) (fun c o hb q => up c o (fun z => hb (by simp [z])) q) hf1 (Nat.le_refl _) new2
      refine ⟨.ref h1.objs.size, _, I2, rfl, ⟨s.heap.objs.size, h1.objs.size, x, y, rfl, hH1, hHT, neT, rfl, fun l hl => by rw [I.list_inj hl hqx]; exact hx, fun l hl => by rw [I.list_inj hl hqy]; exact hy⟩, ?_, fun c hcm => ?_⟩
      · obtain ⟨g0, g1, o0, zg⟩ := M.zg
        obtain ⟨x9, y9, t9⟩ := M.to
        refine ⟨⟨.ref s.heap.objs.size, ?_⟩, ⟨g0, g1, o0, up _ _ (Ne.symm D.ez) zg⟩, up _ _ (Ne.symm D.eTI) M.ti, ⟨x9, y9, up _ _ (Ne.symm D.eTO) t9⟩, M.w1.at fun o q => up _ o (Ne.symm D.e1) q, M.w2.at fun o q => up _ o (Ne.symm D.e2) q⟩
        · have e1 : ((i + 1 : Nat) : Int) = (i : Int) + 1 := by omega
          rw [e1]; exact he'
      · have l1 := below c hcm
        rw [upd_ne (by rw [M.sz]; exact Nat.ne_of_lt (Nat.lt_succ_of_lt l1)), upd_ne (Nat.ne_of_lt l1)]
        exact (hf c hcm).1
  done := by
    intro X hP hw hK hc i pins s σ H E I hf S hg
    subst hP hw hK
    obtain ⟨xs, ys, hqx, hqy, hend⟩ := hg
    obtain ⟨its, rv, p, _⟩ := I.list hqx
    obtain ⟨its2, rv2, p2, _⟩ := I.list hqy
    have l1 := rv.length
    have l2 := rv2.length
    obtain ⟨old, he⟩ := S.en
    obtain ⟨f0, f1, h0, hz⟩ := S.zg
    obtain ⟨x0, y0, hTO⟩ := S.to
    have hov : its.toArray[i]? = none ∨ its2.toArray[i]? = none := by
      rcases hend with q | q
      · exact .inl (by simp; omega)
      · exact .inr (by simp; omega)
    refine en_over (Kp := fun h' => ∀ c o, c ≠ zz → c ≠ TO → c ≠ i1 → c ≠ i2 → s.heap.get? c = some o → h'.get? c = some o) he (fun Q' E' k => zg_over (I.ok.hd hc) D.toZipApart h0 hz S.ti hTO S.w1 S.w2 p.isList p2.isList hov k) fun h' kp => ⟨rfl, ?_⟩
    refine I.turnedL (t' := s.toks) (ch := [e, zz, TI, TO, i1, i2]) (fun c o hb q => ?_) hf
    have off : ∀ d ∈ [e, zz, TI, TO, i1, i2], c ≠ d := fun d hd z => hb (by rw [z]; exact hd)
    exact kp c o (off _ (by simp)) (off _ (by simp)) (off _ (by simp)) (off _ (by simp)) q
  self := fun A i s Q E S h => by
    obtain ⟨_, he⟩ := S.en
    exact wpAny_pyIter_enum he h
/-- enumerate of a zip just made -/
theorem enz_meets (zz TI TO : Addr) (f0 : Value) :
    Meets (Builtin.«enumerate.__new__» ⟨[.type "enumerate", .ref zz], []⟩) (fun _ Rr st => IsZip st.heap zz TI TO f0 ∧
      Rr (.ok (.ret (.ref st.heap.objs.size))) { st with heap := st.heap.push { cls := .type "enumerate", data := .fields #[.none, .bool false, .ref zz, rawInt 0, .none, .none] } }) :=
  .of_wp fun prog w A Rr st hyp => by
    obtain ⟨hp, g, d, tk, os⟩ := st
    obtain ⟨good, hyp⟩ := hyp
    have hsub := sub_enumerate
    have hz : IsZip (Shared.heap ⟨hp, g, d, tk, os⟩) zz TI TO f0 := good
    wp_walk using wpAny_pyIter_zip hz, AutoSeq1.wpAny_loadPart' hz
    refine wpAny_stack_any fun stk => wpAny_pure ?_
    split
    · rename_i cl _ _ _ _ _
      cases (cl == Value.type "enumerate") <;> (wp_walk using wpAny_pyIter_zip hz, AutoSeq1.wpAny_loadPart' hz; exact ⟨_, rfl, hyp⟩)
    · wp_walk using wpAny_pyIter_zip hz, AutoSeq1.wpAny_loadPart' hz
      exact ⟨_, rfl, hyp⟩
theorem enz_call {prog : Program} {w : World} {A : Around} {E : Value → Shared → Prop} {st : Shared} {zz TI TO : Addr} {f0 : Value} {Q : Value → Shared → Prop} (good : IsZip st.heap zz TI TO f0)
    (fin : ∀ h', IsEnum h' st.heap.objs.size zz 0 .none → h'.objs.size = st.heap.objs.size + 1 → (∀ b o, st.heap.get? b = some o → h'.get? b = some o) → Q (.ref st.heap.objs.size) { st with heap := h' }) :
    wpAny (model prog w) A (call (.type "enumerate") [.ref zz]) Q E st := by
  refine callType_new F.called_enumerate (by decide) (F.typeCall_enumerate_1 _) (F.newCall_enumerate_1 _) (fun obj => F.args_object_init_2 obj _) F.entry_enumerate_new (enz_meets zz TI TO f0) ⟨good, ?_⟩
  have made : IsEnum (st.heap.push { cls := .type "enumerate", data := .fields #[.none, .bool false, .ref zz, rawInt 0, .none, .none] }) st.heap.objs.size zz 0 .none := Heap.get?_push_size _ rfl
  show _ ∧ _
  exact ⟨⟨_, made, rfl⟩, fin _ made (Heap.size_push ..) fun b o x => Heap.get?_push_of_some _ x⟩
def iEz (K : PySem.W.Frag) (ta : TA) : TI := fun σ H R => ta σ H fun vs H1 => ∃ a b xs ys, vs = [.ref a, .ref b] ∧ SqL K H1 a xs ∧ SqL K H1 b ys ∧ R (Itez K a b) H1
theorem pi_enumZip {X : Cx} {K : PySem.W.Frag} (hK : X.K = K) {e e2 : Expr} {ta : TA} {p p2 pos pos2 tpos : Pos} {elts : List Expr} {kk : Nat} (hg : Gl X "enumerate") (hm : X.mg "enumerate" = none) (hg2 : Gl X "zip") (hm2 : X.mg "zip" = none) (ha : PA X [e, e2] ta)
    (hs : starEach [e, e2] X.env = (false, eval e X.env) :: starEach [e2] X.env := by rfl) (hpl : (backTo pos2 (starEach [e2] X.env)).any (·.1) = false := by rfl)
    (hs2 : starEach [Expr.Call (.Name "zip" p2) [e, e2] [] pos2] X.env = [(false, eval (Expr.Call (.Name "zip" p2) [e, e2] [] pos2) X.env)] := by rfl) :
    PI X (.Tuple elts kk tpos) (.Call (.Name "enumerate" p) [.Call (.Name "zip" p2) [e, e2] [] pos2] [] pos) (iEz K ta) := by
  subst hK
  refine ⟨fun pins s σ H R I h => ?_⟩
  refine Call_ (ld_blt I hg hm boot_enumerate (PyProof.Rows.callWith_type1 ?_ hs2 rfl))
  rw [hs2]
  show wpAny _ _ (spliced ((false, eval (Expr.Call (.Name "zip" p2) [e, e2] [] pos2) X.env) :: backTo pos [])) _ _ s
  refine Calls.spliced_cons ?_
  refine Call_ (ld_blt I hg2 hm2 PyProof.Rows.boot_zip (PyProof.Rows.callWith_type1 (thn (ha.run pos2 pins s σ H _ I h) fun us s1 ⟨vs, H1, I1, r1, q1⟩ => ?_) hs hpl))
  obtain ⟨a, b, xs, ys, ex, hqx, hqy, q⟩ := q1
  subst ex
  cases r1 with
  | cons r rr =>
    cases rr with
    | cons r' rr =>
      cases rr
      cases r
      cases r'
      obtain ⟨its, rv, p1, _⟩ := I1.list hqx
      obtain ⟨its2, rv2, p2', _⟩ := I1.list hqy
      have la : a < s1.heap.objs.size := p1.lt
      have lb : b < s1.heap.objs.size := p2'.lt
      refine call_zip_2 p1.isList p2'.isList fun h' hz hTI hTO h1 h2 hsz hk => ?_
      refine Calls.spliced_nil ?_
      refine enz_call (st := { s1 with heap := h' }) hz fun h'' he hsz2 hk2 => wpAny_pyIter_enum he ?_
      have I2 : Inv X pins σ H1 { s1 with heap := h'' } := I1.kept (t' := s1.toks) fun c o x => hk2 c o (hk c o x)
      have AP := PySem.W.ktu_apart s1.heap.objs.size a b la lb
      have hsz' : h'.objs.size = s1.heap.objs.size + 5 := hsz
      have DD : EzApart h'.objs.size (s1.heap.objs.size + 4) (s1.heap.objs.size + 2) (s1.heap.objs.size + 3) s1.heap.objs.size (s1.heap.objs.size + 1) a b := by
        rw [hsz']
        exact { AP with ez := fun z => by simp at z, eTI := fun z => by simp at z, eTO := fun z => by simp at z, e1 := fun z => by simp at z, e2 := fun z => by simp at z }
      refine ⟨h'.objs.size, [h'.objs.size, s1.heap.objs.size + 4, s1.heap.objs.size + 2, s1.heap.objs.size + 3, s1.heap.objs.size, s1.heap.objs.size + 1], _, _, H1, rfl, I2, turn_ez DD, ⟨⟨_, he⟩, ⟨_, _, .inl rfl, hk2 _ _ hz⟩, hk2 _ _ hTI, ⟨_, _, hk2 _ _ hTO⟩, h1.at fun o x => hk2 _ o x, h2.at fun o x => hk2 _ o x⟩, fun c hcm => ?_, q⟩
      have hle : s1.heap.objs.size ≤ c := by
        rcases six hcm with z | z | z | z | z | z
        · rw [z, hsz']; exact Nat.le_add_right _ _
        · rw [z]; exact Nat.le_add_right _ _
        · rw [z]; exact Nat.le_add_right _ _
        · rw [z]; exact Nat.le_add_right _ _
        · rw [z]; exact Nat.le_refl _
        · rw [z]; exact Nat.le_add_right _ _
      exact I1.fpOk hle (I1.hok.fresh hle)
theorem walk_ez {K : PySem.W.Frag} {a b : Addr} {xs ys : List V} {n : Nat} (hn : n = min xs.length ys.length) : Walk (Itez K a b) n (fun H => SqL K H a xs ∧ SqL K H b ys)
    (fun i H v H' => ∃ T1 T x y, v = .ref T ∧ H T1 = none ∧ H T = none ∧ T ≠ T1 ∧ H' = upd (upd H T1 (.tup [x, y])) T (.tup [.int (i : Nat), .ref T1]) ∧ xs[i]? = some x ∧ ys[i]? = some y) where
  goes := fun i _ hi q => by
    have h1 : i < xs.length := by omega
    have h2 : i < ys.length := by omega
    exact ⟨xs, ys, xs[i], ys[i], q.1, q.2, by simp [h1], by simp [h2]⟩
  stops := fun _ q => ⟨xs, ys, q.1, q.2, by omega⟩
  yields := fun i H v H' _ q ⟨T1, T, x, y, h1, h2, h3, h4, h5, h6, h7⟩ => ⟨T1, T, x, y, h1, h2, h3, h4, h5, h6 xs q.1, h7 ys q.2⟩
end Sky

namespace Sky
open PySem PySem.Spec PyProof.Rows L2
theorem best_le (f : Nat → Int) : ∀ n, argBest (fun i j => decide (f i < f j)) n ≤ n ∧ ∀ i, i ≤ n → f (argBest (fun i j => decide (f i < f j)) n) ≤ f i
  | 0 => ⟨Nat.le_refl _, fun i hi => by
    have : i = 0 := by omega
    subst this
    exact Int.le_refl _⟩
  | n + 1 => by
    obtain ⟨h1, h2⟩ := best_le f n
    by_cases h : f (n + 1) < f (argBest (fun i j => decide (f i < f j)) n)
    · have e : argBest (fun i j => decide (f i < f j)) (n + 1) = n + 1 := by simp [argBest, h]
      rw [e]
      refine ⟨Nat.le_refl _, fun i hi => ?_⟩
      rcases Nat.lt_or_ge n i with q | q
      · have : i = n + 1 := by omega
        subst this
        exact Int.le_refl _
      · exact Int.le_trans (Int.le_of_lt h) (h2 i q)
    · have e : argBest (fun i j => decide (f i < f j)) (n + 1) = argBest (fun i j => decide (f i < f j)) n := by simp [argBest, h]
      rw [e]
      refine ⟨by omega, fun i hi => ?_⟩
      rcases Nat.lt_or_ge n i with q | q
      · have : i = n + 1 := by omega
        subst this
        exact Int.not_lt.mp h
      · exact h2 i q
section
variable {prog : Program} {w : World} {A : Around} {E : Value → Shared → Prop} {st : Shared}
theorem args_four (a b c d : Value) : argsOk "min" ⟨[a, b, c, d], []⟩ := by unfold argsOk; kernel_rfl
theorem four_call {a b c d : Value} {Q : Value → Shared → Prop}
    (go : wpAny (model prog w) A.in1 (pyIter (.ref st.heap.objs.size)) (fun itv s2 => ∃ I fp wr n P St bt, itv = .ref I ∧ Walks prog w A.in1 I fp wr n P St ∧ St 0 s2.heap ∧ (∀ b ∈ fp, b < s2.heap.objs.size) ∧ 0 < n ∧ CmpOf prog w A.in1 .Lt P bt ∧
      ∀ v h' tk, P (argBest bt (n - 1)) v → (∀ b o, b ∉ wr → s2.heap.get? b = some o → h'.get? b = some o) → Q v { s2 with heap := h', toks := tk }) E
      { st with heap := st.heap.push { cls := .type "tuple", data := .seq #[a, b, c, d] } }) :
    wpAny (model prog w) A (call (.builtin "min") [a, b, c, d]) Q E st := by
  have nm : (toString "min" ++ toString ".loop" : String) = "min.loop" := by decide
  refine call_function_tree F.kind_min F.plain_min F.entry_min (args_four _ _ _ _) ?_
  show wpAny _ A.in1 (Builtin.Builtins.bindParams "min" ["key", "default"] 0 ⟨[], []⟩ >>= _) _ _ st
  refine wpAny_bind (wpAny_of_eq (show Builtin.Builtins.bindParams "min" ["key", "default"] 0 ⟨[], []⟩ = pure [none, none] from rfl) ?_)
  show wpAny _ A.in1 (newTuple [a, b, c, d] >>= _) _ _ st
  refine wpAny_bind (wpAny_newObj_type ?_)
  refine wpAny_bind (wpAny_mono go (fun itv s2 got => ?_) fun _ _ x => x)
  obtain ⟨I, fp, wr, n, P, St, bt, rfl, W, h0, below, pos, cmp, fin⟩ := got
  refine wpAny_bind (wpAny_newObj_type ?_)
  have off : s2.heap.objs.size ∉ fp := fun z => Nat.lt_irrefl _ (below _ z)
  rw [nm]
  refine wpAny_pure ⟨plainId_quiet F.plain_min_loop _, codeAny_min_loop_first W bt cmp s2.heap.objs.size off pos (W.frame _ _ _ h0 fun b _ o x => Heap.get?_push_of_some _ x) (Heap.get?_push_size _ rfl) fun v h' tk hP kp => ?_⟩
  exact fin v h' tk hP fun b o hb x => kp b o hb (Nat.ne_of_lt (Heap.lt_size x)) (Heap.get?_push_of_some _ x)
theorem min_four {a b c d : Int} {t u x y : Tok} {Q : Value → Shared → Prop} (calm : A.handled = none)
    (fin : ∀ z tz h' tk, (z = a ∨ z = b ∨ z = c ∨ z = d) → z ≤ a → z ≤ b → z ≤ c → z ≤ d → (∀ d o, st.heap.get? d = some o → h'.get? d = some o) → Q (.int z tz) { st with heap := h', toks := tk }) :
    wpAny (model prog w) A (call (.builtin "min") [.int a t, .int b u, .int c x, .int d y]) Q E st := by
  have hT : (st.heap.push { cls := .type "tuple", data := .seq #[.int a t, .int b u, .int c x, .int d y] }).IsTuple st.heap.objs.size (intItems #[(a, t), (b, u), (c, x), (d, y)]) := ⟨_, Heap.get?_push_size _ rfl, rfl, 0, by simp [intItems]⟩
  refine four_call (wpAny_pyIter_tuple hT ?_)
  have size_ : (st.heap.push { cls := .type "tuple", data := .seq #[.int a t, .int b u, .int c x, .int d y] }).objs.size = st.heap.objs.size + 1 := Heap.size_push ..
  refine ⟨_, [_, st.heap.objs.size], [_], _, _, _, _, rfl, Walks.tuple (A := A.in1) calm _ st.heap.objs.size (by rw [size_]; exact Nat.ne_of_lt (Nat.lt_succ_self _)) (intItems #[(a, t), (b, u), (c, x), (d, y)]),
    ⟨⟨_, Heap.get?_push_size _ rfl, rfl, rfl⟩, hT.push _⟩, fun e he => ?_, by simp [intItems], CmpOf.ints_lt (numAt #[(a, t), (b, u), (c, x), (d, y)]) (fun _ _ => intItems_at), fun v h' tk hP kp => ?_⟩
  · show e < ((st.heap.push _).push _).objs.size
    rw [Heap.size_push, size_]
    rcases List.mem_cons.mp he with z | z
    · rw [z, size_]; exact Nat.lt_succ_self _
    · rw [List.mem_singleton.mp z]; exact Nat.lt_succ_of_lt (Nat.lt_succ_self _)
  · have old : ∀ e o, st.heap.get? e = some o → h'.get? e = some o := fun e o q => by
      refine kp e o (fun z => ?_) (Heap.get?_push_of_some _ (Heap.get?_push_of_some _ q))
      have lt_ := Heap.lt_size q
      rw [List.mem_singleton.mp z, size_] at lt_
      exact Nat.lt_irrefl _ (Nat.lt_of_succ_lt lt_)
    have n3 : (intItems #[(a, t), (b, u), (c, x), (d, y)]).size - 1 = 3 := by simp [intItems]
    rw [n3] at hP
    obtain ⟨k1, k2⟩ := best_le (numAt #[(a, t), (b, u), (c, x), (d, y)]) 3
    generalize argBest (fun i j => decide (numAt #[(a, t), (b, u), (c, x), (d, y)] i < numAt #[(a, t), (b, u), (c, x), (d, y)] j)) 3 = m at hP k1 k2
    have m0 := k2 0 (by omega)
    have m1 := k2 1 (by omega)
    have m2 := k2 2 (by omega)
    have m3 := k2 3 (by omega)
    match m, k1 with
    | 0, _ =>
      have e : Value.int a t = v := by simpa [intItems] using hP
      subst e
      exact fin a t h' tk (.inl rfl) (by simpa [numAt] using m0) (by simpa [numAt] using m1) (by simpa [numAt] using m2) (by simpa [numAt] using m3) old
    | 1, _ =>
      have e : Value.int b u = v := by simpa [intItems] using hP
      subst e
      exact fin b u h' tk (.inr (.inl rfl)) (by simpa [numAt] using m0) (by simpa [numAt] using m1) (by simpa [numAt] using m2) (by simpa [numAt] using m3) old
    | 2, _ =>
      have e : Value.int c x = v := by simpa [intItems] using hP
      subst e
      exact fin c x h' tk (.inr (.inr (.inl rfl))) (by simpa [numAt] using m0) (by simpa [numAt] using m1) (by simpa [numAt] using m2) (by simpa [numAt] using m3) old
    | 3, _ =>
      have e : Value.int d y = v := by simpa [intItems] using hP
      subst e
      exact fin d y h' tk (.inr (.inr (.inr rfl))) (by simpa [numAt] using m0) (by simpa [numAt] using m1) (by simpa [numAt] using m2) (by simpa [numAt] using m3) old
    | n + 4, h => omega
end
/-- the least of four -/
def min4 (a b c d : Int) : Int := min (min (min a b) c) d
abbrev rMin4 : List V → Hp → VK → Prop := fun xs H Q => ∃ a b c d, xs = [.int a, .int b, .int c, .int d] ∧ Q (.int (min4 a b c d)) H
theorem call_min4 {X : Cx} (hc : X.calm = true) : CallR X (.builtin "min") rMin4 := by
  intro pins s σ H xs us Q I r h
  obtain ⟨a, b, c, d, rfl, q⟩ := h
  cases r with
  | cons r1 r =>
  cases r with
  | cons r2 r =>
  cases r with
  | cons r3 r =>
  cases r with
  | cons r4 r =>
  cases r
  obtain ⟨t1, rfl⟩ := r1
  obtain ⟨t2, rfl⟩ := r2
  obtain ⟨t3, rfl⟩ := r3
  obtain ⟨t4, rfl⟩ := r4
  refine min_four (I.ok.hd hc) fun z tz h' tk h1 h2 h3 h4 h5 k => ⟨.int z, H, I.kept k, ⟨_, rfl⟩, ?_⟩
  have e : min4 a b c d = z := by unfold min4; omega
  rw [← e]
  exact q
theorem ev_min4 {K : PySem.W.Frag} {σ : L2.St} {G : Hp} {ta : TA} {a b c d : Int} (h : EvD ta σ G K [.int a, .int b, .int c, .int d]) : EvR (tCB rMin4 ta) σ G (isD K (.int (min4 a b c d))) := fun H e Q q =>
  h H e _ fun vs G1 H1 g1 r1 => by
    cases r1 with
    | cons a1 r1 =>
    cases r1 with
    | cons a2 r1 =>
    cases r1 with
    | cons a3 r1 =>
    cases r1 with
    | cons a4 r1 =>
    cases r1
    cases a1; cases a2; cases a3; cases a4
    exact ⟨a, b, c, d, rfl, q _ G1 H1 g1 (.int _)⟩
end Sky

namespace Sky
open PySem PySem.Spec PyProof.Rows L2
theorem vals_back : ∀ {xs : List V} {us : List Value} {i : Nat} {u : Value}, Vals xs us → us[i]? = some u → ∃ x, xs[i]? = some x ∧ L2.RelV x u
  | _, _, i, u, .nil, h => by simp at h
  | x :: _, _, 0, u, .cons r _, h => by
    simp at h
    subst h
    exact ⟨x, rfl, r⟩
  | _, _, i + 1, u, .cons _ t, h => by
    obtain ⟨x, h1, h2⟩ := vals_back (i := i) t (by simpa using h)
    exact ⟨x, by simpa using h1, h2⟩
/-- min(list of alike data) -/
abbrev rMinD (K : PySem.W.Frag) : List V → Hp → VK → Prop := fun xs H Q => ∃ l ws d ds, xs = [.ref l] ∧ SqL K H l ws ∧ DpAll K H ws (d :: ds) ∧ PySem.W.AlikeAll (d :: ds) ∧ PyData.plainAll (d :: ds) = true ∧ PyData.depthAll (d :: ds) ≤ 8 ∧ ∀ (i : Nat) v, ws[i]? = some v → (d :: ds)[i]? = some (PySem.W.minD d ds) → Q v H
theorem kminD {X : Cx} {K : PySem.W.Frag} (hK : X.K = K) (hc : X.calm = true) (hu : X.A.units + 64 < cLine) : CallR X (.builtin "min") (rMinD K) := by
  subst hK
  intro pins s σ H xs us Q I r h
  obtain ⟨l, ws, d, ds, rfl, hs, hall, ha, hp, hz, q⟩ := h
  cases r with
  | cons r1 r =>
  cases r
  cases r1
  obtain ⟨its, rv, pl, _⟩ := I.list hs
  obtain ⟨as, hr⟩ := Dp.readsAll I (d :: ds) ws its hall rv
  refine PySem.W.min_list_data (I.ok.hd hc) pl.isList (by simpa using hr) ha (by omega) fun i v h' tk bs hi hrd k => ?_
  obtain ⟨x, hx, rx⟩ := vals_back rv (by simpa using hi : its[i]? = some v)
  obtain ⟨e, he, hde⟩ := dpall_of hall hx
  obtain ⟨cs, hrx⟩ := Dp.reads I e x v hde rx
  have pe : e.plain = true := by
    have mem := List.mem_of_getElem? he
    have all_ : ∀ (l : List PyData), PyData.plainAll l = true → ∀ y ∈ l, y.plain = true := by
      intro l
      induction l with
      | nil => intro _ y hy; cases hy
      | cons a l ih =>
        intro hl y hy
        simp only [PyData.plainAll, Bool.and_eq_true] at hl
        rcases List.mem_cons.mp hy with z | z
        · rw [z]; exact hl.1
        · exact ih hl.2 y z
    exact all_ _ hp e mem
  have eq_ : e = PySem.W.minD d ds := PySem.SeqAt.plain_unique _ _ _ _ _ pe (Reads.keeps k hrx) hrd
  exact ⟨x, H, I.kept k, rx, q i x hx (by rw [← eq_]; exact he)⟩
theorem ev_minD {K : PySem.W.Frag} {σ : L2.St} {G : Hp} {ta : TE} {d : PyData} {ds : List PyData} (ha : EvR ta σ G (isD K (.list (d :: ds)))) (h1 : PySem.W.AlikeAll (d :: ds)) (h2 : PyData.plainAll (d :: ds) = true) (h3 : PyData.depthAll (d :: ds) ≤ 8) :
    EvR (tCB (rMinD K) (tCons ta tNil)) σ G (isD K (PySem.W.minD d ds)) := ev_cb1 mn_isD ha fun x G' _ r H e Q q => by
  cases r with
  | @lst a xs _ hs hd =>
    refine ⟨a, xs, d, ds, rfl, e.seq hs, dpall_mono e _ _ hd, h1, h2, h3, fun i v hv hi => q v G' H (Gw.refl e) ?_⟩
    obtain ⟨e', he1, he2⟩ := dpall_of hd hv
    rw [hi] at he1
    cases he1
    exact he2
end Sky

namespace Sky
open PySem PySem.Spec PyProof.Rows L2
/-! ### a set of tuples made of a list of any length, few of them apart -/
/-- never too many apart -/
def FewApart (ks : List (Addr × List Int)) : Prop := ∀ L : List (Addr × List Int), (L.map (·.2)).Nodup → (∀ p ∈ L, p ∈ ks) → L.length + 1 < 64
section
variable {P : Program} {w : World} {A : Around} {E : Value → Shared → Prop} {st : Shared}
theorem fill_all {it : Addr} {fp wr : List Addr} {G : Array GenState → Array GenState → Prop} {n : Nat} {Pv : Nat → Value → Prop} {St : Nat → Shared → Prop} {Rr : Result → Shared → Prop}
    (W : WalksS P w A.in1 it fp wr G n Pv St) (tgt : Addr) (off : tgt ∉ fp) (ks : List (Addr × List Int)) (hn : n = ks.length) (few : FewApart ks) (gives : ∀ i v, Pv i v → ∃ p, ks[i]? = some p ∧ v = .ref p.1)
    (base : Heap) (tup : ∀ p ∈ ks, IsT P w base p.2 p.1) (new_ : base.get? tgt = none) (wrn : ∀ b ∈ wr, base.get? b = none) (room : A.in1.units < cLine) :
    ∀ (left i : Nat) (st : Shared), n - i = left → i ≤ n → St i st → (∀ b o, base.get? b = some o → st.heap.get? b = some o) → (∃ L es ep t, SetTR P w st.heap tgt L es ep t ∧ Got ks i L) →
      (∀ st' L es ep t, Moved (tgt :: wr) G st st' → SetTR P w st'.heap tgt L es ep t → Got ks n L → (∀ b o, base.get? b = some o → st'.heap.get? b = some o) → Rr (.ok (.ret .none)) st') →
      codeAny (model P w) A (.builtin "set.update.loop" ⟨[.ref tgt, .ref it], []⟩) Rr st := by
  have offw : tgt ∉ wr := fun z => off (W.sub _ z)
  have grow : ∀ b ∈ wr, b ∈ tgt :: wr := fun b hb => List.mem_cons_of_mem _ hb
  have stay : ∀ {u u' : Shared}, Moved wr G u u' → (∀ b o, base.get? b = some o → u.heap.get? b = some o) → ∀ b o, base.get? b = some o → u'.heap.get? b = some o := fun mv k b o q =>
    mv.heap b o (fun hb => by rw [wrn b hb] at q; cases q) (k b o q)
  have inks : ∀ {i : Nat} {L : List (Addr × List Int)}, Got ks i L → ∀ p ∈ L, p ∈ ks := fun g p hp => List.mem_of_mem_take (g.sub p hp)
  intro left
  induction left with
  | zero =>
    intro i st hl hi hst k ⟨L, es, ep, t, hS, g⟩ fin
    obtain rfl : i = n := by omega
    refine codeAny_builtin F.entry_set_update_loop ?_
    rw [Around.under_plainId F.plain_set_update_loop _]
    show wpAny _ A.in1 (pyNext (.ref it) >>= _) _ _ st
    refine wpAny_bind (W.done st _ _ hst fun st' mv => ?_)
    show wpAny _ A.in1 (ret Value.none) _ _ st'
    have k' := stay mv k
    exact wpAny_pure (fin st' L es ep t (mv.mono grow) (hS.keep (fun o q => mv.heap tgt o offw q) fun p hp => isT_keep (tup p (inks g p hp)) k') g k')
  | succ left ih =>
    intro i st hl hi hst k ⟨L, es, ep, t, hS, g⟩ fin
    have lt_ : i < n := by omega
    refine codeAny_builtin F.entry_set_update_loop ?_
    rw [Around.under_plainId F.plain_set_update_loop _]
    show wpAny _ A.in1 (pyNext (.ref it) >>= _) _ _ st
    refine wpAny_bind (W.item i st _ _ lt_ hst fun v st' hP hst' mv => ?_)
    obtain ⟨p, hp, rfl⟩ := gives i v hP
    have k' := stay mv k
    have hS' : SetTR P w st'.heap tgt L es ep t := hS.keep (fun o q => mv.heap tgt o offw q) fun q hq => isT_keep (tup q (inks g q hq)) k'
    have isx : IsT P w st'.heap p.2 p.1 := isT_keep (tup p (List.mem_of_getElem? hp)) k'
    show wpAny _ A.in1 (holding [Value.ref p.1] (setAdd tgt (.ref p.1)) >>= _) _ _ st'
    refine wpAny_bind (wpAny_holding ?_)
    unfold setAdd
    refine wpAny_holding (wpAny_bind (wpAny_pyHash_tuple room isx ?_))
    refine add_at (s := { st' with toks := st'.toks + (p.2.length + 1) }) hS' isx room (few L hS.nd (inks g)) fun b h' L' es' ep' t' sb hS2 c1 c2 => ?_
    have g' : Got ks (i + 1) L' := by
      rcases Classical.em (p.2 ∈ L.map (·.2)) with c | c
      · rw [c1 c]; exact g.same hp c
      · exact g.more hp (c2 c)
    have k2 : ∀ b o, base.get? b = some o → h'.get? b = some o := fun b o q => (sb.2 b (fun z => by rw [z, new_] at q; cases q)).trans (k' b o q)
    refine wpAny_pure ⟨plainId_quiet F.plain_set_update_loop _, ih (i + 1) _ (by omega) lt_ (W.frame _ st' _ _ hst' (Nat.le_add_right _ _) fun b hb o q => ?_) k2 ⟨L', es', ep', t', hS2, g'⟩ fun u L2 es2 ep2 t2 mu hSu gu ku => ?_⟩
    · rw [sb.2 b (fun z : b = tgt => off (by rw [← z]; exact hb))]; exact q
    · refine fin u L2 es2 ep2 t2 (Moved.trans W.gtrans ((mv.mono grow).then_heap (Nat.le_add_right _ _) fun b o hb q => ?_) mu) hSu gu ku
      rw [sb.2 b (fun z : b = tgt => hb (by rw [z]; exact List.mem_cons_self))]; exact q
/-- the object of a new set -/
abbrev emptySet (w : World) : Obj := { cls := .type "set", dict := none, data := .set #[] 0 (.fresh 0 0 (!w.params.followText "set-order")) }
set_option maxHeartbeats 3200000 in
theorem set_many {l : Addr} {its : Array Value} (ks : List (Addr × List Int)) {Q : Value → Shared → Prop} (calm : A.handled = none) (hl : st.heap.IsList l its) (hit : its.toList = ks.map fun p => Value.ref p.1)
    (tup : ∀ p ∈ ks, IsT P w st.heap p.2 p.1) (few : FewApart ks) (room : A.units + 3 < cLine)
    (fin : ∀ (h' : Heap) (tk : Nat) L es ep t, SetTR P w h' st.heap.objs.size L es ep t → Got ks ks.length L → (∀ b o, st.heap.get? b = some o → h'.get? b = some o) → Q (.ref st.heap.objs.size) { st with heap := h', toks := tk }) :
    wpAny (model P w) A (call (.type "set") [.ref l]) Q E st := by
  have szk : its.size = ks.length := by
    have q := congrArg List.length hit
    rw [Array.length_toList, List.length_map] at q
    exact q
  obtain ⟨c, tl, hmro⟩ := F.called_set.mro
  have hmade := F.called_set.made
  have hsub := F.called_set.sub
  refine wpAny_call (codeAny_of_tree ?_)
  show wpAny _ _ (callAny (.type "set") _) _ _ _
  refine wpAny_pure ⟨Code.quiet_builtin _ (by decide +kernel), codeAny_builtin F.entry_type_call ?_⟩
  rw [Around.under_plain (weight_type_call_type "set" [.ref l] []) rfl]
  have h1 := F.called_set.notType
  have h2 := F.called_set.canCreate
  have hct := F.typeCall_set_1 (.ref l)
  repeat (any_goals (first | assumption | wp_step))
  refine codeAny_mono (code_set_led1 (.ref l) (E := E) (Q₁ := fun obj s1 => obj = .ref st.heap.objs.size ∧ s1 = { st with heap := st.heap.push (emptySet w) }) ⟨rfl, rfl⟩) fun r s1 hr => ?_
  match r, hr with
  | .error e, hr => exact hr
  | .ok (.ret obj), hr =>
    obtain ⟨rfl, rfl⟩ := hr
    have hS : (st.heap.push (emptySet w)).get? st.heap.objs.size = some (emptySet w) := Heap.get?_push_size _ rfl
    have hT : Shared.TypeIs { st with heap := st.heap.push (emptySet w) } (.ref st.heap.objs.size) "set" := ⟨_, hS, rfl⟩
    have hli := F.called_set.init.lookup
    have hbi := F.called_set.init.bind (.ref st.heap.objs.size)
    repeat (any_goals (first | assumption | wp_step))
    refine codeAny_mono (codeAny_call_builtin (R := wants (fun r s2 => r = .none ∧ ∃ h' tk L es ep t, s2 = { st with heap := h', toks := tk } ∧ SetTR P w h' st.heap.objs.size L es ep t ∧ Got ks ks.length L ∧
        (∀ b o, st.heap.get? b = some o → h'.get? b = some o)) E) F.called_set.init.plain F.entry_set_init (check_set_init_1 hT ?_)) fun r2 s2 hr2 => ?_
    · obtain ⟨ol, hol, hcl, nl, hdl⟩ := hl
      obtain ⟨ocls, odict, odata, oslots⟩ := ol
      simp only at hcl hdl
      subst hcl
      subst hdl
      have hol' : (st.heap.push (emptySet w)).get? l = some { cls := .type "list", dict := odict, data := .seq its nl, slots := oslots } := Heap.get?_push_of_some _ hol
      have hsls := F.sub_list_set
      have hslf := F.sub_list_frozenset
      have hne : (Value.type "list" == Value.type "dict") = false := by decide
      have hl1 : (st.heap.push (emptySet w)).IsList l its := ⟨_, hol', rfl, nl, rfl⟩
      unfold Builtin.«set.__init__» noKeywords Builtin.Frozenset.updateFrom
      generalize hPI : pyIter = PI
      wp_walk
      subst hPI
      refine wpAny_pyIter_list hl1 (wpAny_bind (wpAny_runValue ?_))
      have hlS : l < st.heap.objs.size := Heap.lt_size hol
      have calm3 : A.in1.in1.in1.handled = none := by simp [calm]
      have hz1 : (st.heap.push (emptySet w)).objs.size = st.heap.objs.size + 1 := Heap.size_push ..
      have hneI : l ≠ (st.heap.push (emptySet w)).objs.size := by
        rw [hz1]; exact Nat.ne_of_lt (Nat.lt_succ_of_lt hlS)
      have off : st.heap.objs.size ∉ [(st.heap.push (emptySet w)).objs.size, l] := by
        rw [hz1]
        intro z
        rcases List.mem_cons.mp z with z | z
        · exact absurd z (Nat.ne_of_lt (Nat.lt_succ_self _))
        · exact absurd (List.mem_singleton.mp z) (Nat.ne_of_gt hlS)
      have gives : ∀ (i : Nat) (v : Value), its[i]? = some v → ∃ p, ks[i]? = some p ∧ v = .ref p.1 := fun i v hv => by
        have q : its.toList[i]? = some v := by rw [Array.getElem?_toList]; exact hv
        rw [hit, List.getElem?_map] at q
        cases hq : ks[i]? with
        | none => rw [hq] at q; cases q
        | some p =>
          rw [hq] at q
          exact ⟨p, rfl, (Option.some.inj q).symm⟩
      have none_of : ∀ b, st.heap.objs.size ≤ b → st.heap.get? b = none := fun b hb => Heap.get?_none_of_le hb
      refine fill_all ((Walks.list calm3 _ l hneI its).toS) st.heap.objs.size off ks szk few gives st.heap tup (none_of _ (Nat.le_refl _)) (fun b hb => none_of b (by
          rw [List.mem_singleton.mp hb, hz1]
          exact Nat.le_succ _)) room (its.size - 0) 0 _ (by omega) (Nat.zero_le _)
        ⟨⟨_, Heap.get?_push_size _ rfl, rfl, rfl⟩, (hl1.push _)⟩ (fun b o q => Heap.get?_push_of_some _ (Heap.get?_push_of_some _ q)) ?start ?fin
      case start =>
        have got_ : ((st.heap.push (emptySet w)).push { cls := .type "list_iterator", data := .fields #[.ref l, .int 0 0] }).get? st.heap.objs.size = some (emptySet w) := Heap.get?_push_of_some _ hS
        exact ⟨[], #[], 0, _, setTR_fresh got_, Got.zero ks⟩
      case fin =>
        intro s' L es ep t mv hS' g' k
        obtain ⟨h', g2, d', tk', os'⟩ := s'
        obtain rfl : g2 = st.gens := mv.gens
        obtain rfl : d' = st.drawn := mv.drawn
        obtain rfl : os' = st.os := mv.os
        rw [szk] at g'
        show wpAny _ _ _ _ _ _
        refine wpAny_pure ?_
        show wpAny _ _ (ret Value.none) _ _ _
        exact wpAny_pure ⟨rfl, h', tk', L, es, ep, t, rfl, hS', g', k⟩
    · match r2, hr2 with
      | .error e, hr2 => exact hr2
      | .ok (.ret r), hr2 =>
        obtain ⟨rfl, h', tk, L, es, ep, t, rfl, hS', g', k'⟩ := hr2
        repeat (any_goals (first | assumption | wp_step))
        exact fin _ _ _ _ _ _ hS' g' k'
end
/-- set(xs), xs a list of tuples of ints, few of them apart -/
abbrev rSetM (K : PySem.W.Frag) (P : Program) (w : World) : List V → Hp → VK → Prop := fun xs H Q => ∃ (l : Addr) (ks : List (Addr × List Int)), xs = [V.ref l] ∧ SqL K H l (ks.map fun p => V.ref p.1) ∧ (∀ p ∈ ks, SqT K H p.1 (p.2.map V.int)) ∧ FewApart ks ∧
  ∀ a L, H a = none → (∀ p ∈ L, p ∈ ks) → (∀ p ∈ ks, p.2 ∈ L.map (·.2)) → (L.map (·.2)).Nodup → Q (.ref a) (upd H a (SetTO P w a L))
theorem ksetM {X : Cx} {K : PySem.W.Frag} {P : Program} {w : World} (hK : X.K = K) (hP : X.prog = P) (hw : X.w = w) (hc : X.calm = true) (hu : X.A.units + 64 < cLine) : CallR X (.type "set") (rSetM K P w) := by
  subst hK hP hw
  intro pins s σ H xs us Q I r h
  obtain ⟨l, ks, rfl, hl, hk, hf, q⟩ := h
  cases r with
  | cons r1 r =>
  cases r
  cases r1
  obtain ⟨its, rv, pl, _⟩ := I.list hl
  have hn : H s.heap.objs.size = none := I.hok.fresh (Nat.le_refl _)
  refine set_many (P := X.prog) (w := X.w) ks (I.ok.hd hc) pl.isList (by simpa using refs_of_vals rv) (fun p hp => I.isT (hk p hp)) hf (by omega) fun h' tk L es ep t R g k => ?_
  refine ⟨.ref s.heap.objs.size, upd H s.heap.objs.size (SetTO X.prog X.w s.heap.objs.size L), I.laid (t' := tk) k (Nat.le_refl _) (setTO_new R.t0), rfl, q _ L hn (fun p hp => List.mem_of_mem_take (g.sub p hp)) (fun p hp => ?_) R.nd⟩
  exact g.all p (by rw [List.take_length]; exact hp)
end Sky

namespace Sky
open PySem PySem.Spec PyProof.Rows L2
/-- a tuple's first two ints -/
def pr2 (ns : List Int) : Int × Int := (ns.getD 0 0, ns.getD 1 0)
section
variable {P : Program} {w : World} {A : Around} {E : Value → Shared → Prop} {st : Shared}
theorem pairs_of {h : Heap} {k : List Int} {b : Addr} (x : IsT P w h k b) (hl : k.length = 2) : Srt.IsPair h (.ref b) (pr2 k).1 (pr2 k).2 := by
  obtain ⟨o, items, n, ho, hc, hd, hi⟩ := x
  match k, hl with
  | [i, j], _ =>
    have z := ints_of_items hi
    obtain ⟨t, u, e⟩ : ∃ t u, items.toList = [.int i t, .int j u] := by
      generalize items.toList = l at z
      cases z with
      | cons _ t z =>
        cases z with
        | cons _ u z =>
          cases z
          exact ⟨t, u, rfl⟩
    have e2 : items = #[.int i t, .int j u] := by
      apply Array.toList_inj.mp
      rw [e]
    subst e2
    exact ⟨b, o, t, u, n, rfl, ho, hc, hd⟩
theorem sort_set {a : Addr} {L : List (Addr × List Int)} {es : Array (Int × Value)} {ep : Nat} {t : SetTable} {Q : Value → Shared → Prop} (R : SetTR P w st.heap a L es ep t) (calm : A.handled = none) (two : ∀ p ∈ L, p.2.length = 2)
    (fin : ∀ st' p (out : Array Value) (c : Nat) (L' : List (Addr × List Int)), (∀ b o, st.heap.get? b = some o → st'.heap.get? b = some o) → st'.gens = st.gens → st'.os = st.os → st.heap.objs.size ≤ p →
      st'.heap.get? p = some (seqObj "list" out c) → out.toList = L'.map (fun q => Value.ref q.1) → L'.Perm L → L'.Pairwise (fun q r => SrtO.lexB (pr2 r.2) (pr2 q.2) = false) → Q (.ref p) st') :
    wpAny (model P w) A (call (.builtin "sorted") [.ref a]) Q E st := by
  obtain ⟨o, ho, hex, hd⟩ := R.ob
  have szL := R.size
  have few := R.few
  refine Calls.call_function_entry kind_sorted plain_sorted entry_sorted (args_sorted1 _) ?_
  unfold Builtin.«sorted»
  refine wpAny_bind (m := checkCount "sorted" 1 1 _) (wpAny_pure ?_)
  refine wpAny_bind (collect_set (A := A.in1) calm ⟨o, ho, hex.1, hd⟩ R.fits (by unfold scanBound; omega) R.tab.ris R.led fun s1 vs k1 hz g1 o1 pm => ?_)
  have refs_ : es.toList.map (·.2) = L.map fun q => Value.ref q.1 := by
    rw [R.rows]
    unfold rowsOf
    rw [List.map_map] <;> rfl
  rw [refs_] at pm
  have back : ∀ us : List Value, (∀ v ∈ us, ∃ q ∈ L, v = Value.ref q.1) → ∃ L1 : List (Addr × List Int), us = L1.map (fun q => Value.ref q.1) ∧ ∀ q ∈ L1, q ∈ L := by
    intro us
    induction us with
    | nil => exact fun _ => ⟨[], rfl, fun q hq => (by cases hq)⟩
    | cons v us ih =>
      intro hv
      obtain ⟨q, hq, rfl⟩ := hv v List.mem_cons_self
      obtain ⟨L1, rfl, h1⟩ := ih fun u hu => hv u (List.mem_cons_of_mem _ hu)
      exact ⟨q :: L1, rfl, fun r hr => (List.mem_cons.mp hr).elim (fun z => z ▸ hq) (h1 r)⟩
  have uniq : ∀ q ∈ L, ∀ r ∈ L, q.1 = r.1 → q = r := fun q hq r hr e => by
    have a1 := R.tup q hq
    rw [e] at a1
    exact Prod.ext e (a1.inj (R.tup r hr))
  have permL : ∀ L1 : List (Addr × List Int), (∀ q ∈ L1, q ∈ L) → (L1.map (fun q => Value.ref q.1)).Perm (L.map fun q => Value.ref q.1) → L1.Perm L := by
    intro L1 h1 pm1
    have nL : L.Nodup := nodup_of_map R.nd
    have nR : (L.map fun q => Value.ref q.1).Nodup := by
      refine List.pairwise_map.mpr (List.Pairwise.imp_of_mem (fun {q r} hq hr hne e => ?_) nL)
      injection e with e
      exact hne (uniq q hq r hr e)
    refine (List.perm_ext_iff_of_nodup (nodup_of_map (pm1.nodup_iff.mpr nR)) nL).mpr fun q => ⟨h1 q, fun hq => ?_⟩
    obtain ⟨r, hr, e⟩ := List.mem_map.mp (pm1.mem_iff.mpr (List.mem_map.mpr ⟨q, hq, rfl⟩))
    injection e with e
    rw [← uniq r (h1 r hr) q hq e]
    exact hr
  have lenv : vs.length < 64 := by rw [pm.length_eq, List.length_map]; exact few
  refine wpAny_bind (wpAny_newList ?_ (by rw [sizeLine_eq]; omega))
  have hoL : (s1.heap.push (seqObj "list" vs.toArray 0)).get? s1.heap.objs.size = some (seqObj "list" vs.toArray 0) := Heap.get?_push_size _ rfl
  -- the two ints of a value
  let kk : Value → Int × Int := fun v => pr2 (((L.find? fun q => Value.ref q.1 == v).map (·.2)).getD [])
  have kkv : ∀ q ∈ L, kk (.ref q.1) = pr2 q.2 := fun q hq => by
    show pr2 (((L.find? fun r => Value.ref r.1 == Value.ref q.1).map (·.2)).getD []) = pr2 q.2
    cases hf : L.find? fun r => Value.ref r.1 == Value.ref q.1 with
    | none =>
      have := List.find?_eq_none.mp hf q hq
      simp at this
    | some r =>
      have h1 := List.mem_of_find?_eq_some hf
      have h2 := List.find?_some hf
      have h3 : r.1 = q.1 := by simpa using h2
      rw [uniq r h1 q hq h3]
      rfl
  have prs : ∀ v ∈ vs, Srt.IsPair (s1.heap.push (seqObj "list" vs.toArray 0)) v (kk v).1 (kk v).2 := fun v hv => by
    obtain ⟨q, hq, e⟩ := List.mem_map.mp (pm.mem_iff.mp hv)
    subst e
    have e2 : kk (.ref q.1) = pr2 q.2 := kkv q hq
    show Srt.IsPair _ (.ref q.1) (kk (.ref q.1)).1 (kk (.ref q.1)).2
    rw [e2]
    exact pairs_of (P := P) (w := w) (isT_keep (R.tup q hq) fun b u x => Heap.get?_push_of_some _ (k1 b u x)) (two q hq)
  refine wpAny_bind (wpAny_holding (wpAny_call_entry slot_list_sort ⟨_, hoL, rfl⟩ entry_list_sort (SrtO.list_sort_ord (s := { s1 with heap := s1.heap.push (seqObj "list" vs.toArray 0) }) (SrtO.swo_lex kk) hoL (by rw [sizeLine_eq]; omega)
    (fun h2 => SrtO.pairs_sortableO (by omega) prs fun ob e => ?_) fun out a1 a2 => ⟨_, rfl, ?_⟩) (args_list_sort _)))
  · have e' : some ob = some (seqObj "list" vs.toArray 0) := e.symm.trans hoL
    cases e'
    intro c
    exact absurd (Value.type.inj c) (by decide)
  · obtain ⟨c, hc⟩ := sortedHeap_at (vs := vs) (out := out.toArray) hoL
    obtain ⟨L', e', hs'⟩ := back out fun v hv => by
      obtain ⟨q, hq, e⟩ := List.mem_map.mp (pm.mem_iff.mp (a2.perm.mem_iff.mp hv))
      exact ⟨q, hq, e.symm⟩
    have pL : L'.Perm L := permL L' hs' (by rw [← e']; exact a2.perm.trans pm)
    have pw : L'.Pairwise (fun q r => SrtO.lexB (pr2 r.2) (pr2 q.2) = false) := by
      rw [e'] at a1
      refine List.Pairwise.imp_of_mem (fun {q r} hq hr hle => ?_) (List.pairwise_map.mp a1)
      rw [← kkv q (hs' q hq), ← kkv r (hs' r hr)]
      exact hle
    refine wpAny_pure ⟨_, rfl, fin _ s1.heap.objs.size out.toArray c L' (fun b u x => ?_) g1 o1 hz hc (by simpa using e') pL pw⟩
    have q := k1 b u x
    have lt_ := Heap.lt_size q
    show (sortedHeap (s1.heap.push (seqObj "list" vs.toArray 0)) s1.heap.objs.size vs out.toArray).get? b = some u
    rw [sortedHeap_old (Nat.ne_of_lt lt_) (by rw [size_push']; exact Nat.lt_succ_of_lt lt_)]
    exact Heap.get?_push_of_some _ q
end
/-- sorted(a set of pairs of ints) -/
abbrev rSortS (K : PySem.W.Frag) (P : Program) (w : World) : List V → Hp → VK → Prop := fun vs H Q => ∃ (a : Addr) (L : List (Addr × List Int)), vs = [V.ref a] ∧ H a = some (SetTO P w a L) ∧ (∀ p ∈ L, SqT K H p.1 (p.2.map V.int)) ∧ (∀ p ∈ L, p.2.length = 2) ∧
  ∀ (L' : List (Addr × List Int)) (p : Addr), L'.Perm L → (L'.map (·.2)).Nodup → L'.length < 64 → L'.Pairwise (fun q r => SrtO.lexB (pr2 r.2) (pr2 q.2) = false) → H p = none → Q (.ref p) (upd H p (.lst (L'.map fun q => V.ref q.1)))
theorem ksortS {X : Cx} {K : PySem.W.Frag} {P : Program} {w : World} (hK : X.K = K) (hP : X.prog = P) (hw : X.w = w) (hc : X.calm = true) : CallR X (.builtin "sorted") (rSortS K P w) := by
  subst hK hP hw
  intro pins s σ H vs us Q I r h
  obtain ⟨a, L, rfl, ha, hk, hB, q⟩ := h
  have R0 : SetT0 X.prog X.w s.heap a L := (I.hok a _ ha).1
  obtain ⟨es, ep, t, R⟩ := R0.full fun p hp => I.isT (hk p hp)
  cases r with
  | cons r1 r =>
  cases r
  cases r1
  refine sort_set R (I.ok.hd hc) hB fun s' p out c L' k g o hp hg hout pm pw => ?_
  have few : L'.length < 64 := by rw [pm.length_eq]; exact R.few
  have len_ : (L'.map fun q => V.ref q.1).length ≤ sizeLine := by rw [List.length_map, sizeLine_eq]; omega
  have hn : H p = none := I.hok.fresh hp
  have hv : Vals (L'.map fun q => V.ref q.1) out.toList := by rw [hout]; exact vals_of_refs L'
  have J : Inv X pins σ (upd H p (.lst (L'.map fun q => V.ref q.1))) { s with heap := s'.heap, gens := s'.gens, drawn := s'.drawn, toks := s'.toks } := by
    refine I.call (ch := []) (Un.laid k hp hn) (I.hok.laid k hp ⟨len_, out.toList, c, hv, hg⟩) ?_ (fun _ z => nomatch z)
    rw [g]
    exact I.bare
  have e : s' = { s with heap := s'.heap, gens := s'.gens, drawn := s'.drawn, toks := s'.toks } := by
    cases s'
    cases s
    cases o
    rfl
  rw [e]
  exact ⟨.ref p, _, J, rfl, q L' p pm ((pm.map (·.2)).nodup_iff.mpr R.nd) few pw hn⟩
end Sky

namespace Sky
open PySem PySem.Spec PyProof.Rows L2
section
variable {X : Cx} {K : PySem.W.Frag} {e : Expr}
theorem kpiET (hK : X.K = K) {ta : TA} {p pos tpos : Pos} {elts : List Expr} {kk : Nat} (hg : Gl X "enumerate") (hm : X.mg "enumerate" = none) (ha : PA X [e] ta) (hs : starEach [e] X.env = [(false, eval e X.env)] := by rfl) :
    PI X (.Tuple elts kk tpos) (.Call (.Name "enumerate" p) [e] [] pos) (iEnumT K ta) := by subst hK; exact pi_enumT hg hm ha hs
abbrev rIsC (C : Addr) : List V → Hp → VK → Prop := fun xs H Q => ∃ a dx fs, xs = [.ref a, .ref C] ∧ H a = some (.ins C dx fs) ∧ Q (.bl true) H
theorem kisC {C : Addr} (hK : X.K = K) (c : C8.InsC K C) : CallR X (.builtin "isinstance") (rIsC C) := by subst hK; exact C8.call_isC c
end
/-! ### lists and tuples of things -/
/-- a list whose items are as Rs say -/
def lsO (K : PySem.W.Frag) (Rs : List VP) : VP := fun v G => ∃ a xs, v = .ref a ∧ SqL K G a xs ∧ All2 Rs xs G
def tpO (K : PySem.W.Frag) (Rs : List VP) : VP := fun v G => ∃ a xs, v = .ref a ∧ SqT K G a xs ∧ All2 Rs xs G
theorem mn_lsO {K : PySem.W.Frag} {Rs : List VP} (m : Mns Rs) : Mn (lsO K Rs) := fun v G G' e ⟨a, xs, h1, h2, h3⟩ => ⟨a, xs, h1, e.seq h2, h3.mono e m⟩
theorem mn_tpO {K : PySem.W.Frag} {Rs : List VP} (m : Mns Rs) : Mn (tpO K Rs) := fun v G G' e ⟨a, xs, h1, h2, h3⟩ => ⟨a, xs, h1, same_t e h2, h3.mono e m⟩
/-- the list with just these items -/
def lsV (K : PySem.W.Frag) (xs : List V) : VP := fun v G => ∃ a, v = .ref a ∧ SqL K G a xs
def tpV (K : PySem.W.Frag) (xs : List V) : VP := fun v G => ∃ a, v = .ref a ∧ SqT K G a xs
theorem mn_lsV {K : PySem.W.Frag} {xs : List V} : Mn (lsV K xs) := fun v G G' e ⟨a, h1, h2⟩ => ⟨a, h1, e.seq h2⟩
theorem mn_tpV {K : PySem.W.Frag} {xs : List V} : Mn (tpV K xs) := fun v G G' e ⟨a, h1, h2⟩ => ⟨a, h1, same_t e h2⟩
def any : VP := fun _ _ => True
theorem mn_any : Mn any := fun _ _ _ _ _ => trivial
/-- just this value -/
def isV (w : V) : VP := fun v _ => v = w
theorem mn_isV {w : V} : Mn (isV w) := fun _ _ _ _ h => h
theorem all2_dp {K : PySem.W.Frag} {G : Hp} : ∀ {ds : List PyData} {vs : List V}, DpAll K G vs ds → All2 (ds.map (isD K)) vs G
  | [], _, h => by cases h; exact .nil
  | d :: ds, _, h => by
    cases h with
    | cons h1 h2 => exact .cons h1 (all2_dp h2)
theorem dp_all2 {K : PySem.W.Frag} {G : Hp} : ∀ {ds : List PyData} {vs : List V}, All2 (ds.map (isD K)) vs G → DpAll K G vs ds
  | [], _, h => by cases h; exact .nil
  | d :: ds, _, h => by
    cases h with
    | cons h1 h2 => exact .cons h1 (dp_all2 h2)
theorem mns_map {α : Type} {f : α → VP} (h : ∀ x, Mn (f x)) (l : List α) : Mns (l.map f) := fun R hR => by
  obtain ⟨x, _, rfl⟩ := List.mem_map.mp hR
  exact h x
theorem ls_of_dp {K : PySem.W.Frag} {G : Hp} {v : V} {ds : List PyData} (h : Dp K G v (.list ds)) : lsO K (ds.map (isD K)) v G := by
  cases h with
  | lst hs hd => exact ⟨_, _, rfl, hs, all2_dp hd⟩
theorem dp_of_ls {K : PySem.W.Frag} {G : Hp} {v : V} {ds : List PyData} (h : lsO K (ds.map (isD K)) v G) : Dp K G v (.list ds) := by
  obtain ⟨a, xs, rfl, h1, h2⟩ := h
  exact .lst h1 (dp_all2 h2)
theorem tp_of_dp {K : PySem.W.Frag} {G : Hp} {v : V} {ds : List PyData} (h : Dp K G v (.tuple ds)) : tpO K (ds.map (isD K)) v G := by
  cases h with
  | tup hs hd => exact ⟨_, _, rfl, hs, all2_dp hd⟩
theorem dp_of_tp {K : PySem.W.Frag} {G : Hp} {v : V} {ds : List PyData} (h : tpO K (ds.map (isD K)) v G) : Dp K G v (.tuple ds) := by
  obtain ⟨a, xs, rfl, h1, h2⟩ := h
  exact .tup h1 (dp_all2 h2)
theorem all2_at {G : Hp} : ∀ {Rs : List VP} {vs : List V} {i : Nat} {v : V}, All2 Rs vs G → vs[i]? = some v → ∃ R, Rs[i]? = some R ∧ R v G
  | [], _, i, v, h, e => by cases h; simp at e
  | R :: Rs, _, 0, v, h, e => by
    cases h with
    | cons h1 h2 => simp at e; subst e; exact ⟨R, rfl, h1⟩
  | R :: Rs, _, i + 1, v, h, e => by
    cases h with
    | cons h1 h2 =>
      obtain ⟨R', a, b⟩ := all2_at (i := i) h2 (by simpa using e)
      exact ⟨R', by simpa using a, b⟩
theorem all2_to {G : Hp} : ∀ {Rs : List VP} {vs : List V} {i : Nat} {R : VP}, All2 Rs vs G → Rs[i]? = some R → ∃ v, vs[i]? = some v ∧ R v G
  | [], _, i, R, h, e => by cases h; simp at e
  | R0 :: Rs, _, 0, R, h, e => by
    cases h with
    | cons h1 h2 => simp at e; subst e; exact ⟨_, rfl, h1⟩
  | R0 :: Rs, _, i + 1, R, h, e => by
    cases h with
    | cons h1 h2 =>
      obtain ⟨v, a, b⟩ := all2_to (i := i) h2 (by simpa using e)
      exact ⟨v, by simpa using a, b⟩
theorem all2_app {G : Hp} {Rs Ss : List VP} {vs ws : List V} (h : All2 Rs vs G) (k : All2 Ss ws G) : All2 (Rs ++ Ss) (vs ++ ws) G := by
  induction Rs generalizing vs with
  | nil => cases h; exact k
  | cons R Rs ih =>
    cases h with
    | cons h1 h2 => exact .cons h1 (ih h2)
section
variable {K : PySem.W.Frag} {σ : L2.St} {G G1 H : Hp} {ta tb te : TE} {t : TA} {R S R0 : VP} {d : PyData} {ds : List PyData} {D : Ends} {tu tz : TS} {g : TG} {xs ys : List V} {Rs : List VP} {i : Int}
/-! what is read of them -/
theorem ev_lenV (ha : EvR ta σ G (lsV K xs)) : EvR (tCB (rLenS K) (tCons ta tNil)) σ G (isD K (.int (xs.length : Nat))) := ev_cb1 mn_lsV ha fun x G' _ r H e Q q => by
  obtain ⟨a, rfl, hs⟩ := r
  exact ⟨_, xs.length, rfl, .inl ⟨_, e.seq hs, rfl⟩, q _ G' H (Gw.refl e) (.int _)⟩
theorem ev_lenTV (ha : EvR ta σ G (tpV K xs)) : EvR (tCB (rLenS K) (tCons ta tNil)) σ G (isD K (.int (xs.length : Nat))) := ev_cb1 mn_tpV ha fun x G' _ r H e Q q => by
  obtain ⟨a, rfl, hs⟩ := r
  exact ⟨_, xs.length, rfl, .inr ⟨_, same_t e hs, rfl⟩, q _ G' H (Gw.refl e) (.int _)⟩
theorem ev_isiLV (ha : EvR ta σ G (lsV K xs)) : EvR (tCB (rIsi K) (tCons ta (tCons (tC (.ty "list")) tNil))) σ G (isD K (.bool true)) := fun H e Q q => ha H e _ fun v G1 H1 g1 r1 => by
  obtain ⟨a, rfl, hs⟩ := r1
  have ty : TyX K H1 (.ref a) (.type "list") := by
    rcases g1.gh.seq hs with (h | ⟨o, h⟩) | ⟨o, its, n, h, c, _⟩
    · exact .base (.lst h)
    · exact .base (.frz h)
    · exact .kList h c
  exact ⟨.ref a, .ty "list", .type "list", .type "list", true, rfl, .ty "list", ty, kit_ty (kit_list (.list [])), q _ G1 H1 g1 (.bl _)⟩
theorem ev_isC {C : Addr} {F : List (Str × V) → Hp → Prop} (m : MnF F) (ha : EvR ta σ G (isO C F)) : EvR (tCB (rIsC C) (tCons ta (tCons (tC (.ref C)) tNil))) σ G (isD K (.bool true)) := fun H e Q q => ha H e _ fun v G1 H1 g1 ⟨p, dx, fs, h1, h2, h3⟩ => by
  subst h1
  exact ⟨p, dx, fs, rfl, g1.gh _ _ h2, q _ G1 H1 g1 (.bl _)⟩
theorem ev_listTV (ha : EvR ta σ G (tpV K xs)) : EvR (tCB (rListOf K) (tCons ta tNil)) σ G (lsV K xs) := ev_cb1 mn_tpV ha fun x G' _ r H e Q q => by
  obtain ⟨a, rfl, hs⟩ := r
  exact ⟨_, _, rfl, .inr (same_t e hs), fun l hl => q _ _ _ (Gw.new e hl) ⟨l, rfl, SqL.of upd_same⟩⟩
theorem ev_tupLV (ha : EvR ta σ G (lsV K xs)) : EvR (tCB (rTupOf K) (tCons ta tNil)) σ G (tpV K xs) := ev_cb1 mn_lsV ha fun x G' _ r H e Q q => by
  obtain ⟨a, rfl, hs⟩ := r
  exact ⟨_, _, rfl, .inl ⟨e.seq hs, fun l hl => q _ _ _ (Gw.new e hl) ⟨l, rfl, SqT.of upd_same⟩⟩⟩
theorem ev_ixLV {v : V} (h : atI xs i = some v) (ha : EvR ta σ G (lsV K xs)) (hb : EvR tb σ G (isD K (.int i))) : EvR (tOp (rIxL K) ta tb) σ G (isV v) :=
  ev_op mn_lsV mn_isD ha hb fun x w G' _ r1 r2 H k Q q => by
    cases r2
    obtain ⟨a, rfl, hs⟩ := r1
    exact ⟨_, _, _, v, rfl, rfl, k.seq hs, h, q v G' H (Gw.refl k) rfl⟩
theorem ev_ixTV {v : V} (h : atI xs i = some v) (ha : EvR ta σ G (tpV K xs)) (hb : EvR tb σ G (isD K (.int i))) : EvR (tOp (rIxT K) ta tb) σ G (isV v) :=
  ev_op mn_tpV mn_isD ha hb fun x w G' _ r1 r2 H k Q q => by
    cases r2
    obtain ⟨a, rfl, hs⟩ := r1
    exact ⟨_, _, _, v, rfl, rfl, same_t k hs, h, q v G' H (Gw.refl k) rfl⟩
/-- a value known by its name, that was something -/
theorem ev_isV {w : V} (h : EvR te σ G (isV w)) (r : R w G) (m : Mn R) : EvR te σ G R := fun H e Q q => h H e Q fun v G' H' g r' => by
  subst r'
  exact q _ G' H' g (m _ _ _ g.gg r)
theorem ev_callL {α : Type} {Ps : α → List VP} {pre : α → Prop} {Rr : α → VP} {j : Nat} {f : Addr} {E : XK} (x : α) (hs : σ[j]? = some (some (.ref f))) (ha : EvA t σ G (Ps x)) (hp : pre x) : EvR (tCallL j f (spP Ps pre Rr) [] E t) σ G (Rr x) := fun H e Q q =>
  ⟨hs, ha.2 H e _ fun vs G1 H1 g1 r1 => ⟨x, G1, g1.gh, by rw [List.append_nil]; exact r1, hp, fun v G2 H2 g2 r => q v G2 H2 (g1.trans g2) r⟩⟩
/-! for k, x in enumerate(a tuple) -/
theorem s_forETV {tl : TE} (e : Same G H) (h : EvR tl σ G (tpV K xs)) (k : ∀ Gb Hb, Gw [] G H Gb Hb → ∃ I : Nat → L2.St → Hp → Hp → Prop, I 0 σ Gb Hb ∧
      (∀ i x σ' G' H', xs[i]? = some x → Same Gb G' → Same G' H' → I i σ' G' H' → ∀ T, H' T = none → g (.ref T) σ' (upd H' T (.tup [.int (i : Nat), x])) fun σ2 H2 => tu (LpOk D Gb I i) σ2 H2) ∧
      (∀ σ' G' H', Same Gb G' → Same G' H' → I xs.length σ' G' H' → D.nx σ' H')) : tFor (iEnumT K (tCons tl tNil)) g tu D σ H := h H e _ fun v G1 H1 g1 r1 => by
  obtain ⟨a, rfl, hs⟩ := r1
  obtain ⟨I, h0, h1, h2⟩ := k G1 H1 g1
  refine ⟨a, xs, rfl, same_t g1.gh hs, s_wk (walk_enumT (K := K) (a := a) (xs := xs)) I h0 g1.gh (fun H2 e2 => same_t e2 hs) ?_ h2⟩
  rintro i v σ' G' H' H'' hi a1 a2 hI ⟨T, x, y, rfl, hT, rfl, hx1, hx2⟩
  cases hx1
  exact h1 i y σ' G' H' hx2 a1 a2 hI T hT
theorem q_forETV {tl : TE} (e : Same G H) (h : EvR tl σ G (tpV K xs)) (k : ∀ Gb Hb, Gw [] G H Gb Hb → ∃ I : Nat → L2.St → Hp → Hp → Prop, I 0 σ Gb Hb ∧
      (∀ i x σ' G' H', xs[i]? = some x → Same Gb G' → Same G' H' → I i σ' G' H' → ∀ T, H' T = none → g (.ref T) σ' (upd H' T (.tup [.int (i : Nat), x])) fun σ2 H2 => tu (LpOk { D with nx := tz D } Gb I i) σ2 H2) ∧
      (∀ σ' G' H', Same Gb G' → Same G' H' → I xs.length σ' G' H' → tz D σ' H')) : tSeq (tFor (iEnumT K (tCons tl tNil)) g tu) tz D σ H := s_forETV (D := { D with nx := tz D }) e h k
/-- for k, (x, y) in enumerate(zip(xs, ys)) -/
theorem s_forEZ {ta : TA} {n : Nat} (e : Same G H) (h : EvA ta σ G [lsV K xs, lsV K ys]) (hn : n = min xs.length ys.length) (k : ∀ Gb Hb, Gw [] G H Gb Hb → ∃ I : Nat → L2.St → Hp → Hp → Prop, I 0 σ Gb Hb ∧
      (∀ i x y σ' G' H', xs[i]? = some x → ys[i]? = some y → Same Gb G' → Same G' H' → I i σ' G' H' → ∀ T T1, H' T1 = none → H' T = none → T ≠ T1 → g (.ref T) σ' (upd (upd H' T1 (.tup [x, y])) T (.tup [.int (i : Nat), .ref T1])) fun σ2 H2 => tu (LpOk D Gb I i) σ2 H2) ∧
      (∀ σ' G' H', Same Gb G' → Same G' H' → I n σ' G' H' → D.nx σ' H')) : tFor (iEz K ta) g tu D σ H := h.2 H e _ fun ws G1 H1 g1 r1 => by
  cases r1 with
  | cons ra r1 =>
  cases r1 with
  | cons rb r1 =>
  cases r1
  obtain ⟨a, rfl, ha⟩ := ra
  obtain ⟨b, rfl, hb⟩ := rb
  obtain ⟨I, h0, h1, h2⟩ := k G1 H1 g1
  refine ⟨a, b, xs, ys, rfl, g1.gh.seq ha, g1.gh.seq hb, s_wk (walk_ez (K := K) (a := a) (b := b) (xs := xs) (ys := ys) hn) I h0 g1.gh (fun H2 e2 => ⟨e2.seq ha, e2.seq hb⟩) ?_ h2⟩
  rintro i v σ' G' H' H'' hi a1 a2 hI ⟨T1, T, x, y, rfl, hT1, hT, hne, rfl, hx1, hx2⟩
  exact h1 i x y σ' G' H' hx1 hx2 a1 a2 hI T T1 hT1 hT hne
/-- the turn's new tuples belong to what stands -/
theorem gw_two {x y : V} {i : V} {T T1 : Addr} (e : Same G H) (h1 : H T1 = none) (h2 : H T = none) (hne : T ≠ T1) :
    Gw [] G H (upd (upd G T1 (.tup [x, y])) T (.tup [i, .ref T1])) (upd (upd H T1 (.tup [x, y])) T (.tup [i, .ref T1])) := by
  have g1 : Gw [] G H (upd G T1 (.tup [x, y])) (upd H T1 (.tup [x, y])) := Gw.new e h1
  exact g1.trans (Gw.new g1.gh (by rw [upd_ne hne]; exact h2))
/-- a, b, .. = a tuple of things -/
theorem g_tupV {n : Nat} {tt : TGs} {v : V} {Q : L2.St → Hp → Prop} (e : Same G H) (h : tpV K xs v G) (hn : xs.length = n) (k : tt xs σ H Q) : gTup K n tt v σ H Q := by
  obtain ⟨a, rfl, hs⟩ := h
  exact ⟨a, xs, rfl, same_t e hs, hn, k⟩
end
/-! ### sets of pairs -/
abbrev pairD (p : Int × Int) : PyData := .tuple [.int p.1, .int p.2]
def prL (p : Int × Int) : List Int := [p.1, p.2]
/-- a set of the pairs in sp -/
def isSet (K : PySem.W.Frag) (P : Program) (w : World) (sp : List (Int × Int)) : VP := fun v G => ∃ a L, v = .ref a ∧ G a = some (SetTO P w a L) ∧ (∀ p ∈ L, SqT K G p.1 (p.2.map V.int)) ∧ (∀ p ∈ L, ∃ q ∈ sp, p.2 = prL q) ∧ (∀ q ∈ sp, prL q ∈ L.map (·.2)) ∧ (L.map (·.2)).Nodup
theorem mn_isSet {K : PySem.W.Frag} {P : Program} {w : World} {sp : List (Int × Int)} : Mn (isSet K P w sp) := fun v G G' e ⟨a, L, h1, h2, h3, h4, h5, h6⟩ => ⟨a, L, h1, e _ _ h2, fun p hp => same_t e (h3 p hp), h4, h5, h6⟩
theorem pigeon {α : Type} [DecidableEq α] : ∀ (l D : List α), l.Nodup → (∀ x ∈ l, x ∈ D) → l.length ≤ D.length
  | [], _, _, _ => Nat.zero_le _
  | x :: l, D, hn, hs => by
    obtain ⟨h1, h2⟩ := List.nodup_cons.mp hn
    have hx : x ∈ D := hs x List.mem_cons_self
    have ih := pigeon l (D.erase x) h2 fun y hy => (List.mem_erase_of_ne (fun z => h1 (by rw [← z]; exact hy))).2 (hs y (List.mem_cons_of_mem _ hy))
    have e := List.length_erase_of_mem hx
    have hp : 0 < D.length := List.length_pos_of_mem hx
    rw [List.length_cons]
    omega
theorem dp_pair {K : PySem.W.Frag} {G : Hp} {v : V} {p : Int × Int} (h : Dp K G v (pairD p)) : ∃ a, v = .ref a ∧ SqT K G a ((prL p).map V.int) := by
  cases h with
  | tup hs hd =>
    cases hd with
    | cons h1 hd =>
    cases hd with
    | cons h2 hd =>
    cases hd
    cases h1
    cases h2
    exact ⟨_, rfl, hs⟩
theorem pair_dp {K : PySem.W.Frag} {G : Hp} {a : Addr} {p : Int × Int} (h : SqT K G a ((prL p).map V.int)) : Dp K G (.ref a) (pairD p) := .tup h (.cons (.int _) (.cons (.int _) .nil))
theorem refs_of {K : PySem.W.Frag} {G : Hp} : ∀ {sp : List (Int × Int)} {xs : List V}, DpAll K G xs (sp.map pairD) → ∃ ks : List (Addr × List Int), xs = ks.map (fun p => V.ref p.1) ∧ (∀ p ∈ ks, SqT K G p.1 (p.2.map V.int)) ∧ ks.map (·.2) = sp.map prL
  | [], _, h => by cases h; exact ⟨[], rfl, (fun p hp => (by cases hp)), rfl⟩
  | q :: sp, _, h => by
    cases h with
    | cons h1 h2 =>
      obtain ⟨a, rfl, hs⟩ := dp_pair h1
      obtain ⟨ks, rfl, h3, h4⟩ := refs_of h2
      refine ⟨(a, prL q) :: ks, rfl, fun p hp => ?_, by rw [List.map_cons, List.map_cons, h4]⟩
      rcases List.mem_cons.mp hp with z | z
      · subst z; exact hs
      · exact h3 p z
theorem ev_setM {K : PySem.W.Frag} {P : Program} {w : World} {σ : L2.St} {G : Hp} {ta : TE} {sp : List (Int × Int)} (D : List (Int × Int)) (hD : D.length + 1 < 64) (hsub : ∀ q ∈ sp, q ∈ D) (ha : EvR ta σ G (isD K (.list (sp.map pairD)))) :
    EvR (tCB (rSetM K P w) (tCons ta tNil)) σ G (isSet K P w sp) := ev_cb1 mn_isD ha fun x G' _ r H e Q q => by
  cases r with
  | @lst l xs _ hs hd =>
  obtain ⟨ks, rfl, h1, h2⟩ := refs_of hd
  refine ⟨l, ks, rfl, e.seq hs, fun p hp => same_t e (h1 p hp), fun L nd sub => ?_, fun a L hn sub all_ nd => ?_⟩
  · have := pigeon (L.map (·.2)) (D.map prL) nd fun k hk => by
      obtain ⟨p, hp, rfl⟩ := List.mem_map.mp hk
      have : p.2 ∈ ks.map (·.2) := List.mem_map.mpr ⟨p, sub p hp, rfl⟩
      rw [h2] at this
      obtain ⟨q0, hq, e0⟩ := List.mem_map.mp this
      exact List.mem_map.mpr ⟨q0, hsub _ hq, e0⟩
    rw [List.length_map, List.length_map] at this
    omega
  · refine q (.ref a) (upd G' a (SetTO P w a L)) _ (Gw.new e hn) ⟨a, L, rfl, upd_same, fun p hp => same_t (same_new (e.free hn)) (h1 p (sub p hp)), fun p hp => ?_, fun q0 hq => ?_, nd⟩
    · have : p.2 ∈ ks.map (·.2) := List.mem_map.mpr ⟨p, sub p hp, rfl⟩
      rw [h2] at this
      obtain ⟨q0, hq, e0⟩ := List.mem_map.mp this
      exact ⟨q0, hq, e0.symm⟩
    · have : prL q0 ∈ ks.map (·.2) := by
        rw [h2]
        exact List.mem_map.mpr ⟨q0, hq, rfl⟩
      obtain ⟨p, hp, e0⟩ := List.mem_map.mp this
      rw [← e0]
      exact all_ p hp
/-- strictly ordered, with just the members of sp -/
structure SortedOf (sp out : List (Int × Int)) : Prop where
  mem : ∀ q, q ∈ out ↔ q ∈ sp
  nd : out.Nodup
  ord : out.Pairwise fun p q => SrtO.lexB q p = false
theorem pr2_prL (p : Int × Int) : pr2 (prL p) = p := rfl
theorem ev_sortS {K : PySem.W.Frag} {P : Program} {w : World} {σ : L2.St} {G : Hp} {ta : TE} {sp : List (Int × Int)} (ha : EvR ta σ G (isSet K P w sp)) :
    EvR (tCB (rSortS K P w) (tCons ta tNil)) σ G (fun v G' => ∃ out, SortedOf sp out ∧ Dp K G' v (.list (out.map pairD))) := ev_cb1 mn_isSet ha fun x G' _ ⟨a, L, e0, h1, h2, h3, h4, h5⟩ H e Q q => by
  subst e0
  refine ⟨a, L, rfl, e _ _ h1, fun p hp => same_t e (h2 p hp), fun p hp => ?_, fun L' p pm nd few pw hn => ?_⟩
  · obtain ⟨q0, _, e1⟩ := h3 p hp
    rw [e1]
    rfl
  · have mem' : ∀ r ∈ L', ∃ q0 ∈ sp, r.2 = prL q0 := fun r hr => h3 r (pm.mem_iff.mp hr)
    have back : ∀ r ∈ L', prL (pr2 r.2) = r.2 := fun r hr => by
      obtain ⟨q0, _, e1⟩ := mem' r hr
      rw [e1]
      rfl
    refine q (.ref p) (upd G' p (.lst (L'.map fun r => V.ref r.1))) _ (Gw.new e hn) ⟨L'.map fun r => pr2 r.2, ⟨fun q0 => ⟨fun hq => ?_, fun hq => ?_⟩, ?_, ?_⟩, .lst (SqL.of upd_same) ?_⟩
    · obtain ⟨r, hr, e1⟩ := List.mem_map.mp hq
      obtain ⟨q1, hq1, e2⟩ := mem' r hr
      rw [← e1, e2]
      exact hq1
    · obtain ⟨r, hr, e1⟩ := List.mem_map.mp (h4 q0 hq)
      exact List.mem_map.mpr ⟨r, pm.mem_iff.mpr hr, by rw [e1]; rfl⟩
    · refine List.pairwise_map.mpr (List.Pairwise.imp_of_mem (fun {r s} hr hs hne e1 => ?_) (List.pairwise_map.mp nd))
      apply hne
      rw [← back r hr, ← back s hs, e1]
    · exact List.pairwise_map.mpr pw
    · have : ∀ l : List (Addr × List Int), (∀ r ∈ l, r ∈ L') → DpAll K (upd G' p (.lst (L'.map fun r => V.ref r.1))) (l.map fun r => V.ref r.1) ((l.map fun r => pr2 r.2).map pairD) := by
        intro l
        induction l with
        | nil => intro _; exact .nil
        | cons r l ih =>
          intro hl
          refine .cons ?_ (ih fun s hs => hl s (List.mem_cons_of_mem _ hs))
          have hr := hl r List.mem_cons_self
          have := h2 r (pm.mem_iff.mp hr)
          rw [← back r hr] at this
          exact pair_dp (same_t (same_new (e.free hn)) this)
      exact this L' fun r hr => hr
end Sky

namespace Sky
open PySem PySem.Spec PyProof.Rows L2
/-- a list of data that was laid in this frame -/
def isDL (K : PySem.W.Frag) (ds : List PyData) : VP := fun v G => ∃ a xs, v = .ref a ∧ G a = some (.lst xs) ∧ DpAll K G xs ds
theorem mn_isDL {K : PySem.W.Frag} {ds : List PyData} : Mn (isDL K ds) := fun v G G' e ⟨a, xs, h1, h2, h3⟩ => ⟨a, xs, h1, e _ _ h2, dpall_mono e _ _ h3⟩
theorem dl_dp {K : PySem.W.Frag} {ds : List PyData} {v : V} {G : Hp} (h : isDL K ds v G) : Dp K G v (.list ds) := by
  obtain ⟨a, xs, rfl, h2, h3⟩ := h
  exact .lst (SqL.of h2) h3
section
variable {K : PySem.W.Frag} {σ : L2.St} {G G1 H : Hp} {ta tb te : TE} {t : TA} {R S R0 : VP} {d : PyData} {ds es : List PyData} {D : Ends} {tu tz : TS} {g : TG} {xs ys : List V} {Rs : List VP} {i : Int}
theorem ev_dl (h : EvR te σ G (isDL K ds)) : EvR te σ G (isD K (.list ds)) := h.imp fun v G' _ r => dl_dp r
theorem ev_dlTo (h : EvR te σ G (isDL K ds)) (k : ds = es) : EvR te σ G (isDL K es) := k ▸ h
theorem ev_lstF {ta : TA} (h : EvD ta σ G K ds) (hl : ds.length ≤ 1000) : EvR (tLst ta) σ G (isDL K ds) := fun H e Q q =>
  h H e _ fun vs G1 H1 g1 r1 => ⟨Nat.le_of_lt (small1000 (by rw [dpall_len r1]; exact hl)), fun p hp => q (.ref p) (upd G1 p (.lst vs)) _ (g1.trans (Gw.new g1.gh hp)) ⟨p, vs, rfl, upd_same, dpall_mono (same_new (g1.gh.free hp)) _ _ r1⟩⟩
theorem ev_slF {tl th : TO} {lo hi : Option Int} (ha : EvR ta σ G (isD K (.list ds))) (hl : EvO tl σ G lo) (hh : EvO th σ G hi) : EvR (tSl (rSlL K) ta tl th) σ G (isDL K (cutD ds lo hi)) := fun H e Q q =>
  ha H e _ fun v G1 H1 g1 r1 => (hl.mono g1.gg) H1 g1.gh _ fun G2 H2 g2 => (hh.mono (g1.gg.trans g2.gg)) H2 g2.gh _ fun G3 H3 g3 => by
    cases r1 with
    | lst hs hd => exact ⟨_, _, rfl, ((g2.trans g3).gg.trans g3.gh).seq hs, fun p hp => q _ _ _ (((g1.trans g2).trans g3).trans (Gw.new g3.gh hp)) ⟨p, _, rfl, upd_same, dpall_mono (same_new (g3.gh.free hp)) _ _ (dpall_cut (dpall_mono (g2.trans g3).gg _ _ hd) lo hi)⟩⟩
theorem ev_cat (ha : EvR ta σ G (isDL K ds)) (hb : EvR tb σ G (isDL K es)) (hz : ds.length + es.length ≤ 1000) : EvR (tOp rCat ta tb) σ G (isDL K (ds ++ es)) :=
  ev_op mn_isDL mn_isDL ha hb fun x y G' _ ⟨a, xs, e1, h1, h2⟩ ⟨b, ys, e2, h3, h4⟩ H k Q q => by
    subst e1 e2
    exact ⟨a, b, xs, ys, rfl, rfl, k _ _ h1, k _ _ h3, Nat.le_of_lt (small1000 (by rw [dpall_len h2, dpall_len h4]; exact hz)), fun p hp => q _ (upd G' p (.lst (xs ++ ys))) _ (Gw.new k hp) ⟨p, _, rfl, upd_same, dpall_mono (same_new (k.free hp)) _ _ (dpall_app h2 h4)⟩⟩
/-- [f(x) for .. in xs], xs data, any targets -/
theorem ev_lcG {tl : TE} {vs : List Nat} (f : PyData → PyData) (h : EvR tl σ G (isD K (.list ds))) (hz : ds.length ≤ 1000)
    (he : ∀ (x : V) (d : PyData) G1 H1, Same G G1 → Same G1 H1 → d ∈ ds → Dp K G1 x d → ∃ σ2, (∀ Q' : L2.St → Hp → Prop, Q' σ2 H1 → g x (wipe σ vs) H1 Q') ∧ wipe σ2 vs = wipe σ vs ∧ EvR te σ2 G1 (isD K (f d))) :
    EvR (tLc (iList K tl) g tYes te vs) σ G (isDL K (ds.map f)) := fun H e Q q => h H e _ fun v G1 H1 g1 r1 => by
  cases r1 with
  | @lst a xs _ hs hd =>
  refine ⟨a, rfl, ⟨xs, g1.gh.seq hs⟩, fun D hD => ?_⟩
  refine lcR (K := K) (walk_list (K := K) (a := a) (xs := xs)) (ds.map fun d => some (f d)) (by simp [dpall_len hd]) g1.gh hD (by rw [dpall_len hd]; exact hz) (fun H2 e2 => e2.seq hs) ?_ fun ys G' H' g2 hg2 hD' hy => ?_
  · rintro i x o G' H2 H3 ho e1 e2 ⟨rfl, hi⟩
    obtain ⟨d, h1, h2⟩ := dpall_of hd hi
    rw [List.getElem?_map, h1] at ho
    cases ho
    obtain ⟨σ2, h3, h4, h5⟩ := he x d G' H3 (g1.gg.trans e1) e2 (List.mem_of_getElem? h1) (dp_mono e1 _ _ h2)
    exact ⟨σ2, G', Gw.refl e2, h3, h4, et_yes, fun d' hd' => by cases hd'; exact h5⟩
  · rw [fm_map] at hy
    have g3 := g2.fix g1.gh hD hD'
    exact q (.ref D) _ H' (g1.trans g3) ⟨D, ys, rfl, upd_same, dpall_mono (same_new hg2) _ _ hy⟩
/-- g x: a, b, .. = x, all names -/
theorem ev_lcGT {tl : TE} {vs : List Nat} (f : PyData → PyData) (h : EvR tl σ G (isD K (.tuple ds))) (hz : ds.length ≤ 1000)
    (he : ∀ (x : V) (d : PyData) G1 H1, Same G G1 → Same G1 H1 → d ∈ ds → Dp K G1 x d → ∃ σ2, (∀ Q' : L2.St → Hp → Prop, Q' σ2 H1 → g x (wipe σ vs) H1 Q') ∧ wipe σ2 vs = wipe σ vs ∧ EvR te σ2 G1 (isD K (f d))) :
    EvR (tLc (iTup K tl) g tYes te vs) σ G (isDL K (ds.map f)) := fun H e Q q => h H e _ fun v G1 H1 g1 r1 => by
  cases r1 with
  | @tup a xs _ hs hd =>
  refine ⟨a, rfl, ⟨xs, same_t g1.gh hs⟩, fun D hD => ?_⟩
  refine lcR (K := K) (walk_tup (K := K) (a := a) (xs := xs)) (ds.map fun d => some (f d)) (by simp [dpall_len hd]) g1.gh hD (by rw [dpall_len hd]; exact hz) (fun H2 e2 => same_t e2 hs) ?_ fun ys G' H' g2 hg2 hD' hy => ?_
  · rintro i x o G' H2 H3 ho e1 e2 ⟨rfl, hi⟩
    obtain ⟨d, h1, h2⟩ := dpall_of hd hi
    rw [List.getElem?_map, h1] at ho
    cases ho
    obtain ⟨σ2, h3, h4, h5⟩ := he x d G' H3 (g1.gg.trans e1) e2 (List.mem_of_getElem? h1) (dp_mono e1 _ _ h2)
    exact ⟨σ2, G', Gw.refl e2, h3, h4, et_yes, fun d' hd' => by cases hd'; exact h5⟩
  · rw [fm_map] at hy
    have g3 := g2.fix g1.gh hD hD'
    exact q (.ref D) _ H' (g1.trans g3) ⟨D, ys, rfl, upd_same, dpall_mono (same_new hg2) _ _ hy⟩
end
theorem eo_someK {K : PySem.W.Frag} {σ : L2.St} {G : Hp} {te : TE} {i : Int} (_ : KK K) (h : EvR te σ G (isD K (.int i))) : EvO (tPart te) σ G (some i) := eo_some h
end Sky

namespace Sky
open PySem PySem.Spec PyProof.Rows L2
/-! ### a reading, and all of them -/
structure Rd where
  k : Nat
  r : Nat
  c : Nat
  i : Int
  j : Int
  v : Int
  deriving DecidableEq
def Rd.spot (x : Rd) : Int × Int := (x.i, x.j)
abbrev rdD (x : Rd) : PyData := .tuple [.int (x.k : Nat), .tuple [.int (x.r : Nat), .int (x.c : Nat)], pairD x.spot, .int x.v]
def cellRd (k : Nat) (off : Int × Int) (r : Nat) (row : List (Option Int)) (c : Nat) : List Rd := match row[c]? with
  | some (some v) => [⟨k, r, c, off.1 + (r : Nat), off.2 + (c : Nat), v⟩]
  | _ => []
def rowRd (k : Nat) (off : Int × Int) (r : Nat) (row : List (Option Int)) (n : Nat) : List Rd := (List.range n).flatMap (cellRd k off r row)
def stripRd (k : Nat) (off : Int × Int) (rows : List (List (Option Int))) (n : Nat) : List Rd := (List.range n).flatMap fun r => rowRd k off r (rows.getD r []) (rows.getD r []).length
def allRd (strips : List (List (List (Option Int)))) (offs : List (Int × Int)) (n : Nat) : List Rd := (List.range n).flatMap fun k => stripRd k (offs.getD k (0, 0)) (strips.getD k []) (strips.getD k []).length
theorem flat_succ {α : Type} (f : Nat → List α) (n : Nat) : (List.range (n + 1)).flatMap f = (List.range n).flatMap f ++ f n := by
  rw [List.range_succ, List.flatMap_append]
  simp
theorem flat_le {α : Type} (f : Nat → List α) {n m : Nat} (h : n ≤ m) : ((List.range n).flatMap f).length ≤ ((List.range m).flatMap f).length := by
  induction m with
  | zero =>
    have : n = 0 := by omega
    subst this
    exact Nat.le_refl _
  | succ m ih =>
    rcases Nat.lt_or_ge m n with q | q
    · have : n = m + 1 := by omega
      subst this
      exact Nat.le_refl _
    · rw [flat_succ, List.length_append]
      have := ih q
      omega
theorem acc_le {strips : List (List (List (Option Int)))} {offs : List (Int × Int)} {k r c : Nat} (hk : k < strips.length) (hr : r < (strips.getD k []).length) (hc : c ≤ ((strips.getD k []).getD r []).length) :
    (allRd strips offs k ++ (stripRd k (offs.getD k (0, 0)) (strips.getD k []) r ++ rowRd k (offs.getD k (0, 0)) r ((strips.getD k []).getD r []) c)).length ≤ (allRd strips offs strips.length).length := by
  have h1 := flat_le (cellRd k (offs.getD k (0, 0)) r ((strips.getD k []).getD r [])) hc
  have h2 := flat_le (fun r => rowRd k (offs.getD k (0, 0)) r ((strips.getD k []).getD r []) ((strips.getD k []).getD r []).length) (Nat.succ_le_of_lt hr)
  have h3 := flat_le (fun k => stripRd k (offs.getD k (0, 0)) (strips.getD k []) (strips.getD k []).length) (Nat.succ_le_of_lt hk)
  rw [Nat.succ_eq_add_one, flat_succ, List.length_append] at h2 h3
  rw [List.length_append, List.length_append]
  have e1 : (rowRd k (offs.getD k (0, 0)) r ((strips.getD k []).getD r []) c).length ≤ (rowRd k (offs.getD k (0, 0)) r ((strips.getD k []).getD r []) ((strips.getD k []).getD r []).length).length := h1
  have e2 : (stripRd k (offs.getD k (0, 0)) (strips.getD k []) r).length + (rowRd k (offs.getD k (0, 0)) r ((strips.getD k []).getD r []) ((strips.getD k []).getD r []).length).length ≤ (stripRd k (offs.getD k (0, 0)) (strips.getD k []) (strips.getD k []).length).length := h2
  have e3 : (allRd strips offs k).length + (stripRd k (offs.getD k (0, 0)) (strips.getD k []) (strips.getD k []).length).length ≤ (allRd strips offs strips.length).length := h3
  omega
/-- levels as data -/
structure LevD where
  strips : List (List (List (Option Int)))
  offs : List (Int × Int)
  noise : Int
  ranges : List (Int × Int)
  datums : List ((Int × Int) × Int × Int)
def LevD.rds (l : LevD) : List Rd := allRd l.strips l.offs l.strips.length
def LevD.spots (l : LevD) : List (Int × Int) := l.rds.map Rd.spot ++ l.datums.map (·.1)
def StripsOk (l : List (List (List (Option Int)))) : Prop := ∀ rows ∈ l, ∃ w, RowsOk rows w
theorem putF_nil {f : Str} {v : V} : putF f v [] = [(f, v)] := rfl
/-- a heap without p -/
def less (p : Addr) (G : Hp) : Hp := fun a => if a = p then none else G a
theorem less_same {p : Addr} {G : Hp} : Same (less p G) G := fun a o e => by
  unfold less at e
  by_cases h : a = p
  · rw [if_pos h] at e; cases e
  · rw [if_neg h] at e; exact e
theorem less_at {p a : Addr} {G : Hp} {o : HO} (h : G a = some o) (hn : a ≠ p) : less p G a = some o := by
  unfold less
  rw [if_neg hn]
  exact h
theorem less_p {p : Addr} {G : Hp} : less p G p = none := by
  unfold less
  rw [if_pos rfl]
theorem less_ne {p a : Addr} {G : Hp} {o : HO} {C dx : Addr} {fs : List (Str × V)} (hp : G p = some (.ins C dx fs)) (ha : G a = some o) (ho : ∀ C dx fs, o ≠ .ins C dx fs) : less p G a = some o := by
  refine less_at ha fun z => ?_
  subst z
  rw [hp] at ha
  cases ha
  exact ho _ _ _ rfl
theorem less_l {K : PySem.W.Frag} {p a : Addr} {G : Hp} {xs : List V} {C dx : Addr} {fs : List (Str × V)} (hp : G p = some (.ins C dx fs)) (h : SqL K G a xs) : SqL K (less p G) a xs := by
  rcases h with (h | ⟨o, h⟩) | h
  · exact .inl (.inl (less_ne hp h fun _ _ _ z => by cases z))
  · exact .inl (.inr ⟨o, less_ne hp h fun _ _ _ z => by cases z⟩)
  · exact .inr h
theorem less_t {K : PySem.W.Frag} {p a : Addr} {G : Hp} {xs : List V} {C dx : Addr} {fs : List (Str × V)} (hp : G p = some (.ins C dx fs)) (h : SqT K G a xs) : SqT K (less p G) a xs := by
  rcases h with (h | ⟨o, h⟩) | h
  · exact .inl (.inl (less_ne hp h fun _ _ _ z => by cases z))
  · exact .inl (.inr ⟨o, less_ne hp h fun _ _ _ z => by cases z⟩)
  · exact .inr h
mutual
theorem less_dp {K : PySem.W.Frag} {p : Addr} {G : Hp} {C dx : Addr} {fs : List (Str × V)} (hp : G p = some (.ins C dx fs)) : ∀ (d : PyData) (v : V), Dp K G v d → Dp K (less p G) v d
  | .none, _, h => by cases h; exact .non
  | .bool b, _, h => by cases h; exact .bl b
  | .int i, _, h => by cases h; exact .int i
  | .str x, _, h => by cases h; exact .str x
  | .list ds, _, h => by
    cases h with
    | lst hs ha => exact .lst (less_l hp hs) (less_all hp ds _ ha)
  | .tuple ds, _, h => by
    cases h with
    | tup hs ha => exact .tup (less_t hp hs) (less_all hp ds _ ha)
  | .dict _, _, h => by cases h
theorem less_all {K : PySem.W.Frag} {p : Addr} {G : Hp} {C dx : Addr} {fs : List (Str × V)} (hp : G p = some (.ins C dx fs)) : ∀ (ds : List PyData) (vs : List V), DpAll K G vs ds → DpAll K (less p G) vs ds
  | [], _, h => by cases h; exact .nil
  | d :: ds, _, h => by
    cases h with
    | cons h1 h2 => exact .cons (less_dp hp d _ h1) (less_all hp ds _ h2)
end
/-- what was lent to a call comes back: p may change again -/
theorem Gw.back {G H G' H' : Hp} {p : Addr} {o : HO} (hg : G p = none) (hp : H p = some o) (g : Gw [] (upd G p o) H G' H') : Gw [p] G H (less p G') H' := by
  refine ⟨fun a u q => ?_, fun a u q => g.gh a u (less_same a u q), fun a u q n => g.hh a u q (by simp), fun a u q => ?_, g.tr⟩
  · have n : a ≠ p := fun z => by subst z; rw [hg] at q; cases q
    exact less_at (g.gg a u (by rw [upd_ne n]; exact q)) n
  · have n : a ≠ p := fun z => by subst z; rw [less_p] at q; cases q
    rcases g.fr a u (less_same a u q) with z | z
    · rw [upd_ne n] at z; exact .inl z
    · exact .inr z
end Sky

namespace Sky
open PySem PySem.Spec PyProof.Rows L2
theorem putF_past {f g : Str} {v x : V} {r : List (Str × V)} (h : ¬ g = f) : putF f v ((g, x) :: r) = (g, x) :: putF f v r := if_neg h
/-- the object under make: not in G, at p in H -/
structure Slf (p C dx : Addr) (G H Gi Hi : Hp) (fs : List (Str × V)) : Prop where
  gw : Gw [p] G H Gi Hi
  at_ : Hi p = some (.ins C dx fs)
  out : Gi p = none
section
variable {p C dx : Addr} {G H Gi Hi G' H' : Hp} {fs fs' : List (Str × V)}
theorem Slf.step (S : Slf p C dx G H Gi Hi fs) (g : Gw [] Gi Hi G' H') : Slf p C dx G H G' H' fs := ⟨S.gw.trans g.weak, g.hh _ _ S.at_ (by simp), g.out S.out S.at_⟩
theorem Slf.put (S : Slf p C dx G H Gi Hi fs) : Slf p C dx G H Gi (upd Hi p (.ins C dx fs')) fs' := ⟨S.gw.trans (Gw.put S.gw.gh S.out (by simp)), upd_same, S.out⟩
theorem Slf.into (S : Slf p C dx G H Gi Hi fs) : Same (upd Gi p (.ins C dx fs)) Hi := same_upd_r S.gw.gh S.at_
theorem Slf.back (S : Slf p C dx G H Gi Hi fs) (g : Gw [] (upd Gi p (.ins C dx fs)) Hi G' H') : Slf p C dx G H (less p G') H' fs :=
  ⟨S.gw.trans (Gw.back S.out S.at_ g), g.hh _ _ S.at_ (by simp), less_p⟩
theorem Slf.still (S : Slf p C dx G H Gi Hi fs) (g : Gw [] (upd Gi p (.ins C dx fs)) Hi G' H') : G' p = some (.ins C dx fs) := g.gg _ _ upd_same
theorem Slf.up (S : Slf p C dx G H Gi Hi fs) : Same Gi (upd Gi p (.ins C dx fs)) := same_new S.out
/-- what stood stands after a call that had p too -/
theorem Slf.keep (S : Slf p C dx G H Gi Hi fs) (g : Gw [] (upd Gi p (.ins C dx fs)) Hi G' H') : Same Gi (less p G') := fun a o q => by
  have n : a ≠ p := fun z => by subst z; rw [S.out] at q; cases q
  exact less_at (g.gg a o (by rw [upd_ne n]; exact q)) n
end
theorem less_set {K : PySem.W.Frag} {P : Program} {w : World} {sp : List (Int × Int)} {p : Addr} {G : Hp} {C dx : Addr} {fs : List (Str × V)} {v : V} (hp : G p = some (.ins C dx fs)) (h : isSet K P w sp v G) : isSet K P w sp v (less p G) := by
  obtain ⟨a, L, e, h1, h2, r⟩ := h
  exact ⟨a, L, e, less_ne hp h1 (fun _ _ _ z => by cases z), fun q hq => less_t hp (h2 q hq), r⟩
/-- a field of the object at p -/
theorem ev_slf {K : PySem.W.Frag} {σ : L2.St} {G : Hp} {p C dx : Addr} {fs : List (Str × V)} {f : Str} {t : V} {R : VP} {i : Nat} (hc : Cls K C) (hn : NoAttr K C f) (hs : σ[i]? = some (some (.ref p))) (hp : G p = some (.ins C dx fs)) (hl : fs.lookup f = some t) (r : R t G) (m : Mn R) : EvR (tFld K (tVar i) f) σ G R :=
  ev_fld (R0 := fun v G' => v = .ref p ∧ Same G G') hc hn (ev_var hs ⟨rfl, fun _ _ h => h⟩) fun v G' ⟨e1, e2⟩ => ⟨p, dx, fs, t, e1, e2 _ _ hp, hl, m _ _ _ e2 r⟩
theorem pl {f : Str} {v : V} {fs : List (Str × V)} {n : Nat} (h : fs.length ≤ n) : (putF f v fs).length ≤ n + 1 := by
  induction fs generalizing n with
  | nil => exact Nat.succ_le_succ (Nat.zero_le _)
  | cons q r ih =>
    obtain ⟨g, x⟩ := q
    rw [List.length_cons] at h
    unfold putF
    split
    · rw [List.length_cons]; omega
    · rw [List.length_cons]
      have := ih (n := n - 1) (by omega)
      omega
theorem ev_tupleEx {K : PySem.W.Frag} {σ : L2.St} {G : Hp} {te : TE} {α : Type} {Pp : α → Prop} {F : α → List PyData} (h : EvR te σ G (fun v G' => ∃ x, Pp x ∧ Dp K G' v (.list (F x)))) :
    EvR (tCB (rTupOf K) (tCons te tNil)) σ G (fun v G' => ∃ x, Pp x ∧ Dp K G' v (.tuple (F x))) := ev_cb1 (fun v G G' e ⟨x, h1, h2⟩ => ⟨x, h1, dpm e h2⟩) h fun v G' _ ⟨x, h1, h2⟩ H e Q q => by
  cases h2 with
  | lst hs hd => exact ⟨_, _, rfl, .inl ⟨e.seq hs, fun l hl => q _ _ _ (Gw.new e hl) ⟨x, h1, .tup (SqT.of upd_same) (dpall_mono (same_new (e.free hl)) _ _ hd)⟩⟩⟩
def thirdD : PyData → PyData
  | .tuple [_, _, c, _] => c
  | d => d
def firstD : PyData → PyData
  | .tuple (c :: _) => c
  | d => d
theorem putF_new {f : Str} {v : V} : ∀ {fs : List (Str × V)} {names : List Str}, fs.map Prod.fst = names → names.all (fun g => !(decide (g = f))) = true → putF f v fs = fs ++ [(f, v)]
  | [], _, _, _ => rfl
  | (g, x) :: r, names, hn, h => by
    subst hn
    rw [List.map_cons, List.all_cons, Bool.and_eq_true] at h
    have hg : ¬ g = f := by simpa using h.1
    rw [putF_past hg, putF_new rfl h.2]
    rfl
end Sky

namespace Sky
open PySem PySem.Spec PyProof.Rows L2
/-! ### which cells lie at a spot, and which is taken -/
def wOf (rows : List (List (Option Int))) : Nat := (rows.getD 0 []).length
abbrev Cl := Nat × Int × Int
abbrev cellD (x : Cl) : PyData := .tuple [.int (x.1 : Nat), pairD x.2]
def inB (rows : List (List (Option Int))) (p : Int × Int) : Bool := decide (0 ≤ p.1) && decide (p.1 < (rows.length : Nat)) && (decide (0 ≤ p.2) && decide (p.2 < (wOf rows : Nat)))
def cellAt (strips : List (List (List (Option Int)))) (offs : List (Int × Int)) (spot : Int × Int) (k : Nat) : List Cl :=
  if inB (strips.getD k []) (spot.1 - (offs.getD k (0, 0)).1, spot.2 - (offs.getD k (0, 0)).2) = true then [(k, spot.1 - (offs.getD k (0, 0)).1, spot.2 - (offs.getD k (0, 0)).2)] else []
def cellsF (strips : List (List (List (Option Int)))) (offs : List (Int × Int)) (spot : Int × Int) (n : Nat) : List Cl := (List.range n).flatMap (cellAt strips offs spot)
def rdAt (strips : List (List (List (Option Int)))) (x : Cl) : Option Int := ((strips.getD x.1 []).getD x.2.1.toNat []).getD x.2.2.toNat none
def rimF (rows : List (List (Option Int))) (p : Int × Int) : Int := min4 p.1 ((rows.length : Nat) - 1 - p.1) p.2 ((wOf rows : Nat) - 1 - p.2)
def tkStep (strips : List (List (List (Option Int)))) (a : Option (Nat × Int) × Int) (x : Cl) : Option (Nat × Int) × Int := match rdAt strips x with
  | some v => if a.2 < rimF (strips.getD x.1 []) x.2 then (some (x.1, v), rimF (strips.getD x.1 []) x.2) else a
  | none => a
def takenF (strips : List (List (List (Option Int)))) (cells : List Cl) : Option (Nat × Int) := (cells.foldl (tkStep strips) (none, -1)).1
def someF (strips : List (List (List (Option Int)))) (cells : List Cl) : List (Int × Nat × Int) := cells.filterMap fun x => (rdAt strips x).map fun v => (0 - rimF (strips.getD x.1 []) x.2, x.1, v)
abbrev someD (x : Int × Nat × Int) : PyData := .tuple [.int x.1, .int (x.2.1 : Nat), .int x.2.2]
def takenD : Option (Nat × Int) → PyData
  | none => .none
  | some x => .tuple [.int (x.1 : Nat), .int x.2]
/-- a cell that is there -/
structure ClOk (strips : List (List (List (Option Int)))) (x : Cl) : Prop where
  k : x.1 < strips.length
  b : inB (strips.getD x.1 []) x.2 = true
theorem cells_ok {strips : List (List (List (Option Int)))} {offs : List (Int × Int)} {spot : Int × Int} {n : Nat} (hn : n ≤ strips.length) : ∀ x ∈ cellsF strips offs spot n, ClOk strips x := fun x hx => by
  obtain ⟨k, hk, hx⟩ := List.mem_flatMap.mp hx
  rw [List.mem_range] at hk
  unfold cellAt at hx
  split at hx
  · rename_i h
    rw [List.mem_singleton] at hx
    subst hx
    exact ⟨by omega, h⟩
  · cases hx
theorem cellAt_len {strips : List (List (List (Option Int)))} {offs : List (Int × Int)} {spot : Int × Int} (k : Nat) : (cellAt strips offs spot k).length ≤ 1 := by
  unfold cellAt
  split
  · exact Nat.le_refl _
  · exact Nat.zero_le _
theorem cells_len {strips : List (List (List (Option Int)))} {offs : List (Int × Int)} {spot : Int × Int} : ∀ n, (cellsF strips offs spot n).length ≤ n
  | 0 => Nat.le_refl _
  | n + 1 => by
    unfold cellsF
    rw [flat_succ, List.length_append]
    have h1 := cells_len (strips := strips) (offs := offs) (spot := spot) n
    have h2 := cellAt_len (strips := strips) (offs := offs) (spot := spot) n
    unfold cellsF at h1
    omega
theorem inB_iff {rows : List (List (Option Int))} {p : Int × Int} (h : inB rows p = true) : 0 ≤ p.1 ∧ p.1 < (rows.length : Nat) ∧ 0 ≤ p.2 ∧ p.2 < (wOf rows : Nat) := by
  unfold inB at h
  simp only [Bool.and_eq_true, decide_eq_true_eq] at h
  exact ⟨h.1.1, h.1.2, h.2.1, h.2.2⟩
theorem rows_w {rows : List (List (Option Int))} {w : Nat} (ok : RowsOk rows w) : wOf rows = w := by
  obtain ⟨r, hr, hw⟩ := ok.zero
  unfold wOf
  rw [List.getD_eq_getElem?_getD, hr]
  exact hw
theorem rd_there {rows : List (List (Option Int))} {w : Nat} (ok : RowsOk rows w) {p : Int × Int} (h : inB rows p = true) : ∃ row, rows[p.1.toNat]? = some row ∧ row[p.2.toNat]? = some ((rows.getD p.1.toNat []).getD p.2.toNat none) ∧ row.length = w := by
  obtain ⟨h1, h2, h3, h4⟩ := inB_iff h
  have l1 : p.1.toNat < rows.length := by omega
  have lw := ok.all rows[p.1.toNat] (List.getElem_mem l1)
  have l2 : p.2.toNat < rows[p.1.toNat].length := by
    rw [lw, ← rows_w ok]
    omega
  refine ⟨rows[p.1.toNat], List.getElem?_eq_getElem l1, ?_, lw⟩
  simp [l1, l2]
/-- a promise whose answer is a new object -/
def spN {α : Type} (Ps : α → List VP) (pre : α → Prop) (R : α → VP) : Sp := fun vs H Q _ => ∃ (x : α) (G : Hp), Same G H ∧ All2 (Ps x) vs G ∧ pre x ∧ ∀ v G' H', Gw [] G H G' H' → R x v G' → (∃ l, v = .ref l ∧ H l = none) → Q v H'
theorem spN_of {α : Type} {Ps : α → List VP} {pre : α → Prop} {R : α → VP} {vs : List V} {H : Hp} {Q : VK} {E : XK} (h : spP Ps pre R vs H Q E) : spN Ps pre R vs H Q E := by
  obtain ⟨x, G, e, h1, h2, q⟩ := h
  exact ⟨x, G, e, h1, h2, fun v G' H' g r _ => q v G' H' g r⟩
theorem q_asg {σ : L2.St} {G H : Hp} {te : TE} {g : TG} {tz : TS} {D : Ends} {R : VP} (e : Same G H) (h : EvR te σ G R) (k : ∀ v G' H', Gw [] G H G' H' → R v G' → g v σ H' fun σ2 H2 => tz D σ2 H2) : tSeq (tAsg te g) tz D σ H := h H e _ k
/-- for k, (x, y) in enumerate(zip(xs, ys)), told of the items -/
theorem s_forEZO {K : PySem.W.Frag} {σ : L2.St} {G H : Hp} {ta : TA} {D : Ends} {tu : TS} {g : TG} {Rs Ss : List VP} {n : Nat} (mR : Mns Rs) (mS : Mns Ss) (e : Same G H) (h : EvA ta σ G [lsO K Rs, lsO K Ss]) (hn : n = min Rs.length Ss.length) (k : ∀ Gb Hb, Gw [] G H Gb Hb → ∃ I : Nat → L2.St → Hp → Hp → Prop, I 0 σ Gb Hb ∧
      (∀ i R S v x y T1 σ' G' H' G'' H'', i < n → Rs[i]? = some R → Ss[i]? = some S → Same Gb G' → Same G' H' → I i σ' G' H' → Gw [] G' H' G'' H'' → tpV K [.int (i : Nat), .ref T1] v G'' → tpV K [x, y] (.ref T1) G'' → R x G'' → S y G'' → g v σ' H'' fun σ2 H2 => tu (LpOk D Gb I i) σ2 H2) ∧
      (∀ σ' G' H', Same Gb G' → Same G' H' → I n σ' G' H' → D.nx σ' H')) : tFor (iEz K ta) g tu D σ H := h.2 H e _ fun ws G1 H1 g1 r1 => by
  cases r1 with
  | cons ra r1 =>
  cases r1 with
  | cons rb r1 =>
  cases r1
  obtain ⟨a, xs, rfl, ha, hxs⟩ := ra
  obtain ⟨b, ys, rfl, hb, hys⟩ := rb
  obtain ⟨I, h0, h1, h2⟩ := k G1 H1 g1
  refine ⟨a, b, xs, ys, rfl, g1.gh.seq ha, g1.gh.seq hb, s_wk (walk_ez (K := K) (a := a) (b := b) (xs := xs) (ys := ys) (n := n) (by rw [all2_len hxs, all2_len hys]; exact hn)) I h0 g1.gh (fun H2 e2 => ⟨e2.seq ha, e2.seq hb⟩) ?_ h2⟩
  rintro i v σ' G' H' H'' hi a1 a2 hI ⟨T1, T, x, y, rfl, hT1, hT, hne, rfl, hx1, hx2⟩
  obtain ⟨R, hR, rx⟩ := all2_at hxs hx1
  obtain ⟨S, hS, ry⟩ := all2_at hys hx2
  have g2 := gw_two (x := x) (y := y) (i := .int (i : Nat)) a2 hT1 hT hne
  refine h1 i R S (.ref T) x y T1 σ' G' H' _ _ hi hR hS a1 a2 hI g2 ⟨T, rfl, SqT.of upd_same⟩ ⟨T1, rfl, SqT.of ?_⟩ (mR R (List.mem_of_getElem? hR) _ _ _ (a1.trans g2.gg) rx) (mS S (List.mem_of_getElem? hS) _ _ _ (a1.trans g2.gg) ry)
  rw [upd_ne hne.symm, upd_same]
theorem g_two {i j : Nat} {x y : V} {σ : L2.St} {H : Hp} {Q : L2.St → Hp → Prop} (k : Q ((σ.set i (some x)).set j (some y)) H) : gCons (gName i) (gCons (gName j) gNil) [x, y] σ H Q := g_cons (g_cons (g_nil k))
/-- a new list of data: G0 has nothing there -/
def isDLn (K : PySem.W.Frag) (G0 : Hp) (ds : List PyData) : VP := fun v G' => ∃ a, v = .ref a ∧ G0 a = none ∧ isDL K ds v G'
theorem mn_isDLn {K : PySem.W.Frag} {G0 : Hp} {ds : List PyData} : Mn (isDLn K G0 ds) := fun v G G' e ⟨a, h1, h2, h3⟩ => ⟨a, h1, h2, mn_isDL _ _ _ e h3⟩
theorem dln_less {K : PySem.W.Frag} {G0 G1 : Hp} {ds : List PyData} {v : V} {G : Hp} (e : Same G0 G1) (h : isDLn K G1 ds v G) : isDLn K G0 ds v G := by
  obtain ⟨a, h1, h2, h3⟩ := h
  exact ⟨a, h1, e.free h2, h3⟩
/-- [f(k) for k in range(lo, hi)], new -/
theorem ev_lcR2F {K : PySem.W.Frag} {σ : L2.St} {G : Hp} {te : TE} {ta : TA} {j : Nat} {vs : List Nat} {lo hi : Int} (f : Int → PyData) (h : EvD ta σ G K [.int lo, .int hi]) (hb : -(2 ^ 62) ≤ lo ∧ lo < 2 ^ 62 ∧ -(2 ^ 62) ≤ hi ∧ hi < 2 ^ 62) (hz : (hi - lo).toNat ≤ 1000)
    (hw : ∀ x, wipe ((wipe σ vs).set j (some x)) vs = wipe σ vs) (he : ∀ (k : Int) G1, Same G G1 → lo ≤ k → k < hi → EvR te ((wipe σ vs).set j (some (.int k))) G1 (isD K (f k))) :
    EvR (tLc (iRng2 ta) (gName j) tYes te vs) σ G (isDLn K G ((List.range (hi - lo).toNat).map fun i => f (lo + (i : Nat)))) := fun H e Q q => h H e _ fun ws G1 H1 g1 r1 => by
  cases r1 with
  | cons a1 r1 =>
  cases r1 with
  | cons a2 r1 =>
  cases r1
  cases a1; cases a2
  refine ⟨lo, hi, rfl, hb, fun D hD => ?_⟩
  refine lcR (K := K) (walk_range (lo := lo) (n := (hi - lo).toNat)) ((List.range (hi - lo).toNat).map fun i => some (f (lo + (i : Nat)))) (by simp) g1.gh hD hz (fun H2 e2 => trivial) ?_ fun ys G' H' g2 hg2 hD' hy => ?_
  · rintro i x o G' H2 H3 ho e1 e2 ⟨rfl, rfl⟩
    rw [List.getElem?_map] at ho
    cases hr : (List.range (hi - lo).toNat)[i]? with
    | none => rw [hr] at ho; cases ho
    | some k =>
      rw [hr] at ho
      cases ho
      obtain ⟨hk1, hk2⟩ := List.getElem?_eq_some_iff.mp hr
      rw [List.length_range] at hk1
      rw [List.getElem_range] at hk2
      subst hk2
      exact ⟨(wipe σ vs).set j (some (.int (lo + (i : Nat)))), G', Gw.refl e2, fun Q' q' => q', hw _, et_yes, fun d' hd' => by cases hd'; exact he (lo + (i : Nat)) G' (g1.gg.trans e1) (by omega) (by omega)⟩
  · rw [fm_map] at hy
    have g3 := g2.fix g1.gh hD hD'
    exact q (.ref D) _ H' (g1.trans g3) ⟨D, rfl, g1.gg.free (g1.gh.free hD), D, ys, rfl, upd_same, dpall_mono (same_new hg2) _ _ hy⟩
end Sky

namespace Sky
open PySem PySem.Spec PyProof.Rows L2
/-! ### a thing at p that may change: G has nothing there -/
structure Own (p : Addr) (G H Gi Hi : Hp) (o : HO) : Prop where
  gw : Gw [p] G H Gi Hi
  at_ : Hi p = some o
  out : Gi p = none
section
variable {p : Addr} {G H Gi Hi G' H' : Hp} {o o' : HO}
theorem Own.step (S : Own p G H Gi Hi o) (g : Gw [] Gi Hi G' H') : Own p G H G' H' o := ⟨S.gw.trans g.weak, g.hh _ _ S.at_ (by simp), g.out S.out S.at_⟩
theorem Own.put (S : Own p G H Gi Hi o) : Own p G H Gi (upd Hi p o') o' := ⟨S.gw.trans (Gw.put S.gw.gh S.out (by simp)), upd_same, S.out⟩
theorem Own.into (S : Own p G H Gi Hi o) : Same (upd Gi p o) Hi := same_upd_r S.gw.gh S.at_
theorem Own.back (S : Own p G H Gi Hi o) (g : Gw [] (upd Gi p o) Hi G' H') : Own p G H (less p G') H' o := ⟨S.gw.trans (Gw.back S.out S.at_ g), g.hh _ _ S.at_ (by simp), less_p⟩
theorem Own.up (S : Own p G H Gi Hi o) : Same Gi (upd Gi p o) := same_new S.out
theorem Own.keep (S : Own p G H Gi Hi o) (g : Gw [] (upd Gi p o) Hi G' H') : Same Gi (less p G') := fun a u q => by
  have n : a ≠ p := fun z => by subst z; rw [S.out] at q; cases q
  exact less_at (g.gg a u (by rw [upd_ne n]; exact q)) n
end
theorem Own.start {p : Addr} {G H : Hp} {o : HO} (e : Same G H) (hg : G p = none) (hp : H p = some o) : Own p G H G H o := ⟨Gw.refl e, hp, hg⟩
section
variable {K : PySem.W.Frag} {σ : L2.St} {p : Addr} {G H Gi Hi : Hp} {te : TE} {tz : TS} {D : Ends} {R : VP} {i j m : Nat} {xs : List V}
/-- x = e, e reads p too -/
theorem q_setO {o : HO} (S : Own p G H Gi Hi o) (h : EvR te σ (upd Gi p o) R) (k : ∀ v G' H', Own p G H G' H' o → (∃ G0, G' = less p G0 ∧ Same (upd Gi p o) G0 ∧ R v G0) → tz D (σ.set i (some v)) H') : tSeq (tAsg te (gName i)) tz D σ Hi :=
  h Hi S.into _ fun v G' H' g r => k v _ H' (S.back g) ⟨G', rfl, g.gg, r⟩
/-- p[j] = e -/
theorem q_setI {jj : Int} (S : Own p G H Gi Hi (.lst xs)) (hs : σ[i]? = some (some (.ref p))) (hj : ixN xs.length jj = some m) (h : EvR te σ (upd Gi p (.lst xs)) R) (k : ∀ v G' H', Own p G H G' H' (.lst (xs.set m v)) → (∃ G0, G' = less p G0 ∧ Same (upd Gi p (.lst xs)) G0 ∧ R v G0) → tz D σ H') :
    tSeq (tAsg te (gSub (tVar i) (tC (.int jj)) rSetL)) tz D σ Hi := h Hi S.into _ fun v G' H' g r => by
  have S1 := S.back g
  exact ⟨.ref p, hs, p, xs, jj, m, rfl, rfl, S1.at_, hj, k v _ _ S1.put ⟨G', rfl, g.gg, r⟩⟩
theorem s_retO {o : HO} (S : Own p G H Gi Hi o) (h : EvR te σ (upd Gi p o) R) (k : ∀ v G' H', Own p G H G' H' o → (∃ G0, G' = less p G0 ∧ Same (upd Gi p o) G0 ∧ R v G0) → D.rt v H') : tRet te D σ Hi :=
  h Hi S.into _ fun v G' H' g r => k v _ H' (S.back g) ⟨G', rfl, g.gg, r⟩
end
/-! ### the source of figures -/
def Src (src : Addr) (n : Nat) (H : Hp) : Prop := ∃ a b c : Int, H src = some (.lst [.int a, .int b, .int c]) ∧ 0 ≤ a ∧ 0 ≤ b ∧ b < 2147483647 ∧ 0 ≤ c ∧ c ≤ (n : Nat)
theorem Src.le {src : Addr} {n m : Nat} {H : Hp} (h : Src src n H) (k : n ≤ m) : Src src m H := by
  obtain ⟨a, b, c, h1, h2, h3, h4, h5, h6⟩ := h
  exact ⟨a, b, c, h1, h2, h3, h4, h5, by omega⟩
theorem Src.hh {src : Addr} {n : Nat} {H H' : Hp} (h : Src src n H) (k : ∀ o, H src = some o → H' src = some o) : Src src n H' := by
  obtain ⟨a, b, c, h1, r⟩ := h
  exact ⟨a, b, c, k _ h1, r⟩
/-- next figure below many -/
def spNext : Sp := fun vs H Q _ => ∃ (src : Addr) (many : Int) (n : Nat) (G : Hp), vs = [.ref src, .int many] ∧ Same G H ∧ G src = none ∧ Src src n H ∧ n ≤ 5000 ∧ 0 < many ∧ many < 1000000 ∧
  ∀ r G' H', Gw [src] G H G' H' → Src src (n + 1) H' → 0 ≤ r → r < many → Q (.int r) H'
theorem dp_ints {K : PySem.W.Frag} {G : Hp} : ∀ (is : List Int), DpAll K G (is.map V.int) (is.map PyData.int)
  | [] => .nil
  | _ :: is => .cons (.int _) (dp_ints is)
theorem dp_src {K : PySem.W.Frag} {G : Hp} {p : Addr} {a b c : Int} : Dp K (upd G p (.lst [.int a, .int b, .int c])) (.ref p) (.list [.int a, .int b, .int c]) := .lst (SqL.of upd_same) (dp_ints [a, b, c])
end Sky

namespace Sky
open PySem PySem.Spec PyProof.Rows L2
/-- an expression that draws figures: the source at src counts from n to m -/
def EvS (te : TE) (σ : L2.St) (G : Hp) (src : Addr) (n m : Nat) (R : VP) : Prop := ∀ H, Same G H → G src = none → Src src n H → ∀ Q : VK, (∀ v G' H', Gw [src] G H G' H' → Src src m H' → R v G' → Q v H') → te σ H Q
section
variable {K : PySem.W.Frag} {σ : L2.St} {G G1 H : Hp} {ta tb te : TE} {t : TA} {R S : VP} {src : Addr} {n m k : Nat} {D : Ends} {tz : TS} {i : Nat}
theorem gw_keep {G' H' : Hp} (hg : G1 src = none) (e1 : Same G1 H) (g : Gw [src] G H G' H') : Same G1 H' := fun a o q => g.hh a o (e1 a o q) fun z => by
  rw [List.mem_singleton.mp z, hg] at q
  cases q
theorem EvS.mono (hR : Mn R) (e : Same G G1) (h : EvS te σ G src n m R) : EvS te σ G1 src n m R := fun H e1 hg hs Q q =>
  h H (e.trans e1) (e.free hg) hs Q fun v G' H' g s r => by
    have k := gw_keep hg e1 g
    exact q v (both G1 G') H' (g.join e e1 k) s (hR _ _ _ (both_r k g.gh) r)
theorem es_of (h : EvR te σ G R) : EvS te σ G src n n R := fun H e hg hs Q q => h H e Q fun v G' H' g r => q v G' H' g.weak (hs.hh fun o z => g.hh _ _ z (by simp)) r
theorem EvS.imp (h : EvS te σ G src n m R) (k : ∀ v G', Same G G' → R v G' → S v G') : EvS te σ G src n m S := fun H e hg hs Q q => h H e hg hs Q fun v G' H' g s r => q v G' H' g s (k v G' g.gg r)
/-- a figure below many -/
def figV (many : Int) : VP := fun v _ => ∃ r : Int, v = .int r ∧ 0 ≤ r ∧ r < many
theorem mn_figV {many : Int} : Mn (figV many) := fun _ _ _ _ h => h
theorem es_next {tm : TE} {E : XK} {many : Int} (hs : σ[i]? = some (some (.ref src))) (hm : EvR tm σ G (isD K (.int many))) (h0 : 0 < many) (h1 : many < 1000000) (hn : n ≤ 5000) : EvS (tCall spNext [] E (tCons (tVar i) (tCons tm tNil))) σ G src n (n + 1) (figV many) := fun H e hg hS Q q =>
  ⟨.ref src, hs, hm H e _ fun v G1 H1 g1 r1 => by
    cases r1
    exact ⟨src, many, n, G1, rfl, g1.gh, g1.out hg hS.choose_spec.choose_spec.choose_spec.1, hS.hh (fun o z => g1.hh _ _ z (by simp)), hn, h0, h1, fun r G' H' g s a b => q _ G' H' (g1.weak.trans g) s ⟨r, rfl, a, b⟩⟩⟩
/-- i + a figure -/
theorem es_add {a : Int} {P : Int → Prop} (ha : EvR ta σ G (isD K (.int a))) (hb : EvS tb σ G src n m (fun v _ => ∃ r, v = .int r ∧ P r)) : EvS (tOp (rI0 fun i j => .int (i + j)) ta tb) σ G src n m (fun v _ => ∃ r, v = .int (a + r) ∧ P r) := fun H e hg hs Q q =>
  ha H e _ fun x G1 H1 g1 r1 => (hb.mono (fun _ _ _ _ h => h) g1.gg) H1 g1.gh (by obtain ⟨_, _, _, z, _⟩ := hs; exact g1.out hg z) (hs.hh fun o z => g1.hh _ _ z (by simp)) _ fun y G2 H2 g2 s r2 => by
    obtain ⟨r, rfl, hp⟩ := r2
    cases r1
    exact ⟨a, r, rfl, rfl, q _ G2 H2 (g1.weak.trans g2) s ⟨r, rfl, hp⟩⟩
/-- x = e -/
theorem q_setS (e : Same G H) (hg : G src = none) (hs : Src src n H) (h : EvS te σ G src n m R) (k : ∀ v G' H', Gw [src] G H G' H' → G' src = none → Src src m H' → R v G' → tz D (σ.set i (some v)) H') : tSeq (tAsg te (gName i)) tz D σ H :=
  h H e hg hs _ fun v G' H' g s r => k v G' H' g (by obtain ⟨_, _, _, z, _⟩ := hs; exact g.out hg z) s r
theorem s_retS (e : Same G H) (hg : G src = none) (hs : Src src n H) (h : EvS te σ G src n m R) (k : ∀ v G' H', Gw [src] G H G' H' → G' src = none → Src src m H' → R v G' → D.rt v H') : tRet te D σ H :=
  h H e hg hs _ fun v G' H' g s r => k v G' H' g (by obtain ⟨_, _, _, z, _⟩ := hs; exact g.out hg z) s r
/-- (e1, e2) -/
theorem es_tup2 {R1 R2' : VP} (m1 : Mn R1) (m2 : Mn R2') (ha : EvS ta σ G src n m R1) (hb : EvS tb σ G src m k R2') : EvS (tTup (tCons ta (tCons tb tNil))) σ G src n k (fun v G' => ∃ x y, tpV K [x, y] v G' ∧ R1 x G' ∧ R2' y G') := fun H e hg hs Q q =>
  ha H e hg hs _ fun x G1 H1 g1 s1 r1 => by
    have hg1 : G1 src = none := by obtain ⟨_, _, _, z, _⟩ := hs; exact g1.out hg z
    refine (hb.mono m2 g1.gg) H1 g1.gh hg1 s1 _ fun y G2 H2 g2 s2 r2 => ?_
    refine ⟨by show 2 ≤ sizeLine; decide, fun p hp => ?_⟩
    have gn : Gw [src] G2 H2 (upd G2 p (.tup [x, y])) (upd H2 p (.tup [x, y])) := Gw.new g2.gh hp
    refine q (.ref p) _ _ ((g1.trans g2).trans gn) (s2.hh fun o z => ?_) ⟨x, y, ⟨p, rfl, SqT.of upd_same⟩, m1 _ _ _ (g2.gg.trans gn.gg) r1, m2 _ _ _ gn.gg r2⟩
    rw [upd_ne (fun z' => by rw [z', hp] at z; cases z)]
    exact z
end
/-- one of some -/
def spOne (K : PySem.W.Frag) : Sp := fun vs H Q _ => ∃ (src : Addr) (w : V) (ds : List PyData) (n : Nat) (G : Hp), vs = [.ref src, w] ∧ Dp K G w (.list ds) ∧ 0 < ds.length ∧ ds.length < 1000 ∧ Same G H ∧ G src = none ∧ Src src n H ∧ n ≤ 5000 ∧
  ∀ d v G' H', d ∈ ds → Gw [src] G H G' H' → Src src (n + 1) H' → Dp K G' v d → Q v H'
theorem es_one {K : PySem.W.Frag} {σ : L2.St} {G : Hp} {src : Addr} {n i : Nat} {tm : TE} {E : XK} {ds : List PyData} (hs : σ[i]? = some (some (.ref src))) (hm : EvR tm σ G (isD K (.list ds))) (h0 : 0 < ds.length) (h1 : ds.length < 1000) (hn : n ≤ 5000) :
    EvS (tCall (spOne K) [] E (tCons (tVar i) (tCons tm tNil))) σ G src n (n + 1) (fun v G' => ∃ d ∈ ds, Dp K G' v d) := fun H e hg hS Q q =>
  ⟨.ref src, hs, hm H e _ fun v G1 H1 g1 r1 => ⟨src, v, ds, n, G1, rfl, r1, h0, h1, g1.gh, by obtain ⟨_, _, _, z, _⟩ := hS; exact g1.out hg z, hS.hh (fun o z => g1.hh _ _ z (by simp)), hn, fun d v' G' H' hd g s r => q _ G' H' (g1.weak.trans g) s ⟨d, hd, r⟩⟩⟩
/-- the list of one cell -/
def spSource : Sp := fun vs H Q _ => ∃ (i : Int) (G : Hp), vs = [.int i] ∧ Same G H ∧ ∀ l G' H', Gw [] G H G' H' → G' l = none → G l = none → Src l 0 H' → Q (.ref l) H'
end Sky

namespace Sky
open PySem PySem.Spec PyProof.Rows L2
/-! ### the first of the widest rims is the least of (0 - rim, k, worth) -/
def tk2 (a : Option (Nat × Int) × Int) (s : Int × Nat × Int) : Option (Nat × Int) × Int := if a.2 < 0 - s.1 then (some (s.2.1, s.2.2), 0 - s.1) else a
theorem tk_some (strips : List (List (List (Option Int)))) : ∀ (cells : List Cl) (a : Option (Nat × Int) × Int), cells.foldl (tkStep strips) a = (someF strips cells).foldl tk2 a
  | [], _ => rfl
  | x :: l, a => by
    unfold someF
    rw [List.foldl_cons, List.filterMap_cons]
    cases h : rdAt strips x with
    | none =>
      have e : tkStep strips a x = a := by unfold tkStep; rw [h]
      rw [e]
      exact tk_some strips l a
    | some v =>
      have e : tkStep strips a x = tk2 a (0 - rimF (strips.getD x.1 []) x.2, x.1, v) := by
        unfold tkStep tk2
        rw [h]
        have z : (0 : Int) - (0 - rimF (strips.getD x.1 []) x.2) = rimF (strips.getD x.1 []) x.2 := by omega
        simp only [z]
      simp only [Option.map_some, List.foldl_cons]
      rw [e]
      exact tk_some strips l _
/-- the lesser of two -/
def lsS (a y : Int × Nat × Int) : Int × Nat × Int := if y.1 < a.1 then y else a
theorem lt_some (y a : Int × Nat × Int) (h : a.2.1 < y.2.1) : PySem.W.dataLt (someD y) (someD a) = decide (y.1 < a.1) := by
  have e := PySem.W.DatumOrd.lt_eq (α := PySem.W.Tup Int) ⟨[y.1, (y.2.1 : Int), y.2.2]⟩ ⟨[a.1, (a.2.1 : Int), a.2.2]⟩
  have e2 : PySem.W.dataLt (someD y) (someD a) = PySem.W.listLt [y.1, (y.2.1 : Int), y.2.2] [a.1, (a.2.1 : Int), a.2.2] := e
  rw [e2]
  unfold PySem.W.listLt
  by_cases h1 : y.1 = a.1
  · rw [if_pos h1, decide_eq_false (by omega)]
    unfold PySem.W.listLt
    rw [if_neg (by omega)]
    exact decide_eq_false (by omega)
  · rw [if_neg h1]
    rfl
theorem min_some : ∀ (l : List (Int × Nat × Int)) (a : Int × Nat × Int), (∀ y ∈ l, a.2.1 < y.2.1) → l.Pairwise (fun x y => x.2.1 < y.2.1) → PySem.W.minD (someD a) (l.map someD) = someD (l.foldl lsS a)
  | [], _, _, _ => rfl
  | y :: l, a, h, hp => by
    have hy := h y List.mem_cons_self
    obtain ⟨p1, p2⟩ := List.pairwise_cons.mp hp
    show PySem.W.minD (if PySem.W.dataLt (someD y) (someD a) = true then someD y else someD a) (l.map someD) = someD (l.foldl lsS (lsS a y))
    rw [lt_some y a hy]
    unfold lsS
    by_cases hc : y.1 < a.1
    · rw [decide_eq_true hc, if_pos rfl, if_pos hc]
      exact min_some l y p1 p2
    · rw [decide_eq_false hc, if_neg (by decide), if_neg hc]
      exact min_some l a (fun z hz => h z (List.mem_cons_of_mem _ hz)) p2
theorem fold_some : ∀ (l : List (Int × Nat × Int)) (a : Int × Nat × Int), l.foldl tk2 (some (a.2.1, a.2.2), 0 - a.1) = (some ((l.foldl lsS a).2.1, (l.foldl lsS a).2.2), 0 - (l.foldl lsS a).1)
  | [], _ => rfl
  | y :: l, a => by
    rw [List.foldl_cons, List.foldl_cons]
    unfold tk2 lsS
    by_cases hc : y.1 < a.1
    · rw [if_pos (by show 0 - a.1 < 0 - y.1; omega), if_pos hc]
      exact fold_some l y
    · rw [if_neg (by show ¬ 0 - a.1 < 0 - y.1; omega), if_neg hc]
      exact fold_some l a
theorem min4_nn {a b c d : Int} (h1 : 0 ≤ a) (h2 : 0 ≤ b) (h3 : 0 ≤ c) (h4 : 0 ≤ d) : 0 ≤ min4 a b c d := by
  unfold min4
  omega
theorem rim_nn {rows : List (List (Option Int))} {p : Int × Int} (h : inB rows p = true) : 0 ≤ rimF rows p := by
  obtain ⟨h1, h2, h3, h4⟩ := inB_iff h
  exact min4_nn h1 (by omega) h3 (by omega)
theorem some_le {strips : List (List (List (Option Int)))} {cells : List Cl} (h : ∀ x ∈ cells, ClOk strips x) : ∀ s ∈ someF strips cells, s.1 ≤ 0 := fun s hs => by
  obtain ⟨x, hx, e⟩ := List.mem_filterMap.mp hs
  cases hr : rdAt strips x with
  | none => rw [hr] at e; cases e
  | some v =>
    rw [hr] at e
    cases e
    have := rim_nn (h x hx).b
    show 0 - _ ≤ (0 : Int)
    omega
theorem some_pw {strips : List (List (List (Option Int)))} : ∀ {cells : List Cl}, cells.Pairwise (fun x y => x.1 < y.1) → (someF strips cells).Pairwise (fun x y => x.2.1 < y.2.1)
  | [], _ => List.Pairwise.nil
  | x :: l, h => by
    obtain ⟨p1, p2⟩ := List.pairwise_cons.mp h
    have ih := some_pw (strips := strips) p2
    unfold someF
    rw [List.filterMap_cons]
    cases hr : rdAt strips x with
    | none => exact ih
    | some v =>
      refine List.pairwise_cons.mpr ⟨fun s hs => ?_, ih⟩
      obtain ⟨y, hy, e⟩ := List.mem_filterMap.mp hs
      cases hr2 : rdAt strips y with
      | none => rw [hr2] at e; cases e
      | some v2 =>
        rw [hr2] at e
        cases e
        exact p1 y hy
theorem cells_pw {strips : List (List (List (Option Int)))} {offs : List (Int × Int)} {spot : Int × Int} : ∀ n, (cellsF strips offs spot n).Pairwise (fun x y => x.1 < y.1) ∧ ∀ x ∈ cellsF strips offs spot n, x.1 < n
  | 0 => ⟨List.Pairwise.nil, fun x hx => by cases hx⟩
  | n + 1 => by
    obtain ⟨h1, h2⟩ := cells_pw (strips := strips) (offs := offs) (spot := spot) n
    have e : cellsF strips offs spot (n + 1) = cellsF strips offs spot n ++ cellAt strips offs spot n := flat_succ _ _
    have h3 : ∀ x ∈ cellAt strips offs spot n, x.1 = n := fun x hx => by
      unfold cellAt at hx
      split at hx
      · rw [List.mem_singleton.mp hx]
      · cases hx
    rw [e]
    refine ⟨List.pairwise_append.mpr ⟨h1, ?_, fun x hx y hy => by rw [h3 y hy]; exact h2 x hx⟩, fun x hx => ?_⟩
    · unfold cellAt
      split
      · exact List.pairwise_singleton _ _
      · exact List.Pairwise.nil
    · rcases List.mem_append.mp hx with z | z
      · have := h2 x z; omega
      · rw [h3 x z]; omega
theorem taken_law {strips : List (List (List (Option Int)))} {cells : List Cl} (h : ∀ x ∈ cells, ClOk strips x) (hp : cells.Pairwise (fun x y => x.1 < y.1)) :
    (someF strips cells = [] → takenF strips cells = none) ∧ ∀ a l, someF strips cells = a :: l → PySem.W.minD (someD a) (l.map someD) = someD (l.foldl lsS a) ∧ takenF strips cells = some ((l.foldl lsS a).2.1, (l.foldl lsS a).2.2) := by
  have e : takenF strips cells = ((someF strips cells).foldl tk2 (none, -1)).1 := by unfold takenF; rw [tk_some]
  refine ⟨fun z => by rw [e, z]; rfl, fun a l z => ?_⟩
  have pw := some_pw (strips := strips) hp
  have le := some_le h
  rw [z] at pw le
  obtain ⟨p1, p2⟩ := List.pairwise_cons.mp pw
  refine ⟨min_some l a p1 p2, ?_⟩
  have la := le a List.mem_cons_self
  have e1 : tk2 (none, -1) a = (some (a.2.1, a.2.2), 0 - a.1) := by
    unfold tk2
    exact if_pos (by show (-1 : Int) < 0 - a.1; omega)
  rw [e, z, List.foldl_cons, e1, fold_some]
/-! data that are the same are equal -/
mutual
theorem eqv_same : ∀ d : PyData, d.plain = true → PyData.eqv d d = true
  | .none, _ => rfl
  | .bool b, _ => by simp [PyData.eqv]
  | .int i, _ => by simp [PyData.eqv]
  | .str x, _ => by simp [PyData.eqv]
  | .list xs, h => by
    simp only [PyData.eqv]
    exact eqv_sameAll xs (by simpa [PyData.plain] using h)
  | .tuple xs, h => by
    simp only [PyData.eqv]
    exact eqv_sameAll xs (by simpa [PyData.plain] using h)
  | .dict _, h => by simp [PyData.plain] at h
theorem eqv_sameAll : ∀ l : List PyData, PyData.plainAll l = true → PyData.eqvAll l l = true
  | [], _ => rfl
  | x :: l, h => by
    simp only [PyData.plainAll, Bool.and_eq_true] at h
    simp only [PyData.eqvAll, Bool.and_eq_true]
    exact ⟨eqv_same x h.1, eqv_sameAll l h.2⟩
end
end Sky

namespace Sky
open PySem PySem.Spec PyProof.Rows L2
/-! ### data of small shape -/
theorem lay_all {ds : List PyData} (h : ∀ d ∈ ds, d.canLay0 = true) : PyData.canLayAll0 ds = true := by
  induction ds with
  | nil => rfl
  | cons d ds ih =>
    simp only [PyData.canLayAll0, Bool.and_eq_true]
    exact ⟨h d List.mem_cons_self, ih fun x hx => h x (List.mem_cons_of_mem _ hx)⟩
theorem dep_all {ds : List PyData} {n : Nat} (h : ∀ d ∈ ds, d.depth ≤ n) : PyData.depthAll ds ≤ n := by
  induction ds with
  | nil => exact Nat.zero_le _
  | cons d ds ih =>
    simp only [PyData.depthAll]
    exact Nat.max_le.mpr ⟨h d List.mem_cons_self, ih fun x hx => h x (List.mem_cons_of_mem _ hx)⟩
theorem plain_all {ds : List PyData} (h : ∀ d ∈ ds, d.plain = true) : PyData.plainAll ds = true := by
  induction ds with
  | nil => rfl
  | cons d ds ih =>
    simp only [PyData.plainAll, Bool.and_eq_true]
    exact ⟨h d List.mem_cons_self, ih fun x hx => h x (List.mem_cons_of_mem _ hx)⟩
/-- laid out, plain, no deeper than n -/
structure Fine (n : Nat) (d : PyData) : Prop where
  lay : d.canLay0 = true
  dep : d.depth ≤ n
theorem Fine.plain {n : Nat} {d : PyData} (h : Fine n d) : d.plain = true := PyData.plain_of_canLay0 d h.lay
theorem Fine.shaped {n : Nat} {d : PyData} (h : Fine n d) (hn : n ≤ 64) : SeqAt.shaped d = true := by
  unfold SeqAt.shaped
  rw [h.lay, decide_eq_true (Nat.le_trans h.dep hn)]
  rfl
theorem Fine.le {n m : Nat} {d : PyData} (h : Fine n d) (k : n ≤ m) : Fine m d := ⟨h.lay, Nat.le_trans h.dep k⟩
theorem fine_int {i : Int} {n : Nat} : Fine n (.int i) := ⟨rfl, Nat.zero_le _⟩
theorem fine_none {n : Nat} : Fine n .none := ⟨rfl, Nat.zero_le _⟩
theorem fine_list {ds : List PyData} {n : Nat} (h : ∀ d ∈ ds, Fine n d) : Fine (n + 1) (.list ds) := ⟨by simp only [PyData.canLay0]; exact lay_all fun d hd => (h d hd).lay, by simp only [PyData.depth]; exact Nat.succ_le_succ (dep_all fun d hd => (h d hd).dep)⟩
theorem fine_tuple {ds : List PyData} {n : Nat} (h : ∀ d ∈ ds, Fine n d) : Fine (n + 1) (.tuple ds) := ⟨by simp only [PyData.canLay0]; exact lay_all fun d hd => (h d hd).lay, by simp only [PyData.depth]; exact Nat.succ_le_succ (dep_all fun d hd => (h d hd).dep)⟩
theorem fine_some (x : Int × Nat × Int) : Fine 1 (someD x) := fine_tuple fun d hd => by
  rcases List.mem_cons.mp hd with z | hd
  · rw [z]; exact fine_int
  rcases List.mem_cons.mp hd with z | hd
  · rw [z]; exact fine_int
  rw [List.mem_singleton.mp hd]; exact fine_int
theorem fine_taken (x : Option (Nat × Int)) : Fine 1 (takenD x) := by
  cases x with
  | none => exact fine_none
  | some x =>
    refine fine_tuple fun d hd => ?_
    rcases List.mem_cons.mp hd with z | hd
    · rw [z]; exact fine_int
    · rw [List.mem_singleton.mp hd]; exact fine_int
theorem fine_pair (p : Int × Int) : Fine 1 (pairD p) := fine_tuple fun d hd => by
  rcases List.mem_cons.mp hd with z | hd
  · rw [z]; exact fine_int
  rw [List.mem_singleton.mp hd]; exact fine_int
theorem fine_cell (x : Cl) : Fine 2 (cellD x) := fine_tuple fun d hd => by
  rcases List.mem_cons.mp hd with z | hd
  · rw [z]; exact fine_int
  rw [List.mem_singleton.mp hd]; exact fine_pair _
theorem fine_map {α : Type} {f : α → PyData} {n : Nat} (h : ∀ x, Fine n (f x)) (l : List α) : ∀ d ∈ l.map f, Fine n d := fun d hd => by
  obtain ⟨x, _, rfl⟩ := List.mem_map.mp hd
  exact h x
theorem alike_some (l : List (Int × Nat × Int)) : PySem.W.AlikeAll (l.map someD) := by
  have := PySem.W.alikeAll_datum (α := PySem.W.Tup Int) (l.map fun x => ⟨[x.1, (x.2.1 : Int), x.2.2]⟩)
  rw [List.map_map] at this
  exact this
theorem fine_all_dep {ds : List PyData} {n : Nat} (h : ∀ d ∈ ds, Fine n d) : PyData.depthAll ds ≤ n := dep_all fun d hd => (h d hd).dep
theorem fine_all_plain {ds : List PyData} {n : Nat} (h : ∀ d ∈ ds, Fine n d) : PyData.plainAll ds = true := plain_all fun d hd => (h d hd).plain
end Sky

namespace Sky
open PySem PySem.Spec PyProof.Rows L2
section
variable {K : PySem.W.Frag} {σ : L2.St} {G G1 H : Hp} {ta tb te : TE} {R S : VP} {ds : List PyData} {g : TG}
/-- [f(x) for x in xs]: the i-th is as f says (not data) -/
theorem ev_lcVL {tl : TE} {vs : List Nat} {j : Nat} (f : PyData → VP) (m : ∀ d, Mn (f d)) (h : EvR tl σ G (isD K (.list ds))) (hz : ds.length ≤ 1000)
    (hw : ∀ x, wipe ((wipe σ vs).set j (some x)) vs = wipe σ vs) (he : ∀ (x : V) (d : PyData) G1, Same G G1 → d ∈ ds → Dp K G1 x d → EvR te ((wipe σ vs).set j (some x)) G1 (f d)) :
    EvR (tLc (iList K tl) (gName j) tYes te vs) σ G (lsO K (ds.map f)) := fun H e Q q => h H e _ fun v G1 H1 g1 r1 => by
  cases r1 with
  | @lst a xs _ hs hd =>
  refine ⟨a, rfl, ⟨xs, g1.gh.seq hs⟩, fun D hD => ?_⟩
  have hgD : G1 D = none := g1.gh.free hD
  have hlen : xs.length = ds.length := dpall_len hd
  refine lc_it (walk_list (K := K) (a := a) (xs := xs)) (fun i H => ∃ G' ys, Gw [D] G1 (upd H1 D (.lst [])) G' H ∧ H D = some (.lst ys) ∧ All2 ((ds.take i).map f) ys G') ⟨G1, [], Gw.refl (g1.gh.trans (same_new hD)), upd_same, .nil⟩
    (fun i H _ ⟨G', ys, gw, _, _⟩ => (gw.gg.trans gw.gh).seq hs) ?_ (fun H ⟨G', ys, gw, h1, h2⟩ => ?_)
  · rintro i x H2 H3 hi ⟨G', ys, gw, hy, hys⟩ ⟨rfl, hx⟩
    obtain ⟨d, hd1, hd2⟩ := dpall_of hd hx
    refine ⟨hw x, ?_⟩
    dsimp only [tYes]
    rw [if_pos rfl]
    refine he x d G' (g1.gg.trans gw.gg) (List.mem_of_getElem? hd1) (dpm gw.gg hd2) _ gw.gh _ fun y G4 H4 g4 r4 => ?_
    have hD4 : H4 D = some (.lst ys) := g4.hh _ _ hy (by simp)
    have hgD' : G' D = none := gw.out hgD upd_same
    have hl : ys.length ≤ 1000 := by
      rw [all2_len hys, List.length_map, List.length_take]
      omega
    refine ⟨ys, hD4, small1000 hl, G4, ys ++ [y], (gw.trans g4.weak).trans (Gw.put g4.gh (g4.out hgD' hy) (by simp)), upd_same, ?_⟩
    rw [take_snoc hd1, List.map_append]
    exact all2_app (hys.mono g4.gg (mns_map m _)) (.cons r4 .nil)
  · rw [hlen, List.take_length] at h2
    have g3 := ((Gw.lay g1.gh hD).weak.trans gw).fix g1.gh hD h1
    exact q (.ref D) _ H (g1.trans g3) ⟨D, ys, rfl, SqL.of upd_same, h2.mono (same_new (gw.out hgD upd_same)) (mns_map m _)⟩
end
end Sky

namespace Sky
open PySem PySem.Spec PyProof.Rows L2
/-! ### things of this frame that change -/
theorem Gw.alter {M : List Addr} {G0 H0 G H : Hp} {p : Addr} {o : HO} (g : Gw M G0 H0 G H) (hn : H0 p = none) (hg : G p = none) : Gw M G0 H0 G (upd H p o) := by
  refine ⟨g.gg, fun a u q => ?_, fun a u q n => ?_, g.fr, fun a q => ?_⟩
  · rw [upd_ne (fun z => by subst z; rw [hg] at q; cases q)]
    exact g.gh a u q
  · rw [upd_ne (fun z => by subst z; rw [hn] at q; cases q)]
    exact g.hh a u q n
  · by_cases z : a = p
    · subst z; exact hn
    · rw [upd_ne z] at q; exact g.tr a q
theorem Gw.fixN {M : List Addr} {G0 H0 G H : Hp} {p : Addr} {o : HO} (g : Gw M G0 H0 G H) (hn : H0 p = none) (hg : G p = none) (h : H p = some o) : Gw M G0 H0 (upd G p o) H := by
  refine ⟨fun a u q => ?_, fun a u q => ?_, g.hh, fun a u q => ?_, g.tr⟩
  · have q' := g.gg a u q
    rw [upd_ne (fun z => by subst z; rw [hg] at q'; cases q')]
    exact q'
  · by_cases z : a = p
    · subst z; rw [upd_same] at q; cases q; exact h
    · rw [upd_ne z] at q; exact g.gh a u q
  · by_cases z : a = p
    · subst z; exact .inr hn
    · rw [upd_ne z] at q; exact g.fr a u q
def oV : Option Int → V
  | none => .non
  | some i => .int i
theorem oV_dp {K : PySem.W.Frag} {G : Hp} (o : Option Int) : Dp K G (oV o) (oD o) := by
  cases o with
  | none => exact .non
  | some i => exact .int i
theorem dp_oV {K : PySem.W.Frag} {G : Hp} : ∀ r : List (Option Int), DpAll K G (r.map oV) (r.map oD)
  | [] => .nil
  | o :: r => .cons (oV_dp o) (dp_oV r)
/-- a row that may change -/
structure Row where
  a : Addr
  c : List (Option Int)
/-- a strip: its list, its rows -/
structure Stp where
  a : Addr
  rows : List Row
def Stp.refs (s : Stp) : List V := s.rows.map fun p => V.ref p.a
def Stp.data (s : Stp) : List (List (Option Int)) := s.rows.map Row.c
def rowAs (sts : List Stp) : List Addr := sts.flatMap fun s => s.rows.map Row.a
/-- rows that stand, new since H0 -/
structure RowsIn (H0 G H : Hp) (l : Addr) (tr : List Row) : Prop where
  at_ : ∀ p ∈ tr, H p.a = some (.lst (p.c.map oV))
  out : ∀ p ∈ tr, G p.a = none
  new : ∀ p ∈ tr, H0 p.a = none
  off : ∀ p ∈ tr, p.a ≠ l
  nd : (tr.map Row.a).Nodup
theorem RowsIn.step {M : List Addr} {H0 G H G' H' : Hp} {l : Addr} {tr : List Row} (R : RowsIn H0 G H l tr) (g : Gw M G H G' H') (hM : ∀ p ∈ tr, p.a ∉ M) : RowsIn H0 G' H' l tr :=
  ⟨fun p hp => g.hh _ _ (R.at_ p hp) (hM p hp), fun p hp => g.out (R.out p hp) (R.at_ p hp), R.new, R.off, R.nd⟩
theorem RowsIn.nil {H0 G H : Hp} {l : Addr} : RowsIn H0 G H l [] := ⟨(fun p h => (by cases h)), (fun p h => (by cases h)), (fun p h => (by cases h)), (fun p h => (by cases h)), List.nodup_nil⟩
theorem RowsIn.add {H0 G H : Hp} {l : Addr} {tr : List Row} (R : RowsIn H0 G H l tr) {p : Row} (h1 : H p.a = some (.lst (p.c.map oV))) (h2 : G p.a = none) (h3 : H0 p.a = none) (h4 : p.a ≠ l) (h5 : ∀ q ∈ tr, q.a ≠ p.a) : RowsIn H0 G H l (tr ++ [p]) := by
  have m : ∀ q, q ∈ tr ++ [p] → q ∈ tr ∨ q = p := fun q hq => (List.mem_append.mp hq).imp id List.mem_singleton.mp
  refine ⟨fun q hq => (m q hq).elim (R.at_ q) fun z => z ▸ h1, fun q hq => (m q hq).elim (R.out q) fun z => z ▸ h2, fun q hq => (m q hq).elim (R.new q) fun z => z ▸ h3, fun q hq => (m q hq).elim (R.off q) fun z => z ▸ h4, ?_⟩
  rw [List.map_append]
  refine List.nodup_append.mpr ⟨R.nd, List.nodup_cons.mpr ⟨(fun z => (by cases z)), List.nodup_nil⟩, fun a ha b hb e => ?_⟩
  obtain ⟨q, hq, rfl⟩ := List.mem_map.mp ha
  rw [List.map_cons, List.map_nil, List.mem_singleton] at hb
  exact h5 q hq (e.trans hb)
theorem src_ne {src p : Addr} {n : Nat} {H0 : Hp} (hs : Src src n H0) (hn : H0 p = none) : p ≠ src := fun z => by
  obtain ⟨_, _, _, h, _⟩ := hs
  rw [← z, hn] at h
  cases h
theorem Src.alter {src p : Addr} {n : Nat} {H : Hp} {o : HO} (h : Src src n H) (hn : p ≠ src) : Src src n (upd H p o) := h.hh fun u q => by
  rw [upd_ne (fun z => hn z.symm)]
  exact q
section
variable {K : PySem.W.Frag} {σ : L2.St} {G H : Hp} {te : TE} {ta : TA} {src : Addr} {n : Nat}
/-- [a figure's pick for c in range(w)]: a new row -/
theorem lc_row {j w : Nat} {vs : List Nat} (hs : Src src n H) (e : Same G H) (hg : G src = none) (h : EvD ta σ G K [.int (w : Nat)]) (hw1 : w ≤ 100) (hw : ∀ x, wipe ((wipe σ vs).set j (some x)) vs = wipe σ vs)
    (he : ∀ (i : Nat) (k : Int) G1, i < w → Same G G1 → G1 src = none → EvS te ((wipe σ vs).set j (some (.int k))) G1 src (n + i) (n + i + 1) (fun v _ => ∃ o, v = oV o)) {Q : VK}
    (q : ∀ (D : Addr) (row : List (Option Int)) G' H', Gw [src] G H G' H' → Src src (n + w) H' → H D = none → G' D = none → H' D = some (.lst (row.map oV)) → row.length = w → Q (.ref D) H') :
    tLc (iRng1 ta) (gName j) tYes te vs σ H Q := h H e _ fun ws G1 H1 g1 r1 => by
  cases r1 with
  | cons a1 r1 =>
  cases r1
  cases a1
  refine ⟨(w : Nat), rfl, by omega, by omega, fun D hD => ?_⟩
  have hHD : H D = none := g1.tr D hD
  have hg1 : G1 src = none := by obtain ⟨_, _, _, z, _⟩ := hs; exact g1.out hg z
  have hs1 : Src src n H1 := hs.hh fun o z => g1.hh _ _ z (by simp)
  have hDs : D ≠ src := src_ne hs hHD
  have hgD1 : G1 D = none := g1.gh.free hD
  have g0 : Gw [src] G H G1 (upd H1 D (.lst [])) := (g1.weak (M := [src])).alter hHD hgD1
  refine lc_it (walk_range (lo := 0) (n := w)) (fun i H2 => ∃ (G' : Hp) (row : List (Option Int)), row.length = i ∧ Gw [src] G H G' H2 ∧ G' src = none ∧ G' D = none ∧ H2 D = some (.lst (row.map oV)) ∧ Src src (n + i) H2) ⟨G1, [], rfl, g0, hg1, hgD1, upd_same, hs1.alter hDs⟩
    (fun i H2 _ _ => trivial) ?_ (fun H2 ⟨G', row, hl, gw, _, hgD, hHD2, hs2⟩ => q D row G' H2 gw hs2 hHD hgD hHD2 hl)
  rintro i x H2 H3 hi ⟨G', row, hl, gw, hgs, hgD, hHD2, hs2⟩ ⟨rfl, rfl⟩
  refine ⟨hw _, ?_⟩
  dsimp only [tYes]
  rw [if_pos rfl]
  refine he i _ G' hi gw.gg hgs _ gw.gh hgs hs2 _ fun v G4 H4 g4 s4 ⟨o, hv⟩ => ?_
  subst hv
  have hD4 : H4 D = some (.lst (row.map oV)) := g4.hh _ _ hHD2 (by simpa using hDs)
  have hgs4 : G4 src = none := by obtain ⟨_, _, _, z, _⟩ := hs2; exact g4.out hgs z
  have hgD4 : G4 D = none := g4.out hgD hHD2
  refine ⟨row.map oV, hD4, small1000 (by rw [List.length_map]; omega), G4, row ++ [o], by rw [List.length_append, hl]; rfl, (gw.trans g4).alter hHD hgD4, hgs4, hgD4, ?_, s4.alter hDs⟩
  rw [upd_same, List.map_append]
  rfl
/-- [[..] for r in range(h)]: a new strip -/
theorem lc_strip {j hh : Nat} {vs : List Nat} {w cnt : Nat} {l : Addr} (hs : Src src n H) (e : Same G H) (hg : G src = none) {ol : HO} (hl : H l = some ol) (hls : l ≠ src) (hgl : G l = none) (h : EvD ta σ G K [.int (hh : Nat)]) (hh1 : hh ≤ 100) (hw : ∀ x, wipe ((wipe σ vs).set j (some x)) vs = wipe σ vs)
    (he : ∀ (i : Nat) (k : Int) G1 H1, i < hh → Same G G1 → Same G1 H1 → G1 src = none → Src src (n + i * cnt) H1 → ∀ Q : VK, (∀ (D : Addr) (row : List (Option Int)) G' H', Gw [src] G1 H1 G' H' → Src src (n + i * cnt + cnt) H' → H1 D = none → G' D = none → H' D = some (.lst (row.map oV)) → row.length = w → Q (.ref D) H') → te ((wipe σ vs).set j (some (.int k))) H1 Q) {Q : VK}
    (q : ∀ (s : Stp) G' H', Gw [src] G H G' H' → Src src (n + hh * cnt) H' → G' s.a = some (.lst s.refs) → s.rows.length = hh → (∀ p ∈ s.rows, p.c.length = w) → RowsIn H G' H' l s.rows → H s.a = none → Q (.ref s.a) H') :
    tLc (iRng1 ta) (gName j) tYes te vs σ H Q := h H e _ fun ws G1 H1 g1 r1 => by
  cases r1 with
  | cons a1 r1 =>
  cases r1
  cases a1
  refine ⟨(hh : Nat), rfl, by omega, by omega, fun D hD => ?_⟩
  have hHD : H D = none := g1.tr D hD
  have hg1 : G1 src = none := by obtain ⟨_, _, _, z, _⟩ := hs; exact g1.out hg z
  have hs1 : Src src n H1 := hs.hh fun o z => g1.hh _ _ z (by simp)
  have hDs : D ≠ src := src_ne hs hHD
  have hgD1 : G1 D = none := g1.gh.free hD
  have g0 : Gw [src] G H G1 (upd H1 D (.lst [])) := (g1.weak (M := [src])).alter hHD hgD1
  refine lc_it (walk_range (lo := 0) (n := hh)) (fun i H2 => ∃ (G' : Hp) (tr : List Row), tr.length = i ∧ Gw [src] G H G' H2 ∧ G' src = none ∧ G' D = none ∧ H2 D = some (.lst (tr.map fun p : Row => V.ref p.a)) ∧ Src src (n + i * cnt) H2 ∧ (∀ p ∈ tr, p.c.length = w) ∧ RowsIn H G' H2 l tr ∧ ∀ p ∈ tr, p.a ≠ D)
    ⟨G1, [], rfl, g0, hg1, hgD1, upd_same, by rw [Nat.zero_mul]; exact hs1.alter hDs, (fun p h => (by cases h)), .nil, (fun p h => (by cases h))⟩
    (fun i H2 _ _ => trivial) ?_ (fun H2 ⟨G', tr, hl, gw, _, hgD, hHD2, hs2, hwd, hR, hne⟩ => ?_)
  · rintro i x H2 H3 hi ⟨G', tr, htl, gw, hgs, hgD, hHD2, hs2, hwd, hR, hne⟩ ⟨rfl, rfl⟩
    refine ⟨hw _, ?_⟩
    dsimp only [tYes]
    rw [if_pos rfl]
    refine he i _ G' H3 hi gw.gg gw.gh hgs hs2 _ fun R0 row G4 H4 g4 s4 n4 o4 h4 l4 => ?_
    have hD4 : H4 D = some (.lst (tr.map fun p : Row => V.ref p.a)) := g4.hh _ _ hHD2 (by simpa using hDs)
    have hgs4 : G4 src = none := by obtain ⟨_, _, _, z, _⟩ := hs2; exact g4.out hgs z
    have hgD4 : G4 D = none := g4.out hgD hHD2
    have hH0 : H R0 = none := gw.tr _ n4
    have nsrc : ∀ p ∈ tr, p.a ∉ [src] := fun p hp z => src_ne hs (hR.new p hp) (List.mem_singleton.mp z)
    have hR4 := hR.step g4 nsrc
    have neD : R0 ≠ D := fun z => by rw [z, hHD2] at n4; cases n4
    have nel : R0 ≠ l := fun z => by rw [z, hl] at hH0; cases hH0
    have neP : ∀ p ∈ tr, p.a ≠ R0 := fun p hp z => by rw [← z, hR.at_ p hp] at n4; cases n4
    refine ⟨_, hD4, small1000 (by rw [List.length_map]; omega), G4, tr ++ [⟨R0, row⟩], by rw [List.length_append, htl]; rfl, (gw.trans g4).alter hHD hgD4, hgs4, hgD4, ?_, ?_, ?_, ?_, ?_⟩
    · rw [upd_same, List.map_append]
      rfl
    · rw [Nat.add_mul, Nat.one_mul, ← Nat.add_assoc]
      exact s4.alter hDs
    · intro p hp
      rcases List.mem_append.mp hp with z | z
      · exact hwd p z
      · rw [List.mem_singleton.mp z]; exact l4
    · have hA := hR4.add (p := ⟨R0, row⟩) h4 o4 hH0 nel neP
      refine ⟨fun p hp => ?_, hA.out, hA.new, hA.off, hA.nd⟩
      have ne : p.a ≠ D := by
        rcases List.mem_append.mp hp with z | z
        · exact hne p z
        · rw [List.mem_singleton.mp z]; exact neD
      rw [upd_ne ne]
      exact hA.at_ p hp
    · intro p hp
      rcases List.mem_append.mp hp with z | z
      · exact hne p z
      · rw [List.mem_singleton.mp z]; exact neD
  · have gF := gw.fixN hHD hgD hHD2
    refine q ⟨D, tr⟩ _ H2 gF hs2 upd_same hl hwd ⟨hR.at_, fun p hp => ?_, hR.new, hR.off, hR.nd⟩ hHD
    rw [upd_ne (hne p hp)]
    exact hR.out p hp
end
end Sky

namespace Sky
open PySem PySem.Spec PyProof.Rows L2
section
variable {K : PySem.W.Frag} {σ : L2.St} {G H : Hp} {te tl : TE} {ta : TA} {src : Addr} {n : Nat}
/-- [list(row) for row in a strip]: a new strip of the same readings -/
theorem lc_copy {j : Nat} {vs : List Nat} {l : Addr} {s : Stp} (hs : Src src n H) (e : Same G H) (hg : G src = none) {ol : HO} (hl : H l = some ol) (hsa : G s.a = some (.lst s.refs)) (hrow : ∀ p ∈ s.rows, H p.a = some (.lst (p.c.map oV))) (hps : ∀ p ∈ s.rows, p.a ≠ src) (hz : s.rows.length ≤ 100)
    (ht : ∀ Q : VK, Q (.ref s.a) H → tl σ H Q) (hw : ∀ x, wipe ((wipe σ vs).set j (some x)) vs = wipe σ vs) (hv : ∀ x : V, ((wipe σ vs).set j (some x))[j]? = some (some x)) {Q : VK}
    (q : ∀ (s' : Stp) G' H', Gw [src] G H G' H' → Src src n H' → G' s'.a = some (.lst s'.refs) → s'.data = s.data → RowsIn H G' H' l s'.rows → H s'.a = none → Q (.ref s'.a) H') :
    tLc (iList K tl) (gName j) tYes (tCB (rListOf K) (tCons (tVar j) tNil)) vs σ H Q := ht _ ⟨s.a, rfl, ⟨s.refs, e.seq (SqL.of hsa)⟩, fun D hHD => by
  have hDs : D ≠ src := src_ne hs hHD
  have hgD : G D = none := e.free hHD
  have g0 : Gw [src] G H G (upd H D (.lst [])) := (Gw.refl e).alter hHD hgD
  have hlen : s.refs.length = s.rows.length := by unfold Stp.refs; rw [List.length_map]
  refine lc_it (walk_list (K := K) (a := s.a) (xs := s.refs)) (fun i H2 => ∃ (G' : Hp) (tr : List Row), tr.map Row.c = (s.rows.take i).map Row.c ∧ Gw [src] G H G' H2 ∧ G' src = none ∧ G' D = none ∧ H2 D = some (.lst (tr.map fun p : Row => V.ref p.a)) ∧ Src src n H2 ∧ RowsIn H G' H2 l tr ∧ ∀ p ∈ tr, p.a ≠ D)
    ⟨G, [], rfl, g0, hg, hgD, upd_same, hs.alter hDs, .nil, (fun p h => (by cases h))⟩
    (fun i H2 _ ⟨G', tr, _, gw, _⟩ => (gw.gg.trans gw.gh).seq (SqL.of hsa)) ?_ (fun H2 ⟨G', tr, htr, gw, _, hgD', hHD2, hs2, hR, hne⟩ => ?_)
  · rintro i x H2 H3 hi ⟨G', tr, htr, gw, hgs, hgD', hHD2, hs2, hR, hne⟩ ⟨rfl, hx⟩
    rw [hlen] at hi
    obtain ⟨p, hp⟩ : ∃ p, s.rows[i]? = some p := ⟨s.rows[i], List.getElem?_eq_getElem hi⟩
    have hx' : x = .ref p.a := by
      unfold Stp.refs at hx
      rw [List.getElem?_map, hp] at hx
      cases hx
      rfl
    subst hx'
    have hpm := List.mem_of_getElem? hp
    have hp1 := hrow p hpm
    have psrc : p.a ∉ [src] := fun z => hps p hpm (List.mem_singleton.mp z)
    have hp3 : H3 p.a = some (.lst (p.c.map oV)) := gw.hh _ _ hp1 psrc
    refine ⟨hw _, ?_⟩
    dsimp only [tYes]
    rw [if_pos rfl]
    refine ⟨.ref p.a, hv _, p.a, p.c.map oV, rfl, .inl (SqL.of hp3), fun L hL => ?_⟩
    have hH0 : H L = none := gw.tr _ hL
    have neD : L ≠ D := fun z => by rw [z, hHD2] at hL; cases hL
    have nel : L ≠ l := fun z => by rw [z, hl] at hH0; cases hH0
    have neP : ∀ p ∈ tr, p.a ≠ L := fun p hp z => by rw [← z, hR.at_ p hp] at hL; cases hL
    have Ls : L ≠ src := src_ne hs hH0
    have hgL : G' L = none := gw.gh.free hL
    have g4 := gw.alter (o := .lst (p.c.map oV)) hH0 hgL
    have hD4 : (upd H3 L (.lst (p.c.map oV))) D = some (.lst (tr.map fun p : Row => V.ref p.a)) := by rw [upd_ne (Ne.symm neD)]; exact hHD2
    have htl : tr.length ≤ 100 := by
      have := congrArg List.length htr
      rw [List.length_map, List.length_map, List.length_take] at this
      omega
    refine ⟨_, hD4, small1000 (by rw [List.length_map]; omega), G', tr ++ [⟨L, p.c⟩], ?_, g4.alter hHD hgD', hgs, hgD', ?_, (hs2.alter Ls).alter hDs, ?_, ?_⟩
    · rw [List.map_append, htr, take_snoc hp, List.map_append]
      rfl
    · rw [upd_same, List.map_append]
      rfl
    · have hA : RowsIn H G' (upd H3 L (.lst (p.c.map oV))) l tr := ⟨fun q hq => by rw [upd_ne (neP q hq)]; exact hR.at_ q hq, hR.out, hR.new, hR.off, hR.nd⟩
      have hB := hA.add (p := ⟨L, p.c⟩) upd_same hgL hH0 nel neP
      refine ⟨fun q hq => ?_, hB.out, hB.new, hB.off, hB.nd⟩
      have ne : q.a ≠ D := by
        rcases List.mem_append.mp hq with z | z
        · exact hne q z
        · rw [List.mem_singleton.mp z]; exact neD
      rw [upd_ne ne]
      exact hB.at_ q hq
    · intro q hq
      rcases List.mem_append.mp hq with z | z
      · exact hne q z
      · rw [List.mem_singleton.mp z]; exact neD
  · rw [hlen, List.take_length] at htr
    have gF := gw.fixN hHD hgD' hHD2
    refine q ⟨D, tr⟩ _ H2 gF hs2 upd_same htr ⟨hR.at_, fun p hp => ?_, hR.new, hR.off, hR.nd⟩ hHD
    rw [upd_ne (hne p hp)]
    exact hR.out p hp⟩
/-- [(.., ..) for _ in rows], figures drawn: a list of pairs -/
theorem lc_offs {j : Nat} {vs : List Nat} {l : Addr} {xs : List V} {okP : Int × Int → Prop} (hs : Src src n H) (e : Same G H) (hg : G src = none) (hl : H l = some (.lst xs)) (hls : l ≠ src) (hz : xs.length ≤ 100)
    (ht : ∀ Q : VK, Q (.ref l) H → tl σ H Q) (hw : ∀ x, wipe ((wipe σ vs).set j (some x)) vs = wipe σ vs)
    (he : ∀ (i : Nat) (x : V) G1, i < xs.length → Same G G1 → G1 src = none → EvS te ((wipe σ vs).set j (some x)) G1 src (n + i * 2) (n + i * 2 + 2) (fun v G' => ∃ p : Int × Int, okP p ∧ Dp K G' v (pairD p))) {Q : VK}
    (q : ∀ (D : Addr) (offs : List (Int × Int)) G' H', Gw [src] G H G' H' → Src src (n + xs.length * 2) H' → isDL K (offs.map pairD) (.ref D) G' → offs.length = xs.length → (∀ p ∈ offs, okP p) → Q (.ref D) H') :
    tLc (iList K tl) (gName j) tYes te vs σ H Q := ht _ ⟨l, rfl, ⟨xs, SqL.of hl⟩, fun D hHD => by
  have hDs : D ≠ src := src_ne hs hHD
  have hgD : G D = none := e.free hHD
  have g0 : Gw [src] G H G (upd H D (.lst [])) := (Gw.refl e).alter hHD hgD
  have nls : l ∉ [src] := fun z => hls (List.mem_singleton.mp z)
  refine lc_it (walk_list (K := K) (a := l) (xs := xs)) (fun i H2 => ∃ (G' : Hp) (offs : List (Int × Int)) (ys : List V), offs.length = i ∧ Gw [src] G H G' H2 ∧ G' src = none ∧ G' D = none ∧ H2 D = some (.lst ys) ∧ DpAll K G' ys (offs.map pairD) ∧ Src src (n + i * 2) H2 ∧ ∀ p ∈ offs, okP p)
    ⟨G, [], [], rfl, g0, hg, hgD, upd_same, .nil, by rw [Nat.zero_mul]; exact hs.alter hDs, (fun p h => (by cases h))⟩
    (fun i H2 _ ⟨G', offs, ys, _, gw, _⟩ => SqL.of (gw.hh _ _ hl nls)) ?_ (fun H2 ⟨G', offs, ys, hol, gw, _, hgD', hHD2, hd, hs2, hok⟩ => ?_)
  · rintro i x H2 H3 hi ⟨G', offs, ys, hol, gw, hgs, hgD', hHD2, hd, hs2, hok⟩ ⟨rfl, hx⟩
    refine ⟨hw _, ?_⟩
    dsimp only [tYes]
    rw [if_pos rfl]
    refine he i x G' hi gw.gg hgs _ gw.gh hgs hs2 _ fun v G4 H4 g4 s4 ⟨p, hp, hdp⟩ => ?_
    have hD4 : H4 D = some (.lst ys) := g4.hh _ _ hHD2 (by simpa using hDs)
    have hgs4 : G4 src = none := by obtain ⟨_, _, _, z, _⟩ := hs2; exact g4.out hgs z
    have hgD4 : G4 D = none := g4.out hgD' hHD2
    refine ⟨ys, hD4, small1000 (by rw [dpall_len hd, List.length_map]; omega), G4, offs ++ [p], ys ++ [v], by rw [List.length_append, hol]; rfl, (gw.trans g4).alter hHD hgD4, hgs4, hgD4, upd_same, ?_, ?_, ?_⟩
    · rw [List.map_append]
      exact dpall_app (dpall_mono g4.gg _ _ hd) (.cons hdp .nil)
    · rw [Nat.add_mul, Nat.one_mul, ← Nat.add_assoc]
      exact s4.alter hDs
    · intro r hr
      rcases List.mem_append.mp hr with z | z
      · exact hok r z
      · rw [List.mem_singleton.mp z]; exact hp
  · have gF := gw.fixN hHD hgD' hHD2
    exact q D offs _ H2 gF hs2 ⟨D, ys, rfl, upd_same, dpall_mono (same_new hgD') _ _ hd⟩ hol hok⟩
end
/-! ### the strips so far -/
structure Tr (H0 G H : Hp) (l : Addr) (sts : List Stp) : Prop where
  rows : ∀ s ∈ sts, RowsIn H0 G H l s.rows
  lst : ∀ s ∈ sts, G s.a = some (.lst s.refs)
  apart : sts.Pairwise fun s t => ∀ p ∈ s.rows, ∀ q ∈ t.rows, p.a ≠ q.a
theorem Tr.step {M : List Addr} {H0 G H G' H' : Hp} {l : Addr} {sts : List Stp} (T : Tr H0 G H l sts) (g : Gw M G H G' H') (hM : ∀ s ∈ sts, ∀ p ∈ s.rows, p.a ∉ M) : Tr H0 G' H' l sts :=
  ⟨fun s hs => (T.rows s hs).step g (hM s hs), fun s hs => g.gg _ _ (T.lst s hs), T.apart⟩
theorem Tr.put {H0 G H : Hp} {l : Addr} {o : HO} {sts : List Stp} (T : Tr H0 G H l sts) : Tr H0 G (upd H l o) l sts :=
  ⟨fun s hs => ⟨fun p hp => by rw [upd_ne ((T.rows s hs).off p hp)]; exact (T.rows s hs).at_ p hp, (T.rows s hs).out, (T.rows s hs).new, (T.rows s hs).off, (T.rows s hs).nd⟩, T.lst, T.apart⟩
theorem Tr.add {M : List Addr} {H0 G0 G H G' H' : Hp} {l : Addr} {sts : List Stp} {s : Stp} (T : Tr H0 G H l sts) (b : Gw M G0 H0 G H) (g : Gw M G H G' H') (hM : ∀ s ∈ sts, ∀ p ∈ s.rows, p.a ∉ M) (hR : RowsIn H G' H' l s.rows) (hl : G' s.a = some (.lst s.refs)) : Tr H0 G' H' l (sts ++ [s]) := by
  have T' := T.step g hM
  have hR' : RowsIn H0 G' H' l s.rows := ⟨hR.at_, hR.out, fun p hp => b.tr _ (hR.new p hp), hR.off, hR.nd⟩
  refine ⟨fun t ht => ?_, fun t ht => ?_, ?_⟩
  · rcases List.mem_append.mp ht with z | z
    · exact T'.rows t z
    · rw [List.mem_singleton.mp z]; exact hR'
  · rcases List.mem_append.mp ht with z | z
    · exact T'.lst t z
    · rw [List.mem_singleton.mp z]; exact hl
  · refine List.pairwise_append.mpr ⟨T.apart, List.pairwise_singleton _ _, fun t ht u hu p hp q hq e => ?_⟩
    rw [List.mem_singleton.mp hu] at hq
    have h1 := (T.rows t ht).at_ p hp
    rw [e, hR.new q hq] at h1
    cases h1
/-- for k in range(a drawn number) -/
theorem q_forR1S {σ : L2.St} {G H : Hp} {te : TE} {src : Addr} {n m : Nat} {D : Ends} {tu tz : TS} {g : TG} {a : Int} {P : Int → Prop} (e : Same G H) (hg : G src = none) (hs : Src src n H) (h : EvS te σ G src n m (fun v _ => ∃ r, v = .int (a + r) ∧ P r)) (hP : ∀ r, P r → -(2 ^ 62) ≤ a + r ∧ a + r < 2 ^ 62)
    (k : ∀ r Gb Hb, P r → Gw [src] G H Gb Hb → Gb src = none → Src src m Hb → ∃ I : Nat → L2.St → Hp → Hp → Prop, I 0 σ Gb Hb ∧
      (∀ (i : Nat) σ' G' H', (i : Int) < a + r → Same Gb G' → Same G' H' → I i σ' G' H' → g (.int (i : Nat)) σ' H' fun σ2 H2 => tu (LpOk { D with nx := tz D } Gb I i) σ2 H2) ∧
      (∀ σ' G' H', Same Gb G' → Same G' H' → I (a + r).toNat σ' G' H' → tz D σ' H')) : tSeq (tFor (iRng1 (tCons te tNil)) g tu) tz D σ H := h H e hg hs _ fun v G1 H1 g1 s1 ⟨r, hv, hp⟩ => by
  subst hv
  have hg1 : G1 src = none := by obtain ⟨_, _, _, z, _⟩ := hs; exact g1.out hg z
  obtain ⟨I, h0, h1, h2⟩ := k r G1 H1 hp g1 hg1 s1
  refine ⟨a + r, rfl, (hP r hp).1, (hP r hp).2, s_wk (D := { D with nx := tz D }) (walk_range (lo := 0) (n := (a + r).toNat)) I h0 g1.gh (fun H2 e2 => trivial) ?_ h2⟩
  rintro i v σ' G' H' H'' hi a1 a2 hI ⟨rfl, rfl⟩
  have e0 : (0 : Int) + (i : Nat) = (i : Nat) := Int.zero_add _
  show g (.int ((0 : Int) + (i : Nat))) σ' _ _
  rw [e0]
  exact h1 i σ' G' _ (by omega) a1 a2 hI
/-- a, b = e, figures drawn -/
theorem q_asgS {σ : L2.St} {G H : Hp} {te : TE} {g : TG} {tz : TS} {D : Ends} {R : VP} {src : Addr} {n m : Nat} (e : Same G H) (hg : G src = none) (hs : Src src n H) (h : EvS te σ G src n m R) (k : ∀ v G' H', Gw [src] G H G' H' → G' src = none → Src src m H' → R v G' → g v σ H' fun σ2 H2 => tz D σ2 H2) : tSeq (tAsg te g) tz D σ H :=
  h H e hg hs _ fun v G' H' g s r => k v G' H' g (by obtain ⟨_, _, _, z, _⟩ := hs; exact g.out hg z) s r
/-- the strips while they are made -/
structure WS (src l : Addr) (G H : Hp) (n : Nat) (sts : List Stp) (Gi Hi : Hp) : Prop where
  gw : Gw [src] G H Gi Hi
  hs : Src src n Hi
  hg : Gi src = none
  hl : Hi l = some (.lst (sts.map fun s => V.ref s.a))
  hgl : Gi l = none
  tr : Tr H Gi Hi l sts
  shape : ∀ s ∈ sts, 1 ≤ s.rows.length ∧ s.rows.length ≤ 7 ∧ ∃ w, 1 ≤ w ∧ w ≤ 7 ∧ ∀ p ∈ s.rows, p.c.length = w
section
variable {src l : Addr} {G H Gi Hi G' H' : Hp} {n m : Nat} {sts : List Stp}
theorem Tr.nsrc (T : Tr H Gi Hi l sts) {k : Nat} (hs : Src src k H) : ∀ s ∈ sts, ∀ p ∈ s.rows, p.a ∉ [src] := fun s h p hp z => src_ne hs ((T.rows s h).new p hp) (List.mem_singleton.mp z)
theorem WS.step (S : WS src l G H n sts Gi Hi) {k : Nat} (hs0 : Src src k H) (hl0 : H l = none) (g : Gw [src] Gi Hi G' H') (s : Src src m H') : WS src l G H m sts G' H' := by
  have ls : l ∉ [src] := fun z => src_ne hs0 hl0 (List.mem_singleton.mp z)
  exact ⟨S.gw.trans g, s, by obtain ⟨_, _, _, z, _⟩ := S.hs; exact g.out S.hg z, g.hh _ _ S.hl ls, g.out S.hgl S.hl, S.tr.step g (S.tr.nsrc hs0), S.shape⟩
theorem WS.le (S : WS src l G H n sts Gi Hi) (h : n ≤ m) : WS src l G H m sts Gi Hi := ⟨S.gw, S.hs.le h, S.hg, S.hl, S.hgl, S.tr, S.shape⟩
theorem WS.add (S : WS src l G H n sts Gi Hi) {k : Nat} (hs0 : Src src k H) (hl0 : H l = none) {s : Stp} (g : Gw [src] Gi Hi G' H') (sm : Src src m H') (hR : RowsIn Hi G' H' l s.rows) (hl : G' s.a = some (.lst s.refs))
    (sh : 1 ≤ s.rows.length ∧ s.rows.length ≤ 7 ∧ ∃ w, 1 ≤ w ∧ w ≤ 7 ∧ ∀ p ∈ s.rows, p.c.length = w) : WS src l G H m (sts ++ [s]) G' (upd H' l (.lst ((sts.map fun s => V.ref s.a) ++ [V.ref s.a]))) := by
  have ls : l ≠ src := src_ne hs0 hl0
  have hgl' := g.out S.hgl S.hl
  have T' := (S.tr.add S.gw g (S.tr.nsrc hs0) hR hl).put (o := .lst ((sts.map fun s => V.ref s.a) ++ [V.ref s.a]))
  refine ⟨(S.gw.trans g).alter hl0 hgl', sm.alter ls, by obtain ⟨_, _, _, z, _⟩ := S.hs; exact g.out S.hg z, ?_, hgl', T', fun t ht => ?_⟩
  · rw [upd_same, List.map_append]
    rfl
  · rcases List.mem_append.mp ht with z | z
    · exact S.shape t z
    · rw [List.mem_singleton.mp z]; exact sh
end
/-- if a drawn number == c -/
theorem q_ifS {σ : L2.St} {G H : Hp} {te : TE} {tu tz : TS} {D : Ends} {src : Addr} {n m : Nat} {P : Int → Prop} {c : Int} (e : Same G H) (hg : G src = none) (hs : Src src n H) (h : EvS te σ G src n m (fun v _ => ∃ r, v = .int r ∧ P r))
    (k1 : ∀ G' H', Gw [src] G H G' H' → G' src = none → Src src m H' → tu { D with nx := tz D } σ H') (k2 : ∀ G' H', Gw [src] G H G' H' → G' src = none → Src src m H' → tz D σ H') :
    tSeq (tIfS (tTest (tOp rEq te (tC (.int c)))) tu tNext) tz D σ H := h H e hg hs _ fun v G' H' g s ⟨r, hv, _⟩ => by
  subst hv
  have hg' : G' src = none := by obtain ⟨_, _, _, z, _⟩ := hs; exact g.out hg z
  refine ⟨rfl, decide (V.int r = V.int c), rfl, ?_⟩
  cases decide (V.int r = V.int c) with
  | true => exact iteT (k1 G' H' g hg' s)
  | false => exact iteF (k2 G' H' g hg' s)
/-- if a drawn number == c: e (dropped) -/
theorem q_ifD {σ : L2.St} {G H : Hp} {te te2 : TE} {tz : TS} {D : Ends} {src : Addr} {n m : Nat} {P : Int → Prop} {c : Int} (Mid : Hp → Prop) (e : Same G H) (hg : G src = none) (hs : Src src n H) (h : EvS te σ G src n m (fun v _ => ∃ r, v = .int r ∧ P r))
    (k1 : ∀ G' H', Gw [src] G H G' H' → G' src = none → Src src m H' → ∀ Q : VK, (∀ v H'', Mid H'' → Q v H'') → te2 σ H' Q) (k2 : ∀ G' H', Gw [src] G H G' H' → G' src = none → Src src m H' → Mid H') (k3 : ∀ H', Mid H' → tz D σ H') :
    tSeq (tIfS (tTest (tOp rEq te (tC (.int c)))) (tDrop te2) tNext) tz D σ H :=
  q_ifS e hg hs h (fun G' H' g hg' s => k1 G' H' g hg' s _ fun v H'' hm => k3 H'' hm) fun G' H' g hg' s => k3 H' (k2 G' H' g hg' s)
end Sky

namespace Sky
open PySem PySem.Spec PyProof.Rows L2
/-! ### the dict of seen spots -/
def keyOf (p : Int × Int) : List Key := [.inl p.1, .inl p.2]
def kvOf (p : Int × Int) : List Key × V := (keyOf p, .bl true)
theorem keyOf_inj {p q : Int × Int} (h : keyOf p = keyOf q) : p = q := by
  unfold keyOf at h
  injection h with h1 h2
  injection h2 with h2 _
  injection h1 with h1
  injection h2 with h2
  exact Prod.ext h1 h2
theorem val_in (ks : List (Int × Int)) (p : Int × Int) : (valV (ks.map kvOf) (keyOf p)).isSome = decide (p ∈ ks) := by
  induction ks with
  | nil => rfl
  | cons q ks ih =>
    rw [List.map_cons]
    by_cases h : q = p
    · subst h
      have e : valV (kvOf q :: ks.map kvOf) (keyOf q) = some (.bl true) := valV_pos (p := kvOf q) rfl
      rw [e]
      simp
    · have e : valV (kvOf q :: ks.map kvOf) (keyOf p) = valV (ks.map kvOf) (keyOf p) := valV_neg (p := kvOf q) (fun z => h (keyOf_inj z))
      rw [e, ih]
      have : (p ∈ q :: ks) ↔ p ∈ ks := by
        rw [List.mem_cons]
        exact ⟨fun z => z.elim (fun z => absurd z.symm h) id, .inr⟩
      simp only [this]
theorem any_in (ks : List (Int × Int)) (p : Int × Int) : ((ks.map kvOf).any fun kv => decide (kv.1 = keyOf p)) = decide (p ∈ ks) := by
  rw [valV_any, val_in]
theorem put_in {ks : List (Int × Int)} {p : Int × Int} (h : p ∈ ks) : putK (ks.map kvOf) (keyOf p) (.bl true) = ks.map kvOf := by
  unfold putK
  rw [any_in, decide_eq_true h, if_pos rfl, List.map_map]
  refine List.map_congr_left fun q _ => ?_
  show (if (kvOf q).1 = keyOf p then ((kvOf q).1, V.bl true) else kvOf q) = kvOf q
  split <;> rfl
theorem put_new {ks : List (Int × Int)} {p : Int × Int} (h : p ∉ ks) : putK (ks.map kvOf) (keyOf p) (.bl true) = (ks ++ [p]).map kvOf := by
  unfold putK
  rw [any_in, decide_eq_false h, if_neg (by decide), List.map_append]
  rfl
section
variable {K : PySem.W.Frag} {σ : L2.St} {G H : Hp} {ta : TA} {te : TE} {D : Ends} {tu tz : TS} {g : TG}
/-- a tuple of two ints, just laid -/
theorem ev_tupX {i j : Int} (h : EvD ta σ G K [.int i, .int j]) : EvR (tTup ta) σ G (fun v G' => ∃ b, v = .ref b ∧ G' b = some (.tup [.int i, .int j])) := fun H e Q q =>
  h H e _ fun vs G1 H1 g1 r1 => by
    cases r1 with
    | cons a1 r1 =>
    cases r1 with
    | cons a2 r1 =>
    cases r1
    cases a1; cases a2
    exact ⟨by show 2 ≤ sizeLine; decide, fun p hp => q (.ref p) (upd G1 p (.tup [.int i, .int j])) _ (g1.trans (Gw.new g1.gh hp)) ⟨p, rfl, upd_same⟩⟩
/-- for c, x in enumerate(list(p)), p may change meanwhile -/
theorem s_forEc {p : Addr} {ys : List V} {i : Nat} (e : Same G H) (hp : H p = some (.lst ys)) (hv : σ[i]? = some (some (.ref p))) (k : ∀ L, H L = none → ∃ I : Nat → L2.St → Hp → Hp → Prop, I 0 σ (upd G L (.lst ys)) (upd H L (.lst ys)) ∧
      (∀ c x σ' G' H', ys[c]? = some x → Same (upd G L (.lst ys)) G' → Same G' H' → I c σ' G' H' → ∀ T, H' T = none → g (.ref T) σ' (upd H' T (.tup [.int (c : Nat), x])) fun σ2 H2 => tu (LpOk D (upd G L (.lst ys)) I c) σ2 H2) ∧
      (∀ σ' G' H', Same (upd G L (.lst ys)) G' → Same G' H' → I ys.length σ' G' H' → D.nx σ' H')) : tFor (iEnum K (tCons (tCB (rListOf K) (tCons (tVar i) tNil)) tNil)) g tu D σ H :=
  ⟨.ref p, hv, p, ys, rfl, .inl (SqL.of hp), fun L hL => by
    obtain ⟨I, h0, h1, h2⟩ := k L hL
    have gn : Gw [] G H (upd G L (.lst ys)) (upd H L (.lst ys)) := Gw.new e hL
    refine ⟨L, ys, rfl, SqL.of upd_same, s_wk (walk_enum (K := K) (a := L) (xs := ys)) I h0 gn.gh (fun H2 e2 => SqL.of (e2 _ _ upd_same)) ?_ h2⟩
    rintro c v σ' G' H' H'' hi a1 a2 hI ⟨T, x, y, rfl, hT, rfl, hx1, hx2⟩
    cases hx1
    exact h1 c y σ' G' H' hx2 a1 a2 hI T hT⟩
end
/-! ### the strips while cells are struck -/
structure LS (src d : Addr) (nS : Nat) (hgt wd : Nat → Nat) (A : Nat → Nat → Addr) (G H : Hp) (n : Nat) (C : Nat → Nat → List (Option Int)) (ks : List (Int × Int)) (Gi Hi : Hp) : Prop where
  gw : Gw [src] G H Gi Hi
  hs : Src src n Hi
  hg : Gi src = none
  hd : Hi d = some (.dT (ks.map kvOf))
  hgd : Gi d = none
  at_ : ∀ k r, k < nS → r < hgt k → Hi (A k r) = some (.lst ((C k r).map oV))
  len : ∀ k r, k < nS → r < hgt k → (C k r).length = wd k
  out : ∀ k r, k < nS → r < hgt k → Gi (A k r) = none
  few : ks.length ≤ 48
/-- what never changes meanwhile -/
structure LF (src d : Addr) (nS : Nat) (hgt : Nat → Nat) (A : Nat → Nat → Addr) (H : Hp) : Prop where
  dn : H d = none
  new : ∀ k r, k < nS → r < hgt k → H (A k r) = none
  dist : ∀ k r k' r', k < nS → r < hgt k → k' < nS → r' < hgt k' → A k r = A k' r' → k = k' ∧ r = r'
  ad : ∀ k r, k < nS → r < hgt k → A k r ≠ d
  src : ∃ m, Src src m H
section
variable {src d : Addr} {nS n : Nat} {hgt wd : Nat → Nat} {A : Nat → Nat → Addr} {G H Gi Hi G' H' : Hp} {C : Nat → Nat → List (Option Int)} {ks : List (Int × Int)}
theorem LS.step (S : LS src d nS hgt wd A G H n C ks Gi Hi) (F : LF src d nS hgt A H) (g : Gw [] Gi Hi G' H') : LS src d nS hgt wd A G H n C ks G' H' :=
  ⟨S.gw.trans g.weak, S.hs.hh fun o z => g.hh _ _ z (by simp), by obtain ⟨_, _, _, z, _⟩ := S.hs; exact g.out S.hg z, g.hh _ _ S.hd (by simp), g.out S.hgd S.hd,
    fun k r hk hr => g.hh _ _ (S.at_ k r hk hr) (by simp), S.len, fun k r hk hr => g.out (S.out k r hk hr) (S.at_ k r hk hr), S.few⟩
/-- row[c] = None -/
theorem LS.strike (S : LS src d nS hgt wd A G H n C ks Gi Hi) (F : LF src d nS hgt A H) {k r c : Nat} (hk : k < nS) (hr : r < hgt k) :
    LS src d nS hgt wd A G H n (fun k' r' => if k' = k ∧ r' = r then (C k r).set c none else C k' r') ks Gi (upd Hi (A k r) (.lst (((C k r).map oV).set c .non))) := by
  obtain ⟨m, hm⟩ := F.src
  refine ⟨S.gw.alter (F.new k r hk hr) (S.out k r hk hr), S.hs.alter (src_ne hm (F.new k r hk hr)), S.hg, ?_, S.hgd, fun k' r' hk' hr' => ?_, fun k' r' hk' hr' => ?_, S.out, S.few⟩
  · rw [upd_ne (Ne.symm (F.ad k r hk hr))]
    exact S.hd
  · by_cases h : k' = k ∧ r' = r
    · rw [if_pos h, h.1, h.2, upd_same, List.map_set]
      rfl
    · rw [if_neg h, upd_ne (fun z => h (F.dist _ _ _ _ hk' hr' hk hr z))]
      exact S.at_ k' r' hk' hr'
  · by_cases h : k' = k ∧ r' = r
    · rw [if_pos h, List.length_set, h.1]
      exact S.len k r hk hr
    · rw [if_neg h]
      exact S.len k' r' hk' hr'
/-- seen[spot] = True -/
theorem LS.see (S : LS src d nS hgt wd A G H n C ks Gi Hi) (F : LF src d nS hgt A H) {ks' : List (Int × Int)} (hl : ks'.length ≤ 48) : LS src d nS hgt wd A G H n C ks' Gi (upd Hi d (.dT (ks'.map kvOf))) := by
  obtain ⟨m, hm⟩ := F.src
  refine ⟨S.gw.alter F.dn S.hgd, S.hs.alter (src_ne hm F.dn), S.hg, upd_same, S.hgd, fun k' r' hk' hr' => ?_, S.len, S.out, hl⟩
  rw [upd_ne (F.ad k' r' hk' hr')]
  exact S.at_ k' r' hk' hr'
end
theorem q_asgE {σ : L2.St} {H : Hp} {te : TE} {tz : TS} {D : Ends} {i : Nat} (h : te σ H (fun v H' => tz D (σ.set i (some v)) H')) : tSeq (tAsg te (gName i)) tz D σ H := h
end Sky

namespace Sky
open PySem PySem.Spec PyProof.Rows L2
/-! ### from lists of strips to places -/
def skAt (sts : List Stp) (k : Nat) : Stp := sts.getD k ⟨0, []⟩
def hgtF (sts : List Stp) (k : Nat) : Nat := (skAt sts k).rows.length
def rowF (sts : List Stp) (k r : Nat) : Row := (skAt sts k).rows.getD r ⟨0, []⟩
def aF (sts : List Stp) (k r : Nat) : Addr := (rowF sts k r).a
def cF (sts : List Stp) (k r : Nat) : List (Option Int) := (rowF sts k r).c
def wdF (sts : List Stp) (k : Nat) : Nat := (cF sts k 0).length
theorem sk_mem {sts : List Stp} {k : Nat} (h : k < sts.length) : skAt sts k ∈ sts := by
  unfold skAt
  rw [List.getD_eq_getElem?_getD, List.getElem?_eq_getElem h]
  exact List.getElem_mem h
theorem row_mem {sts : List Stp} {k r : Nat} (h : r < hgtF sts k) : rowF sts k r ∈ (skAt sts k).rows := by
  unfold rowF
  rw [List.getD_eq_getElem?_getD, List.getElem?_eq_getElem h]
  exact List.getElem_mem h
theorem getD_at {α : Type} {l : List α} {i : Nat} {d : α} (h : i < l.length) : l.getD i d = l[i] := by
  rw [List.getD_eq_getElem?_getD, List.getElem?_eq_getElem h]
  rfl
theorem refs_eq (sts : List Stp) (k : Nat) : (skAt sts k).refs = (List.range (hgtF sts k)).map fun r => V.ref (aF sts k r) := by
  refine List.ext_getElem? fun r => ?_
  unfold Stp.refs
  rw [List.getElem?_map, List.getElem?_map]
  by_cases h : r < hgtF sts k
  · rw [List.getElem?_eq_getElem h, List.getElem?_eq_getElem (by rw [List.length_range]; exact h), List.getElem_range]
    show some (V.ref _) = some (V.ref (aF sts k r))
    unfold aF rowF
    rw [getD_at h]
  · rw [List.getElem?_eq_none (by unfold hgtF at h; omega), List.getElem?_eq_none (by rw [List.length_range]; omega)]
    rfl
section
variable {src l d : Addr} {G H G4 H4 : Hp} {n m : Nat} {sts : List Stp}
theorem ls_start (S : WS src l G H n sts G4 H4) (hS : Src src m H) (hl0 : H l = none) (hd0 : H4 d = none) :
    LF src d sts.length (hgtF sts) (aF sts) H ∧ LS src d sts.length (hgtF sts) (wdF sts) (aF sts) G H n (cF sts) [] (upd G4 l (.lst (sts.map fun s => V.ref s.a))) (upd H4 d (.dT [])) := by
  have dn : H d = none := S.gw.tr d hd0
  have gd : G4 d = none := S.gw.gh.free hd0
  have ld : l ≠ d := fun z => by have := S.hl; rw [z, hd0] at this; cases this
  have at4 : ∀ k r, k < sts.length → r < hgtF sts k → H4 (aF sts k r) = some (.lst ((cF sts k r).map oV)) := fun k r hk hr => (S.tr.rows _ (sk_mem hk)).at_ _ (row_mem hr)
  have adn : ∀ k r, k < sts.length → r < hgtF sts k → aF sts k r ≠ d := fun k r hk hr z => by
    have := at4 k r hk hr
    rw [z, hd0] at this
    cases this
  have al : ∀ k r, k < sts.length → r < hgtF sts k → aF sts k r ≠ l := fun k r hk hr => (S.tr.rows _ (sk_mem hk)).off _ (row_mem hr)
  have one : ∀ k r k' r', k < sts.length → r < hgtF sts k → k' < sts.length → r' < hgtF sts k' → k < k' → aF sts k r ≠ aF sts k' r' := fun k r k' r' hk hr hk' hr' h z => by
    have := (List.pairwise_iff_getElem.mp S.tr.apart) k k' hk hk' h
    have e1 : skAt sts k = sts[k] := getD_at hk
    have e2 : skAt sts k' = sts[k'] := getD_at hk'
    refine this (rowF sts k r) (by rw [← e1]; exact row_mem hr) (rowF sts k' r') (by rw [← e2]; exact row_mem hr') z
  have two : ∀ k r r', k < sts.length → r < hgtF sts k → r' < hgtF sts k → r < r' → aF sts k r ≠ aF sts k r' := fun k r r' hk hr hr' h z => by
    have := (List.pairwise_map.mp (S.tr.rows _ (sk_mem hk)).nd)
    have := (List.pairwise_iff_getElem.mp this) r r' hr hr' h
    have e1 : rowF sts k r = (skAt sts k).rows[r] := getD_at hr
    have e2 : rowF sts k r' = (skAt sts k).rows[r'] := getD_at hr'
    refine this ?_
    rw [← e1, ← e2]
    exact z
  refine ⟨⟨dn, fun k r hk hr => (S.tr.rows _ (sk_mem hk)).new _ (row_mem hr), fun k r k' r' hk hr hk' hr' z => ?_, adn, m, hS⟩, ?_⟩
  · rcases Nat.lt_trichotomy k k' with h | h | h
    · exact absurd z (one k r k' r' hk hr hk' hr' h)
    · subst h
      refine ⟨rfl, ?_⟩
      rcases Nat.lt_trichotomy r r' with h | h | h
      · exact absurd z (two k r r' hk hr hr' h)
      · exact h
      · exact absurd z.symm (two k r' r hk hr' hr h)
    · exact absurd z.symm (one k' r' k r hk' hr' hk hr h)
  · have gA := S.gw.alter (o := .dT []) dn gd
    have hl4 : (upd H4 d (.dT [])) l = some (.lst (sts.map fun s => V.ref s.a)) := by rw [upd_ne ld]; exact S.hl
    refine ⟨gA.fixN hl0 S.hgl hl4, S.hs.alter (src_ne hS dn), ?_, upd_same, ?_, fun k r hk hr => ?_, fun k r hk hr => ?_, fun k r hk hr => ?_, Nat.zero_le _⟩
    · rw [upd_ne (Ne.symm (src_ne hS hl0))]; exact S.hg
    · rw [upd_ne (Ne.symm ld)]; exact gd
    · rw [upd_ne (adn k r hk hr)]; exact at4 k r hk hr
    · obtain ⟨s1, s2, w, w1, w2, w3⟩ := S.shape _ (sk_mem hk)
      have h0 : 0 < hgtF sts k := by unfold hgtF; omega
      unfold wdF
      rw [show (cF sts k r).length = w from w3 _ (row_mem hr), show (cF sts k 0).length = w from w3 _ (row_mem h0)]
    · rw [upd_ne (al k r hk hr)]; exact (S.tr.rows _ (sk_mem hk)).out _ (row_mem hr)
theorem wd_ok (S : WS src l G H n sts G4 H4) {k : Nat} (hk : k < sts.length) : 1 ≤ hgtF sts k ∧ hgtF sts k ≤ 7 ∧ 1 ≤ wdF sts k ∧ wdF sts k ≤ 7 := by
  obtain ⟨s1, s2, w, w1, w2, w3⟩ := S.shape _ (sk_mem hk)
  have h0 : 0 < hgtF sts k := by unfold hgtF; omega
  have : (cF sts k 0).length = w := w3 _ (row_mem h0)
  unfold wdF
  rw [this]
  exact ⟨s1, s2, w1, w2⟩
end
/-! ### what has been seen -/
def spotAt (offs : List (Int × Int)) (k r c : Nat) : Int × Int := ((offs.getD k (0, 0)).1 + (r : Nat), (offs.getD k (0, 0)).2 + (c : Nat))
structure Seen (offs : List (Int × Int)) (nS : Nat) (hgt : Nat → Nat) (C : Nat → Nat → List (Option Int)) (ks : List (Int × Int)) (k r c : Nat) (c0 : List (Option Int)) : Prop where
  d0 : ∀ k' r' c' v, (k' < k ∨ (k' = k ∧ r' < r)) → k' < nS → r' < hgt k' → (C k' r')[c']? = some (some v) → spotAt offs k' r' c' ∈ ks
  d1 : ∀ c' v, c' < c → (C k r)[c']? = some (some v) → spotAt offs k r c' ∈ ks
  same : ∀ c', c ≤ c' → (C k r)[c']? = c0[c']?
section
variable {offs : List (Int × Int)} {nS : Nat} {hgt : Nat → Nat} {C : Nat → Nat → List (Option Int)} {ks : List (Int × Int)} {k r c : Nat} {c0 : List (Option Int)} {o : Option Int}
theorem Seen.next (S : Seen offs nS hgt C ks k r c c0) (ho : c0[c]? = some o) (h : ∀ v, o = some v → spotAt offs k r c ∈ ks) : Seen offs nS hgt C ks k r (c + 1) c0 :=
  ⟨S.d0, fun c' v hc hv => by
    rcases Nat.lt_or_ge c' c with z | z
    · exact S.d1 c' v z hv
    · have : c' = c := by omega
      subst this
      rw [S.same c' (Nat.le_refl _), ho] at hv
      exact h v (Option.some.inj hv), fun c' hc => S.same c' (by omega)⟩
theorem Seen.more (S : Seen offs nS hgt C ks k r c c0) {ks' : List (Int × Int)} (h : ∀ p ∈ ks, p ∈ ks') : Seen offs nS hgt C ks' k r c c0 :=
  ⟨fun k' r' c' v a b d e => h _ (S.d0 k' r' c' v a b d e), fun c' v a b => h _ (S.d1 c' v a b), S.same⟩
theorem Seen.strike (S : Seen offs nS hgt C ks k r c c0) : Seen offs nS hgt (fun k' r' => if k' = k ∧ r' = r then (C k r).set c none else C k' r') ks k r (c + 1) c0 := by
  refine ⟨fun k' r' c' v a b d e => ?_, fun c' v a b => ?_, fun c' hc => ?_⟩
  · have n : ¬ (k' = k ∧ r' = r) := fun ⟨z1, z2⟩ => by
      rcases a with a | ⟨_, a⟩ <;> omega
    rw [if_neg n] at e
    exact S.d0 k' r' c' v a b d e
  · rw [if_pos ⟨rfl, rfl⟩, List.getElem?_set] at b
    by_cases z : c = c'
    · subst z
      rw [if_pos rfl] at b
      split at b
      · cases b
      · cases b
    · rw [if_neg z] at b
      exact S.d1 c' v (by omega) b
  · rw [if_pos ⟨rfl, rfl⟩, List.getElem?_set, if_neg (by omega)]
    exact S.same c' (by omega)
theorem Seen.row (S : Seen offs nS hgt C ks k r c c0) (hc : (C k r).length ≤ c) : Seen offs nS hgt C ks k (r + 1) 0 (C k (r + 1)) :=
  ⟨fun k' r' c' v a b d e => by
    rcases a with a | ⟨a1, a2⟩
    · exact S.d0 k' r' c' v (.inl a) b d e
    · subst a1
      rcases Nat.lt_or_ge r' r with z | z
      · exact S.d0 k' r' c' v (.inr ⟨rfl, z⟩) b d e
      · have : r' = r := by omega
        subst this
        have := (List.getElem?_eq_some_iff.mp e).1
        exact S.d1 c' v (by omega) e, (fun c' v h => absurd h (Nat.not_lt_zero _)), fun c' _ => rfl⟩
theorem Seen.strip (S : Seen offs nS hgt C ks k r c c0) (hr : hgt k ≤ r) : Seen offs nS hgt C ks (k + 1) 0 0 (C (k + 1) 0) :=
  ⟨fun k' r' c' v a b d e => by
    rcases a with a | ⟨_, a2⟩
    · rcases Nat.lt_or_ge k' k with z | z
      · exact S.d0 k' r' c' v (.inl z) b d e
      · have : k' = k := by omega
        subst this
        exact S.d0 k' r' c' v (.inr ⟨rfl, by omega⟩) b d e
    · omega, (fun c' v h => absurd h (Nat.not_lt_zero _)), fun c' _ => rfl⟩
end
/-! ### the strips at the end -/
def stripsF (nS : Nat) (hgt : Nat → Nat) (C : Nat → Nat → List (Option Int)) : List (List (List (Option Int))) := (List.range nS).map fun k => (List.range (hgt k)).map fun r => C k r
theorem strips_at {nS : Nat} {hgt : Nat → Nat} {C : Nat → Nat → List (Option Int)} {k : Nat} (h : k < nS) : (stripsF nS hgt C).getD k [] = (List.range (hgt k)).map fun r => C k r := by
  unfold stripsF
  rw [List.getD_eq_getElem?_getD, List.getElem?_map, List.getElem?_eq_getElem (by rw [List.length_range]; exact h), List.getElem_range]
  rfl
theorem rows_at {hgt : Nat → Nat} {C : Nat → Nat → List (Option Int)} {k r : Nat} (h : r < hgt k) : ((List.range (hgt k)).map fun r => C k r).getD r [] = C k r := by
  rw [List.getD_eq_getElem?_getD, List.getElem?_map, List.getElem?_eq_getElem (by rw [List.length_range]; exact h), List.getElem_range]
  rfl
theorem flat_bound {α : Type} (f : Nat → List α) (b : Nat) : ∀ n, (∀ i, i < n → (f i).length ≤ b) → ((List.range n).flatMap f).length ≤ n * b
  | 0, _ => Nat.zero_le _
  | n + 1, h => by
    rw [flat_succ, List.length_append, Nat.add_mul, Nat.one_mul]
    exact Nat.add_le_add (flat_bound f b n fun i hi => h i (by omega)) (h n (Nat.lt_succ_self _))
theorem mem_cellRd {k r c : Nat} {off : Int × Int} {row : List (Option Int)} {x : Rd} (h : x ∈ cellRd k off r row c) : ∃ v, row[c]? = some (some v) ∧ x.spot = (off.1 + (r : Nat), off.2 + (c : Nat)) := by
  unfold cellRd at h
  split at h
  · rename_i v hv
    rw [List.mem_singleton] at h
    subst h
    exact ⟨v, hv, rfl⟩
  · cases h
theorem cellRd_len {k r c : Nat} {off : Int × Int} {row : List (Option Int)} : (cellRd k off r row c).length ≤ 1 := by
  unfold cellRd
  split
  · exact Nat.le_refl _
  · exact Nat.zero_le _
section
variable {offs : List (Int × Int)} {nS : Nat} {hgt wd : Nat → Nat} {C : Nat → Nat → List (Option Int)} {ks : List (Int × Int)}
theorem world_ok (n1 : 1 ≤ nS) (n4 : nS ≤ 4) (ho : offs.length = nS) (hw : ∀ k, k < nS → 1 ≤ hgt k ∧ hgt k ≤ 7 ∧ 1 ≤ wd k ∧ wd k ≤ 7) (hl : ∀ k r, k < nS → r < hgt k → (C k r).length = wd k) (few : ks.length ≤ 48)
    (seen : ∀ k r c v, k < nS → r < hgt k → (C k r)[c]? = some (some v) → spotAt offs k r c ∈ ks) :
    StripsOk (stripsF nS hgt C) ∧ (stripsF nS hgt C).length = nS ∧ (allRd (stripsF nS hgt C) offs nS).length ≤ 240 ∧ ∀ q ∈ (allRd (stripsF nS hgt C) offs nS).map Rd.spot, q ∈ ks := by
  have len_ : (stripsF nS hgt C).length = nS := by unfold stripsF; rw [List.length_map, List.length_range]
  refine ⟨fun rows hr => ?_, len_, ?_, fun q hq => ?_⟩
  · obtain ⟨k, hk, rfl⟩ := List.mem_map.mp hr
    rw [List.mem_range] at hk
    obtain ⟨a1, a2, a3, a4⟩ := hw k hk
    refine ⟨wd k, by rw [List.length_map, List.length_range]; exact a1, by rw [List.length_map, List.length_range]; omega, a3, by omega, fun r hr2 => ?_⟩
    obtain ⟨r', hr', rfl⟩ := List.mem_map.mp hr2
    exact hl k r' hk (List.mem_range.mp hr')
  · refine Nat.le_trans (flat_bound _ 49 nS fun k hk => ?_) (Nat.le_trans (Nat.mul_le_mul_right 49 n4) (by decide))
    obtain ⟨a1, a2, a3, a4⟩ := hw k hk
    rw [strips_at hk]
    refine Nat.le_trans (flat_bound _ 7 _ fun r hr => ?_) (by rw [List.length_map, List.length_range]; omega)
    rw [List.length_map, List.length_range] at hr
    rw [rows_at hr]
    refine Nat.le_trans (flat_bound _ 1 _ fun c hc => cellRd_len) ?_
    rw [hl k r hk hr]
    omega
  · obtain ⟨x, hx, rfl⟩ := List.mem_map.mp hq
    obtain ⟨k, hk, hx⟩ := List.mem_flatMap.mp hx
    rw [List.mem_range] at hk
    rw [strips_at hk] at hx
    obtain ⟨r, hr, hx⟩ := List.mem_flatMap.mp hx
    rw [List.mem_range, List.length_map, List.length_range] at hr
    rw [rows_at hr] at hx
    obtain ⟨c, hc, hx⟩ := List.mem_flatMap.mp hx
    obtain ⟨v, hv, e⟩ := mem_cellRd hx
    rw [e]
    exact seen k r c v hk hr hv
end
/-- all the rows stand from now on -/
theorem Gw.fixP {M : List Addr} {G0 H0 G H : Hp} (P : Addr → Prop) [DecidablePred P] (g : Gw M G0 H0 G H) (h : ∀ a, P a → H0 a = none ∧ G a = none) : Gw M G0 H0 (fun a => if P a then H a else G a) H ∧ Same G (fun a => if P a then H a else G a) := by
  have up : Same G (fun a => if P a then H a else G a) := fun a o q => by
    have n : ¬ P a := fun z => by rw [(h a z).2] at q; cases q
    show (if P a then H a else G a) = some o
    rw [if_neg n]
    exact q
  refine ⟨⟨g.gg.trans up, fun a o q => ?_, g.hh, fun a o q => ?_, g.tr⟩, up⟩
  · by_cases z : P a
    · rw [if_pos z] at q; exact q
    · rw [if_neg z] at q; exact g.gh a o q
  · by_cases z : P a
    · exact .inr (h a z).1
    · rw [if_neg z] at q; exact g.fr a o q
/-- if worth is not None and spot not in seen and len(seen) > 47, the worth an int -/
theorem s_ifSeen {σ : L2.St} {G H : Hp} {iw id ik : Nat} {tu tw : TS} {D : Ends} {dd b : Addr} {ks : List (Int × Int)} {p : Int × Int} {v : Int} (e : Same G H) (hw : σ[iw]? = some (some (.int v))) (hk : σ[ik]? = some (some (.ref b))) (hd : σ[id]? = some (some (.ref dd)))
    (hb : G b = some (.tup [.int p.1, .int p.2])) (hdd : H dd = some (.dT (ks.map kvOf))) (k1 : p ∉ ks → 47 < ks.length → tu D σ H) (k2 : (p ∈ ks ∨ ks.length ≤ 47) → tw D σ H) :
    tIfS (tAnd (tTest (tOp rNotNon (tVar iw) (tC .non))) (tAnd (tB (tDNotIn (tVar ik) (tVar id))) (tTest (tOp (rI0 fun i j => .bl (decide (j < i))) (tCB rLenT (tCons (tVar id) tNil)) (tC (.int 47)))))) tu tw D σ H := by
  refine ⟨.int v, hw, rfl, true, rfl, iteT ⟨.ref b, hk, .ref dd, hd, dd, _, rfl, DGet.t (k := keyOf p) hdd (e _ _ hb), _, rfl, ?_⟩⟩
  rw [val_in]
  by_cases h : p ∈ ks
  · rw [decide_eq_true h]
    exact iteF (iteF (k2 (.inl h)))
  · rw [decide_eq_false h]
    refine iteT ⟨.ref dd, hd, dd, _, rfl, hdd, _, _, rfl, rfl, _, rfl, ?_⟩
    rw [List.length_map]
    by_cases hl : (47 : Int) < ((ks.length : Nat) : Int)
    · rw [decide_eq_true hl]
      exact iteT (k1 h (by omega))
    · rw [decide_eq_false hl]
      exact iteF (k2 (.inr (by omega)))
theorem s_see {σ : L2.St} {G H : Hp} {id ik : Nat} {D : Ends} {dd b : Addr} {ks : List (Int × Int)} {p : Int × Int} (e : Same G H) (hk : σ[ik]? = some (some (.ref b))) (hd : σ[id]? = some (some (.ref dd))) (hb : G b = some (.tup [.int p.1, .int p.2])) (hdd : H dd = some (.dT (ks.map kvOf))) (few : ks.length ≤ 1000)
    (k : D.nx σ (upd H dd (.dT (putK (ks.map kvOf) (keyOf p) (.bl true))))) : sDPut (tVar id) (tVar ik) (tC (.bl true)) D σ H :=
  ⟨.ref dd, hd, .ref b, hk, dd, _, rfl, DPut.t (k := keyOf p) hdd (e _ _ hb) (small1000 (by rw [List.length_map]; exact few)), k⟩
theorem dpall_pt {K : PySem.W.Frag} {G : Hp} : ∀ {xs : List V} {ds : List PyData}, xs.length = ds.length → (∀ (i : Nat) x d, xs[i]? = some x → ds[i]? = some d → Dp K G x d) → DpAll K G xs ds
  | [], [], _, _ => .nil
  | [], d :: ds, h, _ => by simp at h
  | x :: xs, [], h, _ => by simp at h
  | x :: xs, d :: ds, h, k => .cons (k 0 x d rfl rfl) (dpall_pt (by simpa using h) fun i x' d' h1 h2 => k (i + 1) x' d' (by simpa using h1) (by simpa using h2))
theorem range_map_at {α : Type} {f : Nat → α} {n i : Nat} {x : α} (h : ((List.range n).map f)[i]? = some x) : i < n ∧ x = f i := by
  rw [List.getElem?_map] at h
  by_cases hi : i < n
  · rw [List.getElem?_eq_getElem (by rw [List.length_range]; exact hi), List.getElem_range] at h
    exact ⟨hi, (Option.some.inj h).symm⟩
  · rw [List.getElem?_eq_none (by rw [List.length_range]; omega)] at h
    cases h
/-- the strips as they stand, as data -/
theorem strips_dp {K : PySem.W.Frag} {G : Hp} {l : Addr} {sts : List Stp} {C : Nat → Nat → List (Option Int)} (hl : G l = some (.lst (sts.map fun s => V.ref s.a))) (hs : ∀ k, k < sts.length → G (skAt sts k).a = some (.lst ((List.range (hgtF sts k)).map fun r => V.ref (aF sts k r))))
    (hr : ∀ k r, k < sts.length → r < hgtF sts k → G (aF sts k r) = some (.lst ((C k r).map oV))) : Dp K G (.ref l) (.list ((stripsF sts.length (hgtF sts) C).map rowsL)) := by
  refine .lst (SqL.of hl) (dpall_pt (by unfold stripsF; simp) fun k x d hx hd => ?_)
  unfold stripsF at hd
  rw [List.map_map] at hd
  obtain ⟨hk, rfl⟩ := range_map_at hd
  rw [List.getElem?_map, List.getElem?_eq_getElem hk] at hx
  cases hx
  have e : sts[k] = skAt sts k := (getD_at hk).symm
  rw [e]
  show Dp K G _ (.list (((List.range (hgtF sts k)).map fun r => C k r).map fun r => PyData.list (r.map oD)))
  refine .lst (SqL.of (hs k hk)) (dpall_pt (by simp) fun r y d2 hy hd2 => ?_)
  rw [List.map_map] at hd2
  obtain ⟨hr1, rfl⟩ := range_map_at hd2
  obtain ⟨_, rfl⟩ := range_map_at hy
  exact .lst (SqL.of (hr k r hk hr1)) (dp_oV _)
end Sky

namespace Sky
open PySem PySem.Spec PyProof.Rows L2
section
variable {K : PySem.W.Frag} {σ : L2.St} {G H : Hp} {ta tb te tl : TE} {D : Ends} {tu tz : TS} {g : TG} {src : Addr} {n m k : Nat} {i j : Nat} {R S : VP}
theorem src_out {G' H' : Hp} (hg : G src = none) (hs : Src src n H) {M : List Addr} (g : Gw M G H G' H') : G' src = none := by
  obtain ⟨_, _, _, z, _⟩ := hs
  exact g.out hg z
theorem src_on {G' H' : Hp} (hs : Src src n H) (g : Gw [] G H G' H') : Src src n H' := hs.hh fun o z => g.hh _ _ z (by simp)
/-- a figure less c -/
theorem es_subc {P : Int → Prop} {c : Int} (h : EvS te σ G src n m (fun v _ => ∃ r, v = .int r ∧ P r)) : EvS (tOp (rI0 fun i j => .int (i - j)) te (tC (.int c))) σ G src n m (fun v _ => ∃ r, v = .int (r - c) ∧ P r) := fun H e hg hs Q q =>
  h H e hg hs _ fun v G' H' g s ⟨r, hv, hp⟩ => by
    subst hv
    exact ⟨r, c, rfl, rfl, q _ G' H' g s ⟨r, rfl, hp⟩⟩
/-- a, b = two drawn values -/
theorem q_parS {R1 R2' : VP} (m1 : Mn R1) (m2 : Mn R2') (e : Same G H) (hg : G src = none) (hs : Src src n H) (ha : EvS ta σ G src n m R1) (hb : EvS tb σ G src m k R2') (kk : ∀ x y G' H', Gw [src] G H G' H' → G' src = none → Src src k H' → R1 x G' → R2' y G' → tz D ((σ.set i (some x)).set j (some y)) H') :
    tSeq (tPar i j (tCons ta (tCons tb tNil))) tz D σ H := ha H e hg hs _ fun x G1 H1 g1 s1 r1 => by
  have hg1 := src_out hg hs g1
  refine (hb.mono m2 g1.gg) H1 g1.gh hg1 s1 _ fun y G2 H2 g2 s2 r2 => ?_
  exact ⟨x, y, rfl, kk x y G2 H2 (g1.trans g2) (src_out hg1 s1 g2) s2 (m1 _ _ _ g2.gg r1) r2⟩
/-- arguments of which some draw -/
def EvAS (t : TA) (σ : L2.St) (G : Hp) (src : Addr) (n m : Nat) (Rs : List VP) : Prop := Mns Rs ∧ ∀ H, Same G H → G src = none → Src src n H → ∀ Q : List V → Hp → Prop, (∀ vs G' H', Gw [src] G H G' H' → Src src m H' → All2 Rs vs G' → Q vs H') → t σ H Q
theorem EvAS.mono {t : TA} {Rs : List VP} {G1 : Hp} (e : Same G G1) (h : EvAS t σ G src n m Rs) : EvAS t σ G1 src n m Rs := ⟨h.1, fun H e1 hg hs Q q =>
  h.2 H (e.trans e1) (e.free hg) hs Q fun vs G' H' g s r => by
    have k := gw_keep hg e1 g
    exact q vs (both G1 G') H' (g.join e e1 k) s (r.mono (both_r k g.gh) h.1)⟩
theorem eas_nil : EvAS tNil σ G src n n [] := ⟨fun _ h => (by cases h), fun H e hg hs Q q => q [] G H (Gw.refl e) hs .nil⟩
theorem eas_cons {tr : TA} {Rs : List VP} (m0 : Mn R) (h : EvS ta σ G src n m R) (hr : EvAS tr σ G src m k Rs) : EvAS (tCons ta tr) σ G src n k (R :: Rs) :=
  ⟨fun R' h' => (List.mem_cons.mp h').elim (fun z => by rw [z]; exact m0) (fun z => hr.1 R' z), fun H e hg hs Q q => h H e hg hs _ fun v G1 H1 g1 s1 r1 => (hr.mono g1.gg).2 H1 g1.gh (src_out hg hs g1) s1 _ fun vs G2 H2 g2 s2 r2 => q (v :: vs) G2 H2 (g1.trans g2) s2 (.cons (m0 _ _ _ g2.gg r1) r2)⟩
theorem es_tupA {t : TA} {Rs : List VP} (h : EvAS t σ G src n m Rs) (hz : Rs.length ≤ 1000) : EvS (tTup t) σ G src n m (fun v G' => ∃ xs, tpV K xs v G' ∧ All2 Rs xs G') := fun H e hg hs Q q =>
  h.2 H e hg hs _ fun vs G1 H1 g1 s1 r1 => ⟨Nat.le_of_lt (small1000 (by rw [all2_len r1]; exact hz)), fun p hp => by
    have gn : Gw [src] G1 H1 (upd G1 p (.tup vs)) (upd H1 p (.tup vs)) := Gw.new g1.gh hp
    refine q (.ref p) _ _ (g1.trans gn) (s1.hh fun o z => ?_) ⟨vs, ⟨p, rfl, SqT.of upd_same⟩, r1.mono gn.gg h.1⟩
    rw [upd_ne (fun z' => by rw [z', hp] at z; cases z)]
    exact z⟩
/-- [e for k in range(c)], figures drawn: a new list of windows -/
theorem es_lcR {f : Int × Int × Int × Int → PyData} {c cnt : Nat} {vs : List Nat} {okP : Int × Int × Int × Int → Prop} (hc : c ≤ 100) (hw : ∀ x, wipe ((wipe σ vs).set j (some x)) vs = wipe σ vs)
    (he : ∀ (i : Nat) (x : V) G1, i < c → Same G G1 → G1 src = none → EvS te ((wipe σ vs).set j (some x)) G1 src (n + i * cnt) (n + i * cnt + cnt) (fun v G' => ∃ p, okP p ∧ Dp K G' v (f p))) :
    EvS (tLc (iRng1 (tCons (tC (.int (c : Nat))) tNil)) (gName j) tYes te vs) σ G src n (n + c * cnt) (fun v G' => ∃ ps : List (Int × Int × Int × Int), ps.length = c ∧ (∀ p ∈ ps, okP p) ∧ isDL K (ps.map f) v G') := fun H e hg hs Q q =>
  ⟨(c : Nat), rfl, by omega, by omega, fun D hHD => by
  have hDs : D ≠ src := src_ne hs hHD
  have hgD : G D = none := e.free hHD
  have g0 : Gw [src] G H G (upd H D (.lst [])) := (Gw.refl e).alter hHD hgD
  refine lc_it (walk_range (lo := 0) (n := c)) (fun i H2 => ∃ (G' : Hp) (ps : List (Int × Int × Int × Int)) (ys : List V), ps.length = i ∧ Gw [src] G H G' H2 ∧ G' src = none ∧ G' D = none ∧ H2 D = some (.lst ys) ∧ DpAll K G' ys (ps.map f) ∧ Src src (n + i * cnt) H2 ∧ ∀ p ∈ ps, okP p)
    ⟨G, [], [], rfl, g0, hg, hgD, upd_same, .nil, by rw [Nat.zero_mul]; exact hs.alter hDs, (fun p h => (by cases h))⟩
    (fun i H2 _ _ => trivial) ?_ (fun H2 ⟨G', ps, ys, hol, gw, _, hgD', hHD2, hd, hs2, hok⟩ => ?_)
  · rintro i x H2 H3 hi ⟨G', ps, ys, hol, gw, hgs, hgD', hHD2, hd, hs2, hok⟩ ⟨rfl, rfl⟩
    refine ⟨hw _, ?_⟩
    dsimp only [tYes]
    rw [if_pos rfl]
    refine he i _ G' hi gw.gg hgs _ gw.gh hgs hs2 _ fun v G4 H4 g4 s4 ⟨p, hp, hdp⟩ => ?_
    have hD4 : H4 D = some (.lst ys) := g4.hh _ _ hHD2 (by simpa using hDs)
    have hgs4 := src_out hgs hs2 g4
    have hgD4 : G4 D = none := g4.out hgD' hHD2
    refine ⟨ys, hD4, small1000 (by rw [dpall_len hd, List.length_map]; omega), G4, ps ++ [p], ys ++ [v], by rw [List.length_append, hol]; rfl, (gw.trans g4).alter hHD hgD4, hgs4, hgD4, upd_same, ?_, ?_, ?_⟩
    · rw [List.map_append]
      exact dpall_app (dpall_mono g4.gg _ _ hd) (.cons hdp .nil)
    · rw [Nat.add_mul, Nat.one_mul, ← Nat.add_assoc]
      exact s4.alter hDs
    · intro r hr
      rcases List.mem_append.mp hr with z | z
      · exact hok r z
      · rw [List.mem_singleton.mp z]; exact hp
  · have gF := gw.fixN hHD hgD' hHD2
    exact q (.ref D) _ H2 gF hs2 ⟨ps, hol, hok, D, ys, rfl, upd_same, dpall_mono (same_new hgD') _ _ hd⟩⟩
/-- a fresh list + a drawn fresh list -/
theorem es_cat {f : Int × Int × Int × Int → PyData} {ws : List (Int × Int × Int × Int)} {P : List (Int × Int × Int × Int) → Prop} (ha : EvR ta σ G (isDL K (ws.map f))) (hb : EvS tb σ G src n m (fun v G' => ∃ ps, P ps ∧ isDL K (ps.map f) v G')) (hz : ∀ ps, P ps → ws.length + ps.length ≤ 1000) :
    EvS (tOp rCat ta tb) σ G src n m (fun v G' => ∃ ps, P ps ∧ isD K (.list ((ws ++ ps).map f)) v G') := fun H e hg hs Q q =>
  ha H e _ fun x G1 H1 g1 r1 => (hb.mono (fun v G G' u ⟨ps, h1, h2⟩ => ⟨ps, h1, mn_isDL _ _ _ u h2⟩) g1.gg) H1 g1.gh (src_out hg hs g1) (src_on hs g1) _ fun y G2 H2 g2 s2 ⟨ps, hp, r2⟩ => by
    obtain ⟨a, xs, rfl, h1, h2⟩ := mn_isDL _ _ _ g2.gg r1
    obtain ⟨b, ys, rfl, h3, h4⟩ := r2
    refine ⟨a, b, xs, ys, rfl, rfl, g2.gh _ _ h1, g2.gh _ _ h3, Nat.le_of_lt (small1000 (by rw [dpall_len h2, dpall_len h4, List.length_map, List.length_map]; exact hz ps hp)), fun p hpn => ?_⟩
    have gn : Gw [src] G2 H2 (upd G2 p (.lst (xs ++ ys))) (upd H2 p (.lst (xs ++ ys))) := Gw.new g2.gh hpn
    refine q (.ref p) _ _ ((g1.weak.trans g2).trans gn) (s2.hh fun o z => ?_) ⟨ps, hp, .lst (SqL.of upd_same) ?_⟩
    · rw [upd_ne (fun z' => by rw [z', hpn] at z; cases z)]
      exact z
    · rw [List.map_append]
      exact dpall_mono gn.gg _ _ (dpall_app h2 h4)
/-- for x in a drawn list -/
theorem q_forLS {α : Type} {F : α → List PyData} {P : α → Prop} (e : Same G H) (hg : G src = none) (hs : Src src n H) (h : EvS tl σ G src n m (fun v G' => ∃ x, P x ∧ isD K (.list (F x)) v G'))
    (k : ∀ x Gb Hb, P x → Gw [src] G H Gb Hb → Gb src = none → Src src m Hb → ∃ I : Nat → L2.St → Hp → Hp → Prop, I 0 σ Gb Hb ∧
      (∀ i y d σ' G' H', (F x)[i]? = some d → Same Gb G' → Same G' H' → Dp K G' y d → I i σ' G' H' → g y σ' H' fun σ2 H2 => tu (LpOk { D with nx := tz D } Gb I i) σ2 H2) ∧
      (∀ σ' G' H', Same Gb G' → Same G' H' → I (F x).length σ' G' H' → tz D σ' H')) : tSeq (tFor (iList K tl) g tu) tz D σ H := h H e hg hs _ fun v G1 H1 g1 s1 ⟨x, hp, r1⟩ => by
  cases r1 with
  | @lst a xs _ hxs hd =>
  obtain ⟨I, h0, h1, h2⟩ := k x G1 H1 hp g1 (src_out hg hs g1) s1
  refine ⟨a, rfl, ⟨xs, g1.gh.seq hxs⟩, s_wk (D := { D with nx := tz D }) (walk_list (K := K) (a := a) (xs := xs)) I h0 g1.gh (fun H2 e2 => e2.seq hxs) ?_ (by rw [dpall_len hd]; exact h2)⟩
  rintro i y σ' G' H' H'' hi a1 a2 hI ⟨rfl, hx⟩
  obtain ⟨d, hd1, hd2⟩ := dpall_of hd hx
  exact h1 i y d σ' G' _ hd1 a1 a2 (dpm a1 hd2) hI
end
section
variable {K : PySem.W.Frag} {σ : L2.St} {G : Hp} {ta tm : TE} {src : Addr} {n ix : Nat} {E : XK}
/-- between lo and hi -/
def btw (lo hi : Int) : VP := fun v _ => ∃ a : Int, v = .int a ∧ lo ≤ a ∧ a < hi
theorem mn_btw {lo hi : Int} : Mn (btw lo hi) := fun _ _ _ _ h => h
/-- i + a figure -/
theorem es_upto {i many : Int} (h : EvR ta σ G (isD K (.int i))) (hs : σ[ix]? = some (some (.ref src))) (h0 : 0 < many) (h1 : many < 1000000) (hn : n ≤ 5000) : EvS (tOp (rI0 fun i j => .int (i + j)) ta (tCall spNext [] E (tCons (tVar ix) (tCons (tC (.int many)) tNil)))) σ G src n (n + 1) (btw i (i + many)) :=
  (es_add (P := fun r => 0 ≤ r ∧ r < many) h (es_next (K := K) hs ev_int h0 h1 hn)).imp fun v G' _ ⟨r, hv, hp⟩ => ⟨i + r, hv, by omega, by omega⟩
/-- i + a figure - c -/
theorem es_near {i many c : Int} (h : EvR ta σ G (isD K (.int i))) (hs : σ[ix]? = some (some (.ref src))) (h0 : 0 < many) (h1 : many < 1000000) (hn : n ≤ 5000) : EvS (tOp (rI0 fun i j => .int (i - j)) (tOp (rI0 fun i j => .int (i + j)) ta (tCall spNext [] E (tCons (tVar ix) (tCons (tC (.int many)) tNil)))) (tC (.int c))) σ G src n (n + 1) (btw (i - c) (i + many - c)) :=
  (es_subc (c := c) (P := fun r => i ≤ r ∧ r < i + many) ((es_upto h hs h0 h1 hn).imp fun v G' _ ⟨a, hv, h1, h2⟩ => ⟨a, hv, h1, h2⟩)).imp fun v G' _ ⟨r, hv, hp⟩ => ⟨r - c, hv, by omega, by omega⟩
end
theorem same_put {G H : Hp} {a : Addr} {u : HO} (e : Same G H) (ha : G a = none) : Same G (upd H a u) := fun b o q => by
  rw [upd_ne (fun z => by rw [z, ha] at q; cases q)]
  exact e b o q
theorem ne_src {G : Hp} {src a : Addr} {o : HO} (hs : G src = none) (ha : G a = some o) : a ≠ src := fun z => by
  rw [z, hs] at ha
  cases ha
theorem lst_put {H : Hp} {a l : Addr} {xs ys : List V} (h : H l = some (.lst xs)) : ∃ zs, (upd H a (.lst ys)) l = some (.lst zs) := by
  by_cases z : l = a
  · subst z; exact ⟨ys, upd_same⟩
  · exact ⟨xs, by rw [upd_ne z]; exact h⟩
theorem ev_callN {σ : L2.St} {G : Hp} {t : TA} {E : XK} {α : Type} {Ps : α → List VP} {pre : α → Prop} {Rr : α → VP} (x : α) (ha : EvA t σ G (Ps x)) (hp : pre x) : EvR (tCall (spN Ps pre Rr) [] E t) σ G (Rr x) := fun H e Q q =>
  ha.2 H e _ fun vs G1 H1 g1 r1 => ⟨x, G1, g1.gh, by rw [List.append_nil]; exact r1, hp, fun v G2 H2 g2 r _ => q v G2 H2 (g1.trans g2) r⟩
theorem q_bmCall {K : PySem.W.Frag} {σ : L2.St} {H : Hp} {sp : Sp} {dvs : List V} {E : XK} {t ta : TA} {tz : TS} {D : Ends} {r : V → List V → Hp → VK → Prop} (h : t σ H fun vs H1 => sp (vs ++ dvs) H1 (fun x H2 => tyV K "list" x H2 ∧ ta σ H2 fun xs H3 => r x xs H3 fun _ H' => tz D σ H') E) : tSeq (tDrop (tBM K "list" r (tCall sp dvs E t) ta)) tz D σ H := h
end Sky

namespace Sky
open PySem PySem.Spec PyProof.Rows L2
theorem kit_self {K : PySem.W.Frag} {C : Addr} : PySem.W.kitOne K (.ref C) (.ref C) = some true := by
  unfold PySem.W.kitOne
  exact if_pos (by simp)
end Sky
namespace Sky
open PySem PySem.Spec PyProof.Rows L2
def topS (i : Nat) : Stmt := PySem.Challenge.pw_skystrips_k81_the_joined_picture.main.body.getD i (.Pass ⟨0, 0, 0, 0⟩)
abbrev s_is_whole : Stmt := topS 10
theorem sc_is_whole : FnScope ["thing"] ["thing"] (defScope s_is_whole) := ⟨rfl, rfl, rfl, by decide +kernel, rfl, by decide +kernel, by decide +kernel⟩
abbrev s_is_spot : Stmt := topS 11
theorem sc_is_spot : FnScope ["thing"] ["thing"] (defScope s_is_spot) := ⟨rfl, rfl, rfl, by decide +kernel, rfl, by decide +kernel, by decide +kernel⟩
abbrev s_are_readings : Stmt := topS 14
theorem sc_are_readings : FnScope ["thing", "row", "one"] ["thing"] (defScope s_are_readings) := ⟨rfl, rfl, rfl, by decide +kernel, rfl, by decide +kernel, by decide +kernel⟩
abbrev s_Strip___init : Stmt := inClass (topS 15) 0
theorem sc_Strip___init : FnScope ["self", "rows", "row"] ["self", "rows"] (defScope s_Strip___init) := ⟨rfl, rfl, rfl, by decide +kernel, rfl, by decide +kernel, by decide +kernel⟩
abbrev s_Strip_shape : Stmt := inClass (topS 15) 2
theorem sc_Strip_shape : FnScope ["self"] ["self"] (defScope s_Strip_shape) := ⟨rfl, rfl, rfl, by decide +kernel, rfl, by decide +kernel, by decide +kernel⟩
abbrev s_Strip_rows : Stmt := inClass (topS 15) 3
theorem sc_Strip_rows : FnScope ["self", "row"] ["self"] (defScope s_Strip_rows) := ⟨rfl, rfl, rfl, by decide +kernel, rfl, by decide +kernel, by decide +kernel⟩
abbrev s_Strip_has_cell : Stmt := inClass (topS 15) 4
theorem sc_Strip_has_cell : FnScope ["self", "cell"] ["self", "cell"] (defScope s_Strip_has_cell) := ⟨rfl, rfl, rfl, by decide +kernel, rfl, by decide +kernel, by decide +kernel⟩
abbrev s_Strip_reading : Stmt := inClass (topS 15) 5
theorem sc_Strip_reading : FnScope ["self", "cell"] ["self", "cell"] (defScope s_Strip_reading) := ⟨rfl, rfl, rfl, by decide +kernel, rfl, by decide +kernel, by decide +kernel⟩
abbrev s_is_range : Stmt := topS 21
theorem sc_is_range : FnScope ["thing", "one"] ["thing"] (defScope s_is_range) := ⟨rfl, rfl, rfl, by decide +kernel, rfl, by decide +kernel, by decide +kernel⟩
abbrev s_is_datum : Stmt := topS 22
theorem sc_is_datum : FnScope ["thing"] ["thing"] (defScope s_is_datum) := ⟨rfl, rfl, rfl, by decide +kernel, rfl, by decide +kernel, by decide +kernel⟩
abbrev s_check_part : Stmt := topS 23
theorem sc_check_part : FnScope ["part", "thing", "least", "most", "is_one", "at", "one"] ["part", "thing", "least", "most", "is_one"] (defScope s_check_part) := ⟨rfl, rfl, rfl, by decide +kernel, rfl, by decide +kernel, by decide +kernel⟩
abbrev s_is_strip : Stmt := topS 24
theorem sc_is_strip : FnScope ["thing"] ["thing"] (defScope s_is_strip) := ⟨rfl, rfl, rfl, by decide +kernel, rfl, by decide +kernel, by decide +kernel⟩
abbrev s_Levels___init : Stmt := inClass (topS 25) 0
theorem sc_Levels___init : FnScope ["self", "strips", "offsets", "noise", "biases", "datums", "found", "k", "cell", "spot", "one", "datum"] ["self", "strips", "offsets", "noise", "biases", "datums"] (defScope s_Levels___init) := ⟨rfl, rfl, rfl, by decide +kernel, rfl, by decide +kernel, by decide +kernel⟩
abbrev s_Levels_all_readings : Stmt := inClass (topS 25) 2
theorem sc_Levels_all_readings : FnScope ["self", "found", "k", "strip", "r", "row", "c", "one"] ["self"] (defScope s_Levels_all_readings) := ⟨rfl, rfl, rfl, by decide +kernel, rfl, by decide +kernel, by decide +kernel⟩
abbrev s_Levels_strips : Stmt := inClass (topS 25) 3
theorem sc_Levels_strips : FnScope ["self"] ["self"] (defScope s_Levels_strips) := ⟨rfl, rfl, rfl, by decide +kernel, rfl, by decide +kernel, by decide +kernel⟩
abbrev s_Levels_offsets : Stmt := inClass (topS 25) 4
theorem sc_Levels_offsets : FnScope ["self"] ["self"] (defScope s_Levels_offsets) := ⟨rfl, rfl, rfl, by decide +kernel, rfl, by decide +kernel, by decide +kernel⟩
abbrev s_check_spot : Stmt := topS 26
theorem sc_check_spot : FnScope ["thing"] ["thing"] (defScope s_check_spot) := ⟨rfl, rfl, rfl, by decide +kernel, rfl, by decide +kernel, by decide +kernel⟩
abbrev s_check_window : Stmt := topS 29
theorem sc_check_window : FnScope ["window", "low_row", "high_row", "low_column", "high_column", "one"] ["window"] (defScope s_check_window) := ⟨rfl, rfl, rfl, by decide +kernel, rfl, by decide +kernel, by decide +kernel⟩
abbrev s_seen_at : Stmt := topS 30
theorem sc_seen_at : FnScope ["levels", "spot", "found", "k", "strip", "offset", "cell"] ["levels", "spot"] (defScope s_seen_at) := ⟨rfl, rfl, rfl, by decide +kernel, rfl, by decide +kernel, by decide +kernel⟩
abbrev s_rim_of : Stmt := topS 31
theorem sc_rim_of : FnScope ["strip", "cell", "rows", "columns"] ["strip", "cell"] (defScope s_rim_of) := ⟨rfl, rfl, rfl, by decide +kernel, rfl, by decide +kernel, by decide +kernel⟩
abbrev s_taken_at : Stmt := topS 32
theorem sc_taken_at : FnScope ["levels", "spot", "strips", "found", "best", "k", "cell", "one", "rim"] ["levels", "spot"] (defScope s_taken_at) := ⟨rfl, rfl, rfl, by decide +kernel, rfl, by decide +kernel, by decide +kernel⟩
abbrev s_picture : Stmt := topS 33
theorem sc_picture : FnScope ["levels", "window", "low_row", "high_row", "low_column", "high_column", "found", "row", "column"] ["levels", "window"] (defScope s_picture) := ⟨rfl, rfl, rfl, by decide +kernel, rfl, by decide +kernel, by decide +kernel⟩
abbrev s_law_source_of : Stmt := topS 35
theorem sc_law_source_of : FnScope ["_law_cell"] ["_law_cell"] (defScope s_law_source_of) := ⟨rfl, rfl, rfl, by decide +kernel, rfl, by decide +kernel, by decide +kernel⟩
abbrev s_law_next : Stmt := topS 36
theorem sc_law_next : FnScope ["_law_source", "_law_many", "_law_found", "_law_prime", "_law_figure"] ["_law_source", "_law_many"] (defScope s_law_next) := ⟨rfl, rfl, rfl, by decide +kernel, rfl, by decide +kernel, by decide +kernel⟩
abbrev s_law_one : Stmt := topS 37
theorem sc_law_one : FnScope ["_law_source", "_law_some"] ["_law_source", "_law_some"] (defScope s_law_one) := ⟨rfl, rfl, rfl, by decide +kernel, rfl, by decide +kernel, by decide +kernel⟩
abbrev s_law_cell_at : Stmt := topS 38
theorem sc_law_cell_at : FnScope ["_law_script", "_law_k"] ["_law_script", "_law_k"] (defScope s_law_cell_at) := ⟨rfl, rfl, rfl, by decide +kernel, rfl, by decide +kernel, by decide +kernel⟩
abbrev s_law_levels : Stmt := topS 39
theorem sc_law_levels : FnScope ["_law_world", "_law_rows", "_law_offsets", "_law_noise", "_law_ranges", "_law_datums", "_law_strips", "_law_row", "_law_one_here"] ["_law_world"] (defScope s_law_levels) := ⟨rfl, rfl, rfl, by decide +kernel, rfl, by decide +kernel, by decide +kernel⟩
abbrev s_law_wide : Stmt := topS 40
theorem sc_law_wide : FnScope ["_law_source", "_law_rows", "_law_k", "_law_high", "_law_wide_here", "_law_base", "_law_offsets", "_law_seen", "_law_one_here", "_law_offset", "_law_r", "_law_row", "_law_c", "_law_worth", "_law_spot"] ["_law_source"] (defScope s_law_wide) := ⟨rfl, rfl, rfl, by decide +kernel, rfl, by decide +kernel, by decide +kernel⟩
abbrev s_law_rim : Stmt := topS 41
theorem sc_law_rim : FnScope ["_law_rows", "_law_cell"] ["_law_rows", "_law_cell"] (defScope s_law_rim) := ⟨rfl, rfl, rfl, by decide +kernel, rfl, by decide +kernel, by decide +kernel⟩
abbrev s_law_cells : Stmt := topS 42
theorem sc_law_cells : FnScope ["_law_world", "_law_spot", "_law_found", "_law_k", "_law_rows", "_law_offset", "_law_cell"] ["_law_world", "_law_spot"] (defScope s_law_cells) := ⟨rfl, rfl, rfl, by decide +kernel, rfl, by decide +kernel, by decide +kernel⟩
abbrev s_law_taken : Stmt := topS 43
theorem sc_law_taken : FnScope ["_law_world", "_law_spot", "_law_some", "_law_k", "_law_cell", "_law_one_here"] ["_law_world", "_law_spot"] (defScope s_law_taken) := ⟨rfl, rfl, rfl, by decide +kernel, rfl, by decide +kernel, by decide +kernel⟩
abbrev s_law_window : Stmt := topS 44
theorem sc_law_window : FnScope ["_law_source", "_law_base", "_law_low_row", "_law_low_column"] ["_law_source", "_law_base"] (defScope s_law_window) := ⟨rfl, rfl, rfl, by decide +kernel, rfl, by decide +kernel, by decide +kernel⟩
abbrev s_law_joined : Stmt := topS 45
theorem sc_law_joined : FnScope ["_law_world", "_law_window_here", "_law_found", "_law_row", "_law_column"] ["_law_world", "_law_window_here"] (defScope s_law_joined) := ⟨rfl, rfl, rfl, by decide +kernel, rfl, by decide +kernel, by decide +kernel⟩
abbrev s_law : Stmt := topS 46
theorem sc_law : FnScope ["_law_script", "_law_cell", "_law_source", "_law_world", "_law_levels_here", "_law_row", "_law_column", "_law_far", "_law_windows", "_law_window_here", "_law_turn", "_law_found", "_law_k", "_law_spot"] ["_law_script"] (defScope s_law) := ⟨rfl, rfl, rfl, by decide +kernel, rfl, by decide +kernel, by decide +kernel⟩
structure Tp (K : PySem.W.Frag) (mg : Str → Option Value) where
  f_is_whole : Addr
  fd_is_whole : FuncData
  F_is_whole : Fun K "is_whole" "is_whole" s_is_whole f_is_whole fd_is_whole
  b_is_whole : Binds K fd_is_whole ["thing"] []
  g_is_whole : mg "is_whole" = some (.ref f_is_whole)
  f_is_spot : Addr
  fd_is_spot : FuncData
  F_is_spot : Fun K "is_spot" "is_spot" s_is_spot f_is_spot fd_is_spot
  b_is_spot : Binds K fd_is_spot ["thing"] []
  g_is_spot : mg "is_spot" = some (.ref f_is_spot)
  f_are_readings : Addr
  fd_are_readings : FuncData
  F_are_readings : Fun K "are_readings" "are_readings" s_are_readings f_are_readings fd_are_readings
  b_are_readings : Binds K fd_are_readings ["thing"] []
  g_are_readings : mg "are_readings" = some (.ref f_are_readings)
  f_Strip___init : Addr
  fd_Strip___init : FuncData
  F_Strip___init : Fun K "__init__" "Strip.__init__" s_Strip___init f_Strip___init fd_Strip___init
  b_Strip___init : Binds K fd_Strip___init ["self", "rows"] []
  f_Strip_shape : Addr
  fd_Strip_shape : FuncData
  F_Strip_shape : Fun K "shape" "Strip.shape" s_Strip_shape f_Strip_shape fd_Strip_shape
  b_Strip_shape : Binds K fd_Strip_shape ["self"] []
  f_Strip_rows : Addr
  fd_Strip_rows : FuncData
  F_Strip_rows : Fun K "rows" "Strip.rows" s_Strip_rows f_Strip_rows fd_Strip_rows
  b_Strip_rows : Binds K fd_Strip_rows ["self"] []
  f_Strip_has_cell : Addr
  fd_Strip_has_cell : FuncData
  F_Strip_has_cell : Fun K "has_cell" "Strip.has_cell" s_Strip_has_cell f_Strip_has_cell fd_Strip_has_cell
  b_Strip_has_cell : Binds K fd_Strip_has_cell ["self", "cell"] []
  f_Strip_reading : Addr
  fd_Strip_reading : FuncData
  F_Strip_reading : Fun K "reading" "Strip.reading" s_Strip_reading f_Strip_reading fd_Strip_reading
  b_Strip_reading : Binds K fd_Strip_reading ["self", "cell"] []
  f_is_range : Addr
  fd_is_range : FuncData
  F_is_range : Fun K "is_range" "is_range" s_is_range f_is_range fd_is_range
  b_is_range : Binds K fd_is_range ["thing"] []
  g_is_range : mg "is_range" = some (.ref f_is_range)
  f_is_datum : Addr
  fd_is_datum : FuncData
  F_is_datum : Fun K "is_datum" "is_datum" s_is_datum f_is_datum fd_is_datum
  b_is_datum : Binds K fd_is_datum ["thing"] []
  g_is_datum : mg "is_datum" = some (.ref f_is_datum)
  f_check_part : Addr
  fd_check_part : FuncData
  F_check_part : Fun K "check_part" "check_part" s_check_part f_check_part fd_check_part
  b_check_part : Binds K fd_check_part ["part", "thing", "least", "most", "is_one"] []
  g_check_part : mg "check_part" = some (.ref f_check_part)
  f_is_strip : Addr
  fd_is_strip : FuncData
  F_is_strip : Fun K "is_strip" "is_strip" s_is_strip f_is_strip fd_is_strip
  b_is_strip : Binds K fd_is_strip ["thing"] []
  g_is_strip : mg "is_strip" = some (.ref f_is_strip)
  f_Levels___init : Addr
  fd_Levels___init : FuncData
  F_Levels___init : Fun K "__init__" "Levels.__init__" s_Levels___init f_Levels___init fd_Levels___init
  b_Levels___init : Binds K fd_Levels___init ["self", "strips", "offsets", "noise", "biases", "datums"] []
  f_Levels_all_readings : Addr
  fd_Levels_all_readings : FuncData
  F_Levels_all_readings : Fun K "all_readings" "Levels.all_readings" s_Levels_all_readings f_Levels_all_readings fd_Levels_all_readings
  b_Levels_all_readings : Binds K fd_Levels_all_readings ["self"] []
  f_Levels_strips : Addr
  fd_Levels_strips : FuncData
  F_Levels_strips : Fun K "strips" "Levels.strips" s_Levels_strips f_Levels_strips fd_Levels_strips
  b_Levels_strips : Binds K fd_Levels_strips ["self"] []
  f_Levels_offsets : Addr
  fd_Levels_offsets : FuncData
  F_Levels_offsets : Fun K "offsets" "Levels.offsets" s_Levels_offsets f_Levels_offsets fd_Levels_offsets
  b_Levels_offsets : Binds K fd_Levels_offsets ["self"] []
  f_check_spot : Addr
  fd_check_spot : FuncData
  F_check_spot : Fun K "check_spot" "check_spot" s_check_spot f_check_spot fd_check_spot
  b_check_spot : Binds K fd_check_spot ["thing"] []
  g_check_spot : mg "check_spot" = some (.ref f_check_spot)
  f_check_window : Addr
  fd_check_window : FuncData
  F_check_window : Fun K "check_window" "check_window" s_check_window f_check_window fd_check_window
  b_check_window : Binds K fd_check_window ["window"] []
  g_check_window : mg "check_window" = some (.ref f_check_window)
  f_seen_at : Addr
  fd_seen_at : FuncData
  F_seen_at : Fun K "seen_at" "seen_at" s_seen_at f_seen_at fd_seen_at
  b_seen_at : Binds K fd_seen_at ["levels", "spot"] []
  g_seen_at : mg "seen_at" = some (.ref f_seen_at)
  f_rim_of : Addr
  fd_rim_of : FuncData
  F_rim_of : Fun K "rim_of" "rim_of" s_rim_of f_rim_of fd_rim_of
  b_rim_of : Binds K fd_rim_of ["strip", "cell"] []
  g_rim_of : mg "rim_of" = some (.ref f_rim_of)
  f_taken_at : Addr
  fd_taken_at : FuncData
  F_taken_at : Fun K "taken_at" "taken_at" s_taken_at f_taken_at fd_taken_at
  b_taken_at : Binds K fd_taken_at ["levels", "spot"] []
  g_taken_at : mg "taken_at" = some (.ref f_taken_at)
  f_picture : Addr
  fd_picture : FuncData
  F_picture : Fun K "picture" "picture" s_picture f_picture fd_picture
  b_picture : Binds K fd_picture ["levels", "window"] []
  g_picture : mg "picture" = some (.ref f_picture)
  f_law_source_of : Addr
  fd_law_source_of : FuncData
  F_law_source_of : Fun K "_law_source_of" "_law_source_of" s_law_source_of f_law_source_of fd_law_source_of
  b_law_source_of : Binds K fd_law_source_of ["_law_cell"] []
  g_law_source_of : mg "_law_source_of" = some (.ref f_law_source_of)
  f_law_next : Addr
  fd_law_next : FuncData
  F_law_next : Fun K "_law_next" "_law_next" s_law_next f_law_next fd_law_next
  b_law_next : Binds K fd_law_next ["_law_source", "_law_many"] []
  g_law_next : mg "_law_next" = some (.ref f_law_next)
  f_law_one : Addr
  fd_law_one : FuncData
  F_law_one : Fun K "_law_one" "_law_one" s_law_one f_law_one fd_law_one
  b_law_one : Binds K fd_law_one ["_law_source", "_law_some"] []
  g_law_one : mg "_law_one" = some (.ref f_law_one)
  f_law_cell_at : Addr
  fd_law_cell_at : FuncData
  F_law_cell_at : Fun K "_law_cell_at" "_law_cell_at" s_law_cell_at f_law_cell_at fd_law_cell_at
  b_law_cell_at : Binds K fd_law_cell_at ["_law_script", "_law_k"] []
  g_law_cell_at : mg "_law_cell_at" = some (.ref f_law_cell_at)
  f_law_levels : Addr
  fd_law_levels : FuncData
  F_law_levels : Fun K "_law_levels" "_law_levels" s_law_levels f_law_levels fd_law_levels
  b_law_levels : Binds K fd_law_levels ["_law_world"] []
  g_law_levels : mg "_law_levels" = some (.ref f_law_levels)
  f_law_wide : Addr
  fd_law_wide : FuncData
  F_law_wide : Fun K "_law_wide" "_law_wide" s_law_wide f_law_wide fd_law_wide
  b_law_wide : Binds K fd_law_wide ["_law_source"] []
  g_law_wide : mg "_law_wide" = some (.ref f_law_wide)
  f_law_rim : Addr
  fd_law_rim : FuncData
  F_law_rim : Fun K "_law_rim" "_law_rim" s_law_rim f_law_rim fd_law_rim
  b_law_rim : Binds K fd_law_rim ["_law_rows", "_law_cell"] []
  g_law_rim : mg "_law_rim" = some (.ref f_law_rim)
  f_law_cells : Addr
  fd_law_cells : FuncData
  F_law_cells : Fun K "_law_cells" "_law_cells" s_law_cells f_law_cells fd_law_cells
  b_law_cells : Binds K fd_law_cells ["_law_world", "_law_spot"] []
  g_law_cells : mg "_law_cells" = some (.ref f_law_cells)
  f_law_taken : Addr
  fd_law_taken : FuncData
  F_law_taken : Fun K "_law_taken" "_law_taken" s_law_taken f_law_taken fd_law_taken
  b_law_taken : Binds K fd_law_taken ["_law_world", "_law_spot"] []
  g_law_taken : mg "_law_taken" = some (.ref f_law_taken)
  f_law_window : Addr
  fd_law_window : FuncData
  F_law_window : Fun K "_law_window" "_law_window" s_law_window f_law_window fd_law_window
  b_law_window : Binds K fd_law_window ["_law_source", "_law_base"] []
  g_law_window : mg "_law_window" = some (.ref f_law_window)
  f_law_joined : Addr
  fd_law_joined : FuncData
  F_law_joined : Fun K "_law_joined" "_law_joined" s_law_joined f_law_joined fd_law_joined
  b_law_joined : Binds K fd_law_joined ["_law_world", "_law_window_here"] []
  g_law_joined : mg "_law_joined" = some (.ref f_law_joined)
  f_law : Addr
  fd_law : FuncData
  F_law : Fun K "law" "law" s_law f_law fd_law
  b_law : Binds K fd_law ["_law_script"] []
  g_law : mg "law" = some (.ref f_law)
  C_Strip : Addr
  g_Strip : mg "Strip" = some (.ref C_Strip)
  cl_Strip : Cls K C_Strip
  ic_Strip : C8.InsC K C_Strip
  mk_Strip : Mk K C_Strip f_Strip___init
  n_Strip_lines : NoAttr K C_Strip "lines"
  m_Strip_shape : Meth K C_Strip "shape" f_Strip_shape
  m_Strip_rows : Meth K C_Strip "rows" f_Strip_rows
  m_Strip_has_cell : Meth K C_Strip "has_cell" f_Strip_has_cell
  m_Strip_reading : Meth K C_Strip "reading" f_Strip_reading
  C_Levels : Addr
  g_Levels : mg "Levels" = some (.ref C_Levels)
  cl_Levels : Cls K C_Levels
  ic_Levels : C8.InsC K C_Levels
  mk_Levels : Mk K C_Levels f_Levels___init
  n_Levels_laid : NoAttr K C_Levels "laid"
  n_Levels_lies : NoAttr K C_Levels "lies"
  n_Levels_spread : NoAttr K C_Levels "spread"
  n_Levels_ranges : NoAttr K C_Levels "ranges"
  n_Levels_known : NoAttr K C_Levels "known"
  n_Levels_readings : NoAttr K C_Levels "readings"
  n_Levels_seen : NoAttr K C_Levels "seen"
  m_Levels_all_readings : Meth K C_Levels "all_readings" f_Levels_all_readings
  m_Levels_strips : Meth K C_Levels "strips" f_Levels_strips
  m_Levels_offsets : Meth K C_Levels "offsets" f_Levels_offsets
  t_MOST_PLACES : Tok
  g_MOST_PLACES : mg "MOST_PLACES" = some (.int 12 t_MOST_PLACES)
  t_MOST_STRIPS : Tok
  g_MOST_STRIPS : mg "MOST_STRIPS" = some (.int 8 t_MOST_STRIPS)
  t_MOST_DATUMS : Tok
  g_MOST_DATUMS : mg "MOST_DATUMS" = some (.int 40 t_MOST_DATUMS)
  t_MOST_SPOTS_levels : Tok
  g_MOST_SPOTS_levels : mg "MOST_SPOTS_levels" = some (.int 48 t_MOST_SPOTS_levels)
  t_MOST_READINGS : Tok
  g_MOST_READINGS : mg "MOST_READINGS" = some (.int 240 t_MOST_READINGS)
  t_MOST_SPOTS_mosaic : Tok
  g_MOST_SPOTS_mosaic : mg "MOST_SPOTS_mosaic" = some (.int 144 t_MOST_SPOTS_mosaic)
  z_isinstance : mg "isinstance" = none
  z_int : mg "int" = none
  z_bool : mg "bool" = none
  z_tuple : mg "tuple" = none
  z_list : mg "list" = none
  z_len : mg "len" = none
  z_all : mg "all" = none
  z_range : mg "range" = none
  z_zip : mg "zip" = none
  z_enumerate : mg "enumerate" = none
  z_set : mg "set" = none
  z_sorted : mg "sorted" = none
  z_min : mg "min" = none
local macro_rules | `(tactic| walk_at "mn") => `(tactic| first | assumption | exact mn_isD)
local macro_rules | `(tactic| walk_at "same") => `(tactic| first | assumption | exact fun _ _ h => h | exact Gw.gh (by assumption) | exact Gw.gg (by assumption) | (refine Same.trans (by assumption) ?_; walk_at "same") | (refine Same.trans (Gw.gg (by assumption)) ?_; walk_at "same") | (refine Same.trans (Gw.gh (by assumption)) ?_; walk_at "same"))
local macro_rules | `(tactic| walk_at "up") => `(tactic| first | assumption | (refine' dpm ?e ?h; (case h => assumption); (case e => walk_at "same")) | (refine' vpm ?m ?e ?h; (case h => assumption); (case m => walk_at "mn"); (case e => walk_at "same")) | rfl)
local macro_rules | `(tactic| walk_at "side") => `(tactic| first | assumption | (with_unfolding_all rfl) | omega | (with_unfolding_all decide) | (simp only [List.length_cons, List.length_nil, List.length_map]; omega))
local macro_rules | `(tactic| walk_at "ev") => `(tactic| with_reducible first
  | assumption
  | refine' ev_int | refine' ev_bl | refine' ev_non | refine' ev_str | refine' ea_nil | refine' ed_nil | refine' et_yes | refine' eo_none
  | (refine' ev_varD ?a ?b; (case a => with_unfolding_all rfl); (case b => walk_at "up"))
  | (refine' ev_var ?a ?b; (case a => with_unfolding_all rfl); (case b => walk_at "up"))
  | (refine' ed_cons ?a ?b; (case a => walk_at "ev"); (case b => walk_at "ev"))
  | (refine' eo_some ?a; (case a => walk_at "ev"))
  | (refine' ev_add ?a ?b; (case a => walk_at "ev"); (case b => walk_at "ev"))
  | (refine' ev_sub ?a ?b; (case a => walk_at "ev"); (case b => walk_at "ev"))
  | (refine' ev_lt ?a ?b; (case a => walk_at "ev"); (case b => walk_at "ev"))
  | (refine' ev_le ?a ?b; (case a => walk_at "ev"); (case b => walk_at "ev"))
  | (refine' ev_gt ?a ?b; (case a => walk_at "ev"); (case b => walk_at "ev"))
  | (refine' ev_ge ?a ?b; (case a => walk_at "ev"); (case b => walk_at "ev"))
  | (refine' ev_neg ?a; (case a => walk_at "ev"))
  | (refine' ev_eqI ?a ?b; (case a => walk_at "ev"); (case b => walk_at "ev"))
  | (refine' ev_neI ?a ?b; (case a => walk_at "ev"); (case b => walk_at "ev"))
  | (refine' ev_chI ?a ?b ?c; (case a => walk_at "ev"); (case b => walk_at "ev"); (case c => walk_at "ev"))
  | (refine' ev_isN ?a; (case a => walk_at "ev"))
  | (refine' ev_notN ?a; (case a => walk_at "ev"))
  | (refine' ev_isi ?a ?b; (case a => walk_at "ev"); (case b => first | exact kit_int _ | exact kit_bool _ | exact kit_tuple _ | exact kit_list _))
  | (refine' ev_andV ?a ?b; (case a => walk_at "ev"); (case b => (intro hh; first | (cases hh; done) | walk_at "ev")))
  | (refine' ev_orV ?a ?b; (case a => walk_at "ev"); (case b => (intro hh; first | (cases hh; done) | walk_at "ev")))
  | (refine' ev_notV ?a; (case a => walk_at "ev"))
  | (refine' et_testK ?k ?a; (case k => assumption); (case a => walk_at "ev"))
  | (refine' et_BK ?k ?a; (case k => assumption); (case a => walk_at "ev"))
  | (refine' et_and ?a ?b; (case a => walk_at "ev"); (case b => (intro hh; first | (cases hh; done) | walk_at "ev")))
  | (refine' et_or ?a ?b; (case a => walk_at "ev"); (case b => (intro hh; first | (cases hh; done) | walk_at "ev")))
  | (refine' et_not ?a; (case a => walk_at "ev"))
  | (refine' ev_tup ?a ?b; (case a => walk_at "ev"); (case b => walk_at "side"))
  | (refine' ev_lst ?a ?b; (case a => walk_at "ev"); (case b => walk_at "side"))
  | (refine' ev_lenL ?a; (case a => walk_at "ev"))
  | (refine' ev_lenT ?a; (case a => walk_at "ev"))
  | (refine' ev_ixL ?h ?a ?b; (case a => walk_at "ev"); (case b => walk_at "ev"); (case h => with_unfolding_all (first | assumption | rfl)))
  | (refine' ev_ixT ?h ?a ?b; (case a => walk_at "ev"); (case b => walk_at "ev"); (case h => with_unfolding_all (first | assumption | rfl)))
  | (refine' ev_listL ?a; (case a => walk_at "ev"))
  | (refine' ev_listT ?a; (case a => walk_at "ev"))
  | (refine' ev_tupleL ?a; (case a => walk_at "ev"))
  | (refine' ev_intI ?a; (case a => walk_at "ev"))
  | (refine' ev_intB ?a; (case a => walk_at "ev"))
  | (refine' ev_all ?a; (case a => walk_at "ev"))
  | (refine' ev_slL ?a ?b ?c; (case a => walk_at "ev"); (case b => walk_at "ev"); (case c => walk_at "ev"))
  | (refine' ev_slT ?a ?b ?c; (case a => walk_at "ev"); (case b => walk_at "ev"); (case c => walk_at "ev"))
  | (refine' ev_callD ?a ?b; (case a => walk_at "ev"); (case b => walk_at "side"))
  | (refine' ev_shape (ev_callD ?a ?b) ?c; (case a => walk_at "ev"); (case b => walk_at "side"); (case c => with_unfolding_all rfl)))
local macro_rules | `(tactic| walk_at "clean") => `(tactic| dsimp only [Cx.nox, Cx.wish, Cx.blk, cxOf])

section
variable {P : Program} {w : World} {K : PySem.W.Frag} {mg : Str → Option Value} {base : Heap}
abbrev sp_is_whole (K : PySem.W.Frag) : Sp := spD K (fun ds => ds.length = 1) (fun ds => .bool (isWhole (ds.getD 0 .none)))
theorem ok_is_whole (T : Tp K mg) : FnOk P w K mg base CX0 1 T.f_is_whole T.fd_is_whole ["thing"] (sp_is_whole K) := by
  refine T.F_is_whole.ok sc_is_whole (fun vs H Q E h => spD_len (fun _ h => h) h) (fun cdv A outer s H vs Q E hr h => ?_)
  obtain ⟨ds, G, e, hd, hl, q⟩ := h
  obtain ⟨d, x, rfl, rfl, hx⟩ := data1 hd hl
  refine ⟨_, (pss_one (ps_ret (pe_and (pe_callB (kisi (K := K) rfl) (by rfl) T.z_isinstance (by decide +kernel) (pa_cons (pv 0) (pa_cons (pe_bltn (v := .ty "int") rfl T.z_int (by decide +kernel) rfl) pa_nil))) (pe_one (pe_not (pe_callB (kisi (K := K) rfl) (by rfl) T.z_isinstance (by decide +kernel) (pa_cons (pv 0) (pa_cons (pe_bltn (v := .ty "bool") rfl T.z_bool (by decide +kernel) rfl) pa_nil)))))))), ?_⟩
  refine s_ret e (by walk_at "ev") fun v G' H' g r => q v G' H' g ?_
  cases d <;> exact r
def isSpot : PyData → Bool
  | .tuple [a, b] => isWhole a && isWhole b
  | _ => false
abbrev sp_is_spot (K : PySem.W.Frag) : Sp := spD K (fun ds => ds.length = 1) (fun ds => .bool (isSpot (ds.getD 0 .none)))
theorem ok_is_spot (T : Tp K mg) : FnOk P w K mg base CX0 2 T.f_is_spot T.fd_is_spot ["thing"] (sp_is_spot K) := by
  have G_is_whole : FnOk P w K mg base CX0 1 T.f_is_whole T.fd_is_whole ["thing"] (sp_is_whole K) := ok_is_whole T
  refine T.F_is_spot.ok sc_is_spot (fun vs H Q E h => spD_len (fun _ h => h) h) (fun cdv A outer s H vs Q E hr h => ?_)
  obtain ⟨ds, G, e, hd, hl, q⟩ := h
  obtain ⟨d, x, rfl, rfl, hx⟩ := data1 hd hl
  refine ⟨_, (pss_one (ps_ret (pe_and (pe_callB (kisi (K := K) rfl) (by rfl) T.z_isinstance (by decide +kernel) (pa_cons (pv 0) (pa_cons (pe_bltn (v := .ty "tuple") rfl T.z_tuple (by decide +kernel) rfl) pa_nil))) (pe_and (pe_cmpR op_eq (pe_callB (klen (K := K) rfl) (by rfl) T.z_len (by decide +kernel) (pa_cons (pv 0) pa_nil)) pe_int (nomark _)) (pe_and (pe_call G_is_whole (hr.mono (by decide)) rfl T.g_is_whole T.F_is_whole.kp T.b_is_whole .nil pass0 (pa_cons (pe_ix (kixT (K := K) rfl) (pv 0) pe_int (fun _ _ => rfl)) pa_nil)) (pe_one (pe_call G_is_whole (hr.mono (by decide)) rfl T.g_is_whole T.F_is_whole.kp T.b_is_whole .nil pass0 (pa_cons (pe_ix (kixT (K := K) rfl) (pv 0) pe_int (fun _ _ => rfl)) pa_nil)))))))), ?_⟩
  by_cases ht : ∃ l, d = .tuple l
  · obtain ⟨l, rfl⟩ := ht
    by_cases h2 : ∃ a b, l = [a, b]
    · obtain ⟨a, b, rfl⟩ := h2
      refine s_ret e (by walk_at "ev") fun v G' H' g r => q v G' H' g ?_
      exact isD_to r (by simp [isTu, isSpot])
    · have hn : decide ((l.length : Int) = 2) = false := by
        apply decide_eq_false
        intro hc
        match l, h2 with
        | [], _ => simp at hc
        | [a], _ => simp at hc
        | [a, b], h2 => exact h2 ⟨a, b, rfl⟩
        | a :: b :: c :: r, _ => simp at hc; omega
      refine s_ret e (ev_andV (by walk_at "ev") fun _ => ev_andV (b := false) (c := false) (ev_shape (by walk_at "ev") (by rw [hn])) (fun z => by cases z)) fun v G' H' g r => q v G' H' g ?_
      have hs : isSpot (.tuple l) = false := by
        match l, h2 with
        | [], _ => rfl
        | [a], _ => rfl
        | [a, b], h2 => exact absurd ⟨a, b, rfl⟩ h2
        | a :: b :: c :: r, _ => rfl
      show Dp K G' v (.bool (isSpot (.tuple l)))
      rw [hs]
      exact isD_to r (by simp)
  · have hb : isTu d = false := by cases d <;> first | rfl | exact absurd ⟨_, rfl⟩ ht
    refine s_ret e (ev_andV (b := false) (c := false) (ev_shape (by walk_at "ev") (by rw [hb])) (fun z => by cases z)) fun v G' H' g r => q v G' H' g ?_
    have hs : isSpot d = false := by cases d <;> first | rfl | exact absurd ⟨_, rfl⟩ ht
    show Dp K G' v (.bool (isSpot d))
    rw [hs]
    exact r
end

section
variable {P : Program} {w : World} {K : PySem.W.Frag} {mg : Str → Option Value} {base : Heap}
/-- are_readings, of right rows -/
abbrev sp_are_readings (K : PySem.W.Frag) : Sp := spP (α := List (List (Option Int)) × Nat) (fun x => [isD K (rowsL x.1)]) (fun x => RowsOk x.1 x.2) (fun _ => isD K (.bool true))
theorem ok_are_readings (T : Tp K mg) : FnOk P w K mg base CX0 3 T.f_are_readings T.fd_are_readings ["thing"] (sp_are_readings K) := by
  have G_is_whole : FnOk P w K mg base CX0 1 T.f_is_whole T.fd_is_whole ["thing"] (sp_is_whole K) := ok_is_whole T
  refine T.F_are_readings.ok sc_are_readings (fun vs H Q E ⟨x, G, e, ha, _⟩ => all2_len ha) (fun cdv A outer s H vs Q E hr h => ?_)
  obtain ⟨⟨rows, wd⟩, G, e, ha, ok, q⟩ := h
  cases ha with
  | @cons _ _ x _ _ hx ha =>
  cases ha
  replace hx : Dp K G x (.list (rows.map fun r => .list (r.map oD))) := hx
  replace ok : RowsOk rows wd := ok
  have hk : KK K := kk
  refine ⟨_, (pss_cons (ps_if (PW.pt (pw_or (pt_not (pt_val (pe_callB (kisi (K := K) rfl) (by rfl) T.z_isinstance (by decide +kernel) (pa_cons (pv 0) (pa_cons (pe_bltn (v := .ty "list") rfl T.z_list (by decide +kernel) rfl) pa_nil))))) (pw_or1 (pt_not (pt_chain op_le op_le pe_int (pe_callB (klen (K := K) rfl) (by rfl) T.z_len (by decide +kernel) (pa_cons (pv 0) pa_nil)) (pe_glob (v := .int 12) rfl T.g_MOST_PLACES ⟨_, rfl⟩))))))
        (pss_one (ps_ret pe_bl))
        pss_nil)
      (pss_cons (ps_for PassesOwn.never rfl (kpiL (K := K) rfl (pv 0)) (pg_name (i := 1) sc_are_readings.nd rfl (by first | exact Or.inl rfl | exact Or.inr rfl))
        (pss_one (ps_if (PW.pt (pw_or (pt_not (pt_val (pe_callB (kisi (K := K) rfl) (by rfl) T.z_isinstance (by decide +kernel) (pa_cons (pv 1) (pa_cons (pe_bltn (v := .ty "list") rfl T.z_list (by decide +kernel) rfl) pa_nil))))) (pw_or (pt_not (pt_chain op_le op_le pe_int (pe_callB (klen (K := K) rfl) (by rfl) T.z_len (by decide +kernel) (pa_cons (pv 1) pa_nil)) (pe_glob (v := .int 12) rfl T.g_MOST_PLACES ⟨_, rfl⟩))) (pw_or1 (pt_cmpR op_ne (pe_callB (klen (K := K) rfl) (by rfl) T.z_len (by decide +kernel) (pa_cons (pv 1) pa_nil)) (pe_callB (klen (K := K) rfl) (by rfl) T.z_len (by decide +kernel) (pa_cons (pe_ix (kixL (K := K) rfl) (pv 0) pe_int (fun _ _ => rfl)) pa_nil)) (nomark _))))))
          (pss_one (ps_ret pe_bl))
          pss_nil)))
      (pss_one (ps_ret (pe_callB (kall (K := K) rfl rfl) (by rfl) T.z_all (by decide +kernel) (pa_cons (pe_lc2 (own := [("row", 1), ("one", 2)]) (vs1 := [2]) rfl sc_are_readings.nd (kpiL (K := K) rfl (pv 0)) (blkOk_by (N := ["thing", "row", "one"]) (sc := defScope s_are_readings) (by decide +kernel)) (by decide) (fun _ _ _ _ _ => (pg_name (i := 1) sc_are_readings.nd rfl (by first | exact Or.inl rfl | exact Or.inr rfl))) (fun _ _ _ _ _ => pts_nil) (fun _ _ _ _ _ => (kpiL (K := K) rfl (pv 1))) (fun _ _ _ _ _ => (pg_name (i := 2) sc_are_readings.nd rfl (by first | exact Or.inl rfl | exact Or.inr rfl))) (fun _ _ _ _ _ => pts_nil) (fun _ _ _ _ _ => (pe_or (pe_cmpR op_isN (pv 2) pe_non (nomark _)) (pe_one (pe_call G_is_whole (hr.mono (by decide)) rfl T.g_is_whole T.F_is_whole.kp T.b_is_whole .nil pass0 (pa_cons (pv 2) pa_nil)))))) pa_nil)))))), ?_⟩
  obtain ⟨r0, hr0, hw0⟩ := ok.zero
  have hl1 : decide ((1 : Int) ≤ (((rows.map fun r => PyData.list (r.map oD)).length : Nat) : Int)) = true := decide_eq_true (by rw [List.length_map]; have := ok.h1; omega)
  have hl2 : decide ((((rows.map fun r => PyData.list (r.map oD)).length : Nat) : Int) ≤ 12) = true := decide_eq_true (by rw [List.length_map]; have := ok.h2; omega)
  refine q_no e (ev_shapeT (by walk_at "ev") (by rw [hl1, hl2]; rfl)) fun G1 H1 g1 => ?_
  refine q_forL (ds := rows.map fun r => PyData.list (r.map oD)) g1.gh (by walk_at "ev") fun Gb Hb gb => ⟨fun _ σ' G' H' => (∃ v, σ' = [some x, v, none]) ∧ Gw [] Gb Hb G' H', ⟨⟨_, rfl⟩, Gw.refl gb.gh⟩, ?_, ?_⟩
  · rintro i y d σ' G' H' hd s1 s2 hy ⟨⟨v, rfl⟩, gi⟩
    rw [List.getElem?_map] at hd
    cases hq : rows[i]? with
    | none => rw [hq] at hd; cases hd
    | some r =>
    rw [hq] at hd
    cases hd
    have hwd : r.length = wd := ok.all r (List.mem_of_getElem? hq)
    have z0 : atI (rows.map fun r => PyData.list (r.map oD)) 0 = some (PyData.list (r0.map oD)) := atI_map _ (atI_nn (Int.le_refl 0) hr0)
    have k1 : decide ((1 : Int) ≤ (((r.map oD).length : Nat) : Int)) = true := decide_eq_true (by rw [List.length_map]; have := ok.w1; omega)
    have k2 : decide ((((r.map oD).length : Nat) : Int) ≤ 12) = true := decide_eq_true (by rw [List.length_map]; have := ok.w2; omega)
    have k3 : decide ((((r.map oD).length : Nat) : Int) = (((r0.map oD).length : Nat) : Int)) = true := decide_eq_true (by rw [List.length_map, List.length_map, hwd, hw0])
    refine s_no s2 (ev_shapeT (by walk_at "ev") (by rw [k1, k2, k3]; rfl)) fun G2 H2 g2 => ?_
    exact ⟨G2, by walk_at "same", g2.gh, ⟨_, rfl⟩, gi.trans g2⟩
  · rintro σ' G' H' s1 s2 ⟨⟨v, rfl⟩, gi⟩
    have f1 : ∀ d : PyData, (∃ o, d = oD o) → (isN d || isWhole d) = true := fun d ⟨o, h⟩ => by subst h; cases o <;> rfl
    have hz : ((rows.map fun r => r.map oD).flatMap fun es => es.map fun d => PyData.bool (isN d || isWhole d)).length ≤ 1000 := by
      have : ∀ l : List (List (Option Int)), (∀ r ∈ l, r.length = wd) → ((l.map fun r => r.map oD).flatMap fun es => es.map fun d => PyData.bool (isN d || isWhole d)).length = l.length * wd := by
        intro l
        induction l with
        | nil => intro _; simp
        | cons r l ih =>
          intro h
          rw [List.map_cons, List.flatMap_cons, List.length_append, ih fun r' hr' => h r' (List.mem_cons_of_mem _ hr'), List.length_map, List.length_map, h r List.mem_cons_self, List.length_cons, Nat.succ_mul]
          omega
      rw [this rows ok.all]
      have h2 := ok.h2
      have w2 := ok.w2
      exact Nat.le_trans (Nat.mul_le_mul h2 w2) (by decide)
    have hx' : Dp K G' x (.list ((rows.map fun r => r.map oD).map PyData.list)) := by
      have := dpm (G' := G') (by walk_at "same") hx
      rw [List.map_map]
      exact this
    refine s_ret s2 (ev_all (bs := (rows.map fun r => r.map oD).flatMap fun es => es.map fun d => (isN d || isWhole d)) (ev_shape (ev_lc2 (K := K) (dss := rows.map fun r => r.map oD) (fun d => PyData.bool (isN d || isWhole d)) (ev_varD rfl hx') hz (fun _ _ => rfl) (fun _ => rfl) (fun _ => rfl) (fun a b es d G1 e1 h1 h2 h3 => by walk_at "ev")) (by
      rw [List.map_flatMap]
      simp only [List.map_map]
      rfl))) fun v2 G2 H2 g2 r => q v2 G2 H2 ((g1.trans (gb.trans gi)).trans g2) (isD_to r ?_)
    congr 1
    rw [List.all_eq_true]
    intro b hb
    obtain ⟨es, he, hb⟩ := List.mem_flatMap.mp hb
    obtain ⟨r, _, rfl⟩ := List.mem_map.mp he
    obtain ⟨d, hd, rfl⟩ := List.mem_map.mp hb
    obtain ⟨o, _, rfl⟩ := List.mem_map.mp hd
    exact f1 _ ⟨o, rfl⟩
end

section
variable {P : Program} {w : World} {K : PySem.W.Frag} {mg : Str → Option Value} {base : Heap}
/-- an instance of Strip, its readings rows -/
def isStrip (T : Tp K mg) (rows : List (List (Option Int))) : VP := isO T.C_Strip fun fs G => ∃ t, fs = [(("lines" : Str), t)] ∧ Dp K G t (rowsT rows)
theorem mf_strip {rows : List (List (Option Int))} : MnF fun fs G => ∃ t, fs = [(("lines" : Str), t)] ∧ Dp K G t (rowsT rows) := fun fs G G' e ⟨t, h1, h2⟩ => ⟨t, h1, dpm e h2⟩
theorem mn_isStrip {T : Tp K mg} {rows : List (List (Option Int))} : Mn (isStrip T rows) := mn_isO mf_strip
theorem ev_lines {σ : L2.St} {G : Hp} {te : TE} {T : Tp K mg} {rows : List (List (Option Int))} (h : EvR te σ G (isStrip T rows)) : EvR (tFld K te "lines") σ G (isD K (rowsT rows)) :=
  ev_fld T.cl_Strip T.n_Strip_lines h fun v G ⟨p, dx, fs, h1, h2, t, h3, h4⟩ => ⟨p, dx, fs, t, h1, h2, by rw [h3]; exact lk_here, h4⟩
theorem strip_meth {T : Tp K mg} {rows : List (List (Option Int))} {m : Str} (hm : ¬ m = "lines") : ∀ v G, isStrip T rows v G → ∃ a dx fs, v = .ref a ∧ G a = some (.ins T.C_Strip dx fs) ∧ fs.lookup m = none := fun v G ⟨p, dx, fs, h1, h2, t, h3, h4⟩ =>
  ⟨p, dx, fs, h1, h2, by rw [h3]; exact (lk_past (beq_eq_false_iff_ne.mpr hm)).trans rfl⟩
def tupd : PyData → PyData
  | .list l => .tuple l
  | d => d
abbrev sp_Strip___init (T : Tp K mg) : Sp := spI (α := List (List (Option Int)) × Nat) T.C_Strip (fun x => [isD K (rowsL x.1)]) (fun x => RowsOk x.1 x.2) (fun x fs G => ∃ t, fs = [(("lines" : Str), t)] ∧ Dp K G t (rowsT x.1))
end

local macro_rules | `(tactic| walk_at "mn") => `(tactic| exact mn_isStrip)
local macro_rules | `(tactic| walk_at "ev") => `(tactic| with_reducible (refine' ev_lines ?a; (case a => walk_at "ev")))

section
variable {P : Program} {w : World} {K : PySem.W.Frag} {mg : Str → Option Value} {base : Heap}
theorem ok_Strip___init (T : Tp K mg) : FnOk P w K mg base CX0 4 T.f_Strip___init T.fd_Strip___init ["self", "rows"] (sp_Strip___init T) := by
  have G_are_readings : FnOk P w K mg base CX0 3 T.f_are_readings T.fd_are_readings ["thing"] (sp_are_readings K) := ok_are_readings T
  have hk : KK K := kk
  refine T.F_Strip___init.ok sc_Strip___init (fun vs H Q E ⟨x, G, p, dx, ws, h, _, _, _, ha, _⟩ => by rw [h, List.length_cons, all2_len ha]; rfl) (fun cdv A outer s H vs Q E hr h => ?_)
  obtain ⟨⟨rows, wd⟩, G, p, dx, ws, rfl, e, hp, hH, ha, ok, q⟩ := h
  cases ha with
  | @cons _ _ x _ _ hx ha =>
  cases ha
  replace hx : Dp K G x (.list (rows.map fun r => .list (r.map oD))) := hx
  replace ok : RowsOk rows wd := ok
  refine ⟨_, (pss_cons (ps_if (pt_not (pt_val (pe_call G_are_readings (hr.mono (by decide)) rfl T.g_are_readings T.F_are_readings.kp T.b_are_readings .nil pass0 (pa_cons (pv 1) pa_nil))))
        (pss_one ps_never)
        pss_nil)
      (pss_one (kfldS (K := K) rfl (pv 0) (pe_callTy (ktup (K := K) rfl) (by rfl) T.z_tuple (by decide +kernel) (pa_cons (pe_lc (own := [("row", 2)]) rfl sc_Strip___init.nd (kpiL (K := K) rfl (pv 1)) (blkOk_by (N := ["self", "rows", "row"]) (sc := defScope s_Strip___init) (by decide +kernel)) (fun _ _ _ _ _ => (pg_name (i := 2) sc_Strip___init.nd rfl (by first | exact Or.inl rfl | exact Or.inr rfl))) (fun _ _ _ _ _ => pts_nil) (fun _ _ _ _ _ => (pe_callTy (ktup (K := K) rfl) (by rfl) T.z_tuple (by decide +kernel) (pa_cons (pv 2) pa_nil)))) pa_nil)) rfl))), ?_⟩
  refine q_no e (et_not (b := true) (et_BK hk (ev_call (rows, wd) (ea_cons mn_isD (by walk_at "ev") ea_nil) ok))) fun G1 H1 g1 => ?_
  refine s_fldSet (p := p) g1.gh (g1.hh _ _ hH (by simp)) T.cl_Strip T.n_Strip_lines (by decide) (ev_tupleL (ev_lc (ds := rows.map fun r => PyData.list (r.map oD)) tupd (by walk_at "ev") (by rw [List.length_map]; have := ok.h2; omega) (fun _ => rfl) (fun y d G2 e2 hd hy => ?_))) (ev_var rfl rfl) fun v G2 H2 g2 ⟨G0, e0, r⟩ h2 => ?_
  · obtain ⟨r, _, rfl⟩ := List.mem_map.mp hd
    exact ev_tupleL (ev_varD rfl hy)
  · have g12 := g1.trans g2
    have hp2 : G2 p = none := g12.out hp hH
    refine q G2 _ _ (g12.weak.trans (Gw.put g12.gh hp2 (by simp))) upd_same ⟨v, rfl, isD_to (dpm e0 r) ?_⟩
    rw [List.map_map]
    rfl
abbrev sp_Strip_shape (T : Tp K mg) : Sp := spP (α := List (List (Option Int)) × Nat) (fun x => [isStrip T x.1]) (fun x => RowsOk x.1 x.2) (fun x => isD K (.tuple [.int (x.1.length : Nat), .int (x.2 : Nat)]))
theorem at0 {rows : List (List (Option Int))} {wd : Nat} (ok : RowsOk rows wd) : ∃ r, rows[0]? = some r ∧ r.length = wd ∧ atI (rows.map fun r => PyData.tuple (r.map oD)) 0 = some (PyData.tuple (r.map oD)) := by
  obtain ⟨r0, hr0, hw0⟩ := ok.zero
  exact ⟨r0, hr0, hw0, atI_map _ (atI_nn (Int.le_refl 0) hr0)⟩
theorem ok_Strip_shape (T : Tp K mg) : FnOk P w K mg base CX0 1 T.f_Strip_shape T.fd_Strip_shape ["self"] (sp_Strip_shape T) := by
  have hk : KK K := kk
  refine T.F_Strip_shape.ok sc_Strip_shape (fun vs H Q E ⟨x, G, e, ha, _⟩ => all2_len ha) (fun cdv A outer s H vs Q E hr h => ?_)
  obtain ⟨⟨rows, wd⟩, G, e, ha, ok, q⟩ := h
  cases ha with
  | @cons _ _ x _ _ hx ha =>
  cases ha
  replace ok : RowsOk rows wd := ok
  replace hx : isStrip T rows x G := hx
  obtain ⟨r0, hr0, hw0, z0⟩ := at0 ok
  refine ⟨_, (pss_one (ps_ret (pe_tup (pa_cons (pe_callB (klen (K := K) rfl) (by rfl) T.z_len (by decide +kernel) (pa_cons (kfld (K := K) rfl (pv 0) rfl) pa_nil)) (pa_cons (pe_callB (klen (K := K) rfl) (by rfl) T.z_len (by decide +kernel) (pa_cons (pe_ix (kixT (K := K) rfl) (kfld (K := K) rfl (pv 0) rfl) pe_int (fun _ _ => rfl)) pa_nil)) pa_nil))))), ?_⟩
  have h1 : EvR (tFld K (tVar 0) "lines") (start ["self"] [x]) G (isD K (.tuple (rows.map fun r => PyData.tuple (r.map oD)))) := ev_lines (ev_var rfl hx)
  refine s_ret e (by walk_at "ev") fun v G' H' g r => q v G' H' g (isD_to r ?_)
  simp [hw0]
abbrev sp_Strip_rows (T : Tp K mg) : Sp := spP (α := List (List (Option Int)) × Nat) (fun x => [isStrip T x.1]) (fun x => RowsOk x.1 x.2) (fun x => isD K (rowsL x.1))
def lisd : PyData → PyData
  | .tuple l => .list l
  | d => d
theorem ok_Strip_rows (T : Tp K mg) : FnOk P w K mg base CX0 1 T.f_Strip_rows T.fd_Strip_rows ["self"] (sp_Strip_rows T) := by
  have hk : KK K := kk
  refine T.F_Strip_rows.ok sc_Strip_rows (fun vs H Q E ⟨x, G, e, ha, _⟩ => all2_len ha) (fun cdv A outer s H vs Q E hr h => ?_)
  obtain ⟨⟨rows, wd⟩, G, e, ha, ok, q⟩ := h
  cases ha with
  | @cons _ _ x _ _ hx ha =>
  cases ha
  replace ok : RowsOk rows wd := ok
  replace hx : isStrip T rows x G := hx
  refine ⟨_, (pss_one (ps_ret (pe_lc (own := [("row", 1)]) rfl sc_Strip_rows.nd (kpiT (K := K) rfl (kfld (K := K) rfl (pv 0) rfl)) (blkOk_by (N := ["self", "row"]) (sc := defScope s_Strip_rows) (by decide +kernel)) (fun _ _ _ _ _ => (pg_name (i := 1) sc_Strip_rows.nd rfl (by first | exact Or.inl rfl | exact Or.inr rfl))) (fun _ _ _ _ _ => pts_nil) (fun _ _ _ _ _ => (pe_callTy (klist (K := K) rfl) (by rfl) T.z_list (by decide +kernel) (pa_cons (pv 1) pa_nil)))))), ?_⟩
  have h1 : EvR (tFld K (tVar 0) "lines") (start ["self", "row"] [x]) G (isD K (.tuple (rows.map fun r => PyData.tuple (r.map oD)))) := ev_lines (ev_var rfl hx)
  refine s_ret e (ev_lcT lisd h1 (by rw [List.length_map]; have := ok.h2; omega) (fun _ => rfl) fun y d G2 e2 hd hy => ?_) fun v G' H' g r => q v G' H' g (isD_to r ?_)
  · obtain ⟨r, _, rfl⟩ := List.mem_map.mp hd
    exact ev_listT (ev_varD rfl hy)
  · rw [List.map_map]
    rfl
/-- has_cell, of a spot -/
abbrev sp_Strip_has_cell (T : Tp K mg) : Sp := spP (α := List (List (Option Int)) × Nat × Int × Int) (fun x => [isStrip T x.1, isD K (.tuple [.int x.2.2.1, .int x.2.2.2])]) (fun x => RowsOk x.1 x.2.1)
  (fun x => isD K (.bool (decide (0 ≤ x.2.2.1) && decide (x.2.2.1 < (x.1.length : Nat)) && (decide (0 ≤ x.2.2.2) && decide (x.2.2.2 < (x.2.1 : Nat))))))
theorem ok_Strip_has_cell (T : Tp K mg) : FnOk P w K mg base CX0 3 T.f_Strip_has_cell T.fd_Strip_has_cell ["self", "cell"] (sp_Strip_has_cell T) := by
  have hk : KK K := kk
  have G_is_spot : FnOk P w K mg base CX0 2 T.f_is_spot T.fd_is_spot ["thing"] (sp_is_spot K) := ok_is_spot T
  refine T.F_Strip_has_cell.ok sc_Strip_has_cell (fun vs H Q E ⟨x, G, e, ha, _⟩ => all2_len ha) (fun cdv A outer s H vs Q E hr h => ?_)
  obtain ⟨⟨rows, wd, r, c⟩, G, e, ha, ok, q⟩ := h
  cases ha with
  | @cons _ _ x _ _ hx ha =>
  cases ha with
  | @cons _ _ y _ _ hy ha =>
  cases ha
  replace ok : RowsOk rows wd := ok
  replace hx : isStrip T rows x G := hx
  replace hy : Dp K G y (.tuple [.int r, .int c]) := hy
  obtain ⟨r0, hr0, hw0, z0⟩ := at0 ok
  refine ⟨_, (pss_one (ps_ret (pe_and (pe_call G_is_spot (hr.mono (by decide)) rfl T.g_is_spot T.F_is_spot.kp T.b_is_spot .nil pass0 (pa_cons (pv 1) pa_nil)) (pe_and (pe_chain op_le op_lt pe_int (pe_ix (kixT (K := K) rfl) (pv 1) pe_int (fun _ _ => rfl)) (pe_callB (klen (K := K) rfl) (by rfl) T.z_len (by decide +kernel) (pa_cons (kfld (K := K) rfl (pv 0) rfl) pa_nil))) (pe_one (pe_chain op_le op_lt pe_int (pe_ix (kixT (K := K) rfl) (pv 1) pe_int (fun _ _ => rfl)) (pe_callB (klen (K := K) rfl) (by rfl) T.z_len (by decide +kernel) (pa_cons (pe_ix (kixT (K := K) rfl) (kfld (K := K) rfl (pv 0) rfl) pe_int (fun _ _ => rfl)) pa_nil)))))))), ?_⟩
  have h1 : EvR (tFld K (tVar 0) "lines") (start ["self", "cell"] [x, y]) G (isD K (.tuple (rows.map fun r => PyData.tuple (r.map oD)))) := ev_lines (ev_var rfl hx)
  refine s_ret e (by walk_at "ev") fun v G' H' g z => q v G' H' g (isD_to z ?_)
  show PyData.bool _ = PyData.bool _
  rw [List.length_map, List.length_map, hw0]
  rfl
/-- reading, of a cell that is there -/
abbrev sp_Strip_reading (T : Tp K mg) : Sp := spP (α := List (List (Option Int)) × Nat × Int × Int × Option Int) (fun x => [isStrip T x.1, isD K (.tuple [.int x.2.2.1, .int x.2.2.2.1])])
  (fun x => RowsOk x.1 x.2.1 ∧ 0 ≤ x.2.2.1 ∧ 0 ≤ x.2.2.2.1 ∧ ∃ r, x.1[x.2.2.1.toNat]? = some r ∧ r[x.2.2.2.1.toNat]? = some x.2.2.2.2) (fun x => isD K (oD x.2.2.2.2))
theorem ok_Strip_reading (T : Tp K mg) : FnOk P w K mg base CX0 4 T.f_Strip_reading T.fd_Strip_reading ["self", "cell"] (sp_Strip_reading T) := by
  have hk : KK K := kk
  have G_Strip_has_cell : FnOk P w K mg base CX0 3 T.f_Strip_has_cell T.fd_Strip_has_cell ["self", "cell"] (sp_Strip_has_cell T) := ok_Strip_has_cell T
  refine T.F_Strip_reading.ok sc_Strip_reading (fun vs H Q E ⟨x, G, e, ha, _⟩ => all2_len ha) (fun cdv A outer s H vs Q E hr h => ?_)
  obtain ⟨⟨rows, wd, r, c, o⟩, G, e, ha, ok, q⟩ := h
  cases ha with
  | @cons _ _ x _ _ hx ha =>
  cases ha with
  | @cons _ _ y _ _ hy ha =>
  cases ha
  replace hx : isStrip T rows x G := hx
  replace hy : Dp K G y (.tuple [.int r, .int c]) := hy
  obtain ⟨ok, h0, h0', row, hr1, hr2⟩ := ok
  replace ok : RowsOk rows wd := ok
  replace h0 : 0 ≤ r := h0
  replace h0' : 0 ≤ c := h0'
  replace hr1 : rows[r.toNat]? = some row := hr1
  replace hr2 : row[c.toNat]? = some o := hr2
  have l1 := (List.getElem?_eq_some_iff.mp hr1).1
  have l2 := (List.getElem?_eq_some_iff.mp hr2).1
  have l3 := ok.all row (List.mem_of_getElem? hr1)
  refine ⟨_, (pss_cons (ps_if (pt_not (pt_val (pe_meth (pv 0) T.cl_Strip T.m_Strip_has_cell G_Strip_has_cell (hr.mono (by decide)) T.b_Strip_has_cell .nil pass0 (pa_cons (pv 1) pa_nil))))
        (pss_one ps_never)
        pss_nil)
      (pss_one (ps_ret (pe_ix (kixT (K := K) rfl) (pe_ix (kixT (K := K) rfl) (kfld (K := K) rfl (pv 0) rfl) (pe_ix (kixT (K := K) rfl) (pv 1) pe_int (fun _ _ => rfl)) (fun _ _ => rfl)) (pe_ix (kixT (K := K) rfl) (pv 1) pe_int (fun _ _ => rfl)) (fun _ _ => rfl))))), ?_⟩
  have hb : (decide (0 ≤ r) && decide (r < (rows.length : Nat)) && (decide (0 ≤ c) && decide (c < (wd : Nat)))) = true := by
    rw [decide_eq_true h0, decide_eq_true h0', decide_eq_true (by omega), decide_eq_true (by omega)]; rfl
  refine q_no e (et_not (b := true) (et_BK hk (ev_shape (ev_meth (rows, wd, r, c) rfl mn_isStrip (strip_meth (by decide +kernel)) (ev_var rfl hx) (ea_cons mn_isD (by walk_at "ev") ea_nil) ok) (by rw [hb])))) fun G1 H1 g1 => ?_
  have hx1 : isStrip T rows x G1 := mn_isStrip _ _ _ g1.gg hx
  have h1 : EvR (tFld K (tVar 0) "lines") (start ["self", "cell"] [x, y]) G1 (isD K (.tuple (rows.map fun r => PyData.tuple (r.map oD)))) := ev_lines (ev_var rfl hx1)
  have z1 : atI (rows.map fun r => PyData.tuple (r.map oD)) r = some (.tuple (row.map oD)) := atI_map _ (atI_nn h0 hr1)
  have z2 : atI (row.map oD) c = some (oD o) := atI_map _ (atI_nn h0' hr2)
  exact s_ret g1.gh (by walk_at "ev") fun v G' H' g z => q v G' H' (g1.trans g) z
end

local macro_rules | `(tactic| walk_at "mn") => `(tactic| first | exact mn_lsV | exact mn_tpV | exact mn_isV | exact mn_any | exact mn_isDL)
local macro_rules | `(tactic| walk_at "up") => `(tactic| first | (refine' dpm ?e (dl_dp ?h); (case h => assumption); (case e => walk_at "same")) | exact dl_dp (by assumption) | exact Dp.int _ | exact Dp.bl _ | exact Dp.non)
local macro_rules | `(tactic| walk_at "ev") => `(tactic| with_reducible first
  | (refine' ev_lenV ?a; (case a => walk_at "ev"))
  | (refine' ev_lenTV ?a; (case a => walk_at "ev"))
  | (refine' ev_listTV ?a; (case a => walk_at "ev"))
  | (refine' ev_tupLV ?a; (case a => walk_at "ev"))
  | (refine' ev_isiLV ?a; (case a => walk_at "ev"))
  | (refine' eo_someK ?k ?a; (case k => assumption); (case a => walk_at "ev"))
  | (refine' ea_nil)
  | (refine' ea_cons ?m ?a ?b; (case a => walk_at "ev"); (case b => walk_at "ev"); (case m => walk_at "mn")))

section
variable {P : Program} {w : World} {K : PySem.W.Frag} {mg : Str → Option Value} {base : Heap}
/-- is_range, of a pair -/
abbrev sp_is_range (K : PySem.W.Frag) : Sp := spP (α := Int × Int) (fun x => [isD K (pairD x)]) (fun _ => True) (fun x => isD K (.bool (decide (x.1 ≤ x.2))))
theorem ok_is_range (T : Tp K mg) : FnOk P w K mg base CX0 2 T.f_is_range T.fd_is_range ["thing"] (sp_is_range K) := by
  have hk : KK K := kk
  have G_is_whole : FnOk P w K mg base CX0 1 T.f_is_whole T.fd_is_whole ["thing"] (sp_is_whole K) := ok_is_whole T
  refine T.F_is_range.ok sc_is_range (fun vs H Q E ⟨x, G, e, ha, _⟩ => all2_len ha) (fun cdv A outer s H vs Q E hr h => ?_)
  obtain ⟨⟨lo, hi⟩, G, e, ha, _, q⟩ := h
  cases ha with
  | @cons _ _ x _ _ hx ha =>
  cases ha
  replace hx : Dp K G x (.tuple [.int lo, .int hi]) := hx
  refine ⟨_, (pss_cons (ps_if (PW.pt (pw_or (pt_not (pt_val (pe_callB (kisi (K := K) rfl) (by rfl) T.z_isinstance (by decide +kernel) (pa_cons (pv 0) (pa_cons (pe_bltn (v := .ty "tuple") rfl T.z_tuple (by decide +kernel) rfl) pa_nil))))) (pw_or (pt_cmpR op_ne (pe_callB (klen (K := K) rfl) (by rfl) T.z_len (by decide +kernel) (pa_cons (pv 0) pa_nil)) pe_int (nomark _)) (pw_or1 (pt_not (pt_val (pe_callB (kall (K := K) rfl rfl) (by rfl) T.z_all (by decide +kernel) (pa_cons (pe_lc (own := [("one", 1)]) rfl sc_is_range.nd (kpiT (K := K) rfl (pv 0)) (blkOk_by (N := ["thing", "one"]) (sc := defScope s_is_range) (by decide +kernel)) (fun _ _ _ _ _ => (pg_name (i := 1) sc_is_range.nd rfl (by first | exact Or.inl rfl | exact Or.inr rfl))) (fun _ _ _ _ _ => pts_nil) (fun _ _ _ _ _ => (pe_call G_is_whole (hr.mono (by decide)) rfl T.g_is_whole T.F_is_whole.kp T.b_is_whole .nil pass0 (pa_cons (pv 1) pa_nil)))) pa_nil))))))))
        (pss_one (ps_ret pe_bl))
        pss_nil)
      (pss_one (ps_ret (pe_cmpR op_le (pe_ix (kixT (K := K) rfl) (pv 0) pe_int (fun _ _ => rfl)) (pe_ix (kixT (K := K) rfl) (pv 0) pe_int (fun _ _ => rfl)) (nomark _))))), ?_⟩
  refine q_no e (et_or (b := false) (c := false) (ev_shapeT (by walk_at "ev") (by rfl)) fun _ => et_or (b := false) (c := false) (ev_shapeT (by walk_at "ev") (by rfl)) fun _ => et_not (b := true) (et_BK hk (ev_all (bs := [true, true]) (ev_lcT (ds := [.int lo, .int hi]) (fun d => .bool (isWhole d)) (by walk_at "ev") (by simp) (fun _ => rfl) fun y d G1 e1 hd hy => by walk_at "ev")))) fun G1 H1 g1 => ?_
  have hx1 : Dp K G1 x (.tuple [.int lo, .int hi]) := dpm g1.gg hx
  exact s_ret g1.gh (by walk_at "ev") fun v G' H' g r => q v G' H' (g1.trans g) r
/-- a datum as data -/
abbrev datumD (x : (Int × Int) × Int × Int) : PyData := .tuple [pairD x.1, .int x.2.1, .int x.2.2]
abbrev sp_is_datum (K : PySem.W.Frag) : Sp := spP (α := (Int × Int) × Int × Int) (fun x => [isD K (datumD x)]) (fun _ => True) (fun x => isD K (.bool (decide (x.2.1 ≤ x.2.2))))
theorem ok_is_datum (T : Tp K mg) : FnOk P w K mg base CX0 3 T.f_is_datum T.fd_is_datum ["thing"] (sp_is_datum K) := by
  have hk : KK K := kk
  have G_is_spot : FnOk P w K mg base CX0 2 T.f_is_spot T.fd_is_spot ["thing"] (sp_is_spot K) := ok_is_spot T
  have G_is_range : FnOk P w K mg base CX0 2 T.f_is_range T.fd_is_range ["thing"] (sp_is_range K) := ok_is_range T
  refine T.F_is_datum.ok sc_is_datum (fun vs H Q E ⟨x, G, e, ha, _⟩ => all2_len ha) (fun cdv A outer s H vs Q E hr h => ?_)
  obtain ⟨⟨⟨i, j⟩, lo, hi⟩, G, e, ha, _, q⟩ := h
  cases ha with
  | @cons _ _ x _ _ hx ha =>
  cases ha
  replace hx : Dp K G x (.tuple [.tuple [.int i, .int j], .int lo, .int hi]) := hx
  refine ⟨_, (pss_one (ps_ret (pe_and (pe_callB (kisi (K := K) rfl) (by rfl) T.z_isinstance (by decide +kernel) (pa_cons (pv 0) (pa_cons (pe_bltn (v := .ty "tuple") rfl T.z_tuple (by decide +kernel) rfl) pa_nil))) (pe_and (pe_cmpR op_eq (pe_callB (klen (K := K) rfl) (by rfl) T.z_len (by decide +kernel) (pa_cons (pv 0) pa_nil)) pe_int (nomark _)) (pe_and (pe_call G_is_spot (hr.mono (by decide)) rfl T.g_is_spot T.F_is_spot.kp T.b_is_spot .nil pass0 (pa_cons (pe_ix (kixT (K := K) rfl) (pv 0) pe_int (fun _ _ => rfl)) pa_nil)) (pe_one (pe_call G_is_range (hr.mono (by decide)) rfl T.g_is_range T.F_is_range.kp T.b_is_range .nil pass0 (pa_cons (pe_slice (kslT (K := K) rfl) (pv 0) (po_some pe_int) po_none) pa_nil)))))))), ?_⟩
  refine s_ret e (ev_andV (b := true) (ev_shape (by walk_at "ev") (by rfl)) fun _ => ev_andV (b := true) (ev_shape (by walk_at "ev") (by rfl)) fun _ => ev_andV (b := true) (ev_shape (by walk_at "ev") (by rfl)) fun _ => ev_call (lo, hi) (ea_cons mn_isD (ev_shape (ev_slT (lo := some 1) (hi := none) (by walk_at "ev") (by walk_at "ev") (by walk_at "ev")) (by rfl)) ea_nil) trivial) fun v G' H' g r => q v G' H' g (isD_to r (by simp))
abbrev sp_is_strip (T : Tp K mg) : Sp := spP (α := List (List (Option Int))) (fun x => [isStrip T x]) (fun _ => True) (fun _ => isD K (.bool true))
theorem ok_is_strip (T : Tp K mg) : FnOk P w K mg base CX0 1 T.f_is_strip T.fd_is_strip ["thing"] (sp_is_strip T) := by
  refine T.F_is_strip.ok sc_is_strip (fun vs H Q E ⟨x, G, e, ha, _⟩ => all2_len ha) (fun cdv A outer s H vs Q E hr h => ?_)
  obtain ⟨rows, G, e, ha, _, q⟩ := h
  cases ha with
  | @cons _ _ x _ _ hx ha =>
  cases ha
  refine ⟨_, (pss_one (ps_ret (pe_callB (kisC (K := K) rfl T.ic_Strip) (by rfl) T.z_isinstance (by decide +kernel) (pa_cons (pv 0) (pa_cons (pe_glob (v := .ref T.C_Strip) rfl T.g_Strip rfl) pa_nil))))), ?_⟩
  exact s_ret e (ev_isC mf_strip (ev_var rfl hx)) fun v G' H' g r => q v G' H' g r
/-- check_part, all of it right -/
abbrev sp_check_part (K : PySem.W.Frag) {β : Type} (R1 : β → VP) (pre1 : β → Prop) (f1 : Addr) : Sp := spP (α := List β × List V × Int × Int) (fun x => [any, fun v G => lsV K x.2.1 v G ∧ All2 (x.1.map R1) x.2.1 G, isD K (.int x.2.2.1), isD K (.int x.2.2.2), isV (.ref f1)])
  (fun x => x.2.2.1 ≤ (x.1.length : Nat) ∧ (x.1.length : Nat) ≤ x.2.2.2 ∧ ∀ a ∈ x.1, pre1 a) (fun _ => isD K .none)
theorem mn_lsA {K : PySem.W.Frag} {xs : List V} {Rs : List VP} (m : Mns Rs) : Mn (fun v G => lsV K xs v G ∧ All2 Rs xs G) := fun v G G' e ⟨h1, h2⟩ => ⟨mn_lsV _ _ _ e h1, h2.mono e m⟩
theorem ok_check_part (T : Tp K mg) {β : Type} {R1 : β → VP} {pre1 : β → Prop} {f1 : Addr} {fd1 : FuncData} (m1 : ∀ x, Mn (R1 x)) (F1 : FnOk P w K mg base CX0 3 f1 fd1 ["thing"] (spP (fun x => [R1 x]) pre1 (fun _ => isD K (.bool true)))) (kp : PySem.W.keepIn K (.ref f1) = true) (b1 : Binds K fd1 ["thing"] []) :
    FnOk P w K mg base CX0 4 T.f_check_part T.fd_check_part ["part", "thing", "least", "most", "is_one"] (sp_check_part K R1 pre1 f1) := by
  have hk : KK K := kk
  refine T.F_check_part.ok sc_check_part (fun vs H Q E ⟨x, G, e, ha, _⟩ => all2_len ha) (fun cdv A outer s H vs Q E hr h => ?_)
  obtain ⟨⟨as, xs, lo, hi⟩, G, e, ha, ⟨h1, h2, h3⟩, q⟩ := h
  cases ha with
  | @cons _ _ x0 _ _ _ ha =>
  cases ha with
  | @cons _ _ x1 _ _ hx1 ha =>
  cases ha with
  | @cons _ _ x2 _ _ hx2 ha =>
  cases ha with
  | @cons _ _ x3 _ _ hx3 ha =>
  cases ha with
  | @cons _ _ x4 _ _ hx4 ha =>
  cases ha
  cases hx4
  obtain ⟨hx1, hall⟩ := hx1
  replace hx1 : lsV K xs x1 G := hx1
  replace hx2 : Dp K G x2 (.int lo) := hx2
  replace hx3 : Dp K G x3 (.int hi) := hx3
  replace h1 : lo ≤ (as.length : Nat) := h1
  replace h2 : (as.length : Nat) ≤ hi := h2
  replace h3 : ∀ a ∈ as, pre1 a := h3
  replace hall : All2 (as.map R1) xs G := hall
  have hl : xs.length = as.length := by rw [all2_len hall, List.length_map]
  refine ⟨_, (pss_cons (ps_if (PW.pt (pw_or (pt_not (pt_val (pe_callB (kisi (K := K) rfl) (by rfl) T.z_isinstance (by decide +kernel) (pa_cons (pv 1) (pa_cons (pe_bltn (v := .ty "list") rfl T.z_list (by decide +kernel) rfl) pa_nil))))) (pw_or1 (pt_not (pt_chain op_le op_le (pv 2) (pe_callB (klen (K := K) rfl) (by rfl) T.z_len (by decide +kernel) (pa_cons (pv 1) pa_nil)) (pv 3))))))
        (pss_one ps_never)
        pss_nil)
      (pss_one (ps_for PassesOwn.never rfl (kpiE (K := K) rfl (by rfl) T.z_enumerate (pa_cons (pv 1) pa_nil)) (kpgT (K := K) (n := 2) rfl rfl (pgs_cons (pg_name (i := 5) sc_check_part.nd rfl (by first | exact Or.inl rfl | exact Or.inr rfl)) (pgs_cons (pg_name (i := 6) sc_check_part.nd rfl (by first | exact Or.inl rfl | exact Or.inr rfl)) pgs_nil)))
        (pss_one (ps_if (pt_not (pt_val (pe_callL (i := 4) F1 (hr.mono (by decide)) rfl (by first | exact Or.inl rfl | exact Or.inr (Or.inl rfl) | exact Or.inr (Or.inr rfl)) kp b1 .nil pass0 (pa_cons (pv 6) pa_nil))))
          (pss_one ps_never)
          pss_nil))))), ?_⟩
  have k1 : decide (lo ≤ ((xs.length : Nat) : Int)) = true := decide_eq_true (by rw [hl]; exact h1)
  have k2 : decide (((xs.length : Nat) : Int) ≤ hi) = true := decide_eq_true (by rw [hl]; exact h2)
  refine q_no e (ev_shapeT (by walk_at "ev") (by rw [k1, k2]; rfl)) fun G1 H1 g1 => ?_
  refine s_forE (R := lsV K xs) (xs := xs) g1.gh (fun v G' ⟨a, h, h'⟩ => ⟨a, h, h'⟩) (ev_var rfl (mn_lsV _ _ _ g1.gg hx1)) fun Gb Hb gb => ⟨fun _ σ' G' H' => (∃ v v', σ' = [some x0, some x1, some x2, some x3, some (.ref f1), v, v']) ∧ Gw [] Gb Hb G' H', ⟨⟨_, _, rfl⟩, Gw.refl gb.gh⟩, ?_, ?_⟩
  · rintro i y σ' G' H' hy s1 s2 ⟨⟨v, v', rfl⟩, gi⟩ Tt hT
    obtain ⟨R, hR, hRy⟩ := all2_at hall hy
    rw [List.getElem?_map] at hR
    cases ha' : as[i]? with
    | none => rw [ha'] at hR; cases hR
    | some a =>
    rw [ha'] at hR
    cases hR
    have gn : Gw [] G' H' (upd G' Tt (.tup [.int (i : Nat), y])) (upd H' Tt (.tup [.int (i : Nat), y])) := Gw.new s2 hT
    refine g_tupV (K := K) (xs := [.int (i : Nat), y]) gn.gh ⟨Tt, rfl, SqT.of upd_same⟩ rfl ?_
    refine g_cons (g_cons (g_nil ?_))
    have hRy' : R1 a y (upd G' Tt (.tup [.int (i : Nat), y])) := m1 a _ _ _ (((g1.gg.trans gb.gg).trans s1).trans gn.gg) hRy
    refine s_no gn.gh (et_not (b := true) (et_BK hk (ev_callL a rfl (ea_cons (m1 a) (ev_var rfl hRy') ea_nil) (h3 a (List.mem_of_getElem? ha'))))) fun G2 H2 g2 => ?_
    exact ⟨G2, (s1.trans gn.gg).trans g2.gg, g2.gh, ⟨_, _, rfl⟩, (gi.trans gn).trans g2⟩
  · rintro σ' G' H' s1 s2 ⟨_, gi⟩
    exact q _ G' H' (g1.trans (gb.trans gi)) .non
end

section
variable {P : Program} {w : World} {K : PySem.W.Frag} {mg : Str → Option Value} {base : Heap}
/-- the attributes of levels, the last two perhaps not yet set -/
def levF (T : Tp K mg) (xs : List V) (lv : LevD) (sn : List (Int × Int)) (full : Bool) (fs : List (Str × V)) (G : Hp) : Prop := ∃ t1 t2 t4 t5 rest, fs = (("laid" : Str), t1) :: (("lies" : Str), t2) :: (("spread" : Str), .int lv.noise) :: (("ranges" : Str), t4) :: (("known" : Str), t5) :: rest ∧
  (if full = true then ∃ t6 t7, rest = [(("readings" : Str), t6), (("seen" : Str), t7)] ∧ Dp K G t6 (.list (lv.rds.map rdD)) ∧ Dp K G t7 (.tuple (sn.map pairD)) else rest = []) ∧
  tpV K xs t1 G ∧ All2 (lv.strips.map (isStrip T)) xs G ∧ Dp K G t2 (.tuple (lv.offs.map pairD)) ∧ Dp K G t4 (.tuple (lv.ranges.map pairD)) ∧ Dp K G t5 (.tuple (lv.datums.map datumD))
def isLev (T : Tp K mg) (xs : List V) (lv : LevD) (sn : List (Int × Int)) (full : Bool) : VP := isO T.C_Levels (levF T xs lv sn full)
theorem mns_strips (T : Tp K mg) (l : List (List (List (Option Int)))) : Mns (l.map (isStrip T)) := mns_map (fun _ => mn_isStrip) l
theorem mf_lev {T : Tp K mg} {xs : List V} {lv : LevD} {sn : List (Int × Int)} {full : Bool} : MnF (levF T xs lv sn full) := by
  rintro fs G G' e ⟨t1, t2, t4, t5, rest, h1, h2, h3, h4, h5, h6, h7⟩
  refine ⟨t1, t2, t4, t5, rest, h1, ?_, mn_tpV _ _ _ e h3, h4.mono e (mns_strips T _), dpm e h5, dpm e h6, dpm e h7⟩
  cases full with
  | false => exact h2
  | true =>
    obtain ⟨t6, t7, a, b, c⟩ := h2
    exact ⟨t6, t7, a, dpm e b, dpm e c⟩
theorem mn_isLev {T : Tp K mg} {xs : List V} {lv : LevD} {sn : List (Int × Int)} {full : Bool} : Mn (isLev T xs lv sn full) := mn_isO mf_lev
theorem lev_meth {T : Tp K mg} {xs : List V} {lv : LevD} {sn : List (Int × Int)} {full : Bool} {m : Str} (hm : (["laid", "lies", "spread", "ranges", "known", "readings", "seen"] : List Str).all (fun x => !(m == x)) = true) :
    ∀ v G, isLev T xs lv sn full v G → ∃ a dx fs, v = .ref a ∧ G a = some (.ins T.C_Levels dx fs) ∧ fs.lookup m = none := by
  rintro v G ⟨p, dx, fs, h1, h2, t1, t2, t4, t5, rest, rfl, h3, _⟩
  refine ⟨p, dx, _, h1, h2, ?_⟩
  simp only [List.all_cons, List.all_nil, Bool.and_eq_true, Bool.not_eq_true', and_true] at hm
  obtain ⟨m1, m2, m3, m4, m5, m6, m7⟩ := hm
  rw [lk_past m1, lk_past m2, lk_past m3, lk_past m4, lk_past m5]
  cases full with
  | false =>
    have e : rest = [] := h3
    rw [e]; rfl
  | true =>
    obtain ⟨t6, t7, a, b, c⟩ := h3
    rw [a, lk_past m6, lk_past m7]; rfl
theorem ev_laid {σ : L2.St} {G : Hp} {te : TE} {T : Tp K mg} {xs : List V} {lv : LevD} {sn : List (Int × Int)} {full : Bool} (h : EvR te σ G (isLev T xs lv sn full)) : EvR (tFld K te "laid") σ G (tpV K xs) :=
  ev_fld T.cl_Levels T.n_Levels_laid h fun v G ⟨p, dx, fs, h1, h2, t1, t2, t4, t5, rest, h3, h4, h5, _⟩ => ⟨p, dx, fs, t1, h1, h2, by rw [h3]; exact lk_here, h5⟩
theorem ev_lies {σ : L2.St} {G : Hp} {te : TE} {T : Tp K mg} {xs : List V} {lv : LevD} {sn : List (Int × Int)} {full : Bool} (h : EvR te σ G (isLev T xs lv sn full)) : EvR (tFld K te "lies") σ G (isD K (.tuple (lv.offs.map pairD))) :=
  ev_fld T.cl_Levels T.n_Levels_lies h fun v G ⟨p, dx, fs, h1, h2, t1, t2, t4, t5, rest, h3, h4, h5, h6, h7, _⟩ => ⟨p, dx, fs, t2, h1, h2, by rw [h3]; exact (lk_past (by decide +kernel)).trans lk_here, h7⟩
theorem lev_strips {T : Tp K mg} {xs : List V} {lv : LevD} {sn : List (Int × Int)} {full : Bool} {v : V} {G : Hp} (h : isLev T xs lv sn full v G) : All2 (lv.strips.map (isStrip T)) xs G := by
  obtain ⟨p, dx, fs, h1, h2, t1, t2, t4, t5, rest, h3, h4, h5, h6, _⟩ := h
  exact h6
abbrev LevP := List V × LevD × List (Int × Int) × Bool
abbrev sp_Levels_strips (T : Tp K mg) : Sp := spP (α := LevP) (fun x => [isLev T x.1 x.2.1 x.2.2.1 x.2.2.2]) (fun _ => True) (fun x => lsV K x.1)
theorem ok_Levels_strips (T : Tp K mg) : FnOk P w K mg base CX0 1 T.f_Levels_strips T.fd_Levels_strips ["self"] (sp_Levels_strips T) := by
  refine T.F_Levels_strips.ok sc_Levels_strips (fun vs H Q E ⟨x, G, e, ha, _⟩ => all2_len ha) (fun cdv A outer s H vs Q E hr h => ?_)
  obtain ⟨⟨xs, lv, sn, full⟩, G, e, ha, _, q⟩ := h
  cases ha with
  | @cons _ _ x _ _ hx ha =>
  cases ha
  refine ⟨_, (pss_one (ps_ret (pe_callTy (klist (K := K) rfl) (by rfl) T.z_list (by decide +kernel) (pa_cons (kfld (K := K) rfl (pv 0) rfl) pa_nil)))), ?_⟩
  exact s_ret e (ev_listTV (ev_laid (ev_var rfl hx))) fun v G' H' g r => q v G' H' g r
abbrev sp_Levels_offsets (T : Tp K mg) : Sp := spP (α := LevP) (fun x => [isLev T x.1 x.2.1 x.2.2.1 x.2.2.2]) (fun _ => True) (fun x => isD K (.list (x.2.1.offs.map pairD)))
theorem ok_Levels_offsets (T : Tp K mg) : FnOk P w K mg base CX0 1 T.f_Levels_offsets T.fd_Levels_offsets ["self"] (sp_Levels_offsets T) := by
  refine T.F_Levels_offsets.ok sc_Levels_offsets (fun vs H Q E ⟨x, G, e, ha, _⟩ => all2_len ha) (fun cdv A outer s H vs Q E hr h => ?_)
  obtain ⟨⟨xs, lv, sn, full⟩, G, e, ha, _, q⟩ := h
  cases ha with
  | @cons _ _ x _ _ hx ha =>
  cases ha
  refine ⟨_, (pss_one (ps_ret (pe_callTy (klist (K := K) rfl) (by rfl) T.z_list (by decide +kernel) (pa_cons (kfld (K := K) rfl (pv 0) rfl) pa_nil)))), ?_⟩
  exact s_ret e (ev_listT (ev_lies (ev_var rfl hx))) fun v G' H' g r => q v G' H' g r
/-- all_readings -/
abbrev sp_Levels_all_readings (T : Tp K mg) : Sp := spP (α := LevP) (fun x => [isLev T x.1 x.2.1 x.2.2.1 x.2.2.2]) (fun x => StripsOk x.2.1.strips ∧ x.2.1.offs.length = x.2.1.strips.length ∧ x.2.1.strips.length ≤ 8 ∧ x.2.1.rds.length ≤ 240) (fun x => isD K (.list (x.2.1.rds.map rdD)))
theorem ok_Levels_all_readings (T : Tp K mg) : FnOk P w K mg base CX0 2 T.f_Levels_all_readings T.fd_Levels_all_readings ["self"] (sp_Levels_all_readings T) := by
  have hk : KK K := kk
  have G_Strip_rows : FnOk P w K mg base CX0 1 T.f_Strip_rows T.fd_Strip_rows ["self"] (sp_Strip_rows T) := ok_Strip_rows T
  refine T.F_Levels_all_readings.ok sc_Levels_all_readings (fun vs H Q E ⟨x, G, e, ha, _⟩ => all2_len ha) (fun cdv A outer s H vs Q E hr h => ?_)
  obtain ⟨⟨xs, lv, sn, full⟩, G, e, ha, ⟨ok, ol, o8, o240⟩, q⟩ := h
  cases ha with
  | @cons _ _ x _ _ hx ha =>
  cases ha
  replace hx : isLev T xs lv sn full x G := hx
  replace ok : StripsOk lv.strips := ok
  replace ol : lv.offs.length = lv.strips.length := ol
  replace o240 : lv.rds.length ≤ 240 := o240
  have hall := lev_strips hx
  have hl : xs.length = lv.strips.length := by rw [all2_len hall, List.length_map]
  refine ⟨_, (pss_cons (ps_set (i := 1) sc_Levels_all_readings.nd rfl (by first | exact Or.inl rfl | exact Or.inr rfl) (pe_lst pa_nil))
      (pss_cons (ps_for PassesOwn.never rfl (kpiET (K := K) rfl (by rfl) T.z_enumerate (pa_cons (kfld (K := K) rfl (pv 0) rfl) pa_nil)) (kpgT (K := K) (n := 2) rfl rfl (pgs_cons (pg_name (i := 2) sc_Levels_all_readings.nd rfl (by first | exact Or.inl rfl | exact Or.inr rfl)) (pgs_cons (pg_name (i := 3) sc_Levels_all_readings.nd rfl (by first | exact Or.inl rfl | exact Or.inr rfl)) pgs_nil)))
        (pss_one (ps_for PassesOwn.never rfl (kpiE (K := K) rfl (by rfl) T.z_enumerate (pa_cons (pe_meth0 (pv 3) T.cl_Strip T.m_Strip_rows G_Strip_rows (hr.mono (by decide)) T.b_Strip_rows .nil pass0) pa_nil)) (kpgT (K := K) (n := 2) rfl rfl (pgs_cons (pg_name (i := 4) sc_Levels_all_readings.nd rfl (by first | exact Or.inl rfl | exact Or.inr rfl)) (pgs_cons (pg_name (i := 5) sc_Levels_all_readings.nd rfl (by first | exact Or.inl rfl | exact Or.inr rfl)) pgs_nil)))
          (pss_one (ps_for PassesOwn.never rfl (kpiE (K := K) rfl (by rfl) T.z_enumerate (pa_cons (pv 5) pa_nil)) (kpgT (K := K) (n := 2) rfl rfl (pgs_cons (pg_name (i := 6) sc_Levels_all_readings.nd rfl (by first | exact Or.inl rfl | exact Or.inr rfl)) (pgs_cons (pg_name (i := 7) sc_Levels_all_readings.nd rfl (by first | exact Or.inl rfl | exact Or.inr rfl)) pgs_nil)))
            (pss_one (ps_if (pt_cmpR op_notN (pv 7) pe_non (nomark _))
              (pss_one (ps_expr (kbm (K := K) rfl PySem.F.plainAttrs_list PySem.F.slot_list_append PySem.F.type_list_append mt_append (pv 1) (pa_cons (pe_tup (pa_cons (pv 2) (pa_cons (pe_tup (pa_cons (pv 4) (pa_cons (pv 6) pa_nil))) (pa_cons (pe_tup (pa_cons (pe_op op_add (pe_ix (kixT (K := K) rfl) (pe_ix (kixT (K := K) rfl) (kfld (K := K) rfl (pv 0) rfl) (pv 2) (fun _ _ => rfl)) pe_int (fun _ _ => rfl)) (pv 4)) (pa_cons (pe_op op_add (pe_ix (kixT (K := K) rfl) (pe_ix (kixT (K := K) rfl) (kfld (K := K) rfl (pv 0) rfl) (pv 2) (fun _ _ => rfl)) pe_int (fun _ _ => rfl)) (pv 6)) pa_nil))) (pa_cons (pv 7) pa_nil))))) pa_nil))))
              pss_nil)))))))
      (pss_one (ps_ret (pv 1))))), ?_⟩
  refine q_new (k := fun l hln => ?_)
  have hgl : G l = none := e.free hln
  have g0 : Gw [] G H G (upd H l (.lst [])) := Gw.lay e hln
  -- what holds with the readings ys so far
  let Iv : List Rd → L2.St → Hp → Hp → Prop := fun rds σ' G' H' => (∃ v2 v3 v4 v5 v6 v7, σ' = [some x, some (.ref l), v2, v3, v4, v5, v6, v7]) ∧ ∃ ys, Gw [l] G (upd H l (.lst [])) G' H' ∧ H' l = some (.lst ys) ∧ DpAll K G' ys (rds.map rdD)
  refine q_forETV g0.gh (ev_laid (ev_var rfl hx)) fun Gb Hb gb => ⟨fun k => Iv (allRd lv.strips lv.offs k), ⟨⟨_, _, _, _, _, _, rfl⟩, [], gb.weak, gb.hh _ _ upd_same (by simp), .nil⟩, ?_, ?_⟩
  · rintro k y σ1 G1 H1 hy s1 s2 ⟨⟨v2, v3, v4, v5, v6, v7, rfl⟩, ys, gw1, hl1, hd1⟩ Tk hTk
    have hkl : k < lv.strips.length := by rw [← hl]; exact (List.getElem?_eq_some_iff.mp hy).1
    obtain ⟨R, hR, hRy⟩ := all2_at hall hy
    rw [List.getElem?_map, List.getElem?_eq_getElem hkl] at hR
    cases hR
    obtain ⟨wd, okr⟩ := ok _ (List.getElem_mem hkl)
    have eS : lv.strips.getD k [] = lv.strips[k] := by simp [hkl]
    generalize hrows : lv.strips[k] = rows at hRy okr eS
    have hko : k < lv.offs.length := by omega
    generalize hoff : lv.offs.getD k (0, 0) = off
    have zoff : atI (lv.offs.map pairD) (k : Nat) = some (pairD off) := by
      refine atI_map _ (atI_nn (by omega) ?_)
      rw [← hoff]
      simp [hko]
    have gn : Gw [] G1 H1 (upd G1 Tk (.tup [.int (k : Nat), y])) (upd H1 Tk (.tup [.int (k : Nat), y])) := Gw.new s2 hTk
    refine g_tupV (K := K) (xs := [.int (k : Nat), y]) gn.gh ⟨Tk, rfl, SqT.of upd_same⟩ rfl ?_
    refine g_cons (g_cons (g_nil ?_))
    have s3 : Same G (upd G1 Tk (.tup [.int (k : Nat), y])) := gw1.gg.trans gn.gg
    have hy1 : isStrip T rows y (upd G1 Tk (.tup [.int (k : Nat), y])) := mn_isStrip _ _ _ s3 hRy
    refine s_forEL (ds := rows.map fun r => PyData.list (r.map oD)) gn.gh (ev_meth (rows, wd) rfl mn_isStrip (strip_meth (by decide +kernel)) (ev_var rfl hy1) ea_nil okr) fun Gc Hc gc => ⟨fun r σ' G' H' => (∃ v4 v5 v6 v7, σ' = [some x, some (.ref l), some (.int (k : Nat)), some y, v4, v5, v6, v7]) ∧ ∃ ys, Gw [l] G (upd H l (.lst [])) G' H' ∧ H' l = some (.lst ys) ∧ DpAll K G' ys ((allRd lv.strips lv.offs k ++ stripRd k off rows r).map rdD), ⟨⟨_, _, _, _, rfl⟩, ys, (gw1.trans gn.weak).trans gc.weak, ?_, ?_⟩, ?_, ?_⟩
    · exact gc.hh _ _ (gn.hh _ _ hl1 (by simp)) (by simp)
    · have e0 : allRd lv.strips lv.offs k ++ stripRd k off rows 0 = allRd lv.strips lv.offs k := by
        unfold stripRd
        simp
      rw [e0]
      exact dpall_mono (gn.gg.trans gc.gg) _ _ hd1
    · rintro r z d σ2 G2 H2 G3 H3 hd s4 s5 ⟨⟨v4, v5, v6, v7, rfl⟩, ys2, gw2, hl2, hd2⟩ gz hz
      rw [List.getElem?_map] at hd
      cases hq : rows[r]? with
      | none => rw [hq] at hd; cases hd
      | some row =>
      rw [hq] at hd
      cases hd
      have hrl : r < rows.length := (List.getElem?_eq_some_iff.mp hq).1
      have eR : rows.getD r [] = row := by simp [hq]
      refine g_tup (ds := [.int (r : Nat), .list (row.map oD)]) gz.gh hz rfl fun zs hzs => ?_
      cases hzs with
      | @cons a1 _ _ _ ha1 hzs =>
      cases hzs with
      | @cons a2 _ _ _ ha2 hzs =>
      cases hzs
      refine g_cons (g_cons (g_nil ?_))
      have s6 : Same G G3 := gw2.gg.trans gz.gg
      refine s_forEL (ds := row.map oD) gz.gh (ev_varD rfl ha2) fun Gd Hd gd => ⟨fun c σ' G' H' => (∃ v6 v7, σ' = [some x, some (.ref l), some (.int (k : Nat)), some y, some a1, some a2, v6, v7]) ∧ ∃ ys, Gw [l] G (upd H l (.lst [])) G' H' ∧ H' l = some (.lst ys) ∧ DpAll K G' ys ((allRd lv.strips lv.offs k ++ (stripRd k off rows r ++ rowRd k off r row c)).map rdD), ⟨⟨_, _, rfl⟩, ys2, (gw2.trans gz.weak).trans gd.weak, ?_, ?_⟩, ?_, ?_⟩
      · exact gd.hh _ _ (gz.hh _ _ hl2 (by simp)) (by simp)
      · have e0 : rowRd k off r row 0 = [] := by
          unfold rowRd
          simp
        rw [e0, List.append_nil]
        exact dpall_mono (gz.gg.trans gd.gg) _ _ hd2
      · rintro c u d σ3 G4 H4 G5 H5 hd s7 s8 ⟨⟨v6, v7, rfl⟩, ys3, gw3, hl3, hd3⟩ gu hu
        rw [List.getElem?_map] at hd
        cases hq2 : row[c]? with
        | none => rw [hq2] at hd; cases hd
        | some o =>
        rw [hq2] at hd
        cases hd
        have hcl : c < row.length := (List.getElem?_eq_some_iff.mp hq2).1
        refine g_tup (ds := [.int (c : Nat), oD o]) gu.gh hu rfl fun us hus => ?_
        cases hus with
        | @cons b1 _ _ _ hb1 hus =>
        cases hus with
        | @cons b2 _ _ _ hb2 hus =>
        cases hus
        refine g_cons (g_cons (g_nil ?_))
        have s9 : Same G G5 := gw3.gg.trans gu.gg
        have nextc : rowRd k off r row (c + 1) = rowRd k off r row c ++ cellRd k off r row c := flat_succ _ _
        have s10 : Same G3 G5 := (gd.gg.trans s7).trans gu.gg
        have ha1' : Dp K G5 a1 (.int (r : Nat)) := dpm s10 ha1
        cases o with
        | none =>
          have e1 : cellRd k off r row c = [] := by unfold cellRd; rw [hq2]
          refine s_no gu.gh (ev_shapeT (by walk_at "ev") (by rfl)) fun G6 H6 g6 => ?_
          refine ⟨G6, (s7.trans gu.gg).trans g6.gg, g6.gh, ⟨_, _, rfl⟩, ys3, (gw3.trans gu.weak).trans g6.weak, g6.hh _ _ (gu.hh _ _ hl3 (by simp)) (by simp), ?_⟩
          rw [nextc, e1, List.append_nil]
          exact dpall_mono (gu.gg.trans g6.gg) _ _ hd3
        | some v =>
          have e1 : cellRd k off r row c = [⟨k, r, c, off.1 + (r : Nat), off.2 + (c : Nat), v⟩] := by unfold cellRd; rw [hq2]
          refine s_yes gu.gh (ev_shapeT (by walk_at "ev") (by rfl)) fun G6 H6 g6 => ?_
          have hl6 : H6 l = some (.lst ys3) := g6.hh _ _ (gu.hh _ _ hl3 (by simp)) (by simp)
          have gw6 := (gw3.trans gu.weak).trans g6.weak
          have hx6 : isLev T xs lv sn full x G6 := mn_isLev _ _ _ gw6.gg hx
          have hlies : EvR (tFld K (tVar 0) "lies") [some x, some (.ref l), some (.int (k : Nat)), some y, some a1, some a2, some b1, some b2] G6 (isD K (.tuple (lv.offs.map pairD))) := ev_lies (ev_var rfl hx6)
          have hb1' := dpm g6.gg hb1
          have hb2' := dpm g6.gg hb2
          have ha1'' := dpm g6.gg ha1'
          have hlen : ys3.length ≤ 1000 := by
            rw [dpall_len hd3, List.length_map]
            have := acc_le (strips := lv.strips) (offs := lv.offs) (k := k) (r := r) (c := c) hkl (by rw [eS]; exact hrl) (by rw [eS, eR]; exact Nat.le_of_lt hcl)
            rw [hoff, eS, eR] at this
            have h2 : (allRd lv.strips lv.offs lv.strips.length).length ≤ 240 := o240
            omega
          refine s_app (K := K) (σ := [some x, some (.ref l), some (.int (k : Nat)), some y, some a1, some a2, some b1, some b2]) (R := isD K (rdD ⟨k, r, c, off.1 + (r : Nat), off.2 + (c : Nat), v⟩)) g6.gh hl6 (ev_var rfl rfl) (ev_shape (by walk_at "ev") (by rfl)) mn_isD hlen fun v7' G7 H7 g7 r7 hl7 => ?_
          have hg7 : G7 l = none := (gw6.trans g7.weak).out hgl upd_same
          refine ⟨G7, ((s7.trans gu.gg).trans g6.gg).trans g7.gg, fun a o q => ?_, ⟨_, _, rfl⟩, ys3 ++ [v7'], (gw6.trans g7.weak).trans (Gw.put g7.gh hg7 (by simp)), upd_same, ?_⟩
          · rw [upd_ne (fun z => by subst z; rw [hg7] at q; cases q)]
            exact g7.gh a o q
          · have e2 : (allRd lv.strips lv.offs k ++ (stripRd k off rows r ++ rowRd k off r row (c + 1))).map rdD = (allRd lv.strips lv.offs k ++ (stripRd k off rows r ++ rowRd k off r row c)).map rdD ++ [rdD ⟨k, r, c, off.1 + (r : Nat), off.2 + (c : Nat), v⟩] := by
              rw [nextc, e1, ← List.append_assoc, ← List.append_assoc, List.map_append, List.append_assoc]
              rfl
            rw [e2]
            exact dpall_app (dpall_mono ((gu.gg.trans g6.gg).trans g7.gg) _ _ hd3) (.cons r7 .nil)
      · rintro σ3 G4 H4 s7 s8 ⟨⟨v6, v7, rfl⟩, ys3, gw3, hl3, hd3⟩
        refine ⟨G4, (s4.trans gz.gg).trans (gd.gg.trans s7), s8, ⟨_, _, _, _, rfl⟩, ys3, gw3, hl3, ?_⟩
        have e3 : stripRd k off rows (r + 1) = stripRd k off rows r ++ rowRd k off r row row.length := by
          have := flat_succ (fun r => rowRd k off r (rows.getD r []) (rows.getD r []).length) r
          rw [eR] at this
          exact this
        rw [List.length_map] at hd3
        rw [e3]
        exact hd3
    · rintro σ2 G2 H2 s4 s5 ⟨⟨v4, v5, v6, v7, rfl⟩, ys2, gw2, hl2, hd2⟩
      refine ⟨G2, s1.trans (gn.gg.trans (gc.gg.trans s4)), s5, ⟨_, _, _, _, _, _, rfl⟩, ys2, gw2, hl2, ?_⟩
      have e3 : allRd lv.strips lv.offs (k + 1) = allRd lv.strips lv.offs k ++ stripRd k off rows rows.length := by
        have := flat_succ (fun k => stripRd k (lv.offs.getD k (0, 0)) (lv.strips.getD k []) (lv.strips.getD k []).length) k
        rw [eS, hoff] at this
        exact this
      rw [List.length_map] at hd2
      rw [e3]
      exact hd2
  · rintro σ1 G1 H1 s1 s2 ⟨⟨v2, v3, v4, v5, v6, v7, rfl⟩, ys, gw1, hl1, hd1⟩
    have gA : Gw [] G H (upd G1 l (.lst ys)) H1 := ((Gw.lay e hln).weak.trans gw1).fix e hln hl1
    refine s_ret (R := isV (.ref l)) gA.gh (ev_var rfl rfl) fun v G' H' g r => q v G' H' (gA.trans g) ?_
    cases r
    have hg1 : G1 l = none := gw1.out hgl upd_same
    refine dpm g.gg (.lst (SqL.of upd_same) (dpall_mono (same_new hg1) _ _ ?_))
    rw [hl] at hd1
    exact hd1
end

section
variable {P : Program} {w : World} {K : PySem.W.Frag} {mg : Str → Option Value} {base : Heap}
structure LevOk (lv : LevD) : Prop where
  strips : StripsOk lv.strips
  n1 : 1 ≤ lv.strips.length
  n8 : lv.strips.length ≤ 8
  offs : lv.offs.length = lv.strips.length
  noise : 0 ≤ lv.noise
  ranges : lv.ranges.length = lv.strips.length
  rng : ∀ r ∈ lv.ranges, r.1 ≤ r.2
  d40 : lv.datums.length ≤ 40
  dat : ∀ d ∈ lv.datums, d.2.1 ≤ d.2.2
  r240 : lv.rds.length ≤ 240
  few : ∃ D : List (Int × Int), D.length ≤ 48 ∧ ∀ q ∈ lv.spots, q ∈ D
abbrev sp_Levels___init (T : Tp K mg) : Sp := spI (α := List V × LevD) T.C_Levels (fun x => [fun v G => lsV K x.1 v G ∧ All2 (x.2.strips.map (isStrip T)) x.1 G, isD K (.list (x.2.offs.map pairD)), isD K (.int x.2.noise), isD K (.list (x.2.ranges.map pairD)), isD K (.list (x.2.datums.map datumD))])
  (fun x => LevOk x.2) (fun x fs G => ∃ sn, SortedOf x.2.spots sn ∧ levF T x.1 x.2 sn true fs G)
theorem dp_lsA {K : PySem.W.Frag} {α : Type} {f : α → PyData} {l : List α} {v : V} {G : Hp} (h : Dp K G v (.list (l.map f))) : ∃ xs, xs.length = l.length ∧ (lsV K xs v G ∧ All2 (l.map fun x => isD K (f x)) xs G) := by
  cases h with
  | @lst a xs _ hs hd =>
    have := all2_dp hd
    rw [List.map_map] at this
    exact ⟨xs, by rw [dpall_len hd, List.length_map], ⟨a, rfl, hs⟩, this⟩
theorem ok_Levels___init (T : Tp K mg) : FnOk P w K mg base CX0 5 T.f_Levels___init T.fd_Levels___init ["self", "strips", "offsets", "noise", "biases", "datums"] (sp_Levels___init T) := by
  have hk : KK K := kk
  have G_is_whole : FnOk P w K mg base CX0 1 T.f_is_whole T.fd_is_whole ["thing"] (sp_is_whole K) := ok_is_whole T
  have G_Levels_all_readings : FnOk P w K mg base CX0 2 T.f_Levels_all_readings T.fd_Levels_all_readings ["self"] (sp_Levels_all_readings T) := ok_Levels_all_readings T
  have F_strip : FnOk P w K mg base CX0 3 T.f_is_strip T.fd_is_strip ["thing"] (spP (fun x => [isStrip T x]) (fun _ => True) (fun _ => isD K (.bool true))) := (ok_is_strip T).mono (by decide)
  have F_spot : FnOk P w K mg base CX0 3 T.f_is_spot T.fd_is_spot ["thing"] (spP (fun x : Int × Int => [isD K (pairD x)]) (fun _ => True) (fun _ => isD K (.bool true))) := ((ok_is_spot T).mono (by decide)).imp fun vs H Q E ⟨x, G, e, ha, _, q⟩ => ⟨[pairD x], G, e, dp_all2 (ds := [pairD x]) ha, rfl, fun v G' H' g r => q v G' H' g r⟩
  have F_range : FnOk P w K mg base CX0 3 T.f_is_range T.fd_is_range ["thing"] (spP (fun x : Int × Int => [isD K (pairD x)]) (fun x => x.1 ≤ x.2) (fun _ => isD K (.bool true))) := ((ok_is_range T).mono (by decide)).imp fun vs H Q E ⟨x, G, e, ha, h1, q⟩ => ⟨x, G, e, ha, trivial, fun v G' H' g r => q v G' H' g (isD_to r (by rw [decide_eq_true h1]))⟩
  have F_datum : FnOk P w K mg base CX0 3 T.f_is_datum T.fd_is_datum ["thing"] (spP (fun x : (Int × Int) × Int × Int => [isD K (datumD x)]) (fun x => x.2.1 ≤ x.2.2) (fun _ => isD K (.bool true))) := (ok_is_datum T).imp fun vs H Q E ⟨x, G, e, ha, h1, q⟩ => ⟨x, G, e, ha, trivial, fun v G' H' g r => q v G' H' g (isD_to r (by rw [decide_eq_true h1]))⟩
  have G_cp1 := ok_check_part (P := P) (w := w) (base := base) T (fun _ => mn_isStrip) F_strip T.F_is_strip.kp T.b_is_strip
  have G_cp2 := ok_check_part (P := P) (w := w) (base := base) T (fun _ => mn_isD) F_spot T.F_is_spot.kp T.b_is_spot
  have G_cp3 := ok_check_part (P := P) (w := w) (base := base) T (fun _ => mn_isD) F_range T.F_is_range.kp T.b_is_range
  have G_cp4 := ok_check_part (P := P) (w := w) (base := base) T (fun _ => mn_isD) F_datum T.F_is_datum.kp T.b_is_datum
  refine T.F_Levels___init.ok sc_Levels___init (fun vs H Q E ⟨x, G, p, dx, ws, h, _, _, _, ha, _⟩ => by rw [h, List.length_cons, all2_len ha]; rfl) (fun cdv A outer s H vs Q E hr h => ?_)
  obtain ⟨⟨xs, lv⟩, G, p, dx, ws, rfl, e, hp, hH, ha, ok, q⟩ := h
  cases ha with
  | @cons _ _ x1 _ _ hx1 ha =>
  cases ha with
  | @cons _ _ x2 _ _ hx2 ha =>
  cases ha with
  | @cons _ _ x3 _ _ hx3 ha =>
  cases ha with
  | @cons _ _ x4 _ _ hx4 ha =>
  cases ha with
  | @cons _ _ x5 _ _ hx5 ha =>
  cases ha
  replace ok : LevOk lv := ok
  obtain ⟨hx1, hall⟩ := hx1
  replace hx1 : lsV K xs x1 G := hx1
  replace hall : All2 (lv.strips.map (isStrip T)) xs G := hall
  replace hx2 : Dp K G x2 (.list (lv.offs.map pairD)) := hx2
  replace hx3 : Dp K G x3 (.int lv.noise) := hx3
  replace hx4 : Dp K G x4 (.list (lv.ranges.map pairD)) := hx4
  replace hx5 : Dp K G x5 (.list (lv.datums.map datumD)) := hx5
  have hl : xs.length = lv.strips.length := by rw [all2_len hall, List.length_map]
  have hu := Nat.lt_of_le_of_lt (Nat.add_le_add_left (by decide : 64 ≤ 16 * 4 + 200) _) (by have := hr.un; rw [Nat.add_assoc] at this; exact this)
  refine ⟨_, (pss_cons (ps_expr (pe_call G_cp1 (hr.mono (by decide)) rfl T.g_check_part T.F_check_part.kp T.b_check_part .nil pass0 (pa_cons pe_str (pa_cons (pv 1) (pa_cons pe_int (pa_cons (pe_glob (v := .int 8) rfl T.g_MOST_STRIPS ⟨_, rfl⟩) (pa_cons (pe_glob (v := .ref T.f_is_strip) rfl T.g_is_strip rfl) pa_nil)))))))
      (pss_cons (ps_expr (pe_call G_cp2 (hr.mono (by decide)) rfl T.g_check_part T.F_check_part.kp T.b_check_part .nil pass0 (pa_cons pe_str (pa_cons (pv 2) (pa_cons (pe_callB (klen (K := K) rfl) (by rfl) T.z_len (by decide +kernel) (pa_cons (pv 1) pa_nil)) (pa_cons (pe_callB (klen (K := K) rfl) (by rfl) T.z_len (by decide +kernel) (pa_cons (pv 1) pa_nil)) (pa_cons (pe_glob (v := .ref T.f_is_spot) rfl T.g_is_spot rfl) pa_nil)))))))
      (pss_cons (ps_if (PW.pt (pw_or (pt_not (pt_val (pe_call G_is_whole (hr.mono (by decide)) rfl T.g_is_whole T.F_is_whole.kp T.b_is_whole .nil pass0 (pa_cons (pv 3) pa_nil)))) (pw_or1 (pt_cmpR op_lt (pv 3) pe_int (nomark _)))))
        (pss_one ps_never)
        pss_nil)
      (pss_cons (ps_expr (pe_call G_cp3 (hr.mono (by decide)) rfl T.g_check_part T.F_check_part.kp T.b_check_part .nil pass0 (pa_cons pe_str (pa_cons (pv 4) (pa_cons (pe_callB (klen (K := K) rfl) (by rfl) T.z_len (by decide +kernel) (pa_cons (pv 1) pa_nil)) (pa_cons (pe_callB (klen (K := K) rfl) (by rfl) T.z_len (by decide +kernel) (pa_cons (pv 1) pa_nil)) (pa_cons (pe_glob (v := .ref T.f_is_range) rfl T.g_is_range rfl) pa_nil)))))))
      (pss_cons (ps_expr (pe_call G_cp4 (hr.mono (by decide)) rfl T.g_check_part T.F_check_part.kp T.b_check_part .nil pass0 (pa_cons pe_str (pa_cons (pv 5) (pa_cons pe_int (pa_cons (pe_glob (v := .int 40) rfl T.g_MOST_DATUMS ⟨_, rfl⟩) (pa_cons (pe_glob (v := .ref T.f_is_datum) rfl T.g_is_datum rfl) pa_nil)))))))
      (pss_cons (kfldS (K := K) rfl (pv 0) (pe_callTy (ktup (K := K) rfl) (by rfl) T.z_tuple (by decide +kernel) (pa_cons (pv 1) pa_nil)) rfl)
      (pss_cons (kfldS (K := K) rfl (pv 0) (pe_callTy (ktup (K := K) rfl) (by rfl) T.z_tuple (by decide +kernel) (pa_cons (pv 2) pa_nil)) rfl)
      (pss_cons (kfldS (K := K) rfl (pv 0) (pv 3) rfl)
      (pss_cons (kfldS (K := K) rfl (pv 0) (pe_callTy (ktup (K := K) rfl) (by rfl) T.z_tuple (by decide +kernel) (pa_cons (pv 4) pa_nil)) rfl)
      (pss_cons (kfldS (K := K) rfl (pv 0) (pe_callTy (ktup (K := K) rfl) (by rfl) T.z_tuple (by decide +kernel) (pa_cons (pv 5) pa_nil)) rfl)
      (pss_cons (kfldS (K := K) rfl (pv 0) (pe_meth0 (pv 0) T.cl_Levels T.m_Levels_all_readings G_Levels_all_readings (hr.mono (by decide)) T.b_Levels_all_readings .nil pass0) rfl)
      (pss_cons (ps_set (i := 6) sc_Levels___init.nd rfl (by first | exact Or.inl rfl | exact Or.inr rfl) (pe_callTy (ksetM (K := K) (P := P) (w := w) rfl rfl rfl rfl hu) (by rfl) T.z_set (by decide +kernel) (pa_cons (pe_op op_cat (pe_lc (own := [("k", 7), ("cell", 8), ("spot", 9), ("one", 10)]) rfl sc_Levels___init.nd (kpiL (K := K) rfl (kfld (K := K) rfl (pv 0) rfl)) (blkOk_by (N := ["self", "strips", "offsets", "noise", "biases", "datums", "found", "k", "cell", "spot", "one", "datum"]) (sc := defScope s_Levels___init) (by decide +kernel)) (fun _ _ _ _ _ => (kpgT (K := K) (n := 4) rfl rfl (pgs_cons (pg_name (i := 7) sc_Levels___init.nd rfl (by first | exact Or.inl rfl | exact Or.inr rfl)) (pgs_cons (pg_name (i := 8) sc_Levels___init.nd rfl (by first | exact Or.inl rfl | exact Or.inr rfl)) (pgs_cons (pg_name (i := 9) sc_Levels___init.nd rfl (by first | exact Or.inl rfl | exact Or.inr rfl)) (pgs_cons (pg_name (i := 10) sc_Levels___init.nd rfl (by first | exact Or.inl rfl | exact Or.inr rfl)) pgs_nil)))))) (fun _ _ _ _ _ => pts_nil) (fun _ _ _ _ _ => (pv 9))) (pe_lc (own := [("datum", 11)]) rfl sc_Levels___init.nd (kpiL (K := K) rfl (pv 5)) (blkOk_by (N := ["self", "strips", "offsets", "noise", "biases", "datums", "found", "k", "cell", "spot", "one", "datum"]) (sc := defScope s_Levels___init) (by decide +kernel)) (fun _ _ _ _ _ => (pg_name (i := 11) sc_Levels___init.nd rfl (by first | exact Or.inl rfl | exact Or.inr rfl))) (fun _ _ _ _ _ => pts_nil) (fun _ _ _ _ _ => (pe_ix (kixT (K := K) rfl) (pv 11) pe_int (fun _ _ => rfl))))) pa_nil)))
      (pss_cons (kfldS (K := K) rfl (pv 0) (pe_callTy (ktup (K := K) rfl) (by rfl) T.z_tuple (by decide +kernel) (pa_cons (pe_callB (ksortS (K := K) (P := P) (w := w) rfl rfl rfl rfl) (by rfl) T.z_sorted (by decide +kernel) (pa_cons (pv 6) pa_nil)) pa_nil)) rfl)
      (pss_cons (ps_if (pt_cmpR op_gt (pe_callB (klen (K := K) rfl) (by rfl) T.z_len (by decide +kernel) (pa_cons (kfld (K := K) rfl (pv 0) rfl) pa_nil)) (pe_glob (v := .int 48) rfl T.g_MOST_SPOTS_levels ⟨_, rfl⟩) (nomark _))
        (pss_one ps_never)
        pss_nil)
      (pss_one (ps_if (pt_cmpR op_gt (pe_callB (klen (K := K) rfl) (by rfl) T.z_len (by decide +kernel) (pa_cons (kfld (K := K) rfl (pv 0) rfl) pa_nil)) (pe_glob (v := .int 240) rfl T.g_MOST_READINGS ⟨_, rfl⟩) (nomark _))
        (pss_one ps_never)
        pss_nil)))))))))))))))), ?_⟩
  obtain rfl : x3 = V.int lv.noise := by cases hx3; rfl
  obtain ⟨ys2, ly2, hy2⟩ := dp_lsA hx2
  obtain ⟨ys4, ly4, hy4⟩ := dp_lsA hx4
  obtain ⟨ys5, ly5, hy5⟩ := dp_lsA hx5
  have m1 : Mn (fun v G => lsV K xs v G ∧ All2 (lv.strips.map (isStrip T)) xs G) := mn_lsA (mns_strips T _)
  have m2 : Mn (fun v G => lsV K ys2 v G ∧ All2 (lv.offs.map fun x => isD K (pairD x)) ys2 G) := mn_lsA (mns_map (fun _ => mn_isD) _)
  have m4 : Mn (fun v G => lsV K ys4 v G ∧ All2 (lv.ranges.map fun x => isD K (pairD x)) ys4 G) := mn_lsA (mns_map (fun _ => mn_isD) _)
  have m5 : Mn (fun v G => lsV K ys5 v G ∧ All2 (lv.datums.map fun x => isD K (datumD x)) ys5 G) := mn_lsA (mns_map (fun _ => mn_isD) _)
  have n1 := ok.n1
  have n8 := ok.n8
  have no := ok.offs
  have nr := ok.ranges
  have nd := ok.d40
  have S0 : Slf p T.C_Levels dx G H G H [] := ⟨Gw.refl e, hH, hp⟩
  refine q_drop e (ev_call (lv.strips, xs, 1, 8) (ea_cons mn_any (ev_c trivial) (ea_cons m1 (ev_var rfl ⟨hx1, hall⟩) (ea_cons mn_isD ev_int (ea_cons mn_isD ev_int (ea_cons mn_isV (ev_c rfl) ea_nil))))) ?pre1) ?next1
  case pre1 => exact ⟨(by omega : (1 : Int) ≤ (lv.strips.length : Nat)), (by omega : ((lv.strips.length : Nat) : Int) ≤ 8), fun _ _ => trivial⟩
  intro v1 G1 H1 g1 _
  have S1 := S0.step g1
  have hx1a := mn_lsV _ _ _ g1.gg hx1
  refine q_drop g1.gh (ev_call (lv.offs, ys2, ((xs.length : Nat) : Int), ((xs.length : Nat) : Int)) (ea_cons mn_any (ev_c trivial) (ea_cons m2 (ev_var rfl (m2 _ _ _ g1.gg hy2)) (ea_cons mn_isD (ev_lenV (ev_var rfl hx1a)) (ea_cons mn_isD (ev_lenV (ev_var rfl hx1a)) (ea_cons mn_isV (ev_c rfl) ea_nil))))) ?pre2) ?next2
  case pre2 => exact ⟨(by omega : ((xs.length : Nat) : Int) ≤ (lv.offs.length : Nat)), (by omega : ((lv.offs.length : Nat) : Int) ≤ (xs.length : Nat)), fun _ _ => trivial⟩
  intro v2 G2 H2 g2 _
  have S2 := S1.step g2
  have hx3b := dpm (g1.gg.trans g2.gg) hx3
  have hneg : decide (lv.noise < 0) = false := decide_eq_false (by have := ok.noise; omega)
  refine q_no g2.gh (et_or (b := false) (et_not (b := true) (et_BK hk (ev_shape (ev_callD (ds := [.int lv.noise]) (ed_cons (ev_varD rfl hx3b) ed_nil) rfl) (by rfl)))) fun _ => et_testK hk (ev_shape (ev_lt (i := lv.noise) (j := 0) (ev_varD rfl hx3b) ev_int) (by rw [hneg]))) fun G3 H3 g3 => ?_
  have S3 := S2.step g3
  have u3 : Same G G3 := (g1.gg.trans g2.gg).trans g3.gg
  have hx1c := mn_lsV _ _ _ u3 hx1
  refine q_drop g3.gh (ev_call (lv.ranges, ys4, ((xs.length : Nat) : Int), ((xs.length : Nat) : Int)) (ea_cons mn_any (ev_c trivial) (ea_cons m4 (ev_var rfl (m4 _ _ _ u3 hy4)) (ea_cons mn_isD (ev_lenV (ev_var rfl hx1c)) (ea_cons mn_isD (ev_lenV (ev_var rfl hx1c)) (ea_cons mn_isV (ev_c rfl) ea_nil))))) ?pre3) ?next3
  case pre3 => exact ⟨(by omega : ((xs.length : Nat) : Int) ≤ (lv.ranges.length : Nat)), (by omega : ((lv.ranges.length : Nat) : Int) ≤ (xs.length : Nat)), ok.rng⟩
  intro v4 G4 H4 g4 _
  have S4 := S3.step g4
  have u4 := u3.trans g4.gg
  refine q_drop g4.gh (ev_call (lv.datums, ys5, 0, 40) (ea_cons mn_any (ev_c trivial) (ea_cons m5 (ev_var rfl (m5 _ _ _ u4 hy5)) (ea_cons mn_isD ev_int (ea_cons mn_isD ev_int (ea_cons mn_isV (ev_c rfl) ea_nil))))) ?pre4) ?next4
  case pre4 => exact ⟨(by omega : (0 : Int) ≤ (lv.datums.length : Nat)), (by omega : ((lv.datums.length : Nat) : Int) ≤ 40), ok.dat⟩
  intro v5 G5 H5 g5 _
  have S5 := S4.step g5
  have u5 := u4.trans g5.gg
  clear m1 m2 m4 m5 hy2 hy4 hy5 G_cp1 G_cp2 G_cp3 G_cp4 F_strip F_spot F_range F_datum
  -- the attributes
  refine q_fldSet (K := K) (R := tpV K xs) g5.gh S5.at_ T.cl_Levels T.n_Levels_laid (Nat.lt_of_le_of_lt (Nat.le_refl 0) (by decide)) mn_tpV (ev_tupLV (ev_var rfl (mn_lsV _ _ _ u5 hx1))) (ev_var rfl rfl) fun t1 G6 H6 g6 r1 h6 => ?_
  have S6 := (S5.step g6).put (fs' := putF "laid" t1 [])
  have u6 := u5.trans g6.gg
  refine q_fldSet (K := K) (R := isD K (.tuple (lv.offs.map pairD))) S6.gw.gh S6.at_ T.cl_Levels T.n_Levels_lies (Nat.lt_of_le_of_lt (pl (Nat.le_refl 0)) (by decide)) mn_isD (ev_tupleL (ev_varD rfl (dpm u6 hx2))) (ev_var rfl rfl) fun t2 G7 H7 g7 r2 h7 => ?_
  have S7 := (S6.step g7).put (fs' := putF "lies" t2 (putF "laid" t1 []))
  have u7 := u6.trans g7.gg
  refine q_fldSet (K := K) (R := isV (.int lv.noise)) S7.gw.gh S7.at_ T.cl_Levels T.n_Levels_spread (Nat.lt_of_le_of_lt (pl (pl (Nat.le_refl 0))) (by decide)) mn_isV (ev_var rfl rfl) (ev_var rfl rfl) fun t3 G8 H8 g8 r3 h8 => ?_
  cases r3
  have S8 := (S7.step g8).put (fs' := putF "spread" (.int lv.noise) (putF "lies" t2 (putF "laid" t1 [])))
  have u8 := u7.trans g8.gg
  refine q_fldSet (K := K) (R := isD K (.tuple (lv.ranges.map pairD))) S8.gw.gh S8.at_ T.cl_Levels T.n_Levels_ranges (Nat.lt_of_le_of_lt (pl (pl (pl (Nat.le_refl 0)))) (by decide)) mn_isD (ev_tupleL (ev_varD rfl (dpm u8 hx4))) (ev_var rfl rfl) fun t4 G9 H9 g9 r4 h9 => ?_
  have S9 := (S8.step g9).put (fs' := putF "ranges" t4 (putF "spread" (.int lv.noise) (putF "lies" t2 (putF "laid" t1 []))))
  have u9 := u8.trans g9.gg
  refine q_fldSet (K := K) (R := isD K (.tuple (lv.datums.map datumD))) S9.gw.gh S9.at_ T.cl_Levels T.n_Levels_known (Nat.lt_of_le_of_lt (pl (pl (pl (pl (Nat.le_refl 0))))) (by decide)) mn_isD (ev_tupleL (ev_varD rfl (dpm u9 hx5))) (ev_var rfl rfl) fun t5 G10 H10 g10 r5 h10 => ?_
  have S10 := (S9.step g10).put (fs' := putF "known" t5 (putF "ranges" t4 (putF "spread" (.int lv.noise) (putF "lies" t2 (putF "laid" t1 [])))))
  have u10 := u9.trans g10.gg
  have w1 : putF "lies" (t2) [(("laid" : Str), t1)] = [(("laid" : Str), t1), (("lies" : Str), t2)] := putF_new (names := ["laid"]) rfl (by decide +kernel)
  have w2 : putF "spread" (V.int lv.noise) [(("laid" : Str), t1), (("lies" : Str), t2)] = [(("laid" : Str), t1), (("lies" : Str), t2), (("spread" : Str), V.int lv.noise)] := putF_new (names := ["laid", "lies"]) rfl (by decide +kernel)
  have w3 : putF "ranges" (t4) [(("laid" : Str), t1), (("lies" : Str), t2), (("spread" : Str), V.int lv.noise)] = [(("laid" : Str), t1), (("lies" : Str), t2), (("spread" : Str), V.int lv.noise), (("ranges" : Str), t4)] := putF_new (names := ["laid", "lies", "spread"]) rfl (by decide +kernel)
  have w4 : putF "known" (t5) [(("laid" : Str), t1), (("lies" : Str), t2), (("spread" : Str), V.int lv.noise), (("ranges" : Str), t4)] = [(("laid" : Str), t1), (("lies" : Str), t2), (("spread" : Str), V.int lv.noise), (("ranges" : Str), t4), (("known" : Str), t5)] := putF_new (names := ["laid", "lies", "spread", "ranges"]) rfl (by decide +kernel)
  have efs : putF "known" t5 (putF "ranges" t4 (putF "spread" (.int lv.noise) (putF "lies" t2 (putF "laid" t1 [])))) = [(("laid" : Str), t1), (("lies" : Str), t2), (("spread" : Str), V.int lv.noise), (("ranges" : Str), t4), (("known" : Str), t5)] := by
    rw [putF_nil, w1, w2, w3, w4]
  rw [efs] at S10 ⊢
  have q1 : tpV K xs t1 G10 := mn_tpV _ _ _ ((((g7.gg.trans g8.gg).trans g9.gg)).trans g10.gg) r1
  have q2 := dpm ((g8.gg.trans g9.gg).trans g10.gg) r2
  have q4 := dpm g10.gg r4
  have q5 : Dp K G10 t5 (.tuple (lv.datums.map datumD)) := r5
  have qs := hall.mono u10 (mns_strips T _)
  have hlev : isLev T xs lv [] false (.ref p) (upd G10 p (.ins T.C_Levels dx [(("laid" : Str), t1), (("lies" : Str), t2), (("spread" : Str), V.int lv.noise), (("ranges" : Str), t4), (("known" : Str), t5)])) :=
    ⟨p, dx, _, rfl, upd_same, t1, t2, t4, t5, [], rfl, rfl, mn_tpV _ _ _ S10.up q1, qs.mono S10.up (mns_strips T _), dpm S10.up q2, dpm S10.up q4, dpm S10.up q5⟩
  refine q_fldSet (K := K) (R := isD K (.list (lv.rds.map rdD))) S10.into S10.at_ T.cl_Levels T.n_Levels_readings (by simp) mn_isD (ev_meth (xs, lv, [], false) rfl mn_isLev (lev_meth (by decide +kernel)) (ev_var rfl hlev) ea_nil ⟨ok.strips, ok.offs, ok.n8, ok.r240⟩) (ev_var rfl rfl) fun t6 G11 H11 g11 r6 h11 => ?_
  have efs6 : putF "readings" t6 [(("laid" : Str), t1), (("lies" : Str), t2), (("spread" : Str), V.int lv.noise), (("ranges" : Str), t4), (("known" : Str), t5)] = [(("laid" : Str), t1), (("lies" : Str), t2), (("spread" : Str), V.int lv.noise), (("ranges" : Str), t4), (("known" : Str), t5), (("readings" : Str), t6)] := putF_new (names := ["laid", "lies", "spread", "ranges", "known"]) rfl (by decide +kernel)
  have S11 := (S10.back g11).put (fs' := putF "readings" t6 [(("laid" : Str), t1), (("lies" : Str), t2), (("spread" : Str), V.int lv.noise), (("ranges" : Str), t4), (("known" : Str), t5)])
  rw [efs6] at S11 ⊢
  have k11 := S10.keep g11
  have q6 : Dp K (less p G11) t6 (.list (lv.rds.map rdD)) := less_dp (S10.still g11) _ _ r6
  obtain ⟨Dd, hD1, hD2⟩ := ok.few
  have hx5f : Dp K (upd (less p G11) p (.ins T.C_Levels dx [(("laid" : Str), t1), (("lies" : Str), t2), (("spread" : Str), V.int lv.noise), (("ranges" : Str), t4), (("known" : Str), t5), (("readings" : Str), t6)])) x5 (.list (lv.datums.map datumD)) := dpm ((u10.trans k11).trans S11.up) hx5
  have r240 := ok.r240
  refine q_set (R := isSet K P w lv.spots) S11.into (ev_setM Dd (by omega) hD2 (ev_shape (ev_dl (ev_cat (ds := (lv.rds.map rdD).map thirdD) (es := (lv.datums.map datumD).map firstD)
      (ev_lcG thirdD (ev_slf T.cl_Levels T.n_Levels_readings rfl upd_same (by rw [lk_past (by decide +kernel), lk_past (by decide +kernel), lk_past (by decide +kernel), lk_past (by decide +kernel), lk_past (by decide +kernel)]; exact lk_here) (dpm S11.up q6) mn_isD) (by rw [List.length_map]; omega) ?c1)
      (ev_lcG firstD (ev_varD rfl hx5f) (by rw [List.length_map]; omega) ?c2) (by simp only [List.length_map]; omega))) ?c3)) ?c4
  case c1 =>
    rintro x d Ga Ha s1 s2 hd hxd
    obtain ⟨rd, _, rfl⟩ := List.mem_map.mp hd
    cases hxd with
    | @tup a zs _ hs hzs =>
    cases hzs with
    | @cons a1 _ _ _ b1 hzs =>
    cases hzs with
    | @cons a2 _ _ _ b2 hzs =>
    cases hzs with
    | @cons a3 _ _ _ b3 hzs =>
    cases hzs with
    | @cons a4 _ _ _ b4 hzs =>
    cases hzs
    exact ⟨_, fun Q' q' => ⟨a, _, rfl, same_t s2 hs, rfl, g_cons (g_cons (g_cons (g_cons (g_nil q'))))⟩, rfl, ev_varD rfl b3⟩
  case c2 =>
    rintro x d Ga Ha s1 s2 hd hxd
    obtain ⟨dt, _, rfl⟩ := List.mem_map.mp hd
    exact ⟨_, fun Q' q' => q', rfl, ev_shape (ev_ixT (ds := [pairD dt.1, .int dt.2.1, .int dt.2.2]) (i := 0) (by rfl) (ev_varD rfl hxd) ev_int) (by rfl)⟩
  case c3 =>
    unfold LevD.spots
    rw [List.map_append, List.map_map, List.map_map, List.map_map, List.map_map]
    rfl
  intro f1 G12 H12 g12 r12
  have S12 := S11.back g12
  have k12 := S11.keep g12
  have qf := less_set (S11.still g12) r12
  refine q_fldSet (K := K) (R := fun v G' => ∃ out, SortedOf lv.spots out ∧ Dp K G' v (.tuple (out.map pairD))) S12.gw.gh S12.at_ T.cl_Levels T.n_Levels_seen (by simp) (fun v G G' e ⟨x, h1, h2⟩ => ⟨x, h1, dpm e h2⟩) (ev_tupleEx (ev_sortS (ev_var rfl qf))) (ev_var rfl rfl) fun t7 G13 H13 g13 ⟨sn, hsn, r7⟩ h13 => ?_
  have efs7 : putF "seen" t7 [(("laid" : Str), t1), (("lies" : Str), t2), (("spread" : Str), V.int lv.noise), (("ranges" : Str), t4), (("known" : Str), t5), (("readings" : Str), t6)] = [(("laid" : Str), t1), (("lies" : Str), t2), (("spread" : Str), V.int lv.noise), (("ranges" : Str), t4), (("known" : Str), t5), (("readings" : Str), t6), (("seen" : Str), t7)] := putF_new (names := ["laid", "lies", "spread", "ranges", "known", "readings"]) rfl (by decide +kernel)
  have S13 := (S12.step g13).put (fs' := putF "seen" t7 [(("laid" : Str), t1), (("lies" : Str), t2), (("spread" : Str), V.int lv.noise), (("ranges" : Str), t4), (("known" : Str), t5), (("readings" : Str), t6)])
  rw [efs7] at S13 ⊢
  have snl : sn.length ≤ 48 := Nat.le_trans (pigeon sn Dd hsn.nd fun z hz => hD2 z ((hsn.mem z).mp hz)) hD1
  have b1 : decide (48 < (((sn.map pairD).length : Nat) : Int)) = false := decide_eq_false (by rw [List.length_map]; omega)
  have b2 : decide (240 < (((lv.rds.map rdD).length : Nat) : Int)) = false := decide_eq_false (by rw [List.length_map]; omega)
  refine q_no S13.into (et_testK hk (ev_shape (ev_gt (i := (((sn.map pairD).length : Nat) : Int)) (j := 48) (ev_lenT (ev_slf T.cl_Levels T.n_Levels_seen rfl upd_same (by rw [lk_past (by decide +kernel), lk_past (by decide +kernel), lk_past (by decide +kernel), lk_past (by decide +kernel), lk_past (by decide +kernel), lk_past (by decide +kernel)]; exact lk_here) (dpm S13.up r7) mn_isD)) ev_int) (by rw [b1]))) fun G14 H14 g14 => ?_
  have q6' : Dp K G13 t6 (.list (lv.rds.map rdD)) := dpm (k12.trans g13.gg) q6
  refine s_no g14.gh (et_testK hk (ev_shape (ev_gt (i := (((lv.rds.map rdD).length : Nat) : Int)) (j := 240) (ev_lenL (ev_slf T.cl_Levels T.n_Levels_readings rfl (S13.still g14) (by rw [lk_past (by decide +kernel), lk_past (by decide +kernel), lk_past (by decide +kernel), lk_past (by decide +kernel), lk_past (by decide +kernel)]; exact lk_here) (dpm (S13.up.trans g14.gg) q6') mn_isD)) ev_int) (by rw [b2]))) fun G15 H15 g15 => ?_
  have S15 := S13.back (g14.trans g15)
  have kk15 := S13.keep (g14.trans g15)
  have uu : Same G10 (less p G15) := ((k11.trans k12).trans g13.gg).trans kk15
  exact q _ _ _ S15.gw S15.at_ ⟨sn, hsn, t1, t2, t4, t5, _, rfl, ⟨t6, t7, rfl, dpm kk15 q6', dpm kk15 r7⟩, mn_tpV _ _ _ uu q1, qs.mono uu (mns_strips T _), dpm uu q2, dpm uu q4, dpm uu q5⟩
end

section
variable {P : Program} {w : World} {K : PySem.W.Frag} {mg : Str → Option Value} {base : Heap}
abbrev sp_check_spot (K : PySem.W.Frag) : Sp := spP (α := Int × Int) (fun x => [isD K (pairD x)]) (fun _ => True) (fun _ => isD K .none)
theorem ok_check_spot (T : Tp K mg) : FnOk P w K mg base CX0 3 T.f_check_spot T.fd_check_spot ["thing"] (sp_check_spot K) := by
  have hk : KK K := kk
  have G_is_spot : FnOk P w K mg base CX0 2 T.f_is_spot T.fd_is_spot ["thing"] (sp_is_spot K) := ok_is_spot T
  refine T.F_check_spot.ok sc_check_spot (fun vs H Q E ⟨x, G, e, ha, _⟩ => all2_len ha) (fun cdv A outer s H vs Q E hr h => ?_)
  obtain ⟨⟨i, j⟩, G, e, ha, _, q⟩ := h
  cases ha with
  | @cons _ _ x _ _ hx ha =>
  cases ha
  replace hx : Dp K G x (.tuple [.int i, .int j]) := hx
  refine ⟨_, (pss_one (ps_if (pt_not (pt_val (pe_call G_is_spot (hr.mono (by decide)) rfl T.g_is_spot T.F_is_spot.kp T.b_is_spot .nil pass0 (pa_cons (pv 0) pa_nil))))
        (pss_one ps_never)
        pss_nil)), ?_⟩
  exact s_no e (et_not (b := true) (et_BK hk (ev_shape (ev_callD (ds := [.tuple [.int i, .int j]]) (ed_cons (ev_varD rfl hx) ed_nil) rfl) (by rfl)))) fun G1 H1 g1 => q _ G1 H1 g1 .non
abbrev winD (x : Int × Int × Int × Int) : PyData := .tuple [.int x.1, .int x.2.1, .int x.2.2.1, .int x.2.2.2]
structure WinOk (x : Int × Int × Int × Int) : Prop where
  r : x.1 ≤ x.2.1
  c : x.2.2.1 ≤ x.2.2.2
  n : (x.2.1 - x.1 + 1) * (x.2.2.2 - x.2.2.1 + 1) ≤ 144
  b1 : -(2 ^ 40) < x.1
  b2 : x.2.1 < 2 ^ 40
  b3 : -(2 ^ 40) < x.2.2.1
  b4 : x.2.2.2 < 2 ^ 40
abbrev sp_check_window (K : PySem.W.Frag) : Sp := spP (α := Int × Int × Int × Int) (fun x => [isD K (winD x)]) WinOk (fun _ => isD K .none)
theorem ok_check_window (T : Tp K mg) : FnOk P w K mg base CX0 2 T.f_check_window T.fd_check_window ["window"] (sp_check_window K) := by
  have hk : KK K := kk
  have G_is_whole : FnOk P w K mg base CX0 1 T.f_is_whole T.fd_is_whole ["thing"] (sp_is_whole K) := ok_is_whole T
  refine T.F_check_window.ok sc_check_window (fun vs H Q E ⟨x, G, e, ha, _⟩ => all2_len ha) (fun cdv A outer s H vs Q E hr h => ?_)
  obtain ⟨⟨a, b, c, d⟩, G, e, ha, ok, q⟩ := h
  cases ha with
  | @cons _ _ x _ _ hx ha =>
  cases ha
  replace hx : Dp K G x (.tuple [.int a, .int b, .int c, .int d]) := hx
  obtain ⟨k1, k2, k3, k4, k5, k6, k7⟩ := ok
  replace k1 : a ≤ b := k1
  replace k2 : c ≤ d := k2
  replace k3 : (b - a + 1) * (d - c + 1) ≤ 144 := k3
  replace k4 : -(2 ^ 40) < a := k4
  replace k5 : b < 2 ^ 40 := k5
  refine ⟨_, (pss_cons (ps_if (PW.pt (pw_or (pt_not (pt_val (pe_callB (kisi (K := K) rfl) (by rfl) T.z_isinstance (by decide +kernel) (pa_cons (pv 0) (pa_cons (pe_bltn (v := .ty "tuple") rfl T.z_tuple (by decide +kernel) rfl) pa_nil))))) (pw_or (pt_cmpR op_ne (pe_callB (klen (K := K) rfl) (by rfl) T.z_len (by decide +kernel) (pa_cons (pv 0) pa_nil)) pe_int (nomark _)) (pw_or1 (pt_not (pt_val (pe_callB (kall (K := K) rfl rfl) (by rfl) T.z_all (by decide +kernel) (pa_cons (pe_lc (own := [("one", 5)]) rfl sc_check_window.nd (kpiT (K := K) rfl (pv 0)) (blkOk_by (N := ["window", "low_row", "high_row", "low_column", "high_column", "one"]) (sc := defScope s_check_window) (by decide +kernel)) (fun _ _ _ _ _ => (pg_name (i := 5) sc_check_window.nd rfl (by first | exact Or.inl rfl | exact Or.inr rfl))) (fun _ _ _ _ _ => pts_nil) (fun _ _ _ _ _ => (pe_call G_is_whole (hr.mono (by decide)) rfl T.g_is_whole T.F_is_whole.kp T.b_is_whole .nil pass0 (pa_cons (pv 5) pa_nil)))) pa_nil))))))))
        (pss_one ps_never)
        pss_nil)
      (pss_cons (ps_asg (pv 0) (kpgT (K := K) (n := 4) rfl rfl (pgs_cons (pg_name (i := 1) sc_check_window.nd rfl (by first | exact Or.inl rfl | exact Or.inr rfl)) (pgs_cons (pg_name (i := 2) sc_check_window.nd rfl (by first | exact Or.inl rfl | exact Or.inr rfl)) (pgs_cons (pg_name (i := 3) sc_check_window.nd rfl (by first | exact Or.inl rfl | exact Or.inr rfl)) (pgs_cons (pg_name (i := 4) sc_check_window.nd rfl (by first | exact Or.inl rfl | exact Or.inr rfl)) pgs_nil))))))
      (pss_cons (ps_if (PW.pt (pw_or (pt_cmpR op_lt (pv 2) (pv 1) (nomark _)) (pw_or1 (pt_cmpR op_lt (pv 4) (pv 3) (nomark _)))))
        (pss_one ps_never)
        pss_nil)
      (pss_one (ps_if (pt_cmpR op_gt (pe_op op_mul (pe_op op_add (pe_op op_sub (pv 2) (pv 1)) pe_int) (pe_op op_add (pe_op op_sub (pv 4) (pv 3)) pe_int)) (pe_glob (v := .int 144) rfl T.g_MOST_SPOTS_mosaic ⟨_, rfl⟩) (nomark _))
        (pss_one ps_never)
        pss_nil))))), ?_⟩
  refine q_no e (et_or (b := false) (c := false) (ev_shapeT (by walk_at "ev") (by rfl)) fun _ => et_or (b := false) (c := false) (ev_shapeT (by walk_at "ev") (by rfl)) fun _ => et_not (b := true) (et_BK hk (ev_all (bs := [true, true, true, true]) (ev_lcT (ds := [.int a, .int b, .int c, .int d]) (fun d => .bool (isWhole d)) (by walk_at "ev") (by simp) (fun _ => rfl) fun y d G1 e1 hd hy => by walk_at "ev")))) fun G1 H1 g1 => ?_
  refine q_asg g1.gh (ev_varD rfl (dpm g1.gg hx)) fun v G2 H2 g2 r2 => ?_
  refine g_tup g2.gh r2 rfl fun us hus => ?_
  cases hus with
  | @cons a1 _ _ _ b1 hus =>
  cases hus with
  | @cons a2 _ _ _ b2 hus =>
  cases hus with
  | @cons a3 _ _ _ b3 hus =>
  cases hus with
  | @cons a4 _ _ _ b4 hus =>
  cases hus
  refine g_cons (g_cons (g_cons (g_cons (g_nil ?_))))
  have e1 : (decide (b < a) || decide (d < c)) = false := by rw [decide_eq_false (by omega), decide_eq_false (by omega)]; rfl
  refine q_no g2.gh (ev_shapeT (by walk_at "ev") (by rw [e1])) fun G3 H3 g3 => ?_
  have b1' := dpm g3.gg b1
  have b2' := dpm g3.gg b2
  have b3' := dpm g3.gg b3
  have b4' := dpm g3.gg b4
  have e2 : decide (144 < (b - a + 1) * (d - c + 1)) = false := decide_eq_false (by omega)
  refine s_no (σ := [some x, some a1, some a2, some a3, some a4, none]) g3.gh (et_testK hk (ev_shape (ev_gt (i := (b - a + 1) * (d - c + 1)) (j := 144) (ev_mul (.inl ⟨by omega, by omega⟩) (by walk_at "ev") (by walk_at "ev")) ev_int) (by rw [e2]))) fun G4 H4 g4 => q _ G4 H4 (((g1.trans g2).trans g3).trans g4) .non
/-- seen_at -/
abbrev sp_seen_at (T : Tp K mg) : Sp := spN (α := LevP × Int × Int) (fun x => [isLev T x.1.1 x.1.2.1 x.1.2.2.1 x.1.2.2.2, isD K (pairD x.2)]) (fun x => StripsOk x.1.2.1.strips ∧ x.1.2.1.offs.length = x.1.2.1.strips.length ∧ x.1.2.1.strips.length ≤ 8)
  (fun x => isDL K ((cellsF x.1.2.1.strips x.1.2.1.offs x.2 x.1.2.1.strips.length).map cellD))
theorem ok_seen_at (T : Tp K mg) : FnOk P w K mg base CX0 4 T.f_seen_at T.fd_seen_at ["levels", "spot"] (sp_seen_at T) := by
  have hk : KK K := kk
  have G_check_spot : FnOk P w K mg base CX0 3 T.f_check_spot T.fd_check_spot ["thing"] (sp_check_spot K) := ok_check_spot T
  have G_Levels_strips : FnOk P w K mg base CX0 1 T.f_Levels_strips T.fd_Levels_strips ["self"] (sp_Levels_strips T) := ok_Levels_strips T
  have G_Levels_offsets : FnOk P w K mg base CX0 1 T.f_Levels_offsets T.fd_Levels_offsets ["self"] (sp_Levels_offsets T) := ok_Levels_offsets T
  have G_Strip_has_cell : FnOk P w K mg base CX0 3 T.f_Strip_has_cell T.fd_Strip_has_cell ["self", "cell"] (sp_Strip_has_cell T) := ok_Strip_has_cell T
  refine T.F_seen_at.ok sc_seen_at (fun vs H Q E ⟨x, G, e, ha, _⟩ => all2_len ha) (fun cdv A outer s H vs Q E hr h => ?_)
  obtain ⟨⟨⟨xs, lv, sn, full⟩, i, j⟩, G, e, ha, ⟨ok, ol, o8⟩, q⟩ := h
  cases ha with
  | @cons _ _ x _ _ hx ha =>
  cases ha with
  | @cons _ _ y _ _ hy ha =>
  cases ha
  replace hx : isLev T xs lv sn full x G := hx
  replace hy : Dp K G y (pairD (i, j)) := hy
  replace ok : StripsOk lv.strips := ok
  replace ol : lv.offs.length = lv.strips.length := ol
  replace o8 : lv.strips.length ≤ 8 := o8
  have hall := lev_strips hx
  have hl : xs.length = lv.strips.length := by rw [all2_len hall, List.length_map]
  refine ⟨_, (pss_cons (ps_expr (pe_call G_check_spot (hr.mono (by decide)) rfl T.g_check_spot T.F_check_spot.kp T.b_check_spot .nil pass0 (pa_cons (pv 1) pa_nil)))
      (pss_cons (ps_set (i := 2) sc_seen_at.nd rfl (by first | exact Or.inl rfl | exact Or.inr rfl) (pe_lst pa_nil))
      (pss_cons (ps_for PassesOwn.never rfl (pi_enumZip (K := K) rfl (by rfl) T.z_enumerate (by rfl) T.z_zip (pa_cons (pe_meth0 (pv 0) T.cl_Levels T.m_Levels_strips G_Levels_strips (hr.mono (by decide)) T.b_Levels_strips .nil pass0) (pa_cons (pe_meth0 (pv 0) T.cl_Levels T.m_Levels_offsets G_Levels_offsets (hr.mono (by decide)) T.b_Levels_offsets .nil pass0) pa_nil))) (kpgT (K := K) (n := 2) rfl rfl (pgs_cons (pg_name (i := 3) sc_seen_at.nd rfl (by first | exact Or.inl rfl | exact Or.inr rfl)) (pgs_cons (kpgT (K := K) (n := 2) rfl rfl (pgs_cons (pg_name (i := 4) sc_seen_at.nd rfl (by first | exact Or.inl rfl | exact Or.inr rfl)) (pgs_cons (pg_name (i := 5) sc_seen_at.nd rfl (by first | exact Or.inl rfl | exact Or.inr rfl)) pgs_nil))) pgs_nil)))
        (pss_cons (ps_set (i := 6) sc_seen_at.nd rfl (by first | exact Or.inl rfl | exact Or.inr rfl) (pe_tup (pa_cons (pe_op op_sub (pe_ix (kixT (K := K) rfl) (pv 1) pe_int (fun _ _ => rfl)) (pe_ix (kixT (K := K) rfl) (pv 5) pe_int (fun _ _ => rfl))) (pa_cons (pe_op op_sub (pe_ix (kixT (K := K) rfl) (pv 1) pe_int (fun _ _ => rfl)) (pe_ix (kixT (K := K) rfl) (pv 5) pe_int (fun _ _ => rfl))) pa_nil))))
        (pss_one (ps_if (pt_val (pe_meth (pv 4) T.cl_Strip T.m_Strip_has_cell G_Strip_has_cell (hr.mono (by decide)) T.b_Strip_has_cell .nil pass0 (pa_cons (pv 6) pa_nil)))
          (pss_one (ps_expr (kbm (K := K) rfl PySem.F.plainAttrs_list PySem.F.slot_list_append PySem.F.type_list_append mt_append (pv 2) (pa_cons (pe_tup (pa_cons (pv 3) (pa_cons (pv 6) pa_nil))) pa_nil))))
          pss_nil))))
      (pss_one (ps_ret (pv 2)))))), ?_⟩
  refine q_drop e (ev_call (i, j) (ea_cons mn_isD (ev_var rfl hy) ea_nil) trivial) fun v0 G1 H1 g1 _ => ?_
  refine q_new (k := fun l hln => ?_)
  have hgl : G1 l = none := g1.gh.free hln
  have hHl : H l = none := g1.tr l hln
  have hx1 : isLev T xs lv sn full x G1 := mn_isLev _ _ _ g1.gg hx
  have hy1 := dpm g1.gg hy
  have g0 : Gw [] G1 H1 G1 (upd H1 l (.lst [])) := Gw.lay g1.gh hln
  have hlen8 : min (lv.strips.map (isStrip T)).length ((lv.offs.map pairD).map (isD K)).length = lv.strips.length := by rw [List.length_map, List.length_map, List.length_map, ol]; exact Nat.min_self _
  refine s_forEZO (K := K) (D := _) (mns_strips T lv.strips) (mns_map (fun _ => mn_isD) (lv.offs.map pairD)) g0.gh (ea_cons (mn_lsO (mns_strips T _)) ((ev_meth (xs, lv, sn, full) rfl mn_isLev (lev_meth (by decide +kernel)) (ev_var rfl hx1) ea_nil trivial).imp fun v G' u ⟨a, h1, h2⟩ => ⟨a, xs, h1, h2, hall.mono (g1.gg.trans u) (mns_strips T _)⟩)
    (ea_cons (mn_lsO (mns_map (fun _ => mn_isD) _)) ((ev_meth (xs, lv, sn, full) rfl mn_isLev (lev_meth (by decide +kernel)) (ev_var rfl hx1) ea_nil trivial).imp fun v G' u r => ls_of_dp r) ea_nil)) hlen8.symm fun Gb Hb gb => ?_
  refine ⟨fun k σ' G' H' => (∃ v3 v4 v5 v6, σ' = [some x, some y, some (.ref l), v3, v4, v5, v6]) ∧ ∃ ys, Gw [l] G1 (upd H1 l (.lst [])) G' H' ∧ H' l = some (.lst ys) ∧ DpAll K G' ys ((cellsF lv.strips lv.offs (i, j) k).map cellD), ⟨⟨_, _, _, _, rfl⟩, [], gb.weak, gb.hh _ _ upd_same (by simp), .nil⟩, ?_, ?_⟩
  · rintro k R S v st of T1 σ1 G2 H2 G3 H3 hk8 hR hS s1 s2 ⟨⟨v3, v4, v5, v6, rfl⟩, ys, gw, hl2, hd⟩ gz hv ht hst hof
    rw [List.getElem?_map, List.getElem?_eq_getElem hk8] at hR
    cases hR
    have hko : k < lv.offs.length := by omega
    rw [List.getElem?_map, List.getElem?_map, List.getElem?_eq_getElem hko] at hS
    cases hS
    obtain ⟨wd, okr⟩ := ok _ (List.getElem_mem hk8)
    have eS : lv.strips.getD k [] = lv.strips[k] := by simp [hk8]
    have eO : lv.offs.getD k (0, 0) = lv.offs[k] := by simp [hko]
    generalize lv.strips[k] = rows at hst okr eS
    generalize lv.offs[k] = off at hof eO
    replace hof : Dp K G3 of (.tuple [.int off.1, .int off.2]) := hof
    have sz : Same G1 G3 := gw.gg.trans gz.gg
    have hy3 : Dp K G3 y (.tuple [.int i, .int j]) := dpm sz hy1
    refine g_tupV (K := K) gz.gh hv rfl (g_cons (g_cons (g_tupV (K := K) gz.gh ht rfl (g_two (g_nil ?_)))))
    refine q_set (σ := [some x, some y, some (.ref l), some (.int (k : Nat)), some st, some of, v6]) (R := isD K (pairD (i - off.1, j - off.2))) gz.gh (ev_shape (by walk_at "ev") (by rfl)) fun cv G4 H4 g4 r4 => ?_
    have hst4 : isStrip T rows st G4 := mn_isStrip _ _ _ g4.gg hst
    have gw4 := (gw.trans gz.weak).trans g4.weak
    have hl4 : H4 l = some (.lst ys) := g4.hh _ _ (gz.hh _ _ hl2 (by simp)) (by simp)
    have next_ : cellsF lv.strips lv.offs (i, j) (k + 1) = cellsF lv.strips lv.offs (i, j) k ++ cellAt lv.strips lv.offs (i, j) k := flat_succ _ _
    have tst : EvT (tTest (tMeth T.C_Strip "has_cell" (sp_Strip_has_cell T) [] E0 (tVar 4) (tCons (tVar 6) tNil))) [some x, some y, some (.ref l), some (.int (k : Nat)), some st, some of, some cv] G4 (inB rows (i - off.1, j - off.2)) :=
      et_testK hk (ev_shape (ev_meth (rows, wd, i - off.1, j - off.2) rfl mn_isStrip (strip_meth (by decide +kernel)) (ev_var rfl hst4) (ea_cons mn_isD (ev_var rfl r4) ea_nil) okr) (by unfold inB; rw [rows_w okr]))
    refine s_if (b := inB rows (i - off.1, j - off.2)) g4.gh tst (fun hb G5 H5 g5 => ?_) fun hb G5 H5 g5 => ?_
    · have e1 : cellAt lv.strips lv.offs (i, j) k = [(k, i - off.1, j - off.2)] := by
        unfold cellAt
        rw [eS, eO]
        exact if_pos hb
      have hlen : ys.length ≤ 1000 := by
        rw [dpall_len hd, List.length_map]
        have := cells_len (strips := lv.strips) (offs := lv.offs) (spot := (i, j)) k
        omega
      have hl5 : H5 l = some (.lst ys) := g5.hh _ _ hl4 (by simp)
      have r5 := dpm g5.gg r4
      have gw5 := gw4.trans g5.weak
      refine s_app (K := K) (σ := [some x, some y, some (.ref l), some (.int (k : Nat)), some st, some of, some cv]) (R := isD K (cellD (k, i - off.1, j - off.2))) g5.gh hl5 (ev_var rfl rfl) (ev_shape (by walk_at "ev") (by rfl)) mn_isD hlen fun u G6 H6 g6 r6 hl6 => ?_
      have hg6 : G6 l = none := (gw5.trans g6.weak).out hgl upd_same
      refine ⟨G6, ((s1.trans gz.gg).trans g4.gg).trans (g5.gg.trans g6.gg), fun a o q => ?_, ⟨_, _, _, _, rfl⟩, ys ++ [u], (gw5.trans g6.weak).trans (Gw.put g6.gh hg6 (by simp)), upd_same, ?_⟩
      · rw [upd_ne (fun z => by subst z; rw [hg6] at q; cases q)]
        exact g6.gh a o q
      · rw [next_, e1, List.map_append]
        exact dpall_app (dpall_mono (((gz.gg.trans g4.gg).trans g5.gg).trans g6.gg) _ _ hd) (.cons r6 .nil)
    · have e1 : cellAt lv.strips lv.offs (i, j) k = [] := by
        unfold cellAt
        rw [eS, eO]
        exact if_neg (by rw [hb]; decide)
      refine ⟨G5, ((s1.trans gz.gg).trans g4.gg).trans g5.gg, g5.gh, ⟨_, _, _, _, rfl⟩, ys, gw4.trans g5.weak, g5.hh _ _ hl4 (by simp), ?_⟩
      rw [next_, e1, List.append_nil]
      exact dpall_mono ((gz.gg.trans g4.gg).trans g5.gg) _ _ hd
  · rintro σ1 G2 H2 s1 s2 ⟨⟨v3, v4, v5, v6, rfl⟩, ys, gw, hl2, hd⟩
    have gA : Gw [] G1 H1 (upd G2 l (.lst ys)) H2 := ((Gw.lay g1.gh hln).weak.trans gw).fix g1.gh hln hl2
    refine s_ret (R := isV (.ref l)) gA.gh (ev_var rfl rfl) fun v G' H' g r => q v G' H' ((g1.trans gA).trans g) ?_ ?_
    · cases r
      have hg2 : G2 l = none := gw.out hgl upd_same
      exact mn_isDL _ _ _ g.gg ⟨l, ys, rfl, upd_same, dpall_mono (same_new hg2) _ _ hd⟩
    · cases r
      exact ⟨l, rfl, hHl⟩
end

section
variable {P : Program} {w : World} {K : PySem.W.Frag} {mg : Str → Option Value} {base : Heap}
abbrev sp_rim_of (T : Tp K mg) : Sp := spP (α := List (List (Option Int)) × Nat × Int × Int) (fun x => [isStrip T x.1, isD K (pairD x.2.2)]) (fun x => RowsOk x.1 x.2.1) (fun x => isD K (.int (rimF x.1 x.2.2)))
theorem ok_rim_of (T : Tp K mg) : FnOk P w K mg base CX0 2 T.f_rim_of T.fd_rim_of ["strip", "cell"] (sp_rim_of T) := by
  have hk : KK K := kk
  have G_Strip_shape : FnOk P w K mg base CX0 1 T.f_Strip_shape T.fd_Strip_shape ["self"] (sp_Strip_shape T) := ok_Strip_shape T
  refine T.F_rim_of.ok sc_rim_of (fun vs H Q E ⟨x, G, e, ha, _⟩ => all2_len ha) (fun cdv A outer s H vs Q E hr h => ?_)
  obtain ⟨⟨rows, wd, r, c⟩, G, e, ha, ok, q⟩ := h
  cases ha with
  | @cons _ _ x _ _ hx ha =>
  cases ha with
  | @cons _ _ y _ _ hy ha =>
  cases ha
  replace hx : isStrip T rows x G := hx
  replace hy : Dp K G y (.tuple [.int r, .int c]) := hy
  replace ok : RowsOk rows wd := ok
  refine ⟨_, (pss_cons (ps_asg (pe_meth0 (pv 0) T.cl_Strip T.m_Strip_shape G_Strip_shape (hr.mono (by decide)) T.b_Strip_shape .nil pass0) (kpgT (K := K) (n := 2) rfl rfl (pgs_cons (pg_name (i := 2) sc_rim_of.nd rfl (by first | exact Or.inl rfl | exact Or.inr rfl)) (pgs_cons (pg_name (i := 3) sc_rim_of.nd rfl (by first | exact Or.inl rfl | exact Or.inr rfl)) pgs_nil))))
      (pss_one (ps_ret (pe_callB (call_min4 rfl) (by rfl) T.z_min (by decide +kernel) (pa_cons (pe_ix (kixT (K := K) rfl) (pv 1) pe_int (fun _ _ => rfl)) (pa_cons (pe_op op_sub (pe_op op_sub (pv 2) pe_int) (pe_ix (kixT (K := K) rfl) (pv 1) pe_int (fun _ _ => rfl))) (pa_cons (pe_ix (kixT (K := K) rfl) (pv 1) pe_int (fun _ _ => rfl)) (pa_cons (pe_op op_sub (pe_op op_sub (pv 3) pe_int) (pe_ix (kixT (K := K) rfl) (pv 1) pe_int (fun _ _ => rfl))) pa_nil)))))))), ?_⟩
  refine q_asg e (ev_meth (rows, wd) rfl mn_isStrip (strip_meth (by decide +kernel)) (ev_var rfl hx) ea_nil ok) fun v G1 H1 g1 r1 => ?_
  refine g_tup g1.gh r1 rfl fun us hus => ?_
  cases hus with
  | @cons a1 _ _ _ b1 hus =>
  cases hus with
  | @cons a2 _ _ _ b2 hus =>
  cases hus
  refine g_two ?_
  have hy1 := dpm g1.gg hy
  refine s_ret (σ := [some x, some y, some a1, some a2]) g1.gh (ev_min4 (by walk_at "ev")) fun v G' H' g z => q v G' H' (g1.trans g) (isD_to z ?_)
  show PyData.int _ = PyData.int _
  unfold rimF
  rw [rows_w ok]
/-- taken_at -/
abbrev tkF (lv : LevD) (spot : Int × Int) : PyData := takenD (takenF lv.strips (cellsF lv.strips lv.offs spot lv.strips.length))
abbrev sp_taken_at (T : Tp K mg) : Sp := spP (α := LevP × Int × Int) (fun x => [isLev T x.1.1 x.1.2.1 x.1.2.2.1 x.1.2.2.2, isD K (pairD x.2)]) (fun x => StripsOk x.1.2.1.strips ∧ x.1.2.1.offs.length = x.1.2.1.strips.length ∧ x.1.2.1.strips.length ≤ 8)
  (fun x => isD K (tkF x.1.2.1 x.2))
theorem ok_taken_at (T : Tp K mg) : FnOk P w K mg base CX0 5 T.f_taken_at T.fd_taken_at ["levels", "spot"] (sp_taken_at T) := by
  have hk : KK K := kk
  have G_seen_at := (ok_seen_at (P := P) (w := w) (base := base) T).imp (sp' := spP (α := LevP × Int × Int) (fun x => [isLev T x.1.1 x.1.2.1 x.1.2.2.1 x.1.2.2.2, isD K (pairD x.2)]) (fun x => StripsOk x.1.2.1.strips ∧ x.1.2.1.offs.length = x.1.2.1.strips.length ∧ x.1.2.1.strips.length ≤ 8)
    (fun x => isDL K ((cellsF x.1.2.1.strips x.1.2.1.offs x.2 x.1.2.1.strips.length).map cellD))) fun vs H Q E h => spN_of (E := E) h
  have G_Levels_strips : FnOk P w K mg base CX0 1 T.f_Levels_strips T.fd_Levels_strips ["self"] (sp_Levels_strips T) := ok_Levels_strips T
  have G_Strip_reading : FnOk P w K mg base CX0 4 T.f_Strip_reading T.fd_Strip_reading ["self", "cell"] (sp_Strip_reading T) := ok_Strip_reading T
  have G_rim_of : FnOk P w K mg base CX0 2 T.f_rim_of T.fd_rim_of ["strip", "cell"] (sp_rim_of T) := ok_rim_of T
  refine T.F_taken_at.ok sc_taken_at (fun vs H Q E ⟨x, G, e, ha, _⟩ => all2_len ha) (fun cdv A outer s H vs Q E hr h => ?_)
  obtain ⟨⟨⟨xs, lv, sn, full⟩, i, j⟩, G, e, ha, ⟨ok, ol, o8⟩, q⟩ := h
  cases ha with
  | @cons _ _ x _ _ hx ha =>
  cases ha with
  | @cons _ _ y _ _ hy ha =>
  cases ha
  replace hx : isLev T xs lv sn full x G := hx
  replace hy : Dp K G y (pairD (i, j)) := hy
  replace ok : StripsOk lv.strips := ok
  replace ol : lv.offs.length = lv.strips.length := ol
  replace o8 : lv.strips.length ≤ 8 := o8
  have hall := lev_strips hx
  refine ⟨_, (pss_cons (ps_set (i := 2) sc_taken_at.nd rfl (by first | exact Or.inl rfl | exact Or.inr rfl) (pe_meth0 (pv 0) T.cl_Levels T.m_Levels_strips G_Levels_strips (hr.mono (by decide)) T.b_Levels_strips .nil pass0))
      (pss_cons (ps_set (i := 3) sc_taken_at.nd rfl (by first | exact Or.inl rfl | exact Or.inr rfl) pe_non)
      (pss_cons (ps_set (i := 4) sc_taken_at.nd rfl (by first | exact Or.inl rfl | exact Or.inr rfl) (pe_un un_neg pe_int))
      (pss_cons (ps_for PassesOwn.never rfl (kpiL (K := K) rfl (pe_call G_seen_at (hr.mono (by decide)) rfl T.g_seen_at T.F_seen_at.kp T.b_seen_at .nil pass0 (pa_cons (pv 0) (pa_cons (pv 1) pa_nil)))) (kpgT (K := K) (n := 2) rfl rfl (pgs_cons (pg_name (i := 5) sc_taken_at.nd rfl (by first | exact Or.inl rfl | exact Or.inr rfl)) (pgs_cons (pg_name (i := 6) sc_taken_at.nd rfl (by first | exact Or.inl rfl | exact Or.inr rfl)) pgs_nil)))
        (pss_cons (ps_set (i := 7) sc_taken_at.nd rfl (by first | exact Or.inl rfl | exact Or.inr rfl) (pe_meth (pe_ix (kixL (K := K) rfl) (pv 2) (pv 5) (fun _ _ => rfl)) T.cl_Strip T.m_Strip_reading G_Strip_reading (hr.mono (by decide)) T.b_Strip_reading .nil pass0 (pa_cons (pv 6) pa_nil)))
        (pss_cons (ps_set (i := 8) sc_taken_at.nd rfl (by first | exact Or.inl rfl | exact Or.inr rfl) (pe_call G_rim_of (hr.mono (by decide)) rfl T.g_rim_of T.F_rim_of.kp T.b_rim_of .nil pass0 (pa_cons (pe_ix (kixL (K := K) rfl) (pv 2) (pv 5) (fun _ _ => rfl)) (pa_cons (pv 6) pa_nil))))
        (pss_one (ps_if (PW.pt (pw_and (pt_cmpR op_notN (pv 7) pe_non (nomark _)) (pw_and1 (pt_cmpR op_gt (pv 8) (pv 4) (nomark _)))))
          (pss_cons (ps_set (i := 3) sc_taken_at.nd rfl (by first | exact Or.inl rfl | exact Or.inr rfl) (pe_tup (pa_cons (pv 5) (pa_cons (pv 7) pa_nil))))
          (pss_one (ps_set (i := 4) sc_taken_at.nd rfl (by first | exact Or.inl rfl | exact Or.inr rfl) (pv 8))))
          pss_nil)))))
      (pss_one (ps_ret (pv 3))))))), ?_⟩
  refine q_set (R := lsV K xs) e (ev_meth (xs, lv, sn, full) rfl mn_isLev (lev_meth (by decide +kernel)) (ev_var rfl hx) ea_nil trivial) fun v2 G1 H1 g1 r2 => ?_
  refine q_set (R := isD K .none) g1.gh ev_non fun v3 G2 H2 g2 r3 => ?_
  refine q_set (R := isV (.int (-1))) g2.gh (fun H e Q q => ⟨1, rfl, q _ _ H (Gw.refl e) rfl⟩) fun v4 G3 H3 g3 r4 => ?_
  cases r4
  have u3 := (g1.gg.trans g2.gg).trans g3.gg
  have cok := cells_ok (strips := lv.strips) (offs := lv.offs) (spot := (i, j)) (Nat.le_refl _)
  generalize hcs : cellsF lv.strips lv.offs (i, j) lv.strips.length = cs at cok
  refine q_forL (ds := cs.map cellD) g3.gh (ev_dl (ev_dlTo (ev_call ((xs, lv, sn, full), i, j) (ea_cons mn_isLev (ev_var rfl (mn_isLev _ _ _ u3 hx)) (ea_cons mn_isD (ev_var rfl (dpm u3 hy)) ea_nil)) ⟨ok, ol, o8⟩) (by rw [hcs]))) fun Gb Hb gb => ?_
  refine ⟨fun n σ' G' H' => Gw [] Gb Hb G' H' ∧ ∃ vf v5 v6 v7 v8, σ' = [some x, some y, some v2, some vf, some (.int ((cs.take n).foldl (tkStep lv.strips) (none, -1)).2), v5, v6, v7, v8] ∧ Dp K G' vf (takenD ((cs.take n).foldl (tkStep lv.strips) (none, -1)).1), ⟨Gw.refl gb.gh, v3, _, _, _, _, rfl, dpm (g3.gg.trans gb.gg) r3⟩, ?_, ?_⟩
  · rintro n z d σ1 G4 H4 hd s1 s2 hz ⟨gw, vf, v5, v6, v7, v8, rfl, hvf⟩
    rw [List.getElem?_map] at hd
    cases hq : cs[n]? with
    | none => rw [hq] at hd; cases hd
    | some cl =>
    rw [hq] at hd
    cases hd
    obtain ⟨ck, cb⟩ := cok cl (List.mem_of_getElem? hq)
    have step_ : (cs.take (n + 1)).foldl (tkStep lv.strips) (none, -1) = tkStep lv.strips ((cs.take n).foldl (tkStep lv.strips) (none, -1)) cl := by
      rw [take_snoc hq, List.foldl_append]
      rfl
    generalize (cs.take n).foldl (tkStep lv.strips) (none, -1) = ac at hvf step_
    obtain ⟨k, r, c⟩ := cl
    replace ck : k < lv.strips.length := ck
    have eS : lv.strips.getD k [] = lv.strips[k] := by simp [ck]
    replace cb : inB (lv.strips.getD k []) (r, c) = true := cb
    obtain ⟨wd, okr⟩ := ok _ (List.getElem_mem ck)
    obtain ⟨sv, hsv, hsr⟩ := all2_to hall (i := k) (R := isStrip T lv.strips[k]) (by rw [List.getElem?_map, List.getElem?_eq_getElem ck]; rfl)
    have erd : rdAt lv.strips (k, r, c) = (lv.strips[k].getD r.toNat []).getD c.toNat none := by unfold rdAt; rw [eS]
    rw [eS] at cb
    generalize lv.strips[k] = rows at okr hsr eS erd cb
    obtain ⟨row, hr1, hr2, _⟩ := rd_there okr cb
    obtain ⟨i1, i2, i3, i4⟩ := inB_iff cb
    rw [← erd] at hr2
    have u4 : Same G3 G4 := gb.gg.trans s1
    have hxs4 : lsV K xs v2 G4 := mn_lsV _ _ _ ((g2.gg.trans g3.gg).trans u4) r2
    have hsr4 : isStrip T rows sv G4 := mn_isStrip _ _ _ (u3.trans u4) hsr
    have zk : atI xs ((k : Nat) : Int) = some sv := atI_nn (by omega) (by simpa using hsv)
    refine g_tup (ds := [.int (k : Nat), pairD (r, c)]) s2 hz rfl fun us hus => ?_
    cases hus with
    | @cons a1 _ _ _ b1 hus =>
    cases hus with
    | @cons a2 _ _ _ b2 hus =>
    cases hus
    refine g_two ?_
    refine q_set (σ := [some x, some y, some v2, some vf, some (.int ac.2), some a1, some a2, v7, v8]) (R := isD K (oD (rdAt lv.strips (k, r, c)))) s2 (ev_meth (rows, wd, r, c, rdAt lv.strips (k, r, c)) rfl mn_isStrip (strip_meth (by decide +kernel)) (ev_isV (ev_ixLV zk (ev_var rfl hxs4) (ev_varD rfl b1)) hsr4 mn_isStrip) (ea_cons mn_isD (ev_var rfl b2) ea_nil) ⟨okr, i1, i3, row, hr1, hr2⟩) fun v7' G5 H5 g5 r5 => ?_
    have zk5 := mn_lsV _ _ _ g5.gg hxs4
    refine q_set (σ := [some x, some y, some v2, some vf, some (.int ac.2), some a1, some a2, some v7', v8]) (R := isD K (.int (rimF rows (r, c)))) g5.gh (ev_call (rows, wd, r, c) (ea_cons mn_isStrip (ev_isV (ev_ixLV zk (ev_var rfl zk5) (ev_varD rfl (dpm g5.gg b1))) (mn_isStrip _ _ _ g5.gg hsr4) mn_isStrip) (ea_cons mn_isD (ev_var rfl (dpm g5.gg b2)) ea_nil)) okr) fun v8' G6 H6 g6 r6 => ?_
    have r5' := dpm g6.gg r5
    have gw6 := (gw.trans g5).trans g6
    have hvf6 := dpm (g5.gg.trans g6.gg) hvf
    cases hrd : rdAt lv.strips (k, r, c) with
    | none =>
      rw [hrd] at r5'
      refine s_no g6.gh (et_and (b := false) (c := false) (et_testK hk (ev_shape (ev_notN (ev_varD rfl r5')) (by rfl))) fun z => by cases z) fun G7 H7 g7 => ?_
      have e9 : tkStep lv.strips ac (k, r, c) = ac := by unfold tkStep; rw [hrd]
      refine ⟨G7, ((s1.trans g5.gg).trans g6.gg).trans g7.gg, g7.gh, gw6.trans g7, vf, some a1, some a2, some v7', some v8', ?_, ?_⟩
      · rw [step_, e9]; rfl
      · rw [step_, e9]; exact dpm g7.gg hvf6
    | some val =>
      rw [hrd] at r5'
      replace r5' : Dp K G6 v7' (.int val) := r5'
      have e9 : tkStep lv.strips ac (k, r, c) = if ac.2 < rimF rows (r, c) then (some (k, val), rimF rows (r, c)) else ac := by
        unfold tkStep
        rw [hrd, ← eS]
      refine s_if (b := decide (ac.2 < rimF rows (r, c))) g6.gh (ev_shapeT (et_and (b := true) (c := decide (ac.2 < rimF rows (r, c))) (et_testK hk (ev_shape (ev_notN (ev_varD rfl r5')) (by rfl))) fun _ => et_testK hk (ev_gt (i := rimF rows (r, c)) (j := ac.2) (ev_varD rfl r6) (ev_varD rfl (.int _)))) (by simp)) (fun hb G7 H7 g7 => ?_) fun hb G7 H7 g7 => ?_
      · have hlt : ac.2 < rimF rows (r, c) := of_decide_eq_true hb
        have r7 := dpm g7.gg r5'
        have r6' := dpm g7.gg r6
        refine q_set (σ := [some x, some y, some v2, some vf, some (.int ac.2), some a1, some a2, some v7', some v8']) (R := isD K (.tuple [.int (k : Nat), .int val])) g7.gh (ev_tup (ed_cons (ev_varD rfl (dpm ((g5.gg.trans g6.gg).trans g7.gg) b1)) (ed_cons (ev_varD rfl r7) ed_nil)) (by simp)) fun vf' G8 H8 g8 r8 => ?_
        refine s_set (σ := [some x, some y, some v2, some vf', some (.int ac.2), some a1, some a2, some v7', some v8']) (R := isD K (.int (rimF rows (r, c)))) g8.gh (ev_varD rfl (dpm g8.gg r6')) fun vb G9 H9 g9 r9 => ?_
        cases r9
        refine ⟨G9, (((s1.trans g5.gg).trans g6.gg).trans g7.gg).trans (g8.gg.trans g9.gg), g9.gh, ((gw6.trans g7).trans g8).trans g9, vf', some a1, some a2, some v7', some v8', ?_, ?_⟩
        · rw [step_, e9, if_pos hlt]; rfl
        · rw [step_, e9, if_pos hlt]; exact dpm g9.gg r8
      · have hlt : ¬ ac.2 < rimF rows (r, c) := of_decide_eq_false hb
        refine ⟨G7, ((s1.trans g5.gg).trans g6.gg).trans g7.gg, g7.gh, gw6.trans g7, vf, some a1, some a2, some v7', some v8', ?_, ?_⟩
        · rw [step_, e9, if_neg hlt]; rfl
        · rw [step_, e9, if_neg hlt]; exact dpm g7.gg hvf6
  · rintro σ1 G4 H4 s1 s2 ⟨gw, vf, v5, v6, v7, v8, rfl, hvf⟩
    rw [List.length_map, List.take_length] at hvf
    refine s_ret s2 (ev_varD rfl hvf) fun v G' H' g r => q v G' H' ((((g1.trans g2).trans g3).trans gb).trans (gw.trans g)) (isD_to r ?_)
    show takenD _ = takenD (takenF lv.strips (cellsF lv.strips lv.offs (i, j) lv.strips.length))
    rw [hcs]
    rfl
end

section
variable {P : Program} {w : World} {K : PySem.W.Frag} {mg : Str → Option Value} {base : Heap}
abbrev Win := Int × Int × Int × Int
def picRow (f : Int × Int → PyData) (r c d : Int) : List PyData := (List.range (d + 1 - c).toNat).map fun i => f (r, c + (i : Nat))
def picRows (f : Int × Int → PyData) (x : Win) (n : Nat) : List (List PyData) := (List.range n).map fun i => picRow f (x.1 + (i : Nat)) x.2.2.1 x.2.2.2
def picAll (f : Int × Int → PyData) (x : Win) : List (List PyData) := picRows f x (x.2.1 + 1 - x.1).toNat
theorem picRows_succ (f : Int × Int → PyData) (x : Win) (n : Nat) : picRows f x (n + 1) = picRows f x n ++ [picRow f (x.1 + (n : Nat)) x.2.2.1 x.2.2.2] := by
  unfold picRows
  rw [List.range_succ, List.map_append]
  rfl
theorem WinOk.few {x : Win} (h : WinOk x) : (x.2.1 + 1 - x.1).toNat ≤ 144 ∧ (x.2.2.2 + 1 - x.2.2.1).toNat ≤ 144 := by
  obtain ⟨k1, k2, k3, _⟩ := h
  have e1 : (x.2.1 - x.1 + 1) * 1 ≤ (x.2.1 - x.1 + 1) * (x.2.2.2 - x.2.2.1 + 1) := Int.mul_le_mul_of_nonneg_left (by omega) (by omega)
  have e2 : 1 * (x.2.2.2 - x.2.2.1 + 1) ≤ (x.2.1 - x.1 + 1) * (x.2.2.2 - x.2.2.1 + 1) := Int.mul_le_mul_of_nonneg_right (by omega) (by omega)
  omega
/-- picture: a new list of new lists -/
abbrev sp_picture (T : Tp K mg) : Sp := fun vs H Q _ => ∃ (x : LevP × Win) (G : Hp), Same G H ∧ All2 [isLev T x.1.1 x.1.2.1 x.1.2.2.1 x.1.2.2.2, isD K (winD x.2)] vs G ∧ (StripsOk x.1.2.1.strips ∧ x.1.2.1.offs.length = x.1.2.1.strips.length ∧ x.1.2.1.strips.length ≤ 8 ∧ WinOk x.2) ∧
  ∀ l xs G' H', Gw [] G H G' H' → G l = none → G' l = some (.lst xs) → All2 ((picAll (tkF x.1.2.1) x.2).map (isDLn K G)) xs G' → Q (.ref l) H'
theorem ok_picture (T : Tp K mg) : FnOk P w K mg base CX0 6 T.f_picture T.fd_picture ["levels", "window"] (sp_picture T) := by
  have hk : KK K := kk
  have G_check_window : FnOk P w K mg base CX0 2 T.f_check_window T.fd_check_window ["window"] (sp_check_window K) := ok_check_window T
  have G_taken_at : FnOk P w K mg base CX0 5 T.f_taken_at T.fd_taken_at ["levels", "spot"] (sp_taken_at T) := ok_taken_at T
  refine T.F_picture.ok sc_picture (fun vs H Q E ⟨x, G, e, ha, _⟩ => all2_len ha) (fun cdv A outer s H vs Q E hr h => ?_)
  obtain ⟨⟨⟨xs, lv, sn, full⟩, a, b, c, d⟩, G, e, ha, ⟨ok, ol, o8, wok⟩, q⟩ := h
  cases ha with
  | @cons _ _ x _ _ hx ha =>
  cases ha with
  | @cons _ _ y _ _ hy ha =>
  cases ha
  replace hx : isLev T xs lv sn full x G := hx
  replace hy : Dp K G y (.tuple [.int a, .int b, .int c, .int d]) := hy
  replace wok : WinOk (a, b, c, d) := wok
  obtain ⟨f1, f2⟩ := wok.few
  obtain ⟨k1, k2, k3, k4, k5, k6, k7⟩ := id wok
  replace k1 : a ≤ b := k1
  replace k2 : c ≤ d := k2
  replace k4 : -(2 ^ 40) < a := k4
  replace k5 : b < 2 ^ 40 := k5
  replace k6 : -(2 ^ 40) < c := k6
  replace k7 : d < 2 ^ 40 := k7
  replace f1 : (b + 1 - a).toNat ≤ 144 := f1
  replace f2 : (d + 1 - c).toNat ≤ 144 := f2
  refine ⟨_, (pss_cons (ps_expr (pe_call G_check_window (hr.mono (by decide)) rfl T.g_check_window T.F_check_window.kp T.b_check_window .nil pass0 (pa_cons (pv 1) pa_nil)))
      (pss_cons (ps_asg (pv 1) (kpgT (K := K) (n := 4) rfl rfl (pgs_cons (pg_name (i := 2) sc_picture.nd rfl (by first | exact Or.inl rfl | exact Or.inr rfl)) (pgs_cons (pg_name (i := 3) sc_picture.nd rfl (by first | exact Or.inl rfl | exact Or.inr rfl)) (pgs_cons (pg_name (i := 4) sc_picture.nd rfl (by first | exact Or.inl rfl | exact Or.inr rfl)) (pgs_cons (pg_name (i := 5) sc_picture.nd rfl (by first | exact Or.inl rfl | exact Or.inr rfl)) pgs_nil))))))
      (pss_cons (ps_set (i := 6) sc_picture.nd rfl (by first | exact Or.inl rfl | exact Or.inr rfl) (pe_lst pa_nil))
      (pss_cons (ps_for PassesOwn.never rfl (pi_range2 (by rfl) T.z_range (pa_cons (pv 2) (pa_cons (pe_op op_add (pv 3) pe_int) pa_nil))) (pg_name (i := 7) sc_picture.nd rfl (by first | exact Or.inl rfl | exact Or.inr rfl))
        (pss_one (ps_expr (kbm (K := K) rfl PySem.F.plainAttrs_list PySem.F.slot_list_append PySem.F.type_list_append mt_append (pv 6) (pa_cons (pe_lc (own := [("column", 8)]) rfl sc_picture.nd (pi_range2 (by rfl) T.z_range (pa_cons (pv 4) (pa_cons (pe_op op_add (pv 5) pe_int) pa_nil))) (blkOk_by (N := ["levels", "window", "low_row", "high_row", "low_column", "high_column", "found", "row", "column"]) (sc := defScope s_picture) (by decide +kernel)) (fun _ _ _ _ _ => (pg_name (i := 8) sc_picture.nd rfl (by first | exact Or.inl rfl | exact Or.inr rfl))) (fun _ _ _ _ _ => pts_nil) (fun _ _ _ _ _ => (pe_call G_taken_at (hr.mono (by decide)) rfl T.g_taken_at T.F_taken_at.kp T.b_taken_at .nil pass0 (pa_cons (pv 0) (pa_cons (pe_tup (pa_cons (pv 7) (pa_cons (pv 8) pa_nil))) pa_nil))))) pa_nil)))))
      (pss_one (ps_ret (pv 6))))))), ?_⟩
  refine q_drop e (ev_call (a, b, c, d) (ea_cons mn_isD (ev_var rfl hy) ea_nil) wok) fun v0 G1 H1 g1 _ => ?_
  refine q_asg g1.gh (ev_varD rfl (dpm g1.gg hy)) fun v G2 H2 g2 r2 => ?_
  refine g_tup g2.gh r2 rfl fun us hus => ?_
  cases hus with
  | @cons a1 _ _ _ b1 hus =>
  cases hus with
  | @cons a2 _ _ _ b2 hus =>
  cases hus with
  | @cons a3 _ _ _ b3 hus =>
  cases hus with
  | @cons a4 _ _ _ b4 hus =>
  cases hus
  cases b1; cases b2; cases b3; cases b4
  refine g_cons (g_cons (g_cons (g_cons (g_nil ?_))))
  have u2 := g1.gg.trans g2.gg
  have hx2 : isLev T xs lv sn full x G2 := mn_isLev _ _ _ u2 hx
  refine q_new (k := fun l hln => ?_)
  have hgl : G2 l = none := g2.gh.free hln
  have g0 : Gw [] G2 H2 G2 (upd H2 l (.lst [])) := Gw.lay g2.gh hln
  refine s_forR2 (K := K) (lo := a) (hi := b + 1) (D := _) (σ := [some x, some y, some (.int a), some (.int b), some (.int c), some (.int d), some (.ref l), none, none]) g0.gh (by walk_at "ev") ⟨by omega, by omega, by omega, by omega⟩ fun Gb Hb gb => ?_
  refine ⟨fun n σ' G' H' => (∃ v7, σ' = [some x, some y, some (.int a), some (.int b), some (.int c), some (.int d), some (.ref l), v7, none]) ∧ ∃ ys, Gw [l] G2 (upd H2 l (.lst [])) G' H' ∧ H' l = some (.lst ys) ∧ All2 ((picRows (tkF lv) (a, b, c, d) n).map (isDLn K G)) ys G', ⟨⟨_, rfl⟩, [], gb.weak, gb.hh _ _ upd_same (by simp), .nil⟩, ?_, ?_⟩
  · rintro n σ1 G3 H3 hn s1 s2 ⟨⟨v7, rfl⟩, ys, gw, hl3, hd⟩
    have u3 : Same G2 G3 := gw.gg
    have hx3 : isLev T xs lv sn full x G3 := mn_isLev _ _ _ u3 hx2
    have hlen : ys.length ≤ 1000 := by
      rw [all2_len hd, List.length_map]
      unfold picRows
      rw [List.length_map, List.length_range]
      omega
    have mI : Mns ((picRows (tkF lv) (a, b, c, d) n).map (isDLn K G)) := mns_map (fun _ => mn_isDLn) _
    refine s_app (K := K) (σ := [some x, some y, some (.int a), some (.int b), some (.int c), some (.int d), some (.ref l), some (.int (a + (n : Nat))), none]) (R := isDLn K G3 (picRow (tkF lv) (a + (n : Nat)) c d)) s2 hl3 (ev_var rfl rfl)
      (ev_lcR2F (lo := c) (hi := d + 1) (fun k => tkF lv (a + (n : Nat), k)) (by walk_at "ev") ⟨by omega, by omega, by omega, by omega⟩ (by omega) (fun _ => rfl) fun k G4 e4 h1 h2 => ?_) mn_isDLn hlen fun u G6 H6 g6 r6 hl6 => ?_
    · exact ev_call ((xs, lv, sn, full), a + (n : Nat), k) (ea_cons mn_isLev (ev_var rfl (mn_isLev _ _ _ e4 hx3)) (ea_cons mn_isD (ev_tup (ed_cons (ev_varD rfl (.int _)) (ed_cons (ev_varD rfl (.int _)) ed_nil)) (by simp)) ea_nil)) ⟨ok, ol, o8⟩
    · have hg6 : G6 l = none := (gw.trans g6.weak).out hgl upd_same
      refine ⟨G6, s1.trans g6.gg, fun a o q => ?_, ⟨_, rfl⟩, ys ++ [u], (gw.trans g6.weak).trans (Gw.put g6.gh hg6 (by simp)), upd_same, ?_⟩
      · rw [upd_ne (fun z => by subst z; rw [hg6] at q; cases q)]
        exact g6.gh a o q
      · rw [picRows_succ, List.map_append]
        exact all2_app (hd.mono g6.gg mI) (.cons (dln_less (u2.trans u3) r6) .nil)
  · rintro σ1 G3 H3 s1 s2 ⟨⟨v7, rfl⟩, ys, gw, hl3, hd⟩
    have gA : Gw [] G2 H2 (upd G3 l (.lst ys)) H3 := ((Gw.lay g2.gh hln).weak.trans gw).fix g2.gh hln hl3
    have hg3 : G3 l = none := gw.out hgl upd_same
    refine s_ret (R := isV (.ref l)) gA.gh (ev_var rfl rfl) fun v G' H' g r => ?_
    cases r
    refine q l ys G' H' (((g1.trans g2).trans gA).trans g) (u2.free hgl) (g.gg _ _ upd_same) ?_
    exact hd.mono ((same_new hg3).trans g.gg) (mns_map (fun _ => mn_isDLn) _)
end

section
variable {P : Program} {w : World} {K : PySem.W.Frag} {mg : Str → Option Value} {base : Heap}
theorem ok_law_next (T : Tp K mg) : FnOk P w K mg base CX0 1 T.f_law_next T.fd_law_next ["_law_source", "_law_many"] spNext := by
  have hk : KK K := kk
  refine T.F_law_next.ok sc_law_next (fun vs H Q E ⟨src, many, n, G, h, _⟩ => by rw [h]; rfl) (fun cdv A outer s H vs Q E hr h => ?_)
  obtain ⟨src, many, n, G, rfl, e, hg, ⟨a, b, c, h1, a0, b0, b1, c0, c1⟩, n5, m0, m1, q⟩ := h
  refine ⟨_, (pss_cons (ps_if (pt_cmpR op_gt (pe_ix (kixL (K := K) rfl) (pv 0) pe_int (fun _ _ => rfl)) pe_int (nomark _))
        (pss_cons (ps_set (i := 2) sc_law_next.nd rfl (by first | exact Or.inl rfl | exact Or.inr rfl) (pe_op op_mod (pe_callTy call_int1 (by rfl) T.z_int (by decide +kernel) (pa_cons (pe_ix (kixL (K := K) rfl) (pv 0) pe_int (fun _ _ => rfl)) pa_nil)) (pv 1)))
        (pss_cons (ps_asg (pe_op op_fdiv (pe_ix (kixL (K := K) rfl) (pv 0) pe_int (fun _ _ => rfl)) (pv 1)) (pg_sub (pv 0) pe_int set_list))
        (pss_one (ps_ret (pv 2)))))
        pss_nil)
      (pss_cons (ps_asg (pe_op op_add (pe_ix (kixL (K := K) rfl) (pv 0) pe_int (fun _ _ => rfl)) pe_int) (pg_sub (pv 0) pe_int set_list))
      (pss_cons (ps_set (i := 3) sc_law_next.nd rfl (by first | exact Or.inl rfl | exact Or.inr rfl) (pe_ix (kixL (K := K) rfl) (pe_lst (pa_cons pe_int (pa_cons pe_int (pa_cons pe_int (pa_cons pe_int (pa_cons pe_int (pa_cons pe_int (pa_cons pe_int pa_nil)))))))) (pe_op op_mod (pe_callTy call_int1 (by rfl) T.z_int (by decide +kernel) (pa_cons (pe_ix (kixL (K := K) rfl) (pv 0) pe_int (fun _ _ => rfl)) pa_nil)) pe_int) (fun _ _ => rfl)))
      (pss_cons (ps_set (i := 4) sc_law_next.nd rfl (by first | exact Or.inl rfl | exact Or.inr rfl) (pe_op op_mod (pe_callTy call_int1 (by rfl) T.z_int (by decide +kernel) (pa_cons (pe_op op_pow (pe_op op_add (pe_op op_add (pe_ix (kixL (K := K) rfl) (pv 0) pe_int (fun _ _ => rfl)) (pe_op op_mul pe_int (pe_ix (kixL (K := K) rfl) (pv 0) pe_int (fun _ _ => rfl)))) pe_int) pe_int) pa_nil)) (pv 3)))
      (pss_cons (ps_set (i := 4) sc_law_next.nd rfl (by first | exact Or.inl rfl | exact Or.inr rfl) (pe_op op_mod (pe_callTy call_int1 (by rfl) T.z_int (by decide +kernel) (pa_cons (pe_op op_mul (pe_op op_add (pv 4) (pe_ix (kixL (K := K) rfl) (pv 0) pe_int (fun _ _ => rfl))) (pe_op op_add (pe_op op_fdiv (pv 4) pe_int) pe_int)) pa_nil)) (pv 3)))
      (pss_one (ps_ret (pe_op op_mod (pe_callTy call_int1 (by rfl) T.z_int (by decide +kernel) (pa_cons (pe_op op_fdiv (pv 4) pe_int) pa_nil)) (pv 1))))))))), ?_⟩
  have S0 : Own src G H G H (.lst [.int a, .int b, .int c]) := Own.start e hg h1
  have hs0 : Dp K (upd G src (.lst [.int a, .int b, .int c])) (.ref src) (.list [.int a, .int b, .int c]) := dp_src
  by_cases ha : 0 < a
  · have t1 : decide (0 < a) = true := decide_eq_true ha
    refine S0.into |> fun ee => q_yes ee (ev_shapeT (by walk_at "ev") (by rw [t1])) fun G1 H1 g1 => ?_
    have S1 := S0.back g1
    have hs1 : Dp K (upd (less src G1) src (.lst [.int a, .int b, .int c])) (.ref src) (.list [.int a, .int b, .int c]) := dp_src
    refine q_setO (R := isD K (.int (a % many))) S1 (ev_mod m0 (by walk_at "ev") (by walk_at "ev")) fun v G2 H2 S2 ⟨_, _, _, r2⟩ => ?_
    cases r2
    have hs2 : Dp K (upd G2 src (.lst [.int a, .int b, .int c])) (.ref src) (.list [.int a, .int b, .int c]) := dp_src
    refine q_setI (R := isD K (.int (a / many))) (σ := [some (.ref src), some (.int many), some (.int (a % many)), none, none]) S2 rfl (m := 0) (by rfl) (ev_fdiv ⟨m0, by omega⟩ (by walk_at "ev") (by walk_at "ev")) fun v G3 H3 S3 ⟨_, _, _, r3⟩ => ?_
    cases r3
    refine s_ret (R := isV (.int (a % many))) S3.gw.gh (ev_var rfl rfl) fun v G4 H4 g4 r4 => ?_
    cases r4
    exact q _ G4 H4 (S3.gw.trans g4.weak) ⟨a / many, b, c, g4.hh _ _ S3.at_ (by simp), Int.ediv_nonneg a0 (by omega), b0, b1, c0, by omega⟩ (Int.emod_nonneg _ (by omega)) (Int.emod_lt_of_pos _ m0)
  · have t1 : decide (0 < a) = false := decide_eq_false ha
    refine q_no S0.into (ev_shapeT (by walk_at "ev") (by rw [t1])) fun G1 H1 g1 => ?_
    have S1 := S0.back g1
    have hs1 : Dp K (upd (less src G1) src (.lst [.int a, .int b, .int c])) (.ref src) (.list [.int a, .int b, .int c]) := dp_src
    refine q_setI (R := isD K (.int (c + 1))) S1 rfl (m := 2) (by rfl) (by walk_at "ev") fun v G3 H3 S3 ⟨_, _, _, r3⟩ => ?_
    cases r3
    replace S3 : Own src G H G3 H3 (.lst [.int a, .int b, .int (c + 1)]) := S3
    have hs3 : Dp K (upd G3 src (.lst [.int a, .int b, .int (c + 1)])) (.ref src) (.list [.int a, .int b, .int (c + 1)]) := dp_src
    obtain ⟨pr, hpr, p1, p2⟩ : ∃ pr, atI [PyData.int 2147483647, .int 2147483629, .int 2147483587, .int 2147483579, .int 2147483563, .int 2147483549, .int 2147483543] ((c + 1) % 7) = some (.int pr) ∧ 0 < pr ∧ pr ≤ 2147483647 := by
      have i1 := Int.emod_nonneg (c + 1) (by decide : (7 : Int) ≠ 0)
      have i2 := Int.emod_lt_of_pos (c + 1) (by decide : (0 : Int) < 7)
      generalize (c + 1) % 7 = i at i1 i2
      have : i = 0 ∨ i = 1 ∨ i = 2 ∨ i = 3 ∨ i = 4 ∨ i = 5 ∨ i = 6 := by omega
      rcases this with z | z | z | z | z | z | z <;> subst z <;> exact ⟨_, rfl, by decide, by decide⟩
    refine q_setO (R := isD K (.int pr)) S3 (ev_ixL hpr (by walk_at "ev") (ev_mod (by decide) (by walk_at "ev") (by walk_at "ev"))) fun v G4 H4 S4 ⟨_, _, _, r4⟩ => ?_
    cases r4
    have hs4 : Dp K (upd G4 src (.lst [.int a, .int b, .int (c + 1)])) (.ref src) (.list [.int a, .int b, .int (c + 1)]) := dp_src
    refine q_setO (σ := [some (.ref src), some (.int many), none, some (.int pr), none]) (R := isD K (.int ((b + 7919 * (c + 1) + 1) ^ (5 : Int).toNat % pr))) S4 (ev_mod p1 (ev_intI (ev_pow ⟨by omega, by omega, by omega⟩ (ev_add (ev_add (by walk_at "ev") (ev_mul (.inl ⟨by omega, by omega⟩) (by walk_at "ev") (by walk_at "ev"))) (by walk_at "ev")) (by walk_at "ev"))) (by walk_at "ev")) fun v G5 H5 S5 ⟨_, _, _, r5⟩ => ?_
    cases r5
    have f1 := Int.emod_nonneg ((b + 7919 * (c + 1) + 1) ^ (5 : Int).toNat) (Int.ne_of_gt p1)
    have f2 := Int.emod_lt_of_pos ((b + 7919 * (c + 1) + 1) ^ (5 : Int).toNat) p1
    generalize (b + 7919 * (c + 1) + 1) ^ (5 : Int).toNat % pr = fg at f1 f2
    have hs5 : Dp K (upd G5 src (.lst [.int a, .int b, .int (c + 1)])) (.ref src) (.list [.int a, .int b, .int (c + 1)]) := dp_src
    have d1 := Int.ediv_nonneg f1 (by decide : (0 : Int) ≤ 1009)
    have d2 : fg / 1009 ≤ fg := Int.ediv_le_self _ f1
    refine q_setO (σ := [some (.ref src), some (.int many), none, some (.int pr), some (.int fg)]) (R := isD K (.int ((fg + (c + 1)) * (fg / 1009 + 69621) % pr))) S5 (ev_mod p1 (ev_intI (ev_mul (.inr ⟨by omega, by omega⟩) (by walk_at "ev") (ev_add (ev_fdiv ⟨by omega, by omega⟩ (by walk_at "ev") (by walk_at "ev")) (by walk_at "ev")))) (by walk_at "ev")) fun v G6 H6 S6 ⟨_, _, _, r6⟩ => ?_
    cases r6
    generalize (fg + (c + 1)) * (fg / 1009 + 69621) % pr = fh
    refine s_retO (σ := [some (.ref src), some (.int many), none, some (.int pr), some (.int fh)]) (R := isD K (.int (fh / 7 % many))) S6 (ev_mod m0 (ev_intI (ev_fdiv ⟨by omega, by omega⟩ (by walk_at "ev") (by walk_at "ev"))) (by walk_at "ev")) fun v G7 H7 S7 ⟨_, _, _, r7⟩ => ?_
    cases r7
    exact q _ G7 H7 S7.gw ⟨a, b, c + 1, S7.at_, a0, b0, b1, by omega, by omega⟩ (Int.emod_nonneg _ (by omega)) (Int.emod_lt_of_pos _ m0)
end

section
variable {P : Program} {w : World} {K : PySem.W.Frag} {mg : Str → Option Value} {base : Heap}
theorem ok_law_one (T : Tp K mg) : FnOk P w K mg base CX0 2 T.f_law_one T.fd_law_one ["_law_source", "_law_some"] (spOne K) := by
  have hk : KK K := kk
  have G_law_next : FnOk P w K mg base CX0 1 T.f_law_next T.fd_law_next ["_law_source", "_law_many"] spNext := ok_law_next T
  refine T.F_law_one.ok sc_law_one (fun vs H Q E ⟨src, w, ds, n, G, h, _⟩ => by rw [h]; rfl) (fun cdv A outer s H vs Q E hr h => ?_)
  obtain ⟨src, y, ds, n, G, rfl, hy, l0, l1, e, hg, hS, hn, q⟩ := h
  refine ⟨_, (pss_one (ps_ret (pe_ix (kixL (K := K) rfl) (pv 1) (pe_call G_law_next (hr.mono (by decide)) rfl T.g_law_next T.F_law_next.kp T.b_law_next .nil pass0 (pa_cons (pv 0) (pa_cons (pe_callB (klen (K := K) rfl) (by rfl) T.z_len (by decide +kernel) (pa_cons (pv 1) pa_nil)) pa_nil))) (fun _ _ => rfl)))), ?_⟩
  have hnx := es_next (K := K) (σ := [some (.ref src), some y]) (G := G) (src := src) (n := n) (i := 0) (E := E0) (tm := tCB (rLenS K) (tCons (tVar 1) tNil)) (many := (ds.length : Nat)) rfl (ev_lenL (ev_varD rfl hy)) (by omega) (by omega) hn
  refine ⟨y, rfl, ?_⟩
  refine hnx H e hg hS _ fun v G1 H1 g1 s1 ⟨r, hv, r0, r1⟩ => ?_
  subst hv
  have hy1 := dpm g1.gg hy
  cases hy1 with
  | @lst a xs _ hs hd =>
  have hlt : r.toNat < ds.length := by omega
  obtain ⟨z, hz, rz⟩ := dpall_atI hd (atI_nn r0 (List.getElem?_eq_getElem hlt))
  exact ⟨a, xs, r, z, rfl, rfl, g1.gh.seq hs, hz, q _ z G1 H1 (List.getElem_mem hlt) g1 s1 rz⟩
theorem ok_law_source_of (T : Tp K mg) : FnOk P w K mg base CX0 1 T.f_law_source_of T.fd_law_source_of ["_law_cell"] spSource := by
  have hk : KK K := kk
  refine T.F_law_source_of.ok sc_law_source_of (fun vs H Q E ⟨i, G, h, _⟩ => by rw [h]; rfl) (fun cdv A outer s H vs Q E hr h => ?_)
  obtain ⟨i, G, rfl, e, q⟩ := h
  refine ⟨_, (pss_one (ps_ret (pe_lst (pa_cons (pe_op op_mul (pv 0) (pe_callTy call_int1 (by rfl) T.z_int (by decide +kernel) (pa_cons (pe_cmpR op_ge (pv 0) (pe_op op_pow pe_int pe_int) (nomark _)) pa_nil))) (pa_cons (pe_op op_mod (pe_callTy call_int1 (by rfl) T.z_int (by decide +kernel) (pa_cons (pv 0) pa_nil)) pe_int) (pa_cons pe_int pa_nil)))))), ?_⟩
  have hd : EvD (tCons (tOp (rI CMul fun i j => .int (i * j)) (tVar 0) (tCB (fun xs H Q => (∃ i, xs = [.int i] ∧ Q (.int i) H) ∨ ∃ k, xs = [.bl k] ∧ Q (.int (if k then 1 else 0)) H) (tCons (tOp (rI0 fun i j => .bl (decide (j ≤ i))) (tVar 0) (tOp (rI CPow fun i j => .int (i ^ j.toNat)) (tC (.int 10)) (tC (.int 18)))) tNil)))
      (tCons (tOp (rI (fun _ j => 0 < j) fun i j => .int (i % j)) (tCB (fun xs H Q => (∃ i, xs = [.int i] ∧ Q (.int i) H) ∨ ∃ k, xs = [.bl k] ∧ Q (.int (if k then 1 else 0)) H) (tCons (tVar 0) tNil)) (tC (.int 2147483647))) (tCons (tC (.int 0)) tNil))) [some (.int i)] G K [.int (i * (if decide (10 ^ (18 : Int).toNat ≤ i) then 1 else 0)), .int (i % 2147483647), .int 0] :=
    ed_cons (ev_mul (.inr (by split <;> exact ⟨by decide, by decide⟩)) (ev_varD rfl (.int _)) (ev_intB (ev_ge (ev_varD rfl (.int _)) (ev_pow ⟨by decide, by decide, by decide⟩ ev_int ev_int)))) (ed_cons (ev_mod (by decide) (ev_intI (ev_varD rfl (.int _))) ev_int) (ed_cons ev_int ed_nil))
  refine (show tLst _ [some (.int i)] H Q from ?_)
  refine hd H e _ fun vs G1 H1 g1 r1 => ⟨by rw [dpall_len r1]; show 3 ≤ sizeLine; decide, fun p hp => ?_⟩
  cases r1 with
  | cons b1 r1 =>
  cases r1 with
  | cons b2 r1 =>
  cases r1 with
  | cons b3 r1 =>
  cases r1
  cases b1; cases b2; cases b3
  refine q p G1 _ (g1.trans (Gw.lay g1.gh hp)) (g1.gh.free hp) (g1.gg.free (g1.gh.free hp)) ⟨_, _, 0, upd_same, ?_, Int.emod_nonneg _ (by decide), Int.emod_lt_of_pos _ (by decide), Int.le_refl _, Int.le_refl _⟩
  by_cases hc : (10 : Int) ^ (18 : Int).toNat ≤ i
  · have h0 : (0 : Int) ≤ 10 ^ (18 : Int).toNat := by decide
    rw [decide_eq_true hc]
    show 0 ≤ i * 1
    omega
  · rw [decide_eq_false hc]
    show 0 ≤ i * 0
    omega
abbrev sp_law_cell_at (K : PySem.W.Frag) : Sp := spP (α := List Int × Nat) (fun x => [isD K (.list (x.1.map .int)), isD K (.int (x.2 : Nat))]) (fun _ => True) (fun x => isD K (.int (x.1.getD x.2 0)))
theorem ok_law_cell_at (T : Tp K mg) : FnOk P w K mg base CX0 1 T.f_law_cell_at T.fd_law_cell_at ["_law_script", "_law_k"] (sp_law_cell_at K) := by
  have hk : KK K := kk
  refine T.F_law_cell_at.ok sc_law_cell_at (fun vs H Q E ⟨x, G, e, ha, _⟩ => all2_len ha) (fun cdv A outer s H vs Q E hr h => ?_)
  obtain ⟨⟨ns, k⟩, G, e, ha, _, q⟩ := h
  cases ha with
  | @cons _ _ x _ _ hx ha =>
  cases ha with
  | @cons _ _ y _ _ hy ha =>
  cases ha
  replace hx : Dp K G x (.list (ns.map .int)) := hx
  replace hy : Dp K G y (.int (k : Nat)) := hy
  refine ⟨_, (pss_cons (ps_if (pt_cmpR op_lt (pv 1) (pe_callB (klen (K := K) rfl) (by rfl) T.z_len (by decide +kernel) (pa_cons (pv 0) pa_nil)) (nomark _))
        (pss_one (ps_ret (pe_ix (kixL (K := K) rfl) (pv 0) (pv 1) (fun _ _ => rfl))))
        pss_nil)
      (pss_one (ps_ret pe_int))), ?_⟩
  refine q_if (b := decide (k < ns.length)) e (et_testK hk (ev_shape (ev_lt (i := (k : Nat)) (j := ((ns.map PyData.int).length : Nat)) (ev_varD rfl hy) (ev_lenL (ev_varD rfl hx))) (by rw [List.length_map]; congr 1; simp))) (fun hb G1 H1 g1 => ?_) fun hb G1 H1 g1 => ?_
  · have hlt : k < ns.length := of_decide_eq_true hb
    have z : atI (ns.map PyData.int) ((k : Nat) : Int) = some (.int (ns.getD k 0)) := atI_map _ (atI_nn (by omega) (by simp [hlt]))
    refine s_ret (R := isD K (.int (ns.getD k 0))) g1.gh (ev_ixL z (ev_varD rfl (dpm g1.gg hx)) (ev_varD rfl (dpm g1.gg hy))) fun v G' H' g r => ?_
    exact q v G' H' (g1.trans g) r
  · have hge : ¬ k < ns.length := of_decide_eq_false hb
    have z : ns.getD k 0 = 0 := by
      rw [List.getD_eq_getElem?_getD, List.getElem?_eq_none (by omega)]
      rfl
    have goal_ : tRet (tC (.int 0)) { nx := fun _ H' => Q V.non H', rt := Q } [some x, some y] H1 := s_ret (R := isD K (.int 0)) g1.gh ev_int fun v G' H' g r => q v G' H' (g1.trans g) (by
      show Dp K G' v (.int (ns.getD k 0))
      rw [z]
      exact r)
    exact goal_
end

section
variable {P : Program} {w : World} {K : PySem.W.Frag} {mg : Str → Option Value} {base : Heap}
abbrev sp_law_rim (K : PySem.W.Frag) : Sp := spP (α := List (List (Option Int)) × Nat × Int × Int) (fun x => [isD K (rowsL x.1), isD K (pairD x.2.2)]) (fun x => RowsOk x.1 x.2.1) (fun x => isD K (.int (rimF x.1 x.2.2)))
theorem at0L {rows : List (List (Option Int))} {wd : Nat} (ok : RowsOk rows wd) : ∃ r, rows[0]? = some r ∧ r.length = wd ∧ atI (rows.map fun r => PyData.list (r.map oD)) 0 = some (PyData.list (r.map oD)) := by
  obtain ⟨r0, hr0, hw0⟩ := ok.zero
  exact ⟨r0, hr0, hw0, atI_map _ (atI_nn (Int.le_refl 0) hr0)⟩
theorem ok_law_rim (T : Tp K mg) : FnOk P w K mg base CX0 1 T.f_law_rim T.fd_law_rim ["_law_rows", "_law_cell"] (sp_law_rim K) := by
  have hk : KK K := kk
  refine T.F_law_rim.ok sc_law_rim (fun vs H Q E ⟨x, G, e, ha, _⟩ => all2_len ha) (fun cdv A outer s H vs Q E hr h => ?_)
  obtain ⟨⟨rows, wd, r, c⟩, G, e, ha, ok, q⟩ := h
  cases ha with
  | @cons _ _ x _ _ hx ha =>
  cases ha with
  | @cons _ _ y _ _ hy ha =>
  cases ha
  replace hx : Dp K G x (.list (rows.map fun r => PyData.list (r.map oD))) := hx
  replace hy : Dp K G y (.tuple [.int r, .int c]) := hy
  replace ok : RowsOk rows wd := ok
  obtain ⟨r0, hr0, hw0, z0⟩ := at0L ok
  refine ⟨_, (pss_one (ps_ret (pe_callB (call_min4 rfl) (by rfl) T.z_min (by decide +kernel) (pa_cons (pe_ix (kixT (K := K) rfl) (pv 1) pe_int (fun _ _ => rfl)) (pa_cons (pe_op op_sub (pe_op op_sub (pe_callB (klen (K := K) rfl) (by rfl) T.z_len (by decide +kernel) (pa_cons (pv 0) pa_nil)) pe_int) (pe_ix (kixT (K := K) rfl) (pv 1) pe_int (fun _ _ => rfl))) (pa_cons (pe_ix (kixT (K := K) rfl) (pv 1) pe_int (fun _ _ => rfl)) (pa_cons (pe_op op_sub (pe_op op_sub (pe_callB (klen (K := K) rfl) (by rfl) T.z_len (by decide +kernel) (pa_cons (pe_ix (kixL (K := K) rfl) (pv 0) pe_int (fun _ _ => rfl)) pa_nil)) pe_int) (pe_ix (kixT (K := K) rfl) (pv 1) pe_int (fun _ _ => rfl))) pa_nil))))))), ?_⟩
  refine s_ret (σ := [some x, some y]) e (ev_min4 (by walk_at "ev")) fun v G' H' g z => q v G' H' g (isD_to z ?_)
  show PyData.int _ = PyData.int _
  unfold rimF
  rw [rows_w ok, List.length_map, List.length_map, hw0]
/-- the law's world -/
abbrev worldD (strips : List (List (List (Option Int)))) (offs : List (Int × Int)) : PyData := .tuple [.list (strips.map rowsL), .list (offs.map pairD), .int 9, .list (strips.map fun _ => pairD (-9, 9)), .list []]
abbrev Wd := List (List (List (Option Int))) × List (Int × Int)
abbrev WdOk (x : Wd) : Prop := StripsOk x.1 ∧ x.2.length = x.1.length ∧ x.1.length ≤ 8
abbrev sp_law_cells (K : PySem.W.Frag) : Sp := spP (α := Wd × Int × Int) (fun x => [isD K (worldD x.1.1 x.1.2), isD K (pairD x.2)]) (fun x => WdOk x.1) (fun x => isDL K ((cellsF x.1.1 x.1.2 x.2 x.1.1.length).map cellD))
theorem ok_law_cells (T : Tp K mg) : FnOk P w K mg base CX0 1 T.f_law_cells T.fd_law_cells ["_law_world", "_law_spot"] (sp_law_cells K) := by
  have hk : KK K := kk
  refine T.F_law_cells.ok sc_law_cells (fun vs H Q E ⟨x, G, e, ha, _⟩ => all2_len ha) (fun cdv A outer s H vs Q E hr h => ?_)
  obtain ⟨⟨⟨strips, offs⟩, i, j⟩, G, e, ha, ⟨ok, ol, o8⟩, q⟩ := h
  cases ha with
  | @cons _ _ x _ _ hx ha =>
  cases ha with
  | @cons _ _ y _ _ hy ha =>
  cases ha
  replace hx : Dp K G x (.tuple [.list (strips.map rowsL), .list (offs.map pairD), .int 9, .list (strips.map fun _ => pairD (-9, 9)), .list []]) := hx
  replace hy : Dp K G y (pairD (i, j)) := hy
  replace ok : StripsOk strips := ok
  replace ol : offs.length = strips.length := ol
  replace o8 : strips.length ≤ 8 := o8
  refine ⟨_, (pss_cons (ps_set (i := 2) sc_law_cells.nd rfl (by first | exact Or.inl rfl | exact Or.inr rfl) (pe_lst pa_nil))
      (pss_cons (ps_for PassesOwn.never rfl (pi_enumZip (K := K) rfl (by rfl) T.z_enumerate (by rfl) T.z_zip (pa_cons (pe_ix (kixT (K := K) rfl) (pv 0) pe_int (fun _ _ => rfl)) (pa_cons (pe_ix (kixT (K := K) rfl) (pv 0) pe_int (fun _ _ => rfl)) pa_nil))) (kpgT (K := K) (n := 2) rfl rfl (pgs_cons (pg_name (i := 3) sc_law_cells.nd rfl (by first | exact Or.inl rfl | exact Or.inr rfl)) (pgs_cons (kpgT (K := K) (n := 2) rfl rfl (pgs_cons (pg_name (i := 4) sc_law_cells.nd rfl (by first | exact Or.inl rfl | exact Or.inr rfl)) (pgs_cons (pg_name (i := 5) sc_law_cells.nd rfl (by first | exact Or.inl rfl | exact Or.inr rfl)) pgs_nil))) pgs_nil)))
        (pss_cons (ps_set (i := 6) sc_law_cells.nd rfl (by first | exact Or.inl rfl | exact Or.inr rfl) (pe_tup (pa_cons (pe_op op_sub (pe_ix (kixT (K := K) rfl) (pv 1) pe_int (fun _ _ => rfl)) (pe_ix (kixT (K := K) rfl) (pv 5) pe_int (fun _ _ => rfl))) (pa_cons (pe_op op_sub (pe_ix (kixT (K := K) rfl) (pv 1) pe_int (fun _ _ => rfl)) (pe_ix (kixT (K := K) rfl) (pv 5) pe_int (fun _ _ => rfl))) pa_nil))))
        (pss_one (ps_if (PW.pt (pw_and (pt_chain op_le op_lt pe_int (pe_ix (kixT (K := K) rfl) (pv 6) pe_int (fun _ _ => rfl)) (pe_callB (klen (K := K) rfl) (by rfl) T.z_len (by decide +kernel) (pa_cons (pv 4) pa_nil))) (pw_and1 (pt_chain op_le op_lt pe_int (pe_ix (kixT (K := K) rfl) (pv 6) pe_int (fun _ _ => rfl)) (pe_callB (klen (K := K) rfl) (by rfl) T.z_len (by decide +kernel) (pa_cons (pe_ix (kixL (K := K) rfl) (pv 4) pe_int (fun _ _ => rfl)) pa_nil))))))
          (pss_one (ps_expr (kbm (K := K) rfl PySem.F.plainAttrs_list PySem.F.slot_list_append PySem.F.type_list_append mt_append (pv 2) (pa_cons (pe_tup (pa_cons (pv 3) (pa_cons (pv 6) pa_nil))) pa_nil))))
          pss_nil))))
      (pss_one (ps_ret (pv 2))))), ?_⟩
  refine q_new (k := fun l hln => ?_)
  have hgl : G l = none := e.free hln
  have g0 : Gw [] G H G (upd H l (.lst [])) := Gw.lay e hln
  have hlen8 : min ((strips.map rowsL).map (isD K)).length ((offs.map pairD).map (isD K)).length = strips.length := by rw [List.length_map, List.length_map, List.length_map, List.length_map, ol]; exact Nat.min_self _
  have w0 : EvR (tOp (rIxT K) (tVar 0) (tC (.int 0))) [some x, some y, some (.ref l), none, none, none, none] G (isD K (.list (strips.map rowsL))) := ev_ixT (i := 0) (by rfl) (ev_varD rfl hx) ev_int
  have w1 : EvR (tOp (rIxT K) (tVar 0) (tC (.int 1))) [some x, some y, some (.ref l), none, none, none, none] G (isD K (.list (offs.map pairD))) := ev_ixT (i := 1) (by rfl) (ev_varD rfl hx) ev_int
  refine s_forEZO (K := K) (D := _) (mns_map (fun _ => mn_isD) (strips.map rowsL)) (mns_map (fun _ => mn_isD) (offs.map pairD)) g0.gh (ea_cons (mn_lsO (mns_map (fun _ => mn_isD) _)) (w0.imp fun v G' u r => ls_of_dp r)
    (ea_cons (mn_lsO (mns_map (fun _ => mn_isD) _)) (w1.imp fun v G' u r => ls_of_dp r) ea_nil)) hlen8.symm fun Gb Hb gb => ?_
  refine ⟨fun k σ' G' H' => (∃ v3 v4 v5 v6, σ' = [some x, some y, some (.ref l), v3, v4, v5, v6]) ∧ ∃ ys, Gw [l] G (upd H l (.lst [])) G' H' ∧ H' l = some (.lst ys) ∧ DpAll K G' ys ((cellsF strips offs (i, j) k).map cellD), ⟨⟨_, _, _, _, rfl⟩, [], gb.weak, gb.hh _ _ upd_same (by simp), .nil⟩, ?_, ?_⟩
  · rintro k R S v st of T1 σ1 G2 H2 G3 H3 hk8 hR hS s1 s2 ⟨⟨v3, v4, v5, v6, rfl⟩, ys, gw, hl2, hd⟩ gz hv ht hst hof
    rw [List.getElem?_map, List.getElem?_map, List.getElem?_eq_getElem hk8] at hR
    cases hR
    have hko : k < offs.length := by omega
    rw [List.getElem?_map, List.getElem?_map, List.getElem?_eq_getElem hko] at hS
    cases hS
    obtain ⟨wd, okr⟩ := ok _ (List.getElem_mem hk8)
    have eS : strips.getD k [] = strips[k] := by simp [hk8]
    have eO : offs.getD k (0, 0) = offs[k] := by simp [hko]
    generalize strips[k] = rows at hst okr eS
    generalize offs[k] = off at hof eO
    replace hof : Dp K G3 of (.tuple [.int off.1, .int off.2]) := hof
    replace hst : Dp K G3 st (.list (rows.map fun r => PyData.list (r.map oD))) := hst
    obtain ⟨r0, hr0, hw0, z0⟩ := at0L okr
    have sz : Same G G3 := gw.gg.trans gz.gg
    have hy3 : Dp K G3 y (.tuple [.int i, .int j]) := dpm sz hy
    refine g_tupV (K := K) gz.gh hv rfl (g_cons (g_cons (g_tupV (K := K) gz.gh ht rfl (g_two (g_nil ?_)))))
    refine q_set (σ := [some x, some y, some (.ref l), some (.int (k : Nat)), some st, some of, v6]) (R := isD K (pairD (i - off.1, j - off.2))) gz.gh (ev_shape (by walk_at "ev") (by rfl)) fun cv G4 H4 g4 r4 => ?_
    have r4' : Dp K G4 cv (.tuple [.int (i - off.1), .int (j - off.2)]) := r4
    have hst4 := dpm g4.gg hst
    have gw4 := (gw.trans gz.weak).trans g4.weak
    have hl4 : H4 l = some (.lst ys) := g4.hh _ _ (gz.hh _ _ hl2 (by simp)) (by simp)
    have next_ : cellsF strips offs (i, j) (k + 1) = cellsF strips offs (i, j) k ++ cellAt strips offs (i, j) k := flat_succ _ _
    refine s_if (σ := [some x, some y, some (.ref l), some (.int (k : Nat)), some st, some of, some cv]) (b := inB rows (i - off.1, j - off.2)) g4.gh (ev_shapeT (by walk_at "ev") ?tst) (fun hb G5 H5 g5 => ?_) fun hb G5 H5 g5 => ?_
    case tst =>
      unfold inB
      rw [rows_w okr, List.length_map, List.length_map, hw0]
    · have e1 : cellAt strips offs (i, j) k = [(k, i - off.1, j - off.2)] := by
        unfold cellAt
        rw [eS, eO]
        exact if_pos hb
      have hlen : ys.length ≤ 1000 := by
        rw [dpall_len hd, List.length_map]
        have := cells_len (strips := strips) (offs := offs) (spot := (i, j)) k
        omega
      have hl5 : H5 l = some (.lst ys) := g5.hh _ _ hl4 (by simp)
      have r5 := dpm g5.gg r4
      have gw5 := gw4.trans g5.weak
      refine s_app (K := K) (σ := [some x, some y, some (.ref l), some (.int (k : Nat)), some st, some of, some cv]) (R := isD K (cellD (k, i - off.1, j - off.2))) g5.gh hl5 (ev_var rfl rfl) (ev_shape (by walk_at "ev") (by rfl)) mn_isD hlen fun u G6 H6 g6 r6 hl6 => ?_
      have hg6 : G6 l = none := (gw5.trans g6.weak).out hgl upd_same
      refine ⟨G6, ((s1.trans gz.gg).trans g4.gg).trans (g5.gg.trans g6.gg), fun a o q => ?_, ⟨_, _, _, _, rfl⟩, ys ++ [u], (gw5.trans g6.weak).trans (Gw.put g6.gh hg6 (by simp)), upd_same, ?_⟩
      · rw [upd_ne (fun z => by subst z; rw [hg6] at q; cases q)]
        exact g6.gh a o q
      · rw [next_, e1, List.map_append]
        exact dpall_app (dpall_mono (((gz.gg.trans g4.gg).trans g5.gg).trans g6.gg) _ _ hd) (.cons r6 .nil)
    · have e1 : cellAt strips offs (i, j) k = [] := by
        unfold cellAt
        rw [eS, eO]
        exact if_neg (by rw [hb]; decide)
      refine ⟨G5, ((s1.trans gz.gg).trans g4.gg).trans g5.gg, g5.gh, ⟨_, _, _, _, rfl⟩, ys, gw4.trans g5.weak, g5.hh _ _ hl4 (by simp), ?_⟩
      rw [next_, e1, List.append_nil]
      exact dpall_mono ((gz.gg.trans g4.gg).trans g5.gg) _ _ hd
  · rintro σ1 G2 H2 s1 s2 ⟨⟨v3, v4, v5, v6, rfl⟩, ys, gw, hl2, hd⟩
    have gA : Gw [] G H (upd G2 l (.lst ys)) H2 := ((Gw.lay e hln).weak.trans gw).fix e hln hl2
    refine s_ret (R := isV (.ref l)) gA.gh (ev_var rfl rfl) fun v G' H' g r => q v G' H' (gA.trans g) ?_
    cases r
    have hg2 : G2 l = none := gw.out hgl upd_same
    exact mn_isDL _ _ _ g.gg ⟨l, ys, rfl, upd_same, dpall_mono (same_new hg2) _ _ hd⟩
end

section
variable {P : Program} {w : World} {K : PySem.W.Frag} {mg : Str → Option Value} {base : Heap}
abbrev tkW (x : Wd) (spot : Int × Int) : PyData := takenD (takenF x.1 (cellsF x.1 x.2 spot x.1.length))
abbrev sp_law_taken (K : PySem.W.Frag) : Sp := spP (α := Wd × Int × Int) (fun x => [isD K (worldD x.1.1 x.1.2), isD K (pairD x.2)]) (fun x => WdOk x.1) (fun x => isD K (tkW x.1 x.2))
theorem ok_law_taken (T : Tp K mg) : FnOk P w K mg base CX0 2 T.f_law_taken T.fd_law_taken ["_law_world", "_law_spot"] (sp_law_taken K) := by
  have hk : KK K := kk
  have G_law_cells : FnOk P w K mg base CX0 1 T.f_law_cells T.fd_law_cells ["_law_world", "_law_spot"] (sp_law_cells K) := ok_law_cells T
  have G_law_rim : FnOk P w K mg base CX0 1 T.f_law_rim T.fd_law_rim ["_law_rows", "_law_cell"] (sp_law_rim K) := ok_law_rim T
  refine T.F_law_taken.ok sc_law_taken (fun vs H Q E ⟨x, G, e, ha, _⟩ => all2_len ha) (fun cdv A outer s H vs Q E hr h => ?_)
  obtain ⟨⟨⟨strips, offs⟩, i, j⟩, G, e, ha, wok, q⟩ := h
  cases ha with
  | @cons _ _ x _ _ hx ha =>
  cases ha with
  | @cons _ _ y _ _ hy ha =>
  cases ha
  replace hx : Dp K G x (worldD strips offs) := hx
  replace hy : Dp K G y (pairD (i, j)) := hy
  replace wok : WdOk (strips, offs) := wok
  obtain ⟨ok, ol, o8⟩ := id wok
  replace ok : StripsOk strips := ok
  replace o8 : strips.length ≤ 8 := o8
  have hu := Nat.lt_of_le_of_lt (Nat.add_le_add_left (by decide : 64 ≤ 16 * 1 + 200) _) (by have := hr.un; rw [Nat.add_assoc] at this; exact this)
  refine ⟨_, (pss_cons (ps_set (i := 2) sc_law_taken.nd rfl (by first | exact Or.inl rfl | exact Or.inr rfl) (pe_lst pa_nil))
      (pss_cons (ps_for PassesOwn.never rfl (kpiL (K := K) rfl (pe_call G_law_cells (hr.mono (by decide)) rfl T.g_law_cells T.F_law_cells.kp T.b_law_cells .nil pass0 (pa_cons (pv 0) (pa_cons (pv 1) pa_nil)))) (kpgT (K := K) (n := 2) rfl rfl (pgs_cons (pg_name (i := 3) sc_law_taken.nd rfl (by first | exact Or.inl rfl | exact Or.inr rfl)) (pgs_cons (pg_name (i := 4) sc_law_taken.nd rfl (by first | exact Or.inl rfl | exact Or.inr rfl)) pgs_nil)))
        (pss_cons (ps_set (i := 5) sc_law_taken.nd rfl (by first | exact Or.inl rfl | exact Or.inr rfl) (pe_ix (kixL (K := K) rfl) (pe_ix (kixL (K := K) rfl) (pe_ix (kixL (K := K) rfl) (pe_ix (kixT (K := K) rfl) (pv 0) pe_int (fun _ _ => rfl)) (pv 3) (fun _ _ => rfl)) (pe_ix (kixT (K := K) rfl) (pv 4) pe_int (fun _ _ => rfl)) (fun _ _ => rfl)) (pe_ix (kixT (K := K) rfl) (pv 4) pe_int (fun _ _ => rfl)) (fun _ _ => rfl)))
        (pss_one (ps_if (pt_cmpR op_notN (pv 5) pe_non (nomark _))
          (pss_one (ps_expr (kbm (K := K) rfl PySem.F.plainAttrs_list PySem.F.slot_list_append PySem.F.type_list_append mt_append (pv 2) (pa_cons (pe_tup (pa_cons (pe_op op_sub pe_int (pe_call G_law_rim (hr.mono (by decide)) rfl T.g_law_rim T.F_law_rim.kp T.b_law_rim .nil pass0 (pa_cons (pe_ix (kixL (K := K) rfl) (pe_ix (kixT (K := K) rfl) (pv 0) pe_int (fun _ _ => rfl)) (pv 3) (fun _ _ => rfl)) (pa_cons (pv 4) pa_nil)))) (pa_cons (pv 3) (pa_cons (pv 5) pa_nil)))) pa_nil))))
          pss_nil))))
      (pss_cons (ps_if (pt_cmpR (keqD (K := K) rfl hu) (pv 2) (pe_lst pa_nil) (nomark _))
        (pss_one (ps_ret pe_non))
        pss_nil)
      (pss_one (ps_ret (pe_slice (kslT (K := K) rfl) (pe_callB (kminD (K := K) rfl rfl hu) (by rfl) T.z_min (by decide +kernel) (pa_cons (pv 2) pa_nil)) (po_some pe_int) po_none)))))), ?_⟩
  refine q_new (k := fun l hln => ?_)
  have hgl : G l = none := e.free hln
  have g0 : Gw [] G H G (upd H l (.lst [])) := Gw.lay e hln
  have cok := cells_ok (strips := strips) (offs := offs) (spot := (i, j)) (Nat.le_refl _)
  have cpw := (cells_pw (strips := strips) (offs := offs) (spot := (i, j)) strips.length).1
  have clen := cells_len (strips := strips) (offs := offs) (spot := (i, j)) strips.length
  generalize hcs : cellsF strips offs (i, j) strips.length = cs at cok cpw clen
  refine q_forL (ds := cs.map cellD) g0.gh (ev_dl (ev_dlTo (ev_call ((strips, offs), i, j) (ea_cons mn_isD (ev_var rfl hx) (ea_cons mn_isD (ev_var rfl hy) ea_nil)) wok) (by rw [hcs]))) fun Gb Hb gb => ?_
  refine ⟨fun n σ' G' H' => (∃ v3 v4 v5, σ' = [some x, some y, some (.ref l), v3, v4, v5]) ∧ ∃ ys, Gw [l] G (upd H l (.lst [])) G' H' ∧ H' l = some (.lst ys) ∧ DpAll K G' ys ((someF strips (cs.take n)).map someD), ⟨⟨_, _, _, rfl⟩, [], gb.weak, gb.hh _ _ upd_same (by simp), .nil⟩, ?_, ?_⟩
  · rintro n z d σ1 G4 H4 hd s1 s2 hz ⟨⟨v3, v4, v5, rfl⟩, ys, gw, hl2, hds⟩
    rw [List.getElem?_map] at hd
    cases hq : cs[n]? with
    | none => rw [hq] at hd; cases hd
    | some cl =>
    rw [hq] at hd
    cases hd
    have hnl := (List.getElem?_eq_some_iff.mp hq).1
    obtain ⟨ck, cb⟩ := cok cl (List.mem_of_getElem? hq)
    have next_ : someF strips (cs.take (n + 1)) = someF strips (cs.take n) ++ someF strips [cl] := by
      unfold someF
      rw [take_snoc hq, List.filterMap_append]
    have hlen : ys.length ≤ 1000 := by
      rw [dpall_len hds, List.length_map]
      have h1 : (someF strips (cs.take n)).length ≤ (cs.take n).length := List.length_filterMap_le _ _
      rw [List.length_take] at h1
      omega
    obtain ⟨k, r, c⟩ := cl
    replace ck : k < strips.length := ck
    have eS : strips.getD k [] = strips[k] := by simp [ck]
    replace cb : inB (strips.getD k []) (r, c) = true := cb
    obtain ⟨wd, okr⟩ := ok _ (List.getElem_mem ck)
    have zk : atI (strips.map rowsL) ((k : Nat) : Int) = some (rowsL strips[k]) := atI_map _ (atI_nn (by omega) (by simp [ck]))
    have erd : rdAt strips (k, r, c) = (strips[k].getD r.toNat []).getD c.toNat none := by unfold rdAt; rw [eS]
    rw [eS] at cb
    generalize strips[k] = rows at okr zk eS erd cb
    obtain ⟨row, hr1, hr2, _⟩ := rd_there okr cb
    obtain ⟨i1, i2, i3, i4⟩ := inB_iff cb
    rw [← erd] at hr2
    have zr : atI (rows.map fun r => PyData.list (r.map oD)) r = some (.list (row.map oD)) := atI_map _ (atI_nn i1 hr1)
    have zc : atI (row.map oD) c = some (oD (rdAt strips (k, r, c))) := atI_map _ (atI_nn i3 hr2)
    have u4 : Same G G4 := gw.gg
    have hx4 : Dp K G4 x (.tuple [.list (strips.map rowsL), .list (offs.map pairD), .int 9, .list (strips.map fun _ => pairD (-9, 9)), .list []]) := dpm u4 hx
    refine g_tup (ds := [.int (k : Nat), pairD (r, c)]) s2 hz rfl fun us hus => ?_
    cases hus with
    | @cons a1 _ _ _ b1 hus =>
    cases hus with
    | @cons a2 _ _ _ b2 hus =>
    cases hus
    refine g_two ?_
    have b2' : Dp K G4 a2 (.tuple [.int r, .int c]) := b2
    refine q_set (σ := [some x, some y, some (.ref l), some a1, some a2, v5]) (R := isD K (oD (rdAt strips (k, r, c)))) s2 (ev_ixL zc (ev_ixL zr (ev_ixL zk (ev_ixT (i := 0) (by rfl) (ev_varD rfl hx4) ev_int) (ev_varD rfl b1)) (ev_ixT (i := 0) (by rfl) (ev_varD rfl b2') ev_int)) (ev_ixT (i := 1) (by rfl) (ev_varD rfl b2') ev_int)) fun v5' G5 H5 g5 r5 => ?_
    have gw5 := gw.trans g5.weak
    have hl5 : H5 l = some (.lst ys) := g5.hh _ _ hl2 (by simp)
    cases hrd : rdAt strips (k, r, c) with
    | none =>
      rw [hrd] at r5
      refine s_no g5.gh (et_testK hk (ev_shape (ev_notN (ev_varD rfl r5)) (by rfl))) fun G7 H7 g7 => ?_
      have e9 : someF strips [(k, r, c)] = [] := by unfold someF; rw [List.filterMap_cons, hrd]; rfl
      refine ⟨G7, (s1.trans g5.gg).trans g7.gg, g7.gh, ⟨some a1, some a2, some v5', rfl⟩, ys, gw5.trans g7.weak, g7.hh _ _ hl5 (by simp), ?_⟩
      rw [next_, e9, List.append_nil]
      exact dpall_mono (g5.gg.trans g7.gg) _ _ hds
    | some val =>
      rw [hrd] at r5
      replace r5 : Dp K G5 v5' (.int val) := r5
      refine s_yes g5.gh (et_testK hk (ev_shape (ev_notN (ev_varD rfl r5)) (by rfl))) fun G7 H7 g7 => ?_
      have e9 : someF strips [(k, r, c)] = [(0 - rimF rows (r, c), k, val)] := by unfold someF; rw [List.filterMap_cons, hrd]; simp only [Option.map_some, List.filterMap_nil, eS]
      have hl7 : H7 l = some (.lst ys) := g7.hh _ _ hl5 (by simp)
      have gw7 := gw5.trans g7.weak
      have u7 := g5.gg.trans g7.gg
      have hx7 : Dp K G7 x (.tuple [.list (strips.map rowsL), .list (offs.map pairD), .int 9, .list (strips.map fun _ => pairD (-9, 9)), .list []]) := dpm u7 hx4
      refine s_app (K := K) (σ := [some x, some y, some (.ref l), some a1, some a2, some v5']) (R := isD K (someD (0 - rimF rows (r, c), k, val))) g7.gh hl7 (ev_var rfl rfl)
        (ev_tup (ed_cons (ev_sub ev_int (ev_call (rows, wd, r, c) (ea_cons mn_isD (ev_ixL zk (ev_ixT (i := 0) (by rfl) (ev_varD rfl hx7) ev_int) (ev_varD rfl (dpm u7 b1))) (ea_cons mn_isD (ev_var rfl (dpm u7 b2)) ea_nil)) okr)) (ed_cons (ev_varD rfl (dpm u7 b1)) (ed_cons (ev_varD rfl (dpm g7.gg r5)) ed_nil))) (by simp)) mn_isD hlen fun u G8 H8 g8 r8 hl8 => ?_
      have hg8 : G8 l = none := (gw7.trans g8.weak).out hgl upd_same
      refine ⟨G8, (s1.trans u7).trans g8.gg, fun a o q => ?_, ⟨some a1, some a2, some v5', rfl⟩, ys ++ [u], (gw7.trans g8.weak).trans (Gw.put g8.gh hg8 (by simp)), upd_same, ?_⟩
      · rw [upd_ne (fun z => by subst z; rw [hg8] at q; cases q)]
        exact g8.gh a o q
      · rw [next_, e9, List.map_append]
        exact dpall_app (dpall_mono (u7.trans g8.gg) _ _ hds) (.cons r8 .nil)
  · rintro σ1 G2 H2 s1 s2 ⟨⟨v3, v4, v5, rfl⟩, ys, gw, hl2, hd⟩
    rw [List.length_map, List.take_length] at hd
    have gA : Gw [] G H (upd G2 l (.lst ys)) H2 := ((Gw.lay e hln).weak.trans gw).fix e hln hl2
    have hg2 : G2 l = none := gw.out hgl upd_same
    have hsm : Dp K (upd G2 l (.lst ys)) (.ref l) (.list ((someF strips cs).map someD)) := .lst (SqL.of upd_same) (dpall_mono (same_new hg2) _ _ hd)
    obtain ⟨t0, t1⟩ := taken_law cok cpw
    have fin_ : tkW (strips, offs) (i, j) = takenD (takenF strips cs) := by
      show takenD (takenF strips (cellsF strips offs (i, j) strips.length)) = _
      rw [hcs]
    cases hsf : someF strips cs with
    | nil =>
      rw [hsf] at hsm
      refine q_yes gA.gh (et_testK hk (ev_shape (ev_eqD (d := .list []) (e := .list []) (by rfl) (by rfl) (ev_varD rfl hsm) (ev_lst ed_nil (by simp))) (by rfl))) fun G3 H3 g3 => ?_
      refine s_ret (R := isD K .none) g3.gh ev_non fun v G' H' g r => ?_
      refine q v G' H' ((gA.trans g3).trans g) ?_
      show Dp K G' v (tkW (strips, offs) (i, j))
      rw [fin_, t0 hsf]
      exact r
    | cons a l' =>
      rw [hsf] at hsm
      have fa : ∀ d ∈ (a :: l').map someD, Fine 1 d := fine_map fine_some _
      refine q_no gA.gh (et_testK hk (ev_shape (ev_eqD (d := .list ((a :: l').map someD)) (e := .list []) ((fine_list fa).shaped (by decide)) (by rfl) (ev_varD rfl hsm) (ev_lst ed_nil (by simp))) (by rfl))) fun G3 H3 g3 => ?_
      obtain ⟨t2, t3⟩ := t1 a l' hsf
      have hmin : EvR (tCB (rMinD K) (tCons (tVar 2) tNil)) [some x, some y, some (.ref l), v3, v4, v5] G3 (isD K (PySem.W.minD (someD a) (l'.map someD))) := ev_minD (ev_varD rfl (dpm g3.gg hsm)) (alike_some (a :: l')) (fine_all_plain fa) (Nat.le_trans (fine_all_dep fa) (by decide))
      rw [t2] at hmin
      have goal_ : tRet (tSl (rSlA K) (tCB (rMinD K) (tCons (tVar 2) tNil)) (tPart (tC (.int 1))) tNoPart) { nx := fun _ H' => Q V.non H', rt := Q } [some x, some y, some (.ref l), v3, v4, v5] H3 :=
        s_ret g3.gh (ev_slT (lo := some 1) (hi := none) hmin (eo_someK hk ev_int) eo_none) fun v G' H' g r => q v G' H' ((gA.trans g3).trans g) (by
          show Dp K G' v (tkW (strips, offs) (i, j))
          rw [fin_, t3]
          exact r)
      exact goal_
end

section
variable {P : Program} {w : World} {K : PySem.W.Frag} {mg : Str → Option Value} {base : Heap}
abbrev sp_law_joined (K : PySem.W.Frag) : Sp := spP (α := Wd × Win) (fun x => [isD K (worldD x.1.1 x.1.2), isD K (winD x.2)]) (fun x => WdOk x.1 ∧ WinOk x.2) (fun x => isD K (.list ((picAll (tkW x.1) x.2).map .list)))
theorem ok_law_joined (T : Tp K mg) : FnOk P w K mg base CX0 3 T.f_law_joined T.fd_law_joined ["_law_world", "_law_window_here"] (sp_law_joined K) := by
  have hk : KK K := kk
  have G_law_taken : FnOk P w K mg base CX0 2 T.f_law_taken T.fd_law_taken ["_law_world", "_law_spot"] (sp_law_taken K) := ok_law_taken T
  refine T.F_law_joined.ok sc_law_joined (fun vs H Q E ⟨x, G, e, ha, _⟩ => all2_len ha) (fun cdv A outer s H vs Q E hr h => ?_)
  obtain ⟨⟨⟨strips, offs⟩, a, b, c, d⟩, G, e, ha, ⟨dok, wok⟩, q⟩ := h
  cases ha with
  | @cons _ _ x _ _ hx ha =>
  cases ha with
  | @cons _ _ y _ _ hy ha =>
  cases ha
  replace hx : Dp K G x (worldD strips offs) := hx
  replace hy : Dp K G y (.tuple [.int a, .int b, .int c, .int d]) := hy
  replace dok : WdOk (strips, offs) := dok
  replace wok : WinOk (a, b, c, d) := wok
  obtain ⟨f1, f2⟩ := wok.few
  obtain ⟨k1, k2, k3, k4, k5, k6, k7⟩ := id wok
  replace k1 : a ≤ b := k1
  replace k2 : c ≤ d := k2
  replace k4 : -(2 ^ 40) < a := k4
  replace k5 : b < 2 ^ 40 := k5
  replace k6 : -(2 ^ 40) < c := k6
  replace k7 : d < 2 ^ 40 := k7
  replace f1 : (b + 1 - a).toNat ≤ 144 := f1
  replace f2 : (d + 1 - c).toNat ≤ 144 := f2
  refine ⟨_, (pss_cons (ps_set (i := 2) sc_law_joined.nd rfl (by first | exact Or.inl rfl | exact Or.inr rfl) (pe_lst pa_nil))
      (pss_cons (ps_for PassesOwn.never rfl (pi_range2 (by rfl) T.z_range (pa_cons (pe_ix (kixT (K := K) rfl) (pv 1) pe_int (fun _ _ => rfl)) (pa_cons (pe_op op_add (pe_ix (kixT (K := K) rfl) (pv 1) pe_int (fun _ _ => rfl)) pe_int) pa_nil))) (pg_name (i := 3) sc_law_joined.nd rfl (by first | exact Or.inl rfl | exact Or.inr rfl))
        (pss_one (ps_expr (kbm (K := K) rfl PySem.F.plainAttrs_list PySem.F.slot_list_append PySem.F.type_list_append mt_append (pv 2) (pa_cons (pe_lc (own := [("_law_column", 4)]) rfl sc_law_joined.nd (pi_range2 (by rfl) T.z_range (pa_cons (pe_ix (kixT (K := K) rfl) (pv 1) pe_int (fun _ _ => rfl)) (pa_cons (pe_op op_add (pe_ix (kixT (K := K) rfl) (pv 1) pe_int (fun _ _ => rfl)) pe_int) pa_nil))) (blkOk_by (N := ["_law_world", "_law_window_here", "_law_found", "_law_row", "_law_column"]) (sc := defScope s_law_joined) (by decide +kernel)) (fun _ _ _ _ _ => (pg_name (i := 4) sc_law_joined.nd rfl (by first | exact Or.inl rfl | exact Or.inr rfl))) (fun _ _ _ _ _ => pts_nil) (fun _ _ _ _ _ => (pe_call G_law_taken (hr.mono (by decide)) rfl T.g_law_taken T.F_law_taken.kp T.b_law_taken .nil pass0 (pa_cons (pv 0) (pa_cons (pe_tup (pa_cons (pv 3) (pa_cons (pv 4) pa_nil))) pa_nil))))) pa_nil)))))
      (pss_one (ps_ret (pv 2))))), ?_⟩
  refine q_new (k := fun l hln => ?_)
  have hgl : G l = none := e.free hln
  have g0 : Gw [] G H G (upd H l (.lst [])) := Gw.lay e hln
  refine s_forR2 (K := K) (lo := a) (hi := b + 1) (D := _) (σ := [some x, some y, some (.ref l), none, none]) g0.gh (by walk_at "ev") ⟨by omega, by omega, by omega, by omega⟩ fun Gb Hb gb => ?_
  refine ⟨fun n σ' G' H' => (∃ v7, σ' = [some x, some y, some (.ref l), v7, none]) ∧ ∃ ys, Gw [l] G (upd H l (.lst [])) G' H' ∧ H' l = some (.lst ys) ∧ DpAll K G' ys ((picRows (tkW (strips, offs)) (a, b, c, d) n).map .list), ⟨⟨_, rfl⟩, [], gb.weak, gb.hh _ _ upd_same (by simp), .nil⟩, ?_, ?_⟩
  · rintro n σ1 G3 H3 hn s1 s2 ⟨⟨v7, rfl⟩, ys, gw, hl3, hd⟩
    have u3 : Same G G3 := gw.gg
    have hx3 := dpm u3 hx
    have hy3 := dpm u3 hy
    have hlen : ys.length ≤ 1000 := by
      rw [dpall_len hd, List.length_map]
      unfold picRows
      rw [List.length_map, List.length_range]
      omega
    refine s_app (K := K) (σ := [some x, some y, some (.ref l), some (.int (a + (n : Nat))), none]) (R := isDLn K G3 (picRow (tkW (strips, offs)) (a + (n : Nat)) c d)) s2 hl3 (ev_var rfl rfl)
      (ev_lcR2F (lo := c) (hi := d + 1) (fun k => tkW (strips, offs) (a + (n : Nat), k)) (by walk_at "ev") ⟨by omega, by omega, by omega, by omega⟩ (by omega) (fun _ => rfl) fun k G4 e4 h1 h2 => ?_) mn_isDLn hlen fun u G6 H6 g6 r6 hl6 => ?_
    · exact ev_call ((strips, offs), a + (n : Nat), k) (ea_cons mn_isD (ev_var rfl (dpm e4 hx3)) (ea_cons mn_isD (ev_tup (ed_cons (ev_varD rfl (.int _)) (ed_cons (ev_varD rfl (.int _)) ed_nil)) (by simp)) ea_nil)) dok
    · have hg6 : G6 l = none := (gw.trans g6.weak).out hgl upd_same
      refine ⟨G6, s1.trans g6.gg, fun a o q => ?_, ⟨_, rfl⟩, ys ++ [u], (gw.trans g6.weak).trans (Gw.put g6.gh hg6 (by simp)), upd_same, ?_⟩
      · rw [upd_ne (fun z => by subst z; rw [hg6] at q; cases q)]
        exact g6.gh a o q
      · rw [picRows_succ, List.map_append]
        obtain ⟨_, _, _, r7⟩ := r6
        exact dpall_app (dpall_mono g6.gg _ _ hd) (.cons (dl_dp r7) .nil)
  · rintro σ1 G3 H3 s1 s2 ⟨⟨v7, rfl⟩, ys, gw, hl3, hd⟩
    have gA : Gw [] G H (upd G3 l (.lst ys)) H3 := ((Gw.lay e hln).weak.trans gw).fix e hln hl3
    have hg3 : G3 l = none := gw.out hgl upd_same
    refine s_ret (R := isV (.ref l)) gA.gh (ev_var rfl rfl) fun v G' H' g r => q v G' H' (gA.trans g) ?_
    cases r
    exact dpm g.gg (.lst (SqL.of upd_same) (dpall_mono (same_new hg3) _ _ hd))
end

section
variable {P : Program} {w : World} {K : PySem.W.Frag} {mg : Str → Option Value} {base : Heap}
def lvOf (x : Wd) : LevD := ⟨x.1, x.2, 9, x.1.map fun _ => (-9, 9), []⟩
structure WdFull (x : Wd) : Prop where
  strips : StripsOk x.1
  n1 : 1 ≤ x.1.length
  n8 : x.1.length ≤ 8
  offs : x.2.length = x.1.length
  r240 : (lvOf x).rds.length ≤ 240
  few : ∃ D : List (Int × Int), D.length ≤ 48 ∧ ∀ q ∈ (lvOf x).spots, q ∈ D
theorem WdFull.lev {x : Wd} (h : WdFull x) : LevOk (lvOf x) where
  strips := h.strips
  n1 := h.n1
  n8 := h.n8
  offs := h.offs
  noise := by show (0 : Int) ≤ 9; decide
  ranges := by show (x.1.map fun _ => ((-9, 9) : Int × Int)).length = x.1.length; rw [List.length_map]
  rng := fun r hr => by
    obtain ⟨_, _, rfl⟩ := List.mem_map.mp hr
    decide
  d40 := Nat.zero_le _
  dat := fun d hd => by cases hd
  r240 := h.r240
  few := h.few
abbrev sp_law_levels (T : Tp K mg) : Sp := spP (α := Wd) (fun x => [isD K (worldD x.1 x.2)]) WdFull (fun x v G => ∃ xs sn, isLev T xs (lvOf x) sn true v G)
def rowsOf' : PyData → List (List (Option Int))
  | .list l => l.map fun
    | .list r => r.map fun
      | .int i => some i
      | _ => none
    | _ => []
  | _ => []
theorem rows_back (rows : List (List (Option Int))) : rowsOf' (rowsL rows) = rows := by
  unfold rowsOf'
  show (rows.map fun r => PyData.list (r.map oD)).map _ = rows
  rw [List.map_map]
  conv => rhs; rw [← List.map_id rows]
  refine List.map_congr_left fun r _ => ?_
  show (r.map oD).map _ = r
  rw [List.map_map]
  conv => rhs; rw [← List.map_id r]
  refine List.map_congr_left fun o _ => ?_
  cases o <;> rfl
theorem ok_law_levels (T : Tp K mg) : FnOk P w K mg base CX0 7 T.f_law_levels T.fd_law_levels ["_law_world"] (sp_law_levels T) := by
  have hk : KK K := kk
  have G_Strip___init : FnOk P w K mg base CX0 4 T.f_Strip___init T.fd_Strip___init ["self", "rows"] (sp_Strip___init T) := ok_Strip___init T
  have G_Levels___init : FnOk P w K mg base CX0 5 T.f_Levels___init T.fd_Levels___init ["self", "strips", "offsets", "noise", "biases", "datums"] (sp_Levels___init T) := ok_Levels___init T
  refine T.F_law_levels.ok sc_law_levels (fun vs H Q E ⟨x, G, e, ha, _⟩ => all2_len ha) (fun cdv A outer s H vs Q E hr h => ?_)
  obtain ⟨⟨strips, offs⟩, G, e, ha, ok, q⟩ := h
  cases ha with
  | @cons _ _ x _ _ hx ha =>
  cases ha
  replace hx : Dp K G x (.tuple [.list (strips.map rowsL), .list (offs.map pairD), .int 9, .list (strips.map fun _ => pairD (-9, 9)), .list []]) := hx
  replace ok : WdFull (strips, offs) := ok
  refine ⟨_, (pss_cons (ps_asg (pe_slice (kslT (K := K) rfl) (pv 0) po_none (po_some pe_int)) (kpgT (K := K) (n := 5) rfl rfl (pgs_cons (pg_name (i := 1) sc_law_levels.nd rfl (by first | exact Or.inl rfl | exact Or.inr rfl)) (pgs_cons (pg_name (i := 2) sc_law_levels.nd rfl (by first | exact Or.inl rfl | exact Or.inr rfl)) (pgs_cons (pg_name (i := 3) sc_law_levels.nd rfl (by first | exact Or.inl rfl | exact Or.inr rfl)) (pgs_cons (pg_name (i := 4) sc_law_levels.nd rfl (by first | exact Or.inl rfl | exact Or.inr rfl)) (pgs_cons (pg_name (i := 5) sc_law_levels.nd rfl (by first | exact Or.inl rfl | exact Or.inr rfl)) pgs_nil)))))))
      (pss_cons (ps_setLc (i := 6) (own := [("_law_one_here", 8)]) rfl sc_law_levels.nd rfl rfl (sw_true rfl rfl rfl (by decide +kernel)) (kpiL (K := K) rfl (pv 1)) (blkOk_by (N := ["_law_world", "_law_rows", "_law_offsets", "_law_noise", "_law_ranges", "_law_datums", "_law_strips", "_law_row", "_law_one_here"]) (sc := defScope s_law_levels) (by decide +kernel)) (fun _ _ _ _ _ => (pg_name (i := 8) sc_law_levels.nd rfl (by first | exact Or.inl rfl | exact Or.inr rfl))) (fun _ _ _ _ _ => pts_nil) (fun _ _ _ _ _ => (pe_make T.mk_Strip G_Strip___init (hr.mono (by decide)) rfl T.g_Strip T.b_Strip___init .nil pass0 (pa_cons (pe_lc (own := [("_law_row", 7)]) rfl sc_law_levels.nd (kpiL (K := K) rfl (pv 8)) (blkOk_by (N := ["_law_world", "_law_rows", "_law_offsets", "_law_noise", "_law_ranges", "_law_datums", "_law_strips", "_law_row", "_law_one_here"]) (sc := (relS _ (defScope s_law_levels))) (by decide +kernel)) (fun _ _ _ _ _ => (pg_name (i := 7) sc_law_levels.nd rfl (by first | exact Or.inl rfl | exact Or.inr rfl))) (fun _ _ _ _ _ => pts_nil) (fun _ _ _ _ _ => (pe_callTy (klist (K := K) rfl) (by rfl) T.z_list (by decide +kernel) (pa_cons (pv 7) pa_nil)))) pa_nil))))
      (pss_one (ps_ret (pe_make T.mk_Levels G_Levels___init (hr.mono (by decide)) rfl T.g_Levels T.b_Levels___init .nil pass0 (pa_cons (pv 6) (pa_cons (pe_callTy (klist (K := K) rfl) (by rfl) T.z_list (by decide +kernel) (pa_cons (pv 2) pa_nil)) (pa_cons (pv 3) (pa_cons (pe_callTy (klist (K := K) rfl) (by rfl) T.z_list (by decide +kernel) (pa_cons (pv 4) pa_nil)) (pa_cons (pe_callTy (klist (K := K) rfl) (by rfl) T.z_list (by decide +kernel) (pa_cons (pv 5) pa_nil)) pa_nil)))))))))), ?_⟩
  refine q_asg e (ev_shape (e := .tuple [.list (strips.map rowsL), .list (offs.map pairD), .int 9, .list (strips.map fun _ => pairD (-9, 9)), .list []]) (ev_slT (lo := none) (hi := some 5) (ev_varD rfl hx) eo_none (eo_someK hk ev_int)) (by rfl)) fun v G1 H1 g1 r1 => ?_
  refine g_tup g1.gh r1 rfl fun us hus => ?_
  cases hus with
  | @cons a1 _ _ _ b1 hus =>
  cases hus with
  | @cons a2 _ _ _ b2 hus =>
  cases hus with
  | @cons a3 _ _ _ b3 hus =>
  cases hus with
  | @cons a4 _ _ _ b4 hus =>
  cases hus with
  | @cons a5 _ _ _ b5 hus =>
  cases hus
  refine g_cons (g_cons (g_cons (g_cons (g_cons (g_nil ?_)))))
  have n8 := ok.n8
  replace n8 : strips.length ≤ 8 := n8
  refine q_set (σ := [some x, some a1, some a2, some a3, some a4, some a5, none, none, none]) (R := lsO K ((strips.map rowsL).map fun d => isStrip T (rowsOf' d))) g1.gh (ev_lcVL (fun d => isStrip T (rowsOf' d)) (fun _ => mn_isStrip) (ev_varD rfl b1) (by rw [List.length_map]; omega) (fun _ => rfl) fun y d G2 e2 hd hy => ?_) fun v2 G2 H2 g2 r2 => ?_
  · obtain ⟨rows, hr2, rfl⟩ := List.mem_map.mp hd
    rw [rows_back]
    obtain ⟨wd, okr⟩ := ok.strips rows hr2
    have hy' : Dp K G2 y (.list (rows.map fun r => PyData.list (r.map oD))) := hy
    refine ev_make (rows, wd) mf_strip (ea_cons mn_isD (ev_shape (ev_lc (ds := rows.map fun r => PyData.list (r.map oD)) (fun d => d) (ev_varD rfl hy') (by rw [List.length_map]; have := okr.h2; omega) (fun _ => rfl) fun z d G3 e3 hd3 hz => ?_) (by rw [List.map_id'])) ea_nil) okr
    obtain ⟨r, _, rfl⟩ := List.mem_map.mp hd3
    exact ev_listL (ev_varD rfl hz)
  · have e1 : (strips.map rowsL).map (fun d => isStrip T (rowsOf' d)) = strips.map (isStrip T) := by
      rw [List.map_map]
      refine List.map_congr_left fun rows _ => ?_
      show isStrip T (rowsOf' (rowsL rows)) = isStrip T rows
      rw [rows_back]
    rw [e1] at r2
    obtain ⟨pa, xs, rfl, hps, hall⟩ := r2
    have hb2 := dpm g2.gg b2
    have hb3 := dpm g2.gg b3
    have hb4 := dpm g2.gg b4
    have hb5 := dpm g2.gg b5
    have eR : (strips.map fun _ => pairD (-9, 9)) = (lvOf (strips, offs)).ranges.map pairD := by
      unfold lvOf
      rw [List.map_map]
      rfl
    rw [eR] at hb4
    refine s_ret (σ := [some x, some a1, some a2, some a3, some a4, some a5, some (.ref pa), none, none]) g2.gh (ev_make (xs, lvOf (strips, offs)) ?mf (ea_cons (mn_lsA (mns_strips T _)) (ev_var rfl ⟨⟨pa, rfl, hps⟩, hall⟩) (ea_cons mn_isD (ev_listL (ev_varD rfl hb2)) (ea_cons mn_isD (ev_varD rfl hb3) (ea_cons mn_isD (ev_listL (ev_varD rfl hb4)) (ea_cons mn_isD (ev_listL (ev_varD rfl hb5)) ea_nil))))) ok.lev) fun v G' H' g r => q v G' H' ((g1.trans g2).trans g) ?_
    case mf => exact fun fs G G' e ⟨sn, h1, h2⟩ => ⟨sn, h1, mf_lev fs G G' e h2⟩
    obtain ⟨p, dx, fs, h1, h2, sn, h3, h4⟩ := r
    exact ⟨xs, sn, p, dx, fs, h1, h2, h4⟩
end

section
variable {P : Program} {w : World} {K : PySem.W.Frag} {mg : Str → Option Value} {base : Heap}
abbrev BdOff (p : Int × Int) : Prop := -2000000000 ≤ p.1 ∧ p.1 ≤ 2000000000 ∧ -2000000000 ≤ p.2 ∧ p.2 ≤ 2000000000
abbrev sp_law_wide (K : PySem.W.Frag) : Sp := fun vs H Q _ => ∃ (src : Addr) (n : Nat) (G : Hp), vs = [.ref src] ∧ Same G H ∧ G src = none ∧ Src src n H ∧ n ≤ 1000 ∧
  ∀ (x : Wd) v G' H', WdFull x → (∀ p ∈ x.2, BdOff p) → Gw [src] G H G' H' → Src src (n + 200) H' → Dp K G' v (worldD x.1 x.2) → Q v H'
theorem ok_law_wide (T : Tp K mg) : FnOk P w K mg base CX0 3 T.f_law_wide T.fd_law_wide ["_law_source"] (sp_law_wide K) := by
  have hk : KK K := kk
  have G_law_next : FnOk P w K mg base CX0 1 T.f_law_next T.fd_law_next ["_law_source", "_law_many"] spNext := ok_law_next T
  have G_law_one : FnOk P w K mg base CX0 2 T.f_law_one T.fd_law_one ["_law_source", "_law_some"] (spOne K) := ok_law_one T
  refine T.F_law_wide.ok sc_law_wide (fun vs H Q E ⟨src, n, G, h, _⟩ => by rw [h]; rfl) (fun cdv A outer s H vs Q E hr h => ?_)
  obtain ⟨src, n, G, rfl, e, hg, hS, hn, q⟩ := h
  have hu1 := Nat.lt_of_le_of_lt (Nat.add_le_add_left (by decide : 1 ≤ 16 * 2 + 200) _) (by have := hr.un; rw [Nat.add_assoc] at this; exact this)
  refine ⟨_, (pss_cons (ps_set (i := 1) sc_law_wide.nd rfl (by first | exact Or.inl rfl | exact Or.inr rfl) (pe_lst pa_nil))
      (pss_cons (ps_for PassesOwn.never rfl (pi_range1 (by rfl) T.z_range (pa_cons (pe_op op_add pe_int (pe_call G_law_next (hr.mono (by decide)) rfl T.g_law_next T.F_law_next.kp T.b_law_next .nil pass0 (pa_cons (pv 0) (pa_cons pe_int pa_nil)))) pa_nil)) (pg_name (i := 2) sc_law_wide.nd rfl (by first | exact Or.inl rfl | exact Or.inr rfl))
        (pss_cons (ps_asg (pe_tup (pa_cons (pe_op op_add pe_int (pe_call G_law_next (hr.mono (by decide)) rfl T.g_law_next T.F_law_next.kp T.b_law_next .nil pass0 (pa_cons (pv 0) (pa_cons pe_int pa_nil)))) (pa_cons (pe_op op_add pe_int (pe_call G_law_next (hr.mono (by decide)) rfl T.g_law_next T.F_law_next.kp T.b_law_next .nil pass0 (pa_cons (pv 0) (pa_cons pe_int pa_nil)))) pa_nil))) (kpgT (K := K) (n := 2) rfl rfl (pgs_cons (pg_name (i := 3) sc_law_wide.nd rfl (by first | exact Or.inl rfl | exact Or.inr rfl)) (pgs_cons (pg_name (i := 4) sc_law_wide.nd rfl (by first | exact Or.inl rfl | exact Or.inr rfl)) pgs_nil))))
        (pss_one (ps_expr (kbm (K := K) rfl PySem.F.plainAttrs_list PySem.F.slot_list_append PySem.F.type_list_append mt_append (pv 1) (pa_cons (pe_lc (own := [("_law_r", 10)]) rfl sc_law_wide.nd (pi_range1 (by rfl) T.z_range (pa_cons (pv 3) pa_nil)) (blkOk_by (N := ["_law_source", "_law_rows", "_law_k", "_law_high", "_law_wide_here", "_law_base", "_law_offsets", "_law_seen", "_law_one_here", "_law_offset", "_law_r", "_law_row", "_law_c", "_law_worth", "_law_spot"]) (sc := defScope s_law_wide) (by decide +kernel)) (fun _ _ _ _ _ => (pg_name (i := 10) sc_law_wide.nd rfl (by first | exact Or.inl rfl | exact Or.inr rfl))) (fun _ _ _ _ _ => pts_nil) (fun _ _ _ _ _ => (pe_lc (own := [("_law_c", 12)]) rfl sc_law_wide.nd (pi_range1 (by rfl) T.z_range (pa_cons (pv 4) pa_nil)) (blkOk_by (N := ["_law_source", "_law_rows", "_law_k", "_law_high", "_law_wide_here", "_law_base", "_law_offsets", "_law_seen", "_law_one_here", "_law_offset", "_law_r", "_law_row", "_law_c", "_law_worth", "_law_spot"]) (sc := (relS _ (defScope s_law_wide))) (by decide +kernel)) (fun _ _ _ _ _ => (pg_name (i := 12) sc_law_wide.nd rfl (by first | exact Or.inl rfl | exact Or.inr rfl))) (fun _ _ _ _ _ => pts_nil) (fun _ _ _ _ _ => (pe_call G_law_one (hr.mono (by decide)) rfl T.g_law_one T.F_law_one.kp T.b_law_one .nil pass0 (pa_cons (pv 0) (pa_cons (pe_lst (pa_cons pe_non (pa_cons pe_int (pa_cons pe_int (pa_cons pe_int (pa_cons pe_int (pa_cons pe_int pa_nil))))))) pa_nil))))))) pa_nil))))))
      (pss_cons (ps_if (pt_cmpR op_eq (pe_call G_law_next (hr.mono (by decide)) rfl T.g_law_next T.F_law_next.kp T.b_law_next .nil pass0 (pa_cons (pv 0) (pa_cons pe_int pa_nil))) pe_int (nomark _))
        (pss_one (ps_expr (kbm (K := K) rfl PySem.F.plainAttrs_list PySem.F.slot_list_append PySem.F.type_list_append mt_append (pv 1) (pa_cons (pe_lc (own := [("_law_row", 11)]) rfl sc_law_wide.nd (kpiL (K := K) rfl (pe_ix (kixL (K := K) rfl) (pv 1) pe_int (fun _ _ => rfl))) (blkOk_by (N := ["_law_source", "_law_rows", "_law_k", "_law_high", "_law_wide_here", "_law_base", "_law_offsets", "_law_seen", "_law_one_here", "_law_offset", "_law_r", "_law_row", "_law_c", "_law_worth", "_law_spot"]) (sc := defScope s_law_wide) (by decide +kernel)) (fun _ _ _ _ _ => (pg_name (i := 11) sc_law_wide.nd rfl (by first | exact Or.inl rfl | exact Or.inr rfl))) (fun _ _ _ _ _ => pts_nil) (fun _ _ _ _ _ => (pe_callTy (klist (K := K) rfl) (by rfl) T.z_list (by decide +kernel) (pa_cons (pv 11) pa_nil)))) pa_nil))))
        pss_nil)
      (pss_cons (ps_set (i := 5) sc_law_wide.nd rfl (by first | exact Or.inl rfl | exact Or.inr rfl) (pe_tup (pa_cons (pe_call G_law_one (hr.mono (by decide)) rfl T.g_law_one T.F_law_one.kp T.b_law_one .nil pass0 (pa_cons (pv 0) (pa_cons (pe_lst (pa_cons pe_int (pa_cons pe_int (pa_cons (pe_un un_neg pe_int) (pa_cons (pe_op op_pow pe_int pe_int) pa_nil))))) pa_nil))) (pa_cons (pe_call G_law_one (hr.mono (by decide)) rfl T.g_law_one T.F_law_one.kp T.b_law_one .nil pass0 (pa_cons (pv 0) (pa_cons (pe_lst (pa_cons pe_int (pa_cons pe_int (pa_cons (pe_un un_neg pe_int) (pa_cons (pe_un un_neg (pe_op op_pow pe_int pe_int)) pa_nil))))) pa_nil))) pa_nil))))
      (pss_cons (ps_setLc (i := 6) (own := [("_law_one_here", 8)]) rfl sc_law_wide.nd rfl rfl (sw_true rfl rfl rfl (by decide +kernel)) (kpiL (K := K) rfl (pv 1)) (blkOk_by (N := ["_law_source", "_law_rows", "_law_k", "_law_high", "_law_wide_here", "_law_base", "_law_offsets", "_law_seen", "_law_one_here", "_law_offset", "_law_r", "_law_row", "_law_c", "_law_worth", "_law_spot"]) (sc := defScope s_law_wide) (by decide +kernel)) (fun _ _ _ _ _ => (pg_name (i := 8) sc_law_wide.nd rfl (by first | exact Or.inl rfl | exact Or.inr rfl))) (fun _ _ _ _ _ => pts_nil) (fun _ _ _ _ _ => (pe_tup (pa_cons (pe_op op_add (pe_ix (kixT (K := K) rfl) (pv 5) pe_int (fun _ _ => rfl)) (pe_call G_law_next (hr.mono (by decide)) rfl T.g_law_next T.F_law_next.kp T.b_law_next .nil pass0 (pa_cons (pv 0) (pa_cons pe_int pa_nil)))) (pa_cons (pe_op op_add (pe_ix (kixT (K := K) rfl) (pv 5) pe_int (fun _ _ => rfl)) (pe_call G_law_next (hr.mono (by decide)) rfl T.g_law_next T.F_law_next.kp T.b_law_next .nil pass0 (pa_cons (pv 0) (pa_cons pe_int pa_nil)))) pa_nil)))))
      (pss_cons (ps_set (i := 7) sc_law_wide.nd rfl (by first | exact Or.inl rfl | exact Or.inr rfl) pe_dnewT)
      (pss_cons (ps_for PassesOwn.never rfl (kpiZ (K := K) rfl (by rfl) T.z_zip (pa_cons (pv 1) (pa_cons (pv 6) pa_nil))) (kpgT (K := K) (n := 2) rfl rfl (pgs_cons (pg_name (i := 8) sc_law_wide.nd rfl (by first | exact Or.inl rfl | exact Or.inr rfl)) (pgs_cons (pg_name (i := 9) sc_law_wide.nd rfl (by first | exact Or.inl rfl | exact Or.inr rfl)) pgs_nil)))
        (pss_one (ps_for PassesOwn.never rfl (kpiE (K := K) rfl (by rfl) T.z_enumerate (pa_cons (pv 8) pa_nil)) (kpgT (K := K) (n := 2) rfl rfl (pgs_cons (pg_name (i := 10) sc_law_wide.nd rfl (by first | exact Or.inl rfl | exact Or.inr rfl)) (pgs_cons (pg_name (i := 11) sc_law_wide.nd rfl (by first | exact Or.inl rfl | exact Or.inr rfl)) pgs_nil)))
          (pss_one (ps_for PassesOwn.never rfl (kpiE (K := K) rfl (by rfl) T.z_enumerate (pa_cons (pe_callTy (klist (K := K) rfl) (by rfl) T.z_list (by decide +kernel) (pa_cons (pv 11) pa_nil)) pa_nil)) (kpgT (K := K) (n := 2) rfl rfl (pgs_cons (pg_name (i := 12) sc_law_wide.nd rfl (by first | exact Or.inl rfl | exact Or.inr rfl)) (pgs_cons (pg_name (i := 13) sc_law_wide.nd rfl (by first | exact Or.inl rfl | exact Or.inr rfl)) pgs_nil)))
            (pss_cons (ps_set (i := 14) sc_law_wide.nd rfl (by first | exact Or.inl rfl | exact Or.inr rfl) (pe_tup (pa_cons (pe_op op_add (pe_ix (kixT (K := K) rfl) (pv 9) pe_int (fun _ _ => rfl)) (pv 10)) (pa_cons (pe_op op_add (pe_ix (kixT (K := K) rfl) (pv 9) pe_int (fun _ _ => rfl)) (pv 12)) pa_nil))))
            (pss_one (ps_if (PW.pt (pw_and (pt_cmpR op_notN (pv 13) pe_non (nomark _)) (pw_and (pt_cmp (pc_dnotin hu1 (pv 14) (pv 7))) (pw_and1 (pt_cmpR op_gt (pe_callB call_len_dT (by rfl) T.z_len (by decide +kernel) (pa_cons (pv 7) pa_nil)) pe_int (nomark _))))))
              (pss_one (ps_asg pe_non (pg_sub (pv 11) (pv 12) set_list)))
              (pss_one (ps_if (pt_cmpR op_notN (pv 13) pe_non (nomark _))
                (pss_one (ps_dput hu1 (pv 7) (pv 14) pe_bl rfl))
                pss_nil))))))))))
      (pss_one (ps_ret (pe_tup (pa_cons (pv 1) (pa_cons (pv 6) (pa_cons pe_int (pa_cons (pe_lc (own := [("_law_one_here", 8)]) rfl sc_law_wide.nd (kpiL (K := K) rfl (pv 1)) (blkOk_by (N := ["_law_source", "_law_rows", "_law_k", "_law_high", "_law_wide_here", "_law_base", "_law_offsets", "_law_seen", "_law_one_here", "_law_offset", "_law_r", "_law_row", "_law_c", "_law_worth", "_law_spot"]) (sc := defScope s_law_wide) (by decide +kernel)) (fun _ _ _ _ _ => (pg_name (i := 8) sc_law_wide.nd rfl (by first | exact Or.inl rfl | exact Or.inr rfl))) (fun _ _ _ _ _ => pts_nil) (fun _ _ _ _ _ => (pe_tup (pa_cons (pe_un un_neg pe_int) (pa_cons pe_int pa_nil))))) (pa_cons (pe_lst pa_nil) pa_nil))))))))))))))), ?_⟩
  refine q_new (k := fun l hl0 => ?_)
  have hgl : G l = none := e.free hl0
  have ls : l ≠ src := src_ne hS hl0
  have g0 : Gw [src] G H G (upd H l (.lst [])) := (Gw.refl e).alter hl0 hgl
  have S0 : WS src l G H n [] G (upd H l (.lst [])) := ⟨g0, hS.alter ls, hg, upd_same, hgl, ⟨(fun s h => (by cases h)), (fun s h => (by cases h)), .nil⟩, (fun s h => (by cases h))⟩
  refine q_forR1S (a := 1) (P := fun r => 0 ≤ r ∧ r < 3) (n := n) (m := n + 1) g0.gh hg S0.hs (es_add (K := K) ev_int (es_next (K := K) (many := 3) rfl ev_int (by decide) (by decide) (by omega))) (fun r hr => by omega) fun rr Gb Hb hrr gb hgb sb => ?_
  have Sb := S0.step hS hl0 gb sb
  refine ⟨fun i σ' G' H' => (∃ v2 v3 v4, σ' = [some (.ref src), some (.ref l), v2, v3, v4, none, none, none, none, none, none, none, none, none, none]) ∧ ∃ sts, sts.length = i ∧ WS src l G H (n + 1 + 51 * i) sts G' H', ⟨⟨_, _, _, rfl⟩, [], rfl, Sb⟩, ?_, ?_⟩
  · rintro i σ1 G1 H1 hi s1 s2 ⟨⟨v2, v3, v4, rfl⟩, sts, hsl, S1⟩
    have hi3 : i < 3 := by omega
    refine q_asgS (σ := [some (.ref src), some (.ref l), some (.int (i : Nat)), v3, v4, none, none, none, none, none, none, none, none, none, none]) s2 S1.hg S1.hs (es_tup2 (K := K) (fun _ _ _ _ h => h) (fun _ _ _ _ h => h) (es_add (K := K) ev_int (es_next (K := K) (many := 7) rfl ev_int (by decide) (by decide) (by omega))) (es_add (K := K) ev_int (es_next (K := K) (many := 7) rfl ev_int (by decide) (by decide) (by omega)))) fun v G2 H2 g2 hg2 s2' ⟨x, y, hv, ⟨r1, e1, p1, p2⟩, ⟨r2, e2, p3, p4⟩⟩ => ?_
    subst e1 e2
    obtain ⟨hh, eh⟩ : ∃ hh : Nat, 1 + r1 = (hh : Int) := ⟨(1 + r1).toNat, by omega⟩
    obtain ⟨ww, ew⟩ : ∃ ww : Nat, 1 + r2 = (ww : Int) := ⟨(1 + r2).toNat, by omega⟩
    rw [eh, ew] at hv
    have S2 := S1.step hS hl0 g2 s2'
    refine g_tupV (K := K) g2.gh hv rfl (g_two ?_)
    refine ⟨.ref l, rfl, .inl ⟨rfl, _, SqL.of S2.hl⟩, ?_⟩
    refine lc_strip (K := K) (σ := [some (.ref src), some (.ref l), some (.int (i : Nat)), some (.int (hh : Nat)), some (.int (ww : Nat)), none, none, none, none, none, none, none, none, none, none]) (j := 10) (hh := hh) (w := ww) (cnt := ww) (l := l) S2.hs g2.gh hg2 S2.hl ls S2.hgl (ed_cons (ev_varD rfl (.int _)) ed_nil) (by omega) (fun _ => rfl) (fun i' k' G3 H3 hi' u3 e3 hg3 sr3 Q' q' => ?_) fun st G3 H3 g3 s3 hsl3 hsn hsw hR hsa => ?_
    · have hb : i' * ww ≤ 49 := Nat.le_trans (Nat.mul_le_mul (by omega : i' ≤ 7) (by omega : ww ≤ 7)) (by decide)
      refine lc_row (K := K) (σ := [some (.ref src), some (.ref l), some (.int (i : Nat)), some (.int (hh : Nat)), some (.int (ww : Nat)), none, none, none, none, none, some (.int k'), none, none, none, none]) (j := 12) (w := ww) sr3 e3 hg3 (ed_cons (ev_varD rfl (.int _)) ed_nil) (by omega) (fun _ => rfl) (fun c k G4 hc u4 hg4 => ?_) q'
      refine (es_one (K := K) (ds := [.none, .int 1, .int 2, .int 3, .int 4, .int 5]) rfl (by walk_at "ev") (by decide) (by decide) (by omega)).imp fun v G5 u5 ⟨d, hd, hv⟩ => ?_
      rcases List.mem_cons.mp hd with z | hd
      · subst z; cases hv; exact ⟨none, rfl⟩
      · have : ∃ t, d = PyData.int t := by
          rcases List.mem_cons.mp hd with z | hd
          · exact ⟨_, z⟩
          rcases List.mem_cons.mp hd with z | hd
          · exact ⟨_, z⟩
          rcases List.mem_cons.mp hd with z | hd
          · exact ⟨_, z⟩
          rcases List.mem_cons.mp hd with z | hd
          · exact ⟨_, z⟩
          exact ⟨_, List.mem_singleton.mp hd⟩
        obtain ⟨t, rfl⟩ := this
        cases hv
        exact ⟨some t, rfl⟩
    · have hb : hh * ww ≤ 49 := Nat.le_trans (Nat.mul_le_mul (by omega : hh ≤ 7) (by omega : ww ≤ 7)) (by decide)
      have S3 := S2.add hS hl0 g3 s3 hR hsl3 ⟨by omega, by omega, ww, by omega, by omega, hsw⟩
      refine ⟨l, _, _, rfl, rfl, g3.hh _ _ S2.hl (by simpa using ls), small1000 (by rw [List.length_map]; omega), G3, (s1.trans g2.gg).trans g3.gg, S3.gw.gh, ⟨_, _, _, rfl⟩, sts ++ [st], by rw [List.length_append, hsl]; rfl, S3.le (by omega)⟩
  · rintro σ1 G1 H1 s1 s2 ⟨⟨v2, v3, v4, rfl⟩, sts, hsl, S1⟩
    have hs3 : 1 ≤ sts.length ∧ sts.length ≤ 3 := by omega
    replace S1 : WS src l G H (n + 154) sts G1 H1 := S1.le (by omega)
    refine q_ifD (P := fun r => 0 ≤ r ∧ r < 3) (σ := [some (.ref src), some (.ref l), v2, v3, v4, none, none, none, none, none, none, none, none, none, none]) (Mid := fun H2 => ∃ G2 sts, (1 ≤ sts.length ∧ sts.length ≤ 4) ∧ WS src l G H (n + 155) sts G2 H2) S1.gw.gh S1.hg S1.hs (es_next (K := K) (many := 3) rfl ev_int (by decide) (by decide) (by omega)) (fun G2 H2 g2 hg2 s2' Q' q' => ?_) (fun G2 H2 g2 hg2 s2' => ⟨G2, sts, by omega, S1.step hS hl0 g2 s2'⟩) ?_
    · have S2 := S1.step hS hl0 g2 s2'
      obtain ⟨st0, hst0⟩ : ∃ s0, sts[0]? = some s0 := ⟨sts[0]'(by omega), List.getElem?_eq_getElem _⟩
      have hm0 := List.mem_of_getElem? hst0
      obtain ⟨sh1, sh2, wd, sh3, sh4, sh5⟩ := S2.shape st0 hm0
      have hR0 := S2.tr.rows st0 hm0
      refine ⟨.ref l, rfl, .inl ⟨rfl, _, SqL.of S2.hl⟩, ?_⟩
      refine lc_copy (K := K) (σ := [some (.ref src), some (.ref l), v2, v3, v4, none, none, none, none, none, none, none, none, none, none]) (j := 11) (s := st0) (l := l) S2.hs S2.gw.gh S2.hg S2.hl (S2.tr.lst st0 hm0) hR0.at_ (fun p hp => src_ne hS (hR0.new p hp)) (by omega) (fun Q2 q2 => ⟨.ref l, rfl, l, _, 0, .ref st0.a, rfl, rfl, SqL.of S2.hl, atI_nn (Int.le_refl 0) (by rw [List.getElem?_map]; show ((sts[(0 : Int).toNat]?).map _) = _; rw [show (0 : Int).toNat = 0 from rfl, hst0]; rfl), q2⟩) (fun _ => rfl) (fun _ => rfl) fun st G3 H3 g3 s3 hsl3 hdat hR hsa => ?_
      have hcs : ∀ p ∈ st.rows, p.c ∈ st0.data := fun p hp => by
        rw [← hdat]
        exact List.mem_map.mpr ⟨p, hp, rfl⟩
      have hln : st.rows.length = st0.rows.length := by
        have := congrArg List.length hdat
        unfold Stp.data at this
        rw [List.length_map, List.length_map] at this
        exact this
      have S3 := S2.add hS hl0 g3 s3 hR hsl3 ⟨by omega, by omega, wd, sh3, sh4, fun p hp => by
        obtain ⟨p0, hp0, e0⟩ := List.mem_map.mp (hcs p hp)
        rw [← e0]
        exact sh5 p0 hp0⟩
      exact ⟨l, _, _, rfl, rfl, g3.hh _ _ S2.hl (by simpa using ls), small1000 (by rw [List.length_map]; omega), q' _ _ ⟨G3, sts ++ [st], by rw [List.length_append, List.length_singleton]; omega, S3⟩⟩
    · rintro H2 ⟨G2, sts, hsn, S2⟩
      have two : ∀ (c : Int) (d : PyData), 0 ≤ c → c ≤ 1000000000 → d ∈ [PyData.int 0, .int 0, .int (-9), .int c] → ∃ i0, d = .int i0 ∧ -1000000000 ≤ i0 ∧ i0 ≤ 1000000000 := fun c d hc hc' hd => by
        rcases List.mem_cons.mp hd with z | hd
        · exact ⟨_, z, by decide, by decide⟩
        rcases List.mem_cons.mp hd with z | hd
        · exact ⟨_, z, by decide, by decide⟩
        rcases List.mem_cons.mp hd with z | hd
        · exact ⟨_, z, by decide, by decide⟩
        exact ⟨_, List.mem_singleton.mp hd, by omega, by omega⟩
      have two' : ∀ (d : PyData), d ∈ [PyData.int 0, .int 0, .int (-4), .int (-(10 ^ (9 : Int).toNat))] → ∃ i0, d = .int i0 ∧ -1000000000 ≤ i0 ∧ i0 ≤ 1000000000 := fun d hd => by
        rcases List.mem_cons.mp hd with z | hd
        · exact ⟨_, z, by decide, by decide⟩
        rcases List.mem_cons.mp hd with z | hd
        · exact ⟨_, z, by decide, by decide⟩
        rcases List.mem_cons.mp hd with z | hd
        · exact ⟨_, z, by decide, by decide⟩
        exact ⟨_, List.mem_singleton.mp hd, by decide, by decide⟩
      have mE : ∀ ds : List PyData, Mn (fun v G' => ∃ d ∈ ds, Dp K G' v d) := fun ds v G G' u ⟨d, h1, h2⟩ => ⟨d, h1, dpm u h2⟩
      refine q_setS (σ := [some (.ref src), some (.ref l), v2, v3, v4, none, none, none, none, none, none, none, none, none, none]) S2.gw.gh S2.hg S2.hs (es_tup2 (K := K) (mE _) (mE _) (es_one (K := K) (ds := [.int 0, .int 0, .int (-9), .int (10 ^ (9 : Int).toNat)]) rfl (ev_lst (ed_cons ev_int (ed_cons ev_int (ed_cons (ev_neg ev_int) (ed_cons (ev_pow ⟨by decide, by decide, by decide⟩ ev_int ev_int) ed_nil)))) (by simp)) (by decide) (by decide) (by omega))
        (es_one (K := K) (ds := [.int 0, .int 0, .int (-4), .int (-(10 ^ (9 : Int).toNat))]) rfl (ev_lst (ed_cons ev_int (ed_cons ev_int (ed_cons (ev_neg ev_int) (ed_cons (ev_neg (ev_pow ⟨by decide, by decide, by decide⟩ ev_int ev_int)) ed_nil)))) (by simp)) (by decide) (by decide) (by omega))) fun vb G3 H3 g3 hg3 s3 ⟨xb, yb, hvb, ⟨d1, hd1, hx1⟩, ⟨d2, hd2, hy1⟩⟩ => ?_
      obtain ⟨i0, rfl, ib1, ib2⟩ := two _ d1 (by decide) (by decide) hd1
      obtain ⟨j0, rfl, jb1, jb2⟩ := two' d2 hd2
      cases hx1
      cases hy1
      have hbase : Dp K G3 vb (.tuple [.int i0, .int j0]) := by
        obtain ⟨a, rfl, hs'⟩ := hvb
        exact .tup hs' (.cons (.int _) (.cons (.int _) .nil))
      have S3 := S2.step hS hl0 g3 s3
      refine q_asgE ?_
      refine lc_offs (K := K) (σ := [some (.ref src), some (.ref l), v2, v3, v4, some vb, none, none, none, none, none, none, none, none, none]) (j := 8) (okP := BdOff) S3.hs S3.gw.gh S3.hg S3.hl ls (by rw [List.length_map]; omega) (fun Q2 q2 => ⟨.ref l, rfl, q2⟩) (fun _ => rfl) (fun i' x G4 hi4 u4 hg4 => ?_) fun D offs G4 H4 g4 s4 hD hol hob => ?_
      · have hb4 := dpm u4 hbase
        rw [List.length_map] at hi4
        refine (es_tup2 (K := K) (fun _ _ _ _ h => h) (fun _ _ _ _ h => h) (es_add (K := K) (a := i0) (ev_ixT (i := 0) (by rfl) (ev_varD rfl hb4) ev_int) (es_next (K := K) (many := 3) rfl ev_int (by decide) (by decide) (by omega))) (es_add (K := K) (a := j0) (ev_ixT (i := 1) (by rfl) (ev_varD rfl hb4) ev_int) (es_next (K := K) (many := 3) rfl ev_int (by decide) (by decide) (by omega)))).imp fun v G5 u5 ⟨x', y', hv', ⟨r1, e1, p1, p2⟩, ⟨r2, e2, p3, p4⟩⟩ => ?_
        subst e1 e2
        refine ⟨(i0 + r1, j0 + r2), ⟨by show -2000000000 ≤ i0 + r1; omega, by show i0 + r1 ≤ 2000000000; omega, by show -2000000000 ≤ j0 + r2; omega, by show j0 + r2 ≤ 2000000000; omega⟩, ?_⟩
        obtain ⟨a, rfl, hs'⟩ := hv'
        exact .tup hs' (.cons (.int _) (.cons (.int _) .nil))
      · rw [List.length_map] at hol s4
        have S4 := S3.step hS hl0 g4 s4
        refine fun d hd0 => ?_
        obtain ⟨F, L0⟩ := ls_start S4 hS hl0 hd0
        obtain ⟨Da, ys, eD, hDa, hys⟩ := hD
        cases eD
        have hDl : D ≠ l := fun z => by rw [z, S4.hgl] at hDa; cases hDa
        have up5 : Same G4 (upd G4 l (.lst (sts.map fun s => V.ref s.a))) := same_new S4.hgl
        have hD5 := up5 _ _ hDa
        have hys5 := dpall_mono up5 _ _ hys
        have hlst5 : ∀ k, k < sts.length → (upd G4 l (.lst (sts.map fun s => V.ref s.a))) (skAt sts k).a = some (.lst ((List.range (hgtF sts k)).map fun r => V.ref (aF sts k r))) := fun k hk => by
          have := up5 _ _ (S4.tr.lst _ (sk_mem hk))
          rw [refs_eq] at this
          exact this
        refine s_forZ (K := K) (D := _) (σ := [some (.ref src), some (.ref l), v2, v3, v4, some vb, some (.ref D), some (.ref d), none, none, none, none, none, none, none]) (R := lsV K (sts.map fun s => V.ref s.a)) (R2' := lsV K ys) (xs := sts.map fun s => V.ref s.a) (ys := ys) (n := sts.length) L0.gw.gh (fun v G' ⟨a, h, h'⟩ => ⟨a, h, h'⟩) (fun v G' ⟨a, h, h'⟩ => ⟨a, h, h'⟩) (ea_cons mn_lsV (ev_var rfl ⟨l, rfl, SqL.of upd_same⟩) (ea_cons mn_lsV (ev_var rfl ⟨D, rfl, SqL.of hD5⟩) ea_nil)) (by rw [List.length_map, dpall_len hys, List.length_map, hol]; exact (Nat.min_self _).symm) fun Gb Hb gb => ?_
        refine ⟨fun k σ' G' H' => (∃ w8 w9 w10 w11 w12 w13 w14, σ' = [some (.ref src), some (.ref l), v2, v3, v4, some vb, some (.ref D), some (.ref d), w8, w9, w10, w11, w12, w13, w14]) ∧ ∃ C ks, LS src d sts.length (hgtF sts) (wdF sts) (aF sts) G H _ C ks G' H' ∧ Seen offs sts.length (hgtF sts) C ks k 0 0 (C k 0), ⟨⟨_, _, _, _, _, _, _, rfl⟩, _, _, L0.step F gb, ⟨fun k' r' c' v a => by omega, fun c' v a => absurd a (Nat.not_lt_zero _), fun c' _ => rfl⟩⟩, ?_, ?_⟩
        · rintro k x y σ1 G5 H5 hx hy s1 s2 ⟨⟨w8, w9, w10, w11, w12, w13, w14, rfl⟩, C1, ks1, L1, N1⟩ Tk hTk
          have hk : k < sts.length := by have := (List.getElem?_eq_some_iff.mp hx).1; rwa [List.length_map] at this
          have hx' : x = .ref (skAt sts k).a := by
            rw [List.getElem?_map, List.getElem?_eq_getElem hk] at hx
            cases hx
            rw [show skAt sts k = sts[k] from getD_at hk]
          subst hx'
          have hko : k < offs.length := by omega
          obtain ⟨dy, hdy, hyD⟩ := dpall_of hys5 hy
          rw [List.getElem?_map, List.getElem?_eq_getElem hko] at hdy
          cases hdy
          have eO : offs.getD k (0, 0) = offs[k] := getD_at hko
          have gn : Gw [] G5 H5 (upd G5 Tk (.tup [.ref (skAt sts k).a, y])) (upd H5 Tk (.tup [.ref (skAt sts k).a, y])) := Gw.new s2 hTk
          refine g_tupV (K := K) (xs := [.ref (skAt sts k).a, y]) gn.gh ⟨Tk, rfl, SqT.of upd_same⟩ rfl (g_two ?_)
          have u5 : Same (upd G4 l (.lst (sts.map fun s => V.ref s.a))) (upd G5 Tk (.tup [.ref (skAt sts k).a, y])) := (gb.gg.trans s1).trans gn.gg
          refine s_forE (K := K) (σ := [some (.ref src), some (.ref l), v2, v3, v4, some vb, some (.ref D), some (.ref d), some (.ref (skAt sts k).a), some y, w10, w11, w12, w13, w14]) (R := lsV K ((List.range (hgtF sts k)).map fun r => V.ref (aF sts k r))) (xs := (List.range (hgtF sts k)).map fun r => V.ref (aF sts k r)) gn.gh (fun v G' ⟨a, h, h'⟩ => ⟨a, h, h'⟩) (ev_var rfl ⟨_, rfl, SqL.of (u5 _ _ (hlst5 k hk))⟩) fun Gc Hc gc => ?_
          refine ⟨fun r σ' G' H' => (∃ w10 w11 w12 w13 w14, σ' = [some (.ref src), some (.ref l), v2, v3, v4, some vb, some (.ref D), some (.ref d), some (.ref (skAt sts k).a), some y, w10, w11, w12, w13, w14]) ∧ ∃ C ks, LS src d sts.length (hgtF sts) (wdF sts) (aF sts) G H _ C ks G' H' ∧ Seen offs sts.length (hgtF sts) C ks k r 0 (C k r), ⟨⟨_, _, _, _, _, rfl⟩, _, _, (L1.step F gn).step F gc, N1⟩, ?_, ?_⟩
          · rintro r xr σ2 G6 H6 hxr s3 s4 ⟨⟨w10, w11, w12, w13, w14, rfl⟩, C2, ks2, L2', N2⟩ Tr hTr
            have hr : r < hgtF sts k := by have := (List.getElem?_eq_some_iff.mp hxr).1; rwa [List.length_map, List.length_range] at this
            have hxr' : xr = .ref (aF sts k r) := by
              rw [List.getElem?_map, List.getElem?_eq_getElem (by rw [List.length_range]; exact hr), List.getElem_range] at hxr
              cases hxr
              rfl
            subst hxr'
            have gn2 : Gw [] G6 H6 (upd G6 Tr (.tup [.int (r : Nat), .ref (aF sts k r)])) (upd H6 Tr (.tup [.int (r : Nat), .ref (aF sts k r)])) := Gw.new s4 hTr
            refine g_tupV (K := K) (xs := [.int (r : Nat), .ref (aF sts k r)]) gn2.gh ⟨Tr, rfl, SqT.of upd_same⟩ rfl (g_two ?_)
            have L3 := L2'.step F gn2
            refine s_forEc (K := K) (σ := [some (.ref src), some (.ref l), v2, v3, v4, some vb, some (.ref D), some (.ref d), some (.ref (skAt sts k).a), some y, some (.int (r : Nat)), some (.ref (aF sts k r)), w12, w13, w14]) (i := 11) gn2.gh (L3.at_ k r hk hr) rfl fun Lc hLc => ?_
            have gL := Gw.new (M := []) (o := .lst ((C2 k r).map oV)) gn2.gh hLc
            refine ⟨fun c σ' G' H' => (∃ w12 w13 w14, σ' = [some (.ref src), some (.ref l), v2, v3, v4, some vb, some (.ref D), some (.ref d), some (.ref (skAt sts k).a), some y, some (.int (r : Nat)), some (.ref (aF sts k r)), w12, w13, w14]) ∧ ∃ C ks, LS src d sts.length (hgtF sts) (wdF sts) (aF sts) G H _ C ks G' H' ∧ Seen offs sts.length (hgtF sts) C ks k r c (C2 k r), ⟨⟨_, _, _, rfl⟩, _, _, L3.step F gL, N2⟩, ?_, ?_⟩
            · rintro c xc σ3 G7 H7 hxc s5 s6 ⟨⟨w12, w13, w14, rfl⟩, C3, ks3, L4, N4⟩ Tc hTc
              rw [List.getElem?_map] at hxc
              cases hoc : (C2 k r)[c]? with
              | none => rw [hoc] at hxc; cases hxc
              | some o =>
              rw [hoc] at hxc
              cases hxc
              have gn3 : Gw [] G7 H7 (upd G7 Tc (.tup [.int (c : Nat), oV o])) (upd H7 Tc (.tup [.int (c : Nat), oV o])) := Gw.new s6 hTc
              refine g_tupV (K := K) (xs := [.int (c : Nat), oV o]) gn3.gh ⟨Tc, rfl, SqT.of upd_same⟩ rfl (g_two ?_)
              have L5 := L4.step F gn3
              have u7 : Same (upd G4 l (.lst (sts.map fun s => V.ref s.a))) (upd G7 Tc (.tup [.int (c : Nat), oV o])) := u5.trans ((gc.gg.trans s3).trans (gn2.gg.trans (gL.gg.trans (s5.trans gn3.gg))))
              have hy7 : Dp K (upd G7 Tc (.tup [.int (c : Nat), oV o])) y (.tuple [.int offs[k].1, .int offs[k].2]) := dpm u7 hyD
              refine q_set (σ := [some (.ref src), some (.ref l), v2, v3, v4, some vb, some (.ref D), some (.ref d), some (.ref (skAt sts k).a), some y, some (.int (r : Nat)), some (.ref (aF sts k r)), some (.int (c : Nat)), some (oV o), w14]) L5.gw.gh (ev_tupX (K := K) (i := offs[k].1 + (r : Nat)) (j := offs[k].2 + (c : Nat)) (by walk_at "ev")) fun vs G8 H8 g8 ⟨b, hb1, hb2⟩ => ?_
              subst hb1
              have L6 := L5.step F g8
              have espot : spotAt offs k r c = (offs[k].1 + (r : Nat), offs[k].2 + (c : Nat)) := by unfold spotAt; rw [eO]
              have u8 : Same (upd (upd G6 Tr (.tup [.int (r : Nat), .ref (aF sts k r)])) Lc (.lst ((C2 k r).map oV))) G8 := (s5.trans gn3.gg).trans g8.gg
              cases o with
              | none =>
                refine s_if (b := false) (σ := [some (.ref src), some (.ref l), v2, v3, v4, some vb, some (.ref D), some (.ref d), some (.ref (skAt sts k).a), some y, some (.int (r : Nat)), some (.ref (aF sts k r)), some (.int (c : Nat)), some (oV none), some (.ref b)]) L6.gw.gh (et_and (b := false) (c := false) (et_testK (kk (K := K)) (ev_shape (ev_notN (ev_varD rfl .non)) (by rfl))) fun z => by cases z) (fun z => by cases z) fun _ G9 H9 g9 => ?_
                refine s_no g9.gh (et_testK (kk (K := K)) (ev_shape (ev_notN (ev_varD rfl .non)) (by rfl))) fun G10 H10 g10 => ?_
                exact ⟨G10, u8.trans (g9.gg.trans g10.gg), g10.gh, ⟨_, _, _, rfl⟩, C3, ks3, (L6.step F g9).step F g10, N4.next hoc fun v hv => by cases hv⟩
              | some v =>
                refine s_ifSeen (σ := [some (.ref src), some (.ref l), v2, v3, v4, some vb, some (.ref D), some (.ref d), some (.ref (skAt sts k).a), some y, some (.int (r : Nat)), some (.ref (aF sts k r)), some (.int (c : Nat)), some (oV (some v)), some (.ref b)]) (p := (offs[k].1 + (r : Nat), offs[k].2 + (c : Nat))) L6.gw.gh rfl rfl rfl hb2 L6.hd (fun hnin hful => ?_) fun hor => ?_
                · have hcl : c < ((C3 k r).map oV).length := by
                    rw [List.length_map]
                    have h1 := N4.same c (Nat.le_refl _)
                    rw [hoc] at h1
                    exact (List.getElem?_eq_some_iff.mp h1).1
                  have L7 := L6.strike F (c := c) hk hr
                  have hix : ixN ((C3 k r).map oV).length ((c : Nat) : Int) = some c := by
                    unfold ixN
                    rw [if_pos (by omega), if_pos (by omega)]
                    rfl
                  exact ⟨.ref (aF sts k r), rfl, .int (c : Nat), rfl, aF sts k r, _, (c : Nat), c, rfl, rfl, L6.at_ k r hk hr, hix, G8, u8, L7.gw.gh, ⟨_, _, _, rfl⟩, _, ks3, L7, N4.strike⟩
                · have tst : EvT (tTest (tOp rNotNon (tVar 13) (tC .non))) [some (.ref src), some (.ref l), v2, v3, v4, some vb, some (.ref D), some (.ref d), some (.ref (skAt sts k).a), some y, some (.int (r : Nat)), some (.ref (aF sts k r)), some (.int (c : Nat)), some (oV (some v)), some (.ref b)] G8 true := et_testK (kk (K := K)) (ev_shape (ev_notN (ev_varD rfl (.int v))) (by rfl))
                  refine s_yes L6.gw.gh tst fun G9 H9 g9 => ?_
                  have L7 := L6.step F g9
                  refine s_see (p := (offs[k].1 + (r : Nat), offs[k].2 + (c : Nat))) g9.gh rfl rfl (g9.gg _ _ hb2) L7.hd (by have := L7.few; omega) ?_
                  by_cases hin : (offs[k].1 + (r : Nat), offs[k].2 + (c : Nat)) ∈ ks3
                  · rw [put_in hin]
                    have L8 := L7.see F (ks' := ks3) L7.few
                    exact ⟨G9, u8.trans g9.gg, L8.gw.gh, ⟨_, _, _, rfl⟩, C3, ks3, L8, N4.next hoc fun v' _ => by rw [espot]; exact hin⟩
                  · rw [put_new hin]
                    have L8 := L7.see F (ks' := ks3 ++ [(offs[k].1 + (r : Nat), offs[k].2 + (c : Nat))]) (by
                      rw [List.length_append, List.length_singleton]
                      rcases hor with z | z
                      · exact absurd z hin
                      · omega)
                    exact ⟨G9, u8.trans g9.gg, L8.gw.gh, ⟨_, _, _, rfl⟩, C3, _, L8, (N4.more fun q hq => List.mem_append_left _ hq).next hoc fun v' _ => by rw [espot]; exact List.mem_append_right _ (List.mem_singleton.mpr rfl)⟩
            · rintro σ3 G7 H7 s5 s6 ⟨⟨w12, w13, w14, rfl⟩, C3, ks3, L4, N4⟩
              rw [List.length_map] at N4
              have hlen : (C3 k r).length ≤ (C2 k r).length := by rw [L4.len k r hk hr, L2'.len k r hk hr]; exact Nat.le_refl _
              exact ⟨G7, s3.trans (gn2.gg.trans (gL.gg.trans s5)), s6, ⟨_, _, _, _, _, rfl⟩, C3, ks3, L4, N4.row hlen⟩
          · rintro σ2 G6 H6 s3 s4 ⟨⟨w10, w11, w12, w13, w14, rfl⟩, C2, ks2, L2', N2⟩
            rw [List.length_map, List.length_range] at N2
            exact ⟨G6, s1.trans (gn.gg.trans (gc.gg.trans s3)), s4, ⟨_, _, _, _, _, _, _, rfl⟩, C2, ks2, L2', N2.strip (Nat.le_refl _)⟩
        · rintro σ1 G5 H5 s1 s2 ⟨⟨w8, w9, w10, w11, w12, w13, w14, rfl⟩, C, ks, LE, NE⟩
          have hP : ∀ a, (∃ k r, k < sts.length ∧ r < hgtF sts k ∧ aF sts k r = a) → H a = none ∧ G5 a = none := by
            rintro a ⟨k, r, hk', hr', rfl⟩
            exact ⟨F.new k r hk' hr', LE.out k r hk' hr'⟩
          haveI : DecidablePred fun a => ∃ k r, k < sts.length ∧ r < hgtF sts k ∧ aF sts k r = a := fun _ => Classical.propDecidable _
          obtain ⟨gw6, up6⟩ := LE.gw.fixP (fun a => ∃ k r, k < sts.length ∧ r < hgtF sts k ∧ aF sts k r = a) hP
          have u6 := (gb.gg.trans s1).trans up6
          have hrow6 : ∀ k r, k < sts.length → r < hgtF sts k → (fun a => if (∃ k r, k < sts.length ∧ r < hgtF sts k ∧ aF sts k r = a) then H5 a else G5 a) (aF sts k r) = some (.lst ((C k r).map oV)) := fun k r hk' hr' => by
            show (if _ then _ else _) = _
            rw [if_pos ⟨k, r, hk', hr', rfl⟩]
            exact LE.at_ k r hk' hr'
          generalize (fun a => if (∃ k r, k < sts.length ∧ r < hgtF sts k ∧ aF sts k r = a) then H5 a else G5 a) = G6 at gw6 up6 u6 hrow6
          have dl : Dp K G6 (.ref l) (.list ((stripsF sts.length (hgtF sts) C).map rowsL)) := strips_dp (u6 _ _ upd_same) (fun k hk' => u6 _ _ (hlst5 k hk')) hrow6
          have dO : Dp K G6 (.ref D) (.list (offs.map pairD)) := .lst (SqL.of (u6 _ _ hD5)) (dpall_mono u6 _ _ hys5)
          have okk := world_ok (offs := offs) (nS := sts.length) (hgt := hgtF sts) (wd := wdF sts) (C := C) (ks := ks) hsn.1 hsn.2 hol (fun k hk' => wd_ok S4 hk') LE.len LE.few (fun k r c v hk' hr' hv => NE.d0 k r c v (.inl hk') hk' hr' hv)
          obtain ⟨ok1, ok2, ok3, ok4⟩ := okk
          have full : WdFull (stripsF sts.length (hgtF sts) C, offs) := by
            refine ⟨ok1, by rw [ok2]; exact hsn.1, by rw [ok2]; omega, by rw [ok2]; exact hol, ?_, ks, LE.few, ?_⟩
            · show (allRd (stripsF sts.length (hgtF sts) C) offs (stripsF sts.length (hgtF sts) C).length).length ≤ 240
              rw [ok2]; exact ok3
            · intro p hp
              have hp' : p ∈ (allRd (stripsF sts.length (hgtF sts) C) offs (stripsF sts.length (hgtF sts) C).length).map Rd.spot ++ [] := hp
              rw [ok2, List.append_nil] at hp'
              exact ok4 p hp'
          refine s_ret (σ := [some (.ref src), some (.ref l), v2, v3, v4, some vb, some (.ref D), some (.ref d), w8, w9, w10, w11, w12, w13, w14]) gw6.gh (ev_tup (ed_cons (ev_varD rfl dl) (ed_cons (ev_varD rfl dO) (ed_cons ev_int (ed_cons (ev_shape (ev_lc (fun _ => pairD (-9, 9)) (ev_varD rfl dl) (by rw [List.length_map, ok2]; omega) (fun _ => rfl) fun x d G7 e7 hd7 hx7 => ev_tup (ed_cons (ev_neg ev_int) (ed_cons ev_int ed_nil)) (by simp)) (by rw [List.map_map])) (ed_cons (ev_lst ed_nil (by simp)) ed_nil))))) (by simp)) fun v G' H' g r => ?_
          exact q (stripsF sts.length (hgtF sts) C, offs) v G' H' full hob (gw6.trans g.weak) ((LE.hs.hh fun o z => g.hh _ _ z (by simp)).le (by omega)) r
end

section
variable {P : Program} {w : World} {K : PySem.W.Frag} {mg : Str → Option Value} {base : Heap}
abbrev sp_law_window (K : PySem.W.Frag) : Sp := fun vs H Q _ => ∃ (src : Addr) (vb : V) (p : Int × Int) (n : Nat) (G : Hp), vs = [.ref src, vb] ∧ Dp K G vb (pairD p) ∧ BdOff p ∧ Same G H ∧ G src = none ∧ Src src n H ∧ n ≤ 4000 ∧
  ∀ (x : Win) v G' H', WinOk x → Gw [src] G H G' H' → Src src (n + 4) H' → Dp K G' v (winD x) → Q v H'
theorem ok_law_window (T : Tp K mg) : FnOk P w K mg base CX0 2 T.f_law_window T.fd_law_window ["_law_source", "_law_base"] (sp_law_window K) := by
  have hk : KK K := kk
  have G_law_next : FnOk P w K mg base CX0 1 T.f_law_next T.fd_law_next ["_law_source", "_law_many"] spNext := ok_law_next T
  refine T.F_law_window.ok sc_law_window (fun vs H Q E ⟨src, vb, p, n, G, h, _⟩ => by rw [h]; rfl) (fun cdv A outer s H vs Q E hr h => ?_)
  obtain ⟨src, vb, ⟨i, j⟩, n, G, rfl, hb, ⟨q1, q2, q3, q4⟩, e, hg, hS, hn, q⟩ := h
  replace hb : Dp K G vb (.tuple [.int i, .int j]) := hb
  replace q1 : -2000000000 ≤ i := q1
  replace q2 : i ≤ 2000000000 := q2
  replace q3 : -2000000000 ≤ j := q3
  replace q4 : j ≤ 2000000000 := q4
  refine ⟨_, (pss_cons (ps_par (i := 2) (j := 3) rfl sc_law_window.nd rfl rfl (by decide) rfl rfl (pa_cons (pe_op op_sub (pe_op op_add (pe_ix (kixT (K := K) rfl) (pv 1) pe_int (fun _ _ => rfl)) (pe_call G_law_next (hr.mono (by decide)) rfl T.g_law_next T.F_law_next.kp T.b_law_next .nil pass0 (pa_cons (pv 0) (pa_cons pe_int pa_nil)))) pe_int) (pa_cons (pe_op op_sub (pe_op op_add (pe_ix (kixT (K := K) rfl) (pv 1) pe_int (fun _ _ => rfl)) (pe_call G_law_next (hr.mono (by decide)) rfl T.g_law_next T.F_law_next.kp T.b_law_next .nil pass0 (pa_cons (pv 0) (pa_cons pe_int pa_nil)))) pe_int) pa_nil)) (by rfl))
      (pss_one (ps_ret (pe_tup (pa_cons (pv 2) (pa_cons (pe_op op_add (pv 2) (pe_call G_law_next (hr.mono (by decide)) rfl T.g_law_next T.F_law_next.kp T.b_law_next .nil pass0 (pa_cons (pv 0) (pa_cons pe_int pa_nil)))) (pa_cons (pv 3) (pa_cons (pe_op op_add (pv 3) (pe_call G_law_next (hr.mono (by decide)) rfl T.g_law_next T.F_law_next.kp T.b_law_next .nil pass0 (pa_cons (pv 0) (pa_cons pe_int pa_nil)))) pa_nil)))))))), ?_⟩
  refine q_parS mn_btw mn_btw e hg hS (es_near (K := K) (i := i) (many := 5) (c := 2) (ev_ixT (i := 0) (by rfl) (ev_varD rfl hb) ev_int) rfl (by decide) (by decide) (by omega)) (es_near (K := K) (i := j) (many := 5) (c := 2) (ev_ixT (i := 1) (by rfl) (ev_varD rfl hb) ev_int) rfl (by decide) (by decide) (by omega)) fun x y G1 H1 g1 hg1 s1 ⟨a, hx, a1, a2⟩ ⟨b, hy, b1, b2⟩ => ?_
  subst hx hy
  refine s_retS (σ := [some (.ref src), some vb, some (.int a), some (.int b)]) g1.gh hg1 s1 (es_tupA (K := K) (eas_cons (mn_isD (K := K)) (es_of (ev_varD rfl (.int a))) (eas_cons mn_btw (es_upto (K := K) (i := a) (many := 6) (ev_varD rfl (.int _)) rfl (by decide) (by decide) (by omega)) (eas_cons (mn_isD (K := K)) (es_of (ev_varD rfl (.int b))) (eas_cons mn_btw (es_upto (K := K) (i := b) (many := 6) (ev_varD rfl (.int _)) rfl (by decide) (by decide) (by omega)) eas_nil)))) (by simp)) fun v G2 H2 g2 hg2 s2 ⟨xs, hv, hall⟩ => ?_
  cases hall with
  | cons h1 hall =>
  cases hall with
  | cons h2 hall =>
  cases hall with
  | cons h3 hall =>
  cases hall with
  | cons h4 hall =>
  cases hall
  cases h1
  cases h3
  obtain ⟨a', rfl, c1, c2⟩ := h2
  obtain ⟨b', rfl, d1, d2⟩ := h4
  obtain ⟨ad, rfl, hs'⟩ := hv
  refine q (a, a', b, b') (.ref ad) G2 H2 ⟨c1, d1, ?_, ?_, ?_, ?_, ?_⟩ (g1.trans g2) s2 (.tup hs' (.cons (.int _) (.cons (.int _) (.cons (.int _) (.cons (.int _) .nil)))))
  · show (a' - a + 1) * (b' - b + 1) ≤ 144
    have e1 : (a' - a + 1) * (b' - b + 1) ≤ 6 * (b' - b + 1) := Int.mul_le_mul_of_nonneg_right (by omega) (by omega)
    omega
  · show -(2 ^ 40) < a
    omega
  · show a' < 2 ^ 40
    omega
  · show -(2 ^ 40) < b
    omega
  · show b' < 2 ^ 40
    omega
end

section
variable {P : Program} {w : World} {K : PySem.W.Frag} {mg : Str → Option Value} {base : Heap}
abbrev spLaw (K : PySem.W.Frag) : Sp := fun vs H Q _ => ∃ (a : Addr) (ns : List Int), vs = [.ref a] ∧ SqL K H a (ns.map V.int) ∧ ns.length ≤ 63 ∧ ∀ H', Q (.bl true) H'
theorem cut_mem {ds : List PyData} {lo hi : Option Int} : ∀ d ∈ cutD ds lo hi, d ∈ ds := fun d hd => by
  unfold cutD at hd
  exact List.mem_of_mem_drop (List.mem_of_mem_take hd)
theorem cut_len {ds : List PyData} {lo hi : Option Int} : (cutD ds lo hi).length ≤ ds.length := by
  unfold cutD
  rw [List.length_take, List.length_drop]
  omega
theorem fine_rows (f : Int × Int → PyData) (hf : ∀ p, Fine 1 (f p)) (x : Win) : Fine 3 (.list ((picAll f x).map .list)) := fine_list fun d hd => by
  obtain ⟨r, hr, rfl⟩ := List.mem_map.mp hd
  refine fine_list fun d2 hd2 => ?_
  unfold picAll picRows at hr
  obtain ⟨i, _, rfl⟩ := List.mem_map.mp hr
  unfold picRow at hd2
  obtain ⟨k, _, rfl⟩ := List.mem_map.mp hd2
  exact hf _
theorem pic_dp {K : PySem.W.Frag} {G0 G : Hp} {l : Addr} {xs : List V} {rows : List (List PyData)} (hl : G l = some (.lst xs)) (h : All2 (rows.map (isDLn K G0)) xs G) : Dp K G (.ref l) (.list (rows.map .list)) := by
  refine .lst (SqL.of hl) ?_
  induction rows generalizing xs with
  | nil => cases h; exact .nil
  | cons r rows ih =>
    cases h with
    | cons h1 h2 =>
      obtain ⟨_, _, _, h3⟩ := h1
      refine .cons (dl_dp h3) ?_
      have : ∀ {xs : List V}, All2 (rows.map (isDLn K G0)) xs G → DpAll K G xs (rows.map .list) := by
        intro xs hx
        clear ih h2
        induction rows generalizing xs with
        | nil => cases hx; exact .nil
        | cons r rows ih =>
          cases hx with
          | cons h1 h2 =>
            obtain ⟨_, _, _, h3⟩ := h1
            exact .cons (dl_dp h3) (ih h2)
      exact this h2
theorem ev_pic {T : Tp K mg} {σ : L2.St} {G : Hp} {t : TA} {E : XK} {xs : List V} {lv : LevD} {sn : List (Int × Int)} {full : Bool} {x : Win} (ha : EvA t σ G [isLev T xs lv sn full, isD K (winD x)]) (hp : StripsOk lv.strips ∧ lv.offs.length = lv.strips.length ∧ lv.strips.length ≤ 8 ∧ WinOk x) : EvR (tCall (sp_picture T) [] E t) σ G (isD K (.list ((picAll (tkF lv) x).map .list))) := fun H e Q q =>
  ha.2 H e _ fun vs G1 H1 g1 r1 => ⟨((xs, lv, sn, full), x), G1, g1.gh, by rw [List.append_nil]; exact r1, hp, fun l fx G2 H2 g2 _ hGl hfa => q _ G2 H2 (g1.trans g2) (pic_dp hGl hfa)⟩
theorem pic_one (f : Int × Int → PyData) (i j : Int) : picAll f (i, i, j, j) = [[f (i, j)]] := by
  unfold picAll picRows picRow
  have e1 : ((i, i, j, j).2.1 + 1 - (i, i, j, j).1 : Int).toNat = 1 := by show (i + 1 - i).toNat = 1; omega
  have e2 : ((i, i, j, j).2.2.2 + 1 - (i, i, j, j).2.2.1 : Int).toNat = 1 := by show (j + 1 - j).toNat = 1; omega
  rw [e1, e2]
  simp
theorem ok_law_at (T : Tp K mg) : FnOk P w K mg base CX0 8 T.f_law T.fd_law ["_law_script"] (spLaw K) := by
  have hk : KK K := kk
  have G_law_cell_at : FnOk P w K mg base CX0 1 T.f_law_cell_at T.fd_law_cell_at ["_law_script", "_law_k"] (sp_law_cell_at K) := ok_law_cell_at T
  have G_law_source_of : FnOk P w K mg base CX0 1 T.f_law_source_of T.fd_law_source_of ["_law_cell"] spSource := ok_law_source_of T
  have G_law_wide : FnOk P w K mg base CX0 3 T.f_law_wide T.fd_law_wide ["_law_source"] (sp_law_wide K) := ok_law_wide T
  have G_law_levels : FnOk P w K mg base CX0 7 T.f_law_levels T.fd_law_levels ["_law_world"] (sp_law_levels T) := ok_law_levels T
  have G_law_window : FnOk P w K mg base CX0 2 T.f_law_window T.fd_law_window ["_law_source", "_law_base"] (sp_law_window K) := ok_law_window T
  have G_picture : FnOk P w K mg base CX0 6 T.f_picture T.fd_picture ["levels", "window"] (sp_picture T) := ok_picture T
  have G_law_joined : FnOk P w K mg base CX0 3 T.f_law_joined T.fd_law_joined ["_law_world", "_law_window_here"] (sp_law_joined K) := ok_law_joined T
  have G_law_next : FnOk P w K mg base CX0 1 T.f_law_next T.fd_law_next ["_law_source", "_law_many"] spNext := ok_law_next T
  have G_seen_at : FnOk P w K mg base CX0 4 T.f_seen_at T.fd_seen_at ["levels", "spot"] (sp_seen_at T) := ok_seen_at T
  have G_law_cells : FnOk P w K mg base CX0 1 T.f_law_cells T.fd_law_cells ["_law_world", "_law_spot"] (sp_law_cells K) := ok_law_cells T
  have G_law_taken : FnOk P w K mg base CX0 2 T.f_law_taken T.fd_law_taken ["_law_world", "_law_spot"] (sp_law_taken K) := ok_law_taken T
  refine T.F_law.ok sc_law (fun vs H Q E ⟨a, ns, h, _⟩ => by rw [h]; rfl) (fun cdv A outer s H vs Q E hr h => ?_)
  obtain ⟨a, ns, rfl, hS0, hns, q⟩ := h
  have hu := Nat.lt_of_le_of_lt (Nat.add_le_add_left (by decide : 64 ≤ 16 * 7 + 200) _) (by have := hr.un; rw [Nat.add_assoc] at this; exact this)
  refine ⟨_, (pss_cons (ps_for PassesOwn.never rfl (kpiL (K := K) rfl (pe_op op_cat (pe_lst (pa_cons (pe_call G_law_cell_at (hr.mono (by decide)) rfl T.g_law_cell_at T.F_law_cell_at.kp T.b_law_cell_at .nil pass0 (pa_cons (pv 0) (pa_cons pe_int pa_nil))) pa_nil)) (pe_slice (kslL (K := K) rfl) (pv 0) (po_some pe_int) (po_some pe_int)))) (pg_name (i := 1) sc_law.nd rfl (by first | exact Or.inl rfl | exact Or.inr rfl))
        (pss_cons (ps_set (i := 2) sc_law.nd rfl (by first | exact Or.inl rfl | exact Or.inr rfl) (pe_call G_law_source_of (hr.mono (by decide)) rfl T.g_law_source_of T.F_law_source_of.kp T.b_law_source_of .nil pass0 (pa_cons (pv 1) pa_nil)))
        (pss_cons (ps_set (i := 3) sc_law.nd rfl (by first | exact Or.inl rfl | exact Or.inr rfl) (pe_call G_law_wide (hr.mono (by decide)) rfl T.g_law_wide T.F_law_wide.kp T.b_law_wide .nil pass0 (pa_cons (pv 2) pa_nil)))
        (pss_cons (ps_set (i := 4) sc_law.nd rfl (by first | exact Or.inl rfl | exact Or.inr rfl) (pe_call G_law_levels (hr.mono (by decide)) rfl T.g_law_levels T.F_law_levels.kp T.b_law_levels .nil pass0 (pa_cons (pv 3) pa_nil)))
        (pss_cons (ps_asg (pe_ix (kixL (K := K) rfl) (pe_ix (kixT (K := K) rfl) (pv 3) pe_int (fun _ _ => rfl)) pe_int (fun _ _ => rfl)) (kpgT (K := K) (n := 2) rfl rfl (pgs_cons (pg_name (i := 5) sc_law.nd rfl (by first | exact Or.inl rfl | exact Or.inr rfl)) (pgs_cons (pg_name (i := 6) sc_law.nd rfl (by first | exact Or.inl rfl | exact Or.inr rfl)) pgs_nil))))
        (pss_cons (ps_set (i := 7) sc_law.nd rfl (by first | exact Or.inl rfl | exact Or.inr rfl) (pe_tup (pa_cons (pe_op op_sub (pv 5) pe_int) (pa_cons (pe_op op_add (pv 5) pe_int) (pa_cons (pe_op op_sub (pv 6) pe_int) (pa_cons (pe_op op_add (pv 6) pe_int) pa_nil))))))
        (pss_cons (ps_set (i := 8) sc_law.nd rfl (by first | exact Or.inl rfl | exact Or.inr rfl) (pe_lst (pa_cons (pv 7) (pa_cons (pe_tup (pa_cons (pe_ix (kixT (K := K) rfl) (pv 7) pe_int (fun _ _ => rfl)) (pa_cons (pe_op op_add (pe_ix (kixT (K := K) rfl) (pv 7) pe_int (fun _ _ => rfl)) pe_int) (pa_cons (pe_op op_add (pe_ix (kixT (K := K) rfl) (pv 7) pe_int (fun _ _ => rfl)) pe_int) (pa_cons (pe_op op_add (pe_ix (kixT (K := K) rfl) (pv 7) pe_int (fun _ _ => rfl)) pe_int) pa_nil))))) pa_nil))))
        (pss_cons (ps_for PassesOwn.never rfl (kpiL (K := K) rfl (pe_op op_cat (pv 8) (pe_lc (own := [("_law_k", 12)]) rfl sc_law.nd (pi_range1 (by rfl) T.z_range (pa_cons pe_int pa_nil)) (blkOk_by (N := ["_law_script", "_law_cell", "_law_source", "_law_world", "_law_levels_here", "_law_row", "_law_column", "_law_far", "_law_windows", "_law_window_here", "_law_turn", "_law_found", "_law_k", "_law_spot"]) (sc := defScope s_law) (by decide +kernel)) (fun _ _ _ _ _ => (pg_name (i := 12) sc_law.nd rfl (by first | exact Or.inl rfl | exact Or.inr rfl))) (fun _ _ _ _ _ => pts_nil) (fun _ _ _ _ _ => (pe_call G_law_window (hr.mono (by decide)) rfl T.g_law_window T.F_law_window.kp T.b_law_window .nil pass0 (pa_cons (pv 2) (pa_cons (pe_ix (kixL (K := K) rfl) (pe_ix (kixT (K := K) rfl) (pv 3) pe_int (fun _ _ => rfl)) pe_int (fun _ _ => rfl)) pa_nil))))))) (pg_name (i := 9) sc_law.nd rfl (by first | exact Or.inl rfl | exact Or.inr rfl))
          (pss_one (ps_for PassesOwn.never rfl (pi_range1 (by rfl) T.z_range (pa_cons pe_int pa_nil)) (pg_name (i := 10) sc_law.nd rfl (by first | exact Or.inl rfl | exact Or.inr rfl))
            (pss_cons (ps_set (i := 11) sc_law.nd rfl (by first | exact Or.inl rfl | exact Or.inr rfl) (pe_call G_picture (hr.mono (by decide)) rfl T.g_picture T.F_picture.kp T.b_picture .nil pass0 (pa_cons (pv 4) (pa_cons (pv 9) pa_nil))))
            (pss_cons (ps_if (pt_cmpR (kneD (K := K) rfl hu) (pv 11) (pe_call G_law_joined (hr.mono (by decide)) rfl T.g_law_joined T.F_law_joined.kp T.b_law_joined .nil pass0 (pa_cons (pv 3) (pa_cons (pv 9) pa_nil))) (nomark _))
              (pss_one (ps_ret pe_bl))
              pss_nil)
            (pss_cons (ps_expr (kbm (K := K) rfl PySem.F.plainAttrs_list PySem.F.slot_list_append PySem.F.type_list_append mt_append (pe_ix (kixL (K := K) rfl) (pv 11) pe_int (fun _ _ => rfl)) (pa_cons pe_non pa_nil)))
            (pss_one (ps_expr (kbm0 (K := K) rfl PySem.F.plainAttrs_list PySem.F.slot_list_reverse PySem.F.type_list_reverse mt_reverse (pv 11))))))))))
        (pss_one (ps_for PassesOwn.never rfl (pi_range1 (by rfl) T.z_range (pa_cons pe_int pa_nil)) (pg_name (i := 12) sc_law.nd rfl (by first | exact Or.inl rfl | exact Or.inr rfl))
          (pss_cons (ps_set (i := 13) sc_law.nd rfl (by first | exact Or.inl rfl | exact Or.inr rfl) (pe_tup (pa_cons (pe_op op_sub (pe_op op_add (pv 5) (pe_call G_law_next (hr.mono (by decide)) rfl T.g_law_next T.F_law_next.kp T.b_law_next .nil pass0 (pa_cons (pv 2) (pa_cons pe_int pa_nil)))) pe_int) (pa_cons (pe_op op_sub (pe_op op_add (pv 6) (pe_call G_law_next (hr.mono (by decide)) rfl T.g_law_next T.F_law_next.kp T.b_law_next .nil pass0 (pa_cons (pv 2) (pa_cons pe_int pa_nil)))) pe_int) pa_nil))))
          (pss_cons (ps_expr (kbm (K := K) rfl PySem.F.plainAttrs_list PySem.F.slot_list_append PySem.F.type_list_append mt_append (pe_call G_seen_at (hr.mono (by decide)) rfl T.g_seen_at T.F_seen_at.kp T.b_seen_at .nil pass0 (pa_cons (pv 4) (pa_cons (pv 13) pa_nil))) (pa_cons pe_non pa_nil)))
          (pss_cons (ps_if (pt_cmpR (kneD (K := K) rfl hu) (pe_call G_seen_at (hr.mono (by decide)) rfl T.g_seen_at T.F_seen_at.kp T.b_seen_at .nil pass0 (pa_cons (pv 4) (pa_cons (pv 13) pa_nil))) (pe_call G_law_cells (hr.mono (by decide)) rfl T.g_law_cells T.F_law_cells.kp T.b_law_cells .nil pass0 (pa_cons (pv 3) (pa_cons (pv 13) pa_nil))) (nomark _))
            (pss_one (ps_ret pe_bl))
            pss_nil)
          (pss_one (ps_if (pt_cmpR (kneD (K := K) rfl hu) (pe_call G_picture (hr.mono (by decide)) rfl T.g_picture T.F_picture.kp T.b_picture .nil pass0 (pa_cons (pv 4) (pa_cons (pe_op (kcatT (K := K) rfl) (pe_op (krepT (K := K) rfl) (pe_slice (kslT (K := K) rfl) (pv 13) po_none (po_some pe_int)) pe_int) (pe_op (krepT (K := K) rfl) (pe_slice (kslT (K := K) rfl) (pv 13) (po_some pe_int) po_none) pe_int)) pa_nil))) (pe_lst (pa_cons (pe_lst (pa_cons (pe_call G_law_taken (hr.mono (by decide)) rfl T.g_law_taken T.F_law_taken.kp T.b_law_taken .nil pass0 (pa_cons (pv 3) (pa_cons (pv 13) pa_nil))) pa_nil)) pa_nil)) (nomark _))
            (pss_one (ps_ret pe_bl))
            pss_nil)))))))))))))))
      (pss_one (ps_ret pe_bl))), ?_⟩
  have eH : Same H H := fun _ _ h => h
  have hx : Dp K H (.ref a) (.list (ns.map .int)) := .lst hS0 (dp_ints ns)
  refine q_forL (ds := [PyData.int (ns.getD 0 0)] ++ cutD (ns.map PyData.int) (some 1) (some 5)) eH (ev_dl (ev_cat (ev_lstF (ed_cons (ev_call (ns, 0) (ea_cons mn_isD (ev_var rfl hx) (ea_cons mn_isD ev_int ea_nil)) trivial) ed_nil) (by simp)) (ev_slF (lo := some 1) (hi := some 5) (ev_varD rfl hx) (eo_someK hk ev_int) (eo_someK hk ev_int)) (by have := cut_len (ds := ns.map PyData.int) (lo := some 1) (hi := some 5); rw [List.length_map] at this; rw [List.length_singleton]; omega))) fun Gb Hb gb => ?_
  refine ⟨fun i σ' G' H' => ∃ v1 v2 v3 v4 v5 v6 v7 v8 v9 v10 v11 v12 v13, σ' = [some (.ref a), v1, v2, v3, v4, v5, v6, v7, v8, v9, v10, v11, v12, v13], ⟨_, _, _, _, _, _, _, _, _, _, _, _, _, rfl⟩, ?_, ?_⟩
  · rintro i x d σ1 G1 H1 hd s1 s2 hxd ⟨v1, v2, v3, v4, v5, v6, v7, v8, v9, v10, v11, v12, v13, rfl⟩
    have hint : ∃ t, d = .int t := by
      have := List.mem_of_getElem? hd
      rcases List.mem_append.mp this with z | z
      · exact ⟨_, List.mem_singleton.mp z⟩
      · obtain ⟨t, _, e⟩ := List.mem_map.mp (cut_mem d z)
        exact ⟨t, e.symm⟩
    obtain ⟨t, rfl⟩ := hint
    cases hxd
    refine q_asgE ?_
    refine ⟨.int t, rfl, t, G1, rfl, s2, fun src G2 H2 g2 hg2 _ hs2 => ?_⟩
    refine q_asgE ?_
    refine ⟨.ref src, rfl, src, 0, G2, rfl, g2.gh, hg2, hs2, by omega, fun x vw G3 H3 full hob g3 hs3 hw => ?_⟩
    have hg3 := src_out hg2 hs2 g3
    obtain ⟨strips, offs⟩ := x
    replace hob : ∀ p ∈ offs, BdOff p := hob
    replace hw : Dp K G3 vw (worldD strips offs) := hw
    have wdok : WdOk (strips, offs) := ⟨full.strips, full.offs, full.n8⟩
    refine q_set (σ := [some (.ref a), some (.int t), some (.ref src), some vw, v4, v5, v6, v7, v8, v9, v10, v11, v12, v13]) g3.gh (ev_call (strips, offs) (ea_cons mn_isD (ev_var rfl hw) ea_nil) full) fun vl G4 H4 g4 ⟨xs, sn, hlv⟩ => ?_
    replace hlv : isLev T xs (lvOf (strips, offs)) sn true vl G4 := hlv
    have hs4 := src_on hs3 g4
    have hg4 := src_out hg3 hs3 g4
    have hw4 := dpm g4.gg hw
    obtain ⟨p0, hp0⟩ : ∃ p0, offs[0]? = some p0 := ⟨offs[0]'(by have h1 := full.n1; have h2 := full.offs; replace h1 : 1 ≤ strips.length := h1; replace h2 : offs.length = strips.length := h2; omega), List.getElem?_eq_getElem _⟩
    obtain ⟨i0, j0⟩ := p0
    obtain ⟨b1, b2, b3, b4⟩ := hob _ (List.mem_of_getElem? hp0)
    replace b1 : -2000000000 ≤ i0 := b1
    replace b2 : i0 ≤ 2000000000 := b2
    replace b3 : -2000000000 ≤ j0 := b3
    replace b4 : j0 ≤ 2000000000 := b4
    have z0 : atI (offs.map pairD) 0 = some (pairD (i0, j0)) := atI_map _ (atI_nn (Int.le_refl 0) hp0)
    have w10 : ∀ (σ' : L2.St) G', σ'[3]? = some (some vw) → Same G4 G' → EvR (tOp (rIxL K) (tOp (rIxT K) (tVar 3) (tC (.int 1))) (tC (.int 0))) σ' G' (isD K (pairD (i0, j0))) := fun σ' G' h u => ev_ixL z0 (ev_ixT (i := 1) (by rfl) (ev_varD h (dpm u hw4)) ev_int) ev_int
    refine q_asg (σ := [some (.ref a), some (.int t), some (.ref src), some vw, some vl, v5, v6, v7, v8, v9, v10, v11, v12, v13]) g4.gh (w10 _ _ rfl fun _ _ h => h) fun v G5 H5 g5 r5 => ?_
    refine g_tup g5.gh r5 rfl fun us hus => ?_
    cases hus with
    | @cons a1 _ _ _ c1 hus =>
    cases hus with
    | @cons a2 _ _ _ c2 hus =>
    cases hus
    cases c1
    cases c2
    refine g_two ?_
    have hs5 := src_on hs4 g5
    have hg5 := src_out hg4 hs4 g5
    refine q_set (σ := [some (.ref a), some (.int t), some (.ref src), some vw, some vl, some (.int i0), some (.int j0), v7, v8, v9, v10, v11, v12, v13]) (R := isD K (winD (i0 - 4, i0 + 7, j0 - 3, j0 + 8))) g5.gh (by walk_at "ev") fun vf G6 H6 g6 r6 => ?_
    have hs6 := src_on hs5 g6
    have hg6 := src_out hg5 hs5 g6
    have r6' : Dp K G6 vf (.tuple [.int (i0 - 4), .int (i0 + 7), .int (j0 - 3), .int (j0 + 8)]) := r6
    refine q_set (σ := [some (.ref a), some (.int t), some (.ref src), some vw, some vl, some (.int i0), some (.int j0), some vf, v8, v9, v10, v11, v12, v13]) (R := isDL K ([(i0 - 4, i0 + 7, j0 - 3, j0 + 8), (i0 - 4, i0 - 4 + 143, j0 - 3 + 3, j0 - 3 + 3)].map winD)) g6.gh (ev_dlTo (ev_lstF (by walk_at "ev") (by simp)) (by rfl)) fun vws G7 H7 g7 r7 => ?_
    have hs7 := src_on hs6 g7
    have hg7 := src_out hg6 hs6 g7
    have u7 : Same G4 G7 := (g5.gg.trans g6.gg).trans g7.gg
    have wfar : ∀ q ∈ [(i0 - 4, i0 + 7, j0 - 3, j0 + 8), (i0 - 4, i0 - 4 + 143, j0 - 3 + 3, j0 - 3 + 3)], WinOk q := fun q hq => by
      rcases List.mem_cons.mp hq with z | hq
      · subst z
        exact ⟨by show i0 - 4 ≤ i0 + 7; omega, by show j0 - 3 ≤ j0 + 8; omega, by show (i0 + 7 - (i0 - 4) + 1) * (j0 + 8 - (j0 - 3) + 1) ≤ 144; rw [show i0 + 7 - (i0 - 4) + 1 = 12 by omega, show j0 + 8 - (j0 - 3) + 1 = 12 by omega]; decide, by show -(2 ^ 40) < i0 - 4; omega, by show i0 + 7 < 2 ^ 40; omega, by show -(2 ^ 40) < j0 - 3; omega, by show j0 + 8 < 2 ^ 40; omega⟩
      · rw [List.mem_singleton] at hq
        subst hq
        exact ⟨by show i0 - 4 ≤ i0 - 4 + 143; omega, by show j0 - 3 + 3 ≤ j0 - 3 + 3; omega, by show (i0 - 4 + 143 - (i0 - 4) + 1) * (j0 - 3 + 3 - (j0 - 3 + 3) + 1) ≤ 144; rw [show i0 - 4 + 143 - (i0 - 4) + 1 = 144 by omega, show j0 - 3 + 3 - (j0 - 3 + 3) + 1 = 1 by omega]; decide, by show -(2 ^ 40) < i0 - 4; omega, by show i0 - 4 + 143 < 2 ^ 40; omega, by show -(2 ^ 40) < j0 - 3 + 3; omega, by show j0 - 3 + 3 < 2 ^ 40; omega⟩
    refine q_forLS (K := K) (σ := [some (.ref a), some (.int t), some (.ref src), some vw, some vl, some (.int i0), some (.int j0), some vf, some vws, v9, v10, v11, v12, v13]) (F := fun ps : List Win => ([(i0 - 4, i0 + 7, j0 - 3, j0 + 8), (i0 - 4, i0 - 4 + 143, j0 - 3 + 3, j0 - 3 + 3)] ++ ps).map winD) (P := fun ps => ps.length = 2 ∧ ∀ p ∈ ps, WinOk p) (n := 200) (m := 208) g7.gh hg7 hs7
      (es_cat (K := K) (f := winD) (P := fun ps => ps.length = 2 ∧ ∀ p ∈ ps, WinOk p) (ev_var rfl r7) ((es_lcR (K := K) (f := winD) (j := 12) (c := 2) (cnt := 4) (n := 200) (okP := WinOk) (by decide) (fun _ => rfl) fun i' x' G8 hi8 u8 hg8 => fun H8 e8 hg8' hs8 Q' q' => ?el).imp fun v G' _ ⟨ps, h1, h2, h3⟩ => ⟨ps, ⟨h1, h2⟩, h3⟩) fun ps hps => by rw [hps.1]; simp) fun ps Gc Hc hps gc hgc hsc => ?_
    case el => exact ⟨.ref src, rfl, w10 _ _ rfl (u7.trans u8) H8 e8 _ fun vb G9 H9 g9 r9 => ⟨src, vb, (i0, j0), _, G9, rfl, r9, hob _ (List.mem_of_getElem? hp0), g9.gh, src_out hg8' hs8 g9, src_on hs8 g9, by omega, fun wn v G' H' h1 h2 h3 h4 => q' v G' H' (g9.weak.trans h2) h3 ⟨wn, h1, h4⟩⟩⟩
    have wall : ∀ q ∈ [(i0 - 4, i0 + 7, j0 - 3, j0 + 8), (i0 - 4, i0 - 4 + 143, j0 - 3 + 3, j0 - 3 + 3)] ++ ps, WinOk q := fun q hq => by
      rcases List.mem_append.mp hq with z | z
      · exact wfar q z
      · exact hps.2 q z
    have uc : Same G4 Gc := u7.trans gc.gg
    refine ⟨fun _ σ' G' H' => (∃ v9 v10 v11 v12 v13, σ' = [some (.ref a), some (.int t), some (.ref src), some vw, some vl, some (.int i0), some (.int j0), some vf, some vws, v9, v10, v11, v12, v13]) ∧ Src src 208 H' ∧ G' src = none, ⟨⟨_, _, _, _, _, rfl⟩, hsc, hgc⟩, ?_, ?_⟩
    · rintro n y d σ2 G8 H8 hd8 s3 s4 hy8 ⟨⟨v9, v10, v11, v12, v13, rfl⟩, hs8, hg8⟩
      obtain ⟨win, hwin, rfl⟩ := List.mem_map.mp (List.mem_of_getElem? hd8)
      have wok := wall win hwin
      refine s_forR1 (K := K) (n := 2) (σ := [some (.ref a), some (.int t), some (.ref src), some vw, some vl, some (.int i0), some (.int j0), some vf, some vws, some y, v10, v11, v12, v13]) s4 (by walk_at "ev") (by decide) fun Gd Hd gd => ?_
      refine ⟨fun _ σ' G' H' => (∃ v10 v11 v12 v13, σ' = [some (.ref a), some (.int t), some (.ref src), some vw, some vl, some (.int i0), some (.int j0), some vf, some vws, some y, v10, v11, v12, v13]) ∧ Src src 208 H' ∧ G' src = none, ⟨⟨_, _, _, _, rfl⟩, src_on hs8 gd, src_out hg8 hs8 gd⟩, ?_, ?_⟩
      · rintro m σ3 G9 H9 hm s5 s6 ⟨⟨v10, v11, v12, v13, rfl⟩, hs9, hg9⟩
        have u9 : Same G4 G9 := uc.trans (s3.trans (gd.gg.trans s5))
        have hlv9 : isLev T xs (lvOf (strips, offs)) sn true vl G9 := mn_isLev _ _ _ u9 hlv
        have hy9 : Dp K G9 y (winD win) := dpm (gd.gg.trans s5) hy8
        refine q_asgE ?_
        have hEA : EvA (tCons (tVar 4) (tCons (tVar 9) tNil)) [some (.ref a), some (.int t), some (.ref src), some vw, some vl, some (.int i0), some (.int j0), some vf, some vws, some y, some (.int (m : Nat)), v11, v12, v13] G9 [isLev T xs (lvOf (strips, offs)) sn true, isD K (winD win)] := ea_cons mn_isLev (ev_var rfl hlv9) (ea_cons mn_isD (ev_var rfl hy9) ea_nil)
        refine hEA.2 H9 s6 _ fun vs G10 H10 g10 r10 => ?_
        have hs10 := src_on hs9 g10
        have hg10 := src_out hg9 hs9 g10
        refine ⟨((xs, lvOf (strips, offs), sn, true), win), G10, g10.gh, by rw [List.append_nil]; exact r10, ⟨full.strips, full.offs, full.n8, wok⟩, fun l fx G11 H11 g11 hgl hGl hfa => ?_⟩
        have hs11 := src_on hs10 g11
        have hg11 := src_out hg10 hs10 g11
        have u11 : Same G4 G11 := u9.trans (g10.gg.trans g11.gg)
        have hfd : Dp K G11 (.ref l) (.list ((picAll (tkF (lvOf (strips, offs))) win).map .list)) := pic_dp hGl hfa
        have hw11 : Dp K G11 vw (worldD strips offs) := dpm u11 hw4
        have hy11 := dpm (g10.gg.trans g11.gg) hy9
        have fin1 := (fine_rows (tkF (lvOf (strips, offs))) (fun _ => fine_taken _) win)
        refine q_no (σ := [some (.ref a), some (.int t), some (.ref src), some vw, some vl, some (.int i0), some (.int j0), some vf, some vws, some y, some (.int (m : Nat)), some (.ref l), v12, v13]) g11.gh (et_testK hk (ev_shape (ev_neD (fin1.shaped (by decide)) ((fine_rows (tkW (strips, offs)) (fun _ => fine_taken _) win).shaped (by decide)) (ev_varD rfl hfd) (ev_call ((strips, offs), win) (ea_cons mn_isD (ev_var rfl hw11) (ea_cons mn_isD (ev_var rfl hy11) ea_nil)) ⟨wdok, wok⟩)) (by
          have e1 : PyData.eqv (.list ((picAll (tkF (lvOf (strips, offs))) win).map .list)) (.list ((picAll (tkW (strips, offs)) win).map .list)) = true := eqv_same _ fin1.plain
          rw [e1]; rfl))) fun G12 H12 g12 => ?_
        have hs12 := src_on hs11 g12
        have hg12 := src_out hg11 hs11 g12
        have hr0 : ∃ r0, (picAll (tkF (lvOf (strips, offs))) win)[0]? = some r0 := by
          have hl0 : 0 < (picAll (tkF (lvOf (strips, offs))) win).length := by
            unfold picAll picRows
            rw [List.length_map, List.length_range]
            have := wok.r
            omega
          exact ⟨_, List.getElem?_eq_getElem hl0⟩
        obtain ⟨r0, hr0⟩ := hr0
        obtain ⟨v0, hv0, a0, rfl, ha0, a0', ys, ea0, hA0, hD0⟩ := all2_to hfa (i := 0) (R := isDLn K G10 r0) (by rw [List.getElem?_map, hr0]; rfl)
        cases ea0
        have hl12 : H12 l = some (.lst fx) := g12.gh _ _ (g12.gg _ _ hGl)
        have hA12 : H12 a0 = some (.lst ys) := g12.gh _ _ (g12.gg _ _ hA0)
        have hrlen : ys.length ≤ 1000 := by
          rw [dpall_len hD0]
          have hm0 := List.mem_of_getElem? hr0
          unfold picAll picRows at hm0
          obtain ⟨k, _, rfl⟩ := List.mem_map.mp hm0
          unfold picRow
          rw [List.length_map, List.length_range]
          have := wok.few
          omega
        have as := ne_src hg11 hA0
        have lsr := ne_src hg11 hGl
        have nA9 : G9 a0 = none := g10.gg.free ha0
        have nl9 : G9 l = none := g10.gg.free hgl
        have e12 : Same G9 H12 := (g10.gg.trans (g11.gg.trans g12.gg)).trans g12.gh
        refine ⟨.ref l, rfl, l, fx, 0, .ref a0, rfl, rfl, SqL.of hl12, atI_nn (Int.le_refl 0) hv0, .inl ⟨rfl, _, SqL.of hA12⟩, a0, ys, .non, rfl, rfl, hA12, small1000 hrlen, ?_⟩
        obtain ⟨zs, hzs⟩ := lst_put (a := a0) (ys := ys ++ [.non]) hl12
        refine ⟨.ref l, rfl, .inl ⟨rfl, _, SqL.of hzs⟩, l, zs, rfl, rfl, hzs, ?_⟩
        exact ⟨G9, s5, same_put (same_put e12 nA9) nl9, ⟨_, _, _, _, rfl⟩, (hs12.alter as).alter lsr, hg9⟩
      · rintro σ3 G9 H9 s5 s6 ⟨⟨v10, v11, v12, v13, rfl⟩, hs9, hg9⟩
        exact ⟨G9, s3.trans (gd.gg.trans s5), s6, ⟨_, _, _, _, _, rfl⟩, hs9, hg9⟩
    · rintro σ2 G8 H8 s3 s4 ⟨⟨v9, v10, v11, v12, v13, rfl⟩, hs8, hg8⟩
      have u8 : Same G4 G8 := uc.trans s3
      refine s_forR1 (K := K) (n := 4) (σ := [some (.ref a), some (.int t), some (.ref src), some vw, some vl, some (.int i0), some (.int j0), some vf, some vws, v9, v10, v11, v12, v13]) s4 (by walk_at "ev") (by decide) fun Gd Hd gd => ?_
      refine ⟨fun r σ' G' H' => (∃ v12 v13, σ' = [some (.ref a), some (.int t), some (.ref src), some vw, some vl, some (.int i0), some (.int j0), some vf, some vws, v9, v10, v11, v12, v13]) ∧ Src src (208 + 2 * r) H' ∧ G' src = none, ⟨⟨_, _, rfl⟩, src_on hs8 gd, src_out hg8 hs8 gd⟩, ?_, ?_⟩
      · rintro r σ3 G9 H9 hr4 s5 s6 ⟨⟨v12, v13, rfl⟩, hs9, hg9⟩
        have u9 : Same G4 G9 := u8.trans (gd.gg.trans s5)
        refine q_setS (σ := [some (.ref a), some (.int t), some (.ref src), some vw, some vl, some (.int i0), some (.int j0), some vf, some vws, v9, v10, v11, some (.int (r : Nat)), v13]) s6 hg9 hs9 (es_tup2 (K := K) mn_btw mn_btw (es_near (K := K) (i := i0) (many := 12) (c := 3) (ev_varD rfl (.int _)) rfl (by decide) (by decide) (by omega)) (es_near (K := K) (i := j0) (many := 12) (c := 3) (ev_varD rfl (.int _)) rfl (by decide) (by decide) (by omega))) fun vs G10 H10 g10 hg10 hs10 ⟨x1, y1, hvs, ⟨si, e1, p1, p2⟩, ⟨sj, e2, p3, p4⟩⟩ => ?_
        subst e1 e2
        have hsp : Dp K G10 vs (.tuple [.int si, .int sj]) := by
          obtain ⟨ad, rfl, hs'⟩ := hvs
          exact .tup hs' (.cons (.int _) (.cons (.int _) .nil))
        have u10 : Same G4 G10 := u9.trans g10.gg
        have hlv10 : isLev T xs (lvOf (strips, offs)) sn true vl G10 := mn_isLev _ _ _ u10 hlv
        have lok : StripsOk (lvOf (strips, offs)).strips ∧ (lvOf (strips, offs)).offs.length = (lvOf (strips, offs)).strips.length ∧ (lvOf (strips, offs)).strips.length ≤ 8 := ⟨full.strips, full.offs, full.n8⟩
        have hEA : EvA (tCons (tVar 4) (tCons (tVar 13) tNil)) [some (.ref a), some (.int t), some (.ref src), some vw, some vl, some (.int i0), some (.int j0), some vf, some vws, v9, v10, v11, some (.int (r : Nat)), some vs] G10 [isLev T xs (lvOf (strips, offs)) sn true, isD K (pairD (si, sj))] := ea_cons mn_isLev (ev_var rfl hlv10) (ea_cons mn_isD (ev_var rfl hsp) ea_nil)
        refine q_bmCall ?_
        refine hEA.2 H10 g10.gh _ fun ws G11 H11 g11 r11 => ?_
        have hs11 := src_on hs10 g11
        have hg11 := src_out hg10 hs10 g11
        refine ⟨((xs, lvOf (strips, offs), sn, true), si, sj), G11, g11.gh, by rw [List.append_nil]; exact r11, lok, fun v G12 H12 g12 ⟨lc, cs, ev, hGc, hDc⟩ ⟨lc', ev', hfr⟩ => ?_⟩
        subst ev
        cases ev'
        have hs12 := src_on hs11 g12
        have hg12 := src_out hg11 hs11 g12
        have lcs := ne_src hg12 hGc
        have nlc : G10 lc = none := g11.gg.free (g11.gh.free hfr)
        have clen : cs.length ≤ 1000 := by
          rw [dpall_len hDc, List.length_map]
          have h1 := cells_len (strips := strips) (offs := offs) (spot := (si, sj)) strips.length
          have h2 := full.n8
          replace h2 : strips.length ≤ 8 := h2
          show (cellsF strips offs (si, sj) strips.length).length ≤ 1000
          omega
        refine ⟨.inl ⟨rfl, _, SqL.of (g12.gh _ _ hGc)⟩, lc, cs, .non, rfl, rfl, g12.gh _ _ hGc, small1000 clen, ?_⟩
        have e13 : Same G10 (upd H12 lc (.lst (cs ++ [.non]))) := same_put ((g11.gg.trans g12.gg).trans g12.gh) nlc
        have hs13 : Src src _ (upd H12 lc (.lst (cs ++ [.non]))) := hs12.alter lcs
        generalize upd H12 lc (.lst (cs ++ [.non])) = H13 at e13 hs13
        have hw10 : Dp K G10 vw (worldD strips offs) := dpm u10 hw4
        have fc : Fine 3 (.list ((cellsF strips offs (si, sj) strips.length).map cellD)) := fine_list (fine_map fine_cell _)
        refine q_no (σ := [some (.ref a), some (.int t), some (.ref src), some vw, some vl, some (.int i0), some (.int j0), some vf, some vws, v9, v10, v11, some (.int (r : Nat)), some vs]) e13 (et_testK hk (ev_shape (ev_neD (d := .list ((cellsF strips offs (si, sj) strips.length).map cellD)) (e := .list ((cellsF strips offs (si, sj) strips.length).map cellD)) (fc.shaped (by decide)) (fc.shaped (by decide)) (ev_dl (ev_callN ((xs, lvOf (strips, offs), sn, true), si, sj) hEA lok)) (ev_dl (ev_call ((strips, offs), si, sj) (ea_cons mn_isD (ev_var rfl hw10) (ea_cons mn_isD (ev_var rfl hsp) ea_nil)) wdok))) (by rw [eqv_same _ fc.plain]; rfl))) fun G14 H14 g14 => ?_
        have hlv14 : isLev T xs (lvOf (strips, offs)) sn true vl G14 := mn_isLev _ _ _ g14.gg hlv10
        have hsp14 := dpm g14.gg hsp
        have hw14 := dpm g14.gg hw10
        have wok1 : WinOk (si, si, sj, sj) := ⟨Int.le_refl _, Int.le_refl _, by show (si - si + 1) * (sj - sj + 1) ≤ 144; rw [Int.sub_self, Int.sub_self]; decide, by show -(2 ^ 40) < si; omega, by show si < 2 ^ 40; omega, by show -(2 ^ 40) < sj; omega, by show sj < 2 ^ 40; omega⟩
        have ft : Fine 3 (.list [.list [tkW (strips, offs) (si, sj)]]) := fine_list fun d hd => by
          rw [List.mem_singleton.mp hd]
          exact fine_list fun d2 hd2 => by rw [List.mem_singleton.mp hd2]; exact fine_taken _
        have ewin : EvR (tOp (rCatA K) (tOp (rRepT K) (tSl (rSlA K) (tVar 13) tNoPart (tPart (tC (.int 1)))) (tC (.int 2))) (tOp (rRepT K) (tSl (rSlA K) (tVar 13) (tPart (tC (.int 1))) tNoPart) (tC (.int 2)))) [some (.ref a), some (.int t), some (.ref src), some vw, some vl, some (.int i0), some (.int j0), some vf, some vws, v9, v10, v11, some (.int (r : Nat)), some vs] G14 (isD K (winD (si, si, sj, sj))) :=
          ev_shape (ev_catT (ds := [.int si, .int si]) (es := [.int sj, .int sj]) (ev_shape (ev_repT (ds := [.int si]) (k := 2) (ev_shape (ev_slT (lo := none) (hi := some 1) (ev_varD rfl hsp14) eo_none (eo_someK hk ev_int)) (by rfl)) ev_int (by simp) (by decide) (by simp)) (by rfl)) (ev_shape (ev_repT (ds := [.int sj]) (k := 2) (ev_shape (ev_slT (lo := some 1) (hi := none) (ev_varD rfl hsp14) (eo_someK hk ev_int) eo_none) (by rfl)) ev_int (by simp) (by decide) (by simp)) (by rfl)) (by simp)) (by rfl)
        have epic : EvR (tCall (sp_picture T) [] E0 (tCons (tVar 4) (tCons (tOp (rCatA K) (tOp (rRepT K) (tSl (rSlA K) (tVar 13) tNoPart (tPart (tC (.int 1)))) (tC (.int 2))) (tOp (rRepT K) (tSl (rSlA K) (tVar 13) (tPart (tC (.int 1))) tNoPart) (tC (.int 2)))) tNil))) [some (.ref a), some (.int t), some (.ref src), some vw, some vl, some (.int i0), some (.int j0), some vf, some vws, v9, v10, v11, some (.int (r : Nat)), some vs] G14 (isD K (.list [.list [tkW (strips, offs) (si, sj)]])) :=
          ev_shape (ev_pic (x := (si, si, sj, sj)) (ea_cons mn_isLev (ev_var rfl hlv14) (ea_cons mn_isD ewin ea_nil)) ⟨full.strips, full.offs, full.n8, wok1⟩) (by rw [pic_one]; rfl)
        refine s_no g14.gh (et_testK hk (ev_shape (ev_neD (ft.shaped (by decide)) (ft.shaped (by decide)) epic (ev_lst (ed_cons (ev_lst (ed_cons (ev_call ((strips, offs), si, sj) (ea_cons mn_isD (ev_var rfl hw14) (ea_cons mn_isD (ev_var rfl hsp14) ea_nil)) wdok) ed_nil) (by simp)) ed_nil) (by simp))) (by rw [eqv_same _ ft.plain]; rfl))) fun G15 H15 g15 => ?_
        refine ⟨G15, s5.trans (g10.gg.trans (g14.gg.trans g15.gg)), g15.gh, ⟨_, _, rfl⟩, ((src_on hs13 (g14.trans g15)).le (by omega)), ?_⟩
        exact src_out hg10 hs13 (g14.trans g15)
      · rintro σ3 G9 H9 s5 s6 ⟨⟨v12, v13, rfl⟩, hs9, hg9⟩
        exact ⟨G9, (s1.trans g2.gg).trans ((g3.gg.trans g4.gg).trans (u8.trans (gd.gg.trans s5))), s6, ⟨_, _, _, _, _, _, _, _, _, _, _, _, _, rfl⟩⟩
  · rintro σ1 G1 H1 s1 s2 ⟨v1, v2, v3, v4, v5, v6, v7, v8, v9, v10, v11, v12, v13, rfl⟩
    exact s_ret (R := isV (.bl true)) s2 (fun H e Q q => q _ _ H (Gw.refl e) rfl) fun v G' H' g r => by cases r; exact q H'
end

theorem all_mk {l : PySem.W.OpenLaw} {w : World} {K : PySem.W.Frag} {h : Heap} {mg : Str → Option Value} {fa A0 A1 A2 A3 A4 A5 A6 A7 A8 A9 A10 A11 A12 A13 A14 A15 A16 A17 A18 A19 A20 A21 A22 A23 A24 A25 A26 A27 A28 A29 A30 A31 A32 A33 C0 C1 : Addr} (X : K.In h) (G : h.Ns mainGlobals mg) (hfa : mg "law" = some (.ref fa))
    {od0 an0 : Option Addr} {sl0 : Array (Option Value)} {oc0 kV0 dc0 pm0 cd0 ct0 : Value}
    {od1 an1 : Option Addr} {sl1 : Array (Option Value)} {oc1 kV1 dc1 pm1 cd1 ct1 : Value}
    {od2 an2 : Option Addr} {sl2 : Array (Option Value)} {oc2 kV2 dc2 pm2 cd2 ct2 : Value}
    {od3 an3 : Option Addr} {sl3 : Array (Option Value)} {oc3 kV3 dc3 pm3 cd3 ct3 : Value}
    {od4 an4 : Option Addr} {sl4 : Array (Option Value)} {oc4 kV4 dc4 pm4 cd4 ct4 : Value}
    {od5 an5 : Option Addr} {sl5 : Array (Option Value)} {oc5 kV5 dc5 pm5 cd5 ct5 : Value}
    {od6 an6 : Option Addr} {sl6 : Array (Option Value)} {oc6 kV6 dc6 pm6 cd6 ct6 : Value}
    {od7 an7 : Option Addr} {sl7 : Array (Option Value)} {oc7 kV7 dc7 pm7 cd7 ct7 : Value}
    {od8 an8 : Option Addr} {sl8 : Array (Option Value)} {oc8 kV8 dc8 pm8 cd8 ct8 : Value}
    {od9 an9 : Option Addr} {sl9 : Array (Option Value)} {oc9 kV9 dc9 pm9 cd9 ct9 : Value}
    {od10 an10 : Option Addr} {sl10 : Array (Option Value)} {oc10 kV10 dc10 pm10 cd10 ct10 : Value}
    {od11 an11 : Option Addr} {sl11 : Array (Option Value)} {oc11 kV11 dc11 pm11 cd11 ct11 : Value}
    {od12 an12 : Option Addr} {sl12 : Array (Option Value)} {oc12 kV12 dc12 pm12 cd12 ct12 : Value}
    {od13 an13 : Option Addr} {sl13 : Array (Option Value)} {oc13 kV13 dc13 pm13 cd13 ct13 : Value}
    {od14 an14 : Option Addr} {sl14 : Array (Option Value)} {oc14 kV14 dc14 pm14 cd14 ct14 : Value}
    {od15 an15 : Option Addr} {sl15 : Array (Option Value)} {oc15 kV15 dc15 pm15 cd15 ct15 : Value}
    {od16 an16 : Option Addr} {sl16 : Array (Option Value)} {oc16 kV16 dc16 pm16 cd16 ct16 : Value}
    {od17 an17 : Option Addr} {sl17 : Array (Option Value)} {oc17 kV17 dc17 pm17 cd17 ct17 : Value}
    {od18 an18 : Option Addr} {sl18 : Array (Option Value)} {oc18 kV18 dc18 pm18 cd18 ct18 : Value}
    {od19 an19 : Option Addr} {sl19 : Array (Option Value)} {oc19 kV19 dc19 pm19 cd19 ct19 : Value}
    {od20 an20 : Option Addr} {sl20 : Array (Option Value)} {oc20 kV20 dc20 pm20 cd20 ct20 : Value}
    {od21 an21 : Option Addr} {sl21 : Array (Option Value)} {oc21 kV21 dc21 pm21 cd21 ct21 : Value}
    {od22 an22 : Option Addr} {sl22 : Array (Option Value)} {oc22 kV22 dc22 pm22 cd22 ct22 : Value}
    {od23 an23 : Option Addr} {sl23 : Array (Option Value)} {oc23 kV23 dc23 pm23 cd23 ct23 : Value}
    {od24 an24 : Option Addr} {sl24 : Array (Option Value)} {oc24 kV24 dc24 pm24 cd24 ct24 : Value}
    {od25 an25 : Option Addr} {sl25 : Array (Option Value)} {oc25 kV25 dc25 pm25 cd25 ct25 : Value}
    {od26 an26 : Option Addr} {sl26 : Array (Option Value)} {oc26 kV26 dc26 pm26 cd26 ct26 : Value}
    {od27 an27 : Option Addr} {sl27 : Array (Option Value)} {oc27 kV27 dc27 pm27 cd27 ct27 : Value}
    {od28 an28 : Option Addr} {sl28 : Array (Option Value)} {oc28 kV28 dc28 pm28 cd28 ct28 : Value}
    {od29 an29 : Option Addr} {sl29 : Array (Option Value)} {oc29 kV29 dc29 pm29 cd29 ct29 : Value}
    {od30 an30 : Option Addr} {sl30 : Array (Option Value)} {oc30 kV30 dc30 pm30 cd30 ct30 : Value}
    {od31 an31 : Option Addr} {sl31 : Array (Option Value)} {oc31 kV31 dc31 pm31 cd31 ct31 : Value}
    {od32 an32 : Option Addr} {sl32 : Array (Option Value)} {oc32 kV32 dc32 pm32 cd32 ct32 : Value}
    {od33 an33 : Option Addr} {sl33 : Array (Option Value)} {oc33 kV33 dc33 pm33 cd33 ct33 : Value}
    {t_MOST_PLACES t_MOST_STRIPS t_MOST_DATUMS t_MOST_SPOTS_levels t_MOST_READINGS t_MOST_SPOTS_mosaic : Tok}
    (gC0 : PySem.W.nsIn K mainGlobals "Strip" = some (some (.ref C0)))
    (pg0 : PySem.W.plainGet K C0 Str.empty = true)
    (hd0 : PySem.W.hasDictIn K C0 = true)
    (po0 : PySem.W.plainOver K C0 = true)
    (sa0 : PySem.W.findIn K (.ref C0) "__setattr__" = some (some (.builtin "object.__setattr__")))
    (mk0 : PySem.W.makesIn K C0 = true)
    (kc0 : PySem.W.keepIn K (.ref C0) = true)
    (ha0 : PySem.W.findIn K (.ref C0) "__class__" = some (some (.builtin "object.__class__")))
    (hm0 : PySem.W.mroIn K C0 (.type "object") = some true)
    (n0_lines : PySem.W.findIn K (.ref C0) "lines" = some none)
    (gC1 : PySem.W.nsIn K mainGlobals "Levels" = some (some (.ref C1)))
    (pg1 : PySem.W.plainGet K C1 Str.empty = true)
    (hd1 : PySem.W.hasDictIn K C1 = true)
    (po1 : PySem.W.plainOver K C1 = true)
    (sa1 : PySem.W.findIn K (.ref C1) "__setattr__" = some (some (.builtin "object.__setattr__")))
    (mk1 : PySem.W.makesIn K C1 = true)
    (kc1 : PySem.W.keepIn K (.ref C1) = true)
    (ha1 : PySem.W.findIn K (.ref C1) "__class__" = some (some (.builtin "object.__class__")))
    (hm1 : PySem.W.mroIn K C1 (.type "object") = some true)
    (n1_laid : PySem.W.findIn K (.ref C1) "laid" = some none)
    (n1_lies : PySem.W.findIn K (.ref C1) "lies" = some none)
    (n1_spread : PySem.W.findIn K (.ref C1) "spread" = some none)
    (n1_ranges : PySem.W.findIn K (.ref C1) "ranges" = some none)
    (n1_known : PySem.W.findIn K (.ref C1) "known" = some none)
    (n1_readings : PySem.W.findIn K (.ref C1) "readings" = some none)
    (n1_seen : PySem.W.findIn K (.ref C1) "seen" = some none)
    (a0 : PySem.W.nsIn K mainGlobals "is_whole" = some (some (.ref A0)))
    (l0 : K.lookup A0 = some ⟨oc0, od0, .func (PySem.W.fnOf "is_whole" "is_whole" (defArgs s_is_whole) (defBody s_is_whole) (defScope s_is_whole) .none kV0 dc0 pm0 an0 cd0 ct0), sl0⟩)
    (c0 : PySem.W.codeIn K cd0 "is_whole" = true)
    (k0 : PySem.W.keepIn K (.ref A0) = true)
    (a1 : PySem.W.nsIn K mainGlobals "is_spot" = some (some (.ref A1)))
    (l1 : K.lookup A1 = some ⟨oc1, od1, .func (PySem.W.fnOf "is_spot" "is_spot" (defArgs s_is_spot) (defBody s_is_spot) (defScope s_is_spot) .none kV1 dc1 pm1 an1 cd1 ct1), sl1⟩)
    (c1 : PySem.W.codeIn K cd1 "is_spot" = true)
    (k1 : PySem.W.keepIn K (.ref A1) = true)
    (a2 : PySem.W.nsIn K mainGlobals "are_readings" = some (some (.ref A2)))
    (l2 : K.lookup A2 = some ⟨oc2, od2, .func (PySem.W.fnOf "are_readings" "are_readings" (defArgs s_are_readings) (defBody s_are_readings) (defScope s_are_readings) .none kV2 dc2 pm2 an2 cd2 ct2), sl2⟩)
    (c2 : PySem.W.codeIn K cd2 "are_readings" = true)
    (k2 : PySem.W.keepIn K (.ref A2) = true)
    (a3 : PySem.W.findIn K (.ref C0) "__init__" = some (some (.ref A3)))
    (i3 : PySem.W.isFn K (.ref A3) = true)
    (l3 : K.lookup A3 = some ⟨oc3, od3, .func (PySem.W.fnOf "__init__" "Strip.__init__" (defArgs s_Strip___init) (defBody s_Strip___init) (defScope s_Strip___init) .none kV3 dc3 pm3 an3 cd3 ct3), sl3⟩)
    (c3 : PySem.W.codeIn K cd3 "Strip.__init__" = true)
    (k3 : PySem.W.keepIn K (.ref A3) = true)
    (a4 : PySem.W.findIn K (.ref C0) "shape" = some (some (.ref A4)))
    (i4 : PySem.W.isFn K (.ref A4) = true)
    (l4 : K.lookup A4 = some ⟨oc4, od4, .func (PySem.W.fnOf "shape" "Strip.shape" (defArgs s_Strip_shape) (defBody s_Strip_shape) (defScope s_Strip_shape) .none kV4 dc4 pm4 an4 cd4 ct4), sl4⟩)
    (c4 : PySem.W.codeIn K cd4 "Strip.shape" = true)
    (k4 : PySem.W.keepIn K (.ref A4) = true)
    (a5 : PySem.W.findIn K (.ref C0) "rows" = some (some (.ref A5)))
    (i5 : PySem.W.isFn K (.ref A5) = true)
    (l5 : K.lookup A5 = some ⟨oc5, od5, .func (PySem.W.fnOf "rows" "Strip.rows" (defArgs s_Strip_rows) (defBody s_Strip_rows) (defScope s_Strip_rows) .none kV5 dc5 pm5 an5 cd5 ct5), sl5⟩)
    (c5 : PySem.W.codeIn K cd5 "Strip.rows" = true)
    (k5 : PySem.W.keepIn K (.ref A5) = true)
    (a6 : PySem.W.findIn K (.ref C0) "has_cell" = some (some (.ref A6)))
    (i6 : PySem.W.isFn K (.ref A6) = true)
    (l6 : K.lookup A6 = some ⟨oc6, od6, .func (PySem.W.fnOf "has_cell" "Strip.has_cell" (defArgs s_Strip_has_cell) (defBody s_Strip_has_cell) (defScope s_Strip_has_cell) .none kV6 dc6 pm6 an6 cd6 ct6), sl6⟩)
    (c6 : PySem.W.codeIn K cd6 "Strip.has_cell" = true)
    (k6 : PySem.W.keepIn K (.ref A6) = true)
    (a7 : PySem.W.findIn K (.ref C0) "reading" = some (some (.ref A7)))
    (i7 : PySem.W.isFn K (.ref A7) = true)
    (l7 : K.lookup A7 = some ⟨oc7, od7, .func (PySem.W.fnOf "reading" "Strip.reading" (defArgs s_Strip_reading) (defBody s_Strip_reading) (defScope s_Strip_reading) .none kV7 dc7 pm7 an7 cd7 ct7), sl7⟩)
    (c7 : PySem.W.codeIn K cd7 "Strip.reading" = true)
    (k7 : PySem.W.keepIn K (.ref A7) = true)
    (a8 : PySem.W.nsIn K mainGlobals "is_range" = some (some (.ref A8)))
    (l8 : K.lookup A8 = some ⟨oc8, od8, .func (PySem.W.fnOf "is_range" "is_range" (defArgs s_is_range) (defBody s_is_range) (defScope s_is_range) .none kV8 dc8 pm8 an8 cd8 ct8), sl8⟩)
    (c8 : PySem.W.codeIn K cd8 "is_range" = true)
    (k8 : PySem.W.keepIn K (.ref A8) = true)
    (a9 : PySem.W.nsIn K mainGlobals "is_datum" = some (some (.ref A9)))
    (l9 : K.lookup A9 = some ⟨oc9, od9, .func (PySem.W.fnOf "is_datum" "is_datum" (defArgs s_is_datum) (defBody s_is_datum) (defScope s_is_datum) .none kV9 dc9 pm9 an9 cd9 ct9), sl9⟩)
    (c9 : PySem.W.codeIn K cd9 "is_datum" = true)
    (k9 : PySem.W.keepIn K (.ref A9) = true)
    (a10 : PySem.W.nsIn K mainGlobals "check_part" = some (some (.ref A10)))
    (l10 : K.lookup A10 = some ⟨oc10, od10, .func (PySem.W.fnOf "check_part" "check_part" (defArgs s_check_part) (defBody s_check_part) (defScope s_check_part) .none kV10 dc10 pm10 an10 cd10 ct10), sl10⟩)
    (c10 : PySem.W.codeIn K cd10 "check_part" = true)
    (k10 : PySem.W.keepIn K (.ref A10) = true)
    (a11 : PySem.W.nsIn K mainGlobals "is_strip" = some (some (.ref A11)))
    (l11 : K.lookup A11 = some ⟨oc11, od11, .func (PySem.W.fnOf "is_strip" "is_strip" (defArgs s_is_strip) (defBody s_is_strip) (defScope s_is_strip) .none kV11 dc11 pm11 an11 cd11 ct11), sl11⟩)
    (c11 : PySem.W.codeIn K cd11 "is_strip" = true)
    (k11 : PySem.W.keepIn K (.ref A11) = true)
    (a12 : PySem.W.findIn K (.ref C1) "__init__" = some (some (.ref A12)))
    (i12 : PySem.W.isFn K (.ref A12) = true)
    (l12 : K.lookup A12 = some ⟨oc12, od12, .func (PySem.W.fnOf "__init__" "Levels.__init__" (defArgs s_Levels___init) (defBody s_Levels___init) (defScope s_Levels___init) .none kV12 dc12 pm12 an12 cd12 ct12), sl12⟩)
    (c12 : PySem.W.codeIn K cd12 "Levels.__init__" = true)
    (k12 : PySem.W.keepIn K (.ref A12) = true)
    (a13 : PySem.W.findIn K (.ref C1) "all_readings" = some (some (.ref A13)))
    (i13 : PySem.W.isFn K (.ref A13) = true)
    (l13 : K.lookup A13 = some ⟨oc13, od13, .func (PySem.W.fnOf "all_readings" "Levels.all_readings" (defArgs s_Levels_all_readings) (defBody s_Levels_all_readings) (defScope s_Levels_all_readings) .none kV13 dc13 pm13 an13 cd13 ct13), sl13⟩)
    (c13 : PySem.W.codeIn K cd13 "Levels.all_readings" = true)
    (k13 : PySem.W.keepIn K (.ref A13) = true)
    (a14 : PySem.W.findIn K (.ref C1) "strips" = some (some (.ref A14)))
    (i14 : PySem.W.isFn K (.ref A14) = true)
    (l14 : K.lookup A14 = some ⟨oc14, od14, .func (PySem.W.fnOf "strips" "Levels.strips" (defArgs s_Levels_strips) (defBody s_Levels_strips) (defScope s_Levels_strips) .none kV14 dc14 pm14 an14 cd14 ct14), sl14⟩)
    (c14 : PySem.W.codeIn K cd14 "Levels.strips" = true)
    (k14 : PySem.W.keepIn K (.ref A14) = true)
    (a15 : PySem.W.findIn K (.ref C1) "offsets" = some (some (.ref A15)))
    (i15 : PySem.W.isFn K (.ref A15) = true)
    (l15 : K.lookup A15 = some ⟨oc15, od15, .func (PySem.W.fnOf "offsets" "Levels.offsets" (defArgs s_Levels_offsets) (defBody s_Levels_offsets) (defScope s_Levels_offsets) .none kV15 dc15 pm15 an15 cd15 ct15), sl15⟩)
    (c15 : PySem.W.codeIn K cd15 "Levels.offsets" = true)
    (k15 : PySem.W.keepIn K (.ref A15) = true)
    (a16 : PySem.W.nsIn K mainGlobals "check_spot" = some (some (.ref A16)))
    (l16 : K.lookup A16 = some ⟨oc16, od16, .func (PySem.W.fnOf "check_spot" "check_spot" (defArgs s_check_spot) (defBody s_check_spot) (defScope s_check_spot) .none kV16 dc16 pm16 an16 cd16 ct16), sl16⟩)
    (c16 : PySem.W.codeIn K cd16 "check_spot" = true)
    (k16 : PySem.W.keepIn K (.ref A16) = true)
    (a17 : PySem.W.nsIn K mainGlobals "check_window" = some (some (.ref A17)))
    (l17 : K.lookup A17 = some ⟨oc17, od17, .func (PySem.W.fnOf "check_window" "check_window" (defArgs s_check_window) (defBody s_check_window) (defScope s_check_window) .none kV17 dc17 pm17 an17 cd17 ct17), sl17⟩)
    (c17 : PySem.W.codeIn K cd17 "check_window" = true)
    (k17 : PySem.W.keepIn K (.ref A17) = true)
    (a18 : PySem.W.nsIn K mainGlobals "seen_at" = some (some (.ref A18)))
    (l18 : K.lookup A18 = some ⟨oc18, od18, .func (PySem.W.fnOf "seen_at" "seen_at" (defArgs s_seen_at) (defBody s_seen_at) (defScope s_seen_at) .none kV18 dc18 pm18 an18 cd18 ct18), sl18⟩)
    (c18 : PySem.W.codeIn K cd18 "seen_at" = true)
    (k18 : PySem.W.keepIn K (.ref A18) = true)
    (a19 : PySem.W.nsIn K mainGlobals "rim_of" = some (some (.ref A19)))
    (l19 : K.lookup A19 = some ⟨oc19, od19, .func (PySem.W.fnOf "rim_of" "rim_of" (defArgs s_rim_of) (defBody s_rim_of) (defScope s_rim_of) .none kV19 dc19 pm19 an19 cd19 ct19), sl19⟩)
    (c19 : PySem.W.codeIn K cd19 "rim_of" = true)
    (k19 : PySem.W.keepIn K (.ref A19) = true)
    (a20 : PySem.W.nsIn K mainGlobals "taken_at" = some (some (.ref A20)))
    (l20 : K.lookup A20 = some ⟨oc20, od20, .func (PySem.W.fnOf "taken_at" "taken_at" (defArgs s_taken_at) (defBody s_taken_at) (defScope s_taken_at) .none kV20 dc20 pm20 an20 cd20 ct20), sl20⟩)
    (c20 : PySem.W.codeIn K cd20 "taken_at" = true)
    (k20 : PySem.W.keepIn K (.ref A20) = true)
    (a21 : PySem.W.nsIn K mainGlobals "picture" = some (some (.ref A21)))
    (l21 : K.lookup A21 = some ⟨oc21, od21, .func (PySem.W.fnOf "picture" "picture" (defArgs s_picture) (defBody s_picture) (defScope s_picture) .none kV21 dc21 pm21 an21 cd21 ct21), sl21⟩)
    (c21 : PySem.W.codeIn K cd21 "picture" = true)
    (k21 : PySem.W.keepIn K (.ref A21) = true)
    (a22 : PySem.W.nsIn K mainGlobals "_law_source_of" = some (some (.ref A22)))
    (l22 : K.lookup A22 = some ⟨oc22, od22, .func (PySem.W.fnOf "_law_source_of" "_law_source_of" (defArgs s_law_source_of) (defBody s_law_source_of) (defScope s_law_source_of) .none kV22 dc22 pm22 an22 cd22 ct22), sl22⟩)
    (c22 : PySem.W.codeIn K cd22 "_law_source_of" = true)
    (k22 : PySem.W.keepIn K (.ref A22) = true)
    (a23 : PySem.W.nsIn K mainGlobals "_law_next" = some (some (.ref A23)))
    (l23 : K.lookup A23 = some ⟨oc23, od23, .func (PySem.W.fnOf "_law_next" "_law_next" (defArgs s_law_next) (defBody s_law_next) (defScope s_law_next) .none kV23 dc23 pm23 an23 cd23 ct23), sl23⟩)
    (c23 : PySem.W.codeIn K cd23 "_law_next" = true)
    (k23 : PySem.W.keepIn K (.ref A23) = true)
    (a24 : PySem.W.nsIn K mainGlobals "_law_one" = some (some (.ref A24)))
    (l24 : K.lookup A24 = some ⟨oc24, od24, .func (PySem.W.fnOf "_law_one" "_law_one" (defArgs s_law_one) (defBody s_law_one) (defScope s_law_one) .none kV24 dc24 pm24 an24 cd24 ct24), sl24⟩)
    (c24 : PySem.W.codeIn K cd24 "_law_one" = true)
    (k24 : PySem.W.keepIn K (.ref A24) = true)
    (a25 : PySem.W.nsIn K mainGlobals "_law_cell_at" = some (some (.ref A25)))
    (l25 : K.lookup A25 = some ⟨oc25, od25, .func (PySem.W.fnOf "_law_cell_at" "_law_cell_at" (defArgs s_law_cell_at) (defBody s_law_cell_at) (defScope s_law_cell_at) .none kV25 dc25 pm25 an25 cd25 ct25), sl25⟩)
    (c25 : PySem.W.codeIn K cd25 "_law_cell_at" = true)
    (k25 : PySem.W.keepIn K (.ref A25) = true)
    (a26 : PySem.W.nsIn K mainGlobals "_law_levels" = some (some (.ref A26)))
    (l26 : K.lookup A26 = some ⟨oc26, od26, .func (PySem.W.fnOf "_law_levels" "_law_levels" (defArgs s_law_levels) (defBody s_law_levels) (defScope s_law_levels) .none kV26 dc26 pm26 an26 cd26 ct26), sl26⟩)
    (c26 : PySem.W.codeIn K cd26 "_law_levels" = true)
    (k26 : PySem.W.keepIn K (.ref A26) = true)
    (a27 : PySem.W.nsIn K mainGlobals "_law_wide" = some (some (.ref A27)))
    (l27 : K.lookup A27 = some ⟨oc27, od27, .func (PySem.W.fnOf "_law_wide" "_law_wide" (defArgs s_law_wide) (defBody s_law_wide) (defScope s_law_wide) .none kV27 dc27 pm27 an27 cd27 ct27), sl27⟩)
    (c27 : PySem.W.codeIn K cd27 "_law_wide" = true)
    (k27 : PySem.W.keepIn K (.ref A27) = true)
    (a28 : PySem.W.nsIn K mainGlobals "_law_rim" = some (some (.ref A28)))
    (l28 : K.lookup A28 = some ⟨oc28, od28, .func (PySem.W.fnOf "_law_rim" "_law_rim" (defArgs s_law_rim) (defBody s_law_rim) (defScope s_law_rim) .none kV28 dc28 pm28 an28 cd28 ct28), sl28⟩)
    (c28 : PySem.W.codeIn K cd28 "_law_rim" = true)
    (k28 : PySem.W.keepIn K (.ref A28) = true)
    (a29 : PySem.W.nsIn K mainGlobals "_law_cells" = some (some (.ref A29)))
    (l29 : K.lookup A29 = some ⟨oc29, od29, .func (PySem.W.fnOf "_law_cells" "_law_cells" (defArgs s_law_cells) (defBody s_law_cells) (defScope s_law_cells) .none kV29 dc29 pm29 an29 cd29 ct29), sl29⟩)
    (c29 : PySem.W.codeIn K cd29 "_law_cells" = true)
    (k29 : PySem.W.keepIn K (.ref A29) = true)
    (a30 : PySem.W.nsIn K mainGlobals "_law_taken" = some (some (.ref A30)))
    (l30 : K.lookup A30 = some ⟨oc30, od30, .func (PySem.W.fnOf "_law_taken" "_law_taken" (defArgs s_law_taken) (defBody s_law_taken) (defScope s_law_taken) .none kV30 dc30 pm30 an30 cd30 ct30), sl30⟩)
    (c30 : PySem.W.codeIn K cd30 "_law_taken" = true)
    (k30 : PySem.W.keepIn K (.ref A30) = true)
    (a31 : PySem.W.nsIn K mainGlobals "_law_window" = some (some (.ref A31)))
    (l31 : K.lookup A31 = some ⟨oc31, od31, .func (PySem.W.fnOf "_law_window" "_law_window" (defArgs s_law_window) (defBody s_law_window) (defScope s_law_window) .none kV31 dc31 pm31 an31 cd31 ct31), sl31⟩)
    (c31 : PySem.W.codeIn K cd31 "_law_window" = true)
    (k31 : PySem.W.keepIn K (.ref A31) = true)
    (a32 : PySem.W.nsIn K mainGlobals "_law_joined" = some (some (.ref A32)))
    (l32 : K.lookup A32 = some ⟨oc32, od32, .func (PySem.W.fnOf "_law_joined" "_law_joined" (defArgs s_law_joined) (defBody s_law_joined) (defScope s_law_joined) .none kV32 dc32 pm32 an32 cd32 ct32), sl32⟩)
    (c32 : PySem.W.codeIn K cd32 "_law_joined" = true)
    (k32 : PySem.W.keepIn K (.ref A32) = true)
    (a33 : PySem.W.nsIn K mainGlobals "law" = some (some (.ref A33)))
    (l33 : K.lookup A33 = some ⟨oc33, od33, .func (PySem.W.fnOf "law" "law" (defArgs s_law) (defBody s_law) (defScope s_law) .none kV33 dc33 pm33 an33 cd33 ct33), sl33⟩)
    (c33 : PySem.W.codeIn K cd33 "law" = true)
    (k33 : PySem.W.keepIn K (.ref A33) = true)
    (hn : PySem.W.specialIn K (.builtin "object.__class__") "__get__" = some (some (.builtin "getset_descriptor.__get__")))
    (htk : PySem.W.takesIn K (.builtin "object.__class__") = some true)
    (v_MOST_PLACES : PySem.W.nsIn K mainGlobals "MOST_PLACES" = some (some (.int 12 t_MOST_PLACES)))
    (v_MOST_STRIPS : PySem.W.nsIn K mainGlobals "MOST_STRIPS" = some (some (.int 8 t_MOST_STRIPS)))
    (v_MOST_DATUMS : PySem.W.nsIn K mainGlobals "MOST_DATUMS" = some (some (.int 40 t_MOST_DATUMS)))
    (v_MOST_SPOTS_levels : PySem.W.nsIn K mainGlobals "MOST_SPOTS_levels" = some (some (.int 48 t_MOST_SPOTS_levels)))
    (v_MOST_READINGS : PySem.W.nsIn K mainGlobals "MOST_READINGS" = some (some (.int 240 t_MOST_READINGS)))
    (v_MOST_SPOTS_mosaic : PySem.W.nsIn K mainGlobals "MOST_SPOTS_mosaic" = some (some (.int 144 t_MOST_SPOTS_mosaic)))
    (z_isinstance : PySem.W.nsIn K mainGlobals "isinstance" = some none)
    (z_int : PySem.W.nsIn K mainGlobals "int" = some none)
    (z_bool : PySem.W.nsIn K mainGlobals "bool" = some none)
    (z_tuple : PySem.W.nsIn K mainGlobals "tuple" = some none)
    (z_list : PySem.W.nsIn K mainGlobals "list" = some none)
    (z_len : PySem.W.nsIn K mainGlobals "len" = some none)
    (z_all : PySem.W.nsIn K mainGlobals "all" = some none)
    (z_range : PySem.W.nsIn K mainGlobals "range" = some none)
    (z_zip : PySem.W.nsIn K mainGlobals "zip" = some none)
    (z_enumerate : PySem.W.nsIn K mainGlobals "enumerate" = some none)
    (z_set : PySem.W.nsIn K mainGlobals "set" = some none)
    (z_sorted : PySem.W.nsIn K mainGlobals "sorted" = some none)
    (z_min : PySem.W.nsIn K mainGlobals "min" = some none)
    : ∃ fd : FuncData, (∀ (s : Shared) (v : Value), BindsTo s fd ⟨[v], []⟩ [("_law_script", v)]) ∧ ∀ base : Heap, K.In base → base.Ns mainGlobals mg → FnOk l.prog w K mg base CX0 8 fa fd ["_law_script"] (spLaw K) := by
  have e := hfa.symm.trans (PySem.W.mg_of X G a33)
  cases e
  have F0 := fun_mk (st := s_is_whole) l0 c0 k0
  have b0 := F0.binds (ps := ["thing"]) fun _ _ _ _ _ _ us hl => match us, hl with | [_], _ => rfl
  have F1 := fun_mk (st := s_is_spot) l1 c1 k1
  have b1 := F1.binds (ps := ["thing"]) fun _ _ _ _ _ _ us hl => match us, hl with | [_], _ => rfl
  have F2 := fun_mk (st := s_are_readings) l2 c2 k2
  have b2 := F2.binds (ps := ["thing"]) fun _ _ _ _ _ _ us hl => match us, hl with | [_], _ => rfl
  have F3 := fun_mk (st := s_Strip___init) l3 c3 k3
  have b3 := F3.binds (ps := ["self", "rows"]) fun _ _ _ _ _ _ us hl => match us, hl with | [_, _], _ => rfl
  have F4 := fun_mk (st := s_Strip_shape) l4 c4 k4
  have b4 := F4.binds (ps := ["self"]) fun _ _ _ _ _ _ us hl => match us, hl with | [_], _ => rfl
  have F5 := fun_mk (st := s_Strip_rows) l5 c5 k5
  have b5 := F5.binds (ps := ["self"]) fun _ _ _ _ _ _ us hl => match us, hl with | [_], _ => rfl
  have F6 := fun_mk (st := s_Strip_has_cell) l6 c6 k6
  have b6 := F6.binds (ps := ["self", "cell"]) fun _ _ _ _ _ _ us hl => match us, hl with | [_, _], _ => rfl
  have F7 := fun_mk (st := s_Strip_reading) l7 c7 k7
  have b7 := F7.binds (ps := ["self", "cell"]) fun _ _ _ _ _ _ us hl => match us, hl with | [_, _], _ => rfl
  have F8 := fun_mk (st := s_is_range) l8 c8 k8
  have b8 := F8.binds (ps := ["thing"]) fun _ _ _ _ _ _ us hl => match us, hl with | [_], _ => rfl
  have F9 := fun_mk (st := s_is_datum) l9 c9 k9
  have b9 := F9.binds (ps := ["thing"]) fun _ _ _ _ _ _ us hl => match us, hl with | [_], _ => rfl
  have F10 := fun_mk (st := s_check_part) l10 c10 k10
  have b10 := F10.binds (ps := ["part", "thing", "least", "most", "is_one"]) fun _ _ _ _ _ _ us hl => match us, hl with | [_, _, _, _, _], _ => rfl
  have F11 := fun_mk (st := s_is_strip) l11 c11 k11
  have b11 := F11.binds (ps := ["thing"]) fun _ _ _ _ _ _ us hl => match us, hl with | [_], _ => rfl
  have F12 := fun_mk (st := s_Levels___init) l12 c12 k12
  have b12 := F12.binds (ps := ["self", "strips", "offsets", "noise", "biases", "datums"]) fun _ _ _ _ _ _ us hl => match us, hl with | [_, _, _, _, _, _], _ => rfl
  have F13 := fun_mk (st := s_Levels_all_readings) l13 c13 k13
  have b13 := F13.binds (ps := ["self"]) fun _ _ _ _ _ _ us hl => match us, hl with | [_], _ => rfl
  have F14 := fun_mk (st := s_Levels_strips) l14 c14 k14
  have b14 := F14.binds (ps := ["self"]) fun _ _ _ _ _ _ us hl => match us, hl with | [_], _ => rfl
  have F15 := fun_mk (st := s_Levels_offsets) l15 c15 k15
  have b15 := F15.binds (ps := ["self"]) fun _ _ _ _ _ _ us hl => match us, hl with | [_], _ => rfl
  have F16 := fun_mk (st := s_check_spot) l16 c16 k16
  have b16 := F16.binds (ps := ["thing"]) fun _ _ _ _ _ _ us hl => match us, hl with | [_], _ => rfl
  have F17 := fun_mk (st := s_check_window) l17 c17 k17
  have b17 := F17.binds (ps := ["window"]) fun _ _ _ _ _ _ us hl => match us, hl with | [_], _ => rfl
  have F18 := fun_mk (st := s_seen_at) l18 c18 k18
  have b18 := F18.binds (ps := ["levels", "spot"]) fun _ _ _ _ _ _ us hl => match us, hl with | [_, _], _ => rfl
  have F19 := fun_mk (st := s_rim_of) l19 c19 k19
  have b19 := F19.binds (ps := ["strip", "cell"]) fun _ _ _ _ _ _ us hl => match us, hl with | [_, _], _ => rfl
  have F20 := fun_mk (st := s_taken_at) l20 c20 k20
  have b20 := F20.binds (ps := ["levels", "spot"]) fun _ _ _ _ _ _ us hl => match us, hl with | [_, _], _ => rfl
  have F21 := fun_mk (st := s_picture) l21 c21 k21
  have b21 := F21.binds (ps := ["levels", "window"]) fun _ _ _ _ _ _ us hl => match us, hl with | [_, _], _ => rfl
  have F22 := fun_mk (st := s_law_source_of) l22 c22 k22
  have b22 := F22.binds (ps := ["_law_cell"]) fun _ _ _ _ _ _ us hl => match us, hl with | [_], _ => rfl
  have F23 := fun_mk (st := s_law_next) l23 c23 k23
  have b23 := F23.binds (ps := ["_law_source", "_law_many"]) fun _ _ _ _ _ _ us hl => match us, hl with | [_, _], _ => rfl
  have F24 := fun_mk (st := s_law_one) l24 c24 k24
  have b24 := F24.binds (ps := ["_law_source", "_law_some"]) fun _ _ _ _ _ _ us hl => match us, hl with | [_, _], _ => rfl
  have F25 := fun_mk (st := s_law_cell_at) l25 c25 k25
  have b25 := F25.binds (ps := ["_law_script", "_law_k"]) fun _ _ _ _ _ _ us hl => match us, hl with | [_, _], _ => rfl
  have F26 := fun_mk (st := s_law_levels) l26 c26 k26
  have b26 := F26.binds (ps := ["_law_world"]) fun _ _ _ _ _ _ us hl => match us, hl with | [_], _ => rfl
  have F27 := fun_mk (st := s_law_wide) l27 c27 k27
  have b27 := F27.binds (ps := ["_law_source"]) fun _ _ _ _ _ _ us hl => match us, hl with | [_], _ => rfl
  have F28 := fun_mk (st := s_law_rim) l28 c28 k28
  have b28 := F28.binds (ps := ["_law_rows", "_law_cell"]) fun _ _ _ _ _ _ us hl => match us, hl with | [_, _], _ => rfl
  have F29 := fun_mk (st := s_law_cells) l29 c29 k29
  have b29 := F29.binds (ps := ["_law_world", "_law_spot"]) fun _ _ _ _ _ _ us hl => match us, hl with | [_, _], _ => rfl
  have F30 := fun_mk (st := s_law_taken) l30 c30 k30
  have b30 := F30.binds (ps := ["_law_world", "_law_spot"]) fun _ _ _ _ _ _ us hl => match us, hl with | [_, _], _ => rfl
  have F31 := fun_mk (st := s_law_window) l31 c31 k31
  have b31 := F31.binds (ps := ["_law_source", "_law_base"]) fun _ _ _ _ _ _ us hl => match us, hl with | [_, _], _ => rfl
  have F32 := fun_mk (st := s_law_joined) l32 c32 k32
  have b32 := F32.binds (ps := ["_law_world", "_law_window_here"]) fun _ _ _ _ _ _ us hl => match us, hl with | [_, _], _ => rfl
  have F33 := fun_mk (st := s_law) l33 c33 k33
  have b33 := F33.binds (ps := ["_law_script"]) fun _ _ _ _ _ _ us hl => match us, hl with | [_], _ => rfl
  let T : Tp K mg := {
    f_is_whole := A0, fd_is_whole := _, F_is_whole := F0, b_is_whole := b0,
    g_is_whole := PySem.W.mg_of X G a0,
    f_is_spot := A1, fd_is_spot := _, F_is_spot := F1, b_is_spot := b1,
    g_is_spot := PySem.W.mg_of X G a1,
    f_are_readings := A2, fd_are_readings := _, F_are_readings := F2, b_are_readings := b2,
    g_are_readings := PySem.W.mg_of X G a2,
    f_Strip___init := A3, fd_Strip___init := _, F_Strip___init := F3, b_Strip___init := b3,
    f_Strip_shape := A4, fd_Strip_shape := _, F_Strip_shape := F4, b_Strip_shape := b4,
    f_Strip_rows := A5, fd_Strip_rows := _, F_Strip_rows := F5, b_Strip_rows := b5,
    f_Strip_has_cell := A6, fd_Strip_has_cell := _, F_Strip_has_cell := F6, b_Strip_has_cell := b6,
    f_Strip_reading := A7, fd_Strip_reading := _, F_Strip_reading := F7, b_Strip_reading := b7,
    f_is_range := A8, fd_is_range := _, F_is_range := F8, b_is_range := b8,
    g_is_range := PySem.W.mg_of X G a8,
    f_is_datum := A9, fd_is_datum := _, F_is_datum := F9, b_is_datum := b9,
    g_is_datum := PySem.W.mg_of X G a9,
    f_check_part := A10, fd_check_part := _, F_check_part := F10, b_check_part := b10,
    g_check_part := PySem.W.mg_of X G a10,
    f_is_strip := A11, fd_is_strip := _, F_is_strip := F11, b_is_strip := b11,
    g_is_strip := PySem.W.mg_of X G a11,
    f_Levels___init := A12, fd_Levels___init := _, F_Levels___init := F12, b_Levels___init := b12,
    f_Levels_all_readings := A13, fd_Levels_all_readings := _, F_Levels_all_readings := F13, b_Levels_all_readings := b13,
    f_Levels_strips := A14, fd_Levels_strips := _, F_Levels_strips := F14, b_Levels_strips := b14,
    f_Levels_offsets := A15, fd_Levels_offsets := _, F_Levels_offsets := F15, b_Levels_offsets := b15,
    f_check_spot := A16, fd_check_spot := _, F_check_spot := F16, b_check_spot := b16,
    g_check_spot := PySem.W.mg_of X G a16,
    f_check_window := A17, fd_check_window := _, F_check_window := F17, b_check_window := b17,
    g_check_window := PySem.W.mg_of X G a17,
    f_seen_at := A18, fd_seen_at := _, F_seen_at := F18, b_seen_at := b18,
    g_seen_at := PySem.W.mg_of X G a18,
    f_rim_of := A19, fd_rim_of := _, F_rim_of := F19, b_rim_of := b19,
    g_rim_of := PySem.W.mg_of X G a19,
    f_taken_at := A20, fd_taken_at := _, F_taken_at := F20, b_taken_at := b20,
    g_taken_at := PySem.W.mg_of X G a20,
    f_picture := A21, fd_picture := _, F_picture := F21, b_picture := b21,
    g_picture := PySem.W.mg_of X G a21,
    f_law_source_of := A22, fd_law_source_of := _, F_law_source_of := F22, b_law_source_of := b22,
    g_law_source_of := PySem.W.mg_of X G a22,
    f_law_next := A23, fd_law_next := _, F_law_next := F23, b_law_next := b23,
    g_law_next := PySem.W.mg_of X G a23,
    f_law_one := A24, fd_law_one := _, F_law_one := F24, b_law_one := b24,
    g_law_one := PySem.W.mg_of X G a24,
    f_law_cell_at := A25, fd_law_cell_at := _, F_law_cell_at := F25, b_law_cell_at := b25,
    g_law_cell_at := PySem.W.mg_of X G a25,
    f_law_levels := A26, fd_law_levels := _, F_law_levels := F26, b_law_levels := b26,
    g_law_levels := PySem.W.mg_of X G a26,
    f_law_wide := A27, fd_law_wide := _, F_law_wide := F27, b_law_wide := b27,
    g_law_wide := PySem.W.mg_of X G a27,
    f_law_rim := A28, fd_law_rim := _, F_law_rim := F28, b_law_rim := b28,
    g_law_rim := PySem.W.mg_of X G a28,
    f_law_cells := A29, fd_law_cells := _, F_law_cells := F29, b_law_cells := b29,
    g_law_cells := PySem.W.mg_of X G a29,
    f_law_taken := A30, fd_law_taken := _, F_law_taken := F30, b_law_taken := b30,
    g_law_taken := PySem.W.mg_of X G a30,
    f_law_window := A31, fd_law_window := _, F_law_window := F31, b_law_window := b31,
    g_law_window := PySem.W.mg_of X G a31,
    f_law_joined := A32, fd_law_joined := _, F_law_joined := F32, b_law_joined := b32,
    g_law_joined := PySem.W.mg_of X G a32,
    f_law := fa, fd_law := _, F_law := F33, b_law := b33,
    g_law := PySem.W.mg_of X G a33,
    C_Strip := C0, g_Strip := PySem.W.mg_of X G gC0, cl_Strip := ⟨pg0, hd0, po0, sa0⟩, ic_Strip := ⟨⟨pg0, hd0, po0, sa0⟩, ha0, hn, htk, hm0, kit_self⟩,
    mk_Strip := ⟨mk0, a3, i3, kc0⟩,
    n_Strip_lines := n0_lines,
    m_Strip_shape := ⟨a4, i4, k4⟩,
    m_Strip_rows := ⟨a5, i5, k5⟩,
    m_Strip_has_cell := ⟨a6, i6, k6⟩,
    m_Strip_reading := ⟨a7, i7, k7⟩,
    C_Levels := C1, g_Levels := PySem.W.mg_of X G gC1, cl_Levels := ⟨pg1, hd1, po1, sa1⟩, ic_Levels := ⟨⟨pg1, hd1, po1, sa1⟩, ha1, hn, htk, hm1, kit_self⟩,
    mk_Levels := ⟨mk1, a12, i12, kc1⟩,
    n_Levels_laid := n1_laid,
    n_Levels_lies := n1_lies,
    n_Levels_spread := n1_spread,
    n_Levels_ranges := n1_ranges,
    n_Levels_known := n1_known,
    n_Levels_readings := n1_readings,
    n_Levels_seen := n1_seen,
    m_Levels_all_readings := ⟨a13, i13, k13⟩,
    m_Levels_strips := ⟨a14, i14, k14⟩,
    m_Levels_offsets := ⟨a15, i15, k15⟩,
    t_MOST_PLACES := t_MOST_PLACES, g_MOST_PLACES := PySem.W.mg_of X G v_MOST_PLACES,
    t_MOST_STRIPS := t_MOST_STRIPS, g_MOST_STRIPS := PySem.W.mg_of X G v_MOST_STRIPS,
    t_MOST_DATUMS := t_MOST_DATUMS, g_MOST_DATUMS := PySem.W.mg_of X G v_MOST_DATUMS,
    t_MOST_SPOTS_levels := t_MOST_SPOTS_levels, g_MOST_SPOTS_levels := PySem.W.mg_of X G v_MOST_SPOTS_levels,
    t_MOST_READINGS := t_MOST_READINGS, g_MOST_READINGS := PySem.W.mg_of X G v_MOST_READINGS,
    t_MOST_SPOTS_mosaic := t_MOST_SPOTS_mosaic, g_MOST_SPOTS_mosaic := PySem.W.mg_of X G v_MOST_SPOTS_mosaic,
    z_isinstance := PySem.W.mg_none_of X G z_isinstance,
    z_int := PySem.W.mg_none_of X G z_int,
    z_bool := PySem.W.mg_none_of X G z_bool,
    z_tuple := PySem.W.mg_none_of X G z_tuple,
    z_list := PySem.W.mg_none_of X G z_list,
    z_len := PySem.W.mg_none_of X G z_len,
    z_all := PySem.W.mg_none_of X G z_all,
    z_range := PySem.W.mg_none_of X G z_range,
    z_zip := PySem.W.mg_none_of X G z_zip,
    z_enumerate := PySem.W.mg_none_of X G z_enumerate,
    z_set := PySem.W.mg_none_of X G z_set,
    z_sorted := PySem.W.mg_none_of X G z_sorted,
    z_min := PySem.W.mg_none_of X G z_min }
  exact ⟨PySem.W.fnOf "law" "law" (defArgs s_law) (defBody s_law) (defScope s_law) .none kV33 dc33 pm33 an33 cd33 ct33, fun s v => .of_eq rfl, fun base _ _ => ok_law_at T⟩
theorem walk {l : PySem.W.OpenLaw} {q : Program} {loose : List Str} {XP : (Str → Option Value) → Heap → Prop} {YP : World → Heap → Prop} {d : DefRec} {K : Params → PySem.W.Frag} (hn : l.most = some 63) (hdf : d.params.defaults = [])
    (hY : ∀ (w : World) (h : Heap), YP w h → (K w.params).In h)
    (F : ∀ (w : World) (mg : Str → Option Value) (fa : Addr) (h : Heap), (K w.params).In h → h.Ns mainGlobals mg → mg d.name = some (.ref fa) →
      ∃ fd : FuncData, (∀ (s : Shared) (u : Value), BindsTo s fd ⟨[u], []⟩ [("_law_script", u)]) ∧ ∀ base : Heap, (K w.params).In base → base.Ns mainGlobals mg → FnOk l.prog w (K w.params) mg base CX0 8 fa fd ["_law_script"] (spLaw (K w.params))) :
    PySem.W.WalkO q loose XP YP l.row.toRowW d [] (fun f vs => PySem.call f vs) :=
  L2.walk_of (n := 63) (k := 8) (x := "_law_script") (CX := fun _ => CX0) (sp := fun w => spLaw (K w.params)) hn (by decide) hdf ⟨rfl, by decide, by decide⟩ hY F (fun _ _ a ns hl _ hS => ⟨a, ns, rfl, hS, hl, fun _ => rfl⟩) fun _ _ _ _ _ z => z
end Sky
open PySem PySem.W PyProof.Rows Sky
set_option maxRecDepth 100000 in
set_option maxHeartbeats 0 in
theorem PySem.Challenge.cw_skystrips_k81_the_joined_picture_holds : PySem.Challenge.rw_skystrips_k81_the_joined_picture.Holds := by
  w_on; o_law; k_head; (case hw => w_witness2)
  k_fill
  refine Sky.walk (l := PySem.Challenge.rw_skystrips_k81_the_joined_picture) rfl rfl (fun w h Y => PySem.W.kIn_of Y) ?F
  case F =>
    intro w mg fa h KX G hmg
    refine' Sky.all_mk KX G hmg ?gC0 ?pg0 ?hd0 ?po0 ?sa0 ?mk0 ?kc0 ?ha0 ?hm0 ?n0_lines ?gC1 ?pg1 ?hd1 ?po1 ?sa1 ?mk1 ?kc1 ?ha1 ?hm1 ?n1_laid ?n1_lies ?n1_spread ?n1_ranges ?n1_known ?n1_readings ?n1_seen ?a0 ?l0 ?c0 ?k0 ?a1 ?l1 ?c1 ?k1 ?a2 ?l2 ?c2 ?k2 ?a3 ?i3 ?l3 ?c3 ?k3 ?a4 ?i4 ?l4 ?c4 ?k4 ?a5 ?i5 ?l5 ?c5 ?k5 ?a6 ?i6 ?l6 ?c6 ?k6 ?a7 ?i7 ?l7 ?c7 ?k7 ?a8 ?l8 ?c8 ?k8 ?a9 ?l9 ?c9 ?k9 ?a10 ?l10 ?c10 ?k10 ?a11 ?l11 ?c11 ?k11 ?a12 ?i12 ?l12 ?c12 ?k12 ?a13 ?i13 ?l13 ?c13 ?k13 ?a14 ?i14 ?l14 ?c14 ?k14 ?a15 ?i15 ?l15 ?c15 ?k15 ?a16 ?l16 ?c16 ?k16 ?a17 ?l17 ?c17 ?k17 ?a18 ?l18 ?c18 ?k18 ?a19 ?l19 ?c19 ?k19 ?a20 ?l20 ?c20 ?k20 ?a21 ?l21 ?c21 ?k21 ?a22 ?l22 ?c22 ?k22 ?a23 ?l23 ?c23 ?k23 ?a24 ?l24 ?c24 ?k24 ?a25 ?l25 ?c25 ?k25 ?a26 ?l26 ?c26 ?k26 ?a27 ?l27 ?c27 ?k27 ?a28 ?l28 ?c28 ?k28 ?a29 ?l29 ?c29 ?k29 ?a30 ?l30 ?c30 ?k30 ?a31 ?l31 ?c31 ?k31 ?a32 ?l32 ?c32 ?k32 ?a33 ?l33 ?c33 ?k33 ?hn ?htk ?v_MOST_PLACES ?v_MOST_STRIPS ?v_MOST_DATUMS ?v_MOST_SPOTS_levels ?v_MOST_READINGS ?v_MOST_SPOTS_mosaic ?z_isinstance ?z_int ?z_bool ?z_tuple ?z_list ?z_len ?z_all ?z_range ?z_zip ?z_enumerate ?z_set ?z_sorted ?z_min
    (case gC0 => k_is)
    (case pg0 => k_is)
    (case hd0 => k_is)
    (case po0 => k_is)
    (case sa0 => k_is)
    (case mk0 => k_is)
    (case kc0 => k_is)
    (case ha0 => k_is)
    (case hm0 => k_is)
    (case n0_lines => k_is)
    (case gC1 => k_is)
    (case pg1 => k_is)
    (case hd1 => k_is)
    (case po1 => k_is)
    (case sa1 => k_is)
    (case mk1 => k_is)
    (case kc1 => k_is)
    (case ha1 => k_is)
    (case hm1 => k_is)
    (case n1_laid => k_is)
    (case n1_lies => k_is)
    (case n1_spread => k_is)
    (case n1_ranges => k_is)
    (case n1_known => k_is)
    (case n1_readings => k_is)
    (case n1_seen => k_is)
    (case a0 => k_is)
    (case l0 => k_is)
    (case c0 => k_is)
    (case k0 => k_is)
    (case a1 => k_is)
    (case l1 => k_is)
    (case c1 => k_is)
    (case k1 => k_is)
    (case a2 => k_is)
    (case l2 => k_is)
    (case c2 => k_is)
    (case k2 => k_is)
    (case a3 => k_is)
    (case i3 => k_is)
    (case l3 => k_is)
    (case c3 => k_is)
    (case k3 => k_is)
    (case a4 => k_is)
    (case i4 => k_is)
    (case l4 => k_is)
    (case c4 => k_is)
    (case k4 => k_is)
    (case a5 => k_is)
    (case i5 => k_is)
    (case l5 => k_is)
    (case c5 => k_is)
    (case k5 => k_is)
    (case a6 => k_is)
    (case i6 => k_is)
    (case l6 => k_is)
    (case c6 => k_is)
    (case k6 => k_is)
    (case a7 => k_is)
    (case i7 => k_is)
    (case l7 => k_is)
    (case c7 => k_is)
    (case k7 => k_is)
    (case a8 => k_is)
    (case l8 => k_is)
    (case c8 => k_is)
    (case k8 => k_is)
    (case a9 => k_is)
    (case l9 => k_is)
    (case c9 => k_is)
    (case k9 => k_is)
    (case a10 => k_is)
    (case l10 => k_is)
    (case c10 => k_is)
    (case k10 => k_is)
    (case a11 => k_is)
    (case l11 => k_is)
    (case c11 => k_is)
    (case k11 => k_is)
    (case a12 => k_is)
    (case i12 => k_is)
    (case l12 => k_is)
    (case c12 => k_is)
    (case k12 => k_is)
    (case a13 => k_is)
    (case i13 => k_is)
    (case l13 => k_is)
    (case c13 => k_is)
    (case k13 => k_is)
    (case a14 => k_is)
    (case i14 => k_is)
    (case l14 => k_is)
    (case c14 => k_is)
    (case k14 => k_is)
    (case a15 => k_is)
    (case i15 => k_is)
    (case l15 => k_is)
    (case c15 => k_is)
    (case k15 => k_is)
    (case a16 => k_is)
    (case l16 => k_is)
    (case c16 => k_is)
    (case k16 => k_is)
    (case a17 => k_is)
    (case l17 => k_is)
    (case c17 => k_is)
    (case k17 => k_is)
    (case a18 => k_is)
    (case l18 => k_is)
    (case c18 => k_is)
    (case k18 => k_is)
    (case a19 => k_is)
    (case l19 => k_is)
    (case c19 => k_is)
    (case k19 => k_is)
    (case a20 => k_is)
    (case l20 => k_is)
    (case c20 => k_is)
    (case k20 => k_is)
    (case a21 => k_is)
    (case l21 => k_is)
    (case c21 => k_is)
    (case k21 => k_is)
    (case a22 => k_is)
    (case l22 => k_is)
    (case c22 => k_is)
    (case k22 => k_is)
    (case a23 => k_is)
    (case l23 => k_is)
    (case c23 => k_is)
    (case k23 => k_is)
    (case a24 => k_is)
    (case l24 => k_is)
    (case c24 => k_is)
    (case k24 => k_is)
    (case a25 => k_is)
    (case l25 => k_is)
    (case c25 => k_is)
    (case k25 => k_is)
    (case a26 => k_is)
    (case l26 => k_is)
    (case c26 => k_is)
    (case k26 => k_is)
    (case a27 => k_is)
    (case l27 => k_is)
    (case c27 => k_is)
    (case k27 => k_is)
    (case a28 => k_is)
    (case l28 => k_is)
    (case c28 => k_is)
    (case k28 => k_is)
    (case a29 => k_is)
    (case l29 => k_is)
    (case c29 => k_is)
    (case k29 => k_is)
    (case a30 => k_is)
    (case l30 => k_is)
    (case c30 => k_is)
    (case k30 => k_is)
    (case a31 => k_is)
    (case l31 => k_is)
    (case c31 => k_is)
    (case k31 => k_is)
    (case a32 => k_is)
    (case l32 => k_is)
    (case c32 => k_is)
    (case k32 => k_is)
    (case a33 => k_is)
    (case l33 => k_is)
    (case c33 => k_is)
    (case k33 => k_is)
    (case hn => k_is)
    (case htk => k_is)
    (case v_MOST_PLACES => k_is)
    (case v_MOST_STRIPS => k_is)
    (case v_MOST_DATUMS => k_is)
    (case v_MOST_SPOTS_levels => k_is)
    (case v_MOST_READINGS => k_is)
    (case v_MOST_SPOTS_mosaic => k_is)
    (case z_isinstance => k_is)
    (case z_int => k_is)
    (case z_bool => k_is)
    (case z_tuple => k_is)
    (case z_list => k_is)
    (case z_len => k_is)
    (case z_all => k_is)
    (case z_range => k_is)
    (case z_zip => k_is)
    (case z_enumerate => k_is)
    (case z_set => k_is)
    (case z_sorted => k_is)
    (case z_min => k_is)
