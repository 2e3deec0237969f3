import PyProof.Rows.All
import Wide.All
import OpenK.AllK
import Wide.FinOn
import KE.KStateDown
import Lean
import HandS.Base
import HandS.Call
import HandS.Ends
import HandS.More
import HandS.Words
import HandS.WordsExc
import HandS.Defaults
import HandS.Head0
import HandS.Head1
import HandS.Head2
import HandS.HeadEnd
import HandS.HeadHook1
import HandS.HeadHook2
import HandS.ForMost
import HandS.Evl
import HandS.IsInst
import HandS.Deep
import HandS.StrMore
import HandS.Style
import HandS.Walk
import HandS.SortOrd
import HandS.SortRule
import HandS.ReplaceLit
import HandS.ReplaceList
import HandS.SetTxtIn
import HandS.Strs
import HandS.SetFor
import HandS.TupSets
import PySem.Challenge.RW_doorwalk_k04_whole_out
set_option Elab.async false
set_option linter.all false
set_option maxRecDepth 100000
set_option maxHeartbeats 0
namespace DWL
open PySem PySem.Spec PyProof.Rows L2 Evl
/-! ### what does not change: numbers, truths, texts, tuples of such -/
mutual
inductive Im (K : PySem.W.Frag) (H : Hp) : V → PyData → Prop
  | non : Im K H .non .none
  | bl (b : Bool) : Im K H (.bl b) (.bool b)
  | int (i : Int) : Im K H (.int i) (.int i)
  | str (x : Str) : Im K H (.str x) (.str x)
  | tup {a : Addr} {xs : List V} {ds : List PyData} : SqT K H a xs → ImAll K H xs ds → Im K H (.ref a) (.tuple ds)
inductive ImAll (K : PySem.W.Frag) (H : Hp) : List V → List PyData → Prop
  | nil : ImAll K H [] []
  | cons {v : V} {vs : List V} {d : PyData} {ds : List PyData} : Im K H v d → ImAll K H vs ds → ImAll K H (v :: vs) (d :: ds)
end
section
variable {K : PySem.W.Frag} {H H' H1 : Hp}
mutual
theorem Im.carry (t : ∀ a xs, SqT K H a xs → SqT K H' a xs) : ∀ (d : PyData) (v : V), Im K H v d → Im K H' v d
  | .none, _, h => by cases h; exact .non
  | .bool b, _, h => by cases h; exact .bl b
  | .int i, _, h => by cases h; exact .int i
  | .str x, _, h => by cases h; exact .str x
  | .tuple ds, _, h => by
    cases h with
    | tup hs ha => exact .tup (t _ _ hs) (ImAll.carry t ds _ ha)
  | .list _, _, h => by cases h
  | .dict _, _, h => by cases h
theorem ImAll.carry (t : ∀ a xs, SqT K H a xs → SqT K H' a xs) : ∀ (ds : List PyData) (vs : List V), ImAll K H vs ds → ImAll K H' vs ds
  | [], _, h => by cases h; exact .nil
  | d :: ds, _, h => by
    cases h with
    | cons h1 h2 => exact .cons (Im.carry t d _ h1) (ImAll.carry t ds _ h2)
end
mutual
theorem Im.dp : ∀ (d : PyData) (v : V), Im K H v d → Dp K H v d
  | .none, _, h => by cases h; exact .non
  | .bool b, _, h => by cases h; exact .bl b
  | .int i, _, h => by cases h; exact .int i
  | .str x, _, h => by cases h; exact .str x
  | .tuple ds, _, h => by
    cases h with
    | tup hs ha => exact .tup hs (ImAll.dp ds _ ha)
  | .list _, _, h => by cases h
  | .dict _, _, h => by cases h
theorem ImAll.dp : ∀ (ds : List PyData) (vs : List V), ImAll K H vs ds → DpAll K H vs ds
  | [], _, h => by cases h; exact .nil
  | d :: ds, _, h => by
    cases h with
    | cons h1 h2 => exact .cons (Im.dp d _ h1) (ImAll.dp ds _ h2)
end
theorem Im.mono {d : PyData} {v : V} (e : Ex H H') (h : Im K H v d) : Im K H' v d := Im.carry (fun _ _ q => ex_t e q) d v h
theorem ImAll.mono {ds : List PyData} {vs : List V} (e : Ex H H') (h : ImAll K H vs ds) : ImAll K H' vs ds := ImAll.carry (fun _ _ q => ex_t e q) ds vs h
/-- a list is written: no tuple is touched -/
theorem sqT_wr {a l : Addr} {xs ys : List V} {o : HO} (hl : H l = some (.lst ys)) (h : SqT K H a xs) : SqT K (upd H l o) a xs := by
  rcases h with (h | ⟨ob, h⟩) | h
  · exact .inl (.inl (by rw [upd_ne (ne_of h hl (by intro z; cases z))]; exact h))
  · exact .inl (.inr ⟨ob, by rw [upd_ne (ne_of h hl (by intro z; cases z))]; exact h⟩)
  · exact .inr h
theorem Im.wr {d : PyData} {v : V} {l : Addr} {ys : List V} {o : HO} (hl : H l = some (.lst ys)) (h : Im K H v d) : Im K (upd H l o) v d := Im.carry (fun _ _ q => sqT_wr hl q) d v h
theorem ImAll.wr {ds : List PyData} {vs : List V} {l : Addr} {ys : List V} {o : HO} (hl : H l = some (.lst ys)) (h : ImAll K H vs ds) : ImAll K (upd H l o) vs ds := ImAll.carry (fun _ _ q => sqT_wr hl q) ds vs h
theorem ImAll.length {ds : List PyData} {vs : List V} (h : ImAll K H vs ds) : vs.length = ds.length := by
  induction ds generalizing vs with
  | nil => cases h; rfl
  | cons d ds ih => cases h with
    | cons h1 h2 => rw [List.length_cons, List.length_cons, ih h2]
theorem ImAll.append {ds es : List PyData} {vs ws : List V} (h : ImAll K H vs ds) (g : ImAll K H ws es) : ImAll K H (vs ++ ws) (ds ++ es) := by
  induction ds generalizing vs with
  | nil => cases h; exact g
  | cons d ds ih => cases h with
    | cons h1 h2 => exact .cons h1 (ih h2)
theorem ImAll.snoc {ds : List PyData} {vs : List V} {d : PyData} {v : V} (h : ImAll K H vs ds) (g : Im K H v d) : ImAll K H (vs ++ [v]) (ds ++ [d]) := h.append (.cons g .nil)
theorem ImAll.get {ds : List PyData} {vs : List V} (h : ImAll K H vs ds) {i : Nat} {d : PyData} (e : ds[i]? = some d) : ∃ v, vs[i]? = some v ∧ Im K H v d := by
  induction ds generalizing vs i with
  | nil => simp at e
  | cons d' ds ih => cases h with
    | cons h1 h2 => cases i with
      | zero => simp at e; subst e; exact ⟨_, rfl, h1⟩
      | succ i => simpa using ih h2 (by simpa using e)
theorem ImAll.getV {ds : List PyData} {vs : List V} (h : ImAll K H vs ds) {i : Nat} {v : V} (e : vs[i]? = some v) : ∃ d, ds[i]? = some d ∧ Im K H v d := by
  have hl := h.length
  have hi : i < vs.length := (List.getElem?_eq_some_iff.mp e).1
  obtain ⟨u, e1, e2⟩ := h.get (d := ds[i]'(by omega)) (List.getElem?_eq_getElem (by omega))
  rw [e] at e1; cases e1
  exact ⟨_, List.getElem?_eq_getElem (by omega), e2⟩
theorem ImAll.take {ds : List PyData} {vs : List V} (h : ImAll K H vs ds) (n : Nat) : ImAll K H (vs.take n) (ds.take n) := by
  induction n generalizing ds vs with
  | zero => exact .nil
  | succ n ih => cases h with
    | nil => exact .nil
    | cons h1 h2 => exact .cons h1 (ih h2)
theorem ImAll.drop {ds : List PyData} {vs : List V} (h : ImAll K H vs ds) (n : Nat) : ImAll K H (vs.drop n) (ds.drop n) := by
  induction n generalizing ds vs with
  | zero => exact h
  | succ n ih => cases h with
    | nil => exact .nil
    | cons h1 h2 => exact ih h2
theorem ImAll.set {ds : List PyData} {vs : List V} (h : ImAll K H vs ds) (i : Nat) {d : PyData} {v : V} (g : Im K H v d) : ImAll K H (vs.set i v) (ds.set i d) := by
  induction i generalizing ds vs with
  | zero => cases h with
    | nil => exact .nil
    | cons h1 h2 => exact .cons g h2
  | succ n ih => cases h with
    | nil => exact .nil
    | cons h1 h2 => exact .cons h1 (ih h2)
theorem ImAll.ints (H : Hp) : ∀ ns : List Int, ImAll K H (ns.map V.int) (ns.map PyData.int)
  | [] => .nil
  | n :: ns => .cons (.int n) (ImAll.ints H ns)
theorem ImAll.strs (H : Hp) : ∀ ns : List Str, ImAll K H (ns.map V.str) (ns.map PyData.str)
  | [] => .nil
  | n :: ns => .cons (.str n) (ImAll.strs H ns)
theorem ImAll.bls (H : Hp) : ∀ ns : List Bool, ImAll K H (ns.map V.bl) (ns.map PyData.bool)
  | [] => .nil
  | n :: ns => .cons (.bl n) (ImAll.bls H ns)
theorem ints_back : ∀ {ns : List Int} {vs : List V}, ImAll K H vs (ns.map PyData.int) → vs = ns.map V.int
  | [], _, h => by cases h; rfl
  | n :: ns, _, h => by
    cases h with
    | cons h1 h2 => cases h1; rw [ints_back h2]; rfl
theorem strs_back : ∀ {ns : List Str} {vs : List V}, ImAll K H vs (ns.map PyData.str) → vs = ns.map V.str
  | [], _, h => by cases h; rfl
  | n :: ns, _, h => by
    cases h with
    | cons h1 h2 => cases h1; rw [strs_back h2]; rfl
theorem bls_back : ∀ {ns : List Bool} {vs : List V}, ImAll K H vs (ns.map PyData.bool) → vs = ns.map V.bl
  | [], _, h => by cases h; rfl
  | n :: ns, _, h => by
    cases h with
    | cons h1 h2 => cases h1; rw [bls_back h2]; rfl
theorem Im.tup_inv {v : V} {ds : List PyData} (h : Im K H v (.tuple ds)) : ∃ a xs, v = .ref a ∧ SqT K H a xs ∧ ImAll K H xs ds := by
  cases h with
  | tup hs ha => exact ⟨_, _, rfl, hs, ha⟩
/-- a list of such, to be read -/
def Ls (K : PySem.W.Frag) (H : Hp) (v : V) (ds : List PyData) : Prop := ∃ a xs, v = .ref a ∧ SqL K H a xs ∧ ImAll K H xs ds
/-- .. tracked -/
def Lm (K : PySem.W.Frag) (H : Hp) (v : V) (ds : List PyData) : Prop := ∃ a xs, v = .ref a ∧ H a = some (.lst xs) ∧ ImAll K H xs ds
theorem Ls.mono {v : V} {ds : List PyData} (e : Ex H H') (h : Ls K H v ds) : Ls K H' v ds := by
  obtain ⟨a, xs, h1, h2, h3⟩ := h
  exact ⟨a, xs, h1, ex_l e h2, h3.mono e⟩
theorem Lm.mono {v : V} {ds : List PyData} (e : Ex H H') (h : Lm K H v ds) : Lm K H' v ds := by
  obtain ⟨a, xs, h1, h2, h3⟩ := h
  exact ⟨a, xs, h1, e _ _ h2, h3.mono e⟩
theorem Lm.ls {v : V} {ds : List PyData} (h : Lm K H v ds) : Ls K H v ds := by
  obtain ⟨a, xs, h1, h2, h3⟩ := h
  exact ⟨a, xs, h1, sq_of h2, h3⟩
theorem Ls.dp {v : V} {ds : List PyData} (h : Ls K H v ds) : Dp K H v (.list ds) := by
  obtain ⟨a, xs, h1, h2, h3⟩ := h
  subst h1
  exact .lst h2 (ImAll.dp _ _ h3)

/-! ### what evaluates to what -/
def EvX (te : TE) (σ : L2.St) (H : Hp) (R : V → Hp → Prop) : Prop := ∀ H1, Ex H H1 → ∀ Q : VK, (∀ v H2, Ex H1 H2 → R v H2 → Q v H2) → te σ H1 Q
abbrev EvI (K : PySem.W.Frag) (te : TE) (σ : L2.St) (H : Hp) (d : PyData) : Prop := EvX te σ H fun v H2 => Im K H2 v d
abbrev EvK (K : PySem.W.Frag) (te : TE) (σ : L2.St) (H : Hp) (ds : List PyData) : Prop := EvX te σ H fun v H2 => Ls K H2 v ds
abbrev EvM (K : PySem.W.Frag) (te : TE) (σ : L2.St) (H : Hp) (ds : List PyData) : Prop := EvX te σ H fun v H2 => Lm K H2 v ds
abbrev EvD (K : PySem.W.Frag) (te : TE) (σ : L2.St) (H : Hp) (d : PyData) : Prop := EvX te σ H fun v H2 => Dp K H2 v d
abbrev EvV (te : TE) (σ : L2.St) (H : Hp) (v : V) : Prop := EvX te σ H fun u _ => u = v
/-- a new list -/
def EvN (K : PySem.W.Frag) (te : TE) (σ : L2.St) (H : Hp) (ds : List PyData) : Prop := ∀ H1, Ex H H1 → ∀ Q : VK, (∀ p xs H2, H1 p = none → Ex H1 H2 → H2 p = some (.lst xs) → ImAll K H2 xs ds → Q (.ref p) H2) → te σ H1 Q
/-- arguments -/
def EvAI (K : PySem.W.Frag) (ta : TA) (σ : L2.St) (H : Hp) (ds : List PyData) : Prop := ∀ H1, Ex H H1 → ∀ Q : List V → Hp → Prop, (∀ vs H2, Ex H1 H2 → ImAll K H2 vs ds → Q vs H2) → ta σ H1 Q
abbrev Mon (R : V → Hp → Prop) : Prop := ∀ v H1 H2, Ex H1 H2 → R v H1 → R v H2
end
section
variable {K : PySem.W.Frag} {σ : L2.St} {H H' : Hp} {ta tb tc te tx : TE} {t u : TT} {x y z v : V} {r : R2} {R S : V → Hp → Prop} {d e : PyData} {ds es : List PyData}
theorem EvX.mono (e : Ex H H') (h : EvX te σ H R) : EvX te σ H' R := fun H1 a Q q => h H1 (e.trans a) Q q
theorem EvX.imp (h : EvX te σ H R) (g : ∀ v H1, R v H1 → S v H1) : EvX te σ H S := fun H1 a Q q => h H1 a Q fun v H2 e2 r => q v H2 e2 (g v H2 r)
theorem EvN.mono (e : Ex H H') (h : EvN K te σ H ds) : EvN K te σ H' ds := fun H1 a Q q => h H1 (e.trans a) Q q
theorem EvN.m (h : EvN K te σ H ds) : EvM K te σ H ds := fun H1 a Q q => h H1 a Q fun p xs H2 _ e2 h1 h2 => q _ H2 e2 ⟨p, xs, rfl, h1, h2⟩
theorem EvX.k (h : EvM K te σ H ds) : EvK K te σ H ds := EvX.imp h fun _ _ g => g.ls
theorem EvN.k (h : EvN K te σ H ds) : EvK K te σ H ds := EvX.k h.m
theorem EvN.toD (h : EvN K te σ H ds) : EvD K te σ H (.list ds) := EvX.imp h.k fun _ _ g => g.dp
theorem EvI.toD (h : EvI K te σ H d) : EvD K te σ H d := EvX.imp h fun _ _ g => Im.dp _ _ g
theorem EvK.toD (h : EvK K te σ H ds) : EvD K te σ H (.list ds) := EvX.imp h fun _ _ g => g.dp
theorem EvI.to (h : EvI K te σ H d) (e : d = e') : EvI K te σ H e' := e ▸ h
theorem EvN.to (h : EvN K te σ H ds) (e : ds = es) : EvN K te σ H es := e ▸ h
theorem EvI.ev {i : Int} (h : EvI K te σ H (.int i)) : Ev te σ H (.int i) := fun H1 e Q q => h H1 e Q fun v H2 e2 g => by cases g; exact q H2 e2
theorem ev_ei (h : Ev te σ H v) (hv : ∀ H1, Ex H H1 → Im K H1 v d) : EvI K te σ H d := fun H1 e Q q => h H1 e Q fun H2 e2 => q v H2 e2 (hv H2 (e.trans e2))
theorem mI : Mon fun v H2 => Im K H2 v d := fun _ _ _ e h => h.mono e
theorem mK : Mon fun v H2 => Ls K H2 v ds := fun _ _ _ e h => h.mono e
theorem mM : Mon fun v H2 => Lm K H2 v ds := fun _ _ _ e h => h.mono e
theorem mV : Mon fun u _ => u = v := fun _ _ _ _ h => h
theorem dp_mono {K : PySem.W.Frag} {H H' : Hp} (ee : Ex H H') : (∀ (v : V) (d : PyData), Dp K H v d → Dp K H' v d) ∧ (∀ (vs : List V) (ds : List PyData), DpAll K H vs ds → DpAll K H' vs ds) := by
  constructor
  · intro v d h
    exact Dp.rec (motive_1 := fun v d _ => Dp K H' v d) (motive_2 := fun vs ds _ => DpAll K H' vs ds) .non .bl .int .str (fun s _ q => .lst (ex_l ee s) q) (fun s _ q => .tup (ex_t ee s) q) .nil (fun _ _ a b => .cons a b) h
  · intro vs ds h
    exact DpAll.rec (motive_1 := fun v d _ => Dp K H' v d) (motive_2 := fun vs ds _ => DpAll K H' vs ds) .non .bl .int .str (fun s _ q => .lst (ex_l ee s) q) (fun s _ q => .tup (ex_t ee s) q) .nil (fun _ _ a b => .cons a b) h
theorem mD : Mon fun v H2 => Dp K H2 v d := fun _ _ _ e h => (dp_mono e).1 _ _ h
/-! names, constants -/
theorem ex_var {i : Nat} (h : σ[i]? = some (some v)) (hv : ∀ H1, Ex H H1 → R v H1) : EvX (tVar i) σ H R := fun H1 e _ q => ⟨v, h, q v H1 (Ex.refl H1) (hv H1 e)⟩
theorem ei_var {i : Nat} (h : σ[i]? = some (some v)) (hv : Im K H v d) : EvI K (tVar i) σ H d := ex_var h fun _ e => hv.mono e
theorem ek_var {i : Nat} (h : σ[i]? = some (some v)) (hv : Ls K H v ds) : EvK K (tVar i) σ H ds := ex_var h fun _ e => hv.mono e
theorem em_var {i : Nat} (h : σ[i]? = some (some v)) (hv : Lm K H v ds) : EvM K (tVar i) σ H ds := ex_var h fun _ e => hv.mono e
theorem evv_var {i : Nat} (h : σ[i]? = some (some v)) : EvV (tVar i) σ H v := ex_var h fun _ _ => rfl
theorem ei_c (h : ∀ H, Im K H v d) : EvI K (tC v) σ H d := fun H1 _ _ q => q v H1 (Ex.refl H1) (h H1)
theorem ei_int {i : Int} : EvI K (tC (.int i)) σ H (.int i) := ei_c fun _ => .int i
theorem ei_str {s : Str} : EvI K (tC (.str s)) σ H (.str s) := ei_c fun _ => .str s
theorem ei_bl {b : Bool} : EvI K (tC (.bl b)) σ H (.bool b) := ei_c fun _ => .bl b
theorem ei_non : EvI K (tC .non) σ H .none := ei_c fun _ => .non
theorem evv_c : EvV (tC v) σ H v := fun H1 _ _ q => q v H1 (Ex.refl H1) rfl
/-! operators -/
theorem ex_op (ha : EvX ta σ H R) (ma : Mon R) (hb : EvX tb σ H S) {T : V → Hp → Prop} (hr : ∀ x y H1, Ex H H1 → R x H1 → S y H1 → ∀ Q : VK, (∀ v H2, Ex H1 H2 → T v H2 → Q v H2) → r x y H1 Q) : EvX (tOp r ta tb) σ H T := fun H1 e Q q =>
  ha H1 e _ fun x H2 e2 r1 => hb H2 (e.trans e2) _ fun y H3 e3 r2 => hr x y H3 ((e.trans e2).trans e3) (ma _ _ _ e3 r1) r2 Q fun v H4 e4 r3 => q v H4 ((e2.trans e3).trans e4) r3
theorem ei_I0 {g : Int → Int → V} {i j : Int} (ha : EvI K ta σ H (.int i)) (hb : EvI K tb σ H (.int j)) (hd : ∀ H, Im K H (g i j) d) : EvI K (tOp (rI0 g) ta tb) σ H d :=
  ex_op ha mI hb fun x y H1 _ r1 r2 Q q => by cases r1; cases r2; exact ⟨i, j, rfl, rfl, q _ H1 (Ex.refl H1) (hd H1)⟩
theorem ei_I0i {f : Int → Int → Int} {i j : Int} (ha : EvI K ta σ H (.int i)) (hb : EvI K tb σ H (.int j)) : EvI K (tOp (rI0 fun i j => .int (f i j)) ta tb) σ H (.int (f i j)) := ei_I0 ha hb fun _ => .int _
theorem ei_I0b {f : Int → Int → Bool} {i j : Int} (ha : EvI K ta σ H (.int i)) (hb : EvI K tb σ H (.int j)) : EvI K (tOp (rI0 fun i j => .bl (f i j)) ta tb) σ H (.bool (f i j)) := ei_I0 ha hb fun _ => .bl _
theorem ei_Ii {C : Int → Int → Prop} {f : Int → Int → Int} {i j : Int} (ha : EvI K ta σ H (.int i)) (hb : EvI K tb σ H (.int j)) (hc : C i j) : EvI K (tOp (rI C fun i j => .int (f i j)) ta tb) σ H (.int (f i j)) :=
  ex_op ha mI hb fun x y H1 _ r1 r2 Q q => by cases r1; cases r2; exact ⟨i, j, rfl, rfl, hc, q _ H1 (Ex.refl H1) (.int _)⟩
theorem ei_neg {i : Int} (ha : EvI K ta σ H (.int i)) : EvI K (tUn (rU fun i => .int (-i)) ta) σ H (.int (-i)) := fun H1 e Q q => ha H1 e _ fun x H2 e2 r1 => by cases r1; exact ⟨i, rfl, q _ H2 e2 (.int _)⟩
theorem ei_eqI {i j : Int} (ha : EvI K ta σ H (.int i)) (hb : EvI K tb σ H (.int j)) : EvI K (tOp rEq ta tb) σ H (.bool (decide (i = j))) :=
  ex_op ha mI hb fun x y H1 _ r1 r2 Q q => by
    cases r1; cases r2
    refine ⟨rfl, q _ H1 (Ex.refl H1) ?_⟩
    have : decide (V.int i = V.int j) = decide (i = j) := by simp
    rw [this]; exact .bl _
theorem ei_neI {i j : Int} (ha : EvI K ta σ H (.int i)) (hb : EvI K tb σ H (.int j)) : EvI K (tOp rNe ta tb) σ H (.bool (!decide (i = j))) :=
  ex_op ha mI hb fun x y H1 _ r1 r2 Q q => by
    cases r1; cases r2
    refine ⟨rfl, q _ H1 (Ex.refl H1) ?_⟩
    have : decide (V.int i = V.int j) = decide (i = j) := by simp
    rw [this]; exact .bl _
theorem ei_eqS {i j : Str} (ha : EvI K ta σ H (.str i)) (hb : EvI K tb σ H (.str j)) : EvI K (tOp rEq ta tb) σ H (.bool (decide (i = j))) :=
  ex_op ha mI hb fun x y H1 _ r1 r2 Q q => by
    cases r1; cases r2
    refine ⟨rfl, q _ H1 (Ex.refl H1) ?_⟩
    have : decide (V.str i = V.str j) = decide (i = j) := by simp
    rw [this]; exact .bl _
theorem ei_neS {i j : Str} (ha : EvI K ta σ H (.str i)) (hb : EvI K tb σ H (.str j)) : EvI K (tOp rNe ta tb) σ H (.bool (!decide (i = j))) :=
  ex_op ha mI hb fun x y H1 _ r1 r2 Q q => by
    cases r1; cases r2
    refine ⟨rfl, q _ H1 (Ex.refl H1) ?_⟩
    have : decide (V.str i = V.str j) = decide (i = j) := by simp
    rw [this]; exact .bl _
theorem ei_eqB {i j : Bool} (ha : EvI K ta σ H (.bool i)) (hb : EvI K tb σ H (.bool j)) : EvI K (tOp rEq ta tb) σ H (.bool (decide (i = j))) :=
  ex_op ha mI hb fun x y H1 _ r1 r2 Q q => by
    cases r1; cases r2
    refine ⟨rfl, q _ H1 (Ex.refl H1) ?_⟩
    have : decide (V.bl i = V.bl j) = decide (i = j) := by simp
    rw [this]; exact .bl _
theorem ei_neB {i j : Bool} (ha : EvI K ta σ H (.bool i)) (hb : EvI K tb σ H (.bool j)) : EvI K (tOp rNe ta tb) σ H (.bool (!decide (i = j))) :=
  ex_op ha mI hb fun x y H1 _ r1 r2 Q q => by
    cases r1; cases r2
    refine ⟨rfl, q _ H1 (Ex.refl H1) ?_⟩
    have : decide (V.bl i = V.bl j) = decide (i = j) := by simp
    rw [this]; exact .bl _
theorem ei_addS {i j : Str} (ha : EvI K ta σ H (.str i)) (hb : EvI K tb σ H (.str j)) (hl : i.length + j.length ≤ 100000) : EvI K (tOp (fun x y H Q => ∃ i j, x = .str i ∧ y = .str j ∧ i.length + j.length ≤ sizeLine ∧ Q (.str (i ++ j)) H) ta tb) σ H (.str (i ++ j)) :=
  ex_op ha mI hb fun x y H1 _ r1 r2 Q q => by cases r1; cases r2; exact ⟨i, j, rfl, rfl, sz_of hl, q _ H1 (Ex.refl H1) (.str _)⟩
theorem ei_eqD (ha : EvD K ta σ H d) (hb : EvD K tb σ H e) (hd : SeqAt.shaped d = true) (he : SeqAt.shaped e = true) : EvI K (tOp (rEqD K) ta tb) σ H (.bool (PyData.eqv d e)) :=
  ex_op ha mD hb fun x y H1 _ r1 r2 Q q => ⟨d, e, r1, r2, hd, he, q _ H1 (Ex.refl H1) (.bl _)⟩
theorem ei_neD (ha : EvD K ta σ H d) (hb : EvD K tb σ H e) (hd : SeqAt.shaped d = true) (he : SeqAt.shaped e = true) : EvI K (tOp (rNeD K) ta tb) σ H (.bool (!PyData.eqv d e)) :=
  ex_op ha mD hb fun x y H1 _ r1 r2 Q q => ⟨d, e, r1, r2, hd, he, q _ H1 (Ex.refl H1) (.bl _)⟩
/-- the two are one -/
theorem ei_neD0 (ha : EvD K ta σ H d) (hb : EvD K tb σ H d) (hd : SeqAt.shaped d = true) : EvI K (tOp (rNeD K) ta tb) σ H (.bool false) :=
  EvI.to (ei_neD ha hb hd hd) (by rw [SeqAt.eqv_refl d (SeqAt.canLay_of_shaped hd)]; rfl)
theorem ei_eqD1 (ha : EvD K ta σ H d) (hb : EvD K tb σ H d) (hd : SeqAt.shaped d = true) : EvI K (tOp (rEqD K) ta tb) σ H (.bool true) :=
  EvI.to (ei_eqD ha hb hd hd) (by rw [SeqAt.eqv_refl d (SeqAt.canLay_of_shaped hd)])
theorem ei_ixK {i : Int} (ha : EvK K ta σ H ds) (hb : EvI K tb σ H (.int i)) (h : atI ds i = some d) : EvI K (tOp (rIxL K) ta tb) σ H d :=
  ex_op ha mK hb fun x y H1 _ r1 r2 Q q => by
    cases r2
    obtain ⟨a, xs, rfl, h1, h2⟩ := r1
    have hl := h2.length
    unfold atI at h
    cases hk : ixN ds.length i with
    | none => rw [hk] at h; cases h
    | some j =>
      rw [hk] at h
      obtain ⟨w, e1, e2⟩ := h2.get (show ds[j]? = some d from h)
      exact ⟨a, xs, i, w, rfl, rfl, h1, by unfold atI; rw [hl, hk]; exact e1, q w H1 (Ex.refl H1) e2⟩
theorem ei_ixT {i : Int} (ha : EvI K ta σ H (.tuple ds)) (hb : EvI K tb σ H (.int i)) (h : atI ds i = some d) : EvI K (tOp (rIxT K) ta tb) σ H d :=
  ex_op ha mI hb fun x y H1 _ r1 r2 Q q => by
    cases r2
    obtain ⟨a, xs, rfl, h1, h2⟩ := r1.tup_inv
    have hl := h2.length
    unfold atI at h
    cases hk : ixN ds.length i with
    | none => rw [hk] at h; cases h
    | some j =>
      rw [hk] at h
      obtain ⟨w, e1, e2⟩ := h2.get (show ds[j]? = some d from h)
      exact ⟨a, xs, i, w, rfl, rfl, h1, by unfold atI; rw [hl, hk]; exact e1, q w H1 (Ex.refl H1) e2⟩
theorem ei_ixS {i : Int} {z : Str} {c : Nat} (ha : EvI K ta σ H (.str z)) (hb : EvI K tb σ H (.int i)) (hl : z.length ≤ 100000) (h : atI z.cps.toList i = some c) : EvI K (tOp rIxS ta tb) σ H (.str ⟨#[c]⟩) :=
  ex_op ha mI hb fun x y H1 _ r1 r2 Q q => by cases r1; cases r2; exact ⟨z, i, c, rfl, rfl, sz_of hl, h, q _ H1 (Ex.refl H1) (.str _)⟩
theorem en_cat (ha : EvM K ta σ H ds) (hb : EvM K tb σ H es) (hl : ds.length + es.length ≤ 100000) : EvN K (tOp rCat ta tb) σ H (ds ++ es) := fun H1 e Q q =>
  ha H1 e _ fun x H2 e2 r1 => hb H2 (e.trans e2) _ fun y H3 e3 r2 => by
    obtain ⟨a, xs, rfl, h1, h2⟩ := r1.mono e3
    obtain ⟨b, ys, rfl, h3, h4⟩ := r2
    refine ⟨a, b, xs, ys, rfl, rfl, h1, h3, sz_of (by rw [h2.length, h4.length]; exact hl), fun p hp => q p _ _ (fresh_back (e2.trans e3) hp) ((e2.trans e3).trans (Ex.new hp)) upd_same ((h2.append h4).mono (Ex.new hp))⟩
/-! tests -/
theorem et_of (K : PySem.W.Frag) {b : Bool} (h : EvI K te σ H (.bool b)) : EvT (tTest te) σ H b := fun H1 e Q q => h H1 e _ fun v H2 e2 r => by cases r; exact ⟨b, rfl, q H2 e2⟩
theorem et_val (K : PySem.W.Frag) {b : Bool} (h : EvI K te σ H (.bool b)) : EvT (tB te) σ H b := fun H1 e Q q => h H1 e _ fun v H2 e2 r => by cases r; exact ⟨b, rfl, q H2 e2⟩
theorem ei_andV {a b : Bool} (h1 : EvI K ta σ H (.bool a)) (h2 : a = true → EvI K tb σ H (.bool b)) : EvI K (tAndV ta tb) σ H (.bool (a && b)) := fun H1 e Q q => h1 H1 e _ fun v H2 e2 r => by
  cases r
  cases a with
  | true => exact ⟨true, rfl, h2 rfl H2 (e.trans e2) Q fun v H3 e3 r => q v H3 (e2.trans e3) r⟩
  | false => exact ⟨false, rfl, q _ H2 e2 (.bl _)⟩
theorem ei_orV {a b : Bool} (h1 : EvI K ta σ H (.bool a)) (h2 : a = false → EvI K tb σ H (.bool b)) : EvI K (tOrV ta tb) σ H (.bool (a || b)) := fun H1 e Q q => h1 H1 e _ fun v H2 e2 r => by
  cases r
  cases a with
  | false => exact ⟨false, rfl, h2 rfl H2 (e.trans e2) Q fun v H3 e3 r => q v H3 (e2.trans e3) r⟩
  | true => exact ⟨true, rfl, q _ H2 e2 (.bl _)⟩
theorem ei_notV {a : Bool} (h1 : EvI K ta σ H (.bool a)) : EvI K (tNotV ta) σ H (.bool (!a)) := fun H1 e Q q => h1 H1 e _ fun v H2 e2 r => by
  cases r
  exact ⟨a, rfl, q _ H2 e2 (.bl _)⟩
theorem ex_if {b : Bool} (h : EvT t σ H b) (h1 : b = true → EvX ta σ H R) (h2 : b = false → EvX tb σ H R) : EvX (tIf t ta tb) σ H R := fun H1 e Q q => h H1 e _ fun H2 e2 => by
  cases b with
  | true =>
    show ta σ H2 Q
    exact h1 rfl H2 (e.trans e2) Q fun v H3 e3 r => q v H3 (e2.trans e3) r
  | false =>
    show tb σ H2 Q
    exact h2 rfl H2 (e.trans e2) Q fun v H3 e3 r => q v H3 (e2.trans e3) r
theorem ei_if {b : Bool} (h : EvT t σ H b) (h1 : b = true → EvI K ta σ H d) (h2 : b = false → EvI K tb σ H e) : EvI K (tIf t ta tb) σ H (if b then d else e) := by
  cases b with
  | true => exact ex_if h (fun _ => h1 rfl) (fun q => nomatch q)
  | false => exact ex_if h (fun q => nomatch q) (fun _ => h2 rfl)
theorem ei_chain {r r' : R2} {b c : Bool} (ha : EvX ta σ H R) (ma : Mon R) (hb : EvX tb σ H S) (mb : Mon S)
    (hr : ∀ x y H1, Ex H H1 → R x H1 → S y H1 → ∀ Q : VK, Q (.bl b) H1 → r x y H1 Q) {T : V → Hp → Prop} (hc : b = true → EvX tc σ H T)
    (hr' : b = true → ∀ y z H1, Ex H H1 → S y H1 → T z H1 → ∀ Q : VK, Q (.bl c) H1 → r' y z H1 Q) : EvI K (tChain r r' ta tb tc) σ H (.bool (b && c)) := fun H1 e Q q =>
  ha H1 e _ fun x H2 e2 r1 => hb H2 (e.trans e2) _ fun y H3 e3 r2 => hr x y H3 ((e.trans e2).trans e3) (ma _ _ _ e3 r1) r2 _ ⟨b, rfl, by
    cases b with
    | false =>
      show Q (.bl false) H3
      exact q _ H3 (e2.trans e3) (.bl _)
    | true =>
      show tc σ H3 _
      exact hc rfl H3 ((e.trans e2).trans e3) _ fun z H4 e4 r3 => hr' rfl y z H4 (((e.trans e2).trans e3).trans e4) (mb _ _ _ e4 r2) r3 Q (q _ H4 ((e2.trans e3).trans e4) (.bl _))⟩
theorem ei_chainI {f f' : Int → Int → Bool} {i j k : Int} (ha : EvI K ta σ H (.int i)) (hb : EvI K tb σ H (.int j)) (hc : EvI K tc σ H (.int k)) :
    EvI K (tChain (rI0 fun i j => .bl (f i j)) (rI0 fun i j => .bl (f' i j)) ta tb tc) σ H (.bool (f i j && f' j k)) :=
  ei_chain ha mI hb mI (fun x y H1 _ r1 r2 Q q => by cases r1; cases r2; exact ⟨i, j, rfl, rfl, q⟩) (fun _ => hc) (fun _ y z H1 _ r1 r2 Q q => by cases r1; cases r2; exact ⟨j, k, rfl, rfl, q⟩)
/-! arguments, displays -/
theorem eai_nil : EvAI K tNil σ H [] := fun H1 _ _ q => q [] H1 (Ex.refl H1) .nil
theorem eai_cons {tr : TA} (h : EvI K ta σ H d) (hr : EvAI K tr σ H ds) : EvAI K (tCons ta tr) σ H (d :: ds) := fun H1 e _ q =>
  h H1 e _ fun x H2 e2 r1 => hr H2 (e.trans e2) _ fun vs H3 e3 r2 => q _ H3 (e2.trans e3) (.cons (r1.mono e3) r2)
theorem ei_tup {ta : TA} (h : EvAI K ta σ H ds) (hl : ds.length ≤ 100000) : EvI K (tTup ta) σ H (.tuple ds) := fun H1 e _ q =>
  h H1 e _ fun vs H2 e2 r => ⟨sz_of (by rw [r.length]; exact hl), fun p hp => q _ _ (e2.trans (Ex.new hp)) (.tup (st_of upd_same) (r.mono (Ex.new hp)))⟩
theorem en_lst {ta : TA} (h : EvAI K ta σ H ds) (hl : ds.length ≤ 100000) : EvN K (tLst ta) σ H ds := fun H1 e _ q =>
  h H1 e _ fun vs H2 e2 r => ⟨sz_of (by rw [r.length]; exact hl), fun p hp => q p vs _ (fresh_back e2 hp) (e2.trans (Ex.new hp)) upd_same (r.mono (Ex.new hp))⟩
/-! built-ins -/
theorem ei_lenK (ha : EvK K ta σ H ds) : EvI K (tCB (fun xs H Q => ∃ p ys, xs = [.ref p] ∧ (SqL K H p ys ∨ SqT K H p ys) ∧ Q (.int ys.length) H) (tCons ta tNil)) σ H (.int (ds.length : Int)) := fun H1 e Q q =>
  ha H1 e _ fun x H2 e2 r => by
    obtain ⟨a, xs, rfl, h1, h2⟩ := r
    refine ⟨a, xs, rfl, .inl h1, q _ H2 e2 ?_⟩
    rw [h2.length]; exact .int _
theorem ei_lenT (ha : EvI K ta σ H (.tuple ds)) : EvI K (tCB (fun xs H Q => ∃ p ys, xs = [.ref p] ∧ (SqL K H p ys ∨ SqT K H p ys) ∧ Q (.int ys.length) H) (tCons ta tNil)) σ H (.int (ds.length : Int)) := fun H1 e Q q =>
  ha H1 e _ fun x H2 e2 r => by
    obtain ⟨a, xs, rfl, h1, h2⟩ := r.tup_inv
    refine ⟨a, xs, rfl, .inr h1, q _ H2 e2 ?_⟩
    rw [h2.length]; exact .int _
theorem ei_lenS {z : Str} (ha : EvI K ta σ H (.str z)) (hl : z.length ≤ 100000) : EvI K (tCB (fun xs H Q => ∃ z, xs = [.str z] ∧ z.length ≤ sizeLine ∧ Q (.int z.length) H) (tCons ta tNil)) σ H (.int (z.length : Int)) := fun H1 e Q q =>
  ha H1 e _ fun x H2 e2 r => by cases r; exact ⟨z, rfl, sz_of hl, q _ H2 e2 (.int _)⟩
theorem ei_sum {ns : List Int} (ha : EvK K ta σ H (ns.map PyData.int)) : EvI K (tCB (rSum K) (tCons ta tNil)) σ H (.int ns.sum) := fun H1 e Q q =>
  ha H1 e _ fun x H2 e2 r => by
    obtain ⟨a, xs, rfl, h1, h2⟩ := r
    have := ints_back h2
    subst this
    exact ⟨a, ns, rfl, h1, q _ H2 e2 (.int _)⟩
theorem en_listK (ha : EvK K ta σ H ds) : EvN K (tCB (rListS K) (tCons ta tNil)) σ H ds := fun H1 e Q q =>
  ha H1 e _ fun x H2 e2 r => by
    obtain ⟨a, xs, rfl, h1, h2⟩ := r
    exact ⟨a, xs, rfl, .inl h1, fun l hl => q l xs _ (fresh_back e2 hl) (e2.trans (Ex.new hl)) upd_same (h2.mono (Ex.new hl))⟩
/-! slices -/
theorem eo_no : EvO tNoPart σ H none := eo_none
theorem eo_at {i : Int} (h : EvI K te σ H (.int i)) : EvO (tPart te) σ H (some i) := fun H1 e _ q => h H1 e _ fun v H2 e2 r => by cases r; exact ⟨i, rfl, q H2 e2⟩
theorem ei_slS {tl th : TO} {z : Str} {lo hi : Option Int} (h : EvI K te σ H (.str z)) (h1 : EvO tl σ H lo) (h2 : EvO th σ H hi) (hl : z.length ≤ 100000) : EvI K (tSl rSlS te tl th) σ H (.str (cutS z lo hi)) := fun H1 e _ q =>
  h H1 e _ fun x H2 e2 r => h1 H2 (e.trans e2) _ fun H3 e3 => h2 H3 ((e.trans e2).trans e3) _ fun H4 e4 => by
    cases r
    exact ⟨z, rfl, sz_of hl, q _ H4 ((e2.trans e3).trans e4) (.str _)⟩
def cutD {α : Type} (xs : List α) (lo hi : Option Int) : List α := (xs.drop (HT.sIx xs.length 0 lo)).take (HT.sIx xs.length xs.length hi - HT.sIx xs.length 0 lo)
theorem en_slK {tl th : TO} {lo hi : Option Int} (h : EvK K te σ H ds) (h1 : EvO tl σ H lo) (h2 : EvO th σ H hi) : EvN K (tSl (rSlL K) te tl th) σ H (cutD ds lo hi) := fun H1 e _ q =>
  h H1 e _ fun x H2 e2 r => h1 H2 (e.trans e2) _ fun H3 e3 => h2 H3 ((e.trans e2).trans e3) _ fun H4 e4 => by
    obtain ⟨a, xs, rfl, g1, g2⟩ := r.mono (e3.trans e4)
    refine ⟨a, xs, rfl, g1, fun p hp => q p _ _ (fresh_back ((e2.trans e3).trans e4) hp) (((e2.trans e3).trans e4).trans (Ex.new hp)) upd_same ?_⟩
    have := (g2.drop (HT.sIx xs.length 0 lo)).take (HT.sIx xs.length xs.length hi - HT.sIx xs.length 0 lo)
    rw [show cutV xs lo hi = (xs.drop (HT.sIx xs.length 0 lo)).take (HT.sIx xs.length xs.length hi - HT.sIx xs.length 0 lo) from rfl]
    unfold cutD
    rw [← g2.length]
    exact this.mono (Ex.new hp)
end
/-! ### promises -/
/-- a value that does not change; a new list; None -/
def PrI (K : PySem.W.Frag) (pre : List V → Hp → PyData → Prop) : Sp := fun vs H Q _ => ∃ d, pre vs H d ∧ ∀ v H', Ex H H' → Im K H' v d → Q v H'
def PrN (K : PySem.W.Frag) (pre : List V → Hp → List PyData → Prop) : Sp := fun vs H Q _ => ∃ ds, pre vs H ds ∧ ∀ p xs H', H p = none → Ex H H' → H' p = some (.lst xs) → ImAll K H' xs ds → Q (.ref p) H'
section
variable {K : PySem.W.Frag} {σ : L2.St} {H H' : Hp} {t1 t2 t3 t4 : TE} {R1 R2 R3 R4 : V → Hp → Prop} {d : PyData} {ds : List PyData} {E : XK}
/-- arguments with what is known of each -/
def EvAX (ta : TA) (σ : L2.St) (H : Hp) (P : List V → Hp → Prop) : Prop := ∀ H1, Ex H H1 → ∀ Q : List V → Hp → Prop, (∀ vs H2, Ex H1 H2 → P vs H2 → Q vs H2) → ta σ H1 Q
theorem eax1 (h1 : EvX t1 σ H R1) : EvAX (tCons t1 tNil) σ H fun vs H2 => ∃ x, vs = [x] ∧ R1 x H2 := fun H1 e _ q =>
  h1 H1 e _ fun x H2 e2 r1 => q [x] H2 e2 ⟨x, rfl, r1⟩
theorem eax2 (h1 : EvX t1 σ H R1) (m1 : Mon R1) (h2 : EvX t2 σ H R2) : EvAX (tCons t1 (tCons t2 tNil)) σ H fun vs H2 => ∃ x y, vs = [x, y] ∧ R1 x H2 ∧ R2 y H2 := fun H1 e _ q =>
  h1 H1 e _ fun x H2 e2 r1 => h2 H2 (e.trans e2) _ fun y H3 e3 r2 => q [x, y] H3 (e2.trans e3) ⟨x, y, rfl, m1 _ _ _ e3 r1, r2⟩
theorem eax3 (h1 : EvX t1 σ H R1) (m1 : Mon R1) (h2 : EvX t2 σ H R2) (m2 : Mon R2) (h3 : EvX t3 σ H R3) : EvAX (tCons t1 (tCons t2 (tCons t3 tNil))) σ H fun vs H2 => ∃ x y z, vs = [x, y, z] ∧ R1 x H2 ∧ R2 y H2 ∧ R3 z H2 := fun H1 e _ q =>
  h1 H1 e _ fun x H2 e2 r1 => h2 H2 (e.trans e2) _ fun y H3 e3 r2 => h3 H3 ((e.trans e2).trans e3) _ fun z H4 e4 r3 => q [x, y, z] H4 ((e2.trans e3).trans e4) ⟨x, y, z, rfl, m1 _ _ _ (e3.trans e4) r1, m2 _ _ _ e4 r2, r3⟩
theorem eax4 (h1 : EvX t1 σ H R1) (m1 : Mon R1) (h2 : EvX t2 σ H R2) (m2 : Mon R2) (h3 : EvX t3 σ H R3) (m3 : Mon R3) (h4 : EvX t4 σ H R4) : EvAX (tCons t1 (tCons t2 (tCons t3 (tCons t4 tNil)))) σ H fun vs H2 => ∃ x y z w, vs = [x, y, z, w] ∧ R1 x H2 ∧ R2 y H2 ∧ R3 z H2 ∧ R4 w H2 := fun H1 e _ q =>
  h1 H1 e _ fun x H2 e2 r1 => h2 H2 (e.trans e2) _ fun y H3 e3 r2 => h3 H3 ((e.trans e2).trans e3) _ fun z H4 e4 r3 => h4 H4 (((e.trans e2).trans e3).trans e4) _ fun w H5 e5 r4 => q [x, y, z, w] H5 (((e2.trans e3).trans e4).trans e5) ⟨x, y, z, w, rfl, m1 _ _ _ ((e3.trans e4).trans e5) r1, m2 _ _ _ (e4.trans e5) r2, m3 _ _ _ e5 r3, r4⟩
theorem ei_call {ta : TA} {P : List V → Hp → Prop} {pre : List V → Hp → PyData → Prop} (h : EvAX ta σ H P) (hp : ∀ vs H1, Ex H H1 → P vs H1 → pre vs H1 d) : EvI K (tCall (PrI K pre) [] E ta) σ H d := fun H1 e Q q =>
  h H1 e _ fun vs H2 e2 p => ⟨d, by rw [List.append_nil]; exact hp vs H2 (e.trans e2) p, fun v H3 e3 r => q v H3 (e2.trans e3) r⟩
theorem en_call {ta : TA} {P : List V → Hp → Prop} {pre : List V → Hp → List PyData → Prop} (h : EvAX ta σ H P) (hp : ∀ vs H1, Ex H H1 → P vs H1 → pre vs H1 ds) : EvN K (tCall (PrN K pre) [] E ta) σ H ds := fun H1 e Q q =>
  h H1 e _ fun vs H2 e2 p => ⟨ds, by rw [List.append_nil]; exact hp vs H2 (e.trans e2) p, fun l xs H3 hl e3 g1 g2 => q l xs H3 (fresh_back e2 hl) (e2.trans e3) g1 g2⟩
end
/-! ### statements -/
section
variable {K : PySem.W.Frag} {σ : L2.St} {H H' : Hp} {ta tb te : TE} {t : TT} {R : V → Hp → Prop} {d : PyData} {ds : List PyData} {D : Ends} {tu tw tz : TS}
theorem x_asg {i : Nat} (h : EvX te σ H R) (k : ∀ v H1, Ex H H1 → R v H1 → tz D (σ.set i (some v)) H1) : tSeq (tAsg te (gName i)) tz D σ H := h H (Ex.refl H) _ k
theorem x_asgN {i : Nat} (h : EvN K te σ H ds) (k : ∀ p xs H1, H p = none → Ex H H1 → H1 p = some (.lst xs) → ImAll K H1 xs ds → tz D (σ.set i (some (.ref p))) H1) : tSeq (tAsg te (gName i)) tz D σ H := h H (Ex.refl H) _ k
theorem x_ret (h : EvX te σ H R) (k : ∀ v H1, Ex H H1 → R v H1 → D.rt v H1) : tRet te D σ H := h H (Ex.refl H) _ k
theorem x_retN (h : EvN K te σ H ds) (k : ∀ p xs H1, H p = none → Ex H H1 → H1 p = some (.lst xs) → ImAll K H1 xs ds → D.rt (.ref p) H1) : tRet te D σ H := h H (Ex.refl H) _ k
theorem x_drop (h : EvX te σ H R) (k : ∀ v H1, Ex H H1 → R v H1 → tz D σ H1) : tSeq (tDrop te) tz D σ H := h H (Ex.refl H) _ k
theorem x_if {b : Bool} (h : EvT t σ H b) (h1 : b = true → ∀ H1, Ex H H1 → tu { D with nx := tz D } σ H1) (h2 : b = false → ∀ H1, Ex H H1 → tw { D with nx := tz D } σ H1) : tSeq (tIfS t tu tw) tz D σ H := q_if h h1 h2
/-- a list of the def's own that grows: H0 what stood before, H now -/
structure Grow (K : PySem.W.Frag) (H0 H : Hp) (l : Addr) (ds : List PyData) : Prop where
  fresh : H0 l = none
  ex : Ex H0 H
  has : ∃ xs, H l = some (.lst xs) ∧ ImAll K H xs ds
theorem Grow.go {H0 H1 : Hp} {l : Addr} (g : Grow K H0 H l ds) (e : Ex H H1) : Grow K H0 H1 l ds := by
  obtain ⟨g1, g2, xs, g3, g4⟩ := g
  exact ⟨g1, g2.trans e, xs, e _ _ g3, g4.mono e⟩
theorem Grow.app {H0 H1 : Hp} {l : Addr} {v : V} {xs : List V} (g : Grow K H0 H1 l ds) (hl : H1 l = some (.lst xs)) (hx : ImAll K H1 xs ds) (hv : Im K H1 v d) : Grow K H0 (upd H1 l (.lst (xs ++ [v]))) l (ds ++ [d]) :=
  ⟨g.fresh, Ex.mut g.ex g.fresh, _, upd_same, (hx.snoc hv).wr hl⟩
theorem Grow.ls {H0 : Hp} {l : Addr} (g : Grow K H0 H l ds) : Lm K H (.ref l) ds := by
  obtain ⟨_, _, xs, g3, g4⟩ := g
  exact ⟨l, xs, rfl, g3, g4⟩
theorem Grow.other {H0 : Hp} {l m : Addr} {es : List PyData} {o : HO} {xs : List V} (g : Grow K H0 H l ds) (hm : H m = some (.lst xs)) (h0 : H0 m = none) (hne : l ≠ m) : Grow K H0 (upd H m o) l ds := by
  obtain ⟨g1, g2, ys, g3, g4⟩ := g
  exact ⟨g1, Ex.mut g2 h0, ys, by rw [upd_ne hne]; exact g3, g4.wr hm⟩
/-- l.append(e) -/
theorem x_app {H0 : Hp} {l : Addr} (g : Grow K H0 H l ds) (ha : EvV ta σ H (.ref l)) (h : EvI K te σ H d) (hz : ds.length < 100000) (k : ∀ H1, Grow K H0 H1 l (ds ++ [d]) → (∀ m es, m ≠ l → Grow K H0 H m es → Grow K H0 H1 m es) → D.nx σ H1) :
    tDrop (tBM K "list" rAppend ta (tCons te tNil)) D σ H := ha H (Ex.refl H) _ fun u H1 e1 hu => by
  subst hu
  obtain ⟨xs1, g3, g4⟩ := (g.go e1).has
  refine ⟨.inl ⟨rfl, xs1, sq_of g3⟩, h H1 e1 _ fun w H2 e2 hw => ?_⟩
  obtain ⟨xs, g5, g6⟩ := (g.go (e1.trans e2)).has
  refine ⟨l, xs, w, rfl, rfl, g5, sz_lt (by rw [g6.length]; exact hz), k _ ((g.go (e1.trans e2)).app g5 g6 hw) fun m es hm gm => (gm.go (e1.trans e2)).other g5 g.fresh hm (es := [])⟩
theorem x_appQ {H0 : Hp} {l : Addr} (g : Grow K H0 H l ds) (ha : EvV ta σ H (.ref l)) (h : EvI K te σ H d) (hz : ds.length < 100000) (k : ∀ H1, Grow K H0 H1 l (ds ++ [d]) → (∀ m es, m ≠ l → Grow K H0 H m es → Grow K H0 H1 m es) → tz D σ H1) :
    tSeq (tDrop (tBM K "list" rAppend ta (tCons te tNil))) tz D σ H := x_app (D := { D with nx := tz D }) g ha h hz k
end
end DWL
namespace DWL
open PySem PySem.Spec PyProof.Rows L2 Evl
theorem ex_same (H : Hp) : Ex H H := Ex.refl H
section
variable {K : PySem.W.Frag} {σ : L2.St} {H H' : Hp} {ta tb tc te tx : TE} {t u : TT} {d e d1 d2 d3 : PyData} {ds es : List PyData} {vs : List Nat} {tg : TG} {tt : TT}
theorem et_yes : EvT tYes σ H true := fun H1 _ _ q => q H1 (Ex.refl H1)
theorem et_andT {a b : Bool} (h1 : EvT t σ H a) (h2 : a = true → EvT u σ H b) : EvT (tAnd t u) σ H (a && b) := et_and h1 h2
theorem et_orT {a b : Bool} (h1 : EvT t σ H a) (h2 : a = false → EvT u σ H b) : EvT (tOr t u) σ H (a || b) := et_or h1 h2
theorem et_to {a b : Bool} (h : EvT t σ H a) (e : a = b) : EvT t σ H b := e ▸ h
theorem eai_ints {ta : TA} {ns : List Int} (h : EvAI K ta σ H (ns.map PyData.int)) : EvA ta σ H (ns.map V.int) := fun H1 e Q q => h H1 e Q fun vs H2 e2 r => by
  rw [ints_back r]; exact q H2 e2
/-! targets -/
theorem g_tup2 {i j : Nat} {v : V} {Q : L2.St → Hp → Prop} (h : Im K H v (.tuple [d1, d2])) (k : ∀ x y, Im K H x d1 → Im K H y d2 → Q ((σ.set i (some x)).set j (some y)) H) : gTup K 2 (gCons (gName i) (gCons (gName j) gNil)) v σ H Q := by
  obtain ⟨a, xs, rfl, h1, h2⟩ := h.tup_inv
  cases h2 with
  | cons a1 r => cases r with
    | cons a2 r => cases r; exact ⟨a, _, rfl, h1, rfl, _, _, rfl, _, _, rfl, rfl, k _ _ a1 a2⟩
theorem g_tup3 {i j l : Nat} {v : V} {Q : L2.St → Hp → Prop} (h : Im K H v (.tuple [d1, d2, d3])) (k : ∀ x y z, Im K H x d1 → Im K H y d2 → Im K H z d3 → Q (((σ.set i (some x)).set j (some y)).set l (some z)) H) : gTup K 3 (gCons (gName i) (gCons (gName j) (gCons (gName l) gNil))) v σ H Q := by
  obtain ⟨a, xs, rfl, h1, h2⟩ := h.tup_inv
  cases h2 with
  | cons a1 r => cases r with
    | cons a2 r => cases r with
      | cons a3 r => cases r; exact ⟨a, _, rfl, h1, rfl, _, _, rfl, _, _, rfl, _, _, rfl, rfl, k _ _ _ a1 a2 a3⟩
/-! comprehensions -/
theorem lc_go {δ : Type} {J : It} {n : Nat} {G : Hp → Prop} {Y : Nat → Hp → V → Hp → Prop} (w : Walk J n G Y) (L : List δ) (hn : L.length = n) (hz : n ≤ 40000) (f : δ → Bool) (g : δ → PyData) {H1 : Hp} {Dl : Addr} (hD : H1 Dl = none) {Qd : Hp → Prop}
    (hG : ∀ H', Ex H1 H' → G H')
    (hb : ∀ (i : Nat) a x H' H'', L[i]? = some a → Ex H1 H' → Y i H' x H'' → Ex H' H'' ∧ ∃ σ', (∀ Q : L2.St → Hp → Prop, Q σ' H'' → tg x (wipe σ vs) H'' Q) ∧ wipe σ' vs = wipe σ vs ∧ EvT tt σ' H'' (f a) ∧ (f a = true → EvI K te σ' H'' (g a)))
    (hd : ∀ H' xs, Ex H1 H' → H' Dl = some (.lst xs) → ImAll K H' xs ((L.filter f).map g) → Qd H') :
    ∃ W : Nat → Nat → Hp → Prop, (∃ m, W 0 m (upd H1 Dl (.lst []))) ∧ ∀ i m H, W i m H →
      (J.stop i H ∧ Qd H) ∨ (J.go i H ∧ ∃ Nx : Hp → Prop, (∀ H', Nx H' → ∃ m', m' < m ∧ W (i + 1) m' H') ∧ ∀ x H', J.yld i H x H' → tg x (wipe σ vs) H' fun σ2 H2 => wipe σ2 vs = wipe σ vs ∧ tt σ2 H2 fun b H3 =>
        if b = true then te σ2 H3 fun y H4 => ∃ acc, H4 Dl = some (.lst acc) ∧ acc.length < sizeLine ∧ Nx (upd H4 Dl (.lst (acc ++ [y]))) else Nx H3) := by
  refine lc_it w (fun i H' => Ex H1 H' ∧ ∃ acc, H' Dl = some (.lst acc) ∧ ImAll K H' acc (((L.take i).filter f).map g)) ⟨Ex.new hD, [], upd_same, .nil⟩ (fun i H' _ p => hG H' p.1) (fun i x H' H'' hi p y => ?_) (fun H' p => ?_)
  · obtain ⟨p1, acc, p2, p3⟩ := p
    have hi' : i < L.length := by omega
    obtain ⟨e2, σ', b1, b2, b3, b4⟩ := hb i L[i] x H' H'' (List.getElem?_eq_getElem hi') p1 y
    have et : L.take (i + 1) = L.take i ++ [L[i]] := by rw [List.take_add_one, List.getElem?_eq_getElem hi']; rfl
    refine b1 _ ⟨b2, b3 H'' (Ex.refl _) _ fun H3 e3 => ?_⟩
    cases hf : f L[i] with
    | true =>
      show te σ' H3 _
      refine b4 hf H3 e3 _ fun v H4 e4 r => ?_
      have e5 := (e2.trans e3).trans e4
      have l4 := e5 _ _ p2
      have len : acc.length < 100000 := by
        rw [p3.length, List.length_map]
        have := List.length_filter_le f (L.take i)
        rw [List.length_take] at this; omega
      refine ⟨acc, l4, sz_lt len, Ex.mut (p1.trans e5) hD, acc ++ [v], upd_same, ?_⟩
      rw [et, List.filter_append, List.filter_cons_of_pos hf, List.map_append]
      exact ((p3.mono e5).snoc r).wr l4
    | false =>
      show Ex H1 H3 ∧ _
      refine ⟨p1.trans (e2.trans e3), acc, (e2.trans e3) _ _ p2, ?_⟩
      rw [et, List.filter_append, List.filter_cons_of_neg (by rw [hf]; decide), List.filter_nil, List.append_nil]
      exact p3.mono (e2.trans e3)
  · obtain ⟨p1, acc, p2, p3⟩ := p
    rw [List.take_of_length_le (by omega)] at p3
    exact hd H' acc p1 p2 p3
/-- over a list -/
theorem en_lcK {δ : Type} {enc : δ → PyData} {L : List δ} {tl : TE} (f : δ → Bool) (g : δ → PyData) (h : EvK K tl σ H (L.map enc)) (hz : L.length ≤ 40000)
    (hb : ∀ a ∈ L, ∀ x H1, Ex H H1 → Im K H1 x (enc a) → ∃ σ', (∀ Q : L2.St → Hp → Prop, Q σ' H1 → tg x (wipe σ vs) H1 Q) ∧ wipe σ' vs = wipe σ vs ∧ EvT tt σ' H1 (f a) ∧ (f a = true → EvI K te σ' H1 (g a))) :
    EvN K (tLc (iList K tl) tg tt te vs) σ H ((L.filter f).map g) := fun H0 e0 Q q => h H0 e0 _ fun v H1 e1 r => by
  obtain ⟨a, xs, rfl, h1, h2⟩ := r
  have hl : L.length = xs.length := by rw [h2.length, List.length_map]
  refine ⟨a, rfl, ⟨xs, h1⟩, fun Dl hD => lc_go (walk_list (K := K) (a := a) (xs := xs)) L hl (by omega) f g hD (fun H' e => ex_l e h1) (fun i b x H' H'' hb' e y => ?_) fun H' ys e g1 g2 => q Dl ys H' (fresh_back e1 hD) (e1.trans e) g1 g2⟩
  obtain ⟨rfl, hx⟩ := y
  obtain ⟨dd, k1, k2⟩ := (h2.mono e).getV hx
  have : dd = enc b := by
    rw [List.getElem?_map, hb'] at k1; exact (Option.some.inj k1).symm
  subst this
  exact ⟨Ex.refl _, hb b (List.mem_of_getElem? hb') x _ ((e0.trans e1).trans e) k2⟩
/-- over range(n) -/
theorem en_lcR {ta : TA} {n : Int} (f : Nat → Bool) (g : Nat → PyData) (h : EvAI K ta σ H [.int n]) (hz : n ≤ 40000)
    (hb : ∀ i : Nat, i < n.toNat → ∀ H1, Ex H H1 → ∃ σ', (∀ Q : L2.St → Hp → Prop, Q σ' H1 → tg (.int (i : Int)) (wipe σ vs) H1 Q) ∧ wipe σ' vs = wipe σ vs ∧ EvT tt σ' H1 (f i) ∧ (f i = true → EvI K te σ' H1 (g i))) (hn : -100000 ≤ n) :
    EvN K (tLc (iRng1 ta) tg tt te vs) σ H (((List.range n.toNat).filter f).map g) := fun H0 e0 Q q => h H0 e0 _ fun vs1 H1 e1 r => by
  have := ints_back (ns := [n]) r
  subst this
  refine ⟨n, rfl, by omega, by omega, fun Dl hD => lc_go (walk_range (lo := 0) (n := n.toNat)) (List.range n.toNat) (by simp) (by omega) f g hD (fun _ _ => trivial) (fun i b x H' H'' hb' e y => ?_) fun H' ys e g1 g2 => q Dl ys H' (fresh_back e1 hD) (e1.trans e) g1 g2⟩
  obtain ⟨rfl, rfl⟩ := y
  obtain ⟨hi, rfl⟩ := List.getElem?_eq_some_iff.mp hb'
  rw [List.getElem_range]
  have e3 : (0 : Int) + (i : Int) = (i : Int) := Int.zero_add _
  dsimp only
  rw [e3]
  exact ⟨Ex.refl _, hb i (by simpa using hi) _ ((e0.trans e1).trans e)⟩
/-- over range(a, b, -1) -/
theorem en_lcDown {ta : TA} {a b : Int} (f : Nat → Bool) (g : Nat → PyData) (h : EvAI K ta σ H [.int a, .int b, .int (-1)]) (hz : -10000 ≤ b ∧ b ≤ 10000 ∧ -10000 ≤ a ∧ a ≤ 10000)
    (hb : ∀ i : Nat, i < (a - b).toNat → ∀ H1, Ex H H1 → ∃ σ', (∀ Q : L2.St → Hp → Prop, Q σ' H1 → tg (.int (a - (i : Int))) (wipe σ vs) H1 Q) ∧ wipe σ' vs = wipe σ vs ∧ EvT tt σ' H1 (f i) ∧ (f i = true → EvI K te σ' H1 (g i))) :
    EvN K (tLc (iRng3 ta) tg tt te vs) σ H (((List.range (a - b).toNat).filter f).map g) := fun H0 e0 Q q => h H0 e0 _ fun vs1 H1 e1 r => by
  have := ints_back (ns := [a, b, -1]) r
  subst this
  refine ⟨a, b, -1, (a - b).toNat, rfl, RgC.neg (by omega) (by omega) (by omega) (by omega), fun Dl hD => lc_go (walk_rangeC (lo := a) (c := -1) (n := (a - b).toNat)) (List.range (a - b).toNat) (by simp) (by omega) f g hD (fun _ _ => trivial) (fun i b' x H' H'' hb' e y => ?_) fun H' ys e g1 g2 => q Dl ys H' (fresh_back e1 hD) (e1.trans e) g1 g2⟩
  obtain ⟨rfl, rfl⟩ := y
  obtain ⟨hi, rfl⟩ := List.getElem?_eq_some_iff.mp hb'
  rw [List.getElem_range]
  have e3 : a + (i : Int) * (-1) = a - (i : Int) := by omega
  dsimp only
  rw [e3]
  exact ⟨Ex.refl _, hb i (by simpa using hi) _ ((e0.trans e1).trans e)⟩
/-- over enumerate(a list) -/
theorem en_lcE {δ : Type} {enc : δ → PyData} {L : List δ} {tl : TA} (f : Nat × δ → Bool) (g : Nat × δ → PyData) (h : ∀ H1, Ex H H1 → ∀ Q : List V → Hp → Prop, (∀ v H2, Ex H1 H2 → Ls K H2 v (L.map enc) → Q [v] H2) → tl σ H1 Q) (hz : L.length ≤ 40000)
    (hb : ∀ (i : Nat) a, L[i]? = some a → ∀ x H1, Ex H H1 → Im K H1 x (.tuple [.int (i : Int), enc a]) → ∃ σ', (∀ Q : L2.St → Hp → Prop, Q σ' H1 → tg x (wipe σ vs) H1 Q) ∧ wipe σ' vs = wipe σ vs ∧ EvT tt σ' H1 (f (i, a)) ∧ (f (i, a) = true → EvI K te σ' H1 (g (i, a)))) :
    EvN K (tLc (iEnum K tl) tg tt te vs) σ H ((((List.range L.length).zip L).filter f).map g) := fun H0 e0 Q q => h H0 e0 _ fun v H1 e1 r => by
  obtain ⟨a, xs, rfl, h1, h2⟩ := r
  have hl : L.length = xs.length := by rw [h2.length, List.length_map]
  have hl2 : ((List.range L.length).zip L).length = xs.length := by simp [hl]
  refine ⟨a, xs, rfl, h1, fun Dl hD => lc_go (walk_enum (K := K) (a := a) (xs := xs)) _ hl2 (by omega) f g hD (fun H' e => ex_l e h1) (fun i b x H' H'' hb' e y => ?_) fun H' ys e g1 g2 => q Dl ys H' (fresh_back e1 hD) (e1.trans e) g1 g2⟩
  obtain ⟨T, x1, x2, rfl, nT, rfl, f1, f2⟩ := y
  obtain ⟨hi, eb⟩ := List.getElem?_eq_some_iff.mp hb'
  have hi' : i < L.length := by rw [hl2] at hi; omega
  have eb2 : b = (i, L[i]) := by rw [← eb]; simp
  subst eb2
  cases f1
  obtain ⟨dd, k1, k2⟩ := (h2.mono e).getV f2
  have : dd = enc L[i] := by
    rw [List.getElem?_map, List.getElem?_eq_getElem hi'] at k1; exact (Option.some.inj k1).symm
  subst this
  exact ⟨Ex.new nT, hb i L[i] (List.getElem?_eq_getElem hi') _ _ (((e0.trans e1).trans e).trans (Ex.new nT)) (.tup (st_of upd_same) (.cons (.int _) (.cons (k2.mono (Ex.new nT)) .nil)))⟩
theorem binds_name {j : Nat} {x : V} : ∀ Q : L2.St → Hp → Prop, Q (σ.set j (some x)) H → gName j x σ H Q := fun _ q => q
/-! loops -/
section
variable {D : Ends} {tu tz : TS}
theorem x_forK {δ : Type} {enc : δ → PyData} {L : List δ} {tl : TE} (h : EvK K tl σ H (L.map enc))
    (k : ∀ a xs H1, Ex H H1 → SqL K H1 a xs → ImAll K H1 xs (L.map enc) → ∃ Pv : Nat → L2.St → Hp → Prop, Pv 0 σ H1 ∧ (∀ i σ' H', i ≤ L.length → Pv i σ' H' → SqL K H' a xs ∧ ImAll K H' xs (L.map enc)) ∧
      (∀ i c x σ' H', L[i]? = some c → Pv i σ' H' → Im K H' x (enc c) → tg x σ' H' fun σ2 H2 => tu { D with nx := Pv (i + 1), ct := Pv (i + 1), bk := tz D } σ2 H2) ∧ (∀ σ' H', Pv L.length σ' H' → tz D σ' H')) :
    tSeq (tFor (iList K tl) tg tu) tz D σ H := h H (Ex.refl H) _ fun v H1 e1 r => by
  obtain ⟨a, xs, rfl, h1, h2⟩ := r
  have hl : L.length = xs.length := by rw [h2.length, List.length_map]
  obtain ⟨Pv, p0, pl, ps, pd⟩ := k a xs H1 e1 h1 h2
  refine ⟨a, rfl, ⟨xs, h1⟩, for_list (xs := xs) Pv p0 (fun i σ' H' hi p => (pl i σ' H' (by omega) p).1) (fun i x σ' H' hx p => ?_) (fun σ' H' p => pd σ' H' (by rw [hl]; exact p))⟩
  have hi := (List.getElem?_eq_some_iff.mp hx).1
  obtain ⟨dd, k1, k2⟩ := (pl i σ' H' (by omega) p).2.getV hx
  have hi' : i < L.length := by omega
  have : dd = enc L[i] := by
    rw [List.getElem?_map, List.getElem?_eq_getElem hi'] at k1; exact (Option.some.inj k1).symm
  subst this
  exact ps i L[i] x σ' H' (List.getElem?_eq_getElem hi') p k2
theorem x_forR {ta : TA} {j : Nat} {n : Int} (h : EvAI K ta σ H [.int n]) (hn : 0 ≤ n ∧ n ≤ 100000) (Pv : Nat → L2.St → Hp → Prop) (h0 : ∀ H1, Ex H H1 → Pv 0 σ H1)
    (hs : ∀ (i : Nat) σ' H', (i : Int) < n → Pv i σ' H' → tu { D with nx := Pv (i + 1), ct := Pv (i + 1), bk := tz D } (σ'.set j (some (.int (i : Int)))) H') (hd : ∀ σ' H', Pv n.toNat σ' H' → tz D σ' H') : tSeq (tFor (iRng1 ta) (gName j) tu) tz D σ H :=
  q_forR1 (eai_ints (ns := [n]) h) hn Pv h0 hs hd
/-- over enumerate(a list) -/
theorem x_forE {δ : Type} {enc : δ → PyData} {L : List δ} {tl : TA} (h : ∀ H1, Ex H H1 → ∀ Q : List V → Hp → Prop, (∀ v H2, Ex H1 H2 → Ls K H2 v (L.map enc) → Q [v] H2) → tl σ H1 Q)
    (k : ∀ a xs H1, Ex H H1 → SqL K H1 a xs → ImAll K H1 xs (L.map enc) → ∃ Pv : Nat → L2.St → Hp → Prop, Pv 0 σ H1 ∧ (∀ i σ' H', i ≤ L.length → Pv i σ' H' → SqL K H' a xs ∧ ImAll K H' xs (L.map enc)) ∧
      (∀ (i : Nat) c x σ' H' H'', L[i]? = some c → Pv i σ' H' → Ex H' H'' → Im K H'' x (.tuple [.int (i : Int), enc c]) → tg x σ' H'' fun σ2 H2 => tu { D with nx := Pv (i + 1), ct := Pv (i + 1), bk := tz D } σ2 H2) ∧ (∀ σ' H', Pv L.length σ' H' → tz D σ' H')) :
    tSeq (tFor (iEnum K tl) tg tu) tz D σ H := h H (Ex.refl H) _ fun v H1 e1 r => by
  obtain ⟨a, xs, rfl, h1, h2⟩ := r
  have hl : L.length = xs.length := by rw [h2.length, List.length_map]
  obtain ⟨Pv, p0, pl, ps, pd⟩ := k a xs H1 e1 h1 h2
  refine ⟨a, xs, rfl, h1, for_it (walk_enum (K := K) (a := a) (xs := xs)) Pv p0 (fun i σ' H' hi p => (pl i σ' H' (by omega) p).1) (fun i x σ' H' H'' hi p y => ?_) (fun σ' H' p => pd σ' H' (by rw [hl]; exact p))⟩
  obtain ⟨T, x1, x2, rfl, nT, rfl, f1, f2⟩ := y
  cases f1
  obtain ⟨dd, k1, k2⟩ := (pl i σ' H' (by omega) p).2.getV f2
  have hi' : i < L.length := by omega
  have : dd = enc L[i] := by
    rw [List.getElem?_map, List.getElem?_eq_getElem hi'] at k1; exact (Option.some.inj k1).symm
  subst this
  exact ps i L[i] _ σ' H' _ (List.getElem?_eq_getElem hi') p (Ex.new nT) (.tup (st_of upd_same) (.cons (.int _) (.cons (k2.mono (Ex.new nT)) .nil)))
end
/-! isinstance -/
theorem ty_l {a : Addr} {xs : List V} (h : SqL K H a xs) : TyX K H (.ref a) (.type "list") := by
  rcases h with (h | ⟨o, h⟩) | ⟨o, its, n, h1, h2, _⟩
  · exact .base (.lst h)
  · exact .base (.frz h)
  · exact .kList h1 h2
theorem ty_t {a : Addr} {xs : List V} (h : SqT K H a xs) : TyX K H (.ref a) (.type "tuple") := by
  rcases h with (h | ⟨o, h⟩) | ⟨o, its, n, h1, h2, _⟩
  · exact .base (.tup h)
  · exact .fTuple h
  · exact .kTuple h1 h2
def tyD : PyData → String
  | .none => "NoneType"
  | .bool _ => "bool"
  | .int _ => "int"
  | .str _ => "str"
  | .list _ => "list"
  | .tuple _ => "tuple"
  | .dict _ => "dict"
theorem Im.ty {v : V} (h : Im K H v d) : TyX K H v (.type (tyD d)) := by
  cases h with
  | non => exact .base .non
  | bl b => exact .base (.bl b)
  | int i => exact .base (.int i)
  | str x => exact .base (.str x)
  | tup h1 h2 => exact ty_t h1
theorem Ls.ty {v : V} (h : Ls K H v ds) : TyX K H v (.type "list") := by
  obtain ⟨a, xs, rfl, h1, _⟩ := h
  exact ty_l h1
theorem ei_isi {R : V → Hp → Prop} {n : String} {m : Value → Prop} {b : Bool} {tyv : V → Hp → Value} (ha : EvX ta σ H R) (ht : ∀ v H1, Ex H H1 → R v H1 → ∃ t, TyX K H1 v t ∧ PySem.W.kitOne K t (.type n) = some b) :
    EvI K (tCB (rIsi K) (tCons ta (tCons (tC (.ty n)) tNil))) σ H (.bool b) := fun H1 e Q q =>
  ha H1 e _ fun x H2 e2 r => by
    obtain ⟨t, k1, k2⟩ := ht x H2 (e.trans e2) r
    exact ⟨x, .ty n, t, .type n, b, rfl, .ty n, k1, k2, q _ H2 e2 (.bl _)⟩
theorem ei_isI {n : String} {b : Bool} (ha : EvI K ta σ H d) (hb : kitB (tyD d) n = some b) : EvI K (tCB (rIsi K) (tCons ta (tCons (tC (.ty n)) tNil))) σ H (.bool b) :=
  ei_isi (m := fun _ => True) (tyv := fun _ _ => .none) ha fun v H1 _ r => ⟨_, r.ty, kit_ty hb⟩
theorem ei_isK {n : String} {b : Bool} (ha : EvK K ta σ H ds) (hb : kitB "list" n = some b) : EvI K (tCB (rIsi K) (tCons ta (tCons (tC (.ty n)) tNil))) σ H (.bool b) :=
  ei_isi (m := fun _ => True) (tyv := fun _ _ => .none) ha fun v H1 _ r => ⟨_, r.ty, kit_ty hb⟩
/-! all, any -/
theorem ei_all {bs : List Bool} (ha : EvK K ta σ H (bs.map PyData.bool)) : EvI K (tCB (rAll K) (tCons ta tNil)) σ H (.bool (bs.all id)) := fun H1 e Q q =>
  ha H1 e _ fun x H2 e2 r => by
    obtain ⟨a, xs, rfl, h1, h2⟩ := r
    have := bls_back h2
    subst this
    exact ⟨a, bs, rfl, h1, q _ H2 e2 (.bl _)⟩
end
end DWL
namespace DW
/-! letters are codes 97, 98, 99 -/
def ltr (x : Nat) : Prop := x = 97 ∨ x = 98 ∨ x = 99
/-- a step from one letter to the next -/
def dl (x y : Nat) : Int := if x = 97 ∧ y = 98 then 1 else if x = 98 ∧ y = 97 then -1 else 0
/-- the turn of three letters, going round to the left -/
def tn (x y z : Nat) : Int :=
  if (x = 97 ∧ y = 98 ∧ z = 99) ∨ (x = 98 ∧ y = 99 ∧ z = 97) ∨ (x = 99 ∧ y = 97 ∧ z = 98) then 1
  else if (x = 97 ∧ y = 99 ∧ z = 98) ∨ (x = 99 ∧ y = 98 ∧ z = 97) ∨ (x = 98 ∧ y = 97 ∧ z = 99) then -1 else 0
theorem tn_dl {x y z : Nat} (hx : ltr x) (hy : ltr y) (hz : ltr z) : tn x y z = dl x y + dl y z + dl z x := by
  rcases hx with rfl | rfl | rfl <;> rcases hy with rfl | rfl | rfl <;> rcases hz with rfl | rfl | rfl <;> decide
theorem dl_swap (x y : Nat) : dl y x = - dl x y := by
  unfold dl
  by_cases h1 : x = 97 <;> by_cases h2 : y = 98 <;> by_cases h3 : x = 98 <;> by_cases h4 : y = 97 <;> simp_all <;> omega

abbrev Sm := Nat × Nat × Nat
def l1 (c : Nat → Nat → Nat) (s : Sm) : Nat := if s.2.2 = 1 then c s.1 s.2.1 else c s.1 (s.2.1 + 1)
def l2 (c : Nat → Nat → Nat) (s : Sm) : Nat := if s.2.2 = 1 then c s.1 (s.2.1 + 1) else c (s.1 + 1) (s.2.1 + 1)
def l3 (c : Nat → Nat → Nat) (s : Sm) : Nat := c (s.1 + 1) s.2.1
def tnS (c : Nat → Nat → Nat) (s : Sm) : Int := tn (l1 c s) (l2 c s) (l3 c s)

/-! sums over the first numbers -/
def sm : Nat → (Nat → Int) → Int
  | 0, _ => 0
  | n + 1, f => sm n f + f n
theorem sm_congr {n : Nat} {f g : Nat → Int} (h : ∀ i, i < n → f i = g i) : sm n f = sm n g := by
  induction n with
  | zero => rfl
  | succ n ih =>
    show sm n f + f n = sm n g + g n
    rw [ih fun i hi => h i (by omega), h n (by omega)]
theorem sm_add (n : Nat) (f g : Nat → Int) : sm n (fun i => f i + g i) = sm n f + sm n g := by
  induction n with
  | zero => rfl
  | succ n ih =>
    show sm n (fun i => f i + g i) + (f n + g n) = (sm n f + f n) + (sm n g + g n)
    rw [ih]; omega
theorem sm_neg (n : Nat) (f : Nat → Int) : sm n (fun i => - f i) = - sm n f := by
  induction n with
  | zero => rfl
  | succ n ih =>
    show sm n (fun i => - f i) + - f n = - (sm n f + f n)
    rw [ih]; omega
theorem sm_zero (n : Nat) : sm n (fun _ => 0) = 0 := by
  induction n with
  | zero => rfl
  | succ n ih =>
    show sm n (fun _ => 0) + 0 = 0
    rw [ih]; rfl
theorem sm_split (a b : Nat) (f : Nat → Int) : sm (a + b) f = sm a f + sm b (fun i => f (a + i)) := by
  induction b with
  | zero => show sm a f = sm a f + 0; omega
  | succ b ih =>
    show sm (a + b) f + f (a + b) = sm a f + (sm b (fun i => f (a + i)) + f (a + b))
    rw [ih]; omega
theorem sm_rev (n : Nat) (f : Nat → Int) : sm n (fun i => f (n - 1 - i)) = sm n f := by
  induction n generalizing f with
  | zero => rfl
  | succ n ih =>
    have h1 : sm (n + 1) f = f 0 + sm n (fun i => f (i + 1)) := by
      have := sm_split 1 n f
      rw [Nat.add_comm 1 n] at this
      rw [this]
      have e : sm 1 f = f 0 := by show (0 : Int) + f 0 = f 0; omega
      rw [e]
      exact congrArg (f 0 + ·) (sm_congr fun i _ => by rw [Nat.add_comm 1 i])
    show sm n (fun i => f (n + 1 - 1 - i)) + f (n + 1 - 1 - n) = _
    have e0 : n + 1 - 1 - n = 0 := by omega
    have h2 := ih (fun i => f (i + 1))
    have h3 : sm n (fun i => f (n + 1 - 1 - i)) = sm n (fun i => f (n - 1 - i + 1)) := sm_congr fun i hi => by
      have : n + 1 - 1 - i = n - 1 - i + 1 := by omega
      rw [this]
    rw [h1, e0, h3, h2]; omega
/-- what stands between falls away -/
theorem sm_tele (n : Nat) (f : Nat → Int) : sm n (fun i => f (i + 1) - f i) = f n - f 0 := by
  induction n with
  | zero => show (0 : Int) = f 0 - f 0; omega
  | succ n ih =>
    show sm n (fun i => f (i + 1) - f i) + (f (n + 1) - f n) = _
    rw [ih]; omega

section
variable (c : Nat → Nat → Nat)
/-- along a row; up at the right of it; up at the left -/
def bot (r p : Nat) : Int := dl (c r p) (c r (p + 1))
def slR (r p : Nat) : Int := dl (c r (p + 1)) (c (r + 1) p)
def slL (r p : Nat) : Int := dl (c (r + 1) p) (c r p)
variable (hc : ∀ r p, ltr (c r p))
include hc
theorem tn_up (r p : Nat) : tnS c (r, p, 1) = bot c r p + slR c r p + slL c r p := by
  show tn (c r p) (c r (p + 1)) (c (r + 1) p) = _
  rw [tn_dl (hc _ _) (hc _ _) (hc _ _)]; rfl
theorem tn_dn (r p : Nat) : tnS c (r, p, 0) = - slL c r (p + 1) - bot c (r + 1) p - slR c r p := by
  show tn (c r (p + 1)) (c (r + 1) (p + 1)) (c (r + 1) p) = _
  rw [tn_dl (hc _ _) (hc _ _) (hc _ _)]
  unfold slL bot slR
  rw [dl_swap (c (r + 1) (p + 1)) (c r (p + 1)), dl_swap (c (r + 1) p) (c (r + 1) (p + 1)), dl_swap (c r (p + 1)) (c (r + 1) p)]
  omega
/-- one row of m up ones, and one less down ones -/
theorem row_sum (r m : Nat) (hm : 0 < m) : sm m (fun p => tnS c (r, p, 1)) + sm (m - 1) (fun p => tnS c (r, p, 0)) =
    sm m (bot c r) - sm (m - 1) (bot c (r + 1)) + slR c r (m - 1) + slL c r 0 := by
  obtain ⟨k, rfl⟩ : ∃ k, m = k + 1 := ⟨m - 1, by omega⟩
  have e : k + 1 - 1 = k := by omega
  rw [e]
  have h1 : sm (k + 1) (fun p => tnS c (r, p, 1)) = sm (k + 1) (bot c r) + sm (k + 1) (slR c r) + sm (k + 1) (slL c r) := by
    rw [← sm_add, ← sm_add]
    exact sm_congr fun p _ => tn_up c hc r p
  have h2 : sm k (fun p => tnS c (r, p, 0)) = - sm k (fun p => slL c r (p + 1)) - sm k (bot c (r + 1)) - sm k (slR c r) := by
    have : sm k (fun p => tnS c (r, p, 0)) = sm k (fun p => - slL c r (p + 1) + (- bot c (r + 1) p + - slR c r p)) := sm_congr fun p _ => by
      rw [tn_dn c hc r p]; omega
    rw [this, sm_add, sm_add, sm_neg, sm_neg, sm_neg]; omega
  have h3 : sm (k + 1) (slL c r) = slL c r 0 + sm k (fun p => slL c r (p + 1)) := by
    have := sm_split 1 k (slL c r)
    rw [Nat.add_comm 1 k] at this
    rw [this]
    have e1 : sm 1 (slL c r) = slL c r 0 := by show (0 : Int) + slL c r 0 = _; omega
    rw [e1]
    exact congrArg (slL c r 0 + ·) (sm_congr fun i _ => by rw [Nat.add_comm 1 i])
  have h4 : sm (k + 1) (slR c r) = sm k (slR c r) + slR c r k := rfl
  rw [h1, h2, h3, h4]; omega
/-- all turns, by the rows -/
def turnsR (n : Nat) : Int := sm (n - 1) fun r => sm (n - 1 - r) (fun p => tnS c (r, p, 1)) + sm (n - 1 - r - 1) (fun p => tnS c (r, p, 0))
omit hc in
/-- the side: along the first row, up at the right, down at the left -/
def sideSum (n : Nat) : Int := sm (n - 1) (bot c 0) + sm (n - 1) (fun r => slR c r (n - 1 - r - 1)) + sm (n - 1) (fun r => slL c r 0)
theorem stokes (n : Nat) : turnsR c n = sideSum c n := by
  unfold turnsR sideSum
  have h : sm (n - 1) (fun r => sm (n - 1 - r) (fun p => tnS c (r, p, 1)) + sm (n - 1 - r - 1) (fun p => tnS c (r, p, 0))) =
      sm (n - 1) (fun r => (-(sm (n - 1 - (r + 1)) (bot c (r + 1)) - sm (n - 1 - r) (bot c r))) + (slR c r (n - 1 - r - 1) + slL c r 0)) := sm_congr fun r hr => by
    rw [row_sum c hc r (n - 1 - r) (by omega)]
    have : n - 1 - r - 1 = n - 1 - (r + 1) := by omega
    rw [this]; omega
  rw [h, sm_add, sm_neg, sm_tele (n - 1) (fun r => sm (n - 1 - r) (bot c r)), sm_add]
  have e1 : n - 1 - (n - 1) = 0 := by omega
  have e2 : n - 1 - 0 = n - 1 := by omega
  simp only [e1, e2, sm]; omega
end
end DW
namespace DW
/-! all small triangles, rising -/
def rowSm (n r : Nat) : List Sm := (List.range (n - 1 - r)).flatMap fun p => if p + 1 < n - 1 - r then [(r, p, 0), (r, p, 1)] else [(r, p, 1)]
def smalls (n : Nat) : List Sm := (List.range (n - 1)).flatMap (rowSm n)
/-- as the program finds them -/
def rowSm0 (n r : Nat) : List Sm := (List.range (n - 1 - r)).flatMap fun p => if p + 1 < n - 1 - r then [(r, p, 1), (r, p, 0)] else [(r, p, 1)]
def smalls0 (n : Nat) : List Sm := (List.range (n - 1)).flatMap (rowSm0 n)
def IsSm (n : Nat) (s : Sm) : Prop := (s.2.2 = 1 ∧ s.1 + s.2.1 + 1 < n) ∨ (s.2.2 = 0 ∧ s.1 + s.2.1 + 2 < n)
instance (n : Nat) (s : Sm) : Decidable (IsSm n s) := by unfold IsSm; exact inferInstance
theorem mem_rowSm {n r : Nat} {s : Sm} : s ∈ rowSm n r ↔ s.1 = r ∧ IsSm n s := by
  obtain ⟨a, b, u⟩ := s
  unfold rowSm IsSm
  simp only [List.mem_flatMap, List.mem_range]
  constructor
  · rintro ⟨p, hp, h⟩
    split at h <;> simp only [List.mem_cons, List.not_mem_nil, or_false, Prod.mk.injEq] at h
    · rcases h with ⟨rfl, rfl, rfl⟩ | ⟨rfl, rfl, rfl⟩
      · exact ⟨rfl, .inr ⟨rfl, by show a + b + 2 < n; omega⟩⟩
      · exact ⟨rfl, .inl ⟨rfl, by show a + b + 1 < n; omega⟩⟩
    · obtain ⟨rfl, rfl, rfl⟩ := h
      exact ⟨rfl, .inl ⟨rfl, by show a + b + 1 < n; omega⟩⟩
  · rintro ⟨rfl, ⟨rfl, h⟩ | ⟨rfl, h⟩⟩ 
    · have h : a + b + 1 < n := h
      refine ⟨b, by omega, ?_⟩
      split <;> simp
    · have h : a + b + 2 < n := h
      refine ⟨b, by omega, ?_⟩
      rw [if_pos (by omega)]; simp
theorem mem_smalls {n : Nat} {s : Sm} : s ∈ smalls n ↔ IsSm n s := by
  unfold smalls
  simp only [List.mem_flatMap, List.mem_range, mem_rowSm]
  constructor
  · rintro ⟨r, _, _, h⟩; exact h
  · intro h
    refine ⟨s.1, ?_, rfl, h⟩
    unfold IsSm at h; omega

/-! rising: by row, place, up -/
def ltS (s t : Sm) : Prop := s.1 < t.1 ∨ (s.1 = t.1 ∧ (s.2.1 < t.2.1 ∨ (s.2.1 = t.2.1 ∧ s.2.2 < t.2.2)))
theorem pair_flat {α : Type} (R : α → α → Prop) (f : Nat → List α) : ∀ n, (∀ i, i < n → (f i).Pairwise R) → (∀ i j, i < j → j < n → ∀ x ∈ f i, ∀ y ∈ f j, R x y) → ((List.range n).flatMap f).Pairwise R
  | 0, _, _ => by simp
  | n + 1, h1, h2 => by
    rw [List.range_succ, List.flatMap_append, List.pairwise_append]
    refine ⟨pair_flat R f n (fun i hi => h1 i (by omega)) (fun i j hij hj => h2 i j hij (by omega)), ?_, ?_⟩
    · simpa using h1 n (by omega)
    · intro x hx y hy
      obtain ⟨i, hi, hx⟩ := List.mem_flatMap.mp hx
      have hi := List.mem_range.mp hi
      have hy : y ∈ f n := by simpa using hy
      exact h2 i n hi (by omega) x hx y hy
theorem smalls_rising (n : Nat) : (smalls n).Pairwise ltS := by
  refine pair_flat ltS _ _ (fun r _ => ?_) fun i j hij _ x hx y hy => ?_
  · refine pair_flat ltS _ _ (fun p _ => ?_) fun i j hij _ x hx y hy => ?_
    · split
      · simp [ltS]
      · simp
    · have e1 : x.1 = r ∧ x.2.1 = i := by
        split at hx <;> simp only [List.mem_cons, List.not_mem_nil, or_false] at hx
        · rcases hx with rfl | rfl <;> exact ⟨rfl, rfl⟩
        · rw [hx]; exact ⟨rfl, rfl⟩
      have e2 : y.1 = r ∧ y.2.1 = j := by
        split at hy <;> simp only [List.mem_cons, List.not_mem_nil, or_false] at hy
        · rcases hy with rfl | rfl <;> exact ⟨rfl, rfl⟩
        · rw [hy]; exact ⟨rfl, rfl⟩
      unfold ltS; omega
  · have e1 := (mem_rowSm.mp hx).1
    have e2 := (mem_rowSm.mp hy).1
    unfold ltS; omega
theorem perm_flat {α : Type} (f g : Nat → List α) : ∀ n, (∀ i, i < n → (f i).Perm (g i)) → ((List.range n).flatMap f).Perm ((List.range n).flatMap g)
  | 0, _ => by simp
  | n + 1, h => by
    rw [List.range_succ, List.flatMap_append, List.flatMap_append]
    refine (perm_flat f g n fun i hi => h i (by omega)).append ?_
    simpa using h n (by omega)
theorem smalls_perm (n : Nat) : (smalls0 n).Perm (smalls n) := by
  refine perm_flat _ _ _ fun r _ => perm_flat _ _ _ fun p _ => ?_
  split
  · exact List.Perm.swap _ _ _
  · exact List.Perm.refl _
theorem ltS_asym {s t : Sm} (h : ltS s t) : ¬ ltS t s := by unfold ltS at *; omega
theorem ltS_irr (s : Sm) : ¬ ltS s s := by unfold ltS; omega
/-- two lists of the same things, none twice ahead of a lesser one, are one -/
theorem rise_uniq : ∀ {l m : List Sm}, l.Perm m → m.Pairwise ltS → l.Pairwise (fun x y => ¬ ltS y x) → l = m
  | [], m, h, _, _ => (List.Perm.eq_nil h.symm).symm
  | x :: l, [], h, _, _ => absurd h.length_eq (by simp)
  | x :: l, y :: m, h, hm, hl => by
    have hm' := List.pairwise_cons.mp hm
    have hl' := List.pairwise_cons.mp hl
    have e : x = y := by
      rcases List.mem_cons.mp (h.mem_iff.mp (List.mem_cons_self (a := x) (l := l))) with e | hx
      · exact e
      · rcases List.mem_cons.mp (h.mem_iff.mpr (List.mem_cons_self (a := y) (l := m))) with e | hy
        · exact e.symm
        · exact absurd (hm'.1 x hx) (hl'.1 y hy)
    subst e
    rw [rise_uniq h.cons_inv hm'.2 hl'.2]
theorem smalls_nodup (n : Nat) : (smalls n).Nodup := (smalls_rising n).imp fun {a b} h e => by subst e; exact ltS_irr _ h

/-! sums over lists -/
theorem sum_flat (f : Nat → List Int) : ∀ n, ((List.range n).flatMap f).sum = sm n fun i => (f i).sum
  | 0 => by simp [sm]
  | n + 1 => by
    rw [List.range_succ, List.flatMap_append, List.sum_append, sum_flat f n]
    simp [sm]
theorem sum_map_range (f : Nat → Int) (n : Nat) : ((List.range n).map f).sum = sm n f := by
  induction n with
  | zero => rfl
  | succ n ih => rw [List.range_succ, List.map_append, List.sum_append, ih]; simp [sm]
def turnSum (n : Nat) (c : Nat → Nat → Nat) : Int := ((smalls n).map (tnS c)).sum
theorem turnSum_rows (n : Nat) (c : Nat → Nat → Nat) : turnSum n c = turnsR c n := by
  unfold turnSum smalls turnsR
  rw [List.map_flatMap, sum_flat]
  refine sm_congr fun r hr => ?_
  unfold rowSm
  rw [List.map_flatMap, sum_flat]
  obtain ⟨k, hk⟩ : ∃ k, n - 1 - r = k + 1 := ⟨n - 1 - r - 1, by omega⟩
  rw [hk]
  show sm k (fun i => (List.map (tnS c) (if i + 1 < k + 1 then [(r, i, 0), (r, i, 1)] else [(r, i, 1)])).sum) + (List.map (tnS c) (if k + 1 < k + 1 then [(r, k, 0), (r, k, 1)] else [(r, k, 1)])).sum = (sm k (fun p => tnS c (r, p, 1)) + tnS c (r, k, 1)) + sm k (fun p => tnS c (r, p, 0))
  rw [if_neg (Nat.lt_irrefl _)]
  have h : sm k (fun i => (List.map (tnS c) (if i + 1 < k + 1 then [(r, i, 0), (r, i, 1)] else [(r, i, 1)])).sum) = sm k (fun p => tnS c (r, p, 1) + tnS c (r, p, 0)) := sm_congr fun i hi => by
    rw [if_pos (by omega)]
    simp only [List.map_cons, List.map_nil, List.sum_cons, List.sum_nil]; omega
  rw [h, sm_add]
  simp only [List.map_cons, List.map_nil, List.sum_cons, List.sum_nil]; omega

/-! the side: its spots, its steps -/
abbrev Sp2 := Nat × Nat
def sideSp (n : Nat) : List Sp2 := (List.range (n - 1)).map (fun p => (0, p)) ++ (List.range (n - 1)).map (fun r => (r, n - 1 - r)) ++ (List.range n).map (fun r => (n - 1 - r, 0))
/-- the spot k of the side, k from 0 to three times the steps of a row -/
def spotAt (n k : Nat) : Sp2 := if k < n - 1 then (0, k) else if k < 2 * (n - 1) then (k - (n - 1), 2 * (n - 1) - k) else (3 * (n - 1) - k, 0)
theorem sideSp_len (n : Nat) (h : 1 ≤ n) : (sideSp n).length = 3 * (n - 1) + 1 := by
  unfold sideSp; simp; omega
theorem sideSp_eq (n : Nat) (h : 1 ≤ n) : sideSp n = (List.range (3 * (n - 1) + 1)).map (spotAt n) := by
  refine List.ext_getElem? fun k => ?_
  unfold sideSp
  rw [List.getElem?_map]
  by_cases h1 : k < n - 1
  · rw [List.append_assoc, List.getElem?_append_left (by simpa using h1), List.getElem?_map, List.getElem?_range h1, List.getElem?_range (by omega)]
    simp [spotAt, h1]
  · by_cases h2 : k < 2 * (n - 1)
    · rw [List.getElem?_append_left (by simp; omega), List.getElem?_append_right (by simp; omega), List.getElem?_map]
      simp only [List.length_map, List.length_range]
      rw [List.getElem?_range (by omega), List.getElem?_range (by omega)]
      simp only [Option.map_some, spotAt, if_neg h1, if_pos h2, Option.some.injEq, Prod.mk.injEq, true_and]
      omega
    · by_cases h3 : k < 3 * (n - 1) + 1
      · rw [List.getElem?_append_right (by simp; omega), List.getElem?_map]
        simp only [List.length_append, List.length_map, List.length_range]
        rw [List.getElem?_range (by omega), List.getElem?_range (by omega)]
        simp only [Option.map_some, spotAt, if_neg h1, if_neg h2, Option.some.injEq, Prod.mk.injEq, and_true]
        omega
      · rw [List.getElem?_eq_none (by simp; omega), List.getElem?_eq_none (by simp; omega)]
        rfl
def lt2 (c : Nat → Nat → Nat) (s : Sp2) : Nat := c s.1 s.2
/-- the step k of the side -/
def stepAt (n : Nat) (c : Nat → Nat → Nat) (k : Nat) : Int := dl (lt2 c (spotAt n k)) (lt2 c (spotAt n (k + 1)))
def around (n : Nat) (c : Nat → Nat → Nat) : Int := ((List.range (3 * (n - 1))).map (stepAt n c)).sum
def doors (n : Nat) (c : Nat → Nat → Nat) : List Nat := (List.range (3 * (n - 1))).filter fun k => decide (stepAt n c k ≠ 0)
def fulls (n : Nat) (c : Nat → Nat → Nat) : List Sm := (smalls n).filter fun s => decide (tnS c s ≠ 0)
theorem step_bot (n : Nat) (c : Nat → Nat → Nat) {k : Nat} (h : k < n - 1) : stepAt n c k = bot c 0 k := by
  unfold stepAt bot lt2
  have e1 : spotAt n k = (0, k) := if_pos h
  have e2 : spotAt n (k + 1) = (0, k + 1) := by
    unfold spotAt
    split
    · rfl
    · rw [if_pos (by omega)]
      simp only [Prod.mk.injEq]; omega
  rw [e1, e2]
theorem step_right (n : Nat) (c : Nat → Nat → Nat) {r : Nat} (h : r < n - 1) : stepAt n c (n - 1 + r) = slR c r (n - 1 - r - 1) := by
  unfold stepAt slR lt2
  have e1 : spotAt n (n - 1 + r) = (r, n - 1 - r - 1 + 1) := by
    unfold spotAt
    rw [if_neg (by omega), if_pos (by omega)]
    simp only [Prod.mk.injEq]; omega
  have e2 : spotAt n (n - 1 + r + 1) = (r + 1, n - 1 - r - 1) := by
    unfold spotAt
    rw [if_neg (by omega)]
    split
    · simp only [Prod.mk.injEq]; omega
    · simp only [Prod.mk.injEq]; omega
  rw [e1, e2]
theorem step_left (n : Nat) (c : Nat → Nat → Nat) {i : Nat} (h : i < n - 1) : stepAt n c (2 * (n - 1) + i) = slL c (n - 1 - 1 - i) 0 := by
  unfold stepAt slL lt2
  have e1 : spotAt n (2 * (n - 1) + i) = (n - 1 - 1 - i + 1, 0) := by
    unfold spotAt
    rw [if_neg (by omega), if_neg (by omega)]
    simp only [Prod.mk.injEq, and_true]; omega
  have e2 : spotAt n (2 * (n - 1) + i + 1) = (n - 1 - 1 - i, 0) := by
    unfold spotAt
    rw [if_neg (by omega), if_neg (by omega)]
    simp only [Prod.mk.injEq, and_true]; omega
  rw [e1, e2]
theorem around_side (n : Nat) (c : Nat → Nat → Nat) : around n c = sideSum c n := by
  unfold around sideSum
  rw [sum_map_range, show 3 * (n - 1) = (n - 1 + (n - 1)) + (n - 1) by omega, sm_split, sm_split]
  have h1 : sm (n - 1) (stepAt n c) = sm (n - 1) (bot c 0) := sm_congr fun k h => step_bot n c h
  have h2 : sm (n - 1) (fun i => stepAt n c (n - 1 + i)) = sm (n - 1) (fun r => slR c r (n - 1 - r - 1)) := sm_congr fun r h => step_right n c h
  have h3 : sm (n - 1) (fun i => stepAt n c (n - 1 + (n - 1) + i)) = sm (n - 1) (fun r => slL c r 0) := by
    rw [← sm_rev (n - 1) (fun r => slL c r 0)]
    refine sm_congr fun i h => ?_
    have := step_left n c h
    rw [show n - 1 + (n - 1) + i = 2 * (n - 1) + i by omega, this]
  rw [h1, h2, h3]
/-- THE LAW OF [4] -/
theorem around_turns (n : Nat) (c : Nat → Nat → Nat) (hc : ∀ r p, ltr (c r p)) : turnSum n c = around n c := by
  rw [turnSum_rows, around_side, stokes c hc]

/-! [5] -/
def barred (n : Nat) (c : Nat → Nat → Nat) (r p : Nat) : Prop := (r = 0 ∧ c r p = 99) ∨ (p = 0 ∧ c r p = 98) ∨ (r + p = n - 1 ∧ c r p = 97)
instance (n : Nat) (c : Nat → Nat → Nat) (r p : Nat) : Decidable (barred n c r p) := by unfold barred; exact inferInstance
def Kept (n : Nat) (c : Nat → Nat → Nat) : Prop := ∀ r p, r + p < n → ¬ barred n c r p
theorem kept_around {n : Nat} (hn : 2 ≤ n) {c : Nat → Nat → Nat} (hc : ∀ r p, ltr (c r p)) (k : Kept n c) : around n c = 1 := by
  rw [around_side]
  unfold sideSum
  have e2 : sm (n - 1) (fun r => slR c r (n - 1 - r - 1)) = 0 := by
    rw [← sm_zero (n - 1)]
    refine sm_congr fun r hr => ?_
    unfold slR dl
    have a := k r (n - 1 - r - 1 + 1) (by omega)
    have b := k (r + 1) (n - 1 - r - 1) (by omega)
    unfold barred at a b
    rw [if_neg (by omega), if_neg (by omega)]
  have e3 : sm (n - 1) (fun r => slL c r 0) = 0 := by
    rw [← sm_zero (n - 1)]
    refine sm_congr fun r hr => ?_
    unfold slL dl
    have a := k r 0 (by omega)
    have b := k (r + 1) 0 (by omega)
    unfold barred at a b
    rw [if_neg (by omega), if_neg (by omega)]
  have e1 : sm (n - 1) (bot c 0) = 1 := by
    have h : sm (n - 1) (bot c 0) = sm (n - 1) (fun i => (fun p => if c 0 p = 98 then (1 : Int) else 0) (i + 1) - (fun p => if c 0 p = 98 then (1 : Int) else 0) i) := sm_congr fun p hp => by
      have a := k 0 p (by omega)
      have b := k 0 (p + 1) (by omega)
      have l1 := hc 0 p
      have l2 := hc 0 (p + 1)
      unfold barred at a b
      unfold bot dl
      unfold ltr at l1 l2
      have a' : c 0 p = 97 ∨ c 0 p = 98 := by omega
      have b' : c 0 (p + 1) = 97 ∨ c 0 (p + 1) = 98 := by omega
      rcases a' with a' | a' <;> rcases b' with b' | b' <;> simp [a', b']
    rw [h, sm_tele (n - 1) (fun p => if c 0 p = 98 then (1 : Int) else 0)]
    have a := k 0 0 (by omega)
    have b := k 0 (n - 1) (by omega)
    have l2 := hc 0 (n - 1)
    unfold barred at a b
    unfold ltr at l2
    have a' : c 0 0 ≠ 98 := by omega
    have b' : c 0 (n - 1) = 98 := by omega
    rw [if_pos b', if_neg a']
    rfl
  rw [e1, e2, e3]; rfl
theorem sum_none {l : List Sm} {c : Nat → Nat → Nat} (h : l.filter (fun s => decide (tnS c s ≠ 0)) = []) : (l.map (tnS c)).sum = 0 := by
  induction l with
  | nil => rfl
  | cons s l ih =>
    by_cases e : tnS c s ≠ 0
    · rw [List.filter_cons_of_pos (by simpa using e)] at h; cases h
    · rw [List.filter_cons_of_neg (by simpa using e)] at h
      rw [List.map_cons, List.sum_cons, ih h]; omega
/-- SPERNER -/
theorem kept_full {n : Nat} (hn : 2 ≤ n) {c : Nat → Nat → Nat} (hc : ∀ r p, ltr (c r p)) (k : Kept n c) : fulls n c ≠ [] := fun h => by
  have e := around_turns n c hc
  rw [kept_around hn hc k] at e
  have z := sum_none h
  unfold turnSum at e
  rw [z] at e; cases e
/-! parity -/
theorem par_sum {α : Type} (f : α → Int) (h : ∀ x, f x = 0 ∨ f x = 1 ∨ f x = -1) : ∀ l : List α, ((l.filter fun x => decide (f x ≠ 0)).length : Int) % 2 = (l.map f).sum % 2
  | [] => rfl
  | x :: l => by
    have ih := par_sum f h l
    rw [List.map_cons, List.sum_cons]
    rcases h x with e | e | e
    · rw [List.filter_cons_of_neg (by simp [e]), e]; omega
    · rw [List.filter_cons_of_pos (by simp [e]), e, List.length_cons]; omega
    · rw [List.filter_cons_of_pos (by simp [e]), e, List.length_cons]; omega
theorem dl_vals (x y : Nat) : dl x y = 0 ∨ dl x y = 1 ∨ dl x y = -1 := by
  unfold dl; split
  · simp
  · split <;> simp
theorem tn_vals (x y z : Nat) : tn x y z = 0 ∨ tn x y z = 1 ∨ tn x y z = -1 := by
  unfold tn; split
  · simp
  · split <;> simp
theorem parity (n : Nat) (c : Nat → Nat → Nat) (hc : ∀ r p, ltr (c r p)) : (fulls n c).length % 2 = (doors n c).length % 2 := by
  have h1 := par_sum (tnS c) (fun s => tn_vals _ _ _) (smalls n)
  have h2 := par_sum (stepAt n c) (fun s => dl_vals _ _) (List.range (3 * (n - 1)))
  have h3 := around_turns n c hc
  unfold turnSum around at h3
  unfold fulls doors
  rw [h3] at h1
  omega
/-! corners, letters -/
abbrev L3 : List Nat := [97, 98, 99]
theorem ltr_mem {x : Nat} (h : ltr x) : x ∈ L3 := by
  rcases h with rfl | rfl | rfl <;> decide
/-- the corners of a small triangle, going round to the left -/
def cor (s : Sm) (e : Nat) : Sp2 :=
  if s.2.2 = 1 then (if e = 0 then (s.1, s.2.1) else if e = 1 then (s.1, s.2.1 + 1) else (s.1 + 1, s.2.1))
  else (if e = 0 then (s.1, s.2.1 + 1) else if e = 1 then (s.1 + 1, s.2.1 + 1) else (s.1 + 1, s.2.1))
theorem lt_cor0 (c : Nat → Nat → Nat) (s : Sm) : lt2 c (cor s 0) = l1 c s := by
  unfold cor l1 lt2; split <;> simp
theorem lt_cor1 (c : Nat → Nat → Nat) (s : Sm) : lt2 c (cor s 1) = l2 c s := by
  unfold cor l2 lt2; split <;> simp
theorem lt_cor2 (c : Nat → Nat → Nat) (s : Sm) : lt2 c (cor s 2) = l3 c s := by
  unfold cor l3 lt2; split <;> simp
end DW
namespace DWL
open PySem PySem.Spec PyProof.Rows L2 Evl
/-! ### a def as it stands, a def that keeps its promise -/
def Def (K : PySem.W.Frag) (mg : Str → Option Value) (x : Str) (st : Stmt) : Prop := ∃ f fd, FunD K x x (defArgs st) (defBody st) (defScope st) [] [] f fd ∧ mg x = some (.ref f)
def Callee (P : Program) (w : World) (K : PySem.W.Frag) (mg : Str → Option Value) (base : Heap) (CX : CXT) (k : Nat) (x : Str) (ps : List Str) (sp : Sp) : Prop :=
  ∃ f fd, FnOk P w K mg base CX k f fd ps sp ∧ mg x = some (.ref f) ∧ PySem.W.keepIn K (.ref f) = true ∧ Binds K fd ps []
section
variable {P : Program} {w : World} {K : PySem.W.Frag} {mg : Str → Option Value} {base : Heap}
theorem Def.ok {x : Str} {st : Stmt} {N ps : List Str} {k : Nat} {sp : Sp} (F : Def K mg x st) (S : FnScope N ps (defScope st))
    (hb : ∀ (kV doc pm : Value) (an : Option Addr) (cdv ct : Value) (us : List Value), us.length = ps.length → bindArgs (PySem.W.fnOf x x (defArgs st) (defBody st) (defScope st) .none kV doc pm an cdv ct) ⟨us, []⟩ = pure (ps.zip us)) (len : ∀ vs H Q E, sp vs H Q E → vs.length = ps.length)
    (hbody : ∀ (f : Addr) (cdv : Value) (A : Around) (outer : List Env) (s : Shared) (H : Hp) (vs : List V) (Q : VK) (E : XK), Room k (A.deeper (envOfC x (defScope st) s.heap.objs.size f cdv)) → sp vs H Q E →
      ∃ t, PSs (cxOf CX0 P w K mg base N x (defScope st) f cdv A outer s H E).nox (defBody st) t ∧ t { nx := fun _ H' => Q .non H', rt := Q } (start N vs) H) : Callee P w K mg base CX0 (k + 1) x ps sp := by
  obtain ⟨f, fd, hF, hg⟩ := F
  refine ⟨f, fd, hF.ok S len fun cdv A outer s H vs Q E hr hsp => ?_, hg, hF.kp, hF.bindsN hb⟩
  obtain ⟨t, h, q⟩ := hbody f cdv A outer s H vs Q E hr hsp
  exact ⟨t, h.nox, q⟩
theorem Callee.imp {CX : CXT} {k : Nat} {x : Str} {ps : List Str} {sp sp' : Sp} (c : Callee P w K mg base CX k x ps sp) (h : ∀ vs H Q E, sp' vs H Q E → sp vs H Q E) : Callee P w K mg base CX k x ps sp' := by
  obtain ⟨f, fd, c1, c2⟩ := c
  exact ⟨f, fd, c1.imp h, c2⟩
end
section
variable {X : Cx} {e : Expr} {es : List Expr} {ta : TA} {p pos : Pos}
theorem pe_callC {x : Str} {k : Nat} {ps : List Str} {sp : Sp} (c : Callee X.prog X.w X.K X.mg X.base CX0 k x ps sp) (hr : Room k X.A) (hg : Gl X x)
    (ha : PA X (e :: es) ta) (hdb : (x == ("__debug__" : Str)) = false := by decide) (he : starEach (e :: es) X.env = (false, eval e X.env) :: starEach es X.env := by rfl) (hpl : (backTo pos (starEach es X.env)).any (·.1) = false := by rfl) :
    PE X (.Call (.Name x p) (e :: es) [] pos) (tCall sp [] E0 ta) := by
  obtain ⟨f, fd, c1, c2, c3, c4⟩ := c
  exact pe_call c1 hr hg c2 c3 c4 .nil pass0 ha hdb he hpl
end
theorem units65 {k : Nat} {A : Around} (hr : Room k A) : A.units + 65 < cLine := by have := hr.un; omega
/-! ### statements, the rest of the block behind each -/
section
variable {K : PySem.W.Frag} {σ : L2.St} {H H' : Hp} {ta tb te : TE} {t : TT} {R : V → Hp → Prop} {d : PyData} {ds : List PyData} {D : Ends} {tu tw tz : TS}
theorem y_ret (R : V → Hp → Prop) (h : EvX te σ H R) (k : ∀ v H1, Ex H H1 → R v H1 → D.rt v H1) : tSeq (tRet te) tz D σ H := h H (Ex.refl H) _ k
theorem y_retI (K : PySem.W.Frag) (d : PyData) (h : EvI K te σ H d) (k : ∀ v H1, Ex H H1 → Im K H1 v d → D.rt v H1) : tSeq (tRet te) tz D σ H := h H (Ex.refl H) _ k
theorem y_retN (K : PySem.W.Frag) (ds : List PyData) (h : EvN K te σ H ds) (k : ∀ p xs H1, H p = none → Ex H H1 → H1 p = some (.lst xs) → ImAll K H1 xs ds → D.rt (.ref p) H1) : tSeq (tRet te) tz D σ H := h H (Ex.refl H) _ k
theorem y_asg {i : Nat} (R : V → Hp → Prop) (h : EvX te σ H R) (k : ∀ v H1, Ex H H1 → R v H1 → tz D (σ.set i (some v)) H1) : tSeq (tAsg te (gName i)) tz D σ H := h H (Ex.refl H) _ k
theorem y_asgI {i : Nat} (K : PySem.W.Frag) (d : PyData) (h : EvI K te σ H d) (k : ∀ v H1, Ex H H1 → Im K H1 v d → tz D (σ.set i (some v)) H1) : tSeq (tAsg te (gName i)) tz D σ H := h H (Ex.refl H) _ k
theorem y_asgN {i : Nat} (K : PySem.W.Frag) (ds : List PyData) (h : EvN K te σ H ds) (k : ∀ p xs H1, H p = none → Ex H H1 → H1 p = some (.lst xs) → ImAll K H1 xs ds → tz D (σ.set i (some (.ref p))) H1) : tSeq (tAsg te (gName i)) tz D σ H := h H (Ex.refl H) _ k
theorem y_asgG {i : Nat} (K : PySem.W.Frag) (ds : List PyData) (h : EvN K te σ H ds) (k : ∀ p H1, Grow K H H1 p ds → tz D (σ.set i (some (.ref p))) H1) : tSeq (tAsg te (gName i)) tz D σ H := h H (Ex.refl H) _ fun p xs H1 hp e h1 h2 => k p H1 ⟨hp, e, xs, h1, h2⟩
theorem y_next (k : D.nx σ H) : tNext D σ H := k
theorem y_tup {g : TG} (h : EvX te σ H R) (k : ∀ v H1, Ex H H1 → R v H1 → g v σ H1 (fun σ2 H2 => tz D σ2 H2)) : tSeq (tAsg te g) tz D σ H := h H (Ex.refl H) _ k
theorem y_if (b : Bool) (h : EvT t σ H b) (h1 : b = true → ∀ H1, Ex H H1 → tu { D with nx := tz D } σ H1) (h2 : b = false → ∀ H1, Ex H H1 → tw { D with nx := tz D } σ H1) : tSeq (tIfS t tu tw) tz D σ H := q_if h h1 h2
theorem y_when (b : Bool) (h : EvT t σ H b) (h1 : b = true → ∀ H1, Ex H H1 → tu { D with nx := tz D } σ H1) (h2 : b = false → ∀ H1, Ex H H1 → tz D σ H1) : tSeq (tIfS t tu tNext) tz D σ H := q_if h h1 h2
/-- an if whose test fails -/
theorem y_no (h : EvT t σ H false) (h2 : ∀ H1, Ex H H1 → tz D σ H1) : tSeq (tIfS t tu tNext) tz D σ H := q_if h (fun q => nomatch q) fun _ => h2
theorem y_yes (h : EvT t σ H true) (h1 : ∀ H1, Ex H H1 → tu { D with nx := tz D } σ H1) : tSeq (tIfS t tu tw) tz D σ H := q_if h (fun _ => h1) (fun q => nomatch q)
end
end DWL
/-! ### triangles as data -/
namespace DWL
open PySem PySem.Spec PyProof.Rows L2 Evl DW
def rowS (n : Nat) (c : Nat → Nat → Nat) (r : Nat) : Str := ⟨((List.range (n - r)).map (c r)).toArray⟩
def triD (n : Nat) (c : Nat → Nat → Nat) : List Str := (List.range n).map (rowS n c)
theorem triD_len (n : Nat) (c : Nat → Nat → Nat) : (triD n c).length = n := by simp [triD]
theorem triD_get {n : Nat} {c : Nat → Nat → Nat} {r : Nat} (h : r < n) : (triD n c)[r]? = some (rowS n c r) := by simp [triD, h]
theorem rowS_len (n : Nat) (c : Nat → Nat → Nat) (r : Nat) : (rowS n c r).length = n - r := by simp [rowS, Str.length]
theorem rowS_list (n : Nat) (c : Nat → Nat → Nat) (r : Nat) : (rowS n c r).cps.toList = (List.range (n - r)).map (c r) := by simp [rowS]
theorem rowS_get {n : Nat} {c : Nat → Nat → Nat} {r p : Nat} (h : r + p < n) : (rowS n c r).cps.toList[p]? = some (c r p) := by
  rw [rowS_list, List.getElem?_map, List.getElem?_range (by omega)]; rfl
structure Tri (K : PySem.W.Frag) (H : Hp) (v : V) (n : Nat) (c : Nat → Nat → Nat) : Prop where
  two : 2 ≤ n
  few : n ≤ 60
  ltr : ∀ r p, DW.ltr (c r p)
  ls : Ls K H v ((triD n c).map PyData.str)
theorem Tri.mono {K : PySem.W.Frag} {H H' : Hp} {v : V} {n : Nat} {c : Nat → Nat → Nat} (e : Ex H H') (t : Tri K H v n c) : Tri K H' v n c := ⟨t.two, t.few, t.ltr, t.ls.mono e⟩
def tri3 (a b c : Int) : PyData := .tuple [.int a, .int b, .int c]
def pr2 (a b : Int) : PyData := .tuple [.int a, .int b]
def smD (s : Sm) : PyData := tri3 s.1 s.2.1 s.2.2
def spD (s : Sp2) : PyData := pr2 s.1 s.2
section
variable {K : PySem.W.Frag} {σ : L2.St} {H : Hp} {ta tb te : TE} {v : V} {n : Nat} {c : Nat → Nat → Nat} {i : Nat}
theorem et_len (hv : σ[i]? = some (some v)) (t : Tri K H v n c) : EvI K (tCB (fun xs H Q => ∃ p ys, xs = [.ref p] ∧ (SqL K H p ys ∨ SqT K H p ys) ∧ Q (.int ys.length) H) (tCons (tVar i) tNil)) σ H (.int (n : Int)) :=
  EvI.to (ei_lenK (ek_var hv t.ls)) (by simp [triD])
/-- triangle[row][place] -/
theorem ei_at {r p : Nat} (hv : σ[i]? = some (some v)) (t : Tri K H v n c) (ha : EvI K ta σ H (.int (r : Int))) (hb : EvI K tb σ H (.int (p : Int))) (h : r + p < n) : EvI K (tOp rIxS (tOp (rIxL K) (tVar i) ta) tb) σ H (.str ⟨#[c r p]⟩) := by
  refine ei_ixS (z := rowS n c r) (ei_ixK (ek_var hv t.ls) ha (atI_nat ?_)) hb (by rw [rowS_len]; have := t.few; omega) (atI_nat (rowS_get h))
  rw [List.getElem?_map, triD_get (by omega)]; rfl
end
end DWL
namespace DWL
open PySem PySem.Spec PyProof.Rows L2 Evl DW
section
variable {K : PySem.W.Frag} {σ : L2.St} {H : Hp} {ta tb te : TE} {d : PyData} {ds : List PyData}
theorem ei_join {a : Str} {ys : List Str} (ho : EvI K ta σ H (.str a)) (h : EvK K te σ H (ys.map PyData.str)) (hl : (ys.map (·.length)).sum + ys.length * a.length ≤ 16777216) :
    EvI K (tM1 (fun x xs H Q => ∃ a p, ∃ ys : List Str, x = .str a ∧ xs = [.ref p] ∧ (SqL K H p (ys.map V.str) ∨ SqT K H p (ys.map V.str)) ∧ (ys.map (·.length)).sum + ys.length * a.length ≤ 16777216 ∧ Q (.str (Txt.join a ys)) H) ta te) σ H (.str (Txt.join a ys)) := fun H1 e Q q =>
  ho H1 e _ fun x H2 e2 r1 => by
    cases r1
    refine ⟨⟨a, rfl⟩, h H2 (e.trans e2) _ fun y H3 e3 r2 => ?_⟩
    obtain ⟨p, xs, rfl, g1, g2⟩ := r2
    have := strs_back g2
    subst this
    exact ⟨a, p, ys, rfl, rfl, .inl g1, hl, q _ H3 (e2.trans e3) (.str _)⟩
theorem ei_find {a b : Str} (ho : EvI K ta σ H (.str a)) (h : EvI K te σ H (.str b)) : EvI K (tM1 (fun x xs H Q => ∃ a b, x = .str a ∧ xs = [.str b] ∧ Q (.int (Txt.find a b)) H) ta te) σ H (.int (Txt.find a b)) := fun H1 e Q q =>
  ho H1 e _ fun x H2 e2 r1 => by
    cases r1
    refine ⟨⟨a, rfl⟩, h H2 (e.trans e2) _ fun y H3 e3 r2 => ?_⟩
    cases r2
    exact ⟨a, b, rfl, rfl, q _ H3 (e2.trans e3) (.int _)⟩
theorem ei_strip {a b : Str} (ho : EvI K ta σ H (.str a)) (h : EvI K te σ H (.str b)) (hl : a.length ≤ 100000) :
    EvI K (tBM K "str" (fun x xs H Q => ∃ a b, x = .str a ∧ xs = [.str b] ∧ a.length ≤ sizeLine ∧ Q (.str (Txt.stripChars a b)) H) ta (tCons te tNil)) σ H (.str (Txt.stripChars a b)) := fun H1 e Q q =>
  ho H1 e _ fun x H2 e2 r1 => by
    cases r1
    refine ⟨rfl, h H2 (e.trans e2) _ fun y H3 e3 r2 => ?_⟩
    cases r2
    exact ⟨a, b, rfl, rfl, sz_of hl, q _ H3 (e2.trans e3) (.str _)⟩
theorem flat_strs : ∀ ys : List Str, (ys.map V.str).all flatV = true
  | [] => rfl
  | _ :: ys => flat_strs ys
theorem flat_ints : ∀ ys : List Int, (ys.map V.int).all flatV = true
  | [] => rfl
  | _ :: ys => flat_ints ys
theorem inV_strs (z : Str) : ∀ ys : List Str, inV (.str z) (ys.map V.str) = ys.any fun y => y == z
  | [] => rfl
  | y :: ys => by
    show (eqV (.str y) (.str z) || inV (.str z) (ys.map V.str)) = ((y == z) || ys.any fun y => y == z)
    rw [inV_strs z ys]; rfl
theorem inV_ints (z : Int) : ∀ ys : List Int, inV (.int z) (ys.map V.int) = ys.any fun y => y == z
  | [] => rfl
  | y :: ys => by
    show (eqV (.int y) (.int z) || inV (.int z) (ys.map V.int)) = ((y == z) || ys.any fun y => y == z)
    rw [inV_ints z ys]; rfl
/-- z in (a, b, ..), texts -/
theorem ei_inST {z : Str} {ys : List Str} (ha : EvI K ta σ H (.str z)) (hb : EvI K tb σ H (.tuple (ys.map PyData.str))) : EvI K (tOp (rIn K false) ta tb) σ H (.bool (ys.any fun y => y == z)) :=
  ex_op ha mI hb fun x y H1 _ r1 r2 Q q => by
    cases r1
    obtain ⟨p, xs, rfl, g1, g2⟩ := r2.tup_inv
    have := strs_back g2
    subst this
    refine ⟨p, _, rfl, .inr g1, rfl, flat_strs _, q _ H1 (Ex.refl H1) ?_⟩
    rw [if_neg Bool.false_ne_true, inV_strs]
    exact .bl _
/-- in a list of texts, of numbers -/
theorem ei_inSL {z : Str} {ys : List Str} (ha : EvI K ta σ H (.str z)) (hb : EvK K tb σ H (ys.map PyData.str)) : EvI K (tOp (rIn K false) ta tb) σ H (.bool (ys.any fun y => y == z)) :=
  ex_op ha mI hb fun x y H1 _ r1 r2 Q q => by
    cases r1
    obtain ⟨p, xs, rfl, g1, g2⟩ := r2
    have := strs_back g2
    subst this
    refine ⟨p, _, rfl, .inl g1, rfl, flat_strs _, q _ H1 (Ex.refl H1) ?_⟩
    rw [if_neg Bool.false_ne_true, inV_strs]
    exact .bl _
theorem ei_inIL {z : Int} {ys : List Int} (ha : EvI K ta σ H (.int z)) (hb : EvK K tb σ H (ys.map PyData.int)) : EvI K (tOp (rIn K false) ta tb) σ H (.bool (ys.any fun y => y == z)) :=
  ex_op ha mI hb fun x y H1 _ r1 r2 Q q => by
    cases r1
    obtain ⟨p, xs, rfl, g1, g2⟩ := r2
    have := ints_back g2
    subst this
    refine ⟨p, _, rfl, .inl g1, rfl, flat_ints _, q _ H1 (Ex.refl H1) ?_⟩
    rw [if_neg Bool.false_ne_true, inV_ints]
    exact .bl _
theorem ei_niIL {z : Int} {ys : List Int} (ha : EvI K ta σ H (.int z)) (hb : EvK K tb σ H (ys.map PyData.int)) : EvI K (tOp (rIn K true) ta tb) σ H (.bool (!ys.any fun y => y == z)) :=
  ex_op ha mI hb fun x y H1 _ r1 r2 Q q => by
    cases r1
    obtain ⟨p, xs, rfl, g1, g2⟩ := r2
    have := ints_back g2
    subst this
    refine ⟨p, _, rfl, .inl g1, rfl, flat_ints _, q _ H1 (Ex.refl H1) ?_⟩
    rw [if_pos rfl, inV_ints]
    exact .bl _
/-- c in text, one sign -/
theorem ei_inC {c : Nat} {z : Str} (ha : EvI K ta σ H (.str ⟨#[c]⟩)) (hb : EvI K tb σ H (.str z)) : EvI K (tOp (fun x y H Q => ∃ (c : Nat) (z : Str), x = .str ⟨#[c]⟩ ∧ y = .str z ∧ Q (.bl (decide (c ∈ z.cps.toList))) H) ta tb) σ H (.bool (decide (c ∈ z.cps.toList))) :=
  ex_op ha mI hb fun x y H1 _ r1 r2 Q q => by cases r1; cases r2; exact ⟨c, z, rfl, rfl, q _ H1 (Ex.refl H1) (.bl _)⟩
theorem ei_niC {c : Nat} {z : Str} (ha : EvI K ta σ H (.str ⟨#[c]⟩)) (hb : EvI K tb σ H (.str z)) : EvI K (tOp (fun x y H Q => ∃ (c : Nat) (z : Str), x = .str ⟨#[c]⟩ ∧ y = .str z ∧ Q (.bl (!decide (c ∈ z.cps.toList))) H) ta tb) σ H (.bool (!decide (c ∈ z.cps.toList))) :=
  ex_op ha mI hb fun x y H1 _ r1 r2 Q q => by cases r1; cases r2; exact ⟨c, z, rfl, rfl, q _ H1 (Ex.refl H1) (.bl _)⟩
theorem ei_isN (ha : EvI K ta σ H d) (hd : d ≠ .none) : EvI K (tOp (fun x y H Q => y = .non ∧ Q (.bl (decide (x = .non))) H) ta (tC .non)) σ H (.bool false) :=
  ex_op ha mI evv_c fun x y H1 _ r1 r2 Q q => by
    refine ⟨r2, q _ H1 (Ex.refl H1) ?_⟩
    have : decide (x = V.non) = false := decide_eq_false fun e => by subst e; cases r1; exact hd rfl
    rw [this]; exact .bl _
end
/-! ### texts -/
theorem str_ext {x y : Str} (h : x.cps.toList = y.cps.toList) : x = y := by
  obtain ⟨x⟩ := x; obtain ⟨y⟩ := y
  exact congrArg Str.mk (Array.toList_inj.mp h)
def st (l : List Nat) : Str := ⟨l.toArray⟩
theorem st_list (l : List Nat) : (st l).cps.toList = l := by simp [st]
theorem st_len (l : List Nat) : (st l).length = l.length := by simp [st, Str.length]
theorem st_of (z : Str) : st z.cps.toList = z := str_ext (st_list _)
theorem append_list (a b : Str) : (a ++ b).cps.toList = a.cps.toList ++ b.cps.toList := by
  show (a.cps ++ b.cps).toList = _
  simp
theorem st_app (a b : List Nat) : st a ++ st b = st (a ++ b) := str_ext (by rw [append_list, st_list, st_list, st_list])
theorem length_cps (z : Str) : z.length = z.cps.toList.length := by simp [Str.length]
theorem join_nil : ∀ (l : List Str), (Txt.join (st []) l).cps.toList = (l.map fun z => z.cps.toList).flatten
  | [] => rfl
  | [z] => by
    have : Txt.join (st []) [z] = z := rfl
    rw [this]; simp
  | z :: y :: l => by
    have e : Txt.join (st []) (z :: y :: l) = z ++ st [] ++ Txt.join (st []) (y :: l) := by
      show Builtin.Str.glued (st []) (z :: y :: l) = z ++ st [] ++ Builtin.Str.glued (st []) (y :: l)
      rw [PySem.StrLaws.glued_eq_join, PySem.StrLaws.glued_eq_join]; rfl
    rw [e, append_list, append_list, join_nil (y :: l), st_list]
    simp
theorem takeW_all {α : Type} {p : α → Bool} : ∀ {l : List α}, (∀ x ∈ l, p x = true) → l.takeWhile p = l
  | [], _ => rfl
  | x :: l, h => by
    rw [List.takeWhile_cons, if_pos (h x List.mem_cons_self), takeW_all fun y hy => h y (List.mem_cons_of_mem _ hy)]
theorem strip_all {z y : Str} (h : ∀ c ∈ z.cps.toList, y.cps.contains c = true) : Txt.stripChars z y = st [] := by
  unfold Txt.stripChars
  rw [stripBy_eq]
  have e1 : z.cps.toList.takeWhile y.cps.contains = z.cps.toList := takeW_all h
  have e2 : stripLo y.cps.contains true z = z.length := by
    unfold stripLo
    rw [if_pos rfl, e1, length_cps]
  have e3 : stripHi y.cps.contains true z z.length = z.length := by
    unfold stripHi
    rw [if_pos rfl, length_cps, List.drop_length]; rfl
  rw [e2, e3]
  refine str_ext ?_
  show (z.cps.extract z.length z.length).toList = _
  simp [st]
end DWL
/-! the layer's rules, the written part told by its own name -/
namespace DWL
open PySem PySem.Spec PyProof.Rows L2 Evl
section
variable {X : Cx} {K : PySem.W.Frag}
theorem kr_len (h : X.K = K) : CallR X (.builtin "len") (rLenS K) := by subst h; exact call_len_seq
theorem kr_sum (hc : X.calm = true) (h : X.K = K) : CallR X (.builtin "sum") (rSum K) := by subst h; exact cr_sum hc
theorem kr_all (hc : X.calm = true) (h : X.K = K) : CallR X (.builtin "all") (rAll K) := by subst h; exact cr_all hc
theorem kr_isi (h : X.K = K) : CallR X (.builtin "isinstance") (rIsi K) := by subst h; exact call_isi
theorem kr_isiT (h : X.K = K) : CallR X (.builtin "isinstance") (rIsiT K) := by subst h; exact call_isiT
theorem kr_list (h : X.K = K) : CallR X (.type "list") (rListS K) := by subst h; exact call_list_of
theorem ko_eqD (h : X.K = K) (hu : X.A.units + 64 < cLine) : OpR X (compareOp .Eq) (rEqD K) := by subst h; exact op_eqD hu
theorem ko_neD (h : X.K = K) (hu : X.A.units + 64 < cLine) : OpR X (compareOp .NotEq) (rNeD K) := by subst h; exact op_neD hu
theorem ko_in (h : X.K = K) : OpR X (compareOp .In) (rIn K false) := by subst h; exact op_in_seq
theorem ko_ni (h : X.K = K) : OpR X (compareOp .NotIn) (rIn K true) := by subst h; exact op_notIn_seq
theorem ko_inD (h : X.K = K) (hu : X.A.units + 65 < cLine) : OpR X (compareOp .In) (rInD K) := by subst h; exact op_inD hu
theorem ko_niD (h : X.K = K) (hu : X.A.units + 65 < cLine) : OpR X (compareOp .NotIn) (rNotInD K) := by subst h; exact op_notInD hu
theorem kx_list (h : X.K = K) : IxR X (rIxL K) := by subst h; exact ix_list
theorem kx_tup (h : X.K = K) : IxR X (rIxT K) := by subst h; exact ix_tup
theorem ks_list (h : X.K = K) : SlR X (rSlL K) := by subst h; exact sl_list
theorem ki_list {tg l : Expr} {tl : TE} (h : X.K = K) (hl : PE X l tl) : PI X tg l (iList K tl) := by subst h; exact pi_list hl
theorem ki_enum {e : Expr} {ta : TA} {p pos tpos : Pos} {elts : List Expr} {kk : Nat} (h : X.K = K) (hg : Gl X "enumerate") (hm : X.mg "enumerate" = none) (ha : PA X [e] ta) (hs : starEach [e] X.env = [(false, eval e X.env)] := by rfl) :
    PI X (.Tuple elts kk tpos) (.Call (.Name "enumerate" p) [e] [] pos) (iEnum K ta) := by subst h; exact pi_enum hg hm ha hs
theorem kg_tup {es : List Expr} {k : Nat} {t : TGs} {n : Nat} {pos : Pos} (h : X.K = K) (hc : X.calm = true) (ht : PGs X es t) (hn : (assignEach es X.env).length = n := by rfl) (hst : (assignEach es X.env).findIdx? (·.1) = none := by rfl) : PG X (.Tuple es k pos) (gTup K n t) := by
  subst h; exact pg_tup hc ht hn hst
theorem ke_fld {e : Expr} {ta : TE} {f : Str} {pos : Pos} (h : X.K = K) (he : PE X e ta) (hb : attributeBase e f X.env (eval e X.env) = eval e X.env) : PE X (.Attribute e f pos) (tFld K ta f) := by subst h; exact pe_fld he hb
theorem ke_bm {T : String} {name : Str} {id : String} {r : V → List V → Hp → VK → Prop} {o e : Expr} {es : List Expr} {to : TE} {t : TA} {apos cpos : Pos} (h : X.K = K) (pa : PlainAttrs T) (slot : Slot T name id) (hty : typeOf (.builtin id) = pure (.type "method_descriptor")) (hm : MtR X id r) (ho : PE X o to) (ha : PA X (e :: es) t)
    (hbase : attributeBase o name X.env (eval o X.env) = eval o X.env := by rfl)
    (hfew : ((backTo cpos (starEach (e :: es) X.env)).all (fun x => !x.1) && (backToKw cpos (keywordEach [] X.env)).all (fun x => x.1.isSome) && decide ((e :: es).length + ([] : List Keyword).length + (if ([] : List Keyword).isEmpty then 0 else 1) < 30)) = true := by rfl)
    (hline : (apos.endLine == cpos.line) = true := by rfl) (hs : starEach (e :: es) X.env = (false, eval e X.env) :: starEach es X.env := by rfl) (hplain : (backTo cpos (starEach es X.env)).any (·.1) = false := by rfl) :
    PE X (.Call (.Attribute o name apos) (e :: es) [] cpos) (tBM K T r to t) := by subst h; exact pe_bm pa slot hty hm ho ha hbase hfew hline hs hplain
theorem km_join (h : X.K = K) : MtR X "str.join" (fun x xs H Q => ∃ a p, ∃ ys : List Str, x = .str a ∧ xs = [.ref p] ∧ (SqL K H p (ys.map V.str) ∨ SqT K H p (ys.map V.str)) ∧ (ys.map (·.length)).sum + ys.length * a.length ≤ 16777216 ∧ Q (.str (Txt.join a ys)) H) := by subst h; exact mt_join
theorem ke_revL {e : Expr} {te : TE} {k : Nat} {p1 p2 p3 pos : Pos} (h : X.K = K) (he : PE X e te) : PE X (.Subscript e (.Slice none none (some (.UnaryOp .USub (.Constant (.int 1) k p1) p2)) p3) pos) (tRevL K te) := by subst h; exact pe_revL he
end
end DWL
/-! sorted of triples of ints, any number of them -/
namespace Tr3
open PySem PySem.Spec PyProof.Rows Srt SrtO
abbrev I3 := Int × Int × Int
def before (p q : I3) : Bool := decide (p.1 < q.1 ∨ (p.1 = q.1 ∧ (p.2.1 < q.2.1 ∨ (p.2.1 = q.2.1 ∧ p.2.2 < q.2.2))))
theorem before_swo {α : Type} (key : α → I3) : Swo fun v u => before (key v) (key u) := by
  constructor
  · intro v u h
    have h1 := of_decide_eq_true h
    exact decide_eq_false (by omega)
  · intro v u z h h'
    have h1 := of_decide_eq_false h
    have h2 := of_decide_eq_false h'
    exact decide_eq_false (by omega)
/-- at v a tuple of the three -/
def At3 (h : Heap) (v : Value) (k : I3) : Prop := ∃ b ob t1 t2 t3 m, v = .ref b ∧ h.get? b = some ob ∧ ob.cls = .type "tuple" ∧ ob.data = .seq #[.int k.1 t1, .int k.2.1 t2, .int k.2.2 t3] m
theorem At3.carry {h g : Heap} {v : Value} {k : I3} (x : At3 h v k) (st : ∀ b ob, h.get? b = some ob → ob.cls = .type "tuple" → g.get? b = some ob) : At3 g v k := by
  obtain ⟨b, ob, t1, t2, t3, m, x1, x2, x3, x4⟩ := x
  exact ⟨b, ob, t1, t2, t3, m, x1, st b ob x2 x3, x3, x4⟩
theorem heads {h : Heap} {key : Value → I3} : ∀ {l : List Value}, (∀ v ∈ l, At3 h v (key v)) → ∃ fs : List Value, PySem.W.KatTups h l fs ∧ fs.length = l.length ∧ ∀ z ∈ fs, ∃ i t, z = Value.int i t
  | [], _ => ⟨[], .nil, rfl, fun _ z => absurd z (by simp)⟩
  | v :: l, x => by
    obtain ⟨b, ob, t1, t2, t3, m, x1, x2, x3, x4⟩ := x v List.mem_cons_self
    obtain ⟨fs, y1, y2, y3⟩ := heads (l := l) fun u hu => x u (List.mem_cons_of_mem _ hu)
    rw [x1]
    refine ⟨.int (key v).1 t1 :: fs, PySem.W.KatTups.cons x2 x3 x4 rfl y1, by simp [y2], fun z hz => ?_⟩
    rcases List.mem_cons.mp hz with e | hz
    · exact ⟨_, _, e⟩
    · exact y3 z hz
section
variable {prog : Program} {w : World} {A : Around} {E : Value → Shared → Prop} {s : Shared}
theorem cmp3 {l : List Value} {key : Value → I3} (x : ∀ v ∈ l, At3 s.heap v (key v)) : Cmp prog w A s (tuples' true) (fun p => p.1 ∈ l) (lt2 fun v u => before (key v) (key u)) := by
  intro p q hp hq
  have xp := x _ hp
  have xq := x _ hq
  show wpAny (model prog w) A (keyLt' (tuples' true) p.1 q.1) (fun r z => z = s ∧ r = before (key p.1) (key q.1)) (fun _ _ => False) s
  revert xp xq
  generalize key p.1 = k
  generalize key q.1 = k'
  intro xp xq
  obtain ⟨k1, k2, k3⟩ := k
  obtain ⟨j1, j2, j3⟩ := k'
  obtain ⟨b, ob, t1, t2, t3, m, x1, x2, x3, x4⟩ := xp
  obtain ⟨b', ob', u1, u2, u3, m', y1, y2, y3, y4⟩ := xq
  rw [x1, y1]
  refine PySem.W.kat_lt x2 x4 y2 y4 ?_
  show PySem.W.KatLex prog w A true (decide (3 < 3)) _ [(.int k1 t1, .int j1 u1), (.int k2 t2, .int j2 u2), (.int k3 t3, .int j3 u3)] 0 s
  refine PySem.W.kat_cons (SeqAt.EqAt.int_int k1 t1 j1 u1 prog w _ _ ?_)
  refine PySem.W.kat_go (fun a1 => ?_) (fun a1 => ?_)
  · have a1 : k1 = j1 := by simpa using a1
    refine PySem.W.kat_yes (PySem.W.kat_cons (SeqAt.EqAt.int_int k2 t2 j2 u2 prog w _ _ ?_))
    refine PySem.W.kat_go (fun a2 => ?_) (fun a2 => ?_)
    · have a2 : k2 = j2 := by simpa using a2
      refine PySem.W.kat_yes (PySem.W.kat_cons (SeqAt.EqAt.int_int k3 t3 j3 u3 prog w _ _ ?_))
      refine PySem.W.kat_go (fun a3 => ?_) (fun a3 => ?_)
      · have a3 : k3 = j3 := by simpa using a3
        refine PySem.W.kat_yes (PySem.W.kat_nil ⟨rfl, ?_⟩)
        subst a1 a2 a3
        exact (decide_eq_false (by dsimp only; omega)).symm
      · refine PySem.W.kat_no (PySem.W.kat_one _ _ (PyProof.Rows.lt_int ?_))
        refine (show s = s ∧ decide (k3 < j3) = before (k1, k2, k3) (j1, j2, j3) from ⟨rfl, ?_⟩)
        unfold before
        dsimp only
        exact decide_eq_decide.mpr (by omega)
    · have a2 : ¬ k2 = j2 := by simpa using a2
      refine PySem.W.kat_no (PySem.W.kat_one _ _ (PyProof.Rows.lt_int ?_))
      refine (show s = s ∧ decide (k2 < j2) = before (k1, k2, k3) (j1, j2, j3) from ⟨rfl, ?_⟩)
      unfold before
      dsimp only
      exact decide_eq_decide.mpr (by omega)
  · have a1 : ¬ k1 = j1 := by simpa using a1
    refine PySem.W.kat_no (oneLt_int ⟨rfl, ?_⟩)
    unfold before
    dsimp only
    exact decide_eq_decide.mpr (by omega)
theorem able3 {a : Addr} {l : List Value} {key : Value → I3} (n0 : 0 < l.length) (x : ∀ v ∈ l, At3 s.heap v (key v)) (na : ∀ ob, s.heap.get? a = some ob → ob.cls ≠ .type "tuple") : SortableO prog w A s a l fun v u => before (key v) (key u) := by
  intro g st
  have x' : ∀ v ∈ l, At3 g v (key v) := fun v hv => (x v hv).carry fun b ob e c => st b ob (fun z => by rw [z] at e; exact na ob e c) e
  obtain ⟨fs, y1, y2, y3⟩ := heads x'
  refine ⟨tuples' true, fun Q E hQ => ?_, cmp3 x'⟩
  refine PySem.W.kat_kind (T := .type "int") y1 (by rw [y2]; exact n0) (fun z hz => ?_) (by rfl) ?_
  · obtain ⟨i, t, e⟩ := y3 z hz
    rw [e]
    exact PySem.W.Looks.now
  · rw [show (Value.type "int" != Value.type "tuple") = true from rfl]
    exact hQ
end
end Tr3
namespace DWL
open PySem PySem.Spec PyProof.Rows L2 Evl Tr3
def trD (k : I3) : PyData := .tuple [.int k.1, .int k.2.1, .int k.2.2]
theorem At3.one {h : Heap} {v : Value} {k j : I3} (x : At3 h v k) (y : At3 h v j) : k = j := by
  obtain ⟨b, ob, t1, t2, t3, m, x1, x2, _, x4⟩ := x
  obtain ⟨b', ob', u1, u2, u3, m', y1, y2, _, y4⟩ := y
  rw [x1] at y1
  cases y1
  rw [x2] at y2
  cases y2
  rw [x4] at y4
  obtain ⟨k1, k2, k3⟩ := k
  obtain ⟨j1, j2, j3⟩ := j
  cases y4
  rfl
open Classical in
noncomputable def keyAt (h : Heap) (v : Value) : I3 := if e : ∃ k, At3 h v k then e.choose else (0, 0, 0)
theorem keyAt_is {h : Heap} {v : Value} {k : I3} (x : At3 h v k) : keyAt h v = k := by
  unfold keyAt
  rw [dif_pos ⟨k, x⟩]
  exact At3.one (Exists.choose_spec (⟨k, x⟩ : ∃ k, At3 h v k)) x
/-- sorted(xs) of triples: a new list, rising, of the same things -/
def rSorted3 (K : PySem.W.Frag) : List V → Hp → VK → Prop := fun vs H Q => ∃ (a : Addr) (xs : List V) (ks : List I3), vs = [V.ref a] ∧ SqL K H a xs ∧ ImAll K H xs (ks.map trD) ∧
  ∀ (ys : List V) (js : List I3) (p : Addr), ImAll K H ys (js.map trD) → js.Pairwise (fun x y => before y x = false) → js.Perm ks → H p = none → Q (.ref p) (upd H p (.lst ys))
section
variable {X : Cx}
theorem at3_of {pins : List (Addr × Obj)} {σ : L2.St} {H : Hp} {s : Shared} (I : Inv X pins σ H s) : ∀ {xs : List V} {us : List Value} {ks : List I3}, Vals xs us → ImAll X.K H xs (ks.map trD) → us.length = ks.length ∧ ∀ (i : Nat) u k, us[i]? = some u → ks[i]? = some k → At3 s.heap u k ∧ ∃ b, u = .ref b ∧ Im X.K H (.ref b) (trD k)
  | [], _, [], .nil, _ => ⟨rfl, fun i u k h => by simp at h⟩
  | [], _, k :: ks, _, h => by cases h
  | x :: xs, _, [], _, h => by cases h
  | x :: xs, u :: us, k :: ks, .cons r rs, h => by
    cases h with
    | cons h1 h2 =>
      obtain ⟨y1, y2⟩ := at3_of I rs h2
      refine ⟨by simp [y1], fun i => ?_⟩
      cases i with
      | succ i => intro v j e1 e2; exact y2 i v j (by simpa using e1) (by simpa using e2)
      | zero =>
        intro v j e1 e2
        obtain rfl : u = v := by simpa using e1
        obtain rfl : k = j := by simpa using e2
        have h0 := h1
        obtain ⟨b, zs, rfl, g1, g2⟩ := h1.tup_inv
        obtain rfl : u = Value.ref b := r
        refine ⟨?_, b, rfl, h0⟩
        obtain ⟨its, rv, ⟨o, ho, hc, n, hd⟩, _⟩ := I.tuple g1
        cases g2 with
        | cons a1 g2 => cases g2 with
          | cons a2 g2 => cases g2 with
            | cons a3 g2 =>
              cases g2; cases a1; cases a2; cases a3
              cases rv with
              | cons p1 rv => cases rv with
                | cons p2 rv => cases rv with
                  | cons p3 rv =>
                    cases rv
                    obtain ⟨t1, rfl⟩ := p1
                    obtain ⟨t2, rfl⟩ := p2
                    obtain ⟨t3, rfl⟩ := p3
                    exact ⟨b, o, t1, t2, t3, n, rfl, ho, hc, hd⟩
theorem back_of {H : Hp} {K : PySem.W.Frag} {key : Value → I3} : ∀ {us : List Value}, (∀ u ∈ us, ∃ b, u = .ref b ∧ Im K H (.ref b) (trD (key u))) → ImAll K H (us.map backV) ((us.map key).map trD)
  | [], _ => .nil
  | u :: us, h => by
    obtain ⟨b, e, i⟩ := h u List.mem_cons_self
    refine .cons ?_ (back_of fun z hz => h z (List.mem_cons_of_mem _ hz))
    subst e
    exact i
theorem cr_sorted3 : CallR X (.builtin "sorted") (rSorted3 X.K) := by
  intro pins s σ H vs us Q I r h
  obtain ⟨a, xs, ks, rfl, hs, hx, q⟩ := h
  obtain ⟨its, rv, hl, hz⟩ := I.list hs
  obtain ⟨u, rfl, ru⟩ := vals1 r
  obtain rfl : u = Value.ref a := ru
  obtain ⟨len, all⟩ := at3_of I rv hx
  have mem : ∀ v ∈ its, ∃ k, At3 s.heap v k ∧ ∃ b, v = .ref b ∧ Im X.K H (.ref b) (trD k) := fun v hv => by
    obtain ⟨i, hi⟩ := List.mem_iff_getElem?.mp hv
    have hi' := (List.getElem?_eq_some_iff.mp hi).1
    exact ⟨_, all i v (ks[i]'(by omega)) hi (List.getElem?_eq_getElem (by omega))⟩
  have ek : its.map (keyAt s.heap) = ks := by
    refine List.ext_getElem? fun i => ?_
    rw [List.getElem?_map]
    by_cases hi : i < its.length
    · obtain ⟨k1, _⟩ := all i its[i] (ks[i]'(by omega)) (List.getElem?_eq_getElem hi) (List.getElem?_eq_getElem (by omega))
      rw [List.getElem?_eq_getElem hi, List.getElem?_eq_getElem (by omega)]
      exact congrArg some (keyAt_is k1)
    · rw [List.getElem?_eq_none (by omega), List.getElem?_eq_none (by omega)]; rfl
  have x3 : ∀ v ∈ its, At3 s.heap v (keyAt s.heap v) := fun v hv => by
    obtain ⟨k, k1, _⟩ := mem v hv
    rw [keyAt_is k1]; exact k1
  refine SrtO.sorted_ord (before_swo (keyAt s.heap)) hl.isList (by rw [← rv.length]; exact hz) (fun h2 g b hb kk => able3 (s := { s with heap := g }) (by omega) (fun v hv => (x3 v hv).carry fun b ob e _ => (kk b ob e).2) fun o e => ?_) fun out h1 h2 => ?_
  · have e' : some o = some (seqObj "list" its.toArray 0) := e.symm.trans hb
    cases e'
    intro c
    exact absurd (Value.type.inj c) (by decide)
  · obtain ⟨n, hn⟩ := PyProof.Rows.sortedAll_at s.heap its out.toArray
    have m2 : ∀ u ∈ out, ∃ b, u = .ref b ∧ Im X.K H (.ref b) (trD (keyAt s.heap u)) := fun u hu => by
      obtain ⟨k, k1, b, k2, k3⟩ := mem u (h2.perm.mem_iff.mp hu)
      exact ⟨b, k2, by rw [keyAt_is k1]; exact k3⟩
    have pm : (out.map (keyAt s.heap)).Perm ks := by rw [← ek]; exact h2.perm.map _
    refine ⟨.ref _, upd H (s.heap.objs.size + 1) (.lst (out.map backV)), I.laid (t' := s.toks) (fun _ _ => PyProof.Rows.sortedAll_old) (Nat.le_succ _) ⟨?_, out, n, vals_back (fun u hu => (m2 u hu).imp fun b z => z.1), hn⟩, rfl, q _ _ _ (back_of m2) (List.pairwise_map.mpr (h1.imp fun {x y} z => z)) pm (I.hok.fresh (Nat.le_succ _))⟩
    rw [List.length_map, h2.perm.length_eq, ← rv.length]
    exact hz
end
theorem kr_sorted3 {X : Cx} {K : PySem.W.Frag} (h : X.K = K) : CallR X (.builtin "sorted") (rSorted3 K) := by subst h; exact cr_sorted3
theorem en_sorted3 {K : PySem.W.Frag} {σ : L2.St} {H : Hp} {ta : TE} {ks : List I3} (js : List I3) (ha : EvK K ta σ H (ks.map trD)) (u : ∀ l : List I3, l.Pairwise (fun x y => before y x = false) → l.Perm ks → l = js) :
    EvN K (tCB (rSorted3 K) (tCons ta tNil)) σ H (js.map trD) := fun H1 e Q q => ha H1 e _ fun x H2 e2 r => by
  obtain ⟨a, xs, rfl, h1, h2⟩ := r
  refine ⟨a, xs, ks, rfl, h1, h2, fun ys l p g1 g2 g3 hp => ?_⟩
  have := u l g2 g3
  subst this
  exact q p ys _ (fresh_back e2 hp) (e2.trans (Ex.new hp)) upd_same (g1.mono (Ex.new hp))
end DWL
namespace DWL
open PySem PySem.Spec PyProof.Rows L2 Evl DW
section
variable {K : PySem.W.Frag} {σ : L2.St} {H : Hp} {ta tb te : TE} {d : PyData} {ds : List PyData} {D : Ends} {tu tw tz : TS}
theorem Grow.st {H0 H1 : Hp} {l : Addr} {v : V} {xs : List V} {j : Nat} (g : Grow K H0 H1 l ds) (hl : H1 l = some (.lst xs)) (hx : ImAll K H1 xs ds) (hv : Im K H1 v d) : Grow K H0 (upd H1 l (.lst (xs.set j v))) l (ds.set j d) :=
  ⟨g.fresh, Ex.mut g.ex g.fresh, _, upd_same, (hx.set j hv).wr hl⟩
/-- l[j] = e -/
theorem y_setG {H0 : Hp} {l : Addr} {j : Nat} (d : PyData) (g : Grow K H0 H l ds) (h : EvI K te σ H d) (ho : EvV ta σ H (.ref l)) (hi : EvI K tb σ H (.int (j : Int))) (hj : j < ds.length) (k : ∀ H1, Grow K H0 H1 l (ds.set j d) → (∀ m es, m ≠ l → Grow K H0 H m es → Grow K H0 H1 m es) → tz D σ H1) :
    tSeq (tAsg te (gSub ta tb rSetL)) tz D σ H := h H (Ex.refl H) _ fun v H1 e1 hv => ho H1 e1 _ fun u H2 e2 hu => hi H2 (e1.trans e2) _ fun w H3 e3 hw => by
  subst hu
  cases hw
  obtain ⟨xs, g5, g6⟩ := (g.go ((e1.trans e2).trans e3)).has
  exact ⟨l, xs, (j : Int), j, rfl, rfl, g5, ixN_nat (by rw [g6.length]; exact hj), k _ ((g.go ((e1.trans e2).trans e3)).st g5 g6 (hv.mono (e2.trans e3))) fun m es hm gm => (gm.go ((e1.trans e2).trans e3)).other g5 g.fresh hm (es := [])⟩
theorem src1 (h : EvK K te σ H ds) : ∀ H1, Ex H H1 → ∀ Q : List V → Hp → Prop, (∀ v H2, Ex H1 H2 → Ls K H2 v ds → Q [v] H2) → tCons te tNil σ H1 Q := fun H1 e Q q => h H1 e _ fun v H2 e2 r => q v H2 e2 r
theorem Grow.back {H0 H' : Hp} {l : Addr} (g : Grow K H0 H l ds) (e : Ex H' H0) : Grow K H' H l ds := ⟨fresh_back e g.fresh, e.trans g.ex, g.has⟩
/-- a call whose value is dropped -/
theorem y_dropI (K : PySem.W.Frag) (d : PyData) (h : EvI K te σ H d) (k : ∀ v H1, Ex H H1 → Im K H1 v d → tz D σ H1) : tSeq (tDrop te) tz D σ H := h H (Ex.refl H) _ k
theorem kit_str : kitB "str" "str" = some true := by decide +kernel
theorem kit_int : kitB "int" "int" = some true := by decide +kernel
theorem kit_int_bool : kitB "int" "bool" = some false := by decide +kernel
theorem kit_list : kitB "list" "list" = some true := by decide +kernel
theorem kit_tuple : kitB "tuple" "tuple" = some true := by decide +kernel
theorem kit_bool : kitB "bool" "bool" = some true := by decide +kernel
theorem Im.intE {H : Hp} {v : V} {i : Int} (h : Im K H v (.int i)) : v = .int i := by cases h; rfl
theorem Im.strE {H : Hp} {v : V} {i : Str} (h : Im K H v (.str i)) : v = .str i := by cases h; rfl
theorem Im.blE {H : Hp} {v : V} {i : Bool} (h : Im K H v (.bool i)) : v = .bl i := by cases h; rfl
end
end DWL
namespace DWL
open PySem PySem.Spec PyProof.Rows L2 Evl DW
theorem ki_tup {X : Cx} {K : PySem.W.Frag} {tg l : Expr} {tl : TE} (h : X.K = K) (hl : PE X l tl) : PI X tg l (iTup K tl) := by subst h; exact pi_tup hl
section
variable {K : PySem.W.Frag} {σ : L2.St} {H : Hp} {ta tb te : TE} {d : PyData} {ds : List PyData} {tg : TG} {tt : TT} {vs : List Nat}
/-- a comprehension over a tuple -/
theorem en_lcT {δ : Type} {enc : δ → PyData} {L : List δ} {tl : TE} (f : δ → Bool) (g : δ → PyData) (h : EvI K tl σ H (.tuple (L.map enc))) (hz : L.length ≤ 40000)
    (hb : ∀ a ∈ L, ∀ x H1, Ex H H1 → Im K H1 x (enc a) → ∃ σ', (∀ Q : L2.St → Hp → Prop, Q σ' H1 → tg x (wipe σ vs) H1 Q) ∧ wipe σ' vs = wipe σ vs ∧ EvT tt σ' H1 (f a) ∧ (f a = true → EvI K te σ' H1 (g a))) :
    EvN K (tLc (iTup K tl) tg tt te vs) σ H ((L.filter f).map g) := fun H0 e0 Q q => h H0 e0 _ fun v H1 e1 r => by
  obtain ⟨a, xs, rfl, h1, h2⟩ := r.tup_inv
  have hl : L.length = xs.length := by rw [h2.length, List.length_map]
  refine ⟨a, rfl, ⟨xs, h1⟩, fun Dl hD => lc_go (walk_tup (K := K) (a := a) (xs := xs)) L hl (by omega) f g hD (fun H' e => ex_t e h1) (fun i b x H' H'' hb' e y => ?_) fun H' ys e g1 g2 => q Dl ys H' (fresh_back e1 hD) (e1.trans e) g1 g2⟩
  obtain ⟨rfl, hx⟩ := y
  obtain ⟨dd, k1, k2⟩ := (h2.mono e).getV hx
  have : dd = enc b := by
    rw [List.getElem?_map, hb'] at k1; exact (Option.some.inj k1).symm
  subst this
  exact ⟨Ex.refl _, hb b (List.mem_of_getElem? hb') x _ ((e0.trans e1).trans e) k2⟩
end
end DWL
namespace DWL
open PySem PySem.Spec PyProof.Rows L2 Evl DW
def top (i : Nat) : Stmt := PySem.Challenge.pw_doorwalk_k04_whole_out.main.body.getD i (.Pass ⟨0, 0, 0, 0⟩)
section
variable {P : Program} {w : World} {K : PySem.W.Frag} {mg : Str → Option Value} {base : Heap}
local macro_rules | `(tactic| walk_at "v") => `(tactic| first | exact ei_int | exact ei_str | exact ei_bl | exact ei_non | exact ei_neg ei_int | exact ei_var rfl (Im.int _) | exact ei_var rfl (Im.str _) | exact ei_var rfl (Im.bl _) | exact ei_var rfl (by assumption) | exact et_len rfl (by assumption))
local macro_rules | `(tactic| walk_at "e") => `(tactic| first | walk_at "v" | (apply ei_I0i <;> walk_at "e") | (apply ei_I0b <;> walk_at "e") | (apply ei_chainI <;> walk_at "e") | (apply ei_eqI <;> walk_at "e") | (apply ei_eqS <;> walk_at "e") | (refine' ei_tup ?_ (Nat.le_of_ble_eq_true rfl) <;> walk_at "e") | (apply eai_cons <;> walk_at "e") | exact eai_nil)
/-! ### is_small -/
def isSmB (n : Nat) (r p u : Int) : Bool := if u = 1 then decide (0 ≤ r) && decide (r < (n : Int) - 1) && (decide (0 ≤ p) && decide (p < (n : Int) - 1 - r)) else decide (u = 0) && (decide (0 ≤ r) && decide (r < (n : Int) - 2) && (decide (0 ≤ p) && decide (p < (n : Int) - 2 - r)))
def preIsSmall (K : PySem.W.Frag) : List V → Hp → PyData → Prop := fun vs H d => ∃ t n c r p u, vs = [t, .int r, .int p, .int u] ∧ Tri K H t n c ∧ d = .bool (isSmB n r p u)
abbrev s_is_small : Stmt := top 10
theorem sc_is_small : FnScope ["triangle", "row", "place", "up"] ["triangle", "row", "place", "up"] (defScope s_is_small) := ⟨rfl, rfl, rfl, by decide +kernel, rfl, by decide +kernel, by decide +kernel⟩
theorem ok_is_small (D : Def K mg "is_small" s_is_small) (m_len : mg "len" = none) : Callee P w K mg base CX0 1 "is_small" ["triangle", "row", "place", "up"] (PrI K (preIsSmall K)) := by
  refine D.ok sc_is_small (fun _ _ _ _ _ _ us hl => match us, hl with | [_, _, _, _], _ => rfl) (fun vs H Q E h => ?_) (fun f cdv A outer s H vs Q E hr h => ?_)
  · obtain ⟨d, ⟨t, n, c, r, p, u, rfl, _⟩, _⟩ := h; rfl
  · obtain ⟨d, ⟨t, n, c, r, p, u, rfl, hT, rfl⟩, q⟩ := h
    refine ⟨_, (pss_cons (ps_if (pt_cmpR op_eq (pv 3) pe_int (nomark _))
  (pss_cons (ps_ret (pe_and (pe_chain op_le op_lt pe_int (pv 1) (pe_op op_sub (pe_callB (kr_len (K := K) rfl) (by rfl) m_len PySem.boot_len (pa_cons (pv 0) pa_nil)) pe_int)) (pe_one (pe_chain op_le op_lt pe_int (pv 2) (pe_op op_sub (pe_op op_sub (pe_callB (kr_len (K := K) rfl) (by rfl) m_len PySem.boot_len (pa_cons (pv 0) pa_nil)) pe_int) (pv 1))))))
 pss_nil)
  pss_nil)
 (pss_cons (ps_ret (pe_and (pe_cmpR op_eq (pv 3) pe_int (nomark _)) (pe_and (pe_chain op_le op_lt pe_int (pv 1) (pe_op op_sub (pe_callB (kr_len (K := K) rfl) (by rfl) m_len PySem.boot_len (pa_cons (pv 0) pa_nil)) pe_int)) (pe_one (pe_chain op_le op_lt pe_int (pv 2) (pe_op op_sub (pe_op op_sub (pe_callB (kr_len (K := K) rfl) (by rfl) m_len PySem.boot_len (pa_cons (pv 0) pa_nil)) pe_int) (pv 1)))))))
 pss_nil)), ?_⟩
    refine y_when (decide (u = 1)) ?_ ?_ ?_
    · exact et_of K (ei_eqI (by walk_at "e") (by walk_at "e"))
    · intro hb H1 e1
      refine y_retI K (.bool (isSmB n r p u)) (EvX.mono e1 ?_) ?_
      · apply EvI.to
        · apply ei_andV
          · walk_at "e"
          · intro _; walk_at "e"
        · unfold isSmB
          rw [if_pos (of_decide_eq_true hb)]
      · intro v H2 e2 r; exact q v H2 (e1.trans e2) r
    · intro hb H1 e1
      refine y_retI K (.bool (isSmB n r p u)) (EvX.mono e1 ?_) ?_
      · apply EvI.to
        · apply ei_andV
          · walk_at "e"
          · intro _
            apply ei_andV
            · walk_at "e"
            · intro _; walk_at "e"
        · unfold isSmB
          rw [if_neg (of_decide_eq_false hb)]
      · intro v H2 e2 r; exact q v H2 (e1.trans e2) r
/-! ### is_spot -/
def isSpB (n : Nat) (r p : Int) : Bool := decide (0 ≤ r) && decide (r < (n : Int)) && (decide (0 ≤ p) && decide (p < (n : Int) - r))
def preIsSpot (K : PySem.W.Frag) : List V → Hp → PyData → Prop := fun vs H d => ∃ t n c r p, vs = [t, .int r, .int p] ∧ Tri K H t n c ∧ d = .bool (isSpB n r p)
/-! ### corners -/
def corI (r p u : Int) : List (Int × Int) := if u = 1 then [(r, p), (r, p + 1), (r + 1, p)] else [(r, p + 1), (r + 1, p + 1), (r + 1, p)]
def ip (x : Int × Int) : PyData := pr2 x.1 x.2
def preCorners (K : PySem.W.Frag) : List V → Hp → List PyData → Prop := fun vs H ds => ∃ x r p u, vs = [x] ∧ Im K H x (tri3 r p u) ∧ ds = (corI r p u).map ip
abbrev s_corners : Stmt := top 12
theorem sc_corners : FnScope ["small", "row", "place", "up"] ["small"] (defScope s_corners) := ⟨rfl, rfl, rfl, by decide +kernel, rfl, by decide +kernel, by decide +kernel⟩
theorem ok_corners (D : Def K mg "corners" s_corners) : Callee P w K mg base CX0 1 "corners" ["small"] (PrN K (preCorners K)) := by
  refine D.ok sc_corners (fun _ _ _ _ _ _ us hl => match us, hl with | [_], _ => rfl) (fun vs H Q E h => ?_) (fun f cdv A outer s H vs Q E hr h => ?_)
  · obtain ⟨d, ⟨x, r, p, u, rfl, _⟩, _⟩ := h; rfl
  · obtain ⟨d, ⟨x, r, p, u, rfl, hx, rfl⟩, q⟩ := h
    refine ⟨_, (pss_cons (ps_asg (pv 0) (kg_tup (K := K) (n := 3) rfl rfl (pgs_cons (pg_name (i := 1) sc_corners.nd rfl (.inl rfl)) (pgs_cons (pg_name (i := 2) sc_corners.nd rfl (.inl rfl)) (pgs_cons (pg_name (i := 3) sc_corners.nd rfl (.inl rfl)) pgs_nil)))))
 (pss_cons (ps_if (pt_cmpR op_eq (pv 3) pe_int (nomark _))
  (pss_cons (ps_ret (pe_lst (pa_cons (pe_tup (pa_cons (pv 1) (pa_cons (pv 2) pa_nil))) (pa_cons (pe_tup (pa_cons (pv 1) (pa_cons (pe_op op_add (pv 2) pe_int) pa_nil))) (pa_cons (pe_tup (pa_cons (pe_op op_add (pv 1) pe_int) (pa_cons (pv 2) pa_nil))) pa_nil)))))
 pss_nil)
  pss_nil)
 (pss_cons (ps_ret (pe_lst (pa_cons (pe_tup (pa_cons (pv 1) (pa_cons (pe_op op_add (pv 2) pe_int) pa_nil))) (pa_cons (pe_tup (pa_cons (pe_op op_add (pv 1) pe_int) (pa_cons (pe_op op_add (pv 2) pe_int) pa_nil))) (pa_cons (pe_tup (pa_cons (pe_op op_add (pv 1) pe_int) (pa_cons (pv 2) pa_nil))) pa_nil)))))
 pss_nil))), ?_⟩
    refine y_tup (R := fun v H1 => Im K H1 v (tri3 r p u)) (ei_var rfl hx) ?_
    intro v H1 e1 hv
    refine g_tup3 hv ?_
    intro a b c ha hb hc
    cases ha; cases hb; cases hc
    refine y_when (decide (u = 1)) ?_ ?_ ?_
    · exact et_of K (ei_eqI (by walk_at "e") (by walk_at "e"))
    · intro hb H2 e2
      refine y_retN K ((corI r p u).map ip) ?_ ?_
      · unfold corI
        rw [if_pos (of_decide_eq_true hb)]
        refine en_lst ?_ (Nat.le_of_ble_eq_true rfl)
        walk_at "e"
      · intro l xs H3 hl e3 h1 h2; exact q l xs H3 (fresh_back (e1.trans e2) hl) ((e1.trans e2).trans e3) h1 h2
    · intro hb H2 e2
      refine y_retN K ((corI r p u).map ip) ?_ ?_
      · unfold corI
        rw [if_neg (of_decide_eq_false hb)]
        refine en_lst ?_ (Nat.le_of_ble_eq_true rfl)
        walk_at "e"
      · intro l xs H3 hl e3 h1 h2; exact q l xs H3 (fresh_back (e1.trans e2) hl) ((e1.trans e2).trans e3) h1 h2
/-! ### letters_of, turn_of, step_of -/
def let3 (c : Nat → Nat → Nat) (s : Sm) : Str := st [l1 c s, l2 c s, l3 c s]
def corN (s : Sm) : List Sp2 := [cor s 0, cor s 1, cor s 2]
theorem cor_in {n : Nat} {s : Sm} (h : IsSm n s) : ∀ x ∈ corN s, x.1 + x.2 < n := by
  obtain ⟨r, p, u⟩ := s
  intro x hx
  rcases h with ⟨hu, h⟩ | ⟨hu, h⟩ <;> dsimp only at hu h <;> subst hu <;> simp [corN, cor] at hx <;> rcases hx with rfl | rfl | rfl <;> dsimp only <;> omega
theorem corI_sm {n : Nat} {s : Sm} (h : IsSm n s) : (corI s.1 s.2.1 s.2.2).map ip = (corN s).map spD := by
  obtain ⟨r, p, u⟩ := s
  rcases h with ⟨hu, h⟩ | ⟨hu, h⟩ <;> dsimp only at hu h <;> subst hu <;> simp [corI, corN, cor, ip, spD]
def preLetters (K : PySem.W.Frag) : List V → Hp → PyData → Prop := fun vs H d => ∃ t x n c s, vs = [t, x] ∧ Tri K H t n c ∧ Im K H x (smD s) ∧ IsSm n s ∧ d = .str (let3 c s)
abbrev s_letters_of : Stmt := top 13
theorem sc_letters_of : FnScope ["triangle", "small", "row", "place"] ["triangle", "small"] (defScope s_letters_of) := ⟨rfl, rfl, rfl, by decide +kernel, rfl, by decide +kernel, by decide +kernel⟩
theorem ok_letters_of (D : Def K mg "letters_of" s_letters_of) (c_corners : Callee P w K mg base CX0 1 "corners" ["small"] (PrN K (preCorners K))) : Callee P w K mg base CX0 2 "letters_of" ["triangle", "small"] (PrI K (preLetters K)) := by
  refine D.ok sc_letters_of (fun _ _ _ _ _ _ us hl => match us, hl with | [_, _], _ => rfl) (fun vs H Q E h => ?_) (fun f cdv A outer s H vs Q E hr h => ?_)
  · obtain ⟨d, ⟨t, x, n, c, s, rfl, _⟩, _⟩ := h; rfl
  · obtain ⟨d, ⟨t, x, n, c, z, rfl, hT, hx, hs, rfl⟩, q⟩ := h
    refine ⟨_, (pss_cons (ps_ret (pe_m1 PySem.F.slot_str_join PySem.F.type_str_join (km_join (K := K) rfl) pe_str (pe_lc (own := [("row", 2), ("place", 3)]) rfl sc_letters_of.nd (ki_list (K := K) rfl (pe_callC c_corners (hr.mono (by decide)) (by rfl) (pa_cons (pv 1) pa_nil))) (blkOk_by (N := ["triangle", "small", "row", "place"]) (sc := defScope s_letters_of) (by decide +kernel)) (fun _ _ _ _ _ => (kg_tup (K := K) (n := 2) rfl rfl (pgs_cons (pg_name (i := 2) sc_letters_of.nd rfl (.inl rfl) (.inr rfl)) (pgs_cons (pg_name (i := 3) sc_letters_of.nd rfl (.inl rfl) (.inr rfl)) pgs_nil)))) (fun _ _ _ _ _ => pts_nil) (fun _ _ _ _ _ => (pe_ix ix_str (pe_ix (kx_list (K := K) rfl) (pv 0) (pv 2) (fun _ _ => rfl)) (pv 3) (fun _ _ => rfl))))))
 pss_nil), ?_⟩
    refine y_retI K (.str (let3 c z)) ?_ (fun v H2 e2 r => q v H2 e2 r)
    apply EvI.to
    · apply ei_join (ys := (corN z).map fun x => st [lt2 c x])
      · exact ei_str
      · refine EvN.k (EvN.to (en_lcK (L := corN z) (enc := spD) (fun _ => true) (fun x => .str (st [lt2 c x])) ?_ (by show 3 ≤ 40000; decide) ?_) ?_)
        · refine EvN.k (EvN.to (en_call (ds := (corI z.1 z.2.1 z.2.2).map ip) (eax1 (R1 := fun v H1 => Im K H1 v (smD z)) (ei_var rfl hx)) ?_) (corI_sm hs))
          rintro vs H1 e ⟨x, rfl, h⟩
          exact ⟨x, _, _, _, rfl, h, rfl⟩
        · intro a ha x H1 e hx
          have hT1 := hT.mono e
          obtain ⟨b, xs, rfl, h1, h2⟩ := hx.tup_inv
          cases h2 with
          | cons a1 r => cases r with
            | cons a2 r =>
              cases r; cases a1; cases a2
              refine ⟨_, fun Q q => ⟨b, _, rfl, h1, rfl, _, _, rfl, _, _, rfl, rfl, q⟩, rfl, et_yes, fun _ => ?_⟩
              exact ei_at rfl hT1 (ei_var rfl (.int _)) (ei_var rfl (.int _)) (cor_in hs a ha)
        · rw [List.filter_eq_self.mpr (fun _ _ => rfl), List.map_map]; rfl
      · show (1 + (1 + (1 + 0))) + 3 * 0 ≤ 16777216; decide
    · refine congrArg PyData.str (str_ext ?_)
      have := join_nil ((corN z).map fun x => st [lt2 c x])
      rw [show Txt.join (Str.ofString "") = Txt.join (st []) from rfl, this]
      simp [corN, let3, st_list, lt_cor0, lt_cor1, lt_cor2]
theorem turn_str : ∀ x ∈ L3, ∀ y ∈ L3, ∀ z ∈ L3, (if ([("abc" : Str), "bca", "cab"].any fun q => q == st [x, y, z]) = true then (1 : Int) else if ([("acb" : Str), "cba", "bac"].any fun q => q == st [x, y, z]) = true then -1 else 0) = tn x y z := by decide +kernel
theorem step_str : ∀ x ∈ L3, ∀ y ∈ L3, (if (decide (st [x] ++ st [y] = ("ab" : Str))) = true then (1 : Int) else if (decide (st [x] ++ st [y] = ("ba" : Str))) = true then -1 else 0) = dl x y := by decide +kernel
theorem l1_mem {c : Nat → Nat → Nat} (hc : ∀ r p, DW.ltr (c r p)) (s : Sm) : l1 c s ∈ L3 := ltr_mem (by unfold l1; split <;> exact hc _ _)
theorem l2_mem {c : Nat → Nat → Nat} (hc : ∀ r p, DW.ltr (c r p)) (s : Sm) : l2 c s ∈ L3 := ltr_mem (by unfold l2; split <;> exact hc _ _)
theorem l3_mem {c : Nat → Nat → Nat} (hc : ∀ r p, DW.ltr (c r p)) (s : Sm) : l3 c s ∈ L3 := ltr_mem (hc _ _)
def preTurnOf (K : PySem.W.Frag) : List V → Hp → PyData → Prop := fun vs H d => ∃ t x n c s, vs = [t, x] ∧ Tri K H t n c ∧ Im K H x (smD s) ∧ IsSm n s ∧ d = .int (tnS c s)
abbrev s_turn_of : Stmt := top 14
theorem sc_turn_of : FnScope ["triangle", "small", "letters"] ["triangle", "small"] (defScope s_turn_of) := ⟨rfl, rfl, rfl, by decide +kernel, rfl, by decide +kernel, by decide +kernel⟩
theorem ok_turn_of (D : Def K mg "turn_of" s_turn_of) (c_letters_of : Callee P w K mg base CX0 2 "letters_of" ["triangle", "small"] (PrI K (preLetters K))) : Callee P w K mg base CX0 3 "turn_of" ["triangle", "small"] (PrI K (preTurnOf K)) := by
  refine D.ok sc_turn_of (fun _ _ _ _ _ _ us hl => match us, hl with | [_, _], _ => rfl) (fun vs H Q E h => ?_) (fun f cdv A outer s H vs Q E hr h => ?_)
  · obtain ⟨d, ⟨t, x, n, c, s, rfl, _⟩, _⟩ := h; rfl
  · obtain ⟨d, ⟨t, x, n, c, z, rfl, hT, hx, hs, rfl⟩, q⟩ := h
    refine ⟨_, (pss_cons (ps_set (i := 2) sc_turn_of.nd rfl (.inl rfl) (pe_callC c_letters_of (hr.mono (by decide)) (by rfl) (pa_cons (pv 0) (pa_cons (pv 1) pa_nil))))
 (pss_cons (ps_if (pt_cmpR (ko_in (K := K) rfl) (pv 2) (pe_tup (pa_cons pe_str (pa_cons pe_str (pa_cons pe_str pa_nil)))) rfl)
  (pss_cons (ps_ret pe_int)
 pss_nil)
  pss_nil)
 (pss_cons (ps_ret (pe_ifExp (pt_cmpR (ko_in (K := K) rfl) (pv 2) (pe_tup (pa_cons pe_str (pa_cons pe_str (pa_cons pe_str pa_nil)))) rfl) (pe_un un_neg pe_int) pe_int))
 pss_nil))), ?_⟩
    have key := turn_str _ (l1_mem hT.ltr z) _ (l2_mem hT.ltr z) _ (l3_mem hT.ltr z)
    refine y_asgI K (.str (let3 c z)) ?_ ?_
    · refine ei_call (eax2 (R1 := fun v H1 => Tri K H1 v n c) (R2 := fun v H1 => Im K H1 v (smD z)) (ex_var rfl fun H1 e => hT.mono e) (fun _ _ _ e h => h.mono e) (ei_var rfl hx)) ?_
      rintro vs H1 e ⟨a, b, rfl, h1, h2⟩
      exact ⟨a, b, n, c, z, rfl, h1, h2, hs, rfl⟩
    · intro v H1 e1 hv
      cases hv
      refine y_when ([("abc" : Str), "bca", "cab"].any fun q => q == let3 c z) ?_ ?_ ?_
      · exact et_of K (ei_inST (ys := ["abc", "bca", "cab"]) (by walk_at "e") (by walk_at "e"))
      · intro hb H2 e2
        refine y_retI K (.int 1) ei_int ?_
        intro v H3 e3 r
        refine q v H3 ((e1.trans e2).trans e3) ?_
        rw [show tnS c z = tn (l1 c z) (l2 c z) (l3 c z) from rfl, ← key]
        rw [if_pos (show ([("abc" : Str), "bca", "cab"].any fun q => q == st [l1 c z, l2 c z, l3 c z]) = true from hb)]; exact r
      · intro hb H2 e2
        refine y_retI K (if ([("acb" : Str), "cba", "bac"].any fun q => q == let3 c z) = true then .int (-1) else .int 0) ?_ ?_
        · apply ei_if
          · exact et_of K (ei_inST (ys := ["acb", "cba", "bac"]) (by walk_at "e") (by walk_at "e"))
          · intro _; walk_at "e"
          · intro _; walk_at "e"
        · intro v H3 e3 r
          refine q v H3 ((e1.trans e2).trans e3) ?_
          rw [show tnS c z = tn (l1 c z) (l2 c z) (l3 c z) from rfl, ← key]
          rw [if_neg (by rw [show ([("abc" : Str), "bca", "cab"].any fun q => q == st [l1 c z, l2 c z, l3 c z]) = false from hb]; decide)]
          show Im K H3 v (PyData.int (if ([("acb" : Str), "cba", "bac"].any fun q => q == let3 c z) = true then -1 else 0))
          cases hq : ([("acb" : Str), "cba", "bac"].any fun q => q == let3 c z) <;> rw [hq] at r <;> exact r
def preStepOf (K : PySem.W.Frag) : List V → Hp → PyData → Prop := fun vs H d => ∃ t x y n c a b, vs = [t, x, y] ∧ Tri K H t n c ∧ Im K H x (spD a) ∧ Im K H y (spD b) ∧ a.1 + a.2 < n ∧ b.1 + b.2 < n ∧ d = .int (dl (lt2 c a) (lt2 c b))
abbrev s_step_of : Stmt := top 17
theorem sc_step_of : FnScope ["triangle", "one", "other", "letters"] ["triangle", "one", "other"] (defScope s_step_of) := ⟨rfl, rfl, rfl, by decide +kernel, rfl, by decide +kernel, by decide +kernel⟩
theorem ok_step_of (D : Def K mg "step_of" s_step_of) : Callee P w K mg base CX0 1 "step_of" ["triangle", "one", "other"] (PrI K (preStepOf K)) := by
  refine D.ok sc_step_of (fun _ _ _ _ _ _ us hl => match us, hl with | [_, _, _], _ => rfl) (fun vs H Q E h => ?_) (fun f cdv A outer s H vs Q E hr h => ?_)
  · obtain ⟨d, ⟨t, x, y, n, c, a, b, rfl, _⟩, _⟩ := h; rfl
  · obtain ⟨d, ⟨t, x, y, n, c, a, b, rfl, hT, hx, hy, ha, hb, rfl⟩, q⟩ := h
    refine ⟨_, (pss_cons (ps_set (i := 3) sc_step_of.nd rfl (.inl rfl) (pe_op op_add_str (pe_ix ix_str (pe_ix (kx_list (K := K) rfl) (pv 0) (pe_ix (kx_tup (K := K) rfl) (pv 1) pe_int (fun _ _ => rfl)) (fun _ _ => rfl)) (pe_ix (kx_tup (K := K) rfl) (pv 1) pe_int (fun _ _ => rfl)) (fun _ _ => rfl)) (pe_ix ix_str (pe_ix (kx_list (K := K) rfl) (pv 0) (pe_ix (kx_tup (K := K) rfl) (pv 2) pe_int (fun _ _ => rfl)) (fun _ _ => rfl)) (pe_ix (kx_tup (K := K) rfl) (pv 2) pe_int (fun _ _ => rfl)) (fun _ _ => rfl))))
 (pss_cons (ps_ret (pe_ifExp (pt_cmpR op_eq (pv 3) pe_str (nomark _)) pe_int (pe_ifExp (pt_cmpR op_eq (pv 3) pe_str (nomark _)) (pe_un un_neg pe_int) pe_int)))
 pss_nil)), ?_⟩
    have key := step_str (lt2 c a) (ltr_mem (hT.ltr a.1 a.2)) (lt2 c b) (ltr_mem (hT.ltr b.1 b.2))
    refine y_asgI K (.str (st [lt2 c a] ++ st [lt2 c b])) ?_ ?_
    · refine ei_addS ?_ ?_ (by show 1 + 1 ≤ 100000; decide)
      · exact ei_at rfl hT (ei_ixT (i := 0) (ei_var rfl hx) ei_int rfl) (ei_ixT (i := 1) (ei_var rfl hx) ei_int rfl) ha
      · exact ei_at rfl hT (ei_ixT (i := 0) (ei_var rfl hy) ei_int rfl) (ei_ixT (i := 1) (ei_var rfl hy) ei_int rfl) hb
    · intro v H1 e1 hv
      cases hv
      refine y_retI K (.int (dl (lt2 c a) (lt2 c b))) ?_ (fun v H2 e2 r => q v H2 (e1.trans e2) r)
      apply EvI.to
      · apply ei_if
        · exact et_of K (ei_eqS (by walk_at "e") (by walk_at "e"))
        · intro _; walk_at "e"
        · intro _
          apply ei_if
          · exact et_of K (ei_eqS (by walk_at "e") (by walk_at "e"))
          · intro _; walk_at "e"
          · intro _; walk_at "e"
      · rw [← key]
        generalize decide (st [lt2 c a] ++ st [lt2 c b] = ("ab" : Str)) = p
        generalize decide (st [lt2 c a] ++ st [lt2 c b] = ("ba" : Str)) = q
        cases p <;> cases q <;> rfl
/-! ### asked_triangle: of a triangle nothing is refused -/
def preAskedT (K : PySem.W.Frag) : List V → Hp → PyData → Prop := fun vs H d => ∃ t n c, vs = [t] ∧ Tri K H t n c ∧ d = .none
theorem abc_has {x : Nat} (h : DW.ltr x) : (("abc" : Str).cps.contains x) = true := by
  rcases h with rfl | rfl | rfl <;> decide +kernel
abbrev s_asked_triangle : Stmt := top 9
theorem sc_asked_triangle : FnScope ["triangle", "at", "row"] ["triangle"] (defScope s_asked_triangle) := ⟨rfl, rfl, rfl, by decide +kernel, rfl, by decide +kernel, by decide +kernel⟩
theorem ok_asked_triangle (D : Def K mg "asked_triangle" s_asked_triangle) (hL : ∃ tk, mg "LETTERS" = some (.str "abc" tk)) (m_len : mg "len" = none) (m_isinstance : mg "isinstance" = none) (m_enumerate : mg "enumerate" = none) (m_list : mg "list" = none) (m_str : mg "str" = none) :
    Callee P w K mg base CX0 1 "asked_triangle" ["triangle"] (PrI K (preAskedT K)) := by
  obtain ⟨tk, gLETTERS⟩ := hL
  refine D.ok sc_asked_triangle (fun _ _ _ _ _ _ us hl => match us, hl with | [_], _ => rfl) (fun vs H Q E h => ?_) (fun f cdv A outer s H vs Q E hr h => ?_)
  · obtain ⟨d, ⟨t, n, c, rfl, _⟩, _⟩ := h; rfl
  · obtain ⟨d, ⟨t, n, c, rfl, hT, rfl⟩, q⟩ := h
    refine ⟨_, (pss_cons (ps_if (PW.pt (pw_or (pt_not (pt_val (pe_callB (kr_isi (K := K) rfl) (by rfl) m_isinstance (by decide +kernel) (pa_cons (pv 0) (pa_cons (pe_bltn (v := .ty "list") (by rfl) m_list (by decide +kernel) rfl) pa_nil))))) (pw_or1 (pt_cmpR op_lt (pe_callB (kr_len (K := K) rfl) (by rfl) m_len PySem.boot_len (pa_cons (pv 0) pa_nil)) pe_int (nomark _)))))
  (pss_cons ps_never
 pss_nil)
  pss_nil)
 (pss_cons (ps_for PassesOwn.never rfl (ki_enum (K := K) rfl (by rfl) m_enumerate (pa_cons (pv 0) pa_nil)) (kg_tup (K := K) (n := 2) rfl rfl (pgs_cons (pg_name (i := 1) sc_asked_triangle.nd rfl (.inl rfl)) (pgs_cons (pg_name (i := 2) sc_asked_triangle.nd rfl (.inl rfl)) pgs_nil)))
  (pss_cons (ps_if (PW.pt (pw_or (pt_not (pt_val (pe_callB (kr_isi (K := K) rfl) (by rfl) m_isinstance (by decide +kernel) (pa_cons (pv 2) (pa_cons (pe_bltn (v := .ty "str") (by rfl) m_str (by decide +kernel) rfl) pa_nil))))) (pw_or (pt_cmpR op_ne (pe_callB call_len_str (by rfl) m_len PySem.boot_len (pa_cons (pv 2) pa_nil)) (pe_op op_sub (pe_callB (kr_len (K := K) rfl) (by rfl) m_len PySem.boot_len (pa_cons (pv 0) pa_nil)) (pv 1)) (nomark _)) (pw_or1 (pt_cmpR op_ne (ke_bm (K := K) rfl PySem.F.plainAttrs_str PySem.F.slot_str_strip PySem.F.type_str_strip mt_stripChars (pv 2) (pa_cons (pe_glob (v := .str "abc") (by rfl) gLETTERS ⟨_, rfl⟩) pa_nil)) pe_str (nomark _))))))
  (pss_cons ps_never
 pss_nil)
  pss_nil)
 pss_nil))
 pss_nil)), ?_⟩
    have two := hT.two
    have few := hT.few
    refine y_no ?_ ?_
    · apply et_to
      · apply et_or
        · exact et_not (et_val K (ei_isK (ek_var rfl hT.ls) kit_list))
        · intro _; exact et_of K (by walk_at "e")
      · show (!true || decide ((n : Int) < 2)) = false
        simp; omega
    · intro H1 e1
      refine x_forE (K := K) (enc := PyData.str) (L := triD n c) (src1 (ek_var rfl (hT.mono e1).ls)) ?_
      intro a xs H2 e2 h1 h2
      refine ⟨fun i σ' H' => Ex H2 H' ∧ ∃ y1 y2, σ' = [some t, y1, y2], ⟨Ex.refl _, none, none, rfl⟩, fun i σ' H' _ p => ⟨ex_l p.1 h1, h2.mono p.1⟩, ?_, fun σ' H' p => q .non H' ((e1.trans e2).trans p.1) .non⟩
      intro i z x σ' H' H'' hz p e3 hx
      obtain ⟨p1, y1, y2, rfl⟩ := p
      refine g_tup2 hx ?_
      intro u1 u2 k1 k2
      obtain rfl := k1.intE
      obtain rfl := k2.strE
      have hT3 := hT.mono (((e1.trans e2).trans p1).trans e3)
      have hi : i < n := by
        have := (List.getElem?_eq_some_iff.mp hz).1
        rw [triD_len] at this; exact this
      have ez : z = rowS n c i := by rw [triD_get hi] at hz; exact (Option.some.inj hz).symm
      subst ez
      have len := rowS_len n c i
      refine y_no ?_ ?_
      · apply et_to
        · apply et_or
          · exact et_not (et_val K (ei_isI (ei_var rfl (.str _)) kit_str))
          · intro _
            apply et_or
            · exact et_of K (ei_neI (ei_lenS (ei_var rfl (.str _)) (by omega)) (ei_I0i (et_len rfl hT3) (ei_var rfl (.int _))))
            · intro _
              exact et_of K (ei_neS (ei_strip (ei_var rfl (.str _)) ei_str (by omega)) ei_str)
        · rw [strip_all (fun x hx => ?_)]
          · have : decide (((rowS n c i).length : Int) = (n : Int) - (i : Int)) = true := decide_eq_true (by rw [len]; omega)
            rw [this]; rfl
          · rw [rowS_list] at hx
            obtain ⟨j, _, rfl⟩ := List.mem_map.mp hx
            exact abc_has (hT.ltr _ _)
      · intro H4 e4
        exact ⟨(p1.trans e3).trans e4, _, _, rfl⟩
end
end DWL
namespace DWL
open PySem PySem.Spec PyProof.Rows L2 Evl DW
section
variable {P : Program} {w : World} {K : PySem.W.Frag} {mg : Str → Option Value} {base : Heap}
local macro_rules | `(tactic| walk_at "v") => `(tactic| first | exact ei_int | exact ei_str | exact ei_bl | exact ei_non | exact ei_neg ei_int | exact ei_var rfl (Im.int _) | exact ei_var rfl (Im.str _) | exact ei_var rfl (Im.bl _) | exact ei_var rfl (by assumption) | exact et_len rfl (by assumption))
local macro_rules | `(tactic| walk_at "e") => `(tactic| first | walk_at "v" | (apply ei_I0i <;> walk_at "e") | (apply ei_I0b <;> walk_at "e") | (apply ei_chainI <;> walk_at "e") | (apply ei_eqI <;> walk_at "e") | (apply ei_eqS <;> walk_at "e") | (refine' ei_tup ?_ (Nat.le_of_ble_eq_true rfl) <;> walk_at "e") | (apply eai_cons <;> walk_at "e") | exact eai_nil)
/-! ### is_number, asked_small, asked_spot -/
def isNumD : PyData → Bool
  | .int _ => true
  | _ => false
def preIsNumber (K : PySem.W.Frag) : List V → Hp → PyData → Prop := fun vs H d => ∃ x e, vs = [x] ∧ Im K H x e ∧ d = .bool (isNumD e)
theorem kitsI : ∀ n ∈ ["NoneType", "bool", "int", "str", "tuple"], kitB n "int" = some (n == "bool" || n == "int") ∧ kitB n "bool" = some (n == "bool") := by decide +kernel
abbrev s_is_number : Stmt := top 8
theorem sc_is_number : FnScope ["thing"] ["thing"] (defScope s_is_number) := ⟨rfl, rfl, rfl, by decide +kernel, rfl, by decide +kernel, by decide +kernel⟩
theorem ok_is_number (D : Def K mg "is_number" s_is_number) (m_isinstance : mg "isinstance" = none) (m_int : mg "int" = none) (m_bool : mg "bool" = none) : Callee P w K mg base CX0 1 "is_number" ["thing"] (PrI K (preIsNumber K)) := by
  refine D.ok sc_is_number (fun _ _ _ _ _ _ us hl => match us, hl with | [_], _ => rfl) (fun vs H Q E h => ?_) (fun f cdv A outer s H vs Q E hr h => ?_)
  · obtain ⟨d, ⟨x, e, rfl, _⟩, _⟩ := h; rfl
  · obtain ⟨d, ⟨x, e, rfl, hx, rfl⟩, q⟩ := h
    refine ⟨_, (pss_cons (ps_ret (pe_and (pe_callB (kr_isi (K := K) rfl) (by rfl) m_isinstance (by decide +kernel) (pa_cons (pv 0) (pa_cons (pe_bltn (v := .ty "int") (by rfl) m_int (by decide +kernel) rfl) pa_nil))) (pe_one (pe_not (pe_callB (kr_isi (K := K) rfl) (by rfl) m_isinstance (by decide +kernel) (pa_cons (pv 0) (pa_cons (pe_bltn (v := .ty "bool") (by rfl) m_bool (by decide +kernel) rfl) pa_nil)))))))
 pss_nil), ?_⟩
    have m : tyD e ∈ ["NoneType", "bool", "int", "str", "tuple"] := by cases hx <;> simp [tyD]
    obtain ⟨k1, k2⟩ := kitsI _ m
    refine y_retI K (.bool (isNumD e)) ?_ (fun v H2 e2 r => q v H2 e2 r)
    apply EvI.to
    · apply ei_andV
      · exact ei_isI (ei_var rfl hx) k1
      · intro _; exact ei_notV (ei_isI (ei_var rfl hx) k2)
    · cases hx <;> rfl
def preAskedS (K : PySem.W.Frag) : List V → Hp → PyData → Prop := fun vs H d => ∃ t x n c s, vs = [t, x] ∧ Tri K H t n c ∧ Im K H x (smD s) ∧ IsSm n s ∧ d = .none
theorem isSm_B {n : Nat} {s : Sm} (h : IsSm n s) : isSmB n s.1 s.2.1 s.2.2 = true := by
  obtain ⟨r, p, u⟩ := s
  unfold isSmB
  rcases h with ⟨hu, h⟩ | ⟨hu, h⟩ <;> dsimp only at hu h ⊢ <;> subst hu
  · rw [if_pos (show ((1 : Nat) : Int) = 1 from rfl)]; simp; omega
  · rw [if_neg (show ¬ ((0 : Nat) : Int) = 1 by decide)]; simp; omega
abbrev s_asked_small : Stmt := top 11
theorem sc_asked_small : FnScope ["triangle", "small", "one"] ["triangle", "small"] (defScope s_asked_small) := ⟨rfl, rfl, rfl, by decide +kernel, rfl, by decide +kernel, by decide +kernel⟩
theorem ok_asked_small (D : Def K mg "asked_small" s_asked_small) (c_is_number : Callee P w K mg base CX0 1 "is_number" ["thing"] (PrI K (preIsNumber K))) (c_is_small : Callee P w K mg base CX0 1 "is_small" ["triangle", "row", "place", "up"] (PrI K (preIsSmall K)))
    (m_len : mg "len" = none) (m_isinstance : mg "isinstance" = none) (m_tuple : mg "tuple" = none) (m_all : mg "all" = none) :
    Callee P w K mg base CX0 2 "asked_small" ["triangle", "small"] (PrI K (preAskedS K)) := by
  refine D.ok sc_asked_small (fun _ _ _ _ _ _ us hl => match us, hl with | [_, _], _ => rfl) (fun vs H Q E h => ?_) (fun f cdv A outer s H vs Q E hr h => ?_)
  · obtain ⟨d, ⟨t, x, n, c, s, rfl, _⟩, _⟩ := h; rfl
  · obtain ⟨d, ⟨t, x, n, c, z, rfl, hT, hx, hs, rfl⟩, q⟩ := h
    refine ⟨_, (pss_cons (ps_if (PW.pt (pw_or (pt_not (pt_val (pe_callB (kr_isi (K := K) rfl) (by rfl) m_isinstance (by decide +kernel) (pa_cons (pv 1) (pa_cons (pe_bltn (v := .ty "tuple") (by rfl) m_tuple (by decide +kernel) rfl) pa_nil))))) (pw_or (pt_cmpR op_ne (pe_callB (kr_len (K := K) rfl) (by rfl) m_len PySem.boot_len (pa_cons (pv 1) pa_nil)) pe_int (nomark _)) (pw_or1 (pt_not (pt_val (pe_callB (kr_all (K := K) rfl rfl) (by rfl) m_all (by decide +kernel) (pa_cons (pe_lc (own := [("one", 2)]) rfl sc_asked_small.nd (ki_tup (K := K) rfl (pv 1)) (blkOk_by (N := ["triangle", "small", "one"]) (sc := defScope s_asked_small) (by decide +kernel)) (fun _ _ _ _ _ => (pg_name (i := 2) sc_asked_small.nd rfl (.inl rfl) (.inr rfl))) (fun _ _ _ _ _ => pts_nil) (fun _ _ _ _ _ => (pe_callC c_is_number (hr.mono (by decide)) (by rfl) (pa_cons (pv 2) pa_nil)))) pa_nil))))))))
  (pss_cons ps_never
 pss_nil)
  pss_nil)
 (pss_cons (ps_if (pt_not (pt_val (pe_callC c_is_small (hr.mono (by decide)) (by rfl) (pa_cons (pv 0) (pa_cons (pe_ix (kx_tup (K := K) rfl) (pv 1) pe_int (fun _ _ => rfl)) (pa_cons (pe_ix (kx_tup (K := K) rfl) (pv 1) pe_int (fun _ _ => rfl)) (pa_cons (pe_ix (kx_tup (K := K) rfl) (pv 1) pe_int (fun _ _ => rfl)) pa_nil)))))))
  (pss_cons ps_never
 pss_nil)
  pss_nil)
 pss_nil)), ?_⟩
    refine y_no ?_ ?_
    · apply et_to
      · apply et_or
        · exact et_not (et_val K (ei_isI (ei_var rfl hx) kit_tuple))
        · intro _
          apply et_or
          · exact et_of K (ei_neI (ei_lenT (ei_var rfl hx)) ei_int)
          · intro _
            refine et_not (et_val K (ei_all (bs := [true, true, true]) (EvN.k (EvN.to (en_lcT (L := [(z.1 : Int), z.2.1, z.2.2]) (enc := PyData.int) (fun _ => true) (fun _ => .bool true) (ei_var rfl hx) (by show 3 ≤ 40000; decide) ?_) rfl))))
            intro a _ y H1 e hy
            refine ⟨_, fun Q q => q, rfl, et_yes, fun _ => ?_⟩
            refine ei_call (eax1 (R1 := fun v H1 => Im K H1 v (.int a)) (ei_var rfl hy)) ?_
            rintro vs H2 e2 ⟨b, rfl, h⟩
            exact ⟨b, _, rfl, h, rfl⟩
      · rfl
    · intro H1 e1
      refine y_no ?_ (fun H2 e2 => q .non H2 (e1.trans e2) .non)
      refine et_to (et_not (et_val K (b := true) ?_)) rfl
      refine ei_call (eax4 (R1 := fun v H1 => Tri K H1 v n c) (R2 := fun v H1 => Im K H1 v (.int z.1)) (R3 := fun v H1 => Im K H1 v (.int z.2.1)) (R4 := fun v H1 => Im K H1 v (.int z.2.2)) (ex_var rfl fun H1 e => (hT.mono e1).mono e) (fun _ _ _ e h => h.mono e)
        (ei_ixT (i := 0) (ei_var rfl (hx.mono e1)) ei_int rfl) mI (ei_ixT (i := 1) (ei_var rfl (hx.mono e1)) ei_int rfl) mI (ei_ixT (i := 2) (ei_var rfl (hx.mono e1)) ei_int rfl)) ?_
      rintro vs H2 e2 ⟨a, b, c', d, rfl, h1, h2, h3, h4⟩
      cases h2; cases h3; cases h4
      exact ⟨a, n, c, _, _, _, rfl, h1, by rw [isSm_B hs]⟩
def preAskedSp (K : PySem.W.Frag) : List V → Hp → PyData → Prop := fun vs H d => ∃ t n c, ∃ r p : Nat, vs = [t, .int r, .int p] ∧ Tri K H t n c ∧ r + p < n ∧ d = .none
end
end DWL
namespace DWL
open PySem PySem.Spec PyProof.Rows L2 Evl DW
section
variable {P : Program} {w : World} {K : PySem.W.Frag} {mg : Str → Option Value} {base : Heap}
local macro_rules | `(tactic| walk_at "v") => `(tactic| first | exact ei_int | exact ei_str | exact ei_bl | exact ei_non | exact ei_neg ei_int | exact ei_var rfl (Im.int _) | exact ei_var rfl (Im.str _) | exact ei_var rfl (Im.bl _) | exact ei_var rfl (by assumption) | exact et_len rfl (by assumption))
local macro_rules | `(tactic| walk_at "e") => `(tactic| first | walk_at "v" | (apply ei_I0i <;> walk_at "e") | (apply ei_I0b <;> walk_at "e") | (apply ei_chainI <;> walk_at "e") | (apply ei_eqI <;> walk_at "e") | (apply ei_eqS <;> walk_at "e") | (refine' ei_tup ?_ (Nat.le_of_ble_eq_true rfl) <;> walk_at "e") | (apply eai_cons <;> walk_at "e") | exact eai_nil)
/-! ### smalls -/
theorem flat_len {α : Type} (f : Nat → List α) (m : Nat) : ∀ n, (∀ i, i < n → (f i).length ≤ m) → ((List.range n).flatMap f).length ≤ n * m
  | 0, _ => by simp
  | n + 1, h => by
    rw [List.range_succ, List.flatMap_append, List.length_append]
    have h1 := flat_len f m n fun i hi => h i (by omega)
    have h2 := h n (by omega)
    rw [Nat.add_mul]
    simp only [List.flatMap_cons, List.flatMap_nil, List.append_nil, Nat.one_mul]
    omega
theorem flat_snoc {α : Type} (f : Nat → List α) (n : Nat) : (List.range (n + 1)).flatMap f = (List.range n).flatMap f ++ f n := by
  rw [List.range_succ, List.flatMap_append]; simp
def kI (s : Sm) : Tr3.I3 := (s.1, s.2.1, s.2.2)
def kB (k : Tr3.I3) : Sm := (k.1.toNat, k.2.1.toNat, k.2.2.toNat)
theorem kB_kI (s : Sm) : kB (kI s) = s := by obtain ⟨r, p, u⟩ := s; simp [kB, kI]
theorem smD_tr (s : Sm) : smD s = trD (kI s) := rfl
theorem smalls_sorted (n : Nat) (l : List Tr3.I3) (h1 : l.Pairwise (fun x y => Tr3.before y x = false)) (h2 : l.Perm ((smalls0 n).map kI)) : l = (smalls n).map kI := by
  have e : l = (l.map kB).map kI := by
    rw [List.map_map]
    conv => lhs; rw [← List.map_id l]
    refine List.map_congr_left fun k hk => ?_
    obtain ⟨s, _, rfl⟩ := List.mem_map.mp (h2.mem_iff.mp hk)
    show kI s = kI (kB (kI s))
    rw [kB_kI]
  have p : (l.map kB).Perm (smalls n) := by
    have := h2.map kB
    rw [List.map_map, show (kB ∘ kI) = id from funext kB_kI, List.map_id] at this
    exact this.trans (smalls_perm n)
  have s : (l.map kB).Pairwise (fun x y => ¬ ltS y x) := by
    refine List.pairwise_map.mpr (h1.imp_of_mem fun {x y} hx hy h => ?_)
    obtain ⟨a, _, rfl⟩ := List.mem_map.mp (h2.mem_iff.mp hx)
    obtain ⟨b, _, rfl⟩ := List.mem_map.mp (h2.mem_iff.mp hy)
    rw [kB_kI, kB_kI]
    have := of_decide_eq_false h
    unfold ltS
    unfold kI at this
    dsimp only at this
    omega
  rw [e, rise_uniq p (smalls_rising n) s]
def preTri (K : PySem.W.Frag) (f : Nat → (Nat → Nat → Nat) → PyData) : List V → Hp → PyData → Prop := fun vs H d => ∃ t n c, vs = [t] ∧ Tri K H t n c ∧ d = f n c
def preTriN (K : PySem.W.Frag) (f : Nat → (Nat → Nat → Nat) → List PyData) : List V → Hp → List PyData → Prop := fun vs H ds => ∃ t n c, vs = [t] ∧ Tri K H t n c ∧ ds = f n c
abbrev spSmalls (K : PySem.W.Frag) : Sp := PrN K (preTriN K fun n _ => (smalls n).map smD)
abbrev s_smalls : Stmt := top 15
theorem sc_smalls : FnScope ["triangle", "found", "row", "place"] ["triangle"] (defScope s_smalls) := ⟨rfl, rfl, rfl, by decide +kernel, rfl, by decide +kernel, by decide +kernel⟩
theorem ok_smalls (D : Def K mg "smalls" s_smalls) (c_is_small : Callee P w K mg base CX0 1 "is_small" ["triangle", "row", "place", "up"] (PrI K (preIsSmall K))) (m_len : mg "len" = none) (m_range : mg "range" = none) (m_sorted : mg "sorted" = none) :
    Callee P w K mg base CX0 2 "smalls" ["triangle"] (spSmalls K) := by
  refine D.ok sc_smalls (fun _ _ _ _ _ _ us hl => match us, hl with | [_], _ => rfl) (fun vs H Q E h => ?_) (fun f cdv A outer s H vs Q E hr h => ?_)
  · obtain ⟨d, ⟨t, n, c, rfl, _⟩, _⟩ := h; rfl
  · obtain ⟨d, ⟨t, n, c, rfl, hT, rfl⟩, q⟩ := h
    refine ⟨_, (pss_cons (ps_set (i := 1) sc_smalls.nd rfl (.inl rfl) (pe_lst pa_nil))
 (pss_cons (ps_for PassesOwn.never rfl (pi_range1 (by rfl) m_range (pa_cons (pe_op op_sub (pe_callB (kr_len (K := K) rfl) (by rfl) m_len PySem.boot_len (pa_cons (pv 0) pa_nil)) pe_int) pa_nil)) (pg_name (i := 2) sc_smalls.nd rfl (.inl rfl))
  (pss_cons (ps_for PassesOwn.never rfl (pi_range1 (by rfl) m_range (pa_cons (pe_op op_sub (pe_op op_sub (pe_callB (kr_len (K := K) rfl) (by rfl) m_len PySem.boot_len (pa_cons (pv 0) pa_nil)) pe_int) (pv 2)) pa_nil)) (pg_name (i := 3) sc_smalls.nd rfl (.inl rfl))
  (pss_cons (ps_expr (ke_bm (K := K) rfl PySem.F.plainAttrs_list PySem.F.slot_list_append PySem.F.type_list_append mt_append (pv 1) (pa_cons (pe_tup (pa_cons (pv 2) (pa_cons (pv 3) (pa_cons pe_int pa_nil)))) pa_nil)))
 (pss_cons (ps_if (pt_val (pe_callC c_is_small (hr.mono (by decide)) (by rfl) (pa_cons (pv 0) (pa_cons (pv 2) (pa_cons (pv 3) (pa_cons pe_int pa_nil))))))
  (pss_cons (ps_expr (ke_bm (K := K) rfl PySem.F.plainAttrs_list PySem.F.slot_list_append PySem.F.type_list_append mt_append (pv 1) (pa_cons (pe_tup (pa_cons (pv 2) (pa_cons (pv 3) (pa_cons pe_int pa_nil)))) pa_nil)))
 pss_nil)
  pss_nil)
 pss_nil)))
 pss_nil))
 (pss_cons (ps_ret (pe_callB (kr_sorted3 (K := K) rfl) (by rfl) m_sorted (by decide +kernel) (pa_cons (pv 1) pa_nil)))
 pss_nil))), ?_⟩
    have two := hT.two
    have few := hT.few
    refine y_asgG K [] (en_lst eai_nil (Nat.zero_le _)) ?_
    intro l H1 g1
    have w1 : EvAI K (tCons (tOp (rI0 fun i j => V.int (i - j)) (tCB (rLenS K) (tCons (tVar 0) tNil)) (tC (V.int 1))) tNil) ((start ["triangle", "found", "row", "place"] [t]).set 1 (some (V.ref l))) H1 [.int ((n : Int) - 1)] := eai_cons (ei_I0i (et_len rfl (hT.mono g1.ex)) ei_int) eai_nil
    refine x_forR w1 (by omega) (fun i σ' H' => (∃ y2 y3, σ' = [some t, some (.ref l), y2, y3]) ∧ Grow K H H' l (((List.range i).flatMap (rowSm0 n)).map smD)) (fun H2 e2 => ⟨⟨none, none, rfl⟩, g1.go e2⟩) ?_ ?_
    · rintro r σ1 H2 hr' ⟨⟨y2, y3, rfl⟩, g2⟩
      have w2 : EvAI K (tCons (tOp (rI0 fun i j => V.int (i - j)) (tOp (rI0 fun i j => V.int (i - j)) (tCB (rLenS K) (tCons (tVar 0) tNil)) (tC (V.int 1))) (tVar 2)) tNil) ([some t, some (.ref l), some (.int (r : Int)), y3]) H2 [.int ((n : Int) - 1 - (r : Int))] := eai_cons (ei_I0i (ei_I0i (et_len rfl (hT.mono g2.ex)) ei_int) (ei_var rfl (.int _))) eai_nil
      refine x_forR w2 (by omega) (fun j σ' H' => (∃ y3, σ' = [some t, some (.ref l), some (.int (r : Int)), y3]) ∧ Grow K H H' l (((List.range r).flatMap (rowSm0 n) ++ (List.range j).flatMap fun p => if p + 1 < n - 1 - r then [(r, p, 1), (r, p, 0)] else [(r, p, 1)]).map smD)) (fun H3 e3 => ⟨⟨y3, rfl⟩, by simpa using g2.go e3⟩) ?_ ?_
      · rintro p σ2 H3 hp ⟨⟨y4, rfl⟩, g3⟩
        have hT3 := hT.mono g3.ex
        have lenA : ((List.range r).flatMap (rowSm0 n)).length ≤ r * 120 := flat_len _ 120 _ fun i _ => by
          have : (rowSm0 n i).length ≤ (n - 1 - i) * 2 := flat_len _ 2 _ fun j _ => by split <;> simp
          omega
        have lenB : ((List.range p).flatMap fun p => if p + 1 < n - 1 - r then [(r, p, 1), (r, p, 0)] else [(r, p, 1)]).length ≤ p * 2 := flat_len _ 2 _ fun j _ => by split <;> simp
        refine x_appQ (d := smD (r, p, 1)) g3 (evv_var rfl) (by walk_at "e") (by simp only [List.length_map, List.length_append]; omega) ?_
        intro H4 g4 _
        have hT4 := hT.mono g4.ex
        refine y_when (isSmB n r p 0) ?_ ?_ ?_
        · refine et_val K ?_
          refine ei_call (eax4 (R1 := fun v H1 => Tri K H1 v n c) (R2 := fun v H1 => Im K H1 v (.int r)) (R3 := fun v H1 => Im K H1 v (.int p)) (R4 := fun v H1 => Im K H1 v (.int 0)) (ex_var rfl fun H1 e => hT4.mono e) (fun _ _ _ e h => h.mono e)
            (ei_var rfl (.int _)) mI (ei_var rfl (.int _)) mI ei_int) ?_
          rintro vs H2 e2 ⟨a, b, c', d, rfl, h1, h2, h3, h4⟩
          cases h2; cases h3; cases h4
          exact ⟨a, n, c, _, _, _, rfl, h1, rfl⟩
        · intro hb H5 e5
          have g5 := g4.go e5
          have hb' : p + 1 < n - 1 - r := by
            unfold isSmB at hb
            rw [if_neg (by decide)] at hb
            simp at hb; omega
          refine x_appQ (d := smD (r, p, 0)) g5 (evv_var rfl) (by walk_at "e") (by simp only [List.length_map, List.length_append, List.length_cons, List.length_nil]; omega) ?_
          intro H6 g6 _
          refine ⟨⟨_, rfl⟩, ?_⟩
          rw [flat_snoc, if_pos hb']
          simpa using g6
        · intro hb H5 e5
          have hb' : ¬ p + 1 < n - 1 - r := by
            unfold isSmB at hb
            rw [if_neg (by decide)] at hb
            simp at hb; omega
          refine ⟨⟨_, rfl⟩, ?_⟩
          rw [flat_snoc, if_neg hb']
          simpa using g4.go e5
      · rintro σ2 H3 ⟨⟨y4, rfl⟩, g3⟩
        refine ⟨⟨_, _, rfl⟩, ?_⟩
        rw [flat_snoc]
        have : ((n : Int) - 1 - (r : Int)).toNat = n - 1 - r := by omega
        rw [this] at g3
        exact g3
    · rintro σ1 H2 ⟨⟨y2, y3, rfl⟩, g2⟩
      have e : ((n : Int) - 1).toNat = n - 1 := by omega
      rw [e] at g2
      refine y_retN K ((smalls n).map smD) ?_ (fun p xs H3 hp e3 h1 h2 => q p xs H3 (fresh_back g2.ex hp) (g2.ex.trans e3) h1 h2)
      refine EvN.to (en_sorted3 ((smalls n).map kI) (ks := (smalls0 n).map kI) ?_ (fun l' => smalls_sorted n l')) (by rw [List.map_map]; rfl)
      refine ek_var rfl ?_
      rw [List.map_map]
      exact g2.ls.ls
/-! ### side -/
abbrev spSide (K : PySem.W.Frag) : Sp := PrN K (preTriN K fun n _ => (sideSp n).map spD)
abbrev s_side : Stmt := top 16
theorem sc_side : FnScope ["triangle", "last", "found", "place", "row"] ["triangle"] (defScope s_side) := ⟨rfl, rfl, rfl, by decide +kernel, rfl, by decide +kernel, by decide +kernel⟩
theorem ok_side (D : Def K mg "side" s_side) (m_len : mg "len" = none) (m_range : mg "range" = none) : Callee P w K mg base CX0 1 "side" ["triangle"] (spSide K) := by
  refine D.ok sc_side (fun _ _ _ _ _ _ us hl => match us, hl with | [_], _ => rfl) (fun vs H Q E h => ?_) (fun f cdv A outer s H vs Q E hr h => ?_)
  · obtain ⟨d, ⟨t, n, c, rfl, _⟩, _⟩ := h; rfl
  · obtain ⟨d, ⟨t, n, c, rfl, hT, rfl⟩, q⟩ := h
    refine ⟨_, (pss_cons (ps_set (i := 1) sc_side.nd rfl (.inr rfl) (pe_op op_sub (pe_callB (kr_len (K := K) rfl) (by rfl) m_len PySem.boot_len (pa_cons (pv 0) pa_nil)) pe_int))
 (pss_cons (ps_setLc (i := 2) (own := [("place", 3)]) rfl sc_side.nd rfl rfl (sw_true rfl rfl rfl (by decide +kernel)) (pi_range1 (by rfl) m_range (pa_cons (pv 1) pa_nil)) (blkOk_by (N := ["triangle", "last", "found", "place", "row"]) (sc := defScope s_side) (by decide +kernel)) (fun _ _ _ _ _ => (pg_name (i := 3) sc_side.nd rfl (.inl rfl) (.inr rfl))) (fun _ _ _ _ _ => pts_nil) (fun _ _ _ _ _ => (pe_tup (pa_cons pe_int (pa_cons (pv 3) pa_nil)))))
 (pss_cons (ps_set (i := 2) sc_side.nd rfl (.inl rfl) (pe_op op_cat (pv 2) (pe_lc (own := [("row", 4)]) rfl sc_side.nd (pi_range1 (by rfl) m_range (pa_cons (pv 1) pa_nil)) (blkOk_by (N := ["triangle", "last", "found", "place", "row"]) (sc := defScope s_side) (by decide +kernel)) (fun _ _ _ _ _ => (pg_name (i := 4) sc_side.nd rfl (.inl rfl) (.inr rfl))) (fun _ _ _ _ _ => pts_nil) (fun _ _ _ _ _ => (pe_tup (pa_cons (pv 4) (pa_cons (pe_op op_sub (pv 1) (pv 4)) pa_nil)))))))
 (pss_cons (ps_ret (pe_op op_cat (pv 2) (pe_lc (own := [("row", 4)]) rfl sc_side.nd (pi_range3 (by rfl) m_range (pa_cons (pv 1) (pa_cons (pe_un un_neg pe_int) (pa_cons (pe_un un_neg pe_int) pa_nil)))) (blkOk_by (N := ["triangle", "last", "found", "place", "row"]) (sc := defScope s_side) (by decide +kernel)) (fun _ _ _ _ _ => (pg_name (i := 4) sc_side.nd rfl (.inl rfl) (.inr rfl))) (fun _ _ _ _ _ => pts_nil) (fun _ _ _ _ _ => (pe_tup (pa_cons (pv 4) (pa_cons pe_int pa_nil)))))))
 pss_nil)))), ?_⟩
    have two := hT.two
    have few := hT.few
    have en : ((n : Int) - 1).toNat = n - 1 := by omega
    refine y_asgI K (.int ((n : Int) - 1)) (by walk_at "e") ?_
    intro v H1 e1 hv
    obtain rfl := hv.intE
    refine y_asgN K ((((List.range (n - 1)).map fun p => ((0, p) : Sp2))).map spD) ?_ ?_
    · refine EvN.to (en_lcR (n := (n : Int) - 1) (fun _ => true) (fun p => spD (0, p)) (by walk_at "e") (by omega) ?_ (by omega)) (by rw [List.filter_eq_self.mpr (fun _ _ => rfl), en, List.map_map]; rfl)
      intro i hi H2 e2
      refine ⟨_, fun Q q => q, rfl, et_yes, fun _ => by walk_at "e"⟩
    · intro p xs H2 hp e2 g1 g2
      refine y_asgN K ((((List.range (n - 1)).map fun p => ((0, p) : Sp2)) ++ ((List.range (n - 1)).map fun r => ((r, n - 1 - r) : Sp2))).map spD) ?_ ?_
      · rw [List.map_append]
        refine en_cat (em_var rfl ⟨_, _, rfl, g1, g2⟩) (EvN.m ?_) (by simp; omega)
        refine EvN.to (en_lcR (n := (n : Int) - 1) (fun _ => true) (fun r => pr2 r ((n : Int) - 1 - (r : Int))) (by walk_at "e") (by omega) ?_ (by omega)) ?_
        · intro i hi H2 e2
          refine ⟨_, fun Q q => q, rfl, et_yes, fun _ => by walk_at "e"⟩
        · rw [List.filter_eq_self.mpr (fun _ _ => rfl), en, List.map_map]
          refine List.map_congr_left fun r hr => ?_
          have := List.mem_range.mp hr
          show pr2 r ((n : Int) - 1 - (r : Int)) = pr2 (r : Nat) ((n - 1 - r : Nat) : Int)
          congr 1; omega
      · intro p2 xs2 H3 hp2 e3 g3 g4
        refine y_retN K ((sideSp n).map spD) ?_ (fun p xs H4 hp e4 h1 h2 => q p xs H4 (fresh_back (e1.trans (e2.trans e3)) hp) ((e1.trans (e2.trans e3)).trans e4) h1 h2)
        have : sideSp n = (((List.range (n - 1)).map fun p => ((0, p) : Sp2)) ++ ((List.range (n - 1)).map fun r => ((r, n - 1 - r) : Sp2))) ++ (List.range n).map (fun r => ((n - 1 - r, 0) : Sp2)) := rfl
        rw [this, List.map_append]
        refine en_cat (em_var rfl ⟨_, _, rfl, g3, g4⟩) (EvN.m ?_) (by simp; omega)
        refine EvN.to (en_lcDown (a := (n : Int) - 1) (b := -1) (fun _ => true) (fun r => pr2 ((n : Int) - 1 - (r : Int)) 0) (by walk_at "e") (by omega) ?_) ?_
        · intro i hi H2 e2
          refine ⟨_, fun Q q => q, rfl, et_yes, fun _ => by walk_at "e"⟩
        · rw [List.filter_eq_self.mpr (fun _ _ => rfl), show ((n : Int) - 1 - -1).toNat = n by omega, List.map_map]
          refine List.map_congr_left fun r hr => ?_
          have := List.mem_range.mp hr
          show pr2 ((n : Int) - 1 - (r : Int)) 0 = pr2 ((n - 1 - r : Nat) : Int) ((0 : Nat) : Int)
          congr 1; omega
end
end DWL
namespace DWL
open PySem PySem.Spec PyProof.Rows L2 Evl DW
section
variable {P : Program} {w : World} {K : PySem.W.Frag} {mg : Str → Option Value} {base : Heap}
local macro_rules | `(tactic| walk_at "v") => `(tactic| first | exact ei_int | exact ei_str | exact ei_bl | exact ei_non | exact ei_neg ei_int | exact ei_var rfl (Im.int _) | exact ei_var rfl (Im.str _) | exact ei_var rfl (Im.bl _) | exact ei_var rfl (by assumption) | exact et_len rfl (by assumption))
local macro_rules | `(tactic| walk_at "e") => `(tactic| first | walk_at "v" | (apply ei_I0i <;> walk_at "e") | (apply ei_I0b <;> walk_at "e") | (apply ei_chainI <;> walk_at "e") | (apply ei_eqI <;> walk_at "e") | (apply ei_eqS <;> walk_at "e") | (refine' ei_tup ?_ (Nat.le_of_ble_eq_true rfl) <;> walk_at "e") | (apply eai_cons <;> walk_at "e") | exact eai_nil)
abbrev spAskedT (K : PySem.W.Frag) : Sp := PrI K (preAskedT K)
abbrev spFulls (K : PySem.W.Frag) : Sp := PrN K (preTriN K fun n c => (fulls n c).map smD)
theorem drop_asked {t : V} {σ : L2.St} {H : Hp} {n : Nat} {c : Nat → Nat → Nat} {D : Ends} {tz : TS} {i : Nat} (ht : σ[i]? = some (some t)) (hT : Tri K H t n c) (k : ∀ H1, Ex H H1 → tz D σ H1) : tSeq (tDrop (tCall (spAskedT K) [] E0 (tCons (tVar i) tNil))) tz D σ H := by
  refine y_dropI K .none ?_ (fun v H1 e _ => k H1 e)
  refine ei_call (eax1 (R1 := fun v H1 => Tri K H1 v n c) (ex_var ht fun H1 e => hT.mono e)) ?_
  rintro vs H2 e2 ⟨b, rfl, h⟩
  exact ⟨b, n, c, rfl, h, rfl⟩
theorem ev_turn {t x : V} {σ : L2.St} {H : Hp} {n : Nat} {c : Nat → Nat → Nat} {s : Sm} {i j : Nat} (ht : σ[i]? = some (some t)) (hT : Tri K H t n c) (hx : σ[j]? = some (some x)) (hs : Im K H x (smD s)) (h : IsSm n s) :
    EvI K (tCall (PrI K (preTurnOf K)) [] E0 (tCons (tVar i) (tCons (tVar j) tNil))) σ H (.int (tnS c s)) := by
  refine ei_call (eax2 (R1 := fun v H1 => Tri K H1 v n c) (R2 := fun v H1 => Im K H1 v (smD s)) (ex_var ht fun H1 e => hT.mono e) (fun _ _ _ e h => h.mono e) (ei_var hx hs)) ?_
  rintro vs H1 e ⟨a, b, rfl, h1, h2⟩
  exact ⟨a, b, n, c, s, rfl, h1, h2, h, rfl⟩
abbrev s_fulls : Stmt := top 18
theorem sc_fulls : FnScope ["triangle", "small"] ["triangle"] (defScope s_fulls) := ⟨rfl, rfl, rfl, by decide +kernel, rfl, by decide +kernel, by decide +kernel⟩
theorem ok_fulls (D : Def K mg "fulls" s_fulls) (c_asked_triangle : Callee P w K mg base CX0 1 "asked_triangle" ["triangle"] (spAskedT K)) (c_smalls : Callee P w K mg base CX0 2 "smalls" ["triangle"] (spSmalls K)) (c_turn_of : Callee P w K mg base CX0 3 "turn_of" ["triangle", "small"] (PrI K (preTurnOf K))) :
    Callee P w K mg base CX0 4 "fulls" ["triangle"] (spFulls K) := by
  refine D.ok sc_fulls (fun _ _ _ _ _ _ us hl => match us, hl with | [_], _ => rfl) (fun vs H Q E h => ?_) (fun f cdv A outer s H vs Q E hr h => ?_)
  · obtain ⟨d, ⟨t, n, c, rfl, _⟩, _⟩ := h; rfl
  · obtain ⟨d, ⟨t, n, c, rfl, hT, rfl⟩, q⟩ := h
    refine ⟨_, (pss_cons (ps_expr (pe_callC c_asked_triangle (hr.mono (by decide)) (by rfl) (pa_cons (pv 0) pa_nil)))
 (pss_cons (ps_ret (pe_lc (own := [("small", 1)]) rfl sc_fulls.nd (ki_list (K := K) rfl (pe_callC c_smalls (hr.mono (by decide)) (by rfl) (pa_cons (pv 0) pa_nil))) (blkOk_by (N := ["triangle", "small"]) (sc := defScope s_fulls) (by decide +kernel)) (fun _ _ _ _ _ => (pg_name (i := 1) sc_fulls.nd rfl (.inl rfl) (.inr rfl))) (fun _ _ _ _ _ => (pts_one (pt_cmpR op_ne (pe_callC c_turn_of (hr.mono (by decide)) (by rfl) (pa_cons (pv 0) (pa_cons (pv 1) pa_nil))) pe_int (nomark _)))) (fun _ _ _ _ _ => (pv 1))))
 pss_nil)), ?_⟩
    refine drop_asked rfl hT ?_
    intro H1 e1
    have hT1 := hT.mono e1
    refine y_retN K ((fulls n c).map smD) ?_ (fun p xs H4 hp e4 h1 h2 => q p xs H4 (fresh_back e1 hp) (e1.trans e4) h1 h2)
    refine en_lcK (L := smalls n) (enc := smD) (fun s => decide (tnS c s ≠ 0)) smD ?_ ?_ ?_
    · refine EvN.k (en_call (ds := (smalls n).map smD) (eax1 (R1 := fun v H1 => Tri K H1 v n c) (ex_var rfl fun H1 e => hT1.mono e)) ?_)
      rintro vs H2 e2 ⟨b, rfl, h⟩
      exact ⟨b, n, c, rfl, h, rfl⟩
    · have few := hT.few
      have h1 : ∀ i, i < n - 1 → (rowSm n i).length ≤ 120 := fun i hi => by
        have : (rowSm n i).length ≤ (n - 1 - i) * 2 := flat_len _ 2 _ fun j _ => by split <;> simp
        omega
      have := flat_len (rowSm n) 120 (n - 1) h1
      show ((List.range (n - 1)).flatMap (rowSm n)).length ≤ 40000
      omega
    · intro a ha x H2 e2 hx
      refine ⟨_, fun Q q => q, rfl, ?_, fun _ => ei_var rfl hx⟩
      refine et_to (et_of K (ei_neI (ev_turn rfl (hT1.mono e2) rfl hx (mem_smalls.mp ha)) ei_int)) ?_
      simp
def preTurn (K : PySem.W.Frag) : List V → Hp → PyData → Prop := preTurnOf K
abbrev s_turn : Stmt := top 19
theorem sc_turn : FnScope ["triangle", "small"] ["triangle", "small"] (defScope s_turn) := ⟨rfl, rfl, rfl, by decide +kernel, rfl, by decide +kernel, by decide +kernel⟩
theorem ok_turn (D : Def K mg "turn" s_turn) (c_asked_triangle : Callee P w K mg base CX0 1 "asked_triangle" ["triangle"] (spAskedT K)) (c_asked_small : Callee P w K mg base CX0 2 "asked_small" ["triangle", "small"] (PrI K (preAskedS K))) (c_turn_of : Callee P w K mg base CX0 3 "turn_of" ["triangle", "small"] (PrI K (preTurnOf K))) :
    Callee P w K mg base CX0 4 "turn" ["triangle", "small"] (PrI K (preTurnOf K)) := by
  refine D.ok sc_turn (fun _ _ _ _ _ _ us hl => match us, hl with | [_, _], _ => rfl) (fun vs H Q E h => ?_) (fun f cdv A outer s H vs Q E hr h => ?_)
  · obtain ⟨d, ⟨t, x, n, c, s, rfl, _⟩, _⟩ := h; rfl
  · obtain ⟨d, ⟨t, x, n, c, z, rfl, hT, hx, hs, rfl⟩, q⟩ := h
    refine ⟨_, (pss_cons (ps_expr (pe_callC c_asked_triangle (hr.mono (by decide)) (by rfl) (pa_cons (pv 0) pa_nil)))
 (pss_cons (ps_expr (pe_callC c_asked_small (hr.mono (by decide)) (by rfl) (pa_cons (pv 0) (pa_cons (pv 1) pa_nil))))
 (pss_cons (ps_ret (pe_callC c_turn_of (hr.mono (by decide)) (by rfl) (pa_cons (pv 0) (pa_cons (pv 1) pa_nil))))
 pss_nil))), ?_⟩
    refine drop_asked rfl hT ?_
    intro H1 e1
    refine y_dropI K .none ?_ ?_
    · refine ei_call (eax2 (R1 := fun v H1 => Tri K H1 v n c) (R2 := fun v H1 => Im K H1 v (smD z)) (ex_var rfl fun H1 e => (hT.mono e1).mono e) (fun _ _ _ e h => h.mono e) (ei_var rfl (hx.mono e1))) ?_
      rintro vs H1 e ⟨a, b, rfl, h1, h2⟩
      exact ⟨a, b, n, c, z, rfl, h1, h2, hs, rfl⟩
    · intro v H2 e2 _
      refine y_retI K (.int (tnS c z)) (ev_turn rfl (hT.mono (e1.trans e2)) rfl (hx.mono (e1.trans e2)) hs) (fun v H3 e3 r => q v H3 ((e1.trans e2).trans e3) r)
/-! ### around, doors -/
theorem spotAt_in {n k : Nat} (hn : 1 ≤ n) (h : k < 3 * (n - 1) + 1) : (spotAt n k).1 + (spotAt n k).2 < n := by
  unfold spotAt
  split
  · dsimp only; omega
  · split
    · dsimp only; omega
    · dsimp only; omega
theorem side_at {n k : Nat} (hn : 1 ≤ n) (h : k < 3 * (n - 1) + 1) : ((sideSp n).map spD)[k]? = some (spD (spotAt n k)) := by
  rw [sideSp_eq n hn, List.getElem?_map, List.getElem?_map, List.getElem?_range h]; rfl
theorem ev_side {t : V} {σ : L2.St} {H : Hp} {n : Nat} {c : Nat → Nat → Nat} {i : Nat} (ht : σ[i]? = some (some t)) (hT : Tri K H t n c) : EvN K (tCall (spSide K) [] E0 (tCons (tVar i) tNil)) σ H ((sideSp n).map spD) := by
  refine en_call (ds := (sideSp n).map spD) (eax1 (R1 := fun v H1 => Tri K H1 v n c) (ex_var ht fun H1 e => hT.mono e)) ?_
  rintro vs H2 e2 ⟨b, rfl, h⟩
  exact ⟨b, n, c, rfl, h, rfl⟩
/-- step_of(triangle, spots[at], spots[at + 1]) -/
theorem ev_step {t sp : V} {σ : L2.St} {H : Hp} {n : Nat} {c : Nat → Nat → Nat} {i j l k : Nat} (ht : σ[i]? = some (some t)) (hT : Tri K H t n c) (hp : σ[j]? = some (some sp)) (hS : Ls K H sp ((sideSp n).map spD)) (hk : σ[l]? = some (some (.int (k : Int)))) (h : k < 3 * (n - 1)) :
    EvI K (tCall (PrI K (preStepOf K)) [] E0 (tCons (tVar i) (tCons (tOp (rIxL K) (tVar j) (tVar l)) (tCons (tOp (rIxL K) (tVar j) (tOp (rI0 fun i j => .int (i + j)) (tVar l) (tC (.int 1)))) tNil)))) σ H (.int (stepAt n c k)) := by
  have two := hT.two
  refine ei_call (eax3 (R1 := fun v H1 => Tri K H1 v n c) (R2 := fun v H1 => Im K H1 v (spD (spotAt n k))) (R3 := fun v H1 => Im K H1 v (spD (spotAt n (k + 1)))) (ex_var ht fun H1 e => hT.mono e) (fun _ _ _ e h => h.mono e)
    (ei_ixK (ek_var hp hS) (ei_var hk (.int _)) (atI_nat (side_at (by omega) (by omega)))) mI (ei_ixK (i := ((k + 1 : Nat) : Int)) (ek_var hp hS) (ei_I0i (ei_var hk (.int _)) ei_int) (atI_nat (side_at (by omega) (by omega))))) ?_
  rintro vs H1 e ⟨a, b, d, rfl, h1, h2, h3⟩
  exact ⟨a, b, d, n, c, _, _, rfl, h1, h2, h3, spotAt_in (by omega) (by omega), spotAt_in (by omega) (by omega), rfl⟩
abbrev spAround (K : PySem.W.Frag) : Sp := PrI K (preTri K fun n c => .int (around n c))
abbrev spDoors (K : PySem.W.Frag) : Sp := PrN K (preTriN K fun n c => (doors n c).map fun k => .int (k : Nat))
abbrev s_doors : Stmt := top 20
theorem sc_doors : FnScope ["triangle", "spots", "at"] ["triangle"] (defScope s_doors) := ⟨rfl, rfl, rfl, by decide +kernel, rfl, by decide +kernel, by decide +kernel⟩
theorem ok_doors (D : Def K mg "doors" s_doors) (c_asked_triangle : Callee P w K mg base CX0 1 "asked_triangle" ["triangle"] (spAskedT K)) (c_side : Callee P w K mg base CX0 1 "side" ["triangle"] (spSide K)) (c_step_of : Callee P w K mg base CX0 1 "step_of" ["triangle", "one", "other"] (PrI K (preStepOf K)))
    (m_len : mg "len" = none) (m_range : mg "range" = none) : Callee P w K mg base CX0 2 "doors" ["triangle"] (spDoors K) := by
  refine D.ok sc_doors (fun _ _ _ _ _ _ us hl => match us, hl with | [_], _ => rfl) (fun vs H Q E h => ?_) (fun f cdv A outer s H vs Q E hr h => ?_)
  · obtain ⟨d, ⟨t, n, c, rfl, _⟩, _⟩ := h; rfl
  · obtain ⟨d, ⟨t, n, c, rfl, hT, rfl⟩, q⟩ := h
    refine ⟨_, (pss_cons (ps_expr (pe_callC c_asked_triangle (hr.mono (by decide)) (by rfl) (pa_cons (pv 0) pa_nil)))
 (pss_cons (ps_set (i := 1) sc_doors.nd rfl (.inr rfl) (pe_callC c_side (hr.mono (by decide)) (by rfl) (pa_cons (pv 0) pa_nil)))
 (pss_cons (ps_ret (pe_lc (own := [("at", 2)]) rfl sc_doors.nd (pi_range1 (by rfl) m_range (pa_cons (pe_op op_sub (pe_callB (kr_len (K := K) rfl) (by rfl) m_len PySem.boot_len (pa_cons (pv 1) pa_nil)) pe_int) pa_nil)) (blkOk_by (N := ["triangle", "spots", "at"]) (sc := defScope s_doors) (by decide +kernel)) (fun _ _ _ _ _ => (pg_name (i := 2) sc_doors.nd rfl (.inl rfl) (.inr rfl))) (fun _ _ _ _ _ => (pts_one (pt_cmpR op_ne (pe_callC c_step_of (hr.mono (by decide)) (by rfl) (pa_cons (pv 0) (pa_cons (pe_ix (kx_list (K := K) rfl) (pv 1) (pv 2) (fun _ _ => rfl)) (pa_cons (pe_ix (kx_list (K := K) rfl) (pv 1) (pe_op op_add (pv 2) pe_int) (fun _ _ => rfl)) pa_nil)))) pe_int (nomark _)))) (fun _ _ _ _ _ => (pv 2))))
 pss_nil))), ?_⟩
    have two := hT.two
    have few := hT.few
    refine drop_asked rfl hT ?_
    intro H1 e1
    have hT1 := hT.mono e1
    refine y_asg (fun v H2 => Ls K H2 v ((sideSp n).map spD)) (EvN.k (ev_side rfl hT1)) ?_
    intro sp H2 e2 hS
    have hT2 := hT1.mono e2
    refine y_retN K ((doors n c).map fun k => .int (k : Nat)) ?_ (fun p xs H4 hp e4 h1 h2 => q p xs H4 (fresh_back (e1.trans e2) hp) ((e1.trans e2).trans e4) h1 h2)
    refine EvN.to (en_lcR (n := ((3 * (n - 1) + 1 : Nat) : Int) - 1) (fun k => decide (stepAt n c k ≠ 0)) (fun k => .int (k : Nat)) ?_ (by omega) ?_ (by omega)) ?_
    · refine eai_cons (ei_I0i (EvI.to (ei_lenK (ek_var rfl hS)) ?_) ei_int) eai_nil
      rw [List.length_map, sideSp_len n (by omega)]
    · intro k hk H3 e3
      refine ⟨_, fun Q q => q, rfl, ?_, fun _ => by walk_at "e"⟩
      refine et_to (et_of K (ei_neI (ev_step rfl (hT2.mono e3) rfl (hS.mono e3) rfl (by omega)) ei_int)) ?_
      simp
    · rw [show (((3 * (n - 1) + 1 : Nat) : Int) - 1).toNat = 3 * (n - 1) by omega]; rfl
/-! ### put -/
def updC (c : Nat → Nat → Nat) (r p x : Nat) : Nat → Nat → Nat := fun i j => if i = r ∧ j = p then x else c i j
theorem updC_ltr {c : Nat → Nat → Nat} (h : ∀ r p, DW.ltr (c r p)) {r p x : Nat} (hx : DW.ltr x) : ∀ i j, DW.ltr (updC c r p x i j) := fun i j => by
  unfold updC; split
  · exact hx
  · exact h i j
theorem triD_upd {n : Nat} {c : Nat → Nat → Nat} {r p x : Nat} (h : r + p < n) : (triD n c).set r (st ((rowS n c r).cps.toList.set p x)) = triD n (updC c r p x) := by
  refine List.ext_getElem? fun i => ?_
  by_cases hi : i < n
  · rw [triD_get hi]
    by_cases e : r = i
    · subst e
      rw [List.getElem?_set_self (by rw [triD_len]; exact hi)]
      refine congrArg some (str_ext ?_)
      rw [st_list, rowS_list, rowS_list]
      refine List.ext_getElem? fun j => ?_
      by_cases hj : j < n - r
      · by_cases e2 : p = j
        · subst e2
          rw [List.getElem?_set_self (by simp; omega), List.getElem?_map, List.getElem?_range hj]
          simp [updC]
        · rw [List.getElem?_set_ne e2, List.getElem?_map, List.getElem?_map, List.getElem?_range hj]
          simp [updC]; omega
      · rw [List.getElem?_eq_none (by simp; omega), List.getElem?_eq_none (by simp; omega)]
    · rw [List.getElem?_set_ne e, triD_get hi]
      refine congrArg some (str_ext ?_)
      rw [rowS_list, rowS_list]
      refine List.map_congr_left fun j _ => ?_
      unfold updC
      rw [if_neg (by omega)]
  · rw [List.getElem?_eq_none (by rw [List.length_set, triD_len]; omega), List.getElem?_eq_none (by rw [triD_len]; omega)]
theorem sIx_at {n p : Nat} {d : Nat} (h : p ≤ n) : HT.sIx n d (some (p : Int)) = p := by rw [HT.sIx_nat]; omega
theorem cutS_list (z : Str) (lo hi : Option Int) : (cutS z lo hi).cps.toList = (z.cps.toList.drop (HT.sIx z.length 0 lo)).take (HT.sIx z.length z.length hi - HT.sIx z.length 0 lo) := by simp [cutS]
theorem cut_put {z : Str} {p x : Nat} (h : p < z.length) : cutS z none (some (p : Int)) ++ st [x] ++ cutS z (some ((p : Int) + 1)) none = st (z.cps.toList.set p x) := by
  have e1 : (p : Int) + 1 = ((p + 1 : Nat) : Int) := by omega
  refine str_ext ?_
  rw [append_list, append_list, st_list, st_list, cutS_list, cutS_list, e1, sIx_at (by omega), sIx_at (by omega), HT.sIx_none, HT.sIx_none]
  have hl : z.cps.toList.length = z.length := (length_cps z).symm
  rw [List.set_eq_take_append_cons_drop, if_pos (by omega)]
  rw [Nat.sub_zero, List.drop_zero]
  rw [List.append_assoc]
  congr 1
  rw [List.singleton_append, List.take_of_length_le (by rw [List.length_drop]; omega)]
theorem cut_len {z : Str} (lo hi : Option Int) : (cutS z lo hi).length ≤ z.length := by
  rw [length_cps, length_cps z, cutS_list, List.length_take, List.length_drop]
  omega
theorem app_len (a b : Str) : (a ++ b).length = a.length + b.length := by
  rw [length_cps, length_cps a, length_cps b, append_list, List.length_append]
def prePut (K : PySem.W.Frag) : List V → Hp → List PyData → Prop := fun vs H ds => ∃ t n c, ∃ r p x : Nat, vs = [t, .int r, .int p, .str (st [x])] ∧ Tri K H t n c ∧ r + p < n ∧ DW.ltr x ∧ ds = (triD n (updC c r p x)).map PyData.str
end
end DWL
/-! an if whose test reads a written number: behind it a token is out, so replace may be walked in its branch -/
namespace DWL
open PySem PySem.Spec PyProof.Rows L2 Evl
def PTk (X : Cx) (e : Expr) (t : TT) : Prop := ∀ (pins : List (Addr × Obj)) (s : Shared) (σ : L2.St) (H : Hp) (Q : Bool → Hp → Prop), Inv X pins σ H s → t σ H Q → wpAny (model X.prog X.w) X.A (isTrue e X.env (eval e X.env)) (fun b z => 1 ≤ z.toks ∧ TP X pins σ Q b z) X.xe s
def PWk (X : Cx) (e : Expr) (t : TT) : Prop := ∀ (wh : Sem Value) (pins : List (Addr × Obj)) (s : Shared) (σ : L2.St) (H : Hp) (Q : Bool → Hp → Prop), Inv X pins σ H s → t σ H Q → wpAny (model X.prog X.w) X.A (isTrue e X.env wh) (fun b z => 1 ≤ z.toks ∧ TP X pins σ Q b z) X.xe s
section
variable {X : Cx} {a b e : Expr} {rest : List Expr} {ta te : TE} {t u : TT} {pos : Pos}
theorem PWk.k (h : PWk X e t) : PTk X e t := h _
theorem ptk_cmp {op : CmpOp} {r : R2} {k : Int} {j : Nat} {cp : Pos} (ho : OpR X (compareOp op) r) (ha : PE X a ta) (hm : behindInMarks op (.Constant (.int k) j cp) = false) : PTk X (.Compare a [op] [.Constant (.int k) j cp] pos) (tTest (tOp r ta (tC (.int k)))) := by
  intro pins s σ H Q I h
  refine wpAny_isTrue_Compare1 (thn (ha.run pins s σ H _ I h) fun v s1 g => ?_) hm
  obtain ⟨x, H1, I1, r1, q1⟩ := g
  refine wpAny_Constant_int ?_
  have one : 1 ≤ ({ s1 with toks := s1.toks + 1 } : Shared).toks := Nat.le_add_left 1 s1.toks
  refine wpAny_mono (wpAny_toks_of one (ho pins _ σ H1 x (.int k) v _ _ (I1.tok _) r1 ⟨_, rfl⟩ q1)) (fun c s3 g => ?_) fun _ _ z => z.2
  obtain ⟨n, z, H3, I3, r3, kb, e3, q3⟩ := g
  subst e3
  obtain rfl : c = Value.bool kb := r3
  exact wpAny_truthy_bool ⟨n, H3, I3, q3⟩
theorem pwk_and (ha : PTk X a t) (hb : PW X (.BoolOp .And (b :: rest) pos) u) : PWk X (.BoolOp .And (a :: b :: rest) pos) (tAnd t u) := by
  intro wh pins s σ H Q I h
  refine isTrue_and (thn (ha pins s σ H _ I h) fun c s1 g => ?_)
  obtain ⟨n, H1, I1, q1⟩ := g
  cases c with
  | true => exact wpAny_mono (wpAny_toks_of n (hb.run wh pins s1 σ H1 Q I1 q1)) (fun _ _ z => z) fun _ _ z => z.2
  | false => exact ⟨n, H1, I1, q1⟩
theorem ps_ifk {c : Expr} {p q : List Stmt} {tc : TT} {tp tq : TS} (hc : PTk X c tc) (hp : PSsT X p tp) (hq : PSs X q tq) : PS X (.If c p q pos) (tIfS tc tp tq) := by
  refine ⟨fun pins s σ H D I h => ?_⟩
  refine wpAny_If (thn (hc pins s σ H _ I h) fun d s1 g => ?_)
  obtain ⟨n, H1, I1, q1⟩ := g
  cases d with
  | true => exact hp pins s1 σ H1 D n I1 q1
  | false => exact hq.run pins s1 σ H1 D I1 q1
theorem pst_set {i : Nat} {x : Str} {p' : Pos} (hN : X.N.Nodup) (hi : X.N[i]? = some x) (hx : Loc X.env.scope x) (he : PET X e te) (hs : swapsWith e (some (.Name x p')) pos.line X.env = pure false := by rfl) (hf : X.fn x = true ∨ X.env.scope.names.lookup x = some .local := by first | exact .inl rfl | exact .inr rfl | assumption) :
    PST X (.Assign [.Name x p'] e pos) (tAsg te (gName i)) := by
  intro pins s σ H D n I h
  refine wpAny_Assign_Name (thn (he pins s σ H _ n I h) fun v s1 g => ?_) hs
  obtain ⟨y, H1, I1, r1, q1⟩ := g
  exact store_ok I1 hN hi hx r1 (fun s2 I2 => ⟨_, H1, I2, q1⟩) hf
theorem pss_of_T {st : List Stmt} {t : TS} (h : PSs X st t) : PSsT X st t := PSsT.of h
end
section
variable {K : PySem.W.Frag} {σ : L2.St} {H : Hp} {ta : TE}
theorem ei_replC {x y z : Str} (ha : EvI K ta σ H (.str x)) (hb : x.length + (x.length + 1) * z.length ≤ 16777216) : EvI K (CwR.tReplC ta y z) σ H (.str (Txt.replace x y z)) := fun H1 e Q q =>
  ha H1 e _ fun v H2 e2 r => by
    cases r
    exact ⟨x, rfl, hb, q _ H2 e2 (.str _)⟩
/-- a word between an if and what follows -/
theorem y_cut {D : Ends} {t u : TS} (M : L2.St → Hp → Prop) (h : t { D with nx := M } σ H) (k : ∀ σ' H', M σ' H' → u D σ' H') : tCut t u D σ H := ⟨M, h, k⟩
end
end DWL
/-! which data may be compared -/
namespace DWL
open PySem PySem.Spec PyProof.Rows L2 Evl DW
def Shp (k : Nat) (d : PyData) : Prop := d.canLay0 = true ∧ d.depth ≤ k
theorem shp_all {k : Nat} : ∀ {ds : List PyData}, (∀ d ∈ ds, Shp k d) → PyData.canLayAll0 ds = true ∧ PyData.depthAll ds ≤ k
  | [], _ => ⟨rfl, Nat.zero_le _⟩
  | d :: ds, h => by
    obtain ⟨h1, h2⟩ := h d List.mem_cons_self
    obtain ⟨h3, h4⟩ := shp_all fun x hx => h x (List.mem_cons_of_mem _ hx)
    refine ⟨?_, ?_⟩
    · show (d.canLay0 && PyData.canLayAll0 ds) = true
      rw [h1, h3]; rfl
    · show max d.depth (PyData.depthAll ds) ≤ k
      exact Nat.max_le.mpr ⟨h2, h4⟩
theorem Shp.list {k : Nat} {ds : List PyData} (h : ∀ d ∈ ds, Shp k d) : Shp (k + 1) (.list ds) := by
  obtain ⟨h1, h2⟩ := shp_all h
  exact ⟨h1, by show PyData.depthAll ds + 1 ≤ k + 1; omega⟩
theorem Shp.tuple {k : Nat} {ds : List PyData} (h : ∀ d ∈ ds, Shp k d) : Shp (k + 1) (.tuple ds) := by
  obtain ⟨h1, h2⟩ := shp_all h
  exact ⟨h1, by show PyData.depthAll ds + 1 ≤ k + 1; omega⟩
theorem Shp.up {k j : Nat} {d : PyData} (h : Shp k d) (l : k ≤ j) : Shp j d := ⟨h.1, Nat.le_trans h.2 l⟩
theorem Shp.ok {k : Nat} {d : PyData} (h : Shp k d) (l : k ≤ 64 := by decide) : SeqAt.shaped d = true := by
  unfold SeqAt.shaped
  rw [h.1, decide_eq_true (Nat.le_trans h.2 l)]; rfl
theorem shp_int {k : Nat} (i : Int) : Shp k (.int i) := ⟨rfl, Nat.zero_le _⟩
theorem shp_bool {k : Nat} (i : Bool) : Shp k (.bool i) := ⟨rfl, Nat.zero_le _⟩
theorem shp_none {k : Nat} : Shp k .none := ⟨rfl, Nat.zero_le _⟩
theorem shp_str {k : Nat} {z : Str} (h : ∀ c ∈ z.cps.toList, c < 1114112) : Shp k (.str z) := by
  refine ⟨?_, Nat.zero_le _⟩
  show (z.cps.all (· < 0x110000)) = true
  rw [Array.all_eq_true_iff_forall_mem]
  intro c hc
  exact decide_eq_true (h c (by simpa using hc))
theorem shp_ints {k : Nat} (ns : List Int) : ∀ d ∈ ns.map PyData.int, Shp k d := fun d h => by
  obtain ⟨i, _, rfl⟩ := List.mem_map.mp h
  exact shp_int i
theorem shp_nats {k : Nat} (ns : List Nat) : ∀ d ∈ ns.map (fun i : Nat => PyData.int (i : Int)), Shp k d := fun d h => by
  obtain ⟨i, _, rfl⟩ := List.mem_map.mp h
  exact shp_int _
theorem shp_bools {k : Nat} (ns : List Bool) : ∀ d ∈ ns.map PyData.bool, Shp k d := fun d h => by
  obtain ⟨i, _, rfl⟩ := List.mem_map.mp h
  exact shp_bool i
theorem shp_sm (s : Sm) : Shp 1 (smD s) := Shp.tuple (k := 0) fun d h => by
  simp at h; rcases h with rfl | rfl | rfl <;> exact shp_int _
theorem shp_sp (s : Sp2) : Shp 1 (spD s) := Shp.tuple (k := 0) fun d h => by
  simp at h; rcases h with rfl | rfl <;> exact shp_int _
theorem shp_sms (l : List Sm) : Shp 2 (.list (l.map smD)) := Shp.list fun d h => by
  obtain ⟨i, _, rfl⟩ := List.mem_map.mp h
  exact shp_sm i
theorem shp_sps (l : List Sp2) : Shp 2 (.list (l.map spD)) := Shp.list fun d h => by
  obtain ⟨i, _, rfl⟩ := List.mem_map.mp h
  exact shp_sp i
theorem shp_tri {n : Nat} {c : Nat → Nat → Nat} (hc : ∀ r p, DW.ltr (c r p)) : Shp 1 (.list ((triD n c).map PyData.str)) := Shp.list (k := 0) fun d h => by
  obtain ⟨z, hz, rfl⟩ := List.mem_map.mp h
  refine shp_str fun x hx => ?_
  obtain ⟨r, _, rfl⟩ := List.mem_map.mp hz
  rw [rowS_list] at hx
  obtain ⟨p, _, rfl⟩ := List.mem_map.mp hx
  have := hc r p
  unfold DW.ltr at this; omega
theorem eqv_nil (ns : List Int) : PyData.eqv (.list (ns.map PyData.int)) (.list []) = ns.isEmpty := by
  cases ns with
  | nil => rfl
  | cons n ns => rfl
/-- == of tuples of numbers -/
theorem eqv_ints : ∀ ns ms : List Int, PyData.eqvAll (ns.map PyData.int) (ms.map PyData.int) = decide (ns = ms)
  | [], [] => rfl
  | [], _ :: _ => rfl
  | _ :: _, [] => rfl
  | n :: ns, m :: ms => by
    show (PyData.eqv (.int n) (.int m) && PyData.eqvAll (ns.map PyData.int) (ms.map PyData.int)) = _
    rw [eqv_ints ns ms]
    show ((n == m) && decide (ns = ms)) = _
    by_cases h1 : n = m
    · subst h1; simp
    · have : (n == m) = false := by simpa using h1
      rw [this]; simp [h1]
theorem eqv_tup (ns ms : List Int) : PyData.eqv (.tuple (ns.map PyData.int)) (.tuple (ms.map PyData.int)) = decide (ns = ms) := eqv_ints ns ms
/-! the law itself: its function is named ahead of the ground -/
theorem okF {P : Program} {w : World} {K : PySem.W.Frag} {mg : Str → Option Value} {base : Heap} {x : Str} {st : Stmt} {N ps : List Str} {k : Nat} {sp : Sp} {f : Addr} {fd : FuncData}
    (hF : FunD K x x (defArgs st) (defBody st) (defScope st) [] [] f fd) (S : FnScope N ps (defScope st)) (len : ∀ vs H Q E, sp vs H Q E → vs.length = ps.length)
    (hbody : ∀ (f : Addr) (cdv : Value) (A : Around) (outer : List Env) (s : Shared) (H : Hp) (vs : List V) (Q : VK) (E : XK), Room k (A.deeper (envOfC x (defScope st) s.heap.objs.size f cdv)) → sp vs H Q E →
      ∃ t, PSs (cxOf CX0 P w K mg base N x (defScope st) f cdv A outer s H E).nox (defBody st) t ∧ t { nx := fun _ H' => Q .non H', rt := Q } (start N vs) H) : FnOk P w K mg base CX0 (k + 1) f fd ps sp :=
  hF.ok S len fun cdv A outer s H vs Q E hr hsp => by
    obtain ⟨t, h, q⟩ := hbody f cdv A outer s H vs Q E hr hsp
    exact ⟨t, h.nox, q⟩
end DWL
namespace DWL
open PySem PySem.Spec PyProof.Rows L2 Evl DW
section
variable {P : Program} {w : World} {K : PySem.W.Frag} {mg : Str → Option Value} {base : Heap}
local macro_rules | `(tactic| walk_at "v") => `(tactic| first | exact ei_int | exact ei_str | exact ei_bl | exact ei_non | exact ei_neg ei_int | exact ei_var rfl (Im.int _) | exact ei_var rfl (Im.str _) | exact ei_var rfl (Im.bl _) | exact ei_var rfl (by assumption) | exact et_len rfl (by assumption))
local macro_rules | `(tactic| walk_at "e") => `(tactic| first | walk_at "v" | (apply ei_I0i <;> walk_at "e") | (apply ei_I0b <;> walk_at "e") | (apply ei_chainI <;> walk_at "e") | (apply ei_eqI <;> walk_at "e") | (apply ei_eqS <;> walk_at "e") | (refine' ei_tup ?_ (Nat.le_of_ble_eq_true rfl) <;> walk_at "e") | (apply eai_cons <;> walk_at "e") | exact eai_nil)
/-! ### the law's triangle: some triangle of 2 to 22 rows -/
def RowsOk (R : Nat) (zs : List Str) : Prop := ∀ j z, zs[j]? = some z → z.length = R - j ∧ ∀ c ∈ z.cps.toList, DW.ltr c
def triOf (zs : List Str) : Nat → Nat → Nat := fun r p => ((zs.getD r (st [])).cps.toList.getD p 97)
theorem triOf_ltr {R : Nat} {zs : List Str} (h : RowsOk R zs) (r p : Nat) : DW.ltr (triOf zs r p) := by
  unfold triOf
  cases hr : zs[r]? with
  | none => rw [List.getD_eq_getElem?_getD, List.getD_eq_getElem?_getD, hr]; exact .inl (by simp [st])
  | some z =>
    have e : zs.getD r (st []) = z := by rw [List.getD_eq_getElem?_getD, hr]; rfl
    rw [e]
    cases hp : z.cps.toList[p]? with
    | none => rw [List.getD_eq_getElem?_getD, hp]; exact .inl rfl
    | some c => rw [List.getD_eq_getElem?_getD, hp]; exact (h r z hr).2 c (List.mem_of_getElem? hp)
theorem rows_tri {R : Nat} {zs : List Str} (h : RowsOk R zs) (hl : zs.length = R) : zs = triD R (triOf zs) := by
  refine List.ext_getElem? fun r => ?_
  by_cases hr : r < R
  · rw [triD_get hr]
    have e : zs[r]? = some zs[r] := List.getElem?_eq_getElem (by omega)
    obtain ⟨h1, _⟩ := h r _ e
    rw [e]
    refine congrArg some (str_ext ?_)
    rw [rowS_list]
    refine List.ext_getElem? fun p => ?_
    rw [length_cps] at h1
    by_cases hp : p < R - r
    · rw [List.getElem?_map, List.getElem?_range hp]
      show _ = some (triOf zs r p)
      unfold triOf
      rw [List.getD_eq_getElem?_getD (l := zs), e]
      show _ = some (zs[r].cps.toList.getD p 97)
      rw [List.getD_eq_getElem?_getD, List.getElem?_eq_getElem (by omega)]; rfl
    · rw [List.getElem?_eq_none (by omega), List.getElem?_eq_none (by simp; omega)]
  · rw [List.getElem?_eq_none (by omega), List.getElem?_eq_none (by rw [triD_len]; omega)]
theorem RowsOk.snoc {R : Nat} {zs : List Str} (h : RowsOk R zs) {z : Str} (h1 : z.length = R - zs.length) (h2 : ∀ c ∈ z.cps.toList, DW.ltr c) : RowsOk R (zs ++ [z]) := fun j y e => by
  by_cases hj : j < zs.length
  · rw [List.getElem?_append_left hj] at e; exact h j y e
  · rw [List.getElem?_append_right (by omega)] at e
    by_cases e0 : j - zs.length = 0
    · rw [e0] at e
      simp at e; subst e
      have : j = zs.length := by omega
      subst this
      exact ⟨h1, h2⟩
    · rw [List.getElem?_eq_none (by simp; omega)] at e; cases e
theorem RowsOk.set {R : Nat} {zs : List Str} (h : RowsOk R zs) {j : Nat} {z : Str} (h1 : z.length = R - j) (h2 : ∀ c ∈ z.cps.toList, DW.ltr c) : RowsOk R (zs.set j z) := fun i y e => by
  by_cases hj : j = i
  · subst hj
    by_cases hl : j < zs.length
    · rw [List.getElem?_set_self hl] at e; cases e; exact ⟨h1, h2⟩
    · rw [List.getElem?_eq_none (by simp; omega)] at e; cases e
  · rw [List.getElem?_set_ne hj] at e; exact h i y e
def Zs : List Str := ["abc", "aabbbc", "ab", "ac", "bc", "a", "b", "c"]
theorem pick_all : (Zs.all fun z => (List.range 18).all fun m => match atI z.cps.toList (Int.fdiv (m : Int) (Int.fdiv 18 (z.length : Int))) with
  | some c => L3.contains c
  | none => false) = true := by decide +kernel
theorem L3_ltr {c : Nat} (h : L3.contains c = true) : DW.ltr c := by
  have : c = 97 ∨ c = 98 ∨ c = 99 := by simpa [L3] using h
  exact this
theorem pick {z : Str} (hz : z ∈ Zs) {m : Int} (h0 : 0 ≤ m) (h1 : m < 18) : ∃ c, atI z.cps.toList (Int.fdiv m (Int.fdiv 18 (z.length : Int))) = some c ∧ DW.ltr c := by
  have h := List.all_eq_true.mp (List.all_eq_true.mp pick_all z hz) m.toNat (List.mem_range.mpr (by omega))
  rw [show ((m.toNat : Nat) : Int) = m by omega] at h
  cases e : atI z.cps.toList (Int.fdiv m (Int.fdiv 18 (z.length : Int))) with
  | none => rw [e] at h; cases h
  | some c => rw [e] at h; exact ⟨c, rfl, L3_ltr h⟩
theorem lens_all : (Zs.all fun z => decide (1 ≤ z.length) && decide (z.length ≤ 6) && decide (Int.fdiv 18 (z.length : Int) ≠ 0) && decide ((Int.fdiv 18 (z.length : Int)).natAbs < 1073741824)) = true := by decide +kernel
theorem lens {z : Str} (hz : z ∈ Zs) : 1 ≤ z.length ∧ z.length ≤ 6 ∧ Int.fdiv 18 (z.length : Int) ≠ 0 ∧ (Int.fdiv 18 (z.length : Int)).natAbs < 1073741824 := by
  have h := List.all_eq_true.mp lens_all z hz
  simp only [Bool.and_eq_true, decide_eq_true_eq] at h
  exact ⟨h.1.1.1, h.1.1.2, h.1.2, h.2⟩
def P1 (kd i : Nat) (z : Str) : Prop := (kd ≤ 1 ∧ (z = "abc" ∨ z = "aabbbc")) ∨ (2 ≤ kd ∧ (z = "abc" ∨ (z = "ab" ∧ i = 0)))
def P2 (kd i j : Nat) (z : Str) : Prop := (kd ≤ 1 ∧ (z = "abc" ∨ z = "aabbbc")) ∨ (2 ≤ kd ∧ (z = "abc" ∨ (z = "ab" ∧ i = 0) ∨ (z = "ac" ∧ j = 0) ∨ (z = "a" ∧ i = 0 ∧ j = 0)))
theorem r_abc_c : Txt.replace "abc" "c" "" = "ab" := by decide +kernel
theorem r_abc_b : Txt.replace "abc" "b" "" = "ac" := by decide +kernel
theorem r_ab_b : Txt.replace "ab" "b" "" = "a" := by decide +kernel
theorem r_abc_a : Txt.replace "abc" "a" "" = "bc" := by decide +kernel
theorem r_ab_a : Txt.replace "ab" "a" "" = "b" := by decide +kernel
theorem r_ac_a : Txt.replace "ac" "a" "" = "c" := by decide +kernel
theorem P1.len {kd i : Nat} {z : Str} (h : P1 kd i z) : z.length ≤ 6 := by
  rcases h with ⟨_, rfl | rfl⟩ | ⟨_, rfl | ⟨rfl, _⟩⟩ <;> decide +kernel
theorem P2.len {kd i j : Nat} {z : Str} (h : P2 kd i j z) : z.length ≤ 6 := by
  rcases h with ⟨_, rfl | rfl⟩ | ⟨_, rfl | ⟨rfl, _⟩ | ⟨rfl, _⟩ | ⟨rfl, _⟩⟩ <;> decide +kernel
theorem P2.zs {kd i j : Nat} {z : Str} (h : P2 kd i j z) : z ∈ Zs := by
  rcases h with ⟨_, rfl | rfl⟩ | ⟨_, rfl | ⟨rfl, _⟩ | ⟨rfl, _⟩ | ⟨rfl, _⟩⟩ <;> decide +kernel
theorem P1.to2 {kd i j : Nat} {z : Str} (h : P1 kd i z) : P2 kd i j z := by
  rcases h with ⟨a, b⟩ | ⟨a, b | b⟩
  · exact .inl ⟨a, b⟩
  · exact .inr ⟨a, .inl b⟩
  · exact .inr ⟨a, .inr (.inl b)⟩
theorem P1.rep {kd i j : Nat} {z : Str} (h : P1 kd i z) (hk : 2 ≤ kd) (hj : j = 0) : P2 kd i j (Txt.replace z "b" "") := by
  rcases h with ⟨a, b⟩ | ⟨a, rfl | ⟨rfl, c⟩⟩
  · omega
  · rw [r_abc_b]; exact .inr ⟨a, .inr (.inr (.inl ⟨rfl, hj⟩))⟩
  · rw [r_ab_b]; exact .inr ⟨a, .inr (.inr (.inr ⟨rfl, c, hj⟩))⟩
theorem P2.rep {kd i j R : Nat} {z : Str} (h : P2 kd i j z) (hk : 2 ≤ kd) (hR : 2 ≤ R) (hs : i + j = R - 1) : Txt.replace z "a" "" ∈ Zs := by
  rcases h with ⟨a, b⟩ | ⟨a, rfl | ⟨rfl, c⟩ | ⟨rfl, c⟩ | ⟨rfl, c, d⟩⟩
  · omega
  · rw [r_abc_a]; decide +kernel
  · rw [r_ab_a]; decide +kernel
  · rw [r_ac_a]; decide +kernel
  · omega
def spTriangle (K : PySem.W.Frag) : Sp := fun vs H Q _ => ∃ (v : V) (ns : List Int), vs = [v] ∧ Ls K H v (ns.map PyData.int) ∧ ns.length ≤ 63 ∧
  ∀ p xs H' n c, 2 ≤ n → n ≤ 22 → (∀ r q, DW.ltr (c r q)) → H p = none → Ex H H' → H' p = some (.lst xs) → ImAll K H' xs ((triD n c).map PyData.str) → Q (.ref p) H'
abbrev s__law_triangle : Stmt := top 34
theorem sc__law_triangle : FnScope ["_law_script", "_law_mixed", "_law_rows", "_law_kind", "_law_found", "_law_left", "_law_at", "_law_row", "_law_line", "_law_place", "_law_cell", "_law_letters"] ["_law_script"] (defScope s__law_triangle) := ⟨rfl, rfl, rfl, by decide +kernel, rfl, by decide +kernel, by decide +kernel⟩
theorem ok_law_triangle (D : Def K mg "_law_triangle" s__law_triangle) (m_len : mg "len" = none) (m_range : mg "range" = none) (m_sum : mg "sum" = none) (m_list : mg "list" = none) : Callee P w K mg base CX0 1 "_law_triangle" ["_law_script"] (spTriangle K) := by
  refine D.ok sc__law_triangle (fun _ _ _ _ _ _ us hl => match us, hl with | [_], _ => rfl) (fun vs H Q E h => ?_) (fun f cdv A outer s H vs Q E hr h => ?_)
  · obtain ⟨t, ns, rfl, _⟩ := h; rfl
  · obtain ⟨t, ns, rfl, hS, h63, q⟩ := h
    refine ⟨_, (pss_cons (ps_set (i := 1) sc__law_triangle.nd rfl (.inl rfl) (pe_callB (kr_sum (K := K) rfl rfl) (by rfl) m_sum (by decide +kernel) (pa_cons (pv 0) pa_nil)))
 (pss_cons (ps_set (i := 2) sc__law_triangle.nd rfl (.inl rfl) pe_int)
 (pss_cons (ps_while PassesOwn.never (pt_cmpR op_le (pe_op op_fdiv (pe_op op_mul (pe_op op_add (pv 2) pe_int) (pe_op op_add (pv 2) pe_int)) pe_int) (pe_callB (kr_len (K := K) rfl) (by rfl) m_len PySem.boot_len (pa_cons (pv 0) pa_nil)) (nomark _))
  (pss_cons (ps_set (i := 2) sc__law_triangle.nd rfl (.inl rfl) (pe_op op_add (pv 2) pe_int))
 pss_nil))
 (pss_cut (ps_if (PW.pt (pw_and (pt_cmpR op_eq (pe_op op_mod (pv 1) pe_int) pe_int (nomark _)) (pw_and1 (pt_cmpR (ko_neD (K := K) rfl (by exact hr.units)) (pv 0) (pe_lst pa_nil) (nomark _)))))
  (pss_cons (ps_set (i := 2) sc__law_triangle.nd rfl (.inl rfl) (pe_op op_add pe_int (pe_op op_mod (pe_op op_fdiv (pv 1) pe_int) pe_int)))
 pss_nil)
  pss_nil)
 (pss_cons (ps_set (i := 3) sc__law_triangle.nd rfl (.inl rfl) (pe_op op_mod (pe_op op_fdiv (pv 1) pe_int) pe_int))
 (pss_cons (ps_set (i := 4) sc__law_triangle.nd rfl (.inl rfl) (pe_lst pa_nil))
 (pss_cons (ps_set (i := 5) sc__law_triangle.nd rfl (.inl rfl) (pe_callTy (kr_list (K := K) rfl) (by rfl) m_list (by decide +kernel) (pa_cons (pv 0) pa_nil)))
 (pss_cons (ps_set (i := 6) sc__law_triangle.nd rfl (.inl rfl) pe_int)
 (pss_cons (ps_for PassesOwn.never rfl (pi_range1 (by rfl) m_range (pa_cons (pv 2) pa_nil)) (pg_name (i := 7) sc__law_triangle.nd rfl (.inl rfl))
  (pss_cons (ps_set (i := 8) sc__law_triangle.nd rfl (.inl rfl) pe_str)
 (pss_cons (ps_for PassesOwn.never rfl (pi_range1 (by rfl) m_range (pa_cons (pe_op op_sub (pv 2) (pv 7)) pa_nil)) (pg_name (i := 9) sc__law_triangle.nd rfl (.inl rfl))
  (pss_cons (ps_set (i := 10) sc__law_triangle.nd rfl (.inl rfl) (pe_op op_mul (pe_op op_mod (pe_op op_fdiv (pv 1) pe_int) pe_int) (pe_op op_add (pv 7) (pe_op op_mul (pv 6) (pv 6)))))
 (pss_cut (ps_if (pt_cmpR (ko_neD (K := K) rfl (by exact hr.units)) (pv 0) (pe_lst pa_nil) (nomark _))
  (pss_cons (ps_set (i := 10) sc__law_triangle.nd rfl (.inl rfl) (pe_op op_add (pv 10) (pe_ix (kx_list (K := K) rfl) (pv 5) (pe_op op_mod (pv 6) (pe_callB (kr_len (K := K) rfl) (by rfl) m_len PySem.boot_len (pa_cons (pv 0) pa_nil))) (fun _ _ => rfl))))
 (pss_cons (ps_asg (pe_op op_fdiv (pe_ix (kx_list (K := K) rfl) (pv 5) (pe_op op_mod (pv 6) (pe_callB (kr_len (K := K) rfl) (by rfl) m_len PySem.boot_len (pa_cons (pv 0) pa_nil))) (fun _ _ => rfl)) pe_int) (pg_sub (pv 5) (pe_op op_mod (pv 6) (pe_callB (kr_len (K := K) rfl) (by rfl) m_len PySem.boot_len (pa_cons (pv 0) pa_nil))) set_list))
 pss_nil))
  pss_nil)
 (pss_cons (ps_set (i := 11) sc__law_triangle.nd rfl (.inl rfl) (pe_ix (kx_tup (K := K) rfl) (pe_tup (pa_cons pe_str (pa_cons pe_str (pa_cons pe_str (pa_cons pe_str pa_nil))))) (pv 3) (fun _ _ => rfl)))
 (pss_cut (ps_ifk (PWk.k (pwk_and (ptk_cmp op_gt (pv 3) (nomark _)) (pw_and1 (pt_cmpR op_eq (pv 7) pe_int (nomark _))))) (psst_cons (pst_set (i := 11) sc__law_triangle.nd rfl (.inl rfl) (CwR.pet_replC (pv 11))) CwR.psst_nil) pss_nil)
 (pss_cut (ps_ifk (PWk.k (pwk_and (ptk_cmp op_gt (pv 3) (nomark _)) (pw_and1 (pt_cmpR op_eq (pv 9) pe_int (nomark _))))) (psst_cons (pst_set (i := 11) sc__law_triangle.nd rfl (.inl rfl) (CwR.pet_replC (pv 11))) CwR.psst_nil) pss_nil)
 (pss_cut (ps_ifk (PWk.k (pwk_and (ptk_cmp op_gt (pv 3) (nomark _)) (pw_and1 (pt_cmpR op_eq (pe_op op_add (pv 7) (pv 9)) (pe_op op_sub (pv 2) pe_int) (nomark _))))) (psst_cons (pst_set (i := 11) sc__law_triangle.nd rfl (.inl rfl) (CwR.pet_replC (pv 11))) CwR.psst_nil) pss_nil)
 (pss_cons (ps_set (i := 8) sc__law_triangle.nd rfl (.inl rfl) (pe_op op_add_str (pv 8) (pe_ix ix_str (pv 11) (pe_op op_fdivN (pe_op op_mod (pv 10) pe_int) (pe_op op_fdivN pe_int (pe_callB call_len_str (by rfl) m_len PySem.boot_len (pa_cons (pv 11) pa_nil)))) (fun _ _ => rfl))))
 (pss_cons (ps_set (i := 6) sc__law_triangle.nd rfl (.inl rfl) (pe_op op_add (pv 6) pe_int))
 pss_nil)))))))))
 (pss_cons (ps_expr (ke_bm (K := K) rfl PySem.F.plainAttrs_list PySem.F.slot_list_append PySem.F.type_list_append mt_append (pv 4) (pa_cons (pv 8) pa_nil)))
 pss_nil))))
 (pss_cut (ps_if (pt_cmpR op_eq (pv 3) pe_int (nomark _))
  (pss_cons (ps_set (i := 7) sc__law_triangle.nd rfl (.inl rfl) (pe_op op_mod (pe_op op_fdiv (pv 1) pe_int) (pv 2)))
 (pss_cons (ps_set (i := 9) sc__law_triangle.nd rfl (.inl rfl) (pe_op op_mod (pe_op op_fdiv (pv 1) pe_int) (pe_op op_sub (pv 2) (pv 7))))
 (pss_cons (ps_set (i := 8) sc__law_triangle.nd rfl (.inl rfl) (pe_ix (kx_list (K := K) rfl) (pv 4) (pv 7) (fun _ _ => rfl)))
 (pss_cons (ps_asg (pe_op op_add_str (pe_op op_add_str (pe_slice sl_str (pv 8) po_none (po_some (pv 9))) (pe_ix ix_str pe_str (pe_op op_mod (pe_op op_fdiv (pv 1) pe_int) pe_int) (fun _ _ => rfl))) (pe_slice sl_str (pv 8) (po_some (pe_op op_add (pv 9) pe_int)) po_none)) (pg_sub (pv 4) (pv 7) set_list))
 pss_nil))))
  pss_nil)
 (pss_cons (ps_ret (pv 4))
 pss_nil))))))))))), ?_⟩
    refine y_asgI K (.int ns.sum) (ei_sum (ek_var rfl hS)) ?_
    intro v H1 e1 hv
    obtain rfl := hv.intE
    generalize ns.sum = sx
    refine y_asgI K (.int 2) (by walk_at "e") ?_
    intro v H2 e2 hv
    obtain rfl := hv.intE
    have e02 := e1.trans e2
    -- the number of rows
    refine q_while (fun m σ' H' => Ex H H' ∧ ∃ R : Nat, σ' = [some t, some (.int sx), some (.int (R : Int)), none, none, none, none, none, none, none, none, none] ∧ 2 ≤ R ∧ R ≤ 10 ∧ m = 20 - R) 18 ⟨e02, 2, rfl, by omega, by omega, by omega⟩ ?_
    rintro m σ' H' ⟨e3, R, rfl, r1, r2, rfl⟩
    have hS3 := hS.mono e3
    refine ⟨decide (((R : Int) + 1) * ((R : Int) + 2) / 2 ≤ (ns.length : Int)), ?_, ?_, ?_⟩
    · refine et_of K (ei_I0b (f := fun i j => decide (i ≤ j)) (ei_Ii (ei_Ii (by walk_at "e") (by walk_at "e") (.inl (by omega))) ei_int ⟨by decide, by decide⟩) (EvI.to (ei_lenK (ek_var rfl hS3)) (by rw [List.length_map])))
    · intro hb H4 e4
      have hb := of_decide_eq_true hb
      have r3 : R ≤ 9 := by
        by_cases h : R ≤ 9
        · exact h
        · have : R = 10 := by omega
          subst this
          simp at hb; omega
      refine ⟨fun σ2 H2 => Ex H H2 ∧ σ2 = [some t, some (.int sx), some (.int ((R + 1 : Nat) : Int)), none, none, none, none, none, none, none, none, none], ?_, ?_⟩
      · rintro σ2 H2 ⟨a, rfl⟩
        exact ⟨20 - (R + 1), by omega, a, R + 1, rfl, by omega, by omega, rfl⟩
      · refine y_asgI K (.int ((R : Int) + 1)) (by walk_at "e") ?_
        intro v H5 e5 hv
        obtain rfl := hv.intE
        exact ⟨(e3.trans e4).trans e5, rfl⟩
    · intro _ H4 e4
      have e04 := e3.trans e4
      refine y_cut (fun σ' H' => Ex H H' ∧ ∃ R : Nat, σ' = [some t, some (.int sx), some (.int (R : Int)), none, none, none, none, none, none, none, none, none] ∧ 2 ≤ R ∧ R ≤ 22) ?_ ?_
      · refine s_when (b := decide (sx % 7 = 2) && !ns.isEmpty) ?_ ?_ ?_
        · apply et_and
          · exact et_of K (ei_eqI (ei_Ii (by walk_at "e") ei_int (by decide)) ei_int)
          · intro _
            refine et_to (et_of K (ei_neD (ek_var rfl (hS.mono e04)).toD (EvN.toD (en_lst eai_nil (Nat.zero_le _))) (Shp.list (k := 0) (shp_ints ns)).ok rfl)) ?_
            rw [eqv_nil]
        · intro _ H5 e5
          refine y_asgI K (.int (14 + sx / 7 % 9)) (ei_I0i ei_int (ei_Ii (ei_Ii (by walk_at "e") ei_int ⟨by decide, by decide⟩) ei_int (by decide))) ?_
          intro v H6 e6 hv
          obtain rfl := hv.intE
          refine ⟨(e04.trans e5).trans e6, (14 + sx / 7 % 9).toNat, ?_, by omega, by omega⟩
          rw [show (((14 + sx / 7 % 9).toNat : Nat) : Int) = 14 + sx / 7 % 9 by omega]; rfl
        · intro _ H5 e5
          exact ⟨e04.trans e5, R, rfl, by omega, by omega⟩
      · clear e04 e4 e3 hS3 e02 e2 e1
        rintro σ1 H5 ⟨e5, R, rfl, r1, r2⟩
        refine y_asgI K (.int (sx / 5 % 4)) (ei_Ii (ei_Ii (by walk_at "e") ei_int ⟨by decide, by decide⟩) ei_int (by decide)) ?_
        intro v H6 e6 hv
        obtain rfl := hv.intE
        obtain ⟨kd, ekd, k4⟩ : ∃ kd : Nat, sx / 5 % 4 = (kd : Int) ∧ kd < 4 := ⟨(sx / 5 % 4).toNat, by omega, by omega⟩
        rw [ekd]
        refine y_asgG K [] (en_lst eai_nil (Nat.zero_le _)) ?_
        intro f7 H7 g7
        have gf := g7.back (e5.trans e6)
        refine y_asgG K (ns.map PyData.int) (en_listK (ek_var rfl (hS.mono gf.ex))) ?_
        intro l7 H8 g8
        have gl := g8.back gf.ex
        have ne : l7 ≠ f7 := by
          rintro rfl
          obtain ⟨xs, h1, _⟩ := gf.has
          rw [g8.fresh] at h1; cases h1
        replace gf := gf.go g8.ex
        refine y_asgI K (.int 0) (by walk_at "e") ?_
        intro v H9 e9 hv
        obtain rfl := hv.intE
        replace gf := gf.go e9
        replace gl := gl.go e9
        have w1 : EvAI K (tCons (tVar 2) tNil) [some t, some (.int sx), some (.int (R : Int)), some (.int (kd : Int)), some (.ref f7), some (.ref l7), some (.int ((0 : Nat) : Int)), none, none, none, none, none] H9 [.int (R : Int)] := eai_cons (by walk_at "e") eai_nil
        refine x_forR w1 (by omega) (fun i σ' H' => ∃ (A : Nat), ∃ y7 y8 y9 y10 y11, ∃ (zs : List Str) (ls : List Int), σ' = [some t, some (.int sx), some (.int (R : Int)), some (.int (kd : Int)), some (.ref f7), some (.ref l7), some (.int (A : Int)), y7, y8, y9, y10, y11] ∧
          A ≤ i * 60 ∧ Grow K H H' f7 (zs.map PyData.str) ∧ Grow K H H' l7 (ls.map PyData.int) ∧ zs.length = i ∧ RowsOk R zs ∧ ls.length = ns.length)
          (fun H2 e2 => ⟨0, none, none, none, none, none, [], ns, rfl, by omega, gf.go e2, gl.go e2, rfl, fun j z h => by simp at h, rfl⟩) ?_ ?_
        · rintro i σ2 Hi hi ⟨A, y7, y8, y9, y10, y11, zs, ls, rfl, hA, gf, gl, hz, hzs, hls⟩
          have hi : i < R := by omega
          refine y_asgI K (.str (st [])) ei_str ?_
          intro v Hj ej hv
          obtain rfl := hv.strE
          replace gf := gf.go ej
          replace gl := gl.go ej
          have w2 : EvAI K (tCons (tOp (rI0 fun i j => V.int (i - j)) (tVar 2) (tVar 7)) tNil) [some t, some (.int sx), some (.int (R : Int)), some (.int (kd : Int)), some (.ref f7), some (.ref l7), some (.int (A : Int)), some (.int (i : Int)), some (.str (st [])), y9, y10, y11] Hj [.int ((R : Int) - (i : Int))] := eai_cons (by walk_at "e") eai_nil
          refine x_forR w2 (by omega) (fun j σ' H' => ∃ (A : Nat), ∃ y9 y10 y11, ∃ (z : Str) (ls : List Int), σ' = [some t, some (.int sx), some (.int (R : Int)), some (.int (kd : Int)), some (.ref f7), some (.ref l7), some (.int (A : Int)), some (.int (i : Int)), some (.str z), y9, y10, y11] ∧
            A ≤ i * 60 + j ∧ Grow K H H' f7 (zs.map PyData.str) ∧ Grow K H H' l7 (ls.map PyData.int) ∧ z.length = j ∧ (∀ c ∈ z.cps.toList, DW.ltr c) ∧ ls.length = ns.length)
            (fun H2 e2 => ⟨A, y9, y10, y11, st [], ls, rfl, by omega, gf.go e2, gl.go e2, rfl, fun c h => by simp [st] at h, hls⟩) ?_ ?_
          · rintro j σ3 Hk hj ⟨A, y9, y10, y11, z, ls, rfl, hA, gf, gl, hz1, hz2, hls⟩
            have hj : i + j < R := by omega
            have hS5 := hS.mono gf.ex
            -- the cell
            refine y_asgI K (.int (sx / 11 % 2 * ((i : Int) + (A : Int) * (A : Int)))) (ei_Ii (ei_Ii (ei_Ii (by walk_at "e") ei_int ⟨by decide, by decide⟩) ei_int (by decide)) (ei_I0i (by walk_at "e") (ei_Ii (by walk_at "e") (by walk_at "e") (.inl (by omega)))) (.inl (by omega))) ?_
            intro v Hl el hv
            obtain rfl := hv.intE
            replace gf := gf.go el
            replace gl := gl.go el
            generalize sx / 11 % 2 * ((i : Int) + (A : Int) * (A : Int)) = cl
            refine y_cut (fun σ' H' => ∃ (cl : Int) (ls : List Int), σ' = [some t, some (.int sx), some (.int (R : Int)), some (.int (kd : Int)), some (.ref f7), some (.ref l7), some (.int (A : Int)), some (.int (i : Int)), some (.str z), some (.int (j : Int)), some (.int cl), y11] ∧
              Grow K H H' f7 (zs.map PyData.str) ∧ Grow K H H' l7 (ls.map PyData.int) ∧ ls.length = ns.length) ?_ ?_
            · refine s_when (b := !ns.isEmpty) ?_ ?_ ?_
              · refine et_to (et_of K (ei_neD (ek_var rfl (hS5.mono el)).toD (EvN.toD (en_lst eai_nil (Nat.zero_le _))) (Shp.list (k := 0) (shp_ints ns)).ok rfl)) ?_
                rw [eqv_nil]
              · intro hb Hm em
                replace gf := gf.go em
                replace gl := gl.go em
                have pos : 0 < ns.length := by
                  cases ns with
                  | nil => cases hb
                  | cons x r => simp
                have ix : A % ns.length < ls.length := by rw [hls]; exact Nat.mod_lt _ pos
                have at1 : atI (ls.map PyData.int) (((A % ns.length : Nat)) : Int) = some (.int ls[A % ns.length]) := atI_nat (by rw [List.getElem?_map, List.getElem?_eq_getElem ix]; rfl)
                have evix : ∀ {σ' : L2.St} {H' : Hp}, σ'[0]? = some (some t) → σ'[6]? = some (some (.int (A : Int))) → Ex H H' → EvI K (tOp (rI (fun _ j => 0 < j) fun i j => V.int (i % j)) (tVar 6) (tCB (rLenS K) (tCons (tVar 0) tNil))) σ' H' (.int ((A % ns.length : Nat) : Int)) := fun h0 h6 ee => by
                  refine EvI.to (ei_Ii (ei_var h6 (.int _)) (EvI.to (ei_lenK (ek_var h0 (hS.mono ee))) (by rw [List.length_map])) (by omega)) ?_
                  rw [Int.natCast_emod]
                refine y_asgI K (.int (cl + ls[A % ns.length])) (ei_I0i (by walk_at "e") (ei_ixK (em_var rfl gl.ls).k (evix rfl rfl gf.ex) at1)) ?_
                intro v Hn en hv
                obtain rfl := hv.intE
                replace gf := gf.go en
                replace gl := gl.go en
                refine y_setG (j := A % ns.length) (.int (ls[A % ns.length] / 18)) gl (ei_Ii (ei_ixK (em_var rfl gl.ls).k (evix rfl rfl gf.ex) at1) ei_int ⟨by decide, by decide⟩) (evv_var rfl) (evix rfl rfl gf.ex) (by rw [List.length_map]; exact ix) ?_
                intro Ho gl2 oth
                refine ⟨_, ls.set (A % ns.length) (ls[A % ns.length] / 18), rfl, oth f7 _ (Ne.symm ne) gf, ?_, by rw [List.length_set]; exact hls⟩
                rw [List.map_set]; exact gl2
              · intro _ Hm em
                exact ⟨cl, ls, rfl, gf.go em, gl.go em, hls⟩
            · rintro σ4 Hm ⟨cl, ls, rfl, gf, gl, hls⟩
              -- the letters
              refine y_asgI K (.str (if kd = 1 then "aabbbc" else "abc")) ?_ ?_
              · refine ei_ixT (i := (kd : Int)) (ds := [.str "abc", .str "aabbbc", .str "abc", .str "abc"]) (ei_tup (eai_cons ei_str (eai_cons ei_str (eai_cons ei_str (eai_cons ei_str eai_nil)))) (Nat.le_of_ble_eq_true rfl)) (by walk_at "e") ?_
                have : kd = 0 ∨ kd = 1 ∨ kd = 2 ∨ kd = 3 := by omega
                rcases this with rfl | rfl | rfl | rfl <;> rfl
              intro v Hn en hv
              obtain rfl := hv.strE
              replace gf := gf.go en
              replace gl := gl.go en
              have l0 : ((if kd = 1 then "aabbbc" else "abc" : Str)).length ≤ 6 := by split <;> decide +kernel
              refine y_cut (fun σ' H' => Ex Hn H' ∧ ∃ y : Str, P1 kd i y ∧ σ' = [some t, some (.int sx), some (.int (R : Int)), some (.int (kd : Int)), some (.ref f7), some (.ref l7), some (.int (A : Int)), some (.int (i : Int)), some (.str z), some (.int (j : Int)), some (.int cl), some (.str y)]) ?_ ?_
              · refine s_when (b := decide ((1 : Int) < (kd : Int)) && decide ((i : Int) = 0)) ?_ ?_ ?_
                · apply et_and
                  · exact et_of K (by walk_at "e")
                  · intro _; exact et_of K (by walk_at "e")
                · intro hb Ho eo
                  have hb := Bool.and_eq_true_iff.mp hb
                  have b1 := of_decide_eq_true hb.1
                  have b2 := of_decide_eq_true hb.2
                  refine y_asgI K (.str "ab") ?_ ?_
                  · refine EvI.to (ei_replC (x := "abc") (EvI.to (ei_var rfl (.str _)) ?_) (by decide +kernel)) (congrArg PyData.str r_abc_c)
                    rw [if_neg (by omega)]
                  · intro v Hp ep hv
                    obtain rfl := hv.strE
                    exact ⟨eo.trans ep, "ab", .inr ⟨by omega, .inr ⟨rfl, by omega⟩⟩, rfl⟩
                · intro hb Ho eo
                  refine ⟨eo, _, ?_, rfl⟩
                  by_cases h : 2 ≤ kd
                  · exact .inr ⟨h, .inl (by rw [if_neg (by omega)])⟩
                  · refine .inl ⟨by omega, ?_⟩
                    by_cases h1 : kd = 1
                    · rw [if_pos h1]; exact .inr rfl
                    · rw [if_neg h1]; exact .inl rfl
              rintro σ5 Ho ⟨eo, y, hy, rfl⟩
              replace gf := gf.go eo
              replace gl := gl.go eo
              refine y_cut (fun σ' H' => Ex Ho H' ∧ ∃ y : Str, P2 kd i j y ∧ σ' = [some t, some (.int sx), some (.int (R : Int)), some (.int (kd : Int)), some (.ref f7), some (.ref l7), some (.int (A : Int)), some (.int (i : Int)), some (.str z), some (.int (j : Int)), some (.int cl), some (.str y)]) ?_ ?_
              · refine s_when (b := decide ((1 : Int) < (kd : Int)) && decide ((j : Int) = 0)) ?_ ?_ ?_
                · apply et_and
                  · exact et_of K (by walk_at "e")
                  · intro _; exact et_of K (by walk_at "e")
                · intro hb Hp ep
                  have hb := Bool.and_eq_true_iff.mp hb
                  have b1 := of_decide_eq_true hb.1
                  have b2 := of_decide_eq_true hb.2
                  refine y_asgI K (.str (Txt.replace y "b" "")) ?_ ?_
                  · refine ei_replC (ei_var rfl (.str _)) ?_
                    have := hy.len
                    show y.length + (y.length + 1) * 0 ≤ 16777216
                    omega
                  · intro v Hq eq hv
                    obtain rfl := hv.strE
                    exact ⟨ep.trans eq, _, hy.rep (by omega) (by omega), rfl⟩
                · intro hb Hp ep
                  exact ⟨ep, _, hy.to2, rfl⟩
              rintro σ6 Hp ⟨ep, y, hy, rfl⟩
              replace gf := gf.go ep
              replace gl := gl.go ep
              refine y_cut (fun σ' H' => Ex Hp H' ∧ ∃ y : Str, y ∈ Zs ∧ σ' = [some t, some (.int sx), some (.int (R : Int)), some (.int (kd : Int)), some (.ref f7), some (.ref l7), some (.int (A : Int)), some (.int (i : Int)), some (.str z), some (.int (j : Int)), some (.int cl), some (.str y)]) ?_ ?_
              · refine s_when (b := decide ((1 : Int) < (kd : Int)) && decide ((i : Int) + (j : Int) = (R : Int) - 1)) ?_ ?_ ?_
                · apply et_and
                  · exact et_of K (by walk_at "e")
                  · intro _; exact et_of K (by walk_at "e")
                · intro hb Hq eq
                  have hb := Bool.and_eq_true_iff.mp hb
                  have b1 := of_decide_eq_true hb.1
                  have b2 := of_decide_eq_true hb.2
                  refine y_asgI K (.str (Txt.replace y "a" "")) ?_ ?_
                  · refine ei_replC (ei_var rfl (.str _)) ?_
                    have := hy.len
                    show y.length + (y.length + 1) * 0 ≤ 16777216
                    omega
                  · intro v Hr er hv
                    obtain rfl := hv.strE
                    exact ⟨eq.trans er, _, hy.rep (by omega) r1 (by omega), rfl⟩
                · intro hb Hq eq
                  exact ⟨eq, _, hy.zs, rfl⟩
              rintro σ7 Hq ⟨eq, y, hy, rfl⟩
              replace gf := gf.go eq
              replace gl := gl.go eq
              obtain ⟨ch, hch, hlt⟩ := pick hy (m := cl % 18) (by omega) (by omega)
              obtain ⟨n1, n2, n3, n4⟩ := lens hy
              refine y_asgI K (.str (z ++ st [ch])) (ei_addS (ei_var rfl (.str _)) (ei_ixS (z := y) (i := Int.fdiv (cl % 18) (Int.fdiv 18 (y.length : Int))) (ei_var rfl (.str _)) (ei_Ii (ei_Ii (by walk_at "e") ei_int (by decide)) (ei_Ii ei_int (ei_lenS (ei_var rfl (.str _)) (by omega)) ⟨by omega, by omega⟩) ⟨n3, n4⟩) (by omega) hch) (by rw [hz1]; show j + 1 ≤ 100000; omega)) ?_
              intro v Hr er hv
              obtain rfl := hv.strE
              refine y_asgI K (.int ((A : Int) + 1)) (by walk_at "e") ?_
              intro v Hs es hv
              obtain rfl := hv.intE
              refine ⟨A + 1, _, _, _, z ++ st [ch], ls, rfl, by omega, (gf.go er).go es, (gl.go er).go es, ?_, ?_, hls⟩
              · rw [app_len, hz1]; rfl
              · intro c hc
                rw [append_list, st_list] at hc
                rcases List.mem_append.mp hc with hc | hc
                · exact hz2 c hc
                · rw [List.mem_singleton.mp hc]; exact hlt
          · rintro σ3 Hk ⟨A, y9, y10, y11, z, ls, rfl, hA, gf, gl, hz1, hz2, hls⟩
            have ez : ((R : Int) - (i : Int)).toNat = R - i := by omega
            rw [ez] at hz1 hA
            refine x_appQ (d := .str z) gf (evv_var rfl) (ei_var rfl (.str _)) (by rw [List.length_map, hz]; omega) ?_
            intro Hl gf2 oth
            refine ⟨A, _, _, _, _, _, zs ++ [z], ls, rfl, by omega, ?_, oth l7 _ ne gl, by simp [hz], hzs.snoc (by rw [hz1, hz]) hz2, hls⟩
            rw [List.map_append]; exact gf2
        · rintro σ2 Hi ⟨A, y7, y8, y9, y10, y11, zs, ls, rfl, hA, gf, gl, hz, hzs, hls⟩
          have hz : zs.length = R := by omega
          refine y_cut (fun σ' H' => ∃ y7 y8 y9, ∃ (zs : List Str), σ' = [some t, some (.int sx), some (.int (R : Int)), some (.int (kd : Int)), some (.ref f7), some (.ref l7), some (.int (A : Int)), y7, y8, y9, y10, y11] ∧ Grow K H H' f7 (zs.map PyData.str) ∧ zs.length = R ∧ RowsOk R zs) ?_ ?_
          · refine s_when (b := decide ((kd : Int) = 3)) ?_ ?_ ?_
            · exact et_of K (by walk_at "e")
            · intro hb Hj ej
              replace gf := gf.go ej
              have r0 : (0 : Int) < (R : Int) := by omega
              have b1 := Int.emod_nonneg (sx / 13) (show (R : Int) ≠ 0 by omega)
              have b2 := Int.emod_lt_of_pos (sx / 13) r0
              obtain ⟨rr, er, lr⟩ : ∃ rr : Nat, sx / 13 % (R : Int) = (rr : Int) ∧ rr < R := ⟨(sx / 13 % (R : Int)).toNat, by omega, by omega⟩
              refine y_asgI K (.int (rr : Int)) (EvI.to (ei_Ii (ei_Ii (by walk_at "e") ei_int ⟨by decide, by decide⟩) (by walk_at "e") r0) (congrArg PyData.int er)) ?_
              intro v Hk ek hv
              obtain rfl := hv.intE
              replace gf := gf.go ek
              have p0 : (0 : Int) < (R : Int) - (rr : Int) := by omega
              have b3 := Int.emod_nonneg (sx / 17) (show (R : Int) - (rr : Int) ≠ 0 by omega)
              have b4 := Int.emod_lt_of_pos (sx / 17) p0
              obtain ⟨pp, ep, lp⟩ : ∃ pp : Nat, sx / 17 % ((R : Int) - (rr : Int)) = (pp : Int) ∧ rr + pp < R := ⟨(sx / 17 % ((R : Int) - (rr : Int))).toNat, by omega, by omega⟩
              refine y_asgI K (.int (pp : Int)) (EvI.to (ei_Ii (ei_Ii (by walk_at "e") ei_int ⟨by decide, by decide⟩) (by walk_at "e") p0) (congrArg PyData.int ep)) ?_
              intro v Hl el hv
              obtain rfl := hv.intE
              replace gf := gf.go el
              have hrow : zs[rr]? = some zs[rr] := List.getElem?_eq_getElem (by omega)
              obtain ⟨q1, q2⟩ := hzs rr _ hrow
              refine y_asgI K (.str zs[rr]) (ei_ixK (em_var rfl gf.ls).k (ei_var (v := .int (rr : Int)) rfl (.int _)) (atI_nat (by rw [List.getElem?_map, hrow]; rfl))) ?_
              intro v Hm em hv
              obtain rfl := hv.strE
              replace gf := gf.go em
              obtain ⟨mm, emm, lm⟩ : ∃ mm : Nat, sx / 19 % 3 = (mm : Int) ∧ mm < 3 := ⟨(sx / 19 % 3).toNat, by omega, by omega⟩
              have atm : atI ("abc" : Str).cps.toList (sx / 19 % 3) = some (97 + mm) := by
                rw [emm]
                have : mm = 0 ∨ mm = 1 ∨ mm = 2 := by omega
                rcases this with rfl | rfl | rfl <;> rfl
              have c1 := cut_len (z := zs[rr]) none (some (pp : Int))
              have c2 := cut_len (z := zs[rr]) (some ((pp : Int) + 1)) none
              refine y_setG (j := rr) (.str (st (zs[rr].cps.toList.set pp (97 + mm)))) gf ?_ (evv_var rfl) (ei_var (v := .int (rr : Int)) rfl (.int _)) (by rw [List.length_map]; omega) ?_
              · refine EvI.to (ei_addS (ei_addS (ei_slS (ei_var rfl (.str _)) eo_no (eo_at (K := K) (ei_var (v := .int (pp : Int)) rfl (.int _))) (by omega)) (ei_ixS (z := "abc") ei_str (ei_Ii (ei_Ii (by walk_at "e") ei_int ⟨by decide, by decide⟩) ei_int (by decide)) (by decide +kernel) atm) ?_)
                  (ei_slS (ei_var rfl (.str _)) (eo_at (K := K) (ei_I0i (ei_var (v := .int (pp : Int)) rfl (.int _)) ei_int)) eo_no (by omega)) ?_) ?_
                · show _ + 1 ≤ 100000; omega
                · rw [app_len]; show _ + 1 + _ ≤ 100000; omega
                · exact congrArg PyData.str (cut_put (by omega))
              · intro Hn gf2 _
                refine ⟨_, _, _, zs.set rr (st (zs[rr].cps.toList.set pp (97 + mm))), rfl, ?_, by rw [List.length_set]; exact hz, hzs.set ?_ ?_⟩
                · rw [List.map_set]; exact gf2
                · rw [st_len, List.length_set, ← length_cps]; exact q1
                · intro c hc
                  rw [st_list] at hc
                  rcases List.mem_or_eq_of_mem_set hc with hc | hc
                  · exact q2 c hc
                  · unfold DW.ltr; omega
            · intro _ Hj ej
              exact ⟨y7, y8, y9, zs, rfl, gf.go ej, hz, hzs⟩
          · rintro σ3 Hj ⟨y7, y8, y9, zs, rfl, gf, hz, hzs⟩
            obtain ⟨xs, h5, h6⟩ := gf.has
            refine ⟨.ref f7, rfl, ?_⟩
            refine q f7 xs Hj R (triOf zs) r1 r2 (triOf_ltr hzs) gf.fresh gf.ex h5 ?_
            rw [← rows_tri hzs hz]; exact h6
end
end DWL
/-! how many signs a text has, no sign told twice -/
namespace DWL
open PySem PySem.Spec PyProof.Rows L2 Evl
/-- the new ones of a list, some seen -/
def news : List Nat → List Nat → Nat
  | _, [] => 0
  | seen, c :: r => (if seen.contains c then 0 else 1) + news (c :: seen) r
theorem news_le : ∀ (l seen : List Nat), news seen l ≤ l.length
  | [], _ => Nat.le_refl _
  | c :: r, seen => by
    have := news_le r (c :: seen)
    show (if seen.contains c = true then 0 else 1) + news (c :: seen) r ≤ r.length + 1
    split <;> omega
theorem sign_inj {a b : Nat} : ((⟨#[a]⟩ : Str) = ⟨#[b]⟩) ↔ a = b := by
  constructor
  · intro h
    have := congrArg (fun z : Str => z.cps.toList) h
    simpa using this
  · rintro rfl; rfl
def isSign (seen : List Nat) : Str → Bool := fun k => seen.any fun c => decide (k = ⟨#[c]⟩)
theorem isSign_at {seen : List Nat} {c : Nat} : isSign seen ⟨#[c]⟩ = seen.contains c := by
  unfold isSign
  rw [Bool.eq_iff_iff, List.any_eq_true, List.contains_iff_mem]
  constructor
  · rintro ⟨d, h, e⟩
    have := sign_inj.mp (of_decide_eq_true e)
    rw [this]; exact h
  · intro h
    exact ⟨c, h, decide_eq_true rfl⟩
section
variable {prog : Program} {w : World} {A : Around} {R : Result → Shared → Prop} {I : Addr} {fp wr : List Addr} {n : Nat} {x : Str} {St : Nat → Heap → Prop}
theorem loopSign (W : Walks prog w A.in1 I fp wr n (SignAt x) St) (hn : n = x.cps.size) (S : Addr) (hSf : S ∉ fp) (hb : n + 1 < scanBound) :
    ∀ (k i : Nat) (s : Shared) (seen : List Nat) (m : Nat), n - i = k → i ≤ n → m ≤ i → St i s.heap →
      s.heap.SetOf (PySem.strKind prog w) S (isSign seen) m →
      (∀ h' tk S', (∀ b o, b ∉ S :: wr → s.heap.get? b = some o → h'.get? b = some o) → h'.SetOf (PySem.strKind prog w) S S' (m + news seen (x.cps.toList.drop i)) → R (.ok (.ret .none)) { s with heap := h', toks := tk }) →
      codeAny (model prog w) A (.builtin "set.update.loop" ⟨[.ref S, .ref I], []⟩) R s := by
  have hSw : S ∉ wr := fun h => hSf (W.sub _ h)
  have hsub : ∀ b, b ∉ S :: wr → b ∉ wr := fun b hb h => hb (List.mem_cons_of_mem _ h)
  intro k
  induction k with
  | zero =>
    intro i s seen m hk hi hm hst hS hR
    have hin : i = n := by omega
    subst hin
    refine codeAny_builtin PyProof.Rows.F.entry_set_update_loop ?_
    rw [Around.under_plainId PyProof.Rows.F.plain_set_update_loop _]
    show wpAny _ A.in1 (pyNext (.ref I) >>= _) _ _ s
    refine wpAny_bind (W.done s _ _ hst fun h' tk hk' => ?_)
    show wpAny _ A.in1 (ret Value.none) _ _ _
    refine wpAny_pure (hR h' tk (isSign seen) (fun b o hb e => hk' b o (hsub b hb) e) ?_)
    rw [List.drop_of_length_le (by rw [hn]; simp)]
    obtain ⟨o, es, ep, t, ho, rest⟩ := hS
    exact ⟨o, es, ep, t, hk' S o hSw ho, rest⟩
  | succ k ih =>
    intro i s seen m hk hi hm hst hS hR
    have hlt : i < n := by omega
    refine codeAny_builtin PyProof.Rows.F.entry_set_update_loop ?_
    rw [Around.under_plainId PyProof.Rows.F.plain_set_update_loop _]
    show wpAny _ A.in1 (pyNext (.ref I) >>= _) _ _ s
    refine wpAny_bind (W.item i s _ _ hlt hst fun v h1 tk1 hP hst' hk1 => ?_)
    obtain ⟨c, t, hc, rfl⟩ := hP
    have hd := Fz.drop_at hc
    have hS' : h1.SetOf (PySem.strKind prog w) S (isSign seen) m := by
      obtain ⟨o, es, ep, tb, ho, rest⟩ := hS
      exact ⟨o, es, ep, tb, hk1 S o hSw ho, rest⟩
    show wpAny _ A.in1 (holding [Value.str ⟨#[c]⟩ t] (setAdd S (.str ⟨#[c]⟩ t)) >>= _) _ _ _
    refine wpAny_bind (wpAny_holding ?_)
    unfold setAdd
    refine wpAny_holding ?_
    refine wpAny_bind ((PySem.strKind prog w).pyHash (k := (⟨#[c]⟩ : Str)) (strKind_is _ _ _ _) ?_)
    refine wpAny_setAddHashed_of (knd := PySem.strKind prog w) (s := { s with heap := h1, toks := tk1 + 1 }) (strKind_is _ _ _ _) rfl hS' (by omega) fun h' hsb hS2 => ?_
    rw [isSign_at] at hS2
    have hSi : h'.SetOf (PySem.strKind prog w) S (isSign (c :: seen)) (if seen.contains c = true then m else m + 1) := by
      refine SetOf_congr hS2 (fun k' => ?_) rfl
      show ((isSign seen) k' || decide (k' = (⟨#[c]⟩ : Str))) = _
      unfold isSign
      rw [List.any_cons, Bool.or_comm]
    refine wpAny_pure ⟨plainId_quiet PyProof.Rows.F.plain_set_update_loop _, ih (i + 1) { s with heap := h', toks := tk1 + 1 } (c :: seen) _ (by omega) hlt (by split <;> omega) (W.frame _ _ _ hst' fun b hb o e => ?_) hSi fun h2 tk2 S' hk2 hS3 => ?_⟩
    · rw [hsb.2 b (fun h : b = S => hSf (by rw [← h]; exact hb))]; exact e
    · refine hR h2 tk2 S' (fun b o hb e => hk2 b o hb ?_) ?_
      · rw [hsb.2 b (fun h : b = S => hb (by rw [h]; exact List.mem_cons_self))]; exact hk1 b o (hsub b hb) e
      · rw [hd]
        show h2.SetOf _ S S' (m + ((if seen.contains c = true then 0 else 1) + news (c :: seen) (x.cps.toList.drop (i + 1))))
        have e : m + ((if seen.contains c = true then 0 else 1) + news (c :: seen) (x.cps.toList.drop (i + 1))) = (if seen.contains c = true then m else m + 1) + news (c :: seen) (x.cps.toList.drop (i + 1)) := by split <;> omega
        rw [e]; exact hS3
end
section
variable {prog : Program} {w : World} {A : Around} {E : Value → Shared → Prop} {s : Shared}
theorem call_set_text {x : Str} {t0 : Tok} {Q : Value → Shared → Prop} (hh : A.handled = none) (hb : x.cps.size + 1 < scanBound)
    (h : ∀ (h' : Heap) (tk : Nat) S', h'.SetOf (PySem.strKind prog w) s.heap.objs.size S' (news [] x.cps.toList) →
      (∀ b o, b < s.heap.objs.size → s.heap.get? b = some o → h'.get? b = some o) → Q (.ref s.heap.objs.size) { s with heap := h', toks := tk }) :
    wpAny (model prog w) A (call (.type "set") [.str x t0]) Q E s := by
  obtain ⟨c, tl, hmro⟩ := PySem.F.called_set.mro
  have hmade := PySem.F.called_set.made
  have hsub := PySem.F.called_set.sub
  refine wpAny_call (codeAny_of_tree ?_)
  show wpAny _ _ (callAny (.type "set") _) _ _ _
  refine wpAny_pure ⟨Code.quiet_builtin _ (by decide +kernel), codeAny_builtin PySem.F.entry_type_call ?_⟩
  rw [Around.under_plain (weight_type_call_type "set" [.str x t0] []) rfl]
  have h1 := PySem.F.called_set.notType
  have h2 := PySem.F.called_set.canCreate
  have hct := PySem.F.typeCall_set_1 (.str x t0)
  repeat (any_goals (first | assumption | wp_step))
  refine codeAny_mono (code_set_new_1 (.str x t0) (E := E) (Q₁ := fun obj s₁ => ∃ led : Bool, obj = .ref s.heap.objs.size ∧ s₁ = { s with heap := s.heap.push { cls := .type "set", dict := none, data := .set #[] 0 (.fresh 0 0 led) } }) fun led => ⟨led, rfl, rfl⟩) fun r s₁ hr => ?_
  cases r with
  | error e => exact hr
  | ok fl =>
    cases fl with
    | ret obj =>
      obtain ⟨led, rfl, rfl⟩ := hr
      have hS : (s.heap.push { cls := .type "set", dict := none, data := .set #[] 0 (.fresh 0 0 led) }).get? s.heap.objs.size = some { cls := .type "set", dict := none, data := .set #[] 0 (.fresh 0 0 led) } := Heap.get?_push_size _ rfl
      have hT : Shared.TypeIs { s with heap := s.heap.push { cls := .type "set", dict := none, data := .set #[] 0 (.fresh 0 0 led) } } (.ref s.heap.objs.size) "set" := ⟨_, hS, rfl⟩
      have hli := PySem.F.called_set.init.lookup
      have hbi := PySem.F.called_set.init.bind (.ref s.heap.objs.size)
      repeat (any_goals (first | assumption | wp_step))
      refine codeAny_mono (codeAny_call_builtin (R := wants (fun r s₂ => r = .none ∧ ∃ h' tk S', s₂ = { s with heap := h', toks := tk } ∧
          h'.SetOf (PySem.strKind prog w) s.heap.objs.size S' (news [] x.cps.toList) ∧
          (∀ b o, b < s.heap.objs.size → s.heap.get? b = some o → h'.get? b = some o)) E) PySem.F.called_set.init.plain PySem.F.entry_set_init (check_set_init_1 hT ?_)) fun r₂ s₂ hr₂ => ?_
      · have hsls := PySem.F.sub_str_set
        have hslf := PySem.F.sub_str_frozenset
        unfold Builtin.«set.__init__» noKeywords Builtin.Frozenset.updateFrom
        generalize hPI : pyIter = PI
        wp_walk
        subst hPI
        refine wpAny_pyIter_str fun o St hW hst => ?_
        refine wpAny_bind (wpAny_runValue ?_)
        have hh3 : A.in1.in1.in1.handled = none := by simp [hh]
        have e1 : (s.heap.push { cls := .type "set", dict := none, data := .set #[] 0 (.fresh 0 0 led) }).objs.size = s.heap.objs.size + 1 := Heap.size_push ..
        refine loopSign (hW _ hh3) rfl s.heap.objs.size ?hSf hb (x.cps.size - 0) 0 _ [] 0 (by omega) (Nat.zero_le _) (Nat.le_refl _) hst ?hS0 ?hR
        case hSf => simp only [List.mem_singleton]; rw [Heap.size_push]; exact Nat.ne_of_lt (Nat.lt_succ_self _)
        case hS0 =>
          have hget : ((s.heap.push { cls := .type "set", dict := none, data := .set #[] 0 (.fresh 0 0 led) }).push o).get? s.heap.objs.size
              = some { cls := .type "set", dict := none, data := .set #[] 0 (.fresh 0 0 led) } := Heap.get?_push_of_some _ hS
          exact PyProof.Rows.SetOf_congr ((PyProof.Rows.setObjOf_fresh (knd := PySem.strKind prog w) led).setOf hget (by unfold scanBound; omega)) (fun _ => rfl) rfl
        case hR =>
          intro h' tk S' hk hS'
          refine wpAny_pure ?_
          show wpAny _ _ (ret Value.none) _ _ _
          rw [Nat.zero_add] at hS'
          refine wpAny_pure ⟨rfl, h', tk, S', rfl, hS', fun b o' hb e => ?_⟩
          refine hk b o' ?_ (Heap.get?_push_of_some _ (Heap.get?_push_of_some _ e))
          simp only [List.mem_cons, List.mem_singleton, List.not_mem_nil, or_false, not_or]
          exact ⟨Nat.ne_of_lt hb, by rw [Heap.size_push]; exact Nat.ne_of_lt (Nat.lt_succ_of_lt hb)⟩
      · cases r₂ with
        | error e => exact hr₂
        | ok fl₂ =>
          cases fl₂ with
          | ret r =>
            obtain ⟨rfl, h', tk, S', rfl, hS', hk'⟩ := hr₂
            repeat (any_goals (first | assumption | wp_step))
            exact h _ _ _ hS' hk'
          | _ => exact hr₂.elim
    | _ => exact hr.elim
end
section
variable {X : Cx} {K : PySem.W.Frag}
/-- len(set(text)) -/
def tLenSetX (ta : TE) : TE := fun σ H Q => ta σ H fun x H1 => ∃ z, x = .str z ∧ z.cps.size + 1 < scanBound ∧ Q (.int (news [] z.cps.toList)) H1
theorem pe_lenSetX {a : Expr} {ta : TE} {p p2 q pos : Pos} (hc : X.calm = true) (hg : Gl X "len") (hm : X.mg "len" = none) (hg2 : Gl X "set") (hm2 : X.mg "set" = none) (ha : PE X a ta)
    (na : starEach [a] X.env = (false, eval a X.env) :: starEach [] X.env := by rfl) : PE X (.Call (.Name "len" p) [.Call (.Name "set" p2) [a] [] q] [] pos) (tLenSetX ta) := by
  refine ⟨fun pins s σ H Q I h => ?_⟩
  refine Call_ (ld_blt I hg hm boot_len ?_)
  refine PyProof.Rows.callWith_builtin1 (PyProof.Rows.args_cons ?_ rfl) rfl rfl
  refine Call_ (ld_blt I hg2 hm2 boot_set ?_)
  refine PyProof.Rows.callWith_type1 (PyProof.Rows.args_cons (thn (ha.run pins s σ H _ I h) fun v s1 ⟨x, H1, I1, r1, q1⟩ => PyProof.Rows.args_nil ?_) na) na rfl
  obtain ⟨z, rfl, hb, q1⟩ := q1
  obtain ⟨t, rfl⟩ := r1
  refine call_set_text (I1.ok.hd hc) hb fun h' tk S' hS hk => ?_
  refine PyProof.Rows.args_nil ?_
  obtain ⟨o, es, ep, t, ho, hex, hd, _, _, _, hf, hn⟩ := hS
  have I2 : Inv X pins σ H1 { s1 with heap := h', toks := tk } := I1.kept fun b o e => hk b o (Heap.lt_size e) e
  refine call_len_set ho hex hd hf (by rw [hn]; have := news_le z.cps.toList []; simp at this; unfold scanBound at hb; omega) ⟨.int (news [] z.cps.toList), H1, I2.tok _, ⟨_, by rw [hn]⟩, q1⟩
variable {te : TE} {σ : L2.St} {H : Hp} {z : Str}
theorem ei_lenSetX (h : EvI K te σ H (.str z)) (hb : z.length ≤ 10) : EvI K (tLenSetX te) σ H (.int (news [] z.cps.toList)) := fun H1 e Q q => h H1 e _ fun v H2 e2 r => by
  cases r
  exact ⟨z, rfl, (by rw [length_cps] at hb; simp at hb; unfold scanBound; omega), q _ H2 e2 (.int _)⟩
end
end DWL
/-! slices of a list with a step; how often a text lies in a list -/
namespace DWL
open PySem PySem.Spec PyProof.Rows L2 Evl
/-- what is picked lies in the list -/
def Pickd {α : Type} (ix : List Nat) (xs : List α) : List α := ix.filterMap (xs[·]?)
theorem pickd_mem {α : Type} {ix : List Nat} {xs : List α} {x : α} (h : x ∈ Pickd ix xs) : x ∈ xs := by
  obtain ⟨i, _, e⟩ := List.mem_filterMap.mp h
  exact List.mem_of_getElem? e
theorem vals_pickd {xs : List V} {us : List Value} (r : Vals xs us) : ∀ ix : List Nat, Vals (Pickd ix xs) (Pickd ix us)
  | [] => .nil
  | i :: ix => by
    unfold Pickd
    cases hx : xs[i]? with
    | none =>
      have hu : us[i]? = none := by
        rw [List.getElem?_eq_none_iff] at hx ⊢
        rw [← r.length]; exact hx
      rw [List.filterMap_cons, List.filterMap_cons, hx, hu]
      exact vals_pickd r ix
    | some x =>
      obtain ⟨u, hu, ru⟩ := r.get hx
      rw [List.filterMap_cons, List.filterMap_cons, hx, hu]
      exact .cons ru (vals_pickd r ix)
theorem imall_pickd {K : PySem.W.Frag} {H : Hp} {xs : List V} {ds : List PyData} (r : ImAll K H xs ds) : ∀ ix : List Nat, ImAll K H (Pickd ix xs) (Pickd ix ds)
  | [] => .nil
  | i :: ix => by
    unfold Pickd
    cases hx : ds[i]? with
    | none =>
      have hu : xs[i]? = none := by
        rw [List.getElem?_eq_none_iff] at hx ⊢
        rw [r.length]; exact hx
      rw [List.filterMap_cons, List.filterMap_cons, hx, hu]
      exact imall_pickd r ix
    | some x =>
      obtain ⟨u, hu, ru⟩ := r.get hx
      rw [List.filterMap_cons, List.filterMap_cons, hx, hu]
      exact .cons ru (imall_pickd r ix)
theorem pickd_len {α : Type} (ix : List Nat) (xs : List α) : (Pickd ix xs).length ≤ ix.length := List.length_filterMap_le ..
theorem bounds_len (lo : Option Int) (k : Int) (hk : 0 < k) (n : Nat) : (sliceRange (sliceBounds lo none (some k) n).1 (sliceBounds lo none (some k) n).2.1 (sliceBounds lo none (some k) n).2.2).length ≤ n := by
  refine sliceRange_length_le _ _ _ n (fun _ => ⟨?_, ?_⟩) (fun h => absurd hk h)
  · unfold sliceBounds
    cases lo with
    | none => simp [hk]
    | some i => simp [hk]; omega
  · unfold sliceBounds
    simp [hk]
def stepIx (lo : Option Int) (k : Int) (n : Nat) : List Nat := sliceRange (sliceBounds lo none (some k) n).1 (sliceBounds lo none (some k) n).2.1 (sliceBounds lo none (some k) n).2.2
section
variable {X : Cx} {K : PySem.W.Frag}
/-- xs[lo::k], k above nought: some list of what lies in xs -/
def tStepL (K : PySem.W.Frag) (te : TE) (tl ts : TO) : TE := fun σ H Q => te σ H fun x H1 => tl σ H1 fun lo H2 => ts σ H2 fun o H3 => ∃ a xs k, x = .ref a ∧ SqL K H3 a xs ∧ o = some k ∧ 0 < k ∧
  ∀ p, H3 p = none → Q (.ref p) (upd H3 p (.lst (Pickd (stepIx lo k xs.length) xs)))
theorem pe_stepL {e ek : Expr} {te : TE} {lo : Option Expr} {tl ts : TO} {p3 pos : Pos} (hX : X.K = K) (he : PE X e te) (hl : PO X lo tl) (hk : PO X (some ek) ts) : PE X (.Subscript e (.Slice lo none (some ek) p3) pos) (tStepL K te tl ts) := by
  subst hX
  refine ⟨fun pins s σ H Q I h => ?_⟩
  refine Subscript_ (thn (he.run pins s σ H _ I h) fun v s1 ⟨x, H1, I1, r1, q1⟩ => ?_)
  refine wpAny_Slice (thn (hl.run pins s1 σ H1 _ I1 q1) fun vl s2 ⟨l, H2, I2, pl, q2⟩ => ?_)
  refine thn (po_none.run pins s2 σ H2 (fun o H3 => o = none ∧ H3 = H2) I2 ⟨rfl, rfl⟩) fun vu s3 ⟨u, H3, I3, pu, eu, e3⟩ => ?_
  subst eu e3
  refine thn (hk.run pins s3 σ H3 _ I3 q2) fun vs s4 ⟨o, H4, I4, ps, a, xs, k, ex, hx, eo, k0, q⟩ => ?_
  subst eo ex
  cases r1
  have I5 : Inv X pins σ H4 { s4 with heap := s4.heap.push { cls := .type "slice", data := .fields #[vl, vu, vs] } } := I4.kept (t' := s4.toks) fun b ob q => Heap.get?_push_of_some _ q
  obtain ⟨its, r, ht, hz⟩ := I5.list hx
  have hlen := r.length
  show wpAny (model X.prog X.w) X.A (subscriptTail e (.Slice lo none (some ek) p3) (.ref a) (.ref s4.heap.objs.size)) (EP X pins σ Q) X.xe { s4 with heap := s4.heap.push { cls := .type "slice", data := .fields #[vl, vu, vs] } }
  refine tail_any (ops := [.ref a, .ref s4.heap.objs.size]) ht.isList.typeIs (PySem.slot_list_getitem.lookup) ?_ (by with_unfolding_all rfl)
  refine wpAny_getItem_list_slice ht.isList (Heap.IsSliceOf.new _ vl vu vs) pl pu ps (by simp; omega) ?_ (by rw [List.size_toArray]; omega)
  generalize hix : sliceRange (sliceBounds l none (some k) its.toArray.size).1 (sliceBounds l none (some k) its.toArray.size).2.1 (sliceBounds l none (some k) its.toArray.size).2.2 = ix
  have hl2 : ix.length ≤ its.toArray.size := by rw [← hix]; exact bounds_len l k k0 _
  have ep : slicePick its.toArray l none (some k) = (Pickd ix its).toArray := by
    unfold slicePick Pickd
    rw [hix]
    congr 1
    refine congrArg (fun f => List.filterMap f ix) (funext fun i => ?_)
    simp
  rw [ep]
  have eix : stepIx l k xs.length = ix := by
    rw [hlen, ← hix, List.size_toArray]; rfl
  rw [eix] at q
  refine ⟨.ref _, _, I5.laid (t' := s4.toks) (o := .lst (Pickd ix xs)) (fun b ob q => Heap.get?_push_of_some _ q) (Nat.le_refl _) ?_, rfl, q _ (I5.hok.fresh (Nat.le_refl _))⟩
  refine ⟨?_, _, 0, vals_pickd r ix, Heap.get?_push_size _ rfl⟩
  have := pickd_len ix xs
  rw [List.size_toArray] at hl2
  omega
def rCntS (K : PySem.W.Frag) : V → List V → Hp → VK → Prop := fun x xs H Q => ∃ (p : Addr) (ns : List Str) (k : Str), x = .ref p ∧ xs = [.str k] ∧ SqL K H p (ns.map V.str) ∧ Q (.int (ns.count k : Nat)) H
theorem eqU_count {k : Str} : ∀ {ns : List Str} {its : List Value}, Vals (ns.map V.str) its → its.countP (eqU (.str k)) = ns.count k
  | [], _, .nil => rfl
  | n :: ns, _, .cons r t => by
    rw [List.countP_cons, List.count_cons, eqU_count t, eqU_of r rfl]
    rfl
theorem km_cntS (h : X.K = K) : MtR X "list.count" (rCntS K) := by
  subst h
  intro pins s σ H x xs v us Q I rx rxs h
  obtain ⟨p, ns, k, rfl, rfl, hs, q⟩ := h
  cases rx
  obtain ⟨u, rfl, ru⟩ := rxs.one
  obtain ⟨t, rfl⟩ := ru
  obtain ⟨its, rv, ⟨⟨cls, dd, data, sl⟩, n, ho, hc, hdn, hd⟩, hlen⟩ := I.list hs
  simp only at hc hd
  subst hc hd
  refine call_meets PySem.F.slot_list_count ⟨_, ho, rfl⟩ PySem.F.entry_list_count (PySem.F.args_list_count_2 _ _)
    (SeqAt.list_countAt p its.toArray n dd sl (.str k t) (eqU (.str k))) ⟨ho, fun y hy => mem_eqAt (x := .str k) ⟨t, rfl⟩ rfl rv (flat_strs ns) y (by simpa using hy), ?_⟩
  refine ⟨.int (ns.count k : Nat), H, I.tok _, ⟨s.toks, ?_⟩, q⟩
  show Value.int ((its.toArray.toList.countP (eqU (.str k)) : Nat) : Int) s.toks = Value.int ((ns.count k : Nat) : Int) s.toks
  rw [show its.toArray.toList.countP (eqU (.str k)) = ns.count k from eqU_count rv]
variable {te ta tk : TE} {tl ts : TO} {σ : L2.St} {H : Hp} {ds : List PyData}
/-- what is picked, as data -/
theorem en_stepL {lo : Option Int} {k : Int} (h : EvK K te σ H ds) (hl : EvO tl σ H lo) (hk : EvO ts σ H (some k)) (k0 : 0 < k) :
    EvN K (tStepL K te tl ts) σ H (Pickd (stepIx lo k ds.length) ds) := fun H1 e Q q => h H1 e _ fun v H2 e2 r => hl H2 (e.trans e2) _ fun H3 e3 => hk H3 ((e.trans e2).trans e3) _ fun H4 e4 => by
  obtain ⟨a, xs, rfl, g1, g2⟩ := (r.mono e3).mono e4
  refine ⟨a, xs, k, rfl, g1, rfl, k0, fun p hp => ?_⟩
  rw [g2.length]
  exact q p _ _ (fresh_back ((e2.trans e3).trans e4) hp) (((e2.trans e3).trans e4).trans (Ex.new hp)) upd_same ((imall_pickd g2 _).mono (Ex.new hp))
theorem ei_cntS {z : Str} {zs : List Str} (h : EvK K te σ H (zs.map PyData.str)) (ha : EvI K ta σ H (.str z)) : EvI K (tBM K "list" (rCntS K) te (tCons ta tNil)) σ H (.int (zs.count z : Nat)) := fun H1 e Q q => h H1 e _ fun v H2 e2 r => by
  obtain ⟨a, xs, rfl, g1, g2⟩ := r
  have := strs_back g2
  subst this
  refine ⟨.inl ⟨rfl, _, g1⟩, ha H2 (e.trans e2) _ fun u H3 e3 r3 => ?_⟩
  cases r3
  exact ⟨a, zs, z, rfl, rfl, ex_l e3 g1, q _ H3 (e2.trans e3) (.int _)⟩
end
end DWL
namespace DWL
open PySem PySem.Spec PyProof.Rows L2 Evl DW
section
variable {P : Program} {w : World} {K : PySem.W.Frag} {mg : Str → Option Value} {base : Heap}
local macro_rules | `(tactic| walk_at "v") => `(tactic| first | exact ei_int | exact ei_str | exact ei_bl | exact ei_non | exact ei_neg ei_int | exact ei_var rfl (Im.int _) | exact ei_var rfl (Im.str _) | exact ei_var rfl (Im.bl _) | exact ei_var rfl (by assumption) | exact et_len rfl (by assumption))
local macro_rules | `(tactic| walk_at "e") => `(tactic| first | walk_at "v" | (apply ei_I0i <;> walk_at "e") | (apply ei_I0b <;> walk_at "e") | (apply ei_chainI <;> walk_at "e") | (apply ei_eqI <;> walk_at "e") | (apply ei_eqS <;> walk_at "e") | (refine' ei_tup ?_ (Nat.le_of_ble_eq_true rfl) <;> walk_at "e") | (apply eai_cons <;> walk_at "e") | exact eai_nil)

theorem congrArg₂' {α : Type} {a b c d : List α} (h : a = b) (g : c = d) : a ++ c = b ++ d := by rw [h, g]
theorem take2 {α : Type} {l : List α} {k : Nat} {a b : α} (h1 : l[k]? = some a) (h2 : l[k + 1]? = some b) : (l.drop k).take 2 = [a, b] := by
  obtain ⟨q1, e1⟩ := List.getElem?_eq_some_iff.mp h1
  obtain ⟨q2, e2⟩ := List.getElem?_eq_some_iff.mp h2
  rw [List.drop_eq_getElem_cons q1, List.drop_eq_getElem_cons q2, e1, e2]; rfl
theorem rowS_at {n : Nat} {c : Nat → Nat → Nat} {r p : Nat} {i : Int} (h : r + p < n) (hi : i = (p : Int)) : atI (rowS n c r).cps.toList i = some (c r p) := by
  subst hi; exact atI_nat (rowS_get h)
theorem tri_at {n : Nat} {c : Nat → Nat → Nat} {r : Nat} {i : Int} (h : r < n) (hi : i = (r : Int)) : atI ((triD n c).map PyData.str) i = some (.str (rowS n c r)) := by
  subst hi; exact atI_nat (by rw [List.getElem?_map, triD_get h]; rfl)
theorem s3 (x y z : Nat) : ((⟨#[x]⟩ : Str) ++ ⟨#[y]⟩ ++ ⟨#[z]⟩) = st [x, y, z] := by
  show st [x] ++ st [y] ++ st [z] = _
  rw [st_app, st_app]; rfl
def sl2 (c : Nat → Nat → Nat) (s : Sm) : PyData := .tuple [smD s, .str (let3 c s)]
abbrev spLawSmalls (K : PySem.W.Frag) : Sp := PrN K (preTriN K fun n c => (smalls n).map (sl2 c))
theorem rowSm_len {n : Nat} (h : n ≤ 60) (i : Nat) : (rowSm n i).length ≤ 120 := by
  have : (rowSm n i).length ≤ (n - 1 - i) * 2 := flat_len _ 2 _ fun j _ => by split <;> simp
  omega
theorem smalls_len {n : Nat} (h : n ≤ 60) : (smalls n).length ≤ 7200 := by
  have := flat_len (rowSm n) 120 (n - 1) fun i _ => rowSm_len h i
  show ((List.range (n - 1)).flatMap (rowSm n)).length ≤ 7200
  omega
theorem pickd_map {α β : Type} (f : α → β) (xs : List α) : ∀ ix : List Nat, Pickd ix (xs.map f) = (Pickd ix xs).map f
  | [] => rfl
  | i :: ix => by
    unfold Pickd
    rw [List.filterMap_cons, List.filterMap_cons, List.getElem?_map]
    cases xs[i]? with
    | none => exact pickd_map f xs ix
    | some x => exact congrArg (f x :: ·) (pickd_map f xs ix)
theorem cutD_map {α β : Type} (f : α → β) (xs : List α) (lo hi : Option Int) : cutD (xs.map f) lo hi = (cutD xs lo hi).map f := by
  unfold cutD; rw [List.length_map, List.map_take, List.map_drop]
theorem cutD_mem {α : Type} {xs : List α} {lo hi : Option Int} {x : α} (h : x ∈ cutD xs lo hi) : x ∈ xs := List.mem_of_mem_drop (List.mem_of_mem_take h)
theorem cutD_len {α : Type} (xs : List α) (lo hi : Option Int) : (cutD xs lo hi).length ≤ xs.length := by
  unfold cutD; rw [List.length_take, List.length_drop]; omega
theorem stepIx_len (lo : Option Int) {k : Int} (hk : 0 < k) (n : Nat) : (stepIx lo k n).length ≤ n := bounds_len lo k hk n
theorem bind2 {v : V} {H : Hp} {d1 d2 : PyData} (h : Im K H v (.tuple [d1, d2])) : ∃ x y, Im K H x d1 ∧ Im K H y d2 ∧ ∀ (σ : L2.St) (i j : Nat) (Q : L2.St → Hp → Prop), Q ((σ.set i (some x)).set j (some y)) H → gTup K 2 (gCons (gName i) (gCons (gName j) gNil)) v σ H Q := by
  obtain ⟨a, xs, rfl, h1, h2⟩ := h.tup_inv
  cases h2 with
  | cons a1 r => cases r with
    | cons a2 r => cases r; exact ⟨_, _, a1, a2, fun σ i j Q q => ⟨a, _, rfl, h1, rfl, _, _, rfl, _, _, rfl, rfl, q⟩⟩
/-! ### the turn by the law -/
def preLawTurn (K : PySem.W.Frag) : List V → Hp → PyData → Prop := fun vs H d => ∃ x y z, vs = [.str (st [x, y, z])] ∧ x ∈ L3 ∧ y ∈ L3 ∧ z ∈ L3 ∧ d = .int (tn x y z)
theorem law_turn_str : ∀ x ∈ L3, ∀ y ∈ L3, ∀ z ∈ L3, (if decide ((news [] (st [x, y, z]).cps.toList : Int) < 3) = true then (0 : Int) else if decide ((0 : Int) ≤ Txt.find (st [x, y, z] ++ st [x, y, z]) "abc") = true then 1 else -1) = tn x y z := by decide +kernel
/-! ### the side by the law -/
theorem en_revL {te : TE} {σ : L2.St} {H : Hp} {ds : List PyData} (h : EvK K te σ H ds) : EvN K (tRevL K te) σ H ds.reverse := fun H1 e Q q => h H1 e _ fun v H2 e2 r => by
  obtain ⟨a, xs, rfl, g1, g2⟩ := r
  refine ⟨a, xs, rfl, g1, fun p hp => q p _ _ (fresh_back e2 hp) (e2.trans (Ex.new hp)) upd_same ?_⟩
  have rev : ∀ {xs : List V} {ds : List PyData}, ImAll K H2 xs ds → ImAll K H2 xs.reverse ds.reverse := fun {xs} => by
    induction xs with
    | nil => intro ds g; cases g; exact .nil
    | cons x xs ih =>
      intro ds g
      cases g with
      | cons g1 g2 =>
        rw [List.reverse_cons, List.reverse_cons]
        exact (ih g2).append (.cons g1 .nil)
  exact (rev g2).mono (Ex.new hp)
def sideS (n : Nat) (c : Nat → Nat → Nat) : Str := st ((sideSp n).map (lt2 c))
def preTriI (K : PySem.W.Frag) (f : Nat → (Nat → Nat → Nat) → PyData) : List V → Hp → PyData → Prop := preTri K f
abbrev spLawSide (K : PySem.W.Frag) : Sp := PrI K (preTri K fun n c => .str (sideS n c))
theorem rev_range {α : Type} (f : Nat → α) (n : Nat) : ((List.range n).reverse.map f) = (List.range n).map fun i => f (n - 1 - i) := by
  refine List.ext_getElem? fun i => ?_
  by_cases h : i < n
  · rw [List.getElem?_map, List.getElem?_map, List.getElem?_reverse (by simpa using h), List.length_range, List.getElem?_range h, List.getElem?_range (by omega)]; rfl
  · rw [List.getElem?_eq_none (by simp; omega), List.getElem?_eq_none (by simp; omega)]
theorem side_str {n : Nat} (h2 : 2 ≤ n) (c : Nat → Nat → Nat) : (((List.range n).map (c 0)).take (n - 1)) ++ (List.range n).map (fun r => c r (n - 1 - r)) ++ ((List.range n).reverse.map fun r => c r 0).drop 1 = (sideSp n).map (lt2 c) := by
  obtain ⟨m, rfl⟩ : ∃ m, n = m + 1 := ⟨n - 1, by omega⟩
  rw [rev_range]
  show _ = (((List.range m).map (fun p => ((0, p) : Sp2))) ++ (List.range m).map (fun r => ((r, m + 1 - 1 - r) : Sp2)) ++ (List.range (m + 1)).map (fun r => ((m + 1 - 1 - r, 0) : Sp2))).map (lt2 c)
  rw [List.map_append, List.map_append, List.map_map, List.map_map, List.map_map, ← List.map_take, List.take_range, show min (m + 1 - 1) (m + 1) = m by omega]
  rw [List.append_assoc, List.append_assoc]
  refine congrArg₂' rfl ?_
  rw [List.range_succ (n := m), List.map_append, List.append_assoc]
  refine congrArg₂' rfl ?_
  rw [← List.range_succ, List.range_succ_eq_map]
  simp [lt2]
theorem cat_strs (f : Nat → Nat) (l : List Nat) : Txt.join (st []) (l.map fun r => st [f r]) = st (l.map f) := by
  refine str_ext ?_
  rw [join_nil, st_list, List.map_map]
  induction l with
  | nil => rfl
  | cons a l ih => rw [List.map_cons, List.flatten_cons, ih]; simp [st]
theorem join_few (f : Nat → Nat) (l : List Nat) (h : l.length ≤ 1000) : ((l.map fun r => st [f r]).map (·.length)).sum + (l.map fun r => st [f r]).length * (st []).length ≤ 16777216 := by
  have : ((l.map fun r => st [f r]).map (·.length)).sum = l.length := by
    rw [List.map_map]
    clear h
    induction l with
    | nil => rfl
    | cons a l ih => rw [List.map_cons, List.sum_cons, ih, List.length_cons]; show (st [f a]).length + _ = _; rw [st_len]; simp; omega
  rw [this]
  show l.length + _ * 0 ≤ _
  omega
theorem y_tri {i j : Nat} {v : V} {σ : L2.St} {H : Hp} {D : Ends} {tz : TS} {ns : List Int} (hv : σ[i]? = some (some v)) (hS : Ls K H v (ns.map PyData.int)) (h63 : ns.length ≤ 63)
    (k : ∀ p H1 n c, n ≤ 22 → Ex H H1 → Tri K H1 (.ref p) n c → tz D (σ.set j (some (.ref p))) H1) : tSeq (tAsg (tCall (spTriangle K) [] E0 (tCons (tVar i) tNil)) (gName j)) tz D σ H :=
  ⟨v, hv, v, ns, rfl, hS, h63, fun p xs H' n c h2 h22 hl _ e hx hi => k p H' n c h22 e ⟨h2, by omega, hl, Lm.ls ⟨p, xs, rfl, hx, hi⟩⟩⟩
def cA (r p : Nat) : Nat := if r = 0 then (if p = 0 then 97 else 98) else 99
def cB (r p : Nat) : Nat := if r = 0 then (if p = 0 then 98 else 97) else 99
theorem cA_ltr (r p : Nat) : DW.ltr (cA r p) := by unfold cA DW.ltr; split <;> (try split) <;> omega
theorem cB_ltr (r p : Nat) : DW.ltr (cB r p) := by unfold cB DW.ltr; split <;> (try split) <;> omega
theorem triA : (triD 2 cA) = [("ab" : Str), "c"] := by decide +kernel
theorem triB : (triD 2 cB) = [("ba" : Str), "c"] := by decide +kernel
theorem fullsA : fulls 2 cA = [(0, 0, 1)] := by decide +kernel
theorem aroundB : around 2 cB = -1 := by decide +kernel
theorem ex_triA {σ : L2.St} {H : Hp} : EvX (tLst (tCons (tC (.str "ab")) (tCons (tC (.str "c")) tNil))) σ H fun v H1 => Tri K H1 v 2 cA :=
  EvX.imp (EvN.k (en_lst (ds := [.str "ab", .str "c"]) (eai_cons ei_str (eai_cons ei_str eai_nil)) (Nat.le_of_ble_eq_true rfl))) fun v H1 r => ⟨by decide, by decide, cA_ltr, by rw [triA]; exact r⟩
theorem ex_triB {σ : L2.St} {H : Hp} : EvX (tLst (tCons (tC (.str "ba")) (tCons (tC (.str "c")) tNil))) σ H fun v H1 => Tri K H1 v 2 cB :=
  EvX.imp (EvN.k (en_lst (ds := [.str "ba", .str "c"]) (eai_cons ei_str (eai_cons ei_str eai_nil)) (Nat.le_of_ble_eq_true rfl))) fun v H1 r => ⟨by decide, by decide, cB_ltr, by rw [triB]; exact r⟩
def spLaw (K : PySem.W.Frag) : Sp := fun vs H Q _ => ∃ (v : V) (ns : List Int), vs = [v] ∧ Ls K H v (ns.map PyData.int) ∧ ns.length ≤ 63 ∧ ∀ H', Q (.bl true) H'
end
end DWL
/-! classes: methods, making, fields -/
namespace DWL
open PySem PySem.Spec PyProof.Rows L2 Evl DW
def DefM (K : PySem.W.Frag) (C : Addr) (m q : Str) (st : Stmt) : Prop := ∃ f fd, FunD K m q (defArgs st) (defBody st) (defScope st) [] [] f fd ∧ Meth K C m f
def DefI (K : PySem.W.Frag) (C : Addr) (q : Str) (st : Stmt) : Prop := ∃ f fd, FunD K "__init__" q (defArgs st) (defBody st) (defScope st) [] [] f fd ∧ Mk K C f
def CalleeM (P : Program) (w : World) (K : PySem.W.Frag) (mg : Str → Option Value) (base : Heap) (CX : CXT) (k : Nat) (C : Addr) (m : Str) (ps : List Str) (sp : Sp) : Prop :=
  ∃ f fd, FnOk P w K mg base CX k f fd ps sp ∧ Meth K C m f ∧ Binds K fd ps []
def CalleeI (P : Program) (w : World) (K : PySem.W.Frag) (mg : Str → Option Value) (base : Heap) (CX : CXT) (k : Nat) (C : Addr) (ps : List Str) (sp : Sp) : Prop :=
  ∃ f fd, FnOk P w K mg base CX k f fd ps sp ∧ Mk K C f ∧ Binds K fd ps []
section
variable {P : Program} {w : World} {K : PySem.W.Frag} {mg : Str → Option Value} {base : Heap} {C : Addr}
theorem DefM.ok {m q : Str} {st : Stmt} {N ps : List Str} {k : Nat} {sp : Sp} (F : DefM K C m q st) (S : FnScope N ps (defScope st))
    (hb : ∀ (kV doc pm : Value) (an : Option Addr) (cdv ct : Value) (us : List Value), us.length = ps.length → bindArgs (PySem.W.fnOf m q (defArgs st) (defBody st) (defScope st) .none kV doc pm an cdv ct) ⟨us, []⟩ = pure (ps.zip us)) (len : ∀ vs H Q E, sp vs H Q E → vs.length = ps.length)
    (hbody : ∀ (f : Addr) (cdv : Value) (A : Around) (outer : List Env) (s : Shared) (H : Hp) (vs : List V) (Q : VK) (E : XK), Room k (A.deeper (envOfC q (defScope st) s.heap.objs.size f cdv)) → sp vs H Q E →
      ∃ t, PSs (cxOf CX0 P w K mg base N q (defScope st) f cdv A outer s H E).nox (defBody st) t ∧ t { nx := fun _ H' => Q .non H', rt := Q } (start N vs) H) : CalleeM P w K mg base CX0 (k + 1) C m ps sp := by
  obtain ⟨f, fd, hF, hg⟩ := F
  refine ⟨f, fd, hF.ok S len fun cdv A outer s H vs Q E hr hsp => ?_, hg, hF.bindsN hb⟩
  obtain ⟨t, h, q⟩ := hbody f cdv A outer s H vs Q E hr hsp
  exact ⟨t, h.nox, q⟩
theorem DefI.ok {q : Str} {st : Stmt} {N ps : List Str} {k : Nat} {sp : Sp} (F : DefI K C q st) (S : FnScope N ps (defScope st))
    (hb : ∀ (kV doc pm : Value) (an : Option Addr) (cdv ct : Value) (us : List Value), us.length = ps.length → bindArgs (PySem.W.fnOf "__init__" q (defArgs st) (defBody st) (defScope st) .none kV doc pm an cdv ct) ⟨us, []⟩ = pure (ps.zip us)) (len : ∀ vs H Q E, sp vs H Q E → vs.length = ps.length)
    (hbody : ∀ (f : Addr) (cdv : Value) (A : Around) (outer : List Env) (s : Shared) (H : Hp) (vs : List V) (Q : VK) (E : XK), Room k (A.deeper (envOfC q (defScope st) s.heap.objs.size f cdv)) → sp vs H Q E →
      ∃ t, PSs (cxOf CX0 P w K mg base N q (defScope st) f cdv A outer s H E).nox (defBody st) t ∧ t { nx := fun _ H' => Q .non H', rt := Q } (start N vs) H) : CalleeI P w K mg base CX0 (k + 1) C ps sp := by
  obtain ⟨f, fd, hF, hg⟩ := F
  refine ⟨f, fd, hF.ok S len fun cdv A outer s H vs Q E hr hsp => ?_, hg, hF.bindsN hb⟩
  obtain ⟨t, h, q⟩ := hbody f cdv A outer s H vs Q E hr hsp
  exact ⟨t, h.nox, q⟩
end
section
variable {X : Cx} {K : PySem.W.Frag} {e o : Expr} {es : List Expr} {t : TA} {ta tv : TE} {p pos apos : Pos} {C : Addr} {k : Nat} {ps : List Str} {sp : Sp}
theorem pe_makeC {x : Str} (c : CalleeI X.prog X.w X.K X.mg X.base CX0 k C ps sp) (hm : X.mg x = some (.ref C)) (hr : Room (k + 1) X.A) (hg : Gl X x) (ha : PA X (e :: es) t)
    (hdb : (x == ("__debug__" : Str)) = false := by decide) (he : starEach (e :: es) X.env = (false, eval e X.env) :: starEach es X.env := by rfl) (hpl : (backTo pos (starEach es X.env)).any (·.1) = false := by rfl) : PE X (.Call (.Name x p) (e :: es) [] pos) (tMake C sp [] E0 t) := by
  obtain ⟨f, fd, F, M, hb⟩ := c
  exact pe_make M F hr hg hm hb .nil pass0 ha hdb he hpl
theorem pe_methC {m : Str} {pl : Sem Bool} (c : CalleeM X.prog X.w X.K X.mg X.base CX0 k C m ps sp) (cls : Cls X.K C) (he : PE X o ta) (hr : Room k X.A) (ha : PA X (e :: es) t)
    (hst : starEach (e :: es) X.env = (false, eval e X.env) :: starEach es X.env := by rfl) (hpl : (backTo pos (starEach es X.env)).any (·.1) = false := by rfl)
    (ht : eval (.Call (.Attribute o m apos) (e :: es) [] pos) X.env = (do
      let ov ← eval o X.env
      standAt apos.atName
      let (f, first) ← holding [ov] (getMethod ov m pl)
      callWith pos f first (backTo pos (starEach (e :: es) X.env)) (backToKw pos (keywordEach [] X.env))) := by rfl) : PE X (.Call (.Attribute o m apos) (e :: es) [] pos) (tMeth C m sp [] E0 ta t) := by
  obtain ⟨f, fd, F, M, hb⟩ := c
  exact pe_meth he cls M F hr hb .nil pass0 ha hst hpl ht
theorem ks_fld {f : Str} {pos' : Pos} {value : Expr} (h : X.K = K) (ha : PE X o ta) (hv : PE X value tv) (hs : swapsWith value (some (.Attribute o f pos')) pos.line X.env = pure false) : PS X (.Assign [.Attribute o f pos'] value pos) (sFld K ta tv f) := by subst h; exact ps_fld ha hv hs
end
/-! ### what is evaluated -/
section
variable {K : PySem.W.Frag} {σ : L2.St} {H H' : Hp} {te tv : TE} {ta : TA} {C : Addr} {fs : List (Str × V)} {f m : Str} {v : V} {R : V → Hp → Prop} {d : PyData} {ds : List PyData} {sp : Sp}
/-- an instance with these fields -/
def IsIns (C : Addr) (fs : List (Str × V)) : V → Hp → Prop := fun v H => ∃ a dx, v = .ref a ∧ H a = some (.ins C dx fs)
theorem mIns : Mon (IsIns C fs) := fun _ _ _ e ⟨a, dx, h1, h2⟩ => ⟨a, dx, h1, e _ _ h2⟩
theorem ex_fld (cls : Cls K C) (na : NoAttr K C f) (h : EvX te σ H (IsIns C fs)) (hl : fs.lookup f = some v) (hR : ∀ H1, Ex H H1 → R v H1) : EvX (tFld K te f) σ H R := fun H1 e Q q => h H1 e _ fun x H2 e2 ⟨a, dx, h1, h2⟩ =>
  ⟨a, C, dx, fs, v, h1, h2, cls, na, hl, q v H2 e2 (hR H2 (e.trans e2))⟩
theorem ei_meth (h : EvX te σ H (IsIns C fs)) (hl : fs.lookup m = none) {P : List V → Hp → Prop} {pre : List V → Hp → PyData → Prop} (ha : EvAX ta σ H P) (hp : ∀ x vs H1, Ex H H1 → IsIns C fs x H1 → P vs H1 → pre (x :: vs) H1 d) : EvI K (tMeth C m (PrI K pre) [] E0 te ta) σ H d := fun H1 e Q q =>
  h H1 e _ fun x H2 e2 hx => by
    obtain ⟨a, dx, h1, h2⟩ := id hx
    refine ⟨a, dx, fs, h1, h2, hl, ha H2 (e.trans e2) _ fun vs H3 e3 hP => ?_⟩
    rw [List.append_nil]
    exact ⟨d, hp x vs H3 (e.trans (e2.trans e3)) (mIns _ _ _ e3 hx) hP, fun v H4 e4 r => q v H4 (e2.trans (e3.trans e4)) r⟩
/-- all but the cell x stays -/
abbrev Kp (x : Addr) (H H' : Hp) : Prop := ∀ a o, a ≠ x → H a = some o → H' a = some o
theorem Kp.st {x : Addr} {H H0 H1 : Hp} {o : HO} (k : Kp x H H0) (e : Ex H0 H1) : Kp x H (upd H1 x o) := fun a u ne h => by
  rw [upd_ne ne]; exact e _ _ (k a u ne h)
/-- a maker that keeps what it is given -/
def spIni (C : Addr) (names : List Str) : Sp := fun vs H Q _ => ∃ x dx us, vs = .ref x :: us ∧ us.length = names.length ∧ H x = some (.ins C dx []) ∧ ∀ H', Kp x H H' → H' x = some (.ins C dx (names.zip us)) → Q .non H'
/-- a list copied into the field smalls, the rest kept -/
def spIniL (K : PySem.W.Frag) (C : Addr) (more : List Str) : Sp := fun vs H Q _ => ∃ x dx v ds rest, vs = .ref x :: v :: rest ∧ rest.length = more.length ∧ H x = some (.ins C dx []) ∧ Ls K H v ds ∧
  ∀ p xs H', H p = none → Kp x H H' → H' p = some (.lst xs) → ImAll K H' xs ds → H' x = some (.ins C dx (("smalls", .ref p) :: more.zip rest)) → Q .non H'
theorem ex_make {names : List Str} {P : List V → Hp → Prop} (ha : EvAX ta σ H P) (hn : ∀ vs H1, P vs H1 → vs.length = names.length) (hR : ∀ vs H1 v, Ex H H1 → (∃ H0, P vs H0 ∧ Ex H0 H1) → IsIns C (names.zip vs) v H1 → R v H1) : EvX (tMake C (spIni C names) [] E0 ta) σ H R := fun H1 e Q q =>
  ha H1 e _ fun vs H2 e2 hP x dx hx hdx ne => by
    rw [List.append_nil]
    have n1 : upd H2 dx (.own x) x = none := by rw [upd_ne (Ne.symm ne)]; exact hx
    have e3 : Ex H2 (upd (upd H2 dx (.own x)) x (.ins C dx [])) := (Ex.new hdx).trans (Ex.new n1)
    refine ⟨x, dx, vs, rfl, hn vs H2 hP, upd_same, fun H' keep h3 => ?_⟩
    have e4 : Ex H2 H' := fun a o h => keep a o (fun eq => by subst eq; rw [hx] at h; cases h) (e3 a o h)
    exact ⟨rfl, q _ _ (e2.trans e4) (hR vs _ _ (e.trans (e2.trans e4)) ⟨H2, hP, e4⟩ ⟨x, dx, rfl, h3⟩)⟩
theorem ex_makeL {more : List Str} {P : List V → Hp → Prop} (ha : EvAX ta σ H P) (hn : ∀ vs H1, P vs H1 → ∃ v rest, vs = v :: rest ∧ rest.length = more.length ∧ Ls K H1 v ds)
    (hR : ∀ v rest H1 x dx p, Ex H H1 → (∃ H0, P (v :: rest) H0 ∧ Ex H0 H1) → H1 x = some (.ins C dx (("smalls", .ref p) :: more.zip rest)) → H x = none → Grow K H H1 p ds → R (.ref x) H1) : EvX (tMake C (spIniL K C more) [] E0 ta) σ H R := fun H1 e Q q =>
  ha H1 e _ fun vs H2 e2 hP x dx hx hdx ne => by
    rw [List.append_nil]
    obtain ⟨v, rest, rfl, hr, hv⟩ := hn vs H2 hP
    have n1 : upd H2 dx (.own x) x = none := by rw [upd_ne (Ne.symm ne)]; exact hx
    have e3 : Ex H2 (upd (upd H2 dx (.own x)) x (.ins C dx [])) := (Ex.new hdx).trans (Ex.new n1)
    refine ⟨x, dx, v, ds, rest, rfl, hr, upd_same, hv.mono e3, fun p xs H' hp keep h1 h2 h3 => ?_⟩
    have e4 : Ex H2 H' := fun a o h => keep a o (fun eq => by subst eq; rw [hx] at h; cases h) (e3 a o h)
    have e5 : Ex H H' := e.trans (e2.trans e4)
    exact ⟨rfl, q _ _ (e2.trans e4) (hR v rest H' x dx p e5 ⟨H2, hP, e4⟩ h3 (fresh_back (e.trans e2) hx) ⟨fresh_back (e.trans (e2.trans e3)) hp, e5, xs, h1, h2⟩)⟩
end
/-! ### statements -/
section
variable {K : PySem.W.Frag} {σ : L2.St} {H H' : Hp} {to tv : TE} {C : Addr} {fs : List (Str × V)} {f : Str} {R : V → Hp → Prop} {D : Ends} {tz : TS}
theorem y_fld {a dx : Addr} {i : Nat} (v : V) (fs' : List (Str × V)) (hf : putF f v fs = fs') (cls : Cls K C) (na : NoAttr K C f) (hs : σ[i]? = some (some (.ref a))) (hi : H a = some (.ins C dx fs)) (hl : fs.length < 1000) (hv : EvV tv σ H v) (k : ∀ H1, Ex H H1 → tz D σ (upd H1 a (.ins C dx fs'))) : tSeq (sFld K (tVar i) tv f) tz D σ H :=
  hv H (Ex.refl H) _ fun u H1 e1 hu => by
    subst hu hf
    exact ⟨_, hs, a, C, dx, fs, rfl, e1 _ _ hi, cls, na, hl, k H1 e1⟩
theorem y_fldN {a dx : Addr} {i : Nat} {ds : List PyData} (fs' : V → List (Str × V)) (hf : ∀ v, putF f v fs = fs' v) (cls : Cls K C) (na : NoAttr K C f) (hs : σ[i]? = some (some (.ref a))) (hi : H a = some (.ins C dx fs)) (hl : fs.length < 1000) (hv : EvN K tv σ H ds)
    (k : ∀ p xs H1, H p = none → Ex H H1 → H1 p = some (.lst xs) → ImAll K H1 xs ds → tz D σ (upd H1 a (.ins C dx (fs' (.ref p))))) : tSeq (sFld K (tVar i) tv f) tz D σ H :=
  hv H (Ex.refl H) _ fun p xs H1 hp e1 h1 h2 => ⟨_, hs, a, C, dx, fs, rfl, e1 _ _ hi, cls, na, hl, by rw [hf]; exact k p xs H1 hp e1 h1 h2⟩
theorem sqT_ins {a l dx : Addr} {xs : List V} {o : HO} (hl : H l = some (.ins C dx fs)) (h : SqT K H a xs) : SqT K (upd H l o) a xs := by
  rcases h with h | h
  · refine .inl ?_
    have ne : a ≠ l := by
      rintro rfl
      rcases h with h | ⟨o', h⟩ <;> rw [hl] at h <;> cases h
    rcases h with h | ⟨o', h⟩
    · exact .inl (by rw [upd_ne ne]; exact h)
    · exact .inr ⟨o', by rw [upd_ne ne]; exact h⟩
  · exact .inr h
theorem ImAll.wrI {ds : List PyData} {vs : List V} {l dx : Addr} {o : HO} (hl : H l = some (.ins C dx fs)) (h : ImAll K H vs ds) : ImAll K (upd H l o) vs ds := ImAll.carry (fun _ _ q => sqT_ins hl q) ds vs h
end
section
variable {K : PySem.W.Frag} {σ : L2.St} {H H' : Hp} {te tb : TE} {ta tr : TA} {R : V → Hp → Prop} {d : PyData} {ds : List PyData} {D : Ends} {tz : TS} {P : List V → Hp → Prop}
theorem ex_lst (h : EvAX ta σ H P) (hl : ∀ vs H1, P vs H1 → vs.length ≤ 100000) (hR : ∀ vs p H1, Ex H H1 → H p = none → H1 p = some (.lst vs) → (∃ H0, P vs H0 ∧ Ex H0 H1) → R (.ref p) H1) : EvX (tLst ta) σ H R := fun H1 e Q q =>
  h H1 e _ fun vs H2 e2 hP => ⟨sz_of (hl vs H2 hP), fun p hp => q _ _ (e2.trans (Ex.new hp)) (hR vs p _ (e.trans (e2.trans (Ex.new hp))) (fresh_back (e.trans e2) hp) upd_same ⟨H2, hP, Ex.new hp⟩)⟩
/-- data of any kind, an argument list of it -/
abbrev EvAD (K : PySem.W.Frag) (ta : TA) (σ : L2.St) (H : Hp) (ds : List PyData) : Prop := EvAX ta σ H fun vs H1 => DpAll K H1 vs ds
theorem ead_nil : EvAD K tNil σ H [] := fun H1 _ _ q => q [] H1 (Ex.refl H1) .nil
theorem ead_cons (h : EvD K te σ H d) (hr : EvAD K tr σ H ds) : EvAD K (tCons te tr) σ H (d :: ds) := fun H1 e _ q =>
  h H1 e _ fun v H2 e2 r => hr H2 (e.trans e2) _ fun vs H3 e3 r2 => q _ H3 (e2.trans e3) (.cons ((dp_mono e3).1 _ _ r) r2)
theorem dpall_len : ∀ {vs : List V} {ds : List PyData}, DpAll K H vs ds → vs.length = ds.length
  | _, _, .nil => rfl
  | _, _, .cons _ t => congrArg (· + 1) (dpall_len t)
theorem ed_lst (h : EvAD K ta σ H ds) (hl : ds.length ≤ 100000) : EvD K (tLst ta) σ H (.list ds) :=
  ex_lst h (fun vs H1 r => by rw [dpall_len r]; exact hl) fun vs p H1 e hp hx ⟨H0, r, e0⟩ => .lst (sq_of hx) ((dp_mono e0).2 _ _ r)
theorem ex_ixL {xs : List V} {i : Int} {v : V} (h : EvX te σ H fun u H1 => ∃ w, u = .ref w ∧ H1 w = some (.lst xs)) (hi : EvI K tb σ H (.int i)) (ha : atI xs i = some v) (hR : ∀ H1, Ex H H1 → R v H1) : EvX (tOp (rIxL K) te tb) σ H R := fun H1 e Q q =>
  h H1 e _ fun u H2 e2 ⟨w, h1, h2⟩ => hi H2 (e.trans e2) _ fun y H3 e3 r => by
    cases r
    exact ⟨w, xs, i, v, h1, rfl, sq_of (e3 _ _ h2), ha, q v H3 (e2.trans e3) (hR H3 (e.trans (e2.trans e3)))⟩
/-- l.append(e): and every other cell stays -/
theorem x_appR {H0 : Hp} {l : Addr} (g : Grow K H0 H l ds) (ha : EvV te σ H (.ref l)) (h : EvI K tb σ H d) (hz : ds.length < 100000) (k : ∀ H1, Grow K H0 H1 l (ds ++ [d]) → (∀ m es, m ≠ l → Grow K H0 H m es → Grow K H0 H1 m es) → Kp l H H1 → tz D σ H1) :
    tSeq (tDrop (tBM K "list" rAppend te (tCons tb tNil))) tz D σ H := ha H (Ex.refl H) _ fun u H1 e1 hu => by
  subst hu
  obtain ⟨xs1, g3, g4⟩ := (g.go e1).has
  refine ⟨.inl ⟨rfl, xs1, sq_of g3⟩, h H1 e1 _ fun w H2 e2 hw => ?_⟩
  obtain ⟨xs, g5, g6⟩ := (g.go (e1.trans e2)).has
  refine ⟨l, xs, w, rfl, rfl, g5, sz_lt (by rw [g6.length]; exact hz), k _ ((g.go (e1.trans e2)).app g5 g6 hw) (fun m es hm gm => (gm.go (e1.trans e2)).other g5 g.fresh hm (es := [])) fun a o ne h => ?_⟩
  rw [upd_ne ne]; exact (e1.trans e2) _ _ h
end
end DWL
namespace DWL
open PySem PySem.Spec PyProof.Rows L2 Evl DW
section
variable {P : Program} {w : World} {K : PySem.W.Frag} {mg : Str → Option Value} {base : Heap}
local macro_rules | `(tactic| walk_at "v") => `(tactic| first | exact ei_int | exact ei_str | exact ei_bl | exact ei_non | exact ei_neg ei_int | exact ei_var rfl (Im.int _) | exact ei_var rfl (Im.str _) | exact ei_var rfl (Im.bl _) | exact ei_var rfl (by assumption) | exact et_len rfl (by assumption))
local macro_rules | `(tactic| walk_at "e") => `(tactic| first | walk_at "v" | (apply ei_I0i <;> walk_at "e") | (apply ei_I0b <;> walk_at "e") | (apply ei_chainI <;> walk_at "e") | (apply ei_eqI <;> walk_at "e") | (apply ei_eqS <;> walk_at "e") | (refine' ei_tup ?_ (Nat.le_of_ble_eq_true rfl) <;> walk_at "e") | (apply eai_cons <;> walk_at "e") | exact eai_nil)

/-! ### the answers' own looks -/
def isFull (n : Nat) (c : Nat → Nat → Nat) (r p u : Int) : Bool := isSmB n r p u && decide (tnS c (r.toNat, p.toNat, u.toNat) ≠ 0)
theorem isSmB_to {n : Nat} {r p u : Int} (h : isSmB n r p u = true) : ∃ s : Sm, IsSm n s ∧ r = (s.1 : Int) ∧ p = (s.2.1 : Int) ∧ u = (s.2.2 : Int) := by
  unfold isSmB at h
  split at h
  · simp only [Bool.and_eq_true, decide_eq_true_eq] at h
    refine ⟨(r.toNat, p.toNat, u.toNat), .inl ⟨?_, ?_⟩, ?_, ?_, ?_⟩ <;> dsimp only <;> omega
  · simp only [Bool.and_eq_true, decide_eq_true_eq] at h
    refine ⟨(r.toNat, p.toNat, u.toNat), .inr ⟨?_, ?_⟩, ?_, ?_, ?_⟩ <;> dsimp only <;> omega
theorem isFull_sm {n : Nat} {c : Nat → Nat → Nat} {s : Sm} (h : isSmB n s.1 s.2.1 s.2.2 = true) : isFull n c s.1 s.2.1 s.2.2 = decide (tnS c s ≠ 0) := by
  unfold isFull; rw [h]; simp
theorem isSpB_to {n : Nat} {r p : Int} (h : isSpB n r p = true) : ∃ i j : Nat, i + j < n ∧ r = (i : Int) ∧ p = (j : Int) := by
  unfold isSpB at h
  simp only [Bool.and_eq_true, decide_eq_true_eq] at h
  exact ⟨r.toNat, p.toNat, by omega, by omega, by omega⟩
/-- the letters barred at a spot -/
def barL (n : Nat) (r p : Int) : List Nat := (if r = 0 then [99] else []) ++ (if p = 0 then [98] else []) ++ (if r + p = (n : Int) - 1 then [97] else [])
def breaksB (n : Nat) (c : Nat → Nat → Nat) (r p : Int) : Bool := isSpB n r p && decide (c r.toNat p.toNat ∈ barL n r p)
def preBarred (K : PySem.W.Frag) : List V → Hp → PyData → Prop := fun vs H d => ∃ t n c r p, vs = [t, .int r, .int p] ∧ Tri K H t n c ∧ d = .str (st (barL n r p))
theorem inL {c : Nat} {l : List Nat} : (decide (c ∈ (st l).cps.toList)) = decide (c ∈ l) := by rw [st_list]
theorem sgn_eq (x : Nat) (y : Nat) : decide ((⟨#[x]⟩ : Str) = ⟨#[y]⟩) = decide (x = y) := by
  by_cases h : x = y
  · subst h; simp
  · rw [decide_eq_false h, decide_eq_false (fun e => h (sign_inj.mp e))]
def preLawBreaks (K : PySem.W.Frag) : List V → Hp → PyData → Prop := fun vs H d => ∃ t n c r p, vs = [t, .int r, .int p] ∧ Tri K H t n c ∧ d = .bool (breaksB n c r p)
theorem breaks_eq {n : Nat} {c : Nat → Nat → Nat} {i j : Nat} (h : i + j < n) : breaksB n c i j = ((decide (c i j = 99) && decide (((i : Nat) : Int) = 0)) || (decide (c i j = 98) && decide (((j : Nat) : Int) = 0)) || (decide (c i j = 97) && decide (((j : Nat) : Int) = ((n - i : Nat) : Int) - 1))) := by
  have hs : isSpB n i j = true := by
    unfold isSpB
    simp only [Bool.and_eq_true, decide_eq_true_eq]
    omega
  unfold breaksB
  rw [hs, Bool.true_and, Int.toNat_natCast, Int.toNat_natCast]
  rw [Bool.eq_iff_iff]
  simp only [Bool.or_eq_true, Bool.and_eq_true, decide_eq_true_eq]
  unfold barL
  constructor
  · intro hm
    rcases List.mem_append.mp hm with hm | hm
    · rcases List.mem_append.mp hm with hm | hm
      · split at hm
        · simp at hm; exact .inl (.inl ⟨hm, by assumption⟩)
        · simp at hm
      · split at hm
        · simp at hm; exact .inl (.inr ⟨hm, by assumption⟩)
        · simp at hm
    · split at hm
      · simp at hm; exact .inr ⟨hm, by omega⟩
      · simp at hm
  · rintro ((⟨h1, h2⟩ | ⟨h1, h2⟩) | ⟨h1, h2⟩)
    · rw [if_pos h2, h1]; simp
    · rw [if_pos h2, h1]; simp
    · rw [if_pos (show (i : Int) + (j : Int) = (n : Int) - 1 by omega), h1]; simp
/-! ### Full, Breaks -/
def fldFull (r p u : Int) : List (Str × V) := [("row", .int r), ("place", .int p), ("up", .int u)]
def fldBreaks (r p : Int) : List (Str × V) := [("row", .int r), ("place", .int p)]
def preFullShows (K : PySem.W.Frag) (C : Addr) : List V → Hp → PyData → Prop := fun vs H d => ∃ x t n c r p u, vs = [x, t] ∧ IsIns C (fldFull r p u) x H ∧ Tri K H t n c ∧ d = .bool (isFull n c r p u)
def preBreaksShows (K : PySem.W.Frag) (C : Addr) : List V → Hp → PyData → Prop := fun vs H d => ∃ x t n c r p, vs = [x, t] ∧ IsIns C (fldBreaks r p) x H ∧ Tri K H t n c ∧ d = .bool (breaksB n c r p)
/-- what is known of a class -/
structure ClsOk (K : PySem.W.Frag) (C : Addr) (fs : List Str) : Prop where
  cls : Cls K C
  na : ∀ f ∈ fs, NoAttr K C f
section
variable {CF CB CE CO : Addr}
/-- Full(one, other, up) -/
theorem ex_full {ta tb tc : TE} {σ : L2.St} {H : Hp} {a b u : Int} (h1 : EvI K ta σ H (.int a)) (h2 : EvI K tb σ H (.int b)) (h3 : EvI K tc σ H (.int u)) : EvX (tMake CF (spIni CF ["row", "place", "up"]) [] E0 (tCons ta (tCons tb (tCons tc tNil)))) σ H (IsIns CF (fldFull a b u)) := by
  refine ex_make (eax3 h1 mI h2 mI h3) ?_ ?_
  · rintro vs H1 ⟨x, y, z, rfl, _⟩; rfl
  · rintro vs H1 v e ⟨H0, ⟨x, y, z, rfl, q1, q2, q3⟩, e0⟩ hv
    cases q1; cases q2; cases q3
    exact hv
theorem ex_breaks {ta tb : TE} {σ : L2.St} {H : Hp} {a b : Int} (h1 : EvI K ta σ H (.int a)) (h2 : EvI K tb σ H (.int b)) : EvX (tMake CB (spIni CB ["row", "place"]) [] E0 (tCons ta (tCons tb tNil))) σ H (IsIns CB (fldBreaks a b)) := by
  refine ex_make (eax2 h1 mI h2) ?_ ?_
  · rintro vs H1 ⟨x, y, rfl, _⟩; rfl
  · rintro vs H1 v e ⟨H0, ⟨x, y, rfl, q1, q2⟩, e0⟩ hv
    cases q1; cases q2
    exact hv
theorem ei_fullShows {te tt : TE} {σ : L2.St} {H : Hp} {a b u : Int} {n : Nat} {c : Nat → Nat → Nat} (h : EvX te σ H (IsIns CF (fldFull a b u))) (ht : EvX tt σ H fun v H1 => Tri K H1 v n c) : EvI K (tMeth CF "shows" (PrI K (preFullShows K CF)) [] E0 te (tCons tt tNil)) σ H (.bool (isFull n c a b u)) := by
  refine ei_meth h rfl (eax1 ht) ?_
  rintro x vs H1 e hx ⟨t, rfl, hT⟩
  exact ⟨x, t, n, c, a, b, u, rfl, hx, hT, rfl⟩
theorem ei_breaksShows {te tt : TE} {σ : L2.St} {H : Hp} {a b : Int} {n : Nat} {c : Nat → Nat → Nat} (h : EvX te σ H (IsIns CB (fldBreaks a b))) (ht : EvX tt σ H fun v H1 => Tri K H1 v n c) : EvI K (tMeth CB "shows" (PrI K (preBreaksShows K CB)) [] E0 te (tCons tt tNil)) σ H (.bool (breaksB n c a b)) := by
  refine ei_meth h rfl (eax1 ht) ?_
  rintro x vs H1 e hx ⟨t, rfl, hT⟩
  exact ⟨x, t, n, c, a, b, rfl, hx, hT, rfl⟩
/-! ### Ended, Out -/
abbrev s_Ended___init__ : Stmt := inClass (top 24) 0
theorem sc_Ended___init__ : FnScope ["self", "smalls"] ["self", "smalls"] (defScope s_Ended___init__) := ⟨rfl, rfl, rfl, by decide +kernel, rfl, by decide +kernel, by decide +kernel⟩
theorem ok_Ended_init (D : DefI K CE "Ended.__init__" s_Ended___init__) (k_Ended : ClsOk K CE ["smalls"]) (m_list : mg "list" = none) : CalleeI P w K mg base CX0 1 CE ["self", "smalls"] (spIniL K CE []) := by
  refine D.ok sc_Ended___init__ (fun _ _ _ _ _ _ us hl => match us, hl with | [_, _], _ => rfl) (fun vs H Q E h => ?_) (fun f cdv A outer s H vs Q E hr h => ?_)
  · obtain ⟨x, dx, v, ds, rest, rfl, hl, _⟩ := h
    rw [List.length_cons, List.length_cons, hl]; rfl
  · obtain ⟨x, dx, v, ds, rest, rfl, hl, hx, hS, q⟩ := h
    obtain rfl : rest = [] := List.length_eq_zero_iff.mp hl
    refine ⟨_, (pss_cons (ks_fld (K := K) rfl (pv 0) (pe_callTy (kr_list (K := K) rfl) (by rfl) m_list (by decide +kernel) (pa_cons (pv 1) pa_nil)) rfl)
 pss_nil), ?_⟩
    have k0 : Kp x H H := fun _ _ _ h => h
    refine y_fldN (fun v => [("smalls", v)]) (fun _ => rfl) k_Ended.cls (k_Ended.na "smalls" (by decide)) rfl hx (Nat.le_of_ble_eq_true rfl) (en_listK (ek_var rfl hS)) ?_
    intro p xs H1 hp e1 h1 h2
    have ne : p ≠ x := by rintro rfl; rw [hx] at hp; cases hp
    exact q p xs _ hp (k0.st e1) (by rw [upd_ne ne]; exact h1) (h2.wrI (e1 _ _ hx)) upd_same
abbrev s_Out___init__ : Stmt := inClass (top 25) 0
theorem sc_Out___init__ : FnScope ["self", "smalls", "door"] ["self", "smalls", "door"] (defScope s_Out___init__) := ⟨rfl, rfl, rfl, by decide +kernel, rfl, by decide +kernel, by decide +kernel⟩
theorem ok_Out_init (D : DefI K CO "Out.__init__" s_Out___init__) (k_Out : ClsOk K CO ["smalls", "door"]) (m_list : mg "list" = none) : CalleeI P w K mg base CX0 1 CO ["self", "smalls", "door"] (spIniL K CO ["door"]) := by
  refine D.ok sc_Out___init__ (fun _ _ _ _ _ _ us hl => match us, hl with | [_, _, _], _ => rfl) (fun vs H Q E h => ?_) (fun f cdv A outer s H vs Q E hr h => ?_)
  · obtain ⟨x, dx, v, ds, rest, rfl, hl, _⟩ := h
    rw [List.length_cons, List.length_cons, hl]; rfl
  · obtain ⟨x, dx, v, ds, rest, rfl, hl, hx, hS, q⟩ := h
    obtain ⟨u, rfl⟩ : ∃ a, rest = [a] := by
      match rest, hl with
      | [a], _ => exact ⟨a, rfl⟩
    refine ⟨_, (pss_cons (ks_fld (K := K) rfl (pv 0) (pe_callTy (kr_list (K := K) rfl) (by rfl) m_list (by decide +kernel) (pa_cons (pv 1) pa_nil)) rfl)
 (pss_cons (ks_fld (K := K) rfl (pv 0) (pv 2) rfl)
 pss_nil)), ?_⟩
    have k0 : Kp x H H := fun _ _ _ h => h
    refine y_fldN (fun v => [("smalls", v)]) (fun _ => rfl) k_Out.cls (k_Out.na "smalls" (by decide)) rfl hx (Nat.le_of_ble_eq_true rfl) (en_listK (ek_var rfl hS)) ?_
    intro p xs H1 hp e1 h1 h2
    have ne : p ≠ x := by rintro rfl; rw [hx] at hp; cases hp
    have k1 := k0.st e1 (o := .ins CO dx [("smalls", .ref p)])
    refine y_fld u [("smalls", .ref p), ("door", u)] rfl k_Out.cls (k_Out.na "door" (by decide)) rfl upd_same (Nat.le_of_ble_eq_true rfl) (evv_var rfl) ?_
    intro H2 e2
    have h1' : (upd H1 x (.ins CO dx [("smalls", .ref p)])) p = some (.lst xs) := by rw [upd_ne ne]; exact h1
    refine q p xs _ hp (k1.st e2) (by rw [upd_ne ne]; exact e2 _ _ h1') (((h2.wrI (e1 _ _ hx)).mono e2).wrI (e2 _ _ upd_same)) upd_same
end
end
end DWL
/-! sorted of pairs of ints, any number of them -/
namespace Tr2
open PySem PySem.Spec PyProof.Rows Srt SrtO
abbrev I2 := Int × Int
def before (p q : I2) : Bool := decide (p.1 < q.1 ∨ (p.1 = q.1 ∧ p.2 < q.2))
theorem before_swo {α : Type} (key : α → I2) : Swo fun v u => before (key v) (key u) := by
  constructor
  · intro v u h
    have h1 := of_decide_eq_true h
    exact decide_eq_false (by omega)
  · intro v u z h h'
    have h1 := of_decide_eq_false h
    have h2 := of_decide_eq_false h'
    exact decide_eq_false (by omega)
/-- at v a tuple of the three -/
def At2 (h : Heap) (v : Value) (k : I2) : Prop := ∃ b ob t1 t2 m, v = .ref b ∧ h.get? b = some ob ∧ ob.cls = .type "tuple" ∧ ob.data = .seq #[.int k.1 t1, .int k.2 t2] m
theorem At2.carry {h g : Heap} {v : Value} {k : I2} (x : At2 h v k) (st : ∀ b ob, h.get? b = some ob → ob.cls = .type "tuple" → g.get? b = some ob) : At2 g v k := by
  obtain ⟨b, ob, t1, t2, m, x1, x2, x3, x4⟩ := x
  exact ⟨b, ob, t1, t2, m, x1, st b ob x2 x3, x3, x4⟩
theorem heads {h : Heap} {key : Value → I2} : ∀ {l : List Value}, (∀ v ∈ l, At2 h v (key v)) → ∃ fs : List Value, PySem.W.KatTups h l fs ∧ fs.length = l.length ∧ ∀ z ∈ fs, ∃ i t, z = Value.int i t
  | [], _ => ⟨[], .nil, rfl, fun _ z => absurd z (by simp)⟩
  | v :: l, x => by
    obtain ⟨b, ob, t1, t2, m, x1, x2, x3, x4⟩ := x v List.mem_cons_self
    obtain ⟨fs, y1, y2, y3⟩ := heads (l := l) fun u hu => x u (List.mem_cons_of_mem _ hu)
    rw [x1]
    refine ⟨.int (key v).1 t1 :: fs, PySem.W.KatTups.cons x2 x3 x4 rfl y1, by simp [y2], fun z hz => ?_⟩
    rcases List.mem_cons.mp hz with e | hz
    · exact ⟨_, _, e⟩
    · exact y3 z hz
section
variable {prog : Program} {w : World} {A : Around} {E : Value → Shared → Prop} {s : Shared}
theorem cmp2 {l : List Value} {key : Value → I2} (x : ∀ v ∈ l, At2 s.heap v (key v)) : Cmp prog w A s (tuples' true) (fun p => p.1 ∈ l) (lt2 fun v u => before (key v) (key u)) := by
  intro p q hp hq
  have xp := x _ hp
  have xq := x _ hq
  show wpAny (model prog w) A (keyLt' (tuples' true) p.1 q.1) (fun r z => z = s ∧ r = before (key p.1) (key q.1)) (fun _ _ => False) s
  revert xp xq
  generalize key p.1 = k
  generalize key q.1 = k'
  intro xp xq
  obtain ⟨k1, k2⟩ := k
  obtain ⟨j1, j2⟩ := k'
  obtain ⟨b, ob, t1, t2, m, x1, x2, x3, x4⟩ := xp
  obtain ⟨b', ob', u1, u2, m', y1, y2, y3, y4⟩ := xq
  rw [x1, y1]
  refine PySem.W.kat_lt x2 x4 y2 y4 ?_
  show PySem.W.KatLex prog w A true (decide (2 < 2)) _ [(.int k1 t1, .int j1 u1), (.int k2 t2, .int j2 u2)] 0 s
  refine PySem.W.kat_cons (SeqAt.EqAt.int_int k1 t1 j1 u1 prog w _ _ ?_)
  refine PySem.W.kat_go (fun a1 => ?_) (fun a1 => ?_)
  · have a1 : k1 = j1 := by simpa using a1
    refine PySem.W.kat_yes (PySem.W.kat_cons (SeqAt.EqAt.int_int k2 t2 j2 u2 prog w _ _ ?_))
    refine PySem.W.kat_go (fun a2 => ?_) (fun a2 => ?_)
    · have a2 : k2 = j2 := by simpa using a2
      refine PySem.W.kat_yes (PySem.W.kat_nil ⟨rfl, ?_⟩)
      subst a1 a2
      exact (decide_eq_false (by dsimp only; omega)).symm
    · have a2 : ¬ k2 = j2 := by simpa using a2
      refine PySem.W.kat_no (PySem.W.kat_one _ _ (PyProof.Rows.lt_int ?_))
      refine (show s = s ∧ decide (k2 < j2) = before (k1, k2) (j1, j2) from ⟨rfl, ?_⟩)
      unfold before
      dsimp only
      exact decide_eq_decide.mpr (by omega)
  · have a1 : ¬ k1 = j1 := by simpa using a1
    refine PySem.W.kat_no (oneLt_int ⟨rfl, ?_⟩)
    unfold before
    dsimp only
    exact decide_eq_decide.mpr (by omega)
theorem able2 {a : Addr} {l : List Value} {key : Value → I2} (n0 : 0 < l.length) (x : ∀ v ∈ l, At2 s.heap v (key v)) (na : ∀ ob, s.heap.get? a = some ob → ob.cls ≠ .type "tuple") : SortableO prog w A s a l fun v u => before (key v) (key u) := by
  intro g st
  have x' : ∀ v ∈ l, At2 g v (key v) := fun v hv => (x v hv).carry fun b ob e c => st b ob (fun z => by rw [z] at e; exact na ob e c) e
  obtain ⟨fs, y1, y2, y3⟩ := heads x'
  refine ⟨tuples' true, fun Q E hQ => ?_, cmp2 x'⟩
  refine PySem.W.kat_kind (T := .type "int") y1 (by rw [y2]; exact n0) (fun z hz => ?_) (by rfl) ?_
  · obtain ⟨i, t, e⟩ := y3 z hz
    rw [e]
    exact PySem.W.Looks.now
  · rw [show (Value.type "int" != Value.type "tuple") = true from rfl]
    exact hQ
end
end Tr2
namespace DWL
open PySem PySem.Spec PyProof.Rows L2 Evl Tr2
def tr2D (k : I2) : PyData := .tuple [.int k.1, .int k.2]
theorem at2_one {h : Heap} {v : Value} {k j : I2} (x : At2 h v k) (y : At2 h v j) : k = j := by
  obtain ⟨b, ob, t1, t2, m, x1, x2, _, x4⟩ := x
  obtain ⟨b', ob', u1, u2, m', y1, y2, _, y4⟩ := y
  rw [x1] at y1
  cases y1
  rw [x2] at y2
  cases y2
  rw [x4] at y4
  obtain ⟨k1, k2⟩ := k
  obtain ⟨j1, j2⟩ := j
  cases y4
  rfl
open Classical in
noncomputable def key2 (h : Heap) (v : Value) : I2 := if e : ∃ k, At2 h v k then e.choose else (0, 0)
theorem key2_is {h : Heap} {v : Value} {k : I2} (x : At2 h v k) : key2 h v = k := by
  unfold key2
  rw [dif_pos ⟨k, x⟩]
  exact at2_one (Exists.choose_spec (⟨k, x⟩ : ∃ k, At2 h v k)) x
/-- sorted(xs) of triples: a new list, rising, of the same things -/
def rSorted2 (K : PySem.W.Frag) : List V → Hp → VK → Prop := fun vs H Q => ∃ (a : Addr) (xs : List V) (ks : List I2), vs = [V.ref a] ∧ SqL K H a xs ∧ ImAll K H xs (ks.map tr2D) ∧
  ∀ (ys : List V) (js : List I2) (p : Addr), ImAll K H ys (js.map tr2D) → js.Pairwise (fun x y => before y x = false) → js.Perm ks → H p = none → Q (.ref p) (upd H p (.lst ys))
section
variable {X : Cx}
theorem at2_of {pins : List (Addr × Obj)} {σ : L2.St} {H : Hp} {s : Shared} (I : Inv X pins σ H s) : ∀ {xs : List V} {us : List Value} {ks : List I2}, Vals xs us → ImAll X.K H xs (ks.map tr2D) → us.length = ks.length ∧ ∀ (i : Nat) u k, us[i]? = some u → ks[i]? = some k → At2 s.heap u k ∧ ∃ b, u = .ref b ∧ Im X.K H (.ref b) (tr2D k)
  | [], _, [], .nil, _ => ⟨rfl, fun i u k h => by simp at h⟩
  | [], _, k :: ks, _, h => by cases h
  | x :: xs, _, [], _, h => by cases h
  | x :: xs, u :: us, k :: ks, .cons r rs, h => by
    cases h with
    | cons h1 h2 =>
      obtain ⟨y1, y2⟩ := at2_of I rs h2
      refine ⟨by simp [y1], fun i => ?_⟩
      cases i with
      | succ i => intro v j e1 e2; exact y2 i v j (by simpa using e1) (by simpa using e2)
      | zero =>
        intro v j e1 e2
        obtain rfl : u = v := by simpa using e1
        obtain rfl : k = j := by simpa using e2
        have h0 := h1
        obtain ⟨b, zs, rfl, g1, g2⟩ := h1.tup_inv
        obtain rfl : u = Value.ref b := r
        refine ⟨?_, b, rfl, h0⟩
        obtain ⟨its, rv, ⟨o, ho, hc, n, hd⟩, _⟩ := I.tuple g1
        cases g2 with
        | cons a1 g2 => cases g2 with
          | cons a2 g2 =>
            cases g2; cases a1; cases a2
            cases rv with
            | cons p1 rv => cases rv with
              | cons p2 rv =>
                cases rv
                obtain ⟨t1, rfl⟩ := p1
                obtain ⟨t2, rfl⟩ := p2
                exact ⟨b, o, t1, t2, n, rfl, ho, hc, hd⟩
theorem back2_of {H : Hp} {K : PySem.W.Frag} {key : Value → I2} : ∀ {us : List Value}, (∀ u ∈ us, ∃ b, u = .ref b ∧ Im K H (.ref b) (tr2D (key u))) → ImAll K H (us.map backV) ((us.map key).map tr2D)
  | [], _ => .nil
  | u :: us, h => by
    obtain ⟨b, e, i⟩ := h u List.mem_cons_self
    refine .cons ?_ (back2_of fun z hz => h z (List.mem_cons_of_mem _ hz))
    subst e
    exact i
theorem cr_sorted2 : CallR X (.builtin "sorted") (rSorted2 X.K) := by
  intro pins s σ H vs us Q I r h
  obtain ⟨a, xs, ks, rfl, hs, hx, q⟩ := h
  obtain ⟨its, rv, hl, hz⟩ := I.list hs
  obtain ⟨u, rfl, ru⟩ := vals1 r
  obtain rfl : u = Value.ref a := ru
  obtain ⟨len, all⟩ := at2_of I rv hx
  have mem : ∀ v ∈ its, ∃ k, At2 s.heap v k ∧ ∃ b, v = .ref b ∧ Im X.K H (.ref b) (tr2D k) := fun v hv => by
    obtain ⟨i, hi⟩ := List.mem_iff_getElem?.mp hv
    have hi' := (List.getElem?_eq_some_iff.mp hi).1
    exact ⟨_, all i v (ks[i]'(by omega)) hi (List.getElem?_eq_getElem (by omega))⟩
  have ek : its.map (key2 s.heap) = ks := by
    refine List.ext_getElem? fun i => ?_
    rw [List.getElem?_map]
    by_cases hi : i < its.length
    · obtain ⟨k1, _⟩ := all i its[i] (ks[i]'(by omega)) (List.getElem?_eq_getElem hi) (List.getElem?_eq_getElem (by omega))
      rw [List.getElem?_eq_getElem hi, List.getElem?_eq_getElem (by omega)]
      exact congrArg some (key2_is k1)
    · rw [List.getElem?_eq_none (by omega), List.getElem?_eq_none (by omega)]; rfl
  have x3 : ∀ v ∈ its, At2 s.heap v (key2 s.heap v) := fun v hv => by
    obtain ⟨k, k1, _⟩ := mem v hv
    rw [key2_is k1]; exact k1
  refine SrtO.sorted_ord (before_swo (key2 s.heap)) hl.isList (by rw [← rv.length]; exact hz) (fun h2 g b hb kk => able2 (s := { s with heap := g }) (by omega) (fun v hv => (x3 v hv).carry fun b ob e _ => (kk b ob e).2) fun o e => ?_) fun out h1 h2 => ?_
  · have e' : some o = some (seqObj "list" its.toArray 0) := e.symm.trans hb
    cases e'
    intro c
    exact absurd (Value.type.inj c) (by decide)
  · obtain ⟨n, hn⟩ := PyProof.Rows.sortedAll_at s.heap its out.toArray
    have m2 : ∀ u ∈ out, ∃ b, u = .ref b ∧ Im X.K H (.ref b) (tr2D (key2 s.heap u)) := fun u hu => by
      obtain ⟨k, k1, b, k2, k3⟩ := mem u (h2.perm.mem_iff.mp hu)
      exact ⟨b, k2, by rw [key2_is k1]; exact k3⟩
    have pm : (out.map (key2 s.heap)).Perm ks := by rw [← ek]; exact h2.perm.map _
    refine ⟨.ref _, upd H (s.heap.objs.size + 1) (.lst (out.map backV)), I.laid (t' := s.toks) (fun _ _ => PyProof.Rows.sortedAll_old) (Nat.le_succ _) ⟨?_, out, n, vals_back (fun u hu => (m2 u hu).imp fun b z => z.1), hn⟩, rfl, q _ _ _ (back2_of m2) (List.pairwise_map.mpr (h1.imp fun {x y} z => z)) pm (I.hok.fresh (Nat.le_succ _))⟩
    rw [List.length_map, h2.perm.length_eq, ← rv.length]
    exact hz
end
theorem kr_sorted2 {X : Cx} {K : PySem.W.Frag} (h : X.K = K) : CallR X (.builtin "sorted") (rSorted2 K) := by subst h; exact cr_sorted2
theorem en_sorted2 {K : PySem.W.Frag} {σ : L2.St} {H : Hp} {ta : TE} {ks : List I2} (js : List I2) (ha : EvK K ta σ H (ks.map tr2D)) (u : ∀ l : List I2, l.Pairwise (fun x y => before y x = false) → l.Perm ks → l = js) :
    EvN K (tCB (rSorted2 K) (tCons ta tNil)) σ H (js.map tr2D) := fun H1 e Q q => ha H1 e _ fun x H2 e2 r => by
  obtain ⟨a, xs, rfl, h1, h2⟩ := r
  refine ⟨a, xs, ks, rfl, h1, h2, fun ys l p g1 g2 g3 hp => ?_⟩
  have := u l g2 g3
  subst this
  exact q p ys _ (fresh_back e2 hp) (e2.trans (Ex.new hp)) upd_same (g1.mono (Ex.new hp))
end DWL
namespace DW
/-! walks -/
def ed3 (x y z e : Nat) : Int := if e = 0 then dl x y else if e = 1 then dl y z else dl z x
def ed (c : Nat → Nat → Nat) (s : Sm) (e : Nat) : Int := ed3 (l1 c s) (l2 c s) (l3 c s) e
theorem ed_cor (c : Nat → Nat → Nat) (s : Sm) {e : Nat} (h : e < 3) : ed c s e = dl (lt2 c (cor s e)) (lt2 c (cor s ((e + 1) % 3))) := by
  have : e = 0 ∨ e = 1 ∨ e = 2 := by omega
  rcases this with rfl | rfl | rfl
  · show _ = dl (lt2 c (cor s 0)) (lt2 c (cor s 1)); rw [lt_cor0, lt_cor1]; rfl
  · show _ = dl (lt2 c (cor s 1)) (lt2 c (cor s 2)); rw [lt_cor1, lt_cor2]; rfl
  · show _ = dl (lt2 c (cor s 2)) (lt2 c (cor s 0)); rw [lt_cor2, lt_cor0]; rfl
/-- the doors of a small triangle but one (3: of none) -/
def oth3 (x y z e : Nat) : List Nat := [0, 1, 2].filter fun a => decide (a ≠ e ∧ ed3 x y z a ≠ 0)
def others (c : Nat → Nat → Nat) (s : Sm) (e : Nat) : List Nat := oth3 (l1 c s) (l2 c s) (l3 c s) e
def out3 (x y z e : Nat) : Nat := (oth3 x y z e).headD 3
def outOf (c : Nat → Nat → Nat) (s : Sm) (e : Nat) : Nat := out3 (l1 c s) (l2 c s) (l3 c s) e
/-- what is so of three letters and a door that is one (or none, and all three letters) -/
def Fine3 (x y z e : Nat) : Prop := (e < 3 ∧ ed3 x y z e ≠ 0) ∨ (e = 3 ∧ tn x y z ≠ 0)
instance (x y z e : Nat) : Decidable (Fine3 x y z e) := by unfold Fine3; exact inferInstance
theorem fine3_all : ∀ x ∈ L3, ∀ y ∈ L3, ∀ z ∈ L3, ∀ e ∈ [0, 1, 2, 3], Fine3 x y z e →
    (oth3 x y z e = if out3 x y z e = 3 then [] else [out3 x y z e]) ∧ out3 x y z e ≤ 3 ∧ out3 x y z e ≠ e ∧ (∀ a ∈ [0, 1, 2], ed3 x y z a ≠ 0 ↔ a = e ∨ a = out3 x y z e) ∧
    (if e = 3 then - tn x y z else ed3 x y z e) = (if out3 x y z e = 3 then tn x y z else - ed3 x y z (out3 x y z e)) ∧ (tn x y z ≠ 0 ↔ e = 3 ∨ out3 x y z e = 3) := by decide
/-- a link: a small triangle, the door to come in by, the one to go out by (3: none) -/
structure Lk where
  s : Sm
  i : Nat
  o : Nat
structure LkOk (n : Nat) (c : Nat → Nat → Nat) (a : Lk) : Prop where
  sm : IsSm n a.s
  hi : a.i ≤ 3
  ho : a.o ≤ 3
  ne : a.i ≠ a.o
  dr : ∀ e, e < 3 → (ed c a.s e ≠ 0 ↔ e = a.i ∨ e = a.o)
theorem others_of {n : Nat} {c : Nat → Nat → Nat} {a : Lk} (h : LkOk n c a) : others c a.s a.i = if a.o = 3 then [] else [a.o] := by
  have h0 := h.dr 0 (by omega)
  have h1 := h.dr 1 (by omega)
  have h2 := h.dr 2 (by omega)
  have hi := h.hi
  have ho := h.ho
  have ne := h.ne
  unfold ed at h0 h1 h2
  unfold others oth3
  simp only [List.filter_cons, List.filter_nil, h0, h1, h2, decide_eq_true_eq]
  have e1 : a.i = 0 ∨ a.i = 1 ∨ a.i = 2 ∨ a.i = 3 := by omega
  have e2 : a.o = 0 ∨ a.o = 1 ∨ a.o = 2 ∨ a.o = 3 := by omega
  rcases e1 with e1 | e1 | e1 | e1 <;> rcases e2 with e2 | e2 | e2 | e2 <;> simp [e1, e2] at * 
theorem lk_full {n : Nat} {c : Nat → Nat → Nat} (hc : ∀ r p, ltr (c r p)) {a : Lk} (h : LkOk n c a) : (if a.i = 3 then - tnS c a.s else ed c a.s a.i) = (if a.o = 3 then tnS c a.s else - ed c a.s a.o) ∧ (tnS c a.s ≠ 0 ↔ a.i = 3 ∨ a.o = 3) := by
  have h0 := h.dr 0 (by omega)
  have h1 := h.dr 1 (by omega)
  have h2 := h.dr 2 (by omega)
  have hi := h.hi
  have ho := h.ho
  have ne := h.ne
  have et : tnS c a.s = ed c a.s 0 + ed c a.s 1 + ed c a.s 2 := tn_dl (by unfold l1; split <;> exact hc _ _) (by unfold l2; split <;> exact hc _ _) (hc _ _)
  have v0 : ed c a.s 0 = 0 ∨ ed c a.s 0 = 1 ∨ ed c a.s 0 = -1 := dl_vals _ _
  have v1 : ed c a.s 1 = 0 ∨ ed c a.s 1 = 1 ∨ ed c a.s 1 = -1 := dl_vals _ _
  have v2 : ed c a.s 2 = 0 ∨ ed c a.s 2 = 1 ∨ ed c a.s 2 = -1 := dl_vals _ _
  have key : ∀ x ∈ L3, ∀ y ∈ L3, ∀ z ∈ L3, (ed3 x y z 0 ≠ 0 → ed3 x y z 1 ≠ 0 → ed3 x y z 2 = 0 ∧ ed3 x y z 0 + ed3 x y z 1 = 0) ∧ (ed3 x y z 0 ≠ 0 → ed3 x y z 2 ≠ 0 → ed3 x y z 0 + ed3 x y z 2 = 0) ∧ (ed3 x y z 1 ≠ 0 → ed3 x y z 2 ≠ 0 → ed3 x y z 1 + ed3 x y z 2 = 0) := by decide
  obtain ⟨k1, k2, k3⟩ := key (l1 c a.s) (ltr_mem (by unfold l1; split <;> exact hc _ _)) (l2 c a.s) (ltr_mem (by unfold l2; split <;> exact hc _ _)) (l3 c a.s) (ltr_mem (hc _ _))
  change ed c a.s 0 ≠ 0 → ed c a.s 1 ≠ 0 → ed c a.s 2 = 0 ∧ ed c a.s 0 + ed c a.s 1 = 0 at k1
  change ed c a.s 0 ≠ 0 → ed c a.s 2 ≠ 0 → ed c a.s 0 + ed c a.s 2 = 0 at k2
  change ed c a.s 1 ≠ 0 → ed c a.s 2 ≠ 0 → ed c a.s 1 + ed c a.s 2 = 0 at k3
  have e1 : a.i = 0 ∨ a.i = 1 ∨ a.i = 2 ∨ a.i = 3 := by omega
  have e2 : a.o = 0 ∨ a.o = 1 ∨ a.o = 2 ∨ a.o = 3 := by omega
  rcases e1 with e1 | e1 | e1 | e1 <;> rcases e2 with e2 | e2 | e2 | e2 <;> simp only [e1, e2] at * <;> simp at * <;> simp_all <;> omega
def Fine (n : Nat) (c : Nat → Nat → Nat) (s : Sm) (e : Nat) : Prop := IsSm n s ∧ Fine3 (l1 c s) (l2 c s) (l3 c s) e
theorem fine_link {n : Nat} {c : Nat → Nat → Nat} (hc : ∀ r p, ltr (c r p)) {s : Sm} {e : Nat} (h : Fine n c s e) : LkOk n c ⟨s, e, outOf c s e⟩ := by
  obtain ⟨h1, h2⟩ := h
  have he : e ≤ 3 := by rcases h2 with ⟨h, _⟩ | ⟨h, _⟩ <;> omega
  obtain ⟨_, k2, k3, k4, _⟩ := fine3_all (l1 c s) (ltr_mem (by unfold l1; split <;> exact hc _ _)) (l2 c s) (ltr_mem (by unfold l2; split <;> exact hc _ _)) (l3 c s) (ltr_mem (hc _ _)) e (by simp; omega) h2
  exact ⟨h1, he, k2, Ne.symm k3, fun a ha => k4 a (by simp; omega)⟩

/-! the other side of a door -/
def beyond (n : Nat) (s : Sm) (e : Nat) : Sum (Sm × Nat) Nat :=
  if s.2.2 = 0 then (if e = 0 then .inl ((s.1, s.2.1 + 1, 1), 2) else if e = 1 then .inl ((s.1 + 1, s.2.1, 1), 0) else .inl ((s.1, s.2.1, 1), 1))
  else if e = 0 then (if 0 < s.1 then .inl ((s.1 - 1, s.2.1, 0), 1) else .inr s.2.1)
  else if e = 1 then (if s.1 + s.2.1 + 1 < n - 1 then .inl ((s.1, s.2.1, 0), 2) else .inr (n - 1 + s.1))
  else (if 0 < s.2.1 then .inl ((s.1, s.2.1 - 1, 0), 0) else .inr (3 * (n - 1) - 1 - s.1))
def within (n k : Nat) : Sm × Nat := if k < n - 1 then ((0, k, 1), 0) else if k < 2 * (n - 1) then ((k - (n - 1), 2 * (n - 1) - k - 1, 1), 1) else ((3 * (n - 1) - 1 - k, 0, 1), 2)
theorem e3 {e : Nat} (h : e < 3) : e = 0 ∨ e = 1 ∨ e = 2 := by omega
theorem bey_in {n : Nat} {s s' : Sm} {e e' : Nat} (hs : IsSm n s) (he : e < 3) (h : beyond n s e = .inl (s', e')) : IsSm n s' ∧ e' < 3 ∧ beyond n s' e' = .inl (s, e) ∧ cor s' e' = cor s ((e + 1) % 3) ∧ cor s' ((e' + 1) % 3) = cor s e ∧
    cor s ((e + 2) % 3) ≠ cor s' 0 ∧ cor s ((e + 2) % 3) ≠ cor s' 1 ∧ cor s ((e + 2) % 3) ≠ cor s' 2 := by
  obtain ⟨r, p, u⟩ := s
  rcases hs with ⟨hu, hs⟩ | ⟨hu, hs⟩ <;> dsimp only at hu hs <;> subst hu
  · rcases e3 he with rfl | rfl | rfl
    · by_cases q : 0 < r
      · have : beyond n (r, p, 1) 0 = .inl ((r - 1, p, 0), 1) := by simp [beyond, q]
        rw [this] at h; cases h
        obtain ⟨r, rfl⟩ : ∃ k, r = k + 1 := ⟨r - 1, by omega⟩
        refine ⟨.inr ⟨rfl, by show r + 1 - 1 + p + 2 < n; omega⟩, by omega, by simp [beyond], ?_⟩
        simp [cor]
      · have : beyond n (r, p, 1) 0 = .inr p := by simp [beyond, q]
        rw [this] at h; cases h
    · by_cases q : r + p + 1 < n - 1
      · have : beyond n (r, p, 1) 1 = .inl ((r, p, 0), 2) := by simp [beyond, q]
        rw [this] at h; cases h
        refine ⟨.inr ⟨rfl, by show r + p + 2 < n; omega⟩, by omega, by simp [beyond], ?_⟩
        simp [cor]
      · have : beyond n (r, p, 1) 1 = .inr (n - 1 + r) := by simp [beyond, q]
        rw [this] at h; cases h
    · by_cases q : 0 < p
      · have : beyond n (r, p, 1) 2 = .inl ((r, p - 1, 0), 0) := by simp [beyond, q]
        rw [this] at h; cases h
        obtain ⟨p, rfl⟩ : ∃ k, p = k + 1 := ⟨p - 1, by omega⟩
        refine ⟨.inr ⟨rfl, by show r + (p + 1 - 1) + 2 < n; omega⟩, by omega, by simp [beyond], ?_⟩
        simp [cor]
      · have : beyond n (r, p, 1) 2 = .inr (3 * (n - 1) - 1 - r) := by simp [beyond, q]
        rw [this] at h; cases h
  · rcases e3 he with rfl | rfl | rfl
    · have : beyond n (r, p, 0) 0 = .inl ((r, p + 1, 1), 2) := by simp [beyond]
      rw [this] at h; cases h
      refine ⟨.inl ⟨rfl, by show r + (p + 1) + 1 < n; omega⟩, by omega, by simp [beyond], ?_⟩
      simp [cor]
    · have : beyond n (r, p, 0) 1 = .inl ((r + 1, p, 1), 0) := by simp [beyond]
      rw [this] at h; cases h
      refine ⟨.inl ⟨rfl, by show r + 1 + p + 1 < n; omega⟩, by omega, by simp [beyond], ?_⟩
      simp [cor]
    · have : beyond n (r, p, 0) 2 = .inl ((r, p, 1), 1) := by simp [beyond]
      rw [this] at h; cases h
      refine ⟨.inl ⟨rfl, by show r + p + 1 < n; omega⟩, by omega, ?_, ?_⟩
      · have : r + p + 1 < n - 1 := by omega
        simp [beyond, this]
      · simp [cor]
theorem bey_out {n : Nat} {s : Sm} {e k : Nat} (hs : IsSm n s) (he : e < 3) (h : beyond n s e = .inr k) : k < 3 * (n - 1) ∧ within n k = (s, e) := by
  obtain ⟨r, p, u⟩ := s
  rcases hs with ⟨hu, hs⟩ | ⟨hu, hs⟩ <;> dsimp only at hu hs <;> subst hu
  · rcases e3 he with rfl | rfl | rfl
    · by_cases q : 0 < r
      · have : beyond n (r, p, 1) 0 = .inl ((r - 1, p, 0), 1) := by simp [beyond, q]
        rw [this] at h; cases h
      · have : beyond n (r, p, 1) 0 = .inr p := by simp [beyond, q]
        rw [this] at h; cases h
        unfold within
        rw [if_pos (by omega)]
        simp only [Prod.mk.injEq, and_true]; omega
    · by_cases q : r + p + 1 < n - 1
      · have : beyond n (r, p, 1) 1 = .inl ((r, p, 0), 2) := by simp [beyond, q]
        rw [this] at h; cases h
      · have : beyond n (r, p, 1) 1 = .inr (n - 1 + r) := by simp [beyond, q]
        rw [this] at h; cases h
        unfold within
        rw [if_neg (by omega), if_pos (by omega)]
        simp only [Prod.mk.injEq, and_true]; omega
    · by_cases q : 0 < p
      · have : beyond n (r, p, 1) 2 = .inl ((r, p - 1, 0), 0) := by simp [beyond, q]
        rw [this] at h; cases h
      · have : beyond n (r, p, 1) 2 = .inr (3 * (n - 1) - 1 - r) := by simp [beyond, q]
        rw [this] at h; cases h
        unfold within
        rw [if_neg (by omega), if_neg (by omega)]
        simp only [Prod.mk.injEq, and_true]; omega
  · rcases e3 he with rfl | rfl | rfl
    · have : beyond n (r, p, 0) 0 = .inl ((r, p + 1, 1), 2) := by simp [beyond]
      rw [this] at h; cases h
    · have : beyond n (r, p, 0) 1 = .inl ((r + 1, p, 1), 0) := by simp [beyond]
      rw [this] at h; cases h
    · have : beyond n (r, p, 0) 2 = .inl ((r, p, 1), 1) := by simp [beyond]
      rw [this] at h; cases h
theorem within_ok {n k : Nat} (h : k < 3 * (n - 1)) : IsSm n (within n k).1 ∧ (within n k).2 < 3 ∧ beyond n (within n k).1 (within n k).2 = .inr k ∧
    cor (within n k).1 (within n k).2 = spotAt n k ∧ cor (within n k).1 (((within n k).2 + 1) % 3) = spotAt n (k + 1) := by
  by_cases h1 : k < n - 1
  · have e : within n k = ((0, k, 1), 0) := if_pos h1
    rw [e]
    refine ⟨.inl ⟨rfl, by show 0 + k + 1 < n; omega⟩, by omega, by simp [beyond], ?_, ?_⟩
    · simp [cor, spotAt, h1]
    · show (0, k + 1) = spotAt n (k + 1)
      unfold spotAt
      by_cases q : k + 1 < n - 1
      · rw [if_pos q]
      · rw [if_neg q, if_pos (by omega)]; simp only [Prod.mk.injEq]; omega
  · by_cases h2 : k < 2 * (n - 1)
    · have e : within n k = ((k - (n - 1), 2 * (n - 1) - k - 1, 1), 1) := by unfold within; rw [if_neg h1, if_pos h2]
      rw [e]
      refine ⟨.inl ⟨rfl, by show k - (n - 1) + (2 * (n - 1) - k - 1) + 1 < n; omega⟩, by omega, ?_, ?_, ?_⟩
      · have : ¬ (k - (n - 1) + (2 * (n - 1) - k - 1) + 1 < n - 1) := by omega
        simp [beyond, this]; omega
      · simp [cor, spotAt, h1, h2]; omega
      · show (k - (n - 1) + 1, 2 * (n - 1) - k - 1) = spotAt n (k + 1)
        unfold spotAt
        rw [if_neg (by omega)]
        by_cases q : k + 1 < 2 * (n - 1)
        · rw [if_pos q]; simp only [Prod.mk.injEq]; omega
        · rw [if_neg q]; simp only [Prod.mk.injEq]; omega
    · have e : within n k = ((3 * (n - 1) - 1 - k, 0, 1), 2) := by unfold within; rw [if_neg h1, if_neg h2]
      rw [e]
      refine ⟨.inl ⟨rfl, by show 3 * (n - 1) - 1 - k + 0 + 1 < n; omega⟩, by omega, ?_, ?_, ?_⟩
      · simp [beyond]; omega
      · simp [cor, spotAt, h1, h2]; omega
      · have q : cor (3 * (n - 1) - 1 - k, 0, 1) ((2 + 1) % 3) = (3 * (n - 1) - 1 - k, 0) := by simp [cor]
        refine q.trans ?_
        unfold spotAt
        rw [if_neg (by omega), if_neg (by omega)]
        simp only [Prod.mk.injEq, and_true]; omega
theorem ed_bey {n : Nat} (c : Nat → Nat → Nat) {s s' : Sm} {e e' : Nat} (hs : IsSm n s) (he : e < 3) (h : beyond n s e = .inl (s', e')) : ed c s' e' = - ed c s e := by
  obtain ⟨_, h2, _, h4, h5, _⟩ := bey_in hs he h
  rw [ed_cor c s he, ed_cor c s' h2, h4, h5, dl_swap]
theorem ed_within {n k : Nat} (c : Nat → Nat → Nat) (h : k < 3 * (n - 1)) : ed c (within n k).1 (within n k).2 = stepAt n c k := by
  obtain ⟨_, h2, _, h4, h5⟩ := within_ok h
  rw [ed_cor c _ h2, h4, h5]; rfl

/-! paths -/
inductive Fn where
  | ended
  | out (k : Nat)
  deriving DecidableEq
/-- at an end of a walk: in a full one, or at a door of the side -/
def EndAt (n : Nat) (s : Sm) (e : Nat) : Fn → Prop
  | .ended => e = 3
  | .out k => e < 3 ∧ beyond n s e = .inr k
def chn (n : Nat) : List Lk → Prop
  | [] => True
  | [_] => True
  | a :: b :: l => (a.o < 3 ∧ beyond n a.s a.o = .inl (b.s, b.i)) ∧ chn n (b :: l)
def lastO (n : Nat) : List Lk → Fn → Prop
  | [], _ => False
  | [a], z => EndAt n a.s a.o z
  | _ :: b :: l, z => lastO n (b :: l) z
structure Path (n : Nat) (c : Nat → Nat → Nat) (a : Fn) (l : List Lk) (z : Fn) : Prop where
  ok : ∀ k ∈ l, LkOk n c k
  ch : chn n l
  st : ∃ b t, l = b :: t ∧ EndAt n b.s b.i a
  en : lastO n l z
def Lk.turn (a : Lk) : Lk := ⟨a.s, a.o, a.i⟩
theorem chn_snoc {n : Nat} : ∀ {l : List Lk} {a b : Lk}, chn n (l ++ [a]) → (a.o < 3 ∧ beyond n a.s a.o = .inl (b.s, b.i)) → chn n (l ++ [a, b])
  | [], _, _, _, h => ⟨h, trivial⟩
  | [x], a, b, h1, h => ⟨h1.1, h, trivial⟩
  | x :: y :: l, a, b, h1, h => ⟨h1.1, chn_snoc (l := y :: l) h1.2 h⟩
theorem chn_rev {n : Nat} {c : Nat → Nat → Nat} : ∀ {l : List Lk}, (∀ k ∈ l, LkOk n c k) → chn n l → chn n (l.reverse.map Lk.turn)
  | [], _, _ => trivial
  | [a], _, _ => trivial
  | a :: b :: l, h, hc => by
    have ih := chn_rev (fun k hk => h k (List.mem_cons_of_mem _ hk)) hc.2
    have ha := h a List.mem_cons_self
    obtain ⟨_, h2, h3, _⟩ := bey_in ha.sm hc.1.1 hc.1.2
    have e1 : (b :: l).reverse.map Lk.turn = l.reverse.map Lk.turn ++ [b.turn] := by simp
    have e2 : (a :: b :: l).reverse.map Lk.turn = l.reverse.map Lk.turn ++ [b.turn, a.turn] := by simp
    rw [e1] at ih
    rw [e2]
    exact chn_snoc ih ⟨h2, h3⟩
theorem lastO_snoc {n : Nat} : ∀ {l : List Lk} {a : Lk} {z : Fn}, lastO n (l ++ [a]) z ↔ EndAt n a.s a.o z
  | [], _, _ => Iff.rfl
  | [x], a, z => Iff.rfl
  | x :: y :: l, a, z => lastO_snoc (l := y :: l)
theorem lastO_split {n : Nat} {l : List Lk} {z : Fn} (h : lastO n l z) : ∃ t a, l = t ++ [a] ∧ EndAt n a.s a.o z := by
  rcases List.eq_nil_or_concat l with e | ⟨t, a, e⟩
  · subst e; exact h.elim
  · have e : l = t ++ [a] := by simpa using e
    subst e
    exact ⟨t, a, rfl, lastO_snoc.mp h⟩
theorem LkOk.turn {n : Nat} {c : Nat → Nat → Nat} {a : Lk} (h : LkOk n c a) : LkOk n c a.turn := ⟨h.sm, h.ho, h.hi, Ne.symm h.ne, fun e he => (h.dr e he).trans Or.comm⟩
/-- walked back -/
theorem Path.rev {n : Nat} {c : Nat → Nat → Nat} {a z : Fn} {l : List Lk} (h : Path n c a l z) : Path n c z (l.reverse.map Lk.turn) a where
  ok := fun k hk => by
    obtain ⟨b, hb, rfl⟩ := List.mem_map.mp hk
    exact (h.ok b (List.mem_reverse.mp hb)).turn
  ch := chn_rev h.ok h.ch
  st := by
    obtain ⟨t, b, rfl, e⟩ := lastO_split h.en
    exact ⟨b.turn, t.reverse.map Lk.turn, by simp, e⟩
  en := by
    obtain ⟨b, t, rfl, e⟩ := h.st
    have : (b :: t).reverse.map Lk.turn = t.reverse.map Lk.turn ++ [b.turn] := by simp
    rw [this]
    exact lastO_snoc.mpr e
def Path.smalls (l : List Lk) : List Sm := l.map Lk.s
theorem rev_smalls (l : List Lk) : (l.reverse.map Lk.turn).map Lk.s = (l.map Lk.s).reverse := by
  rw [List.map_map, ← List.map_reverse]; rfl

/-! as the program walks -/
inductive Goes (n : Nat) (c : Nat → Nat → Nat) : Sm → Nat → List Sm → Fn → Prop
  | stop {s e} : others c s e = [] → Goes n c s e [s] .ended
  | leave {s e o t k} : others c s e = o :: t → beyond n s o = .inr k → Goes n c s e [s] (.out k)
  | step {s e o t s' e' L z} : others c s e = o :: t → beyond n s o = .inl (s', e') → Goes n c s' e' L z → Goes n c s e (s :: L) z
theorem Goes.uniq {n : Nat} {c : Nat → Nat → Nat} {s : Sm} {e : Nat} {L : List Sm} {z : Fn} (h : Goes n c s e L z) : ∀ {L' z'}, Goes n c s e L' z' → L = L' ∧ z = z' := by
  induction h with
  | stop h => intro L' z' g; cases g with
    | stop _ => exact ⟨rfl, rfl⟩
    | leave h' _ => rw [h] at h'; cases h'
    | step h' _ _ => rw [h] at h'; cases h'
  | leave h b => intro L' z' g; cases g with
    | stop h' => rw [h] at h'; cases h'
    | leave h' b' => rw [h] at h'; cases h'; rw [b] at b'; cases b'; exact ⟨rfl, rfl⟩
    | step h' b' _ => rw [h] at h'; cases h'; rw [b] at b'; cases b'
  | step h b _ ih => intro L' z' g; cases g with
    | stop h' => rw [h] at h'; cases h'
    | leave h' b' => rw [h] at h'; cases h'; rw [b] at b'; cases b'
    | step h' b' g' =>
      rw [h] at h'; cases h'; rw [b] at b'; cases b'
      obtain ⟨e1, e2⟩ := ih g'
      exact ⟨by rw [e1], e2⟩
theorem path_goes {n : Nat} {c : Nat → Nat → Nat} : ∀ {l : List Lk} {a : Lk} {z : Fn}, (∀ k ∈ a :: l, LkOk n c k) → chn n (a :: l) → lastO n (a :: l) z → Goes n c a.s a.i ((a :: l).map Lk.s) z
  | [], a, z, h, _, hz => by
    have ho := others_of (h a List.mem_cons_self)
    cases z with
    | ended =>
      have e : a.o = 3 := hz
      rw [if_pos e] at ho
      exact .stop ho
    | out k =>
      obtain ⟨e, hb⟩ := (show a.o < 3 ∧ beyond n a.s a.o = .inr k from hz)
      rw [if_neg (by omega)] at ho
      exact .leave ho hb
  | b :: l, a, z, h, hc, hz => by
    have ho := others_of (h a List.mem_cons_self)
    obtain ⟨⟨e, hb⟩, hc'⟩ := hc
    rw [if_neg (by omega)] at ho
    exact .step ho hb (path_goes (fun k hk => h k (List.mem_cons_of_mem _ hk)) hc' hz)
theorem Path.goes {n : Nat} {c : Nat → Nat → Nat} {a z : Fn} {l : List Lk} {b : Lk} {t : List Lk} (h : Path n c a l z) (e : l = b :: t) : Goes n c b.s b.i (l.map Lk.s) z := by
  subst e
  exact path_goes h.ok h.ch h.en

/-! there is such a path: no state comes again -/
abbrev Ste := Sm × Nat
def nxt (n : Nat) (c : Nat → Nat → Nat) (x : Ste) : Option Ste := if outOf c x.1 x.2 = 3 then none else match beyond n x.1 (outOf c x.1 x.2) with
  | .inl y => some y
  | .inr _ => none
def orb (n : Nat) (c : Nat → Nat → Nat) (x : Ste) : Nat → Option Ste
  | 0 => some x
  | m + 1 => (orb n c x m).bind (nxt n c)
section
variable {n : Nat} {c : Nat → Nat → Nat} (hc : ∀ r p, ltr (c r p))
include hc
theorem nxt_some {x y : Ste} (hx : Fine n c x.1 x.2) (h : nxt n c x = some y) : outOf c x.1 x.2 < 3 ∧ beyond n x.1 (outOf c x.1 x.2) = .inl y ∧ Fine n c y.1 y.2 ∧ y.2 < 3 := by
  have k := fine_link hc hx
  have ho := k.ho
  dsimp only at ho
  unfold nxt at h
  split at h
  · cases h
  · rename_i hne
    have hlt : outOf c x.1 x.2 < 3 := by omega
    split at h
    · rename_i y' hb
      cases h
      obtain ⟨h1, h2, _⟩ := bey_in k.sm hlt hb
      refine ⟨hlt, hb, ⟨h1, .inl ⟨h2, ?_⟩⟩, h2⟩
      have e := ed_bey c k.sm hlt hb
      have d := (k.dr _ hlt).mpr (.inr rfl)
      show ed c _ _ ≠ 0
      rw [e]; dsimp only at d ⊢; omega
    · cases h
theorem nxt_inj {x y z : Ste} (hx : Fine n c x.1 x.2) (hy : Fine n c y.1 y.2) (h1 : nxt n c x = some z) (h2 : nxt n c y = some z) : x = y := by
  obtain ⟨a1, a2, _⟩ := nxt_some hc hx h1
  obtain ⟨b1, b2, _⟩ := nxt_some hc hy h2
  have kx := fine_link hc hx
  have ky := fine_link hc hy
  obtain ⟨_, _, q1, _⟩ := bey_in kx.sm a1 a2
  obtain ⟨_, _, q2, _⟩ := bey_in ky.sm b1 b2
  have q := q1.symm.trans q2
  obtain ⟨x1, x2⟩ := x
  obtain ⟨y1, y2⟩ := y
  simp only [Sum.inl.injEq, Prod.mk.injEq] at q
  obtain ⟨q3, q4⟩ := q
  dsimp only at a1 b1 kx ky
  subst q3
  have hx2 := kx.hi
  have hy2 := ky.hi
  have nx := kx.ne
  have ny := ky.ne
  have d0 := (kx.dr 0 (by omega)).symm.trans (ky.dr 0 (by omega))
  have d1 := (kx.dr 1 (by omega)).symm.trans (ky.dr 1 (by omega))
  have d2 := (kx.dr 2 (by omega)).symm.trans (ky.dr 2 (by omega))
  dsimp only at hx2 hy2 nx ny d0 d1 d2
  have : x2 = y2 := by
    generalize outOf c x1 x2 = o at *
    generalize outOf c x1 y2 = o' at *
    omega
  rw [this]
/-- along an orbit the states are fine -/
theorem orb_fine {x : Ste} (hx : Fine n c x.1 x.2) : ∀ m y, orb n c x m = some y → Fine n c y.1 y.2
  | 0, y, h => by cases h; exact hx
  | m + 1, y, h => by
    cases q : orb n c x m with
    | none => rw [show orb n c x (m + 1) = (orb n c x m).bind (nxt n c) from rfl, q] at h; cases h
    | some z =>
      rw [show orb n c x (m + 1) = (orb n c x m).bind (nxt n c) from rfl, q] at h
      exact (nxt_some hc (orb_fine hx m z q) h).2.2.1
omit hc in
theorem orb_pred {x y : Ste} {m : Nat} (h : orb n c x (m + 1) = some y) : ∃ z, orb n c x m = some z ∧ nxt n c z = some y := by
  cases q : orb n c x m with
  | none => rw [show orb n c x (m + 1) = (orb n c x m).bind (nxt n c) from rfl, q] at h; cases h
  | some z =>
    rw [show orb n c x (m + 1) = (orb n c x m).bind (nxt n c) from rfl, q] at h
    exact ⟨z, rfl, h⟩
/-- where none leads to the first none comes again -/
theorem orb_inj {x : Ste} (hx : Fine n c x.1 x.2) (h0 : ∀ z, Fine n c z.1 z.2 → nxt n c z ≠ some x) : ∀ a b y, orb n c x a = some y → orb n c x b = some y → a = b
  | 0, 0, _, _, _ => rfl
  | 0, b + 1, y, h1, h2 => by
    cases h1
    obtain ⟨z, e1, e2⟩ := orb_pred h2
    exact absurd e2 (h0 z (orb_fine hc hx b z e1))
  | a + 1, 0, y, h1, h2 => by
    cases h2
    obtain ⟨z, e1, e2⟩ := orb_pred h1
    exact absurd e2 (h0 z (orb_fine hc hx a z e1))
  | a + 1, b + 1, y, h1, h2 => by
    obtain ⟨z, e1, e2⟩ := orb_pred h1
    obtain ⟨u, f1, f2⟩ := orb_pred h2
    have := nxt_inj hc (orb_fine hc hx a z e1) (orb_fine hc hx b u f1) e2 f2
    subst this
    rw [orb_inj hx h0 a b z e1 f1]
omit hc in
/-- at most as many numbers below M as M -/
theorem nodup_below : ∀ (M : Nat) (l : List Nat), l.Nodup → (∀ x ∈ l, x < M) → l.length ≤ M
  | 0, l, _, h => by
    cases l with
    | nil => exact Nat.le_refl _
    | cons x l => exact absurd (h x List.mem_cons_self) (by omega)
  | M + 1, l, hn, h => by
    have h1 := nodup_below M (l.filter fun x => decide (x ≠ M)) (hn.filter _) fun x hx => by
      obtain ⟨a, b⟩ := List.mem_filter.mp hx
      have := h x a
      simp at b; omega
    have h2 : l.length ≤ (l.filter fun x => decide (x ≠ M)).length + 1 := by
      clear h1 h
      induction l with
      | nil => simp
      | cons x l ih =>
        have hn' := List.nodup_cons.mp hn
        by_cases e : x = M
        · have : l.filter (fun x => decide (x ≠ M)) = l := List.filter_eq_self.mpr fun y hy => by
            simp; intro q; subst q; subst e; exact hn'.1 hy
          rw [List.filter_cons_of_neg (by simp [e]), this, List.length_cons]; omega
        · rw [List.filter_cons_of_pos (by simp [e]), List.length_cons, List.length_cons]
          have := ih hn'.2
          omega
    omega
omit hc in
def code (n : Nat) (x : Ste) : Nat := ((x.1.1 * n + x.1.2.1) * 2 + x.1.2.2) * 4 + x.2
omit hc in
theorem code_lt {x : Ste} (h : Fine n c x.1 x.2) : code n x < 8 * (n * n) := by
  obtain ⟨⟨r, p, u⟩, e⟩ := x
  obtain ⟨h1, h2⟩ := h
  have he : e ≤ 3 := by rcases h2 with ⟨h, _⟩ | ⟨h, _⟩ <;> dsimp only at h <;> omega
  have hh : r < n ∧ p < n ∧ u ≤ 1 := by
    rcases h1 with ⟨a, b⟩ | ⟨a, b⟩ <;> dsimp only at a b <;> omega
  unfold code; dsimp only
  have : r * n + n ≤ n * n := by
    have := Nat.mul_le_mul_right n (show r + 1 ≤ n by omega)
    rw [Nat.add_mul] at this; omega
  generalize r * n = A at *
  generalize n * n = B at *
  omega
omit hc in
theorem code_inj {x y : Ste} (h : Fine n c x.1 x.2) (h' : Fine n c y.1 y.2) (e : code n x = code n y) : x = y := by
  obtain ⟨⟨r, p, u⟩, i⟩ := x
  obtain ⟨⟨r', p', u'⟩, i'⟩ := y
  obtain ⟨h1, h2⟩ := h
  obtain ⟨k1, k2⟩ := h'
  have he : i ≤ 3 := by rcases h2 with ⟨h, _⟩ | ⟨h, _⟩ <;> dsimp only at h <;> omega
  have he' : i' ≤ 3 := by rcases k2 with ⟨h, _⟩ | ⟨h, _⟩ <;> dsimp only at h <;> omega
  have hh : r < n ∧ p < n ∧ u ≤ 1 := by
    rcases h1 with ⟨a, b⟩ | ⟨a, b⟩ <;> dsimp only at a b <;> omega
  have hh' : r' < n ∧ p' < n ∧ u' ≤ 1 := by
    rcases k1 with ⟨a, b⟩ | ⟨a, b⟩ <;> dsimp only at a b <;> omega
  unfold code at e; dsimp only at e
  have e1 : r * n + p = r' * n + p' ∧ u = u' ∧ i = i' := by
    generalize r * n = A at *
    generalize r' * n = B at *
    omega
  have e2 : r = r' := by
    rcases Nat.lt_trichotomy r r' with q | q | q
    · have := Nat.mul_le_mul_right n (show r + 1 ≤ r' by omega)
      rw [Nat.add_mul] at this; omega
    · exact q
    · have := Nat.mul_le_mul_right n (show r' + 1 ≤ r by omega)
      rw [Nat.add_mul] at this; omega
  subst e2
  have e3 : p = p' := by omega
  obtain ⟨_, rfl, rfl⟩ := e1
  rw [e3]
omit hc in
theorem orb_none {x : Ste} {m : Nat} (h : orb n c x m = none) : orb n c x (m + 1) = none := by
  rw [show orb n c x (m + 1) = (orb n c x m).bind (nxt n c) from rfl, h]; rfl
omit hc in
theorem orb_some {x : Ste} {N : Nat} : ∀ m, orb n c x (N + m) ≠ none → orb n c x N ≠ none
  | 0, h => h
  | m + 1, h => orb_some m fun q => h (orb_none q)
theorem orb_ends {x : Ste} (hx : Fine n c x.1 x.2) (h0 : ∀ z, Fine n c z.1 z.2 → nxt n c z ≠ some x) : orb n c x (8 * (n * n) + 1) = none := by
  cases q : orb n c x (8 * (n * n) + 1) with
  | none => rfl
  | some y =>
    have all : ∀ m, m < 8 * (n * n) + 1 → ∃ z, orb n c x m = some z := fun m hm => by
      have : orb n c x m ≠ none := orb_some (8 * (n * n) + 1 - m) (by rw [show m + (8 * (n * n) + 1 - m) = 8 * (n * n) + 1 by omega, q]; simp)
      cases e : orb n c x m with
      | none => exact absurd e this
      | some z => exact ⟨z, rfl⟩
    have nd : ((List.range (8 * (n * n) + 1)).map fun m => code n ((orb n c x m).getD x)).Nodup := by
      refine List.pairwise_map.mpr ?_
      refine List.Pairwise.imp_of_mem (R := fun a b => a ≠ b) ?_ List.nodup_range
      intro a b ha hb hne e
      obtain ⟨z, hz⟩ := all a (List.mem_range.mp ha)
      obtain ⟨u, hu⟩ := all b (List.mem_range.mp hb)
      rw [hz, hu] at e
      have := code_inj (orb_fine hc hx a z hz) (orb_fine hc hx b u hu) e
      subst this
      exact hne (orb_inj hc hx h0 a b z hz hu)
    have := nodup_below (8 * (n * n)) _ nd fun v hv => by
      obtain ⟨m, hm, rfl⟩ := List.mem_map.mp hv
      obtain ⟨z, hz⟩ := all m (List.mem_range.mp hm)
      rw [hz]
      exact code_lt (orb_fine hc hx m z hz)
    simp at this
    omega
omit hc in
theorem orb_from {x y : Ste} (h : nxt n c x = some y) : ∀ m, orb n c x (m + 1) = orb n c y m
  | 0 => h
  | m + 1 => by
    show (orb n c x (m + 1)).bind (nxt n c) = (orb n c y m).bind (nxt n c)
    rw [orb_from h m]
theorem links {N : Nat} : ∀ {x : Ste}, Fine n c x.1 x.2 → orb n c x (N + 1) = none → ∃ t z, t.length ≤ N ∧ (∀ k ∈ (⟨x.1, x.2, outOf c x.1 x.2⟩ : Lk) :: t, LkOk n c k) ∧ chn n (⟨x.1, x.2, outOf c x.1 x.2⟩ :: t) ∧ lastO n (⟨x.1, x.2, outOf c x.1 x.2⟩ :: t) z := by
  induction N with
  | zero =>
    intro x hx h
    have k := fine_link hc hx
    have h : nxt n c x = none := h
    have one : ∀ z, EndAt n x.1 (outOf c x.1 x.2) z → ∃ t z, t.length ≤ 0 ∧ (∀ k ∈ (⟨x.1, x.2, outOf c x.1 x.2⟩ : Lk) :: t, LkOk n c k) ∧ chn n (⟨x.1, x.2, outOf c x.1 x.2⟩ :: t) ∧ lastO n (⟨x.1, x.2, outOf c x.1 x.2⟩ :: t) z := fun z hz =>
      ⟨[], z, Nat.zero_le _, fun a ha => by rw [List.mem_singleton.mp ha]; exact k, trivial, hz⟩
    unfold nxt at h
    split at h
    · rename_i e; exact one .ended e
    · rename_i e
      split at h
      · cases h
      · rename_i j hj
        have := k.ho
        dsimp only at this
        exact one (.out j) ⟨by omega, hj⟩
  | succ N ih =>
    intro x hx h
    have k := fine_link hc hx
    cases q : nxt n c x with
    | none =>
      have one : ∀ z, EndAt n x.1 (outOf c x.1 x.2) z → ∃ t z, t.length ≤ N + 1 ∧ (∀ k ∈ (⟨x.1, x.2, outOf c x.1 x.2⟩ : Lk) :: t, LkOk n c k) ∧ chn n (⟨x.1, x.2, outOf c x.1 x.2⟩ :: t) ∧ lastO n (⟨x.1, x.2, outOf c x.1 x.2⟩ :: t) z := fun z hz =>
        ⟨[], z, Nat.zero_le _, fun a ha => by rw [List.mem_singleton.mp ha]; exact k, trivial, hz⟩
      unfold nxt at q
      split at q
      · rename_i e; exact one .ended e
      · rename_i e
        split at q
        · cases q
        · rename_i j hj
          have := k.ho
          dsimp only at this
          exact one (.out j) ⟨by omega, hj⟩
    | some y =>
      obtain ⟨a1, a2, a3, _⟩ := nxt_some hc hx q
      have h' : orb n c y (N + 1) = none := by rw [← orb_from q]; exact h
      obtain ⟨t, z, g0, g1, g2, g3⟩ := ih a3 h'
      refine ⟨⟨y.1, y.2, outOf c y.1 y.2⟩ :: t, z, by rw [List.length_cons]; omega, fun a ha => ?_, ⟨⟨a1, a2⟩, g2⟩, g3⟩
      rcases List.mem_cons.mp ha with e | ha
      · rw [e]; exact k
      · exact g1 a ha
/-- there is a walk from an end -/
theorem path_from {x : Ste} {a : Fn} (hx : Fine n c x.1 x.2) (ha : EndAt n x.1 x.2 a) : ∃ t z, t.length ≤ 8 * (n * n) ∧ Path n c a (⟨x.1, x.2, outOf c x.1 x.2⟩ :: t) z := by
  have h0 : ∀ z, Fine n c z.1 z.2 → nxt n c z ≠ some x := fun z hz h => by
    obtain ⟨a1, a2, a3, a4⟩ := nxt_some hc hz h
    obtain ⟨_, _, q, _⟩ := bey_in (fine_link hc hz).sm a1 a2
    cases a with
    | ended => have : x.2 = 3 := ha; omega
    | out k =>
      have e : beyond n x.1 x.2 = .inr k := ha.2
      rw [q] at e; cases e
  obtain ⟨t, z, g0, g1, g2, g3⟩ := links hc hx (orb_ends hc hx h0)
  exact ⟨t, z, g0, g1, g2, ⟨_, _, rfl, ha⟩, g3⟩

/-! which way the doors lead -/
def inD (c : Nat → Nat → Nat) (a : Lk) : Int := if a.i = 3 then - tnS c a.s else ed c a.s a.i
/-- what an end tells: of a door of the side its step, of a full one its turn, the other way -/
def sgn (n : Nat) (c : Nat → Nat → Nat) (s : Sm) : Fn → Int
  | .ended => - tnS c s
  | .out k => stepAt n c k
theorem path_sgn : ∀ {l : List Lk} {a : Lk} {z : Fn}, (∀ k ∈ a :: l, LkOk n c k) → chn n (a :: l) → lastO n (a :: l) z → ∃ t b, a :: l = t ++ [b] ∧ EndAt n b.s b.o z ∧ sgn n c b.s z = - inD c a
  | [], a, z, h, _, hz => by
    have ka := h a List.mem_cons_self
    have f := (lk_full hc ka).1
    refine ⟨[], a, rfl, hz, ?_⟩
    unfold inD
    rw [f]
    cases z with
    | ended =>
      have e : a.o = 3 := hz
      rw [if_pos e]; rfl
    | out k =>
      obtain ⟨e, hb⟩ := (show a.o < 3 ∧ beyond n a.s a.o = .inr k from hz)
      rw [if_neg (by omega)]
      obtain ⟨b1, b2⟩ := bey_out ka.sm e hb
      have := ed_within c b1
      rw [b2] at this
      show stepAt n c k = _
      rw [← this]; dsimp only; omega
  | b :: l, a, z, h, hc', hz => by
    have ka := h a List.mem_cons_self
    have f := (lk_full hc ka).1
    obtain ⟨⟨e, hb⟩, hch⟩ := hc'
    obtain ⟨t, d, e1, e2, e3⟩ := path_sgn (fun k hk => h k (List.mem_cons_of_mem _ hk)) hch hz
    refine ⟨a :: t, d, by rw [e1]; rfl, e2, ?_⟩
    rw [e3]
    have k2 := ed_bey c ka.sm e hb
    obtain ⟨_, k3, _⟩ := bey_in ka.sm e hb
    unfold inD
    rw [f, if_neg (by omega), if_neg (by omega), k2]
/-- THE LAW OF [7]: the ends' signs -/
theorem Path.signs {a z : Fn} {l : List Lk} (h : Path n c a l z) : ∃ b t t' d, l = b :: t ∧ l = t' ++ [d] ∧ EndAt n b.s b.i a ∧ EndAt n d.s d.o z ∧ sgn n c d.s z = - sgn n c b.s a := by
  obtain ⟨b, t, rfl, hb⟩ := h.st
  obtain ⟨t', d, e1, e2, e3⟩ := path_sgn hc h.ok h.ch h.en
  refine ⟨b, t, t', d, rfl, e1, hb, e2, ?_⟩
  rw [e3]
  unfold inD
  cases a with
  | ended =>
    have e : b.i = 3 := hb
    rw [if_pos e]; rfl
  | out k =>
    obtain ⟨e, hb⟩ := (show b.i < 3 ∧ beyond n b.s b.i = .inr k from hb)
    rw [if_neg (by omega)]
    obtain ⟨b1, b2⟩ := bey_out (h.ok b List.mem_cons_self).sm e hb
    have := ed_within c b1
    rw [b2] at this
    show _ = - stepAt n c k
    rw [← this]
end
end DW
namespace DW
/-! the doors of a walk, spot by spot -/
def crn (s : Sm) : List Sp2 := [cor s 0, cor s 1, cor s 2]
def edgeL (s : Sm) (o : Nat) : List Sp2 := if o = 0 then [cor s 0, cor s 1] else if o = 1 then [cor s 1, cor s 2] else [cor s 0, cor s 2]
theorem crn_at (s : Sm) {e : Nat} (h : e < 3) : cor s e ∈ crn s := by
  rcases e3 h with rfl | rfl | rfl <;> simp [crn]
theorem shared_edge {n : Nat} {s s' : Sm} {e e' : Nat} (hs : IsSm n s) (he : e < 3) (h : beyond n s e = .inl (s', e')) : ((crn s).filter fun x => decide (x ∈ crn s')) = edgeL s e := by
  obtain ⟨_, h2, _, h4, h5, h6, h7, h8⟩ := bey_in hs he h
  have a1 : cor s e ∈ crn s' := by rw [← h5]; exact crn_at s' (Nat.mod_lt _ (by omega))
  have a2 : cor s ((e + 1) % 3) ∈ crn s' := by rw [← h4]; exact crn_at s' h2
  have a3 : ¬ cor s ((e + 2) % 3) ∈ crn s' := by
    unfold crn
    simp only [List.mem_cons, List.not_mem_nil, or_false, not_or]
    exact ⟨h6, h7, h8⟩
  have key : ∀ x y z : Sp2, ([x, y, z].filter fun q => decide (q ∈ crn s')) = (if x ∈ crn s' then [x] else []) ++ (if y ∈ crn s' then [y] else []) ++ (if z ∈ crn s' then [z] else []) := fun x y z => by
    by_cases p1 : x ∈ crn s' <;> by_cases p2 : y ∈ crn s' <;> by_cases p3 : z ∈ crn s' <;> simp [List.filter_cons, p1, p2, p3]
  rw [show crn s = [cor s 0, cor s 1, cor s 2] from rfl, key]
  rcases e3 he with rfl | rfl | rfl
  · rw [if_pos a1, if_pos (show cor s 1 ∈ crn s' from a2), if_neg (show ¬ cor s 2 ∈ crn s' from a3)]; rfl
  · rw [if_pos (show cor s 1 ∈ crn s' from a1), if_pos (show cor s 2 ∈ crn s' from a2), if_neg (show ¬ cor s 0 ∈ crn s' from a3)]; rfl
  · rw [if_pos (show cor s 2 ∈ crn s' from a1), if_pos (show cor s 0 ∈ crn s' from a2), if_neg (show ¬ cor s 1 ∈ crn s' from a3)]; rfl
theorem cor_ne (s : Sm) : cor s 0 ≠ cor s 1 ∧ cor s 0 ≠ cor s 2 ∧ cor s 1 ≠ cor s 2 := by
  obtain ⟨r, p, u⟩ := s
  unfold cor
  by_cases h : u = 1 <;> simp [h]
theorem edge_two (s : Sm) {o : Nat} (ho : o < 3) : ∃ x y, edgeL s o = [x, y] ∧ ((x = cor s o ∧ y = cor s ((o + 1) % 3)) ∨ (y = cor s o ∧ x = cor s ((o + 1) % 3))) := by
  rcases e3 ho with rfl | rfl | rfl
  · exact ⟨_, _, rfl, .inl ⟨rfl, rfl⟩⟩
  · exact ⟨_, _, rfl, .inl ⟨rfl, rfl⟩⟩
  · exact ⟨_, _, rfl, .inr ⟨rfl, rfl⟩⟩
theorem edge_mem (s : Sm) {o : Nat} (ho : o < 3) (x : Sp2) : x ∈ edgeL s o ↔ x = cor s o ∨ x = cor s ((o + 1) % 3) := by
  obtain ⟨a, b, e, h⟩ := edge_two s ho
  rw [e]
  simp only [List.mem_cons, List.not_mem_nil, or_false]
  rcases h with ⟨rfl, rfl⟩ | ⟨rfl, rfl⟩
  · exact Iff.rfl
  · exact ⟨fun h => h.symm, fun h => h.symm⟩
/-- two doors of a small triangle: other spots -/
theorem edge_ne (s : Sm) {i o : Nat} (hi : i < 3) (ho : o < 3) (ne : i ≠ o) : ∃ x, x ∈ edgeL s o ∧ x ≠ cor s i ∧ x ≠ cor s ((i + 1) % 3) := by
  obtain ⟨n1, n2, n3⟩ := cor_ne s
  rcases e3 hi with rfl | rfl | rfl <;> rcases e3 ho with rfl | rfl | rfl
  · exact absurd rfl ne
  · exact ⟨cor s 2, by simp [edgeL], Ne.symm n2, Ne.symm n3⟩
  · exact ⟨cor s 2, by simp [edgeL], Ne.symm n2, Ne.symm n3⟩
  · exact ⟨cor s 0, by simp [edgeL], n1, n2⟩
  · exact absurd rfl ne
  · exact ⟨cor s 0, by simp [edgeL], n1, n2⟩
  · exact ⟨cor s 1, by simp [edgeL], n3, Ne.symm n1⟩
  · exact ⟨cor s 1, by simp [edgeL], n3, Ne.symm n1⟩
  · exact absurd rfl ne
theorem dl_ab {x y : Nat} (h : dl x y ≠ 0) : (x = 97 ∧ y = 98) ∨ (x = 98 ∧ y = 97) := by
  unfold dl at h
  split at h
  · exact .inl (by assumption)
  · split at h
    · exact .inr (by assumption)
    · exact absurd rfl h
theorem edge_ab {c : Nat → Nat → Nat} {s : Sm} {o : Nat} (ho : o < 3) (h : ed c s o ≠ 0) : ∃ x y, edgeL s o = [x, y] ∧ ((lt2 c x = 97 ∧ lt2 c y = 98) ∨ (lt2 c x = 98 ∧ lt2 c y = 97)) := by
  rw [ed_cor c s ho] at h
  obtain ⟨a, b, e, q⟩ := edge_two s ho
  refine ⟨a, b, e, ?_⟩
  have := dl_ab h
  rcases q with ⟨rfl, rfl⟩ | ⟨rfl, rfl⟩
  · exact this
  · rcases this with ⟨h1, h2⟩ | ⟨h1, h2⟩
    · exact .inr ⟨h2, h1⟩
    · exact .inl ⟨h2, h1⟩
/-- the spots ahead of the m-th small triangle: ones it was come in by -/
def Ahead (a : Lk) (A : List Sp2) : Prop := a.i < 3 → ∀ x, x ∈ A → x = cor a.s a.i ∨ x = cor a.s ((a.i + 1) % 3)
theorem ahead_next {n : Nat} {a b : Lk} (hs : IsSm n a.s) (ho : a.o < 3) (h : beyond n a.s a.o = .inl (b.s, b.i)) : Ahead b (edgeL a.s a.o) := fun _ x hx => by
  obtain ⟨_, _, _, h4, h5, _⟩ := bey_in hs ho h
  rcases (edge_mem a.s ho x).mp hx with rfl | rfl
  · exact .inr h5.symm
  · exact .inl h4.symm
theorem ahead_ne {a : Lk} {A : List Sp2} (hA : Ahead a A) (hi : a.i ≤ 3) (ho : a.o < 3) (ne : a.i ≠ a.o) (hE : a.i = 3 → A = []) : ¬ (edgeL a.s a.o).Perm A := fun p => by
  by_cases h3 : a.i = 3
  · obtain ⟨x, y, e, _⟩ := edge_two a.s ho
    rw [hE h3, e] at p
    have := p.length_eq
    simp at this
  · obtain ⟨x, hx, n1, n2⟩ := edge_ne a.s (show a.i < 3 by omega) ho ne
    rcases hA (by omega) x (p.mem_iff.mp hx) with e | e
    · exact n1 e
    · exact n2 e
theorem chn_get {n : Nat} : ∀ {l : List Lk} {m : Nat} {a b : Lk}, chn n l → l[m]? = some a → l[m + 1]? = some b → a.o < 3 ∧ beyond n a.s a.o = .inl (b.s, b.i)
  | [], m, a, b, _, h1, _ => by simp at h1
  | [x], m, a, b, _, h1, h2 => by simp at h2
  | x :: y :: l, 0, a, b, h, h1, h2 => by
    simp at h1 h2
    subst h1 h2
    exact h.1
  | x :: y :: l, m + 1, a, b, h, h1, h2 => chn_get (l := y :: l) (m := m) h.2 (by simpa using h1) (by simpa using h2)
end DW
/-! more of the layer: sorted pairs, in of deep lists, isinstance of own classes, the head's facts about them -/
namespace DWL
open PySem PySem.Spec PyProof.Rows L2 Evl DW
/-! ### sorted pairs -/
def srt2 (ks : List Tr2.I2) : List Tr2.I2 := ks.mergeSort fun x y => !Tr2.before y x
theorem srt2_perm (ks : List Tr2.I2) : (srt2 ks).Perm ks := List.mergeSort_perm ..
theorem bef_no {x y : Tr2.I2} (h : Tr2.before y x = false) : ¬ (y.1 < x.1 ∨ (y.1 = x.1 ∧ y.2 < x.2)) := of_decide_eq_false h
theorem srt2_rise (ks : List Tr2.I2) : (srt2 ks).Pairwise fun x y => Tr2.before y x = false := by
  have h := List.pairwise_mergeSort (le := fun x y => !Tr2.before y x) (fun a b c h1 h2 => by
    rw [Bool.not_eq_true'] at h1 h2 ⊢
    have h1 := bef_no h1
    have h2 := bef_no h2
    exact decide_eq_false (by omega)) (fun a b => by
    rw [Bool.or_eq_true, Bool.not_eq_true', Bool.not_eq_true']
    by_cases h : Tr2.before b a = true
    · refine .inr ?_
      have := of_decide_eq_true h
      exact decide_eq_false (by omega)
    · exact .inl (eq_false_of_ne_true h)) ks
  exact h.imp fun {x y} h => by simpa using h
theorem srt2_uniq : ∀ {l m : List Tr2.I2}, l.Perm m → (l.Pairwise fun x y => Tr2.before y x = false) → (m.Pairwise fun x y => Tr2.before y x = false) → l = m
  | [], m, p, _, _ => (List.Perm.nil_eq p)
  | a :: l, [], p, _, _ => absurd p.length_eq (by simp)
  | a :: l, b :: m, p, h1, h2 => by
    have e : a = b := by
      have ha : a ∈ b :: m := p.mem_iff.mp List.mem_cons_self
      have hb : b ∈ a :: l := p.mem_iff.mpr List.mem_cons_self
      rcases List.mem_cons.mp ha with e | ha
      · exact e
      · rcases List.mem_cons.mp hb with e | hb
        · exact e.symm
        · have q1 := bef_no (List.rel_of_pairwise_cons h2 ha)
          have q2 := bef_no (List.rel_of_pairwise_cons h1 hb)
          obtain ⟨a1, a2⟩ := a
          obtain ⟨b1, b2⟩ := b
          dsimp only at q1 q2
          rw [Prod.mk.injEq]; omega
    subst e
    exact congrArg (a :: ·) (srt2_uniq (List.Perm.cons_inv p) (List.Pairwise.of_cons h1) (List.Pairwise.of_cons h2))
section
variable {K : PySem.W.Frag} {σ : L2.St} {H : Hp} {ta tb te : TE} {ks : List Tr2.I2} {d : PyData} {ds : List PyData}
theorem en_srt2 (ha : EvK K ta σ H (ks.map tr2D)) : EvN K (tCB (rSorted2 K) (tCons ta tNil)) σ H ((srt2 ks).map tr2D) :=
  en_sorted2 (srt2 ks) ha fun l h1 h2 => srt2_uniq (h2.trans (srt2_perm ks).symm) h1 (srt2_rise ks)
theorem eqv_prs : ∀ l m : List Tr2.I2, PyData.eqvAll (l.map tr2D) (m.map tr2D) = decide (l = m)
  | [], [] => rfl
  | [], _ :: _ => rfl
  | _ :: _, [] => rfl
  | a :: l, b :: m => by
    show (PyData.eqv (tr2D a) (tr2D b) && PyData.eqvAll (l.map tr2D) (m.map tr2D)) = _
    rw [eqv_prs l m]
    have : PyData.eqv (tr2D a) (tr2D b) = decide (a = b) := by
      have := eqv_tup [a.1, a.2] [b.1, b.2]
      show PyData.eqv (.tuple ([a.1, a.2].map PyData.int)) (.tuple ([b.1, b.2].map PyData.int)) = _
      rw [this]
      refine decide_eq_decide.mpr ?_
      obtain ⟨a1, a2⟩ := a
      obtain ⟨b1, b2⟩ := b
      simp
    rw [this]
    by_cases h1 : a = b <;> simp [h1]
theorem shp_tr2 (k : Tr2.I2) : Shp 1 (tr2D k) := Shp.tuple (k := 0) (shp_ints [k.1, k.2])
theorem shp_prs (l : List Tr2.I2) : Shp 2 (.list (l.map tr2D)) := Shp.list fun d h => by
  obtain ⟨i, _, rfl⟩ := List.mem_map.mp h
  exact shp_tr2 i
theorem ei_eqPrs {l m : List Tr2.I2} (ha : EvD K ta σ H (.list (l.map tr2D))) (hb : EvD K tb σ H (.list (m.map tr2D))) : EvI K (tOp (rEqD K) ta tb) σ H (.bool (decide (l = m))) :=
  EvI.to (ei_eqD ha hb (shp_prs l).ok (shp_prs m).ok) (congrArg PyData.bool (eqv_prs l m))
theorem ei_inD (ha : EvD K ta σ H d) (hb : EvD K tb σ H (.list ds)) (hd : SeqAt.shaped d = true) (he : SeqAt.shaped (.list ds) = true) : EvI K (tOp (rInD K) ta tb) σ H (.bool (ds.any fun z => PyData.eqv z d)) :=
  ex_op ha mD hb fun x y H1 _ r1 r2 Q q => ⟨d, ds, r1, r2, hd, he, q _ H1 (Ex.refl H1) (.bl _)⟩
def sp2 (x : Sp2) : Tr2.I2 := ((x.1 : Int), (x.2 : Int))
theorem spD_tr2 (x : Sp2) : spD x = tr2D (sp2 x) := rfl
theorem sp2_inj {x y : Sp2} (h : sp2 x = sp2 y) : x = y := by
  obtain ⟨a, b⟩ := x
  obtain ⟨c, e⟩ := y
  unfold sp2 at h
  simp only [Prod.mk.injEq] at h ⊢
  omega
theorem eqv_sp (x y : Sp2) : PyData.eqv (spD x) (spD y) = decide (x = y) := by
  have := eqv_prs [sp2 x] [sp2 y]
  have e : PyData.eqvAll ([sp2 x].map tr2D) ([sp2 y].map tr2D) = (PyData.eqv (spD x) (spD y) && true) := rfl
  rw [e, Bool.and_true] at this
  rw [this]
  refine decide_eq_decide.mpr ⟨fun h => sp2_inj (by simpa using h), fun h => by rw [h]⟩
/-- a spot in a list of spots -/
theorem ei_inSp {x : Sp2} {l : List Sp2} (ha : EvD K ta σ H (spD x)) (hb : EvD K tb σ H (.list (l.map spD))) : EvI K (tOp (rInD K) ta tb) σ H (.bool (decide (x ∈ l))) := by
  refine EvI.to (ei_inD ha hb (shp_sp x).ok (shp_sps l).ok) (congrArg PyData.bool ?_)
  rw [List.any_map, Bool.eq_iff_iff, List.any_eq_true, decide_eq_true_eq]
  constructor
  · rintro ⟨y, hy, e⟩
    have e : PyData.eqv (spD y) (spD x) = true := e
    rw [eqv_sp] at e
    rw [← of_decide_eq_true e]; exact hy
  · intro h
    exact ⟨x, h, by show PyData.eqv (spD x) (spD x) = true; rw [eqv_sp]; exact decide_eq_true rfl⟩
/-! ### sorted of two letters -/
theorem sorted_ab {x y : Nat} (h : (x = 97 ∧ y = 98) ∨ (x = 98 ∧ y = 97)) : ∀ ys : List Str, ys.Perm [st [x], st [y]] → sortedS ys = true → ys = [st [97], st [98]] := fun ys p s => by
  have l := p.length_eq
  match ys, l with
  | [a, b], _ =>
    have ma := p.mem_iff.mp (show a ∈ [a, b] by simp)
    have mb := p.mem_iff.mp (show b ∈ [a, b] by simp)
    have m1 := p.mem_iff.mpr (show st [x] ∈ [st [x], st [y]] by simp)
    have m2 := p.mem_iff.mpr (show st [y] ∈ [st [x], st [y]] by simp)
    simp only [List.mem_cons, List.not_mem_nil, or_false] at ma mb m1 m2
    have ne : st [97] ≠ st [98] := by decide
    have s1 : sortedS [st [98], st [97]] = false := by decide +kernel
    rcases h with ⟨rfl, rfl⟩ | ⟨rfl, rfl⟩ <;> rcases ma with rfl | rfl <;> rcases mb with rfl | rfl <;> simp_all
theorem en_sortedAB {x y : Nat} (h : (x = 97 ∧ y = 98) ∨ (x = 98 ∧ y = 97)) (ha : EvK K ta σ H ([st [x], st [y]].map PyData.str)) : EvN K (tCB (rSortedS K) (tCons ta tNil)) σ H ([("a" : Str), "b"].map PyData.str) := fun H1 e Q q => ha H1 e _ fun v H2 e2 r => by
  obtain ⟨a, xs, rfl, h1, h2⟩ := r
  have := strs_back (ns := [st [x], st [y]]) h2
  subst this
  refine ⟨a, _, rfl, h1, Nat.le_of_ble_eq_true rfl, fun ys p g1 g2 hp => ?_⟩
  have := sorted_ab h ys g1 g2
  subst this
  exact q p _ _ (fresh_back e2 hp) (e2.trans (Ex.new hp)) upd_same (ImAll.strs _ [("a" : Str), "b"])
end
theorem kr_sortedS {X : Cx} {K : PySem.W.Frag} (h : X.K = K) : CallR X (.builtin "sorted") (rSortedS K) := by subst h; exact cr_sortedS
/-! ### isinstance of own classes -/
structure ClsTy (K : PySem.W.Frag) (C : Addr) : Prop where
  cl : Cls K C
  ha : PySem.W.findIn K (.ref C) "__class__" = some (some (.builtin "object.__class__"))
  hn : PySem.W.specialIn K (.builtin "object.__class__") "__get__" = some (some (.builtin "getset_descriptor.__get__"))
  htk : PySem.W.takesIn K (.builtin "object.__class__") = some true
  hm : PySem.W.mroIn K C (.type "object") = some true
abbrev IsA (K : PySem.W.Frag) (C D : Addr) (b : Bool) : Prop := PySem.W.kitOne K (.ref C) (.ref D) = some b
theorem ei_isC {K : PySem.W.Frag} {σ : L2.St} {H : Hp} {te : TE} {C D : Addr} {fs : List (Str × V)} {b : Bool} (t : ClsTy K C) (i : IsA K C D b) (h : EvX te σ H (IsIns C fs)) : EvI K (tCB (rIsi K) (tCons te (tCons (tC (.ref D)) tNil))) σ H (.bool b) := fun H1 e Q q =>
  h H1 e _ fun x H2 e2 ⟨a, dx, h1, h2⟩ => by
    subst h1
    exact ⟨.ref a, .ref D, .ref C, .ref D, b, rfl, .own D, .base (.ins h2 t.cl t.ha t.hn t.htk t.hm), i, q _ H2 e2 (.bl _)⟩
section
variable {K : PySem.W.Frag}
theorem sqT_kp {l a : Addr} {xs ys : List V} {H H' : Hp} (hl : H l = some (.lst ys)) (k : Kp l H H') (h : SqT K H a xs) : SqT K H' a xs := by
  rcases h with h | h
  · refine .inl ?_
    have ne : a ≠ l := by
      rintro rfl
      rcases h with h | ⟨o', h⟩ <;> rw [hl] at h <;> cases h
    rcases h with h | ⟨o', h⟩
    · exact .inl (k _ _ ne h)
    · exact .inr ⟨o', k _ _ ne h⟩
  · exact .inr h
theorem Im.kp {l : Addr} {ys : List V} {H H' : Hp} {v : V} {d : PyData} (hl : H l = some (.lst ys)) (k : Kp l H H') (h : Im K H v d) : Im K H' v d := Im.carry (fun _ _ q => sqT_kp hl k q) d v h
theorem ImAll.kp {l : Addr} {ys : List V} {H H' : Hp} {v : List V} {d : List PyData} (hl : H l = some (.lst ys)) (k : Kp l H H') (h : ImAll K H v d) : ImAll K H' v d := ImAll.carry (fun _ _ q => sqT_kp hl k q) d v h
end
end DWL
/-! ### the head's facts, with some more -/
namespace DWX
open PySem PySem.Spec PyProof.Rows L2 He DWL
inductive Fx where
  | ty (x : Str)
  | isa (x y : Str) (b : Bool)
  | any (p : PySem.W.Frag → Bool)
def Fx.ok (K : PySem.W.Frag) : Fx → Bool
  | .ty x => eqO (PySem.W.findIn K (.ref (ga K x)) "__class__") (some (some (.builtin "object.__class__"))) && (eqO (PySem.W.specialIn K (.builtin "object.__class__") "__get__") (some (some (.builtin "getset_descriptor.__get__"))) && (decide (PySem.W.takesIn K (.builtin "object.__class__") = some true) && decide (PySem.W.mroIn K (ga K x) (.type "object") = some true)))
  | .isa x y b => decide (PySem.W.kitOne K (.ref (ga K x)) (.ref (ga K y)) = some b)
  | .any p => p K
theorem ty_ok {K : PySem.W.Frag} {x : Str} (cl : Cls K (ga K x)) (c : (Fx.ty x).ok K = true) : ClsTy K (ga K x) := by
  obtain ⟨c1, c⟩ := ba c
  obtain ⟨c2, c⟩ := ba c
  obtain ⟨c3, c4⟩ := ba c
  exact ⟨cl, eqO_ok c1, eqO_ok c2, of_decide_eq_true c3, of_decide_eq_true c4⟩
theorem isa_ok {K : PySem.W.Frag} {x y : Str} {b : Bool} (c : (Fx.isa x y b).ok K = true) : IsA K (ga K x) (ga K y) b := of_decide_eq_true c
def obsX (fa : List Fa) (fx : List Fx) (fn : List DefD) (K : PySem.W.Frag) : Bool × AlD := (fx.all fun f => f.ok K, obsD fa fn K)
def valX (fn : List DefD) : Bool × AlD := (true, valD fn)
def SaysX (fa : List Fa) (fx : List Fx) (fn : List DefD) (K : PySem.W.Frag) : Prop := obsX fa fx fn K = valX fn
def obsXG (n : Nat) (fa : List Fa) (fx : List Fx) (fn : List DefD) (g : Addr → Option Obj) : Bool × AlD := obsX fa fx fn (frG g (asD g n))
def hookX (n : Nat) (fa : List Fa) (fx : List Fx) (fn : List DefD) : PySem.W.Hook where
  α := Bool × AlD
  obs := fun s => obsXG n fa fx fn s.heap.get?
  val := fun _ => valX fn
  says := fun _ h => ∃ K : PySem.W.Frag, K.In h ∧ SaysX fa fx fn K
  of := fun _ _ e => ⟨_, frG_in, e⟩
  keeps := fun _ _ _ ⟨K, hK, c⟩ k => ⟨K, PySem.W.Frag.In.keeps hK k, c⟩
theorem obsXG_eq {n : Nat} {fa : List Fa} {fx : List Fx} {fn : List DefD} {g : Addr → Option Obj} {s : Shared} (h : ∀ a, g a = s.heap.get? a) : obsXG n fa fx fn g = (hookX n fa fx fn).obs s := by
  have e : g = s.heap.get? := funext h
  rw [e] <;> rfl
section
variable {fa : List Fa} {fx : List Fx} {fn : List DefD} {K : PySem.W.Frag}
theorem SaysX.says (c : SaysX fa fx fn K) : SaysD fa fn K := congrArg (fun z : Bool × AlD => z.2) c
theorem SaysX.more (c : SaysX fa fx fn K) (i : Nat) {f : Fx} (h : fx[i]? = some f := by rfl) : f.ok K = true :=
  List.all_eq_true.mp (show (fx.all fun f => f.ok K) = true from congrArg (fun z : Bool × AlD => z.1) c) f (List.mem_of_getElem? h)
end
end DWX
namespace DWL
open PySem PySem.Spec PyProof.Rows L2 Evl DW
section
variable {P : Program} {w : World} {K : PySem.W.Frag} {mg : Str → Option Value} {base : Heap} {CE CO : Addr}
local macro_rules | `(tactic| walk_at "v") => `(tactic| first | exact ei_int | exact ei_str | exact ei_bl | exact ei_non | exact ei_neg ei_int | exact ei_var rfl (Im.int _) | exact ei_var rfl (Im.str _) | exact ei_var rfl (Im.bl _) | exact ei_var rfl (by assumption) | exact et_len rfl (by assumption))
local macro_rules | `(tactic| walk_at "e") => `(tactic| first | walk_at "v" | (apply ei_I0i <;> walk_at "e") | (apply ei_I0b <;> walk_at "e") | (apply ei_chainI <;> walk_at "e") | (apply ei_eqI <;> walk_at "e") | (apply ei_eqS <;> walk_at "e") | (refine' ei_tup ?_ (Nat.le_of_ble_eq_true rfl) <;> walk_at "e") | (apply eai_cons <;> walk_at "e") | exact eai_nil)

theorem tri3_eq {a b c a' b' c' : Int} (h1 : a = a') (h2 : b = b') (h3 : c = c') : tri3 a b c = tri3 a' b' c' := by rw [h1, h2, h3]
theorem tupE {x y : PyData} (e : Int) {e' : Int} (h : x = y) (he : e = e') : PyData.tuple [x, .int e] = PyData.tuple [y, .int e'] := by rw [h, he]
/-! ### within -/
def withD (n k : Nat) : PyData := .tuple [smD (DW.within n k).1, .int ((DW.within n k).2 : Nat)]
def preWithin (K : PySem.W.Frag) : List V → Hp → PyData → Prop := fun vs H d => ∃ t n c, ∃ k : Nat, vs = [t, .int (k : Int)] ∧ Tri K H t n c ∧ k < 3 * (n - 1) ∧ d = withD n k
abbrev s_within : Stmt := top 27
theorem sc_within : FnScope ["triangle", "door", "last"] ["triangle", "door"] (defScope s_within) := ⟨rfl, rfl, rfl, by decide +kernel, rfl, by decide +kernel, by decide +kernel⟩
theorem ok_within (D : Def K mg "within" s_within) (m_len : mg "len" = none) : Callee P w K mg base CX0 1 "within" ["triangle", "door"] (PrI K (preWithin K)) := by
  refine D.ok sc_within (fun _ _ _ _ _ _ us hl => match us, hl with | [_, _], _ => rfl) (fun vs H Q E h => ?_) (fun f cdv A outer s H vs Q E hr h => ?_)
  · obtain ⟨d, ⟨t, n, c, k, rfl, _⟩, _⟩ := h; rfl
  · obtain ⟨d, ⟨t, n, c, k, rfl, hT, hk, rfl⟩, q⟩ := h
    refine ⟨_, (pss_cons (ps_set (i := 2) sc_within.nd rfl (.inl rfl) (pe_op op_sub (pe_callB (kr_len (K := K) rfl) (by rfl) m_len PySem.boot_len (pa_cons (pv 0) pa_nil)) pe_int))
 (pss_cons (ps_if (pt_cmpR op_lt (pv 1) (pv 2) (nomark _))
  (pss_cons (ps_ret (pe_tup (pa_cons (pe_tup (pa_cons pe_int (pa_cons (pv 1) (pa_cons pe_int pa_nil)))) (pa_cons pe_int pa_nil))))
 pss_nil)
  pss_nil)
 (pss_cons (ps_if (pt_cmpR op_lt (pv 1) (pe_op op_mul pe_int (pv 2)) (nomark _))
  (pss_cons (ps_ret (pe_tup (pa_cons (pe_tup (pa_cons (pe_op op_sub (pv 1) (pv 2)) (pa_cons (pe_op op_sub (pe_op op_sub (pe_op op_mul pe_int (pv 2)) (pv 1)) pe_int) (pa_cons pe_int pa_nil)))) (pa_cons pe_int pa_nil))))
 pss_nil)
  pss_nil)
 (pss_cons (ps_ret (pe_tup (pa_cons (pe_tup (pa_cons (pe_op op_sub (pe_op op_sub (pe_op op_mul pe_int (pv 2)) pe_int) (pv 1)) (pa_cons pe_int (pa_cons pe_int pa_nil)))) (pa_cons pe_int pa_nil))))
 pss_nil)))), ?_⟩
    have two := hT.two
    have few := hT.few
    refine y_asgI K (.int ((n : Int) - 1)) (by walk_at "e") ?_
    intro v H1 e1 hv
    obtain rfl := hv.intE
    by_cases h1 : k < n - 1
    · have e : withD n k = .tuple [smD (0, k, 1), .int 0] := by unfold withD DW.within; rw [if_pos h1]; rfl
      rw [e] at q
      refine y_yes (et_to (et_of K (by walk_at "e")) (decide_eq_true (by omega))) ?_
      intro H2 e2
      exact y_retI K _ (by walk_at "e") (fun v H3 e3 r => q v H3 ((e1.trans e2).trans e3) r)
    · refine y_no (et_to (et_of K (by walk_at "e")) (decide_eq_false (by omega))) ?_
      intro H2 e2
      by_cases h2 : k < 2 * (n - 1)
      · have e : withD n k = .tuple [smD (k - (n - 1), 2 * (n - 1) - k - 1, 1), .int 1] := by unfold withD DW.within; rw [if_neg h1, if_pos h2]; rfl
        rw [e] at q
        refine y_yes (et_to (et_of K (ei_I0b (f := fun i j => decide (i < j)) (ei_var rfl (.int _)) (ei_Ii ei_int (ei_var rfl (.int _)) (.inl ⟨by decide, by decide⟩)))) (decide_eq_true (by omega))) ?_
        intro H3 e3
        refine y_retI K _ (EvI.to (ei_tup (eai_cons (ei_tup (eai_cons (ei_I0i (ei_var rfl (.int _)) (ei_var rfl (.int _))) (eai_cons (ei_I0i (ei_I0i (ei_Ii ei_int (ei_var rfl (.int _)) (.inl ⟨by decide, by decide⟩)) (ei_var rfl (.int _))) ei_int) (eai_cons ei_int eai_nil))) (Nat.le_of_ble_eq_true rfl)) (eai_cons ei_int eai_nil)) (Nat.le_of_ble_eq_true rfl)) (tupE 1 (tri3_eq (by first | omega | (dsimp only; omega)) (by first | omega | (dsimp only; omega)) rfl) rfl)) (fun v H4 e4 r => q v H4 ((e1.trans e2).trans (e3.trans e4)) r)
      · have e : withD n k = .tuple [smD (3 * (n - 1) - 1 - k, 0, 1), .int 2] := by unfold withD DW.within; rw [if_neg h1, if_neg h2]; rfl
        rw [e] at q
        refine y_no (et_to (et_of K (ei_I0b (f := fun i j => decide (i < j)) (ei_var rfl (.int _)) (ei_Ii ei_int (ei_var rfl (.int _)) (.inl ⟨by decide, by decide⟩)))) (decide_eq_false (by omega))) ?_
        intro H3 e3
        refine y_retI K _ (EvI.to (ei_tup (eai_cons (ei_tup (eai_cons (ei_I0i (ei_I0i (ei_Ii ei_int (ei_var rfl (.int _)) (.inl ⟨by decide, by decide⟩)) ei_int) (ei_var rfl (.int _))) (eai_cons ei_int (eai_cons ei_int eai_nil))) (Nat.le_of_ble_eq_true rfl)) (eai_cons ei_int eai_nil)) (Nat.le_of_ble_eq_true rfl)) (tupE 2 (tri3_eq (by first | omega | (dsimp only; omega)) rfl rfl) rfl)) (fun v H4 e4 r => q v H4 ((e1.trans e2).trans (e3.trans e4)) r)
/-! ### beyond -/
def beyD (n : Nat) (s : Sm) (e : Nat) : PyData := match DW.beyond n s e with
  | .inl y => .tuple [smD y.1, .int (y.2 : Nat)]
  | .inr k => .tuple [.none, .int (k : Nat)]
def preBeyond (K : PySem.W.Frag) : List V → Hp → PyData → Prop := fun vs H d => ∃ t x n c s, ∃ e : Nat, vs = [t, x, .int (e : Int)] ∧ Tri K H t n c ∧ Im K H x (smD s) ∧ IsSm n s ∧ e < 3 ∧ d = beyD n s e
abbrev s_beyond : Stmt := top 28
theorem sc_beyond : FnScope ["triangle", "small", "step", "row", "place", "up", "last"] ["triangle", "small", "step"] (defScope s_beyond) := ⟨rfl, rfl, rfl, by decide +kernel, rfl, by decide +kernel, by decide +kernel⟩
theorem ok_beyond (D : Def K mg "beyond" s_beyond) (m_len : mg "len" = none) : Callee P w K mg base CX0 1 "beyond" ["triangle", "small", "step"] (PrI K (preBeyond K)) := by
  refine D.ok sc_beyond (fun _ _ _ _ _ _ us hl => match us, hl with | [_, _, _], _ => rfl) (fun vs H Q E h => ?_) (fun f cdv A outer s H vs Q E hr h => ?_)
  · obtain ⟨d, ⟨t, x, n, c, s, e, rfl, _⟩, _⟩ := h; rfl
  · obtain ⟨d, ⟨t, x, n, c, s, e, rfl, hT, hx, hs, he, rfl⟩, q⟩ := h
    refine ⟨_, (pss_cons (ps_asg (pv 1) (kg_tup (K := K) (n := 3) rfl rfl (pgs_cons (pg_name (i := 3) sc_beyond.nd rfl (.inl rfl)) (pgs_cons (pg_name (i := 4) sc_beyond.nd rfl (.inl rfl)) (pgs_cons (pg_name (i := 5) sc_beyond.nd rfl (.inl rfl)) pgs_nil)))))
 (pss_cons (ps_set (i := 6) sc_beyond.nd rfl (.inl rfl) (pe_op op_sub (pe_callB (kr_len (K := K) rfl) (by rfl) m_len PySem.boot_len (pa_cons (pv 0) pa_nil)) pe_int))
 (pss_cons (ps_if (pt_cmpR op_eq (pv 5) pe_int (nomark _))
  (pss_cons (ps_if (pt_cmpR op_eq (pv 2) pe_int (nomark _))
  (pss_cons (ps_ret (pe_tup (pa_cons (pe_tup (pa_cons (pv 3) (pa_cons (pe_op op_add (pv 4) pe_int) (pa_cons pe_int pa_nil)))) (pa_cons pe_int pa_nil))))
 pss_nil)
  pss_nil)
 (pss_cons (ps_ret (pe_ifExp (pt_cmpR op_eq (pv 2) pe_int (nomark _)) (pe_tup (pa_cons (pe_tup (pa_cons (pe_op op_add (pv 3) pe_int) (pa_cons (pv 4) (pa_cons pe_int pa_nil)))) (pa_cons pe_int pa_nil))) (pe_tup (pa_cons (pe_tup (pa_cons (pv 3) (pa_cons (pv 4) (pa_cons pe_int pa_nil)))) (pa_cons pe_int pa_nil)))))
 pss_nil))
  pss_nil)
 (pss_cons (ps_if (pt_cmpR op_eq (pv 2) pe_int (nomark _))
  (pss_cons (ps_ret (pe_ifExp (pt_cmpR op_gt (pv 3) pe_int (nomark _)) (pe_tup (pa_cons (pe_tup (pa_cons (pe_op op_sub (pv 3) pe_int) (pa_cons (pv 4) (pa_cons pe_int pa_nil)))) (pa_cons pe_int pa_nil))) (pe_tup (pa_cons pe_non (pa_cons (pv 4) pa_nil)))))
 pss_nil)
  pss_nil)
 (pss_cons (ps_if (pt_cmpR op_eq (pv 2) pe_int (nomark _))
  (pss_cons (ps_ret (pe_ifExp (pt_cmpR op_lt (pe_op op_add (pv 3) (pv 4)) (pe_op op_sub (pv 6) pe_int) (nomark _)) (pe_tup (pa_cons (pe_tup (pa_cons (pv 3) (pa_cons (pv 4) (pa_cons pe_int pa_nil)))) (pa_cons pe_int pa_nil))) (pe_tup (pa_cons pe_non (pa_cons (pe_op op_add (pv 6) (pv 3)) pa_nil)))))
 pss_nil)
  pss_nil)
 (pss_cons (ps_ret (pe_ifExp (pt_cmpR op_gt (pv 4) pe_int (nomark _)) (pe_tup (pa_cons (pe_tup (pa_cons (pv 3) (pa_cons (pe_op op_sub (pv 4) pe_int) (pa_cons pe_int pa_nil)))) (pa_cons pe_int pa_nil))) (pe_tup (pa_cons pe_non (pa_cons (pe_op op_sub (pe_op op_sub (pe_op op_mul pe_int (pv 6)) pe_int) (pv 3)) pa_nil)))))
 pss_nil)))))), ?_⟩
    have two := hT.two
    have few := hT.few
    refine y_tup (R := fun v H1 => Im K H1 v (smD s)) (ei_var rfl hx) ?_
    intro v H1 e1 hv
    refine g_tup3 hv ?_
    intro x1 x2 x3 g1 g2 g3
    obtain rfl := g1.intE
    obtain rfl := g2.intE
    obtain rfl := g3.intE
    have hT1 := hT.mono e1
    refine y_asgI K (.int ((n : Int) - 1)) (by walk_at "e") ?_
    intro v H2 e2 hv
    obtain rfl := hv.intE
    obtain ⟨r, p, u⟩ := s
    have e02 := e1.trans e2
    rcases hs with ⟨hu, hs⟩ | ⟨hu, hs⟩ <;> dsimp only at hu hs <;> subst hu
    · refine y_no (et_to (et_of K (ei_eqI (ei_var rfl (.int _)) ei_int)) (decide_eq_false (by first | omega | (dsimp only; omega)))) ?_
      intro H3 e3
      rcases DW.e3 he with rfl | rfl | rfl
      · refine y_yes (et_to (et_of K (ei_eqI (ei_var rfl (.int _)) ei_int)) (decide_eq_true (by first | omega | (dsimp only; omega)))) ?_
        intro H4 e4
        refine y_retI K _ (EvI.to (ei_if (b := decide ((0 : Int) < (r : Int))) (d := .tuple [tri3 ((r : Int) - 1) p 0, .int 1]) (e := .tuple [.none, .int p]) (et_of K (by walk_at "e")) (fun _ => by walk_at "e") (fun _ => by walk_at "e")) ?_) (fun v H5 e5 r => q v H5 (e02.trans (e3.trans (e4.trans e5))) r)
        by_cases h : 0 < r
        · rw [if_pos (decide_eq_true (by omega))]
          have : beyD n (r, p, 1) 0 = .tuple [smD (r - 1, p, 0), .int (1 : Nat)] := by simp [beyD, DW.beyond, h]
          rw [this]; exact tupE 1 (tri3_eq (by omega) rfl rfl) rfl
        · rw [if_neg (by simp; omega)]
          have : beyD n (r, p, 1) 0 = .tuple [.none, .int (p : Nat)] := by simp [beyD, DW.beyond, h]
          rw [this]
      · refine y_no (et_to (et_of K (ei_eqI (ei_var rfl (.int _)) ei_int)) (decide_eq_false (by first | omega | (dsimp only; omega)))) ?_
        intro H4 e4
        refine y_yes (et_to (et_of K (ei_eqI (ei_var rfl (.int _)) ei_int)) (decide_eq_true (by first | omega | (dsimp only; omega)))) ?_
        intro H5 e5
        refine y_retI K _ (EvI.to (ei_if (b := decide ((r : Int) + (p : Int) < (n : Int) - 1 - 1)) (d := .tuple [tri3 r p 0, .int 2]) (e := .tuple [.none, .int ((n : Int) - 1 + r)]) (et_of K (by walk_at "e")) (fun _ => by walk_at "e") (fun _ => by walk_at "e")) ?_) (fun v H6 e6 r => q v H6 (e02.trans (e3.trans (e4.trans (e5.trans e6)))) r)
        by_cases h : r + p + 1 < n - 1
        · rw [if_pos (decide_eq_true (by omega))]
          have : beyD n (r, p, 1) 1 = .tuple [smD (r, p, 0), .int (2 : Nat)] := by simp [beyD, DW.beyond, h]
          rw [this]; rfl
        · rw [if_neg (by simp; omega)]
          have : beyD n (r, p, 1) 1 = .tuple [.none, .int ((n - 1 + r : Nat) : Int)] := by simp [beyD, DW.beyond, h]
          rw [this]; exact tupE _ rfl (by omega)
      · refine y_no (et_to (et_of K (ei_eqI (ei_var rfl (.int _)) ei_int)) (decide_eq_false (by first | omega | (dsimp only; omega)))) ?_
        intro H4 e4
        refine y_no (et_to (et_of K (ei_eqI (ei_var rfl (.int _)) ei_int)) (decide_eq_false (by first | omega | (dsimp only; omega)))) ?_
        intro H5 e5
        refine y_retI K _ (EvI.to (ei_if (b := decide ((0 : Int) < (p : Int))) (d := .tuple [tri3 r ((p : Int) - 1) 0, .int 0]) (e := .tuple [.none, .int (3 * ((n : Int) - 1) - 1 - r)]) (et_of K (by walk_at "e")) (fun _ => by walk_at "e") (fun _ => ei_tup (eai_cons ei_non (eai_cons (ei_I0i (ei_I0i (ei_Ii ei_int (ei_var rfl (.int _)) (.inl ⟨by decide, by decide⟩)) ei_int) (ei_var rfl (.int _))) eai_nil)) (Nat.le_of_ble_eq_true rfl))) ?_) (fun v H6 e6 r => q v H6 (e02.trans (e3.trans (e4.trans (e5.trans e6)))) r)
        by_cases h : 0 < p
        · rw [if_pos (decide_eq_true (by omega))]
          have : beyD n (r, p, 1) 2 = .tuple [smD (r, p - 1, 0), .int (0 : Nat)] := by simp [beyD, DW.beyond, h]
          rw [this]; exact tupE 0 (tri3_eq rfl (by first | omega | (dsimp only; omega)) rfl) rfl
        · rw [if_neg (by simp; omega)]
          have : beyD n (r, p, 1) 2 = .tuple [.none, .int ((3 * (n - 1) - 1 - r : Nat) : Int)] := by simp [beyD, DW.beyond, h]
          rw [this]; exact tupE _ rfl (by omega)
    · refine y_yes (et_to (et_of K (ei_eqI (ei_var rfl (.int _)) ei_int)) (decide_eq_true (by first | omega | (dsimp only; omega)))) ?_
      intro H3 e3
      rcases DW.e3 he with rfl | rfl | rfl
      · refine y_yes (et_to (et_of K (ei_eqI (ei_var rfl (.int _)) ei_int)) (decide_eq_true (by first | omega | (dsimp only; omega)))) ?_
        intro H4 e4
        refine y_retI K _ (EvI.to (d := .tuple [tri3 r ((p : Int) + 1) 1, .int 2]) (by walk_at "e") ?_) (fun v H5 e5 r => q v H5 (e02.trans (e3.trans (e4.trans e5))) r)
        have : beyD n (r, p, 0) 0 = .tuple [smD (r, p + 1, 1), .int (2 : Nat)] := by simp [beyD, DW.beyond]
        rw [this]; exact tupE 2 (tri3_eq rfl (by first | omega | (dsimp only; omega)) rfl) rfl
      · refine y_no (et_to (et_of K (ei_eqI (ei_var rfl (.int _)) ei_int)) (decide_eq_false (by first | omega | (dsimp only; omega)))) ?_
        intro H4 e4
        refine y_retI K _ (EvI.to (ei_if (b := true) (d := .tuple [tri3 ((r : Int) + 1) p 1, .int 0]) (e := .tuple [tri3 r p 1, .int 1]) (et_to (et_of K (ei_eqI (ei_var rfl (.int _)) ei_int)) (decide_eq_true (by first | omega | (dsimp only; omega)))) (fun _ => by walk_at "e") (fun _ => by walk_at "e")) ?_) (fun v H5 e5 r => q v H5 (e02.trans (e3.trans (e4.trans e5))) r)
        have : beyD n (r, p, 0) 1 = .tuple [smD (r + 1, p, 1), .int (0 : Nat)] := by simp [beyD, DW.beyond]
        rw [this]; exact tupE 0 (tri3_eq (by omega) rfl rfl) rfl
      · refine y_no (et_to (et_of K (ei_eqI (ei_var rfl (.int _)) ei_int)) (decide_eq_false (by first | omega | (dsimp only; omega)))) ?_
        intro H4 e4
        refine y_retI K _ (EvI.to (ei_if (b := false) (d := .tuple [tri3 ((r : Int) + 1) p 1, .int 0]) (e := .tuple [tri3 r p 1, .int 1]) (et_to (et_of K (ei_eqI (ei_var rfl (.int _)) ei_int)) (decide_eq_false (by first | omega | (dsimp only; omega)))) (fun _ => by walk_at "e") (fun _ => by walk_at "e")) ?_) (fun v H5 e5 r => q v H5 (e02.trans (e3.trans (e4.trans e5))) r)
        have : beyD n (r, p, 0) 2 = .tuple [smD (r, p, 1), .int (1 : Nat)] := by simp [beyD, DW.beyond]
        rw [this]; rfl
/-! ### other_doors -/
theorem corN_at (s : Sm) {a : Nat} (h : a < 3) : ((corN s).map spD)[a]? = some (spD (cor s a)) := by
  rcases DW.e3 h with rfl | rfl | rfl <;> rfl
def preOther (K : PySem.W.Frag) : List V → Hp → List PyData → Prop := fun vs H ds => ∃ t x n c s, ∃ (i : Int) (e : Nat), vs = [t, x, .int i] ∧ Tri K H t n c ∧ Im K H x (smD s) ∧ IsSm n s ∧ (∀ a : Nat, a < 3 → ((a : Int) = i ↔ a = e)) ∧ ds = (others c s e).map fun a : Nat => .int (a : Int)
abbrev s_other_doors : Stmt := top 29
theorem sc_other_doors : FnScope ["triangle", "small", "step", "spots", "found", "at"] ["triangle", "small", "step"] (defScope s_other_doors) := ⟨rfl, rfl, rfl, by decide +kernel, rfl, by decide +kernel, by decide +kernel⟩
theorem ok_other_doors (D : Def K mg "other_doors" s_other_doors) (c_corners : Callee P w K mg base CX0 1 "corners" ["small"] (PrN K (preCorners K))) (c_step_of : Callee P w K mg base CX0 1 "step_of" ["triangle", "one", "other"] (PrI K (preStepOf K))) (m_range : mg "range" = none) :
    Callee P w K mg base CX0 2 "other_doors" ["triangle", "small", "step"] (PrN K (preOther K)) := by
  refine D.ok sc_other_doors (fun _ _ _ _ _ _ us hl => match us, hl with | [_, _, _], _ => rfl) (fun vs H Q E h => ?_) (fun f cdv A outer s H vs Q E hr h => ?_)
  · obtain ⟨d, ⟨t, x, n, c, s, i, e, rfl, _⟩, _⟩ := h; rfl
  · obtain ⟨d, ⟨t, x, n, c, s, i, e, rfl, hT, hx, hs, hi, rfl⟩, q⟩ := h
    refine ⟨_, (pss_cons (ps_set (i := 3) sc_other_doors.nd rfl (.inl rfl) (pe_callC c_corners (hr.mono (by decide)) (by rfl) (pa_cons (pv 1) pa_nil)))
 (pss_cons (ps_set (i := 4) sc_other_doors.nd rfl (.inl rfl) (pe_lst pa_nil))
 (pss_cons (ps_for PassesOwn.never rfl (pi_range1 (by rfl) m_range (pa_cons pe_int pa_nil)) (pg_name (i := 5) sc_other_doors.nd rfl (.inl rfl))
  (pss_cons (ps_if (PW.pt (pw_and (pt_cmpR op_ne (pv 5) (pv 2) (nomark _)) (pw_and1 (pt_cmpR op_ne (pe_callC c_step_of (hr.mono (by decide)) (by rfl) (pa_cons (pv 0) (pa_cons (pe_ix (kx_list (K := K) rfl) (pv 3) (pv 5) (fun _ _ => rfl)) (pa_cons (pe_ix (kx_list (K := K) rfl) (pv 3) (pe_op op_mod (pe_op op_add (pv 5) pe_int) pe_int) (fun _ _ => rfl)) pa_nil)))) pe_int (nomark _)))))
  (pss_cons (ps_expr (ke_bm (K := K) rfl PySem.F.plainAttrs_list PySem.F.slot_list_append PySem.F.type_list_append mt_append (pv 4) (pa_cons (pv 5) pa_nil)))
 pss_nil)
  pss_nil)
 pss_nil))
 (pss_cons (ps_ret (pv 4))
 pss_nil)))), ?_⟩
    refine y_asg (fun v H1 => Ls K H1 v ((corN s).map spD)) (EvN.k (en_call (eax1 (R1 := fun v H1 => Im K H1 v (smD s)) (ei_var rfl hx)) ?_)) ?_
    · rintro vs H2 e2 ⟨a, rfl, h1⟩
      exact ⟨a, s.1, s.2.1, s.2.2, rfl, h1, (corI_sm hs).symm⟩
    intro sp H1 e1 hS
    refine y_asgG K [] (en_lst eai_nil (Nat.zero_le _)) ?_
    intro l H2 g2
    have cin := cor_in hs
    have cm : ∀ {a : Nat}, a < 3 → (cor s a).1 + (cor s a).2 < n := fun {a} h => cin _ (by
      rcases DW.e3 h with rfl | rfl | rfl <;> simp [corN])
    refine x_forR (K := K) (n := 3) (eai_cons ei_int eai_nil) (by omega) (fun j σ' H' => (∃ y5, σ' = [some t, some x, some (.int i), some sp, some (.ref l), y5]) ∧ Grow K H1 H' l (((List.range j).filter fun a => decide (a ≠ e ∧ ed c s a ≠ 0)).map fun a : Nat => .int (a : Int))) (fun H3 e3 => ⟨⟨none, rfl⟩, g2.go e3⟩) ?_ ?_
    · rintro j σ3 H3 hj ⟨⟨y5, rfl⟩, g3⟩
      have hj : j < 3 := by omega
      have hS3 := hS.mono g3.ex
      have hT3 := hT.mono (e1.trans g3.ex)
      have hm : (j + 1) % 3 < 3 := Nat.mod_lt _ (by omega)
      refine y_when (decide (j ≠ e ∧ ed c s j ≠ 0)) ?_ ?_ ?_
      · apply et_to
        · apply et_and
          · exact et_of K (ei_neI (ei_var rfl (.int _)) (ei_var rfl (.int _)))
          · intro _
            refine et_of K (ei_neI (i := ed c s j) (j := 0) (ei_call (eax3 (R1 := fun v H1 => Tri K H1 v n c) (R2 := fun v H1 => Im K H1 v (spD (cor s j))) (R3 := fun v H1 => Im K H1 v (spD (cor s ((j + 1) % 3)))) (ex_var rfl fun H1 e => hT3.mono e) (fun _ _ _ e h => h.mono e)
              (ei_ixK (ek_var rfl hS3) (ei_var (v := .int (j : Int)) rfl (.int _)) (atI_nat (corN_at s hj))) mI (ei_ixK (i := (((j + 1) % 3 : Nat) : Int)) (ek_var rfl hS3) (EvI.to (ei_Ii (ei_I0i (ei_var (v := .int (j : Int)) rfl (.int _)) ei_int) ei_int (by decide)) (by rw [Int.natCast_emod]; rfl)) (atI_nat (corN_at s hm)))) ?_) ei_int)
            rintro vs H1 e ⟨a, b, d, rfl, h1, h2, h3⟩
            exact ⟨a, b, d, n, c, _, _, rfl, h1, h2, h3, cm hj, cm hm, by rw [ed_cor c s hj]⟩
        · have := hi j hj
          by_cases h1 : j = e
          · have h2 := this.mpr h1
            simp [h1]
            intro h3; exact absurd (by rw [← h1]; exact h2) h3
          · have h2 : ¬ (j : Int) = i := fun q => h1 (this.mp q)
            simp [h1, h2]
      · intro hb H4 e4
        refine x_appQ (d := .int (j : Int)) (g3.go e4) (evv_var rfl) (ei_var rfl (.int _)) ?_ ?_
        · have : (((List.range j).filter fun a => decide (a ≠ e ∧ ed c s a ≠ 0))).length ≤ (List.range j).length := List.length_filter_le ..
          rw [List.length_map]; rw [List.length_range] at this; omega
        · intro H5 g5 _
          refine ⟨⟨_, rfl⟩, ?_⟩
          rw [List.range_succ, List.filter_append, List.filter_cons_of_pos (p := fun a => decide (a ≠ e ∧ ed c s a ≠ 0)) hb, List.filter_nil, List.map_append]
          exact g5
      · intro hb H4 e4
        refine ⟨⟨_, rfl⟩, ?_⟩
        rw [List.range_succ, List.filter_append, List.filter_cons_of_neg (p := fun a => decide (a ≠ e ∧ ed c s a ≠ 0)) (by rw [hb]; decide), List.filter_nil, List.append_nil]
        exact g3.go e4
    · rintro σ3 H3 ⟨⟨y5, rfl⟩, g3⟩
      obtain ⟨xs, h5, h6⟩ := g3.has
      exact ⟨.ref l, rfl, q l xs H3 (fresh_back e1 g3.fresh) (e1.trans g3.ex) h5 h6⟩
end
end DWL
namespace DWL
open PySem PySem.Spec PyProof.Rows L2 Evl DW
section
variable {P : Program} {w : World} {K : PySem.W.Frag} {mg : Str → Option Value} {base : Heap} {CE CO : Addr}
local macro_rules | `(tactic| walk_at "v") => `(tactic| first | exact ei_int | exact ei_str | exact ei_bl | exact ei_non | exact ei_neg ei_int | exact ei_var rfl (Im.int _) | exact ei_var rfl (Im.str _) | exact ei_var rfl (Im.bl _) | exact ei_var rfl (by assumption) | exact et_len rfl (by assumption))
local macro_rules | `(tactic| walk_at "e") => `(tactic| first | walk_at "v" | (apply ei_I0i <;> walk_at "e") | (apply ei_I0b <;> walk_at "e") | (apply ei_chainI <;> walk_at "e") | (apply ei_eqI <;> walk_at "e") | (apply ei_eqS <;> walk_at "e") | (refine' ei_tup ?_ (Nat.le_of_ble_eq_true rfl) <;> walk_at "e") | (apply eai_cons <;> walk_at "e") | exact eai_nil)

def wCls (CE CO : Addr) : Fn → Addr
  | .ended => CE
  | .out _ => CO
def wFld (p : Addr) : Fn → List (Str × V)
  | .ended => [("smalls", .ref p)]
  | .out k => [("smalls", .ref p), ("door", .int (k : Nat))]
/-- a walk as an answer: a new object, its list new -/
def IsWalk (K : PySem.W.Frag) (CE CO : Addr) (H0 : Hp) (L : List Sm) (z : Fn) : V → Hp → Prop := fun v H' => ∃ x dx p, v = .ref x ∧ H' x = some (.ins (wCls CE CO z) dx (wFld p z)) ∧ H0 x = none ∧ Grow K H0 H' p (L.map smD)
theorem IsWalk.mono {H0 H1 H2 : Hp} {L : List Sm} {z : Fn} {v : V} (e : Ex H1 H2) (h : IsWalk K CE CO H0 L z v H1) : IsWalk K CE CO H0 L z v H2 := by
  obtain ⟨x, dx, p, h1, h2, h3, h4⟩ := h
  exact ⟨x, dx, p, h1, e _ _ h2, h3, h4.go e⟩
theorem IsWalk.back {H0 H1 H2 : Hp} {L : List Sm} {z : Fn} {v : V} (e : Ex H0 H1) (h : IsWalk K CE CO H1 L z v H2) : IsWalk K CE CO H0 L z v H2 := by
  obtain ⟨x, dx, p, h1, h2, h3, h4⟩ := h
  exact ⟨x, dx, p, h1, h2, fresh_back e h3, h4.back e⟩
theorem ex_callQ {ta : TA} {σ : L2.St} {H : Hp} {R : V → Hp → Prop} {Pa : List V → Hp → Prop} {sp : Sp} {E : XK} (h : EvAX ta σ H Pa) (hp : ∀ vs H1 Q, Ex H H1 → Pa vs H1 → (∀ v H2, Ex H1 H2 → R v H2 → Q v H2) → sp vs H1 Q E) : EvX (tCall sp [] E ta) σ H R := fun H1 e Q q =>
  h H1 e _ fun vs H2 e2 p => by rw [List.append_nil]; exact hp vs H2 Q (e.trans e2) p fun v H3 e3 r => q v H3 (e2.trans e3) r
def spWalked (K : PySem.W.Frag) (CE CO : Addr) : Sp := fun vs H Q _ => ∃ t x i e n c s L z, vs = [t, x, .int i] ∧ Tri K H t n c ∧ Im K H x (smD s) ∧ (∀ a : Nat, a < 3 → ((a : Int) = i ↔ a = e)) ∧ Goes n c s e L z ∧ (∀ s ∈ L, IsSm n s) ∧ L.length ≤ 30000 ∧ ∀ v H', Ex H H' → IsWalk K CE CO H L z v H' → Q v H'
theorem goes_head {n : Nat} {c : Nat → Nat → Nat} {s : Sm} {e : Nat} {L : List Sm} {z : Fn} (h : Goes n c s e L z) : ∃ t, L = s :: t := by
  cases h with
  | stop _ => exact ⟨[], rfl⟩
  | leave _ _ => exact ⟨[], rfl⟩
  | step _ _ _ => exact ⟨_, rfl⟩
theorem others_lt {c : Nat → Nat → Nat} {s : Sm} {e o : Nat} {t : List Nat} (h : others c s e = o :: t) : o < 3 := by
  have : o ∈ others c s e := by rw [h]; exact List.mem_cons_self
  have := (List.mem_filter.mp this).1
  simp at this; omega
theorem nat_iff {e : Nat} : ∀ a : Nat, a < 3 → ((a : Int) = ((e : Nat) : Int) ↔ a = e) := fun a _ => by omega
theorem ei_isN0 {ta : TE} {σ : L2.St} {H : Hp} (ha : EvI K ta σ H .none) : EvI K (tOp (fun x y H Q => y = .non ∧ Q (.bl (decide (x = .non))) H) ta (tC .non)) σ H (.bool true) :=
  ex_op ha mI evv_c fun x y H1 _ r1 r2 Q q => by
    refine ⟨r2, q _ H1 (Ex.refl H1) ?_⟩
    cases r1
    exact .bl true
theorem eqv_nats (l : List Nat) : PyData.eqv (.list (l.map fun a : Nat => PyData.int (a : Int))) (.list []) = l.isEmpty := by
  cases l <;> rfl
theorem ev_others {t x : V} {σ : L2.St} {H : Hp} {n : Nat} {c : Nat → Nat → Nat} {s : Sm} {i : Int} {e a b d : Nat} (ht : σ[a]? = some (some t)) (hT : Tri K H t n c) (hx : σ[b]? = some (some x)) (hs : Im K H x (smD s)) (h : IsSm n s) (hi : σ[d]? = some (some (.int i))) (he : ∀ a : Nat, a < 3 → ((a : Int) = i ↔ a = e)) :
    EvN K (tCall (PrN K (preOther K)) [] E0 (tCons (tVar a) (tCons (tVar b) (tCons (tVar d) tNil)))) σ H ((others c s e).map fun a : Nat => .int (a : Int)) := by
  refine en_call (eax3 (R1 := fun v H1 => Tri K H1 v n c) (R2 := fun v H1 => Im K H1 v (smD s)) (R3 := fun v H1 => Im K H1 v (.int i)) (ex_var ht fun H1 e => hT.mono e) (fun _ _ _ e h => h.mono e) (ei_var hx hs) mI (ei_var hi (.int _))) ?_
  rintro vs H1 e1 ⟨p, q, r, rfl, h1, h2, h3⟩
  cases h3
  exact ⟨p, q, n, c, s, i, e, rfl, h1, h2, h, he, rfl⟩
abbrev s_walked : Stmt := top 30
theorem sc_walked : FnScope ["triangle", "small", "step", "found", "later"] ["triangle", "small", "step"] (defScope s_walked) := ⟨rfl, rfl, rfl, by decide +kernel, rfl, by decide +kernel, by decide +kernel⟩
theorem ok_walked (D : Def K mg "walked" s_walked) (c_other_doors : Callee P w K mg base CX0 2 "other_doors" ["triangle", "small", "step"] (PrN K (preOther K))) (c_beyond : Callee P w K mg base CX0 1 "beyond" ["triangle", "small", "step"] (PrI K (preBeyond K)))
    (g_Ended : mg "Ended" = some (.ref CE)) (g_Out : mg "Out" = some (.ref CO)) (c_Ended : CalleeI P w K mg base CX0 1 CE ["self", "smalls"] (spIniL K CE [])) (c_Out : CalleeI P w K mg base CX0 1 CO ["self", "smalls", "door"] (spIniL K CO ["door"])) :
    Callee P w K mg base CX0 3 "walked" ["triangle", "small", "step"] (spWalked K CE CO) := by
  refine D.ok sc_walked (fun _ _ _ _ _ _ us hl => match us, hl with | [_, _, _], _ => rfl) (fun vs H Q E h => ?_) (fun f cdv A outer s H vs Q E hr h => ?_)
  · obtain ⟨t, x, i, e, n, c, s, L, z, rfl, _⟩ := h; rfl
  · obtain ⟨t, x, i, e, n, c, s, L, z, rfl, hT, hx, hi, hg, hsm, hl, q⟩ := h
    refine ⟨_, (pss_cons (ps_set (i := 3) sc_walked.nd rfl (.inl rfl) (pe_lst (pa_cons (pv 1) pa_nil)))
 (pss_cons (ps_set (i := 4) sc_walked.nd rfl (.inl rfl) (pe_callC c_other_doors (hr.mono (by decide)) (by rfl) (pa_cons (pv 0) (pa_cons (pv 1) (pa_cons (pv 2) pa_nil)))))
 (pss_cons (ps_while PassesOwn.never (pt_cmpR (ko_neD (K := K) rfl (by exact hr.units)) (pv 4) (pe_lst pa_nil) (nomark _))
  (pss_cons (ps_asg (pe_callC c_beyond (hr.mono (by decide)) (by rfl) (pa_cons (pv 0) (pa_cons (pe_ix (kx_list (K := K) rfl) (pv 3) (pe_un un_neg pe_int) (fun _ _ => rfl)) (pa_cons (pe_ix (kx_list (K := K) rfl) (pv 4) pe_int (fun _ _ => rfl)) pa_nil)))) (kg_tup (K := K) (n := 2) rfl rfl (pgs_cons (pg_name (i := 1) sc_walked.nd rfl (.inl rfl)) (pgs_cons (pg_name (i := 2) sc_walked.nd rfl (.inl rfl)) pgs_nil))))
 (pss_cons (ps_if (pt_cmpR op_isN (pv 1) pe_non (nomark _))
  (pss_cons (ps_ret (pe_makeC c_Out g_Out (hr.mono (by decide)) (by rfl) (pa_cons (pv 3) (pa_cons (pv 2) pa_nil))))
 pss_nil)
  pss_nil)
 (pss_cons (ps_expr (ke_bm (K := K) rfl PySem.F.plainAttrs_list PySem.F.slot_list_append PySem.F.type_list_append mt_append (pv 3) (pa_cons (pv 1) pa_nil)))
 (pss_cons (ps_set (i := 4) sc_walked.nd rfl (.inl rfl) (pe_callC c_other_doors (hr.mono (by decide)) (by rfl) (pa_cons (pv 0) (pa_cons (pv 1) (pa_cons (pv 2) pa_nil)))))
 pss_nil)))))
 (pss_cons (ps_ret (pe_makeC c_Ended g_Ended (hr.mono (by decide)) (by rfl) (pa_cons (pv 3) pa_nil)))
 pss_nil)))), ?_⟩
    have hs : IsSm n s := by
      obtain ⟨tl, rfl⟩ := goes_head hg
      exact hsm s List.mem_cons_self
    refine y_asgG K [smD s] (en_lst (eai_cons (ei_var rfl hx) eai_nil) (Nat.le_of_ble_eq_true rfl)) ?_
    intro l H1 g1
    refine y_asg (fun v H2 => Ls K H2 v ((others c s e).map fun a : Nat => .int (a : Int))) (EvN.k (ev_others rfl (hT.mono g1.ex) rfl (hx.mono g1.ex) hs rfl hi)) ?_
    intro lt H2 e2 hO
    refine q_while (fun m σ' H' => ∃ x' i' e' s' pre L' lt', σ' = [some t, some x', some (.int i'), some (.ref l), some lt'] ∧ Grow K H H' l ((pre ++ [s']).map smD) ∧ Ls K H' lt' ((others c s' e').map fun a : Nat => .int (a : Int)) ∧ pre ++ L' = L ∧ Goes n c s' e' L' z ∧ m = L'.length) L.length ⟨x, i, e, s, [], L, lt, rfl, g1.go e2, hO, rfl, hg, rfl⟩ ?_
    rintro m σ' H3 ⟨x', i', e', s', pre, L', lt', rfl, g3, hO3, hL, hg', rfl⟩
    obtain ⟨tl, htl⟩ := goes_head hg'
    have hs' : IsSm n s' := hsm s' (by rw [← hL, htl]; simp)
    have hlen : (pre ++ [s']).length ≤ 30000 := by
      have : (pre ++ L').length ≤ 30000 := by rw [hL]; exact hl
      rw [htl] at this
      simp at this ⊢; omega
    refine ⟨!(others c s' e').isEmpty, ?_, ?_, ?_⟩
    · refine et_to (et_of K (ei_neD (ek_var rfl hO3).toD (EvN.toD (en_lst eai_nil (Nat.zero_le _))) (Shp.list (k := 0) (shp_nats _)).ok rfl)) ?_
      rw [eqv_nats]
    · intro hb H4 e4
      have hT4 := hT.mono (g3.ex.trans e4)
      replace g3 := g3.go e4
      have hO4 := hO3.mono e4
      refine ⟨fun σ2 H2 => ∃ x' i' e' s' pre L2 lt', σ2 = [some t, some x', some (.int i'), some (.ref l), some lt'] ∧ Grow K H H2 l ((pre ++ [s']).map smD) ∧ Ls K H2 lt' ((others c s' e').map fun a : Nat => .int (a : Int)) ∧ pre ++ L2 = L ∧ Goes n c s' e' L2 z ∧ L2.length < L'.length, ?_, ?_⟩
      · rintro σ2 H2 ⟨x2, i2, e2, s2, pre2, L2, lt2, r1, r2, r3, r4, r5, r6⟩
        exact ⟨L2.length, r6, x2, i2, e2, s2, pre2, L2, lt2, r1, r2, r3, r4, r5, rfl⟩
      cases ho : others c s' e' with
      | nil => rw [ho] at hb; cases hb
      | cons o tl2 =>
        have olt := others_lt ho
        refine y_tup (R := fun v H1 => Im K H1 v (beyD n s' o)) (ei_call (eax3 (R1 := fun v H1 => Tri K H1 v n c) (R2 := fun v H1 => Im K H1 v (smD s')) (R3 := fun v H1 => Im K H1 v (.int (o : Int))) (ex_var rfl fun H1 e => hT4.mono e) (fun _ _ _ e h => h.mono e)
          (ei_ixK (em_var rfl g3.ls).k (ei_neg ei_int) (by rw [List.map_append]; exact atI_last _ _)) mI (ei_ixK (ek_var rfl hO4) ei_int (by rw [ho]; exact atI_nat (j := 0) rfl))) ?_) ?_
        · rintro vs H1 e1 ⟨p, q, r, rfl, h1, h2, h3⟩
          cases h3
          exact ⟨p, q, n, c, s', o, rfl, h1, h2, hs', olt, rfl⟩
        intro bv H5 e5 hbv
        replace g3 := g3.go e5
        have hT5 := hT4.mono e5
        cases hg' with
        | stop h => rw [ho] at h; cases h
        | leave h hbey =>
          rw [ho] at h; cases h
          rename_i k
          have : beyD n s' o = .tuple [.none, .int (k : Nat)] := by unfold beyD; rw [hbey]
          rw [this] at hbv
          refine g_tup2 hbv ?_
          intro y1 y2 hy1 hy2
          obtain rfl := hy2.intE
          refine y_yes (et_of K (ei_isN0 (ei_var rfl hy1))) ?_
          intro H6 e6
          replace g3 := g3.go e6
          refine y_ret (IsWalk K CE CO H6 ((pre ++ [s'])) (.out k)) (ex_makeL (ds := (pre ++ [s']).map smD) (eax2 (R1 := fun v H1 => Ls K H1 v ((pre ++ [s']).map smD)) (ek_var rfl g3.ls.ls) mK (R2 := fun v H1 => Im K H1 v (.int (k : Nat))) (ei_var rfl (.int _))) ?_ ?_) ?_
          · rintro vs H1 ⟨b, c', rfl, h, _⟩; exact ⟨b, [c'], rfl, rfl, h⟩
          · rintro v rest H1 x dx p e ⟨H0, ⟨b, c', hb, _, hc'⟩, _⟩ hx hn g
            cases hb; cases hc'; exact ⟨x, dx, p, rfl, hx, hn, g⟩
          · intro v H7 e7 hW
            have eL : pre ++ [s'] = L := hL
            rw [eL] at hW
            exact q v H7 (g3.ex.trans e7) (hW.back g3.ex)
        | step h hbey hg2 =>
          rw [ho] at h; cases h
          rename_i s2 e2' L2
          have : beyD n s' o = .tuple [smD s2, .int (e2' : Nat)] := by unfold beyD; rw [hbey]
          rw [this] at hbv
          have hs2 : IsSm n s2 := by
            obtain ⟨t3, ht3⟩ := goes_head hg2
            exact hsm s2 (by rw [← hL, ht3]; simp)
          refine g_tup2 hbv ?_
          intro y1 y2 hy1 hy2
          obtain rfl := hy2.intE
          refine y_no (et_of K (ei_isN (ei_var rfl hy1) (by intro h; cases h))) ?_
          intro H6 e6
          replace g3 := g3.go e6
          have hy6 := hy1.mono e6
          refine x_appR (d := smD s2) g3 (evv_var rfl) (ei_var rfl hy6) (by rw [List.length_map]; omega) ?_
          intro H7 g7 _ keep
          obtain ⟨xs6, hl6, _⟩ := g3.has
          have hy7 := hy6.kp hl6 keep
          have eq : (pre ++ [s']).map smD ++ [smD s2] = ((pre ++ [s']) ++ [s2]).map smD := by rw [List.map_append (l₁ := pre ++ [s'])]; rfl
          rw [eq] at g7
          have hT7 := hT.mono g7.ex
          refine y_asg (fun v H2 => Ls K H2 v ((others c s2 e2').map fun a : Nat => .int (a : Int))) (EvN.k (ev_others rfl hT7 rfl hy7 hs2 rfl nat_iff)) ?_
          intro lt3 H8 e8 hO8
          exact ⟨y1, (e2' : Int), e2', s2, pre ++ [s'], L2, lt3, rfl, g7.go e8, hO8, by rw [← hL]; simp, hg2, by simp⟩
    · intro hb H4 e4
      replace g3 := g3.go e4
      have ho : others c s' e' = [] := by
        cases h : others c s' e' with
        | nil => rfl
        | cons _ _ => rw [h] at hb; cases hb
      cases hg' with
      | stop h =>
        refine y_ret (IsWalk K CE CO H4 (pre ++ [s']) .ended) (ex_makeL (ds := (pre ++ [s']).map smD) (eax1 (R1 := fun v H1 => Ls K H1 v ((pre ++ [s']).map smD)) (ek_var rfl g3.ls.ls)) ?_ ?_) ?_
        · rintro vs H1 ⟨b, rfl, h⟩; exact ⟨b, [], rfl, rfl, h⟩
        · rintro v rest H1 x dx p e ⟨H0, ⟨b, hb, _⟩, _⟩ hx hn g
          cases hb; exact ⟨x, dx, p, rfl, hx, hn, g⟩
        · intro v H7 e7 hW
          have eL : pre ++ [s'] = L := hL
          rw [eL] at hW
          exact q v H7 (g3.ex.trans e7) (hW.back g3.ex)
      | leave h _ => rw [ho] at h; cases h
      | step h _ _ => rw [ho] at h; cases h
/-! ### walk, walk_out -/
def spWalk (K : PySem.W.Frag) (CE CO : Addr) : Sp := fun vs H Q _ => ∃ t n c, ∃ k : Nat, ∃ L z, vs = [t, .int (k : Int)] ∧ Tri K H t n c ∧ k ∈ doors n c ∧ Goes n c (DW.within n k).1 (DW.within n k).2 L z ∧ (∀ s ∈ L, IsSm n s) ∧ L.length ≤ 30000 ∧ ∀ v H', Ex H H' → IsWalk K CE CO H L z v H' → Q v H'
def spWalkOut (K : PySem.W.Frag) (CE CO : Addr) : Sp := fun vs H Q _ => ∃ t x n c s L z, vs = [t, x] ∧ Tri K H t n c ∧ Im K H x (smD s) ∧ IsSm n s ∧ tnS c s ≠ 0 ∧ Goes n c s 3 L z ∧ (∀ s ∈ L, IsSm n s) ∧ L.length ≤ 30000 ∧ ∀ v H', Ex H H' → IsWalk K CE CO H L z v H' → Q v H'
theorem ex_walked {ta tb tc : TE} {σ : L2.St} {H : Hp} {n : Nat} {c : Nat → Nat → Nat} {s : Sm} {i : Int} {e : Nat} {L : List Sm} {z : Fn} (h1 : EvX ta σ H fun v H1 => Tri K H1 v n c) (h2 : EvI K tb σ H (smD s)) (h3 : EvI K tc σ H (.int i)) (hi : ∀ a : Nat, a < 3 → ((a : Int) = i ↔ a = e)) (hg : Goes n c s e L z) (hsm : ∀ s ∈ L, IsSm n s) (hl : L.length ≤ 30000) :
    EvX (tCall (spWalked K CE CO) [] E0 (tCons ta (tCons tb (tCons tc tNil)))) σ H (IsWalk K CE CO H L z) := by
  refine ex_callQ (eax3 h1 (fun _ _ _ e h => h.mono e) h2 mI h3) ?_
  rintro vs H1 Q e1 ⟨a, b, d, rfl, g1, g2, g3⟩ q
  cases g3
  exact ⟨a, b, i, e, n, c, s, L, z, rfl, g1, g2, hi, hg, hsm, hl, fun v H2 e2 hW => q v H2 e2 (hW.back e1)⟩
theorem doors_lt {n : Nat} {c : Nat → Nat → Nat} {k : Nat} (h : k ∈ doors n c) : k < 3 * (n - 1) ∧ stepAt n c k ≠ 0 := by
  obtain ⟨h1, h2⟩ := List.mem_filter.mp h
  exact ⟨List.mem_range.mp h1, of_decide_eq_true h2⟩
abbrev s_walk : Stmt := top 31
theorem sc_walk : FnScope ["triangle", "door", "small", "step"] ["triangle", "door"] (defScope s_walk) := ⟨rfl, rfl, rfl, by decide +kernel, rfl, by decide +kernel, by decide +kernel⟩
theorem ok_walk (D : Def K mg "walk" s_walk) (c_asked_triangle : Callee P w K mg base CX0 1 "asked_triangle" ["triangle"] (spAskedT K)) (c_is_number : Callee P w K mg base CX0 1 "is_number" ["thing"] (PrI K (preIsNumber K))) (c_doors : Callee P w K mg base CX0 2 "doors" ["triangle"] (spDoors K)) (c_within : Callee P w K mg base CX0 1 "within" ["triangle", "door"] (PrI K (preWithin K)))
    (c_walked : Callee P w K mg base CX0 3 "walked" ["triangle", "small", "step"] (spWalked K CE CO)) : Callee P w K mg base CX0 4 "walk" ["triangle", "door"] (spWalk K CE CO) := by
  refine D.ok sc_walk (fun _ _ _ _ _ _ us hl => match us, hl with | [_, _], _ => rfl) (fun vs H Q E h => ?_) (fun f cdv A outer s H vs Q E hr h => ?_)
  · obtain ⟨t, n, c, k, L, z, rfl, _⟩ := h; rfl
  · obtain ⟨t, n, c, k, L, z, rfl, hT, hk, hg, hsm, hl, q⟩ := h
    refine ⟨_, (pss_cons (ps_expr (pe_callC c_asked_triangle (hr.mono (by decide)) (by rfl) (pa_cons (pv 0) pa_nil)))
 (pss_cons (ps_if (PW.pt (pw_or (pt_not (pt_val (pe_callC c_is_number (hr.mono (by decide)) (by rfl) (pa_cons (pv 1) pa_nil)))) (pw_or1 (pt_cmpR (ko_ni (K := K) rfl) (pv 1) (pe_callC c_doors (hr.mono (by decide)) (by rfl) (pa_cons (pv 0) pa_nil)) rfl))))
  (pss_cons ps_never
 pss_nil)
  pss_nil)
 (pss_cons (ps_asg (pe_callC c_within (hr.mono (by decide)) (by rfl) (pa_cons (pv 0) (pa_cons (pv 1) pa_nil))) (kg_tup (K := K) (n := 2) rfl rfl (pgs_cons (pg_name (i := 2) sc_walk.nd rfl (.inl rfl)) (pgs_cons (pg_name (i := 3) sc_walk.nd rfl (.inl rfl)) pgs_nil))))
 (pss_cons (ps_ret (pe_callC c_walked (hr.mono (by decide)) (by rfl) (pa_cons (pv 0) (pa_cons (pv 2) (pa_cons (pv 3) pa_nil)))))
 pss_nil)))), ?_⟩
    obtain ⟨k1, k2⟩ := doors_lt hk
    refine drop_asked rfl hT ?_
    intro H1 e1
    have hT1 := hT.mono e1
    refine y_no ?_ ?_
    · apply et_to
      · apply et_or
        · refine et_not (a := true) (et_val K (ei_call (eax1 (R1 := fun v H1 => Im K H1 v (.int (k : Int))) (ei_var rfl (.int _))) ?_))
          rintro vs H2 e2 ⟨a, rfl, h⟩
          exact ⟨a, _, rfl, h, rfl⟩
        · intro _
          refine et_of K (ei_niIL (ys := (doors n c).map fun k : Nat => (k : Int)) (ei_var rfl (.int _)) (EvN.k (EvN.to (en_call (eax1 (R1 := fun v H1 => Tri K H1 v n c) (ex_var rfl fun H1 e => hT1.mono e)) ?_) (List.map_map ..).symm)))
          rintro vs H2 e2 ⟨b, rfl, h⟩
          exact ⟨b, n, c, rfl, h, rfl⟩
      · have : (((doors n c).map fun k : Nat => (k : Int)).any fun y => y == (k : Int)) = true := by
          rw [List.any_map, List.any_eq_true]
          exact ⟨k, hk, by simp⟩
        rw [this]; rfl
    intro H2 e2
    have hT2 := hT1.mono e2
    refine y_tup (R := fun v H1 => Im K H1 v (withD n k)) (ei_call (eax2 (R1 := fun v H1 => Tri K H1 v n c) (R2 := fun v H1 => Im K H1 v (.int (k : Int))) (ex_var rfl fun H1 e => hT2.mono e) (fun _ _ _ e h => h.mono e) (ei_var rfl (.int _))) ?_) ?_
    · rintro vs H3 e3 ⟨a, b, rfl, h1, h2⟩
      cases h2
      exact ⟨a, n, c, k, rfl, h1, k1, rfl⟩
    intro wv H3 e3 hwv
    refine g_tup2 hwv ?_
    intro y1 y2 hy1 hy2
    obtain rfl := hy2.intE
    have e03 := (e1.trans e2).trans e3
    exact y_ret (IsWalk K CE CO H3 L z) (ex_walked (ex_var rfl fun H1 e => (hT2.mono e3).mono e) (ei_var rfl hy1) (ei_var rfl (.int _)) nat_iff hg hsm hl) (fun v H4 e4 hW => q v H4 (e03.trans e4) (hW.back e03))
abbrev s_walk_out : Stmt := top 32
theorem sc_walk_out : FnScope ["triangle", "small"] ["triangle", "small"] (defScope s_walk_out) := ⟨rfl, rfl, rfl, by decide +kernel, rfl, by decide +kernel, by decide +kernel⟩
theorem ok_walk_out (D : Def K mg "walk_out" s_walk_out) (c_asked_triangle : Callee P w K mg base CX0 1 "asked_triangle" ["triangle"] (spAskedT K)) (c_asked_small : Callee P w K mg base CX0 2 "asked_small" ["triangle", "small"] (PrI K (preAskedS K))) (c_turn_of : Callee P w K mg base CX0 3 "turn_of" ["triangle", "small"] (PrI K (preTurnOf K)))
    (c_walked : Callee P w K mg base CX0 3 "walked" ["triangle", "small", "step"] (spWalked K CE CO)) : Callee P w K mg base CX0 4 "walk_out" ["triangle", "small"] (spWalkOut K CE CO) := by
  refine D.ok sc_walk_out (fun _ _ _ _ _ _ us hl => match us, hl with | [_, _], _ => rfl) (fun vs H Q E h => ?_) (fun f cdv A outer s H vs Q E hr h => ?_)
  · obtain ⟨t, x, n, c, s, L, z, rfl, _⟩ := h; rfl
  · obtain ⟨t, x, n, c, s, L, z, rfl, hT, hx, hs, hne, hg, hsm, hl, q⟩ := h
    refine ⟨_, (pss_cons (ps_expr (pe_callC c_asked_triangle (hr.mono (by decide)) (by rfl) (pa_cons (pv 0) pa_nil)))
 (pss_cons (ps_expr (pe_callC c_asked_small (hr.mono (by decide)) (by rfl) (pa_cons (pv 0) (pa_cons (pv 1) pa_nil))))
 (pss_cons (ps_if (pt_cmpR op_eq (pe_callC c_turn_of (hr.mono (by decide)) (by rfl) (pa_cons (pv 0) (pa_cons (pv 1) pa_nil))) pe_int (nomark _))
  (pss_cons ps_never
 pss_nil)
  pss_nil)
 (pss_cons (ps_ret (pe_callC c_walked (hr.mono (by decide)) (by rfl) (pa_cons (pv 0) (pa_cons (pv 1) (pa_cons (pe_un un_neg pe_int) pa_nil)))))
 pss_nil)))), ?_⟩
    refine drop_asked rfl hT ?_
    intro H1 e1
    have hT1 := hT.mono e1
    have hx1 := hx.mono e1
    refine y_dropI K .none ?_ ?_
    · refine ei_call (eax2 (R1 := fun v H1 => Tri K H1 v n c) (R2 := fun v H1 => Im K H1 v (smD s)) (ex_var rfl fun H1 e => hT1.mono e) (fun _ _ _ e h => h.mono e) (ei_var rfl hx1)) ?_
      rintro vs H2 e2 ⟨a, b, rfl, h1, h2⟩
      exact ⟨a, b, n, c, s, rfl, h1, h2, hs, rfl⟩
    intro v H2 e2 _
    have hT2 := hT1.mono e2
    have hx2 := hx1.mono e2
    refine y_no (et_to (et_of K (ei_eqI (ev_turn rfl hT2 rfl hx2 hs) ei_int)) (decide_eq_false hne)) ?_
    intro H3 e3
    have e03 := (e1.trans e2).trans e3
    exact y_ret (IsWalk K CE CO H3 L z) (ex_walked (e := 3) (ex_var rfl fun H1 e => (hT2.mono e3).mono e) (ei_var rfl (hx2.mono e3)) (ei_neg ei_int) (fun a ha => by omega) hg hsm hl) (fun v H4 e4 hW => q v H4 (e03.trans e4) (hW.back e03))
end
end DWL
namespace DWL
open PySem PySem.Spec PyProof.Rows L2 Evl DW
section
variable {P : Program} {w : World} {K : PySem.W.Frag} {mg : Str → Option Value} {base : Heap} {CE CO : Addr}
local macro_rules | `(tactic| walk_at "v") => `(tactic| first | exact ei_int | exact ei_str | exact ei_bl | exact ei_non | exact ei_neg ei_int | exact ei_var rfl (Im.int _) | exact ei_var rfl (Im.str _) | exact ei_var rfl (Im.bl _) | exact ei_var rfl (by assumption) | exact et_len rfl (by assumption))
local macro_rules | `(tactic| walk_at "e") => `(tactic| first | walk_at "v" | (apply ei_I0i <;> walk_at "e") | (apply ei_I0b <;> walk_at "e") | (apply ei_chainI <;> walk_at "e") | (apply ei_eqI <;> walk_at "e") | (apply ei_eqS <;> walk_at "e") | (refine' ei_tup ?_ (Nat.le_of_ble_eq_true rfl) <;> walk_at "e") | (apply eai_cons <;> walk_at "e") | exact eai_nil)

abbrev s__law_spots : Stmt := top 35
theorem sc__law_spots : FnScope ["_law_small", "_law_row", "_law_place", "_law_up"] ["_law_small"] (defScope s__law_spots) := ⟨rfl, rfl, rfl, by decide +kernel, rfl, by decide +kernel, by decide +kernel⟩
theorem ok_law_spots (D : Def K mg "_law_spots" s__law_spots) : Callee P w K mg base CX0 1 "_law_spots" ["_law_small"] (PrN K (preCorners K)) := by
  refine D.ok sc__law_spots (fun _ _ _ _ _ _ us hl => match us, hl with | [_], _ => rfl) (fun vs H Q E h => ?_) (fun f cdv A outer s H vs Q E hr h => ?_)
  · obtain ⟨d, ⟨x, r, p, u, rfl, _⟩, _⟩ := h; rfl
  · obtain ⟨d, ⟨x, r, p, u, rfl, hx, rfl⟩, q⟩ := h
    refine ⟨_, (pss_cons (ps_asg (pv 0) (kg_tup (K := K) (n := 3) rfl rfl (pgs_cons (pg_name (i := 1) sc__law_spots.nd rfl (.inl rfl)) (pgs_cons (pg_name (i := 2) sc__law_spots.nd rfl (.inl rfl)) (pgs_cons (pg_name (i := 3) sc__law_spots.nd rfl (.inl rfl)) pgs_nil)))))
 (pss_cons (ps_if (pt_cmpR op_eq (pv 3) pe_int (nomark _))
  (pss_cons (ps_ret (pe_lst (pa_cons (pe_tup (pa_cons (pv 1) (pa_cons (pv 2) pa_nil))) (pa_cons (pe_tup (pa_cons (pv 1) (pa_cons (pe_op op_add (pv 2) pe_int) pa_nil))) (pa_cons (pe_tup (pa_cons (pe_op op_add (pv 1) pe_int) (pa_cons (pv 2) pa_nil))) pa_nil)))))
 pss_nil)
  pss_nil)
 (pss_cons (ps_ret (pe_lst (pa_cons (pe_tup (pa_cons (pv 1) (pa_cons (pe_op op_add (pv 2) pe_int) pa_nil))) (pa_cons (pe_tup (pa_cons (pe_op op_add (pv 1) pe_int) (pa_cons (pe_op op_add (pv 2) pe_int) pa_nil))) (pa_cons (pe_tup (pa_cons (pe_op op_add (pv 1) pe_int) (pa_cons (pv 2) pa_nil))) pa_nil)))))
 pss_nil))), ?_⟩
    refine y_tup (R := fun v H1 => Im K H1 v (tri3 r p u)) (ei_var rfl hx) ?_
    intro v H1 e1 hv
    refine g_tup3 hv ?_
    intro a b c ha hb hc
    cases ha; cases hb; cases hc
    refine y_when (decide (u = 1)) ?_ ?_ ?_
    · exact et_of K (ei_eqI (by walk_at "e") (by walk_at "e"))
    · intro hb H2 e2
      refine y_retN K ((corI r p u).map ip) ?_ ?_
      · unfold corI
        rw [if_pos (of_decide_eq_true hb)]
        refine en_lst ?_ (Nat.le_of_ble_eq_true rfl)
        walk_at "e"
      · intro l xs H3 hl e3 h1 h2; exact q l xs H3 (fresh_back (e1.trans e2) hl) ((e1.trans e2).trans e3) h1 h2
    · intro hb H2 e2
      refine y_retN K ((corI r p u).map ip) ?_ ?_
      · unfold corI
        rw [if_neg (of_decide_eq_false hb)]
        refine en_lst ?_ (Nat.le_of_ble_eq_true rfl)
        walk_at "e"
      · intro l xs H3 hl e3 h1 h2; exact q l xs H3 (fresh_back (e1.trans e2) hl) ((e1.trans e2).trans e3) h1 h2
/-- _law_spots(small) -/
theorem en_spots {te : TE} {σ : L2.St} {H : Hp} {n : Nat} {s : Sm} (h : EvI K te σ H (smD s)) (hs : IsSm n s) : EvN K (tCall (PrN K (preCorners K)) [] E0 (tCons te tNil)) σ H ((crn s).map spD) := by
  refine en_call (eax1 h) ?_
  rintro vs H2 e2 ⟨a, rfl, h1⟩
  exact ⟨a, s.1, s.2.1, s.2.2, rfl, h1, (corI_sm hs).symm⟩
theorem crn_in {n : Nat} {s : Sm} (h : IsSm n s) : ∀ x ∈ crn s, x.1 + x.2 < n := cor_in h
def preShared (K : PySem.W.Frag) : List V → Hp → List PyData → Prop := fun vs H ds => ∃ t x y n c s s' e e', vs = [t, x, y] ∧ Tri K H t n c ∧ Im K H x (smD s) ∧ Im K H y (smD s') ∧ IsSm n s ∧ IsSm n s' ∧ e < 3 ∧ DW.beyond n s e = .inl (s', e') ∧ ed c s e ≠ 0 ∧ ds = (edgeL s e).map spD
abbrev s__law_shared : Stmt := top 36
theorem sc__law_shared : FnScope ["_law_triangle_here", "_law_one", "_law_other", "_law_both", "_law_letters", "_law_spot", "_law_row", "_law_place"] ["_law_triangle_here", "_law_one", "_law_other"] (defScope s__law_shared) := ⟨rfl, rfl, rfl, by decide +kernel, rfl, by decide +kernel, by decide +kernel⟩
theorem ok_law_shared (D : Def K mg "_law_shared" s__law_shared) (c__law_spots : Callee P w K mg base CX0 1 "_law_spots" ["_law_small"] (PrN K (preCorners K))) (m_sorted : mg "sorted" = none) : Callee P w K mg base CX0 2 "_law_shared" ["_law_triangle_here", "_law_one", "_law_other"] (PrN K (preShared K)) := by
  refine D.ok sc__law_shared (fun _ _ _ _ _ _ us hl => match us, hl with | [_, _, _], _ => rfl) (fun vs H Q E h => ?_) (fun f cdv A outer s H vs Q E hr h => ?_)
  · obtain ⟨d, ⟨t, x, y, n, c, s, s', e, e', rfl, _⟩, _⟩ := h; rfl
  · obtain ⟨d, ⟨t, x, y, n, c, s, s', e, e', rfl, hT, hx, hy, hs, hs', he, hb, hd, rfl⟩, q⟩ := h
    refine ⟨_, (pss_cons (ps_setLc (i := 3) (own := [("_law_spot", 5)]) rfl sc__law_shared.nd rfl rfl (sw_true rfl rfl rfl (by decide +kernel)) (ki_list (K := K) rfl (pe_callC c__law_spots (hr.mono (by decide)) (by rfl) (pa_cons (pv 1) pa_nil))) (blkOk_by (N := ["_law_triangle_here", "_law_one", "_law_other", "_law_both", "_law_letters", "_law_spot", "_law_row", "_law_place"]) (sc := defScope s__law_shared) (by decide +kernel)) (fun _ _ _ _ _ => (pg_name (i := 5) sc__law_shared.nd rfl (.inl rfl) (.inr rfl))) (fun _ _ _ _ _ => (pts_one (pt_cmpR (ko_inD (K := K) rfl (by exact units65 hr)) (pv 5) (pe_callC c__law_spots (hr.mono (by decide)) (by rfl) (pa_cons (pv 2) pa_nil)) rfl))) (fun _ _ _ _ _ => (pv 5)))
 (pss_cons (ps_set (i := 4) sc__law_shared.nd rfl (.inl rfl) (pe_callB (kr_sortedS (K := K) rfl) (by rfl) m_sorted (by decide +kernel) (pa_cons (pe_lc (own := [("_law_row", 6), ("_law_place", 7)]) rfl sc__law_shared.nd (ki_list (K := K) rfl (pv 3)) (blkOk_by (N := ["_law_triangle_here", "_law_one", "_law_other", "_law_both", "_law_letters", "_law_spot", "_law_row", "_law_place"]) (sc := defScope s__law_shared) (by decide +kernel)) (fun _ _ _ _ _ => (kg_tup (K := K) (n := 2) rfl rfl (pgs_cons (pg_name (i := 6) sc__law_shared.nd rfl (.inl rfl) (.inr rfl)) (pgs_cons (pg_name (i := 7) sc__law_shared.nd rfl (.inl rfl) (.inr rfl)) pgs_nil)))) (fun _ _ _ _ _ => pts_nil) (fun _ _ _ _ _ => (pe_ix ix_str (pe_ix (kx_list (K := K) rfl) (pv 0) (pv 6) (fun _ _ => rfl)) (pv 7) (fun _ _ => rfl)))) pa_nil)))
 (pss_cons (ps_ret (pe_ifExp (pt_cmpR (ko_eqD (K := K) rfl (by exact hr.units)) (pv 4) (pe_lst (pa_cons pe_str (pa_cons pe_str pa_nil))) (nomark _)) (pv 3) (pe_lst pa_nil)))
 pss_nil))), ?_⟩
    have few := hT.few
    refine y_asgG K ((edgeL s e).map spD) (EvN.to (en_lcK (L := crn s) (enc := spD) (fun z => decide (z ∈ crn s')) spD (EvN.k (en_spots (ei_var rfl hx) hs)) (Nat.le_of_ble_eq_true rfl) ?_) ?_) ?_
    · intro z hz v H2 e2 hv
      refine ⟨_, fun Q q => q, rfl, ?_, fun _ => ei_var rfl hv⟩
      exact et_of K (ei_inSp (EvI.toD (ei_var rfl hv)) (EvN.toD (en_spots (ei_var rfl (hy.mono e2)) hs')))
    · rw [shared_edge hs he hb]
    intro l H1 g1
    obtain ⟨a, b, hab, hl⟩ := edge_ab he hd
    have mem : ∀ z ∈ edgeL s e, z.1 + z.2 < n := fun z hz => by
      rcases (edge_mem s he z).mp hz with rfl | rfl
      · exact crn_in hs _ (crn_at s he)
      · exact crn_in hs _ (crn_at s (Nat.mod_lt _ (by omega)))
    have hT1 := hT.mono g1.ex
    refine y_asg (fun v H2 => Ls K H2 v ([("a" : Str), "b"].map PyData.str)) (EvN.k (en_sortedAB hl (EvN.k (EvN.to (en_lcK (L := edgeL s e) (enc := spD) (fun _ => true) (fun z => .str (st [lt2 c z])) (EvX.k (em_var rfl g1.ls)) ?_ ?_) ?_)))) ?_
    · rw [hab]; exact Nat.le_of_ble_eq_true rfl
    · intro z hz v H2 e2 hv
      obtain ⟨x1, y1, hx1, hy1, hbd⟩ := bind2 hv
      obtain rfl := hx1.intE
      obtain rfl := hy1.intE
      refine ⟨_, fun Q q => hbd _ _ _ Q q, rfl, et_yes, fun _ => ?_⟩
      exact ei_at rfl (hT1.mono e2) (ei_var (v := .int (z.1 : Int)) rfl (.int _)) (ei_var (v := .int (z.2 : Int)) rfl (.int _)) (mem z hz)
    · rw [List.filter_eq_self.mpr (fun _ _ => rfl), hab]; rfl
    intro lv H2 e2 hlv
    replace g1 := g1.go e2
    refine y_ret (fun v H2 => v = .ref l) (ex_if (b := true) (et_of K (ei_eqD1 (d := .list [.str "a", .str "b"]) (ek_var rfl hlv).toD (EvN.toD (en_lst (eai_cons ei_str (eai_cons ei_str eai_nil)) (Nat.le_of_ble_eq_true rfl))) (by decide +kernel))) (fun _ => ex_var rfl fun _ _ => rfl) (fun h => nomatch h)) ?_
    intro v H3 e3 hv
    subst hv
    obtain ⟨xs, h5, h6⟩ := (g1.go e3).has
    exact q l xs H3 g1.fresh (g1.ex.trans e3) h5 h6
/-! ### the side once more -/
abbrev s__law_round : Stmt := top 37
theorem sc__law_round : FnScope ["_law_triangle_here", "_law_last", "_law_found", "_law_place", "_law_row"] ["_law_triangle_here"] (defScope s__law_round) := ⟨rfl, rfl, rfl, by decide +kernel, rfl, by decide +kernel, by decide +kernel⟩
theorem ok_law_round (D : Def K mg "_law_round" s__law_round) (m_len : mg "len" = none) (m_range : mg "range" = none) : Callee P w K mg base CX0 1 "_law_round" ["_law_triangle_here"] (spSide K) := by
  refine D.ok sc__law_round (fun _ _ _ _ _ _ us hl => match us, hl with | [_], _ => rfl) (fun vs H Q E h => ?_) (fun f cdv A outer s H vs Q E hr h => ?_)
  · obtain ⟨d, ⟨t, n, c, rfl, _⟩, _⟩ := h; rfl
  · obtain ⟨d, ⟨t, n, c, rfl, hT, rfl⟩, q⟩ := h
    refine ⟨_, (pss_cons (ps_set (i := 1) sc__law_round.nd rfl (.inr rfl) (pe_op op_sub (pe_callB (kr_len (K := K) rfl) (by rfl) m_len PySem.boot_len (pa_cons (pv 0) pa_nil)) pe_int))
 (pss_cons (ps_set (i := 2) sc__law_round.nd rfl (.inl rfl) (pe_op op_cat (pe_lc (own := [("_law_place", 3)]) rfl sc__law_round.nd (pi_range1 (by rfl) m_range (pa_cons (pv 1) pa_nil)) (blkOk_by (N := ["_law_triangle_here", "_law_last", "_law_found", "_law_place", "_law_row"]) (sc := defScope s__law_round) (by decide +kernel)) (fun _ _ _ _ _ => (pg_name (i := 3) sc__law_round.nd rfl (.inl rfl) (.inr rfl))) (fun _ _ _ _ _ => pts_nil) (fun _ _ _ _ _ => (pe_tup (pa_cons pe_int (pa_cons (pv 3) pa_nil))))) (pe_lc (own := [("_law_row", 4)]) rfl sc__law_round.nd (pi_range1 (by rfl) m_range (pa_cons (pv 1) pa_nil)) (blkOk_by (N := ["_law_triangle_here", "_law_last", "_law_found", "_law_place", "_law_row"]) (sc := defScope s__law_round) (by decide +kernel)) (fun _ _ _ _ _ => (pg_name (i := 4) sc__law_round.nd rfl (.inl rfl) (.inr rfl))) (fun _ _ _ _ _ => pts_nil) (fun _ _ _ _ _ => (pe_tup (pa_cons (pv 4) (pa_cons (pe_op op_sub (pv 1) (pv 4)) pa_nil)))))))
 (pss_cons (ps_ret (pe_op op_cat (pv 2) (pe_lc (own := [("_law_row", 4)]) rfl sc__law_round.nd (pi_range3 (by rfl) m_range (pa_cons (pv 1) (pa_cons (pe_un un_neg pe_int) (pa_cons (pe_un un_neg pe_int) pa_nil)))) (blkOk_by (N := ["_law_triangle_here", "_law_last", "_law_found", "_law_place", "_law_row"]) (sc := defScope s__law_round) (by decide +kernel)) (fun _ _ _ _ _ => (pg_name (i := 4) sc__law_round.nd rfl (.inl rfl) (.inr rfl))) (fun _ _ _ _ _ => pts_nil) (fun _ _ _ _ _ => (pe_tup (pa_cons (pv 4) (pa_cons pe_int pa_nil)))))))
 pss_nil))), ?_⟩
    have two := hT.two
    have few := hT.few
    have en : ((n : Int) - 1).toNat = n - 1 := by omega
    refine y_asgI K (.int ((n : Int) - 1)) (by walk_at "e") ?_
    intro v H1 e1 hv
    obtain rfl := hv.intE
    refine y_asgN K ((((List.range (n - 1)).map fun p => ((0, p) : Sp2)) ++ ((List.range (n - 1)).map fun r => ((r, n - 1 - r) : Sp2))).map spD) ?_ ?_
    · rw [List.map_append]
      refine en_cat (EvN.m ?_) (EvN.m ?_) (by simp; omega)
      · refine EvN.to (en_lcR (n := (n : Int) - 1) (fun _ => true) (fun p => spD (0, p)) (by walk_at "e") (by omega) ?_ (by omega)) (by rw [List.filter_eq_self.mpr (fun _ _ => rfl), en, List.map_map]; rfl)
        intro i hi H2 e2
        refine ⟨_, fun Q q => q, rfl, et_yes, fun _ => by walk_at "e"⟩
      · refine EvN.to (en_lcR (n := (n : Int) - 1) (fun _ => true) (fun r => pr2 r ((n : Int) - 1 - (r : Int))) (by walk_at "e") (by omega) ?_ (by omega)) ?_
        · intro i hi H2 e2
          refine ⟨_, fun Q q => q, rfl, et_yes, fun _ => by walk_at "e"⟩
        · rw [List.filter_eq_self.mpr (fun _ _ => rfl), en, List.map_map]
          refine List.map_congr_left fun r hr => ?_
          have := List.mem_range.mp hr
          show pr2 r ((n : Int) - 1 - (r : Int)) = pr2 (r : Nat) ((n - 1 - r : Nat) : Int)
          congr 1; omega
    · intro p2 xs2 H3 hp2 e3 g3 g4
      refine y_retN K ((sideSp n).map spD) ?_ (fun p xs H4 hp e4 h1 h2 => q p xs H4 (fresh_back (e1.trans e3) hp) ((e1.trans e3).trans e4) h1 h2)
      have : sideSp n = (((List.range (n - 1)).map fun p => ((0, p) : Sp2)) ++ ((List.range (n - 1)).map fun r => ((r, n - 1 - r) : Sp2))) ++ (List.range n).map (fun r => ((n - 1 - r, 0) : Sp2)) := rfl
      rw [this, List.map_append]
      refine en_cat (em_var rfl ⟨_, _, rfl, g3, g4⟩) (EvN.m ?_) (by simp; omega)
      refine EvN.to (en_lcDown (a := (n : Int) - 1) (b := -1) (fun _ => true) (fun r => pr2 ((n : Int) - 1 - (r : Int)) 0) (by walk_at "e") (by omega) ?_) ?_
      · intro i hi H2 e2
        refine ⟨_, fun Q q => q, rfl, et_yes, fun _ => by walk_at "e"⟩
      · rw [List.filter_eq_self.mpr (fun _ _ => rfl), show ((n : Int) - 1 - -1).toNat = n by omega, List.map_map]
        refine List.map_congr_left fun r hr => ?_
        have := List.mem_range.mp hr
        show pr2 ((n : Int) - 1 - (r : Int)) 0 = pr2 ((n - 1 - r : Nat) : Int) ((0 : Nat) : Int)
        congr 1; omega
/-! ### the steps of a walk -/
theorem perm_sp2 {l m : List Sp2} (h : (l.map sp2).Perm (m.map sp2)) : l.Perm m := by
  have := h.map fun x : Tr2.I2 => ((x.1.toNat, x.2.toNat) : Sp2)
  rw [List.map_map, List.map_map, show ((fun x : Tr2.I2 => ((x.1.toNat, x.2.toNat) : Sp2)) ∘ sp2) = id from funext fun x => by simp [sp2], List.map_id, List.map_id] at this
  exact this
structure WalkL (n : Nat) (c : Nat → Nat → Nat) (l : List Lk) (A : List Sp2) : Prop where
  ne : l ≠ []
  ok : ∀ k ∈ l, LkOk n c k
  ch : chn n l
  hd : ∀ a, l[0]? = some a → Ahead a A ∧ (a.i = 3 → A = [])
  few : l.length ≤ 30000
def preSteps (K : PySem.W.Frag) : List V → Hp → PyData → Prop := fun vs H d => ∃ t x y n c l A, vs = [t, x, y] ∧ Tri K H t n c ∧ Ls K H x ((l.map Lk.s).map smD) ∧ Ls K H y (A.map spD) ∧ WalkL n c l A ∧ d = .bool true
abbrev s__law_steps_right : Stmt := top 38
theorem sc__law_steps_right : FnScope ["_law_triangle_here", "_law_some", "_law_inside", "_law_ahead", "_law_at", "_law_both"] ["_law_triangle_here", "_law_some", "_law_inside"] (defScope s__law_steps_right) := ⟨rfl, rfl, rfl, by decide +kernel, rfl, by decide +kernel, by decide +kernel⟩
theorem ok_law_steps_right (D : Def K mg "_law_steps_right" s__law_steps_right) (c__law_shared : Callee P w K mg base CX0 2 "_law_shared" ["_law_triangle_here", "_law_one", "_law_other"] (PrN K (preShared K))) (m_sorted : mg "sorted" = none) (m_len : mg "len" = none) (m_range : mg "range" = none) :
    Callee P w K mg base CX0 3 "_law_steps_right" ["_law_triangle_here", "_law_some", "_law_inside"] (PrI K (preSteps K)) := by
  refine D.ok sc__law_steps_right (fun _ _ _ _ _ _ us hl => match us, hl with | [_, _, _], _ => rfl) (fun vs H Q E h => ?_) (fun f cdv A outer s H vs Q E hr h => ?_)
  · obtain ⟨d, ⟨t, x, y, n, c, l, A, rfl, _⟩, _⟩ := h; rfl
  · obtain ⟨d, ⟨t, x, y, n, c, l, A, rfl, hT, hx, hy, hw, rfl⟩, q⟩ := h
    refine ⟨_, (pss_cons (ps_set (i := 3) sc__law_steps_right.nd rfl (.inl rfl) (pv 2))
 (pss_cons (ps_for PassesOwn.never rfl (pi_range1 (by rfl) m_range (pa_cons (pe_op op_sub (pe_callB (kr_len (K := K) rfl) (by rfl) m_len PySem.boot_len (pa_cons (pv 1) pa_nil)) pe_int) pa_nil)) (pg_name (i := 4) sc__law_steps_right.nd rfl (.inl rfl))
  (pss_cons (ps_set (i := 5) sc__law_steps_right.nd rfl (.inl rfl) (pe_callC c__law_shared (hr.mono (by decide)) (by rfl) (pa_cons (pv 0) (pa_cons (pe_ix (kx_list (K := K) rfl) (pv 1) (pv 4) (fun _ _ => rfl)) (pa_cons (pe_ix (kx_list (K := K) rfl) (pv 1) (pe_op op_add (pv 4) pe_int) (fun _ _ => rfl)) pa_nil)))))
 (pss_cons (ps_if (PW.pt (pw_or (pt_cmpR (ko_eqD (K := K) rfl (by exact hr.units)) (pv 5) (pe_lst pa_nil) (nomark _)) (pw_or1 (pt_cmpR (ko_eqD (K := K) rfl (by exact hr.units)) (pe_callB (kr_sorted2 (K := K) rfl) (by rfl) m_sorted (by decide +kernel) (pa_cons (pv 5) pa_nil)) (pe_callB (kr_sorted2 (K := K) rfl) (by rfl) m_sorted (by decide +kernel) (pa_cons (pv 3) pa_nil)) (nomark _)))))
  (pss_cons (ps_ret pe_bl)
 pss_nil)
  pss_nil)
 (pss_cons (ps_set (i := 3) sc__law_steps_right.nd rfl (.inl rfl) (pv 5))
 pss_nil))))
 (pss_cons (ps_ret pe_bl)
 pss_nil))), ?_⟩
    have few := hw.few
    have pos : 0 < l.length := List.length_pos_iff.mpr hw.ne
    refine y_asg (fun v H1 => Ls K H1 v (A.map spD)) (ek_var rfl hy) ?_
    intro ah H1 e1 hA
    have w1 : EvAI K (tCons (tOp (rI0 fun i j => V.int (i - j)) (tCB (rLenS K) (tCons (tVar 1) tNil)) (tC (V.int 1))) tNil) [some t, some x, some y, some ah, none, none] H1 [.int ((l.length : Int) - 1)] :=
      eai_cons (ei_I0i (EvI.to (ei_lenK (ek_var rfl (hx.mono e1))) (by rw [List.length_map, List.length_map])) ei_int) eai_nil
    refine x_forR w1 (by omega) (fun m σ' H' => Ex H H' ∧ ∃ ah y4 y5 B, σ' = [some t, some x, some y, some ah, y4, y5] ∧ Ls K H' ah (B.map spD) ∧ ∀ a, l[m]? = some a → Ahead a B ∧ (a.i = 3 → B = [])) (fun H2 e2 => ⟨e1.trans e2, ah, none, none, A, rfl, hA.mono e2, hw.hd⟩) ?_ ?_
    · rintro m σ2 H2 hm ⟨e2, ah, y4, y5, B, rfl, hB, hB2⟩
      obtain ⟨a, ha⟩ : ∃ a, l[m]? = some a := ⟨_, List.getElem?_eq_getElem (by omega)⟩
      obtain ⟨b, hb⟩ : ∃ b, l[m + 1]? = some b := ⟨_, List.getElem?_eq_getElem (by omega)⟩
      obtain ⟨ho, hbe⟩ := chn_get hw.ch ha hb
      have ka := hw.ok a (List.mem_of_getElem? ha)
      have kb := hw.ok b (List.mem_of_getElem? hb)
      obtain ⟨hA1, hA3⟩ := hB2 a ha
      have nz := (ka.dr _ ho).mpr (.inr rfl)
      have hT2 := hT.mono e2
      have hx2 := hx.mono e2
      refine y_asg (fun v H1 => Ls K H1 v ((edgeL a.s a.o).map spD)) (EvN.k (en_call (eax3 (R1 := fun v H1 => Tri K H1 v n c) (R2 := fun v H1 => Im K H1 v (smD a.s)) (R3 := fun v H1 => Im K H1 v (smD b.s)) (ex_var rfl fun H1 e => hT2.mono e) (fun _ _ _ e h => h.mono e)
        (ei_ixK (ek_var rfl hx2) (ei_var (v := .int (m : Int)) rfl (.int _)) (atI_nat (by rw [List.getElem?_map, List.getElem?_map, ha]; rfl))) mI (ei_ixK (i := ((m + 1 : Nat) : Int)) (ek_var rfl hx2) (ei_I0i (ei_var (v := .int (m : Int)) rfl (.int _)) ei_int) (atI_nat (by rw [List.getElem?_map, List.getElem?_map, hb]; rfl)))) ?_)) ?_
      · rintro vs H3 e3 ⟨p, q, r, rfl, h1, h2, h3⟩
        exact ⟨p, q, r, n, c, a.s, b.s, a.o, b.i, rfl, h1, h2, h3, ka.sm, kb.sm, ho, hbe, nz, rfl⟩
      intro bo H3 e3 hbo
      have hB3 := hB.mono e3
      refine y_no ?_ ?_
      · apply et_to
        · apply et_or
          · exact et_of K (ei_eqD (ek_var rfl hbo).toD (EvN.toD (en_lst eai_nil (Nat.zero_le _))) (shp_sps _).ok rfl)
          · intro _
            exact et_of K (ei_eqPrs (EvN.toD (en_srt2 (ks := (edgeL a.s a.o).map sp2) (EvX.imp (ek_var rfl hbo) fun v H1 r => by rw [List.map_map]; exact r))) (EvN.toD (en_srt2 (ks := B.map sp2) (EvX.imp (ek_var rfl hB3) fun v H1 r => by rw [List.map_map]; exact r))))
        · obtain ⟨z1, z2, ez, _⟩ := edge_two a.s ho
          have n1 : PyData.eqv (.list ((edgeL a.s a.o).map spD)) (.list []) = false := by rw [ez]; rfl
          have n2 : decide (srt2 ((edgeL a.s a.o).map sp2) = srt2 (B.map sp2)) = false := decide_eq_false fun e => by
            have p : ((edgeL a.s a.o).map sp2).Perm (B.map sp2) := (srt2_perm _).symm.trans (by rw [e]; exact srt2_perm _)
            exact ahead_ne hA1 ka.hi ho ka.ne hA3 (perm_sp2 p)
          rw [n1, n2]; rfl
      intro H4 e4
      refine y_asg (fun v H1 => Ls K H1 v ((edgeL a.s a.o).map spD)) (ek_var rfl (hbo.mono e4)) ?_
      intro ah2 H5 e5 hah
      refine ⟨(e2.trans e3).trans (e4.trans e5), ah2, _, _, edgeL a.s a.o, rfl, hah, fun b' hb' => ?_⟩
      rw [hb] at hb'
      cases hb'
      refine ⟨ahead_next ka.sm ho hbe, fun h3 => ?_⟩
      have := (bey_in ka.sm ho hbe).2.1
      omega
    · rintro σ2 H2 ⟨e2, ah, y4, y5, B, rfl, hB, _⟩
      exact y_retI K (.bool true) ei_bl (fun v H3 e3 r => q v H3 (e2.trans e3) r)
end
end DWL
namespace DW
/-! walks from a door, from a full one, and back -/
variable {n : Nat} {c : Nat → Nat → Nat}
theorem mem_doors {k : Nat} : k ∈ doors n c ↔ k < 3 * (n - 1) ∧ stepAt n c k ≠ 0 := by
  unfold doors
  rw [List.mem_filter, List.mem_range, decide_eq_true_eq]
/-- the walk from a door -/
theorem door_walk (hc : ∀ r p, ltr (c r p)) {k : Nat} (hk : k ∈ doors n c) : ∃ b t z, b.s = (within n k).1 ∧ b.i = (within n k).2 ∧ (b :: t).length ≤ 8 * (n * n) + 1 ∧ Path n c (.out k) (b :: t) z ∧ Goes n c (within n k).1 (within n k).2 ((b :: t).map Lk.s) z := by
  obtain ⟨h1, h2⟩ := mem_doors.mp hk
  obtain ⟨w1, w2, w3, _, _⟩ := within_ok h1
  have fe : Fine n c (within n k).1 (within n k).2 := ⟨w1, .inl ⟨w2, by
    have := ed_within c h1
    show ed c _ _ ≠ 0
    rw [this]; exact h2⟩⟩
  obtain ⟨t, z, h3, h4⟩ := path_from hc (x := within n k) (a := .out k) fe ⟨w2, w3⟩
  exact ⟨⟨(within n k).1, (within n k).2, outOf c (within n k).1 (within n k).2⟩, t, z, rfl, rfl, by rw [List.length_cons]; omega, h4, h4.goes rfl⟩
/-- the walk from a full one -/
theorem full_walk (hc : ∀ r p, ltr (c r p)) {s : Sm} (hs : IsSm n s) (hf : tnS c s ≠ 0) : ∃ b t z, b.s = s ∧ b.i = 3 ∧ (b :: t).length ≤ 8 * (n * n) + 1 ∧ Path n c .ended (b :: t) z ∧ Goes n c s 3 ((b :: t).map Lk.s) z := by
  have fe : Fine n c s 3 := ⟨hs, .inr ⟨rfl, hf⟩⟩
  obtain ⟨t, z, h3, h4⟩ := path_from hc (x := (s, 3)) (a := .ended) fe rfl
  exact ⟨⟨s, 3, outOf c s 3⟩, t, z, rfl, rfl, by rw [List.length_cons]; omega, h4, h4.goes rfl⟩
/-- where it ended, and the walk back -/
def BackAt (n : Nat) (c : Nat → Nat → Nat) (l : List Lk) (a : Fn) (d : Lk) : Fn → Prop
  | .ended => IsSm n d.s ∧ tnS c d.s ≠ 0 ∧ Goes n c d.s 3 ((l.map Lk.s).reverse) a
  | .out k => k ∈ doors n c ∧ within n k = (d.s, d.o) ∧ Goes n c (within n k).1 (within n k).2 ((l.map Lk.s).reverse) a
theorem back_walk (hc : ∀ r p, ltr (c r p)) {a z : Fn} {b : Lk} {t : List Lk} (h : Path n c a (b :: t) z) : ∃ t' d, b :: t = t' ++ [d] ∧ LkOk n c d ∧ BackAt n c (b :: t) a d z ∧ sgn n c d.s z = - sgn n c b.s a := by
  obtain ⟨b', t1, t', d, e1, e2, h1, h2, h3⟩ := h.signs hc
  cases e1
  have kd : LkOk n c d := h.ok d (by rw [e2]; simp)
  have hr := h.rev
  have er : (b :: t).reverse.map Lk.turn = d.turn :: t'.reverse.map Lk.turn := by rw [e2]; simp
  have g := hr.goes er
  rw [rev_smalls] at g
  refine ⟨t', d, e2, kd, ?_, h3⟩
  cases z with
  | ended =>
    have e : d.o = 3 := h2
    refine ⟨kd.sm, (lk_full hc kd).2.mpr (.inr e), ?_⟩
    have g2 : Goes n c d.s d.o ((b :: t).map Lk.s).reverse a := g
    rw [e] at g2
    exact g2
  | out k =>
    obtain ⟨ho, hb⟩ := (show d.o < 3 ∧ beyond n d.s d.o = .inr k from h2)
    obtain ⟨b1, b2⟩ := bey_out kd.sm ho hb
    refine ⟨mem_doors.mpr ⟨b1, ?_⟩, b2, ?_⟩
    · have := ed_within c b1
      rw [b2] at this
      rw [← this]
      exact (kd.dr _ ho).mpr (.inr rfl)
    · rw [b2]
      exact g
theorem path_sm {a z : Fn} {l : List Lk} (h : Path n c a l z) : ∀ s ∈ l.map Lk.s, IsSm n s := fun s hs => by
  obtain ⟨k, hk, rfl⟩ := List.mem_map.mp hs
  exact (h.ok k hk).sm
theorem len_few (hn : n ≤ 60) {l : List Lk} (h : l.length ≤ 8 * (n * n) + 1) : l.length ≤ 30000 := by
  have : n * n ≤ 60 * 60 := Nat.mul_le_mul hn hn
  omega
end DW
namespace DWL
open PySem PySem.Spec PyProof.Rows L2 Evl DW
section
variable {P : Program} {w : World} {K : PySem.W.Frag} {mg : Str → Option Value} {base : Heap} {CE CO : Addr}
local macro_rules | `(tactic| walk_at "v") => `(tactic| first | exact ei_int | exact ei_str | exact ei_bl | exact ei_non | exact ei_neg ei_int | exact ei_var rfl (Im.int _) | exact ei_var rfl (Im.str _) | exact ei_var rfl (Im.bl _) | exact ei_var rfl (by assumption) | exact et_len rfl (by assumption))
local macro_rules | `(tactic| walk_at "e") => `(tactic| first | walk_at "v" | (apply ei_I0i <;> walk_at "e") | (apply ei_I0b <;> walk_at "e") | (apply ei_chainI <;> walk_at "e") | (apply ei_eqI <;> walk_at "e") | (apply ei_eqS <;> walk_at "e") | (refine' ei_tup ?_ (Nat.le_of_ble_eq_true rfl) <;> walk_at "e") | (apply eai_cons <;> walk_at "e") | exact eai_nil)

/-- the two kinds of answers of a walk -/
structure AnsK (K : PySem.W.Frag) (CE CO : Addr) : Prop where
  tE : ClsTy K CE
  tO : ClsTy K CO
  nE : ClsOk K CE ["smalls"]
  nO : ClsOk K CO ["smalls", "door"]
  eo : IsA K CE CO false
  oe : IsA K CO CE false
def isEnd : Fn → Bool
  | .ended => true
  | .out _ => false
theorem isa_self (K : PySem.W.Frag) (C : Addr) : IsA K C C true := by
  show (if (Value.ref C == Value.ref C) = true then some true else _) = some true
  rw [if_pos (by simp)]
theorem AnsK.ty (k : AnsK K CE CO) (z : Fn) : ClsTy K (wCls CE CO z) := by
  cases z
  · exact k.tE
  · exact k.tO
theorem AnsK.na (k : AnsK K CE CO) (z : Fn) : NoAttr K (wCls CE CO z) "smalls" := by
  cases z
  · exact k.nE.na _ (by decide)
  · exact k.nO.na _ (by decide)
theorem AnsK.isE (k : AnsK K CE CO) (z : Fn) : IsA K (wCls CE CO z) CE (isEnd z) := by
  cases z
  · exact isa_self K CE
  · exact k.oe
theorem AnsK.isO (k : AnsK K CE CO) (z : Fn) : IsA K (wCls CE CO z) CO (!isEnd z) := by
  cases z
  · exact k.eo
  · exact isa_self K CO
theorem isa_by {D : Addr} {b : Bool} (h1 : IsA K CE D b) (h2 : IsA K CO D b) (z : Fn) : IsA K (wCls CE CO z) D b := by
  cases z
  · exact h1
  · exact h2
theorem ek_smalls {te : TE} {σ : L2.St} {H H0 : Hp} {L : List Sm} {z : Fn} (k : AnsK K CE CO) (h : EvX te σ H (IsWalk K CE CO H0 L z)) : EvK K (tFld K te "smalls") σ H (L.map smD) := fun H1 e Q q => h H1 e _ fun v H2 e2 ⟨x, dx, p, h1, hx, _, g⟩ =>
  ⟨x, wCls CE CO z, dx, wFld p z, .ref p, h1, hx, (k.ty z).cl, k.na z, by cases z <;> rfl, q _ H2 e2 g.ls.ls⟩
theorem ei_door {te : TE} {σ : L2.St} {H H0 : Hp} {L : List Sm} {d : Nat} (k : AnsK K CE CO) (h : EvX te σ H (IsWalk K CE CO H0 L (.out d))) : EvI K (tFld K te "door") σ H (.int (d : Int)) := fun H1 e Q q => h H1 e _ fun v H2 e2 ⟨x, dx, p, h1, hx, _, g⟩ =>
  ⟨x, CO, dx, wFld p (.out d), .int (d : Int), h1, hx, k.tO.cl, k.nO.na _ (by decide), rfl, q _ H2 e2 (.int _)⟩
theorem ei_isW {te : TE} {σ : L2.St} {H H0 : Hp} {L : List Sm} {z : Fn} {D : Addr} {b : Bool} (k : AnsK K CE CO) (i : IsA K (wCls CE CO z) D b) (h : EvX te σ H (IsWalk K CE CO H0 L z)) : EvI K (tCB (rIsi K) (tCons te (tCons (tC (.ref D)) tNil))) σ H (.bool b) := fun H1 e Q q =>
  h H1 e _ fun x H2 e2 ⟨a, dx, p, h1, h2, _, _⟩ => by
    subst h1
    exact ⟨.ref a, .ref D, .ref (wCls CE CO z), .ref D, b, rfl, .own D, .base (.ins h2 (k.ty z).cl (k.ty z).ha (k.ty z).hn (k.ty z).htk (k.ty z).hm), i, q _ H2 e2 (.bl _)⟩
theorem ex_walk {ta tb : TE} {σ : L2.St} {H : Hp} {n : Nat} {c : Nat → Nat → Nat} {k : Nat} {L : List Sm} {z : Fn} (h1 : EvX ta σ H fun v H1 => Tri K H1 v n c) (h2 : EvI K tb σ H (.int (k : Int))) (hk : k ∈ doors n c) (hg : Goes n c (DW.within n k).1 (DW.within n k).2 L z) (hsm : ∀ s ∈ L, IsSm n s) (hl : L.length ≤ 30000) :
    EvX (tCall (spWalk K CE CO) [] E0 (tCons ta (tCons tb tNil))) σ H (IsWalk K CE CO H L z) := by
  refine ex_callQ (eax2 h1 (fun _ _ _ e h => h.mono e) h2) ?_
  rintro vs H1 Q e1 ⟨a, b, rfl, g1, g2⟩ q
  cases g2
  exact ⟨a, n, c, k, L, z, rfl, g1, hk, hg, hsm, hl, fun v H2 e2 hW => q v H2 e2 (hW.back e1)⟩
theorem ex_walkOut {ta tb : TE} {σ : L2.St} {H : Hp} {n : Nat} {c : Nat → Nat → Nat} {s : Sm} {L : List Sm} {z : Fn} (h1 : EvX ta σ H fun v H1 => Tri K H1 v n c) (h2 : EvI K tb σ H (smD s)) (hs : IsSm n s) (hf : tnS c s ≠ 0) (hg : Goes n c s 3 L z) (hsm : ∀ s ∈ L, IsSm n s) (hl : L.length ≤ 30000) :
    EvX (tCall (spWalkOut K CE CO) [] E0 (tCons ta (tCons tb tNil))) σ H (IsWalk K CE CO H L z) := by
  refine ex_callQ (eax2 h1 (fun _ _ _ e h => h.mono e) h2) ?_
  rintro vs H1 Q e1 ⟨a, b, rfl, g1, g2⟩ q
  exact ⟨a, b, n, c, s, L, z, rfl, g1, g2, hs, hf, hg, hsm, hl, fun v H2 e2 hW => q v H2 e2 (hW.back e1)⟩
/-- the list of an answer is written: another answer stays -/
theorem IsWalk.kp {H0' H0 H H' : Hp} {L : List Sm} {z : Fn} {v : V} {l : Addr} {ys : List V} (hl : H l = some (.lst ys)) (k : Kp l H H') (h : IsWalk K CE CO H0 L z v H) (eb : Ex H0' H0) (e0 : Ex H0' H') (hn : ∃ o, H0 l = some o) : IsWalk K CE CO H0' L z v H' := by
  obtain ⟨x, dx, p, h1, h2, h3, g⟩ := h
  obtain ⟨o, ho⟩ := hn
  have xl : x ≠ l := by rintro rfl; rw [hl] at h2; cases h2
  have pl : p ≠ l := by rintro rfl; rw [g.fresh] at ho; cases ho
  obtain ⟨xs, g1, g2⟩ := g.has
  exact ⟨x, dx, p, h1, k _ _ xl h2, fresh_back eb h3, fresh_back eb g.fresh, e0, xs, k _ _ pl g1, g2.kp hl k⟩
theorem shp_L (L : List Sm) : SeqAt.shaped (.list (L.map smD)) = true := (shp_sms L).ok
theorem rev_map {L : List Sm} : (L.reverse.map smD).reverse = L.map smD := by rw [List.map_reverse, List.reverse_reverse]
end
end DWL
namespace DWL
open PySem PySem.Spec PyProof.Rows L2 Evl DW
section
variable {P : Program} {w : World} {K : PySem.W.Frag} {mg : Str → Option Value} {base : Heap} {CE CO CA CB CF : Addr}
local macro_rules | `(tactic| walk_at "v") => `(tactic| first | exact ei_int | exact ei_str | exact ei_bl | exact ei_non | exact ei_neg ei_int | exact ei_var rfl (Im.int _) | exact ei_var rfl (Im.str _) | exact ei_var rfl (Im.bl _) | exact ei_var rfl (by assumption) | exact et_len rfl (by assumption))
local macro_rules | `(tactic| walk_at "e") => `(tactic| first | walk_at "v" | (apply ei_I0i <;> walk_at "e") | (apply ei_I0b <;> walk_at "e") | (apply ei_chainI <;> walk_at "e") | (apply ei_eqI <;> walk_at "e") | (apply ei_eqS <;> walk_at "e") | (refine' ei_tup ?_ (Nat.le_of_ble_eq_true rfl) <;> walk_at "e") | (apply eai_cons <;> walk_at "e") | exact eai_nil)

theorem eqv_sm (x y : Sm) : PyData.eqv (smD x) (smD y) = decide (x = y) := by
  have := eqv_tup [(x.1 : Int), x.2.1, x.2.2] [(y.1 : Int), y.2.1, y.2.2]
  refine Eq.trans this ?_
  obtain ⟨a, b, c⟩ := x
  obtain ⟨a', b', c'⟩ := y
  simp only [List.cons.injEq, and_true, Prod.mk.injEq]
  by_cases h : a = a' ∧ b = b' ∧ c = c'
  · rw [decide_eq_true h, decide_eq_true (by omega)]
  · rw [decide_eq_false h, decide_eq_false (by omega)]
def preRight4 (K : PySem.W.Frag) : List V → Hp → PyData → Prop := fun vs H d => ∃ t x n c, ∃ s : Sm, vs = [t, x] ∧ Tri K H t n c ∧ Im K H x (smD s) ∧ IsSm n s ∧ tnS c s ≠ 0 ∧ d = .bool true
abbrev s__law_right : Stmt := top 39
theorem sc__law_right : FnScope ["_law_triangle_here", "_law_small", "_law_handed", "_law_found", "_law_back", "_law_last"] ["_law_triangle_here", "_law_small"] (defScope s__law_right) := ⟨rfl, rfl, rfl, by decide +kernel, rfl, by decide +kernel, by decide +kernel⟩
theorem ok_law_right (D : Def K mg "_law_right" s__law_right) (c_walk : Callee P w K mg base CX0 4 "walk" ["triangle", "door"] (spWalk K CE CO)) (c_walk_out : Callee P w K mg base CX0 4 "walk_out" ["triangle", "small"] (spWalkOut K CE CO)) (c_turn : Callee P w K mg base CX0 4 "turn" ["triangle", "small"] (PrI K (preTurn K)))
    (c__law_steps_right : Callee P w K mg base CX0 3 "_law_steps_right" ["_law_triangle_here", "_law_some", "_law_inside"] (PrI K (preSteps K)))
    (g_Ended : mg "Ended" = some (.ref CE)) (g_Out : mg "Out" = some (.ref CO)) (g_Full : mg "Full" = some (.ref CF))
    (t_Ended : ClsTy K CE) (t_Out : ClsTy K CO) (k_Ended : ClsOk K CE ["smalls"]) (k_Out : ClsOk K CO ["smalls", "door"]) (i_Ended_Out : IsA K CE CO false) (i_Out_Ended : IsA K CO CE false)
    (i_Ended_Full : IsA K CE CF false) (i_Out_Full : IsA K CO CF false)
    (m_list : mg "list" = none) (m_isinstance : mg "isinstance" = none) :
    Callee P w K mg base CX0 5 "_law_right" ["_law_triangle_here", "_law_small"] (PrI K (preRight4 K)) := by
  have kk : AnsK K CE CO := ⟨t_Ended, t_Out, k_Ended, k_Out, i_Ended_Out, i_Out_Ended⟩
  refine D.ok sc__law_right (fun _ _ _ _ _ _ us hl => match us, hl with | [_, _], _ => rfl) (fun vs H Q E h => ?_) (fun f cdv A outer s H vs Q E hr h => ?_)
  · obtain ⟨d, ⟨t, x, n, c, s, rfl, _⟩, _⟩ := h; rfl
  · obtain ⟨d, ⟨t, x, n, c, s, rfl, hT, hx, hs, hf, rfl⟩, q⟩ := h
    refine ⟨_, (pss_cons (ps_set (i := 2) sc__law_right.nd rfl (.inl rfl) (pe_callTy (kr_list (K := K) rfl) (by rfl) m_list (by decide +kernel) (pa_cons (pv 0) pa_nil)))
 (pss_cons (ps_set (i := 3) sc__law_right.nd rfl (.inl rfl) (pe_callC c_walk_out (hr.mono (by decide)) (by rfl) (pa_cons (pv 2) (pa_cons (pv 1) pa_nil))))
 (pss_cons (ps_if (PW.pt (pw_or (pt_cmpR op_eq (pe_callB (kr_isi (K := K) rfl) (by rfl) m_isinstance (by decide +kernel) (pa_cons (pv 3) (pa_cons (pe_glob (v := .ref _) (by rfl) g_Ended rfl) pa_nil))) (pe_callB (kr_isi (K := K) rfl) (by rfl) m_isinstance (by decide +kernel) (pa_cons (pv 3) (pa_cons (pe_glob (v := .ref _) (by rfl) g_Out rfl) pa_nil))) (nomark _)) (pw_or (pt_val (pe_callB (kr_isi (K := K) rfl) (by rfl) m_isinstance (by decide +kernel) (pa_cons (pv 3) (pa_cons (pe_glob (v := .ref _) (by rfl) g_Full rfl) pa_nil)))) (pw_or1 (pt_cmpR (ko_neD (K := K) rfl (by exact hr.units)) (pv 2) (pv 0) (nomark _))))))
  (pss_cons (ps_ret pe_bl)
 pss_nil)
  pss_nil)
 (pss_cons (ps_if (PW.pt (pw_or (pt_not (pt_val (pe_callB (kr_isi (K := K) rfl) (by rfl) m_isinstance (by decide +kernel) (pa_cons (ke_fld (K := K) rfl (pv 3) rfl) (pa_cons (pe_bltn (v := .ty "list") (by rfl) m_list (by decide +kernel) rfl) pa_nil))))) (pw_or (pt_cmpR (ko_eqD (K := K) rfl (by exact hr.units)) (ke_fld (K := K) rfl (pv 3) rfl) (pe_lst pa_nil) (nomark _)) (pw_or1 (pt_cmpR (ko_neD (K := K) rfl (by exact hr.units)) (pe_ix (kx_list (K := K) rfl) (ke_fld (K := K) rfl (pv 3) rfl) pe_int (fun _ _ => rfl)) (pv 1) (nomark _))))))
  (pss_cons (ps_ret pe_bl)
 pss_nil)
  pss_nil)
 (pss_cons (ps_if (pt_not (pt_val (pe_callC c__law_steps_right (hr.mono (by decide)) (by rfl) (pa_cons (pv 0) (pa_cons (ke_fld (K := K) rfl (pv 3) rfl) (pa_cons (pe_lst pa_nil) pa_nil))))))
  (pss_cons (ps_ret pe_bl)
 pss_nil)
  pss_nil)
 (pss_cons (ps_if (pt_val (pe_callB (kr_isi (K := K) rfl) (by rfl) m_isinstance (by decide +kernel) (pa_cons (pv 3) (pa_cons (pe_glob (v := .ref _) (by rfl) g_Out rfl) pa_nil))))
  (pss_cons (ps_set (i := 4) sc__law_right.nd rfl (.inl rfl) (pe_callC c_walk (hr.mono (by decide)) (by rfl) (pa_cons (pv 0) (pa_cons (ke_fld (K := K) rfl (pv 3) rfl) pa_nil))))
 (pss_cons (ps_ret (pe_and (pe_callB (kr_isi (K := K) rfl) (by rfl) m_isinstance (by decide +kernel) (pa_cons (pv 4) (pa_cons (pe_glob (v := .ref _) (by rfl) g_Ended rfl) pa_nil))) (pe_one (pe_cmpR (ko_eqD (K := K) rfl (by exact hr.units)) (ke_fld (K := K) rfl (pv 4) rfl) (ke_revL (K := K) rfl (ke_fld (K := K) rfl (pv 3) rfl)) (nomark _)))))
 pss_nil))
  pss_nil)
 (pss_cons (ps_set (i := 5) sc__law_right.nd rfl (.inl rfl) (pe_ix (kx_list (K := K) rfl) (ke_fld (K := K) rfl (pv 3) rfl) (pe_un un_neg pe_int) (fun _ _ => rfl)))
 (pss_cons (ps_set (i := 4) sc__law_right.nd rfl (.inl rfl) (pe_callC c_walk_out (hr.mono (by decide)) (by rfl) (pa_cons (pv 0) (pa_cons (pv 5) pa_nil))))
 (pss_cons (ps_if (PW.pt (pw_or (pt_cmpR (ko_eqD (K := K) rfl (by exact hr.units)) (pv 5) (pv 1) (nomark _)) (pw_or (pt_cmpR op_ne (pe_op op_add (pe_callC c_turn (hr.mono (by decide)) (by rfl) (pa_cons (pv 0) (pa_cons (pv 1) pa_nil))) (pe_callC c_turn (hr.mono (by decide)) (by rfl) (pa_cons (pv 0) (pa_cons (pv 5) pa_nil)))) pe_int (nomark _)) (pw_or1 (pt_not (pt_val (pe_callB (kr_isi (K := K) rfl) (by rfl) m_isinstance (by decide +kernel) (pa_cons (pv 4) (pa_cons (pe_glob (v := .ref _) (by rfl) g_Ended rfl) pa_nil)))))))))
  (pss_cons (ps_ret pe_bl)
 pss_nil)
  pss_nil)
 (pss_cons (ps_if (pt_cmpR (ko_neD (K := K) rfl (by exact hr.units)) (ke_fld (K := K) rfl (pv 4) rfl) (ke_revL (K := K) rfl (ke_fld (K := K) rfl (pv 3) rfl)) (nomark _))
  (pss_cons (ps_ret pe_bl)
 pss_nil)
  pss_nil)
 (pss_cons (ps_expr (ke_bm (K := K) rfl PySem.F.plainAttrs_list PySem.F.slot_list_append PySem.F.type_list_append mt_append (ke_fld (K := K) rfl (pv 3) rfl) (pa_cons (pv 1) pa_nil)))
 (pss_cons (ps_ret (pe_cmpR (ko_eqD (K := K) rfl (by exact hr.units)) (ke_fld (K := K) rfl (pe_callC c_walk_out (hr.mono (by decide)) (by rfl) (pa_cons (pv 0) (pa_cons (pv 1) pa_nil))) rfl) (ke_revL (K := K) rfl (ke_fld (K := K) rfl (pv 4) rfl)) (nomark _)))
 pss_nil)))))))))))), ?_⟩
    have two := hT.two
    have few := hT.few
    have hc := hT.ltr
    obtain ⟨b, tl, z, hb1, hb2, hlen, hP, hG⟩ := full_walk hc hs hf
    subst hb1
    obtain ⟨t', d, hd1, kd, hback, hsg⟩ := back_walk hc hP
    have hl := len_few few hlen
    have hsm := path_sm hP
    have hlL : ((b :: tl).map Lk.s).length ≤ 30000 := by rw [List.length_map]; exact hl
    have hne : PyData.eqv (.list (((b :: tl).map Lk.s).map smD)) (.list []) = false := rfl
    have hfirst : atI (((b :: tl).map Lk.s).map smD) 0 = some (smD b.s) := atI_nat (j := 0) rfl
    have hlast : atI (((b :: tl).map Lk.s).map smD) (-1) = some (smD d.s) := by
      rw [hd1, List.map_append, List.map_append]; exact atI_last _ _
    have hds : IsSm n d.s := kd.sm
    have hW0 : WalkL n c (b :: tl) [] := by
      refine ⟨by simp, hP.ok, hP.ch, fun a ha => ?_, hl⟩
      have ea : b = a := by simpa using ha
      subst ea
      exact ⟨fun h3 => by omega, fun _ => rfl⟩
    clear hb2
    generalize hLE : (b :: tl).map Lk.s = L at *
    refine y_asgN K ((triD n c).map PyData.str) (en_listK (ek_var rfl hT.ls)) ?_
    intro hd xsh H1 _ e1 hh1 hi1
    have hL : Tri K H1 (.ref hd) n c := ⟨two, few, hc, Lm.ls ⟨_, _, rfl, hh1, hi1⟩⟩
    refine y_asg (IsWalk K CE CO H1 L z) (ex_walkOut (ex_var rfl fun H1 e => hL.mono e) (ei_var rfl (hx.mono e1)) hs hf hG hsm hlL) ?_
    intro fv H2 e2 hW
    have hL2 := hL.mono e2
    have hT2 := hT.mono (e1.trans e2)
    have hx2 := hx.mono (e1.trans e2)
    refine y_no ?_ ?_
    · apply et_to
      · apply et_or
        · exact et_of K (ei_eqB (ei_isW kk (kk.isE z) (ex_var rfl fun H1 e => hW.mono e)) (ei_isW kk (kk.isO z) (ex_var rfl fun H1 e => hW.mono e)))
        · intro _
          apply et_or
          · exact et_val K (ei_isW kk (isa_by i_Ended_Full i_Out_Full z) (ex_var rfl fun H1 e => hW.mono e))
          · intro _
            exact et_of K (ei_neD0 (d := .list ((triD n c).map PyData.str)) (ek_var rfl hL2.ls).toD (ek_var rfl hT2.ls).toD (shp_tri hc).ok)
      · cases z <;> rfl
    intro H3 e3
    have hW3 := hW.mono e3
    refine y_no ?_ ?_
    · apply et_to
      · apply et_or
        · exact et_not (et_val K (ei_isK (ek_smalls kk (ex_var rfl fun H1 e => hW3.mono e)) kit_list))
        · intro _
          apply et_or
          · exact et_of K (EvI.to (ei_eqD (EvK.toD (ek_smalls kk (ex_var rfl fun H1 e => hW3.mono e))) (EvN.toD (en_lst eai_nil (Nat.zero_le _))) (shp_L _) rfl) (congrArg PyData.bool hne))
          · intro _
            exact et_of K (ei_neD0 (d := smD b.s) (EvI.toD (ei_ixK (ek_smalls kk (ex_var rfl fun H1 e => hW3.mono e)) ei_int hfirst)) (EvI.toD (ei_var rfl (hx2.mono e3))) (shp_sm _).ok)
      · rfl
    intro H4 e4
    have e24 := e3.trans e4
    have hW4 := hW.mono e24
    have hT4 := hT2.mono e24
    have hx4 := hx2.mono e24
    have vW : ∀ {σ : L2.St} {H' : Hp}, σ[3]? = some (some fv) → Ex H4 H' → EvX (tVar 3) σ H' (IsWalk K CE CO H1 L z) := fun h e => ex_var h fun H1 e1 => hW4.mono (e.trans e1)
    refine y_no (et_to (et_not (a := true) (et_val K (ei_call (eax3 (R1 := fun v H1 => Tri K H1 v n c) (R2 := fun v H1 => Ls K H1 v (L.map smD)) (R3 := fun v H1 => Ls K H1 v (([] : List Sp2).map spD)) (ex_var rfl fun H1 e => hT4.mono e) (fun _ _ _ e h => h.mono e) (ek_smalls kk (vW rfl (Ex.refl _))) mK (EvN.k (en_lst eai_nil (Nat.zero_le _)))) ?_))) rfl) ?_
    · rintro vs H2 e2 ⟨a, b', c', rfl, h1, h2, h3⟩
      refine ⟨a, b', c', n, c, b :: tl, _, rfl, h1, ?_, h3, hW0, rfl⟩
      rw [hLE]; exact h2
    intro H5 e5
    have hT5 := hT4.mono e5
    have hx5 := hx4.mono e5
    cases z with
    | out k' =>
      obtain ⟨hk', hwk, hG2⟩ := hback
      rw [hLE] at hG2
      refine y_yes (et_val K (ei_isW kk (kk.isO (.out k')) (vW rfl e5))) ?_
      intro H6 e6
      have hT6 := hT5.mono e6
      refine y_asg (IsWalk K CE CO H6 L.reverse .ended) (ex_walk (ex_var rfl fun H1 e => hT6.mono e) (ei_door kk (vW rfl (e5.trans e6))) hk' hG2 (fun s hs => hsm s (List.mem_reverse.mp hs)) (by rw [List.length_reverse]; exact hlL)) ?_
      intro bv H7 e7 hB
      have e47 := (e5.trans e6).trans e7
      refine y_retI K (.bool true) (EvI.to (ei_andV (a := true) (b := true) (ei_isW kk (kk.isE .ended) (ex_var rfl fun H1 e => hB.mono e)) fun _ => ei_eqD1 (d := .list (L.reverse.map smD)) (EvK.toD (ek_smalls kk (ex_var rfl fun H1 e => hB.mono e))) (EvN.toD (EvN.to (en_revL (ek_smalls kk (vW rfl e47))) (List.map_reverse ..).symm)) (shp_L _)) rfl) (fun v H8 e8 r => q v H8 (((e1.trans e2).trans e24).trans (e47.trans e8)) r)
    | ended =>
      obtain ⟨_, hf', hG2⟩ := hback
      rw [hLE] at hG2
      have hsg : - tnS c d.s = - - tnS c b.s := hsg
      have nes : ¬ d.s = b.s := fun e => by rw [e] at hsg; omega
      refine y_no (et_val K (ei_isW kk (kk.isO .ended) (vW rfl e5))) ?_
      intro H6 e6
      have hT6 := hT5.mono e6
      have e46 := e5.trans e6
      refine y_asg (fun v H1 => Im K H1 v (smD d.s)) (ei_ixK (ek_smalls kk (vW rfl e46)) (ei_neg ei_int) hlast) ?_
      intro lv H7 e7 hlv
      have hT7 := hT6.mono e7
      refine y_asg (IsWalk K CE CO H7 L.reverse .ended) (ex_walkOut (ex_var rfl fun H1 e => hT7.mono e) (ei_var rfl hlv) hds hf' hG2 (fun s hs => hsm s (List.mem_reverse.mp hs)) (by rw [List.length_reverse]; exact hlL)) ?_
      intro bv H8 e8 hB
      have e48 := e46.trans (e7.trans e8)
      have hT8 := hT7.mono e8
      have hlv8 := hlv.mono e8
      have hx8 := hx4.mono e48
      refine y_no ?_ ?_
      · apply et_to
        · apply et_or
          · exact et_of K (EvI.to (ei_eqD (EvI.toD (ei_var rfl hlv8)) (EvI.toD (ei_var rfl hx8)) (shp_sm _).ok (shp_sm _).ok) (congrArg PyData.bool (eqv_sm _ _)))
          · intro _
            apply et_or
            · exact et_of K (ei_neI (ei_I0i (ev_turn rfl hT8 rfl hx8 hs) (ev_turn rfl hT8 rfl hlv8 hds)) ei_int)
            · intro _
              exact et_not (et_val K (ei_isW kk (kk.isE .ended) (ex_var rfl fun H1 e => hB.mono e)))
        · have : tnS c b.s + tnS c d.s = 0 := by omega
          rw [this, decide_eq_false nes]; rfl
      intro H9 e9
      have e49 := e48.trans e9
      refine y_no (et_of K (ei_neD0 (d := .list (L.reverse.map smD)) (EvK.toD (ek_smalls kk (ex_var rfl fun H1 e => hB.mono (e9.trans e)))) (EvN.toD (EvN.to (en_revL (ek_smalls kk (vW rfl e49))) (List.map_reverse ..).symm)) (shp_L _))) ?_
      intro H10 e10
      have e4a := e49.trans e10
      have hWa := hW4.mono e4a
      obtain ⟨x, dx, p, rfl, hx', nx, gp⟩ := id hWa
      have hpB : ∃ o, H7 p = some o := by
        obtain ⟨x', dx', p', ex, hx1, nx', gp'⟩ := hW4.mono (e46.trans e7)
        cases ex
        cases (((e8.trans e9).trans e10) _ _ hx1).symm.trans hx'
        obtain ⟨xs', h', _⟩ := gp'.has
        exact ⟨_, h'⟩
      refine x_appR (d := smD b.s) gp (ex_fld (C := CE) (fs := wFld p .ended) kk.tE.cl (kk.nE.na _ (by decide)) (ex_var rfl fun H1 e => ⟨x, dx, rfl, e _ _ hx'⟩) rfl fun _ _ => rfl) (ei_var rfl (hx4.mono e4a)) (by rw [List.length_map]; omega) ?_
      intro H11 gp2 _ keep
      obtain ⟨xsp, hxp, _⟩ := gp.has
      have hB11 : IsWalk K CE CO H1 L.reverse .ended bv H11 := (hB.mono (e9.trans e10)).kp hxp keep ((e2.trans e24).trans (e46.trans e7)) gp2.ex hpB
      have hT11 : Tri K H11 t n c := (hT.mono e1).mono gp2.ex
      have hx11 := (hx.mono e1).mono gp2.ex
      refine y_retI K (.bool true) ?_ (fun v H12 e12 r => q v H12 (e1.trans (gp2.ex.trans e12)) r)
      exact ei_eqD1 (d := .list (L.map smD)) (EvK.toD (ek_smalls kk (ex_walkOut (ex_var rfl fun H1 e => hT11.mono e) (ei_var rfl hx11) hs hf hG hsm hlL))) (EvN.toD (EvN.to (en_revL (ek_smalls kk (ex_var rfl fun H1 e => hB11.mono e))) rev_map)) (shp_L _)
end
end DWL
/-! no two walks from full small triangles end at one; what is picked of a list twice is told apart -/
namespace DW
variable {n : Nat} {c : Nat → Nat → Nat}
/-- where the walk from a full one ends, as three numbers -/
def endL (last : Sm) : Fn → List Int
  | .ended => [(last.1 : Int), last.2.1, last.2.2]
  | .out k => [(k : Int), 0, 2]
def EndOf (n : Nat) (c : Nat → Nat → Nat) (s : Sm) (e : List Int) : Prop := ∃ L last z, Goes n c s 3 (L ++ [last]) z ∧ IsSm n last ∧ e = endL last z
theorem goes_first {s : Sm} {e : Nat} {L : List Sm} {z : Fn} (h : Goes n c s e L z) : L.head? = some s := by
  cases h <;> rfl
/-- told from behind -/
theorem end_uniq (hc : ∀ r p, ltr (c r p)) {s s' : Sm} {e : List Int} (hs : IsSm n s) (hf : tnS c s ≠ 0) (hs' : IsSm n s') (hf' : tnS c s' ≠ 0) (h : EndOf n c s e) (h' : EndOf n c s' e) : s = s' := by
  obtain ⟨L, last, z, g, hl, rfl⟩ := h
  obtain ⟨L', last', z', g', hl', he⟩ := h'
  obtain ⟨b, t, y, hb, _, _, hP, hG⟩ := full_walk hc hs hf
  obtain ⟨b', t', y', hb', _, _, hP', hG'⟩ := full_walk hc hs' hf'
  obtain ⟨t1, d, hd, _, hB, _⟩ := back_walk hc hP
  obtain ⟨t1', d', hd', _, hB', _⟩ := back_walk hc hP'
  obtain ⟨e1, rfl⟩ := g.uniq hG
  obtain ⟨e1', rfl⟩ := g'.uniq hG'
  have dl : last = d.s := by
    rw [hd, List.map_append] at e1
    exact (List.append_inj' e1 rfl).2 |> List.cons.inj |>.1
  have dl' : last' = d'.s := by
    rw [hd', List.map_append] at e1'
    exact (List.append_inj' e1' rfl).2 |> List.cons.inj |>.1
  have up : last.2.2 = 0 ∨ last.2.2 = 1 := by rcases hl with ⟨h, _⟩ | ⟨h, _⟩ <;> omega
  have up' : last'.2.2 = 0 ∨ last'.2.2 = 1 := by rcases hl' with ⟨h, _⟩ | ⟨h, _⟩ <;> omega
  have same : ((b :: t).map Lk.s).reverse = ((b' :: t').map Lk.s).reverse := by
    cases z with
    | ended =>
      cases z' with
      | ended =>
        have : last = last' := by
          obtain ⟨x, y, u⟩ := last
          obtain ⟨x', y', u'⟩ := last'
          simp only [endL, List.cons.injEq, and_true] at he
          obtain ⟨h1, h2, h3⟩ := he
          rw [show x = x' by omega, show y = y' by omega, show u = u' by omega]
        have g1 := hB.2.2
        have g2 := hB'.2.2
        rw [← dl', ← this, dl] at g2
        exact (g1.uniq g2).1
      | out k =>
        simp only [endL, List.cons.injEq, and_true] at he
        omega
    | out k =>
      cases z' with
      | ended =>
        simp only [endL, List.cons.injEq, and_true] at he
        omega
      | out k' =>
        have : k = k' := by
          simp only [endL, List.cons.injEq, and_true] at he
          omega
        subst this
        exact (hB.2.2.uniq hB'.2.2).1
  have same2 : (b :: t).map Lk.s = (b' :: t').map Lk.s := by
    have := congrArg List.reverse same
    rwa [List.reverse_reverse, List.reverse_reverse] at this
  have f1 := goes_first hG
  have f2 := goes_first hG'
  rw [same2, f2] at f1
  exact (Option.some.inj f1).symm
theorem fulls_nodup (n : Nat) (c : Nat → Nat → Nat) : (fulls n c).Nodup := by
  refine ((smalls_rising n).imp fun {s t} h => ?_).sublist List.filter_sublist
  rintro rfl
  unfold ltS at h
  omega
theorem fulls_few (h : n ≤ 22) : (fulls n c).length ≤ 900 := by
  have flat : ∀ {α : Type} (f : Nat → List α) (b m : Nat), (∀ i, i < m → (f i).length ≤ b) → ((List.range m).flatMap f).length ≤ m * b := fun f b m hb => by
    induction m with
    | zero => simp
    | succ m ih =>
      rw [List.range_succ, List.flatMap_append, List.length_append]
      have h1 := ih fun i hi => hb i (by omega)
      have h2 := hb m (by omega)
      simp only [List.flatMap_cons, List.flatMap_nil, List.append_nil]
      rw [Nat.succ_mul]; omega
  have h1 : ∀ i, i < n - 1 → (rowSm n i).length ≤ 42 := fun i hi => by
    have : (rowSm n i).length ≤ (n - 1 - i) * 2 := flat _ 2 _ fun j _ => by split <;> simp
    omega
  have h2 : (smalls n).length ≤ (n - 1) * 42 := flat (rowSm n) 42 (n - 1) h1
  have h3 : (fulls n c).length ≤ (smalls n).length := List.length_filter_le ..
  have : (n - 1) * 42 ≤ 21 * 42 := Nat.mul_le_mul_right _ (by omega)
  omega
end DW
namespace DWL
open PySem PySem.Spec PyProof.Rows L2 Evl DW
theorem pick_nodup {α : Type} {xs : List α} (hx : xs.Nodup) : ∀ {ix : List Nat}, ix.Nodup → (Pickd ix xs).Nodup
  | [], _ => List.nodup_nil
  | i :: ix, hi => by
    obtain ⟨h1, h2⟩ := List.nodup_cons.mp hi
    unfold Pickd
    cases e : xs[i]? with
    | none =>
      rw [List.filterMap_cons, e]
      exact pick_nodup hx h2
    | some x =>
      rw [List.filterMap_cons, e]
      refine List.nodup_cons.mpr ⟨fun hm => ?_, pick_nodup hx h2⟩
      obtain ⟨j, hj, ej⟩ := List.mem_filterMap.mp hm
      have hij := (List.getElem?_inj (List.getElem?_eq_some_iff.mp e).1 hx).mp (e.trans ej.symm)
      exact h1 (hij ▸ hj)
theorem take_pick {α : Type} (xs : List α) : ∀ m, xs.take m = Pickd (List.range m) xs
  | 0 => by simp [Pickd]
  | m + 1 => by
    rw [List.take_succ, take_pick xs m, List.range_succ]
    unfold Pickd
    rw [List.filterMap_append]
    cases e : xs[m]? <;> simp [e]
theorem cut_pick {α : Type} (xs : List α) (m : Nat) : cutD xs none (some (m : Int)) = Pickd (List.range m) xs := by
  rw [← take_pick]
  unfold cutD
  rw [HT.sIx_none, Nat.sub_zero, List.drop_zero, HT.sIx_nat]
  by_cases h : m ≤ xs.length
  · rw [show min m xs.length = m by omega]
  · rw [show min m xs.length = xs.length by omega, List.take_length, List.take_of_length_le (by omega)]
theorem step5 (lo : Nat) (n : Nat) : ∃ m : Nat, m ≤ n / 5 + 1 ∧ stepIx (some (lo : Int)) 5 n = ((List.range m).map fun k => min lo n + 5 * k) ∧ (m ≠ 0 → lo < n) := by
  have e1 : (sliceBounds (some (lo : Int)) none (some 5) n) = (((min lo n : Nat) : Int), (n : Int), 5) := by
    unfold sliceBounds
    simp
    omega
  unfold stepIx
  rw [e1]
  unfold sliceRange
  dsimp only
  rw [if_pos (by decide)]
  by_cases h : lo < n
  · rw [if_pos (by omega)]
    refine ⟨_, ?_, List.map_congr_left fun k _ => by omega, fun _ => h⟩
    omega
  · rw [if_neg (by omega)]
    exact ⟨0, Nat.zero_le _, rfl, fun c => absurd rfl c⟩
/-- the first eight and every fifth from the eighth on -/
theorem picks5 {α : Type} {xs : List α} (hx : xs.Nodup) (j : Nat) : (cutD xs none (some 8) ++ Pickd (stepIx (some (8 + j : Nat)) 5 xs.length) xs).Nodup ∧ (cutD xs none (some 8) ++ Pickd (stepIx (some (8 + j : Nat)) 5 xs.length) xs).length ≤ 9 + xs.length / 5 := by
  obtain ⟨m, h1, h2, h3⟩ := step5 (8 + j) xs.length
  have e : cutD xs none (some 8) ++ Pickd (stepIx (some (8 + j : Nat)) 5 xs.length) xs = Pickd (List.range 8 ++ (List.range m).map fun k => min (8 + j) xs.length + 5 * k) xs := by
    rw [show (8 : Int) = ((8 : Nat) : Int) from rfl, cut_pick, h2]
    unfold Pickd
    rw [List.filterMap_append]
  rw [e]
  refine ⟨pick_nodup hx ?_, ?_⟩
  · rw [List.nodup_append]
    refine ⟨List.nodup_range, ?_, fun a ha b hb => ?_⟩
    · exact List.Pairwise.map _ (fun a b (hab : a ≠ b) => by omega) List.nodup_range
    · obtain ⟨k, hk, rfl⟩ := List.mem_map.mp hb
      have := List.mem_range.mp ha
      have hm := List.mem_range.mp hk
      have := h3 (by omega)
      omega
  · have := pickd_len (List.range 8 ++ (List.range m).map fun k => min (8 + j) xs.length + 5 * k) xs
    simp only [List.length_append, List.length_map, List.length_range] at this
    omega
end DWL
/-! len(set(xs)), xs tuples of ints, no two alike: up to three hundred (tables of 8, 32, 128, 512 places) -/
namespace DWL
open PySem PySem.Spec PyProof.Rows L2
/-! ### every place of a table is met -/
def Mts (m : Nat) : Prop := ∀ (h : Int) (j : Nat), j ≤ m → ∃ n, n ≤ m + 12 ∧ runI m (SetTable.bits h) n = j
def orb5 : Nat → Nat → List Nat
  | 0, _ => []
  | n + 1, x => x :: orb5 n ((x * 5 + 1) % 512)
theorem orb5_all : (let l := orb5 512 0; (List.range 512).all fun j => l.contains j) = true := by decide +kernel
theorem orb5_mem : ∀ (n a j : Nat), j ∈ orb5 n (lcgN 511 a) → ∃ b, a ≤ b ∧ b < a + n ∧ lcgN 511 b = j
  | 0, _, _, h => by cases h
  | n + 1, a, j, h => by
    rcases List.mem_cons.mp h with h | h
    · exact ⟨a, Nat.le_refl _, by omega, h.symm⟩
    · obtain ⟨b, h1, h2, h3⟩ := orb5_mem n (a + 1) j h
      exact ⟨b, by omega, by omega, h3⟩
theorem lcg5 {j : Nat} (h : j ≤ 511) : ∃ b, b ≤ 511 ∧ lcgN 511 b = j := by
  have h1 := List.all_eq_true.mp orb5_all j (List.mem_range.mpr (by omega))
  have h1' : j ∈ orb5 512 0 := by simpa using h1
  obtain ⟨b, _, h2, h3⟩ := orb5_mem 512 0 j h1'
  exact ⟨b, by omega, h3⟩
theorem lcg5_again : ∀ k, lcgN 511 (512 + k) = lcgN 511 k
  | 0 => by decide +kernel
  | k + 1 => congrArg (fun x => (x * 5 + 1) % 512) (lcg5_again k)
theorem mts5 : Mts 511 := fun h j hj => by
  obtain ⟨a, ha, ea⟩ := lcg5 (runI_le 511 (SetTable.bits h) 12)
  obtain ⟨b, hb, eb⟩ := lcg5 hj
  have go : ∀ k, runI 511 (SetTable.bits h) (12 + k) = lcgN 511 (a + k) := fun k => by
    rw [runI_tail (bits_lt h), ← ea, lcgN_add]
  by_cases c : a ≤ b
  · exact ⟨12 + (b - a), by omega, by rw [go, show a + (b - a) = b by omega, eb]⟩
  · exact ⟨12 + (512 + b - a), by omega, by rw [go, show a + (512 + b - a) = 512 + b by omega, lcg5_again, eb]⟩
/-- the masks -/
def Mk4 (m : Nat) : Prop := m = 7 ∨ m = 31 ∨ m = 127 ∨ m = 511
theorem Mk4.mts {m : Nat} (h : Mk4 m) : Mts m := by
  rcases h with h | h | h | h
  · exact fun i j hj => run_meets (.inl h) i hj
  · exact fun i j hj => run_meets (.inr (.inl h)) i hj
  · exact fun i j hj => run_meets (.inr (.inr h)) i hj
  · subst h; exact mts5
theorem Mk4.odd {m : Nat} (h : Mk4 m) : m % 2 = 1 ∧ m ≤ 511 ∧ 7 ≤ m := by
  rcases h with h | h | h | h <;> subst h <;> decide
theorem way_le4 {m : Nat} {h : Int} {k : Nat} : way m h k ≤ m := by
  have := runEnd_bd (m := m) (i := SetTable.bits h % (m + 1)) (Nat.le_of_lt_succ (Nat.mod_lt _ (Nat.succ_pos _)))
  have q := nth_in (m := m) k (runAt m (SetTable.bits h % (m + 1)) (SetTable.bits h)) (by
    show SetTable.bits h % (m + 1) + (SetTable.runEnd m _ - _) ≤ m
    omega)
  show (nth m _ k).j ≤ m
  omega
/-- the first free place on the way -/
theorem first4 {m : Nat} (M : Mts m) {l : List Nat} (hl : l.length ≤ m) (h : Int) : ∃ K, K < 10 * SetTable.turns m ∧ way m h K ∉ l ∧ ∀ k, k < K → way m h k ∈ l := by
  obtain ⟨j, hj, hn⟩ := st_missing l (m + 1) (by omega)
  obtain ⟨n, h1, h2⟩ := M h j (by omega)
  obtain ⟨k, h3, h4⟩ := run_nth m (SetTable.bits h) n
  have hk : way m h k ∉ l := by
    show (nth m _ k).j ∉ l
    rw [h4]
    show runI m (SetTable.bits h) n ∉ l
    rw [h2]; exact hn
  obtain ⟨K, g1, g2, g3⟩ := st_least (p := fun k => way m h k ∉ l) k hk
  exact ⟨K, by unfold SetTable.turns; omega, g2, fun i hi => Classical.byContradiction fun c => g3 i hi c⟩
/-! ### a table laid anew -/
theorem free4 {m : Nat} (M : Mts m) (owner : Array (Option Nat)) (h : Int) {j : Nat} (hj : j ≤ m) (hf : oAt owner j = none) :
    ∃ i, i ≤ m ∧ SetTable.layClean.free m owner (SetTable.turns m) (SetTable.bits h % (m + 1)) (SetTable.bits h) = some i ∧ oAt owner i = none := by
  obtain ⟨n, h1, h2⟩ := M h j hj
  have hw : oAt owner (way m h (off m (SetTable.bits h % (m + 1)) (SetTable.bits h) n)) = none := by
    have : way m h (off m (SetTable.bits h % (m + 1)) (SetTable.bits h) n) = j := by
      show (nth m _ _).j = j
      rw [nth_off, itL_run]
      exact h2
    rw [this]; exact hf
  obtain ⟨K, g1, g2, g3⟩ := st_least (p := fun k => oAt owner (way m h k) = none) _ hw
  refine ⟨way m h K, way_le4, free_spec m owner _ n _ _ K (by unfold SetTable.turns; omega) g1 (fun k hk => ?_) ?_, g2⟩
  · cases c : oAt owner (nth m (runAt m (SetTable.bits h % (m + 1)) (SetTable.bits h)) k).j with
    | none => exact absurd c (g3 k hk)
    | some _ => rfl
  · rw [show oAt owner (nth m (runAt m (SetTable.bits h % (m + 1)) (SetTable.bits h)) K).j = none from g2]; rfl
/-- the first n are seated -/
structure Seat (m n : Nat) (owner : Array (Option Nat)) : Prop where
  sz : owner.size = m + 1
  all : ∀ k, k < n → ∃ j, j ≤ m ∧ oAt owner j = some k
  few : ∃ ps : List Nat, ps.length = n ∧ ∀ j, j ≤ m → oAt owner j ≠ none → j ∈ ps
theorem Seat.next {m n : Nat} {owner : Array (Option Nat)} (M : Mts m) (S : Seat m n owner) (hn : n ≤ m) (h : Int) :
    ∃ i, SetTable.layClean.free m owner (SetTable.turns m) (SetTable.bits h % (m + 1)) (SetTable.bits h) = some i ∧ Seat m (n + 1) (owner.setIfInBounds i (some n)) := by
  obtain ⟨ps, p1, p2⟩ := S.few
  obtain ⟨j, j1, j2⟩ := st_missing ps (m + 1) (by omega)
  have hj : oAt owner j = none := Classical.byContradiction fun c => j2 (p2 j (by omega) c)
  obtain ⟨i, i1, i2, i3⟩ := free4 M owner h (show j ≤ m by omega) hj
  have own := oAt_set_self (owner := owner) (some n) (show i < owner.size by rw [S.sz]; omega)
  refine ⟨i, i2, by rw [Array.size_setIfInBounds]; exact S.sz, fun k hk => ?_, i :: ps, by rw [List.length_cons, p1], fun a ha hne => ?_⟩
  · by_cases c : k = n
    · subst c; exact ⟨i, i1, own⟩
    · obtain ⟨a, a1, a2⟩ := S.all k (by omega)
      exact ⟨a, a1, (oAt_set_ne _ (by rintro rfl; rw [i3] at a2; cases a2)).trans a2⟩
  · by_cases c : a = i
    · subst c; exact List.mem_cons_self
    · rw [oAt_set_ne _ c] at hne
      exact List.mem_cons_of_mem _ (p2 a ha hne)
theorem Seat.fold {m : Nat} (M : Mts m) : ∀ (rest : List Int) (n : Nat) (owner : Array (Option Nat)), Seat m n owner → n + rest.length ≤ m → ∃ o, rest.foldl (stepF m) (some (owner, n)) = some (o, n + rest.length) ∧ Seat m (n + rest.length) o
  | [], n, owner, S, _ => ⟨owner, rfl, S⟩
  | h :: rest, n, owner, S, hl => by
    rw [List.length_cons] at hl
    obtain ⟨i, i1, S'⟩ := S.next M (by omega) h
    obtain ⟨o, o1, o2⟩ := Seat.fold M rest (n + 1) _ S' (by omega)
    have e : n + 1 + rest.length = n + (h :: rest).length := by rw [List.length_cons]; omega
    rw [e] at o1 o2
    exact ⟨o, by rw [List.foldl_cons, stepF_some i1]; exact o1, o2⟩
/-- what a table must be -/
structure Tab4 (t : SetTable) (n : Nat) : Prop where
  ris : Ris t.place.toList
  dm : t.dummies = #[]
  sz : t.place.size = n
  msk : Mk4 t.mask
theorem relaid4 (t : SetTable) {hs : Array Int} {wanted M : Nat} (hw : SetTable.sizeAbove wanted - 1 = M) (hM : Mk4 M) (hn : hs.size ≤ M) :
    ∃ t' order, t.relaid hs wanted = some (t', order) ∧ order.toList.Perm (List.range hs.size) ∧ Tab4 t' hs.size ∧ t'.mask = M ∧ t'.led = t.led ∧ t'.plain = t.plain := by
  have S0 : Seat M 0 (Array.replicate (M + 1) none) := ⟨by simp, fun k h => absurd h (Nat.not_lt_zero k), [], rfl, fun j hj c => absurd (oAt_init hj) c⟩
  obtain ⟨o, o1, S⟩ := Seat.fold hM.mts hs.toList 0 _ S0 (by rw [Array.length_toList]; omega)
  rw [Nat.zero_add, Array.length_toList] at o1 S
  have lay : SetTable.layClean M hs = some o := by
    rw [layClean_eq, o1]; rfl
  have ris := ris_live (fun j => o.getD j none) (List.range (M + 1)) List.pairwise_lt_range
  have nd : ((liveOf M o).map (·.1)).Nodup := List.Pairwise.imp Nat.ne_of_lt ris.1
  have len : (liveOf M o).length = hs.size := by
    obtain ⟨ps, p1, p2⟩ := S.few
    have up := nat_nodup_len ((liveOf M o).map (·.1)) ps nd fun x hx => by
      obtain ⟨⟨y, k⟩, hq, rfl⟩ := List.mem_map.mp hx
      obtain ⟨b1, b2⟩ := (mem_live S.sz).mp hq
      exact p2 y b1 (by rw [b2]; exact fun z => nomatch z)
    have dn := nat_nodup_len (List.range hs.size) ((liveOf M o).map (·.2)) List.nodup_range fun k hk => by
      obtain ⟨j, b1, b2⟩ := S.all k (List.mem_range.mp hk)
      exact List.mem_map.mpr ⟨(j, k), (mem_live S.sz).mpr ⟨b1, b2⟩, rfl⟩
    rw [List.length_map] at up dn
    rw [List.length_range] at dn
    omega
  refine ⟨tabOf t M o, ((liveOf M o).map (·.2)).toArray, by rw [relaid_eq, hw, lay]; rfl, perm_range _ _ ?_ fun k hk => ?_, ⟨ris.1, rfl, ?_, hM⟩, rfl, rfl, rfl⟩
  · show ((liveOf M o).map (·.2)).length = _
    rw [List.length_map, len]
  · obtain ⟨j, b1, b2⟩ := S.all k hk
    exact List.mem_map.mpr ⟨(j, k), (mem_live S.sz).mpr ⟨b1, b2⟩, rfl⟩
  · show ((liveOf M o).map (·.1)).toArray.size = _
    rw [List.size_toArray, List.length_map, len]
/-! ### the set -/
section
variable {P : Program} {w : World} {A : Around} {E : Value → Shared → Prop} {s : Shared} {a : Addr} {L : List (Addr × List Int)} {es : Array (Int × Value)} {ep : Nat} {t : SetTable}
structure SetB (P : Program) (w : World) (h : Heap) (a : Addr) (L : List (Addr × List Int)) (es : Array (Int × Value)) (ep : Nat) (t : SetTable) : Prop where
  ob : ∃ o, h.get? a = some o ∧ o.ExactSet ∧ o.data = .set es ep t
  rows : es.toList = rowsOf P w L
  tab : Tab4 t L.length
  tup : ∀ p ∈ L, IsT P w h p.2 p.1
  plain : t.plain = true
  led : w.params.followText "set-order" = true ∨ t.led = true
  room : L.length * 5 < t.mask * 3
theorem SetB.size (R : SetB P w s.heap a L es ep t) : es.size = L.length := by
  have h := congrArg List.length R.rows
  simpa [rowsOf] using h
theorem SetB.fits (R : SetB P w s.heap a L es ep t) : t.fits es.size = true := by
  have h1 := R.tab.sz
  have h2 := R.size
  have h3 := R.room
  unfold SetTable.fits SetTable.fill
  rw [R.tab.dm, Bool.and_eq_true, beq_iff_eq, decide_eq_true_eq]
  exact ⟨by omega, by show t.place.size + 0 ≤ t.mask; omega⟩
theorem SetB.entry (R : SetB P w s.heap a L es ep t) {i : Nat} {p : Addr × List Int} (h : L[i]? = some p) : es[i]? = some (thash P w p.2, Value.ref p.1) := by
  have : es.toList[i]? = some (thash P w p.2, Value.ref p.1) := by rw [R.rows, rowsOf, List.getElem?_map, h]; rfl
  rwa [Array.getElem?_toList] at this
theorem no_dummy (m : Nat) : ∀ (n : Nat) (p : SetTable.Probe), p.dummy = none → (nth m p n).dummy = none
  | 0, _, h => h
  | n + 1, p, h => no_dummy m n (adv m p) (by unfold adv; split <;> exact h)
abbrev wst (m : Nat) (h : Int) : SetTable.Probe := runAt m (SetTable.bits h % (m + 1)) (SetTable.bits h)
/-- a set's object, its table as it must be: read without more -/
theorem SetB.read (R : SetB P w s.heap a L es ep t) {α : Type} {f : Array (Int × Value) × Nat × SetTable → Sem α} {Q : α → Shared → Prop} (h : wpAny (model P w) A (f (es, ep, t)) Q E s) : wpAny (model P w) A (setState a >>= f) Q E s := by
  obtain ⟨o, ho, _, hd⟩ := R.ob
  exact wpAny_bind (wpAny_setState_of ho hd R.fits h)
/-- what is not in is not found: the way goes on to the first free place -/
theorem seek_new (R : SetB P w s.heap a L es ep t) {x : Addr} {k : List Int} (hx : IsT P w s.heap k x) (hu : A.units < cLine) (hm : k ∉ L.map (·.2)) {K : Nat} (hKf : K < 10 * SetTable.turns t.mask)
    (hK : way t.mask (thash P w k) K ∉ t.place.toList) (hKb : ∀ c, c < K → way t.mask (thash P w k) c ∈ t.place.toList) {Q : SetFound → Shared → Prop} (hq : Q (.free (way t.mask (thash P w k) K) false) s) :
    ∀ (f c : Nat) (stand : Option SetTable.Probe), stand.getD (t.probeStart (thash P w k)) = nth t.mask (wst t.mask (thash P w k)) c → c ≤ K → K < c + f → wpAny (model P w) A (setSearchFrom a (.ref x) (thash P w k) true f stand) Q E s := by
  intro f
  induction f with
  | zero => intro c _ _ h1 h2; omega
  | succ f ih =>
    intro c stand hst hc hf
    rw [setSearchFrom_succ]
    refine R.read ?_
    dsimp only
    refine wp_if_neg (by unfold SetTable.gaveWay; rw [R.tab.msk.odd.1]; decide) ?_
    try refine wpAny_bind (wpAny_pure ?_)
    have on : ∀ q, nth t.mask (nth t.mask (wst t.mask (thash P w k)) c) q = nth t.mask (wst t.mask (thash P w k)) (c + q) := fun q => (nth_add t.mask c _ q).symm
    have onj : ∀ q, (nth t.mask (nth t.mask (wst t.mask (thash P w k)) c) q).j = way t.mask (thash P w k) (c + q) := fun q => by rw [on]
    have lastE : way t.mask (thash P w k) (c + (K - c)) = way t.mask (thash P w k) K := by rw [Nat.add_sub_cancel' hc]
    rcases go_spec t R.tab.ris R.tab.dm (fun i => (es[i]?.map (·.1)).getD 0) (thash P w k) (10 * SetTable.turns t.mask) (K - c) _ (no_dummy t.mask c (wst t.mask (thash P w k)) rfl) (by omega) (fun q hq => by rw [onj]; exact hKb _ (by omega)) (by rw [onj, lastE]; exact hK) with ⟨q, i, q1, q2, _, _, q3⟩ | ⟨_, q3⟩
    · rw [← hst] at q3
      rw [show t.probe (fun i => (es[i]?.map (·.1)).getD 0) (thash P w k) (stand.getD (t.probeStart (thash P w k))) = _ from q3]
      rw [hst, on, on]
      dsimp only
      rw [onj] at q2
      have il : i < L.length := by
        have h1 := (List.getElem?_eq_some_iff.mp q2).1
        rw [Array.length_toList, R.tab.sz] at h1; exact h1
      obtain ⟨p, hp⟩ : ∃ p, L[i]? = some p := ⟨_, List.getElem?_eq_getElem il⟩
      have pm : p ∈ L := List.mem_of_getElem? hp
      have pk : ¬ p.2 = k := fun e => hm (List.mem_map.mpr ⟨p, pm, e⟩)
      have more : wpAny (model P w) A (searchRest a (.ref x) (thash P w k) true f es t (way t.mask (thash P w k) (c + q)) i (nth t.mask (wst t.mask (thash P w k)) (c + (q + 1)))) Q E s := by
        unfold searchRest
        rw [R.entry hp]
        dsimp only
        refine wpAny_bind (wpAny_holding (wpAny_eqBool_tuple hu (R.tup p pm) hx ?_))
        refine R.read ?_
        dsimp only
        refine wp_if_neg (by simp [pk]) ?_
        try refine wpAny_bind (wpAny_pure ?_)
        rw [sameMem]
        have live : t.slot (way t.mask (thash P w k) (c + q)) = .live i := slot_live R.tab.ris q2
        simp only [if_true, live, R.entry hp]
        refine wpAny_bind (wpAny_isSame_ref_self (wpAny_bind (wpAny_pure ?_)))
        simp only [if_true]
        exact wp_if_neg (by simp [pk]) (ih (c + (q + 1)) _ rfl (by omega) (by omega))
      by_cases hl : t.led = true
      · refine wp_if_neg (by simp [hl]) ?_
        try refine wpAny_bind (wpAny_pure ?_)
        exact more
      · refine wp_if_pos (by simp [hl]) (wpAny_bind (seen_tup hx (fun y hy => ?_) ?_))
        · obtain ⟨e, he, rfl⟩ := List.mem_map.mp hy
          have h0 : e ∈ es ∧ e.1 = thash P w k := by simpa using he
          have h1 : e ∈ es.toList := by simpa using h0.1
          rw [R.rows] at h1
          obtain ⟨p2, g1, rfl⟩ := List.mem_map.mp h1
          exact ⟨p2.2, p2.1, rfl, R.tup p2 g1⟩
        · refine wp_if_neg (by decide) ?_
          try refine wpAny_bind (wpAny_pure ?_)
          exact more
    · rw [← hst] at q3
      rw [show t.probe (fun i => (es[i]?.map (·.1)).getD 0) (thash P w k) (stand.getD (t.probeStart (thash P w k))) = _ from q3]
      rw [hst, onj, lastE]
      exact wpAny_pure hq
theorem Tab4.put {n j : Nat} (T : Tab4 t n) (hj : j ∉ t.place.toList) : Tab4 (t.put j).1 (n + 1) ∧ SetTable.below t.place j ≤ n ∧ (t.put j).1.fill = n + 1 := by
  have cut := (below_cut T.ris j).1
  have pl := put_place t j
  have sz : (t.put j).1.place.size = n + 1 := by
    rw [← Array.length_toList, pl, len_ins _ (by rw [Array.length_toList]; exact cut), Array.length_toList, T.sz]
  refine ⟨⟨ris_insert T.ris fun e => hj (List.mem_of_getElem? (by rw [Array.getElem?_toList]; exact e)), put_dm T.dm j, sz, T.msk⟩, by rw [← T.sz]; exact cut, ?_⟩
  show (t.put j).1.place.size + (t.put j).1.dummies.size = n + 1
  rw [sz, put_dm T.dm j]; rfl
theorem grow4 : SetTable.sizeAbove (SetTable.grown 5) = 32 ∧ SetTable.sizeAbove (SetTable.grown 19) = 128 ∧ SetTable.sizeAbove (SetTable.grown 77) = 512 := by decide +kernel
/-- the table laid anew, larger -/
theorem relayB {o : Obj} {n : Nat} (ho : s.heap.get? a = some o) (hex : o.ExactSet) (hd : o.data = .set es ep t) (hr : es.toList = rowsOf P w L) (T : Tab4 t L.length) (hf : L.length ≤ t.mask) (tup : ∀ p ∈ L, IsT P w s.heap p.2 p.1) (pl : t.plain = true) (ld : w.params.followText "set-order" = true ∨ t.led = true)
    {wanted M : Nat} (hw : SetTable.sizeAbove wanted = M + 1) (hM : Mk4 M) (hn : L.length * 5 < M * 3) {Q : Unit → Shared → Prop} (hQ : ∀ h' L' es' ep' t', Heap.SameBut a s.heap h' → SetB P w h' a L' es' ep' t' → L'.Perm L → Q () { s with heap := h' }) :
    wpAny (model P w) A (setRelay a wanted) Q E s := by
  have sz : es.size = L.length := by simpa [rowsOf] using congrArg List.length hr
  have fits : t.fits es.size = true := by
    unfold SetTable.fits SetTable.fill
    rw [T.dm, Bool.and_eq_true, beq_iff_eq, decide_eq_true_eq]
    exact ⟨by rw [T.sz, sz], by show t.place.size + 0 ≤ t.mask; rw [T.sz]; omega⟩
  have big := hM.odd
  obtain ⟨t', ord, e1, e2, T', e3, e4, e5⟩ := relaid4 t (hs := es.map (·.1)) (wanted := wanted) (M := M) (by omega) hM (by rw [Array.size_map]; omega)
  rw [Array.size_map, sz] at e2 T'
  obtain ⟨L2, r1, r2, _⟩ := order_rows L es ord hr e2
  have sz2 : (ord.filterMap (es[·]?)).size = es.size := by
    have := congrArg List.length r1
    rw [Array.length_toList] at this
    rw [this, sz, rowsOf, List.length_map, r2.length_eq]
  rw [setRelay_eq]
  refine wpAny_bind (wpAny_setState_of ho hd fits ?_)
  dsimp only
  refine wp_if_neg (by rw [sizeLine_eq]; omega) ?_
  try refine wpAny_bind (wpAny_pure ?_)
  rw [e1]
  refine wpAny_bind ?_
  dsimp only
  refine wp_if_neg (by rw [sz2]; simp) ?_
  try refine wpAny_bind (wpAny_pure ?_)
  refine wpAny_pure ?_
  dsimp only
  refine wpAny_storeSet_of ho hd ?_ (by rw [sz2, sz, sizeLine_eq]; omega)
  have sb : Heap.SameBut a s.heap (s.heap.update a (Obj.putSet (ord.filterMap (es[·]?)) t')) := Heap.SameBut.update ..
  refine hQ _ L2 _ (ep + 1) t' sb ⟨⟨_, store_at ho hd, ⟨hex.1, hex.2.1, hex.2.2⟩, rfl⟩, r1, by rw [r2.length_eq]; exact T', fun p hp => isT_same (tup p (r2.mem_iff.mp hp)) ho hd sb, by rw [e5]; exact pl, by rw [e4]; exact ld, ?_⟩ r2
  rw [r2.length_eq, e3]; exact hn
/-- one more, not yet in -/
theorem add_new (R : SetB P w s.heap a L es ep t) {x : Addr} {k : List Int} (hx : IsT P w s.heap k x) (hu : A.units < cLine) (hm : k ∉ L.map (·.2)) (few : L.length < 300) {Q : Bool → Shared → Prop}
    (hQ : ∀ h' L' es' ep' t', Heap.SameBut a s.heap h' → SetB P w h' a L' es' ep' t' → L'.Perm ((x, k) :: L) → Q true { s with heap := h' }) : wpAny (model P w) A (setAddHashed a (.ref x) (thash P w k)) Q E s := by
  obtain ⟨o, ho, hex, hd⟩ := R.ob
  have room := R.room
  have odd := R.tab.msk.odd
  unfold setAddHashed
  refine wpAny_holding ?_
  rw [show (100000 : Nat) = 99999 + 1 from rfl, setAddHashedIn_succ]
  refine R.read ?_
  dsimp only
  refine wp_if_neg (by simp [byScan, Value.scannable]) ?_
  try refine wpAny_bind (wpAny_pure ?_)
  obtain ⟨K, k1, k2, k3⟩ := first4 R.tab.msk.mts (l := t.place.toList) (by rw [Array.length_toList, R.tab.sz]; omega) (thash P w k)
  have kb : K < 100000 := by
    unfold SetTable.turns at k1
    omega
  unfold setSearch
  refine wpAny_bind (seek_new R hx hu hm k1 k2 k3 ?_ 100000 0 none rfl (Nat.zero_le _) (by omega))
  dsimp only
  refine R.read ?_
  dsimp only
  obtain ⟨T1, bl, fl⟩ := R.tab.put k2
  have pl1 : (t.put (way t.mask (thash P w k) K)).1.plain = true := R.plain
  have ld1 : w.params.followText "set-order" = true ∨ (t.put (way t.mask (thash P w k) K)).1.led = true := R.led
  have mk1 : (t.put (way t.mask (thash P w k) K)).1.mask = t.mask := rfl
  have p2 : (t.put (way t.mask (thash P w k) K)).2 = SetTable.below t.place (way t.mask (thash P w k) K) := rfl
  generalize t.put (way t.mask (thash P w k) K) = tp at T1 fl pl1 ld1 mk1 p2 ⊢
  generalize SetTable.below t.place (way t.mask (thash P w k) K) = b0 at bl p2
  obtain ⟨t1, b⟩ := tp
  dsimp only at T1 fl pl1 ld1 mk1 p2 ⊢
  subst p2
  first
    | (refine wpAny_bind ?_; refine wp_if_pos pl1 ?_; refine hashBy_tup hx ?_)
    | refine wp_if_pos pl1 (wpAny_bind (hashBy_tup hx ?_))
  simp only [if_true]
  have rows1 : (SetTable.insertAt es b (thash P w k, Value.ref x)).toList = rowsOf P w (L.take b ++ (x, k) :: L.drop b) := by rw [SetTable.toList_insertAt, rows_put, R.rows]
  have pm := put_perm L b (x, k)
  have len1 := pm.length_eq
  rw [List.length_cons] at len1
  generalize SetTable.insertAt es b (thash P w k, Value.ref x) = es1 at rows1 ⊢
  generalize L.take b ++ (x, k) :: L.drop b = L1 at rows1 pm len1
  have sz1 : es1.size = L.length + 1 := by
    have := congrArg List.length rows1
    rw [Array.length_toList, rowsOf, List.length_map, len1] at this
    exact this
  refine wpAny_bind (wpAny_storeSet_of ho hd ?_ (by rw [sz1, sizeLine_eq]; omega))
  have sb : Heap.SameBut a s.heap (s.heap.update a (Obj.putSet es1 t1)) := Heap.SameBut.update ..
  have ho1 := store_at (es' := es1) (t' := t1) ho hd
  generalize s.heap.update a (Obj.putSet es1 t1) = h1 at sb ho1 ⊢
  have tup1 : ∀ p ∈ L1, IsT P w h1 p.2 p.1 := fun p hp => by
    rcases List.mem_cons.mp (pm.mem_iff.mp hp) with rfl | hp
    · exact isT_same hx ho hd sb
    · exact isT_same (R.tup p hp) ho hd sb
  have full : t1.tooFull = decide (t1.mask * 3 ≤ (L.length + 1) * 5) := by
    unfold SetTable.tooFull
    rw [fl]
  rw [← len1] at T1
  by_cases hf : t1.tooFull = true
  · have hf2 := hf
    rw [full, decide_eq_true_eq, mk1] at hf2
    have lay : ∀ M, SetTable.sizeAbove (SetTable.grown (es.size + 1)) = M + 1 → Mk4 M → (L.length + 1) * 5 < M * 3 → wpAny (model P w) A (setRelay a (SetTable.grown (es.size + 1))) (fun _ s' => wpAny (model P w) A (pure true) Q E s') E { s with heap := h1 } := fun M g1 g2 g3 => by
      refine relayB (n := 0) (s := { s with heap := h1 }) ho1 ⟨hex.1, hex.2.1, hex.2.2⟩ rfl rows1 T1 (by rw [mk1, len1]; omega) tup1 pl1 ld1 g1 g2 (by rw [len1]; exact g3) ?_
      intro h2 L2 es2 ep2 t2 sb2 R2 pm2
      exact wpAny_pure (hQ h2 L2 es2 ep2 t2 (sb.trans sb2) R2 (pm2.trans pm))
    have go : wpAny (model P w) A (setRelay a (SetTable.grown (es.size + 1))) (fun _ s' => wpAny (model P w) A (pure true) Q E s') E { s with heap := h1 } := by
      have sz := R.size
      obtain ⟨g5, g19, g77⟩ := grow4
      rcases R.tab.msk with e | e | e | e
      · exact lay 31 (by rw [sz, show L.length + 1 = 5 by omega]; exact g5) (.inr (.inl rfl)) (by omega)
      · exact lay 127 (by rw [sz, show L.length + 1 = 19 by omega]; exact g19) (.inr (.inr (.inl rfl))) (by omega)
      · exact lay 511 (by rw [sz, show L.length + 1 = 77 by omega]; exact g77) (.inr (.inr (.inr rfl))) (by omega)
      · omega
    first
      | (refine wpAny_bind ?_; refine wp_if_pos (by simp [hf]) ?_; exact go)
      | (refine wp_if_pos (by simp [hf]) ?_; exact wpAny_bind go)
  · have hf2 : ¬ t1.mask * 3 ≤ (L.length + 1) * 5 := fun h => hf (by rw [full]; exact decide_eq_true h)
    have fin : Q true { s with heap := h1 } := hQ h1 L1 es1 (ep + 1) t1 sb ⟨⟨_, ho1, ⟨hex.1, hex.2.1, hex.2.2⟩, rfl⟩, rows1, T1, tup1, pl1, ld1, by rw [len1]; omega⟩ pm
    first
      | exact wp_if_neg (by simp [hf]) (wpAny_pure fin)
      | (refine wpAny_bind ?_; refine wp_if_neg (by simp [hf]) ?_; exact wpAny_pure (wpAny_pure fin))
theorem SetB.keep {h h' : Heap} (R : SetB P w h a L es ep t) (ha : ∀ o, h.get? a = some o → h'.get? a = some o) (ht : ∀ p ∈ L, IsT P w h' p.2 p.1) : SetB P w h' a L es ep t := by
  obtain ⟨o, ho, h1, h2⟩ := R.ob
  exact ⟨⟨o, ha o ho, h1, h2⟩, R.rows, R.tab, ht, R.plain, R.led, R.room⟩
theorem setB_fresh {h : Heap} (ho : h.get? a = some { cls := .type "set", dict := none, data := .set #[] 0 (.fresh 0 0 (!w.params.followText "set-order")) }) : SetB P w h a [] #[] 0 (.fresh 0 0 (!w.params.followText "set-order")) :=
  ⟨⟨_, ho, ⟨rfl, rfl, rfl⟩, rfl⟩, rfl, ⟨List.Pairwise.nil, rfl, rfl, .inl rfl⟩, fun p h => (by cases h), rfl, by cases w.params.followText "set-order" <;> simp [SetTable.fresh], by show 0 * 5 < 7 * 3; decide⟩
/-- the items one after another, no two alike -/
theorem loopB {I : Addr} {fp wr : List Addr} {G : Array GenState → Array GenState → Prop} {n : Nat} {Pv : Nat → Value → Prop} {St : Nat → Shared → Prop} {R : Result → Shared → Prop}
    (W : WalksS P w A.in1 I fp wr G n Pv St) (S : Addr) (hSf : S ∉ fp) (ks : List (Addr × List Int)) (hn : n = ks.length) (few : n ≤ 300) (nd : (ks.map (·.2)).Nodup) (hval : ∀ i v, Pv i v → ∃ p, ks[i]? = some p ∧ v = .ref p.1)
    (h0 : Heap) (hk : ∀ p ∈ ks, IsT P w h0 p.2 p.1) (hS0 : h0.get? S = none) (hw0 : ∀ b ∈ wr, h0.get? b = none) (hu : A.in1.units < cLine) (m : Nat) :
    ∀ (i : Nat) (s : Shared), i + m = n → St i s → (∀ b o, h0.get? b = some o → s.heap.get? b = some o) → (∃ L es ep t, SetB P w s.heap S L es ep t ∧ L.Perm (ks.take i)) →
      (∀ s' L es ep t, Moved (S :: wr) G s s' → SetB P w s'.heap S L es ep t → L.Perm ks → (∀ b o, h0.get? b = some o → s'.heap.get? b = some o) → R (.ok (.ret .none)) s') →
      codeAny (model P w) A (.builtin "set.update.loop" ⟨[.ref S, .ref I], []⟩) R s := by
  have hSw : S ∉ wr := fun h => hSf (W.sub _ h)
  have wide : ∀ b ∈ wr, b ∈ S :: wr := fun b hb => List.mem_cons_of_mem _ hb
  have still : ∀ {s s' : Shared}, Moved wr G s s' → (∀ b o, h0.get? b = some o → s.heap.get? b = some o) → ∀ b o, h0.get? b = some o → s'.heap.get? b = some o := fun hm hkp b o e =>
    hm.heap b o (fun hb => by rw [hw0 b hb] at e; cases e) (hkp b o e)
  induction m with
  | zero =>
    intro i s hi hst hkp ⟨L, es, ep, t, hS, pm⟩ hR
    obtain rfl : i = n := by omega
    refine codeAny_builtin F.entry_set_update_loop ?_
    rw [Around.under_plainId F.plain_set_update_loop _]
    refine wpAny_bind (W.done s _ _ hst fun s' hm => ?_)
    have kp := still hm hkp
    have pm2 : L.Perm ks := by rw [hn, List.take_length] at pm; exact pm
    exact wpAny_pure (hR s' L es ep t (hm.mono wide) (hS.keep (fun o e => hm.heap S o hSw e) fun p hp => isT_keep (hk p (pm2.mem_iff.mp hp)) kp) pm2 kp)
  | succ m ih =>
    intro i s hi hst hkp ⟨L, es, ep, t, hS, pm⟩ hR
    refine codeAny_builtin F.entry_set_update_loop ?_
    rw [Around.under_plainId F.plain_set_update_loop _]
    refine wpAny_bind (W.item i s _ _ (by omega) hst fun v s' hP hst' hm => ?_)
    obtain ⟨p, hp, rfl⟩ := hval i v hP
    have kp := still hm hkp
    have inK : ∀ q ∈ L, q ∈ ks := fun q hq => List.mem_of_mem_take (pm.mem_iff.mp hq)
    have hS' : SetB P w s'.heap S L es ep t := hS.keep (fun o e => hm.heap S o hSw e) fun q hq => isT_keep (hk q (inK q hq)) kp
    have hx : IsT P w s'.heap p.2 p.1 := isT_keep (hk p (List.mem_of_getElem? hp)) kp
    have len : L.length ≤ i := by rw [pm.length_eq, List.length_take]; omega
    have out : p.2 ∉ L.map (·.2) := fun h => by
      have h1 : p.2 ∈ (ks.take i).map (·.2) := (pm.map (·.2)).mem_iff.mp h
      have h2 : (ks.take (i + 1)).map (·.2) = (ks.take i).map (·.2) ++ [p.2] := by rw [take_next hp, List.map_append]; rfl
      have h3 : ((ks.take (i + 1)).map (·.2)).Nodup := by rw [List.map_take]; exact nd.sublist (List.take_sublist ..)
      rw [h2, List.nodup_append] at h3
      exact h3.2.2 _ h1 _ (by simp) rfl
    show wpAny _ A.in1 (holding [Value.ref p.1] (setAdd S (.ref p.1)) >>= _) _ _ s'
    unfold setAdd
    refine wpAny_bind (wpAny_holding (wpAny_holding (wpAny_bind (wpAny_pyHash_tuple hu hx ?_))))
    refine add_new (s := { s' with toks := s'.toks + (p.2.length + 1) }) hS' hx hu out (by omega) fun h' L' es' ep' t' sb hS2 pm2 => ?_
    have kp2 : ∀ b o, h0.get? b = some o → h'.get? b = some o := fun b o e => (sb.2 b (fun z => by rw [z, hS0] at e; cases e)).trans (kp b o e)
    have pm3 : L'.Perm (ks.take (i + 1)) := by
      rw [take_next hp]
      exact pm2.trans ((pm.cons p).trans (List.perm_append_singleton p _).symm)
    refine wpAny_pure ⟨plainId_quiet F.plain_set_update_loop _, ih (i + 1) _ (by omega) (W.frame _ s' _ _ hst' (Nat.le_add_right _ _) fun b hb o e => ?_) kp2 ⟨L', es', ep', t', hS2, pm3⟩ fun s'' L2 es2 ep2 t2 hm'' hS'' g'' kp'' => ?_⟩
    · rw [sb.2 b (fun h : b = S => hSf (by rw [← h]; exact hb))]; exact e
    · refine hR s'' L2 es2 ep2 t2 (Moved.trans W.gtrans ((hm.mono wide).then_heap (Nat.le_add_right _ _) fun b o hb e => ?_) hm'') hS'' g'' kp''
      rw [sb.2 b (fun h : b = S => hb (by rw [h]; exact List.mem_cons_self))]; exact e
/-- set(list of such) -/
theorem call_setB {l : Addr} {items : Array Value} (ks : List (Addr × List Int)) {Q : Value → Shared → Prop} (hh : A.handled = none) (hl : s.heap.IsList l items) (hit : items.toList = ks.map fun p => Value.ref p.1)
    (hk : ∀ p ∈ ks, IsT P w s.heap p.2 p.1) (few : ks.length ≤ 300) (nd : (ks.map (·.2)).Nodup) (hu : A.units + 3 < cLine)
    (h : ∀ (h' : Heap) (tk : Nat) L es ep t, SetB P w h' s.heap.objs.size L es ep t → L.Perm ks → (∀ b o, s.heap.get? b = some o → h'.get? b = some o) → Q (.ref s.heap.objs.size) { s with heap := h', toks := tk }) :
    wpAny (model P w) A (call (.type "set") [.ref l]) Q E s := by
  have sz : items.size = ks.length := by
    have q := congrArg List.length hit
    rwa [Array.length_toList, List.length_map] at q
  obtain ⟨c, tl, hmro⟩ := F.called_set.mro
  have hmade := F.called_set.made
  have hsub := F.called_set.sub
  refine wpAny_call (codeAny_of_tree ?_)
  show wpAny _ _ (callAny (.type "set") _) _ _ _
  refine wpAny_pure ⟨Code.quiet_builtin _ (by decide +kernel), codeAny_builtin F.entry_type_call ?_⟩
  rw [Around.under_plain (weight_type_call_type "set" [.ref l] []) rfl]
  have h1 := F.called_set.notType
  have h2 := F.called_set.canCreate
  have hct := F.typeCall_set_1 (.ref l)
  repeat (any_goals (first | assumption | wp_step))
  refine codeAny_mono (code_set_led1 (.ref l) (E := E) (Q₁ := fun obj s₁ => obj = .ref s.heap.objs.size ∧ s₁ = { s with heap := s.heap.push ({ cls := .type "set", dict := none, data := .set #[] 0 (.fresh 0 0 (!w.params.followText "set-order")) } : Obj) }) ⟨rfl, rfl⟩) fun r s₁ hr => ?_
  cases r with
  | error e => exact hr
  | ok fl =>
    cases fl with
    | ret obj =>
      obtain ⟨rfl, rfl⟩ := hr
      have hS : (s.heap.push ({ cls := .type "set", dict := none, data := .set #[] 0 (.fresh 0 0 (!w.params.followText "set-order")) } : Obj)).get? s.heap.objs.size = some ({ cls := .type "set", dict := none, data := .set #[] 0 (.fresh 0 0 (!w.params.followText "set-order")) } : Obj) := Heap.get?_push_size _ rfl
      have hT : Shared.TypeIs { s with heap := s.heap.push ({ cls := .type "set", dict := none, data := .set #[] 0 (.fresh 0 0 (!w.params.followText "set-order")) } : Obj) } (.ref s.heap.objs.size) "set" := ⟨_, hS, rfl⟩
      have hli := F.called_set.init.lookup
      have hbi := F.called_set.init.bind (.ref s.heap.objs.size)
      repeat (any_goals (first | assumption | wp_step))
      refine codeAny_mono (codeAny_call_builtin (R := wants (fun r s₂ => r = .none ∧ ∃ h' tk L es ep t, s₂ = { s with heap := h', toks := tk } ∧ SetB P w h' s.heap.objs.size L es ep t ∧ L.Perm ks ∧ (∀ b o, s.heap.get? b = some o → h'.get? b = some o)) E)
        F.called_set.init.plain F.entry_set_init (check_set_init_1 hT ?_)) fun r₂ s₂ hr₂ => ?_
      · obtain ⟨ol, hol, hcl, nl, hdl⟩ := hl
        obtain ⟨ocls, odict, odata, oslots⟩ := ol
        simp only at hcl hdl
        subst hcl; subst hdl
        have hol' : (s.heap.push ({ cls := .type "set", dict := none, data := .set #[] 0 (.fresh 0 0 (!w.params.followText "set-order")) } : Obj)).get? l = some { cls := .type "list", dict := odict, data := .seq items nl, slots := oslots } := Heap.get?_push_of_some _ hol
        have hsls := F.sub_list_set
        have hslf := F.sub_list_frozenset
        have hne : (Value.type "list" == Value.type "dict") = false := by decide
        have hl1 : (s.heap.push ({ cls := .type "set", dict := none, data := .set #[] 0 (.fresh 0 0 (!w.params.followText "set-order")) } : Obj)).IsList l items := ⟨_, hol', rfl, nl, rfl⟩
        unfold Builtin.«set.__init__» noKeywords Builtin.Frozenset.updateFrom
        generalize hPI : pyIter = PI
        wp_walk
        subst hPI
        refine wpAny_pyIter_list hl1 ?_
        refine wpAny_bind (wpAny_runValue ?_)
        have hlS : l < s.heap.objs.size := Heap.lt_size hol
        have hh3 : A.in1.in1.in1.handled = none := by simp [hh]
        have push1 : (s.heap.push ({ cls := .type "set", dict := none, data := .set #[] 0 (.fresh 0 0 (!w.params.followText "set-order")) } : Obj)).objs.size = s.heap.objs.size + 1 := Heap.size_push ..
        have fresh : ∀ b, s.heap.objs.size ≤ b → s.heap.get? b = none := fun b hb => by
          cases q : s.heap.get? b with
          | none => rfl
          | some o => exact absurd (Nat.lt_of_lt_of_le (Heap.lt_size q) hb) (Nat.lt_irrefl _)
        refine loopB ((Walks.list hh3 _ l (by rw [push1]; exact Nat.ne_of_lt (Nat.lt_succ_of_lt hlS)) items).toS) s.heap.objs.size (by
            simp only [List.mem_cons, List.not_mem_nil, or_false, push1, not_or]
            exact ⟨Nat.ne_of_lt (Nat.lt_succ_self _), Nat.ne_of_gt hlS⟩) ks sz (by omega) nd (fun i v hv => ?_) s.heap hk (fresh _ (Nat.le_refl _)) (fun b hb => fresh b (by
            rw [List.mem_singleton.mp hb, push1]; exact Nat.le_succ _)) hu items.size 0 _ (by omega) ⟨⟨_, Heap.get?_push_size _ rfl, rfl, rfl⟩, (hl1.push _)⟩ (fun b o e => Heap.get?_push_of_some _ (Heap.get?_push_of_some _ e)) ⟨[], #[], 0, _, setB_fresh (w := w) (Heap.get?_push_of_some _ hS), List.Perm.refl _⟩ ?_
        · have q : items.toList[i]? = some v := by rw [Array.getElem?_toList]; exact hv
          rw [hit, List.getElem?_map] at q
          cases hq : ks[i]? with
          | none => rw [hq] at q; cases q
          | some p =>
            rw [hq] at q
            exact ⟨p, rfl, (Option.some.inj q).symm⟩
        · intro s' L es ep t hm hS' g' hkp
          obtain ⟨h', g2, d', tk', os'⟩ := s'
          have eg : g2 = s.gens := hm.gens
          have ed : d' = s.drawn := hm.drawn
          have eo : os' = s.os := hm.os
          subst eg; subst ed; subst eo
          show wpAny _ _ _ _ _ _
          refine wpAny_pure ?_
          show wpAny _ _ (ret Value.none) _ _ _
          exact wpAny_pure ⟨rfl, h', tk', L, es, ep, t, rfl, hS', g', hkp⟩
      · cases r₂ with
        | error e => exact hr₂
        | ok fl₂ =>
          cases fl₂ with
          | ret r =>
            obtain ⟨rfl, h', tk, L, es, ep, t, rfl, hS', g', hk'⟩ := hr₂
            repeat (any_goals (first | assumption | wp_step))
            exact h _ _ _ _ _ _ hS' g' hk'
          | _ => exact hr₂.elim
    | _ => exact hr.elim
end
section
variable {X : Cx} {K : PySem.W.Frag}
/-- len(set(xs)) -/
def tLenSetB (K : PySem.W.Frag) (ta : TE) : TE := fun σ H Q => ta σ H fun x H1 => ∃ (l : Addr) (ks : List (Addr × List Int)), x = V.ref l ∧ SqL K H1 l (ks.map fun p => V.ref p.1) ∧ (∀ p ∈ ks, SqT K H1 p.1 (p.2.map V.int)) ∧ (ks.map (·.2)).Nodup ∧ ks.length ≤ 300 ∧ Q (.int ks.length) H1
theorem pe_lenSetB {a : Expr} {ta : TE} {p p2 q pos : Pos} (hK : X.K = K) (hc : X.calm = true) (hu : X.A.units + 64 < cLine) (hg : Gl X "len") (hm : X.mg "len" = none) (hg2 : Gl X "set") (hm2 : X.mg "set" = none) (ha : PE X a ta)
    (na : starEach [a] X.env = (false, eval a X.env) :: starEach [] X.env := by rfl) : PE X (.Call (.Name "len" p) [.Call (.Name "set" p2) [a] [] q] [] pos) (tLenSetB K ta) := by
  subst hK
  refine ⟨fun pins s σ H Q I h => ?_⟩
  refine Call_ (ld_blt I hg hm boot_len ?_)
  refine PyProof.Rows.callWith_builtin1 (PyProof.Rows.args_cons ?_ rfl) rfl rfl
  refine Call_ (ld_blt I hg2 hm2 boot_set ?_)
  refine PyProof.Rows.callWith_type1 (PyProof.Rows.args_cons (thn (ha.run pins s σ H _ I h) fun v s1 ⟨x, H1, I1, r1, q1⟩ => PyProof.Rows.args_nil ?_) na) na rfl
  obtain ⟨l, ks, rfl, hl, hk, nd, few, q1⟩ := q1
  cases r1
  obtain ⟨its, rv, pl, hz⟩ := I1.list hl
  refine call_setB (P := X.prog) (w := X.w) ks (I1.ok.hd hc) pl.isList (by simpa using refs_of_vals rv) (fun p hp => I1.isT (hk p hp)) few nd (by omega) fun h' tk L es ep t R pm kp => ?_
  refine PyProof.Rows.args_nil ?_
  obtain ⟨o, ho, hex, hd⟩ := R.ob
  have I2 : Inv X pins σ H1 { s1 with heap := h', toks := tk } := I1.kept kp
  have sz := R.size (s := { s1 with heap := h', toks := tk })
  refine call_len_set ho hex hd (R.fits (s := { s1 with heap := h', toks := tk })) (by rw [sz, pm.length_eq]; omega) ⟨.int ks.length, H1, I2.tok _, ⟨_, by rw [sz, pm.length_eq]⟩, q1⟩
end
end DWL
namespace DWL
open PySem PySem.Spec PyProof.Rows L2 Evl DW
section
variable {P : Program} {w : World} {K : PySem.W.Frag} {mg : Str → Option Value} {base : Heap} {CE CO CA CB CF : Addr}
local macro_rules | `(tactic| walk_at "v") => `(tactic| first | exact ei_int | exact ei_str | exact ei_bl | exact ei_non | exact ei_neg ei_int | exact ei_var rfl (Im.int _) | exact ei_var rfl (Im.str _) | exact ei_var rfl (Im.bl _) | exact ei_var rfl (by assumption) | exact et_len rfl (by assumption))
local macro_rules | `(tactic| walk_at "e") => `(tactic| first | walk_at "v" | (apply ei_I0i <;> walk_at "e") | (apply ei_I0b <;> walk_at "e") | (apply ei_chainI <;> walk_at "e") | (apply ei_eqI <;> walk_at "e") | (apply ei_eqS <;> walk_at "e") | (refine' ei_tup ?_ (Nat.le_of_ble_eq_true rfl) <;> walk_at "e") | (apply eai_cons <;> walk_at "e") | exact eai_nil)

theorem goB : Goes 2 cB (0, 0, 1) 3 [(0, 0, 1)] (.out 0) := Goes.leave (o := 0) (t := []) (by decide +kernel) (by decide +kernel)
theorem x_forN {D : Ends} {tu tz : TS} {tg : TG} {σ : L2.St} {H : Hp} {δ : Type} {enc : δ → PyData} {L : List δ} {tl : TE} (h : EvN K tl σ H (L.map enc))
    (k : ∀ a xs H1, H a = none → Ex H H1 → H1 a = some (.lst xs) → ImAll K H1 xs (L.map enc) → ∃ Pv : Nat → L2.St → Hp → Prop, Pv 0 σ H1 ∧ (∀ i σ' H', i ≤ L.length → Pv i σ' H' → SqL K H' a xs ∧ ImAll K H' xs (L.map enc)) ∧
      (∀ i c x σ' H', L[i]? = some c → Pv i σ' H' → Im K H' x (enc c) → tg x σ' H' fun σ2 H2 => tu { D with nx := Pv (i + 1), ct := Pv (i + 1), bk := tz D } σ2 H2) ∧ (∀ σ' H', Pv L.length σ' H' → tz D σ' H')) :
    tSeq (tFor (iList K tl) tg tu) tz D σ H := h H (Ex.refl H) _ fun a xs H1 hn e1 h0 h2 => by
  have h1 : SqL K H1 a xs := sq_of h0
  have hl : L.length = xs.length := by rw [h2.length, List.length_map]
  obtain ⟨Pv, p0, pl, ps, pd⟩ := k a xs H1 hn e1 h0 h2
  refine ⟨a, rfl, ⟨xs, h1⟩, for_list (xs := xs) Pv p0 (fun i σ' H' hi p => (pl i σ' H' (by omega) p).1) (fun i x σ' H' hx p => ?_) (fun σ' H' p => pd σ' H' (by rw [hl]; exact p))⟩
  have hi := (List.getElem?_eq_some_iff.mp hx).1
  obtain ⟨dd, k1, k2⟩ := (pl i σ' H' (by omega) p).2.getV hx
  have hi' : i < L.length := by omega
  have : dd = enc L[i] := by
    rw [List.getElem?_map, List.getElem?_eq_getElem hi'] at k1; exact (Option.some.inj k1).symm
  subst this
  exact ps i L[i] x σ' H' (List.getElem?_eq_getElem hi') p k2
/-- whole numbers in tuples -/
def intT (e : List Int) : PyData := .tuple (e.map .int)
theorem tups_of {H : Hp} : ∀ {es : List (List Int)} {xs : List V}, ImAll K H xs (es.map intT) → ∃ ks : List (Addr × List Int), xs = ks.map (fun p => V.ref p.1) ∧ ks.map (·.2) = es ∧ ∀ p ∈ ks, SqT K H p.1 (p.2.map V.int)
  | [], xs, h => by
    cases h
    exact ⟨[], rfl, rfl, fun p hp => by cases hp⟩
  | e :: es, xs, h => by
    cases h with
    | cons h1 h2 =>
      obtain ⟨ks, rfl, rfl, hk⟩ := tups_of h2
      cases h1 with
      | @tup a ys _ hs hi =>
        have := ints_back hi
        subst this
        refine ⟨(a, e) :: ks, rfl, rfl, fun p hp => ?_⟩
        rcases List.mem_cons.mp hp with rfl | hp
        · exact hs
        · exact hk p hp
theorem ei_lenSetB {te : TE} {σ : L2.St} {H : Hp} {es : List (List Int)} (h : EvX te σ H fun v H1 => Lm K H1 v (es.map intT)) (nd : es.Nodup) (few : es.length ≤ 300) : EvI K (tLenSetB K te) σ H (.int (es.length : Int)) := fun H1 e Q q =>
  h H1 e _ fun v H2 e2 ⟨l, xs, hv, h1, h2⟩ => by
    obtain ⟨ks, rfl, rfl, hk⟩ := tups_of h2
    rw [List.length_map] at few q
    exact ⟨l, ks, hv, sq_of h1, hk, nd, few, q _ H2 e2 (.int _)⟩
/-- ends of different walks -/
theorem ends_nodup {n : Nat} {c : Nat → Nat → Nat} (hc : ∀ r p, ltr (c r p)) {picks : List Sm} {es : List (List Int)} (nd : picks.Nodup) (hf : ∀ s ∈ picks, s ∈ fulls n c) (hl : es.length = picks.length)
    (he : ∀ (m : Nat) s, m < es.length → picks[m]? = some s → ∃ e, es[m]? = some e ∧ EndOf n c s e) : es.Nodup := by
  rw [List.Nodup, List.pairwise_iff_getElem]
  intro i j hi hj hij heq
  have hip : i < picks.length := by omega
  have hjp : j < picks.length := by omega
  obtain ⟨e1, g1, E1⟩ := he i picks[i] hi (List.getElem?_eq_getElem hip)
  obtain ⟨e2, g2, E2⟩ := he j picks[j] hj (List.getElem?_eq_getElem hjp)
  rw [List.getElem?_eq_getElem hi] at g1
  rw [List.getElem?_eq_getElem hj] at g2
  have ee : e1 = e2 := by rw [← Option.some.inj g1, ← Option.some.inj g2]; exact heq
  subst ee
  have f1 := List.mem_filter.mp (hf _ (List.getElem_mem hip))
  have f2 := List.mem_filter.mp (hf _ (List.getElem_mem hjp))
  have := end_uniq hc (mem_smalls.mp f1.1) (of_decide_eq_true f1.2) (mem_smalls.mp f2.1) (of_decide_eq_true f2.2) E1 E2
  have ij : i = j := (List.getElem?_inj hip nd).mp (by rw [List.getElem?_eq_getElem hip, List.getElem?_eq_getElem hjp, this])
  omega
abbrev s_law : Stmt := top 40
theorem sc_law : FnScope ["_law_script", "_law_triangle_here", "_law_ends", "_law_every", "_law_small", "_law_found"] ["_law_script"] (defScope s_law) := ⟨rfl, rfl, rfl, by decide +kernel, rfl, by decide +kernel, by decide +kernel⟩
theorem ok_law {f0 : Addr} {fd0 : FuncData} (F : FunD K "law" "law" (defArgs s_law) (defBody s_law) (defScope s_law) [] [] f0 fd0) (c__law_triangle : Callee P w K mg base CX0 1 "_law_triangle" ["_law_script"] (spTriangle K)) (c_fulls : Callee P w K mg base CX0 4 "fulls" ["triangle"] (spFulls K)) (c_doors : Callee P w K mg base CX0 2 "doors" ["triangle"] (spDoors K))
    (c__law_right : Callee P w K mg base CX0 5 "_law_right" ["_law_triangle_here", "_law_small"] (PrI K (preRight4 K))) (c_walk_out : Callee P w K mg base CX0 4 "walk_out" ["triangle", "small"] (spWalkOut K CE CO))
    (g_Out : mg "Out" = some (.ref CO)) (t_Ended : ClsTy K CE) (t_Out : ClsTy K CO) (k_Ended : ClsOk K CE ["smalls"]) (k_Out : ClsOk K CO ["smalls", "door"]) (i_Ended_Out : IsA K CE CO false) (i_Out_Ended : IsA K CO CE false)
    (m_sum : mg "sum" = none) (m_isinstance : mg "isinstance" = none) (m_len : mg "len" = none) (m_set : mg "set" = none) :
    FnOk P w K mg base CX0 6 f0 fd0 ["_law_script"] (spLaw K) := by
  have kk : AnsK K CE CO := ⟨t_Ended, t_Out, k_Ended, k_Out, i_Ended_Out, i_Out_Ended⟩
  refine okF F sc_law (fun vs H Q E h => ?_) (fun f cdv A outer s H vs Q E hr h => ?_)
  · obtain ⟨v, ns, rfl, _⟩ := h; rfl
  · obtain ⟨scr, ns, rfl, hS, h63, q⟩ := h
    refine ⟨_, (pss_cons (ps_set (i := 1) sc_law.nd rfl (.inl rfl) (pe_callC c__law_triangle (hr.mono (by decide)) (by rfl) (pa_cons (pv 0) pa_nil)))
 (pss_cons (ps_set (i := 2) sc_law.nd rfl (.inl rfl) (pe_lst pa_nil))
 (pss_cons (ps_set (i := 3) sc_law.nd rfl (.inl rfl) (pe_callC c_fulls (hr.mono (by decide)) (by rfl) (pa_cons (pv 1) pa_nil)))
 (pss_cons (ps_for PassesOwn.never rfl (ki_list (K := K) rfl (pe_op op_cat (pe_slice (ks_list (K := K) rfl) (pv 3) po_none (po_some pe_int)) (pe_stepL (K := K) rfl (pv 3) (po_some (pe_op op_add pe_int (pe_op op_mod (pe_callB (kr_sum (K := K) rfl rfl) (by rfl) m_sum (by decide +kernel) (pa_cons (pv 0) pa_nil)) pe_int))) (po_some pe_int)))) (pg_name (i := 4) sc_law.nd rfl (.inl rfl))
  (pss_cons (ps_if (pt_not (pt_val (pe_callC c__law_right (hr.mono (by decide)) (by rfl) (pa_cons (pv 1) (pa_cons (pv 4) pa_nil)))))
  (pss_cons (ps_ret pe_bl)
 pss_nil)
  pss_nil)
 (pss_cons (ps_set (i := 5) sc_law.nd rfl (.inl rfl) (pe_callC c_walk_out (hr.mono (by decide)) (by rfl) (pa_cons (pv 1) (pa_cons (pv 4) pa_nil))))
 (pss_cons (ps_expr (ke_bm (K := K) rfl PySem.F.plainAttrs_list PySem.F.slot_list_append PySem.F.type_list_append mt_append (pv 2) (pa_cons (pe_ifExp (pt_val (pe_callB (kr_isi (K := K) rfl) (by rfl) m_isinstance (by decide +kernel) (pa_cons (pv 5) (pa_cons (pe_glob (v := .ref _) (by rfl) g_Out rfl) pa_nil)))) (pe_tup (pa_cons (ke_fld (K := K) rfl (pv 5) rfl) (pa_cons pe_int (pa_cons pe_int pa_nil)))) (pe_ix (kx_list (K := K) rfl) (ke_fld (K := K) rfl (pv 5) rfl) (pe_un un_neg pe_int) (fun _ _ => rfl))) pa_nil)))
 pss_nil))))
 (pss_cons (ps_if (pt_cmpR op_lt (pe_lenSetB (K := K) rfl rfl (by exact hr.units) (by rfl) m_len (by rfl) m_set (pv 2)) (pe_callB (kr_len (K := K) rfl) (by rfl) m_len PySem.boot_len (pa_cons (pv 2) pa_nil)) (nomark _))
  (pss_cons (ps_ret pe_bl)
 pss_nil)
  pss_nil)
 (pss_cons (ps_if (pt_cmpR op_ne (pe_op op_mod (pe_callB (kr_len (K := K) rfl) (by rfl) m_len PySem.boot_len (pa_cons (pe_callC c_fulls (hr.mono (by decide)) (by rfl) (pa_cons (pv 1) pa_nil)) pa_nil)) pe_int) (pe_op op_mod (pe_callB (kr_len (K := K) rfl) (by rfl) m_len PySem.boot_len (pa_cons (pe_callC c_doors (hr.mono (by decide)) (by rfl) (pa_cons (pv 1) pa_nil)) pa_nil)) pe_int) (nomark _))
  (pss_cons (ps_ret pe_bl)
 pss_nil)
  pss_nil)
 (pss_cons (ps_ret (pe_cmpR op_eq (ke_fld (K := K) rfl (pe_callC c_walk_out (hr.mono (by decide)) (by rfl) (pa_cons (pe_lst (pa_cons pe_str (pa_cons pe_str pa_nil))) (pa_cons (pe_tup (pa_cons pe_int (pa_cons pe_int (pa_cons pe_int pa_nil)))) pa_nil))) rfl) pe_int (nomark _)))
 pss_nil))))))), ?_⟩
    refine y_tri rfl hS h63 ?_
    intro p H1 n c n22 e1 hT
    have few := hT.few
    have hc := hT.ltr
    have enF : ∀ {i : Nat} {σ : L2.St} {H' : Hp}, σ[i]? = some (some (.ref p)) → Ex H1 H' → EvN K (tCall (spFulls K) [] E0 (tCons (tVar i) tNil)) σ H' ((fulls n c).map smD) := fun h e => by
      refine en_call (eax1 (R1 := fun v H1 => Tri K H1 v n c) (ex_var h fun H1 e1 => hT.mono (e.trans e1))) ?_
      rintro vs H2 e2 ⟨b, rfl, h⟩
      exact ⟨b, n, c, rfl, h, rfl⟩
    have enD : ∀ {i : Nat} {σ : L2.St} {H' : Hp}, σ[i]? = some (some (.ref p)) → Ex H1 H' → EvN K (tCall (spDoors K) [] E0 (tCons (tVar i) tNil)) σ H' ((doors n c).map fun k => .int (k : Nat)) := fun h e => by
      refine en_call (eax1 (R1 := fun v H1 => Tri K H1 v n c) (ex_var h fun H1 e1 => hT.mono (e.trans e1))) ?_
      rintro vs H2 e2 ⟨b, rfl, h⟩
      exact ⟨b, n, c, rfl, h, rfl⟩
    refine y_asgG K [] (en_lst eai_nil (Nat.zero_le _)) ?_
    intro l H2 g2
    refine y_asg (fun v H3 => Ls K H3 v ((fulls n c).map smD)) (EvN.k (enF rfl g2.ex)) ?_
    intro ev H3 e3 hV
    have fl : (fulls n c).length ≤ 900 := fulls_few n22
    obtain ⟨j, hj, hj5⟩ : ∃ j : Nat, ns.sum % 5 = (j : Int) ∧ j < 5 := ⟨(ns.sum % 5).toNat, by omega, by omega⟩
    have hlo : (8 : Int) + ns.sum % 5 = ((8 + j : Nat) : Int) := by omega
    obtain ⟨nd, nl⟩ := picks5 (fulls_nodup n c) j
    rw [← hlo] at nd nl
    refine x_forN (L := cutD (fulls n c) none (some 8) ++ Pickd (stepIx (some (8 + ns.sum % 5)) 5 (fulls n c).length) (fulls n c)) (enc := smD) (EvN.to (en_cat (EvN.m (en_slK (ek_var rfl hV) eo_no (eo_at (K := K) ei_int))) (EvN.m (en_stepL (lo := some (8 + ns.sum % 5)) (k := 5) (ek_var rfl hV) (eo_at (K := K) (ei_I0i ei_int (ei_Ii (ei_sum (ek_var rfl (hS.mono ((e1.trans g2.ex).trans e3)))) ei_int (by decide)))) (eo_at (K := K) ei_int) (by decide))) ?_) ?_) ?_
    · have h1 := pickd_len (stepIx (some (8 + ns.sum % 5)) 5 ((fulls n c).map smD).length) ((fulls n c).map smD)
      have h2 := stepIx_len (some (8 + ns.sum % 5)) (show (0 : Int) < 5 by decide) ((fulls n c).map smD).length
      have h3 := cutD_len ((fulls n c).map smD) none (some 8)
      simp only [List.length_map] at h1 h2 h3 ⊢
      omega
    · rw [List.map_append, ← pickd_map, ← cutD_map, List.length_map]
    intro a xs H4 hna e4 ha hxs
    have all : ∀ s ∈ cutD (fulls n c) none (some 8) ++ Pickd (stepIx (some (8 + ns.sum % 5)) 5 (fulls n c).length) (fulls n c), s ∈ fulls n c := fun s hs => by
      rcases List.mem_append.mp hs with hs | hs
      · exact cutD_mem hs
      · exact pickd_mem hs
    generalize hpk : cutD (fulls n c) none (some 8) ++ Pickd (stepIx (some (8 + ns.sum % 5)) 5 (fulls n c).length) (fulls n c) = picks at *
    have g3 := g2.go e3
    have g4 := g3.go e4
    obtain ⟨ys3, hy3, _⟩ := g3.has
    obtain ⟨ys4, hy4, _⟩ := g4.has
    have hal : a ≠ l := by rintro rfl; rw [hna] at hy3; cases hy3
    refine ⟨fun i σ' H' => (∃ y4 y5, σ' = [some scr, some (.ref p), some (.ref l), some ev, y4, y5]) ∧ ∃ es : List (List Int), Grow K H1 H' l (es.map intT) ∧ Kp l H4 H' ∧ es.length = i ∧ ∀ (m : Nat) s, m < es.length → picks[m]? = some s → ∃ e, es[m]? = some e ∧ EndOf n c s e, ⟨⟨_, _, rfl⟩, [], g4, fun _ _ _ h => h, rfl, fun m s hm => absurd hm (Nat.not_lt_zero _)⟩, fun i σ' H' _ ⟨_, es, _, kp, _⟩ => ⟨sq_of (kp _ _ hal ha), hxs.kp hy4 kp⟩, ?_, ?_⟩
    · rintro i s v σ' H5 hi ⟨⟨y4, y5, rfl⟩, es, g5, kp, len, he⟩ hv
      have hs := List.mem_filter.mp (all s (List.mem_of_getElem? hi))
      have hss := mem_smalls.mp hs.1
      have hsf : tnS c s ≠ 0 := of_decide_eq_true hs.2
      have hip := (List.getElem?_eq_some_iff.mp hi).1
      refine binds_name _ ?_
      have hT5 := hT.mono g5.ex
      refine y_no (et_to (et_not (a := true) (et_val K (ei_call (eax2 (R1 := fun v H1 => Tri K H1 v n c) (R2 := fun v H1 => Im K H1 v (smD s)) (ex_var rfl fun H1 e => hT5.mono e) (fun _ _ _ e h => h.mono e) (ei_var rfl hv)) ?_))) rfl) ?_
      · rintro vs H6 e6 ⟨a, b, rfl, h1, h2⟩
        exact ⟨a, b, n, c, s, rfl, h1, h2, hss, hsf, rfl⟩
      intro H6 e6
      have hT6 := hT5.mono e6
      obtain ⟨b, tl, z, hb1, hb2, hlen, hP, hG⟩ := full_walk hc hss hsf
      obtain ⟨t', d, hd1, kd, _, _⟩ := back_walk hc hP
      have hl := len_few few hlen
      have hsm := path_sm hP
      have hlast : atI (((b :: tl).map Lk.s).map smD) (-1) = some (smD d.s) := by
        rw [hd1, List.map_append, List.map_append]; exact atI_last _ _
      have hend : EndOf n c s (endL d.s z) := ⟨t'.map Lk.s, d.s, z, by rw [hd1, List.map_append] at hG; exact hG, kd.sm, rfl⟩
      refine y_asg (IsWalk K CE CO H6 ((b :: tl).map Lk.s) z) (ex_walkOut (ex_var rfl fun H1 e => hT6.mono e) (ei_var rfl (hv.mono e6)) hss hsf hG hsm (by rw [List.length_map]; exact hl)) ?_
      intro fv H7 e7 hW
      have e57 := e6.trans e7
      refine x_appR (d := intT (endL d.s z)) (g5.go e57) (evv_var rfl) ?_ (by rw [List.length_map]; omega) ?_
      · cases z with
        | ended => exact EvI.to (ei_if (b := false) (d := .none) (e := smD d.s) (et_val K (ei_isW kk (kk.isO .ended) (ex_var rfl fun H1 e => hW.mono e))) (fun h => by cases h) fun _ => ei_ixK (ek_smalls kk (ex_var rfl fun H1 e => hW.mono e)) (ei_neg ei_int) hlast) rfl
        | out k => exact EvI.to (ei_if (b := true) (d := .tuple [.int (k : Int), .int 0, .int 2]) (e := .none) (et_val K (ei_isW kk (kk.isO (.out k)) (ex_var rfl fun H1 e => hW.mono e))) (fun _ => ei_tup (eai_cons (ei_door kk (ex_var rfl fun H1 e => hW.mono e)) (eai_cons ei_int (eai_cons ei_int eai_nil))) (Nat.le_of_ble_eq_true rfl)) fun h => by cases h) rfl
      intro H8 g8 _ keep
      refine ⟨⟨_, _, rfl⟩, es ++ [endL d.s z], by rw [List.map_append]; exact g8, fun m o hm h => keep _ _ hm (e57 _ _ (kp _ _ hm h)), by rw [List.length_append, len]; rfl, fun m s' hm hs' => ?_⟩
      rw [List.length_append, List.length_singleton] at hm
      by_cases hmi : m < es.length
      · obtain ⟨e, g, E⟩ := he m s' hmi hs'
        exact ⟨e, by rw [List.getElem?_append_left hmi]; exact g, E⟩
      · have : m = es.length := by omega
        subst this
        rw [len, hi] at hs'
        cases hs'
        exact ⟨_, by rw [List.getElem?_append_right (Nat.le_refl _), Nat.sub_self]; rfl, hend⟩
    · rintro σ' H5 ⟨⟨y4, y5, rfl⟩, es, g5, kp, len, he⟩
      have hnd := ends_nodup hc nd all len he
      have hle : es.length ≤ 300 := by omega
      refine y_no (et_to (et_of K (ei_I0b (f := fun i j => decide (i < j)) (ei_lenSetB (ex_var rfl fun H1 e => (g5.go e).ls) hnd hle) (EvI.to (ei_lenK (ek_var rfl g5.ls.ls)) (by rw [List.length_map])))) (decide_eq_false (Int.lt_irrefl _))) ?_
      intro H6 e6
      have e16 := g5.ex.trans e6
      refine y_no (et_to (et_of K (ei_neI (ei_Ii (EvI.to (ei_lenK (EvN.k (enF rfl e16))) (by rw [List.length_map])) ei_int (by decide)) (ei_Ii (EvI.to (ei_lenK (EvN.k (enD rfl e16))) (by rw [List.length_map])) ei_int (by decide)))) ?_) ?_
      · have := parity n c hc
        rw [decide_eq_true (by show ((fulls n c).length : Int) % 2 = ((doors n c).length : Int) % 2; omega)]; rfl
      intro H7 e7
      refine y_retI K (.bool true) ?_ (fun v H8 e8 r => by rw [r.blE]; exact q H8)
      exact EvI.to (ei_eqI (ei_door (d := 0) (L := [(0, 0, 1)]) (H0 := H7) kk (ex_walkOut (s := (0, 0, 1)) ex_triB (ei_tup (eai_cons ei_int (eai_cons ei_int (eai_cons ei_int eai_nil))) (Nat.le_of_ble_eq_true rfl)) (.inl ⟨rfl, by decide⟩) (by decide +kernel) goB (fun s h => by rw [List.mem_singleton.mp h]; exact .inl ⟨rfl, by decide⟩) (Nat.le_of_ble_eq_true rfl))) ei_int) rfl
end
end DWL
namespace DWH
open PySem PySem.Spec PyProof.Rows L2 DWL
def d_is_number : He.DefD := ⟨("is_number", none), "is_number", "is_number", defArgs s_is_number, defBody s_is_number, defScope s_is_number, [], []⟩
def d_asked_triangle : He.DefD := ⟨("asked_triangle", none), "asked_triangle", "asked_triangle", defArgs s_asked_triangle, defBody s_asked_triangle, defScope s_asked_triangle, [], []⟩
def d_is_small : He.DefD := ⟨("is_small", none), "is_small", "is_small", defArgs s_is_small, defBody s_is_small, defScope s_is_small, [], []⟩
def d_asked_small : He.DefD := ⟨("asked_small", none), "asked_small", "asked_small", defArgs s_asked_small, defBody s_asked_small, defScope s_asked_small, [], []⟩
def d_corners : He.DefD := ⟨("corners", none), "corners", "corners", defArgs s_corners, defBody s_corners, defScope s_corners, [], []⟩
def d_letters_of : He.DefD := ⟨("letters_of", none), "letters_of", "letters_of", defArgs s_letters_of, defBody s_letters_of, defScope s_letters_of, [], []⟩
def d_turn_of : He.DefD := ⟨("turn_of", none), "turn_of", "turn_of", defArgs s_turn_of, defBody s_turn_of, defScope s_turn_of, [], []⟩
def d_smalls : He.DefD := ⟨("smalls", none), "smalls", "smalls", defArgs s_smalls, defBody s_smalls, defScope s_smalls, [], []⟩
def d_side : He.DefD := ⟨("side", none), "side", "side", defArgs s_side, defBody s_side, defScope s_side, [], []⟩
def d_step_of : He.DefD := ⟨("step_of", none), "step_of", "step_of", defArgs s_step_of, defBody s_step_of, defScope s_step_of, [], []⟩
def d_fulls : He.DefD := ⟨("fulls", none), "fulls", "fulls", defArgs s_fulls, defBody s_fulls, defScope s_fulls, [], []⟩
def d_turn : He.DefD := ⟨("turn", none), "turn", "turn", defArgs s_turn, defBody s_turn, defScope s_turn, [], []⟩
def d_doors : He.DefD := ⟨("doors", none), "doors", "doors", defArgs s_doors, defBody s_doors, defScope s_doors, [], []⟩
def d_within : He.DefD := ⟨("within", none), "within", "within", defArgs s_within, defBody s_within, defScope s_within, [], []⟩
def d_beyond : He.DefD := ⟨("beyond", none), "beyond", "beyond", defArgs s_beyond, defBody s_beyond, defScope s_beyond, [], []⟩
def d_other_doors : He.DefD := ⟨("other_doors", none), "other_doors", "other_doors", defArgs s_other_doors, defBody s_other_doors, defScope s_other_doors, [], []⟩
def d_walked : He.DefD := ⟨("walked", none), "walked", "walked", defArgs s_walked, defBody s_walked, defScope s_walked, [], []⟩
def d_walk : He.DefD := ⟨("walk", none), "walk", "walk", defArgs s_walk, defBody s_walk, defScope s_walk, [], []⟩
def d_walk_out : He.DefD := ⟨("walk_out", none), "walk_out", "walk_out", defArgs s_walk_out, defBody s_walk_out, defScope s_walk_out, [], []⟩
def d__law_triangle : He.DefD := ⟨("_law_triangle", none), "_law_triangle", "_law_triangle", defArgs s__law_triangle, defBody s__law_triangle, defScope s__law_triangle, [], []⟩
def d__law_spots : He.DefD := ⟨("_law_spots", none), "_law_spots", "_law_spots", defArgs s__law_spots, defBody s__law_spots, defScope s__law_spots, [], []⟩
def d__law_shared : He.DefD := ⟨("_law_shared", none), "_law_shared", "_law_shared", defArgs s__law_shared, defBody s__law_shared, defScope s__law_shared, [], []⟩
def d__law_round : He.DefD := ⟨("_law_round", none), "_law_round", "_law_round", defArgs s__law_round, defBody s__law_round, defScope s__law_round, [], []⟩
def d__law_steps_right : He.DefD := ⟨("_law_steps_right", none), "_law_steps_right", "_law_steps_right", defArgs s__law_steps_right, defBody s__law_steps_right, defScope s__law_steps_right, [], []⟩
def d__law_right : He.DefD := ⟨("_law_right", none), "_law_right", "_law_right", defArgs s__law_right, defBody s__law_right, defScope s__law_right, [], []⟩
def d_law : He.DefD := ⟨("law", none), "law", "law", defArgs s_law, defBody s_law, defScope s_law, [], []⟩
def d_Ended___init__ : He.DefD := ⟨("Ended", some "__init__"), "__init__", "Ended.__init__", defArgs s_Ended___init__, defBody s_Ended___init__, defScope s_Ended___init__, [], []⟩
def d_Out___init__ : He.DefD := ⟨("Out", some "__init__"), "__init__", "Out.__init__", defArgs s_Out___init__, defBody s_Out___init__, defScope s_Out___init__, [], []⟩
def fn : List He.DefD := [d_is_number, d_asked_triangle, d_is_small, d_asked_small, d_corners, d_letters_of, d_turn_of, d_smalls, d_side, d_step_of, d_fulls, d_turn, d_doors, d_within, d_beyond, d_other_doors, d_walked, d_walk, d_walk_out, d__law_triangle, d__law_spots, d__law_shared, d__law_round, d__law_steps_right, d__law_right, d_law, d_Ended___init__, d_Out___init__]
def fa : List He.Fa := [.glo "is_number", .glo "asked_triangle", .glo "is_small", .glo "asked_small", .glo "corners", .glo "letters_of", .glo "turn_of", .glo "smalls", .glo "side", .glo "step_of", .glo "fulls", .glo "turn", .glo "doors", .glo "within", .glo "beyond", .glo "other_doors", .glo "walked", .glo "walk", .glo "walk_out", .glo "_law_triangle", .glo "_law_spots", .glo "_law_shared", .glo "_law_round", .glo "_law_steps_right", .glo "_law_right", .glo "law", .free "all", .free "bool", .free "enumerate", .free "int", .free "isinstance", .free "len", .free "list", .free "range", .free "set", .free "sorted", .free "str", .free "sum", .free "tuple", .str "LETTERS" "abc", .glo "Ended", .glo "Out", .glo "Full", .cls "Ended", .cls "Out", .noat "Ended" "smalls", .noat "Out" "door", .noat "Out" "smalls", .mkr "Ended", .mkr "Out"]
def fx : List DWX.Fx := [.ty "Ended", .ty "Out", .isa "Ended" "Out" false, .isa "Out" "Ended" false, .isa "Ended" "Full" false, .isa "Out" "Full" false]
abbrev R : PySem.W.OpenRow := PySem.W.OpenLaw.row PySem.Challenge.rw_doorwalk_k04_whole_out
abbrev hk : PySem.W.Hook := DWX.hookX 5 fa fx fn
def ob (s : PySem.W.SharedT) : Bool × He.AlD := DWX.obsXG 5 fa fx fn (HandSHeadRun.getT s)
theorem ob_eq (s : PySem.W.SharedT) : ob s = hk.obs s.abs := DWX.obsXG_eq (HandSHeadRun.getT_eq s)
theorem run (w : World) : HandSHeadRun.RunEq R (PySem.W.view R.prog [40]) hk ob 8000 ("_wall" :: "WalkError" :: "BadTriangle" :: "BadSmall" :: "BadDoor" :: "is_number" :: "asked_triangle" :: "is_small" :: "asked_small" :: "corners" :: "letters_of" :: "turn_of" :: "smalls" :: "side" :: "step_of" :: "fulls" :: "turn" :: "doors" :: "Answer" :: "Full" :: "Ended" :: "Out" :: "within" :: "beyond" :: "other_doors" :: "walked" :: "walk" :: "walk_out" :: "_law_triangle" :: "_law_spots" :: "_law_shared" :: "_law_round" :: "_law_steps_right" :: "_law_right" :: "LETTERS" :: []) w := by
  intro os
  kernel_rfl
theorem facts {P : Program} {w : World} {K : PySem.W.Frag} {h : Heap} {mg : Str → Option Value} {f : Addr} (X : K.In h) (G : h.Ns mainGlobals mg) (hfa : mg ("law" : Str) = some (.ref f)) (cx : DWX.SaysX fa fx fn K) :
    ∃ fd : FuncData, (∀ (s : Shared) (v : Value), BindsTo s fd ⟨[v], []⟩ [("_law_script", v)]) ∧ ∀ base : Heap, K.In base → base.Ns mainGlobals mg → FnOk P w K mg base CX0 6 f fd ["_law_script"] (spLaw K) := by
  have c : He.SaysD fa fn K := cx.says
  obtain ⟨fd_is_number, F_is_number⟩ := c.def_ 0 (d := d_is_number) rfl
  obtain ⟨fd_asked_triangle, F_asked_triangle⟩ := c.def_ 1 (d := d_asked_triangle) rfl
  obtain ⟨fd_is_small, F_is_small⟩ := c.def_ 2 (d := d_is_small) rfl
  obtain ⟨fd_asked_small, F_asked_small⟩ := c.def_ 3 (d := d_asked_small) rfl
  obtain ⟨fd_corners, F_corners⟩ := c.def_ 4 (d := d_corners) rfl
  obtain ⟨fd_letters_of, F_letters_of⟩ := c.def_ 5 (d := d_letters_of) rfl
  obtain ⟨fd_turn_of, F_turn_of⟩ := c.def_ 6 (d := d_turn_of) rfl
  obtain ⟨fd_smalls, F_smalls⟩ := c.def_ 7 (d := d_smalls) rfl
  obtain ⟨fd_side, F_side⟩ := c.def_ 8 (d := d_side) rfl
  obtain ⟨fd_step_of, F_step_of⟩ := c.def_ 9 (d := d_step_of) rfl
  obtain ⟨fd_fulls, F_fulls⟩ := c.def_ 10 (d := d_fulls) rfl
  obtain ⟨fd_turn, F_turn⟩ := c.def_ 11 (d := d_turn) rfl
  obtain ⟨fd_doors, F_doors⟩ := c.def_ 12 (d := d_doors) rfl
  obtain ⟨fd_within, F_within⟩ := c.def_ 13 (d := d_within) rfl
  obtain ⟨fd_beyond, F_beyond⟩ := c.def_ 14 (d := d_beyond) rfl
  obtain ⟨fd_other_doors, F_other_doors⟩ := c.def_ 15 (d := d_other_doors) rfl
  obtain ⟨fd_walked, F_walked⟩ := c.def_ 16 (d := d_walked) rfl
  obtain ⟨fd_walk, F_walk⟩ := c.def_ 17 (d := d_walk) rfl
  obtain ⟨fd_walk_out, F_walk_out⟩ := c.def_ 18 (d := d_walk_out) rfl
  obtain ⟨fd__law_triangle, F__law_triangle⟩ := c.def_ 19 (d := d__law_triangle) rfl
  obtain ⟨fd__law_spots, F__law_spots⟩ := c.def_ 20 (d := d__law_spots) rfl
  obtain ⟨fd__law_shared, F__law_shared⟩ := c.def_ 21 (d := d__law_shared) rfl
  obtain ⟨fd__law_round, F__law_round⟩ := c.def_ 22 (d := d__law_round) rfl
  obtain ⟨fd__law_steps_right, F__law_steps_right⟩ := c.def_ 23 (d := d__law_steps_right) rfl
  obtain ⟨fd__law_right, F__law_right⟩ := c.def_ 24 (d := d__law_right) rfl
  obtain ⟨fd_law, F_law⟩ := c.def_ 25 (d := d_law) rfl
  obtain ⟨fd_Ended___init__, F_Ended___init__⟩ := c.def_ 26 (d := d_Ended___init__) rfl
  obtain ⟨fd_Out___init__, F_Out___init__⟩ := c.def_ 27 (d := d_Out___init__) rfl
  have e := hfa.symm.trans (He.glo_ok X G (c.fact 25 (f := .glo "law") rfl))
  cases e
  have D_is_number : Def K mg "is_number" s_is_number := ⟨_, _, F_is_number, He.glo_ok X G (c.fact 0 (f := .glo "is_number") rfl)⟩
  have D_asked_triangle : Def K mg "asked_triangle" s_asked_triangle := ⟨_, _, F_asked_triangle, He.glo_ok X G (c.fact 1 (f := .glo "asked_triangle") rfl)⟩
  have D_is_small : Def K mg "is_small" s_is_small := ⟨_, _, F_is_small, He.glo_ok X G (c.fact 2 (f := .glo "is_small") rfl)⟩
  have D_asked_small : Def K mg "asked_small" s_asked_small := ⟨_, _, F_asked_small, He.glo_ok X G (c.fact 3 (f := .glo "asked_small") rfl)⟩
  have D_corners : Def K mg "corners" s_corners := ⟨_, _, F_corners, He.glo_ok X G (c.fact 4 (f := .glo "corners") rfl)⟩
  have D_letters_of : Def K mg "letters_of" s_letters_of := ⟨_, _, F_letters_of, He.glo_ok X G (c.fact 5 (f := .glo "letters_of") rfl)⟩
  have D_turn_of : Def K mg "turn_of" s_turn_of := ⟨_, _, F_turn_of, He.glo_ok X G (c.fact 6 (f := .glo "turn_of") rfl)⟩
  have D_smalls : Def K mg "smalls" s_smalls := ⟨_, _, F_smalls, He.glo_ok X G (c.fact 7 (f := .glo "smalls") rfl)⟩
  have D_side : Def K mg "side" s_side := ⟨_, _, F_side, He.glo_ok X G (c.fact 8 (f := .glo "side") rfl)⟩
  have D_step_of : Def K mg "step_of" s_step_of := ⟨_, _, F_step_of, He.glo_ok X G (c.fact 9 (f := .glo "step_of") rfl)⟩
  have D_fulls : Def K mg "fulls" s_fulls := ⟨_, _, F_fulls, He.glo_ok X G (c.fact 10 (f := .glo "fulls") rfl)⟩
  have D_turn : Def K mg "turn" s_turn := ⟨_, _, F_turn, He.glo_ok X G (c.fact 11 (f := .glo "turn") rfl)⟩
  have D_doors : Def K mg "doors" s_doors := ⟨_, _, F_doors, He.glo_ok X G (c.fact 12 (f := .glo "doors") rfl)⟩
  have D_within : Def K mg "within" s_within := ⟨_, _, F_within, He.glo_ok X G (c.fact 13 (f := .glo "within") rfl)⟩
  have D_beyond : Def K mg "beyond" s_beyond := ⟨_, _, F_beyond, He.glo_ok X G (c.fact 14 (f := .glo "beyond") rfl)⟩
  have D_other_doors : Def K mg "other_doors" s_other_doors := ⟨_, _, F_other_doors, He.glo_ok X G (c.fact 15 (f := .glo "other_doors") rfl)⟩
  have D_walked : Def K mg "walked" s_walked := ⟨_, _, F_walked, He.glo_ok X G (c.fact 16 (f := .glo "walked") rfl)⟩
  have D_walk : Def K mg "walk" s_walk := ⟨_, _, F_walk, He.glo_ok X G (c.fact 17 (f := .glo "walk") rfl)⟩
  have D_walk_out : Def K mg "walk_out" s_walk_out := ⟨_, _, F_walk_out, He.glo_ok X G (c.fact 18 (f := .glo "walk_out") rfl)⟩
  have D__law_triangle : Def K mg "_law_triangle" s__law_triangle := ⟨_, _, F__law_triangle, He.glo_ok X G (c.fact 19 (f := .glo "_law_triangle") rfl)⟩
  have D__law_spots : Def K mg "_law_spots" s__law_spots := ⟨_, _, F__law_spots, He.glo_ok X G (c.fact 20 (f := .glo "_law_spots") rfl)⟩
  have D__law_shared : Def K mg "_law_shared" s__law_shared := ⟨_, _, F__law_shared, He.glo_ok X G (c.fact 21 (f := .glo "_law_shared") rfl)⟩
  have D__law_round : Def K mg "_law_round" s__law_round := ⟨_, _, F__law_round, He.glo_ok X G (c.fact 22 (f := .glo "_law_round") rfl)⟩
  have D__law_steps_right : Def K mg "_law_steps_right" s__law_steps_right := ⟨_, _, F__law_steps_right, He.glo_ok X G (c.fact 23 (f := .glo "_law_steps_right") rfl)⟩
  have D__law_right : Def K mg "_law_right" s__law_right := ⟨_, _, F__law_right, He.glo_ok X G (c.fact 24 (f := .glo "_law_right") rfl)⟩
  have m_all : mg "all" = none := He.free_ok X G (c.fact 26 (f := .free "all") rfl)
  have m_bool : mg "bool" = none := He.free_ok X G (c.fact 27 (f := .free "bool") rfl)
  have m_enumerate : mg "enumerate" = none := He.free_ok X G (c.fact 28 (f := .free "enumerate") rfl)
  have m_int : mg "int" = none := He.free_ok X G (c.fact 29 (f := .free "int") rfl)
  have m_isinstance : mg "isinstance" = none := He.free_ok X G (c.fact 30 (f := .free "isinstance") rfl)
  have m_len : mg "len" = none := He.free_ok X G (c.fact 31 (f := .free "len") rfl)
  have m_list : mg "list" = none := He.free_ok X G (c.fact 32 (f := .free "list") rfl)
  have m_range : mg "range" = none := He.free_ok X G (c.fact 33 (f := .free "range") rfl)
  have m_set : mg "set" = none := He.free_ok X G (c.fact 34 (f := .free "set") rfl)
  have m_sorted : mg "sorted" = none := He.free_ok X G (c.fact 35 (f := .free "sorted") rfl)
  have m_str : mg "str" = none := He.free_ok X G (c.fact 36 (f := .free "str") rfl)
  have m_sum : mg "sum" = none := He.free_ok X G (c.fact 37 (f := .free "sum") rfl)
  have m_tuple : mg "tuple" = none := He.free_ok X G (c.fact 38 (f := .free "tuple") rfl)
  have hL := He.str_ok X G (c.fact 39 (f := .str "LETTERS" "abc") rfl)
  have g_Ended : mg "Ended" = some (.ref (He.ga K "Ended")) := He.glo_ok X G (c.fact 40 (f := .glo "Ended") rfl)
  have g_Out : mg "Out" = some (.ref (He.ga K "Out")) := He.glo_ok X G (c.fact 41 (f := .glo "Out") rfl)
  have g_Full : mg "Full" = some (.ref (He.ga K "Full")) := He.glo_ok X G (c.fact 42 (f := .glo "Full") rfl)
  have k_Ended : ClsOk K (He.ga K "Ended") ["smalls"] := by
    refine ⟨He.cls_ok (c.fact 43 (f := .cls "Ended") rfl), fun f hf => ?_⟩
    simp only [List.mem_cons, List.not_mem_nil, or_false] at hf
    rcases hf with rfl
    · exact He.noat_ok (c.fact 45 (f := .noat "Ended" "smalls") rfl)
  have k_Out : ClsOk K (He.ga K "Out") ["smalls", "door"] := by
    refine ⟨He.cls_ok (c.fact 44 (f := .cls "Out") rfl), fun f hf => ?_⟩
    simp only [List.mem_cons, List.not_mem_nil, or_false] at hf
    rcases hf with rfl | rfl
    · exact He.noat_ok (c.fact 47 (f := .noat "Out" "smalls") rfl)
    · exact He.noat_ok (c.fact 46 (f := .noat "Out" "door") rfl)
  have t_Ended := DWX.ty_ok k_Ended.cls (cx.more 0 (f := .ty "Ended") rfl)
  have t_Out := DWX.ty_ok k_Out.cls (cx.more 1 (f := .ty "Out") rfl)
  have i_Ended_Out := DWX.isa_ok (cx.more 2 (f := .isa "Ended" "Out" false) rfl)
  have i_Out_Ended := DWX.isa_ok (cx.more 3 (f := .isa "Out" "Ended" false) rfl)
  have i_Ended_Full := DWX.isa_ok (cx.more 4 (f := .isa "Ended" "Full" false) rfl)
  have i_Out_Full := DWX.isa_ok (cx.more 5 (f := .isa "Out" "Full" false) rfl)
  have DI_Ended : DefI K (He.ga K "Ended") "Ended.__init__" s_Ended___init__ := ⟨_, _, F_Ended___init__, He.mkr_ok (c.fact 48 (f := .mkr "Ended") rfl)⟩
  have DI_Out : DefI K (He.ga K "Out") "Out.__init__" s_Out___init__ := ⟨_, _, F_Out___init__, He.mkr_ok (c.fact 49 (f := .mkr "Out") rfl)⟩
  have b := FunD.bindsA (ps := ["_law_script"]) F_law fun _ _ _ _ _ _ us hl => match us, hl with | [_], _ => rfl
  refine ⟨fd_law, fun s v => b s [v] rfl, fun base _ _ => ?_⟩
  have c_is_small := ok_is_small (P := P) (w := w) (mg := mg) (base := base) D_is_small m_len
  have c_corners := ok_corners (P := P) (w := w) (mg := mg) (base := base) D_corners
  have c_letters_of := ok_letters_of (P := P) (w := w) (mg := mg) (base := base) D_letters_of c_corners
  have c_turn_of := ok_turn_of (P := P) (w := w) (mg := mg) (base := base) D_turn_of c_letters_of
  have c_step_of := ok_step_of (P := P) (w := w) (mg := mg) (base := base) D_step_of
  have c_asked_triangle := ok_asked_triangle (P := P) (w := w) (mg := mg) (base := base) D_asked_triangle hL m_len m_isinstance m_enumerate m_list m_str
  have c_is_number := ok_is_number (P := P) (w := w) (mg := mg) (base := base) D_is_number m_isinstance m_int m_bool
  have c_asked_small := ok_asked_small (P := P) (w := w) (mg := mg) (base := base) D_asked_small c_is_number c_is_small m_len m_isinstance m_tuple m_all
  have c_smalls := ok_smalls (P := P) (w := w) (mg := mg) (base := base) D_smalls c_is_small m_len m_range m_sorted
  have c_side := ok_side (P := P) (w := w) (mg := mg) (base := base) D_side m_len m_range
  have c_fulls := ok_fulls (P := P) (w := w) (mg := mg) (base := base) D_fulls c_asked_triangle c_smalls c_turn_of
  have c_turn := ok_turn (P := P) (w := w) (mg := mg) (base := base) D_turn c_asked_triangle c_asked_small c_turn_of
  have c_doors := ok_doors (P := P) (w := w) (mg := mg) (base := base) D_doors c_asked_triangle c_side c_step_of m_len m_range
  have c__law_triangle := ok_law_triangle (P := P) (w := w) (mg := mg) (base := base) D__law_triangle m_len m_range m_sum m_list
  have c_Ended := ok_Ended_init (P := P) (w := w) (mg := mg) (base := base) DI_Ended k_Ended m_list
  have c_Out := ok_Out_init (P := P) (w := w) (mg := mg) (base := base) DI_Out k_Out m_list
  have c_within := ok_within (P := P) (w := w) (mg := mg) (base := base) D_within m_len
  have c_beyond := ok_beyond (P := P) (w := w) (mg := mg) (base := base) D_beyond m_len
  have c_other_doors := ok_other_doors (P := P) (w := w) (mg := mg) (base := base) D_other_doors c_corners c_step_of m_range
  have c_walked := ok_walked (P := P) (w := w) (mg := mg) (base := base) D_walked c_other_doors c_beyond g_Ended g_Out c_Ended c_Out
  have c_walk := ok_walk (P := P) (w := w) (mg := mg) (base := base) D_walk c_asked_triangle c_is_number c_doors c_within c_walked
  have c_walk_out := ok_walk_out (P := P) (w := w) (mg := mg) (base := base) D_walk_out c_asked_triangle c_asked_small c_turn_of c_walked
  have c__law_spots := ok_law_spots (P := P) (w := w) (mg := mg) (base := base) D__law_spots
  have c__law_shared := ok_law_shared (P := P) (w := w) (mg := mg) (base := base) D__law_shared c__law_spots m_sorted
  have c__law_round := ok_law_round (P := P) (w := w) (mg := mg) (base := base) D__law_round m_len m_range
  have c__law_steps_right := ok_law_steps_right (P := P) (w := w) (mg := mg) (base := base) D__law_steps_right c__law_shared m_sorted m_len m_range
  have c__law_right := ok_law_right (P := P) (w := w) (mg := mg) (base := base) D__law_right c_walk c_walk_out c_turn c__law_steps_right g_Ended g_Out g_Full t_Ended t_Out k_Ended k_Out i_Ended_Out i_Out_Ended i_Ended_Full i_Out_Full m_list m_isinstance
  exact ok_law (P := P) (w := w) (mg := mg) (base := base) F_law c__law_triangle c_fulls c_doors c__law_right c_walk_out g_Out t_Ended t_Out k_Ended k_Out i_Ended_Out i_Out_Ended m_sum m_isinstance m_len m_set
end DWH
open PySem PySem.W PySem.Calls PyProof.Rows
theorem PySem.Challenge.cw_doorwalk_k04_whole_out_holds : PySem.Challenge.rw_doorwalk_k04_whole_out.Holds := by
  w_on; o_law
  refine HandSHeadRun.head_any (r := OpenLaw.row PySem.Challenge.rw_doorwalk_k04_whole_out) (q := view (OpenLaw.row PySem.Challenge.rw_doorwalk_k04_whole_out).prog [40]) (H := DWH.hk) (ob := DWH.ob) (M := 8000) (loose := ("_wall" :: "WalkError" :: "BadTriangle" :: "BadSmall" :: "BadDoor" :: "is_number" :: "asked_triangle" :: "is_small" :: "asked_small" :: "corners" :: "letters_of" :: "turn_of" :: "smalls" :: "side" :: "step_of" :: "fulls" :: "turn" :: "doors" :: "Answer" :: "Full" :: "Ended" :: "Out" :: "within" :: "beyond" :: "other_doors" :: "walked" :: "walk" :: "walk_out" :: "_law_triangle" :: "_law_spots" :: "_law_shared" :: "_law_round" :: "_law_steps_right" :: "_law_right" :: "LETTERS" :: [])) (d := HandSHeadRun.topDef (OpenLaw.row PySem.Challenge.rw_doorwalk_k04_whole_out).prog 40) (kwd := []) DWH.ob_eq
    (by kernel_rfl) (fun s => by kernel_rfl) DWH.run (by kernel_rfl) (by kernel_rfl) (by kernel_rfl) (by rfl) (by first | assumption | decide +kernel) (by decide +kernel) ⟨rfl, rfl, rfl, rfl, rfl, by decide +kernel⟩ ?hw ?hc
  case hw => w_witness2
  case hc =>
    refine L2.walk_ofE (l := PySem.Challenge.rw_doorwalk_k04_whole_out) (n := 63) (k := 6) (x := "_law_script") (CX := L2.CX0) rfl (by decide) (by kernel_rfl) ⟨rfl, by decide, by decide⟩ ?F (fun _ _ _ _ z => z)
    intro w mg fa h Y G hmg0
    obtain ⟨K, KX, c⟩ := Y
    have hmg : mg ("law" : PySem.Str) = some (.ref fa) := by
      have e : (HandSHeadRun.topDef (OpenLaw.row PySem.Challenge.rw_doorwalk_k04_whole_out).prog 40).name = ("law" : PySem.Str) := by kernel_rfl
      rw [← e]
      exact hmg0
    obtain ⟨fd, hb, hF⟩ := DWH.facts (P := (PySem.Challenge.rw_doorwalk_k04_whole_out).prog) (w := w) KX G hmg c
    exact ⟨K, fd, DWL.spLaw K, KX, hb, fun H a ns hl _ hS => ⟨.ref a, ns, rfl, ⟨a, _, rfl, hS, DWL.ImAll.ints H ns⟩, hl, fun _ => rfl⟩, hF⟩
