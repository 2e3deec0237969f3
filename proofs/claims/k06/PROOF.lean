import PyProof.Rows.All
import Wide.All
import OpenK.AllK
import Wide.FinOn
import KE.KStateDown
import Lean
import HandS.Base
import HandS.Call
import HandS.Ends
import HandS.More
import HandS.Words
import HandS.WordsExc
import HandS.Defaults
import HandS.Head0
import HandS.Head1
import HandS.Head2
import HandS.HeadEnd
import HandS.HeadHook1
import HandS.HeadHook2
import HandS.ForMost
import HandS.Evl
import HandS.IsInst
import HandS.Deep
import HandS.StrMore
import HandS.Style
import HandS.Walk
import HandS.SortOrd
import HandS.SortRule
import HandS.ReplaceLit
import HandS.ReplaceList
import HandS.SetTxtIn
import HandS.Strs
import HandS.SetFor
import HandS.Exc
import HandS.ExcOwn
import HandS.ExcIs
import PySem.Challenge.RW_doorwalk_k06_refused
set_option Elab.async false
set_option linter.all false
set_option maxRecDepth 100000
set_option maxHeartbeats 0
namespace DWL
open PySem PySem.Spec PyProof.Rows L2 Evl
/-! ### what does not change: numbers, truths, texts, tuples of such -/
mutual
inductive Im (K : PySem.W.Frag) (H : Hp) : V → PyData → Prop
  | non : Im K H .non .none
  | bl (b : Bool) : Im K H (.bl b) (.bool b)
  | int (i : Int) : Im K H (.int i) (.int i)
  | str (x : Str) : Im K H (.str x) (.str x)
  | tup {a : Addr} {xs : List V} {ds : List PyData} : SqT K H a xs → ImAll K H xs ds → Im K H (.ref a) (.tuple ds)
inductive ImAll (K : PySem.W.Frag) (H : Hp) : List V → List PyData → Prop
  | nil : ImAll K H [] []
  | cons {v : V} {vs : List V} {d : PyData} {ds : List PyData} : Im K H v d → ImAll K H vs ds → ImAll K H (v :: vs) (d :: ds)
end
section
variable {K : PySem.W.Frag} {H H' H1 : Hp}
mutual
theorem Im.carry (t : ∀ a xs, SqT K H a xs → SqT K H' a xs) : ∀ (d : PyData) (v : V), Im K H v d → Im K H' v d
  | .none, _, h => by cases h; exact .non
  | .bool b, _, h => by cases h; exact .bl b
  | .int i, _, h => by cases h; exact .int i
  | .str x, _, h => by cases h; exact .str x
  | .tuple ds, _, h => by
    cases h with
    | tup hs ha => exact .tup (t _ _ hs) (ImAll.carry t ds _ ha)
  | .list _, _, h => by cases h
  | .dict _, _, h => by cases h
theorem ImAll.carry (t : ∀ a xs, SqT K H a xs → SqT K H' a xs) : ∀ (ds : List PyData) (vs : List V), ImAll K H vs ds → ImAll K H' vs ds
  | [], _, h => by cases h; exact .nil
  | d :: ds, _, h => by
    cases h with
    | cons h1 h2 => exact .cons (Im.carry t d _ h1) (ImAll.carry t ds _ h2)
end
mutual
theorem Im.dp : ∀ (d : PyData) (v : V), Im K H v d → Dp K H v d
  | .none, _, h => by cases h; exact .non
  | .bool b, _, h => by cases h; exact .bl b
  | .int i, _, h => by cases h; exact .int i
  | .str x, _, h => by cases h; exact .str x
  | .tuple ds, _, h => by
    cases h with
    | tup hs ha => exact .tup hs (ImAll.dp ds _ ha)
  | .list _, _, h => by cases h
  | .dict _, _, h => by cases h
theorem ImAll.dp : ∀ (ds : List PyData) (vs : List V), ImAll K H vs ds → DpAll K H vs ds
  | [], _, h => by cases h; exact .nil
  | d :: ds, _, h => by
    cases h with
    | cons h1 h2 => exact .cons (Im.dp d _ h1) (ImAll.dp ds _ h2)
end
theorem Im.mono {d : PyData} {v : V} (e : Ex H H') (h : Im K H v d) : Im K H' v d := Im.carry (fun _ _ q => ex_t e q) d v h
theorem ImAll.mono {ds : List PyData} {vs : List V} (e : Ex H H') (h : ImAll K H vs ds) : ImAll K H' vs ds := ImAll.carry (fun _ _ q => ex_t e q) ds vs h
/-- a list is written: no tuple is touched -/
theorem sqT_wr {a l : Addr} {xs ys : List V} {o : HO} (hl : H l = some (.lst ys)) (h : SqT K H a xs) : SqT K (upd H l o) a xs := by
  rcases h with (h | ⟨ob, h⟩) | h
  · exact .inl (.inl (by rw [upd_ne (ne_of h hl (by intro z; cases z))]; exact h))
  · exact .inl (.inr ⟨ob, by rw [upd_ne (ne_of h hl (by intro z; cases z))]; exact h⟩)
  · exact .inr h
theorem Im.wr {d : PyData} {v : V} {l : Addr} {ys : List V} {o : HO} (hl : H l = some (.lst ys)) (h : Im K H v d) : Im K (upd H l o) v d := Im.carry (fun _ _ q => sqT_wr hl q) d v h
theorem ImAll.wr {ds : List PyData} {vs : List V} {l : Addr} {ys : List V} {o : HO} (hl : H l = some (.lst ys)) (h : ImAll K H vs ds) : ImAll K (upd H l o) vs ds := ImAll.carry (fun _ _ q => sqT_wr hl q) ds vs h
theorem ImAll.length {ds : List PyData} {vs : List V} (h : ImAll K H vs ds) : vs.length = ds.length := by
  induction ds generalizing vs with
  | nil => cases h; rfl
  | cons d ds ih => cases h with
    | cons h1 h2 => rw [List.length_cons, List.length_cons, ih h2]
theorem ImAll.append {ds es : List PyData} {vs ws : List V} (h : ImAll K H vs ds) (g : ImAll K H ws es) : ImAll K H (vs ++ ws) (ds ++ es) := by
  induction ds generalizing vs with
  | nil => cases h; exact g
  | cons d ds ih => cases h with
    | cons h1 h2 => exact .cons h1 (ih h2)
theorem ImAll.snoc {ds : List PyData} {vs : List V} {d : PyData} {v : V} (h : ImAll K H vs ds) (g : Im K H v d) : ImAll K H (vs ++ [v]) (ds ++ [d]) := h.append (.cons g .nil)
theorem ImAll.get {ds : List PyData} {vs : List V} (h : ImAll K H vs ds) {i : Nat} {d : PyData} (e : ds[i]? = some d) : ∃ v, vs[i]? = some v ∧ Im K H v d := by
  induction ds generalizing vs i with
  | nil => simp at e
  | cons d' ds ih => cases h with
    | cons h1 h2 => cases i with
      | zero => simp at e; subst e; exact ⟨_, rfl, h1⟩
      | succ i => simpa using ih h2 (by simpa using e)
theorem ImAll.getV {ds : List PyData} {vs : List V} (h : ImAll K H vs ds) {i : Nat} {v : V} (e : vs[i]? = some v) : ∃ d, ds[i]? = some d ∧ Im K H v d := by
  have hl := h.length
  have hi : i < vs.length := (List.getElem?_eq_some_iff.mp e).1
  obtain ⟨u, e1, e2⟩ := h.get (d := ds[i]'(by omega)) (List.getElem?_eq_getElem (by omega))
  rw [e] at e1; cases e1
  exact ⟨_, List.getElem?_eq_getElem (by omega), e2⟩
theorem ImAll.take {ds : List PyData} {vs : List V} (h : ImAll K H vs ds) (n : Nat) : ImAll K H (vs.take n) (ds.take n) := by
  induction n generalizing ds vs with
  | zero => exact .nil
  | succ n ih => cases h with
    | nil => exact .nil
    | cons h1 h2 => exact .cons h1 (ih h2)
theorem ImAll.drop {ds : List PyData} {vs : List V} (h : ImAll K H vs ds) (n : Nat) : ImAll K H (vs.drop n) (ds.drop n) := by
  induction n generalizing ds vs with
  | zero => exact h
  | succ n ih => cases h with
    | nil => exact .nil
    | cons h1 h2 => exact ih h2
theorem ImAll.set {ds : List PyData} {vs : List V} (h : ImAll K H vs ds) (i : Nat) {d : PyData} {v : V} (g : Im K H v d) : ImAll K H (vs.set i v) (ds.set i d) := by
  induction i generalizing ds vs with
  | zero => cases h with
    | nil => exact .nil
    | cons h1 h2 => exact .cons g h2
  | succ n ih => cases h with
    | nil => exact .nil
    | cons h1 h2 => exact .cons h1 (ih h2)
theorem ImAll.ints (H : Hp) : ∀ ns : List Int, ImAll K H (ns.map V.int) (ns.map PyData.int)
  | [] => .nil
  | n :: ns => .cons (.int n) (ImAll.ints H ns)
theorem ImAll.strs (H : Hp) : ∀ ns : List Str, ImAll K H (ns.map V.str) (ns.map PyData.str)
  | [] => .nil
  | n :: ns => .cons (.str n) (ImAll.strs H ns)
theorem ImAll.bls (H : Hp) : ∀ ns : List Bool, ImAll K H (ns.map V.bl) (ns.map PyData.bool)
  | [] => .nil
  | n :: ns => .cons (.bl n) (ImAll.bls H ns)
theorem ints_back : ∀ {ns : List Int} {vs : List V}, ImAll K H vs (ns.map PyData.int) → vs = ns.map V.int
  | [], _, h => by cases h; rfl
  | n :: ns, _, h => by
    cases h with
    | cons h1 h2 => cases h1; rw [ints_back h2]; rfl
theorem strs_back : ∀ {ns : List Str} {vs : List V}, ImAll K H vs (ns.map PyData.str) → vs = ns.map V.str
  | [], _, h => by cases h; rfl
  | n :: ns, _, h => by
    cases h with
    | cons h1 h2 => cases h1; rw [strs_back h2]; rfl
theorem bls_back : ∀ {ns : List Bool} {vs : List V}, ImAll K H vs (ns.map PyData.bool) → vs = ns.map V.bl
  | [], _, h => by cases h; rfl
  | n :: ns, _, h => by
    cases h with
    | cons h1 h2 => cases h1; rw [bls_back h2]; rfl
theorem Im.tup_inv {v : V} {ds : List PyData} (h : Im K H v (.tuple ds)) : ∃ a xs, v = .ref a ∧ SqT K H a xs ∧ ImAll K H xs ds := by
  cases h with
  | tup hs ha => exact ⟨_, _, rfl, hs, ha⟩
/-- a list of such, to be read -/
def Ls (K : PySem.W.Frag) (H : Hp) (v : V) (ds : List PyData) : Prop := ∃ a xs, v = .ref a ∧ SqL K H a xs ∧ ImAll K H xs ds
/-- .. tracked -/
def Lm (K : PySem.W.Frag) (H : Hp) (v : V) (ds : List PyData) : Prop := ∃ a xs, v = .ref a ∧ H a = some (.lst xs) ∧ ImAll K H xs ds
theorem Ls.mono {v : V} {ds : List PyData} (e : Ex H H') (h : Ls K H v ds) : Ls K H' v ds := by
  obtain ⟨a, xs, h1, h2, h3⟩ := h
  exact ⟨a, xs, h1, ex_l e h2, h3.mono e⟩
theorem Lm.mono {v : V} {ds : List PyData} (e : Ex H H') (h : Lm K H v ds) : Lm K H' v ds := by
  obtain ⟨a, xs, h1, h2, h3⟩ := h
  exact ⟨a, xs, h1, e _ _ h2, h3.mono e⟩
theorem Lm.ls {v : V} {ds : List PyData} (h : Lm K H v ds) : Ls K H v ds := by
  obtain ⟨a, xs, h1, h2, h3⟩ := h
  exact ⟨a, xs, h1, sq_of h2, h3⟩
theorem Ls.dp {v : V} {ds : List PyData} (h : Ls K H v ds) : Dp K H v (.list ds) := by
  obtain ⟨a, xs, h1, h2, h3⟩ := h
  subst h1
  exact .lst h2 (ImAll.dp _ _ h3)

/-! ### what evaluates to what -/
def EvX (te : TE) (σ : L2.St) (H : Hp) (R : V → Hp → Prop) : Prop := ∀ H1, Ex H H1 → ∀ Q : VK, (∀ v H2, Ex H1 H2 → R v H2 → Q v H2) → te σ H1 Q
abbrev EvI (K : PySem.W.Frag) (te : TE) (σ : L2.St) (H : Hp) (d : PyData) : Prop := EvX te σ H fun v H2 => Im K H2 v d
abbrev EvK (K : PySem.W.Frag) (te : TE) (σ : L2.St) (H : Hp) (ds : List PyData) : Prop := EvX te σ H fun v H2 => Ls K H2 v ds
abbrev EvM (K : PySem.W.Frag) (te : TE) (σ : L2.St) (H : Hp) (ds : List PyData) : Prop := EvX te σ H fun v H2 => Lm K H2 v ds
abbrev EvD (K : PySem.W.Frag) (te : TE) (σ : L2.St) (H : Hp) (d : PyData) : Prop := EvX te σ H fun v H2 => Dp K H2 v d
abbrev EvV (te : TE) (σ : L2.St) (H : Hp) (v : V) : Prop := EvX te σ H fun u _ => u = v
/-- a new list -/
def EvN (K : PySem.W.Frag) (te : TE) (σ : L2.St) (H : Hp) (ds : List PyData) : Prop := ∀ H1, Ex H H1 → ∀ Q : VK, (∀ p xs H2, H1 p = none → Ex H1 H2 → H2 p = some (.lst xs) → ImAll K H2 xs ds → Q (.ref p) H2) → te σ H1 Q
/-- arguments -/
def EvAI (K : PySem.W.Frag) (ta : TA) (σ : L2.St) (H : Hp) (ds : List PyData) : Prop := ∀ H1, Ex H H1 → ∀ Q : List V → Hp → Prop, (∀ vs H2, Ex H1 H2 → ImAll K H2 vs ds → Q vs H2) → ta σ H1 Q
abbrev Mon (R : V → Hp → Prop) : Prop := ∀ v H1 H2, Ex H1 H2 → R v H1 → R v H2
end
section
variable {K : PySem.W.Frag} {σ : L2.St} {H H' : Hp} {ta tb tc te tx : TE} {t u : TT} {x y z v : V} {r : R2} {R S : V → Hp → Prop} {d e : PyData} {ds es : List PyData}
theorem EvX.mono (e : Ex H H') (h : EvX te σ H R) : EvX te σ H' R := fun H1 a Q q => h H1 (e.trans a) Q q
theorem EvX.imp (h : EvX te σ H R) (g : ∀ v H1, R v H1 → S v H1) : EvX te σ H S := fun H1 a Q q => h H1 a Q fun v H2 e2 r => q v H2 e2 (g v H2 r)
theorem EvN.mono (e : Ex H H') (h : EvN K te σ H ds) : EvN K te σ H' ds := fun H1 a Q q => h H1 (e.trans a) Q q
theorem EvN.m (h : EvN K te σ H ds) : EvM K te σ H ds := fun H1 a Q q => h H1 a Q fun p xs H2 _ e2 h1 h2 => q _ H2 e2 ⟨p, xs, rfl, h1, h2⟩
theorem EvX.k (h : EvM K te σ H ds) : EvK K te σ H ds := EvX.imp h fun _ _ g => g.ls
theorem EvN.k (h : EvN K te σ H ds) : EvK K te σ H ds := EvX.k h.m
theorem EvN.toD (h : EvN K te σ H ds) : EvD K te σ H (.list ds) := EvX.imp h.k fun _ _ g => g.dp
theorem EvI.toD (h : EvI K te σ H d) : EvD K te σ H d := EvX.imp h fun _ _ g => Im.dp _ _ g
theorem EvK.toD (h : EvK K te σ H ds) : EvD K te σ H (.list ds) := EvX.imp h fun _ _ g => g.dp
theorem EvI.to (h : EvI K te σ H d) (e : d = e') : EvI K te σ H e' := e ▸ h
theorem EvN.to (h : EvN K te σ H ds) (e : ds = es) : EvN K te σ H es := e ▸ h
theorem EvI.ev {i : Int} (h : EvI K te σ H (.int i)) : Ev te σ H (.int i) := fun H1 e Q q => h H1 e Q fun v H2 e2 g => by cases g; exact q H2 e2
theorem ev_ei (h : Ev te σ H v) (hv : ∀ H1, Ex H H1 → Im K H1 v d) : EvI K te σ H d := fun H1 e Q q => h H1 e Q fun H2 e2 => q v H2 e2 (hv H2 (e.trans e2))
theorem mI : Mon fun v H2 => Im K H2 v d := fun _ _ _ e h => h.mono e
theorem mK : Mon fun v H2 => Ls K H2 v ds := fun _ _ _ e h => h.mono e
theorem mM : Mon fun v H2 => Lm K H2 v ds := fun _ _ _ e h => h.mono e
theorem mV : Mon fun u _ => u = v := fun _ _ _ _ h => h
theorem dp_mono {K : PySem.W.Frag} {H H' : Hp} (ee : Ex H H') : (∀ (v : V) (d : PyData), Dp K H v d → Dp K H' v d) ∧ (∀ (vs : List V) (ds : List PyData), DpAll K H vs ds → DpAll K H' vs ds) := by
  constructor
  · intro v d h
    exact Dp.rec (motive_1 := fun v d _ => Dp K H' v d) (motive_2 := fun vs ds _ => DpAll K H' vs ds) .non .bl .int .str (fun s _ q => .lst (ex_l ee s) q) (fun s _ q => .tup (ex_t ee s) q) .nil (fun _ _ a b => .cons a b) h
  · intro vs ds h
    exact DpAll.rec (motive_1 := fun v d _ => Dp K H' v d) (motive_2 := fun vs ds _ => DpAll K H' vs ds) .non .bl .int .str (fun s _ q => .lst (ex_l ee s) q) (fun s _ q => .tup (ex_t ee s) q) .nil (fun _ _ a b => .cons a b) h
theorem mD : Mon fun v H2 => Dp K H2 v d := fun _ _ _ e h => (dp_mono e).1 _ _ h
/-! names, constants -/
theorem ex_var {i : Nat} (h : σ[i]? = some (some v)) (hv : ∀ H1, Ex H H1 → R v H1) : EvX (tVar i) σ H R := fun H1 e _ q => ⟨v, h, q v H1 (Ex.refl H1) (hv H1 e)⟩
theorem ei_var {i : Nat} (h : σ[i]? = some (some v)) (hv : Im K H v d) : EvI K (tVar i) σ H d := ex_var h fun _ e => hv.mono e
theorem ek_var {i : Nat} (h : σ[i]? = some (some v)) (hv : Ls K H v ds) : EvK K (tVar i) σ H ds := ex_var h fun _ e => hv.mono e
theorem em_var {i : Nat} (h : σ[i]? = some (some v)) (hv : Lm K H v ds) : EvM K (tVar i) σ H ds := ex_var h fun _ e => hv.mono e
theorem evv_var {i : Nat} (h : σ[i]? = some (some v)) : EvV (tVar i) σ H v := ex_var h fun _ _ => rfl
theorem ei_c (h : ∀ H, Im K H v d) : EvI K (tC v) σ H d := fun H1 _ _ q => q v H1 (Ex.refl H1) (h H1)
theorem ei_int {i : Int} : EvI K (tC (.int i)) σ H (.int i) := ei_c fun _ => .int i
theorem ei_str {s : Str} : EvI K (tC (.str s)) σ H (.str s) := ei_c fun _ => .str s
theorem ei_bl {b : Bool} : EvI K (tC (.bl b)) σ H (.bool b) := ei_c fun _ => .bl b
theorem ei_non : EvI K (tC .non) σ H .none := ei_c fun _ => .non
theorem evv_c : EvV (tC v) σ H v := fun H1 _ _ q => q v H1 (Ex.refl H1) rfl
/-! operators -/
theorem ex_op (ha : EvX ta σ H R) (ma : Mon R) (hb : EvX tb σ H S) {T : V → Hp → Prop} (hr : ∀ x y H1, Ex H H1 → R x H1 → S y H1 → ∀ Q : VK, (∀ v H2, Ex H1 H2 → T v H2 → Q v H2) → r x y H1 Q) : EvX (tOp r ta tb) σ H T := fun H1 e Q q =>
  ha H1 e _ fun x H2 e2 r1 => hb H2 (e.trans e2) _ fun y H3 e3 r2 => hr x y H3 ((e.trans e2).trans e3) (ma _ _ _ e3 r1) r2 Q fun v H4 e4 r3 => q v H4 ((e2.trans e3).trans e4) r3
theorem ei_I0 {g : Int → Int → V} {i j : Int} (ha : EvI K ta σ H (.int i)) (hb : EvI K tb σ H (.int j)) (hd : ∀ H, Im K H (g i j) d) : EvI K (tOp (rI0 g) ta tb) σ H d :=
  ex_op ha mI hb fun x y H1 _ r1 r2 Q q => by cases r1; cases r2; exact ⟨i, j, rfl, rfl, q _ H1 (Ex.refl H1) (hd H1)⟩
theorem ei_I0i {f : Int → Int → Int} {i j : Int} (ha : EvI K ta σ H (.int i)) (hb : EvI K tb σ H (.int j)) : EvI K (tOp (rI0 fun i j => .int (f i j)) ta tb) σ H (.int (f i j)) := ei_I0 ha hb fun _ => .int _
theorem ei_I0b {f : Int → Int → Bool} {i j : Int} (ha : EvI K ta σ H (.int i)) (hb : EvI K tb σ H (.int j)) : EvI K (tOp (rI0 fun i j => .bl (f i j)) ta tb) σ H (.bool (f i j)) := ei_I0 ha hb fun _ => .bl _
theorem ei_Ii {C : Int → Int → Prop} {f : Int → Int → Int} {i j : Int} (ha : EvI K ta σ H (.int i)) (hb : EvI K tb σ H (.int j)) (hc : C i j) : EvI K (tOp (rI C fun i j => .int (f i j)) ta tb) σ H (.int (f i j)) :=
  ex_op ha mI hb fun x y H1 _ r1 r2 Q q => by cases r1; cases r2; exact ⟨i, j, rfl, rfl, hc, q _ H1 (Ex.refl H1) (.int _)⟩
theorem ei_neg {i : Int} (ha : EvI K ta σ H (.int i)) : EvI K (tUn (rU fun i => .int (-i)) ta) σ H (.int (-i)) := fun H1 e Q q => ha H1 e _ fun x H2 e2 r1 => by cases r1; exact ⟨i, rfl, q _ H2 e2 (.int _)⟩
theorem ei_eqI {i j : Int} (ha : EvI K ta σ H (.int i)) (hb : EvI K tb σ H (.int j)) : EvI K (tOp rEq ta tb) σ H (.bool (decide (i = j))) :=
  ex_op ha mI hb fun x y H1 _ r1 r2 Q q => by
    cases r1; cases r2
    refine ⟨rfl, q _ H1 (Ex.refl H1) ?_⟩
    have : decide (V.int i = V.int j) = decide (i = j) := by simp
    rw [this]; exact .bl _
theorem ei_neI {i j : Int} (ha : EvI K ta σ H (.int i)) (hb : EvI K tb σ H (.int j)) : EvI K (tOp rNe ta tb) σ H (.bool (!decide (i = j))) :=
  ex_op ha mI hb fun x y H1 _ r1 r2 Q q => by
    cases r1; cases r2
    refine ⟨rfl, q _ H1 (Ex.refl H1) ?_⟩
    have : decide (V.int i = V.int j) = decide (i = j) := by simp
    rw [this]; exact .bl _
theorem ei_eqS {i j : Str} (ha : EvI K ta σ H (.str i)) (hb : EvI K tb σ H (.str j)) : EvI K (tOp rEq ta tb) σ H (.bool (decide (i = j))) :=
  ex_op ha mI hb fun x y H1 _ r1 r2 Q q => by
    cases r1; cases r2
    refine ⟨rfl, q _ H1 (Ex.refl H1) ?_⟩
    have : decide (V.str i = V.str j) = decide (i = j) := by simp
    rw [this]; exact .bl _
theorem ei_neS {i j : Str} (ha : EvI K ta σ H (.str i)) (hb : EvI K tb σ H (.str j)) : EvI K (tOp rNe ta tb) σ H (.bool (!decide (i = j))) :=
  ex_op ha mI hb fun x y H1 _ r1 r2 Q q => by
    cases r1; cases r2
    refine ⟨rfl, q _ H1 (Ex.refl H1) ?_⟩
    have : decide (V.str i = V.str j) = decide (i = j) := by simp
    rw [this]; exact .bl _
theorem ei_eqB {i j : Bool} (ha : EvI K ta σ H (.bool i)) (hb : EvI K tb σ H (.bool j)) : EvI K (tOp rEq ta tb) σ H (.bool (decide (i = j))) :=
  ex_op ha mI hb fun x y H1 _ r1 r2 Q q => by
    cases r1; cases r2
    refine ⟨rfl, q _ H1 (Ex.refl H1) ?_⟩
    have : decide (V.bl i = V.bl j) = decide (i = j) := by simp
    rw [this]; exact .bl _
theorem ei_neB {i j : Bool} (ha : EvI K ta σ H (.bool i)) (hb : EvI K tb σ H (.bool j)) : EvI K (tOp rNe ta tb) σ H (.bool (!decide (i = j))) :=
  ex_op ha mI hb fun x y H1 _ r1 r2 Q q => by
    cases r1; cases r2
    refine ⟨rfl, q _ H1 (Ex.refl H1) ?_⟩
    have : decide (V.bl i = V.bl j) = decide (i = j) := by simp
    rw [this]; exact .bl _
theorem ei_addS {i j : Str} (ha : EvI K ta σ H (.str i)) (hb : EvI K tb σ H (.str j)) (hl : i.length + j.length ≤ 100000) : EvI K (tOp (fun x y H Q => ∃ i j, x = .str i ∧ y = .str j ∧ i.length + j.length ≤ sizeLine ∧ Q (.str (i ++ j)) H) ta tb) σ H (.str (i ++ j)) :=
  ex_op ha mI hb fun x y H1 _ r1 r2 Q q => by cases r1; cases r2; exact ⟨i, j, rfl, rfl, sz_of hl, q _ H1 (Ex.refl H1) (.str _)⟩
theorem ei_eqD (ha : EvD K ta σ H d) (hb : EvD K tb σ H e) (hd : SeqAt.shaped d = true) (he : SeqAt.shaped e = true) : EvI K (tOp (rEqD K) ta tb) σ H (.bool (PyData.eqv d e)) :=
  ex_op ha mD hb fun x y H1 _ r1 r2 Q q => ⟨d, e, r1, r2, hd, he, q _ H1 (Ex.refl H1) (.bl _)⟩
theorem ei_neD (ha : EvD K ta σ H d) (hb : EvD K tb σ H e) (hd : SeqAt.shaped d = true) (he : SeqAt.shaped e = true) : EvI K (tOp (rNeD K) ta tb) σ H (.bool (!PyData.eqv d e)) :=
  ex_op ha mD hb fun x y H1 _ r1 r2 Q q => ⟨d, e, r1, r2, hd, he, q _ H1 (Ex.refl H1) (.bl _)⟩
/-- the two are one -/
theorem ei_neD0 (ha : EvD K ta σ H d) (hb : EvD K tb σ H d) (hd : SeqAt.shaped d = true) : EvI K (tOp (rNeD K) ta tb) σ H (.bool false) :=
  EvI.to (ei_neD ha hb hd hd) (by rw [SeqAt.eqv_refl d (SeqAt.canLay_of_shaped hd)]; rfl)
theorem ei_eqD1 (ha : EvD K ta σ H d) (hb : EvD K tb σ H d) (hd : SeqAt.shaped d = true) : EvI K (tOp (rEqD K) ta tb) σ H (.bool true) :=
  EvI.to (ei_eqD ha hb hd hd) (by rw [SeqAt.eqv_refl d (SeqAt.canLay_of_shaped hd)])
theorem ei_ixK {i : Int} (ha : EvK K ta σ H ds) (hb : EvI K tb σ H (.int i)) (h : atI ds i = some d) : EvI K (tOp (rIxL K) ta tb) σ H d :=
  ex_op ha mK hb fun x y H1 _ r1 r2 Q q => by
    cases r2
    obtain ⟨a, xs, rfl, h1, h2⟩ := r1
    have hl := h2.length
    unfold atI at h
    cases hk : ixN ds.length i with
    | none => rw [hk] at h; cases h
    | some j =>
      rw [hk] at h
      obtain ⟨w, e1, e2⟩ := h2.get (show ds[j]? = some d from h)
      exact ⟨a, xs, i, w, rfl, rfl, h1, by unfold atI; rw [hl, hk]; exact e1, q w H1 (Ex.refl H1) e2⟩
theorem ei_ixT {i : Int} (ha : EvI K ta σ H (.tuple ds)) (hb : EvI K tb σ H (.int i)) (h : atI ds i = some d) : EvI K (tOp (rIxT K) ta tb) σ H d :=
  ex_op ha mI hb fun x y H1 _ r1 r2 Q q => by
    cases r2
    obtain ⟨a, xs, rfl, h1, h2⟩ := r1.tup_inv
    have hl := h2.length
    unfold atI at h
    cases hk : ixN ds.length i with
    | none => rw [hk] at h; cases h
    | some j =>
      rw [hk] at h
      obtain ⟨w, e1, e2⟩ := h2.get (show ds[j]? = some d from h)
      exact ⟨a, xs, i, w, rfl, rfl, h1, by unfold atI; rw [hl, hk]; exact e1, q w H1 (Ex.refl H1) e2⟩
theorem ei_ixS {i : Int} {z : Str} {c : Nat} (ha : EvI K ta σ H (.str z)) (hb : EvI K tb σ H (.int i)) (hl : z.length ≤ 100000) (h : atI z.cps.toList i = some c) : EvI K (tOp rIxS ta tb) σ H (.str ⟨#[c]⟩) :=
  ex_op ha mI hb fun x y H1 _ r1 r2 Q q => by cases r1; cases r2; exact ⟨z, i, c, rfl, rfl, sz_of hl, h, q _ H1 (Ex.refl H1) (.str _)⟩
theorem en_cat (ha : EvM K ta σ H ds) (hb : EvM K tb σ H es) (hl : ds.length + es.length ≤ 100000) : EvN K (tOp rCat ta tb) σ H (ds ++ es) := fun H1 e Q q =>
  ha H1 e _ fun x H2 e2 r1 => hb H2 (e.trans e2) _ fun y H3 e3 r2 => by
    obtain ⟨a, xs, rfl, h1, h2⟩ := r1.mono e3
    obtain ⟨b, ys, rfl, h3, h4⟩ := r2
    refine ⟨a, b, xs, ys, rfl, rfl, h1, h3, sz_of (by rw [h2.length, h4.length]; exact hl), fun p hp => q p _ _ (fresh_back (e2.trans e3) hp) ((e2.trans e3).trans (Ex.new hp)) upd_same ((h2.append h4).mono (Ex.new hp))⟩
/-! tests -/
theorem et_of (K : PySem.W.Frag) {b : Bool} (h : EvI K te σ H (.bool b)) : EvT (tTest te) σ H b := fun H1 e Q q => h H1 e _ fun v H2 e2 r => by cases r; exact ⟨b, rfl, q H2 e2⟩
theorem et_val (K : PySem.W.Frag) {b : Bool} (h : EvI K te σ H (.bool b)) : EvT (tB te) σ H b := fun H1 e Q q => h H1 e _ fun v H2 e2 r => by cases r; exact ⟨b, rfl, q H2 e2⟩
theorem ei_andV {a b : Bool} (h1 : EvI K ta σ H (.bool a)) (h2 : a = true → EvI K tb σ H (.bool b)) : EvI K (tAndV ta tb) σ H (.bool (a && b)) := fun H1 e Q q => h1 H1 e _ fun v H2 e2 r => by
  cases r
  cases a with
  | true => exact ⟨true, rfl, h2 rfl H2 (e.trans e2) Q fun v H3 e3 r => q v H3 (e2.trans e3) r⟩
  | false => exact ⟨false, rfl, q _ H2 e2 (.bl _)⟩
theorem ei_orV {a b : Bool} (h1 : EvI K ta σ H (.bool a)) (h2 : a = false → EvI K tb σ H (.bool b)) : EvI K (tOrV ta tb) σ H (.bool (a || b)) := fun H1 e Q q => h1 H1 e _ fun v H2 e2 r => by
  cases r
  cases a with
  | false => exact ⟨false, rfl, h2 rfl H2 (e.trans e2) Q fun v H3 e3 r => q v H3 (e2.trans e3) r⟩
  | true => exact ⟨true, rfl, q _ H2 e2 (.bl _)⟩
theorem ei_notV {a : Bool} (h1 : EvI K ta σ H (.bool a)) : EvI K (tNotV ta) σ H (.bool (!a)) := fun H1 e Q q => h1 H1 e _ fun v H2 e2 r => by
  cases r
  exact ⟨a, rfl, q _ H2 e2 (.bl _)⟩
theorem ex_if {b : Bool} (h : EvT t σ H b) (h1 : b = true → EvX ta σ H R) (h2 : b = false → EvX tb σ H R) : EvX (tIf t ta tb) σ H R := fun H1 e Q q => h H1 e _ fun H2 e2 => by
  cases b with
  | true =>
    show ta σ H2 Q
    exact h1 rfl H2 (e.trans e2) Q fun v H3 e3 r => q v H3 (e2.trans e3) r
  | false =>
    show tb σ H2 Q
    exact h2 rfl H2 (e.trans e2) Q fun v H3 e3 r => q v H3 (e2.trans e3) r
theorem ei_if {b : Bool} (h : EvT t σ H b) (h1 : b = true → EvI K ta σ H d) (h2 : b = false → EvI K tb σ H e) : EvI K (tIf t ta tb) σ H (if b then d else e) := by
  cases b with
  | true => exact ex_if h (fun _ => h1 rfl) (fun q => nomatch q)
  | false => exact ex_if h (fun q => nomatch q) (fun _ => h2 rfl)
theorem ei_chain {r r' : R2} {b c : Bool} (ha : EvX ta σ H R) (ma : Mon R) (hb : EvX tb σ H S) (mb : Mon S)
    (hr : ∀ x y H1, Ex H H1 → R x H1 → S y H1 → ∀ Q : VK, Q (.bl b) H1 → r x y H1 Q) {T : V → Hp → Prop} (hc : b = true → EvX tc σ H T)
    (hr' : b = true → ∀ y z H1, Ex H H1 → S y H1 → T z H1 → ∀ Q : VK, Q (.bl c) H1 → r' y z H1 Q) : EvI K (tChain r r' ta tb tc) σ H (.bool (b && c)) := fun H1 e Q q =>
  ha H1 e _ fun x H2 e2 r1 => hb H2 (e.trans e2) _ fun y H3 e3 r2 => hr x y H3 ((e.trans e2).trans e3) (ma _ _ _ e3 r1) r2 _ ⟨b, rfl, by
    cases b with
    | false =>
      show Q (.bl false) H3
      exact q _ H3 (e2.trans e3) (.bl _)
    | true =>
      show tc σ H3 _
      exact hc rfl H3 ((e.trans e2).trans e3) _ fun z H4 e4 r3 => hr' rfl y z H4 (((e.trans e2).trans e3).trans e4) (mb _ _ _ e4 r2) r3 Q (q _ H4 ((e2.trans e3).trans e4) (.bl _))⟩
theorem ei_chainI {f f' : Int → Int → Bool} {i j k : Int} (ha : EvI K ta σ H (.int i)) (hb : EvI K tb σ H (.int j)) (hc : EvI K tc σ H (.int k)) :
    EvI K (tChain (rI0 fun i j => .bl (f i j)) (rI0 fun i j => .bl (f' i j)) ta tb tc) σ H (.bool (f i j && f' j k)) :=
  ei_chain ha mI hb mI (fun x y H1 _ r1 r2 Q q => by cases r1; cases r2; exact ⟨i, j, rfl, rfl, q⟩) (fun _ => hc) (fun _ y z H1 _ r1 r2 Q q => by cases r1; cases r2; exact ⟨j, k, rfl, rfl, q⟩)
/-! arguments, displays -/
theorem eai_nil : EvAI K tNil σ H [] := fun H1 _ _ q => q [] H1 (Ex.refl H1) .nil
theorem eai_cons {tr : TA} (h : EvI K ta σ H d) (hr : EvAI K tr σ H ds) : EvAI K (tCons ta tr) σ H (d :: ds) := fun H1 e _ q =>
  h H1 e _ fun x H2 e2 r1 => hr H2 (e.trans e2) _ fun vs H3 e3 r2 => q _ H3 (e2.trans e3) (.cons (r1.mono e3) r2)
theorem ei_tup {ta : TA} (h : EvAI K ta σ H ds) (hl : ds.length ≤ 100000) : EvI K (tTup ta) σ H (.tuple ds) := fun H1 e _ q =>
  h H1 e _ fun vs H2 e2 r => ⟨sz_of (by rw [r.length]; exact hl), fun p hp => q _ _ (e2.trans (Ex.new hp)) (.tup (st_of upd_same) (r.mono (Ex.new hp)))⟩
theorem en_lst {ta : TA} (h : EvAI K ta σ H ds) (hl : ds.length ≤ 100000) : EvN K (tLst ta) σ H ds := fun H1 e _ q =>
  h H1 e _ fun vs H2 e2 r => ⟨sz_of (by rw [r.length]; exact hl), fun p hp => q p vs _ (fresh_back e2 hp) (e2.trans (Ex.new hp)) upd_same (r.mono (Ex.new hp))⟩
/-! built-ins -/
theorem ei_lenK (ha : EvK K ta σ H ds) : EvI K (tCB (fun xs H Q => ∃ p ys, xs = [.ref p] ∧ (SqL K H p ys ∨ SqT K H p ys) ∧ Q (.int ys.length) H) (tCons ta tNil)) σ H (.int (ds.length : Int)) := fun H1 e Q q =>
  ha H1 e _ fun x H2 e2 r => by
    obtain ⟨a, xs, rfl, h1, h2⟩ := r
    refine ⟨a, xs, rfl, .inl h1, q _ H2 e2 ?_⟩
    rw [h2.length]; exact .int _
theorem ei_lenT (ha : EvI K ta σ H (.tuple ds)) : EvI K (tCB (fun xs H Q => ∃ p ys, xs = [.ref p] ∧ (SqL K H p ys ∨ SqT K H p ys) ∧ Q (.int ys.length) H) (tCons ta tNil)) σ H (.int (ds.length : Int)) := fun H1 e Q q =>
  ha H1 e _ fun x H2 e2 r => by
    obtain ⟨a, xs, rfl, h1, h2⟩ := r.tup_inv
    refine ⟨a, xs, rfl, .inr h1, q _ H2 e2 ?_⟩
    rw [h2.length]; exact .int _
theorem ei_lenS {z : Str} (ha : EvI K ta σ H (.str z)) (hl : z.length ≤ 100000) : EvI K (tCB (fun xs H Q => ∃ z, xs = [.str z] ∧ z.length ≤ sizeLine ∧ Q (.int z.length) H) (tCons ta tNil)) σ H (.int (z.length : Int)) := fun H1 e Q q =>
  ha H1 e _ fun x H2 e2 r => by cases r; exact ⟨z, rfl, sz_of hl, q _ H2 e2 (.int _)⟩
theorem ei_sum {ns : List Int} (ha : EvK K ta σ H (ns.map PyData.int)) : EvI K (tCB (rSum K) (tCons ta tNil)) σ H (.int ns.sum) := fun H1 e Q q =>
  ha H1 e _ fun x H2 e2 r => by
    obtain ⟨a, xs, rfl, h1, h2⟩ := r
    have := ints_back h2
    subst this
    exact ⟨a, ns, rfl, h1, q _ H2 e2 (.int _)⟩
theorem en_listK (ha : EvK K ta σ H ds) : EvN K (tCB (rListS K) (tCons ta tNil)) σ H ds := fun H1 e Q q =>
  ha H1 e _ fun x H2 e2 r => by
    obtain ⟨a, xs, rfl, h1, h2⟩ := r
    exact ⟨a, xs, rfl, .inl h1, fun l hl => q l xs _ (fresh_back e2 hl) (e2.trans (Ex.new hl)) upd_same (h2.mono (Ex.new hl))⟩
/-! slices -/
theorem eo_no : EvO tNoPart σ H none := eo_none
theorem eo_at {i : Int} (h : EvI K te σ H (.int i)) : EvO (tPart te) σ H (some i) := fun H1 e _ q => h H1 e _ fun v H2 e2 r => by cases r; exact ⟨i, rfl, q H2 e2⟩
theorem ei_slS {tl th : TO} {z : Str} {lo hi : Option Int} (h : EvI K te σ H (.str z)) (h1 : EvO tl σ H lo) (h2 : EvO th σ H hi) (hl : z.length ≤ 100000) : EvI K (tSl rSlS te tl th) σ H (.str (cutS z lo hi)) := fun H1 e _ q =>
  h H1 e _ fun x H2 e2 r => h1 H2 (e.trans e2) _ fun H3 e3 => h2 H3 ((e.trans e2).trans e3) _ fun H4 e4 => by
    cases r
    exact ⟨z, rfl, sz_of hl, q _ H4 ((e2.trans e3).trans e4) (.str _)⟩
def cutD {α : Type} (xs : List α) (lo hi : Option Int) : List α := (xs.drop (HT.sIx xs.length 0 lo)).take (HT.sIx xs.length xs.length hi - HT.sIx xs.length 0 lo)
theorem en_slK {tl th : TO} {lo hi : Option Int} (h : EvK K te σ H ds) (h1 : EvO tl σ H lo) (h2 : EvO th σ H hi) : EvN K (tSl (rSlL K) te tl th) σ H (cutD ds lo hi) := fun H1 e _ q =>
  h H1 e _ fun x H2 e2 r => h1 H2 (e.trans e2) _ fun H3 e3 => h2 H3 ((e.trans e2).trans e3) _ fun H4 e4 => by
    obtain ⟨a, xs, rfl, g1, g2⟩ := r.mono (e3.trans e4)
    refine ⟨a, xs, rfl, g1, fun p hp => q p _ _ (fresh_back ((e2.trans e3).trans e4) hp) (((e2.trans e3).trans e4).trans (Ex.new hp)) upd_same ?_⟩
    have := (g2.drop (HT.sIx xs.length 0 lo)).take (HT.sIx xs.length xs.length hi - HT.sIx xs.length 0 lo)
    rw [show cutV xs lo hi = (xs.drop (HT.sIx xs.length 0 lo)).take (HT.sIx xs.length xs.length hi - HT.sIx xs.length 0 lo) from rfl]
    unfold cutD
    rw [← g2.length]
    exact this.mono (Ex.new hp)
end
/-! ### promises -/
/-- a value that does not change; a new list; None -/
def PrI (K : PySem.W.Frag) (pre : List V → Hp → PyData → Prop) : Sp := fun vs H Q _ => ∃ d, pre vs H d ∧ ∀ v H', Ex H H' → Im K H' v d → Q v H'
def PrN (K : PySem.W.Frag) (pre : List V → Hp → List PyData → Prop) : Sp := fun vs H Q _ => ∃ ds, pre vs H ds ∧ ∀ p xs H', H p = none → Ex H H' → H' p = some (.lst xs) → ImAll K H' xs ds → Q (.ref p) H'
section
variable {K : PySem.W.Frag} {σ : L2.St} {H H' : Hp} {t1 t2 t3 t4 : TE} {R1 R2 R3 R4 : V → Hp → Prop} {d : PyData} {ds : List PyData} {E : XK}
/-- arguments with what is known of each -/
def EvAX (ta : TA) (σ : L2.St) (H : Hp) (P : List V → Hp → Prop) : Prop := ∀ H1, Ex H H1 → ∀ Q : List V → Hp → Prop, (∀ vs H2, Ex H1 H2 → P vs H2 → Q vs H2) → ta σ H1 Q
theorem eax1 (h1 : EvX t1 σ H R1) : EvAX (tCons t1 tNil) σ H fun vs H2 => ∃ x, vs = [x] ∧ R1 x H2 := fun H1 e _ q =>
  h1 H1 e _ fun x H2 e2 r1 => q [x] H2 e2 ⟨x, rfl, r1⟩
theorem eax2 (h1 : EvX t1 σ H R1) (m1 : Mon R1) (h2 : EvX t2 σ H R2) : EvAX (tCons t1 (tCons t2 tNil)) σ H fun vs H2 => ∃ x y, vs = [x, y] ∧ R1 x H2 ∧ R2 y H2 := fun H1 e _ q =>
  h1 H1 e _ fun x H2 e2 r1 => h2 H2 (e.trans e2) _ fun y H3 e3 r2 => q [x, y] H3 (e2.trans e3) ⟨x, y, rfl, m1 _ _ _ e3 r1, r2⟩
theorem eax3 (h1 : EvX t1 σ H R1) (m1 : Mon R1) (h2 : EvX t2 σ H R2) (m2 : Mon R2) (h3 : EvX t3 σ H R3) : EvAX (tCons t1 (tCons t2 (tCons t3 tNil))) σ H fun vs H2 => ∃ x y z, vs = [x, y, z] ∧ R1 x H2 ∧ R2 y H2 ∧ R3 z H2 := fun H1 e _ q =>
  h1 H1 e _ fun x H2 e2 r1 => h2 H2 (e.trans e2) _ fun y H3 e3 r2 => h3 H3 ((e.trans e2).trans e3) _ fun z H4 e4 r3 => q [x, y, z] H4 ((e2.trans e3).trans e4) ⟨x, y, z, rfl, m1 _ _ _ (e3.trans e4) r1, m2 _ _ _ e4 r2, r3⟩
theorem eax4 (h1 : EvX t1 σ H R1) (m1 : Mon R1) (h2 : EvX t2 σ H R2) (m2 : Mon R2) (h3 : EvX t3 σ H R3) (m3 : Mon R3) (h4 : EvX t4 σ H R4) : EvAX (tCons t1 (tCons t2 (tCons t3 (tCons t4 tNil)))) σ H fun vs H2 => ∃ x y z w, vs = [x, y, z, w] ∧ R1 x H2 ∧ R2 y H2 ∧ R3 z H2 ∧ R4 w H2 := fun H1 e _ q =>
  h1 H1 e _ fun x H2 e2 r1 => h2 H2 (e.trans e2) _ fun y H3 e3 r2 => h3 H3 ((e.trans e2).trans e3) _ fun z H4 e4 r3 => h4 H4 (((e.trans e2).trans e3).trans e4) _ fun w H5 e5 r4 => q [x, y, z, w] H5 (((e2.trans e3).trans e4).trans e5) ⟨x, y, z, w, rfl, m1 _ _ _ ((e3.trans e4).trans e5) r1, m2 _ _ _ (e4.trans e5) r2, m3 _ _ _ e5 r3, r4⟩
theorem ei_call {ta : TA} {P : List V → Hp → Prop} {pre : List V → Hp → PyData → Prop} (h : EvAX ta σ H P) (hp : ∀ vs H1, Ex H H1 → P vs H1 → pre vs H1 d) : EvI K (tCall (PrI K pre) [] E ta) σ H d := fun H1 e Q q =>
  h H1 e _ fun vs H2 e2 p => ⟨d, by rw [List.append_nil]; exact hp vs H2 (e.trans e2) p, fun v H3 e3 r => q v H3 (e2.trans e3) r⟩
theorem en_call {ta : TA} {P : List V → Hp → Prop} {pre : List V → Hp → List PyData → Prop} (h : EvAX ta σ H P) (hp : ∀ vs H1, Ex H H1 → P vs H1 → pre vs H1 ds) : EvN K (tCall (PrN K pre) [] E ta) σ H ds := fun H1 e Q q =>
  h H1 e _ fun vs H2 e2 p => ⟨ds, by rw [List.append_nil]; exact hp vs H2 (e.trans e2) p, fun l xs H3 hl e3 g1 g2 => q l xs H3 (fresh_back e2 hl) (e2.trans e3) g1 g2⟩
end
/-! ### statements -/
section
variable {K : PySem.W.Frag} {σ : L2.St} {H H' : Hp} {ta tb te : TE} {t : TT} {R : V → Hp → Prop} {d : PyData} {ds : List PyData} {D : Ends} {tu tw tz : TS}
theorem x_asg {i : Nat} (h : EvX te σ H R) (k : ∀ v H1, Ex H H1 → R v H1 → tz D (σ.set i (some v)) H1) : tSeq (tAsg te (gName i)) tz D σ H := h H (Ex.refl H) _ k
theorem x_asgN {i : Nat} (h : EvN K te σ H ds) (k : ∀ p xs H1, H p = none → Ex H H1 → H1 p = some (.lst xs) → ImAll K H1 xs ds → tz D (σ.set i (some (.ref p))) H1) : tSeq (tAsg te (gName i)) tz D σ H := h H (Ex.refl H) _ k
theorem x_ret (h : EvX te σ H R) (k : ∀ v H1, Ex H H1 → R v H1 → D.rt v H1) : tRet te D σ H := h H (Ex.refl H) _ k
theorem x_retN (h : EvN K te σ H ds) (k : ∀ p xs H1, H p = none → Ex H H1 → H1 p = some (.lst xs) → ImAll K H1 xs ds → D.rt (.ref p) H1) : tRet te D σ H := h H (Ex.refl H) _ k
theorem x_drop (h : EvX te σ H R) (k : ∀ v H1, Ex H H1 → R v H1 → tz D σ H1) : tSeq (tDrop te) tz D σ H := h H (Ex.refl H) _ k
theorem x_if {b : Bool} (h : EvT t σ H b) (h1 : b = true → ∀ H1, Ex H H1 → tu { D with nx := tz D } σ H1) (h2 : b = false → ∀ H1, Ex H H1 → tw { D with nx := tz D } σ H1) : tSeq (tIfS t tu tw) tz D σ H := q_if h h1 h2
/-- a list of the def's own that grows: H0 what stood before, H now -/
structure Grow (K : PySem.W.Frag) (H0 H : Hp) (l : Addr) (ds : List PyData) : Prop where
  fresh : H0 l = none
  ex : Ex H0 H
  has : ∃ xs, H l = some (.lst xs) ∧ ImAll K H xs ds
theorem Grow.go {H0 H1 : Hp} {l : Addr} (g : Grow K H0 H l ds) (e : Ex H H1) : Grow K H0 H1 l ds := by
  obtain ⟨g1, g2, xs, g3, g4⟩ := g
  exact ⟨g1, g2.trans e, xs, e _ _ g3, g4.mono e⟩
theorem Grow.app {H0 H1 : Hp} {l : Addr} {v : V} {xs : List V} (g : Grow K H0 H1 l ds) (hl : H1 l = some (.lst xs)) (hx : ImAll K H1 xs ds) (hv : Im K H1 v d) : Grow K H0 (upd H1 l (.lst (xs ++ [v]))) l (ds ++ [d]) :=
  ⟨g.fresh, Ex.mut g.ex g.fresh, _, upd_same, (hx.snoc hv).wr hl⟩
theorem Grow.ls {H0 : Hp} {l : Addr} (g : Grow K H0 H l ds) : Lm K H (.ref l) ds := by
  obtain ⟨_, _, xs, g3, g4⟩ := g
  exact ⟨l, xs, rfl, g3, g4⟩
theorem Grow.other {H0 : Hp} {l m : Addr} {es : List PyData} {o : HO} {xs : List V} (g : Grow K H0 H l ds) (hm : H m = some (.lst xs)) (h0 : H0 m = none) (hne : l ≠ m) : Grow K H0 (upd H m o) l ds := by
  obtain ⟨g1, g2, ys, g3, g4⟩ := g
  exact ⟨g1, Ex.mut g2 h0, ys, by rw [upd_ne hne]; exact g3, g4.wr hm⟩
/-- l.append(e) -/
theorem x_app {H0 : Hp} {l : Addr} (g : Grow K H0 H l ds) (ha : EvV ta σ H (.ref l)) (h : EvI K te σ H d) (hz : ds.length < 100000) (k : ∀ H1, Grow K H0 H1 l (ds ++ [d]) → (∀ m es, m ≠ l → Grow K H0 H m es → Grow K H0 H1 m es) → D.nx σ H1) :
    tDrop (tBM K "list" rAppend ta (tCons te tNil)) D σ H := ha H (Ex.refl H) _ fun u H1 e1 hu => by
  subst hu
  obtain ⟨xs1, g3, g4⟩ := (g.go e1).has
  refine ⟨.inl ⟨rfl, xs1, sq_of g3⟩, h H1 e1 _ fun w H2 e2 hw => ?_⟩
  obtain ⟨xs, g5, g6⟩ := (g.go (e1.trans e2)).has
  refine ⟨l, xs, w, rfl, rfl, g5, sz_lt (by rw [g6.length]; exact hz), k _ ((g.go (e1.trans e2)).app g5 g6 hw) fun m es hm gm => (gm.go (e1.trans e2)).other g5 g.fresh hm (es := [])⟩
theorem x_appQ {H0 : Hp} {l : Addr} (g : Grow K H0 H l ds) (ha : EvV ta σ H (.ref l)) (h : EvI K te σ H d) (hz : ds.length < 100000) (k : ∀ H1, Grow K H0 H1 l (ds ++ [d]) → (∀ m es, m ≠ l → Grow K H0 H m es → Grow K H0 H1 m es) → tz D σ H1) :
    tSeq (tDrop (tBM K "list" rAppend ta (tCons te tNil))) tz D σ H := x_app (D := { D with nx := tz D }) g ha h hz k
end
end DWL
namespace DWL
open PySem PySem.Spec PyProof.Rows L2 Evl
theorem ex_same (H : Hp) : Ex H H := Ex.refl H
section
variable {K : PySem.W.Frag} {σ : L2.St} {H H' : Hp} {ta tb tc te tx : TE} {t u : TT} {d e d1 d2 d3 : PyData} {ds es : List PyData} {vs : List Nat} {tg : TG} {tt : TT}
theorem et_yes : EvT tYes σ H true := fun H1 _ _ q => q H1 (Ex.refl H1)
theorem et_andT {a b : Bool} (h1 : EvT t σ H a) (h2 : a = true → EvT u σ H b) : EvT (tAnd t u) σ H (a && b) := et_and h1 h2
theorem et_orT {a b : Bool} (h1 : EvT t σ H a) (h2 : a = false → EvT u σ H b) : EvT (tOr t u) σ H (a || b) := et_or h1 h2
theorem et_to {a b : Bool} (h : EvT t σ H a) (e : a = b) : EvT t σ H b := e ▸ h
theorem eai_ints {ta : TA} {ns : List Int} (h : EvAI K ta σ H (ns.map PyData.int)) : EvA ta σ H (ns.map V.int) := fun H1 e Q q => h H1 e Q fun vs H2 e2 r => by
  rw [ints_back r]; exact q H2 e2
/-! targets -/
theorem g_tup2 {i j : Nat} {v : V} {Q : L2.St → Hp → Prop} (h : Im K H v (.tuple [d1, d2])) (k : ∀ x y, Im K H x d1 → Im K H y d2 → Q ((σ.set i (some x)).set j (some y)) H) : gTup K 2 (gCons (gName i) (gCons (gName j) gNil)) v σ H Q := by
  obtain ⟨a, xs, rfl, h1, h2⟩ := h.tup_inv
  cases h2 with
  | cons a1 r => cases r with
    | cons a2 r => cases r; exact ⟨a, _, rfl, h1, rfl, _, _, rfl, _, _, rfl, rfl, k _ _ a1 a2⟩
theorem g_tup3 {i j l : Nat} {v : V} {Q : L2.St → Hp → Prop} (h : Im K H v (.tuple [d1, d2, d3])) (k : ∀ x y z, Im K H x d1 → Im K H y d2 → Im K H z d3 → Q (((σ.set i (some x)).set j (some y)).set l (some z)) H) : gTup K 3 (gCons (gName i) (gCons (gName j) (gCons (gName l) gNil))) v σ H Q := by
  obtain ⟨a, xs, rfl, h1, h2⟩ := h.tup_inv
  cases h2 with
  | cons a1 r => cases r with
    | cons a2 r => cases r with
      | cons a3 r => cases r; exact ⟨a, _, rfl, h1, rfl, _, _, rfl, _, _, rfl, _, _, rfl, rfl, k _ _ _ a1 a2 a3⟩
/-! comprehensions -/
theorem lc_go {δ : Type} {J : It} {n : Nat} {G : Hp → Prop} {Y : Nat → Hp → V → Hp → Prop} (w : Walk J n G Y) (L : List δ) (hn : L.length = n) (hz : n ≤ 40000) (f : δ → Bool) (g : δ → PyData) {H1 : Hp} {Dl : Addr} (hD : H1 Dl = none) {Qd : Hp → Prop}
    (hG : ∀ H', Ex H1 H' → G H')
    (hb : ∀ (i : Nat) a x H' H'', L[i]? = some a → Ex H1 H' → Y i H' x H'' → Ex H' H'' ∧ ∃ σ', (∀ Q : L2.St → Hp → Prop, Q σ' H'' → tg x (wipe σ vs) H'' Q) ∧ wipe σ' vs = wipe σ vs ∧ EvT tt σ' H'' (f a) ∧ (f a = true → EvI K te σ' H'' (g a)))
    (hd : ∀ H' xs, Ex H1 H' → H' Dl = some (.lst xs) → ImAll K H' xs ((L.filter f).map g) → Qd H') :
    ∃ W : Nat → Nat → Hp → Prop, (∃ m, W 0 m (upd H1 Dl (.lst []))) ∧ ∀ i m H, W i m H →
      (J.stop i H ∧ Qd H) ∨ (J.go i H ∧ ∃ Nx : Hp → Prop, (∀ H', Nx H' → ∃ m', m' < m ∧ W (i + 1) m' H') ∧ ∀ x H', J.yld i H x H' → tg x (wipe σ vs) H' fun σ2 H2 => wipe σ2 vs = wipe σ vs ∧ tt σ2 H2 fun b H3 =>
        if b = true then te σ2 H3 fun y H4 => ∃ acc, H4 Dl = some (.lst acc) ∧ acc.length < sizeLine ∧ Nx (upd H4 Dl (.lst (acc ++ [y]))) else Nx H3) := by
  refine lc_it w (fun i H' => Ex H1 H' ∧ ∃ acc, H' Dl = some (.lst acc) ∧ ImAll K H' acc (((L.take i).filter f).map g)) ⟨Ex.new hD, [], upd_same, .nil⟩ (fun i H' _ p => hG H' p.1) (fun i x H' H'' hi p y => ?_) (fun H' p => ?_)
  · obtain ⟨p1, acc, p2, p3⟩ := p
    have hi' : i < L.length := by omega
    obtain ⟨e2, σ', b1, b2, b3, b4⟩ := hb i L[i] x H' H'' (List.getElem?_eq_getElem hi') p1 y
    have et : L.take (i + 1) = L.take i ++ [L[i]] := by rw [List.take_add_one, List.getElem?_eq_getElem hi']; rfl
    refine b1 _ ⟨b2, b3 H'' (Ex.refl _) _ fun H3 e3 => ?_⟩
    cases hf : f L[i] with
    | true =>
      show te σ' H3 _
      refine b4 hf H3 e3 _ fun v H4 e4 r => ?_
      have e5 := (e2.trans e3).trans e4
      have l4 := e5 _ _ p2
      have len : acc.length < 100000 := by
        rw [p3.length, List.length_map]
        have := List.length_filter_le f (L.take i)
        rw [List.length_take] at this; omega
      refine ⟨acc, l4, sz_lt len, Ex.mut (p1.trans e5) hD, acc ++ [v], upd_same, ?_⟩
      rw [et, List.filter_append, List.filter_cons_of_pos hf, List.map_append]
      exact ((p3.mono e5).snoc r).wr l4
    | false =>
      show Ex H1 H3 ∧ _
      refine ⟨p1.trans (e2.trans e3), acc, (e2.trans e3) _ _ p2, ?_⟩
      rw [et, List.filter_append, List.filter_cons_of_neg (by rw [hf]; decide), List.filter_nil, List.append_nil]
      exact p3.mono (e2.trans e3)
  · obtain ⟨p1, acc, p2, p3⟩ := p
    rw [List.take_of_length_le (by omega)] at p3
    exact hd H' acc p1 p2 p3
/-- over a list -/
theorem en_lcK {δ : Type} {enc : δ → PyData} {L : List δ} {tl : TE} (f : δ → Bool) (g : δ → PyData) (h : EvK K tl σ H (L.map enc)) (hz : L.length ≤ 40000)
    (hb : ∀ a ∈ L, ∀ x H1, Ex H H1 → Im K H1 x (enc a) → ∃ σ', (∀ Q : L2.St → Hp → Prop, Q σ' H1 → tg x (wipe σ vs) H1 Q) ∧ wipe σ' vs = wipe σ vs ∧ EvT tt σ' H1 (f a) ∧ (f a = true → EvI K te σ' H1 (g a))) :
    EvN K (tLc (iList K tl) tg tt te vs) σ H ((L.filter f).map g) := fun H0 e0 Q q => h H0 e0 _ fun v H1 e1 r => by
  obtain ⟨a, xs, rfl, h1, h2⟩ := r
  have hl : L.length = xs.length := by rw [h2.length, List.length_map]
  refine ⟨a, rfl, ⟨xs, h1⟩, fun Dl hD => lc_go (walk_list (K := K) (a := a) (xs := xs)) L hl (by omega) f g hD (fun H' e => ex_l e h1) (fun i b x H' H'' hb' e y => ?_) fun H' ys e g1 g2 => q Dl ys H' (fresh_back e1 hD) (e1.trans e) g1 g2⟩
  obtain ⟨rfl, hx⟩ := y
  obtain ⟨dd, k1, k2⟩ := (h2.mono e).getV hx
  have : dd = enc b := by
    rw [List.getElem?_map, hb'] at k1; exact (Option.some.inj k1).symm
  subst this
  exact ⟨Ex.refl _, hb b (List.mem_of_getElem? hb') x _ ((e0.trans e1).trans e) k2⟩
/-- over range(n) -/
theorem en_lcR {ta : TA} {n : Int} (f : Nat → Bool) (g : Nat → PyData) (h : EvAI K ta σ H [.int n]) (hz : n ≤ 40000)
    (hb : ∀ i : Nat, i < n.toNat → ∀ H1, Ex H H1 → ∃ σ', (∀ Q : L2.St → Hp → Prop, Q σ' H1 → tg (.int (i : Int)) (wipe σ vs) H1 Q) ∧ wipe σ' vs = wipe σ vs ∧ EvT tt σ' H1 (f i) ∧ (f i = true → EvI K te σ' H1 (g i))) (hn : -100000 ≤ n) :
    EvN K (tLc (iRng1 ta) tg tt te vs) σ H (((List.range n.toNat).filter f).map g) := fun H0 e0 Q q => h H0 e0 _ fun vs1 H1 e1 r => by
  have := ints_back (ns := [n]) r
  subst this
  refine ⟨n, rfl, by omega, by omega, fun Dl hD => lc_go (walk_range (lo := 0) (n := n.toNat)) (List.range n.toNat) (by simp) (by omega) f g hD (fun _ _ => trivial) (fun i b x H' H'' hb' e y => ?_) fun H' ys e g1 g2 => q Dl ys H' (fresh_back e1 hD) (e1.trans e) g1 g2⟩
  obtain ⟨rfl, rfl⟩ := y
  obtain ⟨hi, rfl⟩ := List.getElem?_eq_some_iff.mp hb'
  rw [List.getElem_range]
  have e3 : (0 : Int) + (i : Int) = (i : Int) := Int.zero_add _
  dsimp only
  rw [e3]
  exact ⟨Ex.refl _, hb i (by simpa using hi) _ ((e0.trans e1).trans e)⟩
/-- over range(a, b, -1) -/
theorem en_lcDown {ta : TA} {a b : Int} (f : Nat → Bool) (g : Nat → PyData) (h : EvAI K ta σ H [.int a, .int b, .int (-1)]) (hz : -10000 ≤ b ∧ b ≤ 10000 ∧ -10000 ≤ a ∧ a ≤ 10000)
    (hb : ∀ i : Nat, i < (a - b).toNat → ∀ H1, Ex H H1 → ∃ σ', (∀ Q : L2.St → Hp → Prop, Q σ' H1 → tg (.int (a - (i : Int))) (wipe σ vs) H1 Q) ∧ wipe σ' vs = wipe σ vs ∧ EvT tt σ' H1 (f i) ∧ (f i = true → EvI K te σ' H1 (g i))) :
    EvN K (tLc (iRng3 ta) tg tt te vs) σ H (((List.range (a - b).toNat).filter f).map g) := fun H0 e0 Q q => h H0 e0 _ fun vs1 H1 e1 r => by
  have := ints_back (ns := [a, b, -1]) r
  subst this
  refine ⟨a, b, -1, (a - b).toNat, rfl, RgC.neg (by omega) (by omega) (by omega) (by omega), fun Dl hD => lc_go (walk_rangeC (lo := a) (c := -1) (n := (a - b).toNat)) (List.range (a - b).toNat) (by simp) (by omega) f g hD (fun _ _ => trivial) (fun i b' x H' H'' hb' e y => ?_) fun H' ys e g1 g2 => q Dl ys H' (fresh_back e1 hD) (e1.trans e) g1 g2⟩
  obtain ⟨rfl, rfl⟩ := y
  obtain ⟨hi, rfl⟩ := List.getElem?_eq_some_iff.mp hb'
  rw [List.getElem_range]
  have e3 : a + (i : Int) * (-1) = a - (i : Int) := by omega
  dsimp only
  rw [e3]
  exact ⟨Ex.refl _, hb i (by simpa using hi) _ ((e0.trans e1).trans e)⟩
/-- over enumerate(a list) -/
theorem en_lcE {δ : Type} {enc : δ → PyData} {L : List δ} {tl : TA} (f : Nat × δ → Bool) (g : Nat × δ → PyData) (h : ∀ H1, Ex H H1 → ∀ Q : List V → Hp → Prop, (∀ v H2, Ex H1 H2 → Ls K H2 v (L.map enc) → Q [v] H2) → tl σ H1 Q) (hz : L.length ≤ 40000)
    (hb : ∀ (i : Nat) a, L[i]? = some a → ∀ x H1, Ex H H1 → Im K H1 x (.tuple [.int (i : Int), enc a]) → ∃ σ', (∀ Q : L2.St → Hp → Prop, Q σ' H1 → tg x (wipe σ vs) H1 Q) ∧ wipe σ' vs = wipe σ vs ∧ EvT tt σ' H1 (f (i, a)) ∧ (f (i, a) = true → EvI K te σ' H1 (g (i, a)))) :
    EvN K (tLc (iEnum K tl) tg tt te vs) σ H ((((List.range L.length).zip L).filter f).map g) := fun H0 e0 Q q => h H0 e0 _ fun v H1 e1 r => by
  obtain ⟨a, xs, rfl, h1, h2⟩ := r
  have hl : L.length = xs.length := by rw [h2.length, List.length_map]
  have hl2 : ((List.range L.length).zip L).length = xs.length := by simp [hl]
  refine ⟨a, xs, rfl, h1, fun Dl hD => lc_go (walk_enum (K := K) (a := a) (xs := xs)) _ hl2 (by omega) f g hD (fun H' e => ex_l e h1) (fun i b x H' H'' hb' e y => ?_) fun H' ys e g1 g2 => q Dl ys H' (fresh_back e1 hD) (e1.trans e) g1 g2⟩
  obtain ⟨T, x1, x2, rfl, nT, rfl, f1, f2⟩ := y
  obtain ⟨hi, eb⟩ := List.getElem?_eq_some_iff.mp hb'
  have hi' : i < L.length := by rw [hl2] at hi; omega
  have eb2 : b = (i, L[i]) := by rw [← eb]; simp
  subst eb2
  cases f1
  obtain ⟨dd, k1, k2⟩ := (h2.mono e).getV f2
  have : dd = enc L[i] := by
    rw [List.getElem?_map, List.getElem?_eq_getElem hi'] at k1; exact (Option.some.inj k1).symm
  subst this
  exact ⟨Ex.new nT, hb i L[i] (List.getElem?_eq_getElem hi') _ _ (((e0.trans e1).trans e).trans (Ex.new nT)) (.tup (st_of upd_same) (.cons (.int _) (.cons (k2.mono (Ex.new nT)) .nil)))⟩
theorem binds_name {j : Nat} {x : V} : ∀ Q : L2.St → Hp → Prop, Q (σ.set j (some x)) H → gName j x σ H Q := fun _ q => q
/-! loops -/
section
variable {D : Ends} {tu tz : TS}
theorem x_forK {δ : Type} {enc : δ → PyData} {L : List δ} {tl : TE} (h : EvK K tl σ H (L.map enc))
    (k : ∀ a xs H1, Ex H H1 → SqL K H1 a xs → ImAll K H1 xs (L.map enc) → ∃ Pv : Nat → L2.St → Hp → Prop, Pv 0 σ H1 ∧ (∀ i σ' H', i ≤ L.length → Pv i σ' H' → SqL K H' a xs ∧ ImAll K H' xs (L.map enc)) ∧
      (∀ i c x σ' H', L[i]? = some c → Pv i σ' H' → Im K H' x (enc c) → tg x σ' H' fun σ2 H2 => tu { D with nx := Pv (i + 1), ct := Pv (i + 1), bk := tz D } σ2 H2) ∧ (∀ σ' H', Pv L.length σ' H' → tz D σ' H')) :
    tSeq (tFor (iList K tl) tg tu) tz D σ H := h H (Ex.refl H) _ fun v H1 e1 r => by
  obtain ⟨a, xs, rfl, h1, h2⟩ := r
  have hl : L.length = xs.length := by rw [h2.length, List.length_map]
  obtain ⟨Pv, p0, pl, ps, pd⟩ := k a xs H1 e1 h1 h2
  refine ⟨a, rfl, ⟨xs, h1⟩, for_list (xs := xs) Pv p0 (fun i σ' H' hi p => (pl i σ' H' (by omega) p).1) (fun i x σ' H' hx p => ?_) (fun σ' H' p => pd σ' H' (by rw [hl]; exact p))⟩
  have hi := (List.getElem?_eq_some_iff.mp hx).1
  obtain ⟨dd, k1, k2⟩ := (pl i σ' H' (by omega) p).2.getV hx
  have hi' : i < L.length := by omega
  have : dd = enc L[i] := by
    rw [List.getElem?_map, List.getElem?_eq_getElem hi'] at k1; exact (Option.some.inj k1).symm
  subst this
  exact ps i L[i] x σ' H' (List.getElem?_eq_getElem hi') p k2
theorem x_forR {ta : TA} {j : Nat} {n : Int} (h : EvAI K ta σ H [.int n]) (hn : 0 ≤ n ∧ n ≤ 100000) (Pv : Nat → L2.St → Hp → Prop) (h0 : ∀ H1, Ex H H1 → Pv 0 σ H1)
    (hs : ∀ (i : Nat) σ' H', (i : Int) < n → Pv i σ' H' → tu { D with nx := Pv (i + 1), ct := Pv (i + 1), bk := tz D } (σ'.set j (some (.int (i : Int)))) H') (hd : ∀ σ' H', Pv n.toNat σ' H' → tz D σ' H') : tSeq (tFor (iRng1 ta) (gName j) tu) tz D σ H :=
  q_forR1 (eai_ints (ns := [n]) h) hn Pv h0 hs hd
/-- over enumerate(a list) -/
theorem x_forE {δ : Type} {enc : δ → PyData} {L : List δ} {tl : TA} (h : ∀ H1, Ex H H1 → ∀ Q : List V → Hp → Prop, (∀ v H2, Ex H1 H2 → Ls K H2 v (L.map enc) → Q [v] H2) → tl σ H1 Q)
    (k : ∀ a xs H1, Ex H H1 → SqL K H1 a xs → ImAll K H1 xs (L.map enc) → ∃ Pv : Nat → L2.St → Hp → Prop, Pv 0 σ H1 ∧ (∀ i σ' H', i ≤ L.length → Pv i σ' H' → SqL K H' a xs ∧ ImAll K H' xs (L.map enc)) ∧
      (∀ (i : Nat) c x σ' H' H'', L[i]? = some c → Pv i σ' H' → Ex H' H'' → Im K H'' x (.tuple [.int (i : Int), enc c]) → tg x σ' H'' fun σ2 H2 => tu { D with nx := Pv (i + 1), ct := Pv (i + 1), bk := tz D } σ2 H2) ∧ (∀ σ' H', Pv L.length σ' H' → tz D σ' H')) :
    tSeq (tFor (iEnum K tl) tg tu) tz D σ H := h H (Ex.refl H) _ fun v H1 e1 r => by
  obtain ⟨a, xs, rfl, h1, h2⟩ := r
  have hl : L.length = xs.length := by rw [h2.length, List.length_map]
  obtain ⟨Pv, p0, pl, ps, pd⟩ := k a xs H1 e1 h1 h2
  refine ⟨a, xs, rfl, h1, for_it (walk_enum (K := K) (a := a) (xs := xs)) Pv p0 (fun i σ' H' hi p => (pl i σ' H' (by omega) p).1) (fun i x σ' H' H'' hi p y => ?_) (fun σ' H' p => pd σ' H' (by rw [hl]; exact p))⟩
  obtain ⟨T, x1, x2, rfl, nT, rfl, f1, f2⟩ := y
  cases f1
  obtain ⟨dd, k1, k2⟩ := (pl i σ' H' (by omega) p).2.getV f2
  have hi' : i < L.length := by omega
  have : dd = enc L[i] := by
    rw [List.getElem?_map, List.getElem?_eq_getElem hi'] at k1; exact (Option.some.inj k1).symm
  subst this
  exact ps i L[i] _ σ' H' _ (List.getElem?_eq_getElem hi') p (Ex.new nT) (.tup (st_of upd_same) (.cons (.int _) (.cons (k2.mono (Ex.new nT)) .nil)))
end
/-! isinstance -/
theorem ty_l {a : Addr} {xs : List V} (h : SqL K H a xs) : TyX K H (.ref a) (.type "list") := by
  rcases h with (h | ⟨o, h⟩) | ⟨o, its, n, h1, h2, _⟩
  · exact .base (.lst h)
  · exact .base (.frz h)
  · exact .kList h1 h2
theorem ty_t {a : Addr} {xs : List V} (h : SqT K H a xs) : TyX K H (.ref a) (.type "tuple") := by
  rcases h with (h | ⟨o, h⟩) | ⟨o, its, n, h1, h2, _⟩
  · exact .base (.tup h)
  · exact .fTuple h
  · exact .kTuple h1 h2
def tyD : PyData → String
  | .none => "NoneType"
  | .bool _ => "bool"
  | .int _ => "int"
  | .str _ => "str"
  | .list _ => "list"
  | .tuple _ => "tuple"
  | .dict _ => "dict"
theorem Im.ty {v : V} (h : Im K H v d) : TyX K H v (.type (tyD d)) := by
  cases h with
  | non => exact .base .non
  | bl b => exact .base (.bl b)
  | int i => exact .base (.int i)
  | str x => exact .base (.str x)
  | tup h1 h2 => exact ty_t h1
theorem Ls.ty {v : V} (h : Ls K H v ds) : TyX K H v (.type "list") := by
  obtain ⟨a, xs, rfl, h1, _⟩ := h
  exact ty_l h1
theorem ei_isi {R : V → Hp → Prop} {n : String} {m : Value → Prop} {b : Bool} {tyv : V → Hp → Value} (ha : EvX ta σ H R) (ht : ∀ v H1, Ex H H1 → R v H1 → ∃ t, TyX K H1 v t ∧ PySem.W.kitOne K t (.type n) = some b) :
    EvI K (tCB (rIsi K) (tCons ta (tCons (tC (.ty n)) tNil))) σ H (.bool b) := fun H1 e Q q =>
  ha H1 e _ fun x H2 e2 r => by
    obtain ⟨t, k1, k2⟩ := ht x H2 (e.trans e2) r
    exact ⟨x, .ty n, t, .type n, b, rfl, .ty n, k1, k2, q _ H2 e2 (.bl _)⟩
theorem ei_isI {n : String} {b : Bool} (ha : EvI K ta σ H d) (hb : kitB (tyD d) n = some b) : EvI K (tCB (rIsi K) (tCons ta (tCons (tC (.ty n)) tNil))) σ H (.bool b) :=
  ei_isi (m := fun _ => True) (tyv := fun _ _ => .none) ha fun v H1 _ r => ⟨_, r.ty, kit_ty hb⟩
theorem ei_isK {n : String} {b : Bool} (ha : EvK K ta σ H ds) (hb : kitB "list" n = some b) : EvI K (tCB (rIsi K) (tCons ta (tCons (tC (.ty n)) tNil))) σ H (.bool b) :=
  ei_isi (m := fun _ => True) (tyv := fun _ _ => .none) ha fun v H1 _ r => ⟨_, r.ty, kit_ty hb⟩
/-! all, any -/
theorem ei_all {bs : List Bool} (ha : EvK K ta σ H (bs.map PyData.bool)) : EvI K (tCB (rAll K) (tCons ta tNil)) σ H (.bool (bs.all id)) := fun H1 e Q q =>
  ha H1 e _ fun x H2 e2 r => by
    obtain ⟨a, xs, rfl, h1, h2⟩ := r
    have := bls_back h2
    subst this
    exact ⟨a, bs, rfl, h1, q _ H2 e2 (.bl _)⟩
end
end DWL
namespace DW
/-! letters are codes 97, 98, 99 -/
def ltr (x : Nat) : Prop := x = 97 ∨ x = 98 ∨ x = 99
/-- a step from one letter to the next -/
def dl (x y : Nat) : Int := if x = 97 ∧ y = 98 then 1 else if x = 98 ∧ y = 97 then -1 else 0
/-- the turn of three letters, going round to the left -/
def tn (x y z : Nat) : Int :=
  if (x = 97 ∧ y = 98 ∧ z = 99) ∨ (x = 98 ∧ y = 99 ∧ z = 97) ∨ (x = 99 ∧ y = 97 ∧ z = 98) then 1
  else if (x = 97 ∧ y = 99 ∧ z = 98) ∨ (x = 99 ∧ y = 98 ∧ z = 97) ∨ (x = 98 ∧ y = 97 ∧ z = 99) then -1 else 0
theorem tn_dl {x y z : Nat} (hx : ltr x) (hy : ltr y) (hz : ltr z) : tn x y z = dl x y + dl y z + dl z x := by
  rcases hx with rfl | rfl | rfl <;> rcases hy with rfl | rfl | rfl <;> rcases hz with rfl | rfl | rfl <;> decide
theorem dl_swap (x y : Nat) : dl y x = - dl x y := by
  unfold dl
  by_cases h1 : x = 97 <;> by_cases h2 : y = 98 <;> by_cases h3 : x = 98 <;> by_cases h4 : y = 97 <;> simp_all <;> omega

abbrev Sm := Nat × Nat × Nat
def l1 (c : Nat → Nat → Nat) (s : Sm) : Nat := if s.2.2 = 1 then c s.1 s.2.1 else c s.1 (s.2.1 + 1)
def l2 (c : Nat → Nat → Nat) (s : Sm) : Nat := if s.2.2 = 1 then c s.1 (s.2.1 + 1) else c (s.1 + 1) (s.2.1 + 1)
def l3 (c : Nat → Nat → Nat) (s : Sm) : Nat := c (s.1 + 1) s.2.1
def tnS (c : Nat → Nat → Nat) (s : Sm) : Int := tn (l1 c s) (l2 c s) (l3 c s)

/-! sums over the first numbers -/
def sm : Nat → (Nat → Int) → Int
  | 0, _ => 0
  | n + 1, f => sm n f + f n
theorem sm_congr {n : Nat} {f g : Nat → Int} (h : ∀ i, i < n → f i = g i) : sm n f = sm n g := by
  induction n with
  | zero => rfl
  | succ n ih =>
    show sm n f + f n = sm n g + g n
    rw [ih fun i hi => h i (by omega), h n (by omega)]
theorem sm_add (n : Nat) (f g : Nat → Int) : sm n (fun i => f i + g i) = sm n f + sm n g := by
  induction n with
  | zero => rfl
  | succ n ih =>
    show sm n (fun i => f i + g i) + (f n + g n) = (sm n f + f n) + (sm n g + g n)
    rw [ih]; omega
theorem sm_neg (n : Nat) (f : Nat → Int) : sm n (fun i => - f i) = - sm n f := by
  induction n with
  | zero => rfl
  | succ n ih =>
    show sm n (fun i => - f i) + - f n = - (sm n f + f n)
    rw [ih]; omega
theorem sm_zero (n : Nat) : sm n (fun _ => 0) = 0 := by
  induction n with
  | zero => rfl
  | succ n ih =>
    show sm n (fun _ => 0) + 0 = 0
    rw [ih]; rfl
theorem sm_split (a b : Nat) (f : Nat → Int) : sm (a + b) f = sm a f + sm b (fun i => f (a + i)) := by
  induction b with
  | zero => show sm a f = sm a f + 0; omega
  | succ b ih =>
    show sm (a + b) f + f (a + b) = sm a f + (sm b (fun i => f (a + i)) + f (a + b))
    rw [ih]; omega
theorem sm_rev (n : Nat) (f : Nat → Int) : sm n (fun i => f (n - 1 - i)) = sm n f := by
  induction n generalizing f with
  | zero => rfl
  | succ n ih =>
    have h1 : sm (n + 1) f = f 0 + sm n (fun i => f (i + 1)) := by
      have := sm_split 1 n f
      rw [Nat.add_comm 1 n] at this
      rw [this]
      have e : sm 1 f = f 0 := by show (0 : Int) + f 0 = f 0; omega
      rw [e]
      exact congrArg (f 0 + ·) (sm_congr fun i _ => by rw [Nat.add_comm 1 i])
    show sm n (fun i => f (n + 1 - 1 - i)) + f (n + 1 - 1 - n) = _
    have e0 : n + 1 - 1 - n = 0 := by omega
    have h2 := ih (fun i => f (i + 1))
    have h3 : sm n (fun i => f (n + 1 - 1 - i)) = sm n (fun i => f (n - 1 - i + 1)) := sm_congr fun i hi => by
      have : n + 1 - 1 - i = n - 1 - i + 1 := by omega
      rw [this]
    rw [h1, e0, h3, h2]; omega
/-- what stands between falls away -/
theorem sm_tele (n : Nat) (f : Nat → Int) : sm n (fun i => f (i + 1) - f i) = f n - f 0 := by
  induction n with
  | zero => show (0 : Int) = f 0 - f 0; omega
  | succ n ih =>
    show sm n (fun i => f (i + 1) - f i) + (f (n + 1) - f n) = _
    rw [ih]; omega

section
variable (c : Nat → Nat → Nat)
/-- along a row; up at the right of it; up at the left -/
def bot (r p : Nat) : Int := dl (c r p) (c r (p + 1))
def slR (r p : Nat) : Int := dl (c r (p + 1)) (c (r + 1) p)
def slL (r p : Nat) : Int := dl (c (r + 1) p) (c r p)
variable (hc : ∀ r p, ltr (c r p))
include hc
theorem tn_up (r p : Nat) : tnS c (r, p, 1) = bot c r p + slR c r p + slL c r p := by
  show tn (c r p) (c r (p + 1)) (c (r + 1) p) = _
  rw [tn_dl (hc _ _) (hc _ _) (hc _ _)]; rfl
theorem tn_dn (r p : Nat) : tnS c (r, p, 0) = - slL c r (p + 1) - bot c (r + 1) p - slR c r p := by
  show tn (c r (p + 1)) (c (r + 1) (p + 1)) (c (r + 1) p) = _
  rw [tn_dl (hc _ _) (hc _ _) (hc _ _)]
  unfold slL bot slR
  rw [dl_swap (c (r + 1) (p + 1)) (c r (p + 1)), dl_swap (c (r + 1) p) (c (r + 1) (p + 1)), dl_swap (c r (p + 1)) (c (r + 1) p)]
  omega
/-- one row of m up ones, and one less down ones -/
theorem row_sum (r m : Nat) (hm : 0 < m) : sm m (fun p => tnS c (r, p, 1)) + sm (m - 1) (fun p => tnS c (r, p, 0)) =
    sm m (bot c r) - sm (m - 1) (bot c (r + 1)) + slR c r (m - 1) + slL c r 0 := by
  obtain ⟨k, rfl⟩ : ∃ k, m = k + 1 := ⟨m - 1, by omega⟩
  have e : k + 1 - 1 = k := by omega
  rw [e]
  have h1 : sm (k + 1) (fun p => tnS c (r, p, 1)) = sm (k + 1) (bot c r) + sm (k + 1) (slR c r) + sm (k + 1) (slL c r) := by
    rw [← sm_add, ← sm_add]
    exact sm_congr fun p _ => tn_up c hc r p
  have h2 : sm k (fun p => tnS c (r, p, 0)) = - sm k (fun p => slL c r (p + 1)) - sm k (bot c (r + 1)) - sm k (slR c r) := by
    have : sm k (fun p => tnS c (r, p, 0)) = sm k (fun p => - slL c r (p + 1) + (- bot c (r + 1) p + - slR c r p)) := sm_congr fun p _ => by
      rw [tn_dn c hc r p]; omega
    rw [this, sm_add, sm_add, sm_neg, sm_neg, sm_neg]; omega
  have h3 : sm (k + 1) (slL c r) = slL c r 0 + sm k (fun p => slL c r (p + 1)) := by
    have := sm_split 1 k (slL c r)
    rw [Nat.add_comm 1 k] at this
    rw [this]
    have e1 : sm 1 (slL c r) = slL c r 0 := by show (0 : Int) + slL c r 0 = _; omega
    rw [e1]
    exact congrArg (slL c r 0 + ·) (sm_congr fun i _ => by rw [Nat.add_comm 1 i])
  have h4 : sm (k + 1) (slR c r) = sm k (slR c r) + slR c r k := rfl
  rw [h1, h2, h3, h4]; omega
/-- all turns, by the rows -/
def turnsR (n : Nat) : Int := sm (n - 1) fun r => sm (n - 1 - r) (fun p => tnS c (r, p, 1)) + sm (n - 1 - r - 1) (fun p => tnS c (r, p, 0))
omit hc in
/-- the side: along the first row, up at the right, down at the left -/
def sideSum (n : Nat) : Int := sm (n - 1) (bot c 0) + sm (n - 1) (fun r => slR c r (n - 1 - r - 1)) + sm (n - 1) (fun r => slL c r 0)
theorem stokes (n : Nat) : turnsR c n = sideSum c n := by
  unfold turnsR sideSum
  have h : sm (n - 1) (fun r => sm (n - 1 - r) (fun p => tnS c (r, p, 1)) + sm (n - 1 - r - 1) (fun p => tnS c (r, p, 0))) =
      sm (n - 1) (fun r => (-(sm (n - 1 - (r + 1)) (bot c (r + 1)) - sm (n - 1 - r) (bot c r))) + (slR c r (n - 1 - r - 1) + slL c r 0)) := sm_congr fun r hr => by
    rw [row_sum c hc r (n - 1 - r) (by omega)]
    have : n - 1 - r - 1 = n - 1 - (r + 1) := by omega
    rw [this]; omega
  rw [h, sm_add, sm_neg, sm_tele (n - 1) (fun r => sm (n - 1 - r) (bot c r)), sm_add]
  have e1 : n - 1 - (n - 1) = 0 := by omega
  have e2 : n - 1 - 0 = n - 1 := by omega
  simp only [e1, e2, sm]; omega
end
end DW
namespace DW
/-! all small triangles, rising -/
def rowSm (n r : Nat) : List Sm := (List.range (n - 1 - r)).flatMap fun p => if p + 1 < n - 1 - r then [(r, p, 0), (r, p, 1)] else [(r, p, 1)]
def smalls (n : Nat) : List Sm := (List.range (n - 1)).flatMap (rowSm n)
/-- as the program finds them -/
def rowSm0 (n r : Nat) : List Sm := (List.range (n - 1 - r)).flatMap fun p => if p + 1 < n - 1 - r then [(r, p, 1), (r, p, 0)] else [(r, p, 1)]
def smalls0 (n : Nat) : List Sm := (List.range (n - 1)).flatMap (rowSm0 n)
def IsSm (n : Nat) (s : Sm) : Prop := (s.2.2 = 1 ∧ s.1 + s.2.1 + 1 < n) ∨ (s.2.2 = 0 ∧ s.1 + s.2.1 + 2 < n)
instance (n : Nat) (s : Sm) : Decidable (IsSm n s) := by unfold IsSm; exact inferInstance
theorem mem_rowSm {n r : Nat} {s : Sm} : s ∈ rowSm n r ↔ s.1 = r ∧ IsSm n s := by
  obtain ⟨a, b, u⟩ := s
  unfold rowSm IsSm
  simp only [List.mem_flatMap, List.mem_range]
  constructor
  · rintro ⟨p, hp, h⟩
    split at h <;> simp only [List.mem_cons, List.not_mem_nil, or_false, Prod.mk.injEq] at h
    · rcases h with ⟨rfl, rfl, rfl⟩ | ⟨rfl, rfl, rfl⟩
      · exact ⟨rfl, .inr ⟨rfl, by show a + b + 2 < n; omega⟩⟩
      · exact ⟨rfl, .inl ⟨rfl, by show a + b + 1 < n; omega⟩⟩
    · obtain ⟨rfl, rfl, rfl⟩ := h
      exact ⟨rfl, .inl ⟨rfl, by show a + b + 1 < n; omega⟩⟩
  · rintro ⟨rfl, ⟨rfl, h⟩ | ⟨rfl, h⟩⟩ 
    · have h : a + b + 1 < n := h
      refine ⟨b, by omega, ?_⟩
      split <;> simp
    · have h : a + b + 2 < n := h
      refine ⟨b, by omega, ?_⟩
      rw [if_pos (by omega)]; simp
theorem mem_smalls {n : Nat} {s : Sm} : s ∈ smalls n ↔ IsSm n s := by
  unfold smalls
  simp only [List.mem_flatMap, List.mem_range, mem_rowSm]
  constructor
  · rintro ⟨r, _, _, h⟩; exact h
  · intro h
    refine ⟨s.1, ?_, rfl, h⟩
    unfold IsSm at h; omega

/-! rising: by row, place, up -/
def ltS (s t : Sm) : Prop := s.1 < t.1 ∨ (s.1 = t.1 ∧ (s.2.1 < t.2.1 ∨ (s.2.1 = t.2.1 ∧ s.2.2 < t.2.2)))
theorem pair_flat {α : Type} (R : α → α → Prop) (f : Nat → List α) : ∀ n, (∀ i, i < n → (f i).Pairwise R) → (∀ i j, i < j → j < n → ∀ x ∈ f i, ∀ y ∈ f j, R x y) → ((List.range n).flatMap f).Pairwise R
  | 0, _, _ => by simp
  | n + 1, h1, h2 => by
    rw [List.range_succ, List.flatMap_append, List.pairwise_append]
    refine ⟨pair_flat R f n (fun i hi => h1 i (by omega)) (fun i j hij hj => h2 i j hij (by omega)), ?_, ?_⟩
    · simpa using h1 n (by omega)
    · intro x hx y hy
      obtain ⟨i, hi, hx⟩ := List.mem_flatMap.mp hx
      have hi := List.mem_range.mp hi
      have hy : y ∈ f n := by simpa using hy
      exact h2 i n hi (by omega) x hx y hy
theorem smalls_rising (n : Nat) : (smalls n).Pairwise ltS := by
  refine pair_flat ltS _ _ (fun r _ => ?_) fun i j hij _ x hx y hy => ?_
  · refine pair_flat ltS _ _ (fun p _ => ?_) fun i j hij _ x hx y hy => ?_
    · split
      · simp [ltS]
      · simp
    · have e1 : x.1 = r ∧ x.2.1 = i := by
        split at hx <;> simp only [List.mem_cons, List.not_mem_nil, or_false] at hx
        · rcases hx with rfl | rfl <;> exact ⟨rfl, rfl⟩
        · rw [hx]; exact ⟨rfl, rfl⟩
      have e2 : y.1 = r ∧ y.2.1 = j := by
        split at hy <;> simp only [List.mem_cons, List.not_mem_nil, or_false] at hy
        · rcases hy with rfl | rfl <;> exact ⟨rfl, rfl⟩
        · rw [hy]; exact ⟨rfl, rfl⟩
      unfold ltS; omega
  · have e1 := (mem_rowSm.mp hx).1
    have e2 := (mem_rowSm.mp hy).1
    unfold ltS; omega
theorem perm_flat {α : Type} (f g : Nat → List α) : ∀ n, (∀ i, i < n → (f i).Perm (g i)) → ((List.range n).flatMap f).Perm ((List.range n).flatMap g)
  | 0, _ => by simp
  | n + 1, h => by
    rw [List.range_succ, List.flatMap_append, List.flatMap_append]
    refine (perm_flat f g n fun i hi => h i (by omega)).append ?_
    simpa using h n (by omega)
theorem smalls_perm (n : Nat) : (smalls0 n).Perm (smalls n) := by
  refine perm_flat _ _ _ fun r _ => perm_flat _ _ _ fun p _ => ?_
  split
  · exact List.Perm.swap _ _ _
  · exact List.Perm.refl _
theorem ltS_asym {s t : Sm} (h : ltS s t) : ¬ ltS t s := by unfold ltS at *; omega
theorem ltS_irr (s : Sm) : ¬ ltS s s := by unfold ltS; omega
/-- two lists of the same things, none twice ahead of a lesser one, are one -/
theorem rise_uniq : ∀ {l m : List Sm}, l.Perm m → m.Pairwise ltS → l.Pairwise (fun x y => ¬ ltS y x) → l = m
  | [], m, h, _, _ => (List.Perm.eq_nil h.symm).symm
  | x :: l, [], h, _, _ => absurd h.length_eq (by simp)
  | x :: l, y :: m, h, hm, hl => by
    have hm' := List.pairwise_cons.mp hm
    have hl' := List.pairwise_cons.mp hl
    have e : x = y := by
      rcases List.mem_cons.mp (h.mem_iff.mp (List.mem_cons_self (a := x) (l := l))) with e | hx
      · exact e
      · rcases List.mem_cons.mp (h.mem_iff.mpr (List.mem_cons_self (a := y) (l := m))) with e | hy
        · exact e.symm
        · exact absurd (hm'.1 x hx) (hl'.1 y hy)
    subst e
    rw [rise_uniq h.cons_inv hm'.2 hl'.2]
theorem smalls_nodup (n : Nat) : (smalls n).Nodup := (smalls_rising n).imp fun {a b} h e => by subst e; exact ltS_irr _ h

/-! sums over lists -/
theorem sum_flat (f : Nat → List Int) : ∀ n, ((List.range n).flatMap f).sum = sm n fun i => (f i).sum
  | 0 => by simp [sm]
  | n + 1 => by
    rw [List.range_succ, List.flatMap_append, List.sum_append, sum_flat f n]
    simp [sm]
theorem sum_map_range (f : Nat → Int) (n : Nat) : ((List.range n).map f).sum = sm n f := by
  induction n with
  | zero => rfl
  | succ n ih => rw [List.range_succ, List.map_append, List.sum_append, ih]; simp [sm]
def turnSum (n : Nat) (c : Nat → Nat → Nat) : Int := ((smalls n).map (tnS c)).sum
theorem turnSum_rows (n : Nat) (c : Nat → Nat → Nat) : turnSum n c = turnsR c n := by
  unfold turnSum smalls turnsR
  rw [List.map_flatMap, sum_flat]
  refine sm_congr fun r hr => ?_
  unfold rowSm
  rw [List.map_flatMap, sum_flat]
  obtain ⟨k, hk⟩ : ∃ k, n - 1 - r = k + 1 := ⟨n - 1 - r - 1, by omega⟩
  rw [hk]
  show sm k (fun i => (List.map (tnS c) (if i + 1 < k + 1 then [(r, i, 0), (r, i, 1)] else [(r, i, 1)])).sum) + (List.map (tnS c) (if k + 1 < k + 1 then [(r, k, 0), (r, k, 1)] else [(r, k, 1)])).sum = (sm k (fun p => tnS c (r, p, 1)) + tnS c (r, k, 1)) + sm k (fun p => tnS c (r, p, 0))
  rw [if_neg (Nat.lt_irrefl _)]
  have h : sm k (fun i => (List.map (tnS c) (if i + 1 < k + 1 then [(r, i, 0), (r, i, 1)] else [(r, i, 1)])).sum) = sm k (fun p => tnS c (r, p, 1) + tnS c (r, p, 0)) := sm_congr fun i hi => by
    rw [if_pos (by omega)]
    simp only [List.map_cons, List.map_nil, List.sum_cons, List.sum_nil]; omega
  rw [h, sm_add]
  simp only [List.map_cons, List.map_nil, List.sum_cons, List.sum_nil]; omega

/-! the side: its spots, its steps -/
abbrev Sp2 := Nat × Nat
def sideSp (n : Nat) : List Sp2 := (List.range (n - 1)).map (fun p => (0, p)) ++ (List.range (n - 1)).map (fun r => (r, n - 1 - r)) ++ (List.range n).map (fun r => (n - 1 - r, 0))
/-- the spot k of the side, k from 0 to three times the steps of a row -/
def spotAt (n k : Nat) : Sp2 := if k < n - 1 then (0, k) else if k < 2 * (n - 1) then (k - (n - 1), 2 * (n - 1) - k) else (3 * (n - 1) - k, 0)
theorem sideSp_len (n : Nat) (h : 1 ≤ n) : (sideSp n).length = 3 * (n - 1) + 1 := by
  unfold sideSp; simp; omega
theorem sideSp_eq (n : Nat) (h : 1 ≤ n) : sideSp n = (List.range (3 * (n - 1) + 1)).map (spotAt n) := by
  refine List.ext_getElem? fun k => ?_
  unfold sideSp
  rw [List.getElem?_map]
  by_cases h1 : k < n - 1
  · rw [List.append_assoc, List.getElem?_append_left (by simpa using h1), List.getElem?_map, List.getElem?_range h1, List.getElem?_range (by omega)]
    simp [spotAt, h1]
  · by_cases h2 : k < 2 * (n - 1)
    · rw [List.getElem?_append_left (by simp; omega), List.getElem?_append_right (by simp; omega), List.getElem?_map]
      simp only [List.length_map, List.length_range]
      rw [List.getElem?_range (by omega), List.getElem?_range (by omega)]
      simp only [Option.map_some, spotAt, if_neg h1, if_pos h2, Option.some.injEq, Prod.mk.injEq, true_and]
      omega
    · by_cases h3 : k < 3 * (n - 1) + 1
      · rw [List.getElem?_append_right (by simp; omega), List.getElem?_map]
        simp only [List.length_append, List.length_map, List.length_range]
        rw [List.getElem?_range (by omega), List.getElem?_range (by omega)]
        simp only [Option.map_some, spotAt, if_neg h1, if_neg h2, Option.some.injEq, Prod.mk.injEq, and_true]
        omega
      · rw [List.getElem?_eq_none (by simp; omega), List.getElem?_eq_none (by simp; omega)]
        rfl
def lt2 (c : Nat → Nat → Nat) (s : Sp2) : Nat := c s.1 s.2
/-- the step k of the side -/
def stepAt (n : Nat) (c : Nat → Nat → Nat) (k : Nat) : Int := dl (lt2 c (spotAt n k)) (lt2 c (spotAt n (k + 1)))
def around (n : Nat) (c : Nat → Nat → Nat) : Int := ((List.range (3 * (n - 1))).map (stepAt n c)).sum
def doors (n : Nat) (c : Nat → Nat → Nat) : List Nat := (List.range (3 * (n - 1))).filter fun k => decide (stepAt n c k ≠ 0)
def fulls (n : Nat) (c : Nat → Nat → Nat) : List Sm := (smalls n).filter fun s => decide (tnS c s ≠ 0)
theorem step_bot (n : Nat) (c : Nat → Nat → Nat) {k : Nat} (h : k < n - 1) : stepAt n c k = bot c 0 k := by
  unfold stepAt bot lt2
  have e1 : spotAt n k = (0, k) := if_pos h
  have e2 : spotAt n (k + 1) = (0, k + 1) := by
    unfold spotAt
    split
    · rfl
    · rw [if_pos (by omega)]
      simp only [Prod.mk.injEq]; omega
  rw [e1, e2]
theorem step_right (n : Nat) (c : Nat → Nat → Nat) {r : Nat} (h : r < n - 1) : stepAt n c (n - 1 + r) = slR c r (n - 1 - r - 1) := by
  unfold stepAt slR lt2
  have e1 : spotAt n (n - 1 + r) = (r, n - 1 - r - 1 + 1) := by
    unfold spotAt
    rw [if_neg (by omega), if_pos (by omega)]
    simp only [Prod.mk.injEq]; omega
  have e2 : spotAt n (n - 1 + r + 1) = (r + 1, n - 1 - r - 1) := by
    unfold spotAt
    rw [if_neg (by omega)]
    split
    · simp only [Prod.mk.injEq]; omega
    · simp only [Prod.mk.injEq]; omega
  rw [e1, e2]
theorem step_left (n : Nat) (c : Nat → Nat → Nat) {i : Nat} (h : i < n - 1) : stepAt n c (2 * (n - 1) + i) = slL c (n - 1 - 1 - i) 0 := by
  unfold stepAt slL lt2
  have e1 : spotAt n (2 * (n - 1) + i) = (n - 1 - 1 - i + 1, 0) := by
    unfold spotAt
    rw [if_neg (by omega), if_neg (by omega)]
    simp only [Prod.mk.injEq, and_true]; omega
  have e2 : spotAt n (2 * (n - 1) + i + 1) = (n - 1 - 1 - i, 0) := by
    unfold spotAt
    rw [if_neg (by omega), if_neg (by omega)]
    simp only [Prod.mk.injEq, and_true]; omega
  rw [e1, e2]
theorem around_side (n : Nat) (c : Nat → Nat → Nat) : around n c = sideSum c n := by
  unfold around sideSum
  rw [sum_map_range, show 3 * (n - 1) = (n - 1 + (n - 1)) + (n - 1) by omega, sm_split, sm_split]
  have h1 : sm (n - 1) (stepAt n c) = sm (n - 1) (bot c 0) := sm_congr fun k h => step_bot n c h
  have h2 : sm (n - 1) (fun i => stepAt n c (n - 1 + i)) = sm (n - 1) (fun r => slR c r (n - 1 - r - 1)) := sm_congr fun r h => step_right n c h
  have h3 : sm (n - 1) (fun i => stepAt n c (n - 1 + (n - 1) + i)) = sm (n - 1) (fun r => slL c r 0) := by
    rw [← sm_rev (n - 1) (fun r => slL c r 0)]
    refine sm_congr fun i h => ?_
    have := step_left n c h
    rw [show n - 1 + (n - 1) + i = 2 * (n - 1) + i by omega, this]
  rw [h1, h2, h3]
/-- THE LAW OF [4] -/
theorem around_turns (n : Nat) (c : Nat → Nat → Nat) (hc : ∀ r p, ltr (c r p)) : turnSum n c = around n c := by
  rw [turnSum_rows, around_side, stokes c hc]

/-! [5] -/
def barred (n : Nat) (c : Nat → Nat → Nat) (r p : Nat) : Prop := (r = 0 ∧ c r p = 99) ∨ (p = 0 ∧ c r p = 98) ∨ (r + p = n - 1 ∧ c r p = 97)
instance (n : Nat) (c : Nat → Nat → Nat) (r p : Nat) : Decidable (barred n c r p) := by unfold barred; exact inferInstance
def Kept (n : Nat) (c : Nat → Nat → Nat) : Prop := ∀ r p, r + p < n → ¬ barred n c r p
theorem kept_around {n : Nat} (hn : 2 ≤ n) {c : Nat → Nat → Nat} (hc : ∀ r p, ltr (c r p)) (k : Kept n c) : around n c = 1 := by
  rw [around_side]
  unfold sideSum
  have e2 : sm (n - 1) (fun r => slR c r (n - 1 - r - 1)) = 0 := by
    rw [← sm_zero (n - 1)]
    refine sm_congr fun r hr => ?_
    unfold slR dl
    have a := k r (n - 1 - r - 1 + 1) (by omega)
    have b := k (r + 1) (n - 1 - r - 1) (by omega)
    unfold barred at a b
    rw [if_neg (by omega), if_neg (by omega)]
  have e3 : sm (n - 1) (fun r => slL c r 0) = 0 := by
    rw [← sm_zero (n - 1)]
    refine sm_congr fun r hr => ?_
    unfold slL dl
    have a := k r 0 (by omega)
    have b := k (r + 1) 0 (by omega)
    unfold barred at a b
    rw [if_neg (by omega), if_neg (by omega)]
  have e1 : sm (n - 1) (bot c 0) = 1 := by
    have h : sm (n - 1) (bot c 0) = sm (n - 1) (fun i => (fun p => if c 0 p = 98 then (1 : Int) else 0) (i + 1) - (fun p => if c 0 p = 98 then (1 : Int) else 0) i) := sm_congr fun p hp => by
      have a := k 0 p (by omega)
      have b := k 0 (p + 1) (by omega)
      have l1 := hc 0 p
      have l2 := hc 0 (p + 1)
      unfold barred at a b
      unfold bot dl
      unfold ltr at l1 l2
      have a' : c 0 p = 97 ∨ c 0 p = 98 := by omega
      have b' : c 0 (p + 1) = 97 ∨ c 0 (p + 1) = 98 := by omega
      rcases a' with a' | a' <;> rcases b' with b' | b' <;> simp [a', b']
    rw [h, sm_tele (n - 1) (fun p => if c 0 p = 98 then (1 : Int) else 0)]
    have a := k 0 0 (by omega)
    have b := k 0 (n - 1) (by omega)
    have l2 := hc 0 (n - 1)
    unfold barred at a b
    unfold ltr at l2
    have a' : c 0 0 ≠ 98 := by omega
    have b' : c 0 (n - 1) = 98 := by omega
    rw [if_pos b', if_neg a']
    rfl
  rw [e1, e2, e3]; rfl
theorem sum_none {l : List Sm} {c : Nat → Nat → Nat} (h : l.filter (fun s => decide (tnS c s ≠ 0)) = []) : (l.map (tnS c)).sum = 0 := by
  induction l with
  | nil => rfl
  | cons s l ih =>
    by_cases e : tnS c s ≠ 0
    · rw [List.filter_cons_of_pos (by simpa using e)] at h; cases h
    · rw [List.filter_cons_of_neg (by simpa using e)] at h
      rw [List.map_cons, List.sum_cons, ih h]; omega
/-- SPERNER -/
theorem kept_full {n : Nat} (hn : 2 ≤ n) {c : Nat → Nat → Nat} (hc : ∀ r p, ltr (c r p)) (k : Kept n c) : fulls n c ≠ [] := fun h => by
  have e := around_turns n c hc
  rw [kept_around hn hc k] at e
  have z := sum_none h
  unfold turnSum at e
  rw [z] at e; cases e
/-! parity -/
theorem par_sum {α : Type} (f : α → Int) (h : ∀ x, f x = 0 ∨ f x = 1 ∨ f x = -1) : ∀ l : List α, ((l.filter fun x => decide (f x ≠ 0)).length : Int) % 2 = (l.map f).sum % 2
  | [] => rfl
  | x :: l => by
    have ih := par_sum f h l
    rw [List.map_cons, List.sum_cons]
    rcases h x with e | e | e
    · rw [List.filter_cons_of_neg (by simp [e]), e]; omega
    · rw [List.filter_cons_of_pos (by simp [e]), e, List.length_cons]; omega
    · rw [List.filter_cons_of_pos (by simp [e]), e, List.length_cons]; omega
theorem dl_vals (x y : Nat) : dl x y = 0 ∨ dl x y = 1 ∨ dl x y = -1 := by
  unfold dl; split
  · simp
  · split <;> simp
theorem tn_vals (x y z : Nat) : tn x y z = 0 ∨ tn x y z = 1 ∨ tn x y z = -1 := by
  unfold tn; split
  · simp
  · split <;> simp
theorem parity (n : Nat) (c : Nat → Nat → Nat) (hc : ∀ r p, ltr (c r p)) : (fulls n c).length % 2 = (doors n c).length % 2 := by
  have h1 := par_sum (tnS c) (fun s => tn_vals _ _ _) (smalls n)
  have h2 := par_sum (stepAt n c) (fun s => dl_vals _ _) (List.range (3 * (n - 1)))
  have h3 := around_turns n c hc
  unfold turnSum around at h3
  unfold fulls doors
  rw [h3] at h1
  omega
/-! corners, letters -/
abbrev L3 : List Nat := [97, 98, 99]
theorem ltr_mem {x : Nat} (h : ltr x) : x ∈ L3 := by
  rcases h with rfl | rfl | rfl <;> decide
/-- the corners of a small triangle, going round to the left -/
def cor (s : Sm) (e : Nat) : Sp2 :=
  if s.2.2 = 1 then (if e = 0 then (s.1, s.2.1) else if e = 1 then (s.1, s.2.1 + 1) else (s.1 + 1, s.2.1))
  else (if e = 0 then (s.1, s.2.1 + 1) else if e = 1 then (s.1 + 1, s.2.1 + 1) else (s.1 + 1, s.2.1))
theorem lt_cor0 (c : Nat → Nat → Nat) (s : Sm) : lt2 c (cor s 0) = l1 c s := by
  unfold cor l1 lt2; split <;> simp
theorem lt_cor1 (c : Nat → Nat → Nat) (s : Sm) : lt2 c (cor s 1) = l2 c s := by
  unfold cor l2 lt2; split <;> simp
theorem lt_cor2 (c : Nat → Nat → Nat) (s : Sm) : lt2 c (cor s 2) = l3 c s := by
  unfold cor l3 lt2; split <;> simp
end DW
namespace DWL
open PySem PySem.Spec PyProof.Rows L2 Evl
/-! ### a def as it stands, a def that keeps its promise -/
def Def (K : PySem.W.Frag) (mg : Str → Option Value) (x : Str) (st : Stmt) : Prop := ∃ f fd, FunD K x x (defArgs st) (defBody st) (defScope st) [] [] f fd ∧ mg x = some (.ref f)
def Callee (P : Program) (w : World) (K : PySem.W.Frag) (mg : Str → Option Value) (base : Heap) (CX : CXT) (k : Nat) (x : Str) (ps : List Str) (sp : Sp) : Prop :=
  ∃ f fd, FnOk P w K mg base CX k f fd ps sp ∧ mg x = some (.ref f) ∧ PySem.W.keepIn K (.ref f) = true ∧ Binds K fd ps []
section
variable {P : Program} {w : World} {K : PySem.W.Frag} {mg : Str → Option Value} {base : Heap}
theorem Def.ok {x : Str} {st : Stmt} {N ps : List Str} {k : Nat} {sp : Sp} (F : Def K mg x st) (S : FnScope N ps (defScope st))
    (hb : ∀ (kV doc pm : Value) (an : Option Addr) (cdv ct : Value) (us : List Value), us.length = ps.length → bindArgs (PySem.W.fnOf x x (defArgs st) (defBody st) (defScope st) .none kV doc pm an cdv ct) ⟨us, []⟩ = pure (ps.zip us)) (len : ∀ vs H Q E, sp vs H Q E → vs.length = ps.length)
    (hbody : ∀ (f : Addr) (cdv : Value) (A : Around) (outer : List Env) (s : Shared) (H : Hp) (vs : List V) (Q : VK) (E : XK), Room k (A.deeper (envOfC x (defScope st) s.heap.objs.size f cdv)) → sp vs H Q E →
      ∃ t, PSs (cxOf CX0 P w K mg base N x (defScope st) f cdv A outer s H E).nox (defBody st) t ∧ t { nx := fun _ H' => Q .non H', rt := Q } (start N vs) H) : Callee P w K mg base CX0 (k + 1) x ps sp := by
  obtain ⟨f, fd, hF, hg⟩ := F
  refine ⟨f, fd, hF.ok S len fun cdv A outer s H vs Q E hr hsp => ?_, hg, hF.kp, hF.bindsN hb⟩
  obtain ⟨t, h, q⟩ := hbody f cdv A outer s H vs Q E hr hsp
  exact ⟨t, h.nox, q⟩
theorem Callee.imp {CX : CXT} {k : Nat} {x : Str} {ps : List Str} {sp sp' : Sp} (c : Callee P w K mg base CX k x ps sp) (h : ∀ vs H Q E, sp' vs H Q E → sp vs H Q E) : Callee P w K mg base CX k x ps sp' := by
  obtain ⟨f, fd, c1, c2⟩ := c
  exact ⟨f, fd, c1.imp h, c2⟩
end
section
variable {X : Cx} {e : Expr} {es : List Expr} {ta : TA} {p pos : Pos}
theorem pe_callC {x : Str} {k : Nat} {ps : List Str} {sp : Sp} (c : Callee X.prog X.w X.K X.mg X.base CX0 k x ps sp) (hr : Room k X.A) (hg : Gl X x)
    (ha : PA X (e :: es) ta) (hdb : (x == ("__debug__" : Str)) = false := by decide) (he : starEach (e :: es) X.env = (false, eval e X.env) :: starEach es X.env := by rfl) (hpl : (backTo pos (starEach es X.env)).any (·.1) = false := by rfl) :
    PE X (.Call (.Name x p) (e :: es) [] pos) (tCall sp [] E0 ta) := by
  obtain ⟨f, fd, c1, c2, c3, c4⟩ := c
  exact pe_call c1 hr hg c2 c3 c4 .nil pass0 ha hdb he hpl
end
theorem units65 {k : Nat} {A : Around} (hr : Room k A) : A.units + 65 < cLine := by have := hr.un; omega
/-! ### statements, the rest of the block behind each -/
section
variable {K : PySem.W.Frag} {σ : L2.St} {H H' : Hp} {ta tb te : TE} {t : TT} {R : V → Hp → Prop} {d : PyData} {ds : List PyData} {D : Ends} {tu tw tz : TS}
theorem y_ret (R : V → Hp → Prop) (h : EvX te σ H R) (k : ∀ v H1, Ex H H1 → R v H1 → D.rt v H1) : tSeq (tRet te) tz D σ H := h H (Ex.refl H) _ k
theorem y_retI (K : PySem.W.Frag) (d : PyData) (h : EvI K te σ H d) (k : ∀ v H1, Ex H H1 → Im K H1 v d → D.rt v H1) : tSeq (tRet te) tz D σ H := h H (Ex.refl H) _ k
theorem y_retN (K : PySem.W.Frag) (ds : List PyData) (h : EvN K te σ H ds) (k : ∀ p xs H1, H p = none → Ex H H1 → H1 p = some (.lst xs) → ImAll K H1 xs ds → D.rt (.ref p) H1) : tSeq (tRet te) tz D σ H := h H (Ex.refl H) _ k
theorem y_asg {i : Nat} (R : V → Hp → Prop) (h : EvX te σ H R) (k : ∀ v H1, Ex H H1 → R v H1 → tz D (σ.set i (some v)) H1) : tSeq (tAsg te (gName i)) tz D σ H := h H (Ex.refl H) _ k
theorem y_asgI {i : Nat} (K : PySem.W.Frag) (d : PyData) (h : EvI K te σ H d) (k : ∀ v H1, Ex H H1 → Im K H1 v d → tz D (σ.set i (some v)) H1) : tSeq (tAsg te (gName i)) tz D σ H := h H (Ex.refl H) _ k
theorem y_asgN {i : Nat} (K : PySem.W.Frag) (ds : List PyData) (h : EvN K te σ H ds) (k : ∀ p xs H1, H p = none → Ex H H1 → H1 p = some (.lst xs) → ImAll K H1 xs ds → tz D (σ.set i (some (.ref p))) H1) : tSeq (tAsg te (gName i)) tz D σ H := h H (Ex.refl H) _ k
theorem y_asgG {i : Nat} (K : PySem.W.Frag) (ds : List PyData) (h : EvN K te σ H ds) (k : ∀ p H1, Grow K H H1 p ds → tz D (σ.set i (some (.ref p))) H1) : tSeq (tAsg te (gName i)) tz D σ H := h H (Ex.refl H) _ fun p xs H1 hp e h1 h2 => k p H1 ⟨hp, e, xs, h1, h2⟩
theorem y_next (k : D.nx σ H) : tNext D σ H := k
theorem y_tup {g : TG} (h : EvX te σ H R) (k : ∀ v H1, Ex H H1 → R v H1 → g v σ H1 (fun σ2 H2 => tz D σ2 H2)) : tSeq (tAsg te g) tz D σ H := h H (Ex.refl H) _ k
theorem y_if (b : Bool) (h : EvT t σ H b) (h1 : b = true → ∀ H1, Ex H H1 → tu { D with nx := tz D } σ H1) (h2 : b = false → ∀ H1, Ex H H1 → tw { D with nx := tz D } σ H1) : tSeq (tIfS t tu tw) tz D σ H := q_if h h1 h2
theorem y_when (b : Bool) (h : EvT t σ H b) (h1 : b = true → ∀ H1, Ex H H1 → tu { D with nx := tz D } σ H1) (h2 : b = false → ∀ H1, Ex H H1 → tz D σ H1) : tSeq (tIfS t tu tNext) tz D σ H := q_if h h1 h2
/-- an if whose test fails -/
theorem y_no (h : EvT t σ H false) (h2 : ∀ H1, Ex H H1 → tz D σ H1) : tSeq (tIfS t tu tNext) tz D σ H := q_if h (fun q => nomatch q) fun _ => h2
theorem y_yes (h : EvT t σ H true) (h1 : ∀ H1, Ex H H1 → tu { D with nx := tz D } σ H1) : tSeq (tIfS t tu tw) tz D σ H := q_if h (fun _ => h1) (fun q => nomatch q)
end
end DWL
/-! ### triangles as data -/
namespace DWL
open PySem PySem.Spec PyProof.Rows L2 Evl DW
def rowS (n : Nat) (c : Nat → Nat → Nat) (r : Nat) : Str := ⟨((List.range (n - r)).map (c r)).toArray⟩
def triD (n : Nat) (c : Nat → Nat → Nat) : List Str := (List.range n).map (rowS n c)
theorem triD_len (n : Nat) (c : Nat → Nat → Nat) : (triD n c).length = n := by simp [triD]
theorem triD_get {n : Nat} {c : Nat → Nat → Nat} {r : Nat} (h : r < n) : (triD n c)[r]? = some (rowS n c r) := by simp [triD, h]
theorem rowS_len (n : Nat) (c : Nat → Nat → Nat) (r : Nat) : (rowS n c r).length = n - r := by simp [rowS, Str.length]
theorem rowS_list (n : Nat) (c : Nat → Nat → Nat) (r : Nat) : (rowS n c r).cps.toList = (List.range (n - r)).map (c r) := by simp [rowS]
theorem rowS_get {n : Nat} {c : Nat → Nat → Nat} {r p : Nat} (h : r + p < n) : (rowS n c r).cps.toList[p]? = some (c r p) := by
  rw [rowS_list, List.getElem?_map, List.getElem?_range (by omega)]; rfl
structure Tri (K : PySem.W.Frag) (H : Hp) (v : V) (n : Nat) (c : Nat → Nat → Nat) : Prop where
  two : 2 ≤ n
  few : n ≤ 60
  ltr : ∀ r p, DW.ltr (c r p)
  ls : Ls K H v ((triD n c).map PyData.str)
theorem Tri.mono {K : PySem.W.Frag} {H H' : Hp} {v : V} {n : Nat} {c : Nat → Nat → Nat} (e : Ex H H') (t : Tri K H v n c) : Tri K H' v n c := ⟨t.two, t.few, t.ltr, t.ls.mono e⟩
def tri3 (a b c : Int) : PyData := .tuple [.int a, .int b, .int c]
def pr2 (a b : Int) : PyData := .tuple [.int a, .int b]
def smD (s : Sm) : PyData := tri3 s.1 s.2.1 s.2.2
def spD (s : Sp2) : PyData := pr2 s.1 s.2
section
variable {K : PySem.W.Frag} {σ : L2.St} {H : Hp} {ta tb te : TE} {v : V} {n : Nat} {c : Nat → Nat → Nat} {i : Nat}
theorem et_len (hv : σ[i]? = some (some v)) (t : Tri K H v n c) : EvI K (tCB (fun xs H Q => ∃ p ys, xs = [.ref p] ∧ (SqL K H p ys ∨ SqT K H p ys) ∧ Q (.int ys.length) H) (tCons (tVar i) tNil)) σ H (.int (n : Int)) :=
  EvI.to (ei_lenK (ek_var hv t.ls)) (by simp [triD])
/-- triangle[row][place] -/
theorem ei_at {r p : Nat} (hv : σ[i]? = some (some v)) (t : Tri K H v n c) (ha : EvI K ta σ H (.int (r : Int))) (hb : EvI K tb σ H (.int (p : Int))) (h : r + p < n) : EvI K (tOp rIxS (tOp (rIxL K) (tVar i) ta) tb) σ H (.str ⟨#[c r p]⟩) := by
  refine ei_ixS (z := rowS n c r) (ei_ixK (ek_var hv t.ls) ha (atI_nat ?_)) hb (by rw [rowS_len]; have := t.few; omega) (atI_nat (rowS_get h))
  rw [List.getElem?_map, triD_get (by omega)]; rfl
end
end DWL
namespace DWL
open PySem PySem.Spec PyProof.Rows L2 Evl DW
section
variable {K : PySem.W.Frag} {σ : L2.St} {H : Hp} {ta tb te : TE} {d : PyData} {ds : List PyData}
theorem ei_join {a : Str} {ys : List Str} (ho : EvI K ta σ H (.str a)) (h : EvK K te σ H (ys.map PyData.str)) (hl : (ys.map (·.length)).sum + ys.length * a.length ≤ 16777216) :
    EvI K (tM1 (fun x xs H Q => ∃ a p, ∃ ys : List Str, x = .str a ∧ xs = [.ref p] ∧ (SqL K H p (ys.map V.str) ∨ SqT K H p (ys.map V.str)) ∧ (ys.map (·.length)).sum + ys.length * a.length ≤ 16777216 ∧ Q (.str (Txt.join a ys)) H) ta te) σ H (.str (Txt.join a ys)) := fun H1 e Q q =>
  ho H1 e _ fun x H2 e2 r1 => by
    cases r1
    refine ⟨⟨a, rfl⟩, h H2 (e.trans e2) _ fun y H3 e3 r2 => ?_⟩
    obtain ⟨p, xs, rfl, g1, g2⟩ := r2
    have := strs_back g2
    subst this
    exact ⟨a, p, ys, rfl, rfl, .inl g1, hl, q _ H3 (e2.trans e3) (.str _)⟩
theorem ei_find {a b : Str} (ho : EvI K ta σ H (.str a)) (h : EvI K te σ H (.str b)) : EvI K (tM1 (fun x xs H Q => ∃ a b, x = .str a ∧ xs = [.str b] ∧ Q (.int (Txt.find a b)) H) ta te) σ H (.int (Txt.find a b)) := fun H1 e Q q =>
  ho H1 e _ fun x H2 e2 r1 => by
    cases r1
    refine ⟨⟨a, rfl⟩, h H2 (e.trans e2) _ fun y H3 e3 r2 => ?_⟩
    cases r2
    exact ⟨a, b, rfl, rfl, q _ H3 (e2.trans e3) (.int _)⟩
theorem ei_strip {a b : Str} (ho : EvI K ta σ H (.str a)) (h : EvI K te σ H (.str b)) (hl : a.length ≤ 100000) :
    EvI K (tBM K "str" (fun x xs H Q => ∃ a b, x = .str a ∧ xs = [.str b] ∧ a.length ≤ sizeLine ∧ Q (.str (Txt.stripChars a b)) H) ta (tCons te tNil)) σ H (.str (Txt.stripChars a b)) := fun H1 e Q q =>
  ho H1 e _ fun x H2 e2 r1 => by
    cases r1
    refine ⟨rfl, h H2 (e.trans e2) _ fun y H3 e3 r2 => ?_⟩
    cases r2
    exact ⟨a, b, rfl, rfl, sz_of hl, q _ H3 (e2.trans e3) (.str _)⟩
theorem flat_strs : ∀ ys : List Str, (ys.map V.str).all flatV = true
  | [] => rfl
  | _ :: ys => flat_strs ys
theorem flat_ints : ∀ ys : List Int, (ys.map V.int).all flatV = true
  | [] => rfl
  | _ :: ys => flat_ints ys
theorem inV_strs (z : Str) : ∀ ys : List Str, inV (.str z) (ys.map V.str) = ys.any fun y => y == z
  | [] => rfl
  | y :: ys => by
    show (eqV (.str y) (.str z) || inV (.str z) (ys.map V.str)) = ((y == z) || ys.any fun y => y == z)
    rw [inV_strs z ys]; rfl
theorem inV_ints (z : Int) : ∀ ys : List Int, inV (.int z) (ys.map V.int) = ys.any fun y => y == z
  | [] => rfl
  | y :: ys => by
    show (eqV (.int y) (.int z) || inV (.int z) (ys.map V.int)) = ((y == z) || ys.any fun y => y == z)
    rw [inV_ints z ys]; rfl
/-- z in (a, b, ..), texts -/
theorem ei_inST {z : Str} {ys : List Str} (ha : EvI K ta σ H (.str z)) (hb : EvI K tb σ H (.tuple (ys.map PyData.str))) : EvI K (tOp (rIn K false) ta tb) σ H (.bool (ys.any fun y => y == z)) :=
  ex_op ha mI hb fun x y H1 _ r1 r2 Q q => by
    cases r1
    obtain ⟨p, xs, rfl, g1, g2⟩ := r2.tup_inv
    have := strs_back g2
    subst this
    refine ⟨p, _, rfl, .inr g1, rfl, flat_strs _, q _ H1 (Ex.refl H1) ?_⟩
    rw [if_neg Bool.false_ne_true, inV_strs]
    exact .bl _
/-- in a list of texts, of numbers -/
theorem ei_inSL {z : Str} {ys : List Str} (ha : EvI K ta σ H (.str z)) (hb : EvK K tb σ H (ys.map PyData.str)) : EvI K (tOp (rIn K false) ta tb) σ H (.bool (ys.any fun y => y == z)) :=
  ex_op ha mI hb fun x y H1 _ r1 r2 Q q => by
    cases r1
    obtain ⟨p, xs, rfl, g1, g2⟩ := r2
    have := strs_back g2
    subst this
    refine ⟨p, _, rfl, .inl g1, rfl, flat_strs _, q _ H1 (Ex.refl H1) ?_⟩
    rw [if_neg Bool.false_ne_true, inV_strs]
    exact .bl _
theorem ei_inIL {z : Int} {ys : List Int} (ha : EvI K ta σ H (.int z)) (hb : EvK K tb σ H (ys.map PyData.int)) : EvI K (tOp (rIn K false) ta tb) σ H (.bool (ys.any fun y => y == z)) :=
  ex_op ha mI hb fun x y H1 _ r1 r2 Q q => by
    cases r1
    obtain ⟨p, xs, rfl, g1, g2⟩ := r2
    have := ints_back g2
    subst this
    refine ⟨p, _, rfl, .inl g1, rfl, flat_ints _, q _ H1 (Ex.refl H1) ?_⟩
    rw [if_neg Bool.false_ne_true, inV_ints]
    exact .bl _
theorem ei_niIL {z : Int} {ys : List Int} (ha : EvI K ta σ H (.int z)) (hb : EvK K tb σ H (ys.map PyData.int)) : EvI K (tOp (rIn K true) ta tb) σ H (.bool (!ys.any fun y => y == z)) :=
  ex_op ha mI hb fun x y H1 _ r1 r2 Q q => by
    cases r1
    obtain ⟨p, xs, rfl, g1, g2⟩ := r2
    have := ints_back g2
    subst this
    refine ⟨p, _, rfl, .inl g1, rfl, flat_ints _, q _ H1 (Ex.refl H1) ?_⟩
    rw [if_pos rfl, inV_ints]
    exact .bl _
/-- c in text, one sign -/
theorem ei_inC {c : Nat} {z : Str} (ha : EvI K ta σ H (.str ⟨#[c]⟩)) (hb : EvI K tb σ H (.str z)) : EvI K (tOp (fun x y H Q => ∃ (c : Nat) (z : Str), x = .str ⟨#[c]⟩ ∧ y = .str z ∧ Q (.bl (decide (c ∈ z.cps.toList))) H) ta tb) σ H (.bool (decide (c ∈ z.cps.toList))) :=
  ex_op ha mI hb fun x y H1 _ r1 r2 Q q => by cases r1; cases r2; exact ⟨c, z, rfl, rfl, q _ H1 (Ex.refl H1) (.bl _)⟩
theorem ei_niC {c : Nat} {z : Str} (ha : EvI K ta σ H (.str ⟨#[c]⟩)) (hb : EvI K tb σ H (.str z)) : EvI K (tOp (fun x y H Q => ∃ (c : Nat) (z : Str), x = .str ⟨#[c]⟩ ∧ y = .str z ∧ Q (.bl (!decide (c ∈ z.cps.toList))) H) ta tb) σ H (.bool (!decide (c ∈ z.cps.toList))) :=
  ex_op ha mI hb fun x y H1 _ r1 r2 Q q => by cases r1; cases r2; exact ⟨c, z, rfl, rfl, q _ H1 (Ex.refl H1) (.bl _)⟩
theorem ei_isN (ha : EvI K ta σ H d) (hd : d ≠ .none) : EvI K (tOp (fun x y H Q => y = .non ∧ Q (.bl (decide (x = .non))) H) ta (tC .non)) σ H (.bool false) :=
  ex_op ha mI evv_c fun x y H1 _ r1 r2 Q q => by
    refine ⟨r2, q _ H1 (Ex.refl H1) ?_⟩
    have : decide (x = V.non) = false := decide_eq_false fun e => by subst e; cases r1; exact hd rfl
    rw [this]; exact .bl _
end
/-! ### texts -/
theorem str_ext {x y : Str} (h : x.cps.toList = y.cps.toList) : x = y := by
  obtain ⟨x⟩ := x; obtain ⟨y⟩ := y
  exact congrArg Str.mk (Array.toList_inj.mp h)
def st (l : List Nat) : Str := ⟨l.toArray⟩
theorem st_list (l : List Nat) : (st l).cps.toList = l := by simp [st]
theorem st_len (l : List Nat) : (st l).length = l.length := by simp [st, Str.length]
theorem st_of (z : Str) : st z.cps.toList = z := str_ext (st_list _)
theorem append_list (a b : Str) : (a ++ b).cps.toList = a.cps.toList ++ b.cps.toList := by
  show (a.cps ++ b.cps).toList = _
  simp
theorem st_app (a b : List Nat) : st a ++ st b = st (a ++ b) := str_ext (by rw [append_list, st_list, st_list, st_list])
theorem length_cps (z : Str) : z.length = z.cps.toList.length := by simp [Str.length]
theorem join_nil : ∀ (l : List Str), (Txt.join (st []) l).cps.toList = (l.map fun z => z.cps.toList).flatten
  | [] => rfl
  | [z] => by
    have : Txt.join (st []) [z] = z := rfl
    rw [this]; simp
  | z :: y :: l => by
    have e : Txt.join (st []) (z :: y :: l) = z ++ st [] ++ Txt.join (st []) (y :: l) := by
      show Builtin.Str.glued (st []) (z :: y :: l) = z ++ st [] ++ Builtin.Str.glued (st []) (y :: l)
      rw [PySem.StrLaws.glued_eq_join, PySem.StrLaws.glued_eq_join]; rfl
    rw [e, append_list, append_list, join_nil (y :: l), st_list]
    simp
theorem takeW_all {α : Type} {p : α → Bool} : ∀ {l : List α}, (∀ x ∈ l, p x = true) → l.takeWhile p = l
  | [], _ => rfl
  | x :: l, h => by
    rw [List.takeWhile_cons, if_pos (h x List.mem_cons_self), takeW_all fun y hy => h y (List.mem_cons_of_mem _ hy)]
theorem strip_all {z y : Str} (h : ∀ c ∈ z.cps.toList, y.cps.contains c = true) : Txt.stripChars z y = st [] := by
  unfold Txt.stripChars
  rw [stripBy_eq]
  have e1 : z.cps.toList.takeWhile y.cps.contains = z.cps.toList := takeW_all h
  have e2 : stripLo y.cps.contains true z = z.length := by
    unfold stripLo
    rw [if_pos rfl, e1, length_cps]
  have e3 : stripHi y.cps.contains true z z.length = z.length := by
    unfold stripHi
    rw [if_pos rfl, length_cps, List.drop_length]; rfl
  rw [e2, e3]
  refine str_ext ?_
  show (z.cps.extract z.length z.length).toList = _
  simp [st]
end DWL
/-! the layer's rules, the written part told by its own name -/
namespace DWL
open PySem PySem.Spec PyProof.Rows L2 Evl
section
variable {X : Cx} {K : PySem.W.Frag}
theorem kr_len (h : X.K = K) : CallR X (.builtin "len") (rLenS K) := by subst h; exact call_len_seq
theorem kr_sum (hc : X.calm = true) (h : X.K = K) : CallR X (.builtin "sum") (rSum K) := by subst h; exact cr_sum hc
theorem kr_all (hc : X.calm = true) (h : X.K = K) : CallR X (.builtin "all") (rAll K) := by subst h; exact cr_all hc
theorem kr_isi (h : X.K = K) : CallR X (.builtin "isinstance") (rIsi K) := by subst h; exact call_isi
theorem kr_isiT (h : X.K = K) : CallR X (.builtin "isinstance") (rIsiT K) := by subst h; exact call_isiT
theorem kr_list (h : X.K = K) : CallR X (.type "list") (rListS K) := by subst h; exact call_list_of
theorem ko_eqD (h : X.K = K) (hu : X.A.units + 64 < cLine) : OpR X (compareOp .Eq) (rEqD K) := by subst h; exact op_eqD hu
theorem ko_neD (h : X.K = K) (hu : X.A.units + 64 < cLine) : OpR X (compareOp .NotEq) (rNeD K) := by subst h; exact op_neD hu
theorem ko_in (h : X.K = K) : OpR X (compareOp .In) (rIn K false) := by subst h; exact op_in_seq
theorem ko_ni (h : X.K = K) : OpR X (compareOp .NotIn) (rIn K true) := by subst h; exact op_notIn_seq
theorem ko_inD (h : X.K = K) (hu : X.A.units + 65 < cLine) : OpR X (compareOp .In) (rInD K) := by subst h; exact op_inD hu
theorem ko_niD (h : X.K = K) (hu : X.A.units + 65 < cLine) : OpR X (compareOp .NotIn) (rNotInD K) := by subst h; exact op_notInD hu
theorem kx_list (h : X.K = K) : IxR X (rIxL K) := by subst h; exact ix_list
theorem kx_tup (h : X.K = K) : IxR X (rIxT K) := by subst h; exact ix_tup
theorem ks_list (h : X.K = K) : SlR X (rSlL K) := by subst h; exact sl_list
theorem ki_list {tg l : Expr} {tl : TE} (h : X.K = K) (hl : PE X l tl) : PI X tg l (iList K tl) := by subst h; exact pi_list hl
theorem ki_enum {e : Expr} {ta : TA} {p pos tpos : Pos} {elts : List Expr} {kk : Nat} (h : X.K = K) (hg : Gl X "enumerate") (hm : X.mg "enumerate" = none) (ha : PA X [e] ta) (hs : starEach [e] X.env = [(false, eval e X.env)] := by rfl) :
    PI X (.Tuple elts kk tpos) (.Call (.Name "enumerate" p) [e] [] pos) (iEnum K ta) := by subst h; exact pi_enum hg hm ha hs
theorem kg_tup {es : List Expr} {k : Nat} {t : TGs} {n : Nat} {pos : Pos} (h : X.K = K) (hc : X.calm = true) (ht : PGs X es t) (hn : (assignEach es X.env).length = n := by rfl) (hst : (assignEach es X.env).findIdx? (·.1) = none := by rfl) : PG X (.Tuple es k pos) (gTup K n t) := by
  subst h; exact pg_tup hc ht hn hst
theorem ke_fld {e : Expr} {ta : TE} {f : Str} {pos : Pos} (h : X.K = K) (he : PE X e ta) (hb : attributeBase e f X.env (eval e X.env) = eval e X.env) : PE X (.Attribute e f pos) (tFld K ta f) := by subst h; exact pe_fld he hb
theorem ke_bm {T : String} {name : Str} {id : String} {r : V → List V → Hp → VK → Prop} {o e : Expr} {es : List Expr} {to : TE} {t : TA} {apos cpos : Pos} (h : X.K = K) (pa : PlainAttrs T) (slot : Slot T name id) (hty : typeOf (.builtin id) = pure (.type "method_descriptor")) (hm : MtR X id r) (ho : PE X o to) (ha : PA X (e :: es) t)
    (hbase : attributeBase o name X.env (eval o X.env) = eval o X.env := by rfl)
    (hfew : ((backTo cpos (starEach (e :: es) X.env)).all (fun x => !x.1) && (backToKw cpos (keywordEach [] X.env)).all (fun x => x.1.isSome) && decide ((e :: es).length + ([] : List Keyword).length + (if ([] : List Keyword).isEmpty then 0 else 1) < 30)) = true := by rfl)
    (hline : (apos.endLine == cpos.line) = true := by rfl) (hs : starEach (e :: es) X.env = (false, eval e X.env) :: starEach es X.env := by rfl) (hplain : (backTo cpos (starEach es X.env)).any (·.1) = false := by rfl) :
    PE X (.Call (.Attribute o name apos) (e :: es) [] cpos) (tBM K T r to t) := by subst h; exact pe_bm pa slot hty hm ho ha hbase hfew hline hs hplain
theorem km_join (h : X.K = K) : MtR X "str.join" (fun x xs H Q => ∃ a p, ∃ ys : List Str, x = .str a ∧ xs = [.ref p] ∧ (SqL K H p (ys.map V.str) ∨ SqT K H p (ys.map V.str)) ∧ (ys.map (·.length)).sum + ys.length * a.length ≤ 16777216 ∧ Q (.str (Txt.join a ys)) H) := by subst h; exact mt_join
theorem ke_revL {e : Expr} {te : TE} {k : Nat} {p1 p2 p3 pos : Pos} (h : X.K = K) (he : PE X e te) : PE X (.Subscript e (.Slice none none (some (.UnaryOp .USub (.Constant (.int 1) k p1) p2)) p3) pos) (tRevL K te) := by subst h; exact pe_revL he
end
end DWL
/-! sorted of triples of ints, any number of them -/
namespace Tr3
open PySem PySem.Spec PyProof.Rows Srt SrtO
abbrev I3 := Int × Int × Int
def before (p q : I3) : Bool := decide (p.1 < q.1 ∨ (p.1 = q.1 ∧ (p.2.1 < q.2.1 ∨ (p.2.1 = q.2.1 ∧ p.2.2 < q.2.2))))
theorem before_swo {α : Type} (key : α → I3) : Swo fun v u => before (key v) (key u) := by
  constructor
  · intro v u h
    have h1 := of_decide_eq_true h
    exact decide_eq_false (by omega)
  · intro v u z h h'
    have h1 := of_decide_eq_false h
    have h2 := of_decide_eq_false h'
    exact decide_eq_false (by omega)
/-- at v a tuple of the three -/
def At3 (h : Heap) (v : Value) (k : I3) : Prop := ∃ b ob t1 t2 t3 m, v = .ref b ∧ h.get? b = some ob ∧ ob.cls = .type "tuple" ∧ ob.data = .seq #[.int k.1 t1, .int k.2.1 t2, .int k.2.2 t3] m
theorem At3.carry {h g : Heap} {v : Value} {k : I3} (x : At3 h v k) (st : ∀ b ob, h.get? b = some ob → ob.cls = .type "tuple" → g.get? b = some ob) : At3 g v k := by
  obtain ⟨b, ob, t1, t2, t3, m, x1, x2, x3, x4⟩ := x
  exact ⟨b, ob, t1, t2, t3, m, x1, st b ob x2 x3, x3, x4⟩
theorem heads {h : Heap} {key : Value → I3} : ∀ {l : List Value}, (∀ v ∈ l, At3 h v (key v)) → ∃ fs : List Value, PySem.W.KatTups h l fs ∧ fs.length = l.length ∧ ∀ z ∈ fs, ∃ i t, z = Value.int i t
  | [], _ => ⟨[], .nil, rfl, fun _ z => absurd z (by simp)⟩
  | v :: l, x => by
    obtain ⟨b, ob, t1, t2, t3, m, x1, x2, x3, x4⟩ := x v List.mem_cons_self
    obtain ⟨fs, y1, y2, y3⟩ := heads (l := l) fun u hu => x u (List.mem_cons_of_mem _ hu)
    rw [x1]
    refine ⟨.int (key v).1 t1 :: fs, PySem.W.KatTups.cons x2 x3 x4 rfl y1, by simp [y2], fun z hz => ?_⟩
    rcases List.mem_cons.mp hz with e | hz
    · exact ⟨_, _, e⟩
    · exact y3 z hz
section
variable {prog : Program} {w : World} {A : Around} {E : Value → Shared → Prop} {s : Shared}
theorem cmp3 {l : List Value} {key : Value → I3} (x : ∀ v ∈ l, At3 s.heap v (key v)) : Cmp prog w A s (tuples' true) (fun p => p.1 ∈ l) (lt2 fun v u => before (key v) (key u)) := by
  intro p q hp hq
  have xp := x _ hp
  have xq := x _ hq
  show wpAny (model prog w) A (keyLt' (tuples' true) p.1 q.1) (fun r z => z = s ∧ r = before (key p.1) (key q.1)) (fun _ _ => False) s
  revert xp xq
  generalize key p.1 = k
  generalize key q.1 = k'
  intro xp xq
  obtain ⟨k1, k2, k3⟩ := k
  obtain ⟨j1, j2, j3⟩ := k'
  obtain ⟨b, ob, t1, t2, t3, m, x1, x2, x3, x4⟩ := xp
  obtain ⟨b', ob', u1, u2, u3, m', y1, y2, y3, y4⟩ := xq
  rw [x1, y1]
  refine PySem.W.kat_lt x2 x4 y2 y4 ?_
  show PySem.W.KatLex prog w A true (decide (3 < 3)) _ [(.int k1 t1, .int j1 u1), (.int k2 t2, .int j2 u2), (.int k3 t3, .int j3 u3)] 0 s
  refine PySem.W.kat_cons (SeqAt.EqAt.int_int k1 t1 j1 u1 prog w _ _ ?_)
  refine PySem.W.kat_go (fun a1 => ?_) (fun a1 => ?_)
  · have a1 : k1 = j1 := by simpa using a1
    refine PySem.W.kat_yes (PySem.W.kat_cons (SeqAt.EqAt.int_int k2 t2 j2 u2 prog w _ _ ?_))
    refine PySem.W.kat_go (fun a2 => ?_) (fun a2 => ?_)
    · have a2 : k2 = j2 := by simpa using a2
      refine PySem.W.kat_yes (PySem.W.kat_cons (SeqAt.EqAt.int_int k3 t3 j3 u3 prog w _ _ ?_))
      refine PySem.W.kat_go (fun a3 => ?_) (fun a3 => ?_)
      · have a3 : k3 = j3 := by simpa using a3
        refine PySem.W.kat_yes (PySem.W.kat_nil ⟨rfl, ?_⟩)
        subst a1 a2 a3
        exact (decide_eq_false (by dsimp only; omega)).symm
      · refine PySem.W.kat_no (PySem.W.kat_one _ _ (PyProof.Rows.lt_int ?_))
        refine (show s = s ∧ decide (k3 < j3) = before (k1, k2, k3) (j1, j2, j3) from ⟨rfl, ?_⟩)
        unfold before
        dsimp only
        exact decide_eq_decide.mpr (by omega)
    · have a2 : ¬ k2 = j2 := by simpa using a2
      refine PySem.W.kat_no (PySem.W.kat_one _ _ (PyProof.Rows.lt_int ?_))
      refine (show s = s ∧ decide (k2 < j2) = before (k1, k2, k3) (j1, j2, j3) from ⟨rfl, ?_⟩)
      unfold before
      dsimp only
      exact decide_eq_decide.mpr (by omega)
  · have a1 : ¬ k1 = j1 := by simpa using a1
    refine PySem.W.kat_no (oneLt_int ⟨rfl, ?_⟩)
    unfold before
    dsimp only
    exact decide_eq_decide.mpr (by omega)
theorem able3 {a : Addr} {l : List Value} {key : Value → I3} (n0 : 0 < l.length) (x : ∀ v ∈ l, At3 s.heap v (key v)) (na : ∀ ob, s.heap.get? a = some ob → ob.cls ≠ .type "tuple") : SortableO prog w A s a l fun v u => before (key v) (key u) := by
  intro g st
  have x' : ∀ v ∈ l, At3 g v (key v) := fun v hv => (x v hv).carry fun b ob e c => st b ob (fun z => by rw [z] at e; exact na ob e c) e
  obtain ⟨fs, y1, y2, y3⟩ := heads x'
  refine ⟨tuples' true, fun Q E hQ => ?_, cmp3 x'⟩
  refine PySem.W.kat_kind (T := .type "int") y1 (by rw [y2]; exact n0) (fun z hz => ?_) (by rfl) ?_
  · obtain ⟨i, t, e⟩ := y3 z hz
    rw [e]
    exact PySem.W.Looks.now
  · rw [show (Value.type "int" != Value.type "tuple") = true from rfl]
    exact hQ
end
end Tr3
namespace DWL
open PySem PySem.Spec PyProof.Rows L2 Evl Tr3
def trD (k : I3) : PyData := .tuple [.int k.1, .int k.2.1, .int k.2.2]
theorem At3.one {h : Heap} {v : Value} {k j : I3} (x : At3 h v k) (y : At3 h v j) : k = j := by
  obtain ⟨b, ob, t1, t2, t3, m, x1, x2, _, x4⟩ := x
  obtain ⟨b', ob', u1, u2, u3, m', y1, y2, _, y4⟩ := y
  rw [x1] at y1
  cases y1
  rw [x2] at y2
  cases y2
  rw [x4] at y4
  obtain ⟨k1, k2, k3⟩ := k
  obtain ⟨j1, j2, j3⟩ := j
  cases y4
  rfl
open Classical in
noncomputable def keyAt (h : Heap) (v : Value) : I3 := if e : ∃ k, At3 h v k then e.choose else (0, 0, 0)
theorem keyAt_is {h : Heap} {v : Value} {k : I3} (x : At3 h v k) : keyAt h v = k := by
  unfold keyAt
  rw [dif_pos ⟨k, x⟩]
  exact At3.one (Exists.choose_spec (⟨k, x⟩ : ∃ k, At3 h v k)) x
/-- sorted(xs) of triples: a new list, rising, of the same things -/
def rSorted3 (K : PySem.W.Frag) : List V → Hp → VK → Prop := fun vs H Q => ∃ (a : Addr) (xs : List V) (ks : List I3), vs = [V.ref a] ∧ SqL K H a xs ∧ ImAll K H xs (ks.map trD) ∧
  ∀ (ys : List V) (js : List I3) (p : Addr), ImAll K H ys (js.map trD) → js.Pairwise (fun x y => before y x = false) → js.Perm ks → H p = none → Q (.ref p) (upd H p (.lst ys))
section
variable {X : Cx}
theorem at3_of {pins : List (Addr × Obj)} {σ : L2.St} {H : Hp} {s : Shared} (I : Inv X pins σ H s) : ∀ {xs : List V} {us : List Value} {ks : List I3}, Vals xs us → ImAll X.K H xs (ks.map trD) → us.length = ks.length ∧ ∀ (i : Nat) u k, us[i]? = some u → ks[i]? = some k → At3 s.heap u k ∧ ∃ b, u = .ref b ∧ Im X.K H (.ref b) (trD k)
  | [], _, [], .nil, _ => ⟨rfl, fun i u k h => by simp at h⟩
  | [], _, k :: ks, _, h => by cases h
  | x :: xs, _, [], _, h => by cases h
  | x :: xs, u :: us, k :: ks, .cons r rs, h => by
    cases h with
    | cons h1 h2 =>
      obtain ⟨y1, y2⟩ := at3_of I rs h2
      refine ⟨by simp [y1], fun i => ?_⟩
      cases i with
      | succ i => intro v j e1 e2; exact y2 i v j (by simpa using e1) (by simpa using e2)
      | zero =>
        intro v j e1 e2
        obtain rfl : u = v := by simpa using e1
        obtain rfl : k = j := by simpa using e2
        have h0 := h1
        obtain ⟨b, zs, rfl, g1, g2⟩ := h1.tup_inv
        obtain rfl : u = Value.ref b := r
        refine ⟨?_, b, rfl, h0⟩
        obtain ⟨its, rv, ⟨o, ho, hc, n, hd⟩, _⟩ := I.tuple g1
        cases g2 with
        | cons a1 g2 => cases g2 with
          | cons a2 g2 => cases g2 with
            | cons a3 g2 =>
              cases g2; cases a1; cases a2; cases a3
              cases rv with
              | cons p1 rv => cases rv with
                | cons p2 rv => cases rv with
                  | cons p3 rv =>
                    cases rv
                    obtain ⟨t1, rfl⟩ := p1
                    obtain ⟨t2, rfl⟩ := p2
                    obtain ⟨t3, rfl⟩ := p3
                    exact ⟨b, o, t1, t2, t3, n, rfl, ho, hc, hd⟩
theorem back_of {H : Hp} {K : PySem.W.Frag} {key : Value → I3} : ∀ {us : List Value}, (∀ u ∈ us, ∃ b, u = .ref b ∧ Im K H (.ref b) (trD (key u))) → ImAll K H (us.map backV) ((us.map key).map trD)
  | [], _ => .nil
  | u :: us, h => by
    obtain ⟨b, e, i⟩ := h u List.mem_cons_self
    refine .cons ?_ (back_of fun z hz => h z (List.mem_cons_of_mem _ hz))
    subst e
    exact i
theorem cr_sorted3 : CallR X (.builtin "sorted") (rSorted3 X.K) := by
  intro pins s σ H vs us Q I r h
  obtain ⟨a, xs, ks, rfl, hs, hx, q⟩ := h
  obtain ⟨its, rv, hl, hz⟩ := I.list hs
  obtain ⟨u, rfl, ru⟩ := vals1 r
  obtain rfl : u = Value.ref a := ru
  obtain ⟨len, all⟩ := at3_of I rv hx
  have mem : ∀ v ∈ its, ∃ k, At3 s.heap v k ∧ ∃ b, v = .ref b ∧ Im X.K H (.ref b) (trD k) := fun v hv => by
    obtain ⟨i, hi⟩ := List.mem_iff_getElem?.mp hv
    have hi' := (List.getElem?_eq_some_iff.mp hi).1
    exact ⟨_, all i v (ks[i]'(by omega)) hi (List.getElem?_eq_getElem (by omega))⟩
  have ek : its.map (keyAt s.heap) = ks := by
    refine List.ext_getElem? fun i => ?_
    rw [List.getElem?_map]
    by_cases hi : i < its.length
    · obtain ⟨k1, _⟩ := all i its[i] (ks[i]'(by omega)) (List.getElem?_eq_getElem hi) (List.getElem?_eq_getElem (by omega))
      rw [List.getElem?_eq_getElem hi, List.getElem?_eq_getElem (by omega)]
      exact congrArg some (keyAt_is k1)
    · rw [List.getElem?_eq_none (by omega), List.getElem?_eq_none (by omega)]; rfl
  have x3 : ∀ v ∈ its, At3 s.heap v (keyAt s.heap v) := fun v hv => by
    obtain ⟨k, k1, _⟩ := mem v hv
    rw [keyAt_is k1]; exact k1
  refine SrtO.sorted_ord (before_swo (keyAt s.heap)) hl.isList (by rw [← rv.length]; exact hz) (fun h2 g b hb kk => able3 (s := { s with heap := g }) (by omega) (fun v hv => (x3 v hv).carry fun b ob e _ => (kk b ob e).2) fun o e => ?_) fun out h1 h2 => ?_
  · have e' : some o = some (seqObj "list" its.toArray 0) := e.symm.trans hb
    cases e'
    intro c
    exact absurd (Value.type.inj c) (by decide)
  · obtain ⟨n, hn⟩ := PyProof.Rows.sortedAll_at s.heap its out.toArray
    have m2 : ∀ u ∈ out, ∃ b, u = .ref b ∧ Im X.K H (.ref b) (trD (keyAt s.heap u)) := fun u hu => by
      obtain ⟨k, k1, b, k2, k3⟩ := mem u (h2.perm.mem_iff.mp hu)
      exact ⟨b, k2, by rw [keyAt_is k1]; exact k3⟩
    have pm : (out.map (keyAt s.heap)).Perm ks := by rw [← ek]; exact h2.perm.map _
    refine ⟨.ref _, upd H (s.heap.objs.size + 1) (.lst (out.map backV)), I.laid (t' := s.toks) (fun _ _ => PyProof.Rows.sortedAll_old) (Nat.le_succ _) ⟨?_, out, n, vals_back (fun u hu => (m2 u hu).imp fun b z => z.1), hn⟩, rfl, q _ _ _ (back_of m2) (List.pairwise_map.mpr (h1.imp fun {x y} z => z)) pm (I.hok.fresh (Nat.le_succ _))⟩
    rw [List.length_map, h2.perm.length_eq, ← rv.length]
    exact hz
end
theorem kr_sorted3 {X : Cx} {K : PySem.W.Frag} (h : X.K = K) : CallR X (.builtin "sorted") (rSorted3 K) := by subst h; exact cr_sorted3
theorem en_sorted3 {K : PySem.W.Frag} {σ : L2.St} {H : Hp} {ta : TE} {ks : List I3} (js : List I3) (ha : EvK K ta σ H (ks.map trD)) (u : ∀ l : List I3, l.Pairwise (fun x y => before y x = false) → l.Perm ks → l = js) :
    EvN K (tCB (rSorted3 K) (tCons ta tNil)) σ H (js.map trD) := fun H1 e Q q => ha H1 e _ fun x H2 e2 r => by
  obtain ⟨a, xs, rfl, h1, h2⟩ := r
  refine ⟨a, xs, ks, rfl, h1, h2, fun ys l p g1 g2 g3 hp => ?_⟩
  have := u l g2 g3
  subst this
  exact q p ys _ (fresh_back e2 hp) (e2.trans (Ex.new hp)) upd_same (g1.mono (Ex.new hp))
end DWL
namespace DWL
open PySem PySem.Spec PyProof.Rows L2 Evl DW
section
variable {K : PySem.W.Frag} {σ : L2.St} {H : Hp} {ta tb te : TE} {d : PyData} {ds : List PyData} {D : Ends} {tu tw tz : TS}
theorem Grow.st {H0 H1 : Hp} {l : Addr} {v : V} {xs : List V} {j : Nat} (g : Grow K H0 H1 l ds) (hl : H1 l = some (.lst xs)) (hx : ImAll K H1 xs ds) (hv : Im K H1 v d) : Grow K H0 (upd H1 l (.lst (xs.set j v))) l (ds.set j d) :=
  ⟨g.fresh, Ex.mut g.ex g.fresh, _, upd_same, (hx.set j hv).wr hl⟩
/-- l[j] = e -/
theorem y_setG {H0 : Hp} {l : Addr} {j : Nat} (d : PyData) (g : Grow K H0 H l ds) (h : EvI K te σ H d) (ho : EvV ta σ H (.ref l)) (hi : EvI K tb σ H (.int (j : Int))) (hj : j < ds.length) (k : ∀ H1, Grow K H0 H1 l (ds.set j d) → (∀ m es, m ≠ l → Grow K H0 H m es → Grow K H0 H1 m es) → tz D σ H1) :
    tSeq (tAsg te (gSub ta tb rSetL)) tz D σ H := h H (Ex.refl H) _ fun v H1 e1 hv => ho H1 e1 _ fun u H2 e2 hu => hi H2 (e1.trans e2) _ fun w H3 e3 hw => by
  subst hu
  cases hw
  obtain ⟨xs, g5, g6⟩ := (g.go ((e1.trans e2).trans e3)).has
  exact ⟨l, xs, (j : Int), j, rfl, rfl, g5, ixN_nat (by rw [g6.length]; exact hj), k _ ((g.go ((e1.trans e2).trans e3)).st g5 g6 (hv.mono (e2.trans e3))) fun m es hm gm => (gm.go ((e1.trans e2).trans e3)).other g5 g.fresh hm (es := [])⟩
theorem src1 (h : EvK K te σ H ds) : ∀ H1, Ex H H1 → ∀ Q : List V → Hp → Prop, (∀ v H2, Ex H1 H2 → Ls K H2 v ds → Q [v] H2) → tCons te tNil σ H1 Q := fun H1 e Q q => h H1 e _ fun v H2 e2 r => q v H2 e2 r
theorem Grow.back {H0 H' : Hp} {l : Addr} (g : Grow K H0 H l ds) (e : Ex H' H0) : Grow K H' H l ds := ⟨fresh_back e g.fresh, e.trans g.ex, g.has⟩
/-- a call whose value is dropped -/
theorem y_dropI (K : PySem.W.Frag) (d : PyData) (h : EvI K te σ H d) (k : ∀ v H1, Ex H H1 → Im K H1 v d → tz D σ H1) : tSeq (tDrop te) tz D σ H := h H (Ex.refl H) _ k
theorem kit_str : kitB "str" "str" = some true := by decide +kernel
theorem kit_int : kitB "int" "int" = some true := by decide +kernel
theorem kit_int_bool : kitB "int" "bool" = some false := by decide +kernel
theorem kit_list : kitB "list" "list" = some true := by decide +kernel
theorem kit_tuple : kitB "tuple" "tuple" = some true := by decide +kernel
theorem kit_bool : kitB "bool" "bool" = some true := by decide +kernel
theorem Im.intE {H : Hp} {v : V} {i : Int} (h : Im K H v (.int i)) : v = .int i := by cases h; rfl
theorem Im.strE {H : Hp} {v : V} {i : Str} (h : Im K H v (.str i)) : v = .str i := by cases h; rfl
theorem Im.blE {H : Hp} {v : V} {i : Bool} (h : Im K H v (.bool i)) : v = .bl i := by cases h; rfl
end
end DWL
namespace DWL
open PySem PySem.Spec PyProof.Rows L2 Evl DW
theorem ki_tup {X : Cx} {K : PySem.W.Frag} {tg l : Expr} {tl : TE} (h : X.K = K) (hl : PE X l tl) : PI X tg l (iTup K tl) := by subst h; exact pi_tup hl
section
variable {K : PySem.W.Frag} {σ : L2.St} {H : Hp} {ta tb te : TE} {d : PyData} {ds : List PyData} {tg : TG} {tt : TT} {vs : List Nat}
/-- a comprehension over a tuple -/
theorem en_lcT {δ : Type} {enc : δ → PyData} {L : List δ} {tl : TE} (f : δ → Bool) (g : δ → PyData) (h : EvI K tl σ H (.tuple (L.map enc))) (hz : L.length ≤ 40000)
    (hb : ∀ a ∈ L, ∀ x H1, Ex H H1 → Im K H1 x (enc a) → ∃ σ', (∀ Q : L2.St → Hp → Prop, Q σ' H1 → tg x (wipe σ vs) H1 Q) ∧ wipe σ' vs = wipe σ vs ∧ EvT tt σ' H1 (f a) ∧ (f a = true → EvI K te σ' H1 (g a))) :
    EvN K (tLc (iTup K tl) tg tt te vs) σ H ((L.filter f).map g) := fun H0 e0 Q q => h H0 e0 _ fun v H1 e1 r => by
  obtain ⟨a, xs, rfl, h1, h2⟩ := r.tup_inv
  have hl : L.length = xs.length := by rw [h2.length, List.length_map]
  refine ⟨a, rfl, ⟨xs, h1⟩, fun Dl hD => lc_go (walk_tup (K := K) (a := a) (xs := xs)) L hl (by omega) f g hD (fun H' e => ex_t e h1) (fun i b x H' H'' hb' e y => ?_) fun H' ys e g1 g2 => q Dl ys H' (fresh_back e1 hD) (e1.trans e) g1 g2⟩
  obtain ⟨rfl, hx⟩ := y
  obtain ⟨dd, k1, k2⟩ := (h2.mono e).getV hx
  have : dd = enc b := by
    rw [List.getElem?_map, hb'] at k1; exact (Option.some.inj k1).symm
  subst this
  exact ⟨Ex.refl _, hb b (List.mem_of_getElem? hb') x _ ((e0.trans e1).trans e) k2⟩
end
end DWL
namespace DWL
open PySem PySem.Spec PyProof.Rows L2 Evl DW
def top (i : Nat) : Stmt := PySem.Challenge.pw_doorwalk_k06_refused.main.body.getD i (.Pass ⟨0, 0, 0, 0⟩)
section
variable {P : Program} {w : World} {K : PySem.W.Frag} {mg : Str → Option Value} {base : Heap}
local macro_rules | `(tactic| walk_at "v") => `(tactic| first | exact ei_int | exact ei_str | exact ei_bl | exact ei_non | exact ei_neg ei_int | exact ei_var rfl (Im.int _) | exact ei_var rfl (Im.str _) | exact ei_var rfl (Im.bl _) | exact ei_var rfl (by assumption) | exact et_len rfl (by assumption))
local macro_rules | `(tactic| walk_at "e") => `(tactic| first | walk_at "v" | (apply ei_I0i <;> walk_at "e") | (apply ei_I0b <;> walk_at "e") | (apply ei_chainI <;> walk_at "e") | (apply ei_eqI <;> walk_at "e") | (apply ei_eqS <;> walk_at "e") | (refine' ei_tup ?_ (Nat.le_of_ble_eq_true rfl) <;> walk_at "e") | (apply eai_cons <;> walk_at "e") | exact eai_nil)
/-! ### is_small -/
def isSmB (n : Nat) (r p u : Int) : Bool := if u = 1 then decide (0 ≤ r) && decide (r < (n : Int) - 1) && (decide (0 ≤ p) && decide (p < (n : Int) - 1 - r)) else decide (u = 0) && (decide (0 ≤ r) && decide (r < (n : Int) - 2) && (decide (0 ≤ p) && decide (p < (n : Int) - 2 - r)))
def preIsSmall (K : PySem.W.Frag) : List V → Hp → PyData → Prop := fun vs H d => ∃ t n c r p u, vs = [t, .int r, .int p, .int u] ∧ Tri K H t n c ∧ d = .bool (isSmB n r p u)
abbrev s_is_small : Stmt := top 11
theorem sc_is_small : FnScope ["triangle", "row", "place", "up"] ["triangle", "row", "place", "up"] (defScope s_is_small) := ⟨rfl, rfl, rfl, by decide +kernel, rfl, by decide +kernel, by decide +kernel⟩
theorem ok_is_small (D : Def K mg "is_small" s_is_small) (m_len : mg "len" = none) : Callee P w K mg base CX0 1 "is_small" ["triangle", "row", "place", "up"] (PrI K (preIsSmall K)) := by
  refine D.ok sc_is_small (fun _ _ _ _ _ _ us hl => match us, hl with | [_, _, _, _], _ => rfl) (fun vs H Q E h => ?_) (fun f cdv A outer s H vs Q E hr h => ?_)
  · obtain ⟨d, ⟨t, n, c, r, p, u, rfl, _⟩, _⟩ := h; rfl
  · obtain ⟨d, ⟨t, n, c, r, p, u, rfl, hT, rfl⟩, q⟩ := h
    refine ⟨_, (pss_cons (ps_if (pt_cmpR op_eq (pv 3) pe_int (nomark _))
  (pss_cons (ps_ret (pe_and (pe_chain op_le op_lt pe_int (pv 1) (pe_op op_sub (pe_callB (kr_len (K := K) rfl) (by rfl) m_len PySem.boot_len (pa_cons (pv 0) pa_nil)) pe_int)) (pe_one (pe_chain op_le op_lt pe_int (pv 2) (pe_op op_sub (pe_op op_sub (pe_callB (kr_len (K := K) rfl) (by rfl) m_len PySem.boot_len (pa_cons (pv 0) pa_nil)) pe_int) (pv 1))))))
 pss_nil)
  pss_nil)
 (pss_cons (ps_ret (pe_and (pe_cmpR op_eq (pv 3) pe_int (nomark _)) (pe_and (pe_chain op_le op_lt pe_int (pv 1) (pe_op op_sub (pe_callB (kr_len (K := K) rfl) (by rfl) m_len PySem.boot_len (pa_cons (pv 0) pa_nil)) pe_int)) (pe_one (pe_chain op_le op_lt pe_int (pv 2) (pe_op op_sub (pe_op op_sub (pe_callB (kr_len (K := K) rfl) (by rfl) m_len PySem.boot_len (pa_cons (pv 0) pa_nil)) pe_int) (pv 1)))))))
 pss_nil)), ?_⟩
    refine y_when (decide (u = 1)) ?_ ?_ ?_
    · exact et_of K (ei_eqI (by walk_at "e") (by walk_at "e"))
    · intro hb H1 e1
      refine y_retI K (.bool (isSmB n r p u)) (EvX.mono e1 ?_) ?_
      · apply EvI.to
        · apply ei_andV
          · walk_at "e"
          · intro _; walk_at "e"
        · unfold isSmB
          rw [if_pos (of_decide_eq_true hb)]
      · intro v H2 e2 r; exact q v H2 (e1.trans e2) r
    · intro hb H1 e1
      refine y_retI K (.bool (isSmB n r p u)) (EvX.mono e1 ?_) ?_
      · apply EvI.to
        · apply ei_andV
          · walk_at "e"
          · intro _
            apply ei_andV
            · walk_at "e"
            · intro _; walk_at "e"
        · unfold isSmB
          rw [if_neg (of_decide_eq_false hb)]
      · intro v H2 e2 r; exact q v H2 (e1.trans e2) r
/-! ### is_spot -/
def isSpB (n : Nat) (r p : Int) : Bool := decide (0 ≤ r) && decide (r < (n : Int)) && (decide (0 ≤ p) && decide (p < (n : Int) - r))
def preIsSpot (K : PySem.W.Frag) : List V → Hp → PyData → Prop := fun vs H d => ∃ t n c r p, vs = [t, .int r, .int p] ∧ Tri K H t n c ∧ d = .bool (isSpB n r p)
abbrev s_is_spot : Stmt := top 14
theorem sc_is_spot : FnScope ["triangle", "row", "place"] ["triangle", "row", "place"] (defScope s_is_spot) := ⟨rfl, rfl, rfl, by decide +kernel, rfl, by decide +kernel, by decide +kernel⟩
theorem ok_is_spot (D : Def K mg "is_spot" s_is_spot) (m_len : mg "len" = none) : Callee P w K mg base CX0 1 "is_spot" ["triangle", "row", "place"] (PrI K (preIsSpot K)) := by
  refine D.ok sc_is_spot (fun _ _ _ _ _ _ us hl => match us, hl with | [_, _, _], _ => rfl) (fun vs H Q E h => ?_) (fun f cdv A outer s H vs Q E hr h => ?_)
  · obtain ⟨d, ⟨t, n, c, r, p, rfl, _⟩, _⟩ := h; rfl
  · obtain ⟨d, ⟨t, n, c, r, p, rfl, hT, rfl⟩, q⟩ := h
    refine ⟨_, (pss_cons (ps_ret (pe_and (pe_chain op_le op_lt pe_int (pv 1) (pe_callB (kr_len (K := K) rfl) (by rfl) m_len PySem.boot_len (pa_cons (pv 0) pa_nil))) (pe_one (pe_chain op_le op_lt pe_int (pv 2) (pe_op op_sub (pe_callB (kr_len (K := K) rfl) (by rfl) m_len PySem.boot_len (pa_cons (pv 0) pa_nil)) (pv 1))))))
 pss_nil), ?_⟩
    refine y_retI K (.bool (isSpB n r p)) ?_ ?_
    · apply ei_andV
      · walk_at "e"
      · intro _; walk_at "e"
    · intro v H2 e2 r; exact q v H2 e2 r
/-! ### corners -/
def corI (r p u : Int) : List (Int × Int) := if u = 1 then [(r, p), (r, p + 1), (r + 1, p)] else [(r, p + 1), (r + 1, p + 1), (r + 1, p)]
def ip (x : Int × Int) : PyData := pr2 x.1 x.2
def preCorners (K : PySem.W.Frag) : List V → Hp → List PyData → Prop := fun vs H ds => ∃ x r p u, vs = [x] ∧ Im K H x (tri3 r p u) ∧ ds = (corI r p u).map ip
abbrev s_corners : Stmt := top 15
theorem sc_corners : FnScope ["small", "row", "place", "up"] ["small"] (defScope s_corners) := ⟨rfl, rfl, rfl, by decide +kernel, rfl, by decide +kernel, by decide +kernel⟩
theorem ok_corners (D : Def K mg "corners" s_corners) : Callee P w K mg base CX0 1 "corners" ["small"] (PrN K (preCorners K)) := by
  refine D.ok sc_corners (fun _ _ _ _ _ _ us hl => match us, hl with | [_], _ => rfl) (fun vs H Q E h => ?_) (fun f cdv A outer s H vs Q E hr h => ?_)
  · obtain ⟨d, ⟨x, r, p, u, rfl, _⟩, _⟩ := h; rfl
  · obtain ⟨d, ⟨x, r, p, u, rfl, hx, rfl⟩, q⟩ := h
    refine ⟨_, (pss_cons (ps_asg (pv 0) (kg_tup (K := K) (n := 3) rfl rfl (pgs_cons (pg_name (i := 1) sc_corners.nd rfl (.inl rfl)) (pgs_cons (pg_name (i := 2) sc_corners.nd rfl (.inl rfl)) (pgs_cons (pg_name (i := 3) sc_corners.nd rfl (.inl rfl)) pgs_nil)))))
 (pss_cons (ps_if (pt_cmpR op_eq (pv 3) pe_int (nomark _))
  (pss_cons (ps_ret (pe_lst (pa_cons (pe_tup (pa_cons (pv 1) (pa_cons (pv 2) pa_nil))) (pa_cons (pe_tup (pa_cons (pv 1) (pa_cons (pe_op op_add (pv 2) pe_int) pa_nil))) (pa_cons (pe_tup (pa_cons (pe_op op_add (pv 1) pe_int) (pa_cons (pv 2) pa_nil))) pa_nil)))))
 pss_nil)
  pss_nil)
 (pss_cons (ps_ret (pe_lst (pa_cons (pe_tup (pa_cons (pv 1) (pa_cons (pe_op op_add (pv 2) pe_int) pa_nil))) (pa_cons (pe_tup (pa_cons (pe_op op_add (pv 1) pe_int) (pa_cons (pe_op op_add (pv 2) pe_int) pa_nil))) (pa_cons (pe_tup (pa_cons (pe_op op_add (pv 1) pe_int) (pa_cons (pv 2) pa_nil))) pa_nil)))))
 pss_nil))), ?_⟩
    refine y_tup (R := fun v H1 => Im K H1 v (tri3 r p u)) (ei_var rfl hx) ?_
    intro v H1 e1 hv
    refine g_tup3 hv ?_
    intro a b c ha hb hc
    cases ha; cases hb; cases hc
    refine y_when (decide (u = 1)) ?_ ?_ ?_
    · exact et_of K (ei_eqI (by walk_at "e") (by walk_at "e"))
    · intro hb H2 e2
      refine y_retN K ((corI r p u).map ip) ?_ ?_
      · unfold corI
        rw [if_pos (of_decide_eq_true hb)]
        refine en_lst ?_ (Nat.le_of_ble_eq_true rfl)
        walk_at "e"
      · intro l xs H3 hl e3 h1 h2; exact q l xs H3 (fresh_back (e1.trans e2) hl) ((e1.trans e2).trans e3) h1 h2
    · intro hb H2 e2
      refine y_retN K ((corI r p u).map ip) ?_ ?_
      · unfold corI
        rw [if_neg (of_decide_eq_false hb)]
        refine en_lst ?_ (Nat.le_of_ble_eq_true rfl)
        walk_at "e"
      · intro l xs H3 hl e3 h1 h2; exact q l xs H3 (fresh_back (e1.trans e2) hl) ((e1.trans e2).trans e3) h1 h2
/-! ### letters_of, turn_of, step_of -/
def let3 (c : Nat → Nat → Nat) (s : Sm) : Str := st [l1 c s, l2 c s, l3 c s]
def corN (s : Sm) : List Sp2 := [cor s 0, cor s 1, cor s 2]
theorem cor_in {n : Nat} {s : Sm} (h : IsSm n s) : ∀ x ∈ corN s, x.1 + x.2 < n := by
  obtain ⟨r, p, u⟩ := s
  intro x hx
  rcases h with ⟨hu, h⟩ | ⟨hu, h⟩ <;> dsimp only at hu h <;> subst hu <;> simp [corN, cor] at hx <;> rcases hx with rfl | rfl | rfl <;> dsimp only <;> omega
theorem corI_sm {n : Nat} {s : Sm} (h : IsSm n s) : (corI s.1 s.2.1 s.2.2).map ip = (corN s).map spD := by
  obtain ⟨r, p, u⟩ := s
  rcases h with ⟨hu, h⟩ | ⟨hu, h⟩ <;> dsimp only at hu h <;> subst hu <;> simp [corI, corN, cor, ip, spD]
def preLetters (K : PySem.W.Frag) : List V → Hp → PyData → Prop := fun vs H d => ∃ t x n c s, vs = [t, x] ∧ Tri K H t n c ∧ Im K H x (smD s) ∧ IsSm n s ∧ d = .str (let3 c s)
abbrev s_letters_of : Stmt := top 16
theorem sc_letters_of : FnScope ["triangle", "small", "row", "place"] ["triangle", "small"] (defScope s_letters_of) := ⟨rfl, rfl, rfl, by decide +kernel, rfl, by decide +kernel, by decide +kernel⟩
theorem ok_letters_of (D : Def K mg "letters_of" s_letters_of) (c_corners : Callee P w K mg base CX0 1 "corners" ["small"] (PrN K (preCorners K))) : Callee P w K mg base CX0 2 "letters_of" ["triangle", "small"] (PrI K (preLetters K)) := by
  refine D.ok sc_letters_of (fun _ _ _ _ _ _ us hl => match us, hl with | [_, _], _ => rfl) (fun vs H Q E h => ?_) (fun f cdv A outer s H vs Q E hr h => ?_)
  · obtain ⟨d, ⟨t, x, n, c, s, rfl, _⟩, _⟩ := h; rfl
  · obtain ⟨d, ⟨t, x, n, c, z, rfl, hT, hx, hs, rfl⟩, q⟩ := h
    refine ⟨_, (pss_cons (ps_ret (pe_m1 PySem.F.slot_str_join PySem.F.type_str_join (km_join (K := K) rfl) pe_str (pe_lc (own := [("row", 2), ("place", 3)]) rfl sc_letters_of.nd (ki_list (K := K) rfl (pe_callC c_corners (hr.mono (by decide)) (by rfl) (pa_cons (pv 1) pa_nil))) (blkOk_by (N := ["triangle", "small", "row", "place"]) (sc := defScope s_letters_of) (by decide +kernel)) (fun _ _ _ _ _ => (kg_tup (K := K) (n := 2) rfl rfl (pgs_cons (pg_name (i := 2) sc_letters_of.nd rfl (.inl rfl) (.inr rfl)) (pgs_cons (pg_name (i := 3) sc_letters_of.nd rfl (.inl rfl) (.inr rfl)) pgs_nil)))) (fun _ _ _ _ _ => pts_nil) (fun _ _ _ _ _ => (pe_ix ix_str (pe_ix (kx_list (K := K) rfl) (pv 0) (pv 2) (fun _ _ => rfl)) (pv 3) (fun _ _ => rfl))))))
 pss_nil), ?_⟩
    refine y_retI K (.str (let3 c z)) ?_ (fun v H2 e2 r => q v H2 e2 r)
    apply EvI.to
    · apply ei_join (ys := (corN z).map fun x => st [lt2 c x])
      · exact ei_str
      · refine EvN.k (EvN.to (en_lcK (L := corN z) (enc := spD) (fun _ => true) (fun x => .str (st [lt2 c x])) ?_ (by show 3 ≤ 40000; decide) ?_) ?_)
        · refine EvN.k (EvN.to (en_call (ds := (corI z.1 z.2.1 z.2.2).map ip) (eax1 (R1 := fun v H1 => Im K H1 v (smD z)) (ei_var rfl hx)) ?_) (corI_sm hs))
          rintro vs H1 e ⟨x, rfl, h⟩
          exact ⟨x, _, _, _, rfl, h, rfl⟩
        · intro a ha x H1 e hx
          have hT1 := hT.mono e
          obtain ⟨b, xs, rfl, h1, h2⟩ := hx.tup_inv
          cases h2 with
          | cons a1 r => cases r with
            | cons a2 r =>
              cases r; cases a1; cases a2
              refine ⟨_, fun Q q => ⟨b, _, rfl, h1, rfl, _, _, rfl, _, _, rfl, rfl, q⟩, rfl, et_yes, fun _ => ?_⟩
              exact ei_at rfl hT1 (ei_var rfl (.int _)) (ei_var rfl (.int _)) (cor_in hs a ha)
        · rw [List.filter_eq_self.mpr (fun _ _ => rfl), List.map_map]; rfl
      · show (1 + (1 + (1 + 0))) + 3 * 0 ≤ 16777216; decide
    · refine congrArg PyData.str (str_ext ?_)
      have := join_nil ((corN z).map fun x => st [lt2 c x])
      rw [show Txt.join (Str.ofString "") = Txt.join (st []) from rfl, this]
      simp [corN, let3, st_list, lt_cor0, lt_cor1, lt_cor2]
theorem turn_str : ∀ x ∈ L3, ∀ y ∈ L3, ∀ z ∈ L3, (if ([("abc" : Str), "bca", "cab"].any fun q => q == st [x, y, z]) = true then (1 : Int) else if ([("acb" : Str), "cba", "bac"].any fun q => q == st [x, y, z]) = true then -1 else 0) = tn x y z := by decide +kernel
theorem step_str : ∀ x ∈ L3, ∀ y ∈ L3, (if (decide (st [x] ++ st [y] = ("ab" : Str))) = true then (1 : Int) else if (decide (st [x] ++ st [y] = ("ba" : Str))) = true then -1 else 0) = dl x y := by decide +kernel
theorem l1_mem {c : Nat → Nat → Nat} (hc : ∀ r p, DW.ltr (c r p)) (s : Sm) : l1 c s ∈ L3 := ltr_mem (by unfold l1; split <;> exact hc _ _)
theorem l2_mem {c : Nat → Nat → Nat} (hc : ∀ r p, DW.ltr (c r p)) (s : Sm) : l2 c s ∈ L3 := ltr_mem (by unfold l2; split <;> exact hc _ _)
theorem l3_mem {c : Nat → Nat → Nat} (hc : ∀ r p, DW.ltr (c r p)) (s : Sm) : l3 c s ∈ L3 := ltr_mem (hc _ _)
def preTurnOf (K : PySem.W.Frag) : List V → Hp → PyData → Prop := fun vs H d => ∃ t x n c s, vs = [t, x] ∧ Tri K H t n c ∧ Im K H x (smD s) ∧ IsSm n s ∧ d = .int (tnS c s)
abbrev s_turn_of : Stmt := top 17
theorem sc_turn_of : FnScope ["triangle", "small", "letters"] ["triangle", "small"] (defScope s_turn_of) := ⟨rfl, rfl, rfl, by decide +kernel, rfl, by decide +kernel, by decide +kernel⟩
theorem ok_turn_of (D : Def K mg "turn_of" s_turn_of) (c_letters_of : Callee P w K mg base CX0 2 "letters_of" ["triangle", "small"] (PrI K (preLetters K))) : Callee P w K mg base CX0 3 "turn_of" ["triangle", "small"] (PrI K (preTurnOf K)) := by
  refine D.ok sc_turn_of (fun _ _ _ _ _ _ us hl => match us, hl with | [_, _], _ => rfl) (fun vs H Q E h => ?_) (fun f cdv A outer s H vs Q E hr h => ?_)
  · obtain ⟨d, ⟨t, x, n, c, s, rfl, _⟩, _⟩ := h; rfl
  · obtain ⟨d, ⟨t, x, n, c, z, rfl, hT, hx, hs, rfl⟩, q⟩ := h
    refine ⟨_, (pss_cons (ps_set (i := 2) sc_turn_of.nd rfl (.inl rfl) (pe_callC c_letters_of (hr.mono (by decide)) (by rfl) (pa_cons (pv 0) (pa_cons (pv 1) pa_nil))))
 (pss_cons (ps_if (pt_cmpR (ko_in (K := K) rfl) (pv 2) (pe_tup (pa_cons pe_str (pa_cons pe_str (pa_cons pe_str pa_nil)))) rfl)
  (pss_cons (ps_ret pe_int)
 pss_nil)
  pss_nil)
 (pss_cons (ps_ret (pe_ifExp (pt_cmpR (ko_in (K := K) rfl) (pv 2) (pe_tup (pa_cons pe_str (pa_cons pe_str (pa_cons pe_str pa_nil)))) rfl) (pe_un un_neg pe_int) pe_int))
 pss_nil))), ?_⟩
    have key := turn_str _ (l1_mem hT.ltr z) _ (l2_mem hT.ltr z) _ (l3_mem hT.ltr z)
    refine y_asgI K (.str (let3 c z)) ?_ ?_
    · refine ei_call (eax2 (R1 := fun v H1 => Tri K H1 v n c) (R2 := fun v H1 => Im K H1 v (smD z)) (ex_var rfl fun H1 e => hT.mono e) (fun _ _ _ e h => h.mono e) (ei_var rfl hx)) ?_
      rintro vs H1 e ⟨a, b, rfl, h1, h2⟩
      exact ⟨a, b, n, c, z, rfl, h1, h2, hs, rfl⟩
    · intro v H1 e1 hv
      cases hv
      refine y_when ([("abc" : Str), "bca", "cab"].any fun q => q == let3 c z) ?_ ?_ ?_
      · exact et_of K (ei_inST (ys := ["abc", "bca", "cab"]) (by walk_at "e") (by walk_at "e"))
      · intro hb H2 e2
        refine y_retI K (.int 1) ei_int ?_
        intro v H3 e3 r
        refine q v H3 ((e1.trans e2).trans e3) ?_
        rw [show tnS c z = tn (l1 c z) (l2 c z) (l3 c z) from rfl, ← key]
        rw [if_pos (show ([("abc" : Str), "bca", "cab"].any fun q => q == st [l1 c z, l2 c z, l3 c z]) = true from hb)]; exact r
      · intro hb H2 e2
        refine y_retI K (if ([("acb" : Str), "cba", "bac"].any fun q => q == let3 c z) = true then .int (-1) else .int 0) ?_ ?_
        · apply ei_if
          · exact et_of K (ei_inST (ys := ["acb", "cba", "bac"]) (by walk_at "e") (by walk_at "e"))
          · intro _; walk_at "e"
          · intro _; walk_at "e"
        · intro v H3 e3 r
          refine q v H3 ((e1.trans e2).trans e3) ?_
          rw [show tnS c z = tn (l1 c z) (l2 c z) (l3 c z) from rfl, ← key]
          rw [if_neg (by rw [show ([("abc" : Str), "bca", "cab"].any fun q => q == st [l1 c z, l2 c z, l3 c z]) = false from hb]; decide)]
          show Im K H3 v (PyData.int (if ([("acb" : Str), "cba", "bac"].any fun q => q == let3 c z) = true then -1 else 0))
          cases hq : ([("acb" : Str), "cba", "bac"].any fun q => q == let3 c z) <;> rw [hq] at r <;> exact r
def preStepOf (K : PySem.W.Frag) : List V → Hp → PyData → Prop := fun vs H d => ∃ t x y n c a b, vs = [t, x, y] ∧ Tri K H t n c ∧ Im K H x (spD a) ∧ Im K H y (spD b) ∧ a.1 + a.2 < n ∧ b.1 + b.2 < n ∧ d = .int (dl (lt2 c a) (lt2 c b))
abbrev s_step_of : Stmt := top 20
theorem sc_step_of : FnScope ["triangle", "one", "other", "letters"] ["triangle", "one", "other"] (defScope s_step_of) := ⟨rfl, rfl, rfl, by decide +kernel, rfl, by decide +kernel, by decide +kernel⟩
theorem ok_step_of (D : Def K mg "step_of" s_step_of) : Callee P w K mg base CX0 1 "step_of" ["triangle", "one", "other"] (PrI K (preStepOf K)) := by
  refine D.ok sc_step_of (fun _ _ _ _ _ _ us hl => match us, hl with | [_, _, _], _ => rfl) (fun vs H Q E h => ?_) (fun f cdv A outer s H vs Q E hr h => ?_)
  · obtain ⟨d, ⟨t, x, y, n, c, a, b, rfl, _⟩, _⟩ := h; rfl
  · obtain ⟨d, ⟨t, x, y, n, c, a, b, rfl, hT, hx, hy, ha, hb, rfl⟩, q⟩ := h
    refine ⟨_, (pss_cons (ps_set (i := 3) sc_step_of.nd rfl (.inl rfl) (pe_op op_add_str (pe_ix ix_str (pe_ix (kx_list (K := K) rfl) (pv 0) (pe_ix (kx_tup (K := K) rfl) (pv 1) pe_int (fun _ _ => rfl)) (fun _ _ => rfl)) (pe_ix (kx_tup (K := K) rfl) (pv 1) pe_int (fun _ _ => rfl)) (fun _ _ => rfl)) (pe_ix ix_str (pe_ix (kx_list (K := K) rfl) (pv 0) (pe_ix (kx_tup (K := K) rfl) (pv 2) pe_int (fun _ _ => rfl)) (fun _ _ => rfl)) (pe_ix (kx_tup (K := K) rfl) (pv 2) pe_int (fun _ _ => rfl)) (fun _ _ => rfl))))
 (pss_cons (ps_ret (pe_ifExp (pt_cmpR op_eq (pv 3) pe_str (nomark _)) pe_int (pe_ifExp (pt_cmpR op_eq (pv 3) pe_str (nomark _)) (pe_un un_neg pe_int) pe_int)))
 pss_nil)), ?_⟩
    have key := step_str (lt2 c a) (ltr_mem (hT.ltr a.1 a.2)) (lt2 c b) (ltr_mem (hT.ltr b.1 b.2))
    refine y_asgI K (.str (st [lt2 c a] ++ st [lt2 c b])) ?_ ?_
    · refine ei_addS ?_ ?_ (by show 1 + 1 ≤ 100000; decide)
      · exact ei_at rfl hT (ei_ixT (i := 0) (ei_var rfl hx) ei_int rfl) (ei_ixT (i := 1) (ei_var rfl hx) ei_int rfl) ha
      · exact ei_at rfl hT (ei_ixT (i := 0) (ei_var rfl hy) ei_int rfl) (ei_ixT (i := 1) (ei_var rfl hy) ei_int rfl) hb
    · intro v H1 e1 hv
      cases hv
      refine y_retI K (.int (dl (lt2 c a) (lt2 c b))) ?_ (fun v H2 e2 r => q v H2 (e1.trans e2) r)
      apply EvI.to
      · apply ei_if
        · exact et_of K (ei_eqS (by walk_at "e") (by walk_at "e"))
        · intro _; walk_at "e"
        · intro _
          apply ei_if
          · exact et_of K (ei_eqS (by walk_at "e") (by walk_at "e"))
          · intro _; walk_at "e"
          · intro _; walk_at "e"
      · rw [← key]
        generalize decide (st [lt2 c a] ++ st [lt2 c b] = ("ab" : Str)) = p
        generalize decide (st [lt2 c a] ++ st [lt2 c b] = ("ba" : Str)) = q
        cases p <;> cases q <;> rfl
/-! ### asked_triangle: of a triangle nothing is refused -/
def preAskedT (K : PySem.W.Frag) : List V → Hp → PyData → Prop := fun vs H d => ∃ t n c, vs = [t] ∧ Tri K H t n c ∧ d = .none
theorem abc_has {x : Nat} (h : DW.ltr x) : (("abc" : Str).cps.contains x) = true := by
  rcases h with rfl | rfl | rfl <;> decide +kernel
abbrev s_asked_triangle : Stmt := top 10
theorem sc_asked_triangle : FnScope ["triangle", "at", "row"] ["triangle"] (defScope s_asked_triangle) := ⟨rfl, rfl, rfl, by decide +kernel, rfl, by decide +kernel, by decide +kernel⟩
theorem ok_asked_triangle (D : Def K mg "asked_triangle" s_asked_triangle) (hL : ∃ tk, mg "LETTERS" = some (.str "abc" tk)) (m_len : mg "len" = none) (m_isinstance : mg "isinstance" = none) (m_enumerate : mg "enumerate" = none) (m_list : mg "list" = none) (m_str : mg "str" = none) :
    Callee P w K mg base CX0 1 "asked_triangle" ["triangle"] (PrI K (preAskedT K)) := by
  obtain ⟨tk, gLETTERS⟩ := hL
  refine D.ok sc_asked_triangle (fun _ _ _ _ _ _ us hl => match us, hl with | [_], _ => rfl) (fun vs H Q E h => ?_) (fun f cdv A outer s H vs Q E hr h => ?_)
  · obtain ⟨d, ⟨t, n, c, rfl, _⟩, _⟩ := h; rfl
  · obtain ⟨d, ⟨t, n, c, rfl, hT, rfl⟩, q⟩ := h
    refine ⟨_, (pss_cons (ps_if (PW.pt (pw_or (pt_not (pt_val (pe_callB (kr_isi (K := K) rfl) (by rfl) m_isinstance (by decide +kernel) (pa_cons (pv 0) (pa_cons (pe_bltn (v := .ty "list") (by rfl) m_list (by decide +kernel) rfl) pa_nil))))) (pw_or1 (pt_cmpR op_lt (pe_callB (kr_len (K := K) rfl) (by rfl) m_len PySem.boot_len (pa_cons (pv 0) pa_nil)) pe_int (nomark _)))))
  (pss_cons ps_never
 pss_nil)
  pss_nil)
 (pss_cons (ps_for PassesOwn.never rfl (ki_enum (K := K) rfl (by rfl) m_enumerate (pa_cons (pv 0) pa_nil)) (kg_tup (K := K) (n := 2) rfl rfl (pgs_cons (pg_name (i := 1) sc_asked_triangle.nd rfl (.inl rfl)) (pgs_cons (pg_name (i := 2) sc_asked_triangle.nd rfl (.inl rfl)) pgs_nil)))
  (pss_cons (ps_if (PW.pt (pw_or (pt_not (pt_val (pe_callB (kr_isi (K := K) rfl) (by rfl) m_isinstance (by decide +kernel) (pa_cons (pv 2) (pa_cons (pe_bltn (v := .ty "str") (by rfl) m_str (by decide +kernel) rfl) pa_nil))))) (pw_or (pt_cmpR op_ne (pe_callB call_len_str (by rfl) m_len PySem.boot_len (pa_cons (pv 2) pa_nil)) (pe_op op_sub (pe_callB (kr_len (K := K) rfl) (by rfl) m_len PySem.boot_len (pa_cons (pv 0) pa_nil)) (pv 1)) (nomark _)) (pw_or1 (pt_cmpR op_ne (ke_bm (K := K) rfl PySem.F.plainAttrs_str PySem.F.slot_str_strip PySem.F.type_str_strip mt_stripChars (pv 2) (pa_cons (pe_glob (v := .str "abc") (by rfl) gLETTERS ⟨_, rfl⟩) pa_nil)) pe_str (nomark _))))))
  (pss_cons ps_never
 pss_nil)
  pss_nil)
 pss_nil))
 pss_nil)), ?_⟩
    have two := hT.two
    have few := hT.few
    refine y_no ?_ ?_
    · apply et_to
      · apply et_or
        · exact et_not (et_val K (ei_isK (ek_var rfl hT.ls) kit_list))
        · intro _; exact et_of K (by walk_at "e")
      · show (!true || decide ((n : Int) < 2)) = false
        simp; omega
    · intro H1 e1
      refine x_forE (K := K) (enc := PyData.str) (L := triD n c) (src1 (ek_var rfl (hT.mono e1).ls)) ?_
      intro a xs H2 e2 h1 h2
      refine ⟨fun i σ' H' => Ex H2 H' ∧ ∃ y1 y2, σ' = [some t, y1, y2], ⟨Ex.refl _, none, none, rfl⟩, fun i σ' H' _ p => ⟨ex_l p.1 h1, h2.mono p.1⟩, ?_, fun σ' H' p => q .non H' ((e1.trans e2).trans p.1) .non⟩
      intro i z x σ' H' H'' hz p e3 hx
      obtain ⟨p1, y1, y2, rfl⟩ := p
      refine g_tup2 hx ?_
      intro u1 u2 k1 k2
      obtain rfl := k1.intE
      obtain rfl := k2.strE
      have hT3 := hT.mono (((e1.trans e2).trans p1).trans e3)
      have hi : i < n := by
        have := (List.getElem?_eq_some_iff.mp hz).1
        rw [triD_len] at this; exact this
      have ez : z = rowS n c i := by rw [triD_get hi] at hz; exact (Option.some.inj hz).symm
      subst ez
      have len := rowS_len n c i
      refine y_no ?_ ?_
      · apply et_to
        · apply et_or
          · exact et_not (et_val K (ei_isI (ei_var rfl (.str _)) kit_str))
          · intro _
            apply et_or
            · exact et_of K (ei_neI (ei_lenS (ei_var rfl (.str _)) (by omega)) (ei_I0i (et_len rfl hT3) (ei_var rfl (.int _))))
            · intro _
              exact et_of K (ei_neS (ei_strip (ei_var rfl (.str _)) ei_str (by omega)) ei_str)
        · rw [strip_all (fun x hx => ?_)]
          · have : decide (((rowS n c i).length : Int) = (n : Int) - (i : Int)) = true := decide_eq_true (by rw [len]; omega)
            rw [this]; rfl
          · rw [rowS_list] at hx
            obtain ⟨j, _, rfl⟩ := List.mem_map.mp hx
            exact abc_has (hT.ltr _ _)
      · intro H4 e4
        exact ⟨(p1.trans e3).trans e4, _, _, rfl⟩
end
end DWL
namespace DWL
open PySem PySem.Spec PyProof.Rows L2 Evl DW
section
variable {P : Program} {w : World} {K : PySem.W.Frag} {mg : Str → Option Value} {base : Heap}
local macro_rules | `(tactic| walk_at "v") => `(tactic| first | exact ei_int | exact ei_str | exact ei_bl | exact ei_non | exact ei_neg ei_int | exact ei_var rfl (Im.int _) | exact ei_var rfl (Im.str _) | exact ei_var rfl (Im.bl _) | exact ei_var rfl (by assumption) | exact et_len rfl (by assumption))
local macro_rules | `(tactic| walk_at "e") => `(tactic| first | walk_at "v" | (apply ei_I0i <;> walk_at "e") | (apply ei_I0b <;> walk_at "e") | (apply ei_chainI <;> walk_at "e") | (apply ei_eqI <;> walk_at "e") | (apply ei_eqS <;> walk_at "e") | (refine' ei_tup ?_ (Nat.le_of_ble_eq_true rfl) <;> walk_at "e") | (apply eai_cons <;> walk_at "e") | exact eai_nil)
/-! ### is_number, asked_small, asked_spot -/
def isNumD : PyData → Bool
  | .int _ => true
  | _ => false
def preIsNumber (K : PySem.W.Frag) : List V → Hp → PyData → Prop := fun vs H d => ∃ x e, vs = [x] ∧ Im K H x e ∧ d = .bool (isNumD e)
theorem kitsI : ∀ n ∈ ["NoneType", "bool", "int", "str", "tuple"], kitB n "int" = some (n == "bool" || n == "int") ∧ kitB n "bool" = some (n == "bool") := by decide +kernel
abbrev s_is_number : Stmt := top 9
theorem sc_is_number : FnScope ["thing"] ["thing"] (defScope s_is_number) := ⟨rfl, rfl, rfl, by decide +kernel, rfl, by decide +kernel, by decide +kernel⟩
theorem ok_is_number (D : Def K mg "is_number" s_is_number) (m_isinstance : mg "isinstance" = none) (m_int : mg "int" = none) (m_bool : mg "bool" = none) : Callee P w K mg base CX0 1 "is_number" ["thing"] (PrI K (preIsNumber K)) := by
  refine D.ok sc_is_number (fun _ _ _ _ _ _ us hl => match us, hl with | [_], _ => rfl) (fun vs H Q E h => ?_) (fun f cdv A outer s H vs Q E hr h => ?_)
  · obtain ⟨d, ⟨x, e, rfl, _⟩, _⟩ := h; rfl
  · obtain ⟨d, ⟨x, e, rfl, hx, rfl⟩, q⟩ := h
    refine ⟨_, (pss_cons (ps_ret (pe_and (pe_callB (kr_isi (K := K) rfl) (by rfl) m_isinstance (by decide +kernel) (pa_cons (pv 0) (pa_cons (pe_bltn (v := .ty "int") (by rfl) m_int (by decide +kernel) rfl) pa_nil))) (pe_one (pe_not (pe_callB (kr_isi (K := K) rfl) (by rfl) m_isinstance (by decide +kernel) (pa_cons (pv 0) (pa_cons (pe_bltn (v := .ty "bool") (by rfl) m_bool (by decide +kernel) rfl) pa_nil)))))))
 pss_nil), ?_⟩
    have m : tyD e ∈ ["NoneType", "bool", "int", "str", "tuple"] := by cases hx <;> simp [tyD]
    obtain ⟨k1, k2⟩ := kitsI _ m
    refine y_retI K (.bool (isNumD e)) ?_ (fun v H2 e2 r => q v H2 e2 r)
    apply EvI.to
    · apply ei_andV
      · exact ei_isI (ei_var rfl hx) k1
      · intro _; exact ei_notV (ei_isI (ei_var rfl hx) k2)
    · cases hx <;> rfl
def preAskedS (K : PySem.W.Frag) : List V → Hp → PyData → Prop := fun vs H d => ∃ t x n c s, vs = [t, x] ∧ Tri K H t n c ∧ Im K H x (smD s) ∧ IsSm n s ∧ d = .none
theorem isSm_B {n : Nat} {s : Sm} (h : IsSm n s) : isSmB n s.1 s.2.1 s.2.2 = true := by
  obtain ⟨r, p, u⟩ := s
  unfold isSmB
  rcases h with ⟨hu, h⟩ | ⟨hu, h⟩ <;> dsimp only at hu h ⊢ <;> subst hu
  · rw [if_pos (show ((1 : Nat) : Int) = 1 from rfl)]; simp; omega
  · rw [if_neg (show ¬ ((0 : Nat) : Int) = 1 by decide)]; simp; omega
abbrev s_asked_small : Stmt := top 12
theorem sc_asked_small : FnScope ["triangle", "small", "one"] ["triangle", "small"] (defScope s_asked_small) := ⟨rfl, rfl, rfl, by decide +kernel, rfl, by decide +kernel, by decide +kernel⟩
theorem ok_asked_small (D : Def K mg "asked_small" s_asked_small) (c_is_number : Callee P w K mg base CX0 1 "is_number" ["thing"] (PrI K (preIsNumber K))) (c_is_small : Callee P w K mg base CX0 1 "is_small" ["triangle", "row", "place", "up"] (PrI K (preIsSmall K)))
    (m_len : mg "len" = none) (m_isinstance : mg "isinstance" = none) (m_tuple : mg "tuple" = none) (m_all : mg "all" = none) :
    Callee P w K mg base CX0 2 "asked_small" ["triangle", "small"] (PrI K (preAskedS K)) := by
  refine D.ok sc_asked_small (fun _ _ _ _ _ _ us hl => match us, hl with | [_, _], _ => rfl) (fun vs H Q E h => ?_) (fun f cdv A outer s H vs Q E hr h => ?_)
  · obtain ⟨d, ⟨t, x, n, c, s, rfl, _⟩, _⟩ := h; rfl
  · obtain ⟨d, ⟨t, x, n, c, z, rfl, hT, hx, hs, rfl⟩, q⟩ := h
    refine ⟨_, (pss_cons (ps_if (PW.pt (pw_or (pt_not (pt_val (pe_callB (kr_isi (K := K) rfl) (by rfl) m_isinstance (by decide +kernel) (pa_cons (pv 1) (pa_cons (pe_bltn (v := .ty "tuple") (by rfl) m_tuple (by decide +kernel) rfl) pa_nil))))) (pw_or (pt_cmpR op_ne (pe_callB (kr_len (K := K) rfl) (by rfl) m_len PySem.boot_len (pa_cons (pv 1) pa_nil)) pe_int (nomark _)) (pw_or1 (pt_not (pt_val (pe_callB (kr_all (K := K) rfl rfl) (by rfl) m_all (by decide +kernel) (pa_cons (pe_lc (own := [("one", 2)]) rfl sc_asked_small.nd (ki_tup (K := K) rfl (pv 1)) (blkOk_by (N := ["triangle", "small", "one"]) (sc := defScope s_asked_small) (by decide +kernel)) (fun _ _ _ _ _ => (pg_name (i := 2) sc_asked_small.nd rfl (.inl rfl) (.inr rfl))) (fun _ _ _ _ _ => pts_nil) (fun _ _ _ _ _ => (pe_callC c_is_number (hr.mono (by decide)) (by rfl) (pa_cons (pv 2) pa_nil)))) pa_nil))))))))
  (pss_cons ps_never
 pss_nil)
  pss_nil)
 (pss_cons (ps_if (pt_not (pt_val (pe_callC c_is_small (hr.mono (by decide)) (by rfl) (pa_cons (pv 0) (pa_cons (pe_ix (kx_tup (K := K) rfl) (pv 1) pe_int (fun _ _ => rfl)) (pa_cons (pe_ix (kx_tup (K := K) rfl) (pv 1) pe_int (fun _ _ => rfl)) (pa_cons (pe_ix (kx_tup (K := K) rfl) (pv 1) pe_int (fun _ _ => rfl)) pa_nil)))))))
  (pss_cons ps_never
 pss_nil)
  pss_nil)
 pss_nil)), ?_⟩
    refine y_no ?_ ?_
    · apply et_to
      · apply et_or
        · exact et_not (et_val K (ei_isI (ei_var rfl hx) kit_tuple))
        · intro _
          apply et_or
          · exact et_of K (ei_neI (ei_lenT (ei_var rfl hx)) ei_int)
          · intro _
            refine et_not (et_val K (ei_all (bs := [true, true, true]) (EvN.k (EvN.to (en_lcT (L := [(z.1 : Int), z.2.1, z.2.2]) (enc := PyData.int) (fun _ => true) (fun _ => .bool true) (ei_var rfl hx) (by show 3 ≤ 40000; decide) ?_) rfl))))
            intro a _ y H1 e hy
            refine ⟨_, fun Q q => q, rfl, et_yes, fun _ => ?_⟩
            refine ei_call (eax1 (R1 := fun v H1 => Im K H1 v (.int a)) (ei_var rfl hy)) ?_
            rintro vs H2 e2 ⟨b, rfl, h⟩
            exact ⟨b, _, rfl, h, rfl⟩
      · rfl
    · intro H1 e1
      refine y_no ?_ (fun H2 e2 => q .non H2 (e1.trans e2) .non)
      refine et_to (et_not (et_val K (b := true) ?_)) rfl
      refine ei_call (eax4 (R1 := fun v H1 => Tri K H1 v n c) (R2 := fun v H1 => Im K H1 v (.int z.1)) (R3 := fun v H1 => Im K H1 v (.int z.2.1)) (R4 := fun v H1 => Im K H1 v (.int z.2.2)) (ex_var rfl fun H1 e => (hT.mono e1).mono e) (fun _ _ _ e h => h.mono e)
        (ei_ixT (i := 0) (ei_var rfl (hx.mono e1)) ei_int rfl) mI (ei_ixT (i := 1) (ei_var rfl (hx.mono e1)) ei_int rfl) mI (ei_ixT (i := 2) (ei_var rfl (hx.mono e1)) ei_int rfl)) ?_
      rintro vs H2 e2 ⟨a, b, c', d, rfl, h1, h2, h3, h4⟩
      cases h2; cases h3; cases h4
      exact ⟨a, n, c, _, _, _, rfl, h1, by rw [isSm_B hs]⟩
def preAskedSp (K : PySem.W.Frag) : List V → Hp → PyData → Prop := fun vs H d => ∃ t n c, ∃ r p : Nat, vs = [t, .int r, .int p] ∧ Tri K H t n c ∧ r + p < n ∧ d = .none
abbrev s_asked_spot : Stmt := top 13
theorem sc_asked_spot : FnScope ["triangle", "row", "place"] ["triangle", "row", "place"] (defScope s_asked_spot) := ⟨rfl, rfl, rfl, by decide +kernel, rfl, by decide +kernel, by decide +kernel⟩
theorem ok_asked_spot (D : Def K mg "asked_spot" s_asked_spot) (c_is_number : Callee P w K mg base CX0 1 "is_number" ["thing"] (PrI K (preIsNumber K))) (c_is_spot : Callee P w K mg base CX0 1 "is_spot" ["triangle", "row", "place"] (PrI K (preIsSpot K))) :
    Callee P w K mg base CX0 2 "asked_spot" ["triangle", "row", "place"] (PrI K (preAskedSp K)) := by
  refine D.ok sc_asked_spot (fun _ _ _ _ _ _ us hl => match us, hl with | [_, _, _], _ => rfl) (fun vs H Q E h => ?_) (fun f cdv A outer s H vs Q E hr h => ?_)
  · obtain ⟨d, ⟨t, n, c, r, p, rfl, _⟩, _⟩ := h; rfl
  · obtain ⟨d, ⟨t, n, c, r, p, rfl, hT, hs, rfl⟩, q⟩ := h
    refine ⟨_, (pss_cons (ps_if (PW.pt (pw_or (pt_not (pt_val (pe_callC c_is_number (hr.mono (by decide)) (by rfl) (pa_cons (pv 1) pa_nil)))) (pw_or (pt_not (pt_val (pe_callC c_is_number (hr.mono (by decide)) (by rfl) (pa_cons (pv 2) pa_nil)))) (pw_or1 (pt_not (pt_val (pe_callC c_is_spot (hr.mono (by decide)) (by rfl) (pa_cons (pv 0) (pa_cons (pv 1) (pa_cons (pv 2) pa_nil))))))))))
  (pss_cons ps_never
 pss_nil)
  pss_nil)
 pss_nil), ?_⟩
    have num : ∀ {i : Nat} {k : Int}, (start ["triangle", "row", "place"] [t, .int r, .int p])[i]? = some (some (.int k)) → EvI K (tCall (PrI K (preIsNumber K)) [] E0 (tCons (tVar i) tNil)) (start ["triangle", "row", "place"] [t, .int r, .int p]) H (.bool true) := fun {i k} hi => by
      refine ei_call (eax1 (R1 := fun v H1 => Im K H1 v (.int k)) (ei_var hi (.int _))) ?_
      rintro vs H2 e2 ⟨b, rfl, h⟩
      exact ⟨b, _, rfl, h, rfl⟩
    refine y_no ?_ (fun H2 e2 => q .non H2 e2 .non)
    apply et_to
    · apply et_or
      · exact et_not (et_val K (num rfl))
      · intro _
        apply et_or
        · exact et_not (et_val K (num rfl))
        · intro _
          refine et_not (et_val K (b := isSpB n r p) ?_)
          refine ei_call (eax3 (R1 := fun v H1 => Tri K H1 v n c) (R2 := fun v H1 => Im K H1 v (.int r)) (R3 := fun v H1 => Im K H1 v (.int p)) (ex_var rfl fun H1 e => hT.mono e) (fun _ _ _ e h => h.mono e) (ei_var rfl (.int _)) mI (ei_var rfl (.int _))) ?_
          rintro vs H2 e2 ⟨a, b, c', rfl, h1, h2, h3⟩
          cases h2; cases h3
          exact ⟨a, n, c, _, _, rfl, h1, rfl⟩
    · have : isSpB n r p = true := by unfold isSpB; simp; omega
      rw [this]; rfl
end
end DWL
namespace DWL
open PySem PySem.Spec PyProof.Rows L2 Evl DW
section
variable {P : Program} {w : World} {K : PySem.W.Frag} {mg : Str → Option Value} {base : Heap}
local macro_rules | `(tactic| walk_at "v") => `(tactic| first | exact ei_int | exact ei_str | exact ei_bl | exact ei_non | exact ei_neg ei_int | exact ei_var rfl (Im.int _) | exact ei_var rfl (Im.str _) | exact ei_var rfl (Im.bl _) | exact ei_var rfl (by assumption) | exact et_len rfl (by assumption))
local macro_rules | `(tactic| walk_at "e") => `(tactic| first | walk_at "v" | (apply ei_I0i <;> walk_at "e") | (apply ei_I0b <;> walk_at "e") | (apply ei_chainI <;> walk_at "e") | (apply ei_eqI <;> walk_at "e") | (apply ei_eqS <;> walk_at "e") | (refine' ei_tup ?_ (Nat.le_of_ble_eq_true rfl) <;> walk_at "e") | (apply eai_cons <;> walk_at "e") | exact eai_nil)
/-! ### smalls -/
theorem flat_len {α : Type} (f : Nat → List α) (m : Nat) : ∀ n, (∀ i, i < n → (f i).length ≤ m) → ((List.range n).flatMap f).length ≤ n * m
  | 0, _ => by simp
  | n + 1, h => by
    rw [List.range_succ, List.flatMap_append, List.length_append]
    have h1 := flat_len f m n fun i hi => h i (by omega)
    have h2 := h n (by omega)
    rw [Nat.add_mul]
    simp only [List.flatMap_cons, List.flatMap_nil, List.append_nil, Nat.one_mul]
    omega
theorem flat_snoc {α : Type} (f : Nat → List α) (n : Nat) : (List.range (n + 1)).flatMap f = (List.range n).flatMap f ++ f n := by
  rw [List.range_succ, List.flatMap_append]; simp
def kI (s : Sm) : Tr3.I3 := (s.1, s.2.1, s.2.2)
def kB (k : Tr3.I3) : Sm := (k.1.toNat, k.2.1.toNat, k.2.2.toNat)
theorem kB_kI (s : Sm) : kB (kI s) = s := by obtain ⟨r, p, u⟩ := s; simp [kB, kI]
theorem smD_tr (s : Sm) : smD s = trD (kI s) := rfl
theorem smalls_sorted (n : Nat) (l : List Tr3.I3) (h1 : l.Pairwise (fun x y => Tr3.before y x = false)) (h2 : l.Perm ((smalls0 n).map kI)) : l = (smalls n).map kI := by
  have e : l = (l.map kB).map kI := by
    rw [List.map_map]
    conv => lhs; rw [← List.map_id l]
    refine List.map_congr_left fun k hk => ?_
    obtain ⟨s, _, rfl⟩ := List.mem_map.mp (h2.mem_iff.mp hk)
    show kI s = kI (kB (kI s))
    rw [kB_kI]
  have p : (l.map kB).Perm (smalls n) := by
    have := h2.map kB
    rw [List.map_map, show (kB ∘ kI) = id from funext kB_kI, List.map_id] at this
    exact this.trans (smalls_perm n)
  have s : (l.map kB).Pairwise (fun x y => ¬ ltS y x) := by
    refine List.pairwise_map.mpr (h1.imp_of_mem fun {x y} hx hy h => ?_)
    obtain ⟨a, _, rfl⟩ := List.mem_map.mp (h2.mem_iff.mp hx)
    obtain ⟨b, _, rfl⟩ := List.mem_map.mp (h2.mem_iff.mp hy)
    rw [kB_kI, kB_kI]
    have := of_decide_eq_false h
    unfold ltS
    unfold kI at this
    dsimp only at this
    omega
  rw [e, rise_uniq p (smalls_rising n) s]
def preTri (K : PySem.W.Frag) (f : Nat → (Nat → Nat → Nat) → PyData) : List V → Hp → PyData → Prop := fun vs H d => ∃ t n c, vs = [t] ∧ Tri K H t n c ∧ d = f n c
def preTriN (K : PySem.W.Frag) (f : Nat → (Nat → Nat → Nat) → List PyData) : List V → Hp → List PyData → Prop := fun vs H ds => ∃ t n c, vs = [t] ∧ Tri K H t n c ∧ ds = f n c
abbrev spSmalls (K : PySem.W.Frag) : Sp := PrN K (preTriN K fun n _ => (smalls n).map smD)
abbrev s_smalls : Stmt := top 18
theorem sc_smalls : FnScope ["triangle", "found", "row", "place"] ["triangle"] (defScope s_smalls) := ⟨rfl, rfl, rfl, by decide +kernel, rfl, by decide +kernel, by decide +kernel⟩
theorem ok_smalls (D : Def K mg "smalls" s_smalls) (c_is_small : Callee P w K mg base CX0 1 "is_small" ["triangle", "row", "place", "up"] (PrI K (preIsSmall K))) (m_len : mg "len" = none) (m_range : mg "range" = none) (m_sorted : mg "sorted" = none) :
    Callee P w K mg base CX0 2 "smalls" ["triangle"] (spSmalls K) := by
  refine D.ok sc_smalls (fun _ _ _ _ _ _ us hl => match us, hl with | [_], _ => rfl) (fun vs H Q E h => ?_) (fun f cdv A outer s H vs Q E hr h => ?_)
  · obtain ⟨d, ⟨t, n, c, rfl, _⟩, _⟩ := h; rfl
  · obtain ⟨d, ⟨t, n, c, rfl, hT, rfl⟩, q⟩ := h
    refine ⟨_, (pss_cons (ps_set (i := 1) sc_smalls.nd rfl (.inl rfl) (pe_lst pa_nil))
 (pss_cons (ps_for PassesOwn.never rfl (pi_range1 (by rfl) m_range (pa_cons (pe_op op_sub (pe_callB (kr_len (K := K) rfl) (by rfl) m_len PySem.boot_len (pa_cons (pv 0) pa_nil)) pe_int) pa_nil)) (pg_name (i := 2) sc_smalls.nd rfl (.inl rfl))
  (pss_cons (ps_for PassesOwn.never rfl (pi_range1 (by rfl) m_range (pa_cons (pe_op op_sub (pe_op op_sub (pe_callB (kr_len (K := K) rfl) (by rfl) m_len PySem.boot_len (pa_cons (pv 0) pa_nil)) pe_int) (pv 2)) pa_nil)) (pg_name (i := 3) sc_smalls.nd rfl (.inl rfl))
  (pss_cons (ps_expr (ke_bm (K := K) rfl PySem.F.plainAttrs_list PySem.F.slot_list_append PySem.F.type_list_append mt_append (pv 1) (pa_cons (pe_tup (pa_cons (pv 2) (pa_cons (pv 3) (pa_cons pe_int pa_nil)))) pa_nil)))
 (pss_cons (ps_if (pt_val (pe_callC c_is_small (hr.mono (by decide)) (by rfl) (pa_cons (pv 0) (pa_cons (pv 2) (pa_cons (pv 3) (pa_cons pe_int pa_nil))))))
  (pss_cons (ps_expr (ke_bm (K := K) rfl PySem.F.plainAttrs_list PySem.F.slot_list_append PySem.F.type_list_append mt_append (pv 1) (pa_cons (pe_tup (pa_cons (pv 2) (pa_cons (pv 3) (pa_cons pe_int pa_nil)))) pa_nil)))
 pss_nil)
  pss_nil)
 pss_nil)))
 pss_nil))
 (pss_cons (ps_ret (pe_callB (kr_sorted3 (K := K) rfl) (by rfl) m_sorted (by decide +kernel) (pa_cons (pv 1) pa_nil)))
 pss_nil))), ?_⟩
    have two := hT.two
    have few := hT.few
    refine y_asgG K [] (en_lst eai_nil (Nat.zero_le _)) ?_
    intro l H1 g1
    have w1 : EvAI K (tCons (tOp (rI0 fun i j => V.int (i - j)) (tCB (rLenS K) (tCons (tVar 0) tNil)) (tC (V.int 1))) tNil) ((start ["triangle", "found", "row", "place"] [t]).set 1 (some (V.ref l))) H1 [.int ((n : Int) - 1)] := eai_cons (ei_I0i (et_len rfl (hT.mono g1.ex)) ei_int) eai_nil
    refine x_forR w1 (by omega) (fun i σ' H' => (∃ y2 y3, σ' = [some t, some (.ref l), y2, y3]) ∧ Grow K H H' l (((List.range i).flatMap (rowSm0 n)).map smD)) (fun H2 e2 => ⟨⟨none, none, rfl⟩, g1.go e2⟩) ?_ ?_
    · rintro r σ1 H2 hr' ⟨⟨y2, y3, rfl⟩, g2⟩
      have w2 : EvAI K (tCons (tOp (rI0 fun i j => V.int (i - j)) (tOp (rI0 fun i j => V.int (i - j)) (tCB (rLenS K) (tCons (tVar 0) tNil)) (tC (V.int 1))) (tVar 2)) tNil) ([some t, some (.ref l), some (.int (r : Int)), y3]) H2 [.int ((n : Int) - 1 - (r : Int))] := eai_cons (ei_I0i (ei_I0i (et_len rfl (hT.mono g2.ex)) ei_int) (ei_var rfl (.int _))) eai_nil
      refine x_forR w2 (by omega) (fun j σ' H' => (∃ y3, σ' = [some t, some (.ref l), some (.int (r : Int)), y3]) ∧ Grow K H H' l (((List.range r).flatMap (rowSm0 n) ++ (List.range j).flatMap fun p => if p + 1 < n - 1 - r then [(r, p, 1), (r, p, 0)] else [(r, p, 1)]).map smD)) (fun H3 e3 => ⟨⟨y3, rfl⟩, by simpa using g2.go e3⟩) ?_ ?_
      · rintro p σ2 H3 hp ⟨⟨y4, rfl⟩, g3⟩
        have hT3 := hT.mono g3.ex
        have lenA : ((List.range r).flatMap (rowSm0 n)).length ≤ r * 120 := flat_len _ 120 _ fun i _ => by
          have : (rowSm0 n i).length ≤ (n - 1 - i) * 2 := flat_len _ 2 _ fun j _ => by split <;> simp
          omega
        have lenB : ((List.range p).flatMap fun p => if p + 1 < n - 1 - r then [(r, p, 1), (r, p, 0)] else [(r, p, 1)]).length ≤ p * 2 := flat_len _ 2 _ fun j _ => by split <;> simp
        refine x_appQ (d := smD (r, p, 1)) g3 (evv_var rfl) (by walk_at "e") (by simp only [List.length_map, List.length_append]; omega) ?_
        intro H4 g4 _
        have hT4 := hT.mono g4.ex
        refine y_when (isSmB n r p 0) ?_ ?_ ?_
        · refine et_val K ?_
          refine ei_call (eax4 (R1 := fun v H1 => Tri K H1 v n c) (R2 := fun v H1 => Im K H1 v (.int r)) (R3 := fun v H1 => Im K H1 v (.int p)) (R4 := fun v H1 => Im K H1 v (.int 0)) (ex_var rfl fun H1 e => hT4.mono e) (fun _ _ _ e h => h.mono e)
            (ei_var rfl (.int _)) mI (ei_var rfl (.int _)) mI ei_int) ?_
          rintro vs H2 e2 ⟨a, b, c', d, rfl, h1, h2, h3, h4⟩
          cases h2; cases h3; cases h4
          exact ⟨a, n, c, _, _, _, rfl, h1, rfl⟩
        · intro hb H5 e5
          have g5 := g4.go e5
          have hb' : p + 1 < n - 1 - r := by
            unfold isSmB at hb
            rw [if_neg (by decide)] at hb
            simp at hb; omega
          refine x_appQ (d := smD (r, p, 0)) g5 (evv_var rfl) (by walk_at "e") (by simp only [List.length_map, List.length_append, List.length_cons, List.length_nil]; omega) ?_
          intro H6 g6 _
          refine ⟨⟨_, rfl⟩, ?_⟩
          rw [flat_snoc, if_pos hb']
          simpa using g6
        · intro hb H5 e5
          have hb' : ¬ p + 1 < n - 1 - r := by
            unfold isSmB at hb
            rw [if_neg (by decide)] at hb
            simp at hb; omega
          refine ⟨⟨_, rfl⟩, ?_⟩
          rw [flat_snoc, if_neg hb']
          simpa using g4.go e5
      · rintro σ2 H3 ⟨⟨y4, rfl⟩, g3⟩
        refine ⟨⟨_, _, rfl⟩, ?_⟩
        rw [flat_snoc]
        have : ((n : Int) - 1 - (r : Int)).toNat = n - 1 - r := by omega
        rw [this] at g3
        exact g3
    · rintro σ1 H2 ⟨⟨y2, y3, rfl⟩, g2⟩
      have e : ((n : Int) - 1).toNat = n - 1 := by omega
      rw [e] at g2
      refine y_retN K ((smalls n).map smD) ?_ (fun p xs H3 hp e3 h1 h2 => q p xs H3 (fresh_back g2.ex hp) (g2.ex.trans e3) h1 h2)
      refine EvN.to (en_sorted3 ((smalls n).map kI) (ks := (smalls0 n).map kI) ?_ (fun l' => smalls_sorted n l')) (by rw [List.map_map]; rfl)
      refine ek_var rfl ?_
      rw [List.map_map]
      exact g2.ls.ls
/-! ### side -/
abbrev spSide (K : PySem.W.Frag) : Sp := PrN K (preTriN K fun n _ => (sideSp n).map spD)
abbrev s_side : Stmt := top 19
theorem sc_side : FnScope ["triangle", "last", "found", "place", "row"] ["triangle"] (defScope s_side) := ⟨rfl, rfl, rfl, by decide +kernel, rfl, by decide +kernel, by decide +kernel⟩
theorem ok_side (D : Def K mg "side" s_side) (m_len : mg "len" = none) (m_range : mg "range" = none) : Callee P w K mg base CX0 1 "side" ["triangle"] (spSide K) := by
  refine D.ok sc_side (fun _ _ _ _ _ _ us hl => match us, hl with | [_], _ => rfl) (fun vs H Q E h => ?_) (fun f cdv A outer s H vs Q E hr h => ?_)
  · obtain ⟨d, ⟨t, n, c, rfl, _⟩, _⟩ := h; rfl
  · obtain ⟨d, ⟨t, n, c, rfl, hT, rfl⟩, q⟩ := h
    refine ⟨_, (pss_cons (ps_set (i := 1) sc_side.nd rfl (.inr rfl) (pe_op op_sub (pe_callB (kr_len (K := K) rfl) (by rfl) m_len PySem.boot_len (pa_cons (pv 0) pa_nil)) pe_int))
 (pss_cons (ps_setLc (i := 2) (own := [("place", 3)]) rfl sc_side.nd rfl rfl (sw_true rfl rfl rfl (by decide +kernel)) (pi_range1 (by rfl) m_range (pa_cons (pv 1) pa_nil)) (blkOk_by (N := ["triangle", "last", "found", "place", "row"]) (sc := defScope s_side) (by decide +kernel)) (fun _ _ _ _ _ => (pg_name (i := 3) sc_side.nd rfl (.inl rfl) (.inr rfl))) (fun _ _ _ _ _ => pts_nil) (fun _ _ _ _ _ => (pe_tup (pa_cons pe_int (pa_cons (pv 3) pa_nil)))))
 (pss_cons (ps_set (i := 2) sc_side.nd rfl (.inl rfl) (pe_op op_cat (pv 2) (pe_lc (own := [("row", 4)]) rfl sc_side.nd (pi_range1 (by rfl) m_range (pa_cons (pv 1) pa_nil)) (blkOk_by (N := ["triangle", "last", "found", "place", "row"]) (sc := defScope s_side) (by decide +kernel)) (fun _ _ _ _ _ => (pg_name (i := 4) sc_side.nd rfl (.inl rfl) (.inr rfl))) (fun _ _ _ _ _ => pts_nil) (fun _ _ _ _ _ => (pe_tup (pa_cons (pv 4) (pa_cons (pe_op op_sub (pv 1) (pv 4)) pa_nil)))))))
 (pss_cons (ps_ret (pe_op op_cat (pv 2) (pe_lc (own := [("row", 4)]) rfl sc_side.nd (pi_range3 (by rfl) m_range (pa_cons (pv 1) (pa_cons (pe_un un_neg pe_int) (pa_cons (pe_un un_neg pe_int) pa_nil)))) (blkOk_by (N := ["triangle", "last", "found", "place", "row"]) (sc := defScope s_side) (by decide +kernel)) (fun _ _ _ _ _ => (pg_name (i := 4) sc_side.nd rfl (.inl rfl) (.inr rfl))) (fun _ _ _ _ _ => pts_nil) (fun _ _ _ _ _ => (pe_tup (pa_cons (pv 4) (pa_cons pe_int pa_nil)))))))
 pss_nil)))), ?_⟩
    have two := hT.two
    have few := hT.few
    have en : ((n : Int) - 1).toNat = n - 1 := by omega
    refine y_asgI K (.int ((n : Int) - 1)) (by walk_at "e") ?_
    intro v H1 e1 hv
    obtain rfl := hv.intE
    refine y_asgN K ((((List.range (n - 1)).map fun p => ((0, p) : Sp2))).map spD) ?_ ?_
    · refine EvN.to (en_lcR (n := (n : Int) - 1) (fun _ => true) (fun p => spD (0, p)) (by walk_at "e") (by omega) ?_ (by omega)) (by rw [List.filter_eq_self.mpr (fun _ _ => rfl), en, List.map_map]; rfl)
      intro i hi H2 e2
      refine ⟨_, fun Q q => q, rfl, et_yes, fun _ => by walk_at "e"⟩
    · intro p xs H2 hp e2 g1 g2
      refine y_asgN K ((((List.range (n - 1)).map fun p => ((0, p) : Sp2)) ++ ((List.range (n - 1)).map fun r => ((r, n - 1 - r) : Sp2))).map spD) ?_ ?_
      · rw [List.map_append]
        refine en_cat (em_var rfl ⟨_, _, rfl, g1, g2⟩) (EvN.m ?_) (by simp; omega)
        refine EvN.to (en_lcR (n := (n : Int) - 1) (fun _ => true) (fun r => pr2 r ((n : Int) - 1 - (r : Int))) (by walk_at "e") (by omega) ?_ (by omega)) ?_
        · intro i hi H2 e2
          refine ⟨_, fun Q q => q, rfl, et_yes, fun _ => by walk_at "e"⟩
        · rw [List.filter_eq_self.mpr (fun _ _ => rfl), en, List.map_map]
          refine List.map_congr_left fun r hr => ?_
          have := List.mem_range.mp hr
          show pr2 r ((n : Int) - 1 - (r : Int)) = pr2 (r : Nat) ((n - 1 - r : Nat) : Int)
          congr 1; omega
      · intro p2 xs2 H3 hp2 e3 g3 g4
        refine y_retN K ((sideSp n).map spD) ?_ (fun p xs H4 hp e4 h1 h2 => q p xs H4 (fresh_back (e1.trans (e2.trans e3)) hp) ((e1.trans (e2.trans e3)).trans e4) h1 h2)
        have : sideSp n = (((List.range (n - 1)).map fun p => ((0, p) : Sp2)) ++ ((List.range (n - 1)).map fun r => ((r, n - 1 - r) : Sp2))) ++ (List.range n).map (fun r => ((n - 1 - r, 0) : Sp2)) := rfl
        rw [this, List.map_append]
        refine en_cat (em_var rfl ⟨_, _, rfl, g3, g4⟩) (EvN.m ?_) (by simp; omega)
        refine EvN.to (en_lcDown (a := (n : Int) - 1) (b := -1) (fun _ => true) (fun r => pr2 ((n : Int) - 1 - (r : Int)) 0) (by walk_at "e") (by omega) ?_) ?_
        · intro i hi H2 e2
          refine ⟨_, fun Q q => q, rfl, et_yes, fun _ => by walk_at "e"⟩
        · rw [List.filter_eq_self.mpr (fun _ _ => rfl), show ((n : Int) - 1 - -1).toNat = n by omega, List.map_map]
          refine List.map_congr_left fun r hr => ?_
          have := List.mem_range.mp hr
          show pr2 ((n : Int) - 1 - (r : Int)) 0 = pr2 ((n - 1 - r : Nat) : Int) ((0 : Nat) : Int)
          congr 1; omega
end
end DWL
namespace DWL
open PySem PySem.Spec PyProof.Rows L2 Evl DW
section
variable {P : Program} {w : World} {K : PySem.W.Frag} {mg : Str → Option Value} {base : Heap}
local macro_rules | `(tactic| walk_at "v") => `(tactic| first | exact ei_int | exact ei_str | exact ei_bl | exact ei_non | exact ei_neg ei_int | exact ei_var rfl (Im.int _) | exact ei_var rfl (Im.str _) | exact ei_var rfl (Im.bl _) | exact ei_var rfl (by assumption) | exact et_len rfl (by assumption))
local macro_rules | `(tactic| walk_at "e") => `(tactic| first | walk_at "v" | (apply ei_I0i <;> walk_at "e") | (apply ei_I0b <;> walk_at "e") | (apply ei_chainI <;> walk_at "e") | (apply ei_eqI <;> walk_at "e") | (apply ei_eqS <;> walk_at "e") | (refine' ei_tup ?_ (Nat.le_of_ble_eq_true rfl) <;> walk_at "e") | (apply eai_cons <;> walk_at "e") | exact eai_nil)
abbrev spAskedT (K : PySem.W.Frag) : Sp := PrI K (preAskedT K)
abbrev spFulls (K : PySem.W.Frag) : Sp := PrN K (preTriN K fun n c => (fulls n c).map smD)
theorem drop_asked {t : V} {σ : L2.St} {H : Hp} {n : Nat} {c : Nat → Nat → Nat} {D : Ends} {tz : TS} {i : Nat} (ht : σ[i]? = some (some t)) (hT : Tri K H t n c) (k : ∀ H1, Ex H H1 → tz D σ H1) : tSeq (tDrop (tCall (spAskedT K) [] E0 (tCons (tVar i) tNil))) tz D σ H := by
  refine y_dropI K .none ?_ (fun v H1 e _ => k H1 e)
  refine ei_call (eax1 (R1 := fun v H1 => Tri K H1 v n c) (ex_var ht fun H1 e => hT.mono e)) ?_
  rintro vs H2 e2 ⟨b, rfl, h⟩
  exact ⟨b, n, c, rfl, h, rfl⟩
theorem ev_turn {t x : V} {σ : L2.St} {H : Hp} {n : Nat} {c : Nat → Nat → Nat} {s : Sm} {i j : Nat} (ht : σ[i]? = some (some t)) (hT : Tri K H t n c) (hx : σ[j]? = some (some x)) (hs : Im K H x (smD s)) (h : IsSm n s) :
    EvI K (tCall (PrI K (preTurnOf K)) [] E0 (tCons (tVar i) (tCons (tVar j) tNil))) σ H (.int (tnS c s)) := by
  refine ei_call (eax2 (R1 := fun v H1 => Tri K H1 v n c) (R2 := fun v H1 => Im K H1 v (smD s)) (ex_var ht fun H1 e => hT.mono e) (fun _ _ _ e h => h.mono e) (ei_var hx hs)) ?_
  rintro vs H1 e ⟨a, b, rfl, h1, h2⟩
  exact ⟨a, b, n, c, s, rfl, h1, h2, h, rfl⟩
abbrev s_fulls : Stmt := top 21
theorem sc_fulls : FnScope ["triangle", "small"] ["triangle"] (defScope s_fulls) := ⟨rfl, rfl, rfl, by decide +kernel, rfl, by decide +kernel, by decide +kernel⟩
theorem ok_fulls (D : Def K mg "fulls" s_fulls) (c_asked_triangle : Callee P w K mg base CX0 1 "asked_triangle" ["triangle"] (spAskedT K)) (c_smalls : Callee P w K mg base CX0 2 "smalls" ["triangle"] (spSmalls K)) (c_turn_of : Callee P w K mg base CX0 3 "turn_of" ["triangle", "small"] (PrI K (preTurnOf K))) :
    Callee P w K mg base CX0 4 "fulls" ["triangle"] (spFulls K) := by
  refine D.ok sc_fulls (fun _ _ _ _ _ _ us hl => match us, hl with | [_], _ => rfl) (fun vs H Q E h => ?_) (fun f cdv A outer s H vs Q E hr h => ?_)
  · obtain ⟨d, ⟨t, n, c, rfl, _⟩, _⟩ := h; rfl
  · obtain ⟨d, ⟨t, n, c, rfl, hT, rfl⟩, q⟩ := h
    refine ⟨_, (pss_cons (ps_expr (pe_callC c_asked_triangle (hr.mono (by decide)) (by rfl) (pa_cons (pv 0) pa_nil)))
 (pss_cons (ps_ret (pe_lc (own := [("small", 1)]) rfl sc_fulls.nd (ki_list (K := K) rfl (pe_callC c_smalls (hr.mono (by decide)) (by rfl) (pa_cons (pv 0) pa_nil))) (blkOk_by (N := ["triangle", "small"]) (sc := defScope s_fulls) (by decide +kernel)) (fun _ _ _ _ _ => (pg_name (i := 1) sc_fulls.nd rfl (.inl rfl) (.inr rfl))) (fun _ _ _ _ _ => (pts_one (pt_cmpR op_ne (pe_callC c_turn_of (hr.mono (by decide)) (by rfl) (pa_cons (pv 0) (pa_cons (pv 1) pa_nil))) pe_int (nomark _)))) (fun _ _ _ _ _ => (pv 1))))
 pss_nil)), ?_⟩
    refine drop_asked rfl hT ?_
    intro H1 e1
    have hT1 := hT.mono e1
    refine y_retN K ((fulls n c).map smD) ?_ (fun p xs H4 hp e4 h1 h2 => q p xs H4 (fresh_back e1 hp) (e1.trans e4) h1 h2)
    refine en_lcK (L := smalls n) (enc := smD) (fun s => decide (tnS c s ≠ 0)) smD ?_ ?_ ?_
    · refine EvN.k (en_call (ds := (smalls n).map smD) (eax1 (R1 := fun v H1 => Tri K H1 v n c) (ex_var rfl fun H1 e => hT1.mono e)) ?_)
      rintro vs H2 e2 ⟨b, rfl, h⟩
      exact ⟨b, n, c, rfl, h, rfl⟩
    · have few := hT.few
      have h1 : ∀ i, i < n - 1 → (rowSm n i).length ≤ 120 := fun i hi => by
        have : (rowSm n i).length ≤ (n - 1 - i) * 2 := flat_len _ 2 _ fun j _ => by split <;> simp
        omega
      have := flat_len (rowSm n) 120 (n - 1) h1
      show ((List.range (n - 1)).flatMap (rowSm n)).length ≤ 40000
      omega
    · intro a ha x H2 e2 hx
      refine ⟨_, fun Q q => q, rfl, ?_, fun _ => ei_var rfl hx⟩
      refine et_to (et_of K (ei_neI (ev_turn rfl (hT1.mono e2) rfl hx (mem_smalls.mp ha)) ei_int)) ?_
      simp
def preTurn (K : PySem.W.Frag) : List V → Hp → PyData → Prop := preTurnOf K
abbrev s_turn : Stmt := top 22
theorem sc_turn : FnScope ["triangle", "small"] ["triangle", "small"] (defScope s_turn) := ⟨rfl, rfl, rfl, by decide +kernel, rfl, by decide +kernel, by decide +kernel⟩
theorem ok_turn (D : Def K mg "turn" s_turn) (c_asked_triangle : Callee P w K mg base CX0 1 "asked_triangle" ["triangle"] (spAskedT K)) (c_asked_small : Callee P w K mg base CX0 2 "asked_small" ["triangle", "small"] (PrI K (preAskedS K))) (c_turn_of : Callee P w K mg base CX0 3 "turn_of" ["triangle", "small"] (PrI K (preTurnOf K))) :
    Callee P w K mg base CX0 4 "turn" ["triangle", "small"] (PrI K (preTurnOf K)) := by
  refine D.ok sc_turn (fun _ _ _ _ _ _ us hl => match us, hl with | [_, _], _ => rfl) (fun vs H Q E h => ?_) (fun f cdv A outer s H vs Q E hr h => ?_)
  · obtain ⟨d, ⟨t, x, n, c, s, rfl, _⟩, _⟩ := h; rfl
  · obtain ⟨d, ⟨t, x, n, c, z, rfl, hT, hx, hs, rfl⟩, q⟩ := h
    refine ⟨_, (pss_cons (ps_expr (pe_callC c_asked_triangle (hr.mono (by decide)) (by rfl) (pa_cons (pv 0) pa_nil)))
 (pss_cons (ps_expr (pe_callC c_asked_small (hr.mono (by decide)) (by rfl) (pa_cons (pv 0) (pa_cons (pv 1) pa_nil))))
 (pss_cons (ps_ret (pe_callC c_turn_of (hr.mono (by decide)) (by rfl) (pa_cons (pv 0) (pa_cons (pv 1) pa_nil))))
 pss_nil))), ?_⟩
    refine drop_asked rfl hT ?_
    intro H1 e1
    refine y_dropI K .none ?_ ?_
    · refine ei_call (eax2 (R1 := fun v H1 => Tri K H1 v n c) (R2 := fun v H1 => Im K H1 v (smD z)) (ex_var rfl fun H1 e => (hT.mono e1).mono e) (fun _ _ _ e h => h.mono e) (ei_var rfl (hx.mono e1))) ?_
      rintro vs H1 e ⟨a, b, rfl, h1, h2⟩
      exact ⟨a, b, n, c, z, rfl, h1, h2, hs, rfl⟩
    · intro v H2 e2 _
      refine y_retI K (.int (tnS c z)) (ev_turn rfl (hT.mono (e1.trans e2)) rfl (hx.mono (e1.trans e2)) hs) (fun v H3 e3 r => q v H3 ((e1.trans e2).trans e3) r)
/-! ### around, doors -/
theorem spotAt_in {n k : Nat} (hn : 1 ≤ n) (h : k < 3 * (n - 1) + 1) : (spotAt n k).1 + (spotAt n k).2 < n := by
  unfold spotAt
  split
  · dsimp only; omega
  · split
    · dsimp only; omega
    · dsimp only; omega
theorem side_at {n k : Nat} (hn : 1 ≤ n) (h : k < 3 * (n - 1) + 1) : ((sideSp n).map spD)[k]? = some (spD (spotAt n k)) := by
  rw [sideSp_eq n hn, List.getElem?_map, List.getElem?_map, List.getElem?_range h]; rfl
theorem ev_side {t : V} {σ : L2.St} {H : Hp} {n : Nat} {c : Nat → Nat → Nat} {i : Nat} (ht : σ[i]? = some (some t)) (hT : Tri K H t n c) : EvN K (tCall (spSide K) [] E0 (tCons (tVar i) tNil)) σ H ((sideSp n).map spD) := by
  refine en_call (ds := (sideSp n).map spD) (eax1 (R1 := fun v H1 => Tri K H1 v n c) (ex_var ht fun H1 e => hT.mono e)) ?_
  rintro vs H2 e2 ⟨b, rfl, h⟩
  exact ⟨b, n, c, rfl, h, rfl⟩
/-- step_of(triangle, spots[at], spots[at + 1]) -/
theorem ev_step {t sp : V} {σ : L2.St} {H : Hp} {n : Nat} {c : Nat → Nat → Nat} {i j l k : Nat} (ht : σ[i]? = some (some t)) (hT : Tri K H t n c) (hp : σ[j]? = some (some sp)) (hS : Ls K H sp ((sideSp n).map spD)) (hk : σ[l]? = some (some (.int (k : Int)))) (h : k < 3 * (n - 1)) :
    EvI K (tCall (PrI K (preStepOf K)) [] E0 (tCons (tVar i) (tCons (tOp (rIxL K) (tVar j) (tVar l)) (tCons (tOp (rIxL K) (tVar j) (tOp (rI0 fun i j => .int (i + j)) (tVar l) (tC (.int 1)))) tNil)))) σ H (.int (stepAt n c k)) := by
  have two := hT.two
  refine ei_call (eax3 (R1 := fun v H1 => Tri K H1 v n c) (R2 := fun v H1 => Im K H1 v (spD (spotAt n k))) (R3 := fun v H1 => Im K H1 v (spD (spotAt n (k + 1)))) (ex_var ht fun H1 e => hT.mono e) (fun _ _ _ e h => h.mono e)
    (ei_ixK (ek_var hp hS) (ei_var hk (.int _)) (atI_nat (side_at (by omega) (by omega)))) mI (ei_ixK (i := ((k + 1 : Nat) : Int)) (ek_var hp hS) (ei_I0i (ei_var hk (.int _)) ei_int) (atI_nat (side_at (by omega) (by omega))))) ?_
  rintro vs H1 e ⟨a, b, d, rfl, h1, h2, h3⟩
  exact ⟨a, b, d, n, c, _, _, rfl, h1, h2, h3, spotAt_in (by omega) (by omega), spotAt_in (by omega) (by omega), rfl⟩
abbrev spAround (K : PySem.W.Frag) : Sp := PrI K (preTri K fun n c => .int (around n c))
abbrev s_around : Stmt := top 23
theorem sc_around : FnScope ["triangle", "spots", "at"] ["triangle"] (defScope s_around) := ⟨rfl, rfl, rfl, by decide +kernel, rfl, by decide +kernel, by decide +kernel⟩
theorem ok_around (D : Def K mg "around" s_around) (c_asked_triangle : Callee P w K mg base CX0 1 "asked_triangle" ["triangle"] (spAskedT K)) (c_side : Callee P w K mg base CX0 1 "side" ["triangle"] (spSide K)) (c_step_of : Callee P w K mg base CX0 1 "step_of" ["triangle", "one", "other"] (PrI K (preStepOf K)))
    (m_len : mg "len" = none) (m_range : mg "range" = none) (m_sum : mg "sum" = none) : Callee P w K mg base CX0 2 "around" ["triangle"] (spAround K) := by
  refine D.ok sc_around (fun _ _ _ _ _ _ us hl => match us, hl with | [_], _ => rfl) (fun vs H Q E h => ?_) (fun f cdv A outer s H vs Q E hr h => ?_)
  · obtain ⟨d, ⟨t, n, c, rfl, _⟩, _⟩ := h; rfl
  · obtain ⟨d, ⟨t, n, c, rfl, hT, rfl⟩, q⟩ := h
    refine ⟨_, (pss_cons (ps_expr (pe_callC c_asked_triangle (hr.mono (by decide)) (by rfl) (pa_cons (pv 0) pa_nil)))
 (pss_cons (ps_set (i := 1) sc_around.nd rfl (.inr rfl) (pe_callC c_side (hr.mono (by decide)) (by rfl) (pa_cons (pv 0) pa_nil)))
 (pss_cons (ps_ret (pe_callB (kr_sum (K := K) rfl rfl) (by rfl) m_sum (by decide +kernel) (pa_cons (pe_lc (own := [("at", 2)]) rfl sc_around.nd (pi_range1 (by rfl) m_range (pa_cons (pe_op op_sub (pe_callB (kr_len (K := K) rfl) (by rfl) m_len PySem.boot_len (pa_cons (pv 1) pa_nil)) pe_int) pa_nil)) (blkOk_by (N := ["triangle", "spots", "at"]) (sc := defScope s_around) (by decide +kernel)) (fun _ _ _ _ _ => (pg_name (i := 2) sc_around.nd rfl (.inl rfl) (.inr rfl))) (fun _ _ _ _ _ => pts_nil) (fun _ _ _ _ _ => (pe_callC c_step_of (hr.mono (by decide)) (by rfl) (pa_cons (pv 0) (pa_cons (pe_ix (kx_list (K := K) rfl) (pv 1) (pv 2) (fun _ _ => rfl)) (pa_cons (pe_ix (kx_list (K := K) rfl) (pv 1) (pe_op op_add (pv 2) pe_int) (fun _ _ => rfl)) pa_nil)))))) pa_nil)))
 pss_nil))), ?_⟩
    have two := hT.two
    have few := hT.few
    refine drop_asked rfl hT ?_
    intro H1 e1
    have hT1 := hT.mono e1
    refine y_asg (fun v H2 => Ls K H2 v ((sideSp n).map spD)) (EvN.k (ev_side rfl hT1)) ?_
    intro sp H2 e2 hS
    have hT2 := hT1.mono e2
    refine y_retI K (.int (around n c)) ?_ (fun v H3 e3 r => q v H3 ((e1.trans e2).trans e3) r)
    refine ei_sum (ns := (List.range (3 * (n - 1))).map (stepAt n c)) (EvN.k (EvN.to (en_lcR (n := ((3 * (n - 1) + 1 : Nat) : Int) - 1) (fun _ => true) (fun k => .int (stepAt n c k)) ?_ (by omega) ?_ (by omega)) ?_))
    · refine eai_cons (ei_I0i (EvI.to (ei_lenK (ek_var rfl hS)) ?_) ei_int) eai_nil
      rw [List.length_map, sideSp_len n (by omega)]
    · intro k hk H3 e3
      exact ⟨_, fun Q q => q, rfl, et_yes, fun _ => ev_step rfl (hT2.mono e3) rfl (hS.mono e3) rfl (by omega)⟩
    · rw [List.filter_eq_self.mpr (fun _ _ => rfl), show (((3 * (n - 1) + 1 : Nat) : Int) - 1).toNat = 3 * (n - 1) by omega, List.map_map]; rfl
abbrev spDoors (K : PySem.W.Frag) : Sp := PrN K (preTriN K fun n c => (doors n c).map fun k => .int (k : Nat))
abbrev s_doors : Stmt := top 24
theorem sc_doors : FnScope ["triangle", "spots", "at"] ["triangle"] (defScope s_doors) := ⟨rfl, rfl, rfl, by decide +kernel, rfl, by decide +kernel, by decide +kernel⟩
theorem ok_doors (D : Def K mg "doors" s_doors) (c_asked_triangle : Callee P w K mg base CX0 1 "asked_triangle" ["triangle"] (spAskedT K)) (c_side : Callee P w K mg base CX0 1 "side" ["triangle"] (spSide K)) (c_step_of : Callee P w K mg base CX0 1 "step_of" ["triangle", "one", "other"] (PrI K (preStepOf K)))
    (m_len : mg "len" = none) (m_range : mg "range" = none) : Callee P w K mg base CX0 2 "doors" ["triangle"] (spDoors K) := by
  refine D.ok sc_doors (fun _ _ _ _ _ _ us hl => match us, hl with | [_], _ => rfl) (fun vs H Q E h => ?_) (fun f cdv A outer s H vs Q E hr h => ?_)
  · obtain ⟨d, ⟨t, n, c, rfl, _⟩, _⟩ := h; rfl
  · obtain ⟨d, ⟨t, n, c, rfl, hT, rfl⟩, q⟩ := h
    refine ⟨_, (pss_cons (ps_expr (pe_callC c_asked_triangle (hr.mono (by decide)) (by rfl) (pa_cons (pv 0) pa_nil)))
 (pss_cons (ps_set (i := 1) sc_doors.nd rfl (.inr rfl) (pe_callC c_side (hr.mono (by decide)) (by rfl) (pa_cons (pv 0) pa_nil)))
 (pss_cons (ps_ret (pe_lc (own := [("at", 2)]) rfl sc_doors.nd (pi_range1 (by rfl) m_range (pa_cons (pe_op op_sub (pe_callB (kr_len (K := K) rfl) (by rfl) m_len PySem.boot_len (pa_cons (pv 1) pa_nil)) pe_int) pa_nil)) (blkOk_by (N := ["triangle", "spots", "at"]) (sc := defScope s_doors) (by decide +kernel)) (fun _ _ _ _ _ => (pg_name (i := 2) sc_doors.nd rfl (.inl rfl) (.inr rfl))) (fun _ _ _ _ _ => (pts_one (pt_cmpR op_ne (pe_callC c_step_of (hr.mono (by decide)) (by rfl) (pa_cons (pv 0) (pa_cons (pe_ix (kx_list (K := K) rfl) (pv 1) (pv 2) (fun _ _ => rfl)) (pa_cons (pe_ix (kx_list (K := K) rfl) (pv 1) (pe_op op_add (pv 2) pe_int) (fun _ _ => rfl)) pa_nil)))) pe_int (nomark _)))) (fun _ _ _ _ _ => (pv 2))))
 pss_nil))), ?_⟩
    have two := hT.two
    have few := hT.few
    refine drop_asked rfl hT ?_
    intro H1 e1
    have hT1 := hT.mono e1
    refine y_asg (fun v H2 => Ls K H2 v ((sideSp n).map spD)) (EvN.k (ev_side rfl hT1)) ?_
    intro sp H2 e2 hS
    have hT2 := hT1.mono e2
    refine y_retN K ((doors n c).map fun k => .int (k : Nat)) ?_ (fun p xs H4 hp e4 h1 h2 => q p xs H4 (fresh_back (e1.trans e2) hp) ((e1.trans e2).trans e4) h1 h2)
    refine EvN.to (en_lcR (n := ((3 * (n - 1) + 1 : Nat) : Int) - 1) (fun k => decide (stepAt n c k ≠ 0)) (fun k => .int (k : Nat)) ?_ (by omega) ?_ (by omega)) ?_
    · refine eai_cons (ei_I0i (EvI.to (ei_lenK (ek_var rfl hS)) ?_) ei_int) eai_nil
      rw [List.length_map, sideSp_len n (by omega)]
    · intro k hk H3 e3
      refine ⟨_, fun Q q => q, rfl, ?_, fun _ => by walk_at "e"⟩
      refine et_to (et_of K (ei_neI (ev_step rfl (hT2.mono e3) rfl (hS.mono e3) rfl (by omega)) ei_int)) ?_
      simp
    · rw [show (((3 * (n - 1) + 1 : Nat) : Int) - 1).toNat = 3 * (n - 1) by omega]; rfl
/-! ### put -/
def updC (c : Nat → Nat → Nat) (r p x : Nat) : Nat → Nat → Nat := fun i j => if i = r ∧ j = p then x else c i j
theorem updC_ltr {c : Nat → Nat → Nat} (h : ∀ r p, DW.ltr (c r p)) {r p x : Nat} (hx : DW.ltr x) : ∀ i j, DW.ltr (updC c r p x i j) := fun i j => by
  unfold updC; split
  · exact hx
  · exact h i j
theorem triD_upd {n : Nat} {c : Nat → Nat → Nat} {r p x : Nat} (h : r + p < n) : (triD n c).set r (st ((rowS n c r).cps.toList.set p x)) = triD n (updC c r p x) := by
  refine List.ext_getElem? fun i => ?_
  by_cases hi : i < n
  · rw [triD_get hi]
    by_cases e : r = i
    · subst e
      rw [List.getElem?_set_self (by rw [triD_len]; exact hi)]
      refine congrArg some (str_ext ?_)
      rw [st_list, rowS_list, rowS_list]
      refine List.ext_getElem? fun j => ?_
      by_cases hj : j < n - r
      · by_cases e2 : p = j
        · subst e2
          rw [List.getElem?_set_self (by simp; omega), List.getElem?_map, List.getElem?_range hj]
          simp [updC]
        · rw [List.getElem?_set_ne e2, List.getElem?_map, List.getElem?_map, List.getElem?_range hj]
          simp [updC]; omega
      · rw [List.getElem?_eq_none (by simp; omega), List.getElem?_eq_none (by simp; omega)]
    · rw [List.getElem?_set_ne e, triD_get hi]
      refine congrArg some (str_ext ?_)
      rw [rowS_list, rowS_list]
      refine List.map_congr_left fun j _ => ?_
      unfold updC
      rw [if_neg (by omega)]
  · rw [List.getElem?_eq_none (by rw [List.length_set, triD_len]; omega), List.getElem?_eq_none (by rw [triD_len]; omega)]
theorem sIx_at {n p : Nat} {d : Nat} (h : p ≤ n) : HT.sIx n d (some (p : Int)) = p := by rw [HT.sIx_nat]; omega
theorem cutS_list (z : Str) (lo hi : Option Int) : (cutS z lo hi).cps.toList = (z.cps.toList.drop (HT.sIx z.length 0 lo)).take (HT.sIx z.length z.length hi - HT.sIx z.length 0 lo) := by simp [cutS]
theorem cut_put {z : Str} {p x : Nat} (h : p < z.length) : cutS z none (some (p : Int)) ++ st [x] ++ cutS z (some ((p : Int) + 1)) none = st (z.cps.toList.set p x) := by
  have e1 : (p : Int) + 1 = ((p + 1 : Nat) : Int) := by omega
  refine str_ext ?_
  rw [append_list, append_list, st_list, st_list, cutS_list, cutS_list, e1, sIx_at (by omega), sIx_at (by omega), HT.sIx_none, HT.sIx_none]
  have hl : z.cps.toList.length = z.length := (length_cps z).symm
  rw [List.set_eq_take_append_cons_drop, if_pos (by omega)]
  rw [Nat.sub_zero, List.drop_zero]
  rw [List.append_assoc]
  congr 1
  rw [List.singleton_append, List.take_of_length_le (by rw [List.length_drop]; omega)]
theorem cut_len {z : Str} (lo hi : Option Int) : (cutS z lo hi).length ≤ z.length := by
  rw [length_cps, length_cps z, cutS_list, List.length_take, List.length_drop]
  omega
theorem app_len (a b : Str) : (a ++ b).length = a.length + b.length := by
  rw [length_cps, length_cps a, length_cps b, append_list, List.length_append]
def prePut (K : PySem.W.Frag) : List V → Hp → List PyData → Prop := fun vs H ds => ∃ t n c, ∃ r p x : Nat, vs = [t, .int r, .int p, .str (st [x])] ∧ Tri K H t n c ∧ r + p < n ∧ DW.ltr x ∧ ds = (triD n (updC c r p x)).map PyData.str
abbrev s_put : Stmt := top 25
theorem sc_put : FnScope ["triangle", "row", "place", "letter", "found"] ["triangle", "row", "place", "letter"] (defScope s_put) := ⟨rfl, rfl, rfl, by decide +kernel, rfl, by decide +kernel, by decide +kernel⟩
theorem ok_put (D : Def K mg "put" s_put) (hL : ∃ tk, mg "LETTERS" = some (.str "abc" tk)) (c_asked_triangle : Callee P w K mg base CX0 1 "asked_triangle" ["triangle"] (spAskedT K)) (c_asked_spot : Callee P w K mg base CX0 2 "asked_spot" ["triangle", "row", "place"] (PrI K (preAskedSp K)))
    (m_len : mg "len" = none) (m_isinstance : mg "isinstance" = none) (m_str : mg "str" = none) (m_list : mg "list" = none) : Callee P w K mg base CX0 3 "put" ["triangle", "row", "place", "letter"] (PrN K (prePut K)) := by
  obtain ⟨tk, gLETTERS⟩ := hL
  refine D.ok sc_put (fun _ _ _ _ _ _ us hl => match us, hl with | [_, _, _, _], _ => rfl) (fun vs H Q E h => ?_) (fun f cdv A outer s H vs Q E hr h => ?_)
  · obtain ⟨d, ⟨t, n, c, r, p, x, rfl, _⟩, _⟩ := h; rfl
  · obtain ⟨d, ⟨t, n, c, r, p, x, rfl, hT, hs, hl, rfl⟩, q⟩ := h
    refine ⟨_, (pss_cons (ps_expr (pe_callC c_asked_triangle (hr.mono (by decide)) (by rfl) (pa_cons (pv 0) pa_nil)))
 (pss_cons (ps_expr (pe_callC c_asked_spot (hr.mono (by decide)) (by rfl) (pa_cons (pv 0) (pa_cons (pv 1) (pa_cons (pv 2) pa_nil)))))
 (pss_cons (ps_if (PW.pt (pw_or (pt_not (pt_val (pe_callB (kr_isi (K := K) rfl) (by rfl) m_isinstance (by decide +kernel) (pa_cons (pv 3) (pa_cons (pe_bltn (v := .ty "str") (by rfl) m_str (by decide +kernel) rfl) pa_nil))))) (pw_or (pt_cmpR op_ne (pe_callB call_len_str (by rfl) m_len PySem.boot_len (pa_cons (pv 3) pa_nil)) pe_int (nomark _)) (pw_or1 (pt_cmpR op_notIn_sign (pv 3) (pe_glob (v := .str "abc") (by rfl) gLETTERS ⟨_, rfl⟩) rfl)))))
  (pss_cons ps_never
 pss_nil)
  pss_nil)
 (pss_cons (ps_set (i := 4) sc_put.nd rfl (.inl rfl) (pe_callTy (kr_list (K := K) rfl) (by rfl) m_list (by decide +kernel) (pa_cons (pv 0) pa_nil)))
 (pss_cons (ps_asg (pe_op op_add_str (pe_op op_add_str (pe_slice sl_str (pe_ix (kx_list (K := K) rfl) (pv 4) (pv 1) (fun _ _ => rfl)) po_none (po_some (pv 2))) (pv 3)) (pe_slice sl_str (pe_ix (kx_list (K := K) rfl) (pv 4) (pv 1) (fun _ _ => rfl)) (po_some (pe_op op_add (pv 2) pe_int)) po_none)) (pg_sub (pv 4) (pv 1) set_list))
 (pss_cons (ps_ret (pv 4))
 pss_nil)))))), ?_⟩
    have few := hT.few
    refine drop_asked rfl hT ?_
    intro H1 e1
    have hT1 := hT.mono e1
    refine y_dropI K .none ?_ ?_
    · refine ei_call (eax3 (R1 := fun v H1 => Tri K H1 v n c) (R2 := fun v H1 => Im K H1 v (.int r)) (R3 := fun v H1 => Im K H1 v (.int p)) (ex_var rfl fun H1 e => hT1.mono e) (fun _ _ _ e h => h.mono e) (ei_var rfl (.int _)) mI (ei_var rfl (.int _))) ?_
      rintro vs H2 e2 ⟨a, b, c', rfl, h1, h2, h3⟩
      cases h2; cases h3
      exact ⟨a, n, c, _, _, rfl, h1, hs, rfl⟩
    intro v H2 e2 _
    have hT2 := hT1.mono e2
    refine y_no ?_ ?_
    · apply et_to
      · apply et_or
        · exact et_not (et_val K (ei_isI (ei_var rfl (.str _)) kit_str))
        · intro _
          apply et_or
          · exact et_of K (ei_neI (ei_lenS (ei_var rfl (.str _)) (by show 1 ≤ 100000; decide)) ei_int)
          · intro _
            exact et_of K (ei_niC (c := x) (ei_var rfl (.str _)) ei_str)
      · have : decide (x ∈ ("abc" : Str).cps.toList) = true := by
          rcases hl with rfl | rfl | rfl <;> decide +kernel
        rw [this]; rfl
    intro H3 e3
    have hT3 := hT2.mono e3
    refine y_asgG K ((triD n c).map PyData.str) (en_listK (ek_var rfl hT3.ls)) ?_
    intro l H4 g4
    have row : atI ((triD n c).map PyData.str) (r : Int) = some (.str (rowS n c r)) := atI_nat (by rw [List.getElem?_map, triD_get (by omega)]; rfl)
    have len := rowS_len n c r
    have c1 := cut_len (z := rowS n c r) none (some (p : Int))
    have c2 := cut_len (z := rowS n c r) (some ((p : Int) + 1)) none
    refine y_setG (.str (st ((rowS n c r).cps.toList.set p x))) g4 ?_ (evv_var rfl) (ei_var (v := .int (r : Int)) rfl (.int _)) (by rw [List.length_map, triD_len]; omega) ?_
    · refine EvI.to (ei_addS (ei_addS (ei_slS (ei_ixK (em_var rfl g4.ls).k (ei_var (v := .int (r : Int)) rfl (.int _)) row) eo_no (eo_at (K := K) (ei_var (v := .int (p : Int)) rfl (.int _))) (by omega)) (ei_var rfl (.str _)) ?_)
        (ei_slS (ei_ixK (em_var rfl g4.ls).k (ei_var (v := .int (r : Int)) rfl (.int _)) row) (eo_at (K := K) (ei_I0i (ei_var (v := .int (p : Int)) rfl (.int _)) ei_int)) eo_no (by omega)) ?_) ?_
      · rw [st_len]; simp; omega
      · rw [app_len, st_len]; simp; omega
      · exact congrArg PyData.str (cut_put (by omega))
    · intro H5 g5 _
      obtain ⟨xs, h5, h6⟩ := g5.has
      refine ⟨.ref l, rfl, ?_⟩
      refine q l xs H5 (fresh_back ((e1.trans e2).trans e3) g5.fresh) (((e1.trans e2).trans e3).trans g5.ex) h5 ?_
      rw [← triD_upd hs, List.map_set]
      exact h6
end
end DWL
/-! an if whose test reads a written number: behind it a token is out, so replace may be walked in its branch -/
namespace DWL
open PySem PySem.Spec PyProof.Rows L2 Evl
def PTk (X : Cx) (e : Expr) (t : TT) : Prop := ∀ (pins : List (Addr × Obj)) (s : Shared) (σ : L2.St) (H : Hp) (Q : Bool → Hp → Prop), Inv X pins σ H s → t σ H Q → wpAny (model X.prog X.w) X.A (isTrue e X.env (eval e X.env)) (fun b z => 1 ≤ z.toks ∧ TP X pins σ Q b z) X.xe s
def PWk (X : Cx) (e : Expr) (t : TT) : Prop := ∀ (wh : Sem Value) (pins : List (Addr × Obj)) (s : Shared) (σ : L2.St) (H : Hp) (Q : Bool → Hp → Prop), Inv X pins σ H s → t σ H Q → wpAny (model X.prog X.w) X.A (isTrue e X.env wh) (fun b z => 1 ≤ z.toks ∧ TP X pins σ Q b z) X.xe s
section
variable {X : Cx} {a b e : Expr} {rest : List Expr} {ta te : TE} {t u : TT} {pos : Pos}
theorem PWk.k (h : PWk X e t) : PTk X e t := h _
theorem ptk_cmp {op : CmpOp} {r : R2} {k : Int} {j : Nat} {cp : Pos} (ho : OpR X (compareOp op) r) (ha : PE X a ta) (hm : behindInMarks op (.Constant (.int k) j cp) = false) : PTk X (.Compare a [op] [.Constant (.int k) j cp] pos) (tTest (tOp r ta (tC (.int k)))) := by
  intro pins s σ H Q I h
  refine wpAny_isTrue_Compare1 (thn (ha.run pins s σ H _ I h) fun v s1 g => ?_) hm
  obtain ⟨x, H1, I1, r1, q1⟩ := g
  refine wpAny_Constant_int ?_
  have one : 1 ≤ ({ s1 with toks := s1.toks + 1 } : Shared).toks := Nat.le_add_left 1 s1.toks
  refine wpAny_mono (wpAny_toks_of one (ho pins _ σ H1 x (.int k) v _ _ (I1.tok _) r1 ⟨_, rfl⟩ q1)) (fun c s3 g => ?_) fun _ _ z => z.2
  obtain ⟨n, z, H3, I3, r3, kb, e3, q3⟩ := g
  subst e3
  obtain rfl : c = Value.bool kb := r3
  exact wpAny_truthy_bool ⟨n, H3, I3, q3⟩
theorem pwk_and (ha : PTk X a t) (hb : PW X (.BoolOp .And (b :: rest) pos) u) : PWk X (.BoolOp .And (a :: b :: rest) pos) (tAnd t u) := by
  intro wh pins s σ H Q I h
  refine isTrue_and (thn (ha pins s σ H _ I h) fun c s1 g => ?_)
  obtain ⟨n, H1, I1, q1⟩ := g
  cases c with
  | true => exact wpAny_mono (wpAny_toks_of n (hb.run wh pins s1 σ H1 Q I1 q1)) (fun _ _ z => z) fun _ _ z => z.2
  | false => exact ⟨n, H1, I1, q1⟩
theorem ps_ifk {c : Expr} {p q : List Stmt} {tc : TT} {tp tq : TS} (hc : PTk X c tc) (hp : PSsT X p tp) (hq : PSs X q tq) : PS X (.If c p q pos) (tIfS tc tp tq) := by
  refine ⟨fun pins s σ H D I h => ?_⟩
  refine wpAny_If (thn (hc pins s σ H _ I h) fun d s1 g => ?_)
  obtain ⟨n, H1, I1, q1⟩ := g
  cases d with
  | true => exact hp pins s1 σ H1 D n I1 q1
  | false => exact hq.run pins s1 σ H1 D I1 q1
theorem pst_set {i : Nat} {x : Str} {p' : Pos} (hN : X.N.Nodup) (hi : X.N[i]? = some x) (hx : Loc X.env.scope x) (he : PET X e te) (hs : swapsWith e (some (.Name x p')) pos.line X.env = pure false := by rfl) (hf : X.fn x = true ∨ X.env.scope.names.lookup x = some .local := by first | exact .inl rfl | exact .inr rfl | assumption) :
    PST X (.Assign [.Name x p'] e pos) (tAsg te (gName i)) := by
  intro pins s σ H D n I h
  refine wpAny_Assign_Name (thn (he pins s σ H _ n I h) fun v s1 g => ?_) hs
  obtain ⟨y, H1, I1, r1, q1⟩ := g
  exact store_ok I1 hN hi hx r1 (fun s2 I2 => ⟨_, H1, I2, q1⟩) hf
theorem pss_of_T {st : List Stmt} {t : TS} (h : PSs X st t) : PSsT X st t := PSsT.of h
end
section
variable {K : PySem.W.Frag} {σ : L2.St} {H : Hp} {ta : TE}
theorem ei_replC {x y z : Str} (ha : EvI K ta σ H (.str x)) (hb : x.length + (x.length + 1) * z.length ≤ 16777216) : EvI K (CwR.tReplC ta y z) σ H (.str (Txt.replace x y z)) := fun H1 e Q q =>
  ha H1 e _ fun v H2 e2 r => by
    cases r
    exact ⟨x, rfl, hb, q _ H2 e2 (.str _)⟩
/-- a word between an if and what follows -/
theorem y_cut {D : Ends} {t u : TS} (M : L2.St → Hp → Prop) (h : t { D with nx := M } σ H) (k : ∀ σ' H', M σ' H' → u D σ' H') : tCut t u D σ H := ⟨M, h, k⟩
end
end DWL
/-! which data may be compared -/
namespace DWL
open PySem PySem.Spec PyProof.Rows L2 Evl DW
def Shp (k : Nat) (d : PyData) : Prop := d.canLay0 = true ∧ d.depth ≤ k
theorem shp_all {k : Nat} : ∀ {ds : List PyData}, (∀ d ∈ ds, Shp k d) → PyData.canLayAll0 ds = true ∧ PyData.depthAll ds ≤ k
  | [], _ => ⟨rfl, Nat.zero_le _⟩
  | d :: ds, h => by
    obtain ⟨h1, h2⟩ := h d List.mem_cons_self
    obtain ⟨h3, h4⟩ := shp_all fun x hx => h x (List.mem_cons_of_mem _ hx)
    refine ⟨?_, ?_⟩
    · show (d.canLay0 && PyData.canLayAll0 ds) = true
      rw [h1, h3]; rfl
    · show max d.depth (PyData.depthAll ds) ≤ k
      exact Nat.max_le.mpr ⟨h2, h4⟩
theorem Shp.list {k : Nat} {ds : List PyData} (h : ∀ d ∈ ds, Shp k d) : Shp (k + 1) (.list ds) := by
  obtain ⟨h1, h2⟩ := shp_all h
  exact ⟨h1, by show PyData.depthAll ds + 1 ≤ k + 1; omega⟩
theorem Shp.tuple {k : Nat} {ds : List PyData} (h : ∀ d ∈ ds, Shp k d) : Shp (k + 1) (.tuple ds) := by
  obtain ⟨h1, h2⟩ := shp_all h
  exact ⟨h1, by show PyData.depthAll ds + 1 ≤ k + 1; omega⟩
theorem Shp.up {k j : Nat} {d : PyData} (h : Shp k d) (l : k ≤ j) : Shp j d := ⟨h.1, Nat.le_trans h.2 l⟩
theorem Shp.ok {k : Nat} {d : PyData} (h : Shp k d) (l : k ≤ 64 := by decide) : SeqAt.shaped d = true := by
  unfold SeqAt.shaped
  rw [h.1, decide_eq_true (Nat.le_trans h.2 l)]; rfl
theorem shp_int {k : Nat} (i : Int) : Shp k (.int i) := ⟨rfl, Nat.zero_le _⟩
theorem shp_bool {k : Nat} (i : Bool) : Shp k (.bool i) := ⟨rfl, Nat.zero_le _⟩
theorem shp_none {k : Nat} : Shp k .none := ⟨rfl, Nat.zero_le _⟩
theorem shp_str {k : Nat} {z : Str} (h : ∀ c ∈ z.cps.toList, c < 1114112) : Shp k (.str z) := by
  refine ⟨?_, Nat.zero_le _⟩
  show (z.cps.all (· < 0x110000)) = true
  rw [Array.all_eq_true_iff_forall_mem]
  intro c hc
  exact decide_eq_true (h c (by simpa using hc))
theorem shp_ints {k : Nat} (ns : List Int) : ∀ d ∈ ns.map PyData.int, Shp k d := fun d h => by
  obtain ⟨i, _, rfl⟩ := List.mem_map.mp h
  exact shp_int i
theorem shp_nats {k : Nat} (ns : List Nat) : ∀ d ∈ ns.map (fun i : Nat => PyData.int (i : Int)), Shp k d := fun d h => by
  obtain ⟨i, _, rfl⟩ := List.mem_map.mp h
  exact shp_int _
theorem shp_bools {k : Nat} (ns : List Bool) : ∀ d ∈ ns.map PyData.bool, Shp k d := fun d h => by
  obtain ⟨i, _, rfl⟩ := List.mem_map.mp h
  exact shp_bool i
theorem shp_sm (s : Sm) : Shp 1 (smD s) := Shp.tuple (k := 0) fun d h => by
  simp at h; rcases h with rfl | rfl | rfl <;> exact shp_int _
theorem shp_sp (s : Sp2) : Shp 1 (spD s) := Shp.tuple (k := 0) fun d h => by
  simp at h; rcases h with rfl | rfl <;> exact shp_int _
theorem shp_sms (l : List Sm) : Shp 2 (.list (l.map smD)) := Shp.list fun d h => by
  obtain ⟨i, _, rfl⟩ := List.mem_map.mp h
  exact shp_sm i
theorem shp_sps (l : List Sp2) : Shp 2 (.list (l.map spD)) := Shp.list fun d h => by
  obtain ⟨i, _, rfl⟩ := List.mem_map.mp h
  exact shp_sp i
theorem shp_tri {n : Nat} {c : Nat → Nat → Nat} (hc : ∀ r p, DW.ltr (c r p)) : Shp 1 (.list ((triD n c).map PyData.str)) := Shp.list (k := 0) fun d h => by
  obtain ⟨z, hz, rfl⟩ := List.mem_map.mp h
  refine shp_str fun x hx => ?_
  obtain ⟨r, _, rfl⟩ := List.mem_map.mp hz
  rw [rowS_list] at hx
  obtain ⟨p, _, rfl⟩ := List.mem_map.mp hx
  have := hc r p
  unfold DW.ltr at this; omega
theorem eqv_nil (ns : List Int) : PyData.eqv (.list (ns.map PyData.int)) (.list []) = ns.isEmpty := by
  cases ns with
  | nil => rfl
  | cons n ns => rfl
/-- == of tuples of numbers -/
theorem eqv_ints : ∀ ns ms : List Int, PyData.eqvAll (ns.map PyData.int) (ms.map PyData.int) = decide (ns = ms)
  | [], [] => rfl
  | [], _ :: _ => rfl
  | _ :: _, [] => rfl
  | n :: ns, m :: ms => by
    show (PyData.eqv (.int n) (.int m) && PyData.eqvAll (ns.map PyData.int) (ms.map PyData.int)) = _
    rw [eqv_ints ns ms]
    show ((n == m) && decide (ns = ms)) = _
    by_cases h1 : n = m
    · subst h1; simp
    · have : (n == m) = false := by simpa using h1
      rw [this]; simp [h1]
theorem eqv_tup (ns ms : List Int) : PyData.eqv (.tuple (ns.map PyData.int)) (.tuple (ms.map PyData.int)) = decide (ns = ms) := eqv_ints ns ms
/-! the law itself: its function is named ahead of the ground -/
theorem okF {P : Program} {w : World} {K : PySem.W.Frag} {mg : Str → Option Value} {base : Heap} {x : Str} {st : Stmt} {N ps : List Str} {k : Nat} {sp : Sp} {f : Addr} {fd : FuncData}
    (hF : FunD K x x (defArgs st) (defBody st) (defScope st) [] [] f fd) (S : FnScope N ps (defScope st)) (len : ∀ vs H Q E, sp vs H Q E → vs.length = ps.length)
    (hbody : ∀ (f : Addr) (cdv : Value) (A : Around) (outer : List Env) (s : Shared) (H : Hp) (vs : List V) (Q : VK) (E : XK), Room k (A.deeper (envOfC x (defScope st) s.heap.objs.size f cdv)) → sp vs H Q E →
      ∃ t, PSs (cxOf CX0 P w K mg base N x (defScope st) f cdv A outer s H E).nox (defBody st) t ∧ t { nx := fun _ H' => Q .non H', rt := Q } (start N vs) H) : FnOk P w K mg base CX0 (k + 1) f fd ps sp :=
  hF.ok S len fun cdv A outer s H vs Q E hr hsp => by
    obtain ⟨t, h, q⟩ := hbody f cdv A outer s H vs Q E hr hsp
    exact ⟨t, h.nox, q⟩
end DWL
namespace DWL
open PySem PySem.Spec PyProof.Rows L2 Evl DW
section
variable {P : Program} {w : World} {K : PySem.W.Frag} {mg : Str → Option Value} {base : Heap}
local macro_rules | `(tactic| walk_at "v") => `(tactic| first | exact ei_int | exact ei_str | exact ei_bl | exact ei_non | exact ei_neg ei_int | exact ei_var rfl (Im.int _) | exact ei_var rfl (Im.str _) | exact ei_var rfl (Im.bl _) | exact ei_var rfl (by assumption) | exact et_len rfl (by assumption))
local macro_rules | `(tactic| walk_at "e") => `(tactic| first | walk_at "v" | (apply ei_I0i <;> walk_at "e") | (apply ei_I0b <;> walk_at "e") | (apply ei_chainI <;> walk_at "e") | (apply ei_eqI <;> walk_at "e") | (apply ei_eqS <;> walk_at "e") | (refine' ei_tup ?_ (Nat.le_of_ble_eq_true rfl) <;> walk_at "e") | (apply eai_cons <;> walk_at "e") | exact eai_nil)
/-! ### the law's triangle: some triangle of 2 to 22 rows -/
def RowsOk (R : Nat) (zs : List Str) : Prop := ∀ j z, zs[j]? = some z → z.length = R - j ∧ ∀ c ∈ z.cps.toList, DW.ltr c
def triOf (zs : List Str) : Nat → Nat → Nat := fun r p => ((zs.getD r (st [])).cps.toList.getD p 97)
theorem triOf_ltr {R : Nat} {zs : List Str} (h : RowsOk R zs) (r p : Nat) : DW.ltr (triOf zs r p) := by
  unfold triOf
  cases hr : zs[r]? with
  | none => rw [List.getD_eq_getElem?_getD, List.getD_eq_getElem?_getD, hr]; exact .inl (by simp [st])
  | some z =>
    have e : zs.getD r (st []) = z := by rw [List.getD_eq_getElem?_getD, hr]; rfl
    rw [e]
    cases hp : z.cps.toList[p]? with
    | none => rw [List.getD_eq_getElem?_getD, hp]; exact .inl rfl
    | some c => rw [List.getD_eq_getElem?_getD, hp]; exact (h r z hr).2 c (List.mem_of_getElem? hp)
theorem rows_tri {R : Nat} {zs : List Str} (h : RowsOk R zs) (hl : zs.length = R) : zs = triD R (triOf zs) := by
  refine List.ext_getElem? fun r => ?_
  by_cases hr : r < R
  · rw [triD_get hr]
    have e : zs[r]? = some zs[r] := List.getElem?_eq_getElem (by omega)
    obtain ⟨h1, _⟩ := h r _ e
    rw [e]
    refine congrArg some (str_ext ?_)
    rw [rowS_list]
    refine List.ext_getElem? fun p => ?_
    rw [length_cps] at h1
    by_cases hp : p < R - r
    · rw [List.getElem?_map, List.getElem?_range hp]
      show _ = some (triOf zs r p)
      unfold triOf
      rw [List.getD_eq_getElem?_getD (l := zs), e]
      show _ = some (zs[r].cps.toList.getD p 97)
      rw [List.getD_eq_getElem?_getD, List.getElem?_eq_getElem (by omega)]; rfl
    · rw [List.getElem?_eq_none (by omega), List.getElem?_eq_none (by simp; omega)]
  · rw [List.getElem?_eq_none (by omega), List.getElem?_eq_none (by rw [triD_len]; omega)]
theorem RowsOk.snoc {R : Nat} {zs : List Str} (h : RowsOk R zs) {z : Str} (h1 : z.length = R - zs.length) (h2 : ∀ c ∈ z.cps.toList, DW.ltr c) : RowsOk R (zs ++ [z]) := fun j y e => by
  by_cases hj : j < zs.length
  · rw [List.getElem?_append_left hj] at e; exact h j y e
  · rw [List.getElem?_append_right (by omega)] at e
    by_cases e0 : j - zs.length = 0
    · rw [e0] at e
      simp at e; subst e
      have : j = zs.length := by omega
      subst this
      exact ⟨h1, h2⟩
    · rw [List.getElem?_eq_none (by simp; omega)] at e; cases e
theorem RowsOk.set {R : Nat} {zs : List Str} (h : RowsOk R zs) {j : Nat} {z : Str} (h1 : z.length = R - j) (h2 : ∀ c ∈ z.cps.toList, DW.ltr c) : RowsOk R (zs.set j z) := fun i y e => by
  by_cases hj : j = i
  · subst hj
    by_cases hl : j < zs.length
    · rw [List.getElem?_set_self hl] at e; cases e; exact ⟨h1, h2⟩
    · rw [List.getElem?_eq_none (by simp; omega)] at e; cases e
  · rw [List.getElem?_set_ne hj] at e; exact h i y e
def Zs : List Str := ["abc", "aabbbc", "ab", "ac", "bc", "a", "b", "c"]
theorem pick_all : (Zs.all fun z => (List.range 18).all fun m => match atI z.cps.toList (Int.fdiv (m : Int) (Int.fdiv 18 (z.length : Int))) with
  | some c => L3.contains c
  | none => false) = true := by decide +kernel
theorem L3_ltr {c : Nat} (h : L3.contains c = true) : DW.ltr c := by
  have : c = 97 ∨ c = 98 ∨ c = 99 := by simpa [L3] using h
  exact this
theorem pick {z : Str} (hz : z ∈ Zs) {m : Int} (h0 : 0 ≤ m) (h1 : m < 18) : ∃ c, atI z.cps.toList (Int.fdiv m (Int.fdiv 18 (z.length : Int))) = some c ∧ DW.ltr c := by
  have h := List.all_eq_true.mp (List.all_eq_true.mp pick_all z hz) m.toNat (List.mem_range.mpr (by omega))
  rw [show ((m.toNat : Nat) : Int) = m by omega] at h
  cases e : atI z.cps.toList (Int.fdiv m (Int.fdiv 18 (z.length : Int))) with
  | none => rw [e] at h; cases h
  | some c => rw [e] at h; exact ⟨c, rfl, L3_ltr h⟩
theorem lens_all : (Zs.all fun z => decide (1 ≤ z.length) && decide (z.length ≤ 6) && decide (Int.fdiv 18 (z.length : Int) ≠ 0) && decide ((Int.fdiv 18 (z.length : Int)).natAbs < 1073741824)) = true := by decide +kernel
theorem lens {z : Str} (hz : z ∈ Zs) : 1 ≤ z.length ∧ z.length ≤ 6 ∧ Int.fdiv 18 (z.length : Int) ≠ 0 ∧ (Int.fdiv 18 (z.length : Int)).natAbs < 1073741824 := by
  have h := List.all_eq_true.mp lens_all z hz
  simp only [Bool.and_eq_true, decide_eq_true_eq] at h
  exact ⟨h.1.1.1, h.1.1.2, h.1.2, h.2⟩
def P1 (kd i : Nat) (z : Str) : Prop := (kd ≤ 1 ∧ (z = "abc" ∨ z = "aabbbc")) ∨ (2 ≤ kd ∧ (z = "abc" ∨ (z = "ab" ∧ i = 0)))
def P2 (kd i j : Nat) (z : Str) : Prop := (kd ≤ 1 ∧ (z = "abc" ∨ z = "aabbbc")) ∨ (2 ≤ kd ∧ (z = "abc" ∨ (z = "ab" ∧ i = 0) ∨ (z = "ac" ∧ j = 0) ∨ (z = "a" ∧ i = 0 ∧ j = 0)))
theorem r_abc_c : Txt.replace "abc" "c" "" = "ab" := by decide +kernel
theorem r_abc_b : Txt.replace "abc" "b" "" = "ac" := by decide +kernel
theorem r_ab_b : Txt.replace "ab" "b" "" = "a" := by decide +kernel
theorem r_abc_a : Txt.replace "abc" "a" "" = "bc" := by decide +kernel
theorem r_ab_a : Txt.replace "ab" "a" "" = "b" := by decide +kernel
theorem r_ac_a : Txt.replace "ac" "a" "" = "c" := by decide +kernel
theorem P1.len {kd i : Nat} {z : Str} (h : P1 kd i z) : z.length ≤ 6 := by
  rcases h with ⟨_, rfl | rfl⟩ | ⟨_, rfl | ⟨rfl, _⟩⟩ <;> decide +kernel
theorem P2.len {kd i j : Nat} {z : Str} (h : P2 kd i j z) : z.length ≤ 6 := by
  rcases h with ⟨_, rfl | rfl⟩ | ⟨_, rfl | ⟨rfl, _⟩ | ⟨rfl, _⟩ | ⟨rfl, _⟩⟩ <;> decide +kernel
theorem P2.zs {kd i j : Nat} {z : Str} (h : P2 kd i j z) : z ∈ Zs := by
  rcases h with ⟨_, rfl | rfl⟩ | ⟨_, rfl | ⟨rfl, _⟩ | ⟨rfl, _⟩ | ⟨rfl, _⟩⟩ <;> decide +kernel
theorem P1.to2 {kd i j : Nat} {z : Str} (h : P1 kd i z) : P2 kd i j z := by
  rcases h with ⟨a, b⟩ | ⟨a, b | b⟩
  · exact .inl ⟨a, b⟩
  · exact .inr ⟨a, .inl b⟩
  · exact .inr ⟨a, .inr (.inl b)⟩
theorem P1.rep {kd i j : Nat} {z : Str} (h : P1 kd i z) (hk : 2 ≤ kd) (hj : j = 0) : P2 kd i j (Txt.replace z "b" "") := by
  rcases h with ⟨a, b⟩ | ⟨a, rfl | ⟨rfl, c⟩⟩
  · omega
  · rw [r_abc_b]; exact .inr ⟨a, .inr (.inr (.inl ⟨rfl, hj⟩))⟩
  · rw [r_ab_b]; exact .inr ⟨a, .inr (.inr (.inr ⟨rfl, c, hj⟩))⟩
theorem P2.rep {kd i j R : Nat} {z : Str} (h : P2 kd i j z) (hk : 2 ≤ kd) (hR : 2 ≤ R) (hs : i + j = R - 1) : Txt.replace z "a" "" ∈ Zs := by
  rcases h with ⟨a, b⟩ | ⟨a, rfl | ⟨rfl, c⟩ | ⟨rfl, c⟩ | ⟨rfl, c, d⟩⟩
  · omega
  · rw [r_abc_a]; decide +kernel
  · rw [r_ab_a]; decide +kernel
  · rw [r_ac_a]; decide +kernel
  · omega
def spTriangle (K : PySem.W.Frag) : Sp := fun vs H Q _ => ∃ (v : V) (ns : List Int), vs = [v] ∧ Ls K H v (ns.map PyData.int) ∧ ns.length ≤ 63 ∧
  ∀ p xs H' n c, 2 ≤ n → n ≤ 22 → (∀ r q, DW.ltr (c r q)) → H p = none → Ex H H' → H' p = some (.lst xs) → ImAll K H' xs ((triD n c).map PyData.str) → Q (.ref p) H'
end
end DWL
/-! how many signs a text has, no sign told twice -/
namespace DWL
open PySem PySem.Spec PyProof.Rows L2 Evl
/-- the new ones of a list, some seen -/
def news : List Nat → List Nat → Nat
  | _, [] => 0
  | seen, c :: r => (if seen.contains c then 0 else 1) + news (c :: seen) r
theorem news_le : ∀ (l seen : List Nat), news seen l ≤ l.length
  | [], _ => Nat.le_refl _
  | c :: r, seen => by
    have := news_le r (c :: seen)
    show (if seen.contains c = true then 0 else 1) + news (c :: seen) r ≤ r.length + 1
    split <;> omega
theorem sign_inj {a b : Nat} : ((⟨#[a]⟩ : Str) = ⟨#[b]⟩) ↔ a = b := by
  constructor
  · intro h
    have := congrArg (fun z : Str => z.cps.toList) h
    simpa using this
  · rintro rfl; rfl
def isSign (seen : List Nat) : Str → Bool := fun k => seen.any fun c => decide (k = ⟨#[c]⟩)
theorem isSign_at {seen : List Nat} {c : Nat} : isSign seen ⟨#[c]⟩ = seen.contains c := by
  unfold isSign
  rw [Bool.eq_iff_iff, List.any_eq_true, List.contains_iff_mem]
  constructor
  · rintro ⟨d, h, e⟩
    have := sign_inj.mp (of_decide_eq_true e)
    rw [this]; exact h
  · intro h
    exact ⟨c, h, decide_eq_true rfl⟩
section
variable {prog : Program} {w : World} {A : Around} {R : Result → Shared → Prop} {I : Addr} {fp wr : List Addr} {n : Nat} {x : Str} {St : Nat → Heap → Prop}
theorem loopSign (W : Walks prog w A.in1 I fp wr n (SignAt x) St) (hn : n = x.cps.size) (S : Addr) (hSf : S ∉ fp) (hb : n + 1 < scanBound) :
    ∀ (k i : Nat) (s : Shared) (seen : List Nat) (m : Nat), n - i = k → i ≤ n → m ≤ i → St i s.heap →
      s.heap.SetOf (PySem.strKind prog w) S (isSign seen) m →
      (∀ h' tk S', (∀ b o, b ∉ S :: wr → s.heap.get? b = some o → h'.get? b = some o) → h'.SetOf (PySem.strKind prog w) S S' (m + news seen (x.cps.toList.drop i)) → R (.ok (.ret .none)) { s with heap := h', toks := tk }) →
      codeAny (model prog w) A (.builtin "set.update.loop" ⟨[.ref S, .ref I], []⟩) R s := by
  have hSw : S ∉ wr := fun h => hSf (W.sub _ h)
  have hsub : ∀ b, b ∉ S :: wr → b ∉ wr := fun b hb h => hb (List.mem_cons_of_mem _ h)
  intro k
  induction k with
  | zero =>
    intro i s seen m hk hi hm hst hS hR
    have hin : i = n := by omega
    subst hin
    refine codeAny_builtin PyProof.Rows.F.entry_set_update_loop ?_
    rw [Around.under_plainId PyProof.Rows.F.plain_set_update_loop _]
    show wpAny _ A.in1 (pyNext (.ref I) >>= _) _ _ s
    refine wpAny_bind (W.done s _ _ hst fun h' tk hk' => ?_)
    show wpAny _ A.in1 (ret Value.none) _ _ _
    refine wpAny_pure (hR h' tk (isSign seen) (fun b o hb e => hk' b o (hsub b hb) e) ?_)
    rw [List.drop_of_length_le (by rw [hn]; simp)]
    obtain ⟨o, es, ep, t, ho, rest⟩ := hS
    exact ⟨o, es, ep, t, hk' S o hSw ho, rest⟩
  | succ k ih =>
    intro i s seen m hk hi hm hst hS hR
    have hlt : i < n := by omega
    refine codeAny_builtin PyProof.Rows.F.entry_set_update_loop ?_
    rw [Around.under_plainId PyProof.Rows.F.plain_set_update_loop _]
    show wpAny _ A.in1 (pyNext (.ref I) >>= _) _ _ s
    refine wpAny_bind (W.item i s _ _ hlt hst fun v h1 tk1 hP hst' hk1 => ?_)
    obtain ⟨c, t, hc, rfl⟩ := hP
    have hd := Fz.drop_at hc
    have hS' : h1.SetOf (PySem.strKind prog w) S (isSign seen) m := by
      obtain ⟨o, es, ep, tb, ho, rest⟩ := hS
      exact ⟨o, es, ep, tb, hk1 S o hSw ho, rest⟩
    show wpAny _ A.in1 (holding [Value.str ⟨#[c]⟩ t] (setAdd S (.str ⟨#[c]⟩ t)) >>= _) _ _ _
    refine wpAny_bind (wpAny_holding ?_)
    unfold setAdd
    refine wpAny_holding ?_
    refine wpAny_bind ((PySem.strKind prog w).pyHash (k := (⟨#[c]⟩ : Str)) (strKind_is _ _ _ _) ?_)
    refine wpAny_setAddHashed_of (knd := PySem.strKind prog w) (s := { s with heap := h1, toks := tk1 + 1 }) (strKind_is _ _ _ _) rfl hS' (by omega) fun h' hsb hS2 => ?_
    rw [isSign_at] at hS2
    have hSi : h'.SetOf (PySem.strKind prog w) S (isSign (c :: seen)) (if seen.contains c = true then m else m + 1) := by
      refine SetOf_congr hS2 (fun k' => ?_) rfl
      show ((isSign seen) k' || decide (k' = (⟨#[c]⟩ : Str))) = _
      unfold isSign
      rw [List.any_cons, Bool.or_comm]
    refine wpAny_pure ⟨plainId_quiet PyProof.Rows.F.plain_set_update_loop _, ih (i + 1) { s with heap := h', toks := tk1 + 1 } (c :: seen) _ (by omega) hlt (by split <;> omega) (W.frame _ _ _ hst' fun b hb o e => ?_) hSi fun h2 tk2 S' hk2 hS3 => ?_⟩
    · rw [hsb.2 b (fun h : b = S => hSf (by rw [← h]; exact hb))]; exact e
    · refine hR h2 tk2 S' (fun b o hb e => hk2 b o hb ?_) ?_
      · rw [hsb.2 b (fun h : b = S => hb (by rw [h]; exact List.mem_cons_self))]; exact hk1 b o (hsub b hb) e
      · rw [hd]
        show h2.SetOf _ S S' (m + ((if seen.contains c = true then 0 else 1) + news (c :: seen) (x.cps.toList.drop (i + 1))))
        have e : m + ((if seen.contains c = true then 0 else 1) + news (c :: seen) (x.cps.toList.drop (i + 1))) = (if seen.contains c = true then m else m + 1) + news (c :: seen) (x.cps.toList.drop (i + 1)) := by split <;> omega
        rw [e]; exact hS3
end
section
variable {prog : Program} {w : World} {A : Around} {E : Value → Shared → Prop} {s : Shared}
theorem call_set_text {x : Str} {t0 : Tok} {Q : Value → Shared → Prop} (hh : A.handled = none) (hb : x.cps.size + 1 < scanBound)
    (h : ∀ (h' : Heap) (tk : Nat) S', h'.SetOf (PySem.strKind prog w) s.heap.objs.size S' (news [] x.cps.toList) →
      (∀ b o, b < s.heap.objs.size → s.heap.get? b = some o → h'.get? b = some o) → Q (.ref s.heap.objs.size) { s with heap := h', toks := tk }) :
    wpAny (model prog w) A (call (.type "set") [.str x t0]) Q E s := by
  obtain ⟨c, tl, hmro⟩ := PySem.F.called_set.mro
  have hmade := PySem.F.called_set.made
  have hsub := PySem.F.called_set.sub
  refine wpAny_call (codeAny_of_tree ?_)
  show wpAny _ _ (callAny (.type "set") _) _ _ _
  refine wpAny_pure ⟨Code.quiet_builtin _ (by decide +kernel), codeAny_builtin PySem.F.entry_type_call ?_⟩
  rw [Around.under_plain (weight_type_call_type "set" [.str x t0] []) rfl]
  have h1 := PySem.F.called_set.notType
  have h2 := PySem.F.called_set.canCreate
  have hct := PySem.F.typeCall_set_1 (.str x t0)
  repeat (any_goals (first | assumption | wp_step))
  refine codeAny_mono (code_set_new_1 (.str x t0) (E := E) (Q₁ := fun obj s₁ => ∃ led : Bool, obj = .ref s.heap.objs.size ∧ s₁ = { s with heap := s.heap.push { cls := .type "set", dict := none, data := .set #[] 0 (.fresh 0 0 led) } }) fun led => ⟨led, rfl, rfl⟩) fun r s₁ hr => ?_
  cases r with
  | error e => exact hr
  | ok fl =>
    cases fl with
    | ret obj =>
      obtain ⟨led, rfl, rfl⟩ := hr
      have hS : (s.heap.push { cls := .type "set", dict := none, data := .set #[] 0 (.fresh 0 0 led) }).get? s.heap.objs.size = some { cls := .type "set", dict := none, data := .set #[] 0 (.fresh 0 0 led) } := Heap.get?_push_size _ rfl
      have hT : Shared.TypeIs { s with heap := s.heap.push { cls := .type "set", dict := none, data := .set #[] 0 (.fresh 0 0 led) } } (.ref s.heap.objs.size) "set" := ⟨_, hS, rfl⟩
      have hli := PySem.F.called_set.init.lookup
      have hbi := PySem.F.called_set.init.bind (.ref s.heap.objs.size)
      repeat (any_goals (first | assumption | wp_step))
      refine codeAny_mono (codeAny_call_builtin (R := wants (fun r s₂ => r = .none ∧ ∃ h' tk S', s₂ = { s with heap := h', toks := tk } ∧
          h'.SetOf (PySem.strKind prog w) s.heap.objs.size S' (news [] x.cps.toList) ∧
          (∀ b o, b < s.heap.objs.size → s.heap.get? b = some o → h'.get? b = some o)) E) PySem.F.called_set.init.plain PySem.F.entry_set_init (check_set_init_1 hT ?_)) fun r₂ s₂ hr₂ => ?_
      · have hsls := PySem.F.sub_str_set
        have hslf := PySem.F.sub_str_frozenset
        unfold Builtin.«set.__init__» noKeywords Builtin.Frozenset.updateFrom
        generalize hPI : pyIter = PI
        wp_walk
        subst hPI
        refine wpAny_pyIter_str fun o St hW hst => ?_
        refine wpAny_bind (wpAny_runValue ?_)
        have hh3 : A.in1.in1.in1.handled = none := by simp [hh]
        have e1 : (s.heap.push { cls := .type "set", dict := none, data := .set #[] 0 (.fresh 0 0 led) }).objs.size = s.heap.objs.size + 1 := Heap.size_push ..
        refine loopSign (hW _ hh3) rfl s.heap.objs.size ?hSf hb (x.cps.size - 0) 0 _ [] 0 (by omega) (Nat.zero_le _) (Nat.le_refl _) hst ?hS0 ?hR
        case hSf => simp only [List.mem_singleton]; rw [Heap.size_push]; exact Nat.ne_of_lt (Nat.lt_succ_self _)
        case hS0 =>
          have hget : ((s.heap.push { cls := .type "set", dict := none, data := .set #[] 0 (.fresh 0 0 led) }).push o).get? s.heap.objs.size
              = some { cls := .type "set", dict := none, data := .set #[] 0 (.fresh 0 0 led) } := Heap.get?_push_of_some _ hS
          exact PyProof.Rows.SetOf_congr ((PyProof.Rows.setObjOf_fresh (knd := PySem.strKind prog w) led).setOf hget (by unfold scanBound; omega)) (fun _ => rfl) rfl
        case hR =>
          intro h' tk S' hk hS'
          refine wpAny_pure ?_
          show wpAny _ _ (ret Value.none) _ _ _
          rw [Nat.zero_add] at hS'
          refine wpAny_pure ⟨rfl, h', tk, S', rfl, hS', fun b o' hb e => ?_⟩
          refine hk b o' ?_ (Heap.get?_push_of_some _ (Heap.get?_push_of_some _ e))
          simp only [List.mem_cons, List.mem_singleton, List.not_mem_nil, or_false, not_or]
          exact ⟨Nat.ne_of_lt hb, by rw [Heap.size_push]; exact Nat.ne_of_lt (Nat.lt_succ_of_lt hb)⟩
      · cases r₂ with
        | error e => exact hr₂
        | ok fl₂ =>
          cases fl₂ with
          | ret r =>
            obtain ⟨rfl, h', tk, S', rfl, hS', hk'⟩ := hr₂
            repeat (any_goals (first | assumption | wp_step))
            exact h _ _ _ hS' hk'
          | _ => exact hr₂.elim
    | _ => exact hr.elim
end
section
variable {X : Cx} {K : PySem.W.Frag}
/-- len(set(text)) -/
def tLenSetX (ta : TE) : TE := fun σ H Q => ta σ H fun x H1 => ∃ z, x = .str z ∧ z.cps.size + 1 < scanBound ∧ Q (.int (news [] z.cps.toList)) H1
theorem pe_lenSetX {a : Expr} {ta : TE} {p p2 q pos : Pos} (hc : X.calm = true) (hg : Gl X "len") (hm : X.mg "len" = none) (hg2 : Gl X "set") (hm2 : X.mg "set" = none) (ha : PE X a ta)
    (na : starEach [a] X.env = (false, eval a X.env) :: starEach [] X.env := by rfl) : PE X (.Call (.Name "len" p) [.Call (.Name "set" p2) [a] [] q] [] pos) (tLenSetX ta) := by
  refine ⟨fun pins s σ H Q I h => ?_⟩
  refine Call_ (ld_blt I hg hm boot_len ?_)
  refine PyProof.Rows.callWith_builtin1 (PyProof.Rows.args_cons ?_ rfl) rfl rfl
  refine Call_ (ld_blt I hg2 hm2 boot_set ?_)
  refine PyProof.Rows.callWith_type1 (PyProof.Rows.args_cons (thn (ha.run pins s σ H _ I h) fun v s1 ⟨x, H1, I1, r1, q1⟩ => PyProof.Rows.args_nil ?_) na) na rfl
  obtain ⟨z, rfl, hb, q1⟩ := q1
  obtain ⟨t, rfl⟩ := r1
  refine call_set_text (I1.ok.hd hc) hb fun h' tk S' hS hk => ?_
  refine PyProof.Rows.args_nil ?_
  obtain ⟨o, es, ep, t, ho, hex, hd, _, _, _, hf, hn⟩ := hS
  have I2 : Inv X pins σ H1 { s1 with heap := h', toks := tk } := I1.kept fun b o e => hk b o (Heap.lt_size e) e
  refine call_len_set ho hex hd hf (by rw [hn]; have := news_le z.cps.toList []; simp at this; unfold scanBound at hb; omega) ⟨.int (news [] z.cps.toList), H1, I2.tok _, ⟨_, by rw [hn]⟩, q1⟩
variable {te : TE} {σ : L2.St} {H : Hp} {z : Str}
theorem ei_lenSetX (h : EvI K te σ H (.str z)) (hb : z.length ≤ 10) : EvI K (tLenSetX te) σ H (.int (news [] z.cps.toList)) := fun H1 e Q q => h H1 e _ fun v H2 e2 r => by
  cases r
  exact ⟨z, rfl, (by rw [length_cps] at hb; simp at hb; unfold scanBound; omega), q _ H2 e2 (.int _)⟩
end
end DWL
/-! slices of a list with a step; how often a text lies in a list -/
namespace DWL
open PySem PySem.Spec PyProof.Rows L2 Evl
/-- what is picked lies in the list -/
def Pickd {α : Type} (ix : List Nat) (xs : List α) : List α := ix.filterMap (xs[·]?)
theorem pickd_mem {α : Type} {ix : List Nat} {xs : List α} {x : α} (h : x ∈ Pickd ix xs) : x ∈ xs := by
  obtain ⟨i, _, e⟩ := List.mem_filterMap.mp h
  exact List.mem_of_getElem? e
theorem vals_pickd {xs : List V} {us : List Value} (r : Vals xs us) : ∀ ix : List Nat, Vals (Pickd ix xs) (Pickd ix us)
  | [] => .nil
  | i :: ix => by
    unfold Pickd
    cases hx : xs[i]? with
    | none =>
      have hu : us[i]? = none := by
        rw [List.getElem?_eq_none_iff] at hx ⊢
        rw [← r.length]; exact hx
      rw [List.filterMap_cons, List.filterMap_cons, hx, hu]
      exact vals_pickd r ix
    | some x =>
      obtain ⟨u, hu, ru⟩ := r.get hx
      rw [List.filterMap_cons, List.filterMap_cons, hx, hu]
      exact .cons ru (vals_pickd r ix)
theorem imall_pickd {K : PySem.W.Frag} {H : Hp} {xs : List V} {ds : List PyData} (r : ImAll K H xs ds) : ∀ ix : List Nat, ImAll K H (Pickd ix xs) (Pickd ix ds)
  | [] => .nil
  | i :: ix => by
    unfold Pickd
    cases hx : ds[i]? with
    | none =>
      have hu : xs[i]? = none := by
        rw [List.getElem?_eq_none_iff] at hx ⊢
        rw [r.length]; exact hx
      rw [List.filterMap_cons, List.filterMap_cons, hx, hu]
      exact imall_pickd r ix
    | some x =>
      obtain ⟨u, hu, ru⟩ := r.get hx
      rw [List.filterMap_cons, List.filterMap_cons, hx, hu]
      exact .cons ru (imall_pickd r ix)
theorem pickd_len {α : Type} (ix : List Nat) (xs : List α) : (Pickd ix xs).length ≤ ix.length := List.length_filterMap_le ..
theorem bounds_len (lo : Option Int) (k : Int) (hk : 0 < k) (n : Nat) : (sliceRange (sliceBounds lo none (some k) n).1 (sliceBounds lo none (some k) n).2.1 (sliceBounds lo none (some k) n).2.2).length ≤ n := by
  refine sliceRange_length_le _ _ _ n (fun _ => ⟨?_, ?_⟩) (fun h => absurd hk h)
  · unfold sliceBounds
    cases lo with
    | none => simp [hk]
    | some i => simp [hk]; omega
  · unfold sliceBounds
    simp [hk]
def stepIx (lo : Option Int) (k : Int) (n : Nat) : List Nat := sliceRange (sliceBounds lo none (some k) n).1 (sliceBounds lo none (some k) n).2.1 (sliceBounds lo none (some k) n).2.2
section
variable {X : Cx} {K : PySem.W.Frag}
/-- xs[lo::k], k above nought: some list of what lies in xs -/
def tStepL (K : PySem.W.Frag) (te : TE) (tl ts : TO) : TE := fun σ H Q => te σ H fun x H1 => tl σ H1 fun lo H2 => ts σ H2 fun o H3 => ∃ a xs k, x = .ref a ∧ SqL K H3 a xs ∧ o = some k ∧ 0 < k ∧
  ∀ p, H3 p = none → Q (.ref p) (upd H3 p (.lst (Pickd (stepIx lo k xs.length) xs)))
theorem pe_stepL {e ek : Expr} {te : TE} {lo : Option Expr} {tl ts : TO} {p3 pos : Pos} (hX : X.K = K) (he : PE X e te) (hl : PO X lo tl) (hk : PO X (some ek) ts) : PE X (.Subscript e (.Slice lo none (some ek) p3) pos) (tStepL K te tl ts) := by
  subst hX
  refine ⟨fun pins s σ H Q I h => ?_⟩
  refine Subscript_ (thn (he.run pins s σ H _ I h) fun v s1 ⟨x, H1, I1, r1, q1⟩ => ?_)
  refine wpAny_Slice (thn (hl.run pins s1 σ H1 _ I1 q1) fun vl s2 ⟨l, H2, I2, pl, q2⟩ => ?_)
  refine thn (po_none.run pins s2 σ H2 (fun o H3 => o = none ∧ H3 = H2) I2 ⟨rfl, rfl⟩) fun vu s3 ⟨u, H3, I3, pu, eu, e3⟩ => ?_
  subst eu e3
  refine thn (hk.run pins s3 σ H3 _ I3 q2) fun vs s4 ⟨o, H4, I4, ps, a, xs, k, ex, hx, eo, k0, q⟩ => ?_
  subst eo ex
  cases r1
  have I5 : Inv X pins σ H4 { s4 with heap := s4.heap.push { cls := .type "slice", data := .fields #[vl, vu, vs] } } := I4.kept (t' := s4.toks) fun b ob q => Heap.get?_push_of_some _ q
  obtain ⟨its, r, ht, hz⟩ := I5.list hx
  have hlen := r.length
  show wpAny (model X.prog X.w) X.A (subscriptTail e (.Slice lo none (some ek) p3) (.ref a) (.ref s4.heap.objs.size)) (EP X pins σ Q) X.xe { s4 with heap := s4.heap.push { cls := .type "slice", data := .fields #[vl, vu, vs] } }
  refine tail_any (ops := [.ref a, .ref s4.heap.objs.size]) ht.isList.typeIs (PySem.slot_list_getitem.lookup) ?_ (by with_unfolding_all rfl)
  refine wpAny_getItem_list_slice ht.isList (Heap.IsSliceOf.new _ vl vu vs) pl pu ps (by simp; omega) ?_ (by rw [List.size_toArray]; omega)
  generalize hix : sliceRange (sliceBounds l none (some k) its.toArray.size).1 (sliceBounds l none (some k) its.toArray.size).2.1 (sliceBounds l none (some k) its.toArray.size).2.2 = ix
  have hl2 : ix.length ≤ its.toArray.size := by rw [← hix]; exact bounds_len l k k0 _
  have ep : slicePick its.toArray l none (some k) = (Pickd ix its).toArray := by
    unfold slicePick Pickd
    rw [hix]
    congr 1
    refine congrArg (fun f => List.filterMap f ix) (funext fun i => ?_)
    simp
  rw [ep]
  have eix : stepIx l k xs.length = ix := by
    rw [hlen, ← hix, List.size_toArray]; rfl
  rw [eix] at q
  refine ⟨.ref _, _, I5.laid (t' := s4.toks) (o := .lst (Pickd ix xs)) (fun b ob q => Heap.get?_push_of_some _ q) (Nat.le_refl _) ?_, rfl, q _ (I5.hok.fresh (Nat.le_refl _))⟩
  refine ⟨?_, _, 0, vals_pickd r ix, Heap.get?_push_size _ rfl⟩
  have := pickd_len ix xs
  rw [List.size_toArray] at hl2
  omega
def rCntS (K : PySem.W.Frag) : V → List V → Hp → VK → Prop := fun x xs H Q => ∃ (p : Addr) (ns : List Str) (k : Str), x = .ref p ∧ xs = [.str k] ∧ SqL K H p (ns.map V.str) ∧ Q (.int (ns.count k : Nat)) H
theorem eqU_count {k : Str} : ∀ {ns : List Str} {its : List Value}, Vals (ns.map V.str) its → its.countP (eqU (.str k)) = ns.count k
  | [], _, .nil => rfl
  | n :: ns, _, .cons r t => by
    rw [List.countP_cons, List.count_cons, eqU_count t, eqU_of r rfl]
    rfl
theorem km_cntS (h : X.K = K) : MtR X "list.count" (rCntS K) := by
  subst h
  intro pins s σ H x xs v us Q I rx rxs h
  obtain ⟨p, ns, k, rfl, rfl, hs, q⟩ := h
  cases rx
  obtain ⟨u, rfl, ru⟩ := rxs.one
  obtain ⟨t, rfl⟩ := ru
  obtain ⟨its, rv, ⟨⟨cls, dd, data, sl⟩, n, ho, hc, hdn, hd⟩, hlen⟩ := I.list hs
  simp only at hc hd
  subst hc hd
  refine call_meets PySem.F.slot_list_count ⟨_, ho, rfl⟩ PySem.F.entry_list_count (PySem.F.args_list_count_2 _ _)
    (SeqAt.list_countAt p its.toArray n dd sl (.str k t) (eqU (.str k))) ⟨ho, fun y hy => mem_eqAt (x := .str k) ⟨t, rfl⟩ rfl rv (flat_strs ns) y (by simpa using hy), ?_⟩
  refine ⟨.int (ns.count k : Nat), H, I.tok _, ⟨s.toks, ?_⟩, q⟩
  show Value.int ((its.toArray.toList.countP (eqU (.str k)) : Nat) : Int) s.toks = Value.int ((ns.count k : Nat) : Int) s.toks
  rw [show its.toArray.toList.countP (eqU (.str k)) = ns.count k from eqU_count rv]
variable {te ta tk : TE} {tl ts : TO} {σ : L2.St} {H : Hp} {ds : List PyData}
/-- what is picked, as data -/
theorem en_stepL {lo : Option Int} {k : Int} (h : EvK K te σ H ds) (hl : EvO tl σ H lo) (hk : EvO ts σ H (some k)) (k0 : 0 < k) :
    EvN K (tStepL K te tl ts) σ H (Pickd (stepIx lo k ds.length) ds) := fun H1 e Q q => h H1 e _ fun v H2 e2 r => hl H2 (e.trans e2) _ fun H3 e3 => hk H3 ((e.trans e2).trans e3) _ fun H4 e4 => by
  obtain ⟨a, xs, rfl, g1, g2⟩ := (r.mono e3).mono e4
  refine ⟨a, xs, k, rfl, g1, rfl, k0, fun p hp => ?_⟩
  rw [g2.length]
  exact q p _ _ (fresh_back ((e2.trans e3).trans e4) hp) (((e2.trans e3).trans e4).trans (Ex.new hp)) upd_same ((imall_pickd g2 _).mono (Ex.new hp))
theorem ei_cntS {z : Str} {zs : List Str} (h : EvK K te σ H (zs.map PyData.str)) (ha : EvI K ta σ H (.str z)) : EvI K (tBM K "list" (rCntS K) te (tCons ta tNil)) σ H (.int (zs.count z : Nat)) := fun H1 e Q q => h H1 e _ fun v H2 e2 r => by
  obtain ⟨a, xs, rfl, g1, g2⟩ := r
  have := strs_back g2
  subst this
  refine ⟨.inl ⟨rfl, _, g1⟩, ha H2 (e.trans e2) _ fun u H3 e3 r3 => ?_⟩
  cases r3
  exact ⟨a, zs, z, rfl, rfl, ex_l e3 g1, q _ H3 (e2.trans e3) (.int _)⟩
end
end DWL
namespace DWL
open PySem PySem.Spec PyProof.Rows L2 Evl DW
section
variable {P : Program} {w : World} {K : PySem.W.Frag} {mg : Str → Option Value} {base : Heap}
local macro_rules | `(tactic| walk_at "v") => `(tactic| first | exact ei_int | exact ei_str | exact ei_bl | exact ei_non | exact ei_neg ei_int | exact ei_var rfl (Im.int _) | exact ei_var rfl (Im.str _) | exact ei_var rfl (Im.bl _) | exact ei_var rfl (by assumption) | exact et_len rfl (by assumption))
local macro_rules | `(tactic| walk_at "e") => `(tactic| first | walk_at "v" | (apply ei_I0i <;> walk_at "e") | (apply ei_I0b <;> walk_at "e") | (apply ei_chainI <;> walk_at "e") | (apply ei_eqI <;> walk_at "e") | (apply ei_eqS <;> walk_at "e") | (refine' ei_tup ?_ (Nat.le_of_ble_eq_true rfl) <;> walk_at "e") | (apply eai_cons <;> walk_at "e") | exact eai_nil)

theorem congrArg₂' {α : Type} {a b c d : List α} (h : a = b) (g : c = d) : a ++ c = b ++ d := by rw [h, g]
theorem take2 {α : Type} {l : List α} {k : Nat} {a b : α} (h1 : l[k]? = some a) (h2 : l[k + 1]? = some b) : (l.drop k).take 2 = [a, b] := by
  obtain ⟨q1, e1⟩ := List.getElem?_eq_some_iff.mp h1
  obtain ⟨q2, e2⟩ := List.getElem?_eq_some_iff.mp h2
  rw [List.drop_eq_getElem_cons q1, List.drop_eq_getElem_cons q2, e1, e2]; rfl
theorem rowS_at {n : Nat} {c : Nat → Nat → Nat} {r p : Nat} {i : Int} (h : r + p < n) (hi : i = (p : Int)) : atI (rowS n c r).cps.toList i = some (c r p) := by
  subst hi; exact atI_nat (rowS_get h)
theorem tri_at {n : Nat} {c : Nat → Nat → Nat} {r : Nat} {i : Int} (h : r < n) (hi : i = (r : Int)) : atI ((triD n c).map PyData.str) i = some (.str (rowS n c r)) := by
  subst hi; exact atI_nat (by rw [List.getElem?_map, triD_get h]; rfl)
theorem s3 (x y z : Nat) : ((⟨#[x]⟩ : Str) ++ ⟨#[y]⟩ ++ ⟨#[z]⟩) = st [x, y, z] := by
  show st [x] ++ st [y] ++ st [z] = _
  rw [st_app, st_app]; rfl
def sl2 (c : Nat → Nat → Nat) (s : Sm) : PyData := .tuple [smD s, .str (let3 c s)]
abbrev spLawSmalls (K : PySem.W.Frag) : Sp := PrN K (preTriN K fun n c => (smalls n).map (sl2 c))
theorem rowSm_len {n : Nat} (h : n ≤ 60) (i : Nat) : (rowSm n i).length ≤ 120 := by
  have : (rowSm n i).length ≤ (n - 1 - i) * 2 := flat_len _ 2 _ fun j _ => by split <;> simp
  omega
theorem smalls_len {n : Nat} (h : n ≤ 60) : (smalls n).length ≤ 7200 := by
  have := flat_len (rowSm n) 120 (n - 1) fun i _ => rowSm_len h i
  show ((List.range (n - 1)).flatMap (rowSm n)).length ≤ 7200
  omega
theorem pickd_map {α β : Type} (f : α → β) (xs : List α) : ∀ ix : List Nat, Pickd ix (xs.map f) = (Pickd ix xs).map f
  | [] => rfl
  | i :: ix => by
    unfold Pickd
    rw [List.filterMap_cons, List.filterMap_cons, List.getElem?_map]
    cases xs[i]? with
    | none => exact pickd_map f xs ix
    | some x => exact congrArg (f x :: ·) (pickd_map f xs ix)
theorem cutD_map {α β : Type} (f : α → β) (xs : List α) (lo hi : Option Int) : cutD (xs.map f) lo hi = (cutD xs lo hi).map f := by
  unfold cutD; rw [List.length_map, List.map_take, List.map_drop]
theorem cutD_mem {α : Type} {xs : List α} {lo hi : Option Int} {x : α} (h : x ∈ cutD xs lo hi) : x ∈ xs := List.mem_of_mem_drop (List.mem_of_mem_take h)
theorem cutD_len {α : Type} (xs : List α) (lo hi : Option Int) : (cutD xs lo hi).length ≤ xs.length := by
  unfold cutD; rw [List.length_take, List.length_drop]; omega
theorem stepIx_len (lo : Option Int) {k : Int} (hk : 0 < k) (n : Nat) : (stepIx lo k n).length ≤ n := bounds_len lo k hk n
theorem bind2 {v : V} {H : Hp} {d1 d2 : PyData} (h : Im K H v (.tuple [d1, d2])) : ∃ x y, Im K H x d1 ∧ Im K H y d2 ∧ ∀ (σ : L2.St) (i j : Nat) (Q : L2.St → Hp → Prop), Q ((σ.set i (some x)).set j (some y)) H → gTup K 2 (gCons (gName i) (gCons (gName j) gNil)) v σ H Q := by
  obtain ⟨a, xs, rfl, h1, h2⟩ := h.tup_inv
  cases h2 with
  | cons a1 r => cases r with
    | cons a2 r => cases r; exact ⟨_, _, a1, a2, fun σ i j Q q => ⟨a, _, rfl, h1, rfl, _, _, rfl, _, _, rfl, rfl, q⟩⟩
/-! ### the turn by the law -/
def preLawTurn (K : PySem.W.Frag) : List V → Hp → PyData → Prop := fun vs H d => ∃ x y z, vs = [.str (st [x, y, z])] ∧ x ∈ L3 ∧ y ∈ L3 ∧ z ∈ L3 ∧ d = .int (tn x y z)
theorem law_turn_str : ∀ x ∈ L3, ∀ y ∈ L3, ∀ z ∈ L3, (if decide ((news [] (st [x, y, z]).cps.toList : Int) < 3) = true then (0 : Int) else if decide ((0 : Int) ≤ Txt.find (st [x, y, z] ++ st [x, y, z]) "abc") = true then 1 else -1) = tn x y z := by decide +kernel
/-! ### the side by the law -/
theorem en_revL {te : TE} {σ : L2.St} {H : Hp} {ds : List PyData} (h : EvK K te σ H ds) : EvN K (tRevL K te) σ H ds.reverse := fun H1 e Q q => h H1 e _ fun v H2 e2 r => by
  obtain ⟨a, xs, rfl, g1, g2⟩ := r
  refine ⟨a, xs, rfl, g1, fun p hp => q p _ _ (fresh_back e2 hp) (e2.trans (Ex.new hp)) upd_same ?_⟩
  have rev : ∀ {xs : List V} {ds : List PyData}, ImAll K H2 xs ds → ImAll K H2 xs.reverse ds.reverse := fun {xs} => by
    induction xs with
    | nil => intro ds g; cases g; exact .nil
    | cons x xs ih =>
      intro ds g
      cases g with
      | cons g1 g2 =>
        rw [List.reverse_cons, List.reverse_cons]
        exact (ih g2).append (.cons g1 .nil)
  exact (rev g2).mono (Ex.new hp)
def sideS (n : Nat) (c : Nat → Nat → Nat) : Str := st ((sideSp n).map (lt2 c))
def preTriI (K : PySem.W.Frag) (f : Nat → (Nat → Nat → Nat) → PyData) : List V → Hp → PyData → Prop := preTri K f
abbrev spLawSide (K : PySem.W.Frag) : Sp := PrI K (preTri K fun n c => .str (sideS n c))
theorem rev_range {α : Type} (f : Nat → α) (n : Nat) : ((List.range n).reverse.map f) = (List.range n).map fun i => f (n - 1 - i) := by
  refine List.ext_getElem? fun i => ?_
  by_cases h : i < n
  · rw [List.getElem?_map, List.getElem?_map, List.getElem?_reverse (by simpa using h), List.length_range, List.getElem?_range h, List.getElem?_range (by omega)]; rfl
  · rw [List.getElem?_eq_none (by simp; omega), List.getElem?_eq_none (by simp; omega)]
theorem side_str {n : Nat} (h2 : 2 ≤ n) (c : Nat → Nat → Nat) : (((List.range n).map (c 0)).take (n - 1)) ++ (List.range n).map (fun r => c r (n - 1 - r)) ++ ((List.range n).reverse.map fun r => c r 0).drop 1 = (sideSp n).map (lt2 c) := by
  obtain ⟨m, rfl⟩ : ∃ m, n = m + 1 := ⟨n - 1, by omega⟩
  rw [rev_range]
  show _ = (((List.range m).map (fun p => ((0, p) : Sp2))) ++ (List.range m).map (fun r => ((r, m + 1 - 1 - r) : Sp2)) ++ (List.range (m + 1)).map (fun r => ((m + 1 - 1 - r, 0) : Sp2))).map (lt2 c)
  rw [List.map_append, List.map_append, List.map_map, List.map_map, List.map_map, ← List.map_take, List.take_range, show min (m + 1 - 1) (m + 1) = m by omega]
  rw [List.append_assoc, List.append_assoc]
  refine congrArg₂' rfl ?_
  rw [List.range_succ (n := m), List.map_append, List.append_assoc]
  refine congrArg₂' rfl ?_
  rw [← List.range_succ, List.range_succ_eq_map]
  simp [lt2]
theorem cat_strs (f : Nat → Nat) (l : List Nat) : Txt.join (st []) (l.map fun r => st [f r]) = st (l.map f) := by
  refine str_ext ?_
  rw [join_nil, st_list, List.map_map]
  induction l with
  | nil => rfl
  | cons a l ih => rw [List.map_cons, List.flatten_cons, ih]; simp [st]
theorem join_few (f : Nat → Nat) (l : List Nat) (h : l.length ≤ 1000) : ((l.map fun r => st [f r]).map (·.length)).sum + (l.map fun r => st [f r]).length * (st []).length ≤ 16777216 := by
  have : ((l.map fun r => st [f r]).map (·.length)).sum = l.length := by
    rw [List.map_map]
    clear h
    induction l with
    | nil => rfl
    | cons a l ih => rw [List.map_cons, List.sum_cons, ih, List.length_cons]; show (st [f a]).length + _ = _; rw [st_len]; simp; omega
  rw [this]
  show l.length + _ * 0 ≤ _
  omega
theorem y_tri {i j : Nat} {v : V} {σ : L2.St} {H : Hp} {D : Ends} {tz : TS} {ns : List Int} (hv : σ[i]? = some (some v)) (hS : Ls K H v (ns.map PyData.int)) (h63 : ns.length ≤ 63)
    (k : ∀ p H1 n c, n ≤ 22 → Ex H H1 → Tri K H1 (.ref p) n c → tz D (σ.set j (some (.ref p))) H1) : tSeq (tAsg (tCall (spTriangle K) [] E0 (tCons (tVar i) tNil)) (gName j)) tz D σ H :=
  ⟨v, hv, v, ns, rfl, hS, h63, fun p xs H' n c h2 h22 hl _ e hx hi => k p H' n c h22 e ⟨h2, by omega, hl, Lm.ls ⟨p, xs, rfl, hx, hi⟩⟩⟩
def cA (r p : Nat) : Nat := if r = 0 then (if p = 0 then 97 else 98) else 99
def cB (r p : Nat) : Nat := if r = 0 then (if p = 0 then 98 else 97) else 99
theorem cA_ltr (r p : Nat) : DW.ltr (cA r p) := by unfold cA DW.ltr; split <;> (try split) <;> omega
theorem cB_ltr (r p : Nat) : DW.ltr (cB r p) := by unfold cB DW.ltr; split <;> (try split) <;> omega
theorem triA : (triD 2 cA) = [("ab" : Str), "c"] := by decide +kernel
theorem triB : (triD 2 cB) = [("ba" : Str), "c"] := by decide +kernel
theorem fullsA : fulls 2 cA = [(0, 0, 1)] := by decide +kernel
theorem aroundB : around 2 cB = -1 := by decide +kernel
theorem ex_triA {σ : L2.St} {H : Hp} : EvX (tLst (tCons (tC (.str "ab")) (tCons (tC (.str "c")) tNil))) σ H fun v H1 => Tri K H1 v 2 cA :=
  EvX.imp (EvN.k (en_lst (ds := [.str "ab", .str "c"]) (eai_cons ei_str (eai_cons ei_str eai_nil)) (Nat.le_of_ble_eq_true rfl))) fun v H1 r => ⟨by decide, by decide, cA_ltr, by rw [triA]; exact r⟩
theorem ex_triB {σ : L2.St} {H : Hp} : EvX (tLst (tCons (tC (.str "ba")) (tCons (tC (.str "c")) tNil))) σ H fun v H1 => Tri K H1 v 2 cB :=
  EvX.imp (EvN.k (en_lst (ds := [.str "ba", .str "c"]) (eai_cons ei_str (eai_cons ei_str eai_nil)) (Nat.le_of_ble_eq_true rfl))) fun v H1 r => ⟨by decide, by decide, cB_ltr, by rw [triB]; exact r⟩
def spLaw (K : PySem.W.Frag) : Sp := fun vs H Q _ => ∃ (v : V) (ns : List Int), vs = [v] ∧ Ls K H v (ns.map PyData.int) ∧ ns.length ≤ 63 ∧ ∀ H', Q (.bl true) H'
end
end DWL
/-! classes: methods, making, fields -/
namespace DWL
open PySem PySem.Spec PyProof.Rows L2 Evl DW
def DefM (K : PySem.W.Frag) (C : Addr) (m q : Str) (st : Stmt) : Prop := ∃ f fd, FunD K m q (defArgs st) (defBody st) (defScope st) [] [] f fd ∧ Meth K C m f
def DefI (K : PySem.W.Frag) (C : Addr) (q : Str) (st : Stmt) : Prop := ∃ f fd, FunD K "__init__" q (defArgs st) (defBody st) (defScope st) [] [] f fd ∧ Mk K C f
def CalleeM (P : Program) (w : World) (K : PySem.W.Frag) (mg : Str → Option Value) (base : Heap) (CX : CXT) (k : Nat) (C : Addr) (m : Str) (ps : List Str) (sp : Sp) : Prop :=
  ∃ f fd, FnOk P w K mg base CX k f fd ps sp ∧ Meth K C m f ∧ Binds K fd ps []
def CalleeI (P : Program) (w : World) (K : PySem.W.Frag) (mg : Str → Option Value) (base : Heap) (CX : CXT) (k : Nat) (C : Addr) (ps : List Str) (sp : Sp) : Prop :=
  ∃ f fd, FnOk P w K mg base CX k f fd ps sp ∧ Mk K C f ∧ Binds K fd ps []
section
variable {P : Program} {w : World} {K : PySem.W.Frag} {mg : Str → Option Value} {base : Heap} {C : Addr}
theorem DefM.ok {m q : Str} {st : Stmt} {N ps : List Str} {k : Nat} {sp : Sp} (F : DefM K C m q st) (S : FnScope N ps (defScope st))
    (hb : ∀ (kV doc pm : Value) (an : Option Addr) (cdv ct : Value) (us : List Value), us.length = ps.length → bindArgs (PySem.W.fnOf m q (defArgs st) (defBody st) (defScope st) .none kV doc pm an cdv ct) ⟨us, []⟩ = pure (ps.zip us)) (len : ∀ vs H Q E, sp vs H Q E → vs.length = ps.length)
    (hbody : ∀ (f : Addr) (cdv : Value) (A : Around) (outer : List Env) (s : Shared) (H : Hp) (vs : List V) (Q : VK) (E : XK), Room k (A.deeper (envOfC q (defScope st) s.heap.objs.size f cdv)) → sp vs H Q E →
      ∃ t, PSs (cxOf CX0 P w K mg base N q (defScope st) f cdv A outer s H E).nox (defBody st) t ∧ t { nx := fun _ H' => Q .non H', rt := Q } (start N vs) H) : CalleeM P w K mg base CX0 (k + 1) C m ps sp := by
  obtain ⟨f, fd, hF, hg⟩ := F
  refine ⟨f, fd, hF.ok S len fun cdv A outer s H vs Q E hr hsp => ?_, hg, hF.bindsN hb⟩
  obtain ⟨t, h, q⟩ := hbody f cdv A outer s H vs Q E hr hsp
  exact ⟨t, h.nox, q⟩
theorem DefI.ok {q : Str} {st : Stmt} {N ps : List Str} {k : Nat} {sp : Sp} (F : DefI K C q st) (S : FnScope N ps (defScope st))
    (hb : ∀ (kV doc pm : Value) (an : Option Addr) (cdv ct : Value) (us : List Value), us.length = ps.length → bindArgs (PySem.W.fnOf "__init__" q (defArgs st) (defBody st) (defScope st) .none kV doc pm an cdv ct) ⟨us, []⟩ = pure (ps.zip us)) (len : ∀ vs H Q E, sp vs H Q E → vs.length = ps.length)
    (hbody : ∀ (f : Addr) (cdv : Value) (A : Around) (outer : List Env) (s : Shared) (H : Hp) (vs : List V) (Q : VK) (E : XK), Room k (A.deeper (envOfC q (defScope st) s.heap.objs.size f cdv)) → sp vs H Q E →
      ∃ t, PSs (cxOf CX0 P w K mg base N q (defScope st) f cdv A outer s H E).nox (defBody st) t ∧ t { nx := fun _ H' => Q .non H', rt := Q } (start N vs) H) : CalleeI P w K mg base CX0 (k + 1) C ps sp := by
  obtain ⟨f, fd, hF, hg⟩ := F
  refine ⟨f, fd, hF.ok S len fun cdv A outer s H vs Q E hr hsp => ?_, hg, hF.bindsN hb⟩
  obtain ⟨t, h, q⟩ := hbody f cdv A outer s H vs Q E hr hsp
  exact ⟨t, h.nox, q⟩
end
section
variable {X : Cx} {K : PySem.W.Frag} {e o : Expr} {es : List Expr} {t : TA} {ta tv : TE} {p pos apos : Pos} {C : Addr} {k : Nat} {ps : List Str} {sp : Sp}
theorem pe_makeC {x : Str} (c : CalleeI X.prog X.w X.K X.mg X.base CX0 k C ps sp) (hm : X.mg x = some (.ref C)) (hr : Room (k + 1) X.A) (hg : Gl X x) (ha : PA X (e :: es) t)
    (hdb : (x == ("__debug__" : Str)) = false := by decide) (he : starEach (e :: es) X.env = (false, eval e X.env) :: starEach es X.env := by rfl) (hpl : (backTo pos (starEach es X.env)).any (·.1) = false := by rfl) : PE X (.Call (.Name x p) (e :: es) [] pos) (tMake C sp [] E0 t) := by
  obtain ⟨f, fd, F, M, hb⟩ := c
  exact pe_make M F hr hg hm hb .nil pass0 ha hdb he hpl
theorem pe_methC {m : Str} {pl : Sem Bool} (c : CalleeM X.prog X.w X.K X.mg X.base CX0 k C m ps sp) (cls : Cls X.K C) (he : PE X o ta) (hr : Room k X.A) (ha : PA X (e :: es) t)
    (hst : starEach (e :: es) X.env = (false, eval e X.env) :: starEach es X.env := by rfl) (hpl : (backTo pos (starEach es X.env)).any (·.1) = false := by rfl)
    (ht : eval (.Call (.Attribute o m apos) (e :: es) [] pos) X.env = (do
      let ov ← eval o X.env
      standAt apos.atName
      let (f, first) ← holding [ov] (getMethod ov m pl)
      callWith pos f first (backTo pos (starEach (e :: es) X.env)) (backToKw pos (keywordEach [] X.env))) := by rfl) : PE X (.Call (.Attribute o m apos) (e :: es) [] pos) (tMeth C m sp [] E0 ta t) := by
  obtain ⟨f, fd, F, M, hb⟩ := c
  exact pe_meth he cls M F hr hb .nil pass0 ha hst hpl ht
theorem ks_fld {f : Str} {pos' : Pos} {value : Expr} (h : X.K = K) (ha : PE X o ta) (hv : PE X value tv) (hs : swapsWith value (some (.Attribute o f pos')) pos.line X.env = pure false) : PS X (.Assign [.Attribute o f pos'] value pos) (sFld K ta tv f) := by subst h; exact ps_fld ha hv hs
end
/-! ### what is evaluated -/
section
variable {K : PySem.W.Frag} {σ : L2.St} {H H' : Hp} {te tv : TE} {ta : TA} {C : Addr} {fs : List (Str × V)} {f m : Str} {v : V} {R : V → Hp → Prop} {d : PyData} {ds : List PyData} {sp : Sp}
/-- an instance with these fields -/
def IsIns (C : Addr) (fs : List (Str × V)) : V → Hp → Prop := fun v H => ∃ a dx, v = .ref a ∧ H a = some (.ins C dx fs)
theorem mIns : Mon (IsIns C fs) := fun _ _ _ e ⟨a, dx, h1, h2⟩ => ⟨a, dx, h1, e _ _ h2⟩
theorem ex_fld (cls : Cls K C) (na : NoAttr K C f) (h : EvX te σ H (IsIns C fs)) (hl : fs.lookup f = some v) (hR : ∀ H1, Ex H H1 → R v H1) : EvX (tFld K te f) σ H R := fun H1 e Q q => h H1 e _ fun x H2 e2 ⟨a, dx, h1, h2⟩ =>
  ⟨a, C, dx, fs, v, h1, h2, cls, na, hl, q v H2 e2 (hR H2 (e.trans e2))⟩
theorem ei_meth (h : EvX te σ H (IsIns C fs)) (hl : fs.lookup m = none) {P : List V → Hp → Prop} {pre : List V → Hp → PyData → Prop} (ha : EvAX ta σ H P) (hp : ∀ x vs H1, Ex H H1 → IsIns C fs x H1 → P vs H1 → pre (x :: vs) H1 d) : EvI K (tMeth C m (PrI K pre) [] E0 te ta) σ H d := fun H1 e Q q =>
  h H1 e _ fun x H2 e2 hx => by
    obtain ⟨a, dx, h1, h2⟩ := id hx
    refine ⟨a, dx, fs, h1, h2, hl, ha H2 (e.trans e2) _ fun vs H3 e3 hP => ?_⟩
    rw [List.append_nil]
    exact ⟨d, hp x vs H3 (e.trans (e2.trans e3)) (mIns _ _ _ e3 hx) hP, fun v H4 e4 r => q v H4 (e2.trans (e3.trans e4)) r⟩
/-- all but the cell x stays -/
abbrev Kp (x : Addr) (H H' : Hp) : Prop := ∀ a o, a ≠ x → H a = some o → H' a = some o
theorem Kp.st {x : Addr} {H H0 H1 : Hp} {o : HO} (k : Kp x H H0) (e : Ex H0 H1) : Kp x H (upd H1 x o) := fun a u ne h => by
  rw [upd_ne ne]; exact e _ _ (k a u ne h)
/-- a maker that keeps what it is given -/
def spIni (C : Addr) (names : List Str) : Sp := fun vs H Q _ => ∃ x dx us, vs = .ref x :: us ∧ us.length = names.length ∧ H x = some (.ins C dx []) ∧ ∀ H', Kp x H H' → H' x = some (.ins C dx (names.zip us)) → Q .non H'
/-- a list copied into the field smalls, the rest kept -/
def spIniL (K : PySem.W.Frag) (C : Addr) (more : List Str) : Sp := fun vs H Q _ => ∃ x dx v ds rest, vs = .ref x :: v :: rest ∧ rest.length = more.length ∧ H x = some (.ins C dx []) ∧ Ls K H v ds ∧
  ∀ p xs H', H p = none → Kp x H H' → H' p = some (.lst xs) → ImAll K H' xs ds → H' x = some (.ins C dx (("smalls", .ref p) :: more.zip rest)) → Q .non H'
theorem ex_make {names : List Str} {P : List V → Hp → Prop} (ha : EvAX ta σ H P) (hn : ∀ vs H1, P vs H1 → vs.length = names.length) (hR : ∀ vs H1 v, Ex H H1 → (∃ H0, P vs H0 ∧ Ex H0 H1) → IsIns C (names.zip vs) v H1 → R v H1) : EvX (tMake C (spIni C names) [] E0 ta) σ H R := fun H1 e Q q =>
  ha H1 e _ fun vs H2 e2 hP x dx hx hdx ne => by
    rw [List.append_nil]
    have n1 : upd H2 dx (.own x) x = none := by rw [upd_ne (Ne.symm ne)]; exact hx
    have e3 : Ex H2 (upd (upd H2 dx (.own x)) x (.ins C dx [])) := (Ex.new hdx).trans (Ex.new n1)
    refine ⟨x, dx, vs, rfl, hn vs H2 hP, upd_same, fun H' keep h3 => ?_⟩
    have e4 : Ex H2 H' := fun a o h => keep a o (fun eq => by subst eq; rw [hx] at h; cases h) (e3 a o h)
    exact ⟨rfl, q _ _ (e2.trans e4) (hR vs _ _ (e.trans (e2.trans e4)) ⟨H2, hP, e4⟩ ⟨x, dx, rfl, h3⟩)⟩
theorem ex_makeL {more : List Str} {P : List V → Hp → Prop} (ha : EvAX ta σ H P) (hn : ∀ vs H1, P vs H1 → ∃ v rest, vs = v :: rest ∧ rest.length = more.length ∧ Ls K H1 v ds)
    (hR : ∀ v rest H1 x dx p, Ex H H1 → (∃ H0, P (v :: rest) H0 ∧ Ex H0 H1) → H1 x = some (.ins C dx (("smalls", .ref p) :: more.zip rest)) → H x = none → Grow K H H1 p ds → R (.ref x) H1) : EvX (tMake C (spIniL K C more) [] E0 ta) σ H R := fun H1 e Q q =>
  ha H1 e _ fun vs H2 e2 hP x dx hx hdx ne => by
    rw [List.append_nil]
    obtain ⟨v, rest, rfl, hr, hv⟩ := hn vs H2 hP
    have n1 : upd H2 dx (.own x) x = none := by rw [upd_ne (Ne.symm ne)]; exact hx
    have e3 : Ex H2 (upd (upd H2 dx (.own x)) x (.ins C dx [])) := (Ex.new hdx).trans (Ex.new n1)
    refine ⟨x, dx, v, ds, rest, rfl, hr, upd_same, hv.mono e3, fun p xs H' hp keep h1 h2 h3 => ?_⟩
    have e4 : Ex H2 H' := fun a o h => keep a o (fun eq => by subst eq; rw [hx] at h; cases h) (e3 a o h)
    have e5 : Ex H H' := e.trans (e2.trans e4)
    exact ⟨rfl, q _ _ (e2.trans e4) (hR v rest H' x dx p e5 ⟨H2, hP, e4⟩ h3 (fresh_back (e.trans e2) hx) ⟨fresh_back (e.trans (e2.trans e3)) hp, e5, xs, h1, h2⟩)⟩
end
/-! ### statements -/
section
variable {K : PySem.W.Frag} {σ : L2.St} {H H' : Hp} {to tv : TE} {C : Addr} {fs : List (Str × V)} {f : Str} {R : V → Hp → Prop} {D : Ends} {tz : TS}
theorem y_fld {a dx : Addr} {i : Nat} (v : V) (fs' : List (Str × V)) (hf : putF f v fs = fs') (cls : Cls K C) (na : NoAttr K C f) (hs : σ[i]? = some (some (.ref a))) (hi : H a = some (.ins C dx fs)) (hl : fs.length < 1000) (hv : EvV tv σ H v) (k : ∀ H1, Ex H H1 → tz D σ (upd H1 a (.ins C dx fs'))) : tSeq (sFld K (tVar i) tv f) tz D σ H :=
  hv H (Ex.refl H) _ fun u H1 e1 hu => by
    subst hu hf
    exact ⟨_, hs, a, C, dx, fs, rfl, e1 _ _ hi, cls, na, hl, k H1 e1⟩
theorem y_fldN {a dx : Addr} {i : Nat} {ds : List PyData} (fs' : V → List (Str × V)) (hf : ∀ v, putF f v fs = fs' v) (cls : Cls K C) (na : NoAttr K C f) (hs : σ[i]? = some (some (.ref a))) (hi : H a = some (.ins C dx fs)) (hl : fs.length < 1000) (hv : EvN K tv σ H ds)
    (k : ∀ p xs H1, H p = none → Ex H H1 → H1 p = some (.lst xs) → ImAll K H1 xs ds → tz D σ (upd H1 a (.ins C dx (fs' (.ref p))))) : tSeq (sFld K (tVar i) tv f) tz D σ H :=
  hv H (Ex.refl H) _ fun p xs H1 hp e1 h1 h2 => ⟨_, hs, a, C, dx, fs, rfl, e1 _ _ hi, cls, na, hl, by rw [hf]; exact k p xs H1 hp e1 h1 h2⟩
theorem sqT_ins {a l dx : Addr} {xs : List V} {o : HO} (hl : H l = some (.ins C dx fs)) (h : SqT K H a xs) : SqT K (upd H l o) a xs := by
  rcases h with h | h
  · refine .inl ?_
    have ne : a ≠ l := by
      rintro rfl
      rcases h with h | ⟨o', h⟩ <;> rw [hl] at h <;> cases h
    rcases h with h | ⟨o', h⟩
    · exact .inl (by rw [upd_ne ne]; exact h)
    · exact .inr ⟨o', by rw [upd_ne ne]; exact h⟩
  · exact .inr h
theorem ImAll.wrI {ds : List PyData} {vs : List V} {l dx : Addr} {o : HO} (hl : H l = some (.ins C dx fs)) (h : ImAll K H vs ds) : ImAll K (upd H l o) vs ds := ImAll.carry (fun _ _ q => sqT_ins hl q) ds vs h
end
section
variable {K : PySem.W.Frag} {σ : L2.St} {H H' : Hp} {te tb : TE} {ta tr : TA} {R : V → Hp → Prop} {d : PyData} {ds : List PyData} {D : Ends} {tz : TS} {P : List V → Hp → Prop}
theorem ex_lst (h : EvAX ta σ H P) (hl : ∀ vs H1, P vs H1 → vs.length ≤ 100000) (hR : ∀ vs p H1, Ex H H1 → H p = none → H1 p = some (.lst vs) → (∃ H0, P vs H0 ∧ Ex H0 H1) → R (.ref p) H1) : EvX (tLst ta) σ H R := fun H1 e Q q =>
  h H1 e _ fun vs H2 e2 hP => ⟨sz_of (hl vs H2 hP), fun p hp => q _ _ (e2.trans (Ex.new hp)) (hR vs p _ (e.trans (e2.trans (Ex.new hp))) (fresh_back (e.trans e2) hp) upd_same ⟨H2, hP, Ex.new hp⟩)⟩
/-- data of any kind, an argument list of it -/
abbrev EvAD (K : PySem.W.Frag) (ta : TA) (σ : L2.St) (H : Hp) (ds : List PyData) : Prop := EvAX ta σ H fun vs H1 => DpAll K H1 vs ds
theorem ead_nil : EvAD K tNil σ H [] := fun H1 _ _ q => q [] H1 (Ex.refl H1) .nil
theorem ead_cons (h : EvD K te σ H d) (hr : EvAD K tr σ H ds) : EvAD K (tCons te tr) σ H (d :: ds) := fun H1 e _ q =>
  h H1 e _ fun v H2 e2 r => hr H2 (e.trans e2) _ fun vs H3 e3 r2 => q _ H3 (e2.trans e3) (.cons ((dp_mono e3).1 _ _ r) r2)
theorem dpall_len : ∀ {vs : List V} {ds : List PyData}, DpAll K H vs ds → vs.length = ds.length
  | _, _, .nil => rfl
  | _, _, .cons _ t => congrArg (· + 1) (dpall_len t)
theorem ed_lst (h : EvAD K ta σ H ds) (hl : ds.length ≤ 100000) : EvD K (tLst ta) σ H (.list ds) :=
  ex_lst h (fun vs H1 r => by rw [dpall_len r]; exact hl) fun vs p H1 e hp hx ⟨H0, r, e0⟩ => .lst (sq_of hx) ((dp_mono e0).2 _ _ r)
theorem ex_ixL {xs : List V} {i : Int} {v : V} (h : EvX te σ H fun u H1 => ∃ w, u = .ref w ∧ H1 w = some (.lst xs)) (hi : EvI K tb σ H (.int i)) (ha : atI xs i = some v) (hR : ∀ H1, Ex H H1 → R v H1) : EvX (tOp (rIxL K) te tb) σ H R := fun H1 e Q q =>
  h H1 e _ fun u H2 e2 ⟨w, h1, h2⟩ => hi H2 (e.trans e2) _ fun y H3 e3 r => by
    cases r
    exact ⟨w, xs, i, v, h1, rfl, sq_of (e3 _ _ h2), ha, q v H3 (e2.trans e3) (hR H3 (e.trans (e2.trans e3)))⟩
/-- l.append(e): and every other cell stays -/
theorem x_appR {H0 : Hp} {l : Addr} (g : Grow K H0 H l ds) (ha : EvV te σ H (.ref l)) (h : EvI K tb σ H d) (hz : ds.length < 100000) (k : ∀ H1, Grow K H0 H1 l (ds ++ [d]) → (∀ m es, m ≠ l → Grow K H0 H m es → Grow K H0 H1 m es) → Kp l H H1 → tz D σ H1) :
    tSeq (tDrop (tBM K "list" rAppend te (tCons tb tNil))) tz D σ H := ha H (Ex.refl H) _ fun u H1 e1 hu => by
  subst hu
  obtain ⟨xs1, g3, g4⟩ := (g.go e1).has
  refine ⟨.inl ⟨rfl, xs1, sq_of g3⟩, h H1 e1 _ fun w H2 e2 hw => ?_⟩
  obtain ⟨xs, g5, g6⟩ := (g.go (e1.trans e2)).has
  refine ⟨l, xs, w, rfl, rfl, g5, sz_lt (by rw [g6.length]; exact hz), k _ ((g.go (e1.trans e2)).app g5 g6 hw) (fun m es hm gm => (gm.go (e1.trans e2)).other g5 g.fresh hm (es := [])) fun a o ne h => ?_⟩
  rw [upd_ne ne]; exact (e1.trans e2) _ _ h
end
end DWL
/-! sorted of pairs of ints, any number of them -/
namespace Tr2
open PySem PySem.Spec PyProof.Rows Srt SrtO
abbrev I2 := Int × Int
def before (p q : I2) : Bool := decide (p.1 < q.1 ∨ (p.1 = q.1 ∧ p.2 < q.2))
theorem before_swo {α : Type} (key : α → I2) : Swo fun v u => before (key v) (key u) := by
  constructor
  · intro v u h
    have h1 := of_decide_eq_true h
    exact decide_eq_false (by omega)
  · intro v u z h h'
    have h1 := of_decide_eq_false h
    have h2 := of_decide_eq_false h'
    exact decide_eq_false (by omega)
/-- at v a tuple of the three -/
def At2 (h : Heap) (v : Value) (k : I2) : Prop := ∃ b ob t1 t2 m, v = .ref b ∧ h.get? b = some ob ∧ ob.cls = .type "tuple" ∧ ob.data = .seq #[.int k.1 t1, .int k.2 t2] m
theorem At2.carry {h g : Heap} {v : Value} {k : I2} (x : At2 h v k) (st : ∀ b ob, h.get? b = some ob → ob.cls = .type "tuple" → g.get? b = some ob) : At2 g v k := by
  obtain ⟨b, ob, t1, t2, m, x1, x2, x3, x4⟩ := x
  exact ⟨b, ob, t1, t2, m, x1, st b ob x2 x3, x3, x4⟩
theorem heads {h : Heap} {key : Value → I2} : ∀ {l : List Value}, (∀ v ∈ l, At2 h v (key v)) → ∃ fs : List Value, PySem.W.KatTups h l fs ∧ fs.length = l.length ∧ ∀ z ∈ fs, ∃ i t, z = Value.int i t
  | [], _ => ⟨[], .nil, rfl, fun _ z => absurd z (by simp)⟩
  | v :: l, x => by
    obtain ⟨b, ob, t1, t2, m, x1, x2, x3, x4⟩ := x v List.mem_cons_self
    obtain ⟨fs, y1, y2, y3⟩ := heads (l := l) fun u hu => x u (List.mem_cons_of_mem _ hu)
    rw [x1]
    refine ⟨.int (key v).1 t1 :: fs, PySem.W.KatTups.cons x2 x3 x4 rfl y1, by simp [y2], fun z hz => ?_⟩
    rcases List.mem_cons.mp hz with e | hz
    · exact ⟨_, _, e⟩
    · exact y3 z hz
section
variable {prog : Program} {w : World} {A : Around} {E : Value → Shared → Prop} {s : Shared}
theorem cmp2 {l : List Value} {key : Value → I2} (x : ∀ v ∈ l, At2 s.heap v (key v)) : Cmp prog w A s (tuples' true) (fun p => p.1 ∈ l) (lt2 fun v u => before (key v) (key u)) := by
  intro p q hp hq
  have xp := x _ hp
  have xq := x _ hq
  show wpAny (model prog w) A (keyLt' (tuples' true) p.1 q.1) (fun r z => z = s ∧ r = before (key p.1) (key q.1)) (fun _ _ => False) s
  revert xp xq
  generalize key p.1 = k
  generalize key q.1 = k'
  intro xp xq
  obtain ⟨k1, k2⟩ := k
  obtain ⟨j1, j2⟩ := k'
  obtain ⟨b, ob, t1, t2, m, x1, x2, x3, x4⟩ := xp
  obtain ⟨b', ob', u1, u2, m', y1, y2, y3, y4⟩ := xq
  rw [x1, y1]
  refine PySem.W.kat_lt x2 x4 y2 y4 ?_
  show PySem.W.KatLex prog w A true (decide (2 < 2)) _ [(.int k1 t1, .int j1 u1), (.int k2 t2, .int j2 u2)] 0 s
  refine PySem.W.kat_cons (SeqAt.EqAt.int_int k1 t1 j1 u1 prog w _ _ ?_)
  refine PySem.W.kat_go (fun a1 => ?_) (fun a1 => ?_)
  · have a1 : k1 = j1 := by simpa using a1
    refine PySem.W.kat_yes (PySem.W.kat_cons (SeqAt.EqAt.int_int k2 t2 j2 u2 prog w _ _ ?_))
    refine PySem.W.kat_go (fun a2 => ?_) (fun a2 => ?_)
    · have a2 : k2 = j2 := by simpa using a2
      refine PySem.W.kat_yes (PySem.W.kat_nil ⟨rfl, ?_⟩)
      subst a1 a2
      exact (decide_eq_false (by dsimp only; omega)).symm
    · have a2 : ¬ k2 = j2 := by simpa using a2
      refine PySem.W.kat_no (PySem.W.kat_one _ _ (PyProof.Rows.lt_int ?_))
      refine (show s = s ∧ decide (k2 < j2) = before (k1, k2) (j1, j2) from ⟨rfl, ?_⟩)
      unfold before
      dsimp only
      exact decide_eq_decide.mpr (by omega)
  · have a1 : ¬ k1 = j1 := by simpa using a1
    refine PySem.W.kat_no (oneLt_int ⟨rfl, ?_⟩)
    unfold before
    dsimp only
    exact decide_eq_decide.mpr (by omega)
theorem able2 {a : Addr} {l : List Value} {key : Value → I2} (n0 : 0 < l.length) (x : ∀ v ∈ l, At2 s.heap v (key v)) (na : ∀ ob, s.heap.get? a = some ob → ob.cls ≠ .type "tuple") : SortableO prog w A s a l fun v u => before (key v) (key u) := by
  intro g st
  have x' : ∀ v ∈ l, At2 g v (key v) := fun v hv => (x v hv).carry fun b ob e c => st b ob (fun z => by rw [z] at e; exact na ob e c) e
  obtain ⟨fs, y1, y2, y3⟩ := heads x'
  refine ⟨tuples' true, fun Q E hQ => ?_, cmp2 x'⟩
  refine PySem.W.kat_kind (T := .type "int") y1 (by rw [y2]; exact n0) (fun z hz => ?_) (by rfl) ?_
  · obtain ⟨i, t, e⟩ := y3 z hz
    rw [e]
    exact PySem.W.Looks.now
  · rw [show (Value.type "int" != Value.type "tuple") = true from rfl]
    exact hQ
end
end Tr2
namespace DWL
open PySem PySem.Spec PyProof.Rows L2 Evl Tr2
def tr2D (k : I2) : PyData := .tuple [.int k.1, .int k.2]
theorem at2_one {h : Heap} {v : Value} {k j : I2} (x : At2 h v k) (y : At2 h v j) : k = j := by
  obtain ⟨b, ob, t1, t2, m, x1, x2, _, x4⟩ := x
  obtain ⟨b', ob', u1, u2, m', y1, y2, _, y4⟩ := y
  rw [x1] at y1
  cases y1
  rw [x2] at y2
  cases y2
  rw [x4] at y4
  obtain ⟨k1, k2⟩ := k
  obtain ⟨j1, j2⟩ := j
  cases y4
  rfl
open Classical in
noncomputable def key2 (h : Heap) (v : Value) : I2 := if e : ∃ k, At2 h v k then e.choose else (0, 0)
theorem key2_is {h : Heap} {v : Value} {k : I2} (x : At2 h v k) : key2 h v = k := by
  unfold key2
  rw [dif_pos ⟨k, x⟩]
  exact at2_one (Exists.choose_spec (⟨k, x⟩ : ∃ k, At2 h v k)) x
/-- sorted(xs) of triples: a new list, rising, of the same things -/
def rSorted2 (K : PySem.W.Frag) : List V → Hp → VK → Prop := fun vs H Q => ∃ (a : Addr) (xs : List V) (ks : List I2), vs = [V.ref a] ∧ SqL K H a xs ∧ ImAll K H xs (ks.map tr2D) ∧
  ∀ (ys : List V) (js : List I2) (p : Addr), ImAll K H ys (js.map tr2D) → js.Pairwise (fun x y => before y x = false) → js.Perm ks → H p = none → Q (.ref p) (upd H p (.lst ys))
section
variable {X : Cx}
theorem at2_of {pins : List (Addr × Obj)} {σ : L2.St} {H : Hp} {s : Shared} (I : Inv X pins σ H s) : ∀ {xs : List V} {us : List Value} {ks : List I2}, Vals xs us → ImAll X.K H xs (ks.map tr2D) → us.length = ks.length ∧ ∀ (i : Nat) u k, us[i]? = some u → ks[i]? = some k → At2 s.heap u k ∧ ∃ b, u = .ref b ∧ Im X.K H (.ref b) (tr2D k)
  | [], _, [], .nil, _ => ⟨rfl, fun i u k h => by simp at h⟩
  | [], _, k :: ks, _, h => by cases h
  | x :: xs, _, [], _, h => by cases h
  | x :: xs, u :: us, k :: ks, .cons r rs, h => by
    cases h with
    | cons h1 h2 =>
      obtain ⟨y1, y2⟩ := at2_of I rs h2
      refine ⟨by simp [y1], fun i => ?_⟩
      cases i with
      | succ i => intro v j e1 e2; exact y2 i v j (by simpa using e1) (by simpa using e2)
      | zero =>
        intro v j e1 e2
        obtain rfl : u = v := by simpa using e1
        obtain rfl : k = j := by simpa using e2
        have h0 := h1
        obtain ⟨b, zs, rfl, g1, g2⟩ := h1.tup_inv
        obtain rfl : u = Value.ref b := r
        refine ⟨?_, b, rfl, h0⟩
        obtain ⟨its, rv, ⟨o, ho, hc, n, hd⟩, _⟩ := I.tuple g1
        cases g2 with
        | cons a1 g2 => cases g2 with
          | cons a2 g2 =>
            cases g2; cases a1; cases a2
            cases rv with
            | cons p1 rv => cases rv with
              | cons p2 rv =>
                cases rv
                obtain ⟨t1, rfl⟩ := p1
                obtain ⟨t2, rfl⟩ := p2
                exact ⟨b, o, t1, t2, n, rfl, ho, hc, hd⟩
theorem back2_of {H : Hp} {K : PySem.W.Frag} {key : Value → I2} : ∀ {us : List Value}, (∀ u ∈ us, ∃ b, u = .ref b ∧ Im K H (.ref b) (tr2D (key u))) → ImAll K H (us.map backV) ((us.map key).map tr2D)
  | [], _ => .nil
  | u :: us, h => by
    obtain ⟨b, e, i⟩ := h u List.mem_cons_self
    refine .cons ?_ (back2_of fun z hz => h z (List.mem_cons_of_mem _ hz))
    subst e
    exact i
theorem cr_sorted2 : CallR X (.builtin "sorted") (rSorted2 X.K) := by
  intro pins s σ H vs us Q I r h
  obtain ⟨a, xs, ks, rfl, hs, hx, q⟩ := h
  obtain ⟨its, rv, hl, hz⟩ := I.list hs
  obtain ⟨u, rfl, ru⟩ := vals1 r
  obtain rfl : u = Value.ref a := ru
  obtain ⟨len, all⟩ := at2_of I rv hx
  have mem : ∀ v ∈ its, ∃ k, At2 s.heap v k ∧ ∃ b, v = .ref b ∧ Im X.K H (.ref b) (tr2D k) := fun v hv => by
    obtain ⟨i, hi⟩ := List.mem_iff_getElem?.mp hv
    have hi' := (List.getElem?_eq_some_iff.mp hi).1
    exact ⟨_, all i v (ks[i]'(by omega)) hi (List.getElem?_eq_getElem (by omega))⟩
  have ek : its.map (key2 s.heap) = ks := by
    refine List.ext_getElem? fun i => ?_
    rw [List.getElem?_map]
    by_cases hi : i < its.length
    · obtain ⟨k1, _⟩ := all i its[i] (ks[i]'(by omega)) (List.getElem?_eq_getElem hi) (List.getElem?_eq_getElem (by omega))
      rw [List.getElem?_eq_getElem hi, List.getElem?_eq_getElem (by omega)]
      exact congrArg some (key2_is k1)
    · rw [List.getElem?_eq_none (by omega), List.getElem?_eq_none (by omega)]; rfl
  have x3 : ∀ v ∈ its, At2 s.heap v (key2 s.heap v) := fun v hv => by
    obtain ⟨k, k1, _⟩ := mem v hv
    rw [key2_is k1]; exact k1
  refine SrtO.sorted_ord (before_swo (key2 s.heap)) hl.isList (by rw [← rv.length]; exact hz) (fun h2 g b hb kk => able2 (s := { s with heap := g }) (by omega) (fun v hv => (x3 v hv).carry fun b ob e _ => (kk b ob e).2) fun o e => ?_) fun out h1 h2 => ?_
  · have e' : some o = some (seqObj "list" its.toArray 0) := e.symm.trans hb
    cases e'
    intro c
    exact absurd (Value.type.inj c) (by decide)
  · obtain ⟨n, hn⟩ := PyProof.Rows.sortedAll_at s.heap its out.toArray
    have m2 : ∀ u ∈ out, ∃ b, u = .ref b ∧ Im X.K H (.ref b) (tr2D (key2 s.heap u)) := fun u hu => by
      obtain ⟨k, k1, b, k2, k3⟩ := mem u (h2.perm.mem_iff.mp hu)
      exact ⟨b, k2, by rw [key2_is k1]; exact k3⟩
    have pm : (out.map (key2 s.heap)).Perm ks := by rw [← ek]; exact h2.perm.map _
    refine ⟨.ref _, upd H (s.heap.objs.size + 1) (.lst (out.map backV)), I.laid (t' := s.toks) (fun _ _ => PyProof.Rows.sortedAll_old) (Nat.le_succ _) ⟨?_, out, n, vals_back (fun u hu => (m2 u hu).imp fun b z => z.1), hn⟩, rfl, q _ _ _ (back2_of m2) (List.pairwise_map.mpr (h1.imp fun {x y} z => z)) pm (I.hok.fresh (Nat.le_succ _))⟩
    rw [List.length_map, h2.perm.length_eq, ← rv.length]
    exact hz
end
theorem kr_sorted2 {X : Cx} {K : PySem.W.Frag} (h : X.K = K) : CallR X (.builtin "sorted") (rSorted2 K) := by subst h; exact cr_sorted2
theorem en_sorted2 {K : PySem.W.Frag} {σ : L2.St} {H : Hp} {ta : TE} {ks : List I2} (js : List I2) (ha : EvK K ta σ H (ks.map tr2D)) (u : ∀ l : List I2, l.Pairwise (fun x y => before y x = false) → l.Perm ks → l = js) :
    EvN K (tCB (rSorted2 K) (tCons ta tNil)) σ H (js.map tr2D) := fun H1 e Q q => ha H1 e _ fun x H2 e2 r => by
  obtain ⟨a, xs, rfl, h1, h2⟩ := r
  refine ⟨a, xs, ks, rfl, h1, h2, fun ys l p g1 g2 g3 hp => ?_⟩
  have := u l g2 g3
  subst this
  exact q p ys _ (fresh_back e2 hp) (e2.trans (Ex.new hp)) upd_same (g1.mono (Ex.new hp))
end DWL
namespace DW
/-! walks -/
def ed3 (x y z e : Nat) : Int := if e = 0 then dl x y else if e = 1 then dl y z else dl z x
def ed (c : Nat → Nat → Nat) (s : Sm) (e : Nat) : Int := ed3 (l1 c s) (l2 c s) (l3 c s) e
theorem ed_cor (c : Nat → Nat → Nat) (s : Sm) {e : Nat} (h : e < 3) : ed c s e = dl (lt2 c (cor s e)) (lt2 c (cor s ((e + 1) % 3))) := by
  have : e = 0 ∨ e = 1 ∨ e = 2 := by omega
  rcases this with rfl | rfl | rfl
  · show _ = dl (lt2 c (cor s 0)) (lt2 c (cor s 1)); rw [lt_cor0, lt_cor1]; rfl
  · show _ = dl (lt2 c (cor s 1)) (lt2 c (cor s 2)); rw [lt_cor1, lt_cor2]; rfl
  · show _ = dl (lt2 c (cor s 2)) (lt2 c (cor s 0)); rw [lt_cor2, lt_cor0]; rfl
/-- the doors of a small triangle but one (3: of none) -/
def oth3 (x y z e : Nat) : List Nat := [0, 1, 2].filter fun a => decide (a ≠ e ∧ ed3 x y z a ≠ 0)
def others (c : Nat → Nat → Nat) (s : Sm) (e : Nat) : List Nat := oth3 (l1 c s) (l2 c s) (l3 c s) e
def out3 (x y z e : Nat) : Nat := (oth3 x y z e).headD 3
def outOf (c : Nat → Nat → Nat) (s : Sm) (e : Nat) : Nat := out3 (l1 c s) (l2 c s) (l3 c s) e
/-- what is so of three letters and a door that is one (or none, and all three letters) -/
def Fine3 (x y z e : Nat) : Prop := (e < 3 ∧ ed3 x y z e ≠ 0) ∨ (e = 3 ∧ tn x y z ≠ 0)
instance (x y z e : Nat) : Decidable (Fine3 x y z e) := by unfold Fine3; exact inferInstance
theorem fine3_all : ∀ x ∈ L3, ∀ y ∈ L3, ∀ z ∈ L3, ∀ e ∈ [0, 1, 2, 3], Fine3 x y z e →
    (oth3 x y z e = if out3 x y z e = 3 then [] else [out3 x y z e]) ∧ out3 x y z e ≤ 3 ∧ out3 x y z e ≠ e ∧ (∀ a ∈ [0, 1, 2], ed3 x y z a ≠ 0 ↔ a = e ∨ a = out3 x y z e) ∧
    (if e = 3 then - tn x y z else ed3 x y z e) = (if out3 x y z e = 3 then tn x y z else - ed3 x y z (out3 x y z e)) ∧ (tn x y z ≠ 0 ↔ e = 3 ∨ out3 x y z e = 3) := by decide
/-- a link: a small triangle, the door to come in by, the one to go out by (3: none) -/
structure Lk where
  s : Sm
  i : Nat
  o : Nat
structure LkOk (n : Nat) (c : Nat → Nat → Nat) (a : Lk) : Prop where
  sm : IsSm n a.s
  hi : a.i ≤ 3
  ho : a.o ≤ 3
  ne : a.i ≠ a.o
  dr : ∀ e, e < 3 → (ed c a.s e ≠ 0 ↔ e = a.i ∨ e = a.o)
theorem others_of {n : Nat} {c : Nat → Nat → Nat} {a : Lk} (h : LkOk n c a) : others c a.s a.i = if a.o = 3 then [] else [a.o] := by
  have h0 := h.dr 0 (by omega)
  have h1 := h.dr 1 (by omega)
  have h2 := h.dr 2 (by omega)
  have hi := h.hi
  have ho := h.ho
  have ne := h.ne
  unfold ed at h0 h1 h2
  unfold others oth3
  simp only [List.filter_cons, List.filter_nil, h0, h1, h2, decide_eq_true_eq]
  have e1 : a.i = 0 ∨ a.i = 1 ∨ a.i = 2 ∨ a.i = 3 := by omega
  have e2 : a.o = 0 ∨ a.o = 1 ∨ a.o = 2 ∨ a.o = 3 := by omega
  rcases e1 with e1 | e1 | e1 | e1 <;> rcases e2 with e2 | e2 | e2 | e2 <;> simp [e1, e2] at * 
theorem lk_full {n : Nat} {c : Nat → Nat → Nat} (hc : ∀ r p, ltr (c r p)) {a : Lk} (h : LkOk n c a) : (if a.i = 3 then - tnS c a.s else ed c a.s a.i) = (if a.o = 3 then tnS c a.s else - ed c a.s a.o) ∧ (tnS c a.s ≠ 0 ↔ a.i = 3 ∨ a.o = 3) := by
  have h0 := h.dr 0 (by omega)
  have h1 := h.dr 1 (by omega)
  have h2 := h.dr 2 (by omega)
  have hi := h.hi
  have ho := h.ho
  have ne := h.ne
  have et : tnS c a.s = ed c a.s 0 + ed c a.s 1 + ed c a.s 2 := tn_dl (by unfold l1; split <;> exact hc _ _) (by unfold l2; split <;> exact hc _ _) (hc _ _)
  have v0 : ed c a.s 0 = 0 ∨ ed c a.s 0 = 1 ∨ ed c a.s 0 = -1 := dl_vals _ _
  have v1 : ed c a.s 1 = 0 ∨ ed c a.s 1 = 1 ∨ ed c a.s 1 = -1 := dl_vals _ _
  have v2 : ed c a.s 2 = 0 ∨ ed c a.s 2 = 1 ∨ ed c a.s 2 = -1 := dl_vals _ _
  have key : ∀ x ∈ L3, ∀ y ∈ L3, ∀ z ∈ L3, (ed3 x y z 0 ≠ 0 → ed3 x y z 1 ≠ 0 → ed3 x y z 2 = 0 ∧ ed3 x y z 0 + ed3 x y z 1 = 0) ∧ (ed3 x y z 0 ≠ 0 → ed3 x y z 2 ≠ 0 → ed3 x y z 0 + ed3 x y z 2 = 0) ∧ (ed3 x y z 1 ≠ 0 → ed3 x y z 2 ≠ 0 → ed3 x y z 1 + ed3 x y z 2 = 0) := by decide
  obtain ⟨k1, k2, k3⟩ := key (l1 c a.s) (ltr_mem (by unfold l1; split <;> exact hc _ _)) (l2 c a.s) (ltr_mem (by unfold l2; split <;> exact hc _ _)) (l3 c a.s) (ltr_mem (hc _ _))
  change ed c a.s 0 ≠ 0 → ed c a.s 1 ≠ 0 → ed c a.s 2 = 0 ∧ ed c a.s 0 + ed c a.s 1 = 0 at k1
  change ed c a.s 0 ≠ 0 → ed c a.s 2 ≠ 0 → ed c a.s 0 + ed c a.s 2 = 0 at k2
  change ed c a.s 1 ≠ 0 → ed c a.s 2 ≠ 0 → ed c a.s 1 + ed c a.s 2 = 0 at k3
  have e1 : a.i = 0 ∨ a.i = 1 ∨ a.i = 2 ∨ a.i = 3 := by omega
  have e2 : a.o = 0 ∨ a.o = 1 ∨ a.o = 2 ∨ a.o = 3 := by omega
  rcases e1 with e1 | e1 | e1 | e1 <;> rcases e2 with e2 | e2 | e2 | e2 <;> simp only [e1, e2] at * <;> simp at * <;> simp_all <;> omega
def Fine (n : Nat) (c : Nat → Nat → Nat) (s : Sm) (e : Nat) : Prop := IsSm n s ∧ Fine3 (l1 c s) (l2 c s) (l3 c s) e
theorem fine_link {n : Nat} {c : Nat → Nat → Nat} (hc : ∀ r p, ltr (c r p)) {s : Sm} {e : Nat} (h : Fine n c s e) : LkOk n c ⟨s, e, outOf c s e⟩ := by
  obtain ⟨h1, h2⟩ := h
  have he : e ≤ 3 := by rcases h2 with ⟨h, _⟩ | ⟨h, _⟩ <;> omega
  obtain ⟨_, k2, k3, k4, _⟩ := fine3_all (l1 c s) (ltr_mem (by unfold l1; split <;> exact hc _ _)) (l2 c s) (ltr_mem (by unfold l2; split <;> exact hc _ _)) (l3 c s) (ltr_mem (hc _ _)) e (by simp; omega) h2
  exact ⟨h1, he, k2, Ne.symm k3, fun a ha => k4 a (by simp; omega)⟩

/-! the other side of a door -/
def beyond (n : Nat) (s : Sm) (e : Nat) : Sum (Sm × Nat) Nat :=
  if s.2.2 = 0 then (if e = 0 then .inl ((s.1, s.2.1 + 1, 1), 2) else if e = 1 then .inl ((s.1 + 1, s.2.1, 1), 0) else .inl ((s.1, s.2.1, 1), 1))
  else if e = 0 then (if 0 < s.1 then .inl ((s.1 - 1, s.2.1, 0), 1) else .inr s.2.1)
  else if e = 1 then (if s.1 + s.2.1 + 1 < n - 1 then .inl ((s.1, s.2.1, 0), 2) else .inr (n - 1 + s.1))
  else (if 0 < s.2.1 then .inl ((s.1, s.2.1 - 1, 0), 0) else .inr (3 * (n - 1) - 1 - s.1))
def within (n k : Nat) : Sm × Nat := if k < n - 1 then ((0, k, 1), 0) else if k < 2 * (n - 1) then ((k - (n - 1), 2 * (n - 1) - k - 1, 1), 1) else ((3 * (n - 1) - 1 - k, 0, 1), 2)
theorem e3 {e : Nat} (h : e < 3) : e = 0 ∨ e = 1 ∨ e = 2 := by omega
theorem bey_in {n : Nat} {s s' : Sm} {e e' : Nat} (hs : IsSm n s) (he : e < 3) (h : beyond n s e = .inl (s', e')) : IsSm n s' ∧ e' < 3 ∧ beyond n s' e' = .inl (s, e) ∧ cor s' e' = cor s ((e + 1) % 3) ∧ cor s' ((e' + 1) % 3) = cor s e ∧
    cor s ((e + 2) % 3) ≠ cor s' 0 ∧ cor s ((e + 2) % 3) ≠ cor s' 1 ∧ cor s ((e + 2) % 3) ≠ cor s' 2 := by
  obtain ⟨r, p, u⟩ := s
  rcases hs with ⟨hu, hs⟩ | ⟨hu, hs⟩ <;> dsimp only at hu hs <;> subst hu
  · rcases e3 he with rfl | rfl | rfl
    · by_cases q : 0 < r
      · have : beyond n (r, p, 1) 0 = .inl ((r - 1, p, 0), 1) := by simp [beyond, q]
        rw [this] at h; cases h
        obtain ⟨r, rfl⟩ : ∃ k, r = k + 1 := ⟨r - 1, by omega⟩
        refine ⟨.inr ⟨rfl, by show r + 1 - 1 + p + 2 < n; omega⟩, by omega, by simp [beyond], ?_⟩
        simp [cor]
      · have : beyond n (r, p, 1) 0 = .inr p := by simp [beyond, q]
        rw [this] at h; cases h
    · by_cases q : r + p + 1 < n - 1
      · have : beyond n (r, p, 1) 1 = .inl ((r, p, 0), 2) := by simp [beyond, q]
        rw [this] at h; cases h
        refine ⟨.inr ⟨rfl, by show r + p + 2 < n; omega⟩, by omega, by simp [beyond], ?_⟩
        simp [cor]
      · have : beyond n (r, p, 1) 1 = .inr (n - 1 + r) := by simp [beyond, q]
        rw [this] at h; cases h
    · by_cases q : 0 < p
      · have : beyond n (r, p, 1) 2 = .inl ((r, p - 1, 0), 0) := by simp [beyond, q]
        rw [this] at h; cases h
        obtain ⟨p, rfl⟩ : ∃ k, p = k + 1 := ⟨p - 1, by omega⟩
        refine ⟨.inr ⟨rfl, by show r + (p + 1 - 1) + 2 < n; omega⟩, by omega, by simp [beyond], ?_⟩
        simp [cor]
      · have : beyond n (r, p, 1) 2 = .inr (3 * (n - 1) - 1 - r) := by simp [beyond, q]
        rw [this] at h; cases h
  · rcases e3 he with rfl | rfl | rfl
    · have : beyond n (r, p, 0) 0 = .inl ((r, p + 1, 1), 2) := by simp [beyond]
      rw [this] at h; cases h
      refine ⟨.inl ⟨rfl, by show r + (p + 1) + 1 < n; omega⟩, by omega, by simp [beyond], ?_⟩
      simp [cor]
    · have : beyond n (r, p, 0) 1 = .inl ((r + 1, p, 1), 0) := by simp [beyond]
      rw [this] at h; cases h
      refine ⟨.inl ⟨rfl, by show r + 1 + p + 1 < n; omega⟩, by omega, by simp [beyond], ?_⟩
      simp [cor]
    · have : beyond n (r, p, 0) 2 = .inl ((r, p, 1), 1) := by simp [beyond]
      rw [this] at h; cases h
      refine ⟨.inl ⟨rfl, by show r + p + 1 < n; omega⟩, by omega, ?_, ?_⟩
      · have : r + p + 1 < n - 1 := by omega
        simp [beyond, this]
      · simp [cor]
theorem bey_out {n : Nat} {s : Sm} {e k : Nat} (hs : IsSm n s) (he : e < 3) (h : beyond n s e = .inr k) : k < 3 * (n - 1) ∧ within n k = (s, e) := by
  obtain ⟨r, p, u⟩ := s
  rcases hs with ⟨hu, hs⟩ | ⟨hu, hs⟩ <;> dsimp only at hu hs <;> subst hu
  · rcases e3 he with rfl | rfl | rfl
    · by_cases q : 0 < r
      · have : beyond n (r, p, 1) 0 = .inl ((r - 1, p, 0), 1) := by simp [beyond, q]
        rw [this] at h; cases h
      · have : beyond n (r, p, 1) 0 = .inr p := by simp [beyond, q]
        rw [this] at h; cases h
        unfold within
        rw [if_pos (by omega)]
        simp only [Prod.mk.injEq, and_true]; omega
    · by_cases q : r + p + 1 < n - 1
      · have : beyond n (r, p, 1) 1 = .inl ((r, p, 0), 2) := by simp [beyond, q]
        rw [this] at h; cases h
      · have : beyond n (r, p, 1) 1 = .inr (n - 1 + r) := by simp [beyond, q]
        rw [this] at h; cases h
        unfold within
        rw [if_neg (by omega), if_pos (by omega)]
        simp only [Prod.mk.injEq, and_true]; omega
    · by_cases q : 0 < p
      · have : beyond n (r, p, 1) 2 = .inl ((r, p - 1, 0), 0) := by simp [beyond, q]
        rw [this] at h; cases h
      · have : beyond n (r, p, 1) 2 = .inr (3 * (n - 1) - 1 - r) := by simp [beyond, q]
        rw [this] at h; cases h
        unfold within
        rw [if_neg (by omega), if_neg (by omega)]
        simp only [Prod.mk.injEq, and_true]; omega
  · rcases e3 he with rfl | rfl | rfl
    · have : beyond n (r, p, 0) 0 = .inl ((r, p + 1, 1), 2) := by simp [beyond]
      rw [this] at h; cases h
    · have : beyond n (r, p, 0) 1 = .inl ((r + 1, p, 1), 0) := by simp [beyond]
      rw [this] at h; cases h
    · have : beyond n (r, p, 0) 2 = .inl ((r, p, 1), 1) := by simp [beyond]
      rw [this] at h; cases h
theorem within_ok {n k : Nat} (h : k < 3 * (n - 1)) : IsSm n (within n k).1 ∧ (within n k).2 < 3 ∧ beyond n (within n k).1 (within n k).2 = .inr k ∧
    cor (within n k).1 (within n k).2 = spotAt n k ∧ cor (within n k).1 (((within n k).2 + 1) % 3) = spotAt n (k + 1) := by
  by_cases h1 : k < n - 1
  · have e : within n k = ((0, k, 1), 0) := if_pos h1
    rw [e]
    refine ⟨.inl ⟨rfl, by show 0 + k + 1 < n; omega⟩, by omega, by simp [beyond], ?_, ?_⟩
    · simp [cor, spotAt, h1]
    · show (0, k + 1) = spotAt n (k + 1)
      unfold spotAt
      by_cases q : k + 1 < n - 1
      · rw [if_pos q]
      · rw [if_neg q, if_pos (by omega)]; simp only [Prod.mk.injEq]; omega
  · by_cases h2 : k < 2 * (n - 1)
    · have e : within n k = ((k - (n - 1), 2 * (n - 1) - k - 1, 1), 1) := by unfold within; rw [if_neg h1, if_pos h2]
      rw [e]
      refine ⟨.inl ⟨rfl, by show k - (n - 1) + (2 * (n - 1) - k - 1) + 1 < n; omega⟩, by omega, ?_, ?_, ?_⟩
      · have : ¬ (k - (n - 1) + (2 * (n - 1) - k - 1) + 1 < n - 1) := by omega
        simp [beyond, this]; omega
      · simp [cor, spotAt, h1, h2]; omega
      · show (k - (n - 1) + 1, 2 * (n - 1) - k - 1) = spotAt n (k + 1)
        unfold spotAt
        rw [if_neg (by omega)]
        by_cases q : k + 1 < 2 * (n - 1)
        · rw [if_pos q]; simp only [Prod.mk.injEq]; omega
        · rw [if_neg q]; simp only [Prod.mk.injEq]; omega
    · have e : within n k = ((3 * (n - 1) - 1 - k, 0, 1), 2) := by unfold within; rw [if_neg h1, if_neg h2]
      rw [e]
      refine ⟨.inl ⟨rfl, by show 3 * (n - 1) - 1 - k + 0 + 1 < n; omega⟩, by omega, ?_, ?_, ?_⟩
      · simp [beyond]; omega
      · simp [cor, spotAt, h1, h2]; omega
      · have q : cor (3 * (n - 1) - 1 - k, 0, 1) ((2 + 1) % 3) = (3 * (n - 1) - 1 - k, 0) := by simp [cor]
        refine q.trans ?_
        unfold spotAt
        rw [if_neg (by omega), if_neg (by omega)]
        simp only [Prod.mk.injEq, and_true]; omega
theorem ed_bey {n : Nat} (c : Nat → Nat → Nat) {s s' : Sm} {e e' : Nat} (hs : IsSm n s) (he : e < 3) (h : beyond n s e = .inl (s', e')) : ed c s' e' = - ed c s e := by
  obtain ⟨_, h2, _, h4, h5, _⟩ := bey_in hs he h
  rw [ed_cor c s he, ed_cor c s' h2, h4, h5, dl_swap]
theorem ed_within {n k : Nat} (c : Nat → Nat → Nat) (h : k < 3 * (n - 1)) : ed c (within n k).1 (within n k).2 = stepAt n c k := by
  obtain ⟨_, h2, _, h4, h5⟩ := within_ok h
  rw [ed_cor c _ h2, h4, h5]; rfl

/-! paths -/
inductive Fn where
  | ended
  | out (k : Nat)
  deriving DecidableEq
/-- at an end of a walk: in a full one, or at a door of the side -/
def EndAt (n : Nat) (s : Sm) (e : Nat) : Fn → Prop
  | .ended => e = 3
  | .out k => e < 3 ∧ beyond n s e = .inr k
def chn (n : Nat) : List Lk → Prop
  | [] => True
  | [_] => True
  | a :: b :: l => (a.o < 3 ∧ beyond n a.s a.o = .inl (b.s, b.i)) ∧ chn n (b :: l)
def lastO (n : Nat) : List Lk → Fn → Prop
  | [], _ => False
  | [a], z => EndAt n a.s a.o z
  | _ :: b :: l, z => lastO n (b :: l) z
structure Path (n : Nat) (c : Nat → Nat → Nat) (a : Fn) (l : List Lk) (z : Fn) : Prop where
  ok : ∀ k ∈ l, LkOk n c k
  ch : chn n l
  st : ∃ b t, l = b :: t ∧ EndAt n b.s b.i a
  en : lastO n l z
def Lk.turn (a : Lk) : Lk := ⟨a.s, a.o, a.i⟩
theorem chn_snoc {n : Nat} : ∀ {l : List Lk} {a b : Lk}, chn n (l ++ [a]) → (a.o < 3 ∧ beyond n a.s a.o = .inl (b.s, b.i)) → chn n (l ++ [a, b])
  | [], _, _, _, h => ⟨h, trivial⟩
  | [x], a, b, h1, h => ⟨h1.1, h, trivial⟩
  | x :: y :: l, a, b, h1, h => ⟨h1.1, chn_snoc (l := y :: l) h1.2 h⟩
theorem chn_rev {n : Nat} {c : Nat → Nat → Nat} : ∀ {l : List Lk}, (∀ k ∈ l, LkOk n c k) → chn n l → chn n (l.reverse.map Lk.turn)
  | [], _, _ => trivial
  | [a], _, _ => trivial
  | a :: b :: l, h, hc => by
    have ih := chn_rev (fun k hk => h k (List.mem_cons_of_mem _ hk)) hc.2
    have ha := h a List.mem_cons_self
    obtain ⟨_, h2, h3, _⟩ := bey_in ha.sm hc.1.1 hc.1.2
    have e1 : (b :: l).reverse.map Lk.turn = l.reverse.map Lk.turn ++ [b.turn] := by simp
    have e2 : (a :: b :: l).reverse.map Lk.turn = l.reverse.map Lk.turn ++ [b.turn, a.turn] := by simp
    rw [e1] at ih
    rw [e2]
    exact chn_snoc ih ⟨h2, h3⟩
theorem lastO_snoc {n : Nat} : ∀ {l : List Lk} {a : Lk} {z : Fn}, lastO n (l ++ [a]) z ↔ EndAt n a.s a.o z
  | [], _, _ => Iff.rfl
  | [x], a, z => Iff.rfl
  | x :: y :: l, a, z => lastO_snoc (l := y :: l)
theorem lastO_split {n : Nat} {l : List Lk} {z : Fn} (h : lastO n l z) : ∃ t a, l = t ++ [a] ∧ EndAt n a.s a.o z := by
  rcases List.eq_nil_or_concat l with e | ⟨t, a, e⟩
  · subst e; exact h.elim
  · have e : l = t ++ [a] := by simpa using e
    subst e
    exact ⟨t, a, rfl, lastO_snoc.mp h⟩
theorem LkOk.turn {n : Nat} {c : Nat → Nat → Nat} {a : Lk} (h : LkOk n c a) : LkOk n c a.turn := ⟨h.sm, h.ho, h.hi, Ne.symm h.ne, fun e he => (h.dr e he).trans Or.comm⟩
/-- walked back -/
theorem Path.rev {n : Nat} {c : Nat → Nat → Nat} {a z : Fn} {l : List Lk} (h : Path n c a l z) : Path n c z (l.reverse.map Lk.turn) a where
  ok := fun k hk => by
    obtain ⟨b, hb, rfl⟩ := List.mem_map.mp hk
    exact (h.ok b (List.mem_reverse.mp hb)).turn
  ch := chn_rev h.ok h.ch
  st := by
    obtain ⟨t, b, rfl, e⟩ := lastO_split h.en
    exact ⟨b.turn, t.reverse.map Lk.turn, by simp, e⟩
  en := by
    obtain ⟨b, t, rfl, e⟩ := h.st
    have : (b :: t).reverse.map Lk.turn = t.reverse.map Lk.turn ++ [b.turn] := by simp
    rw [this]
    exact lastO_snoc.mpr e
def Path.smalls (l : List Lk) : List Sm := l.map Lk.s
theorem rev_smalls (l : List Lk) : (l.reverse.map Lk.turn).map Lk.s = (l.map Lk.s).reverse := by
  rw [List.map_map, ← List.map_reverse]; rfl

/-! as the program walks -/
inductive Goes (n : Nat) (c : Nat → Nat → Nat) : Sm → Nat → List Sm → Fn → Prop
  | stop {s e} : others c s e = [] → Goes n c s e [s] .ended
  | leave {s e o t k} : others c s e = o :: t → beyond n s o = .inr k → Goes n c s e [s] (.out k)
  | step {s e o t s' e' L z} : others c s e = o :: t → beyond n s o = .inl (s', e') → Goes n c s' e' L z → Goes n c s e (s :: L) z
theorem Goes.uniq {n : Nat} {c : Nat → Nat → Nat} {s : Sm} {e : Nat} {L : List Sm} {z : Fn} (h : Goes n c s e L z) : ∀ {L' z'}, Goes n c s e L' z' → L = L' ∧ z = z' := by
  induction h with
  | stop h => intro L' z' g; cases g with
    | stop _ => exact ⟨rfl, rfl⟩
    | leave h' _ => rw [h] at h'; cases h'
    | step h' _ _ => rw [h] at h'; cases h'
  | leave h b => intro L' z' g; cases g with
    | stop h' => rw [h] at h'; cases h'
    | leave h' b' => rw [h] at h'; cases h'; rw [b] at b'; cases b'; exact ⟨rfl, rfl⟩
    | step h' b' _ => rw [h] at h'; cases h'; rw [b] at b'; cases b'
  | step h b _ ih => intro L' z' g; cases g with
    | stop h' => rw [h] at h'; cases h'
    | leave h' b' => rw [h] at h'; cases h'; rw [b] at b'; cases b'
    | step h' b' g' =>
      rw [h] at h'; cases h'; rw [b] at b'; cases b'
      obtain ⟨e1, e2⟩ := ih g'
      exact ⟨by rw [e1], e2⟩
theorem path_goes {n : Nat} {c : Nat → Nat → Nat} : ∀ {l : List Lk} {a : Lk} {z : Fn}, (∀ k ∈ a :: l, LkOk n c k) → chn n (a :: l) → lastO n (a :: l) z → Goes n c a.s a.i ((a :: l).map Lk.s) z
  | [], a, z, h, _, hz => by
    have ho := others_of (h a List.mem_cons_self)
    cases z with
    | ended =>
      have e : a.o = 3 := hz
      rw [if_pos e] at ho
      exact .stop ho
    | out k =>
      obtain ⟨e, hb⟩ := (show a.o < 3 ∧ beyond n a.s a.o = .inr k from hz)
      rw [if_neg (by omega)] at ho
      exact .leave ho hb
  | b :: l, a, z, h, hc, hz => by
    have ho := others_of (h a List.mem_cons_self)
    obtain ⟨⟨e, hb⟩, hc'⟩ := hc
    rw [if_neg (by omega)] at ho
    exact .step ho hb (path_goes (fun k hk => h k (List.mem_cons_of_mem _ hk)) hc' hz)
theorem Path.goes {n : Nat} {c : Nat → Nat → Nat} {a z : Fn} {l : List Lk} {b : Lk} {t : List Lk} (h : Path n c a l z) (e : l = b :: t) : Goes n c b.s b.i (l.map Lk.s) z := by
  subst e
  exact path_goes h.ok h.ch h.en

/-! there is such a path: no state comes again -/
abbrev Ste := Sm × Nat
def nxt (n : Nat) (c : Nat → Nat → Nat) (x : Ste) : Option Ste := if outOf c x.1 x.2 = 3 then none else match beyond n x.1 (outOf c x.1 x.2) with
  | .inl y => some y
  | .inr _ => none
def orb (n : Nat) (c : Nat → Nat → Nat) (x : Ste) : Nat → Option Ste
  | 0 => some x
  | m + 1 => (orb n c x m).bind (nxt n c)
section
variable {n : Nat} {c : Nat → Nat → Nat} (hc : ∀ r p, ltr (c r p))
include hc
theorem nxt_some {x y : Ste} (hx : Fine n c x.1 x.2) (h : nxt n c x = some y) : outOf c x.1 x.2 < 3 ∧ beyond n x.1 (outOf c x.1 x.2) = .inl y ∧ Fine n c y.1 y.2 ∧ y.2 < 3 := by
  have k := fine_link hc hx
  have ho := k.ho
  dsimp only at ho
  unfold nxt at h
  split at h
  · cases h
  · rename_i hne
    have hlt : outOf c x.1 x.2 < 3 := by omega
    split at h
    · rename_i y' hb
      cases h
      obtain ⟨h1, h2, _⟩ := bey_in k.sm hlt hb
      refine ⟨hlt, hb, ⟨h1, .inl ⟨h2, ?_⟩⟩, h2⟩
      have e := ed_bey c k.sm hlt hb
      have d := (k.dr _ hlt).mpr (.inr rfl)
      show ed c _ _ ≠ 0
      rw [e]; dsimp only at d ⊢; omega
    · cases h
theorem nxt_inj {x y z : Ste} (hx : Fine n c x.1 x.2) (hy : Fine n c y.1 y.2) (h1 : nxt n c x = some z) (h2 : nxt n c y = some z) : x = y := by
  obtain ⟨a1, a2, _⟩ := nxt_some hc hx h1
  obtain ⟨b1, b2, _⟩ := nxt_some hc hy h2
  have kx := fine_link hc hx
  have ky := fine_link hc hy
  obtain ⟨_, _, q1, _⟩ := bey_in kx.sm a1 a2
  obtain ⟨_, _, q2, _⟩ := bey_in ky.sm b1 b2
  have q := q1.symm.trans q2
  obtain ⟨x1, x2⟩ := x
  obtain ⟨y1, y2⟩ := y
  simp only [Sum.inl.injEq, Prod.mk.injEq] at q
  obtain ⟨q3, q4⟩ := q
  dsimp only at a1 b1 kx ky
  subst q3
  have hx2 := kx.hi
  have hy2 := ky.hi
  have nx := kx.ne
  have ny := ky.ne
  have d0 := (kx.dr 0 (by omega)).symm.trans (ky.dr 0 (by omega))
  have d1 := (kx.dr 1 (by omega)).symm.trans (ky.dr 1 (by omega))
  have d2 := (kx.dr 2 (by omega)).symm.trans (ky.dr 2 (by omega))
  dsimp only at hx2 hy2 nx ny d0 d1 d2
  have : x2 = y2 := by
    generalize outOf c x1 x2 = o at *
    generalize outOf c x1 y2 = o' at *
    omega
  rw [this]
/-- along an orbit the states are fine -/
theorem orb_fine {x : Ste} (hx : Fine n c x.1 x.2) : ∀ m y, orb n c x m = some y → Fine n c y.1 y.2
  | 0, y, h => by cases h; exact hx
  | m + 1, y, h => by
    cases q : orb n c x m with
    | none => rw [show orb n c x (m + 1) = (orb n c x m).bind (nxt n c) from rfl, q] at h; cases h
    | some z =>
      rw [show orb n c x (m + 1) = (orb n c x m).bind (nxt n c) from rfl, q] at h
      exact (nxt_some hc (orb_fine hx m z q) h).2.2.1
omit hc in
theorem orb_pred {x y : Ste} {m : Nat} (h : orb n c x (m + 1) = some y) : ∃ z, orb n c x m = some z ∧ nxt n c z = some y := by
  cases q : orb n c x m with
  | none => rw [show orb n c x (m + 1) = (orb n c x m).bind (nxt n c) from rfl, q] at h; cases h
  | some z =>
    rw [show orb n c x (m + 1) = (orb n c x m).bind (nxt n c) from rfl, q] at h
    exact ⟨z, rfl, h⟩
/-- where none leads to the first none comes again -/
theorem orb_inj {x : Ste} (hx : Fine n c x.1 x.2) (h0 : ∀ z, Fine n c z.1 z.2 → nxt n c z ≠ some x) : ∀ a b y, orb n c x a = some y → orb n c x b = some y → a = b
  | 0, 0, _, _, _ => rfl
  | 0, b + 1, y, h1, h2 => by
    cases h1
    obtain ⟨z, e1, e2⟩ := orb_pred h2
    exact absurd e2 (h0 z (orb_fine hc hx b z e1))
  | a + 1, 0, y, h1, h2 => by
    cases h2
    obtain ⟨z, e1, e2⟩ := orb_pred h1
    exact absurd e2 (h0 z (orb_fine hc hx a z e1))
  | a + 1, b + 1, y, h1, h2 => by
    obtain ⟨z, e1, e2⟩ := orb_pred h1
    obtain ⟨u, f1, f2⟩ := orb_pred h2
    have := nxt_inj hc (orb_fine hc hx a z e1) (orb_fine hc hx b u f1) e2 f2
    subst this
    rw [orb_inj hx h0 a b z e1 f1]
omit hc in
/-- at most as many numbers below M as M -/
theorem nodup_below : ∀ (M : Nat) (l : List Nat), l.Nodup → (∀ x ∈ l, x < M) → l.length ≤ M
  | 0, l, _, h => by
    cases l with
    | nil => exact Nat.le_refl _
    | cons x l => exact absurd (h x List.mem_cons_self) (by omega)
  | M + 1, l, hn, h => by
    have h1 := nodup_below M (l.filter fun x => decide (x ≠ M)) (hn.filter _) fun x hx => by
      obtain ⟨a, b⟩ := List.mem_filter.mp hx
      have := h x a
      simp at b; omega
    have h2 : l.length ≤ (l.filter fun x => decide (x ≠ M)).length + 1 := by
      clear h1 h
      induction l with
      | nil => simp
      | cons x l ih =>
        have hn' := List.nodup_cons.mp hn
        by_cases e : x = M
        · have : l.filter (fun x => decide (x ≠ M)) = l := List.filter_eq_self.mpr fun y hy => by
            simp; intro q; subst q; subst e; exact hn'.1 hy
          rw [List.filter_cons_of_neg (by simp [e]), this, List.length_cons]; omega
        · rw [List.filter_cons_of_pos (by simp [e]), List.length_cons, List.length_cons]
          have := ih hn'.2
          omega
    omega
omit hc in
def code (n : Nat) (x : Ste) : Nat := ((x.1.1 * n + x.1.2.1) * 2 + x.1.2.2) * 4 + x.2
omit hc in
theorem code_lt {x : Ste} (h : Fine n c x.1 x.2) : code n x < 8 * (n * n) := by
  obtain ⟨⟨r, p, u⟩, e⟩ := x
  obtain ⟨h1, h2⟩ := h
  have he : e ≤ 3 := by rcases h2 with ⟨h, _⟩ | ⟨h, _⟩ <;> dsimp only at h <;> omega
  have hh : r < n ∧ p < n ∧ u ≤ 1 := by
    rcases h1 with ⟨a, b⟩ | ⟨a, b⟩ <;> dsimp only at a b <;> omega
  unfold code; dsimp only
  have : r * n + n ≤ n * n := by
    have := Nat.mul_le_mul_right n (show r + 1 ≤ n by omega)
    rw [Nat.add_mul] at this; omega
  generalize r * n = A at *
  generalize n * n = B at *
  omega
omit hc in
theorem code_inj {x y : Ste} (h : Fine n c x.1 x.2) (h' : Fine n c y.1 y.2) (e : code n x = code n y) : x = y := by
  obtain ⟨⟨r, p, u⟩, i⟩ := x
  obtain ⟨⟨r', p', u'⟩, i'⟩ := y
  obtain ⟨h1, h2⟩ := h
  obtain ⟨k1, k2⟩ := h'
  have he : i ≤ 3 := by rcases h2 with ⟨h, _⟩ | ⟨h, _⟩ <;> dsimp only at h <;> omega
  have he' : i' ≤ 3 := by rcases k2 with ⟨h, _⟩ | ⟨h, _⟩ <;> dsimp only at h <;> omega
  have hh : r < n ∧ p < n ∧ u ≤ 1 := by
    rcases h1 with ⟨a, b⟩ | ⟨a, b⟩ <;> dsimp only at a b <;> omega
  have hh' : r' < n ∧ p' < n ∧ u' ≤ 1 := by
    rcases k1 with ⟨a, b⟩ | ⟨a, b⟩ <;> dsimp only at a b <;> omega
  unfold code at e; dsimp only at e
  have e1 : r * n + p = r' * n + p' ∧ u = u' ∧ i = i' := by
    generalize r * n = A at *
    generalize r' * n = B at *
    omega
  have e2 : r = r' := by
    rcases Nat.lt_trichotomy r r' with q | q | q
    · have := Nat.mul_le_mul_right n (show r + 1 ≤ r' by omega)
      rw [Nat.add_mul] at this; omega
    · exact q
    · have := Nat.mul_le_mul_right n (show r' + 1 ≤ r by omega)
      rw [Nat.add_mul] at this; omega
  subst e2
  have e3 : p = p' := by omega
  obtain ⟨_, rfl, rfl⟩ := e1
  rw [e3]
omit hc in
theorem orb_none {x : Ste} {m : Nat} (h : orb n c x m = none) : orb n c x (m + 1) = none := by
  rw [show orb n c x (m + 1) = (orb n c x m).bind (nxt n c) from rfl, h]; rfl
omit hc in
theorem orb_some {x : Ste} {N : Nat} : ∀ m, orb n c x (N + m) ≠ none → orb n c x N ≠ none
  | 0, h => h
  | m + 1, h => orb_some m fun q => h (orb_none q)
theorem orb_ends {x : Ste} (hx : Fine n c x.1 x.2) (h0 : ∀ z, Fine n c z.1 z.2 → nxt n c z ≠ some x) : orb n c x (8 * (n * n) + 1) = none := by
  cases q : orb n c x (8 * (n * n) + 1) with
  | none => rfl
  | some y =>
    have all : ∀ m, m < 8 * (n * n) + 1 → ∃ z, orb n c x m = some z := fun m hm => by
      have : orb n c x m ≠ none := orb_some (8 * (n * n) + 1 - m) (by rw [show m + (8 * (n * n) + 1 - m) = 8 * (n * n) + 1 by omega, q]; simp)
      cases e : orb n c x m with
      | none => exact absurd e this
      | some z => exact ⟨z, rfl⟩
    have nd : ((List.range (8 * (n * n) + 1)).map fun m => code n ((orb n c x m).getD x)).Nodup := by
      refine List.pairwise_map.mpr ?_
      refine List.Pairwise.imp_of_mem (R := fun a b => a ≠ b) ?_ List.nodup_range
      intro a b ha hb hne e
      obtain ⟨z, hz⟩ := all a (List.mem_range.mp ha)
      obtain ⟨u, hu⟩ := all b (List.mem_range.mp hb)
      rw [hz, hu] at e
      have := code_inj (orb_fine hc hx a z hz) (orb_fine hc hx b u hu) e
      subst this
      exact hne (orb_inj hc hx h0 a b z hz hu)
    have := nodup_below (8 * (n * n)) _ nd fun v hv => by
      obtain ⟨m, hm, rfl⟩ := List.mem_map.mp hv
      obtain ⟨z, hz⟩ := all m (List.mem_range.mp hm)
      rw [hz]
      exact code_lt (orb_fine hc hx m z hz)
    simp at this
    omega
omit hc in
theorem orb_from {x y : Ste} (h : nxt n c x = some y) : ∀ m, orb n c x (m + 1) = orb n c y m
  | 0 => h
  | m + 1 => by
    show (orb n c x (m + 1)).bind (nxt n c) = (orb n c y m).bind (nxt n c)
    rw [orb_from h m]
theorem links {N : Nat} : ∀ {x : Ste}, Fine n c x.1 x.2 → orb n c x (N + 1) = none → ∃ t z, t.length ≤ N ∧ (∀ k ∈ (⟨x.1, x.2, outOf c x.1 x.2⟩ : Lk) :: t, LkOk n c k) ∧ chn n (⟨x.1, x.2, outOf c x.1 x.2⟩ :: t) ∧ lastO n (⟨x.1, x.2, outOf c x.1 x.2⟩ :: t) z := by
  induction N with
  | zero =>
    intro x hx h
    have k := fine_link hc hx
    have h : nxt n c x = none := h
    have one : ∀ z, EndAt n x.1 (outOf c x.1 x.2) z → ∃ t z, t.length ≤ 0 ∧ (∀ k ∈ (⟨x.1, x.2, outOf c x.1 x.2⟩ : Lk) :: t, LkOk n c k) ∧ chn n (⟨x.1, x.2, outOf c x.1 x.2⟩ :: t) ∧ lastO n (⟨x.1, x.2, outOf c x.1 x.2⟩ :: t) z := fun z hz =>
      ⟨[], z, Nat.zero_le _, fun a ha => by rw [List.mem_singleton.mp ha]; exact k, trivial, hz⟩
    unfold nxt at h
    split at h
    · rename_i e; exact one .ended e
    · rename_i e
      split at h
      · cases h
      · rename_i j hj
        have := k.ho
        dsimp only at this
        exact one (.out j) ⟨by omega, hj⟩
  | succ N ih =>
    intro x hx h
    have k := fine_link hc hx
    cases q : nxt n c x with
    | none =>
      have one : ∀ z, EndAt n x.1 (outOf c x.1 x.2) z → ∃ t z, t.length ≤ N + 1 ∧ (∀ k ∈ (⟨x.1, x.2, outOf c x.1 x.2⟩ : Lk) :: t, LkOk n c k) ∧ chn n (⟨x.1, x.2, outOf c x.1 x.2⟩ :: t) ∧ lastO n (⟨x.1, x.2, outOf c x.1 x.2⟩ :: t) z := fun z hz =>
        ⟨[], z, Nat.zero_le _, fun a ha => by rw [List.mem_singleton.mp ha]; exact k, trivial, hz⟩
      unfold nxt at q
      split at q
      · rename_i e; exact one .ended e
      · rename_i e
        split at q
        · cases q
        · rename_i j hj
          have := k.ho
          dsimp only at this
          exact one (.out j) ⟨by omega, hj⟩
    | some y =>
      obtain ⟨a1, a2, a3, _⟩ := nxt_some hc hx q
      have h' : orb n c y (N + 1) = none := by rw [← orb_from q]; exact h
      obtain ⟨t, z, g0, g1, g2, g3⟩ := ih a3 h'
      refine ⟨⟨y.1, y.2, outOf c y.1 y.2⟩ :: t, z, by rw [List.length_cons]; omega, fun a ha => ?_, ⟨⟨a1, a2⟩, g2⟩, g3⟩
      rcases List.mem_cons.mp ha with e | ha
      · rw [e]; exact k
      · exact g1 a ha
/-- there is a walk from an end -/
theorem path_from {x : Ste} {a : Fn} (hx : Fine n c x.1 x.2) (ha : EndAt n x.1 x.2 a) : ∃ t z, t.length ≤ 8 * (n * n) ∧ Path n c a (⟨x.1, x.2, outOf c x.1 x.2⟩ :: t) z := by
  have h0 : ∀ z, Fine n c z.1 z.2 → nxt n c z ≠ some x := fun z hz h => by
    obtain ⟨a1, a2, a3, a4⟩ := nxt_some hc hz h
    obtain ⟨_, _, q, _⟩ := bey_in (fine_link hc hz).sm a1 a2
    cases a with
    | ended => have : x.2 = 3 := ha; omega
    | out k =>
      have e : beyond n x.1 x.2 = .inr k := ha.2
      rw [q] at e; cases e
  obtain ⟨t, z, g0, g1, g2, g3⟩ := links hc hx (orb_ends hc hx h0)
  exact ⟨t, z, g0, g1, g2, ⟨_, _, rfl, ha⟩, g3⟩

/-! which way the doors lead -/
def inD (c : Nat → Nat → Nat) (a : Lk) : Int := if a.i = 3 then - tnS c a.s else ed c a.s a.i
/-- what an end tells: of a door of the side its step, of a full one its turn, the other way -/
def sgn (n : Nat) (c : Nat → Nat → Nat) (s : Sm) : Fn → Int
  | .ended => - tnS c s
  | .out k => stepAt n c k
theorem path_sgn : ∀ {l : List Lk} {a : Lk} {z : Fn}, (∀ k ∈ a :: l, LkOk n c k) → chn n (a :: l) → lastO n (a :: l) z → ∃ t b, a :: l = t ++ [b] ∧ EndAt n b.s b.o z ∧ sgn n c b.s z = - inD c a
  | [], a, z, h, _, hz => by
    have ka := h a List.mem_cons_self
    have f := (lk_full hc ka).1
    refine ⟨[], a, rfl, hz, ?_⟩
    unfold inD
    rw [f]
    cases z with
    | ended =>
      have e : a.o = 3 := hz
      rw [if_pos e]; rfl
    | out k =>
      obtain ⟨e, hb⟩ := (show a.o < 3 ∧ beyond n a.s a.o = .inr k from hz)
      rw [if_neg (by omega)]
      obtain ⟨b1, b2⟩ := bey_out ka.sm e hb
      have := ed_within c b1
      rw [b2] at this
      show stepAt n c k = _
      rw [← this]; dsimp only; omega
  | b :: l, a, z, h, hc', hz => by
    have ka := h a List.mem_cons_self
    have f := (lk_full hc ka).1
    obtain ⟨⟨e, hb⟩, hch⟩ := hc'
    obtain ⟨t, d, e1, e2, e3⟩ := path_sgn (fun k hk => h k (List.mem_cons_of_mem _ hk)) hch hz
    refine ⟨a :: t, d, by rw [e1]; rfl, e2, ?_⟩
    rw [e3]
    have k2 := ed_bey c ka.sm e hb
    obtain ⟨_, k3, _⟩ := bey_in ka.sm e hb
    unfold inD
    rw [f, if_neg (by omega), if_neg (by omega), k2]
/-- THE LAW OF [7]: the ends' signs -/
theorem Path.signs {a z : Fn} {l : List Lk} (h : Path n c a l z) : ∃ b t t' d, l = b :: t ∧ l = t' ++ [d] ∧ EndAt n b.s b.i a ∧ EndAt n d.s d.o z ∧ sgn n c d.s z = - sgn n c b.s a := by
  obtain ⟨b, t, rfl, hb⟩ := h.st
  obtain ⟨t', d, e1, e2, e3⟩ := path_sgn hc h.ok h.ch h.en
  refine ⟨b, t, t', d, rfl, e1, hb, e2, ?_⟩
  rw [e3]
  unfold inD
  cases a with
  | ended =>
    have e : b.i = 3 := hb
    rw [if_pos e]; rfl
  | out k =>
    obtain ⟨e, hb⟩ := (show b.i < 3 ∧ beyond n b.s b.i = .inr k from hb)
    rw [if_neg (by omega)]
    obtain ⟨b1, b2⟩ := bey_out (h.ok b List.mem_cons_self).sm e hb
    have := ed_within c b1
    rw [b2] at this
    show _ = - stepAt n c k
    rw [← this]
end
end DW
namespace DW
/-! the doors of a walk, spot by spot -/
def crn (s : Sm) : List Sp2 := [cor s 0, cor s 1, cor s 2]
def edgeL (s : Sm) (o : Nat) : List Sp2 := if o = 0 then [cor s 0, cor s 1] else if o = 1 then [cor s 1, cor s 2] else [cor s 0, cor s 2]
theorem crn_at (s : Sm) {e : Nat} (h : e < 3) : cor s e ∈ crn s := by
  rcases e3 h with rfl | rfl | rfl <;> simp [crn]
theorem shared_edge {n : Nat} {s s' : Sm} {e e' : Nat} (hs : IsSm n s) (he : e < 3) (h : beyond n s e = .inl (s', e')) : ((crn s).filter fun x => decide (x ∈ crn s')) = edgeL s e := by
  obtain ⟨_, h2, _, h4, h5, h6, h7, h8⟩ := bey_in hs he h
  have a1 : cor s e ∈ crn s' := by rw [← h5]; exact crn_at s' (Nat.mod_lt _ (by omega))
  have a2 : cor s ((e + 1) % 3) ∈ crn s' := by rw [← h4]; exact crn_at s' h2
  have a3 : ¬ cor s ((e + 2) % 3) ∈ crn s' := by
    unfold crn
    simp only [List.mem_cons, List.not_mem_nil, or_false, not_or]
    exact ⟨h6, h7, h8⟩
  have key : ∀ x y z : Sp2, ([x, y, z].filter fun q => decide (q ∈ crn s')) = (if x ∈ crn s' then [x] else []) ++ (if y ∈ crn s' then [y] else []) ++ (if z ∈ crn s' then [z] else []) := fun x y z => by
    by_cases p1 : x ∈ crn s' <;> by_cases p2 : y ∈ crn s' <;> by_cases p3 : z ∈ crn s' <;> simp [List.filter_cons, p1, p2, p3]
  rw [show crn s = [cor s 0, cor s 1, cor s 2] from rfl, key]
  rcases e3 he with rfl | rfl | rfl
  · rw [if_pos a1, if_pos (show cor s 1 ∈ crn s' from a2), if_neg (show ¬ cor s 2 ∈ crn s' from a3)]; rfl
  · rw [if_pos (show cor s 1 ∈ crn s' from a1), if_pos (show cor s 2 ∈ crn s' from a2), if_neg (show ¬ cor s 0 ∈ crn s' from a3)]; rfl
  · rw [if_pos (show cor s 2 ∈ crn s' from a1), if_pos (show cor s 0 ∈ crn s' from a2), if_neg (show ¬ cor s 1 ∈ crn s' from a3)]; rfl
theorem cor_ne (s : Sm) : cor s 0 ≠ cor s 1 ∧ cor s 0 ≠ cor s 2 ∧ cor s 1 ≠ cor s 2 := by
  obtain ⟨r, p, u⟩ := s
  unfold cor
  by_cases h : u = 1 <;> simp [h]
theorem edge_two (s : Sm) {o : Nat} (ho : o < 3) : ∃ x y, edgeL s o = [x, y] ∧ ((x = cor s o ∧ y = cor s ((o + 1) % 3)) ∨ (y = cor s o ∧ x = cor s ((o + 1) % 3))) := by
  rcases e3 ho with rfl | rfl | rfl
  · exact ⟨_, _, rfl, .inl ⟨rfl, rfl⟩⟩
  · exact ⟨_, _, rfl, .inl ⟨rfl, rfl⟩⟩
  · exact ⟨_, _, rfl, .inr ⟨rfl, rfl⟩⟩
theorem edge_mem (s : Sm) {o : Nat} (ho : o < 3) (x : Sp2) : x ∈ edgeL s o ↔ x = cor s o ∨ x = cor s ((o + 1) % 3) := by
  obtain ⟨a, b, e, h⟩ := edge_two s ho
  rw [e]
  simp only [List.mem_cons, List.not_mem_nil, or_false]
  rcases h with ⟨rfl, rfl⟩ | ⟨rfl, rfl⟩
  · exact Iff.rfl
  · exact ⟨fun h => h.symm, fun h => h.symm⟩
/-- two doors of a small triangle: other spots -/
theorem edge_ne (s : Sm) {i o : Nat} (hi : i < 3) (ho : o < 3) (ne : i ≠ o) : ∃ x, x ∈ edgeL s o ∧ x ≠ cor s i ∧ x ≠ cor s ((i + 1) % 3) := by
  obtain ⟨n1, n2, n3⟩ := cor_ne s
  rcases e3 hi with rfl | rfl | rfl <;> rcases e3 ho with rfl | rfl | rfl
  · exact absurd rfl ne
  · exact ⟨cor s 2, by simp [edgeL], Ne.symm n2, Ne.symm n3⟩
  · exact ⟨cor s 2, by simp [edgeL], Ne.symm n2, Ne.symm n3⟩
  · exact ⟨cor s 0, by simp [edgeL], n1, n2⟩
  · exact absurd rfl ne
  · exact ⟨cor s 0, by simp [edgeL], n1, n2⟩
  · exact ⟨cor s 1, by simp [edgeL], n3, Ne.symm n1⟩
  · exact ⟨cor s 1, by simp [edgeL], n3, Ne.symm n1⟩
  · exact absurd rfl ne
theorem dl_ab {x y : Nat} (h : dl x y ≠ 0) : (x = 97 ∧ y = 98) ∨ (x = 98 ∧ y = 97) := by
  unfold dl at h
  split at h
  · exact .inl (by assumption)
  · split at h
    · exact .inr (by assumption)
    · exact absurd rfl h
theorem edge_ab {c : Nat → Nat → Nat} {s : Sm} {o : Nat} (ho : o < 3) (h : ed c s o ≠ 0) : ∃ x y, edgeL s o = [x, y] ∧ ((lt2 c x = 97 ∧ lt2 c y = 98) ∨ (lt2 c x = 98 ∧ lt2 c y = 97)) := by
  rw [ed_cor c s ho] at h
  obtain ⟨a, b, e, q⟩ := edge_two s ho
  refine ⟨a, b, e, ?_⟩
  have := dl_ab h
  rcases q with ⟨rfl, rfl⟩ | ⟨rfl, rfl⟩
  · exact this
  · rcases this with ⟨h1, h2⟩ | ⟨h1, h2⟩
    · exact .inr ⟨h2, h1⟩
    · exact .inl ⟨h2, h1⟩
/-- the spots ahead of the m-th small triangle: ones it was come in by -/
def Ahead (a : Lk) (A : List Sp2) : Prop := a.i < 3 → ∀ x, x ∈ A → x = cor a.s a.i ∨ x = cor a.s ((a.i + 1) % 3)
theorem ahead_next {n : Nat} {a b : Lk} (hs : IsSm n a.s) (ho : a.o < 3) (h : beyond n a.s a.o = .inl (b.s, b.i)) : Ahead b (edgeL a.s a.o) := fun _ x hx => by
  obtain ⟨_, _, _, h4, h5, _⟩ := bey_in hs ho h
  rcases (edge_mem a.s ho x).mp hx with rfl | rfl
  · exact .inr h5.symm
  · exact .inl h4.symm
theorem ahead_ne {a : Lk} {A : List Sp2} (hA : Ahead a A) (hi : a.i ≤ 3) (ho : a.o < 3) (ne : a.i ≠ a.o) (hE : a.i = 3 → A = []) : ¬ (edgeL a.s a.o).Perm A := fun p => by
  by_cases h3 : a.i = 3
  · obtain ⟨x, y, e, _⟩ := edge_two a.s ho
    rw [hE h3, e] at p
    have := p.length_eq
    simp at this
  · obtain ⟨x, hx, n1, n2⟩ := edge_ne a.s (show a.i < 3 by omega) ho ne
    rcases hA (by omega) x (p.mem_iff.mp hx) with e | e
    · exact n1 e
    · exact n2 e
theorem chn_get {n : Nat} : ∀ {l : List Lk} {m : Nat} {a b : Lk}, chn n l → l[m]? = some a → l[m + 1]? = some b → a.o < 3 ∧ beyond n a.s a.o = .inl (b.s, b.i)
  | [], m, a, b, _, h1, _ => by simp at h1
  | [x], m, a, b, _, h1, h2 => by simp at h2
  | x :: y :: l, 0, a, b, h, h1, h2 => by
    simp at h1 h2
    subst h1 h2
    exact h.1
  | x :: y :: l, m + 1, a, b, h, h1, h2 => chn_get (l := y :: l) (m := m) h.2 (by simpa using h1) (by simpa using h2)
end DW
/-! more of the layer: sorted pairs, in of deep lists, isinstance of own classes, the head's facts about them -/
namespace DWL
open PySem PySem.Spec PyProof.Rows L2 Evl DW
/-! ### sorted pairs -/
def srt2 (ks : List Tr2.I2) : List Tr2.I2 := ks.mergeSort fun x y => !Tr2.before y x
theorem srt2_perm (ks : List Tr2.I2) : (srt2 ks).Perm ks := List.mergeSort_perm ..
theorem bef_no {x y : Tr2.I2} (h : Tr2.before y x = false) : ¬ (y.1 < x.1 ∨ (y.1 = x.1 ∧ y.2 < x.2)) := of_decide_eq_false h
theorem srt2_rise (ks : List Tr2.I2) : (srt2 ks).Pairwise fun x y => Tr2.before y x = false := by
  have h := List.pairwise_mergeSort (le := fun x y => !Tr2.before y x) (fun a b c h1 h2 => by
    rw [Bool.not_eq_true'] at h1 h2 ⊢
    have h1 := bef_no h1
    have h2 := bef_no h2
    exact decide_eq_false (by omega)) (fun a b => by
    rw [Bool.or_eq_true, Bool.not_eq_true', Bool.not_eq_true']
    by_cases h : Tr2.before b a = true
    · refine .inr ?_
      have := of_decide_eq_true h
      exact decide_eq_false (by omega)
    · exact .inl (eq_false_of_ne_true h)) ks
  exact h.imp fun {x y} h => by simpa using h
theorem srt2_uniq : ∀ {l m : List Tr2.I2}, l.Perm m → (l.Pairwise fun x y => Tr2.before y x = false) → (m.Pairwise fun x y => Tr2.before y x = false) → l = m
  | [], m, p, _, _ => (List.Perm.nil_eq p)
  | a :: l, [], p, _, _ => absurd p.length_eq (by simp)
  | a :: l, b :: m, p, h1, h2 => by
    have e : a = b := by
      have ha : a ∈ b :: m := p.mem_iff.mp List.mem_cons_self
      have hb : b ∈ a :: l := p.mem_iff.mpr List.mem_cons_self
      rcases List.mem_cons.mp ha with e | ha
      · exact e
      · rcases List.mem_cons.mp hb with e | hb
        · exact e.symm
        · have q1 := bef_no (List.rel_of_pairwise_cons h2 ha)
          have q2 := bef_no (List.rel_of_pairwise_cons h1 hb)
          obtain ⟨a1, a2⟩ := a
          obtain ⟨b1, b2⟩ := b
          dsimp only at q1 q2
          rw [Prod.mk.injEq]; omega
    subst e
    exact congrArg (a :: ·) (srt2_uniq (List.Perm.cons_inv p) (List.Pairwise.of_cons h1) (List.Pairwise.of_cons h2))
section
variable {K : PySem.W.Frag} {σ : L2.St} {H : Hp} {ta tb te : TE} {ks : List Tr2.I2} {d : PyData} {ds : List PyData}
theorem en_srt2 (ha : EvK K ta σ H (ks.map tr2D)) : EvN K (tCB (rSorted2 K) (tCons ta tNil)) σ H ((srt2 ks).map tr2D) :=
  en_sorted2 (srt2 ks) ha fun l h1 h2 => srt2_uniq (h2.trans (srt2_perm ks).symm) h1 (srt2_rise ks)
theorem eqv_prs : ∀ l m : List Tr2.I2, PyData.eqvAll (l.map tr2D) (m.map tr2D) = decide (l = m)
  | [], [] => rfl
  | [], _ :: _ => rfl
  | _ :: _, [] => rfl
  | a :: l, b :: m => by
    show (PyData.eqv (tr2D a) (tr2D b) && PyData.eqvAll (l.map tr2D) (m.map tr2D)) = _
    rw [eqv_prs l m]
    have : PyData.eqv (tr2D a) (tr2D b) = decide (a = b) := by
      have := eqv_tup [a.1, a.2] [b.1, b.2]
      show PyData.eqv (.tuple ([a.1, a.2].map PyData.int)) (.tuple ([b.1, b.2].map PyData.int)) = _
      rw [this]
      refine decide_eq_decide.mpr ?_
      obtain ⟨a1, a2⟩ := a
      obtain ⟨b1, b2⟩ := b
      simp
    rw [this]
    by_cases h1 : a = b <;> simp [h1]
theorem shp_tr2 (k : Tr2.I2) : Shp 1 (tr2D k) := Shp.tuple (k := 0) (shp_ints [k.1, k.2])
theorem shp_prs (l : List Tr2.I2) : Shp 2 (.list (l.map tr2D)) := Shp.list fun d h => by
  obtain ⟨i, _, rfl⟩ := List.mem_map.mp h
  exact shp_tr2 i
theorem ei_eqPrs {l m : List Tr2.I2} (ha : EvD K ta σ H (.list (l.map tr2D))) (hb : EvD K tb σ H (.list (m.map tr2D))) : EvI K (tOp (rEqD K) ta tb) σ H (.bool (decide (l = m))) :=
  EvI.to (ei_eqD ha hb (shp_prs l).ok (shp_prs m).ok) (congrArg PyData.bool (eqv_prs l m))
theorem ei_inD (ha : EvD K ta σ H d) (hb : EvD K tb σ H (.list ds)) (hd : SeqAt.shaped d = true) (he : SeqAt.shaped (.list ds) = true) : EvI K (tOp (rInD K) ta tb) σ H (.bool (ds.any fun z => PyData.eqv z d)) :=
  ex_op ha mD hb fun x y H1 _ r1 r2 Q q => ⟨d, ds, r1, r2, hd, he, q _ H1 (Ex.refl H1) (.bl _)⟩
def sp2 (x : Sp2) : Tr2.I2 := ((x.1 : Int), (x.2 : Int))
theorem spD_tr2 (x : Sp2) : spD x = tr2D (sp2 x) := rfl
theorem sp2_inj {x y : Sp2} (h : sp2 x = sp2 y) : x = y := by
  obtain ⟨a, b⟩ := x
  obtain ⟨c, e⟩ := y
  unfold sp2 at h
  simp only [Prod.mk.injEq] at h ⊢
  omega
theorem eqv_sp (x y : Sp2) : PyData.eqv (spD x) (spD y) = decide (x = y) := by
  have := eqv_prs [sp2 x] [sp2 y]
  have e : PyData.eqvAll ([sp2 x].map tr2D) ([sp2 y].map tr2D) = (PyData.eqv (spD x) (spD y) && true) := rfl
  rw [e, Bool.and_true] at this
  rw [this]
  refine decide_eq_decide.mpr ⟨fun h => sp2_inj (by simpa using h), fun h => by rw [h]⟩
/-- a spot in a list of spots -/
theorem ei_inSp {x : Sp2} {l : List Sp2} (ha : EvD K ta σ H (spD x)) (hb : EvD K tb σ H (.list (l.map spD))) : EvI K (tOp (rInD K) ta tb) σ H (.bool (decide (x ∈ l))) := by
  refine EvI.to (ei_inD ha hb (shp_sp x).ok (shp_sps l).ok) (congrArg PyData.bool ?_)
  rw [List.any_map, Bool.eq_iff_iff, List.any_eq_true, decide_eq_true_eq]
  constructor
  · rintro ⟨y, hy, e⟩
    have e : PyData.eqv (spD y) (spD x) = true := e
    rw [eqv_sp] at e
    rw [← of_decide_eq_true e]; exact hy
  · intro h
    exact ⟨x, h, by show PyData.eqv (spD x) (spD x) = true; rw [eqv_sp]; exact decide_eq_true rfl⟩
/-! ### sorted of two letters -/
theorem sorted_ab {x y : Nat} (h : (x = 97 ∧ y = 98) ∨ (x = 98 ∧ y = 97)) : ∀ ys : List Str, ys.Perm [st [x], st [y]] → sortedS ys = true → ys = [st [97], st [98]] := fun ys p s => by
  have l := p.length_eq
  match ys, l with
  | [a, b], _ =>
    have ma := p.mem_iff.mp (show a ∈ [a, b] by simp)
    have mb := p.mem_iff.mp (show b ∈ [a, b] by simp)
    have m1 := p.mem_iff.mpr (show st [x] ∈ [st [x], st [y]] by simp)
    have m2 := p.mem_iff.mpr (show st [y] ∈ [st [x], st [y]] by simp)
    simp only [List.mem_cons, List.not_mem_nil, or_false] at ma mb m1 m2
    have ne : st [97] ≠ st [98] := by decide
    have s1 : sortedS [st [98], st [97]] = false := by decide +kernel
    rcases h with ⟨rfl, rfl⟩ | ⟨rfl, rfl⟩ <;> rcases ma with rfl | rfl <;> rcases mb with rfl | rfl <;> simp_all
theorem en_sortedAB {x y : Nat} (h : (x = 97 ∧ y = 98) ∨ (x = 98 ∧ y = 97)) (ha : EvK K ta σ H ([st [x], st [y]].map PyData.str)) : EvN K (tCB (rSortedS K) (tCons ta tNil)) σ H ([("a" : Str), "b"].map PyData.str) := fun H1 e Q q => ha H1 e _ fun v H2 e2 r => by
  obtain ⟨a, xs, rfl, h1, h2⟩ := r
  have := strs_back (ns := [st [x], st [y]]) h2
  subst this
  refine ⟨a, _, rfl, h1, Nat.le_of_ble_eq_true rfl, fun ys p g1 g2 hp => ?_⟩
  have := sorted_ab h ys g1 g2
  subst this
  exact q p _ _ (fresh_back e2 hp) (e2.trans (Ex.new hp)) upd_same (ImAll.strs _ [("a" : Str), "b"])
end
theorem kr_sortedS {X : Cx} {K : PySem.W.Frag} (h : X.K = K) : CallR X (.builtin "sorted") (rSortedS K) := by subst h; exact cr_sortedS
/-! ### isinstance of own classes -/
structure ClsTy (K : PySem.W.Frag) (C : Addr) : Prop where
  cl : Cls K C
  ha : PySem.W.findIn K (.ref C) "__class__" = some (some (.builtin "object.__class__"))
  hn : PySem.W.specialIn K (.builtin "object.__class__") "__get__" = some (some (.builtin "getset_descriptor.__get__"))
  htk : PySem.W.takesIn K (.builtin "object.__class__") = some true
  hm : PySem.W.mroIn K C (.type "object") = some true
abbrev IsA (K : PySem.W.Frag) (C D : Addr) (b : Bool) : Prop := PySem.W.kitOne K (.ref C) (.ref D) = some b
theorem ei_isC {K : PySem.W.Frag} {σ : L2.St} {H : Hp} {te : TE} {C D : Addr} {fs : List (Str × V)} {b : Bool} (t : ClsTy K C) (i : IsA K C D b) (h : EvX te σ H (IsIns C fs)) : EvI K (tCB (rIsi K) (tCons te (tCons (tC (.ref D)) tNil))) σ H (.bool b) := fun H1 e Q q =>
  h H1 e _ fun x H2 e2 ⟨a, dx, h1, h2⟩ => by
    subst h1
    exact ⟨.ref a, .ref D, .ref C, .ref D, b, rfl, .own D, .base (.ins h2 t.cl t.ha t.hn t.htk t.hm), i, q _ H2 e2 (.bl _)⟩
section
variable {K : PySem.W.Frag}
theorem sqT_kp {l a : Addr} {xs ys : List V} {H H' : Hp} (hl : H l = some (.lst ys)) (k : Kp l H H') (h : SqT K H a xs) : SqT K H' a xs := by
  rcases h with h | h
  · refine .inl ?_
    have ne : a ≠ l := by
      rintro rfl
      rcases h with h | ⟨o', h⟩ <;> rw [hl] at h <;> cases h
    rcases h with h | ⟨o', h⟩
    · exact .inl (k _ _ ne h)
    · exact .inr ⟨o', k _ _ ne h⟩
  · exact .inr h
theorem Im.kp {l : Addr} {ys : List V} {H H' : Hp} {v : V} {d : PyData} (hl : H l = some (.lst ys)) (k : Kp l H H') (h : Im K H v d) : Im K H' v d := Im.carry (fun _ _ q => sqT_kp hl k q) d v h
theorem ImAll.kp {l : Addr} {ys : List V} {H H' : Hp} {v : List V} {d : List PyData} (hl : H l = some (.lst ys)) (k : Kp l H H') (h : ImAll K H v d) : ImAll K H' v d := ImAll.carry (fun _ _ q => sqT_kp hl k q) d v h
end
end DWL
/-! ### the head's facts, with some more -/
namespace DWX
open PySem PySem.Spec PyProof.Rows L2 He DWL
inductive Fx where
  | ty (x : Str)
  | isa (x y : Str) (b : Bool)
  | any (p : PySem.W.Frag → Bool)
def Fx.ok (K : PySem.W.Frag) : Fx → Bool
  | .ty x => eqO (PySem.W.findIn K (.ref (ga K x)) "__class__") (some (some (.builtin "object.__class__"))) && (eqO (PySem.W.specialIn K (.builtin "object.__class__") "__get__") (some (some (.builtin "getset_descriptor.__get__"))) && (decide (PySem.W.takesIn K (.builtin "object.__class__") = some true) && decide (PySem.W.mroIn K (ga K x) (.type "object") = some true)))
  | .isa x y b => decide (PySem.W.kitOne K (.ref (ga K x)) (.ref (ga K y)) = some b)
  | .any p => p K
theorem ty_ok {K : PySem.W.Frag} {x : Str} (cl : Cls K (ga K x)) (c : (Fx.ty x).ok K = true) : ClsTy K (ga K x) := by
  obtain ⟨c1, c⟩ := ba c
  obtain ⟨c2, c⟩ := ba c
  obtain ⟨c3, c4⟩ := ba c
  exact ⟨cl, eqO_ok c1, eqO_ok c2, of_decide_eq_true c3, of_decide_eq_true c4⟩
theorem isa_ok {K : PySem.W.Frag} {x y : Str} {b : Bool} (c : (Fx.isa x y b).ok K = true) : IsA K (ga K x) (ga K y) b := of_decide_eq_true c
def obsX (fa : List Fa) (fx : List Fx) (fn : List DefD) (K : PySem.W.Frag) : Bool × AlD := (fx.all fun f => f.ok K, obsD fa fn K)
def valX (fn : List DefD) : Bool × AlD := (true, valD fn)
def SaysX (fa : List Fa) (fx : List Fx) (fn : List DefD) (K : PySem.W.Frag) : Prop := obsX fa fx fn K = valX fn
def obsXG (n : Nat) (fa : List Fa) (fx : List Fx) (fn : List DefD) (g : Addr → Option Obj) : Bool × AlD := obsX fa fx fn (frG g (asD g n))
def hookX (n : Nat) (fa : List Fa) (fx : List Fx) (fn : List DefD) : PySem.W.Hook where
  α := Bool × AlD
  obs := fun s => obsXG n fa fx fn s.heap.get?
  val := fun _ => valX fn
  says := fun _ h => ∃ K : PySem.W.Frag, K.In h ∧ SaysX fa fx fn K
  of := fun _ _ e => ⟨_, frG_in, e⟩
  keeps := fun _ _ _ ⟨K, hK, c⟩ k => ⟨K, PySem.W.Frag.In.keeps hK k, c⟩
theorem obsXG_eq {n : Nat} {fa : List Fa} {fx : List Fx} {fn : List DefD} {g : Addr → Option Obj} {s : Shared} (h : ∀ a, g a = s.heap.get? a) : obsXG n fa fx fn g = (hookX n fa fx fn).obs s := by
  have e : g = s.heap.get? := funext h
  rw [e] <;> rfl
section
variable {fa : List Fa} {fx : List Fx} {fn : List DefD} {K : PySem.W.Frag}
theorem SaysX.says (c : SaysX fa fx fn K) : SaysD fa fn K := congrArg (fun z : Bool × AlD => z.2) c
theorem SaysX.more (c : SaysX fa fx fn K) (i : Nat) {f : Fx} (h : fx[i]? = some f := by rfl) : f.ok K = true :=
  List.all_eq_true.mp (show (fx.all fun f => f.ok K) = true from congrArg (fun z : Bool × AlD => z.1) c) f (List.mem_of_getElem? h)
end
end DWX
/-! a method of an object of one of some classes; a for over a list of any values -/
namespace DWL
open PySem PySem.Spec PyProof.Rows L2 Evl DW
section
variable {X : Cx} {e o : Expr} {es : List Expr} {t : TA} {ta : TE} {pos apos : Pos} {k : Nat} {ps : List Str} {m : Str}
/-- o.m(..), o of a class that R names, each with its promise -/
def tMethE (m : Str) (R : Addr → Sp → Prop) (E : XK) (ta : TE) (t : TA) : TE := fun σ H Q => ta σ H fun x H1 => ∃ C sp a dx fs, R C sp ∧ x = .ref a ∧ H1 a = some (.ins C dx fs) ∧ fs.lookup m = none ∧ t σ H1 fun vs H2 => sp (x :: vs) H2 Q E
theorem pe_methE {pl : Sem Bool} {R : Addr → Sp → Prop} (c : ∀ C sp, R C sp → Cls X.K C ∧ CalleeM X.prog X.w X.K X.mg X.base CX0 k C m ps sp) (he : PE X o ta) (hr : Room k X.A) (ha : PA X (e :: es) t)
    (hst : starEach (e :: es) X.env = (false, eval e X.env) :: starEach es X.env := by rfl) (hpl : (backTo pos (starEach es X.env)).any (·.1) = false := by rfl)
    (ht : eval (.Call (.Attribute o m apos) (e :: es) [] pos) X.env = (do
      let ov ← eval o X.env
      standAt apos.atName
      let (f, first) ← holding [ov] (getMethod ov m pl)
      callWith pos f first (backTo pos (starEach (e :: es) X.env)) (backToKw pos (keywordEach [] X.env))) := by rfl) : PE X (.Call (.Attribute o m apos) (e :: es) [] pos) (tMethE m R E0 ta t) := by
  refine ⟨fun pins s σ H Q I h => ?_⟩
  refine PySem.W.methodCall_KW (pl := pl) (thn (he.run pins s σ H _ I h) fun u s1 ⟨x, H1, I1, rx, C, sp, a, dx, fs, hR, ex, ea, l, q⟩ => ?_) ht
  obtain ⟨cls, f, fd, F, hm, hb⟩ := c C sp hR
  subst ex
  obtain rfl : u = Value.ref a := rx
  refine getmeth_ok I1 ea cls hm l ?_
  refine PySem.W.callWith_K (first := [.ref a]) (h₀ := X.base) I.ok.mod.kin hm.kp (thn (ha.run pos pins s1 σ H1 _ I1 q) fun us s2 ⟨vs, H2, I2, r, q2⟩ => ⟨I2.kIn, ?_⟩) hst hpl
  exact run_fn (us := .ref a :: us) (vs := .ref a :: vs) F hr hb .nil pass0 I2 (.cons rfl r) (by simpa using q2)
end
section
variable {K : PySem.W.Frag} {σ : L2.St} {H : Hp} {te : TE} {ta : TA} {m : Str} {d : PyData} {R : Addr → Sp → Prop}
theorem ei_methE {C : Addr} {fs : List (Str × V)} {P : List V → Hp → Prop} {pre : List V → Hp → PyData → Prop} (hR : R C (PrI K pre)) (h : EvX te σ H (IsIns C fs)) (hl : fs.lookup m = none) (ha : EvAX ta σ H P)
    (hp : ∀ x vs H1, Ex H H1 → IsIns C fs x H1 → P vs H1 → pre (x :: vs) H1 d) : EvI K (tMethE m R E0 te ta) σ H d := fun H1 e Q q =>
  h H1 e _ fun x H2 e2 hx => by
    obtain ⟨a, dx, h1, h2⟩ := id hx
    refine ⟨C, _, a, dx, fs, hR, h1, h2, hl, ha H2 (e.trans e2) _ fun vs H3 e3 hP => ?_⟩
    exact ⟨d, hp x vs H3 (e.trans (e2.trans e3)) (mIns _ _ _ e3 hx) hP, fun v H4 e4 r => q v H4 (e2.trans (e3.trans e4)) r⟩
theorem ex_callQ2 {R : V → Hp → Prop} {Pa : List V → Hp → Prop} {sp : Sp} {E : XK} (h : EvAX ta σ H Pa) (hp : ∀ vs H1 Q, Ex H H1 → Pa vs H1 → (∀ v H2, Ex H1 H2 → R v H2 → Q v H2) → sp vs H1 Q E) : EvX (tCall sp [] E ta) σ H R := fun H1 e Q q =>
  h H1 e _ fun vs H2 e2 p => by rw [List.append_nil]; exact hp vs H2 Q (e.trans e2) p fun v H3 e3 r => q v H3 (e2.trans e3) r
/-- a for over a list whose items are known one by one -/
theorem x_forX {tl : TE} {D : Ends} {tu tz : TS} {g : TG} {Pl : List V → Hp → Prop} (h : EvX tl σ H fun v H1 => ∃ a xs, v = .ref a ∧ SqL K H1 a xs ∧ Pl xs H1)
    (k : ∀ a xs H1, Ex H H1 → SqL K H1 a xs → Pl xs H1 → ∃ Pv : Nat → L2.St → Hp → Prop, Pv 0 σ H1 ∧ (∀ i σ' H', i ≤ xs.length → Pv i σ' H' → SqL K H' a xs) ∧
      (∀ i x σ' H', xs[i]? = some x → Pv i σ' H' → g x σ' H' fun σ2 H2 => tu { D with nx := Pv (i + 1), ct := Pv (i + 1), bk := tz D } σ2 H2) ∧ (∀ σ' H', Pv xs.length σ' H' → tz D σ' H')) :
    tSeq (tFor (iList K tl) g tu) tz D σ H := h H (Ex.refl H) _ fun v H1 e1 r => by
  obtain ⟨a, xs, rfl, h1, h2⟩ := r
  obtain ⟨Pv, p0, pl, ps, pd⟩ := k a xs H1 e1 h1 h2
  exact ⟨a, rfl, ⟨xs, h1⟩, for_list (xs := xs) Pv p0 pl ps pd⟩
/-- a for over a new list of data -/
theorem x_forN {δ : Type} {enc : δ → PyData} {L : List δ} {tl : TE} {D : Ends} {tu tz : TS} {tg : TG} (h : EvN K tl σ H (L.map enc))
    (k : ∀ a xs H1, H a = none → Ex H H1 → H1 a = some (.lst xs) → ImAll K H1 xs (L.map enc) → ∃ Pv : Nat → L2.St → Hp → Prop, Pv 0 σ H1 ∧ (∀ i σ' H', i ≤ L.length → Pv i σ' H' → H' a = some (.lst xs) ∧ ImAll K H' xs (L.map enc)) ∧
      (∀ i c x σ' H', L[i]? = some c → Pv i σ' H' → Im K H' x (enc c) → tg x σ' H' fun σ2 H2 => tu { D with nx := Pv (i + 1), ct := Pv (i + 1), bk := tz D } σ2 H2) ∧ (∀ σ' H', Pv L.length σ' H' → tz D σ' H')) :
    tSeq (tFor (iList K tl) tg tu) tz D σ H := h H (Ex.refl H) _ fun a xs H1 hp e1 h1 h2 => by
  have hl : L.length = xs.length := by rw [h2.length, List.length_map]
  obtain ⟨Pv, p0, pl, ps, pd⟩ := k a xs H1 hp e1 h1 h2
  refine ⟨a, rfl, ⟨xs, sq_of h1⟩, for_list (xs := xs) Pv p0 (fun i σ' H' hi p => sq_of (pl i σ' H' (by omega) p).1) (fun i x σ' H' hx p => ?_) (fun σ' H' p => pd σ' H' (by rw [hl]; exact p))⟩
  have hi := (List.getElem?_eq_some_iff.mp hx).1
  obtain ⟨dd, k1, k2⟩ := (pl i σ' H' (by omega) p).2.getV hx
  have hi' : i < L.length := by omega
  have : dd = enc L[i] := by
    rw [List.getElem?_map, List.getElem?_eq_getElem hi'] at k1; exact (Option.some.inj k1).symm
  subst this
  exact ps i L[i] x σ' H' (List.getElem?_eq_getElem hi') p k2
theorem ei_notBl {b c : Bool} (ha : EvI K te σ H (.bool b)) : EvI K (tOp rNotB te (tC (.bl c))) σ H (.bool (!decide (b = c))) :=
  ex_op ha mI evv_c fun x y H1 _ r1 r2 Q q => by
    cases r1
    subst r2
    exact ⟨b, c, rfl, rfl, q _ H1 (Ex.refl H1) (.bl _)⟩
def isNone : PyData → Bool
  | .none => true
  | _ => false
theorem ei_notN {d' : PyData} (ha : EvI K te σ H d') : EvI K (tOp (fun x y H Q => y = .non ∧ Q (.bl (!decide (x = .non))) H) te (tC .non)) σ H (.bool (!isNone d')) :=
  ex_op ha mI evv_c fun x y H1 _ r1 r2 Q q => by
    refine ⟨r2, q _ H1 (Ex.refl H1) ?_⟩
    have : decide (x = V.non) = isNone d' := by
      cases r1 <;> simp [isNone]
    rw [this]; exact .bl _
end
end DWL
/-! a walk over a list or a tuple, whichever it is -/
namespace DWL
open PySem PySem.Spec PyProof.Rows L2 Evl DW
def iSeq (K : PySem.W.Frag) (tl : TE) : TI := fun σ H R => tl σ H fun x H1 => (∃ a, x = .ref a ∧ (∃ xs, SqL K H1 a xs) ∧ R (Itl K a) H1) ∨ (∃ a, x = .ref a ∧ (∃ xs, SqT K H1 a xs) ∧ R (Itt K a) H1)
theorem ki_seq {X : Cx} {K : PySem.W.Frag} {tg l : Expr} {tl : TE} (h : X.K = K) (hl : PE X l tl) : PI X tg l (iSeq K tl) := by
  subst h
  refine ⟨fun pins s σ H R I h => ?_⟩
  refine thn (hl.run pins s σ H _ I h) fun v s1 ⟨x, H1, I1, r1, q1⟩ => ?_
  rcases q1 with ⟨a, e, ⟨xs, hq⟩, q⟩ | ⟨a, e, ⟨xs, hq⟩, q⟩
  · subst e
    cases r1
    obtain ⟨its, rv, p, hz⟩ := I1.list hq
    refine wpAny_pyIter_list p.isList ?_
    refine ⟨s1.heap.objs.size, [s1.heap.objs.size], _, _, H1, rfl, I1.kept (t' := s1.toks) fun b o e => Heap.get?_push_of_some _ e, turn_list a _, ⟨_, Heap.get?_push_size _ rfl, rfl, rfl⟩, fun b hb => ?_, q⟩
    have e : b = s1.heap.objs.size := by simpa using hb
    subst e
    exact I1.fpOk (Nat.le_refl _) (I1.hok.fresh (Nat.le_refl _))
  · subst e
    cases r1
    obtain ⟨its, rv, p, hz⟩ := I1.tuple hq
    refine wpAny_pyIter_tuple (show s1.heap.IsTuple a its.toArray from p) ?_
    refine ⟨s1.heap.objs.size, [s1.heap.objs.size], _, _, H1, rfl, I1.kept (t' := s1.toks) fun b o e => Heap.get?_push_of_some _ e, turn_tuple a _, ⟨_, Heap.get?_push_size _ rfl, rfl, rfl⟩, fun b hb => ?_, q⟩
    have e : b = s1.heap.objs.size := by simpa using hb
    subst e
    exact I1.fpOk (Nat.le_refl _) (I1.hok.fresh (Nat.le_refl _))
section
variable {K : PySem.W.Frag} {σ : L2.St} {H : Hp} {te tl : TE} {tg : TG} {vs : List Nat}
theorem dpall_getV : ∀ {xs : List V} {ds : List PyData} {i : Nat} {x : V}, DpAll K H xs ds → xs[i]? = some x → ∃ d, ds[i]? = some d ∧ Dp K H x d
  | _, _, _, _, .nil, h => by simp at h
  | _, _, 0, _, .cons a _, h => by
    simp at h; subst h
    exact ⟨_, rfl, a⟩
  | _, _, i + 1, _, .cons _ t, h => by
    obtain ⟨d, h1, h2⟩ := dpall_getV t (by simpa using h)
    exact ⟨d, by simpa using h1, h2⟩
/-- a comprehension over a list or a tuple of data -/
theorem en_lcSeq {L : List PyData} (g : PyData → PyData) (h : EvX tl σ H fun v H1 => Dp K H1 v (.list L) ∨ Dp K H1 v (.tuple L)) (hz : L.length ≤ 40000)
    (hb : ∀ a ∈ L, ∀ x H1, Ex H H1 → Dp K H1 x a → ∃ σ', (∀ Q : L2.St → Hp → Prop, Q σ' H1 → tg x (wipe σ vs) H1 Q) ∧ wipe σ' vs = wipe σ vs ∧ EvI K te σ' H1 (g a)) :
    EvN K (tLc (iSeq K tl) tg tYes te vs) σ H (L.map g) := fun H0 e0 Q q => h H0 e0 _ fun v H1 e1 r => by
  have fin : (L.filter fun _ => true).map g = L.map g := by rw [List.filter_eq_self.mpr (fun _ _ => rfl)]
  rcases r with r | r
  · cases r with
    | @lst a xs ds h1 h2 =>
      have hl : L.length = xs.length := (dpall_len h2).symm
      refine .inl ⟨a, rfl, ⟨xs, h1⟩, fun Dl hD => lc_go (walk_list (K := K) (a := a) (xs := xs)) L hl (by omega) (fun _ => true) g hD (fun H' e => ex_l e h1) (fun i b x H' H'' hb' e y => ?_) fun H' ys e g1 g2 => q Dl ys H' (fresh_back e1 hD) (e1.trans e) g1 (fin ▸ g2)⟩
      obtain ⟨rfl, hx⟩ := y
      obtain ⟨dd, k1, k2⟩ := dpall_getV ((dp_mono e).2 _ _ h2) hx
      rw [hb'] at k1; cases k1
      obtain ⟨σ', p1, p2, p3⟩ := hb b (List.mem_of_getElem? hb') x _ ((e0.trans e1).trans e) k2
      exact ⟨Ex.refl _, σ', p1, p2, et_yes, fun _ => p3⟩
  · cases r with
    | @tup a xs ds h1 h2 =>
      have hl : L.length = xs.length := (dpall_len h2).symm
      refine .inr ⟨a, rfl, ⟨xs, h1⟩, fun Dl hD => lc_go (walk_tup (K := K) (a := a) (xs := xs)) L hl (by omega) (fun _ => true) g hD (fun H' e => ex_t e h1) (fun i b x H' H'' hb' e y => ?_) fun H' ys e g1 g2 => q Dl ys H' (fresh_back e1 hD) (e1.trans e) g1 (fin ▸ g2)⟩
      obtain ⟨rfl, hx⟩ := y
      obtain ⟨dd, k1, k2⟩ := dpall_getV ((dp_mono e).2 _ _ h2) hx
      rw [hb'] at k1; cases k1
      obtain ⟨σ', p1, p2, p3⟩ := hb b (List.mem_of_getElem? hb') x _ ((e0.trans e1).trans e) k2
      exact ⟨Ex.refl _, σ', p1, p2, et_yes, fun _ => p3⟩
end
section
variable {P : Program} {w : World} {K : PySem.W.Frag} {mg : Str → Option Value} {base : Heap}
/-- no promise: any def keeps it -/
theorem Def.none {x : Str} {st : Stmt} {ps : List Str} (F : Def K mg x st)
    (hb : ∀ (kV doc pm : Value) (an : Option Addr) (cdv ct : Value) (us : List Value), us.length = ps.length → bindArgs (PySem.W.fnOf x x (defArgs st) (defBody st) (defScope st) .none kV doc pm an cdv ct) ⟨us, []⟩ = pure (ps.zip us)) : Callee P w K mg base CX0 0 x ps (fun _ _ _ _ => False) := by
  obtain ⟨f, fd, hF, hg⟩ := F
  exact ⟨f, fd, ⟨fun _ _ _ _ h => h.elim, fun _ _ _ _ _ _ _ _ _ _ _ _ _ h => h.elim⟩, hg, hF.kp, hF.bindsN hb⟩
end
end DWL
/-! tracked lists of data of any kind, of values known one by one -/
namespace DWL
open PySem PySem.Spec PyProof.Rows L2 Evl DW
section
variable {K : PySem.W.Frag} {σ : L2.St} {H H' H0 : Hp} {ta tb te tl : TE} {tA tr : TA} {t : TT} {R : V → Hp → Prop} {d : PyData} {ds es : List PyData} {D : Ends} {tz : TS} {tg : TG} {vs : List Nat} {p : Addr}
theorem dpall_app : ∀ {xs ys : List V} {ds es : List PyData}, DpAll K H xs ds → DpAll K H ys es → DpAll K H (xs ++ ys) (ds ++ es)
  | _, _, _, _, .nil, h => h
  | _, _, _, _, .cons a b, h => .cons a (dpall_app b h)
/-- a tracked list of data of any kind -/
def LmD (K : PySem.W.Frag) (H : Hp) (v : V) (ds : List PyData) : Prop := ∃ a xs, v = .ref a ∧ H a = some (.lst xs) ∧ DpAll K H xs ds
theorem mLD : Mon fun v H2 => LmD K H2 v ds := fun _ _ _ e ⟨a, xs, h1, h2, h3⟩ => ⟨a, xs, h1, e _ _ h2, (dp_mono e).2 _ _ h3⟩
theorem LmD.dp {v : V} (h : LmD K H v ds) : Dp K H v (.list ds) := by
  obtain ⟨a, xs, rfl, h2, h3⟩ := h
  exact .lst (sq_of h2) h3
theorem Lm.toLmD {v : V} (h : Lm K H v ds) : LmD K H v ds := by
  obtain ⟨a, xs, rfl, h2, h3⟩ := h
  exact ⟨a, xs, rfl, h2, ImAll.dp _ _ h3⟩
/-- one made since H0, its items such data before it was made -/
def DL (K : PySem.W.Frag) (H0 H : Hp) (p : Addr) (ds : List PyData) : Prop := ∃ xs Hb, Ex H0 Hb ∧ Hb p = none ∧ DpAll K Hb xs ds ∧ Ex Hb H ∧ H p = some (.lst xs)
theorem DL.go (e : Ex H H') (g : DL K H0 H p ds) : DL K H0 H' p ds := by
  obtain ⟨xs, Hb, h1, h2, h3, h4, h5⟩ := g
  exact ⟨xs, Hb, h1, h2, h3, h4.trans e, e _ _ h5⟩
theorem DL.back (e : Ex H' H0) (g : DL K H0 H p ds) : DL K H' H p ds := by
  obtain ⟨xs, Hb, h1, h2⟩ := g
  exact ⟨xs, Hb, e.trans h1, h2⟩
theorem DL.ex (g : DL K H0 H p ds) : Ex H0 H := by
  obtain ⟨xs, Hb, h1, h2, h3, h4, h5⟩ := g
  exact h1.trans h4
theorem DL.lm (g : DL K H0 H p ds) : LmD K H (.ref p) ds := by
  obtain ⟨xs, Hb, h1, h2, h3, h4, h5⟩ := g
  exact ⟨p, xs, rfl, h5, (dp_mono h4).2 _ _ h3⟩
def EvND (K : PySem.W.Frag) (te : TE) (σ : L2.St) (H : Hp) (ds : List PyData) : Prop := EvX te σ H fun v H2 => ∃ p, v = .ref p ∧ DL K H H2 p ds
theorem mDL : Mon fun v H2 => ∃ p, v = .ref p ∧ DL K H0 H2 p ds := fun _ _ _ e ⟨p, h1, h2⟩ => ⟨p, h1, h2.go e⟩
theorem EvND.lm (h : EvND K te σ H ds) : EvX te σ H fun v H2 => LmD K H2 v ds := EvX.imp h fun v H2 ⟨p, h1, h2⟩ => by subst h1; exact h2.lm
theorem EvN.lmd (h : EvN K te σ H ds) : EvX te σ H fun v H2 => LmD K H2 v ds := EvX.imp h.m fun v H2 r => Lm.toLmD r
theorem nd_lst (h : EvAD K tA σ H ds) (hl : ds.length ≤ 100000) : EvND K (tLst tA) σ H ds := fun H1 e Q q => h H1 e _ fun vs H2 e2 r =>
  ⟨sz_of (by rw [dpall_len r]; exact hl), fun p hp => q _ _ (e2.trans (Ex.new hp)) ⟨p, rfl, vs, H2, e.trans e2, hp, r, Ex.new hp, upd_same⟩⟩
theorem nd_cat (ha : EvX ta σ H fun v H2 => LmD K H2 v ds) (hb : EvX tb σ H fun v H2 => LmD K H2 v es) (hl : ds.length + es.length ≤ 100000) : EvND K (tOp rCat ta tb) σ H (ds ++ es) := fun H1 e Q q =>
  ha H1 e _ fun x H2 e2 r1 => hb H2 (e.trans e2) _ fun y H3 e3 r2 => by
    obtain ⟨a, xs, rfl, h1, h2⟩ := mLD _ _ _ e3 r1
    obtain ⟨b, ys, rfl, h3, h4⟩ := r2
    exact ⟨a, b, xs, ys, rfl, rfl, h1, h3, sz_of (by rw [dpall_len h2, dpall_len h4]; exact hl), fun p hp => q _ _ ((e2.trans e3).trans (Ex.new hp)) ⟨p, rfl, xs ++ ys, H3, (e.trans e2).trans e3, hp, dpall_app h2 h4, Ex.new hp, upd_same⟩⟩
theorem y_asgD {i : Nat} (K : PySem.W.Frag) (ds : List PyData) (h : EvND K te σ H ds) (k : ∀ p H1, DL K H H1 p ds → tz D (σ.set i (some (.ref p))) H1) : tSeq (tAsg te (gName i)) tz D σ H := h H (Ex.refl H) _ fun v H1 e ⟨p, h1, h2⟩ => by subst h1; exact k p H1 h2
theorem y_par {i j : Nat} {S : V → Hp → Prop} (R : V → Hp → Prop) (h1 : EvX ta σ H R) (m : Mon R) (h2 : EvX tb σ H S) (k : ∀ v w H1, Ex H H1 → R v H1 → S w H1 → tz D ((σ.set i (some v)).set j (some w)) H1) : tSeq (tPar i j (tCons ta (tCons tb tNil))) tz D σ H :=
  eax2 h1 m h2 H (Ex.refl H) (fun vs H1 => ∃ v w, vs = [v, w] ∧ tz D ((σ.set i (some v)).set j (some w)) H1) fun vs H1 e hx => by
    obtain ⟨x, y, h, r1, r2⟩ := hx
    exact ⟨x, y, h, k x y H1 e r1 r2⟩
/-- l.append(e), a number -/
theorem y_appD {n : Int} (g : DL K H0 H p ds) (hv : EvV ta σ H (.ref p)) (h : EvI K te σ H (.int n)) (hl : ds.length < 100000) (k : ∀ H1, DL K H0 H1 p (ds ++ [.int n]) → tz D σ H1) : tSeq (tDrop (tBM K "list" rAppend ta (tCons te tNil))) tz D σ H :=
  hv H (Ex.refl H) _ fun u H1 e1 hu => by
    subst hu
    obtain ⟨xs, Hb, g1, g2, g3, g4, g5⟩ := g.go e1
    refine ⟨.inl ⟨rfl, xs, sq_of g5⟩, h H1 e1 _ fun w H2 e2 hw => ?_⟩
    cases hw
    exact ⟨p, xs, .int n, rfl, rfl, e2 _ _ g5, sz_lt (by rw [dpall_len g3]; exact hl), k _ ⟨_, Hb, g1, g2, dpall_app g3 (.cons (.int n) .nil), Ex.mut (g4.trans e2) g2, upd_same⟩⟩
/-- a tuple of data of any kind -/
theorem ed_tup (h : EvAD K tA σ H ds) (hl : ds.length ≤ 100000) : EvD K (tTup tA) σ H (.tuple ds) := fun H1 e Q q => h H1 e _ fun vs H2 e2 r =>
  ⟨sz_of (by rw [dpall_len r]; exact hl), fun p hp => q _ _ (e2.trans (Ex.new hp)) (.tup (Evl.st_of upd_same) ((dp_mono (Ex.new hp)).2 _ _ r))⟩
/-! values known one by one -/
def Each : List (V → Hp → Prop) → List V → Hp → Prop
  | [], [], _ => True
  | R :: Rs, v :: vs, H => R v H ∧ Each Rs vs H
  | _, _, _ => False
theorem Each.mono : ∀ {Rs : List (V → Hp → Prop)} {vs : List V}, (∀ R ∈ Rs, Mon R) → Ex H H' → Each Rs vs H → Each Rs vs H'
  | [], [], _, _, _ => trivial
  | R :: Rs, v :: vs, m, e, h => ⟨m R List.mem_cons_self _ _ _ e h.1, Each.mono (fun S hS => m S (List.mem_cons_of_mem _ hS)) e h.2⟩
  | [], _ :: _, _, _, h => h
  | _ :: _, [], _, _, h => h
theorem Each.len : ∀ {Rs : List (V → Hp → Prop)} {vs : List V}, Each Rs vs H → vs.length = Rs.length
  | [], [], _ => rfl
  | R :: Rs, v :: vs, h => by rw [List.length_cons, List.length_cons, Each.len h.2]
  | [], _ :: _, h => h.elim
  | _ :: _, [], h => h.elim
theorem Each.app : ∀ {Rs Ss : List (V → Hp → Prop)} {vs ws : List V}, Each Rs vs H → Each Ss ws H → Each (Rs ++ Ss) (vs ++ ws) H
  | [], _, [], _, _, g => g
  | R :: Rs, _, v :: vs, _, h, g => ⟨h.1, Each.app h.2 g⟩
  | [], _, _ :: _, _, h, _ => h.elim
  | _ :: _, _, [], _, h, _ => h.elim
theorem Each.get : ∀ {Rs : List (V → Hp → Prop)} {vs : List V} {i : Nat} {x : V}, Each Rs vs H → vs[i]? = some x → ∃ R, Rs[i]? = some R ∧ R x H
  | [], [], _, _, _, h => by simp at h
  | R :: Rs, v :: vs, 0, x, h, e => by
    simp at e; subst e
    exact ⟨R, rfl, h.1⟩
  | R :: Rs, v :: vs, i + 1, x, h, e => by
    obtain ⟨S, h1, h2⟩ := Each.get h.2 (show vs[i]? = some x by simpa using e)
    exact ⟨S, by simpa using h1, h2⟩
  | [], _ :: _, _, _, h, _ => h.elim
  | _ :: _, [], _, _, h, _ => h.elim
theorem eae_nil : EvAX tNil σ H (Each []) := fun H1 _ _ q => q [] H1 (Ex.refl H1) trivial
theorem eae_cons {Rs : List (V → Hp → Prop)} (h : EvX te σ H R) (m : Mon R) (hr : EvAX tr σ H (Each Rs)) : EvAX (tCons te tr) σ H (Each (R :: Rs)) := fun H1 e _ q =>
  h H1 e _ fun v H2 e2 r => hr H2 (e.trans e2) _ fun vs H3 e3 r2 => q _ H3 (e2.trans e3) ⟨m _ _ _ e3 r, r2⟩
/-- a tuple, a tracked list of such -/
def TpE (K : PySem.W.Frag) (Rs : List (V → Hp → Prop)) : V → Hp → Prop := fun v H => ∃ a xs, v = .ref a ∧ SqT K H a xs ∧ Each Rs xs H
def LmE (Rs : List (V → Hp → Prop)) : V → Hp → Prop := fun v H => ∃ a xs, v = .ref a ∧ H a = some (.lst xs) ∧ Each Rs xs H
theorem mTpE {Rs : List (V → Hp → Prop)} (m : ∀ R ∈ Rs, Mon R) : Mon (TpE K Rs) := fun _ _ _ e ⟨a, xs, h1, h2, h3⟩ => ⟨a, xs, h1, ex_t e h2, h3.mono m e⟩
theorem mLmE {Rs : List (V → Hp → Prop)} (m : ∀ R ∈ Rs, Mon R) : Mon (LmE Rs) := fun _ _ _ e ⟨a, xs, h1, h2, h3⟩ => ⟨a, xs, h1, e _ _ h2, h3.mono m e⟩
theorem ex_tupE {Rs : List (V → Hp → Prop)} (m : ∀ R ∈ Rs, Mon R) (h : EvAX tA σ H (Each Rs)) (hl : Rs.length ≤ 100000) : EvX (tTup tA) σ H (TpE K Rs) := fun H1 e Q q => h H1 e _ fun vs H2 e2 r =>
  ⟨sz_of (by rw [r.len]; exact hl), fun p hp => q _ _ (e2.trans (Ex.new hp)) ⟨p, vs, rfl, Evl.st_of upd_same, r.mono m (Ex.new hp)⟩⟩
theorem ex_lstE {Rs : List (V → Hp → Prop)} (m : ∀ R ∈ Rs, Mon R) (h : EvAX tA σ H (Each Rs)) (hl : Rs.length ≤ 100000) : EvX (tLst tA) σ H (LmE Rs) := fun H1 e Q q => h H1 e _ fun vs H2 e2 r =>
  ⟨sz_of (by rw [r.len]; exact hl), fun p hp => q _ _ (e2.trans (Ex.new hp)) ⟨p, vs, rfl, upd_same, r.mono m (Ex.new hp)⟩⟩
theorem ex_catE {Rs Ss : List (V → Hp → Prop)} (m : ∀ R ∈ Rs ++ Ss, Mon R) (ha : EvX ta σ H (LmE Rs)) (hb : EvX tb σ H (LmE Ss)) (hl : Rs.length + Ss.length ≤ 100000) : EvX (tOp rCat ta tb) σ H (LmE (Rs ++ Ss)) := fun H1 e Q q =>
  ha H1 e _ fun x H2 e2 r1 => hb H2 (e.trans e2) _ fun y H3 e3 r2 => by
    obtain ⟨a, xs, rfl, h1, h2⟩ := mLmE (fun R hR => m R (List.mem_append_left _ hR)) _ _ _ e3 r1
    obtain ⟨b, ys, rfl, h3, h4⟩ := r2
    exact ⟨a, b, xs, ys, rfl, rfl, h1, h3, sz_of (by rw [h2.len, h4.len]; exact hl), fun p hp => q _ _ ((e2.trans e3).trans (Ex.new hp)) ⟨p, _, rfl, upd_same, (h2.app h4).mono m (Ex.new hp)⟩⟩
/-- a tracked list of values of one kind -/
def LmS (S : V → Hp → Prop) (n : Nat) : V → Hp → Prop := fun v H => ∃ a xs, v = .ref a ∧ H a = some (.lst xs) ∧ xs.length = n ∧ ∀ x ∈ xs, S x H
theorem mLmS {S : V → Hp → Prop} {n : Nat} (m : Mon S) : Mon (LmS S n) := fun _ _ _ e ⟨a, xs, h1, h2, h3, h4⟩ => ⟨a, xs, h1, e _ _ h2, h3, fun x hx => m _ _ _ e (h4 x hx)⟩
theorem ex_catS {S : V → Hp → Prop} {n k : Nat} (m : Mon S) (ha : EvX ta σ H (LmS S n)) (hb : EvX tb σ H (LmS S k)) (hl : n + k ≤ 100000) : EvX (tOp rCat ta tb) σ H (LmS S (n + k)) := fun H1 e Q q =>
  ha H1 e _ fun x H2 e2 r1 => hb H2 (e.trans e2) _ fun y H3 e3 r2 => by
    obtain ⟨a, xs, rfl, h1, h2, h3⟩ := mLmS m _ _ _ e3 r1
    obtain ⟨b, ys, rfl, h4, h5, h6⟩ := r2
    refine ⟨a, b, xs, ys, rfl, rfl, h1, h4, sz_of (by omega), fun p hp => q _ _ ((e2.trans e3).trans (Ex.new hp)) ⟨p, _, rfl, upd_same, by rw [List.length_append, h2, h5], fun z hz => m _ _ _ (Ex.new hp) ?_⟩⟩
    rcases List.mem_append.mp hz with hz | hz
    · exact h3 z hz
    · exact h6 z hz
/-- a comprehension that makes objects -/
theorem ex_lcS {δ : Type} {enc : δ → PyData} {L : List δ} {S : Hp → V → Hp → Prop} (mS : ∀ Hs v H1 H2, Ex H1 H2 → S Hs v H1 → S Hs v H2) (wS : ∀ Hs v H1 l xs ys o, Hs l = some (.lst xs) → H1 l = some (.lst ys) → S Hs v H1 → S Hs v (upd H1 l o))
    (bS : ∀ Ha Hs v H1, Ex Ha Hs → S Hs v H1 → S Ha v H1) (h : EvK K tl σ H (L.map enc)) (hz : L.length ≤ 40000)
    (hb : ∀ a ∈ L, ∀ x H1, Ex H H1 → Im K H1 x (enc a) → ∃ σ', (∀ Q : L2.St → Hp → Prop, Q σ' H1 → tg x (wipe σ vs) H1 Q) ∧ wipe σ' vs = wipe σ vs ∧ EvX te σ' H1 (S H1)) :
    EvX (tLc (iList K tl) tg tYes te vs) σ H (LmS (S H) L.length) := fun H0 e0 Q q => h H0 e0 _ fun v H1 e1 r => by
  obtain ⟨a, xs, rfl, h1, h2⟩ := r
  have hl : L.length = xs.length := by rw [h2.length, List.length_map]
  refine ⟨a, rfl, ⟨xs, h1⟩, fun Dl hD => lc_it (walk_list (K := K) (a := a) (xs := xs)) (fun i H' => Ex H1 H' ∧ ∃ acc, H' Dl = some (.lst acc) ∧ acc.length = i ∧ ∀ x ∈ acc, ∃ Hs ys, Ex H1 Hs ∧ Hs Dl = some (.lst ys) ∧ S Hs x H') ⟨Ex.new hD, [], upd_same, rfl, fun x hx => nomatch hx⟩ (fun i H' _ p => ex_l p.1 h1) (fun i x H' H'' hi p y => ?_) (fun H' p => ?_)⟩
  · obtain ⟨p1, acc, p2, p3, p4⟩ := p
    obtain ⟨rfl, hx⟩ := y
    have hi' : i < L.length := by omega
    obtain ⟨dd, k1, k2⟩ := (h2.mono p1).getV hx
    have : dd = enc L[i] := by
      rw [List.getElem?_map, List.getElem?_eq_getElem hi'] at k1; exact (Option.some.inj k1).symm
    subst this
    obtain ⟨σ', b1, b2, b3⟩ := hb L[i] (List.getElem_mem hi') x _ ((e0.trans e1).trans p1) k2
    refine b1 _ ⟨b2, ?_⟩
    show (te σ' _ _)
    refine b3 _ (Ex.refl _) _ fun y H4 e4 hy => ?_
    have l4 := e4 _ _ p2
    refine ⟨acc, l4, sz_lt (by omega), Ex.mut (p1.trans e4) hD, acc ++ [y], upd_same, by rw [List.length_append, p3]; rfl, fun z hz' => ?_⟩
    rcases List.mem_append.mp hz' with hz' | hz'
    · obtain ⟨Hs, ys, s1, s2, s3⟩ := p4 z hz'
      exact ⟨Hs, ys, s1, s2, wS _ _ _ _ _ _ _ s2 l4 (mS _ _ _ _ e4 s3)⟩
    · rw [List.mem_singleton.mp hz']
      exact ⟨_, acc, p1, p2, wS _ _ _ _ _ _ _ p2 l4 hy⟩
  · obtain ⟨p1, acc, p2, p3, p4⟩ := p
    refine q _ _ (e1.trans p1) ⟨Dl, acc, rfl, p2, by omega, fun x hx => ?_⟩
    obtain ⟨Hs, ys, s1, s2, s3⟩ := p4 x hx
    exact bS _ _ _ _ ((e0.trans e1).trans s1) s3
/-- a comprehension over values known one by one -/
theorem en_lcE1 {Rs : List (V → Hp → Prop)} (m : ∀ R ∈ Rs, Mon R) (g : Nat → PyData) (h : EvX tl σ H (LmE Rs)) (hz : Rs.length ≤ 40000)
    (hb : ∀ i R x H1, Rs[i]? = some R → Ex H H1 → R x H1 → ∃ σ', (∀ Q : L2.St → Hp → Prop, Q σ' H1 → tg x (wipe σ vs) H1 Q) ∧ wipe σ' vs = wipe σ vs ∧ EvI K te σ' H1 (g i)) :
    EvN K (tLc (iList K tl) tg tYes te vs) σ H ((List.range Rs.length).map g) := fun H0 e0 Q q => h H0 e0 _ fun v H1 e1 r => by
  obtain ⟨a, xs, rfl, h1, h2⟩ := r
  have hl := h2.len
  refine ⟨a, rfl, ⟨xs, sq_of h1⟩, fun Dl hD => lc_go (K := K) (walk_list (K := K) (a := a) (xs := xs)) (List.range Rs.length) (by rw [List.length_range, hl]) (by omega) (fun _ => true) g hD (fun H' e => sq_of (e _ _ h1)) (fun i b x H' H'' hb' e y => ?_) fun H' ys e g1 g2 => q Dl ys H' (fresh_back e1 hD) (e1.trans e) g1 ?_⟩
  · obtain ⟨rfl, hx⟩ := y
    obtain ⟨hi, rfl⟩ := List.getElem?_eq_some_iff.mp hb'
    rw [List.getElem_range]
    obtain ⟨R, k1, k2⟩ := (h2.mono m e).get hx
    obtain ⟨σ', b1, b2, b3⟩ := hb i R x _ k1 ((e0.trans e1).trans e) k2
    exact ⟨Ex.refl _, σ', b1, b2, et_yes, fun _ => b3⟩
  · rw [List.filter_eq_self.mpr (fun _ _ => rfl)] at g2
    exact g2
/-- a for over values known one by one -/
theorem x_forLE {Rs : List (V → Hp → Prop)} {tu : TS} (m : ∀ R ∈ Rs, Mon R) (h : EvX tl σ H (LmE Rs))
    (k : ∀ H1, Ex H H1 → ∃ Pv : Nat → L2.St → Hp → Prop, Pv 0 σ H1 ∧ (∀ i σ' H', Pv i σ' H' → Ex H1 H') ∧
      (∀ i R x σ' H', Rs[i]? = some R → Pv i σ' H' → R x H' → tg x σ' H' fun σ2 H2 => tu { D with nx := Pv (i + 1), ct := Pv (i + 1), bk := tz D } σ2 H2) ∧ (∀ σ' H', Pv Rs.length σ' H' → tz D σ' H')) :
    tSeq (tFor (iList K tl) tg tu) tz D σ H := by
  refine x_forX (Pl := fun xs H => Each Rs xs H) (EvX.imp h fun v H1 ⟨a, xs, h1, h2, h3⟩ => ⟨a, xs, h1, sq_of h2, h3⟩) ?_
  intro a xs H1 e1 hs hE
  obtain ⟨Pv, p0, pe, ps, pd⟩ := k H1 e1
  refine ⟨Pv, p0, fun i σ' H' _ p => ex_l (pe i σ' H' p) hs, fun i x σ' H' hx p => ?_, fun σ' H' p => pd σ' H' (by rw [← hE.len]; exact p)⟩
  obtain ⟨R, h1, h2⟩ := (hE.mono m (pe i σ' H' p)).get hx
  exact ps i R x σ' H' h1 p h2
/-- a for over values of one kind -/
theorem x_forLS {S : V → Hp → Prop} {n : Nat} {tu : TS} (m : Mon S) (h : EvX tl σ H (LmS S n))
    (k : ∀ H1, Ex H H1 → ∃ Pv : Nat → L2.St → Hp → Prop, Pv 0 σ H1 ∧ (∀ i σ' H', Pv i σ' H' → Ex H1 H') ∧
      (∀ i x σ' H', i < n → Pv i σ' H' → S x H' → tg x σ' H' fun σ2 H2 => tu { D with nx := Pv (i + 1), ct := Pv (i + 1), bk := tz D } σ2 H2) ∧ (∀ σ' H', Pv n σ' H' → tz D σ' H')) :
    tSeq (tFor (iList K tl) tg tu) tz D σ H := by
  refine x_forX (Pl := fun xs H => xs.length = n ∧ ∀ x ∈ xs, S x H) (EvX.imp h fun v H1 ⟨a, xs, h1, h2, h3, h4⟩ => ⟨a, xs, h1, sq_of h2, h3, h4⟩) ?_
  intro a xs H1 e1 hs ⟨hn, hE⟩
  obtain ⟨Pv, p0, pe, ps, pd⟩ := k H1 e1
  refine ⟨Pv, p0, fun i σ' H' _ p => ex_l (pe i σ' H' p) hs, fun i x σ' H' hx p => ?_, fun σ' H' p => pd σ' H' (by rw [← hn]; exact p)⟩
  have hlt := (List.getElem?_eq_some_iff.mp hx).1
  exact ps i x σ' H' (by omega) p (m _ _ _ (pe i σ' H' p) (hE x (List.mem_of_getElem? hx)))
/-! targets of four, of five -/
theorem g_tupE4 {i j l o : Nat} {R1 R2 R3 R4 : V → Hp → Prop} {v : V} {Q : L2.St → Hp → Prop} (h : TpE K [R1, R2, R3, R4] v H) (k : ∀ x y z w, R1 x H → R2 y H → R3 z H → R4 w H → Q ((((σ.set i (some x)).set j (some y)).set l (some z)).set o (some w)) H) :
    gTup K 4 (gCons (gName i) (gCons (gName j) (gCons (gName l) (gCons (gName o) gNil)))) v σ H Q := by
  obtain ⟨a, xs, rfl, h1, h2⟩ := h
  match xs, h2 with
  | [x, y, z, w], ⟨r1, r2, r3, r4, _⟩ => exact ⟨a, _, rfl, h1, rfl, _, _, rfl, _, _, rfl, _, _, rfl, _, _, rfl, rfl, k _ _ _ _ r1 r2 r3 r4⟩
theorem g_tupE5 {i j l o u : Nat} {R1 R2 R3 R4 R5 : V → Hp → Prop} {v : V} {Q : L2.St → Hp → Prop} (h : TpE K [R1, R2, R3, R4, R5] v H) (k : ∀ x y z w b, R1 x H → R2 y H → R3 z H → R4 w H → R5 b H → Q (((((σ.set i (some x)).set j (some y)).set l (some z)).set o (some w)).set u (some b)) H) :
    gTup K 5 (gCons (gName i) (gCons (gName j) (gCons (gName l) (gCons (gName o) (gCons (gName u) gNil))))) v σ H Q := by
  obtain ⟨a, xs, rfl, h1, h2⟩ := h
  match xs, h2 with
  | [x, y, z, w, b], ⟨r1, r2, r3, r4, r5, _⟩ => exact ⟨a, _, rfl, h1, rfl, _, _, rfl, _, _, rfl, _, _, rfl, _, _, rfl, _, _, rfl, rfl, k _ _ _ _ _ r1 r2 r3 r4 r5⟩
theorem g_tupE3 {i j l : Nat} {R1 R2 R3 : V → Hp → Prop} {v : V} {Q : L2.St → Hp → Prop} (h : TpE K [R1, R2, R3] v H) (k : ∀ x y z, R1 x H → R2 y H → R3 z H → Q (((σ.set i (some x)).set j (some y)).set l (some z)) H) :
    gTup K 3 (gCons (gName i) (gCons (gName j) (gCons (gName l) gNil))) v σ H Q := by
  obtain ⟨a, xs, rfl, h1, h2⟩ := h
  match xs, h2 with
  | [x, y, z], ⟨r1, r2, r3, _⟩ => exact ⟨a, _, rfl, h1, rfl, _, _, rfl, _, _, rfl, _, _, rfl, rfl, k _ _ _ r1 r2 r3⟩
/-! built-ins -/
theorem ei_abs {i : Int} (h : EvI K te σ H (.int i)) : EvI K (tCB (fun xs H Q => ∃ i, xs = [.int i] ∧ Q (.int (if i < 0 then -i else i)) H) (tCons te tNil)) σ H (.int (if i < 0 then -i else i)) := fun H1 e Q q => h H1 e _ fun x H2 e2 r => by
  cases r
  exact ⟨i, rfl, q _ H2 e2 (.int _)⟩
end
section
variable {X : Cx}
theorem pe_callC0 {x : Str} {k : Nat} {ps : List Str} {sp : Sp} {p pos : Pos} (c : Callee X.prog X.w X.K X.mg X.base CX0 k x ps sp) (hr : Room k X.A) (hg : Gl X x) (hdb : (x == ("__debug__" : Str)) = false := by decide) : PE X (.Call (.Name x p) [] [] pos) (tCall sp [] E0 tNil) := by
  obtain ⟨f, fd, c1, c2, c3, c4⟩ := c
  exact pe_call0 c1 hr hg c2 c3 c4 .nil pass0 hdb
end
end DWL
/-! defs that raise: promises of what is refused; own classes of errors; try, except, isinstance of the caught one -/
namespace DWL
open PySem PySem.Spec PyProof.Rows L2 Evl DW
section
variable {P : Program} {w : World} {K : PySem.W.Frag} {mg : Str → Option Value} {base : Heap}
theorem FnOk.toX {k : Nat} {f : Addr} {fd : FuncData} {ps : List Str} {sp : Sp} (F : FnOk P w K mg base CX0 k f fd ps sp) : FnOk P w K mg base (L2.CX P w) k f fd ps sp :=
  ⟨F.len, fun A outer s H args us vs Q E hr he hb hv hs => codeAny_mono (F.run A outer s H args us vs Q E hr he hb hv hs) fun r s' h => by
    cases r with
    | error e => exact False.elim h
    | ok fl => cases fl <;> exact h⟩
theorem Callee.toX {k : Nat} {x : Str} {ps : List Str} {sp : Sp} (c : Callee P w K mg base CX0 k x ps sp) : Callee P w K mg base (L2.CX P w) k x ps sp := by
  obtain ⟨f, fd, c1, c2⟩ := c
  exact ⟨f, fd, FnOk.toX c1, c2⟩
/-- of two promises of one def, whichever -/
theorem Def.or {CX : CXT} {x : Str} {st : Stmt} {ps : List Str} {k : Nat} {sp sp' : Sp} (F : Def K mg x st)
    (h1 : ∀ f fd, FunD K x x (defArgs st) (defBody st) (defScope st) [] [] f fd → FnOk P w K mg base CX k f fd ps sp) (h2 : ∀ f fd, FunD K x x (defArgs st) (defBody st) (defScope st) [] [] f fd → FnOk P w K mg base CX k f fd ps sp')
    (hb : ∀ (kV doc pm : Value) (an : Option Addr) (cdv ct : Value) (us : List Value), us.length = ps.length → bindArgs (PySem.W.fnOf x x (defArgs st) (defBody st) (defScope st) .none kV doc pm an cdv ct) ⟨us, []⟩ = pure (ps.zip us)) :
    Callee P w K mg base CX k x ps (fun vs H Q E => sp vs H Q E ∨ sp' vs H Q E) := by
  obtain ⟨f, fd, hF, hg⟩ := F
  refine ⟨f, fd, ⟨fun vs H Q E h => h.elim ((h1 f fd hF).len vs H Q E) ((h2 f fd hF).len vs H Q E), fun A outer s H args us vs Q E hr he hb hv hs => ?_⟩, hg, hF.kp, hF.bindsN hb⟩
  rcases hs with hs | hs
  · exact (h1 f fd hF).run A outer s H args us vs Q E hr he hb hv hs
  · exact (h2 f fd hF).run A outer s H args us vs Q E hr he hb hv hs
theorem Callee.or {CX : CXT} {x : Str} {ps : List Str} {k : Nat} {sp sp' : Sp} (c : Callee P w K mg base CX k x ps sp) (c' : Callee P w K mg base CX k x ps sp') (hu : ∀ f fd fd', FnOk P w K mg base CX k f fd ps sp → FnOk P w K mg base CX k f fd' ps sp' → fd = fd') :
    Callee P w K mg base CX k x ps (fun vs H Q E => sp vs H Q E ∨ sp' vs H Q E) := by
  obtain ⟨f, fd, c1, c2, c3, c4⟩ := c
  obtain ⟨f', fd', d1, d2, d3, d4⟩ := c'
  cases Value.ref.inj (Option.some.inj (c2.symm.trans d2))
  cases hu f fd fd' c1 d1
  refine ⟨f, fd, ⟨fun vs H Q E h => h.elim (c1.len vs H Q E) (d1.len vs H Q E), fun A outer s H args us vs Q E hr he hb hv hs => ?_⟩, c2, c3, c4⟩
  rcases hs with hs | hs
  · exact c1.run A outer s H args us vs Q E hr he hb hv hs
  · exact d1.run A outer s H args us vs Q E hr he hb hv hs
/-- a def that may raise, as it stands -/
theorem Def.okX {x : Str} {st : Stmt} {N ps : List Str} {k : Nat} {sp : Sp} (F : Def K mg x st) (S : FnScope N ps (defScope st))
    (hb : ∀ (kV doc pm : Value) (an : Option Addr) (cdv ct : Value) (us : List Value), us.length = ps.length → bindArgs (PySem.W.fnOf x x (defArgs st) (defBody st) (defScope st) .none kV doc pm an cdv ct) ⟨us, []⟩ = pure (ps.zip us)) (len : ∀ vs H Q E, sp vs H Q E → vs.length = ps.length)
    (hbody : ∀ (f : Addr) (cdv : Value) (A : Around) (outer : List Env) (s : Shared) (H : Hp) (vs : List V) (Q : VK) (E : XK), Room k (A.deeper (envOfC x (defScope st) s.heap.objs.size f cdv)) → sp vs H Q E →
      ∃ t, PSs (cxOf (L2.CX P w) P w K mg base N x (defScope st) f cdv A outer s H E) (defBody st) t ∧ t { nx := fun _ H' => Q .non H', rt := Q } (start N vs) H) : Callee P w K mg base (L2.CX P w) (k + 1) x ps sp := by
  obtain ⟨f, fd, hF, hg⟩ := F
  exact ⟨f, fd, hF.ok S len fun cdv A outer s H vs Q E hr hsp => hbody f cdv A outer s H vs Q E hr hsp, hg, hF.kp, hF.bindsN hb⟩
end
/-- what is refused: an error of the class at C -/
def spRef (pre : List V → Hp → Addr → Prop) : Sp := fun vs H _ E => ∃ C, pre vs H C ∧ ∀ H', Ex H H' → E (.ref C) none H'
section
variable {X : Cx} {e : Expr} {es : List Expr} {ta : TA} {p pos : Pos}
theorem pe_callSC {x : Str} {k : Nat} {ps : List Str} {sp : Sp} {W : WX} (c : Callee X.prog X.w X.K X.mg X.base (L2.CX X.prog X.w) k x ps sp) (tk : Takes X W) (hr : Room k X.A) (hg : Gl X x)
    (ha : PA X (e :: es) ta) (hdb : (x == ("__debug__" : Str)) = false := by decide) (he : starEach (e :: es) X.env = (false, eval e X.env) :: starEach es X.env := by rfl) (hpl : (backTo pos (starEach es X.env)).any (·.1) = false := by rfl) :
    PE X (.Call (.Name x p) (e :: es) [] pos) (tCallS sp (WE W) ta) := by
  obtain ⟨f, fd, c1, c2, c3, c4⟩ := c
  exact pe_callS c1 hr hg c2 c3 c4 (fun σ => passAt tk σ) ha hdb he hpl
/-- [f, g, ..][i](e, ..): a def out of a list, each with its promise -/
def tCallF (tf : TE) (R : Addr → Prop) (sp : Sp) (E : L2.St → XK) (t : TA) : TE := fun σ H Q => tf σ H fun x H1 => ∃ f, x = .ref f ∧ R f ∧ t σ H1 fun vs H2 => sp vs H2 Q (E σ)
theorem pe_callF {o i : Expr} {tf : TE} {p1 : Pos} {k : Nat} {ps : List Str} {sp : Sp} {W : WX} {R : Addr → Prop} (hf : PE X (.Subscript o i p1) tf) (c : ∀ f, R f → ∃ fd, FnOk X.prog X.w X.K X.mg X.base (L2.CX X.prog X.w) k f fd ps sp ∧ PySem.W.keepIn X.K (.ref f) = true ∧ Binds X.K fd ps []) (tk : Takes X W) (hr : Room k X.A)
    (ha : PA X (e :: es) ta) (he : starEach (e :: es) X.env = (false, eval e X.env) :: starEach es X.env := by rfl) (hpl : (backTo pos (starEach es X.env)).any (·.1) = false := by rfl) :
    PE X (.Call (.Subscript o i p1) (e :: es) [] pos) (tCallF tf R sp (WE W) ta) := by
  refine ⟨fun pins s σ H Q I h => ?_⟩
  have arm : eval (.Call (.Subscript o i p1) (e :: es) [] pos) X.env = (do callWith pos (← eval (.Subscript o i p1) X.env) [] (backTo pos (starEach (e :: es) X.env)) (backToKw pos (keywordEach [] X.env))) := rfl
  rw [arm]
  refine wpAny_bind (thn (hf.run pins s σ H _ I h) fun u s1 ⟨x, H1, I1, r1, f, ex, hR, q1⟩ => ?_)
  subst ex
  cases r1
  obtain ⟨fd, F, hk, hb⟩ := c f hR
  refine PySem.W.callWith_K (h₀ := X.base) I.ok.mod.kin hk (thn (ha.run pos pins s1 σ _ _ I1 q1) fun us s2 ⟨vs, H2, I2, r, q⟩ => ⟨I2.kIn, ?_⟩) he hpl
  exact run_fnS F hr hb (passAt tk σ) I2 r q
end
/-- a sign * number -/
def rRepS : R2 := fun x y H Q => ∃ (c : Nat) (k : Nat), x = .str ⟨#[c]⟩ ∧ y = .int (k : Int) ∧ 2 ≤ k ∧ k ≤ 1000 ∧ Q (.str (st (List.replicate k c))) H
theorem rep_sign (c : Nat) : ∀ (k : Nat) (a : Array Nat), (List.replicate k (#[c] : Array Nat)).foldl (· ++ ·) a = a ++ (List.replicate k c).toArray
  | 0, a => by simp
  | k + 1, a => by
    rw [List.replicate_succ, List.foldl_cons, rep_sign c k]
    refine Array.toList_inj.mp ?_
    simp [List.replicate_succ]
theorem op_repS {X : Cx} : OpR X (binaryOp .Mult) rRepS := by
  intro pins s σ H x y v u Q I rx ry h
  obtain ⟨c, k, rfl, rfl, h1, h2, q⟩ := h
  obtain ⟨t, rfl⟩ := rx
  obtain ⟨t', rfl⟩ := ry
  have k1 : ¬ ((k : Int) < 1) := by omega
  have hl : (⟨#[c]⟩ : Str).length = 1 := rfl
  have k2 : ((k : Int) == 1 || (⟨#[c]⟩ : Str).length == 0) = false := by
    rw [hl]
    have : ((k : Int) == 1) = false := by
      rw [beq_eq_false_iff_ne]; omega
    rw [this]; rfl
  have hs : (st (List.replicate k c)).length ≤ sizeLine := sz_of (by rw [st_len, List.length_replicate]; omega)
  refine PySem.P.mul_str ?_ (fun _ _ => ?_) (fun _ _ => ?_) ?_
  · rw [decide_eq_false (by omega), decide_eq_false (by omega)]; rfl
  · rw [hl]
    have : (1 : Int) ≤ (2 ^ 63 - 1) / (k : Int) := (Int.le_ediv_iff_mul_le (by omega)).mpr (by omega)
    show ¬ ((1 : Nat) : Int) > _
    omega
  · rw [hl, Int.toNat_natCast, Nat.one_mul]
    refine decide_eq_false ?_
    have := sz_of (n := k) (by omega)
    omega
  · rw [if_neg k1, if_neg (by rw [k2]; decide), Int.toNat_natCast, rep_sign]
    have e : (#[] : Array Nat) ++ (List.replicate k c).toArray = (List.replicate k c).toArray := by simp
    rw [e]
    exact ⟨hs, .str (st (List.replicate k c)), H, I.tok _, ⟨_, rfl⟩, q⟩
/-! ### what never comes back -/
section
variable {K : PySem.W.Frag} {σ : L2.St} {H : Hp} {te ta tb : TE} {tA : TA} {t : TT} {D : Ends} {tz : TS} {W : WX} {C : Addr} {P : List V → Hp → Prop}
def EvZ (te : TE) (σ : L2.St) (H : Hp) : Prop := ∀ H1, Ex H H1 → ∀ Q : VK, te σ H1 Q
theorem ez_call {pre : List V → Hp → Addr → Prop} (h : EvAX tA σ H P) (hp : ∀ vs H1, Ex H H1 → P vs H1 → pre vs H1 C) (hW : ∀ H1, Ex H H1 → W (.ref C) none σ H1) : EvZ (tCallS (spRef pre) (WE W) tA) σ H := fun H1 e Q => h H1 e _ fun vs H2 e2 p => ⟨C, hp vs H2 (e.trans e2) p, fun H3 e3 => hW H3 (e.trans (e2.trans e3))⟩
theorem ez_callF {pre : List V → Hp → Addr → Prop} {R : Addr → Prop} (hf : EvX te σ H fun v _ => ∃ f, v = .ref f ∧ R f) (h : EvAX tA σ H P) (hp : ∀ vs H1, Ex H H1 → P vs H1 → pre vs H1 C) (hW : ∀ H1, Ex H H1 → W (.ref C) none σ H1) : EvZ (tCallF te R (spRef pre) (WE W) tA) σ H := fun H1 e Q =>
  hf H1 e _ fun v H2 e2 ⟨f, h1, h2⟩ => ⟨f, h1, h2, h H2 (e.trans e2) _ fun vs H3 e3 p => ⟨C, hp vs H3 (e.trans (e2.trans e3)) p, fun H4 e4 => hW H4 (e.trans (e2.trans (e3.trans e4)))⟩⟩
theorem ez_if {b : Bool} (h : EvT t σ H b) (h1 : b = true → EvZ ta σ H) (h2 : b = false → EvZ tb σ H) : EvZ (tIf t ta tb) σ H := fun H1 e Q => h H1 e _ fun H2 e2 => by
  cases b with
  | true =>
    show ta σ H2 Q
    exact h1 rfl H2 (e.trans e2) Q
  | false =>
    show tb σ H2 Q
    exact h2 rfl H2 (e.trans e2) Q
theorem y_dropZ (h : EvZ te σ H) : tSeq (tDrop te) tz D σ H := h H (Ex.refl H) _
theorem y_retZ (h : EvZ te σ H) : tSeq (tRet te) tz D σ H := h H (Ex.refl H) _
end
/-! ### lists of values, by what each is -/
section
variable {K : PySem.W.Frag} {σ : L2.St} {H H' H0 : Hp} {ta tb te tl : TE} {tA tr : TA} {R : V → Hp → Prop} {D : Ends} {tz tu : TS} {tg : TG} {a p : Addr} {xs : List V}
theorem ex_ixE {Rs : List (V → Hp → Prop)} {i : Nat} (m : ∀ R ∈ Rs, Mon R) (h : EvX te σ H (LmE Rs)) (hi : EvI K tb σ H (.int (i : Int))) (hR : Rs[i]? = some R) : EvX (tOp (rIxL K) te tb) σ H R := fun H1 e Q q =>
  h H1 e _ fun u H2 e2 ⟨w, xs, h1, h2, h3⟩ => hi H2 (e.trans e2) _ fun y H3 e3 r => by
    subst h1
    cases r
    have hl : i < xs.length := by
      rw [h3.len]; exact (List.getElem?_eq_some_iff.mp hR).1
    obtain ⟨S, g1, g2⟩ := (h3.mono m e3).get (List.getElem?_eq_getElem hl)
    rw [hR] at g1; cases g1
    exact ⟨w, xs, (i : Int), xs[i], rfl, rfl, sq_of (e3 _ _ h2), atI_nat (List.getElem?_eq_getElem hl), q _ H3 (e2.trans e3) g2⟩
theorem ex_ixS {S : V → Hp → Prop} {i n : Nat} (m : Mon S) (h : EvX te σ H (LmS S n)) (hi : EvI K tb σ H (.int (i : Int))) (hl : i < n) : EvX (tOp (rIxL K) te tb) σ H S := fun H1 e Q q =>
  h H1 e _ fun u H2 e2 ⟨w, xs, h1, h2, h3, h4⟩ => hi H2 (e.trans e2) _ fun y H3 e3 r => by
    subst h1
    cases r
    have hl : i < xs.length := by omega
    exact ⟨w, xs, (i : Int), xs[i], rfl, rfl, sq_of (e3 _ _ h2), atI_nat (List.getElem?_eq_getElem hl), q _ H3 (e2.trans e3) (m _ _ _ e3 (h4 _ (List.getElem_mem hl)))⟩
/-- one made since H0, its items known before it was made -/
def LS (S : V → Hp → Prop) (n : Nat) (H0 H : Hp) (p : Addr) : Prop := ∃ xs Hb, Ex H0 Hb ∧ Hb p = none ∧ xs.length = n ∧ (∀ x ∈ xs, S x Hb) ∧ Ex Hb H ∧ H p = some (.lst xs)
def AllV (S : V → Hp → Prop) (n : Nat) : List V → Hp → Prop := fun vs H => vs.length = n ∧ ∀ v ∈ vs, S v H
theorem eas_nil {S : V → Hp → Prop} : EvAX tNil σ H (AllV S 0) := fun H1 _ _ q => q [] H1 (Ex.refl H1) ⟨rfl, fun v h => nomatch h⟩
theorem eas_cons {S : V → Hp → Prop} {n : Nat} (m : Mon S) (h : EvX te σ H S) (hr : EvAX tr σ H (AllV S n)) : EvAX (tCons te tr) σ H (AllV S (n + 1)) := fun H1 e _ q =>
  h H1 e _ fun v H2 e2 r => hr H2 (e.trans e2) _ fun vs H3 e3 r2 => q _ H3 (e2.trans e3) ⟨by rw [List.length_cons, r2.1], fun u hu => by
    rcases List.mem_cons.mp hu with rfl | hu
    · exact m _ _ _ e3 r
    · exact r2.2 u hu⟩
theorem ex_lstS {S : V → Hp → Prop} {n : Nat} (m : Mon S) (h : EvAX tA σ H (AllV S n)) (hl : n ≤ 100000) : EvX (tLst tA) σ H (LmS S n) := fun H1 e Q q => h H1 e _ fun vs H2 e2 r =>
  ⟨sz_of (by rw [r.1]; exact hl), fun p hp => q _ _ (e2.trans (Ex.new hp)) ⟨p, vs, rfl, upd_same, r.1, fun x hx => m _ _ _ (Ex.new hp) (r.2 x hx)⟩⟩
theorem ex_catLS {S : V → Hp → Prop} {n k : Nat} (m : Mon S) (ha : EvX ta σ H (LmS S n)) (hb : EvX tb σ H (LmS S k)) (hl : n + k ≤ 100000) : EvX (tOp rCat ta tb) σ H fun v H2 => ∃ p, v = .ref p ∧ LS S (n + k) H H2 p := fun H1 e Q q =>
  ha H1 e _ fun x H2 e2 r1 => hb H2 (e.trans e2) _ fun y H3 e3 r2 => by
    obtain ⟨a, xs, rfl, h1, h2, h3⟩ := mLmS m _ _ _ e3 r1
    obtain ⟨b, ys, rfl, h4, h5, h6⟩ := r2
    refine ⟨a, b, xs, ys, rfl, rfl, h1, h4, sz_of (by omega), fun p hp => q _ _ ((e2.trans e3).trans (Ex.new hp)) ⟨p, rfl, xs ++ ys, H3, e.trans (e2.trans e3), hp, by rw [List.length_append, h2, h5], fun z hz => ?_, Ex.new hp, upd_same⟩⟩
    rcases List.mem_append.mp hz with hz | hz
    · exact h3 z hz
    · exact h6 z hz
/-- l.append(e), e a value of which T is known -/
theorem y_appV {S T : V → Hp → Prop} {n : Nat} (m : Mon S) (g : LS S n H0 H p) (ha : EvV ta σ H (.ref p)) (h : EvX te σ H T) (hl : n < 100000) (hT : ∀ v H1 xs o, Ex H H1 → H1 p = some (.lst xs) → T v H1 → S v (upd H1 p o)) (k : ∀ H1, Ex H0 H1 → LmS S (n + 1) (.ref p) H1 → tz D σ H1) :
    tSeq (tDrop (tBM K "list" rAppend ta (tCons te tNil))) tz D σ H := ha H (Ex.refl H) _ fun u H1 e1 hu => by
  subst hu
  obtain ⟨xs, Hb, g1, g2, g3, g4, g5, g6⟩ := g
  refine ⟨.inl ⟨rfl, xs, sq_of (e1 _ _ g6)⟩, h H1 e1 _ fun w H2 e2 hw => ?_⟩
  have l2 := e2 _ _ (e1 _ _ g6)
  have eb : Ex Hb (upd H2 p (.lst (xs ++ [w]))) := Ex.mut (g5.trans (e1.trans e2)) g2
  refine ⟨p, xs, w, rfl, rfl, l2, sz_lt (by omega), k _ (g1.trans eb) ⟨p, _, rfl, upd_same, by rw [List.length_append, g3]; rfl, fun x hx => ?_⟩⟩
  rcases List.mem_append.mp hx with hx | hx
  · exact m _ _ _ eb (g4 x hx)
  · rw [List.mem_singleton.mp hx]
    exact hT w H2 xs _ (e1.trans e2) l2 hw
/-- [t] * 2 -/
theorem ex_rep2 {z : Str} (h : EvI K te σ H (.str z)) : EvX (tOp rRep (tLst (tCons te tNil)) (tC (.int 2))) σ H fun v H1 => ∃ q, v = .ref q ∧ H q = none ∧ H1 q = some (.lst [.str z, .str z]) := fun H1 e Q q =>
  h H1 e _ fun v H2 e2 r => by
    cases r
    refine ⟨Nat.le_of_ble_eq_true rfl, fun l hl => ?_⟩
    have e3 := Ex.new (o := .lst [.str z]) hl
    refine ⟨l, 2, [.str z], rfl, rfl, upd_same, by decide, by decide, Nat.le_of_ble_eq_true rfl, fun p hp => q _ _ (e2.trans (e3.trans (Ex.new hp))) ⟨p, rfl, fresh_back (e.trans (e2.trans e3)) hp, upd_same⟩⟩
theorem ei_repS {c k : Nat} (h : EvI K ta σ H (.str ⟨#[c]⟩)) (h2 : EvI K tb σ H (.int (k : Int))) (l : 2 ≤ k) (u : k ≤ 1000) : EvI K (tOp rRepS ta tb) σ H (.str (st (List.replicate k c))) :=
  ex_op h mI h2 fun x y H1 _ r1 r2 Q q => by cases r1; cases r2; exact ⟨c, k, rfl, rfl, l, u, q _ H1 (Ex.refl H1) (.str _)⟩
theorem ex_dnew : EvX tDNewK σ H fun v H1 => ∃ q, v = .ref q ∧ H1 q = some (.dK []) := fun H1 _ _ q p hp => q _ _ (Ex.new hp) ⟨p, rfl, upd_same⟩
theorem ei_lenL (ha : EvV ta σ H (.ref a)) (hs : ∀ H1, Ex H H1 → SqL K H1 a xs) : EvI K (tCB (fun xs H Q => ∃ p ys, xs = [.ref p] ∧ (SqL K H p ys ∨ SqT K H p ys) ∧ Q (.int ys.length) H) (tCons ta tNil)) σ H (.int (xs.length : Int)) := fun H1 e Q q =>
  ha H1 e _ fun x H2 e2 r => by
    subst r
    exact ⟨a, xs, rfl, .inl (hs H2 (e.trans e2)), q _ H2 e2 (.int _)⟩
/-- isinstance of a value whose type is known -/
theorem ei_isV {T n : String} {b : Bool} {v : V} (ha : EvV ta σ H v) (ht : ∀ H1, Ex H H1 → TyX K H1 v (.type T)) (hb : kitB T n = some b) : EvI K (tCB (rIsi K) (tCons ta (tCons (tC (.ty n)) tNil))) σ H (.bool b) :=
  ei_isi (m := fun _ => True) (tyv := fun _ _ => .none) ha fun u H1 e r => ⟨_, by rw [show u = v from r]; exact ht H1 e, kit_ty hb⟩
/-- a for over enumerate(l), l of any values -/
theorem x_forEV {tl : TA} {σ : L2.St} (h : ∀ H1, Ex H H1 → ∀ Q : List V → Hp → Prop, (∀ H2, Ex H1 H2 → Q [.ref a] H2) → tl σ H1 Q) (hs : SqL K H a xs)
    (k : ∀ H1, Ex H H1 → ∃ Pv : Nat → L2.St → Hp → Prop, Pv 0 σ H1 ∧ (∀ i σ' H', Pv i σ' H' → Ex H1 H') ∧
      (∀ (i : Nat) c T σ' H', xs[i]? = some c → Pv i σ' H' → H' T = none → tg (.ref T) σ' (upd H' T (.tup [.int (i : Int), c])) fun σ2 H2 => tu { D with nx := Pv (i + 1), ct := Pv (i + 1), bk := tz D } σ2 H2) ∧ (∀ σ' H', Pv xs.length σ' H' → tz D σ' H')) :
    tSeq (tFor (iEnum K tl) tg tu) tz D σ H := h H (Ex.refl H) _ fun H1 e1 => by
  obtain ⟨Pv, p0, pe, ps, pd⟩ := k H1 e1
  refine ⟨a, xs, rfl, ex_l e1 hs, for_it (walk_enum (K := K) (a := a) (xs := xs)) Pv p0 (fun i σ' H' hi p => ex_l (pe i σ' H' p) (ex_l e1 hs)) (fun i x σ' H' H'' hi p y => ?_) pd⟩
  obtain ⟨T, x1, x2, rfl, nT, rfl, f1, f2⟩ := y
  cases f1
  exact ps i x2 T σ' H' f2 p nT
theorem g_tupV2 {i j : Nat} {v x y : V} {Q : L2.St → Hp → Prop} (h : ∃ b, v = .ref b ∧ SqT K H b [x, y]) (k : Q ((σ.set i (some x)).set j (some y)) H) : gTup K 2 (gCons (gName i) (gCons (gName j) gNil)) v σ H Q := by
  obtain ⟨b, rfl, hT⟩ := h
  exact ⟨b, _, rfl, hT, rfl, _, _, rfl, _, _, rfl, rfl, k⟩
end
/-! ### own errors -/
abbrev veMro : List Value := [.type "ValueError", .type "Exception", .type "BaseException", .type "object"]
/-- what is known of the class of an error -/
structure ErrK (K : PySem.W.Frag) (mg : Str → Option Value) (x : Str) (C : Addr) : Prop where
  g : mg x = some (.ref C)
  xP : PySem.W.excIn K C veMro "ValueError.__new__" = true
  kP : PySem.W.keepIn K (.ref C) = true
  bP : PySem.W.subIn K (.ref C) (.type "BaseException") = some true
  tP : PySem.W.typeIn K (.ref C) = some (.type "type")
  ex : ExcC K C
/-- caught by the clause that names W; a ValueError -/
structure ErrW (K : PySem.W.Frag) (C W : Addr) : Prop where
  m : PySem.W.exmOne K (.ref C) (.ref W) = some true
  v : PySem.W.kitOne K (.ref C) (.type "ValueError") = some true
def errB (x : Str) (K : PySem.W.Frag) : Bool := PySem.W.excIn K (He.ga K x) veMro "ValueError.__new__" && (PySem.W.keepIn K (.ref (He.ga K x)) && (decide (PySem.W.subIn K (.ref (He.ga K x)) (.type "BaseException") = some true) && (decide (PySem.W.typeIn K (.ref (He.ga K x)) = some (.type "type")) &&
  (He.eqO (PySem.W.findIn K (.ref (He.ga K x)) "__getattribute__") (some (some (.builtin "BaseException.__getattribute__"))) && (He.eqO (PySem.W.findIn K (.ref (He.ga K x)) "__getattr__") (some none) && (PySem.W.hasDictIn K (He.ga K x) && (He.eqO (PySem.W.findIn K (.ref (He.ga K x)) "__class__") (some (some (.builtin "object.__class__"))) &&
  (He.eqO (PySem.W.specialIn K (.builtin "object.__class__") "__get__") (some (some (.builtin "getset_descriptor.__get__"))) && (decide (PySem.W.takesIn K (.builtin "object.__class__") = some true) && decide (PySem.W.mroIn K (He.ga K x) (.type "object") = some true))))))))))
def errWB (x y : Str) (K : PySem.W.Frag) : Bool := decide (PySem.W.exmOne K (.ref (He.ga K x)) (.ref (He.ga K y)) = some true) && decide (PySem.W.kitOne K (.ref (He.ga K x)) (.type "ValueError") = some true)
theorem err_ok {K : PySem.W.Frag} {mg : Str → Option Value} {x : Str} (g : mg x = some (.ref (He.ga K x))) (c : errB x K = true) : ErrK K mg x (He.ga K x) := by
  obtain ⟨c1, c⟩ := He.ba c
  obtain ⟨c2, c⟩ := He.ba c
  obtain ⟨c3, c⟩ := He.ba c
  obtain ⟨c4, c⟩ := He.ba c
  obtain ⟨c5, c⟩ := He.ba c
  obtain ⟨c6, c⟩ := He.ba c
  obtain ⟨c7, c⟩ := He.ba c
  obtain ⟨c8, c⟩ := He.ba c
  obtain ⟨c9, c⟩ := He.ba c
  obtain ⟨c10, c11⟩ := He.ba c
  exact ⟨g, c1, c2, of_decide_eq_true c3, of_decide_eq_true c4, He.eqO_ok c5, He.eqO_ok c6, of_decide_eq_true c3, c7, He.eqO_ok c8, He.eqO_ok c9, of_decide_eq_true c10, of_decide_eq_true c11⟩
theorem errW_ok {K : PySem.W.Frag} {x y : Str} (c : errWB x y K = true) : ErrW K (He.ga K x) (He.ga K y) := by
  obtain ⟨c1, c2⟩ := He.ba c
  exact ⟨of_decide_eq_true c1, of_decide_eq_true c2⟩
section
variable {X : Cx}
/-- raise C('m') -/
theorem ps_raiseE {x m : Str} {j : Nat} {p p2 pos pos2 : Pos} {C : Addr} {K : PySem.W.Frag} {mg : Str → Option Value} {W : WX} (hK : X.K = K) (hm : X.mg = mg) (hc : X.calm = true) (tk : Takes X W) (k : ErrK K mg x C) (hg : Gl X x)
    (hdb : (x == ("__debug__" : Str)) = false := by decide) : PS X (.Raise (some (.Call (.Name x p) [.Constant (.str m) j p2] [] pos)) none pos2) (fun _ σ H => W (.ref C) none σ H) := by
  subst hK hm
  exact ps_raise hc tk (pmk_own PySem.F.excBase_ValueError k.xP k.g k.kP (raises_own k.bP k.tP) hg hdb)
/-- isinstance of the caught error -/
def rIsX (K : PySem.W.Frag) (a : Addr) (cls : Value) (d : Option Addr) : List V → Hp → VK → Prop := fun xs H Q => ∃ D, cls = .ref D ∧ d = none ∧ ExcC K D ∧ rIsE K D a xs H Q
theorem call_isX {K : PySem.W.Frag} {a : Addr} {cls : Value} {d : Option Addr} {oe : Obj} {pn : List (Addr × Obj)} (h : X.K = K) (hz : Zc cls d oe) (hf : ∃ vs, oe.data = .fields vs) : CallR (X.suite a ((a, oe) :: pn)) (.builtin "isinstance") (rIsX K a cls d) := by
  subst h
  intro pins s σ H xs us Q I r hh
  obtain ⟨D, rfl, rfl, C, hh⟩ := hh
  exact call_isE C hz hf pins s σ H xs us Q I r hh
end
section
variable {K : PySem.W.Frag} {σ : L2.St} {H : Hp} {a D D2 : Addr} {b : Bool} {i : Nat}
theorem ei_isX (h : σ[i]? = some (some (.ref a))) (C : ExcC K D) (k : IsA K D D2 b) : EvI K (tCB (rIsX K a (.ref D) none) (tCons (tVar i) (tCons (tC (.ref D2)) tNil))) σ H (.bool b) := fun H1 _ Q q =>
  ⟨_, h, ⟨D, rfl, rfl, C, .ref D2, .ref D2, b, rfl, fun u r => r, k, q _ H1 (Ex.refl H1) (.bl _)⟩⟩
theorem ei_isXv (h : σ[i]? = some (some (.ref a))) (C : ExcC K D) (k : PySem.W.kitOne K (.ref D) (.type "ValueError") = some b) : EvI K (tCB (rIsX K a (.ref D) none) (tCons (tVar i) (tCons (tC (.ty "ValueError")) tNil))) σ H (.bool b) := fun H1 _ Q q =>
  ⟨_, h, ⟨D, rfl, rfl, C, .ty "ValueError", .type "ValueError", b, rfl, fun u r => r, k, q _ H1 (Ex.refl H1) (.bl _)⟩⟩
end
end DWL
/-! written triangles -/
namespace DWL
open PySem PySem.Spec PyProof.Rows L2 Evl DW
def mkC (l : List (List Nat)) : Nat → Nat → Nat := fun r p => (l.getD r []).getD p 97
theorem mkC_ltr {l : List (List Nat)} (h : (l.all fun x => x.all fun y => decide (y = 97 ∨ y = 98 ∨ y = 99)) = true) : ∀ r p, DW.ltr (mkC l r p) := fun r p => by
  have hx : ∀ x ∈ l, ∀ y ∈ x, DW.ltr y := fun x hx y hy => of_decide_eq_true (p := y = 97 ∨ y = 98 ∨ y = 99) (List.all_eq_true.mp (List.all_eq_true.mp h x hx) y hy)
  unfold mkC
  rw [List.getD_eq_getElem?_getD, List.getD_eq_getElem?_getD]
  cases h1 : l[r]? with
  | none => exact .inl (by simp)
  | some x =>
    show DW.ltr ((x[p]?).getD 97)
    cases h2 : x[p]? with
    | none => exact .inl rfl
    | some y => exact hx x (List.mem_of_getElem? h1) y (List.mem_of_getElem? h2)
theorem mTri {K : PySem.W.Frag} {n : Nat} {c : Nat → Nat → Nat} : Mon fun v H => Tri K H v n c := fun _ _ _ e h => h.mono e
section
variable {K : PySem.W.Frag} {σ : L2.St} {H : Hp} {ta tb tc td te : TE} {tA : TA} {t u : TT} {n : Nat} {c : Nat → Nat → Nat}
theorem ex_triL (l : List (List Nat)) (n : Nat) (zs : List Str) (e : triD n (mkC l) = zs) (two : 2 ≤ n) (few : n ≤ 60) (hc : ∀ r p, DW.ltr (mkC l r p)) (h : EvAI K tA σ H (zs.map PyData.str)) : EvX (tLst tA) σ H fun v H1 => Tri K H1 v n (mkC l) := by
  subst e
  exact EvX.imp (EvN.k (en_lst h (by rw [List.length_map, triD_len]; omega))) fun v H1 r => ⟨two, few, hc, r⟩
theorem et_or0 (h1 : EvT t σ H false) (h2 : EvT u σ H false) : EvT (tOr t u) σ H false := et_to (et_or h1 fun _ => h2) rfl
theorem et_or1 (h1 : EvT t σ H true) : EvT (tOr t u) σ H true := et_to (et_or (b := true) h1 fun h => nomatch h) rfl
theorem et_or2 (h1 : EvT t σ H false) (h2 : EvT u σ H true) : EvT (tOr t u) σ H true := et_to (et_or h1 fun _ => h2) rfl
theorem et_not1 (h : EvT t σ H true) : EvT (tNot t) σ H false := et_to (et_not h) rfl
theorem et_not0 (h : EvT t σ H false) : EvT (tNot t) σ H true := et_to (et_not h) rfl
theorem et_neI0 {i : Int} (ha : EvI K ta σ H (.int i)) (hb : EvI K tb σ H (.int i)) : EvT (tTest (tOp rNe ta tb)) σ H false := et_to (et_of K (ei_neI ha hb)) (by simp)
theorem et_neI1 {i j : Int} (ha : EvI K ta σ H (.int i)) (hb : EvI K tb σ H (.int j)) (h : i ≠ j) : EvT (tTest (tOp rNe ta tb)) σ H true := et_to (et_of K (ei_neI ha hb)) (by simp [h])
theorem src1V {a : Addr} (h : EvV te σ H (.ref a)) : ∀ H1, Ex H H1 → ∀ Q : List V → Hp → Prop, (∀ H2, Ex H1 H2 → Q [.ref a] H2) → tCons te tNil σ H1 Q := fun H1 e Q q => h H1 e _ fun v H2 e2 r => by
  have r : v = .ref a := r
  subst r
  exact q H2 e2
end
theorem mIs {x : V} : Mon fun v _ => v = x := fun _ _ _ _ h => h
theorem evI_is {K : PySem.W.Frag} {σ : L2.St} {H : Hp} {te : TE} {i : Int} (h : EvI K te σ H (.int i)) : EvX te σ H fun v _ => v = .int i := EvX.imp h fun _ _ r => r.intE
theorem pss_strip : ∀ c ∈ L3, Txt.stripChars (st [c]) ("abc" : Str) = st [] := by decide +kernel
end DWL
namespace DWL
open PySem PySem.Spec PyProof.Rows L2 Evl DW
section
variable {P : Program} {w : World} {K : PySem.W.Frag} {mg : Str → Option Value} {base : Heap} {CW CT CS CD CP : Addr}
local macro_rules | `(tactic| walk_at "v") => `(tactic| first | exact ei_int | exact ei_str | exact ei_bl | exact ei_non | exact ei_neg ei_int | exact ei_var rfl (Im.int _) | exact ei_var rfl (Im.str _) | exact ei_var rfl (Im.bl _) | exact ei_var rfl (by assumption) | exact et_len rfl (by assumption))
local macro_rules | `(tactic| walk_at "e") => `(tactic| first | walk_at "v" | (apply ei_I0i <;> walk_at "e") | (apply ei_I0b <;> walk_at "e") | (apply ei_chainI <;> walk_at "e") | (apply ei_eqI <;> walk_at "e") | (apply ei_eqS <;> walk_at "e") | (refine' ei_tup ?_ (Nat.le_of_ble_eq_true rfl) <;> walk_at "e") | (apply eai_cons <;> walk_at "e") | exact eai_nil)

theorem kb1 : kitB "NoneType" "list" = some false := by decide +kernel
theorem kb2 : kitB "str" "list" = some false := by decide +kernel
theorem kb3 : kitB "tuple" "list" = some false := by decide +kernel
theorem kb4 : kitB "dict" "list" = some false := by decide +kernel
theorem kb5 : kitB "NoneType" "str" = some false := by decide +kernel
theorem kb6 : kitB "list" "str" = some false := by decide +kernel
theorem kb7 : kitB "NoneType" "tuple" = some false := by decide +kernel
theorem kb8 : kitB "int" "tuple" = some false := by decide +kernel
theorem kb9 : kitB "list" "tuple" = some false := by decide +kernel
theorem kb10 : kitB "int" "str" = some false := by decide +kernel
/-! ### no triangle -/
/-- a row that is none, as the i-th of n -/
def BadRow (n i : Nat) (x : V) (H : Hp) : Prop := x = .non ∨ (∃ a ys, x = .ref a ∧ H a = some (.lst ys)) ∨ ∃ z : Str, x = .str z ∧ z.length ≤ 1000 ∧ (z.length ≠ n - i ∨ Txt.stripChars z ("abc" : Str) ≠ st [])
def OkRow (n i : Nat) (x : V) : Prop := ∃ z : Str, x = .str z ∧ z.length ≤ 1000 ∧ z.length = n - i ∧ Txt.stripChars z ("abc" : Str) = st []
def BadRows (xs : List V) (H : Hp) : Prop := xs.length < 2 ∨ (xs.length ≤ 50 ∧ ∃ i x, xs[i]? = some x ∧ BadRow xs.length i x H ∧ ∀ j y, j < i → xs[j]? = some y → OkRow xs.length j y)
def BadT (v : V) (H : Hp) : Prop := v = .non ∨ (∃ z, v = .str z) ∨ (∃ a xs, v = .ref a ∧ H a = some (.tup xs)) ∨ (∃ a, v = .ref a ∧ H a = some (.dK [])) ∨ ∃ a xs, v = .ref a ∧ H a = some (.lst xs) ∧ BadRows xs H
theorem mBadRow {n i : Nat} : Mon (BadRow n i) := fun v H1 H2 e h => by
  rcases h with h | ⟨a, ys, h1, h2⟩ | h
  · exact .inl h
  · exact .inr (.inl ⟨a, ys, h1, e _ _ h2⟩)
  · exact .inr (.inr h)
theorem mBadT : Mon BadT := fun v H1 H2 e h => by
  rcases h with h | h | ⟨a, xs, h1, h2⟩ | ⟨a, h1, h2⟩ | ⟨a, xs, h1, h2, h3⟩
  · exact .inl h
  · exact .inr (.inl h)
  · exact .inr (.inr (.inl ⟨a, xs, h1, e _ _ h2⟩))
  · exact .inr (.inr (.inr (.inl ⟨a, h1, e _ _ h2⟩)))
  · refine .inr (.inr (.inr (.inr ⟨a, xs, h1, e _ _ h2, ?_⟩)))
    rcases h3 with h3 | ⟨hl, i, x, g1, g2, g3⟩
    · exact .inl h3
    · exact .inr ⟨hl, i, x, g1, mBadRow _ _ _ e g2, g3⟩
def preBadT (CT : Addr) : List V → Hp → Addr → Prop := fun vs H C => ∃ v, vs = [v] ∧ BadT v H ∧ C = CT
def preBadT2 (CT : Addr) : List V → Hp → Addr → Prop := fun vs H C => ∃ v x, vs = [v, x] ∧ BadT v H ∧ C = CT
def preBadT4 (CT : Addr) : List V → Hp → Addr → Prop := fun vs H C => ∃ v x y z, vs = [v, x, y, z] ∧ BadT v H ∧ C = CT
theorem ok_asked_triangle_xa (D : Def K mg "asked_triangle" s_asked_triangle) (hL : ∃ tk, mg "LETTERS" = some (.str "abc" tk)) (e_BadTriangle : ErrK K mg "BadTriangle" CT) (m_len : mg "len" = none) (m_isinstance : mg "isinstance" = none) (m_enumerate : mg "enumerate" = none) (m_list : mg "list" = none) (m_str : mg "str" = none) :
    Callee P w K mg base (L2.CX P w) 1 "asked_triangle" ["triangle"] (spRef (preBadT CT)) := by
  obtain ⟨tk, gLETTERS⟩ := hL
  refine D.okX sc_asked_triangle (fun _ _ _ _ _ _ us hl => match us, hl with | [_], _ => rfl) (fun vs H Q E h => ?_) (fun f cdv A outer s H vs Q E hr h => ?_)
  · obtain ⟨C, ⟨v, rfl, _⟩, _⟩ := h; rfl
  · obtain ⟨C, ⟨v, rfl, hB, rfl⟩, q⟩ := h
    refine ⟨_, (pss_cons (ps_if (PW.pt (pw_or (pt_not (pt_val (pe_callB (kr_isi (K := K) rfl) (by rfl) m_isinstance (by decide +kernel) (pa_cons (pv 0) (pa_cons (pe_bltn (v := .ty "list") (by rfl) m_list (by decide +kernel) rfl) pa_nil))))) (pw_or1 (pt_cmpR op_lt (pe_callB (kr_len (K := K) rfl) (by rfl) m_len PySem.boot_len (pa_cons (pv 0) pa_nil)) pe_int (nomark _)))))
  (pss_cons (ps_raiseE (K := K) (mg := mg) rfl rfl rfl (takes_of rfl rfl rfl rfl) e_BadTriangle (by rfl))
 pss_nil)
  pss_nil)
 (pss_cons (ps_for (passes_of rfl) rfl (ki_enum (K := K) rfl (by rfl) m_enumerate (pa_cons (pv 0) pa_nil)) (kg_tup (K := K) (n := 2) rfl rfl (pgs_cons (pg_name (i := 1) sc_asked_triangle.nd rfl (.inl rfl)) (pgs_cons (pg_name (i := 2) sc_asked_triangle.nd rfl (.inl rfl)) pgs_nil)))
  (pss_cons (ps_if (PW.pt (pw_or (pt_not (pt_val (pe_callB (kr_isi (K := K) rfl) (by rfl) m_isinstance (by decide +kernel) (pa_cons (pv 2) (pa_cons (pe_bltn (v := .ty "str") (by rfl) m_str (by decide +kernel) rfl) pa_nil))))) (pw_or (pt_cmpR op_ne (pe_callB call_len_str (by rfl) m_len PySem.boot_len (pa_cons (pv 2) pa_nil)) (pe_op op_sub (pe_callB (kr_len (K := K) rfl) (by rfl) m_len PySem.boot_len (pa_cons (pv 0) pa_nil)) (pv 1)) (nomark _)) (pw_or1 (pt_cmpR op_ne (ke_bm (K := K) rfl PySem.F.plainAttrs_str PySem.F.slot_str_strip PySem.F.type_str_strip mt_stripChars (pv 2) (pa_cons (pe_glob (v := .str "abc") (by rfl) gLETTERS ⟨_, rfl⟩) pa_nil)) pe_str (nomark _))))))
  (pss_cons (ps_raiseE (K := K) (mg := mg) rfl rfl rfl (takes_of rfl rfl rfl rfl) e_BadTriangle (by rfl))
 pss_nil)
  pss_nil)
 pss_nil))
 pss_nil)), ?_⟩
    rcases hB with rfl | ⟨z, rfl⟩ | ⟨a, xs, rfl, ha⟩ | ⟨a, rfl, ha⟩ | ⟨a, xs, rfl, ha, hrow⟩
    · exact y_yes (et_or1 (et_not0 (et_val K (ei_isV (T := "NoneType") (evv_var rfl) (fun _ _ => .base .non) kb1)))) fun H1 e1 => q H1 e1
    · exact y_yes (et_or1 (et_not0 (et_val K (ei_isV (T := "str") (evv_var rfl) (fun _ _ => .base (.str z)) kb2)))) fun H1 e1 => q H1 e1
    · exact y_yes (et_or1 (et_not0 (et_val K (ei_isV (T := "tuple") (evv_var rfl) (fun _ e => .base (.tup (e _ _ ha))) kb3)))) fun H1 e1 => q H1 e1
    · exact y_yes (et_or1 (et_not0 (et_val K (ei_isV (T := "dict") (evv_var rfl) (fun _ e => .base (.dK (e _ _ ha))) kb4)))) fun H1 e1 => q H1 e1
    have hs : ∀ {H1}, Ex H H1 → SqL K H1 a xs := fun e => sq_of (e _ _ ha)
    have isl : ∀ {σ : L2.St} {H1}, σ[0]? = some (some (.ref a)) → Ex H H1 → EvT (tNot (tB (tCB (rIsi K) (tCons (tVar 0) (tCons (tC (.ty "list")) tNil))))) σ H1 false := fun h0 e => et_not1 (et_val K (ei_isV (T := "list") (evv_var h0) (fun _ e' => .base (.lst ((e.trans e') _ _ ha))) kit_list))
    have hlen : ∀ {σ : L2.St} {H1}, σ[0]? = some (some (.ref a)) → Ex H H1 → EvI K (tCB (rLenS K) (tCons (tVar 0) tNil)) σ H1 (.int (xs.length : Int)) := fun h0 e => ei_lenL (evv_var h0) fun H2 e2 => hs (e.trans e2)
    rcases hrow with hlt | ⟨h50, ib, xb, hxb, hbad, hok⟩
    · exact y_yes (et_or2 (isl rfl (Ex.refl _)) (et_to (et_of K (ei_I0b (hlen rfl (Ex.refl _)) ei_int)) (decide_eq_true (by omega)))) fun H1 e1 => q H1 e1
    have hib := (List.getElem?_eq_some_iff.mp hxb).1
    by_cases hlt : xs.length < 2
    · exact y_yes (et_or2 (isl rfl (Ex.refl _)) (et_to (et_of K (ei_I0b (hlen rfl (Ex.refl _)) ei_int)) (decide_eq_true (by omega)))) fun H1 e1 => q H1 e1
    refine y_no (et_or0 (isl rfl (Ex.refl _)) (et_to (et_of K (ei_I0b (hlen rfl (Ex.refl _)) ei_int)) (decide_eq_false (by omega)))) ?_
    intro H1 e1
    refine x_forEV (src1V (evv_var rfl)) (hs e1) ?_
    intro H2 e2
    refine ⟨fun i σ' H' => Ex H2 H' ∧ i ≤ ib ∧ ∃ y1 y2, σ' = [some (.ref a), y1, y2], ⟨Ex.refl _, Nat.zero_le _, none, none, rfl⟩, fun i σ' H' p => p.1, ?_, ?_⟩
    · rintro i x T σ' H3 hx ⟨e3, hi, y1, y2, rfl⟩ hT
      have e4 := Ex.new (o := .tup [.int (i : Int), x]) hT
      have e04 := (e1.trans e2).trans (e3.trans e4)
      refine g_tupV2 ⟨T, rfl, Evl.st_of upd_same⟩ ?_
      by_cases hlt2 : i < ib
      · obtain ⟨z, rfl, hz, hz2, hz3⟩ := hok i x hlt2 hx
        refine y_no (et_or0 (et_not1 (et_val K (ei_isI (ei_var rfl (.str z)) kit_str))) (et_or0 (et_neI0 (K := K) (ei_lenS (ei_var rfl (.str z)) (by omega)) (EvI.to (ei_I0i (hlen rfl e04) (ei_var (v := .int (i : Int)) rfl (.int _))) ?_)) (et_to (et_of K (ei_neS (ei_strip (ei_var rfl (.str z)) ei_str (by omega)) ei_str)) ?_))) ?_
        · refine congrArg PyData.int ?_
          rw [hz2]; omega
        · rw [hz3]; rfl
        · intro H5 e5
          exact ⟨e3.trans (e4.trans e5), by omega, _, _, rfl⟩
      · have hi2 : i = ib := by omega
        subst hi2
        rw [hxb] at hx; cases hx
        rcases mBadRow _ _ _ e04 hbad with rfl | ⟨b, ys, rfl, hb⟩ | ⟨z, rfl, hz, hz2⟩
        · exact y_yes (et_or1 (et_not0 (et_val K (ei_isV (T := "NoneType") (evv_var rfl) (fun _ _ => .base .non) kb5)))) fun H5 e5 => q H5 (e04.trans e5)
        · exact y_yes (et_or1 (et_not0 (et_val K (ei_isV (T := "list") (evv_var rfl) (fun _ e' => .base (.lst (e' _ _ hb))) kb6)))) fun H5 e5 => q H5 (e04.trans e5)
        · refine y_yes (et_or2 (et_not1 (et_val K (ei_isI (ei_var rfl (.str z)) kit_str))) ?_) fun H5 e5 => q H5 (e04.trans e5)
          by_cases hl : z.length = xs.length - i
          · have hne : Txt.stripChars z ("abc" : Str) ≠ st [] := by
              rcases hz2 with h | h
              · exact absurd hl h
              · exact h
            refine et_or2 (et_neI0 (K := K) (ei_lenS (ei_var rfl (.str z)) (by omega)) (EvI.to (ei_I0i (hlen rfl e04) (ei_var (v := .int (i : Int)) rfl (.int _))) ?_)) (et_to (et_of K (ei_neS (ei_strip (ei_var rfl (.str z)) ei_str (by omega)) ei_str)) ?_)
            · refine congrArg PyData.int ?_
              rw [hl]; omega
            · rw [decide_eq_false (show ¬ Txt.stripChars z (Str.ofString "abc") = Str.ofString "" from hne)]; rfl
          · exact et_or1 (et_neI1 (K := K) (ei_lenS (ei_var rfl (.str z)) (by omega)) (ei_I0i (hlen rfl e04) (ei_var (v := .int (i : Int)) rfl (.int _))) (by omega))
    · rintro σ' H3 ⟨e3, hi, _⟩
      omega
theorem ok_fulls_xa (D : Def K mg "fulls" s_fulls) (cx_asked_triangle_a : Callee P w K mg base (L2.CX P w) 1 "asked_triangle" ["triangle"] (spRef (preBadT CT))) : Callee P w K mg base (L2.CX P w) 2 "fulls" ["triangle"] (spRef (preBadT CT)) := by
  refine D.okX sc_fulls (fun _ _ _ _ _ _ us hl => match us, hl with | [_], _ => rfl) (fun vs H Q E h => ?_) (fun f cdv A outer s H vs Q E hr h => ?_)
  · obtain ⟨C, ⟨v, rfl, _⟩, _⟩ := h; rfl
  · obtain ⟨C, ⟨v, rfl, hB, rfl⟩, q⟩ := h
    refine ⟨_, (pss_cons (ps_expr (pe_callSC cx_asked_triangle_a (takes_of rfl rfl rfl rfl) (hr.mono (by decide)) (by rfl) (pa_cons (pv 0) pa_nil)))
 pss_never), ?_⟩
    refine y_dropZ (ez_call (C := C) (eax1 (R1 := BadT) (ex_var rfl fun H1 e => mBadT _ _ _ e hB)) ?_ fun H1 e => q H1 e)
    rintro vs H1 e ⟨b, rfl, h⟩
    exact ⟨b, rfl, h, rfl⟩
theorem ok_around_xa (D : Def K mg "around" s_around) (cx_asked_triangle_a : Callee P w K mg base (L2.CX P w) 1 "asked_triangle" ["triangle"] (spRef (preBadT CT))) : Callee P w K mg base (L2.CX P w) 2 "around" ["triangle"] (spRef (preBadT CT)) := by
  refine D.okX sc_around (fun _ _ _ _ _ _ us hl => match us, hl with | [_], _ => rfl) (fun vs H Q E h => ?_) (fun f cdv A outer s H vs Q E hr h => ?_)
  · obtain ⟨C, ⟨v, rfl, _⟩, _⟩ := h; rfl
  · obtain ⟨C, ⟨v, rfl, hB, rfl⟩, q⟩ := h
    refine ⟨_, (pss_cons (ps_expr (pe_callSC cx_asked_triangle_a (takes_of rfl rfl rfl rfl) (hr.mono (by decide)) (by rfl) (pa_cons (pv 0) pa_nil)))
 pss_never), ?_⟩
    refine y_dropZ (ez_call (C := C) (eax1 (R1 := BadT) (ex_var rfl fun H1 e => mBadT _ _ _ e hB)) ?_ fun H1 e => q H1 e)
    rintro vs H1 e ⟨b, rfl, h⟩
    exact ⟨b, rfl, h, rfl⟩
theorem ok_doors_xa (D : Def K mg "doors" s_doors) (cx_asked_triangle_a : Callee P w K mg base (L2.CX P w) 1 "asked_triangle" ["triangle"] (spRef (preBadT CT))) : Callee P w K mg base (L2.CX P w) 2 "doors" ["triangle"] (spRef (preBadT CT)) := by
  refine D.okX sc_doors (fun _ _ _ _ _ _ us hl => match us, hl with | [_], _ => rfl) (fun vs H Q E h => ?_) (fun f cdv A outer s H vs Q E hr h => ?_)
  · obtain ⟨C, ⟨v, rfl, _⟩, _⟩ := h; rfl
  · obtain ⟨C, ⟨v, rfl, hB, rfl⟩, q⟩ := h
    refine ⟨_, (pss_cons (ps_expr (pe_callSC cx_asked_triangle_a (takes_of rfl rfl rfl rfl) (hr.mono (by decide)) (by rfl) (pa_cons (pv 0) pa_nil)))
 pss_never), ?_⟩
    refine y_dropZ (ez_call (C := C) (eax1 (R1 := BadT) (ex_var rfl fun H1 e => mBadT _ _ _ e hB)) ?_ fun H1 e => q H1 e)
    rintro vs H1 e ⟨b, rfl, h⟩
    exact ⟨b, rfl, h, rfl⟩
theorem ok_turn_xa (D : Def K mg "turn" s_turn) (cx_asked_triangle_a : Callee P w K mg base (L2.CX P w) 1 "asked_triangle" ["triangle"] (spRef (preBadT CT))) : Callee P w K mg base (L2.CX P w) 2 "turn" ["triangle", "small"] (spRef (preBadT2 CT)) := by
  refine D.okX sc_turn (fun _ _ _ _ _ _ us hl => match us, hl with | [_, _], _ => rfl) (fun vs H Q E h => ?_) (fun f cdv A outer s H vs Q E hr h => ?_)
  · obtain ⟨C, ⟨v, x, rfl, _⟩, _⟩ := h; rfl
  · obtain ⟨C, ⟨v, x, rfl, hB, rfl⟩, q⟩ := h
    refine ⟨_, (pss_cons (ps_expr (pe_callSC cx_asked_triangle_a (takes_of rfl rfl rfl rfl) (hr.mono (by decide)) (by rfl) (pa_cons (pv 0) pa_nil)))
 pss_never), ?_⟩
    refine y_dropZ (ez_call (C := C) (eax1 (R1 := BadT) (ex_var rfl fun H1 e => mBadT _ _ _ e hB)) ?_ fun H1 e => q H1 e)
    rintro vs H1 e ⟨b, rfl, h⟩
    exact ⟨b, rfl, h, rfl⟩
abbrev s_told : Stmt := top 40
theorem sc_told : FnScope ["triangle", "row", "place", "up"] ["triangle"] (defScope s_told) := ⟨rfl, rfl, rfl, by decide +kernel, rfl, by decide +kernel, by decide +kernel⟩
theorem ok_told_xa (D : Def K mg "told" s_told) (cx_asked_triangle_a : Callee P w K mg base (L2.CX P w) 1 "asked_triangle" ["triangle"] (spRef (preBadT CT))) : Callee P w K mg base (L2.CX P w) 2 "told" ["triangle"] (spRef (preBadT CT)) := by
  refine D.okX sc_told (fun _ _ _ _ _ _ us hl => match us, hl with | [_], _ => rfl) (fun vs H Q E h => ?_) (fun f cdv A outer s H vs Q E hr h => ?_)
  · obtain ⟨C, ⟨v, rfl, _⟩, _⟩ := h; rfl
  · obtain ⟨C, ⟨v, rfl, hB, rfl⟩, q⟩ := h
    refine ⟨_, (pss_cons (ps_expr (pe_callSC cx_asked_triangle_a (takes_of rfl rfl rfl rfl) (hr.mono (by decide)) (by rfl) (pa_cons (pv 0) pa_nil)))
 pss_never), ?_⟩
    refine y_dropZ (ez_call (C := C) (eax1 (R1 := BadT) (ex_var rfl fun H1 e => mBadT _ _ _ e hB)) ?_ fun H1 e => q H1 e)
    rintro vs H1 e ⟨b, rfl, h⟩
    exact ⟨b, rfl, h, rfl⟩
abbrev s_walk : Stmt := top 38
theorem sc_walk : FnScope ["triangle", "door", "small", "step"] ["triangle", "door"] (defScope s_walk) := ⟨rfl, rfl, rfl, by decide +kernel, rfl, by decide +kernel, by decide +kernel⟩
theorem ok_walk_xa (D : Def K mg "walk" s_walk) (cx_asked_triangle_a : Callee P w K mg base (L2.CX P w) 1 "asked_triangle" ["triangle"] (spRef (preBadT CT))) : Callee P w K mg base (L2.CX P w) 2 "walk" ["triangle", "door"] (spRef (preBadT2 CT)) := by
  refine D.okX sc_walk (fun _ _ _ _ _ _ us hl => match us, hl with | [_, _], _ => rfl) (fun vs H Q E h => ?_) (fun f cdv A outer s H vs Q E hr h => ?_)
  · obtain ⟨C, ⟨v, x, rfl, _⟩, _⟩ := h; rfl
  · obtain ⟨C, ⟨v, x, rfl, hB, rfl⟩, q⟩ := h
    refine ⟨_, (pss_cons (ps_expr (pe_callSC cx_asked_triangle_a (takes_of rfl rfl rfl rfl) (hr.mono (by decide)) (by rfl) (pa_cons (pv 0) pa_nil)))
 pss_never), ?_⟩
    refine y_dropZ (ez_call (C := C) (eax1 (R1 := BadT) (ex_var rfl fun H1 e => mBadT _ _ _ e hB)) ?_ fun H1 e => q H1 e)
    rintro vs H1 e ⟨b, rfl, h⟩
    exact ⟨b, rfl, h, rfl⟩
abbrev s_walk_out : Stmt := top 39
theorem sc_walk_out : FnScope ["triangle", "small"] ["triangle", "small"] (defScope s_walk_out) := ⟨rfl, rfl, rfl, by decide +kernel, rfl, by decide +kernel, by decide +kernel⟩
theorem ok_walk_out_xa (D : Def K mg "walk_out" s_walk_out) (cx_asked_triangle_a : Callee P w K mg base (L2.CX P w) 1 "asked_triangle" ["triangle"] (spRef (preBadT CT))) : Callee P w K mg base (L2.CX P w) 2 "walk_out" ["triangle", "small"] (spRef (preBadT2 CT)) := by
  refine D.okX sc_walk_out (fun _ _ _ _ _ _ us hl => match us, hl with | [_, _], _ => rfl) (fun vs H Q E h => ?_) (fun f cdv A outer s H vs Q E hr h => ?_)
  · obtain ⟨C, ⟨v, x, rfl, _⟩, _⟩ := h; rfl
  · obtain ⟨C, ⟨v, x, rfl, hB, rfl⟩, q⟩ := h
    refine ⟨_, (pss_cons (ps_expr (pe_callSC cx_asked_triangle_a (takes_of rfl rfl rfl rfl) (hr.mono (by decide)) (by rfl) (pa_cons (pv 0) pa_nil)))
 pss_never), ?_⟩
    refine y_dropZ (ez_call (C := C) (eax1 (R1 := BadT) (ex_var rfl fun H1 e => mBadT _ _ _ e hB)) ?_ fun H1 e => q H1 e)
    rintro vs H1 e ⟨b, rfl, h⟩
    exact ⟨b, rfl, h, rfl⟩
theorem ok_put_xa (D : Def K mg "put" s_put) (cx_asked_triangle_a : Callee P w K mg base (L2.CX P w) 1 "asked_triangle" ["triangle"] (spRef (preBadT CT))) : Callee P w K mg base (L2.CX P w) 2 "put" ["triangle", "row", "place", "letter"] (spRef (preBadT4 CT)) := by
  refine D.okX sc_put (fun _ _ _ _ _ _ us hl => match us, hl with | [_, _, _, _], _ => rfl) (fun vs H Q E h => ?_) (fun f cdv A outer s H vs Q E hr h => ?_)
  · obtain ⟨C, ⟨v, x, y, z, rfl, _⟩, _⟩ := h; rfl
  · obtain ⟨C, ⟨v, x, y, z, rfl, hB, rfl⟩, q⟩ := h
    refine ⟨_, (pss_cons (ps_expr (pe_callSC cx_asked_triangle_a (takes_of rfl rfl rfl rfl) (hr.mono (by decide)) (by rfl) (pa_cons (pv 0) pa_nil)))
 pss_never), ?_⟩
    refine y_dropZ (ez_call (C := C) (eax1 (R1 := BadT) (ex_var rfl fun H1 e => mBadT _ _ _ e hB)) ?_ fun H1 e => q H1 e)
    rintro vs H1 e ⟨b, rfl, h⟩
    exact ⟨b, rfl, h, rfl⟩

/-! ### no small triangle, no spot, no door, no letter -/
def BadS (K : PySem.W.Frag) (n : Nat) (x : V) (H : Hp) : Prop := x = .non ∨ (∃ i, x = .int i) ∨ (∃ a xs, x = .ref a ∧ H a = some (.lst xs)) ∨ (∃ ds, Im K H x (.tuple ds) ∧ ds.length ≤ 10 ∧ (ds.length ≠ 3 ∨ ds.all isNumD = false)) ∨ ∃ r p u : Int, Im K H x (tri3 r p u) ∧ isSmB n r p u = false
theorem mBadS {n : Nat} : Mon (BadS K n) := fun v H1 H2 e h => by
  rcases h with h | h | ⟨a, xs, h1, h2⟩ | ⟨ds, h1, h2⟩ | ⟨r, p, u, h1, h2⟩
  · exact .inl h
  · exact .inr (.inl h)
  · exact .inr (.inr (.inl ⟨a, xs, h1, e _ _ h2⟩))
  · exact .inr (.inr (.inr (.inl ⟨ds, h1.mono e, h2⟩)))
  · exact .inr (.inr (.inr (.inr ⟨r, p, u, h1.mono e, h2⟩)))
def preBadS (K : PySem.W.Frag) (CS : Addr) : List V → Hp → Addr → Prop := fun vs H C => ∃ t x n c, vs = [t, x] ∧ Tri K H t n c ∧ BadS K n x H ∧ C = CS
theorem ei_num {te : TE} {σ : L2.St} {H : Hp} {d : PyData} (h : EvI K te σ H d) : EvI K (tCall (PrI K (preIsNumber K)) [] E0 (tCons te tNil)) σ H (.bool (isNumD d)) := by
  refine ei_call (eax1 h) ?_
  rintro vs H1 e ⟨b, rfl, g⟩
  exact ⟨b, d, rfl, g, rfl⟩
theorem ok_asked_small_xa (D : Def K mg "asked_small" s_asked_small) (c_is_number : Callee P w K mg base CX0 1 "is_number" ["thing"] (PrI K (preIsNumber K))) (c_is_small : Callee P w K mg base CX0 1 "is_small" ["triangle", "row", "place", "up"] (PrI K (preIsSmall K))) (e_BadSmall : ErrK K mg "BadSmall" CS)
    (m_len : mg "len" = none) (m_isinstance : mg "isinstance" = none) (m_tuple : mg "tuple" = none) (m_all : mg "all" = none) : Callee P w K mg base (L2.CX P w) 2 "asked_small" ["triangle", "small"] (spRef (preBadS K CS)) := by
  refine D.okX sc_asked_small (fun _ _ _ _ _ _ us hl => match us, hl with | [_, _], _ => rfl) (fun vs H Q E h => ?_) (fun f cdv A outer s H vs Q E hr h => ?_)
  · obtain ⟨C, ⟨t, x, n, c, rfl, _⟩, _⟩ := h; rfl
  · obtain ⟨C, ⟨t, x, n, c, rfl, hT, hB, rfl⟩, q⟩ := h
    refine ⟨_, (pss_cons (ps_if (PW.pt (pw_or (pt_not (pt_val (pe_callB (kr_isi (K := K) rfl) (by rfl) m_isinstance (by decide +kernel) (pa_cons (pv 1) (pa_cons (pe_bltn (v := .ty "tuple") (by rfl) m_tuple (by decide +kernel) rfl) pa_nil))))) (pw_or (pt_cmpR op_ne (pe_callB (kr_len (K := K) rfl) (by rfl) m_len PySem.boot_len (pa_cons (pv 1) pa_nil)) pe_int (nomark _)) (pw_or1 (pt_not (pt_val (pe_callB (kr_all (K := K) rfl rfl) (by rfl) m_all (by decide +kernel) (pa_cons (pe_lc (own := [("one", 2)]) rfl sc_asked_small.nd (ki_tup (K := K) rfl (pv 1)) (blkOk_by (N := ["triangle", "small", "one"]) (sc := defScope s_asked_small) (by decide +kernel)) (fun _ _ _ _ _ => (pg_name (i := 2) sc_asked_small.nd rfl (.inl rfl) (.inr rfl))) (fun _ _ _ _ _ => pts_nil) (fun _ _ _ _ _ => (pe_callC c_is_number (hr.mono (by decide)) (by rfl) (pa_cons (pv 2) pa_nil)))) pa_nil))))))))
  (pss_cons (ps_raiseE (K := K) (mg := mg) rfl rfl rfl (takes_of rfl rfl rfl rfl) e_BadSmall (by rfl))
 pss_nil)
  pss_nil)
 (pss_cons (ps_if (pt_not (pt_val (pe_callC c_is_small (hr.mono (by decide)) (by rfl) (pa_cons (pv 0) (pa_cons (pe_ix (kx_tup (K := K) rfl) (pv 1) pe_int (fun _ _ => rfl)) (pa_cons (pe_ix (kx_tup (K := K) rfl) (pv 1) pe_int (fun _ _ => rfl)) (pa_cons (pe_ix (kx_tup (K := K) rfl) (pv 1) pe_int (fun _ _ => rfl)) pa_nil)))))))
  (pss_cons (ps_raiseE (K := K) (mg := mg) rfl rfl rfl (takes_of rfl rfl rfl rfl) e_BadSmall (by rfl))
 pss_nil)
  pss_nil)
 pss_nil)), ?_⟩
    have tst : ∀ {ds : List PyData} {b : Bool}, Im K H x (.tuple ds) → ds.length ≤ 10 → ds.all isNumD = b → EvT (tNot (tB (tCB (rAll K) (tCons (tLc (iTup K (tVar 1)) (gName 2) tYes (tCall (PrI K (preIsNumber K)) [] E0 (tCons (tVar 2) tNil)) (List.map (fun x => x.2) [(("one" : Str), 2)])) tNil)))) (start ["triangle", "small", "one"] [t, x]) H (!b) := fun {ds b} hx hl hb => by
      refine et_not (et_val K (EvI.to (ei_all (bs := ds.map isNumD) (EvN.k (EvN.to (en_lcT (L := ds) (enc := fun d => d) (fun _ => true) (fun e => .bool (isNumD e)) ?_ (by omega) ?_) ?_))) ?_))
      · rw [List.map_id']; exact ei_var rfl hx
      · intro d _ y H1 e hy
        exact ⟨_, fun Q q => q, rfl, et_yes, fun _ => ei_num (ei_var rfl hy)⟩
      · rw [List.filter_eq_self.mpr (fun _ _ => rfl), List.map_map]; rfl
      · rw [List.all_map]
        exact congrArg PyData.bool hb
    rcases hB with rfl | ⟨i, rfl⟩ | ⟨a, xs, rfl, ha⟩ | ⟨ds, hx, hl, hd⟩ | ⟨r, p, u, hx, hn⟩
    · exact y_yes (et_or1 (et_not0 (et_val K (ei_isV (T := "NoneType") (evv_var rfl) (fun _ _ => .base .non) kb7)))) fun H1 e1 => q H1 e1
    · exact y_yes (et_or1 (et_not0 (et_val K (ei_isV (T := "int") (evv_var rfl) (fun _ _ => .base (.int i)) kb8)))) fun H1 e1 => q H1 e1
    · exact y_yes (et_or1 (et_not0 (et_val K (ei_isV (T := "list") (evv_var rfl) (fun _ e => .base (.lst (e _ _ ha))) kb9)))) fun H1 e1 => q H1 e1
    · refine y_yes (et_or2 (et_not1 (et_val K (ei_isI (ei_var rfl hx) kit_tuple))) ?_) fun H1 e1 => q H1 e1
      by_cases h3 : ds.length = 3
      · refine et_or2 (et_neI0 (K := K) (i := 3) (EvI.to (ei_lenT (ei_var rfl hx)) (by rw [h3]; rfl)) ei_int) ?_
        refine tst (b := false) hx hl ?_
        rcases hd with h | h
        · exact absurd h3 h
        · exact h
      · exact et_or1 (et_neI1 (K := K) (ei_lenT (ei_var rfl hx)) ei_int (by omega))
    · refine y_no (et_or0 (et_not1 (et_val K (ei_isI (ei_var rfl hx) kit_tuple))) (et_or0 (et_neI0 (K := K) (i := 3) (ei_lenT (ei_var rfl hx)) ei_int) (tst (b := true) hx (Nat.le_of_ble_eq_true rfl) rfl))) ?_
      intro H1 e1
      refine y_yes (et_not0 (et_val K (ei_call (eax4 (R1 := fun v H1 => Tri K H1 v n c) (R2 := fun v H1 => Im K H1 v (.int r)) (R3 := fun v H1 => Im K H1 v (.int p)) (R4 := fun v H1 => Im K H1 v (.int u)) (ex_var rfl fun H1 e => (hT.mono e1).mono e) mTri
        (ei_ixT (i := 0) (ei_var rfl (hx.mono e1)) ei_int rfl) mI (ei_ixT (i := 1) (ei_var rfl (hx.mono e1)) ei_int rfl) mI (ei_ixT (i := 2) (ei_var rfl (hx.mono e1)) ei_int rfl)) ?_))) fun H2 e2 => q H2 (e1.trans e2)
      rintro vs H2 e2 ⟨a, b, c', d, rfl, h1, h2, h3, h4⟩
      cases h2; cases h3; cases h4
      exact ⟨a, n, c, _, _, _, rfl, h1, by rw [hn]⟩
/-- of no small triangle -/
theorem ok_turn_xb (D : Def K mg "turn" s_turn) (c_asked_triangle : Callee P w K mg base CX0 1 "asked_triangle" ["triangle"] (spAskedT K)) (cx_asked_small_a : Callee P w K mg base (L2.CX P w) 2 "asked_small" ["triangle", "small"] (spRef (preBadS K CS))) : Callee P w K mg base (L2.CX P w) 3 "turn" ["triangle", "small"] (spRef (preBadS K CS)) := by
  refine D.okX sc_turn (fun _ _ _ _ _ _ us hl => match us, hl with | [_, _], _ => rfl) (fun vs H Q E h => ?_) (fun f cdv A outer s H vs Q E hr h => ?_)
  · obtain ⟨C, ⟨t, x, n, c, rfl, _⟩, _⟩ := h; rfl
  · obtain ⟨C, ⟨t, x, n, c, rfl, hT, hB, rfl⟩, q⟩ := h
    refine ⟨_, (pss_cons (ps_expr (pe_callC c_asked_triangle (hr.mono (by decide)) (by rfl) (pa_cons (pv 0) pa_nil)))
 (pss_cons (ps_expr (pe_callSC cx_asked_small_a (takes_of rfl rfl rfl rfl) (hr.mono (by decide)) (by rfl) (pa_cons (pv 0) (pa_cons (pv 1) pa_nil))))
 pss_never)), ?_⟩
    refine drop_asked rfl hT ?_
    intro H1 e1
    refine y_dropZ (ez_call (C := C) (eax2 (R1 := fun v H1 => Tri K H1 v n c) (R2 := BadS K n) (ex_var rfl fun H1 e => (hT.mono e1).mono e) mTri (ex_var rfl fun H2 e => mBadS _ _ _ (e1.trans e) hB)) ?_ fun H2 e2 => q H2 (e1.trans e2))
    rintro vs H2 e2 ⟨a, b, rfl, h1, h2⟩
    exact ⟨a, b, n, c, rfl, h1, h2, rfl⟩
theorem ok_walk_out_xb (D : Def K mg "walk_out" s_walk_out) (c_asked_triangle : Callee P w K mg base CX0 1 "asked_triangle" ["triangle"] (spAskedT K)) (cx_asked_small_a : Callee P w K mg base (L2.CX P w) 2 "asked_small" ["triangle", "small"] (spRef (preBadS K CS))) : Callee P w K mg base (L2.CX P w) 3 "walk_out" ["triangle", "small"] (spRef (preBadS K CS)) := by
  refine D.okX sc_walk_out (fun _ _ _ _ _ _ us hl => match us, hl with | [_, _], _ => rfl) (fun vs H Q E h => ?_) (fun f cdv A outer s H vs Q E hr h => ?_)
  · obtain ⟨C, ⟨t, x, n, c, rfl, _⟩, _⟩ := h; rfl
  · obtain ⟨C, ⟨t, x, n, c, rfl, hT, hB, rfl⟩, q⟩ := h
    refine ⟨_, (pss_cons (ps_expr (pe_callC c_asked_triangle (hr.mono (by decide)) (by rfl) (pa_cons (pv 0) pa_nil)))
 (pss_cons (ps_expr (pe_callSC cx_asked_small_a (takes_of rfl rfl rfl rfl) (hr.mono (by decide)) (by rfl) (pa_cons (pv 0) (pa_cons (pv 1) pa_nil))))
 pss_never)), ?_⟩
    refine drop_asked rfl hT ?_
    intro H1 e1
    refine y_dropZ (ez_call (C := C) (eax2 (R1 := fun v H1 => Tri K H1 v n c) (R2 := BadS K n) (ex_var rfl fun H1 e => (hT.mono e1).mono e) mTri (ex_var rfl fun H2 e => mBadS _ _ _ (e1.trans e) hB)) ?_ fun H2 e2 => q H2 (e1.trans e2))
    rintro vs H2 e2 ⟨a, b, rfl, h1, h2⟩
    exact ⟨a, b, n, c, rfl, h1, h2, rfl⟩
/-- of one that is not full -/
def preNotFull (K : PySem.W.Frag) (CS : Addr) : List V → Hp → Addr → Prop := fun vs H C => ∃ t x n c s, vs = [t, x] ∧ Tri K H t n c ∧ Im K H x (smD s) ∧ IsSm n s ∧ tnS c s = 0 ∧ C = CS
theorem ok_walk_out_xc (D : Def K mg "walk_out" s_walk_out) (c_asked_triangle : Callee P w K mg base CX0 1 "asked_triangle" ["triangle"] (spAskedT K)) (c_asked_small : Callee P w K mg base CX0 2 "asked_small" ["triangle", "small"] (PrI K (preAskedS K))) (c_turn_of : Callee P w K mg base CX0 3 "turn_of" ["triangle", "small"] (PrI K (preTurnOf K))) (e_BadSmall : ErrK K mg "BadSmall" CS) :
    Callee P w K mg base (L2.CX P w) 4 "walk_out" ["triangle", "small"] (spRef (preNotFull K CS)) := by
  refine D.okX sc_walk_out (fun _ _ _ _ _ _ us hl => match us, hl with | [_, _], _ => rfl) (fun vs H Q E h => ?_) (fun f cdv A outer s H vs Q E hr h => ?_)
  · obtain ⟨C, ⟨t, x, n, c, z, rfl, _⟩, _⟩ := h; rfl
  · obtain ⟨C, ⟨t, x, n, c, z, rfl, hT, hx, hs, h0, rfl⟩, q⟩ := h
    refine ⟨_, (pss_cons (ps_expr (pe_callC c_asked_triangle (hr.mono (by decide)) (by rfl) (pa_cons (pv 0) pa_nil)))
 (pss_cons (ps_expr (pe_callC c_asked_small (hr.mono (by decide)) (by rfl) (pa_cons (pv 0) (pa_cons (pv 1) pa_nil))))
 (pss_cons (ps_if (pt_cmpR op_eq (pe_callC c_turn_of (hr.mono (by decide)) (by rfl) (pa_cons (pv 0) (pa_cons (pv 1) pa_nil))) pe_int (nomark _))
  (pss_cons (ps_raiseE (K := K) (mg := mg) rfl rfl rfl (takes_of rfl rfl rfl rfl) e_BadSmall (by rfl))
 pss_nil)
  pss_nil)
 pss_never))), ?_⟩
    refine drop_asked rfl hT ?_
    intro H1 e1
    have hT1 := hT.mono e1
    have hx1 := hx.mono e1
    refine y_dropI K .none ?_ ?_
    · refine ei_call (eax2 (R1 := fun v H1 => Tri K H1 v n c) (R2 := fun v H1 => Im K H1 v (smD z)) (ex_var rfl fun H1 e => hT1.mono e) mTri (ei_var rfl hx1)) ?_
      rintro vs H2 e2 ⟨a, b, rfl, h1, h2⟩
      exact ⟨a, b, n, c, z, rfl, h1, h2, hs, rfl⟩
    intro v H2 e2 _
    exact y_yes (et_to (et_of K (ei_eqI (ev_turn rfl (hT1.mono e2) rfl (hx1.mono e2) hs) ei_int)) (decide_eq_true h0)) fun H3 e3 => q H3 (e1.trans (e2.trans e3))
def BadDr (n : Nat) (c : Nat → Nat → Nat) (d : PyData) : Prop := isNumD d = false ∨ ∃ k : Int, d = .int k ∧ ∀ j ∈ doors n c, (j : Int) ≠ k
def preBadD (K : PySem.W.Frag) (CD : Addr) : List V → Hp → Addr → Prop := fun vs H C => ∃ t x n c d, vs = [t, x] ∧ Tri K H t n c ∧ Im K H x d ∧ BadDr n c d ∧ C = CD
theorem ok_walk_xb (D : Def K mg "walk" s_walk) (c_asked_triangle : Callee P w K mg base CX0 1 "asked_triangle" ["triangle"] (spAskedT K)) (c_is_number : Callee P w K mg base CX0 1 "is_number" ["thing"] (PrI K (preIsNumber K))) (c_doors : Callee P w K mg base CX0 2 "doors" ["triangle"] (spDoors K)) (e_BadDoor : ErrK K mg "BadDoor" CD) :
    Callee P w K mg base (L2.CX P w) 3 "walk" ["triangle", "door"] (spRef (preBadD K CD)) := by
  refine D.okX sc_walk (fun _ _ _ _ _ _ us hl => match us, hl with | [_, _], _ => rfl) (fun vs H Q E h => ?_) (fun f cdv A outer s H vs Q E hr h => ?_)
  · obtain ⟨C, ⟨t, x, n, c, d, rfl, _⟩, _⟩ := h; rfl
  · obtain ⟨C, ⟨t, x, n, c, d, rfl, hT, hx, hB, rfl⟩, q⟩ := h
    refine ⟨_, (pss_cons (ps_expr (pe_callC c_asked_triangle (hr.mono (by decide)) (by rfl) (pa_cons (pv 0) pa_nil)))
 (pss_cons (ps_if (PW.pt (pw_or (pt_not (pt_val (pe_callC c_is_number (hr.mono (by decide)) (by rfl) (pa_cons (pv 1) pa_nil)))) (pw_or1 (pt_cmpR (ko_ni (K := K) rfl) (pv 1) (pe_callC c_doors (hr.mono (by decide)) (by rfl) (pa_cons (pv 0) pa_nil)) rfl))))
  (pss_cons (ps_raiseE (K := K) (mg := mg) rfl rfl rfl (takes_of rfl rfl rfl rfl) e_BadDoor (by rfl))
 pss_nil)
  pss_nil)
 pss_never)), ?_⟩
    refine drop_asked rfl hT ?_
    intro H1 e1
    have hT1 := hT.mono e1
    have hx1 := hx.mono e1
    refine y_yes ?_ fun H2 e2 => q H2 (e1.trans e2)
    rcases hB with hB | ⟨k, rfl, hk⟩
    · exact et_or1 (et_not0 (et_val K (EvI.to (ei_num (ei_var rfl hx1)) (by rw [hB]))))
    · refine et_or2 (et_not1 (et_val K (ei_num (ei_var rfl hx1)))) ?_
      refine et_to (et_of K (ei_niIL (z := k) (ys := (doors n c).map fun k : Nat => (k : Int)) (ei_var rfl hx1) (EvN.k (EvN.to (en_call (eax1 (R1 := fun v H1 => Tri K H1 v n c) (ex_var rfl fun H1 e => hT1.mono e)) ?_) (List.map_map ..).symm)))) ?_
      · rintro vs H2 e2 ⟨b, rfl, h⟩
        exact ⟨b, n, c, rfl, h, rfl⟩
      · have : (((doors n c).map fun k : Nat => (k : Int)).any fun y => y == k) = false := by
          rw [List.any_map, List.any_eq_false]
          intro j hj
          simpa using hk j hj
        rw [this]; rfl
def BadSp (n : Nat) (d e : PyData) : Prop := isNumD d = false ∨ isNumD e = false ∨ ∃ r p : Int, d = .int r ∧ e = .int p ∧ isSpB n r p = false
def preBadSp (K : PySem.W.Frag) (CP : Addr) : List V → Hp → Addr → Prop := fun vs H C => ∃ t x y n c d e, vs = [t, x, y] ∧ Tri K H t n c ∧ Im K H x d ∧ Im K H y e ∧ BadSp n d e ∧ C = CP
theorem num_cases (d : PyData) : isNumD d = false ∨ ∃ i, d = .int i := by
  cases d with
  | int i => exact .inr ⟨i, rfl⟩
  | _ => exact .inl rfl
theorem ok_asked_spot_xa (D : Def K mg "asked_spot" s_asked_spot) (c_is_number : Callee P w K mg base CX0 1 "is_number" ["thing"] (PrI K (preIsNumber K))) (c_is_spot : Callee P w K mg base CX0 1 "is_spot" ["triangle", "row", "place"] (PrI K (preIsSpot K))) (e_BadSpot : ErrK K mg "BadSpot" CP) :
    Callee P w K mg base (L2.CX P w) 2 "asked_spot" ["triangle", "row", "place"] (spRef (preBadSp K CP)) := by
  refine D.okX sc_asked_spot (fun _ _ _ _ _ _ us hl => match us, hl with | [_, _, _], _ => rfl) (fun vs H Q E h => ?_) (fun f cdv A outer s H vs Q E hr h => ?_)
  · obtain ⟨C, ⟨t, x, y, n, c, d, e, rfl, _⟩, _⟩ := h; rfl
  · obtain ⟨C, ⟨t, x, y, n, c, d, e, rfl, hT, hx, hy, hB, rfl⟩, q⟩ := h
    refine ⟨_, (pss_cons (ps_if (PW.pt (pw_or (pt_not (pt_val (pe_callC c_is_number (hr.mono (by decide)) (by rfl) (pa_cons (pv 1) pa_nil)))) (pw_or (pt_not (pt_val (pe_callC c_is_number (hr.mono (by decide)) (by rfl) (pa_cons (pv 2) pa_nil)))) (pw_or1 (pt_not (pt_val (pe_callC c_is_spot (hr.mono (by decide)) (by rfl) (pa_cons (pv 0) (pa_cons (pv 1) (pa_cons (pv 2) pa_nil))))))))))
  (pss_cons (ps_raiseE (K := K) (mg := mg) rfl rfl rfl (takes_of rfl rfl rfl rfl) e_BadSpot (by rfl))
 pss_nil)
  pss_nil)
 pss_nil), ?_⟩
    refine y_yes ?_ fun H1 e1 => q H1 e1
    rcases num_cases d with hd | ⟨r, rfl⟩
    · exact et_or1 (et_not0 (et_val K (EvI.to (ei_num (ei_var rfl hx)) (by rw [hd]))))
    refine et_or2 (et_not1 (et_val K (ei_num (ei_var rfl hx)))) ?_
    rcases num_cases e with he | ⟨p, rfl⟩
    · exact et_or1 (et_not0 (et_val K (EvI.to (ei_num (ei_var rfl hy)) (by rw [he]))))
    refine et_or2 (et_not1 (et_val K (ei_num (ei_var rfl hy)))) ?_
    have hn : isSpB n r p = false := by
      rcases hB with h | h | ⟨r', p', h1, h2, h3⟩
      · cases h
      · cases h
      · cases h1; cases h2; exact h3
    refine et_not0 (et_val K (ei_call (eax3 (R1 := fun v H1 => Tri K H1 v n c) (R2 := fun v H1 => Im K H1 v (.int r)) (R3 := fun v H1 => Im K H1 v (.int p)) (ex_var rfl fun H1 e => hT.mono e) mTri (ei_var rfl hx) mI (ei_var rfl hy)) ?_))
    rintro vs H2 e2 ⟨a, b, c', rfl, h1, h2, h3⟩
    cases h2; cases h3
    exact ⟨a, n, c, _, _, rfl, h1, by rw [hn]⟩
def preBadPut (K : PySem.W.Frag) (CP : Addr) : List V → Hp → Addr → Prop := fun vs H C => ∃ t x y z n c d e, vs = [t, x, y, z] ∧ Tri K H t n c ∧ Im K H x d ∧ Im K H y e ∧ BadSp n d e ∧ C = CP
theorem ok_put_xb (D : Def K mg "put" s_put) (c_asked_triangle : Callee P w K mg base CX0 1 "asked_triangle" ["triangle"] (spAskedT K)) (cx_asked_spot_a : Callee P w K mg base (L2.CX P w) 2 "asked_spot" ["triangle", "row", "place"] (spRef (preBadSp K CP))) :
    Callee P w K mg base (L2.CX P w) 3 "put" ["triangle", "row", "place", "letter"] (spRef (preBadPut K CP)) := by
  refine D.okX sc_put (fun _ _ _ _ _ _ us hl => match us, hl with | [_, _, _, _], _ => rfl) (fun vs H Q E h => ?_) (fun f cdv A outer s H vs Q E hr h => ?_)
  · obtain ⟨C, ⟨t, x, y, z, n, c, d, e, rfl, _⟩, _⟩ := h; rfl
  · obtain ⟨C, ⟨t, x, y, z, n, c, d, e, rfl, hT, hx, hy, hB, rfl⟩, q⟩ := h
    refine ⟨_, (pss_cons (ps_expr (pe_callC c_asked_triangle (hr.mono (by decide)) (by rfl) (pa_cons (pv 0) pa_nil)))
 (pss_cons (ps_expr (pe_callSC cx_asked_spot_a (takes_of rfl rfl rfl rfl) (hr.mono (by decide)) (by rfl) (pa_cons (pv 0) (pa_cons (pv 1) (pa_cons (pv 2) pa_nil)))))
 pss_never)), ?_⟩
    refine drop_asked rfl hT ?_
    intro H1 e1
    refine y_dropZ (ez_call (C := C) (eax3 (R1 := fun v H1 => Tri K H1 v n c) (R2 := fun v H1 => Im K H1 v d) (R3 := fun v H1 => Im K H1 v e) (ex_var rfl fun H1 e => (hT.mono e1).mono e) mTri (ei_var rfl (hx.mono e1)) mI (ei_var rfl (hy.mono e1))) ?_ fun H2 e2 => q H2 (e1.trans e2))
    rintro vs H2 e2 ⟨a, b, b', rfl, h1, h2, h3⟩
    exact ⟨a, b, b', n, c, d, e, rfl, h1, h2, h3, hB, rfl⟩
/-- no letter -/
def BadL (x : V) (H : Hp) : Prop := x = .non ∨ (∃ i, x = .int i) ∨ (∃ a xs, x = .ref a ∧ H a = some (.lst xs)) ∨ (∃ z : Str, x = .str z ∧ z.length ≤ 1000 ∧ z.length ≠ 1) ∨ ∃ l : Nat, x = .str ⟨#[l]⟩ ∧ l ∉ ("abc" : Str).cps.toList
theorem mBadL : Mon BadL := fun v H1 H2 e h => by
  rcases h with h | h | ⟨a, xs, h1, h2⟩ | h | h
  · exact .inl h
  · exact .inr (.inl h)
  · exact .inr (.inr (.inl ⟨a, xs, h1, e _ _ h2⟩))
  · exact .inr (.inr (.inr (.inl h)))
  · exact .inr (.inr (.inr (.inr h)))
def preBadL (K : PySem.W.Frag) (CP : Addr) : List V → Hp → Addr → Prop := fun vs H C => ∃ t z n c, ∃ r p : Nat, vs = [t, .int r, .int p, z] ∧ Tri K H t n c ∧ r + p < n ∧ BadL z H ∧ C = CP
theorem ok_put_xc (D : Def K mg "put" s_put) (hL : ∃ tk, mg "LETTERS" = some (.str "abc" tk)) (c_asked_triangle : Callee P w K mg base CX0 1 "asked_triangle" ["triangle"] (spAskedT K)) (c_asked_spot : Callee P w K mg base CX0 2 "asked_spot" ["triangle", "row", "place"] (PrI K (preAskedSp K))) (e_BadSpot : ErrK K mg "BadSpot" CP)
    (m_len : mg "len" = none) (m_isinstance : mg "isinstance" = none) (m_str : mg "str" = none) : Callee P w K mg base (L2.CX P w) 3 "put" ["triangle", "row", "place", "letter"] (spRef (preBadL K CP)) := by
  obtain ⟨tk, gLETTERS⟩ := hL
  refine D.okX sc_put (fun _ _ _ _ _ _ us hl => match us, hl with | [_, _, _, _], _ => rfl) (fun vs H Q E h => ?_) (fun f cdv A outer s H vs Q E hr h => ?_)
  · obtain ⟨C, ⟨t, z, n, c, r, p, rfl, _⟩, _⟩ := h; rfl
  · obtain ⟨C, ⟨t, z, n, c, r, p, rfl, hT, hrp, hB, rfl⟩, q⟩ := h
    refine ⟨_, (pss_cons (ps_expr (pe_callC c_asked_triangle (hr.mono (by decide)) (by rfl) (pa_cons (pv 0) pa_nil)))
 (pss_cons (ps_expr (pe_callC c_asked_spot (hr.mono (by decide)) (by rfl) (pa_cons (pv 0) (pa_cons (pv 1) (pa_cons (pv 2) pa_nil)))))
 (pss_cons (ps_if (PW.pt (pw_or (pt_not (pt_val (pe_callB (kr_isi (K := K) rfl) (by rfl) m_isinstance (by decide +kernel) (pa_cons (pv 3) (pa_cons (pe_bltn (v := .ty "str") (by rfl) m_str (by decide +kernel) rfl) pa_nil))))) (pw_or (pt_cmpR op_ne (pe_callB call_len_str (by rfl) m_len PySem.boot_len (pa_cons (pv 3) pa_nil)) pe_int (nomark _)) (pw_or1 (pt_cmpR op_notIn_sign (pv 3) (pe_glob (v := .str "abc") (by rfl) gLETTERS ⟨_, rfl⟩) rfl)))))
  (pss_cons (ps_raiseE (K := K) (mg := mg) rfl rfl rfl (takes_of rfl rfl rfl rfl) e_BadSpot (by rfl))
 pss_nil)
  pss_nil)
 pss_never))), ?_⟩
    refine drop_asked rfl hT ?_
    intro H1 e1
    have hT1 := hT.mono e1
    refine y_dropI K .none ?_ ?_
    · refine ei_call (eax3 (R1 := fun v H1 => Tri K H1 v n c) (R2 := fun v H1 => Im K H1 v (.int r)) (R3 := fun v H1 => Im K H1 v (.int p)) (ex_var rfl fun H1 e => hT1.mono e) mTri (ei_var rfl (.int _)) mI (ei_var rfl (.int _))) ?_
      rintro vs H2 e2 ⟨a, b, c', rfl, h1, h2, h3⟩
      cases h2; cases h3
      exact ⟨a, n, c, _, _, rfl, h1, hrp, rfl⟩
    intro v H2 e2 _
    refine y_yes ?_ fun H3 e3 => q H3 (e1.trans (e2.trans e3))
    rcases mBadL _ _ _ (e1.trans e2) hB with rfl | ⟨i, rfl⟩ | ⟨a, xs, rfl, ha⟩ | ⟨z, rfl, hz, hz1⟩ | ⟨l, rfl, hl⟩
    · exact et_or1 (et_not0 (et_val K (ei_isV (T := "NoneType") (evv_var rfl) (fun _ _ => .base .non) kb5)))
    · exact et_or1 (et_not0 (et_val K (ei_isV (T := "int") (evv_var rfl) (fun _ _ => .base (.int i)) kb10)))
    · exact et_or1 (et_not0 (et_val K (ei_isV (T := "list") (evv_var rfl) (fun _ e => .base (.lst (e _ _ ha))) kb6)))
    · exact et_or2 (et_not1 (et_val K (ei_isI (ei_var rfl (.str z)) kit_str))) (et_or1 (et_neI1 (K := K) (ei_lenS (ei_var rfl (.str z)) (by omega)) ei_int (by omega)))
    · refine et_or2 (et_not1 (et_val K (ei_isI (ei_var rfl (.str _)) kit_str))) (et_or2 (et_neI0 (K := K) (i := 1) (ei_lenS (z := ⟨#[l]⟩) (ei_var rfl (.str _)) (by show 1 ≤ 100000; decide)) ei_int) (et_to (et_of K (ei_niC (c := l) (ei_var rfl (.str _)) ei_str)) ?_))
      rw [decide_eq_false (show ¬ l ∈ (Str.ofString "abc").cps.toList from hl)]; rfl
end
end DWL
namespace DWL
open PySem PySem.Spec PyProof.Rows L2 Evl DW
section
variable {P : Program} {w : World} {K : PySem.W.Frag} {mg : Str → Option Value} {base : Heap} {CW CT CS CD CP : Addr}
local macro_rules | `(tactic| walk_at "v") => `(tactic| first | exact ei_int | exact ei_str | exact ei_bl | exact ei_non | exact ei_neg ei_int | exact ei_var rfl (Im.int _) | exact ei_var rfl (Im.str _) | exact ei_var rfl (Im.bl _) | exact ei_var rfl (by assumption) | exact et_len rfl (by assumption))
local macro_rules | `(tactic| walk_at "e") => `(tactic| first | walk_at "v" | (apply ei_I0i <;> walk_at "e") | (apply ei_I0b <;> walk_at "e") | (apply ei_chainI <;> walk_at "e") | (apply ei_eqI <;> walk_at "e") | (apply ei_eqS <;> walk_at "e") | (refine' ei_tup ?_ (Nat.le_of_ble_eq_true rfl) <;> walk_at "e") | (apply eai_cons <;> walk_at "e") | exact eai_nil)

/-! ### the sixteen that are no triangles -/
section
variable {σ : L2.St} {H : Hp} {ta tb te : TE} {tA : TA}
theorem bt_list {ds : List PyData} {xs : List V} {a : Addr} (ha : H a = some (.lst xs)) (hx : ImAll K H xs ds) (hb : ∀ xs, ImAll K H xs ds → BadRows xs H) : BadT (.ref a) H := .inr (.inr (.inr (.inr ⟨a, xs, rfl, ha, hb xs hx⟩)))
/-- a list of texts (or None) that is none -/
theorem ex_btL (ds : List PyData) (h : EvAI K tA σ H ds) (hl : ds.length ≤ 100000) (hb : ∀ xs H1, ImAll K H1 xs ds → BadRows xs H1) : EvX (tLst tA) σ H BadT := EvX.imp (EvN.m (en_lst h hl)) fun v H1 ⟨a, xs, h1, h2, h3⟩ => by
  subst h1
  exact bt_list (K := K) h2 h3 fun xs hx => hb xs H1 hx
theorem br_few {ds : List PyData} (h : ds.length < 2) : ∀ xs H1, ImAll K H1 xs ds → BadRows xs H1 := fun xs H1 hx => .inl (by rw [hx.length]; exact h)
/-- the i-th row is bad, those ahead are fine: told of data -/
def okD (n i : Nat) : PyData → Bool
  | .str z => decide (z.length ≤ 1000) && (decide (z.length = n - i) && decide (Txt.stripChars z ("abc" : Str) = st []))
  | _ => false
def badD (n i : Nat) : PyData → Bool
  | .none => true
  | .str z => decide (z.length ≤ 1000) && (!decide (z.length = n - i) || !decide (Txt.stripChars z ("abc" : Str) = st []))
  | _ => false
def rowsB (ds : List PyData) (i : Nat) : Bool := decide (ds.length ≤ 50) && (badD ds.length i (ds.getD i (.int 0)) && (List.range i).all fun j => okD ds.length j (ds.getD j .none))
theorem okD_to {n i : Nat} {d : PyData} {v : V} (h : Im K H v d) (g : okD n i d = true) : OkRow n i v := by
  cases h with
  | str z =>
    simp only [okD, Bool.and_eq_true, decide_eq_true_eq] at g
    exact ⟨z, rfl, g.1, g.2.1, g.2.2⟩
  | _ => cases g
theorem badD_to {n i : Nat} {d : PyData} {v : V} (h : Im K H v d) (g : badD n i d = true) : BadRow n i v H := by
  cases h with
  | non => exact .inl rfl
  | str z =>
    simp only [badD, Bool.and_eq_true, Bool.or_eq_true, Bool.not_eq_true', decide_eq_true_eq, decide_eq_false_iff_not] at g
    exact .inr (.inr ⟨z, rfl, g.1, g.2⟩)
  | _ => cases g
theorem br_at {ds : List PyData} (i : Nat) (h : rowsB ds i = true) : ∀ xs H1, ImAll K H1 xs ds → BadRows xs H1 := fun xs H1 hx => by
  simp only [rowsB, Bool.and_eq_true, decide_eq_true_eq, List.all_eq_true, List.mem_range] at h
  obtain ⟨h1, h2, h3⟩ := h
  have hl := hx.length
  have hi : i < ds.length := by
    by_cases hi : i < ds.length
    · exact hi
    · rw [List.getD_eq_getElem?_getD, List.getElem?_eq_none (by omega)] at h2; cases h2
  obtain ⟨v, g1, g2⟩ := hx.get (List.getElem?_eq_getElem hi)
  refine .inr ⟨by omega, i, v, g1, ?_, fun j y hj hy => ?_⟩
  · rw [List.getD_eq_getElem?_getD, List.getElem?_eq_getElem hi] at h2
    rw [hl]
    exact badD_to g2 h2
  · obtain ⟨d, k1, k2⟩ := hx.getV hy
    have := h3 j hj
    rw [List.getD_eq_getElem?_getD, k1] at this
    rw [hl]
    exact okD_to k2 this
theorem bt_non : EvX (tC .non) σ H BadT := fun H1 _ Q q => q _ H1 (Ex.refl H1) (.inl rfl)
theorem bt_str {z : Str} : EvX (tC (.str z)) σ H BadT := fun H1 _ Q q => q _ H1 (Ex.refl H1) (.inr (.inl ⟨z, rfl⟩))
theorem bt_tup {ds : List PyData} (h : EvAI K tA σ H ds) (hl : ds.length ≤ 100000) : EvX (tTup tA) σ H BadT := fun H1 e _ q =>
  h H1 e _ fun vs H2 e2 r => ⟨sz_of (by rw [r.length]; exact hl), fun p hp => q _ _ (e2.trans (Ex.new hp)) (.inr (.inr (.inl ⟨p, vs, rfl, upd_same⟩)))⟩
theorem bt_dict : EvX tDNewK σ H BadT := EvX.imp ex_dnew fun v H1 ⟨q, h1, h2⟩ => .inr (.inr (.inr (.inl ⟨q, h1, h2⟩)))
/-- [[..], text] -/
theorem bt_nest {z : Str} (h : EvAI K tA σ H (([("a" : Str)] ++ [("b" : Str)]).map PyData.str)) : EvX (tLst (tCons (tLst tA) (tCons (tC (.str z)) tNil))) σ H BadT := by
  have mL : Mon fun (v : V) H => ∃ a ys, v = .ref a ∧ H a = some (.lst ys) := fun v H1 H2 e ⟨a, ys, h1, h2⟩ => ⟨a, ys, h1, e _ _ h2⟩
  have m2 : ∀ R ∈ [(fun (v : V) (H : Hp) => ∃ a ys, v = .ref a ∧ H a = some (.lst ys)), fun v _ => v = .str z], Mon R := fun R hR => by
    simp only [List.mem_cons, List.not_mem_nil, or_false] at hR
    rcases hR with rfl | rfl
    · exact mL
    · exact fun _ _ _ _ h => h
  refine EvX.imp (ex_lstE m2 (eae_cons (EvX.imp (EvN.m (en_lst h (Nat.le_of_ble_eq_true rfl))) fun v H1 ⟨a, xs, h1, h2, h3⟩ => ⟨a, xs, h1, h2⟩) mL (eae_cons (EvX.imp evv_c fun v H1 r => r) (fun _ _ _ _ h => h) eae_nil)) (Nat.le_of_ble_eq_true rfl)) ?_
  rintro v H1 ⟨a, xs, rfl, h1, h2⟩
  match xs, h2 with
  | [x, y], ⟨⟨b, ys, hx, hb⟩, _, _⟩ => exact .inr (.inr (.inr (.inr ⟨a, _, rfl, h1, .inr ⟨Nat.le_of_ble_eq_true rfl, 0, x, rfl, .inr (.inl ⟨b, ys, hx, hb⟩), fun j y hj => absurd hj (Nat.not_lt_zero j)⟩⟩)))
theorem bt_nest1 (K : PySem.W.Frag) {y z : Str} : EvX (tLst (tCons (tLst (tCons (tC (.str y)) tNil)) (tCons (tC (.str z)) tNil))) σ H BadT := by
  have mL : Mon fun (v : V) H => ∃ a ys, v = .ref a ∧ H a = some (.lst ys) := fun v H1 H2 e ⟨a, ys, h1, h2⟩ => ⟨a, ys, h1, e _ _ h2⟩
  have m2 : ∀ R ∈ [(fun (v : V) (H : Hp) => ∃ a ys, v = .ref a ∧ H a = some (.lst ys)), fun v _ => v = .str z], Mon R := fun R hR => by
    simp only [List.mem_cons, List.not_mem_nil, or_false] at hR
    rcases hR with rfl | rfl
    · exact mL
    · exact fun _ _ _ _ h => h
  refine EvX.imp (ex_lstE m2 (eae_cons (EvX.imp (EvN.m (en_lst (K := K) (eai_cons ei_str eai_nil) (Nat.le_of_ble_eq_true rfl))) fun v H1 ⟨a, xs, h1, h2, h3⟩ => ⟨a, xs, h1, h2⟩) mL (eae_cons (EvX.imp evv_c fun v H1 r => r) (fun _ _ _ _ h => h) eae_nil)) (Nat.le_of_ble_eq_true rfl)) ?_
  rintro v H1 ⟨a, xs, rfl, h1, h2⟩
  match xs, h2 with
  | [x, y], ⟨⟨b, ys, hx, hb⟩, _, _⟩ => exact .inr (.inr (.inr (.inr ⟨a, _, rfl, h1, .inr ⟨Nat.le_of_ble_eq_true rfl, 0, x, rfl, .inr (.inl ⟨b, ys, hx, hb⟩), fun j y hj => absurd hj (Nat.not_lt_zero j)⟩⟩)))
/-- [aa.., aa..] -/
theorem bt_rep {k : Nat} (h2 : 2 ≤ k) (h10 : k ≤ 10) {q : Addr} (h : H q = some (.lst [.str (st (List.replicate k 97)), .str (st (List.replicate k 97))])) : BadT (.ref q) H := by
  have hl : (st (List.replicate k 97)).length = k := by rw [st_len, List.length_replicate]
  refine .inr (.inr (.inr (.inr ⟨q, _, rfl, h, .inr ⟨Nat.le_of_ble_eq_true rfl, ?_⟩⟩)))
  by_cases hk : k = 2
  · subst hk
    refine ⟨1, _, rfl, .inr (.inr ⟨_, rfl, by omega, .inl (by rw [hl]; decide)⟩), fun j y hj hy => ?_⟩
    have : j = 0 := by omega
    subst this
    cases hy
    exact ⟨_, rfl, by omega, by rw [hl]; rfl, by decide +kernel⟩
  · exact ⟨0, _, rfl, .inr (.inr ⟨_, rfl, by omega, .inl (by rw [hl]; show k ≠ 2 - 0; omega)⟩), fun j y hj => absurd hj (Nat.not_lt_zero j)⟩
end
def preLT (CT : Addr) : List V → Hp → Addr → Prop := fun vs _ C => ∃ a b : Int, vs = [.int a, .int b] ∧ 0 ≤ a ∧ 0 ≤ b ∧ C = CT
abbrev s__law_triangle_asked : Stmt := top 42
theorem sc__law_triangle_asked : FnScope ["_law_which", "_law_more", "_law_bad", "_law_some", "_law_door"] ["_law_which", "_law_more"] (defScope s__law_triangle_asked) := ⟨rfl, rfl, rfl, by decide +kernel, rfl, by decide +kernel, by decide +kernel⟩
theorem ok_law_triangle_asked_xa (D : Def K mg "_law_triangle_asked" s__law_triangle_asked) (cx_fulls_a : Callee P w K mg base (L2.CX P w) 2 "fulls" ["triangle"] (spRef (preBadT CT))) (cx_around_a : Callee P w K mg base (L2.CX P w) 2 "around" ["triangle"] (spRef (preBadT CT))) (cx_doors_a : Callee P w K mg base (L2.CX P w) 2 "doors" ["triangle"] (spRef (preBadT CT)))
    (cx_turn_a : Callee P w K mg base (L2.CX P w) 2 "turn" ["triangle", "small"] (spRef (preBadT2 CT))) (cx_told_a : Callee P w K mg base (L2.CX P w) 2 "told" ["triangle"] (spRef (preBadT CT))) (cx_walk_a : Callee P w K mg base (L2.CX P w) 2 "walk" ["triangle", "door"] (spRef (preBadT2 CT))) (cx_walk_out_a : Callee P w K mg base (L2.CX P w) 2 "walk_out" ["triangle", "small"] (spRef (preBadT2 CT))) :
    Callee P w K mg base (L2.CX P w) 3 "_law_triangle_asked" ["_law_which", "_law_more"] (spRef (preLT CT)) := by
  obtain ⟨f1, fd1, F1, g_fulls, kp1, bb1⟩ := id cx_fulls_a
  obtain ⟨f2, fd2, F2, g_around, kp2, bb2⟩ := id cx_around_a
  obtain ⟨f3, fd3, F3, g_doors, kp3, bb3⟩ := id cx_doors_a
  have cf1 : ∀ f, (f = f1 ∨ f = f2 ∨ f = f3) → ∃ fd, FnOk P w K mg base (L2.CX P w) 2 f fd ["triangle"] (spRef (preBadT CT)) ∧ PySem.W.keepIn K (.ref f) = true ∧ Binds K fd ["triangle"] [] := fun f hf => by
    rcases hf with rfl | rfl | rfl
    · exact ⟨fd1, F1, kp1, bb1⟩
    · exact ⟨fd2, F2, kp2, bb2⟩
    · exact ⟨fd3, F3, kp3, bb3⟩
  refine D.okX sc__law_triangle_asked (fun _ _ _ _ _ _ us hl => match us, hl with | [_, _], _ => rfl) (fun vs H Q E h => ?_) (fun f cdv A outer s H vs Q E hr h => ?_)
  · obtain ⟨C, ⟨a, b, rfl, _⟩, _⟩ := h; rfl
  · obtain ⟨C, ⟨a, b, rfl, ha, hb, rfl⟩, q⟩ := h
    refine ⟨_, (pss_cons (ps_set (i := 2) sc__law_triangle_asked.nd rfl (.inl rfl) (pe_lst (pa_cons pe_non (pa_cons pe_str (pa_cons (pe_tup (pa_cons pe_str (pa_cons pe_str pa_nil))) (pa_cons pe_dnewK (pa_cons (pe_lst pa_nil) (pa_cons (pe_lst (pa_cons pe_str pa_nil)) (pa_cons (pe_lst (pa_cons pe_str (pa_cons pe_str pa_nil))) (pa_cons (pe_lst (pa_cons pe_str (pa_cons pe_str (pa_cons pe_str pa_nil)))) (pa_cons (pe_lst (pa_cons pe_str (pa_cons pe_str pa_nil))) (pa_cons (pe_lst (pa_cons pe_str (pa_cons pe_non pa_nil))) pa_nil))))))))))))
 (pss_cons (ps_set (i := 2) sc__law_triangle_asked.nd rfl (.inl rfl) (pe_op op_cat (pv 2) (pe_lst (pa_cons (pe_lst (pa_cons pe_str (pa_cons pe_str pa_nil))) (pa_cons (pe_lst (pa_cons pe_str (pa_cons pe_str (pa_cons pe_str pa_nil)))) (pa_cons (pe_lst (pa_cons pe_str (pa_cons pe_str (pa_cons pe_str pa_nil)))) (pa_cons (pe_lst (pa_cons (pe_lst (pa_cons pe_str (pa_cons pe_str pa_nil))) (pa_cons pe_str pa_nil))) (pa_cons (pe_lst (pa_cons pe_str (pa_cons pe_str (pa_cons pe_str pa_nil)))) pa_nil))))))))
 (pss_cons (ps_expr (ke_bm (K := K) rfl PySem.F.plainAttrs_list PySem.F.slot_list_append PySem.F.type_list_append mt_append (pv 2) (pa_cons (pe_op op_rep (pe_lst (pa_cons (pe_op op_repS pe_str (pe_op op_add pe_int (pe_op op_mod (pv 1) pe_int))) pa_nil)) pe_int) pa_nil)))
 (pss_cons (ps_set (i := 3) sc__law_triangle_asked.nd rfl (.inl rfl) (pe_ix (kx_list (K := K) rfl) (pv 2) (pe_op op_mod (pv 0) pe_int) (fun _ _ => rfl)))
 (pss_cons (ps_set (i := 4) sc__law_triangle_asked.nd rfl (.inl rfl) (pe_op op_mod (pe_op op_fdiv (pv 0) pe_int) pe_int))
 (pss_cons (ps_if (pt_cmpR op_lt (pv 4) pe_int (nomark _))
  (pss_cons (ps_ret (pe_callF (pe_ix (kx_list (K := K) rfl) (pe_lst (pa_cons (pe_glob (v := .ref _) (by rfl) g_fulls rfl) (pa_cons (pe_glob (v := .ref _) (by rfl) g_around rfl) (pa_cons (pe_glob (v := .ref _) (by rfl) g_doors rfl) pa_nil)))) (pv 4) (fun _ _ => rfl)) cf1 (takes_of rfl rfl rfl rfl) (hr.mono (by decide)) (pa_cons (pv 3) pa_nil)))
 pss_nil)
  pss_nil)
 (pss_cons (ps_if (pt_cmpR op_lt (pv 4) pe_int (nomark _))
  (pss_cons (ps_ret (pe_ifExp (pt_cmpR op_eq (pv 4) pe_int (nomark _)) (pe_callSC cx_turn_a (takes_of rfl rfl rfl rfl) (hr.mono (by decide)) (by rfl) (pa_cons (pv 3) (pa_cons pe_non pa_nil))) (pe_callSC cx_told_a (takes_of rfl rfl rfl rfl) (hr.mono (by decide)) (by rfl) (pa_cons (pv 3) pa_nil))))
 pss_nil)
  pss_nil)
 (pss_cons (ps_ret (pe_ifExp (pt_cmpR op_eq (pv 4) pe_int (nomark _)) (pe_callSC cx_walk_a (takes_of rfl rfl rfl rfl) (hr.mono (by decide)) (by rfl) (pa_cons (pv 3) (pa_cons pe_non pa_nil))) (pe_callSC cx_walk_out_a (takes_of rfl rfl rfl rfl) (hr.mono (by decide)) (by rfl) (pa_cons (pv 3) (pa_cons pe_non pa_nil)))))
 pss_nil)))))))), ?_⟩
    refine y_asg (LmS BadT 10) (ex_lstS mBadT (eas_cons mBadT bt_non (eas_cons mBadT bt_str (eas_cons mBadT (bt_tup (K := K) (eai_cons ei_str (eai_cons ei_str eai_nil)) (Nat.le_of_ble_eq_true rfl)) (eas_cons mBadT bt_dict (eas_cons mBadT (ex_btL [] eai_nil (Nat.zero_le _) (br_few (K := K) (by decide))) (eas_cons mBadT (ex_btL _ (eai_cons ei_str eai_nil) (Nat.le_of_ble_eq_true rfl) (br_few (K := K) (by decide))) (eas_cons mBadT (ex_btL _ (eai_cons ei_str (eai_cons ei_str eai_nil)) (Nat.le_of_ble_eq_true rfl) (br_at (K := K) 1 (by decide +kernel))) (eas_cons mBadT (ex_btL _ (eai_cons ei_str (eai_cons ei_str (eai_cons ei_str eai_nil))) (Nat.le_of_ble_eq_true rfl) (br_at (K := K) 2 (by decide +kernel))) (eas_cons mBadT (ex_btL _ (eai_cons ei_str (eai_cons ei_str eai_nil)) (Nat.le_of_ble_eq_true rfl) (br_at (K := K) 1 (by decide +kernel))) (eas_cons mBadT (ex_btL _ (eai_cons ei_str (eai_cons ei_non eai_nil)) (Nat.le_of_ble_eq_true rfl) (br_at (K := K) 1 (by decide +kernel))) eas_nil)))))))))) (Nat.le_of_ble_eq_true rfl)) ?_
    intro v1 H1 e1 h1
    refine y_asg (fun v H2 => ∃ p, v = .ref p ∧ LS BadT 15 H1 H2 p) (ex_catLS mBadT (ex_var rfl fun H2 e2 => mLmS mBadT _ _ _ e2 h1) (ex_lstS mBadT (eas_cons mBadT (ex_btL _ (eai_cons ei_str (eai_cons ei_str eai_nil)) (Nat.le_of_ble_eq_true rfl) (br_at (K := K) 0 (by decide +kernel))) (eas_cons mBadT (ex_btL _ (eai_cons ei_str (eai_cons ei_str (eai_cons ei_str eai_nil))) (Nat.le_of_ble_eq_true rfl) (br_at (K := K) 0 (by decide +kernel))) (eas_cons mBadT (ex_btL _ (eai_cons ei_str (eai_cons ei_str (eai_cons ei_str eai_nil))) (Nat.le_of_ble_eq_true rfl) (br_at (K := K) 0 (by decide +kernel))) (eas_cons mBadT (bt_nest (K := K) (eai_cons ei_str (eai_cons ei_str eai_nil))) (eas_cons mBadT (ex_btL _ (eai_cons ei_str (eai_cons ei_str (eai_cons ei_str eai_nil))) (Nat.le_of_ble_eq_true rfl) (br_at (K := K) 0 (by decide +kernel))) eas_nil))))) (Nat.le_of_ble_eq_true rfl)) (Nat.le_of_ble_eq_true rfl)) ?_
    rintro v2 H2 e2 ⟨p, rfl, g2⟩
    obtain ⟨k, hk, k2, k10⟩ : ∃ k : Nat, 2 + b % 9 = (k : Int) ∧ 2 ≤ k ∧ k ≤ 10 := ⟨(2 + b % 9).toNat, by omega, by omega, by omega⟩
    refine y_appV mBadT g2 (evv_var rfl) (ex_rep2 (K := K) (ei_repS (c := 97) (k := k) ei_str (EvI.to (ei_I0i ei_int (ei_Ii (ei_var rfl (.int _)) ei_int (by decide))) (congrArg PyData.int hk)) k2 (by omega))) (by decide) ?_ ?_
    · rintro v H3 xs o e3 hp ⟨l, rfl, hl0, hl⟩
      have ne : l ≠ p := by
        rintro rfl
        obtain ⟨ys, Hb, _, _, _, _, _, g6⟩ := g2
        rw [g6] at hl0; cases hl0
      exact bt_rep k2 k10 (by rw [upd_ne ne]; exact hl)
    intro H3 e3 g3
    have e13 := e1.trans e3
    obtain ⟨i, hi, i16⟩ : ∃ i : Nat, a % 16 = (i : Int) ∧ i < 16 := ⟨(a % 16).toNat, by omega, by omega⟩
    refine y_asg BadT (ex_ixS mBadT (ex_var rfl fun H4 e4 => mLmS mBadT _ _ _ e4 g3) (EvI.to (ei_Ii (ei_var (K := K) rfl (.int _)) ei_int (by decide)) (congrArg PyData.int hi)) i16) ?_
    intro v4 H4 e4 h4
    obtain ⟨d, hd, d7⟩ : ∃ d : Nat, a / 16 % 7 = (d : Int) ∧ d < 7 := ⟨(a / 16 % 7).toNat, by omega, by omega⟩
    refine y_asgI K (.int (d : Int)) (EvI.to (ei_Ii (ei_Ii (ei_var rfl (.int _)) ei_int ⟨by decide, by decide⟩) ei_int (by decide)) (congrArg PyData.int hd)) ?_
    intro v5 H5 e5 hv5
    obtain rfl := hv5.intE
    have e15 := e13.trans (e4.trans e5)
    have vB : ∀ {σ : L2.St} {H' : Hp}, σ[3]? = some (some v4) → Ex H5 H' → EvX (tVar 3) σ H' BadT := fun h e => ex_var h fun H1 e1 => mBadT _ _ _ (e5.trans (e.trans e1)) h4
    have one : ∀ {σ : L2.St} {H' : Hp}, σ[3]? = some (some v4) → Ex H5 H' → EvAX (tCons (tVar 3) tNil) σ H' fun vs H2 => ∃ x, vs = [x] ∧ BadT x H2 := fun h e => eax1 (vB h e)
    have two : ∀ {σ : L2.St} {H' : Hp}, σ[3]? = some (some v4) → Ex H5 H' → EvAX (tCons (tVar 3) (tCons (tC .non) tNil)) σ H' fun vs H2 => ∃ x y, vs = [x, y] ∧ BadT x H2 ∧ (fun v _ => v = V.non) y H2 := fun h e => eax2 (vB h e) mBadT (EvX.imp evv_c fun v _ r => r)
    refine y_when (decide ((d : Int) < 3)) (et_of K (ei_I0b (ei_var rfl (.int _)) ei_int)) ?_ ?_
    · intro hb H6 e6
      have d3 : d < 3 := by have := of_decide_eq_true hb; omega
      refine y_retZ (ez_callF (C := C) (P := fun vs H2 => ∃ x, vs = [x] ∧ BadT x H2) (EvX.imp (ex_ixS (S := fun v _ => ∃ f, v = .ref f ∧ (f = f1 ∨ f = f2 ∨ f = f3)) (i := d) (n := 3) (fun _ _ _ _ h => h) (ex_lstS (fun _ _ _ _ h => h) (eas_cons (fun _ _ _ _ h => h) (EvX.imp evv_c fun v _ r => ⟨f1, r, .inl rfl⟩) (eas_cons (fun _ _ _ _ h => h) (EvX.imp evv_c fun v _ r => ⟨f2, r, .inr (.inl rfl)⟩) (eas_cons (fun _ _ _ _ h => h) (EvX.imp evv_c fun v _ r => ⟨f3, r, .inr (.inr rfl)⟩) eas_nil))) (Nat.le_of_ble_eq_true rfl)) (ei_var (K := K) (v := .int (d : Int)) rfl (.int _)) d3) fun v _ r => r) (one rfl e6) ?_ fun H7 e7 => q H7 (e15.trans (e6.trans e7)))
      rintro vs H7 e7 ⟨x, rfl, h⟩
      exact ⟨x, rfl, h, rfl⟩
    intro hb H6 e6
    refine y_when (decide ((d : Int) < 5)) (et_of K (ei_I0b (ei_var rfl (.int _)) ei_int)) ?_ ?_
    · intro hb H7 e7
      have e67 := e6.trans e7
      refine y_retZ (ez_if (et_of K (ei_eqI (ei_var rfl (.int _)) ei_int)) (fun _ => ez_call (C := C) (two rfl e67) ?_ fun H8 e8 => q H8 (e15.trans (e67.trans e8))) (fun _ => ez_call (C := C) (one rfl e67) ?_ fun H8 e8 => q H8 (e15.trans (e67.trans e8))))
      · rintro vs H8 e8 ⟨x, y, rfl, h, _⟩
        exact ⟨x, y, rfl, h, rfl⟩
      · rintro vs H8 e8 ⟨x, rfl, h⟩
        exact ⟨x, rfl, h, rfl⟩
    intro hb H7 e7
    have e67 := e6.trans e7
    refine y_retZ (ez_if (et_of K (ei_eqI (ei_var rfl (.int _)) ei_int)) (fun _ => ez_call (C := C) (two rfl e67) ?_ fun H8 e8 => q H8 (e15.trans (e67.trans e8))) (fun _ => ez_call (C := C) (two rfl e67) ?_ fun H8 e8 => q H8 (e15.trans (e67.trans e8))))
    · rintro vs H8 e8 ⟨x, y, rfl, h, _⟩
      exact ⟨x, y, rfl, h, rfl⟩
    · rintro vs H8 e8 ⟨x, y, rfl, h, _⟩
      exact ⟨x, y, rfl, h, rfl⟩
/-! ### no small triangle, of thirteen -/
def x4 : List (List Nat) := [[97, 98, 99, 97], [98, 99, 97], [99, 98], [97]]
def xA : List (List Nat) := [[97, 97, 98], [97, 98], [99]]
def xB : List (List Nat) := [[97, 97], [97]]
def x2 : List (List Nat) := [[97, 98], [99]]
def x3 : List (List Nat) := [[97, 98], [97]]
theorem Tx4 : triD 4 (mkC x4) = ("abca" : Str) :: "bca" :: "cb" :: "a" :: [] := by decide +kernel
theorem TxA : triD 3 (mkC xA) = ("aab" : Str) :: "ab" :: "c" :: [] := by decide +kernel
theorem TxB : triD 2 (mkC xB) = ("aa" : Str) :: "a" :: [] := by decide +kernel
theorem Tx2 : triD 2 (mkC x2) = ("ab" : Str) :: "c" :: [] := by decide +kernel
theorem Tx3 : triD 2 (mkC x3) = ("ab" : Str) :: "a" :: [] := by decide +kernel
theorem Lx4 : ∀ r p, DW.ltr (mkC x4 r p) := mkC_ltr (by decide +kernel)
theorem LxA : ∀ r p, DW.ltr (mkC xA r p) := mkC_ltr (by decide +kernel)
theorem LxB : ∀ r p, DW.ltr (mkC xB r p) := mkC_ltr (by decide +kernel)
theorem Lx2 : ∀ r p, DW.ltr (mkC x2 r p) := mkC_ltr (by decide +kernel)
theorem Lx3 : ∀ r p, DW.ltr (mkC x3 r p) := mkC_ltr (by decide +kernel)
section
variable {σ : L2.St} {H : Hp} {te : TE} {n : Nat}
theorem bs_tri {r p u : Int} (h : EvI K te σ H (tri3 r p u)) (hb : isSmB n r p u = false) : EvX te σ H (BadS K n) := EvX.imp h fun v H1 g => .inr (.inr (.inr (.inr ⟨r, p, u, g, hb⟩)))
theorem bs_tup {ds : List PyData} (h : EvI K te σ H (.tuple ds)) (hb : (decide (ds.length ≤ 10) && (!decide (ds.length = 3) || !ds.all isNumD)) = true) : EvX te σ H (BadS K n) := EvX.imp h fun v H1 g => by
  simp only [Bool.and_eq_true, Bool.or_eq_true, Bool.not_eq_true', decide_eq_true_eq, decide_eq_false_iff_not] at hb
  exact .inr (.inr (.inr (.inl ⟨ds, g, hb.1, hb.2⟩)))
theorem bs_r {r p u : Int} (h : r < 0) : isSmB n r p u = false := by
  unfold isSmB
  have : decide (0 ≤ r) = false := decide_eq_false (by omega)
  rw [this]
  split <;> simp
theorem bs_p {r p : Int} (h : (n : Int) - 2 ≤ p) (hr : r = 0) : isSmB n r p 0 = false := by
  subst hr
  unfold isSmB
  rw [if_neg (by decide), show decide (p < (n : Int) - 2 - 0) = false from decide_eq_false (by omega)]
  simp
theorem bs_u {r p u : Int} (h : 2 ≤ u) : isSmB n r p u = false := by
  unfold isSmB
  rw [if_neg (by omega), show decide (u = 0) = false from decide_eq_false (by omega)]
  rfl
end
def preLS (CS : Addr) : List V → Hp → Addr → Prop := fun vs _ C => ∃ a b : Int, vs = [.int a, .int b] ∧ 0 ≤ a ∧ 0 ≤ b ∧ C = CS
abbrev s__law_small_asked : Stmt := top 43
theorem sc__law_small_asked : FnScope ["_law_which", "_law_more", "_law_triangle", "_law_bad"] ["_law_which", "_law_more"] (defScope s__law_small_asked) := ⟨rfl, rfl, rfl, by decide +kernel, rfl, by decide +kernel, by decide +kernel⟩
theorem ok_law_small_asked_xa (D : Def K mg "_law_small_asked" s__law_small_asked) (cx_turn_b : Callee P w K mg base (L2.CX P w) 3 "turn" ["triangle", "small"] (spRef (preBadS K CS))) (cx_walk_out_b : Callee P w K mg base (L2.CX P w) 3 "walk_out" ["triangle", "small"] (spRef (preBadS K CS))) :
    Callee P w K mg base (L2.CX P w) 4 "_law_small_asked" ["_law_which", "_law_more"] (spRef (preLS CS)) := by
  obtain ⟨f1, fd1, F1, g_turn, kp1, bb1⟩ := id cx_turn_b
  obtain ⟨f2, fd2, F2, g_walk_out, kp2, bb2⟩ := id cx_walk_out_b
  have cf2 : ∀ f, (f = f1 ∨ f = f2) → ∃ fd, FnOk P w K mg base (L2.CX P w) 3 f fd ["triangle", "small"] (spRef (preBadS K CS)) ∧ PySem.W.keepIn K (.ref f) = true ∧ Binds K fd ["triangle", "small"] [] := fun f hf => by
    rcases hf with rfl | rfl
    · exact ⟨fd1, F1, kp1, bb1⟩
    · exact ⟨fd2, F2, kp2, bb2⟩
  refine D.okX sc__law_small_asked (fun _ _ _ _ _ _ us hl => match us, hl with | [_, _], _ => rfl) (fun vs H Q E h => ?_) (fun f cdv A outer s H vs Q E hr h => ?_)
  · obtain ⟨C, ⟨a, b, rfl, _⟩, _⟩ := h; rfl
  · obtain ⟨C, ⟨a, b, rfl, ha, hb, rfl⟩, q⟩ := h
    refine ⟨_, (pss_cons (ps_set (i := 2) sc__law_small_asked.nd rfl (.inl rfl) (pe_lst (pa_cons pe_str (pa_cons pe_str (pa_cons pe_str (pa_cons pe_str pa_nil))))))
 (pss_cons (ps_set (i := 3) sc__law_small_asked.nd rfl (.inl rfl) (pe_lst (pa_cons pe_non (pa_cons pe_int (pa_cons (pe_tup (pa_cons pe_int (pa_cons pe_int pa_nil))) (pa_cons (pe_tup (pa_cons pe_int (pa_cons pe_int (pa_cons pe_int (pa_cons pe_int pa_nil))))) (pa_cons (pe_lst (pa_cons pe_int (pa_cons pe_int (pa_cons pe_int pa_nil)))) (pa_cons (pe_tup (pa_cons pe_int (pa_cons pe_int (pa_cons pe_int pa_nil)))) (pa_cons (pe_tup (pa_cons pe_int (pa_cons pe_int (pa_cons pe_int pa_nil)))) (pa_cons (pe_tup (pa_cons pe_int (pa_cons pe_int (pa_cons pe_int pa_nil)))) (pa_cons (pe_tup (pa_cons pe_int (pa_cons pe_int (pa_cons pe_int pa_nil)))) (pa_cons (pe_tup (pa_cons (pe_op op_sub (pe_un un_neg pe_int) (pv 1)) (pa_cons pe_int (pa_cons pe_int pa_nil)))) pa_nil))))))))))))
 (pss_cons (ps_set (i := 3) sc__law_small_asked.nd rfl (.inl rfl) (pe_op op_cat (pv 3) (pe_lst (pa_cons (pe_tup (pa_cons pe_int (pa_cons (pe_op op_add pe_int (pv 1)) (pa_cons pe_int pa_nil)))) (pa_cons (pe_tup (pa_cons pe_bl (pa_cons pe_int (pa_cons pe_int pa_nil)))) (pa_cons (pe_tup (pa_cons pe_int (pa_cons pe_int (pa_cons (pe_op op_add pe_int (pv 1)) pa_nil)))) pa_nil))))))
 (pss_cons (ps_ret (pe_callF (pe_ix (kx_list (K := K) rfl) (pe_lst (pa_cons (pe_glob (v := .ref _) (by rfl) g_turn rfl) (pa_cons (pe_glob (v := .ref _) (by rfl) g_walk_out rfl) pa_nil))) (pe_op op_mod (pe_op op_fdiv (pv 0) pe_int) pe_int) (fun _ _ => rfl)) cf2 (takes_of rfl rfl rfl rfl) (hr.mono (by decide)) (pa_cons (pv 2) (pa_cons (pe_ix (kx_list (K := K) rfl) (pv 3) (pe_op op_mod (pv 0) pe_int) (fun _ _ => rfl)) pa_nil))))
 pss_nil)))), ?_⟩
    refine y_asg (fun v H1 => Tri K H1 v 4 (mkC x4)) (ex_triL (K := K) x4 4 _ Tx4 (by decide) (by decide) Lx4 (eai_cons ei_str (eai_cons ei_str (eai_cons ei_str (eai_cons ei_str eai_nil))))) ?_
    intro t H1 e1 hT
    refine y_asg (LmS (BadS K 4) 10) (ex_lstS mBadS (eas_cons mBadS (EvX.imp evv_c fun v _ r => .inl r) (eas_cons mBadS (EvX.imp evv_c fun v _ r => .inr (.inl ⟨5, r⟩)) (eas_cons mBadS (bs_tup (ei_tup (eai_cons ei_int (eai_cons ei_int eai_nil)) (Nat.le_of_ble_eq_true rfl)) (by decide)) (eas_cons mBadS (bs_tup (ei_tup (eai_cons ei_int (eai_cons ei_int (eai_cons ei_int (eai_cons ei_int eai_nil)))) (Nat.le_of_ble_eq_true rfl)) (by decide)) (eas_cons mBadS (EvX.imp (EvN.m (en_lst (K := K) (eai_cons ei_int (eai_cons ei_int (eai_cons ei_int eai_nil))) (Nat.le_of_ble_eq_true rfl))) fun v H1 ⟨a, xs, h1, h2, _⟩ => .inr (.inr (.inl ⟨a, xs, h1, h2⟩))) (eas_cons mBadS (bs_tri (K := K) (ei_tup (eai_cons ei_int (eai_cons ei_int (eai_cons ei_int eai_nil))) (Nat.le_of_ble_eq_true rfl)) (by decide)) (eas_cons mBadS (bs_tri (K := K) (ei_tup (eai_cons ei_int (eai_cons ei_int (eai_cons ei_int eai_nil))) (Nat.le_of_ble_eq_true rfl)) (by decide)) (eas_cons mBadS (bs_tri (K := K) (ei_tup (eai_cons ei_int (eai_cons ei_int (eai_cons ei_int eai_nil))) (Nat.le_of_ble_eq_true rfl)) (by decide)) (eas_cons mBadS (bs_tri (K := K) (ei_tup (eai_cons ei_int (eai_cons ei_int (eai_cons ei_int eai_nil))) (Nat.le_of_ble_eq_true rfl)) (by decide)) (eas_cons mBadS (bs_tri (K := K) (ei_tup (eai_cons (ei_I0i (ei_neg ei_int) (ei_var rfl (.int _))) (eai_cons ei_int (eai_cons ei_int eai_nil))) (Nat.le_of_ble_eq_true rfl)) (bs_r (by omega))) eas_nil)))))))))) (Nat.le_of_ble_eq_true rfl)) ?_
    intro v2 H2 e2 h2
    refine y_asg (LmS (BadS K 4) 13) (ex_catS mBadS (ex_var rfl fun H3 e3 => mLmS mBadS _ _ _ e3 h2) (ex_lstS mBadS (eas_cons mBadS (bs_tri (K := K) (ei_tup (eai_cons ei_int (eai_cons (ei_I0i ei_int (ei_var rfl (.int _))) (eai_cons ei_int eai_nil))) (Nat.le_of_ble_eq_true rfl)) (bs_p (by omega) rfl)) (eas_cons mBadS (bs_tup (ei_tup (eai_cons ei_bl (eai_cons ei_int (eai_cons ei_int eai_nil))) (Nat.le_of_ble_eq_true rfl)) (by decide)) (eas_cons mBadS (bs_tri (K := K) (ei_tup (eai_cons ei_int (eai_cons ei_int (eai_cons (ei_I0i ei_int (ei_var rfl (.int _))) eai_nil))) (Nat.le_of_ble_eq_true rfl)) (bs_u (by omega))) eas_nil))) (Nat.le_of_ble_eq_true rfl)) (Nat.le_of_ble_eq_true rfl)) ?_
    intro v3 H3 e3 h3
    have e03 := e1.trans (e2.trans e3)
    obtain ⟨i, hi, i13⟩ : ∃ i : Nat, a % 13 = (i : Int) ∧ i < 13 := ⟨(a % 13).toNat, by omega, by omega⟩
    obtain ⟨j, hj, j2⟩ : ∃ j : Nat, a / 13 % 2 = (j : Int) ∧ j < 2 := ⟨(a / 13 % 2).toNat, by omega, by omega⟩
    refine y_retZ (ez_callF (C := C) (P := fun vs H2 => ∃ x y, vs = [x, y] ∧ Tri K H2 x 4 (mkC x4) ∧ BadS K 4 y H2) (EvX.imp (ex_ixS (S := fun v _ => ∃ f, v = .ref f ∧ (f = f1 ∨ f = f2)) (i := j) (n := 2) (fun _ _ _ _ h => h) (ex_lstS (fun _ _ _ _ h => h) (eas_cons (fun _ _ _ _ h => h) (EvX.imp evv_c fun v _ r => ⟨f1, r, .inl rfl⟩) (eas_cons (fun _ _ _ _ h => h) (EvX.imp evv_c fun v _ r => ⟨f2, r, .inr rfl⟩) eas_nil)) (Nat.le_of_ble_eq_true rfl)) (EvI.to (ei_Ii (ei_Ii (ei_var (K := K) rfl (.int _)) ei_int ⟨by decide, by decide⟩) ei_int (by decide)) (congrArg PyData.int hj)) j2) fun v _ r => r)
      (eax2 (R1 := fun v H1 => Tri K H1 v 4 (mkC x4)) (ex_var rfl fun H4 e4 => hT.mono (e2.trans (e3.trans e4))) mTri (ex_ixS mBadS (ex_var rfl fun H4 e4 => mLmS mBadS _ _ _ e4 h3) (EvI.to (ei_Ii (ei_var (K := K) rfl (.int _)) ei_int (by decide)) (congrArg PyData.int hi)) i13)) ?_ fun H7 e7 => q H7 (e03.trans e7))
    rintro vs H7 e7 ⟨x, y, rfl, g1, g2⟩
    exact ⟨x, y, 4, mkC x4, rfl, g1, g2, rfl⟩
/-! ### the others -/
def othC (CT CS CD CP : Addr) (k a : Int) : Addr := if k = 2 then CS else if k = 3 then CD else if k = 4 then CP else if a / 7 % 2 = 0 then CP else CT
def preLO (CT CS CD CP : Addr) : List V → Hp → Addr → Prop := fun vs _ C => ∃ k a b : Int, vs = [.int k, .int a, .int b] ∧ 2 ≤ k ∧ k ≤ 5 ∧ 0 ≤ a ∧ 0 ≤ b ∧ C = othC CT CS CD CP k a
theorem dorA : doors 3 (mkC xA) = [1] := by decide +kernel
theorem ix_mem {ds : List PyData} {i n : Nat} (hl : ds.length = n) (h : i < n) : ∃ d, d ∈ ds ∧ atI ds (i : Int) = some d := ⟨ds[i]'(by omega), List.getElem_mem _, atI_nat (List.getElem?_eq_getElem (by omega))⟩
abbrev s__law_others_asked : Stmt := top 44
theorem sc__law_others_asked : FnScope ["_law_kind", "_law_which", "_law_more", "_law_bad", "_law_row", "_law_place"] ["_law_kind", "_law_which", "_law_more"] (defScope s__law_others_asked) := ⟨rfl, rfl, rfl, by decide +kernel, rfl, by decide +kernel, by decide +kernel⟩
theorem ok_law_others_asked_xa (D : Def K mg "_law_others_asked" s__law_others_asked) (cx_walk_out_c : Callee P w K mg base (L2.CX P w) 4 "walk_out" ["triangle", "small"] (spRef (preNotFull K CS))) (cx_walk_b : Callee P w K mg base (L2.CX P w) 3 "walk" ["triangle", "door"] (spRef (preBadD K CD)))
    (cx_put_a : Callee P w K mg base (L2.CX P w) 2 "put" ["triangle", "row", "place", "letter"] (spRef (preBadT4 CT))) (cx_put_b : Callee P w K mg base (L2.CX P w) 3 "put" ["triangle", "row", "place", "letter"] (spRef (preBadPut K CP))) (cx_put_c : Callee P w K mg base (L2.CX P w) 3 "put" ["triangle", "row", "place", "letter"] (spRef (preBadL K CP))) :
    Callee P w K mg base (L2.CX P w) 5 "_law_others_asked" ["_law_kind", "_law_which", "_law_more"] (spRef (preLO CT CS CD CP)) := by
  refine D.okX sc__law_others_asked (fun _ _ _ _ _ _ us hl => match us, hl with | [_, _, _], _ => rfl) (fun vs H Q E h => ?_) (fun f cdv A outer s H vs Q E hr h => ?_)
  · obtain ⟨C, ⟨k, a, b, rfl, _⟩, _⟩ := h; rfl
  · obtain ⟨C, ⟨k, a, b, rfl, k2, k5, ha, hb, rfl⟩, q⟩ := h
    refine ⟨_, (pss_cons (ps_if (pt_cmpR op_eq (pv 0) pe_int (nomark _))
  (pss_cons (ps_if (pt_cmpR op_lt (pe_op op_mod (pv 1) pe_int) pe_int (nomark _))
  (pss_cons (ps_ret (pe_callSC cx_walk_out_c (takes_of rfl rfl rfl rfl) (hr.mono (by decide)) (by rfl) (pa_cons (pe_lst (pa_cons pe_str (pa_cons pe_str (pa_cons pe_str pa_nil)))) (pa_cons (pe_tup (pa_cons pe_int (pa_cons pe_int (pa_cons (pe_op op_sub pe_int (pe_op op_mod (pv 1) pe_int)) pa_nil)))) pa_nil))))
 pss_nil)
  pss_nil)
 (pss_cons (ps_ret (pe_callSC cx_walk_out_c (takes_of rfl rfl rfl rfl) (hr.mono (by decide)) (by rfl) (pa_cons (pe_lst (pa_cons pe_str (pa_cons pe_str pa_nil))) (pa_cons (pe_tup (pa_cons pe_int (pa_cons pe_int (pa_cons pe_int pa_nil)))) pa_nil))))
 pss_nil))
  pss_nil)
 (pss_cons (ps_if (pt_cmpR op_eq (pv 0) pe_int (nomark _))
  (pss_cons (ps_ret (pe_callSC cx_walk_b (takes_of rfl rfl rfl rfl) (hr.mono (by decide)) (by rfl) (pa_cons (pe_lst (pa_cons pe_str (pa_cons pe_str (pa_cons pe_str pa_nil)))) (pa_cons (pe_ix (kx_list (K := K) rfl) (pe_lst (pa_cons pe_non (pa_cons pe_str (pa_cons pe_bl (pa_cons (pe_tup (pa_cons pe_int pa_nil)) (pa_cons (pe_op op_sub (pe_un un_neg pe_int) (pv 2)) (pa_cons (pe_op op_add pe_int (pv 2)) (pa_cons pe_int (pa_cons pe_int pa_nil))))))))) (pe_op op_mod (pv 1) pe_int) (fun _ _ => rfl)) pa_nil))))
 pss_nil)
  pss_nil)
 (pss_cons (ps_if (pt_cmpR op_eq (pv 0) pe_int (nomark _))
  (pss_cons (ps_set (i := 3) sc__law_others_asked.nd rfl (.inl rfl) (pe_lst (pa_cons (pe_tup (pa_cons pe_non (pa_cons pe_int pa_nil))) (pa_cons (pe_tup (pa_cons pe_int (pa_cons pe_non pa_nil))) (pa_cons (pe_tup (pa_cons pe_int (pa_cons pe_int pa_nil))) (pa_cons (pe_tup (pa_cons pe_int (pa_cons pe_int pa_nil))) (pa_cons (pe_tup (pa_cons pe_int (pa_cons pe_int pa_nil))) (pa_cons (pe_tup (pa_cons (pe_op op_sub (pe_un un_neg pe_int) (pv 2)) (pa_cons pe_int pa_nil))) (pa_cons (pe_tup (pa_cons pe_int (pa_cons (pe_op op_sub (pe_un un_neg pe_int) (pv 2)) pa_nil))) (pa_cons (pe_tup (pa_cons pe_bl (pa_cons pe_int pa_nil))) pa_nil))))))))))
 (pss_cons (ps_asg (pe_ix (kx_list (K := K) rfl) (pv 3) (pe_op op_mod (pv 1) pe_int) (fun _ _ => rfl)) (kg_tup (K := K) (n := 2) rfl rfl (pgs_cons (pg_name (i := 4) sc__law_others_asked.nd rfl (.inl rfl)) (pgs_cons (pg_name (i := 5) sc__law_others_asked.nd rfl (.inl rfl)) pgs_nil))))
 (pss_cons (ps_ret (pe_callSC cx_put_b (takes_of rfl rfl rfl rfl) (hr.mono (by decide)) (by rfl) (pa_cons (pe_lst (pa_cons pe_str (pa_cons pe_str (pa_cons pe_str pa_nil)))) (pa_cons (pv 4) (pa_cons (pv 5) (pa_cons (pe_ifExp (pt_cmpR op_eq (pe_op op_mod (pe_op op_fdiv (pv 1) pe_int) pe_int) pe_int (nomark _)) pe_str pe_non) pa_nil))))))
 pss_nil)))
  pss_nil)
 (pss_cons (ps_set (i := 3) sc__law_others_asked.nd rfl (.inl rfl) (pe_ix (kx_list (K := K) rfl) (pe_lst (pa_cons pe_non (pa_cons pe_str (pa_cons pe_str (pa_cons pe_str (pa_cons pe_str (pa_cons pe_int (pa_cons (pe_lst (pa_cons pe_str pa_nil)) pa_nil)))))))) (pe_op op_mod (pv 1) pe_int) (fun _ _ => rfl)))
 (pss_cons (ps_ret (pe_ifExp (pt_cmpR op_eq (pe_op op_mod (pe_op op_fdiv (pv 1) pe_int) pe_int) pe_int (nomark _)) (pe_callSC cx_put_c (takes_of rfl rfl rfl rfl) (hr.mono (by decide)) (by rfl) (pa_cons (pe_lst (pa_cons pe_str (pa_cons pe_str (pa_cons pe_str pa_nil)))) (pa_cons pe_int (pa_cons pe_int (pa_cons (pv 3) pa_nil))))) (pe_callSC cx_put_a (takes_of rfl rfl rfl rfl) (hr.mono (by decide)) (by rfl) (pa_cons (pe_lst (pa_cons (pe_lst (pa_cons pe_str pa_nil)) (pa_cons pe_str pa_nil))) (pa_cons pe_int (pa_cons pe_int (pa_cons (pv 3) pa_nil)))))))
 pss_nil))))), ?_⟩
    refine y_when (decide (k = 2)) (et_of K (ei_eqI (ei_var rfl (.int _)) ei_int)) ?_ ?_
    · intro hk H1 e1
      have hk := of_decide_eq_true hk
      subst hk
      have hC : othC CT CS CD CP 2 a = CS := rfl
      rw [hC] at q
      refine y_when (decide (a % 4 < 2)) (et_of K (ei_I0b (ei_Ii (ei_var rfl (.int _)) ei_int (by decide)) ei_int)) ?_ ?_
      · intro _ H2 e2
        obtain ⟨u, hu, hu2⟩ : ∃ u : Nat, 1 - a % 2 = (u : Int) ∧ (u = 0 ∨ u = 1) := ⟨(1 - a % 2).toNat, by omega, by omega⟩
        refine y_retZ (ez_call (C := CS) (eax2 (ex_triL (K := K) xA 3 _ TxA (by decide) (by decide) LxA (eai_cons ei_str (eai_cons ei_str (eai_cons ei_str eai_nil)))) mTri (R2 := fun v H1 => Im K H1 v (smD (0, 0, u))) (EvI.to (ei_tup (eai_cons ei_int (eai_cons ei_int (eai_cons (ei_I0i ei_int (ei_Ii (ei_var rfl (.int _)) ei_int (by decide))) eai_nil))) (Nat.le_of_ble_eq_true rfl)) (by show PyData.tuple [.int 0, .int 0, .int (1 - a % 2)] = _; rw [hu]; rfl))) ?_ fun H7 e7 => q H7 (e1.trans (e2.trans e7)))
        rintro vs H7 e7 ⟨x, y, rfl, g1, g2⟩
        refine ⟨x, y, 3, mkC xA, (0, 0, u), rfl, g1, g2, ?_, ?_, rfl⟩
        · rcases hu2 with rfl | rfl <;> decide
        · rcases hu2 with rfl | rfl <;> decide +kernel
      · intro _ H2 e2
        refine y_retZ (ez_call (C := CS) (eax2 (ex_triL (K := K) xB 2 _ TxB (by decide) (by decide) LxB (eai_cons ei_str (eai_cons ei_str eai_nil))) mTri (R2 := fun v H1 => Im K H1 v (smD (0, 0, 1))) (ei_tup (eai_cons ei_int (eai_cons ei_int (eai_cons ei_int eai_nil))) (Nat.le_of_ble_eq_true rfl))) ?_ fun H7 e7 => q H7 (e1.trans (e2.trans e7)))
        rintro vs H7 e7 ⟨x, y, rfl, g1, g2⟩
        exact ⟨x, y, 2, mkC xB, (0, 0, 1), rfl, g1, g2, by decide, by decide +kernel, rfl⟩
    intro hk H1 e1
    have n2 := of_decide_eq_false hk
    refine y_when (decide (k = 3)) (et_of K (ei_eqI (ei_var rfl (.int _)) ei_int)) ?_ ?_
    · intro hk H2 e2
      have hk := of_decide_eq_true hk
      subst hk
      have hC : othC CT CS CD CP 3 a = CD := rfl
      rw [hC] at q
      obtain ⟨i, hi, i8⟩ : ∃ i : Nat, a % 8 = (i : Int) ∧ i < 8 := ⟨(a % 8).toNat, by omega, by omega⟩
      obtain ⟨d, hd, hat⟩ := ix_mem (ds := [.none, .str "1", .bool true, .tuple [.int 1], .int (-1 - b), .int (6 + b), .int 0, .int 5]) rfl i8
      have hbad : BadDr 3 (mkC xA) d := by
        simp only [List.mem_cons, List.not_mem_nil, or_false] at hd
        rcases hd with rfl | rfl | rfl | rfl | rfl | rfl | rfl | rfl
        · exact .inl rfl
        · exact .inl rfl
        · exact .inl rfl
        · exact .inl rfl
        · exact .inr ⟨_, rfl, fun j hj => by rw [dorA, List.mem_singleton] at hj; omega⟩
        · exact .inr ⟨_, rfl, fun j hj => by rw [dorA, List.mem_singleton] at hj; omega⟩
        · exact .inr ⟨_, rfl, fun j hj => by rw [dorA, List.mem_singleton] at hj; omega⟩
        · exact .inr ⟨_, rfl, fun j hj => by rw [dorA, List.mem_singleton] at hj; omega⟩
      refine y_retZ (ez_call (C := CD) (eax2 (ex_triL (K := K) xA 3 _ TxA (by decide) (by decide) LxA (eai_cons ei_str (eai_cons ei_str (eai_cons ei_str eai_nil)))) mTri (R2 := fun v H1 => Im K H1 v d) (ei_ixK (EvN.k (en_lst (eai_cons ei_non (eai_cons ei_str (eai_cons ei_bl (eai_cons (ei_tup (eai_cons ei_int eai_nil) (Nat.le_of_ble_eq_true rfl)) (eai_cons (ei_I0i (ei_neg ei_int) (ei_var rfl (.int _))) (eai_cons (ei_I0i ei_int (ei_var rfl (.int _))) (eai_cons ei_int (eai_cons ei_int eai_nil)))))))) (Nat.le_of_ble_eq_true rfl))) (EvI.to (ei_Ii (ei_var rfl (.int _)) ei_int (by decide)) (congrArg PyData.int hi)) hat)) ?_ fun H7 e7 => q H7 (e1.trans (e2.trans e7)))
      rintro vs H7 e7 ⟨x, y, rfl, g1, g2⟩
      exact ⟨x, y, 3, mkC xA, d, rfl, g1, g2, hbad, rfl⟩
    intro hk H2 e2
    have n3 := of_decide_eq_false hk
    have e12 := e1.trans e2
    refine y_when (decide (k = 4)) (et_of K (ei_eqI (ei_var rfl (.int _)) ei_int)) ?_ ?_
    · intro hk H3 e3
      have hk := of_decide_eq_true hk
      subst hk
      have hC : othC CT CS CD CP 4 a = CP := rfl
      rw [hC] at q
      obtain ⟨i, hi, i8⟩ : ∃ i : Nat, a % 8 = (i : Int) ∧ i < 8 := ⟨(a % 8).toNat, by omega, by omega⟩
      obtain ⟨d, hd, hat⟩ := ix_mem (ds := [.tuple [.none, .int 0], .tuple [.int 0, .none], .tuple [.int 0, .int 3], .tuple [.int 3, .int 0], .tuple [.int 2, .int 1], .tuple [.int (-1 - b), .int 0], .tuple [.int 0, .int (-1 - b)], .tuple [.bool true, .int 0]]) rfl i8
      obtain ⟨d1, d2, rfl, hbad⟩ : ∃ d1 d2, d = .tuple [d1, d2] ∧ BadSp 3 d1 d2 := by
        simp only [List.mem_cons, List.not_mem_nil, or_false] at hd
        rcases hd with rfl | rfl | rfl | rfl | rfl | rfl | rfl | rfl
        · exact ⟨_, _, rfl, .inl rfl⟩
        · exact ⟨_, _, rfl, .inr (.inl rfl)⟩
        · exact ⟨_, _, rfl, .inr (.inr ⟨_, _, rfl, rfl, by decide⟩)⟩
        · exact ⟨_, _, rfl, .inr (.inr ⟨_, _, rfl, rfl, by decide⟩)⟩
        · exact ⟨_, _, rfl, .inr (.inr ⟨_, _, rfl, rfl, by decide⟩)⟩
        · refine ⟨_, _, rfl, .inr (.inr ⟨_, _, rfl, rfl, ?_⟩)⟩
          unfold isSpB
          rw [decide_eq_false (show ¬ (0 : Int) ≤ -1 - b by omega)]; rfl
        · refine ⟨_, _, rfl, .inr (.inr ⟨_, _, rfl, rfl, ?_⟩)⟩
          unfold isSpB
          rw [decide_eq_false (show ¬ (0 : Int) ≤ -1 - b by omega)]; rfl
        · exact ⟨_, _, rfl, .inl rfl⟩
      refine y_asg (fun v H1 => Ls K H1 v [.tuple [.none, .int 0], .tuple [.int 0, .none], .tuple [.int 0, .int 3], .tuple [.int 3, .int 0], .tuple [.int 2, .int 1], .tuple [.int (-1 - b), .int 0], .tuple [.int 0, .int (-1 - b)], .tuple [.bool true, .int 0]]) (EvN.k (en_lst (eai_cons (ei_tup (eai_cons ei_non (eai_cons ei_int eai_nil)) (Nat.le_of_ble_eq_true rfl)) (eai_cons (ei_tup (eai_cons ei_int (eai_cons ei_non eai_nil)) (Nat.le_of_ble_eq_true rfl)) (eai_cons (ei_tup (eai_cons ei_int (eai_cons ei_int eai_nil)) (Nat.le_of_ble_eq_true rfl)) (eai_cons (ei_tup (eai_cons ei_int (eai_cons ei_int eai_nil)) (Nat.le_of_ble_eq_true rfl)) (eai_cons (ei_tup (eai_cons ei_int (eai_cons ei_int eai_nil)) (Nat.le_of_ble_eq_true rfl)) (eai_cons (ei_tup (eai_cons (ei_I0i (ei_neg ei_int) (ei_var rfl (.int _))) (eai_cons ei_int eai_nil)) (Nat.le_of_ble_eq_true rfl)) (eai_cons (ei_tup (eai_cons ei_int (eai_cons (ei_I0i (ei_neg ei_int) (ei_var rfl (.int _))) eai_nil)) (Nat.le_of_ble_eq_true rfl)) (eai_cons (ei_tup (eai_cons ei_bl (eai_cons ei_int eai_nil)) (Nat.le_of_ble_eq_true rfl)) eai_nil)))))))) (Nat.le_of_ble_eq_true rfl))) ?_
      intro bv H4 e4 hB
      refine y_tup (R := fun v H1 => Im K H1 v (.tuple [d1, d2])) (ei_ixK (ek_var rfl hB) (EvI.to (ei_Ii (ei_var rfl (.int _)) ei_int (by decide)) (congrArg PyData.int hi)) hat) ?_
      intro pv H5 e5 hpv
      refine g_tup2 hpv ?_
      intro y1 y2 hy1 hy2
      have e35 := e3.trans (e4.trans e5)
      refine y_retZ (ez_call (C := CP) (eax4 (ex_triL (K := K) xA 3 _ TxA (by decide) (by decide) LxA (eai_cons ei_str (eai_cons ei_str (eai_cons ei_str eai_nil)))) mTri (R2 := fun v H1 => Im K H1 v d1) (ei_var rfl hy1) mI (R3 := fun v H1 => Im K H1 v d2) (ei_var rfl hy2) mI (R4 := fun _ _ => True) (ex_if (b := decide (a / 8 % 2 = 0)) (et_of K (ei_eqI (ei_Ii (ei_Ii (ei_var rfl (.int _)) ei_int ⟨by decide, by decide⟩) ei_int (by decide)) ei_int)) (fun _ => EvX.imp evv_c fun _ _ _ => trivial) (fun _ => EvX.imp evv_c fun _ _ _ => trivial))) ?_ fun H7 e7 => q H7 (e12.trans (e35.trans e7)))
      rintro vs H7 e7 ⟨x, y, z, l, rfl, g1, g2, g3, _⟩
      exact ⟨x, y, z, l, 3, mkC xA, d1, d2, rfl, g1, g2, g3, hbad, rfl⟩
    intro hk H3 e3
    have n4 := of_decide_eq_false hk
    have hk5 : k = 5 := by omega
    subst hk5
    have e13 := e12.trans e3
    obtain ⟨i, hi, i7⟩ : ∃ i : Nat, a % 7 = (i : Int) ∧ i < 7 := ⟨(a % 7).toNat, by omega, by omega⟩
    refine y_asg BadL (ex_ixS mBadL (ex_lstS mBadL (eas_cons mBadL (EvX.imp evv_c fun v _ r => .inl r) (eas_cons mBadL (EvX.imp evv_c fun v _ r => .inr (.inr (.inr (.inl ⟨_, r, by decide +kernel, by decide +kernel⟩)))) (eas_cons mBadL (EvX.imp evv_c fun v _ r => .inr (.inr (.inr (.inl ⟨_, r, by decide +kernel, by decide +kernel⟩)))) (eas_cons mBadL (EvX.imp evv_c fun v _ r => .inr (.inr (.inr (.inr ⟨100, r, by decide +kernel⟩)))) (eas_cons mBadL (EvX.imp evv_c fun v _ r => .inr (.inr (.inr (.inr ⟨65, r, by decide +kernel⟩)))) (eas_cons mBadL (EvX.imp evv_c fun v _ r => .inr (.inl ⟨_, r⟩)) (eas_cons mBadL (EvX.imp (EvN.m (en_lst (K := K) (eai_cons ei_str eai_nil) (Nat.le_of_ble_eq_true rfl))) fun v H1 ⟨a, xs, h1, h2, _⟩ => .inr (.inr (.inl ⟨a, xs, h1, h2⟩))) eas_nil))))))) (Nat.le_of_ble_eq_true rfl)) (EvI.to (ei_Ii (ei_var (K := K) rfl (.int _)) ei_int (by decide)) (congrArg PyData.int hi)) i7) ?_
    intro lv H4 e4 hL
    have e14 := e13.trans e4
    have vL : ∀ {σ : L2.St}, σ[3]? = some (some lv) → EvX (tVar 3) σ H4 BadL := fun h => ex_var h fun H1 e1 => mBadL _ _ _ e1 hL
    refine y_retZ (ez_if (b := decide (a / 7 % 2 = 0)) (et_of K (ei_eqI (ei_Ii (ei_Ii (ei_var rfl (.int _)) ei_int ⟨by decide, by decide⟩) ei_int (by decide)) ei_int)) (fun h7 => ?_) (fun h7 => ?_))
    · have hC : othC CT CS CD CP 5 a = CP := by
        unfold othC
        rw [if_neg (by decide), if_neg (by decide), if_neg (by decide), if_pos (of_decide_eq_true h7)]
      rw [hC] at q
      refine ez_call (C := CP) (eax4 (ex_triL (K := K) xA 3 _ TxA (by decide) (by decide) LxA (eai_cons ei_str (eai_cons ei_str (eai_cons ei_str eai_nil)))) mTri (R2 := fun v H1 => Im K H1 v (.int 0)) ei_int mI (R3 := fun v H1 => Im K H1 v (.int 0)) ei_int mI (vL rfl)) ?_ fun H7 e7 => q H7 (e14.trans e7)
      rintro vs H7 e7 ⟨x, y, z, l, rfl, g1, g2, g3, g4⟩
      cases g2; cases g3
      exact ⟨x, l, 3, mkC xA, 0, 0, rfl, g1, by decide, g4, rfl⟩
    · have hC : othC CT CS CD CP 5 a = CT := by
        unfold othC
        rw [if_neg (by decide), if_neg (by decide), if_neg (by decide), if_neg (of_decide_eq_false h7)]
      rw [hC] at q
      refine ez_call (C := CT) (eax4 (R1 := BadT) (bt_nest1 K) mBadT (R2 := fun v H1 => Im K H1 v (.int 9)) ei_int mI (R3 := fun v H1 => Im K H1 v (.int 9)) ei_int mI (vL rfl)) ?_ fun H7 e7 => q H7 (e14.trans e7)
      rintro vs H7 e7 ⟨x, y, z, l, rfl, g1, g2, g3, g4⟩
      exact ⟨x, y, z, l, rfl, g1, rfl⟩
end
end DWL
namespace DWL
open PySem PySem.Spec PyProof.Rows L2 Evl DW
section
variable {P : Program} {w : World} {K : PySem.W.Frag} {mg : Str → Option Value} {base : Heap} {CW CT CS CD CP : Addr}
local macro_rules | `(tactic| walk_at "v") => `(tactic| first | exact ei_int | exact ei_str | exact ei_bl | exact ei_non | exact ei_neg ei_int | exact ei_var rfl (Im.int _) | exact ei_var rfl (Im.str _) | exact ei_var rfl (Im.bl _) | exact ei_var rfl (by assumption) | exact et_len rfl (by assumption))
local macro_rules | `(tactic| walk_at "e") => `(tactic| first | walk_at "v" | (apply ei_I0i <;> walk_at "e") | (apply ei_I0b <;> walk_at "e") | (apply ei_chainI <;> walk_at "e") | (apply ei_eqI <;> walk_at "e") | (apply ei_eqS <;> walk_at "e") | (refine' ei_tup ?_ (Nat.le_of_ble_eq_true rfl) <;> walk_at "e") | (apply eai_cons <;> walk_at "e") | exact eai_nil)

def dueL (k a : Int) : List Bool := [decide (k = 0) || (decide (k = 5) && decide (a / 7 % 2 = 1)), [1, 2].any (fun y => y == k), decide (k = 3), decide (3 < k) && !(decide (k = 0) || (decide (k = 5) && decide (a / 7 % 2 = 1))), true]
def preTold (K : PySem.W.Frag) : List V → Hp → List PyData → Prop := fun vs _ ds => ∃ k a b : Int, vs = [.int k, .int a, .int b] ∧ 0 ≤ k ∧ k ≤ 5 ∧ 0 ≤ a ∧ 0 ≤ b ∧ ds = (dueL k a).map PyData.bool
theorem isa_me (K : PySem.W.Frag) (C : Addr) : IsA K C C true := by
  show (if (Value.ref C == Value.ref C) = true then some true else _) = some true
  rw [if_pos (by simp)]
abbrev s__law_told : Stmt := top 45
theorem sc__law_told : FnScope ["_law_kind", "_law_which", "_law_more", "error", "_law_found"] ["_law_kind", "_law_which", "_law_more"] (defScope s__law_told) := ⟨rfl, rfl, rfl, by decide +kernel, rfl, by decide +kernel, by decide +kernel⟩
theorem ok_law_told (D : Def K mg "_law_told" s__law_told) (cx__law_triangle_asked_a : Callee P w K mg base (L2.CX P w) 3 "_law_triangle_asked" ["_law_which", "_law_more"] (spRef (preLT CT))) (cx__law_small_asked_a : Callee P w K mg base (L2.CX P w) 4 "_law_small_asked" ["_law_which", "_law_more"] (spRef (preLS CS)))
    (cx__law_others_asked_a : Callee P w K mg base (L2.CX P w) 5 "_law_others_asked" ["_law_kind", "_law_which", "_law_more"] (spRef (preLO CT CS CD CP))) (g_WalkError : mg "WalkError" = some (.ref CW))
    (e_BadTriangle : ErrK K mg "BadTriangle" CT) (e_BadSmall : ErrK K mg "BadSmall" CS) (e_BadDoor : ErrK K mg "BadDoor" CD) (e_BadSpot : ErrK K mg "BadSpot" CP) (w_BadTriangle : ErrW K CT CW) (w_BadSmall : ErrW K CS CW) (w_BadDoor : ErrW K CD CW) (w_BadSpot : ErrW K CP CW)
    (i_BadTriangle_BadSmall : IsA K CT CS false) (i_BadTriangle_BadDoor : IsA K CT CD false) (i_BadTriangle_BadSpot : IsA K CT CP false) (i_BadSmall_BadTriangle : IsA K CS CT false) (i_BadSmall_BadDoor : IsA K CS CD false) (i_BadSmall_BadSpot : IsA K CS CP false) (i_BadDoor_BadTriangle : IsA K CD CT false) (i_BadDoor_BadSmall : IsA K CD CS false) (i_BadDoor_BadSpot : IsA K CD CP false) (i_BadSpot_BadTriangle : IsA K CP CT false) (i_BadSpot_BadSmall : IsA K CP CS false) (i_BadSpot_BadDoor : IsA K CP CD false)
    (m_isinstance : mg "isinstance" = none) (m_ValueError : mg "ValueError" = none) : Callee P w K mg base CX0 6 "_law_told" ["_law_kind", "_law_which", "_law_more"] (PrN K (preTold K)) := by
  have g_BadTriangle := e_BadTriangle.g
  have g_BadSmall := e_BadSmall.g
  have g_BadDoor := e_BadDoor.g
  have g_BadSpot := e_BadSpot.g
  refine D.ok sc__law_told (fun _ _ _ _ _ _ us hl => match us, hl with | [_, _, _], _ => rfl) (fun vs H Q E h => ?_) (fun f cdv A outer s H vs Q E hr h => ?_)
  · obtain ⟨ds, ⟨k, a, b, rfl, _⟩, _⟩ := h; rfl
  · obtain ⟨ds, ⟨k, a, b, rfl, k0, k5, ha, hb, rfl⟩, q⟩ := h
    obtain ⟨C, b1, b2, b3, b4, hW, hE, h1, h2, h3, h4, hdue, hC⟩ : ∃ C b1 b2 b3 b4, ErrW K C CW ∧ ExcC K C ∧ IsA K C CT b1 ∧ IsA K C CS b2 ∧ IsA K C CD b3 ∧ IsA K C CP b4 ∧ dueL k a = [b1, b2, b3, b4, true] ∧ ((k = 0 ∧ C = CT) ∨ (k = 1 ∧ C = CS) ∨ (2 ≤ k ∧ C = othC CT CS CD CP k a)) := by
      have hk : k = 0 ∨ k = 1 ∨ k = 2 ∨ k = 3 ∨ k = 4 ∨ k = 5 := by omega
      have onT : ErrW K CT CW ∧ ExcC K CT ∧ IsA K CT CT true ∧ IsA K CT CS false ∧ IsA K CT CD false ∧ IsA K CT CP false := ⟨w_BadTriangle, e_BadTriangle.ex, isa_me K CT, i_BadTriangle_BadSmall, i_BadTriangle_BadDoor, i_BadTriangle_BadSpot⟩
      have onS : ErrW K CS CW ∧ ExcC K CS ∧ IsA K CS CT false ∧ IsA K CS CS true ∧ IsA K CS CD false ∧ IsA K CS CP false := ⟨w_BadSmall, e_BadSmall.ex, i_BadSmall_BadTriangle, isa_me K CS, i_BadSmall_BadDoor, i_BadSmall_BadSpot⟩
      have onD : ErrW K CD CW ∧ ExcC K CD ∧ IsA K CD CT false ∧ IsA K CD CS false ∧ IsA K CD CD true ∧ IsA K CD CP false := ⟨w_BadDoor, e_BadDoor.ex, i_BadDoor_BadTriangle, i_BadDoor_BadSmall, isa_me K CD, i_BadDoor_BadSpot⟩
      have onP : ErrW K CP CW ∧ ExcC K CP ∧ IsA K CP CT false ∧ IsA K CP CS false ∧ IsA K CP CD false ∧ IsA K CP CP true := ⟨w_BadSpot, e_BadSpot.ex, i_BadSpot_BadTriangle, i_BadSpot_BadSmall, i_BadSpot_BadDoor, isa_me K CP⟩
      rcases hk with rfl | rfl | rfl | rfl | rfl | rfl
      · exact ⟨CT, true, false, false, false, onT.1, onT.2.1, onT.2.2.1, onT.2.2.2.1, onT.2.2.2.2.1, onT.2.2.2.2.2, rfl, .inl ⟨rfl, rfl⟩⟩
      · exact ⟨CS, false, true, false, false, onS.1, onS.2.1, onS.2.2.1, onS.2.2.2.1, onS.2.2.2.2.1, onS.2.2.2.2.2, rfl, .inr (.inl ⟨rfl, rfl⟩)⟩
      · exact ⟨CS, false, true, false, false, onS.1, onS.2.1, onS.2.2.1, onS.2.2.2.1, onS.2.2.2.2.1, onS.2.2.2.2.2, rfl, .inr (.inr ⟨by decide, rfl⟩)⟩
      · exact ⟨CD, false, false, true, false, onD.1, onD.2.1, onD.2.2.1, onD.2.2.2.1, onD.2.2.2.2.1, onD.2.2.2.2.2, rfl, .inr (.inr ⟨by decide, rfl⟩)⟩
      · exact ⟨CP, false, false, false, true, onP.1, onP.2.1, onP.2.2.1, onP.2.2.2.1, onP.2.2.2.2.1, onP.2.2.2.2.2, rfl, .inr (.inr ⟨by decide, rfl⟩)⟩
      · by_cases h7 : a / 7 % 2 = 1
        · refine ⟨CT, true, false, false, false, onT.1, onT.2.1, onT.2.2.1, onT.2.2.2.1, onT.2.2.2.2.1, onT.2.2.2.2.2, ?_, .inr (.inr ⟨by decide, ?_⟩)⟩
          · unfold dueL; rw [decide_eq_true h7]; rfl
          · unfold othC
            rw [if_neg (by decide), if_neg (by decide), if_neg (by decide), if_neg (by omega)]
        · refine ⟨CP, false, false, false, true, onP.1, onP.2.1, onP.2.2.1, onP.2.2.2.1, onP.2.2.2.2.1, onP.2.2.2.2.2, ?_, .inr (.inr ⟨by decide, ?_⟩)⟩
          · unfold dueL; rw [decide_eq_false h7]; rfl
          · unfold othC
            rw [if_neg (by decide), if_neg (by decide), if_neg (by decide), if_pos (by omega)]
    refine ⟨_, (pss_cons (ps_try_as (i := 3) rfl rfl sc__law_told.nd rfl rfl ⟨rfl, by decide, .inl g_WalkError⟩ takes0 (fun W pn xe tk _ => (pss_cons (ps_if (pt_cmpR op_eq (pv 0) pe_int (nomark _))
  (pss_cons (ps_expr (pe_callSC cx__law_triangle_asked_a tk (hr.mono (by decide)) (by rfl) (pa_cons (pv 1) (pa_cons (pv 2) pa_nil))))
 pss_never)
  (pss_cons (ps_if (pt_cmpR op_eq (pv 0) pe_int (nomark _))
  (pss_cons (ps_expr (pe_callSC cx__law_small_asked_a tk (hr.mono (by decide)) (by rfl) (pa_cons (pv 1) (pa_cons (pv 2) pa_nil))))
 pss_never)
  (pss_cons (ps_expr (pe_callSC cx__law_others_asked_a tk (hr.mono (by decide)) (by rfl) (pa_cons (pv 0) (pa_cons (pv 1) (pa_cons (pv 2) pa_nil)))))
 pss_never))
 pss_nil))
 pss_nil))
 (fun a oe cls d pn hz hf => (pss_cons (ps_set (i := 4) sc__law_told.nd rfl (.inl rfl) (pe_lst (pa_cons (pe_callB (call_isX (K := K) rfl hz hf) (by rfl) m_isinstance (by decide +kernel) (pa_cons (pv 3) (pa_cons (pe_glob (v := .ref _) (by rfl) g_BadTriangle rfl) pa_nil))) (pa_cons (pe_callB (call_isX (K := K) rfl hz hf) (by rfl) m_isinstance (by decide +kernel) (pa_cons (pv 3) (pa_cons (pe_glob (v := .ref _) (by rfl) g_BadSmall rfl) pa_nil))) (pa_cons (pe_callB (call_isX (K := K) rfl hz hf) (by rfl) m_isinstance (by decide +kernel) (pa_cons (pv 3) (pa_cons (pe_glob (v := .ref _) (by rfl) g_BadDoor rfl) pa_nil))) pa_nil)))))
 (pss_cons (ps_ret (pe_op op_cat (pv 4) (pe_lst (pa_cons (pe_callB (call_isX (K := K) rfl hz hf) (by rfl) m_isinstance (by decide +kernel) (pa_cons (pv 3) (pa_cons (pe_glob (v := .ref _) (by rfl) g_BadSpot rfl) pa_nil))) (pa_cons (pe_callB (call_isX (K := K) rfl hz hf) (by rfl) m_isinstance (by decide +kernel) (pa_cons (pv 3) (pa_cons (pe_bltn (v := .ty "ValueError") (by rfl) m_ValueError (by decide +kernel) rfl) pa_nil))) pa_nil)))))
 pss_nil))))
 (pss_cons (ps_ret (pe_lst pa_nil))
 pss_nil)), ?_⟩
    refine y_if (decide (k = 0)) (et_of K (ei_eqI (ei_var rfl (.int _)) ei_int)) ?_ ?_
    · intro hk H0 e0
      have hk := of_decide_eq_true hk
      refine y_dropZ (ez_call (C := C) (eax2 (evI_is (K := K) (ei_var rfl (.int a))) mIs (evI_is (K := K) (ei_var rfl (.int b)))) ?_ ?_)
      · rintro vs H1 e1 ⟨x, y, rfl, rfl, rfl⟩
        refine ⟨a, b, rfl, ha, hb, ?_⟩
        rcases hC with ⟨_, h⟩ | ⟨h, _⟩ | ⟨h, _⟩
        · exact h
        · omega
        · omega
      · intro H1 e01
        have e1 := e0.trans e01
        refine ⟨true, hW.m, fun _ ad had => ?_, fun h => nomatch h⟩
        refine y_asg (fun v H2 => Lm K H2 v ([b1, b2, b3].map PyData.bool)) (EvN.m (en_lst (eai_cons (ei_isX rfl hE h1) (eai_cons (ei_isX rfl hE h2) (eai_cons (ei_isX rfl hE h3) eai_nil))) (Nat.le_of_ble_eq_true rfl))) ?_
        intro v H2 e2 hv
        exact y_retN K ((dueL k a).map PyData.bool) (EvN.to (en_cat (em_var rfl hv) (EvN.m (en_lst (eai_cons (ei_isX rfl hE h4) (eai_cons (ei_isXv rfl hE hW.v) eai_nil)) (Nat.le_of_ble_eq_true rfl))) (Nat.le_of_ble_eq_true rfl)) (by rw [hdue]; rfl)) (fun p xs H3 hp e3 g1 g2 => q p xs H3 (fresh_back (e1.trans e2) hp) (e1.trans (e2.trans e3)) g1 g2)
    · intro hk H0 e0
      have hk := of_decide_eq_false hk
      refine y_if (decide (k = 1)) (et_of K (ei_eqI (ei_var rfl (.int _)) ei_int)) ?_ ?_
      · intro hk1 H0' e0'
        have hk1 := of_decide_eq_true hk1
        refine y_dropZ (ez_call (C := C) (eax2 (evI_is (K := K) (ei_var rfl (.int a))) mIs (evI_is (K := K) (ei_var rfl (.int b)))) ?_ ?_)
        · rintro vs H1 e1 ⟨x, y, rfl, rfl, rfl⟩
          refine ⟨a, b, rfl, ha, hb, ?_⟩
          rcases hC with ⟨h, _⟩ | ⟨_, h⟩ | ⟨h, _⟩
          · omega
          · exact h
          · omega
        · intro H1 e01
          have e1 := (e0.trans e0').trans e01
          refine ⟨true, hW.m, fun _ ad had => ?_, fun h => nomatch h⟩
          refine y_asg (fun v H2 => Lm K H2 v ([b1, b2, b3].map PyData.bool)) (EvN.m (en_lst (eai_cons (ei_isX rfl hE h1) (eai_cons (ei_isX rfl hE h2) (eai_cons (ei_isX rfl hE h3) eai_nil))) (Nat.le_of_ble_eq_true rfl))) ?_
          intro v H2 e2 hv
          exact y_retN K ((dueL k a).map PyData.bool) (EvN.to (en_cat (em_var rfl hv) (EvN.m (en_lst (eai_cons (ei_isX rfl hE h4) (eai_cons (ei_isXv rfl hE hW.v) eai_nil)) (Nat.le_of_ble_eq_true rfl))) (Nat.le_of_ble_eq_true rfl)) (by rw [hdue]; rfl)) (fun p xs H3 hp e3 g1 g2 => q p xs H3 (fresh_back (e1.trans e2) hp) (e1.trans (e2.trans e3)) g1 g2)
      · intro hk1 H0' e0'
        have hk1 := of_decide_eq_false hk1
        refine y_dropZ (ez_call (C := C) (eax3 (evI_is (K := K) (ei_var rfl (.int k))) mIs (evI_is (K := K) (ei_var rfl (.int a))) mIs (evI_is (K := K) (ei_var rfl (.int b)))) ?_ ?_)
        · rintro vs H1 e1 ⟨x, y, z, rfl, rfl, rfl, rfl⟩
          refine ⟨k, a, b, rfl, by omega, k5, ha, hb, ?_⟩
          rcases hC with ⟨h, _⟩ | ⟨h, _⟩ | ⟨_, h⟩
          · omega
          · omega
          · exact h
        · intro H1 e01
          have e1 := (e0.trans e0').trans e01
          refine ⟨true, hW.m, fun _ ad had => ?_, fun h => nomatch h⟩
          refine y_asg (fun v H2 => Lm K H2 v ([b1, b2, b3].map PyData.bool)) (EvN.m (en_lst (eai_cons (ei_isX rfl hE h1) (eai_cons (ei_isX rfl hE h2) (eai_cons (ei_isX rfl hE h3) eai_nil))) (Nat.le_of_ble_eq_true rfl))) ?_
          intro v H2 e2 hv
          exact y_retN K ((dueL k a).map PyData.bool) (EvN.to (en_cat (em_var rfl hv) (EvN.m (en_lst (eai_cons (ei_isX rfl hE h4) (eai_cons (ei_isXv rfl hE hW.v) eai_nil)) (Nat.le_of_ble_eq_true rfl))) (Nat.le_of_ble_eq_true rfl)) (by rw [hdue]; rfl)) (fun p xs H3 hp e3 g1 g2 => q p xs H3 (fresh_back (e1.trans e2) hp) (e1.trans (e2.trans e3)) g1 g2)
/-! ### the law -/
section
variable {σ : L2.St} {H : Hp} {ta tb tc td te : TE} {tA : TA} {n : Nat} {c : Nat → Nat → Nat}
theorem en_triN {f : Nat → (Nat → Nat → Nat) → List PyData} (h : EvX te σ H fun v H1 => Tri K H1 v n c) : EvN K (tCall (PrN K (preTriN K f)) [] E0 (tCons te tNil)) σ H (f n c) := by
  refine en_call (eax1 h) ?_
  rintro vs H2 e2 ⟨b, rfl, g⟩
  exact ⟨b, n, c, rfl, g, rfl⟩
theorem ei_turn {s : Sm} (h : EvX ta σ H fun v H1 => Tri K H1 v n c) (h2 : EvI K tb σ H (smD s)) (hs : IsSm n s) : EvI K (tCall (PrI K (preTurnOf K)) [] E0 (tCons ta (tCons tb tNil))) σ H (.int (tnS c s)) := by
  refine ei_call (eax2 h mTri h2) ?_
  rintro vs H1 e ⟨a, b, rfl, g1, g2⟩
  exact ⟨a, b, n, c, s, rfl, g1, g2, hs, rfl⟩
theorem en_put {r p x : Nat} (h1 : EvX ta σ H fun v H1 => Tri K H1 v n c) (h2 : EvI K tb σ H (.int (r : Int))) (h3 : EvI K tc σ H (.int (p : Int))) (h4 : EvI K td σ H (.str (st [x]))) (hrp : r + p < n) (hx : DW.ltr x) :
    EvN K (tCall (PrN K (prePut K)) [] E0 (tCons ta (tCons tb (tCons tc (tCons td tNil))))) σ H ((triD n (updC c r p x)).map PyData.str) := by
  refine en_call (eax4 h1 mTri h2 mI h3 mI h4) ?_
  rintro vs H1 e ⟨a, b, d, f, rfl, g1, g2, g3, g4⟩
  cases g2; cases g3; cases g4
  exact ⟨a, n, c, r, p, x, rfl, g1, hrp, hx, rfl⟩
end
theorem strA : PyData.str ("a" : Str) = .str (st [97]) := congrArg PyData.str (by decide +kernel)
theorem shp_due (l : List Bool) : Shp 1 (.list (l.map PyData.bool)) := Shp.list (k := 0) (shp_bools l)
abbrev s_law : Stmt := top 46
theorem sc_law : FnScope ["_law_script", "_law_cell", "_law_kind", "_law_which", "_law_first", "_law_due"] ["_law_script"] (defScope s_law) := ⟨rfl, rfl, rfl, by decide +kernel, rfl, by decide +kernel, by decide +kernel⟩
theorem ok_law {f0 : Addr} {fd0 : FuncData} (F : FunD K "law" "law" (defArgs s_law) (defBody s_law) (defScope s_law) [] [] f0 fd0) (c__law_told : Callee P w K mg base CX0 6 "_law_told" ["_law_kind", "_law_which", "_law_more"] (PrN K (preTold K))) (c_put : Callee P w K mg base CX0 3 "put" ["triangle", "row", "place", "letter"] (PrN K (prePut K))) (c_turn : Callee P w K mg base CX0 4 "turn" ["triangle", "small"] (PrI K (preTurnOf K)))
    (c_doors : Callee P w K mg base CX0 2 "doors" ["triangle"] (spDoors K)) : FnOk P w K mg base CX0 7 f0 fd0 ["_law_script"] (spLaw K) := by
  refine okF F sc_law (fun vs H Q E h => ?_) (fun f cdv A outer s H vs Q E hr h => ?_)
  · obtain ⟨v, ns, rfl, _⟩ := h; rfl
  · obtain ⟨scr, ns, rfl, hS, h63, q⟩ := h
    refine ⟨_, (pss_cons (ps_for PassesOwn.never rfl (ki_list (K := K) rfl (pv 0)) (pg_name (i := 1) sc_law.nd rfl (.inl rfl))
  (pss_cons (ps_set (i := 2) sc_law.nd rfl (.inl rfl) (pe_op op_mod (pv 1) pe_int))
 (pss_cons (ps_set (i := 3) sc_law.nd rfl (.inl rfl) (pe_op op_mod (pe_op op_fdiv (pv 1) pe_int) pe_int))
 (pss_cons (ps_set (i := 4) sc_law.nd rfl (.inl rfl) (pe_or (pe_cmpR op_eq (pv 2) pe_int (nomark _)) (pe_one (pe_and (pe_cmpR op_eq (pv 2) pe_int (nomark _)) (pe_one (pe_cmpR op_eq (pe_op op_mod (pe_op op_fdiv (pv 3) pe_int) pe_int) pe_int (nomark _)))))))
 (pss_cons (ps_set (i := 5) sc_law.nd rfl (.inl rfl) (pe_lst (pa_cons (pv 4) (pa_cons (pe_cmpR (ko_in (K := K) rfl) (pv 2) (pe_lst (pa_cons pe_int (pa_cons pe_int pa_nil))) rfl) (pa_cons (pe_cmpR op_eq (pv 2) pe_int (nomark _)) (pa_cons (pe_and (pe_cmpR op_gt (pv 2) pe_int (nomark _)) (pe_one (pe_not (pv 4)))) (pa_cons pe_bl pa_nil)))))))
 (pss_cons (ps_if (pt_cmpR (ko_neD (K := K) rfl (by exact hr.units)) (pe_callC c__law_told (hr.mono (by decide)) (by rfl) (pa_cons (pv 2) (pa_cons (pv 3) (pa_cons (pe_op op_mod (pe_op op_fdiv (pv 1) pe_int) pe_int) pa_nil)))) (pv 5) (nomark _))
  (pss_cons (ps_ret pe_bl)
 pss_nil)
  pss_nil)
 pss_nil))))))
 (pss_cons (ps_if (PW.pt (pw_or (pt_cmpR (ko_neD (K := K) rfl (by exact hr.units)) (pe_callC c_put (hr.mono (by decide)) (by rfl) (pa_cons (pe_lst (pa_cons pe_str (pa_cons pe_str pa_nil))) (pa_cons pe_int (pa_cons pe_int (pa_cons pe_str pa_nil))))) (pe_lst (pa_cons pe_str (pa_cons pe_str pa_nil))) (nomark _)) (pw_or1 (pt_cmpR op_ne (pe_callC c_turn (hr.mono (by decide)) (by rfl) (pa_cons (pe_lst (pa_cons pe_str (pa_cons pe_str pa_nil))) (pa_cons (pe_tup (pa_cons pe_int (pa_cons pe_int (pa_cons pe_int pa_nil)))) pa_nil))) pe_int (nomark _)))))
  (pss_cons (ps_ret pe_bl)
 pss_nil)
  pss_nil)
 (pss_cons (ps_ret (pe_cmpR (ko_eqD (K := K) rfl (by exact hr.units)) (pe_callC c_doors (hr.mono (by decide)) (by rfl) (pa_cons (pe_lst (pa_cons pe_str (pa_cons pe_str (pa_cons pe_str pa_nil)))) pa_nil)) (pe_lst (pa_cons pe_int pa_nil)) (nomark _)))
 pss_nil))), ?_⟩
    refine x_forK (L := ns) (enc := PyData.int) (ek_var rfl hS) ?_
    intro a xs H1 e1 ha hxs
    refine ⟨fun i σ' H' => Ex H1 H' ∧ ∃ y1 y2 y3 y4 y5, σ' = [some scr, y1, y2, y3, y4, y5], ⟨Ex.refl _, _, _, _, _, _, rfl⟩, fun i σ' H' _ ⟨e, _⟩ => ⟨ex_l e ha, hxs.mono e⟩, ?_, ?_⟩
    · rintro i z v σ' H2 hi ⟨e2, y1, y2, y3, y4, y5, rfl⟩ hv
      obtain rfl := hv.intE
      refine binds_name _ ?_
      obtain ⟨k, hk, k0, k5⟩ : ∃ k : Int, z % 6 = k ∧ 0 ≤ k ∧ k ≤ 5 := ⟨_, rfl, by omega, by omega⟩
      refine y_asgI K (.int k) (EvI.to (ei_Ii (ei_var rfl (.int _)) ei_int (by decide)) (congrArg PyData.int hk)) ?_
      intro v3 H3 e3 hv3
      obtain rfl := hv3.intE
      obtain ⟨w, hw, w0⟩ : ∃ w : Int, z / 6 % 100000 = w ∧ 0 ≤ w := ⟨_, rfl, by omega⟩
      refine y_asgI K (.int w) (EvI.to (ei_Ii (ei_Ii (ei_var rfl (.int _)) ei_int ⟨by decide, by decide⟩) ei_int (by decide)) (congrArg PyData.int hw)) ?_
      intro v4 H4 e4 hv4
      obtain rfl := hv4.intE
      refine y_asgI K (.bool (decide (k = 0) || (decide (k = 5) && decide (w / 7 % 2 = 1)))) (ei_orV (ei_eqI (ei_var rfl (.int _)) ei_int) fun _ => ei_andV (ei_eqI (ei_var rfl (.int _)) ei_int) fun _ => ei_eqI (ei_Ii (ei_Ii (ei_var rfl (.int _)) ei_int ⟨by decide, by decide⟩) ei_int (by decide)) ei_int) ?_
      intro v5 H5 e5 hv5
      obtain rfl := hv5.blE
      refine y_asg (fun v H6 => Ls K H6 v ((dueL k w).map PyData.bool)) (EvN.k (en_lst (ds := (dueL k w).map PyData.bool) (eai_cons (ei_var rfl (.bl _)) (eai_cons (ei_inIL (z := k) (ys := [1, 2]) (ei_var rfl (.int _)) (EvN.k (en_lst (eai_cons ei_int (eai_cons ei_int eai_nil)) (Nat.le_of_ble_eq_true rfl)))) (eai_cons (ei_eqI (ei_var rfl (.int _)) ei_int) (eai_cons (ei_andV (ei_I0b (f := fun i j => decide (j < i)) (ei_var rfl (.int _)) ei_int) fun _ => ei_notV (ei_var rfl (.bl _))) (eai_cons ei_bl eai_nil))))) (Nat.le_of_ble_eq_true rfl))) ?_
      intro dv H6 e6 hD
      refine y_no (et_of K (ei_neD0 (d := .list ((dueL k w).map PyData.bool)) (EvN.toD (en_call (eax3 (R1 := fun v H1 => Im K H1 v (.int k)) (R2 := fun v H1 => Im K H1 v (.int w)) (R3 := fun v H1 => Im K H1 v (.int (z / 600000 % 1000))) (ei_var rfl (.int _)) mI (ei_var rfl (.int _)) mI (ei_Ii (ei_Ii (ei_var rfl (.int _)) ei_int ⟨by decide, by decide⟩) ei_int (by decide))) ?_)) (ek_var rfl hD).toD (shp_due _).ok)) ?_
      · rintro vs H7 e7 ⟨x, y, u, rfl, g1, g2, g3⟩
        cases g1; cases g2; cases g3
        exact ⟨k, w, _, rfl, k0, k5, w0, by omega, rfl⟩
      intro H7 e7
      exact ⟨e2.trans (e3.trans (e4.trans (e5.trans (e6.trans e7)))), _, _, _, _, _, rfl⟩
    · rintro σ' H2 ⟨e2, y1, y2, y3, y4, y5, rfl⟩
      refine y_no (et_or0 (et_of K (ei_neD0 (d := .list ((triD 2 (updC (mkC x2) 1 0 97)).map PyData.str)) (EvN.toD (en_put (r := 1) (p := 0) (x := 97) (ex_triL (K := K) x2 2 _ Tx2 (by decide) (by decide) Lx2 (eai_cons ei_str (eai_cons ei_str eai_nil))) ei_int ei_int (EvI.to ei_str strA) (by decide) (.inl rfl))) (EvN.toD (EvN.to (en_lst (ds := (("ab" : Str) :: "a" :: []).map PyData.str) (eai_cons ei_str (eai_cons ei_str eai_nil)) (Nat.le_of_ble_eq_true rfl)) (congrArg (List.map PyData.str) (by decide +kernel)))) (shp_tri (updC_ltr Lx2 (.inl rfl))).ok))
        (et_neI0 (K := K) (i := 0) (EvI.to (ei_turn (s := (0, 0, 1)) (ex_triL (K := K) x3 2 _ Tx3 (by decide) (by decide) Lx3 (eai_cons ei_str (eai_cons ei_str eai_nil))) (ei_tup (eai_cons ei_int (eai_cons ei_int (eai_cons ei_int eai_nil))) (Nat.le_of_ble_eq_true rfl)) (by decide)) (congrArg PyData.int (by decide +kernel))) ei_int)) ?_
      intro H3 e3
      refine y_retI K (.bool true) (ei_eqD1 (d := .list ((doors 3 (mkC xA)).map fun k => .int (k : Nat))) (EvN.toD (en_triN (ex_triL (K := K) xA 3 _ TxA (by decide) (by decide) LxA (eai_cons ei_str (eai_cons ei_str (eai_cons ei_str eai_nil)))))) (EvN.toD (EvN.to (en_lst (ds := [.int 1]) (eai_cons ei_int eai_nil) (Nat.le_of_ble_eq_true rfl)) (by rw [dorA]; rfl))) (Shp.list (k := 0) (shp_nats _)).ok) (fun v H4 e4 r => by rw [r.blE]; exact q H4)
end
end DWL
namespace DWH
open PySem PySem.Spec PyProof.Rows L2 DWL
def d_is_number : He.DefD := ⟨("is_number", none), "is_number", "is_number", defArgs s_is_number, defBody s_is_number, defScope s_is_number, [], []⟩
def d_asked_triangle : He.DefD := ⟨("asked_triangle", none), "asked_triangle", "asked_triangle", defArgs s_asked_triangle, defBody s_asked_triangle, defScope s_asked_triangle, [], []⟩
def d_is_small : He.DefD := ⟨("is_small", none), "is_small", "is_small", defArgs s_is_small, defBody s_is_small, defScope s_is_small, [], []⟩
def d_asked_small : He.DefD := ⟨("asked_small", none), "asked_small", "asked_small", defArgs s_asked_small, defBody s_asked_small, defScope s_asked_small, [], []⟩
def d_asked_spot : He.DefD := ⟨("asked_spot", none), "asked_spot", "asked_spot", defArgs s_asked_spot, defBody s_asked_spot, defScope s_asked_spot, [], []⟩
def d_is_spot : He.DefD := ⟨("is_spot", none), "is_spot", "is_spot", defArgs s_is_spot, defBody s_is_spot, defScope s_is_spot, [], []⟩
def d_corners : He.DefD := ⟨("corners", none), "corners", "corners", defArgs s_corners, defBody s_corners, defScope s_corners, [], []⟩
def d_letters_of : He.DefD := ⟨("letters_of", none), "letters_of", "letters_of", defArgs s_letters_of, defBody s_letters_of, defScope s_letters_of, [], []⟩
def d_turn_of : He.DefD := ⟨("turn_of", none), "turn_of", "turn_of", defArgs s_turn_of, defBody s_turn_of, defScope s_turn_of, [], []⟩
def d_smalls : He.DefD := ⟨("smalls", none), "smalls", "smalls", defArgs s_smalls, defBody s_smalls, defScope s_smalls, [], []⟩
def d_side : He.DefD := ⟨("side", none), "side", "side", defArgs s_side, defBody s_side, defScope s_side, [], []⟩
def d_step_of : He.DefD := ⟨("step_of", none), "step_of", "step_of", defArgs s_step_of, defBody s_step_of, defScope s_step_of, [], []⟩
def d_fulls : He.DefD := ⟨("fulls", none), "fulls", "fulls", defArgs s_fulls, defBody s_fulls, defScope s_fulls, [], []⟩
def d_turn : He.DefD := ⟨("turn", none), "turn", "turn", defArgs s_turn, defBody s_turn, defScope s_turn, [], []⟩
def d_around : He.DefD := ⟨("around", none), "around", "around", defArgs s_around, defBody s_around, defScope s_around, [], []⟩
def d_doors : He.DefD := ⟨("doors", none), "doors", "doors", defArgs s_doors, defBody s_doors, defScope s_doors, [], []⟩
def d_put : He.DefD := ⟨("put", none), "put", "put", defArgs s_put, defBody s_put, defScope s_put, [], []⟩
def d_walk : He.DefD := ⟨("walk", none), "walk", "walk", defArgs s_walk, defBody s_walk, defScope s_walk, [], []⟩
def d_walk_out : He.DefD := ⟨("walk_out", none), "walk_out", "walk_out", defArgs s_walk_out, defBody s_walk_out, defScope s_walk_out, [], []⟩
def d_told : He.DefD := ⟨("told", none), "told", "told", defArgs s_told, defBody s_told, defScope s_told, [], []⟩
def d__law_triangle_asked : He.DefD := ⟨("_law_triangle_asked", none), "_law_triangle_asked", "_law_triangle_asked", defArgs s__law_triangle_asked, defBody s__law_triangle_asked, defScope s__law_triangle_asked, [], []⟩
def d__law_small_asked : He.DefD := ⟨("_law_small_asked", none), "_law_small_asked", "_law_small_asked", defArgs s__law_small_asked, defBody s__law_small_asked, defScope s__law_small_asked, [], []⟩
def d__law_others_asked : He.DefD := ⟨("_law_others_asked", none), "_law_others_asked", "_law_others_asked", defArgs s__law_others_asked, defBody s__law_others_asked, defScope s__law_others_asked, [], []⟩
def d__law_told : He.DefD := ⟨("_law_told", none), "_law_told", "_law_told", defArgs s__law_told, defBody s__law_told, defScope s__law_told, [], []⟩
def d_law : He.DefD := ⟨("law", none), "law", "law", defArgs s_law, defBody s_law, defScope s_law, [], []⟩
def fn : List He.DefD := [d_is_number, d_asked_triangle, d_is_small, d_asked_small, d_asked_spot, d_is_spot, d_corners, d_letters_of, d_turn_of, d_smalls, d_side, d_step_of, d_fulls, d_turn, d_around, d_doors, d_put, d_walk, d_walk_out, d_told, d__law_triangle_asked, d__law_small_asked, d__law_others_asked, d__law_told, d_law]
def fa : List He.Fa := [.glo "is_number", .glo "asked_triangle", .glo "is_small", .glo "asked_small", .glo "asked_spot", .glo "is_spot", .glo "corners", .glo "letters_of", .glo "turn_of", .glo "smalls", .glo "side", .glo "step_of", .glo "fulls", .glo "turn", .glo "around", .glo "doors", .glo "put", .glo "walk", .glo "walk_out", .glo "told", .glo "_law_triangle_asked", .glo "_law_small_asked", .glo "_law_others_asked", .glo "_law_told", .glo "law", .free "ValueError", .free "all", .free "bool", .free "enumerate", .free "int", .free "isinstance", .free "len", .free "list", .free "range", .free "sorted", .free "str", .free "sum", .free "tuple", .str "LETTERS" "abc", .glo "BadDoor", .glo "BadSmall", .glo "BadSpot", .glo "BadTriangle", .glo "WalkError"]
def fx : List DWX.Fx := [.any (DWL.errB "BadTriangle"), .any (DWL.errB "BadSmall"), .any (DWL.errB "BadDoor"), .any (DWL.errB "BadSpot"), .any (DWL.errWB "BadTriangle" "WalkError"), .any (DWL.errWB "BadSmall" "WalkError"), .any (DWL.errWB "BadDoor" "WalkError"), .any (DWL.errWB "BadSpot" "WalkError"), .isa "BadTriangle" "BadSmall" false, .isa "BadTriangle" "BadDoor" false, .isa "BadTriangle" "BadSpot" false, .isa "BadSmall" "BadTriangle" false, .isa "BadSmall" "BadDoor" false, .isa "BadSmall" "BadSpot" false, .isa "BadDoor" "BadTriangle" false, .isa "BadDoor" "BadSmall" false, .isa "BadDoor" "BadSpot" false, .isa "BadSpot" "BadTriangle" false, .isa "BadSpot" "BadSmall" false, .isa "BadSpot" "BadDoor" false]
abbrev R : PySem.W.OpenRow := PySem.W.OpenLaw.row PySem.Challenge.rw_doorwalk_k06_refused
abbrev hk : PySem.W.Hook := DWX.hookX 5 fa fx fn
def ob (s : PySem.W.SharedT) : Bool × He.AlD := DWX.obsXG 5 fa fx fn (HandSHeadRun.getT s)
theorem ob_eq (s : PySem.W.SharedT) : ob s = hk.obs s.abs := DWX.obsXG_eq (HandSHeadRun.getT_eq s)
theorem run (w : World) : HandSHeadRun.RunEq R (PySem.W.view R.prog [46]) hk ob 8000 ("_wall" :: "WalkError" :: "BadTriangle" :: "BadSmall" :: "BadDoor" :: "BadSpot" :: "is_number" :: "asked_triangle" :: "is_small" :: "asked_small" :: "asked_spot" :: "is_spot" :: "corners" :: "letters_of" :: "turn_of" :: "smalls" :: "side" :: "step_of" :: "fulls" :: "turn" :: "around" :: "doors" :: "put" :: "Answer" :: "Full" :: "barred_at" :: "Breaks" :: "Ended" :: "Out" :: "within" :: "beyond" :: "other_doors" :: "walked" :: "walk" :: "walk_out" :: "told" :: "_law_triangle_asked" :: "_law_small_asked" :: "_law_others_asked" :: "_law_told" :: "LETTERS" :: []) w := by
  intro os
  kernel_rfl
theorem facts {P : Program} {w : World} {K : PySem.W.Frag} {h : Heap} {mg : Str → Option Value} {f : Addr} (X : K.In h) (G : h.Ns mainGlobals mg) (hfa : mg ("law" : Str) = some (.ref f)) (cx : DWX.SaysX fa fx fn K) :
    ∃ fd : FuncData, (∀ (s : Shared) (v : Value), BindsTo s fd ⟨[v], []⟩ [("_law_script", v)]) ∧ ∀ base : Heap, K.In base → base.Ns mainGlobals mg → FnOk P w K mg base CX0 7 f fd ["_law_script"] (spLaw K) := by
  have c : He.SaysD fa fn K := cx.says
  obtain ⟨fd_is_number, F_is_number⟩ := c.def_ 0 (d := d_is_number) rfl
  obtain ⟨fd_asked_triangle, F_asked_triangle⟩ := c.def_ 1 (d := d_asked_triangle) rfl
  obtain ⟨fd_is_small, F_is_small⟩ := c.def_ 2 (d := d_is_small) rfl
  obtain ⟨fd_asked_small, F_asked_small⟩ := c.def_ 3 (d := d_asked_small) rfl
  obtain ⟨fd_asked_spot, F_asked_spot⟩ := c.def_ 4 (d := d_asked_spot) rfl
  obtain ⟨fd_is_spot, F_is_spot⟩ := c.def_ 5 (d := d_is_spot) rfl
  obtain ⟨fd_corners, F_corners⟩ := c.def_ 6 (d := d_corners) rfl
  obtain ⟨fd_letters_of, F_letters_of⟩ := c.def_ 7 (d := d_letters_of) rfl
  obtain ⟨fd_turn_of, F_turn_of⟩ := c.def_ 8 (d := d_turn_of) rfl
  obtain ⟨fd_smalls, F_smalls⟩ := c.def_ 9 (d := d_smalls) rfl
  obtain ⟨fd_side, F_side⟩ := c.def_ 10 (d := d_side) rfl
  obtain ⟨fd_step_of, F_step_of⟩ := c.def_ 11 (d := d_step_of) rfl
  obtain ⟨fd_fulls, F_fulls⟩ := c.def_ 12 (d := d_fulls) rfl
  obtain ⟨fd_turn, F_turn⟩ := c.def_ 13 (d := d_turn) rfl
  obtain ⟨fd_around, F_around⟩ := c.def_ 14 (d := d_around) rfl
  obtain ⟨fd_doors, F_doors⟩ := c.def_ 15 (d := d_doors) rfl
  obtain ⟨fd_put, F_put⟩ := c.def_ 16 (d := d_put) rfl
  obtain ⟨fd_walk, F_walk⟩ := c.def_ 17 (d := d_walk) rfl
  obtain ⟨fd_walk_out, F_walk_out⟩ := c.def_ 18 (d := d_walk_out) rfl
  obtain ⟨fd_told, F_told⟩ := c.def_ 19 (d := d_told) rfl
  obtain ⟨fd__law_triangle_asked, F__law_triangle_asked⟩ := c.def_ 20 (d := d__law_triangle_asked) rfl
  obtain ⟨fd__law_small_asked, F__law_small_asked⟩ := c.def_ 21 (d := d__law_small_asked) rfl
  obtain ⟨fd__law_others_asked, F__law_others_asked⟩ := c.def_ 22 (d := d__law_others_asked) rfl
  obtain ⟨fd__law_told, F__law_told⟩ := c.def_ 23 (d := d__law_told) rfl
  obtain ⟨fd_law, F_law⟩ := c.def_ 24 (d := d_law) rfl
  have e := hfa.symm.trans (He.glo_ok X G (c.fact 24 (f := .glo "law") rfl))
  cases e
  have D_is_number : Def K mg "is_number" s_is_number := ⟨_, _, F_is_number, He.glo_ok X G (c.fact 0 (f := .glo "is_number") rfl)⟩
  have D_asked_triangle : Def K mg "asked_triangle" s_asked_triangle := ⟨_, _, F_asked_triangle, He.glo_ok X G (c.fact 1 (f := .glo "asked_triangle") rfl)⟩
  have D_is_small : Def K mg "is_small" s_is_small := ⟨_, _, F_is_small, He.glo_ok X G (c.fact 2 (f := .glo "is_small") rfl)⟩
  have D_asked_small : Def K mg "asked_small" s_asked_small := ⟨_, _, F_asked_small, He.glo_ok X G (c.fact 3 (f := .glo "asked_small") rfl)⟩
  have D_asked_spot : Def K mg "asked_spot" s_asked_spot := ⟨_, _, F_asked_spot, He.glo_ok X G (c.fact 4 (f := .glo "asked_spot") rfl)⟩
  have D_is_spot : Def K mg "is_spot" s_is_spot := ⟨_, _, F_is_spot, He.glo_ok X G (c.fact 5 (f := .glo "is_spot") rfl)⟩
  have D_corners : Def K mg "corners" s_corners := ⟨_, _, F_corners, He.glo_ok X G (c.fact 6 (f := .glo "corners") rfl)⟩
  have D_letters_of : Def K mg "letters_of" s_letters_of := ⟨_, _, F_letters_of, He.glo_ok X G (c.fact 7 (f := .glo "letters_of") rfl)⟩
  have D_turn_of : Def K mg "turn_of" s_turn_of := ⟨_, _, F_turn_of, He.glo_ok X G (c.fact 8 (f := .glo "turn_of") rfl)⟩
  have D_smalls : Def K mg "smalls" s_smalls := ⟨_, _, F_smalls, He.glo_ok X G (c.fact 9 (f := .glo "smalls") rfl)⟩
  have D_side : Def K mg "side" s_side := ⟨_, _, F_side, He.glo_ok X G (c.fact 10 (f := .glo "side") rfl)⟩
  have D_step_of : Def K mg "step_of" s_step_of := ⟨_, _, F_step_of, He.glo_ok X G (c.fact 11 (f := .glo "step_of") rfl)⟩
  have D_fulls : Def K mg "fulls" s_fulls := ⟨_, _, F_fulls, He.glo_ok X G (c.fact 12 (f := .glo "fulls") rfl)⟩
  have D_turn : Def K mg "turn" s_turn := ⟨_, _, F_turn, He.glo_ok X G (c.fact 13 (f := .glo "turn") rfl)⟩
  have D_around : Def K mg "around" s_around := ⟨_, _, F_around, He.glo_ok X G (c.fact 14 (f := .glo "around") rfl)⟩
  have D_doors : Def K mg "doors" s_doors := ⟨_, _, F_doors, He.glo_ok X G (c.fact 15 (f := .glo "doors") rfl)⟩
  have D_put : Def K mg "put" s_put := ⟨_, _, F_put, He.glo_ok X G (c.fact 16 (f := .glo "put") rfl)⟩
  have D_walk : Def K mg "walk" s_walk := ⟨_, _, F_walk, He.glo_ok X G (c.fact 17 (f := .glo "walk") rfl)⟩
  have D_walk_out : Def K mg "walk_out" s_walk_out := ⟨_, _, F_walk_out, He.glo_ok X G (c.fact 18 (f := .glo "walk_out") rfl)⟩
  have D_told : Def K mg "told" s_told := ⟨_, _, F_told, He.glo_ok X G (c.fact 19 (f := .glo "told") rfl)⟩
  have D__law_triangle_asked : Def K mg "_law_triangle_asked" s__law_triangle_asked := ⟨_, _, F__law_triangle_asked, He.glo_ok X G (c.fact 20 (f := .glo "_law_triangle_asked") rfl)⟩
  have D__law_small_asked : Def K mg "_law_small_asked" s__law_small_asked := ⟨_, _, F__law_small_asked, He.glo_ok X G (c.fact 21 (f := .glo "_law_small_asked") rfl)⟩
  have D__law_others_asked : Def K mg "_law_others_asked" s__law_others_asked := ⟨_, _, F__law_others_asked, He.glo_ok X G (c.fact 22 (f := .glo "_law_others_asked") rfl)⟩
  have D__law_told : Def K mg "_law_told" s__law_told := ⟨_, _, F__law_told, He.glo_ok X G (c.fact 23 (f := .glo "_law_told") rfl)⟩
  have m_ValueError : mg "ValueError" = none := He.free_ok X G (c.fact 25 (f := .free "ValueError") rfl)
  have m_all : mg "all" = none := He.free_ok X G (c.fact 26 (f := .free "all") rfl)
  have m_bool : mg "bool" = none := He.free_ok X G (c.fact 27 (f := .free "bool") rfl)
  have m_enumerate : mg "enumerate" = none := He.free_ok X G (c.fact 28 (f := .free "enumerate") rfl)
  have m_int : mg "int" = none := He.free_ok X G (c.fact 29 (f := .free "int") rfl)
  have m_isinstance : mg "isinstance" = none := He.free_ok X G (c.fact 30 (f := .free "isinstance") rfl)
  have m_len : mg "len" = none := He.free_ok X G (c.fact 31 (f := .free "len") rfl)
  have m_list : mg "list" = none := He.free_ok X G (c.fact 32 (f := .free "list") rfl)
  have m_range : mg "range" = none := He.free_ok X G (c.fact 33 (f := .free "range") rfl)
  have m_sorted : mg "sorted" = none := He.free_ok X G (c.fact 34 (f := .free "sorted") rfl)
  have m_str : mg "str" = none := He.free_ok X G (c.fact 35 (f := .free "str") rfl)
  have m_sum : mg "sum" = none := He.free_ok X G (c.fact 36 (f := .free "sum") rfl)
  have m_tuple : mg "tuple" = none := He.free_ok X G (c.fact 37 (f := .free "tuple") rfl)
  have hL := He.str_ok X G (c.fact 38 (f := .str "LETTERS" "abc") rfl)
  have g_BadDoor : mg "BadDoor" = some (.ref (He.ga K "BadDoor")) := He.glo_ok X G (c.fact 39 (f := .glo "BadDoor") rfl)
  have g_BadSmall : mg "BadSmall" = some (.ref (He.ga K "BadSmall")) := He.glo_ok X G (c.fact 40 (f := .glo "BadSmall") rfl)
  have g_BadSpot : mg "BadSpot" = some (.ref (He.ga K "BadSpot")) := He.glo_ok X G (c.fact 41 (f := .glo "BadSpot") rfl)
  have g_BadTriangle : mg "BadTriangle" = some (.ref (He.ga K "BadTriangle")) := He.glo_ok X G (c.fact 42 (f := .glo "BadTriangle") rfl)
  have g_WalkError : mg "WalkError" = some (.ref (He.ga K "WalkError")) := He.glo_ok X G (c.fact 43 (f := .glo "WalkError") rfl)
  have e_BadTriangle := DWL.err_ok g_BadTriangle (cx.more 0 (f := .any (DWL.errB "BadTriangle")) rfl)
  have e_BadSmall := DWL.err_ok g_BadSmall (cx.more 1 (f := .any (DWL.errB "BadSmall")) rfl)
  have e_BadDoor := DWL.err_ok g_BadDoor (cx.more 2 (f := .any (DWL.errB "BadDoor")) rfl)
  have e_BadSpot := DWL.err_ok g_BadSpot (cx.more 3 (f := .any (DWL.errB "BadSpot")) rfl)
  have w_BadTriangle := DWL.errW_ok (cx.more 4 (f := .any (DWL.errWB "BadTriangle" "WalkError")) rfl)
  have w_BadSmall := DWL.errW_ok (cx.more 5 (f := .any (DWL.errWB "BadSmall" "WalkError")) rfl)
  have w_BadDoor := DWL.errW_ok (cx.more 6 (f := .any (DWL.errWB "BadDoor" "WalkError")) rfl)
  have w_BadSpot := DWL.errW_ok (cx.more 7 (f := .any (DWL.errWB "BadSpot" "WalkError")) rfl)
  have i_BadTriangle_BadSmall := DWX.isa_ok (cx.more 8 (f := .isa "BadTriangle" "BadSmall" false) rfl)
  have i_BadTriangle_BadDoor := DWX.isa_ok (cx.more 9 (f := .isa "BadTriangle" "BadDoor" false) rfl)
  have i_BadTriangle_BadSpot := DWX.isa_ok (cx.more 10 (f := .isa "BadTriangle" "BadSpot" false) rfl)
  have i_BadSmall_BadTriangle := DWX.isa_ok (cx.more 11 (f := .isa "BadSmall" "BadTriangle" false) rfl)
  have i_BadSmall_BadDoor := DWX.isa_ok (cx.more 12 (f := .isa "BadSmall" "BadDoor" false) rfl)
  have i_BadSmall_BadSpot := DWX.isa_ok (cx.more 13 (f := .isa "BadSmall" "BadSpot" false) rfl)
  have i_BadDoor_BadTriangle := DWX.isa_ok (cx.more 14 (f := .isa "BadDoor" "BadTriangle" false) rfl)
  have i_BadDoor_BadSmall := DWX.isa_ok (cx.more 15 (f := .isa "BadDoor" "BadSmall" false) rfl)
  have i_BadDoor_BadSpot := DWX.isa_ok (cx.more 16 (f := .isa "BadDoor" "BadSpot" false) rfl)
  have i_BadSpot_BadTriangle := DWX.isa_ok (cx.more 17 (f := .isa "BadSpot" "BadTriangle" false) rfl)
  have i_BadSpot_BadSmall := DWX.isa_ok (cx.more 18 (f := .isa "BadSpot" "BadSmall" false) rfl)
  have i_BadSpot_BadDoor := DWX.isa_ok (cx.more 19 (f := .isa "BadSpot" "BadDoor" false) rfl)
  have b := FunD.bindsA (ps := ["_law_script"]) F_law fun _ _ _ _ _ _ us hl => match us, hl with | [_], _ => rfl
  refine ⟨fd_law, fun s v => b s [v] rfl, fun base _ _ => ?_⟩
  have c_is_small := ok_is_small (P := P) (w := w) (mg := mg) (base := base) D_is_small m_len
  have c_is_spot := ok_is_spot (P := P) (w := w) (mg := mg) (base := base) D_is_spot m_len
  have c_corners := ok_corners (P := P) (w := w) (mg := mg) (base := base) D_corners
  have c_letters_of := ok_letters_of (P := P) (w := w) (mg := mg) (base := base) D_letters_of c_corners
  have c_turn_of := ok_turn_of (P := P) (w := w) (mg := mg) (base := base) D_turn_of c_letters_of
  have c_step_of := ok_step_of (P := P) (w := w) (mg := mg) (base := base) D_step_of
  have c_asked_triangle := ok_asked_triangle (P := P) (w := w) (mg := mg) (base := base) D_asked_triangle hL m_len m_isinstance m_enumerate m_list m_str
  have c_is_number := ok_is_number (P := P) (w := w) (mg := mg) (base := base) D_is_number m_isinstance m_int m_bool
  have c_asked_small := ok_asked_small (P := P) (w := w) (mg := mg) (base := base) D_asked_small c_is_number c_is_small m_len m_isinstance m_tuple m_all
  have c_asked_spot := ok_asked_spot (P := P) (w := w) (mg := mg) (base := base) D_asked_spot c_is_number c_is_spot
  have c_smalls := ok_smalls (P := P) (w := w) (mg := mg) (base := base) D_smalls c_is_small m_len m_range m_sorted
  have c_side := ok_side (P := P) (w := w) (mg := mg) (base := base) D_side m_len m_range
  have c_fulls := ok_fulls (P := P) (w := w) (mg := mg) (base := base) D_fulls c_asked_triangle c_smalls c_turn_of
  have c_turn := ok_turn (P := P) (w := w) (mg := mg) (base := base) D_turn c_asked_triangle c_asked_small c_turn_of
  have c_around := ok_around (P := P) (w := w) (mg := mg) (base := base) D_around c_asked_triangle c_side c_step_of m_len m_range m_sum
  have c_doors := ok_doors (P := P) (w := w) (mg := mg) (base := base) D_doors c_asked_triangle c_side c_step_of m_len m_range
  have c_put := ok_put (P := P) (w := w) (mg := mg) (base := base) D_put hL c_asked_triangle c_asked_spot m_len m_isinstance m_str m_list
  have cx_asked_triangle_a := ok_asked_triangle_xa (P := P) (w := w) (mg := mg) (base := base) D_asked_triangle hL e_BadTriangle m_len m_isinstance m_enumerate m_list m_str
  have cx_fulls_a := ok_fulls_xa (P := P) (w := w) (mg := mg) (base := base) D_fulls cx_asked_triangle_a
  have cx_around_a := ok_around_xa (P := P) (w := w) (mg := mg) (base := base) D_around cx_asked_triangle_a
  have cx_doors_a := ok_doors_xa (P := P) (w := w) (mg := mg) (base := base) D_doors cx_asked_triangle_a
  have cx_turn_a := ok_turn_xa (P := P) (w := w) (mg := mg) (base := base) D_turn cx_asked_triangle_a
  have cx_told_a := ok_told_xa (P := P) (w := w) (mg := mg) (base := base) D_told cx_asked_triangle_a
  have cx_walk_a := ok_walk_xa (P := P) (w := w) (mg := mg) (base := base) D_walk cx_asked_triangle_a
  have cx_walk_out_a := ok_walk_out_xa (P := P) (w := w) (mg := mg) (base := base) D_walk_out cx_asked_triangle_a
  have cx_put_a := ok_put_xa (P := P) (w := w) (mg := mg) (base := base) D_put cx_asked_triangle_a
  have cx_asked_small_a := ok_asked_small_xa (P := P) (w := w) (mg := mg) (base := base) D_asked_small c_is_number c_is_small e_BadSmall m_len m_isinstance m_tuple m_all
  have cx_turn_b := ok_turn_xb (P := P) (w := w) (mg := mg) (base := base) D_turn c_asked_triangle cx_asked_small_a
  have cx_walk_out_b := ok_walk_out_xb (P := P) (w := w) (mg := mg) (base := base) D_walk_out c_asked_triangle cx_asked_small_a
  have cx_walk_out_c := ok_walk_out_xc (P := P) (w := w) (mg := mg) (base := base) D_walk_out c_asked_triangle c_asked_small c_turn_of e_BadSmall
  have cx_walk_b := ok_walk_xb (P := P) (w := w) (mg := mg) (base := base) D_walk c_asked_triangle c_is_number c_doors e_BadDoor
  have cx_asked_spot_a := ok_asked_spot_xa (P := P) (w := w) (mg := mg) (base := base) D_asked_spot c_is_number c_is_spot e_BadSpot
  have cx_put_b := ok_put_xb (P := P) (w := w) (mg := mg) (base := base) D_put c_asked_triangle cx_asked_spot_a
  have cx_put_c := ok_put_xc (P := P) (w := w) (mg := mg) (base := base) D_put hL c_asked_triangle c_asked_spot e_BadSpot m_len m_isinstance m_str
  have cx__law_triangle_asked_a := ok_law_triangle_asked_xa (P := P) (w := w) (mg := mg) (base := base) D__law_triangle_asked cx_fulls_a cx_around_a cx_doors_a cx_turn_a cx_told_a cx_walk_a cx_walk_out_a
  have cx__law_small_asked_a := ok_law_small_asked_xa (P := P) (w := w) (mg := mg) (base := base) D__law_small_asked cx_turn_b cx_walk_out_b
  have cx__law_others_asked_a := ok_law_others_asked_xa (P := P) (w := w) (mg := mg) (base := base) D__law_others_asked cx_walk_out_c cx_walk_b cx_put_a cx_put_b cx_put_c
  have c__law_told := ok_law_told (P := P) (w := w) (mg := mg) (base := base) D__law_told cx__law_triangle_asked_a cx__law_small_asked_a cx__law_others_asked_a g_WalkError e_BadTriangle e_BadSmall e_BadDoor e_BadSpot w_BadTriangle w_BadSmall w_BadDoor w_BadSpot i_BadTriangle_BadSmall i_BadTriangle_BadDoor i_BadTriangle_BadSpot i_BadSmall_BadTriangle i_BadSmall_BadDoor i_BadSmall_BadSpot i_BadDoor_BadTriangle i_BadDoor_BadSmall i_BadDoor_BadSpot i_BadSpot_BadTriangle i_BadSpot_BadSmall i_BadSpot_BadDoor m_isinstance m_ValueError
  exact ok_law (P := P) (w := w) (mg := mg) (base := base) F_law c__law_told c_put c_turn c_doors
end DWH
open PySem PySem.W PySem.Calls PyProof.Rows
theorem PySem.Challenge.cw_doorwalk_k06_refused_holds : PySem.Challenge.rw_doorwalk_k06_refused.Holds := by
  w_on; o_law
  refine HandSHeadRun.head_any (r := OpenLaw.row PySem.Challenge.rw_doorwalk_k06_refused) (q := view (OpenLaw.row PySem.Challenge.rw_doorwalk_k06_refused).prog [46]) (H := DWH.hk) (ob := DWH.ob) (M := 8000) (loose := ("_wall" :: "WalkError" :: "BadTriangle" :: "BadSmall" :: "BadDoor" :: "BadSpot" :: "is_number" :: "asked_triangle" :: "is_small" :: "asked_small" :: "asked_spot" :: "is_spot" :: "corners" :: "letters_of" :: "turn_of" :: "smalls" :: "side" :: "step_of" :: "fulls" :: "turn" :: "around" :: "doors" :: "put" :: "Answer" :: "Full" :: "barred_at" :: "Breaks" :: "Ended" :: "Out" :: "within" :: "beyond" :: "other_doors" :: "walked" :: "walk" :: "walk_out" :: "told" :: "_law_triangle_asked" :: "_law_small_asked" :: "_law_others_asked" :: "_law_told" :: "LETTERS" :: [])) (d := HandSHeadRun.topDef (OpenLaw.row PySem.Challenge.rw_doorwalk_k06_refused).prog 46) (kwd := []) DWH.ob_eq
    (by kernel_rfl) (fun s => by kernel_rfl) DWH.run (by kernel_rfl) (by kernel_rfl) (by kernel_rfl) (by rfl) (by first | assumption | decide +kernel) (by decide +kernel) ⟨rfl, rfl, rfl, rfl, rfl, by decide +kernel⟩ ?hw ?hc
  case hw => w_witness2
  case hc =>
    refine L2.walk_ofE (l := PySem.Challenge.rw_doorwalk_k06_refused) (n := 63) (k := 7) (x := "_law_script") (CX := L2.CX0) rfl (by decide) (by kernel_rfl) ⟨rfl, by decide, by decide⟩ ?F (fun _ _ _ _ z => z)
    intro w mg fa h Y G hmg0
    obtain ⟨K, KX, c⟩ := Y
    have hmg : mg ("law" : PySem.Str) = some (.ref fa) := by
      have e : (HandSHeadRun.topDef (OpenLaw.row PySem.Challenge.rw_doorwalk_k06_refused).prog 46).name = ("law" : PySem.Str) := by kernel_rfl
      rw [← e]
      exact hmg0
    obtain ⟨fd, hb, hF⟩ := DWH.facts (P := (PySem.Challenge.rw_doorwalk_k06_refused).prog) (w := w) KX G hmg c
    exact ⟨K, fd, DWL.spLaw K, KX, hb, fun H a ns hl _ hS => ⟨.ref a, ns, rfl, ⟨a, _, rfl, hS, DWL.ImAll.ints H ns⟩, hl, fun _ => rfl⟩, hF⟩
