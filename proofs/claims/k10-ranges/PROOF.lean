import PyProof.Rows.All
import Wide.All
import OpenK.AllK
import Wide.FinOn
import KE.KStateDown
import Lean
import HandS.ForMost
import HandS.More
import HandS.Exc
import HandS.TryOnly
import HandS.ExcOwn
import HandS.WordsExc
import HandS.ExcIs
import HandS.Defaults
import HandS.Head0
import HandS.Head1
import HandS.Head2
import HandS.HeadEnd
import HandS.HeadHook1
import HandS.HeadHook2
import HandS.Evl
import HandS.Walk
import HandS.IsInst
import HandS.StrMore
import HandS.Flow
import HandS.Style
import HandS.TupAny
import HandS.Zip
import HandS.Rev
import HandS.SetKeys
import HandS.DictTup
import HandS.Conv
import HandS.Small
import PySem.Challenge.RW_greatkeep_k10_ranges
set_option Elab.async false
set_option linter.all false
set_option maxRecDepth 100000
set_option maxHeartbeats 8000000
/-! Greatkeep: what evaluates to which data; rules beside those of the layer. -/
namespace GK
open PySem PySem.Spec PyProof.Rows L2 Evl
abbrev Sig := L2.St
/-! ### data in a heap: lists and tuples that stand in it -/
mutual
inductive Da : Hp → V → PyData → Prop
  | non {H : Hp} : Da H .non .none
  | bl {H : Hp} (b : Bool) : Da H (.bl b) (.bool b)
  | int {H : Hp} (i : Int) : Da H (.int i) (.int i)
  | str {H : Hp} (x : Str) : Da H (.str x) (.str x)
  | lst {H : Hp} {a : Addr} {xs : List V} {ds : List PyData} : H a = some (.lst xs) → DaAll H xs ds → Da H (.ref a) (.list ds)
  | tup {H : Hp} {a : Addr} {xs : List V} {ds : List PyData} : H a = some (.tup xs) → DaAll H xs ds → Da H (.ref a) (.tuple ds)
inductive DaAll : Hp → List V → List PyData → Prop
  | nil {H : Hp} : DaAll H [] []
  | cons {H : Hp} {v : V} {vs : List V} {d : PyData} {ds : List PyData} : Da H v d → DaAll H vs ds → DaAll H (v :: vs) (d :: ds)
end
section
variable {K : PySem.W.Frag}
/-! ### data in a heap that grows -/
mutual
theorem da_ex {H H' : Hp} (e : Ex H H') : ∀ (d : PyData) (v : V), Da H v d → Da H' v d
  | .none, _, h => by cases h; exact .non
  | .bool b, _, h => by cases h; exact .bl b
  | .int i, _, h => by cases h; exact .int i
  | .str x, _, h => by cases h; exact .str x
  | .list ds, _, h => by
    cases h with
    | lst h ha => exact .lst (e _ _ h) (dpAll_ex e ds _ ha)
  | .tuple ds, _, h => by
    cases h with
    | tup h ha => exact .tup (e _ _ h) (dpAll_ex e ds _ ha)
  | .dict _, _, h => by cases h
theorem dpAll_ex {H H' : Hp} (e : Ex H H') : ∀ (ds : List PyData) (vs : List V), DaAll H vs ds → DaAll H' vs ds
  | [], _, h => by cases h; exact .nil
  | d :: ds, _, h => by
    cases h with
    | cons h t => exact .cons (da_ex e d _ h) (dpAll_ex e ds _ t)
end
theorem Da.ex' {H H' : Hp} {d : PyData} {v : V} (h : Da H v d) (e : Ex H H') : Da H' v d := da_ex e d v h
theorem dpi {H : Hp} {v : V} {i : Int} (h : Da H v (.int i)) : v = .int i := by cases h; rfl
theorem dps {H : Hp} {v : V} {x : Str} (h : Da H v (.str x)) : v = .str x := by cases h; rfl
theorem dpb {H : Hp} {v : V} {b : Bool} (h : Da H v (.bool b)) : v = .bl b := by cases h; rfl
theorem dpn {H : Hp} {v : V} (h : Da H v .none) : v = .non := by cases h; rfl
theorem dpt {H : Hp} {v : V} {ds : List PyData} (h : Da H v (.tuple ds)) : ∃ a xs, v = .ref a ∧ H a = some (.tup xs) ∧ DaAll H xs ds := by
  cases h with
  | tup h ha => exact ⟨_, _, rfl, h, ha⟩
theorem dpl {H : Hp} {v : V} {ds : List PyData} (h : Da H v (.list ds)) : ∃ a xs, v = .ref a ∧ H a = some (.lst xs) ∧ DaAll H xs ds := by
  cases h with
  | lst h ha => exact ⟨_, _, rfl, h, ha⟩
theorem dpa_len {H : Hp} : ∀ {ds : List PyData} {vs : List V}, DaAll H vs ds → vs.length = ds.length
  | [], _, h => by cases h; rfl
  | d :: ds, _, h => by
    cases h with
    | cons h t => rw [List.length_cons, List.length_cons, dpa_len t]
theorem dpa_get {H : Hp} : ∀ {ds : List PyData} {vs : List V} {i : Nat} {v : V}, DaAll H vs ds → vs[i]? = some v → ∃ d, ds[i]? = some d ∧ Da H v d
  | [], _, i, v, h, e => by cases h; simp at e
  | d :: ds, _, i, v, h, e => by
    cases h with
    | cons h t =>
      cases i with
      | zero => simp at e; subst e; exact ⟨d, rfl, h⟩
      | succ i => simp at e; obtain ⟨d', e', h'⟩ := dpa_get t e; exact ⟨d', by simpa using e', h'⟩
theorem dpa_at {H : Hp} : ∀ {ds : List PyData} {vs : List V} {i : Nat} {d : PyData}, DaAll H vs ds → ds[i]? = some d → ∃ v, vs[i]? = some v ∧ Da H v d
  | [], _, i, d, h, e => by simp at e
  | d :: ds, _, i, d', h, e => by
    cases h with
    | cons h t =>
      cases i with
      | zero => simp at e; subst e; exact ⟨_, rfl, h⟩
      | succ i => simp at e; obtain ⟨v, e', h'⟩ := dpa_at t e; exact ⟨v, by simpa using e', h'⟩
theorem dpa_app {H : Hp} : ∀ {ds es : List PyData} {vs us : List V}, DaAll H vs ds → DaAll H us es → DaAll H (vs ++ us) (ds ++ es)
  | [], _, _, _, h, h' => by cases h; exact h'
  | d :: ds, _, _, _, h, h' => by
    cases h with
    | cons h t => exact .cons h (dpa_app t h')
theorem dpa_take {H : Hp} : ∀ {n : Nat} {ds : List PyData} {vs : List V}, DaAll H vs ds → DaAll H (vs.take n) (ds.take n)
  | 0, _, _, _ => by simpa using DaAll.nil
  | n + 1, [], _, h => by cases h; exact .nil
  | n + 1, d :: ds, _, h => by
    cases h with
    | cons h t => exact .cons h (dpa_take t)
theorem dpa_drop {H : Hp} : ∀ {n : Nat} {ds : List PyData} {vs : List V}, DaAll H vs ds → DaAll H (vs.drop n) (ds.drop n)
  | 0, _, _, h => by simpa using h
  | n + 1, [], _, h => by cases h; exact .nil
  | n + 1, d :: ds, v :: vs, h => by
    cases h with
    | cons h t => exact dpa_drop (n := n) t
theorem dpa_rev {H : Hp} : ∀ {ds : List PyData} {vs : List V}, DaAll H vs ds → DaAll H vs.reverse ds.reverse
  | [], _, h => by cases h; exact .nil
  | d :: ds, _, h => by
    cases h with
    | cons h t =>
      rw [List.reverse_cons, List.reverse_cons]
      exact dpa_app (dpa_rev t) (.cons h .nil)
theorem dpa_ints {H : Hp} : ∀ {ns : List Int} {vs : List V}, DaAll H vs (ns.map .int) → vs = ns.map V.int
  | [], _, h => by cases h; rfl
  | n :: ns, _, h => by
    cases h with
    | cons h t => cases h; rw [dpa_ints t]; rfl
theorem dpa_strs {H : Hp} : ∀ {ns : List Str} {vs : List V}, DaAll H vs (ns.map .str) → vs = ns.map V.str
  | [], _, h => by cases h; rfl
  | n :: ns, _, h => by
    cases h with
    | cons h t => cases h; rw [dpa_strs t]; rfl
theorem dpa_bools {H : Hp} : ∀ {ns : List Bool} {vs : List V}, DaAll H vs (ns.map .bool) → vs = ns.map V.bl
  | [], _, h => by cases h; rfl
  | n :: ns, _, h => by
    cases h with
    | cons h t => cases h; rw [dpa_bools t]; rfl
theorem dpa_ofInts {H : Hp} : ∀ (ns : List Int), DaAll H (ns.map V.int) (ns.map .int)
  | [] => .nil
  | n :: ns => .cons (.int n) (dpa_ofInts ns)
theorem dpa_ofStrs {H : Hp} : ∀ (ns : List Str), DaAll H (ns.map V.str) (ns.map .str)
  | [] => .nil
  | n :: ns => .cons (.str n) (dpa_ofStrs ns)
theorem dpa1 {H : Hp} {vs : List V} {d : PyData} (h : DaAll H vs [d]) : ∃ v, vs = [v] ∧ Da H v d := by
  cases h with
  | cons h t => cases t; exact ⟨_, rfl, h⟩
theorem dpa2 {H : Hp} {vs : List V} {d e : PyData} (h : DaAll H vs [d, e]) : ∃ v u, vs = [v, u] ∧ Da H v d ∧ Da H u e := by
  cases h with
  | cons h t => obtain ⟨u, rfl, h'⟩ := dpa1 t; exact ⟨_, _, rfl, h, h'⟩
theorem dpa3 {H : Hp} {vs : List V} {d e f : PyData} (h : DaAll H vs [d, e, f]) : ∃ v u w, vs = [v, u, w] ∧ Da H v d ∧ Da H u e ∧ Da H w f := by
  cases h with
  | cons h t => obtain ⟨u, w, rfl, h', h''⟩ := dpa2 t; exact ⟨_, _, _, rfl, h, h', h''⟩
theorem dpa4 {H : Hp} {vs : List V} {d e f g : PyData} (h : DaAll H vs [d, e, f, g]) : ∃ v u w x, vs = [v, u, w, x] ∧ Da H v d ∧ Da H u e ∧ Da H w f ∧ Da H x g := by
  cases h with
  | cons h t => obtain ⟨u, w, x, rfl, h', h'', h3⟩ := dpa3 t; exact ⟨_, _, _, _, rfl, h, h', h'', h3⟩

/-! ### evaluates to data. B: what is known and never changes (the frame); H: the heap as it is, B in it; things that are changed stand in H, not in B -/
/-- B' is B and what is new in H -/
def Ext (B H B' : Hp) : Prop := Ex B B' ∧ ∀ p, H p ≠ none → B' p = B p
theorem Ext.refl (B H : Hp) : Ext B H B := ⟨Ex.refl B, fun _ _ => rfl⟩
theorem Ext.trans {B B1 B2 H H1 : Hp} (a : Ext B H B1) (e : Ex H H1) (b : Ext B1 H1 B2) : Ext B H B2 := ⟨a.1.trans b.1, fun p hp => by
  rw [b.2 p (by
    cases h : H p with
    | none => exact absurd h hp
    | some o => rw [e p o h]; exact fun z => nomatch z), a.2 p hp]⟩
theorem Ext.new {B H : Hp} {p : Addr} {o : HO} (eb : Ex B H) (h : H p = none) : Ext B H (upd B p o) := ⟨Ex.new (fresh_back eb h), fun q hq => upd_ne fun z => hq (by rw [z]; exact h)⟩
theorem ex_upd2 {B H : Hp} {p : Addr} {o : HO} (e : Ex B H) : Ex (upd B p o) (upd H p o) := fun a u h => by
  by_cases c : a = p
  · subst c; rw [upd_same] at h ⊢; exact h
  · rw [upd_ne c] at h ⊢; exact e a u h
/-- an object outside the frame may change -/
theorem ex_mut {B H : Hp} {p : Addr} {o : HO} (e : Ex B H) (h : B p = none) : Ex B (upd H p o) := Ex.mut e h
theorem Ext.out {B H B' : Hp} {p : Addr} {o : HO} (x : Ext B H B') (h : H p = some o) (b : B p = none) : B' p = none := by rw [x.2 p (by rw [h]; exact fun z => nomatch z), b]
def uni (A B : Hp) : Hp := fun p => match A p with | some o => some o | none => B p
theorem uni_l {A B : Hp} : Ex A (uni A B) := fun p o h => by unfold uni; rw [h]
theorem uni_ex {A B H : Hp} (a : Ex A H) (b : Ex B H) : Ex (uni A B) H := fun p o h => by
  unfold uni at h
  cases c : A p with
  | some u => rw [c] at h; cases h; exact a p _ c
  | none => rw [c] at h; exact b p o h
theorem uni_r {A B H : Hp} (a : Ex A H) (b : Ex B H) : Ex B (uni A B) := fun p o h => by
  unfold uni
  cases c : A p with
  | some u => show some u = some o; rw [← a p _ c, b p _ h]
  | none => exact h
theorem uni_ext {A B B' H H' : Hp} (x : Ext B H B') (ab : Ex B A) (ah : Ex A H) (e : Ex H H') (bh : Ex B' H') : Ext A H (uni A B') := ⟨uni_l, fun p hp => by
  unfold uni
  cases c : A p with
  | some u => rfl
  | none =>
    show B' p = none
    rw [x.2 p hp]
    cases b : B p with
    | none => rfl
    | some o => rw [ab p o b] at c; cases c⟩
/-- what is given back: data in the frame grown -/
def Ret (d : PyData) (B H : Hp) (Q : VK) : Prop := ∀ v H' B', Ex H H' → Ext B H B' → Ex B' H' → Da B' v d → Q v H'
def Rets (ds : List PyData) (B H : Hp) (Q : List V → Hp → Prop) : Prop := ∀ vs H' B', Ex H H' → Ext B H B' → Ex B' H' → DaAll B' vs ds → Q vs H'
def EvD (te : TE) (σ : Sig) (B H : Hp) (d : PyData) : Prop := ∀ H1, Ex H H1 → Ex B H1 → ∀ Q : VK, Ret d B H1 Q → te σ H1 Q
def EvDs (ta : TA) (σ : Sig) (B H : Hp) (ds : List PyData) : Prop := ∀ H1, Ex H H1 → Ex B H1 → ∀ Q, Rets ds B H1 Q → ta σ H1 Q
def EvF (te : TE) (σ : Sig) (H : Hp) (v : V) : Prop := ∀ H1, Ex H H1 → ∀ Q : VK, (∀ H2, Ex H1 H2 → Q v H2) → te σ H1 Q
def EvB (tt : TT) (σ : Sig) (B H : Hp) (b : Bool) : Prop := ∀ H1, Ex H H1 → Ex B H1 → ∀ Q : Bool → Hp → Prop, (∀ H2, Ex H1 H2 → Q b H2) → tt σ H1 Q
variable {σ : Sig} {B B' H H' : Hp} {te ta tb tc : TE} {tt tu : TT} {d d1 d2 : PyData} {v : V}
theorem Ret.flat {Q : VK} {w : V} (hv : ∀ B v, Da B v d → v = w) (q : ∀ H', Ex H H' → Q w H') : Ret d B H Q := fun v H' B' e x eb hd => by rw [hv _ _ hd]; exact q H' e
theorem Ret.at {Q : VK} (r : Ret d B H Q) (eb : Ex B H) (hd : Da B v d) : Q v H := r v H B (Ex.refl H) (Ext.refl B H) eb hd
theorem Ret.grow {Q : VK} {H1 B1 : Hp} (r : Ret d B H Q) (e : Ex H H1) (x : Ext B H B1) : Ret d B1 H1 Q := fun v H' B' e' x' eb hd => r v H' B' (e.trans e') (x.trans e x') eb hd
theorem Ret.sub {Q : VK} {A : Hp} (r : Ret d A H Q) (ab : Ex B A) (ah : Ex A H) : Ret d B H Q := fun v H' B' e x eb hd =>
  r v H' (uni A B') e (uni_ext x ab ah e eb) (uni_ex (ah.trans e) eb) (hd.ex' (uni_r (ah.trans e) eb))
theorem EvD.mono (h : EvD te σ B H d) (eb : Ex B B') (eh : Ex H H') : EvD te σ B' H' d := fun H1 e1 e2 Q r => h H1 (eh.trans e1) (eb.trans e2) Q (r.sub eb e2)
theorem EvDs.mono {tr : TA} {ds : List PyData} (h : EvDs tr σ B H ds) (eb : Ex B B') (eh : Ex H H') : EvDs tr σ B' H' ds := fun H1 e1 e2 Q r => h H1 (eh.trans e1) (eb.trans e2) Q fun vs H2 B2 e x ex hd =>
  r vs H2 (uni B' B2) e (uni_ext x eb e2 e ex) (uni_ex (e2.trans e) ex) (dpAll_ex (uni_r (e2.trans e) ex) _ _ hd)
theorem EvB.mono {b : Bool} (h : EvB tt σ B H b) (eb : Ex B B') (eh : Ex H H') : EvB tt σ B' H' b := fun H1 e1 e2 Q q => h H1 (eh.trans e1) (eb.trans e2) Q q
theorem EvF.mono (h : EvF te σ H v) (eh : Ex H H') : EvF te σ H' v := fun H1 e1 Q q => h H1 (eh.trans e1) Q q
theorem EvD.is (h : EvD te σ B H d) (e : d = d1) : EvD te σ B H d1 := e ▸ h
theorem EvB.is {b c : Bool} (h : EvB tt σ B H b) (e : b = c) : EvB tt σ B H c := e ▸ h
/-- run it where it stands -/
theorem EvD.run {Q : VK} (h : EvD te σ B H d) (eb : Ex B H) (r : Ret d B H Q) : te σ H Q := h H (Ex.refl H) eb Q r
theorem evd_of (h : EvF te σ H v) (hd : Da B v d) : EvD te σ B H d := fun H1 e eb Q q => h H1 e Q fun H2 e2 => q v H2 B e2 (Ext.refl B H1) (eb.trans e2) hd
theorem evf_i {i : Int} (h : EvD te σ B H (.int i)) (eb : Ex B H) : EvF te σ H (.int i) := fun H1 e Q q => h H1 e (eb.trans e) Q (Ret.flat (fun _ _ => dpi) q)
theorem EvD.flat {w : V} (h : EvD te σ B H d) (hv : ∀ B v, Da B v d → v = w) {H1 : Hp} (e : Ex H H1) (eb : Ex B H1) {Q : VK} (q : ∀ H2, Ex H1 H2 → Q w H2) : te σ H1 Q := h H1 e eb Q (Ret.flat hv q)
/-! leaves -/
theorem evf_var {i : Nat} (h : σ[i]? = some (some v)) : EvF (tVar i) σ H v := fun H1 _ _ q => ⟨v, h, q H1 (Ex.refl H1)⟩
theorem evf_c : EvF (tC v) σ H v := fun H1 _ _ q => q H1 (Ex.refl H1)
theorem evd_var {i : Nat} (h : σ[i]? = some (some v)) (hd : Da B v d) : EvD (tVar i) σ B H d := evd_of (evf_var h) hd
theorem evd_varI {i : Nat} {n : Int} (h : σ[i]? = some (some (.int n))) : EvD (tVar i) σ B H (.int n) := evd_var h (.int n)
theorem evd_varS {i : Nat} {x : Str} (h : σ[i]? = some (some (.str x))) : EvD (tVar i) σ B H (.str x) := evd_var h (.str x)
theorem evd_varB {i : Nat} {b : Bool} (h : σ[i]? = some (some (.bl b))) : EvD (tVar i) σ B H (.bool b) := evd_var h (.bl b)
theorem evd_varN {i : Nat} (h : σ[i]? = some (some .non)) : EvD (tVar i) σ B H .none := evd_var h .non
theorem evd_ci {i : Int} : EvD (tC (.int i)) σ B H (.int i) := evd_of evf_c (.int i)
theorem evd_cs {x : Str} : EvD (tC (.str x)) σ B H (.str x) := evd_of evf_c (.str x)
theorem evd_ck {b : Bool} : EvD (tC (.bl b)) σ B H (.bool b) := evd_of evf_c (.bl b)
theorem evd_cn : EvD (tC .non) σ B H .none := evd_of evf_c .non
/-- two parts, flat, one behind the other -/
theorem flat2 {w z : V} {k : V → V → Hp → Prop} (ha : EvD ta σ B H d1) (h1 : ∀ B v, Da B v d1 → v = w) (hb : EvD tb σ B H d2) (h2 : ∀ B v, Da B v d2 → v = z) {H1 : Hp} (e : Ex H H1) (eb : Ex B H1)
    (q : ∀ H2, Ex H1 H2 → k w z H2) : ta σ H1 fun x H2 => tb σ H2 fun y H3 => k x y H3 :=
  ha.flat h1 e eb fun _ e2 => hb.flat h2 (e.trans e2) (eb.trans e2) fun H3 e3 => q H3 (e2.trans e3)
theorem evd_op2 {w z y : V} {r : R2} (ha : EvD ta σ B H d1) (h1 : ∀ B v, Da B v d1 → v = w) (hb : EvD tb σ B H d2) (h2 : ∀ B v, Da B v d2 → v = z) (hr : ∀ H1 (Q : VK), Q y H1 → r w z H1 Q) (hd : ∀ B, Da B y d) : EvD (tOp r ta tb) σ B H d :=
  fun H1 e eb Q q => flat2 (k := fun x y H => r x y H Q) ha h1 hb h2 e eb fun H2 e2 => hr H2 Q (q y H2 B e2 (Ext.refl B H1) (eb.trans e2) (hd B))
theorem evd_I0 {g : Int → Int → Int} {i j : Int} (ha : EvD ta σ B H (.int i)) (hb : EvD tb σ B H (.int j)) : EvD (tOp (rI0 fun i j => .int (g i j)) ta tb) σ B H (.int (g i j)) := evd_op2 ha (fun _ _ => dpi) hb (fun _ _ => dpi) (fun _ _ q => ⟨i, j, rfl, rfl, q⟩) fun _ => .int _
theorem evd_B0 {g : Int → Int → Bool} {i j : Int} (ha : EvD ta σ B H (.int i)) (hb : EvD tb σ B H (.int j)) : EvD (tOp (rI0 fun i j => .bl (g i j)) ta tb) σ B H (.bool (g i j)) := evd_op2 ha (fun _ _ => dpi) hb (fun _ _ => dpi) (fun _ _ q => ⟨i, j, rfl, rfl, q⟩) fun _ => .bl _
theorem evd_IC {C : Int → Int → Prop} {g : Int → Int → Int} {i j : Int} (ha : EvD ta σ B H (.int i)) (hb : EvD tb σ B H (.int j)) (hc : C i j) : EvD (tOp (rI C fun i j => .int (g i j)) ta tb) σ B H (.int (g i j)) := evd_op2 ha (fun _ _ => dpi) hb (fun _ _ => dpi) (fun _ _ q => ⟨i, j, rfl, rfl, hc, q⟩) fun _ => .int _
theorem evd_mul {i j : Int} (ha : EvD ta σ B H (.int i)) (hb : EvD tb σ B H (.int j)) (hc : CMul i j := by first | with_reducible assumption | (refine Or.inr ⟨?_, ?_⟩ <;> omega) | (refine Or.inl ⟨?_, ?_⟩ <;> omega)) : EvD (tOp (rI CMul fun i j => .int (i * j)) ta tb) σ B H (.int (i * j)) := evd_IC ha hb hc
theorem evd_mod {i j : Int} (ha : EvD ta σ B H (.int i)) (hb : EvD tb σ B H (.int j)) (hc : 0 < j := by first | with_reducible assumption | omega | decide) : EvD (tOp (rI (fun _ j => 0 < j) fun i j => .int (i % j)) ta tb) σ B H (.int (i % j)) := evd_IC (C := fun _ j => 0 < j) (g := fun i j => i % j) ha hb hc
theorem evd_fdiv {i j : Int} (ha : EvD ta σ B H (.int i)) (hb : EvD tb σ B H (.int j)) (hc : CDiv i j := by first | with_reducible assumption | (constructor <;> omega)) : EvD (tOp (rI CDiv fun i j => .int (i / j)) ta tb) σ B H (.int (i / j)) := evd_IC ha hb hc
theorem evd_un {g : Int → Int} {i : Int} (ha : EvD ta σ B H (.int i)) : EvD (tUn (rU fun i => .int (g i)) ta) σ B H (.int (g i)) := fun H1 e eb Q q => ha.flat (fun _ _ => dpi) e eb fun H2 e2 => ⟨i, rfl, q _ H2 B e2 (Ext.refl B H1) (eb.trans e2) (.int _)⟩
theorem evd_eqI {i j : Int} (ha : EvD ta σ B H (.int i)) (hb : EvD tb σ B H (.int j)) : EvD (tOp rEq ta tb) σ B H (.bool (decide (i = j))) := evd_op2 ha (fun _ _ => dpi) hb (fun _ _ => dpi) (fun _ _ q => ⟨rfl, q⟩) fun _ => by rw [show decide (V.int i = V.int j) = decide (i = j) by simp]; exact .bl _
theorem evd_neI {i j : Int} (ha : EvD ta σ B H (.int i)) (hb : EvD tb σ B H (.int j)) : EvD (tOp rNe ta tb) σ B H (.bool (!decide (i = j))) := evd_op2 ha (fun _ _ => dpi) hb (fun _ _ => dpi) (fun _ _ q => ⟨rfl, q⟩) fun _ => by rw [show decide (V.int i = V.int j) = decide (i = j) by simp]; exact .bl _
theorem evd_eqS {i j : Str} (ha : EvD ta σ B H (.str i)) (hb : EvD tb σ B H (.str j)) : EvD (tOp rEq ta tb) σ B H (.bool (decide (i = j))) := evd_op2 ha (fun _ _ => dps) hb (fun _ _ => dps) (fun _ _ q => ⟨rfl, q⟩) fun _ => by rw [show decide (V.str i = V.str j) = decide (i = j) by simp]; exact .bl _
theorem evd_neS {i j : Str} (ha : EvD ta σ B H (.str i)) (hb : EvD tb σ B H (.str j)) : EvD (tOp rNe ta tb) σ B H (.bool (!decide (i = j))) := evd_op2 ha (fun _ _ => dps) hb (fun _ _ => dps) (fun _ _ q => ⟨rfl, q⟩) fun _ => by rw [show decide (V.str i = V.str j) = decide (i = j) by simp]; exact .bl _
theorem evd_eqB {i j : Bool} (ha : EvD ta σ B H (.bool i)) (hb : EvD tb σ B H (.bool j)) : EvD (tOp rEq ta tb) σ B H (.bool (decide (i = j))) := evd_op2 ha (fun _ _ => dpb) hb (fun _ _ => dpb) (fun _ _ q => ⟨rfl, q⟩) fun _ => by rw [show decide (V.bl i = V.bl j) = decide (i = j) by simp]; exact .bl _
theorem evd_notBl {i j : Bool} (ha : EvD ta σ B H (.bool i)) (hb : EvD tb σ B H (.bool j)) : EvD (tOp rNotB ta tb) σ B H (.bool (!decide (i = j))) := evd_op2 ha (fun _ _ => dpb) hb (fun _ _ => dpb) (fun _ _ q => ⟨i, j, rfl, rfl, q⟩) fun _ => .bl _
def isNone : PyData → Bool
  | .none => true
  | _ => false
theorem evd_isN (ha : EvD ta σ B H d) : EvD (tIsN ta) σ B H (.bool (isNone d)) := fun H1 e eb Q q => ha H1 e eb _ fun v H2 B2 e2 x2 eb2 hd => by
  cases hd <;> exact q _ H2 B2 e2 x2 eb2 (.bl _)
theorem evd_notN (ha : EvD ta σ B H d) : EvD (tNotN ta) σ B H (.bool (!isNone d)) := fun H1 e eb Q q => ha H1 e eb _ fun v H2 B2 e2 x2 eb2 hd => by
  cases hd <;> exact q _ H2 B2 e2 x2 eb2 (.bl _)
def rAddStr : R2 := fun x y H Q => ∃ i j, x = .str i ∧ y = .str j ∧ i.length + j.length ≤ sizeLine ∧ Q (.str (i ++ j)) H
theorem op_addStr {X : Cx} : OpR X (binaryOp .Add) rAddStr := op_add_str
theorem evd_addS {i j : Str} (ha : EvD ta σ B H (.str i)) (hb : EvD tb σ B H (.str j)) (hl : i.length + j.length ≤ 100000 := by first | with_reducible assumption | omega | (simp only [PySem.Str.length_append]; omega)) : EvD (tOp rAddStr ta tb) σ B H (.str (i ++ j)) := evd_op2 ha (fun _ _ => dps) hb (fun _ _ => dps) (fun _ _ q => ⟨i, j, rfl, rfl, sz_of hl, q⟩) fun _ => .str _
/-! and, or, not; tests -/
theorem evd_and {a b : Bool} (h1 : EvD ta σ B H (.bool a)) (h2 : a = true → EvD tb σ B H (.bool b)) : EvD (tAndV ta tb) σ B H (.bool (a && b)) := fun H1 e eb Q q => h1.flat (fun _ _ => dpb) e eb fun H2 e2 => by
  refine ⟨a, rfl, ?_⟩
  cases a with
  | true => rw [if_pos rfl]; exact (h2 rfl).flat (fun _ _ => dpb) (e.trans e2) (eb.trans e2) fun H3 e3 => q _ H3 B (e2.trans e3) (Ext.refl B H1) (eb.trans (e2.trans e3)) (.bl _)
  | false => rw [if_neg (by decide)]; exact q _ H2 B e2 (Ext.refl B H1) (eb.trans e2) (.bl _)
theorem evd_or {a b : Bool} (h1 : EvD ta σ B H (.bool a)) (h2 : a = false → EvD tb σ B H (.bool b)) : EvD (tOrV ta tb) σ B H (.bool (a || b)) := fun H1 e eb Q q => h1.flat (fun _ _ => dpb) e eb fun H2 e2 => by
  refine ⟨a, rfl, ?_⟩
  cases a with
  | false => rw [if_neg (by decide)]; exact (h2 rfl).flat (fun _ _ => dpb) (e.trans e2) (eb.trans e2) fun H3 e3 => q _ H3 B (e2.trans e3) (Ext.refl B H1) (eb.trans (e2.trans e3)) (.bl _)
  | true => rw [if_pos rfl]; exact q _ H2 B e2 (Ext.refl B H1) (eb.trans e2) (.bl _)
theorem evd_not {a : Bool} (h1 : EvD ta σ B H (.bool a)) : EvD (tNotV ta) σ B H (.bool (!a)) := fun H1 e eb Q q => h1.flat (fun _ _ => dpb) e eb fun H2 e2 => ⟨a, rfl, q _ H2 B e2 (Ext.refl B H1) (eb.trans e2) (.bl _)⟩
theorem evb_B {b : Bool} (h : EvD te σ B H (.bool b)) : EvB (tB te) σ B H b := fun H1 e eb Q q => h.flat (fun _ _ => dpb) e eb fun H2 e2 => ⟨b, rfl, q H2 e2⟩
theorem evb_test {b : Bool} (h : EvD te σ B H (.bool b)) : EvB (tTest te) σ B H b := evb_B h
theorem evb_and {a b : Bool} (h1 : EvB tt σ B H a) (h2 : a = true → EvB tu σ B H b) : EvB (tAnd tt tu) σ B H (a && b) := fun H1 e eb Q q => h1 H1 e eb _ fun H2 e2 => by
  cases a with
  | true => rw [if_pos rfl]; exact h2 rfl H2 (e.trans e2) (eb.trans e2) Q fun H3 e3 => q H3 (e2.trans e3)
  | false => rw [if_neg (by decide)]; exact q H2 e2
theorem evb_or {a b : Bool} (h1 : EvB tt σ B H a) (h2 : a = false → EvB tu σ B H b) : EvB (tOr tt tu) σ B H (a || b) := fun H1 e eb Q q => h1 H1 e eb _ fun H2 e2 => by
  cases a with
  | false => rw [if_neg (by decide)]; exact h2 rfl H2 (e.trans e2) (eb.trans e2) Q fun H3 e3 => q H3 (e2.trans e3)
  | true => rw [if_pos rfl]; exact q H2 e2
theorem evb_not {a : Bool} (h1 : EvB tt σ B H a) : EvB (tNot tt) σ B H (!a) := fun H1 e eb Q q => h1 H1 e eb _ q
theorem evb_yes : EvB tYes σ B H true := fun H1 _ _ _ q => q H1 (Ex.refl H1)
theorem evd_chain {p q : Int → Int → Bool} {i j k : Int} (ha : EvD ta σ B H (.int i)) (hb : EvD tb σ B H (.int j)) (hc : EvD tc σ B H (.int k)) :
    EvD (tChain (rI0 fun i j => .bl (p i j)) (rI0 fun i j => .bl (q i j)) ta tb tc) σ B H (.bool (p i j && q j k)) := fun H1 e eb Q z => ha.flat (fun _ _ => dpi) e eb fun H2 e2 => hb.flat (fun _ _ => dpi) (e.trans e2) (eb.trans e2) fun H3 e3 => by
  refine ⟨i, j, rfl, rfl, p i j, rfl, ?_⟩
  cases hp : p i j with
  | true =>
    rw [if_pos rfl]
    refine hc.flat (fun _ _ => dpi) (e.trans (e2.trans e3)) (eb.trans (e2.trans e3)) fun H4 e4 => ⟨j, k, rfl, rfl, z _ H4 B (e2.trans (e3.trans e4)) (Ext.refl B H1) (eb.trans (e2.trans (e3.trans e4))) ?_⟩
    rw [hp, Bool.true_and]; exact .bl _
  | false =>
    rw [if_neg (by decide)]
    refine z _ H3 B (e2.trans e3) (Ext.refl B H1) (eb.trans (e2.trans e3)) ?_
    rw [hp, Bool.false_and]; exact .bl _
/-! arguments, tuples, lists -/
theorem evs_nil : EvDs tNil σ B H [] := fun H1 _ eb _ q => q [] H1 B (Ex.refl H1) (Ext.refl B H1) eb .nil
theorem evs_cons {tr : TA} {ds : List PyData} (h : EvD ta σ B H d) (hr : EvDs tr σ B H ds) : EvDs (tCons ta tr) σ B H (d :: ds) := fun H1 e eb Q q => h H1 e eb _ fun v H2 B2 e2 x2 eb2 hd =>
  (hr.mono x2.1 (e.trans e2)) H2 (Ex.refl H2) eb2 _ fun vs H3 B3 e3 x3 eb3 hds => q _ H3 B3 (e2.trans e3) (x2.trans e2 x3) eb3 (.cons (hd.ex' x3.1) hds)
theorem evd_tup {tr : TA} {ds : List PyData} (h : EvDs tr σ B H ds) (hl : ds.length ≤ 100000 := by first | exact Nat.le_of_ble_eq_true rfl | assumption | omega) : EvD (tTup tr) σ B H (.tuple ds) := fun H1 e eb Q q => h H1 e eb _ fun vs H2 B2 e2 x2 eb2 hds =>
  ⟨by rw [dpa_len hds]; exact sz_of hl, fun p hp => q _ _ (upd B2 p (.tup vs)) (e2.trans (Ex.new hp)) (x2.trans e2 (Ext.new eb2 hp)) (ex_upd2 eb2) (.tup upd_same (dpAll_ex (Ex.new (fresh_back eb2 hp)) _ _ hds))⟩
theorem evd_lst {tr : TA} {ds : List PyData} (h : EvDs tr σ B H ds) (hl : ds.length ≤ 100000 := by first | exact Nat.le_of_ble_eq_true rfl | assumption | omega) : EvD (tLst tr) σ B H (.list ds) := fun H1 e eb Q q => h H1 e eb _ fun vs H2 B2 e2 x2 eb2 hds =>
  ⟨by rw [dpa_len hds]; exact sz_of hl, fun p hp => q _ _ (upd B2 p (.lst vs)) (e2.trans (Ex.new hp)) (x2.trans e2 (Ext.new eb2 hp)) (ex_upd2 eb2) (.lst upd_same (dpAll_ex (Ex.new (fresh_back eb2 hp)) _ _ hds))⟩
/-- a call by values whose rule r gives d of ds -/
theorem evd_cb {r : List V → Hp → VK → Prop} {tr : TA} {ds : List PyData} (h : EvDs tr σ B H ds) (hr : ∀ H1 B1 vs, Ex H H1 → Ex B B1 → Ex B1 H1 → DaAll B1 vs ds → ∀ Q : VK, Ret d B1 H1 Q → r vs H1 Q) : EvD (tCB r tr) σ B H d :=
  fun H1 e eb Q q => h H1 e eb _ fun vs H2 B2 e2 x2 eb2 hds => hr H2 B2 vs (e.trans e2) x2.1 eb2 hds Q (q.grow e2 x2)
theorem evd_call {sp : Sp} {E : XK} {tr : TA} {ds : List PyData} (h : EvDs tr σ B H ds) (hr : ∀ H1 B1 vs, Ex H H1 → Ex B B1 → Ex B1 H1 → DaAll B1 vs ds → ∀ Q : VK, Ret d B1 H1 Q → sp vs H1 Q E) : EvD (tCall sp [] E tr) σ B H d :=
  fun H1 e eb Q q => h H1 e eb _ fun vs H2 B2 e2 x2 eb2 hds => by
    show sp (vs ++ []) H2 Q E
    rw [List.append_nil]
    exact hr H2 B2 vs (e.trans e2) x2.1 eb2 hds Q (q.grow e2 x2)
/-! subscripts, slices -/
theorem ixN_len {α β : Type} {xs : List α} {ys : List β} {i : Int} (h : xs.length = ys.length) : ixN xs.length i = ixN ys.length i := by rw [h]
theorem dpa_atI {vs : List V} {ds : List PyData} {i : Int} (h : DaAll B vs ds) (e : atI ds i = some d) : ∃ v, atI vs i = some v ∧ Da B v d := by
  unfold atI at e ⊢
  rw [dpa_len h]
  obtain ⟨j, e1, e2⟩ := Option.bind_eq_some_iff.mp e
  obtain ⟨v, e3, h3⟩ := dpa_at h e2
  exact ⟨v, by rw [e1]; exact e3, h3⟩
theorem evd_ixL {ds : List PyData} {i : Int} (ha : EvD ta σ B H (.list ds)) (hb : EvD tb σ B H (.int i)) (e : atI ds i = some d) : EvD (tOp (rIxL K) ta tb) σ B H d := fun H1 e1 eb Q q => ha H1 e1 eb _ fun v H2 B2 e2 x2 eb2 hd =>
  hb.flat (fun _ _ => dpi) (e1.trans e2) (eb.trans e2) fun H3 e3 => by
    obtain ⟨a, xs, rfl, hs, hx⟩ := dpl hd
    obtain ⟨z, hz, hdz⟩ := dpa_atI hx e
    exact ⟨a, xs, i, z, rfl, rfl, sq_of ((eb2.trans e3) _ _ hs), hz, q z H3 B2 (e2.trans e3) x2 (eb2.trans e3) hdz⟩
theorem evd_ixT {ds : List PyData} {i : Int} (ha : EvD ta σ B H (.tuple ds)) (hb : EvD tb σ B H (.int i)) (e : atI ds i = some d) : EvD (tOp (rIxT K) ta tb) σ B H d := fun H1 e1 eb Q q => ha H1 e1 eb _ fun v H2 B2 e2 x2 eb2 hd =>
  hb.flat (fun _ _ => dpi) (e1.trans e2) (eb.trans e2) fun H3 e3 => by
    obtain ⟨a, xs, rfl, hs, hx⟩ := dpt hd
    obtain ⟨z, hz, hdz⟩ := dpa_atI hx e
    exact ⟨a, xs, i, z, rfl, rfl, st_of ((eb2.trans e3) _ _ hs), hz, q z H3 B2 (e2.trans e3) x2 (eb2.trans e3) hdz⟩
theorem evd_ixS {z : Str} {i : Int} {c : Nat} (ha : EvD ta σ B H (.str z)) (hb : EvD tb σ B H (.int i)) (hl : z.length ≤ 100000 := by first | with_reducible assumption | omega) (e : atI z.cps.toList i = some c := by with_reducible assumption) : EvD (tOp rIxS ta tb) σ B H (.str ⟨#[c]⟩) :=
  evd_op2 ha (fun _ _ => dps) hb (fun _ _ => dpi) (fun _ _ q => ⟨z, i, c, rfl, rfl, sz_of hl, e, q⟩) fun _ => .str _
def EvO (to : TO) (σ : Sig) (B H : Hp) (o : Option Int) : Prop := ∀ H1, Ex H H1 → Ex B H1 → ∀ Q : Option Int → Hp → Prop, (∀ H2, Ex H1 H2 → Q o H2) → to σ H1 Q
theorem evo_none : EvO tNoPart σ B H none := fun H1 _ _ _ q => q H1 (Ex.refl H1)
theorem evo_some {i : Int} (h : EvD te σ B H (.int i)) : EvO (tPart te) σ B H (some i) := fun H1 e eb Q q => h.flat (fun _ _ => dpi) e eb fun H2 e2 => ⟨i, rfl, q H2 e2⟩
def cutD (xs : List PyData) (lo hi : Option Int) : List PyData := (xs.drop (HT.sIx xs.length 0 lo)).take (HT.sIx xs.length xs.length hi - HT.sIx xs.length 0 lo)
theorem dpa_cut {vs : List V} {ds : List PyData} {lo hi : Option Int} (h : DaAll B vs ds) : DaAll B (cutV vs lo hi) (cutD ds lo hi) := by
  unfold cutV cutD
  rw [dpa_len h]
  exact dpa_take (dpa_drop h)
variable {tl th : TO} {lo hi : Option Int}
theorem evd_slS {z : Str} (ha : EvD te σ B H (.str z)) (h1 : EvO tl σ B H lo) (h2 : EvO th σ B H hi) (hl : z.length ≤ 100000 := by first | with_reducible assumption | omega) : EvD (tSl rSlS te tl th) σ B H (.str (cutS z lo hi)) := fun H1 e eb Q q => ha.flat (fun _ _ => dps) e eb fun H2 e2 =>
  h1 H2 (e.trans e2) (eb.trans e2) _ fun H3 e3 => h2 H3 (e.trans (e2.trans e3)) (eb.trans (e2.trans e3)) _ fun H4 e4 => ⟨z, rfl, sz_of hl, q _ H4 B (e2.trans (e3.trans e4)) (Ext.refl B H1) (eb.trans (e2.trans (e3.trans e4))) (.str _)⟩
theorem evd_slL {ds : List PyData} (ha : EvD te σ B H (.list ds)) (h1 : EvO tl σ B H lo) (h2 : EvO th σ B H hi) : EvD (tSl (rSlL K) te tl th) σ B H (.list (cutD ds lo hi)) := fun H1 e eb Q q => ha H1 e eb _ fun v H2 B2 e2 x2 eb2 hd =>
  h1 H2 (e.trans e2) (eb.trans e2) _ fun H3 e3 => h2 H3 (e.trans (e2.trans e3)) (eb.trans (e2.trans e3)) _ fun H4 e4 => by
    obtain ⟨a, xs, rfl, hs, hx⟩ := dpl hd
    have eb4 : Ex B2 H4 := eb2.trans (e3.trans e4)
    have e4' : Ex H1 H4 := e2.trans (e3.trans e4)
    have x4 : Ext B H1 B2 := x2
    have n4 : ∀ p, H4 p = none → Ext B H1 (upd B2 p (.lst (cutV xs lo hi))) := fun p hp => x2.trans e4' (Ext.new eb4 hp)
    exact ⟨a, xs, rfl, sq_of (eb4 _ _ hs), fun p hp => q _ _ (upd B2 p (.lst (cutV xs lo hi))) (e4'.trans (Ex.new hp)) (n4 p hp) (ex_upd2 eb4) (.lst upd_same (dpAll_ex (Ex.new (fresh_back eb4 hp)) _ _ (dpa_cut hx)))⟩
theorem cutV_all {vs : List V} (h1 : HT.sIx vs.length 0 lo = 0) (h2 : HT.sIx vs.length vs.length hi = vs.length) : cutV vs lo hi = vs := by
  unfold cutV
  rw [h1, h2]
  simp
theorem evd_slT {ds : List PyData} (ha : EvD te σ B H (.tuple ds)) (h1 : EvO tl σ B H lo) (h2 : EvO th σ B H hi) : EvD (tSl (rSlA K) te tl th) σ B H (.tuple (cutD ds lo hi)) := fun H1 e eb Q q => ha H1 e eb _ fun v H2 B2 e2 x2 eb2 hd =>
  h1 H2 (e.trans e2) (eb.trans e2) _ fun H3 e3 => h2 H3 (e.trans (e2.trans e3)) (eb.trans (e2.trans e3)) _ fun H4 e4 => by
    obtain ⟨a, xs, rfl, hs, hx⟩ := dpt hd
    have eb4 : Ex B2 H4 := eb2.trans (e3.trans e4)
    have e4' : Ex H1 H4 := e2.trans (e3.trans e4)
    have hc := dpa_cut (lo := lo) (hi := hi) hx
    refine ⟨a, xs, rfl, st_of (eb4 _ _ hs), fun z => ?_, fun _ p hp => ?_⟩
    · rw [cutV_all z.1 z.2] at hc
      exact q _ H4 B2 e4' x2 eb4 (.tup hs hc)
    · exact q _ _ (upd B2 p (.tup (cutV xs lo hi))) (e4'.trans (Ex.new hp)) (x2.trans e4' (Ext.new eb4 hp)) (ex_upd2 eb4) (.tup upd_same (dpAll_ex (Ex.new (fresh_back eb4 hp)) _ _ hc))
theorem evd_revL {ds : List PyData} (ha : EvD te σ B H (.list ds)) : EvD (tRevL K te) σ B H (.list ds.reverse) := fun H1 e eb Q q => ha H1 e eb _ fun v H2 B2 e2 x2 eb2 hd => by
  obtain ⟨a, xs, rfl, hs, hx⟩ := dpl hd
  exact ⟨a, xs, rfl, sq_of (eb2 _ _ hs), fun p hp => q _ _ (upd B2 p (.lst xs.reverse)) (e2.trans (Ex.new hp)) (x2.trans e2 (Ext.new eb2 hp)) (ex_upd2 eb2) (.lst upd_same (dpAll_ex (Ex.new (fresh_back eb2 hp)) _ _ (dpa_rev hx)))⟩
/-! ### what is walked -/
/-- J gives ds, as long as what stands in B stands -/
def WkD (J : It) (ds : List PyData) (B : Hp) : Prop := ∃ (G : Hp → Prop) (Y : Nat → Hp → V → Hp → Prop), Walk J ds.length G Y ∧ (∀ H, Ex B H → G H) ∧
  ∀ i x H H', i < ds.length → Ex B H → Y i H x H' → Ex H H' ∧ ∀ d, ds[i]? = some d → ∃ B', Ext B H B' ∧ Ex B' H' ∧ Da B' x d
def SrcD (wi : TI) (σ : Sig) (B H : Hp) (ds : List PyData) : Prop := ∀ H1, Ex H H1 → Ex B H1 → ∀ R : It → Hp → Prop, (∀ J H2 B2, Ex H1 H2 → Ext B H1 B2 → Ex B2 H2 → WkD J ds B2 → R J H2) → wi σ H1 R
theorem wk_at {J : It} {xs : List V} {ds : List PyData} {G : Hp → Prop} (w : Walk J ds.length G (YAt xs)) (hg : ∀ H, Ex B H → G H) (hx : DaAll B xs ds) : WkD J ds B := ⟨G, _, w, hg, fun i x H H' hi eb y => by
  obtain ⟨rfl, y⟩ := y
  refine ⟨Ex.refl _, fun d hd => ?_⟩
  obtain ⟨d', e', h'⟩ := dpa_get hx y
  rw [hd] at e'
  cases e'
  exact ⟨B, Ext.refl _ _, eb, h'⟩⟩
theorem src_list {ds : List PyData} (h : EvD te σ B H (.list ds)) : SrcD (iList K te) σ B H ds := fun H1 e eb R q => h H1 e eb _ fun v H2 B2 e2 x2 eb2 hd => by
  obtain ⟨a, xs, rfl, hs, hx⟩ := dpl hd
  exact ⟨a, rfl, ⟨xs, sq_of (eb2 _ _ hs)⟩, q _ H2 B2 e2 x2 eb2 (wk_at (by rw [← dpa_len hx]; exact walk_list) (fun H3 e3 => sq_of (e3 _ _ hs)) hx)⟩
theorem src_tup {ds : List PyData} (h : EvD te σ B H (.tuple ds)) : SrcD (iTup K te) σ B H ds := fun H1 e eb R q => h H1 e eb _ fun v H2 B2 e2 x2 eb2 hd => by
  obtain ⟨a, xs, rfl, hs, hx⟩ := dpt hd
  exact ⟨a, rfl, ⟨xs, st_of (eb2 _ _ hs)⟩, q _ H2 B2 e2 x2 eb2 (wk_at (by rw [← dpa_len hx]; exact walk_tup) (fun H3 e3 => st_of (e3 _ _ hs)) hx)⟩
def rangeD (lo : Int) (n : Nat) : List PyData := (List.range n).map fun (i : Nat) => PyData.int (lo + (i : Int))
theorem rangeD_len (lo : Int) (n : Nat) : (rangeD lo n).length = n := by simp [rangeD]
theorem wk_range {lo : Int} {n : Nat} : WkD (Itr lo n) (rangeD lo n) B := ⟨_, _, by rw [rangeD_len]; exact walk_range, fun _ _ => trivial, fun i x H H' hi eb y => by
  obtain ⟨rfl, rfl⟩ := y
  rw [rangeD_len] at hi
  refine ⟨Ex.refl _, fun d hd => ⟨B, Ext.refl _ _, eb, ?_⟩⟩
  simp only [rangeD, List.getElem?_map, List.getElem?_range hi, Option.map_some, Option.some.injEq] at hd
  rw [← hd]
  exact .int _⟩
theorem src_range1 {tr : TA} {n : Int} (h : EvDs tr σ B H [.int n]) (hn : -1000000 ≤ n ∧ n ≤ 1000000 := by first | with_reducible assumption | (constructor <;> omega)) : SrcD (iRng1 tr) σ B H (rangeD 0 n.toNat) := fun H1 e eb R q => h H1 e eb _ fun vs H2 B2 e2 x2 eb2 hd => by
  obtain ⟨v, rfl, hv⟩ := dpa1 hd
  cases hv
  exact ⟨n, rfl, by have : (2:Int)^62 = 4611686018427387904 := by decide
                    omega, by have : (2:Int)^62 = 4611686018427387904 := by decide
                              omega, q _ H2 B2 e2 x2 eb2 wk_range⟩
theorem src_range2 {tr : TA} {m n : Int} (h : EvDs tr σ B H [.int m, .int n]) (hn : -1000000 ≤ m ∧ m ≤ 1000000 ∧ -1000000 ≤ n ∧ n ≤ 1000000 := by first | with_reducible assumption | (refine ⟨?_, ?_, ?_, ?_⟩ <;> omega)) : SrcD (iRng2 tr) σ B H (rangeD m (n - m).toNat) := fun H1 e eb R q => h H1 e eb _ fun vs H2 B2 e2 x2 eb2 hd => by
  obtain ⟨v, u, rfl, hv, hu⟩ := dpa2 hd
  cases hv
  cases hu
  have : (2:Int)^62 = 4611686018427387904 := by decide
  exact ⟨m, n, rfl, by omega, q _ H2 B2 e2 x2 eb2 wk_range⟩
def sign (c : Nat) : Str := ⟨#[c]⟩
def signsD (z : Str) : List PyData := z.cps.toList.map fun c => .str (sign c)
theorem src_str {z : Str} (h : EvD te σ B H (.str z)) : SrcD (iStr te) σ B H (signsD z) := fun H1 e eb R q => h.flat (fun _ _ => dps) e eb fun H2 e2 => ⟨z, rfl, q _ H2 B e2 (Ext.refl _ _) (eb.trans e2) ⟨_, _, by
    rw [show (signsD z).length = z.cps.size by simp [signsD]]
    exact walk_str, fun _ _ => trivial, fun i x H H' hi eb y => by
      obtain ⟨rfl, c, hc, rfl⟩ := y
      refine ⟨Ex.refl _, fun d hd => ⟨B, Ext.refl _ _, eb, ?_⟩⟩
      simp only [signsD, List.getElem?_map, Array.getElem?_toList, hc, Option.map_some, Option.some.injEq] at hd
      rw [← hd]
      exact .str _⟩⟩
theorem src_rev {tr : TA} {ds : List PyData} (h : EvDs tr σ B H [.list ds]) : SrcD (iRev K tr) σ B H ds.reverse := fun H1 e eb R q => h H1 e eb _ fun vs H2 B2 e2 x2 eb2 hd => by
  obtain ⟨v, rfl, hv⟩ := dpa1 hd
  obtain ⟨a, xs, rfl, hs, hx⟩ := dpl hv
  refine ⟨a, xs, rfl, sq_of (eb2 _ _ hs), q _ H2 B2 e2 x2 eb2 (wk_at (xs := xs.reverse) (G := fun H => SqL K H a xs) ?_ (fun H3 e3 => sq_of (e3 _ _ hs)) (dpa_rev hx))⟩
  rw [List.length_reverse, ← dpa_len hx]
  refine (walk_rev (xs := xs)).mono (fun _ g => g) fun i H x H' hi _ y => ⟨y.1, ?_⟩
  rw [List.getElem?_reverse hi]
  exact y.2
/-! ### comprehensions -/
theorem lc_take {α : Type} {ds : List α} {i : Nat} {d : α} (h : ds[i]? = some d) : ds.take (i + 1) = ds.take i ++ [d] := by
  rw [List.take_succ, h]; rfl
/-- [e for .. in .. if ..] over the things as, told by em: the target's reading g at an item gives slots in which the test and the element are known -/
theorem evd_lc {wi : TI} {g : TG} {vs : List Nat} {α : Type} {as : List α} (em : α → PyData) (c : α → Bool) (f : α → PyData) (hs : SrcD wi σ B H (as.map em)) (hl : as.length ≤ 40000)
    (ht : ∀ a ∈ as, ∀ x B1 H1, Ex B B1 → Ex H H1 → Ex B1 H1 → Da B1 x (em a) → ∀ R : Sig → Hp → Prop, (∀ σ2, wipe σ2 vs = wipe σ vs → EvB tt σ2 B1 H1 (c a) → (c a = true → EvD te σ2 B1 H1 (f a)) → R σ2 H1) → g x (wipe σ vs) H1 R) :
    EvD (tLc wi g tt te vs) σ B H (.list ((as.filter c).map f)) := fun H1 e eb Q q => hs H1 e eb _ fun J H2 B2 e2 x2 eb2 ⟨G, Y, w, hG, hY⟩ D hD => by
  have bD : B2 D = none := fresh_back eb2 hD
  refine lc_it w (fun i H3 => ∃ acc B3, Ex H2 H3 ∧ Ext B2 H2 B3 ∧ B3 D = none ∧ Ex B3 H3 ∧ H3 D = some (.lst acc) ∧ DaAll B3 acc (((as.take i).filter c).map f))
    ⟨[], B2, Ex.new hD, Ext.refl _ _, bD, Ex.mut eb2 bD, upd_same, .nil⟩ (fun i H3 _ ⟨_, B3, _, x3, _, eb3, _⟩ => hG H3 (x3.1.trans eb3)) ?_ ?_
  · rintro i x H3 H4 hi ⟨acc, B3, e3, x3, b3, eb3, hacc, hds⟩ y
    obtain ⟨e4, hd4⟩ := hY i x H3 H4 hi (x3.1.trans eb3) y
    rw [List.length_map] at hi
    obtain ⟨d, hd⟩ : ∃ d, as[i]? = some d := ⟨_, List.getElem?_eq_getElem hi⟩
    obtain ⟨B4, x4, eb4, hdx⟩ := hd4 (em d) (by rw [List.getElem?_map, hd]; rfl)
    have hmem : d ∈ as := List.mem_of_getElem? hd
    let B5 := uni B3 B4
    have eb34 : Ex B3 H4 := eb3.trans e4
    have eb5 : Ex B5 H4 := uni_ex eb34 eb4
    have b4D : B4 D = none := by rw [x4.2 D (by rw [hacc]; exact fun z => nomatch z), bD]
    have b5D : B5 D = none := by show uni B3 B4 D = none; unfold uni; rw [b3]; exact b4D
    have e42 : Ex B2 B5 := x3.1.trans uni_l
    have eH4 : Ex H2 H4 := e3.trans e4
    have x5 : Ext B2 H2 B5 := ⟨e42, fun p hp => by
      show uni B3 B4 p = B2 p
      unfold uni
      rw [x3.2 p hp]
      cases c2 : B2 p with
      | some o => rfl
      | none =>
        show B4 p = none
        rw [x4.2 p (by
          cases h2 : H2 p with
          | none => exact absurd h2 hp
          | some o => rw [e3 p o h2]; exact fun z => nomatch z), c2]⟩
    refine ht d hmem x B5 H4 (x2.1.trans e42) (e.trans (e2.trans eH4)) eb5 (hdx.ex' (uni_r eb34 eb4)) _ fun σ2 hw hb he => ⟨hw, ?_⟩
    refine hb H4 (Ex.refl _) eb5 _ fun H5 e5 => ?_
    have tk := lc_take hd
    cases hc : c d with
    | false =>
      rw [if_neg (by decide)]
      refine ⟨acc, B5, eH4.trans e5, x5, b5D, eb5.trans e5, e5 _ _ (e4 _ _ hacc), ?_⟩
      rw [tk, List.filter_append, List.map_append, show List.filter c [d] = [] by simp [hc], List.map_nil, List.append_nil]
      exact dpAll_ex uni_l _ _ hds
    | true =>
      rw [if_pos rfl]
      refine (he hc).mono (Ex.refl _) e5 H5 (Ex.refl _) (eb5.trans e5) _ fun y H6 B6 e6 x6 eb6 hdy => ?_
      have hacc6 : H6 D = some (.lst acc) := e6 _ _ (e5 _ _ (e4 _ _ hacc))
      have b6D : B6 D = none := by rw [x6.2 D (by rw [e5 _ _ (e4 _ _ hacc)]; exact fun z => nomatch z), b5D]
      have hds6 : DaAll B6 (acc ++ [y]) (((as.take (i + 1)).filter c).map f) := by
        rw [tk, List.filter_append, List.map_append, show List.filter c [d] = [d] by simp [hc]]
        exact dpa_app (dpAll_ex (uni_l.trans x6.1) _ _ hds) (.cons hdy .nil)
      refine ⟨acc, hacc6, ?_, acc ++ [y], B6, ?_, x5.trans (eH4.trans e5) x6, b6D, Ex.mut eb6 b6D, upd_same, hds6⟩
      · have := dpa_len hds
        rw [List.length_map] at this
        have l1 := List.length_filter_le c (as.take i)
        have l2 : (as.take i).length ≤ as.length := by rw [List.length_take]; omega
        exact sz_lt (by omega)
      · exact Ex.mut (eH4.trans (e5.trans e6)) hD
  · rintro H3 ⟨acc, B3, e3, x3, b3, eb3, hacc, hds⟩
    rw [List.length_map, List.take_length] at hds
    have x23 : Ext B H1 B3 := x2.trans e2 x3
    have eH : Ex H1 H3 := e2.trans e3
    have eU : Ex (upd B3 D (.lst acc)) H3 := fun a o h => by
      by_cases z : a = D
      · subst z; rw [upd_same] at h; cases h; exact hacc
      · rw [upd_ne z] at h; exact eb3 a o h
    refine q _ H3 (upd B3 D (.lst acc)) eH ⟨x23.1.trans (Ex.new b3), fun p hp => ?_⟩ eU (.lst upd_same (dpAll_ex (Ex.new b3) _ _ hds))
    rw [upd_ne fun z => ?_, x23.2 p hp]
    subst z
    cases h2 : H2 p with
    | none =>
      cases h1 : H1 p with
      | none => exact hp h1
      | some o => rw [e2 p o h1] at h2; cases h2
    | some o => rw [hD] at h2; cases h2
/-- one name, no test, over anything -/
theorem evd_lc1 {wi : TI} {j : Nat} {vs : List Nat} {α : Type} {as : List α} (em : α → PyData) (f : α → PyData) (hs : SrcD wi σ B H (as.map em)) (hl : as.length ≤ 40000) (hw : ∀ x, wipe ((wipe σ vs).set j (some x)) vs = wipe σ vs)
    (he : ∀ a ∈ as, ∀ x B1 H1, Ex B B1 → Ex H H1 → Ex B1 H1 → Da B1 x (em a) → EvD te ((wipe σ vs).set j (some x)) B1 H1 (f a)) : EvD (tLc wi (gName j) tYes te vs) σ B H (.list (as.map f)) := by
  have h := evd_lc (tt := tYes) (te := te) (g := gName j) em (fun _ => true) f hs hl fun a ha x B1 H1 eb eh e hx R k => k _ (hw x) evb_yes fun _ => he a ha x B1 H1 eb eh e hx
  rwa [List.filter_eq_self.mpr (fun _ _ => rfl)] at h
/-- .. over range(n) -/
theorem evd_lcR {tr : TA} {j : Nat} {vs : List Nat} {n : Int} (f : Nat → PyData) (hs : EvDs tr σ B H [.int n]) (hn : 0 ≤ n ∧ n ≤ 10000) (hw : ∀ x, wipe ((wipe σ vs).set j (some x)) vs = wipe σ vs)
    (he : ∀ i : Nat, (i : Int) < n → ∀ B1 H1, Ex B B1 → Ex H H1 → Ex B1 H1 → EvD te ((wipe σ vs).set j (some (.int (i : Int)))) B1 H1 (f i)) : EvD (tLc (iRng1 tr) (gName j) tYes te vs) σ B H (.list ((List.range n.toNat).map f)) := by
  have hsrc : SrcD (iRng1 tr) σ B H ((List.range n.toNat).map fun (i : Nat) => PyData.int (i : Int)) := by
    have := src_range1 hs (by omega)
    unfold rangeD at this
    simpa only [Int.zero_add] using this
  refine evd_lc1 (fun (i : Nat) => PyData.int (i : Int)) f hsrc (by rw [List.length_range]; omega) hw fun i hi x B1 H1 eb eh e hx => ?_
  cases hx
  exact he i (by rw [List.mem_range] at hi; omega) B1 H1 eb eh e
end
end GK

namespace GK
open PySem PySem.Spec PyProof.Rows L2
open Evl (Ex ex_l ex_t ex_rd sq_of st_of sz_of sz_lt fresh_back)
section
variable {K : PySem.W.Frag} {σ : Sig} {B B' H H' : Hp} {te ta tb tc : TE} {tt : TT} {d d1 d2 : PyData} {v : V} {D : Ends} {tx tz tu : TS} {i : Nat}
/-! ### statements -/
theorem q_asg (h : EvD te σ B H d) (eb : Ex B H) (k : ∀ v H1 B1, Ex H H1 → Ext B H B1 → Ex B1 H1 → Da B1 v d → tz D (σ.set i (some v)) H1) : tSeq (tAsg te (gName i)) tz D σ H := h.run eb k
theorem q_asgI {n : Int} (h : EvD te σ B H (.int n)) (eb : Ex B H) (k : ∀ H1, Ex H H1 → Ex B H1 → tz D (σ.set i (some (.int n))) H1) : tSeq (tAsg te (gName i)) tz D σ H := h.flat (fun _ _ => dpi) (Ex.refl _) eb fun H1 e => k H1 e (eb.trans e)
theorem q_asgS {x : Str} (h : EvD te σ B H (.str x)) (eb : Ex B H) (k : ∀ H1, Ex H H1 → Ex B H1 → tz D (σ.set i (some (.str x))) H1) : tSeq (tAsg te (gName i)) tz D σ H := h.flat (fun _ _ => dps) (Ex.refl _) eb fun H1 e => k H1 e (eb.trans e)
theorem q_asgB {b : Bool} (h : EvD te σ B H (.bool b)) (eb : Ex B H) (k : ∀ H1, Ex H H1 → Ex B H1 → tz D (σ.set i (some (.bl b))) H1) : tSeq (tAsg te (gName i)) tz D σ H := h.flat (fun _ _ => dpb) (Ex.refl _) eb fun H1 e => k H1 e (eb.trans e)
theorem q_asgN (h : EvD te σ B H .none) (eb : Ex B H) (k : ∀ H1, Ex H H1 → Ex B H1 → tz D (σ.set i (some .non)) H1) : tSeq (tAsg te (gName i)) tz D σ H := h.flat (fun _ _ => dpn) (Ex.refl _) eb fun H1 e => k H1 e (eb.trans e)
theorem s_asg (h : EvD te σ B H d) (eb : Ex B H) (k : ∀ v H1 B1, Ex H H1 → Ext B H B1 → Ex B1 H1 → Da B1 v d → D.nx (σ.set i (some v)) H1) : tAsg te (gName i) D σ H := h.run eb k
theorem s_asgI {n : Int} (h : EvD te σ B H (.int n)) (eb : Ex B H) (k : ∀ H1, Ex H H1 → Ex B H1 → D.nx (σ.set i (some (.int n))) H1) : tAsg te (gName i) D σ H := h.flat (fun _ _ => dpi) (Ex.refl _) eb fun H1 e => k H1 e (eb.trans e)
theorem s_asgS {x : Str} (h : EvD te σ B H (.str x)) (eb : Ex B H) (k : ∀ H1, Ex H H1 → Ex B H1 → D.nx (σ.set i (some (.str x))) H1) : tAsg te (gName i) D σ H := h.flat (fun _ _ => dps) (Ex.refl _) eb fun H1 e => k H1 e (eb.trans e)
theorem s_ret (h : EvD te σ B H d) (eb : Ex B H) (r : Ret d B H D.rt) : tRet te D σ H := h.run eb r
theorem q_drop (h : EvD te σ B H d) (eb : Ex B H) (k : ∀ H1 B1, Ex H H1 → Ext B H B1 → Ex B1 H1 → tz D σ H1) : tSeq (tDrop te) tz D σ H := h.run eb fun _ H1 B1 e x ex _ => k H1 B1 e x ex
theorem s_drop (h : EvD te σ B H d) (eb : Ex B H) (k : ∀ H1 B1, Ex H H1 → Ext B H B1 → Ex B1 H1 → D.nx σ H1) : tDrop te D σ H := h.run eb fun _ H1 B1 e x ex _ => k H1 B1 e x ex
theorem s_if {b : Bool} (h : EvB tt σ B H b) (eb : Ex B H) (h1 : b = true → ∀ H1, Ex H H1 → Ex B H1 → tx D σ H1) (h2 : b = false → ∀ H1, Ex H H1 → Ex B H1 → tu D σ H1) : tIfS tt tx tu D σ H := h H (Ex.refl _) eb _ fun H1 e => by
  cases b with
  | true => rw [if_pos rfl]; exact h1 rfl H1 e (eb.trans e)
  | false => rw [if_neg (by decide)]; exact h2 rfl H1 e (eb.trans e)
theorem q_if {b : Bool} (h : EvB tt σ B H b) (eb : Ex B H) (h1 : b = true → ∀ H1, Ex H H1 → Ex B H1 → tx { D with nx := tz D } σ H1) (h2 : b = false → ∀ H1, Ex H H1 → Ex B H1 → tu { D with nx := tz D } σ H1) : tSeq (tIfS tt tx tu) tz D σ H := s_if (D := { D with nx := tz D }) h eb h1 h2
theorem q_when {b : Bool} (h : EvB tt σ B H b) (eb : Ex B H) (h1 : b = true → ∀ H1, Ex H H1 → Ex B H1 → tx { D with nx := tz D } σ H1) (h2 : b = false → ∀ H1, Ex H H1 → Ex B H1 → tz D σ H1) : tSeq (tIfS tt tx tNext) tz D σ H := s_if (D := { D with nx := tz D }) h eb h1 h2
theorem s_when {b : Bool} (h : EvB tt σ B H b) (eb : Ex B H) (h1 : b = true → ∀ H1, Ex H H1 → Ex B H1 → tx D σ H1) (h2 : b = false → ∀ H1, Ex H H1 → Ex B H1 → D.nx σ H1) : tIfS tt tx tNext D σ H := s_if h eb h1 h2
/-- an if that is known not to be taken (the law's checks) -/
theorem q_pass (h : EvB tt σ B H false) (eb : Ex B H) (h2 : ∀ H1, Ex H H1 → Ex B H1 → tz D σ H1) : tSeq (tIfS tt tx tNext) tz D σ H := q_when h eb (fun z => nomatch z) fun _ => h2
theorem s_pass (h : EvB tt σ B H false) (eb : Ex B H) (h2 : ∀ H1, Ex H H1 → Ex B H1 → D.nx σ H1) : tIfS tt tx tNext D σ H := s_when h eb (fun z => nomatch z) fun _ => h2
/-- for: Pv over the turn, the slots, the heap; B1 the frame at the loop's start, with what is walked -/
theorem s_for {wi : TI} {g : TG} {ds : List PyData} (hs : SrcD wi σ B H ds) (eb : Ex B H) (Pv : Hp → Nat → Sig → Hp → Prop)
    (h0 : ∀ H1 B1, Ex H H1 → Ext B H B1 → Ex B1 H1 → Pv B1 0 σ H1) (hb : ∀ B1 i σ1 H1, i ≤ ds.length → Pv B1 i σ1 H1 → Ex B1 H1)
    (ht : ∀ B1 i d x σ1 H1 H2 B2, Ex B B1 → ds[i]? = some d → Pv B1 i σ1 H1 → Ex H1 H2 → Ext B1 H1 B2 → Ex B2 H2 → Da B2 x d → g x σ1 H2 fun σ2 H3 => tx { D with nx := Pv B1 (i + 1), ct := Pv B1 (i + 1), bk := D.nx } σ2 H3)
    (hd : ∀ B1 σ1 H1, Ex B B1 → Pv B1 ds.length σ1 H1 → D.nx σ1 H1) : tFor wi g tx D σ H := hs H (Ex.refl _) eb _ fun J H2 B2 e2 x2 eb2 ⟨G, Y, w, hG, hY⟩ => by
  refine for_it w (Pv B2) (h0 H2 B2 e2 x2 eb2) (fun i σ1 H1 hi p => hG H1 (hb B2 i σ1 H1 hi p)) (fun i x σ1 H1 H3 hi p y => ?_) (fun σ1 H1 p => hd B2 σ1 H1 x2.1 p)
  have eb1 := hb B2 i σ1 H1 (Nat.le_of_lt hi) p
  obtain ⟨e3, hd3⟩ := hY i x H1 H3 hi eb1 y
  obtain ⟨d, hdd⟩ : ∃ d, ds[i]? = some d := ⟨_, List.getElem?_eq_getElem hi⟩
  obtain ⟨B3, x3, eb3, hdx⟩ := hd3 d hdd
  exact ht B2 i d x σ1 H1 H3 B3 x2.1 hdd p e3 x3 eb3 hdx
theorem q_for {wi : TI} {g : TG} {ds : List PyData} (hs : SrcD wi σ B H ds) (eb : Ex B H) (Pv : Hp → Nat → Sig → Hp → Prop)
    (h0 : ∀ H1 B1, Ex H H1 → Ext B H B1 → Ex B1 H1 → Pv B1 0 σ H1) (hb : ∀ B1 i σ1 H1, i ≤ ds.length → Pv B1 i σ1 H1 → Ex B1 H1)
    (ht : ∀ B1 i d x σ1 H1 H2 B2, Ex B B1 → ds[i]? = some d → Pv B1 i σ1 H1 → Ex H1 H2 → Ext B1 H1 B2 → Ex B2 H2 → Da B2 x d → g x σ1 H2 fun σ2 H3 => tx { D with nx := Pv B1 (i + 1), ct := Pv B1 (i + 1), bk := tz D } σ2 H3)
    (hd : ∀ B1 σ1 H1, Ex B B1 → Pv B1 ds.length σ1 H1 → tz D σ1 H1) : tSeq (tFor wi g tx) tz D σ H := s_for (D := { D with nx := tz D }) hs eb Pv h0 hb ht hd
/-! ### built-ins -/
theorem retOf {Q : VK} {B H : Hp} (q : Ret d B H Q) (eb : Ex B H) (hd : Da B v d) : Q v H := q.at eb hd
def rLenStr : List V → Hp → VK → Prop := fun xs H Q => ∃ z, xs = [.str z] ∧ z.length ≤ sizeLine ∧ Q (.int z.length) H
theorem cr_lenStr {X : Cx} : CallR X (.builtin "len") rLenStr := call_len_str
def rLenSeq (K : PySem.W.Frag) : List V → Hp → VK → Prop := fun xs H Q => ∃ p ys, xs = [.ref p] ∧ (SqL K H p ys ∨ SqT K H p ys) ∧ Q (.int ys.length) H
theorem cr_lenSeq {X : Cx} : CallR X (.builtin "len") (rLenSeq X.K) := call_len_seq
def rLenDict : List V → Hp → VK → Prop := fun xs H Q => ∃ a kvs, xs = [V.ref a] ∧ H a = some (.dK kvs) ∧ Q (.int kvs.length) H
theorem cr_lenDict {X : Cx} : CallR X (.builtin "len") rLenDict := call_lenD
theorem evd_lenS {z : Str} (h : EvD ta σ B H (.str z)) (hl : z.length ≤ 1000000 := by first | with_reducible assumption | omega) : EvD (tCB rLenStr (tCons ta tNil)) σ B H (.int z.length) := evd_cb (evs_cons h evs_nil) fun H1 B1 vs _ _ eb hd Q q => by
  obtain ⟨v, rfl, hv⟩ := dpa1 hd
  cases hv
  exact ⟨z, rfl, Nat.le_trans hl (by decide), q.at eb (.int _)⟩
theorem evd_lenL {ds : List PyData} (h : EvD ta σ B H (.list ds)) : EvD (tCB (rLenSeq K) (tCons ta tNil)) σ B H (.int ds.length) := evd_cb (evs_cons h evs_nil) fun H1 B1 vs _ _ eb hd Q q => by
  obtain ⟨v, rfl, hv⟩ := dpa1 hd
  obtain ⟨a, xs, rfl, hs, hx⟩ := dpl hv
  exact ⟨a, xs, rfl, .inl (sq_of (eb _ _ hs)), by rw [dpa_len hx]; exact q.at eb (.int _)⟩
theorem evd_lenT {ds : List PyData} (h : EvD ta σ B H (.tuple ds)) : EvD (tCB (rLenSeq K) (tCons ta tNil)) σ B H (.int ds.length) := evd_cb (evs_cons h evs_nil) fun H1 B1 vs _ _ eb hd Q q => by
  obtain ⟨v, rfl, hv⟩ := dpa1 hd
  obtain ⟨a, xs, rfl, hs, hx⟩ := dpt hv
  exact ⟨a, xs, rfl, .inr (st_of (eb _ _ hs)), by rw [dpa_len hx]; exact q.at eb (.int _)⟩
def rStrInt : List V → Hp → VK → Prop := fun xs H Q => ∃ i, xs = [.int i] ∧ i.natAbs.log2 < 1920 ∧ Q (.str (toString i)) H
theorem cr_strInt {X : Cx} : CallR X (.type "str") rStrInt := call_str_int
theorem log2_small {i : Int} (h : -1000000000 ≤ i ∧ i ≤ 1000000000) : i.natAbs.log2 < 1920 := by
  have h1 : i.natAbs ≤ 1000000000 := by omega
  by_cases h0 : i.natAbs = 0
  · rw [h0]; decide
  · rw [Nat.log2_lt h0]
    exact Nat.lt_of_le_of_lt h1 (Nat.lt_of_lt_of_le (by decide : 1000000000 < 2 ^ 30) (Nat.pow_le_pow_right (by decide) (by decide)))
theorem evd_strI {n : Int} (h : EvD ta σ B H (.int n)) (hl : -1000000000 ≤ n ∧ n ≤ 1000000000 := by first | with_reducible assumption | (constructor <;> omega)) : EvD (tCB rStrInt (tCons ta tNil)) σ B H (.str (toString n)) := evd_cb (evs_cons h evs_nil) fun H1 B1 vs _ _ eb hd Q q => by
  obtain ⟨v, rfl, hv⟩ := dpa1 hd
  cases hv
  exact ⟨n, rfl, log2_small hl, q.at eb (.str _)⟩
def rOrd1 : List V → Hp → VK → Prop := fun xs H Q => ∃ x, xs = [.str x] ∧ x.length = 1 ∧ Q (.int (x.cps.getD 0 0 : Nat)) H
theorem cr_ord1 {X : Cx} : CallR X (.builtin "ord") rOrd1 := call_ord
theorem evd_ord {c : Nat} (h : EvD ta σ B H (.str (sign c))) : EvD (tCB rOrd1 (tCons ta tNil)) σ B H (.int c) := evd_cb (evs_cons h evs_nil) fun H1 B1 vs _ _ eb hd Q q => by
  obtain ⟨v, rfl, hv⟩ := dpa1 hd
  cases hv
  exact ⟨sign c, rfl, rfl, q.at eb (.int _)⟩
theorem evd_sum {ns : List Int} (h : EvD ta σ B H (.list (ns.map .int))) : EvD (tCB (rSum K) (tCons ta tNil)) σ B H (.int ns.sum) := evd_cb (evs_cons h evs_nil) fun H1 B1 vs _ _ eb hd Q q => by
  obtain ⟨v, rfl, hv⟩ := dpa1 hd
  obtain ⟨a, xs, rfl, hs, hx⟩ := dpl hv
  exact ⟨a, ns, rfl, by rw [← dpa_ints hx]; exact sq_of (eb _ _ hs), q.at eb (.int _)⟩
theorem evd_all {bs : List Bool} (h : EvD ta σ B H (.list (bs.map .bool))) : EvD (tCB (rAll K) (tCons ta tNil)) σ B H (.bool (bs.all id)) := evd_cb (evs_cons h evs_nil) fun H1 B1 vs _ _ eb hd Q q => by
  obtain ⟨v, rfl, hv⟩ := dpa1 hd
  obtain ⟨a, xs, rfl, hs, hx⟩ := dpl hv
  exact ⟨a, bs, rfl, by rw [← dpa_bools hx]; exact sq_of (eb _ _ hs), q.at eb (.bl _)⟩
theorem evd_any {bs : List Bool} (h : EvD ta σ B H (.list (bs.map .bool))) : EvD (tCB (rAny K) (tCons ta tNil)) σ B H (.bool (bs.any id)) := evd_cb (evs_cons h evs_nil) fun H1 B1 vs _ _ eb hd Q q => by
  obtain ⟨v, rfl, hv⟩ := dpa1 hd
  obtain ⟨a, xs, rfl, hs, hx⟩ := dpl hv
  exact ⟨a, bs, rfl, by rw [← dpa_bools hx]; exact sq_of (eb _ _ hs), q.at eb (.bl _)⟩
def rTupleOf (K : PySem.W.Frag) : List V → Hp → VK → Prop := fun xs H Q => ∃ p ys, xs = [.ref p] ∧ ((SqL K H p ys ∧ ∀ l, H l = none → Q (.ref l) (upd H l (.tup ys))) ∨ (SqT K H p ys ∧ Q (.ref p) H))
theorem cr_tupleOf {X : Cx} : CallR X (.type "tuple") (rTupleOf X.K) := call_tuple_of
theorem evd_tupleL {ds : List PyData} (h : EvD ta σ B H (.list ds)) : EvD (tCB (rTupleOf K) (tCons ta tNil)) σ B H (.tuple ds) := evd_cb (evs_cons h evs_nil) fun H1 B1 vs _ _ eb hd Q q => by
  obtain ⟨v, rfl, hv⟩ := dpa1 hd
  obtain ⟨a, xs, rfl, hs, hx⟩ := dpl hv
  exact ⟨a, xs, rfl, .inl ⟨sq_of (eb _ _ hs), fun p hp => q _ _ (upd B1 p (.tup xs)) (Ex.new hp) (Ext.new eb hp) (ex_upd2 eb) (.tup upd_same (dpAll_ex (Ex.new (fresh_back eb hp)) _ _ hx))⟩⟩
def rMaxI : List V → Hp → VK → Prop := fun xs H Q => ∃ i j, xs = [.int i, .int j] ∧ Q (.int (if j > i then j else i)) H
def rMinI : List V → Hp → VK → Prop := fun xs H Q => ∃ i j, xs = [.int i, .int j] ∧ Q (.int (if j < i then j else i)) H
theorem cr_maxI {X : Cx} (hc : X.calm = true) : CallR X (.builtin "max") rMaxI := call_max2 hc
theorem cr_minI {X : Cx} (hc : X.calm = true) : CallR X (.builtin "min") rMinI := call_min2 hc
theorem evd_max {i j : Int} (h : EvD ta σ B H (.int i)) (h' : EvD tb σ B H (.int j)) : EvD (tCB rMaxI (tCons ta (tCons tb tNil))) σ B H (.int (max i j)) := evd_cb (evs_cons h (evs_cons h' evs_nil)) fun H1 B1 vs _ _ eb hd Q q => by
  obtain ⟨v, u, rfl, hv, hu⟩ := dpa2 hd
  cases hv
  cases hu
  refine ⟨i, j, rfl, q.at eb ?_⟩
  rw [show (if j > i then j else i) = max i j by omega]
  exact .int _
theorem evd_min {i j : Int} (h : EvD ta σ B H (.int i)) (h' : EvD tb σ B H (.int j)) : EvD (tCB rMinI (tCons ta (tCons tb tNil))) σ B H (.int (min i j)) := evd_cb (evs_cons h (evs_cons h' evs_nil)) fun H1 B1 vs _ _ eb hd Q q => by
  obtain ⟨v, u, rfl, hv, hu⟩ := dpa2 hd
  cases hv
  cases hu
  refine ⟨i, j, rfl, q.at eb ?_⟩
  rw [show (if j < i then j else i) = min i j by omega]
  exact .int _
def rIntB : List V → Hp → VK → Prop := fun xs H Q => (∃ i, xs = [.int i] ∧ Q (.int i) H) ∨ ∃ k, xs = [.bl k] ∧ Q (.int (if k then 1 else 0)) H
theorem cr_intB {X : Cx} : CallR X (.type "int") rIntB := call_int1
theorem evd_intB {b : Bool} (h : EvD ta σ B H (.bool b)) : EvD (tCB rIntB (tCons ta tNil)) σ B H (.int (if b then 1 else 0)) := evd_cb (evs_cons h evs_nil) fun H1 B1 vs _ _ eb hd Q q => by
  obtain ⟨v, rfl, hv⟩ := dpa1 hd
  cases hv
  exact .inr ⟨b, rfl, q.at eb (.int _)⟩
/-! ### texts -/
abbrev RM := V → List V → Hp → VK → Prop
def rJoin (K : PySem.W.Frag) : RM := fun x xs H Q => ∃ a p, ∃ ys : List Str, x = .str a ∧ xs = [.ref p] ∧ (SqL K H p (ys.map V.str) ∨ SqT K H p (ys.map V.str)) ∧ (ys.map (·.length)).sum + ys.length * a.length ≤ 16777216 ∧ Q (.str (Txt.join a ys)) H
theorem mtr_join {X : Cx} : MtR X "str.join" (rJoin X.K) := mt_join
def rZfill : RM := fun x xs H Q => ∃ (a : Str) (i : Int), x = .str a ∧ xs = [.int i] ∧ PadOk i = true ∧ Q (.str (Txt.zfill a i)) H
theorem mtr_zfill {X : Cx} : MtR X "str.zfill" rZfill := mt_zfill
def rStarts : RM := fun x xs H Q => ∃ a b, x = .str a ∧ xs = [.str b] ∧ Q (.bl (Txt.startswith a b)) H
theorem mtr_starts {X : Cx} : MtR X "str.startswith" rStarts := mt_startswith
def rCount : RM := fun x xs H Q => ∃ a b, x = .str a ∧ xs = [.str b] ∧ Q (.int (Txt.count a b)) H
theorem mtr_count {X : Cx} : MtR X "str.count" rCount := mt_count
def rSplit : RM := fun x xs H Q => ∃ a b, x = .str a ∧ xs = [.str b] ∧ (b.length == 0) = false ∧ a.length + 2 ≤ sizeLine ∧ rNewStrs (Txt.split a b) H Q
theorem mtr_split {X : Cx} : MtR X "str.split" rSplit := mt_split
theorem evd_m1 {r : RM} {x : Str} (h : EvD ta σ B H (.str x)) (h' : EvD tb σ B H d1) (hr : ∀ H1 B1 v, Ex B1 H1 → Da B1 v d1 → ∀ Q : VK, Ret d B1 H1 Q → r (.str x) [v] H1 Q) : EvD (tM1 r ta tb) σ B H d := fun H1 e eb Q q => h.flat (fun _ _ => dps) e eb fun H2 e2 =>
  ⟨⟨x, rfl⟩, h'.mono (Ex.refl _) (e.trans e2) H2 (Ex.refl _) (eb.trans e2) _ fun v H3 B3 e3 x3 eb3 hd => hr H3 B3 v eb3 hd Q (q.grow (e2.trans e3) ⟨x3.1, fun p hp => x3.2 p (by
    cases h1 : H1 p with
    | none => exact absurd h1 hp
    | some o => rw [e2 p o h1]; exact fun z => nomatch z)⟩)⟩
theorem evd_join {x : Str} {ys : List Str} (h : EvD ta σ B H (.str x)) (h' : EvD tb σ B H (.list (ys.map .str))) (hl : (ys.map (·.length)).sum + ys.length * x.length ≤ 16777216) : EvD (tM1 (rJoin K) ta tb) σ B H (.str (Txt.join x ys)) :=
  evd_m1 h h' fun H1 B1 v eb hv Q q => by
    obtain ⟨a, xs, rfl, hs, hx⟩ := dpl hv
    exact ⟨x, a, ys, rfl, rfl, .inl (by rw [← dpa_strs hx]; exact sq_of (eb _ _ hs)), hl, q.at eb (.str _)⟩
theorem evd_joinT {x : Str} {ys : List Str} (h : EvD ta σ B H (.str x)) (h' : EvD tb σ B H (.tuple (ys.map .str))) (hl : (ys.map (·.length)).sum + ys.length * x.length ≤ 16777216) : EvD (tM1 (rJoin K) ta tb) σ B H (.str (Txt.join x ys)) :=
  evd_m1 h h' fun H1 B1 v eb hv Q q => by
    obtain ⟨a, xs, rfl, hs, hx⟩ := dpt hv
    exact ⟨x, a, ys, rfl, rfl, .inr (by rw [← dpa_strs hx]; exact st_of (eb _ _ hs)), hl, q.at eb (.str _)⟩
theorem evd_zfill {x : Str} {n : Int} (h : EvD ta σ B H (.str x)) (h' : EvD tb σ B H (.int n)) (hl : PadOk n = true := by rfl) : EvD (tM1 rZfill ta tb) σ B H (.str (Txt.zfill x n)) :=
  evd_m1 h h' fun H1 B1 v eb hv Q q => by cases hv; exact ⟨x, n, rfl, rfl, hl, q.at eb (.str _)⟩
theorem evd_starts {x y : Str} (h : EvD ta σ B H (.str x)) (h' : EvD tb σ B H (.str y)) : EvD (tM1 rStarts ta tb) σ B H (.bool (Txt.startswith x y)) :=
  evd_m1 h h' fun H1 B1 v eb hv Q q => by cases hv; exact ⟨x, y, rfl, rfl, q.at eb (.bl _)⟩
theorem evd_count {x y : Str} (h : EvD ta σ B H (.str x)) (h' : EvD tb σ B H (.str y)) : EvD (tM1 rCount ta tb) σ B H (.int (Txt.count x y)) :=
  evd_m1 h h' fun H1 B1 v eb hv Q q => by cases hv; exact ⟨x, y, rfl, rfl, q.at eb (.int _)⟩
theorem evd_split {x y : Str} (h : EvD ta σ B H (.str x)) (h' : EvD tb σ B H (.str y)) (hy : (y.length == 0) = false) (hl : x.length ≤ 100000) : EvD (tM1 rSplit ta tb) σ B H (.list ((Txt.split x y).map .str)) :=
  evd_m1 h h' fun H1 B1 v eb hv Q q => by
    cases hv
    exact ⟨x, y, rfl, rfl, hy, by have : (100002 : Nat) ≤ sizeLine := by decide
                                  omega, fun p hp => q _ _ (upd B1 p (.lst ((Txt.split x y).map V.str))) (Ex.new hp) (Ext.new eb hp) (ex_upd2 eb) (.lst upd_same (dpa_ofStrs _))⟩
def rInSign : R2 := fun x y H Q => ∃ (c : Nat) (z : Str), x = .str ⟨#[c]⟩ ∧ y = .str z ∧ Q (.bl (decide (c ∈ z.cps.toList))) H
def rNotInSign : R2 := fun x y H Q => ∃ (c : Nat) (z : Str), x = .str ⟨#[c]⟩ ∧ y = .str z ∧ Q (.bl (!decide (c ∈ z.cps.toList))) H
theorem opr_inSign {X : Cx} : OpR X (compareOp .In) rInSign := op_in_sign
theorem opr_notInSign {X : Cx} : OpR X (compareOp .NotIn) rNotInSign := op_notIn_sign
theorem evd_inSign {c : Nat} {z : Str} (ha : EvD ta σ B H (.str (sign c))) (hb : EvD tb σ B H (.str z)) : EvD (tOp rInSign ta tb) σ B H (.bool (decide (c ∈ z.cps.toList))) := evd_op2 ha (fun _ _ => dps) hb (fun _ _ => dps) (fun _ _ q => ⟨c, z, rfl, rfl, q⟩) fun _ => .bl _
theorem evd_notInSign {c : Nat} {z : Str} (ha : EvD ta σ B H (.str (sign c))) (hb : EvD tb σ B H (.str z)) : EvD (tOp rNotInSign ta tb) σ B H (.bool (!decide (c ∈ z.cps.toList))) := evd_op2 ha (fun _ _ => dps) hb (fun _ _ => dps) (fun _ _ q => ⟨c, z, rfl, rfl, q⟩) fun _ => .bl _
def rGtStr : R2 := fun x y H Q => ∃ i j, x = .str i ∧ y = .str j ∧ Q (.bl (decide (j.cps.toList < i.cps.toList))) H
theorem opr_gtStr {X : Cx} : OpR X (compareOp .Gt) rGtStr := op_gt_str
theorem evd_gtS {x y : Str} (ha : EvD ta σ B H (.str x)) (hb : EvD tb σ B H (.str y)) : EvD (tOp rGtStr ta tb) σ B H (.bool (decide (y.cps.toList < x.cps.toList))) := evd_op2 ha (fun _ _ => dps) hb (fun _ _ => dps) (fun _ _ q => ⟨x, y, rfl, rfl, q⟩) fun _ => .bl _
/-! ### lists, tuples joined; in; == -/
theorem evd_catL {ds es : List PyData} (ha : EvD ta σ B H (.list ds)) (hb : EvD tb σ B H (.list es)) (hl : ds.length + es.length ≤ 100000 := by first | exact Nat.le_of_ble_eq_true rfl | with_reducible assumption | omega) : EvD (tOp rCat ta tb) σ B H (.list (ds ++ es)) := fun H1 e eb Q q => ha H1 e eb _ fun v H2 B2 e2 x2 eb2 hd =>
  hb.mono x2.1 (e.trans e2) H2 (Ex.refl _) eb2 _ fun u H3 B3 e3 x3 eb3 hu => by
    obtain ⟨a, xs, rfl, hs, hx⟩ := dpl hd
    obtain ⟨b, ys, rfl, hs', hy⟩ := dpl hu
    refine ⟨a, b, xs, ys, rfl, rfl, eb3 _ _ (x3.1 _ _ hs), eb3 _ _ hs', by rw [dpa_len hx, dpa_len hy]; exact sz_of hl, fun p hp => ?_⟩
    exact q _ _ (upd B3 p (.lst (xs ++ ys))) (e2.trans (e3.trans (Ex.new hp))) (x2.trans e2 (x3.trans e3 (Ext.new eb3 hp))) (ex_upd2 eb3) (.lst upd_same (dpAll_ex (Ex.new (fresh_back eb3 hp)) _ _ (dpa_app (dpAll_ex x3.1 _ _ hx) hy)))
theorem evd_catT {ds es : List PyData} (ha : EvD ta σ B H (.tuple ds)) (hb : EvD tb σ B H (.tuple es)) (hl : ds.length + es.length ≤ 100000 := by first | exact Nat.le_of_ble_eq_true rfl | with_reducible assumption | omega) : EvD (tOp (rCatA K) ta tb) σ B H (.tuple (ds ++ es)) := fun H1 e eb Q q => ha H1 e eb _ fun v H2 B2 e2 x2 eb2 hd =>
  hb.mono x2.1 (e.trans e2) H2 (Ex.refl _) eb2 _ fun u H3 B3 e3 x3 eb3 hu => by
    obtain ⟨a, xs, rfl, hs, hx⟩ := dpt hd
    obtain ⟨b, ys, rfl, hs', hy⟩ := dpt hu
    have hx3 := dpAll_ex x3.1 _ _ hx
    have hc := dpa_app hx3 hy
    refine ⟨a, b, xs, ys, rfl, rfl, st_of ((x3.1.trans eb3) _ _ hs), st_of (eb3 _ _ hs'), by rw [dpa_len hx, dpa_len hy]; exact sz_of hl, fun z => ?_, fun _ z => ?_, fun _ _ p hp => ?_⟩
    · subst z
      exact q _ H3 B3 (e2.trans e3) (x2.trans e2 x3) eb3 (.tup hs' (by simpa using hc))
    · subst z
      exact q _ H3 B3 (e2.trans e3) (x2.trans e2 x3) eb3 (.tup (x3.1 _ _ hs) (by simpa using hc))
    · exact q _ _ (upd B3 p (.tup (xs ++ ys))) (e2.trans (e3.trans (Ex.new hp))) (x2.trans e2 (x3.trans e3 (Ext.new eb3 hp))) (ex_upd2 eb3) (.tup upd_same (dpAll_ex (Ex.new (fresh_back eb3 hp)) _ _ hc))
end
end GK

namespace GK
open PySem PySem.Spec PyProof.Rows L2
open Evl (Ex ex_l ex_t ex_rd sq_of st_of sz_of sz_lt fresh_back)
/-! ### defs, methods, makers: as a caller takes them -/
section
variable (P : Program) (w : World) (K : PySem.W.Frag) (mg : Str → Option Value) (base : Heap)
structure Clb (k : Nat) (x : Str) (sp : Sp) : Prop where
  ex : ∃ (f : Addr) (fd : FuncData) (ps : List Str), FnOk P w K mg base (L2.CX P w) k f fd ps sp ∧ mg x = some (.ref f) ∧ PySem.W.keepIn K (.ref f) = true ∧ Binds K fd ps []
structure Mtb (k : Nat) (C : Addr) (m : Str) (sp : Sp) : Prop where
  ex : ∃ (f : Addr) (fd : FuncData) (ps : List Str), Cls K C ∧ Meth K C m f ∧ FnOk P w K mg base (L2.CX P w) k f fd ps sp ∧ Binds K fd ps []
structure Mkb (k : Nat) (x : Str) (C : Addr) (sp : Sp) : Prop where
  ex : ∃ (f : Addr) (fd : FuncData) (ps : List Str), Mk K C f ∧ FnOk P w K mg base (L2.CX P w) k f fd ps sp ∧ mg x = some (.ref C) ∧ Binds K fd ps []
end
section
variable {X : Cx} {k j : Nat} {x m : Str} {sp : Sp} {E : XK} {e o : Expr} {es : List Expr} {t : TA} {ta : TE} {p pos apos : Pos} {C : Addr}
theorem pe_cl (c : Clb X.prog X.w X.K X.mg X.base k x sp) (hr : Room j X.A) (hk : k ≤ j) (hx : Passes (L2.CX X.prog X.w) X E) (ha : PA X (e :: es) t) (hg : Gl X x := by rfl)
    (hdb : (x == ("__debug__" : Str)) = false := by decide) (he : starEach (e :: es) X.env = (false, eval e X.env) :: starEach es X.env := by rfl) (hpl : (backTo pos (starEach es X.env)).any (·.1) = false := by rfl) :
    PE X (.Call (.Name x p) (e :: es) [] pos) (tCall sp [] E t) := by
  obtain ⟨f, fd, ps, F, hm, kp, b⟩ := c.ex
  exact pe_call F (hr.mono hk) hg hm kp b .nil hx ha hdb he hpl
theorem pe_cl0 (c : Clb X.prog X.w X.K X.mg X.base k x sp) (hr : Room j X.A) (hk : k ≤ j) (hx : Passes (L2.CX X.prog X.w) X E) (hg : Gl X x := by rfl)
    (hdb : (x == ("__debug__" : Str)) = false := by decide) : PE X (.Call (.Name x p) [] [] pos) (tCall sp [] E tNil) := by
  obtain ⟨f, fd, ps, F, hm, kp, b⟩ := c.ex
  exact pe_call0 F (hr.mono hk) hg hm kp b .nil hx hdb
theorem pe_mk (c : Mkb X.prog X.w X.K X.mg X.base k x C sp) (hr : Room j X.A) (hk : k + 1 ≤ j) (hx : Passes (L2.CX X.prog X.w) X E) (ha : PA X (e :: es) t) (hg : Gl X x := by rfl)
    (hdb : (x == ("__debug__" : Str)) = false := by decide) (he : starEach (e :: es) X.env = (false, eval e X.env) :: starEach es X.env := by rfl) (hpl : (backTo pos (starEach es X.env)).any (·.1) = false := by rfl) :
    PE X (.Call (.Name x p) (e :: es) [] pos) (tMake C sp [] E t) := by
  obtain ⟨f, fd, ps, M, F, hm, b⟩ := c.ex
  exact pe_make M F (hr.mono hk) hg hm b .nil hx ha hdb he hpl
theorem pe_mk0 (c : Mkb X.prog X.w X.K X.mg X.base k x C sp) (hr : Room j X.A) (hk : k + 1 ≤ j) (hx : Passes (L2.CX X.prog X.w) X E) (hg : Gl X x := by rfl)
    (hdb : (x == ("__debug__" : Str)) = false := by decide) : PE X (.Call (.Name x p) [] [] pos) (tMake C sp [] E tNil) := by
  obtain ⟨f, fd, ps, M, F, hm, b⟩ := c.ex
  exact pe_make0 M F (hr.mono hk) hg hm b .nil hx hdb
theorem pe_mt {pl : Sem Bool} (c : Mtb X.prog X.w X.K X.mg X.base k C m sp) (hr : Room j X.A) (hk : k ≤ j) (hx : Passes (L2.CX X.prog X.w) X E) (he : PE X o ta) (ha : PA X (e :: es) t)
    (hst : starEach (e :: es) X.env = (false, eval e X.env) :: starEach es X.env := by rfl) (hpl : (backTo pos (starEach es X.env)).any (·.1) = false := by rfl)
    (ht : eval (.Call (.Attribute o m apos) (e :: es) [] pos) X.env = (do
      let ov ← eval o X.env
      standAt apos.atName
      let (f, first) ← holding [ov] (getMethod ov m pl)
      callWith pos f first (backTo pos (starEach (e :: es) X.env)) (backToKw pos (keywordEach [] X.env))) := by rfl) :
    PE X (.Call (.Attribute o m apos) (e :: es) [] pos) (tMeth C m sp [] E ta t) := by
  obtain ⟨f, fd, ps, hc, hm, F, b⟩ := c.ex
  exact pe_meth (pl := pl) he hc hm F (hr.mono hk) b .nil hx ha hst hpl ht
theorem pe_mt0 {pl : Sem Bool} (c : Mtb X.prog X.w X.K X.mg X.base k C m sp) (hr : Room j X.A) (hk : k ≤ j) (hx : Passes (L2.CX X.prog X.w) X E) (he : PE X o ta)
    (ht : eval (.Call (.Attribute o m apos) [] [] pos) X.env = (do
      let ov ← eval o X.env
      standAt apos.atName
      let (f, first) ← holding [ov] (getMethod ov m pl)
      callWith pos f first (backTo pos (starEach [] X.env)) (backToKw pos (keywordEach [] X.env))) := by rfl) :
    PE X (.Call (.Attribute o m apos) [] [] pos) (tMeth C m sp [] E ta tNil) := by
  obtain ⟨f, fd, ps, hc, hm, F, b⟩ := c.ex
  exact pe_meth0 (pl := pl) he hc hm F (hr.mono hk) b .nil hx ht
/-- in a try's body -/
theorem pe_clS {E : L2.St → XK} (c : Clb X.prog X.w X.K X.mg X.base k x sp) (hr : Room j X.A) (hk : k ≤ j) (hx : ∀ σ, PassesAt (L2.CX X.prog X.w) X σ (E σ)) (ha : PA X (e :: es) t) (hg : Gl X x := by rfl)
    (hdb : (x == ("__debug__" : Str)) = false := by decide) (he : starEach (e :: es) X.env = (false, eval e X.env) :: starEach es X.env := by rfl) (hpl : (backTo pos (starEach es X.env)).any (·.1) = false := by rfl) :
    PE X (.Call (.Name x p) (e :: es) [] pos) (tCallS sp E t) := by
  obtain ⟨f, fd, ps, F, hm, kp, b⟩ := c.ex
  exact pe_callS F (hr.mono hk) hg hm kp b hx ha hdb he hpl
theorem pe_or {e : Expr} {t1 t2 : TE} (h1 : PE X e t1) (h2 : PE X e t2) : PE X e (fun σ H Q => t1 σ H Q ∨ t2 σ H Q) := ⟨fun pins s σ H Q I h => h.elim (h1.run pins s σ H Q I) (h2.run pins s σ H Q I)⟩
/-- a name of the module that holds a plain value -/
theorem pe_gl {v : V} (h : ∃ u, X.mg x = some u ∧ RelV v u) (hg : Gl X x := by rfl) (hdb : (x == ("__debug__" : Str)) = false := by decide) : PE X (.Name x pos) (tC v) := by
  obtain ⟨u, hm, r⟩ := h
  exact pe_glob hg hm r hdb
end
/-- a def of the text, as the head tells it -/
abbrev FnP (K : PySem.W.Frag) (x qual : Str) (st : Stmt) (f : Addr) (fd : FuncData) : Prop := FunD K x qual (defArgs st) (defBody st) (defScope st) [] [] f fd
/-- names that the module does not bind -/
structure Blt (mg : Str → Option Value) : Prop where
  len : mg "len" = none
  range : mg "range" = none
  sum : mg "sum" = none
  all_ : mg "all" = none
  any_ : mg "any" = none
  tuple : mg "tuple" = none
  list : mg "list" = none
  dict : mg "dict" = none
  set : mg "set" = none
  isinstance : mg "isinstance" = none
  ord : mg "ord" = none
  str : mg "str" = none
  int : mg "int" = none
  bool : mg "bool" = none
  min : mg "min" = none
  max : mg "max" = none
  sorted : mg "sorted" = none
  reversed : mg "reversed" = none
  zip : mg "zip" = none
  ValueError : mg "ValueError" = none
/-! ### the head: facts over written addresses, and one more test -/
abbrev AlB : Type := He.AlD × Bool
def SaysB (fa : List He.Fa) (fn : List He.DefD) (ex : PySem.W.Frag → Bool) (K : PySem.W.Frag) : Prop := He.SaysD fa fn K ∧ ex K = true
def hookA (as : List Addr) (fa : List He.Fa) (fn : List He.DefD) (ex : PySem.W.Frag → Bool) : PySem.W.Hook where
  α := AlB
  obs := fun s => (He.obsD fa fn (He.frG s.heap.get? as), ex (He.frG s.heap.get? as))
  val := fun _ => (He.valD fn, true)
  says := fun _ h => ∃ K : PySem.W.Frag, K.In h ∧ SaysB fa fn ex K
  of := fun _ _ e => ⟨_, He.frG_in, congrArg Prod.fst e, congrArg Prod.snd e⟩
  keeps := fun _ _ _ ⟨K, hK, c⟩ k => ⟨K, PySem.W.Frag.In.keeps hK k, c⟩
theorem hookA_eq {as : List Addr} {fa : List He.Fa} {fn : List He.DefD} {ex : PySem.W.Frag → Bool} {s : PySem.W.SharedT} : (He.obsD fa fn (He.frG (HandSHeadRun.getT s) as), ex (He.frG (HandSHeadRun.getT s) as)) = (hookA as fa fn ex).obs s.abs := by
  unfold hookA
  dsimp only
  rw [show HandSHeadRun.getT s = s.abs.heap.get? from funext (HandSHeadRun.getT_eq s)]
/-- whatever the world: the law's own end -/
def cxAny : CXT := fun outer H s E u s' => ∃ (P : Program) (w : World), L2.CX P w outer H s E u s'
theorem cxAny_no (H : Hp) (s : Shared) (e : Value) (s' : Shared) (h : cxAny [] H s (fun _ _ _ => False) e s') : False := by
  obtain ⟨_, _, _, _, _, _, _, _, _, _, _, _, _, _, z⟩ := h
  exact z
theorem cxAny_of {P : Program} {w : World} {K : PySem.W.Frag} {mg : Str → Option Value} {base : Heap} {k : Nat} {f : Addr} {fd : FuncData} {ps : List Str} {sp : Sp} (h : FnOk P w K mg base (L2.CX P w) k f fd ps sp) : FnOk P w K mg base cxAny k f fd ps sp :=
  ⟨h.len, fun A outer s H args us vs Q E r e b v z => codeAny_mono (h.run A outer s H args us vs Q E r e b v z) fun r s' hq => by
    match r with
    | .ok (.ret u) => exact hq
    | .ok .next => exact hq
    | .ok .brk => exact hq
    | .ok .cont => exact hq
    | .error e => exact ⟨P, w, hq⟩⟩
end GK

namespace GK
open PySem PySem.Spec PyProof.Rows L2
open Evl (Ex ex_l ex_t ex_rd sq_of st_of sz_of sz_lt fresh_back)
/-! ### built-in names -/
theorem bt_len : bootBuiltins "len" = some (.builtin "len") := by decide +kernel
theorem bt_sum : bootBuiltins "sum" = some (.builtin "sum") := by decide +kernel
theorem bt_all : bootBuiltins "all" = some (.builtin "all") := by decide +kernel
theorem bt_any : bootBuiltins "any" = some (.builtin "any") := by decide +kernel
theorem bt_isinstance : bootBuiltins "isinstance" = some (.builtin "isinstance") := by decide +kernel
theorem bt_ord : bootBuiltins "ord" = some (.builtin "ord") := by decide +kernel
theorem bt_min : bootBuiltins "min" = some (.builtin "min") := by decide +kernel
theorem bt_max : bootBuiltins "max" = some (.builtin "max") := by decide +kernel
theorem bt_sorted : bootBuiltins "sorted" = some (.builtin "sorted") := by decide +kernel
theorem bt_tuple : bootBuiltins "tuple" = some (.type "tuple") := by decide +kernel
theorem bt_list : bootBuiltins "list" = some (.type "list") := by decide +kernel
theorem bt_dict : bootBuiltins "dict" = some (.type "dict") := by decide +kernel
theorem bt_set : bootBuiltins "set" = some (.type "set") := by decide +kernel
theorem bt_str : bootBuiltins "str" = some (.type "str") := by decide +kernel
theorem bt_int : bootBuiltins "int" = some (.type "int") := by decide +kernel
theorem bt_bool : bootBuiltins "bool" = some (.type "bool") := by decide +kernel
section
variable {X : Cx} {K : PySem.W.Frag} {σ : Sig} {B B' H H' : Hp} {te ta tb tc : TE} {tt : TT} {d d1 d2 : PyData} {v : V}
/-! ### None -/
def rIsNone : R2 := fun x y H Q => y = .non ∧ Q (.bl (decide (x = .non))) H
def rNotNone : R2 := fun x y H Q => y = .non ∧ Q (.bl (!decide (x = .non))) H
theorem evd_opIsN (ha : EvD ta σ B H d) (hb : EvD tb σ B H .none) : EvD (tOp rIsNone ta tb) σ B H (.bool (isNone d)) := fun H1 e eb Q q => ha H1 e eb _ fun v H2 B2 e2 x2 eb2 hd => hb.flat (fun _ _ => dpn) (e.trans e2) (eb.trans e2) fun H3 e3 => by
  refine ⟨rfl, ?_⟩
  cases hd <;> exact q _ H3 B2 (e2.trans e3) x2 (eb2.trans e3) (.bl _)
theorem evd_opNotN (ha : EvD ta σ B H d) (hb : EvD tb σ B H .none) : EvD (tOp rNotNone ta tb) σ B H (.bool (!isNone d)) := fun H1 e eb Q q => ha H1 e eb _ fun v H2 B2 e2 x2 eb2 hd => hb.flat (fun _ _ => dpn) (e.trans e2) (eb.trans e2) fun H3 e3 => by
  refine ⟨rfl, ?_⟩
  cases hd <;> exact q _ H3 B2 (e2.trans e3) x2 (eb2.trans e3) (.bl _)
/-! ### truth -/
def tTruth (K : PySem.W.Frag) (ta : TE) : TT := fun σ H Q => ta σ H fun x H' => ∃ k, TruV K x H' k ∧ Q k H'
def truD : PyData → Bool
  | .none => false
  | .bool b => b
  | .int i => i != 0
  | .str x => (x.length : Int) != 0
  | .list ds => !ds.isEmpty
  | .tuple ds => !ds.isEmpty
  | .dict _ => false
theorem empty_da {vs : List V} {ds : List PyData} (h : DaAll B vs ds) : vs.isEmpty = ds.isEmpty := by
  cases h <;> rfl
theorem evb_tru (ha : EvD ta σ B H d) (hs : ∀ x, d = .str x → x.length ≤ 100000) : EvB (tTruth K ta) σ B H (truD d) := fun H1 e eb Q q => ha H1 e eb _ fun v H2 B2 e2 x2 eb2 hd => by
  cases hd with
  | non => exact ⟨_, rfl, q H2 e2⟩
  | bl b => exact ⟨_, rfl, q H2 e2⟩
  | int i => exact ⟨_, rfl, q H2 e2⟩
  | str x => exact ⟨_, ⟨sz_of (hs x rfl), rfl⟩, q H2 e2⟩
  | lst h hx => exact ⟨_, .inl ⟨_, sq_of (eb2 _ _ h), by rw [empty_da hx]; rfl⟩, q H2 e2⟩
  | tup h hx => exact ⟨_, .inr (.inl ⟨_, st_of (eb2 _ _ h), by rw [empty_da hx]; rfl⟩), q H2 e2⟩
/-! ### raise, try -/
structure Exn (K : PySem.W.Frag) (mg : Str → Option Value) (x : Str) : Prop where
  q : PySem.W.excIn K (He.ga K x) He.veBase "ValueError.__new__" = true
  g : mg x = some (.ref (He.ga K x))
  k : PySem.W.keepIn K (.ref (He.ga K x)) = true
  b : PySem.W.subIn K (.ref (He.ga K x)) (.type "BaseException") = some true
  t : PySem.W.typeIn K (.ref (He.ga K x)) = some (.type "type")
def tRs (C : Addr) (E : XK) : TS := fun _ _ H => E (.ref C) none H
theorem ps_rs {x m : Str} {j : Nat} {E : XK} {p p2 pos pos2 : Pos} (c : Exn X.K X.mg x) (tk : Takes X (fun cls d _ H => E cls d H)) (hc : X.calm = true := by rfl) (hg : Gl X x := by rfl) (hdb : (x == ("__debug__" : Str)) = false := by decide)
    (he : starEach [(.Constant (.str m) j p2 : Expr)] X.env = (false, eval (.Constant (.str m) j p2) X.env) :: starEach [] X.env := by rfl) (hpl : (backTo pos (starEach [] X.env)).any (·.1) = false := by rfl) :
    PS X (.Raise (some (.Call (.Name x p) [.Constant (.str m) j p2] [] pos)) none pos2) (tRs (He.ga X.K x) E) :=
  ps_raise hc tk (pmk_own PySem.F.excBase_ValueError c.q c.g c.k (raises_own c.b c.t) hg hdb)
def tTryAs (K : PySem.W.Frag) (c : Value) (i : Nat) (tb : WX → TS) (ts : Addr → Value → Option Addr → TS) : TS := fun D σ H => tb (wAs K c i ts (fun _ _ _ _ => False) D) D σ H
/-! ### texts times numbers -/
def rMulStr : R2 := fun x y H Q => ∃ z n, x = .str z ∧ y = .int n ∧ MulOk z n ∧ Q (.str (Txt.mul z n)) H
theorem op_mulStr : OpR X (binaryOp .Mult) rMulStr := by
  intro pins s σ H x y v u Q I rx ry h
  obtain ⟨i, j, rfl, rfl, hz, q⟩ := h
  obtain ⟨t, rfl⟩ := rx
  obtain ⟨t', rfl⟩ := ry
  exact SB.mul hz fun t' tk => ⟨.str _, H, I.tok _, ⟨_, rfl⟩, q⟩
theorem evd_mulS {z : Str} {n : Int} (ha : EvD ta σ B H (.str z)) (hb : EvD tb σ B H (.int n)) (hl : MulOk z n := by with_reducible assumption) : EvD (tOp rMulStr ta tb) σ B H (.str (Txt.mul z n)) := evd_op2 ha (fun _ _ => dps) hb (fun _ _ => dpi) (fun _ _ q => ⟨z, n, rfl, rfl, hl, q⟩) fun _ => .str _
/-! ### isinstance -/
def tyName : PyData → String
  | .none => "NoneType"
  | .bool _ => "bool"
  | .int _ => "int"
  | .str _ => "str"
  | .list _ => "list"
  | .tuple _ => "tuple"
  | .dict _ => "dict"
theorem tyx_da (h : Da B v d) (e : Ex B H) : TyX K H v (.type (tyName d)) := by
  cases h with
  | non => exact .base .non
  | bl b => exact .base (.bl b)
  | int i => exact .base (.int i)
  | str x => exact .base (.str x)
  | lst h _ => exact .base (.lst (e _ _ h))
  | tup h _ => exact .base (.tup (e _ _ h))
theorem evd_isi {T : String} {b : Bool} (ha : EvD ta σ B H d) (hk : kitB (tyName d) T = some b) : EvD (tCB (rIsi K) (tCons ta (tCons (tC (.ty T)) tNil))) σ B H (.bool b) := fun H1 e eb Q q => ha H1 e eb _ fun v H2 B2 e2 x2 eb2 hd =>
  ⟨v, .ty T, _, _, b, rfl, .ty T, tyx_da hd eb2, kit_ty hk, q _ H2 B2 e2 x2 eb2 (.bl _)⟩
theorem evd_isi2 {T U : String} {b : Bool} (ha : EvD ta σ B H d) (hk : PySem.W.kitAny K (.type (tyName d)) [.type T, .type U] = some b) : EvD (tCB (rIsiT K) (tCons ta (tCons (tTup (tCons (tC (.ty T)) (tCons (tC (.ty U)) tNil))) tNil))) σ B H (.bool b) := fun H1 e eb Q q => ha H1 e eb _ fun v H2 B2 e2 x2 eb2 hd =>
  ⟨(by show 2 ≤ sizeLine; decide), fun p hp => ⟨v, p, [.ty T, .ty U], _, [.type T, .type U], b, rfl, upd_same, .cons (.ty T) (.cons (.ty U) .nil), tyx_da hd (eb2.trans (Ex.new hp)), hk, q _ _ B2 (e2.trans (Ex.new hp)) x2 (eb2.trans (Ex.new hp)) (.bl _)⟩⟩
end
/-! ### errors of the program's own: what a suite asks of them -/
theorem bt_ValueError : bootBuiltins "ValueError" = some (.type "ValueError") := by decide +kernel
/-- isinstance(e, c) in the suite that holds e -/
def rIsX (K : PySem.W.Frag) (cls : Value) (d : Option Addr) (a : Addr) : List V → Hp → VK → Prop := fun xs H Q => ∃ D, cls = .ref D ∧ d = none ∧ ExcC K D ∧ rIsE K D a xs H Q
theorem call_isX {X : Cx} {a : Addr} {cls : Value} {d : Option Addr} {oe : Obj} {pn : List (Addr × Obj)} (hz : Zc cls d oe) (hf : ∃ vs, oe.data = .fields vs) : CallR (X.suite a ((a, oe) :: pn)) (.builtin "isinstance") (rIsX X.K cls d a) := by
  intro pins s σ H xs us Q I r h
  obtain ⟨D, rfl, rfl, C, h⟩ := h
  exact call_isE C hz hf pins s σ H xs us Q I r h
def eqOb (a b : Option Bool) : Bool := decide (a = b)
/-- the class x as the suites ask it -/
def excB (K : PySem.W.Frag) (x : Str) : Bool :=
  He.eqO (PySem.W.findIn K (.ref (He.ga K x)) "__getattribute__") (some (some (.builtin "BaseException.__getattribute__"))) && (He.eqO (PySem.W.findIn K (.ref (He.ga K x)) "__getattr__") (some none) &&
  (eqOb (PySem.W.subIn K (.ref (He.ga K x)) (.type "BaseException")) (some true) && (PySem.W.hasDictIn K (He.ga K x) && (He.eqO (PySem.W.findIn K (.ref (He.ga K x)) "__class__") (some (some (.builtin "object.__class__"))) &&
  (He.eqO (PySem.W.specialIn K (.builtin "object.__class__") "__get__") (some (some (.builtin "getset_descriptor.__get__"))) && (eqOb (PySem.W.takesIn K (.builtin "object.__class__")) (some true) && eqOb (PySem.W.mroIn K (He.ga K x) (.type "object")) (some true)))))))
theorem excB_ok {K : PySem.W.Frag} {x : Str} (h : excB K x = true) : ExcC K (He.ga K x) := by
  obtain ⟨a1, h⟩ := He.ba h
  obtain ⟨a2, h⟩ := He.ba h
  obtain ⟨a3, h⟩ := He.ba h
  obtain ⟨a4, h⟩ := He.ba h
  obtain ⟨a5, h⟩ := He.ba h
  obtain ⟨a6, h⟩ := He.ba h
  obtain ⟨a7, a8⟩ := He.ba h
  exact ⟨He.eqO_ok a1, He.eqO_ok a2, of_decide_eq_true a3, a4, He.eqO_ok a5, He.eqO_ok a6, of_decide_eq_true a7, of_decide_eq_true a8⟩
/-- all classes of the list: none below another, all below KeepError and ValueError -/
def excsB (xs : List Str) (K : PySem.W.Frag) : Bool := xs.all fun x => excB K x && (eqOb (PySem.W.exmOne K (.ref (He.ga K x)) (.ref (He.ga K "KeepError"))) (some true) && (eqOb (PySem.W.kitOne K (.ref (He.ga K x)) (.type "ValueError")) (some true) &&
  xs.all fun y => eqOb (PySem.W.kitOne K (.ref (He.ga K x)) (.ref (He.ga K y))) (some (decide (x = y)))))
structure Exs (xs : List Str) (K : PySem.W.Frag) : Prop where
  c : ∀ x ∈ xs, ExcC K (He.ga K x)
  m : ∀ x ∈ xs, PySem.W.exmOne K (.ref (He.ga K x)) (.ref (He.ga K "KeepError")) = some true
  v : ∀ x ∈ xs, PySem.W.kitOne K (.ref (He.ga K x)) (.type "ValueError") = some true
  k : ∀ x ∈ xs, ∀ y ∈ xs, PySem.W.kitOne K (.ref (He.ga K x)) (.ref (He.ga K y)) = some (decide (x = y))
theorem excsB_ok {xs : List Str} {K : PySem.W.Frag} (h : excsB xs K = true) : Exs xs K := by
  unfold excsB at h
  rw [List.all_eq_true] at h
  refine ⟨fun x hx => ?_, fun x hx => ?_, fun x hx => ?_, fun x hx y hy => ?_⟩
  · exact excB_ok (He.ba (h x hx)).1
  · exact of_decide_eq_true (He.ba (He.ba (h x hx)).2).1
  · exact of_decide_eq_true (He.ba (He.ba (He.ba (h x hx)).2).2).1
  · have := (He.ba (He.ba (He.ba (h x hx)).2).2).2
    rw [List.all_eq_true] at this
    exact of_decide_eq_true (this y hy)
/-! ### what a def tells that may raise -/
inductive Res where
  | ok (d : PyData)
  | no (c : Str)
def RetX (K : PySem.W.Frag) (r : Res) (B H : Hp) (Q : VK) (E : XK) : Prop := match r with
  | .ok d => Ret d B H Q
  | .no c => ∀ H', Ex H H' → E (.ref (He.ga K c)) none H'
theorem RetX.grow {K : PySem.W.Frag} {r : Res} {B H B1 H1 : Hp} {Q : VK} {E : XK} (h : RetX K r B H Q E) (e : Ex H H1) (x : Ext B H B1) : RetX K r B1 H1 Q E := by
  cases r with
  | ok d => exact Ret.grow h e x
  | no c => exact fun H' e' => h H' (e.trans e')
section
def rIntStr : List V → Hp → VK → Prop := fun xs H Q => ∃ a n, xs = [.str a] ∧ PySem.intText? a = some n ∧ a.length ≤ 640 ∧ Q (.int n) H
theorem cr_intStr {X : Cx} : CallR X (.type "int") rIntStr := call_int_str
end
end GK

namespace GK
open PySem PySem.Spec PyProof.Rows L2
open Evl (Ex ex_l ex_t ex_rd sq_of st_of sz_of sz_lt fresh_back)
/-! ### texts as lists of signs -/
abbrev tl (x : Str) : List Nat := x.cps.toList
def ofL (l : List Nat) : Str := ⟨l.toArray⟩
theorem ofL_tl (x : Str) : ofL (tl x) = x := by cases x; simp [ofL, tl]
theorem tl_ofL (l : List Nat) : tl (ofL l) = l := by simp [ofL, tl]
theorem str_ext {x y : Str} (h : tl x = tl y) : x = y := by rw [← ofL_tl x, ← ofL_tl y, h]
theorem len_tl (x : Str) : x.length = (tl x).length := by cases x; simp [tl, Str.length]
theorem len_ofL (l : List Nat) : (ofL l).length = l.length := by rw [len_tl, tl_ofL]
theorem tl_app (x y : Str) : tl (x ++ y) = tl x ++ tl y := by
  show (x.cps ++ y.cps).toList = _
  simp
theorem tl_join_nil (xs : List Str) : tl (Txt.join "" xs) = (xs.map tl).flatten := by
  cases xs with
  | nil => rfl
  | cons a r =>
    show ((r.foldl (fun acc p => acc ++ (Str.ofString "").cps ++ p.cps) a.cps).toList) = _
    have h : ∀ (r : List Str) (acc : Array Nat), (r.foldl (fun acc p => acc ++ (Str.ofString "").cps ++ p.cps) acc).toList = acc.toList ++ (r.map tl).flatten := by
      intro r
      induction r with
      | nil => intro acc; simp
      | cons b r ih =>
        intro acc
        rw [List.foldl_cons, ih]
        have : (Str.ofString "").cps = #[] := by decide +kernel
        simp [this, tl]
    rw [h r a.cps]
    simp
theorem tl_sign (c : Nat) : tl (sign c) = [c] := rfl
theorem join_signs (l : List Nat) : Txt.join "" (l.map sign) = ofL l := by
  apply str_ext
  rw [tl_join_nil, tl_ofL, List.map_map]
  induction l with
  | nil => rfl
  | cons a r ih => simp only [List.map_cons, List.flatten_cons, ih]; rfl
theorem tl_cut (z : Str) (lo hi : Option Int) : tl (cutS z lo hi) = ((tl z).drop (HT.sIx z.length 0 lo)).take (HT.sIx z.length z.length hi - HT.sIx z.length 0 lo) := by simp [cutS, tl]
/-! ### draws -/
def mix (c p m : Int) : Int := (c * 48271 % p) * (c * 48271 % p + 7) % p % m
theorem mix_nonneg {c p m : Int} (hm : 0 < m) : 0 ≤ mix c p m := Int.emod_nonneg _ (by omega)
theorem mix_lt {c p m : Int} (hm : 0 < m) : mix c p m < m := Int.emod_lt_of_pos _ hm
theorem mix_rng {c p m : Int} (hm : 0 < m) : 0 ≤ mix c p m ∧ mix c p m < m := ⟨mix_nonneg hm, mix_lt hm⟩
def cellN (ns : List Int) (k : Int) : Int := ns.getD k.toNat 0
def keySigns : Str := "abcdefghijklmnopqrstuvwxyz0123456789/-."
def dataSigns : Str := " !\"#$&'()*+,-./0123456789:;<=>?@ABCDEFGHIJKLMNOPQRSTUVWXYZ[\\]^_`abcdefghijklmnopqrstuvwxyz{|}~"
def keyTab : List Str := ["a", "a/b", "a/c", "a/b/c", "b", "/", "a-1", "a."]
def keyOne (c : Int) (k : Nat) : Nat := (tl keySigns).getD (mix (c + 7 * (k : Int)) 9949 39).toNat 0
def keyLen (c : Int) : Int := 1 + mix c 9967 20
def lawKey (c : Int) : Str := if c % 3 = 0 then keyTab.getD (mix c 9973 8).toNat "" else ofL ((List.range (keyLen c).toNat).map (keyOne c))
def dataOne (c : Int) (k : Nat) : Nat := (tl dataSigns).getD (mix (c + 5 * (k : Int)) 9923 94).toNat 0
def dataLen (c : Int) : Int := if mix c 9931 7 = 1 then mix c 9929 100 else if mix c 9931 7 = 0 then 99 else mix c 9941 9
def lawData (c : Int) : Str := ofL ((List.range (dataLen c).toNat).map (dataOne c))
theorem keySigns_len : (tl keySigns).length = 39 := by decide +kernel
theorem dataSigns_len : (tl dataSigns).length = 94 := by decide +kernel
theorem keyTab_ok : ∀ s ∈ keyTab, 1 ≤ s.length ∧ s.length ≤ 20 ∧ ∀ c ∈ tl s, c ∈ tl keySigns := by decide +kernel
theorem getD_mem {α : Type} {l : List α} {i : Nat} {a : α} (h : i < l.length) : l.getD i a ∈ l := by
  rw [List.getD_eq_getElem?_getD, List.getElem?_eq_getElem h]
  exact List.getElem_mem h
theorem keyOne_mem (c : Int) (k : Nat) : keyOne c k ∈ tl keySigns := getD_mem (by
  have := mix_rng (c := c + 7 * (k : Int)) (p := 9949) (m := 39) (by decide)
  rw [keySigns_len]; omega)
theorem dataOne_mem (c : Int) (k : Nat) : dataOne c k ∈ tl dataSigns := getD_mem (by
  have := mix_rng (c := c + 5 * (k : Int)) (p := 9923) (m := 94) (by decide)
  rw [dataSigns_len]; omega)
theorem keyLen_rng (c : Int) : 1 ≤ keyLen c ∧ keyLen c ≤ 20 := by
  have := mix_rng (c := c) (p := 9967) (m := 20) (by decide)
  unfold keyLen; omega
theorem lawKey_len (c : Int) : 1 ≤ (lawKey c).length ∧ (lawKey c).length ≤ 20 := by
  unfold lawKey
  split
  · have h := mix_rng (c := c) (p := 9973) (m := 8) (by decide)
    have h8 : keyTab.length = 8 := rfl
    have := keyTab_ok _ (getD_mem (l := keyTab) (i := (mix c 9973 8).toNat) (a := "") (by omega))
    exact ⟨this.1, this.2.1⟩
  · rw [len_ofL, List.length_map, List.length_range]
    have := keyLen_rng c
    omega
theorem lawKey_signs (c : Int) : ∀ z ∈ tl (lawKey c), z ∈ tl keySigns := by
  unfold lawKey
  split
  · have h := mix_rng (c := c) (p := 9973) (m := 8) (by decide)
    have h8 : keyTab.length = 8 := rfl
    exact (keyTab_ok _ (getD_mem (l := keyTab) (i := (mix c 9973 8).toNat) (a := "") (by omega))).2.2
  · rw [tl_ofL]
    intro z hz
    obtain ⟨k, _, rfl⟩ := List.mem_map.mp hz
    exact keyOne_mem c k
theorem dataLen_rng (c : Int) : 0 ≤ dataLen c ∧ dataLen c ≤ 99 := by
  have h1 := mix_rng (c := c) (p := 9929) (m := 100) (by decide)
  have h2 := mix_rng (c := c) (p := 9941) (m := 9) (by decide)
  unfold dataLen
  split
  · omega
  · split <;> omega
theorem lawData_len (c : Int) : (lawData c).length ≤ 99 := by
  have := dataLen_rng c
  unfold lawData
  rw [len_ofL, List.length_map, List.length_range]; omega
theorem lawData_signs (c : Int) : ∀ z ∈ tl (lawData c), z ∈ tl dataSigns := by
  unfold lawData
  rw [tl_ofL]
  intro z hz
  obtain ⟨k, _, rfl⟩ := List.mem_map.mp hz
  exact dataOne_mem c k
/-! ### sums -/
def sumStep (f : Int) (c : Nat) : Int := (31 * f + (c : Int) - 32) % 999983
def sumN (l : List Nat) : Int := l.foldl sumStep 0
theorem sumN_rng (l : List Nat) : 0 ≤ sumN l ∧ sumN l < 999983 := by
  unfold sumN
  suffices h : ∀ (l : List Nat) (f : Int), 0 ≤ f ∧ f < 999983 → 0 ≤ l.foldl sumStep f ∧ l.foldl sumStep f < 999983 from h l 0 (by decide)
  intro l
  induction l with
  | nil => intro f hf; exact hf
  | cons a r ih => intro f hf; exact ih _ (by unfold sumStep; omega)
/-- sum_of -/
def sumT (x : Str) : Str := Txt.zfill (toString (sumN (tl x))) 6
def sumsT (xs : List Str) : Str := sumT (Txt.join "" xs) ++ "-" ++ ((toString (xs.length : Int) : String) : Str)
end GK

namespace GK
open PySem PySem.Spec PyProof.Rows L2
open Evl (Ex ex_l ex_t ex_rd sq_of st_of sz_of sz_lt fresh_back)
/-! ### the script's cells -/
theorem atI_nat' {α : Type} {xs : List α} {i : Int} {v : α} (h0 : 0 ≤ i) (h : xs[i.toNat]? = some v) : atI xs i = some v := by
  unfold atI ixN
  have := (List.getElem?_eq_some_iff.mp h).1
  rw [if_pos h0, if_pos (by omega)]
  exact h
theorem atI_getD {α : Type} {xs : List α} {i : Int} {a : α} (h0 : 0 ≤ i) (h : i < xs.length) : atI xs i = some (xs.getD i.toNat a) := atI_nat' h0 (by
  rw [List.getD_eq_getElem?_getD, List.getElem?_eq_getElem (by omega)]; rfl)
def sp_law_cell (K : PySem.W.Frag) : Sp := fun vs H Q _ => ∃ (B : Hp) (a : Addr) (ns : List Int) (k : Int), Ex B H ∧ vs = [.ref a, .int k] ∧ SqL K H a (ns.map V.int) ∧ 0 ≤ k ∧ Ret (.int (cellN ns k)) B H Q
theorem len_law_cell {K : PySem.W.Frag} {vs : List V} {H : Hp} {Q : VK} {E : XK} (h : sp_law_cell K vs H Q E) : vs.length = 2 := by
  obtain ⟨_, _, _, _, _, rfl, _⟩ := h; rfl
def t_law_cell (K : PySem.W.Frag) (E : XK) : TS :=
  (tSeq (tIfS (tTest (tOp (rI0 fun i j => .bl (decide (i < j))) (tVar 1) (tCB (rLenSeq K) (tCons (tVar 0) tNil)))) (tRet (tOp (rIxL K) (tVar 0) (tVar 1))) tNext)
    (tRet (tC (.int 0))))
theorem pure_law_cell {K : PySem.W.Frag}  {vs : List V} {H : Hp} {Q : VK} {E : XK} (h : sp_law_cell K vs H Q E) : t_law_cell K E { nx := fun _ H' => Q .non H', rt := Q } (start ["script", "k"] vs) H := by
  obtain ⟨B, a, ns, k, eb, rfl, hS, hk, r⟩ := h
  refine ⟨_, rfl, _, rfl, a, _, rfl, .inl hS, _, _, rfl, rfl, _, rfl, ?_⟩
  refine ite2 (fun c => ?_) (fun c => ?_)
  · have c' : k < (ns.length : Int) := by simpa using c
    refine ⟨_, rfl, _, rfl, a, _, k, .int (cellN ns k), rfl, rfl, hS, ?_, r.at eb (.int _)⟩
    refine atI_nat' hk ?_
    rw [List.getElem?_map, List.getElem?_eq_getElem (by omega)]
    unfold cellN
    rw [List.getD_eq_getElem?_getD, List.getElem?_eq_getElem (by omega)]
    rfl
  · have c' : ¬ k < (ns.length : Int) := by simpa using c
    have e : cellN ns k = 0 := by
      unfold cellN
      rw [List.getD_eq_getElem?_getD, List.getElem?_eq_none (by omega)]
      rfl
    rw [e] at r
    exact r.at eb (.int _)
section
variable {K : PySem.W.Frag} {σ : Sig} {B H : Hp} {te ta tb tc : TE} {d : PyData} {E : XK}
theorem cev_law_cell {a : Addr} {ns : List Int} {k : Int} (ha : EvF ta σ H (.ref a)) (hk : EvD tb σ B H (.int k)) (hS : SqL K H a (ns.map V.int) := by with_reducible assumption) (h0 : 0 ≤ k := by first | with_reducible assumption | omega) :
    EvD (tCall (sp_law_cell K) [] E (tCons ta (tCons tb tNil))) σ B H (.int (cellN ns k)) := fun H1 e eb Q q => ha H1 e _ fun H2 e2 => hk.flat (fun _ _ => dpi) (e.trans e2) (eb.trans e2) fun H3 e3 =>
  ⟨B, a, ns, k, eb.trans (e2.trans e3), rfl, ex_l (e.trans (e2.trans e3)) hS, h0, q.grow (e2.trans e3) (Ext.refl _ _)⟩
end
/-! ### draws -/
def sp_law_mix (K : PySem.W.Frag) : Sp := fun vs H Q _ => ∃ (B : Hp) (c p m : Int), Ex B H ∧ vs = [.int c, .int p, .int m] ∧ 0 < p ∧ p < 1000000 ∧ 0 < m ∧ Ret (.int (mix c p m)) B H Q
theorem len_law_mix {K : PySem.W.Frag} {vs : List V} {H : Hp} {Q : VK} {E : XK} (h : sp_law_mix K vs H Q E) : vs.length = 3 := by
  obtain ⟨_, _, _, _, _, rfl, _⟩ := h; rfl
def t_law_mix (K : PySem.W.Frag) (E : XK) : TS :=
  (tSeq (tAsg (tOp (rI (fun _ j => 0 < j) fun i j => .int (i % j)) (tOp (rI CMul fun i j => .int (i * j)) (tVar 0) (tC (.int 48271))) (tVar 1)) (gName 3))
    (tRet (tOp (rI (fun _ j => 0 < j) fun i j => .int (i % j)) (tOp (rI (fun _ j => 0 < j) fun i j => .int (i % j)) (tOp (rI CMul fun i j => .int (i * j)) (tVar 3) (tOp (rI0 fun i j => .int (i + j)) (tVar 3) (tC (.int 7)))) (tVar 1)) (tVar 2))))
theorem pure_law_mix {K : PySem.W.Frag}  {vs : List V} {H : Hp} {Q : VK} {E : XK} (h : sp_law_mix K vs H Q E) : t_law_mix K E { nx := fun _ H' => Q .non H', rt := Q } (start ["cell", "prime", "many", "blend"] vs) H := by
  obtain ⟨B, c, p, m, eb, rfl, hp, hp2, hm, r⟩ := h
  have h1 := Int.emod_nonneg (c * 48271) (b := p) (by omega)
  have h2 := Int.emod_lt_of_pos (c * 48271) hp
  refine q_asgI (B := B) (evd_mod (evd_mul (evd_varI rfl) evd_ci) (evd_varI rfl)) eb fun H1 e1 eb1 => ?_
  exact s_ret (evd_mod (evd_mod (evd_mul (evd_varI rfl) (evd_I0 (evd_varI rfl) evd_ci)) (evd_varI rfl)) (evd_varI rfl)) eb1 (r.grow e1 (Ext.refl _ _))
section
variable {K : PySem.W.Frag} {σ : Sig} {B H : Hp} {te ta tb tc : TE} {d : PyData} {E : XK}
theorem cev_law_mix {c p m : Int} (ha : EvD ta σ B H (.int c)) (hb : EvD tb σ B H (.int p)) (hc : EvD tc σ B H (.int m)) (hp : 0 < p ∧ p < 1000000 := by first | with_reducible assumption | decide | omega) (hm : 0 < m := by first | with_reducible assumption | decide | omega) :
    EvD (tCall (sp_law_mix K) [] E (tCons ta (tCons tb (tCons tc tNil)))) σ B H (.int (mix c p m)) := evd_call (evs_cons ha (evs_cons hb (evs_cons hc evs_nil))) fun H1 B1 vs _ _ eb hd Q q => by
  obtain ⟨v, u, w, rfl, hv, hu, hw⟩ := dpa3 hd
  cases hv
  cases hu
  cases hw
  exact ⟨B1, c, p, m, eb, rfl, hp.1, hp.2, hm, q⟩
end
/-! ### _law_key -/
def sp_law_key (K : PySem.W.Frag) : Sp := fun vs H Q _ => ∃ (B : Hp) (c : Int), Ex B H ∧ vs = [.int c] ∧ Ret (.str (lawKey c)) B H Q
theorem len_law_key {K : PySem.W.Frag} {vs : List V} {H : Hp} {Q : VK} {E : XK} (h : sp_law_key K vs H Q E) : vs.length = 1 := by
  obtain ⟨_, _, _, rfl, _⟩ := h; rfl
theorem sum_signs (l : List Nat) : ((l.map sign).map (·.length)).sum = l.length := by
  induction l with
  | nil => rfl
  | cons a r ih =>
    rw [List.map_cons, List.map_cons, List.sum_cons, ih, List.length_cons]
    show 1 + r.length = _
    omega
theorem join_signs_ok {l : List Nat} (h : l.length ≤ 100000) : ((l.map sign).map (·.length)).sum + (l.map sign).length * ("" : Str).length ≤ 16777216 := by
  rw [sum_signs]
  show _ + _ * 0 ≤ _
  omega
def t_law_key (K : PySem.W.Frag) (E : XK) : TS :=
  (tSeq (tAsg (tC (.str "abcdefghijklmnopqrstuvwxyz0123456789/-.")) (gName 1))
    (tSeq (tIfS (tTest (tOp rEq (tOp (rI (fun _ j => 0 < j) fun i j => .int (i % j)) (tVar 0) (tC (.int 3))) (tC (.int 0)))) (tRet (tOp (rIxT K) (tTup (tCons (tC (.str "a")) (tCons (tC (.str "a/b")) (tCons (tC (.str "a/c")) (tCons (tC (.str "a/b/c")) (tCons (tC (.str "b")) (tCons (tC (.str "/")) (tCons (tC (.str "a-1")) (tCons (tC (.str "a.")) tNil))))))))) (tCall (sp_law_mix K) [] E0 (tCons (tVar 0) (tCons (tC (.int 9973)) (tCons (tC (.int 8)) tNil)))))) tNext)
    (tSeq (tAsg (tOp (rI0 fun i j => .int (i + j)) (tC (.int 1)) (tCall (sp_law_mix K) [] E0 (tCons (tVar 0) (tCons (tC (.int 9967)) (tCons (tC (.int 20)) tNil))))) (gName 2))
    (tRet (tM1 (rJoin K) (tC (.str "")) (tLc (iRng1 (tCons (tVar 2) tNil)) (gName 3) tYes (tOp rIxS (tVar 1) (tCall (sp_law_mix K) [] E0 (tCons (tOp (rI0 fun i j => .int (i + j)) (tVar 0) (tOp (rI CMul fun i j => .int (i * j)) (tC (.int 7)) (tVar 3))) (tCons (tC (.int 9949)) (tCons (tC (.int 39)) tNil))))) [3]))))))
theorem pure_law_key {K : PySem.W.Frag}  {vs : List V} {H : Hp} {Q : VK} {E : XK} (h : sp_law_key K vs H Q E) : t_law_key K E { nx := fun _ H' => Q .non H', rt := Q } (start ["cell", "signs", "many", "k"] vs) H := by
  obtain ⟨B, c, eb, rfl, r⟩ := h
  refine q_asgS (B := B) evd_cs eb fun H1 e1 eb1 => ?_
  have r1 := r.grow e1 (Ext.refl _ _)
  refine q_when (B := B) (evb_test (evd_eqI (evd_mod (evd_varI rfl) evd_ci) evd_ci)) eb1 (fun hb H2 e2 eb2 => ?_) (fun hb H2 e2 eb2 => ?_)
  · have hc : c % 3 = 0 := of_decide_eq_true hb
    have hm := mix_rng (c := c) (p := 9973) (m := 8) (by decide)
    have r2 := r1.grow e2 (Ext.refl _ _)
    unfold lawKey at r2
    rw [if_pos hc] at r2
    refine s_ret (evd_ixT (ds := keyTab.map .str) (evd_tup (evs_cons evd_cs (evs_cons evd_cs (evs_cons evd_cs (evs_cons evd_cs (evs_cons evd_cs (evs_cons evd_cs (evs_cons evd_cs (evs_cons evd_cs evs_nil))))))))) (cev_law_mix (evd_varI rfl) evd_ci evd_ci) ?_) eb2 r2
    refine atI_nat' hm.1 ?_
    rw [List.getElem?_map, List.getD_eq_getElem?_getD, List.getElem?_eq_getElem (show (mix c 9973 8).toNat < keyTab.length by show _ < 8; omega)]
    rfl
  · have hc : ¬ c % 3 = 0 := of_decide_eq_false hb
    have r2 := r1.grow e2 (Ext.refl _ _)
    unfold lawKey at r2
    rw [if_neg hc] at r2
    have hl := keyLen_rng c
    refine q_asgI (B := B) (n := keyLen c) (evd_I0 evd_ci (cev_law_mix (evd_varI rfl) evd_ci evd_ci)) eb2 fun H3 e3 eb3 => ?_
    refine s_ret (B := B) (d := .str (ofL ((List.range (keyLen c).toNat).map (keyOne c)))) ?_ eb3 (r2.grow e3 (Ext.refl _ _))
    rw [← join_signs]
    refine evd_join evd_cs ?_ (join_signs_ok (by rw [List.length_map, List.length_range]; omega))
    rw [List.map_map, List.map_map]
    refine evd_lcR _ (evs_cons (evd_varI rfl) evs_nil) ⟨by omega, by omega⟩ (fun x => rfl) fun i hi B1 H1 eb' eh' e' => ?_
    have hm := mix_rng (c := c + 7 * (i : Int)) (p := 9949) (m := 39) (by decide)
    refine evd_ixS (z := keySigns) (evd_varS rfl) (cev_law_mix (evd_I0 (evd_varI rfl) (evd_mul evd_ci (evd_varI rfl))) evd_ci evd_ci) (by decide +kernel) ?_
    exact atI_getD hm.1 (by rw [keySigns_len]; omega)
section
variable {K : PySem.W.Frag} {σ : Sig} {B H : Hp} {te ta tb tc : TE} {d : PyData} {E : XK}
theorem cev_law_key {c : Int} (ha : EvD ta σ B H (.int c)) : EvD (tCall (sp_law_key K) [] E (tCons ta tNil)) σ B H (.str (lawKey c)) := evd_call (evs_cons ha evs_nil) fun H1 B1 vs _ _ eb hd Q q => by
  obtain ⟨v, rfl, hv⟩ := dpa1 hd
  cases hv
  exact ⟨B1, c, eb, rfl, q⟩
end
/-! ### _law_data -/
def sp_law_data (K : PySem.W.Frag) : Sp := fun vs H Q _ => ∃ (B : Hp) (c : Int), Ex B H ∧ vs = [.int c] ∧ Ret (.str (lawData c)) B H Q
theorem len_law_data {K : PySem.W.Frag} {vs : List V} {H : Hp} {Q : VK} {E : XK} (h : sp_law_data K vs H Q E) : vs.length = 1 := by
  obtain ⟨_, _, _, rfl, _⟩ := h; rfl
theorem dataSigns_len' : dataSigns.length = 94 := by decide +kernel
def t_law_data (K : PySem.W.Frag) (E : XK) : TS :=
  (tSeq (tAsg (tC (.str " !\"#$&'()*+,-./0123456789:;<=>?@ABCDEFGHIJKLMNOPQRSTUVWXYZ[\\]^_`abcdefghijklmnopqrstuvwxyz{|}~")) (gName 1))
    (tSeq (tAsg (tCall (sp_law_mix K) [] E0 (tCons (tVar 0) (tCons (tC (.int 9941)) (tCons (tC (.int 9)) tNil)))) (gName 2))
    (tSeq (tIfS (tTest (tOp rEq (tCall (sp_law_mix K) [] E0 (tCons (tVar 0) (tCons (tC (.int 9931)) (tCons (tC (.int 7)) tNil)))) (tC (.int 0)))) (tAsg (tC (.int 99)) (gName 2)) tNext)
    (tSeq (tIfS (tTest (tOp rEq (tCall (sp_law_mix K) [] E0 (tCons (tVar 0) (tCons (tC (.int 9931)) (tCons (tC (.int 7)) tNil)))) (tC (.int 1)))) (tAsg (tCall (sp_law_mix K) [] E0 (tCons (tVar 0) (tCons (tC (.int 9929)) (tCons (tC (.int 100)) tNil)))) (gName 2)) tNext)
    (tRet (tM1 (rJoin K) (tC (.str "")) (tLc (iRng1 (tCons (tVar 2) tNil)) (gName 3) tYes (tOp rIxS (tVar 1) (tCall (sp_law_mix K) [] E0 (tCons (tOp (rI0 fun i j => .int (i + j)) (tVar 0) (tOp (rI CMul fun i j => .int (i * j)) (tC (.int 5)) (tVar 3))) (tCons (tC (.int 9923)) (tCons (tCB rLenStr (tCons (tVar 1) tNil)) tNil))))) [3])))))))
theorem data_end {K : PySem.W.Frag} {c n : Int} {B H : Hp} {Q : VK} (hn : n = dataLen c) (eb : Ex B H) (r : Ret (.str (lawData c)) B H Q) :
    tRet (tM1 (rJoin K) (tC (.str "")) (tLc (iRng1 (tCons (tVar 2) tNil)) (gName 3) tYes (tOp rIxS (tVar 1) (tCall (sp_law_mix K) [] E0 (tCons (tOp (rI0 fun i j => .int (i + j)) (tVar 0) (tOp (rI CMul fun i j => .int (i * j)) (tC (.int 5)) (tVar 3))) (tCons (tC (.int 9923)) (tCons (tCB rLenStr (tCons (tVar 1) tNil)) tNil))))) [3])) { nx := fun _ H' => Q .non H', rt := Q } [some (.int c), some (.str dataSigns), some (.int n), none] H := by
  subst hn
  have hl := dataLen_rng c
  refine s_ret (B := B) (d := .str (lawData c)) ?_ eb r
  unfold lawData
  rw [← join_signs]
  refine evd_join evd_cs ?_ (join_signs_ok (by rw [List.length_map, List.length_range]; omega))
  rw [List.map_map, List.map_map]
  refine evd_lcR _ (evs_cons (evd_varI rfl) evs_nil) ⟨by omega, by omega⟩ (fun x => rfl) fun i hi B1 H1 eb' eh' e' => ?_
  have hm := mix_rng (c := c + 5 * (i : Int)) (p := 9923) (m := 94) (by decide)
  have hz : dataSigns.length = 94 := dataSigns_len'
  refine evd_ixS (z := dataSigns) (evd_varS rfl) (i := mix (c + 5 * (i : Int)) 9923 94) ?_ (by decide +kernel) (atI_getD hm.1 (by rw [dataSigns_len]; omega))
  refine cev_law_mix (evd_I0 (evd_varI rfl) (evd_mul evd_ci (evd_varI rfl))) evd_ci (m := 94) ?_
  refine EvD.is (evd_lenS (z := dataSigns) (evd_varS rfl) (by rw [hz]; decide)) ?_
  rw [hz]; rfl
theorem pure_law_data {K : PySem.W.Frag}  {vs : List V} {H : Hp} {Q : VK} {E : XK} (h : sp_law_data K vs H Q E) : t_law_data K E { nx := fun _ H' => Q .non H', rt := Q } (start ["cell", "signs", "many", "k"] vs) H := by
  obtain ⟨B, c, eb, rfl, r⟩ := h
  refine q_asgS (B := B) (x := dataSigns) evd_cs eb fun H1 e1 eb1 => ?_
  refine q_asgI (B := B) (cev_law_mix (evd_varI rfl) evd_ci evd_ci) eb1 fun H2 e2 eb2 => ?_
  have r2 := (r.grow e1 (Ext.refl _ _)).grow e2 (Ext.refl _ _)
  refine q_when (B := B) (evb_test (evd_eqI (cev_law_mix (evd_varI rfl) evd_ci evd_ci) evd_ci)) eb2 (fun hb H3 e3 eb3 => ?_) (fun hb H3 e3 eb3 => ?_)
  · have hb' : mix c 9931 7 = 0 := of_decide_eq_true hb
    refine s_asgI (B := B) evd_ci eb3 fun H4 e4 eb4 => ?_
    refine q_when (B := B) (evb_test (evd_eqI (cev_law_mix (evd_varI rfl) evd_ci evd_ci) evd_ci)) eb4 (fun hc => ?_) (fun hc H5 e5 eb5 => ?_)
    · have hc' : mix c 9931 7 = 1 := of_decide_eq_true hc
      omega
    · exact data_end (by unfold dataLen; rw [if_neg (of_decide_eq_false hc), if_pos hb']) eb5 (((r2.grow e3 (Ext.refl _ _)).grow e4 (Ext.refl _ _)).grow e5 (Ext.refl _ _))
  · have hb' : ¬ mix c 9931 7 = 0 := of_decide_eq_false hb
    refine q_when (B := B) (evb_test (evd_eqI (cev_law_mix (evd_varI rfl) evd_ci evd_ci) evd_ci)) eb3 (fun hc H4 e4 eb4 => ?_) (fun hc H4 e4 eb4 => ?_)
    · have hc' : mix c 9931 7 = 1 := of_decide_eq_true hc
      refine s_asgI (B := B) (cev_law_mix (evd_varI rfl) evd_ci evd_ci) eb4 fun H5 e5 eb5 => ?_
      exact data_end (by unfold dataLen; rw [if_pos hc']) eb5 (((r2.grow e3 (Ext.refl _ _)).grow e4 (Ext.refl _ _)).grow e5 (Ext.refl _ _))
    · exact data_end (by unfold dataLen; rw [if_neg (of_decide_eq_false hc), if_neg hb']) eb4 ((r2.grow e3 (Ext.refl _ _)).grow e4 (Ext.refl _ _))
section
variable {K : PySem.W.Frag} {σ : Sig} {B H : Hp} {te ta tb tc : TE} {d : PyData} {E : XK}
theorem cev_law_data {c : Int} (ha : EvD ta σ B H (.int c)) : EvD (tCall (sp_law_data K) [] E (tCons ta tNil)) σ B H (.str (lawData c)) := evd_call (evs_cons ha evs_nil) fun H1 B1 vs _ _ eb hd Q q => by
  obtain ⟨v, rfl, hv⟩ := dpa1 hd
  cases hv
  exact ⟨B1, c, eb, rfl, q⟩
end
end GK

namespace GK
open PySem PySem.Spec PyProof.Rows L2
open Evl (Ex ex_l ex_t ex_rd sq_of st_of sz_of sz_lt fresh_back)
section
variable {K : PySem.W.Frag} {σ : Sig} {B H : Hp} {te ta tb tc : TE} {d d1 d2 d3 d4 : PyData} {E : XK}
/-! ### targets of several names -/
theorem tg2 {i j : Nat} {x : V} {B1 H1 : Hp} {R : Sig → Hp → Prop} (hx : Da B1 x (.tuple [d1, d2])) (e : Ex B1 H1) (k : ∀ v1 v2, Da B1 v1 d1 → Da B1 v2 d2 → R ((σ.set i (some v1)).set j (some v2)) H1) : gTup K 2 (gCons (gName i) (gCons (gName j) gNil)) x σ H1 R := by
  obtain ⟨a, xs, rfl, h, hs⟩ := dpt hx
  obtain ⟨v1, v2, rfl, h1, h2⟩ := dpa2 hs
  exact ⟨a, _, rfl, st_of (e _ _ h), rfl, v1, _, rfl, v2, _, rfl, rfl, k v1 v2 h1 h2⟩
theorem tg3 {i j k : Nat} {x : V} {B1 H1 : Hp} {R : Sig → Hp → Prop} (hx : Da B1 x (.tuple [d1, d2, d3])) (e : Ex B1 H1) (q : ∀ v1 v2 v3, Da B1 v1 d1 → Da B1 v2 d2 → Da B1 v3 d3 → R (((σ.set i (some v1)).set j (some v2)).set k (some v3)) H1) : gTup K 3 (gCons (gName i) (gCons (gName j) (gCons (gName k) gNil))) x σ H1 R := by
  obtain ⟨a, xs, rfl, h, hs⟩ := dpt hx
  obtain ⟨v1, v2, v3, rfl, h1, h2, h3⟩ := dpa3 hs
  exact ⟨a, _, rfl, st_of (e _ _ h), rfl, v1, _, rfl, v2, _, rfl, v3, _, rfl, rfl, q v1 v2 v3 h1 h2 h3⟩
theorem tg4 {i j k l : Nat} {x : V} {B1 H1 : Hp} {R : Sig → Hp → Prop} (hx : Da B1 x (.tuple [d1, d2, d3, d4])) (e : Ex B1 H1) (q : ∀ v1 v2 v3 v4, Da B1 v1 d1 → Da B1 v2 d2 → Da B1 v3 d3 → Da B1 v4 d4 → R ((((σ.set i (some v1)).set j (some v2)).set k (some v3)).set l (some v4)) H1) : gTup K 4 (gCons (gName i) (gCons (gName j) (gCons (gName k) (gCons (gName l) gNil)))) x σ H1 R := by
  obtain ⟨a, xs, rfl, h, hs⟩ := dpt hx
  obtain ⟨v1, v2, v3, v4, rfl, h1, h2, h3, h4⟩ := dpa4 hs
  exact ⟨a, _, rfl, st_of (e _ _ h), rfl, v1, _, rfl, v2, _, rfl, v3, _, rfl, v4, _, rfl, rfl, q v1 v2 v3 v4 h1 h2 h3 h4⟩
/-! ### zip of two tuples of one length -/
theorem walk_zipT {a b : Addr} {xs ys : List V} {n : Nat} (hn : n = min xs.length ys.length) : Walk (RZ.ItzT K a b) n (fun H => SqT K H a xs ∧ SqT K H b ys) (YPair (fun i => xs[i]?) (fun i => ys[i]?)) := by
  refine ⟨fun i H hi hg => ?_, fun H hg => ?_, fun i H x H' hi hg y => ?_⟩
  · exact ⟨xs, ys, xs[i]'(by omega), ys[i]'(by omega), hg.1, hg.2, List.getElem?_eq_getElem (by omega), List.getElem?_eq_getElem (by omega)⟩
  · refine ⟨xs, ys, hg.1, hg.2, ?_⟩
    by_cases c : xs.length ≤ ys.length
    · exact .inl (by omega)
    · exact .inr (by omega)
  · obtain ⟨T, x', y', rfl, hT, rfl, f1, f2⟩ := y
    exact ⟨T, x', y', rfl, hT, rfl, f1 _ hg.1, f2 _ hg.2⟩
theorem src_zip {tr : TA} {α : Type} {as : List α} (f g : α → PyData) (h : EvDs tr σ B H [.tuple (as.map f), .tuple (as.map g)]) : SrcD (RZ.iZipA K tr) σ B H (as.map fun a => .tuple [f a, g a]) := fun H1 e eb R q => h H1 e eb _ fun vs H2 B2 e2 x2 eb2 hd => by
  obtain ⟨v, u, rfl, hv, hu⟩ := dpa2 hd
  obtain ⟨a, xs, rfl, hs, hx⟩ := dpt hv
  obtain ⟨b, ys, rfl, hs', hy⟩ := dpt hu
  have lx := dpa_len hx
  have ly := dpa_len hy
  rw [List.length_map] at lx ly
  refine ⟨a, b, xs, ys, rfl, .inr ⟨st_of (eb2 _ _ hs), st_of (eb2 _ _ hs'), q _ H2 B2 e2 x2 eb2 ⟨fun H => SqT K H a xs ∧ SqT K H b ys, YPair (fun i => xs[i]?) (fun i => ys[i]?), ?_, fun H3 e3 => ⟨st_of (e3 _ _ hs), st_of (e3 _ _ hs')⟩, fun i x H3 H4 hi eb3 y => ?_⟩⟩⟩
  · exact walk_zipT (by rw [List.length_map, lx, ly]; omega)
  · obtain ⟨T, x', y', rfl, hT, rfl, f1, f2⟩ := y
    refine ⟨Ex.new hT, fun d hd => ?_⟩
    obtain ⟨d1, g1, k1⟩ := dpa_get hx f1
    obtain ⟨d2, g2, k2⟩ := dpa_get hy f2
    rw [List.getElem?_map] at hd g1 g2
    cases hz : as[i]? with
    | none => rw [hz] at hd; cases hd
    | some z =>
      rw [hz] at hd g1 g2
      cases hd
      cases g1
      cases g2
      exact ⟨upd B2 T (.tup [x', y']), Ext.new eb3 hT, ex_upd2 eb3, .tup upd_same (dpAll_ex (Ex.new (fresh_back eb3 hT)) _ _ (.cons k1 (.cons k2 .nil)))⟩
end
/-! ### _law_same -/
def shal : Nat → PyData → Prop
  | _, .list _ => False
  | _, .dict _ => False
  | 0, .tuple _ => False
  | n + 1, .tuple ds => ds.length ≤ 10000 ∧ ∀ d ∈ ds, shal n d
  | _, .none => True
  | _, .bool _ => True
  | _, .int _ => True
  | _, .str _ => True
theorem kb_bt : kitB "bool" "tuple" = some false := by decide +kernel
theorem kb_it : kitB "int" "tuple" = some false := by decide +kernel
theorem kb_st : kitB "str" "tuple" = some false := by decide +kernel
theorem kb_nt : kitB "NoneType" "tuple" = some false := by decide +kernel
theorem kb_tt : kitB "tuple" "tuple" = some true := by decide +kernel
theorem kb_bb : kitB "bool" "bool" = some true := by decide +kernel
theorem kb_ib : kitB "int" "bool" = some false := by decide +kernel
theorem kb_sb : kitB "str" "bool" = some false := by decide +kernel
def sp_law_same : Nat → PySem.W.Frag → Sp
  | 0, _ => fun _ _ _ _ => False
  | n + 1, _ => fun vs H Q _ => ∃ (B : Hp) (d : PyData) (v u : V), Ex B H ∧ vs = [v, u] ∧ Da B v d ∧ Da B u d ∧ shal n d ∧ Ret (.bool true) B H Q
theorem len_law_same {K : PySem.W.Frag} : ∀ {n : Nat} {vs : List V} {H : Hp} {Q : VK} {E : XK} (h : sp_law_same n K vs H Q E), vs.length = 2
  | 0, _, _, _, _, h => h.elim
  | n + 1, _, _, _, _, h => by obtain ⟨_, _, _, _, _, rfl, _⟩ := h; rfl
section
variable {K : PySem.W.Frag} {σ : Sig} {B H : Hp} {te ta tb tc : TE} {d : PyData} {E : XK}
theorem cev_law_same {n : Nat} (ha : EvD ta σ B H d) (hb : EvD tb σ B H d) (hs : shal n d := by first | trivial | with_reducible assumption) : EvD (tCall (sp_law_same (n + 1) K) [] E (tCons ta (tCons tb tNil))) σ B H (.bool true) := evd_call (evs_cons ha (evs_cons hb evs_nil)) fun H1 B1 vs _ _ eb hd Q q => by
  obtain ⟨v, u, rfl, hv, hu⟩ := dpa2 hd
  exact ⟨B1, d, v, u, eb, rfl, hv, hu, hs, q⟩
end
def t_law_same (n : Nat) (K : PySem.W.Frag) (E : XK) : TS :=
  (tSeq (tIfS (tB (tCB (rIsi K) (tCons (tVar 1) (tCons (tC (.ty "tuple")) tNil)))) (tSeq (tIfS (tOr (tNot (tB (tCB (rIsi K) (tCons (tVar 0) (tCons (tC (.ty "tuple")) tNil))))) (tTest (tOp rNe (tCB (rLenSeq K) (tCons (tVar 0) tNil)) (tCB (rLenSeq K) (tCons (tVar 1) tNil))))) (tRet (tC (.bl false))) tNext)
    (tRet (tCB (rAll K) (tCons (tLc (RZ.iZipA K (tCons (tVar 0) (tCons (tVar 1) tNil))) (gTup K 2 (gCons (gName 2) (gCons (gName 3) gNil))) tYes (tCall (sp_law_same n K) [] E0 (tCons (tVar 2) (tCons (tVar 3) tNil))) [2, 3]) tNil)))) tNext)
    (tSeq (tIfS (tTest (tOp rIsNone (tVar 1) (tC .non))) (tRet (tOp rIsNone (tVar 0) (tC .non))) tNext)
    (tSeq (tIfS (tOr (tB (tCB (rIsi K) (tCons (tVar 1) (tCons (tC (.ty "bool")) tNil)))) (tB (tCB (rIsi K) (tCons (tVar 0) (tCons (tC (.ty "bool")) tNil))))) (tRet (tAndV (tCB (rIsi K) (tCons (tVar 1) (tCons (tC (.ty "bool")) tNil))) (tAndV (tCB (rIsi K) (tCons (tVar 0) (tCons (tC (.ty "bool")) tNil))) (tOp rEq (tVar 0) (tVar 1))))) tNext)
    (tRet (tAndV (tCB (rIsiT K) (tCons (tVar 0) (tCons (tTup (tCons (tC (.ty "int")) (tCons (tC (.ty "str")) tNil))) tNil))) (tOp rEq (tVar 0) (tVar 1)))))))
theorem same_flat {K : PySem.W.Frag} {n : Nat} {v u : V} {d : PyData} {B H : Hp} {Q : VK} (eb : Ex B H) (hv : Da B v d) (hu : Da B u d) (r : Ret (.bool true) B H Q) (hd : kitB (tyName d) "tuple" = some false) (hn : isNone d = false) (b : Bool) (hb : kitB (tyName d) "bool" = some b)
    (hi : b = false → PySem.W.kitAny K (.type (tyName d)) [.type "int", .type "str"] = some true) (he : scal v u = true) (hw : ∀ B v, Da B v d → ∀ B u, Da B u d → v = u) : t_law_same n K (fun _ _ _ => False) { nx := fun _ H' => Q .non H', rt := Q } [some v, some u, none, none] H := by
  have ev : EvD (tOp rEq (tVar 0) (tVar 1)) [some v, some u, none, none] B H (.bool true) := fun H1 e eb1 Q q => ⟨v, rfl, u, rfl, he, by
    rw [decide_eq_true (hw _ _ hv _ _ hu)]
    exact q.at eb1 (.bl _)⟩
  refine q_pass (B := B) (evb_B (evd_isi (evd_var rfl hu) hd)) eb fun H1 e1 eb1 => ?_
  refine q_pass (B := B) (EvB.is (evb_test (evd_opIsN (evd_var rfl hu) evd_cn)) hn) eb1 fun H2 e2 eb2 => ?_
  have r2 := (r.grow e1 (Ext.refl _ _)).grow e2 (Ext.refl _ _)
  have h12 := e1.trans e2
  cases b with
  | true =>
    refine q_when (B := B) (b := true) (evb_or (b := true) (evb_B (evd_isi (evd_var rfl hu) hb)) fun z => nomatch z) eb2 (fun _ H3 e3 eb3 => ?_) (fun z => nomatch z)
    exact s_ret (B := B) (d := .bool true) (evd_and (evd_isi (evd_var rfl hu) hb) fun _ => evd_and (b := true) (evd_isi (evd_var rfl hv) hb) fun _ => ev.mono (Ex.refl _) (h12.trans e3)) eb3 (r2.grow e3 (Ext.refl _ _))
  | false =>
    refine q_pass (B := B) (evb_or (evb_B (evd_isi (evd_var rfl hu) hb)) fun _ => evb_B (evd_isi (evd_var rfl hv) hb)) eb2 fun H3 e3 eb3 => ?_
    exact s_ret (B := B) (d := .bool true) (evd_and (evd_isi2 (evd_var rfl hv) (hi rfl)) fun _ => ev.mono (Ex.refl _) (h12.trans e3)) eb3 (r2.grow e3 (Ext.refl _ _))
theorem kitA_int {K : PySem.W.Frag} : PySem.W.kitAny K (.type "int") [.type "int", .type "str"] = some true := kitAny_cons (b := true) (kit_ty (by decide +kernel)) (fun z => nomatch z) fun _ => rfl
theorem kitA_str {K : PySem.W.Frag} : PySem.W.kitAny K (.type "str") [.type "int", .type "str"] = some true := kitAny_cons (b := false) (kit_ty (by decide +kernel)) (fun _ => kitAny_cons (b := true) (kit_ty (by decide +kernel)) (fun z => nomatch z) fun _ => rfl) fun z => nomatch z
theorem pure_law_same {K : PySem.W.Frag} {n : Nat}  {vs : List V} {H : Hp} {Q : VK} {E : XK} (h : sp_law_same (n + 1) K vs H Q E) : t_law_same n K E { nx := fun _ H' => Q .non H', rt := Q } (start ["found", "due", "one", "other"] vs) H := by
  obtain ⟨B, d, v, u, eb, rfl, hv, hu, hs, r⟩ := h
  show t_law_same n K E _ [some v, some u, none, none] H
  cases d with
  | none =>
    refine q_pass (B := B) (evb_B (evd_isi (evd_var rfl hu) kb_nt)) eb fun H1 e1 eb1 => ?_
    refine q_when (B := B) (b := true) (evb_test (evd_opIsN (evd_var rfl hu) evd_cn)) eb1 (fun _ H2 e2 eb2 => ?_) (fun z => nomatch z)
    exact s_ret (B := B) (d := .bool true) (evd_opIsN (evd_var rfl hv) evd_cn) eb2 ((r.grow e1 (Ext.refl _ _)).grow e2 (Ext.refl _ _))
  | bool b => exact same_flat eb hv hu r kb_bt rfl true kb_bb (fun z => nomatch z) (by cases hv; cases hu; rfl) (fun _ _ h _ _ h' => by cases h; cases h'; rfl)
  | int b => exact same_flat eb hv hu r kb_it rfl false kb_ib (fun _ => kitA_int) (by cases hv; cases hu; rfl) (fun _ _ h _ _ h' => by cases h; cases h'; rfl)
  | str b => exact same_flat eb hv hu r kb_st rfl false kb_sb (fun _ => kitA_str) (by cases hv; cases hu; rfl) (fun _ _ h _ _ h' => by cases h; cases h'; rfl)
  | list ds => cases n <;> exact hs.elim
  | dict ds => cases n <;> exact hs.elim
  | tuple ds =>
    cases n with
    | zero => exact hs.elim
    | succ n =>
      refine q_when (B := B) (b := true) (evb_B (evd_isi (evd_var rfl hu) kb_tt)) eb (fun _ H1 e1 eb1 => ?_) (fun z => nomatch z)
      refine q_pass (B := B) (EvB.is (evb_or (evb_not (evb_B (evd_isi (b := true) (evd_var rfl hv) kb_tt))) fun _ => evb_test (evd_neI (evd_lenT (evd_var rfl hv)) (evd_lenT (evd_var rfl hu)))) (by simp)) eb1 fun H2 e2 eb2 => ?_
      refine s_ret (B := B) (d := .bool true) ?_ eb2 ((r.grow e1 (Ext.refl _ _)).grow e2 (Ext.refl _ _))
      refine EvD.is (evd_all (bs := ds.map fun _ => true) ?_) (by simp)
      have hl : ds.length ≤ 40000 := Nat.le_trans hs.1 (by decide)
      · have hz : EvDs (tCons (tVar 0) (tCons (tVar 1) tNil)) [some v, some u, none, none] B H2 [.tuple (ds.map id), .tuple (ds.map id)] := by
          rw [List.map_id]
          exact evs_cons (evd_var rfl hv) (evs_cons (evd_var rfl hu) evs_nil)
        refine EvD.is (evd_lc (fun d => .tuple [d, d]) (fun _ => true) (fun _ => .bool true) (src_zip id id hz) hl fun d hd x B1 H3 eb' eh' e' hx R k => tg2 hx e' fun v1 v2 h1 h2 => k _ rfl evb_yes fun _ => ?_) ?_
        · exact cev_law_same (evd_var rfl h1) (evd_var rfl h2) (hs.2 d hd)
        · rw [List.filter_eq_self.mpr (fun _ _ => rfl), List.map_map]; rfl
end GK

namespace GK
open PySem PySem.Spec PyProof.Rows L2
open Evl (Ex ex_l ex_t ex_rd sq_of st_of sz_of sz_lt fresh_back)
/-! ### numbers as texts of six figures -/
theorem tl_num (n : Nat) : tl (Str.ofString (toString ((n : Nat) : Int))) = TL.numL n := TL.tl_num n
theorem toStr_nat {n : Int} (h : 0 ≤ n) : (Str.ofString (toString n)) = Str.ofString (toString ((n.toNat : Nat) : Int)) := by rw [Int.toNat_of_nonneg h]
def six (n : Nat) : List Nat := List.replicate (6 - (TL.numL n).length) 48 ++ TL.numL n
theorem six_len {n : Nat} (h : n < 1000000) : (six n).length = 6 := by
  have := TL.numL_len (n := n) (k := 6) (by decide) h
  unfold six
  rw [List.length_append, List.length_replicate]; omega
theorem zfill_six {n : Nat} (h : n < 1000000) : tl (Txt.zfill (Str.ofString (toString ((n : Nat) : Int))) 6) = six n := by
  have hl := TL.numL_len (n := n) (k := 6) (by decide) h
  have he := tl_num n
  have hlen : (Str.ofString (toString ((n : Nat) : Int))).length = (TL.numL n).length := by rw [len_tl, he]
  unfold Txt.zfill
  rw [hlen]
  by_cases c : (6 : Int) ≤ ((TL.numL n).length : Int)
  · rw [if_pos c, he]
    unfold six
    rw [show 6 - (TL.numL n).length = 0 by omega]
    rfl
  · rw [if_neg c]
    unfold PySem.zfilled
    have h0 : ∀ c, (Str.ofString (toString ((n : Nat) : Int))).cps[0]? = some c → 48 ≤ c ∧ c ≤ 57 := fun c hc => by
      rw [← Array.getElem?_toList] at hc
      have hm : c ∈ TL.numL n := by rw [← he]; exact List.mem_of_getElem? hc
      have := TL.numL_digits n c hm
      omega
    split
    · rename_i hh; have := h0 _ hh; omega
    · rename_i hh; have := h0 _ hh; omega
    · unfold Builtin.Str.padded six
      show ((Array.replicate _ 48 ++ (Str.ofString (toString ((n : Nat) : Int))).cps ++ Array.replicate 0 48).toList) = _
      simp only [Array.toList_append, Array.toList_replicate, List.replicate_zero, List.append_nil]
      rw [show (Str.ofString (toString ((n : Nat) : Int))).cps.toList = TL.numL n from he]
      rfl
theorem sIx_neg {n d : Nat} {v : Int} (h : v < 0) : HT.sIx n d (some v) = (v + (n : Int)).toNat := if_pos h
theorem sIx_pos {n d : Nat} {v : Int} (h : ¬ v < 0) : HT.sIx n d (some v) = min v.toNat n := if_neg h
theorem sIx_none {n d : Nat} : HT.sIx n d none = d := rfl
theorem zeros_tl : tl ("00000" : Str) = List.replicate 5 48 := by decide +kernel
theorem cut_six {n : Nat} (h : n < 1000000) : tl (cutS (("00000" : Str) ++ Str.ofString (toString ((n : Nat) : Int))) (some (-6)) none) = six n := by
  have hl := TL.numL_len (n := n) (k := 6) (by decide) h
  have hn := List.length_pos_iff.mpr (TL.numL_ne n)
  have he := tl_num n
  have ht : tl (("00000" : Str) ++ Str.ofString (toString ((n : Nat) : Int))) = List.replicate 5 48 ++ TL.numL n := by rw [tl_app, zeros_tl, he]
  have hlen : (("00000" : Str) ++ Str.ofString (toString ((n : Nat) : Int))).length = 5 + (TL.numL n).length := by rw [len_tl, ht, List.length_append, List.length_replicate]
  rw [tl_cut, ht, hlen, sIx_neg (by decide), sIx_none]
  have hd : ((-6 : Int) + ((5 + (TL.numL n).length : Nat) : Int)).toNat = (TL.numL n).length - 1 := by omega
  rw [hd, List.take_of_length_le (by rw [List.length_drop, List.length_append, List.length_replicate]; omega)]
  rw [List.drop_append_of_le_length (by rw [List.length_replicate]; omega), List.drop_replicate]
  unfold six
  rw [show 5 - ((TL.numL n).length - 1) = 6 - (TL.numL n).length by omega]
theorem sumT_tl (x : Str) : tl (sumT x) = six (sumN (tl x)).toNat := by
  have h := sumN_rng (tl x)
  unfold sumT
  rw [toStr_nat h.1]
  exact zfill_six (by omega)
theorem sumT_len (x : Str) : (sumT x).length = 6 := by
  have h := sumN_rng (tl x)
  rw [len_tl, sumT_tl, six_len (by omega)]
theorem sumT_cut (x : Str) : cutS (("00000" : Str) ++ Str.ofString (toString (sumN (tl x)))) (some (-6)) none = sumT x := by
  have h := sumN_rng (tl x)
  apply str_ext
  rw [sumT_tl, toStr_nat h.1]
  exact cut_six (by omega)
theorem sumN_take {l : List Nat} {i : Nat} {c : Nat} (h : l[i]? = some c) : sumN (l.take (i + 1)) = sumStep (sumN (l.take i)) c := by
  unfold sumN
  rw [lc_take h, List.foldl_append]
  rfl
theorem signs_at {x : Str} {i : Nat} {d : PyData} (h : (signsD x)[i]? = some d) : ∃ c, (tl x)[i]? = some c ∧ d = .str (sign c) := by
  unfold signsD at h
  rw [List.getElem?_map] at h
  cases e : x.cps.toList[i]? with
  | none => rw [e] at h; cases h
  | some c => rw [e] at h; exact ⟨c, rfl, (Option.some.inj h).symm⟩
theorem signsD_len (x : Str) : (signsD x).length = (tl x).length := by simp [signsD, tl]
def sp_sum_of (K : PySem.W.Frag) : Sp := fun vs H Q _ => ∃ (B : Hp) (x : Str), Ex B H ∧ vs = [.str x] ∧ Ret (.str (sumT x)) B H Q
theorem len_sum_of {K : PySem.W.Frag} {vs : List V} {H : Hp} {Q : VK} {E : XK} (h : sp_sum_of K vs H Q E) : vs.length = 1 := by
  obtain ⟨_, _, _, rfl, _⟩ := h; rfl
def t_sum_of (K : PySem.W.Frag) (E : XK) : TS :=
  (tSeq (tAsg (tC (.int 0)) (gName 1))
    (tSeq (tFor (iStr (tVar 0)) (gName 2) (tAsg (tOp (rI (fun _ j => 0 < j) fun i j => .int (i % j)) (tOp (rI0 fun i j => .int (i - j)) (tOp (rI0 fun i j => .int (i + j)) (tOp (rI CMul fun i j => .int (i * j)) (tC (.int 31)) (tVar 1)) (tCB rOrd1 (tCons (tVar 2) tNil))) (tC (.int 32))) (tC (.int 999983))) (gName 1)))
    (tRet (tM1 rZfill (tCB rStrInt (tCons (tVar 1) tNil)) (tC (.int 6))))))
theorem pure_sum_of {K : PySem.W.Frag}  {vs : List V} {H : Hp} {Q : VK} {E : XK} (h : sp_sum_of K vs H Q E) : t_sum_of K E { nx := fun _ H' => Q .non H', rt := Q } (start ["data", "found", "sign"] vs) H := by
  obtain ⟨B, x, eb, rfl, r⟩ := h
  refine q_asgI (B := B) evd_ci eb fun H1 e1 eb1 => ?_
  refine q_for (B := B) (src_str (evd_varS rfl)) eb1 (fun B1 i σ1 H1 => ∃ s : Option V, σ1 = [some (.str x), some (.int (sumN ((tl x).take i))), s] ∧ Ex B1 H1 ∧ Ret (.str (sumT x)) B1 H1 Q)
    (fun H2 B2 e2 x2 eb2 => ⟨none, rfl, eb2, (r.grow e1 (Ext.refl _ _)).grow e2 x2⟩) (fun _ _ _ _ _ ⟨_, _, h, _⟩ => h) ?_ ?_
  · rintro B1 i d v σ1 H2 H3 B3 eB hd ⟨s, rfl, eb2, r2⟩ e3 x3 eb3 hv
    obtain ⟨c, hc, rfl⟩ := signs_at hd
    cases hv
    refine s_asgI (B := B1) (n := sumN ((tl x).take (i + 1))) ?_ (eb2.trans e3) fun H4 e4 eb4 => ⟨_, rfl, eb4, (r2.grow e3 (Ext.refl _ _)).grow e4 (Ext.refl _ _)⟩
    rw [sumN_take hc]
    exact (evd_mod (evd_I0 (evd_I0 (evd_mul evd_ci (evd_varI rfl)) (evd_ord (evd_varS rfl))) evd_ci) evd_ci)
  · rintro B1 σ1 H2 eB ⟨s, rfl, eb2, r2⟩
    rw [signsD_len, List.take_length]
    have h := sumN_rng (tl x)
    exact s_ret (B := B1) (evd_zfill (evd_strI (evd_varI rfl)) evd_ci) eb2 r2
section
variable {K : PySem.W.Frag} {σ : Sig} {B H : Hp} {te ta tb tc : TE} {d : PyData} {E : XK}
theorem cev_sum_of {x : Str} (ha : EvD ta σ B H (.str x)) : EvD (tCall (sp_sum_of K) [] E (tCons ta tNil)) σ B H (.str (sumT x)) := evd_call (evs_cons ha evs_nil) fun H1 B1 vs _ _ eb hd Q q => by
  obtain ⟨v, rfl, hv⟩ := dpa1 hd
  cases hv
  exact ⟨B1, x, eb, rfl, q⟩
end
def sp_law_sum (K : PySem.W.Frag) : Sp := sp_sum_of K
theorem len_law_sum {K : PySem.W.Frag} {vs : List V} {H : Hp} {Q : VK} {E : XK} (h : sp_law_sum K vs H Q E) : vs.length = 1 := len_sum_of (E := E) h
theorem blank_sign : (" " : Str) = sign 32 := by decide +kernel
def t_law_sum (K : PySem.W.Frag) (E : XK) : TS :=
  (tSeq (tAsg (tC (.int 0)) (gName 1))
    (tSeq (tFor (iStr (tVar 0)) (gName 2) (tAsg (tOp (rI (fun _ j => 0 < j) fun i j => .int (i % j)) (tOp (rI0 fun i j => .int (i - j)) (tOp (rI0 fun i j => .int (i + j)) (tOp (rI CMul fun i j => .int (i * j)) (tVar 1) (tC (.int 31))) (tCB rOrd1 (tCons (tVar 2) tNil))) (tCB rOrd1 (tCons (tC (.str " ")) tNil))) (tC (.int 999983))) (gName 1)))
    (tRet (tSl rSlS (tOp rAddStr (tC (.str "00000")) (tCB rStrInt (tCons (tVar 1) tNil))) (tPart (tUn (rU fun i => .int (-i)) (tC (.int 6)))) tNoPart))))
theorem pure_law_sum {K : PySem.W.Frag}  {vs : List V} {H : Hp} {Q : VK} {E : XK} (h : sp_law_sum K vs H Q E) : t_law_sum K E { nx := fun _ H' => Q .non H', rt := Q } (start ["data", "found", "sign"] vs) H := by
  obtain ⟨B, x, eb, rfl, r⟩ := h
  refine q_asgI (B := B) evd_ci eb fun H1 e1 eb1 => ?_
  refine q_for (B := B) (src_str (evd_varS rfl)) eb1 (fun B1 i σ1 H1 => ∃ s : Option V, σ1 = [some (.str x), some (.int (sumN ((tl x).take i))), s] ∧ Ex B1 H1 ∧ Ret (.str (sumT x)) B1 H1 Q)
    (fun H2 B2 e2 x2 eb2 => ⟨none, rfl, eb2, (r.grow e1 (Ext.refl _ _)).grow e2 x2⟩) (fun _ _ _ _ _ ⟨_, _, h, _⟩ => h) ?_ ?_
  · rintro B1 i d v σ1 H2 H3 B3 eB hd ⟨s, rfl, eb2, r2⟩ e3 x3 eb3 hv
    obtain ⟨c, hc, rfl⟩ := signs_at hd
    cases hv
    refine s_asgI (B := B1) (n := sumN ((tl x).take (i + 1))) ?_ (eb2.trans e3) fun H4 e4 eb4 => ⟨_, rfl, eb4, (r2.grow e3 (Ext.refl _ _)).grow e4 (Ext.refl _ _)⟩
    rw [sumN_take hc]
    unfold sumStep
    rw [show 31 * sumN ((tl x).take i) + (c : Int) - 32 = sumN ((tl x).take i) * 31 + (c : Int) - ((32 : Nat) : Int) by rw [Int.mul_comm]; rfl]
    refine evd_mod (evd_I0 (g := fun i j => i - j) (evd_I0 (evd_mul (evd_varI rfl) evd_ci) (evd_ord (evd_varS rfl))) (evd_ord (c := 32) ?_)) evd_ci
    rw [← blank_sign]
    exact evd_cs
  · rintro B1 σ1 H2 eB ⟨s, rfl, eb2, r2⟩
    rw [signsD_len, List.take_length]
    have h := sumN_rng (tl x)
    rw [← sumT_cut] at r2
    have hl : (("00000" : Str) ++ Str.ofString (toString (sumN (tl x)))).length ≤ 100000 := by
      rw [len_tl, tl_app, zeros_tl, toStr_nat h.1, tl_num, List.length_append, List.length_replicate]
      have := TL.numL_len (n := (sumN (tl x)).toNat) (k := 6) (by decide) (by omega)
      omega
    have hl2 : ("00000" : Str).length + (Str.ofString (toString (sumN (tl x)))).length ≤ 100000 := by
      rw [len_tl, len_tl, zeros_tl, toStr_nat h.1, tl_num, List.length_replicate]
      have := TL.numL_len (n := (sumN (tl x)).toNat) (k := 6) (by decide) (by omega)
      omega
    exact s_ret (B := B1) (evd_slS (evd_addS evd_cs (evd_strI (evd_varI rfl)) hl2) (evo_some (evd_un evd_ci)) evo_none hl) eb2 r2
section
variable {K : PySem.W.Frag} {σ : Sig} {B H : Hp} {te ta tb tc : TE} {d : PyData} {E : XK}
theorem cev_law_sum {x : Str} (ha : EvD ta σ B H (.str x)) : EvD (tCall (sp_law_sum K) [] E (tCons ta tNil)) σ B H (.str (sumT x)) := cev_sum_of (K := K) (E := E) ha
end
/-! ### sums of parts -/
def sp_sum_of_parts (K : PySem.W.Frag) : Sp := fun vs H Q _ => ∃ (B : Hp) (v : V) (xs : List Str), Ex B H ∧ vs = [v] ∧ Da B v (.tuple (xs.map .str)) ∧ xs.length ≤ 1000 ∧ (∀ x ∈ xs, x.length ≤ 100) ∧ Ret (.str (sumsT xs)) B H Q
theorem len_sum_of_parts {K : PySem.W.Frag} {vs : List V} {H : Hp} {Q : VK} {E : XK} (h : sp_sum_of_parts K vs H Q E) : vs.length = 1 := by
  obtain ⟨_, _, _, _, rfl, _⟩ := h; rfl
theorem sum_le {xs : List Str} {n : Nat} (h : ∀ x ∈ xs, x.length ≤ n) : (xs.map (·.length)).sum ≤ xs.length * n := by
  induction xs with
  | nil => simp
  | cons a r ih =>
    have h1 := h a (by simp)
    have h2 := ih fun x hx => h x (by simp [hx])
    rw [List.map_cons, List.sum_cons, List.length_cons, Nat.succ_mul]
    omega
theorem join_ok {xs : List Str} (hl : xs.length ≤ 1000) (h : ∀ x ∈ xs, x.length ≤ 100) : (xs.map (·.length)).sum + xs.length * ("" : Str).length ≤ 16777216 := by
  have := sum_le h
  show _ + _ * 0 ≤ _
  have h2 : xs.length * 100 ≤ 1000 * 100 := Nat.mul_le_mul_right _ hl
  omega
theorem parts_ends {xs : List Str} (hl : xs.length ≤ 1000) : (sumT (Txt.join "" xs)).length + ("-" : Str).length ≤ 100000 ∧ (sumT (Txt.join "" xs) ++ ("-" : Str)).length + (Str.ofString (toString (xs.length : Int))).length ≤ 100000 := by
  have h1 := sumT_len (Txt.join "" xs)
  have h2 : ("-" : Str).length = 1 := by decide +kernel
  have h3 : (Str.ofString (toString (xs.length : Int))).length ≤ 4 := by
    rw [len_tl, tl_num]
    exact TL.numL_len (by decide) (by omega)
  constructor
  · omega
  · rw [len_tl, tl_app, List.length_append, ← len_tl, ← len_tl]
    omega
def t_sum_of_parts (K : PySem.W.Frag) (E : XK) : TS :=
  (tRet (tOp rAddStr (tOp rAddStr (tCall (sp_sum_of K) [] E0 (tCons (tM1 (rJoin K) (tC (.str "")) (tVar 0)) tNil)) (tC (.str "-"))) (tCB rStrInt (tCons (tCB (rLenSeq K) (tCons (tVar 0) tNil)) tNil))))
theorem pure_sum_of_parts {K : PySem.W.Frag}  {vs : List V} {H : Hp} {Q : VK} {E : XK} (h : sp_sum_of_parts K vs H Q E) : t_sum_of_parts K E { nx := fun _ H' => Q .non H', rt := Q } (start ["sums"] vs) H := by
  obtain ⟨B, v, xs, eb, rfl, hv, hl, hx, r⟩ := h
  have he := parts_ends hl
  refine s_ret (B := B) (evd_addS (evd_addS (cev_sum_of (evd_joinT evd_cs (evd_var rfl (by assumption)) (join_ok hl hx))) evd_cs he.1) (EvD.is (evd_strI (n := (xs.length : Int)) (EvD.is (evd_lenT (evd_var rfl (by assumption))) (by rw [List.length_map]))) rfl) he.2) eb r
section
variable {K : PySem.W.Frag} {σ : Sig} {B H : Hp} {te ta tb tc : TE} {d : PyData} {E : XK}
theorem cev_sum_of_parts {xs : List Str} (ha : EvD ta σ B H (.tuple (xs.map .str))) (hl : xs.length ≤ 1000) (hx : ∀ x ∈ xs, x.length ≤ 100) : EvD (tCall (sp_sum_of_parts K) [] E (tCons ta tNil)) σ B H (.str (sumsT xs)) := evd_call (evs_cons ha evs_nil) fun H1 B1 vs _ _ eb hd Q q => by
  obtain ⟨v, rfl, hv⟩ := dpa1 hd
  exact ⟨B1, v, xs, eb, rfl, hv, hl, hx, q⟩
end
end GK

namespace GK
open PySem PySem.Spec PyProof.Rows L2
open Evl (Ex ex_l ex_t ex_rd sq_of st_of sz_of sz_lt fresh_back)
section
variable {K : PySem.W.Frag} {σ : Sig} {B H : Hp} {te ta tb tc : TE} {d d1 d2 d3 d4 : PyData} {E : XK}
mutual
theorem da_dp : ∀ (d : PyData) (v : V), Da B v d → Dp K B v d
  | .none, _, h => by cases h; exact .non
  | .bool b, _, h => by cases h; exact .bl b
  | .int i, _, h => by cases h; exact .int i
  | .str x, _, h => by cases h; exact .str x
  | .list ds, _, h => by
    cases h with
    | lst h ha => exact .lst (sq_of h) (daAll_dp ds _ ha)
  | .tuple ds, _, h => by
    cases h with
    | tup h ha => exact .tup (st_of h) (daAll_dp ds _ ha)
  | .dict _, _, h => by cases h
theorem daAll_dp : ∀ (ds : List PyData) (vs : List V), DaAll B vs ds → DpAll K B vs ds
  | [], _, h => by cases h; exact .nil
  | d :: ds, _, h => by
    cases h with
    | cons h t => exact .cons (da_dp d _ h) (daAll_dp ds _ t)
end
theorem evd_eqD (ha : EvD ta σ B H d1) (hb : EvD tb σ B H d2) (h1 : SeqAt.shaped d1 = true) (h2 : SeqAt.shaped d2 = true) : EvD (tOp (rEqD K) ta tb) σ B H (.bool (PyData.eqv d1 d2)) := fun H1 e eb Q q => ha H1 e eb _ fun v H2 B2 e2 x2 eb2 hv =>
  hb.mono x2.1 (e.trans e2) H2 (Ex.refl _) eb2 _ fun u H3 B3 e3 x3 eb3 hu =>
    ⟨d1, d2, da_dp _ _ (hv.ex' (x3.1.trans eb3)), da_dp _ _ (hu.ex' eb3), h1, h2, q _ H3 B3 (e2.trans e3) (x2.trans e2 x3) eb3 (.bl _)⟩
theorem evd_neD (ha : EvD ta σ B H d1) (hb : EvD tb σ B H d2) (h1 : SeqAt.shaped d1 = true) (h2 : SeqAt.shaped d2 = true) : EvD (tOp (rNeD K) ta tb) σ B H (.bool (!PyData.eqv d1 d2)) := fun H1 e eb Q q => ha H1 e eb _ fun v H2 B2 e2 x2 eb2 hv =>
  hb.mono x2.1 (e.trans e2) H2 (Ex.refl _) eb2 _ fun u H3 B3 e3 x3 eb3 hu =>
    ⟨d1, d2, da_dp _ _ (hv.ex' (x3.1.trans eb3)), da_dp _ _ (hu.ex' eb3), h1, h2, q _ H3 B3 (e2.trans e3) (x2.trans e2 x3) eb3 (.bl _)⟩
end
/-! ### plain signs -/
def asc (x : Str) : Prop := ∀ c ∈ tl x, c < 1114112
theorem asc_ok {x : Str} (h : asc x) : PyData.strOk x = true := by
  unfold PyData.strOk
  rw [Array.all_eq_true']
  intro c hc
  exact decide_eq_true (h c (by simpa [tl] using hc))
theorem asc_app {x y : Str} (h : asc x) (h' : asc y) : asc (x ++ y) := fun c hc => by
  rw [tl_app] at hc
  rcases List.mem_append.mp hc with q | q
  · exact h c q
  · exact h' c q
theorem asc_cut {x : Str} (h : asc x) (lo hi : Option Int) : asc (cutS x lo hi) := fun c hc => by
  rw [tl_cut] at hc
  exact h c (List.mem_of_mem_drop (List.mem_of_mem_take hc))
theorem asc_sign {c : Nat} (h : c < 1114112) : asc (sign c) := fun z hz => by
  rw [tl_sign] at hz
  rw [List.mem_singleton.mp hz]; exact h
theorem key_small : ∀ c ∈ tl keySigns, c < 1114112 := by decide +kernel
theorem data_small : ∀ c ∈ tl dataSigns, c < 1114112 := by decide +kernel
theorem asc_key (c : Int) : asc (lawKey c) := fun z hz => key_small z (lawKey_signs c z hz)
theorem asc_data (c : Int) : asc (lawData c) := fun z hz => data_small z (lawData_signs c z hz)
theorem canLayAll_map {α : Type} {l : List α} {f : α → PyData} (h : ∀ a ∈ l, (f a).canLay0 = true) : PyData.canLayAll0 (l.map f) = true := by
  induction l with
  | nil => rfl
  | cons a r ih =>
    show ((f a).canLay0 && PyData.canLayAll0 (r.map f)) = true
    rw [h a (by simp), ih fun b hb => h b (by simp [hb])]; rfl
theorem depthAll_map {α : Type} {l : List α} {f : α → PyData} {n : Nat} (h : ∀ a ∈ l, (f a).depth ≤ n) : PyData.depthAll (l.map f) ≤ n := by
  induction l with
  | nil => exact Nat.zero_le _
  | cons a r ih =>
    show max (f a).depth (PyData.depthAll (r.map f)) ≤ n
    have h1 := h a (by simp)
    have h2 := ih fun b hb => h b (by simp [hb])
    omega
theorem shaped_list {α : Type} {l : List α} {f : α → PyData} {n : Nat} (hn : n < 60) (h : ∀ a ∈ l, (f a).canLay0 = true ∧ (f a).depth ≤ n) : SeqAt.shaped (.list (l.map f)) = true := by
  unfold SeqAt.shaped
  have h1 : PyData.canLay0 (.list (l.map f)) = true := canLayAll_map fun a ha => (h a ha).1
  have h2 := depthAll_map (fun a ha => (h a ha).2)
  have h3 : (PyData.list (l.map f)).depth ≤ 64 := by show PyData.depthAll (l.map f) + 1 ≤ 64; omega
  rw [h1, decide_eq_true h3]; rfl
theorem shaped_tuple {α : Type} {l : List α} {f : α → PyData} {n : Nat} (hn : n < 60) (h : ∀ a ∈ l, (f a).canLay0 = true ∧ (f a).depth ≤ n) : SeqAt.shaped (.tuple (l.map f)) = true := by
  unfold SeqAt.shaped
  have h1 : PyData.canLay0 (.tuple (l.map f)) = true := canLayAll_map fun a ha => (h a ha).1
  have h2 := depthAll_map (fun a ha => (h a ha).2)
  have h3 : (PyData.tuple (l.map f)).depth ≤ 64 := by show PyData.depthAll (l.map f) + 1 ≤ 64; omega
  rw [h1, decide_eq_true h3]; rfl
theorem shaped_strs {l : List Str} (h : ∀ x ∈ l, asc x) : SeqAt.shaped (.list (l.map .str)) = true := shaped_list (n := 0) (by decide) fun x hx => ⟨asc_ok (h x hx), Nat.le_refl _⟩
theorem shaped_nil : SeqAt.shaped (.list []) = true := by decide +kernel
theorem shaped_nilT : SeqAt.shaped (.tuple []) = true := by decide +kernel
theorem eqv_nil {α : Type} {l : List α} {f : α → PyData} : PyData.eqv (.list (l.map f)) (.list []) = l.isEmpty := by
  cases l <;> rfl
theorem eqv_nilT {α : Type} {l : List α} {f : α → PyData} : PyData.eqv (.tuple (l.map f)) (.tuple []) = l.isEmpty := by
  cases l <;> rfl
end GK

namespace GK
open PySem PySem.Spec PyProof.Rows L2
open Evl (Ex ex_l ex_t ex_rd sq_of st_of sz_of sz_lt fresh_back)
theorem cut_len (z : Str) (lo hi : Option Int) : (cutS z lo hi).length ≤ z.length := by
  rw [len_tl, tl_cut, List.length_take, List.length_drop, ← len_tl]
  omega
theorem app_len (x y : Str) : (x ++ y).length = x.length + y.length := by rw [len_tl, tl_app, List.length_append, ← len_tl, ← len_tl]
theorem range_at {n i : Nat} {d : PyData} (h : (rangeD 0 n)[i]? = some d) : i < n ∧ d = .int (i : Int) := by
  unfold rangeD at h
  rw [List.getElem?_map] at h
  rcases Nat.lt_or_ge i n with c | c
  · rw [List.getElem?_range c] at h
    exact ⟨c, by rw [← Option.some.inj h]; show PyData.int (0 + (i : Int)) = _; rw [Int.zero_add]⟩
  · rw [List.getElem?_eq_none (by rw [List.length_range]; exact c)] at h; cases h
/-! ### the law's own promise -/
def sp_thelaw (K : PySem.W.Frag) : Sp := fun vs H Q _ => ∃ (a : Addr) (ns : List Int), vs = [.ref a] ∧ SqL K H a (ns.map V.int) ∧ ns.length ≤ 63 ∧ ∀ H', Q (.bl true) H'
theorem len_thelaw {K : PySem.W.Frag} {vs : List V} {H : Hp} {Q : VK} {E : XK} (h : sp_thelaw K vs H Q E) : vs.length = 1 := by
  obtain ⟨_, _, rfl, _⟩ := h; rfl
theorem retTrue {B H : Hp} {Q : VK} (k : ∀ H', Q (.bl true) H') : Ret (.bool true) B H Q := Ret.flat (fun _ _ => dpb) fun H' _ => k H'
/-- a changing list, taken into the frame as it stands -/
theorem up_lst {B H : Hp} {p : Addr} {xs : List V} {ds : List PyData} (eb : Ex B H) (bp : B p = none) (h : H p = some (.lst xs)) (hd : DaAll B xs ds) : Ex B (upd B p (.lst xs)) ∧ Ex (upd B p (.lst xs)) H ∧ Da (upd B p (.lst xs)) (.ref p) (.list ds) :=
  ⟨Ex.new bp, fun a o e => by
    by_cases c : a = p
    · subst c; rw [upd_same] at e; cases e; exact h
    · rw [upd_ne c] at e; exact eb a o e, .lst upd_same (dpAll_ex (Ex.new bp) _ _ hd)⟩
end GK

namespace GK
open PySem PySem.Spec PyProof.Rows L2
open Evl (Ex ex_l ex_t ex_rd sq_of st_of sz_of sz_lt fresh_back)
/-! ### a text cut at one sign -/
theorem pre1 (s c : Nat) (r : List Nat) : TL.pre [s] (c :: r) = decide (c = s) := by
  unfold TL.pre
  show ([c] == [s]) = _
  by_cases h : c = s
  · subst h; simp
  · simp [h]
theorem spl1_len (s : Nat) : ∀ (l acc : List Nat), (TL.spl [s] 0 acc l).length = l.count s + 1
  | [], acc => rfl
  | c :: r, acc => by
    by_cases h : c = s
    · rw [TL.spl_hit (by rw [pre1]; exact decide_eq_true h)]
      show (TL.spl [s] 0 [] r).length + 1 = _
      rw [spl1_len s r, h, List.count_cons_self]
    · rw [TL.spl_miss (by rw [pre1]; exact decide_eq_false h), spl1_len s r, List.count_cons_of_ne h]
theorem split_len {x y : Str} (hy : y.length = 1) (hk : ¬ Builtin.Str.strKind x < Builtin.Str.strKind y) : ((Txt.split x y).length : Int) = Txt.count x y + 1 := by
  unfold Txt.split Txt.count
  split
  · rename_i h
    rcases Bool.or_eq_true_iff.mp h with h | h
    · have h0 : x.length < y.length := of_decide_eq_true h
      have : Builtin.Str.occurrences x y 0 x.length (x.length + 1) = [] := by
        cases e : Builtin.Str.occurrences x y 0 x.length (x.length + 1) with
        | nil => rfl
        | cons i r =>
          have := PySem.StrLaws.occ_spec x y 0 x.length (x.length + 1) i (by rw [e]; exact List.mem_cons_self)
          omega
      rw [this]; rfl
    · exact absurd (of_decide_eq_true h) hk
  · split
    · rename_i h
      rw [List.isEmpty_iff.mp h]; rfl
    · rw [length_partsBetween]; omega
theorem dash_tl : tl ("-" : Str) = [45] := by decide +kernel
theorem dash_tlT : TL.tl ("-" : Str) = [45] := dash_tl
theorem dash_kind (x : Str) : ¬ Builtin.Str.strKind x < Builtin.Str.strKind ("-" : Str) := TL.kind_ok (by decide +kernel)
theorem count_dash (x : Str) : Txt.count x "-" = ((tl x).count 45 : Nat) := by
  have h1 := split_len (x := x) (y := "-") (by decide +kernel) (dash_kind x)
  have h2 := congrArg List.length (TL.split_spl x "-" (by rw [dash_tlT]; simp) (dash_kind x))
  rw [List.length_map, dash_tlT, spl1_len] at h2
  show _ = ((x.cps.toList.count 45 : Nat) : Int)
  have h3 : (Txt.split x "-").length = x.cps.toList.count 45 + 1 := h2
  omega
def ahead (l : List Nat) : List Nat := l.takeWhile (· != 45)
def behind (l : List Nat) : List Nat := (l.dropWhile (· != 45)).drop 1
theorem cut_one : ∀ {l : List Nat}, l.count 45 = 1 → l = ahead l ++ 45 :: behind l ∧ 45 ∉ ahead l ∧ 45 ∉ behind l
  | [], h => by simp at h
  | c :: r, h => by
    by_cases e : c = 45
    · subst e
      rw [List.count_cons_self] at h
      have h0 : r.count 45 = 0 := by omega
      have hb : behind (45 :: r) = r := by simp [behind]
      have ha : ahead (45 :: r) = [] := by simp [ahead]
      rw [ha, hb]
      exact ⟨rfl, by simp, List.count_eq_zero.mp h0⟩
    · rw [List.count_cons_of_ne e] at h
      obtain ⟨h1, h2, h3⟩ := cut_one h
      have ha : ahead (c :: r) = c :: ahead r := by simp [ahead, e]
      have hb : behind (c :: r) = behind r := by simp [behind, e]
      rw [ha, hb]
      refine ⟨by rw [List.cons_append, ← h1], ?_, h3⟩
      intro hm
      rcases List.mem_cons.mp hm with q | q
      · exact e q.symm
      · exact h2 q
theorem split_dash {x : Str} (h : (tl x).count 45 = 1) : Txt.split x "-" = [ofL (ahead (tl x)), ofL (behind (tl x))] := by
  obtain ⟨h1, h2, h3⟩ := cut_one h
  apply TL.map_tl_inj
  rw [TL.split_spl x "-" (by rw [dash_tlT]; simp) (dash_kind x), dash_tlT]
  have h4 : TL.spl [45] 0 [] (tl x) = TL.spl [45] 0 [] (ahead (tl x) ++ ([45] ++ behind (tl x))) := congrArg (TL.spl [45] 0 []) h1
  refine h4.trans ?_
  rw [TL.spl_part1 h2, TL.spl_last1 h3]
  simp only [List.nil_append, List.map_cons, List.map_nil]
  rw [show TL.tl (ofL (ahead (tl x))) = ahead (tl x) from tl_ofL _, show TL.tl (ofL (behind (tl x))) = behind (tl x) from tl_ofL _]
/-! ### numbers -/
def isDig (c : Nat) : Bool := decide (c ∈ tl ("0123456789" : Str))
theorem digs_tl : tl ("0123456789" : Str) = [48, 49, 50, 51, 52, 53, 54, 55, 56, 57] := by decide +kernel
theorem isDig_iff (c : Nat) : isDig c = true ↔ 48 ≤ c ∧ c ≤ 57 := by
  unfold isDig
  rw [digs_tl, decide_eq_true_iff]
  simp only [List.mem_cons, List.mem_nil_iff, or_false]
  omega
def dig (l : List Nat) : Option Nat := if 1 ≤ l.length ∧ l.length ≤ 6 ∧ l.all isDig = true ∧ TL.numL (NumText.digitsVal l) = l then some (NumText.digitsVal l) else none
theorem allDig {l : List Nat} (h : l.all isDig = true) : NumText.AllDigits l := fun c hc => (isDig_iff c).mp (List.all_eq_true.mp h c hc)
theorem digitsVal_lt : ∀ {l : List Nat}, NumText.AllDigits l → NumText.digitsVal l < 10 ^ l.length := by
  intro l hl
  unfold NumText.digitsVal
  suffices h : ∀ (l : List Nat) (a : Nat), NumText.AllDigits l → l.foldl (fun acc c => acc * 10 + (c - 48)) a < (a + 1) * 10 ^ l.length by simpa using h l 0 hl
  intro l
  induction l with
  | nil => intro a _; simp
  | cons c r ih =>
    intro a h
    rw [List.foldl_cons, List.length_cons]
    refine Nat.lt_of_lt_of_le (ih _ h.tail) ?_
    have h1 := h.head
    rw [Nat.pow_succ, Nat.mul_comm (10 ^ r.length) 10, ← Nat.mul_assoc]
    exact Nat.mul_le_mul_right _ (by omega)
theorem dig_num {n : Nat} (h : n < 1000000) : dig (TL.numL n) = some n := by
  unfold dig
  rw [TL.numL_val, if_pos]
  refine ⟨List.length_pos_iff.mpr (TL.numL_ne n), TL.numL_len (by decide) h, ?_, rfl⟩
  rw [List.all_eq_true]
  exact fun c hc => (isDig_iff c).mpr (TL.numL_digits n c hc)
theorem dig_lt {l : List Nat} {n : Nat} (h : dig l = some n) : n < 1000000 := by
  unfold dig at h
  split at h
  · rename_i c
    cases h
    have := digitsVal_lt (allDig c.2.2.1)
    have h6 : 10 ^ l.length ≤ 10 ^ 6 := Nat.pow_le_pow_right (by decide) c.2.1
    omega
  · cases h
def sp_number_of (K : PySem.W.Frag) : Sp := fun vs H Q E => ∃ (B : Hp) (x : Str), Ex B H ∧ vs = [.str x] ∧ x.length ≤ 1000 ∧ RetX K (match dig (tl x) with | some n => .ok (.int (n : Int)) | none => .no "NoRange") B H Q E
theorem len_number_of {K : PySem.W.Frag} {vs : List V} {H : Hp} {Q : VK} {E : XK} (h : sp_number_of K vs H Q E) : vs.length = 1 := by
  obtain ⟨_, _, _, rfl, _⟩ := h; rfl
section
variable {X : Cx} {K : PySem.W.Frag} {σ : Sig} {B H : Hp} {te ta tb tc : TE} {d : PyData} {E : XK}
theorem evd_intS {x : Str} (h : EvD ta σ B H (.str x)) (ha : (tl x).all isDig = true := by with_reducible assumption) (h1 : 1 ≤ x.length := by first | with_reducible assumption | omega) (h2 : x.length ≤ 600 := by first | with_reducible assumption | omega) : EvD (tCB rIntStr (tCons ta tNil)) σ B H (.int ((NumText.digitsVal (tl x) : Nat) : Int)) := evd_cb (evs_cons h evs_nil) fun H1 B1 vs _ _ eb hd Q q => by
  obtain ⟨v, rfl, hv⟩ := dpa1 hd
  cases hv
  refine ⟨x, _, rfl, PySem.intText_digits (allDig ha) ?_ (by omega), by omega, q.at eb (.int _)⟩
  intro z
  rw [len_tl, show tl x = [] from z] at h1
  exact absurd h1 (by decide)
end
def t_number_of (K : PySem.W.Frag) (E : XK) : TS :=
  (tSeq (tIfS (tOr (tNot (tTest (tChain (rI0 fun i j => .bl (decide (i ≤ j))) (rI0 fun i j => .bl (decide (i ≤ j))) (tC (.int 1)) (tCB rLenStr (tCons (tVar 0) tNil)) (tC (.int 6))))) (tOr (tNot (tB (tCB (rAll K) (tCons (tLc (iStr (tVar 0)) (gName 1) tYes (tOp rInSign (tVar 1) (tC (.str "0123456789"))) [1]) tNil)))) (tTest (tOp rNe (tCB rStrInt (tCons (tCB rIntStr (tCons (tVar 0) tNil)) tNil)) (tVar 0))))) (tRs (He.ga K "NoRange") E) tNext)
    (tRet (tCB rIntStr (tCons (tVar 0) tNil))))
theorem pure_number_of {K : PySem.W.Frag}  {vs : List V} {H : Hp} {Q : VK} {E : XK} (h : sp_number_of K vs H Q E) : t_number_of K E { nx := fun _ H' => Q .non H', rt := Q } (start ["word", "sign"] vs) H := by
  obtain ⟨B, x, eb, rfl, hl, r⟩ := h
  have e1 : EvB (tNot (tTest (tChain (rI0 fun i j => .bl (decide (i ≤ j))) (rI0 fun i j => .bl (decide (i ≤ j))) (tC (.int 1)) (tCB rLenStr (tCons (tVar 0) tNil)) (tC (.int 6))))) [some (.str x), none] B H (!(decide (1 ≤ (x.length : Int)) && decide ((x.length : Int) ≤ 6))) := (evb_not (evb_test (evd_chain evd_ci (evd_lenS (evd_varS rfl)) evd_ci)))
  have e2 : EvB (tNot (tB (tCB (rAll K) (tCons (tLc (iStr (tVar 0)) (gName 1) tYes (tOp rInSign (tVar 1) (tC (.str "0123456789"))) [1]) tNil)))) [some (.str x), none] B H (!(tl x).all isDig) := by
    refine EvB.is (evb_not (evb_B (evd_all (bs := (tl x).map isDig) ?_))) (by rw [List.all_map]; rfl)
    rw [List.map_map]
    exact evd_lc1 (as := tl x) (fun c => .str (sign c)) _ (src_str (evd_varS rfl)) (by rw [← len_tl]; omega) (fun _ => rfl) fun c hc y B1 H1 _ _ _ hy => by
      cases hy
      exact (evd_inSign (evd_varS rfl) evd_cs)
  by_cases c : 1 ≤ x.length ∧ x.length ≤ 6
  · by_cases c2 : (tl x).all isDig = true
    · have hdl := digitsVal_lt (allDig c2)
      have h6 : 10 ^ (tl x).length ≤ 10 ^ 6 := Nat.pow_le_pow_right (by decide) (by rw [← len_tl]; exact c.2)
      have e3 : EvB (tTest (tOp rNe (tCB rStrInt (tCons (tCB rIntStr (tCons (tVar 0) tNil)) tNil)) (tVar 0))) [some (.str x), none] B H (!decide (Str.ofString (toString ((NumText.digitsVal (tl x) : Nat) : Int)) = x)) := by
        have c1 := c.1
        exact (evb_test (evd_neS (evd_strI (evd_intS (evd_varS rfl))) (evd_varS rfl)))
      have e123 := evb_or e1 fun _ => evb_or e2 fun _ => e3
      have hc : Str.ofString (toString ((NumText.digitsVal (tl x) : Nat) : Int)) = x ↔ TL.numL (NumText.digitsVal (tl x)) = tl x := by
        constructor
        · intro z; rw [← tl_num, z]
        · intro z; apply str_ext; rw [tl_num, z]
      rw [decide_eq_true (show (1 : Int) ≤ (x.length : Int) by omega), decide_eq_true (show (x.length : Int) ≤ 6 by omega), c2] at e123
      refine q_when e123 eb (fun hb H1 h1 eb1 => ?_) (fun hb H1 h1 eb1 => ?_)
      · have hb' : ¬ TL.numL (NumText.digitsVal (tl x)) = tl x := fun z => by
          rw [decide_eq_true (hc.mpr z)] at hb; cases hb
        have hd : dig (tl x) = none := by unfold dig; rw [if_neg]; exact fun z => hb' z.2.2.2
        rw [hd] at r
        exact r H1 h1
      · have hb' : TL.numL (NumText.digitsVal (tl x)) = tl x := by
          refine hc.mp ?_
          by_cases z : Str.ofString (toString ((NumText.digitsVal (tl x) : Nat) : Int)) = x
          · exact z
          · rw [decide_eq_false z] at hb; cases hb
        have hd : dig (tl x) = some (NumText.digitsVal (tl x)) := by
          unfold dig; rw [if_pos]; exact ⟨by rw [← len_tl]; exact c.1, by rw [← len_tl]; exact c.2, c2, hb'⟩
        rw [hd] at r
        have c1 := c.1
        exact s_ret (B := B) (evd_intS (evd_varS rfl)) eb1 (Ret.grow r h1 (Ext.refl _ _))
    · have hd : dig (tl x) = none := by unfold dig; rw [if_neg]; exact fun z => c2 z.2.2.1
      rw [hd] at r
      have c2' : (tl x).all isDig = false := by simpa using c2
      have e12 := evb_or (a := false) (b := true) (EvB.is e1 (by rw [decide_eq_true (show (1 : Int) ≤ (x.length : Int) by omega), decide_eq_true (show (x.length : Int) ≤ 6 by omega)]; rfl)) (fun _ => evb_or (a := true) (b := true) (tu := (tTest (tOp rNe (tCB rStrInt (tCons (tCB rIntStr (tCons (tVar 0) tNil)) tNil)) (tVar 0)))) (EvB.is e2 (by rw [c2']; rfl)) fun z => nomatch z)
      exact q_when (b := true) e12 eb (fun hb H1 h1 eb1 => r H1 h1) (fun z => nomatch z)
  · have hd : dig (tl x) = none := by unfold dig; rw [if_neg]; intro z; rw [← len_tl] at z; exact c ⟨z.1, z.2.1⟩
    rw [hd] at r
    have e1' : EvB (tNot (tTest (tChain (rI0 fun i j => .bl (decide (i ≤ j))) (rI0 fun i j => .bl (decide (i ≤ j))) (tC (.int 1)) (tCB rLenStr (tCons (tVar 0) tNil)) (tC (.int 6))))) [some (.str x), none] B H true := EvB.is e1 (by
      by_cases z : (1 : Int) ≤ (x.length : Int)
      · rw [decide_eq_true z, decide_eq_false (show ¬ (x.length : Int) ≤ 6 by omega)]; rfl
      · rw [decide_eq_false z]; rfl)
    exact q_when (b := true) (evb_or (a := true) (b := true) e1' fun z => nomatch z) eb (fun hb H1 h1 eb1 => r H1 h1) (fun z => nomatch z)
/-! ### what may raise -/
def EvX (K : PySem.W.Frag) (te : TE) (σ : Sig) (B H : Hp) (r : Res) (E : XK) : Prop := ∀ H1, Ex H H1 → Ex B H1 → ∀ Q : VK, RetX K r B H1 Q E → te σ H1 Q
theorem EvX.ok {K : PySem.W.Frag} {te : TE} {σ : Sig} {B H : Hp} {d : PyData} {E : XK} (h : EvX K te σ B H (.ok d) E) : EvD te σ B H d := fun H1 e1 e2 Q r => h H1 e1 e2 Q r
theorem EvX.no {K : PySem.W.Frag} {te : TE} {σ : Sig} {B H : Hp} {c : Str} {E : XK} {Q : VK} (h : EvX K te σ B H (.no c) E) (eb : Ex B H) (r : ∀ H', Ex H H' → E (.ref (He.ga K c)) none H') : te σ H Q := h H (Ex.refl _) eb Q r
theorem evx_call {K : PySem.W.Frag} {σ : Sig} {B H : Hp} {sp : Sp} {E : XK} {tr : TA} {ds : List PyData} {r : Res} (h : EvDs tr σ B H ds) (hr : ∀ H1 B1 vs, Ex H H1 → Ex B B1 → Ex B1 H1 → DaAll B1 vs ds → ∀ Q : VK, RetX K r B1 H1 Q E → sp vs H1 Q E) : EvX K (tCall sp [] E tr) σ B H r E := fun H1 e1 e2 Q q => h H1 e1 e2 _ fun vs H2 B2 e x ex hd => by
  show sp (vs ++ []) H2 Q E
  rw [List.append_nil]
  exact hr H2 B2 vs (e1.trans e) x.1 ex hd Q (q.grow e x)
theorem tgL2 {K : PySem.W.Frag} {σ : Sig} {i j : Nat} {x : V} {B1 H1 : Hp} {R : Sig → Hp → Prop} {d1 d2 : PyData} (hx : Da B1 x (.list [d1, d2])) (e : Ex B1 H1) (k : ∀ v1 v2, Da B1 v1 d1 → Da B1 v2 d2 → R ((σ.set i (some v1)).set j (some v2)) H1) : gLst K 2 (gCons (gName i) (gCons (gName j) gNil)) x σ H1 R := by
  obtain ⟨a, xs, rfl, h, hs⟩ := dpl hx
  obtain ⟨v1, v2, rfl, h1, h2⟩ := dpa2 hs
  exact ⟨a, _, rfl, sq_of (e _ _ h), rfl, v1, _, rfl, v2, _, rfl, rfl, k v1 v2 h1 h2⟩
/-! ### a range -/
theorem cut_from (x : Str) (k : Int) (hk : 0 ≤ k) : tl (cutS x (some k) none) = (tl x).drop k.toNat := by
  rw [tl_cut, sIx_none, sIx_pos (by omega)]
  rw [List.take_of_length_le (by rw [List.length_drop, ← len_tl]; omega)]
  rcases Nat.le_total k.toNat x.length with c | c
  · rw [Nat.min_eq_left c]
  · rw [Nat.min_eq_right c, List.drop_eq_nil_of_le (by rw [← len_tl]; omega), List.drop_eq_nil_of_le (by rw [← len_tl]; omega)]
theorem starts_tl (x y : Str) : Txt.startswith x y = decide ((tl x).take (tl y).length = tl y) := by
  unfold Txt.startswith
  rw [StrLaws.subAt_eq, List.drop_zero, ← show (tl y).length = y.length from (len_tl y).symm]
  show (_ && ((tl x).take (tl y).length == tl y)) = _
  by_cases c : (tl x).take (tl y).length = tl y
  · rw [decide_eq_true c, c, beq_self_eq_true, Bool.and_true]
    refine decide_eq_true ?_
    have := congrArg List.length c
    rw [List.length_take] at this
    rw [len_tl x, Nat.zero_add]
    omega
  · rw [decide_eq_false c]
    have : ((tl x).take (tl y).length == tl y) = false := by
      cases h : ((tl x).take (tl y).length == tl y) with
      | false => rfl
      | true => exact absurd (eq_of_beq h) c
    rw [this, Bool.and_false]
def finR (b m : Int) : Option (Int × Int) := if m < 1 then none else some (b, m)
def readU (u : List Nat) (size : Int) : Option (Int × Int) :=
  if ahead u = [] then (match dig (behind u) with
    | none => none
    | some n => finR (size - min (n : Int) size) (min (n : Int) size))
  else match dig (ahead u) with
    | none => none
    | some m => if behind u = [] then finR m (min (size - 1) (size - 1) - m + 1) else match dig (behind u) with
      | none => none
      | some l => if (l : Int) < m then none else finR m (min (l : Int) (size - 1) - m + 1)
def signsL : List Nat := [115, 105, 103, 110, 115, 61]
theorem signs_tl : tl ("signs=" : Str) = signsL := by decide +kernel
def headR (t : List Nat) : Bool := decide (t.take 6 = signsL) && decide (t.count 45 = 1)
def readR (t : List Nat) (size : Int) : Option (Int × Int) := if headR t = true then readU (t.drop 6) size else none
def resR (o : Option (Int × Int)) : Res := match o with
  | some (b, m) => .ok (.tuple [.int b, .int m])
  | none => .no "NoRange"
def sp_read_range (K : PySem.W.Frag) : Sp := fun vs H Q E => ∃ (B : Hp) (x : Str) (n : Int), Ex B H ∧ vs = [.str x, .int n] ∧ x.length ≤ 1000 ∧ RetX K (resR (readR (tl x) n)) B H Q E
theorem len_read_range {K : PySem.W.Frag} {vs : List V} {H : Hp} {Q : VK} {E : XK} (h : sp_read_range K vs H Q E) : vs.length = 2 := by
  obtain ⟨_, _, _, _, rfl, _⟩ := h; rfl
theorem evx_number {K : PySem.W.Frag} {σ : Sig} {B H : Hp} {ta : TE} {x : Str} {E : XK} (h : EvD ta σ B H (.str x)) (hl : x.length ≤ 1000) : EvX K (tCall (sp_number_of K) [] E (tCons ta tNil)) σ B H (match dig (tl x) with | some n => .ok (.int (n : Int)) | none => .no "NoRange") E := evx_call (evs_cons h evs_nil) fun H1 B1 vs _ _ eb hd Q q => by
  obtain ⟨v, rfl, hv⟩ := dpa1 hd
  cases hv
  exact ⟨B1, x, eb, rfl, hl, q⟩
def t_read_range (K : PySem.W.Frag) (E : XK) : TS :=
  (tSeq (tIfS (tOr (tNot (tB (tM1 rStarts (tVar 0) (tC (.str "signs="))))) (tTest (tOp rNe (tM1 rCount (tVar 0) (tC (.str "-"))) (tC (.int 1))))) (tRs (He.ga K "NoRange") E) tNext)
    (tSeq (tAsg (tM1 rSplit (tSl rSlS (tVar 0) (tPart (tC (.int 6))) tNoPart) (tC (.str "-"))) (gLst K 2 (gCons (gName 2) (gCons (gName 3) gNil))))
    (tSeq (tIfS (tTest (tOp rEq (tVar 2) (tC (.str "")))) (tSeq (tAsg (tCB rMinI (tCons (tCall (sp_number_of K) [] E (tCons (tVar 3) tNil)) (tCons (tVar 1) tNil))) (gName 4))
    (tAsg (tOp (rI0 fun i j => .int (i - j)) (tVar 1) (tVar 4)) (gName 5))) (tSeq (tAsg (tCall (sp_number_of K) [] E (tCons (tVar 2) tNil)) (gName 5))
    (tSeq (tAsg (tOp (rI0 fun i j => .int (i - j)) (tVar 1) (tC (.int 1))) (gName 6))
    (tSeq (tIfS (tTest (tOp rNe (tVar 3) (tC (.str "")))) (tSeq (tAsg (tCall (sp_number_of K) [] E (tCons (tVar 3) tNil)) (gName 6))
    (tIfS (tTest (tOp (rI0 fun i j => .bl (decide (i < j))) (tVar 6) (tVar 5))) (tRs (He.ga K "NoRange") E) tNext)) tNext)
    (tAsg (tOp (rI0 fun i j => .int (i + j)) (tOp (rI0 fun i j => .int (i - j)) (tCB rMinI (tCons (tVar 6) (tCons (tOp (rI0 fun i j => .int (i - j)) (tVar 1) (tC (.int 1))) tNil))) (tVar 5)) (tC (.int 1))) (gName 4))))))
    (tSeq (tIfS (tTest (tOp (rI0 fun i j => .bl (decide (i < j))) (tVar 4) (tC (.int 1)))) (tRs (He.ga K "NoRange") E) tNext)
    (tRet (tTup (tCons (tVar 5) (tCons (tVar 4) tNil))))))))
theorem pure_read_range {K : PySem.W.Frag}  {vs : List V} {H : Hp} {Q : VK} {E : XK} (h : sp_read_range K vs H Q E) : t_read_range K E { nx := fun _ H' => Q .non H', rt := Q } (start ["text", "size", "first", "second", "many", "begin", "last"] vs) H := by
  obtain ⟨B, x, n, eb, rfl, hl, r⟩ := h
  have e1 : EvB (tOr (tNot (tB (tM1 rStarts (tVar 0) (tC (.str "signs="))))) (tTest (tOp rNe (tM1 rCount (tVar 0) (tC (.str "-"))) (tC (.int 1))))) [some (.str x), some (.int n), none, none, none, none, none] B H (!headR (tl x)) := EvB.is (evb_or (evb_not (evb_B (evd_starts (evd_varS rfl) evd_cs))) fun _ => (evb_test (evd_neI (evd_count (evd_varS rfl) evd_cs) evd_ci))) (by
    unfold headR
    rw [starts_tl, count_dash, signs_tl, show signsL.length = 6 from rfl]
    cases decide (List.take 6 (tl x) = signsL) with
    | false => rfl
    | true =>
      show (!decide (_ = _)) = !decide (_ = _)
      congr 1
      simp only [decide_eq_decide]
      omega)
  refine q_when e1 eb (fun hb H1 h1 eb1 => ?_) (fun hb H1 h1 eb1 => ?_)
  · have hh : headR (tl x) = false := by simpa using hb
    unfold readR at r
    rw [hh, if_neg (by decide)] at r
    exact r H1 h1
  · have hh : headR (tl x) = true := by simpa using hb
    unfold readR at r
    rw [hh, if_pos rfl] at r
    unfold headR at hh
    obtain ⟨ha, hc⟩ := Bool.and_eq_true_iff.mp hh
    have ha := of_decide_eq_true ha
    have hc := of_decide_eq_true hc
    have hu : (tl x).drop 6 = tl (cutS x (some 6) none) := (cut_from x 6 (by decide)).symm
    have hcu : (tl (cutS x (some 6) none)).count 45 = 1 := by
      rw [← hu]
      rw [← List.take_append_drop 6 (tl x), List.count_append, ha] at hc
      rw [show signsL.count 45 = 0 from by decide] at hc
      omega
    have hul : (cutS x (some 6) none).length ≤ 1000 := Nat.le_trans (cut_len _ _ _) hl
    rw [hu] at r
    have hlen : x.length ≤ 100000 := by omega
    have es : EvD (tM1 rSplit (tSl rSlS (tVar 0) (tPart (tC (.int 6))) tNoPart) (tC (.str "-"))) [some (.str x), some (.int n), none, none, none, none, none] B H1 (.list [.str (ofL (ahead (tl (cutS x (some 6) none)))), .str (ofL (behind (tl (cutS x (some 6) none))))]) := by
      have := evd_split (ta := (tSl rSlS (tVar 0) (tPart (tC (.int 6))) tNoPart)) (tb := (tC (.str "-"))) (σ := [some (.str x), some (.int n), none, none, none, none, none]) (B := B) (H := H1) (evd_slS (evd_varS rfl) (evo_some evd_ci) evo_none) evd_cs (by decide +kernel) (by omega)
      rw [split_dash hcu] at this
      exact this
    have hla : (ofL (ahead (tl (cutS x (some 6) none)))).length ≤ 1000 := by
      rw [len_tl, tl_ofL]
      exact Nat.le_trans (List.Sublist.length_le (List.takeWhile_sublist _)) (by rw [← len_tl]; exact hul)
    have hlb : (ofL (behind (tl (cutS x (some 6) none)))).length ≤ 1000 := by
      rw [len_tl, tl_ofL]
      refine Nat.le_trans (List.Sublist.length_le (List.Sublist.trans (List.drop_sublist _ _) (List.dropWhile_sublist _))) (by rw [← len_tl]; exact hul)
    have hta : tl (ofL (ahead (tl (cutS x (some 6) none)))) = ahead (tl (cutS x (some 6) none)) := tl_ofL _
    have htb : tl (ofL (behind (tl (cutS x (some 6) none)))) = behind (tl (cutS x (some 6) none)) := tl_ofL _
    have hea : ∀ l : List Nat, decide (ofL l = ("" : Str)) = decide (l = []) := fun l => by
      rw [decide_eq_decide]
      constructor
      · intro z; rw [← tl_ofL l, z]; rfl
      · intro z; subst z; rfl
    unfold readU at r
    generalize cutS x (some 6) none = u at *
    generalize hAe : ahead (tl u) = A at *
    generalize hBe : behind (tl u) = C at *
    have fin : ∀ (x0 x1 x2 x3 x6 : Option V) (b m : Int) (H2 : Hp), Ex H H2 → RetX K (resR (finR b m)) B H Q E → (tSeq (tIfS (tTest (tOp (rI0 fun i j => .bl (decide (i < j))) (tVar 4) (tC (.int 1)))) (tRs (He.ga K "NoRange") E) tNext) (tRet (tTup (tCons (tVar 5) (tCons (tVar 4) tNil))))) { nx := fun _ H' => Q .non H', rt := Q } [x0, x1, x2, x3, some (.int m), some (.int b), x6] H2 := by
      intro x0 x1 x2 x3 x6 b m H2 e2 r2
      refine q_when (B := B) (evb_test (evd_B0 (evd_varI rfl) evd_ci)) (eb.trans e2) (fun hb H3 h3 eb3 => ?_) (fun hb H3 h3 eb3 => ?_)
      · unfold finR at r2
        rw [if_pos (of_decide_eq_true hb)] at r2
        exact r2 H3 (e2.trans h3)
      · unfold finR at r2
        rw [if_neg (of_decide_eq_false hb)] at r2
        exact s_ret (B := B) (evd_tup (evs_cons (evd_varI rfl) (evs_cons (evd_varI rfl) evs_nil))) eb3 (Ret.grow r2 (e2.trans h3) (Ext.refl _ _))
    refine EvD.run es eb1 fun v H2 B2 h2 x2 eb2 hv => ?_
    refine tgL2 hv eb2 fun v1 v2 d1 d2 => ?_
    cases d1
    cases d2
    refine q_if (b := decide (A = [])) (EvB.is (B := B) (evb_test (evd_eqS (evd_varS rfl) evd_cs)) (hea A)) (eb1.trans h2) (fun hb H3 h3 eb3 => ?_) (fun hb H3 h3 eb3 => ?_)
    · rw [if_pos (of_decide_eq_true hb)] at r
      have ex := evx_number (K := K) (E := E) (B := B) (H := H3) (σ := [some (.str x), some (.int n), some (.str (ofL A)), some (.str (ofL C)), none, none, none]) (ta := tVar 3) (x := ofL C) (evd_varS rfl) hlb
      rw [htb] at ex
      cases hd : dig C with
      | none =>
        rw [hd] at r ex
        exact ex.no eb3 fun H' e' => r H' ((h1.trans h2).trans (h3.trans e'))
      | some k =>
        rw [hd] at r ex
        refine q_asgI (evd_min ex.ok (evd_varI rfl)) eb3 fun H4 h4 eb4 => ?_
        refine s_asgI (B := B) (evd_I0 (evd_varI rfl) (evd_varI rfl)) eb4 fun H5 h5 eb5 => ?_
        exact fin _ _ _ _ _ _ _ H5 ((((h1.trans h2).trans h3).trans h4).trans h5) r
    · rw [if_neg (of_decide_eq_false hb)] at r
      have ex := evx_number (K := K) (E := E) (B := B) (H := H3) (σ := [some (.str x), some (.int n), some (.str (ofL A)), some (.str (ofL C)), none, none, none]) (ta := tVar 2) (x := ofL A) (evd_varS rfl) hla
      rw [hta] at ex
      cases hd : dig A with
      | none =>
        rw [hd] at r ex
        exact ex.no eb3 fun H' e' => r H' ((h1.trans h2).trans (h3.trans e'))
      | some k =>
        rw [hd] at r ex
        dsimp only at r
        refine q_asgI ex.ok eb3 fun H4 h4 eb4 => ?_
        refine q_asgI (B := B) (evd_I0 (evd_varI rfl) evd_ci) eb4 fun H5 h5 eb5 => ?_
        refine q_when (b := !decide (C = [])) (EvB.is (B := B) (evb_test (evd_neS (evd_varS rfl) evd_cs)) (by rw [hea])) eb5 (fun hb6 H6 h6 eb6 => ?_) (fun hb6 H6 h6 eb6 => ?_)
        · rw [if_neg (by simpa using hb6)] at r
          have ex2 := evx_number (K := K) (E := E) (B := B) (H := H6) (σ := [some (.str x), some (.int n), some (.str (ofL A)), some (.str (ofL C)), none, some (.int k), some (.int (n - 1))]) (ta := tVar 3) (x := ofL C) (evd_varS rfl) hlb
          rw [htb] at ex2
          cases hd2 : dig C with
          | none =>
            rw [hd2] at r ex2
            exact ex2.no eb6 fun H' e' => r H' ((((((h1.trans h2).trans h3).trans h4).trans h5).trans h6).trans e')
          | some l =>
            rw [hd2] at r ex2
            dsimp only at r
            refine q_asgI ex2.ok eb6 fun H7 h7 eb7 => ?_
            refine s_when (B := B) (evb_test (evd_B0 (evd_varI rfl) (evd_varI rfl))) eb7 (fun hb8 H8 h8 eb8 => ?_) (fun hb8 H8 h8 eb8 => ?_)
            · rw [if_pos (of_decide_eq_true hb8)] at r
              exact r H8 (((((((h1.trans h2).trans h3).trans h4).trans h5).trans h6).trans h7).trans h8)
            · rw [if_neg (of_decide_eq_false hb8)] at r
              refine s_asgI (B := B) (evd_I0 (evd_I0 (evd_min (evd_varI rfl) (evd_I0 (evd_varI rfl) evd_ci)) (evd_varI rfl)) evd_ci) eb8 fun H9 h9 eb9 => ?_
              exact fin _ _ _ _ _ _ _ H9 ((((((((h1.trans h2).trans h3).trans h4).trans h5).trans h6).trans h7).trans h8).trans h9) r
        · rw [if_pos (by simpa using hb6)] at r
          refine s_asgI (B := B) (evd_I0 (evd_I0 (evd_min (evd_varI rfl) (evd_I0 (evd_varI rfl) evd_ci)) (evd_varI rfl)) evd_ci) eb6 fun H7 h7 eb7 => ?_
          exact fin _ _ _ _ _ _ _ H7 ((((((h1.trans h2).trans h3).trans h4).trans h5).trans h6).trans h7) r
end GK

namespace GK
open PySem PySem.Spec PyProof.Rows L2
open Evl (Ex ex_l ex_t ex_rd sq_of st_of sz_of sz_lt fresh_back)
theorem evd_isX {K : PySem.W.Frag} {σ : Sig} {B H : Hp} {i : Nat} {a D C : Addr} {b : Bool} (hv : σ[i]? = some (some (.ref a))) (hD : ExcC K D) (hk : PySem.W.kitOne K (.ref D) (.ref C) = some b) : EvD (tCB (rIsX K (.ref D) none a) (tCons (tVar i) (tCons (tC (.ref C)) tNil))) σ B H (.bool b) := fun H1 e eb Q q =>
  ⟨.ref a, hv, D, rfl, rfl, hD, .ref C, .ref C, b, rfl, fun u r => r, hk, q _ H1 B (Ex.refl _) (Ext.refl _ _) eb (.bl b)⟩
theorem evd_isXt {K : PySem.W.Frag} {σ : Sig} {B H : Hp} {i : Nat} {a D : Addr} {T : String} {b : Bool} (hv : σ[i]? = some (some (.ref a))) (hD : ExcC K D) (hk : PySem.W.kitOne K (.ref D) (.type T) = some b) : EvD (tCB (rIsX K (.ref D) none a) (tCons (tVar i) (tCons (tC (.ty T)) tNil))) σ B H (.bool b) := fun H1 e eb Q q =>
  ⟨.ref a, hv, D, rfl, rfl, hD, .ty T, .type T, b, rfl, fun u r => r, hk, q _ H1 B (Ex.refl _) (Ext.refl _ _) eb (.bl b)⟩
abbrev EXL : List Str := ["BadPart", "NoRange"]
def noD : PyData := .tuple [.str "no", .bool true, .bool false, .bool true]
def toldD (o : Option (Int × Int)) : PyData := match o with
  | some (b, m) => .tuple [.int b, .int m]
  | none => noD
def sp_law_told (K : PySem.W.Frag) : Sp := fun vs H Q _ => ∃ (B : Hp) (x : Str) (n : Int), Ex B H ∧ vs = [.str x, .int n] ∧ x.length ≤ 1000 ∧ Ret (toldD (readR (tl x) n)) B H Q
theorem len_law_told {K : PySem.W.Frag} {vs : List V} {H : Hp} {Q : VK} {E : XK} (h : sp_law_told K vs H Q E) : vs.length = 2 := by
  obtain ⟨_, _, _, _, rfl, _⟩ := h; rfl
def t_law_told (K : PySem.W.Frag) (E : XK) : TS :=
  (tSeq (tAsg (tC .non) (gName 2))
    (tSeq (tTryAs K (.ref (He.ga K "KeepError")) 3 (fun W => tAsg (tCallS (sp_read_range K) (WE W) (tCons (tVar 0) (tCons (tVar 1) tNil))) (gName 2)) (fun a cls d => (tAsg (tTup (tCons (tC (.str "no")) (tCons (tCB (rIsX K cls d a) (tCons (tVar 3) (tCons (tC (.ref (He.ga K "NoRange"))) tNil))) (tCons (tCB (rIsX K cls d a) (tCons (tVar 3) (tCons (tC (.ref (He.ga K "BadPart"))) tNil))) (tCons (tCB (rIsX K cls d a) (tCons (tVar 3) (tCons (tC (.ty "ValueError")) tNil))) tNil))))) (gName 2))))
    (tRet (tVar 2))))
theorem pure_law_told {K : PySem.W.Frag} (xs : Exs EXL K) {vs : List V} {H : Hp} {Q : VK} {E : XK} (h : sp_law_told K vs H Q E) : t_law_told K E { nx := fun _ H' => Q .non H', rt := Q } (start ["text", "size", "told", "e"] vs) H := by
  obtain ⟨B, x, n, eb, rfl, hl, r⟩ := h
  refine q_asgN (B := B) evd_cn eb fun H1 h1 eb1 => ?_
  refine ⟨.str x, rfl, .int n, rfl, B, x, n, eb1, rfl, hl, ?_⟩
  cases ho : readR (tl x) n with
  | some bm =>
    obtain ⟨b, m⟩ := bm
    rw [ho] at r
    intro v H3 B3 h3 x3 eb3 hv
    exact s_ret (B := B3) (evd_var rfl hv) eb3 (r.grow (h1.trans h3) (Ext.trans (Ext.refl _ _) h1 x3))
  | none =>
    rw [ho] at r
    intro H3 h3
    have cN : ExcC K (He.ga K "NoRange") := xs.c "NoRange" (by decide)
    refine ⟨true, xs.m "NoRange" (by decide), fun _ a ha => ?_, fun z => nomatch z⟩
    have kN := xs.k "NoRange" (by decide) "NoRange" (by decide)
    have kB := xs.k "NoRange" (by decide) "BadPart" (by decide)
    have kV := xs.v "NoRange" (by decide)
    refine s_asg (B := B) (d := noD) (evd_tup (evs_cons evd_cs (evs_cons (evd_isX rfl cN kN) (evs_cons (evd_isX rfl cN kB) (evs_cons (evd_isXt rfl cN kV) evs_nil))))) (eb1.trans h3) fun v H4 B4 h4 x4 eb4 hv => ?_
    exact s_ret (B := B4) (evd_var rfl hv) eb4 (r.grow ((h1.trans h3).trans h4) (Ext.trans (Ext.refl _ _) (h1.trans h3) x4))
/-! ### what is due -/
def intsD (l : List Nat) : PyData := .list (l.map fun (i : Nat) => .int (i : Int))
section
variable {K : PySem.W.Frag} {σ : Sig} {B H : Hp} {te ta tb tc : TE} {tt : TT} {d : PyData} {E : XK}
theorem evd_fR {tr : TA} {j n : Nat} {vs : List Nat} (c : Nat → Bool) (hs : EvDs tr σ B H [.int (n : Int)]) (hn : n ≤ 10000) (hw : ∀ x, wipe ((wipe σ vs).set j (some x)) vs = wipe σ vs) (hj : ∀ x, ((wipe σ vs).set j (some x))[j]? = some (some x))
    (ht : ∀ i : Nat, i < n → ∀ B1 H1, Ex B B1 → Ex H H1 → Ex B1 H1 → EvB tt ((wipe σ vs).set j (some (.int (i : Int)))) B1 H1 (c i)) : EvD (tLc (iRng1 tr) (gName j) tt (tVar j) vs) σ B H (intsD ((List.range n).filter c)) := by
  have hsrc : SrcD (iRng1 tr) σ B H ((List.range n).map fun (i : Nat) => PyData.int (i : Int)) := by
    have := src_range1 hs (by omega)
    unfold rangeD at this
    simpa only [Int.zero_add, Int.toNat_natCast] using this
  refine evd_lc (fun i : Nat => .int (i : Int)) c (fun i : Nat => .int (i : Int)) hsrc (by rw [List.length_range]; omega) fun i hi x B1 H1 e1 e2 e3 hx R k => ?_
  cases hx
  exact k _ (hw _) (ht i (List.mem_range.mp hi) B1 H1 e1 e2 e3) fun _ => evd_var (hj _) (.int _)
theorem evd_fL {j : Nat} {l : List Nat} {vs : List Nat} (c : Nat → Bool) (hs : EvD ta σ B H (intsD l)) (hn : l.length ≤ 10000) (hw : ∀ x, wipe ((wipe σ vs).set j (some x)) vs = wipe σ vs) (hj : ∀ x, ((wipe σ vs).set j (some x))[j]? = some (some x))
    (ht : ∀ i ∈ l, ∀ B1 H1, Ex B B1 → Ex H H1 → Ex B1 H1 → EvB tt ((wipe σ vs).set j (some (.int (i : Int)))) B1 H1 (c i)) : EvD (tLc (iList K ta) (gName j) tt (tVar j) vs) σ B H (intsD (l.filter c)) := by
  refine evd_lc (fun i : Nat => .int (i : Int)) c (fun i : Nat => .int (i : Int)) (src_list (ds := l.map fun (i : Nat) => .int (i : Int)) hs) (by omega) fun i hi x B1 H1 e1 e2 e3 hx R k => ?_
  cases hx
  exact k _ (hw _) (ht i hi B1 H1 e1 e2 e3) fun _ => evd_var (hj _) (.int _)
end
def optV : Option Nat → V
  | some n => .int (n : Int)
  | none => .non
def optD : Option Nat → PyData
  | some n => .int (n : Int)
  | none => .none
theorem opt_da (B : Hp) : ∀ o, Da B (optV o) (optD o)
  | some n => .int _
  | none => .non
def placesN (f s : Option Nat) (n : Nat) : List Nat := match f with
  | none => (List.range n).filter fun (i : Nat) => decide ((n : Int) - ((s.getD 0 : Nat) : Int) ≤ (i : Int))
  | some a => match s with
    | none => (List.range n).filter fun (i : Nat) => decide ((a : Int) ≤ (i : Int))
    | some b => ((List.range n).filter fun (i : Nat) => decide ((a : Int) ≤ (i : Int))).filter fun (i : Nat) => decide ((i : Int) ≤ (b : Int))
def lateN (f s : Option Nat) : Bool := match f, s with
  | some a, some b => decide ((b : Int) < (a : Int))
  | _, _ => false
def dueD (f s : Option Nat) (n : Nat) : PyData := match placesN f s n with
  | [] => noD
  | p :: ps => if lateN f s = true then noD else .tuple [.int (p : Int), .int ((p :: ps).length : Int)]
def sp_law_due (K : PySem.W.Frag) : Sp := fun vs H Q _ => ∃ (B : Hp) (f s : Option Nat) (n : Nat), Ex B H ∧ vs = [optV f, optV s, .int (n : Int)] ∧ n ≤ 1000 ∧ ¬ (f = none ∧ s = none) ∧ Ret (dueD f s n) B H Q
theorem len_law_due {K : PySem.W.Frag} {vs : List V} {H : Hp} {Q : VK} {E : XK} (h : sp_law_due K vs H Q E) : vs.length = 3 := by
  obtain ⟨_, _, _, _, _, rfl, _⟩ := h; rfl
def t_law_due (K : PySem.W.Frag) (E : XK) : TS :=
  (tSeq (tAsg (tLc (iRng1 (tCons (tVar 2) tNil)) (gName 4) (tAnd (tTest (tOp rNotNone (tVar 0) (tC .non))) (tTest (tOp (rI0 fun i j => .bl (decide (j ≤ i))) (tVar 4) (tVar 0)))) (tVar 4) [4]) (gName 3))
    (tSeq (tIfS (tTest (tOp rIsNone (tVar 0) (tC .non))) (tAsg (tLc (iRng1 (tCons (tVar 2) tNil)) (gName 4) (tTest (tOp (rI0 fun i j => .bl (decide (j ≤ i))) (tVar 4) (tOp (rI0 fun i j => .int (i - j)) (tVar 2) (tVar 1)))) (tVar 4) [4]) (gName 3)) (tIfS (tTest (tOp rNotNone (tVar 1) (tC .non))) (tAsg (tLc (iList K (tVar 3)) (gName 4) (tTest (tOp (rI0 fun i j => .bl (decide (i ≤ j))) (tVar 4) (tVar 1))) (tVar 4) [4]) (gName 3)) tNext))
    (tSeq (tIfS (tOr (tNot (tTruth K (tVar 3))) (tAnd (tTest (tOp rNotNone (tVar 0) (tC .non))) (tAnd (tTest (tOp rNotNone (tVar 1) (tC .non))) (tTest (tOp (rI0 fun i j => .bl (decide (i < j))) (tVar 1) (tVar 0)))))) (tRet (tTup (tCons (tC (.str "no")) (tCons (tC (.bl true)) (tCons (tC (.bl false)) (tCons (tC (.bl true)) tNil)))))) tNext)
    (tRet (tTup (tCons (tOp (rIxL K) (tVar 3) (tC (.int 0))) (tCons (tCB (rLenSeq K) (tCons (tVar 3) tNil)) tNil)))))))
theorem pure_law_due {K : PySem.W.Frag}  {vs : List V} {H : Hp} {Q : VK} {E : XK} (h : sp_law_due K vs H Q E) : t_law_due K E { nx := fun _ H' => Q .non H', rt := Q } (start ["first", "second", "size", "places", "place"] vs) H := by
  obtain ⟨B, f, s, n, eb, rfl, hn, hfs, r⟩ := h
  have tail : ∀ (H2 B2 : Hp) (p : V), Ex H H2 → Ext B H B2 → Ex B2 H2 → Da B2 p (intsD (placesN f s n)) → (tSeq (tIfS (tOr (tNot (tTruth K (tVar 3))) (tAnd (tTest (tOp rNotNone (tVar 0) (tC .non))) (tAnd (tTest (tOp rNotNone (tVar 1) (tC .non))) (tTest (tOp (rI0 fun i j => .bl (decide (i < j))) (tVar 1) (tVar 0)))))) (tRet (tTup (tCons (tC (.str "no")) (tCons (tC (.bl true)) (tCons (tC (.bl false)) (tCons (tC (.bl true)) tNil)))))) tNext) (tRet (tTup (tCons (tOp (rIxL K) (tVar 3) (tC (.int 0))) (tCons (tCB (rLenSeq K) (tCons (tVar 3) tNil)) tNil))))) { nx := fun _ H' => Q .non H', rt := Q } [some (optV f), some (optV s), some (.int (n : Int)), some p, none] H2 := by
    intro H2 B2 p h2 x2 eb2 hp
    have late : EvB (tAnd (tTest (tOp rNotNone (tVar 0) (tC .non))) (tAnd (tTest (tOp rNotNone (tVar 1) (tC .non))) (tTest (tOp (rI0 fun i j => .bl (decide (i < j))) (tVar 1) (tVar 0))))) [some (optV f), some (optV s), some (.int (n : Int)), some p, none] B2 H2 (lateN f s) := by
      have ef : EvB (tTest (tOp rNotNone (tVar 0) (tC .non))) [some (optV f), some (optV s), some (.int (n : Int)), some p, none] B2 H2 (!isNone (optD f)) := evb_test (evd_opNotN (evd_var rfl (opt_da B2 f)) evd_cn)
      have es : EvB (tTest (tOp rNotNone (tVar 1) (tC .non))) [some (optV f), some (optV s), some (.int (n : Int)), some p, none] B2 H2 (!isNone (optD s)) := evb_test (evd_opNotN (evd_var rfl (opt_da B2 s)) evd_cn)
      cases f with
      | none => exact evb_and (b := false) ef (fun z => nomatch z)
      | some a =>
        cases s with
        | none => exact evb_and ef fun _ => evb_and (b := false) es (fun z => nomatch z)
        | some b => exact EvB.is (evb_and ef fun _ => evb_and es fun _ => (evb_test (evd_B0 (evd_varI rfl) (evd_varI rfl)))) (by show (true && (true && _)) = _; rw [Bool.true_and, Bool.true_and]; rfl)
    have tru : EvB (tNot (tTruth K (tVar 3))) [some (optV f), some (optV s), some (.int (n : Int)), some p, none] B2 H2 (!truD (intsD (placesN f s n))) := evb_not (evb_tru (evd_var rfl hp) (fun x z => nomatch z))
    unfold dueD at r
    cases hP : placesN f s n with
    | nil =>
      rw [hP] at r tru
      refine q_when (b := true) (evb_or (a := true) (b := true) tru (fun z => nomatch z)) eb2 (fun _ H3 h3 eb3 => ?_) (fun z => nomatch z)
      exact s_ret (B := B2) (evd_tup (evs_cons evd_cs (evs_cons evd_ck (evs_cons evd_ck (evs_cons evd_ck evs_nil))))) eb3 (r.grow (h2.trans h3) (Ext.trans x2 h2 (Ext.refl _ _)))
    | cons q ps =>
      rw [hP] at r tru hp
      dsimp only at r
      refine q_when (b := lateN f s) (EvB.is (evb_or (a := false) tru fun _ => late) (Bool.false_or _)) eb2 (fun hb H3 h3 eb3 => ?_) (fun hb H3 h3 eb3 => ?_)
      · rw [if_pos hb] at r
        exact s_ret (B := B2) (evd_tup (evs_cons evd_cs (evs_cons evd_ck (evs_cons evd_ck (evs_cons evd_ck evs_nil))))) eb3 (r.grow (h2.trans h3) (Ext.trans x2 h2 (Ext.refl _ _)))
      · rw [hb, if_neg (by decide)] at r
        refine s_ret (B := B2) (evd_tup (evs_cons (evd_ixL (d := .int (q : Int)) (evd_var rfl hp) evd_ci (atI_nat' (by decide) rfl)) (evs_cons (EvD.is (evd_lenL (evd_var rfl hp)) ?_) evs_nil))) eb3 (r.grow (h2.trans h3) (Ext.trans x2 h2 (Ext.refl _ _)))
        rw [List.length_map]
  have hl : ∀ c : Nat → Bool, ((List.range n).filter c).length ≤ 10000 := fun c => Nat.le_trans (List.length_filter_le _ _) (by rw [List.length_range]; omega)
  cases f with
  | none =>
    cases s with
    | none => exact absurd ⟨rfl, rfl⟩ hfs
    | some b =>
      refine q_asg (B := B) (d := intsD ((List.range n).filter fun _ => false)) (evd_fR _ (evs_cons (evd_varI rfl) evs_nil) (by omega) (fun _ => rfl) (fun _ => rfl) fun i hi B1 H1 _ _ _ => ?_) eb fun v H1 B1 h1 x1 eb1 hv => ?_
      · exact evb_and (a := false) (b := false) (evb_test (evd_opNotN (evd_var rfl (opt_da B1 none)) evd_cn)) (fun z => nomatch z)
      · refine q_if (b := true) (B := B1) (evb_test (evd_opIsN (evd_var rfl (opt_da B1 none)) evd_cn)) eb1 (fun _ H2 h2 eb2 => ?_) (fun z => nomatch z)
        refine s_asg (B := B1) (d := intsD (placesN none (some b) n)) (evd_fR _ (evs_cons (evd_varI rfl) evs_nil) (by omega) (fun _ => rfl) (fun _ => rfl) fun i hi B1 H1 _ _ _ => ?_) eb2 fun v H3 B3 h3 x3 eb3 hv => ?_
        · exact (evb_test (evd_B0 (evd_varI rfl) (evd_I0 (evd_varI rfl) (evd_varI rfl))))
        · exact tail H3 B3 v ((h1.trans h2).trans h3) (Ext.trans x1 (h1.trans h2) x3) eb3 hv
  | some a =>
    refine q_asg (B := B) (d := intsD (placesN (some a) none n)) (evd_fR _ (evs_cons (evd_varI rfl) evs_nil) (by omega) (fun _ => rfl) (fun _ => rfl) fun i hi B1 H1 _ _ _ => ?_) eb fun v H1 B1 h1 x1 eb1 hv => ?_
    · exact EvB.is (evb_and (a := true) (evb_test (evd_opNotN (evd_var rfl (opt_da B1 (some a))) evd_cn)) (fun _ => (evb_test (evd_B0 (evd_varI rfl) (evd_varI rfl))))) (Bool.true_and _)
    · refine q_if (b := false) (B := B1) (evb_test (evd_opIsN (evd_var rfl (opt_da B1 (some a))) evd_cn)) eb1 (fun z => nomatch z) (fun _ H2 h2 eb2 => ?_)
      cases s with
      | none =>
        refine s_pass (B := B1) (evb_test (evd_opNotN (evd_var rfl (opt_da B1 none)) evd_cn)) eb2 fun H3 h3 eb3 => ?_
        exact tail H3 B1 v ((h1.trans h2).trans h3) x1 eb3 hv
      | some b =>
        refine s_when (b := true) (B := B1) (evb_test (evd_opNotN (evd_var rfl (opt_da B1 (some b))) evd_cn)) eb2 (fun _ H3 h3 eb3 => ?_) (fun z => nomatch z)
        refine s_asg (B := B1) (d := intsD (placesN (some a) (some b) n)) (evd_fL _ (evd_var rfl hv) (hl _) (fun _ => rfl) (fun _ => rfl) fun i hi B1 H1 _ _ _ => ?_) eb3 fun v H4 B4 h4 x4 eb4 hv => ?_
        · exact (evb_test (evd_B0 (evd_varI rfl) (evd_varI rfl)))
        · exact tail H4 B4 v (((h1.trans h2).trans h3).trans h4) (Ext.trans x1 ((h1.trans h2).trans h3) x4) eb4 hv
/-! ### told = due -/
theorem filt_range (lo hi : Nat) : ∀ n : Nat, (List.range n).filter (fun i => decide (lo ≤ i) && decide (i < hi)) = List.range' lo (min hi n - lo)
  | 0 => by rw [Nat.min_zero, Nat.zero_sub]; rfl
  | n + 1 => by
    rw [List.range_succ, List.filter_append, filt_range lo hi n]
    by_cases c : lo ≤ n ∧ n < hi
    · rw [show min hi (n + 1) - lo = (min hi n - lo) + 1 by omega, List.range'_concat]
      congr 1
      rw [List.filter_cons_of_pos (by rw [decide_eq_true c.1, decide_eq_true c.2]; rfl)]
      show [n] = [lo + 1 * (min hi n - lo)]
      rw [show lo + 1 * (min hi n - lo) = n by omega]
    · rw [show min hi (n + 1) - lo = min hi n - lo by omega, List.filter_cons_of_neg (by
        intro z
        obtain ⟨z1, z2⟩ := Bool.and_eq_true_iff.mp z
        exact c ⟨of_decide_eq_true z1, of_decide_eq_true z2⟩)]
      exact List.append_nil _
theorem places_f (a n : Nat) : placesN (some a) none n = List.range' a (n - a) := by
  have := filt_range a n n
  rw [Nat.min_self] at this
  rw [← this]
  refine List.filter_congr fun i hi => ?_
  have := List.mem_range.mp hi
  rw [decide_eq_true (show i < n from this), Bool.and_true, decide_eq_decide]
  omega
theorem places_fs (a b n : Nat) : placesN (some a) (some b) n = List.range' a (min (b + 1) n - a) := by
  rw [← filt_range a (b + 1) n]
  show List.filter _ (List.filter _ _) = _
  rw [List.filter_filter]
  refine List.filter_congr fun i hi => ?_
  rw [Bool.and_comm]
  congr 1
  · rw [decide_eq_decide]; omega
  · rw [decide_eq_decide]; omega
theorem places_s (b n : Nat) : placesN none (some b) n = List.range' (n - b) (n - (n - b)) := by
  have := filt_range (n - b) n n
  rw [Nat.min_self] at this
  rw [← this]
  refine List.filter_congr fun i hi => ?_
  have := List.mem_range.mp hi
  rw [decide_eq_true (show i < n from this), Bool.and_true, decide_eq_decide]
  show (n : Int) - (b : Int) ≤ _ ↔ _
  omega
theorem due_of {f s : Option Nat} {n lo cnt : Nat} (h : placesN f s n = List.range' lo cnt) : dueD f s n = if cnt = 0 ∨ lateN f s = true then noD else .tuple [.int (lo : Int), .int (cnt : Int)] := by
  unfold dueD
  rw [h]
  cases cnt with
  | zero => rw [if_pos (.inl rfl)]; rfl
  | succ k =>
    rw [List.range'_succ]
    show (if lateN f s = true then noD else _) = _
    by_cases c : lateN f s = true
    · rw [if_pos c, if_pos (.inr c)]
    · rw [if_neg c, if_neg (by rintro (z | z); exact absurd z (by omega); exact c z)]
      rw [List.length_cons, List.length_range']
theorem ahead_app {A C : List Nat} (h : 45 ∉ A) : ahead (A ++ 45 :: C) = A := by
  induction A with
  | nil => rfl
  | cons c r ih =>
    have hc : (c != 45) = true := by
      rw [bne_iff_ne]; intro z; exact h (by rw [z]; exact List.mem_cons_self)
    unfold ahead at ih ⊢
    rw [List.cons_append, List.takeWhile_cons_of_pos (p := fun x => x != 45) hc, ih fun z => h (List.mem_cons_of_mem _ z)]
theorem behind_app {A C : List Nat} (h : 45 ∉ A) : behind (A ++ 45 :: C) = C := by
  induction A with
  | nil => rfl
  | cons c r ih =>
    have hc : (c != 45) = true := by
      rw [bne_iff_ne]; intro z; exact h (by rw [z]; exact List.mem_cons_self)
    unfold behind at ih ⊢
    rw [List.cons_append, List.dropWhile_cons_of_pos (p := fun x => x != 45) hc]
    exact ih fun z => h (List.mem_cons_of_mem _ z)
theorem num_no (n : Nat) : 45 ∉ TL.numL n := fun h => by
  have := TL.numL_digits n 45 h
  omega
theorem head_app {A C : List Nat} (hA : 45 ∉ A) (hC : 45 ∉ C) : headR (signsL ++ (A ++ 45 :: C)) = true := by
  unfold headR
  rw [Bool.and_eq_true_iff]
  constructor
  · exact decide_eq_true rfl
  · refine decide_eq_true ?_
    rw [List.count_append, List.count_append, List.count_cons_self, List.count_eq_zero.mpr hA, List.count_eq_zero.mpr hC]
    decide
theorem readR_app {A C : List Nat} (n : Int) (hA : 45 ∉ A) (hC : 45 ∉ C) : readR (signsL ++ (A ++ 45 :: C)) n = if A = [] then (match dig C with
    | none => none
    | some k => finR (n - min (k : Int) n) (min (k : Int) n))
  else match dig A with
    | none => none
    | some m => if C = [] then finR m (min (n - 1) (n - 1) - m + 1) else match dig C with
      | none => none
      | some l => if (l : Int) < m then none else finR m (min (l : Int) (n - 1) - m + 1) := by
  unfold readR
  rw [head_app hA hC, if_pos rfl]
  show readU (A ++ 45 :: C) n = _
  unfold readU
  rw [ahead_app hA, behind_app hA]
  all_goals rfl
theorem told_fs {a b n : Nat} (ha : a < 1000000) (hb : b < 1000000) : toldD (readR (signsL ++ (TL.numL a ++ 45 :: TL.numL b)) (n : Int)) = dueD (some a) (some b) n := by
  rw [readR_app _ (num_no a) (num_no b), if_neg (TL.numL_ne a), dig_num ha, dig_num hb]
  dsimp only
  rw [if_neg (TL.numL_ne b), due_of (places_fs a b n)]
  have hl : (lateN (some a) (some b) = true) ↔ b < a := by show decide ((b : Int) < (a : Int)) = true ↔ _; rw [decide_eq_true_iff]; omega
  by_cases c : (b : Int) < (a : Int)
  · rw [if_pos c, if_pos (.inr (hl.mpr (by omega)))]; rfl
  · rw [if_neg c]
    unfold finR
    by_cases z : min (b : Int) ((n : Int) - 1) - (a : Int) + 1 < 1
    · rw [if_pos z, if_pos (.inl (by omega))]; rfl
    · rw [if_neg z, if_neg (by rw [hl]; omega)]
      show PyData.tuple [.int _, .int _] = _
      rw [show min (b : Int) ((n : Int) - 1) - (a : Int) + 1 = ((min (b + 1) n - a : Nat) : Int) by omega]
theorem told_f {a n : Nat} (ha : a < 1000000) : toldD (readR (signsL ++ (TL.numL a ++ [45])) (n : Int)) = dueD (some a) none n := by
  rw [readR_app (C := []) _ (num_no a) (by simp), if_neg (TL.numL_ne a), dig_num ha]
  dsimp only
  rw [if_pos rfl, due_of (places_f a n)]
  have hl : ¬ (lateN (some a) none = true) := fun z => nomatch z
  unfold finR
  by_cases z : min ((n : Int) - 1) ((n : Int) - 1) - (a : Int) + 1 < 1
  · rw [if_pos z, if_pos (.inl (by omega))]; rfl
  · rw [if_neg z, if_neg (by rintro (y | y); omega; exact hl y)]
    show PyData.tuple [.int _, .int _] = _
    rw [show min ((n : Int) - 1) ((n : Int) - 1) - (a : Int) + 1 = ((n - a : Nat) : Int) by omega]
theorem told_s {b n : Nat} (hb : b < 1000000) : toldD (readR (signsL ++ ([] ++ 45 :: TL.numL b)) (n : Int)) = dueD none (some b) n := by
  rw [readR_app _ (by simp) (num_no b), if_pos rfl, dig_num hb]
  dsimp only
  rw [due_of (places_s b n)]
  have hl : ¬ (lateN none (some b) = true) := fun z => nomatch z
  unfold finR
  by_cases z : min (b : Int) (n : Int) < 1
  · rw [if_pos z, if_pos (.inl (by omega))]; rfl
  · rw [if_neg z, if_neg (by rintro (y | y); omega; exact hl y)]
    show PyData.tuple [.int _, .int _] = _
    rw [show min (b : Int) (n : Int) = ((n - (n - b) : Nat) : Int) by omega, show (n : Int) - ((n - (n - b) : Nat) : Int) = ((n - b : Nat) : Int) by omega]
/-- a text that is none, whatever the size -/
def wrongU (u : List Nat) : Bool := if ahead u = [] then dig (behind u) == none else match dig (ahead u) with
  | none => true
  | some m => if behind u = [] then false else match dig (behind u) with
    | none => true
    | some l => decide (l < m)
def wrongT (t : List Nat) : Bool := !headR t || wrongU (t.drop 6)
theorem wrong_read {t : List Nat} (h : wrongT t = true) (n : Int) : readR t n = none := by
  unfold wrongT at h
  unfold readR
  by_cases c : headR t = true
  · rw [if_pos c]
    rw [c, Bool.not_true, Bool.false_or] at h
    unfold wrongU at h
    unfold readU
    by_cases c1 : ahead (t.drop 6) = []
    · rw [if_pos c1] at h ⊢
      rw [eq_of_beq h]
    · rw [if_neg c1] at h ⊢
      cases hd : dig (ahead (t.drop 6)) with
      | none => rfl
      | some m =>
        rw [hd] at h
        dsimp only at h ⊢
        by_cases c2 : behind (t.drop 6) = []
        · rw [if_pos c2] at h; cases h
        · rw [if_neg c2] at h ⊢
          cases hd2 : dig (behind (t.drop 6)) with
          | none => rfl
          | some l =>
            rw [hd2] at h
            dsimp only at h ⊢
            have := of_decide_eq_true h
            rw [if_pos (by omega)]
  · rw [if_neg c]
/-! ### the law -/
section
variable {K : PySem.W.Frag} {σ : Sig} {B H : Hp} {te ta tb tc : TE} {d : PyData} {E : XK}
theorem cev_law_told {x : Str} {n : Int} (ha : EvD ta σ B H (.str x)) (hb : EvD tb σ B H (.int n)) (hl : x.length ≤ 1000) : EvD (tCall (sp_law_told K) [] E (tCons ta (tCons tb tNil))) σ B H (toldD (readR (tl x) n)) := evd_call (evs_cons ha (evs_cons hb evs_nil)) fun H1 B1 vs _ _ eb hd Q q => by
  obtain ⟨v, u, rfl, hv, hu⟩ := dpa2 hd
  cases hv
  cases hu
  exact ⟨B1, x, n, eb, rfl, hl, q⟩
theorem opt_v {v : V} {o : Option Nat} (h : Da B v (optD o)) : v = optV o := by
  cases o with
  | none => cases h; rfl
  | some n => cases h; rfl
theorem cev_law_due {f s : Option Nat} {n : Nat} (ha : EvD ta σ B H (optD f)) (hb : EvD tb σ B H (optD s)) (hc : EvD tc σ B H (.int (n : Int))) (hn : n ≤ 1000) (hfs : ¬ (f = none ∧ s = none)) : EvD (tCall (sp_law_due K) [] E (tCons ta (tCons tb (tCons tc tNil)))) σ B H (dueD f s n) := evd_call (evs_cons ha (evs_cons hb (evs_cons hc evs_nil))) fun H1 B1 vs _ _ eb hd Q q => by
  obtain ⟨v, u, w, rfl, hv, hu, hw⟩ := dpa3 hd
  cases hw
  exact ⟨B1, f, s, n, eb, by rw [opt_v hv, opt_v hu], hn, hfs, q⟩
theorem due_shal (f s : Option Nat) (n : Nat) : shal 4 (dueD f s n) := by
  have h0 : shal 4 noD := ⟨by show 4 ≤ 10000; decide, fun d hd => by
    simp only [List.mem_cons, List.mem_nil_iff, or_false] at hd
    rcases hd with rfl | rfl | rfl | rfl <;> trivial⟩
  unfold dueD
  split
  · exact h0
  · split
    · exact h0
    · refine ⟨by show 2 ≤ 10000; decide, fun d hd => ?_⟩
      simp only [List.mem_cons, List.mem_nil_iff, or_false] at hd
      rcases hd with rfl | rfl <;> trivial
end
def numT (n : Nat) : Str := Str.ofString (toString ((n : Nat) : Int))
theorem numT_len {n : Nat} (h : n < 1000000) : (numT n).length ≤ 6 := by
  rw [len_tl]
  unfold numT
  rw [tl_num]
  exact TL.numL_len (by decide) h
def wrongL (y : Str) : List Str := [("" : Str), "signs", "signs=", "signs=-"] ++ [("signs=" : Str) ++ y, ("signs=0" : Str) ++ y ++ ("-99" : Str), ("signs=0-0" : Str) ++ y, ("sign=0-5" : Str)] ++
  [("signs=" : Str) ++ y ++ ("-" : Str) ++ y ++ (",3-4" : Str), (" signs=0-5" : Str), ("signs=0-5 " : Str)] ++ [("signs= 0-5" : Str), "signs=0 -5", "Signs=0-5"] ++
  [("signs=a-b" : Str), ("signs=-" : Str) ++ y ++ ("-" : Str), ("signs=--" : Str) ++ y, "signs=0-1000000"] ++ [("signs=+0-5" : Str), "0-5", "signs=0:5"]
theorem wrong_all : ∀ m, m < 20 → (wrongL (numT m)).all (fun x => wrongT (tl x) && decide (x.length ≤ 1000)) = true := by decide +kernel
theorem fs_ok {x : Str} {a b n : Nat} (h : tl x = signsL ++ (TL.numL a ++ 45 :: TL.numL b)) (ha : a < 1000000) (hb : b < 1000000) : toldD (readR (tl x) (n : Int)) = dueD (some a) (some b) n := by rw [h, told_fs ha hb]
def someD (n a b : Int) : List PyData := [.int 0, .int 1, .int (max (n - 1) 0), .int n] ++ [.int (n + 1), .int a, .int b, .int 999999]
theorem some_at {n a b : Int} {i : Nat} {d : PyData} (hn : 0 ≤ n ∧ n < 121) (ha : 0 ≤ a ∧ a < 140) (hb : 0 ≤ b ∧ b < 140) (h : (someD n a b)[i]? = some d) : ∃ m : Nat, m < 1000000 ∧ d = .int (m : Int) := by
  have hm := List.mem_of_getElem? h
  unfold someD at hm
  simp only [List.mem_append, List.mem_cons, List.mem_nil_iff, or_false] at hm
  rcases hm with (rfl | rfl | rfl | rfl) | (rfl | rfl | rfl | rfl)
  · exact ⟨0, by decide, rfl⟩
  · exact ⟨1, by decide, rfl⟩
  · exact ⟨(max (n - 1) 0).toNat, by omega, by rw [Int.toNat_of_nonneg (by omega)]⟩
  · exact ⟨n.toNat, by omega, by rw [Int.toNat_of_nonneg (by omega)]⟩
  · exact ⟨(n + 1).toNat, by omega, by rw [Int.toNat_of_nonneg (by omega)]⟩
  · exact ⟨a.toNat, by omega, by rw [Int.toNat_of_nonneg (by omega)]⟩
  · exact ⟨b.toNat, by omega, by rw [Int.toNat_of_nonneg (by omega)]⟩
  · exact ⟨999999, by decide, rfl⟩
def t_thelaw (K : PySem.W.Frag) (E : XK) : TS :=
  (tSeq (tFor (iRng1 (tCons (tC (.int 3)) tNil)) (gName 1) (tSeq (tAsg (tOp (rI0 fun i j => .int (i + j)) (tCall (sp_law_cell K) [] E0 (tCons (tVar 0) (tCons (tVar 1) tNil))) (tVar 1)) (gName 2))
    (tSeq (tAsg (tCall (sp_law_mix K) [] E0 (tCons (tVar 2) (tCons (tC (.int 9811)) (tCons (tC (.int 121)) tNil)))) (gName 3))
    (tSeq (tAsg (tLst (tCons (tC (.int 0)) (tCons (tC (.int 1)) (tCons (tCB rMaxI (tCons (tOp (rI0 fun i j => .int (i - j)) (tVar 3) (tC (.int 1))) (tCons (tC (.int 0)) tNil))) (tCons (tVar 3) tNil))))) (gName 4))
    (tSeq (tAsg (tOp rCat (tVar 4) (tLst (tCons (tOp (rI0 fun i j => .int (i + j)) (tVar 3) (tC (.int 1))) (tCons (tCall (sp_law_mix K) [] E0 (tCons (tVar 2) (tCons (tC (.int 9803)) (tCons (tC (.int 140)) tNil)))) (tCons (tCall (sp_law_mix K) [] E0 (tCons (tVar 2) (tCons (tC (.int 9791)) (tCons (tC (.int 140)) tNil)))) (tCons (tC (.int 999999)) tNil)))))) (gName 4))
    (tSeq (tFor (iList K (tVar 4)) (gName 5) (tSeq (tFor (iList K (tVar 4)) (gName 6) (tSeq (tAsg (tOp rAddStr (tOp rAddStr (tOp rAddStr (tC (.str "signs=")) (tCB rStrInt (tCons (tVar 5) tNil))) (tC (.str "-"))) (tCB rStrInt (tCons (tVar 6) tNil))) (gName 7))
    (tIfS (tNot (tB (tCall (sp_law_same 5 K) [] E0 (tCons (tCall (sp_law_told K) [] E0 (tCons (tVar 7) (tCons (tVar 3) tNil))) (tCons (tCall (sp_law_due K) [] E0 (tCons (tVar 5) (tCons (tVar 6) (tCons (tVar 3) tNil)))) tNil))))) (tRet (tC (.bl false))) tNext)))
    (tSeq (tIfS (tNot (tB (tCall (sp_law_same 5 K) [] E0 (tCons (tCall (sp_law_told K) [] E0 (tCons (tOp rAddStr (tOp rAddStr (tC (.str "signs=")) (tCB rStrInt (tCons (tVar 5) tNil))) (tC (.str "-"))) (tCons (tVar 3) tNil))) (tCons (tCall (sp_law_due K) [] E0 (tCons (tVar 5) (tCons (tC .non) (tCons (tVar 3) tNil)))) tNil))))) (tRet (tC (.bl false))) tNext)
    (tIfS (tNot (tB (tCall (sp_law_same 5 K) [] E0 (tCons (tCall (sp_law_told K) [] E0 (tCons (tOp rAddStr (tC (.str "signs=-")) (tCB rStrInt (tCons (tVar 5) tNil))) (tCons (tVar 3) tNil))) (tCons (tCall (sp_law_due K) [] E0 (tCons (tC .non) (tCons (tVar 5) (tCons (tVar 3) tNil)))) tNil))))) (tRet (tC (.bl false))) tNext))))
    (tSeq (tAsg (tCB rStrInt (tCons (tCall (sp_law_mix K) [] E0 (tCons (tVar 2) (tCons (tC (.int 9787)) (tCons (tC (.int 20)) tNil)))) tNil)) (gName 8))
    (tSeq (tAsg (tLst (tCons (tC (.str "")) (tCons (tC (.str "signs")) (tCons (tC (.str "signs=")) (tCons (tC (.str "signs=-")) tNil))))) (gName 9))
    (tSeq (tAsg (tOp rCat (tVar 9) (tLst (tCons (tOp rAddStr (tC (.str "signs=")) (tVar 8)) (tCons (tOp rAddStr (tOp rAddStr (tC (.str "signs=0")) (tVar 8)) (tC (.str "-99"))) (tCons (tOp rAddStr (tC (.str "signs=0-0")) (tVar 8)) (tCons (tC (.str "sign=0-5")) tNil)))))) (gName 9))
    (tSeq (tAsg (tOp rCat (tVar 9) (tLst (tCons (tOp rAddStr (tOp rAddStr (tOp rAddStr (tOp rAddStr (tC (.str "signs=")) (tVar 8)) (tC (.str "-"))) (tVar 8)) (tC (.str ",3-4"))) (tCons (tC (.str " signs=0-5")) (tCons (tC (.str "signs=0-5 ")) tNil))))) (gName 9))
    (tSeq (tAsg (tOp rCat (tVar 9) (tLst (tCons (tC (.str "signs= 0-5")) (tCons (tC (.str "signs=0 -5")) (tCons (tC (.str "Signs=0-5")) tNil))))) (gName 9))
    (tSeq (tAsg (tOp rCat (tVar 9) (tLst (tCons (tC (.str "signs=a-b")) (tCons (tOp rAddStr (tOp rAddStr (tC (.str "signs=-")) (tVar 8)) (tC (.str "-"))) (tCons (tOp rAddStr (tC (.str "signs=--")) (tVar 8)) (tCons (tC (.str "signs=0-1000000")) tNil)))))) (gName 9))
    (tSeq (tAsg (tOp rCat (tVar 9) (tLst (tCons (tC (.str "signs=+0-5")) (tCons (tC (.str "0-5")) (tCons (tC (.str "signs=0:5")) tNil))))) (gName 9))
    (tIfS (tB (tCB (rAny K) (tCons (tLc (iList K (tVar 9)) (gName 7) tYes (tOp (rNeD K) (tCall (sp_law_told K) [] E0 (tCons (tVar 7) (tCons (tOp (rI0 fun i j => .int (i + j)) (tVar 3) (tC (.int 30))) tNil))) (tTup (tCons (tC (.str "no")) (tCons (tC (.bl true)) (tCons (tC (.bl false)) (tCons (tC (.bl true)) tNil)))))) [7]) tNil))) (tRet (tC (.bl false))) tNext))))))))))))))
    (tRet (tC (.bl true))))
theorem pure_thelaw {K : PySem.W.Frag}  {vs : List V} {H : Hp} {Q : VK} {E : XK} (h : sp_thelaw K vs H Q E) : t_thelaw K E { nx := fun _ H' => Q .non H', rt := Q } (start ["script", "k", "cell", "size", "some", "first", "second", "text", "near", "wrong"] vs) H := by
  obtain ⟨a, ns, rfl, hS0, hlen, k⟩ := h
  have l6 : ("signs=" : Str).length = 6 := by decide +kernel
  have l7 : ("signs=-" : Str).length = 7 := by decide +kernel
  have l1 : ("-" : Str).length = 1 := by decide +kernel
  have t6 := signs_tl
  have t1 := dash_tl
  refine q_for (B := H) (src_range1 (evs_cons evd_ci evs_nil)) (Ex.refl _) (fun B1 i σ1 H1 => ∃ (x1 x2 x3 x4 x5 x6 x7 x8 x9 : Option V), σ1 = [some (.ref a), x1, x2, x3, x4, x5, x6, x7, x8, x9] ∧ Ex H B1 ∧ Ex B1 H1)
    (fun H1 B1 e1 x1 eb1 => ⟨none, none, none, none, none, none, none, none, none, rfl, x1.1, eb1⟩) (fun _ _ _ _ _ ⟨_, _, _, _, _, _, _, _, _, _, _, h⟩ => h) ?_ ?_
  · rintro B1 i d v σ1 H1 H2 B2 eB hd ⟨x1, x2, x3, x4, x5, x6, x7, x8, x9, rfl, eHB, eb1⟩ e2 xx2 eb2 hv
    obtain ⟨hi, rfl⟩ := range_at hd
    cases hv
    have hS : SqL K B1 a (ns.map V.int) := ex_l eHB hS0
    have hS2 : SqL K H2 a (ns.map V.int) := ex_l (eb1.trans e2) hS
    refine q_asgI (B := B1) (evd_I0 (cev_law_cell (evf_var rfl) (evd_varI rfl)) (evd_varI rfl)) (eb1.trans e2) fun H3 e3 eb3 => ?_
    generalize hc : cellN ns (i : Int) + (i : Int) = c
    have r1 := mix_rng (c := c) (p := 9811) (m := 121) (by decide)
    have r2 := mix_rng (c := c) (p := 9803) (m := 140) (by decide)
    have r3 := mix_rng (c := c) (p := 9791) (m := 140) (by decide)
    have r4 := mix_rng (c := c) (p := 9787) (m := 20) (by decide)
    obtain ⟨n, hn⟩ : ∃ n : Nat, mix c 9811 121 = (n : Int) := ⟨_, (Int.toNat_of_nonneg r1.1).symm⟩
    obtain ⟨m, hm⟩ : ∃ m : Nat, mix c 9787 20 = (m : Int) := ⟨_, (Int.toNat_of_nonneg r4.1).symm⟩
    rw [hn] at r1
    rw [hm] at r4
    refine q_asgI (B := B1) (n := (n : Int)) (EvD.is (cev_law_mix (evd_varI rfl) evd_ci evd_ci) (by rw [hn])) eb3 fun H4 e4 eb4 => ?_
    refine q_asg (B := B1) (evd_lst (evs_cons evd_ci (evs_cons evd_ci (evs_cons (evd_max (evd_I0 (evd_varI rfl) evd_ci) evd_ci) (evs_cons (evd_varI rfl) evs_nil))))) eb4 fun v5 H5 B5 e5 xx5 eb5 hv5 => ?_
    refine q_asg (B := B5) (d := .list (someD n (mix c 9803 140) (mix c 9791 140))) (evd_catL (evd_var rfl (by assumption)) (evd_lst (evs_cons (evd_I0 (evd_varI rfl) evd_ci) (evs_cons (cev_law_mix (evd_varI rfl) evd_ci evd_ci) (evs_cons (cev_law_mix (evd_varI rfl) evd_ci evd_ci) (evs_cons evd_ci evs_nil)))))) eb5 fun v6 H6 B6 e6 xx6 eb6 hv6 => ?_
    have n1 : n ≤ 1000 := by omega
    -- the ranges
    refine q_for (B := B6) (src_list (evd_var rfl (by assumption))) eb6 (fun B7 j σ7 H7 => ∃ (x5 x6 x7 : Option V), σ7 = [some (.ref a), some (.int (i : Int)), some (.int c), some (.int (n : Int)), some v6, x5, x6, x7, x8, x9] ∧ Ex B6 B7 ∧ Ex B7 H7)
      (fun H7 B7 e7 xx7 eb7 => ⟨_, _, _, rfl, xx7.1, eb7⟩) (fun _ _ _ _ _ ⟨_, _, _, _, _, h⟩ => h) ?_ ?_
    · rintro B7 j d v σ7 H7 H8 B8 eB7 hd8 ⟨x5, x6, x7, rfl, eB67, eb7⟩ e8 xx8 eb8 hv8
      obtain ⟨f, hf, rfl⟩ := some_at r1 r2 r3 hd8
      cases hv8
      have hv6' := hv6.ex' eB67
      have lf := numT_len hf
      unfold numT at lf
      refine q_for (B := B7) (src_list (evd_var rfl (by assumption))) (eb7.trans e8) (fun B9 j σ9 H9 => ∃ (x6 x7 : Option V), σ9 = [some (.ref a), some (.int (i : Int)), some (.int c), some (.int (n : Int)), some v6, some (.int (f : Int)), x6, x7, x8, x9] ∧ Ex B7 B9 ∧ Ex B9 H9)
        (fun H7 B7 e7 xx7 eb7 => ⟨_, _, rfl, xx7.1, eb7⟩) (fun _ _ _ _ _ ⟨_, _, _, _, h⟩ => h) ?_ ?_
      · rintro B9 j9 d v σ9 H9 H10 B10 eB9 hd10 ⟨x6, x7, rfl, eB79, eb9⟩ e10 xx10 eb10 hv10
        obtain ⟨g, hg, rfl⟩ := some_at r1 r2 r3 hd10
        cases hv10
        have lg := numT_len hg
        unfold numT at lg
        refine q_asgS (B := B9) (evd_addS (evd_addS (evd_addS evd_cs (evd_strI (evd_varI rfl))) evd_cs) (evd_strI (evd_varI rfl))) (eb9.trans e10) fun H11 e11 eb11 => ?_
        have ht : tl (("signs=" : Str) ++ Str.ofString (toString (f : Int)) ++ ("-" : Str) ++ Str.ofString (toString (g : Int))) = signsL ++ (TL.numL f ++ 45 :: TL.numL g) := by
          rw [tl_app, tl_app, tl_app, tl_num, tl_num, t6, t1]; simp
        have hl : (("signs=" : Str) ++ Str.ofString (toString (f : Int)) ++ ("-" : Str) ++ Str.ofString (toString (g : Int))).length ≤ 1000 := by
          simp only [PySem.Str.length_append]; omega
        have hw : toldD (readR (tl (("signs=" : Str) ++ Str.ofString (toString (f : Int)) ++ ("-" : Str) ++ Str.ofString (toString (g : Int)))) (n : Int)) = dueD (some f) (some g) n := by rw [ht, told_fs hf hg]
        refine s_pass (B := B9) (EvB.is (evb_not (evb_B (cev_law_same (n := 4) (d := dueD (some f) (some g) n) (EvD.is (cev_law_told (evd_varS rfl) (evd_varI rfl) hl) hw) (cev_law_due (f := some f) (s := some g) (evd_varI rfl) (evd_varI rfl) (evd_varI rfl) n1 (fun z => nomatch z.1)) (due_shal _ _ _)))) rfl) eb11 fun H12 e12 eb12 => ?_
        exact ⟨_, _, rfl, eB79, eb12⟩
      · rintro B9 σ9 H9 eB9 ⟨x6, x7, rfl, eB79, eb9⟩
        have ht : tl (("signs=" : Str) ++ Str.ofString (toString (f : Int)) ++ ("-" : Str)) = signsL ++ (TL.numL f ++ [45]) := by
          rw [tl_app, tl_app, tl_num, t6, t1]; simp
        have hl : (("signs=" : Str) ++ Str.ofString (toString (f : Int)) ++ ("-" : Str)).length ≤ 1000 := by
          simp only [PySem.Str.length_append]; omega
        have hw : toldD (readR (tl (("signs=" : Str) ++ Str.ofString (toString (f : Int)) ++ ("-" : Str))) (n : Int)) = dueD (some f) none n := by rw [ht, told_f hf]
        have ht2 : tl (("signs=-" : Str) ++ Str.ofString (toString (f : Int))) = signsL ++ ([] ++ 45 :: TL.numL f) := by
          rw [tl_app, tl_num, show tl ("signs=-" : Str) = signsL ++ [45] from by decide +kernel]; simp
        have hl2 : (("signs=-" : Str) ++ Str.ofString (toString (f : Int))).length ≤ 1000 := by
          simp only [PySem.Str.length_append]; omega
        have hw2 : toldD (readR (tl (("signs=-" : Str) ++ Str.ofString (toString (f : Int)))) (n : Int)) = dueD none (some f) n := by rw [ht2, told_s hf]
        refine q_pass (B := B9) (EvB.is (evb_not (evb_B (cev_law_same (n := 4) (d := dueD (some f) none n) (EvD.is (cev_law_told (evd_addS (evd_addS evd_cs (evd_strI (evd_varI rfl))) evd_cs) (evd_varI rfl) hl) hw) (cev_law_due (f := some f) (s := none) (evd_varI rfl) evd_cn (evd_varI rfl) n1 (fun z => nomatch z.1)) (due_shal _ _ _)))) rfl) eb9 fun H10 e10 eb10 => ?_
        refine s_pass (B := B9) (EvB.is (evb_not (evb_B (cev_law_same (n := 4) (d := dueD none (some f) n) (EvD.is (cev_law_told (evd_addS evd_cs (evd_strI (evd_varI rfl))) (evd_varI rfl) hl2) hw2) (cev_law_due (f := none) (s := some f) evd_cn (evd_varI rfl) (evd_varI rfl) n1 (fun z => nomatch z.2)) (due_shal _ _ _)))) rfl) eb10 fun H11 e11 eb11 => ?_
        exact ⟨_, _, _, rfl, eB67, eB79.trans eb11⟩
    · rintro B7 σ7 H7 eB7 ⟨x5, x6, x7, rfl, eB67, eb7⟩
      refine q_asgS (B := B7) (x := numT m) (EvD.is (evd_strI (cev_law_mix (evd_varI rfl) evd_ci evd_ci)) (by rw [hm]; rfl)) eb7 fun H8 e8 eb8 => ?_
      have lm := numT_len (n := m) (by omega)
      have hwr := wrong_all m (by omega)
      generalize numT m = y at *
      have w1 : ("signs=0" : Str).length = 7 := by decide +kernel
      have w2 : ("-99" : Str).length = 3 := by decide +kernel
      have w3 : ("signs=0-0" : Str).length = 9 := by decide +kernel
      have w4 : (",3-4" : Str).length = 4 := by decide +kernel
      have w5 : ("signs=--" : Str).length = 8 := by decide +kernel
      refine q_asg (B := B7) (evd_lst (evs_cons evd_cs (evs_cons evd_cs (evs_cons evd_cs (evs_cons evd_cs evs_nil))))) eb8 fun v9 H9 B9 e9 xx9 eb9 hv9 => ?_
      refine q_asg (B := B9) (evd_catL (evd_var rfl (by assumption)) (evd_lst (evs_cons (evd_addS evd_cs (evd_varS rfl)) (evs_cons (evd_addS (evd_addS evd_cs (evd_varS rfl)) evd_cs) (evs_cons (evd_addS evd_cs (evd_varS rfl)) (evs_cons evd_cs evs_nil)))))) eb9 fun v10 H10 B10 e10 xx10 eb10 hv10 => ?_
      refine q_asg (B := B10) (evd_catL (evd_var rfl (by assumption)) (evd_lst (evs_cons (evd_addS (evd_addS (evd_addS (evd_addS evd_cs (evd_varS rfl)) evd_cs) (evd_varS rfl)) evd_cs) (evs_cons evd_cs (evs_cons evd_cs evs_nil))))) eb10 fun v11 H11 B11 e11 xx11 eb11 hv11 => ?_
      refine q_asg (B := B11) (evd_catL (evd_var rfl (by assumption)) (evd_lst (evs_cons evd_cs (evs_cons evd_cs (evs_cons evd_cs evs_nil))))) eb11 fun v12 H12 B12 e12 xx12 eb12 hv12 => ?_
      refine q_asg (B := B12) (evd_catL (evd_var rfl (by assumption)) (evd_lst (evs_cons evd_cs (evs_cons (evd_addS (evd_addS evd_cs (evd_varS rfl)) evd_cs) (evs_cons (evd_addS evd_cs (evd_varS rfl)) (evs_cons evd_cs evs_nil)))))) eb12 fun v13 H13 B13 e13 xx13 eb13 hv13 => ?_
      refine q_asg (B := B13) (d := .list ((wrongL y).map .str)) (evd_catL (evd_var rfl (by assumption)) (evd_lst (evs_cons evd_cs (evs_cons evd_cs (evs_cons evd_cs evs_nil))))) eb13 fun v14 H14 B14 e14 xx14 eb14 hv14 => ?_
      rw [List.all_eq_true] at hwr
      refine s_pass (B := B14) (EvB.is (evb_B (evd_any (bs := (wrongL y).map fun _ => false) ?_)) ?_) eb14 fun H15 e15 eb15 => ?_
      · rw [List.map_map]
        refine evd_lc1 (as := wrongL y) (fun x => .str x) (fun _ => .bool false) (src_list (evd_var rfl hv14)) (by show 21 ≤ 40000; decide) (fun _ => rfl) fun x hx u B1 H1 _ _ _ hu => ?_
        cases hu
        obtain ⟨z1, z2⟩ := Bool.and_eq_true_iff.mp (hwr x hx)
        refine EvD.is (evd_neD (d1 := noD) (d2 := noD) (EvD.is (cev_law_told (evd_varS rfl) (evd_I0 (evd_varI rfl) evd_ci) (of_decide_eq_true z2)) (by rw [wrong_read z1]; rfl)) (evd_tup (evs_cons evd_cs (evs_cons evd_ck (evs_cons evd_ck (evs_cons evd_ck evs_nil))))) (by decide +kernel) (by decide +kernel)) (by rw [show noD.eqv noD = true from by decide +kernel]; rfl)
      · generalize wrongL y = l
        induction l with
        | nil => rfl
        | cons c r ih => exact ih
      · exact ⟨_, _, _, _, _, _, _, _, _, rfl, eHB, (((((((((xx5.1.trans xx6.1).trans eB67).trans xx9.1).trans xx10.1).trans xx11.1).trans xx12.1).trans xx13.1).trans xx14.1).trans eb15)⟩
  · rintro B1 σ1 H1 eB ⟨x1, x2, x3, x4, x5, x6, x7, x8, x9, rfl, eHB, eb1⟩
    exact s_ret (B := B1) evd_ck eb1 (retTrue k)
end GK

namespace GKL
open PySem PySem.Spec PyProof.Rows L2 GK
open Evl (Ex)
def top (i : Nat) : Stmt := PySem.Challenge.pw_greatkeep_k10_ranges.main.body.getD i (.Pass ⟨0, 0, 0, 0⟩)
section
variable {P : Program} {w : World} {K : PySem.W.Frag} {mg : Str → Option Value} {base : Heap}
abbrev s_law_cell : Stmt := top 8
theorem sc_law_cell : FnScope ["script", "k"] ["script", "k"] (defScope s_law_cell) := ⟨rfl, rfl, rfl, by decide +kernel, rfl, by decide +kernel, by decide +kernel⟩
theorem ok_law_cell (bl : Blt mg) {f : Addr} {fd : FuncData} (F : FnP K "_law_cell" "_law_cell" s_law_cell f fd)  : FnOk P w K mg base (L2.CX P w) 1 f fd ["script", "k"] (sp_law_cell K) := by
  refine F.ok (k := 0) sc_law_cell (fun vs H Q E h => len_law_cell h) (fun cdv A outer s H vs Q E hr h => ⟨t_law_cell K E, PSs.nox ?_, pure_law_cell h⟩)
  have hu := hu_of hr
  exact (pss_cons (ps_if (pt_cmpR op_lt (pv 1) (pe_callB cr_lenSeq (by rfl) bl.len bt_len (pa_cons (pv 0) pa_nil)) (nomark _)) (pss_one (ps_ret (pe_ix ix_list (pv 0) (pv 1) (fun _ _ => rfl)))) pss_nil)
      (pss_one (ps_ret pe_int)))
abbrev s_law_mix : Stmt := top 9
theorem sc_law_mix : FnScope ["cell", "prime", "many", "blend"] ["cell", "prime", "many"] (defScope s_law_mix) := ⟨rfl, rfl, rfl, by decide +kernel, rfl, by decide +kernel, by decide +kernel⟩
theorem ok_law_mix (bl : Blt mg) {f : Addr} {fd : FuncData} (F : FnP K "_law_mix" "_law_mix" s_law_mix f fd)  : FnOk P w K mg base (L2.CX P w) 1 f fd ["cell", "prime", "many"] (sp_law_mix K) := by
  refine F.ok (k := 0) sc_law_mix (fun vs H Q E h => len_law_mix h) (fun cdv A outer s H vs Q E hr h => ⟨t_law_mix K E, PSs.nox ?_, pure_law_mix h⟩)
  have hu := hu_of hr
  exact (pss_cons (ps_set (i := 3) sc_law_mix.nd rfl (by first | exact Or.inl rfl | exact Or.inr rfl) (pe_op op_mod (pe_op op_mul (pv 0) pe_int) (pv 1)))
      (pss_one (ps_ret (pe_op op_mod (pe_op op_mod (pe_op op_mul (pv 3) (pe_op op_add (pv 3) pe_int)) (pv 1)) (pv 2)))))
abbrev s_number_of : Stmt := top 5
theorem sc_number_of : FnScope ["word", "sign"] ["word"] (defScope s_number_of) := ⟨rfl, rfl, rfl, by decide +kernel, rfl, by decide +kernel, by decide +kernel⟩
theorem ok_number_of (bl : Blt mg) {f : Addr} {fd : FuncData} (F : FnP K "number_of" "number_of" s_number_of f fd) (x_NoRange : Exn K mg "NoRange") : FnOk P w K mg base (L2.CX P w) 1 f fd ["word"] (sp_number_of K) := by
  refine F.ok (k := 0) sc_number_of (fun vs H Q E h => len_number_of h) (fun cdv A outer s H vs Q E hr h => ⟨t_number_of K E, ?_, pure_number_of h⟩)
  have hu := hu_of hr
  have tk : Takes _ (fun cls d _ H => E cls d H) := takes_of (X := cxOf (L2.CX P w) P w K mg base ["word", "sign"] "number_of" (defScope s_number_of) f cdv A outer s H E) rfl rfl rfl rfl
  have px := passes_call (E := E) tk (fun _ _ _ _ h => h)
  have po := passes_of (X := cxOf (L2.CX P w) P w K mg base ["word", "sign"] "number_of" (defScope s_number_of) f cdv A outer s H E) rfl
  exact (pss_cons (ps_if (PW.pt (pw_or (pt_not (pt_chain op_le op_le pe_int (pe_callB cr_lenStr (by rfl) bl.len bt_len (pa_cons (pv 0) pa_nil)) pe_int)) (pw_or (pt_not (pt_val (pe_callB (cr_all rfl) (by rfl) bl.all_ bt_all (pa_cons (pe_lc (own := [("sign", 1)]) (g := (gName 1)) (tt := tYes) rfl sc_number_of.nd (pi_str (pv 0)) (blkOk_by (by kernel_rfl)) (fun _ _ _ _ _ => (pg_name (i := 1) sc_number_of.nd rfl (by first | exact Or.inl rfl | exact Or.inr rfl))) (fun _ _ _ _ _ => pts_nil) (fun _ _ _ _ _ => (pe_cmpR opr_inSign (pv 1) pe_str rfl))) pa_nil)))) (pw_or1 (pt_cmpR op_ne (pe_callTy cr_strInt (by rfl) bl.str bt_str (pa_cons (pe_callTy cr_intStr (by rfl) bl.int bt_int (pa_cons (pv 0) pa_nil)) pa_nil)) (pv 0) (nomark _)))))) (pss_one (ps_rs x_NoRange tk)) pss_nil)
      (pss_one (ps_ret (pe_callTy cr_intStr (by rfl) bl.int bt_int (pa_cons (pv 0) pa_nil)))))
abbrev s_read_range : Stmt := top 6
theorem sc_read_range : FnScope ["text", "size", "first", "second", "many", "begin", "last"] ["text", "size"] (defScope s_read_range) := ⟨rfl, rfl, rfl, by decide +kernel, rfl, by decide +kernel, by decide +kernel⟩
theorem ok_read_range (bl : Blt mg) {f : Addr} {fd : FuncData} (F : FnP K "read_range" "read_range" s_read_range f fd) (x_NoRange : Exn K mg "NoRange") (f_number_of : Clb P w K mg base 1 "number_of" (sp_number_of K)) : FnOk P w K mg base (L2.CX P w) 2 f fd ["text", "size"] (sp_read_range K) := by
  refine F.ok (k := 1) sc_read_range (fun vs H Q E h => len_read_range h) (fun cdv A outer s H vs Q E hr h => ⟨t_read_range K E, ?_, pure_read_range h⟩)
  have hu := hu_of hr
  have tk : Takes _ (fun cls d _ H => E cls d H) := takes_of (X := cxOf (L2.CX P w) P w K mg base ["text", "size", "first", "second", "many", "begin", "last"] "read_range" (defScope s_read_range) f cdv A outer s H E) rfl rfl rfl rfl
  have px := passes_call (E := E) tk (fun _ _ _ _ h => h)
  have po := passes_of (X := cxOf (L2.CX P w) P w K mg base ["text", "size", "first", "second", "many", "begin", "last"] "read_range" (defScope s_read_range) f cdv A outer s H E) rfl
  exact (pss_cons (ps_if (PW.pt (pw_or (pt_not (pt_val (pe_m1 PySem.F.slot_str_startswith PySem.F.type_str_startswith mtr_starts (pv 0) pe_str))) (pw_or1 (pt_cmpR op_ne (pe_m1 PySem.F.slot_str_count PySem.F.type_str_count mtr_count (pv 0) pe_str) pe_int (nomark _))))) (pss_one (ps_rs x_NoRange tk)) pss_nil)
      (pss_cons (ps_asg (pe_m1 PySem.F.slot_str_split PySem.F.type_str_split mtr_split (pe_slice sl_str (pv 0) (po_some pe_int) po_none) pe_str) (pg_lst rfl (pgs_cons (pg_name (i := 2) sc_read_range.nd rfl (by first | exact Or.inl rfl | exact Or.inr rfl)) (pgs_cons (pg_name (i := 3) sc_read_range.nd rfl (by first | exact Or.inl rfl | exact Or.inr rfl)) pgs_nil))))
      (pss_cons (ps_if (pt_cmpR op_eq (pv 2) pe_str (nomark _)) (pss_cons (ps_set (i := 4) sc_read_range.nd rfl (by first | exact Or.inl rfl | exact Or.inr rfl) (pe_callB (cr_minI rfl) (by rfl) bl.min bt_min (pa_cons (pe_cl f_number_of hr (by decide) px (pa_cons (pv 3) pa_nil)) (pa_cons (pv 1) pa_nil))))
      (pss_one (ps_set (i := 5) sc_read_range.nd rfl (by first | exact Or.inl rfl | exact Or.inr rfl) (pe_op op_sub (pv 1) (pv 4))))) (pss_cons (ps_set (i := 5) sc_read_range.nd rfl (by first | exact Or.inl rfl | exact Or.inr rfl) (pe_cl f_number_of hr (by decide) px (pa_cons (pv 2) pa_nil)))
      (pss_cons (ps_set (i := 6) sc_read_range.nd rfl (by first | exact Or.inl rfl | exact Or.inr rfl) (pe_op op_sub (pv 1) pe_int))
      (pss_cons (ps_if (pt_cmpR op_ne (pv 3) pe_str (nomark _)) (pss_cons (ps_set (i := 6) sc_read_range.nd rfl (by first | exact Or.inl rfl | exact Or.inr rfl) (pe_cl f_number_of hr (by decide) px (pa_cons (pv 3) pa_nil)))
      (pss_one (ps_if (pt_cmpR op_lt (pv 6) (pv 5) (nomark _)) (pss_one (ps_rs x_NoRange tk)) pss_nil))) pss_nil)
      (pss_one (ps_set (i := 4) sc_read_range.nd rfl (by first | exact Or.inl rfl | exact Or.inr rfl) (pe_op op_add (pe_op op_sub (pe_callB (cr_minI rfl) (by rfl) bl.min bt_min (pa_cons (pv 6) (pa_cons (pe_op op_sub (pv 1) pe_int) pa_nil))) (pv 5)) pe_int)))))))
      (pss_cons (ps_if (pt_cmpR op_lt (pv 4) pe_int (nomark _)) (pss_one (ps_rs x_NoRange tk)) pss_nil)
      (pss_one (ps_ret (pe_tup (pa_cons (pv 5) (pa_cons (pv 4) pa_nil)))))))))
abbrev s_law_told : Stmt := top 11
theorem sc_law_told : FnScope ["text", "size", "told", "e"] ["text", "size"] (defScope s_law_told) := ⟨rfl, rfl, rfl, by decide +kernel, rfl, by decide +kernel, by decide +kernel⟩
theorem ok_law_told (bl : Blt mg) {f : Addr} {fd : FuncData} (F : FnP K "_law_told" "_law_told" s_law_told f fd) (g_KeepError : mg "KeepError" = some (.ref (He.ga K "KeepError"))) (xs : Exs ["BadPart", "NoRange"] K) (f_read_range : Clb P w K mg base 2 "read_range" (sp_read_range K)) (g_NoRange : mg "NoRange" = some (.ref (He.ga K "NoRange"))) (g_BadPart : mg "BadPart" = some (.ref (He.ga K "BadPart"))) : FnOk P w K mg base (L2.CX P w) 3 f fd ["text", "size"] (sp_law_told K) := by
  refine F.ok (k := 2) sc_law_told (fun vs H Q E h => len_law_told h) (fun cdv A outer s H vs Q E hr h => ⟨t_law_told K E, PSs.nox ?_, pure_law_told xs h⟩)
  have hu := hu_of hr
  exact (pss_cons (ps_set (i := 2) sc_law_told.nd rfl (by first | exact Or.inl rfl | exact Or.inr rfl) pe_non)
      (pss_cons (ps_try_as (i := 3) (tb := (fun W => tAsg (tCallS (sp_read_range K) (WE W) (tCons (tVar 0) (tCons (tVar 1) tNil))) (gName 2))) (ts := (fun a cls d => (tAsg (tTup (tCons (tC (.str "no")) (tCons (tCB (rIsX K cls d a) (tCons (tVar 3) (tCons (tC (.ref (He.ga K "NoRange"))) tNil))) (tCons (tCB (rIsX K cls d a) (tCons (tVar 3) (tCons (tC (.ref (He.ga K "BadPart"))) tNil))) (tCons (tCB (rIsX K cls d a) (tCons (tVar 3) (tCons (tC (.ty "ValueError")) tNil))) tNil))))) (gName 2)))) (Wout := fun _ _ _ _ => False) rfl rfl sc_law_told.nd rfl rfl ⟨rfl, by decide, Or.inl g_KeepError⟩ takes0 (fun W pn xe tk _ => (pss_one (ps_set (i := 2) sc_law_told.nd rfl (by first | exact Or.inl rfl | exact Or.inr rfl) (by exact (pe_clS f_read_range hr (by decide) (fun σ => passAt tk σ) (by exact (pa_cons (pv 0) (pa_cons (pv 1) pa_nil)))))))) (fun a oe cls d pn hz hf => (pss_one (ps_set (i := 2) sc_law_told.nd rfl (by first | exact Or.inl rfl | exact Or.inr rfl) (pe_tup (pa_cons pe_str (pa_cons (pe_callB (call_isX hz hf) (by rfl) bl.isinstance bt_isinstance (pa_cons (pv 3) (pa_cons (pe_gl ⟨_, g_NoRange, rfl⟩) pa_nil))) (pa_cons (pe_callB (call_isX hz hf) (by rfl) bl.isinstance bt_isinstance (pa_cons (pv 3) (pa_cons (pe_gl ⟨_, g_BadPart, rfl⟩) pa_nil))) (pa_cons (pe_callB (call_isX hz hf) (by rfl) bl.isinstance bt_isinstance (pa_cons (pv 3) (pa_cons (pe_bltn (v := .ty "ValueError") (by rfl) bl.ValueError bt_ValueError rfl) pa_nil))) pa_nil)))))))))
      (pss_one (ps_ret (pv 2)))))
abbrev s_law_due : Stmt := top 12
theorem sc_law_due : FnScope ["first", "second", "size", "places", "place"] ["first", "second", "size"] (defScope s_law_due) := ⟨rfl, rfl, rfl, by decide +kernel, rfl, by decide +kernel, by decide +kernel⟩
theorem ok_law_due (bl : Blt mg) {f : Addr} {fd : FuncData} (F : FnP K "_law_due" "_law_due" s_law_due f fd)  : FnOk P w K mg base (L2.CX P w) 1 f fd ["first", "second", "size"] (sp_law_due K) := by
  refine F.ok (k := 0) sc_law_due (fun vs H Q E h => len_law_due h) (fun cdv A outer s H vs Q E hr h => ⟨t_law_due K E, PSs.nox ?_, pure_law_due h⟩)
  have hu := hu_of hr
  exact (pss_cons (ps_setLc (i := 3) (own := [("place", 4)]) (g := (gName 4)) (tt := (tAnd (tTest (tOp rNotNone (tVar 0) (tC .non))) (tTest (tOp (rI0 fun i j => .bl (decide (j ≤ i))) (tVar 4) (tVar 0))))) rfl sc_law_due.nd rfl rfl (sw_true rfl rfl rfl (by decide +kernel)) (pi_range1 (by rfl) bl.range (pa_cons (pv 2) pa_nil)) (blkOk_by (by kernel_rfl)) (fun _ _ _ _ _ => (pg_name (i := 4) sc_law_due.nd rfl (by first | exact Or.inl rfl | exact Or.inr rfl))) (fun _ _ _ _ _ => (pts_one (PW.pt (pw_and (pt_cmpR op_notN (pv 0) pe_non (nomark _)) (pw_and1 (pt_cmpR op_ge (pv 4) (pv 0) (nomark _))))))) (fun _ _ _ _ _ => (pv 4)))
      (pss_cons (ps_if (pt_cmpR op_isN (pv 0) pe_non (nomark _)) (pss_one (ps_setLc (i := 3) (own := [("place", 4)]) (g := (gName 4)) (tt := (tTest (tOp (rI0 fun i j => .bl (decide (j ≤ i))) (tVar 4) (tOp (rI0 fun i j => .int (i - j)) (tVar 2) (tVar 1))))) rfl sc_law_due.nd rfl rfl (sw_true rfl rfl rfl (by decide +kernel)) (pi_range1 (by rfl) bl.range (pa_cons (pv 2) pa_nil)) (blkOk_by (by kernel_rfl)) (fun _ _ _ _ _ => (pg_name (i := 4) sc_law_due.nd rfl (by first | exact Or.inl rfl | exact Or.inr rfl))) (fun _ _ _ _ _ => (pts_one (pt_cmpR op_ge (pv 4) (pe_op op_sub (pv 2) (pv 1)) (nomark _)))) (fun _ _ _ _ _ => (pv 4)))) (pss_one (ps_if (pt_cmpR op_notN (pv 1) pe_non (nomark _)) (pss_one (ps_setLc (i := 3) (own := [("place", 4)]) (g := (gName 4)) (tt := (tTest (tOp (rI0 fun i j => .bl (decide (i ≤ j))) (tVar 4) (tVar 1)))) rfl sc_law_due.nd rfl rfl (sw_true rfl rfl rfl (by decide +kernel)) (pi_list (pv 3)) (blkOk_by (by kernel_rfl)) (fun _ _ _ _ _ => (pg_name (i := 4) sc_law_due.nd rfl (by first | exact Or.inl rfl | exact Or.inr rfl))) (fun _ _ _ _ _ => (pts_one (pt_cmpR op_le (pv 4) (pv 1) (nomark _)))) (fun _ _ _ _ _ => (pv 4)))) pss_nil)))
      (pss_cons (ps_if (PW.pt (pw_or (pt_not (pt_truth (pv 3) (by intro _; rfl))) (pw_or1 (PW.pt (pw_and (pt_cmpR op_notN (pv 0) pe_non (nomark _)) (pw_and (pt_cmpR op_notN (pv 1) pe_non (nomark _)) (pw_and1 (pt_cmpR op_lt (pv 1) (pv 0) (nomark _))))))))) (pss_one (ps_ret (pe_tup (pa_cons pe_str (pa_cons pe_bl (pa_cons pe_bl (pa_cons pe_bl pa_nil))))))) pss_nil)
      (pss_one (ps_ret (pe_tup (pa_cons (pe_ix ix_list (pv 3) pe_int (fun _ _ => rfl)) (pa_cons (pe_callB cr_lenSeq (by rfl) bl.len bt_len (pa_cons (pv 3) pa_nil)) pa_nil))))))))
abbrev s_law_same : Stmt := top 10
theorem sc_law_same : FnScope ["found", "due", "one", "other"] ["found", "due"] (defScope s_law_same) := ⟨rfl, rfl, rfl, by decide +kernel, rfl, by decide +kernel, by decide +kernel⟩
theorem ok_law_same (bl : Blt mg) {f : Addr} {fd : FuncData} (F : FnP K "_law_same" "_law_same" s_law_same f fd) (gm : mg "_law_same" = some (.ref f)) (bb : Binds K fd ["found", "due"] [])  : ∀ n, FnOk P w K mg base (L2.CX P w) n f fd ["found", "due"] (sp_law_same n K)
  | 0 => ⟨fun _ _ _ _ h => h.elim, fun _ _ _ _ _ _ _ _ _ _ _ _ _ h => h.elim⟩
  | n + 1 => by
    have ih := ok_law_same bl F gm bb n
    have f_law_same : Clb P w K mg base n "_law_same" (sp_law_same n K) := ⟨_, _, _, ih, gm, F.kp, bb⟩
    refine F.ok sc_law_same (fun vs H Q E h => len_law_same h) (fun cdv A outer s H vs Q E hr h => ⟨t_law_same n K E, PSs.nox ?_, pure_law_same h⟩)
    have hu := hu_of hr
    exact (pss_cons (ps_if (pt_val (pe_callB call_isi (by rfl) bl.isinstance bt_isinstance (pa_cons (pv 1) (pa_cons (pe_bltn (v := .ty "tuple") (by rfl) bl.tuple bt_tuple rfl) pa_nil)))) (pss_cons (ps_if (PW.pt (pw_or (pt_not (pt_val (pe_callB call_isi (by rfl) bl.isinstance bt_isinstance (pa_cons (pv 0) (pa_cons (pe_bltn (v := .ty "tuple") (by rfl) bl.tuple bt_tuple rfl) pa_nil))))) (pw_or1 (pt_cmpR op_ne (pe_callB cr_lenSeq (by rfl) bl.len bt_len (pa_cons (pv 0) pa_nil)) (pe_callB cr_lenSeq (by rfl) bl.len bt_len (pa_cons (pv 1) pa_nil)) (nomark _))))) (pss_one (ps_ret pe_bl)) pss_nil)
      (pss_one (ps_ret (pe_callB (cr_all rfl) (by rfl) bl.all_ bt_all (pa_cons (pe_lc (own := [("one", 2), ("other", 3)]) (g := (gTup K 2 (gCons (gName 2) (gCons (gName 3) gNil)))) (tt := tYes) rfl sc_law_same.nd (RZ.pi_zipA (by rfl) bl.zip (pa_cons (pv 0) (pa_cons (pv 1) pa_nil))) (blkOk_by (by kernel_rfl)) (fun _ _ _ _ _ => (pg_tup rfl (pgs_cons (pg_name (i := 2) sc_law_same.nd rfl (by first | exact Or.inl rfl | exact Or.inr rfl)) (pgs_cons (pg_name (i := 3) sc_law_same.nd rfl (by first | exact Or.inl rfl | exact Or.inr rfl)) pgs_nil)))) (fun _ _ _ _ _ => pts_nil) (fun _ _ _ _ _ => (pe_cl f_law_same hr (Nat.le_refl _) passL (pa_cons (pv 2) (pa_cons (pv 3) pa_nil))))) pa_nil))))) pss_nil)
      (pss_cons (ps_if (pt_cmpR op_isN (pv 1) pe_non (nomark _)) (pss_one (ps_ret (pe_cmpR op_isN (pv 0) pe_non (nomark _)))) pss_nil)
      (pss_cons (ps_if (PW.pt (pw_or (pt_val (pe_callB call_isi (by rfl) bl.isinstance bt_isinstance (pa_cons (pv 1) (pa_cons (pe_bltn (v := .ty "bool") (by rfl) bl.bool bt_bool rfl) pa_nil)))) (pw_or1 (pt_val (pe_callB call_isi (by rfl) bl.isinstance bt_isinstance (pa_cons (pv 0) (pa_cons (pe_bltn (v := .ty "bool") (by rfl) bl.bool bt_bool rfl) pa_nil))))))) (pss_one (ps_ret (pe_and (pe_callB call_isi (by rfl) bl.isinstance bt_isinstance (pa_cons (pv 1) (pa_cons (pe_bltn (v := .ty "bool") (by rfl) bl.bool bt_bool rfl) pa_nil))) (pe_and (pe_callB call_isi (by rfl) bl.isinstance bt_isinstance (pa_cons (pv 0) (pa_cons (pe_bltn (v := .ty "bool") (by rfl) bl.bool bt_bool rfl) pa_nil))) (pe_one (pe_cmpR op_eq (pv 0) (pv 1) (nomark _))))))) pss_nil)
      (pss_one (ps_ret (pe_and (pe_callB call_isiT (by rfl) bl.isinstance bt_isinstance (pa_cons (pv 0) (pa_cons (pe_tup (pa_cons (pe_bltn (v := .ty "int") (by rfl) bl.int bt_int rfl) (pa_cons (pe_bltn (v := .ty "str") (by rfl) bl.str bt_str rfl) pa_nil))) pa_nil))) (pe_one (pe_cmpR op_eq (pv 0) (pv 1) (nomark _)))))))))
abbrev s_thelaw : Stmt := top 13
theorem sc_thelaw : FnScope ["script", "k", "cell", "size", "some", "first", "second", "text", "near", "wrong"] ["script"] (defScope s_thelaw) := ⟨rfl, rfl, rfl, by decide +kernel, rfl, by decide +kernel, by decide +kernel⟩
theorem ok_thelaw (bl : Blt mg) {f : Addr} {fd : FuncData} (F : FnP K "law" "law" s_thelaw f fd) (f_law_cell : Clb P w K mg base 1 "_law_cell" (sp_law_cell K)) (f_law_mix : Clb P w K mg base 1 "_law_mix" (sp_law_mix K)) (f_law_told : Clb P w K mg base 3 "_law_told" (sp_law_told K)) (f_law_due : Clb P w K mg base 1 "_law_due" (sp_law_due K)) (f_law_same : Clb P w K mg base 5 "_law_same" (sp_law_same 5 K)) : FnOk P w K mg base (L2.CX P w) 6 f fd ["script"] (sp_thelaw K) := by
  refine F.ok (k := 5) sc_thelaw (fun vs H Q E h => len_thelaw h) (fun cdv A outer s H vs Q E hr h => ⟨t_thelaw K E, PSs.nox ?_, pure_thelaw h⟩)
  have hu := hu_of hr
  exact (pss_cons (ps_for PassesOwn.never rfl (pi_range1 (by rfl) bl.range (pa_cons pe_int pa_nil)) (pg_name (i := 1) sc_thelaw.nd rfl (by first | exact Or.inl rfl | exact Or.inr rfl)) (pss_cons (ps_set (i := 2) sc_thelaw.nd rfl (by first | exact Or.inl rfl | exact Or.inr rfl) (pe_op op_add (pe_cl f_law_cell hr (by decide) passL (pa_cons (pv 0) (pa_cons (pv 1) pa_nil))) (pv 1)))
      (pss_cons (ps_set (i := 3) sc_thelaw.nd rfl (by first | exact Or.inl rfl | exact Or.inr rfl) (pe_cl f_law_mix hr (by decide) passL (pa_cons (pv 2) (pa_cons pe_int (pa_cons pe_int pa_nil)))))
      (pss_cons (ps_set (i := 4) sc_thelaw.nd rfl (by first | exact Or.inl rfl | exact Or.inr rfl) (pe_lst (pa_cons pe_int (pa_cons pe_int (pa_cons (pe_callB (cr_maxI rfl) (by rfl) bl.max bt_max (pa_cons (pe_op op_sub (pv 3) pe_int) (pa_cons pe_int pa_nil))) (pa_cons (pv 3) pa_nil))))))
      (pss_cons (ps_set (i := 4) sc_thelaw.nd rfl (by first | exact Or.inl rfl | exact Or.inr rfl) (pe_op op_cat (pv 4) (pe_lst (pa_cons (pe_op op_add (pv 3) pe_int) (pa_cons (pe_cl f_law_mix hr (by decide) passL (pa_cons (pv 2) (pa_cons pe_int (pa_cons pe_int pa_nil)))) (pa_cons (pe_cl f_law_mix hr (by decide) passL (pa_cons (pv 2) (pa_cons pe_int (pa_cons pe_int pa_nil)))) (pa_cons pe_int pa_nil)))))))
      (pss_cons (ps_for PassesOwn.never rfl (pi_list (pv 4)) (pg_name (i := 5) sc_thelaw.nd rfl (by first | exact Or.inl rfl | exact Or.inr rfl)) (pss_cons (ps_for PassesOwn.never rfl (pi_list (pv 4)) (pg_name (i := 6) sc_thelaw.nd rfl (by first | exact Or.inl rfl | exact Or.inr rfl)) (pss_cons (ps_set (i := 7) sc_thelaw.nd rfl (by first | exact Or.inl rfl | exact Or.inr rfl) (pe_op op_addStr (pe_op op_addStr (pe_op op_addStr pe_str (pe_callTy cr_strInt (by rfl) bl.str bt_str (pa_cons (pv 5) pa_nil))) pe_str) (pe_callTy cr_strInt (by rfl) bl.str bt_str (pa_cons (pv 6) pa_nil))))
      (pss_one (ps_if (pt_not (pt_val (pe_cl f_law_same hr (by decide) passL (pa_cons (pe_cl f_law_told hr (by decide) passL (pa_cons (pv 7) (pa_cons (pv 3) pa_nil))) (pa_cons (pe_cl f_law_due hr (by decide) passL (pa_cons (pv 5) (pa_cons (pv 6) (pa_cons (pv 3) pa_nil)))) pa_nil))))) (pss_one (ps_ret pe_bl)) pss_nil))))
      (pss_cons (ps_if (pt_not (pt_val (pe_cl f_law_same hr (by decide) passL (pa_cons (pe_cl f_law_told hr (by decide) passL (pa_cons (pe_op op_addStr (pe_op op_addStr pe_str (pe_callTy cr_strInt (by rfl) bl.str bt_str (pa_cons (pv 5) pa_nil))) pe_str) (pa_cons (pv 3) pa_nil))) (pa_cons (pe_cl f_law_due hr (by decide) passL (pa_cons (pv 5) (pa_cons pe_non (pa_cons (pv 3) pa_nil)))) pa_nil))))) (pss_one (ps_ret pe_bl)) pss_nil)
      (pss_one (ps_if (pt_not (pt_val (pe_cl f_law_same hr (by decide) passL (pa_cons (pe_cl f_law_told hr (by decide) passL (pa_cons (pe_op op_addStr pe_str (pe_callTy cr_strInt (by rfl) bl.str bt_str (pa_cons (pv 5) pa_nil))) (pa_cons (pv 3) pa_nil))) (pa_cons (pe_cl f_law_due hr (by decide) passL (pa_cons pe_non (pa_cons (pv 5) (pa_cons (pv 3) pa_nil)))) pa_nil))))) (pss_one (ps_ret pe_bl)) pss_nil)))))
      (pss_cons (ps_set (i := 8) sc_thelaw.nd rfl (by first | exact Or.inl rfl | exact Or.inr rfl) (pe_callTy cr_strInt (by rfl) bl.str bt_str (pa_cons (pe_cl f_law_mix hr (by decide) passL (pa_cons (pv 2) (pa_cons pe_int (pa_cons pe_int pa_nil)))) pa_nil)))
      (pss_cons (ps_set (i := 9) sc_thelaw.nd rfl (by first | exact Or.inl rfl | exact Or.inr rfl) (pe_lst (pa_cons pe_str (pa_cons pe_str (pa_cons pe_str (pa_cons pe_str pa_nil))))))
      (pss_cons (ps_set (i := 9) sc_thelaw.nd rfl (by first | exact Or.inl rfl | exact Or.inr rfl) (pe_op op_cat (pv 9) (pe_lst (pa_cons (pe_op op_addStr pe_str (pv 8)) (pa_cons (pe_op op_addStr (pe_op op_addStr pe_str (pv 8)) pe_str) (pa_cons (pe_op op_addStr pe_str (pv 8)) (pa_cons pe_str pa_nil)))))))
      (pss_cons (ps_set (i := 9) sc_thelaw.nd rfl (by first | exact Or.inl rfl | exact Or.inr rfl) (pe_op op_cat (pv 9) (pe_lst (pa_cons (pe_op op_addStr (pe_op op_addStr (pe_op op_addStr (pe_op op_addStr pe_str (pv 8)) pe_str) (pv 8)) pe_str) (pa_cons pe_str (pa_cons pe_str pa_nil))))))
      (pss_cons (ps_set (i := 9) sc_thelaw.nd rfl (by first | exact Or.inl rfl | exact Or.inr rfl) (pe_op op_cat (pv 9) (pe_lst (pa_cons pe_str (pa_cons pe_str (pa_cons pe_str pa_nil))))))
      (pss_cons (ps_set (i := 9) sc_thelaw.nd rfl (by first | exact Or.inl rfl | exact Or.inr rfl) (pe_op op_cat (pv 9) (pe_lst (pa_cons pe_str (pa_cons (pe_op op_addStr (pe_op op_addStr pe_str (pv 8)) pe_str) (pa_cons (pe_op op_addStr pe_str (pv 8)) (pa_cons pe_str pa_nil)))))))
      (pss_cons (ps_set (i := 9) sc_thelaw.nd rfl (by first | exact Or.inl rfl | exact Or.inr rfl) (pe_op op_cat (pv 9) (pe_lst (pa_cons pe_str (pa_cons pe_str (pa_cons pe_str pa_nil))))))
      (pss_one (ps_if (pt_val (pe_callB (cr_any rfl) (by rfl) bl.any_ bt_any (pa_cons (pe_lc (own := [("text", 7)]) (g := (gName 7)) (tt := tYes) rfl sc_thelaw.nd (pi_list (pv 9)) (blkOk_by (by kernel_rfl)) (fun _ _ _ _ _ => (pg_name (i := 7) sc_thelaw.nd rfl (by first | exact Or.inl rfl | exact Or.inr rfl))) (fun _ _ _ _ _ => pts_nil) (fun _ _ _ _ _ => (pe_cmpR (op_neD hr.units) (pe_cl f_law_told hr (by decide) passL (pa_cons (pv 7) (pa_cons (pe_op op_add (pv 3) pe_int) pa_nil))) (pe_tup (pa_cons pe_str (pa_cons pe_bl (pa_cons pe_bl (pa_cons pe_bl pa_nil))))) (nomark _)))) pa_nil))) (pss_one (ps_ret pe_bl)) pss_nil)))))))))))))))
      (pss_one (ps_ret pe_bl)))
end
def d_law_cell : He.DefD := ⟨("_law_cell", none), "_law_cell", "_law_cell", defArgs s_law_cell, defBody s_law_cell, defScope s_law_cell, [], []⟩
def d_law_mix : He.DefD := ⟨("_law_mix", none), "_law_mix", "_law_mix", defArgs s_law_mix, defBody s_law_mix, defScope s_law_mix, [], []⟩
def d_number_of : He.DefD := ⟨("number_of", none), "number_of", "number_of", defArgs s_number_of, defBody s_number_of, defScope s_number_of, [], []⟩
def d_read_range : He.DefD := ⟨("read_range", none), "read_range", "read_range", defArgs s_read_range, defBody s_read_range, defScope s_read_range, [], []⟩
def d_law_told : He.DefD := ⟨("_law_told", none), "_law_told", "_law_told", defArgs s_law_told, defBody s_law_told, defScope s_law_told, [], []⟩
def d_law_due : He.DefD := ⟨("_law_due", none), "_law_due", "_law_due", defArgs s_law_due, defBody s_law_due, defScope s_law_due, [], []⟩
def d_law_same : He.DefD := ⟨("_law_same", none), "_law_same", "_law_same", defArgs s_law_same, defBody s_law_same, defScope s_law_same, [], []⟩
def d_thelaw : He.DefD := ⟨("law", none), "law", "law", defArgs s_thelaw, defBody s_thelaw, defScope s_thelaw, [], []⟩
def fa0 : List He.Fa := [.glo "_law_cell", .glo "_law_mix", .glo "number_of", .glo "read_range", .glo "_law_told", .glo "_law_due", .glo "_law_same", .glo "law", .glo "NoRange", .glo "KeepError", .glo "BadPart", .exc "NoRange", .free "ValueError", .free "all", .free "any", .free "bool", .free "dict", .free "int", .free "isinstance", .free "len", .free "list", .free "max", .free "min", .free "ord", .free "range", .free "reversed", .free "set", .free "sorted", .free "str", .free "sum"]
def fa1 : List He.Fa := [.free "tuple", .free "zip"]
def fa : List He.Fa := fa0 ++ fa1
def fn0 : List He.DefD := [d_law_cell, d_law_mix, d_number_of, d_read_range, d_law_told, d_law_due, d_law_same, d_thelaw]
def fn : List He.DefD := fn0
def loose0 : List PySem.Str := ["KeepError", "BadPart", "NoRange", "number_of", "read_range", "_law_cell", "_law_mix", "_law_same", "_law_told", "_law_due"]
def loose : List PySem.Str := loose0
def adr0 : List Addr := [3, 24, 37, 49, 23, 36, 48, 56, 63, 70, 77, 82, 89, 94, 99, 55, 62, 69, 76, 81, 88, 93, 98]
def adr : List Addr := adr0
abbrev R : PySem.W.OpenRow := PySem.W.OpenLaw.row PySem.Challenge.rw_greatkeep_k10_ranges
def exf : PySem.W.Frag → Bool := excsB ["BadPart", "NoRange"]
abbrev hk : PySem.W.Hook := hookA adr fa fn exf
def ob (s : PySem.W.SharedT) : AlB := (He.obsD fa fn (He.frG (HandSHeadRun.getT s) adr), exf (He.frG (HandSHeadRun.getT s) adr))
theorem ob_eq (s : PySem.W.SharedT) : ob s = hk.obs s.abs := hookA_eq
theorem run (w : World) : HandSHeadRun.RunEq R (PySem.W.view R.prog [13]) hk ob 1000 loose w := by
  intro os
  kernel_rfl
theorem facts {P : Program} {w : World} {K : PySem.W.Frag} {h : Heap} {mg : Str → Option Value} {f : Addr} (X : K.In h) (G : h.Ns mainGlobals mg) (hfa : mg ("law" : Str) = some (.ref f)) (c0 : SaysB fa fn exf K) :
    ∃ fd : FuncData, (∀ (s : Shared) (v : Value), BindsTo s fd ⟨[v], []⟩ [("script", v)]) ∧ ∀ base : Heap, K.In base → base.Ns mainGlobals mg → FnOk P w K mg base (L2.CX P w) 6 f fd ["script"] (sp_thelaw K) := by
  obtain ⟨c, cx⟩ := c0
  have xs : Exs ["BadPart", "NoRange"] K := excsB_ok cx
  obtain ⟨fd_law_cell, F_law_cell⟩ := c.def_ 0 (d := d_law_cell) rfl
  obtain ⟨fd_law_mix, F_law_mix⟩ := c.def_ 1 (d := d_law_mix) rfl
  obtain ⟨fd_number_of, F_number_of⟩ := c.def_ 2 (d := d_number_of) rfl
  obtain ⟨fd_read_range, F_read_range⟩ := c.def_ 3 (d := d_read_range) rfl
  obtain ⟨fd_law_told, F_law_told⟩ := c.def_ 4 (d := d_law_told) rfl
  obtain ⟨fd_law_due, F_law_due⟩ := c.def_ 5 (d := d_law_due) rfl
  obtain ⟨fd_law_same, F_law_same⟩ := c.def_ 6 (d := d_law_same) rfl
  obtain ⟨fd_thelaw, F_thelaw⟩ := c.def_ 7 (d := d_thelaw) rfl
  have bl : Blt mg := ⟨He.free_ok X G (c.fact 19 rfl), He.free_ok X G (c.fact 24 rfl), He.free_ok X G (c.fact 29 rfl), He.free_ok X G (c.fact 13 rfl), He.free_ok X G (c.fact 14 rfl), He.free_ok X G (c.fact 30 rfl), He.free_ok X G (c.fact 20 rfl), He.free_ok X G (c.fact 16 rfl), He.free_ok X G (c.fact 26 rfl), He.free_ok X G (c.fact 18 rfl), He.free_ok X G (c.fact 23 rfl), He.free_ok X G (c.fact 28 rfl), He.free_ok X G (c.fact 17 rfl), He.free_ok X G (c.fact 15 rfl), He.free_ok X G (c.fact 22 rfl), He.free_ok X G (c.fact 21 rfl), He.free_ok X G (c.fact 27 rfl), He.free_ok X G (c.fact 25 rfl), He.free_ok X G (c.fact 31 rfl), He.free_ok X G (c.fact 12 rfl)⟩
  have x_NoRange : Exn K mg "NoRange" := by
    obtain ⟨a1, a2, a3, a4⟩ := He.exc_ok (c.fact 11 rfl)
    exact ⟨a1, He.glo_ok X G (c.fact 8 rfl), a2, a3, a4⟩
  have g_KeepError := He.glo_ok X G (c.fact 9 rfl)
  have g_NoRange := He.glo_ok X G (c.fact 8 rfl)
  have g_BadPart := He.glo_ok X G (c.fact 10 rfl)
  have e := hfa.symm.trans (He.glo_ok X G (c.fact 7 rfl))
  cases e
  have b := FunD.bindsA (ps := ["script"]) F_thelaw fun _ _ _ _ _ _ us hl => match us, hl with | [_], _ => rfl
  refine ⟨fd_thelaw, fun s v => b s [v] rfl, fun base _ _ => ?_⟩
  have b_law_cell : Binds K fd_law_cell ["script", "k"] [] := F_law_cell.bindsN fun _ _ _ _ _ _ us hl => match us, hl with | [_, _], _ => rfl
  have f_law_cell : Clb P w K mg base 1 "_law_cell" (sp_law_cell K) := ⟨_, _, _, ok_law_cell bl F_law_cell , He.glo_ok X G (c.fact 0 rfl), F_law_cell.kp, b_law_cell⟩
  have b_law_mix : Binds K fd_law_mix ["cell", "prime", "many"] [] := F_law_mix.bindsN fun _ _ _ _ _ _ us hl => match us, hl with | [_, _, _], _ => rfl
  have f_law_mix : Clb P w K mg base 1 "_law_mix" (sp_law_mix K) := ⟨_, _, _, ok_law_mix bl F_law_mix , He.glo_ok X G (c.fact 1 rfl), F_law_mix.kp, b_law_mix⟩
  have b_number_of : Binds K fd_number_of ["word"] [] := F_number_of.bindsN fun _ _ _ _ _ _ us hl => match us, hl with | [_], _ => rfl
  have f_number_of : Clb P w K mg base 1 "number_of" (sp_number_of K) := ⟨_, _, _, ok_number_of bl F_number_of x_NoRange, He.glo_ok X G (c.fact 2 rfl), F_number_of.kp, b_number_of⟩
  have b_read_range : Binds K fd_read_range ["text", "size"] [] := F_read_range.bindsN fun _ _ _ _ _ _ us hl => match us, hl with | [_, _], _ => rfl
  have f_read_range : Clb P w K mg base 2 "read_range" (sp_read_range K) := ⟨_, _, _, ok_read_range bl F_read_range x_NoRange f_number_of, He.glo_ok X G (c.fact 3 rfl), F_read_range.kp, b_read_range⟩
  have b_law_told : Binds K fd_law_told ["text", "size"] [] := F_law_told.bindsN fun _ _ _ _ _ _ us hl => match us, hl with | [_, _], _ => rfl
  have f_law_told : Clb P w K mg base 3 "_law_told" (sp_law_told K) := ⟨_, _, _, ok_law_told bl F_law_told g_KeepError xs f_read_range g_NoRange g_BadPart, He.glo_ok X G (c.fact 4 rfl), F_law_told.kp, b_law_told⟩
  have b_law_due : Binds K fd_law_due ["first", "second", "size"] [] := F_law_due.bindsN fun _ _ _ _ _ _ us hl => match us, hl with | [_, _, _], _ => rfl
  have f_law_due : Clb P w K mg base 1 "_law_due" (sp_law_due K) := ⟨_, _, _, ok_law_due bl F_law_due , He.glo_ok X G (c.fact 5 rfl), F_law_due.kp, b_law_due⟩
  have b_law_same : Binds K fd_law_same ["found", "due"] [] := F_law_same.bindsN fun _ _ _ _ _ _ us hl => match us, hl with | [_, _], _ => rfl
  have f_law_same : Clb P w K mg base 5 "_law_same" (sp_law_same 5 K) := ⟨_, _, _, ok_law_same bl F_law_same (He.glo_ok X G (c.fact 6 rfl)) b_law_same  5, He.glo_ok X G (c.fact 6 rfl), F_law_same.kp, b_law_same⟩
  exact ok_thelaw bl F_thelaw f_law_cell f_law_mix f_law_told f_law_due f_law_same
end GKL
open PySem PySem.W PySem.Calls PyProof.Rows
theorem PySem.Challenge.cw_greatkeep_k10_ranges_holds : PySem.Challenge.rw_greatkeep_k10_ranges.Holds := by
  w_on; o_law
  refine HandSHeadRun.head_any (r := OpenLaw.row PySem.Challenge.rw_greatkeep_k10_ranges) (q := view (OpenLaw.row PySem.Challenge.rw_greatkeep_k10_ranges).prog [13]) (H := GKL.hk) (ob := GKL.ob) (M := 1000) (loose := GKL.loose) (d := HandSHeadRun.topDef (OpenLaw.row PySem.Challenge.rw_greatkeep_k10_ranges).prog 13) (kwd := []) GKL.ob_eq
    (by kernel_rfl) (fun s => by kernel_rfl) GKL.run (by kernel_rfl) (by kernel_rfl) (by kernel_rfl) (by rfl) (by first | assumption | decide +kernel) (by decide +kernel) ⟨rfl, rfl, rfl, rfl, rfl, by decide +kernel⟩ ?hw ?hc
  case hw => w_witness2
  case hc =>
    refine L2.walk_ofE (l := PySem.Challenge.rw_greatkeep_k10_ranges) (n := 63) (k := 6) (x := "script") (CX := GK.cxAny) rfl (by decide) (by kernel_rfl) ⟨rfl, by decide, by decide⟩ ?F GK.cxAny_no
    intro w mg fa h Y G hmg0
    obtain ⟨K, KX, c⟩ := Y
    have hmg : mg ("law" : PySem.Str) = some (.ref fa) := by
      have e : (HandSHeadRun.topDef (OpenLaw.row PySem.Challenge.rw_greatkeep_k10_ranges).prog 13).name = ("law" : PySem.Str) := by kernel_rfl
      rw [← e]
      exact hmg0
    obtain ⟨fd, hb, hF⟩ := GKL.facts (P := (PySem.Challenge.rw_greatkeep_k10_ranges).prog) (w := w) KX G hmg c
    exact ⟨K, fd, GK.sp_thelaw K, KX, hb, fun H a ns hl _ hS => ⟨a, ns, rfl, hS, hl, fun _ => rfl⟩, fun base k1 k2 => GK.cxAny_of (hF base k1 k2)⟩
