import PyProof.Rows.All
import Wide.All
import OpenK.AllK
import Wide.FinOn
import KE.KStateDown
import Lean
import HandS.ForMost
import HandS.More
import HandS.Exc
import HandS.TryOnly
import HandS.ExcOwn
import HandS.WordsExc
import HandS.ExcIs
import HandS.Defaults
import HandS.Head0
import HandS.Head1
import HandS.Head2
import HandS.HeadEnd
import HandS.HeadHook1
import HandS.HeadHook2
import HandS.Evl
import HandS.Walk
import HandS.IsInst
import HandS.StrMore
import HandS.Flow
import HandS.Style
import HandS.TupAny
import HandS.Zip
import HandS.Rev
import HandS.SetKeys
import HandS.DictTup
import HandS.Conv
import HandS.Small
import HandS.Set
import HandS.Strs
import HandS.SetFor
import PySem.Challenge.RW_greatkeep_k13_whole_pages
set_option Elab.async false
set_option linter.all false
set_option maxRecDepth 100000
set_option maxHeartbeats 8000000
/-! Greatkeep: what evaluates to which data; rules beside those of the layer. -/
namespace GK
open PySem PySem.Spec PyProof.Rows L2 Evl
abbrev Sig := L2.St
/-! ### data in a heap: lists and tuples that stand in it -/
mutual
inductive Da : Hp → V → PyData → Prop
  | non {H : Hp} : Da H .non .none
  | bl {H : Hp} (b : Bool) : Da H (.bl b) (.bool b)
  | int {H : Hp} (i : Int) : Da H (.int i) (.int i)
  | str {H : Hp} (x : Str) : Da H (.str x) (.str x)
  | lst {H : Hp} {a : Addr} {xs : List V} {ds : List PyData} : H a = some (.lst xs) → DaAll H xs ds → Da H (.ref a) (.list ds)
  | tup {H : Hp} {a : Addr} {xs : List V} {ds : List PyData} : H a = some (.tup xs) → DaAll H xs ds → Da H (.ref a) (.tuple ds)
inductive DaAll : Hp → List V → List PyData → Prop
  | nil {H : Hp} : DaAll H [] []
  | cons {H : Hp} {v : V} {vs : List V} {d : PyData} {ds : List PyData} : Da H v d → DaAll H vs ds → DaAll H (v :: vs) (d :: ds)
end
section
variable {K : PySem.W.Frag}
/-! ### data in a heap that grows -/
mutual
theorem da_ex {H H' : Hp} (e : Ex H H') : ∀ (d : PyData) (v : V), Da H v d → Da H' v d
  | .none, _, h => by cases h; exact .non
  | .bool b, _, h => by cases h; exact .bl b
  | .int i, _, h => by cases h; exact .int i
  | .str x, _, h => by cases h; exact .str x
  | .list ds, _, h => by
    cases h with
    | lst h ha => exact .lst (e _ _ h) (dpAll_ex e ds _ ha)
  | .tuple ds, _, h => by
    cases h with
    | tup h ha => exact .tup (e _ _ h) (dpAll_ex e ds _ ha)
  | .dict _, _, h => by cases h
theorem dpAll_ex {H H' : Hp} (e : Ex H H') : ∀ (ds : List PyData) (vs : List V), DaAll H vs ds → DaAll H' vs ds
  | [], _, h => by cases h; exact .nil
  | d :: ds, _, h => by
    cases h with
    | cons h t => exact .cons (da_ex e d _ h) (dpAll_ex e ds _ t)
end
theorem Da.ex' {H H' : Hp} {d : PyData} {v : V} (h : Da H v d) (e : Ex H H') : Da H' v d := da_ex e d v h
theorem dpi {H : Hp} {v : V} {i : Int} (h : Da H v (.int i)) : v = .int i := by cases h; rfl
theorem dps {H : Hp} {v : V} {x : Str} (h : Da H v (.str x)) : v = .str x := by cases h; rfl
theorem dpb {H : Hp} {v : V} {b : Bool} (h : Da H v (.bool b)) : v = .bl b := by cases h; rfl
theorem dpn {H : Hp} {v : V} (h : Da H v .none) : v = .non := by cases h; rfl
theorem dpt {H : Hp} {v : V} {ds : List PyData} (h : Da H v (.tuple ds)) : ∃ a xs, v = .ref a ∧ H a = some (.tup xs) ∧ DaAll H xs ds := by
  cases h with
  | tup h ha => exact ⟨_, _, rfl, h, ha⟩
theorem dpl {H : Hp} {v : V} {ds : List PyData} (h : Da H v (.list ds)) : ∃ a xs, v = .ref a ∧ H a = some (.lst xs) ∧ DaAll H xs ds := by
  cases h with
  | lst h ha => exact ⟨_, _, rfl, h, ha⟩
theorem dpa_len {H : Hp} : ∀ {ds : List PyData} {vs : List V}, DaAll H vs ds → vs.length = ds.length
  | [], _, h => by cases h; rfl
  | d :: ds, _, h => by
    cases h with
    | cons h t => rw [List.length_cons, List.length_cons, dpa_len t]
theorem dpa_get {H : Hp} : ∀ {ds : List PyData} {vs : List V} {i : Nat} {v : V}, DaAll H vs ds → vs[i]? = some v → ∃ d, ds[i]? = some d ∧ Da H v d
  | [], _, i, v, h, e => by cases h; simp at e
  | d :: ds, _, i, v, h, e => by
    cases h with
    | cons h t =>
      cases i with
      | zero => simp at e; subst e; exact ⟨d, rfl, h⟩
      | succ i => simp at e; obtain ⟨d', e', h'⟩ := dpa_get t e; exact ⟨d', by simpa using e', h'⟩
theorem dpa_at {H : Hp} : ∀ {ds : List PyData} {vs : List V} {i : Nat} {d : PyData}, DaAll H vs ds → ds[i]? = some d → ∃ v, vs[i]? = some v ∧ Da H v d
  | [], _, i, d, h, e => by simp at e
  | d :: ds, _, i, d', h, e => by
    cases h with
    | cons h t =>
      cases i with
      | zero => simp at e; subst e; exact ⟨_, rfl, h⟩
      | succ i => simp at e; obtain ⟨v, e', h'⟩ := dpa_at t e; exact ⟨v, by simpa using e', h'⟩
theorem dpa_app {H : Hp} : ∀ {ds es : List PyData} {vs us : List V}, DaAll H vs ds → DaAll H us es → DaAll H (vs ++ us) (ds ++ es)
  | [], _, _, _, h, h' => by cases h; exact h'
  | d :: ds, _, _, _, h, h' => by
    cases h with
    | cons h t => exact .cons h (dpa_app t h')
theorem dpa_take {H : Hp} : ∀ {n : Nat} {ds : List PyData} {vs : List V}, DaAll H vs ds → DaAll H (vs.take n) (ds.take n)
  | 0, _, _, _ => by simpa using DaAll.nil
  | n + 1, [], _, h => by cases h; exact .nil
  | n + 1, d :: ds, _, h => by
    cases h with
    | cons h t => exact .cons h (dpa_take t)
theorem dpa_drop {H : Hp} : ∀ {n : Nat} {ds : List PyData} {vs : List V}, DaAll H vs ds → DaAll H (vs.drop n) (ds.drop n)
  | 0, _, _, h => by simpa using h
  | n + 1, [], _, h => by cases h; exact .nil
  | n + 1, d :: ds, v :: vs, h => by
    cases h with
    | cons h t => exact dpa_drop (n := n) t
theorem dpa_rev {H : Hp} : ∀ {ds : List PyData} {vs : List V}, DaAll H vs ds → DaAll H vs.reverse ds.reverse
  | [], _, h => by cases h; exact .nil
  | d :: ds, _, h => by
    cases h with
    | cons h t =>
      rw [List.reverse_cons, List.reverse_cons]
      exact dpa_app (dpa_rev t) (.cons h .nil)
theorem dpa_ints {H : Hp} : ∀ {ns : List Int} {vs : List V}, DaAll H vs (ns.map .int) → vs = ns.map V.int
  | [], _, h => by cases h; rfl
  | n :: ns, _, h => by
    cases h with
    | cons h t => cases h; rw [dpa_ints t]; rfl
theorem dpa_strs {H : Hp} : ∀ {ns : List Str} {vs : List V}, DaAll H vs (ns.map .str) → vs = ns.map V.str
  | [], _, h => by cases h; rfl
  | n :: ns, _, h => by
    cases h with
    | cons h t => cases h; rw [dpa_strs t]; rfl
theorem dpa_bools {H : Hp} : ∀ {ns : List Bool} {vs : List V}, DaAll H vs (ns.map .bool) → vs = ns.map V.bl
  | [], _, h => by cases h; rfl
  | n :: ns, _, h => by
    cases h with
    | cons h t => cases h; rw [dpa_bools t]; rfl
theorem dpa_ofInts {H : Hp} : ∀ (ns : List Int), DaAll H (ns.map V.int) (ns.map .int)
  | [] => .nil
  | n :: ns => .cons (.int n) (dpa_ofInts ns)
theorem dpa_ofStrs {H : Hp} : ∀ (ns : List Str), DaAll H (ns.map V.str) (ns.map .str)
  | [] => .nil
  | n :: ns => .cons (.str n) (dpa_ofStrs ns)
theorem dpa1 {H : Hp} {vs : List V} {d : PyData} (h : DaAll H vs [d]) : ∃ v, vs = [v] ∧ Da H v d := by
  cases h with
  | cons h t => cases t; exact ⟨_, rfl, h⟩
theorem dpa2 {H : Hp} {vs : List V} {d e : PyData} (h : DaAll H vs [d, e]) : ∃ v u, vs = [v, u] ∧ Da H v d ∧ Da H u e := by
  cases h with
  | cons h t => obtain ⟨u, rfl, h'⟩ := dpa1 t; exact ⟨_, _, rfl, h, h'⟩
theorem dpa3 {H : Hp} {vs : List V} {d e f : PyData} (h : DaAll H vs [d, e, f]) : ∃ v u w, vs = [v, u, w] ∧ Da H v d ∧ Da H u e ∧ Da H w f := by
  cases h with
  | cons h t => obtain ⟨u, w, rfl, h', h''⟩ := dpa2 t; exact ⟨_, _, _, rfl, h, h', h''⟩
theorem dpa4 {H : Hp} {vs : List V} {d e f g : PyData} (h : DaAll H vs [d, e, f, g]) : ∃ v u w x, vs = [v, u, w, x] ∧ Da H v d ∧ Da H u e ∧ Da H w f ∧ Da H x g := by
  cases h with
  | cons h t => obtain ⟨u, w, x, rfl, h', h'', h3⟩ := dpa3 t; exact ⟨_, _, _, _, rfl, h, h', h'', h3⟩

/-! ### evaluates to data. B: what is known and never changes (the frame); H: the heap as it is, B in it; things that are changed stand in H, not in B -/
/-- B' is B and what is new in H -/
def Ext (B H B' : Hp) : Prop := Ex B B' ∧ ∀ p, H p ≠ none → B' p = B p
theorem Ext.refl (B H : Hp) : Ext B H B := ⟨Ex.refl B, fun _ _ => rfl⟩
theorem Ext.trans {B B1 B2 H H1 : Hp} (a : Ext B H B1) (e : Ex H H1) (b : Ext B1 H1 B2) : Ext B H B2 := ⟨a.1.trans b.1, fun p hp => by
  rw [b.2 p (by
    cases h : H p with
    | none => exact absurd h hp
    | some o => rw [e p o h]; exact fun z => nomatch z), a.2 p hp]⟩
theorem Ext.new {B H : Hp} {p : Addr} {o : HO} (eb : Ex B H) (h : H p = none) : Ext B H (upd B p o) := ⟨Ex.new (fresh_back eb h), fun q hq => upd_ne fun z => hq (by rw [z]; exact h)⟩
theorem ex_upd2 {B H : Hp} {p : Addr} {o : HO} (e : Ex B H) : Ex (upd B p o) (upd H p o) := fun a u h => by
  by_cases c : a = p
  · subst c; rw [upd_same] at h ⊢; exact h
  · rw [upd_ne c] at h ⊢; exact e a u h
/-- an object outside the frame may change -/
theorem ex_mut {B H : Hp} {p : Addr} {o : HO} (e : Ex B H) (h : B p = none) : Ex B (upd H p o) := Ex.mut e h
theorem Ext.out {B H B' : Hp} {p : Addr} {o : HO} (x : Ext B H B') (h : H p = some o) (b : B p = none) : B' p = none := by rw [x.2 p (by rw [h]; exact fun z => nomatch z), b]
def uni (A B : Hp) : Hp := fun p => match A p with | some o => some o | none => B p
theorem uni_l {A B : Hp} : Ex A (uni A B) := fun p o h => by unfold uni; rw [h]
theorem uni_ex {A B H : Hp} (a : Ex A H) (b : Ex B H) : Ex (uni A B) H := fun p o h => by
  unfold uni at h
  cases c : A p with
  | some u => rw [c] at h; cases h; exact a p _ c
  | none => rw [c] at h; exact b p o h
theorem uni_r {A B H : Hp} (a : Ex A H) (b : Ex B H) : Ex B (uni A B) := fun p o h => by
  unfold uni
  cases c : A p with
  | some u => show some u = some o; rw [← a p _ c, b p _ h]
  | none => exact h
theorem uni_ext {A B B' H H' : Hp} (x : Ext B H B') (ab : Ex B A) (ah : Ex A H) (e : Ex H H') (bh : Ex B' H') : Ext A H (uni A B') := ⟨uni_l, fun p hp => by
  unfold uni
  cases c : A p with
  | some u => rfl
  | none =>
    show B' p = none
    rw [x.2 p hp]
    cases b : B p with
    | none => rfl
    | some o => rw [ab p o b] at c; cases c⟩
/-- what is given back: data in the frame grown -/
def Ret (d : PyData) (B H : Hp) (Q : VK) : Prop := ∀ v H' B', Ex H H' → Ext B H B' → Ex B' H' → Da B' v d → Q v H'
def Rets (ds : List PyData) (B H : Hp) (Q : List V → Hp → Prop) : Prop := ∀ vs H' B', Ex H H' → Ext B H B' → Ex B' H' → DaAll B' vs ds → Q vs H'
def EvD (te : TE) (σ : Sig) (B H : Hp) (d : PyData) : Prop := ∀ H1, Ex H H1 → Ex B H1 → ∀ Q : VK, Ret d B H1 Q → te σ H1 Q
def EvDs (ta : TA) (σ : Sig) (B H : Hp) (ds : List PyData) : Prop := ∀ H1, Ex H H1 → Ex B H1 → ∀ Q, Rets ds B H1 Q → ta σ H1 Q
def EvF (te : TE) (σ : Sig) (H : Hp) (v : V) : Prop := ∀ H1, Ex H H1 → ∀ Q : VK, (∀ H2, Ex H1 H2 → Q v H2) → te σ H1 Q
def EvB (tt : TT) (σ : Sig) (B H : Hp) (b : Bool) : Prop := ∀ H1, Ex H H1 → Ex B H1 → ∀ Q : Bool → Hp → Prop, (∀ H2, Ex H1 H2 → Q b H2) → tt σ H1 Q
variable {σ : Sig} {B B' H H' : Hp} {te ta tb tc : TE} {tt tu : TT} {d d1 d2 : PyData} {v : V}
theorem Ret.flat {Q : VK} {w : V} (hv : ∀ B v, Da B v d → v = w) (q : ∀ H', Ex H H' → Q w H') : Ret d B H Q := fun v H' B' e x eb hd => by rw [hv _ _ hd]; exact q H' e
theorem Ret.at {Q : VK} (r : Ret d B H Q) (eb : Ex B H) (hd : Da B v d) : Q v H := r v H B (Ex.refl H) (Ext.refl B H) eb hd
theorem Ret.grow {Q : VK} {H1 B1 : Hp} (r : Ret d B H Q) (e : Ex H H1) (x : Ext B H B1) : Ret d B1 H1 Q := fun v H' B' e' x' eb hd => r v H' B' (e.trans e') (x.trans e x') eb hd
theorem Ret.sub {Q : VK} {A : Hp} (r : Ret d A H Q) (ab : Ex B A) (ah : Ex A H) : Ret d B H Q := fun v H' B' e x eb hd =>
  r v H' (uni A B') e (uni_ext x ab ah e eb) (uni_ex (ah.trans e) eb) (hd.ex' (uni_r (ah.trans e) eb))
theorem EvD.mono (h : EvD te σ B H d) (eb : Ex B B') (eh : Ex H H') : EvD te σ B' H' d := fun H1 e1 e2 Q r => h H1 (eh.trans e1) (eb.trans e2) Q (r.sub eb e2)
theorem EvDs.mono {tr : TA} {ds : List PyData} (h : EvDs tr σ B H ds) (eb : Ex B B') (eh : Ex H H') : EvDs tr σ B' H' ds := fun H1 e1 e2 Q r => h H1 (eh.trans e1) (eb.trans e2) Q fun vs H2 B2 e x ex hd =>
  r vs H2 (uni B' B2) e (uni_ext x eb e2 e ex) (uni_ex (e2.trans e) ex) (dpAll_ex (uni_r (e2.trans e) ex) _ _ hd)
theorem EvB.mono {b : Bool} (h : EvB tt σ B H b) (eb : Ex B B') (eh : Ex H H') : EvB tt σ B' H' b := fun H1 e1 e2 Q q => h H1 (eh.trans e1) (eb.trans e2) Q q
theorem EvF.mono (h : EvF te σ H v) (eh : Ex H H') : EvF te σ H' v := fun H1 e1 Q q => h H1 (eh.trans e1) Q q
theorem EvD.is (h : EvD te σ B H d) (e : d = d1) : EvD te σ B H d1 := e ▸ h
theorem EvB.is {b c : Bool} (h : EvB tt σ B H b) (e : b = c) : EvB tt σ B H c := e ▸ h
/-- run it where it stands -/
theorem EvD.run {Q : VK} (h : EvD te σ B H d) (eb : Ex B H) (r : Ret d B H Q) : te σ H Q := h H (Ex.refl H) eb Q r
theorem evd_of (h : EvF te σ H v) (hd : Da B v d) : EvD te σ B H d := fun H1 e eb Q q => h H1 e Q fun H2 e2 => q v H2 B e2 (Ext.refl B H1) (eb.trans e2) hd
theorem evf_i {i : Int} (h : EvD te σ B H (.int i)) (eb : Ex B H) : EvF te σ H (.int i) := fun H1 e Q q => h H1 e (eb.trans e) Q (Ret.flat (fun _ _ => dpi) q)
theorem EvD.flat {w : V} (h : EvD te σ B H d) (hv : ∀ B v, Da B v d → v = w) {H1 : Hp} (e : Ex H H1) (eb : Ex B H1) {Q : VK} (q : ∀ H2, Ex H1 H2 → Q w H2) : te σ H1 Q := h H1 e eb Q (Ret.flat hv q)
/-! leaves -/
theorem evf_var {i : Nat} (h : σ[i]? = some (some v)) : EvF (tVar i) σ H v := fun H1 _ _ q => ⟨v, h, q H1 (Ex.refl H1)⟩
theorem evf_c : EvF (tC v) σ H v := fun H1 _ _ q => q H1 (Ex.refl H1)
theorem evd_var {i : Nat} (h : σ[i]? = some (some v)) (hd : Da B v d) : EvD (tVar i) σ B H d := evd_of (evf_var h) hd
theorem evd_varI {i : Nat} {n : Int} (h : σ[i]? = some (some (.int n))) : EvD (tVar i) σ B H (.int n) := evd_var h (.int n)
theorem evd_varS {i : Nat} {x : Str} (h : σ[i]? = some (some (.str x))) : EvD (tVar i) σ B H (.str x) := evd_var h (.str x)
theorem evd_varB {i : Nat} {b : Bool} (h : σ[i]? = some (some (.bl b))) : EvD (tVar i) σ B H (.bool b) := evd_var h (.bl b)
theorem evd_varN {i : Nat} (h : σ[i]? = some (some .non)) : EvD (tVar i) σ B H .none := evd_var h .non
theorem evd_ci {i : Int} : EvD (tC (.int i)) σ B H (.int i) := evd_of evf_c (.int i)
theorem evd_cs {x : Str} : EvD (tC (.str x)) σ B H (.str x) := evd_of evf_c (.str x)
theorem evd_ck {b : Bool} : EvD (tC (.bl b)) σ B H (.bool b) := evd_of evf_c (.bl b)
theorem evd_cn : EvD (tC .non) σ B H .none := evd_of evf_c .non
/-- two parts, flat, one behind the other -/
theorem flat2 {w z : V} {k : V → V → Hp → Prop} (ha : EvD ta σ B H d1) (h1 : ∀ B v, Da B v d1 → v = w) (hb : EvD tb σ B H d2) (h2 : ∀ B v, Da B v d2 → v = z) {H1 : Hp} (e : Ex H H1) (eb : Ex B H1)
    (q : ∀ H2, Ex H1 H2 → k w z H2) : ta σ H1 fun x H2 => tb σ H2 fun y H3 => k x y H3 :=
  ha.flat h1 e eb fun _ e2 => hb.flat h2 (e.trans e2) (eb.trans e2) fun H3 e3 => q H3 (e2.trans e3)
theorem evd_op2 {w z y : V} {r : R2} (ha : EvD ta σ B H d1) (h1 : ∀ B v, Da B v d1 → v = w) (hb : EvD tb σ B H d2) (h2 : ∀ B v, Da B v d2 → v = z) (hr : ∀ H1 (Q : VK), Q y H1 → r w z H1 Q) (hd : ∀ B, Da B y d) : EvD (tOp r ta tb) σ B H d :=
  fun H1 e eb Q q => flat2 (k := fun x y H => r x y H Q) ha h1 hb h2 e eb fun H2 e2 => hr H2 Q (q y H2 B e2 (Ext.refl B H1) (eb.trans e2) (hd B))
theorem evd_I0 {g : Int → Int → Int} {i j : Int} (ha : EvD ta σ B H (.int i)) (hb : EvD tb σ B H (.int j)) : EvD (tOp (rI0 fun i j => .int (g i j)) ta tb) σ B H (.int (g i j)) := evd_op2 ha (fun _ _ => dpi) hb (fun _ _ => dpi) (fun _ _ q => ⟨i, j, rfl, rfl, q⟩) fun _ => .int _
theorem evd_B0 {g : Int → Int → Bool} {i j : Int} (ha : EvD ta σ B H (.int i)) (hb : EvD tb σ B H (.int j)) : EvD (tOp (rI0 fun i j => .bl (g i j)) ta tb) σ B H (.bool (g i j)) := evd_op2 ha (fun _ _ => dpi) hb (fun _ _ => dpi) (fun _ _ q => ⟨i, j, rfl, rfl, q⟩) fun _ => .bl _
theorem evd_IC {C : Int → Int → Prop} {g : Int → Int → Int} {i j : Int} (ha : EvD ta σ B H (.int i)) (hb : EvD tb σ B H (.int j)) (hc : C i j) : EvD (tOp (rI C fun i j => .int (g i j)) ta tb) σ B H (.int (g i j)) := evd_op2 ha (fun _ _ => dpi) hb (fun _ _ => dpi) (fun _ _ q => ⟨i, j, rfl, rfl, hc, q⟩) fun _ => .int _
theorem evd_mul {i j : Int} (ha : EvD ta σ B H (.int i)) (hb : EvD tb σ B H (.int j)) (hc : CMul i j := by first | with_reducible assumption | (refine Or.inr ⟨?_, ?_⟩ <;> omega) | (refine Or.inl ⟨?_, ?_⟩ <;> omega)) : EvD (tOp (rI CMul fun i j => .int (i * j)) ta tb) σ B H (.int (i * j)) := evd_IC ha hb hc
theorem evd_mod {i j : Int} (ha : EvD ta σ B H (.int i)) (hb : EvD tb σ B H (.int j)) (hc : 0 < j := by first | with_reducible assumption | omega | decide) : EvD (tOp (rI (fun _ j => 0 < j) fun i j => .int (i % j)) ta tb) σ B H (.int (i % j)) := evd_IC (C := fun _ j => 0 < j) (g := fun i j => i % j) ha hb hc
theorem evd_fdiv {i j : Int} (ha : EvD ta σ B H (.int i)) (hb : EvD tb σ B H (.int j)) (hc : CDiv i j := by first | with_reducible assumption | (constructor <;> omega)) : EvD (tOp (rI CDiv fun i j => .int (i / j)) ta tb) σ B H (.int (i / j)) := evd_IC ha hb hc
theorem evd_un {g : Int → Int} {i : Int} (ha : EvD ta σ B H (.int i)) : EvD (tUn (rU fun i => .int (g i)) ta) σ B H (.int (g i)) := fun H1 e eb Q q => ha.flat (fun _ _ => dpi) e eb fun H2 e2 => ⟨i, rfl, q _ H2 B e2 (Ext.refl B H1) (eb.trans e2) (.int _)⟩
theorem evd_eqI {i j : Int} (ha : EvD ta σ B H (.int i)) (hb : EvD tb σ B H (.int j)) : EvD (tOp rEq ta tb) σ B H (.bool (decide (i = j))) := evd_op2 ha (fun _ _ => dpi) hb (fun _ _ => dpi) (fun _ _ q => ⟨rfl, q⟩) fun _ => by rw [show decide (V.int i = V.int j) = decide (i = j) by simp]; exact .bl _
theorem evd_neI {i j : Int} (ha : EvD ta σ B H (.int i)) (hb : EvD tb σ B H (.int j)) : EvD (tOp rNe ta tb) σ B H (.bool (!decide (i = j))) := evd_op2 ha (fun _ _ => dpi) hb (fun _ _ => dpi) (fun _ _ q => ⟨rfl, q⟩) fun _ => by rw [show decide (V.int i = V.int j) = decide (i = j) by simp]; exact .bl _
theorem evd_eqS {i j : Str} (ha : EvD ta σ B H (.str i)) (hb : EvD tb σ B H (.str j)) : EvD (tOp rEq ta tb) σ B H (.bool (decide (i = j))) := evd_op2 ha (fun _ _ => dps) hb (fun _ _ => dps) (fun _ _ q => ⟨rfl, q⟩) fun _ => by rw [show decide (V.str i = V.str j) = decide (i = j) by simp]; exact .bl _
theorem evd_neS {i j : Str} (ha : EvD ta σ B H (.str i)) (hb : EvD tb σ B H (.str j)) : EvD (tOp rNe ta tb) σ B H (.bool (!decide (i = j))) := evd_op2 ha (fun _ _ => dps) hb (fun _ _ => dps) (fun _ _ q => ⟨rfl, q⟩) fun _ => by rw [show decide (V.str i = V.str j) = decide (i = j) by simp]; exact .bl _
theorem evd_eqB {i j : Bool} (ha : EvD ta σ B H (.bool i)) (hb : EvD tb σ B H (.bool j)) : EvD (tOp rEq ta tb) σ B H (.bool (decide (i = j))) := evd_op2 ha (fun _ _ => dpb) hb (fun _ _ => dpb) (fun _ _ q => ⟨rfl, q⟩) fun _ => by rw [show decide (V.bl i = V.bl j) = decide (i = j) by simp]; exact .bl _
theorem evd_notBl {i j : Bool} (ha : EvD ta σ B H (.bool i)) (hb : EvD tb σ B H (.bool j)) : EvD (tOp rNotB ta tb) σ B H (.bool (!decide (i = j))) := evd_op2 ha (fun _ _ => dpb) hb (fun _ _ => dpb) (fun _ _ q => ⟨i, j, rfl, rfl, q⟩) fun _ => .bl _
def isNone : PyData → Bool
  | .none => true
  | _ => false
theorem evd_isN (ha : EvD ta σ B H d) : EvD (tIsN ta) σ B H (.bool (isNone d)) := fun H1 e eb Q q => ha H1 e eb _ fun v H2 B2 e2 x2 eb2 hd => by
  cases hd <;> exact q _ H2 B2 e2 x2 eb2 (.bl _)
theorem evd_notN (ha : EvD ta σ B H d) : EvD (tNotN ta) σ B H (.bool (!isNone d)) := fun H1 e eb Q q => ha H1 e eb _ fun v H2 B2 e2 x2 eb2 hd => by
  cases hd <;> exact q _ H2 B2 e2 x2 eb2 (.bl _)
def rAddStr : R2 := fun x y H Q => ∃ i j, x = .str i ∧ y = .str j ∧ i.length + j.length ≤ sizeLine ∧ Q (.str (i ++ j)) H
theorem op_addStr {X : Cx} : OpR X (binaryOp .Add) rAddStr := op_add_str
theorem evd_addS {i j : Str} (ha : EvD ta σ B H (.str i)) (hb : EvD tb σ B H (.str j)) (hl : i.length + j.length ≤ 100000 := by first | with_reducible assumption | omega | (simp only [PySem.Str.length_append]; omega)) : EvD (tOp rAddStr ta tb) σ B H (.str (i ++ j)) := evd_op2 ha (fun _ _ => dps) hb (fun _ _ => dps) (fun _ _ q => ⟨i, j, rfl, rfl, sz_of hl, q⟩) fun _ => .str _
/-! and, or, not; tests -/
theorem evd_and {a b : Bool} (h1 : EvD ta σ B H (.bool a)) (h2 : a = true → EvD tb σ B H (.bool b)) : EvD (tAndV ta tb) σ B H (.bool (a && b)) := fun H1 e eb Q q => h1.flat (fun _ _ => dpb) e eb fun H2 e2 => by
  refine ⟨a, rfl, ?_⟩
  cases a with
  | true => rw [if_pos rfl]; exact (h2 rfl).flat (fun _ _ => dpb) (e.trans e2) (eb.trans e2) fun H3 e3 => q _ H3 B (e2.trans e3) (Ext.refl B H1) (eb.trans (e2.trans e3)) (.bl _)
  | false => rw [if_neg (by decide)]; exact q _ H2 B e2 (Ext.refl B H1) (eb.trans e2) (.bl _)
theorem evd_or {a b : Bool} (h1 : EvD ta σ B H (.bool a)) (h2 : a = false → EvD tb σ B H (.bool b)) : EvD (tOrV ta tb) σ B H (.bool (a || b)) := fun H1 e eb Q q => h1.flat (fun _ _ => dpb) e eb fun H2 e2 => by
  refine ⟨a, rfl, ?_⟩
  cases a with
  | false => rw [if_neg (by decide)]; exact (h2 rfl).flat (fun _ _ => dpb) (e.trans e2) (eb.trans e2) fun H3 e3 => q _ H3 B (e2.trans e3) (Ext.refl B H1) (eb.trans (e2.trans e3)) (.bl _)
  | true => rw [if_pos rfl]; exact q _ H2 B e2 (Ext.refl B H1) (eb.trans e2) (.bl _)
theorem evd_not {a : Bool} (h1 : EvD ta σ B H (.bool a)) : EvD (tNotV ta) σ B H (.bool (!a)) := fun H1 e eb Q q => h1.flat (fun _ _ => dpb) e eb fun H2 e2 => ⟨a, rfl, q _ H2 B e2 (Ext.refl B H1) (eb.trans e2) (.bl _)⟩
theorem evb_B {b : Bool} (h : EvD te σ B H (.bool b)) : EvB (tB te) σ B H b := fun H1 e eb Q q => h.flat (fun _ _ => dpb) e eb fun H2 e2 => ⟨b, rfl, q H2 e2⟩
theorem evb_test {b : Bool} (h : EvD te σ B H (.bool b)) : EvB (tTest te) σ B H b := evb_B h
theorem evb_and {a b : Bool} (h1 : EvB tt σ B H a) (h2 : a = true → EvB tu σ B H b) : EvB (tAnd tt tu) σ B H (a && b) := fun H1 e eb Q q => h1 H1 e eb _ fun H2 e2 => by
  cases a with
  | true => rw [if_pos rfl]; exact h2 rfl H2 (e.trans e2) (eb.trans e2) Q fun H3 e3 => q H3 (e2.trans e3)
  | false => rw [if_neg (by decide)]; exact q H2 e2
theorem evb_or {a b : Bool} (h1 : EvB tt σ B H a) (h2 : a = false → EvB tu σ B H b) : EvB (tOr tt tu) σ B H (a || b) := fun H1 e eb Q q => h1 H1 e eb _ fun H2 e2 => by
  cases a with
  | false => rw [if_neg (by decide)]; exact h2 rfl H2 (e.trans e2) (eb.trans e2) Q fun H3 e3 => q H3 (e2.trans e3)
  | true => rw [if_pos rfl]; exact q H2 e2
theorem evb_not {a : Bool} (h1 : EvB tt σ B H a) : EvB (tNot tt) σ B H (!a) := fun H1 e eb Q q => h1 H1 e eb _ q
theorem evb_yes : EvB tYes σ B H true := fun H1 _ _ _ q => q H1 (Ex.refl H1)
theorem evd_chain {p q : Int → Int → Bool} {i j k : Int} (ha : EvD ta σ B H (.int i)) (hb : EvD tb σ B H (.int j)) (hc : EvD tc σ B H (.int k)) :
    EvD (tChain (rI0 fun i j => .bl (p i j)) (rI0 fun i j => .bl (q i j)) ta tb tc) σ B H (.bool (p i j && q j k)) := fun H1 e eb Q z => ha.flat (fun _ _ => dpi) e eb fun H2 e2 => hb.flat (fun _ _ => dpi) (e.trans e2) (eb.trans e2) fun H3 e3 => by
  refine ⟨i, j, rfl, rfl, p i j, rfl, ?_⟩
  cases hp : p i j with
  | true =>
    rw [if_pos rfl]
    refine hc.flat (fun _ _ => dpi) (e.trans (e2.trans e3)) (eb.trans (e2.trans e3)) fun H4 e4 => ⟨j, k, rfl, rfl, z _ H4 B (e2.trans (e3.trans e4)) (Ext.refl B H1) (eb.trans (e2.trans (e3.trans e4))) ?_⟩
    rw [hp, Bool.true_and]; exact .bl _
  | false =>
    rw [if_neg (by decide)]
    refine z _ H3 B (e2.trans e3) (Ext.refl B H1) (eb.trans (e2.trans e3)) ?_
    rw [hp, Bool.false_and]; exact .bl _
/-! arguments, tuples, lists -/
theorem evs_nil : EvDs tNil σ B H [] := fun H1 _ eb _ q => q [] H1 B (Ex.refl H1) (Ext.refl B H1) eb .nil
theorem evs_cons {tr : TA} {ds : List PyData} (h : EvD ta σ B H d) (hr : EvDs tr σ B H ds) : EvDs (tCons ta tr) σ B H (d :: ds) := fun H1 e eb Q q => h H1 e eb _ fun v H2 B2 e2 x2 eb2 hd =>
  (hr.mono x2.1 (e.trans e2)) H2 (Ex.refl H2) eb2 _ fun vs H3 B3 e3 x3 eb3 hds => q _ H3 B3 (e2.trans e3) (x2.trans e2 x3) eb3 (.cons (hd.ex' x3.1) hds)
theorem evd_tup {tr : TA} {ds : List PyData} (h : EvDs tr σ B H ds) (hl : ds.length ≤ 100000 := by first | exact Nat.le_of_ble_eq_true rfl | assumption | omega) : EvD (tTup tr) σ B H (.tuple ds) := fun H1 e eb Q q => h H1 e eb _ fun vs H2 B2 e2 x2 eb2 hds =>
  ⟨by rw [dpa_len hds]; exact sz_of hl, fun p hp => q _ _ (upd B2 p (.tup vs)) (e2.trans (Ex.new hp)) (x2.trans e2 (Ext.new eb2 hp)) (ex_upd2 eb2) (.tup upd_same (dpAll_ex (Ex.new (fresh_back eb2 hp)) _ _ hds))⟩
theorem evd_lst {tr : TA} {ds : List PyData} (h : EvDs tr σ B H ds) (hl : ds.length ≤ 100000 := by first | exact Nat.le_of_ble_eq_true rfl | assumption | omega) : EvD (tLst tr) σ B H (.list ds) := fun H1 e eb Q q => h H1 e eb _ fun vs H2 B2 e2 x2 eb2 hds =>
  ⟨by rw [dpa_len hds]; exact sz_of hl, fun p hp => q _ _ (upd B2 p (.lst vs)) (e2.trans (Ex.new hp)) (x2.trans e2 (Ext.new eb2 hp)) (ex_upd2 eb2) (.lst upd_same (dpAll_ex (Ex.new (fresh_back eb2 hp)) _ _ hds))⟩
/-- a call by values whose rule r gives d of ds -/
theorem evd_cb {r : List V → Hp → VK → Prop} {tr : TA} {ds : List PyData} (h : EvDs tr σ B H ds) (hr : ∀ H1 B1 vs, Ex H H1 → Ex B B1 → Ex B1 H1 → DaAll B1 vs ds → ∀ Q : VK, Ret d B1 H1 Q → r vs H1 Q) : EvD (tCB r tr) σ B H d :=
  fun H1 e eb Q q => h H1 e eb _ fun vs H2 B2 e2 x2 eb2 hds => hr H2 B2 vs (e.trans e2) x2.1 eb2 hds Q (q.grow e2 x2)
theorem evd_call {sp : Sp} {E : XK} {tr : TA} {ds : List PyData} (h : EvDs tr σ B H ds) (hr : ∀ H1 B1 vs, Ex H H1 → Ex B B1 → Ex B1 H1 → DaAll B1 vs ds → ∀ Q : VK, Ret d B1 H1 Q → sp vs H1 Q E) : EvD (tCall sp [] E tr) σ B H d :=
  fun H1 e eb Q q => h H1 e eb _ fun vs H2 B2 e2 x2 eb2 hds => by
    show sp (vs ++ []) H2 Q E
    rw [List.append_nil]
    exact hr H2 B2 vs (e.trans e2) x2.1 eb2 hds Q (q.grow e2 x2)
/-! subscripts, slices -/
theorem ixN_len {α β : Type} {xs : List α} {ys : List β} {i : Int} (h : xs.length = ys.length) : ixN xs.length i = ixN ys.length i := by rw [h]
theorem dpa_atI {vs : List V} {ds : List PyData} {i : Int} (h : DaAll B vs ds) (e : atI ds i = some d) : ∃ v, atI vs i = some v ∧ Da B v d := by
  unfold atI at e ⊢
  rw [dpa_len h]
  obtain ⟨j, e1, e2⟩ := Option.bind_eq_some_iff.mp e
  obtain ⟨v, e3, h3⟩ := dpa_at h e2
  exact ⟨v, by rw [e1]; exact e3, h3⟩
theorem evd_ixL {ds : List PyData} {i : Int} (ha : EvD ta σ B H (.list ds)) (hb : EvD tb σ B H (.int i)) (e : atI ds i = some d) : EvD (tOp (rIxL K) ta tb) σ B H d := fun H1 e1 eb Q q => ha H1 e1 eb _ fun v H2 B2 e2 x2 eb2 hd =>
  hb.flat (fun _ _ => dpi) (e1.trans e2) (eb.trans e2) fun H3 e3 => by
    obtain ⟨a, xs, rfl, hs, hx⟩ := dpl hd
    obtain ⟨z, hz, hdz⟩ := dpa_atI hx e
    exact ⟨a, xs, i, z, rfl, rfl, sq_of ((eb2.trans e3) _ _ hs), hz, q z H3 B2 (e2.trans e3) x2 (eb2.trans e3) hdz⟩
theorem evd_ixT {ds : List PyData} {i : Int} (ha : EvD ta σ B H (.tuple ds)) (hb : EvD tb σ B H (.int i)) (e : atI ds i = some d) : EvD (tOp (rIxT K) ta tb) σ B H d := fun H1 e1 eb Q q => ha H1 e1 eb _ fun v H2 B2 e2 x2 eb2 hd =>
  hb.flat (fun _ _ => dpi) (e1.trans e2) (eb.trans e2) fun H3 e3 => by
    obtain ⟨a, xs, rfl, hs, hx⟩ := dpt hd
    obtain ⟨z, hz, hdz⟩ := dpa_atI hx e
    exact ⟨a, xs, i, z, rfl, rfl, st_of ((eb2.trans e3) _ _ hs), hz, q z H3 B2 (e2.trans e3) x2 (eb2.trans e3) hdz⟩
theorem evd_ixS {z : Str} {i : Int} {c : Nat} (ha : EvD ta σ B H (.str z)) (hb : EvD tb σ B H (.int i)) (hl : z.length ≤ 100000 := by first | with_reducible assumption | omega) (e : atI z.cps.toList i = some c := by with_reducible assumption) : EvD (tOp rIxS ta tb) σ B H (.str ⟨#[c]⟩) :=
  evd_op2 ha (fun _ _ => dps) hb (fun _ _ => dpi) (fun _ _ q => ⟨z, i, c, rfl, rfl, sz_of hl, e, q⟩) fun _ => .str _
def EvO (to : TO) (σ : Sig) (B H : Hp) (o : Option Int) : Prop := ∀ H1, Ex H H1 → Ex B H1 → ∀ Q : Option Int → Hp → Prop, (∀ H2, Ex H1 H2 → Q o H2) → to σ H1 Q
theorem evo_none : EvO tNoPart σ B H none := fun H1 _ _ _ q => q H1 (Ex.refl H1)
theorem evo_some {i : Int} (h : EvD te σ B H (.int i)) : EvO (tPart te) σ B H (some i) := fun H1 e eb Q q => h.flat (fun _ _ => dpi) e eb fun H2 e2 => ⟨i, rfl, q H2 e2⟩
def cutD (xs : List PyData) (lo hi : Option Int) : List PyData := (xs.drop (HT.sIx xs.length 0 lo)).take (HT.sIx xs.length xs.length hi - HT.sIx xs.length 0 lo)
theorem dpa_cut {vs : List V} {ds : List PyData} {lo hi : Option Int} (h : DaAll B vs ds) : DaAll B (cutV vs lo hi) (cutD ds lo hi) := by
  unfold cutV cutD
  rw [dpa_len h]
  exact dpa_take (dpa_drop h)
variable {tl th : TO} {lo hi : Option Int}
theorem evd_slS {z : Str} (ha : EvD te σ B H (.str z)) (h1 : EvO tl σ B H lo) (h2 : EvO th σ B H hi) (hl : z.length ≤ 100000 := by first | with_reducible assumption | omega) : EvD (tSl rSlS te tl th) σ B H (.str (cutS z lo hi)) := fun H1 e eb Q q => ha.flat (fun _ _ => dps) e eb fun H2 e2 =>
  h1 H2 (e.trans e2) (eb.trans e2) _ fun H3 e3 => h2 H3 (e.trans (e2.trans e3)) (eb.trans (e2.trans e3)) _ fun H4 e4 => ⟨z, rfl, sz_of hl, q _ H4 B (e2.trans (e3.trans e4)) (Ext.refl B H1) (eb.trans (e2.trans (e3.trans e4))) (.str _)⟩
theorem evd_slL {ds : List PyData} (ha : EvD te σ B H (.list ds)) (h1 : EvO tl σ B H lo) (h2 : EvO th σ B H hi) : EvD (tSl (rSlL K) te tl th) σ B H (.list (cutD ds lo hi)) := fun H1 e eb Q q => ha H1 e eb _ fun v H2 B2 e2 x2 eb2 hd =>
  h1 H2 (e.trans e2) (eb.trans e2) _ fun H3 e3 => h2 H3 (e.trans (e2.trans e3)) (eb.trans (e2.trans e3)) _ fun H4 e4 => by
    obtain ⟨a, xs, rfl, hs, hx⟩ := dpl hd
    have eb4 : Ex B2 H4 := eb2.trans (e3.trans e4)
    have e4' : Ex H1 H4 := e2.trans (e3.trans e4)
    have x4 : Ext B H1 B2 := x2
    have n4 : ∀ p, H4 p = none → Ext B H1 (upd B2 p (.lst (cutV xs lo hi))) := fun p hp => x2.trans e4' (Ext.new eb4 hp)
    exact ⟨a, xs, rfl, sq_of (eb4 _ _ hs), fun p hp => q _ _ (upd B2 p (.lst (cutV xs lo hi))) (e4'.trans (Ex.new hp)) (n4 p hp) (ex_upd2 eb4) (.lst upd_same (dpAll_ex (Ex.new (fresh_back eb4 hp)) _ _ (dpa_cut hx)))⟩
theorem cutV_all {vs : List V} (h1 : HT.sIx vs.length 0 lo = 0) (h2 : HT.sIx vs.length vs.length hi = vs.length) : cutV vs lo hi = vs := by
  unfold cutV
  rw [h1, h2]
  simp
theorem evd_slT {ds : List PyData} (ha : EvD te σ B H (.tuple ds)) (h1 : EvO tl σ B H lo) (h2 : EvO th σ B H hi) : EvD (tSl (rSlA K) te tl th) σ B H (.tuple (cutD ds lo hi)) := fun H1 e eb Q q => ha H1 e eb _ fun v H2 B2 e2 x2 eb2 hd =>
  h1 H2 (e.trans e2) (eb.trans e2) _ fun H3 e3 => h2 H3 (e.trans (e2.trans e3)) (eb.trans (e2.trans e3)) _ fun H4 e4 => by
    obtain ⟨a, xs, rfl, hs, hx⟩ := dpt hd
    have eb4 : Ex B2 H4 := eb2.trans (e3.trans e4)
    have e4' : Ex H1 H4 := e2.trans (e3.trans e4)
    have hc := dpa_cut (lo := lo) (hi := hi) hx
    refine ⟨a, xs, rfl, st_of (eb4 _ _ hs), fun z => ?_, fun _ p hp => ?_⟩
    · rw [cutV_all z.1 z.2] at hc
      exact q _ H4 B2 e4' x2 eb4 (.tup hs hc)
    · exact q _ _ (upd B2 p (.tup (cutV xs lo hi))) (e4'.trans (Ex.new hp)) (x2.trans e4' (Ext.new eb4 hp)) (ex_upd2 eb4) (.tup upd_same (dpAll_ex (Ex.new (fresh_back eb4 hp)) _ _ hc))
theorem evd_revL {ds : List PyData} (ha : EvD te σ B H (.list ds)) : EvD (tRevL K te) σ B H (.list ds.reverse) := fun H1 e eb Q q => ha H1 e eb _ fun v H2 B2 e2 x2 eb2 hd => by
  obtain ⟨a, xs, rfl, hs, hx⟩ := dpl hd
  exact ⟨a, xs, rfl, sq_of (eb2 _ _ hs), fun p hp => q _ _ (upd B2 p (.lst xs.reverse)) (e2.trans (Ex.new hp)) (x2.trans e2 (Ext.new eb2 hp)) (ex_upd2 eb2) (.lst upd_same (dpAll_ex (Ex.new (fresh_back eb2 hp)) _ _ (dpa_rev hx)))⟩
/-! ### what is walked -/
/-- J gives ds, as long as what stands in B stands -/
def WkD (J : It) (ds : List PyData) (B : Hp) : Prop := ∃ (G : Hp → Prop) (Y : Nat → Hp → V → Hp → Prop), Walk J ds.length G Y ∧ (∀ H, Ex B H → G H) ∧
  ∀ i x H H', i < ds.length → Ex B H → Y i H x H' → Ex H H' ∧ ∀ d, ds[i]? = some d → ∃ B', Ext B H B' ∧ Ex B' H' ∧ Da B' x d
def SrcD (wi : TI) (σ : Sig) (B H : Hp) (ds : List PyData) : Prop := ∀ H1, Ex H H1 → Ex B H1 → ∀ R : It → Hp → Prop, (∀ J H2 B2, Ex H1 H2 → Ext B H1 B2 → Ex B2 H2 → WkD J ds B2 → R J H2) → wi σ H1 R
theorem wk_at {J : It} {xs : List V} {ds : List PyData} {G : Hp → Prop} (w : Walk J ds.length G (YAt xs)) (hg : ∀ H, Ex B H → G H) (hx : DaAll B xs ds) : WkD J ds B := ⟨G, _, w, hg, fun i x H H' hi eb y => by
  obtain ⟨rfl, y⟩ := y
  refine ⟨Ex.refl _, fun d hd => ?_⟩
  obtain ⟨d', e', h'⟩ := dpa_get hx y
  rw [hd] at e'
  cases e'
  exact ⟨B, Ext.refl _ _, eb, h'⟩⟩
theorem src_list {ds : List PyData} (h : EvD te σ B H (.list ds)) : SrcD (iList K te) σ B H ds := fun H1 e eb R q => h H1 e eb _ fun v H2 B2 e2 x2 eb2 hd => by
  obtain ⟨a, xs, rfl, hs, hx⟩ := dpl hd
  exact ⟨a, rfl, ⟨xs, sq_of (eb2 _ _ hs)⟩, q _ H2 B2 e2 x2 eb2 (wk_at (by rw [← dpa_len hx]; exact walk_list) (fun H3 e3 => sq_of (e3 _ _ hs)) hx)⟩
theorem src_tup {ds : List PyData} (h : EvD te σ B H (.tuple ds)) : SrcD (iTup K te) σ B H ds := fun H1 e eb R q => h H1 e eb _ fun v H2 B2 e2 x2 eb2 hd => by
  obtain ⟨a, xs, rfl, hs, hx⟩ := dpt hd
  exact ⟨a, rfl, ⟨xs, st_of (eb2 _ _ hs)⟩, q _ H2 B2 e2 x2 eb2 (wk_at (by rw [← dpa_len hx]; exact walk_tup) (fun H3 e3 => st_of (e3 _ _ hs)) hx)⟩
def rangeD (lo : Int) (n : Nat) : List PyData := (List.range n).map fun (i : Nat) => PyData.int (lo + (i : Int))
theorem rangeD_len (lo : Int) (n : Nat) : (rangeD lo n).length = n := by simp [rangeD]
theorem wk_range {lo : Int} {n : Nat} : WkD (Itr lo n) (rangeD lo n) B := ⟨_, _, by rw [rangeD_len]; exact walk_range, fun _ _ => trivial, fun i x H H' hi eb y => by
  obtain ⟨rfl, rfl⟩ := y
  rw [rangeD_len] at hi
  refine ⟨Ex.refl _, fun d hd => ⟨B, Ext.refl _ _, eb, ?_⟩⟩
  simp only [rangeD, List.getElem?_map, List.getElem?_range hi, Option.map_some, Option.some.injEq] at hd
  rw [← hd]
  exact .int _⟩
theorem src_range1 {tr : TA} {n : Int} (h : EvDs tr σ B H [.int n]) (hn : -1000000 ≤ n ∧ n ≤ 1000000 := by first | with_reducible assumption | (constructor <;> omega)) : SrcD (iRng1 tr) σ B H (rangeD 0 n.toNat) := fun H1 e eb R q => h H1 e eb _ fun vs H2 B2 e2 x2 eb2 hd => by
  obtain ⟨v, rfl, hv⟩ := dpa1 hd
  cases hv
  exact ⟨n, rfl, by have : (2:Int)^62 = 4611686018427387904 := by decide
                    omega, by have : (2:Int)^62 = 4611686018427387904 := by decide
                              omega, q _ H2 B2 e2 x2 eb2 wk_range⟩
theorem src_range2 {tr : TA} {m n : Int} (h : EvDs tr σ B H [.int m, .int n]) (hn : -1000000 ≤ m ∧ m ≤ 1000000 ∧ -1000000 ≤ n ∧ n ≤ 1000000 := by first | with_reducible assumption | (refine ⟨?_, ?_, ?_, ?_⟩ <;> omega)) : SrcD (iRng2 tr) σ B H (rangeD m (n - m).toNat) := fun H1 e eb R q => h H1 e eb _ fun vs H2 B2 e2 x2 eb2 hd => by
  obtain ⟨v, u, rfl, hv, hu⟩ := dpa2 hd
  cases hv
  cases hu
  have : (2:Int)^62 = 4611686018427387904 := by decide
  exact ⟨m, n, rfl, by omega, q _ H2 B2 e2 x2 eb2 wk_range⟩
def sign (c : Nat) : Str := ⟨#[c]⟩
def signsD (z : Str) : List PyData := z.cps.toList.map fun c => .str (sign c)
theorem src_str {z : Str} (h : EvD te σ B H (.str z)) : SrcD (iStr te) σ B H (signsD z) := fun H1 e eb R q => h.flat (fun _ _ => dps) e eb fun H2 e2 => ⟨z, rfl, q _ H2 B e2 (Ext.refl _ _) (eb.trans e2) ⟨_, _, by
    rw [show (signsD z).length = z.cps.size by simp [signsD]]
    exact walk_str, fun _ _ => trivial, fun i x H H' hi eb y => by
      obtain ⟨rfl, c, hc, rfl⟩ := y
      refine ⟨Ex.refl _, fun d hd => ⟨B, Ext.refl _ _, eb, ?_⟩⟩
      simp only [signsD, List.getElem?_map, Array.getElem?_toList, hc, Option.map_some, Option.some.injEq] at hd
      rw [← hd]
      exact .str _⟩⟩
theorem src_rev {tr : TA} {ds : List PyData} (h : EvDs tr σ B H [.list ds]) : SrcD (iRev K tr) σ B H ds.reverse := fun H1 e eb R q => h H1 e eb _ fun vs H2 B2 e2 x2 eb2 hd => by
  obtain ⟨v, rfl, hv⟩ := dpa1 hd
  obtain ⟨a, xs, rfl, hs, hx⟩ := dpl hv
  refine ⟨a, xs, rfl, sq_of (eb2 _ _ hs), q _ H2 B2 e2 x2 eb2 (wk_at (xs := xs.reverse) (G := fun H => SqL K H a xs) ?_ (fun H3 e3 => sq_of (e3 _ _ hs)) (dpa_rev hx))⟩
  rw [List.length_reverse, ← dpa_len hx]
  refine (walk_rev (xs := xs)).mono (fun _ g => g) fun i H x H' hi _ y => ⟨y.1, ?_⟩
  rw [List.getElem?_reverse hi]
  exact y.2
/-! ### comprehensions -/
theorem lc_take {α : Type} {ds : List α} {i : Nat} {d : α} (h : ds[i]? = some d) : ds.take (i + 1) = ds.take i ++ [d] := by
  rw [List.take_succ, h]; rfl
/-- [e for .. in .. if ..] over the things as, told by em: the target's reading g at an item gives slots in which the test and the element are known -/
theorem evd_lc {wi : TI} {g : TG} {vs : List Nat} {α : Type} {as : List α} (em : α → PyData) (c : α → Bool) (f : α → PyData) (hs : SrcD wi σ B H (as.map em)) (hl : as.length ≤ 40000)
    (ht : ∀ a ∈ as, ∀ x B1 H1, Ex B B1 → Ex H H1 → Ex B1 H1 → Da B1 x (em a) → ∀ R : Sig → Hp → Prop, (∀ σ2, wipe σ2 vs = wipe σ vs → EvB tt σ2 B1 H1 (c a) → (c a = true → EvD te σ2 B1 H1 (f a)) → R σ2 H1) → g x (wipe σ vs) H1 R) :
    EvD (tLc wi g tt te vs) σ B H (.list ((as.filter c).map f)) := fun H1 e eb Q q => hs H1 e eb _ fun J H2 B2 e2 x2 eb2 ⟨G, Y, w, hG, hY⟩ D hD => by
  have bD : B2 D = none := fresh_back eb2 hD
  refine lc_it w (fun i H3 => ∃ acc B3, Ex H2 H3 ∧ Ext B2 H2 B3 ∧ B3 D = none ∧ Ex B3 H3 ∧ H3 D = some (.lst acc) ∧ DaAll B3 acc (((as.take i).filter c).map f))
    ⟨[], B2, Ex.new hD, Ext.refl _ _, bD, Ex.mut eb2 bD, upd_same, .nil⟩ (fun i H3 _ ⟨_, B3, _, x3, _, eb3, _⟩ => hG H3 (x3.1.trans eb3)) ?_ ?_
  · rintro i x H3 H4 hi ⟨acc, B3, e3, x3, b3, eb3, hacc, hds⟩ y
    obtain ⟨e4, hd4⟩ := hY i x H3 H4 hi (x3.1.trans eb3) y
    rw [List.length_map] at hi
    obtain ⟨d, hd⟩ : ∃ d, as[i]? = some d := ⟨_, List.getElem?_eq_getElem hi⟩
    obtain ⟨B4, x4, eb4, hdx⟩ := hd4 (em d) (by rw [List.getElem?_map, hd]; rfl)
    have hmem : d ∈ as := List.mem_of_getElem? hd
    let B5 := uni B3 B4
    have eb34 : Ex B3 H4 := eb3.trans e4
    have eb5 : Ex B5 H4 := uni_ex eb34 eb4
    have b4D : B4 D = none := by rw [x4.2 D (by rw [hacc]; exact fun z => nomatch z), bD]
    have b5D : B5 D = none := by show uni B3 B4 D = none; unfold uni; rw [b3]; exact b4D
    have e42 : Ex B2 B5 := x3.1.trans uni_l
    have eH4 : Ex H2 H4 := e3.trans e4
    have x5 : Ext B2 H2 B5 := ⟨e42, fun p hp => by
      show uni B3 B4 p = B2 p
      unfold uni
      rw [x3.2 p hp]
      cases c2 : B2 p with
      | some o => rfl
      | none =>
        show B4 p = none
        rw [x4.2 p (by
          cases h2 : H2 p with
          | none => exact absurd h2 hp
          | some o => rw [e3 p o h2]; exact fun z => nomatch z), c2]⟩
    refine ht d hmem x B5 H4 (x2.1.trans e42) (e.trans (e2.trans eH4)) eb5 (hdx.ex' (uni_r eb34 eb4)) _ fun σ2 hw hb he => ⟨hw, ?_⟩
    refine hb H4 (Ex.refl _) eb5 _ fun H5 e5 => ?_
    have tk := lc_take hd
    cases hc : c d with
    | false =>
      rw [if_neg (by decide)]
      refine ⟨acc, B5, eH4.trans e5, x5, b5D, eb5.trans e5, e5 _ _ (e4 _ _ hacc), ?_⟩
      rw [tk, List.filter_append, List.map_append, show List.filter c [d] = [] by simp [hc], List.map_nil, List.append_nil]
      exact dpAll_ex uni_l _ _ hds
    | true =>
      rw [if_pos rfl]
      refine (he hc).mono (Ex.refl _) e5 H5 (Ex.refl _) (eb5.trans e5) _ fun y H6 B6 e6 x6 eb6 hdy => ?_
      have hacc6 : H6 D = some (.lst acc) := e6 _ _ (e5 _ _ (e4 _ _ hacc))
      have b6D : B6 D = none := by rw [x6.2 D (by rw [e5 _ _ (e4 _ _ hacc)]; exact fun z => nomatch z), b5D]
      have hds6 : DaAll B6 (acc ++ [y]) (((as.take (i + 1)).filter c).map f) := by
        rw [tk, List.filter_append, List.map_append, show List.filter c [d] = [d] by simp [hc]]
        exact dpa_app (dpAll_ex (uni_l.trans x6.1) _ _ hds) (.cons hdy .nil)
      refine ⟨acc, hacc6, ?_, acc ++ [y], B6, ?_, x5.trans (eH4.trans e5) x6, b6D, Ex.mut eb6 b6D, upd_same, hds6⟩
      · have := dpa_len hds
        rw [List.length_map] at this
        have l1 := List.length_filter_le c (as.take i)
        have l2 : (as.take i).length ≤ as.length := by rw [List.length_take]; omega
        exact sz_lt (by omega)
      · exact Ex.mut (eH4.trans (e5.trans e6)) hD
  · rintro H3 ⟨acc, B3, e3, x3, b3, eb3, hacc, hds⟩
    rw [List.length_map, List.take_length] at hds
    have x23 : Ext B H1 B3 := x2.trans e2 x3
    have eH : Ex H1 H3 := e2.trans e3
    have eU : Ex (upd B3 D (.lst acc)) H3 := fun a o h => by
      by_cases z : a = D
      · subst z; rw [upd_same] at h; cases h; exact hacc
      · rw [upd_ne z] at h; exact eb3 a o h
    refine q _ H3 (upd B3 D (.lst acc)) eH ⟨x23.1.trans (Ex.new b3), fun p hp => ?_⟩ eU (.lst upd_same (dpAll_ex (Ex.new b3) _ _ hds))
    rw [upd_ne fun z => ?_, x23.2 p hp]
    subst z
    cases h2 : H2 p with
    | none =>
      cases h1 : H1 p with
      | none => exact hp h1
      | some o => rw [e2 p o h1] at h2; cases h2
    | some o => rw [hD] at h2; cases h2
/-- one name, no test, over anything -/
theorem evd_lc1 {wi : TI} {j : Nat} {vs : List Nat} {α : Type} {as : List α} (em : α → PyData) (f : α → PyData) (hs : SrcD wi σ B H (as.map em)) (hl : as.length ≤ 40000) (hw : ∀ x, wipe ((wipe σ vs).set j (some x)) vs = wipe σ vs)
    (he : ∀ a ∈ as, ∀ x B1 H1, Ex B B1 → Ex H H1 → Ex B1 H1 → Da B1 x (em a) → EvD te ((wipe σ vs).set j (some x)) B1 H1 (f a)) : EvD (tLc wi (gName j) tYes te vs) σ B H (.list (as.map f)) := by
  have h := evd_lc (tt := tYes) (te := te) (g := gName j) em (fun _ => true) f hs hl fun a ha x B1 H1 eb eh e hx R k => k _ (hw x) evb_yes fun _ => he a ha x B1 H1 eb eh e hx
  rwa [List.filter_eq_self.mpr (fun _ _ => rfl)] at h
/-- .. over range(n) -/
theorem evd_lcR {tr : TA} {j : Nat} {vs : List Nat} {n : Int} (f : Nat → PyData) (hs : EvDs tr σ B H [.int n]) (hn : 0 ≤ n ∧ n ≤ 10000) (hw : ∀ x, wipe ((wipe σ vs).set j (some x)) vs = wipe σ vs)
    (he : ∀ i : Nat, (i : Int) < n → ∀ B1 H1, Ex B B1 → Ex H H1 → Ex B1 H1 → EvD te ((wipe σ vs).set j (some (.int (i : Int)))) B1 H1 (f i)) : EvD (tLc (iRng1 tr) (gName j) tYes te vs) σ B H (.list ((List.range n.toNat).map f)) := by
  have hsrc : SrcD (iRng1 tr) σ B H ((List.range n.toNat).map fun (i : Nat) => PyData.int (i : Int)) := by
    have := src_range1 hs (by omega)
    unfold rangeD at this
    simpa only [Int.zero_add] using this
  refine evd_lc1 (fun (i : Nat) => PyData.int (i : Int)) f hsrc (by rw [List.length_range]; omega) hw fun i hi x B1 H1 eb eh e hx => ?_
  cases hx
  exact he i (by rw [List.mem_range] at hi; omega) B1 H1 eb eh e
end
end GK

namespace GK
open PySem PySem.Spec PyProof.Rows L2
open Evl (Ex ex_l ex_t ex_rd sq_of st_of sz_of sz_lt fresh_back)
section
variable {K : PySem.W.Frag} {σ : Sig} {B B' H H' : Hp} {te ta tb tc : TE} {tt : TT} {d d1 d2 : PyData} {v : V} {D : Ends} {tx tz tu : TS} {i : Nat}
/-! ### statements -/
theorem q_asg (h : EvD te σ B H d) (eb : Ex B H) (k : ∀ v H1 B1, Ex H H1 → Ext B H B1 → Ex B1 H1 → Da B1 v d → tz D (σ.set i (some v)) H1) : tSeq (tAsg te (gName i)) tz D σ H := h.run eb k
theorem q_asgI {n : Int} (h : EvD te σ B H (.int n)) (eb : Ex B H) (k : ∀ H1, Ex H H1 → Ex B H1 → tz D (σ.set i (some (.int n))) H1) : tSeq (tAsg te (gName i)) tz D σ H := h.flat (fun _ _ => dpi) (Ex.refl _) eb fun H1 e => k H1 e (eb.trans e)
theorem q_asgS {x : Str} (h : EvD te σ B H (.str x)) (eb : Ex B H) (k : ∀ H1, Ex H H1 → Ex B H1 → tz D (σ.set i (some (.str x))) H1) : tSeq (tAsg te (gName i)) tz D σ H := h.flat (fun _ _ => dps) (Ex.refl _) eb fun H1 e => k H1 e (eb.trans e)
theorem q_asgB {b : Bool} (h : EvD te σ B H (.bool b)) (eb : Ex B H) (k : ∀ H1, Ex H H1 → Ex B H1 → tz D (σ.set i (some (.bl b))) H1) : tSeq (tAsg te (gName i)) tz D σ H := h.flat (fun _ _ => dpb) (Ex.refl _) eb fun H1 e => k H1 e (eb.trans e)
theorem q_asgN (h : EvD te σ B H .none) (eb : Ex B H) (k : ∀ H1, Ex H H1 → Ex B H1 → tz D (σ.set i (some .non)) H1) : tSeq (tAsg te (gName i)) tz D σ H := h.flat (fun _ _ => dpn) (Ex.refl _) eb fun H1 e => k H1 e (eb.trans e)
theorem s_asg (h : EvD te σ B H d) (eb : Ex B H) (k : ∀ v H1 B1, Ex H H1 → Ext B H B1 → Ex B1 H1 → Da B1 v d → D.nx (σ.set i (some v)) H1) : tAsg te (gName i) D σ H := h.run eb k
theorem s_asgI {n : Int} (h : EvD te σ B H (.int n)) (eb : Ex B H) (k : ∀ H1, Ex H H1 → Ex B H1 → D.nx (σ.set i (some (.int n))) H1) : tAsg te (gName i) D σ H := h.flat (fun _ _ => dpi) (Ex.refl _) eb fun H1 e => k H1 e (eb.trans e)
theorem s_asgS {x : Str} (h : EvD te σ B H (.str x)) (eb : Ex B H) (k : ∀ H1, Ex H H1 → Ex B H1 → D.nx (σ.set i (some (.str x))) H1) : tAsg te (gName i) D σ H := h.flat (fun _ _ => dps) (Ex.refl _) eb fun H1 e => k H1 e (eb.trans e)
theorem s_ret (h : EvD te σ B H d) (eb : Ex B H) (r : Ret d B H D.rt) : tRet te D σ H := h.run eb r
theorem q_drop (h : EvD te σ B H d) (eb : Ex B H) (k : ∀ H1 B1, Ex H H1 → Ext B H B1 → Ex B1 H1 → tz D σ H1) : tSeq (tDrop te) tz D σ H := h.run eb fun _ H1 B1 e x ex _ => k H1 B1 e x ex
theorem s_drop (h : EvD te σ B H d) (eb : Ex B H) (k : ∀ H1 B1, Ex H H1 → Ext B H B1 → Ex B1 H1 → D.nx σ H1) : tDrop te D σ H := h.run eb fun _ H1 B1 e x ex _ => k H1 B1 e x ex
theorem s_if {b : Bool} (h : EvB tt σ B H b) (eb : Ex B H) (h1 : b = true → ∀ H1, Ex H H1 → Ex B H1 → tx D σ H1) (h2 : b = false → ∀ H1, Ex H H1 → Ex B H1 → tu D σ H1) : tIfS tt tx tu D σ H := h H (Ex.refl _) eb _ fun H1 e => by
  cases b with
  | true => rw [if_pos rfl]; exact h1 rfl H1 e (eb.trans e)
  | false => rw [if_neg (by decide)]; exact h2 rfl H1 e (eb.trans e)
theorem q_if {b : Bool} (h : EvB tt σ B H b) (eb : Ex B H) (h1 : b = true → ∀ H1, Ex H H1 → Ex B H1 → tx { D with nx := tz D } σ H1) (h2 : b = false → ∀ H1, Ex H H1 → Ex B H1 → tu { D with nx := tz D } σ H1) : tSeq (tIfS tt tx tu) tz D σ H := s_if (D := { D with nx := tz D }) h eb h1 h2
theorem q_when {b : Bool} (h : EvB tt σ B H b) (eb : Ex B H) (h1 : b = true → ∀ H1, Ex H H1 → Ex B H1 → tx { D with nx := tz D } σ H1) (h2 : b = false → ∀ H1, Ex H H1 → Ex B H1 → tz D σ H1) : tSeq (tIfS tt tx tNext) tz D σ H := s_if (D := { D with nx := tz D }) h eb h1 h2
theorem s_when {b : Bool} (h : EvB tt σ B H b) (eb : Ex B H) (h1 : b = true → ∀ H1, Ex H H1 → Ex B H1 → tx D σ H1) (h2 : b = false → ∀ H1, Ex H H1 → Ex B H1 → D.nx σ H1) : tIfS tt tx tNext D σ H := s_if h eb h1 h2
/-- an if that is known not to be taken (the law's checks) -/
theorem q_pass (h : EvB tt σ B H false) (eb : Ex B H) (h2 : ∀ H1, Ex H H1 → Ex B H1 → tz D σ H1) : tSeq (tIfS tt tx tNext) tz D σ H := q_when h eb (fun z => nomatch z) fun _ => h2
theorem s_pass (h : EvB tt σ B H false) (eb : Ex B H) (h2 : ∀ H1, Ex H H1 → Ex B H1 → D.nx σ H1) : tIfS tt tx tNext D σ H := s_when h eb (fun z => nomatch z) fun _ => h2
/-- for: Pv over the turn, the slots, the heap; B1 the frame at the loop's start, with what is walked -/
theorem s_for {wi : TI} {g : TG} {ds : List PyData} (hs : SrcD wi σ B H ds) (eb : Ex B H) (Pv : Hp → Nat → Sig → Hp → Prop)
    (h0 : ∀ H1 B1, Ex H H1 → Ext B H B1 → Ex B1 H1 → Pv B1 0 σ H1) (hb : ∀ B1 i σ1 H1, i ≤ ds.length → Pv B1 i σ1 H1 → Ex B1 H1)
    (ht : ∀ B1 i d x σ1 H1 H2 B2, Ex B B1 → ds[i]? = some d → Pv B1 i σ1 H1 → Ex H1 H2 → Ext B1 H1 B2 → Ex B2 H2 → Da B2 x d → g x σ1 H2 fun σ2 H3 => tx { D with nx := Pv B1 (i + 1), ct := Pv B1 (i + 1), bk := D.nx } σ2 H3)
    (hd : ∀ B1 σ1 H1, Ex B B1 → Pv B1 ds.length σ1 H1 → D.nx σ1 H1) : tFor wi g tx D σ H := hs H (Ex.refl _) eb _ fun J H2 B2 e2 x2 eb2 ⟨G, Y, w, hG, hY⟩ => by
  refine for_it w (Pv B2) (h0 H2 B2 e2 x2 eb2) (fun i σ1 H1 hi p => hG H1 (hb B2 i σ1 H1 hi p)) (fun i x σ1 H1 H3 hi p y => ?_) (fun σ1 H1 p => hd B2 σ1 H1 x2.1 p)
  have eb1 := hb B2 i σ1 H1 (Nat.le_of_lt hi) p
  obtain ⟨e3, hd3⟩ := hY i x H1 H3 hi eb1 y
  obtain ⟨d, hdd⟩ : ∃ d, ds[i]? = some d := ⟨_, List.getElem?_eq_getElem hi⟩
  obtain ⟨B3, x3, eb3, hdx⟩ := hd3 d hdd
  exact ht B2 i d x σ1 H1 H3 B3 x2.1 hdd p e3 x3 eb3 hdx
theorem q_for {wi : TI} {g : TG} {ds : List PyData} (hs : SrcD wi σ B H ds) (eb : Ex B H) (Pv : Hp → Nat → Sig → Hp → Prop)
    (h0 : ∀ H1 B1, Ex H H1 → Ext B H B1 → Ex B1 H1 → Pv B1 0 σ H1) (hb : ∀ B1 i σ1 H1, i ≤ ds.length → Pv B1 i σ1 H1 → Ex B1 H1)
    (ht : ∀ B1 i d x σ1 H1 H2 B2, Ex B B1 → ds[i]? = some d → Pv B1 i σ1 H1 → Ex H1 H2 → Ext B1 H1 B2 → Ex B2 H2 → Da B2 x d → g x σ1 H2 fun σ2 H3 => tx { D with nx := Pv B1 (i + 1), ct := Pv B1 (i + 1), bk := tz D } σ2 H3)
    (hd : ∀ B1 σ1 H1, Ex B B1 → Pv B1 ds.length σ1 H1 → tz D σ1 H1) : tSeq (tFor wi g tx) tz D σ H := s_for (D := { D with nx := tz D }) hs eb Pv h0 hb ht hd
/-! ### built-ins -/
theorem retOf {Q : VK} {B H : Hp} (q : Ret d B H Q) (eb : Ex B H) (hd : Da B v d) : Q v H := q.at eb hd
def rLenStr : List V → Hp → VK → Prop := fun xs H Q => ∃ z, xs = [.str z] ∧ z.length ≤ sizeLine ∧ Q (.int z.length) H
theorem cr_lenStr {X : Cx} : CallR X (.builtin "len") rLenStr := call_len_str
def rLenSeq (K : PySem.W.Frag) : List V → Hp → VK → Prop := fun xs H Q => ∃ p ys, xs = [.ref p] ∧ (SqL K H p ys ∨ SqT K H p ys) ∧ Q (.int ys.length) H
theorem cr_lenSeq {X : Cx} : CallR X (.builtin "len") (rLenSeq X.K) := call_len_seq
def rLenDict : List V → Hp → VK → Prop := fun xs H Q => ∃ a kvs, xs = [V.ref a] ∧ H a = some (.dK kvs) ∧ Q (.int kvs.length) H
theorem cr_lenDict {X : Cx} : CallR X (.builtin "len") rLenDict := call_lenD
theorem evd_lenS {z : Str} (h : EvD ta σ B H (.str z)) (hl : z.length ≤ 1000000 := by first | with_reducible assumption | omega) : EvD (tCB rLenStr (tCons ta tNil)) σ B H (.int z.length) := evd_cb (evs_cons h evs_nil) fun H1 B1 vs _ _ eb hd Q q => by
  obtain ⟨v, rfl, hv⟩ := dpa1 hd
  cases hv
  exact ⟨z, rfl, Nat.le_trans hl (by decide), q.at eb (.int _)⟩
theorem evd_lenL {ds : List PyData} (h : EvD ta σ B H (.list ds)) : EvD (tCB (rLenSeq K) (tCons ta tNil)) σ B H (.int ds.length) := evd_cb (evs_cons h evs_nil) fun H1 B1 vs _ _ eb hd Q q => by
  obtain ⟨v, rfl, hv⟩ := dpa1 hd
  obtain ⟨a, xs, rfl, hs, hx⟩ := dpl hv
  exact ⟨a, xs, rfl, .inl (sq_of (eb _ _ hs)), by rw [dpa_len hx]; exact q.at eb (.int _)⟩
theorem evd_lenT {ds : List PyData} (h : EvD ta σ B H (.tuple ds)) : EvD (tCB (rLenSeq K) (tCons ta tNil)) σ B H (.int ds.length) := evd_cb (evs_cons h evs_nil) fun H1 B1 vs _ _ eb hd Q q => by
  obtain ⟨v, rfl, hv⟩ := dpa1 hd
  obtain ⟨a, xs, rfl, hs, hx⟩ := dpt hv
  exact ⟨a, xs, rfl, .inr (st_of (eb _ _ hs)), by rw [dpa_len hx]; exact q.at eb (.int _)⟩
def rStrInt : List V → Hp → VK → Prop := fun xs H Q => ∃ i, xs = [.int i] ∧ i.natAbs.log2 < 1920 ∧ Q (.str (toString i)) H
theorem cr_strInt {X : Cx} : CallR X (.type "str") rStrInt := call_str_int
theorem log2_small {i : Int} (h : -1000000000 ≤ i ∧ i ≤ 1000000000) : i.natAbs.log2 < 1920 := by
  have h1 : i.natAbs ≤ 1000000000 := by omega
  by_cases h0 : i.natAbs = 0
  · rw [h0]; decide
  · rw [Nat.log2_lt h0]
    exact Nat.lt_of_le_of_lt h1 (Nat.lt_of_lt_of_le (by decide : 1000000000 < 2 ^ 30) (Nat.pow_le_pow_right (by decide) (by decide)))
theorem evd_strI {n : Int} (h : EvD ta σ B H (.int n)) (hl : -1000000000 ≤ n ∧ n ≤ 1000000000 := by first | with_reducible assumption | (constructor <;> omega)) : EvD (tCB rStrInt (tCons ta tNil)) σ B H (.str (toString n)) := evd_cb (evs_cons h evs_nil) fun H1 B1 vs _ _ eb hd Q q => by
  obtain ⟨v, rfl, hv⟩ := dpa1 hd
  cases hv
  exact ⟨n, rfl, log2_small hl, q.at eb (.str _)⟩
def rOrd1 : List V → Hp → VK → Prop := fun xs H Q => ∃ x, xs = [.str x] ∧ x.length = 1 ∧ Q (.int (x.cps.getD 0 0 : Nat)) H
theorem cr_ord1 {X : Cx} : CallR X (.builtin "ord") rOrd1 := call_ord
theorem evd_ord {c : Nat} (h : EvD ta σ B H (.str (sign c))) : EvD (tCB rOrd1 (tCons ta tNil)) σ B H (.int c) := evd_cb (evs_cons h evs_nil) fun H1 B1 vs _ _ eb hd Q q => by
  obtain ⟨v, rfl, hv⟩ := dpa1 hd
  cases hv
  exact ⟨sign c, rfl, rfl, q.at eb (.int _)⟩
theorem evd_sum {ns : List Int} (h : EvD ta σ B H (.list (ns.map .int))) : EvD (tCB (rSum K) (tCons ta tNil)) σ B H (.int ns.sum) := evd_cb (evs_cons h evs_nil) fun H1 B1 vs _ _ eb hd Q q => by
  obtain ⟨v, rfl, hv⟩ := dpa1 hd
  obtain ⟨a, xs, rfl, hs, hx⟩ := dpl hv
  exact ⟨a, ns, rfl, by rw [← dpa_ints hx]; exact sq_of (eb _ _ hs), q.at eb (.int _)⟩
theorem evd_all {bs : List Bool} (h : EvD ta σ B H (.list (bs.map .bool))) : EvD (tCB (rAll K) (tCons ta tNil)) σ B H (.bool (bs.all id)) := evd_cb (evs_cons h evs_nil) fun H1 B1 vs _ _ eb hd Q q => by
  obtain ⟨v, rfl, hv⟩ := dpa1 hd
  obtain ⟨a, xs, rfl, hs, hx⟩ := dpl hv
  exact ⟨a, bs, rfl, by rw [← dpa_bools hx]; exact sq_of (eb _ _ hs), q.at eb (.bl _)⟩
theorem evd_any {bs : List Bool} (h : EvD ta σ B H (.list (bs.map .bool))) : EvD (tCB (rAny K) (tCons ta tNil)) σ B H (.bool (bs.any id)) := evd_cb (evs_cons h evs_nil) fun H1 B1 vs _ _ eb hd Q q => by
  obtain ⟨v, rfl, hv⟩ := dpa1 hd
  obtain ⟨a, xs, rfl, hs, hx⟩ := dpl hv
  exact ⟨a, bs, rfl, by rw [← dpa_bools hx]; exact sq_of (eb _ _ hs), q.at eb (.bl _)⟩
def rTupleOf (K : PySem.W.Frag) : List V → Hp → VK → Prop := fun xs H Q => ∃ p ys, xs = [.ref p] ∧ ((SqL K H p ys ∧ ∀ l, H l = none → Q (.ref l) (upd H l (.tup ys))) ∨ (SqT K H p ys ∧ Q (.ref p) H))
theorem cr_tupleOf {X : Cx} : CallR X (.type "tuple") (rTupleOf X.K) := call_tuple_of
theorem evd_tupleL {ds : List PyData} (h : EvD ta σ B H (.list ds)) : EvD (tCB (rTupleOf K) (tCons ta tNil)) σ B H (.tuple ds) := evd_cb (evs_cons h evs_nil) fun H1 B1 vs _ _ eb hd Q q => by
  obtain ⟨v, rfl, hv⟩ := dpa1 hd
  obtain ⟨a, xs, rfl, hs, hx⟩ := dpl hv
  exact ⟨a, xs, rfl, .inl ⟨sq_of (eb _ _ hs), fun p hp => q _ _ (upd B1 p (.tup xs)) (Ex.new hp) (Ext.new eb hp) (ex_upd2 eb) (.tup upd_same (dpAll_ex (Ex.new (fresh_back eb hp)) _ _ hx))⟩⟩
def rMaxI : List V → Hp → VK → Prop := fun xs H Q => ∃ i j, xs = [.int i, .int j] ∧ Q (.int (if j > i then j else i)) H
def rMinI : List V → Hp → VK → Prop := fun xs H Q => ∃ i j, xs = [.int i, .int j] ∧ Q (.int (if j < i then j else i)) H
theorem cr_maxI {X : Cx} (hc : X.calm = true) : CallR X (.builtin "max") rMaxI := call_max2 hc
theorem cr_minI {X : Cx} (hc : X.calm = true) : CallR X (.builtin "min") rMinI := call_min2 hc
theorem evd_max {i j : Int} (h : EvD ta σ B H (.int i)) (h' : EvD tb σ B H (.int j)) : EvD (tCB rMaxI (tCons ta (tCons tb tNil))) σ B H (.int (max i j)) := evd_cb (evs_cons h (evs_cons h' evs_nil)) fun H1 B1 vs _ _ eb hd Q q => by
  obtain ⟨v, u, rfl, hv, hu⟩ := dpa2 hd
  cases hv
  cases hu
  refine ⟨i, j, rfl, q.at eb ?_⟩
  rw [show (if j > i then j else i) = max i j by omega]
  exact .int _
theorem evd_min {i j : Int} (h : EvD ta σ B H (.int i)) (h' : EvD tb σ B H (.int j)) : EvD (tCB rMinI (tCons ta (tCons tb tNil))) σ B H (.int (min i j)) := evd_cb (evs_cons h (evs_cons h' evs_nil)) fun H1 B1 vs _ _ eb hd Q q => by
  obtain ⟨v, u, rfl, hv, hu⟩ := dpa2 hd
  cases hv
  cases hu
  refine ⟨i, j, rfl, q.at eb ?_⟩
  rw [show (if j < i then j else i) = min i j by omega]
  exact .int _
def rIntB : List V → Hp → VK → Prop := fun xs H Q => (∃ i, xs = [.int i] ∧ Q (.int i) H) ∨ ∃ k, xs = [.bl k] ∧ Q (.int (if k then 1 else 0)) H
theorem cr_intB {X : Cx} : CallR X (.type "int") rIntB := call_int1
theorem evd_intB {b : Bool} (h : EvD ta σ B H (.bool b)) : EvD (tCB rIntB (tCons ta tNil)) σ B H (.int (if b then 1 else 0)) := evd_cb (evs_cons h evs_nil) fun H1 B1 vs _ _ eb hd Q q => by
  obtain ⟨v, rfl, hv⟩ := dpa1 hd
  cases hv
  exact .inr ⟨b, rfl, q.at eb (.int _)⟩
/-! ### texts -/
abbrev RM := V → List V → Hp → VK → Prop
def rJoin (K : PySem.W.Frag) : RM := fun x xs H Q => ∃ a p, ∃ ys : List Str, x = .str a ∧ xs = [.ref p] ∧ (SqL K H p (ys.map V.str) ∨ SqT K H p (ys.map V.str)) ∧ (ys.map (·.length)).sum + ys.length * a.length ≤ 16777216 ∧ Q (.str (Txt.join a ys)) H
theorem mtr_join {X : Cx} : MtR X "str.join" (rJoin X.K) := mt_join
def rZfill : RM := fun x xs H Q => ∃ (a : Str) (i : Int), x = .str a ∧ xs = [.int i] ∧ PadOk i = true ∧ Q (.str (Txt.zfill a i)) H
theorem mtr_zfill {X : Cx} : MtR X "str.zfill" rZfill := mt_zfill
def rStarts : RM := fun x xs H Q => ∃ a b, x = .str a ∧ xs = [.str b] ∧ Q (.bl (Txt.startswith a b)) H
theorem mtr_starts {X : Cx} : MtR X "str.startswith" rStarts := mt_startswith
def rCount : RM := fun x xs H Q => ∃ a b, x = .str a ∧ xs = [.str b] ∧ Q (.int (Txt.count a b)) H
theorem mtr_count {X : Cx} : MtR X "str.count" rCount := mt_count
def rSplit : RM := fun x xs H Q => ∃ a b, x = .str a ∧ xs = [.str b] ∧ (b.length == 0) = false ∧ a.length + 2 ≤ sizeLine ∧ rNewStrs (Txt.split a b) H Q
theorem mtr_split {X : Cx} : MtR X "str.split" rSplit := mt_split
theorem evd_m1 {r : RM} {x : Str} (h : EvD ta σ B H (.str x)) (h' : EvD tb σ B H d1) (hr : ∀ H1 B1 v, Ex B1 H1 → Da B1 v d1 → ∀ Q : VK, Ret d B1 H1 Q → r (.str x) [v] H1 Q) : EvD (tM1 r ta tb) σ B H d := fun H1 e eb Q q => h.flat (fun _ _ => dps) e eb fun H2 e2 =>
  ⟨⟨x, rfl⟩, h'.mono (Ex.refl _) (e.trans e2) H2 (Ex.refl _) (eb.trans e2) _ fun v H3 B3 e3 x3 eb3 hd => hr H3 B3 v eb3 hd Q (q.grow (e2.trans e3) ⟨x3.1, fun p hp => x3.2 p (by
    cases h1 : H1 p with
    | none => exact absurd h1 hp
    | some o => rw [e2 p o h1]; exact fun z => nomatch z)⟩)⟩
theorem evd_join {x : Str} {ys : List Str} (h : EvD ta σ B H (.str x)) (h' : EvD tb σ B H (.list (ys.map .str))) (hl : (ys.map (·.length)).sum + ys.length * x.length ≤ 16777216) : EvD (tM1 (rJoin K) ta tb) σ B H (.str (Txt.join x ys)) :=
  evd_m1 h h' fun H1 B1 v eb hv Q q => by
    obtain ⟨a, xs, rfl, hs, hx⟩ := dpl hv
    exact ⟨x, a, ys, rfl, rfl, .inl (by rw [← dpa_strs hx]; exact sq_of (eb _ _ hs)), hl, q.at eb (.str _)⟩
theorem evd_joinT {x : Str} {ys : List Str} (h : EvD ta σ B H (.str x)) (h' : EvD tb σ B H (.tuple (ys.map .str))) (hl : (ys.map (·.length)).sum + ys.length * x.length ≤ 16777216) : EvD (tM1 (rJoin K) ta tb) σ B H (.str (Txt.join x ys)) :=
  evd_m1 h h' fun H1 B1 v eb hv Q q => by
    obtain ⟨a, xs, rfl, hs, hx⟩ := dpt hv
    exact ⟨x, a, ys, rfl, rfl, .inr (by rw [← dpa_strs hx]; exact st_of (eb _ _ hs)), hl, q.at eb (.str _)⟩
theorem evd_zfill {x : Str} {n : Int} (h : EvD ta σ B H (.str x)) (h' : EvD tb σ B H (.int n)) (hl : PadOk n = true := by rfl) : EvD (tM1 rZfill ta tb) σ B H (.str (Txt.zfill x n)) :=
  evd_m1 h h' fun H1 B1 v eb hv Q q => by cases hv; exact ⟨x, n, rfl, rfl, hl, q.at eb (.str _)⟩
theorem evd_starts {x y : Str} (h : EvD ta σ B H (.str x)) (h' : EvD tb σ B H (.str y)) : EvD (tM1 rStarts ta tb) σ B H (.bool (Txt.startswith x y)) :=
  evd_m1 h h' fun H1 B1 v eb hv Q q => by cases hv; exact ⟨x, y, rfl, rfl, q.at eb (.bl _)⟩
theorem evd_count {x y : Str} (h : EvD ta σ B H (.str x)) (h' : EvD tb σ B H (.str y)) : EvD (tM1 rCount ta tb) σ B H (.int (Txt.count x y)) :=
  evd_m1 h h' fun H1 B1 v eb hv Q q => by cases hv; exact ⟨x, y, rfl, rfl, q.at eb (.int _)⟩
theorem evd_split {x y : Str} (h : EvD ta σ B H (.str x)) (h' : EvD tb σ B H (.str y)) (hy : (y.length == 0) = false) (hl : x.length ≤ 100000) : EvD (tM1 rSplit ta tb) σ B H (.list ((Txt.split x y).map .str)) :=
  evd_m1 h h' fun H1 B1 v eb hv Q q => by
    cases hv
    exact ⟨x, y, rfl, rfl, hy, by have : (100002 : Nat) ≤ sizeLine := by decide
                                  omega, fun p hp => q _ _ (upd B1 p (.lst ((Txt.split x y).map V.str))) (Ex.new hp) (Ext.new eb hp) (ex_upd2 eb) (.lst upd_same (dpa_ofStrs _))⟩
def rInSign : R2 := fun x y H Q => ∃ (c : Nat) (z : Str), x = .str ⟨#[c]⟩ ∧ y = .str z ∧ Q (.bl (decide (c ∈ z.cps.toList))) H
def rNotInSign : R2 := fun x y H Q => ∃ (c : Nat) (z : Str), x = .str ⟨#[c]⟩ ∧ y = .str z ∧ Q (.bl (!decide (c ∈ z.cps.toList))) H
theorem opr_inSign {X : Cx} : OpR X (compareOp .In) rInSign := op_in_sign
theorem opr_notInSign {X : Cx} : OpR X (compareOp .NotIn) rNotInSign := op_notIn_sign
theorem evd_inSign {c : Nat} {z : Str} (ha : EvD ta σ B H (.str (sign c))) (hb : EvD tb σ B H (.str z)) : EvD (tOp rInSign ta tb) σ B H (.bool (decide (c ∈ z.cps.toList))) := evd_op2 ha (fun _ _ => dps) hb (fun _ _ => dps) (fun _ _ q => ⟨c, z, rfl, rfl, q⟩) fun _ => .bl _
theorem evd_notInSign {c : Nat} {z : Str} (ha : EvD ta σ B H (.str (sign c))) (hb : EvD tb σ B H (.str z)) : EvD (tOp rNotInSign ta tb) σ B H (.bool (!decide (c ∈ z.cps.toList))) := evd_op2 ha (fun _ _ => dps) hb (fun _ _ => dps) (fun _ _ q => ⟨c, z, rfl, rfl, q⟩) fun _ => .bl _
def rGtStr : R2 := fun x y H Q => ∃ i j, x = .str i ∧ y = .str j ∧ Q (.bl (decide (j.cps.toList < i.cps.toList))) H
theorem opr_gtStr {X : Cx} : OpR X (compareOp .Gt) rGtStr := op_gt_str
theorem evd_gtS {x y : Str} (ha : EvD ta σ B H (.str x)) (hb : EvD tb σ B H (.str y)) : EvD (tOp rGtStr ta tb) σ B H (.bool (decide (y.cps.toList < x.cps.toList))) := evd_op2 ha (fun _ _ => dps) hb (fun _ _ => dps) (fun _ _ q => ⟨x, y, rfl, rfl, q⟩) fun _ => .bl _
/-! ### lists, tuples joined; in; == -/
theorem evd_catL {ds es : List PyData} (ha : EvD ta σ B H (.list ds)) (hb : EvD tb σ B H (.list es)) (hl : ds.length + es.length ≤ 100000 := by first | exact Nat.le_of_ble_eq_true rfl | with_reducible assumption | omega) : EvD (tOp rCat ta tb) σ B H (.list (ds ++ es)) := fun H1 e eb Q q => ha H1 e eb _ fun v H2 B2 e2 x2 eb2 hd =>
  hb.mono x2.1 (e.trans e2) H2 (Ex.refl _) eb2 _ fun u H3 B3 e3 x3 eb3 hu => by
    obtain ⟨a, xs, rfl, hs, hx⟩ := dpl hd
    obtain ⟨b, ys, rfl, hs', hy⟩ := dpl hu
    refine ⟨a, b, xs, ys, rfl, rfl, eb3 _ _ (x3.1 _ _ hs), eb3 _ _ hs', by rw [dpa_len hx, dpa_len hy]; exact sz_of hl, fun p hp => ?_⟩
    exact q _ _ (upd B3 p (.lst (xs ++ ys))) (e2.trans (e3.trans (Ex.new hp))) (x2.trans e2 (x3.trans e3 (Ext.new eb3 hp))) (ex_upd2 eb3) (.lst upd_same (dpAll_ex (Ex.new (fresh_back eb3 hp)) _ _ (dpa_app (dpAll_ex x3.1 _ _ hx) hy)))
theorem evd_catT {ds es : List PyData} (ha : EvD ta σ B H (.tuple ds)) (hb : EvD tb σ B H (.tuple es)) (hl : ds.length + es.length ≤ 100000 := by first | exact Nat.le_of_ble_eq_true rfl | with_reducible assumption | omega) : EvD (tOp (rCatA K) ta tb) σ B H (.tuple (ds ++ es)) := fun H1 e eb Q q => ha H1 e eb _ fun v H2 B2 e2 x2 eb2 hd =>
  hb.mono x2.1 (e.trans e2) H2 (Ex.refl _) eb2 _ fun u H3 B3 e3 x3 eb3 hu => by
    obtain ⟨a, xs, rfl, hs, hx⟩ := dpt hd
    obtain ⟨b, ys, rfl, hs', hy⟩ := dpt hu
    have hx3 := dpAll_ex x3.1 _ _ hx
    have hc := dpa_app hx3 hy
    refine ⟨a, b, xs, ys, rfl, rfl, st_of ((x3.1.trans eb3) _ _ hs), st_of (eb3 _ _ hs'), by rw [dpa_len hx, dpa_len hy]; exact sz_of hl, fun z => ?_, fun _ z => ?_, fun _ _ p hp => ?_⟩
    · subst z
      exact q _ H3 B3 (e2.trans e3) (x2.trans e2 x3) eb3 (.tup hs' (by simpa using hc))
    · subst z
      exact q _ H3 B3 (e2.trans e3) (x2.trans e2 x3) eb3 (.tup (x3.1 _ _ hs) (by simpa using hc))
    · exact q _ _ (upd B3 p (.tup (xs ++ ys))) (e2.trans (e3.trans (Ex.new hp))) (x2.trans e2 (x3.trans e3 (Ext.new eb3 hp))) (ex_upd2 eb3) (.tup upd_same (dpAll_ex (Ex.new (fresh_back eb3 hp)) _ _ hc))
end
end GK

namespace GK
open PySem PySem.Spec PyProof.Rows L2
open Evl (Ex ex_l ex_t ex_rd sq_of st_of sz_of sz_lt fresh_back)
/-! ### defs, methods, makers: as a caller takes them -/
section
variable (P : Program) (w : World) (K : PySem.W.Frag) (mg : Str → Option Value) (base : Heap)
structure Clb (k : Nat) (x : Str) (sp : Sp) : Prop where
  ex : ∃ (f : Addr) (fd : FuncData) (ps : List Str), FnOk P w K mg base (L2.CX P w) k f fd ps sp ∧ mg x = some (.ref f) ∧ PySem.W.keepIn K (.ref f) = true ∧ Binds K fd ps []
structure Mtb (k : Nat) (C : Addr) (m : Str) (sp : Sp) : Prop where
  ex : ∃ (f : Addr) (fd : FuncData) (ps : List Str), Cls K C ∧ Meth K C m f ∧ FnOk P w K mg base (L2.CX P w) k f fd ps sp ∧ Binds K fd ps []
structure Mkb (k : Nat) (x : Str) (C : Addr) (sp : Sp) : Prop where
  ex : ∃ (f : Addr) (fd : FuncData) (ps : List Str), Mk K C f ∧ FnOk P w K mg base (L2.CX P w) k f fd ps sp ∧ mg x = some (.ref C) ∧ Binds K fd ps []
end
section
variable {X : Cx} {k j : Nat} {x m : Str} {sp : Sp} {E : XK} {e o : Expr} {es : List Expr} {t : TA} {ta : TE} {p pos apos : Pos} {C : Addr}
theorem pe_cl (c : Clb X.prog X.w X.K X.mg X.base k x sp) (hr : Room j X.A) (hk : k ≤ j) (hx : Passes (L2.CX X.prog X.w) X E) (ha : PA X (e :: es) t) (hg : Gl X x := by rfl)
    (hdb : (x == ("__debug__" : Str)) = false := by decide) (he : starEach (e :: es) X.env = (false, eval e X.env) :: starEach es X.env := by rfl) (hpl : (backTo pos (starEach es X.env)).any (·.1) = false := by rfl) :
    PE X (.Call (.Name x p) (e :: es) [] pos) (tCall sp [] E t) := by
  obtain ⟨f, fd, ps, F, hm, kp, b⟩ := c.ex
  exact pe_call F (hr.mono hk) hg hm kp b .nil hx ha hdb he hpl
theorem pe_cl0 (c : Clb X.prog X.w X.K X.mg X.base k x sp) (hr : Room j X.A) (hk : k ≤ j) (hx : Passes (L2.CX X.prog X.w) X E) (hg : Gl X x := by rfl)
    (hdb : (x == ("__debug__" : Str)) = false := by decide) : PE X (.Call (.Name x p) [] [] pos) (tCall sp [] E tNil) := by
  obtain ⟨f, fd, ps, F, hm, kp, b⟩ := c.ex
  exact pe_call0 F (hr.mono hk) hg hm kp b .nil hx hdb
theorem pe_mk (c : Mkb X.prog X.w X.K X.mg X.base k x C sp) (hr : Room j X.A) (hk : k + 1 ≤ j) (hx : Passes (L2.CX X.prog X.w) X E) (ha : PA X (e :: es) t) (hg : Gl X x := by rfl)
    (hdb : (x == ("__debug__" : Str)) = false := by decide) (he : starEach (e :: es) X.env = (false, eval e X.env) :: starEach es X.env := by rfl) (hpl : (backTo pos (starEach es X.env)).any (·.1) = false := by rfl) :
    PE X (.Call (.Name x p) (e :: es) [] pos) (tMake C sp [] E t) := by
  obtain ⟨f, fd, ps, M, F, hm, b⟩ := c.ex
  exact pe_make M F (hr.mono hk) hg hm b .nil hx ha hdb he hpl
theorem pe_mk0 (c : Mkb X.prog X.w X.K X.mg X.base k x C sp) (hr : Room j X.A) (hk : k + 1 ≤ j) (hx : Passes (L2.CX X.prog X.w) X E) (hg : Gl X x := by rfl)
    (hdb : (x == ("__debug__" : Str)) = false := by decide) : PE X (.Call (.Name x p) [] [] pos) (tMake C sp [] E tNil) := by
  obtain ⟨f, fd, ps, M, F, hm, b⟩ := c.ex
  exact pe_make0 M F (hr.mono hk) hg hm b .nil hx hdb
theorem pe_mt {pl : Sem Bool} (c : Mtb X.prog X.w X.K X.mg X.base k C m sp) (hr : Room j X.A) (hk : k ≤ j) (hx : Passes (L2.CX X.prog X.w) X E) (he : PE X o ta) (ha : PA X (e :: es) t)
    (hst : starEach (e :: es) X.env = (false, eval e X.env) :: starEach es X.env := by rfl) (hpl : (backTo pos (starEach es X.env)).any (·.1) = false := by rfl)
    (ht : eval (.Call (.Attribute o m apos) (e :: es) [] pos) X.env = (do
      let ov ← eval o X.env
      standAt apos.atName
      let (f, first) ← holding [ov] (getMethod ov m pl)
      callWith pos f first (backTo pos (starEach (e :: es) X.env)) (backToKw pos (keywordEach [] X.env))) := by rfl) :
    PE X (.Call (.Attribute o m apos) (e :: es) [] pos) (tMeth C m sp [] E ta t) := by
  obtain ⟨f, fd, ps, hc, hm, F, b⟩ := c.ex
  exact pe_meth (pl := pl) he hc hm F (hr.mono hk) b .nil hx ha hst hpl ht
theorem pe_mt0 {pl : Sem Bool} (c : Mtb X.prog X.w X.K X.mg X.base k C m sp) (hr : Room j X.A) (hk : k ≤ j) (hx : Passes (L2.CX X.prog X.w) X E) (he : PE X o ta)
    (ht : eval (.Call (.Attribute o m apos) [] [] pos) X.env = (do
      let ov ← eval o X.env
      standAt apos.atName
      let (f, first) ← holding [ov] (getMethod ov m pl)
      callWith pos f first (backTo pos (starEach [] X.env)) (backToKw pos (keywordEach [] X.env))) := by rfl) :
    PE X (.Call (.Attribute o m apos) [] [] pos) (tMeth C m sp [] E ta tNil) := by
  obtain ⟨f, fd, ps, hc, hm, F, b⟩ := c.ex
  exact pe_meth0 (pl := pl) he hc hm F (hr.mono hk) b .nil hx ht
/-- in a try's body -/
theorem pe_clS {E : L2.St → XK} (c : Clb X.prog X.w X.K X.mg X.base k x sp) (hr : Room j X.A) (hk : k ≤ j) (hx : ∀ σ, PassesAt (L2.CX X.prog X.w) X σ (E σ)) (ha : PA X (e :: es) t) (hg : Gl X x := by rfl)
    (hdb : (x == ("__debug__" : Str)) = false := by decide) (he : starEach (e :: es) X.env = (false, eval e X.env) :: starEach es X.env := by rfl) (hpl : (backTo pos (starEach es X.env)).any (·.1) = false := by rfl) :
    PE X (.Call (.Name x p) (e :: es) [] pos) (tCallS sp E t) := by
  obtain ⟨f, fd, ps, F, hm, kp, b⟩ := c.ex
  exact pe_callS F (hr.mono hk) hg hm kp b hx ha hdb he hpl
theorem pe_or {e : Expr} {t1 t2 : TE} (h1 : PE X e t1) (h2 : PE X e t2) : PE X e (fun σ H Q => t1 σ H Q ∨ t2 σ H Q) := ⟨fun pins s σ H Q I h => h.elim (h1.run pins s σ H Q I) (h2.run pins s σ H Q I)⟩
/-- a name of the module that holds a plain value -/
theorem pe_gl {v : V} (h : ∃ u, X.mg x = some u ∧ RelV v u) (hg : Gl X x := by rfl) (hdb : (x == ("__debug__" : Str)) = false := by decide) : PE X (.Name x pos) (tC v) := by
  obtain ⟨u, hm, r⟩ := h
  exact pe_glob hg hm r hdb
end
/-- a def of the text, as the head tells it -/
abbrev FnP (K : PySem.W.Frag) (x qual : Str) (st : Stmt) (f : Addr) (fd : FuncData) : Prop := FunD K x qual (defArgs st) (defBody st) (defScope st) [] [] f fd
/-- names that the module does not bind -/
structure Blt (mg : Str → Option Value) : Prop where
  len : mg "len" = none
  range : mg "range" = none
  sum : mg "sum" = none
  all_ : mg "all" = none
  any_ : mg "any" = none
  tuple : mg "tuple" = none
  list : mg "list" = none
  dict : mg "dict" = none
  set : mg "set" = none
  isinstance : mg "isinstance" = none
  ord : mg "ord" = none
  str : mg "str" = none
  int : mg "int" = none
  bool : mg "bool" = none
  min : mg "min" = none
  max : mg "max" = none
  sorted : mg "sorted" = none
  reversed : mg "reversed" = none
  zip : mg "zip" = none
  ValueError : mg "ValueError" = none
/-! ### the head: facts over written addresses, and one more test -/
abbrev AlB : Type := He.AlD × Bool
def SaysB (fa : List He.Fa) (fn : List He.DefD) (ex : PySem.W.Frag → Bool) (K : PySem.W.Frag) : Prop := He.SaysD fa fn K ∧ ex K = true
def hookA (as : List Addr) (fa : List He.Fa) (fn : List He.DefD) (ex : PySem.W.Frag → Bool) : PySem.W.Hook where
  α := AlB
  obs := fun s => (He.obsD fa fn (He.frG s.heap.get? as), ex (He.frG s.heap.get? as))
  val := fun _ => (He.valD fn, true)
  says := fun _ h => ∃ K : PySem.W.Frag, K.In h ∧ SaysB fa fn ex K
  of := fun _ _ e => ⟨_, He.frG_in, congrArg Prod.fst e, congrArg Prod.snd e⟩
  keeps := fun _ _ _ ⟨K, hK, c⟩ k => ⟨K, PySem.W.Frag.In.keeps hK k, c⟩
theorem hookA_eq {as : List Addr} {fa : List He.Fa} {fn : List He.DefD} {ex : PySem.W.Frag → Bool} {s : PySem.W.SharedT} : (He.obsD fa fn (He.frG (HandSHeadRun.getT s) as), ex (He.frG (HandSHeadRun.getT s) as)) = (hookA as fa fn ex).obs s.abs := by
  unfold hookA
  dsimp only
  rw [show HandSHeadRun.getT s = s.abs.heap.get? from funext (HandSHeadRun.getT_eq s)]
/-- whatever the world: the law's own end -/
def cxAny : CXT := fun outer H s E u s' => ∃ (P : Program) (w : World), L2.CX P w outer H s E u s'
theorem cxAny_no (H : Hp) (s : Shared) (e : Value) (s' : Shared) (h : cxAny [] H s (fun _ _ _ => False) e s') : False := by
  obtain ⟨_, _, _, _, _, _, _, _, _, _, _, _, _, _, z⟩ := h
  exact z
theorem cxAny_of {P : Program} {w : World} {K : PySem.W.Frag} {mg : Str → Option Value} {base : Heap} {k : Nat} {f : Addr} {fd : FuncData} {ps : List Str} {sp : Sp} (h : FnOk P w K mg base (L2.CX P w) k f fd ps sp) : FnOk P w K mg base cxAny k f fd ps sp :=
  ⟨h.len, fun A outer s H args us vs Q E r e b v z => codeAny_mono (h.run A outer s H args us vs Q E r e b v z) fun r s' hq => by
    match r with
    | .ok (.ret u) => exact hq
    | .ok .next => exact hq
    | .ok .brk => exact hq
    | .ok .cont => exact hq
    | .error e => exact ⟨P, w, hq⟩⟩
end GK

namespace GK
open PySem PySem.Spec PyProof.Rows L2
open Evl (Ex ex_l ex_t ex_rd sq_of st_of sz_of sz_lt fresh_back)
/-! ### built-in names -/
theorem bt_len : bootBuiltins "len" = some (.builtin "len") := by decide +kernel
theorem bt_sum : bootBuiltins "sum" = some (.builtin "sum") := by decide +kernel
theorem bt_all : bootBuiltins "all" = some (.builtin "all") := by decide +kernel
theorem bt_any : bootBuiltins "any" = some (.builtin "any") := by decide +kernel
theorem bt_isinstance : bootBuiltins "isinstance" = some (.builtin "isinstance") := by decide +kernel
theorem bt_ord : bootBuiltins "ord" = some (.builtin "ord") := by decide +kernel
theorem bt_min : bootBuiltins "min" = some (.builtin "min") := by decide +kernel
theorem bt_max : bootBuiltins "max" = some (.builtin "max") := by decide +kernel
theorem bt_sorted : bootBuiltins "sorted" = some (.builtin "sorted") := by decide +kernel
theorem bt_tuple : bootBuiltins "tuple" = some (.type "tuple") := by decide +kernel
theorem bt_list : bootBuiltins "list" = some (.type "list") := by decide +kernel
theorem bt_dict : bootBuiltins "dict" = some (.type "dict") := by decide +kernel
theorem bt_set : bootBuiltins "set" = some (.type "set") := by decide +kernel
theorem bt_str : bootBuiltins "str" = some (.type "str") := by decide +kernel
theorem bt_int : bootBuiltins "int" = some (.type "int") := by decide +kernel
theorem bt_bool : bootBuiltins "bool" = some (.type "bool") := by decide +kernel
section
variable {X : Cx} {K : PySem.W.Frag} {σ : Sig} {B B' H H' : Hp} {te ta tb tc : TE} {tt : TT} {d d1 d2 : PyData} {v : V}
/-! ### None -/
def rIsNone : R2 := fun x y H Q => y = .non ∧ Q (.bl (decide (x = .non))) H
def rNotNone : R2 := fun x y H Q => y = .non ∧ Q (.bl (!decide (x = .non))) H
theorem evd_opIsN (ha : EvD ta σ B H d) (hb : EvD tb σ B H .none) : EvD (tOp rIsNone ta tb) σ B H (.bool (isNone d)) := fun H1 e eb Q q => ha H1 e eb _ fun v H2 B2 e2 x2 eb2 hd => hb.flat (fun _ _ => dpn) (e.trans e2) (eb.trans e2) fun H3 e3 => by
  refine ⟨rfl, ?_⟩
  cases hd <;> exact q _ H3 B2 (e2.trans e3) x2 (eb2.trans e3) (.bl _)
theorem evd_opNotN (ha : EvD ta σ B H d) (hb : EvD tb σ B H .none) : EvD (tOp rNotNone ta tb) σ B H (.bool (!isNone d)) := fun H1 e eb Q q => ha H1 e eb _ fun v H2 B2 e2 x2 eb2 hd => hb.flat (fun _ _ => dpn) (e.trans e2) (eb.trans e2) fun H3 e3 => by
  refine ⟨rfl, ?_⟩
  cases hd <;> exact q _ H3 B2 (e2.trans e3) x2 (eb2.trans e3) (.bl _)
/-! ### truth -/
def tTruth (K : PySem.W.Frag) (ta : TE) : TT := fun σ H Q => ta σ H fun x H' => ∃ k, TruV K x H' k ∧ Q k H'
def truD : PyData → Bool
  | .none => false
  | .bool b => b
  | .int i => i != 0
  | .str x => (x.length : Int) != 0
  | .list ds => !ds.isEmpty
  | .tuple ds => !ds.isEmpty
  | .dict _ => false
theorem empty_da {vs : List V} {ds : List PyData} (h : DaAll B vs ds) : vs.isEmpty = ds.isEmpty := by
  cases h <;> rfl
theorem evb_tru (ha : EvD ta σ B H d) (hs : ∀ x, d = .str x → x.length ≤ 100000) : EvB (tTruth K ta) σ B H (truD d) := fun H1 e eb Q q => ha H1 e eb _ fun v H2 B2 e2 x2 eb2 hd => by
  cases hd with
  | non => exact ⟨_, rfl, q H2 e2⟩
  | bl b => exact ⟨_, rfl, q H2 e2⟩
  | int i => exact ⟨_, rfl, q H2 e2⟩
  | str x => exact ⟨_, ⟨sz_of (hs x rfl), rfl⟩, q H2 e2⟩
  | lst h hx => exact ⟨_, .inl ⟨_, sq_of (eb2 _ _ h), by rw [empty_da hx]; rfl⟩, q H2 e2⟩
  | tup h hx => exact ⟨_, .inr (.inl ⟨_, st_of (eb2 _ _ h), by rw [empty_da hx]; rfl⟩), q H2 e2⟩
/-! ### raise, try -/
structure Exn (K : PySem.W.Frag) (mg : Str → Option Value) (x : Str) : Prop where
  q : PySem.W.excIn K (He.ga K x) He.veBase "ValueError.__new__" = true
  g : mg x = some (.ref (He.ga K x))
  k : PySem.W.keepIn K (.ref (He.ga K x)) = true
  b : PySem.W.subIn K (.ref (He.ga K x)) (.type "BaseException") = some true
  t : PySem.W.typeIn K (.ref (He.ga K x)) = some (.type "type")
def tRs (C : Addr) (E : XK) : TS := fun _ _ H => E (.ref C) none H
theorem ps_rs {x m : Str} {j : Nat} {E : XK} {p p2 pos pos2 : Pos} (c : Exn X.K X.mg x) (tk : Takes X (fun cls d _ H => E cls d H)) (hc : X.calm = true := by rfl) (hg : Gl X x := by rfl) (hdb : (x == ("__debug__" : Str)) = false := by decide)
    (he : starEach [(.Constant (.str m) j p2 : Expr)] X.env = (false, eval (.Constant (.str m) j p2) X.env) :: starEach [] X.env := by rfl) (hpl : (backTo pos (starEach [] X.env)).any (·.1) = false := by rfl) :
    PS X (.Raise (some (.Call (.Name x p) [.Constant (.str m) j p2] [] pos)) none pos2) (tRs (He.ga X.K x) E) :=
  ps_raise hc tk (pmk_own PySem.F.excBase_ValueError c.q c.g c.k (raises_own c.b c.t) hg hdb)
def tTryAs (K : PySem.W.Frag) (c : Value) (i : Nat) (tb : WX → TS) (ts : Addr → Value → Option Addr → TS) : TS := fun D σ H => tb (wAs K c i ts (fun _ _ _ _ => False) D) D σ H
/-! ### texts times numbers -/
def rMulStr : R2 := fun x y H Q => ∃ z n, x = .str z ∧ y = .int n ∧ MulOk z n ∧ Q (.str (Txt.mul z n)) H
theorem op_mulStr : OpR X (binaryOp .Mult) rMulStr := by
  intro pins s σ H x y v u Q I rx ry h
  obtain ⟨i, j, rfl, rfl, hz, q⟩ := h
  obtain ⟨t, rfl⟩ := rx
  obtain ⟨t', rfl⟩ := ry
  exact SB.mul hz fun t' tk => ⟨.str _, H, I.tok _, ⟨_, rfl⟩, q⟩
theorem evd_mulS {z : Str} {n : Int} (ha : EvD ta σ B H (.str z)) (hb : EvD tb σ B H (.int n)) (hl : MulOk z n := by with_reducible assumption) : EvD (tOp rMulStr ta tb) σ B H (.str (Txt.mul z n)) := evd_op2 ha (fun _ _ => dps) hb (fun _ _ => dpi) (fun _ _ q => ⟨z, n, rfl, rfl, hl, q⟩) fun _ => .str _
/-! ### isinstance -/
def tyName : PyData → String
  | .none => "NoneType"
  | .bool _ => "bool"
  | .int _ => "int"
  | .str _ => "str"
  | .list _ => "list"
  | .tuple _ => "tuple"
  | .dict _ => "dict"
theorem tyx_da (h : Da B v d) (e : Ex B H) : TyX K H v (.type (tyName d)) := by
  cases h with
  | non => exact .base .non
  | bl b => exact .base (.bl b)
  | int i => exact .base (.int i)
  | str x => exact .base (.str x)
  | lst h _ => exact .base (.lst (e _ _ h))
  | tup h _ => exact .base (.tup (e _ _ h))
theorem evd_isi {T : String} {b : Bool} (ha : EvD ta σ B H d) (hk : kitB (tyName d) T = some b) : EvD (tCB (rIsi K) (tCons ta (tCons (tC (.ty T)) tNil))) σ B H (.bool b) := fun H1 e eb Q q => ha H1 e eb _ fun v H2 B2 e2 x2 eb2 hd =>
  ⟨v, .ty T, _, _, b, rfl, .ty T, tyx_da hd eb2, kit_ty hk, q _ H2 B2 e2 x2 eb2 (.bl _)⟩
theorem evd_isi2 {T U : String} {b : Bool} (ha : EvD ta σ B H d) (hk : PySem.W.kitAny K (.type (tyName d)) [.type T, .type U] = some b) : EvD (tCB (rIsiT K) (tCons ta (tCons (tTup (tCons (tC (.ty T)) (tCons (tC (.ty U)) tNil))) tNil))) σ B H (.bool b) := fun H1 e eb Q q => ha H1 e eb _ fun v H2 B2 e2 x2 eb2 hd =>
  ⟨(by show 2 ≤ sizeLine; decide), fun p hp => ⟨v, p, [.ty T, .ty U], _, [.type T, .type U], b, rfl, upd_same, .cons (.ty T) (.cons (.ty U) .nil), tyx_da hd (eb2.trans (Ex.new hp)), hk, q _ _ B2 (e2.trans (Ex.new hp)) x2 (eb2.trans (Ex.new hp)) (.bl _)⟩⟩
end
/-! ### errors of the program's own: what a suite asks of them -/
theorem bt_ValueError : bootBuiltins "ValueError" = some (.type "ValueError") := by decide +kernel
/-- isinstance(e, c) in the suite that holds e -/
def rIsX (K : PySem.W.Frag) (cls : Value) (d : Option Addr) (a : Addr) : List V → Hp → VK → Prop := fun xs H Q => ∃ D, cls = .ref D ∧ d = none ∧ ExcC K D ∧ rIsE K D a xs H Q
theorem call_isX {X : Cx} {a : Addr} {cls : Value} {d : Option Addr} {oe : Obj} {pn : List (Addr × Obj)} (hz : Zc cls d oe) (hf : ∃ vs, oe.data = .fields vs) : CallR (X.suite a ((a, oe) :: pn)) (.builtin "isinstance") (rIsX X.K cls d a) := by
  intro pins s σ H xs us Q I r h
  obtain ⟨D, rfl, rfl, C, h⟩ := h
  exact call_isE C hz hf pins s σ H xs us Q I r h
def eqOb (a b : Option Bool) : Bool := decide (a = b)
/-- the class x as the suites ask it -/
def excB (K : PySem.W.Frag) (x : Str) : Bool :=
  He.eqO (PySem.W.findIn K (.ref (He.ga K x)) "__getattribute__") (some (some (.builtin "BaseException.__getattribute__"))) && (He.eqO (PySem.W.findIn K (.ref (He.ga K x)) "__getattr__") (some none) &&
  (eqOb (PySem.W.subIn K (.ref (He.ga K x)) (.type "BaseException")) (some true) && (PySem.W.hasDictIn K (He.ga K x) && (He.eqO (PySem.W.findIn K (.ref (He.ga K x)) "__class__") (some (some (.builtin "object.__class__"))) &&
  (He.eqO (PySem.W.specialIn K (.builtin "object.__class__") "__get__") (some (some (.builtin "getset_descriptor.__get__"))) && (eqOb (PySem.W.takesIn K (.builtin "object.__class__")) (some true) && eqOb (PySem.W.mroIn K (He.ga K x) (.type "object")) (some true)))))))
theorem excB_ok {K : PySem.W.Frag} {x : Str} (h : excB K x = true) : ExcC K (He.ga K x) := by
  obtain ⟨a1, h⟩ := He.ba h
  obtain ⟨a2, h⟩ := He.ba h
  obtain ⟨a3, h⟩ := He.ba h
  obtain ⟨a4, h⟩ := He.ba h
  obtain ⟨a5, h⟩ := He.ba h
  obtain ⟨a6, h⟩ := He.ba h
  obtain ⟨a7, a8⟩ := He.ba h
  exact ⟨He.eqO_ok a1, He.eqO_ok a2, of_decide_eq_true a3, a4, He.eqO_ok a5, He.eqO_ok a6, of_decide_eq_true a7, of_decide_eq_true a8⟩
/-- all classes of the list: none below another, all below KeepError and ValueError -/
def excsB (xs : List Str) (K : PySem.W.Frag) : Bool := xs.all fun x => excB K x && (eqOb (PySem.W.exmOne K (.ref (He.ga K x)) (.ref (He.ga K "KeepError"))) (some true) && (eqOb (PySem.W.kitOne K (.ref (He.ga K x)) (.type "ValueError")) (some true) &&
  xs.all fun y => eqOb (PySem.W.kitOne K (.ref (He.ga K x)) (.ref (He.ga K y))) (some (decide (x = y)))))
structure Exs (xs : List Str) (K : PySem.W.Frag) : Prop where
  c : ∀ x ∈ xs, ExcC K (He.ga K x)
  m : ∀ x ∈ xs, PySem.W.exmOne K (.ref (He.ga K x)) (.ref (He.ga K "KeepError")) = some true
  v : ∀ x ∈ xs, PySem.W.kitOne K (.ref (He.ga K x)) (.type "ValueError") = some true
  k : ∀ x ∈ xs, ∀ y ∈ xs, PySem.W.kitOne K (.ref (He.ga K x)) (.ref (He.ga K y)) = some (decide (x = y))
theorem excsB_ok {xs : List Str} {K : PySem.W.Frag} (h : excsB xs K = true) : Exs xs K := by
  unfold excsB at h
  rw [List.all_eq_true] at h
  refine ⟨fun x hx => ?_, fun x hx => ?_, fun x hx => ?_, fun x hx y hy => ?_⟩
  · exact excB_ok (He.ba (h x hx)).1
  · exact of_decide_eq_true (He.ba (He.ba (h x hx)).2).1
  · exact of_decide_eq_true (He.ba (He.ba (He.ba (h x hx)).2).2).1
  · have := (He.ba (He.ba (He.ba (h x hx)).2).2).2
    rw [List.all_eq_true] at this
    exact of_decide_eq_true (this y hy)
/-! ### what a def tells that may raise -/
inductive Res where
  | ok (d : PyData)
  | no (c : Str)
def RetX (K : PySem.W.Frag) (r : Res) (B H : Hp) (Q : VK) (E : XK) : Prop := match r with
  | .ok d => Ret d B H Q
  | .no c => ∀ H', Ex H H' → E (.ref (He.ga K c)) none H'
theorem RetX.grow {K : PySem.W.Frag} {r : Res} {B H B1 H1 : Hp} {Q : VK} {E : XK} (h : RetX K r B H Q E) (e : Ex H H1) (x : Ext B H B1) : RetX K r B1 H1 Q E := by
  cases r with
  | ok d => exact Ret.grow h e x
  | no c => exact fun H' e' => h H' (e.trans e')
section
def rIntStr : List V → Hp → VK → Prop := fun xs H Q => ∃ a n, xs = [.str a] ∧ PySem.intText? a = some n ∧ a.length ≤ 640 ∧ Q (.int n) H
theorem cr_intStr {X : Cx} : CallR X (.type "int") rIntStr := call_int_str
end
end GK

namespace GK
open PySem PySem.Spec PyProof.Rows L2
open Evl (Ex ex_l ex_t ex_rd sq_of st_of sz_of sz_lt fresh_back)
/-! ### texts as lists of signs -/
abbrev tl (x : Str) : List Nat := x.cps.toList
def ofL (l : List Nat) : Str := ⟨l.toArray⟩
theorem ofL_tl (x : Str) : ofL (tl x) = x := by cases x; simp [ofL, tl]
theorem tl_ofL (l : List Nat) : tl (ofL l) = l := by simp [ofL, tl]
theorem str_ext {x y : Str} (h : tl x = tl y) : x = y := by rw [← ofL_tl x, ← ofL_tl y, h]
theorem len_tl (x : Str) : x.length = (tl x).length := by cases x; simp [tl, Str.length]
theorem len_ofL (l : List Nat) : (ofL l).length = l.length := by rw [len_tl, tl_ofL]
theorem tl_app (x y : Str) : tl (x ++ y) = tl x ++ tl y := by
  show (x.cps ++ y.cps).toList = _
  simp
theorem tl_join_nil (xs : List Str) : tl (Txt.join "" xs) = (xs.map tl).flatten := by
  cases xs with
  | nil => rfl
  | cons a r =>
    show ((r.foldl (fun acc p => acc ++ (Str.ofString "").cps ++ p.cps) a.cps).toList) = _
    have h : ∀ (r : List Str) (acc : Array Nat), (r.foldl (fun acc p => acc ++ (Str.ofString "").cps ++ p.cps) acc).toList = acc.toList ++ (r.map tl).flatten := by
      intro r
      induction r with
      | nil => intro acc; simp
      | cons b r ih =>
        intro acc
        rw [List.foldl_cons, ih]
        have : (Str.ofString "").cps = #[] := by decide +kernel
        simp [this, tl]
    rw [h r a.cps]
    simp
theorem tl_sign (c : Nat) : tl (sign c) = [c] := rfl
theorem join_signs (l : List Nat) : Txt.join "" (l.map sign) = ofL l := by
  apply str_ext
  rw [tl_join_nil, tl_ofL, List.map_map]
  induction l with
  | nil => rfl
  | cons a r ih => simp only [List.map_cons, List.flatten_cons, ih]; rfl
theorem tl_cut (z : Str) (lo hi : Option Int) : tl (cutS z lo hi) = ((tl z).drop (HT.sIx z.length 0 lo)).take (HT.sIx z.length z.length hi - HT.sIx z.length 0 lo) := by simp [cutS, tl]
/-! ### draws -/
def mix (c p m : Int) : Int := (c * 48271 % p) * (c * 48271 % p + 7) % p % m
theorem mix_nonneg {c p m : Int} (hm : 0 < m) : 0 ≤ mix c p m := Int.emod_nonneg _ (by omega)
theorem mix_lt {c p m : Int} (hm : 0 < m) : mix c p m < m := Int.emod_lt_of_pos _ hm
theorem mix_rng {c p m : Int} (hm : 0 < m) : 0 ≤ mix c p m ∧ mix c p m < m := ⟨mix_nonneg hm, mix_lt hm⟩
def cellN (ns : List Int) (k : Int) : Int := ns.getD k.toNat 0
def keySigns : Str := "abcdefghijklmnopqrstuvwxyz0123456789/-."
def dataSigns : Str := " !\"#$&'()*+,-./0123456789:;<=>?@ABCDEFGHIJKLMNOPQRSTUVWXYZ[\\]^_`abcdefghijklmnopqrstuvwxyz{|}~"
def keyTab : List Str := ["a", "a/b", "a/c", "a/b/c", "b", "/", "a-1", "a."]
def keyOne (c : Int) (k : Nat) : Nat := (tl keySigns).getD (mix (c + 7 * (k : Int)) 9949 39).toNat 0
def keyLen (c : Int) : Int := 1 + mix c 9967 20
def lawKey (c : Int) : Str := if c % 3 = 0 then keyTab.getD (mix c 9973 8).toNat "" else ofL ((List.range (keyLen c).toNat).map (keyOne c))
def dataOne (c : Int) (k : Nat) : Nat := (tl dataSigns).getD (mix (c + 5 * (k : Int)) 9923 94).toNat 0
def dataLen (c : Int) : Int := if mix c 9931 7 = 1 then mix c 9929 100 else if mix c 9931 7 = 0 then 99 else mix c 9941 9
def lawData (c : Int) : Str := ofL ((List.range (dataLen c).toNat).map (dataOne c))
theorem keySigns_len : (tl keySigns).length = 39 := by decide +kernel
theorem dataSigns_len : (tl dataSigns).length = 94 := by decide +kernel
theorem keyTab_ok : ∀ s ∈ keyTab, 1 ≤ s.length ∧ s.length ≤ 20 ∧ ∀ c ∈ tl s, c ∈ tl keySigns := by decide +kernel
theorem getD_mem {α : Type} {l : List α} {i : Nat} {a : α} (h : i < l.length) : l.getD i a ∈ l := by
  rw [List.getD_eq_getElem?_getD, List.getElem?_eq_getElem h]
  exact List.getElem_mem h
theorem keyOne_mem (c : Int) (k : Nat) : keyOne c k ∈ tl keySigns := getD_mem (by
  have := mix_rng (c := c + 7 * (k : Int)) (p := 9949) (m := 39) (by decide)
  rw [keySigns_len]; omega)
theorem dataOne_mem (c : Int) (k : Nat) : dataOne c k ∈ tl dataSigns := getD_mem (by
  have := mix_rng (c := c + 5 * (k : Int)) (p := 9923) (m := 94) (by decide)
  rw [dataSigns_len]; omega)
theorem keyLen_rng (c : Int) : 1 ≤ keyLen c ∧ keyLen c ≤ 20 := by
  have := mix_rng (c := c) (p := 9967) (m := 20) (by decide)
  unfold keyLen; omega
theorem lawKey_len (c : Int) : 1 ≤ (lawKey c).length ∧ (lawKey c).length ≤ 20 := by
  unfold lawKey
  split
  · have h := mix_rng (c := c) (p := 9973) (m := 8) (by decide)
    have h8 : keyTab.length = 8 := rfl
    have := keyTab_ok _ (getD_mem (l := keyTab) (i := (mix c 9973 8).toNat) (a := "") (by omega))
    exact ⟨this.1, this.2.1⟩
  · rw [len_ofL, List.length_map, List.length_range]
    have := keyLen_rng c
    omega
theorem lawKey_signs (c : Int) : ∀ z ∈ tl (lawKey c), z ∈ tl keySigns := by
  unfold lawKey
  split
  · have h := mix_rng (c := c) (p := 9973) (m := 8) (by decide)
    have h8 : keyTab.length = 8 := rfl
    exact (keyTab_ok _ (getD_mem (l := keyTab) (i := (mix c 9973 8).toNat) (a := "") (by omega))).2.2
  · rw [tl_ofL]
    intro z hz
    obtain ⟨k, _, rfl⟩ := List.mem_map.mp hz
    exact keyOne_mem c k
theorem dataLen_rng (c : Int) : 0 ≤ dataLen c ∧ dataLen c ≤ 99 := by
  have h1 := mix_rng (c := c) (p := 9929) (m := 100) (by decide)
  have h2 := mix_rng (c := c) (p := 9941) (m := 9) (by decide)
  unfold dataLen
  split
  · omega
  · split <;> omega
theorem lawData_len (c : Int) : (lawData c).length ≤ 99 := by
  have := dataLen_rng c
  unfold lawData
  rw [len_ofL, List.length_map, List.length_range]; omega
theorem lawData_signs (c : Int) : ∀ z ∈ tl (lawData c), z ∈ tl dataSigns := by
  unfold lawData
  rw [tl_ofL]
  intro z hz
  obtain ⟨k, _, rfl⟩ := List.mem_map.mp hz
  exact dataOne_mem c k
/-! ### sums -/
def sumStep (f : Int) (c : Nat) : Int := (31 * f + (c : Int) - 32) % 999983
def sumN (l : List Nat) : Int := l.foldl sumStep 0
theorem sumN_rng (l : List Nat) : 0 ≤ sumN l ∧ sumN l < 999983 := by
  unfold sumN
  suffices h : ∀ (l : List Nat) (f : Int), 0 ≤ f ∧ f < 999983 → 0 ≤ l.foldl sumStep f ∧ l.foldl sumStep f < 999983 from h l 0 (by decide)
  intro l
  induction l with
  | nil => intro f hf; exact hf
  | cons a r ih => intro f hf; exact ih _ (by unfold sumStep; omega)
/-- sum_of -/
def sumT (x : Str) : Str := Txt.zfill (toString (sumN (tl x))) 6
def sumsT (xs : List Str) : Str := sumT (Txt.join "" xs) ++ "-" ++ ((toString (xs.length : Int) : String) : Str)
end GK

namespace GK
open PySem PySem.Spec PyProof.Rows L2
open Evl (Ex ex_l ex_t ex_rd sq_of st_of sz_of sz_lt fresh_back)
/-! ### the script's cells -/
theorem atI_nat' {α : Type} {xs : List α} {i : Int} {v : α} (h0 : 0 ≤ i) (h : xs[i.toNat]? = some v) : atI xs i = some v := by
  unfold atI ixN
  have := (List.getElem?_eq_some_iff.mp h).1
  rw [if_pos h0, if_pos (by omega)]
  exact h
theorem atI_getD {α : Type} {xs : List α} {i : Int} {a : α} (h0 : 0 ≤ i) (h : i < xs.length) : atI xs i = some (xs.getD i.toNat a) := atI_nat' h0 (by
  rw [List.getD_eq_getElem?_getD, List.getElem?_eq_getElem (by omega)]; rfl)
def sp_law_cell (K : PySem.W.Frag) : Sp := fun vs H Q _ => ∃ (B : Hp) (a : Addr) (ns : List Int) (k : Int), Ex B H ∧ vs = [.ref a, .int k] ∧ SqL K H a (ns.map V.int) ∧ 0 ≤ k ∧ Ret (.int (cellN ns k)) B H Q
theorem len_law_cell {K : PySem.W.Frag} {vs : List V} {H : Hp} {Q : VK} {E : XK} (h : sp_law_cell K vs H Q E) : vs.length = 2 := by
  obtain ⟨_, _, _, _, _, rfl, _⟩ := h; rfl
def t_law_cell (K : PySem.W.Frag) (E : XK) : TS :=
  (tSeq (tIfS (tTest (tOp (rI0 fun i j => .bl (decide (i < j))) (tVar 1) (tCB (rLenSeq K) (tCons (tVar 0) tNil)))) (tRet (tOp (rIxL K) (tVar 0) (tVar 1))) tNext)
    (tRet (tC (.int 0))))
theorem pure_law_cell {K : PySem.W.Frag}  {vs : List V} {H : Hp} {Q : VK} {E : XK} (h : sp_law_cell K vs H Q E) : t_law_cell K E { nx := fun _ H' => Q .non H', rt := Q } (start ["script", "k"] vs) H := by
  obtain ⟨B, a, ns, k, eb, rfl, hS, hk, r⟩ := h
  refine ⟨_, rfl, _, rfl, a, _, rfl, .inl hS, _, _, rfl, rfl, _, rfl, ?_⟩
  refine ite2 (fun c => ?_) (fun c => ?_)
  · have c' : k < (ns.length : Int) := by simpa using c
    refine ⟨_, rfl, _, rfl, a, _, k, .int (cellN ns k), rfl, rfl, hS, ?_, r.at eb (.int _)⟩
    refine atI_nat' hk ?_
    rw [List.getElem?_map, List.getElem?_eq_getElem (by omega)]
    unfold cellN
    rw [List.getD_eq_getElem?_getD, List.getElem?_eq_getElem (by omega)]
    rfl
  · have c' : ¬ k < (ns.length : Int) := by simpa using c
    have e : cellN ns k = 0 := by
      unfold cellN
      rw [List.getD_eq_getElem?_getD, List.getElem?_eq_none (by omega)]
      rfl
    rw [e] at r
    exact r.at eb (.int _)
section
variable {K : PySem.W.Frag} {σ : Sig} {B H : Hp} {te ta tb tc : TE} {d : PyData} {E : XK}
theorem cev_law_cell {a : Addr} {ns : List Int} {k : Int} (ha : EvF ta σ H (.ref a)) (hk : EvD tb σ B H (.int k)) (hS : SqL K H a (ns.map V.int) := by with_reducible assumption) (h0 : 0 ≤ k := by first | with_reducible assumption | omega) :
    EvD (tCall (sp_law_cell K) [] E (tCons ta (tCons tb tNil))) σ B H (.int (cellN ns k)) := fun H1 e eb Q q => ha H1 e _ fun H2 e2 => hk.flat (fun _ _ => dpi) (e.trans e2) (eb.trans e2) fun H3 e3 =>
  ⟨B, a, ns, k, eb.trans (e2.trans e3), rfl, ex_l (e.trans (e2.trans e3)) hS, h0, q.grow (e2.trans e3) (Ext.refl _ _)⟩
end
/-! ### draws -/
def sp_law_mix (K : PySem.W.Frag) : Sp := fun vs H Q _ => ∃ (B : Hp) (c p m : Int), Ex B H ∧ vs = [.int c, .int p, .int m] ∧ 0 < p ∧ p < 1000000 ∧ 0 < m ∧ Ret (.int (mix c p m)) B H Q
theorem len_law_mix {K : PySem.W.Frag} {vs : List V} {H : Hp} {Q : VK} {E : XK} (h : sp_law_mix K vs H Q E) : vs.length = 3 := by
  obtain ⟨_, _, _, _, _, rfl, _⟩ := h; rfl
def t_law_mix (K : PySem.W.Frag) (E : XK) : TS :=
  (tSeq (tAsg (tOp (rI (fun _ j => 0 < j) fun i j => .int (i % j)) (tOp (rI CMul fun i j => .int (i * j)) (tVar 0) (tC (.int 48271))) (tVar 1)) (gName 3))
    (tRet (tOp (rI (fun _ j => 0 < j) fun i j => .int (i % j)) (tOp (rI (fun _ j => 0 < j) fun i j => .int (i % j)) (tOp (rI CMul fun i j => .int (i * j)) (tVar 3) (tOp (rI0 fun i j => .int (i + j)) (tVar 3) (tC (.int 7)))) (tVar 1)) (tVar 2))))
theorem pure_law_mix {K : PySem.W.Frag}  {vs : List V} {H : Hp} {Q : VK} {E : XK} (h : sp_law_mix K vs H Q E) : t_law_mix K E { nx := fun _ H' => Q .non H', rt := Q } (start ["cell", "prime", "many", "blend"] vs) H := by
  obtain ⟨B, c, p, m, eb, rfl, hp, hp2, hm, r⟩ := h
  have h1 := Int.emod_nonneg (c * 48271) (b := p) (by omega)
  have h2 := Int.emod_lt_of_pos (c * 48271) hp
  refine q_asgI (B := B) (evd_mod (evd_mul (evd_varI rfl) evd_ci) (evd_varI rfl)) eb fun H1 e1 eb1 => ?_
  exact s_ret (evd_mod (evd_mod (evd_mul (evd_varI rfl) (evd_I0 (evd_varI rfl) evd_ci)) (evd_varI rfl)) (evd_varI rfl)) eb1 (r.grow e1 (Ext.refl _ _))
section
variable {K : PySem.W.Frag} {σ : Sig} {B H : Hp} {te ta tb tc : TE} {d : PyData} {E : XK}
theorem cev_law_mix {c p m : Int} (ha : EvD ta σ B H (.int c)) (hb : EvD tb σ B H (.int p)) (hc : EvD tc σ B H (.int m)) (hp : 0 < p ∧ p < 1000000 := by first | with_reducible assumption | decide | omega) (hm : 0 < m := by first | with_reducible assumption | decide | omega) :
    EvD (tCall (sp_law_mix K) [] E (tCons ta (tCons tb (tCons tc tNil)))) σ B H (.int (mix c p m)) := evd_call (evs_cons ha (evs_cons hb (evs_cons hc evs_nil))) fun H1 B1 vs _ _ eb hd Q q => by
  obtain ⟨v, u, w, rfl, hv, hu, hw⟩ := dpa3 hd
  cases hv
  cases hu
  cases hw
  exact ⟨B1, c, p, m, eb, rfl, hp.1, hp.2, hm, q⟩
end
/-! ### _law_key -/
def sp_law_key (K : PySem.W.Frag) : Sp := fun vs H Q _ => ∃ (B : Hp) (c : Int), Ex B H ∧ vs = [.int c] ∧ Ret (.str (lawKey c)) B H Q
theorem len_law_key {K : PySem.W.Frag} {vs : List V} {H : Hp} {Q : VK} {E : XK} (h : sp_law_key K vs H Q E) : vs.length = 1 := by
  obtain ⟨_, _, _, rfl, _⟩ := h; rfl
theorem sum_signs (l : List Nat) : ((l.map sign).map (·.length)).sum = l.length := by
  induction l with
  | nil => rfl
  | cons a r ih =>
    rw [List.map_cons, List.map_cons, List.sum_cons, ih, List.length_cons]
    show 1 + r.length = _
    omega
theorem join_signs_ok {l : List Nat} (h : l.length ≤ 100000) : ((l.map sign).map (·.length)).sum + (l.map sign).length * ("" : Str).length ≤ 16777216 := by
  rw [sum_signs]
  show _ + _ * 0 ≤ _
  omega
def t_law_key (K : PySem.W.Frag) (E : XK) : TS :=
  (tSeq (tAsg (tC (.str "abcdefghijklmnopqrstuvwxyz0123456789/-.")) (gName 1))
    (tSeq (tIfS (tTest (tOp rEq (tOp (rI (fun _ j => 0 < j) fun i j => .int (i % j)) (tVar 0) (tC (.int 3))) (tC (.int 0)))) (tRet (tOp (rIxT K) (tTup (tCons (tC (.str "a")) (tCons (tC (.str "a/b")) (tCons (tC (.str "a/c")) (tCons (tC (.str "a/b/c")) (tCons (tC (.str "b")) (tCons (tC (.str "/")) (tCons (tC (.str "a-1")) (tCons (tC (.str "a.")) tNil))))))))) (tCall (sp_law_mix K) [] E0 (tCons (tVar 0) (tCons (tC (.int 9973)) (tCons (tC (.int 8)) tNil)))))) tNext)
    (tSeq (tAsg (tOp (rI0 fun i j => .int (i + j)) (tC (.int 1)) (tCall (sp_law_mix K) [] E0 (tCons (tVar 0) (tCons (tC (.int 9967)) (tCons (tC (.int 20)) tNil))))) (gName 2))
    (tRet (tM1 (rJoin K) (tC (.str "")) (tLc (iRng1 (tCons (tVar 2) tNil)) (gName 3) tYes (tOp rIxS (tVar 1) (tCall (sp_law_mix K) [] E0 (tCons (tOp (rI0 fun i j => .int (i + j)) (tVar 0) (tOp (rI CMul fun i j => .int (i * j)) (tC (.int 7)) (tVar 3))) (tCons (tC (.int 9949)) (tCons (tC (.int 39)) tNil))))) [3]))))))
theorem pure_law_key {K : PySem.W.Frag}  {vs : List V} {H : Hp} {Q : VK} {E : XK} (h : sp_law_key K vs H Q E) : t_law_key K E { nx := fun _ H' => Q .non H', rt := Q } (start ["cell", "signs", "many", "k"] vs) H := by
  obtain ⟨B, c, eb, rfl, r⟩ := h
  refine q_asgS (B := B) evd_cs eb fun H1 e1 eb1 => ?_
  have r1 := r.grow e1 (Ext.refl _ _)
  refine q_when (B := B) (evb_test (evd_eqI (evd_mod (evd_varI rfl) evd_ci) evd_ci)) eb1 (fun hb H2 e2 eb2 => ?_) (fun hb H2 e2 eb2 => ?_)
  · have hc : c % 3 = 0 := of_decide_eq_true hb
    have hm := mix_rng (c := c) (p := 9973) (m := 8) (by decide)
    have r2 := r1.grow e2 (Ext.refl _ _)
    unfold lawKey at r2
    rw [if_pos hc] at r2
    refine s_ret (evd_ixT (ds := keyTab.map .str) (evd_tup (evs_cons evd_cs (evs_cons evd_cs (evs_cons evd_cs (evs_cons evd_cs (evs_cons evd_cs (evs_cons evd_cs (evs_cons evd_cs (evs_cons evd_cs evs_nil))))))))) (cev_law_mix (evd_varI rfl) evd_ci evd_ci) ?_) eb2 r2
    refine atI_nat' hm.1 ?_
    rw [List.getElem?_map, List.getD_eq_getElem?_getD, List.getElem?_eq_getElem (show (mix c 9973 8).toNat < keyTab.length by show _ < 8; omega)]
    rfl
  · have hc : ¬ c % 3 = 0 := of_decide_eq_false hb
    have r2 := r1.grow e2 (Ext.refl _ _)
    unfold lawKey at r2
    rw [if_neg hc] at r2
    have hl := keyLen_rng c
    refine q_asgI (B := B) (n := keyLen c) (evd_I0 evd_ci (cev_law_mix (evd_varI rfl) evd_ci evd_ci)) eb2 fun H3 e3 eb3 => ?_
    refine s_ret (B := B) (d := .str (ofL ((List.range (keyLen c).toNat).map (keyOne c)))) ?_ eb3 (r2.grow e3 (Ext.refl _ _))
    rw [← join_signs]
    refine evd_join evd_cs ?_ (join_signs_ok (by rw [List.length_map, List.length_range]; omega))
    rw [List.map_map, List.map_map]
    refine evd_lcR _ (evs_cons (evd_varI rfl) evs_nil) ⟨by omega, by omega⟩ (fun x => rfl) fun i hi B1 H1 eb' eh' e' => ?_
    have hm := mix_rng (c := c + 7 * (i : Int)) (p := 9949) (m := 39) (by decide)
    refine evd_ixS (z := keySigns) (evd_varS rfl) (cev_law_mix (evd_I0 (evd_varI rfl) (evd_mul evd_ci (evd_varI rfl))) evd_ci evd_ci) (by decide +kernel) ?_
    exact atI_getD hm.1 (by rw [keySigns_len]; omega)
section
variable {K : PySem.W.Frag} {σ : Sig} {B H : Hp} {te ta tb tc : TE} {d : PyData} {E : XK}
theorem cev_law_key {c : Int} (ha : EvD ta σ B H (.int c)) : EvD (tCall (sp_law_key K) [] E (tCons ta tNil)) σ B H (.str (lawKey c)) := evd_call (evs_cons ha evs_nil) fun H1 B1 vs _ _ eb hd Q q => by
  obtain ⟨v, rfl, hv⟩ := dpa1 hd
  cases hv
  exact ⟨B1, c, eb, rfl, q⟩
end
/-! ### _law_data -/
def sp_law_data (K : PySem.W.Frag) : Sp := fun vs H Q _ => ∃ (B : Hp) (c : Int), Ex B H ∧ vs = [.int c] ∧ Ret (.str (lawData c)) B H Q
theorem len_law_data {K : PySem.W.Frag} {vs : List V} {H : Hp} {Q : VK} {E : XK} (h : sp_law_data K vs H Q E) : vs.length = 1 := by
  obtain ⟨_, _, _, rfl, _⟩ := h; rfl
theorem dataSigns_len' : dataSigns.length = 94 := by decide +kernel
def t_law_data (K : PySem.W.Frag) (E : XK) : TS :=
  (tSeq (tAsg (tC (.str " !\"#$&'()*+,-./0123456789:;<=>?@ABCDEFGHIJKLMNOPQRSTUVWXYZ[\\]^_`abcdefghijklmnopqrstuvwxyz{|}~")) (gName 1))
    (tSeq (tAsg (tCall (sp_law_mix K) [] E0 (tCons (tVar 0) (tCons (tC (.int 9941)) (tCons (tC (.int 9)) tNil)))) (gName 2))
    (tSeq (tIfS (tTest (tOp rEq (tCall (sp_law_mix K) [] E0 (tCons (tVar 0) (tCons (tC (.int 9931)) (tCons (tC (.int 7)) tNil)))) (tC (.int 0)))) (tAsg (tC (.int 99)) (gName 2)) tNext)
    (tSeq (tIfS (tTest (tOp rEq (tCall (sp_law_mix K) [] E0 (tCons (tVar 0) (tCons (tC (.int 9931)) (tCons (tC (.int 7)) tNil)))) (tC (.int 1)))) (tAsg (tCall (sp_law_mix K) [] E0 (tCons (tVar 0) (tCons (tC (.int 9929)) (tCons (tC (.int 100)) tNil)))) (gName 2)) tNext)
    (tRet (tM1 (rJoin K) (tC (.str "")) (tLc (iRng1 (tCons (tVar 2) tNil)) (gName 3) tYes (tOp rIxS (tVar 1) (tCall (sp_law_mix K) [] E0 (tCons (tOp (rI0 fun i j => .int (i + j)) (tVar 0) (tOp (rI CMul fun i j => .int (i * j)) (tC (.int 5)) (tVar 3))) (tCons (tC (.int 9923)) (tCons (tCB rLenStr (tCons (tVar 1) tNil)) tNil))))) [3])))))))
theorem data_end {K : PySem.W.Frag} {c n : Int} {B H : Hp} {Q : VK} (hn : n = dataLen c) (eb : Ex B H) (r : Ret (.str (lawData c)) B H Q) :
    tRet (tM1 (rJoin K) (tC (.str "")) (tLc (iRng1 (tCons (tVar 2) tNil)) (gName 3) tYes (tOp rIxS (tVar 1) (tCall (sp_law_mix K) [] E0 (tCons (tOp (rI0 fun i j => .int (i + j)) (tVar 0) (tOp (rI CMul fun i j => .int (i * j)) (tC (.int 5)) (tVar 3))) (tCons (tC (.int 9923)) (tCons (tCB rLenStr (tCons (tVar 1) tNil)) tNil))))) [3])) { nx := fun _ H' => Q .non H', rt := Q } [some (.int c), some (.str dataSigns), some (.int n), none] H := by
  subst hn
  have hl := dataLen_rng c
  refine s_ret (B := B) (d := .str (lawData c)) ?_ eb r
  unfold lawData
  rw [← join_signs]
  refine evd_join evd_cs ?_ (join_signs_ok (by rw [List.length_map, List.length_range]; omega))
  rw [List.map_map, List.map_map]
  refine evd_lcR _ (evs_cons (evd_varI rfl) evs_nil) ⟨by omega, by omega⟩ (fun x => rfl) fun i hi B1 H1 eb' eh' e' => ?_
  have hm := mix_rng (c := c + 5 * (i : Int)) (p := 9923) (m := 94) (by decide)
  have hz : dataSigns.length = 94 := dataSigns_len'
  refine evd_ixS (z := dataSigns) (evd_varS rfl) (i := mix (c + 5 * (i : Int)) 9923 94) ?_ (by decide +kernel) (atI_getD hm.1 (by rw [dataSigns_len]; omega))
  refine cev_law_mix (evd_I0 (evd_varI rfl) (evd_mul evd_ci (evd_varI rfl))) evd_ci (m := 94) ?_
  refine EvD.is (evd_lenS (z := dataSigns) (evd_varS rfl) (by rw [hz]; decide)) ?_
  rw [hz]; rfl
theorem pure_law_data {K : PySem.W.Frag}  {vs : List V} {H : Hp} {Q : VK} {E : XK} (h : sp_law_data K vs H Q E) : t_law_data K E { nx := fun _ H' => Q .non H', rt := Q } (start ["cell", "signs", "many", "k"] vs) H := by
  obtain ⟨B, c, eb, rfl, r⟩ := h
  refine q_asgS (B := B) (x := dataSigns) evd_cs eb fun H1 e1 eb1 => ?_
  refine q_asgI (B := B) (cev_law_mix (evd_varI rfl) evd_ci evd_ci) eb1 fun H2 e2 eb2 => ?_
  have r2 := (r.grow e1 (Ext.refl _ _)).grow e2 (Ext.refl _ _)
  refine q_when (B := B) (evb_test (evd_eqI (cev_law_mix (evd_varI rfl) evd_ci evd_ci) evd_ci)) eb2 (fun hb H3 e3 eb3 => ?_) (fun hb H3 e3 eb3 => ?_)
  · have hb' : mix c 9931 7 = 0 := of_decide_eq_true hb
    refine s_asgI (B := B) evd_ci eb3 fun H4 e4 eb4 => ?_
    refine q_when (B := B) (evb_test (evd_eqI (cev_law_mix (evd_varI rfl) evd_ci evd_ci) evd_ci)) eb4 (fun hc => ?_) (fun hc H5 e5 eb5 => ?_)
    · have hc' : mix c 9931 7 = 1 := of_decide_eq_true hc
      omega
    · exact data_end (by unfold dataLen; rw [if_neg (of_decide_eq_false hc), if_pos hb']) eb5 (((r2.grow e3 (Ext.refl _ _)).grow e4 (Ext.refl _ _)).grow e5 (Ext.refl _ _))
  · have hb' : ¬ mix c 9931 7 = 0 := of_decide_eq_false hb
    refine q_when (B := B) (evb_test (evd_eqI (cev_law_mix (evd_varI rfl) evd_ci evd_ci) evd_ci)) eb3 (fun hc H4 e4 eb4 => ?_) (fun hc H4 e4 eb4 => ?_)
    · have hc' : mix c 9931 7 = 1 := of_decide_eq_true hc
      refine s_asgI (B := B) (cev_law_mix (evd_varI rfl) evd_ci evd_ci) eb4 fun H5 e5 eb5 => ?_
      exact data_end (by unfold dataLen; rw [if_pos hc']) eb5 (((r2.grow e3 (Ext.refl _ _)).grow e4 (Ext.refl _ _)).grow e5 (Ext.refl _ _))
    · exact data_end (by unfold dataLen; rw [if_neg (of_decide_eq_false hc), if_neg hb']) eb4 ((r2.grow e3 (Ext.refl _ _)).grow e4 (Ext.refl _ _))
section
variable {K : PySem.W.Frag} {σ : Sig} {B H : Hp} {te ta tb tc : TE} {d : PyData} {E : XK}
theorem cev_law_data {c : Int} (ha : EvD ta σ B H (.int c)) : EvD (tCall (sp_law_data K) [] E (tCons ta tNil)) σ B H (.str (lawData c)) := evd_call (evs_cons ha evs_nil) fun H1 B1 vs _ _ eb hd Q q => by
  obtain ⟨v, rfl, hv⟩ := dpa1 hd
  cases hv
  exact ⟨B1, c, eb, rfl, q⟩
end
end GK

namespace GK
open PySem PySem.Spec PyProof.Rows L2
open Evl (Ex ex_l ex_t ex_rd sq_of st_of sz_of sz_lt fresh_back)
section
variable {K : PySem.W.Frag} {σ : Sig} {B H : Hp} {te ta tb tc : TE} {d d1 d2 d3 d4 : PyData} {E : XK}
/-! ### targets of several names -/
theorem tg2 {i j : Nat} {x : V} {B1 H1 : Hp} {R : Sig → Hp → Prop} (hx : Da B1 x (.tuple [d1, d2])) (e : Ex B1 H1) (k : ∀ v1 v2, Da B1 v1 d1 → Da B1 v2 d2 → R ((σ.set i (some v1)).set j (some v2)) H1) : gTup K 2 (gCons (gName i) (gCons (gName j) gNil)) x σ H1 R := by
  obtain ⟨a, xs, rfl, h, hs⟩ := dpt hx
  obtain ⟨v1, v2, rfl, h1, h2⟩ := dpa2 hs
  exact ⟨a, _, rfl, st_of (e _ _ h), rfl, v1, _, rfl, v2, _, rfl, rfl, k v1 v2 h1 h2⟩
theorem tg3 {i j k : Nat} {x : V} {B1 H1 : Hp} {R : Sig → Hp → Prop} (hx : Da B1 x (.tuple [d1, d2, d3])) (e : Ex B1 H1) (q : ∀ v1 v2 v3, Da B1 v1 d1 → Da B1 v2 d2 → Da B1 v3 d3 → R (((σ.set i (some v1)).set j (some v2)).set k (some v3)) H1) : gTup K 3 (gCons (gName i) (gCons (gName j) (gCons (gName k) gNil))) x σ H1 R := by
  obtain ⟨a, xs, rfl, h, hs⟩ := dpt hx
  obtain ⟨v1, v2, v3, rfl, h1, h2, h3⟩ := dpa3 hs
  exact ⟨a, _, rfl, st_of (e _ _ h), rfl, v1, _, rfl, v2, _, rfl, v3, _, rfl, rfl, q v1 v2 v3 h1 h2 h3⟩
theorem tg4 {i j k l : Nat} {x : V} {B1 H1 : Hp} {R : Sig → Hp → Prop} (hx : Da B1 x (.tuple [d1, d2, d3, d4])) (e : Ex B1 H1) (q : ∀ v1 v2 v3 v4, Da B1 v1 d1 → Da B1 v2 d2 → Da B1 v3 d3 → Da B1 v4 d4 → R ((((σ.set i (some v1)).set j (some v2)).set k (some v3)).set l (some v4)) H1) : gTup K 4 (gCons (gName i) (gCons (gName j) (gCons (gName k) (gCons (gName l) gNil)))) x σ H1 R := by
  obtain ⟨a, xs, rfl, h, hs⟩ := dpt hx
  obtain ⟨v1, v2, v3, v4, rfl, h1, h2, h3, h4⟩ := dpa4 hs
  exact ⟨a, _, rfl, st_of (e _ _ h), rfl, v1, _, rfl, v2, _, rfl, v3, _, rfl, v4, _, rfl, rfl, q v1 v2 v3 v4 h1 h2 h3 h4⟩
/-! ### zip of two tuples of one length -/
theorem walk_zipT {a b : Addr} {xs ys : List V} {n : Nat} (hn : n = min xs.length ys.length) : Walk (RZ.ItzT K a b) n (fun H => SqT K H a xs ∧ SqT K H b ys) (YPair (fun i => xs[i]?) (fun i => ys[i]?)) := by
  refine ⟨fun i H hi hg => ?_, fun H hg => ?_, fun i H x H' hi hg y => ?_⟩
  · exact ⟨xs, ys, xs[i]'(by omega), ys[i]'(by omega), hg.1, hg.2, List.getElem?_eq_getElem (by omega), List.getElem?_eq_getElem (by omega)⟩
  · refine ⟨xs, ys, hg.1, hg.2, ?_⟩
    by_cases c : xs.length ≤ ys.length
    · exact .inl (by omega)
    · exact .inr (by omega)
  · obtain ⟨T, x', y', rfl, hT, rfl, f1, f2⟩ := y
    exact ⟨T, x', y', rfl, hT, rfl, f1 _ hg.1, f2 _ hg.2⟩
theorem src_zip {tr : TA} {α : Type} {as : List α} (f g : α → PyData) (h : EvDs tr σ B H [.tuple (as.map f), .tuple (as.map g)]) : SrcD (RZ.iZipA K tr) σ B H (as.map fun a => .tuple [f a, g a]) := fun H1 e eb R q => h H1 e eb _ fun vs H2 B2 e2 x2 eb2 hd => by
  obtain ⟨v, u, rfl, hv, hu⟩ := dpa2 hd
  obtain ⟨a, xs, rfl, hs, hx⟩ := dpt hv
  obtain ⟨b, ys, rfl, hs', hy⟩ := dpt hu
  have lx := dpa_len hx
  have ly := dpa_len hy
  rw [List.length_map] at lx ly
  refine ⟨a, b, xs, ys, rfl, .inr ⟨st_of (eb2 _ _ hs), st_of (eb2 _ _ hs'), q _ H2 B2 e2 x2 eb2 ⟨fun H => SqT K H a xs ∧ SqT K H b ys, YPair (fun i => xs[i]?) (fun i => ys[i]?), ?_, fun H3 e3 => ⟨st_of (e3 _ _ hs), st_of (e3 _ _ hs')⟩, fun i x H3 H4 hi eb3 y => ?_⟩⟩⟩
  · exact walk_zipT (by rw [List.length_map, lx, ly]; omega)
  · obtain ⟨T, x', y', rfl, hT, rfl, f1, f2⟩ := y
    refine ⟨Ex.new hT, fun d hd => ?_⟩
    obtain ⟨d1, g1, k1⟩ := dpa_get hx f1
    obtain ⟨d2, g2, k2⟩ := dpa_get hy f2
    rw [List.getElem?_map] at hd g1 g2
    cases hz : as[i]? with
    | none => rw [hz] at hd; cases hd
    | some z =>
      rw [hz] at hd g1 g2
      cases hd
      cases g1
      cases g2
      exact ⟨upd B2 T (.tup [x', y']), Ext.new eb3 hT, ex_upd2 eb3, .tup upd_same (dpAll_ex (Ex.new (fresh_back eb3 hT)) _ _ (.cons k1 (.cons k2 .nil)))⟩
end
/-! ### _law_same -/
def shal : Nat → PyData → Prop
  | _, .list _ => False
  | _, .dict _ => False
  | 0, .tuple _ => False
  | n + 1, .tuple ds => ds.length ≤ 10000 ∧ ∀ d ∈ ds, shal n d
  | _, .none => True
  | _, .bool _ => True
  | _, .int _ => True
  | _, .str _ => True
theorem kb_bt : kitB "bool" "tuple" = some false := by decide +kernel
theorem kb_it : kitB "int" "tuple" = some false := by decide +kernel
theorem kb_st : kitB "str" "tuple" = some false := by decide +kernel
theorem kb_nt : kitB "NoneType" "tuple" = some false := by decide +kernel
theorem kb_tt : kitB "tuple" "tuple" = some true := by decide +kernel
theorem kb_bb : kitB "bool" "bool" = some true := by decide +kernel
theorem kb_ib : kitB "int" "bool" = some false := by decide +kernel
theorem kb_sb : kitB "str" "bool" = some false := by decide +kernel
def sp_law_same : Nat → PySem.W.Frag → Sp
  | 0, _ => fun _ _ _ _ => False
  | n + 1, _ => fun vs H Q _ => ∃ (B : Hp) (d : PyData) (v u : V), Ex B H ∧ vs = [v, u] ∧ Da B v d ∧ Da B u d ∧ shal n d ∧ Ret (.bool true) B H Q
theorem len_law_same {K : PySem.W.Frag} : ∀ {n : Nat} {vs : List V} {H : Hp} {Q : VK} {E : XK} (h : sp_law_same n K vs H Q E), vs.length = 2
  | 0, _, _, _, _, h => h.elim
  | n + 1, _, _, _, _, h => by obtain ⟨_, _, _, _, _, rfl, _⟩ := h; rfl
section
variable {K : PySem.W.Frag} {σ : Sig} {B H : Hp} {te ta tb tc : TE} {d : PyData} {E : XK}
theorem cev_law_same {n : Nat} (ha : EvD ta σ B H d) (hb : EvD tb σ B H d) (hs : shal n d := by first | trivial | with_reducible assumption) : EvD (tCall (sp_law_same (n + 1) K) [] E (tCons ta (tCons tb tNil))) σ B H (.bool true) := evd_call (evs_cons ha (evs_cons hb evs_nil)) fun H1 B1 vs _ _ eb hd Q q => by
  obtain ⟨v, u, rfl, hv, hu⟩ := dpa2 hd
  exact ⟨B1, d, v, u, eb, rfl, hv, hu, hs, q⟩
end
def t_law_same (n : Nat) (K : PySem.W.Frag) (E : XK) : TS :=
  (tSeq (tIfS (tB (tCB (rIsi K) (tCons (tVar 1) (tCons (tC (.ty "tuple")) tNil)))) (tSeq (tIfS (tOr (tNot (tB (tCB (rIsi K) (tCons (tVar 0) (tCons (tC (.ty "tuple")) tNil))))) (tTest (tOp rNe (tCB (rLenSeq K) (tCons (tVar 0) tNil)) (tCB (rLenSeq K) (tCons (tVar 1) tNil))))) (tRet (tC (.bl false))) tNext)
    (tRet (tCB (rAll K) (tCons (tLc (RZ.iZipA K (tCons (tVar 0) (tCons (tVar 1) tNil))) (gTup K 2 (gCons (gName 2) (gCons (gName 3) gNil))) tYes (tCall (sp_law_same n K) [] E0 (tCons (tVar 2) (tCons (tVar 3) tNil))) [2, 3]) tNil)))) tNext)
    (tSeq (tIfS (tTest (tOp rIsNone (tVar 1) (tC .non))) (tRet (tOp rIsNone (tVar 0) (tC .non))) tNext)
    (tSeq (tIfS (tOr (tB (tCB (rIsi K) (tCons (tVar 1) (tCons (tC (.ty "bool")) tNil)))) (tB (tCB (rIsi K) (tCons (tVar 0) (tCons (tC (.ty "bool")) tNil))))) (tRet (tAndV (tCB (rIsi K) (tCons (tVar 1) (tCons (tC (.ty "bool")) tNil))) (tAndV (tCB (rIsi K) (tCons (tVar 0) (tCons (tC (.ty "bool")) tNil))) (tOp rEq (tVar 0) (tVar 1))))) tNext)
    (tRet (tAndV (tCB (rIsiT K) (tCons (tVar 0) (tCons (tTup (tCons (tC (.ty "int")) (tCons (tC (.ty "str")) tNil))) tNil))) (tOp rEq (tVar 0) (tVar 1)))))))
theorem same_flat {K : PySem.W.Frag} {n : Nat} {v u : V} {d : PyData} {B H : Hp} {Q : VK} (eb : Ex B H) (hv : Da B v d) (hu : Da B u d) (r : Ret (.bool true) B H Q) (hd : kitB (tyName d) "tuple" = some false) (hn : isNone d = false) (b : Bool) (hb : kitB (tyName d) "bool" = some b)
    (hi : b = false → PySem.W.kitAny K (.type (tyName d)) [.type "int", .type "str"] = some true) (he : scal v u = true) (hw : ∀ B v, Da B v d → ∀ B u, Da B u d → v = u) : t_law_same n K (fun _ _ _ => False) { nx := fun _ H' => Q .non H', rt := Q } [some v, some u, none, none] H := by
  have ev : EvD (tOp rEq (tVar 0) (tVar 1)) [some v, some u, none, none] B H (.bool true) := fun H1 e eb1 Q q => ⟨v, rfl, u, rfl, he, by
    rw [decide_eq_true (hw _ _ hv _ _ hu)]
    exact q.at eb1 (.bl _)⟩
  refine q_pass (B := B) (evb_B (evd_isi (evd_var rfl hu) hd)) eb fun H1 e1 eb1 => ?_
  refine q_pass (B := B) (EvB.is (evb_test (evd_opIsN (evd_var rfl hu) evd_cn)) hn) eb1 fun H2 e2 eb2 => ?_
  have r2 := (r.grow e1 (Ext.refl _ _)).grow e2 (Ext.refl _ _)
  have h12 := e1.trans e2
  cases b with
  | true =>
    refine q_when (B := B) (b := true) (evb_or (b := true) (evb_B (evd_isi (evd_var rfl hu) hb)) fun z => nomatch z) eb2 (fun _ H3 e3 eb3 => ?_) (fun z => nomatch z)
    exact s_ret (B := B) (d := .bool true) (evd_and (evd_isi (evd_var rfl hu) hb) fun _ => evd_and (b := true) (evd_isi (evd_var rfl hv) hb) fun _ => ev.mono (Ex.refl _) (h12.trans e3)) eb3 (r2.grow e3 (Ext.refl _ _))
  | false =>
    refine q_pass (B := B) (evb_or (evb_B (evd_isi (evd_var rfl hu) hb)) fun _ => evb_B (evd_isi (evd_var rfl hv) hb)) eb2 fun H3 e3 eb3 => ?_
    exact s_ret (B := B) (d := .bool true) (evd_and (evd_isi2 (evd_var rfl hv) (hi rfl)) fun _ => ev.mono (Ex.refl _) (h12.trans e3)) eb3 (r2.grow e3 (Ext.refl _ _))
theorem kitA_int {K : PySem.W.Frag} : PySem.W.kitAny K (.type "int") [.type "int", .type "str"] = some true := kitAny_cons (b := true) (kit_ty (by decide +kernel)) (fun z => nomatch z) fun _ => rfl
theorem kitA_str {K : PySem.W.Frag} : PySem.W.kitAny K (.type "str") [.type "int", .type "str"] = some true := kitAny_cons (b := false) (kit_ty (by decide +kernel)) (fun _ => kitAny_cons (b := true) (kit_ty (by decide +kernel)) (fun z => nomatch z) fun _ => rfl) fun z => nomatch z
theorem pure_law_same {K : PySem.W.Frag} {n : Nat}  {vs : List V} {H : Hp} {Q : VK} {E : XK} (h : sp_law_same (n + 1) K vs H Q E) : t_law_same n K E { nx := fun _ H' => Q .non H', rt := Q } (start ["found", "due", "one", "other"] vs) H := by
  obtain ⟨B, d, v, u, eb, rfl, hv, hu, hs, r⟩ := h
  show t_law_same n K E _ [some v, some u, none, none] H
  cases d with
  | none =>
    refine q_pass (B := B) (evb_B (evd_isi (evd_var rfl hu) kb_nt)) eb fun H1 e1 eb1 => ?_
    refine q_when (B := B) (b := true) (evb_test (evd_opIsN (evd_var rfl hu) evd_cn)) eb1 (fun _ H2 e2 eb2 => ?_) (fun z => nomatch z)
    exact s_ret (B := B) (d := .bool true) (evd_opIsN (evd_var rfl hv) evd_cn) eb2 ((r.grow e1 (Ext.refl _ _)).grow e2 (Ext.refl _ _))
  | bool b => exact same_flat eb hv hu r kb_bt rfl true kb_bb (fun z => nomatch z) (by cases hv; cases hu; rfl) (fun _ _ h _ _ h' => by cases h; cases h'; rfl)
  | int b => exact same_flat eb hv hu r kb_it rfl false kb_ib (fun _ => kitA_int) (by cases hv; cases hu; rfl) (fun _ _ h _ _ h' => by cases h; cases h'; rfl)
  | str b => exact same_flat eb hv hu r kb_st rfl false kb_sb (fun _ => kitA_str) (by cases hv; cases hu; rfl) (fun _ _ h _ _ h' => by cases h; cases h'; rfl)
  | list ds => cases n <;> exact hs.elim
  | dict ds => cases n <;> exact hs.elim
  | tuple ds =>
    cases n with
    | zero => exact hs.elim
    | succ n =>
      refine q_when (B := B) (b := true) (evb_B (evd_isi (evd_var rfl hu) kb_tt)) eb (fun _ H1 e1 eb1 => ?_) (fun z => nomatch z)
      refine q_pass (B := B) (EvB.is (evb_or (evb_not (evb_B (evd_isi (b := true) (evd_var rfl hv) kb_tt))) fun _ => evb_test (evd_neI (evd_lenT (evd_var rfl hv)) (evd_lenT (evd_var rfl hu)))) (by simp)) eb1 fun H2 e2 eb2 => ?_
      refine s_ret (B := B) (d := .bool true) ?_ eb2 ((r.grow e1 (Ext.refl _ _)).grow e2 (Ext.refl _ _))
      refine EvD.is (evd_all (bs := ds.map fun _ => true) ?_) (by simp)
      have hl : ds.length ≤ 40000 := Nat.le_trans hs.1 (by decide)
      · have hz : EvDs (tCons (tVar 0) (tCons (tVar 1) tNil)) [some v, some u, none, none] B H2 [.tuple (ds.map id), .tuple (ds.map id)] := by
          rw [List.map_id]
          exact evs_cons (evd_var rfl hv) (evs_cons (evd_var rfl hu) evs_nil)
        refine EvD.is (evd_lc (fun d => .tuple [d, d]) (fun _ => true) (fun _ => .bool true) (src_zip id id hz) hl fun d hd x B1 H3 eb' eh' e' hx R k => tg2 hx e' fun v1 v2 h1 h2 => k _ rfl evb_yes fun _ => ?_) ?_
        · exact cev_law_same (evd_var rfl h1) (evd_var rfl h2) (hs.2 d hd)
        · rw [List.filter_eq_self.mpr (fun _ _ => rfl), List.map_map]; rfl
end GK

namespace GK
open PySem PySem.Spec PyProof.Rows L2
open Evl (Ex ex_l ex_t ex_rd sq_of st_of sz_of sz_lt fresh_back)
/-! ### numbers as texts of six figures -/
theorem tl_num (n : Nat) : tl (Str.ofString (toString ((n : Nat) : Int))) = TL.numL n := TL.tl_num n
theorem toStr_nat {n : Int} (h : 0 ≤ n) : (Str.ofString (toString n)) = Str.ofString (toString ((n.toNat : Nat) : Int)) := by rw [Int.toNat_of_nonneg h]
def six (n : Nat) : List Nat := List.replicate (6 - (TL.numL n).length) 48 ++ TL.numL n
theorem six_len {n : Nat} (h : n < 1000000) : (six n).length = 6 := by
  have := TL.numL_len (n := n) (k := 6) (by decide) h
  unfold six
  rw [List.length_append, List.length_replicate]; omega
theorem zfill_six {n : Nat} (h : n < 1000000) : tl (Txt.zfill (Str.ofString (toString ((n : Nat) : Int))) 6) = six n := by
  have hl := TL.numL_len (n := n) (k := 6) (by decide) h
  have he := tl_num n
  have hlen : (Str.ofString (toString ((n : Nat) : Int))).length = (TL.numL n).length := by rw [len_tl, he]
  unfold Txt.zfill
  rw [hlen]
  by_cases c : (6 : Int) ≤ ((TL.numL n).length : Int)
  · rw [if_pos c, he]
    unfold six
    rw [show 6 - (TL.numL n).length = 0 by omega]
    rfl
  · rw [if_neg c]
    unfold PySem.zfilled
    have h0 : ∀ c, (Str.ofString (toString ((n : Nat) : Int))).cps[0]? = some c → 48 ≤ c ∧ c ≤ 57 := fun c hc => by
      rw [← Array.getElem?_toList] at hc
      have hm : c ∈ TL.numL n := by rw [← he]; exact List.mem_of_getElem? hc
      have := TL.numL_digits n c hm
      omega
    split
    · rename_i hh; have := h0 _ hh; omega
    · rename_i hh; have := h0 _ hh; omega
    · unfold Builtin.Str.padded six
      show ((Array.replicate _ 48 ++ (Str.ofString (toString ((n : Nat) : Int))).cps ++ Array.replicate 0 48).toList) = _
      simp only [Array.toList_append, Array.toList_replicate, List.replicate_zero, List.append_nil]
      rw [show (Str.ofString (toString ((n : Nat) : Int))).cps.toList = TL.numL n from he]
      rfl
theorem sIx_neg {n d : Nat} {v : Int} (h : v < 0) : HT.sIx n d (some v) = (v + (n : Int)).toNat := if_pos h
theorem sIx_pos {n d : Nat} {v : Int} (h : ¬ v < 0) : HT.sIx n d (some v) = min v.toNat n := if_neg h
theorem sIx_none {n d : Nat} : HT.sIx n d none = d := rfl
theorem zeros_tl : tl ("00000" : Str) = List.replicate 5 48 := by decide +kernel
theorem cut_six {n : Nat} (h : n < 1000000) : tl (cutS (("00000" : Str) ++ Str.ofString (toString ((n : Nat) : Int))) (some (-6)) none) = six n := by
  have hl := TL.numL_len (n := n) (k := 6) (by decide) h
  have hn := List.length_pos_iff.mpr (TL.numL_ne n)
  have he := tl_num n
  have ht : tl (("00000" : Str) ++ Str.ofString (toString ((n : Nat) : Int))) = List.replicate 5 48 ++ TL.numL n := by rw [tl_app, zeros_tl, he]
  have hlen : (("00000" : Str) ++ Str.ofString (toString ((n : Nat) : Int))).length = 5 + (TL.numL n).length := by rw [len_tl, ht, List.length_append, List.length_replicate]
  rw [tl_cut, ht, hlen, sIx_neg (by decide), sIx_none]
  have hd : ((-6 : Int) + ((5 + (TL.numL n).length : Nat) : Int)).toNat = (TL.numL n).length - 1 := by omega
  rw [hd, List.take_of_length_le (by rw [List.length_drop, List.length_append, List.length_replicate]; omega)]
  rw [List.drop_append_of_le_length (by rw [List.length_replicate]; omega), List.drop_replicate]
  unfold six
  rw [show 5 - ((TL.numL n).length - 1) = 6 - (TL.numL n).length by omega]
theorem sumT_tl (x : Str) : tl (sumT x) = six (sumN (tl x)).toNat := by
  have h := sumN_rng (tl x)
  unfold sumT
  rw [toStr_nat h.1]
  exact zfill_six (by omega)
theorem sumT_len (x : Str) : (sumT x).length = 6 := by
  have h := sumN_rng (tl x)
  rw [len_tl, sumT_tl, six_len (by omega)]
theorem sumT_cut (x : Str) : cutS (("00000" : Str) ++ Str.ofString (toString (sumN (tl x)))) (some (-6)) none = sumT x := by
  have h := sumN_rng (tl x)
  apply str_ext
  rw [sumT_tl, toStr_nat h.1]
  exact cut_six (by omega)
theorem sumN_take {l : List Nat} {i : Nat} {c : Nat} (h : l[i]? = some c) : sumN (l.take (i + 1)) = sumStep (sumN (l.take i)) c := by
  unfold sumN
  rw [lc_take h, List.foldl_append]
  rfl
theorem signs_at {x : Str} {i : Nat} {d : PyData} (h : (signsD x)[i]? = some d) : ∃ c, (tl x)[i]? = some c ∧ d = .str (sign c) := by
  unfold signsD at h
  rw [List.getElem?_map] at h
  cases e : x.cps.toList[i]? with
  | none => rw [e] at h; cases h
  | some c => rw [e] at h; exact ⟨c, rfl, (Option.some.inj h).symm⟩
theorem signsD_len (x : Str) : (signsD x).length = (tl x).length := by simp [signsD, tl]
def sp_sum_of (K : PySem.W.Frag) : Sp := fun vs H Q _ => ∃ (B : Hp) (x : Str), Ex B H ∧ vs = [.str x] ∧ Ret (.str (sumT x)) B H Q
theorem len_sum_of {K : PySem.W.Frag} {vs : List V} {H : Hp} {Q : VK} {E : XK} (h : sp_sum_of K vs H Q E) : vs.length = 1 := by
  obtain ⟨_, _, _, rfl, _⟩ := h; rfl
def t_sum_of (K : PySem.W.Frag) (E : XK) : TS :=
  (tSeq (tAsg (tC (.int 0)) (gName 1))
    (tSeq (tFor (iStr (tVar 0)) (gName 2) (tAsg (tOp (rI (fun _ j => 0 < j) fun i j => .int (i % j)) (tOp (rI0 fun i j => .int (i - j)) (tOp (rI0 fun i j => .int (i + j)) (tOp (rI CMul fun i j => .int (i * j)) (tC (.int 31)) (tVar 1)) (tCB rOrd1 (tCons (tVar 2) tNil))) (tC (.int 32))) (tC (.int 999983))) (gName 1)))
    (tRet (tM1 rZfill (tCB rStrInt (tCons (tVar 1) tNil)) (tC (.int 6))))))
theorem pure_sum_of {K : PySem.W.Frag}  {vs : List V} {H : Hp} {Q : VK} {E : XK} (h : sp_sum_of K vs H Q E) : t_sum_of K E { nx := fun _ H' => Q .non H', rt := Q } (start ["data", "found", "sign"] vs) H := by
  obtain ⟨B, x, eb, rfl, r⟩ := h
  refine q_asgI (B := B) evd_ci eb fun H1 e1 eb1 => ?_
  refine q_for (B := B) (src_str (evd_varS rfl)) eb1 (fun B1 i σ1 H1 => ∃ s : Option V, σ1 = [some (.str x), some (.int (sumN ((tl x).take i))), s] ∧ Ex B1 H1 ∧ Ret (.str (sumT x)) B1 H1 Q)
    (fun H2 B2 e2 x2 eb2 => ⟨none, rfl, eb2, (r.grow e1 (Ext.refl _ _)).grow e2 x2⟩) (fun _ _ _ _ _ ⟨_, _, h, _⟩ => h) ?_ ?_
  · rintro B1 i d v σ1 H2 H3 B3 eB hd ⟨s, rfl, eb2, r2⟩ e3 x3 eb3 hv
    obtain ⟨c, hc, rfl⟩ := signs_at hd
    cases hv
    refine s_asgI (B := B1) (n := sumN ((tl x).take (i + 1))) ?_ (eb2.trans e3) fun H4 e4 eb4 => ⟨_, rfl, eb4, (r2.grow e3 (Ext.refl _ _)).grow e4 (Ext.refl _ _)⟩
    rw [sumN_take hc]
    exact (evd_mod (evd_I0 (evd_I0 (evd_mul evd_ci (evd_varI rfl)) (evd_ord (evd_varS rfl))) evd_ci) evd_ci)
  · rintro B1 σ1 H2 eB ⟨s, rfl, eb2, r2⟩
    rw [signsD_len, List.take_length]
    have h := sumN_rng (tl x)
    exact s_ret (B := B1) (evd_zfill (evd_strI (evd_varI rfl)) evd_ci) eb2 r2
section
variable {K : PySem.W.Frag} {σ : Sig} {B H : Hp} {te ta tb tc : TE} {d : PyData} {E : XK}
theorem cev_sum_of {x : Str} (ha : EvD ta σ B H (.str x)) : EvD (tCall (sp_sum_of K) [] E (tCons ta tNil)) σ B H (.str (sumT x)) := evd_call (evs_cons ha evs_nil) fun H1 B1 vs _ _ eb hd Q q => by
  obtain ⟨v, rfl, hv⟩ := dpa1 hd
  cases hv
  exact ⟨B1, x, eb, rfl, q⟩
end
def sp_law_sum (K : PySem.W.Frag) : Sp := sp_sum_of K
theorem len_law_sum {K : PySem.W.Frag} {vs : List V} {H : Hp} {Q : VK} {E : XK} (h : sp_law_sum K vs H Q E) : vs.length = 1 := len_sum_of (E := E) h
theorem blank_sign : (" " : Str) = sign 32 := by decide +kernel
def t_law_sum (K : PySem.W.Frag) (E : XK) : TS :=
  (tSeq (tAsg (tC (.int 0)) (gName 1))
    (tSeq (tFor (iStr (tVar 0)) (gName 2) (tAsg (tOp (rI (fun _ j => 0 < j) fun i j => .int (i % j)) (tOp (rI0 fun i j => .int (i - j)) (tOp (rI0 fun i j => .int (i + j)) (tOp (rI CMul fun i j => .int (i * j)) (tVar 1) (tC (.int 31))) (tCB rOrd1 (tCons (tVar 2) tNil))) (tCB rOrd1 (tCons (tC (.str " ")) tNil))) (tC (.int 999983))) (gName 1)))
    (tRet (tSl rSlS (tOp rAddStr (tC (.str "00000")) (tCB rStrInt (tCons (tVar 1) tNil))) (tPart (tUn (rU fun i => .int (-i)) (tC (.int 6)))) tNoPart))))
theorem pure_law_sum {K : PySem.W.Frag}  {vs : List V} {H : Hp} {Q : VK} {E : XK} (h : sp_law_sum K vs H Q E) : t_law_sum K E { nx := fun _ H' => Q .non H', rt := Q } (start ["data", "found", "sign"] vs) H := by
  obtain ⟨B, x, eb, rfl, r⟩ := h
  refine q_asgI (B := B) evd_ci eb fun H1 e1 eb1 => ?_
  refine q_for (B := B) (src_str (evd_varS rfl)) eb1 (fun B1 i σ1 H1 => ∃ s : Option V, σ1 = [some (.str x), some (.int (sumN ((tl x).take i))), s] ∧ Ex B1 H1 ∧ Ret (.str (sumT x)) B1 H1 Q)
    (fun H2 B2 e2 x2 eb2 => ⟨none, rfl, eb2, (r.grow e1 (Ext.refl _ _)).grow e2 x2⟩) (fun _ _ _ _ _ ⟨_, _, h, _⟩ => h) ?_ ?_
  · rintro B1 i d v σ1 H2 H3 B3 eB hd ⟨s, rfl, eb2, r2⟩ e3 x3 eb3 hv
    obtain ⟨c, hc, rfl⟩ := signs_at hd
    cases hv
    refine s_asgI (B := B1) (n := sumN ((tl x).take (i + 1))) ?_ (eb2.trans e3) fun H4 e4 eb4 => ⟨_, rfl, eb4, (r2.grow e3 (Ext.refl _ _)).grow e4 (Ext.refl _ _)⟩
    rw [sumN_take hc]
    unfold sumStep
    rw [show 31 * sumN ((tl x).take i) + (c : Int) - 32 = sumN ((tl x).take i) * 31 + (c : Int) - ((32 : Nat) : Int) by rw [Int.mul_comm]; rfl]
    refine evd_mod (evd_I0 (g := fun i j => i - j) (evd_I0 (evd_mul (evd_varI rfl) evd_ci) (evd_ord (evd_varS rfl))) (evd_ord (c := 32) ?_)) evd_ci
    rw [← blank_sign]
    exact evd_cs
  · rintro B1 σ1 H2 eB ⟨s, rfl, eb2, r2⟩
    rw [signsD_len, List.take_length]
    have h := sumN_rng (tl x)
    rw [← sumT_cut] at r2
    have hl : (("00000" : Str) ++ Str.ofString (toString (sumN (tl x)))).length ≤ 100000 := by
      rw [len_tl, tl_app, zeros_tl, toStr_nat h.1, tl_num, List.length_append, List.length_replicate]
      have := TL.numL_len (n := (sumN (tl x)).toNat) (k := 6) (by decide) (by omega)
      omega
    have hl2 : ("00000" : Str).length + (Str.ofString (toString (sumN (tl x)))).length ≤ 100000 := by
      rw [len_tl, len_tl, zeros_tl, toStr_nat h.1, tl_num, List.length_replicate]
      have := TL.numL_len (n := (sumN (tl x)).toNat) (k := 6) (by decide) (by omega)
      omega
    exact s_ret (B := B1) (evd_slS (evd_addS evd_cs (evd_strI (evd_varI rfl)) hl2) (evo_some (evd_un evd_ci)) evo_none hl) eb2 r2
section
variable {K : PySem.W.Frag} {σ : Sig} {B H : Hp} {te ta tb tc : TE} {d : PyData} {E : XK}
theorem cev_law_sum {x : Str} (ha : EvD ta σ B H (.str x)) : EvD (tCall (sp_law_sum K) [] E (tCons ta tNil)) σ B H (.str (sumT x)) := cev_sum_of (K := K) (E := E) ha
end
/-! ### sums of parts -/
def sp_sum_of_parts (K : PySem.W.Frag) : Sp := fun vs H Q _ => ∃ (B : Hp) (v : V) (xs : List Str), Ex B H ∧ vs = [v] ∧ Da B v (.tuple (xs.map .str)) ∧ xs.length ≤ 1000 ∧ (∀ x ∈ xs, x.length ≤ 100) ∧ Ret (.str (sumsT xs)) B H Q
theorem len_sum_of_parts {K : PySem.W.Frag} {vs : List V} {H : Hp} {Q : VK} {E : XK} (h : sp_sum_of_parts K vs H Q E) : vs.length = 1 := by
  obtain ⟨_, _, _, _, rfl, _⟩ := h; rfl
theorem sum_le {xs : List Str} {n : Nat} (h : ∀ x ∈ xs, x.length ≤ n) : (xs.map (·.length)).sum ≤ xs.length * n := by
  induction xs with
  | nil => simp
  | cons a r ih =>
    have h1 := h a (by simp)
    have h2 := ih fun x hx => h x (by simp [hx])
    rw [List.map_cons, List.sum_cons, List.length_cons, Nat.succ_mul]
    omega
theorem join_ok {xs : List Str} (hl : xs.length ≤ 1000) (h : ∀ x ∈ xs, x.length ≤ 100) : (xs.map (·.length)).sum + xs.length * ("" : Str).length ≤ 16777216 := by
  have := sum_le h
  show _ + _ * 0 ≤ _
  have h2 : xs.length * 100 ≤ 1000 * 100 := Nat.mul_le_mul_right _ hl
  omega
theorem parts_ends {xs : List Str} (hl : xs.length ≤ 1000) : (sumT (Txt.join "" xs)).length + ("-" : Str).length ≤ 100000 ∧ (sumT (Txt.join "" xs) ++ ("-" : Str)).length + (Str.ofString (toString (xs.length : Int))).length ≤ 100000 := by
  have h1 := sumT_len (Txt.join "" xs)
  have h2 : ("-" : Str).length = 1 := by decide +kernel
  have h3 : (Str.ofString (toString (xs.length : Int))).length ≤ 4 := by
    rw [len_tl, tl_num]
    exact TL.numL_len (by decide) (by omega)
  constructor
  · omega
  · rw [len_tl, tl_app, List.length_append, ← len_tl, ← len_tl]
    omega
def t_sum_of_parts (K : PySem.W.Frag) (E : XK) : TS :=
  (tRet (tOp rAddStr (tOp rAddStr (tCall (sp_sum_of K) [] E0 (tCons (tM1 (rJoin K) (tC (.str "")) (tVar 0)) tNil)) (tC (.str "-"))) (tCB rStrInt (tCons (tCB (rLenSeq K) (tCons (tVar 0) tNil)) tNil))))
theorem pure_sum_of_parts {K : PySem.W.Frag}  {vs : List V} {H : Hp} {Q : VK} {E : XK} (h : sp_sum_of_parts K vs H Q E) : t_sum_of_parts K E { nx := fun _ H' => Q .non H', rt := Q } (start ["sums"] vs) H := by
  obtain ⟨B, v, xs, eb, rfl, hv, hl, hx, r⟩ := h
  have he := parts_ends hl
  refine s_ret (B := B) (evd_addS (evd_addS (cev_sum_of (evd_joinT evd_cs (evd_var rfl (by assumption)) (join_ok hl hx))) evd_cs he.1) (EvD.is (evd_strI (n := (xs.length : Int)) (EvD.is (evd_lenT (evd_var rfl (by assumption))) (by rw [List.length_map]))) rfl) he.2) eb r
section
variable {K : PySem.W.Frag} {σ : Sig} {B H : Hp} {te ta tb tc : TE} {d : PyData} {E : XK}
theorem cev_sum_of_parts {xs : List Str} (ha : EvD ta σ B H (.tuple (xs.map .str))) (hl : xs.length ≤ 1000) (hx : ∀ x ∈ xs, x.length ≤ 100) : EvD (tCall (sp_sum_of_parts K) [] E (tCons ta tNil)) σ B H (.str (sumsT xs)) := evd_call (evs_cons ha evs_nil) fun H1 B1 vs _ _ eb hd Q q => by
  obtain ⟨v, rfl, hv⟩ := dpa1 hd
  exact ⟨B1, v, xs, eb, rfl, hv, hl, hx, q⟩
end
end GK

namespace GK
open PySem PySem.Spec PyProof.Rows L2
open Evl (Ex ex_l ex_t ex_rd sq_of st_of sz_of sz_lt fresh_back)
section
variable {K : PySem.W.Frag} {σ : Sig} {B H : Hp} {te ta tb tc : TE} {d d1 d2 d3 d4 : PyData} {E : XK}
mutual
theorem da_dp : ∀ (d : PyData) (v : V), Da B v d → Dp K B v d
  | .none, _, h => by cases h; exact .non
  | .bool b, _, h => by cases h; exact .bl b
  | .int i, _, h => by cases h; exact .int i
  | .str x, _, h => by cases h; exact .str x
  | .list ds, _, h => by
    cases h with
    | lst h ha => exact .lst (sq_of h) (daAll_dp ds _ ha)
  | .tuple ds, _, h => by
    cases h with
    | tup h ha => exact .tup (st_of h) (daAll_dp ds _ ha)
  | .dict _, _, h => by cases h
theorem daAll_dp : ∀ (ds : List PyData) (vs : List V), DaAll B vs ds → DpAll K B vs ds
  | [], _, h => by cases h; exact .nil
  | d :: ds, _, h => by
    cases h with
    | cons h t => exact .cons (da_dp d _ h) (daAll_dp ds _ t)
end
theorem evd_eqD (ha : EvD ta σ B H d1) (hb : EvD tb σ B H d2) (h1 : SeqAt.shaped d1 = true) (h2 : SeqAt.shaped d2 = true) : EvD (tOp (rEqD K) ta tb) σ B H (.bool (PyData.eqv d1 d2)) := fun H1 e eb Q q => ha H1 e eb _ fun v H2 B2 e2 x2 eb2 hv =>
  hb.mono x2.1 (e.trans e2) H2 (Ex.refl _) eb2 _ fun u H3 B3 e3 x3 eb3 hu =>
    ⟨d1, d2, da_dp _ _ (hv.ex' (x3.1.trans eb3)), da_dp _ _ (hu.ex' eb3), h1, h2, q _ H3 B3 (e2.trans e3) (x2.trans e2 x3) eb3 (.bl _)⟩
theorem evd_neD (ha : EvD ta σ B H d1) (hb : EvD tb σ B H d2) (h1 : SeqAt.shaped d1 = true) (h2 : SeqAt.shaped d2 = true) : EvD (tOp (rNeD K) ta tb) σ B H (.bool (!PyData.eqv d1 d2)) := fun H1 e eb Q q => ha H1 e eb _ fun v H2 B2 e2 x2 eb2 hv =>
  hb.mono x2.1 (e.trans e2) H2 (Ex.refl _) eb2 _ fun u H3 B3 e3 x3 eb3 hu =>
    ⟨d1, d2, da_dp _ _ (hv.ex' (x3.1.trans eb3)), da_dp _ _ (hu.ex' eb3), h1, h2, q _ H3 B3 (e2.trans e3) (x2.trans e2 x3) eb3 (.bl _)⟩
end
/-! ### plain signs -/
def asc (x : Str) : Prop := ∀ c ∈ tl x, c < 1114112
theorem asc_ok {x : Str} (h : asc x) : PyData.strOk x = true := by
  unfold PyData.strOk
  rw [Array.all_eq_true']
  intro c hc
  exact decide_eq_true (h c (by simpa [tl] using hc))
theorem asc_app {x y : Str} (h : asc x) (h' : asc y) : asc (x ++ y) := fun c hc => by
  rw [tl_app] at hc
  rcases List.mem_append.mp hc with q | q
  · exact h c q
  · exact h' c q
theorem asc_cut {x : Str} (h : asc x) (lo hi : Option Int) : asc (cutS x lo hi) := fun c hc => by
  rw [tl_cut] at hc
  exact h c (List.mem_of_mem_drop (List.mem_of_mem_take hc))
theorem asc_sign {c : Nat} (h : c < 1114112) : asc (sign c) := fun z hz => by
  rw [tl_sign] at hz
  rw [List.mem_singleton.mp hz]; exact h
theorem key_small : ∀ c ∈ tl keySigns, c < 1114112 := by decide +kernel
theorem data_small : ∀ c ∈ tl dataSigns, c < 1114112 := by decide +kernel
theorem asc_key (c : Int) : asc (lawKey c) := fun z hz => key_small z (lawKey_signs c z hz)
theorem asc_data (c : Int) : asc (lawData c) := fun z hz => data_small z (lawData_signs c z hz)
theorem canLayAll_map {α : Type} {l : List α} {f : α → PyData} (h : ∀ a ∈ l, (f a).canLay0 = true) : PyData.canLayAll0 (l.map f) = true := by
  induction l with
  | nil => rfl
  | cons a r ih =>
    show ((f a).canLay0 && PyData.canLayAll0 (r.map f)) = true
    rw [h a (by simp), ih fun b hb => h b (by simp [hb])]; rfl
theorem depthAll_map {α : Type} {l : List α} {f : α → PyData} {n : Nat} (h : ∀ a ∈ l, (f a).depth ≤ n) : PyData.depthAll (l.map f) ≤ n := by
  induction l with
  | nil => exact Nat.zero_le _
  | cons a r ih =>
    show max (f a).depth (PyData.depthAll (r.map f)) ≤ n
    have h1 := h a (by simp)
    have h2 := ih fun b hb => h b (by simp [hb])
    omega
theorem shaped_list {α : Type} {l : List α} {f : α → PyData} {n : Nat} (hn : n < 60) (h : ∀ a ∈ l, (f a).canLay0 = true ∧ (f a).depth ≤ n) : SeqAt.shaped (.list (l.map f)) = true := by
  unfold SeqAt.shaped
  have h1 : PyData.canLay0 (.list (l.map f)) = true := canLayAll_map fun a ha => (h a ha).1
  have h2 := depthAll_map (fun a ha => (h a ha).2)
  have h3 : (PyData.list (l.map f)).depth ≤ 64 := by show PyData.depthAll (l.map f) + 1 ≤ 64; omega
  rw [h1, decide_eq_true h3]; rfl
theorem shaped_tuple {α : Type} {l : List α} {f : α → PyData} {n : Nat} (hn : n < 60) (h : ∀ a ∈ l, (f a).canLay0 = true ∧ (f a).depth ≤ n) : SeqAt.shaped (.tuple (l.map f)) = true := by
  unfold SeqAt.shaped
  have h1 : PyData.canLay0 (.tuple (l.map f)) = true := canLayAll_map fun a ha => (h a ha).1
  have h2 := depthAll_map (fun a ha => (h a ha).2)
  have h3 : (PyData.tuple (l.map f)).depth ≤ 64 := by show PyData.depthAll (l.map f) + 1 ≤ 64; omega
  rw [h1, decide_eq_true h3]; rfl
theorem shaped_strs {l : List Str} (h : ∀ x ∈ l, asc x) : SeqAt.shaped (.list (l.map .str)) = true := shaped_list (n := 0) (by decide) fun x hx => ⟨asc_ok (h x hx), Nat.le_refl _⟩
theorem shaped_nil : SeqAt.shaped (.list []) = true := by decide +kernel
theorem shaped_nilT : SeqAt.shaped (.tuple []) = true := by decide +kernel
theorem eqv_nil {α : Type} {l : List α} {f : α → PyData} : PyData.eqv (.list (l.map f)) (.list []) = l.isEmpty := by
  cases l <;> rfl
theorem eqv_nilT {α : Type} {l : List α} {f : α → PyData} : PyData.eqv (.tuple (l.map f)) (.tuple []) = l.isEmpty := by
  cases l <;> rfl
end GK

namespace GK
open PySem PySem.Spec PyProof.Rows L2
open Evl (Ex ex_l ex_t ex_rd sq_of st_of sz_of sz_lt fresh_back)
theorem cut_len (z : Str) (lo hi : Option Int) : (cutS z lo hi).length ≤ z.length := by
  rw [len_tl, tl_cut, List.length_take, List.length_drop, ← len_tl]
  omega
theorem app_len (x y : Str) : (x ++ y).length = x.length + y.length := by rw [len_tl, tl_app, List.length_append, ← len_tl, ← len_tl]
theorem range_at {n i : Nat} {d : PyData} (h : (rangeD 0 n)[i]? = some d) : i < n ∧ d = .int (i : Int) := by
  unfold rangeD at h
  rw [List.getElem?_map] at h
  rcases Nat.lt_or_ge i n with c | c
  · rw [List.getElem?_range c] at h
    exact ⟨c, by rw [← Option.some.inj h]; show PyData.int (0 + (i : Int)) = _; rw [Int.zero_add]⟩
  · rw [List.getElem?_eq_none (by rw [List.length_range]; exact c)] at h; cases h
/-! ### the law's own promise -/
def sp_thelaw (K : PySem.W.Frag) : Sp := fun vs H Q _ => ∃ (a : Addr) (ns : List Int), vs = [.ref a] ∧ SqL K H a (ns.map V.int) ∧ ns.length ≤ 63 ∧ ∀ H', Q (.bl true) H'
theorem len_thelaw {K : PySem.W.Frag} {vs : List V} {H : Hp} {Q : VK} {E : XK} (h : sp_thelaw K vs H Q E) : vs.length = 1 := by
  obtain ⟨_, _, rfl, _⟩ := h; rfl
theorem retTrue {B H : Hp} {Q : VK} (k : ∀ H', Q (.bl true) H') : Ret (.bool true) B H Q := Ret.flat (fun _ _ => dpb) fun H' _ => k H'
/-- a changing list, taken into the frame as it stands -/
theorem up_lst {B H : Hp} {p : Addr} {xs : List V} {ds : List PyData} (eb : Ex B H) (bp : B p = none) (h : H p = some (.lst xs)) (hd : DaAll B xs ds) : Ex B (upd B p (.lst xs)) ∧ Ex (upd B p (.lst xs)) H ∧ Da (upd B p (.lst xs)) (.ref p) (.list ds) :=
  ⟨Ex.new bp, fun a o e => by
    by_cases c : a = p
    · subst c; rw [upd_same] at e; cases e; exact h
    · rw [upd_ne c] at e; exact eb a o e, .lst upd_same (dpAll_ex (Ex.new bp) _ _ hd)⟩
end GK

namespace GK
open PySem PySem.Spec PyProof.Rows L2
open Evl (Ex ex_l ex_t ex_rd sq_of st_of sz_of sz_lt fresh_back)
/-! ### the first place of a sign -/
theorem occ_done (s sub : Str) (hi : Nat) : ∀ (l : List Nat) (st : Array Nat × Nat), ¬ st.fst.size < 1 → (forIn l st (StrLaws.occBody s sub hi 1)).run = st
  | [], st, _ => rfl
  | a :: l, st, h => by
    rw [List.forIn_cons]
    unfold StrLaws.occBody
    rw [if_neg (fun z => h z.1.1.1)]
    exact occ_done s sub hi l st h
theorem tw_imp {p : Nat → Bool} {l : List Nat} {a : Nat} (h : a ∈ l.takeWhile p) : p a = true := List.all_eq_true.mp (List.all_takeWhile (p := p) (l := l)) a h
theorem sub1 (x : Str) (c i : Nat) : Builtin.Str.subAt x ⟨#[c]⟩ i = (((tl x).drop i).take 1 == [c]) := StrLaws.subAt_eq _ _ _
theorem occ_go (x : Str) (c lo : Nat) : ∀ (m k : Nat), k + m = x.length + 1 → lo ≤ k →
    (forIn (List.range' k m) ((#[] : Array Nat), lo) (StrLaws.occBody x ⟨#[c]⟩ x.length 1)).run.fst.toList = if c ∈ (tl x).drop k then [k + (((tl x).drop k).takeWhile (· != c)).length] else []
  | 0, k, hk, _ => by
    rw [List.drop_eq_nil_of_le (by rw [← len_tl]; omega)]; rfl
  | m + 1, k, hk, hlo => by
    rw [List.range'_succ, List.forIn_cons]
    have hl1 : (⟨#[c]⟩ : Str).length = 1 := rfl
    by_cases hc : ((tl x).drop k).head? = some c
    · cases hd : (tl x).drop k with
      | nil => rw [hd] at hc; cases hc
      | cons a r =>
        rw [hd] at hc
        have ha : a = c := by simpa using hc
        subst ha
        have hlen : k < x.length := by
          rw [len_tl]
          rcases Nat.lt_or_ge k (tl x).length with z | z
          · exact z
          · rw [List.drop_eq_nil_of_le z] at hd; cases hd
        unfold StrLaws.occBody
        rw [if_pos ⟨⟨⟨by show 0 < 1; decide, hlo⟩, by rw [hl1]; omega⟩, by rw [sub1, hd]; simp⟩]
        show (forIn (List.range' (k + 1) m) _ (StrLaws.occBody x ⟨#[a]⟩ x.length 1)).run.fst.toList = _
        rw [occ_done _ _ _ _ _ (by simp), if_pos List.mem_cons_self]
        simp
    · have hsub : ¬ (Builtin.Str.subAt x ⟨#[c]⟩ k = true) := by
        rw [sub1]
        cases hd : (tl x).drop k with
        | nil => intro z; simp at z
        | cons a r =>
          intro z
          rw [hd] at hc
          apply hc
          have := eq_of_beq z
          simp at this
          rw [this]; rfl
      unfold StrLaws.occBody
      rw [if_neg (fun z => hsub z.2)]
      have ih := occ_go x c lo m (k + 1) (by omega) (by omega)
      refine Eq.trans ih ?_
      cases hd : (tl x).drop k with
      | nil =>
        have : (tl x).drop (k + 1) = [] := by
          rw [← List.drop_drop, hd]; rfl
        rw [this]; rfl
      | cons a r =>
        have h1 : (tl x).drop (k + 1) = r := by rw [← List.drop_drop, hd]; rfl
        rw [hd] at hc
        have ha : a ≠ c := fun z => hc (by rw [z]; rfl)
        rw [h1]
        by_cases hm : c ∈ r
        · rw [if_pos hm, if_pos (List.mem_cons_of_mem _ hm), List.takeWhile_cons_of_pos (by simpa using ha), List.length_cons]
          congr 1
          omega
        · rw [if_neg hm, if_neg (by intro z; rcases List.mem_cons.mp z with z | z; exact ha z.symm; exact hm z)]
theorem find3_one (x : Str) (c n : Nat) (hn : n ≤ x.length) : Txt.find3 x ⟨#[c]⟩ (n : Int) = if c ∈ (tl x).drop n then ((n + (((tl x).drop n).takeWhile (· != c)).length : Nat) : Int) else -1 := by
  unfold Txt.find3
  have hf : PySem.fromIndex x.length (n : Int) = n := by
    unfold PySem.fromIndex
    rw [if_neg (by omega)]; omega
  rw [hf, StrLaws.occ_eq, occ_go x c n _ n (by omega) (Nat.le_refl _)]
  by_cases h : c ∈ (tl x).drop n
  · rw [if_pos h, if_pos h]
  · rw [if_neg h, if_neg h]
/-! ### the part ahead of a sign -/
theorem split_first {x y : Str} {c : Nat} (hy : tl y = [c]) (hk : ¬ Builtin.Str.strKind x < Builtin.Str.strKind y) (hm : c ∈ tl x) : ∃ r, Txt.split x y = ofL ((tl x).takeWhile (· != c)) :: r := by
  have h1 : tl x = (tl x).takeWhile (· != c) ++ ([c] ++ ((tl x).dropWhile (· != c)).drop 1) := by
    have h0 := List.takeWhile_append_dropWhile (p := (· != c)) (l := tl x)
    have h2 : (tl x).dropWhile (· != c) = c :: ((tl x).dropWhile (· != c)).drop 1 := by
      cases hd : (tl x).dropWhile (· != c) with
      | nil =>
        rw [hd, List.append_nil] at h0
        have hx := h0 ▸ hm
        have := tw_imp hx
        simp at this
      | cons a r =>
        have : ¬ (a != c) = true := by
          have := List.head_dropWhile_not (· != c) (l := tl x) (by rw [hd]; simp)
          simp only [hd, List.head_cons] at this
          rw [this]; decide
        have ha : a = c := by simpa using this
        rw [ha]; rfl
    rw [show [c] ++ ((tl x).dropWhile (· != c)).drop 1 = (tl x).dropWhile (· != c) from h2.symm, h0]
  have hno : c ∉ (tl x).takeWhile (· != c) := fun z => by
    have := tw_imp z
    simp at this
  have hy' : TL.tl y = [c] := hy
  have hs := TL.split_spl x y (by rw [hy']; simp) hk
  rw [hy'] at hs
  have h4 : TL.spl [c] 0 [] (TL.tl x) = ((tl x).takeWhile (· != c)) :: TL.spl [c] 0 [] (((tl x).dropWhile (· != c)).drop 1) := by
    refine (congrArg (TL.spl [c] 0 []) h1).trans ?_
    rw [TL.spl_part1 hno]; rfl
  rw [h4] at hs
  cases hp : Txt.split x y with
  | nil => rw [hp] at hs; cases hs
  | cons a r =>
    rw [hp] at hs
    rw [List.map_cons] at hs
    injection hs with e1 e2
    refine ⟨r, ?_⟩
    congr 1
    apply str_ext
    rw [tl_ofL]
    exact e1
/-! ### texts in order -/
def sle (a b : Str) : Prop := ¬ tl b < tl a
instance (a b : Str) : Decidable (sle a b) := by unfold sle; exact inferInstance
theorem sle_iff {a b : Str} : sle a b ↔ tl a ≤ tl b := Iff.rfl
theorem sle_tr {a b c : Str} (h : sle a b) (h' : sle b c) : sle a c := List.le_trans (α := Nat) h h'
theorem sle_as {a b : Str} (h : sle a b) (h' : sle b a) : a = b := str_ext (List.le_antisymm (α := Nat) h h')
theorem sle_tot (a b : Str) : sle a b ∨ sle b a := List.le_total (α := Nat) (tl a) (tl b)
def ins (x : Str) : List Str → List Str
  | [] => [x]
  | y :: r => if sle x y then x :: y :: r else y :: ins x r
def srtS : List Str → List Str
  | [] => []
  | x :: r => ins x (srtS r)
theorem ins_perm (x : Str) : ∀ l, (ins x l).Perm (x :: l)
  | [] => .refl _
  | y :: r => by
    unfold ins
    split
    · exact .refl _
    · exact ((ins_perm x r).cons y).trans (.swap x y r)
theorem srt_perm : ∀ l, (srtS l).Perm l
  | [] => .refl _
  | x :: r => (ins_perm x (srtS r)).trans ((srt_perm r).cons x)
theorem ins_sort (x : Str) : ∀ {l : List Str}, l.Pairwise sle → (ins x l).Pairwise sle
  | [], _ => List.pairwise_singleton _ _
  | y :: r, h => by
    unfold ins
    obtain ⟨h1, h2⟩ := List.pairwise_cons.mp h
    split
    · rename_i c
      exact List.pairwise_cons.mpr ⟨fun z hz => by
        rcases List.mem_cons.mp hz with rfl | hz
        · exact c
        · exact sle_tr c (h1 z hz), h⟩
    · rename_i c
      refine List.pairwise_cons.mpr ⟨fun z hz => ?_, ins_sort x h2⟩
      rcases List.mem_cons.mp ((ins_perm x r).mem_iff.mp hz) with rfl | hz
      · exact (sle_tot _ _).resolve_left c
      · exact h1 z hz
theorem srt_sort : ∀ l, (srtS l).Pairwise sle
  | [] => .nil
  | x :: r => ins_sort x (srt_sort r)
theorem srt_uniq : ∀ {l m : List Str}, l.Perm m → l.Pairwise sle → m.Pairwise sle → l = m
  | [], m, p, _, _ => (List.Perm.eq_nil p.symm).symm
  | x :: r, [], p, _, _ => absurd p.length_eq (by simp)
  | x :: r, y :: t, p, h, h' => by
    obtain ⟨h1, h2⟩ := List.pairwise_cons.mp h
    obtain ⟨h3, h4⟩ := List.pairwise_cons.mp h'
    have e : x = y := by
      rcases List.mem_cons.mp (p.mem_iff.mp List.mem_cons_self) with z | z
      · exact z
      · rcases List.mem_cons.mp (p.mem_iff.mpr (List.mem_cons_self (a := y) (l := t))) with w | w
        · exact w.symm
        · exact sle_as (h1 y w) (h3 x z)
    subst e
    rw [srt_uniq (List.Perm.cons_inv p) h2 h4]
theorem rising_pw : ∀ (l : List Str) (x : Str), risingS x l = true → (x :: l).Pairwise sle
  | [], x, _ => List.pairwise_singleton _ _
  | y :: r, x, h => by
    unfold risingS at h
    obtain ⟨a, b⟩ := Bool.and_eq_true_iff.mp h
    have hxy : sle x y := by
      unfold sle
      rw [ltCps_eq, Bool.not_eq_true'] at a
      exact of_decide_eq_false a
    have ih := rising_pw r y b
    refine List.pairwise_cons.mpr ⟨fun z hz => ?_, ih⟩
    rcases List.mem_cons.mp hz with rfl | hz
    · exact hxy
    · exact sle_tr hxy ((List.pairwise_cons.mp ih).1 z hz)
theorem sortedS_pw : ∀ {l : List Str}, sortedS l = true → l.Pairwise sle
  | [], _ => .nil
  | x :: r, h => rising_pw r x h
theorem srt_of {ys xs : List Str} (p : ys.Perm xs) (h : sortedS ys = true) : ys = srtS xs := srt_uniq (p.trans (srt_perm xs).symm) (sortedS_pw h) (srt_sort xs)
theorem srt_ext {xs ys : List Str} (p : xs.Perm ys) : srtS xs = srtS ys := srt_uniq ((srt_perm xs).trans (p.trans (srt_perm ys).symm)) (srt_sort _) (srt_sort _)
theorem srt_filter (c : Str → Bool) (l : List Str) : (srtS l).filter c = srtS (l.filter c) := srt_uniq (((srt_perm l).filter c).trans (srt_perm _).symm) ((srt_sort l).filter c) (srt_sort _)
/-! ### each once -/
def addS (acc : List Str) (x : Str) : List Str := if x ∈ acc then acc else acc ++ [x]
def ddS (l : List Str) : List Str := l.foldl addS []
theorem add_mem {acc : List Str} {x y : Str} : y ∈ addS acc x ↔ y ∈ acc ∨ y = x := by
  unfold addS
  split
  · rename_i h
    constructor
    · exact .inl
    · rintro (z | rfl)
      · exact z
      · exact h
  · rw [List.mem_append, List.mem_singleton]
theorem add_nd {acc : List Str} {x : Str} (h : acc.Nodup) : (addS acc x).Nodup := by
  unfold addS
  split
  · exact h
  · rename_i c
    exact List.nodup_append.mpr ⟨h, List.nodup_cons.mpr ⟨fun z => (nomatch z), List.nodup_nil⟩, fun a ha b hb => by rw [List.mem_singleton.mp hb]; exact fun z => c (z ▸ ha)⟩
theorem fold_mem {y : Str} : ∀ (l acc : List Str), y ∈ l.foldl addS acc ↔ y ∈ acc ∨ y ∈ l
  | [], acc => by simp
  | x :: r, acc => by rw [List.foldl_cons, fold_mem r, add_mem, List.mem_cons, or_assoc]
theorem fold_nd : ∀ (l acc : List Str), acc.Nodup → (l.foldl addS acc).Nodup
  | [], acc, h => h
  | x :: r, acc, h => fold_nd r _ (add_nd h)
theorem dd_mem {l : List Str} {y : Str} : y ∈ ddS l ↔ y ∈ l := by
  unfold ddS
  rw [fold_mem]
  simp
theorem dd_nd (l : List Str) : (ddS l).Nodup := fold_nd l [] List.nodup_nil
theorem dd_perm {l m : List Str} (h : ∀ y, y ∈ l ↔ y ∈ m) : (ddS l).Perm (ddS m) := (List.perm_ext_iff_of_nodup (dd_nd l) (dd_nd m)).mpr fun y => by rw [dd_mem, dd_mem, h]
theorem dd_len (l : List Str) : (ddS l).length ≤ l.length := by
  unfold ddS
  suffices h : ∀ (l acc : List Str), (l.foldl addS acc).length ≤ acc.length + l.length by simpa using h l []
  intro l
  induction l with
  | nil => intro acc; exact Nat.le_refl _
  | cons x r ih =>
    intro acc
    rw [List.foldl_cons, List.length_cons]
    have h1 := ih (addS acc x)
    have h2 : (addS acc x).length ≤ acc.length + 1 := by
      unfold addS
      split
      · omega
      · rw [List.length_append]; exact Nat.le_refl _
    omega
end GK

namespace GK
open PySem PySem.Spec PyProof.Rows L2
open Evl (Ex ex_l ex_t ex_rd sq_of st_of sz_of sz_lt fresh_back)
/-! ### more rules -/
def rFind3 : V → List V → Hp → VK → Prop := fun x xs H Q => ∃ (a b : Str) (i : Int), x = .str a ∧ xs = [.str b, .int i] ∧ Q (.int (Txt.find3 a b i)) H
theorem mtr_find3 {X : Cx} : MtR X "str.find" rFind3 := mt_find3
def rSortDS : List V → Hp → VK → Prop := fun xs H Q => ∃ (a : Addr) (kvs : List (Key × V)) (ks : List Str), xs = [.ref a] ∧ Rd H a (.dK kvs) ∧ kvs.map (·.1) = ks.map Sum.inr ∧ ks.length < 64 ∧
    ∀ ys p, ys.Perm ks → sortedS ys = true → H p = none → Q (.ref p) (upd H p (.lst (ys.map V.str)))
theorem cr_sortDS {X : Cx} (h : X.calm = true) : CallR X (.builtin "sorted") rSortDS := call_sortedD h
def rSortDI : List V → Hp → VK → Prop := fun xs H Q => ∃ (a : Addr) (kvs : List (Key × V)) (ks : List Int), xs = [.ref a] ∧ Rd H a (.dK kvs) ∧ kvs.map (·.1) = ks.map Sum.inl ∧ ks.length < 64 ∧
    ∀ (ys : List Int) (p : Addr), ys.Perm ks → ys.Pairwise (· ≤ ·) → H p = none → Q (.ref p) (upd H p (.lst (ys.map V.int)))
theorem cr_sortDI {X : Cx} (h : X.calm = true) : CallR X (.builtin "sorted") rSortDI := call_sortedDI h
def rSrtS (K : PySem.W.Frag) : List V → Hp → VK → Prop := rSortedS K
theorem cr_srtS {X : Cx} : CallR X (.builtin "sorted") (rSrtS X.K) := cr_sortedS
def rSrtI (K : PySem.W.Frag) : List V → Hp → VK → Prop := rSorted K
theorem cr_srtI {X : Cx} : CallR X (.builtin "sorted") (rSrtI X.K) := cr_sorted
def rListOf (K : PySem.W.Frag) : List V → Hp → VK → Prop := fun xs H Q => ∃ p ys, xs = [.ref p] ∧ (SqL K H p ys ∨ SqT K H p ys) ∧ ∀ l, H l = none → Q (.ref l) (upd H l (.lst ys))
theorem cr_listOf {X : Cx} : CallR X (.type "list") (rListOf X.K) := call_list_of
def rListD0 : List V → Hp → VK → Prop := fun xs H Q => ∃ (a : Addr) (kvs : List (Key × V)), xs = [.ref a] ∧ Rd H a (.dK kvs) ∧ ∀ p, H p = none → Q (.ref p) (upd H p (.lst (kvs.map fun kv => kV kv.1)))
theorem cr_listD {X : Cx} (h : X.calm = true) : CallR X (.type "list") rListD0 := call_listD h
section
variable {K : PySem.W.Frag} {σ : Sig} {B B' H H' : Hp} {te ta tb tc : TE} {tt : TT} {d d1 d2 : PyData} {v : V} {D : Ends} {tx tz tu : TS} {i : Nat}
theorem evd_find3 {x y : Str} {n : Int} (h : EvD ta σ B H (.str x)) (h1 : EvD tb σ B H (.str y)) (h2 : EvD tc σ B H (.int n)) : EvD (tBM K "str" rFind3 ta (tCons tb (tCons tc tNil))) σ B H (.int (Txt.find3 x y n)) := fun H1 e eb Q q => h.flat (fun _ _ => dps) e eb fun H2 e2 =>
  ⟨rfl, h1.flat (fun _ _ => dps) (e.trans e2) (eb.trans e2) fun H3 e3 => h2.flat (fun _ _ => dpi) ((e.trans e2).trans e3) ((eb.trans e2).trans e3) fun H4 e4 =>
    ⟨x, y, n, rfl, rfl, q _ H4 B ((e2.trans e3).trans e4) (Ext.refl _ _) (((eb.trans e2).trans e3).trans e4) (.int _)⟩⟩
theorem evd_sortDS {p : Addr} {kvs : List (Key × V)} {ks : List Str} (h : EvF ta σ H (.ref p)) (hp : H p = some (.dK kvs)) (hk : kvs.map (·.1) = ks.map Sum.inr) (hl : ks.length < 64) : EvD (tCB rSortDS (tCons ta tNil)) σ B H (.list ((srtS ks).map .str)) := fun H1 e eb Q q => h H1 e _ fun H2 e2 =>
  ⟨p, kvs, ks, rfl, .inl (e2 _ _ (e _ _ hp)), hk, hl, fun ys l py so hl' => by
    rw [srt_of py so]
    exact q _ _ (upd B l (.lst ((srtS ks).map V.str))) (e2.trans (Ex.new hl')) (Ext.new eb (fresh_back e2 hl')) (ex_upd2 (eb.trans e2)) (.lst upd_same (dpa_ofStrs _))⟩
theorem evd_srtS {ks : List Str} (h : EvD ta σ B H (.list (ks.map .str))) (hl : ks.length < 64 := by first | with_reducible assumption | omega) : EvD (tCB (rSrtS K) (tCons ta tNil)) σ B H (.list ((srtS ks).map .str)) := evd_cb (evs_cons h evs_nil) fun H1 B1 vs _ _ eb hd Q q => by
  obtain ⟨v, rfl, hv⟩ := dpa1 hd
  obtain ⟨a, xs, rfl, hs, hx⟩ := dpl hv
  refine ⟨a, ks, rfl, by rw [← dpa_strs hx]; exact sq_of (eb _ _ hs), hl, fun ys l py so hl' => ?_⟩
  rw [srt_of py so]
  exact q _ _ (upd B1 l (.lst ((srtS ks).map V.str))) (Ex.new hl') (Ext.new eb hl') (ex_upd2 eb) (.lst upd_same (dpa_ofStrs _))
theorem inV_strs (x : Str) (ks : List Str) : inV (.str x) (ks.map V.str) = decide (x ∈ ks) := by
  unfold inV
  induction ks with
  | nil => rfl
  | cons k r ih =>
    rw [List.map_cons, List.any_cons, ih]
    show (k == x || _) = _
    by_cases c : k = x
    · subst c; rw [beq_self_eq_true, Bool.true_or, decide_eq_true List.mem_cons_self]
    · rw [beq_eq_false_iff_ne.mpr c, Bool.false_or, decide_eq_decide]
      constructor
      · exact List.mem_cons_of_mem _
      · intro z
        rcases List.mem_cons.mp z with z | z
        · exact absurd z.symm c
        · exact z
theorem flat_strs (ks : List Str) : (ks.map V.str).all flatV = true := by
  rw [List.all_map]
  exact List.all_eq_true.mpr fun _ _ => rfl
theorem evd_in {neg : Bool} {x : Str} {ks : List Str} (h : EvD ta σ B H (.str x)) (h' : EvD tb σ B H (.list (ks.map .str)) ∨ EvD tb σ B H (.tuple (ks.map .str))) : EvD (tOp (rIn K neg) ta tb) σ B H (.bool (if neg then !decide (x ∈ ks) else decide (x ∈ ks))) := fun H1 e eb Q q => h.flat (fun _ _ => dps) e eb fun H2 e2 => by
  rcases h' with h' | h'
  · refine h' H2 (e.trans e2) (eb.trans e2) _ fun v H3 B3 e3 x3 eb3 hv => ?_
    obtain ⟨a, xs, rfl, hs, hx⟩ := dpl hv
    rw [dpa_strs hx] at hs
    refine ⟨a, _, rfl, .inl (sq_of (eb3 _ _ hs)), rfl, flat_strs ks, ?_⟩
    rw [inV_strs]
    exact q _ H3 B (e2.trans e3) (Ext.refl _ _) ((eb.trans e2).trans e3) (.bl _)
  · refine h' H2 (e.trans e2) (eb.trans e2) _ fun v H3 B3 e3 x3 eb3 hv => ?_
    obtain ⟨a, xs, rfl, hs, hx⟩ := dpt hv
    rw [dpa_strs hx] at hs
    refine ⟨a, _, rfl, .inr (st_of (eb3 _ _ hs)), rfl, flat_strs ks, ?_⟩
    rw [inV_strs]
    exact q _ H3 B (e2.trans e3) (Ext.refl _ _) ((eb.trans e2).trans e3) (.bl _)
theorem evd_inL {x : Str} {ks : List Str} (h : EvD ta σ B H (.str x)) (h' : EvD tb σ B H (.list (ks.map .str))) : EvD (tOp (rIn K false) ta tb) σ B H (.bool (decide (x ∈ ks))) := evd_in h (.inl h')
theorem evd_notInL {x : Str} {ks : List Str} (h : EvD ta σ B H (.str x)) (h' : EvD tb σ B H (.list (ks.map .str))) : EvD (tOp (rIn K true) ta tb) σ B H (.bool (!decide (x ∈ ks))) := evd_in h (.inl h')
theorem evd_inT {x : Str} {ks : List Str} (h : EvD ta σ B H (.str x)) (h' : EvD tb σ B H (.tuple (ks.map .str))) : EvD (tOp (rIn K false) ta tb) σ B H (.bool (decide (x ∈ ks))) := evd_in h (.inr h')
theorem evd_isBl {a b : Bool} (ha : EvD ta σ B H (.bool a)) (hb : EvD tb σ B H (.bool b)) : EvD (tOp rIsB ta tb) σ B H (.bool (decide (a = b))) := evd_op2 ha (fun _ _ => dpb) hb (fun _ _ => dpb) (fun _ _ q => ⟨a, b, rfl, rfl, q⟩) fun _ => .bl _
theorem evd_listT {ds : List PyData} (h : EvD ta σ B H (.tuple ds)) : EvD (tCB (rListOf K) (tCons ta tNil)) σ B H (.list ds) := evd_cb (evs_cons h evs_nil) fun H1 B1 vs _ _ eb hd Q q => by
  obtain ⟨v, rfl, hv⟩ := dpa1 hd
  obtain ⟨a, xs, rfl, hs, hx⟩ := dpt hv
  exact ⟨a, xs, rfl, .inr (st_of (eb _ _ hs)), fun l hl => q _ _ (upd B1 l (.lst xs)) (Ex.new hl) (Ext.new eb hl) (ex_upd2 eb) (.lst upd_same (dpAll_ex (Ex.new (fresh_back eb hl)) _ _ hx))⟩
/-! ### a list that grows, a dict that grows: outside the frame -/
theorem q_app {p : Addr} {xs : List V} {D : Ends} {i : Nat} (hv : σ[i]? = some (some (.ref p))) (h : EvD ta σ B H d) (eb : Ex B H) (hp : H p = some (.lst xs)) (hl : xs.length < 100000) (k : ∀ v H1 B1, Ex H H1 → Ext B H B1 → Ex B1 H1 → Da B1 v d → D.nx σ (upd H1 p (.lst (xs ++ [v])))) : tDrop (tBM K "list" rAppend (tVar i) (tCons ta tNil)) D σ H :=
  ⟨_, hv, .inl ⟨rfl, _, sq_of hp⟩, h.run eb fun v H1 B1 e1 x1 eb1 hd => ⟨p, xs, v, rfl, rfl, e1 _ _ hp, sz_lt hl, k v H1 B1 e1 x1 eb1 hd⟩⟩
theorem q_dnew {i : Nat} (k : ∀ p, H p = none → tz D (σ.set i (some (.ref p))) (upd H p (.dK []))) : tSeq (tAsg tDNewK (gName i)) tz D σ H := fun p hp => k p hp
theorem q_lnew {i : Nat} (k : ∀ p, H p = none → tz D (σ.set i (some (.ref p))) (upd H p (.lst []))) : tSeq (tAsg (tLst tNil) (gName i)) tz D σ H := ⟨Nat.zero_le _, fun p hp => k p hp⟩
theorem s_dput {p : Addr} {kvs : List (Key × V)} {x : Str} {i : Nat} (hv : σ[i]? = some (some (.ref p))) (ht : EvD ta σ B H (.str x)) (hd : EvD tb σ B H d) (eb : Ex B H) (hp : H p = some (.dK kvs)) (hl : kvs.length < 100000) (k : ∀ v H1 B1, Ex H H1 → Ext B H B1 → Ex B1 H1 → Da B1 v d → D.nx σ (upd H1 p (.dK (putK kvs (.inr x) v)))) : sDPut (tVar i) ta tb D σ H :=
  hd.run eb fun v H1 B1 e1 x1 eb1 hdv => ⟨_, hv, ht.flat (fun _ _ => dps) e1 (eb.trans e1) fun H2 e2 => ⟨p, _, rfl, DPut.k (k := .inr x) (e2 _ _ (e1 _ _ hp)) (sz_lt hl), k v H2 B1 (e1.trans e2) x1 (eb1.trans e2) hdv⟩⟩
end
end GK

namespace GK
open PySem PySem.Spec PyProof.Rows L2
open Evl (Ex ex_l ex_t ex_rd sq_of st_of sz_of sz_lt fresh_back)
theorem starts_tl' (x y : Str) : Txt.startswith x y = decide ((tl x).take (tl y).length = tl y) := by
  unfold Txt.startswith
  rw [StrLaws.subAt_eq, List.drop_zero, ← show (tl y).length = y.length from (len_tl y).symm]
  show (_ && ((tl x).take (tl y).length == tl y)) = _
  by_cases c : (tl x).take (tl y).length = tl y
  · rw [decide_eq_true c, c, beq_self_eq_true, Bool.and_true]
    refine decide_eq_true ?_
    have := congrArg List.length c
    rw [List.length_take] at this
    rw [len_tl x, Nat.zero_add]
    omega
  · rw [decide_eq_false c]
    have : ((tl x).take (tl y).length == tl y) = false := by
      cases h : ((tl x).take (tl y).length == tl y) with
      | false => rfl
      | true => exact absurd (eq_of_beq h) c
    rw [this, Bool.and_false]
theorem cutL_to {α : Type} (l : List α) (n : Nat) : (l.drop 0).take (min n l.length - 0) = l.take n := by
  rw [List.drop_zero, Nat.sub_zero]
  rcases Nat.le_total n l.length with c | c
  · rw [Nat.min_eq_left c]
  · rw [Nat.min_eq_right c, List.take_length, List.take_of_length_le c]
theorem cut_to (x : Str) (n : Nat) : tl (cutS x none (some (n : Int))) = (tl x).take n := by
  rw [tl_cut, sIx_none, sIx_pos (by omega), len_tl, Int.toNat_natCast]
  exact cutL_to _ _
theorem cutS_to (x : Str) (n : Nat) : cutS x none (some (n : Int)) = ofL ((tl x).take n) := str_ext (by rw [cut_to, tl_ofL])
theorem cutD_to (l : List Str) (n : Nat) : cutD (l.map .str) none (some (n : Int)) = (l.take n).map .str := by
  unfold cutD
  rw [sIx_none, sIx_pos (by omega), Int.toNat_natCast, List.map_take]
  exact cutL_to _ _
theorem cut_frm (x : Str) (n : Nat) : tl (cutS x (some (n : Int)) none) = (tl x).drop n := by
  rw [tl_cut, sIx_none, sIx_pos (by omega), Int.toNat_natCast]
  rw [List.take_of_length_le (by rw [List.length_drop, ← len_tl]; omega)]
  rcases Nat.le_total n x.length with c | c
  · rw [Nat.min_eq_left c]
  · rw [Nat.min_eq_right c, List.drop_eq_nil_of_le (by rw [← len_tl]; omega), List.drop_eq_nil_of_le (by rw [← len_tl]; omega)]
theorem take_tw {c : Nat} : ∀ {l : List Nat}, c ∈ l → l.take ((l.takeWhile (· != c)).length + 1) = l.takeWhile (· != c) ++ [c]
  | [], h => by cases h
  | a :: r, h => by
    by_cases e : a = c
    · subst e; simp
    · have hm : c ∈ r := by
        rcases List.mem_cons.mp h with z | z
        · exact absurd z.symm e
        · exact z
      rw [List.takeWhile_cons_of_pos (by simpa using e), List.length_cons, List.take_succ_cons, take_tw hm]; rfl
/-! ### entries -/
def mkOk (m : Str) : Prop := m = "" ∨ ∃ c, c < 256 ∧ m = sign c
def startsB (key pre : Str) : Bool := decide ((tl key).take (tl pre).length = tl pre)
def entS (key pre mark : Str) : Str := match tl mark with
  | [] => key
  | c :: _ => if c ∈ (tl key).drop pre.length then ofL ((tl key).take (pre.length + (((tl key).drop pre.length).takeWhile (· != c)).length + 1)) else key
def entsS (keys : List Str) (pre mark : Str) : List Str := (keys.filter (startsB · pre)).map (entS · pre mark)
def gtS (after e : Str) : Bool := decide (tl after < tl e)
def allE (keys : List Str) (pre mark after : Str) : List Str := (srtS (ddS (entsS keys pre mark))).filter (gtS after)
def pageD (keys : List Str) (pre mark after : Str) (most : Nat) : PyData := .tuple [.tuple (((allE keys pre mark after).take most).map .str), .bool (decide ((most : Int) < ((allE keys pre mark after).length : Int)))]
theorem starts_len {key pre : Str} (h : startsB key pre = true) : pre.length ≤ key.length := by
  have := congrArg List.length (of_decide_eq_true h)
  rw [List.length_take] at this
  rw [len_tl, len_tl]
  omega
theorem entS_len (key pre mark : Str) : (entS key pre mark).length ≤ key.length := by
  unfold entS
  split
  · exact Nat.le_refl _
  · split
    · rw [len_tl, tl_ofL, List.length_take, ← len_tl]; omega
    · exact Nat.le_refl _
theorem ents_len (keys : List Str) (pre mark : Str) : (entsS keys pre mark).length ≤ keys.length := by
  unfold entsS
  rw [List.length_map]
  exact List.length_filter_le _ _
theorem all_len (keys : List Str) (pre mark after : Str) : (allE keys pre mark after).length ≤ keys.length := by
  unfold allE
  refine Nat.le_trans (List.length_filter_le _ _) ?_
  rw [(srt_perm _).length_eq]
  exact Nat.le_trans (dd_len _) (ents_len _ _ _)
theorem all_law (keys : List Str) (pre mark after : Str) : srtS (ddS ((entsS keys pre mark).filter (gtS after))) = allE keys pre mark after := by
  unfold allE
  rw [srt_filter]
  refine srt_ext ((List.perm_ext_iff_of_nodup (dd_nd _) ((dd_nd _).filter _)).mpr fun y => ?_)
  rw [dd_mem, List.mem_filter, List.mem_filter, dd_mem]
theorem all_ext {keys keys' : List Str} (h : ∀ x, x ∈ keys ↔ x ∈ keys') (pre mark after : Str) : allE keys pre mark after = allE keys' pre mark after := by
  unfold allE
  rw [srt_ext (dd_perm fun y => ?_)]
  unfold entsS
  simp only [List.mem_map, List.mem_filter, h]
theorem page_ext {keys keys' : List Str} (h : ∀ x, x ∈ keys ↔ x ∈ keys') (pre mark after : Str) (most : Nat) : pageD keys pre mark after most = pageD keys' pre mark after most := by
  unfold pageD
  rw [all_ext h]
theorem ex_mutF {A H : Hp} {p : Addr} {o : HO} (e : Ex A H) (h : A p = none) : Ex A (upd H p o) := fun a u x => by
  by_cases c : a = p
  · subst c; rw [h] at x; cases x
  · rw [upd_ne c]; exact e a u x
def sp_entry_of (K : PySem.W.Frag) : Sp := fun vs H Q _ => ∃ (B : Hp) (key pre mark : Str), Ex B H ∧ vs = [.str key, .str pre, .str mark] ∧ mkOk mark ∧ key.length ≤ 1000 ∧ pre.length ≤ key.length ∧ Ret (.str (entS key pre mark)) B H Q
theorem len_entry_of {K : PySem.W.Frag} {vs : List V} {H : Hp} {Q : VK} {E : XK} (h : sp_entry_of K vs H Q E) : vs.length = 3 := by
  obtain ⟨_, _, _, _, _, rfl, _⟩ := h; rfl
def t_entry_of (K : PySem.W.Frag) (E : XK) : TS :=
  (tSeq (tIfS (tTest (tOp rEq (tVar 2) (tC (.str "")))) (tRet (tVar 0)) tNext)
    (tSeq (tAsg (tBM K "str" rFind3 (tVar 0) (tCons (tVar 2) (tCons (tCB rLenStr (tCons (tVar 1) tNil)) tNil))) (gName 3))
    (tSeq (tIfS (tTest (tOp (rI0 fun i j => .bl (decide (i < j))) (tVar 3) (tC (.int 0)))) (tRet (tVar 0)) tNext)
    (tRet (tSl rSlS (tVar 0) tNoPart (tPart (tOp (rI0 fun i j => .int (i + j)) (tVar 3) (tC (.int 1)))))))))
theorem pure_entry_of {K : PySem.W.Frag}  {vs : List V} {H : Hp} {Q : VK} {E : XK} (h : sp_entry_of K vs H Q E) : t_entry_of K E { nx := fun _ H' => Q .non H', rt := Q } (start ["key", "prefix", "mark", "place"] vs) H := by
  obtain ⟨B, key, pre, mark, eb, rfl, hm, hl, hp, r⟩ := h
  have hpl : pre.length ≤ 1000000 := by omega
  rcases hm with rfl | ⟨c, hc, rfl⟩
  · refine q_when (b := true) (B := B) (EvB.is (evb_test (evd_eqS (evd_varS rfl) evd_cs)) (by simp)) eb (fun _ H1 h1 eb1 => ?_) (fun z => nomatch z)
    exact s_ret (B := B) (evd_varS rfl) eb1 (Ret.grow r h1 (Ext.refl _ _))
  · refine q_pass (B := B) (EvB.is (evb_test (evd_eqS (evd_varS rfl) evd_cs)) (decide_eq_false (fun z => by have := congrArg Str.length z; exact absurd (show 1 = 0 from this) (by decide)))) eb (fun H1 h1 eb1 => ?_)
    have hent : entS key pre (sign c) = if c ∈ (tl key).drop pre.length then ofL ((tl key).take (pre.length + (((tl key).drop pre.length).takeWhile (· != c)).length + 1)) else key := rfl
    rw [hent] at r
    by_cases hin : c ∈ (tl key).drop pre.length
    · rw [if_pos hin] at r
      refine q_asgI (B := B) (n := ((pre.length + (((tl key).drop pre.length).takeWhile (· != c)).length : Nat) : Int)) (EvD.is (evd_find3 (evd_varS rfl) (evd_varS rfl) (evd_lenS (evd_varS rfl))) (by show PyData.int (Txt.find3 key ⟨#[c]⟩ _) = _; rw [find3_one _ _ _ hp, if_pos hin])) eb1 fun H2 h2 eb2 => ?_
      refine q_pass (B := B) (EvB.is (evb_test (evd_B0 (evd_varI rfl) evd_ci)) (decide_eq_false (by omega))) eb2 fun H3 h3 eb3 => ?_
      refine s_ret (B := B) (d := .str _) (EvD.is (evd_slS (evd_varS rfl) evo_none (evo_some (evd_I0 (evd_varI rfl) evd_ci))) ?_) eb3 (Ret.grow r ((h1.trans h2).trans h3) (Ext.refl _ _))
      rw [← cutS_to]; rfl
    · rw [if_neg hin] at r
      refine q_asgI (B := B) (n := -1) (EvD.is (evd_find3 (evd_varS rfl) (evd_varS rfl) (evd_lenS (evd_varS rfl))) (by show PyData.int (Txt.find3 key ⟨#[c]⟩ _) = _; rw [find3_one _ _ _ hp, if_neg hin])) eb1 fun H2 h2 eb2 => ?_
      refine q_when (b := true) (B := B) (EvB.is (evb_test (evd_B0 (evd_varI rfl) evd_ci)) rfl) eb2 (fun _ H3 h3 eb3 => ?_) (fun z => nomatch z)
      exact s_ret (B := B) (evd_varS rfl) eb3 (Ret.grow r ((h1.trans h2).trans h3) (Ext.refl _ _))
section
variable {K : PySem.W.Frag} {σ : Sig} {B H : Hp} {te ta tb tc td tf : TE} {d : PyData} {E : XK}
theorem cev_entry_of {key pre mark : Str} (ha : EvD ta σ B H (.str key)) (hb : EvD tb σ B H (.str pre)) (hc : EvD tc σ B H (.str mark)) (hm : mkOk mark) (hl : key.length ≤ 1000) (hp : pre.length ≤ key.length) : EvD (tCall (sp_entry_of K) [] E (tCons ta (tCons tb (tCons tc tNil)))) σ B H (.str (entS key pre mark)) := evd_call (evs_cons ha (evs_cons hb (evs_cons hc evs_nil))) fun H1 B1 vs _ _ eb hd Q q => by
  obtain ⟨v, u, w, rfl, hv, hu, hw⟩ := dpa3 hd
  cases hv
  cases hu
  cases hw
  exact ⟨B1, key, pre, mark, eb, rfl, hm, hl, hp, q⟩
end
theorem putK_keys {κ : Type} [DecidableEq κ] (kvs : List (κ × V)) (k : κ) (v : V) : (putK kvs k v).map (·.1) = if k ∈ kvs.map (·.1) then kvs.map (·.1) else kvs.map (·.1) ++ [k] := by
  unfold putK
  by_cases c : k ∈ kvs.map (·.1)
  · rw [if_pos c, if_pos (by
      obtain ⟨x, hx, e⟩ := List.mem_map.mp c
      exact List.any_eq_true.mpr ⟨x, hx, decide_eq_true e⟩), List.map_map]
    refine List.map_congr_left fun x _ => ?_
    show (if x.1 = k then (x.1, v) else x).1 = x.1
    split <;> rfl
  · rw [if_neg c, if_neg (by
      intro z
      obtain ⟨x, hx, e⟩ := List.any_eq_true.mp z
      exact c (List.mem_map.mpr ⟨x, hx, of_decide_eq_true e⟩)), List.map_append]; rfl
theorem put_add {kvs : List (Key × V)} {ks : List Str} (h : kvs.map (·.1) = ks.map Sum.inr) (x : Str) (v : V) : (putK kvs (.inr x) v).map (·.1) = (addS ks x).map Sum.inr := by
  rw [putK_keys, h]
  unfold addS
  by_cases c : x ∈ ks
  · rw [if_pos c, if_pos (List.mem_map.mpr ⟨x, c, rfl⟩)]
  · rw [if_neg c, if_neg (by
      intro z
      obtain ⟨y, hy, e⟩ := List.mem_map.mp z
      exact c (by injection e with e; exact e ▸ hy)), List.map_append]; rfl
theorem ents_snoc (keys : List Str) (k pre mark : Str) : entsS (keys ++ [k]) pre mark = if startsB k pre = true then entsS keys pre mark ++ [entS k pre mark] else entsS keys pre mark := by
  unfold entsS
  rw [List.filter_append]
  by_cases c : startsB k pre = true
  · rw [if_pos c, List.filter_cons_of_pos (p := (startsB · pre)) c, List.map_append]; rfl
  · rw [if_neg c, List.filter_cons_of_neg (p := (startsB · pre)) c]
    show List.map _ (_ ++ []) = _
    rw [List.append_nil]
theorem dd_snoc (l : List Str) (x : Str) : ddS (l ++ [x]) = addS (ddS l) x := by
  unfold ddS
  rw [List.foldl_append]; rfl
theorem take_snoc {α : Type} {l : List α} {i : Nat} {x : α} (h : l[i]? = some x) : l.take (i + 1) = l.take i ++ [x] := by
  rw [List.take_succ, h]; rfl
def sp_listed (K : PySem.W.Frag) : Sp := fun vs H Q _ => ∃ (B : Hp) (v : V) (keys : List Str) (pre mark after : Str) (most : Nat), Ex B H ∧ vs = [v, .str pre, .str mark, .str after, .int (most : Int)] ∧ Da B v (.tuple (keys.map .str)) ∧ mkOk mark ∧ keys.length < 64 ∧ (∀ k ∈ keys, k.length ≤ 1000) ∧ Ret (pageD keys pre mark after most) B H Q
theorem len_listed {K : PySem.W.Frag} {vs : List V} {H : Hp} {Q : VK} {E : XK} (h : sp_listed K vs H Q E) : vs.length = 5 := by
  obtain ⟨_, _, _, _, _, _, _, _, rfl, _⟩ := h; rfl
def t_listed (K : PySem.W.Frag) (E : XK) : TS :=
  (tSeq (tAsg tDNewK (gName 5))
    (tSeq (tFor (iTup K (tVar 0)) (gName 6) (tIfS (tB (tM1 rStarts (tVar 6) (tVar 1))) (sDPut (tVar 5) (tCall (sp_entry_of K) [] E0 (tCons (tVar 6) (tCons (tVar 1) (tCons (tVar 2) tNil)))) (tC (.bl true))) tNext))
    (tSeq (tAsg (tLc (iList K (tCB rSortDS (tCons (tVar 5) tNil))) (gName 8) (tTest (tOp rGtStr (tVar 8) (tVar 3))) (tVar 8) [8]) (gName 7))
    (tRet (tTup (tCons (tCB (rTupleOf K) (tCons (tSl (rSlL K) (tVar 7) tNoPart (tPart (tVar 4))) tNil)) (tCons (tOp (rI0 fun i j => .bl (decide (j < i))) (tCB (rLenSeq K) (tCons (tVar 7) tNil)) (tVar 4)) tNil)))))))
theorem pure_listed {K : PySem.W.Frag}  {vs : List V} {H : Hp} {Q : VK} {E : XK} (h : sp_listed K vs H Q E) : t_listed K E { nx := fun _ H' => Q .non H', rt := Q } (start ["keys", "prefix", "mark", "after", "most", "found", "key", "some", "entry"] vs) H := by
  obtain ⟨B, v, keys, pre, mark, after, most, eb, rfl, hv, hm, hkl, hkx, r⟩ := h
  refine q_dnew fun p hp => ?_
  have bp : B p = none := fresh_back eb hp
  refine q_for (B := B) (src_tup (evd_var rfl (by assumption))) (eb.trans (Ex.new hp)) (fun B1 i σ1 H1 => ∃ (x6 : Option V) (kvs : List (Key × V)), σ1 = [some v, some (.str pre), some (.str mark), some (.str after), some (.int (most : Int)), some (.ref p), x6, none, none] ∧ Ext B H B1 ∧ Ex H H1 ∧ Ex B1 H1 ∧ B1 p = none ∧ H1 p = some (.dK kvs) ∧ kvs.map (·.1) = (ddS (entsS (keys.take i) pre mark)).map Sum.inr)
    (fun H1 B1 e1 x1 eb1 => ⟨_, [], rfl, Ext.trans (Ext.refl _ _) (Ex.new hp) x1, (Ex.new hp).trans e1, eb1, x1.out upd_same bp, e1 _ _ upd_same, rfl⟩) (fun _ _ _ _ _ ⟨_, _, _, _, _, h, _⟩ => h) ?_ ?_
  · rintro B1 i d x σ1 H1 H2 B2 eB hd ⟨x6, kvs, rfl, xB, eH, eb1, bp1, hP, hks⟩ e2 x2 eb2 hx
    rw [List.getElem?_map] at hd
    obtain ⟨key, hkey, rfl⟩ : ∃ key, keys[i]? = some key ∧ d = .str key := by
      cases hk : keys[i]? with
      | none => rw [hk] at hd; cases hd
      | some key => rw [hk] at hd; exact ⟨key, rfl, (Option.some.inj hd).symm⟩
    cases hx
    have hP2 := e2 _ _ hP
    have hlk := hkx key (List.mem_of_getElem? hkey)
    rw [take_snoc hkey] at *
    refine s_when (B := B1) (b := startsB key pre) (EvB.is (evb_B (evd_starts (evd_varS rfl) (evd_varS rfl))) (starts_tl' _ _)) (eb1.trans e2) (fun hb H3 h3 eb3 => ?_) (fun hb H3 h3 eb3 => ?_)
    · have hkk : kvs.length < 100000 := by
        have := congrArg List.length hks
        rw [List.length_map, List.length_map] at this
        have h1 := dd_len (entsS (keys.take i) pre mark)
        have h2 := ents_len (keys.take i) pre mark
        have h3 : (keys.take i).length ≤ keys.length := by rw [List.length_take]; omega
        omega
      refine s_dput (B := B1) rfl (cev_entry_of (evd_varS rfl) (evd_varS rfl) (evd_varS rfl) hm hlk (starts_len hb)) evd_ck eb3 (h3 _ _ hP2) hkk fun u H4 B4 h4 x4 eb4 hu => ?_
      refine ⟨_, _, rfl, xB, ex_mutF (eH.trans ((e2.trans h3).trans h4)) hp, Ex.mut (eb3.trans h4) bp1, bp1, upd_same, ?_⟩
      rw [put_add hks, ents_snoc, if_pos hb, dd_snoc]
    · refine ⟨_, _, rfl, xB, (eH.trans e2).trans h3, eb3, bp1, h3 _ _ hP2, ?_⟩
      rw [ents_snoc, if_neg (by rw [hb]; decide)]
      exact hks
  · rintro B1 σ1 H1 eB ⟨x6, kvs, rfl, xB, eH, eb1, bp1, hP, hks⟩
    rw [List.length_map, List.take_length] at hks
    have h64 : (ddS (entsS keys pre mark)).length < 64 := Nat.lt_of_le_of_lt (Nat.le_trans (dd_len _) (ents_len _ _ _)) hkl
    have es : EvD (tCB rSortDS (tCons (tVar 5) tNil)) [some v, some (.str pre), some (.str mark), some (.str after), some (.int (most : Int)), some (.ref p), x6, none, none] B1 H1 (.list ((srtS (ddS (entsS keys pre mark))).map .str)) := evd_sortDS (evf_var rfl) hP hks h64
    refine q_asg (B := B1) (d := .list ((allE keys pre mark after).map .str)) ?_ eb1 fun u H2 B2 h2 x2 eb2 hu => ?_
    · refine evd_lc (as := srtS (ddS (entsS keys pre mark))) (fun e => .str e) (gtS after) (fun e => .str e) (src_list es) (by rw [(srt_perm _).length_eq]; omega) fun e he y B3 H3 _ _ _ hy R k => ?_
      cases hy
      exact k _ rfl (evb_test (evd_gtS (evd_varS rfl) (evd_varS rfl))) fun _ => (evd_varS rfl)
    · refine s_ret (B := B2) (d := pageD keys pre mark after most) ?_ eb2 (Ret.grow r (eH.trans h2) (Ext.trans xB eH x2))
      refine evd_tup (evs_cons (EvD.is (evd_tupleL (evd_slL (evd_var rfl hu) evo_none (evo_some (evd_varI rfl)))) ?_) (evs_cons (EvD.is (evd_B0 (evd_lenL (evd_var rfl hu)) (evd_varI rfl)) ?_) evs_nil))
      · rw [cutD_to]
      · rw [List.length_map]
section
variable {K : PySem.W.Frag} {σ : Sig} {B H : Hp} {te ta tb tc td tf : TE} {d : PyData} {E : XK}
theorem dpa5 {H : Hp} {vs : List V} {d1 d2 d3 d4 d5 : PyData} (h : DaAll H vs [d1, d2, d3, d4, d5]) : ∃ v1 v2 v3 v4 v5, vs = [v1, v2, v3, v4, v5] ∧ Da H v1 d1 ∧ Da H v2 d2 ∧ Da H v3 d3 ∧ Da H v4 d4 ∧ Da H v5 d5 := by
  cases h with
  | cons h t => obtain ⟨_, _, _, _, rfl, a, b, c, e⟩ := dpa4 t; exact ⟨_, _, _, _, _, rfl, h, a, b, c, e⟩
theorem cev_listed {keys : List Str} {pre mark after : Str} {most : Nat} (ha : EvD ta σ B H (.tuple (keys.map .str))) (hb : EvD tb σ B H (.str pre)) (hc : EvD tc σ B H (.str mark)) (hd : EvD td σ B H (.str after)) (hf : EvD tf σ B H (.int (most : Int))) (hm : mkOk mark) (hl : keys.length < 64) (hx : ∀ k ∈ keys, k.length ≤ 1000) : EvD (tCall (sp_listed K) [] E (tCons ta (tCons tb (tCons tc (tCons td (tCons tf tNil)))))) σ B H (pageD keys pre mark after most) := evd_call (evs_cons ha (evs_cons hb (evs_cons hc (evs_cons hd (evs_cons hf evs_nil))))) fun H1 B1 vs _ _ eb hd Q q => by
  obtain ⟨v1, v2, v3, v4, v5, rfl, h1, h2, h3, h4, h5⟩ := dpa5 hd
  cases h2
  cases h3
  cases h4
  cases h5
  exact ⟨B1, v1, keys, pre, mark, after, most, eb, rfl, h1, hm, hl, hx, q⟩
end
end GK

namespace GK
open PySem PySem.Spec PyProof.Rows L2
/-! ### sets of texts: made of a list or a tuple, then sorted (the road of HandS's sets of ints, turned to texts) -/
def keyT (e : Int × Value) : Str := match e.2 with | .str k _ => k | _ => Str.empty
def GoodT (P : Program) (w : World) (e : Int × Value) : Prop := ∃ k tk, e.2 = Value.str k tk ∧ e.1 = (PySem.strKind P w).hash k
def SetT (P : Program) (w : World) (h : Heap) (a : Addr) (S : Str → Bool) (n : Nat) : Prop :=
  ∃ o es ep t, h.get? a = some o ∧ o.ExactSet ∧ o.data = .set es ep t ∧ (∀ e ∈ es.toList, GoodT P w e) ∧ (es.toList.map keyT).Nodup ∧ (∀ k, S k = true ↔ k ∈ es.toList.map keyT) ∧
    es.size < scanBound ∧ t.fits es.size = true ∧ es.size = n ∧ Ris t.place.toList ∧ (w.params.followText "set-order" = true ∨ t.led = true)
section
variable {P : Program} {w : World} {h h' : Heap} {a : Addr} {S : Str → Bool} {n : Nat}
theorem SetT.at (R : SetT P w h a S n) (k : ∀ o, h.get? a = some o → h'.get? a = some o) : SetT P w h' a S n := by
  obtain ⟨o, es, ep, t, ho, r⟩ := R
  exact ⟨o, es, ep, t, k o ho, r⟩
theorem SetT.congr {S' : Str → Bool} {n' : Nat} (R : SetT P w h a S n) (e : ∀ k, S' k = S k) (en : n' = n) : SetT P w h a S' n' := by
  have q : S' = S := funext e
  rw [q, en]; exact R
theorem goodT_elems {l : List (Int × Value)} (g : ∀ e ∈ l, GoodT P w e) : ElemsOf (PySem.strKind P w) l := fun e he => by
  obtain ⟨k, tk, h1, h2⟩ := g e he
  exact ⟨⟨k, by rw [h1]; exact strKind_is P w k tk, h2⟩, by rw [h1] <;> rfl⟩
theorem goodT_is {e : Int × Value} (g : GoodT P w e) (k : Str) : (PySem.strKind P w).is k e.2 = true ↔ keyT e = k := by
  obtain ⟨k0, tk, h1, _⟩ := g
  unfold keyT
  rw [h1]
  show ((k0 == k) = true) ↔ k0 = k
  exact beq_iff_eq
theorem goodT_mem {l : List (Int × Value)} (g : ∀ e ∈ l, GoodT P w e) (k : Str) : k ∈ l.map keyT ↔ ∃ e ∈ l, (PySem.strKind P w).is k e.2 = true := by
  rw [List.mem_map]
  constructor
  · rintro ⟨e, he, q⟩
    exact ⟨e, he, (goodT_is (g e he) k).2 q⟩
  · rintro ⟨e, he, q⟩
    exact ⟨e, he, (goodT_is (g e he) k).1 q⟩
end
section
variable {P : Program} {w : World} {A : Around} {E : Value → Shared → Prop} {s : Shared} {a : Addr} {S : Str → Bool} {n : Nat}
theorem setT_tail {g : Bool → Sem Unit} (hg : ∀ (b : Bool) (s₁ : Shared) (Q' : Unit → Shared → Prop), Q' () s₁ → wpAny (model P w) A (g b) Q' E s₁)
    {o : Obj} {es : Array (Int × Value)} {ep : Nat} {t : SetTable} (ho : s.heap.get? a = some o) (hex : o.ExactSet) (hd : o.data = .set es ep t)
    {es1 : Array (Int × Value)} {t2 : SetTable} {S' : Str → Bool} (g1 : ∀ e ∈ es1.toList, GoodT P w e) (nd1 : (es1.toList.map keyT).Nodup) (m1 : ∀ k, S' k = true ↔ k ∈ es1.toList.map keyT)
    (hb1 : es1.size < scanBound) (hf2 : t2.fits es1.size = true) (hr : Ris t2.place.toList) (hl : w.params.followText "set-order" = true ∨ t2.led = true) {wasDummy : Bool} {R : Option Bool → Shared → Prop}
    (hR : ∀ h', Heap.SameBut a s.heap h' → SetT P w h' a S' es1.size → R (some true) { s with heap := h' }) :
    wpAny (model P w) A (do
        storeSet a es1 t2
        if (!wasDummy && t2.tooFull) = true then do
            g (relayAll t2 es1 (SetTable.grown es1.size)).2.2
            storeSet a (relayAll t2 es1 (SetTable.grown es1.size)).1 (relayAll t2 es1 (SetTable.grown es1.size)).2.1
            pure (some true)
          else pure (some true)) R E s := by
  refine wpAny_bind (wpAny_storeSet_of ho hd ?_ (fits_of_scanBound hb1))
  have ho1 := store_at (es' := es1) (t' := t2) ho hd
  have sb1 := Heap.SameBut.update s.heap a (Obj.putSet es1 t2)
  split
  · have pm := relayAll_perm t2 es1 (SetTable.grown es1.size)
    have hf3 := relayAll_fits t2 es1 (SetTable.grown es1.size)
    have hr3 := relayAll_ris t2 es1 (SetTable.grown es1.size)
    have hl3 := relayAll_led t2 es1 (SetTable.grown es1.size)
    generalize relayAll t2 es1 (SetTable.grown es1.size) = Z at pm hf3 hr3 hl3 ⊢
    obtain ⟨es2, t3, gave⟩ := Z
    dsimp only at pm hf3 hr3 hl3 ⊢
    have hsz : es2.size = es1.size := by rw [← Array.length_toList, pm.length_eq, Array.length_toList]
    have hb2 : es2.size < scanBound := by rw [hsz]; exact hb1
    refine wpAny_bind (hg _ _ _ ?_)
    refine wpAny_bind (wpAny_storeSet_of ho1 rfl ?_ (fits_of_scanBound hb2))
    have ho2 := store_at (es' := es2) (t' := t3) ho1 rfl
    refine wpAny_pure (hR _ (sb1.trans (Heap.SameBut.update _ a _)) ?_)
    exact ⟨_, es2, _, t3, ho2, hex, rfl, fun e he => g1 e (pm.mem_iff.mp he), (pm.map keyT).nodup_iff.mpr nd1, fun k => (m1 k).trans (pm.map keyT).mem_iff.symm, hb2, hf3, hsz, hr3,
      hl.imp id fun z => by rw [hl3]; exact z⟩
  · exact wpAny_pure (hR _ sb1 ⟨_, es1, _, t2, ho1, hex, rfl, g1, nd1, m1, hb1, hf2, rfl, hr, hl⟩)
theorem setT_add {k : Str} {tk : Tok} {Q : Bool → Shared → Prop} (R : SetT P w s.heap a S n) (room : n + 1 < scanBound)
    (hQ : ∀ h', Heap.SameBut a s.heap h' → SetT P w h' a (fun j => S j || decide (j = k)) (if S k = true then n else n + 1) → Q (!S k) { s with heap := h' }) :
    wpAny (model P w) A (setAddHashed a (.str k tk) ((PySem.strKind P w).hash k)) Q E s := by
  obtain ⟨o, es, ep, t, ho, hex, hd, g, nd, hm, hb, hf, hn, hr, hl⟩ := R
  have hkey : (PySem.strKind P w).is k (.str k tk) = true := strKind_is P w k tk
  have hsc : (Value.str k tk).scannable = true := rfl
  have hel : ElemsOf (PySem.strKind P w) es.toList := goodT_elems g
  unfold setAddHashed setAddHashedIn
  refine wpAny_holding (wpAny_bind (wpAny_setState_of ho hd hf ?_))
  dsimp only
  rw [byScan_of hsc hb hel]
  simp only [↓reduceIte]
  unfold setAddByScan
  refine wpAny_bind ?_
  refine wpAny_bind (wpAny_rule ?_)
  refine wpAny_bind (wpAny_setScan_of hkey ho hd hf hel ?_)
  cases hfi : List.findIdx? (fun e => (PySem.strKind P w).is k e.2) es.toList with
  | some j =>
    dsimp only
    obtain ⟨hj, pj, _⟩ := List.findIdx?_eq_some_iff_getElem.mp hfi
    have hSk : S k = true := (hm k).2 ((goodT_mem g k).2 ⟨es.toList[j], List.getElem_mem hj, pj⟩)
    refine wpAny_pure (wpAny_pure ?_)
    have q := hQ s.heap (Heap.SameBut.refl a s.heap) ⟨o, es, ep, t, ho, hex, hd, g, nd, fun i => by
      rw [Bool.or_eq_true, decide_eq_true_eq, ← hm i]
      exact ⟨fun z => z.elim id (fun e => e ▸ hSk), .inl⟩, hb, hf, by rw [if_pos hSk]; exact hn, hr, hl⟩
    rw [hSk] at q
    exact q
  | none =>
    dsimp only
    have hnk : k ∉ es.toList.map keyT := fun z => by
      obtain ⟨e, he, q⟩ := (goodT_mem g k).1 z
      have c := List.findIdx?_eq_none_iff.mp hfi e he
      rw [q] at c
      cases c
    have hSk : S k = false := by
      cases q : S k with
      | false => rfl
      | true => exact absurd ((hm k).1 q) hnk
    have hgw : ∀ (b : Bool) {s₁ : Shared} {Q' : Unit → Shared → Prop}, Q' () s₁ → wpAny (model P w) A (match b with | true => rule "set.scan.the-table-gave-way" | false => pure ()) Q' E s₁ :=
      fun b s₁ Q' q => by cases b <;> first | exact wpAny_pure q | exact wpAny_rule q
    have pm := layNew_perm t es ((PySem.strKind P w).hash k) (.str k tk)
    have hf1 := layNew_fits t es ((PySem.strKind P w).hash k) (.str k tk)
    have hr1 := layNew_ris t es ((PySem.strKind P w).hash k) (.str k tk) hr
    have hl1 := layNew_led t es ((PySem.strKind P w).hash k) (.str k tk)
    generalize layNew t es ((PySem.strKind P w).hash k) (.str k tk) = Z at pm hf1 hr1 hl1 ⊢
    obtain ⟨es1, t1, wasDummy, gave⟩ := Z
    dsimp only at pm hf1 hr1 hl1 ⊢
    rw [Array.toList_push] at pm
    have pc : es1.toList.Perm (((PySem.strKind P w).hash k, Value.str k tk) :: es.toList) := pm.trans (List.perm_append_singleton _ _)
    have pk : (es1.toList.map keyT).Perm (k :: es.toList.map keyT) := pc.map keyT
    have g1 : ∀ e ∈ es1.toList, GoodT P w e := fun e he => by
      rcases List.mem_cons.mp (pc.mem_iff.mp he) with z | z
      · rw [z]; exact ⟨k, tk, rfl, rfl⟩
      · exact g e z
    have nd1 : (es1.toList.map keyT).Nodup := pk.nodup_iff.mpr (List.nodup_cons.mpr ⟨hnk, nd⟩)
    have m1 : ∀ i, (S i || decide (i = k)) = true ↔ i ∈ es1.toList.map keyT := fun i => by
      rw [Bool.or_eq_true, decide_eq_true_eq, hm i, pk.mem_iff, List.mem_cons]
      exact Or.comm
    have hsz : es1.size = n + 1 := by rw [← Array.length_toList, pc.length_eq, List.length_cons, Array.length_toList, hn]
    have hb1 : es1.size < scanBound := by rw [hsz]; exact room
    have hled : w.params.followText "set-order" = true ∨ t1.led = true := hl.imp id fun z => by rw [hl1]; exact z
    have fin : ∀ h', Heap.SameBut a s.heap h' → SetT P w h' a (fun j => S j || decide (j = k)) es1.size → Q true { s with heap := h' } := fun h' sb r => by
      have q := hQ h' sb
      rw [hSk] at q
      rw [hsz] at r
      exact q r
    refine wpAny_bind (hgw _ ?_)
    split
    · refine wpAny_bind ?_
      rw [hashByValue_scannable 8 hsc]
      refine wpAny_pure ?_
      refine setT_tail ?_ ho hex hd g1 nd1 m1 hb1 ?_ ?_ ?_ ?_
      · intro b s₁ Q' q; cases b <;> first | exact wpAny_pure q | exact wpAny_rule q
      · first | (split <;> first | exact hf1 | exact SetTable.fits_plain_off hf1) | exact hf1
      · first | (split <;> exact hr1) | exact hr1
      · first | (split <;> exact hled) | exact hled
      · intro h' sb r; dsimp only; exact wpAny_pure (fin h' sb r)
    · refine wpAny_bind (wpAny_pure ?_)
      simp only [↓reduceIte]
      refine setT_tail ?_ ho hex hd g1 nd1 m1 hb1 hf1 hr1 hled ?_
      · intro b s₁ Q' q; cases b <;> first | exact wpAny_pure q | exact wpAny_rule q
      · intro h' sb r; dsimp only; exact wpAny_pure (fin h' sb r)
theorem setT_fresh {h : Heap} {a : Addr} (ho : h.get? a = some { cls := .type "set", dict := none, data := .set #[] 0 (.fresh 0 0 (!w.params.followText "set-order")) }) : SetT P w h a (fun _ => false) 0 :=
  ⟨_, #[], 0, _, ho, ⟨rfl, rfl, rfl⟩, rfl, (fun e he => by simp at he), (by simp), (fun k => by simp), (by decide), (by rfl), rfl, List.Pairwise.nil, by
    show _ ∨ (!w.params.followText "set-order") = true
    cases w.params.followText "set-order"
    · exact .inr rfl
    · exact .inl rfl⟩
theorem strs_ofT : ∀ (l : List Value), (∀ v ∈ l, ∃ k tk, v = Value.str k tk) → ∃ ks, StrsAre l ks ∧ ks = l.map fun v => match v with | .str k _ => k | _ => Str.empty
  | [], _ => ⟨[], .nil, rfl⟩
  | v :: l, h => by
    obtain ⟨k, tk, rfl⟩ := h v List.mem_cons_self
    obtain ⟨ks, h1, h2⟩ := strs_ofT l fun u hu => h u (List.mem_cons_of_mem _ hu)
    exact ⟨k :: ks, .cons k tk h1, by rw [h2]; rfl⟩
theorem sorted_setS {Q : Value → Shared → Prop} (R : SetT P w s.heap a S n) (hh : A.handled = none) (h64 : n < 64)
    (hQ : ∀ s' p (out : Array Value) (c : Nat) (ks : List Str), (∀ b o, s.heap.get? b = some o → s'.heap.get? b = some o) → s'.gens = s.gens → s'.os = s.os → s.heap.objs.size ≤ p →
      s'.heap.get? p = some (seqObj "list" out c) → StrsAre out.toList ks → sortedS ks = true → ks.Nodup → (∀ k, k ∈ ks ↔ S k = true) → ks.length = n → Q (.ref p) s') :
    wpAny (model P w) A (call (.builtin "sorted") [.ref a]) Q E s := by
  obtain ⟨o, es, ep, t, ho, hex, hd, g, nd, hm, hb, hf, hn, hr, hl⟩ := R
  refine Calls.call_function_entry kind_sorted plain_sorted entry_sorted (args_sorted1 _) ?_
  unfold Builtin.«sorted»
  refine wpAny_bind (m := checkCount "sorted" 1 1 _) (wpAny_pure ?_)
  refine wpAny_bind (collect_set (A := A.in1) hh ⟨o, ho, hex.1, hd⟩ hf hb hr hl fun s1 vs k1 hz g1 o1 pm => ?_)
  have hvl : vs.length = n := by rw [pm.length_eq, List.length_map, Array.length_toList]; exact hn
  obtain ⟨ks0, hI, hks0⟩ := strs_ofT vs fun v hv => by
    obtain ⟨e, he, q⟩ := List.mem_map.mp (pm.mem_iff.mp hv)
    obtain ⟨k, tk, h1, _⟩ := g e he
    exact ⟨k, tk, by rw [← q]; exact h1⟩
  have pk : ks0.Perm (es.toList.map keyT) := by
    have q := pm.map (fun v => match v with | .str k _ => k | _ => Str.empty)
    rw [List.map_map, ← hks0] at q
    exact q
  refine wpAny_bind (wpAny_newList ?_ (by rw [hvl, sizeLine_eq]; omega))
  have hoL : (s1.heap.push (seqObj "list" vs.toArray 0)).get? s1.heap.objs.size = some (seqObj "list" vs.toArray 0) := Heap.get?_push_size _ rfl
  refine wpAny_bind (wpAny_holding (wpAny_call_entry slot_list_sort ⟨_, hoL, rfl⟩ entry_list_sort (list_sort_treeK strKind_oneLt hoL hI.keysOf (fun v₁ v₂ rest e => keyKind_strs (by rw [← e]; exact hI)) (by rw [hvl]; exact h64) fun st' hp hs => ⟨_, rfl, ?_⟩) (args_list_sort _)))
  obtain ⟨ys, q1, q2, q3⟩ := sorted_out_str hI hp hs
  obtain ⟨c, hc⟩ := sortedHeap_at (vs := vs) (out := (arrOf st').map (·.2)) hoL
  have pn : ys.Perm (es.toList.map keyT) := q2.trans pk
  refine wpAny_pure ⟨_, rfl, hQ _ s1.heap.objs.size _ c ys (fun b u e => ?_) g1 o1 hz hc q1 q3 (pn.nodup_iff.mpr nd) (fun k => by rw [pn.mem_iff, ← hm k]) ?_⟩
  · have q := k1 b u e
    have hlt := Heap.lt_size q
    show (sortedHeap (s1.heap.push (seqObj "list" vs.toArray 0)) s1.heap.objs.size vs _).get? b = some u
    rw [sortedHeap_old (Nat.ne_of_lt hlt) (by rw [size_push']; exact Nat.lt_succ_of_lt hlt)]
    exact Heap.get?_push_of_some _ q
  · rw [pn.length_eq, List.length_map, Array.length_toList]; exact hn
end
/-! ### set(xs) -/
theorem dd_step {xs : List Str} {i : Nat} {x : Str} (h : xs[i]? = some x) : (ddS (xs.take (i + 1))).length = if decide (x ∈ xs.take i) = true then (ddS (xs.take i)).length else (ddS (xs.take i)).length + 1 := by
  rw [List.take_succ, h]
  show (ddS (xs.take i ++ [x])).length = _
  have : ddS (xs.take i ++ [x]) = addS (ddS (xs.take i)) x := by unfold ddS; rw [List.foldl_append]; rfl
  rw [this]
  unfold addS
  by_cases c : x ∈ xs.take i
  · rw [if_pos (dd_mem.mpr c), if_pos (decide_eq_true c)]
  · rw [if_neg (fun z => c (dd_mem.mp z)), if_neg (by rw [decide_eq_false c]; decide), List.length_append]; rfl
theorem mem_step {xs : List Str} {i : Nat} {x : Str} (h : xs[i]? = some x) (k : Str) : decide (k ∈ xs.take (i + 1)) = (decide (k ∈ xs.take i) || decide (k = x)) := by
  rw [List.take_succ, h]
  show decide (k ∈ xs.take i ++ [x]) = _
  rw [Bool.eq_iff_iff, Bool.or_eq_true, decide_eq_true_iff, decide_eq_true_iff, decide_eq_true_iff, List.mem_append, List.mem_singleton]
section
variable {prog : Program} {w : World} {A : Around} {R : Result → Shared → Prop} {I : Addr} {fp wr : List Addr} {G : Array GenState → Array GenState → Prop} {n : Nat} {P : Nat → Value → Prop} {St : Nat → Shared → Prop}
theorem loopT (W : WalksS prog w A.in1 I fp wr G n P St) (S : Addr) (hSf : S ∉ fp) (xs : List Str) (hsz : xs.length = n) (hn1 : n < 64)
    (hval : ∀ i v, P i v → ∃ x t, xs[i]? = some x ∧ v = .str x t) :
    ∀ (k i : Nat) (s : Shared), n - i = k → i ≤ n → St i s →
      SetT prog w s.heap S (fun k' => decide (k' ∈ xs.take i)) (ddS (xs.take i)).length →
      (∀ s', Moved (S :: wr) G s s' → SetT prog w s'.heap S (fun k' => decide (k' ∈ xs.take n)) (ddS (xs.take n)).length → R (.ok (.ret .none)) s') →
      codeAny (model prog w) A (.builtin "set.update.loop" ⟨[.ref S, .ref I], []⟩) R s := by
  have hSw : S ∉ wr := fun h => hSf (W.sub _ h)
  have hsub : ∀ b ∈ wr, b ∈ S :: wr := fun b hb => List.mem_cons_of_mem _ hb
  intro k
  induction k with
  | zero =>
    intro i s hk hi hst hS hR
    have hin : i = n := by omega
    subst hin
    refine codeAny_builtin PyProof.Rows.F.entry_set_update_loop ?_
    rw [Around.under_plainId PyProof.Rows.F.plain_set_update_loop _]
    show wpAny _ A.in1 (pyNext (.ref I) >>= _) _ _ s
    refine wpAny_bind (W.done s _ _ hst fun s' hm => ?_)
    show wpAny _ A.in1 (ret Value.none) _ _ s'
    exact wpAny_pure (hR s' (hm.mono hsub) (hS.at fun o e => hm.heap S o hSw e))
  | succ k ih =>
    intro i s hk hi hst hS hR
    have hlt : i < n := by omega
    refine codeAny_builtin PyProof.Rows.F.entry_set_update_loop ?_
    rw [Around.under_plainId PyProof.Rows.F.plain_set_update_loop _]
    show wpAny _ A.in1 (pyNext (.ref I) >>= _) _ _ s
    refine wpAny_bind (W.item i s _ _ hlt hst fun v s' hP hst' hm => ?_)
    obtain ⟨x, t, hx, rfl⟩ := hval i v hP
    have hS' := hS.at (h' := s'.heap) fun o e => hm.heap S o hSw e
    show wpAny _ A.in1 (holding [Value.str x t] (setAdd S (.str x t)) >>= _) _ _ s'
    refine wpAny_bind (wpAny_holding ?_)
    unfold setAdd
    refine wpAny_holding ?_
    refine wpAny_bind ((PySem.strKind prog w).pyHash (k := x) (strKind_is _ _ _ _) ?_)
    have hdl := dd_len (xs.take i)
    have htl : (xs.take i).length ≤ xs.length := by rw [List.length_take]; omega
    refine setT_add (s := { s' with toks := s'.toks + 1 }) hS' (by unfold scanBound; omega) fun h' hsb hS2 => ?_
    have hSi : SetT prog w h' S (fun k' => decide (k' ∈ xs.take (i + 1))) (ddS (xs.take (i + 1))).length := hS2.congr (fun k' => mem_step hx k') (dd_step hx)
    refine wpAny_pure ⟨plainId_quiet PyProof.Rows.F.plain_set_update_loop _, ih (i + 1) _ (by omega) hlt (W.frame _ s' _ _ hst' (Nat.le_succ _) fun b hb o e => ?_) hSi fun s'' hm'' hS'' => ?_⟩
    · rw [hsb.2 b (fun h : b = S => hSf (by rw [← h]; exact hb))]; exact e
    · refine hR s'' (Moved.trans W.gtrans ((hm.mono hsub).then_heap (Nat.le_succ _) fun b o hb e => ?_) hm'') hS''
      rw [hsb.2 b (fun h : b = S => hb (by rw [h]; exact List.mem_cons_self))]; exact e
end
section
variable {prog : Program} {w : World} {A : Around} {E : Value → Shared → Prop} {s : Shared}
theorem call_setT_list {l : Addr} {items : Array Value} {xs : List Str} {Q : Value → Shared → Prop}
    (hh : A.handled = none) (hl : s.heap.IsList l items) (hi : PyProof.Rows.StrsAre items.toList xs) (hn1 : xs.length < 64)
    (h : ∀ (h' : Heap) (tk : Nat), SetT prog w h' s.heap.objs.size (fun k' => decide (k' ∈ xs)) (ddS xs).length →
      (∀ b o, s.heap.get? b = some o → h'.get? b = some o) → Q (.ref s.heap.objs.size) { s with heap := h', toks := tk }) :
    wpAny (model prog w) A (call (.type "set") [.ref l]) Q E s := by
  obtain ⟨c, tl, hmro⟩ := PySem.F.called_set.mro
  have hmade := PySem.F.called_set.made
  have hsub := PySem.F.called_set.sub
  refine wpAny_call (codeAny_of_tree ?_)
  show wpAny _ _ (callAny (.type "set") _) _ _ _
  refine wpAny_pure ⟨Code.quiet_builtin _ (by decide +kernel), codeAny_builtin PySem.F.entry_type_call ?_⟩
  rw [Around.under_plain (weight_type_call_type "set" [.ref l] []) rfl]
  have h1 := PySem.F.called_set.notType
  have h2 := PySem.F.called_set.canCreate
  have hct := PySem.F.typeCall_set_1 (.ref l)
  repeat (any_goals (first | assumption | wp_step))

  refine codeAny_mono (code_set_led1 (.ref l) (E := E) (Q₁ := fun obj s₁ => obj = .ref s.heap.objs.size ∧ s₁ = { s with heap := s.heap.push { cls := .type "set", dict := none, data := .set #[] 0 (.fresh 0 0 (!w.params.followText "set-order")) } }) ⟨rfl, rfl⟩) fun r s₁ hr => ?_
  cases r with
  | error e => exact hr
  | ok fl =>
    cases fl with
    | ret obj =>
      obtain ⟨rfl, rfl⟩ := hr
      have hS : (s.heap.push { cls := .type "set", dict := none, data := .set #[] 0 (.fresh 0 0 (!w.params.followText "set-order")) }).get? s.heap.objs.size = some { cls := .type "set", dict := none, data := .set #[] 0 (.fresh 0 0 (!w.params.followText "set-order")) } := Heap.get?_push_size _ rfl
      have hT : Shared.TypeIs { s with heap := s.heap.push { cls := .type "set", dict := none, data := .set #[] 0 (.fresh 0 0 (!w.params.followText "set-order")) } } (.ref s.heap.objs.size) "set" := ⟨_, hS, rfl⟩
      have hli := PySem.F.called_set.init.lookup
      have hbi := PySem.F.called_set.init.bind (.ref s.heap.objs.size)
      repeat (any_goals (first | assumption | wp_step))

      refine codeAny_mono (codeAny_call_builtin (R := wants (fun r s₂ => r = .none ∧ ∃ h' tk, s₂ = { s with heap := h', toks := tk } ∧
          SetT prog w h' s.heap.objs.size (fun k' => decide (k' ∈ xs)) (ddS xs).length ∧
          (∀ b o, s.heap.get? b = some o → h'.get? b = some o)) E) PySem.F.called_set.init.plain PySem.F.entry_set_init (check_set_init_1 hT ?_)) fun r₂ s₂ hr₂ => ?_
      · obtain ⟨ol, hol, hcl, nl, hdl⟩ := hl
        obtain ⟨ocls, odict, odata, oslots⟩ := ol
        simp only at hcl hdl
        subst hcl; subst hdl
        have hol' : (s.heap.push { cls := .type "set", dict := none, data := .set #[] 0 (.fresh 0 0 (!w.params.followText "set-order")) }).get? l = some { cls := .type "list", dict := odict, data := .seq items nl, slots := oslots } := Heap.get?_push_of_some _ hol
        have hsls := PySem.F.sub_list_set
        have hslf := PySem.F.sub_list_frozenset
        have hne : (Value.type "list" == Value.type "dict") = false := by decide
        have hl1 : (s.heap.push { cls := .type "set", dict := none, data := .set #[] 0 (.fresh 0 0 (!w.params.followText "set-order")) }).IsList l items := ⟨_, hol', rfl, nl, rfl⟩
        unfold Builtin.«set.__init__» noKeywords Builtin.Frozenset.updateFrom
        generalize hPI : pyIter = PI
        wp_walk
        subst hPI

        refine wpAny_pyIter_list hl1 ?_
        refine wpAny_bind (wpAny_runValue ?_)
        have hlS : l < s.heap.objs.size := Heap.lt_size hol
        have hh3 : A.in1.in1.in1.handled = none := by simp [hh]
        have hneI : l ≠ (s.heap.push { cls := .type "set", dict := none, data := .set #[] 0 (.fresh 0 0 (!w.params.followText "set-order")) }).objs.size := by
          rw [Heap.size_push]; exact Nat.ne_of_lt (Nat.lt_succ_of_lt hlS)
        have hSf : s.heap.objs.size ∉ [(s.heap.push { cls := .type "set", dict := none, data := .set #[] 0 (.fresh 0 0 (!w.params.followText "set-order")) }).objs.size, l] := by
          rw [Heap.size_push]; simp only [List.mem_cons, List.mem_singleton, List.not_mem_nil, or_false, not_or]
          exact ⟨Nat.ne_of_lt (Nat.lt_succ_self _), Nat.ne_of_gt hlS⟩
        have hsz : xs.length = items.size := by rw [← StrsAre.len_eq hi, Array.length_toList]
        have hval : ∀ (i : Nat) (v : Value), items[i]? = some v → ∃ x t, xs[i]? = some x ∧ v = .str x t := fun i v hv => by
          obtain ⟨t, e⟩ := SS.strs_at hi i v (by rw [Array.getElem?_toList]; exact hv)
          have hlt : i < xs.length := by
            rw [hsz]
            exact (Array.getElem?_eq_some_iff.mp hv).1
          exact ⟨_, t, by rw [List.getD_eq_getElem?_getD, List.getElem?_eq_getElem hlt]; rfl, e⟩
        refine loopT ((Walks.list hh3 _ l hneI items).toS) s.heap.objs.size
          hSf xs hsz (by rw [← hsz]; exact hn1) hval (items.size - 0) 0 _ (by omega) (Nat.zero_le _)
          ⟨⟨_, Heap.get?_push_size _ rfl, rfl, rfl⟩, (hl1.push _)⟩ ?hS0 ?hR
        case hS0 =>
          have hget : ((s.heap.push { cls := .type "set", dict := none, data := .set #[] 0 (.fresh 0 0 (!w.params.followText "set-order")) }).push { cls := .type "list_iterator", data := .fields #[.ref l, .int 0 0] }).get? s.heap.objs.size
              = some { cls := .type "set", dict := none, data := .set #[] 0 (.fresh 0 0 (!w.params.followText "set-order")) } := Heap.get?_push_of_some _ hS
          exact (setT_fresh hget).congr (fun k => by rw [List.take_zero]; rfl) rfl
        case hR =>
          intro s' hm hS'
          obtain ⟨h', g', d', tk', os'⟩ := s'
          have eg : g' = s.gens := hm.gens
          have ed : d' = s.drawn := hm.drawn
          have eo : os' = s.os := hm.os
          subst eg; subst ed; subst eo
          show wpAny _ _ _ _ _ _
          refine wpAny_pure ?_
          show wpAny _ _ (ret Value.none) _ _ _
          rw [← hsz, List.take_length] at hS'
          refine wpAny_pure ⟨rfl, h', tk', rfl, hS', fun b o e => ?_⟩
          have hb : b < s.heap.objs.size := Heap.lt_size e
          have hb1 : b ≠ s.heap.objs.size := Nat.ne_of_lt hb
          have hb2 : b ≠ (s.heap.push { cls := .type "set", dict := none, data := .set #[] 0 (.fresh 0 0 (!w.params.followText "set-order")) }).objs.size := by
            rw [Heap.size_push]; exact Nat.ne_of_lt (Nat.lt_succ_of_lt hb)
          exact hm.heap b o (by simp only [List.mem_cons, List.mem_singleton, List.not_mem_nil, or_false, not_or]; exact ⟨hb1, hb2⟩) (Heap.get?_push_of_some _ (Heap.get?_push_of_some _ e))

      · cases r₂ with
        | error e => exact hr₂
        | ok fl₂ =>
          cases fl₂ with
          | ret r =>
            obtain ⟨rfl, h', tk, rfl, hS', hk'⟩ := hr₂
            repeat (any_goals (first | assumption | wp_step))
            exact h _ _ hS' hk'
          | _ => exact hr₂.elim
    | _ => exact hr.elim
theorem call_setT_tuple {l : Addr} {items : Array Value} {xs : List Str} {Q : Value → Shared → Prop}
    (hh : A.handled = none) (hl : s.heap.IsTuple l items) (hi : PyProof.Rows.StrsAre items.toList xs) (hn1 : xs.length < 64)
    (h : ∀ (h' : Heap) (tk : Nat), SetT prog w h' s.heap.objs.size (fun k' => decide (k' ∈ xs)) (ddS xs).length →
      (∀ b o, s.heap.get? b = some o → h'.get? b = some o) → Q (.ref s.heap.objs.size) { s with heap := h', toks := tk }) :
    wpAny (model prog w) A (call (.type "set") [.ref l]) Q E s := by
  obtain ⟨c, tl, hmro⟩ := PySem.F.called_set.mro
  have hmade := PySem.F.called_set.made
  have hsub := PySem.F.called_set.sub
  refine wpAny_call (codeAny_of_tree ?_)
  show wpAny _ _ (callAny (.type "set") _) _ _ _
  refine wpAny_pure ⟨Code.quiet_builtin _ (by decide +kernel), codeAny_builtin PySem.F.entry_type_call ?_⟩
  rw [Around.under_plain (weight_type_call_type "set" [.ref l] []) rfl]
  have h1 := PySem.F.called_set.notType
  have h2 := PySem.F.called_set.canCreate
  have hct := PySem.F.typeCall_set_1 (.ref l)
  repeat (any_goals (first | assumption | wp_step))

  refine codeAny_mono (code_set_led1 (.ref l) (E := E) (Q₁ := fun obj s₁ => obj = .ref s.heap.objs.size ∧ s₁ = { s with heap := s.heap.push { cls := .type "set", dict := none, data := .set #[] 0 (.fresh 0 0 (!w.params.followText "set-order")) } }) ⟨rfl, rfl⟩) fun r s₁ hr => ?_
  cases r with
  | error e => exact hr
  | ok fl =>
    cases fl with
    | ret obj =>
      obtain ⟨rfl, rfl⟩ := hr
      have hS : (s.heap.push { cls := .type "set", dict := none, data := .set #[] 0 (.fresh 0 0 (!w.params.followText "set-order")) }).get? s.heap.objs.size = some { cls := .type "set", dict := none, data := .set #[] 0 (.fresh 0 0 (!w.params.followText "set-order")) } := Heap.get?_push_size _ rfl
      have hT : Shared.TypeIs { s with heap := s.heap.push { cls := .type "set", dict := none, data := .set #[] 0 (.fresh 0 0 (!w.params.followText "set-order")) } } (.ref s.heap.objs.size) "set" := ⟨_, hS, rfl⟩
      have hli := PySem.F.called_set.init.lookup
      have hbi := PySem.F.called_set.init.bind (.ref s.heap.objs.size)
      repeat (any_goals (first | assumption | wp_step))

      refine codeAny_mono (codeAny_call_builtin (R := wants (fun r s₂ => r = .none ∧ ∃ h' tk, s₂ = { s with heap := h', toks := tk } ∧
          SetT prog w h' s.heap.objs.size (fun k' => decide (k' ∈ xs)) (ddS xs).length ∧
          (∀ b o, s.heap.get? b = some o → h'.get? b = some o)) E) PySem.F.called_set.init.plain PySem.F.entry_set_init (check_set_init_1 hT ?_)) fun r₂ s₂ hr₂ => ?_
      · obtain ⟨ol, hol, hcl, nl, hdl⟩ := hl
        obtain ⟨ocls, odict, odata, oslots⟩ := ol
        simp only at hcl hdl
        subst hcl; subst hdl
        have hol' : (s.heap.push { cls := .type "set", dict := none, data := .set #[] 0 (.fresh 0 0 (!w.params.followText "set-order")) }).get? l = some { cls := .type "tuple", dict := odict, data := .seq items nl, slots := oslots } := Heap.get?_push_of_some _ hol
        have hsls := PySem.F.sub_tuple_set
        have hslf := PySem.F.sub_tuple_frozenset
        have hne : (Value.type "tuple" == Value.type "dict") = false := by decide
        have hl1 : (s.heap.push { cls := .type "set", dict := none, data := .set #[] 0 (.fresh 0 0 (!w.params.followText "set-order")) }).IsTuple l items := ⟨_, hol', rfl, nl, rfl⟩
        unfold Builtin.«set.__init__» noKeywords Builtin.Frozenset.updateFrom
        generalize hPI : pyIter = PI
        wp_walk
        subst hPI

        refine wpAny_pyIter_tuple hl1 ?_
        refine wpAny_bind (wpAny_runValue ?_)
        have hlS : l < s.heap.objs.size := Heap.lt_size hol
        have hh3 : A.in1.in1.in1.handled = none := by simp [hh]
        have hneI : l ≠ (s.heap.push { cls := .type "set", dict := none, data := .set #[] 0 (.fresh 0 0 (!w.params.followText "set-order")) }).objs.size := by
          rw [Heap.size_push]; exact Nat.ne_of_lt (Nat.lt_succ_of_lt hlS)
        have hSf : s.heap.objs.size ∉ [(s.heap.push { cls := .type "set", dict := none, data := .set #[] 0 (.fresh 0 0 (!w.params.followText "set-order")) }).objs.size, l] := by
          rw [Heap.size_push]; simp only [List.mem_cons, List.mem_singleton, List.not_mem_nil, or_false, not_or]
          exact ⟨Nat.ne_of_lt (Nat.lt_succ_self _), Nat.ne_of_gt hlS⟩
        have hsz : xs.length = items.size := by rw [← StrsAre.len_eq hi, Array.length_toList]
        have hval : ∀ (i : Nat) (v : Value), items[i]? = some v → ∃ x t, xs[i]? = some x ∧ v = .str x t := fun i v hv => by
          obtain ⟨t, e⟩ := SS.strs_at hi i v (by rw [Array.getElem?_toList]; exact hv)
          have hlt : i < xs.length := by
            rw [hsz]
            exact (Array.getElem?_eq_some_iff.mp hv).1
          exact ⟨_, t, by rw [List.getD_eq_getElem?_getD, List.getElem?_eq_getElem hlt]; rfl, e⟩
        refine loopT ((Walks.tuple hh3 _ l hneI items).toS) s.heap.objs.size
          hSf xs hsz (by rw [← hsz]; exact hn1) hval (items.size - 0) 0 _ (by omega) (Nat.zero_le _)
          ⟨⟨_, Heap.get?_push_size _ rfl, rfl, rfl⟩, (hl1.push _)⟩ ?hS0 ?hR
        case hS0 =>
          have hget : ((s.heap.push { cls := .type "set", dict := none, data := .set #[] 0 (.fresh 0 0 (!w.params.followText "set-order")) }).push { cls := .type "tuple_iterator", data := .fields #[.ref l, .int 0 0] }).get? s.heap.objs.size
              = some { cls := .type "set", dict := none, data := .set #[] 0 (.fresh 0 0 (!w.params.followText "set-order")) } := Heap.get?_push_of_some _ hS
          exact (setT_fresh hget).congr (fun k => by rw [List.take_zero]; rfl) rfl
        case hR =>
          intro s' hm hS'
          obtain ⟨h', g', d', tk', os'⟩ := s'
          have eg : g' = s.gens := hm.gens
          have ed : d' = s.drawn := hm.drawn
          have eo : os' = s.os := hm.os
          subst eg; subst ed; subst eo
          show wpAny _ _ _ _ _ _
          refine wpAny_pure ?_
          show wpAny _ _ (ret Value.none) _ _ _
          rw [← hsz, List.take_length] at hS'
          refine wpAny_pure ⟨rfl, h', tk', rfl, hS', fun b o e => ?_⟩
          have hb : b < s.heap.objs.size := Heap.lt_size e
          have hb1 : b ≠ s.heap.objs.size := Nat.ne_of_lt hb
          have hb2 : b ≠ (s.heap.push { cls := .type "set", dict := none, data := .set #[] 0 (.fresh 0 0 (!w.params.followText "set-order")) }).objs.size := by
            rw [Heap.size_push]; exact Nat.ne_of_lt (Nat.lt_succ_of_lt hb)
          exact hm.heap b o (by simp only [List.mem_cons, List.mem_singleton, List.not_mem_nil, or_false, not_or]; exact ⟨hb1, hb2⟩) (Heap.get?_push_of_some _ (Heap.get?_push_of_some _ e))

      · cases r₂ with
        | error e => exact hr₂
        | ok fl₂ =>
          cases fl₂ with
          | ret r =>
            obtain ⟨rfl, h', tk, rfl, hS', hk'⟩ := hr₂
            repeat (any_goals (first | assumption | wp_step))
            exact h _ _ hS' hk'
          | _ => exact hr₂.elim
    | _ => exact hr.elim
end
end GK

namespace GK
open PySem PySem.Spec PyProof.Rows L2
open Evl (Ex ex_l ex_t ex_rd sq_of st_of sz_of sz_lt fresh_back)
/-- sorted(set(xs)), xs a list or tuple of texts, fewer than 64 -/
def tSortSet (K : PySem.W.Frag) (ta : TE) : TE := fun σ H Q => ta σ H fun x H1 => ∃ l, ∃ xs : List Str, x = .ref l ∧ (SqL K H1 l (xs.map V.str) ∨ SqT K H1 l (xs.map V.str)) ∧ xs.length < 64 ∧
  ∀ p, H1 p = none → Q (.ref p) (upd H1 p (.lst ((srtS (ddS xs)).map V.str)))
section
variable {X : Cx}
theorem sort_end {pins : List (Addr × Obj)} {σ : L2.St} {H1 : Hp} {s1 : Shared} {a : Addr} {xs : List Str} {Q : VK} (hc : X.calm = true) (h64 : xs.length < 64) (I2 : Inv X pins σ H1 s1) (hS : SetT X.prog X.w s1.heap a (fun k' => decide (k' ∈ xs)) (ddS xs).length)
    (q1 : ∀ p, H1 p = none → Q (.ref p) (upd H1 p (.lst ((srtS (ddS xs)).map V.str)))) : wpAny (model X.prog X.w) X.A (call (.builtin "sorted") [Value.ref a]) (EP X pins σ Q) X.xe s1 := by
  have hn64 : (ddS xs).length < 64 := Nat.lt_of_le_of_lt (dd_len xs) h64
  refine sorted_setS hS (I2.ok.hd hc) hn64 fun s' p out c ks k g o hp hgp hi hs hnd hmem hl => ?_
  have hks : ks = srtS (ddS xs) := srt_of ((List.perm_ext_iff_of_nodup hnd (dd_nd xs)).mpr fun y => by rw [hmem, decide_eq_true_iff, dd_mem]) hs
  have hlen : (ks.map V.str).length ≤ sizeLine := by rw [List.length_map, hl, sizeLine_eq]; omega
  have hn : H1 p = none := I2.hok.fresh hp
  have J : Inv X pins σ (upd H1 p (.lst (ks.map V.str))) { s1 with heap := s'.heap, gens := s'.gens, drawn := s'.drawn, toks := s'.toks } :=
    I2.call (ch := []) (Un.laid k hp hn) (I2.hok.laid k hp ⟨hlen, out.toList, c, vals_of_strs hi, hgp⟩) (by rw [g]; exact I2.bare) (fun _ z => nomatch z)
  have e : s' = { s1 with heap := s'.heap, gens := s'.gens, drawn := s'.drawn, toks := s'.toks } := by
    cases s'
    cases s1
    cases o
    rfl
  rw [e]
  refine ⟨.ref p, _, J, rfl, ?_⟩
  rw [hks]
  exact q1 p hn
theorem pe_sortSet {a : Expr} {ta : TE} {p p2 q pos : Pos} (hc : X.calm = true) (hg : Gl X "sorted") (hm : X.mg "sorted" = none) (hg2 : Gl X "set") (hm2 : X.mg "set" = none) (ha : PE X a ta)
    (na : starEach [a] X.env = (false, eval a X.env) :: starEach [] X.env := by rfl) : PE X (.Call (.Name "sorted" p) [.Call (.Name "set" p2) [a] [] q] [] pos) (tSortSet X.K ta) := by
  refine ⟨fun pins s σ H Q I h => ?_⟩
  refine Call_ (ld_blt I hg hm bt_sorted ?_)
  refine PyProof.Rows.callWith_builtin1 (PyProof.Rows.args_cons ?_ rfl) rfl rfl
  refine Call_ (ld_blt I hg2 hm2 boot_set ?_)
  refine PyProof.Rows.callWith_type1 (PyProof.Rows.args_cons (thn (ha.run pins s σ H _ I h) fun v s1 ⟨x, H1, I1, r1, q1⟩ => PyProof.Rows.args_nil ?_) na) na rfl
  obtain ⟨l, xs, rfl, hq, h64, q1⟩ := q1
  cases r1
  have fin : ∀ (h' : Heap) (tk : Nat), SetT X.prog X.w h' s1.heap.objs.size (fun k' => decide (k' ∈ xs)) (ddS xs).length →
      (∀ b o, s1.heap.get? b = some o → h'.get? b = some o) →
      wpAny (model X.prog X.w) X.A (spliced (backTo pos (starEach [] X.env))) (fun vs s₂ => wpAny (model X.prog X.w) X.A (call (.builtin "sorted") (Value.ref s1.heap.objs.size :: vs)) (EP X pins σ Q) X.xe s₂) X.xe { s1 with heap := h', toks := tk } := fun h' tk hS hk => by
    refine PyProof.Rows.args_nil ?_
    have I2 : Inv X pins σ H1 { s1 with heap := h', toks := tk } := I1.kept hk
    exact sort_end hc h64 I2 hS q1
  rcases hq with hq | hq
  · obtain ⟨its, r, pl, hz⟩ := I1.list hq
    exact call_setT_list (I1.ok.hd hc) pl.isList (by simpa using strsAre_of r) h64 fun h' tk hS hk => fin h' tk hS hk
  · obtain ⟨its, r, pl, hz⟩ := I1.tuple hq
    exact call_setT_tuple (I1.ok.hd hc) pl (by simpa using strsAre_of r) h64 fun h' tk hS hk => fin h' tk hS hk
end
section
variable {K : PySem.W.Frag} {σ : Sig} {B H : Hp} {ta : TE}
theorem evd_sortSet {xs : List Str} (h : EvD ta σ B H (.list (xs.map .str)) ∨ EvD ta σ B H (.tuple (xs.map .str))) (hl : xs.length < 64) : EvD (tSortSet K ta) σ B H (.list ((srtS (ddS xs)).map .str)) := fun H1 e eb Q q => by
  rcases h with h | h
  · refine h H1 e eb _ fun v H2 B2 e2 x2 eb2 hv => ?_
    obtain ⟨a, ys, rfl, hs, hx⟩ := dpl hv
    rw [dpa_strs hx] at hs
    exact ⟨a, xs, rfl, .inl (sq_of (eb2 _ _ hs)), hl, fun p hp => q _ _ (upd B2 p (.lst ((srtS (ddS xs)).map V.str))) (e2.trans (Ex.new hp)) (Ext.trans x2 e2 (Ext.new eb2 hp)) (ex_upd2 eb2) (.lst upd_same (dpa_ofStrs _))⟩
  · refine h H1 e eb _ fun v H2 B2 e2 x2 eb2 hv => ?_
    obtain ⟨a, ys, rfl, hs, hx⟩ := dpt hv
    rw [dpa_strs hx] at hs
    exact ⟨a, xs, rfl, .inr (st_of (eb2 _ _ hs)), hl, fun p hp => q _ _ (upd B2 p (.lst ((srtS (ddS xs)).map V.str))) (e2.trans (Ex.new hp)) (Ext.trans x2 e2 (Ext.new eb2 hp)) (ex_upd2 eb2) (.lst upd_same (dpa_ofStrs _))⟩
theorem evd_sortSetL {xs : List Str} (h : EvD ta σ B H (.list (xs.map .str))) (hl : xs.length < 64 := by first | with_reducible assumption | omega) : EvD (tSortSet K ta) σ B H (.list ((srtS (ddS xs)).map .str)) := evd_sortSet (.inl h) hl
theorem evd_sortSetT {xs : List Str} (h : EvD ta σ B H (.tuple (xs.map .str))) (hl : xs.length < 64 := by first | with_reducible assumption | omega) : EvD (tSortSet K ta) σ B H (.list ((srtS (ddS xs)).map .str)) := evd_sortSet (.inr h) hl
end
end GK

namespace GK
open PySem PySem.Spec PyProof.Rows L2 MeetsSeq
open Evl (Ex ex_l ex_t ex_rd sq_of st_of sz_of sz_lt fresh_back)
open AutoSeq1 (wpAny_loadPart')
theorem extend_tup (l : Addr) (items : Array Value) (n : Nat) (b : Addr) (items2 : Array Value) (n2 : Nat) (dd : Option Addr) (sl : Array (Option Value)) (hs0 : ¬(!items.isEmpty && Builtin.List.listTooLong (items.size + items2.size)) = true) (hs1 : items.size ≤ sizeLine) (hs2 : items.size + items2.size ≤ sizeLine + 1) :
    Meets (Builtin.«list.extend» ⟨[.ref l, .ref b], []⟩) (fun _ R s => s.heap.get? l = some { cls := .type "list", dict := none, data := .seq items n, slots := #[] } ∧ s.heap.get? b = some { cls := .type "tuple", dict := dd, data := .seq items2 n2, slots := sl } ∧ R (.ok (.ret Value.none)) { s with heap := s.heap.update l (Obj.mapSeq fun x => x ++ items2), toks := s.toks }) :=
  .of_wp fun prog w A R s h => by
    obtain ⟨hp, g, d, tk, os⟩ := s; obtain ⟨hl, hb, h⟩ := h; have f1 := AutoSeq1.idx_int; have f2 := AutoSeq1.sub_tuple_tuple; have f3 := AutoSeq1.sub_list_list; have f4 := AutoSeq1.sub_tuple_list; have f5 := AutoSeq1.sub_list_tuple;
    have hz' : (items ++ items2).size ≤ sizeLine + 1 := by rw [Array.size_append]; exact hs2
    wp_walk using (wpAny_updateSeq hl rfl (hz := hs1) (_hz' := hz')), wpAny_loadPart' hl, wpAny_loadPart' hb; exact ⟨_, rfl, h⟩
def rExtendT : V → List V → Hp → VK → Prop := fun x vs H Q => ∃ l b xs zs, x = .ref l ∧ vs = [.ref b] ∧ H l = some (.lst xs) ∧ H b = some (.tup zs) ∧ xs.length + zs.length ≤ sizeLine ∧ Q .non (upd H l (.lst (xs ++ zs)))
theorem mt_extendT {X : Cx} : MtM X "list.extend" rExtendT := by
  intro pins s σ H x vs v us Q I rx rv h
  obtain ⟨l, b, xs, zs, rfl, rfl, hH, hB, hz, q⟩ := h
  cases rx
  obtain ⟨u, rfl, ru⟩ := rv.one
  cases ru
  obtain ⟨z, its, n, r, hl, e⟩ := I.lstM hH
  obtain ⟨its2, r2, ⟨o, e2, hc2, n2, hd2⟩, _⟩ := I.tuple (.inl (Rd.of hB) : SqT X.K H b zs)
  have hl2 := r2.length
  have hsz : its.toArray.size + its2.toArray.size ≤ sizeLine := by rw [List.size_toArray, List.size_toArray]; omega
  have hlong : ¬ (!its.toArray.isEmpty && Builtin.List.listTooLong (its.toArray.size + its2.toArray.size)) = true := by
    rw [notLongL hsz, Bool.and_false]
    exact Bool.false_ne_true
  obtain ⟨oc, od, oda, os⟩ := o
  simp only at hc2 hd2
  subst hc2
  subst hd2
  refine call_meets F.slot_list_extend ⟨_, e, rfl⟩ F.entry_list_extend (F.args_list_extend_2 _ _)
    (extend_tup l its.toArray n b its2.toArray n2 od os hlong (by rw [List.size_toArray]; omega) (by omega)) ⟨e, e2, ?_⟩
  refine ⟨.non, _, I.lset (its' := its ++ its2) hH e (by simp) (r.append r2) ?_, rfl, q⟩
  rw [List.length_append]
  omega
def rFind1 : RM := fun x xs H Q => ∃ a b, x = .str a ∧ xs = [.str b] ∧ Q (.int (Txt.find a b)) H
theorem mtr_find1 {X : Cx} : MtR X "str.find" rFind1 := mt_find
section
variable {K : PySem.W.Frag} {σ : Sig} {B H : Hp} {ta : TE} {D : Ends}
theorem q_extT {p : Addr} {xs : List V} {ds : List PyData} {i : Nat} (hv : σ[i]? = some (some (.ref p))) (h : EvD ta σ B H (.tuple ds)) (eb : Ex B H) (hp : H p = some (.lst xs)) (hl : xs.length + ds.length ≤ 100000) (k : ∀ vs H1 B1, Ex H H1 → Ext B H B1 → Ex B1 H1 → DaAll B1 vs ds → D.nx σ (upd H1 p (.lst (xs ++ vs)))) : tDrop (tBM K "list" rExtendT (tVar i) (tCons ta tNil)) D σ H :=
  ⟨_, hv, .inl ⟨rfl, _, sq_of hp⟩, h.run eb fun v H1 B1 e1 x1 eb1 hd => by
    obtain ⟨a, vs, rfl, hs, hx⟩ := dpt hd
    exact ⟨p, a, xs, vs, rfl, rfl, e1 _ _ hp, eb1 _ _ hs, by rw [dpa_len hx]; exact Nat.le_trans hl (by decide), k vs H1 B1 e1 x1 eb1 hx⟩⟩
theorem evd_find1 {x y : Str} {tb : TE} (h : EvD ta σ B H (.str x)) (h' : EvD tb σ B H (.str y)) : EvD (tM1 rFind1 ta tb) σ B H (.int (Txt.find x y)) :=
  evd_m1 h h' fun H1 B1 v eb hv Q q => by cases hv; exact ⟨x, y, rfl, rfl, q.at eb (.int _)⟩
end
end GK

namespace GK
open PySem PySem.Spec PyProof.Rows L2
open Evl (Ex ex_l ex_t ex_rd sq_of st_of sz_of sz_lt fresh_back)
theorem Ext.add {B H B1 : Hp} {p : Addr} {o : HO} (x : Ext B H B1) (h : H p = none) (e : Ex B1 (upd B1 p o)) : Ext B H (upd B1 p o) := ⟨x.1.trans e, fun q hq => by
  rw [upd_ne (fun z => hq (by rw [z]; exact h))]; exact x.2 q hq⟩
def slt (a b : Str) : Prop := tl a < tl b
instance (a b : Str) : Decidable (slt a b) := by unfold slt; exact inferInstance
theorem slt_irr (a : Str) : ¬ slt a a := List.lt_irrefl (α := Nat) (tl a)
theorem slt_of {a b : Str} (h : sle a b) (ne : a ≠ b) : slt a b := by
  rcases Classical.em (slt a b) with c | c
  · exact c
  · exact absurd (sle_as h c) ne
theorem slt_asym {a b : Str} (h : slt a b) : ¬ slt b a := fun h' => slt_irr a (List.lt_trans (α := Nat) h h')
theorem strict {l : List Str} (h : l.Pairwise sle) (n : l.Nodup) : l.Pairwise slt := by
  refine List.Pairwise.imp₂ (fun a b h1 h2 => slt_of h1 h2) h n
def wholeE (keys : List Str) (pre mark : Str) : List Str := allE keys pre mark ""
theorem whole_nd (keys : List Str) (pre mark : Str) : (wholeE keys pre mark).Nodup := ((srt_perm _).nodup_iff.mpr (dd_nd _)).filter _
theorem whole_sort (keys : List Str) (pre mark : Str) : (wholeE keys pre mark).Pairwise sle := (srt_sort _).filter _
theorem whole_lt (keys : List Str) (pre mark : Str) : (wholeE keys pre mark).Pairwise slt := strict (whole_sort _ _ _) (whole_nd _ _ _)
theorem gt_nil (e x : Str) (h : gtS e x = true) : gtS "" x = true := by
  unfold gtS at *
  have h1 := of_decide_eq_true h
  refine decide_eq_true ?_
  show ([] : List Nat) < tl x
  cases hx : tl x with
  | nil => rw [hx] at h1; exact absurd h1 (List.not_lt_nil _)
  | cons a r => exact List.nil_lt_cons a r
theorem all_from (keys : List Str) (pre mark e : Str) : allE keys pre mark e = (wholeE keys pre mark).filter (gtS e) := by
  unfold wholeE allE
  rw [List.filter_filter]
  refine List.filter_congr fun x _ => ?_
  cases h : gtS e x with
  | false => rfl
  | true => rw [gt_nil e x h]; rfl
theorem filter_behind {W P R : List Str} {e : Str} (h : W.Pairwise slt) (hw : W = P ++ e :: R) : W.filter (gtS e) = R := by
  subst hw
  rw [List.pairwise_append] at h
  obtain ⟨_, h2, h3⟩ := h
  obtain ⟨h4, _⟩ := List.pairwise_cons.mp h2
  rw [List.filter_append, List.filter_eq_nil_iff (p := gtS e) (l := P) |>.mpr (fun x hx z => slt_asym (h3 x hx e List.mem_cons_self) (of_decide_eq_true (p := tl e < tl x) z)), List.nil_append, List.filter_cons_of_neg (p := gtS e) (fun z => slt_irr e (of_decide_eq_true (p := tl e < tl e) z))]
  exact List.filter_eq_self.mpr fun x hx => decide_eq_true (h4 x hx)
theorem atI_neg {α : Type} {xs : List α} {i : Int} (h0 : i < 0) (h : 0 ≤ i + xs.length) : atI xs i = xs[(i + xs.length).toNat]? := by
  unfold atI ixN
  rw [if_neg (by omega), if_pos (by omega)]
  rfl
theorem all_next {keys : List Str} {pre mark e : Str} {i m : Nat} (hm : 1 ≤ m) (h : ((wholeE keys pre mark).drop i)[m - 1]? = some e) : allE keys pre mark e = (wholeE keys pre mark).drop (i + m) := by
  rw [all_from]
  rw [List.getElem?_drop] at h
  have hlt : i + (m - 1) < (wholeE keys pre mark).length := (List.getElem?_eq_some_iff.mp h).1
  refine filter_behind (P := (wholeE keys pre mark).take (i + (m - 1))) (whole_lt _ _ _) ?_
  have he : (wholeE keys pre mark)[i + (m - 1)] = e := (List.getElem?_eq_some_iff.mp h).2
  rw [show i + m = i + (m - 1) + 1 by omega, ← he, List.getElem_cons_drop hlt, List.take_append_drop]
def natsD (l : List Nat) : List PyData := l.map fun (i : Nat) => .int (i : Int)
def sp_law_pages (K : PySem.W.Frag) : Sp := fun vs H Q _ => ∃ (B : Hp) (v u : V) (keys : List Str) (pre mark : Str) (sizes : List Nat), Ex B H ∧ vs = [v, .str pre, .str mark, u] ∧ Da B v (.tuple (keys.map .str)) ∧ Da B u (.list (natsD sizes)) ∧ sizes ≠ [] ∧ (∀ m ∈ sizes, 1 ≤ m) ∧ mkOk mark ∧ keys.length < 63 ∧ (∀ k ∈ keys, k.length ≤ 1000) ∧ Ret (.list ((wholeE keys pre mark).map .str)) B H Q
theorem len_law_pages {K : PySem.W.Frag} {vs : List V} {H : Hp} {Q : VK} {E : XK} (h : sp_law_pages K vs H Q E) : vs.length = 4 := by
  obtain ⟨_, _, _, _, _, _, _, _, rfl, _⟩ := h; rfl
def t_law_pages (K : PySem.W.Frag) (E : XK) : TS :=
  (tSeq (tAsg (tLst tNil) (gName 4))
    (tSeq (tAsg (tC (.str "")) (gName 5))
    (tSeq (tFor (iRng1 (tCons (tOp (rI0 fun i j => .int (i + j)) (tCB (rLenSeq K) (tCons (tVar 0) tNil)) (tC (.int 2))) tNil)) (gName 6) (tSeq (tAsg (tOp (rIxL K) (tVar 3) (tOp (rI (fun _ j => 0 < j) fun i j => .int (i % j)) (tVar 6) (tCB (rLenSeq K) (tCons (tVar 3) tNil)))) (gName 7))
    (tSeq (tAsg (tCall (sp_listed K) [] E0 (tCons (tVar 0) (tCons (tVar 1) (tCons (tVar 2) (tCons (tVar 5) (tCons (tVar 7) tNil)))))) (gTup K 2 (gCons (gName 8) (gCons (gName 9) gNil))))
    (tSeq (tIfS (tOr (tTest (tOp (rI0 fun i j => .bl (decide (j < i))) (tCB (rLenSeq K) (tCons (tVar 8) tNil)) (tVar 7))) (tAnd (tB (tVar 9)) (tTest (tOp (rI0 fun i j => .bl (decide (i < j))) (tCB (rLenSeq K) (tCons (tVar 8) tNil)) (tVar 7))))) (tRet (tC .non)) tNext)
    (tSeq (tDrop (tBM K "list" rExtendT (tVar 4) (tCons (tVar 8) tNil)))
    (tSeq (tIfS (tNot (tB (tVar 9))) (tRet (tVar 4)) tNext)
    (tAsg (tOp (rIxT K) (tVar 8) (tUn (rU fun i => .int (-i)) (tC (.int 1)))) (gName 5))))))))
    (tRet (tC .non)))))
theorem pure_law_pages {K : PySem.W.Frag}  {vs : List V} {H : Hp} {Q : VK} {E : XK} (h : sp_law_pages K vs H Q E) : t_law_pages K E { nx := fun _ H' => Q .non H', rt := Q } (start ["keys", "prefix", "mark", "sizes", "found", "after", "turn", "many", "entries", "more"] vs) H := by
  obtain ⟨B, v, u, keys, pre, mark, sizes, eb, rfl, hv, hu, hne, hs1, hm, hkl, hkx, r⟩ := h
  refine q_lnew fun p hp => ?_
  have bp : B p = none := fresh_back eb hp
  refine q_asgS (B := B) evd_cs (eb.trans (Ex.new hp)) fun H1 h1 eb1 => ?_
  have eH1 : Ex H H1 := (Ex.new hp).trans h1
  have hP1 : H1 p = some (.lst []) := h1 _ _ upd_same
  have elk : ∀ (x6 : Option V) (H' : Hp), EvD (tOp (rI0 fun i j => .int (i + j)) (tCB (rLenSeq K) (tCons (tVar 0) tNil)) (tC (.int 2))) [some v, some (.str pre), some (.str mark), some u, some (.ref p), some (.str ""), x6, none, none, none] B H' (.int ((keys.length + 2 : Nat) : Int)) := fun x6 H' => EvD.is (evd_I0 (evd_lenT (evd_var rfl hv)) evd_ci) (by rw [List.length_map]; rfl)
  have hW := all_len keys pre mark ""
  refine q_for (B := B) (src_range1 (evs_cons (elk _ _) evs_nil) (by omega)) eb1 (fun B1 t σ1 H2 => ∃ (after : Str) (i : Nat) (x6 x7 x8 x9 : Option V), σ1 = [some v, some (.str pre), some (.str mark), some u, some (.ref p), some (.str after), x6, x7, x8, x9] ∧ Ext B H B1 ∧ Ex H H2 ∧ Ex B1 H2 ∧ B1 p = none ∧ t ≤ i ∧ i ≤ (wholeE keys pre mark).length ∧ H2 p = some (.lst (((wholeE keys pre mark).take i).map V.str)) ∧ allE keys pre mark after = (wholeE keys pre mark).drop i)
    (fun H2 B1 e1 x1 eb2 => ⟨"", 0, _, _, _, _, rfl, Ext.trans (Ext.refl _ _) eH1 x1, eH1.trans e1, eb2, x1.out hP1 bp, Nat.le_refl _, Nat.zero_le _, e1 _ _ hP1, rfl⟩) (fun _ _ _ _ _ ⟨_, _, _, _, _, _, _, _, _, h, _⟩ => h) ?_ ?_
  · rintro B1 t d x σ1 H2 H3 B2 eB hd ⟨after, i, x6, x7, x8, x9, rfl, xB, eH, eb2, bp1, hti, hiw, hP, hall⟩ e3 x3 eb3 hx
    obtain ⟨ht, rfl⟩ := range_at hd
    cases hx
    have hsl : 0 < sizes.length := List.length_pos_iff.mpr hne
    have hmod : t % sizes.length < sizes.length := Nat.mod_lt _ hsl
    obtain ⟨many, hmany⟩ : ∃ many, sizes[t % sizes.length]? = some many := ⟨_, List.getElem?_eq_getElem hmod⟩
    have hm1 := hs1 many (List.mem_of_getElem? hmany)
    have hu1 := hu.ex' xB.1
    have hv1 := hv.ex' xB.1
    have els : ∀ H', EvD (tCB (rLenSeq K) (tCons (tVar 3) tNil)) [some v, some (.str pre), some (.str mark), some u, some (.ref p), some (.str after), some (.int (t : Int)), x7, x8, x9] B1 H' (.int (sizes.length : Int)) := fun H' => EvD.is (evd_lenL (evd_var rfl hu1)) (by rw [natsD, List.length_map])
    have hsl' : (0 : Int) < (sizes.length : Int) := by omega
    refine q_asgI (B := B1) (n := (many : Int)) (evd_ixL (evd_var rfl hu1) (evd_mod (evd_varI rfl) (els _) hsl') (atI_nat' (Int.emod_nonneg _ (by omega)) ?_)) (eb2.trans e3) fun H4 h4 eb4 => ?_
    · rw [← Int.natCast_emod, Int.toNat_natCast, natsD, List.getElem?_map, hmany]; rfl
    refine EvD.run (cev_listed (keys := keys) (evd_var rfl hv1) (evd_varS rfl) (evd_varS rfl) (evd_varS rfl) (evd_varI rfl) hm (by omega) hkx) eb4 fun w H5 B5 h5 x5 eb5 hw => ?_
    unfold pageD at hw
    rw [hall] at hw
    have hWl : (wholeE keys pre mark).length ≤ keys.length := hW
    generalize hWe : wholeE keys pre mark = W at *
    refine tg2 hw eb5 fun w1 w2 d1 d2 => ?_
    cases d2
    have hDl : (W.drop i).length = W.length - i := List.length_drop
    have hEl : ((W.drop i).take many).length = min many (W.length - i) := by rw [List.length_take, hDl]
    have hP5 : H5 p = some (.lst ((W.take i).map V.str)) := h5 _ _ (h4 _ _ (e3 _ _ hP))
    have eH5 : Ex H H5 := ((eH.trans e3).trans h4).trans h5
    have xB5 : Ext B H B5 := Ext.trans xB ((eH.trans e3).trans h4) x5
    have bp5 : B5 p = none := x5.out (h4 _ _ (e3 _ _ hP)) bp1
    have ele : ∀ (σ : Sig) (hσ : σ[8]? = some (some w1)) (H' : Hp), EvD (tCB (rLenSeq K) (tCons (tVar 8) tNil)) σ B5 H' (.int ((min many (W.length - i) : Nat) : Int)) := fun σ hσ H' => EvD.is (evd_lenT (evd_var hσ d1)) (by rw [List.length_map, hEl])
    refine q_pass (B := B5) (EvB.is (evb_or (evb_test (evd_B0 (ele _ rfl _) (evd_varI rfl))) fun _ => evb_and (evb_B (evd_varB rfl)) fun _ => evb_test (evd_B0 (ele _ rfl _) (evd_varI rfl))) ?_) eb5 fun H6 h6 eb6 => ?_
    · rw [hDl, decide_eq_false (by omega), Bool.false_or]
      by_cases c : (many : Int) < ((W.length - i : Nat) : Int)
      · rw [decide_eq_true c, Bool.true_and]; exact decide_eq_false (by omega)
      · rw [decide_eq_false c]; rfl
    refine q_extT (B := B5) rfl (evd_var rfl d1) eb6 (h6 _ _ hP5) (by rw [List.length_map, List.length_map, hEl, List.length_take]; omega) fun vs H7 B7 h7 x7 eb7 hvs => ?_
    rw [dpa_strs hvs]
    have hcat : ∀ W' : List Str, (W.take i).map V.str ++ W'.map V.str = (W.take i ++ W').map V.str := fun W' => by rw [List.map_append]
    rw [hcat]
    have eb8 : Ex B5 (upd H7 p (.lst ((W.take i ++ (W.drop i).take many).map V.str))) := Ex.mut (eb6.trans h7) bp5
    have eH8 : Ex H (upd H7 p (.lst ((W.take i ++ (W.drop i).take many).map V.str))) := ex_mutF ((eH5.trans h6).trans h7) hp
    refine q_when (B := B5) (evb_not (evb_B (evd_varB rfl))) eb8 (fun hb H9 h9 eb9 => ?_) (fun hb H9 h9 eb9 => ?_)
    · have hmore : ¬ (many : Int) < ((W.drop i).length : Int) := by simpa using hb
      rw [hDl] at hmore
      have hall : W.take i ++ (W.drop i).take many = W := by
        rw [List.take_of_length_le (l := W.drop i) (by rw [hDl]; omega), List.take_append_drop]
      rw [hall] at h9
      obtain ⟨u1, u2, u3⟩ := up_lst (ds := W.map .str) eb9 bp5 (h9 _ _ upd_same) (dpa_ofStrs _)
      exact s_ret (B := upd B5 p _) (evd_var rfl u3) u2 (Ret.grow r (by rw [hall] at eH8; exact eH8.trans h9) (Ext.add xB5 hp u1))
    · have hmore : (many : Int) < ((W.drop i).length : Int) := by simpa using hb
      rw [hDl] at hmore
      have hlt : many - 1 < (W.drop i).length := by rw [hDl]; omega
      obtain ⟨e, he⟩ : ∃ e, (W.drop i)[many - 1]? = some e := ⟨_, List.getElem?_eq_getElem hlt⟩
      have hlast : atI (((W.drop i).take many).map PyData.str) (-1) = some (.str e) := by
        rw [atI_neg (by decide) (by rw [List.length_map, hEl]; omega), List.getElem?_map, List.length_map, hEl]
        rw [show ((-1 : Int) + ((min many (W.length - i) : Nat) : Int)).toNat = many - 1 by omega, List.getElem?_take, if_pos (by omega), he]; rfl
      refine s_asgS (B := B5) (x := e) (evd_ixT (evd_var rfl d1) (evd_un evd_ci) hlast) eb9 fun H10 h10 eb10 => ?_
      subst hWe
      refine ⟨e, i + many, _, _, _, _, rfl, xB, (eH8.trans h9).trans h10, x5.1.trans eb10, bp1, by omega, by omega, ?_, all_next hm1 he⟩
      rw [h10 _ _ (h9 _ _ upd_same), List.take_add]
  · rintro B1 σ1 H2 eB ⟨after, i, x6, x7, x8, x9, rfl, xB, eH, eb2, bp1, hti, hiw, hP, hall⟩
    rw [rangeD, List.length_map, List.length_range] at hti
    have : (wholeE keys pre mark).length ≤ keys.length := hW
    omega
/-! ### each key, or its folder -/
theorem cut_startsB (key pre : Str) : decide (cutS key none (some (pre.length : Int)) = pre) = startsB key pre := by
  unfold startsB
  rw [decide_eq_decide, cutS_to, ← len_tl]
  constructor
  · intro h
    have := congrArg tl h
    rw [tl_ofL] at this
    exact this
  · intro h
    apply str_ext
    rw [tl_ofL]; exact h
theorem ent_form {key pre : Str} {c : Nat} (hs : startsB key pre = true) (hin : c ∈ (tl key).drop pre.length) : tl (entS key pre (sign c)) = tl pre ++ (((tl key).drop pre.length).takeWhile (· != c) ++ [c]) := by
  have h1 := of_decide_eq_true hs
  show tl (if c ∈ (tl key).drop pre.length then ofL ((tl key).take (pre.length + (((tl key).drop pre.length).takeWhile (· != c)).length + 1)) else key) = _
  rw [if_pos hin, tl_ofL, ← take_tw hin, Nat.add_assoc]
  refine Eq.trans List.take_add ?_
  rw [show (tl key).take pre.length = tl pre from by rw [len_tl]; exact h1]
theorem ent_self {key pre : Str} {c : Nat} (hin : c ∉ (tl key).drop pre.length) : entS key pre (sign c) = key := by
  show (if c ∈ (tl key).drop pre.length then _ else key) = key
  rw [if_neg hin]
theorem key_form {key pre : Str} (hs : startsB key pre = true) : tl key = tl pre ++ (tl key).drop pre.length := by
  have h1 := of_decide_eq_true hs
  rw [len_tl pre]
  conv => lhs; rw [← List.take_append_drop (tl pre).length (tl key)]
  rw [h1]
theorem ne_nil {x : Str} (h : 1 ≤ x.length) : gtS "" x = true := by
  unfold gtS
  refine decide_eq_true ?_
  show ([] : List Nat) < tl x
  cases hx : tl x with
  | nil => rw [len_tl, hx] at h; exact absurd h (by decide)
  | cons a r => exact List.nil_lt_cons a r
theorem ent_pos {key pre mark : Str} (h : 1 ≤ key.length) : 1 ≤ (entS key pre mark).length := by
  unfold entS
  split
  · exact h
  · split
    · rw [len_tl, tl_ofL, List.length_take, ← len_tl]; omega
    · exact h
theorem whole_mem {keys : List Str} {pre mark x : Str} (hk : ∀ k ∈ keys, 1 ≤ k.length) : x ∈ wholeE keys pre mark ↔ ∃ k ∈ keys, startsB k pre = true ∧ entS k pre mark = x := by
  unfold wholeE allE
  rw [List.mem_filter, (srt_perm _).mem_iff, dd_mem]
  unfold entsS
  rw [List.mem_map]
  constructor
  · rintro ⟨⟨k, hkm, e⟩, _⟩
    obtain ⟨h1, h2⟩ := List.mem_filter.mp hkm
    exact ⟨k, h1, h2, e⟩
  · rintro ⟨k, h1, h2, e⟩
    refine ⟨⟨k, List.mem_filter.mpr ⟨h1, h2⟩, e⟩, ?_⟩
    rw [← e]
    exact ne_nil (ent_pos (hk k h1))
theorem tw_self {c : Nat} {Y R : List Nat} (h : c ∉ Y) : (Y ++ c :: R).takeWhile (· != c) = Y := by
  induction Y with
  | nil => simp
  | cons a r ih =>
    have ha : a ≠ c := fun z => h (by rw [z]; exact List.mem_cons_self)
    rw [List.cons_append, List.takeWhile_cons_of_pos (p := fun x => x != c) (by simpa using ha), ih fun z => h (List.mem_cons_of_mem _ z)]
theorem tw_not {c : Nat} (R : List Nat) : c ∉ R.takeWhile (· != c) := fun z => by
  have := tw_imp z
  simp at this
def folderB (key pre : Str) (c : Nat) (x : Str) : Bool := (decide (cutS x (some (-1)) none = sign c) && startsB key x) && decide ((pre.length : Int) < (x.length : Int))
theorem last_form {x : Str} {c : Nat} (h : cutS x (some (-1)) none = sign c) : ∃ Y, tl x = Y ++ [c] := by
  have h1 := congrArg tl h
  rw [tl_cut, sIx_none, sIx_neg (by decide)] at h1
  rw [List.take_of_length_le (by rw [List.length_drop, ← len_tl]; omega)] at h1
  refine ⟨(tl x).take ((-1 + (x.length : Int)).toNat), ?_⟩
  conv => lhs; rw [← List.take_append_drop ((-1 + (x.length : Int)).toNat) (tl x)]
  rw [h1]; rfl
theorem last_back {x : Str} {c : Nat} {Y : List Nat} (h : tl x = Y ++ [c]) : cutS x (some (-1)) none = sign c := by
  apply str_ext
  rw [tl_cut, sIx_none, sIx_neg (by decide)]
  rw [List.take_of_length_le (by rw [List.length_drop, ← len_tl]; omega)]
  have hl : x.length = Y.length + 1 := by rw [len_tl, h, List.length_append]; rfl
  rw [h, show (-1 + (x.length : Int)).toNat = Y.length by omega, List.drop_left]; rfl
theorem folder_one {keys : List Str} {key pre : Str} {c : Nat} (hk : ∀ k ∈ keys, 1 ≤ k.length) (hm : key ∈ keys) (hs : startsB key pre = true) (hin : c ∈ (tl key).drop pre.length) : (wholeE keys pre (sign c)).filter (folderB key pre c) = [entS key pre (sign c)] := by
  have hmem : ∀ x, x ∈ (wholeE keys pre (sign c)).filter (folderB key pre c) ↔ x = entS key pre (sign c) := by
    intro x
    rw [List.mem_filter, whole_mem hk]
    constructor
    · rintro ⟨⟨k', hk', hs', rfl⟩, hf⟩
      unfold folderB at hf
      obtain ⟨hf, hlen⟩ := Bool.and_eq_true_iff.mp hf
      obtain ⟨hlast, hst⟩ := Bool.and_eq_true_iff.mp hf
      obtain ⟨Y, hY⟩ := last_form (of_decide_eq_true hlast)
      have hlen := of_decide_eq_true hlen
      have hst := of_decide_eq_true hst
      apply str_ext
      by_cases c1 : c ∈ (tl k').drop pre.length
      · have e1 := ent_form hs' c1
        rw [ent_form hs hin]
        rw [e1] at hst ⊢
        congr 1
        congr 1
        have h2 := key_form hs
        rw [h2, List.length_append, List.take_append, List.take_of_length_le (by omega)] at hst
        have h3 := List.append_cancel_left hst
        rw [show (tl pre).length + (((tl k').drop pre.length).takeWhile (· != c) ++ [c]).length - (tl pre).length = (((tl k').drop pre.length).takeWhile (· != c) ++ [c]).length by omega] at h3
        have h4 : (tl key).drop pre.length = ((tl k').drop pre.length).takeWhile (· != c) ++ c :: ((tl key).drop pre.length).drop (((tl k').drop pre.length).takeWhile (· != c) ++ [c]).length := by
          conv => lhs; rw [← List.take_append_drop (((tl k').drop pre.length).takeWhile (· != c) ++ [c]).length ((tl key).drop pre.length)]
          rw [h3, List.append_assoc]; rfl
        rw [h4, tw_self (tw_not _)]
      · exfalso
        rw [ent_self c1] at hY hlen
        have h2 := key_form hs'
        rw [h2] at hY
        have hlp : pre.length < (tl k').length := by rw [← len_tl]; omega
        have hR : (tl k').drop pre.length ≠ [] := by
          intro z
          have := congrArg List.length z
          rw [List.length_drop, List.length_nil] at this
          omega
        apply c1
        have hl : ((tl k').drop pre.length).getLast? = some c := by
          have := congrArg List.getLast? hY
          rw [List.getLast?_append, List.getLast?_append] at this
          cases hg : ((tl k').drop pre.length).getLast? with
          | none => exact absurd (List.getLast?_eq_none_iff.mp hg) hR
          | some z =>
            rw [hg] at this
            simpa using this
        exact List.mem_of_getLast? hl
    · rintro rfl
      refine ⟨⟨key, hm, hs, rfl⟩, ?_⟩
      have e1 := ent_form hs hin
      unfold folderB
      rw [Bool.and_eq_true_iff, Bool.and_eq_true_iff]
      refine ⟨⟨decide_eq_true (last_back (by rw [e1, ← List.append_assoc])), ?_⟩, decide_eq_true ?_⟩
      · refine decide_eq_true ?_
        show _ = tl (entS key pre (sign c))
        have e2 : tl (entS key pre (sign c)) = (tl key).take (pre.length + (((tl key).drop pre.length).takeWhile (· != c)).length + 1) := by
          show tl (if c ∈ (tl key).drop pre.length then ofL _ else key) = _
          rw [if_pos hin, tl_ofL]
        rw [e2, List.length_take]
        rcases Nat.le_total (pre.length + (((tl key).drop pre.length).takeWhile (· != c)).length + 1) (tl key).length with z | z
        · rw [Nat.min_eq_left z]
        · rw [Nat.min_eq_right z, List.take_length, List.take_of_length_le z]
      · rw [len_tl (entS key pre (sign c)), e1, List.length_append, List.length_append, ← len_tl]
        show (pre.length : Int) < ((pre.length + (_ + 1) : Nat) : Int)
        omega
  have hnd : ((wholeE keys pre (sign c)).filter (folderB key pre c)).Nodup := (whole_nd _ _ _).filter _
  generalize (wholeE keys pre (sign c)).filter (folderB key pre c) = L at *
  have hp := (List.perm_ext_iff_of_nodup hnd (List.nodup_cons.mpr ⟨fun z => (nomatch z), List.nodup_nil⟩ : [entS key pre (sign c)].Nodup)).mpr fun x => by rw [hmem, List.mem_singleton]
  exact List.perm_singleton.mp hp
theorem find_one (x : Str) (c : Nat) (h : c ∈ tl x) : Txt.find x (sign c) = (((tl x).takeWhile (· != c)).length : Int) := by
  unfold Txt.find
  rw [StrLaws.occ_eq]
  rw [show (sign c) = (⟨#[c]⟩ : Str) from rfl, occ_go x c 0 _ 0 (by omega) (Nat.le_refl _), List.drop_zero, if_pos h]
  simp
def sp_law_has (K : PySem.W.Frag) : Sp := fun vs H Q _ => ∃ (B : Hp) (w : V) (keys : List Str) (key pre mark : Str), Ex B H ∧ vs = [w, .str key, .str pre, .str mark] ∧ Da B w (.tuple ((wholeE keys pre mark).map .str)) ∧ key ∈ keys ∧ mkOk mark ∧ pre.length ≤ 1000 ∧ keys.length < 63 ∧ (∀ k ∈ keys, 1 ≤ k.length ∧ k.length ≤ 1000) ∧ Ret (.bool true) B H Q
theorem len_law_has {K : PySem.W.Frag} {vs : List V} {H : Hp} {Q : VK} {E : XK} (h : sp_law_has K vs H Q E) : vs.length = 4 := by
  obtain ⟨_, _, _, _, _, _, _, rfl, _⟩ := h; rfl
theorem shaped_int (n : Int) : SeqAt.shaped (.list [.int n]) = true := shaped_list (l := [n]) (f := fun n => .int n) (n := 0) (by decide) fun a _ => ⟨rfl, Nat.le_refl _⟩
theorem eqv_int (n : Int) : PyData.eqv (.list [.int n]) (.list [.int n]) = true := SeqAt.eqv_refl _ (by rfl)
def t_law_has (K : PySem.W.Frag) (E : XK) : TS :=
  (tSeq (tIfS (tTest (tOp rNe (tSl rSlS (tVar 1) tNoPart (tPart (tCB rLenStr (tCons (tVar 2) tNil)))) (tVar 2))) (tRet (tC (.bl true))) tNext)
    (tSeq (tAsg (tLc (iTup K (tVar 0)) (gName 6) (tAnd (tTest (tOp rNe (tVar 3) (tC (.str "")))) (tAnd (tTest (tOp rEq (tSl rSlS (tVar 6) (tPart (tUn (rU fun i => .int (-i)) (tC (.int 1)))) tNoPart) (tVar 3))) (tTest (tOp rEq (tSl rSlS (tVar 1) tNoPart (tPart (tCB rLenStr (tCons (tVar 6) tNil)))) (tVar 6))))) (tVar 6) [6]) (gName 4))
    (tSeq (tAsg (tSl rSlS (tVar 1) (tPart (tCB rLenStr (tCons (tVar 2) tNil))) tNoPart) (gName 5))
    (tSeq (tIfS (tOr (tTest (tOp rEq (tVar 3) (tC (.str "")))) (tTest (tOp rNotInSign (tVar 3) (tVar 5)))) (tRet (tOp (rIn K false) (tVar 1) (tVar 0))) tNext)
    (tRet (tOp (rEqD K) (tLc (iList K (tVar 4)) (gName 7) (tTest (tOp (rI0 fun i j => .bl (decide (j < i))) (tCB rLenStr (tCons (tVar 7) tNil)) (tCB rLenStr (tCons (tVar 2) tNil)))) (tCB rLenStr (tCons (tVar 7) tNil)) [7]) (tLst (tCons (tOp (rI0 fun i j => .int (i + j)) (tOp (rI0 fun i j => .int (i + j)) (tCB rLenStr (tCons (tVar 2) tNil)) (tM1 rFind1 (tVar 5) (tVar 3))) (tC (.int 1))) tNil))))))))
theorem pure_law_has {K : PySem.W.Frag}  {vs : List V} {H : Hp} {Q : VK} {E : XK} (h : sp_law_has K vs H Q E) : t_law_has K E { nx := fun _ H' => Q .non H', rt := Q } (start ["entries", "key", "prefix", "mark", "folders", "rest", "entry", "folder"] vs) H := by
  obtain ⟨B, w, keys, key, pre, mark, eb, rfl, hw, hkm, hm, hpl, hkl, hkx, r⟩ := h
  have hpl' : pre.length ≤ 1000000 := by omega
  have hkey := hkx key hkm
  have hkp : ∀ k ∈ keys, 1 ≤ k.length := fun k hk => (hkx k hk).1
  have hWl : (wholeE keys pre mark).length ≤ keys.length := all_len _ _ _ _
  have hWx : ∀ x ∈ wholeE keys pre mark, x.length ≤ 1000 := fun x hx => by
    obtain ⟨k, h1, h2, rfl⟩ := (whole_mem hkp).mp hx
    exact Nat.le_trans (entS_len _ _ _) (hkx k h1).2
  refine q_when (b := !startsB key pre) (B := B) (EvB.is (evb_test (evd_neS (evd_slS (evd_varS rfl) evo_none (evo_some (evd_lenS (evd_varS rfl)))) (evd_varS rfl))) (by rw [cut_startsB])) eb (fun hb H1 h1 eb1 => ?_) (fun hb H1 h1 eb1 => ?_)
  · exact s_ret (B := B) evd_ck eb1 (Ret.grow r h1 (Ext.refl _ _))
  · have hs : startsB key pre = true := by simpa using hb
    have hin : entS key pre mark ∈ wholeE keys pre mark := (whole_mem hkp).mpr ⟨key, hkm, hs, rfl⟩
    let cF : Str → Bool := fun e => (!decide (mark = "")) && (decide (cutS e (some (-1)) none = mark) && startsB key e)
    refine q_asg (B := B) (d := .list (((wholeE keys pre mark).filter cF).map .str)) ?_ eb1 fun v4 H2 B2 h2 x2 eb2 hv4 => ?_
    · refine evd_lc (as := wholeE keys pre mark) (fun e => .str e) cF (fun e => .str e) (src_tup (evd_var rfl hw)) (by omega) fun e he y B3 H3 _ _ _ hy R k => ?_
      cases hy
      have hel := hWx e he
      refine k _ rfl ?_ fun _ => (evd_varS rfl)
      exact EvB.is (evb_and (evb_test (evd_neS (evd_varS rfl) evd_cs)) fun _ => evb_and (evb_test (evd_eqS (evd_slS (evd_varS rfl) (evo_some (evd_un evd_ci)) evo_none) (evd_varS rfl))) fun _ => (evb_test (evd_eqS (evd_slS (evd_varS rfl) evo_none (evo_some (evd_lenS (evd_varS rfl)))) (evd_varS rfl)))) (by rw [cut_startsB])
    · refine q_asgS (B := B2) (evd_slS (evd_varS rfl) (evo_some (evd_lenS (evd_varS rfl))) evo_none) eb2 fun H3 h3 eb3 => ?_
      have hw2 := hw.ex' x2.1
      have rr : ∀ H', Ex H3 H' → Ret (.bool true) B2 H' Q := fun H' h' => Ret.grow r (((h1.trans h2).trans h3).trans h') (Ext.trans (Ext.refl _ _) h1 x2)
      rcases hm with rfl | ⟨c, hc, rfl⟩
      · refine q_when (b := true) (B := B2) (evb_or (a := true) (b := true) (EvB.is (evb_test (evd_eqS (evd_varS rfl) evd_cs)) (by simp)) (fun z => nomatch z)) eb3 (fun _ H4 h4 eb4 => ?_) (fun z => nomatch z)
        exact s_ret (B := B2) (d := .bool true) (EvD.is (evd_inT (ks := wholeE keys pre "") (evd_varS rfl) (evd_var rfl hw2)) (by rw [decide_eq_true (show key ∈ wholeE keys pre "" from hin)])) eb4 (rr H4 h4)
      · have hne : ∀ σ5, EvB (tTest (tOp rEq (tVar 3) (tC (.str "")))) [some w, some (.str key), some (.str pre), some (.str (sign c)), some v4, σ5, none, none] B2 H3 false := fun σ5 => EvB.is (evb_test (evd_eqS (evd_varS rfl) evd_cs)) (decide_eq_false (fun z => by have := congrArg Str.length z; exact absurd (show 1 = 0 from this) (by decide)))
        have hdr := cut_frm key pre.length
        by_cases c1 : c ∈ (tl key).drop pre.length
        · refine q_pass (B := B2) (EvB.is (evb_or (a := false) (hne _) fun _ => evb_test (evd_notInSign (evd_varS rfl) (evd_varS rfl))) (by rw [Bool.false_or]; show (!decide (c ∈ tl _)) = _; rw [hdr, decide_eq_true c1]; rfl)) eb3 fun H4 h4 eb4 => ?_
          have hlr : (cutS key (some (pre.length : Int)) none).length ≤ 1000 := Nat.le_trans (cut_len _ _ _) hkey.2
          have hf1 := folder_one hkp hkm hs c1
          have hcf : ((wholeE keys pre (sign c)).filter cF).filter (fun x => decide ((pre.length : Int) < (x.length : Int))) = [entS key pre (sign c)] := by
            rw [← hf1, List.filter_filter]
            refine List.filter_congr fun x _ => ?_
            show (_ && ((!decide (sign c = "")) && (_ && _))) = folderB key pre c x
            rw [decide_eq_false (show ¬ sign c = "" from fun z => by have := congrArg Str.length z; exact absurd (show 1 = 0 from this) (by decide)), Bool.not_false, Bool.true_and, Bool.and_comm]
            rfl
          have hel : (entS key pre (sign c)).length = pre.length + (((tl key).drop pre.length).takeWhile (· != c)).length + 1 := by
            rw [len_tl, ent_form hs c1, List.length_append, List.length_append, ← len_tl]; rfl
          have el : EvD (tLc (iList K (tVar 4)) (gName 7) (tTest (tOp (rI0 fun i j => .bl (decide (j < i))) (tCB rLenStr (tCons (tVar 7) tNil)) (tCB rLenStr (tCons (tVar 2) tNil)))) (tCB rLenStr (tCons (tVar 7) tNil)) [7]) [some w, some (.str key), some (.str pre), some (.str (sign c)), some v4, some (.str (cutS key (some (pre.length : Int)) none)), none, none] B2 H4 (.list [.int ((entS key pre (sign c)).length : Int)]) := by
            have := evd_lc (σ := [some w, some (.str key), some (.str pre), some (.str (sign c)), some v4, some (.str (cutS key (some (pre.length : Int)) none)), none, none]) (B := B2) (H := H4) (g := gName 7) (vs := [7]) (tt := (tTest (tOp (rI0 fun i j => .bl (decide (j < i))) (tCB rLenStr (tCons (tVar 7) tNil)) (tCB rLenStr (tCons (tVar 2) tNil))))) (te := (tCB rLenStr (tCons (tVar 7) tNil))) (wi := iList K (tVar 4)) (as := (wholeE keys pre (sign c)).filter cF) (fun e => .str e) (fun x => decide ((pre.length : Int) < (x.length : Int))) (fun x => .int (x.length : Int)) (src_list (evd_var rfl hv4)) (Nat.le_trans (List.length_filter_le _ _) (by omega)) fun e he y B3 H5 _ _ _ hy R k => by
              cases hy
              have hel := hWx e (List.mem_filter.mp he).1
              have hel' : e.length ≤ 1000000 := by omega
              exact k _ rfl (evb_test (evd_B0 (evd_lenS (evd_varS rfl)) (evd_lenS (evd_varS rfl)))) fun _ => (evd_lenS (evd_varS rfl))
            rw [hcf] at this
            exact this
          refine s_ret (B := B2) (d := .bool true) (EvD.is (evd_eqD el (d2 := .list [.int ((entS key pre (sign c)).length : Int)]) (EvD.is (evd_lst (evs_cons (evd_I0 (evd_I0 (evd_lenS (evd_varS rfl)) (evd_find1 (evd_varS rfl) (evd_varS rfl))) evd_ci) evs_nil)) ?_) (shaped_int _) (shaped_int _)) (by rw [eqv_int])) eb4 (rr H4 h4)
          rw [find_one _ _ (by rw [hdr]; exact c1), hdr, hel]
          simp
        · refine q_when (b := true) (B := B2) (EvB.is (evb_or (a := false) (hne _) fun _ => evb_test (evd_notInSign (evd_varS rfl) (evd_varS rfl))) (by rw [Bool.false_or]; show (!decide (c ∈ tl _)) = _; rw [hdr, decide_eq_false c1]; rfl)) eb3 (fun _ H4 h4 eb4 => ?_) (fun z => nomatch z)
          rw [ent_self c1] at hin
          exact s_ret (B := B2) (d := .bool true) (EvD.is (evd_inT (ks := wholeE keys pre (sign c)) (evd_varS rfl) (evd_var rfl hw2)) (by rw [decide_eq_true hin])) eb4 (rr H4 h4)
theorem asc_slash : asc ("/" : Str) := by unfold asc; decide +kernel
def okK (x : Str) : Prop := 1 ≤ x.length ∧ x.length ≤ 20 ∧ asc x
theorem eqv_self {d : PyData} (h : SeqAt.shaped d = true) : PyData.eqv d d = true := SeqAt.eqv_refl d (SeqAt.canLay_of_shaped h)
theorem whole_same (keys : List Str) (pre mark : Str) : srtS (ddS (wholeE keys pre mark)) = wholeE keys pre mark :=
  srt_uniq ((srt_perm _).trans ((List.perm_ext_iff_of_nodup (dd_nd _) (whole_nd _ _ _)).mpr fun y => dd_mem)) (srt_sort _) (whole_sort _ _ _)
theorem starts_self (x : Str) : startsB x x = true := decide_eq_true (List.take_length ..)
theorem ent_both {key pre mark : Str} (hm : mkOk mark) (hs : startsB key pre = true) : startsB key (entS key pre mark) = true ∧ startsB (entS key pre mark) pre = true := by
  rcases hm with rfl | ⟨c, _, rfl⟩
  · exact ⟨starts_self _, hs⟩
  · by_cases c1 : c ∈ (tl key).drop pre.length
    · constructor
      · refine decide_eq_true ?_
        have e2 : tl (entS key pre (sign c)) = (tl key).take (pre.length + (((tl key).drop pre.length).takeWhile (· != c)).length + 1) := by
          show tl (if c ∈ (tl key).drop pre.length then ofL _ else key) = _
          rw [if_pos c1, tl_ofL]
        rw [e2, List.length_take]
        rcases Nat.le_total (pre.length + (((tl key).drop pre.length).takeWhile (· != c)).length + 1) (tl key).length with z | z
        · rw [Nat.min_eq_left z]
        · rw [Nat.min_eq_right z, List.take_length, List.take_of_length_le z]
      · refine decide_eq_true ?_
        rw [ent_form hs c1, List.take_left]
    · rw [ent_self c1]
      exact ⟨starts_self _, hs⟩
theorem asc_ent {key pre mark : Str} (h : asc key) : asc (entS key pre mark) := by
  unfold entS
  split
  · exact h
  · split
    · intro c hc
      rw [tl_ofL] at hc
      exact h c (List.mem_of_mem_take hc)
    · exact h
section
variable {K : PySem.W.Frag} {σ : Sig} {B H : Hp} {te ta tb tc td tf : TE} {d : PyData} {E : XK}
theorem cev_law_pages {keys : List Str} {pre mark : Str} {sizes : List Nat} (ha : EvD ta σ B H (.tuple (keys.map .str))) (hb : EvD tb σ B H (.str pre)) (hc : EvD tc σ B H (.str mark)) (hd : EvD td σ B H (.list (natsD sizes))) (hne : sizes ≠ []) (hs : ∀ m ∈ sizes, 1 ≤ m) (hm : mkOk mark) (hl : keys.length < 63) (hx : ∀ k ∈ keys, k.length ≤ 1000) : EvD (tCall (sp_law_pages K) [] E (tCons ta (tCons tb (tCons tc (tCons td tNil))))) σ B H (.list ((wholeE keys pre mark).map .str)) := evd_call (evs_cons ha (evs_cons hb (evs_cons hc (evs_cons hd evs_nil)))) fun H1 B1 vs _ _ eb hd Q q => by
  obtain ⟨v1, v2, v3, v4, rfl, h1, h2, h3, h4⟩ := dpa4 hd
  cases h2
  cases h3
  exact ⟨B1, v1, v4, keys, pre, mark, sizes, eb, rfl, h1, h4, hne, hs, hm, hl, hx, q⟩
theorem cev_law_has {keys : List Str} {key pre mark : Str} (ha : EvD ta σ B H (.tuple ((wholeE keys pre mark).map .str))) (hb : EvD tb σ B H (.str key)) (hc : EvD tc σ B H (.str pre)) (hd : EvD td σ B H (.str mark)) (hk : key ∈ keys) (hm : mkOk mark) (hp : pre.length ≤ 1000) (hl : keys.length < 63) (hx : ∀ k ∈ keys, 1 ≤ k.length ∧ k.length ≤ 1000) : EvD (tCall (sp_law_has K) [] E (tCons ta (tCons tb (tCons tc (tCons td tNil))))) σ B H (.bool true) := evd_call (evs_cons ha (evs_cons hb (evs_cons hc (evs_cons hd evs_nil)))) fun H1 B1 vs _ _ eb hd Q q => by
  obtain ⟨v1, v2, v3, v4, rfl, h1, h2, h3, h4⟩ := dpa4 hd
  cases h2
  cases h3
  cases h4
  exact ⟨B1, v1, keys, key, pre, mark, eb, rfl, h1, hk, hm, hp, hl, hx, q⟩
end
def marks5 : List Str := ["/", "", "-", "/", "a"]
theorem marks5_ok : ∀ m ∈ marks5, mkOk m := by
  intro m hm
  simp only [marks5, List.mem_cons, List.mem_nil_iff, or_false] at hm
  rcases hm with rfl | rfl | rfl | rfl | rfl
  · exact .inr ⟨47, by decide, by decide +kernel⟩
  · exact .inl rfl
  · exact .inr ⟨45, by decide, by decide +kernel⟩
  · exact .inr ⟨47, by decide, by decide +kernel⟩
  · exact .inr ⟨97, by decide, by decide +kernel⟩
theorem at_strs {l : List Str} {i : Int} (h0 : 0 ≤ i) (h1 : i < l.length) : ∃ x ∈ l, atI (l.map PyData.str) i = some (.str x) := by
  have hi : i.toNat < l.length := by omega
  refine ⟨l[i.toNat], List.getElem_mem hi, atI_nat' h0 ?_⟩
  rw [List.getElem?_map, List.getElem?_eq_getElem hi]; rfl
theorem all_true {α : Type} (l : List α) : (l.map fun _ => true).all id = true := by
  induction l with
  | nil => rfl
  | cons c r ih => exact ih
def t_thelaw (K : PySem.W.Frag) (E : XK) : TS :=
  (tSeq (tFor (iRng1 (tCons (tC (.int 3)) tNil)) (gName 1) (tSeq (tAsg (tOp (rI0 fun i j => .int (i + j)) (tCall (sp_law_cell K) [] E0 (tCons (tVar 0) (tCons (tVar 1) tNil))) (tVar 1)) (gName 2))
    (tSeq (tAsg (tLst tNil) (gName 3))
    (tSeq (tFor (iRng1 (tCons (tCall (sp_law_mix K) [] E0 (tCons (tVar 2) (tCons (tC (.int 9811)) (tCons (tC (.int 13)) tNil)))) tNil)) (gName 4) (tSeq (tAsg (tCall (sp_law_key K) [] E0 (tCons (tOp (rI0 fun i j => .int (i + j)) (tCall (sp_law_cell K) [] E0 (tCons (tVar 0) (tCons (tOp (rI0 fun i j => .int (i + j)) (tC (.int 3)) (tOp (rI (fun _ j => 0 < j) fun i j => .int (i % j)) (tVar 4) (tC (.int 4)))) tNil))) (tOp (rI CMul fun i j => .int (i * j)) (tC (.int 7)) (tVar 4))) tNil)) (gName 5))
    (tSeq (tIfS (tAnd (tTest (tOp rEq (tCall (sp_law_mix K) [] E0 (tCons (tOp (rI0 fun i j => .int (i + j)) (tVar 2) (tVar 4)) (tCons (tC (.int 9803)) (tCons (tC (.int 3)) tNil)))) (tC (.int 0)))) (tTruth K (tVar 3))) (tAsg (tSl rSlS (tOp rAddStr (tOp rAddStr (tOp (rIxL K) (tVar 3) (tC (.int 0))) (tC (.str "/"))) (tVar 5)) tNoPart (tPart (tC (.int 20)))) (gName 5)) tNext)
    (tIfS (tTest (tOp (rIn K true) (tVar 5) (tVar 3))) (tDrop (tBM K "list" rAppend (tVar 3) (tCons (tVar 5) tNil))) tNext))))
    (tSeq (tAsg (tOp (rIxL K) (tOp rCat (tOp rCat (tLst (tCons (tC (.str "")) tNil)) (tLc (iList K (tVar 3)) (gName 5) tYes (tSl rSlS (tVar 5) tNoPart (tPart (tOp (rI0 fun i j => .int (i + j)) (tC (.int 1)) (tVar 1)))) [5])) (tVar 3)) (tCall (sp_law_mix K) [] E0 (tCons (tVar 2) (tCons (tC (.int 9791)) (tCons (tOp (rI0 fun i j => .int (i + j)) (tC (.int 1)) (tOp (rI CMul fun i j => .int (i * j)) (tC (.int 2)) (tCB (rLenSeq K) (tCons (tVar 3) tNil)))) tNil))))) (gName 6))
    (tSeq (tAsg (tOp (rIxT K) (tTup (tCons (tC (.str "/")) (tCons (tC (.str "")) (tCons (tC (.str "-")) (tCons (tC (.str "/")) (tCons (tC (.str "a")) tNil)))))) (tCall (sp_law_mix K) [] E0 (tCons (tVar 2) (tCons (tC (.int 9787)) (tCons (tC (.int 5)) tNil))))) (gName 7))
    (tSeq (tAsg (tCall (sp_listed K) [] E0 (tCons (tCB (rTupleOf K) (tCons (tVar 3) tNil)) (tCons (tVar 6) (tCons (tVar 7) (tCons (tC (.str "")) (tCons (tC (.int 99)) tNil)))))) (gTup K 2 (gCons (gName 8) (gCons (gName 9) gNil))))
    (tSeq (tIfS (tOr (tTest (tOp rNotB (tVar 9) (tC (.bl false)))) (tTest (tOp (rNeD K) (tCB (rListOf K) (tCons (tVar 8) tNil)) (tSortSet K (tVar 8))))) (tRet (tC (.bl false))) tNext)
    (tSeq (tIfS (tNot (tB (tCB (rAll K) (tCons (tLc (iList K (tVar 3)) (gName 5) tYes (tCall (sp_law_has K) [] E0 (tCons (tVar 8) (tCons (tVar 5) (tCons (tVar 6) (tCons (tVar 7) tNil))))) [5]) tNil)))) (tRet (tC (.bl false))) tNext)
    (tSeq (tIfS (tNot (tB (tCB (rAll K) (tCons (tLc (iTup K (tVar 8)) (gName 11) tYes (tCB (rAny K) (tCons (tLc (iList K (tVar 3)) (gName 5) tYes (tAndV (tM1 rStarts (tVar 5) (tVar 11)) (tM1 rStarts (tVar 11) (tVar 6))) [5]) tNil)) [11]) tNil)))) (tRet (tC (.bl false))) tNext)
    (tFor (iTup K (tTup (tCons (tLst (tCons (tC (.int 1)) tNil)) (tCons (tLst (tCons (tOp (rI0 fun i j => .int (i + j)) (tC (.int 1)) (tCall (sp_law_mix K) [] E0 (tCons (tVar 2) (tCons (tC (.int 9781)) (tCons (tC (.int 4)) tNil))))) tNil)) (tCons (tLst (tCons (tC (.int 3)) (tCons (tC (.int 1)) (tCons (tC (.int 2)) tNil)))) tNil))))) (gName 10) (tIfS (tTest (tOp (rNeD K) (tCall (sp_law_pages K) [] E0 (tCons (tCB (rTupleOf K) (tCons (tVar 3) tNil)) (tCons (tVar 6) (tCons (tVar 7) (tCons (tVar 10) tNil))))) (tCB (rListOf K) (tCons (tVar 8) tNil)))) (tRet (tC (.bl false))) tNext))))))))))))
    (tRet (tC (.bl true))))
theorem pure_thelaw {K : PySem.W.Frag}  {vs : List V} {H : Hp} {Q : VK} {E : XK} (h : sp_thelaw K vs H Q E) : t_thelaw K E { nx := fun _ H' => Q .non H', rt := Q } (start ["script", "k", "cell", "keys", "j", "key", "prefix", "mark", "whole", "more", "sizes", "entry"] vs) H := by
  obtain ⟨a, ns, rfl, hS0, hlen, k⟩ := h
  have ls : ("/" : Str).length = 1 := by decide +kernel
  refine q_for (B := H) (src_range1 (evs_cons evd_ci evs_nil)) (Ex.refl _) (fun B1 i σ1 H1 => ∃ (x1 x2 x3 x4 x5 x6 x7 x8 x9 x10 x11 : Option V), σ1 = [some (.ref a), x1, x2, x3, x4, x5, x6, x7, x8, x9, x10, x11] ∧ Ex H B1 ∧ Ex B1 H1)
    (fun H1 B1 e1 x1 eb1 => ⟨none, none, none, none, none, none, none, none, none, none, none, rfl, x1.1, eb1⟩) (fun _ _ _ _ _ ⟨_, _, _, _, _, _, _, _, _, _, _, _, _, h⟩ => h) ?_ ?_
  · rintro B1 i d v σ1 H1 H2 B2 eB hd ⟨x1, x2, x3, x4, x5, x6, x7, x8, x9, x10, x11, rfl, eHB, eb1⟩ e2 xx2 eb2 hv
    obtain ⟨hi, rfl⟩ := range_at hd
    cases hv
    have hS : SqL K B1 a (ns.map V.int) := ex_l eHB hS0
    have hS2 : SqL K H2 a (ns.map V.int) := ex_l (eb1.trans e2) hS
    refine q_asgI (B := B1) (evd_I0 (cev_law_cell (evf_var rfl) (evd_varI rfl)) (evd_varI rfl)) (eb1.trans e2) fun H3 e3 eb3 => ?_
    generalize hc : cellN ns (i : Int) + (i : Int) = c
    refine q_lnew fun p hp => ?_
    have bp : B1 p = none := fresh_back eb3 hp
    have r1 := mix_rng (c := c) (p := 9811) (m := 13) (by decide)
    have hS3 : SqL K (upd H3 p (.lst [])) a (ns.map V.int) := ex_l (eb3.trans (Ex.new hp)) hS
    refine q_for (B := B1) (src_range1 (evs_cons (cev_law_mix (evd_varI rfl) evd_ci evd_ci) evs_nil)) (eb3.trans (Ex.new hp)) (fun B4 j σ4 H4 => ∃ (x4 x5 : Option V) (ks : List Str), σ4 = [some (.ref a), some (.int (i : Int)), some (.int c), some (.ref p), x4, x5, x6, x7, x8, x9, x10, x11] ∧ Ex B1 B4 ∧ Ex B4 H4 ∧ B4 p = none ∧ H4 p = some (.lst (ks.map V.str)) ∧ ks.length ≤ j ∧ ∀ x ∈ ks, okK x)
      (fun H4 B4 e4 xx4 eb4 => ⟨_, _, [], rfl, xx4.1, eb4, xx4.out upd_same bp, e4 _ _ upd_same, Nat.le_refl _, fun _ h => by cases h⟩) (fun _ _ _ _ _ ⟨_, _, _, _, _, h, _⟩ => h) ?_ ?_
    · rintro B4 j d v σ4 H4 H5 B5 eB4 hd5 ⟨x4, x5, ks, rfl, eB14, eb4, bp4, hP4, hkl, hkx⟩ e5 xx5 eb5 hv5
      obtain ⟨hj, rfl⟩ := range_at hd5
      cases hv5
      have hS5 : SqL K H5 a (ns.map V.int) := ex_l ((eB14.trans eb4).trans e5) hS
      have hj10 : j < 13 := by omega
      refine q_asgS (B := B4) (cev_law_key (evd_I0 (cev_law_cell (evf_var rfl) (evd_I0 evd_ci (evd_mod (evd_varI rfl) evd_ci))) (evd_mul evd_ci (evd_varI rfl)))) (eb4.trans e5) fun H6 e6 eb6 => ?_
      have hkey : okK (lawKey (cellN ns (3 + (j : Int) % 4) + 7 * (j : Int))) := ⟨(lawKey_len _).1, (lawKey_len _).2, asc_key _⟩
      generalize lawKey (cellN ns (3 + (j : Int) % 4) + 7 * (j : Int)) = y at *
      have hP6 : H6 p = some (.lst (ks.map V.str)) := e6 _ _ (e5 _ _ hP4)
      have fin : ∀ (D : Ends) (H7 : Hp) (z : Str), okK z → Ex H6 H7 → (∀ H8 (ks' : List Str), Ex B4 H8 → H8 p = some (.lst (ks'.map V.str)) → ks'.length ≤ j + 1 → (∀ x ∈ ks', okK x) → D.nx [some (.ref a), some (.int (i : Int)), some (.int c), some (.ref p), some (.int (j : Int)), some (.str z), x6, x7, x8, x9, x10, x11] H8) →
          (tIfS (tTest (tOp (rIn K true) (tVar 5) (tVar 3))) (tDrop (tBM K "list" rAppend (tVar 3) (tCons (tVar 5) tNil))) tNext) D [some (.ref a), some (.int (i : Int)), some (.int c), some (.ref p), some (.int (j : Int)), some (.str z), x6, x7, x8, x9, x10, x11] H7 := by
        intro D H7 z hz h7 kk
        have hP7 := h7 _ _ hP6
        obtain ⟨u1, u2, u3⟩ := up_lst (ds := ks.map .str) (eb6.trans h7) bp4 hP7 (dpa_ofStrs _)
        refine s_when (B := upd B4 p (.lst (ks.map V.str))) (evb_test (evd_notInL (evd_varS rfl) (evd_var rfl u3))) u2 (fun hb H8 h8 eb8 => ?_) (fun hb H8 h8 eb8 => ?_)
        · refine q_app (B := B4) rfl (evd_varS rfl) (u1.trans eb8) (h8 _ _ hP7) (by rw [List.length_map]; omega) fun u H9 B9 h9 x9 eb9 hu => ?_
          cases hu
          refine kk _ (ks ++ [z]) (Ex.mut ((u1.trans eb8).trans h9) bp4) (by rw [upd_same, List.map_append]; rfl) (by rw [List.length_append]; exact Nat.succ_le_succ hkl) fun x hx => ?_
          rcases List.mem_append.mp hx with q | q
          · exact hkx x q
          · rw [List.mem_singleton.mp q]; exact hz
        · exact kk _ ks (u1.trans eb8) (h8 _ _ hP7) (Nat.le_succ_of_le hkl) hkx
      have k0 : ∀ (z : Str) (H8 : Hp) (ks' : List Str), Ex B4 H8 → H8 p = some (.lst (ks'.map V.str)) → ks'.length ≤ j + 1 → (∀ x ∈ ks', okK x) → ∃ (x4 x5 : Option V) (ks : List Str), [some (.ref a), some (.int (i : Int)), some (.int c), some (.ref p), some (.int (j : Int)), some (.str z), x6, x7, x8, x9, x10, x11] = [some (.ref a), some (.int (i : Int)), some (.int c), some (.ref p), x4, x5, x6, x7, x8, x9, x10, x11] ∧ Ex B1 B4 ∧ Ex B4 H8 ∧ B4 p = none ∧ H8 p = some (.lst (ks.map V.str)) ∧ ks.length ≤ j + 1 ∧ ∀ x ∈ ks, okK x := fun z H8 ks' h1 h2 h3 h4 => ⟨_, _, ks', rfl, eB14, h1, bp4, h2, h3, h4⟩
      obtain ⟨u1, u2, u3⟩ := up_lst (ds := ks.map .str) eb6 bp4 hP6 (dpa_ofStrs _)
      refine q_when (B := upd B4 p (.lst (ks.map V.str))) (evb_and (evb_test (evd_eqI (cev_law_mix (evd_I0 (evd_varI rfl) (evd_varI rfl)) evd_ci evd_ci) evd_ci)) fun _ => evb_tru (evd_var rfl u3) (fun x z => nomatch z)) u2 (fun hb H7 h7 eb7 => ?_) (fun hb H7 h7 eb7 => ?_)
      · cases ks with
        | nil => exact absurd (Bool.and_eq_true_iff.mp hb).2 (by decide)
        | cons z0 zr =>
          have hz0 := hkx z0 List.mem_cons_self
          have hz1 := hz0.1
          have hz2 := hz0.2.1
          have hy1 := hkey.1
          have hy2 := hkey.2.1
          have hzl : (z0 ++ "/" ++ y).length ≤ 100000 := by simp only [PySem.Str.length_append]; omega
          refine s_asgS (B := upd B4 p (.lst ((z0 :: zr).map V.str))) (x := cutS (z0 ++ "/" ++ y) none (some ((20 : Nat) : Int))) (evd_slS (evd_addS (evd_addS (evd_ixL (d := .str z0) (evd_var rfl u3) evd_ci (atI_nat' (by decide) rfl)) evd_cs) (evd_varS rfl)) evo_none (evo_some evd_ci)) eb7 fun H8 h8 eb8 => ?_
          exact fin _ H8 _ ⟨by rw [len_tl, cut_to, List.length_take, ← len_tl]; simp only [PySem.Str.length_append]; omega, by rw [len_tl, cut_to, List.length_take]; omega, asc_cut (asc_app (asc_app hz0.2.2 asc_slash) hkey.2.2) _ _⟩ (h7.trans h8) (k0 _)
      · exact fin _ H7 y hkey h7 (k0 y)
    · rintro B4 σ4 H4 eB4 ⟨x4, x5, ks, rfl, eB14, eb4, bp4, hP4, hkl, hkx⟩
      have hkl : ks.length ≤ 12 := by
        rw [rangeD, List.length_map, List.length_range] at hkl
        omega
      obtain ⟨u1, u2, u3⟩ := up_lst (ds := ks.map .str) eb4 bp4 hP4 (dpa_ofStrs _)
      generalize hB4 : upd B4 p (.lst (ks.map V.str)) = B5 at *
      have hk63 : ks.length < 63 := by omega
      have hk64 : ks.length < 64 := by omega
      have hkx' : ∀ x ∈ ks, x.length ≤ 1000 := fun x hx => Nat.le_trans (hkx x hx).2.1 (by decide)
      have hkx2 : ∀ x ∈ ks, 1 ≤ x.length ∧ x.length ≤ 1000 := fun x hx => ⟨(hkx x hx).1, hkx' x hx⟩
      let sm : List Str := [("" : Str)] ++ ks.map (fun x => cutS x none (some (1 + (i : Int)))) ++ ks
      have hsm : sm.length = 1 + 2 * ks.length := by simp [sm]; omega
      have hsx : ∀ x ∈ sm, x.length ≤ 20 := by
        intro x hx
        rcases List.mem_append.mp hx with hx | hx
        · rcases List.mem_append.mp hx with hx | hx
          · rw [List.mem_singleton.mp hx]; decide +kernel
          · obtain ⟨z, hz, rfl⟩ := List.mem_map.mp hx
            exact Nat.le_trans (cut_len _ _ _) (hkx z hz).2.1
        · exact (hkx x hx).2.1
      have esm : EvD (tOp rCat (tOp rCat (tLst (tCons (tC (.str "")) tNil)) (tLc (iList K (tVar 3)) (gName 5) tYes (tSl rSlS (tVar 5) tNoPart (tPart (tOp (rI0 fun i j => .int (i + j)) (tC (.int 1)) (tVar 1)))) [5])) (tVar 3)) [some (.ref a), some (.int (i : Int)), some (.int c), some (.ref p), x4, x5, x6, x7, x8, x9, x10, x11] B5 H4 (.list (sm.map .str)) := by
        refine EvD.is (evd_catL (ds := [.str ""] ++ ks.map fun x => .str (cutS x none (some (1 + (i : Int))))) (evd_catL (ds := [.str ""]) (es := ks.map fun x => .str (cutS x none (some (1 + (i : Int))))) (evd_lst (evs_cons evd_cs evs_nil)) (evd_lc1 (as := ks) (fun x => .str x) (fun x => .str (cutS x none (some (1 + (i : Int))))) (src_list (evd_var rfl u3)) (by omega) (fun _ => rfl) fun x hx y B6 H6 _ _ _ hy => ?_) ?_) (evd_var rfl u3) ?_) ?_
        · cases hy
          have := hkx' x hx
          exact evd_slS (evd_varS rfl) evo_none (evo_some (evd_I0 evd_ci (evd_varI rfl)))
        · rw [List.length_map]
          show 1 + _ ≤ _
          omega
        · rw [List.length_append, List.length_map, List.length_map]
          show 1 + _ + _ ≤ _
          omega
        · simp only [sm, List.map_append, List.map_map]; rfl
      generalize sm = sm at *
      have elk : ∀ (x6 x7 x8 x9 x10 x11 : Option V) H', EvD (tOp (rI0 fun i j => .int (i + j)) (tC (.int 1)) (tOp (rI CMul fun i j => .int (i * j)) (tC (.int 2)) (tCB (rLenSeq K) (tCons (tVar 3) tNil)))) [some (.ref a), some (.int (i : Int)), some (.int c), some (.ref p), x4, x5, x6, x7, x8, x9, x10, x11] B5 H' (.int (1 + 2 * (ks.length : Int))) := fun _ _ _ _ _ _ H' => EvD.is (evd_I0 evd_ci (evd_mul evd_ci (EvD.is (evd_lenL (evd_var rfl u3)) (by rw [List.length_map])))) rfl
      have r2 := mix_rng (c := c) (p := 9791) (m := 1 + 2 * (ks.length : Int)) (by omega)
      have r3 := mix_rng (c := c) (p := 9787) (m := 5) (by decide)
      have r4 := mix_rng (c := c) (p := 9781) (m := 4) (by decide)
      obtain ⟨pre, hpm, hpe⟩ := at_strs (l := sm) (i := mix c 9791 (1 + 2 * (ks.length : Int))) r2.1 (by omega)
      obtain ⟨mark, hmm, hme⟩ := at_strs (l := marks5) r3.1 r3.2
      have hmk := marks5_ok _ hmm
      have hpl : pre.length ≤ 1000 := Nat.le_trans (hsx pre hpm) (by decide)
      refine q_asgS (B := B5) (x := pre) (evd_ixL esm (cev_law_mix (evd_varI rfl) evd_ci (elk _ _ _ _ _ _ _)) hpe) u2 fun H6 e6 eb6 => ?_
      refine q_asgS (B := B5) (x := mark) (evd_ixT (ds := marks5.map .str) (evd_tup (evs_cons evd_cs (evs_cons evd_cs (evs_cons evd_cs (evs_cons evd_cs (evs_cons evd_cs evs_nil)))))) (cev_law_mix (evd_varI rfl) evd_ci evd_ci) hme) eb6 fun H7 e7 eb7 => ?_
      refine EvD.run (cev_listed (keys := ks) (most := 99) (evd_tupleL (evd_var rfl u3)) (evd_varS rfl) (evd_varS rfl) evd_cs evd_ci hmk hk64 hkx') eb7 fun w H8 B8 h8 xx8 eb8 hw => ?_
      have hWl : (wholeE ks pre mark).length ≤ ks.length := all_len _ _ _ _
      have hw' : Da B8 w (.tuple [.tuple ((wholeE ks pre mark).map .str), .bool false]) := by
        unfold pageD at hw
        rw [show allE ks pre mark "" = wholeE ks pre mark from rfl, List.take_of_length_le (by omega), decide_eq_false (by omega)] at hw
        exact hw
      refine tg2 hw' eb8 fun w1 w2 d1 d2 => ?_
      cases d2
      have u38 := u3.ex' xx8.1
      have hWa : ∀ x ∈ wholeE ks pre mark, asc x := fun x hx => by
        obtain ⟨k', h1, _, rfl⟩ := (whole_mem (fun k hk => (hkx k hk).1)).mp hx
        exact asc_ent (hkx k' h1).2.2
      have hW64 : (wholeE ks pre mark).length < 64 := by omega
      have hWx : ∀ x ∈ wholeE ks pre mark, x.length ≤ 1000 := fun x hx => by
        obtain ⟨k', h1, _, rfl⟩ := (whole_mem (fun k hk => (hkx k hk).1)).mp hx
        exact Nat.le_trans (entS_len _ _ _) (hkx' k' h1)
      have hsh := shaped_strs hWa
      refine q_pass (B := B8) (EvB.is (evb_or (a := false) (EvB.is (evb_test (evd_notBl (evd_varB rfl) evd_ck)) rfl) fun _ => evb_test (evd_neD (evd_listT (evd_var rfl d1)) (EvD.is (evd_sortSetT (evd_var rfl d1) hW64) (by rw [whole_same])) hsh hsh)) (by rw [eqv_self hsh]; rfl)) eb8 fun H9 h9 eb9 => ?_
      refine q_pass (B := B8) (EvB.is (evb_not (evb_B (evd_all (bs := ks.map fun _ => true) ?_))) (by rw [all_true]; rfl)) eb9 fun H10 h10 eb10 => ?_
      · rw [List.map_map]
        refine evd_lc1 (as := ks) (fun x => .str x) (fun _ => .bool true) (src_list (evd_var rfl u38)) (by omega) (fun _ => rfl) fun x hx y B9 H9 e9 _ _ hy => ?_
        cases hy
        have d19 := d1.ex' e9
        exact cev_law_has (keys := ks) (evd_var rfl d19) (evd_varS rfl) (evd_varS rfl) (evd_varS rfl) hx hmk hpl hk63 hkx2
      refine q_pass (B := B8) (EvB.is (evb_not (evb_B (evd_all (bs := (wholeE ks pre mark).map fun _ => true) ?_))) (by rw [all_true]; rfl)) eb10 fun H11 h11 eb11 => ?_
      · rw [List.map_map]
        refine evd_lc1 (as := wholeE ks pre mark) (fun x => .str x) (fun _ => .bool true) (src_tup (evd_var rfl d1)) (by omega) (fun _ => rfl) fun x hx y B9 H9 e9 _ _ hy => ?_
        cases hy
        have u39 := u38.ex' e9
        have hxl := hWx x hx
        refine EvD.is (evd_any (bs := ks.map fun k => Txt.startswith k x && Txt.startswith x pre) ?_) ?_
        · rw [List.map_map]
          refine evd_lc1 (as := ks) (fun x => .str x) (fun k => .bool (Txt.startswith k x && Txt.startswith x pre)) (src_list (evd_var rfl u39)) (by omega) (fun _ => rfl) fun z hz y B10 H10 e10 _ _ hy => ?_
          cases hy
          exact evd_and (evd_starts (evd_varS rfl) (evd_varS rfl)) fun _ => (evd_starts (evd_varS rfl) (evd_varS rfl))
        · obtain ⟨k', h1, h2, rfl⟩ := (whole_mem (fun k hk => (hkx k hk).1)).mp hx
          obtain ⟨q1, q2⟩ := ent_both hmk h2
          congr 1
          refine List.any_eq_true.mpr ⟨true, List.mem_map.mpr ⟨k', h1, ?_⟩, rfl⟩
          rw [starts_tl', starts_tl']
          show (startsB _ _ && startsB _ _) = true
          rw [q1, q2]; rfl
      refine s_for (B := B8) (src_tup (evd_tup (evs_cons (evd_lst (evs_cons evd_ci evs_nil)) (evs_cons (evd_lst (evs_cons (evd_I0 evd_ci (cev_law_mix (evd_varI rfl) evd_ci evd_ci)) evs_nil)) (evs_cons (evd_lst (evs_cons evd_ci (evs_cons evd_ci (evs_cons evd_ci evs_nil)))) evs_nil))))) eb11 (fun B12 j σ12 H12 => ∃ (x10 : Option V), σ12 = [some (.ref a), some (.int (i : Int)), some (.int c), some (.ref p), x4, x5, some (.str pre), some (.str mark), some w1, some (.bl false), x10, x11] ∧ Ex B8 B12 ∧ Ex B12 H12)
        (fun H12 B12 e12 xx12 eb12 => ⟨_, rfl, xx12.1, eb12⟩) (fun _ _ _ _ _ ⟨_, _, _, h⟩ => h) ?_ ?_
      · rintro B12 j d v σ12 H12 H13 B13 eB12 hd13 ⟨x10, rfl, eB812, eb12⟩ e13 xx13 eb13 hv13
        have u313 := (u38.ex' eB812).ex' xx13.1
        have d113 := (d1.ex' eB812).ex' xx13.1
        obtain ⟨sizes, hds, hsne, hs1⟩ : ∃ sizes : List Nat, d = .list (natsD sizes) ∧ sizes ≠ [] ∧ ∀ m ∈ sizes, 1 ≤ m := by
          have hmem := List.mem_of_getElem? hd13
          simp only [List.mem_cons, List.mem_nil_iff, or_false] at hmem
          rcases hmem with rfl | rfl | rfl
          · exact ⟨[1], rfl, by simp, by simp⟩
          · refine ⟨[(1 + mix c 9781 4).toNat], ?_, by simp, by simp; omega⟩
            show PyData.list [.int (1 + mix c 9781 4)] = .list [.int _]
            rw [Int.toNat_of_nonneg (by omega)]
          · exact ⟨[3, 1, 2], rfl, by simp, by simp⟩
        subst hds
        refine s_pass (B := B13) (EvB.is (evb_test (evd_neD (cev_law_pages (keys := ks) (evd_tupleL (evd_var rfl u313)) (evd_varS rfl) (evd_varS rfl) (evd_var rfl hv13) hsne hs1 hmk hk63 hkx') (evd_listT (evd_var rfl d113)) hsh hsh)) (by rw [eqv_self hsh]; rfl)) eb13 fun H14 h14 eb14 => ?_
        exact ⟨_, rfl, eB812, (xx13.1).trans eb14⟩
      · rintro B12 σ12 H12 eB12 ⟨x10, rfl, eB812, eb12⟩
        exact ⟨_, _, _, _, _, _, _, _, _, _, _, rfl, eHB, (((eB14.trans u1).trans xx8.1).trans eB812).trans eb12⟩
  · rintro B1 σ1 H1 eB ⟨x1, x2, x3, x4, x5, x6, x7, x8, x9, x10, x11, rfl, eHB, eb1⟩
    exact s_ret (B := B1) evd_ck eb1 (retTrue k)
end GK

namespace GKL
open PySem PySem.Spec PyProof.Rows L2 GK
open Evl (Ex)
def top (i : Nat) : Stmt := PySem.Challenge.pw_greatkeep_k13_whole_pages.main.body.getD i (.Pass ⟨0, 0, 0, 0⟩)
section
variable {P : Program} {w : World} {K : PySem.W.Frag} {mg : Str → Option Value} {base : Heap}
abbrev s_law_cell : Stmt := top 4
theorem sc_law_cell : FnScope ["script", "k"] ["script", "k"] (defScope s_law_cell) := ⟨rfl, rfl, rfl, by decide +kernel, rfl, by decide +kernel, by decide +kernel⟩
theorem ok_law_cell (bl : Blt mg) {f : Addr} {fd : FuncData} (F : FnP K "_law_cell" "_law_cell" s_law_cell f fd)  : FnOk P w K mg base (L2.CX P w) 1 f fd ["script", "k"] (sp_law_cell K) := by
  refine F.ok (k := 0) sc_law_cell (fun vs H Q E h => len_law_cell h) (fun cdv A outer s H vs Q E hr h => ⟨t_law_cell K E, PSs.nox ?_, pure_law_cell h⟩)
  have hu := hu_of hr
  exact (pss_cons (ps_if (pt_cmpR op_lt (pv 1) (pe_callB cr_lenSeq (by rfl) bl.len bt_len (pa_cons (pv 0) pa_nil)) (nomark _)) (pss_one (ps_ret (pe_ix ix_list (pv 0) (pv 1) (fun _ _ => rfl)))) pss_nil)
      (pss_one (ps_ret pe_int)))
abbrev s_law_mix : Stmt := top 5
theorem sc_law_mix : FnScope ["cell", "prime", "many", "blend"] ["cell", "prime", "many"] (defScope s_law_mix) := ⟨rfl, rfl, rfl, by decide +kernel, rfl, by decide +kernel, by decide +kernel⟩
theorem ok_law_mix (bl : Blt mg) {f : Addr} {fd : FuncData} (F : FnP K "_law_mix" "_law_mix" s_law_mix f fd)  : FnOk P w K mg base (L2.CX P w) 1 f fd ["cell", "prime", "many"] (sp_law_mix K) := by
  refine F.ok (k := 0) sc_law_mix (fun vs H Q E h => len_law_mix h) (fun cdv A outer s H vs Q E hr h => ⟨t_law_mix K E, PSs.nox ?_, pure_law_mix h⟩)
  have hu := hu_of hr
  exact (pss_cons (ps_set (i := 3) sc_law_mix.nd rfl (by first | exact Or.inl rfl | exact Or.inr rfl) (pe_op op_mod (pe_op op_mul (pv 0) pe_int) (pv 1)))
      (pss_one (ps_ret (pe_op op_mod (pe_op op_mod (pe_op op_mul (pv 3) (pe_op op_add (pv 3) pe_int)) (pv 1)) (pv 2)))))
abbrev s_law_key : Stmt := top 7
theorem sc_law_key : FnScope ["cell", "signs", "many", "k"] ["cell"] (defScope s_law_key) := ⟨rfl, rfl, rfl, by decide +kernel, rfl, by decide +kernel, by decide +kernel⟩
theorem ok_law_key (bl : Blt mg) {f : Addr} {fd : FuncData} (F : FnP K "_law_key" "_law_key" s_law_key f fd) (f_law_mix : Clb P w K mg base 1 "_law_mix" (sp_law_mix K)) : FnOk P w K mg base (L2.CX P w) 2 f fd ["cell"] (sp_law_key K) := by
  refine F.ok (k := 1) sc_law_key (fun vs H Q E h => len_law_key h) (fun cdv A outer s H vs Q E hr h => ⟨t_law_key K E, PSs.nox ?_, pure_law_key h⟩)
  have hu := hu_of hr
  exact (pss_cons (ps_set (i := 1) sc_law_key.nd rfl (by first | exact Or.inl rfl | exact Or.inr rfl) pe_str)
      (pss_cons (ps_if (pt_cmpR op_eq (pe_op op_mod (pv 0) pe_int) pe_int (nomark _)) (pss_one (ps_ret (pe_ix ix_tup (pe_tup (pa_cons pe_str (pa_cons pe_str (pa_cons pe_str (pa_cons pe_str (pa_cons pe_str (pa_cons pe_str (pa_cons pe_str (pa_cons pe_str pa_nil))))))))) (pe_cl f_law_mix hr (by decide) passL (pa_cons (pv 0) (pa_cons pe_int (pa_cons pe_int pa_nil)))) (fun _ _ => rfl)))) pss_nil)
      (pss_cons (ps_set (i := 2) sc_law_key.nd rfl (by first | exact Or.inl rfl | exact Or.inr rfl) (pe_op op_add pe_int (pe_cl f_law_mix hr (by decide) passL (pa_cons (pv 0) (pa_cons pe_int (pa_cons pe_int pa_nil))))))
      (pss_one (ps_ret (pe_m1 PySem.F.slot_str_join PySem.F.type_str_join mtr_join pe_str (pe_lc (own := [("k", 3)]) (g := (gName 3)) (tt := tYes) rfl sc_law_key.nd (pi_range1 (by rfl) bl.range (pa_cons (pv 2) pa_nil)) (blkOk_by (by kernel_rfl)) (fun _ _ _ _ _ => (pg_name (i := 3) sc_law_key.nd rfl (by first | exact Or.inl rfl | exact Or.inr rfl))) (fun _ _ _ _ _ => pts_nil) (fun _ _ _ _ _ => (pe_ix ix_str (pv 1) (pe_cl f_law_mix hr (by decide) passL (pa_cons (pe_op op_add (pv 0) (pe_op op_mul pe_int (pv 3))) (pa_cons pe_int (pa_cons pe_int pa_nil)))) (fun _ _ => rfl))))))))))
abbrev s_entry_of : Stmt := top 1
theorem sc_entry_of : FnScope ["key", "prefix", "mark", "place"] ["key", "prefix", "mark"] (defScope s_entry_of) := ⟨rfl, rfl, rfl, by decide +kernel, rfl, by decide +kernel, by decide +kernel⟩
theorem ok_entry_of (bl : Blt mg) {f : Addr} {fd : FuncData} (F : FnP K "entry_of" "entry_of" s_entry_of f fd)  : FnOk P w K mg base (L2.CX P w) 1 f fd ["key", "prefix", "mark"] (sp_entry_of K) := by
  refine F.ok (k := 0) sc_entry_of (fun vs H Q E h => len_entry_of h) (fun cdv A outer s H vs Q E hr h => ⟨t_entry_of K E, PSs.nox ?_, pure_entry_of h⟩)
  have hu := hu_of hr
  exact (pss_cons (ps_if (pt_cmpR op_eq (pv 2) pe_str (nomark _)) (pss_one (ps_ret (pv 0))) pss_nil)
      (pss_cons (ps_set (i := 3) sc_entry_of.nd rfl (by first | exact Or.inl rfl | exact Or.inr rfl) (pe_bm PySem.F.plainAttrs_str PySem.F.slot_str_find PySem.F.type_str_find mtr_find3 (pv 0) (pa_cons (pv 2) (pa_cons (pe_callB cr_lenStr (by rfl) bl.len bt_len (pa_cons (pv 1) pa_nil)) pa_nil))))
      (pss_cons (ps_if (pt_cmpR op_lt (pv 3) pe_int (nomark _)) (pss_one (ps_ret (pv 0))) pss_nil)
      (pss_one (ps_ret (pe_slice sl_str (pv 0) po_none (po_some (pe_op op_add (pv 3) pe_int))))))))
abbrev s_listed : Stmt := top 2
theorem sc_listed : FnScope ["keys", "prefix", "mark", "after", "most", "found", "key", "some", "entry"] ["keys", "prefix", "mark", "after", "most"] (defScope s_listed) := ⟨rfl, rfl, rfl, by decide +kernel, rfl, by decide +kernel, by decide +kernel⟩
theorem ok_listed (bl : Blt mg) {f : Addr} {fd : FuncData} (F : FnP K "listed" "listed" s_listed f fd) (f_entry_of : Clb P w K mg base 1 "entry_of" (sp_entry_of K)) : FnOk P w K mg base (L2.CX P w) 2 f fd ["keys", "prefix", "mark", "after", "most"] (sp_listed K) := by
  refine F.ok (k := 1) sc_listed (fun vs H Q E h => len_listed h) (fun cdv A outer s H vs Q E hr h => ⟨t_listed K E, PSs.nox ?_, pure_listed h⟩)
  have hu := hu_of hr
  exact (pss_cons (ps_set (i := 5) sc_listed.nd rfl (by first | exact Or.inl rfl | exact Or.inr rfl) pe_dnewK)
      (pss_cons (ps_for PassesOwn.never rfl (pi_tup (pv 0)) (pg_name (i := 6) sc_listed.nd rfl (by first | exact Or.inl rfl | exact Or.inr rfl)) (pss_one (ps_if (pt_val (pe_m1 PySem.F.slot_str_startswith PySem.F.type_str_startswith mtr_starts (pv 6) (pv 1))) (pss_one (ps_dput hu (pv 5) (pe_cl f_entry_of hr (by decide) passL (pa_cons (pv 6) (pa_cons (pv 1) (pa_cons (pv 2) pa_nil)))) pe_bl rfl)) pss_nil)))
      (pss_cons (ps_setLc (i := 7) (own := [("entry", 8)]) (g := (gName 8)) (tt := (tTest (tOp rGtStr (tVar 8) (tVar 3)))) rfl sc_listed.nd rfl rfl (sw_true rfl rfl rfl (by decide +kernel)) (pi_list (pe_callB (cr_sortDS rfl) (by rfl) bl.sorted bt_sorted (pa_cons (pv 5) pa_nil))) (blkOk_by (by kernel_rfl)) (fun _ _ _ _ _ => (pg_name (i := 8) sc_listed.nd rfl (by first | exact Or.inl rfl | exact Or.inr rfl))) (fun _ _ _ _ _ => (pts_one (pt_cmpR opr_gtStr (pv 8) (pv 3) (nomark _)))) (fun _ _ _ _ _ => (pv 8)))
      (pss_one (ps_ret (pe_tup (pa_cons (pe_callTy cr_tupleOf (by rfl) bl.tuple bt_tuple (pa_cons (pe_slice sl_list (pv 7) po_none (po_some (pv 4))) pa_nil)) (pa_cons (pe_cmpR op_gt (pe_callB cr_lenSeq (by rfl) bl.len bt_len (pa_cons (pv 7) pa_nil)) (pv 4) (nomark _)) pa_nil))))))))
abbrev s_law_has : Stmt := top 9
theorem sc_law_has : FnScope ["entries", "key", "prefix", "mark", "folders", "rest", "entry", "folder"] ["entries", "key", "prefix", "mark"] (defScope s_law_has) := ⟨rfl, rfl, rfl, by decide +kernel, rfl, by decide +kernel, by decide +kernel⟩
theorem ok_law_has (bl : Blt mg) {f : Addr} {fd : FuncData} (F : FnP K "_law_has" "_law_has" s_law_has f fd)  : FnOk P w K mg base (L2.CX P w) 1 f fd ["entries", "key", "prefix", "mark"] (sp_law_has K) := by
  refine F.ok (k := 0) sc_law_has (fun vs H Q E h => len_law_has h) (fun cdv A outer s H vs Q E hr h => ⟨t_law_has K E, PSs.nox ?_, pure_law_has h⟩)
  have hu := hu_of hr
  exact (pss_cons (ps_if (pt_cmpR op_ne (pe_slice sl_str (pv 1) po_none (po_some (pe_callB cr_lenStr (by rfl) bl.len bt_len (pa_cons (pv 2) pa_nil)))) (pv 2) (nomark _)) (pss_one (ps_ret pe_bl)) pss_nil)
      (pss_cons (ps_setLc (i := 4) (own := [("entry", 6)]) (g := (gName 6)) (tt := (tAnd (tTest (tOp rNe (tVar 3) (tC (.str "")))) (tAnd (tTest (tOp rEq (tSl rSlS (tVar 6) (tPart (tUn (rU fun i => .int (-i)) (tC (.int 1)))) tNoPart) (tVar 3))) (tTest (tOp rEq (tSl rSlS (tVar 1) tNoPart (tPart (tCB rLenStr (tCons (tVar 6) tNil)))) (tVar 6)))))) rfl sc_law_has.nd rfl rfl (sw_true rfl rfl rfl (by decide +kernel)) (pi_tup (pv 0)) (blkOk_by (by kernel_rfl)) (fun _ _ _ _ _ => (pg_name (i := 6) sc_law_has.nd rfl (by first | exact Or.inl rfl | exact Or.inr rfl))) (fun _ _ _ _ _ => (pts_one (PW.pt (pw_and (pt_cmpR op_ne (pv 3) pe_str (nomark _)) (pw_and (pt_cmpR op_eq (pe_slice sl_str (pv 6) (po_some (pe_un un_neg pe_int)) po_none) (pv 3) (nomark _)) (pw_and1 (pt_cmpR op_eq (pe_slice sl_str (pv 1) po_none (po_some (pe_callB cr_lenStr (by rfl) bl.len bt_len (pa_cons (pv 6) pa_nil)))) (pv 6) (nomark _)))))))) (fun _ _ _ _ _ => (pv 6)))
      (pss_cons (ps_set (i := 5) sc_law_has.nd rfl (by first | exact Or.inl rfl | exact Or.inr rfl) (pe_slice sl_str (pv 1) (po_some (pe_callB cr_lenStr (by rfl) bl.len bt_len (pa_cons (pv 2) pa_nil))) po_none))
      (pss_cons (ps_if (PW.pt (pw_or (pt_cmpR op_eq (pv 3) pe_str (nomark _)) (pw_or1 (pt_cmpR opr_notInSign (pv 3) (pv 5) rfl)))) (pss_one (ps_ret (pe_cmpR op_in_seq (pv 1) (pv 0) rfl))) pss_nil)
      (pss_one (ps_ret (pe_cmpR (op_eqD hr.units) (pe_lc (own := [("folder", 7)]) (g := (gName 7)) (tt := (tTest (tOp (rI0 fun i j => .bl (decide (j < i))) (tCB rLenStr (tCons (tVar 7) tNil)) (tCB rLenStr (tCons (tVar 2) tNil))))) rfl sc_law_has.nd (pi_list (pv 4)) (blkOk_by (by kernel_rfl)) (fun _ _ _ _ _ => (pg_name (i := 7) sc_law_has.nd rfl (by first | exact Or.inl rfl | exact Or.inr rfl))) (fun _ _ _ _ _ => (pts_one (pt_cmpR op_gt (pe_callB cr_lenStr (by rfl) bl.len bt_len (pa_cons (pv 7) pa_nil)) (pe_callB cr_lenStr (by rfl) bl.len bt_len (pa_cons (pv 2) pa_nil)) (nomark _)))) (fun _ _ _ _ _ => (pe_callB cr_lenStr (by rfl) bl.len bt_len (pa_cons (pv 7) pa_nil)))) (pe_lst (pa_cons (pe_op op_add (pe_op op_add (pe_callB cr_lenStr (by rfl) bl.len bt_len (pa_cons (pv 2) pa_nil)) (pe_m1 PySem.F.slot_str_find PySem.F.type_str_find mtr_find1 (pv 5) (pv 3))) pe_int) pa_nil)) (nomark _))))))))
abbrev s_law_pages : Stmt := top 8
theorem sc_law_pages : FnScope ["keys", "prefix", "mark", "sizes", "found", "after", "turn", "many", "entries", "more"] ["keys", "prefix", "mark", "sizes"] (defScope s_law_pages) := ⟨rfl, rfl, rfl, by decide +kernel, rfl, by decide +kernel, by decide +kernel⟩
theorem ok_law_pages (bl : Blt mg) {f : Addr} {fd : FuncData} (F : FnP K "_law_pages" "_law_pages" s_law_pages f fd) (f_listed : Clb P w K mg base 2 "listed" (sp_listed K)) : FnOk P w K mg base (L2.CX P w) 3 f fd ["keys", "prefix", "mark", "sizes"] (sp_law_pages K) := by
  refine F.ok (k := 2) sc_law_pages (fun vs H Q E h => len_law_pages h) (fun cdv A outer s H vs Q E hr h => ⟨t_law_pages K E, PSs.nox ?_, pure_law_pages h⟩)
  have hu := hu_of hr
  exact (pss_cons (ps_set (i := 4) sc_law_pages.nd rfl (by first | exact Or.inl rfl | exact Or.inr rfl) (pe_lst pa_nil))
      (pss_cons (ps_set (i := 5) sc_law_pages.nd rfl (by first | exact Or.inl rfl | exact Or.inr rfl) pe_str)
      (pss_cons (ps_for PassesOwn.never rfl (pi_range1 (by rfl) bl.range (pa_cons (pe_op op_add (pe_callB cr_lenSeq (by rfl) bl.len bt_len (pa_cons (pv 0) pa_nil)) pe_int) pa_nil)) (pg_name (i := 6) sc_law_pages.nd rfl (by first | exact Or.inl rfl | exact Or.inr rfl)) (pss_cons (ps_set (i := 7) sc_law_pages.nd rfl (by first | exact Or.inl rfl | exact Or.inr rfl) (pe_ix ix_list (pv 3) (pe_op op_mod (pv 6) (pe_callB cr_lenSeq (by rfl) bl.len bt_len (pa_cons (pv 3) pa_nil))) (fun _ _ => rfl)))
      (pss_cons (ps_asg (pe_cl f_listed hr (by decide) passL (pa_cons (pv 0) (pa_cons (pv 1) (pa_cons (pv 2) (pa_cons (pv 5) (pa_cons (pv 7) pa_nil)))))) (pg_tup rfl (pgs_cons (pg_name (i := 8) sc_law_pages.nd rfl (by first | exact Or.inl rfl | exact Or.inr rfl)) (pgs_cons (pg_name (i := 9) sc_law_pages.nd rfl (by first | exact Or.inl rfl | exact Or.inr rfl)) pgs_nil))))
      (pss_cons (ps_if (PW.pt (pw_or (pt_cmpR op_gt (pe_callB cr_lenSeq (by rfl) bl.len bt_len (pa_cons (pv 8) pa_nil)) (pv 7) (nomark _)) (pw_or1 (PW.pt (pw_and (pt_val (pv 9)) (pw_and1 (pt_cmpR op_lt (pe_callB cr_lenSeq (by rfl) bl.len bt_len (pa_cons (pv 8) pa_nil)) (pv 7) (nomark _)))))))) (pss_one (ps_ret pe_non)) pss_nil)
      (pss_cons (ps_expr (pe_bm PySem.F.plainAttrs_list PySem.F.slot_list_extend PySem.F.type_list_extend mt_extendT (pv 4) (pa_cons (pv 8) pa_nil)))
      (pss_cons (ps_if (pt_not (pt_val (pv 9))) (pss_one (ps_ret (pv 4))) pss_nil)
      (pss_one (ps_set (i := 5) sc_law_pages.nd rfl (by first | exact Or.inl rfl | exact Or.inr rfl) (pe_ix ix_tup (pv 8) (pe_un un_neg pe_int) (fun _ _ => rfl))))))))))
      (pss_one (ps_ret pe_non)))))
abbrev s_thelaw : Stmt := top 10
theorem sc_thelaw : FnScope ["script", "k", "cell", "keys", "j", "key", "prefix", "mark", "whole", "more", "sizes", "entry"] ["script"] (defScope s_thelaw) := ⟨rfl, rfl, rfl, by decide +kernel, rfl, by decide +kernel, by decide +kernel⟩
theorem ok_thelaw (bl : Blt mg) {f : Addr} {fd : FuncData} (F : FnP K "law" "law" s_thelaw f fd) (f_law_cell : Clb P w K mg base 1 "_law_cell" (sp_law_cell K)) (f_law_mix : Clb P w K mg base 1 "_law_mix" (sp_law_mix K)) (f_law_key : Clb P w K mg base 2 "_law_key" (sp_law_key K)) (f_listed : Clb P w K mg base 2 "listed" (sp_listed K)) (f_law_has : Clb P w K mg base 1 "_law_has" (sp_law_has K)) (f_law_pages : Clb P w K mg base 3 "_law_pages" (sp_law_pages K)) : FnOk P w K mg base (L2.CX P w) 4 f fd ["script"] (sp_thelaw K) := by
  refine F.ok (k := 3) sc_thelaw (fun vs H Q E h => len_thelaw h) (fun cdv A outer s H vs Q E hr h => ⟨t_thelaw K E, PSs.nox ?_, pure_thelaw h⟩)
  have hu := hu_of hr
  exact (pss_cons (ps_for PassesOwn.never rfl (pi_range1 (by rfl) bl.range (pa_cons pe_int pa_nil)) (pg_name (i := 1) sc_thelaw.nd rfl (by first | exact Or.inl rfl | exact Or.inr rfl)) (pss_cons (ps_set (i := 2) sc_thelaw.nd rfl (by first | exact Or.inl rfl | exact Or.inr rfl) (pe_op op_add (pe_cl f_law_cell hr (by decide) passL (pa_cons (pv 0) (pa_cons (pv 1) pa_nil))) (pv 1)))
      (pss_cons (ps_set (i := 3) sc_thelaw.nd rfl (by first | exact Or.inl rfl | exact Or.inr rfl) (pe_lst pa_nil))
      (pss_cons (ps_for PassesOwn.never rfl (pi_range1 (by rfl) bl.range (pa_cons (pe_cl f_law_mix hr (by decide) passL (pa_cons (pv 2) (pa_cons pe_int (pa_cons pe_int pa_nil)))) pa_nil)) (pg_name (i := 4) sc_thelaw.nd rfl (by first | exact Or.inl rfl | exact Or.inr rfl)) (pss_cons (ps_set (i := 5) sc_thelaw.nd rfl (by first | exact Or.inl rfl | exact Or.inr rfl) (pe_cl f_law_key hr (by decide) passL (pa_cons (pe_op op_add (pe_cl f_law_cell hr (by decide) passL (pa_cons (pv 0) (pa_cons (pe_op op_add pe_int (pe_op op_mod (pv 4) pe_int)) pa_nil))) (pe_op op_mul pe_int (pv 4))) pa_nil)))
      (pss_cons (ps_if (PW.pt (pw_and (pt_cmpR op_eq (pe_cl f_law_mix hr (by decide) passL (pa_cons (pe_op op_add (pv 2) (pv 4)) (pa_cons pe_int (pa_cons pe_int pa_nil)))) pe_int (nomark _)) (pw_and1 (pt_truth (pv 3) (by intro _; rfl))))) (pss_one (ps_set (i := 5) sc_thelaw.nd rfl (by first | exact Or.inl rfl | exact Or.inr rfl) (pe_slice sl_str (pe_op op_addStr (pe_op op_addStr (pe_ix ix_list (pv 3) pe_int (fun _ _ => rfl)) pe_str) (pv 5)) po_none (po_some pe_int)))) pss_nil)
      (pss_one (ps_if (pt_cmpR op_notIn_seq (pv 5) (pv 3) rfl) (pss_one (ps_expr (pe_bm PySem.F.plainAttrs_list PySem.F.slot_list_append PySem.F.type_list_append mt_append (pv 3) (pa_cons (pv 5) pa_nil)))) pss_nil)))))
      (pss_cons (ps_set (i := 6) sc_thelaw.nd rfl (by first | exact Or.inl rfl | exact Or.inr rfl) (pe_ix ix_list (pe_op op_cat (pe_op op_cat (pe_lst (pa_cons pe_str pa_nil)) (pe_lc (own := [("key", 5)]) (g := (gName 5)) (tt := tYes) rfl sc_thelaw.nd (pi_list (pv 3)) (blkOk_by (by kernel_rfl)) (fun _ _ _ _ _ => (pg_name (i := 5) sc_thelaw.nd rfl (by first | exact Or.inl rfl | exact Or.inr rfl))) (fun _ _ _ _ _ => pts_nil) (fun _ _ _ _ _ => (pe_slice sl_str (pv 5) po_none (po_some (pe_op op_add pe_int (pv 1))))))) (pv 3)) (pe_cl f_law_mix hr (by decide) passL (pa_cons (pv 2) (pa_cons pe_int (pa_cons (pe_op op_add pe_int (pe_op op_mul pe_int (pe_callB cr_lenSeq (by rfl) bl.len bt_len (pa_cons (pv 3) pa_nil)))) pa_nil)))) (fun _ _ => rfl)))
      (pss_cons (ps_set (i := 7) sc_thelaw.nd rfl (by first | exact Or.inl rfl | exact Or.inr rfl) (pe_ix ix_tup (pe_tup (pa_cons pe_str (pa_cons pe_str (pa_cons pe_str (pa_cons pe_str (pa_cons pe_str pa_nil)))))) (pe_cl f_law_mix hr (by decide) passL (pa_cons (pv 2) (pa_cons pe_int (pa_cons pe_int pa_nil)))) (fun _ _ => rfl)))
      (pss_cons (ps_asg (pe_cl f_listed hr (by decide) passL (pa_cons (pe_callTy cr_tupleOf (by rfl) bl.tuple bt_tuple (pa_cons (pv 3) pa_nil)) (pa_cons (pv 6) (pa_cons (pv 7) (pa_cons pe_str (pa_cons pe_int pa_nil)))))) (pg_tup rfl (pgs_cons (pg_name (i := 8) sc_thelaw.nd rfl (by first | exact Or.inl rfl | exact Or.inr rfl)) (pgs_cons (pg_name (i := 9) sc_thelaw.nd rfl (by first | exact Or.inl rfl | exact Or.inr rfl)) pgs_nil))))
      (pss_cons (ps_if (PW.pt (pw_or (pt_cmpR op_notBl (pv 9) pe_bl (nomark _)) (pw_or1 (pt_cmpR (op_neD hr.units) (pe_callTy cr_listOf (by rfl) bl.list bt_list (pa_cons (pv 8) pa_nil)) (pe_sortSet rfl (by rfl) bl.sorted (by rfl) bl.set (pv 8)) (nomark _))))) (pss_one (ps_ret pe_bl)) pss_nil)
      (pss_cons (ps_if (pt_not (pt_val (pe_callB (cr_all rfl) (by rfl) bl.all_ bt_all (pa_cons (pe_lc (own := [("key", 5)]) (g := (gName 5)) (tt := tYes) rfl sc_thelaw.nd (pi_list (pv 3)) (blkOk_by (by kernel_rfl)) (fun _ _ _ _ _ => (pg_name (i := 5) sc_thelaw.nd rfl (by first | exact Or.inl rfl | exact Or.inr rfl))) (fun _ _ _ _ _ => pts_nil) (fun _ _ _ _ _ => (pe_cl f_law_has hr (by decide) passL (pa_cons (pv 8) (pa_cons (pv 5) (pa_cons (pv 6) (pa_cons (pv 7) pa_nil))))))) pa_nil)))) (pss_one (ps_ret pe_bl)) pss_nil)
      (pss_cons (ps_if (pt_not (pt_val (pe_callB (cr_all rfl) (by rfl) bl.all_ bt_all (pa_cons (pe_lc (own := [("entry", 11)]) (g := (gName 11)) (tt := tYes) rfl sc_thelaw.nd (pi_tup (pv 8)) (blkOk_by (by kernel_rfl)) (fun _ _ _ _ _ => (pg_name (i := 11) sc_thelaw.nd rfl (by first | exact Or.inl rfl | exact Or.inr rfl))) (fun _ _ _ _ _ => pts_nil) (fun _ _ _ _ _ => (pe_callB (cr_any rfl) (by rfl) bl.any_ bt_any (pa_cons (pe_lc (own := [("key", 5)]) (g := (gName 5)) (tt := tYes) rfl sc_thelaw.nd (pi_list (pv 3)) (blkOk_by (by kernel_rfl)) (fun _ _ _ _ _ => (pg_name (i := 5) sc_thelaw.nd rfl (by first | exact Or.inl rfl | exact Or.inr rfl))) (fun _ _ _ _ _ => pts_nil) (fun _ _ _ _ _ => (pe_and (pe_m1 PySem.F.slot_str_startswith PySem.F.type_str_startswith mtr_starts (pv 5) (pv 11)) (pe_one (pe_m1 PySem.F.slot_str_startswith PySem.F.type_str_startswith mtr_starts (pv 11) (pv 6)))))) pa_nil)))) pa_nil)))) (pss_one (ps_ret pe_bl)) pss_nil)
      (pss_one (ps_for PassesOwn.never rfl (pi_tup (pe_tup (pa_cons (pe_lst (pa_cons pe_int pa_nil)) (pa_cons (pe_lst (pa_cons (pe_op op_add pe_int (pe_cl f_law_mix hr (by decide) passL (pa_cons (pv 2) (pa_cons pe_int (pa_cons pe_int pa_nil))))) pa_nil)) (pa_cons (pe_lst (pa_cons pe_int (pa_cons pe_int (pa_cons pe_int pa_nil)))) pa_nil))))) (pg_name (i := 10) sc_thelaw.nd rfl (by first | exact Or.inl rfl | exact Or.inr rfl)) (pss_one (ps_if (pt_cmpR (op_neD hr.units) (pe_cl f_law_pages hr (by decide) passL (pa_cons (pe_callTy cr_tupleOf (by rfl) bl.tuple bt_tuple (pa_cons (pv 3) pa_nil)) (pa_cons (pv 6) (pa_cons (pv 7) (pa_cons (pv 10) pa_nil))))) (pe_callTy cr_listOf (by rfl) bl.list bt_list (pa_cons (pv 8) pa_nil)) (nomark _)) (pss_one (ps_ret pe_bl)) pss_nil))))))))))))))
      (pss_one (ps_ret pe_bl)))
end
def d_law_cell : He.DefD := ⟨("_law_cell", none), "_law_cell", "_law_cell", defArgs s_law_cell, defBody s_law_cell, defScope s_law_cell, [], []⟩
def d_law_mix : He.DefD := ⟨("_law_mix", none), "_law_mix", "_law_mix", defArgs s_law_mix, defBody s_law_mix, defScope s_law_mix, [], []⟩
def d_law_key : He.DefD := ⟨("_law_key", none), "_law_key", "_law_key", defArgs s_law_key, defBody s_law_key, defScope s_law_key, [], []⟩
def d_entry_of : He.DefD := ⟨("entry_of", none), "entry_of", "entry_of", defArgs s_entry_of, defBody s_entry_of, defScope s_entry_of, [], []⟩
def d_listed : He.DefD := ⟨("listed", none), "listed", "listed", defArgs s_listed, defBody s_listed, defScope s_listed, [], []⟩
def d_law_has : He.DefD := ⟨("_law_has", none), "_law_has", "_law_has", defArgs s_law_has, defBody s_law_has, defScope s_law_has, [], []⟩
def d_law_pages : He.DefD := ⟨("_law_pages", none), "_law_pages", "_law_pages", defArgs s_law_pages, defBody s_law_pages, defScope s_law_pages, [], []⟩
def d_thelaw : He.DefD := ⟨("law", none), "law", "law", defArgs s_thelaw, defBody s_thelaw, defScope s_thelaw, [], []⟩
def fa0 : List He.Fa := [.glo "_law_cell", .glo "_law_mix", .glo "_law_key", .glo "entry_of", .glo "listed", .glo "_law_has", .glo "_law_pages", .glo "law", .free "ValueError", .free "all", .free "any", .free "bool", .free "dict", .free "int", .free "isinstance", .free "len", .free "list", .free "max", .free "min", .free "ord", .free "range", .free "reversed", .free "set", .free "sorted", .free "str", .free "sum", .free "tuple", .free "zip"]
def fa : List He.Fa := fa0
def fn0 : List He.DefD := [d_law_cell, d_law_mix, d_law_key, d_entry_of, d_listed, d_law_has, d_law_pages, d_thelaw]
def fn : List He.DefD := fn0
def loose0 : List PySem.Str := ["entry_of", "listed", "_law_cell", "_law_mix", "_law_same", "_law_key", "_law_pages", "_law_has"]
def loose : List PySem.Str := loose0
def adr0 : List Addr := [3, 21, 26, 33, 40, 45, 50, 57, 62, 67, 20, 25, 32, 39, 44, 49, 56, 61, 66]
def adr : List Addr := adr0
abbrev R : PySem.W.OpenRow := PySem.W.OpenLaw.row PySem.Challenge.rw_greatkeep_k13_whole_pages
def exf : PySem.W.Frag → Bool := fun _ => true
abbrev hk : PySem.W.Hook := hookA adr fa fn exf
def ob (s : PySem.W.SharedT) : AlB := (He.obsD fa fn (He.frG (HandSHeadRun.getT s) adr), exf (He.frG (HandSHeadRun.getT s) adr))
theorem ob_eq (s : PySem.W.SharedT) : ob s = hk.obs s.abs := hookA_eq
theorem run (w : World) : HandSHeadRun.RunEq R (PySem.W.view R.prog [10]) hk ob 1000 loose w := by
  intro os
  kernel_rfl
theorem facts {P : Program} {w : World} {K : PySem.W.Frag} {h : Heap} {mg : Str → Option Value} {f : Addr} (X : K.In h) (G : h.Ns mainGlobals mg) (hfa : mg ("law" : Str) = some (.ref f)) (c0 : SaysB fa fn exf K) :
    ∃ fd : FuncData, (∀ (s : Shared) (v : Value), BindsTo s fd ⟨[v], []⟩ [("script", v)]) ∧ ∀ base : Heap, K.In base → base.Ns mainGlobals mg → FnOk P w K mg base (L2.CX P w) 4 f fd ["script"] (sp_thelaw K) := by
  obtain ⟨c, cx⟩ := c0
  obtain ⟨fd_law_cell, F_law_cell⟩ := c.def_ 0 (d := d_law_cell) rfl
  obtain ⟨fd_law_mix, F_law_mix⟩ := c.def_ 1 (d := d_law_mix) rfl
  obtain ⟨fd_law_key, F_law_key⟩ := c.def_ 2 (d := d_law_key) rfl
  obtain ⟨fd_entry_of, F_entry_of⟩ := c.def_ 3 (d := d_entry_of) rfl
  obtain ⟨fd_listed, F_listed⟩ := c.def_ 4 (d := d_listed) rfl
  obtain ⟨fd_law_has, F_law_has⟩ := c.def_ 5 (d := d_law_has) rfl
  obtain ⟨fd_law_pages, F_law_pages⟩ := c.def_ 6 (d := d_law_pages) rfl
  obtain ⟨fd_thelaw, F_thelaw⟩ := c.def_ 7 (d := d_thelaw) rfl
  have bl : Blt mg := ⟨He.free_ok X G (c.fact 15 rfl), He.free_ok X G (c.fact 20 rfl), He.free_ok X G (c.fact 25 rfl), He.free_ok X G (c.fact 9 rfl), He.free_ok X G (c.fact 10 rfl), He.free_ok X G (c.fact 26 rfl), He.free_ok X G (c.fact 16 rfl), He.free_ok X G (c.fact 12 rfl), He.free_ok X G (c.fact 22 rfl), He.free_ok X G (c.fact 14 rfl), He.free_ok X G (c.fact 19 rfl), He.free_ok X G (c.fact 24 rfl), He.free_ok X G (c.fact 13 rfl), He.free_ok X G (c.fact 11 rfl), He.free_ok X G (c.fact 18 rfl), He.free_ok X G (c.fact 17 rfl), He.free_ok X G (c.fact 23 rfl), He.free_ok X G (c.fact 21 rfl), He.free_ok X G (c.fact 27 rfl), He.free_ok X G (c.fact 8 rfl)⟩
  have e := hfa.symm.trans (He.glo_ok X G (c.fact 7 rfl))
  cases e
  have b := FunD.bindsA (ps := ["script"]) F_thelaw fun _ _ _ _ _ _ us hl => match us, hl with | [_], _ => rfl
  refine ⟨fd_thelaw, fun s v => b s [v] rfl, fun base _ _ => ?_⟩
  have b_law_cell : Binds K fd_law_cell ["script", "k"] [] := F_law_cell.bindsN fun _ _ _ _ _ _ us hl => match us, hl with | [_, _], _ => rfl
  have f_law_cell : Clb P w K mg base 1 "_law_cell" (sp_law_cell K) := ⟨_, _, _, ok_law_cell bl F_law_cell , He.glo_ok X G (c.fact 0 rfl), F_law_cell.kp, b_law_cell⟩
  have b_law_mix : Binds K fd_law_mix ["cell", "prime", "many"] [] := F_law_mix.bindsN fun _ _ _ _ _ _ us hl => match us, hl with | [_, _, _], _ => rfl
  have f_law_mix : Clb P w K mg base 1 "_law_mix" (sp_law_mix K) := ⟨_, _, _, ok_law_mix bl F_law_mix , He.glo_ok X G (c.fact 1 rfl), F_law_mix.kp, b_law_mix⟩
  have b_law_key : Binds K fd_law_key ["cell"] [] := F_law_key.bindsN fun _ _ _ _ _ _ us hl => match us, hl with | [_], _ => rfl
  have f_law_key : Clb P w K mg base 2 "_law_key" (sp_law_key K) := ⟨_, _, _, ok_law_key bl F_law_key f_law_mix, He.glo_ok X G (c.fact 2 rfl), F_law_key.kp, b_law_key⟩
  have b_entry_of : Binds K fd_entry_of ["key", "prefix", "mark"] [] := F_entry_of.bindsN fun _ _ _ _ _ _ us hl => match us, hl with | [_, _, _], _ => rfl
  have f_entry_of : Clb P w K mg base 1 "entry_of" (sp_entry_of K) := ⟨_, _, _, ok_entry_of bl F_entry_of , He.glo_ok X G (c.fact 3 rfl), F_entry_of.kp, b_entry_of⟩
  have b_listed : Binds K fd_listed ["keys", "prefix", "mark", "after", "most"] [] := F_listed.bindsN fun _ _ _ _ _ _ us hl => match us, hl with | [_, _, _, _, _], _ => rfl
  have f_listed : Clb P w K mg base 2 "listed" (sp_listed K) := ⟨_, _, _, ok_listed bl F_listed f_entry_of, He.glo_ok X G (c.fact 4 rfl), F_listed.kp, b_listed⟩
  have b_law_has : Binds K fd_law_has ["entries", "key", "prefix", "mark"] [] := F_law_has.bindsN fun _ _ _ _ _ _ us hl => match us, hl with | [_, _, _, _], _ => rfl
  have f_law_has : Clb P w K mg base 1 "_law_has" (sp_law_has K) := ⟨_, _, _, ok_law_has bl F_law_has , He.glo_ok X G (c.fact 5 rfl), F_law_has.kp, b_law_has⟩
  have b_law_pages : Binds K fd_law_pages ["keys", "prefix", "mark", "sizes"] [] := F_law_pages.bindsN fun _ _ _ _ _ _ us hl => match us, hl with | [_, _, _, _], _ => rfl
  have f_law_pages : Clb P w K mg base 3 "_law_pages" (sp_law_pages K) := ⟨_, _, _, ok_law_pages bl F_law_pages f_listed, He.glo_ok X G (c.fact 6 rfl), F_law_pages.kp, b_law_pages⟩
  exact ok_thelaw bl F_thelaw f_law_cell f_law_mix f_law_key f_listed f_law_has f_law_pages
end GKL
open PySem PySem.W PySem.Calls PyProof.Rows
theorem PySem.Challenge.cw_greatkeep_k13_whole_pages_holds : PySem.Challenge.rw_greatkeep_k13_whole_pages.Holds := by
  w_on; o_law
  refine HandSHeadRun.head_any (r := OpenLaw.row PySem.Challenge.rw_greatkeep_k13_whole_pages) (q := view (OpenLaw.row PySem.Challenge.rw_greatkeep_k13_whole_pages).prog [10]) (H := GKL.hk) (ob := GKL.ob) (M := 1000) (loose := GKL.loose) (d := HandSHeadRun.topDef (OpenLaw.row PySem.Challenge.rw_greatkeep_k13_whole_pages).prog 10) (kwd := []) GKL.ob_eq
    (by kernel_rfl) (fun s => by kernel_rfl) GKL.run (by kernel_rfl) (by kernel_rfl) (by kernel_rfl) (by rfl) (by first | assumption | decide +kernel) (by decide +kernel) ⟨rfl, rfl, rfl, rfl, rfl, by decide +kernel⟩ ?hw ?hc
  case hw => w_witness2
  case hc =>
    refine L2.walk_ofE (l := PySem.Challenge.rw_greatkeep_k13_whole_pages) (n := 63) (k := 4) (x := "script") (CX := GK.cxAny) rfl (by decide) (by kernel_rfl) ⟨rfl, by decide, by decide⟩ ?F GK.cxAny_no
    intro w mg fa h Y G hmg0
    obtain ⟨K, KX, c⟩ := Y
    have hmg : mg ("law" : PySem.Str) = some (.ref fa) := by
      have e : (HandSHeadRun.topDef (OpenLaw.row PySem.Challenge.rw_greatkeep_k13_whole_pages).prog 10).name = ("law" : PySem.Str) := by kernel_rfl
      rw [← e]
      exact hmg0
    obtain ⟨fd, hb, hF⟩ := GKL.facts (P := (PySem.Challenge.rw_greatkeep_k13_whole_pages).prog) (w := w) KX G hmg c
    exact ⟨K, fd, GK.sp_thelaw K, KX, hb, fun H a ns hl _ hS => ⟨a, ns, rfl, hS, hl, fun _ => rfl⟩, fun base k1 k2 => GK.cxAny_of (hF base k1 k2)⟩
