import PyProof.Rows.All
import Wide.All
import OpenK.AllK
import Wide.FinOn
import KE.KStateDown
import Lean
import HandS.ForMost
import HandS.More
import HandS.Exc
import HandS.TryOnly
import HandS.ExcOwn
import HandS.WordsExc
import HandS.ExcIs
import HandS.Defaults
import HandS.Head0
import HandS.Head1
import HandS.Head2
import HandS.HeadEnd
import HandS.HeadHook1
import HandS.HeadHook2
import HandS.Evl
import HandS.Walk
import HandS.IsInst
import HandS.StrMore
import HandS.Flow
import HandS.Style
import HandS.TupAny
import HandS.Zip
import HandS.Rev
import HandS.SetKeys
import HandS.DictTup
import HandS.Conv
import HandS.Small
import KE.GoesZip
import KE.GoesMore
import KE.GoesEnum
import HandS.Set
import HandS.Strs
import HandS.SetFor
import PySem.Challenge.RW_greatkeep_k11_whole_ranges
set_option Elab.async false
set_option linter.all false
set_option maxRecDepth 100000
set_option maxHeartbeats 8000000
/-! Greatkeep: what evaluates to which data; rules beside those of the layer. -/
namespace GK
open PySem PySem.Spec PyProof.Rows L2 Evl
abbrev Sig := L2.St
/-! ### data in a heap: lists and tuples that stand in it -/
mutual
inductive Da : Hp → V → PyData → Prop
  | non {H : Hp} : Da H .non .none
  | bl {H : Hp} (b : Bool) : Da H (.bl b) (.bool b)
  | int {H : Hp} (i : Int) : Da H (.int i) (.int i)
  | str {H : Hp} (x : Str) : Da H (.str x) (.str x)
  | lst {H : Hp} {a : Addr} {xs : List V} {ds : List PyData} : H a = some (.lst xs) → DaAll H xs ds → Da H (.ref a) (.list ds)
  | tup {H : Hp} {a : Addr} {xs : List V} {ds : List PyData} : H a = some (.tup xs) → DaAll H xs ds → Da H (.ref a) (.tuple ds)
inductive DaAll : Hp → List V → List PyData → Prop
  | nil {H : Hp} : DaAll H [] []
  | cons {H : Hp} {v : V} {vs : List V} {d : PyData} {ds : List PyData} : Da H v d → DaAll H vs ds → DaAll H (v :: vs) (d :: ds)
end
section
variable {K : PySem.W.Frag}
/-! ### data in a heap that grows -/
mutual
theorem da_ex {H H' : Hp} (e : Ex H H') : ∀ (d : PyData) (v : V), Da H v d → Da H' v d
  | .none, _, h => by cases h; exact .non
  | .bool b, _, h => by cases h; exact .bl b
  | .int i, _, h => by cases h; exact .int i
  | .str x, _, h => by cases h; exact .str x
  | .list ds, _, h => by
    cases h with
    | lst h ha => exact .lst (e _ _ h) (dpAll_ex e ds _ ha)
  | .tuple ds, _, h => by
    cases h with
    | tup h ha => exact .tup (e _ _ h) (dpAll_ex e ds _ ha)
  | .dict _, _, h => by cases h
theorem dpAll_ex {H H' : Hp} (e : Ex H H') : ∀ (ds : List PyData) (vs : List V), DaAll H vs ds → DaAll H' vs ds
  | [], _, h => by cases h; exact .nil
  | d :: ds, _, h => by
    cases h with
    | cons h t => exact .cons (da_ex e d _ h) (dpAll_ex e ds _ t)
end
theorem Da.ex' {H H' : Hp} {d : PyData} {v : V} (h : Da H v d) (e : Ex H H') : Da H' v d := da_ex e d v h
theorem dpi {H : Hp} {v : V} {i : Int} (h : Da H v (.int i)) : v = .int i := by cases h; rfl
theorem dps {H : Hp} {v : V} {x : Str} (h : Da H v (.str x)) : v = .str x := by cases h; rfl
theorem dpb {H : Hp} {v : V} {b : Bool} (h : Da H v (.bool b)) : v = .bl b := by cases h; rfl
theorem dpn {H : Hp} {v : V} (h : Da H v .none) : v = .non := by cases h; rfl
theorem dpt {H : Hp} {v : V} {ds : List PyData} (h : Da H v (.tuple ds)) : ∃ a xs, v = .ref a ∧ H a = some (.tup xs) ∧ DaAll H xs ds := by
  cases h with
  | tup h ha => exact ⟨_, _, rfl, h, ha⟩
theorem dpl {H : Hp} {v : V} {ds : List PyData} (h : Da H v (.list ds)) : ∃ a xs, v = .ref a ∧ H a = some (.lst xs) ∧ DaAll H xs ds := by
  cases h with
  | lst h ha => exact ⟨_, _, rfl, h, ha⟩
theorem dpa_len {H : Hp} : ∀ {ds : List PyData} {vs : List V}, DaAll H vs ds → vs.length = ds.length
  | [], _, h => by cases h; rfl
  | d :: ds, _, h => by
    cases h with
    | cons h t => rw [List.length_cons, List.length_cons, dpa_len t]
theorem dpa_get {H : Hp} : ∀ {ds : List PyData} {vs : List V} {i : Nat} {v : V}, DaAll H vs ds → vs[i]? = some v → ∃ d, ds[i]? = some d ∧ Da H v d
  | [], _, i, v, h, e => by cases h; simp at e
  | d :: ds, _, i, v, h, e => by
    cases h with
    | cons h t =>
      cases i with
      | zero => simp at e; subst e; exact ⟨d, rfl, h⟩
      | succ i => simp at e; obtain ⟨d', e', h'⟩ := dpa_get t e; exact ⟨d', by simpa using e', h'⟩
theorem dpa_at {H : Hp} : ∀ {ds : List PyData} {vs : List V} {i : Nat} {d : PyData}, DaAll H vs ds → ds[i]? = some d → ∃ v, vs[i]? = some v ∧ Da H v d
  | [], _, i, d, h, e => by simp at e
  | d :: ds, _, i, d', h, e => by
    cases h with
    | cons h t =>
      cases i with
      | zero => simp at e; subst e; exact ⟨_, rfl, h⟩
      | succ i => simp at e; obtain ⟨v, e', h'⟩ := dpa_at t e; exact ⟨v, by simpa using e', h'⟩
theorem dpa_app {H : Hp} : ∀ {ds es : List PyData} {vs us : List V}, DaAll H vs ds → DaAll H us es → DaAll H (vs ++ us) (ds ++ es)
  | [], _, _, _, h, h' => by cases h; exact h'
  | d :: ds, _, _, _, h, h' => by
    cases h with
    | cons h t => exact .cons h (dpa_app t h')
theorem dpa_take {H : Hp} : ∀ {n : Nat} {ds : List PyData} {vs : List V}, DaAll H vs ds → DaAll H (vs.take n) (ds.take n)
  | 0, _, _, _ => by simpa using DaAll.nil
  | n + 1, [], _, h => by cases h; exact .nil
  | n + 1, d :: ds, _, h => by
    cases h with
    | cons h t => exact .cons h (dpa_take t)
theorem dpa_drop {H : Hp} : ∀ {n : Nat} {ds : List PyData} {vs : List V}, DaAll H vs ds → DaAll H (vs.drop n) (ds.drop n)
  | 0, _, _, h => by simpa using h
  | n + 1, [], _, h => by cases h; exact .nil
  | n + 1, d :: ds, v :: vs, h => by
    cases h with
    | cons h t => exact dpa_drop (n := n) t
theorem dpa_rev {H : Hp} : ∀ {ds : List PyData} {vs : List V}, DaAll H vs ds → DaAll H vs.reverse ds.reverse
  | [], _, h => by cases h; exact .nil
  | d :: ds, _, h => by
    cases h with
    | cons h t =>
      rw [List.reverse_cons, List.reverse_cons]
      exact dpa_app (dpa_rev t) (.cons h .nil)
theorem dpa_ints {H : Hp} : ∀ {ns : List Int} {vs : List V}, DaAll H vs (ns.map .int) → vs = ns.map V.int
  | [], _, h => by cases h; rfl
  | n :: ns, _, h => by
    cases h with
    | cons h t => cases h; rw [dpa_ints t]; rfl
theorem dpa_strs {H : Hp} : ∀ {ns : List Str} {vs : List V}, DaAll H vs (ns.map .str) → vs = ns.map V.str
  | [], _, h => by cases h; rfl
  | n :: ns, _, h => by
    cases h with
    | cons h t => cases h; rw [dpa_strs t]; rfl
theorem dpa_bools {H : Hp} : ∀ {ns : List Bool} {vs : List V}, DaAll H vs (ns.map .bool) → vs = ns.map V.bl
  | [], _, h => by cases h; rfl
  | n :: ns, _, h => by
    cases h with
    | cons h t => cases h; rw [dpa_bools t]; rfl
theorem dpa_ofInts {H : Hp} : ∀ (ns : List Int), DaAll H (ns.map V.int) (ns.map .int)
  | [] => .nil
  | n :: ns => .cons (.int n) (dpa_ofInts ns)
theorem dpa_ofStrs {H : Hp} : ∀ (ns : List Str), DaAll H (ns.map V.str) (ns.map .str)
  | [] => .nil
  | n :: ns => .cons (.str n) (dpa_ofStrs ns)
theorem dpa1 {H : Hp} {vs : List V} {d : PyData} (h : DaAll H vs [d]) : ∃ v, vs = [v] ∧ Da H v d := by
  cases h with
  | cons h t => cases t; exact ⟨_, rfl, h⟩
theorem dpa2 {H : Hp} {vs : List V} {d e : PyData} (h : DaAll H vs [d, e]) : ∃ v u, vs = [v, u] ∧ Da H v d ∧ Da H u e := by
  cases h with
  | cons h t => obtain ⟨u, rfl, h'⟩ := dpa1 t; exact ⟨_, _, rfl, h, h'⟩
theorem dpa3 {H : Hp} {vs : List V} {d e f : PyData} (h : DaAll H vs [d, e, f]) : ∃ v u w, vs = [v, u, w] ∧ Da H v d ∧ Da H u e ∧ Da H w f := by
  cases h with
  | cons h t => obtain ⟨u, w, rfl, h', h''⟩ := dpa2 t; exact ⟨_, _, _, rfl, h, h', h''⟩
theorem dpa4 {H : Hp} {vs : List V} {d e f g : PyData} (h : DaAll H vs [d, e, f, g]) : ∃ v u w x, vs = [v, u, w, x] ∧ Da H v d ∧ Da H u e ∧ Da H w f ∧ Da H x g := by
  cases h with
  | cons h t => obtain ⟨u, w, x, rfl, h', h'', h3⟩ := dpa3 t; exact ⟨_, _, _, _, rfl, h, h', h'', h3⟩

/-! ### evaluates to data. B: what is known and never changes (the frame); H: the heap as it is, B in it; things that are changed stand in H, not in B -/
/-- B' is B and what is new in H -/
def Ext (B H B' : Hp) : Prop := Ex B B' ∧ ∀ p, H p ≠ none → B' p = B p
theorem Ext.refl (B H : Hp) : Ext B H B := ⟨Ex.refl B, fun _ _ => rfl⟩
theorem Ext.trans {B B1 B2 H H1 : Hp} (a : Ext B H B1) (e : Ex H H1) (b : Ext B1 H1 B2) : Ext B H B2 := ⟨a.1.trans b.1, fun p hp => by
  rw [b.2 p (by
    cases h : H p with
    | none => exact absurd h hp
    | some o => rw [e p o h]; exact fun z => nomatch z), a.2 p hp]⟩
theorem Ext.new {B H : Hp} {p : Addr} {o : HO} (eb : Ex B H) (h : H p = none) : Ext B H (upd B p o) := ⟨Ex.new (fresh_back eb h), fun q hq => upd_ne fun z => hq (by rw [z]; exact h)⟩
theorem ex_upd2 {B H : Hp} {p : Addr} {o : HO} (e : Ex B H) : Ex (upd B p o) (upd H p o) := fun a u h => by
  by_cases c : a = p
  · subst c; rw [upd_same] at h ⊢; exact h
  · rw [upd_ne c] at h ⊢; exact e a u h
/-- an object outside the frame may change -/
theorem ex_mut {B H : Hp} {p : Addr} {o : HO} (e : Ex B H) (h : B p = none) : Ex B (upd H p o) := Ex.mut e h
theorem Ext.out {B H B' : Hp} {p : Addr} {o : HO} (x : Ext B H B') (h : H p = some o) (b : B p = none) : B' p = none := by rw [x.2 p (by rw [h]; exact fun z => nomatch z), b]
def uni (A B : Hp) : Hp := fun p => match A p with | some o => some o | none => B p
theorem uni_l {A B : Hp} : Ex A (uni A B) := fun p o h => by unfold uni; rw [h]
theorem uni_ex {A B H : Hp} (a : Ex A H) (b : Ex B H) : Ex (uni A B) H := fun p o h => by
  unfold uni at h
  cases c : A p with
  | some u => rw [c] at h; cases h; exact a p _ c
  | none => rw [c] at h; exact b p o h
theorem uni_r {A B H : Hp} (a : Ex A H) (b : Ex B H) : Ex B (uni A B) := fun p o h => by
  unfold uni
  cases c : A p with
  | some u => show some u = some o; rw [← a p _ c, b p _ h]
  | none => exact h
theorem uni_ext {A B B' H H' : Hp} (x : Ext B H B') (ab : Ex B A) (ah : Ex A H) (e : Ex H H') (bh : Ex B' H') : Ext A H (uni A B') := ⟨uni_l, fun p hp => by
  unfold uni
  cases c : A p with
  | some u => rfl
  | none =>
    show B' p = none
    rw [x.2 p hp]
    cases b : B p with
    | none => rfl
    | some o => rw [ab p o b] at c; cases c⟩
/-- what is given back: data in the frame grown -/
def Ret (d : PyData) (B H : Hp) (Q : VK) : Prop := ∀ v H' B', Ex H H' → Ext B H B' → Ex B' H' → Da B' v d → Q v H'
def Rets (ds : List PyData) (B H : Hp) (Q : List V → Hp → Prop) : Prop := ∀ vs H' B', Ex H H' → Ext B H B' → Ex B' H' → DaAll B' vs ds → Q vs H'
def EvD (te : TE) (σ : Sig) (B H : Hp) (d : PyData) : Prop := ∀ H1, Ex H H1 → Ex B H1 → ∀ Q : VK, Ret d B H1 Q → te σ H1 Q
def EvDs (ta : TA) (σ : Sig) (B H : Hp) (ds : List PyData) : Prop := ∀ H1, Ex H H1 → Ex B H1 → ∀ Q, Rets ds B H1 Q → ta σ H1 Q
def EvF (te : TE) (σ : Sig) (H : Hp) (v : V) : Prop := ∀ H1, Ex H H1 → ∀ Q : VK, (∀ H2, Ex H1 H2 → Q v H2) → te σ H1 Q
def EvB (tt : TT) (σ : Sig) (B H : Hp) (b : Bool) : Prop := ∀ H1, Ex H H1 → Ex B H1 → ∀ Q : Bool → Hp → Prop, (∀ H2, Ex H1 H2 → Q b H2) → tt σ H1 Q
variable {σ : Sig} {B B' H H' : Hp} {te ta tb tc : TE} {tt tu : TT} {d d1 d2 : PyData} {v : V}
theorem Ret.flat {Q : VK} {w : V} (hv : ∀ B v, Da B v d → v = w) (q : ∀ H', Ex H H' → Q w H') : Ret d B H Q := fun v H' B' e x eb hd => by rw [hv _ _ hd]; exact q H' e
theorem Ret.at {Q : VK} (r : Ret d B H Q) (eb : Ex B H) (hd : Da B v d) : Q v H := r v H B (Ex.refl H) (Ext.refl B H) eb hd
theorem Ret.grow {Q : VK} {H1 B1 : Hp} (r : Ret d B H Q) (e : Ex H H1) (x : Ext B H B1) : Ret d B1 H1 Q := fun v H' B' e' x' eb hd => r v H' B' (e.trans e') (x.trans e x') eb hd
theorem Ret.sub {Q : VK} {A : Hp} (r : Ret d A H Q) (ab : Ex B A) (ah : Ex A H) : Ret d B H Q := fun v H' B' e x eb hd =>
  r v H' (uni A B') e (uni_ext x ab ah e eb) (uni_ex (ah.trans e) eb) (hd.ex' (uni_r (ah.trans e) eb))
theorem EvD.mono (h : EvD te σ B H d) (eb : Ex B B') (eh : Ex H H') : EvD te σ B' H' d := fun H1 e1 e2 Q r => h H1 (eh.trans e1) (eb.trans e2) Q (r.sub eb e2)
theorem EvDs.mono {tr : TA} {ds : List PyData} (h : EvDs tr σ B H ds) (eb : Ex B B') (eh : Ex H H') : EvDs tr σ B' H' ds := fun H1 e1 e2 Q r => h H1 (eh.trans e1) (eb.trans e2) Q fun vs H2 B2 e x ex hd =>
  r vs H2 (uni B' B2) e (uni_ext x eb e2 e ex) (uni_ex (e2.trans e) ex) (dpAll_ex (uni_r (e2.trans e) ex) _ _ hd)
theorem EvB.mono {b : Bool} (h : EvB tt σ B H b) (eb : Ex B B') (eh : Ex H H') : EvB tt σ B' H' b := fun H1 e1 e2 Q q => h H1 (eh.trans e1) (eb.trans e2) Q q
theorem EvF.mono (h : EvF te σ H v) (eh : Ex H H') : EvF te σ H' v := fun H1 e1 Q q => h H1 (eh.trans e1) Q q
theorem EvD.is (h : EvD te σ B H d) (e : d = d1) : EvD te σ B H d1 := e ▸ h
theorem EvB.is {b c : Bool} (h : EvB tt σ B H b) (e : b = c) : EvB tt σ B H c := e ▸ h
/-- run it where it stands -/
theorem EvD.run {Q : VK} (h : EvD te σ B H d) (eb : Ex B H) (r : Ret d B H Q) : te σ H Q := h H (Ex.refl H) eb Q r
theorem evd_of (h : EvF te σ H v) (hd : Da B v d) : EvD te σ B H d := fun H1 e eb Q q => h H1 e Q fun H2 e2 => q v H2 B e2 (Ext.refl B H1) (eb.trans e2) hd
theorem evf_i {i : Int} (h : EvD te σ B H (.int i)) (eb : Ex B H) : EvF te σ H (.int i) := fun H1 e Q q => h H1 e (eb.trans e) Q (Ret.flat (fun _ _ => dpi) q)
theorem EvD.flat {w : V} (h : EvD te σ B H d) (hv : ∀ B v, Da B v d → v = w) {H1 : Hp} (e : Ex H H1) (eb : Ex B H1) {Q : VK} (q : ∀ H2, Ex H1 H2 → Q w H2) : te σ H1 Q := h H1 e eb Q (Ret.flat hv q)
/-! leaves -/
theorem evf_var {i : Nat} (h : σ[i]? = some (some v)) : EvF (tVar i) σ H v := fun H1 _ _ q => ⟨v, h, q H1 (Ex.refl H1)⟩
theorem evf_c : EvF (tC v) σ H v := fun H1 _ _ q => q H1 (Ex.refl H1)
theorem evd_var {i : Nat} (h : σ[i]? = some (some v)) (hd : Da B v d) : EvD (tVar i) σ B H d := evd_of (evf_var h) hd
theorem evd_varI {i : Nat} {n : Int} (h : σ[i]? = some (some (.int n))) : EvD (tVar i) σ B H (.int n) := evd_var h (.int n)
theorem evd_varS {i : Nat} {x : Str} (h : σ[i]? = some (some (.str x))) : EvD (tVar i) σ B H (.str x) := evd_var h (.str x)
theorem evd_varB {i : Nat} {b : Bool} (h : σ[i]? = some (some (.bl b))) : EvD (tVar i) σ B H (.bool b) := evd_var h (.bl b)
theorem evd_varN {i : Nat} (h : σ[i]? = some (some .non)) : EvD (tVar i) σ B H .none := evd_var h .non
theorem evd_ci {i : Int} : EvD (tC (.int i)) σ B H (.int i) := evd_of evf_c (.int i)
theorem evd_cs {x : Str} : EvD (tC (.str x)) σ B H (.str x) := evd_of evf_c (.str x)
theorem evd_ck {b : Bool} : EvD (tC (.bl b)) σ B H (.bool b) := evd_of evf_c (.bl b)
theorem evd_cn : EvD (tC .non) σ B H .none := evd_of evf_c .non
/-- two parts, flat, one behind the other -/
theorem flat2 {w z : V} {k : V → V → Hp → Prop} (ha : EvD ta σ B H d1) (h1 : ∀ B v, Da B v d1 → v = w) (hb : EvD tb σ B H d2) (h2 : ∀ B v, Da B v d2 → v = z) {H1 : Hp} (e : Ex H H1) (eb : Ex B H1)
    (q : ∀ H2, Ex H1 H2 → k w z H2) : ta σ H1 fun x H2 => tb σ H2 fun y H3 => k x y H3 :=
  ha.flat h1 e eb fun _ e2 => hb.flat h2 (e.trans e2) (eb.trans e2) fun H3 e3 => q H3 (e2.trans e3)
theorem evd_op2 {w z y : V} {r : R2} (ha : EvD ta σ B H d1) (h1 : ∀ B v, Da B v d1 → v = w) (hb : EvD tb σ B H d2) (h2 : ∀ B v, Da B v d2 → v = z) (hr : ∀ H1 (Q : VK), Q y H1 → r w z H1 Q) (hd : ∀ B, Da B y d) : EvD (tOp r ta tb) σ B H d :=
  fun H1 e eb Q q => flat2 (k := fun x y H => r x y H Q) ha h1 hb h2 e eb fun H2 e2 => hr H2 Q (q y H2 B e2 (Ext.refl B H1) (eb.trans e2) (hd B))
theorem evd_I0 {g : Int → Int → Int} {i j : Int} (ha : EvD ta σ B H (.int i)) (hb : EvD tb σ B H (.int j)) : EvD (tOp (rI0 fun i j => .int (g i j)) ta tb) σ B H (.int (g i j)) := evd_op2 ha (fun _ _ => dpi) hb (fun _ _ => dpi) (fun _ _ q => ⟨i, j, rfl, rfl, q⟩) fun _ => .int _
theorem evd_B0 {g : Int → Int → Bool} {i j : Int} (ha : EvD ta σ B H (.int i)) (hb : EvD tb σ B H (.int j)) : EvD (tOp (rI0 fun i j => .bl (g i j)) ta tb) σ B H (.bool (g i j)) := evd_op2 ha (fun _ _ => dpi) hb (fun _ _ => dpi) (fun _ _ q => ⟨i, j, rfl, rfl, q⟩) fun _ => .bl _
theorem evd_IC {C : Int → Int → Prop} {g : Int → Int → Int} {i j : Int} (ha : EvD ta σ B H (.int i)) (hb : EvD tb σ B H (.int j)) (hc : C i j) : EvD (tOp (rI C fun i j => .int (g i j)) ta tb) σ B H (.int (g i j)) := evd_op2 ha (fun _ _ => dpi) hb (fun _ _ => dpi) (fun _ _ q => ⟨i, j, rfl, rfl, hc, q⟩) fun _ => .int _
theorem evd_mul {i j : Int} (ha : EvD ta σ B H (.int i)) (hb : EvD tb σ B H (.int j)) (hc : CMul i j := by first | with_reducible assumption | (refine Or.inr ⟨?_, ?_⟩ <;> omega) | (refine Or.inl ⟨?_, ?_⟩ <;> omega)) : EvD (tOp (rI CMul fun i j => .int (i * j)) ta tb) σ B H (.int (i * j)) := evd_IC ha hb hc
theorem evd_mod {i j : Int} (ha : EvD ta σ B H (.int i)) (hb : EvD tb σ B H (.int j)) (hc : 0 < j := by first | with_reducible assumption | omega | decide) : EvD (tOp (rI (fun _ j => 0 < j) fun i j => .int (i % j)) ta tb) σ B H (.int (i % j)) := evd_IC (C := fun _ j => 0 < j) (g := fun i j => i % j) ha hb hc
theorem evd_fdiv {i j : Int} (ha : EvD ta σ B H (.int i)) (hb : EvD tb σ B H (.int j)) (hc : CDiv i j := by first | with_reducible assumption | (constructor <;> omega)) : EvD (tOp (rI CDiv fun i j => .int (i / j)) ta tb) σ B H (.int (i / j)) := evd_IC ha hb hc
theorem evd_un {g : Int → Int} {i : Int} (ha : EvD ta σ B H (.int i)) : EvD (tUn (rU fun i => .int (g i)) ta) σ B H (.int (g i)) := fun H1 e eb Q q => ha.flat (fun _ _ => dpi) e eb fun H2 e2 => ⟨i, rfl, q _ H2 B e2 (Ext.refl B H1) (eb.trans e2) (.int _)⟩
theorem evd_eqI {i j : Int} (ha : EvD ta σ B H (.int i)) (hb : EvD tb σ B H (.int j)) : EvD (tOp rEq ta tb) σ B H (.bool (decide (i = j))) := evd_op2 ha (fun _ _ => dpi) hb (fun _ _ => dpi) (fun _ _ q => ⟨rfl, q⟩) fun _ => by rw [show decide (V.int i = V.int j) = decide (i = j) by simp]; exact .bl _
theorem evd_neI {i j : Int} (ha : EvD ta σ B H (.int i)) (hb : EvD tb σ B H (.int j)) : EvD (tOp rNe ta tb) σ B H (.bool (!decide (i = j))) := evd_op2 ha (fun _ _ => dpi) hb (fun _ _ => dpi) (fun _ _ q => ⟨rfl, q⟩) fun _ => by rw [show decide (V.int i = V.int j) = decide (i = j) by simp]; exact .bl _
theorem evd_eqS {i j : Str} (ha : EvD ta σ B H (.str i)) (hb : EvD tb σ B H (.str j)) : EvD (tOp rEq ta tb) σ B H (.bool (decide (i = j))) := evd_op2 ha (fun _ _ => dps) hb (fun _ _ => dps) (fun _ _ q => ⟨rfl, q⟩) fun _ => by rw [show decide (V.str i = V.str j) = decide (i = j) by simp]; exact .bl _
theorem evd_neS {i j : Str} (ha : EvD ta σ B H (.str i)) (hb : EvD tb σ B H (.str j)) : EvD (tOp rNe ta tb) σ B H (.bool (!decide (i = j))) := evd_op2 ha (fun _ _ => dps) hb (fun _ _ => dps) (fun _ _ q => ⟨rfl, q⟩) fun _ => by rw [show decide (V.str i = V.str j) = decide (i = j) by simp]; exact .bl _
theorem evd_eqB {i j : Bool} (ha : EvD ta σ B H (.bool i)) (hb : EvD tb σ B H (.bool j)) : EvD (tOp rEq ta tb) σ B H (.bool (decide (i = j))) := evd_op2 ha (fun _ _ => dpb) hb (fun _ _ => dpb) (fun _ _ q => ⟨rfl, q⟩) fun _ => by rw [show decide (V.bl i = V.bl j) = decide (i = j) by simp]; exact .bl _
theorem evd_notBl {i j : Bool} (ha : EvD ta σ B H (.bool i)) (hb : EvD tb σ B H (.bool j)) : EvD (tOp rNotB ta tb) σ B H (.bool (!decide (i = j))) := evd_op2 ha (fun _ _ => dpb) hb (fun _ _ => dpb) (fun _ _ q => ⟨i, j, rfl, rfl, q⟩) fun _ => .bl _
def isNone : PyData → Bool
  | .none => true
  | _ => false
theorem evd_isN (ha : EvD ta σ B H d) : EvD (tIsN ta) σ B H (.bool (isNone d)) := fun H1 e eb Q q => ha H1 e eb _ fun v H2 B2 e2 x2 eb2 hd => by
  cases hd <;> exact q _ H2 B2 e2 x2 eb2 (.bl _)
theorem evd_notN (ha : EvD ta σ B H d) : EvD (tNotN ta) σ B H (.bool (!isNone d)) := fun H1 e eb Q q => ha H1 e eb _ fun v H2 B2 e2 x2 eb2 hd => by
  cases hd <;> exact q _ H2 B2 e2 x2 eb2 (.bl _)
def rAddStr : R2 := fun x y H Q => ∃ i j, x = .str i ∧ y = .str j ∧ i.length + j.length ≤ sizeLine ∧ Q (.str (i ++ j)) H
theorem op_addStr {X : Cx} : OpR X (binaryOp .Add) rAddStr := op_add_str
theorem evd_addS {i j : Str} (ha : EvD ta σ B H (.str i)) (hb : EvD tb σ B H (.str j)) (hl : i.length + j.length ≤ 100000 := by first | with_reducible assumption | omega | (simp only [PySem.Str.length_append]; omega)) : EvD (tOp rAddStr ta tb) σ B H (.str (i ++ j)) := evd_op2 ha (fun _ _ => dps) hb (fun _ _ => dps) (fun _ _ q => ⟨i, j, rfl, rfl, sz_of hl, q⟩) fun _ => .str _
/-! and, or, not; tests -/
theorem evd_and {a b : Bool} (h1 : EvD ta σ B H (.bool a)) (h2 : a = true → EvD tb σ B H (.bool b)) : EvD (tAndV ta tb) σ B H (.bool (a && b)) := fun H1 e eb Q q => h1.flat (fun _ _ => dpb) e eb fun H2 e2 => by
  refine ⟨a, rfl, ?_⟩
  cases a with
  | true => rw [if_pos rfl]; exact (h2 rfl).flat (fun _ _ => dpb) (e.trans e2) (eb.trans e2) fun H3 e3 => q _ H3 B (e2.trans e3) (Ext.refl B H1) (eb.trans (e2.trans e3)) (.bl _)
  | false => rw [if_neg (by decide)]; exact q _ H2 B e2 (Ext.refl B H1) (eb.trans e2) (.bl _)
theorem evd_or {a b : Bool} (h1 : EvD ta σ B H (.bool a)) (h2 : a = false → EvD tb σ B H (.bool b)) : EvD (tOrV ta tb) σ B H (.bool (a || b)) := fun H1 e eb Q q => h1.flat (fun _ _ => dpb) e eb fun H2 e2 => by
  refine ⟨a, rfl, ?_⟩
  cases a with
  | false => rw [if_neg (by decide)]; exact (h2 rfl).flat (fun _ _ => dpb) (e.trans e2) (eb.trans e2) fun H3 e3 => q _ H3 B (e2.trans e3) (Ext.refl B H1) (eb.trans (e2.trans e3)) (.bl _)
  | true => rw [if_pos rfl]; exact q _ H2 B e2 (Ext.refl B H1) (eb.trans e2) (.bl _)
theorem evd_not {a : Bool} (h1 : EvD ta σ B H (.bool a)) : EvD (tNotV ta) σ B H (.bool (!a)) := fun H1 e eb Q q => h1.flat (fun _ _ => dpb) e eb fun H2 e2 => ⟨a, rfl, q _ H2 B e2 (Ext.refl B H1) (eb.trans e2) (.bl _)⟩
theorem evb_B {b : Bool} (h : EvD te σ B H (.bool b)) : EvB (tB te) σ B H b := fun H1 e eb Q q => h.flat (fun _ _ => dpb) e eb fun H2 e2 => ⟨b, rfl, q H2 e2⟩
theorem evb_test {b : Bool} (h : EvD te σ B H (.bool b)) : EvB (tTest te) σ B H b := evb_B h
theorem evb_and {a b : Bool} (h1 : EvB tt σ B H a) (h2 : a = true → EvB tu σ B H b) : EvB (tAnd tt tu) σ B H (a && b) := fun H1 e eb Q q => h1 H1 e eb _ fun H2 e2 => by
  cases a with
  | true => rw [if_pos rfl]; exact h2 rfl H2 (e.trans e2) (eb.trans e2) Q fun H3 e3 => q H3 (e2.trans e3)
  | false => rw [if_neg (by decide)]; exact q H2 e2
theorem evb_or {a b : Bool} (h1 : EvB tt σ B H a) (h2 : a = false → EvB tu σ B H b) : EvB (tOr tt tu) σ B H (a || b) := fun H1 e eb Q q => h1 H1 e eb _ fun H2 e2 => by
  cases a with
  | false => rw [if_neg (by decide)]; exact h2 rfl H2 (e.trans e2) (eb.trans e2) Q fun H3 e3 => q H3 (e2.trans e3)
  | true => rw [if_pos rfl]; exact q H2 e2
theorem evb_not {a : Bool} (h1 : EvB tt σ B H a) : EvB (tNot tt) σ B H (!a) := fun H1 e eb Q q => h1 H1 e eb _ q
theorem evb_yes : EvB tYes σ B H true := fun H1 _ _ _ q => q H1 (Ex.refl H1)
theorem evd_chain {p q : Int → Int → Bool} {i j k : Int} (ha : EvD ta σ B H (.int i)) (hb : EvD tb σ B H (.int j)) (hc : EvD tc σ B H (.int k)) :
    EvD (tChain (rI0 fun i j => .bl (p i j)) (rI0 fun i j => .bl (q i j)) ta tb tc) σ B H (.bool (p i j && q j k)) := fun H1 e eb Q z => ha.flat (fun _ _ => dpi) e eb fun H2 e2 => hb.flat (fun _ _ => dpi) (e.trans e2) (eb.trans e2) fun H3 e3 => by
  refine ⟨i, j, rfl, rfl, p i j, rfl, ?_⟩
  cases hp : p i j with
  | true =>
    rw [if_pos rfl]
    refine hc.flat (fun _ _ => dpi) (e.trans (e2.trans e3)) (eb.trans (e2.trans e3)) fun H4 e4 => ⟨j, k, rfl, rfl, z _ H4 B (e2.trans (e3.trans e4)) (Ext.refl B H1) (eb.trans (e2.trans (e3.trans e4))) ?_⟩
    rw [hp, Bool.true_and]; exact .bl _
  | false =>
    rw [if_neg (by decide)]
    refine z _ H3 B (e2.trans e3) (Ext.refl B H1) (eb.trans (e2.trans e3)) ?_
    rw [hp, Bool.false_and]; exact .bl _
/-! arguments, tuples, lists -/
theorem evs_nil : EvDs tNil σ B H [] := fun H1 _ eb _ q => q [] H1 B (Ex.refl H1) (Ext.refl B H1) eb .nil
theorem evs_cons {tr : TA} {ds : List PyData} (h : EvD ta σ B H d) (hr : EvDs tr σ B H ds) : EvDs (tCons ta tr) σ B H (d :: ds) := fun H1 e eb Q q => h H1 e eb _ fun v H2 B2 e2 x2 eb2 hd =>
  (hr.mono x2.1 (e.trans e2)) H2 (Ex.refl H2) eb2 _ fun vs H3 B3 e3 x3 eb3 hds => q _ H3 B3 (e2.trans e3) (x2.trans e2 x3) eb3 (.cons (hd.ex' x3.1) hds)
theorem evd_tup {tr : TA} {ds : List PyData} (h : EvDs tr σ B H ds) (hl : ds.length ≤ 100000 := by first | exact Nat.le_of_ble_eq_true rfl | assumption | omega) : EvD (tTup tr) σ B H (.tuple ds) := fun H1 e eb Q q => h H1 e eb _ fun vs H2 B2 e2 x2 eb2 hds =>
  ⟨by rw [dpa_len hds]; exact sz_of hl, fun p hp => q _ _ (upd B2 p (.tup vs)) (e2.trans (Ex.new hp)) (x2.trans e2 (Ext.new eb2 hp)) (ex_upd2 eb2) (.tup upd_same (dpAll_ex (Ex.new (fresh_back eb2 hp)) _ _ hds))⟩
theorem evd_lst {tr : TA} {ds : List PyData} (h : EvDs tr σ B H ds) (hl : ds.length ≤ 100000 := by first | exact Nat.le_of_ble_eq_true rfl | assumption | omega) : EvD (tLst tr) σ B H (.list ds) := fun H1 e eb Q q => h H1 e eb _ fun vs H2 B2 e2 x2 eb2 hds =>
  ⟨by rw [dpa_len hds]; exact sz_of hl, fun p hp => q _ _ (upd B2 p (.lst vs)) (e2.trans (Ex.new hp)) (x2.trans e2 (Ext.new eb2 hp)) (ex_upd2 eb2) (.lst upd_same (dpAll_ex (Ex.new (fresh_back eb2 hp)) _ _ hds))⟩
/-- a call by values whose rule r gives d of ds -/
theorem evd_cb {r : List V → Hp → VK → Prop} {tr : TA} {ds : List PyData} (h : EvDs tr σ B H ds) (hr : ∀ H1 B1 vs, Ex H H1 → Ex B B1 → Ex B1 H1 → DaAll B1 vs ds → ∀ Q : VK, Ret d B1 H1 Q → r vs H1 Q) : EvD (tCB r tr) σ B H d :=
  fun H1 e eb Q q => h H1 e eb _ fun vs H2 B2 e2 x2 eb2 hds => hr H2 B2 vs (e.trans e2) x2.1 eb2 hds Q (q.grow e2 x2)
theorem evd_call {sp : Sp} {E : XK} {tr : TA} {ds : List PyData} (h : EvDs tr σ B H ds) (hr : ∀ H1 B1 vs, Ex H H1 → Ex B B1 → Ex B1 H1 → DaAll B1 vs ds → ∀ Q : VK, Ret d B1 H1 Q → sp vs H1 Q E) : EvD (tCall sp [] E tr) σ B H d :=
  fun H1 e eb Q q => h H1 e eb _ fun vs H2 B2 e2 x2 eb2 hds => by
    show sp (vs ++ []) H2 Q E
    rw [List.append_nil]
    exact hr H2 B2 vs (e.trans e2) x2.1 eb2 hds Q (q.grow e2 x2)
/-! subscripts, slices -/
theorem ixN_len {α β : Type} {xs : List α} {ys : List β} {i : Int} (h : xs.length = ys.length) : ixN xs.length i = ixN ys.length i := by rw [h]
theorem dpa_atI {vs : List V} {ds : List PyData} {i : Int} (h : DaAll B vs ds) (e : atI ds i = some d) : ∃ v, atI vs i = some v ∧ Da B v d := by
  unfold atI at e ⊢
  rw [dpa_len h]
  obtain ⟨j, e1, e2⟩ := Option.bind_eq_some_iff.mp e
  obtain ⟨v, e3, h3⟩ := dpa_at h e2
  exact ⟨v, by rw [e1]; exact e3, h3⟩
theorem evd_ixL {ds : List PyData} {i : Int} (ha : EvD ta σ B H (.list ds)) (hb : EvD tb σ B H (.int i)) (e : atI ds i = some d) : EvD (tOp (rIxL K) ta tb) σ B H d := fun H1 e1 eb Q q => ha H1 e1 eb _ fun v H2 B2 e2 x2 eb2 hd =>
  hb.flat (fun _ _ => dpi) (e1.trans e2) (eb.trans e2) fun H3 e3 => by
    obtain ⟨a, xs, rfl, hs, hx⟩ := dpl hd
    obtain ⟨z, hz, hdz⟩ := dpa_atI hx e
    exact ⟨a, xs, i, z, rfl, rfl, sq_of ((eb2.trans e3) _ _ hs), hz, q z H3 B2 (e2.trans e3) x2 (eb2.trans e3) hdz⟩
theorem evd_ixLc {ds : List PyData} {i : Int} (ha : EvD ta σ B H (.list ds)) (hb : EvD tb σ B H (.int i)) (e : atI ds i = some d := by rfl) : EvD (tOp (rIxL K) ta tb) σ B H d := evd_ixL ha hb e
theorem evd_ixT {ds : List PyData} {i : Int} (ha : EvD ta σ B H (.tuple ds)) (hb : EvD tb σ B H (.int i)) (e : atI ds i = some d) : EvD (tOp (rIxT K) ta tb) σ B H d := fun H1 e1 eb Q q => ha H1 e1 eb _ fun v H2 B2 e2 x2 eb2 hd =>
  hb.flat (fun _ _ => dpi) (e1.trans e2) (eb.trans e2) fun H3 e3 => by
    obtain ⟨a, xs, rfl, hs, hx⟩ := dpt hd
    obtain ⟨z, hz, hdz⟩ := dpa_atI hx e
    exact ⟨a, xs, i, z, rfl, rfl, st_of ((eb2.trans e3) _ _ hs), hz, q z H3 B2 (e2.trans e3) x2 (eb2.trans e3) hdz⟩
theorem evd_ixS {z : Str} {i : Int} {c : Nat} (ha : EvD ta σ B H (.str z)) (hb : EvD tb σ B H (.int i)) (hl : z.length ≤ 100000 := by first | with_reducible assumption | omega) (e : atI z.cps.toList i = some c := by with_reducible assumption) : EvD (tOp rIxS ta tb) σ B H (.str ⟨#[c]⟩) :=
  evd_op2 ha (fun _ _ => dps) hb (fun _ _ => dpi) (fun _ _ q => ⟨z, i, c, rfl, rfl, sz_of hl, e, q⟩) fun _ => .str _
def EvO (to : TO) (σ : Sig) (B H : Hp) (o : Option Int) : Prop := ∀ H1, Ex H H1 → Ex B H1 → ∀ Q : Option Int → Hp → Prop, (∀ H2, Ex H1 H2 → Q o H2) → to σ H1 Q
theorem evo_none : EvO tNoPart σ B H none := fun H1 _ _ _ q => q H1 (Ex.refl H1)
theorem evo_some {i : Int} (h : EvD te σ B H (.int i)) : EvO (tPart te) σ B H (some i) := fun H1 e eb Q q => h.flat (fun _ _ => dpi) e eb fun H2 e2 => ⟨i, rfl, q H2 e2⟩
def cutD (xs : List PyData) (lo hi : Option Int) : List PyData := (xs.drop (HT.sIx xs.length 0 lo)).take (HT.sIx xs.length xs.length hi - HT.sIx xs.length 0 lo)
theorem dpa_cut {vs : List V} {ds : List PyData} {lo hi : Option Int} (h : DaAll B vs ds) : DaAll B (cutV vs lo hi) (cutD ds lo hi) := by
  unfold cutV cutD
  rw [dpa_len h]
  exact dpa_take (dpa_drop h)
variable {tl th : TO} {lo hi : Option Int}
theorem evd_slS {z : Str} (ha : EvD te σ B H (.str z)) (h1 : EvO tl σ B H lo) (h2 : EvO th σ B H hi) (hl : z.length ≤ 100000 := by first | with_reducible assumption | omega) : EvD (tSl rSlS te tl th) σ B H (.str (cutS z lo hi)) := fun H1 e eb Q q => ha.flat (fun _ _ => dps) e eb fun H2 e2 =>
  h1 H2 (e.trans e2) (eb.trans e2) _ fun H3 e3 => h2 H3 (e.trans (e2.trans e3)) (eb.trans (e2.trans e3)) _ fun H4 e4 => ⟨z, rfl, sz_of hl, q _ H4 B (e2.trans (e3.trans e4)) (Ext.refl B H1) (eb.trans (e2.trans (e3.trans e4))) (.str _)⟩
theorem evd_slL {ds : List PyData} (ha : EvD te σ B H (.list ds)) (h1 : EvO tl σ B H lo) (h2 : EvO th σ B H hi) : EvD (tSl (rSlL K) te tl th) σ B H (.list (cutD ds lo hi)) := fun H1 e eb Q q => ha H1 e eb _ fun v H2 B2 e2 x2 eb2 hd =>
  h1 H2 (e.trans e2) (eb.trans e2) _ fun H3 e3 => h2 H3 (e.trans (e2.trans e3)) (eb.trans (e2.trans e3)) _ fun H4 e4 => by
    obtain ⟨a, xs, rfl, hs, hx⟩ := dpl hd
    have eb4 : Ex B2 H4 := eb2.trans (e3.trans e4)
    have e4' : Ex H1 H4 := e2.trans (e3.trans e4)
    have x4 : Ext B H1 B2 := x2
    have n4 : ∀ p, H4 p = none → Ext B H1 (upd B2 p (.lst (cutV xs lo hi))) := fun p hp => x2.trans e4' (Ext.new eb4 hp)
    exact ⟨a, xs, rfl, sq_of (eb4 _ _ hs), fun p hp => q _ _ (upd B2 p (.lst (cutV xs lo hi))) (e4'.trans (Ex.new hp)) (n4 p hp) (ex_upd2 eb4) (.lst upd_same (dpAll_ex (Ex.new (fresh_back eb4 hp)) _ _ (dpa_cut hx)))⟩
theorem cutV_all {vs : List V} (h1 : HT.sIx vs.length 0 lo = 0) (h2 : HT.sIx vs.length vs.length hi = vs.length) : cutV vs lo hi = vs := by
  unfold cutV
  rw [h1, h2]
  simp
theorem evd_slT {ds : List PyData} (ha : EvD te σ B H (.tuple ds)) (h1 : EvO tl σ B H lo) (h2 : EvO th σ B H hi) : EvD (tSl (rSlA K) te tl th) σ B H (.tuple (cutD ds lo hi)) := fun H1 e eb Q q => ha H1 e eb _ fun v H2 B2 e2 x2 eb2 hd =>
  h1 H2 (e.trans e2) (eb.trans e2) _ fun H3 e3 => h2 H3 (e.trans (e2.trans e3)) (eb.trans (e2.trans e3)) _ fun H4 e4 => by
    obtain ⟨a, xs, rfl, hs, hx⟩ := dpt hd
    have eb4 : Ex B2 H4 := eb2.trans (e3.trans e4)
    have e4' : Ex H1 H4 := e2.trans (e3.trans e4)
    have hc := dpa_cut (lo := lo) (hi := hi) hx
    refine ⟨a, xs, rfl, st_of (eb4 _ _ hs), fun z => ?_, fun _ p hp => ?_⟩
    · rw [cutV_all z.1 z.2] at hc
      exact q _ H4 B2 e4' x2 eb4 (.tup hs hc)
    · exact q _ _ (upd B2 p (.tup (cutV xs lo hi))) (e4'.trans (Ex.new hp)) (x2.trans e4' (Ext.new eb4 hp)) (ex_upd2 eb4) (.tup upd_same (dpAll_ex (Ex.new (fresh_back eb4 hp)) _ _ hc))
theorem evd_revL {ds : List PyData} (ha : EvD te σ B H (.list ds)) : EvD (tRevL K te) σ B H (.list ds.reverse) := fun H1 e eb Q q => ha H1 e eb _ fun v H2 B2 e2 x2 eb2 hd => by
  obtain ⟨a, xs, rfl, hs, hx⟩ := dpl hd
  exact ⟨a, xs, rfl, sq_of (eb2 _ _ hs), fun p hp => q _ _ (upd B2 p (.lst xs.reverse)) (e2.trans (Ex.new hp)) (x2.trans e2 (Ext.new eb2 hp)) (ex_upd2 eb2) (.lst upd_same (dpAll_ex (Ex.new (fresh_back eb2 hp)) _ _ (dpa_rev hx)))⟩
/-! ### what is walked -/
/-- J gives ds, as long as what stands in B stands -/
def WkD (J : It) (ds : List PyData) (B : Hp) : Prop := ∃ (G : Hp → Prop) (Y : Nat → Hp → V → Hp → Prop), Walk J ds.length G Y ∧ (∀ H, Ex B H → G H) ∧
  ∀ i x H H', i < ds.length → Ex B H → Y i H x H' → Ex H H' ∧ ∀ d, ds[i]? = some d → ∃ B', Ext B H B' ∧ Ex B' H' ∧ Da B' x d
def SrcD (wi : TI) (σ : Sig) (B H : Hp) (ds : List PyData) : Prop := ∀ H1, Ex H H1 → Ex B H1 → ∀ R : It → Hp → Prop, (∀ J H2 B2, Ex H1 H2 → Ext B H1 B2 → Ex B2 H2 → WkD J ds B2 → R J H2) → wi σ H1 R
theorem wk_at {J : It} {xs : List V} {ds : List PyData} {G : Hp → Prop} (w : Walk J ds.length G (YAt xs)) (hg : ∀ H, Ex B H → G H) (hx : DaAll B xs ds) : WkD J ds B := ⟨G, _, w, hg, fun i x H H' hi eb y => by
  obtain ⟨rfl, y⟩ := y
  refine ⟨Ex.refl _, fun d hd => ?_⟩
  obtain ⟨d', e', h'⟩ := dpa_get hx y
  rw [hd] at e'
  cases e'
  exact ⟨B, Ext.refl _ _, eb, h'⟩⟩
theorem src_list {ds : List PyData} (h : EvD te σ B H (.list ds)) : SrcD (iList K te) σ B H ds := fun H1 e eb R q => h H1 e eb _ fun v H2 B2 e2 x2 eb2 hd => by
  obtain ⟨a, xs, rfl, hs, hx⟩ := dpl hd
  exact ⟨a, rfl, ⟨xs, sq_of (eb2 _ _ hs)⟩, q _ H2 B2 e2 x2 eb2 (wk_at (by rw [← dpa_len hx]; exact walk_list) (fun H3 e3 => sq_of (e3 _ _ hs)) hx)⟩
theorem src_tup {ds : List PyData} (h : EvD te σ B H (.tuple ds)) : SrcD (iTup K te) σ B H ds := fun H1 e eb R q => h H1 e eb _ fun v H2 B2 e2 x2 eb2 hd => by
  obtain ⟨a, xs, rfl, hs, hx⟩ := dpt hd
  exact ⟨a, rfl, ⟨xs, st_of (eb2 _ _ hs)⟩, q _ H2 B2 e2 x2 eb2 (wk_at (by rw [← dpa_len hx]; exact walk_tup) (fun H3 e3 => st_of (e3 _ _ hs)) hx)⟩
def rangeD (lo : Int) (n : Nat) : List PyData := (List.range n).map fun (i : Nat) => PyData.int (lo + (i : Int))
theorem rangeD_len (lo : Int) (n : Nat) : (rangeD lo n).length = n := by simp [rangeD]
theorem wk_range {lo : Int} {n : Nat} : WkD (Itr lo n) (rangeD lo n) B := ⟨_, _, by rw [rangeD_len]; exact walk_range, fun _ _ => trivial, fun i x H H' hi eb y => by
  obtain ⟨rfl, rfl⟩ := y
  rw [rangeD_len] at hi
  refine ⟨Ex.refl _, fun d hd => ⟨B, Ext.refl _ _, eb, ?_⟩⟩
  simp only [rangeD, List.getElem?_map, List.getElem?_range hi, Option.map_some, Option.some.injEq] at hd
  rw [← hd]
  exact .int _⟩
theorem src_range1 {tr : TA} {n : Int} (h : EvDs tr σ B H [.int n]) (hn : -1000000 ≤ n ∧ n ≤ 1000000 := by first | with_reducible assumption | (constructor <;> omega)) : SrcD (iRng1 tr) σ B H (rangeD 0 n.toNat) := fun H1 e eb R q => h H1 e eb _ fun vs H2 B2 e2 x2 eb2 hd => by
  obtain ⟨v, rfl, hv⟩ := dpa1 hd
  cases hv
  exact ⟨n, rfl, by have : (2:Int)^62 = 4611686018427387904 := by decide
                    omega, by have : (2:Int)^62 = 4611686018427387904 := by decide
                              omega, q _ H2 B2 e2 x2 eb2 wk_range⟩
theorem src_range2 {tr : TA} {m n : Int} (h : EvDs tr σ B H [.int m, .int n]) (hn : -1000000 ≤ m ∧ m ≤ 1000000 ∧ -1000000 ≤ n ∧ n ≤ 1000000 := by first | with_reducible assumption | (refine ⟨?_, ?_, ?_, ?_⟩ <;> omega)) : SrcD (iRng2 tr) σ B H (rangeD m (n - m).toNat) := fun H1 e eb R q => h H1 e eb _ fun vs H2 B2 e2 x2 eb2 hd => by
  obtain ⟨v, u, rfl, hv, hu⟩ := dpa2 hd
  cases hv
  cases hu
  have : (2:Int)^62 = 4611686018427387904 := by decide
  exact ⟨m, n, rfl, by omega, q _ H2 B2 e2 x2 eb2 wk_range⟩
def sign (c : Nat) : Str := ⟨#[c]⟩
def signsD (z : Str) : List PyData := z.cps.toList.map fun c => .str (sign c)
theorem src_str {z : Str} (h : EvD te σ B H (.str z)) : SrcD (iStr te) σ B H (signsD z) := fun H1 e eb R q => h.flat (fun _ _ => dps) e eb fun H2 e2 => ⟨z, rfl, q _ H2 B e2 (Ext.refl _ _) (eb.trans e2) ⟨_, _, by
    rw [show (signsD z).length = z.cps.size by simp [signsD]]
    exact walk_str, fun _ _ => trivial, fun i x H H' hi eb y => by
      obtain ⟨rfl, c, hc, rfl⟩ := y
      refine ⟨Ex.refl _, fun d hd => ⟨B, Ext.refl _ _, eb, ?_⟩⟩
      simp only [signsD, List.getElem?_map, Array.getElem?_toList, hc, Option.map_some, Option.some.injEq] at hd
      rw [← hd]
      exact .str _⟩⟩
theorem src_rev {tr : TA} {ds : List PyData} (h : EvDs tr σ B H [.list ds]) : SrcD (iRev K tr) σ B H ds.reverse := fun H1 e eb R q => h H1 e eb _ fun vs H2 B2 e2 x2 eb2 hd => by
  obtain ⟨v, rfl, hv⟩ := dpa1 hd
  obtain ⟨a, xs, rfl, hs, hx⟩ := dpl hv
  refine ⟨a, xs, rfl, sq_of (eb2 _ _ hs), q _ H2 B2 e2 x2 eb2 (wk_at (xs := xs.reverse) (G := fun H => SqL K H a xs) ?_ (fun H3 e3 => sq_of (e3 _ _ hs)) (dpa_rev hx))⟩
  rw [List.length_reverse, ← dpa_len hx]
  refine (walk_rev (xs := xs)).mono (fun _ g => g) fun i H x H' hi _ y => ⟨y.1, ?_⟩
  rw [List.getElem?_reverse hi]
  exact y.2
/-! ### comprehensions -/
theorem lc_take {α : Type} {ds : List α} {i : Nat} {d : α} (h : ds[i]? = some d) : ds.take (i + 1) = ds.take i ++ [d] := by
  rw [List.take_succ, h]; rfl
/-- [e for .. in .. if ..] over the things as, told by em: the target's reading g at an item gives slots in which the test and the element are known -/
theorem evd_lc {wi : TI} {g : TG} {vs : List Nat} {α : Type} {as : List α} (em : α → PyData) (c : α → Bool) (f : α → PyData) (hs : SrcD wi σ B H (as.map em)) (hl : as.length ≤ 40000)
    (ht : ∀ a ∈ as, ∀ x B1 H1, Ex B B1 → Ex H H1 → Ex B1 H1 → Da B1 x (em a) → ∀ R : Sig → Hp → Prop, (∀ σ2, wipe σ2 vs = wipe σ vs → EvB tt σ2 B1 H1 (c a) → (c a = true → EvD te σ2 B1 H1 (f a)) → R σ2 H1) → g x (wipe σ vs) H1 R) :
    EvD (tLc wi g tt te vs) σ B H (.list ((as.filter c).map f)) := fun H1 e eb Q q => hs H1 e eb _ fun J H2 B2 e2 x2 eb2 ⟨G, Y, w, hG, hY⟩ D hD => by
  have bD : B2 D = none := fresh_back eb2 hD
  refine lc_it w (fun i H3 => ∃ acc B3, Ex H2 H3 ∧ Ext B2 H2 B3 ∧ B3 D = none ∧ Ex B3 H3 ∧ H3 D = some (.lst acc) ∧ DaAll B3 acc (((as.take i).filter c).map f))
    ⟨[], B2, Ex.new hD, Ext.refl _ _, bD, Ex.mut eb2 bD, upd_same, .nil⟩ (fun i H3 _ ⟨_, B3, _, x3, _, eb3, _⟩ => hG H3 (x3.1.trans eb3)) ?_ ?_
  · rintro i x H3 H4 hi ⟨acc, B3, e3, x3, b3, eb3, hacc, hds⟩ y
    obtain ⟨e4, hd4⟩ := hY i x H3 H4 hi (x3.1.trans eb3) y
    rw [List.length_map] at hi
    obtain ⟨d, hd⟩ : ∃ d, as[i]? = some d := ⟨_, List.getElem?_eq_getElem hi⟩
    obtain ⟨B4, x4, eb4, hdx⟩ := hd4 (em d) (by rw [List.getElem?_map, hd]; rfl)
    have hmem : d ∈ as := List.mem_of_getElem? hd
    let B5 := uni B3 B4
    have eb34 : Ex B3 H4 := eb3.trans e4
    have eb5 : Ex B5 H4 := uni_ex eb34 eb4
    have b4D : B4 D = none := by rw [x4.2 D (by rw [hacc]; exact fun z => nomatch z), bD]
    have b5D : B5 D = none := by show uni B3 B4 D = none; unfold uni; rw [b3]; exact b4D
    have e42 : Ex B2 B5 := x3.1.trans uni_l
    have eH4 : Ex H2 H4 := e3.trans e4
    have x5 : Ext B2 H2 B5 := ⟨e42, fun p hp => by
      show uni B3 B4 p = B2 p
      unfold uni
      rw [x3.2 p hp]
      cases c2 : B2 p with
      | some o => rfl
      | none =>
        show B4 p = none
        rw [x4.2 p (by
          cases h2 : H2 p with
          | none => exact absurd h2 hp
          | some o => rw [e3 p o h2]; exact fun z => nomatch z), c2]⟩
    refine ht d hmem x B5 H4 (x2.1.trans e42) (e.trans (e2.trans eH4)) eb5 (hdx.ex' (uni_r eb34 eb4)) _ fun σ2 hw hb he => ⟨hw, ?_⟩
    refine hb H4 (Ex.refl _) eb5 _ fun H5 e5 => ?_
    have tk := lc_take hd
    cases hc : c d with
    | false =>
      rw [if_neg (by decide)]
      refine ⟨acc, B5, eH4.trans e5, x5, b5D, eb5.trans e5, e5 _ _ (e4 _ _ hacc), ?_⟩
      rw [tk, List.filter_append, List.map_append, show List.filter c [d] = [] by simp [hc], List.map_nil, List.append_nil]
      exact dpAll_ex uni_l _ _ hds
    | true =>
      rw [if_pos rfl]
      refine (he hc).mono (Ex.refl _) e5 H5 (Ex.refl _) (eb5.trans e5) _ fun y H6 B6 e6 x6 eb6 hdy => ?_
      have hacc6 : H6 D = some (.lst acc) := e6 _ _ (e5 _ _ (e4 _ _ hacc))
      have b6D : B6 D = none := by rw [x6.2 D (by rw [e5 _ _ (e4 _ _ hacc)]; exact fun z => nomatch z), b5D]
      have hds6 : DaAll B6 (acc ++ [y]) (((as.take (i + 1)).filter c).map f) := by
        rw [tk, List.filter_append, List.map_append, show List.filter c [d] = [d] by simp [hc]]
        exact dpa_app (dpAll_ex (uni_l.trans x6.1) _ _ hds) (.cons hdy .nil)
      refine ⟨acc, hacc6, ?_, acc ++ [y], B6, ?_, x5.trans (eH4.trans e5) x6, b6D, Ex.mut eb6 b6D, upd_same, hds6⟩
      · have := dpa_len hds
        rw [List.length_map] at this
        have l1 := List.length_filter_le c (as.take i)
        have l2 : (as.take i).length ≤ as.length := by rw [List.length_take]; omega
        exact sz_lt (by omega)
      · exact Ex.mut (eH4.trans (e5.trans e6)) hD
  · rintro H3 ⟨acc, B3, e3, x3, b3, eb3, hacc, hds⟩
    rw [List.length_map, List.take_length] at hds
    have x23 : Ext B H1 B3 := x2.trans e2 x3
    have eH : Ex H1 H3 := e2.trans e3
    have eU : Ex (upd B3 D (.lst acc)) H3 := fun a o h => by
      by_cases z : a = D
      · subst z; rw [upd_same] at h; cases h; exact hacc
      · rw [upd_ne z] at h; exact eb3 a o h
    refine q _ H3 (upd B3 D (.lst acc)) eH ⟨x23.1.trans (Ex.new b3), fun p hp => ?_⟩ eU (.lst upd_same (dpAll_ex (Ex.new b3) _ _ hds))
    rw [upd_ne fun z => ?_, x23.2 p hp]
    subst z
    cases h2 : H2 p with
    | none =>
      cases h1 : H1 p with
      | none => exact hp h1
      | some o => rw [e2 p o h1] at h2; cases h2
    | some o => rw [hD] at h2; cases h2
/-- one name, no test, over anything -/
theorem evd_lc1 {wi : TI} {j : Nat} {vs : List Nat} {α : Type} {as : List α} (em : α → PyData) (f : α → PyData) (hs : SrcD wi σ B H (as.map em)) (hl : as.length ≤ 40000) (hw : ∀ x, wipe ((wipe σ vs).set j (some x)) vs = wipe σ vs)
    (he : ∀ a ∈ as, ∀ x B1 H1, Ex B B1 → Ex H H1 → Ex B1 H1 → Da B1 x (em a) → EvD te ((wipe σ vs).set j (some x)) B1 H1 (f a)) : EvD (tLc wi (gName j) tYes te vs) σ B H (.list (as.map f)) := by
  have h := evd_lc (tt := tYes) (te := te) (g := gName j) em (fun _ => true) f hs hl fun a ha x B1 H1 eb eh e hx R k => k _ (hw x) evb_yes fun _ => he a ha x B1 H1 eb eh e hx
  rwa [List.filter_eq_self.mpr (fun _ _ => rfl)] at h
/-- .. over range(n) -/
theorem evd_lcR {tr : TA} {j : Nat} {vs : List Nat} {n : Int} (f : Nat → PyData) (hs : EvDs tr σ B H [.int n]) (hn : 0 ≤ n ∧ n ≤ 10000) (hw : ∀ x, wipe ((wipe σ vs).set j (some x)) vs = wipe σ vs)
    (he : ∀ i : Nat, (i : Int) < n → ∀ B1 H1, Ex B B1 → Ex H H1 → Ex B1 H1 → EvD te ((wipe σ vs).set j (some (.int (i : Int)))) B1 H1 (f i)) : EvD (tLc (iRng1 tr) (gName j) tYes te vs) σ B H (.list ((List.range n.toNat).map f)) := by
  have hsrc : SrcD (iRng1 tr) σ B H ((List.range n.toNat).map fun (i : Nat) => PyData.int (i : Int)) := by
    have := src_range1 hs (by omega)
    unfold rangeD at this
    simpa only [Int.zero_add] using this
  refine evd_lc1 (fun (i : Nat) => PyData.int (i : Int)) f hsrc (by rw [List.length_range]; omega) hw fun i hi x B1 H1 eb eh e hx => ?_
  cases hx
  exact he i (by rw [List.mem_range] at hi; omega) B1 H1 eb eh e
end
end GK

namespace GK
open PySem PySem.Spec PyProof.Rows L2
open Evl (Ex ex_l ex_t ex_rd sq_of st_of sz_of sz_lt fresh_back)
section
variable {K : PySem.W.Frag} {σ : Sig} {B B' H H' : Hp} {te ta tb tc : TE} {tt : TT} {d d1 d2 : PyData} {v : V} {D : Ends} {tx tz tu : TS} {i : Nat}
/-! ### statements -/
theorem q_asg (h : EvD te σ B H d) (eb : Ex B H) (k : ∀ v H1 B1, Ex H H1 → Ext B H B1 → Ex B1 H1 → Da B1 v d → tz D (σ.set i (some v)) H1) : tSeq (tAsg te (gName i)) tz D σ H := h.run eb k
theorem q_asgI {n : Int} (h : EvD te σ B H (.int n)) (eb : Ex B H) (k : ∀ H1, Ex H H1 → Ex B H1 → tz D (σ.set i (some (.int n))) H1) : tSeq (tAsg te (gName i)) tz D σ H := h.flat (fun _ _ => dpi) (Ex.refl _) eb fun H1 e => k H1 e (eb.trans e)
theorem q_asgS {x : Str} (h : EvD te σ B H (.str x)) (eb : Ex B H) (k : ∀ H1, Ex H H1 → Ex B H1 → tz D (σ.set i (some (.str x))) H1) : tSeq (tAsg te (gName i)) tz D σ H := h.flat (fun _ _ => dps) (Ex.refl _) eb fun H1 e => k H1 e (eb.trans e)
theorem q_asgB {b : Bool} (h : EvD te σ B H (.bool b)) (eb : Ex B H) (k : ∀ H1, Ex H H1 → Ex B H1 → tz D (σ.set i (some (.bl b))) H1) : tSeq (tAsg te (gName i)) tz D σ H := h.flat (fun _ _ => dpb) (Ex.refl _) eb fun H1 e => k H1 e (eb.trans e)
theorem q_asgN (h : EvD te σ B H .none) (eb : Ex B H) (k : ∀ H1, Ex H H1 → Ex B H1 → tz D (σ.set i (some .non)) H1) : tSeq (tAsg te (gName i)) tz D σ H := h.flat (fun _ _ => dpn) (Ex.refl _) eb fun H1 e => k H1 e (eb.trans e)
theorem s_asg (h : EvD te σ B H d) (eb : Ex B H) (k : ∀ v H1 B1, Ex H H1 → Ext B H B1 → Ex B1 H1 → Da B1 v d → D.nx (σ.set i (some v)) H1) : tAsg te (gName i) D σ H := h.run eb k
theorem s_asgI {n : Int} (h : EvD te σ B H (.int n)) (eb : Ex B H) (k : ∀ H1, Ex H H1 → Ex B H1 → D.nx (σ.set i (some (.int n))) H1) : tAsg te (gName i) D σ H := h.flat (fun _ _ => dpi) (Ex.refl _) eb fun H1 e => k H1 e (eb.trans e)
theorem s_asgS {x : Str} (h : EvD te σ B H (.str x)) (eb : Ex B H) (k : ∀ H1, Ex H H1 → Ex B H1 → D.nx (σ.set i (some (.str x))) H1) : tAsg te (gName i) D σ H := h.flat (fun _ _ => dps) (Ex.refl _) eb fun H1 e => k H1 e (eb.trans e)
theorem s_ret (h : EvD te σ B H d) (eb : Ex B H) (r : Ret d B H D.rt) : tRet te D σ H := h.run eb r
theorem q_drop (h : EvD te σ B H d) (eb : Ex B H) (k : ∀ H1 B1, Ex H H1 → Ext B H B1 → Ex B1 H1 → tz D σ H1) : tSeq (tDrop te) tz D σ H := h.run eb fun _ H1 B1 e x ex _ => k H1 B1 e x ex
theorem s_drop (h : EvD te σ B H d) (eb : Ex B H) (k : ∀ H1 B1, Ex H H1 → Ext B H B1 → Ex B1 H1 → D.nx σ H1) : tDrop te D σ H := h.run eb fun _ H1 B1 e x ex _ => k H1 B1 e x ex
theorem s_if {b : Bool} (h : EvB tt σ B H b) (eb : Ex B H) (h1 : b = true → ∀ H1, Ex H H1 → Ex B H1 → tx D σ H1) (h2 : b = false → ∀ H1, Ex H H1 → Ex B H1 → tu D σ H1) : tIfS tt tx tu D σ H := h H (Ex.refl _) eb _ fun H1 e => by
  cases b with
  | true => rw [if_pos rfl]; exact h1 rfl H1 e (eb.trans e)
  | false => rw [if_neg (by decide)]; exact h2 rfl H1 e (eb.trans e)
theorem q_if {b : Bool} (h : EvB tt σ B H b) (eb : Ex B H) (h1 : b = true → ∀ H1, Ex H H1 → Ex B H1 → tx { D with nx := tz D } σ H1) (h2 : b = false → ∀ H1, Ex H H1 → Ex B H1 → tu { D with nx := tz D } σ H1) : tSeq (tIfS tt tx tu) tz D σ H := s_if (D := { D with nx := tz D }) h eb h1 h2
theorem q_when {b : Bool} (h : EvB tt σ B H b) (eb : Ex B H) (h1 : b = true → ∀ H1, Ex H H1 → Ex B H1 → tx { D with nx := tz D } σ H1) (h2 : b = false → ∀ H1, Ex H H1 → Ex B H1 → tz D σ H1) : tSeq (tIfS tt tx tNext) tz D σ H := s_if (D := { D with nx := tz D }) h eb h1 h2
theorem s_when {b : Bool} (h : EvB tt σ B H b) (eb : Ex B H) (h1 : b = true → ∀ H1, Ex H H1 → Ex B H1 → tx D σ H1) (h2 : b = false → ∀ H1, Ex H H1 → Ex B H1 → D.nx σ H1) : tIfS tt tx tNext D σ H := s_if h eb h1 h2
/-- an if that is known not to be taken (the law's checks) -/
theorem q_pass (h : EvB tt σ B H false) (eb : Ex B H) (h2 : ∀ H1, Ex H H1 → Ex B H1 → tz D σ H1) : tSeq (tIfS tt tx tNext) tz D σ H := q_when h eb (fun z => nomatch z) fun _ => h2
theorem s_pass (h : EvB tt σ B H false) (eb : Ex B H) (h2 : ∀ H1, Ex H H1 → Ex B H1 → D.nx σ H1) : tIfS tt tx tNext D σ H := s_when h eb (fun z => nomatch z) fun _ => h2
/-- for: Pv over the turn, the slots, the heap; B1 the frame at the loop's start, with what is walked -/
theorem s_for {wi : TI} {g : TG} {ds : List PyData} (hs : SrcD wi σ B H ds) (eb : Ex B H) (Pv : Hp → Nat → Sig → Hp → Prop)
    (h0 : ∀ H1 B1, Ex H H1 → Ext B H B1 → Ex B1 H1 → Pv B1 0 σ H1) (hb : ∀ B1 i σ1 H1, i ≤ ds.length → Pv B1 i σ1 H1 → Ex B1 H1)
    (ht : ∀ B1 i d x σ1 H1 H2 B2, Ex B B1 → ds[i]? = some d → Pv B1 i σ1 H1 → Ex H1 H2 → Ext B1 H1 B2 → Ex B2 H2 → Da B2 x d → g x σ1 H2 fun σ2 H3 => tx { D with nx := Pv B1 (i + 1), ct := Pv B1 (i + 1), bk := D.nx } σ2 H3)
    (hd : ∀ B1 σ1 H1, Ex B B1 → Pv B1 ds.length σ1 H1 → D.nx σ1 H1) : tFor wi g tx D σ H := hs H (Ex.refl _) eb _ fun J H2 B2 e2 x2 eb2 ⟨G, Y, w, hG, hY⟩ => by
  refine for_it w (Pv B2) (h0 H2 B2 e2 x2 eb2) (fun i σ1 H1 hi p => hG H1 (hb B2 i σ1 H1 hi p)) (fun i x σ1 H1 H3 hi p y => ?_) (fun σ1 H1 p => hd B2 σ1 H1 x2.1 p)
  have eb1 := hb B2 i σ1 H1 (Nat.le_of_lt hi) p
  obtain ⟨e3, hd3⟩ := hY i x H1 H3 hi eb1 y
  obtain ⟨d, hdd⟩ : ∃ d, ds[i]? = some d := ⟨_, List.getElem?_eq_getElem hi⟩
  obtain ⟨B3, x3, eb3, hdx⟩ := hd3 d hdd
  exact ht B2 i d x σ1 H1 H3 B3 x2.1 hdd p e3 x3 eb3 hdx
theorem q_for {wi : TI} {g : TG} {ds : List PyData} (hs : SrcD wi σ B H ds) (eb : Ex B H) (Pv : Hp → Nat → Sig → Hp → Prop)
    (h0 : ∀ H1 B1, Ex H H1 → Ext B H B1 → Ex B1 H1 → Pv B1 0 σ H1) (hb : ∀ B1 i σ1 H1, i ≤ ds.length → Pv B1 i σ1 H1 → Ex B1 H1)
    (ht : ∀ B1 i d x σ1 H1 H2 B2, Ex B B1 → ds[i]? = some d → Pv B1 i σ1 H1 → Ex H1 H2 → Ext B1 H1 B2 → Ex B2 H2 → Da B2 x d → g x σ1 H2 fun σ2 H3 => tx { D with nx := Pv B1 (i + 1), ct := Pv B1 (i + 1), bk := tz D } σ2 H3)
    (hd : ∀ B1 σ1 H1, Ex B B1 → Pv B1 ds.length σ1 H1 → tz D σ1 H1) : tSeq (tFor wi g tx) tz D σ H := s_for (D := { D with nx := tz D }) hs eb Pv h0 hb ht hd
/-! ### built-ins -/
theorem retOf {Q : VK} {B H : Hp} (q : Ret d B H Q) (eb : Ex B H) (hd : Da B v d) : Q v H := q.at eb hd
def rLenStr : List V → Hp → VK → Prop := fun xs H Q => ∃ z, xs = [.str z] ∧ z.length ≤ sizeLine ∧ Q (.int z.length) H
theorem cr_lenStr {X : Cx} : CallR X (.builtin "len") rLenStr := call_len_str
def rLenSeq (K : PySem.W.Frag) : List V → Hp → VK → Prop := fun xs H Q => ∃ p ys, xs = [.ref p] ∧ (SqL K H p ys ∨ SqT K H p ys) ∧ Q (.int ys.length) H
theorem cr_lenSeq {X : Cx} : CallR X (.builtin "len") (rLenSeq X.K) := call_len_seq
def rLenDict : List V → Hp → VK → Prop := fun xs H Q => ∃ a kvs, xs = [V.ref a] ∧ H a = some (.dK kvs) ∧ Q (.int kvs.length) H
theorem cr_lenDict {X : Cx} : CallR X (.builtin "len") rLenDict := call_lenD
theorem evd_lenS {z : Str} (h : EvD ta σ B H (.str z)) (hl : z.length ≤ 1000000 := by first | with_reducible assumption | omega) : EvD (tCB rLenStr (tCons ta tNil)) σ B H (.int z.length) := evd_cb (evs_cons h evs_nil) fun H1 B1 vs _ _ eb hd Q q => by
  obtain ⟨v, rfl, hv⟩ := dpa1 hd
  cases hv
  exact ⟨z, rfl, Nat.le_trans hl (by decide), q.at eb (.int _)⟩
theorem evd_lenL {ds : List PyData} (h : EvD ta σ B H (.list ds)) : EvD (tCB (rLenSeq K) (tCons ta tNil)) σ B H (.int ds.length) := evd_cb (evs_cons h evs_nil) fun H1 B1 vs _ _ eb hd Q q => by
  obtain ⟨v, rfl, hv⟩ := dpa1 hd
  obtain ⟨a, xs, rfl, hs, hx⟩ := dpl hv
  exact ⟨a, xs, rfl, .inl (sq_of (eb _ _ hs)), by rw [dpa_len hx]; exact q.at eb (.int _)⟩
theorem evd_lenT {ds : List PyData} (h : EvD ta σ B H (.tuple ds)) : EvD (tCB (rLenSeq K) (tCons ta tNil)) σ B H (.int ds.length) := evd_cb (evs_cons h evs_nil) fun H1 B1 vs _ _ eb hd Q q => by
  obtain ⟨v, rfl, hv⟩ := dpa1 hd
  obtain ⟨a, xs, rfl, hs, hx⟩ := dpt hv
  exact ⟨a, xs, rfl, .inr (st_of (eb _ _ hs)), by rw [dpa_len hx]; exact q.at eb (.int _)⟩
def rStrInt : List V → Hp → VK → Prop := fun xs H Q => ∃ i, xs = [.int i] ∧ i.natAbs.log2 < 1920 ∧ Q (.str (toString i)) H
theorem cr_strInt {X : Cx} : CallR X (.type "str") rStrInt := call_str_int
theorem log2_small {i : Int} (h : -1000000000 ≤ i ∧ i ≤ 1000000000) : i.natAbs.log2 < 1920 := by
  have h1 : i.natAbs ≤ 1000000000 := by omega
  by_cases h0 : i.natAbs = 0
  · rw [h0]; decide
  · rw [Nat.log2_lt h0]
    exact Nat.lt_of_le_of_lt h1 (Nat.lt_of_lt_of_le (by decide : 1000000000 < 2 ^ 30) (Nat.pow_le_pow_right (by decide) (by decide)))
theorem evd_strI {n : Int} (h : EvD ta σ B H (.int n)) (hl : -1000000000 ≤ n ∧ n ≤ 1000000000 := by first | with_reducible assumption | (constructor <;> omega)) : EvD (tCB rStrInt (tCons ta tNil)) σ B H (.str (toString n)) := evd_cb (evs_cons h evs_nil) fun H1 B1 vs _ _ eb hd Q q => by
  obtain ⟨v, rfl, hv⟩ := dpa1 hd
  cases hv
  exact ⟨n, rfl, log2_small hl, q.at eb (.str _)⟩
def rOrd1 : List V → Hp → VK → Prop := fun xs H Q => ∃ x, xs = [.str x] ∧ x.length = 1 ∧ Q (.int (x.cps.getD 0 0 : Nat)) H
theorem cr_ord1 {X : Cx} : CallR X (.builtin "ord") rOrd1 := call_ord
theorem evd_ord {c : Nat} (h : EvD ta σ B H (.str (sign c))) : EvD (tCB rOrd1 (tCons ta tNil)) σ B H (.int c) := evd_cb (evs_cons h evs_nil) fun H1 B1 vs _ _ eb hd Q q => by
  obtain ⟨v, rfl, hv⟩ := dpa1 hd
  cases hv
  exact ⟨sign c, rfl, rfl, q.at eb (.int _)⟩
theorem evd_sum {ns : List Int} (h : EvD ta σ B H (.list (ns.map .int))) : EvD (tCB (rSum K) (tCons ta tNil)) σ B H (.int ns.sum) := evd_cb (evs_cons h evs_nil) fun H1 B1 vs _ _ eb hd Q q => by
  obtain ⟨v, rfl, hv⟩ := dpa1 hd
  obtain ⟨a, xs, rfl, hs, hx⟩ := dpl hv
  exact ⟨a, ns, rfl, by rw [← dpa_ints hx]; exact sq_of (eb _ _ hs), q.at eb (.int _)⟩
theorem evd_all {bs : List Bool} (h : EvD ta σ B H (.list (bs.map .bool))) : EvD (tCB (rAll K) (tCons ta tNil)) σ B H (.bool (bs.all id)) := evd_cb (evs_cons h evs_nil) fun H1 B1 vs _ _ eb hd Q q => by
  obtain ⟨v, rfl, hv⟩ := dpa1 hd
  obtain ⟨a, xs, rfl, hs, hx⟩ := dpl hv
  exact ⟨a, bs, rfl, by rw [← dpa_bools hx]; exact sq_of (eb _ _ hs), q.at eb (.bl _)⟩
theorem evd_any {bs : List Bool} (h : EvD ta σ B H (.list (bs.map .bool))) : EvD (tCB (rAny K) (tCons ta tNil)) σ B H (.bool (bs.any id)) := evd_cb (evs_cons h evs_nil) fun H1 B1 vs _ _ eb hd Q q => by
  obtain ⟨v, rfl, hv⟩ := dpa1 hd
  obtain ⟨a, xs, rfl, hs, hx⟩ := dpl hv
  exact ⟨a, bs, rfl, by rw [← dpa_bools hx]; exact sq_of (eb _ _ hs), q.at eb (.bl _)⟩
def rTupleOf (K : PySem.W.Frag) : List V → Hp → VK → Prop := fun xs H Q => ∃ p ys, xs = [.ref p] ∧ ((SqL K H p ys ∧ ∀ l, H l = none → Q (.ref l) (upd H l (.tup ys))) ∨ (SqT K H p ys ∧ Q (.ref p) H))
theorem cr_tupleOf {X : Cx} : CallR X (.type "tuple") (rTupleOf X.K) := call_tuple_of
theorem evd_tupleL {ds : List PyData} (h : EvD ta σ B H (.list ds)) : EvD (tCB (rTupleOf K) (tCons ta tNil)) σ B H (.tuple ds) := evd_cb (evs_cons h evs_nil) fun H1 B1 vs _ _ eb hd Q q => by
  obtain ⟨v, rfl, hv⟩ := dpa1 hd
  obtain ⟨a, xs, rfl, hs, hx⟩ := dpl hv
  exact ⟨a, xs, rfl, .inl ⟨sq_of (eb _ _ hs), fun p hp => q _ _ (upd B1 p (.tup xs)) (Ex.new hp) (Ext.new eb hp) (ex_upd2 eb) (.tup upd_same (dpAll_ex (Ex.new (fresh_back eb hp)) _ _ hx))⟩⟩
def rMaxI : List V → Hp → VK → Prop := fun xs H Q => ∃ i j, xs = [.int i, .int j] ∧ Q (.int (if j > i then j else i)) H
def rMinI : List V → Hp → VK → Prop := fun xs H Q => ∃ i j, xs = [.int i, .int j] ∧ Q (.int (if j < i then j else i)) H
theorem cr_maxI {X : Cx} (hc : X.calm = true) : CallR X (.builtin "max") rMaxI := call_max2 hc
theorem cr_minI {X : Cx} (hc : X.calm = true) : CallR X (.builtin "min") rMinI := call_min2 hc
theorem evd_max {i j : Int} (h : EvD ta σ B H (.int i)) (h' : EvD tb σ B H (.int j)) : EvD (tCB rMaxI (tCons ta (tCons tb tNil))) σ B H (.int (max i j)) := evd_cb (evs_cons h (evs_cons h' evs_nil)) fun H1 B1 vs _ _ eb hd Q q => by
  obtain ⟨v, u, rfl, hv, hu⟩ := dpa2 hd
  cases hv
  cases hu
  refine ⟨i, j, rfl, q.at eb ?_⟩
  rw [show (if j > i then j else i) = max i j by omega]
  exact .int _
theorem evd_min {i j : Int} (h : EvD ta σ B H (.int i)) (h' : EvD tb σ B H (.int j)) : EvD (tCB rMinI (tCons ta (tCons tb tNil))) σ B H (.int (min i j)) := evd_cb (evs_cons h (evs_cons h' evs_nil)) fun H1 B1 vs _ _ eb hd Q q => by
  obtain ⟨v, u, rfl, hv, hu⟩ := dpa2 hd
  cases hv
  cases hu
  refine ⟨i, j, rfl, q.at eb ?_⟩
  rw [show (if j < i then j else i) = min i j by omega]
  exact .int _
def rIntB : List V → Hp → VK → Prop := fun xs H Q => (∃ i, xs = [.int i] ∧ Q (.int i) H) ∨ ∃ k, xs = [.bl k] ∧ Q (.int (if k then 1 else 0)) H
theorem cr_intB {X : Cx} : CallR X (.type "int") rIntB := call_int1
theorem evd_intB {b : Bool} (h : EvD ta σ B H (.bool b)) : EvD (tCB rIntB (tCons ta tNil)) σ B H (.int (if b then 1 else 0)) := evd_cb (evs_cons h evs_nil) fun H1 B1 vs _ _ eb hd Q q => by
  obtain ⟨v, rfl, hv⟩ := dpa1 hd
  cases hv
  exact .inr ⟨b, rfl, q.at eb (.int _)⟩
/-! ### texts -/
abbrev RM := V → List V → Hp → VK → Prop
def rJoin (K : PySem.W.Frag) : RM := fun x xs H Q => ∃ a p, ∃ ys : List Str, x = .str a ∧ xs = [.ref p] ∧ (SqL K H p (ys.map V.str) ∨ SqT K H p (ys.map V.str)) ∧ (ys.map (·.length)).sum + ys.length * a.length ≤ 16777216 ∧ Q (.str (Txt.join a ys)) H
theorem mtr_join {X : Cx} : MtR X "str.join" (rJoin X.K) := mt_join
def rZfill : RM := fun x xs H Q => ∃ (a : Str) (i : Int), x = .str a ∧ xs = [.int i] ∧ PadOk i = true ∧ Q (.str (Txt.zfill a i)) H
theorem mtr_zfill {X : Cx} : MtR X "str.zfill" rZfill := mt_zfill
def rStarts : RM := fun x xs H Q => ∃ a b, x = .str a ∧ xs = [.str b] ∧ Q (.bl (Txt.startswith a b)) H
theorem mtr_starts {X : Cx} : MtR X "str.startswith" rStarts := mt_startswith
def rCount : RM := fun x xs H Q => ∃ a b, x = .str a ∧ xs = [.str b] ∧ Q (.int (Txt.count a b)) H
theorem mtr_count {X : Cx} : MtR X "str.count" rCount := mt_count
def rSplit : RM := fun x xs H Q => ∃ a b, x = .str a ∧ xs = [.str b] ∧ (b.length == 0) = false ∧ a.length + 2 ≤ sizeLine ∧ rNewStrs (Txt.split a b) H Q
theorem mtr_split {X : Cx} : MtR X "str.split" rSplit := mt_split
theorem evd_m1 {r : RM} {x : Str} (h : EvD ta σ B H (.str x)) (h' : EvD tb σ B H d1) (hr : ∀ H1 B1 v, Ex B1 H1 → Da B1 v d1 → ∀ Q : VK, Ret d B1 H1 Q → r (.str x) [v] H1 Q) : EvD (tM1 r ta tb) σ B H d := fun H1 e eb Q q => h.flat (fun _ _ => dps) e eb fun H2 e2 =>
  ⟨⟨x, rfl⟩, h'.mono (Ex.refl _) (e.trans e2) H2 (Ex.refl _) (eb.trans e2) _ fun v H3 B3 e3 x3 eb3 hd => hr H3 B3 v eb3 hd Q (q.grow (e2.trans e3) ⟨x3.1, fun p hp => x3.2 p (by
    cases h1 : H1 p with
    | none => exact absurd h1 hp
    | some o => rw [e2 p o h1]; exact fun z => nomatch z)⟩)⟩
theorem evd_join {x : Str} {ys : List Str} (h : EvD ta σ B H (.str x)) (h' : EvD tb σ B H (.list (ys.map .str))) (hl : (ys.map (·.length)).sum + ys.length * x.length ≤ 16777216) : EvD (tM1 (rJoin K) ta tb) σ B H (.str (Txt.join x ys)) :=
  evd_m1 h h' fun H1 B1 v eb hv Q q => by
    obtain ⟨a, xs, rfl, hs, hx⟩ := dpl hv
    exact ⟨x, a, ys, rfl, rfl, .inl (by rw [← dpa_strs hx]; exact sq_of (eb _ _ hs)), hl, q.at eb (.str _)⟩
theorem evd_joinT {x : Str} {ys : List Str} (h : EvD ta σ B H (.str x)) (h' : EvD tb σ B H (.tuple (ys.map .str))) (hl : (ys.map (·.length)).sum + ys.length * x.length ≤ 16777216) : EvD (tM1 (rJoin K) ta tb) σ B H (.str (Txt.join x ys)) :=
  evd_m1 h h' fun H1 B1 v eb hv Q q => by
    obtain ⟨a, xs, rfl, hs, hx⟩ := dpt hv
    exact ⟨x, a, ys, rfl, rfl, .inr (by rw [← dpa_strs hx]; exact st_of (eb _ _ hs)), hl, q.at eb (.str _)⟩
theorem evd_zfill {x : Str} {n : Int} (h : EvD ta σ B H (.str x)) (h' : EvD tb σ B H (.int n)) (hl : PadOk n = true := by rfl) : EvD (tM1 rZfill ta tb) σ B H (.str (Txt.zfill x n)) :=
  evd_m1 h h' fun H1 B1 v eb hv Q q => by cases hv; exact ⟨x, n, rfl, rfl, hl, q.at eb (.str _)⟩
theorem evd_starts {x y : Str} (h : EvD ta σ B H (.str x)) (h' : EvD tb σ B H (.str y)) : EvD (tM1 rStarts ta tb) σ B H (.bool (Txt.startswith x y)) :=
  evd_m1 h h' fun H1 B1 v eb hv Q q => by cases hv; exact ⟨x, y, rfl, rfl, q.at eb (.bl _)⟩
theorem evd_count {x y : Str} (h : EvD ta σ B H (.str x)) (h' : EvD tb σ B H (.str y)) : EvD (tM1 rCount ta tb) σ B H (.int (Txt.count x y)) :=
  evd_m1 h h' fun H1 B1 v eb hv Q q => by cases hv; exact ⟨x, y, rfl, rfl, q.at eb (.int _)⟩
theorem evd_split {x y : Str} (h : EvD ta σ B H (.str x)) (h' : EvD tb σ B H (.str y)) (hy : (y.length == 0) = false) (hl : x.length ≤ 100000) : EvD (tM1 rSplit ta tb) σ B H (.list ((Txt.split x y).map .str)) :=
  evd_m1 h h' fun H1 B1 v eb hv Q q => by
    cases hv
    exact ⟨x, y, rfl, rfl, hy, by have : (100002 : Nat) ≤ sizeLine := by decide
                                  omega, fun p hp => q _ _ (upd B1 p (.lst ((Txt.split x y).map V.str))) (Ex.new hp) (Ext.new eb hp) (ex_upd2 eb) (.lst upd_same (dpa_ofStrs _))⟩
def rInSign : R2 := fun x y H Q => ∃ (c : Nat) (z : Str), x = .str ⟨#[c]⟩ ∧ y = .str z ∧ Q (.bl (decide (c ∈ z.cps.toList))) H
def rNotInSign : R2 := fun x y H Q => ∃ (c : Nat) (z : Str), x = .str ⟨#[c]⟩ ∧ y = .str z ∧ Q (.bl (!decide (c ∈ z.cps.toList))) H
theorem opr_inSign {X : Cx} : OpR X (compareOp .In) rInSign := op_in_sign
theorem opr_notInSign {X : Cx} : OpR X (compareOp .NotIn) rNotInSign := op_notIn_sign
theorem evd_inSign {c : Nat} {z : Str} (ha : EvD ta σ B H (.str (sign c))) (hb : EvD tb σ B H (.str z)) : EvD (tOp rInSign ta tb) σ B H (.bool (decide (c ∈ z.cps.toList))) := evd_op2 ha (fun _ _ => dps) hb (fun _ _ => dps) (fun _ _ q => ⟨c, z, rfl, rfl, q⟩) fun _ => .bl _
theorem evd_notInSign {c : Nat} {z : Str} (ha : EvD ta σ B H (.str (sign c))) (hb : EvD tb σ B H (.str z)) : EvD (tOp rNotInSign ta tb) σ B H (.bool (!decide (c ∈ z.cps.toList))) := evd_op2 ha (fun _ _ => dps) hb (fun _ _ => dps) (fun _ _ q => ⟨c, z, rfl, rfl, q⟩) fun _ => .bl _
def rGtStr : R2 := fun x y H Q => ∃ i j, x = .str i ∧ y = .str j ∧ Q (.bl (decide (j.cps.toList < i.cps.toList))) H
theorem opr_gtStr {X : Cx} : OpR X (compareOp .Gt) rGtStr := op_gt_str
theorem evd_gtS {x y : Str} (ha : EvD ta σ B H (.str x)) (hb : EvD tb σ B H (.str y)) : EvD (tOp rGtStr ta tb) σ B H (.bool (decide (y.cps.toList < x.cps.toList))) := evd_op2 ha (fun _ _ => dps) hb (fun _ _ => dps) (fun _ _ q => ⟨x, y, rfl, rfl, q⟩) fun _ => .bl _
/-! ### lists, tuples joined; in; == -/
theorem evd_catL {ds es : List PyData} (ha : EvD ta σ B H (.list ds)) (hb : EvD tb σ B H (.list es)) (hl : ds.length + es.length ≤ 100000 := by first | exact Nat.le_of_ble_eq_true rfl | with_reducible assumption | omega) : EvD (tOp rCat ta tb) σ B H (.list (ds ++ es)) := fun H1 e eb Q q => ha H1 e eb _ fun v H2 B2 e2 x2 eb2 hd =>
  hb.mono x2.1 (e.trans e2) H2 (Ex.refl _) eb2 _ fun u H3 B3 e3 x3 eb3 hu => by
    obtain ⟨a, xs, rfl, hs, hx⟩ := dpl hd
    obtain ⟨b, ys, rfl, hs', hy⟩ := dpl hu
    refine ⟨a, b, xs, ys, rfl, rfl, eb3 _ _ (x3.1 _ _ hs), eb3 _ _ hs', by rw [dpa_len hx, dpa_len hy]; exact sz_of hl, fun p hp => ?_⟩
    exact q _ _ (upd B3 p (.lst (xs ++ ys))) (e2.trans (e3.trans (Ex.new hp))) (x2.trans e2 (x3.trans e3 (Ext.new eb3 hp))) (ex_upd2 eb3) (.lst upd_same (dpAll_ex (Ex.new (fresh_back eb3 hp)) _ _ (dpa_app (dpAll_ex x3.1 _ _ hx) hy)))
theorem evd_catT {ds es : List PyData} (ha : EvD ta σ B H (.tuple ds)) (hb : EvD tb σ B H (.tuple es)) (hl : ds.length + es.length ≤ 100000 := by first | exact Nat.le_of_ble_eq_true rfl | with_reducible assumption | omega) : EvD (tOp (rCatA K) ta tb) σ B H (.tuple (ds ++ es)) := fun H1 e eb Q q => ha H1 e eb _ fun v H2 B2 e2 x2 eb2 hd =>
  hb.mono x2.1 (e.trans e2) H2 (Ex.refl _) eb2 _ fun u H3 B3 e3 x3 eb3 hu => by
    obtain ⟨a, xs, rfl, hs, hx⟩ := dpt hd
    obtain ⟨b, ys, rfl, hs', hy⟩ := dpt hu
    have hx3 := dpAll_ex x3.1 _ _ hx
    have hc := dpa_app hx3 hy
    refine ⟨a, b, xs, ys, rfl, rfl, st_of ((x3.1.trans eb3) _ _ hs), st_of (eb3 _ _ hs'), by rw [dpa_len hx, dpa_len hy]; exact sz_of hl, fun z => ?_, fun _ z => ?_, fun _ _ p hp => ?_⟩
    · subst z
      exact q _ H3 B3 (e2.trans e3) (x2.trans e2 x3) eb3 (.tup hs' (by simpa using hc))
    · subst z
      exact q _ H3 B3 (e2.trans e3) (x2.trans e2 x3) eb3 (.tup (x3.1 _ _ hs) (by simpa using hc))
    · exact q _ _ (upd B3 p (.tup (xs ++ ys))) (e2.trans (e3.trans (Ex.new hp))) (x2.trans e2 (x3.trans e3 (Ext.new eb3 hp))) (ex_upd2 eb3) (.tup upd_same (dpAll_ex (Ex.new (fresh_back eb3 hp)) _ _ hc))
end
end GK

namespace GK
open PySem PySem.Spec PyProof.Rows L2
open Evl (Ex ex_l ex_t ex_rd sq_of st_of sz_of sz_lt fresh_back)
/-! ### defs, methods, makers: as a caller takes them -/
section
variable (P : Program) (w : World) (K : PySem.W.Frag) (mg : Str → Option Value) (base : Heap)
structure Clb (k : Nat) (x : Str) (sp : Sp) : Prop where
  ex : ∃ (f : Addr) (fd : FuncData) (ps : List Str), FnOk P w K mg base (L2.CX P w) k f fd ps sp ∧ mg x = some (.ref f) ∧ PySem.W.keepIn K (.ref f) = true ∧ Binds K fd ps []
structure Mtb (k : Nat) (C : Addr) (m : Str) (sp : Sp) : Prop where
  ex : ∃ (f : Addr) (fd : FuncData) (ps : List Str), Cls K C ∧ Meth K C m f ∧ FnOk P w K mg base (L2.CX P w) k f fd ps sp ∧ Binds K fd ps []
structure Mkb (k : Nat) (x : Str) (C : Addr) (sp : Sp) : Prop where
  ex : ∃ (f : Addr) (fd : FuncData) (ps : List Str), Mk K C f ∧ FnOk P w K mg base (L2.CX P w) k f fd ps sp ∧ mg x = some (.ref C) ∧ Binds K fd ps []
end
section
variable {X : Cx} {k j : Nat} {x m : Str} {sp : Sp} {E : XK} {e o : Expr} {es : List Expr} {t : TA} {ta : TE} {p pos apos : Pos} {C : Addr}
theorem pe_cl (c : Clb X.prog X.w X.K X.mg X.base k x sp) (hr : Room j X.A) (hk : k ≤ j) (hx : Passes (L2.CX X.prog X.w) X E) (ha : PA X (e :: es) t) (hg : Gl X x := by rfl)
    (hdb : (x == ("__debug__" : Str)) = false := by decide) (he : starEach (e :: es) X.env = (false, eval e X.env) :: starEach es X.env := by rfl) (hpl : (backTo pos (starEach es X.env)).any (·.1) = false := by rfl) :
    PE X (.Call (.Name x p) (e :: es) [] pos) (tCall sp [] E t) := by
  obtain ⟨f, fd, ps, F, hm, kp, b⟩ := c.ex
  exact pe_call F (hr.mono hk) hg hm kp b .nil hx ha hdb he hpl
theorem pe_cl0 (c : Clb X.prog X.w X.K X.mg X.base k x sp) (hr : Room j X.A) (hk : k ≤ j) (hx : Passes (L2.CX X.prog X.w) X E) (hg : Gl X x := by rfl)
    (hdb : (x == ("__debug__" : Str)) = false := by decide) : PE X (.Call (.Name x p) [] [] pos) (tCall sp [] E tNil) := by
  obtain ⟨f, fd, ps, F, hm, kp, b⟩ := c.ex
  exact pe_call0 F (hr.mono hk) hg hm kp b .nil hx hdb
theorem pe_mk (c : Mkb X.prog X.w X.K X.mg X.base k x C sp) (hr : Room j X.A) (hk : k + 1 ≤ j) (hx : Passes (L2.CX X.prog X.w) X E) (ha : PA X (e :: es) t) (hg : Gl X x := by rfl)
    (hdb : (x == ("__debug__" : Str)) = false := by decide) (he : starEach (e :: es) X.env = (false, eval e X.env) :: starEach es X.env := by rfl) (hpl : (backTo pos (starEach es X.env)).any (·.1) = false := by rfl) :
    PE X (.Call (.Name x p) (e :: es) [] pos) (tMake C sp [] E t) := by
  obtain ⟨f, fd, ps, M, F, hm, b⟩ := c.ex
  exact pe_make M F (hr.mono hk) hg hm b .nil hx ha hdb he hpl
theorem pe_mk0 (c : Mkb X.prog X.w X.K X.mg X.base k x C sp) (hr : Room j X.A) (hk : k + 1 ≤ j) (hx : Passes (L2.CX X.prog X.w) X E) (hg : Gl X x := by rfl)
    (hdb : (x == ("__debug__" : Str)) = false := by decide) : PE X (.Call (.Name x p) [] [] pos) (tMake C sp [] E tNil) := by
  obtain ⟨f, fd, ps, M, F, hm, b⟩ := c.ex
  exact pe_make0 M F (hr.mono hk) hg hm b .nil hx hdb
theorem pe_mt {pl : Sem Bool} (c : Mtb X.prog X.w X.K X.mg X.base k C m sp) (hr : Room j X.A) (hk : k ≤ j) (hx : Passes (L2.CX X.prog X.w) X E) (he : PE X o ta) (ha : PA X (e :: es) t)
    (hst : starEach (e :: es) X.env = (false, eval e X.env) :: starEach es X.env := by rfl) (hpl : (backTo pos (starEach es X.env)).any (·.1) = false := by rfl)
    (ht : eval (.Call (.Attribute o m apos) (e :: es) [] pos) X.env = (do
      let ov ← eval o X.env
      standAt apos.atName
      let (f, first) ← holding [ov] (getMethod ov m pl)
      callWith pos f first (backTo pos (starEach (e :: es) X.env)) (backToKw pos (keywordEach [] X.env))) := by rfl) :
    PE X (.Call (.Attribute o m apos) (e :: es) [] pos) (tMeth C m sp [] E ta t) := by
  obtain ⟨f, fd, ps, hc, hm, F, b⟩ := c.ex
  exact pe_meth (pl := pl) he hc hm F (hr.mono hk) b .nil hx ha hst hpl ht
theorem pe_mt0 {pl : Sem Bool} (c : Mtb X.prog X.w X.K X.mg X.base k C m sp) (hr : Room j X.A) (hk : k ≤ j) (hx : Passes (L2.CX X.prog X.w) X E) (he : PE X o ta)
    (ht : eval (.Call (.Attribute o m apos) [] [] pos) X.env = (do
      let ov ← eval o X.env
      standAt apos.atName
      let (f, first) ← holding [ov] (getMethod ov m pl)
      callWith pos f first (backTo pos (starEach [] X.env)) (backToKw pos (keywordEach [] X.env))) := by rfl) :
    PE X (.Call (.Attribute o m apos) [] [] pos) (tMeth C m sp [] E ta tNil) := by
  obtain ⟨f, fd, ps, hc, hm, F, b⟩ := c.ex
  exact pe_meth0 (pl := pl) he hc hm F (hr.mono hk) b .nil hx ht
/-- in a try's body -/
theorem pe_clS {E : L2.St → XK} (c : Clb X.prog X.w X.K X.mg X.base k x sp) (hr : Room j X.A) (hk : k ≤ j) (hx : ∀ σ, PassesAt (L2.CX X.prog X.w) X σ (E σ)) (ha : PA X (e :: es) t) (hg : Gl X x := by rfl)
    (hdb : (x == ("__debug__" : Str)) = false := by decide) (he : starEach (e :: es) X.env = (false, eval e X.env) :: starEach es X.env := by rfl) (hpl : (backTo pos (starEach es X.env)).any (·.1) = false := by rfl) :
    PE X (.Call (.Name x p) (e :: es) [] pos) (tCallS sp E t) := by
  obtain ⟨f, fd, ps, F, hm, kp, b⟩ := c.ex
  exact pe_callS F (hr.mono hk) hg hm kp b hx ha hdb he hpl
theorem pe_or {e : Expr} {t1 t2 : TE} (h1 : PE X e t1) (h2 : PE X e t2) : PE X e (fun σ H Q => t1 σ H Q ∨ t2 σ H Q) := ⟨fun pins s σ H Q I h => h.elim (h1.run pins s σ H Q I) (h2.run pins s σ H Q I)⟩
/-- a name of the module that holds a plain value -/
theorem pe_gl {v : V} (h : ∃ u, X.mg x = some u ∧ RelV v u) (hg : Gl X x := by rfl) (hdb : (x == ("__debug__" : Str)) = false := by decide) : PE X (.Name x pos) (tC v) := by
  obtain ⟨u, hm, r⟩ := h
  exact pe_glob hg hm r hdb
end
/-- a def of the text, as the head tells it -/
abbrev FnP (K : PySem.W.Frag) (x qual : Str) (st : Stmt) (f : Addr) (fd : FuncData) : Prop := FunD K x qual (defArgs st) (defBody st) (defScope st) [] [] f fd
/-- names that the module does not bind -/
structure Blt (mg : Str → Option Value) : Prop where
  len : mg "len" = none
  range : mg "range" = none
  sum : mg "sum" = none
  all_ : mg "all" = none
  any_ : mg "any" = none
  tuple : mg "tuple" = none
  list : mg "list" = none
  dict : mg "dict" = none
  set : mg "set" = none
  isinstance : mg "isinstance" = none
  ord : mg "ord" = none
  str : mg "str" = none
  int : mg "int" = none
  bool : mg "bool" = none
  min : mg "min" = none
  max : mg "max" = none
  sorted : mg "sorted" = none
  reversed : mg "reversed" = none
  zip : mg "zip" = none
  enumerate : mg "enumerate" = none
  ValueError : mg "ValueError" = none
/-! ### the head: facts over written addresses, and one more test -/
abbrev AlB : Type := He.AlD × Bool
def SaysB (fa : List He.Fa) (fn : List He.DefD) (ex : PySem.W.Frag → Bool) (K : PySem.W.Frag) : Prop := He.SaysD fa fn K ∧ ex K = true
def hookA (as : List Addr) (fa : List He.Fa) (fn : List He.DefD) (ex : PySem.W.Frag → Bool) : PySem.W.Hook where
  α := AlB
  obs := fun s => (He.obsD fa fn (He.frG s.heap.get? as), ex (He.frG s.heap.get? as))
  val := fun _ => (He.valD fn, true)
  says := fun _ h => ∃ K : PySem.W.Frag, K.In h ∧ SaysB fa fn ex K
  of := fun _ _ e => ⟨_, He.frG_in, congrArg Prod.fst e, congrArg Prod.snd e⟩
  keeps := fun _ _ _ ⟨K, hK, c⟩ k => ⟨K, PySem.W.Frag.In.keeps hK k, c⟩
theorem hookA_eq {as : List Addr} {fa : List He.Fa} {fn : List He.DefD} {ex : PySem.W.Frag → Bool} {s : PySem.W.SharedT} : (He.obsD fa fn (He.frG (HandSHeadRun.getT s) as), ex (He.frG (HandSHeadRun.getT s) as)) = (hookA as fa fn ex).obs s.abs := by
  unfold hookA
  dsimp only
  rw [show HandSHeadRun.getT s = s.abs.heap.get? from funext (HandSHeadRun.getT_eq s)]
/-- whatever the world: the law's own end -/
def cxAny : CXT := fun outer H s E u s' => ∃ (P : Program) (w : World), L2.CX P w outer H s E u s'
theorem cxAny_no (H : Hp) (s : Shared) (e : Value) (s' : Shared) (h : cxAny [] H s (fun _ _ _ => False) e s') : False := by
  obtain ⟨_, _, _, _, _, _, _, _, _, _, _, _, _, _, z⟩ := h
  exact z
theorem cxAny_of {P : Program} {w : World} {K : PySem.W.Frag} {mg : Str → Option Value} {base : Heap} {k : Nat} {f : Addr} {fd : FuncData} {ps : List Str} {sp : Sp} (h : FnOk P w K mg base (L2.CX P w) k f fd ps sp) : FnOk P w K mg base cxAny k f fd ps sp :=
  ⟨h.len, fun A outer s H args us vs Q E r e b v z => codeAny_mono (h.run A outer s H args us vs Q E r e b v z) fun r s' hq => by
    match r with
    | .ok (.ret u) => exact hq
    | .ok .next => exact hq
    | .ok .brk => exact hq
    | .ok .cont => exact hq
    | .error e => exact ⟨P, w, hq⟩⟩
end GK

namespace GK
open PySem PySem.Spec PyProof.Rows L2
open Evl (Ex ex_l ex_t ex_rd sq_of st_of sz_of sz_lt fresh_back)
/-! ### built-in names -/
theorem bt_len : bootBuiltins "len" = some (.builtin "len") := by decide +kernel
theorem bt_sum : bootBuiltins "sum" = some (.builtin "sum") := by decide +kernel
theorem bt_all : bootBuiltins "all" = some (.builtin "all") := by decide +kernel
theorem bt_any : bootBuiltins "any" = some (.builtin "any") := by decide +kernel
theorem bt_isinstance : bootBuiltins "isinstance" = some (.builtin "isinstance") := by decide +kernel
theorem bt_ord : bootBuiltins "ord" = some (.builtin "ord") := by decide +kernel
theorem bt_min : bootBuiltins "min" = some (.builtin "min") := by decide +kernel
theorem bt_max : bootBuiltins "max" = some (.builtin "max") := by decide +kernel
theorem bt_sorted : bootBuiltins "sorted" = some (.builtin "sorted") := by decide +kernel
theorem bt_tuple : bootBuiltins "tuple" = some (.type "tuple") := by decide +kernel
theorem bt_list : bootBuiltins "list" = some (.type "list") := by decide +kernel
theorem bt_dict : bootBuiltins "dict" = some (.type "dict") := by decide +kernel
theorem bt_set : bootBuiltins "set" = some (.type "set") := by decide +kernel
theorem bt_str : bootBuiltins "str" = some (.type "str") := by decide +kernel
theorem bt_int : bootBuiltins "int" = some (.type "int") := by decide +kernel
theorem bt_bool : bootBuiltins "bool" = some (.type "bool") := by decide +kernel
section
variable {X : Cx} {K : PySem.W.Frag} {σ : Sig} {B B' H H' : Hp} {te ta tb tc : TE} {tt : TT} {d d1 d2 : PyData} {v : V}
/-! ### None -/
def rIsNone : R2 := fun x y H Q => y = .non ∧ Q (.bl (decide (x = .non))) H
def rNotNone : R2 := fun x y H Q => y = .non ∧ Q (.bl (!decide (x = .non))) H
theorem evd_opIsN (ha : EvD ta σ B H d) (hb : EvD tb σ B H .none) : EvD (tOp rIsNone ta tb) σ B H (.bool (isNone d)) := fun H1 e eb Q q => ha H1 e eb _ fun v H2 B2 e2 x2 eb2 hd => hb.flat (fun _ _ => dpn) (e.trans e2) (eb.trans e2) fun H3 e3 => by
  refine ⟨rfl, ?_⟩
  cases hd <;> exact q _ H3 B2 (e2.trans e3) x2 (eb2.trans e3) (.bl _)
theorem evd_opNotN (ha : EvD ta σ B H d) (hb : EvD tb σ B H .none) : EvD (tOp rNotNone ta tb) σ B H (.bool (!isNone d)) := fun H1 e eb Q q => ha H1 e eb _ fun v H2 B2 e2 x2 eb2 hd => hb.flat (fun _ _ => dpn) (e.trans e2) (eb.trans e2) fun H3 e3 => by
  refine ⟨rfl, ?_⟩
  cases hd <;> exact q _ H3 B2 (e2.trans e3) x2 (eb2.trans e3) (.bl _)
/-! ### truth -/
def tTruth (K : PySem.W.Frag) (ta : TE) : TT := fun σ H Q => ta σ H fun x H' => ∃ k, TruV K x H' k ∧ Q k H'
def truD : PyData → Bool
  | .none => false
  | .bool b => b
  | .int i => i != 0
  | .str x => (x.length : Int) != 0
  | .list ds => !ds.isEmpty
  | .tuple ds => !ds.isEmpty
  | .dict _ => false
theorem empty_da {vs : List V} {ds : List PyData} (h : DaAll B vs ds) : vs.isEmpty = ds.isEmpty := by
  cases h <;> rfl
theorem evb_tru (ha : EvD ta σ B H d) (hs : ∀ x, d = .str x → x.length ≤ 100000) : EvB (tTruth K ta) σ B H (truD d) := fun H1 e eb Q q => ha H1 e eb _ fun v H2 B2 e2 x2 eb2 hd => by
  cases hd with
  | non => exact ⟨_, rfl, q H2 e2⟩
  | bl b => exact ⟨_, rfl, q H2 e2⟩
  | int i => exact ⟨_, rfl, q H2 e2⟩
  | str x => exact ⟨_, ⟨sz_of (hs x rfl), rfl⟩, q H2 e2⟩
  | lst h hx => exact ⟨_, .inl ⟨_, sq_of (eb2 _ _ h), by rw [empty_da hx]; rfl⟩, q H2 e2⟩
  | tup h hx => exact ⟨_, .inr (.inl ⟨_, st_of (eb2 _ _ h), by rw [empty_da hx]; rfl⟩), q H2 e2⟩
/-! ### raise, try -/
structure Exn (K : PySem.W.Frag) (mg : Str → Option Value) (x : Str) : Prop where
  q : PySem.W.excIn K (He.ga K x) He.veBase "ValueError.__new__" = true
  g : mg x = some (.ref (He.ga K x))
  k : PySem.W.keepIn K (.ref (He.ga K x)) = true
  b : PySem.W.subIn K (.ref (He.ga K x)) (.type "BaseException") = some true
  t : PySem.W.typeIn K (.ref (He.ga K x)) = some (.type "type")
def tRs (C : Addr) (E : XK) : TS := fun _ _ H => E (.ref C) none H
theorem ps_rs {x m : Str} {j : Nat} {E : XK} {p p2 pos pos2 : Pos} (c : Exn X.K X.mg x) (tk : Takes X (fun cls d _ H => E cls d H)) (hc : X.calm = true := by rfl) (hg : Gl X x := by rfl) (hdb : (x == ("__debug__" : Str)) = false := by decide)
    (he : starEach [(.Constant (.str m) j p2 : Expr)] X.env = (false, eval (.Constant (.str m) j p2) X.env) :: starEach [] X.env := by rfl) (hpl : (backTo pos (starEach [] X.env)).any (·.1) = false := by rfl) :
    PS X (.Raise (some (.Call (.Name x p) [.Constant (.str m) j p2] [] pos)) none pos2) (tRs (He.ga X.K x) E) :=
  ps_raise hc tk (pmk_own PySem.F.excBase_ValueError c.q c.g c.k (raises_own c.b c.t) hg hdb)
def tTryAs (K : PySem.W.Frag) (c : Value) (i : Nat) (tb : WX → TS) (ts : Addr → Value → Option Addr → TS) : TS := fun D σ H => tb (wAs K c i ts (fun _ _ _ _ => False) D) D σ H
/-! ### texts times numbers -/
def rMulStr : R2 := fun x y H Q => ∃ z n, x = .str z ∧ y = .int n ∧ MulOk z n ∧ Q (.str (Txt.mul z n)) H
theorem op_mulStr : OpR X (binaryOp .Mult) rMulStr := by
  intro pins s σ H x y v u Q I rx ry h
  obtain ⟨i, j, rfl, rfl, hz, q⟩ := h
  obtain ⟨t, rfl⟩ := rx
  obtain ⟨t', rfl⟩ := ry
  exact SB.mul hz fun t' tk => ⟨.str _, H, I.tok _, ⟨_, rfl⟩, q⟩
theorem evd_mulS {z : Str} {n : Int} (ha : EvD ta σ B H (.str z)) (hb : EvD tb σ B H (.int n)) (hl : MulOk z n := by with_reducible assumption) : EvD (tOp rMulStr ta tb) σ B H (.str (Txt.mul z n)) := evd_op2 ha (fun _ _ => dps) hb (fun _ _ => dpi) (fun _ _ q => ⟨z, n, rfl, rfl, hl, q⟩) fun _ => .str _
/-! ### isinstance -/
def tyName : PyData → String
  | .none => "NoneType"
  | .bool _ => "bool"
  | .int _ => "int"
  | .str _ => "str"
  | .list _ => "list"
  | .tuple _ => "tuple"
  | .dict _ => "dict"
theorem tyx_da (h : Da B v d) (e : Ex B H) : TyX K H v (.type (tyName d)) := by
  cases h with
  | non => exact .base .non
  | bl b => exact .base (.bl b)
  | int i => exact .base (.int i)
  | str x => exact .base (.str x)
  | lst h _ => exact .base (.lst (e _ _ h))
  | tup h _ => exact .base (.tup (e _ _ h))
theorem evd_isi {T : String} {b : Bool} (ha : EvD ta σ B H d) (hk : kitB (tyName d) T = some b) : EvD (tCB (rIsi K) (tCons ta (tCons (tC (.ty T)) tNil))) σ B H (.bool b) := fun H1 e eb Q q => ha H1 e eb _ fun v H2 B2 e2 x2 eb2 hd =>
  ⟨v, .ty T, _, _, b, rfl, .ty T, tyx_da hd eb2, kit_ty hk, q _ H2 B2 e2 x2 eb2 (.bl _)⟩
theorem evd_isi2 {T U : String} {b : Bool} (ha : EvD ta σ B H d) (hk : PySem.W.kitAny K (.type (tyName d)) [.type T, .type U] = some b) : EvD (tCB (rIsiT K) (tCons ta (tCons (tTup (tCons (tC (.ty T)) (tCons (tC (.ty U)) tNil))) tNil))) σ B H (.bool b) := fun H1 e eb Q q => ha H1 e eb _ fun v H2 B2 e2 x2 eb2 hd =>
  ⟨(by show 2 ≤ sizeLine; decide), fun p hp => ⟨v, p, [.ty T, .ty U], _, [.type T, .type U], b, rfl, upd_same, .cons (.ty T) (.cons (.ty U) .nil), tyx_da hd (eb2.trans (Ex.new hp)), hk, q _ _ B2 (e2.trans (Ex.new hp)) x2 (eb2.trans (Ex.new hp)) (.bl _)⟩⟩
end
/-! ### errors of the program's own: what a suite asks of them -/
theorem bt_ValueError : bootBuiltins "ValueError" = some (.type "ValueError") := by decide +kernel
/-- isinstance(e, c) in the suite that holds e -/
def rIsX (K : PySem.W.Frag) (cls : Value) (d : Option Addr) (a : Addr) : List V → Hp → VK → Prop := fun xs H Q => ∃ D, cls = .ref D ∧ d = none ∧ ExcC K D ∧ rIsE K D a xs H Q
theorem call_isX {X : Cx} {a : Addr} {cls : Value} {d : Option Addr} {oe : Obj} {pn : List (Addr × Obj)} (hz : Zc cls d oe) (hf : ∃ vs, oe.data = .fields vs) : CallR (X.suite a ((a, oe) :: pn)) (.builtin "isinstance") (rIsX X.K cls d a) := by
  intro pins s σ H xs us Q I r h
  obtain ⟨D, rfl, rfl, C, h⟩ := h
  exact call_isE C hz hf pins s σ H xs us Q I r h
def eqOb (a b : Option Bool) : Bool := decide (a = b)
/-- the class x as the suites ask it -/
def excB (K : PySem.W.Frag) (x : Str) : Bool :=
  He.eqO (PySem.W.findIn K (.ref (He.ga K x)) "__getattribute__") (some (some (.builtin "BaseException.__getattribute__"))) && (He.eqO (PySem.W.findIn K (.ref (He.ga K x)) "__getattr__") (some none) &&
  (eqOb (PySem.W.subIn K (.ref (He.ga K x)) (.type "BaseException")) (some true) && (PySem.W.hasDictIn K (He.ga K x) && (He.eqO (PySem.W.findIn K (.ref (He.ga K x)) "__class__") (some (some (.builtin "object.__class__"))) &&
  (He.eqO (PySem.W.specialIn K (.builtin "object.__class__") "__get__") (some (some (.builtin "getset_descriptor.__get__"))) && (eqOb (PySem.W.takesIn K (.builtin "object.__class__")) (some true) && eqOb (PySem.W.mroIn K (He.ga K x) (.type "object")) (some true)))))))
theorem excB_ok {K : PySem.W.Frag} {x : Str} (h : excB K x = true) : ExcC K (He.ga K x) := by
  obtain ⟨a1, h⟩ := He.ba h
  obtain ⟨a2, h⟩ := He.ba h
  obtain ⟨a3, h⟩ := He.ba h
  obtain ⟨a4, h⟩ := He.ba h
  obtain ⟨a5, h⟩ := He.ba h
  obtain ⟨a6, h⟩ := He.ba h
  obtain ⟨a7, a8⟩ := He.ba h
  exact ⟨He.eqO_ok a1, He.eqO_ok a2, of_decide_eq_true a3, a4, He.eqO_ok a5, He.eqO_ok a6, of_decide_eq_true a7, of_decide_eq_true a8⟩
/-- all classes of the list: none below another, all below KeepError and ValueError -/
def excsB (xs : List Str) (K : PySem.W.Frag) : Bool := xs.all fun x => excB K x && (eqOb (PySem.W.exmOne K (.ref (He.ga K x)) (.ref (He.ga K "KeepError"))) (some true) && (eqOb (PySem.W.kitOne K (.ref (He.ga K x)) (.type "ValueError")) (some true) &&
  (eqOb (PySem.W.kitOne K (.ref (He.ga K x)) (.ref (He.ga K "KeepError"))) (some true) &&
  xs.all fun y => eqOb (PySem.W.kitOne K (.ref (He.ga K x)) (.ref (He.ga K y))) (some (decide (x = y))) && eqOb (PySem.W.exmOne K (.ref (He.ga K x)) (.ref (He.ga K y))) (some (decide (x = y))))))
structure Exs (xs : List Str) (K : PySem.W.Frag) : Prop where
  c : ∀ x ∈ xs, ExcC K (He.ga K x)
  m : ∀ x ∈ xs, PySem.W.exmOne K (.ref (He.ga K x)) (.ref (He.ga K "KeepError")) = some true
  v : ∀ x ∈ xs, PySem.W.kitOne K (.ref (He.ga K x)) (.type "ValueError") = some true
  b : ∀ x ∈ xs, PySem.W.kitOne K (.ref (He.ga K x)) (.ref (He.ga K "KeepError")) = some true
  k : ∀ x ∈ xs, ∀ y ∈ xs, PySem.W.kitOne K (.ref (He.ga K x)) (.ref (He.ga K y)) = some (decide (x = y))
  e : ∀ x ∈ xs, ∀ y ∈ xs, PySem.W.exmOne K (.ref (He.ga K x)) (.ref (He.ga K y)) = some (decide (x = y))
theorem excsB_ok {xs : List Str} {K : PySem.W.Frag} (h : excsB xs K = true) : Exs xs K := by
  unfold excsB at h
  rw [List.all_eq_true] at h
  have h4 : ∀ x ∈ xs, ∀ y ∈ xs, _ := fun x hx y hy => List.all_eq_true.mp (He.ba (He.ba (He.ba (He.ba (h x hx)).2).2).2).2 y hy
  exact ⟨fun x hx => excB_ok (He.ba (h x hx)).1, fun x hx => of_decide_eq_true (He.ba (He.ba (h x hx)).2).1, fun x hx => of_decide_eq_true (He.ba (He.ba (He.ba (h x hx)).2).2).1, fun x hx => of_decide_eq_true (He.ba (He.ba (He.ba (He.ba (h x hx)).2).2).2).1, fun x hx y hy => of_decide_eq_true (He.ba (h4 x hx y hy)).1, fun x hx y hy => of_decide_eq_true (He.ba (h4 x hx y hy)).2⟩
/-! ### what a def tells that may raise -/
inductive Res where
  | ok (d : PyData)
  | no (c : Str)
def RetX (K : PySem.W.Frag) (r : Res) (B H : Hp) (Q : VK) (E : XK) : Prop := match r with
  | .ok d => Ret d B H Q
  | .no c => ∀ H', Ex H H' → E (.ref (He.ga K c)) none H'
theorem RetX.grow {K : PySem.W.Frag} {r : Res} {B H B1 H1 : Hp} {Q : VK} {E : XK} (h : RetX K r B H Q E) (e : Ex H H1) (x : Ext B H B1) : RetX K r B1 H1 Q E := by
  cases r with
  | ok d => exact Ret.grow h e x
  | no c => exact fun H' e' => h H' (e.trans e')
section
def rIntStr : List V → Hp → VK → Prop := fun xs H Q => ∃ a n, xs = [.str a] ∧ PySem.intText? a = some n ∧ a.length ≤ 640 ∧ Q (.int n) H
theorem cr_intStr {X : Cx} : CallR X (.type "int") rIntStr := call_int_str
end
end GK

namespace GK
open PySem PySem.Spec PyProof.Rows L2
open Evl (Ex ex_l ex_t ex_rd sq_of st_of sz_of sz_lt fresh_back)
/-! ### texts as lists of signs -/
abbrev tl (x : Str) : List Nat := x.cps.toList
def ofL (l : List Nat) : Str := ⟨l.toArray⟩
theorem ofL_tl (x : Str) : ofL (tl x) = x := by cases x; simp [ofL, tl]
theorem tl_ofL (l : List Nat) : tl (ofL l) = l := by simp [ofL, tl]
theorem str_ext {x y : Str} (h : tl x = tl y) : x = y := by rw [← ofL_tl x, ← ofL_tl y, h]
theorem len_tl (x : Str) : x.length = (tl x).length := by cases x; simp [tl, Str.length]
theorem len_ofL (l : List Nat) : (ofL l).length = l.length := by rw [len_tl, tl_ofL]
theorem tl_app (x y : Str) : tl (x ++ y) = tl x ++ tl y := by
  show (x.cps ++ y.cps).toList = _
  simp
theorem tl_join_nil (xs : List Str) : tl (Txt.join "" xs) = (xs.map tl).flatten := by
  cases xs with
  | nil => rfl
  | cons a r =>
    show ((r.foldl (fun acc p => acc ++ (Str.ofString "").cps ++ p.cps) a.cps).toList) = _
    have h : ∀ (r : List Str) (acc : Array Nat), (r.foldl (fun acc p => acc ++ (Str.ofString "").cps ++ p.cps) acc).toList = acc.toList ++ (r.map tl).flatten := by
      intro r
      induction r with
      | nil => intro acc; simp
      | cons b r ih =>
        intro acc
        rw [List.foldl_cons, ih]
        have : (Str.ofString "").cps = #[] := by decide +kernel
        simp [this, tl]
    rw [h r a.cps]
    simp
theorem tl_sign (c : Nat) : tl (sign c) = [c] := rfl
theorem join_signs (l : List Nat) : Txt.join "" (l.map sign) = ofL l := by
  apply str_ext
  rw [tl_join_nil, tl_ofL, List.map_map]
  induction l with
  | nil => rfl
  | cons a r ih => simp only [List.map_cons, List.flatten_cons, ih]; rfl
theorem tl_cut (z : Str) (lo hi : Option Int) : tl (cutS z lo hi) = ((tl z).drop (HT.sIx z.length 0 lo)).take (HT.sIx z.length z.length hi - HT.sIx z.length 0 lo) := by simp [cutS, tl]
/-! ### draws -/
def mix (c p m : Int) : Int := (c * 48271 % p) * (c * 48271 % p + 7) % p % m
theorem mix_nonneg {c p m : Int} (hm : 0 < m) : 0 ≤ mix c p m := Int.emod_nonneg _ (by omega)
theorem mix_lt {c p m : Int} (hm : 0 < m) : mix c p m < m := Int.emod_lt_of_pos _ hm
theorem mix_rng {c p m : Int} (hm : 0 < m) : 0 ≤ mix c p m ∧ mix c p m < m := ⟨mix_nonneg hm, mix_lt hm⟩
def cellN (ns : List Int) (k : Int) : Int := ns.getD k.toNat 0
def keySigns : Str := "abcdefghijklmnopqrstuvwxyz0123456789/-."
def dataSigns : Str := " !\"#$&'()*+,-./0123456789:;<=>?@ABCDEFGHIJKLMNOPQRSTUVWXYZ[\\]^_`abcdefghijklmnopqrstuvwxyz{|}~"
def keyTab : List Str := ["a", "a/b", "a/c", "a/b/c", "b", "/", "a-1", "a."]
def keyOne (c : Int) (k : Nat) : Nat := (tl keySigns).getD (mix (c + 7 * (k : Int)) 9949 39).toNat 0
def keyLen (c : Int) : Int := 1 + mix c 9967 20
def lawKey (c : Int) : Str := if c % 3 = 0 then keyTab.getD (mix c 9973 8).toNat "" else ofL ((List.range (keyLen c).toNat).map (keyOne c))
def dataOne (c : Int) (k : Nat) : Nat := (tl dataSigns).getD (mix (c + 5 * (k : Int)) 9923 94).toNat 0
def dataLen (c : Int) : Int := if mix c 9931 7 = 1 then mix c 9929 100 else if mix c 9931 7 = 0 then 99 else mix c 9941 9
def lawData (c : Int) : Str := ofL ((List.range (dataLen c).toNat).map (dataOne c))
theorem keySigns_len : (tl keySigns).length = 39 := by decide +kernel
theorem dataSigns_len : (tl dataSigns).length = 94 := by decide +kernel
theorem keyTab_ok : ∀ s ∈ keyTab, 1 ≤ s.length ∧ s.length ≤ 20 ∧ ∀ c ∈ tl s, c ∈ tl keySigns := by decide +kernel
theorem getD_mem {α : Type} {l : List α} {i : Nat} {a : α} (h : i < l.length) : l.getD i a ∈ l := by
  rw [List.getD_eq_getElem?_getD, List.getElem?_eq_getElem h]
  exact List.getElem_mem h
theorem keyOne_mem (c : Int) (k : Nat) : keyOne c k ∈ tl keySigns := getD_mem (by
  have := mix_rng (c := c + 7 * (k : Int)) (p := 9949) (m := 39) (by decide)
  rw [keySigns_len]; omega)
theorem dataOne_mem (c : Int) (k : Nat) : dataOne c k ∈ tl dataSigns := getD_mem (by
  have := mix_rng (c := c + 5 * (k : Int)) (p := 9923) (m := 94) (by decide)
  rw [dataSigns_len]; omega)
theorem keyLen_rng (c : Int) : 1 ≤ keyLen c ∧ keyLen c ≤ 20 := by
  have := mix_rng (c := c) (p := 9967) (m := 20) (by decide)
  unfold keyLen; omega
theorem lawKey_len (c : Int) : 1 ≤ (lawKey c).length ∧ (lawKey c).length ≤ 20 := by
  unfold lawKey
  split
  · have h := mix_rng (c := c) (p := 9973) (m := 8) (by decide)
    have h8 : keyTab.length = 8 := rfl
    have := keyTab_ok _ (getD_mem (l := keyTab) (i := (mix c 9973 8).toNat) (a := "") (by omega))
    exact ⟨this.1, this.2.1⟩
  · rw [len_ofL, List.length_map, List.length_range]
    have := keyLen_rng c
    omega
theorem lawKey_signs (c : Int) : ∀ z ∈ tl (lawKey c), z ∈ tl keySigns := by
  unfold lawKey
  split
  · have h := mix_rng (c := c) (p := 9973) (m := 8) (by decide)
    have h8 : keyTab.length = 8 := rfl
    exact (keyTab_ok _ (getD_mem (l := keyTab) (i := (mix c 9973 8).toNat) (a := "") (by omega))).2.2
  · rw [tl_ofL]
    intro z hz
    obtain ⟨k, _, rfl⟩ := List.mem_map.mp hz
    exact keyOne_mem c k
theorem dataLen_rng (c : Int) : 0 ≤ dataLen c ∧ dataLen c ≤ 99 := by
  have h1 := mix_rng (c := c) (p := 9929) (m := 100) (by decide)
  have h2 := mix_rng (c := c) (p := 9941) (m := 9) (by decide)
  unfold dataLen
  split
  · omega
  · split <;> omega
theorem lawData_len (c : Int) : (lawData c).length ≤ 99 := by
  have := dataLen_rng c
  unfold lawData
  rw [len_ofL, List.length_map, List.length_range]; omega
theorem lawData_signs (c : Int) : ∀ z ∈ tl (lawData c), z ∈ tl dataSigns := by
  unfold lawData
  rw [tl_ofL]
  intro z hz
  obtain ⟨k, _, rfl⟩ := List.mem_map.mp hz
  exact dataOne_mem c k
/-! ### sums -/
def sumStep (f : Int) (c : Nat) : Int := (31 * f + (c : Int) - 32) % 999983
def sumN (l : List Nat) : Int := l.foldl sumStep 0
theorem sumN_rng (l : List Nat) : 0 ≤ sumN l ∧ sumN l < 999983 := by
  unfold sumN
  suffices h : ∀ (l : List Nat) (f : Int), 0 ≤ f ∧ f < 999983 → 0 ≤ l.foldl sumStep f ∧ l.foldl sumStep f < 999983 from h l 0 (by decide)
  intro l
  induction l with
  | nil => intro f hf; exact hf
  | cons a r ih => intro f hf; exact ih _ (by unfold sumStep; omega)
/-- sum_of -/
def sumT (x : Str) : Str := Txt.zfill (toString (sumN (tl x))) 6
def sumsT (xs : List Str) : Str := sumT (Txt.join "" xs) ++ "-" ++ ((toString (xs.length : Int) : String) : Str)
end GK

namespace GK
open PySem PySem.Spec PyProof.Rows L2
open Evl (Ex ex_l ex_t ex_rd sq_of st_of sz_of sz_lt fresh_back)
/-! ### the script's cells -/
theorem atI_nat' {α : Type} {xs : List α} {i : Int} {v : α} (h0 : 0 ≤ i) (h : xs[i.toNat]? = some v) : atI xs i = some v := by
  unfold atI ixN
  have := (List.getElem?_eq_some_iff.mp h).1
  rw [if_pos h0, if_pos (by omega)]
  exact h
theorem atI_getD {α : Type} {xs : List α} {i : Int} {a : α} (h0 : 0 ≤ i) (h : i < xs.length) : atI xs i = some (xs.getD i.toNat a) := atI_nat' h0 (by
  rw [List.getD_eq_getElem?_getD, List.getElem?_eq_getElem (by omega)]; rfl)
def sp_law_cell (K : PySem.W.Frag) : Sp := fun vs H Q _ => ∃ (B : Hp) (a : Addr) (ns : List Int) (k : Int), Ex B H ∧ vs = [.ref a, .int k] ∧ SqL K H a (ns.map V.int) ∧ 0 ≤ k ∧ Ret (.int (cellN ns k)) B H Q
theorem len_law_cell {K : PySem.W.Frag} {vs : List V} {H : Hp} {Q : VK} {E : XK} (h : sp_law_cell K vs H Q E) : vs.length = 2 := by
  obtain ⟨_, _, _, _, _, rfl, _⟩ := h; rfl
def t_law_cell (K : PySem.W.Frag) (E : XK) : TS :=
  (tSeq (tIfS (tTest (tOp (rI0 fun i j => .bl (decide (i < j))) (tVar 1) (tCB (rLenSeq K) (tCons (tVar 0) tNil)))) (tRet (tOp (rIxL K) (tVar 0) (tVar 1))) tNext)
    (tRet (tC (.int 0))))
theorem pure_law_cell {K : PySem.W.Frag}  {vs : List V} {H : Hp} {Q : VK} {E : XK} (h : sp_law_cell K vs H Q E) : t_law_cell K E { nx := fun _ H' => Q .non H', rt := Q } (start ["script", "k"] vs) H := by
  obtain ⟨B, a, ns, k, eb, rfl, hS, hk, r⟩ := h
  refine ⟨_, rfl, _, rfl, a, _, rfl, .inl hS, _, _, rfl, rfl, _, rfl, ?_⟩
  refine ite2 (fun c => ?_) (fun c => ?_)
  · have c' : k < (ns.length : Int) := by simpa using c
    refine ⟨_, rfl, _, rfl, a, _, k, .int (cellN ns k), rfl, rfl, hS, ?_, r.at eb (.int _)⟩
    refine atI_nat' hk ?_
    rw [List.getElem?_map, List.getElem?_eq_getElem (by omega)]
    unfold cellN
    rw [List.getD_eq_getElem?_getD, List.getElem?_eq_getElem (by omega)]
    rfl
  · have c' : ¬ k < (ns.length : Int) := by simpa using c
    have e : cellN ns k = 0 := by
      unfold cellN
      rw [List.getD_eq_getElem?_getD, List.getElem?_eq_none (by omega)]
      rfl
    rw [e] at r
    exact r.at eb (.int _)
section
variable {K : PySem.W.Frag} {σ : Sig} {B H : Hp} {te ta tb tc : TE} {d : PyData} {E : XK}
theorem cev_law_cell {a : Addr} {ns : List Int} {k : Int} (ha : EvF ta σ H (.ref a)) (hk : EvD tb σ B H (.int k)) (hS : SqL K H a (ns.map V.int) := by with_reducible assumption) (h0 : 0 ≤ k := by first | with_reducible assumption | omega) :
    EvD (tCall (sp_law_cell K) [] E (tCons ta (tCons tb tNil))) σ B H (.int (cellN ns k)) := fun H1 e eb Q q => ha H1 e _ fun H2 e2 => hk.flat (fun _ _ => dpi) (e.trans e2) (eb.trans e2) fun H3 e3 =>
  ⟨B, a, ns, k, eb.trans (e2.trans e3), rfl, ex_l (e.trans (e2.trans e3)) hS, h0, q.grow (e2.trans e3) (Ext.refl _ _)⟩
end
/-! ### draws -/
def sp_law_mix (K : PySem.W.Frag) : Sp := fun vs H Q _ => ∃ (B : Hp) (c p m : Int), Ex B H ∧ vs = [.int c, .int p, .int m] ∧ 0 < p ∧ p < 1000000 ∧ 0 < m ∧ Ret (.int (mix c p m)) B H Q
theorem len_law_mix {K : PySem.W.Frag} {vs : List V} {H : Hp} {Q : VK} {E : XK} (h : sp_law_mix K vs H Q E) : vs.length = 3 := by
  obtain ⟨_, _, _, _, _, rfl, _⟩ := h; rfl
def t_law_mix (K : PySem.W.Frag) (E : XK) : TS :=
  (tSeq (tAsg (tOp (rI (fun _ j => 0 < j) fun i j => .int (i % j)) (tOp (rI CMul fun i j => .int (i * j)) (tVar 0) (tC (.int 48271))) (tVar 1)) (gName 3))
    (tRet (tOp (rI (fun _ j => 0 < j) fun i j => .int (i % j)) (tOp (rI (fun _ j => 0 < j) fun i j => .int (i % j)) (tOp (rI CMul fun i j => .int (i * j)) (tVar 3) (tOp (rI0 fun i j => .int (i + j)) (tVar 3) (tC (.int 7)))) (tVar 1)) (tVar 2))))
theorem pure_law_mix {K : PySem.W.Frag}  {vs : List V} {H : Hp} {Q : VK} {E : XK} (h : sp_law_mix K vs H Q E) : t_law_mix K E { nx := fun _ H' => Q .non H', rt := Q } (start ["cell", "prime", "many", "blend"] vs) H := by
  obtain ⟨B, c, p, m, eb, rfl, hp, hp2, hm, r⟩ := h
  have h1 := Int.emod_nonneg (c * 48271) (b := p) (by omega)
  have h2 := Int.emod_lt_of_pos (c * 48271) hp
  refine q_asgI (B := B) (evd_mod (evd_mul (evd_varI rfl) evd_ci) (evd_varI rfl)) eb fun H1 e1 eb1 => ?_
  exact s_ret (evd_mod (evd_mod (evd_mul (evd_varI rfl) (evd_I0 (evd_varI rfl) evd_ci)) (evd_varI rfl)) (evd_varI rfl)) eb1 (r.grow e1 (Ext.refl _ _))
section
variable {K : PySem.W.Frag} {σ : Sig} {B H : Hp} {te ta tb tc : TE} {d : PyData} {E : XK}
theorem cev_law_mix {c p m : Int} (ha : EvD ta σ B H (.int c)) (hb : EvD tb σ B H (.int p)) (hc : EvD tc σ B H (.int m)) (hp : 0 < p ∧ p < 1000000 := by first | with_reducible assumption | decide | omega) (hm : 0 < m := by first | with_reducible assumption | decide | omega) :
    EvD (tCall (sp_law_mix K) [] E (tCons ta (tCons tb (tCons tc tNil)))) σ B H (.int (mix c p m)) := evd_call (evs_cons ha (evs_cons hb (evs_cons hc evs_nil))) fun H1 B1 vs _ _ eb hd Q q => by
  obtain ⟨v, u, w, rfl, hv, hu, hw⟩ := dpa3 hd
  cases hv
  cases hu
  cases hw
  exact ⟨B1, c, p, m, eb, rfl, hp.1, hp.2, hm, q⟩
end
/-! ### _law_key -/
def sp_law_key (K : PySem.W.Frag) : Sp := fun vs H Q _ => ∃ (B : Hp) (c : Int), Ex B H ∧ vs = [.int c] ∧ Ret (.str (lawKey c)) B H Q
theorem len_law_key {K : PySem.W.Frag} {vs : List V} {H : Hp} {Q : VK} {E : XK} (h : sp_law_key K vs H Q E) : vs.length = 1 := by
  obtain ⟨_, _, _, rfl, _⟩ := h; rfl
theorem sum_signs (l : List Nat) : ((l.map sign).map (·.length)).sum = l.length := by
  induction l with
  | nil => rfl
  | cons a r ih =>
    rw [List.map_cons, List.map_cons, List.sum_cons, ih, List.length_cons]
    show 1 + r.length = _
    omega
theorem join_signs_ok {l : List Nat} (h : l.length ≤ 100000) : ((l.map sign).map (·.length)).sum + (l.map sign).length * ("" : Str).length ≤ 16777216 := by
  rw [sum_signs]
  show _ + _ * 0 ≤ _
  omega
def t_law_key (K : PySem.W.Frag) (E : XK) : TS :=
  (tSeq (tAsg (tC (.str "abcdefghijklmnopqrstuvwxyz0123456789/-.")) (gName 1))
    (tSeq (tIfS (tTest (tOp rEq (tOp (rI (fun _ j => 0 < j) fun i j => .int (i % j)) (tVar 0) (tC (.int 3))) (tC (.int 0)))) (tRet (tOp (rIxT K) (tTup (tCons (tC (.str "a")) (tCons (tC (.str "a/b")) (tCons (tC (.str "a/c")) (tCons (tC (.str "a/b/c")) (tCons (tC (.str "b")) (tCons (tC (.str "/")) (tCons (tC (.str "a-1")) (tCons (tC (.str "a.")) tNil))))))))) (tCall (sp_law_mix K) [] E0 (tCons (tVar 0) (tCons (tC (.int 9973)) (tCons (tC (.int 8)) tNil)))))) tNext)
    (tSeq (tAsg (tOp (rI0 fun i j => .int (i + j)) (tC (.int 1)) (tCall (sp_law_mix K) [] E0 (tCons (tVar 0) (tCons (tC (.int 9967)) (tCons (tC (.int 20)) tNil))))) (gName 2))
    (tRet (tM1 (rJoin K) (tC (.str "")) (tLc (iRng1 (tCons (tVar 2) tNil)) (gName 3) tYes (tOp rIxS (tVar 1) (tCall (sp_law_mix K) [] E0 (tCons (tOp (rI0 fun i j => .int (i + j)) (tVar 0) (tOp (rI CMul fun i j => .int (i * j)) (tC (.int 7)) (tVar 3))) (tCons (tC (.int 9949)) (tCons (tC (.int 39)) tNil))))) [3]))))))
theorem pure_law_key {K : PySem.W.Frag}  {vs : List V} {H : Hp} {Q : VK} {E : XK} (h : sp_law_key K vs H Q E) : t_law_key K E { nx := fun _ H' => Q .non H', rt := Q } (start ["cell", "signs", "many", "k"] vs) H := by
  obtain ⟨B, c, eb, rfl, r⟩ := h
  refine q_asgS (B := B) evd_cs eb fun H1 e1 eb1 => ?_
  have r1 := r.grow e1 (Ext.refl _ _)
  refine q_when (B := B) (evb_test (evd_eqI (evd_mod (evd_varI rfl) evd_ci) evd_ci)) eb1 (fun hb H2 e2 eb2 => ?_) (fun hb H2 e2 eb2 => ?_)
  · have hc : c % 3 = 0 := of_decide_eq_true hb
    have hm := mix_rng (c := c) (p := 9973) (m := 8) (by decide)
    have r2 := r1.grow e2 (Ext.refl _ _)
    unfold lawKey at r2
    rw [if_pos hc] at r2
    refine s_ret (evd_ixT (ds := keyTab.map .str) (evd_tup (evs_cons evd_cs (evs_cons evd_cs (evs_cons evd_cs (evs_cons evd_cs (evs_cons evd_cs (evs_cons evd_cs (evs_cons evd_cs (evs_cons evd_cs evs_nil))))))))) (cev_law_mix (evd_varI rfl) evd_ci evd_ci) ?_) eb2 r2
    refine atI_nat' hm.1 ?_
    rw [List.getElem?_map, List.getD_eq_getElem?_getD, List.getElem?_eq_getElem (show (mix c 9973 8).toNat < keyTab.length by show _ < 8; omega)]
    rfl
  · have hc : ¬ c % 3 = 0 := of_decide_eq_false hb
    have r2 := r1.grow e2 (Ext.refl _ _)
    unfold lawKey at r2
    rw [if_neg hc] at r2
    have hl := keyLen_rng c
    refine q_asgI (B := B) (n := keyLen c) (evd_I0 evd_ci (cev_law_mix (evd_varI rfl) evd_ci evd_ci)) eb2 fun H3 e3 eb3 => ?_
    refine s_ret (B := B) (d := .str (ofL ((List.range (keyLen c).toNat).map (keyOne c)))) ?_ eb3 (r2.grow e3 (Ext.refl _ _))
    rw [← join_signs]
    refine evd_join evd_cs ?_ (join_signs_ok (by rw [List.length_map, List.length_range]; omega))
    rw [List.map_map, List.map_map]
    refine evd_lcR _ (evs_cons (evd_varI rfl) evs_nil) ⟨by omega, by omega⟩ (fun x => rfl) fun i hi B1 H1 eb' eh' e' => ?_
    have hm := mix_rng (c := c + 7 * (i : Int)) (p := 9949) (m := 39) (by decide)
    refine evd_ixS (z := keySigns) (evd_varS rfl) (cev_law_mix (evd_I0 (evd_varI rfl) (evd_mul evd_ci (evd_varI rfl))) evd_ci evd_ci) (by decide +kernel) ?_
    exact atI_getD hm.1 (by rw [keySigns_len]; omega)
section
variable {K : PySem.W.Frag} {σ : Sig} {B H : Hp} {te ta tb tc : TE} {d : PyData} {E : XK}
theorem cev_law_key {c : Int} (ha : EvD ta σ B H (.int c)) : EvD (tCall (sp_law_key K) [] E (tCons ta tNil)) σ B H (.str (lawKey c)) := evd_call (evs_cons ha evs_nil) fun H1 B1 vs _ _ eb hd Q q => by
  obtain ⟨v, rfl, hv⟩ := dpa1 hd
  cases hv
  exact ⟨B1, c, eb, rfl, q⟩
end
/-! ### _law_data -/
def sp_law_data (K : PySem.W.Frag) : Sp := fun vs H Q _ => ∃ (B : Hp) (c : Int), Ex B H ∧ vs = [.int c] ∧ Ret (.str (lawData c)) B H Q
theorem len_law_data {K : PySem.W.Frag} {vs : List V} {H : Hp} {Q : VK} {E : XK} (h : sp_law_data K vs H Q E) : vs.length = 1 := by
  obtain ⟨_, _, _, rfl, _⟩ := h; rfl
theorem dataSigns_len' : dataSigns.length = 94 := by decide +kernel
def t_law_data (K : PySem.W.Frag) (E : XK) : TS :=
  (tSeq (tAsg (tC (.str " !\"#$&'()*+,-./0123456789:;<=>?@ABCDEFGHIJKLMNOPQRSTUVWXYZ[\\]^_`abcdefghijklmnopqrstuvwxyz{|}~")) (gName 1))
    (tSeq (tAsg (tCall (sp_law_mix K) [] E0 (tCons (tVar 0) (tCons (tC (.int 9941)) (tCons (tC (.int 9)) tNil)))) (gName 2))
    (tSeq (tIfS (tTest (tOp rEq (tCall (sp_law_mix K) [] E0 (tCons (tVar 0) (tCons (tC (.int 9931)) (tCons (tC (.int 7)) tNil)))) (tC (.int 0)))) (tAsg (tC (.int 99)) (gName 2)) tNext)
    (tSeq (tIfS (tTest (tOp rEq (tCall (sp_law_mix K) [] E0 (tCons (tVar 0) (tCons (tC (.int 9931)) (tCons (tC (.int 7)) tNil)))) (tC (.int 1)))) (tAsg (tCall (sp_law_mix K) [] E0 (tCons (tVar 0) (tCons (tC (.int 9929)) (tCons (tC (.int 100)) tNil)))) (gName 2)) tNext)
    (tRet (tM1 (rJoin K) (tC (.str "")) (tLc (iRng1 (tCons (tVar 2) tNil)) (gName 3) tYes (tOp rIxS (tVar 1) (tCall (sp_law_mix K) [] E0 (tCons (tOp (rI0 fun i j => .int (i + j)) (tVar 0) (tOp (rI CMul fun i j => .int (i * j)) (tC (.int 5)) (tVar 3))) (tCons (tC (.int 9923)) (tCons (tCB rLenStr (tCons (tVar 1) tNil)) tNil))))) [3])))))))
theorem data_end {K : PySem.W.Frag} {c n : Int} {B H : Hp} {Q : VK} (hn : n = dataLen c) (eb : Ex B H) (r : Ret (.str (lawData c)) B H Q) :
    tRet (tM1 (rJoin K) (tC (.str "")) (tLc (iRng1 (tCons (tVar 2) tNil)) (gName 3) tYes (tOp rIxS (tVar 1) (tCall (sp_law_mix K) [] E0 (tCons (tOp (rI0 fun i j => .int (i + j)) (tVar 0) (tOp (rI CMul fun i j => .int (i * j)) (tC (.int 5)) (tVar 3))) (tCons (tC (.int 9923)) (tCons (tCB rLenStr (tCons (tVar 1) tNil)) tNil))))) [3])) { nx := fun _ H' => Q .non H', rt := Q } [some (.int c), some (.str dataSigns), some (.int n), none] H := by
  subst hn
  have hl := dataLen_rng c
  refine s_ret (B := B) (d := .str (lawData c)) ?_ eb r
  unfold lawData
  rw [← join_signs]
  refine evd_join evd_cs ?_ (join_signs_ok (by rw [List.length_map, List.length_range]; omega))
  rw [List.map_map, List.map_map]
  refine evd_lcR _ (evs_cons (evd_varI rfl) evs_nil) ⟨by omega, by omega⟩ (fun x => rfl) fun i hi B1 H1 eb' eh' e' => ?_
  have hm := mix_rng (c := c + 5 * (i : Int)) (p := 9923) (m := 94) (by decide)
  have hz : dataSigns.length = 94 := dataSigns_len'
  refine evd_ixS (z := dataSigns) (evd_varS rfl) (i := mix (c + 5 * (i : Int)) 9923 94) ?_ (by decide +kernel) (atI_getD hm.1 (by rw [dataSigns_len]; omega))
  refine cev_law_mix (evd_I0 (evd_varI rfl) (evd_mul evd_ci (evd_varI rfl))) evd_ci (m := 94) ?_
  refine EvD.is (evd_lenS (z := dataSigns) (evd_varS rfl) (by rw [hz]; decide)) ?_
  rw [hz]; rfl
theorem pure_law_data {K : PySem.W.Frag}  {vs : List V} {H : Hp} {Q : VK} {E : XK} (h : sp_law_data K vs H Q E) : t_law_data K E { nx := fun _ H' => Q .non H', rt := Q } (start ["cell", "signs", "many", "k"] vs) H := by
  obtain ⟨B, c, eb, rfl, r⟩ := h
  refine q_asgS (B := B) (x := dataSigns) evd_cs eb fun H1 e1 eb1 => ?_
  refine q_asgI (B := B) (cev_law_mix (evd_varI rfl) evd_ci evd_ci) eb1 fun H2 e2 eb2 => ?_
  have r2 := (r.grow e1 (Ext.refl _ _)).grow e2 (Ext.refl _ _)
  refine q_when (B := B) (evb_test (evd_eqI (cev_law_mix (evd_varI rfl) evd_ci evd_ci) evd_ci)) eb2 (fun hb H3 e3 eb3 => ?_) (fun hb H3 e3 eb3 => ?_)
  · have hb' : mix c 9931 7 = 0 := of_decide_eq_true hb
    refine s_asgI (B := B) evd_ci eb3 fun H4 e4 eb4 => ?_
    refine q_when (B := B) (evb_test (evd_eqI (cev_law_mix (evd_varI rfl) evd_ci evd_ci) evd_ci)) eb4 (fun hc => ?_) (fun hc H5 e5 eb5 => ?_)
    · have hc' : mix c 9931 7 = 1 := of_decide_eq_true hc
      omega
    · exact data_end (by unfold dataLen; rw [if_neg (of_decide_eq_false hc), if_pos hb']) eb5 (((r2.grow e3 (Ext.refl _ _)).grow e4 (Ext.refl _ _)).grow e5 (Ext.refl _ _))
  · have hb' : ¬ mix c 9931 7 = 0 := of_decide_eq_false hb
    refine q_when (B := B) (evb_test (evd_eqI (cev_law_mix (evd_varI rfl) evd_ci evd_ci) evd_ci)) eb3 (fun hc H4 e4 eb4 => ?_) (fun hc H4 e4 eb4 => ?_)
    · have hc' : mix c 9931 7 = 1 := of_decide_eq_true hc
      refine s_asgI (B := B) (cev_law_mix (evd_varI rfl) evd_ci evd_ci) eb4 fun H5 e5 eb5 => ?_
      exact data_end (by unfold dataLen; rw [if_pos hc']) eb5 (((r2.grow e3 (Ext.refl _ _)).grow e4 (Ext.refl _ _)).grow e5 (Ext.refl _ _))
    · exact data_end (by unfold dataLen; rw [if_neg (of_decide_eq_false hc), if_neg hb']) eb4 ((r2.grow e3 (Ext.refl _ _)).grow e4 (Ext.refl _ _))
section
variable {K : PySem.W.Frag} {σ : Sig} {B H : Hp} {te ta tb tc : TE} {d : PyData} {E : XK}
theorem cev_law_data {c : Int} (ha : EvD ta σ B H (.int c)) : EvD (tCall (sp_law_data K) [] E (tCons ta tNil)) σ B H (.str (lawData c)) := evd_call (evs_cons ha evs_nil) fun H1 B1 vs _ _ eb hd Q q => by
  obtain ⟨v, rfl, hv⟩ := dpa1 hd
  cases hv
  exact ⟨B1, c, eb, rfl, q⟩
end
end GK

namespace GK
open PySem PySem.Spec PyProof.Rows L2
open Evl (Ex ex_l ex_t ex_rd sq_of st_of sz_of sz_lt fresh_back)
section
variable {K : PySem.W.Frag} {σ : Sig} {B H : Hp} {te ta tb tc : TE} {d d1 d2 d3 d4 : PyData} {E : XK}
/-! ### targets of several names -/
theorem tg2 {i j : Nat} {x : V} {B1 H1 : Hp} {R : Sig → Hp → Prop} (hx : Da B1 x (.tuple [d1, d2])) (e : Ex B1 H1) (k : ∀ v1 v2, Da B1 v1 d1 → Da B1 v2 d2 → R ((σ.set i (some v1)).set j (some v2)) H1) : gTup K 2 (gCons (gName i) (gCons (gName j) gNil)) x σ H1 R := by
  obtain ⟨a, xs, rfl, h, hs⟩ := dpt hx
  obtain ⟨v1, v2, rfl, h1, h2⟩ := dpa2 hs
  exact ⟨a, _, rfl, st_of (e _ _ h), rfl, v1, _, rfl, v2, _, rfl, rfl, k v1 v2 h1 h2⟩
theorem tg3 {i j k : Nat} {x : V} {B1 H1 : Hp} {R : Sig → Hp → Prop} (hx : Da B1 x (.tuple [d1, d2, d3])) (e : Ex B1 H1) (q : ∀ v1 v2 v3, Da B1 v1 d1 → Da B1 v2 d2 → Da B1 v3 d3 → R (((σ.set i (some v1)).set j (some v2)).set k (some v3)) H1) : gTup K 3 (gCons (gName i) (gCons (gName j) (gCons (gName k) gNil))) x σ H1 R := by
  obtain ⟨a, xs, rfl, h, hs⟩ := dpt hx
  obtain ⟨v1, v2, v3, rfl, h1, h2, h3⟩ := dpa3 hs
  exact ⟨a, _, rfl, st_of (e _ _ h), rfl, v1, _, rfl, v2, _, rfl, v3, _, rfl, rfl, q v1 v2 v3 h1 h2 h3⟩
theorem tg4 {i j k l : Nat} {x : V} {B1 H1 : Hp} {R : Sig → Hp → Prop} (hx : Da B1 x (.tuple [d1, d2, d3, d4])) (e : Ex B1 H1) (q : ∀ v1 v2 v3 v4, Da B1 v1 d1 → Da B1 v2 d2 → Da B1 v3 d3 → Da B1 v4 d4 → R ((((σ.set i (some v1)).set j (some v2)).set k (some v3)).set l (some v4)) H1) : gTup K 4 (gCons (gName i) (gCons (gName j) (gCons (gName k) (gCons (gName l) gNil)))) x σ H1 R := by
  obtain ⟨a, xs, rfl, h, hs⟩ := dpt hx
  obtain ⟨v1, v2, v3, v4, rfl, h1, h2, h3, h4⟩ := dpa4 hs
  exact ⟨a, _, rfl, st_of (e _ _ h), rfl, v1, _, rfl, v2, _, rfl, v3, _, rfl, v4, _, rfl, rfl, q v1 v2 v3 v4 h1 h2 h3 h4⟩
/-! ### zip of two tuples of one length -/
theorem walk_zipT {a b : Addr} {xs ys : List V} {n : Nat} (hn : n = min xs.length ys.length) : Walk (RZ.ItzT K a b) n (fun H => SqT K H a xs ∧ SqT K H b ys) (YPair (fun i => xs[i]?) (fun i => ys[i]?)) := by
  refine ⟨fun i H hi hg => ?_, fun H hg => ?_, fun i H x H' hi hg y => ?_⟩
  · exact ⟨xs, ys, xs[i]'(by omega), ys[i]'(by omega), hg.1, hg.2, List.getElem?_eq_getElem (by omega), List.getElem?_eq_getElem (by omega)⟩
  · refine ⟨xs, ys, hg.1, hg.2, ?_⟩
    by_cases c : xs.length ≤ ys.length
    · exact .inl (by omega)
    · exact .inr (by omega)
  · obtain ⟨T, x', y', rfl, hT, rfl, f1, f2⟩ := y
    exact ⟨T, x', y', rfl, hT, rfl, f1 _ hg.1, f2 _ hg.2⟩
theorem src_zip {tr : TA} {α : Type} {as : List α} (f g : α → PyData) (h : EvDs tr σ B H [.tuple (as.map f), .tuple (as.map g)]) : SrcD (RZ.iZipA K tr) σ B H (as.map fun a => .tuple [f a, g a]) := fun H1 e eb R q => h H1 e eb _ fun vs H2 B2 e2 x2 eb2 hd => by
  obtain ⟨v, u, rfl, hv, hu⟩ := dpa2 hd
  obtain ⟨a, xs, rfl, hs, hx⟩ := dpt hv
  obtain ⟨b, ys, rfl, hs', hy⟩ := dpt hu
  have lx := dpa_len hx
  have ly := dpa_len hy
  rw [List.length_map] at lx ly
  refine ⟨a, b, xs, ys, rfl, .inr ⟨st_of (eb2 _ _ hs), st_of (eb2 _ _ hs'), q _ H2 B2 e2 x2 eb2 ⟨fun H => SqT K H a xs ∧ SqT K H b ys, YPair (fun i => xs[i]?) (fun i => ys[i]?), ?_, fun H3 e3 => ⟨st_of (e3 _ _ hs), st_of (e3 _ _ hs')⟩, fun i x H3 H4 hi eb3 y => ?_⟩⟩⟩
  · exact walk_zipT (by rw [List.length_map, lx, ly]; omega)
  · obtain ⟨T, x', y', rfl, hT, rfl, f1, f2⟩ := y
    refine ⟨Ex.new hT, fun d hd => ?_⟩
    obtain ⟨d1, g1, k1⟩ := dpa_get hx f1
    obtain ⟨d2, g2, k2⟩ := dpa_get hy f2
    rw [List.getElem?_map] at hd g1 g2
    cases hz : as[i]? with
    | none => rw [hz] at hd; cases hd
    | some z =>
      rw [hz] at hd g1 g2
      cases hd
      cases g1
      cases g2
      exact ⟨upd B2 T (.tup [x', y']), Ext.new eb3 hT, ex_upd2 eb3, .tup upd_same (dpAll_ex (Ex.new (fresh_back eb3 hT)) _ _ (.cons k1 (.cons k2 .nil)))⟩
end
/-! ### _law_same -/
def shal : Nat → PyData → Prop
  | _, .list _ => False
  | _, .dict _ => False
  | 0, .tuple _ => False
  | n + 1, .tuple ds => ds.length ≤ 10000 ∧ ∀ d ∈ ds, shal n d
  | _, .none => True
  | _, .bool _ => True
  | _, .int _ => True
  | _, .str _ => True
theorem kb_bt : kitB "bool" "tuple" = some false := by decide +kernel
theorem kb_it : kitB "int" "tuple" = some false := by decide +kernel
theorem kb_st : kitB "str" "tuple" = some false := by decide +kernel
theorem kb_nt : kitB "NoneType" "tuple" = some false := by decide +kernel
theorem kb_tt : kitB "tuple" "tuple" = some true := by decide +kernel
theorem kb_bb : kitB "bool" "bool" = some true := by decide +kernel
theorem kb_ib : kitB "int" "bool" = some false := by decide +kernel
theorem kb_sb : kitB "str" "bool" = some false := by decide +kernel
def sp_law_same : Nat → PySem.W.Frag → Sp
  | 0, _ => fun _ _ _ _ => False
  | n + 1, _ => fun vs H Q _ => ∃ (B : Hp) (d : PyData) (v u : V), Ex B H ∧ vs = [v, u] ∧ Da B v d ∧ Da B u d ∧ shal n d ∧ Ret (.bool true) B H Q
theorem len_law_same {K : PySem.W.Frag} : ∀ {n : Nat} {vs : List V} {H : Hp} {Q : VK} {E : XK} (h : sp_law_same n K vs H Q E), vs.length = 2
  | 0, _, _, _, _, h => h.elim
  | n + 1, _, _, _, _, h => by obtain ⟨_, _, _, _, _, rfl, _⟩ := h; rfl
section
variable {K : PySem.W.Frag} {σ : Sig} {B H : Hp} {te ta tb tc : TE} {d : PyData} {E : XK}
theorem cev_law_same {n : Nat} (ha : EvD ta σ B H d) (hb : EvD tb σ B H d) (hs : shal n d := by first | trivial | with_reducible assumption) : EvD (tCall (sp_law_same (n + 1) K) [] E (tCons ta (tCons tb tNil))) σ B H (.bool true) := evd_call (evs_cons ha (evs_cons hb evs_nil)) fun H1 B1 vs _ _ eb hd Q q => by
  obtain ⟨v, u, rfl, hv, hu⟩ := dpa2 hd
  exact ⟨B1, d, v, u, eb, rfl, hv, hu, hs, q⟩
end
def t_law_same (n : Nat) (K : PySem.W.Frag) (E : XK) : TS :=
  (tSeq (tIfS (tB (tCB (rIsi K) (tCons (tVar 1) (tCons (tC (.ty "tuple")) tNil)))) (tSeq (tIfS (tOr (tNot (tB (tCB (rIsi K) (tCons (tVar 0) (tCons (tC (.ty "tuple")) tNil))))) (tTest (tOp rNe (tCB (rLenSeq K) (tCons (tVar 0) tNil)) (tCB (rLenSeq K) (tCons (tVar 1) tNil))))) (tRet (tC (.bl false))) tNext)
    (tRet (tCB (rAll K) (tCons (tLc (RZ.iZipA K (tCons (tVar 0) (tCons (tVar 1) tNil))) (gTup K 2 (gCons (gName 2) (gCons (gName 3) gNil))) tYes (tCall (sp_law_same n K) [] E0 (tCons (tVar 2) (tCons (tVar 3) tNil))) [2, 3]) tNil)))) tNext)
    (tSeq (tIfS (tTest (tOp rIsNone (tVar 1) (tC .non))) (tRet (tOp rIsNone (tVar 0) (tC .non))) tNext)
    (tSeq (tIfS (tOr (tB (tCB (rIsi K) (tCons (tVar 1) (tCons (tC (.ty "bool")) tNil)))) (tB (tCB (rIsi K) (tCons (tVar 0) (tCons (tC (.ty "bool")) tNil))))) (tRet (tAndV (tCB (rIsi K) (tCons (tVar 1) (tCons (tC (.ty "bool")) tNil))) (tAndV (tCB (rIsi K) (tCons (tVar 0) (tCons (tC (.ty "bool")) tNil))) (tOp rEq (tVar 0) (tVar 1))))) tNext)
    (tRet (tAndV (tCB (rIsiT K) (tCons (tVar 0) (tCons (tTup (tCons (tC (.ty "int")) (tCons (tC (.ty "str")) tNil))) tNil))) (tOp rEq (tVar 0) (tVar 1)))))))
theorem same_flat {K : PySem.W.Frag} {n : Nat} {v u : V} {d : PyData} {B H : Hp} {Q : VK} (eb : Ex B H) (hv : Da B v d) (hu : Da B u d) (r : Ret (.bool true) B H Q) (hd : kitB (tyName d) "tuple" = some false) (hn : isNone d = false) (b : Bool) (hb : kitB (tyName d) "bool" = some b)
    (hi : b = false → PySem.W.kitAny K (.type (tyName d)) [.type "int", .type "str"] = some true) (he : scal v u = true) (hw : ∀ B v, Da B v d → ∀ B u, Da B u d → v = u) : t_law_same n K (fun _ _ _ => False) { nx := fun _ H' => Q .non H', rt := Q } [some v, some u, none, none] H := by
  have ev : EvD (tOp rEq (tVar 0) (tVar 1)) [some v, some u, none, none] B H (.bool true) := fun H1 e eb1 Q q => ⟨v, rfl, u, rfl, he, by
    rw [decide_eq_true (hw _ _ hv _ _ hu)]
    exact q.at eb1 (.bl _)⟩
  refine q_pass (B := B) (evb_B (evd_isi (evd_var rfl hu) hd)) eb fun H1 e1 eb1 => ?_
  refine q_pass (B := B) (EvB.is (evb_test (evd_opIsN (evd_var rfl hu) evd_cn)) hn) eb1 fun H2 e2 eb2 => ?_
  have r2 := (r.grow e1 (Ext.refl _ _)).grow e2 (Ext.refl _ _)
  have h12 := e1.trans e2
  cases b with
  | true =>
    refine q_when (B := B) (b := true) (evb_or (b := true) (evb_B (evd_isi (evd_var rfl hu) hb)) fun z => nomatch z) eb2 (fun _ H3 e3 eb3 => ?_) (fun z => nomatch z)
    exact s_ret (B := B) (d := .bool true) (evd_and (evd_isi (evd_var rfl hu) hb) fun _ => evd_and (b := true) (evd_isi (evd_var rfl hv) hb) fun _ => ev.mono (Ex.refl _) (h12.trans e3)) eb3 (r2.grow e3 (Ext.refl _ _))
  | false =>
    refine q_pass (B := B) (evb_or (evb_B (evd_isi (evd_var rfl hu) hb)) fun _ => evb_B (evd_isi (evd_var rfl hv) hb)) eb2 fun H3 e3 eb3 => ?_
    exact s_ret (B := B) (d := .bool true) (evd_and (evd_isi2 (evd_var rfl hv) (hi rfl)) fun _ => ev.mono (Ex.refl _) (h12.trans e3)) eb3 (r2.grow e3 (Ext.refl _ _))
theorem kitA_int {K : PySem.W.Frag} : PySem.W.kitAny K (.type "int") [.type "int", .type "str"] = some true := kitAny_cons (b := true) (kit_ty (by decide +kernel)) (fun z => nomatch z) fun _ => rfl
theorem kitA_str {K : PySem.W.Frag} : PySem.W.kitAny K (.type "str") [.type "int", .type "str"] = some true := kitAny_cons (b := false) (kit_ty (by decide +kernel)) (fun _ => kitAny_cons (b := true) (kit_ty (by decide +kernel)) (fun z => nomatch z) fun _ => rfl) fun z => nomatch z
theorem pure_law_same {K : PySem.W.Frag} {n : Nat}  {vs : List V} {H : Hp} {Q : VK} {E : XK} (h : sp_law_same (n + 1) K vs H Q E) : t_law_same n K E { nx := fun _ H' => Q .non H', rt := Q } (start ["found", "due", "one", "other"] vs) H := by
  obtain ⟨B, d, v, u, eb, rfl, hv, hu, hs, r⟩ := h
  show t_law_same n K E _ [some v, some u, none, none] H
  cases d with
  | none =>
    refine q_pass (B := B) (evb_B (evd_isi (evd_var rfl hu) kb_nt)) eb fun H1 e1 eb1 => ?_
    refine q_when (B := B) (b := true) (evb_test (evd_opIsN (evd_var rfl hu) evd_cn)) eb1 (fun _ H2 e2 eb2 => ?_) (fun z => nomatch z)
    exact s_ret (B := B) (d := .bool true) (evd_opIsN (evd_var rfl hv) evd_cn) eb2 ((r.grow e1 (Ext.refl _ _)).grow e2 (Ext.refl _ _))
  | bool b => exact same_flat eb hv hu r kb_bt rfl true kb_bb (fun z => nomatch z) (by cases hv; cases hu; rfl) (fun _ _ h _ _ h' => by cases h; cases h'; rfl)
  | int b => exact same_flat eb hv hu r kb_it rfl false kb_ib (fun _ => kitA_int) (by cases hv; cases hu; rfl) (fun _ _ h _ _ h' => by cases h; cases h'; rfl)
  | str b => exact same_flat eb hv hu r kb_st rfl false kb_sb (fun _ => kitA_str) (by cases hv; cases hu; rfl) (fun _ _ h _ _ h' => by cases h; cases h'; rfl)
  | list ds => cases n <;> exact hs.elim
  | dict ds => cases n <;> exact hs.elim
  | tuple ds =>
    cases n with
    | zero => exact hs.elim
    | succ n =>
      refine q_when (B := B) (b := true) (evb_B (evd_isi (evd_var rfl hu) kb_tt)) eb (fun _ H1 e1 eb1 => ?_) (fun z => nomatch z)
      refine q_pass (B := B) (EvB.is (evb_or (evb_not (evb_B (evd_isi (b := true) (evd_var rfl hv) kb_tt))) fun _ => evb_test (evd_neI (evd_lenT (evd_var rfl hv)) (evd_lenT (evd_var rfl hu)))) (by simp)) eb1 fun H2 e2 eb2 => ?_
      refine s_ret (B := B) (d := .bool true) ?_ eb2 ((r.grow e1 (Ext.refl _ _)).grow e2 (Ext.refl _ _))
      refine EvD.is (evd_all (bs := ds.map fun _ => true) ?_) (by simp)
      have hl : ds.length ≤ 40000 := Nat.le_trans hs.1 (by decide)
      · have hz : EvDs (tCons (tVar 0) (tCons (tVar 1) tNil)) [some v, some u, none, none] B H2 [.tuple (ds.map id), .tuple (ds.map id)] := by
          rw [List.map_id]
          exact evs_cons (evd_var rfl hv) (evs_cons (evd_var rfl hu) evs_nil)
        refine EvD.is (evd_lc (fun d => .tuple [d, d]) (fun _ => true) (fun _ => .bool true) (src_zip id id hz) hl fun d hd x B1 H3 eb' eh' e' hx R k => tg2 hx e' fun v1 v2 h1 h2 => k _ rfl evb_yes fun _ => ?_) ?_
        · exact cev_law_same (evd_var rfl h1) (evd_var rfl h2) (hs.2 d hd)
        · rw [List.filter_eq_self.mpr (fun _ _ => rfl), List.map_map]; rfl
end GK

namespace GK
open PySem PySem.Spec PyProof.Rows L2
open Evl (Ex ex_l ex_t ex_rd sq_of st_of sz_of sz_lt fresh_back)
/-! ### numbers as texts of six figures -/
theorem tl_num (n : Nat) : tl (Str.ofString (toString ((n : Nat) : Int))) = TL.numL n := TL.tl_num n
theorem toStr_nat {n : Int} (h : 0 ≤ n) : (Str.ofString (toString n)) = Str.ofString (toString ((n.toNat : Nat) : Int)) := by rw [Int.toNat_of_nonneg h]
def six (n : Nat) : List Nat := List.replicate (6 - (TL.numL n).length) 48 ++ TL.numL n
theorem six_len {n : Nat} (h : n < 1000000) : (six n).length = 6 := by
  have := TL.numL_len (n := n) (k := 6) (by decide) h
  unfold six
  rw [List.length_append, List.length_replicate]; omega
theorem zfill_six {n : Nat} (h : n < 1000000) : tl (Txt.zfill (Str.ofString (toString ((n : Nat) : Int))) 6) = six n := by
  have hl := TL.numL_len (n := n) (k := 6) (by decide) h
  have he := tl_num n
  have hlen : (Str.ofString (toString ((n : Nat) : Int))).length = (TL.numL n).length := by rw [len_tl, he]
  unfold Txt.zfill
  rw [hlen]
  by_cases c : (6 : Int) ≤ ((TL.numL n).length : Int)
  · rw [if_pos c, he]
    unfold six
    rw [show 6 - (TL.numL n).length = 0 by omega]
    rfl
  · rw [if_neg c]
    unfold PySem.zfilled
    have h0 : ∀ c, (Str.ofString (toString ((n : Nat) : Int))).cps[0]? = some c → 48 ≤ c ∧ c ≤ 57 := fun c hc => by
      rw [← Array.getElem?_toList] at hc
      have hm : c ∈ TL.numL n := by rw [← he]; exact List.mem_of_getElem? hc
      have := TL.numL_digits n c hm
      omega
    split
    · rename_i hh; have := h0 _ hh; omega
    · rename_i hh; have := h0 _ hh; omega
    · unfold Builtin.Str.padded six
      show ((Array.replicate _ 48 ++ (Str.ofString (toString ((n : Nat) : Int))).cps ++ Array.replicate 0 48).toList) = _
      simp only [Array.toList_append, Array.toList_replicate, List.replicate_zero, List.append_nil]
      rw [show (Str.ofString (toString ((n : Nat) : Int))).cps.toList = TL.numL n from he]
      rfl
theorem sIx_neg {n d : Nat} {v : Int} (h : v < 0) : HT.sIx n d (some v) = (v + (n : Int)).toNat := if_pos h
theorem sIx_pos {n d : Nat} {v : Int} (h : ¬ v < 0) : HT.sIx n d (some v) = min v.toNat n := if_neg h
theorem sIx_none {n d : Nat} : HT.sIx n d none = d := rfl
theorem zeros_tl : tl ("00000" : Str) = List.replicate 5 48 := by decide +kernel
theorem cut_six {n : Nat} (h : n < 1000000) : tl (cutS (("00000" : Str) ++ Str.ofString (toString ((n : Nat) : Int))) (some (-6)) none) = six n := by
  have hl := TL.numL_len (n := n) (k := 6) (by decide) h
  have hn := List.length_pos_iff.mpr (TL.numL_ne n)
  have he := tl_num n
  have ht : tl (("00000" : Str) ++ Str.ofString (toString ((n : Nat) : Int))) = List.replicate 5 48 ++ TL.numL n := by rw [tl_app, zeros_tl, he]
  have hlen : (("00000" : Str) ++ Str.ofString (toString ((n : Nat) : Int))).length = 5 + (TL.numL n).length := by rw [len_tl, ht, List.length_append, List.length_replicate]
  rw [tl_cut, ht, hlen, sIx_neg (by decide), sIx_none]
  have hd : ((-6 : Int) + ((5 + (TL.numL n).length : Nat) : Int)).toNat = (TL.numL n).length - 1 := by omega
  rw [hd, List.take_of_length_le (by rw [List.length_drop, List.length_append, List.length_replicate]; omega)]
  rw [List.drop_append_of_le_length (by rw [List.length_replicate]; omega), List.drop_replicate]
  unfold six
  rw [show 5 - ((TL.numL n).length - 1) = 6 - (TL.numL n).length by omega]
theorem sumT_tl (x : Str) : tl (sumT x) = six (sumN (tl x)).toNat := by
  have h := sumN_rng (tl x)
  unfold sumT
  rw [toStr_nat h.1]
  exact zfill_six (by omega)
theorem sumT_len (x : Str) : (sumT x).length = 6 := by
  have h := sumN_rng (tl x)
  rw [len_tl, sumT_tl, six_len (by omega)]
theorem sumT_cut (x : Str) : cutS (("00000" : Str) ++ Str.ofString (toString (sumN (tl x)))) (some (-6)) none = sumT x := by
  have h := sumN_rng (tl x)
  apply str_ext
  rw [sumT_tl, toStr_nat h.1]
  exact cut_six (by omega)
theorem sumN_take {l : List Nat} {i : Nat} {c : Nat} (h : l[i]? = some c) : sumN (l.take (i + 1)) = sumStep (sumN (l.take i)) c := by
  unfold sumN
  rw [lc_take h, List.foldl_append]
  rfl
theorem signs_at {x : Str} {i : Nat} {d : PyData} (h : (signsD x)[i]? = some d) : ∃ c, (tl x)[i]? = some c ∧ d = .str (sign c) := by
  unfold signsD at h
  rw [List.getElem?_map] at h
  cases e : x.cps.toList[i]? with
  | none => rw [e] at h; cases h
  | some c => rw [e] at h; exact ⟨c, rfl, (Option.some.inj h).symm⟩
theorem signsD_len (x : Str) : (signsD x).length = (tl x).length := by simp [signsD, tl]
def sp_sum_of (K : PySem.W.Frag) : Sp := fun vs H Q _ => ∃ (B : Hp) (x : Str), Ex B H ∧ vs = [.str x] ∧ Ret (.str (sumT x)) B H Q
theorem len_sum_of {K : PySem.W.Frag} {vs : List V} {H : Hp} {Q : VK} {E : XK} (h : sp_sum_of K vs H Q E) : vs.length = 1 := by
  obtain ⟨_, _, _, rfl, _⟩ := h; rfl
def t_sum_of (K : PySem.W.Frag) (E : XK) : TS :=
  (tSeq (tAsg (tC (.int 0)) (gName 1))
    (tSeq (tFor (iStr (tVar 0)) (gName 2) (tAsg (tOp (rI (fun _ j => 0 < j) fun i j => .int (i % j)) (tOp (rI0 fun i j => .int (i - j)) (tOp (rI0 fun i j => .int (i + j)) (tOp (rI CMul fun i j => .int (i * j)) (tC (.int 31)) (tVar 1)) (tCB rOrd1 (tCons (tVar 2) tNil))) (tC (.int 32))) (tC (.int 999983))) (gName 1)))
    (tRet (tM1 rZfill (tCB rStrInt (tCons (tVar 1) tNil)) (tC (.int 6))))))
theorem pure_sum_of {K : PySem.W.Frag}  {vs : List V} {H : Hp} {Q : VK} {E : XK} (h : sp_sum_of K vs H Q E) : t_sum_of K E { nx := fun _ H' => Q .non H', rt := Q } (start ["data", "found", "sign"] vs) H := by
  obtain ⟨B, x, eb, rfl, r⟩ := h
  refine q_asgI (B := B) evd_ci eb fun H1 e1 eb1 => ?_
  refine q_for (B := B) (src_str (evd_varS rfl)) eb1 (fun B1 i σ1 H1 => ∃ s : Option V, σ1 = [some (.str x), some (.int (sumN ((tl x).take i))), s] ∧ Ex B1 H1 ∧ Ret (.str (sumT x)) B1 H1 Q)
    (fun H2 B2 e2 x2 eb2 => ⟨none, rfl, eb2, (r.grow e1 (Ext.refl _ _)).grow e2 x2⟩) (fun _ _ _ _ _ ⟨_, _, h, _⟩ => h) ?_ ?_
  · rintro B1 i d v σ1 H2 H3 B3 eB hd ⟨s, rfl, eb2, r2⟩ e3 x3 eb3 hv
    obtain ⟨c, hc, rfl⟩ := signs_at hd
    cases hv
    refine s_asgI (B := B1) (n := sumN ((tl x).take (i + 1))) ?_ (eb2.trans e3) fun H4 e4 eb4 => ⟨_, rfl, eb4, (r2.grow e3 (Ext.refl _ _)).grow e4 (Ext.refl _ _)⟩
    rw [sumN_take hc]
    exact (evd_mod (evd_I0 (evd_I0 (evd_mul evd_ci (evd_varI rfl)) (evd_ord (evd_varS rfl))) evd_ci) evd_ci)
  · rintro B1 σ1 H2 eB ⟨s, rfl, eb2, r2⟩
    rw [signsD_len, List.take_length]
    have h := sumN_rng (tl x)
    exact s_ret (B := B1) (evd_zfill (evd_strI (evd_varI rfl)) evd_ci) eb2 r2
section
variable {K : PySem.W.Frag} {σ : Sig} {B H : Hp} {te ta tb tc : TE} {d : PyData} {E : XK}
theorem cev_sum_of {x : Str} (ha : EvD ta σ B H (.str x)) : EvD (tCall (sp_sum_of K) [] E (tCons ta tNil)) σ B H (.str (sumT x)) := evd_call (evs_cons ha evs_nil) fun H1 B1 vs _ _ eb hd Q q => by
  obtain ⟨v, rfl, hv⟩ := dpa1 hd
  cases hv
  exact ⟨B1, x, eb, rfl, q⟩
end
def sp_law_sum (K : PySem.W.Frag) : Sp := sp_sum_of K
theorem len_law_sum {K : PySem.W.Frag} {vs : List V} {H : Hp} {Q : VK} {E : XK} (h : sp_law_sum K vs H Q E) : vs.length = 1 := len_sum_of (E := E) h
theorem blank_sign : (" " : Str) = sign 32 := by decide +kernel
def t_law_sum (K : PySem.W.Frag) (E : XK) : TS :=
  (tSeq (tAsg (tC (.int 0)) (gName 1))
    (tSeq (tFor (iStr (tVar 0)) (gName 2) (tAsg (tOp (rI (fun _ j => 0 < j) fun i j => .int (i % j)) (tOp (rI0 fun i j => .int (i - j)) (tOp (rI0 fun i j => .int (i + j)) (tOp (rI CMul fun i j => .int (i * j)) (tVar 1) (tC (.int 31))) (tCB rOrd1 (tCons (tVar 2) tNil))) (tCB rOrd1 (tCons (tC (.str " ")) tNil))) (tC (.int 999983))) (gName 1)))
    (tRet (tSl rSlS (tOp rAddStr (tC (.str "00000")) (tCB rStrInt (tCons (tVar 1) tNil))) (tPart (tUn (rU fun i => .int (-i)) (tC (.int 6)))) tNoPart))))
theorem pure_law_sum {K : PySem.W.Frag}  {vs : List V} {H : Hp} {Q : VK} {E : XK} (h : sp_law_sum K vs H Q E) : t_law_sum K E { nx := fun _ H' => Q .non H', rt := Q } (start ["data", "found", "sign"] vs) H := by
  obtain ⟨B, x, eb, rfl, r⟩ := h
  refine q_asgI (B := B) evd_ci eb fun H1 e1 eb1 => ?_
  refine q_for (B := B) (src_str (evd_varS rfl)) eb1 (fun B1 i σ1 H1 => ∃ s : Option V, σ1 = [some (.str x), some (.int (sumN ((tl x).take i))), s] ∧ Ex B1 H1 ∧ Ret (.str (sumT x)) B1 H1 Q)
    (fun H2 B2 e2 x2 eb2 => ⟨none, rfl, eb2, (r.grow e1 (Ext.refl _ _)).grow e2 x2⟩) (fun _ _ _ _ _ ⟨_, _, h, _⟩ => h) ?_ ?_
  · rintro B1 i d v σ1 H2 H3 B3 eB hd ⟨s, rfl, eb2, r2⟩ e3 x3 eb3 hv
    obtain ⟨c, hc, rfl⟩ := signs_at hd
    cases hv
    refine s_asgI (B := B1) (n := sumN ((tl x).take (i + 1))) ?_ (eb2.trans e3) fun H4 e4 eb4 => ⟨_, rfl, eb4, (r2.grow e3 (Ext.refl _ _)).grow e4 (Ext.refl _ _)⟩
    rw [sumN_take hc]
    unfold sumStep
    rw [show 31 * sumN ((tl x).take i) + (c : Int) - 32 = sumN ((tl x).take i) * 31 + (c : Int) - ((32 : Nat) : Int) by rw [Int.mul_comm]; rfl]
    refine evd_mod (evd_I0 (g := fun i j => i - j) (evd_I0 (evd_mul (evd_varI rfl) evd_ci) (evd_ord (evd_varS rfl))) (evd_ord (c := 32) ?_)) evd_ci
    rw [← blank_sign]
    exact evd_cs
  · rintro B1 σ1 H2 eB ⟨s, rfl, eb2, r2⟩
    rw [signsD_len, List.take_length]
    have h := sumN_rng (tl x)
    rw [← sumT_cut] at r2
    have hl : (("00000" : Str) ++ Str.ofString (toString (sumN (tl x)))).length ≤ 100000 := by
      rw [len_tl, tl_app, zeros_tl, toStr_nat h.1, tl_num, List.length_append, List.length_replicate]
      have := TL.numL_len (n := (sumN (tl x)).toNat) (k := 6) (by decide) (by omega)
      omega
    have hl2 : ("00000" : Str).length + (Str.ofString (toString (sumN (tl x)))).length ≤ 100000 := by
      rw [len_tl, len_tl, zeros_tl, toStr_nat h.1, tl_num, List.length_replicate]
      have := TL.numL_len (n := (sumN (tl x)).toNat) (k := 6) (by decide) (by omega)
      omega
    exact s_ret (B := B1) (evd_slS (evd_addS evd_cs (evd_strI (evd_varI rfl)) hl2) (evo_some (evd_un evd_ci)) evo_none hl) eb2 r2
section
variable {K : PySem.W.Frag} {σ : Sig} {B H : Hp} {te ta tb tc : TE} {d : PyData} {E : XK}
theorem cev_law_sum {x : Str} (ha : EvD ta σ B H (.str x)) : EvD (tCall (sp_law_sum K) [] E (tCons ta tNil)) σ B H (.str (sumT x)) := cev_sum_of (K := K) (E := E) ha
end
/-! ### sums of parts -/
def sp_sum_of_parts (K : PySem.W.Frag) : Sp := fun vs H Q _ => ∃ (B : Hp) (v : V) (xs : List Str), Ex B H ∧ vs = [v] ∧ Da B v (.tuple (xs.map .str)) ∧ xs.length ≤ 1000 ∧ (∀ x ∈ xs, x.length ≤ 100) ∧ Ret (.str (sumsT xs)) B H Q
theorem len_sum_of_parts {K : PySem.W.Frag} {vs : List V} {H : Hp} {Q : VK} {E : XK} (h : sp_sum_of_parts K vs H Q E) : vs.length = 1 := by
  obtain ⟨_, _, _, _, rfl, _⟩ := h; rfl
theorem sum_le {xs : List Str} {n : Nat} (h : ∀ x ∈ xs, x.length ≤ n) : (xs.map (·.length)).sum ≤ xs.length * n := by
  induction xs with
  | nil => simp
  | cons a r ih =>
    have h1 := h a (by simp)
    have h2 := ih fun x hx => h x (by simp [hx])
    rw [List.map_cons, List.sum_cons, List.length_cons, Nat.succ_mul]
    omega
theorem join_ok {xs : List Str} (hl : xs.length ≤ 1000) (h : ∀ x ∈ xs, x.length ≤ 100) : (xs.map (·.length)).sum + xs.length * ("" : Str).length ≤ 16777216 := by
  have := sum_le h
  show _ + _ * 0 ≤ _
  have h2 : xs.length * 100 ≤ 1000 * 100 := Nat.mul_le_mul_right _ hl
  omega
theorem parts_ends {xs : List Str} (hl : xs.length ≤ 1000) : (sumT (Txt.join "" xs)).length + ("-" : Str).length ≤ 100000 ∧ (sumT (Txt.join "" xs) ++ ("-" : Str)).length + (Str.ofString (toString (xs.length : Int))).length ≤ 100000 := by
  have h1 := sumT_len (Txt.join "" xs)
  have h2 : ("-" : Str).length = 1 := by decide +kernel
  have h3 : (Str.ofString (toString (xs.length : Int))).length ≤ 4 := by
    rw [len_tl, tl_num]
    exact TL.numL_len (by decide) (by omega)
  constructor
  · omega
  · rw [len_tl, tl_app, List.length_append, ← len_tl, ← len_tl]
    omega
def t_sum_of_parts (K : PySem.W.Frag) (E : XK) : TS :=
  (tRet (tOp rAddStr (tOp rAddStr (tCall (sp_sum_of K) [] E0 (tCons (tM1 (rJoin K) (tC (.str "")) (tVar 0)) tNil)) (tC (.str "-"))) (tCB rStrInt (tCons (tCB (rLenSeq K) (tCons (tVar 0) tNil)) tNil))))
theorem pure_sum_of_parts {K : PySem.W.Frag}  {vs : List V} {H : Hp} {Q : VK} {E : XK} (h : sp_sum_of_parts K vs H Q E) : t_sum_of_parts K E { nx := fun _ H' => Q .non H', rt := Q } (start ["sums"] vs) H := by
  obtain ⟨B, v, xs, eb, rfl, hv, hl, hx, r⟩ := h
  have he := parts_ends hl
  refine s_ret (B := B) (evd_addS (evd_addS (cev_sum_of (evd_joinT evd_cs (evd_var rfl (by assumption)) (join_ok hl hx))) evd_cs he.1) (EvD.is (evd_strI (n := (xs.length : Int)) (EvD.is (evd_lenT (evd_var rfl (by assumption))) (by rw [List.length_map]))) rfl) he.2) eb r
section
variable {K : PySem.W.Frag} {σ : Sig} {B H : Hp} {te ta tb tc : TE} {d : PyData} {E : XK}
theorem cev_sum_of_parts {xs : List Str} (ha : EvD ta σ B H (.tuple (xs.map .str))) (hl : xs.length ≤ 1000) (hx : ∀ x ∈ xs, x.length ≤ 100) : EvD (tCall (sp_sum_of_parts K) [] E (tCons ta tNil)) σ B H (.str (sumsT xs)) := evd_call (evs_cons ha evs_nil) fun H1 B1 vs _ _ eb hd Q q => by
  obtain ⟨v, rfl, hv⟩ := dpa1 hd
  exact ⟨B1, v, xs, eb, rfl, hv, hl, hx, q⟩
end
end GK

namespace GK
open PySem PySem.Spec PyProof.Rows L2
open Evl (Ex ex_l ex_t ex_rd sq_of st_of sz_of sz_lt fresh_back)
section
variable {K : PySem.W.Frag} {σ : Sig} {B H : Hp} {te ta tb tc : TE} {d d1 d2 d3 d4 : PyData} {E : XK}
mutual
theorem da_dp : ∀ (d : PyData) (v : V), Da B v d → Dp K B v d
  | .none, _, h => by cases h; exact .non
  | .bool b, _, h => by cases h; exact .bl b
  | .int i, _, h => by cases h; exact .int i
  | .str x, _, h => by cases h; exact .str x
  | .list ds, _, h => by
    cases h with
    | lst h ha => exact .lst (sq_of h) (daAll_dp ds _ ha)
  | .tuple ds, _, h => by
    cases h with
    | tup h ha => exact .tup (st_of h) (daAll_dp ds _ ha)
  | .dict _, _, h => by cases h
theorem daAll_dp : ∀ (ds : List PyData) (vs : List V), DaAll B vs ds → DpAll K B vs ds
  | [], _, h => by cases h; exact .nil
  | d :: ds, _, h => by
    cases h with
    | cons h t => exact .cons (da_dp d _ h) (daAll_dp ds _ t)
end
theorem evd_eqD (ha : EvD ta σ B H d1) (hb : EvD tb σ B H d2) (h1 : SeqAt.shaped d1 = true) (h2 : SeqAt.shaped d2 = true) : EvD (tOp (rEqD K) ta tb) σ B H (.bool (PyData.eqv d1 d2)) := fun H1 e eb Q q => ha H1 e eb _ fun v H2 B2 e2 x2 eb2 hv =>
  hb.mono x2.1 (e.trans e2) H2 (Ex.refl _) eb2 _ fun u H3 B3 e3 x3 eb3 hu =>
    ⟨d1, d2, da_dp _ _ (hv.ex' (x3.1.trans eb3)), da_dp _ _ (hu.ex' eb3), h1, h2, q _ H3 B3 (e2.trans e3) (x2.trans e2 x3) eb3 (.bl _)⟩
theorem evd_neD (ha : EvD ta σ B H d1) (hb : EvD tb σ B H d2) (h1 : SeqAt.shaped d1 = true) (h2 : SeqAt.shaped d2 = true) : EvD (tOp (rNeD K) ta tb) σ B H (.bool (!PyData.eqv d1 d2)) := fun H1 e eb Q q => ha H1 e eb _ fun v H2 B2 e2 x2 eb2 hv =>
  hb.mono x2.1 (e.trans e2) H2 (Ex.refl _) eb2 _ fun u H3 B3 e3 x3 eb3 hu =>
    ⟨d1, d2, da_dp _ _ (hv.ex' (x3.1.trans eb3)), da_dp _ _ (hu.ex' eb3), h1, h2, q _ H3 B3 (e2.trans e3) (x2.trans e2 x3) eb3 (.bl _)⟩
end
/-! ### plain signs -/
def asc (x : Str) : Prop := ∀ c ∈ tl x, c < 1114112
theorem asc_ok {x : Str} (h : asc x) : PyData.strOk x = true := by
  unfold PyData.strOk
  rw [Array.all_eq_true']
  intro c hc
  exact decide_eq_true (h c (by simpa [tl] using hc))
theorem asc_app {x y : Str} (h : asc x) (h' : asc y) : asc (x ++ y) := fun c hc => by
  rw [tl_app] at hc
  rcases List.mem_append.mp hc with q | q
  · exact h c q
  · exact h' c q
theorem asc_cut {x : Str} (h : asc x) (lo hi : Option Int) : asc (cutS x lo hi) := fun c hc => by
  rw [tl_cut] at hc
  exact h c (List.mem_of_mem_drop (List.mem_of_mem_take hc))
theorem asc_sign {c : Nat} (h : c < 1114112) : asc (sign c) := fun z hz => by
  rw [tl_sign] at hz
  rw [List.mem_singleton.mp hz]; exact h
theorem key_small : ∀ c ∈ tl keySigns, c < 1114112 := by decide +kernel
theorem data_small : ∀ c ∈ tl dataSigns, c < 1114112 := by decide +kernel
theorem asc_key (c : Int) : asc (lawKey c) := fun z hz => key_small z (lawKey_signs c z hz)
theorem asc_data (c : Int) : asc (lawData c) := fun z hz => data_small z (lawData_signs c z hz)
theorem canLayAll_map {α : Type} {l : List α} {f : α → PyData} (h : ∀ a ∈ l, (f a).canLay0 = true) : PyData.canLayAll0 (l.map f) = true := by
  induction l with
  | nil => rfl
  | cons a r ih =>
    show ((f a).canLay0 && PyData.canLayAll0 (r.map f)) = true
    rw [h a (by simp), ih fun b hb => h b (by simp [hb])]; rfl
theorem depthAll_map {α : Type} {l : List α} {f : α → PyData} {n : Nat} (h : ∀ a ∈ l, (f a).depth ≤ n) : PyData.depthAll (l.map f) ≤ n := by
  induction l with
  | nil => exact Nat.zero_le _
  | cons a r ih =>
    show max (f a).depth (PyData.depthAll (r.map f)) ≤ n
    have h1 := h a (by simp)
    have h2 := ih fun b hb => h b (by simp [hb])
    omega
theorem shaped_list {α : Type} {l : List α} {f : α → PyData} {n : Nat} (hn : n < 60) (h : ∀ a ∈ l, (f a).canLay0 = true ∧ (f a).depth ≤ n) : SeqAt.shaped (.list (l.map f)) = true := by
  unfold SeqAt.shaped
  have h1 : PyData.canLay0 (.list (l.map f)) = true := canLayAll_map fun a ha => (h a ha).1
  have h2 := depthAll_map (fun a ha => (h a ha).2)
  have h3 : (PyData.list (l.map f)).depth ≤ 64 := by show PyData.depthAll (l.map f) + 1 ≤ 64; omega
  rw [h1, decide_eq_true h3]; rfl
theorem shaped_tuple {α : Type} {l : List α} {f : α → PyData} {n : Nat} (hn : n < 60) (h : ∀ a ∈ l, (f a).canLay0 = true ∧ (f a).depth ≤ n) : SeqAt.shaped (.tuple (l.map f)) = true := by
  unfold SeqAt.shaped
  have h1 : PyData.canLay0 (.tuple (l.map f)) = true := canLayAll_map fun a ha => (h a ha).1
  have h2 := depthAll_map (fun a ha => (h a ha).2)
  have h3 : (PyData.tuple (l.map f)).depth ≤ 64 := by show PyData.depthAll (l.map f) + 1 ≤ 64; omega
  rw [h1, decide_eq_true h3]; rfl
theorem shaped_strs {l : List Str} (h : ∀ x ∈ l, asc x) : SeqAt.shaped (.list (l.map .str)) = true := shaped_list (n := 0) (by decide) fun x hx => ⟨asc_ok (h x hx), Nat.le_refl _⟩
theorem shaped_nil : SeqAt.shaped (.list []) = true := by decide +kernel
theorem shaped_nilT : SeqAt.shaped (.tuple []) = true := by decide +kernel
theorem eqv_nil {α : Type} {l : List α} {f : α → PyData} : PyData.eqv (.list (l.map f)) (.list []) = l.isEmpty := by
  cases l <;> rfl
theorem eqv_nilT {α : Type} {l : List α} {f : α → PyData} : PyData.eqv (.tuple (l.map f)) (.tuple []) = l.isEmpty := by
  cases l <;> rfl
end GK

namespace GK
open PySem PySem.Spec PyProof.Rows L2
open Evl (Ex ex_l ex_t ex_rd sq_of st_of sz_of sz_lt fresh_back)
theorem cut_len (z : Str) (lo hi : Option Int) : (cutS z lo hi).length ≤ z.length := by
  rw [len_tl, tl_cut, List.length_take, List.length_drop, ← len_tl]
  omega
theorem app_len (x y : Str) : (x ++ y).length = x.length + y.length := by rw [len_tl, tl_app, List.length_append, ← len_tl, ← len_tl]
theorem range_at {n i : Nat} {d : PyData} (h : (rangeD 0 n)[i]? = some d) : i < n ∧ d = .int (i : Int) := by
  unfold rangeD at h
  rw [List.getElem?_map] at h
  rcases Nat.lt_or_ge i n with c | c
  · rw [List.getElem?_range c] at h
    exact ⟨c, by rw [← Option.some.inj h]; show PyData.int (0 + (i : Int)) = _; rw [Int.zero_add]⟩
  · rw [List.getElem?_eq_none (by rw [List.length_range]; exact c)] at h; cases h
/-! ### the law's own promise -/
def sp_thelaw (K : PySem.W.Frag) : Sp := fun vs H Q _ => ∃ (a : Addr) (ns : List Int), vs = [.ref a] ∧ SqL K H a (ns.map V.int) ∧ ns.length ≤ 63 ∧ ∀ H', Q (.bl true) H'
theorem len_thelaw {K : PySem.W.Frag} {vs : List V} {H : Hp} {Q : VK} {E : XK} (h : sp_thelaw K vs H Q E) : vs.length = 1 := by
  obtain ⟨_, _, rfl, _⟩ := h; rfl
theorem retTrue {B H : Hp} {Q : VK} (k : ∀ H', Q (.bl true) H') : Ret (.bool true) B H Q := Ret.flat (fun _ _ => dpb) fun H' _ => k H'
/-- a changing list, taken into the frame as it stands -/
theorem up_lst {B H : Hp} {p : Addr} {xs : List V} {ds : List PyData} (eb : Ex B H) (bp : B p = none) (h : H p = some (.lst xs)) (hd : DaAll B xs ds) : Ex B (upd B p (.lst xs)) ∧ Ex (upd B p (.lst xs)) H ∧ Da (upd B p (.lst xs)) (.ref p) (.list ds) :=
  ⟨Ex.new bp, fun a o e => by
    by_cases c : a = p
    · subst c; rw [upd_same] at e; cases e; exact h
    · rw [upd_ne c] at e; exact eb a o e, .lst upd_same (dpAll_ex (Ex.new bp) _ _ hd)⟩
end GK

namespace GK
open PySem PySem.Spec PyProof.Rows L2
open Evl (Ex ex_l ex_t ex_rd sq_of st_of sz_of sz_lt fresh_back)
/-! ### the first place of a sign -/
theorem occ_done (s sub : Str) (hi : Nat) : ∀ (l : List Nat) (st : Array Nat × Nat), ¬ st.fst.size < 1 → (forIn l st (StrLaws.occBody s sub hi 1)).run = st
  | [], st, _ => rfl
  | a :: l, st, h => by
    rw [List.forIn_cons]
    unfold StrLaws.occBody
    rw [if_neg (fun z => h z.1.1.1)]
    exact occ_done s sub hi l st h
theorem tw_imp {p : Nat → Bool} {l : List Nat} {a : Nat} (h : a ∈ l.takeWhile p) : p a = true := List.all_eq_true.mp (List.all_takeWhile (p := p) (l := l)) a h
theorem sub1 (x : Str) (c i : Nat) : Builtin.Str.subAt x ⟨#[c]⟩ i = (((tl x).drop i).take 1 == [c]) := StrLaws.subAt_eq _ _ _
theorem occ_go (x : Str) (c lo : Nat) : ∀ (m k : Nat), k + m = x.length + 1 → lo ≤ k →
    (forIn (List.range' k m) ((#[] : Array Nat), lo) (StrLaws.occBody x ⟨#[c]⟩ x.length 1)).run.fst.toList = if c ∈ (tl x).drop k then [k + (((tl x).drop k).takeWhile (· != c)).length] else []
  | 0, k, hk, _ => by
    rw [List.drop_eq_nil_of_le (by rw [← len_tl]; omega)]; rfl
  | m + 1, k, hk, hlo => by
    rw [List.range'_succ, List.forIn_cons]
    have hl1 : (⟨#[c]⟩ : Str).length = 1 := rfl
    by_cases hc : ((tl x).drop k).head? = some c
    · cases hd : (tl x).drop k with
      | nil => rw [hd] at hc; cases hc
      | cons a r =>
        rw [hd] at hc
        have ha : a = c := by simpa using hc
        subst ha
        have hlen : k < x.length := by
          rw [len_tl]
          rcases Nat.lt_or_ge k (tl x).length with z | z
          · exact z
          · rw [List.drop_eq_nil_of_le z] at hd; cases hd
        unfold StrLaws.occBody
        rw [if_pos ⟨⟨⟨by show 0 < 1; decide, hlo⟩, by rw [hl1]; omega⟩, by rw [sub1, hd]; simp⟩]
        show (forIn (List.range' (k + 1) m) _ (StrLaws.occBody x ⟨#[a]⟩ x.length 1)).run.fst.toList = _
        rw [occ_done _ _ _ _ _ (by simp), if_pos List.mem_cons_self]
        simp
    · have hsub : ¬ (Builtin.Str.subAt x ⟨#[c]⟩ k = true) := by
        rw [sub1]
        cases hd : (tl x).drop k with
        | nil => intro z; simp at z
        | cons a r =>
          intro z
          rw [hd] at hc
          apply hc
          have := eq_of_beq z
          simp at this
          rw [this]; rfl
      unfold StrLaws.occBody
      rw [if_neg (fun z => hsub z.2)]
      have ih := occ_go x c lo m (k + 1) (by omega) (by omega)
      refine Eq.trans ih ?_
      cases hd : (tl x).drop k with
      | nil =>
        have : (tl x).drop (k + 1) = [] := by
          rw [← List.drop_drop, hd]; rfl
        rw [this]; rfl
      | cons a r =>
        have h1 : (tl x).drop (k + 1) = r := by rw [← List.drop_drop, hd]; rfl
        rw [hd] at hc
        have ha : a ≠ c := fun z => hc (by rw [z]; rfl)
        rw [h1]
        by_cases hm : c ∈ r
        · rw [if_pos hm, if_pos (List.mem_cons_of_mem _ hm), List.takeWhile_cons_of_pos (by simpa using ha), List.length_cons]
          congr 1
          omega
        · rw [if_neg hm, if_neg (by intro z; rcases List.mem_cons.mp z with z | z; exact ha z.symm; exact hm z)]
theorem find3_one (x : Str) (c n : Nat) (hn : n ≤ x.length) : Txt.find3 x ⟨#[c]⟩ (n : Int) = if c ∈ (tl x).drop n then ((n + (((tl x).drop n).takeWhile (· != c)).length : Nat) : Int) else -1 := by
  unfold Txt.find3
  have hf : PySem.fromIndex x.length (n : Int) = n := by
    unfold PySem.fromIndex
    rw [if_neg (by omega)]; omega
  rw [hf, StrLaws.occ_eq, occ_go x c n _ n (by omega) (Nat.le_refl _)]
  by_cases h : c ∈ (tl x).drop n
  · rw [if_pos h, if_pos h]
  · rw [if_neg h, if_neg h]
/-! ### the part ahead of a sign -/
theorem split_first {x y : Str} {c : Nat} (hy : tl y = [c]) (hk : ¬ Builtin.Str.strKind x < Builtin.Str.strKind y) (hm : c ∈ tl x) : ∃ r, Txt.split x y = ofL ((tl x).takeWhile (· != c)) :: r := by
  have h1 : tl x = (tl x).takeWhile (· != c) ++ ([c] ++ ((tl x).dropWhile (· != c)).drop 1) := by
    have h0 := List.takeWhile_append_dropWhile (p := (· != c)) (l := tl x)
    have h2 : (tl x).dropWhile (· != c) = c :: ((tl x).dropWhile (· != c)).drop 1 := by
      cases hd : (tl x).dropWhile (· != c) with
      | nil =>
        rw [hd, List.append_nil] at h0
        have hx := h0 ▸ hm
        have := tw_imp hx
        simp at this
      | cons a r =>
        have : ¬ (a != c) = true := by
          have := List.head_dropWhile_not (· != c) (l := tl x) (by rw [hd]; simp)
          simp only [hd, List.head_cons] at this
          rw [this]; decide
        have ha : a = c := by simpa using this
        rw [ha]; rfl
    rw [show [c] ++ ((tl x).dropWhile (· != c)).drop 1 = (tl x).dropWhile (· != c) from h2.symm, h0]
  have hno : c ∉ (tl x).takeWhile (· != c) := fun z => by
    have := tw_imp z
    simp at this
  have hy' : TL.tl y = [c] := hy
  have hs := TL.split_spl x y (by rw [hy']; simp) hk
  rw [hy'] at hs
  have h4 : TL.spl [c] 0 [] (TL.tl x) = ((tl x).takeWhile (· != c)) :: TL.spl [c] 0 [] (((tl x).dropWhile (· != c)).drop 1) := by
    refine (congrArg (TL.spl [c] 0 []) h1).trans ?_
    rw [TL.spl_part1 hno]; rfl
  rw [h4] at hs
  cases hp : Txt.split x y with
  | nil => rw [hp] at hs; cases hs
  | cons a r =>
    rw [hp] at hs
    rw [List.map_cons] at hs
    injection hs with e1 e2
    refine ⟨r, ?_⟩
    congr 1
    apply str_ext
    rw [tl_ofL]
    exact e1
/-! ### texts in order -/
def sle (a b : Str) : Prop := ¬ tl b < tl a
instance (a b : Str) : Decidable (sle a b) := by unfold sle; exact inferInstance
theorem sle_iff {a b : Str} : sle a b ↔ tl a ≤ tl b := Iff.rfl
theorem sle_tr {a b c : Str} (h : sle a b) (h' : sle b c) : sle a c := List.le_trans (α := Nat) h h'
theorem sle_as {a b : Str} (h : sle a b) (h' : sle b a) : a = b := str_ext (List.le_antisymm (α := Nat) h h')
theorem sle_tot (a b : Str) : sle a b ∨ sle b a := List.le_total (α := Nat) (tl a) (tl b)
def ins (x : Str) : List Str → List Str
  | [] => [x]
  | y :: r => if sle x y then x :: y :: r else y :: ins x r
def srtS : List Str → List Str
  | [] => []
  | x :: r => ins x (srtS r)
theorem ins_perm (x : Str) : ∀ l, (ins x l).Perm (x :: l)
  | [] => .refl _
  | y :: r => by
    unfold ins
    split
    · exact .refl _
    · exact ((ins_perm x r).cons y).trans (.swap x y r)
theorem srt_perm : ∀ l, (srtS l).Perm l
  | [] => .refl _
  | x :: r => (ins_perm x (srtS r)).trans ((srt_perm r).cons x)
theorem ins_sort (x : Str) : ∀ {l : List Str}, l.Pairwise sle → (ins x l).Pairwise sle
  | [], _ => List.pairwise_singleton _ _
  | y :: r, h => by
    unfold ins
    obtain ⟨h1, h2⟩ := List.pairwise_cons.mp h
    split
    · rename_i c
      exact List.pairwise_cons.mpr ⟨fun z hz => by
        rcases List.mem_cons.mp hz with rfl | hz
        · exact c
        · exact sle_tr c (h1 z hz), h⟩
    · rename_i c
      refine List.pairwise_cons.mpr ⟨fun z hz => ?_, ins_sort x h2⟩
      rcases List.mem_cons.mp ((ins_perm x r).mem_iff.mp hz) with rfl | hz
      · exact (sle_tot _ _).resolve_left c
      · exact h1 z hz
theorem srt_sort : ∀ l, (srtS l).Pairwise sle
  | [] => .nil
  | x :: r => ins_sort x (srt_sort r)
theorem srt_uniq : ∀ {l m : List Str}, l.Perm m → l.Pairwise sle → m.Pairwise sle → l = m
  | [], m, p, _, _ => (List.Perm.eq_nil p.symm).symm
  | x :: r, [], p, _, _ => absurd p.length_eq (by simp)
  | x :: r, y :: t, p, h, h' => by
    obtain ⟨h1, h2⟩ := List.pairwise_cons.mp h
    obtain ⟨h3, h4⟩ := List.pairwise_cons.mp h'
    have e : x = y := by
      rcases List.mem_cons.mp (p.mem_iff.mp List.mem_cons_self) with z | z
      · exact z
      · rcases List.mem_cons.mp (p.mem_iff.mpr (List.mem_cons_self (a := y) (l := t))) with w | w
        · exact w.symm
        · exact sle_as (h1 y w) (h3 x z)
    subst e
    rw [srt_uniq (List.Perm.cons_inv p) h2 h4]
theorem rising_pw : ∀ (l : List Str) (x : Str), risingS x l = true → (x :: l).Pairwise sle
  | [], x, _ => List.pairwise_singleton _ _
  | y :: r, x, h => by
    unfold risingS at h
    obtain ⟨a, b⟩ := Bool.and_eq_true_iff.mp h
    have hxy : sle x y := by
      unfold sle
      rw [ltCps_eq, Bool.not_eq_true'] at a
      exact of_decide_eq_false a
    have ih := rising_pw r y b
    refine List.pairwise_cons.mpr ⟨fun z hz => ?_, ih⟩
    rcases List.mem_cons.mp hz with rfl | hz
    · exact hxy
    · exact sle_tr hxy ((List.pairwise_cons.mp ih).1 z hz)
theorem sortedS_pw : ∀ {l : List Str}, sortedS l = true → l.Pairwise sle
  | [], _ => .nil
  | x :: r, h => rising_pw r x h
theorem srt_of {ys xs : List Str} (p : ys.Perm xs) (h : sortedS ys = true) : ys = srtS xs := srt_uniq (p.trans (srt_perm xs).symm) (sortedS_pw h) (srt_sort xs)
theorem srt_ext {xs ys : List Str} (p : xs.Perm ys) : srtS xs = srtS ys := srt_uniq ((srt_perm xs).trans (p.trans (srt_perm ys).symm)) (srt_sort _) (srt_sort _)
theorem srt_filter (c : Str → Bool) (l : List Str) : (srtS l).filter c = srtS (l.filter c) := srt_uniq (((srt_perm l).filter c).trans (srt_perm _).symm) ((srt_sort l).filter c) (srt_sort _)
/-! ### each once -/
def addS (acc : List Str) (x : Str) : List Str := if x ∈ acc then acc else acc ++ [x]
def ddS (l : List Str) : List Str := l.foldl addS []
theorem add_mem {acc : List Str} {x y : Str} : y ∈ addS acc x ↔ y ∈ acc ∨ y = x := by
  unfold addS
  split
  · rename_i h
    constructor
    · exact .inl
    · rintro (z | rfl)
      · exact z
      · exact h
  · rw [List.mem_append, List.mem_singleton]
theorem add_nd {acc : List Str} {x : Str} (h : acc.Nodup) : (addS acc x).Nodup := by
  unfold addS
  split
  · exact h
  · rename_i c
    exact List.nodup_append.mpr ⟨h, List.nodup_cons.mpr ⟨fun z => (nomatch z), List.nodup_nil⟩, fun a ha b hb => by rw [List.mem_singleton.mp hb]; exact fun z => c (z ▸ ha)⟩
theorem fold_mem {y : Str} : ∀ (l acc : List Str), y ∈ l.foldl addS acc ↔ y ∈ acc ∨ y ∈ l
  | [], acc => by simp
  | x :: r, acc => by rw [List.foldl_cons, fold_mem r, add_mem, List.mem_cons, or_assoc]
theorem fold_nd : ∀ (l acc : List Str), acc.Nodup → (l.foldl addS acc).Nodup
  | [], acc, h => h
  | x :: r, acc, h => fold_nd r _ (add_nd h)
theorem dd_mem {l : List Str} {y : Str} : y ∈ ddS l ↔ y ∈ l := by
  unfold ddS
  rw [fold_mem]
  simp
theorem dd_nd (l : List Str) : (ddS l).Nodup := fold_nd l [] List.nodup_nil
theorem dd_perm {l m : List Str} (h : ∀ y, y ∈ l ↔ y ∈ m) : (ddS l).Perm (ddS m) := (List.perm_ext_iff_of_nodup (dd_nd l) (dd_nd m)).mpr fun y => by rw [dd_mem, dd_mem, h]
theorem dd_len (l : List Str) : (ddS l).length ≤ l.length := by
  unfold ddS
  suffices h : ∀ (l acc : List Str), (l.foldl addS acc).length ≤ acc.length + l.length by simpa using h l []
  intro l
  induction l with
  | nil => intro acc; exact Nat.le_refl _
  | cons x r ih =>
    intro acc
    rw [List.foldl_cons, List.length_cons]
    have h1 := ih (addS acc x)
    have h2 : (addS acc x).length ≤ acc.length + 1 := by
      unfold addS
      split
      · omega
      · rw [List.length_append]; exact Nat.le_refl _
    omega
end GK

namespace GK
open PySem PySem.Spec PyProof.Rows L2
open Evl (Ex ex_l ex_t ex_rd sq_of st_of sz_of sz_lt fresh_back)
/-! ### more rules -/
def rFind3 : V → List V → Hp → VK → Prop := fun x xs H Q => ∃ (a b : Str) (i : Int), x = .str a ∧ xs = [.str b, .int i] ∧ Q (.int (Txt.find3 a b i)) H
theorem mtr_find3 {X : Cx} : MtR X "str.find" rFind3 := mt_find3
def rSortDS : List V → Hp → VK → Prop := fun xs H Q => ∃ (a : Addr) (kvs : List (Key × V)) (ks : List Str), xs = [.ref a] ∧ Rd H a (.dK kvs) ∧ kvs.map (·.1) = ks.map Sum.inr ∧ ks.length < 64 ∧
    ∀ ys p, ys.Perm ks → sortedS ys = true → H p = none → Q (.ref p) (upd H p (.lst (ys.map V.str)))
theorem cr_sortDS {X : Cx} (h : X.calm = true) : CallR X (.builtin "sorted") rSortDS := call_sortedD h
def rSortDI : List V → Hp → VK → Prop := fun xs H Q => ∃ (a : Addr) (kvs : List (Key × V)) (ks : List Int), xs = [.ref a] ∧ Rd H a (.dK kvs) ∧ kvs.map (·.1) = ks.map Sum.inl ∧ ks.length < 64 ∧
    ∀ (ys : List Int) (p : Addr), ys.Perm ks → ys.Pairwise (· ≤ ·) → H p = none → Q (.ref p) (upd H p (.lst (ys.map V.int)))
theorem cr_sortDI {X : Cx} (h : X.calm = true) : CallR X (.builtin "sorted") rSortDI := call_sortedDI h
def rSrtS (K : PySem.W.Frag) : List V → Hp → VK → Prop := rSortedS K
theorem cr_srtS {X : Cx} : CallR X (.builtin "sorted") (rSrtS X.K) := cr_sortedS
def rSrtI (K : PySem.W.Frag) : List V → Hp → VK → Prop := rSorted K
theorem cr_srtI {X : Cx} : CallR X (.builtin "sorted") (rSrtI X.K) := cr_sorted
def rListOf (K : PySem.W.Frag) : List V → Hp → VK → Prop := fun xs H Q => ∃ p ys, xs = [.ref p] ∧ (SqL K H p ys ∨ SqT K H p ys) ∧ ∀ l, H l = none → Q (.ref l) (upd H l (.lst ys))
theorem cr_listOf {X : Cx} : CallR X (.type "list") (rListOf X.K) := call_list_of
def rListD0 : List V → Hp → VK → Prop := fun xs H Q => ∃ (a : Addr) (kvs : List (Key × V)), xs = [.ref a] ∧ Rd H a (.dK kvs) ∧ ∀ p, H p = none → Q (.ref p) (upd H p (.lst (kvs.map fun kv => kV kv.1)))
theorem cr_listD {X : Cx} (h : X.calm = true) : CallR X (.type "list") rListD0 := call_listD h
section
variable {K : PySem.W.Frag} {σ : Sig} {B B' H H' : Hp} {te ta tb tc : TE} {tt : TT} {d d1 d2 : PyData} {v : V} {D : Ends} {tx tz tu : TS} {i : Nat}
theorem evd_find3 {x y : Str} {n : Int} (h : EvD ta σ B H (.str x)) (h1 : EvD tb σ B H (.str y)) (h2 : EvD tc σ B H (.int n)) : EvD (tBM K "str" rFind3 ta (tCons tb (tCons tc tNil))) σ B H (.int (Txt.find3 x y n)) := fun H1 e eb Q q => h.flat (fun _ _ => dps) e eb fun H2 e2 =>
  ⟨rfl, h1.flat (fun _ _ => dps) (e.trans e2) (eb.trans e2) fun H3 e3 => h2.flat (fun _ _ => dpi) ((e.trans e2).trans e3) ((eb.trans e2).trans e3) fun H4 e4 =>
    ⟨x, y, n, rfl, rfl, q _ H4 B ((e2.trans e3).trans e4) (Ext.refl _ _) (((eb.trans e2).trans e3).trans e4) (.int _)⟩⟩
theorem evd_sortDS {p : Addr} {kvs : List (Key × V)} {ks : List Str} (h : EvF ta σ H (.ref p)) (hp : H p = some (.dK kvs)) (hk : kvs.map (·.1) = ks.map Sum.inr) (hl : ks.length < 64) : EvD (tCB rSortDS (tCons ta tNil)) σ B H (.list ((srtS ks).map .str)) := fun H1 e eb Q q => h H1 e _ fun H2 e2 =>
  ⟨p, kvs, ks, rfl, .inl (e2 _ _ (e _ _ hp)), hk, hl, fun ys l py so hl' => by
    rw [srt_of py so]
    exact q _ _ (upd B l (.lst ((srtS ks).map V.str))) (e2.trans (Ex.new hl')) (Ext.new eb (fresh_back e2 hl')) (ex_upd2 (eb.trans e2)) (.lst upd_same (dpa_ofStrs _))⟩
theorem evd_srtS {ks : List Str} (h : EvD ta σ B H (.list (ks.map .str))) (hl : ks.length < 64 := by first | with_reducible assumption | omega) : EvD (tCB (rSrtS K) (tCons ta tNil)) σ B H (.list ((srtS ks).map .str)) := evd_cb (evs_cons h evs_nil) fun H1 B1 vs _ _ eb hd Q q => by
  obtain ⟨v, rfl, hv⟩ := dpa1 hd
  obtain ⟨a, xs, rfl, hs, hx⟩ := dpl hv
  refine ⟨a, ks, rfl, by rw [← dpa_strs hx]; exact sq_of (eb _ _ hs), hl, fun ys l py so hl' => ?_⟩
  rw [srt_of py so]
  exact q _ _ (upd B1 l (.lst ((srtS ks).map V.str))) (Ex.new hl') (Ext.new eb hl') (ex_upd2 eb) (.lst upd_same (dpa_ofStrs _))
theorem inV_strs (x : Str) (ks : List Str) : inV (.str x) (ks.map V.str) = decide (x ∈ ks) := by
  unfold inV
  induction ks with
  | nil => rfl
  | cons k r ih =>
    rw [List.map_cons, List.any_cons, ih]
    show (k == x || _) = _
    by_cases c : k = x
    · subst c; rw [beq_self_eq_true, Bool.true_or, decide_eq_true List.mem_cons_self]
    · rw [beq_eq_false_iff_ne.mpr c, Bool.false_or, decide_eq_decide]
      constructor
      · exact List.mem_cons_of_mem _
      · intro z
        rcases List.mem_cons.mp z with z | z
        · exact absurd z.symm c
        · exact z
theorem flat_strs (ks : List Str) : (ks.map V.str).all flatV = true := by
  rw [List.all_map]
  exact List.all_eq_true.mpr fun _ _ => rfl
theorem evd_in {neg : Bool} {x : Str} {ks : List Str} (h : EvD ta σ B H (.str x)) (h' : EvD tb σ B H (.list (ks.map .str)) ∨ EvD tb σ B H (.tuple (ks.map .str))) : EvD (tOp (rIn K neg) ta tb) σ B H (.bool (if neg then !decide (x ∈ ks) else decide (x ∈ ks))) := fun H1 e eb Q q => h.flat (fun _ _ => dps) e eb fun H2 e2 => by
  rcases h' with h' | h'
  · refine h' H2 (e.trans e2) (eb.trans e2) _ fun v H3 B3 e3 x3 eb3 hv => ?_
    obtain ⟨a, xs, rfl, hs, hx⟩ := dpl hv
    rw [dpa_strs hx] at hs
    refine ⟨a, _, rfl, .inl (sq_of (eb3 _ _ hs)), rfl, flat_strs ks, ?_⟩
    rw [inV_strs]
    exact q _ H3 B (e2.trans e3) (Ext.refl _ _) ((eb.trans e2).trans e3) (.bl _)
  · refine h' H2 (e.trans e2) (eb.trans e2) _ fun v H3 B3 e3 x3 eb3 hv => ?_
    obtain ⟨a, xs, rfl, hs, hx⟩ := dpt hv
    rw [dpa_strs hx] at hs
    refine ⟨a, _, rfl, .inr (st_of (eb3 _ _ hs)), rfl, flat_strs ks, ?_⟩
    rw [inV_strs]
    exact q _ H3 B (e2.trans e3) (Ext.refl _ _) ((eb.trans e2).trans e3) (.bl _)
theorem evd_inL {x : Str} {ks : List Str} (h : EvD ta σ B H (.str x)) (h' : EvD tb σ B H (.list (ks.map .str))) : EvD (tOp (rIn K false) ta tb) σ B H (.bool (decide (x ∈ ks))) := evd_in h (.inl h')
theorem evd_notInL {x : Str} {ks : List Str} (h : EvD ta σ B H (.str x)) (h' : EvD tb σ B H (.list (ks.map .str))) : EvD (tOp (rIn K true) ta tb) σ B H (.bool (!decide (x ∈ ks))) := evd_in h (.inl h')
theorem evd_inT {x : Str} {ks : List Str} (h : EvD ta σ B H (.str x)) (h' : EvD tb σ B H (.tuple (ks.map .str))) : EvD (tOp (rIn K false) ta tb) σ B H (.bool (decide (x ∈ ks))) := evd_in h (.inr h')
theorem evd_isBl {a b : Bool} (ha : EvD ta σ B H (.bool a)) (hb : EvD tb σ B H (.bool b)) : EvD (tOp rIsB ta tb) σ B H (.bool (decide (a = b))) := evd_op2 ha (fun _ _ => dpb) hb (fun _ _ => dpb) (fun _ _ q => ⟨a, b, rfl, rfl, q⟩) fun _ => .bl _
theorem evd_listT {ds : List PyData} (h : EvD ta σ B H (.tuple ds)) : EvD (tCB (rListOf K) (tCons ta tNil)) σ B H (.list ds) := evd_cb (evs_cons h evs_nil) fun H1 B1 vs _ _ eb hd Q q => by
  obtain ⟨v, rfl, hv⟩ := dpa1 hd
  obtain ⟨a, xs, rfl, hs, hx⟩ := dpt hv
  exact ⟨a, xs, rfl, .inr (st_of (eb _ _ hs)), fun l hl => q _ _ (upd B1 l (.lst xs)) (Ex.new hl) (Ext.new eb hl) (ex_upd2 eb) (.lst upd_same (dpAll_ex (Ex.new (fresh_back eb hl)) _ _ hx))⟩
/-! ### a list that grows, a dict that grows: outside the frame -/
theorem q_app {p : Addr} {xs : List V} {D : Ends} {i : Nat} (hv : σ[i]? = some (some (.ref p))) (h : EvD ta σ B H d) (eb : Ex B H) (hp : H p = some (.lst xs)) (hl : xs.length < 100000) (k : ∀ v H1 B1, Ex H H1 → Ext B H B1 → Ex B1 H1 → Da B1 v d → D.nx σ (upd H1 p (.lst (xs ++ [v])))) : tDrop (tBM K "list" rAppend (tVar i) (tCons ta tNil)) D σ H :=
  ⟨_, hv, .inl ⟨rfl, _, sq_of hp⟩, h.run eb fun v H1 B1 e1 x1 eb1 hd => ⟨p, xs, v, rfl, rfl, e1 _ _ hp, sz_lt hl, k v H1 B1 e1 x1 eb1 hd⟩⟩
theorem q_dnew {i : Nat} (k : ∀ p, H p = none → tz D (σ.set i (some (.ref p))) (upd H p (.dK []))) : tSeq (tAsg tDNewK (gName i)) tz D σ H := fun p hp => k p hp
theorem q_lnew {i : Nat} (k : ∀ p, H p = none → tz D (σ.set i (some (.ref p))) (upd H p (.lst []))) : tSeq (tAsg (tLst tNil) (gName i)) tz D σ H := ⟨Nat.zero_le _, fun p hp => k p hp⟩
theorem s_dput {p : Addr} {kvs : List (Key × V)} {x : Str} {i : Nat} (hv : σ[i]? = some (some (.ref p))) (ht : EvD ta σ B H (.str x)) (hd : EvD tb σ B H d) (eb : Ex B H) (hp : H p = some (.dK kvs)) (hl : kvs.length < 100000) (k : ∀ v H1 B1, Ex H H1 → Ext B H B1 → Ex B1 H1 → Da B1 v d → D.nx σ (upd H1 p (.dK (putK kvs (.inr x) v)))) : sDPut (tVar i) ta tb D σ H :=
  hd.run eb fun v H1 B1 e1 x1 eb1 hdv => ⟨_, hv, ht.flat (fun _ _ => dps) e1 (eb.trans e1) fun H2 e2 => ⟨p, _, rfl, DPut.k (k := .inr x) (e2 _ _ (e1 _ _ hp)) (sz_lt hl), k v H2 B1 (e1.trans e2) x1 (eb1.trans e2) hdv⟩⟩
end
end GK

namespace GK
open PySem PySem.Spec PyProof.Rows L2
open Evl (Ex ex_l ex_t ex_rd sq_of st_of sz_of sz_lt fresh_back)
/-! ### a text cut at one sign -/
theorem pre1 (s c : Nat) (r : List Nat) : TL.pre [s] (c :: r) = decide (c = s) := by
  unfold TL.pre
  show ([c] == [s]) = _
  by_cases h : c = s
  · subst h; simp
  · simp [h]
theorem spl1_len (s : Nat) : ∀ (l acc : List Nat), (TL.spl [s] 0 acc l).length = l.count s + 1
  | [], acc => rfl
  | c :: r, acc => by
    by_cases h : c = s
    · rw [TL.spl_hit (by rw [pre1]; exact decide_eq_true h)]
      show (TL.spl [s] 0 [] r).length + 1 = _
      rw [spl1_len s r, h, List.count_cons_self]
    · rw [TL.spl_miss (by rw [pre1]; exact decide_eq_false h), spl1_len s r, List.count_cons_of_ne h]
theorem split_len {x y : Str} (hy : y.length = 1) (hk : ¬ Builtin.Str.strKind x < Builtin.Str.strKind y) : ((Txt.split x y).length : Int) = Txt.count x y + 1 := by
  unfold Txt.split Txt.count
  split
  · rename_i h
    rcases Bool.or_eq_true_iff.mp h with h | h
    · have h0 : x.length < y.length := of_decide_eq_true h
      have : Builtin.Str.occurrences x y 0 x.length (x.length + 1) = [] := by
        cases e : Builtin.Str.occurrences x y 0 x.length (x.length + 1) with
        | nil => rfl
        | cons i r =>
          have := PySem.StrLaws.occ_spec x y 0 x.length (x.length + 1) i (by rw [e]; exact List.mem_cons_self)
          omega
      rw [this]; rfl
    · exact absurd (of_decide_eq_true h) hk
  · split
    · rename_i h
      rw [List.isEmpty_iff.mp h]; rfl
    · rw [length_partsBetween]; omega
theorem dash_tl : tl ("-" : Str) = [45] := by decide +kernel
theorem dash_tlT : TL.tl ("-" : Str) = [45] := dash_tl
theorem dash_kind (x : Str) : ¬ Builtin.Str.strKind x < Builtin.Str.strKind ("-" : Str) := TL.kind_ok (by decide +kernel)
theorem count_dash (x : Str) : Txt.count x "-" = ((tl x).count 45 : Nat) := by
  have h1 := split_len (x := x) (y := "-") (by decide +kernel) (dash_kind x)
  have h2 := congrArg List.length (TL.split_spl x "-" (by rw [dash_tlT]; simp) (dash_kind x))
  rw [List.length_map, dash_tlT, spl1_len] at h2
  show _ = ((x.cps.toList.count 45 : Nat) : Int)
  have h3 : (Txt.split x "-").length = x.cps.toList.count 45 + 1 := h2
  omega
def ahead (l : List Nat) : List Nat := l.takeWhile (· != 45)
def behind (l : List Nat) : List Nat := (l.dropWhile (· != 45)).drop 1
theorem cut_one : ∀ {l : List Nat}, l.count 45 = 1 → l = ahead l ++ 45 :: behind l ∧ 45 ∉ ahead l ∧ 45 ∉ behind l
  | [], h => by simp at h
  | c :: r, h => by
    by_cases e : c = 45
    · subst e
      rw [List.count_cons_self] at h
      have h0 : r.count 45 = 0 := by omega
      have hb : behind (45 :: r) = r := by simp [behind]
      have ha : ahead (45 :: r) = [] := by simp [ahead]
      rw [ha, hb]
      exact ⟨rfl, by simp, List.count_eq_zero.mp h0⟩
    · rw [List.count_cons_of_ne e] at h
      obtain ⟨h1, h2, h3⟩ := cut_one h
      have ha : ahead (c :: r) = c :: ahead r := by simp [ahead, e]
      have hb : behind (c :: r) = behind r := by simp [behind, e]
      rw [ha, hb]
      refine ⟨by rw [List.cons_append, ← h1], ?_, h3⟩
      intro hm
      rcases List.mem_cons.mp hm with q | q
      · exact e q.symm
      · exact h2 q
theorem split_dash {x : Str} (h : (tl x).count 45 = 1) : Txt.split x "-" = [ofL (ahead (tl x)), ofL (behind (tl x))] := by
  obtain ⟨h1, h2, h3⟩ := cut_one h
  apply TL.map_tl_inj
  rw [TL.split_spl x "-" (by rw [dash_tlT]; simp) (dash_kind x), dash_tlT]
  have h4 : TL.spl [45] 0 [] (tl x) = TL.spl [45] 0 [] (ahead (tl x) ++ ([45] ++ behind (tl x))) := congrArg (TL.spl [45] 0 []) h1
  refine h4.trans ?_
  rw [TL.spl_part1 h2, TL.spl_last1 h3]
  simp only [List.nil_append, List.map_cons, List.map_nil]
  rw [show TL.tl (ofL (ahead (tl x))) = ahead (tl x) from tl_ofL _, show TL.tl (ofL (behind (tl x))) = behind (tl x) from tl_ofL _]
/-! ### numbers -/
def isDig (c : Nat) : Bool := decide (c ∈ tl ("0123456789" : Str))
theorem digs_tl : tl ("0123456789" : Str) = [48, 49, 50, 51, 52, 53, 54, 55, 56, 57] := by decide +kernel
theorem isDig_iff (c : Nat) : isDig c = true ↔ 48 ≤ c ∧ c ≤ 57 := by
  unfold isDig
  rw [digs_tl, decide_eq_true_iff]
  simp only [List.mem_cons, List.mem_nil_iff, or_false]
  omega
def dig (l : List Nat) : Option Nat := if 1 ≤ l.length ∧ l.length ≤ 6 ∧ l.all isDig = true ∧ TL.numL (NumText.digitsVal l) = l then some (NumText.digitsVal l) else none
theorem allDig {l : List Nat} (h : l.all isDig = true) : NumText.AllDigits l := fun c hc => (isDig_iff c).mp (List.all_eq_true.mp h c hc)
theorem digitsVal_lt : ∀ {l : List Nat}, NumText.AllDigits l → NumText.digitsVal l < 10 ^ l.length := by
  intro l hl
  unfold NumText.digitsVal
  suffices h : ∀ (l : List Nat) (a : Nat), NumText.AllDigits l → l.foldl (fun acc c => acc * 10 + (c - 48)) a < (a + 1) * 10 ^ l.length by simpa using h l 0 hl
  intro l
  induction l with
  | nil => intro a _; simp
  | cons c r ih =>
    intro a h
    rw [List.foldl_cons, List.length_cons]
    refine Nat.lt_of_lt_of_le (ih _ h.tail) ?_
    have h1 := h.head
    rw [Nat.pow_succ, Nat.mul_comm (10 ^ r.length) 10, ← Nat.mul_assoc]
    exact Nat.mul_le_mul_right _ (by omega)
theorem dig_num {n : Nat} (h : n < 1000000) : dig (TL.numL n) = some n := by
  unfold dig
  rw [TL.numL_val, if_pos]
  refine ⟨List.length_pos_iff.mpr (TL.numL_ne n), TL.numL_len (by decide) h, ?_, rfl⟩
  rw [List.all_eq_true]
  exact fun c hc => (isDig_iff c).mpr (TL.numL_digits n c hc)
theorem dig_lt {l : List Nat} {n : Nat} (h : dig l = some n) : n < 1000000 := by
  unfold dig at h
  split at h
  · rename_i c
    cases h
    have := digitsVal_lt (allDig c.2.2.1)
    have h6 : 10 ^ l.length ≤ 10 ^ 6 := Nat.pow_le_pow_right (by decide) c.2.1
    omega
  · cases h
def sp_number_of (K : PySem.W.Frag) : Sp := fun vs H Q E => ∃ (B : Hp) (x : Str), Ex B H ∧ vs = [.str x] ∧ x.length ≤ 1000 ∧ RetX K (match dig (tl x) with | some n => .ok (.int (n : Int)) | none => .no "NoRange") B H Q E
theorem len_number_of {K : PySem.W.Frag} {vs : List V} {H : Hp} {Q : VK} {E : XK} (h : sp_number_of K vs H Q E) : vs.length = 1 := by
  obtain ⟨_, _, _, rfl, _⟩ := h; rfl
section
variable {X : Cx} {K : PySem.W.Frag} {σ : Sig} {B H : Hp} {te ta tb tc : TE} {d : PyData} {E : XK}
theorem evd_intS {x : Str} (h : EvD ta σ B H (.str x)) (ha : (tl x).all isDig = true := by with_reducible assumption) (h1 : 1 ≤ x.length := by first | with_reducible assumption | omega) (h2 : x.length ≤ 600 := by first | with_reducible assumption | omega) : EvD (tCB rIntStr (tCons ta tNil)) σ B H (.int ((NumText.digitsVal (tl x) : Nat) : Int)) := evd_cb (evs_cons h evs_nil) fun H1 B1 vs _ _ eb hd Q q => by
  obtain ⟨v, rfl, hv⟩ := dpa1 hd
  cases hv
  refine ⟨x, _, rfl, PySem.intText_digits (allDig ha) ?_ (by omega), by omega, q.at eb (.int _)⟩
  intro z
  rw [len_tl, show tl x = [] from z] at h1
  exact absurd h1 (by decide)
end
def t_number_of (K : PySem.W.Frag) (E : XK) : TS :=
  (tSeq (tIfS (tOr (tNot (tTest (tChain (rI0 fun i j => .bl (decide (i ≤ j))) (rI0 fun i j => .bl (decide (i ≤ j))) (tC (.int 1)) (tCB rLenStr (tCons (tVar 0) tNil)) (tC (.int 6))))) (tOr (tNot (tB (tCB (rAll K) (tCons (tLc (iStr (tVar 0)) (gName 1) tYes (tOp rInSign (tVar 1) (tC (.str "0123456789"))) [1]) tNil)))) (tTest (tOp rNe (tCB rStrInt (tCons (tCB rIntStr (tCons (tVar 0) tNil)) tNil)) (tVar 0))))) (tRs (He.ga K "NoRange") E) tNext)
    (tRet (tCB rIntStr (tCons (tVar 0) tNil))))
theorem pure_number_of {K : PySem.W.Frag}  {vs : List V} {H : Hp} {Q : VK} {E : XK} (h : sp_number_of K vs H Q E) : t_number_of K E { nx := fun _ H' => Q .non H', rt := Q } (start ["word", "sign"] vs) H := by
  obtain ⟨B, x, eb, rfl, hl, r⟩ := h
  have e1 : EvB (tNot (tTest (tChain (rI0 fun i j => .bl (decide (i ≤ j))) (rI0 fun i j => .bl (decide (i ≤ j))) (tC (.int 1)) (tCB rLenStr (tCons (tVar 0) tNil)) (tC (.int 6))))) [some (.str x), none] B H (!(decide (1 ≤ (x.length : Int)) && decide ((x.length : Int) ≤ 6))) := (evb_not (evb_test (evd_chain evd_ci (evd_lenS (evd_varS rfl)) evd_ci)))
  have e2 : EvB (tNot (tB (tCB (rAll K) (tCons (tLc (iStr (tVar 0)) (gName 1) tYes (tOp rInSign (tVar 1) (tC (.str "0123456789"))) [1]) tNil)))) [some (.str x), none] B H (!(tl x).all isDig) := by
    refine EvB.is (evb_not (evb_B (evd_all (bs := (tl x).map isDig) ?_))) (by rw [List.all_map]; rfl)
    rw [List.map_map]
    exact evd_lc1 (as := tl x) (fun c => .str (sign c)) _ (src_str (evd_varS rfl)) (by rw [← len_tl]; omega) (fun _ => rfl) fun c hc y B1 H1 _ _ _ hy => by
      cases hy
      exact (evd_inSign (evd_varS rfl) evd_cs)
  by_cases c : 1 ≤ x.length ∧ x.length ≤ 6
  · by_cases c2 : (tl x).all isDig = true
    · have hdl := digitsVal_lt (allDig c2)
      have h6 : 10 ^ (tl x).length ≤ 10 ^ 6 := Nat.pow_le_pow_right (by decide) (by rw [← len_tl]; exact c.2)
      have e3 : EvB (tTest (tOp rNe (tCB rStrInt (tCons (tCB rIntStr (tCons (tVar 0) tNil)) tNil)) (tVar 0))) [some (.str x), none] B H (!decide (Str.ofString (toString ((NumText.digitsVal (tl x) : Nat) : Int)) = x)) := by
        have c1 := c.1
        exact (evb_test (evd_neS (evd_strI (evd_intS (evd_varS rfl))) (evd_varS rfl)))
      have e123 := evb_or e1 fun _ => evb_or e2 fun _ => e3
      have hc : Str.ofString (toString ((NumText.digitsVal (tl x) : Nat) : Int)) = x ↔ TL.numL (NumText.digitsVal (tl x)) = tl x := by
        constructor
        · intro z; rw [← tl_num, z]
        · intro z; apply str_ext; rw [tl_num, z]
      rw [decide_eq_true (show (1 : Int) ≤ (x.length : Int) by omega), decide_eq_true (show (x.length : Int) ≤ 6 by omega), c2] at e123
      refine q_when e123 eb (fun hb H1 h1 eb1 => ?_) (fun hb H1 h1 eb1 => ?_)
      · have hb' : ¬ TL.numL (NumText.digitsVal (tl x)) = tl x := fun z => by
          rw [decide_eq_true (hc.mpr z)] at hb; cases hb
        have hd : dig (tl x) = none := by unfold dig; rw [if_neg]; exact fun z => hb' z.2.2.2
        rw [hd] at r
        exact r H1 h1
      · have hb' : TL.numL (NumText.digitsVal (tl x)) = tl x := by
          refine hc.mp ?_
          by_cases z : Str.ofString (toString ((NumText.digitsVal (tl x) : Nat) : Int)) = x
          · exact z
          · rw [decide_eq_false z] at hb; cases hb
        have hd : dig (tl x) = some (NumText.digitsVal (tl x)) := by
          unfold dig; rw [if_pos]; exact ⟨by rw [← len_tl]; exact c.1, by rw [← len_tl]; exact c.2, c2, hb'⟩
        rw [hd] at r
        have c1 := c.1
        exact s_ret (B := B) (evd_intS (evd_varS rfl)) eb1 (Ret.grow r h1 (Ext.refl _ _))
    · have hd : dig (tl x) = none := by unfold dig; rw [if_neg]; exact fun z => c2 z.2.2.1
      rw [hd] at r
      have c2' : (tl x).all isDig = false := by simpa using c2
      have e12 := evb_or (a := false) (b := true) (EvB.is e1 (by rw [decide_eq_true (show (1 : Int) ≤ (x.length : Int) by omega), decide_eq_true (show (x.length : Int) ≤ 6 by omega)]; rfl)) (fun _ => evb_or (a := true) (b := true) (tu := (tTest (tOp rNe (tCB rStrInt (tCons (tCB rIntStr (tCons (tVar 0) tNil)) tNil)) (tVar 0)))) (EvB.is e2 (by rw [c2']; rfl)) fun z => nomatch z)
      exact q_when (b := true) e12 eb (fun hb H1 h1 eb1 => r H1 h1) (fun z => nomatch z)
  · have hd : dig (tl x) = none := by unfold dig; rw [if_neg]; intro z; rw [← len_tl] at z; exact c ⟨z.1, z.2.1⟩
    rw [hd] at r
    have e1' : EvB (tNot (tTest (tChain (rI0 fun i j => .bl (decide (i ≤ j))) (rI0 fun i j => .bl (decide (i ≤ j))) (tC (.int 1)) (tCB rLenStr (tCons (tVar 0) tNil)) (tC (.int 6))))) [some (.str x), none] B H true := EvB.is e1 (by
      by_cases z : (1 : Int) ≤ (x.length : Int)
      · rw [decide_eq_true z, decide_eq_false (show ¬ (x.length : Int) ≤ 6 by omega)]; rfl
      · rw [decide_eq_false z]; rfl)
    exact q_when (b := true) (evb_or (a := true) (b := true) e1' fun z => nomatch z) eb (fun hb H1 h1 eb1 => r H1 h1) (fun z => nomatch z)
/-! ### what may raise -/
def EvX (K : PySem.W.Frag) (te : TE) (σ : Sig) (B H : Hp) (r : Res) (E : XK) : Prop := ∀ H1, Ex H H1 → Ex B H1 → ∀ Q : VK, RetX K r B H1 Q E → te σ H1 Q
theorem EvX.ok {K : PySem.W.Frag} {te : TE} {σ : Sig} {B H : Hp} {d : PyData} {E : XK} (h : EvX K te σ B H (.ok d) E) : EvD te σ B H d := fun H1 e1 e2 Q r => h H1 e1 e2 Q r
theorem EvX.no {K : PySem.W.Frag} {te : TE} {σ : Sig} {B H : Hp} {c : Str} {E : XK} {Q : VK} (h : EvX K te σ B H (.no c) E) (eb : Ex B H) (r : ∀ H', Ex H H' → E (.ref (He.ga K c)) none H') : te σ H Q := h H (Ex.refl _) eb Q r
theorem evx_call {K : PySem.W.Frag} {σ : Sig} {B H : Hp} {sp : Sp} {E : XK} {tr : TA} {ds : List PyData} {r : Res} (h : EvDs tr σ B H ds) (hr : ∀ H1 B1 vs, Ex H H1 → Ex B B1 → Ex B1 H1 → DaAll B1 vs ds → ∀ Q : VK, RetX K r B1 H1 Q E → sp vs H1 Q E) : EvX K (tCall sp [] E tr) σ B H r E := fun H1 e1 e2 Q q => h H1 e1 e2 _ fun vs H2 B2 e x ex hd => by
  show sp (vs ++ []) H2 Q E
  rw [List.append_nil]
  exact hr H2 B2 vs (e1.trans e) x.1 ex hd Q (q.grow e x)
theorem tgL2 {K : PySem.W.Frag} {σ : Sig} {i j : Nat} {x : V} {B1 H1 : Hp} {R : Sig → Hp → Prop} {d1 d2 : PyData} (hx : Da B1 x (.list [d1, d2])) (e : Ex B1 H1) (k : ∀ v1 v2, Da B1 v1 d1 → Da B1 v2 d2 → R ((σ.set i (some v1)).set j (some v2)) H1) : gLst K 2 (gCons (gName i) (gCons (gName j) gNil)) x σ H1 R := by
  obtain ⟨a, xs, rfl, h, hs⟩ := dpl hx
  obtain ⟨v1, v2, rfl, h1, h2⟩ := dpa2 hs
  exact ⟨a, _, rfl, sq_of (e _ _ h), rfl, v1, _, rfl, v2, _, rfl, rfl, k v1 v2 h1 h2⟩
/-! ### a range -/
theorem cut_from (x : Str) (k : Int) (hk : 0 ≤ k) : tl (cutS x (some k) none) = (tl x).drop k.toNat := by
  rw [tl_cut, sIx_none, sIx_pos (by omega)]
  rw [List.take_of_length_le (by rw [List.length_drop, ← len_tl]; omega)]
  rcases Nat.le_total k.toNat x.length with c | c
  · rw [Nat.min_eq_left c]
  · rw [Nat.min_eq_right c, List.drop_eq_nil_of_le (by rw [← len_tl]; omega), List.drop_eq_nil_of_le (by rw [← len_tl]; omega)]
theorem starts_tl (x y : Str) : Txt.startswith x y = decide ((tl x).take (tl y).length = tl y) := by
  unfold Txt.startswith
  rw [StrLaws.subAt_eq, List.drop_zero, ← show (tl y).length = y.length from (len_tl y).symm]
  show (_ && ((tl x).take (tl y).length == tl y)) = _
  by_cases c : (tl x).take (tl y).length = tl y
  · rw [decide_eq_true c, c, beq_self_eq_true, Bool.and_true]
    refine decide_eq_true ?_
    have := congrArg List.length c
    rw [List.length_take] at this
    rw [len_tl x, Nat.zero_add]
    omega
  · rw [decide_eq_false c]
    have : ((tl x).take (tl y).length == tl y) = false := by
      cases h : ((tl x).take (tl y).length == tl y) with
      | false => rfl
      | true => exact absurd (eq_of_beq h) c
    rw [this, Bool.and_false]
def finR (b m : Int) : Option (Int × Int) := if m < 1 then none else some (b, m)
def readU (u : List Nat) (size : Int) : Option (Int × Int) :=
  if ahead u = [] then (match dig (behind u) with
    | none => none
    | some n => finR (size - min (n : Int) size) (min (n : Int) size))
  else match dig (ahead u) with
    | none => none
    | some m => if behind u = [] then finR m (min (size - 1) (size - 1) - m + 1) else match dig (behind u) with
      | none => none
      | some l => if (l : Int) < m then none else finR m (min (l : Int) (size - 1) - m + 1)
def signsL : List Nat := [115, 105, 103, 110, 115, 61]
theorem signs_tl : tl ("signs=" : Str) = signsL := by decide +kernel
def headR (t : List Nat) : Bool := decide (t.take 6 = signsL) && decide (t.count 45 = 1)
def readR (t : List Nat) (size : Int) : Option (Int × Int) := if headR t = true then readU (t.drop 6) size else none
def resR (o : Option (Int × Int)) : Res := match o with
  | some (b, m) => .ok (.tuple [.int b, .int m])
  | none => .no "NoRange"
def sp_read_range (K : PySem.W.Frag) : Sp := fun vs H Q E => ∃ (B : Hp) (x : Str) (n : Int), Ex B H ∧ vs = [.str x, .int n] ∧ x.length ≤ 1000 ∧ RetX K (resR (readR (tl x) n)) B H Q E
theorem len_read_range {K : PySem.W.Frag} {vs : List V} {H : Hp} {Q : VK} {E : XK} (h : sp_read_range K vs H Q E) : vs.length = 2 := by
  obtain ⟨_, _, _, _, rfl, _⟩ := h; rfl
theorem evx_number {K : PySem.W.Frag} {σ : Sig} {B H : Hp} {ta : TE} {x : Str} {E : XK} (h : EvD ta σ B H (.str x)) (hl : x.length ≤ 1000) : EvX K (tCall (sp_number_of K) [] E (tCons ta tNil)) σ B H (match dig (tl x) with | some n => .ok (.int (n : Int)) | none => .no "NoRange") E := evx_call (evs_cons h evs_nil) fun H1 B1 vs _ _ eb hd Q q => by
  obtain ⟨v, rfl, hv⟩ := dpa1 hd
  cases hv
  exact ⟨B1, x, eb, rfl, hl, q⟩
def t_read_range (K : PySem.W.Frag) (E : XK) : TS :=
  (tSeq (tIfS (tOr (tNot (tB (tM1 rStarts (tVar 0) (tC (.str "signs="))))) (tTest (tOp rNe (tM1 rCount (tVar 0) (tC (.str "-"))) (tC (.int 1))))) (tRs (He.ga K "NoRange") E) tNext)
    (tSeq (tAsg (tM1 rSplit (tSl rSlS (tVar 0) (tPart (tC (.int 6))) tNoPart) (tC (.str "-"))) (gLst K 2 (gCons (gName 2) (gCons (gName 3) gNil))))
    (tSeq (tIfS (tTest (tOp rEq (tVar 2) (tC (.str "")))) (tSeq (tAsg (tCB rMinI (tCons (tCall (sp_number_of K) [] E (tCons (tVar 3) tNil)) (tCons (tVar 1) tNil))) (gName 4))
    (tAsg (tOp (rI0 fun i j => .int (i - j)) (tVar 1) (tVar 4)) (gName 5))) (tSeq (tAsg (tCall (sp_number_of K) [] E (tCons (tVar 2) tNil)) (gName 5))
    (tSeq (tAsg (tOp (rI0 fun i j => .int (i - j)) (tVar 1) (tC (.int 1))) (gName 6))
    (tSeq (tIfS (tTest (tOp rNe (tVar 3) (tC (.str "")))) (tSeq (tAsg (tCall (sp_number_of K) [] E (tCons (tVar 3) tNil)) (gName 6))
    (tIfS (tTest (tOp (rI0 fun i j => .bl (decide (i < j))) (tVar 6) (tVar 5))) (tRs (He.ga K "NoRange") E) tNext)) tNext)
    (tAsg (tOp (rI0 fun i j => .int (i + j)) (tOp (rI0 fun i j => .int (i - j)) (tCB rMinI (tCons (tVar 6) (tCons (tOp (rI0 fun i j => .int (i - j)) (tVar 1) (tC (.int 1))) tNil))) (tVar 5)) (tC (.int 1))) (gName 4))))))
    (tSeq (tIfS (tTest (tOp (rI0 fun i j => .bl (decide (i < j))) (tVar 4) (tC (.int 1)))) (tRs (He.ga K "NoRange") E) tNext)
    (tRet (tTup (tCons (tVar 5) (tCons (tVar 4) tNil))))))))
theorem pure_read_range {K : PySem.W.Frag}  {vs : List V} {H : Hp} {Q : VK} {E : XK} (h : sp_read_range K vs H Q E) : t_read_range K E { nx := fun _ H' => Q .non H', rt := Q } (start ["text", "size", "first", "second", "many", "begin", "last"] vs) H := by
  obtain ⟨B, x, n, eb, rfl, hl, r⟩ := h
  have e1 : EvB (tOr (tNot (tB (tM1 rStarts (tVar 0) (tC (.str "signs="))))) (tTest (tOp rNe (tM1 rCount (tVar 0) (tC (.str "-"))) (tC (.int 1))))) [some (.str x), some (.int n), none, none, none, none, none] B H (!headR (tl x)) := EvB.is (evb_or (evb_not (evb_B (evd_starts (evd_varS rfl) evd_cs))) fun _ => (evb_test (evd_neI (evd_count (evd_varS rfl) evd_cs) evd_ci))) (by
    unfold headR
    rw [starts_tl, count_dash, signs_tl, show signsL.length = 6 from rfl]
    cases decide (List.take 6 (tl x) = signsL) with
    | false => rfl
    | true =>
      show (!decide (_ = _)) = !decide (_ = _)
      congr 1
      simp only [decide_eq_decide]
      omega)
  refine q_when e1 eb (fun hb H1 h1 eb1 => ?_) (fun hb H1 h1 eb1 => ?_)
  · have hh : headR (tl x) = false := by simpa using hb
    unfold readR at r
    rw [hh, if_neg (by decide)] at r
    exact r H1 h1
  · have hh : headR (tl x) = true := by simpa using hb
    unfold readR at r
    rw [hh, if_pos rfl] at r
    unfold headR at hh
    obtain ⟨ha, hc⟩ := Bool.and_eq_true_iff.mp hh
    have ha := of_decide_eq_true ha
    have hc := of_decide_eq_true hc
    have hu : (tl x).drop 6 = tl (cutS x (some 6) none) := (cut_from x 6 (by decide)).symm
    have hcu : (tl (cutS x (some 6) none)).count 45 = 1 := by
      rw [← hu]
      rw [← List.take_append_drop 6 (tl x), List.count_append, ha] at hc
      rw [show signsL.count 45 = 0 from by decide] at hc
      omega
    have hul : (cutS x (some 6) none).length ≤ 1000 := Nat.le_trans (cut_len _ _ _) hl
    rw [hu] at r
    have hlen : x.length ≤ 100000 := by omega
    have es : EvD (tM1 rSplit (tSl rSlS (tVar 0) (tPart (tC (.int 6))) tNoPart) (tC (.str "-"))) [some (.str x), some (.int n), none, none, none, none, none] B H1 (.list [.str (ofL (ahead (tl (cutS x (some 6) none)))), .str (ofL (behind (tl (cutS x (some 6) none))))]) := by
      have := evd_split (ta := (tSl rSlS (tVar 0) (tPart (tC (.int 6))) tNoPart)) (tb := (tC (.str "-"))) (σ := [some (.str x), some (.int n), none, none, none, none, none]) (B := B) (H := H1) (evd_slS (evd_varS rfl) (evo_some evd_ci) evo_none) evd_cs (by decide +kernel) (by omega)
      rw [split_dash hcu] at this
      exact this
    have hla : (ofL (ahead (tl (cutS x (some 6) none)))).length ≤ 1000 := by
      rw [len_tl, tl_ofL]
      exact Nat.le_trans (List.Sublist.length_le (List.takeWhile_sublist _)) (by rw [← len_tl]; exact hul)
    have hlb : (ofL (behind (tl (cutS x (some 6) none)))).length ≤ 1000 := by
      rw [len_tl, tl_ofL]
      refine Nat.le_trans (List.Sublist.length_le (List.Sublist.trans (List.drop_sublist _ _) (List.dropWhile_sublist _))) (by rw [← len_tl]; exact hul)
    have hta : tl (ofL (ahead (tl (cutS x (some 6) none)))) = ahead (tl (cutS x (some 6) none)) := tl_ofL _
    have htb : tl (ofL (behind (tl (cutS x (some 6) none)))) = behind (tl (cutS x (some 6) none)) := tl_ofL _
    have hea : ∀ l : List Nat, decide (ofL l = ("" : Str)) = decide (l = []) := fun l => by
      rw [decide_eq_decide]
      constructor
      · intro z; rw [← tl_ofL l, z]; rfl
      · intro z; subst z; rfl
    unfold readU at r
    generalize cutS x (some 6) none = u at *
    generalize hAe : ahead (tl u) = A at *
    generalize hBe : behind (tl u) = C at *
    have fin : ∀ (x0 x1 x2 x3 x6 : Option V) (b m : Int) (H2 : Hp), Ex H H2 → RetX K (resR (finR b m)) B H Q E → (tSeq (tIfS (tTest (tOp (rI0 fun i j => .bl (decide (i < j))) (tVar 4) (tC (.int 1)))) (tRs (He.ga K "NoRange") E) tNext) (tRet (tTup (tCons (tVar 5) (tCons (tVar 4) tNil))))) { nx := fun _ H' => Q .non H', rt := Q } [x0, x1, x2, x3, some (.int m), some (.int b), x6] H2 := by
      intro x0 x1 x2 x3 x6 b m H2 e2 r2
      refine q_when (B := B) (evb_test (evd_B0 (evd_varI rfl) evd_ci)) (eb.trans e2) (fun hb H3 h3 eb3 => ?_) (fun hb H3 h3 eb3 => ?_)
      · unfold finR at r2
        rw [if_pos (of_decide_eq_true hb)] at r2
        exact r2 H3 (e2.trans h3)
      · unfold finR at r2
        rw [if_neg (of_decide_eq_false hb)] at r2
        exact s_ret (B := B) (evd_tup (evs_cons (evd_varI rfl) (evs_cons (evd_varI rfl) evs_nil))) eb3 (Ret.grow r2 (e2.trans h3) (Ext.refl _ _))
    refine EvD.run es eb1 fun v H2 B2 h2 x2 eb2 hv => ?_
    refine tgL2 hv eb2 fun v1 v2 d1 d2 => ?_
    cases d1
    cases d2
    refine q_if (b := decide (A = [])) (EvB.is (B := B) (evb_test (evd_eqS (evd_varS rfl) evd_cs)) (hea A)) (eb1.trans h2) (fun hb H3 h3 eb3 => ?_) (fun hb H3 h3 eb3 => ?_)
    · rw [if_pos (of_decide_eq_true hb)] at r
      have ex := evx_number (K := K) (E := E) (B := B) (H := H3) (σ := [some (.str x), some (.int n), some (.str (ofL A)), some (.str (ofL C)), none, none, none]) (ta := tVar 3) (x := ofL C) (evd_varS rfl) hlb
      rw [htb] at ex
      cases hd : dig C with
      | none =>
        rw [hd] at r ex
        exact ex.no eb3 fun H' e' => r H' ((h1.trans h2).trans (h3.trans e'))
      | some k =>
        rw [hd] at r ex
        refine q_asgI (evd_min ex.ok (evd_varI rfl)) eb3 fun H4 h4 eb4 => ?_
        refine s_asgI (B := B) (evd_I0 (evd_varI rfl) (evd_varI rfl)) eb4 fun H5 h5 eb5 => ?_
        exact fin _ _ _ _ _ _ _ H5 ((((h1.trans h2).trans h3).trans h4).trans h5) r
    · rw [if_neg (of_decide_eq_false hb)] at r
      have ex := evx_number (K := K) (E := E) (B := B) (H := H3) (σ := [some (.str x), some (.int n), some (.str (ofL A)), some (.str (ofL C)), none, none, none]) (ta := tVar 2) (x := ofL A) (evd_varS rfl) hla
      rw [hta] at ex
      cases hd : dig A with
      | none =>
        rw [hd] at r ex
        exact ex.no eb3 fun H' e' => r H' ((h1.trans h2).trans (h3.trans e'))
      | some k =>
        rw [hd] at r ex
        dsimp only at r
        refine q_asgI ex.ok eb3 fun H4 h4 eb4 => ?_
        refine q_asgI (B := B) (evd_I0 (evd_varI rfl) evd_ci) eb4 fun H5 h5 eb5 => ?_
        refine q_when (b := !decide (C = [])) (EvB.is (B := B) (evb_test (evd_neS (evd_varS rfl) evd_cs)) (by rw [hea])) eb5 (fun hb6 H6 h6 eb6 => ?_) (fun hb6 H6 h6 eb6 => ?_)
        · rw [if_neg (by simpa using hb6)] at r
          have ex2 := evx_number (K := K) (E := E) (B := B) (H := H6) (σ := [some (.str x), some (.int n), some (.str (ofL A)), some (.str (ofL C)), none, some (.int k), some (.int (n - 1))]) (ta := tVar 3) (x := ofL C) (evd_varS rfl) hlb
          rw [htb] at ex2
          cases hd2 : dig C with
          | none =>
            rw [hd2] at r ex2
            exact ex2.no eb6 fun H' e' => r H' ((((((h1.trans h2).trans h3).trans h4).trans h5).trans h6).trans e')
          | some l =>
            rw [hd2] at r ex2
            dsimp only at r
            refine q_asgI ex2.ok eb6 fun H7 h7 eb7 => ?_
            refine s_when (B := B) (evb_test (evd_B0 (evd_varI rfl) (evd_varI rfl))) eb7 (fun hb8 H8 h8 eb8 => ?_) (fun hb8 H8 h8 eb8 => ?_)
            · rw [if_pos (of_decide_eq_true hb8)] at r
              exact r H8 (((((((h1.trans h2).trans h3).trans h4).trans h5).trans h6).trans h7).trans h8)
            · rw [if_neg (of_decide_eq_false hb8)] at r
              refine s_asgI (B := B) (evd_I0 (evd_I0 (evd_min (evd_varI rfl) (evd_I0 (evd_varI rfl) evd_ci)) (evd_varI rfl)) evd_ci) eb8 fun H9 h9 eb9 => ?_
              exact fin _ _ _ _ _ _ _ H9 ((((((((h1.trans h2).trans h3).trans h4).trans h5).trans h6).trans h7).trans h8).trans h9) r
        · rw [if_pos (by simpa using hb6)] at r
          refine s_asgI (B := B) (evd_I0 (evd_I0 (evd_min (evd_varI rfl) (evd_I0 (evd_varI rfl) evd_ci)) (evd_varI rfl)) evd_ci) eb6 fun H7 h7 eb7 => ?_
          exact fin _ _ _ _ _ _ _ H7 ((((((h1.trans h2).trans h3).trans h4).trans h5).trans h6).trans h7) r
end GK

namespace GK
open PySem PySem.Spec PyProof.Rows L2
open Evl (Ex ex_l ex_t ex_rd sq_of st_of sz_of sz_lt fresh_back)
theorem starts_tl' (x y : Str) : Txt.startswith x y = decide ((tl x).take (tl y).length = tl y) := by
  unfold Txt.startswith
  rw [StrLaws.subAt_eq, List.drop_zero, ← show (tl y).length = y.length from (len_tl y).symm]
  show (_ && ((tl x).take (tl y).length == tl y)) = _
  by_cases c : (tl x).take (tl y).length = tl y
  · rw [decide_eq_true c, c, beq_self_eq_true, Bool.and_true]
    refine decide_eq_true ?_
    have := congrArg List.length c
    rw [List.length_take] at this
    rw [len_tl x, Nat.zero_add]
    omega
  · rw [decide_eq_false c]
    have : ((tl x).take (tl y).length == tl y) = false := by
      cases h : ((tl x).take (tl y).length == tl y) with
      | false => rfl
      | true => exact absurd (eq_of_beq h) c
    rw [this, Bool.and_false]
theorem cutL_to {α : Type} (l : List α) (n : Nat) : (l.drop 0).take (min n l.length - 0) = l.take n := by
  rw [List.drop_zero, Nat.sub_zero]
  rcases Nat.le_total n l.length with c | c
  · rw [Nat.min_eq_left c]
  · rw [Nat.min_eq_right c, List.take_length, List.take_of_length_le c]
theorem cut_to (x : Str) (n : Nat) : tl (cutS x none (some (n : Int))) = (tl x).take n := by
  rw [tl_cut, sIx_none, sIx_pos (by omega), len_tl, Int.toNat_natCast]
  exact cutL_to _ _
theorem cutS_to (x : Str) (n : Nat) : cutS x none (some (n : Int)) = ofL ((tl x).take n) := str_ext (by rw [cut_to, tl_ofL])
theorem cutD_to (l : List Str) (n : Nat) : cutD (l.map .str) none (some (n : Int)) = (l.take n).map .str := by
  unfold cutD
  rw [sIx_none, sIx_pos (by omega), Int.toNat_natCast, List.map_take]
  exact cutL_to _ _
theorem cut_frm (x : Str) (n : Nat) : tl (cutS x (some (n : Int)) none) = (tl x).drop n := by
  rw [tl_cut, sIx_none, sIx_pos (by omega), Int.toNat_natCast]
  rw [List.take_of_length_le (by rw [List.length_drop, ← len_tl]; omega)]
  rcases Nat.le_total n x.length with c | c
  · rw [Nat.min_eq_left c]
  · rw [Nat.min_eq_right c, List.drop_eq_nil_of_le (by rw [← len_tl]; omega), List.drop_eq_nil_of_le (by rw [← len_tl]; omega)]
theorem take_tw {c : Nat} : ∀ {l : List Nat}, c ∈ l → l.take ((l.takeWhile (· != c)).length + 1) = l.takeWhile (· != c) ++ [c]
  | [], h => by cases h
  | a :: r, h => by
    by_cases e : a = c
    · subst e; simp
    · have hm : c ∈ r := by
        rcases List.mem_cons.mp h with z | z
        · exact absurd z.symm e
        · exact z
      rw [List.takeWhile_cons_of_pos (by simpa using e), List.length_cons, List.take_succ_cons, take_tw hm]; rfl
/-! ### entries -/
def mkOk (m : Str) : Prop := m = "" ∨ ∃ c, c < 256 ∧ m = sign c
def startsB (key pre : Str) : Bool := decide ((tl key).take (tl pre).length = tl pre)
def entS (key pre mark : Str) : Str := match tl mark with
  | [] => key
  | c :: _ => if c ∈ (tl key).drop pre.length then ofL ((tl key).take (pre.length + (((tl key).drop pre.length).takeWhile (· != c)).length + 1)) else key
def entsS (keys : List Str) (pre mark : Str) : List Str := (keys.filter (startsB · pre)).map (entS · pre mark)
def gtS (after e : Str) : Bool := decide (tl after < tl e)
def allE (keys : List Str) (pre mark after : Str) : List Str := (srtS (ddS (entsS keys pre mark))).filter (gtS after)
def pageD (keys : List Str) (pre mark after : Str) (most : Nat) : PyData := .tuple [.tuple (((allE keys pre mark after).take most).map .str), .bool (decide ((most : Int) < ((allE keys pre mark after).length : Int)))]
theorem starts_len {key pre : Str} (h : startsB key pre = true) : pre.length ≤ key.length := by
  have := congrArg List.length (of_decide_eq_true h)
  rw [List.length_take] at this
  rw [len_tl, len_tl]
  omega
theorem entS_len (key pre mark : Str) : (entS key pre mark).length ≤ key.length := by
  unfold entS
  split
  · exact Nat.le_refl _
  · split
    · rw [len_tl, tl_ofL, List.length_take, ← len_tl]; omega
    · exact Nat.le_refl _
theorem ents_len (keys : List Str) (pre mark : Str) : (entsS keys pre mark).length ≤ keys.length := by
  unfold entsS
  rw [List.length_map]
  exact List.length_filter_le _ _
theorem all_len (keys : List Str) (pre mark after : Str) : (allE keys pre mark after).length ≤ keys.length := by
  unfold allE
  refine Nat.le_trans (List.length_filter_le _ _) ?_
  rw [(srt_perm _).length_eq]
  exact Nat.le_trans (dd_len _) (ents_len _ _ _)
theorem all_law (keys : List Str) (pre mark after : Str) : srtS (ddS ((entsS keys pre mark).filter (gtS after))) = allE keys pre mark after := by
  unfold allE
  rw [srt_filter]
  refine srt_ext ((List.perm_ext_iff_of_nodup (dd_nd _) ((dd_nd _).filter _)).mpr fun y => ?_)
  rw [dd_mem, List.mem_filter, List.mem_filter, dd_mem]
theorem all_ext {keys keys' : List Str} (h : ∀ x, x ∈ keys ↔ x ∈ keys') (pre mark after : Str) : allE keys pre mark after = allE keys' pre mark after := by
  unfold allE
  rw [srt_ext (dd_perm fun y => ?_)]
  unfold entsS
  simp only [List.mem_map, List.mem_filter, h]
theorem page_ext {keys keys' : List Str} (h : ∀ x, x ∈ keys ↔ x ∈ keys') (pre mark after : Str) (most : Nat) : pageD keys pre mark after most = pageD keys' pre mark after most := by
  unfold pageD
  rw [all_ext h]
theorem ex_mutF {A H : Hp} {p : Addr} {o : HO} (e : Ex A H) (h : A p = none) : Ex A (upd H p o) := fun a u x => by
  by_cases c : a = p
  · subst c; rw [h] at x; cases x
  · rw [upd_ne c]; exact e a u x
def sp_entry_of (K : PySem.W.Frag) : Sp := fun vs H Q _ => ∃ (B : Hp) (key pre mark : Str), Ex B H ∧ vs = [.str key, .str pre, .str mark] ∧ mkOk mark ∧ key.length ≤ 1000 ∧ pre.length ≤ key.length ∧ Ret (.str (entS key pre mark)) B H Q
theorem len_entry_of {K : PySem.W.Frag} {vs : List V} {H : Hp} {Q : VK} {E : XK} (h : sp_entry_of K vs H Q E) : vs.length = 3 := by
  obtain ⟨_, _, _, _, _, rfl, _⟩ := h; rfl
def t_entry_of (K : PySem.W.Frag) (E : XK) : TS :=
  (tSeq (tIfS (tTest (tOp rEq (tVar 2) (tC (.str "")))) (tRet (tVar 0)) tNext)
    (tSeq (tAsg (tBM K "str" rFind3 (tVar 0) (tCons (tVar 2) (tCons (tCB rLenStr (tCons (tVar 1) tNil)) tNil))) (gName 3))
    (tSeq (tIfS (tTest (tOp (rI0 fun i j => .bl (decide (i < j))) (tVar 3) (tC (.int 0)))) (tRet (tVar 0)) tNext)
    (tRet (tSl rSlS (tVar 0) tNoPart (tPart (tOp (rI0 fun i j => .int (i + j)) (tVar 3) (tC (.int 1)))))))))
theorem pure_entry_of {K : PySem.W.Frag}  {vs : List V} {H : Hp} {Q : VK} {E : XK} (h : sp_entry_of K vs H Q E) : t_entry_of K E { nx := fun _ H' => Q .non H', rt := Q } (start ["key", "prefix", "mark", "place"] vs) H := by
  obtain ⟨B, key, pre, mark, eb, rfl, hm, hl, hp, r⟩ := h
  have hpl : pre.length ≤ 1000000 := by omega
  rcases hm with rfl | ⟨c, hc, rfl⟩
  · refine q_when (b := true) (B := B) (EvB.is (evb_test (evd_eqS (evd_varS rfl) evd_cs)) (by simp)) eb (fun _ H1 h1 eb1 => ?_) (fun z => nomatch z)
    exact s_ret (B := B) (evd_varS rfl) eb1 (Ret.grow r h1 (Ext.refl _ _))
  · refine q_pass (B := B) (EvB.is (evb_test (evd_eqS (evd_varS rfl) evd_cs)) (decide_eq_false (fun z => by have := congrArg Str.length z; exact absurd (show 1 = 0 from this) (by decide)))) eb (fun H1 h1 eb1 => ?_)
    have hent : entS key pre (sign c) = if c ∈ (tl key).drop pre.length then ofL ((tl key).take (pre.length + (((tl key).drop pre.length).takeWhile (· != c)).length + 1)) else key := rfl
    rw [hent] at r
    by_cases hin : c ∈ (tl key).drop pre.length
    · rw [if_pos hin] at r
      refine q_asgI (B := B) (n := ((pre.length + (((tl key).drop pre.length).takeWhile (· != c)).length : Nat) : Int)) (EvD.is (evd_find3 (evd_varS rfl) (evd_varS rfl) (evd_lenS (evd_varS rfl))) (by show PyData.int (Txt.find3 key ⟨#[c]⟩ _) = _; rw [find3_one _ _ _ hp, if_pos hin])) eb1 fun H2 h2 eb2 => ?_
      refine q_pass (B := B) (EvB.is (evb_test (evd_B0 (evd_varI rfl) evd_ci)) (decide_eq_false (by omega))) eb2 fun H3 h3 eb3 => ?_
      refine s_ret (B := B) (d := .str _) (EvD.is (evd_slS (evd_varS rfl) evo_none (evo_some (evd_I0 (evd_varI rfl) evd_ci))) ?_) eb3 (Ret.grow r ((h1.trans h2).trans h3) (Ext.refl _ _))
      rw [← cutS_to]; rfl
    · rw [if_neg hin] at r
      refine q_asgI (B := B) (n := -1) (EvD.is (evd_find3 (evd_varS rfl) (evd_varS rfl) (evd_lenS (evd_varS rfl))) (by show PyData.int (Txt.find3 key ⟨#[c]⟩ _) = _; rw [find3_one _ _ _ hp, if_neg hin])) eb1 fun H2 h2 eb2 => ?_
      refine q_when (b := true) (B := B) (EvB.is (evb_test (evd_B0 (evd_varI rfl) evd_ci)) rfl) eb2 (fun _ H3 h3 eb3 => ?_) (fun z => nomatch z)
      exact s_ret (B := B) (evd_varS rfl) eb3 (Ret.grow r ((h1.trans h2).trans h3) (Ext.refl _ _))
section
variable {K : PySem.W.Frag} {σ : Sig} {B H : Hp} {te ta tb tc td tf : TE} {d : PyData} {E : XK}
theorem cev_entry_of {key pre mark : Str} (ha : EvD ta σ B H (.str key)) (hb : EvD tb σ B H (.str pre)) (hc : EvD tc σ B H (.str mark)) (hm : mkOk mark) (hl : key.length ≤ 1000) (hp : pre.length ≤ key.length) : EvD (tCall (sp_entry_of K) [] E (tCons ta (tCons tb (tCons tc tNil)))) σ B H (.str (entS key pre mark)) := evd_call (evs_cons ha (evs_cons hb (evs_cons hc evs_nil))) fun H1 B1 vs _ _ eb hd Q q => by
  obtain ⟨v, u, w, rfl, hv, hu, hw⟩ := dpa3 hd
  cases hv
  cases hu
  cases hw
  exact ⟨B1, key, pre, mark, eb, rfl, hm, hl, hp, q⟩
end
theorem putK_keys {κ : Type} [DecidableEq κ] (kvs : List (κ × V)) (k : κ) (v : V) : (putK kvs k v).map (·.1) = if k ∈ kvs.map (·.1) then kvs.map (·.1) else kvs.map (·.1) ++ [k] := by
  unfold putK
  by_cases c : k ∈ kvs.map (·.1)
  · rw [if_pos c, if_pos (by
      obtain ⟨x, hx, e⟩ := List.mem_map.mp c
      exact List.any_eq_true.mpr ⟨x, hx, decide_eq_true e⟩), List.map_map]
    refine List.map_congr_left fun x _ => ?_
    show (if x.1 = k then (x.1, v) else x).1 = x.1
    split <;> rfl
  · rw [if_neg c, if_neg (by
      intro z
      obtain ⟨x, hx, e⟩ := List.any_eq_true.mp z
      exact c (List.mem_map.mpr ⟨x, hx, of_decide_eq_true e⟩)), List.map_append]; rfl
theorem put_add {kvs : List (Key × V)} {ks : List Str} (h : kvs.map (·.1) = ks.map Sum.inr) (x : Str) (v : V) : (putK kvs (.inr x) v).map (·.1) = (addS ks x).map Sum.inr := by
  rw [putK_keys, h]
  unfold addS
  by_cases c : x ∈ ks
  · rw [if_pos c, if_pos (List.mem_map.mpr ⟨x, c, rfl⟩)]
  · rw [if_neg c, if_neg (by
      intro z
      obtain ⟨y, hy, e⟩ := List.mem_map.mp z
      exact c (by injection e with e; exact e ▸ hy)), List.map_append]; rfl
theorem ents_snoc (keys : List Str) (k pre mark : Str) : entsS (keys ++ [k]) pre mark = if startsB k pre = true then entsS keys pre mark ++ [entS k pre mark] else entsS keys pre mark := by
  unfold entsS
  rw [List.filter_append]
  by_cases c : startsB k pre = true
  · rw [if_pos c, List.filter_cons_of_pos (p := (startsB · pre)) c, List.map_append]; rfl
  · rw [if_neg c, List.filter_cons_of_neg (p := (startsB · pre)) c]
    show List.map _ (_ ++ []) = _
    rw [List.append_nil]
theorem dd_snoc (l : List Str) (x : Str) : ddS (l ++ [x]) = addS (ddS l) x := by
  unfold ddS
  rw [List.foldl_append]; rfl
theorem take_snoc {α : Type} {l : List α} {i : Nat} {x : α} (h : l[i]? = some x) : l.take (i + 1) = l.take i ++ [x] := by
  rw [List.take_succ, h]; rfl
def sp_listed (K : PySem.W.Frag) : Sp := fun vs H Q _ => ∃ (B : Hp) (v : V) (keys : List Str) (pre mark after : Str) (most : Nat), Ex B H ∧ vs = [v, .str pre, .str mark, .str after, .int (most : Int)] ∧ Da B v (.tuple (keys.map .str)) ∧ mkOk mark ∧ keys.length < 64 ∧ (∀ k ∈ keys, k.length ≤ 1000) ∧ Ret (pageD keys pre mark after most) B H Q
theorem len_listed {K : PySem.W.Frag} {vs : List V} {H : Hp} {Q : VK} {E : XK} (h : sp_listed K vs H Q E) : vs.length = 5 := by
  obtain ⟨_, _, _, _, _, _, _, _, rfl, _⟩ := h; rfl
def t_listed (K : PySem.W.Frag) (E : XK) : TS :=
  (tSeq (tAsg tDNewK (gName 5))
    (tSeq (tFor (iTup K (tVar 0)) (gName 6) (tIfS (tB (tM1 rStarts (tVar 6) (tVar 1))) (sDPut (tVar 5) (tCall (sp_entry_of K) [] E0 (tCons (tVar 6) (tCons (tVar 1) (tCons (tVar 2) tNil)))) (tC (.bl true))) tNext))
    (tSeq (tAsg (tLc (iList K (tCB rSortDS (tCons (tVar 5) tNil))) (gName 8) (tTest (tOp rGtStr (tVar 8) (tVar 3))) (tVar 8) [8]) (gName 7))
    (tRet (tTup (tCons (tCB (rTupleOf K) (tCons (tSl (rSlL K) (tVar 7) tNoPart (tPart (tVar 4))) tNil)) (tCons (tOp (rI0 fun i j => .bl (decide (j < i))) (tCB (rLenSeq K) (tCons (tVar 7) tNil)) (tVar 4)) tNil)))))))
theorem pure_listed {K : PySem.W.Frag}  {vs : List V} {H : Hp} {Q : VK} {E : XK} (h : sp_listed K vs H Q E) : t_listed K E { nx := fun _ H' => Q .non H', rt := Q } (start ["keys", "prefix", "mark", "after", "most", "found", "key", "some", "entry"] vs) H := by
  obtain ⟨B, v, keys, pre, mark, after, most, eb, rfl, hv, hm, hkl, hkx, r⟩ := h
  refine q_dnew fun p hp => ?_
  have bp : B p = none := fresh_back eb hp
  refine q_for (B := B) (src_tup (evd_var rfl (by assumption))) (eb.trans (Ex.new hp)) (fun B1 i σ1 H1 => ∃ (x6 : Option V) (kvs : List (Key × V)), σ1 = [some v, some (.str pre), some (.str mark), some (.str after), some (.int (most : Int)), some (.ref p), x6, none, none] ∧ Ext B H B1 ∧ Ex H H1 ∧ Ex B1 H1 ∧ B1 p = none ∧ H1 p = some (.dK kvs) ∧ kvs.map (·.1) = (ddS (entsS (keys.take i) pre mark)).map Sum.inr)
    (fun H1 B1 e1 x1 eb1 => ⟨_, [], rfl, Ext.trans (Ext.refl _ _) (Ex.new hp) x1, (Ex.new hp).trans e1, eb1, x1.out upd_same bp, e1 _ _ upd_same, rfl⟩) (fun _ _ _ _ _ ⟨_, _, _, _, _, h, _⟩ => h) ?_ ?_
  · rintro B1 i d x σ1 H1 H2 B2 eB hd ⟨x6, kvs, rfl, xB, eH, eb1, bp1, hP, hks⟩ e2 x2 eb2 hx
    rw [List.getElem?_map] at hd
    obtain ⟨key, hkey, rfl⟩ : ∃ key, keys[i]? = some key ∧ d = .str key := by
      cases hk : keys[i]? with
      | none => rw [hk] at hd; cases hd
      | some key => rw [hk] at hd; exact ⟨key, rfl, (Option.some.inj hd).symm⟩
    cases hx
    have hP2 := e2 _ _ hP
    have hlk := hkx key (List.mem_of_getElem? hkey)
    rw [take_snoc hkey] at *
    refine s_when (B := B1) (b := startsB key pre) (EvB.is (evb_B (evd_starts (evd_varS rfl) (evd_varS rfl))) (starts_tl' _ _)) (eb1.trans e2) (fun hb H3 h3 eb3 => ?_) (fun hb H3 h3 eb3 => ?_)
    · have hkk : kvs.length < 100000 := by
        have := congrArg List.length hks
        rw [List.length_map, List.length_map] at this
        have h1 := dd_len (entsS (keys.take i) pre mark)
        have h2 := ents_len (keys.take i) pre mark
        have h3 : (keys.take i).length ≤ keys.length := by rw [List.length_take]; omega
        omega
      refine s_dput (B := B1) rfl (cev_entry_of (evd_varS rfl) (evd_varS rfl) (evd_varS rfl) hm hlk (starts_len hb)) evd_ck eb3 (h3 _ _ hP2) hkk fun u H4 B4 h4 x4 eb4 hu => ?_
      refine ⟨_, _, rfl, xB, ex_mutF (eH.trans ((e2.trans h3).trans h4)) hp, Ex.mut (eb3.trans h4) bp1, bp1, upd_same, ?_⟩
      rw [put_add hks, ents_snoc, if_pos hb, dd_snoc]
    · refine ⟨_, _, rfl, xB, (eH.trans e2).trans h3, eb3, bp1, h3 _ _ hP2, ?_⟩
      rw [ents_snoc, if_neg (by rw [hb]; decide)]
      exact hks
  · rintro B1 σ1 H1 eB ⟨x6, kvs, rfl, xB, eH, eb1, bp1, hP, hks⟩
    rw [List.length_map, List.take_length] at hks
    have h64 : (ddS (entsS keys pre mark)).length < 64 := Nat.lt_of_le_of_lt (Nat.le_trans (dd_len _) (ents_len _ _ _)) hkl
    have es : EvD (tCB rSortDS (tCons (tVar 5) tNil)) [some v, some (.str pre), some (.str mark), some (.str after), some (.int (most : Int)), some (.ref p), x6, none, none] B1 H1 (.list ((srtS (ddS (entsS keys pre mark))).map .str)) := evd_sortDS (evf_var rfl) hP hks h64
    refine q_asg (B := B1) (d := .list ((allE keys pre mark after).map .str)) ?_ eb1 fun u H2 B2 h2 x2 eb2 hu => ?_
    · refine evd_lc (as := srtS (ddS (entsS keys pre mark))) (fun e => .str e) (gtS after) (fun e => .str e) (src_list es) (by rw [(srt_perm _).length_eq]; omega) fun e he y B3 H3 _ _ _ hy R k => ?_
      cases hy
      exact k _ rfl (evb_test (evd_gtS (evd_varS rfl) (evd_varS rfl))) fun _ => (evd_varS rfl)
    · refine s_ret (B := B2) (d := pageD keys pre mark after most) ?_ eb2 (Ret.grow r (eH.trans h2) (Ext.trans xB eH x2))
      refine evd_tup (evs_cons (EvD.is (evd_tupleL (evd_slL (evd_var rfl hu) evo_none (evo_some (evd_varI rfl)))) ?_) (evs_cons (EvD.is (evd_B0 (evd_lenL (evd_var rfl hu)) (evd_varI rfl)) ?_) evs_nil))
      · rw [cutD_to]
      · rw [List.length_map]
section
variable {K : PySem.W.Frag} {σ : Sig} {B H : Hp} {te ta tb tc td tf : TE} {d : PyData} {E : XK}
theorem dpa5 {H : Hp} {vs : List V} {d1 d2 d3 d4 d5 : PyData} (h : DaAll H vs [d1, d2, d3, d4, d5]) : ∃ v1 v2 v3 v4 v5, vs = [v1, v2, v3, v4, v5] ∧ Da H v1 d1 ∧ Da H v2 d2 ∧ Da H v3 d3 ∧ Da H v4 d4 ∧ Da H v5 d5 := by
  cases h with
  | cons h t => obtain ⟨_, _, _, _, rfl, a, b, c, e⟩ := dpa4 t; exact ⟨_, _, _, _, _, rfl, h, a, b, c, e⟩
theorem cev_listed {keys : List Str} {pre mark after : Str} {most : Nat} (ha : EvD ta σ B H (.tuple (keys.map .str))) (hb : EvD tb σ B H (.str pre)) (hc : EvD tc σ B H (.str mark)) (hd : EvD td σ B H (.str after)) (hf : EvD tf σ B H (.int (most : Int))) (hm : mkOk mark) (hl : keys.length < 64) (hx : ∀ k ∈ keys, k.length ≤ 1000) : EvD (tCall (sp_listed K) [] E (tCons ta (tCons tb (tCons tc (tCons td (tCons tf tNil)))))) σ B H (pageD keys pre mark after most) := evd_call (evs_cons ha (evs_cons hb (evs_cons hc (evs_cons hd (evs_cons hf evs_nil))))) fun H1 B1 vs _ _ eb hd Q q => by
  obtain ⟨v1, v2, v3, v4, v5, rfl, h1, h2, h3, h4, h5⟩ := dpa5 hd
  cases h2
  cases h3
  cases h4
  cases h5
  exact ⟨B1, v1, keys, pre, mark, after, most, eb, rfl, h1, hm, hl, hx, q⟩
end
end GK

/-! d.pop(k), k a tuple that is there -/
namespace GKPop
open PySem PySem.Spec PyProof.Rows L2
section
variable {prog : Program} {w : World} {K : Type} [DecidableEq K] {knd : HeapKind prog w K}
theorem meets1 {d b : Addr} {k : K} (hd : (d == sysModules) = false) :
    MeetsIn prog w (Builtin.«dict.pop» ⟨[.ref d, .ref b], []⟩) (fun A R s => ∃ xs p, knd.room A.in1 ∧ knd.is s.heap k b ∧ s.heap.DictOfH knd d xs ∧ xs.length ≤ sizeLine ∧ atKey xs k = some p ∧
      ∀ h' tk, h'.DictOfH knd d (DT.dropH xs k) → Heap.SameBut d s.heap h' → R (.ok (.ret p.2)) { s with heap := h', toks := tk }) :=
  .of_wp fun A R s ⟨xs, p, hu, hkey, hm, hsz, hp0, hsome⟩ => by
    obtain ⟨o, es, ep, ho, hc, hdat, he, his, hn⟩ := id hm
    have hes : es.size = xs.length := size_of_entries he
    have hpart : (keyPart (Value.ref b)).isSome = false := rfl
    unfold Builtin.«dict.pop»
    refine wpAny_bind ?_
    unfold Builtin.Dict.keyAndDefault
    refine wpAny_bind (wpAny_notOrdered_dict hm.typeIs ?_)
    show wpAny _ _ (pure (d, Value.ref b, none)) _ _ s
    refine wpAny_pure ?_
    simp only [hpart, Bool.false_eq_true, if_false]
    refine wpAny_bind (wpAny_dictEntries ho hdat (wpAny_bind (wpAny_pure ?_)))
    cases hem : es.isEmpty with
    | true =>
      have h0 : xs = [] := by
        have z : es.size = 0 := by simpa using hem
        exact List.length_eq_zero_iff.mp (by omega)
      rw [h0] at hp0
      cases hp0
    | false =>
      simp only [Bool.false_eq_true, if_false]
      refine wpAny_bind (DT.takeH hu hkey hm hsz (fun hno => ?_) fun p' e hp hev h' hm' hs' => ?_)
      · rw [hno] at hp0; cases hp0
      · rw [hp0] at hp
        cases hp
        simp only [Option.isNone_some, Bool.false_eq_true, if_false]
        exact wpAny_bind (wpAny_letGo (wpAny_pure ⟨e.val, rfl, by rw [hev]; exact hsome h' _ hm' hs'⟩))
end
end GKPop
namespace GK
open PySem PySem.Spec PyProof.Rows L2
def tDPopT (td ty : TE) : TE := fun σ H Q => td σ H fun x H1 => ∃ a, x = .ref a ∧ IsD H1 a ∧ ty σ H1 fun y H2 => ∃ kvs k b v, H2 a = some (.dT kvs) ∧ y = .ref b ∧ H2 b = some (.tup (k.map kV)) ∧ valV kvs k = some v ∧ Q v (upd H2 a (.dT (dropK kvs k)))
theorem pe_dpopT {X : Cx} {o e : Expr} {apos cpos : Pos} {td ty : TE} (hu : X.A.units + 1 < cLine) (ho : PE X o td) (he : PE X e ty) (m : M1 X o "pop" apos e cpos) : PE X (.Call (.Attribute o "pop" apos) [e] [] cpos) (tDPopT td ty) := by
  refine ⟨fun pins s σ H Q I h => ?_⟩
  refine wpAny_Call_method m.base m.few m.line PySem.F.plainAttrs_dict PySem.F.slot_dict_pop PySem.F.type_dict_pop (thn (ho.run pins s σ H _ I h) fun u s1 ⟨x, H1, I1, rx, a, ex, d, q1⟩ => ?_)
  subst ex
  obtain rfl : u = Value.ref a := rx
  obtain ⟨t1, t2, _⟩ := isD_at I1 d
  refine ⟨t1, t2, ?_⟩
  rw [m.trees]
  refine Calls.callWith_builtin rfl (Calls.evalArgs_plain (Calls.spliced_cons (thn (he.run pins s1 σ H1 _ I1 q1) fun iv s2 ⟨y, H2, I2, ry, kvs, k, b, v, ea, ey, eb, l, q2⟩ => Calls.spliced_nil ?_)))
  subst ey
  cases (show iv = Value.ref b from ry)
  obtain ⟨z, hd, xs', rel, dd⟩ := dt_of I2.hok ea
  have hz : xs'.length ≤ sizeLine := by rw [← Paired.length rel]; exact z
  have r := rel.val k
  rw [l] at r
  obtain ⟨p, hp, rv⟩ : ∃ p, atKey xs' k = some p ∧ RelV v p.2 := by
    cases ev : atKey xs' k with
    | none =>
      rw [ev] at r
      exact (show False from r).elim
    | some p =>
      rw [ev] at r
      exact ⟨p, rfl, r⟩
  refine call_meetsIn PySem.F.slot_dict_pop dd.typeIs PySem.F.entry_dict_pop (PySem.F.args_dict_pop_2 _ _) (GKPop.meets1 (knd := tupleKind (mixKind X.prog X.w)) (k := k) hd)
    ⟨xs', p, tupleKind_room_in1 hu, key_of I2.hok eb, dd, hz, hp, fun h' tk dd' hs => ?_⟩
  obtain ⟨o', es, ep, hq, h2, h3, h4, _, h5⟩ := dd'
  have I3 : Inv X pins σ (upd H2 a (.dT (dropK kvs k))) { s2 with heap := h', toks := tk } :=
    d_write I2 (by rw [ea]; exact True.intro) hs ⟨o', hq⟩ ⟨Nat.le_trans (dropK_le kvs k) z, hd, _, (L2.DX.KT_drop k rel).keeps (fun c ys ec => (by rw [upd_ne (ne_of ec ea (fun z => nomatch z))]; exact ec)), o', es, ep, hq, h2, h3, h4, h5⟩
  exact ⟨v, _, I3, rv, q2⟩
end GK

namespace GK
open PySem PySem.Spec PyProof.Rows L2
open Evl (Ex ex_l ex_t ex_rd sq_of st_of sz_of sz_lt fresh_back)
/-! ### tables -/
section
variable {κ α β : Type} [DecidableEq κ]
def aGet (l : List (κ × α)) (k : κ) : Option α := (l.find? fun p => decide (p.1 = k)).map (·.2)
def aPut (l : List (κ × α)) (k : κ) (a : α) : List (κ × α) := if (l.any fun p => decide (p.1 = k)) = true then l.map (fun p => if p.1 = k then (p.1, a) else p) else l ++ [(k, a)]
def aDel (l : List (κ × α)) (k : κ) : List (κ × α) := l.filter fun p => decide (p.1 ≠ k)
theorem aGet_nil {k : κ} : aGet ([] : List (κ × α)) k = none := rfl
theorem aGet_pos {k : κ} {a : α} {l : List (κ × α)} : aGet ((k, a) :: l) k = some a := by simp [aGet]
theorem aGet_neg {k j : κ} {a : α} {l : List (κ × α)} (h : j ≠ k) : aGet ((j, a) :: l) k = aGet l k := by simp [aGet, h]
theorem aGet_cons {k j : κ} {a : α} {l : List (κ × α)} : aGet ((j, a) :: l) k = if j = k then some a else aGet l k := by
  by_cases h : j = k
  · subst h; rw [if_pos rfl, aGet_pos]
  · rw [if_neg h, aGet_neg h]
theorem aAny (k : κ) : ∀ l : List (κ × α), (l.any fun p => decide (p.1 = k)) = (aGet l k).isSome
  | [] => rfl
  | (j, a) :: r => by
    rw [List.any_cons, aAny k r]
    by_cases h : j = k
    · subst h; rw [aGet_pos]; simp
    · rw [aGet_neg h]; simp [h]
theorem aGet_map (k j : κ) (a : α) : ∀ l : List (κ × α), aGet (l.map fun p => if p.1 = k then (p.1, a) else p) j = (aGet l j).map fun x => if j = k then a else x
  | [] => rfl
  | (i, b) :: r => by
    rw [List.map_cons]
    by_cases h : i = k
    · rw [if_pos h]
      by_cases e : i = j
      · subst e; rw [aGet_pos, aGet_pos]; simp [h]
      · rw [aGet_neg e, aGet_neg e, aGet_map k j a r]
    · rw [if_neg h]
      by_cases e : i = j
      · subst e; rw [aGet_pos, aGet_pos]; simp [h]
      · rw [aGet_neg e, aGet_neg e, aGet_map k j a r]
theorem aGet_app (k : κ) : ∀ (l m : List (κ × α)), aGet (l ++ m) k = (aGet l k).or (aGet m k)
  | [], m => by rw [aGet_nil]; rfl
  | (i, b) :: r, m => by
    rw [List.cons_append]
    by_cases e : i = k
    · subst e; rw [aGet_pos, aGet_pos]; rfl
    · rw [aGet_neg e, aGet_neg e, aGet_app k r m]
theorem aGet_put (l : List (κ × α)) (k j : κ) (a : α) : aGet (aPut l k a) j = if j = k then some a else aGet l j := by
  unfold aPut
  rw [aAny]
  cases h : aGet l k with
  | none =>
    rw [if_neg (by simp), aGet_app, aGet_cons, aGet_nil]
    by_cases e : j = k
    · subst e; rw [h, if_pos rfl]; simp
    · rw [if_neg (fun z => e z.symm), if_neg e]; cases aGet l j <;> rfl
  | some b =>
    rw [if_pos (by simp), aGet_map]
    by_cases e : j = k
    · subst e; rw [h, if_pos rfl]; simp
    · rw [if_neg e]; cases aGet l j <;> simp [e]
theorem aGet_del (k j : κ) : ∀ l : List (κ × α), aGet (aDel l k) j = if j = k then none else aGet l j
  | [] => by rw [aGet_nil]; split <;> rfl
  | (i, b) :: r => by
    unfold aDel
    by_cases h : i = k
    · rw [List.filter_cons_of_neg (by simp [h])]
      rw [show List.filter _ r = aDel r k from rfl, aGet_del k j r]
      by_cases e : j = k
      · rw [if_pos e, if_pos e]
      · rw [if_neg e, if_neg e, aGet_neg (fun z => e (z.symm.trans h))]
    · rw [List.filter_cons_of_pos (by simp [h])]
      rw [show List.filter _ r = aDel r k from rfl, aGet_cons, aGet_del k j r]
      by_cases e : i = j
      · subst e; rw [if_pos rfl, if_neg h, aGet_pos]
      · rw [if_neg e, aGet_neg e]
theorem aPut_len (l : List (κ × α)) (k : κ) (a : α) : (aPut l k a).length ≤ l.length + 1 := by
  unfold aPut
  split
  · rw [List.length_map]; omega
  · rw [List.length_append]; exact Nat.le_refl _
theorem aPut_in {l : List (κ × α)} {k : κ} {a b : α} (h : aGet l k = some b) : aPut l k a = l.map fun p => if p.1 = k then (p.1, a) else p := by
  unfold aPut
  rw [aAny, h]
  rfl
theorem aPut_new {l : List (κ × α)} {k : κ} {a : α} (h : aGet l k = none) : aPut l k a = l ++ [(k, a)] := by
  unfold aPut
  rw [aAny, h]
  rfl
theorem aPut_lenIn {l : List (κ × α)} {k : κ} {a : α} (h : aGet l k ≠ none) : (aPut l k a).length = l.length := by
  unfold aPut
  rw [aAny, if_pos, List.length_map]
  cases e : aGet l k with
  | none => exact absurd e h
  | some b => rfl
theorem aDel_len (l : List (κ × α)) (k : κ) : (aDel l k).length ≤ l.length := List.length_filter_le _ _
theorem aPut_mem {l : List (κ × α)} {k : κ} {a : α} {p : κ × α} (h : p ∈ aPut l k a) : p ∈ l ∨ p = (k, a) := by
  unfold aPut at h
  split at h
  · obtain ⟨q, hq, e⟩ := List.mem_map.mp h
    by_cases c : q.1 = k
    · rw [if_pos c] at e; right; rw [← e, c]
    · rw [if_neg c] at e; left; rw [← e]; exact hq
  · rcases List.mem_append.mp h with h | h
    · exact .inl h
    · exact .inr (List.mem_singleton.mp h)
theorem aDel_mem {l : List (κ × α)} {k : κ} {p : κ × α} (h : p ∈ aDel l k) : p ∈ l := (List.mem_filter.mp h).1
theorem aGet_mem {l : List (κ × α)} {k : κ} {a : α} (h : aGet l k = some a) : (k, a) ∈ l := by
  induction l with
  | nil => cases h
  | cons p r ih =>
    obtain ⟨j, b⟩ := p
    by_cases e : j = k
    · subst e; rw [aGet_pos] at h; cases h; exact List.mem_cons_self
    · rw [aGet_neg e] at h; exact List.mem_cons_of_mem _ (ih h)
theorem aGet_keys {l : List (κ × α)} {k : κ} : aGet l k ≠ none ↔ k ∈ l.map (·.1) := by
  induction l with
  | nil => simp [aGet_nil]
  | cons p r ih =>
    obtain ⟨j, b⟩ := p
    rw [aGet_cons, List.map_cons, List.mem_cons]
    by_cases e : j = k
    · rw [if_pos e]; simp [e]
    · rw [if_neg e, ih]
      constructor
      · exact .inr
      · rintro (z | z)
        · exact absurd z.symm e
        · exact z
theorem aPut_keys (l : List (κ × α)) (k : κ) (a : α) : (aPut l k a).map (·.1) = if k ∈ l.map (·.1) then l.map (·.1) else l.map (·.1) ++ [k] := by
  unfold aPut
  rw [aAny]
  by_cases h : k ∈ l.map (·.1)
  · rw [if_pos h, if_pos (by
      have := aGet_keys.mpr h
      cases e : aGet l k with
      | none => exact absurd e this
      | some b => rfl), List.map_map]
    refine List.map_congr_left fun p _ => ?_
    show (if p.1 = k then (p.1, a) else p).1 = p.1
    split <;> rfl
  · rw [if_neg h, if_neg, List.map_append]
    · rfl
    · intro z
      apply h
      apply aGet_keys.mp
      intro e
      rw [e] at z
      cases z
theorem aPut_nodup {l : List (κ × α)} {k : κ} {a : α} (h : (l.map (·.1)).Nodup) : ((aPut l k a).map (·.1)).Nodup := by
  rw [aPut_keys]
  split
  · exact h
  · rename_i c
    rw [List.nodup_append]
    refine ⟨h, by simp, fun x hx y hy => ?_⟩
    rw [List.mem_singleton.mp hy]
    intro z; rw [z] at hx; exact c hx
theorem aDel_nodup {l : List (κ × α)} {k : κ} (h : (l.map (·.1)).Nodup) : ((aDel l k).map (·.1)).Nodup := h.sublist (List.Sublist.map _ List.filter_sublist)
theorem aGet_in {l : List (κ × α)} {k : κ} {a : α} (n : (l.map (·.1)).Nodup) (h : (k, a) ∈ l) : aGet l k = some a := by
  induction l with
  | nil => cases h
  | cons p r ih =>
    obtain ⟨j, b⟩ := p
    rw [List.map_cons, List.nodup_cons] at n
    rcases List.mem_cons.mp h with z | z
    · cases z; exact aGet_pos
    · rw [aGet_neg]
      · exact ih n.2 z
      · intro e
        apply n.1
        rw [show (j, b).1 = k from e]
        exact List.mem_map.mpr ⟨_, z, rfl⟩
end
inductive Tab {κ κ' α β : Type} (ck : κ → κ') (rel : β → α → Prop) : List (κ' × β) → List (κ × α) → Prop
  | nil : Tab ck rel [] []
  | cons {k : κ} {v : β} {a : α} {kvs : List (κ' × β)} {l : List (κ × α)} : rel v a → Tab ck rel kvs l → Tab ck rel ((ck k, v) :: kvs) ((k, a) :: l)
section
variable {κ κ' α β : Type} [DecidableEq κ] [DecidableEq κ'] {ck : κ → κ'} {rel rel' : β → α → Prop}
theorem Tab.len : ∀ {kvs : List (κ' × β)} {l : List (κ × α)}, Tab ck rel kvs l → kvs.length = l.length
  | _, _, .nil => rfl
  | _, _, .cons _ t => by rw [List.length_cons, List.length_cons, t.len]
theorem Tab.keys : ∀ {kvs : List (κ' × β)} {l : List (κ × α)}, Tab ck rel kvs l → kvs.map (·.1) = (l.map (·.1)).map ck
  | _, _, .nil => rfl
  | _, _, .cons _ t => by rw [List.map_cons, List.map_cons, List.map_cons, t.keys]
theorem Tab.mono (h : ∀ v a, rel v a → rel' v a) : ∀ {kvs : List (κ' × β)} {l : List (κ × α)}, Tab ck rel kvs l → Tab ck rel' kvs l
  | _, _, .nil => .nil
  | _, _, .cons r t => .cons (h _ _ r) (t.mono h)
theorem Tab.monoIn : ∀ {kvs : List (κ' × β)} {l : List (κ × α)}, Tab ck rel kvs l → (∀ p ∈ kvs, ∀ a, rel p.2 a → rel' p.2 a) → Tab ck rel' kvs l
  | _, _, .nil, _ => .nil
  | _, _, .cons r t, h => .cons (h _ List.mem_cons_self _ r) (t.monoIn fun p hp => h p (List.mem_cons_of_mem _ hp))
theorem Tab.getA (hc : ∀ x y, ck x = ck y → x = y) {k : κ} : ∀ {kvs : List (κ' × β)} {l : List (κ × α)}, Tab ck rel kvs l → (aGet kvs (ck k) = none ∧ aGet l k = none) ∨ ∃ v a, aGet kvs (ck k) = some v ∧ aGet l k = some a ∧ rel v a
  | _, _, .nil => .inl ⟨rfl, rfl⟩
  | _, _, .cons (k := j) (v := v) (a := a) r t => by
    by_cases e : j = k
    · subst e; exact .inr ⟨v, a, aGet_pos, aGet_pos, r⟩
    · rw [aGet_neg (fun z => e (hc _ _ z)), aGet_neg e]; exact t.getA hc
theorem Tab.mapPut (hc : ∀ x y, ck x = ck y → x = y) {k : κ} {v : β} {a : α} (r : rel v a) : ∀ {kvs : List (κ' × β)} {l : List (κ × α)}, Tab ck rel kvs l → Tab ck rel (kvs.map fun kv => if kv.1 = ck k then (kv.1, v) else kv) (l.map fun p => if p.1 = k then (p.1, a) else p)
  | _, _, .nil => .nil
  | _, _, .cons (k := j) r2 t2 => by
    rw [List.map_cons, List.map_cons]
    by_cases e : j = k
    · subst e; rw [if_pos rfl, if_pos rfl]; exact .cons r (t2.mapPut hc r)
    · rw [if_neg (fun z => e (hc _ _ z)), if_neg e]; exact .cons r2 (t2.mapPut hc r)
theorem Tab.app : ∀ {kvs kvs' : List (κ' × β)} {l l' : List (κ × α)}, Tab ck rel kvs l → Tab ck rel kvs' l' → Tab ck rel (kvs ++ kvs') (l ++ l')
  | _, _, _, _, .nil, h => h
  | _, _, _, _, .cons r t, h => .cons r (t.app h)
theorem Tab.putA (hc : ∀ x y, ck x = ck y → x = y) {k : κ} {v : β} {a : α} {kvs : List (κ' × β)} {l : List (κ × α)} (t : Tab ck rel kvs l) (r : rel v a) : Tab ck rel (aPut kvs (ck k) v) (aPut l k a) := by
  have e : (kvs.any fun kv => decide (kv.1 = ck k)) = (l.any fun p => decide (p.1 = k)) := by
    rw [aAny, aAny]
    rcases t.getA hc (k := k) with ⟨h1, h2⟩ | ⟨v, a, h1, h2, _⟩ <;> rw [h1, h2] <;> rfl
  unfold aPut
  rw [e]
  split
  · exact t.mapPut hc r
  · exact t.app (.cons r .nil)
theorem Tab.delA (hc : ∀ x y, ck x = ck y → x = y) {k : κ} : ∀ {kvs : List (κ' × β)} {l : List (κ × α)}, Tab ck rel kvs l → Tab ck rel (aDel kvs (ck k)) (aDel l k)
  | _, _, .nil => .nil
  | _, _, .cons (k := j) r t => by
    unfold aDel
    by_cases e : j = k
    · subst e; rw [List.filter_cons_of_neg (by simp), List.filter_cons_of_neg (by simp)]; exact t.delA hc
    · rw [List.filter_cons_of_pos (by simp only [decide_eq_true_eq]; exact fun z => e (hc _ _ z)), List.filter_cons_of_pos (by simpa using e)]; exact .cons r (t.delA hc)
end
section
variable {κ κ' α : Type} [DecidableEq κ] [DecidableEq κ'] {ck : κ → κ'} {rel : V → α → Prop}
theorem Tab.get (hc : ∀ x y, ck x = ck y → x = y) {k : κ} {kvs : List (κ' × V)} {l : List (κ × α)} (t : Tab ck rel kvs l) : (valV kvs (ck k) = none ∧ aGet l k = none) ∨ ∃ v a, valV kvs (ck k) = some v ∧ aGet l k = some a ∧ rel v a := t.getA hc
theorem Tab.put (hc : ∀ x y, ck x = ck y → x = y) {k : κ} {v : V} {a : α} {kvs : List (κ' × V)} {l : List (κ × α)} (t : Tab ck rel kvs l) (r : rel v a) : Tab ck rel (putK kvs (ck k) v) (aPut l k a) := t.putA hc r
theorem Tab.del (hc : ∀ x y, ck x = ck y → x = y) {k : κ} {kvs : List (κ' × V)} {l : List (κ × α)} (t : Tab ck rel kvs l) : Tab ck rel (dropK kvs (ck k)) (aDel l k) := t.delA hc
end
theorem inr_inj (x y : Str) (h : (Sum.inr x : Key) = .inr y) : x = y := Sum.inr.inj h
theorem inl_inj (x y : Int) (h : (Sum.inl x : Key) = .inl y) : x = y := Sum.inl.inj h
def untK (k : Str × Int) : List Key := [.inr k.1, .inl k.2]
theorem untK_inj (x y : Str × Int) (h : untK x = untK y) : x = y := by
  obtain ⟨a, b⟩ := x
  obtain ⟨c, d⟩ := y
  unfold untK at h
  simp only [List.cons.injEq, Sum.inr.injEq, Sum.inl.injEq, and_true] at h
  obtain ⟨rfl, rfl⟩ := h
  rfl
/-! ### what a change may touch -/
structure Only (L : List Addr) (H H' : Hp) : Prop where
  k : ∀ p o, H p = some o → p ∉ L → H' p = some o
  d : ∀ p, H p ≠ none → H' p ≠ none
theorem Only.of {L : List Addr} {H H' : Hp} (e : Ex H H') : Only L H H' := ⟨fun p o h _ => e p o h, fun p h => by
  cases c : H p with
  | none => exact absurd c h
  | some o => rw [e p o c]; exact fun z => nomatch z⟩
theorem Only.refl {L : List Addr} {H : Hp} : Only L H H := ⟨fun _ _ h _ => h, fun _ h => h⟩
theorem Only.trans {L : List Addr} {H H' H2 : Hp} (a : Only L H H') (b : Only L H' H2) : Only L H H2 := ⟨fun p o h n => b.k p o (a.k p o h n) n, fun p h => b.d p (a.d p h)⟩
theorem Only.mono {L L' : List Addr} {H H' : Hp} (a : Only L H H') (s : ∀ p ∈ L, p ∈ L') : Only L' H H' := ⟨fun p o h n => a.k p o h fun z => n (s p z), a.d⟩
theorem Only.put {L : List Addr} {H : Hp} {p : Addr} {o : HO} (h : p ∈ L) : Only L H (upd H p o) := ⟨fun q u e n => by
  rw [upd_ne (fun (z : q = p) => n (by rw [z]; exact h))]; exact e, fun q hq => by
  by_cases c : q = p
  · subst c; rw [upd_same]; exact fun z => nomatch z
  · rw [upd_ne c]; exact hq⟩
theorem Only.nil {H H' : Hp} (a : Only [] H H') : Ex H H' := fun p o h => a.k p o h (by simp)
/-- behind a change: what is new there may be changed, too -/
theorem Only.next {L L' : List Addr} {H H' H2 : Hp} (a : Only L H H') (f : ∀ p ∈ L', p ∈ L ∨ H p = none) (b : Only L' H' H2) : Only L H H2 := ⟨fun p o h n => b.k p o (a.k p o h n) (fun z => (f p z).elim n (fun c => by rw [c] at h; cases h)), fun p h => b.d p (a.d p h)⟩
theorem fresh_next {L L' L2 : List Addr} {H H' : Hp} (a : Only L H H') (f : ∀ p ∈ L', p ∈ L ∨ H p = none) (g : ∀ p ∈ L2, p ∈ L' ∨ H' p = none) : ∀ p ∈ L2, p ∈ L ∨ H p = none := fun p hp => by
  rcases g p hp with c | c
  · exact f p c
  · refine .inr ?_
    cases h : H p with
    | none => rfl
    | some o => exact absurd c (a.d p (by rw [h]; exact fun z => nomatch z))
/-- an extension behind a change -/
theorem Ext.only {B H B' H' B2 : Hp} {L : List Addr} (a : Ext B H B') (o : Only L H H') (b : Ext B' H' B2) : Ext B H B2 := ⟨a.1.trans b.1, fun p hp => by rw [b.2 p (o.d p hp), a.2 p hp]⟩
/-! ### classes: what a field's reading asks -/
structure ClsF (K : PySem.W.Frag) (C : Str) (fs : List Str) : Prop where
  c : Cls K (He.ga K C)
  f : ∀ x ∈ fs, NoAttr K (He.ga K C) x
def keyD : Key → PyData
  | .inr s => .str s
  | .inl n => .int n
theorem key_da {B : Hp} {v : V} {k : Key} (h : Da B v (keyD k)) : v = kV k := by
  cases k with
  | inl n => cases h; rfl
  | inr s => cases h; rfl
theorem unt_da {B : Hp} {v : V} {k : Str × Int} (h : Da B v (.tuple [.str k.1, .int k.2])) : ∃ b, v = .ref b ∧ B b = some (.tup ((untK k).map kV)) := by
  obtain ⟨b, xs, rfl, hb, hx⟩ := dpt h
  obtain ⟨v, u, rfl, hv, hu⟩ := dpa2 hx
  cases hv
  cases hu
  exact ⟨b, rfl, hb⟩
section
variable {K : PySem.W.Frag} {σ : Sig} {B H : Hp} {ta td ty tx tv te : TE} {tr : TA} {d : PyData} {E : XK} {a C rd : Addr} {dx : Addr} {fs : List (Str × V)} {f m : Str} {v : V} {D : Ends} {tz : TS}
theorem evf_fld {Cn : Str} {L : List Str} (h : EvF ta σ H (.ref a)) (ha : H a = some (.ins (He.ga K Cn) dx fs)) (cf : ClsF K Cn L) (hf : f ∈ L) (hl : fs.lookup f = some v) : EvF (tFld K ta f) σ H v := fun H1 e Q q => h H1 e _ fun H2 e2 =>
  ⟨a, _, dx, fs, v, rfl, e2 _ _ (e _ _ ha), cf.c, cf.f f hf, hl, q H2 e2⟩
theorem evf_dget {kvs : List (Key × V)} {k : Key} (hd : EvF td σ H (.ref rd)) (hk : EvD ty σ B H (keyD k)) (eb : Ex B H) (hr : Rd H rd (.dK kvs)) (hv : valV kvs k = some v) : EvF (tDGet td ty) σ H v := fun H1 e Q q => hd H1 e _ fun H2 e2 =>
  hk.flat (fun _ _ => key_da) (e.trans e2) (eb.trans (e.trans e2)) fun H3 e3 => ⟨rd, v, rfl, .inl ⟨kvs, k, ex_rd ((e.trans e2).trans e3) hr, rfl, hv.symm⟩, q H3 (e2.trans e3)⟩
theorem evd_dget {kvs : List (Key × V)} {k : Key} (hd : EvF td σ H (.ref rd)) (hk : EvD ty σ B H (keyD k)) (hr : Rd H rd (.dK kvs)) (hv : valV kvs k = some v) (hw : Da B v d) : EvD (tDGet td ty) σ B H d := fun H1 e eb Q q => hd H1 e _ fun H2 e2 =>
  hk.flat (fun _ _ => key_da) (e.trans e2) (eb.trans e2) fun H3 e3 => ⟨rd, v, rfl, .inl ⟨kvs, k, ex_rd ((e.trans e2).trans e3) hr, rfl, hv.symm⟩, q v H3 B (e2.trans e3) (Ext.refl _ _) (eb.trans (e2.trans e3)) hw⟩
theorem evd_dgetT {kvs : List (List Key × V)} {k : Str × Int} (hd : EvF td σ H (.ref rd)) (hk : EvD ty σ B H (.tuple [.str k.1, .int k.2])) (hr : Rd H rd (.dT kvs)) (hv : valV kvs (untK k) = some v) (hw : Da B v d) : EvD (tDGet td ty) σ B H d := fun H1 e eb Q q => hd H1 e _ fun H2 e2 =>
  hk.mono (Ex.refl _) (e.trans e2) H2 (Ex.refl _) (eb.trans e2) _ fun y H3 B3 e3 x3 eb3 hy => by
    obtain ⟨b, rfl, hb⟩ := unt_da hy
    exact ⟨rd, v, rfl, .inr ⟨kvs, untK k, b, ex_rd ((e.trans e2).trans e3) hr, rfl, eb3 _ _ hb, hv.symm⟩, q v H3 B3 (e2.trans e3) (Ext.trans (Ext.refl _ _) e2 x3) eb3 (hw.ex' x3.1)⟩
theorem evd_dget2 {kvs : List (Key × V)} {k : Key} {dx : PyData} (hd : EvF td σ H (.ref rd)) (hk : EvD ty σ B H (keyD k)) (hx : EvD tx σ B H dx) (hr : Rd H rd (.dK kvs)) (hv : (valV kvs k = none ∧ d = dx) ∨ ∃ v, valV kvs k = some v ∧ Da B v d) : EvD (tDGet2 td ty tx) σ B H d := fun H1 e eb Q q => hd H1 e _ fun H2 e2 =>
  ⟨rd, rfl, .inl ⟨kvs, ex_rd (e.trans e2) hr⟩, hk H2 (e.trans e2) (eb.trans e2) _ fun y H3 B3 e3 x3 eb3 hy => by
    cases key_da hy
    refine hx.mono x3.1 ((e.trans e2).trans e3) H3 (Ex.refl _) eb3 _ fun z H4 B4 e4 x4 eb4 hz => ?_
    have eH : Ex H H4 := ((e.trans e2).trans e3).trans e4
    refine ⟨_, .inl ⟨kvs, k, ex_rd eH hr, rfl, rfl⟩, ?_⟩
    have x14 : Ext B H1 B4 := Ext.trans (Ext.trans (Ext.refl _ _) e2 x3) (e2.trans e3) x4
    rcases hv with ⟨h1, rfl⟩ | ⟨v, h1, hv⟩
    · rw [h1]; exact q _ H4 B4 ((e2.trans e3).trans e4) x14 eb4 hz
    · rw [h1]; exact q _ H4 B4 ((e2.trans e3).trans e4) x14 eb4 (hv.ex' x14.1)⟩
theorem evd_dget2T {kvs : List (List Key × V)} {k : Str × Int} {dx : PyData} (hd : EvF td σ H (.ref rd)) (hk : EvD ty σ B H (.tuple [.str k.1, .int k.2])) (hx : EvD tx σ B H dx) (hr : Rd H rd (.dT kvs)) (hv : (valV kvs (untK k) = none ∧ d = dx) ∨ ∃ v, valV kvs (untK k) = some v ∧ Da B v d) : EvD (tDGet2 td ty tx) σ B H d := fun H1 e eb Q q => hd H1 e _ fun H2 e2 =>
  ⟨rd, rfl, .inr ⟨kvs, ex_rd (e.trans e2) hr⟩, hk H2 (e.trans e2) (eb.trans e2) _ fun y H3 B3 e3 x3 eb3 hy => by
    obtain ⟨b, rfl, hb⟩ := unt_da hy
    refine hx.mono x3.1 ((e.trans e2).trans e3) H3 (Ex.refl _) eb3 _ fun z H4 B4 e4 x4 eb4 hz => ?_
    have eH : Ex H H4 := ((e.trans e2).trans e3).trans e4
    refine ⟨_, .inr ⟨kvs, untK k, b, ex_rd eH hr, rfl, eb4 _ _ (x4.1 _ _ hb), rfl⟩, ?_⟩
    have x14 : Ext B H1 B4 := Ext.trans (Ext.trans (Ext.refl _ _) e2 x3) (e2.trans e3) x4
    rcases hv with ⟨h1, rfl⟩ | ⟨v, h1, hv⟩
    · rw [h1]; exact q _ H4 B4 ((e2.trans e3).trans e4) x14 eb4 hz
    · rw [h1]; exact q _ H4 B4 ((e2.trans e3).trans e4) x14 eb4 (hv.ex' x14.1)⟩
theorem evd_din {kvs : List (Key × V)} {k : Key} (hk : EvD ty σ B H (keyD k)) (hd : EvF td σ H (.ref rd)) (hr : Rd H rd (.dK kvs)) : EvD (tDIn ty td) σ B H (.bool (valV kvs k).isSome) := fun H1 e eb Q q => hk.flat (fun _ _ => key_da) e eb fun H2 e2 => hd H2 (e.trans e2) _ fun H3 e3 =>
  ⟨rd, _, rfl, .inl ⟨kvs, k, ex_rd ((e.trans e2).trans e3) hr, rfl, rfl⟩, q _ H3 B (e2.trans e3) (Ext.refl _ _) (eb.trans (e2.trans e3)) (.bl _)⟩
theorem evd_dnotin {kvs : List (Key × V)} {k : Key} (hk : EvD ty σ B H (keyD k)) (hd : EvF td σ H (.ref rd)) (hr : Rd H rd (.dK kvs)) : EvD (tDNotIn ty td) σ B H (.bool (!(valV kvs k).isSome)) := fun H1 e eb Q q => hk.flat (fun _ _ => key_da) e eb fun H2 e2 => hd H2 (e.trans e2) _ fun H3 e3 =>
  ⟨rd, _, rfl, .inl ⟨kvs, k, ex_rd ((e.trans e2).trans e3) hr, rfl, rfl⟩, q _ H3 B (e2.trans e3) (Ext.refl _ _) (eb.trans (e2.trans e3)) (.bl _)⟩
theorem evd_dinT {kvs : List (List Key × V)} {k : Str × Int} (hk : EvD ty σ B H (.tuple [.str k.1, .int k.2])) (hd : EvF td σ H (.ref rd)) (hr : Rd H rd (.dT kvs)) : EvD (tDIn ty td) σ B H (.bool (valV kvs (untK k)).isSome) := fun H1 e eb Q q => hk H1 e eb _ fun y H2 B2 e2 x2 eb2 hy => hd H2 (e.trans e2) _ fun H3 e3 => by
  obtain ⟨b, rfl, hb⟩ := unt_da hy
  exact ⟨rd, _, rfl, .inr ⟨kvs, untK k, b, ex_rd ((e.trans e2).trans e3) hr, rfl, (eb2.trans e3) _ _ hb, rfl⟩, q _ H3 B2 (e2.trans e3) x2 (eb2.trans e3) (.bl _)⟩
/-! d[k] = .. -/
theorem s_dputK {kvs : List (Key × V)} {k : Key} (hv : EvD tv σ B H d) (hd : EvF td σ H (.ref rd)) (hk : EvD ty σ B H (keyD k)) (eb : Ex B H) (hr : H rd = some (.dK kvs)) (hl : kvs.length < 100000)
    (q : ∀ v H1 B1, Ex H H1 → Ext B H B1 → Ex B1 H1 → Da B1 v d → D.nx σ (upd H1 rd (.dK (putK kvs k v)))) : sDPut td ty tv D σ H := hv.run eb fun v H1 B1 e1 x1 eb1 hdv => hd H1 e1 _ fun H2 e2 =>
  hk.flat (fun _ _ => key_da) (e1.trans e2) (eb.trans (e1.trans e2)) fun H3 e3 => ⟨rd, _, rfl, DPut.k (((e1.trans e2).trans e3) _ _ hr) (sz_lt hl), q v H3 B1 ((e1.trans e2).trans e3) x1 (eb1.trans (e2.trans e3)) hdv⟩
theorem q_dputK {kvs : List (Key × V)} {k : Key} (hv : EvD tv σ B H d) (hd : EvF td σ H (.ref rd)) (hk : EvD ty σ B H (keyD k)) (eb : Ex B H) (hr : H rd = some (.dK kvs)) (hl : kvs.length < 100000)
    (q : ∀ v H1 B1, Ex H H1 → Ext B H B1 → Ex B1 H1 → Da B1 v d → tz D σ (upd H1 rd (.dK (putK kvs k v)))) : tSeq (sDPut td ty tv) tz D σ H := s_dputK (D := { D with nx := tz D }) hv hd hk eb hr hl q
theorem s_dputT {kvs : List (List Key × V)} {k : Str × Int} (hv : EvD tv σ B H d) (hd : EvF td σ H (.ref rd)) (hk : EvD ty σ B H (.tuple [.str k.1, .int k.2])) (eb : Ex B H) (hr : H rd = some (.dT kvs)) (hl : kvs.length < 100000)
    (q : ∀ v H1 B1, Ex H H1 → Ext B H B1 → Ex B1 H1 → Da B1 v d → D.nx σ (upd H1 rd (.dT (putK kvs (untK k) v)))) : sDPut td ty tv D σ H := hv.run eb fun v H1 B1 e1 x1 eb1 hdv => hd H1 e1 _ fun H2 e2 =>
  hk.mono x1.1 (e1.trans e2) H2 (Ex.refl _) (eb1.trans e2) _ fun y H3 B3 e3 x3 eb3 hy => by
    obtain ⟨b, rfl, hb⟩ := unt_da hy
    exact ⟨rd, _, rfl, DPut.t (((e1.trans e2).trans e3) _ _ hr) (eb3 _ _ hb) (sz_lt hl), q v H3 B3 ((e1.trans e2).trans e3) (Ext.trans x1 (e1.trans e2) x3) eb3 (hdv.ex' x3.1)⟩
theorem q_dputT {kvs : List (List Key × V)} {k : Str × Int} (hv : EvD tv σ B H d) (hd : EvF td σ H (.ref rd)) (hk : EvD ty σ B H (.tuple [.str k.1, .int k.2])) (eb : Ex B H) (hr : H rd = some (.dT kvs)) (hl : kvs.length < 100000)
    (q : ∀ v H1 B1, Ex H H1 → Ext B H B1 → Ex B1 H1 → Da B1 v d → tz D σ (upd H1 rd (.dT (putK kvs (untK k) v)))) : tSeq (sDPut td ty tv) tz D σ H := s_dputT (D := { D with nx := tz D }) hv hd hk eb hr hl q
/-! d.pop(k) -/
theorem s_dpopT {kvs : List (List Key × V)} {k : Str × Int} (hd : EvF td σ H (.ref rd)) (hk : EvD ty σ B H (.tuple [.str k.1, .int k.2])) (eb : Ex B H) (hr : H rd = some (.dT kvs)) (hv : valV kvs (untK k) = some v)
    (q : ∀ H1, Ex H H1 → Ex B H1 → D.nx σ (upd H1 rd (.dT (dropK kvs (untK k))))) : tDrop (tDPopT td ty) D σ H := hd H (Ex.refl _) _ fun H1 e1 => ⟨rd, rfl, .inr ⟨kvs, .inl (e1 _ _ hr)⟩, hk H1 e1 (eb.trans e1) _ fun y H2 B2 e2 x2 eb2 hy => by
    obtain ⟨b, rfl, hb⟩ := unt_da hy
    exact ⟨kvs, untK k, b, v, (e1.trans e2) _ _ hr, rfl, eb2 _ _ hb, hv, q H2 (e1.trans e2) (x2.1.trans eb2)⟩⟩
theorem s_dpopK {kvs : List (Key × V)} {k : Key} (hd : EvF td σ H (.ref rd)) (hk : EvD ty σ B H (keyD k)) (eb : Ex B H) (hr : H rd = some (.dK kvs)) (hv : valV kvs k = some v)
    (q : ∀ H1, Ex H H1 → Ex B H1 → D.nx σ (upd H1 rd (.dK (dropK kvs k)))) : tDrop (tDPop1 td ty) D σ H := hd H (Ex.refl _) _ fun H1 e1 => ⟨rd, rfl, .inl ⟨kvs, .inl (e1 _ _ hr)⟩, hk.flat (fun _ _ => key_da) e1 (eb.trans e1) fun H2 e2 =>
    ⟨kvs, k, v, (e1.trans e2) _ _ hr, rfl, hv, q H2 (e1.trans e2) (eb.trans (e1.trans e2))⟩⟩
theorem q_dpopK {kvs : List (Key × V)} {k : Key} (hd : EvF td σ H (.ref rd)) (hk : EvD ty σ B H (keyD k)) (eb : Ex B H) (hr : H rd = some (.dK kvs)) (hv : valV kvs k = some v)
    (q : ∀ H1, Ex H H1 → Ex B H1 → tz D σ (upd H1 rd (.dK (dropK kvs k)))) : tSeq (tDrop (tDPop1 td ty)) tz D σ H := s_dpopK (D := { D with nx := tz D }) hd hk eb hr hv q
/-! o.f = .. -/
theorem s_fld {Cn : Str} {L : List Str} (hv : EvD tv σ B H d) (h : EvF ta σ H (.ref a)) (eb : Ex B H) (ha : H a = some (.ins (He.ga K Cn) dx fs)) (cf : ClsF K Cn L) (hf : f ∈ L) (hl : fs.length < 1000)
    (q : ∀ v H1 B1, Ex H H1 → Ext B H B1 → Ex B1 H1 → Da B1 v d → D.nx σ (upd H1 a (.ins (He.ga K Cn) dx (putF f v fs)))) : sFld K ta tv f D σ H := hv.run eb fun v H1 B1 e1 x1 eb1 hdv => h H1 e1 _ fun H2 e2 =>
  ⟨a, _, dx, fs, rfl, (e1.trans e2) _ _ ha, cf.c, cf.f f hf, hl, q v H2 B1 (e1.trans e2) x1 (eb1.trans e2) hdv⟩
theorem q_fld {Cn : Str} {L : List Str} (hv : EvD tv σ B H d) (h : EvF ta σ H (.ref a)) (eb : Ex B H) (ha : H a = some (.ins (He.ga K Cn) dx fs)) (cf : ClsF K Cn L) (hf : f ∈ L) (hl : fs.length < 1000)
    (q : ∀ v H1 B1, Ex H H1 → Ext B H B1 → Ex B1 H1 → Da B1 v d → tz D σ (upd H1 a (.ins (He.ga K Cn) dx (putF f v fs)))) : tSeq (sFld K ta tv f) tz D σ H := s_fld (D := { D with nx := tz D }) hv h eb ha cf hf hl q
/-! methods -/
theorem evd_meth {sp : Sp} {ds : List PyData} (h : EvF ta σ H (.ref a)) (ha : H a = some (.ins C dx fs)) (hm : fs.lookup m = none) (hr : EvDs tr σ B H ds) (k : ∀ H1 B1 vs, Ex H H1 → Ext B H B1 → Ex B1 H1 → DaAll B1 vs ds → ∀ Q : VK, Ret d B1 H1 Q → sp (.ref a :: vs) H1 Q E) : EvD (tMeth C m sp [] E ta tr) σ B H d := fun H1 e eb Q q => h H1 e _ fun H2 e2 =>
  ⟨a, dx, fs, rfl, e2 _ _ (e _ _ ha), hm, hr H2 (e.trans e2) (eb.trans e2) _ fun vs H3 B3 e3 x3 eb3 hd => by
    show sp (.ref a :: (vs ++ [])) H3 Q E
    rw [List.append_nil]
    exact k H3 B3 vs ((e.trans e2).trans e3) (Ext.trans (Ext.refl _ _) (e.trans e2) x3) eb3 hd Q (q.grow (e2.trans e3) (Ext.trans (Ext.refl _ _) e2 x3))⟩
theorem evx_meth {sp : Sp} {ds : List PyData} {r : Res} (h : EvF ta σ H (.ref a)) (ha : H a = some (.ins C dx fs)) (hm : fs.lookup m = none) (hr : EvDs tr σ B H ds) (k : ∀ H1 B1 vs, Ex H H1 → Ext B H B1 → Ex B1 H1 → DaAll B1 vs ds → ∀ Q : VK, RetX K r B1 H1 Q E → sp (.ref a :: vs) H1 Q E) : EvX K (tMeth C m sp [] E ta tr) σ B H r E := fun H1 e eb Q q => h H1 e _ fun H2 e2 =>
  ⟨a, dx, fs, rfl, e2 _ _ (e _ _ ha), hm, hr H2 (e.trans e2) (eb.trans e2) _ fun vs H3 B3 e3 x3 eb3 hd => by
    show sp (.ref a :: (vs ++ [])) H3 Q E
    rw [List.append_nil]
    exact k H3 B3 vs ((e.trans e2).trans e3) (Ext.trans (Ext.refl _ _) (e.trans e2) x3) eb3 hd Q (q.grow (e2.trans e3) (Ext.trans (Ext.refl _ _) e2 x3))⟩
/-- a method's call, as it stands -/
theorem run_meth {sp : Sp} {ds : List PyData} {Q : VK} (h : EvF ta σ H (.ref a)) (ha : H a = some (.ins C dx fs)) (hm : fs.lookup m = none) (hr : EvDs tr σ B H ds) (eb : Ex B H) (k : ∀ H1 B1 vs, Ex H H1 → Ext B H B1 → Ex B1 H1 → DaAll B1 vs ds → sp (.ref a :: vs) H1 Q E) : tMeth C m sp [] E ta tr σ H Q := h H (Ex.refl _) _ fun H2 e2 =>
  ⟨a, dx, fs, rfl, e2 _ _ ha, hm, hr H2 e2 (eb.trans e2) _ fun vs H3 B3 e3 x3 eb3 hd => by
    show sp (.ref a :: (vs ++ [])) H3 Q E
    rw [List.append_nil]
    exact k H3 B3 vs (e2.trans e3) (Ext.trans (Ext.refl _ _) e2 x3) eb3 hd⟩
end
/-! ### a dict that is walked: locked, known to the frame -/
def cutH (B : Hp) (d : Addr) : Hp := fun p => if p = d then none else B p
theorem cutH_ne {B : Hp} {d p : Addr} (h : p ≠ d) : cutH B d p = B p := by unfold cutH; rw [if_neg h]
theorem cutH_eq {B : Hp} {d : Addr} : cutH B d d = none := by unfold cutH; rw [if_pos rfl]
mutual
theorem da_cut {B : Hp} {p : Addr} {o : Obj} {u : HO} (hp : B p = some (.frz o u)) : ∀ (d : PyData) (v : V), Da B v d → Da (cutH B p) v d
  | .none, _, h => by cases h; exact .non
  | .bool b, _, h => by cases h; exact .bl b
  | .int i, _, h => by cases h; exact .int i
  | .str x, _, h => by cases h; exact .str x
  | .list ds, _, h => by
    cases h with
    | lst h ha => exact .lst (by rw [cutH_ne]; exact h; intro z; subst z; rw [hp] at h; cases h) (daAll_cut hp ds _ ha)
  | .tuple ds, _, h => by
    cases h with
    | tup h ha => exact .tup (by rw [cutH_ne]; exact h; intro z; subst z; rw [hp] at h; cases h) (daAll_cut hp ds _ ha)
  | .dict _, _, h => by cases h
theorem daAll_cut {B : Hp} {p : Addr} {o : Obj} {u : HO} (hp : B p = some (.frz o u)) : ∀ (ds : List PyData) (vs : List V), DaAll B vs ds → DaAll (cutH B p) vs ds
  | [], _, h => by cases h; exact .nil
  | d :: ds, _, h => by
    cases h with
    | cons h t => exact .cons (da_cut hp d _ h) (daAll_cut hp ds _ t)
end
section
variable {K : PySem.W.Frag} {σ : Sig} {B H : Hp} {te td : TE} {d : PyData} {rd : Addr} {u : HO}
theorem ex_frz {H H1 : Hp} {o : HO} (e : Ex H H1) : Ex (upd H rd o) (upd H1 rd o) := ex_upd2 e
/-- behind the lock: the frame without what was locked -/
theorem unlock {od : Obj} {B' H1 H' : Hp} (hr : H1 rd = some u) (hb : B rd = none) (e : Ex (upd H1 rd (.frz od u)) H') (x : Ext (upd B rd (.frz od u)) (upd H1 rd (.frz od u)) B') (eb : Ex B' H') :
    H' rd = some (.frz od u) ∧ Ex H1 (upd H' rd u) ∧ Ext B H1 (cutH B' rd) ∧ Ex (cutH B' rd) (upd H' rd u) ∧ B' rd = some (.frz od u) := by
  have hB' : B' rd = some (.frz od u) := x.1 _ _ upd_same
  refine ⟨e _ _ upd_same, fun p o h => ?_, ⟨fun p o h => ?_, fun p hp => ?_⟩, fun p o h => ?_, hB'⟩
  · by_cases c : p = rd
    · subst c; rw [upd_same, ← h, hr]
    · rw [upd_ne c]; exact e p o (by rw [upd_ne c]; exact h)
  · by_cases c : p = rd
    · subst c; rw [hb] at h; cases h
    · rw [cutH_ne c]; exact x.1 p o (by rw [upd_ne c]; exact h)
  · by_cases c : p = rd
    · subst c; rw [cutH_eq, hb]
    · rw [cutH_ne c, x.2 p (by rw [upd_ne c]; exact hp), upd_ne c]
  · by_cases c : p = rd
    · subst c; rw [cutH_eq] at h; cases h
    · rw [cutH_ne c] at h; rw [upd_ne c]; exact eb p o h
theorem evd_lock (hr : H rd = some u) (hm : Mut (some u)) (hb : B rd = none) (h : ∀ od, EvD te σ (upd B rd (.frz od u)) (upd H rd (.frz od u)) d) : EvD (tLockE te) σ B H d := fun H1 e eb Q q =>
  ⟨rd, u, e _ _ hr, hm, fun od => h od (upd H1 rd (.frz od u)) (ex_frz e) (ex_upd2 eb) _ fun v H' B' e' x' eb' hd => by
    obtain ⟨a1, a2, a3, a4, a5⟩ := unlock (e _ _ hr) hb e' x' eb'
    exact ⟨a1, q v _ (cutH B' rd) a2 a3 a4 (da_cut a5 _ _ hd)⟩⟩
theorem src_keys {kvs : List (Key × V)} {od : Obj} (h : EvF td σ H (.ref rd)) (hr : B rd = some (.frz od (.dK kvs))) : SrcD (iKeys td) σ B H (kvs.map fun kv => keyD kv.1) := fun H1 e eb R q => h H1 e _ fun H2 e2 =>
  ⟨rd, od, rfl, .inl ⟨kvs, (eb.trans e2) _ _ hr, q _ H2 B e2 (Ext.refl _ _) (eb.trans e2) ⟨_, _, by rw [List.length_map]; exact walk_keys, fun H3 e3 => e3 _ _ hr, fun i x H3 H4 hi eb3 y => by
    obtain ⟨rfl, k, v, hk, rfl⟩ := y
    refine ⟨Ex.refl _, fun d hd => ⟨B, Ext.refl _ _, eb3, ?_⟩⟩
    rw [List.getElem?_map, hk] at hd
    cases hd
    cases k with
    | inl n => exact .int n
    | inr s => exact .str s⟩⟩⟩
end
/-! ### a loop that changes things: R what is changed, at the turn i; I the slots -/
section
variable {σ : Sig} {B H : Hp} {wi : TI} {g : TG} {tx tz : TS} {D : Ends} {ds : List PyData}
theorem uni_loop {B B1 B2 B3 H H1 H2 : Hp} {L : List Addr} (x3 : Ext B H B3) (o : Only L H H1) (e13 : Ex B1 B3) (e31 : Ex B3 H1) (e2 : Ex H1 H2) (x2 : Ext B1 H1 B2) (eb2 : Ex B2 H2) : Ext B3 H1 (uni B3 B2) ∧ Ex (uni B3 B2) H2 ∧ Ex B2 (uni B3 B2) :=
  ⟨⟨uni_l, fun q hq => by
    unfold uni
    cases c : B3 q with
    | some u => rfl
    | none =>
      show B2 q = none
      rw [x2.2 q hq]
      exact fresh_back e13 c⟩, uni_ex (e31.trans e2) eb2, uni_r (e31.trans e2) eb2⟩
theorem s_forR (hs : SrcD wi σ B H ds) (eb : Ex B H) (L0 : List Addr) (I : Nat → Sig → Prop) (R : Nat → List Addr → Hp → Hp → Prop)
    (hg : ∀ i L B H B' H', R i L B H → Ex H H' → Ext B H B' → R i L B' H') (h0 : I 0 σ) (r0 : R 0 L0 B H)
    (ht : ∀ i d x σ1 H1 B1 L1, ds[i]? = some d → I i σ1 → Ext B H B1 → Only L0 H H1 → (∀ p ∈ L1, p ∈ L0 ∨ H p = none) → Ex B1 H1 → R i L1 B1 H1 → Da B1 x d → ∀ D' : Ends, D'.rt = D.rt →
      (∀ σ2 H2 B2 L2, I (i + 1) σ2 → Only L1 H1 H2 → (∀ p ∈ L2, p ∈ L1 ∨ H1 p = none) → Ext B1 H1 B2 → Ex B2 H2 → R (i + 1) L2 B2 H2 → D'.nx σ2 H2) → g x σ1 H1 fun σ2 H3 => tx D' σ2 H3)
    (hd : ∀ σ1 H1 B1 L1, I ds.length σ1 → Ext B H B1 → Only L0 H H1 → (∀ p ∈ L1, p ∈ L0 ∨ H p = none) → Ex B1 H1 → R ds.length L1 B1 H1 → D.nx σ1 H1) : tFor wi g tx D σ H := by
  refine s_for hs eb (fun B1 i σ1 H1 => ∃ B2 L2, I i σ1 ∧ Ext B H B2 ∧ Ex B1 B2 ∧ Ex B2 H1 ∧ Only L0 H H1 ∧ (∀ p ∈ L2, p ∈ L0 ∨ H p = none) ∧ R i L2 B2 H1)
    (fun H1 B1 e1 x1 eb1 => ⟨B1, L0, h0, x1, Ex.refl _, eb1, Only.of e1, fun p hp => .inl hp, hg _ _ _ _ _ _ r0 e1 x1⟩) (fun B1 i σ1 H1 _ ⟨B2, L2, _, _, e1, e2, _⟩ => e1.trans e2) ?_ ?_
  · rintro B1 i d x σ1 H1 H2 B2 bB hdd ⟨B3, L3, hi, x3, e13, e31, o3, f3, r3⟩ e2 x2 eb2 hx
    obtain ⟨u1, u2, u3⟩ := uni_loop x3 o3 e13 e31 e2 x2 eb2
    have x4 : Ext B H (uni B3 B2) := x3.only o3 u1
    have o4 : Only L0 H H2 := o3.trans (Only.of e2)
    refine ht i d x σ1 H2 (uni B3 B2) L3 hdd hi x4 o4 f3 u2 (hg _ _ _ _ _ _ r3 e2 u1) (hx.ex' u3) _ rfl fun σ2 H5 B5 L5 i5 o5 f5 x5 eb5 r5 => ?_
    exact ⟨B5, L5, i5, x4.only o4 x5, (e13.trans u1.1).trans x5.1, eb5, o4.next f3 o5, fresh_next o4 f3 f5, r5⟩
  · rintro B1 σ1 H1 bB ⟨B3, L3, hi, x3, e13, e31, o3, f3, r3⟩
    exact hd σ1 H1 B3 L3 hi x3 o3 f3 e31 r3
theorem q_forR (hs : SrcD wi σ B H ds) (eb : Ex B H) (L0 : List Addr) (I : Nat → Sig → Prop) (R : Nat → List Addr → Hp → Hp → Prop)
    (hg : ∀ i L B H B' H', R i L B H → Ex H H' → Ext B H B' → R i L B' H') (h0 : I 0 σ) (r0 : R 0 L0 B H)
    (ht : ∀ i d x σ1 H1 B1 L1, ds[i]? = some d → I i σ1 → Ext B H B1 → Only L0 H H1 → (∀ p ∈ L1, p ∈ L0 ∨ H p = none) → Ex B1 H1 → R i L1 B1 H1 → Da B1 x d → ∀ D' : Ends, D'.rt = D.rt →
      (∀ σ2 H2 B2 L2, I (i + 1) σ2 → Only L1 H1 H2 → (∀ p ∈ L2, p ∈ L1 ∨ H1 p = none) → Ext B1 H1 B2 → Ex B2 H2 → R (i + 1) L2 B2 H2 → D'.nx σ2 H2) → g x σ1 H1 fun σ2 H3 => tx D' σ2 H3)
    (hd : ∀ σ1 H1 B1 L1, I ds.length σ1 → Ext B H B1 → Only L0 H H1 → (∀ p ∈ L1, p ∈ L0 ∨ H p = none) → Ex B1 H1 → R ds.length L1 B1 H1 → tz D σ1 H1) : tSeq (tFor wi g tx) tz D σ H := s_forR (D := { D with nx := tz D }) hs eb L0 I R hg h0 r0 ht hd
/-! a list that grows -/
structure LsAt (p : Addr) (ds : List PyData) (L : List Addr) (B H : Hp) : Prop where
  l : L = [p]
  b : B p = none
  x : ∃ xs, H p = some (.lst xs) ∧ DaAll B xs ds
theorem LsAt.keep {p : Addr} {ds : List PyData} {L M : List Addr} {B H B' H' : Hp} (h : LsAt p ds L B H) (o : Only M H H') (x : Ext B H B') (n : ∀ q ∈ L, q ∉ M) : LsAt p ds L B' H' := by
  obtain ⟨rfl, b, xs, h1, h2⟩ := h
  exact ⟨rfl, x.out h1 b, xs, o.k _ _ h1 (n _ (by simp)), dpAll_ex x.1 _ _ h2⟩
theorem LsAt.grow {p : Addr} {ds : List PyData} {L : List Addr} {B H B' H' : Hp} (h : LsAt p ds L B H) (e : Ex H H') (x : Ext B H B') : LsAt p ds L B' H' := h.keep (Only.of (L := []) e) x (fun _ _ => by simp)
theorem LsAt.out {p : Addr} {ds : List PyData} {L : List Addr} {B H : Hp} (h : LsAt p ds L B H) : ∀ q ∈ L, H q ≠ none ∧ B q = none := by
  obtain ⟨rfl, b, xs, h1, h2⟩ := h
  intro q hq
  rw [List.mem_singleton.mp hq]
  exact ⟨by rw [h1]; simp, b⟩
theorem LsAt.new {p : Addr} {B H : Hp} (eb : Ex B H) (hp : H p = none) : LsAt p [] [p] B (upd H p (.lst [])) := ⟨rfl, fresh_back eb hp, [], upd_same, .nil⟩
/-- the list, taken into the frame as it stands -/
theorem LsAt.up {p : Addr} {ds : List PyData} {L : List Addr} {B H : Hp} (h : LsAt p ds L B H) (eb : Ex B H) : ∃ B', Ex B B' ∧ Ex B' H ∧ Da B' (.ref p) (.list ds) ∧ ∀ q, q ≠ p → B' q = B q := by
  obtain ⟨rfl, b, xs, h1, h2⟩ := h
  obtain ⟨u1, u2, u3⟩ := up_lst eb b h1 h2
  exact ⟨_, u1, u2, u3, fun q hq => upd_ne hq⟩
theorem s_appL {K : PySem.W.Frag} {ta : TE} {p : Addr} {ds : List PyData} {L : List Addr} {d : PyData} {i : Nat} (hv : σ[i]? = some (some (.ref p))) (h : EvD ta σ B H d) (eb : Ex B H) (hp : LsAt p ds L B H) (hl : ds.length < 100000) (k : ∀ H1 B1, Only L H H1 → Ext B H B1 → Ex B1 H1 → LsAt p (ds ++ [d]) L B1 H1 → D.nx σ H1) : tDrop (tBM K "list" rAppend (tVar i) (tCons ta tNil)) D σ H := by
  obtain ⟨rfl, b, xs, h1, h2⟩ := hp
  refine q_app hv h eb h1 (by rw [dpa_len h2]; exact hl) fun v H1 B1 e1 x1 eb1 hdv => ?_
  have b1 := x1.out h1 b
  exact k _ B1 ((Only.of e1).trans (Only.put (by simp))) x1 (ex_mut eb1 b1) ⟨rfl, b1, _, upd_same, dpa_app (dpAll_ex x1.1 _ _ h2) (.cons hdv .nil)⟩
theorem q_appL {K : PySem.W.Frag} {ta : TE} {p : Addr} {ds : List PyData} {L : List Addr} {d : PyData} {i : Nat} (hv : σ[i]? = some (some (.ref p))) (h : EvD ta σ B H d) (eb : Ex B H) (hp : LsAt p ds L B H) (hl : ds.length < 100000) (k : ∀ H1 B1, Only L H H1 → Ext B H B1 → Ex B1 H1 → LsAt p (ds ++ [d]) L B1 H1 → tz D σ H1) : tSeq (tDrop (tBM K "list" rAppend (tVar i) (tCons ta tNil))) tz D σ H := s_appL (D := { D with nx := tz D }) hv h eb hp hl k
end
end GK

/-! What a shelf, uploads, a store keep and tell: in plain words. -/
namespace GK
open PySem L2
structure Row where
  v : Int
  day : Int
  data : Option Str
  sum : Option Str
  deriving DecidableEq
def oS : Option Str → PyData
  | some x => .str x
  | none => .none
def oI : Option Int → PyData
  | some x => .int x
  | none => .none
def rowD (r : Row) : PyData := .tuple [.int r.v, .int r.day, oS r.data, oS r.sum]
def rowsD (l : List Row) : PyData := .list (l.map rowD)
theorem nodup_inj {α β : Type} {f : α → β} : ∀ {l : List α} {a b : α}, (l.map f).Nodup → a ∈ l → b ∈ l → f a = f b → a = b
  | [], _, _, _, h, _, _ => by cases h
  | x :: r, a, b, n, ha, hb, e => by
    rw [List.map_cons, List.nodup_cons] at n
    rcases List.mem_cons.mp ha with ea | h1
    · rcases List.mem_cons.mp hb with eb | h2
      · rw [ea, eb]
      · exact (n.1 (List.mem_map.mpr ⟨b, h2, by rw [← e, ea]⟩)).elim
    · rcases List.mem_cons.mp hb with eb | h2
      · exact (n.1 (List.mem_map.mpr ⟨a, h1, by rw [e, eb]⟩)).elim
      · exact nodup_inj n.2 h1 h2 e
structure ShS where
  rows : List (Str × List Row)
  unt : List ((Str × Int) × Int)
def ShS.nil : ShS := ⟨[], []⟩
def rowsOf (X : ShS) (k : Str) : List Row := (aGet X.rows k).getD []
def ShS.come (X : ShS) (k : Str) (r : Row) : ShS := { X with rows := aPut X.rows k (rowsOf X k ++ [r]) }
def rowOf (X : ShS) (k : Str) (v : Int) : Option Row := (rowsOf X k).find? fun r => decide (r.v = v)
def ShS.leave (X : ShS) (k : Str) (v : Int) : ShS := ⟨aPut X.rows k ((rowsOf X k).filter fun r => !decide (r.v = v)), aDel X.unt (k, v)⟩
def untOf (X : ShS) (k : Str) (v : Int) : Int := (aGet X.unt (k, v)).getD 0
def ShS.hold (X : ShS) (k : Str) (v n : Int) : ShS := { X with unt := aPut X.unt (k, v) (max n (untOf X k v)) }
def newest (X : ShS) (k : Str) : Option Row := (rowsOf X k).getLast?
def newestR (X : ShS) (k : Str) : Res := match newest X k with
  | none => .no "NoKey"
  | some r => match r.data with
    | none => .no "Gone"
    | some _ => .ok (rowD r)
def getR (X : ShS) (k : Str) : Res := match newest X k with
  | none => .no "NoKey"
  | some r => match r.data with
    | none => .no "Gone"
    | some x => .ok (.str x)
def isThere (X : ShS) (k : Str) : Bool := match newest X k with
  | none => false
  | some r => r.data.isSome
def keysThere (X : ShS) : List Str := (srtS (X.rows.map (·.1))).filter (isThere X)
def oLen : Option Str → PyData
  | some x => .int x.length
  | none => .none
def toldD (r : Row) : PyData := .tuple [.int r.v, .int r.day, oLen r.data, oS r.sum]
def toldRows (X : ShS) (k : Str) : PyData := .tuple ((rowsOf X k).reverse.map toldD)
def rowR (X : ShS) (k : Str) (v : Int) : Res := match rowOf X k v with
  | none => .no "NoVersion"
  | some r => .ok (rowD r)
def dataR (X : ShS) (k : Str) (v : Int) : Res := match rowOf X k v with
  | none => .no "NoVersion"
  | some r => match r.data with
    | none => .no "Gone"
    | some x => .ok (.str x)
def heldR (X : ShS) (k : Str) (v : Int) : Res := match rowOf X k v with
  | none => .no "NoVersion"
  | some _ => .ok (.int (untOf X k v))
def holdR (X : ShS) (k : Str) (v n : Int) : Res := match rowOf X k v with
  | none => .no "NoVersion"
  | some _ => .ok (.int (max n (untOf X k v)))
def lensOf (l : List Row) : List Int := (l.filterMap (·.data)).map fun x => (x.length : Int)
def totalS (X : ShS) : Int := ((X.rows.map (·.1)).map fun k => (lensOf (rowsOf X k)).sum).sum
/-- small enough -/
structure ShB (X : ShS) : Prop where
  nk : X.rows.length < 64
  kl : ∀ p ∈ X.rows, p.1.length ≤ 1000
  nr : ∀ p ∈ X.rows, p.2.length ≤ 5000
  nd : ∀ p ∈ X.rows, ∀ r ∈ p.2, ∀ x, r.data = some x → x.length ≤ 50000
  nu : X.unt.length ≤ 5000
theorem ShB.rows {X : ShS} (h : ShB X) (k : Str) : (rowsOf X k).length ≤ 5000 := by
  unfold rowsOf
  cases e : aGet X.rows k with
  | none => exact Nat.zero_le _
  | some l => exact h.nr _ (aGet_mem e)
theorem ShB.data {X : ShS} (h : ShB X) {k : Str} {r : Row} (hr : r ∈ rowsOf X k) {x : Str} (hx : r.data = some x) : x.length ≤ 50000 := by
  unfold rowsOf at hr
  cases e : aGet X.rows k with
  | none => rw [e] at hr; cases hr
  | some l => rw [e] at hr; exact h.nd _ (aGet_mem e) r hr x hx
theorem rowOf_mem {X : ShS} {k : Str} {v : Int} {r : Row} (h : rowOf X k v = some r) : r ∈ rowsOf X k ∧ r.v = v := ⟨List.mem_of_find?_eq_some h, by simpa using List.find?_some h⟩
/-! ### whole numbers in order -/
def insI (x : Int) : List Int → List Int
  | [] => [x]
  | y :: r => if x ≤ y then x :: y :: r else y :: insI x r
def srtI : List Int → List Int
  | [] => []
  | x :: r => insI x (srtI r)
theorem insI_perm (x : Int) : ∀ l, (insI x l).Perm (x :: l)
  | [] => .refl _
  | y :: r => by
    unfold insI
    split
    · exact .refl _
    · exact ((insI_perm x r).cons y).trans (.swap x y r)
theorem srtI_perm : ∀ l, (srtI l).Perm l
  | [] => .refl _
  | x :: r => (insI_perm x (srtI r)).trans ((srtI_perm r).cons x)
theorem insI_sort (x : Int) : ∀ {l : List Int}, l.Pairwise (· ≤ ·) → (insI x l).Pairwise (· ≤ ·)
  | [], _ => List.pairwise_singleton _ _
  | y :: r, h => by
    unfold insI
    obtain ⟨h1, h2⟩ := List.pairwise_cons.mp h
    split
    · rename_i c
      exact List.pairwise_cons.mpr ⟨fun z hz => by
        rcases List.mem_cons.mp hz with rfl | hz
        · exact c
        · exact Int.le_trans c (h1 z hz), h⟩
    · rename_i c
      refine List.pairwise_cons.mpr ⟨fun z hz => ?_, insI_sort x h2⟩
      rcases List.mem_cons.mp ((insI_perm x r).mem_iff.mp hz) with rfl | hz
      · omega
      · exact h1 z hz
theorem srtI_sort : ∀ l, (srtI l).Pairwise (· ≤ ·)
  | [] => .nil
  | x :: r => insI_sort x (srtI_sort r)
theorem srtI_uniq : ∀ {l m : List Int}, l.Perm m → l.Pairwise (· ≤ ·) → m.Pairwise (· ≤ ·) → l = m
  | [], m, p, _, _ => (List.Perm.eq_nil p.symm).symm
  | x :: r, [], p, _, _ => absurd p.length_eq (by simp)
  | x :: r, y :: t, p, h, h' => by
    obtain ⟨h1, h2⟩ := List.pairwise_cons.mp h
    obtain ⟨h3, h4⟩ := List.pairwise_cons.mp h'
    have e : x = y := by
      rcases List.mem_cons.mp (p.mem_iff.mp List.mem_cons_self) with z | z
      · exact z
      · rcases List.mem_cons.mp (p.mem_iff.mpr (List.mem_cons_self (a := y) (l := t))) with w | w
        · exact w.symm
        · have := h1 y w
          have := h3 x z
          omega
    subst e
    rw [srtI_uniq (List.Perm.cons_inv p) h2 h4]
theorem srtI_of {ys xs : List Int} (p : ys.Perm xs) (h : ys.Pairwise (· ≤ ·)) : ys = srtI xs := srtI_uniq (p.trans (srtI_perm xs).symm) h (srtI_sort xs)
theorem srtI_ext {xs ys : List Int} (p : xs.Perm ys) : srtI xs = srtI ys := srtI_uniq ((srtI_perm xs).trans (p.trans (srtI_perm ys).symm)) (srtI_sort _) (srtI_sort _)
/-! ### uploads -/
abbrev Parts := List (Int × Str)
structure UpS where
  last : Int
  opn : List (Int × (Str × Int))
  pcs : List (Int × Parts)
def UpS.nil : UpS := ⟨0, [], []⟩
def UpS.begin (Y : UpS) (k : Str) (day : Int) : UpS := ⟨Y.last + 1, aPut Y.opn (Y.last + 1) (k, day), aPut Y.pcs (Y.last + 1) []⟩
def partsOf (Y : UpS) (u : Int) : Parts := (aGet Y.pcs u).getD []
def isOpen (Y : UpS) (u : Int) : Bool := (aGet Y.opn u).isSome
def openR (Y : UpS) (u : Int) (d : PyData) : Res := if isOpen Y u = true then .ok d else .no "NoUpload"
def sizeOf (Y : UpS) (u n : Int) : Int := (((aGet (partsOf Y u) n).getD "").length : Nat)
def UpS.send (Y : UpS) (u n : Int) (x : Str) : UpS := { Y with pcs := aPut Y.pcs u (aPut (partsOf Y u) n x) }
def partD (m : Parts) (n : Int) : PyData := .tuple [.int n, .int (((aGet m n).getD "").length : Nat), .str (sumT ((aGet m n).getD ""))]
def sentD (m : Parts) : PyData := .tuple ((srtI (m.map (·.1))).map (partD m))
def UpS.close (Y : UpS) (u : Int) : UpS := { Y with opn := aDel Y.opn u, pcs := aDel Y.pcs u }
def openD (Y : UpS) (u : Int) : PyData := .tuple [.int u, .str ((aGet Y.opn u).getD ("", 0)).1, .int ((aGet Y.opn u).getD ("", 0)).2]
def uploadsD (Y : UpS) : PyData := .tuple ((srtI (Y.opn.map (·.1))).map (openD Y))
def rises : Parts → Bool
  | [] => true
  | [_] => true
  | p :: q :: r => decide (p.1 < q.1) && rises (q :: r)
def right (m : Parts) (r : Int × Str) : Bool := (aGet m r.1).isSome && decide (sumT ((aGet m r.1).getD "") = r.2)
def partOf (m : Parts) (r : Int × Str) : Str := (aGet m r.1).getD ""
def pairsD (rows : Parts) : PyData := .tuple (rows.map fun r => .tuple [.int r.1, .str r.2])
inductive JR where
  | no (c : Str)
  | ok (k data sum : Str)
def joint (Y : UpS) (u : Int) (rows : Parts) : JR := match aGet Y.opn u with
  | none => .no "NoUpload"
  | some k => if rows.isEmpty = true ∨ rises rows = false then .no "BadPart" else if rows.all (right (partsOf Y u)) = false then .no "BadPart" else
    if (rows.dropLast.any fun r => decide ((partOf (partsOf Y u) r).length < 5)) = true then .no "TooSmall" else .ok k.1 (Txt.join "" (rows.map (partOf (partsOf Y u)))) (sumsT (rows.map (·.2)))
def jointR (Y : UpS) (u : Int) (rows : Parts) : Res := match joint Y u rows with
  | .no c => .no c
  | .ok k d s => .ok (.tuple [.str k, .str d, .str s])
def lensP (m : Parts) : List Int := m.map fun p => ((((aGet m p.1).getD "").length : Nat) : Int)
def totalU (Y : UpS) : Int := (Y.pcs.map fun p => (lensP (partsOf Y p.1)).sum).sum
structure UpB (Y : UpS) : Prop where
  ks : Y.opn.map (·.1) = Y.pcs.map (·.1)
  nn : (Y.opn.map (·.1)).Nodup
  lt : ∀ p ∈ Y.opn, p.1 ≤ Y.last
  nk : Y.opn.length < 63
  np : ∀ p ∈ Y.pcs, p.2.length < 63
  nd : ∀ p ∈ Y.pcs, ∀ q ∈ p.2, q.2.length ≤ 5000
theorem UpB.there {Y : UpS} (h : UpB Y) {u : Int} (ho : isOpen Y u = true) : aGet Y.pcs u = some (partsOf Y u) := by
  have h1 : u ∈ Y.pcs.map (·.1) := by
    rw [← h.ks]
    apply aGet_keys.mp
    intro z
    unfold isOpen at ho
    rw [z] at ho
    cases ho
  have := aGet_keys.mpr h1
  unfold partsOf
  cases e : aGet Y.pcs u with
  | none => exact absurd e this
  | some m => rfl
theorem UpB.new {Y : UpS} (h : UpB Y) : aGet Y.opn (Y.last + 1) = none ∧ aGet Y.pcs (Y.last + 1) = none := by
  have h1 : Y.last + 1 ∉ Y.opn.map (·.1) := fun z => by
    obtain ⟨p, hp, e⟩ := List.mem_map.mp z
    have := h.lt p hp
    omega
  have h2 : Y.last + 1 ∉ Y.pcs.map (·.1) := by rw [← h.ks]; exact h1
  refine ⟨?_, ?_⟩
  · cases e : aGet Y.opn (Y.last + 1) with
    | none => rfl
    | some a => exact absurd (aGet_keys.mp (by rw [e]; simp)) h1
  · cases e : aGet Y.pcs (Y.last + 1) with
    | none => rfl
    | some a => exact absurd (aGet_keys.mp (by rw [e]; simp)) h2
theorem UpB.parts {Y : UpS} (h : UpB Y) (u : Int) : (partsOf Y u).length < 63 := by
  unfold partsOf
  cases e : aGet Y.pcs u with
  | none => exact Nat.succ_pos _
  | some m => exact h.np _ (aGet_mem e)
theorem UpB.part {Y : UpS} (h : UpB Y) (u n : Int) : ((aGet (partsOf Y u) n).getD "").length ≤ 5000 := by
  cases e : aGet (partsOf Y u) n with
  | none => exact Nat.zero_le _
  | some x =>
    have hm := aGet_mem e
    unfold partsOf at hm
    cases e2 : aGet Y.pcs u with
    | none => rw [e2] at hm; cases hm
    | some m => rw [e2] at hm; exact h.nd _ (aGet_mem e2) _ hm
/-! ### stores -/
inductive Chg where
  | put (k : Str) (v day : Int) (x s : Str)
  | gone (k : Str) (v day : Int)
  | drop (k : Str) (v : Int)
  | hold (k : Str) (v u : Int)
  deriving DecidableEq
def chgB : Chg → List PyData
  | .put k v day x s => [.str "put", .str k, .int v, .int day, .str x, .str s]
  | .gone k v day => [.str "gone", .str k, .int v, .int day]
  | .drop k v => [.str "drop", .str k, .int v]
  | .hold k v u => [.str "hold", .str k, .int v, .int u]
def chgD (n : Int) (c : Chg) : PyData := .tuple (.int n :: chgB c)
def logD (l : List Chg) : List PyData := l.zipIdx.map fun p => chgD ((p.2 : Int) + 1) p.1
theorem logD_snoc (l : List Chg) (c : Chg) : logD (l ++ [c]) = logD l ++ [chgD ((l.length : Int) + 1) c] := by
  unfold logD
  rw [List.zipIdx_append, List.map_append]
  simp
theorem logD_len (l : List Chg) : (logD l).length = l.length := by unfold logD; rw [List.length_map, List.length_zipIdx]
structure StS where
  most : Int
  today : Int
  lastv : Int
  sh : ShS
  up : UpS
  log : List Chg
def StS.new (m : Int) : StS := ⟨m, 0, 0, ShS.nil, UpS.nil, []⟩
def sizeS (S : StS) : Int := totalS S.sh + totalU S.up
def StS.pass (S : StS) (n : Int) : StS := { S with today := S.today + n }
def StS.note (S : StS) (c : Chg) : StS := { S with log := S.log ++ [c] }
def comeC (k : Str) (v day : Int) (data total : Option Str) : Chg := match data with
  | none => .gone k v day
  | some x => .put k v day x (total.getD "")
def StS.come (S : StS) (k : Str) (data total : Option Str) : StS :=
  { S with lastv := S.lastv + 1, sh := S.sh.come k ⟨S.lastv + 1, S.today, data, total⟩, log := S.log ++ [comeC k (S.lastv + 1) S.today data total] }
def fits (S : StS) (n : Int) : Bool := !decide (S.most < sizeS S + n)
def fitR (S : StS) (n : Int) (d : PyData) : Res := if fits S n = true then .ok d else .no "Full"
def putR (S : StS) (x : Str) : Res := fitR S (x.length : Nat) (.int (S.lastv + 1))
def StS.put (S : StS) (k x : Str) : StS := S.come k (some x) (some (sumT x))
def dropR (S : StS) (k : Str) : Res := match getR S.sh k with
  | .no c => .no c
  | .ok _ => .ok (.int (S.lastv + 1))
def StS.drop (S : StS) (k : Str) : StS := S.come k none none
def leaveR (S : StS) (k : Str) (v : Int) : Res := match rowOf S.sh k v with
  | none => .no "NoVersion"
  | some _ => if S.today < untOf S.sh k v then .no "Held" else .ok .none
def StS.leave (S : StS) (k : Str) (v : Int) : StS := { S with sh := S.sh.leave k v, log := S.log ++ [.drop k v] }
def isLast (S : StS) (k : Str) (last : Option Int) : Bool := match last with
  | none => !isThere S.sh k
  | some n => match newest S.sh k with
    | none => false
    | some r => decide (r.v = n)
def putIfR (S : StS) (k x : Str) (last : Option Int) : Res := if isLast S k last = true then putR S x else .no "Changed"
def copyR (S : StS) (k : Str) (v : Int) : Res := match rowOf S.sh k v with
  | none => .no "NoVersion"
  | some r => match r.data with
    | none => .no "Gone"
    | some x => putR S x
def StS.copy (S : StS) (k : Str) (v : Int) (o : Str) : StS := match rowOf S.sh k v with
  | none => S
  | some r => S.come o r.data r.sum
def StS.begin (S : StS) (k : Str) : StS := { S with up := S.up.begin k S.today }
def sendR (S : StS) (u n : Int) (x : Str) : Res := if isOpen S.up u = true then (if 1 ≤ n ∧ n ≤ 99 then fitR S ((x.length : Nat) - sizeOf S.up u n) (.str (sumT x)) else .no "BadPart") else .no "NoUpload"
def StS.send (S : StS) (u n : Int) (x : Str) : StS := { S with up := S.up.send u n x }
def StS.cancel (S : StS) (u : Int) : StS := { S with up := S.up.close u }
def finishR (S : StS) (u : Int) (rows : Parts) : Res := match joint S.up u rows with
  | .no c => .no c
  | .ok _ _ _ => .ok (.int (S.lastv + 1))
def StS.finish (S : StS) (u : Int) (rows : Parts) : StS := match joint S.up u rows with
  | .no _ => S
  | .ok k x s => (S.cancel u).come k (some x) (some s)
def sHoldR (S : StS) (k : Str) (v : Int) : Res := match rowOf S.sh k v with
  | none => .no "NoVersion"
  | some _ => .ok .none
def StS.hold (S : StS) (k : Str) (v n : Int) : StS := { S with sh := S.sh.hold k v n, log := S.log ++ [.hold k v (max n (untOf S.sh k v))] }
/-- a row with data has a sum -/
def RowOk (r : Row) : Prop := r.data.isSome = r.sum.isSome
structure StB (S : StS) : Prop where
  sh : ShB S.sh
  up : UpB S.up
  nl : S.log.length ≤ 5000
  ro : ∀ p ∈ S.sh.rows, ∀ r ∈ p.2, RowOk r
def rangeR (X : ShS) (k x : Str) : Res := match getR X k with
  | .no c => .no c
  | .ok (.str y) => (match readR (tl x) (y.length : Nat) with
    | none => .no "NoRange"
    | some (b, m) => .ok (.str (cutS y (some b) (some (b + m)))))
  | .ok d => .ok d
def changesD (S : StS) (n : Int) : PyData := .tuple (cutD (logD S.log) (some n) none)
theorem StB.row {S : StS} (h : StB S) {k : Str} {r : Row} (hr : r ∈ rowsOf S.sh k) : RowOk r := by
  unfold rowsOf at hr
  cases e : aGet S.sh.rows k with
  | none => rw [e] at hr; cases hr
  | some l => rw [e] at hr; exact h.ro _ (aGet_mem e) r hr
end GK

namespace GK
open PySem PySem.Spec PyProof.Rows L2
open Evl (Ex ex_l ex_t ex_rd sq_of st_of sz_of sz_lt fresh_back)
/-! ### what a changing method hands back -/
def RetC (L : List Addr) (P : List Addr → Hp → Hp → Prop) (d : PyData) (B H : Hp) (Q : VK) : Prop := ∀ v H' B' L', Only L H H' → (∀ p ∈ L', p ∈ L ∨ H p = none) → Ext B H B' → Ex B' H' → P L' B' H' → Da B' v d → Q v H'
def RetCX (K : PySem.W.Frag) (L : List Addr) (P : List Addr → Hp → Hp → Prop) (r : Res) (B H : Hp) (Q : VK) (E : XK) : Prop := match r with
  | .ok d => RetC L P d B H Q
  | .no c => ∀ H', Ex H H' → E (.ref (He.ga K c)) none H'
theorem fresh_sub {L L' : List Addr} {H H1 : Hp} (e : Ex H H1) (h : ∀ p ∈ L', p ∈ L ∨ H1 p = none) : ∀ p ∈ L', p ∈ L ∨ H p = none := fun p hp => (h p hp).imp id (fresh_back e)
theorem RetC.grow {L : List Addr} {P : List Addr → Hp → Hp → Prop} {d : PyData} {B H B1 H1 : Hp} {Q : VK} (r : RetC L P d B H Q) (e : Ex H H1) (x : Ext B H B1) : RetC L P d B1 H1 Q := fun v H' B' L' o f x' eb p hd =>
  r v H' B' L' ((Only.of e).trans o) (fresh_sub e f) (x.trans e x') eb p hd
theorem RetCX.grow {K : PySem.W.Frag} {L : List Addr} {P : List Addr → Hp → Hp → Prop} {r : Res} {B H B1 H1 : Hp} {Q : VK} {E : XK} (h : RetCX K L P r B H Q E) (e : Ex H H1) (x : Ext B H B1) : RetCX K L P r B1 H1 Q E := by
  cases r with
  | ok d => exact RetC.grow h e x
  | no c => exact fun H' e' => h H' (e.trans e')
theorem lookup_none {fs : List (Str × V)} {m : Str} {L : List Str} (h : fs.map (·.1) = L) (hm : m ∉ L) : fs.lookup m = none := by
  subst h
  induction fs with
  | nil => rfl
  | cons p r ih =>
    obtain ⟨j, v⟩ := p
    rw [List.map_cons, List.mem_cons, not_or] at hm
    rw [List.lookup_cons]
    have : (m == j) = false := beq_eq_false_iff_ne.mpr hm.1
    rw [this]
    exact ih hm.2
section
variable {K : PySem.W.Frag} {σ : Sig} {B H : Hp} {ta tb : TE} {d : PyData}
theorem evd_ixTc {ds : List PyData} {i : Int} (ha : EvD ta σ B H (.tuple ds)) (hb : EvD tb σ B H (.int i)) (e : atI ds i = some d := by rfl) : EvD (tOp (rIxT K) ta tb) σ B H d := evd_ixT ha hb e
theorem atI_last {α : Type} {l : List α} {x : α} (h : l.getLast? = some x) : atI l (-1) = some x := by
  rw [List.getLast?_eq_getElem?] at h
  have h1 := (List.getElem?_eq_some_iff.mp h).1
  unfold atI ixN
  rw [if_neg (by decide)]
  have : (0 : Int) ≤ -1 + (l.length : Int) := by omega
  rw [if_pos (by omega)]
  show l[((-1 : Int) + l.length).toNat]? = some x
  rw [show ((-1 : Int) + l.length).toNat = l.length - 1 by omega]
  exact h
end
/-! ### a shelf in the heap -/
structure ShAt (K : PySem.W.Frag) (a : Addr) (X : ShS) (L : List Addr) (B H : Hp) : Prop where
  cf : ClsF K "Shelf" ["rows", "until"]
  ex : ∃ dx rd ud kvs uks, L = [a, rd, ud] ∧ H a = some (.ins (He.ga K "Shelf") dx [("rows", .ref rd), ("until", .ref ud)]) ∧ H rd = some (.dK kvs) ∧ Tab Sum.inr (fun v l => Da B v (rowsD l)) kvs X.rows ∧
    H ud = some (.dT uks) ∧ Tab untK (fun v n => v = V.int n) uks X.unt ∧ a ≠ rd ∧ a ≠ ud ∧ rd ≠ ud ∧ B a = none ∧ B rd = none ∧ B ud = none
theorem ShAt.keep {K : PySem.W.Frag} {a : Addr} {X : ShS} {L M : List Addr} {B H B' H' : Hp} (h : ShAt K a X L B H) (o : Only M H H') (x : Ext B H B') (n : ∀ p ∈ L, p ∉ M) : ShAt K a X L B' H' := by
  obtain ⟨cf, dx, rd, ud, kvs, uks, rfl, h1, h2, h3, h4, h5, n1, n2, n3, b1, b2, b3⟩ := h
  refine ⟨cf, dx, rd, ud, kvs, uks, rfl, o.k _ _ h1 (n _ (by simp)), o.k _ _ h2 (n _ (by simp)), h3.mono fun v l hd => hd.ex' x.1, o.k _ _ h4 (n _ (by simp)), h5, n1, n2, n3, x.out h1 b1, x.out h2 b2, x.out h4 b3⟩
theorem ShAt.grow {K : PySem.W.Frag} {a : Addr} {X : ShS} {L : List Addr} {B H B' H' : Hp} (h : ShAt K a X L B H) (e : Ex H H') (x : Ext B H B') : ShAt K a X L B' H' := h.keep (Only.of (L := []) e) x (fun _ _ => by simp)
theorem ShAt.obj {K : PySem.W.Frag} {a : Addr} {X : ShS} {L : List Addr} {B H : Hp} (h : ShAt K a X L B H) : ∃ dx fs, H a = some (.ins (He.ga K "Shelf") dx fs) ∧ ∀ m : Str, m ∉ (["rows", "until"] : List Str) → fs.lookup m = none := by
  obtain ⟨cf, dx, rd, ud, kvs, uks, rfl, h1, _⟩ := h
  exact ⟨dx, _, h1, fun m hm => lookup_none rfl hm⟩
theorem ShAt.out {K : PySem.W.Frag} {a : Addr} {X : ShS} {L : List Addr} {B H : Hp} (h : ShAt K a X L B H) : ∀ p ∈ L, H p ≠ none ∧ B p = none := by
  obtain ⟨cf, dx, rd, ud, kvs, uks, rfl, h1, h2, h3, h4, h5, n1, n2, n3, b1, b2, b3⟩ := h
  intro p hp
  simp only [List.mem_cons, List.not_mem_nil, or_false] at hp
  rcases hp with rfl | rfl | rfl
  · exact ⟨by rw [h1]; simp, b1⟩
  · exact ⟨by rw [h2]; simp, b2⟩
  · exact ⟨by rw [h4]; simp, b3⟩
def sp_Shelf_rows_of (K : PySem.W.Frag) : Sp := fun vs H Q E => ∃ (B : Hp) (a : Addr) (L : List Addr) (X : ShS) (key : Str), vs = [.ref a, .str key] ∧ Ex B H ∧ ShAt K a X L B H ∧ ShB X ∧ Ret (rowsD (rowsOf X key)) B H Q
theorem len_Shelf_rows_of {K : PySem.W.Frag} {vs : List V} {H : Hp} {Q : VK} {E : XK} (h : sp_Shelf_rows_of K vs H Q E) : vs.length = 2 := by
  obtain ⟨_, _, _, _, _, rfl, _⟩ := h; rfl
theorem mev_Shelf_rows_of {K : PySem.W.Frag} {σ : Sig} {B H : Hp} {ta : TE} {E : XK} {a : Addr} {L : List Addr} {X : ShS} {key : Str} {t1 : TE} (ho : EvF ta σ H (.ref a)) (h1 : EvD t1 σ B H (.str key)) (hA : ShAt K a X L B H := by assumption) (hB : ShB X := by assumption) : EvD (tMeth (He.ga K "Shelf") "rows_of" (sp_Shelf_rows_of K) [] E ta (tCons t1 tNil)) σ B H (rowsD (rowsOf X key)) := by
  obtain ⟨dx, fs, hx, hf⟩ := hA.obj
  exact evd_meth ho hx (hf _ (by decide)) (evs_cons h1 evs_nil) fun H1 B1 vs e1 x1 eb1 hd Q q => by
    obtain ⟨v1, rfl, hv1⟩ := dpa1 hd
    cases hv1
    exact ⟨B1, a, L, X, key, rfl, eb1, hA.grow e1 x1, hB, q⟩
def t_Shelf_rows_of (K : PySem.W.Frag) (E : XK) : TS :=
  (tRet (tDGet2 (tFld K (tVar 0) "rows") (tVar 1) (tLst tNil)))
theorem pure_Shelf_rows_of {K : PySem.W.Frag}  {vs : List V} {H : Hp} {Q : VK} {E : XK} (h : sp_Shelf_rows_of K vs H Q E) : t_Shelf_rows_of K E { nx := fun _ H' => Q .non H', rt := Q } (start ["self", "key"] vs) H := by
  obtain ⟨B, a, L, X, key, rfl, eb, hA, hB, r⟩ := h
  obtain ⟨cf, dx, rd, ud, kvs, uks, rfl, h1, h2, h3, h4, h5, n1, n2, n3, b1, b2, b3⟩ := hA
  refine s_ret (B := B) (evd_dget2 (k := .inr key) (evf_fld (evf_var rfl) h1 cf (by decide) rfl) (evd_varS rfl) (evd_lst evs_nil) (.inl h2) ?_) eb r
  unfold rowsOf
  rcases h3.get inr_inj (k := key) with ⟨e1, e2⟩ | ⟨v, l, e1, e2, e3⟩
  · exact .inl ⟨e1, by rw [e2]; rfl⟩
  · exact .inr ⟨v, e1, by rw [e2]; exact e3⟩
def sp_Shelf_come (K : PySem.W.Frag) : Sp := fun vs H Q E => ∃ (B : Hp) (a : Addr) (L : List Addr) (X : ShS) (key : Str) (row : Row) (v_row : V), vs = [.ref a, .str key, v_row] ∧ Ex B H ∧ ShAt K a X L B H ∧ ShB X ∧ Da B v_row (rowD row) ∧ RetC L (ShAt K a (X.come key row)) (.none) B H Q
theorem len_Shelf_come {K : PySem.W.Frag} {vs : List V} {H : Hp} {Q : VK} {E : XK} (h : sp_Shelf_come K vs H Q E) : vs.length = 3 := by
  obtain ⟨_, _, _, _, _, _, _, rfl, _⟩ := h; rfl
theorem run_Shelf_come {K : PySem.W.Frag} {σ : Sig} {B H : Hp} {ta : TE} {E : XK} {a : Addr} {L : List Addr} {X : ShS} {key : Str} {row : Row} {t1 : TE} {t2 : TE} {Q : VK} (ho : EvF ta σ H (.ref a)) (h1 : EvD t1 σ B H (.str key)) (h2 : EvD t2 σ B H (rowD row)) (eb : Ex B H) (hA : ShAt K a X L B H := by assumption) (hB : ShB X := by assumption) (q : RetC L (ShAt K a (X.come key row)) (.none) B H Q) : tMeth (He.ga K "Shelf") "come" (sp_Shelf_come K) [] E ta (tCons t1 (tCons t2 tNil)) σ H Q := by
  obtain ⟨dx, fs, hx, hf⟩ := hA.obj
  exact run_meth ho hx (hf _ (by decide)) (evs_cons h1 (evs_cons h2 evs_nil)) eb fun H1 B1 vs e1 x1 eb1 hd => by
    obtain ⟨v1, v2, rfl, hv1, hv2⟩ := dpa2 hd
    cases hv1
    exact ⟨B1, a, L, X, key, row, v2, rfl, eb1, hA.grow e1 x1, hB, hv2, q.grow e1 x1⟩
def t_Shelf_come (K : PySem.W.Frag) (E : XK) : TS :=
  (sDPut (tFld K (tVar 0) "rows") (tVar 1) (tOp rCat (tMeth (He.ga K "Shelf") "rows_of" (sp_Shelf_rows_of K) [] E0 (tVar 0) (tCons (tVar 1) tNil)) (tLst (tCons (tVar 2) tNil))))
theorem pure_Shelf_come {K : PySem.W.Frag}  {vs : List V} {H : Hp} {Q : VK} {E : XK} (h : sp_Shelf_come K vs H Q E) : t_Shelf_come K E { nx := fun _ H' => Q .non H', rt := Q } (start ["self", "key", "row"] vs) H := by
  obtain ⟨B, a, L, X, key, row, v_row, rfl, eb, hA, hB, h_row, r⟩ := h
  have hA' := hA
  obtain ⟨cf, dx, rd, ud, kvs, uks, rfl, h1, h2, h3, h4, h5, n1, n2, n3, b1, b2, b3⟩ := hA'
  have hl := hB.rows key
  refine s_dputK (B := B) (k := .inr key) (d := rowsD (rowsOf X key ++ [row])) ?_ (evf_fld (evf_var rfl) h1 cf (by decide) rfl) (evd_varS rfl) eb h2 (by rw [h3.len]; have := hB.nk; omega) fun v H1 B1 e1 x1 eb1 hv => ?_
  · unfold rowsD
    rw [List.map_append]
    exact evd_catL (mev_Shelf_rows_of (evf_var rfl) (evd_varS rfl)) (evd_lst (evs_cons (evd_var rfl h_row) evs_nil)) (by rw [List.length_map]; show _ + 1 ≤ _; omega)
  · refine r _ _ B1 [a, rd, ud] ((Only.of e1).trans (Only.put (by simp))) (fun p hp => .inl hp) x1 (ex_mut eb1 (x1.out h2 b2)) ?_ .non
    exact ⟨cf, dx, rd, ud, _, uks, rfl, by rw [upd_ne n1]; exact e1 _ _ h1, upd_same, (h3.mono fun v l hd => hd.ex' x1.1).put inr_inj hv, by rw [upd_ne (Ne.symm n3)]; exact e1 _ _ h4, h5, n1, n2, n3, x1.out h1 b1, x1.out h2 b2, x1.out h4 b3⟩
def sp_Shelf_row_of (K : PySem.W.Frag) : Sp := fun vs H Q E => ∃ (B : Hp) (a : Addr) (L : List Addr) (X : ShS) (key : Str) (version : Int), vs = [.ref a, .str key, .int version] ∧ Ex B H ∧ ShAt K a X L B H ∧ ShB X ∧ RetX K (rowR X key version) B H Q E
theorem len_Shelf_row_of {K : PySem.W.Frag} {vs : List V} {H : Hp} {Q : VK} {E : XK} (h : sp_Shelf_row_of K vs H Q E) : vs.length = 3 := by
  obtain ⟨_, _, _, _, _, _, rfl, _⟩ := h; rfl
theorem mxv_Shelf_row_of {K : PySem.W.Frag} {σ : Sig} {B H : Hp} {ta : TE} {E : XK} {a : Addr} {L : List Addr} {X : ShS} {key : Str} {version : Int} {t1 : TE} {t2 : TE} (ho : EvF ta σ H (.ref a)) (h1 : EvD t1 σ B H (.str key)) (h2 : EvD t2 σ B H (.int version)) (hA : ShAt K a X L B H := by assumption) (hB : ShB X := by assumption) : EvX K (tMeth (He.ga K "Shelf") "row_of" (sp_Shelf_row_of K) [] E ta (tCons t1 (tCons t2 tNil))) σ B H (rowR X key version) E := by
  obtain ⟨dx, fs, hx, hf⟩ := hA.obj
  exact evx_meth ho hx (hf _ (by decide)) (evs_cons h1 (evs_cons h2 evs_nil)) fun H1 B1 vs e1 x1 eb1 hd Q q => by
    obtain ⟨v1, v2, rfl, hv1, hv2⟩ := dpa2 hd
    cases hv1
    cases hv2
    exact ⟨B1, a, L, X, key, version, rfl, eb1, hA.grow e1 x1, hB, q⟩
def t_Shelf_row_of (K : PySem.W.Frag) (E : XK) : TS :=
  (tSeq (tFor (iList K (tMeth (He.ga K "Shelf") "rows_of" (sp_Shelf_rows_of K) [] E0 (tVar 0) (tCons (tVar 1) tNil))) (gName 3) (tIfS (tTest (tOp rEq (tOp (rIxT K) (tVar 3) (tC (.int 0))) (tVar 2))) (tRet (tVar 3)) tNext))
    (tRs (He.ga K "NoVersion") E))
theorem pure_Shelf_row_of {K : PySem.W.Frag}  {vs : List V} {H : Hp} {Q : VK} {E : XK} (h : sp_Shelf_row_of K vs H Q E) : t_Shelf_row_of K E { nx := fun _ H' => Q .non H', rt := Q } (start ["self", "key", "version", "row"] vs) H := by
  obtain ⟨B, a, L, X, key, version, rfl, eb, hA, hB, r⟩ := h
  refine q_for (B := B) (ds := (rowsOf X key).map rowD) (src_list (mev_Shelf_rows_of (evf_var rfl) (evd_varS rfl))) eb (fun B1 i σ1 H1 => Ex H H1 ∧ Ext B H B1 ∧ Ex B1 H1 ∧ (∃ z, σ1 = [some (.ref a), some (.str key), some (.int version), z]) ∧ ∀ r ∈ (rowsOf X key).take i, r.v ≠ version)
    (fun H1 B1 e1 x1 eb1 => ⟨e1, x1, eb1, ⟨_, rfl⟩, by simp⟩) (fun B1 i σ1 H1 _ p => p.2.2.1) ?_ ?_
  · rintro B1 i d x σ1 H1 H2 B2 _ hd ⟨e1, x1, eb1, ⟨z, rfl⟩, hn⟩ e2 x2 eb2 hx
    rw [List.getElem?_map] at hd
    obtain ⟨row, hr, rfl⟩ := Option.map_eq_some_iff.mp hd
    refine s_when (B := B2) (evb_test (evd_eqI (evd_ixTc (evd_var rfl (by assumption)) evd_ci) (evd_varI rfl))) eb2 (fun hb H3 e3 eb3 => ?_) (fun hb H3 e3 eb3 => ?_)
    · have hv : row.v = version := of_decide_eq_true hb
      have hf : rowOf X key version = some row := by
        unfold rowOf
        rw [List.find?_eq_some_iff_getElem]
        obtain ⟨hi, he⟩ := List.getElem?_eq_some_iff.mp hr
        refine ⟨decide_eq_true hv, i, hi, he, fun j hj => ?_⟩
        have := hn ((rowsOf X key)[j]'(by omega)) (by rw [List.mem_take_iff_getElem]; exact ⟨j, by omega, rfl⟩)
        simpa using this
      unfold rowR at r
      rw [hf] at r
      exact s_ret (B := B2) (evd_var rfl hx) eb3 (Ret.grow r ((e1.trans e2).trans e3) (Ext.trans x1 e1 x2))
    · have hv : ¬ row.v = version := of_decide_eq_false hb
      refine ⟨(e1.trans e2).trans e3, x1, (eb1.trans e2).trans e3, ⟨_, rfl⟩, ?_⟩
      rw [lc_take hr]
      intro q hq
      rcases List.mem_append.mp hq with hq | hq
      · exact hn q hq
      · rw [List.mem_singleton.mp hq]; exact hv
  · rintro B1 σ1 H1 _ ⟨e1, x1, eb1, ⟨z, rfl⟩, hn⟩
    have hf : rowOf X key version = none := by
      unfold rowOf
      rw [List.find?_eq_none]
      intro q hq
      have := hn q (by rw [List.length_map, List.take_length]; exact hq)
      simpa using this
    unfold rowR at r
    rw [hf] at r
    exact r H1 e1
def sp_Shelf_newest (K : PySem.W.Frag) : Sp := fun vs H Q E => ∃ (B : Hp) (a : Addr) (L : List Addr) (X : ShS) (key : Str), vs = [.ref a, .str key] ∧ Ex B H ∧ ShAt K a X L B H ∧ ShB X ∧ RetX K (newestR X key) B H Q E
theorem len_Shelf_newest {K : PySem.W.Frag} {vs : List V} {H : Hp} {Q : VK} {E : XK} (h : sp_Shelf_newest K vs H Q E) : vs.length = 2 := by
  obtain ⟨_, _, _, _, _, rfl, _⟩ := h; rfl
theorem mxv_Shelf_newest {K : PySem.W.Frag} {σ : Sig} {B H : Hp} {ta : TE} {E : XK} {a : Addr} {L : List Addr} {X : ShS} {key : Str} {t1 : TE} (ho : EvF ta σ H (.ref a)) (h1 : EvD t1 σ B H (.str key)) (hA : ShAt K a X L B H := by assumption) (hB : ShB X := by assumption) : EvX K (tMeth (He.ga K "Shelf") "newest" (sp_Shelf_newest K) [] E ta (tCons t1 tNil)) σ B H (newestR X key) E := by
  obtain ⟨dx, fs, hx, hf⟩ := hA.obj
  exact evx_meth ho hx (hf _ (by decide)) (evs_cons h1 evs_nil) fun H1 B1 vs e1 x1 eb1 hd Q q => by
    obtain ⟨v1, rfl, hv1⟩ := dpa1 hd
    cases hv1
    exact ⟨B1, a, L, X, key, rfl, eb1, hA.grow e1 x1, hB, q⟩
def t_Shelf_newest (K : PySem.W.Frag) (E : XK) : TS :=
  (tSeq (tAsg (tMeth (He.ga K "Shelf") "rows_of" (sp_Shelf_rows_of K) [] E0 (tVar 0) (tCons (tVar 1) tNil)) (gName 2))
    (tSeq (tIfS (tNot (tTruth K (tVar 2))) (tRs (He.ga K "NoKey") E) tNext)
    (tSeq (tIfS (tTest (tOp rIsNone (tOp (rIxT K) (tOp (rIxL K) (tVar 2) (tUn (rU fun i => .int (-i)) (tC (.int 1)))) (tC (.int 2))) (tC .non))) (tRs (He.ga K "Gone") E) tNext)
    (tRet (tOp (rIxL K) (tVar 2) (tUn (rU fun i => .int (-i)) (tC (.int 1))))))))
theorem pure_Shelf_newest {K : PySem.W.Frag}  {vs : List V} {H : Hp} {Q : VK} {E : XK} (h : sp_Shelf_newest K vs H Q E) : t_Shelf_newest K E { nx := fun _ H' => Q .non H', rt := Q } (start ["self", "key", "some"] vs) H := by
  obtain ⟨B, a, L, X, key, rfl, eb, hA, hB, r⟩ := h
  refine q_asg (B := B) (mev_Shelf_rows_of (evf_var rfl) (evd_varS rfl)) eb fun v H1 B1 e1 x1 eb1 hv => ?_
  unfold newestR at r
  cases hn : newest X key with
  | none =>
    rw [hn] at r
    have h0 : rowsOf X key = [] := List.getLast?_eq_none_iff.mp hn
    refine q_when (b := true) (B := B1) (EvB.is (evb_not (evb_tru (evd_var rfl hv) (fun x z => nomatch z))) (by rw [h0]; rfl)) eb1 (fun _ H2 e2 eb2 => ?_) (fun z => nomatch z)
    exact r H2 (e1.trans e2)
  | some row =>
    rw [hn] at r
    have h0 : truD (rowsD (rowsOf X key)) = true := by
      show (!((rowsOf X key).map rowD).isEmpty) = true
      cases h : rowsOf X key with
      | nil => unfold newest at hn; rw [h] at hn; cases hn
      | cons p q => rfl
    have hl : atI ((rowsOf X key).map rowD) (-1) = some (rowD row) := atI_last (by rw [List.getLast?_map, show (rowsOf X key).getLast? = some row from hn]; rfl)
    refine q_pass (B := B1) (EvB.is (evb_not (evb_tru (evd_var rfl hv) (fun x z => nomatch z))) (by rw [h0]; rfl)) eb1 fun H2 e2 eb2 => ?_
    have el : ∀ H2, EvD (tOp (rIxL K) (tVar 2) (tUn (rU fun i => .int (-i)) (tC (.int 1)))) [some (.ref a), some (.str key), some v] B1 H2 (rowD row) := fun H2 => evd_ixL (evd_var rfl hv) (evd_un evd_ci) hl
    have et : EvB (tTest (tOp rIsNone (tOp (rIxT K) (tOp (rIxL K) (tVar 2) (tUn (rU fun i => .int (-i)) (tC (.int 1)))) (tC (.int 2))) (tC .non))) [some (.ref a), some (.str key), some v] B1 H2 (isNone (oS row.data)) := evb_test (evd_opIsN (evd_ixTc (el H2) evd_ci) evd_cn)
    cases hd : row.data with
    | none =>
      dsimp only at r
      rw [hd] at r et
      refine q_when (b := true) (B := B1) et eb2 (fun _ H3 e3 eb3 => ?_) (fun z => nomatch z)
      exact r H3 ((e1.trans e2).trans e3)
    | some x =>
      dsimp only at r
      rw [hd] at r et
      refine q_pass (B := B1) et eb2 fun H3 e3 eb3 => ?_
      exact s_ret (B := B1) (el H3) eb3 (Ret.grow r ((e1.trans e2).trans e3) x1)
theorem aDel_none {κ α : Type} [DecidableEq κ] {l : List (κ × α)} {k : κ} (h : aGet l k = none) : aDel l k = l := by
  unfold aDel
  rw [List.filter_eq_self]
  intro p hp
  rw [decide_eq_true_eq]
  intro e
  have : k ∈ l.map (·.1) := List.mem_map.mpr ⟨p, hp, e⟩
  exact aGet_keys.mpr this h
def sp_Shelf_leave (K : PySem.W.Frag) : Sp := fun vs H Q E => ∃ (B : Hp) (a : Addr) (L : List Addr) (X : ShS) (key : Str) (version : Int), vs = [.ref a, .str key, .int version] ∧ Ex B H ∧ ShAt K a X L B H ∧ ShB X ∧ RetC L (ShAt K a (X.leave key version)) (.none) B H Q
theorem len_Shelf_leave {K : PySem.W.Frag} {vs : List V} {H : Hp} {Q : VK} {E : XK} (h : sp_Shelf_leave K vs H Q E) : vs.length = 3 := by
  obtain ⟨_, _, _, _, _, _, rfl, _⟩ := h; rfl
theorem run_Shelf_leave {K : PySem.W.Frag} {σ : Sig} {B H : Hp} {ta : TE} {E : XK} {a : Addr} {L : List Addr} {X : ShS} {key : Str} {version : Int} {t1 : TE} {t2 : TE} {Q : VK} (ho : EvF ta σ H (.ref a)) (h1 : EvD t1 σ B H (.str key)) (h2 : EvD t2 σ B H (.int version)) (eb : Ex B H) (hA : ShAt K a X L B H := by assumption) (hB : ShB X := by assumption) (q : RetC L (ShAt K a (X.leave key version)) (.none) B H Q) : tMeth (He.ga K "Shelf") "leave" (sp_Shelf_leave K) [] E ta (tCons t1 (tCons t2 tNil)) σ H Q := by
  obtain ⟨dx, fs, hx, hf⟩ := hA.obj
  exact run_meth ho hx (hf _ (by decide)) (evs_cons h1 (evs_cons h2 evs_nil)) eb fun H1 B1 vs e1 x1 eb1 hd => by
    obtain ⟨v1, v2, rfl, hv1, hv2⟩ := dpa2 hd
    cases hv1
    cases hv2
    exact ⟨B1, a, L, X, key, version, rfl, eb1, hA.grow e1 x1, hB, q.grow e1 x1⟩
def t_Shelf_leave (K : PySem.W.Frag) (E : XK) : TS :=
  (tSeq (sDPut (tFld K (tVar 0) "rows") (tVar 1) (tLc (iList K (tMeth (He.ga K "Shelf") "rows_of" (sp_Shelf_rows_of K) [] E0 (tVar 0) (tCons (tVar 1) tNil))) (gName 3) (tTest (tOp rNe (tOp (rIxT K) (tVar 3) (tC (.int 0))) (tVar 2))) (tVar 3) [3]))
    (tIfS (tB (tDIn (tTup (tCons (tVar 1) (tCons (tVar 2) tNil))) (tFld K (tVar 0) "until"))) (tDrop (tDPopT (tFld K (tVar 0) "until") (tTup (tCons (tVar 1) (tCons (tVar 2) tNil))))) tNext))
theorem pure_Shelf_leave {K : PySem.W.Frag}  {vs : List V} {H : Hp} {Q : VK} {E : XK} (h : sp_Shelf_leave K vs H Q E) : t_Shelf_leave K E { nx := fun _ H' => Q .non H', rt := Q } (start ["self", "key", "version", "row"] vs) H := by
  obtain ⟨B, a, L, X, key, version, rfl, eb, hA, hB, r⟩ := h
  have hA' := hA
  obtain ⟨cf, dx, rd, ud, kvs, uks, rfl, h1, h2, h3, h4, h5, n1, n2, n3, b1, b2, b3⟩ := hA'
  have hl := hB.rows key
  refine q_dputK (B := B) (k := .inr key) (d := rowsD ((rowsOf X key).filter fun r => !decide (r.v = version))) ?_ (evf_fld (evf_var rfl) h1 cf (by decide) rfl) (evd_varS rfl) eb h2 (by rw [h3.len]; have := hB.nk; omega) fun v H1 B1 e1 x1 eb1 hv => ?_
  · refine evd_lc rowD (fun r => !decide (r.v = version)) rowD (src_list (ds := (rowsOf X key).map rowD) (mev_Shelf_rows_of (evf_var rfl) (evd_varS rfl))) (by omega) fun row hr x B1 H1 eb' eh' e' hx R k => k _ rfl ?_ fun _ => ?_
    · exact (evb_test (evd_neI (evd_ixTc (evd_var rfl (by assumption)) evd_ci) (evd_varI rfl)))
    · exact evd_var rfl hx
  · have e2 : Ex B1 (upd H1 rd (.dK (putK kvs (.inr key) v))) := ex_mut eb1 (x1.out h2 b2)
    have hu : upd H1 rd (.dK (putK kvs (.inr key) v)) ud = some (.dT uks) := by rw [upd_ne (Ne.symm n3)]; exact e1 _ _ h4
    have ha : upd H1 rd (.dK (putK kvs (.inr key) v)) a = some (.ins (He.ga K "Shelf") dx [("rows", .ref rd), ("until", .ref ud)]) := by rw [upd_ne n1]; exact e1 _ _ h1
    have hT := (h3.mono fun v l hd => hd.ex' x1.1).put inr_inj (k := key) hv
    have hO : Only [a, rd, ud] H (upd H1 rd (.dK (putK kvs (.inr key) v))) := (Only.of e1).trans (Only.put (by simp))
    refine s_when (B := B1) (evb_B (evd_dinT (k := (key, version)) (evd_tup (evs_cons (evd_varS rfl) (evs_cons (evd_varI rfl) evs_nil))) (evf_fld (evf_var rfl) ha cf (by decide) rfl) (.inl hu))) e2 (fun hb H3 e3 eb3 => ?_) (fun hb H3 e3 eb3 => ?_)
    · rcases h5.get untK_inj (k := (key, version)) with ⟨z1, z2⟩ | ⟨u, n, z1, z2, z3⟩
      · rw [z1] at hb; cases hb
      · refine s_dpopT (B := B1) (k := (key, version)) (evf_fld (evf_var rfl) (e3 _ _ ha) cf (by decide) rfl) (evd_tup (evs_cons (evd_varS rfl) (evs_cons (evd_varI rfl) evs_nil))) eb3 (e3 _ _ hu) z1 fun H4 e4 eb4 => ?_
        refine r _ _ B1 [a, rd, ud] (hO.trans ((Only.of (e3.trans e4)).trans (Only.put (by simp)))) (fun p hp => .inl hp) x1 (ex_mut eb4 (x1.out h4 b3)) ?_ .non
        exact ⟨cf, dx, rd, ud, _, _, rfl, by rw [upd_ne n2]; exact (e3.trans e4) _ _ ha, by rw [upd_ne n3]; exact (e3.trans e4) _ _ upd_same, hT, upd_same, h5.del untK_inj, n1, n2, n3, x1.out h1 b1, x1.out h2 b2, x1.out h4 b3⟩
    · have hz : aGet X.unt (key, version) = none := by
        rcases h5.get untK_inj (k := (key, version)) with ⟨z1, z2⟩ | ⟨u, n, z1, z2, z3⟩
        · exact z2
        · rw [z1] at hb; cases hb
      refine r _ _ B1 [a, rd, ud] (hO.trans (Only.of e3)) (fun p hp => .inl hp) x1 eb3 ?_ .non
      refine ⟨cf, dx, rd, ud, _, _, rfl, e3 _ _ ha, e3 _ _ upd_same, hT, e3 _ _ hu, ?_, n1, n2, n3, x1.out h1 b1, x1.out h2 b2, x1.out h4 b3⟩
      show Tab untK _ _ (aDel X.unt (key, version))
      rw [aDel_none hz]
      exact h5
def sp_Shelf_is_there (K : PySem.W.Frag) : Sp := fun vs H Q E => ∃ (B : Hp) (a : Addr) (L : List Addr) (X : ShS) (key : Str), vs = [.ref a, .str key] ∧ Ex B H ∧ ShAt K a X L B H ∧ ShB X ∧ Ret (.bool (isThere X key)) B H Q
theorem len_Shelf_is_there {K : PySem.W.Frag} {vs : List V} {H : Hp} {Q : VK} {E : XK} (h : sp_Shelf_is_there K vs H Q E) : vs.length = 2 := by
  obtain ⟨_, _, _, _, _, rfl, _⟩ := h; rfl
theorem mev_Shelf_is_there {K : PySem.W.Frag} {σ : Sig} {B H : Hp} {ta : TE} {E : XK} {a : Addr} {L : List Addr} {X : ShS} {key : Str} {t1 : TE} (ho : EvF ta σ H (.ref a)) (h1 : EvD t1 σ B H (.str key)) (hA : ShAt K a X L B H := by assumption) (hB : ShB X := by assumption) : EvD (tMeth (He.ga K "Shelf") "is_there" (sp_Shelf_is_there K) [] E ta (tCons t1 tNil)) σ B H (.bool (isThere X key)) := by
  obtain ⟨dx, fs, hx, hf⟩ := hA.obj
  exact evd_meth ho hx (hf _ (by decide)) (evs_cons h1 evs_nil) fun H1 B1 vs e1 x1 eb1 hd Q q => by
    obtain ⟨v1, rfl, hv1⟩ := dpa1 hd
    cases hv1
    exact ⟨B1, a, L, X, key, rfl, eb1, hA.grow e1 x1, hB, q⟩
def t_Shelf_is_there (K : PySem.W.Frag) (E : XK) : TS :=
  (tSeq (tAsg (tMeth (He.ga K "Shelf") "rows_of" (sp_Shelf_rows_of K) [] E0 (tVar 0) (tCons (tVar 1) tNil)) (gName 2))
    (tRet (tAndV (tOp (rI0 fun i j => .bl (decide (j < i))) (tCB (rLenSeq K) (tCons (tVar 2) tNil)) (tC (.int 0))) (tOp rNotNone (tOp (rIxT K) (tOp (rIxL K) (tVar 2) (tUn (rU fun i => .int (-i)) (tC (.int 1)))) (tC (.int 2))) (tC .non)))))
theorem pure_Shelf_is_there {K : PySem.W.Frag}  {vs : List V} {H : Hp} {Q : VK} {E : XK} (h : sp_Shelf_is_there K vs H Q E) : t_Shelf_is_there K E { nx := fun _ H' => Q .non H', rt := Q } (start ["self", "key", "some"] vs) H := by
  obtain ⟨B, a, L, X, key, rfl, eb, hA, hB, r⟩ := h
  refine q_asg (B := B) (mev_Shelf_rows_of (evf_var rfl) (evd_varS rfl)) eb fun v H1 B1 e1 x1 eb1 hv => ?_
  have e0 : EvD (tOp (rI0 fun i j => .bl (decide (j < i))) (tCB (rLenSeq K) (tCons (tVar 2) tNil)) (tC (.int 0))) [some (.ref a), some (.str key), some v] B1 H1 (.bool (decide ((0 : Int) < (rowsOf X key).length))) := EvD.is (evd_B0 (g := fun i j => decide (j < i)) (evd_lenL (evd_var rfl hv)) evd_ci) (by rw [List.length_map])
  refine s_ret (B := B1) ?_ eb1 (r.grow e1 x1)
  unfold isThere
  cases hn : newest X key with
  | none =>
    have h0 : rowsOf X key = [] := List.getLast?_eq_none_iff.mp hn
    rw [h0] at e0
    exact evd_and (a := false) (b := false) e0 (fun z => nomatch z)
  | some row =>
    have hl : atI ((rowsOf X key).map rowD) (-1) = some (rowD row) := atI_last (by rw [List.getLast?_map, show (rowsOf X key).getLast? = some row from hn]; rfl)
    have h0 : decide ((0 : Int) < (rowsOf X key).length) = true := by
      apply decide_eq_true
      cases h : rowsOf X key with
      | nil => unfold newest at hn; rw [h] at hn; cases hn
      | cons p q => rw [List.length_cons]; omega
    rw [h0] at e0
    refine EvD.is (evd_and e0 fun _ => evd_opNotN (evd_ixTc (evd_ixL (evd_var rfl hv) (evd_un evd_ci) hl) evd_ci) evd_cn) ?_
    dsimp only
    cases row.data <;> rfl
def sp_Shelf_keys_there (K : PySem.W.Frag) : Sp := fun vs H Q E => ∃ (B : Hp) (a : Addr) (L : List Addr) (X : ShS), vs = [.ref a] ∧ Ex B H ∧ ShAt K a X L B H ∧ ShB X ∧ Ret (.tuple ((keysThere X).map .str)) B H Q
theorem len_Shelf_keys_there {K : PySem.W.Frag} {vs : List V} {H : Hp} {Q : VK} {E : XK} (h : sp_Shelf_keys_there K vs H Q E) : vs.length = 1 := by
  obtain ⟨_, _, _, _, rfl, _⟩ := h; rfl
theorem mev_Shelf_keys_there {K : PySem.W.Frag} {σ : Sig} {B H : Hp} {ta : TE} {E : XK} {a : Addr} {L : List Addr} {X : ShS} (ho : EvF ta σ H (.ref a)) (hA : ShAt K a X L B H := by assumption) (hB : ShB X := by assumption) : EvD (tMeth (He.ga K "Shelf") "keys_there" (sp_Shelf_keys_there K) [] E ta tNil) σ B H (.tuple ((keysThere X).map .str)) := by
  obtain ⟨dx, fs, hx, hf⟩ := hA.obj
  exact evd_meth ho hx (hf _ (by decide)) evs_nil fun H1 B1 vs e1 x1 eb1 hd Q q => by
    cases hd
    exact ⟨B1, a, L, X, rfl, eb1, hA.grow e1 x1, hB, q⟩
def t_Shelf_keys_there (K : PySem.W.Frag) (E : XK) : TS :=
  (tRet (tCB (rTupleOf K) (tCons (tLc (iList K (tCB rSortDS (tCons (tFld K (tVar 0) "rows") tNil))) (gName 1) (tB (tMeth (He.ga K "Shelf") "is_there" (sp_Shelf_is_there K) [] E0 (tVar 0) (tCons (tVar 1) tNil))) (tVar 1) [1]) tNil)))
theorem pure_Shelf_keys_there {K : PySem.W.Frag}  {vs : List V} {H : Hp} {Q : VK} {E : XK} (h : sp_Shelf_keys_there K vs H Q E) : t_Shelf_keys_there K E { nx := fun _ H' => Q .non H', rt := Q } (start ["self", "key"] vs) H := by
  obtain ⟨B, a, L, X, rfl, eb, hA, hB, r⟩ := h
  have hA' := hA
  obtain ⟨cf, dx, rd, ud, kvs, uks, rfl, h1, h2, h3, h4, h5, n1, n2, n3, b1, b2, b3⟩ := hA'
  have hk := hB.nk
  refine s_ret (B := B) (evd_tupleL ?_) eb r
  refine evd_lc PyData.str (isThere X) PyData.str (src_list (evd_sortDS (evf_fld (evf_var rfl) h1 cf (by decide) rfl) h2 h3.keys (by rw [List.length_map]; exact hB.nk))) (by rw [(srt_perm _).length_eq, List.length_map]; omega) fun k hk x B1 H1 eb' eh' e' hx R kk => ?_
  cases hx
  have hA1 := hA.grow eh' (Ext.refl B H)
  exact kk _ rfl ((evb_B (mev_Shelf_is_there (evf_var rfl) (evd_varS rfl))).mono eb' (Ex.refl _)) fun _ => evd_varS rfl
def sp_Shelf_data_of (K : PySem.W.Frag) : Sp := fun vs H Q E => ∃ (B : Hp) (a : Addr) (L : List Addr) (X : ShS) (key : Str) (version : Int), vs = [.ref a, .str key, .int version] ∧ Ex B H ∧ ShAt K a X L B H ∧ ShB X ∧ RetX K (dataR X key version) B H Q E
theorem len_Shelf_data_of {K : PySem.W.Frag} {vs : List V} {H : Hp} {Q : VK} {E : XK} (h : sp_Shelf_data_of K vs H Q E) : vs.length = 3 := by
  obtain ⟨_, _, _, _, _, _, rfl, _⟩ := h; rfl
theorem mxv_Shelf_data_of {K : PySem.W.Frag} {σ : Sig} {B H : Hp} {ta : TE} {E : XK} {a : Addr} {L : List Addr} {X : ShS} {key : Str} {version : Int} {t1 : TE} {t2 : TE} (ho : EvF ta σ H (.ref a)) (h1 : EvD t1 σ B H (.str key)) (h2 : EvD t2 σ B H (.int version)) (hA : ShAt K a X L B H := by assumption) (hB : ShB X := by assumption) : EvX K (tMeth (He.ga K "Shelf") "data_of" (sp_Shelf_data_of K) [] E ta (tCons t1 (tCons t2 tNil))) σ B H (dataR X key version) E := by
  obtain ⟨dx, fs, hx, hf⟩ := hA.obj
  exact evx_meth ho hx (hf _ (by decide)) (evs_cons h1 (evs_cons h2 evs_nil)) fun H1 B1 vs e1 x1 eb1 hd Q q => by
    obtain ⟨v1, v2, rfl, hv1, hv2⟩ := dpa2 hd
    cases hv1
    cases hv2
    exact ⟨B1, a, L, X, key, version, rfl, eb1, hA.grow e1 x1, hB, q⟩
def t_Shelf_data_of (K : PySem.W.Frag) (E : XK) : TS :=
  (tSeq (tAsg (tMeth (He.ga K "Shelf") "row_of" (sp_Shelf_row_of K) [] E (tVar 0) (tCons (tVar 1) (tCons (tVar 2) tNil))) (gName 3))
    (tSeq (tIfS (tTest (tOp rIsNone (tOp (rIxT K) (tVar 3) (tC (.int 2))) (tC .non))) (tRs (He.ga K "Gone") E) tNext)
    (tRet (tOp (rIxT K) (tVar 3) (tC (.int 2))))))
theorem pure_Shelf_data_of {K : PySem.W.Frag}  {vs : List V} {H : Hp} {Q : VK} {E : XK} (h : sp_Shelf_data_of K vs H Q E) : t_Shelf_data_of K E { nx := fun _ H' => Q .non H', rt := Q } (start ["self", "key", "version", "row"] vs) H := by
  obtain ⟨B, a, L, X, key, version, rfl, eb, hA, hB, r⟩ := h
  unfold dataR at r
  have hx := fun Q => mxv_Shelf_row_of (σ := [some (.ref a), some (.str key), some (.int version), none]) (K := K) (E := E) (evf_var (i := 0) rfl) (evd_varS (i := 1) rfl) (evd_varI (i := 2) rfl) hA hB H (Ex.refl _) eb Q
  refine hx _ ?_
  unfold rowR
  cases hn : rowOf X key version with
  | none =>
    rw [hn] at r
    exact r
  | some row =>
    rw [hn] at r
    intro v H1 B1 e1 x1 eb1 hv
    have et : EvB (tTest (tOp rIsNone (tOp (rIxT K) (tVar 3) (tC (.int 2))) (tC .non))) [some (.ref a), some (.str key), some (.int version), some v] B1 H1 (isNone (oS row.data)) := evb_test (evd_opIsN (evd_ixTc (evd_var rfl hv) evd_ci) evd_cn)
    cases hd : row.data with
    | none =>
      dsimp only at r
      rw [hd] at r et
      refine q_when (b := true) (B := B1) et eb1 (fun _ H3 e3 eb3 => ?_) (fun z => nomatch z)
      exact r H3 (e1.trans e3)
    | some x =>
      dsimp only at r
      rw [hd] at r et
      refine q_pass (B := B1) et eb1 fun H3 e3 eb3 => ?_
      exact s_ret (B := B1) (EvD.is (evd_ixTc (evd_var rfl hv) evd_ci) (by rw [hd]; rfl)) eb3 (Ret.grow r (e1.trans e3) x1)
def sp_Shelf_held_until (K : PySem.W.Frag) : Sp := fun vs H Q E => ∃ (B : Hp) (a : Addr) (L : List Addr) (X : ShS) (key : Str) (version : Int), vs = [.ref a, .str key, .int version] ∧ Ex B H ∧ ShAt K a X L B H ∧ ShB X ∧ RetX K (heldR X key version) B H Q E
theorem len_Shelf_held_until {K : PySem.W.Frag} {vs : List V} {H : Hp} {Q : VK} {E : XK} (h : sp_Shelf_held_until K vs H Q E) : vs.length = 3 := by
  obtain ⟨_, _, _, _, _, _, rfl, _⟩ := h; rfl
theorem mxv_Shelf_held_until {K : PySem.W.Frag} {σ : Sig} {B H : Hp} {ta : TE} {E : XK} {a : Addr} {L : List Addr} {X : ShS} {key : Str} {version : Int} {t1 : TE} {t2 : TE} (ho : EvF ta σ H (.ref a)) (h1 : EvD t1 σ B H (.str key)) (h2 : EvD t2 σ B H (.int version)) (hA : ShAt K a X L B H := by assumption) (hB : ShB X := by assumption) : EvX K (tMeth (He.ga K "Shelf") "held_until" (sp_Shelf_held_until K) [] E ta (tCons t1 (tCons t2 tNil))) σ B H (heldR X key version) E := by
  obtain ⟨dx, fs, hx, hf⟩ := hA.obj
  exact evx_meth ho hx (hf _ (by decide)) (evs_cons h1 (evs_cons h2 evs_nil)) fun H1 B1 vs e1 x1 eb1 hd Q q => by
    obtain ⟨v1, v2, rfl, hv1, hv2⟩ := dpa2 hd
    cases hv1
    cases hv2
    exact ⟨B1, a, L, X, key, version, rfl, eb1, hA.grow e1 x1, hB, q⟩
def t_Shelf_held_until (K : PySem.W.Frag) (E : XK) : TS :=
  (tSeq (tDrop (tMeth (He.ga K "Shelf") "row_of" (sp_Shelf_row_of K) [] E (tVar 0) (tCons (tVar 1) (tCons (tVar 2) tNil))))
    (tRet (tDGet2 (tFld K (tVar 0) "until") (tTup (tCons (tVar 1) (tCons (tVar 2) tNil))) (tC (.int 0)))))
theorem pure_Shelf_held_until {K : PySem.W.Frag}  {vs : List V} {H : Hp} {Q : VK} {E : XK} (h : sp_Shelf_held_until K vs H Q E) : t_Shelf_held_until K E { nx := fun _ H' => Q .non H', rt := Q } (start ["self", "key", "version"] vs) H := by
  obtain ⟨B, a, L, X, key, version, rfl, eb, hA, hB, r⟩ := h
  have hA' := hA
  obtain ⟨cf, dx, rd, ud, kvs, uks, rfl, h1, h2, h3, h4, h5, n1, n2, n3, b1, b2, b3⟩ := hA'
  refine mxv_Shelf_row_of (σ := [some (.ref a), some (.str key), some (.int version)]) (K := K) (E := E) (evf_var (i := 0) rfl) (evd_varS (i := 1) rfl) (evd_varI (i := 2) rfl) hA hB H (Ex.refl _) eb _ ?_
  unfold rowR
  unfold heldR at r
  cases hn : rowOf X key version with
  | none =>
    rw [hn] at r
    exact r
  | some row =>
    rw [hn] at r
    intro v H1 B1 e1 x1 eb1 hv
    refine s_ret (B := B1) (evd_dget2T (k := (key, version)) (evf_fld (evf_var rfl) (e1 _ _ h1) cf (by decide) rfl) (evd_tup (evs_cons (evd_varS rfl) (evs_cons (evd_varI rfl) evs_nil))) evd_ci (.inl (e1 _ _ h4)) ?_) eb1 (Ret.grow r e1 x1)
    unfold untOf
    rcases h5.get untK_inj (k := (key, version)) with ⟨z1, z2⟩ | ⟨u, n, z1, z2, z3⟩
    · exact .inl ⟨z1, by rw [z2]; rfl⟩
    · exact .inr ⟨u, z1, by rw [z2, z3]; exact .int n⟩
def sp_Shelf_hold (K : PySem.W.Frag) : Sp := fun vs H Q E => ∃ (B : Hp) (a : Addr) (L : List Addr) (X : ShS) (key : Str) (version : Int) (until_ : Int), vs = [.ref a, .str key, .int version, .int until_] ∧ Ex B H ∧ ShAt K a X L B H ∧ ShB X ∧ RetCX K L (ShAt K a (X.hold key version until_)) (holdR X key version until_) B H Q E
theorem len_Shelf_hold {K : PySem.W.Frag} {vs : List V} {H : Hp} {Q : VK} {E : XK} (h : sp_Shelf_hold K vs H Q E) : vs.length = 4 := by
  obtain ⟨_, _, _, _, _, _, _, rfl, _⟩ := h; rfl
theorem run_Shelf_hold {K : PySem.W.Frag} {σ : Sig} {B H : Hp} {ta : TE} {E : XK} {a : Addr} {L : List Addr} {X : ShS} {key : Str} {version : Int} {until_ : Int} {t1 : TE} {t2 : TE} {t3 : TE} {Q : VK} (ho : EvF ta σ H (.ref a)) (h1 : EvD t1 σ B H (.str key)) (h2 : EvD t2 σ B H (.int version)) (h3 : EvD t3 σ B H (.int until_)) (eb : Ex B H) (hA : ShAt K a X L B H := by assumption) (hB : ShB X := by assumption) (q : RetCX K L (ShAt K a (X.hold key version until_)) (holdR X key version until_) B H Q E) : tMeth (He.ga K "Shelf") "hold" (sp_Shelf_hold K) [] E ta (tCons t1 (tCons t2 (tCons t3 tNil))) σ H Q := by
  obtain ⟨dx, fs, hx, hf⟩ := hA.obj
  exact run_meth ho hx (hf _ (by decide)) (evs_cons h1 (evs_cons h2 (evs_cons h3 evs_nil))) eb fun H1 B1 vs e1 x1 eb1 hd => by
    obtain ⟨v1, v2, v3, rfl, hv1, hv2, hv3⟩ := dpa3 hd
    cases hv1
    cases hv2
    cases hv3
    exact ⟨B1, a, L, X, key, version, until_, rfl, eb1, hA.grow e1 x1, hB, q.grow e1 x1⟩
def t_Shelf_hold (K : PySem.W.Frag) (E : XK) : TS :=
  (tSeq (sDPut (tFld K (tVar 0) "until") (tTup (tCons (tVar 1) (tCons (tVar 2) tNil))) (tCB rMaxI (tCons (tVar 3) (tCons (tMeth (He.ga K "Shelf") "held_until" (sp_Shelf_held_until K) [] E (tVar 0) (tCons (tVar 1) (tCons (tVar 2) tNil))) tNil))))
    (tRet (tDGet (tFld K (tVar 0) "until") (tTup (tCons (tVar 1) (tCons (tVar 2) tNil))))))
theorem pure_Shelf_hold {K : PySem.W.Frag}  {vs : List V} {H : Hp} {Q : VK} {E : XK} (h : sp_Shelf_hold K vs H Q E) : t_Shelf_hold K E { nx := fun _ H' => Q .non H', rt := Q } (start ["self", "key", "version", "until"] vs) H := by
  obtain ⟨B, a, L, X, key, version, until_, rfl, eb, hA, hB, r⟩ := h
  have hA' := hA
  obtain ⟨cf, dx, rd, ud, kvs, uks, rfl, h1, h2, h3, h4, h5, n1, n2, n3, b1, b2, b3⟩ := hA'
  have hx := mxv_Shelf_held_until (σ := [some (.ref a), some (.str key), some (.int version), some (.int until_)]) (K := K) (E := E) (evf_var (i := 0) rfl) (evd_varS (i := 1) rfl) (evd_varI (i := 2) rfl) hA hB
  unfold heldR at hx
  unfold holdR at r
  cases hn : rowOf X key version with
  | none =>
    rw [hn] at r hx
    exact ⟨_, rfl, hx.no eb r⟩
  | some row =>
    rw [hn] at r hx
    refine q_dputT (B := B) (k := (key, version)) (d := .int (max until_ (untOf X key version))) (evd_max (evd_varI rfl) hx.ok) (evf_fld (evf_var rfl) h1 cf (by decide) rfl) (evd_tup (evs_cons (evd_varS rfl) (evs_cons (evd_varI rfl) evs_nil))) eb h4 (by rw [h5.len]; have := hB.nu; omega) fun v H1 B1 e1 x1 eb1 hv => ?_
    have hv' := dpi hv
    have e2 : Ex B1 (upd H1 ud (.dT (putK uks (untK (key, version)) v))) := ex_mut eb1 (x1.out h4 b3)
    have ha : upd H1 ud (.dT (putK uks (untK (key, version)) v)) a = some (.ins (He.ga K "Shelf") dx [("rows", .ref rd), ("until", .ref ud)]) := by rw [upd_ne n2]; exact e1 _ _ h1
    have hT := h5.put untK_inj (k := (key, version)) hv'
    have hg : valV (putK uks (untK (key, version)) v) (untK (key, version)) = some v := by
      rcases hT.get untK_inj (k := (key, version)) with ⟨z1, z2⟩ | ⟨u, n, z1, z2, z3⟩
      · rw [aGet_put, if_pos rfl] at z2; cases z2
      · rw [aGet_put, if_pos rfl] at z2
        cases z2
        rw [z1, z3, hv']
    refine s_ret (B := B1) (evd_dgetT (k := (key, version)) (evf_fld (evf_var rfl) ha cf (by decide) rfl) (evd_tup (evs_cons (evd_varS rfl) (evs_cons (evd_varI rfl) evs_nil))) (.inl upd_same) hg hv) e2 fun w H4 B4 e4 x4 eb4 hw => ?_
    refine r w H4 B4 [a, rd, ud] ((Only.of e1).trans ((Only.put (p := ud) (by simp)).trans (Only.of e4))) (fun p hp => .inl hp) ?_ eb4 ?_ hw
    · exact Ext.trans x1 e1 ⟨x4.1, fun p hp => x4.2 p (by
        by_cases c : p = ud
        · subst c; rw [upd_same]; exact fun z => nomatch z
        · rw [upd_ne c]; exact hp)⟩
    · have hrd : upd H1 ud (.dT (putK uks (untK (key, version)) v)) rd = some (.dK kvs) := by rw [upd_ne n3]; exact e1 _ _ h2
      exact ⟨cf, dx, rd, ud, _, _, rfl, e4 _ _ ha, e4 _ _ hrd, h3.mono fun v l hd => hd.ex' (x1.1.trans x4.1), e4 _ _ upd_same, hT, n1, n2, n3, x4.out ha (x1.out h1 b1), x4.out hrd (x1.out h2 b2), x4.out upd_same (x1.out h4 b3)⟩
def sp_Shelf_total (K : PySem.W.Frag) : Sp := fun vs H Q E => ∃ (B : Hp) (a : Addr) (L : List Addr) (X : ShS), vs = [.ref a] ∧ Ex B H ∧ ShAt K a X L B H ∧ ShB X ∧ Ret (.int (totalS X)) B H Q
theorem len_Shelf_total {K : PySem.W.Frag} {vs : List V} {H : Hp} {Q : VK} {E : XK} (h : sp_Shelf_total K vs H Q E) : vs.length = 1 := by
  obtain ⟨_, _, _, _, rfl, _⟩ := h; rfl
theorem mev_Shelf_total {K : PySem.W.Frag} {σ : Sig} {B H : Hp} {ta : TE} {E : XK} {a : Addr} {L : List Addr} {X : ShS} (ho : EvF ta σ H (.ref a)) (hA : ShAt K a X L B H := by assumption) (hB : ShB X := by assumption) : EvD (tMeth (He.ga K "Shelf") "total" (sp_Shelf_total K) [] E ta tNil) σ B H (.int (totalS X)) := by
  obtain ⟨dx, fs, hx, hf⟩ := hA.obj
  exact evd_meth ho hx (hf _ (by decide)) evs_nil fun H1 B1 vs e1 x1 eb1 hd Q q => by
    cases hd
    exact ⟨B1, a, L, X, rfl, eb1, hA.grow e1 x1, hB, q⟩
def t_Shelf_total (K : PySem.W.Frag) (E : XK) : TS :=
  (tRet (tCB (rSum K) (tCons (tLockE (tLc (iKeys (tFld K (tVar 0) "rows")) (gName 1) tYes (tCB (rSum K) (tCons (tLc (iList K (tDGet (tFld K (tVar 0) "rows") (tVar 1))) (gName 2) (tTest (tOp rNotNone (tOp (rIxT K) (tVar 2) (tC (.int 2))) (tC .non))) (tCB rLenStr (tCons (tOp (rIxT K) (tVar 2) (tC (.int 2))) tNil)) [2]) tNil)) [1])) tNil)))
theorem pure_Shelf_total {K : PySem.W.Frag}  {vs : List V} {H : Hp} {Q : VK} {E : XK} (h : sp_Shelf_total K vs H Q E) : t_Shelf_total K E { nx := fun _ H' => Q .non H', rt := Q } (start ["self", "key", "row"] vs) H := by
  obtain ⟨B, a, L, X, rfl, eb, hA, hB, r⟩ := h
  have hA' := hA
  obtain ⟨cf, dx, rd, ud, kvs, uks, rfl, h1, h2, h3, h4, h5, n1, n2, n3, b1, b2, b3⟩ := hA'
  refine s_ret (B := B) (evd_sum (ns := (X.rows.map Prod.fst).map fun (k : Str) => (lensOf (rowsOf X k)).sum) ?_) eb r
  refine evd_lock h2 trivial b2 fun od => ?_
  have hf : ∀ H', Ex (upd H rd (.frz od (.dK kvs))) H' → H' a = some (.ins (He.ga K "Shelf") dx [("rows", .ref rd), ("until", .ref ud)]) := fun H' e => e _ _ (by rw [upd_ne n1]; exact h1)
  rw [List.map_map]
  refine evd_lc1 (σ := [some (.ref a), none, none]) (j := 1) (vs := [1]) PyData.str _ (as := X.rows.map Prod.fst) ?_ (by rw [List.length_map]; have := hB.nk; omega) (fun x => rfl) fun k hk x B1 H1 eb' eh' e' hx => ?_
  · have := src_keys (σ := [some (.ref a), none, none]) (B := upd B rd (.frz od (.dK kvs))) (H := upd H rd (.frz od (.dK kvs))) (td := tFld K (tVar 0) "rows") (kvs := kvs) (evf_fld (evf_var rfl) (hf _ (Ex.refl _)) cf (by decide) rfl) upd_same
    have e2 : (kvs.map fun kv => keyD kv.1) = (X.rows.map Prod.fst).map PyData.str := by
      rw [show (kvs.map fun kv => keyD kv.1) = (kvs.map (·.1)).map keyD by rw [List.map_map]; rfl, h3.keys, List.map_map]; rfl
    rw [e2] at this
    exact this
  · cases hx
    have hB1 : B1 rd = some (.frz od (.dK kvs)) := eb' _ _ upd_same
    show EvD _ _ B1 H1 (.int (lensOf (rowsOf X k)).sum)
    refine evd_sum ?_
    obtain ⟨v, l, z1, z2, z3⟩ : ∃ v l, valV kvs (.inr k) = some v ∧ aGet X.rows k = some l ∧ Da B v (rowsD l) := by
      rcases h3.get inr_inj (k := k) with ⟨z1, z2⟩ | z
      · exact absurd z2 (aGet_keys.mpr hk)
      · exact z
    have hro : rowsOf X k = l := by unfold rowsOf; rw [z2]; rfl
    rw [hro]
    have hl : l.length ≤ 5000 := hro ▸ hB.rows k
    have hz : Da B1 v (rowsD l) := z3.ex' (fun p o hp => eb' p o (by
      by_cases c : p = rd
      · subst c; rw [b2] at hp; cases hp
      · rw [upd_ne c]; exact hp))
    have := evd_lc (B := B1) (H := H1) (σ := [some (.ref a), some (.str k), none]) (wi := (iList K (tDGet (tFld K (tVar 0) "rows") (tVar 1)))) (g := gName 2) (tt := (tTest (tOp rNotNone (tOp (rIxT K) (tVar 2) (tC (.int 2))) (tC .non)))) (te := (tCB rLenStr (tCons (tOp (rIxT K) (tVar 2) (tC (.int 2))) tNil))) (vs := [2]) rowD (fun r => r.data.isSome) (fun r => oLen r.data) (src_list (ds := l.map rowD) (evd_dget (k := .inr k) (evf_fld (evf_var rfl) (hf _ eh') cf (by decide) rfl) (evd_varS rfl) (.inr ⟨od, e' _ _ hB1⟩) z1 hz)) (by omega) (fun row hrow x B2 H2 eb2 eh2 e2 hx R kk => kk _ rfl ?_ fun hc => ?_)
    · refine EvD.is this ?_
      unfold lensOf
      congr 1
      clear hl z3 hz this z2 hro
      induction l with
      | nil => rfl
      | cons p q ih =>
        cases hd : p.data with
        | none => rw [List.filter_cons_of_neg (by rw [hd]; simp), List.filterMap_cons_none hd]; exact ih
        | some y => rw [List.filter_cons_of_pos (by rw [hd]; rfl), List.filterMap_cons_some hd, List.map_cons, List.map_cons, List.map_cons, ih, hd]; rfl
    · refine EvB.is (evb_test (evd_opNotN (evd_ixTc (evd_var rfl hx) evd_ci) evd_cn)) ?_
      cases row.data <;> rfl
    · obtain ⟨y, hy⟩ := Option.isSome_iff_exists.mp hc
      have hb : y.length ≤ 50000 := hB.data (k := k) (by rw [hro]; exact hrow) hy
      rw [hy]
      exact evd_lenS (EvD.is (evd_ixTc (evd_var rfl hx) evd_ci) (by rw [hy]; rfl)) (by omega)
def sp_Shelf_told_rows (K : PySem.W.Frag) : Sp := fun vs H Q E => ∃ (B : Hp) (a : Addr) (L : List Addr) (X : ShS) (key : Str), vs = [.ref a, .str key] ∧ Ex B H ∧ ShAt K a X L B H ∧ ShB X ∧ Ret (toldRows X key) B H Q
theorem len_Shelf_told_rows {K : PySem.W.Frag} {vs : List V} {H : Hp} {Q : VK} {E : XK} (h : sp_Shelf_told_rows K vs H Q E) : vs.length = 2 := by
  obtain ⟨_, _, _, _, _, rfl, _⟩ := h; rfl
theorem mev_Shelf_told_rows {K : PySem.W.Frag} {σ : Sig} {B H : Hp} {ta : TE} {E : XK} {a : Addr} {L : List Addr} {X : ShS} {key : Str} {t1 : TE} (ho : EvF ta σ H (.ref a)) (h1 : EvD t1 σ B H (.str key)) (hA : ShAt K a X L B H := by assumption) (hB : ShB X := by assumption) : EvD (tMeth (He.ga K "Shelf") "told_rows" (sp_Shelf_told_rows K) [] E ta (tCons t1 tNil)) σ B H (toldRows X key) := by
  obtain ⟨dx, fs, hx, hf⟩ := hA.obj
  exact evd_meth ho hx (hf _ (by decide)) (evs_cons h1 evs_nil) fun H1 B1 vs e1 x1 eb1 hd Q q => by
    obtain ⟨v1, rfl, hv1⟩ := dpa1 hd
    cases hv1
    exact ⟨B1, a, L, X, key, rfl, eb1, hA.grow e1 x1, hB, q⟩
def t_Shelf_told_rows (K : PySem.W.Frag) (E : XK) : TS :=
  (tSeq (tAsg (tLst tNil) (gName 2))
    (tSeq (tFor (iRev K (tCons (tMeth (He.ga K "Shelf") "rows_of" (sp_Shelf_rows_of K) [] E0 (tVar 0) (tCons (tVar 1) tNil)) tNil)) (gTup K 4 (gCons (gName 3) (gCons (gName 4) (gCons (gName 5) (gCons (gName 6) gNil))))) (tSeq (tAsg (tC .non) (gName 7))
    (tSeq (tIfS (tTest (tOp rNotNone (tVar 5) (tC .non))) (tAsg (tCB rLenStr (tCons (tVar 5) tNil)) (gName 7)) tNext)
    (tDrop (tBM K "list" rAppend (tVar 2) (tCons (tTup (tCons (tVar 3) (tCons (tVar 4) (tCons (tVar 7) (tCons (tVar 6) tNil))))) tNil))))))
    (tRet (tCB (rTupleOf K) (tCons (tVar 2) tNil)))))
theorem pure_Shelf_told_rows {K : PySem.W.Frag}  {vs : List V} {H : Hp} {Q : VK} {E : XK} (h : sp_Shelf_told_rows K vs H Q E) : t_Shelf_told_rows K E { nx := fun _ H' => Q .non H', rt := Q } (start ["self", "key", "found", "version", "day", "data", "total", "size"] vs) H := by
  obtain ⟨B, a, L, X, key, rfl, eb, hA, hB, r⟩ := h
  have hl := hB.rows key
  refine q_lnew fun p hp => ?_
  have e0 : Ex H (upd H p (.lst [])) := Ex.new hp
  have hA0 : ShAt K a X L B (upd H p (.lst [])) := hA.grow e0 (Ext.refl _ _)
  refine q_forR (B := B) (ds := (rowsOf X key).reverse.map rowD) (by rw [List.map_reverse]; exact (src_rev (evs_cons (mev_Shelf_rows_of (evf_var rfl) (evd_varS rfl)) evs_nil))) (eb.trans e0) [p] (fun i σ1 => ∃ z1 z2 z3 z4 z5, σ1 = [some (.ref a), some (.str key), some (.ref p), z1, z2, z3, z4, z5])
    (fun i L B H => LsAt p (((rowsOf X key).reverse.take i).map toldD) L B H) (fun i L B H B' H' h e x => h.grow e x) ⟨_, _, _, _, _, rfl⟩ (LsAt.new eb hp) ?_ ?_
  · rintro i d x σ1 H1 B1 L1 hd ⟨z1, z2, z3, z4, z5, rfl⟩ x1 o1 f1 eb1 hL hx D' rt k
    rw [List.getElem?_map] at hd
    obtain ⟨row, hr, rfl⟩ := Option.map_eq_some_iff.mp hd
    have hrow : row ∈ rowsOf X key := List.mem_reverse.mp (List.mem_of_getElem? hr)
    refine tg4 hx eb1 fun v1 v2 v3 v4 q1 q2 q3 q4 => ?_
    cases q1
    cases q2
    have fin : ∀ (H5 : Hp) (vz : V), Ex H1 H5 → Da B1 vz (oLen row.data) → tDrop (tBM K "list" rAppend (tVar 2) (tCons (tTup (tCons (tVar 3) (tCons (tVar 4) (tCons (tVar 7) (tCons (tVar 6) tNil))))) tNil)) D' [some (.ref a), some (.str key), some (.ref p), some (.int row.v), some (.int row.day), some v3, some v4, some vz] H5 := by
      intro H5 vz e5 hz
      refine s_appL (B := B1) (d := toldD row) rfl (evd_tup (evs_cons (evd_varI rfl) (evs_cons (evd_varI rfl) (evs_cons (evd_var rfl hz) (evs_cons (evd_var rfl q4) evs_nil))))) (eb1.trans e5) (hL.grow e5 (Ext.refl _ _)) (by
        rw [List.length_map, List.length_take, List.length_reverse]; omega) fun H6 B6 o6 x6 eb6 hL6 => ?_
      refine k _ _ B6 L1 ⟨_, _, _, _, _, rfl⟩ ((Only.of e5).trans o6) (fun p hp => .inl hp) (Ext.trans (Ext.refl _ _) e5 x6) eb6 ?_
      rw [lc_take hr, List.map_append]
      exact hL6
    refine q_asgN (B := B1) evd_cn eb1 fun H5 e5 eb5 => ?_
    have et : EvB (tTest (tOp rNotNone (tVar 5) (tC .non))) [some (.ref a), some (.str key), some (.ref p), some (.int row.v), some (.int row.day), some v3, some v4, some .non] B1 H5 (!isNone (oS row.data)) := evb_test (evd_opNotN (evd_var rfl q3) evd_cn)
    cases hdat : row.data with
    | none =>
      rw [hdat] at et
      refine q_pass (B := B1) et eb5 fun H6 e6 eb6 => ?_
      exact fin H6 .non (e5.trans e6) (by rw [hdat]; exact .non)
    | some y =>
      rw [hdat] at et
      refine q_when (b := true) (B := B1) et eb5 (fun _ H6 e6 eb6 => ?_) (fun z => nomatch z)
      have hy : y.length ≤ 50000 := hB.data hrow hdat
      refine s_asgI (B := B1) (evd_lenS (z := y) (EvD.is (evd_var rfl q3) (by rw [hdat]; rfl)) (by omega)) eb6 fun H7 e7 eb7 => ?_
      exact fin H7 _ ((e5.trans e6).trans e7) (by rw [hdat]; exact .int _)
  · rintro σ1 H1 B1 L1 ⟨z1, z2, z3, z4, z5, rfl⟩ x1 o1 f1 eb1 hL
    rw [List.length_map, List.take_length] at hL
    obtain ⟨B2, u1, u2, u3, u4⟩ := hL.up eb1
    have eH : Ex H H1 := fun q o hq => o1.k q o (e0 q o hq) (by simpa using ne_of_none hq hp)
    refine s_ret (B := B2) (evd_tupleL (evd_var rfl u3)) u2 (r.grow eH ⟨(Ext.trans (Ext.refl _ _) e0 x1).1.trans u1, fun q hq => ?_⟩)
    rw [u4 q (fun z => hq (by rw [z]; exact hp))]
    exact x1.2 q (by
      cases c : H q with
      | none => exact absurd c hq
      | some o => rw [e0 q o c]; exact fun z => nomatch z)
def sp_Shelf_init (K : PySem.W.Frag) : Sp := fun vs H Q E => ∃ (B : Hp) (a dx : Addr), vs = [.ref a] ∧ Ex B H ∧ B a = none ∧ ClsF K "Shelf" ["rows", "until"] ∧ H a = some (.ins (He.ga K "Shelf") dx []) ∧ RetC [a] (ShAt K a ShS.nil) .none B H Q
theorem len_Shelf_init {K : PySem.W.Frag} {vs : List V} {H : Hp} {Q : VK} {E : XK} (h : sp_Shelf_init K vs H Q E) : vs.length = 1 := by
  obtain ⟨_, _, _, rfl, _⟩ := h; rfl
def t_Shelf_init (K : PySem.W.Frag) (E : XK) : TS :=
  (tSeq (sFld K (tVar 0) tDNewK "rows")
    (sFld K (tVar 0) tDNewT "until"))
theorem pure_Shelf_init {K : PySem.W.Frag}  {vs : List V} {H : Hp} {Q : VK} {E : XK} (h : sp_Shelf_init K vs H Q E) : t_Shelf_init K E { nx := fun _ H' => Q .non H', rt := Q } (start ["self"] vs) H := by
  obtain ⟨B, a, dx, rfl, eb, ba, cf, ha, r⟩ := h
  intro rd hrd
  refine ⟨_, rfl, a, _, dx, [], rfl, by rw [upd_ne (ne_of_none ha hrd)]; exact ha, cf.c, cf.f _ (by decide), (by decide), ?_⟩
  intro ud hud
  have n1 : a ≠ rd := ne_of_none ha hrd
  have n2 : a ≠ ud := ne_of_none (H := upd (upd H rd (.dK [])) a (.ins (He.ga K "Shelf") dx (putF "rows" (.ref rd) []))) upd_same hud
  have n3 : rd ≠ ud := ne_of_none (H := upd (upd H rd (.dK [])) a (.ins (He.ga K "Shelf") dx (putF "rows" (.ref rd) []))) (by rw [upd_ne (Ne.symm n1)]; exact upd_same) hud
  have hud' : H ud = none := by rw [upd_ne (Ne.symm n2), upd_ne (Ne.symm n3)] at hud; exact hud
  refine ⟨_, rfl, a, _, dx, _, rfl, by rw [upd_ne n2]; exact upd_same, cf.c, cf.f _ (by decide), Nat.lt_of_succ_le (Nat.le_of_ble_eq_true rfl), ?_⟩
  have b1 : B rd = none := fresh_back eb hrd
  have b2 : B ud = none := fresh_back eb hud'
  refine r _ _ B [a, rd, ud] ⟨fun q o hq nq => ?_, fun q hq => ?_⟩ (fun q hq => ?_) (Ext.refl _ _) (ex_mut (ex_mut (ex_mut (ex_mut eb b1) ba) b2) ba) ?_ .non
  · have c1 : q ≠ a := fun z => nq (by rw [z]; simp)
    have c2 : q ≠ rd := ne_of_none hq hrd
    have c3 : q ≠ ud := ne_of_none hq hud'
    rw [upd_ne c1, upd_ne c3, upd_ne c1, upd_ne c2]; exact hq
  · have c2 : q ≠ rd := fun z => hq (by rw [z]; exact hrd)
    have c3 : q ≠ ud := fun z => hq (by rw [z]; exact hud')
    by_cases c1 : q = a
    · subst c1; rw [upd_same]; exact fun z => nomatch z
    · rw [upd_ne c1, upd_ne c3, upd_ne c1, upd_ne c2]; exact hq
  · simp only [List.mem_cons, List.not_mem_nil, or_false] at hq
    rcases hq with rfl | rfl | rfl
    · exact .inl (by simp)
    · exact .inr hrd
    · exact .inr hud'
  · exact ⟨cf, dx, rd, ud, [], [], rfl, upd_same, by rw [upd_ne (Ne.symm n1), upd_ne n3, upd_ne (Ne.symm n1)]; exact upd_same, .nil, by rw [upd_ne (Ne.symm n2)]; exact upd_same, .nil, n1, n2, n3, ba, b1, b2⟩
/-- a new shelf -/
theorem mk_Shelf {K : PySem.W.Frag} {σ : Sig} {B H : Hp} {E : XK} {Q : VK} (cf : ClsF K "Shelf" ["rows", "until"]) (eb : Ex B H) (k : ∀ x H' B' L, Ex H H' → (∀ p ∈ L, H p = none) → Ext B H B' → Ex B' H' → ShAt K x ShS.nil L B' H' → Q (.ref x) H') : tMake (He.ga K "Shelf") (sp_Shelf_init K) [] E tNil σ H Q := by
  intro x dx hx hdx nx
  have bx := fresh_back eb hx
  have eH : Ex H (upd (upd H dx (.own x)) x (.ins (He.ga K "Shelf") dx [])) := (Ex.new hdx).trans (Ex.new (by rw [upd_ne (Ne.symm nx)]; exact hx))
  refine ⟨B, x, dx, rfl, eb.trans eH, bx, cf, upd_same, fun v H' B' L o f xt eb' hs hv => ⟨dpn hv, ?_⟩⟩
  refine k x H' B' L (fun q u hq => o.k q u (eH _ _ hq) (by simpa using ne_of_none hq hx)) (fun p hp => ?_) (Ext.trans (Ext.refl _ _) eH xt) eb' hs
  rcases f p hp with z | z
  · rw [List.mem_singleton.mp z]; exact hx
  · exact fresh_back eH z
end GK

namespace GK
open PySem PySem.Spec PyProof.Rows L2
open Evl (Ex ex_l ex_t ex_rd sq_of st_of sz_of sz_lt fresh_back)
/-! ### more rules -/
section
variable {K : PySem.W.Frag} {σ : Sig} {B H : Hp} {te ta tb : TE} {d : PyData} {E : XK} {D : Ends} {tz tx : TS} {i : Nat} {v : V} {r : Res}
theorem q_dropX (h : EvX K te σ B H r E) (eb : Ex B H) (h1 : ∀ d, r = .ok d → ∀ H1 B1, Ex H H1 → Ext B H B1 → Ex B1 H1 → tz D σ H1) (h2 : ∀ c, r = .no c → ∀ H', Ex H H' → E (.ref (He.ga K c)) none H') : tSeq (tDrop te) tz D σ H := by
  refine h H (Ex.refl _) eb _ ?_
  cases r with
  | ok d => exact fun v H1 B1 e x eb1 _ => h1 d rfl H1 B1 e x eb1
  | no c => exact h2 c rfl
theorem q_asgF (h : EvF te σ H v) (k : ∀ H1, Ex H H1 → tz D (σ.set i (some v)) H1) : tSeq (tAsg te (gName i)) tz D σ H := h H (Ex.refl _) _ k
theorem q_asgX (h : EvX K te σ B H r E) (eb : Ex B H) (h1 : ∀ d, r = .ok d → ∀ v H1 B1, Ex H H1 → Ext B H B1 → Ex B1 H1 → Da B1 v d → tz D (σ.set i (some v)) H1) (h2 : ∀ c, r = .no c → ∀ H', Ex H H' → E (.ref (He.ga K c)) none H') : tSeq (tAsg te (gName i)) tz D σ H := by
  refine h H (Ex.refl _) eb _ ?_
  cases r with
  | ok d => exact fun v H1 B1 e x eb1 hv => h1 d rfl v H1 B1 e x eb1 hv
  | no c => exact h2 c rfl
theorem evd_sortDI {p : Addr} {kvs : List (Key × V)} {ks : List Int} (h : EvF ta σ H (.ref p)) (hp : H p = some (.dK kvs)) (hk : kvs.map (·.1) = ks.map Sum.inl) (hl : ks.length < 64) : EvD (tCB rSortDI (tCons ta tNil)) σ B H (.list ((srtI ks).map .int)) := fun H1 e eb Q q => h H1 e _ fun H2 e2 =>
  ⟨p, kvs, ks, rfl, .inl (e2 _ _ (e _ _ hp)), hk, hl, fun ys l py so hl' => by
    rw [srtI_of py so]
    exact q _ _ (upd B l (.lst ((srtI ks).map V.int))) (e2.trans (Ex.new hl')) (Ext.new eb (fresh_back e2 hl')) (ex_upd2 (eb.trans e2)) (.lst upd_same (dpa_ofInts _))⟩
/-- a walk over a dict's keys that changes nothing -/
theorem q_lock {wi : TI} {g : TG} {ds : List PyData} {rd : Addr} {u : HO} (hr : H rd = some u) (hm : Mut (some u)) (hb : B rd = none) (eb : Ex B H) (I : Nat → Sig → Prop) (h0 : I 0 σ)
    (hs : ∀ od, SrcD wi σ (upd B rd (.frz od u)) (upd H rd (.frz od u)) ds)
    (ht : ∀ od i d x σ1 H1 B1, ds[i]? = some d → I i σ1 → Ext (upd B rd (.frz od u)) (upd H rd (.frz od u)) B1 → Ex (upd H rd (.frz od u)) H1 → Ex B1 H1 → Da B1 x d → ∀ D' : Ends, (∀ σ2 H2, I (i + 1) σ2 → Ex H1 H2 → D'.nx σ2 H2) → g x σ1 H1 fun σ2 H3 => tx D' σ2 H3)
    (hd : ∀ σ1 H1 B1, I ds.length σ1 → Ext B H B1 → Ex H H1 → Ex B1 H1 → tz D σ1 H1) : tSeq (tLock (tFor wi g tx)) tz D σ H := by
  refine ⟨rd, u, hr, hm, fun od => ?_⟩
  refine s_forR (B := upd B rd (.frz od u)) (hs od) (ex_upd2 eb) [] I (fun _ L _ _ => L = []) (fun _ _ _ _ _ _ h _ _ => h) h0 rfl (fun i d x σ1 H1 B1 L1 hdd hi x1 o1 f1 eb1 hL hx D' rt k => ?_) (fun σ1 H1 B1 L1 hi x1 o1 f1 eb1 hL => ?_)
  · exact ht od i d x σ1 H1 B1 hdd hi x1 o1.nil eb1 hx D' fun σ2 H2 i2 e2 => k σ2 H2 B1 [] i2 (Only.of e2) (by simp) (Ext.refl _ _) (eb1.trans e2) rfl
  · obtain ⟨a1, a2, a3, a4, a5⟩ := unlock hr hb o1.nil x1 eb1
    exact ⟨a1, hd σ1 _ (cutH B1 rd) hi a3 a2 a4⟩
end
/-! ### uploads in the heap -/
def PcR (H : Hp) (q : Addr) (m : Parts) : Prop := ∃ kvs, H q = some (.dK kvs) ∧ Tab Sum.inl (fun v x => v = V.str x) kvs m
structure UpAt (K : PySem.W.Frag) (a : Addr) (Y : UpS) (L : List Addr) (B H : Hp) : Prop where
  cf : ClsF K "Uploads" ["last", "open_ones", "pieces"]
  ex : ∃ dx od pd oks pks, ∃ pa : List (Int × Addr), L = a :: od :: pd :: pa.map (·.2) ∧ (a :: od :: pd :: pa.map (·.2)).Nodup ∧ H a = some (.ins (He.ga K "Uploads") dx [("last", .int Y.last), ("open_ones", .ref od), ("pieces", .ref pd)]) ∧
    H od = some (.dK oks) ∧ Tab Sum.inl (fun v p => Da B v (.tuple [.str p.1, .int p.2])) oks Y.opn ∧ H pd = some (.dK pks) ∧ Tab Sum.inl (fun v q => v = V.ref q) pks pa ∧ Tab id (PcR H) pa Y.pcs ∧ ∀ p ∈ a :: od :: pd :: pa.map (·.2), B p = none
theorem UpAt.keep {K : PySem.W.Frag} {a : Addr} {Y : UpS} {L M : List Addr} {B H B' H' : Hp} (h : UpAt K a Y L B H) (o : Only M H H') (x : Ext B H B') (n : ∀ p ∈ L, p ∉ M) : UpAt K a Y L B' H' := by
  obtain ⟨cf, dx, od, pd, oks, pks, pa, rfl, nd, h1, h2, h3, h4, h5, h6, b⟩ := h
  refine ⟨cf, dx, od, pd, oks, pks, pa, rfl, nd, o.k _ _ h1 (n _ (by simp)), o.k _ _ h2 (n _ (by simp)), h3.mono fun v l hd => hd.ex' x.1, o.k _ _ h4 (n _ (by simp)), h5, h6.monoIn fun p hp m ⟨kvs, z1, z2⟩ => ⟨kvs, o.k _ _ z1 (n _ (by
    have : p.2 ∈ pa.map (·.2) := List.mem_map.mpr ⟨p, hp, rfl⟩
    simp only [List.mem_cons]
    exact .inr (.inr (.inr this)))), z2⟩, fun p hp => ?_⟩
  have : H p ≠ none := by
    simp only [List.mem_cons] at hp
    rcases hp with rfl | rfl | rfl | hp
    · rw [h1]; simp
    · rw [h2]; simp
    · rw [h4]; simp
    · obtain ⟨q, hq, rfl⟩ := List.mem_map.mp hp
      have : ∀ {pa : List (Int × Addr)} {P : List (Int × Parts)}, Tab id (PcR H) pa P → ∀ q ∈ pa, H q.2 ≠ none := by
        intro pa P t
        induction t with
        | nil => intro q hq; cases hq
        | cons r t ih =>
          intro q hq
          obtain ⟨kvs, z, _⟩ := r
          rcases List.mem_cons.mp hq with rfl | hq
          · show H _ ≠ none; rw [z]; simp
          · exact ih q hq
      exact this h6 q hq
  rw [x.2 p this, b p hp]
theorem UpAt.grow {K : PySem.W.Frag} {a : Addr} {Y : UpS} {L : List Addr} {B H B' H' : Hp} (h : UpAt K a Y L B H) (e : Ex H H') (x : Ext B H B') : UpAt K a Y L B' H' := h.keep (Only.of (L := []) e) x (fun _ _ => by simp)
theorem UpAt.obj {K : PySem.W.Frag} {a : Addr} {Y : UpS} {L : List Addr} {B H : Hp} (h : UpAt K a Y L B H) : ∃ dx fs, H a = some (.ins (He.ga K "Uploads") dx fs) ∧ ∀ m : Str, m ∉ (["last", "open_ones", "pieces"] : List Str) → fs.lookup m = none := by
  obtain ⟨cf, dx, od, pd, oks, pks, pa, rfl, nd, h1, _⟩ := h
  exact ⟨dx, _, h1, fun m hm => lookup_none rfl hm⟩
theorem tab_pc {H : Hp} : ∀ {pa : List (Int × Addr)} {P : List (Int × Parts)}, Tab id (PcR H) pa P → ∀ q ∈ pa, H q.2 ≠ none
  | _, _, .nil, q, hq => by cases hq
  | _, _, .cons r t, q, hq => by
    obtain ⟨kvs, z, _⟩ := r
    rcases List.mem_cons.mp hq with rfl | hq
    · show H _ ≠ none; rw [z]; simp
    · exact tab_pc t q hq
theorem UpAt.out {K : PySem.W.Frag} {a : Addr} {Y : UpS} {L : List Addr} {B H : Hp} (h : UpAt K a Y L B H) : ∀ p ∈ L, H p ≠ none ∧ B p = none := by
  obtain ⟨cf, dx, od, pd, oks, pks, pa, rfl, nd, h1, h2, h3, h4, h5, h6, b⟩ := h
  refine fun p hp => ⟨?_, b p hp⟩
  simp only [List.mem_cons] at hp
  rcases hp with rfl | rfl | rfl | hp
  · rw [h1]; simp
  · rw [h2]; simp
  · rw [h4]; simp
  · obtain ⟨q, hq, rfl⟩ := List.mem_map.mp hp
    exact tab_pc h6 q hq
theorem open_val {B : Hp} {oks : List (Key × V)} {Y : UpS} (h3 : Tab Sum.inl (fun v p => Da B v (.tuple [.str p.1, .int p.2])) oks Y.opn) (u : Int) : (valV oks (.inl u)).isSome = isOpen Y u := by
  unfold isOpen
  rcases h3.get inl_inj (k := u) with ⟨z1, z2⟩ | ⟨v, p, z1, z2, _⟩ <;> rw [z1, z2] <;> rfl
def sp_Uploads_must_be_open (K : PySem.W.Frag) : Sp := fun vs H Q E => ∃ (B : Hp) (a : Addr) (L : List Addr) (Y : UpS) (upload : Int), vs = [.ref a, .int upload] ∧ Ex B H ∧ UpAt K a Y L B H ∧ UpB Y ∧ RetX K (openR Y upload .none) B H Q E
theorem len_Uploads_must_be_open {K : PySem.W.Frag} {vs : List V} {H : Hp} {Q : VK} {E : XK} (h : sp_Uploads_must_be_open K vs H Q E) : vs.length = 2 := by
  obtain ⟨_, _, _, _, _, rfl, _⟩ := h; rfl
theorem mxv_Uploads_must_be_open {K : PySem.W.Frag} {σ : Sig} {B H : Hp} {ta : TE} {E : XK} {a : Addr} {L : List Addr} {Y : UpS} {upload : Int} {t1 : TE} (ho : EvF ta σ H (.ref a)) (h1 : EvD t1 σ B H (.int upload)) (hA : UpAt K a Y L B H := by assumption) (hB : UpB Y := by assumption) : EvX K (tMeth (He.ga K "Uploads") "must_be_open" (sp_Uploads_must_be_open K) [] E ta (tCons t1 tNil)) σ B H (openR Y upload .none) E := by
  obtain ⟨dx, fs, hx, hf⟩ := hA.obj
  exact evx_meth ho hx (hf _ (by decide)) (evs_cons h1 evs_nil) fun H1 B1 vs e1 x1 eb1 hd Q q => by
    obtain ⟨v1, rfl, hv1⟩ := dpa1 hd
    cases hv1
    exact ⟨B1, a, L, Y, upload, rfl, eb1, hA.grow e1 x1, hB, q⟩
def t_Uploads_must_be_open (K : PySem.W.Frag) (E : XK) : TS :=
  (tIfS (tB (tDNotIn (tVar 1) (tFld K (tVar 0) "open_ones"))) (tRs (He.ga K "NoUpload") E) tNext)
theorem pure_Uploads_must_be_open {K : PySem.W.Frag}  {vs : List V} {H : Hp} {Q : VK} {E : XK} (h : sp_Uploads_must_be_open K vs H Q E) : t_Uploads_must_be_open K E { nx := fun _ H' => Q .non H', rt := Q } (start ["self", "upload"] vs) H := by
  obtain ⟨B, a, L, Y, upload, rfl, eb, hA, hB, r⟩ := h
  obtain ⟨cf, dx, od, pd, oks, pks, pa, rfl, nd, h1, h2, h3, h4, h5, h6, b⟩ := hA
  refine s_when (B := B) (EvB.is (evb_B (evd_dnotin (k := .inl upload) (evd_varI rfl) (evf_fld (evf_var rfl) h1 cf (by decide) rfl) (.inl h2))) (by rw [open_val h3])) eb (fun hb H1 e1 eb1 => ?_) (fun hb H1 e1 eb1 => ?_)
  · unfold openR at r
    rw [if_neg (by rw [Bool.not_eq_true']  at hb; rw [hb]; decide)] at r
    exact r H1 e1
  · unfold openR at r
    rw [if_pos (by simpa using hb)] at r
    exact Ret.at (Ret.grow r e1 (Ext.refl _ _)) eb1 .non
/-- the parts of an open upload, in the heap -/
theorem pc_get {K : PySem.W.Frag} {pa : List (Int × Addr)} {pks : List (Key × V)} {H : Hp} {Y : UpS} {u : Int} (hB : UpB Y) (ho : isOpen Y u = true) (h5 : Tab Sum.inl (fun v q => v = V.ref q) pks pa) (h6 : Tab id (PcR H) pa Y.pcs) : ∃ q kvs, valV pks (.inl u) = some (.ref q) ∧ aGet pa u = some q ∧ q ∈ pa.map (·.2) ∧ H q = some (.dK kvs) ∧ Tab Sum.inl (fun v x => v = V.str x) kvs (partsOf Y u) := by
  have hp := hB.there ho
  rcases h6.getA (fun _ _ h => h) (k := u) with ⟨z1, z2⟩ | ⟨q, m, z1, z2, kvs, z3, z4⟩
  · rw [z2] at hp; cases hp
  · rw [z2] at hp
    cases hp
    rcases h5.get inl_inj (k := u) with ⟨y1, y2⟩ | ⟨v, q', y1, y2, rfl⟩
    · rw [show aGet pa u = some q from z1] at y2; cases y2
    · rw [show aGet pa u = some q from z1] at y2
      cases y2
      exact ⟨q, kvs, y1, z1, List.mem_map.mpr ⟨_, aGet_mem z1, rfl⟩, z3, z4⟩
theorem part_val {kvs : List (Key × V)} {m : Parts} (t : Tab Sum.inl (fun v x => v = V.str x) kvs m) (n : Int) : (valV kvs (.inl n) = none ∧ aGet m n = none) ∨ ∃ x, valV kvs (.inl n) = some (.str x) ∧ aGet m n = some x := by
  rcases t.get inl_inj (k := n) with ⟨z1, z2⟩ | ⟨v, x, z1, z2, rfl⟩
  · exact .inl ⟨z1, z2⟩
  · exact .inr ⟨x, z1, z2⟩
def sp_Uploads_size_of (K : PySem.W.Frag) : Sp := fun vs H Q E => ∃ (B : Hp) (a : Addr) (L : List Addr) (Y : UpS) (upload : Int) (number : Int), vs = [.ref a, .int upload, .int number] ∧ Ex B H ∧ UpAt K a Y L B H ∧ UpB Y ∧ (isOpen Y upload = true) ∧ Ret (.int (sizeOf Y upload number)) B H Q
theorem len_Uploads_size_of {K : PySem.W.Frag} {vs : List V} {H : Hp} {Q : VK} {E : XK} (h : sp_Uploads_size_of K vs H Q E) : vs.length = 3 := by
  obtain ⟨_, _, _, _, _, _, rfl, _⟩ := h; rfl
theorem mev_Uploads_size_of {K : PySem.W.Frag} {σ : Sig} {B H : Hp} {ta : TE} {E : XK} {a : Addr} {L : List Addr} {Y : UpS} {upload : Int} {number : Int} {t1 : TE} {t2 : TE} (ho : EvF ta σ H (.ref a)) (h1 : EvD t1 σ B H (.int upload)) (h2 : EvD t2 σ B H (.int number)) (hA : UpAt K a Y L B H := by assumption) (hB : UpB Y := by assumption) (p1 : isOpen Y upload = true := by first | assumption | omega | decide) : EvD (tMeth (He.ga K "Uploads") "size_of" (sp_Uploads_size_of K) [] E ta (tCons t1 (tCons t2 tNil))) σ B H (.int (sizeOf Y upload number)) := by
  obtain ⟨dx, fs, hx, hf⟩ := hA.obj
  exact evd_meth ho hx (hf _ (by decide)) (evs_cons h1 (evs_cons h2 evs_nil)) fun H1 B1 vs e1 x1 eb1 hd Q q => by
    obtain ⟨v1, v2, rfl, hv1, hv2⟩ := dpa2 hd
    cases hv1
    cases hv2
    exact ⟨B1, a, L, Y, upload, number, rfl, eb1, hA.grow e1 x1, hB, p1, q⟩
def t_Uploads_size_of (K : PySem.W.Frag) (E : XK) : TS :=
  (tRet (tCB rLenStr (tCons (tDGet2 (tDGet (tFld K (tVar 0) "pieces") (tVar 1)) (tVar 2) (tC (.str ""))) tNil)))
theorem pure_Uploads_size_of {K : PySem.W.Frag}  {vs : List V} {H : Hp} {Q : VK} {E : XK} (h : sp_Uploads_size_of K vs H Q E) : t_Uploads_size_of K E { nx := fun _ H' => Q .non H', rt := Q } (start ["self", "upload", "number"] vs) H := by
  obtain ⟨B, a, L, Y, upload, number, rfl, eb, hA, hB, pre1, r⟩ := h
  obtain ⟨cf, dx, od, pd, oks, pks, pa, rfl, nd, h1, h2, h3, h4, h5, h6, b⟩ := hA
  obtain ⟨q, kvs, y1, _, hq, y2, y3⟩ := pc_get (K := K) hB pre1 h5 h6
  refine s_ret (B := B) (evd_lenS (z := (aGet (partsOf Y upload) number).getD "") (evd_dget2 (k := .inl number) (dx := .str "") (evf_dget (k := .inl upload) (evf_fld (evf_var rfl) h1 cf (by decide) rfl) (evd_varI rfl) eb (.inl h4) y1) (evd_varI rfl) evd_cs (.inl y2) ?_) (by have := hB.part upload number; omega)) eb r
  rcases part_val y3 number with ⟨z1, z2⟩ | ⟨x, z1, z2⟩
  · exact .inl ⟨z1, by rw [z2]; rfl⟩
  · exact .inr ⟨_, z1, by rw [z2]; exact .str x⟩
theorem pc_put {H H' : Hp} {u : Int} {q : Addr} {m' : Parts} (h' : PcR H' q m') : ∀ {pa : List (Int × Addr)} {P : List (Int × Parts)}, Tab id (PcR H) pa P → (∀ p ∈ pa, p.1 = u ↔ p.2 = q) → (∀ p ∈ pa, p.2 ≠ q → ∀ o, H p.2 = some o → H' p.2 = some o) → Tab id (PcR H') pa (P.map fun p => if p.1 = u then (p.1, m') else p)
  | _, _, .nil, _, _ => .nil
  | _, _, .cons (k := j) (v := q0) r t, hi, hk => by
    rw [List.map_cons]
    have h0 := hi _ List.mem_cons_self
    have ih := pc_put h' t (fun p hp => hi p (List.mem_cons_of_mem _ hp)) fun p hp => hk p (List.mem_cons_of_mem _ hp)
    by_cases e : j = u
    · rw [if_pos e]
      have e2 : q0 = q := h0.mp e
      subst e2
      exact .cons h' ih
    · rw [if_neg e]
      obtain ⟨kvs, z1, z2⟩ := r
      exact .cons ⟨kvs, hk _ List.mem_cons_self (fun z => e (h0.mpr z)) _ z1, z2⟩ ih
theorem pa_iff {pa : List (Int × Addr)} {u : Int} {q : Addr} (n1 : (pa.map (·.1)).Nodup) (n2 : (pa.map (·.2)).Nodup) (h : aGet pa u = some q) : ∀ p ∈ pa, p.1 = u ↔ p.2 = q := fun p hp => by
  have hm := aGet_mem h
  constructor
  · intro e
    have := nodup_inj (f := fun p : Int × Addr => p.1) n1 hp hm e
    rw [this]
  · intro e
    have := nodup_inj (f := fun p : Int × Addr => p.2) n2 hp hm e
    rw [this]
theorem pa_keys {H : Hp} {pa : List (Int × Addr)} {Y : UpS} (hB : UpB Y) (h6 : Tab id (PcR H) pa Y.pcs) : pa.map (·.1) = Y.opn.map (·.1) := by
  rw [h6.keys, hB.ks, List.map_id]
def sp_Uploads_send (K : PySem.W.Frag) : Sp := fun vs H Q E => ∃ (B : Hp) (a : Addr) (L : List Addr) (Y : UpS) (upload : Int) (number : Int) (data : Str), vs = [.ref a, .int upload, .int number, .str data] ∧ Ex B H ∧ UpAt K a Y L B H ∧ UpB Y ∧ (isOpen Y upload = true) ∧ RetC L (UpAt K a (Y.send upload number data)) (.str (sumT data)) B H Q
theorem len_Uploads_send {K : PySem.W.Frag} {vs : List V} {H : Hp} {Q : VK} {E : XK} (h : sp_Uploads_send K vs H Q E) : vs.length = 4 := by
  obtain ⟨_, _, _, _, _, _, _, rfl, _⟩ := h; rfl
theorem run_Uploads_send {K : PySem.W.Frag} {σ : Sig} {B H : Hp} {ta : TE} {E : XK} {a : Addr} {L : List Addr} {Y : UpS} {upload : Int} {number : Int} {data : Str} {t1 : TE} {t2 : TE} {t3 : TE} {Q : VK} (ho : EvF ta σ H (.ref a)) (h1 : EvD t1 σ B H (.int upload)) (h2 : EvD t2 σ B H (.int number)) (h3 : EvD t3 σ B H (.str data)) (eb : Ex B H) (hA : UpAt K a Y L B H := by assumption) (hB : UpB Y := by assumption) (p1 : isOpen Y upload = true := by first | assumption | omega | decide) (q : RetC L (UpAt K a (Y.send upload number data)) (.str (sumT data)) B H Q) : tMeth (He.ga K "Uploads") "send" (sp_Uploads_send K) [] E ta (tCons t1 (tCons t2 (tCons t3 tNil))) σ H Q := by
  obtain ⟨dx, fs, hx, hf⟩ := hA.obj
  exact run_meth ho hx (hf _ (by decide)) (evs_cons h1 (evs_cons h2 (evs_cons h3 evs_nil))) eb fun H1 B1 vs e1 x1 eb1 hd => by
    obtain ⟨v1, v2, v3, rfl, hv1, hv2, hv3⟩ := dpa3 hd
    cases hv1
    cases hv2
    cases hv3
    exact ⟨B1, a, L, Y, upload, number, data, rfl, eb1, hA.grow e1 x1, hB, p1, q.grow e1 x1⟩
def t_Uploads_send (K : PySem.W.Frag) (E : XK) : TS :=
  (tSeq (sDPut (tDGet (tFld K (tVar 0) "pieces") (tVar 1)) (tVar 2) (tVar 3))
    (tRet (tCall (sp_sum_of K) [] E0 (tCons (tVar 3) tNil))))
theorem pure_Uploads_send {K : PySem.W.Frag}  {vs : List V} {H : Hp} {Q : VK} {E : XK} (h : sp_Uploads_send K vs H Q E) : t_Uploads_send K E { nx := fun _ H' => Q .non H', rt := Q } (start ["self", "upload", "number", "data"] vs) H := by
  obtain ⟨B, a, L, Y, upload, number, data, rfl, eb, hA, hB, pre1, r⟩ := h
  have hA' := hA
  obtain ⟨cf, dx, od, pd, oks, pks, pa, rfl, nd, h1, h2, h3, h4, h5, h6, b⟩ := hA
  obtain ⟨q, kvs, y1, y1', hq, y2, y3⟩ := pc_get (K := K) hB pre1 h5 h6
  have hqL : q ∈ a :: od :: pd :: pa.map (·.2) := by simp only [List.mem_cons]; exact .inr (.inr (.inr hq))
  refine q_dputK (B := B) (k := .inl number) (d := .str data) (evd_varS rfl) (evf_dget (k := .inl upload) (evf_fld (evf_var rfl) h1 cf (by decide) rfl) (evd_varI rfl) eb (.inl h4) y1) (evd_varI rfl) eb y2 (by rw [y3.len]; have := hB.parts upload; omega) fun v H1 B1 e1 x1 eb1 hv => ?_
  have hqb : B1 q = none := x1.out y2 (b q hqL)
  refine s_ret (B := B1) (cev_sum_of (evd_varS rfl)) (ex_mut eb1 hqb) fun w H4 B4 e4 x4 eb4 hw => ?_
  have hO : Only (a :: od :: pd :: pa.map (·.2)) H (upd H1 q (.dK (putK kvs (.inl number) v))) := (Only.of e1).trans (Only.put hqL)
  have hx4 := x1.only hO x4
  refine r w H4 B4 _ (hO.trans (Only.of e4)) (fun p hp => .inl hp) hx4 eb4 ?_ hw
  have hn : a ≠ q ∧ od ≠ q ∧ pd ≠ q := by
    simp only [List.nodup_cons, List.mem_cons, not_or] at nd
    exact ⟨fun z => nd.1.2.2 (z ▸ hq), fun z => nd.2.1.2 (z ▸ hq), fun z => nd.2.2.1 (z ▸ hq)⟩
  have g1 : upd H1 q (.dK (putK kvs (.inl number) v)) a = _ := (upd_ne hn.1).trans (e1 _ _ h1)
  have g2 : upd H1 q (.dK (putK kvs (.inl number) v)) od = _ := (upd_ne hn.2.1).trans (e1 _ _ h2)
  have g4 : upd H1 q (.dK (putK kvs (.inl number) v)) pd = _ := (upd_ne hn.2.2).trans (e1 _ _ h4)
  refine ⟨cf, dx, od, pd, oks, pks, pa, rfl, nd, e4 _ _ g1, e4 _ _ g2, h3.mono fun v l hd => hd.ex' (x1.1.trans x4.1), e4 _ _ g4, h5, ?_, fun p hp => (hx4.2 p (hA'.out p hp).1).trans (b p hp)⟩
  have n2 : (pa.map (·.2)).Nodup := by
    simp only [List.nodup_cons] at nd
    exact nd.2.2.2
  have n1 : (pa.map (·.1)).Nodup := by rw [pa_keys hB h6]; exact hB.nn
  cases hv
  have := pc_put (H' := H4) (m' := aPut (partsOf Y upload) number data) ⟨_, e4 _ _ upd_same, y3.put inl_inj rfl⟩ h6 (pa_iff n1 n2 y1') fun p hp hne o ho => e4 _ _ ((upd_ne hne).trans (e1 _ _ ho))
  show Tab id (PcR H4) pa (aPut Y.pcs upload (aPut (partsOf Y upload) number data))
  rw [aPut_in (hB.there pre1)]
  exact this
def sp_Uploads_sent (K : PySem.W.Frag) : Sp := fun vs H Q E => ∃ (B : Hp) (a : Addr) (L : List Addr) (Y : UpS) (upload : Int), vs = [.ref a, .int upload] ∧ Ex B H ∧ UpAt K a Y L B H ∧ UpB Y ∧ RetX K (openR Y upload (sentD (partsOf Y upload))) B H Q E
theorem len_Uploads_sent {K : PySem.W.Frag} {vs : List V} {H : Hp} {Q : VK} {E : XK} (h : sp_Uploads_sent K vs H Q E) : vs.length = 2 := by
  obtain ⟨_, _, _, _, _, rfl, _⟩ := h; rfl
theorem mxv_Uploads_sent {K : PySem.W.Frag} {σ : Sig} {B H : Hp} {ta : TE} {E : XK} {a : Addr} {L : List Addr} {Y : UpS} {upload : Int} {t1 : TE} (ho : EvF ta σ H (.ref a)) (h1 : EvD t1 σ B H (.int upload)) (hA : UpAt K a Y L B H := by assumption) (hB : UpB Y := by assumption) : EvX K (tMeth (He.ga K "Uploads") "sent" (sp_Uploads_sent K) [] E ta (tCons t1 tNil)) σ B H (openR Y upload (sentD (partsOf Y upload))) E := by
  obtain ⟨dx, fs, hx, hf⟩ := hA.obj
  exact evx_meth ho hx (hf _ (by decide)) (evs_cons h1 evs_nil) fun H1 B1 vs e1 x1 eb1 hd Q q => by
    obtain ⟨v1, rfl, hv1⟩ := dpa1 hd
    cases hv1
    exact ⟨B1, a, L, Y, upload, rfl, eb1, hA.grow e1 x1, hB, q⟩
def t_Uploads_sent (K : PySem.W.Frag) (E : XK) : TS :=
  (tSeq (tDrop (tMeth (He.ga K "Uploads") "must_be_open" (sp_Uploads_must_be_open K) [] E (tVar 0) (tCons (tVar 1) tNil)))
    (tSeq (tAsg (tDGet (tFld K (tVar 0) "pieces") (tVar 1)) (gName 2))
    (tRet (tCB (rTupleOf K) (tCons (tLc (iList K (tCB rSortDI (tCons (tVar 2) tNil))) (gName 3) tYes (tTup (tCons (tVar 3) (tCons (tCB rLenStr (tCons (tDGet (tVar 2) (tVar 3)) tNil)) (tCons (tCall (sp_sum_of K) [] E0 (tCons (tDGet (tVar 2) (tVar 3)) tNil)) tNil)))) [3]) tNil)))))
theorem pure_Uploads_sent {K : PySem.W.Frag}  {vs : List V} {H : Hp} {Q : VK} {E : XK} (h : sp_Uploads_sent K vs H Q E) : t_Uploads_sent K E { nx := fun _ H' => Q .non H', rt := Q } (start ["self", "upload", "some", "number"] vs) H := by
  obtain ⟨B, a, L, Y, upload, rfl, eb, hA, hB, r⟩ := h
  have hA' := hA
  obtain ⟨cf, dx, od, pd, oks, pks, pa, rfl, nd, h1, h2, h3, h4, h5, h6, b⟩ := hA
  refine q_dropX (B := B) (mxv_Uploads_must_be_open (evf_var rfl) (evd_varI rfl)) eb (fun d hd H1 B1 e1 x1 eb1 => ?_) (fun c hc H1 e1 => ?_)
  · unfold openR at hd r
    by_cases ho : isOpen Y upload = true
    · rw [if_pos ho] at r
      obtain ⟨q, kvs, y1, y1', hq, y2, y3⟩ := pc_get (K := K) hB ho h5 h6
      refine q_asgF (evf_dget (B := B1) (k := .inl upload) (evf_fld (evf_var rfl) (e1 _ _ h1) cf (by decide) rfl) (evd_varI rfl) eb1 (.inl (e1 _ _ h4)) y1) fun H2 e2 => ?_
      have hq2 : H2 q = some (.dK kvs) := e2 _ _ (e1 _ _ y2)
      have hpl := hB.parts upload
      refine s_ret (B := B1) (evd_tupleL ?_) (eb1.trans e2) (Ret.grow r (e1.trans e2) x1)
      refine evd_lc1 (σ := [some (.ref a), some (.int upload), some (.ref q), none]) (j := 3) (vs := [3]) PyData.int _ (as := srtI ((partsOf Y upload).map Prod.fst)) (src_list (evd_sortDI (evf_var rfl) hq2 y3.keys (by rw [List.length_map]; omega))) (by rw [(srtI_perm _).length_eq, List.length_map]; omega) (fun x => rfl) fun n hn x B3 H3 eb' eh' e' hx => ?_
      cases hx
      have hmem : n ∈ (partsOf Y upload).map Prod.fst := (srtI_perm _).mem_iff.mp hn
      have hg : EvD (tDGet (tVar 2) (tVar 3)) [some (.ref a), some (.int upload), some (.ref q), some (.int n)] B3 H3 (.str ((aGet (partsOf Y upload) n).getD "")) := by
        rcases part_val y3 n with ⟨z1, z2⟩ | ⟨x, z1, z2⟩
        · exact absurd z2 (aGet_keys.mpr hmem)
        · rw [z2]
          exact evd_dget (k := .inl n) (evf_var rfl) (evd_varI rfl) (.inl (eh' _ _ hq2)) z1 (.str x)
      exact evd_tup (evs_cons (evd_varI rfl) (evs_cons (evd_lenS hg (by have := hB.part upload n; omega)) (evs_cons (cev_sum_of hg) evs_nil)))
    · rw [if_neg ho] at hd; cases hd
  · unfold openR at hc r
    by_cases ho : isOpen Y upload = true
    · rw [if_pos ho] at hc; cases hc
    · rw [if_neg ho] at hc r; cases hc; exact r H1 e1
theorem aDel_keys {κ α : Type} [DecidableEq κ] (k : κ) : ∀ l : List (κ × α), (aDel l k).map (·.1) = (l.map (·.1)).filter fun x => decide (x ≠ k)
  | [] => rfl
  | (j, a) :: r => by
    have ih := aDel_keys k r
    unfold aDel at ih ⊢
    rw [List.map_cons]
    by_cases e : j = k
    · rw [List.filter_cons_of_neg (by simpa using e), List.filter_cons_of_neg (by simpa using e)]; exact ih
    · rw [List.filter_cons_of_pos (by simpa using e), List.filter_cons_of_pos (by simpa using e), List.map_cons, ih]
theorem aDel_sub {pa : List (Int × Addr)} {u : Int} : ((aDel pa u).map (·.2)).Sublist (pa.map (·.2)) := List.Sublist.map _ List.filter_sublist
def sp_Uploads_close (K : PySem.W.Frag) : Sp := fun vs H Q E => ∃ (B : Hp) (a : Addr) (L : List Addr) (Y : UpS) (upload : Int), vs = [.ref a, .int upload] ∧ Ex B H ∧ UpAt K a Y L B H ∧ UpB Y ∧ RetCX K L (UpAt K a (Y.close upload)) (openR Y upload .none) B H Q E
theorem len_Uploads_close {K : PySem.W.Frag} {vs : List V} {H : Hp} {Q : VK} {E : XK} (h : sp_Uploads_close K vs H Q E) : vs.length = 2 := by
  obtain ⟨_, _, _, _, _, rfl, _⟩ := h; rfl
theorem run_Uploads_close {K : PySem.W.Frag} {σ : Sig} {B H : Hp} {ta : TE} {E : XK} {a : Addr} {L : List Addr} {Y : UpS} {upload : Int} {t1 : TE} {Q : VK} (ho : EvF ta σ H (.ref a)) (h1 : EvD t1 σ B H (.int upload)) (eb : Ex B H) (hA : UpAt K a Y L B H := by assumption) (hB : UpB Y := by assumption) (q : RetCX K L (UpAt K a (Y.close upload)) (openR Y upload .none) B H Q E) : tMeth (He.ga K "Uploads") "close" (sp_Uploads_close K) [] E ta (tCons t1 tNil) σ H Q := by
  obtain ⟨dx, fs, hx, hf⟩ := hA.obj
  exact run_meth ho hx (hf _ (by decide)) (evs_cons h1 evs_nil) eb fun H1 B1 vs e1 x1 eb1 hd => by
    obtain ⟨v1, rfl, hv1⟩ := dpa1 hd
    cases hv1
    exact ⟨B1, a, L, Y, upload, rfl, eb1, hA.grow e1 x1, hB, q.grow e1 x1⟩
def t_Uploads_close (K : PySem.W.Frag) (E : XK) : TS :=
  (tSeq (tDrop (tMeth (He.ga K "Uploads") "must_be_open" (sp_Uploads_must_be_open K) [] E (tVar 0) (tCons (tVar 1) tNil)))
    (tSeq (tDrop (tDPop1 (tFld K (tVar 0) "open_ones") (tVar 1)))
    (tDrop (tDPop1 (tFld K (tVar 0) "pieces") (tVar 1)))))
theorem pure_Uploads_close {K : PySem.W.Frag}  {vs : List V} {H : Hp} {Q : VK} {E : XK} (h : sp_Uploads_close K vs H Q E) : t_Uploads_close K E { nx := fun _ H' => Q .non H', rt := Q } (start ["self", "upload"] vs) H := by
  obtain ⟨B, a, L, Y, upload, rfl, eb, hA, hB, r⟩ := h
  have hA' := hA
  obtain ⟨cf, dx, od, pd, oks, pks, pa, rfl, nd, h1, h2, h3, h4, h5, h6, b⟩ := hA
  refine q_dropX (B := B) (mxv_Uploads_must_be_open (evf_var rfl) (evd_varI rfl)) eb (fun d hd H1 B1 e1 x1 eb1 => ?_) (fun c hc H1 e1 => ?_)
  · unfold openR at hd r
    by_cases ho : isOpen Y upload = true
    · rw [if_pos ho] at r
      obtain ⟨q, kvs, y1, y1', hq, y2, y3⟩ := pc_get (K := K) hB ho h5 h6
      obtain ⟨vo, hvo⟩ : ∃ v, valV oks (.inl upload) = some v := Option.isSome_iff_exists.mp (by rw [open_val h3]; exact ho)
      have nn : a ≠ od ∧ a ≠ pd ∧ od ≠ pd := by
        simp only [List.nodup_cons, List.mem_cons, not_or] at nd
        exact ⟨nd.1.1, nd.1.2.1, nd.2.1.1⟩
      have nq : ∀ p ∈ pa.map (·.2), p ≠ a ∧ p ≠ od ∧ p ≠ pd := fun p hp => by
        simp only [List.nodup_cons, List.mem_cons, not_or] at nd
        exact ⟨fun z => nd.1.2.2 (z ▸ hp), fun z => nd.2.1.2 (z ▸ hp), fun z => nd.2.2.1 (z ▸ hp)⟩
      refine q_dpopK (B := B1) (k := .inl upload) (evf_fld (evf_var rfl) (e1 _ _ h1) cf (by decide) rfl) (evd_varI rfl) eb1 (e1 _ _ h2) hvo fun H2 e2 eb2 => ?_
      have b1o : B1 od = none := x1.out h2 (b _ (by simp))
      have b1p : B1 pd = none := x1.out h4 (b _ (by simp))
      have e12 := e1.trans e2
      have g1 : upd H2 od (.dK (dropK oks (.inl upload))) a = _ := (upd_ne nn.1).trans (e12 _ _ h1)
      have g4 : upd H2 od (.dK (dropK oks (.inl upload))) pd = _ := (upd_ne (Ne.symm nn.2.2)).trans (e12 _ _ h4)
      refine s_dpopK (B := B1) (k := .inl upload) (evf_fld (evf_var rfl) g1 cf (by decide) rfl) (evd_varI rfl) (ex_mut eb2 b1o) g4 y1 fun H3 e3 eb3 => ?_
      have hO : Only (a :: od :: pd :: pa.map (·.2)) H (upd H3 pd (.dK (dropK pks (.inl upload)))) := (Only.of e12).trans ((Only.put (p := od) (by simp)).trans ((Only.of e3).trans (Only.put (by simp))))
      have sub : ∀ p ∈ (aDel pa upload).map (·.2), p ∈ pa.map (·.2) := fun p hp => aDel_sub.mem hp
      have subL : ∀ p ∈ a :: od :: pd :: (aDel pa upload).map (·.2), p ∈ a :: od :: pd :: pa.map (·.2) := fun p hp => by
        simp only [List.mem_cons] at hp ⊢
        rcases hp with z | z | z | z
        · exact .inl z
        · exact .inr (.inl z)
        · exact .inr (.inr (.inl z))
        · exact .inr (.inr (.inr (sub p z)))
      refine r _ _ B1 (a :: od :: pd :: (aDel pa upload).map (·.2)) hO (fun p hp => .inl (subL p hp)) x1 (ex_mut eb3 b1p) ?_ .non
      refine ⟨cf, dx, od, pd, _, _, aDel pa upload, rfl, nd.sublist (List.Sublist.cons₂ _ (List.Sublist.cons₂ _ (List.Sublist.cons₂ _ aDel_sub))), (upd_ne nn.2.1).trans (e3 _ _ g1), (upd_ne nn.2.2).trans (e3 _ _ upd_same), (h3.mono fun v l hd => hd.ex' x1.1).del inl_inj, upd_same, h5.del inl_inj, ?_, fun p hp => (x1.2 p (hA'.out p (subL p hp)).1).trans (b p (subL p hp))⟩
      refine (h6.delA (fun _ _ h => h) (k := upload)).monoIn fun p hp m ⟨kvs, z1, z2⟩ => ⟨kvs, ?_, z2⟩
      obtain ⟨c1, c2, c3⟩ := nq p.2 (sub _ (List.mem_map.mpr ⟨p, hp, rfl⟩))
      exact (upd_ne c3).trans (e3 _ _ ((upd_ne c2).trans (e12 _ _ z1)))
    · rw [if_neg ho] at hd; cases hd
  · unfold openR at hc r
    by_cases ho : isOpen Y upload = true
    · rw [if_pos ho] at hc; cases hc
    · rw [if_neg ho] at hc r; cases hc; exact r H1 e1
def sp_Uploads_told (K : PySem.W.Frag) : Sp := fun vs H Q E => ∃ (B : Hp) (a : Addr) (L : List Addr) (Y : UpS), vs = [.ref a] ∧ Ex B H ∧ UpAt K a Y L B H ∧ UpB Y ∧ Ret (uploadsD Y) B H Q
theorem len_Uploads_told {K : PySem.W.Frag} {vs : List V} {H : Hp} {Q : VK} {E : XK} (h : sp_Uploads_told K vs H Q E) : vs.length = 1 := by
  obtain ⟨_, _, _, _, rfl, _⟩ := h; rfl
theorem mev_Uploads_told {K : PySem.W.Frag} {σ : Sig} {B H : Hp} {ta : TE} {E : XK} {a : Addr} {L : List Addr} {Y : UpS} (ho : EvF ta σ H (.ref a)) (hA : UpAt K a Y L B H := by assumption) (hB : UpB Y := by assumption) : EvD (tMeth (He.ga K "Uploads") "told" (sp_Uploads_told K) [] E ta tNil) σ B H (uploadsD Y) := by
  obtain ⟨dx, fs, hx, hf⟩ := hA.obj
  exact evd_meth ho hx (hf _ (by decide)) evs_nil fun H1 B1 vs e1 x1 eb1 hd Q q => by
    cases hd
    exact ⟨B1, a, L, Y, rfl, eb1, hA.grow e1 x1, hB, q⟩
def t_Uploads_told (K : PySem.W.Frag) (E : XK) : TS :=
  (tRet (tCB (rTupleOf K) (tCons (tLc (iList K (tCB rSortDI (tCons (tFld K (tVar 0) "open_ones") tNil))) (gName 1) tYes (tOp (rCatA K) (tTup (tCons (tVar 1) tNil)) (tDGet (tFld K (tVar 0) "open_ones") (tVar 1))) [1]) tNil)))
theorem pure_Uploads_told {K : PySem.W.Frag}  {vs : List V} {H : Hp} {Q : VK} {E : XK} (h : sp_Uploads_told K vs H Q E) : t_Uploads_told K E { nx := fun _ H' => Q .non H', rt := Q } (start ["self", "upload"] vs) H := by
  obtain ⟨B, a, L, Y, rfl, eb, hA, hB, r⟩ := h
  obtain ⟨cf, dx, od, pd, oks, pks, pa, rfl, nd, h1, h2, h3, h4, h5, h6, b⟩ := hA
  have hk := hB.nk
  refine s_ret (B := B) (evd_tupleL ?_) eb r
  refine evd_lc1 (σ := [some (.ref a), none]) (j := 1) (vs := [1]) PyData.int _ (as := srtI (Y.opn.map Prod.fst)) (src_list (evd_sortDI (evf_fld (evf_var rfl) h1 cf (by decide) rfl) h2 h3.keys (by rw [List.length_map]; omega))) (by rw [(srtI_perm _).length_eq, List.length_map]; omega) (fun x => rfl) fun n hn x B3 H3 eb' eh' e' hx => ?_
  cases hx
  have hmem : n ∈ Y.opn.map Prod.fst := (srtI_perm _).mem_iff.mp hn
  rcases h3.get inl_inj (k := n) with ⟨z1, z2⟩ | ⟨v, p, z1, z2, z3⟩
  · exact absurd z2 (aGet_keys.mpr hmem)
  · refine EvD.is (evd_catT (ds := [.int n]) (es := [.str p.1, .int p.2]) (evd_tup (evs_cons (evd_varI rfl) evs_nil)) (evd_dget (k := .inl n) (evf_fld (evf_var rfl) (eh' _ _ h1) cf (by decide) rfl) (evd_varI rfl) (.inl (eh' _ _ h2)) z1 (z3.ex' eb'))) ?_
    unfold openD
    rw [z2]; rfl
def sp_Uploads_total (K : PySem.W.Frag) : Sp := fun vs H Q E => ∃ (B : Hp) (a : Addr) (L : List Addr) (Y : UpS), vs = [.ref a] ∧ Ex B H ∧ UpAt K a Y L B H ∧ UpB Y ∧ Ret (.int (totalU Y)) B H Q
theorem len_Uploads_total {K : PySem.W.Frag} {vs : List V} {H : Hp} {Q : VK} {E : XK} (h : sp_Uploads_total K vs H Q E) : vs.length = 1 := by
  obtain ⟨_, _, _, _, rfl, _⟩ := h; rfl
theorem mev_Uploads_total {K : PySem.W.Frag} {σ : Sig} {B H : Hp} {ta : TE} {E : XK} {a : Addr} {L : List Addr} {Y : UpS} (ho : EvF ta σ H (.ref a)) (hA : UpAt K a Y L B H := by assumption) (hB : UpB Y := by assumption) : EvD (tMeth (He.ga K "Uploads") "total" (sp_Uploads_total K) [] E ta tNil) σ B H (.int (totalU Y)) := by
  obtain ⟨dx, fs, hx, hf⟩ := hA.obj
  exact evd_meth ho hx (hf _ (by decide)) evs_nil fun H1 B1 vs e1 x1 eb1 hd Q q => by
    cases hd
    exact ⟨B1, a, L, Y, rfl, eb1, hA.grow e1 x1, hB, q⟩
def t_Uploads_total (K : PySem.W.Frag) (E : XK) : TS :=
  (tSeq (tAsg (tC (.int 0)) (gName 1))
    (tSeq (tLock (tFor (iKeys (tFld K (tVar 0) "pieces")) (gName 2) (tSeq (tAsg (tDGet (tFld K (tVar 0) "pieces") (tVar 2)) (gName 3))
    (tAsg (tOp (rI0 fun i j => .int (i + j)) (tVar 1) (tCB (rSum K) (tCons (tLockE (tLc (iKeys (tVar 3)) (gName 4) tYes (tCB rLenStr (tCons (tDGet (tVar 3) (tVar 4)) tNil)) [4])) tNil))) (gName 1)))))
    (tRet (tVar 1))))
theorem pure_Uploads_total {K : PySem.W.Frag}  {vs : List V} {H : Hp} {Q : VK} {E : XK} (h : sp_Uploads_total K vs H Q E) : t_Uploads_total K E { nx := fun _ H' => Q .non H', rt := Q } (start ["self", "found", "upload", "some", "number"] vs) H := by
  obtain ⟨B, a, L, Y, rfl, eb, hA, hB, r⟩ := h
  have hA' := hA
  obtain ⟨cf, dx, od, pd, oks, pks, pa, rfl, nd, h1, h2, h3, h4, h5, h6, b⟩ := hA
  have hk := hB.nk
  refine q_asgI (B := B) evd_ci eb fun H0 e0 eb0 => ?_
  have npd : a ≠ pd := by
    simp only [List.nodup_cons, List.mem_cons, not_or] at nd
    exact nd.1.2.1
  have hks : (pks.map fun kv => keyD kv.1) = (Y.pcs.map Prod.fst).map PyData.int := by
    rw [show (pks.map fun kv => keyD kv.1) = (pks.map (·.1)).map keyD by rw [List.map_map]; rfl, h5.keys, List.map_map, pa_keys hB h6, hB.ks]; rfl
  refine q_lock (B := B) (σ := [some (.ref a), some (.int 0), none, none, none]) (e0 _ _ h4) trivial (b _ (by simp)) eb0 (fun i σ1 => ∃ z1 z2, σ1 = [some (.ref a), some (.int (((Y.pcs.take i).map fun p => (lensP (partsOf Y p.1)).sum).sum)), z1, z2, none]) ⟨_, _, rfl⟩
    (fun od' => src_keys (kvs := pks) (evf_fld (evf_var rfl) ((upd_ne npd).trans (e0 _ _ h1)) cf (by decide) rfl) upd_same) ?_ ?_
  · rintro od' i d x σ1 H1 B1 hd ⟨z1, z2, rfl⟩ x1 e1 eb1 hx D' k
    rw [hks, List.getElem?_map, List.getElem?_map] at hd
    obtain ⟨n, hn, rfl⟩ := Option.map_eq_some_iff.mp hd
    obtain ⟨p, hp, rfl⟩ := Option.map_eq_some_iff.mp hn
    cases hx
    have hpm : p ∈ Y.pcs := List.mem_of_getElem? hp
    have ho : isOpen Y p.1 = true := by
      unfold isOpen
      have : aGet Y.opn p.1 ≠ none := aGet_keys.mpr (by rw [hB.ks]; exact List.mem_map.mpr ⟨p, hpm, rfl⟩)
      cases c : aGet Y.opn p.1 with
      | none => exact absurd c this
      | some _ => rfl
    obtain ⟨q, kvs, y1, y1', hq, y2, y3⟩ := pc_get (K := K) hB ho h5 h6
    have nq : q ≠ pd := fun z => by
      simp only [List.nodup_cons, List.mem_cons, not_or] at nd
      exact nd.2.2.1 (z ▸ hq)
    have hpd1 : H1 pd = some (.frz od' (.dK pks)) := e1 _ _ upd_same
    refine q_asgF (evf_dget (B := B1) (k := .inl p.1) (evf_fld (evf_var rfl) (e1 _ _ ((upd_ne npd).trans (e0 _ _ h1))) cf (by decide) rfl) (evd_varI rfl) eb1 (.inr ⟨od', hpd1⟩) y1) fun H2 e2 => ?_
    have hfq : upd H0 pd (.frz od' (.dK pks)) q = some (.dK kvs) := (upd_ne nq).trans (e0 _ _ y2)
    have hq2 : H2 q = some (.dK kvs) := e2 _ _ (e1 _ _ hfq)
    have bq : B1 q = none := by
      rw [x1.2 q (by rw [hfq]; simp), upd_ne nq]
      exact b _ (by simp only [List.mem_cons]; exact .inr (.inr (.inr hq)))
    have hpl := hB.parts p.1
    have hsum : EvD (tCB (rSum K) (tCons (tLockE (tLc (iKeys (tVar 3)) (gName 4) tYes (tCB rLenStr (tCons (tDGet (tVar 3) (tVar 4)) tNil)) [4])) tNil)) [some (.ref a), some (.int (((Y.pcs.take i).map fun p => (lensP (partsOf Y p.1)).sum).sum)), some (.int p.1), some (.ref q), none] B1 H2 (.int (lensP (partsOf Y p.1)).sum) := by
      refine evd_sum ?_
      refine evd_lock hq2 trivial bq fun od2 => ?_
      unfold lensP
      rw [List.map_map]
      refine evd_lc1 (j := 4) (vs := [4]) (fun p : Int × Str => PyData.int p.1) _ (as := partsOf Y p.1) ?_ (by omega) (fun x => rfl) fun n hn x B3 H3 eb' eh' e' hx => ?_
      · have := src_keys (σ := [some (.ref a), some (.int (((Y.pcs.take i).map fun p => (lensP (partsOf Y p.1)).sum).sum)), some (.int p.1), some (.ref q), none]) (B := upd B1 q (.frz od2 (.dK kvs))) (H := upd H2 q (.frz od2 (.dK kvs))) (td := tVar 3) (kvs := kvs) (evf_var rfl) upd_same
        have e2 : (kvs.map fun kv => keyD kv.1) = (partsOf Y p.1).map fun p => PyData.int p.1 := by
          rw [show (kvs.map fun kv => keyD kv.1) = (kvs.map (·.1)).map keyD by rw [List.map_map]; rfl, y3.keys, List.map_map, List.map_map]; rfl
        rw [e2] at this
        exact this
      · cases hx
        have hB3 : B3 q = some (.frz od2 (.dK kvs)) := eb' _ _ upd_same
        have hmem : n.1 ∈ (partsOf Y p.1).map Prod.fst := List.mem_map.mpr ⟨n, hn, rfl⟩
        refine evd_lenS (z := (aGet (partsOf Y p.1) n.1).getD "") ?_ (by have := hB.part p.1 n.1; omega)
        rcases part_val y3 n.1 with ⟨z1, z2⟩ | ⟨x, z1, z2⟩
        · exact absurd z2 (aGet_keys.mpr hmem)
        · rw [z2]
          exact evd_dget (k := .inl n.1) (evf_var rfl) (evd_varI rfl) (.inr ⟨od2, e' _ _ hB3⟩) z1 (.str x)
    refine s_asgI (B := B1) (evd_I0 (g := fun i j => i + j) (evd_varI rfl) hsum) (eb1.trans e2) fun H3 e3 eb3 => ?_
    refine k _ _ ⟨some (.int p.1), some (.ref q), ?_⟩ (e2.trans e3)
    rw [lc_take hp, List.map_append, List.sum_append]
    simp
  · rintro σ1 H1 B1 ⟨z1, z2, rfl⟩ x1 e1 eb1
    have hlen : (pks.map fun kv => keyD kv.1).length = Y.pcs.length := by rw [hks, List.length_map, List.length_map]
    rw [hlen, List.take_length]
    exact s_ret (B := B1) (evd_varI rfl) eb1 (Ret.grow r (e0.trans e1) (Ext.trans (Ext.refl _ _) e0 x1))
def sp_Uploads_begin (K : PySem.W.Frag) : Sp := fun vs H Q E => ∃ (B : Hp) (a : Addr) (L : List Addr) (Y : UpS) (key : Str) (day : Int), vs = [.ref a, .str key, .int day] ∧ Ex B H ∧ UpAt K a Y L B H ∧ UpB Y ∧ RetC L (UpAt K a (Y.begin key day)) (.int (Y.last + 1)) B H Q
theorem len_Uploads_begin {K : PySem.W.Frag} {vs : List V} {H : Hp} {Q : VK} {E : XK} (h : sp_Uploads_begin K vs H Q E) : vs.length = 3 := by
  obtain ⟨_, _, _, _, _, _, rfl, _⟩ := h; rfl
theorem run_Uploads_begin {K : PySem.W.Frag} {σ : Sig} {B H : Hp} {ta : TE} {E : XK} {a : Addr} {L : List Addr} {Y : UpS} {key : Str} {day : Int} {t1 : TE} {t2 : TE} {Q : VK} (ho : EvF ta σ H (.ref a)) (h1 : EvD t1 σ B H (.str key)) (h2 : EvD t2 σ B H (.int day)) (eb : Ex B H) (hA : UpAt K a Y L B H := by assumption) (hB : UpB Y := by assumption) (q : RetC L (UpAt K a (Y.begin key day)) (.int (Y.last + 1)) B H Q) : tMeth (He.ga K "Uploads") "begin" (sp_Uploads_begin K) [] E ta (tCons t1 (tCons t2 tNil)) σ H Q := by
  obtain ⟨dx, fs, hx, hf⟩ := hA.obj
  exact run_meth ho hx (hf _ (by decide)) (evs_cons h1 (evs_cons h2 evs_nil)) eb fun H1 B1 vs e1 x1 eb1 hd => by
    obtain ⟨v1, v2, rfl, hv1, hv2⟩ := dpa2 hd
    cases hv1
    cases hv2
    exact ⟨B1, a, L, Y, key, day, rfl, eb1, hA.grow e1 x1, hB, q.grow e1 x1⟩
def t_Uploads_begin (K : PySem.W.Frag) (E : XK) : TS :=
  (tSeq (sFld K (tVar 0) (tOp (rI0 fun i j => .int (i + j)) (tFld K (tVar 0) "last") (tC (.int 1))) "last")
    (tSeq (sDPut (tFld K (tVar 0) "open_ones") (tFld K (tVar 0) "last") (tTup (tCons (tVar 1) (tCons (tVar 2) tNil))))
    (tSeq (sDPut (tFld K (tVar 0) "pieces") (tFld K (tVar 0) "last") tDNewK)
    (tRet (tFld K (tVar 0) "last")))))
theorem pure_Uploads_begin {K : PySem.W.Frag}  {vs : List V} {H : Hp} {Q : VK} {E : XK} (h : sp_Uploads_begin K vs H Q E) : t_Uploads_begin K E { nx := fun _ H' => Q .non H', rt := Q } (start ["self", "key", "day"] vs) H := by
  obtain ⟨B, a, L, Y, key, day, rfl, eb, hA, hB, r⟩ := h
  have hA' := hA
  obtain ⟨cf, dx, od, pd, oks, pks, pa, rfl, nd, h1, h2, h3, h4, h5, h6, b⟩ := hA
  obtain ⟨new1, new2⟩ := hB.new
  have nn : a ≠ od ∧ a ≠ pd ∧ od ≠ pd := by
    simp only [List.nodup_cons, List.mem_cons, not_or] at nd
    exact ⟨nd.1.1, nd.1.2.1, nd.2.1.1⟩
  have nq : ∀ p ∈ pa.map (·.2), p ≠ a ∧ p ≠ od ∧ p ≠ pd := fun p hp => by
    simp only [List.nodup_cons, List.mem_cons, not_or] at nd
    exact ⟨fun z => nd.1.2.2 (z ▸ hp), fun z => nd.2.1.2 (z ▸ hp), fun z => nd.2.2.1 (z ▸ hp)⟩
  have lv : ∀ {H : Hp} {B : Hp} {n : Int} {fs : List (Str × V)}, H a = some (.ins (He.ga K "Uploads") dx (("last", .int n) :: fs)) → EvD (tFld K (tVar 0) "last") [some (.ref a), some (.str key), some (.int day)] B H (.int n) := fun h => evd_of (evf_fld (evf_var rfl) h cf (by decide) rfl) (.int _)
  refine q_fld (B := B) (d := .int (Y.last + 1)) (evd_I0 (g := fun i j => i + j) (lv h1) evd_ci) (evf_var rfl) eb h1 cf (by decide) (Nat.le_of_ble_eq_true rfl) fun v H1 B1 e1 x1 eb1 hv => ?_
  cases hv
  let o1 : HO := .ins (He.ga K "Uploads") dx [("last", .int (Y.last + 1)), ("open_ones", .ref od), ("pieces", .ref pd)]
  show tSeq _ _ _ _ (upd H1 a o1)
  have ba : B1 a = none := x1.out h1 (b _ (by simp))
  have bo : B1 od = none := x1.out h2 (b _ (by simp))
  have bp : B1 pd = none := x1.out h4 (b _ (by simp))
  have eb1' : Ex B1 (upd H1 a o1) := ex_mut eb1 ba
  have g2 : upd H1 a o1 od = some (.dK oks) := (upd_ne (Ne.symm nn.1)).trans (e1 _ _ h2)
  have g4 : upd H1 a o1 pd = some (.dK pks) := (upd_ne (Ne.symm nn.2.1)).trans (e1 _ _ h4)
  refine q_dputK (B := B1) (k := .inl (Y.last + 1)) (d := .tuple [.str key, .int day]) (evd_tup (evs_cons (evd_varS rfl) (evs_cons (evd_varI rfl) evs_nil))) (evf_fld (evf_var rfl) upd_same cf (by decide) rfl) (lv upd_same) eb1' g2 (by rw [h3.len]; have := hB.nk; omega) fun v H2 B2 e2 x2 eb2 hv => ?_
  have bo2 : B2 od = none := x2.out g2 bo
  have bp2 : B2 pd = none := x2.out g4 bp
  have ba2 : B2 a = none := x2.out (upd_same (H := H1) (a := a) (o := o1)) ba
  intro q hq
  have qod : q ≠ od := fun z => by subst z; rw [upd_same] at hq; cases hq
  have hq2 : H2 q = none := by rw [upd_ne qod] at hq; exact hq
  have qa : q ≠ a := fun z => by subst z; rw [e2 _ _ upd_same] at hq2; cases hq2
  have qpd : q ≠ pd := fun z => by subst z; rw [e2 _ _ g4] at hq2; cases hq2
  have hqH : H q = none := by
    have : upd H1 a o1 q = none := fresh_back e2 hq2
    rw [upd_ne qa] at this
    exact fresh_back e1 this
  have k1 : upd (upd H2 od (.dK (putK oks (.inl (Y.last + 1)) v))) q (.dK []) a = some o1 := (upd_ne (Ne.symm qa)).trans ((upd_ne nn.1).trans (e2 _ _ upd_same))
  have k4 : upd (upd H2 od (.dK (putK oks (.inl (Y.last + 1)) v))) q (.dK []) pd = some (.dK pks) := (upd_ne (Ne.symm qpd)).trans ((upd_ne (Ne.symm nn.2.2)).trans (e2 _ _ g4))
  refine evf_fld (σ := [some (.ref a), some (.str key), some (.int day)]) (ta := tVar 0) (evf_var rfl) k1 cf (by decide) rfl _ (Ex.refl _) _ fun H3 e3 => ?_
  refine EvD.flat (lv (B := B2) (e3 _ _ k1)) (fun _ _ => dpi) (Ex.refl _) ((ex_mut (ex_mut eb2 bo2) (fresh_back eb2 hq2)).trans e3) fun H4 e4 => ⟨pd, _, rfl, DPut.k (k := .inl (Y.last + 1)) ((e3.trans e4) _ _ k4) (sz_lt (by rw [h5.len, h6.len, ← show (Y.pcs.map (·.1)).length = Y.pcs.length from List.length_map .., ← hB.ks, List.length_map]; have := hB.nk; omega)), ?_⟩
  have e34 := e3.trans e4
  have bq2 : B2 q = none := fresh_back eb2 hq2
  have k1' : upd H4 pd (.dK (putK pks (.inl (Y.last + 1)) (.ref q))) a = some o1 := (upd_ne nn.2.1).trans (e34 _ _ k1)
  have eb5 : Ex B2 (upd H4 pd (.dK (putK pks (.inl (Y.last + 1)) (.ref q)))) := ex_mut ((ex_mut (ex_mut eb2 bo2) bq2).trans e34) bp2
  refine s_ret (B := B2) (lv k1') eb5 fun w H6 B6 e6 x6 eb6 hw => ?_
  have hOa : Only (a :: od :: pd :: pa.map (·.2)) H (upd H1 a o1) := (Only.of e1).trans (Only.put (by simp))
  have hO2 : Only (a :: od :: pd :: pa.map (·.2)) H (upd H2 od (.dK (putK oks (.inl (Y.last + 1)) v))) := hOa.trans ((Only.of e2).trans (Only.put (by simp)))
  have hO3 : Only (a :: od :: pd :: pa.map (·.2)) H (upd H4 pd (.dK (putK pks (.inl (Y.last + 1)) (.ref q)))) := hO2.trans ((Only.of ((Ex.new hq).trans e34)).trans (Only.put (by simp)))
  have xB2 : Ext B H B2 := x1.only hOa x2
  have xB6 : Ext B H B6 := xB2.only hO3 x6
  have hL : (aPut pa (Y.last + 1) q).map (·.2) = pa.map (·.2) ++ [q] := by
    rw [aPut_new, List.map_append]; rfl
    rcases h6.getA (fun _ _ h => h) (k := Y.last + 1) with ⟨z1, _⟩ | ⟨_, _, z1, z2, _⟩
    · exact z1
    · rw [z2] at new2; cases new2
  refine r w H6 B6 (a :: od :: pd :: (aPut pa (Y.last + 1) q).map (·.2)) (hO3.trans (Only.of e6)) (fun p hp => ?_) xB6 eb6 ?_ hw
  · rw [hL] at hp
    simp only [List.mem_cons, List.mem_append, List.not_mem_nil, or_false] at hp ⊢
    rcases hp with z | z | z | z | z
    · exact .inl (.inl z)
    · exact .inl (.inr (.inl z))
    · exact .inl (.inr (.inr (.inl z)))
    · exact .inl (.inr (.inr (.inr z)))
    · exact .inr (by rw [z]; exact hqH)
  · have qin : q ∉ a :: od :: pd :: pa.map (·.2) := fun z => (hA'.out q z).1 hqH
    refine ⟨cf, dx, od, pd, _, _, aPut pa (Y.last + 1) q, rfl, ?_, e6 _ _ k1', e6 _ _ ((upd_ne nn.2.2).trans (e34 _ _ ((upd_ne (Ne.symm qod)).trans upd_same))), ((h3.mono fun v l hd => hd.ex' (xB6.1)).put inl_inj (hv.ex' x6.1)), e6 _ _ upd_same, h5.put inl_inj rfl, ?_, fun p hp => ?_⟩
    · rw [hL]
      have : (a :: od :: pd :: (pa.map (·.2) ++ [q])) = (a :: od :: pd :: pa.map (·.2)) ++ [q] := rfl
      rw [this, List.nodup_append]
      refine ⟨nd, by simp, fun x hx y hy => ?_⟩
      rw [List.mem_singleton.mp hy]
      intro z
      exact qin (z ▸ hx)
    · refine Tab.putA (fun _ _ h => h) (h6.monoIn fun p hp m ⟨kvs, z1, z2⟩ => ⟨kvs, ?_, z2⟩) ⟨[], ?_, .nil⟩
      · obtain ⟨c1, c2, c3⟩ := nq p.2 (List.mem_map.mpr ⟨p, hp, rfl⟩)
        have c4 : p.2 ≠ q := ne_of_none z1 hqH
        exact e6 _ _ ((upd_ne c3).trans (e34 _ _ ((upd_ne c4).trans ((upd_ne c2).trans (e2 _ _ ((upd_ne c1).trans (e1 _ _ z1)))))))
      · exact e6 _ _ ((upd_ne qpd).trans (e34 _ _ upd_same))
    · rw [hL] at hp
      simp only [List.mem_cons, List.mem_append, List.not_mem_nil, or_false] at hp
      have old : ∀ p ∈ a :: od :: pd :: pa.map (·.2), B6 p = none := fun p hp => (xB6.2 p (hA'.out p hp).1).trans (b p hp)
      rcases hp with z | z | z | z | z
      · exact old p (by simp [z])
      · exact old p (by simp [z])
      · exact old p (by simp [z])
      · exact old p (by simp only [List.mem_cons]; exact .inr (.inr (.inr z)))
      · rw [z, x6.2 q (by rw [upd_ne qpd, e34 _ _ upd_same]; simp)]; exact bq2
theorem rises_all : ∀ rows : Parts, ((List.range (rows.length - 1)).map fun i => decide ((rows.getD i (0, "")).1 < (rows.getD (i + 1) (0, "")).1)).all id = rises rows
  | [] => rfl
  | [_] => rfl
  | p :: q :: r => by
    have ih := rises_all (q :: r)
    rw [show (p :: q :: r).length - 1 = ((q :: r).length - 1) + 1 by simp, List.range_succ_eq_map, List.map_cons, List.all_cons, List.map_map]
    show (decide (p.1 < q.1) && _) = (decide (p.1 < q.1) && rises (q :: r))
    rw [← ih]
    rfl
theorem cutD_init {α : Type} (l : List α) (f : α → PyData) : cutD (l.map f) none (some (-1)) = l.dropLast.map f := by
  unfold cutD
  have e1 : HT.sIx (l.map f).length 0 none = 0 := rfl
  have e2 : HT.sIx (l.map f).length (l.map f).length (some (-1)) = l.length - 1 := by
    rw [List.length_map]
    unfold HT.sIx
    simp
    omega
  rw [e1, e2, List.drop_zero, Nat.sub_zero, List.dropLast_eq_take, List.map_take]
theorem evd_ck2 {K : PySem.W.Frag} {σ : Sig} {B H : Hp} {ta tb : TE} {d1 d2 : PyData} (h : EvD ta σ B H d1) (e : d1 = d2) : EvD ta σ B H d2 := e ▸ h
theorem join_len (l : List Str) : (Txt.join "" l).length = (l.map (·.length)).sum := by
  rw [len_tl, tl_join_nil]
  induction l with
  | nil => rfl
  | cons x r ih => rw [List.map_cons, List.flatten_cons, List.length_append, ih, List.map_cons, List.sum_cons, len_tl]
theorem sum_leN {l : List Nat} {b : Nat} (h : ∀ x ∈ l, x ≤ b) : l.sum ≤ l.length * b := by
  induction l with
  | nil => simp
  | cons x r ih =>
    rw [List.sum_cons, List.length_cons, Nat.succ_mul]
    have := h x (by simp)
    have := ih fun y hy => h y (by simp [hy])
    omega
def sp_Uploads_joint (K : PySem.W.Frag) : Sp := fun vs H Q E => ∃ (B : Hp) (a : Addr) (L : List Addr) (Y : UpS) (upload : Int) (rows : Parts) (v_rows : V), vs = [.ref a, .int upload, v_rows] ∧ Ex B H ∧ UpAt K a Y L B H ∧ UpB Y ∧ Da B v_rows (pairsD rows) ∧ (rows.length ≤ 1000) ∧ RetX K (jointR Y upload rows) B H Q E
theorem len_Uploads_joint {K : PySem.W.Frag} {vs : List V} {H : Hp} {Q : VK} {E : XK} (h : sp_Uploads_joint K vs H Q E) : vs.length = 3 := by
  obtain ⟨_, _, _, _, _, _, _, rfl, _⟩ := h; rfl
theorem mxv_Uploads_joint {K : PySem.W.Frag} {σ : Sig} {B H : Hp} {ta : TE} {E : XK} {a : Addr} {L : List Addr} {Y : UpS} {upload : Int} {rows : Parts} {t1 : TE} {t2 : TE} (ho : EvF ta σ H (.ref a)) (h1 : EvD t1 σ B H (.int upload)) (h2 : EvD t2 σ B H (pairsD rows)) (hA : UpAt K a Y L B H := by assumption) (hB : UpB Y := by assumption) (p1 : rows.length ≤ 1000 := by first | assumption | omega | decide) : EvX K (tMeth (He.ga K "Uploads") "joint" (sp_Uploads_joint K) [] E ta (tCons t1 (tCons t2 tNil))) σ B H (jointR Y upload rows) E := by
  obtain ⟨dx, fs, hx, hf⟩ := hA.obj
  exact evx_meth ho hx (hf _ (by decide)) (evs_cons h1 (evs_cons h2 evs_nil)) fun H1 B1 vs e1 x1 eb1 hd Q q => by
    obtain ⟨v1, v2, rfl, hv1, hv2⟩ := dpa2 hd
    cases hv1
    exact ⟨B1, a, L, Y, upload, rows, v2, rfl, eb1, hA.grow e1 x1, hB, hv2, p1, q⟩
def t_Uploads_joint (K : PySem.W.Frag) (E : XK) : TS :=
  (tSeq (tDrop (tMeth (He.ga K "Uploads") "must_be_open" (sp_Uploads_must_be_open K) [] E (tVar 0) (tCons (tVar 1) tNil)))
    (tSeq (tAsg (tDGet (tFld K (tVar 0) "pieces") (tVar 1)) (gName 3))
    (tSeq (tIfS (tOr (tNot (tTruth K (tVar 2))) (tNot (tB (tCB (rAll K) (tCons (tLc (iRng2 (tCons (tC (.int 1)) (tCons (tCB (rLenSeq K) (tCons (tVar 2) tNil)) tNil))) (gName 5) tYes (tOp (rI0 fun i j => .bl (decide (i < j))) (tOp (rIxT K) (tOp (rIxT K) (tVar 2) (tOp (rI0 fun i j => .int (i - j)) (tVar 5) (tC (.int 1)))) (tC (.int 0))) (tOp (rIxT K) (tOp (rIxT K) (tVar 2) (tVar 5)) (tC (.int 0)))) [5]) tNil))))) (tRs (He.ga K "BadPart") E) tNext)
    (tSeq (tIfS (tNot (tB (tCB (rAll K) (tCons (tLc (iTup K (tVar 2)) (gTup K 2 (gCons (gName 6) (gCons (gName 7) gNil))) tYes (tAndV (tDIn (tVar 6) (tVar 3)) (tOp rEq (tCall (sp_sum_of K) [] E0 (tCons (tDGet (tVar 3) (tVar 6)) tNil)) (tVar 7))) [6, 7]) tNil)))) (tRs (He.ga K "BadPart") E) tNext)
    (tSeq (tIfS (tB (tCB (rAny K) (tCons (tLc (iTup K (tSl (rSlA K) (tVar 2) tNoPart (tPart (tUn (rU fun i => .int (-i)) (tC (.int 1)))))) (gTup K 2 (gCons (gName 6) (gCons (gName 7) gNil))) tYes (tOp (rI0 fun i j => .bl (decide (i < j))) (tCB rLenStr (tCons (tDGet (tVar 3) (tVar 6)) tNil)) (tC (.int 5))) [6, 7]) tNil))) (tRs (He.ga K "TooSmall") E) tNext)
    (tSeq (tAsg (tM1 (rJoin K) (tC (.str "")) (tLc (iTup K (tVar 2)) (gTup K 2 (gCons (gName 6) (gCons (gName 7) gNil))) tYes (tDGet (tVar 3) (tVar 6)) [6, 7])) (gName 4))
    (tRet (tTup (tCons (tOp (rIxT K) (tDGet (tFld K (tVar 0) "open_ones") (tVar 1)) (tC (.int 0))) (tCons (tVar 4) (tCons (tCall (sp_sum_of_parts K) [] E0 (tCons (tCB (rTupleOf K) (tCons (tLc (iTup K (tVar 2)) (gTup K 2 (gCons (gName 6) (gCons (gName 7) gNil))) tYes (tVar 7) [6, 7]) tNil)) tNil)) tNil)))))))))))
theorem pure_Uploads_joint {K : PySem.W.Frag}  {vs : List V} {H : Hp} {Q : VK} {E : XK} (h : sp_Uploads_joint K vs H Q E) : t_Uploads_joint K E { nx := fun _ H' => Q .non H', rt := Q } (start ["self", "upload", "rows", "some", "data", "k", "number", "total"] vs) H := by
  obtain ⟨B, a, L, Y, upload, rows, v_rows, rfl, eb, hA, hB, h_rows, pre1, r⟩ := h
  have hA' := hA
  obtain ⟨cf, dx, od, pd, oks, pks, pa, rfl, nd, h1, h2, h3, h4, h5, h6, b⟩ := hA
  refine q_dropX (B := B) (mxv_Uploads_must_be_open (evf_var (i := 0) rfl) (evd_varI (i := 1) rfl) hA' hB) eb (fun d hd H1 B1 e1 x1 eb1 => ?_) (fun c hc H1 e1 => ?_)
  · unfold openR at hd
    by_cases ho : isOpen Y upload = true
    · obtain ⟨q, kvs, y1, y1', hq, y2, y3⟩ := pc_get (K := K) hB ho h5 h6
      obtain ⟨vo, ko, hvo, hgo, hdo⟩ : ∃ v p, valV oks (.inl upload) = some v ∧ aGet Y.opn upload = some p ∧ Da B v (.tuple [.str p.1, .int p.2]) := by
        rcases h3.get inl_inj (k := upload) with ⟨z1, z2⟩ | z
        · unfold isOpen at ho; rw [z2] at ho; cases ho
        · exact z
      unfold jointR joint at r
      rw [hgo] at r
      dsimp only at r
      refine q_asgF (evf_dget (B := B1) (k := .inl upload) (evf_fld (evf_var rfl) (e1 _ _ h1) cf (by decide) rfl) (evd_varI rfl) eb1 (.inl (e1 _ _ h4)) y1) fun H2 e2 => ?_
      have hq2 : H2 q = some (.dK kvs) := e2 _ _ (e1 _ _ y2)
      have hrows : Da B1 v_rows (pairsD rows) := h_rows.ex' x1.1
      have eb2 := eb1.trans e2
      generalize hm : partsOf Y upload = m at r y3
      have hplen : ∀ n, ((aGet m n).getD "").length ≤ 5000 := fun n => hm ▸ hB.part upload n
      let σ0 : Sig := [some (.ref a), some (.int upload), some v_rows, some (.ref q), none, none, none, none]
      have t1 : EvB (tOr (tNot (tTruth K (tVar 2))) (tNot (tB (tCB (rAll K) (tCons (tLc (iRng2 (tCons (tC (.int 1)) (tCons (tCB (rLenSeq K) (tCons (tVar 2) tNil)) tNil))) (gName 5) tYes (tOp (rI0 fun i j => .bl (decide (i < j))) (tOp (rIxT K) (tOp (rIxT K) (tVar 2) (tOp (rI0 fun i j => .int (i - j)) (tVar 5) (tC (.int 1)))) (tC (.int 0))) (tOp (rIxT K) (tOp (rIxT K) (tVar 2) (tVar 5)) (tC (.int 0)))) [5]) tNil))))) σ0 B1 H2 (rows.isEmpty || !rises rows) := by
        have e0 : EvB (tNot (tTruth K (tVar 2))) σ0 B1 H2 rows.isEmpty := EvB.is (evb_not (evb_tru (evd_var rfl hrows) (fun x z => nomatch z))) (by cases rows <;> rfl)
        refine evb_or e0 fun hne => evb_not (evb_B ?_)
        rw [← rises_all]
        refine evd_all ?_
        rw [List.map_map]
        have hlr : ((rows.length : Int) - 1).toNat = rows.length - 1 := by omega
        refine evd_lc1 (j := 5) (vs := [5]) (fun i : Nat => PyData.int (1 + (i : Int))) _ (as := List.range (rows.length - 1)) ?_ (by rw [List.length_range]; omega) (fun x => rfl) fun i hi x B3 H3 eb' eh' e' hx => ?_
        · have := src_range2 (σ := σ0) (B := B1) (H := H2) (m := 1) (n := (rows.length : Int)) (evs_cons evd_ci (evs_cons (EvD.is (evd_lenT (K := K) (evd_var (i := 2) rfl hrows)) (by rw [List.length_map])) evs_nil)) (by omega)
          rw [hlr] at this
          exact this
        · cases hx
          have hi' := List.mem_range.mp hi
          have hr3 := hrows.ex' eb'
          have g1 : atI (rows.map fun r => PyData.tuple [.int r.1, .str r.2]) (1 + (i : Int) - 1) = some (.tuple [.int (rows.getD i (0, "")).1, .str (rows.getD i (0, "")).2]) := atI_nat' (by omega) (by
            rw [show (1 + (i : Int) - 1).toNat = i by omega, List.getElem?_map, List.getD_eq_getElem?_getD, List.getElem?_eq_getElem (by omega)]; rfl)
          have g2 : atI (rows.map fun r => PyData.tuple [.int r.1, .str r.2]) (1 + (i : Int)) = some (.tuple [.int (rows.getD (i + 1) (0, "")).1, .str (rows.getD (i + 1) (0, "")).2]) := atI_nat' (by omega) (by
            rw [show (1 + (i : Int)).toNat = i + 1 by omega, List.getElem?_map, List.getD_eq_getElem?_getD, List.getElem?_eq_getElem (by omega)]; rfl)
          exact evd_B0 (g := fun i j => decide (i < j)) (evd_ixTc (evd_ixT (evd_var rfl hr3) (evd_I0 (g := fun i j => i - j) (evd_varI rfl) evd_ci) g1) evd_ci) (evd_ixTc (evd_ixT (evd_var rfl hr3) (evd_varI rfl) g2) evd_ci)
      refine q_when (B := B1) t1 eb2 (fun hb H3 e3 eb3 => ?_) (fun hb H3 e3 eb3 => ?_)
      · rw [if_pos (by rcases Bool.or_eq_true_iff.mp hb with z | z; exact .inl z; exact .inr (by simpa using z))] at r
        exact r H3 ((e1.trans e2).trans e3)
      have hb' : ¬ (rows.isEmpty = true ∨ rises rows = false) := by
        obtain ⟨z1, z2⟩ := Bool.or_eq_false_iff.mp hb
        rintro (z | z)
        · rw [z1] at z; cases z
        · rw [z] at z2; cases z2
      rw [if_neg hb'] at r
      have hgn : ∀ {B3 H3 : Hp} {n : Int} {σ1 : Sig}, Ex H2 H3 → σ1[3]? = some (some (.ref q)) → σ1[6]? = some (some (.int n)) → aGet m n ≠ none → EvD (tDGet (tVar 3) (tVar 6)) σ1 B3 H3 (.str ((aGet m n).getD "")) := by
        intro B3 H3 n σ1 e s1 s2 hne
        rcases part_val y3 n with ⟨z1, z2⟩ | ⟨x, z1, z2⟩
        · exact absurd z2 hne
        · rw [z2]
          exact evd_dget (k := .inl n) (evf_var s1) (evd_varI s2) (.inl (e _ _ hq2)) z1 (.str x)
      have t2 : EvB (tNot (tB (tCB (rAll K) (tCons (tLc (iTup K (tVar 2)) (gTup K 2 (gCons (gName 6) (gCons (gName 7) gNil))) tYes (tAndV (tDIn (tVar 6) (tVar 3)) (tOp rEq (tCall (sp_sum_of K) [] E0 (tCons (tDGet (tVar 3) (tVar 6)) tNil)) (tVar 7))) [6, 7]) tNil)))) σ0 B1 H3 (!rows.all (right m)) := by
        refine evb_not (evb_B (EvD.is (evd_all (bs := rows.map (right m)) ?_) (by rw [List.all_map]; rfl)))
        rw [List.map_map]
        refine EvD.is (evd_lc (fun r : Int × Str => PyData.tuple [.int r.1, .str r.2]) (fun _ => true) (fun r => .bool (right m r)) (src_tup (evd_var (i := 2) rfl hrows)) (by omega) fun row hrow x B4 H4 eb' eh' e' hx R k => tg2 hx e' fun v1 v2 q1 q2 => k _ rfl evb_yes fun _ => ?_) (by rw [List.filter_eq_self.mpr (fun _ _ => rfl)]; rfl)
        cases q1
        cases q2
        have e4 := e3.trans eh'
        have hi : EvD (tDIn (tVar 6) (tVar 3)) [some (.ref a), some (.int upload), some v_rows, some (.ref q), none, none, some (.int row.1), some (.str row.2)] B4 H4 (.bool (aGet m row.1).isSome) := EvD.is (evd_din (k := .inl row.1) (evd_varI rfl) (evf_var rfl) (.inl (e4 _ _ hq2))) (by
          rcases part_val y3 row.1 with ⟨z1, z2⟩ | ⟨x, z1, z2⟩ <;> rw [z1, z2] <;> rfl)
        refine evd_and hi fun hs => evd_eqS (cev_sum_of (hgn (H3 := H4) e4 rfl rfl ?_)) (evd_varS rfl)
        intro z; rw [z] at hs; cases hs
      refine q_when (B := B1) t2 eb3 (fun hb H4 e4 eb4 => ?_) (fun hb H4 e4 eb4 => ?_)
      · rw [if_pos (by simpa using hb)] at r
        exact r H4 (((e1.trans e2).trans e3).trans e4)
      have hall : rows.all (right m) = true := by simpa using hb
      rw [if_neg (by rw [hall]; decide)] at r
      have hin : ∀ row ∈ rows, aGet m row.1 ≠ none ∧ sumT ((aGet m row.1).getD "") = row.2 := fun row hr => by
        have := List.all_eq_true.mp hall row hr
        unfold right at this
        obtain ⟨z1, z2⟩ := Bool.and_eq_true_iff.mp this
        exact ⟨(fun z => by rw [z] at z1; cases z1), of_decide_eq_true z2⟩
      have e34 := e3.trans e4
      have t3 : EvB (tB (tCB (rAny K) (tCons (tLc (iTup K (tSl (rSlA K) (tVar 2) tNoPart (tPart (tUn (rU fun i => .int (-i)) (tC (.int 1)))))) (gTup K 2 (gCons (gName 6) (gCons (gName 7) gNil))) tYes (tOp (rI0 fun i j => .bl (decide (i < j))) (tCB rLenStr (tCons (tDGet (tVar 3) (tVar 6)) tNil)) (tC (.int 5))) [6, 7]) tNil))) σ0 B1 H4 (rows.dropLast.any fun r => decide ((partOf m r).length < 5)) := by
        refine evb_B (EvD.is (evd_any (bs := rows.dropLast.map fun r => decide ((partOf m r).length < 5)) ?_) (by rw [List.any_map]; rfl))
        rw [List.map_map]
        have hdl : EvD (tSl (rSlA K) (tVar 2) tNoPart (tPart (tUn (rU fun i => .int (-i)) (tC (.int 1))))) σ0 B1 H4 (.tuple (rows.dropLast.map fun r => PyData.tuple [.int r.1, .str r.2])) := EvD.is (evd_slT (evd_var rfl hrows) evo_none (evo_some (evd_un (g := fun i => -i) evd_ci))) (by rw [← cutD_init])
        refine EvD.is (evd_lc (fun r : Int × Str => PyData.tuple [.int r.1, .str r.2]) (fun _ => true) (fun r => .bool (decide ((partOf m r).length < 5))) (src_tup hdl) (by rw [List.length_dropLast]; omega) fun row hrow x B5 H5 eb' eh' e' hx R k => tg2 hx e' fun v1 v2 q1 q2 => k _ rfl evb_yes fun _ => ?_) (by rw [List.filter_eq_self.mpr (fun _ _ => rfl)]; rfl)
        cases q1
        cases q2
        have := hplen row.1
        refine EvD.is (evd_B0 (g := fun i j => decide (i < j)) (evd_lenS (hgn (H3 := H5) (e34.trans eh') rfl rfl (hin row ((List.dropLast_sublist _).mem hrow)).1) (by omega)) evd_ci) ?_
        congr 1
        rw [decide_eq_decide]
        unfold partOf
        omega
      refine q_when (B := B1) t3 eb4 (fun hb H5 e5 eb5 => ?_) (fun hb H5 e5 eb5 => ?_)
      · rw [if_pos hb] at r
        exact r H5 ((((e1.trans e2).trans e3).trans e4).trans e5)
      rw [if_neg (by rw [hb]; decide)] at r
      have e345 := e34.trans e5
      refine q_asgS (B := B1) (x := Txt.join "" (rows.map (partOf m))) (evd_join evd_cs ?_ ?_) eb5 fun H6 e6 eb6 => ?_
      · rw [List.map_map]
        refine EvD.is (evd_lc (fun r : Int × Str => PyData.tuple [.int r.1, .str r.2]) (fun _ => true) (fun r => .str (partOf m r)) (src_tup (evd_var (i := 2) rfl hrows)) (by omega) fun row hrow x B5 H5 eb' eh' e' hx R k => tg2 hx e' fun v1 v2 q1 q2 => k _ rfl evb_yes fun _ => ?_) (by rw [List.filter_eq_self.mpr (fun _ _ => rfl)]; rfl)
        cases q1
        cases q2
        exact hgn (H3 := H5) (e345.trans eh') rfl rfl (hin row hrow).1
      · have hs := sum_leN (l := (rows.map (partOf m)).map (·.length)) (b := 5000) fun x hx => by
          rw [List.map_map] at hx
          obtain ⟨row, _, rfl⟩ := List.mem_map.mp hx
          exact hplen row.1
        rw [List.length_map, List.length_map] at hs
        show _ + _ * 0 ≤ _
        omega
      · have e16 : Ex H H6 := (((((e1.trans e2).trans e3).trans e4).trans e5).trans e6)
        have r' : Ret (.tuple [.str ko.1, .str (Txt.join "" (rows.map (partOf m))), .str (sumsT (rows.map (·.2)))]) B H Q := r
        have hk : EvD (tOp (rIxT K) (tDGet (tFld K (tVar 0) "open_ones") (tVar 1)) (tC (.int 0))) [some (.ref a), some (.int upload), some v_rows, some (.ref q), some (.str (Txt.join "" (rows.map (partOf m)))), none, none, none] B1 H6 (.str ko.1) := evd_ixT (ds := [.str ko.1, .int ko.2]) (i := 0) (evd_dget (k := .inl upload) (evf_fld (evf_var rfl) (e16 _ _ h1) cf (by decide) rfl) (evd_varI rfl) (.inl (e16 _ _ h2)) hvo (hdo.ex' x1.1)) evd_ci rfl
        have hs : EvD (tCall (sp_sum_of_parts K) [] E0 (tCons (tCB (rTupleOf K) (tCons (tLc (iTup K (tVar 2)) (gTup K 2 (gCons (gName 6) (gCons (gName 7) gNil))) tYes (tVar 7) [6, 7]) tNil)) tNil)) [some (.ref a), some (.int upload), some v_rows, some (.ref q), some (.str (Txt.join "" (rows.map (partOf m)))), none, none, none] B1 H6 (.str (sumsT (rows.map (·.2)))) := by
          have hx : ∀ x ∈ rows.map (·.2), x.length ≤ 100 := by
            intro x hx
            obtain ⟨row, hr, rfl⟩ := List.mem_map.mp hx
            have h6 := sumT_len ((aGet m row.1).getD "")
            rw [(hin row hr).2] at h6
            show row.2.length ≤ 100
            omega
          have ht : EvD (tCB (rTupleOf K) (tCons (tLc (iTup K (tVar 2)) (gTup K 2 (gCons (gName 6) (gCons (gName 7) gNil))) tYes (tVar 7) [6, 7]) tNil)) [some (.ref a), some (.int upload), some v_rows, some (.ref q), some (.str (Txt.join "" (rows.map (partOf m)))), none, none, none] B1 H6 (.tuple ((rows.map (·.2)).map .str)) := by
            refine evd_tupleL ?_
            rw [List.map_map]
            refine EvD.is (evd_lc (fun r : Int × Str => PyData.tuple [.int r.1, .str r.2]) (fun _ => true) (fun r => .str r.2) (src_tup (evd_var (i := 2) rfl hrows)) (by omega) fun row hrow x B5 H5 eb' eh' e' hx R k => tg2 hx e' fun v1 v2 q1 q2 => k _ rfl evb_yes fun _ => ?_) (by rw [List.filter_eq_self.mpr (fun _ _ => rfl)]; rfl)
            cases q2
            exact evd_varS rfl
          exact cev_sum_of_parts ht (by rw [List.length_map]; exact pre1) hx
        exact s_ret (B := B1) (evd_tup (evs_cons hk (evs_cons (evd_varS (i := 4) (x := Txt.join "" (rows.map (partOf m))) rfl) (evs_cons hs evs_nil)))) eb6 (Ret.grow r' e16 x1)
    · rw [if_neg ho] at hd; cases hd
  · unfold openR at hc
    by_cases ho : isOpen Y upload = true
    · rw [if_pos ho] at hc; cases hc
    · rw [if_neg ho] at hc
      cases hc
      unfold jointR joint at r
      have : aGet Y.opn upload = none := by
        unfold isOpen at ho
        cases c : aGet Y.opn upload with
        | none => rfl
        | some _ => rw [c] at ho; exact absurd rfl ho
      rw [this] at r
      exact r H1 e1
def sp_Uploads_init (K : PySem.W.Frag) : Sp := fun vs H Q E => ∃ (B : Hp) (a dx : Addr), vs = [.ref a] ∧ Ex B H ∧ B a = none ∧ ClsF K "Uploads" ["last", "open_ones", "pieces"] ∧ H a = some (.ins (He.ga K "Uploads") dx []) ∧ RetC [a] (UpAt K a UpS.nil) .none B H Q
theorem len_Uploads_init {K : PySem.W.Frag} {vs : List V} {H : Hp} {Q : VK} {E : XK} (h : sp_Uploads_init K vs H Q E) : vs.length = 1 := by
  obtain ⟨_, _, _, rfl, _⟩ := h; rfl
def t_Uploads_init (K : PySem.W.Frag) (E : XK) : TS :=
  (tSeq (sFld K (tVar 0) (tC (.int 0)) "last")
    (tSeq (sFld K (tVar 0) tDNewK "open_ones")
    (sFld K (tVar 0) tDNewK "pieces")))
theorem pure_Uploads_init {K : PySem.W.Frag}  {vs : List V} {H : Hp} {Q : VK} {E : XK} (h : sp_Uploads_init K vs H Q E) : t_Uploads_init K E { nx := fun _ H' => Q .non H', rt := Q } (start ["self"] vs) H := by
  obtain ⟨B, a, dx, rfl, eb, ba, cf, ha, r⟩ := h
  refine ⟨_, rfl, a, _, dx, [], rfl, ha, cf.c, cf.f _ (by decide), (by decide), ?_⟩
  let o1 : HO := .ins (He.ga K "Uploads") dx [("last", .int 0)]
  show tSeq _ _ _ _ (upd H a o1)
  intro od hod
  have n1 : a ≠ od := ne_of_none (H := upd H a o1) upd_same hod
  have hod' : H od = none := by rw [upd_ne (Ne.symm n1)] at hod; exact hod
  refine ⟨_, rfl, a, _, dx, _, rfl, by rw [upd_ne n1]; exact upd_same, cf.c, cf.f _ (by decide), Nat.lt_of_succ_le (Nat.le_of_ble_eq_true rfl), ?_⟩
  let o2 : HO := .ins (He.ga K "Uploads") dx (putF "open_ones" (.ref od) [("last", .int 0)])
  intro pd hpd
  have n2 : a ≠ pd := ne_of_none (H := upd (upd (upd H a o1) od (.dK [])) a o2) upd_same hpd
  have n3 : od ≠ pd := ne_of_none (H := upd (upd (upd H a o1) od (.dK [])) a o2) (by rw [upd_ne (Ne.symm n1)]; exact upd_same) hpd
  have hpd' : H pd = none := by rw [upd_ne (Ne.symm n2), upd_ne (Ne.symm n3), upd_ne (Ne.symm n2)] at hpd; exact hpd
  refine ⟨_, rfl, a, _, dx, _, rfl, by rw [upd_ne n2]; exact upd_same, cf.c, cf.f _ (by decide), Nat.lt_of_succ_le (Nat.le_of_ble_eq_true rfl), ?_⟩
  have b1 : B od = none := fresh_back eb hod'
  have b2 : B pd = none := fresh_back eb hpd'
  refine r _ _ B [a, od, pd] ⟨fun q o hq nq => ?_, fun q hq => ?_⟩ (fun q hq => ?_) (Ext.refl _ _) (ex_mut (ex_mut (ex_mut (ex_mut (ex_mut eb ba) b1) ba) b2) ba) ?_ .non
  · have c1 : q ≠ a := fun z => nq (by rw [z]; simp)
    have c2 : q ≠ od := ne_of_none hq hod'
    have c3 : q ≠ pd := ne_of_none hq hpd'
    rw [upd_ne c1, upd_ne c3, upd_ne c1, upd_ne c2, upd_ne c1]; exact hq
  · have c2 : q ≠ od := fun z => hq (by rw [z]; exact hod')
    have c3 : q ≠ pd := fun z => hq (by rw [z]; exact hpd')
    by_cases c1 : q = a
    · subst c1; rw [upd_same]; exact fun z => nomatch z
    · rw [upd_ne c1, upd_ne c3, upd_ne c1, upd_ne c2, upd_ne c1]; exact hq
  · simp only [List.mem_cons, List.not_mem_nil, or_false] at hq
    rcases hq with rfl | rfl | rfl
    · exact .inl (by simp)
    · exact .inr hod'
    · exact .inr hpd'
  · refine ⟨cf, dx, od, pd, [], [], [], rfl, by simp [n1, n2, n3], upd_same, by rw [upd_ne (Ne.symm n1), upd_ne n3, upd_ne (Ne.symm n1)]; exact upd_same, .nil, by rw [upd_ne (Ne.symm n2)]; exact upd_same, .nil, .nil, fun p hp => ?_⟩
    simp only [List.map_nil, List.mem_cons, List.not_mem_nil, or_false] at hp
    rcases hp with rfl | rfl | rfl
    · exact ba
    · exact b1
    · exact b2
theorem mk_Uploads {K : PySem.W.Frag} {σ : Sig} {B H : Hp} {E : XK} {Q : VK} (cf : ClsF K "Uploads" ["last", "open_ones", "pieces"]) (eb : Ex B H) (k : ∀ x H' B' L, Ex H H' → (∀ p ∈ L, H p = none) → Ext B H B' → Ex B' H' → UpAt K x UpS.nil L B' H' → Q (.ref x) H') : tMake (He.ga K "Uploads") (sp_Uploads_init K) [] E tNil σ H Q := by
  intro x dx hx hdx nx
  have bx := fresh_back eb hx
  have eH : Ex H (upd (upd H dx (.own x)) x (.ins (He.ga K "Uploads") dx [])) := (Ex.new hdx).trans (Ex.new (by rw [upd_ne (Ne.symm nx)]; exact hx))
  refine ⟨B, x, dx, rfl, eb.trans eH, bx, cf, upd_same, fun v H' B' L o f xt eb' hs hv => ⟨dpn hv, ?_⟩⟩
  refine k x H' B' L (fun q u hq => o.k q u (eH _ _ hq) (by simpa using ne_of_none hq hx)) (fun p hp => ?_) (Ext.trans (Ext.refl _ _) eH xt) eb' hs
  rcases f p hp with z | z
  · rw [List.mem_singleton.mp z]; exact hx
  · exact fresh_back eH z
end GK

namespace GK
open PySem PySem.Spec PyProof.Rows L2
open Evl (Ex ex_l ex_t ex_rd sq_of st_of sz_of sz_lt fresh_back)
theorem evd_tupSl {K : PySem.W.Frag} {σ : Sig} {B H : Hp} {to ta : TE} {p : Addr} {ds : List PyData} {L : List Addr} {n : Int} (hf : EvF to σ H (.ref p)) (hn : EvD ta σ B H (.int n)) (hp : LsAt p ds L B H) : EvD (tCB (rTupleOf K) (tCons (tSl (rSlL K) to (tPart ta) tNoPart) tNil)) σ B H (.tuple (cutD ds (some n) none)) := fun H1 e1 eb1 Q q => hf H1 e1 _ fun H2 e2 => hn.flat (fun _ _ => dpi) (e1.trans e2) (eb1.trans e2) fun H3 e3 => by
  obtain ⟨rfl, b, xs, h1, h2⟩ := hp
  refine ⟨n, rfl, p, xs, rfl, sq_of (((e1.trans e2).trans e3) _ _ h1), fun l hl => ⟨l, cutV xs (some n) none, rfl, .inl ⟨sq_of upd_same, fun r hr => ?_⟩⟩⟩
  have hr3 : H3 r = none := fresh_back (Ex.new hl) hr
  have e23 := e2.trans e3
  have hr1 : H1 r = none := fresh_back e23 hr3
  exact q _ _ (upd B r (.tup (cutV xs (some n) none))) ((e23.trans (Ex.new hl)).trans (Ex.new hr)) (Ext.new eb1 hr1) (ex_upd2 ((eb1.trans e23).trans (Ex.new hl))) (.tup upd_same (dpAll_ex (Ex.new (fresh_back eb1 hr1)) _ _ (dpa_cut h2)))
theorem q_fldV {K : PySem.W.Frag} {σ : Sig} {H : Hp} {D : Ends} {ta tv : TE} {tz : TS} {f : Str} (h : tv σ H (fun y H1 => ta σ H1 fun x H2 => ∃ a C dx fs, x = .ref a ∧ H2 a = some (.ins C dx fs) ∧ Cls K C ∧ NoAttr K C f ∧ fs.length < 1000 ∧ tz D σ (upd H2 a (.ins C dx (putF f y fs))))) : tSeq (sFld K ta tv f) tz D σ H := h
theorem s_appF {K : PySem.W.Frag} {σ : Sig} {B H : Hp} {D : Ends} {to ta : TE} {p : Addr} {ds : List PyData} {L : List Addr} {d : PyData} (hf : EvF to σ H (.ref p)) (h : EvD ta σ B H d) (eb : Ex B H) (hp : LsAt p ds L B H) (hl : ds.length < 100000) (k : ∀ H1 B1, Only L H H1 → Ext B H B1 → Ex B1 H1 → LsAt p (ds ++ [d]) L B1 H1 → D.nx σ H1) : tDrop (tBM K "list" rAppend to (tCons ta tNil)) D σ H := by
  obtain ⟨rfl, b, xs, h1, h2⟩ := hp
  refine hf H (Ex.refl _) _ fun H0 e0 => ⟨.inl ⟨rfl, xs, sq_of (e0 _ _ h1)⟩, ?_⟩
  refine (h.mono (Ex.refl _) e0).run (eb.trans e0) fun v H1 B1 e1 x1 eb1 hdv => ?_
  have e01 := e0.trans e1
  refine ⟨p, xs, v, rfl, rfl, e01 _ _ h1, sz_lt (by rw [dpa_len h2]; exact hl), ?_⟩
  have x01 : Ext B H B1 := Ext.trans (Ext.refl _ _) e0 x1
  have b1 := x01.out h1 b
  exact k _ B1 ((Only.of e01).trans (Only.put (by simp))) x01 (ex_mut eb1 b1) ⟨rfl, b1, _, upd_same, dpa_app (dpAll_ex x01.1 _ _ h2) (.cons hdv .nil)⟩
/-! ### a store in the heap -/
abbrev stF : List Str := ["most", "today", "last_version", "shelf", "sending", "log"]
structure CfS (K : PySem.W.Frag) : Prop where
  sh : ClsF K "Shelf" ["rows", "until"]
  up : ClsF K "Uploads" ["last", "open_ones", "pieces"]
  st : ClsF K "Store" stF
abbrev stO (K : PySem.W.Frag) (dx sh up lg : Addr) (m t l : Int) : HO := .ins (He.ga K "Store") dx [("most", .int m), ("today", .int t), ("last_version", .int l), ("shelf", .ref sh), ("sending", .ref up), ("log", .ref lg)]
structure StP (K : PySem.W.Frag) (a dx sh up lg : Addr) (Ls Lu : List Addr) (m t l : Int) (X : ShS) (Y : UpS) (g : List PyData) (B H : Hp) : Prop where
  o : H a = some (stO K dx sh up lg m t l)
  ba : B a = none
  hl : LsAt lg g [lg] B H
  hs : ShAt K sh X Ls B H
  hu : UpAt K up Y Lu B H
  n1 : a ≠ lg
  n2 : a ∉ Ls
  n3 : a ∉ Lu
  n4 : lg ∉ Ls
  n5 : lg ∉ Lu
  n6 : ∀ p ∈ Ls, p ∉ Lu
structure StAt (K : PySem.W.Frag) (a : Addr) (S : StS) (L : List Addr) (B H : Hp) : Prop where
  cf : CfS K
  ex : ∃ dx sh up lg Ls Lu, L = a :: lg :: (Ls ++ Lu) ∧ StP K a dx sh up lg Ls Lu S.most S.today S.lastv S.sh S.up (logD S.log) B H
section
variable {K : PySem.W.Frag} {a dx sh up lg : Addr} {Ls Lu Ls' Lu' M : List Addr} {m t l m' t' l' : Int} {X X' : ShS} {Y Y' : UpS} {g g' : List PyData} {B H B' H' : Hp}
theorem StP.keep (h : StP K a dx sh up lg Ls Lu m t l X Y g B H) (o : Only M H H') (x : Ext B H B') (n : ∀ p ∈ a :: lg :: (Ls ++ Lu), p ∉ M) : StP K a dx sh up lg Ls Lu m t l X Y g B' H' :=
  ⟨o.k _ _ h.o (n _ (by simp)), x.out h.o h.ba, h.hl.keep o x (fun p hp => n p (by rw [List.mem_singleton.mp hp]; simp)), h.hs.keep o x (fun p hp => n p (by simp [hp])), h.hu.keep o x (fun p hp => n p (by simp [hp])), h.n1, h.n2, h.n3, h.n4, h.n5, h.n6⟩
theorem StP.grow (h : StP K a dx sh up lg Ls Lu m t l X Y g B H) (e : Ex H H') (x : Ext B H B') : StP K a dx sh up lg Ls Lu m t l X Y g B' H' := h.keep (Only.of (L := []) e) x (fun _ _ => by simp)
theorem StP.out (h : StP K a dx sh up lg Ls Lu m t l X Y g B H) : ∀ p ∈ a :: lg :: (Ls ++ Lu), H p ≠ none ∧ B p = none := fun p hp => by
  simp only [List.mem_cons, List.mem_append] at hp
  rcases hp with rfl | rfl | hp | hp
  · exact ⟨by rw [h.o]; simp, h.ba⟩
  · exact h.hl.out p (by simp)
  · exact h.hs.out p hp
  · exact h.hu.out p hp
/-- a field is changed -/
theorem StP.fld (h : StP K a dx sh up lg Ls Lu m t l X Y g B H) : StP K a dx sh up lg Ls Lu m' t' l' X Y g B (upd H a (stO K dx sh up lg m' t' l')) := by
  have o : Only [a] H (upd H a (stO K dx sh up lg m' t' l')) := Only.put (by simp)
  refine ⟨upd_same, h.ba, h.hl.keep o (Ext.refl _ _) (fun p hp => by rw [List.mem_singleton.mp hp]; simpa using Ne.symm h.n1), h.hs.keep o (Ext.refl _ _) (fun p hp => ?_), h.hu.keep o (Ext.refl _ _) (fun p hp => ?_), h.n1, h.n2, h.n3, h.n4, h.n5, h.n6⟩
  · rw [List.mem_singleton]; rintro rfl; exact h.n2 hp
  · rw [List.mem_singleton]; rintro rfl; exact h.n3 hp
theorem StP.shelf (h : StP K a dx sh up lg Ls Lu m t l X Y g B H) (o : Only Ls H H') (x : Ext B H B') (f : ∀ p ∈ Ls', p ∈ Ls ∨ H p = none) (hs : ShAt K sh X' Ls' B' H') : StP K a dx sh up lg Ls' Lu m t l X' Y g B' H' := by
  have fr : ∀ p, p ∈ Ls' → p ∉ Ls → H p = none := fun p hp hn => (f p hp).resolve_left hn
  refine ⟨o.k _ _ h.o h.n2, x.out h.o h.ba, h.hl.keep o x (fun p hp => by rw [List.mem_singleton.mp hp]; exact h.n4), hs, h.hu.keep o x (fun p hp z => h.n6 p z hp), h.n1, fun z => ?_, h.n3, fun z => ?_, h.n5, fun p hp z => ?_⟩
  · have := fr a z h.n2; rw [h.o] at this; cases this
  · exact (h.hl.out lg (by simp)).1 (fr lg z h.n4)
  · by_cases c : p ∈ Ls
    · exact h.n6 p c z
    · exact (h.hu.out p z).1 (fr p hp c)
theorem StP.ups (h : StP K a dx sh up lg Ls Lu m t l X Y g B H) (o : Only Lu H H') (x : Ext B H B') (f : ∀ p ∈ Lu', p ∈ Lu ∨ H p = none) (hs : UpAt K up Y' Lu' B' H') : StP K a dx sh up lg Ls Lu' m t l X Y' g B' H' := by
  have fr : ∀ p, p ∈ Lu' → p ∉ Lu → H p = none := fun p hp hn => (f p hp).resolve_left hn
  refine ⟨o.k _ _ h.o h.n3, x.out h.o h.ba, h.hl.keep o x (fun p hp => by rw [List.mem_singleton.mp hp]; exact h.n5), h.hs.keep o x (fun p hp => h.n6 p hp), hs, h.n1, h.n2, fun z => ?_, h.n4, fun z => ?_, fun p hp z => ?_⟩
  · have := fr a z h.n3; rw [h.o] at this; cases this
  · exact (h.hl.out lg (by simp)).1 (fr lg z h.n5)
  · by_cases c : p ∈ Lu
    · exact h.n6 p hp c
    · exact (h.hs.out p hp).1 (fr p z c)
theorem StP.note (h : StP K a dx sh up lg Ls Lu m t l X Y g B H) (o : Only [lg] H H') (x : Ext B H B') (hs : LsAt lg g' [lg] B' H') : StP K a dx sh up lg Ls Lu m t l X Y g' B' H' :=
  ⟨o.k _ _ h.o (by simpa using h.n1), x.out h.o h.ba, hs, h.hs.keep o x (fun p hp => by rw [List.mem_singleton]; rintro rfl; exact h.n4 hp), h.hu.keep o x (fun p hp => by rw [List.mem_singleton]; rintro rfl; exact h.n5 hp), h.n1, h.n2, h.n3, h.n4, h.n5, h.n6⟩
end
section
variable {K : PySem.W.Frag} {a : Addr} {S : StS} {L M : List Addr} {B H B' H' : Hp}
theorem StAt.keep (h : StAt K a S L B H) (o : Only M H H') (x : Ext B H B') (n : ∀ p ∈ L, p ∉ M) : StAt K a S L B' H' := by
  obtain ⟨cf, dx, sh, up, lg, Ls, Lu, rfl, h⟩ := h
  exact ⟨cf, dx, sh, up, lg, Ls, Lu, rfl, h.keep o x n⟩
theorem StAt.grow (h : StAt K a S L B H) (e : Ex H H') (x : Ext B H B') : StAt K a S L B' H' := h.keep (Only.of (L := []) e) x (fun _ _ => by simp)
theorem StAt.out (h : StAt K a S L B H) : ∀ p ∈ L, H p ≠ none ∧ B p = none := by
  obtain ⟨cf, dx, sh, up, lg, Ls, Lu, rfl, h⟩ := h
  exact h.out
theorem StAt.obj (h : StAt K a S L B H) : ∃ dx fs, H a = some (.ins (He.ga K "Store") dx fs) ∧ ∀ m : Str, m ∉ stF → fs.lookup m = none := by
  obtain ⟨cf, dx, sh, up, lg, Ls, Lu, rfl, h⟩ := h
  exact ⟨dx, _, h.o, fun m hm => lookup_none rfl hm⟩
end
section
variable {K : PySem.W.Frag} {σ : Sig} {B H : Hp} {ta : TE} {a dx sh up lg : Addr} {Ls Lu : List Addr} {m t l : Int} {X : ShS} {Y : UpS} {g : List PyData}
theorem fev_Store_shelf (ho : EvF ta σ H (.ref a)) (h : StP K a dx sh up lg Ls Lu m t l X Y g B H := by assumption) (cf : CfS K := by assumption) : EvF (tFld K ta "shelf") σ H (.ref sh) := evf_fld ho h.o cf.st (by decide) rfl
theorem fev_Store_sending (ho : EvF ta σ H (.ref a)) (h : StP K a dx sh up lg Ls Lu m t l X Y g B H := by assumption) (cf : CfS K := by assumption) : EvF (tFld K ta "sending") σ H (.ref up) := evf_fld ho h.o cf.st (by decide) rfl
theorem fev_Store_log (ho : EvF ta σ H (.ref a)) (h : StP K a dx sh up lg Ls Lu m t l X Y g B H := by assumption) (cf : CfS K := by assumption) : EvF (tFld K ta "log") σ H (.ref lg) := evf_fld ho h.o cf.st (by decide) rfl
theorem fev_Store_today (ho : EvF ta σ H (.ref a)) (h : StP K a dx sh up lg Ls Lu m t l X Y g B H := by assumption) (cf : CfS K := by assumption) : EvD (tFld K ta "today") σ B H (.int t) := evd_of (evf_fld ho h.o cf.st (by decide) rfl) (.int _)
theorem fev_Store_most (ho : EvF ta σ H (.ref a)) (h : StP K a dx sh up lg Ls Lu m t l X Y g B H := by assumption) (cf : CfS K := by assumption) : EvD (tFld K ta "most") σ B H (.int m) := evd_of (evf_fld ho h.o cf.st (by decide) rfl) (.int _)
theorem fev_Store_last_version (ho : EvF ta σ H (.ref a)) (h : StP K a dx sh up lg Ls Lu m t l X Y g B H := by assumption) (cf : CfS K := by assumption) : EvD (tFld K ta "last_version") σ B H (.int l) := evd_of (evf_fld ho h.o cf.st (by decide) rfl) (.int _)
end
def sp_Store_day (K : PySem.W.Frag) : Sp := fun vs H Q E => ∃ (B : Hp) (a : Addr) (L : List Addr) (S : StS), vs = [.ref a] ∧ Ex B H ∧ StAt K a S L B H ∧ StB S ∧ Ret (.int S.today) B H Q
theorem len_Store_day {K : PySem.W.Frag} {vs : List V} {H : Hp} {Q : VK} {E : XK} (h : sp_Store_day K vs H Q E) : vs.length = 1 := by
  obtain ⟨_, _, _, _, rfl, _⟩ := h; rfl
theorem mev_Store_day {K : PySem.W.Frag} {σ : Sig} {B H : Hp} {ta : TE} {E : XK} {a : Addr} {L : List Addr} {S : StS} (ho : EvF ta σ H (.ref a)) (hA : StAt K a S L B H := by assumption) (hB : StB S := by assumption) : EvD (tMeth (He.ga K "Store") "day" (sp_Store_day K) [] E ta tNil) σ B H (.int S.today) := by
  obtain ⟨dx, fs, hx, hf⟩ := hA.obj
  exact evd_meth ho hx (hf _ (by decide)) evs_nil fun H1 B1 vs e1 x1 eb1 hd Q q => by
    cases hd
    exact ⟨B1, a, L, S, rfl, eb1, hA.grow e1 x1, hB, q⟩
def t_Store_day (K : PySem.W.Frag) (E : XK) : TS :=
  (tRet (tFld K (tVar 0) "today"))
theorem pure_Store_day {K : PySem.W.Frag}  {vs : List V} {H : Hp} {Q : VK} {E : XK} (h : sp_Store_day K vs H Q E) : t_Store_day K E { nx := fun _ H' => Q .non H', rt := Q } (start ["self"] vs) H := by
  obtain ⟨B, a, L, S, rfl, eb, hA, hB, r⟩ := h
  obtain ⟨cf, dx, sh, up, lg, Ls, Lu, rfl, hP⟩ := hA
  exact s_ret (B := B) (fev_Store_today (evf_var rfl)) eb r
def sp_Store_pass_days (K : PySem.W.Frag) : Sp := fun vs H Q E => ∃ (B : Hp) (a : Addr) (L : List Addr) (S : StS) (many : Int), vs = [.ref a, .int many] ∧ Ex B H ∧ StAt K a S L B H ∧ StB S ∧ RetC L (StAt K a (S.pass many)) (.none) B H Q
theorem len_Store_pass_days {K : PySem.W.Frag} {vs : List V} {H : Hp} {Q : VK} {E : XK} (h : sp_Store_pass_days K vs H Q E) : vs.length = 2 := by
  obtain ⟨_, _, _, _, _, rfl, _⟩ := h; rfl
theorem run_Store_pass_days {K : PySem.W.Frag} {σ : Sig} {B H : Hp} {ta : TE} {E : XK} {a : Addr} {L : List Addr} {S : StS} {many : Int} {t1 : TE} {Q : VK} (ho : EvF ta σ H (.ref a)) (h1 : EvD t1 σ B H (.int many)) (eb : Ex B H) (hA : StAt K a S L B H := by assumption) (hB : StB S := by assumption) (q : RetC L (StAt K a (S.pass many)) (.none) B H Q) : tMeth (He.ga K "Store") "pass_days" (sp_Store_pass_days K) [] E ta (tCons t1 tNil) σ H Q := by
  obtain ⟨dx, fs, hx, hf⟩ := hA.obj
  exact run_meth ho hx (hf _ (by decide)) (evs_cons h1 evs_nil) eb fun H1 B1 vs e1 x1 eb1 hd => by
    obtain ⟨v1, rfl, hv1⟩ := dpa1 hd
    cases hv1
    exact ⟨B1, a, L, S, many, rfl, eb1, hA.grow e1 x1, hB, q.grow e1 x1⟩
def t_Store_pass_days (K : PySem.W.Frag) (E : XK) : TS :=
  (sFld K (tVar 0) (tOp (rI0 fun i j => .int (i + j)) (tFld K (tVar 0) "today") (tVar 1)) "today")
theorem pure_Store_pass_days {K : PySem.W.Frag}  {vs : List V} {H : Hp} {Q : VK} {E : XK} (h : sp_Store_pass_days K vs H Q E) : t_Store_pass_days K E { nx := fun _ H' => Q .non H', rt := Q } (start ["self", "many"] vs) H := by
  obtain ⟨B, a, L, S, many, rfl, eb, hA, hB, r⟩ := h
  obtain ⟨cf, dx, sh, up, lg, Ls, Lu, rfl, hP⟩ := hA
  refine s_fld (B := B) (evd_I0 (g := fun i j => i + j) (fev_Store_today (evf_var rfl)) (evd_varI rfl)) (evf_var rfl) eb hP.o cf.st (by decide) (Nat.le_of_ble_eq_true rfl) fun v H1 B1 e1 x1 eb1 hv => ?_
  cases hv
  have hP1 := hP.grow e1 x1
  exact r _ _ B1 _ ((Only.of e1).trans (Only.put (by simp))) (fun p hp => .inl hp) x1 (ex_mut eb1 hP1.ba) ⟨cf, dx, sh, up, lg, Ls, Lu, rfl, hP1.fld (m' := S.most) (t' := S.today + many) (l' := S.lastv)⟩ .non
def sp_Store_size (K : PySem.W.Frag) : Sp := fun vs H Q E => ∃ (B : Hp) (a : Addr) (L : List Addr) (S : StS), vs = [.ref a] ∧ Ex B H ∧ StAt K a S L B H ∧ StB S ∧ Ret (.int (sizeS S)) B H Q
theorem len_Store_size {K : PySem.W.Frag} {vs : List V} {H : Hp} {Q : VK} {E : XK} (h : sp_Store_size K vs H Q E) : vs.length = 1 := by
  obtain ⟨_, _, _, _, rfl, _⟩ := h; rfl
theorem mev_Store_size {K : PySem.W.Frag} {σ : Sig} {B H : Hp} {ta : TE} {E : XK} {a : Addr} {L : List Addr} {S : StS} (ho : EvF ta σ H (.ref a)) (hA : StAt K a S L B H := by assumption) (hB : StB S := by assumption) : EvD (tMeth (He.ga K "Store") "size" (sp_Store_size K) [] E ta tNil) σ B H (.int (sizeS S)) := by
  obtain ⟨dx, fs, hx, hf⟩ := hA.obj
  exact evd_meth ho hx (hf _ (by decide)) evs_nil fun H1 B1 vs e1 x1 eb1 hd Q q => by
    cases hd
    exact ⟨B1, a, L, S, rfl, eb1, hA.grow e1 x1, hB, q⟩
def t_Store_size (K : PySem.W.Frag) (E : XK) : TS :=
  (tRet (tOp (rI0 fun i j => .int (i + j)) (tMeth (He.ga K "Shelf") "total" (sp_Shelf_total K) [] E0 (tFld K (tVar 0) "shelf") tNil) (tMeth (He.ga K "Uploads") "total" (sp_Uploads_total K) [] E0 (tFld K (tVar 0) "sending") tNil)))
theorem pure_Store_size {K : PySem.W.Frag}  {vs : List V} {H : Hp} {Q : VK} {E : XK} (h : sp_Store_size K vs H Q E) : t_Store_size K E { nx := fun _ H' => Q .non H', rt := Q } (start ["self"] vs) H := by
  obtain ⟨B, a, L, S, rfl, eb, hA, hB, r⟩ := h
  obtain ⟨cf, dx, sh, up, lg, Ls, Lu, rfl, hP⟩ := hA
  exact s_ret (B := B) (evd_I0 (g := fun i j => i + j) (mev_Shelf_total (fev_Store_shelf (evf_var rfl)) hP.hs hB.sh) (mev_Uploads_total (fev_Store_sending (evf_var rfl)) hP.hu hB.up)) eb r
def sp_Store_must_fit (K : PySem.W.Frag) : Sp := fun vs H Q E => ∃ (B : Hp) (a : Addr) (L : List Addr) (S : StS) (more : Int), vs = [.ref a, .int more] ∧ Ex B H ∧ StAt K a S L B H ∧ StB S ∧ RetX K (fitR S more .none) B H Q E
theorem len_Store_must_fit {K : PySem.W.Frag} {vs : List V} {H : Hp} {Q : VK} {E : XK} (h : sp_Store_must_fit K vs H Q E) : vs.length = 2 := by
  obtain ⟨_, _, _, _, _, rfl, _⟩ := h; rfl
theorem mxv_Store_must_fit {K : PySem.W.Frag} {σ : Sig} {B H : Hp} {ta : TE} {E : XK} {a : Addr} {L : List Addr} {S : StS} {more : Int} {t1 : TE} (ho : EvF ta σ H (.ref a)) (h1 : EvD t1 σ B H (.int more)) (hA : StAt K a S L B H := by assumption) (hB : StB S := by assumption) : EvX K (tMeth (He.ga K "Store") "must_fit" (sp_Store_must_fit K) [] E ta (tCons t1 tNil)) σ B H (fitR S more .none) E := by
  obtain ⟨dx, fs, hx, hf⟩ := hA.obj
  exact evx_meth ho hx (hf _ (by decide)) (evs_cons h1 evs_nil) fun H1 B1 vs e1 x1 eb1 hd Q q => by
    obtain ⟨v1, rfl, hv1⟩ := dpa1 hd
    cases hv1
    exact ⟨B1, a, L, S, more, rfl, eb1, hA.grow e1 x1, hB, q⟩
def t_Store_must_fit (K : PySem.W.Frag) (E : XK) : TS :=
  (tIfS (tTest (tOp (rI0 fun i j => .bl (decide (j < i))) (tOp (rI0 fun i j => .int (i + j)) (tMeth (He.ga K "Store") "size" (sp_Store_size K) [] E0 (tVar 0) tNil) (tVar 1)) (tFld K (tVar 0) "most"))) (tRs (He.ga K "Full") E) tNext)
theorem pure_Store_must_fit {K : PySem.W.Frag}  {vs : List V} {H : Hp} {Q : VK} {E : XK} (h : sp_Store_must_fit K vs H Q E) : t_Store_must_fit K E { nx := fun _ H' => Q .non H', rt := Q } (start ["self", "more"] vs) H := by
  obtain ⟨B, a, L, S, more, rfl, eb, hA, hB, r⟩ := h
  have hA' := hA
  obtain ⟨cf, dx, sh, up, lg, Ls, Lu, rfl, hP⟩ := hA
  refine s_when (B := B) (b := decide (S.most < sizeS S + more)) (evb_test (evd_B0 (g := fun i j => decide (j < i)) (evd_I0 (g := fun i j => i + j) (mev_Store_size (evf_var rfl) hA' hB) (evd_varI rfl)) (fev_Store_most (evf_var rfl)))) eb (fun hb H1 e1 eb1 => ?_) (fun hb H1 e1 eb1 => ?_)
  · unfold fitR fits at r
    rw [hb, if_neg (by decide)] at r
    exact r H1 e1
  · unfold fitR fits at r
    rw [hb, if_pos (by decide)] at r
    exact Ret.at (Ret.grow r e1 (Ext.refl _ _)) eb1 .non
def StN (S : StS) : Prop := S.log.length ≤ 5000
structure StC (S : StS) : Prop where
  sh : ShB S.sh
  nl : S.log.length ≤ 5000
def sp_Store_note (K : PySem.W.Frag) : Sp := fun vs H Q E => ∃ (B : Hp) (a : Addr) (L : List Addr) (S : StS) (change : Chg) (v_change : V), vs = [.ref a, v_change] ∧ Ex B H ∧ StAt K a S L B H ∧ StN S ∧ Da B v_change (.tuple (chgB change)) ∧ RetC L (StAt K a (S.note change)) (.none) B H Q
theorem len_Store_note {K : PySem.W.Frag} {vs : List V} {H : Hp} {Q : VK} {E : XK} (h : sp_Store_note K vs H Q E) : vs.length = 2 := by
  obtain ⟨_, _, _, _, _, _, rfl, _⟩ := h; rfl
theorem run_Store_note {K : PySem.W.Frag} {σ : Sig} {B H : Hp} {ta : TE} {E : XK} {a : Addr} {L : List Addr} {S : StS} {change : Chg} {t1 : TE} {Q : VK} (ho : EvF ta σ H (.ref a)) (h1 : EvD t1 σ B H (.tuple (chgB change))) (eb : Ex B H) (hA : StAt K a S L B H := by assumption) (hB : StN S := by assumption) (q : RetC L (StAt K a (S.note change)) (.none) B H Q) : tMeth (He.ga K "Store") "note" (sp_Store_note K) [] E ta (tCons t1 tNil) σ H Q := by
  obtain ⟨dx, fs, hx, hf⟩ := hA.obj
  exact run_meth ho hx (hf _ (by decide)) (evs_cons h1 evs_nil) eb fun H1 B1 vs e1 x1 eb1 hd => by
    obtain ⟨v1, rfl, hv1⟩ := dpa1 hd
    exact ⟨B1, a, L, S, change, v1, rfl, eb1, hA.grow e1 x1, hB, hv1, q.grow e1 x1⟩
def t_Store_note (K : PySem.W.Frag) (E : XK) : TS :=
  (tDrop (tBM K "list" rAppend (tFld K (tVar 0) "log") (tCons (tOp (rCatA K) (tTup (tCons (tOp (rI0 fun i j => .int (i + j)) (tCB (rLenSeq K) (tCons (tFld K (tVar 0) "log") tNil)) (tC (.int 1))) tNil)) (tVar 1)) tNil)))
theorem pure_Store_note {K : PySem.W.Frag}  {vs : List V} {H : Hp} {Q : VK} {E : XK} (h : sp_Store_note K vs H Q E) : t_Store_note K E { nx := fun _ H' => Q .non H', rt := Q } (start ["self", "change"] vs) H := by
  obtain ⟨B, a, L, S, change, v_change, rfl, eb, hA, hB, h_change, r⟩ := h
  obtain ⟨cf, dx, sh, up, lg, Ls, Lu, rfl, hP⟩ := hA
  have hl : S.log.length ≤ 5000 := hB
  have hn : EvD (tOp (rI0 fun i j => .int (i + j)) (tCB (rLenSeq K) (tCons (tFld K (tVar 0) "log") tNil)) (tC (.int 1))) [some (.ref a), some v_change] B H (.int ((S.log.length : Int) + 1)) := by
    refine evd_I0 (g := fun i j => i + j) (fun H2 e2 eb2 Q q => ?_) evd_ci
    obtain ⟨_, bl, xs, hl1, hl2⟩ := hP.hl
    have hlen : xs.length = S.log.length := by rw [dpa_len hl2, logD_len]
    refine fev_Store_log (evf_var rfl) (hP.grow e2 (Ext.refl _ _)) cf H2 (Ex.refl _) _ fun H3 e3 => ⟨lg, xs, rfl, .inl (sq_of (e3 _ _ (e2 _ _ hl1))), ?_⟩
    rw [hlen]
    exact q _ _ B e3 (Ext.refl _ _) (eb2.trans e3) (.int _)
  refine s_appF (B := B) (d := chgD ((S.log.length : Int) + 1) change) (fev_Store_log (evf_var rfl) hP cf) (evd_catT (ds := [.int ((S.log.length : Int) + 1)]) (es := chgB change) (evd_tup (evs_cons hn evs_nil)) (evd_var rfl h_change) (by cases change <;> exact Nat.le_of_ble_eq_true rfl)) eb hP.hl (by rw [logD_len]; omega) fun H2 B2 o2 x2 eb2 hl2 => ?_
  refine r _ _ B2 _ (o2.mono (by simp)) (fun p hp => .inl hp) x2 eb2 ⟨cf, dx, sh, up, lg, Ls, Lu, rfl, hP.note o2 x2 ?_⟩ .non
  show LsAt lg (logD (S.log ++ [change])) [lg] B2 H2
  rw [logD_snoc]
  exact hl2
def sp_Store_come (K : PySem.W.Frag) : Sp := fun vs H Q E => ∃ (B : Hp) (a : Addr) (L : List Addr) (S : StS) (key : Str) (data : Option Str) (v_data : V) (total : Option Str) (v_total : V), vs = [.ref a, .str key, v_data, v_total] ∧ Ex B H ∧ StAt K a S L B H ∧ StC S ∧ Da B v_data (oS data) ∧ Da B v_total (oS total) ∧ (data.isSome = total.isSome) ∧ RetC L (StAt K a (S.come key data total)) (.int (S.lastv + 1)) B H Q
theorem len_Store_come {K : PySem.W.Frag} {vs : List V} {H : Hp} {Q : VK} {E : XK} (h : sp_Store_come K vs H Q E) : vs.length = 4 := by
  obtain ⟨_, _, _, _, _, _, _, _, _, rfl, _⟩ := h; rfl
theorem run_Store_come {K : PySem.W.Frag} {σ : Sig} {B H : Hp} {ta : TE} {E : XK} {a : Addr} {L : List Addr} {S : StS} {key : Str} {data : Option Str} {total : Option Str} {t1 : TE} {t2 : TE} {t3 : TE} {Q : VK} (ho : EvF ta σ H (.ref a)) (h1 : EvD t1 σ B H (.str key)) (h2 : EvD t2 σ B H (oS data)) (h3 : EvD t3 σ B H (oS total)) (eb : Ex B H) (hA : StAt K a S L B H := by assumption) (hB : StC S := by assumption) (p1 : data.isSome = total.isSome := by first | assumption | omega | decide) (q : RetC L (StAt K a (S.come key data total)) (.int (S.lastv + 1)) B H Q) : tMeth (He.ga K "Store") "come" (sp_Store_come K) [] E ta (tCons t1 (tCons t2 (tCons t3 tNil))) σ H Q := by
  obtain ⟨dx, fs, hx, hf⟩ := hA.obj
  exact run_meth ho hx (hf _ (by decide)) (evs_cons h1 (evs_cons h2 (evs_cons h3 evs_nil))) eb fun H1 B1 vs e1 x1 eb1 hd => by
    obtain ⟨v1, v2, v3, rfl, hv1, hv2, hv3⟩ := dpa3 hd
    cases hv1
    exact ⟨B1, a, L, S, key, data, v2, total, v3, rfl, eb1, hA.grow e1 x1, hB, hv2, hv3, p1, q.grow e1 x1⟩
def t_Store_come (K : PySem.W.Frag) (E : XK) : TS :=
  (tSeq (sFld K (tVar 0) (tOp (rI0 fun i j => .int (i + j)) (tFld K (tVar 0) "last_version") (tC (.int 1))) "last_version")
    (tSeq (tDrop (tMeth (He.ga K "Shelf") "come" (sp_Shelf_come K) [] E0 (tFld K (tVar 0) "shelf") (tCons (tVar 1) (tCons (tTup (tCons (tFld K (tVar 0) "last_version") (tCons (tFld K (tVar 0) "today") (tCons (tVar 2) (tCons (tVar 3) tNil))))) tNil))))
    (tSeq (tIfS (tTest (tOp rIsNone (tVar 2) (tC .non))) (tDrop (tMeth (He.ga K "Store") "note" (sp_Store_note K) [] E0 (tVar 0) (tCons (tTup (tCons (tC (.str "gone")) (tCons (tVar 1) (tCons (tFld K (tVar 0) "last_version") (tCons (tFld K (tVar 0) "today") tNil))))) tNil))) (tDrop (tMeth (He.ga K "Store") "note" (sp_Store_note K) [] E0 (tVar 0) (tCons (tTup (tCons (tC (.str "put")) (tCons (tVar 1) (tCons (tFld K (tVar 0) "last_version") (tCons (tFld K (tVar 0) "today") (tCons (tVar 2) (tCons (tVar 3) tNil))))))) tNil))))
    (tRet (tFld K (tVar 0) "last_version")))))
theorem pure_Store_come {K : PySem.W.Frag}  {vs : List V} {H : Hp} {Q : VK} {E : XK} (h : sp_Store_come K vs H Q E) : t_Store_come K E { nx := fun _ H' => Q .non H', rt := Q } (start ["self", "key", "data", "total"] vs) H := by
  obtain ⟨B, a, L, S, key, data, v_data, total, v_total, rfl, eb, hA, hB, h_data, h_total, pre1, r⟩ := h
  obtain ⟨cf, dx, sh, up, lg, Ls, Lu, rfl, hP⟩ := hA
  refine q_fld (B := B) (evd_I0 (g := fun i j => i + j) (fev_Store_last_version (evf_var rfl)) evd_ci) (evf_var rfl) eb hP.o cf.st (by decide) (Nat.le_of_ble_eq_true rfl) fun v H1 B1 e1 x1 eb1 hv => ?_
  cases hv
  have hP1 := (hP.grow e1 x1).fld (m' := S.most) (t' := S.today) (l' := S.lastv + 1)
  have hO1 : Only (a :: lg :: (Ls ++ Lu)) H (upd H1 a (stO K dx sh up lg S.most S.today (S.lastv + 1))) := (Only.of e1).trans (Only.put (by simp))
  have hd1 : Da B1 v_data (oS data) := h_data.ex' x1.1
  have ht1 : Da B1 v_total (oS total) := h_total.ex' x1.1
  refine run_Shelf_come (row := ⟨S.lastv + 1, S.today, data, total⟩) (fev_Store_shelf (evf_var rfl) hP1 cf) (evd_varS rfl) (evd_tup (evs_cons (fev_Store_last_version (evf_var rfl) hP1 cf) (evs_cons (fev_Store_today (evf_var rfl) hP1 cf) (evs_cons (evd_var rfl hd1) (evs_cons (evd_var rfl ht1) evs_nil))))) (ex_mut eb1 (x1.out hP.o hP.ba)) hP1.hs hB.sh fun v2 H2 B2 L2 o2 f2 x2 eb2 hs2 _ => ?_
  have hP2 := hP1.shelf o2 x2 f2 hs2
  have hO2 : Only (a :: lg :: (Ls ++ Lu)) H H2 := hO1.trans (o2.mono fun p hp => by simp [hp])
  have x12 : Ext B H B2 := x1.only hO1 x2
  have fr : ∀ p ∈ a :: lg :: (L2 ++ Lu), p ∈ a :: lg :: (Ls ++ Lu) ∨ H p = none := fun p hp => by
    simp only [List.mem_cons, List.mem_append] at hp ⊢
    rcases hp with z | z | z | z
    · exact .inl (.inl z)
    · exact .inl (.inr (.inl z))
    · rcases f2 p z with c | c
      · exact .inl (.inr (.inr (.inl c)))
      · right
        cases h : H p with
        | none => rfl
        | some o => exact absurd c (hO1.d p (by rw [h]; simp))
    · exact .inl (.inr (.inr (.inr z)))
  let S2 : StS := { S with lastv := S.lastv + 1, sh := S.sh.come key ⟨S.lastv + 1, S.today, data, total⟩ }
  have hA2 : StAt K a S2 (a :: lg :: (L2 ++ Lu)) B2 H2 := ⟨cf, dx, sh, up, lg, L2, Lu, rfl, hP2⟩
  have hN2 : StN S2 := hB.nl
  have hd2 := hd1.ex' x2.1
  have ht2 := ht1.ex' x2.1
  have fin : ∀ (D : Ends) (c : Chg) (H3 : Hp), Ex H2 H3 → c = comeC key (S.lastv + 1) S.today data total → D.rt = Q → ∀ te, (∀ H4, Ex H2 H4 → EvD te [some (.ref a), some (.str key), some v_data, some v_total] B2 H4 (.tuple (chgB c))) → (tDrop (tMeth (He.ga K "Store") "note" (sp_Store_note K) [] E0 (tVar 0) (tCons te tNil))) { D with nx := tRet (tFld K (tVar 0) "last_version") D } [some (.ref a), some (.str key), some v_data, some v_total] H3 := by
    intro D c H3 e3 hc hr te hte
    have hA3 := hA2.grow e3 (Ext.refl B2 H2)
    refine run_Store_note (evf_var rfl) (hte H3 e3) (eb2.trans e3) hA3 hN2 fun v4 H4 B4 L4 o4 f4 x4 eb4 hA4 _ => ?_
    obtain ⟨_, dx4, sh4, up4, lg4, Ls4, Lu4, rfl, hP4⟩ := hA4
    have hO4 : Only (a :: lg :: (Ls ++ Lu)) H H4 := (hO2.trans (Only.of e3)).next fr o4
    have x14 : Ext B H B4 := x12.only hO2 (Ext.trans (Ext.refl _ _) e3 x4)
    refine s_ret (B := B4) (fev_Store_last_version (evf_var rfl) hP4 cf) eb4 fun w H5 B5 e5 x5 eb5 hw => ?_
    rw [hr]
    refine r w H5 B5 _ (hO4.trans (Only.of e5)) (fresh_next (hO2.trans (Only.of e3)) fr f4) (x14.only hO4 x5) eb5 ⟨cf, dx4, sh4, up4, lg4, Ls4, Lu4, rfl, ?_⟩ hw
    have := hP4.grow e5 x5
    rw [hc] at this
    exact this
  have et : EvB (tTest (tOp rIsNone (tVar 2) (tC .non))) [some (.ref a), some (.str key), some v_data, some v_total] B2 H2 (isNone (oS data)) := evb_test (evd_opIsN (evd_var rfl hd2) evd_cn)
  cases data with
  | none =>
    refine q_if (b := true) (B := B2) et eb2 (fun _ H3 e3 eb3 => ?_) (fun z => nomatch z)
    refine fin _ (.gone key (S.lastv + 1) S.today) H3 e3 rfl rfl _ fun H4 e4 => ?_
    have hP4 := hP2.grow e4 (Ext.refl B2 H2)
    exact evd_tup (evs_cons evd_cs (evs_cons (evd_varS rfl) (evs_cons (fev_Store_last_version (evf_var rfl) hP4 cf) (evs_cons (fev_Store_today (evf_var rfl) hP4 cf) evs_nil))))
  | some x =>
    obtain ⟨s, hs⟩ : ∃ s, total = some s := Option.isSome_iff_exists.mp (by rw [← pre1]; rfl)
    subst hs
    cases hd2
    cases ht2
    refine q_if (b := false) (B := B2) et eb2 (fun z => nomatch z) (fun _ H3 e3 eb3 => ?_)
    refine fin _ (.put key (S.lastv + 1) S.today x s) H3 e3 rfl rfl _ fun H4 e4 => ?_
    have hP4 := hP2.grow e4 (Ext.refl B2 H2)
    exact evd_tup (evs_cons evd_cs (evs_cons (evd_varS rfl) (evs_cons (fev_Store_last_version (evf_var rfl) hP4 cf) (evs_cons (fev_Store_today (evf_var rfl) hP4 cf) (evs_cons (evd_varS rfl) (evs_cons (evd_varS rfl) evs_nil))))))
theorem StB.c {S : StS} (h : StB S) : StC S := ⟨h.sh, h.nl⟩
def sp_Store_put (K : PySem.W.Frag) : Sp := fun vs H Q E => ∃ (B : Hp) (a : Addr) (L : List Addr) (S : StS) (key : Str) (data : Str), vs = [.ref a, .str key, .str data] ∧ Ex B H ∧ StAt K a S L B H ∧ StB S ∧ (data.length ≤ 50000) ∧ RetCX K L (StAt K a (S.put key data)) (putR S data) B H Q E
theorem len_Store_put {K : PySem.W.Frag} {vs : List V} {H : Hp} {Q : VK} {E : XK} (h : sp_Store_put K vs H Q E) : vs.length = 3 := by
  obtain ⟨_, _, _, _, _, _, rfl, _⟩ := h; rfl
theorem run_Store_put {K : PySem.W.Frag} {σ : Sig} {B H : Hp} {ta : TE} {E : XK} {a : Addr} {L : List Addr} {S : StS} {key : Str} {data : Str} {t1 : TE} {t2 : TE} {Q : VK} (ho : EvF ta σ H (.ref a)) (h1 : EvD t1 σ B H (.str key)) (h2 : EvD t2 σ B H (.str data)) (eb : Ex B H) (hA : StAt K a S L B H := by assumption) (hB : StB S := by assumption) (p1 : data.length ≤ 50000 := by first | assumption | omega | decide) (q : RetCX K L (StAt K a (S.put key data)) (putR S data) B H Q E) : tMeth (He.ga K "Store") "put" (sp_Store_put K) [] E ta (tCons t1 (tCons t2 tNil)) σ H Q := by
  obtain ⟨dx, fs, hx, hf⟩ := hA.obj
  exact run_meth ho hx (hf _ (by decide)) (evs_cons h1 (evs_cons h2 evs_nil)) eb fun H1 B1 vs e1 x1 eb1 hd => by
    obtain ⟨v1, v2, rfl, hv1, hv2⟩ := dpa2 hd
    cases hv1
    cases hv2
    exact ⟨B1, a, L, S, key, data, rfl, eb1, hA.grow e1 x1, hB, p1, q.grow e1 x1⟩
def t_Store_put (K : PySem.W.Frag) (E : XK) : TS :=
  (tSeq (tDrop (tMeth (He.ga K "Store") "must_fit" (sp_Store_must_fit K) [] E (tVar 0) (tCons (tCB rLenStr (tCons (tVar 2) tNil)) tNil)))
    (tRet (tMeth (He.ga K "Store") "come" (sp_Store_come K) [] E0 (tVar 0) (tCons (tVar 1) (tCons (tVar 2) (tCons (tCall (sp_sum_of K) [] E0 (tCons (tVar 2) tNil)) tNil))))))
theorem pure_Store_put {K : PySem.W.Frag}  {vs : List V} {H : Hp} {Q : VK} {E : XK} (h : sp_Store_put K vs H Q E) : t_Store_put K E { nx := fun _ H' => Q .non H', rt := Q } (start ["self", "key", "data"] vs) H := by
  obtain ⟨B, a, L, S, key, data, rfl, eb, hA, hB, pre1, r⟩ := h
  refine q_dropX (B := B) (mxv_Store_must_fit (evf_var (i := 0) rfl) (evd_lenS (evd_varS (i := 2) rfl) (by omega)) hA hB) eb (fun d hd H1 B1 e1 x1 eb1 => ?_) (fun c hc H1 e1 => ?_)
  · have hok : putR S data = .ok (.int (S.lastv + 1)) := by
      unfold putR
      unfold fitR at hd ⊢
      split at hd
      · rename_i hf; rw [if_pos hf]
      · cases hd
    rw [hok] at r
    have hA1 := hA.grow e1 x1
    refine run_Store_come (data := some data) (total := some (sumT data)) (evf_var rfl) (evd_varS rfl) (evd_varS rfl) (cev_sum_of (evd_varS rfl)) eb1 hA1 hB.c rfl (RetC.grow r e1 x1)
  · have hno : putR S data = .no c := by
      unfold putR
      unfold fitR at hc ⊢
      split at hc
      · cases hc
      · rename_i hf; rw [if_neg hf]; exact hc
    rw [hno] at r
    exact r H1 e1
def sp_Store_get (K : PySem.W.Frag) : Sp := fun vs H Q E => ∃ (B : Hp) (a : Addr) (L : List Addr) (S : StS) (key : Str), vs = [.ref a, .str key] ∧ Ex B H ∧ StAt K a S L B H ∧ StB S ∧ RetX K (getR S.sh key) B H Q E
theorem len_Store_get {K : PySem.W.Frag} {vs : List V} {H : Hp} {Q : VK} {E : XK} (h : sp_Store_get K vs H Q E) : vs.length = 2 := by
  obtain ⟨_, _, _, _, _, rfl, _⟩ := h; rfl
theorem mxv_Store_get {K : PySem.W.Frag} {σ : Sig} {B H : Hp} {ta : TE} {E : XK} {a : Addr} {L : List Addr} {S : StS} {key : Str} {t1 : TE} (ho : EvF ta σ H (.ref a)) (h1 : EvD t1 σ B H (.str key)) (hA : StAt K a S L B H := by assumption) (hB : StB S := by assumption) : EvX K (tMeth (He.ga K "Store") "get" (sp_Store_get K) [] E ta (tCons t1 tNil)) σ B H (getR S.sh key) E := by
  obtain ⟨dx, fs, hx, hf⟩ := hA.obj
  exact evx_meth ho hx (hf _ (by decide)) (evs_cons h1 evs_nil) fun H1 B1 vs e1 x1 eb1 hd Q q => by
    obtain ⟨v1, rfl, hv1⟩ := dpa1 hd
    cases hv1
    exact ⟨B1, a, L, S, key, rfl, eb1, hA.grow e1 x1, hB, q⟩
def t_Store_get (K : PySem.W.Frag) (E : XK) : TS :=
  (tRet (tOp (rIxT K) (tMeth (He.ga K "Shelf") "newest" (sp_Shelf_newest K) [] E (tFld K (tVar 0) "shelf") (tCons (tVar 1) tNil)) (tC (.int 2))))
theorem pure_Store_get {K : PySem.W.Frag}  {vs : List V} {H : Hp} {Q : VK} {E : XK} (h : sp_Store_get K vs H Q E) : t_Store_get K E { nx := fun _ H' => Q .non H', rt := Q } (start ["self", "key"] vs) H := by
  obtain ⟨B, a, L, S, key, rfl, eb, hA, hB, r⟩ := h
  obtain ⟨cf, dx, sh, up, lg, Ls, Lu, rfl, hP⟩ := hA
  have hx := mxv_Shelf_newest (E := E) (σ := [some (.ref a), some (.str key)]) (fev_Store_shelf (ta := tVar 0) (evf_var (i := 0) rfl) hP cf) (evd_varS (i := 1) rfl) hP.hs hB.sh
  unfold getR at r
  unfold newestR at hx
  cases hn : newest S.sh key with
  | none =>
    rw [hn] at r hx
    exact hx.no eb r
  | some row =>
    rw [hn] at r hx
    dsimp only at r hx
    cases hd : row.data with
    | none =>
      rw [hd] at r hx
      exact hx.no eb r
    | some x =>
      rw [hd] at r hx
      exact s_ret (B := B) (EvD.is (evd_ixTc hx.ok evd_ci) (by rw [hd]; rfl)) eb r
def sp_Store_versions (K : PySem.W.Frag) : Sp := fun vs H Q E => ∃ (B : Hp) (a : Addr) (L : List Addr) (S : StS) (key : Str), vs = [.ref a, .str key] ∧ Ex B H ∧ StAt K a S L B H ∧ StB S ∧ Ret (toldRows S.sh key) B H Q
theorem len_Store_versions {K : PySem.W.Frag} {vs : List V} {H : Hp} {Q : VK} {E : XK} (h : sp_Store_versions K vs H Q E) : vs.length = 2 := by
  obtain ⟨_, _, _, _, _, rfl, _⟩ := h; rfl
theorem mev_Store_versions {K : PySem.W.Frag} {σ : Sig} {B H : Hp} {ta : TE} {E : XK} {a : Addr} {L : List Addr} {S : StS} {key : Str} {t1 : TE} (ho : EvF ta σ H (.ref a)) (h1 : EvD t1 σ B H (.str key)) (hA : StAt K a S L B H := by assumption) (hB : StB S := by assumption) : EvD (tMeth (He.ga K "Store") "versions" (sp_Store_versions K) [] E ta (tCons t1 tNil)) σ B H (toldRows S.sh key) := by
  obtain ⟨dx, fs, hx, hf⟩ := hA.obj
  exact evd_meth ho hx (hf _ (by decide)) (evs_cons h1 evs_nil) fun H1 B1 vs e1 x1 eb1 hd Q q => by
    obtain ⟨v1, rfl, hv1⟩ := dpa1 hd
    cases hv1
    exact ⟨B1, a, L, S, key, rfl, eb1, hA.grow e1 x1, hB, q⟩
def t_Store_versions (K : PySem.W.Frag) (E : XK) : TS :=
  (tRet (tMeth (He.ga K "Shelf") "told_rows" (sp_Shelf_told_rows K) [] E0 (tFld K (tVar 0) "shelf") (tCons (tVar 1) tNil)))
theorem pure_Store_versions {K : PySem.W.Frag}  {vs : List V} {H : Hp} {Q : VK} {E : XK} (h : sp_Store_versions K vs H Q E) : t_Store_versions K E { nx := fun _ H' => Q .non H', rt := Q } (start ["self", "key"] vs) H := by
  obtain ⟨B, a, L, S, key, rfl, eb, hA, hB, r⟩ := h
  obtain ⟨cf, dx, sh, up, lg, Ls, Lu, rfl, hP⟩ := hA
  exact s_ret (B := B) (mev_Shelf_told_rows (fev_Store_shelf (evf_var rfl) hP cf) (evd_varS rfl) hP.hs hB.sh) eb r
def sp_Store_get_version (K : PySem.W.Frag) : Sp := fun vs H Q E => ∃ (B : Hp) (a : Addr) (L : List Addr) (S : StS) (key : Str) (version : Int), vs = [.ref a, .str key, .int version] ∧ Ex B H ∧ StAt K a S L B H ∧ StB S ∧ RetX K (dataR S.sh key version) B H Q E
theorem len_Store_get_version {K : PySem.W.Frag} {vs : List V} {H : Hp} {Q : VK} {E : XK} (h : sp_Store_get_version K vs H Q E) : vs.length = 3 := by
  obtain ⟨_, _, _, _, _, _, rfl, _⟩ := h; rfl
theorem mxv_Store_get_version {K : PySem.W.Frag} {σ : Sig} {B H : Hp} {ta : TE} {E : XK} {a : Addr} {L : List Addr} {S : StS} {key : Str} {version : Int} {t1 : TE} {t2 : TE} (ho : EvF ta σ H (.ref a)) (h1 : EvD t1 σ B H (.str key)) (h2 : EvD t2 σ B H (.int version)) (hA : StAt K a S L B H := by assumption) (hB : StB S := by assumption) : EvX K (tMeth (He.ga K "Store") "get_version" (sp_Store_get_version K) [] E ta (tCons t1 (tCons t2 tNil))) σ B H (dataR S.sh key version) E := by
  obtain ⟨dx, fs, hx, hf⟩ := hA.obj
  exact evx_meth ho hx (hf _ (by decide)) (evs_cons h1 (evs_cons h2 evs_nil)) fun H1 B1 vs e1 x1 eb1 hd Q q => by
    obtain ⟨v1, v2, rfl, hv1, hv2⟩ := dpa2 hd
    cases hv1
    cases hv2
    exact ⟨B1, a, L, S, key, version, rfl, eb1, hA.grow e1 x1, hB, q⟩
def t_Store_get_version (K : PySem.W.Frag) (E : XK) : TS :=
  (tRet (tMeth (He.ga K "Shelf") "data_of" (sp_Shelf_data_of K) [] E (tFld K (tVar 0) "shelf") (tCons (tVar 1) (tCons (tVar 2) tNil))))
theorem pure_Store_get_version {K : PySem.W.Frag}  {vs : List V} {H : Hp} {Q : VK} {E : XK} (h : sp_Store_get_version K vs H Q E) : t_Store_get_version K E { nx := fun _ H' => Q .non H', rt := Q } (start ["self", "key", "version"] vs) H := by
  obtain ⟨B, a, L, S, key, version, rfl, eb, hA, hB, r⟩ := h
  obtain ⟨cf, dx, sh, up, lg, Ls, Lu, rfl, hP⟩ := hA
  exact mxv_Shelf_data_of (fev_Store_shelf (ta := tVar 0) (evf_var (i := 0) rfl) hP cf) (evd_varS (i := 1) rfl) (evd_varI (i := 2) rfl) hP.hs hB.sh H (Ex.refl _) eb _ r
def sp_Store_held (K : PySem.W.Frag) : Sp := fun vs H Q E => ∃ (B : Hp) (a : Addr) (L : List Addr) (S : StS) (key : Str) (version : Int), vs = [.ref a, .str key, .int version] ∧ Ex B H ∧ StAt K a S L B H ∧ StB S ∧ RetX K (heldR S.sh key version) B H Q E
theorem len_Store_held {K : PySem.W.Frag} {vs : List V} {H : Hp} {Q : VK} {E : XK} (h : sp_Store_held K vs H Q E) : vs.length = 3 := by
  obtain ⟨_, _, _, _, _, _, rfl, _⟩ := h; rfl
theorem mxv_Store_held {K : PySem.W.Frag} {σ : Sig} {B H : Hp} {ta : TE} {E : XK} {a : Addr} {L : List Addr} {S : StS} {key : Str} {version : Int} {t1 : TE} {t2 : TE} (ho : EvF ta σ H (.ref a)) (h1 : EvD t1 σ B H (.str key)) (h2 : EvD t2 σ B H (.int version)) (hA : StAt K a S L B H := by assumption) (hB : StB S := by assumption) : EvX K (tMeth (He.ga K "Store") "held" (sp_Store_held K) [] E ta (tCons t1 (tCons t2 tNil))) σ B H (heldR S.sh key version) E := by
  obtain ⟨dx, fs, hx, hf⟩ := hA.obj
  exact evx_meth ho hx (hf _ (by decide)) (evs_cons h1 (evs_cons h2 evs_nil)) fun H1 B1 vs e1 x1 eb1 hd Q q => by
    obtain ⟨v1, v2, rfl, hv1, hv2⟩ := dpa2 hd
    cases hv1
    cases hv2
    exact ⟨B1, a, L, S, key, version, rfl, eb1, hA.grow e1 x1, hB, q⟩
def t_Store_held (K : PySem.W.Frag) (E : XK) : TS :=
  (tRet (tMeth (He.ga K "Shelf") "held_until" (sp_Shelf_held_until K) [] E (tFld K (tVar 0) "shelf") (tCons (tVar 1) (tCons (tVar 2) tNil))))
theorem pure_Store_held {K : PySem.W.Frag}  {vs : List V} {H : Hp} {Q : VK} {E : XK} (h : sp_Store_held K vs H Q E) : t_Store_held K E { nx := fun _ H' => Q .non H', rt := Q } (start ["self", "key", "version"] vs) H := by
  obtain ⟨B, a, L, S, key, version, rfl, eb, hA, hB, r⟩ := h
  obtain ⟨cf, dx, sh, up, lg, Ls, Lu, rfl, hP⟩ := hA
  exact mxv_Shelf_held_until (fev_Store_shelf (ta := tVar 0) (evf_var (i := 0) rfl) hP cf) (evd_varS (i := 1) rfl) (evd_varI (i := 2) rfl) hP.hs hB.sh H (Ex.refl _) eb _ r
def sp_Store_drop (K : PySem.W.Frag) : Sp := fun vs H Q E => ∃ (B : Hp) (a : Addr) (L : List Addr) (S : StS) (key : Str), vs = [.ref a, .str key] ∧ Ex B H ∧ StAt K a S L B H ∧ StB S ∧ RetCX K L (StAt K a (S.drop key)) (dropR S key) B H Q E
theorem len_Store_drop {K : PySem.W.Frag} {vs : List V} {H : Hp} {Q : VK} {E : XK} (h : sp_Store_drop K vs H Q E) : vs.length = 2 := by
  obtain ⟨_, _, _, _, _, rfl, _⟩ := h; rfl
theorem run_Store_drop {K : PySem.W.Frag} {σ : Sig} {B H : Hp} {ta : TE} {E : XK} {a : Addr} {L : List Addr} {S : StS} {key : Str} {t1 : TE} {Q : VK} (ho : EvF ta σ H (.ref a)) (h1 : EvD t1 σ B H (.str key)) (eb : Ex B H) (hA : StAt K a S L B H := by assumption) (hB : StB S := by assumption) (q : RetCX K L (StAt K a (S.drop key)) (dropR S key) B H Q E) : tMeth (He.ga K "Store") "drop" (sp_Store_drop K) [] E ta (tCons t1 tNil) σ H Q := by
  obtain ⟨dx, fs, hx, hf⟩ := hA.obj
  exact run_meth ho hx (hf _ (by decide)) (evs_cons h1 evs_nil) eb fun H1 B1 vs e1 x1 eb1 hd => by
    obtain ⟨v1, rfl, hv1⟩ := dpa1 hd
    cases hv1
    exact ⟨B1, a, L, S, key, rfl, eb1, hA.grow e1 x1, hB, q.grow e1 x1⟩
def t_Store_drop (K : PySem.W.Frag) (E : XK) : TS :=
  (tSeq (tDrop (tMeth (He.ga K "Shelf") "newest" (sp_Shelf_newest K) [] E (tFld K (tVar 0) "shelf") (tCons (tVar 1) tNil)))
    (tRet (tMeth (He.ga K "Store") "come" (sp_Store_come K) [] E0 (tVar 0) (tCons (tVar 1) (tCons (tC .non) (tCons (tC .non) tNil))))))
theorem pure_Store_drop {K : PySem.W.Frag}  {vs : List V} {H : Hp} {Q : VK} {E : XK} (h : sp_Store_drop K vs H Q E) : t_Store_drop K E { nx := fun _ H' => Q .non H', rt := Q } (start ["self", "key"] vs) H := by
  obtain ⟨B, a, L, S, key, rfl, eb, hA, hB, r⟩ := h
  have hA' := hA
  obtain ⟨cf, dx, sh, up, lg, Ls, Lu, rfl, hP⟩ := hA
  have hx := mxv_Shelf_newest (E := E) (σ := [some (.ref a), some (.str key)]) (fev_Store_shelf (ta := tVar 0) (evf_var (i := 0) rfl) hP cf) (evd_varS (i := 1) rfl) hP.hs hB.sh
  unfold dropR getR at r
  unfold newestR at hx
  cases hn : newest S.sh key with
  | none =>
    rw [hn] at r hx
    exact hx.no eb r
  | some row =>
    rw [hn] at r hx
    dsimp only at r hx
    cases hd : row.data with
    | none =>
      rw [hd] at r hx
      exact hx.no eb r
    | some x =>
      rw [hd] at r hx
      refine q_drop (B := B) hx.ok eb fun H1 B1 e1 x1 eb1 => ?_
      exact run_Store_come (data := none) (total := none) (evf_var rfl) (evd_varS rfl) evd_cn evd_cn eb1 (hA'.grow e1 x1) hB.c rfl (RetC.grow r e1 x1)
theorem test_no {K : PySem.W.Frag} {σ : Sig} {B H : Hp} {ta tb : TE} {n : Int} {c : Str} {E : XK} {r2 : R2} {tx tz : TS} {D : Ends} (ha : EvD ta σ B H (.int n)) (hx : EvX K tb σ B H (.no c) E) (eb : Ex B H) (r : ∀ H', Ex H H' → E (.ref (He.ga K c)) none H') : tSeq (tIfS (tTest (tOp r2 ta tb)) tx tNext) tz D σ H :=
  ha.flat (fun _ _ => dpi) (Ex.refl _) eb (Q := fun x H1 => tb σ H1 fun y H2 => r2 x y H2 fun v H3 => ∃ b, v = .bl b ∧ if b = true then tx { D with nx := tz D } σ H3 else tNext { D with nx := tz D } σ H3) fun H1 e1 => hx H1 e1 (eb.trans e1) _ fun H2 e2 => r H2 (e1.trans e2)
theorem StAt.sub {K : PySem.W.Frag} {a dx sh up lg : Addr} {Ls Lu Ls' Lu' : List Addr} {H : Hp} (f1 : ∀ p ∈ Ls', p ∈ Ls ∨ H p = none) (f2 : ∀ p ∈ Lu', p ∈ Lu ∨ H p = none) : ∀ p ∈ a :: lg :: (Ls' ++ Lu'), p ∈ a :: lg :: (Ls ++ Lu) ∨ H p = none := fun p hp => by
  simp only [List.mem_cons, List.mem_append] at hp ⊢
  rcases hp with z | z | z | z
  · exact .inl (.inl z)
  · exact .inl (.inr (.inl z))
  · exact (f1 p z).imp (fun c => .inr (.inr (.inl c))) id
  · exact (f2 p z).imp (fun c => .inr (.inr (.inr c))) id
def sp_Store_drop_version (K : PySem.W.Frag) : Sp := fun vs H Q E => ∃ (B : Hp) (a : Addr) (L : List Addr) (S : StS) (key : Str) (version : Int), vs = [.ref a, .str key, .int version] ∧ Ex B H ∧ StAt K a S L B H ∧ StB S ∧ RetCX K L (StAt K a (S.leave key version)) (leaveR S key version) B H Q E
theorem len_Store_drop_version {K : PySem.W.Frag} {vs : List V} {H : Hp} {Q : VK} {E : XK} (h : sp_Store_drop_version K vs H Q E) : vs.length = 3 := by
  obtain ⟨_, _, _, _, _, _, rfl, _⟩ := h; rfl
theorem run_Store_drop_version {K : PySem.W.Frag} {σ : Sig} {B H : Hp} {ta : TE} {E : XK} {a : Addr} {L : List Addr} {S : StS} {key : Str} {version : Int} {t1 : TE} {t2 : TE} {Q : VK} (ho : EvF ta σ H (.ref a)) (h1 : EvD t1 σ B H (.str key)) (h2 : EvD t2 σ B H (.int version)) (eb : Ex B H) (hA : StAt K a S L B H := by assumption) (hB : StB S := by assumption) (q : RetCX K L (StAt K a (S.leave key version)) (leaveR S key version) B H Q E) : tMeth (He.ga K "Store") "drop_version" (sp_Store_drop_version K) [] E ta (tCons t1 (tCons t2 tNil)) σ H Q := by
  obtain ⟨dx, fs, hx, hf⟩ := hA.obj
  exact run_meth ho hx (hf _ (by decide)) (evs_cons h1 (evs_cons h2 evs_nil)) eb fun H1 B1 vs e1 x1 eb1 hd => by
    obtain ⟨v1, v2, rfl, hv1, hv2⟩ := dpa2 hd
    cases hv1
    cases hv2
    exact ⟨B1, a, L, S, key, version, rfl, eb1, hA.grow e1 x1, hB, q.grow e1 x1⟩
def t_Store_drop_version (K : PySem.W.Frag) (E : XK) : TS :=
  (tSeq (tIfS (tTest (tOp (rI0 fun i j => .bl (decide (i < j))) (tFld K (tVar 0) "today") (tMeth (He.ga K "Shelf") "held_until" (sp_Shelf_held_until K) [] E (tFld K (tVar 0) "shelf") (tCons (tVar 1) (tCons (tVar 2) tNil))))) (tRs (He.ga K "Held") E) tNext)
    (tSeq (tDrop (tMeth (He.ga K "Shelf") "leave" (sp_Shelf_leave K) [] E0 (tFld K (tVar 0) "shelf") (tCons (tVar 1) (tCons (tVar 2) tNil))))
    (tDrop (tMeth (He.ga K "Store") "note" (sp_Store_note K) [] E0 (tVar 0) (tCons (tTup (tCons (tC (.str "drop")) (tCons (tVar 1) (tCons (tVar 2) tNil)))) tNil)))))
theorem pure_Store_drop_version {K : PySem.W.Frag}  {vs : List V} {H : Hp} {Q : VK} {E : XK} (h : sp_Store_drop_version K vs H Q E) : t_Store_drop_version K E { nx := fun _ H' => Q .non H', rt := Q } (start ["self", "key", "version"] vs) H := by
  obtain ⟨B, a, L, S, key, version, rfl, eb, hA, hB, r⟩ := h
  have hA' := hA
  obtain ⟨cf, dx, sh, up, lg, Ls, Lu, rfl, hP⟩ := hA
  have hx := mxv_Shelf_held_until (E := E) (σ := [some (.ref a), some (.str key), some (.int version)]) (fev_Store_shelf (ta := tVar 0) (evf_var (i := 0) rfl) hP cf) (evd_varS (i := 1) rfl) (evd_varI (i := 2) rfl) hP.hs hB.sh
  have ht := fev_Store_today (σ := [some (.ref a), some (.str key), some (.int version)]) (ta := tVar 0) (evf_var (i := 0) rfl) hP cf
  unfold heldR at hx
  unfold leaveR at r
  cases hn : rowOf S.sh key version with
  | none =>
    rw [hn] at r hx
    exact test_no ht hx eb r
  | some row =>
    rw [hn] at r hx
    dsimp only at r
    refine q_when (B := B) (evb_test (evd_B0 (g := fun i j => decide (i < j)) ht hx.ok)) eb (fun hb H1 e1 eb1 => ?_) (fun hb H1 e1 eb1 => ?_)
    · rw [if_pos (of_decide_eq_true hb)] at r
      exact r H1 e1
    · rw [if_neg (of_decide_eq_false hb)] at r
      have hP1 := hP.grow e1 (Ext.refl B H)
      refine run_Shelf_leave (fev_Store_shelf (evf_var rfl) hP1 cf) (evd_varS rfl) (evd_varI rfl) eb1 hP1.hs hB.sh fun v2 H2 B2 L2 o2 f2 x2 eb2 hs2 _ => ?_
      have hP2 := hP1.shelf o2 x2 f2 hs2
      have hO2 : Only (a :: lg :: (Ls ++ Lu)) H H2 := (Only.of e1).trans (o2.mono fun p hp => by simp [hp])
      have x12 : Ext B H B2 := Ext.trans (Ext.refl _ _) e1 x2
      have fr := StAt.sub (K := K) (a := a) (dx := dx) (sh := sh) (up := up) (lg := lg) (fresh_sub e1 f2) (fun (p : Addr) (hp : p ∈ Lu) => (Or.inl hp : p ∈ Lu ∨ H p = none))
      refine run_Store_note (change := .drop key version) (S := { S with sh := S.sh.leave key version }) (evf_var rfl) (evd_tup (evs_cons evd_cs (evs_cons (evd_varS rfl) (evs_cons (evd_varI rfl) evs_nil)))) eb2 ⟨cf, dx, sh, up, lg, L2, Lu, rfl, hP2⟩ hB.nl fun v4 H4 B4 L4 o4 f4 x4 eb4 hA4 hv4 => ?_
      cases hv4
      exact r _ H4 B4 L4 (hO2.next fr o4) (fresh_next hO2 fr f4) (x12.only hO2 x4) eb4 hA4 .non
def sp_Store_put_if (K : PySem.W.Frag) : Sp := fun vs H Q E => ∃ (B : Hp) (a : Addr) (L : List Addr) (S : StS) (key : Str) (data : Str) (last : Option Int) (v_last : V), vs = [.ref a, .str key, .str data, v_last] ∧ Ex B H ∧ StAt K a S L B H ∧ StB S ∧ Da B v_last (oI last) ∧ (data.length ≤ 50000) ∧ RetCX K L (StAt K a (S.put key data)) (putIfR S key data last) B H Q E
theorem len_Store_put_if {K : PySem.W.Frag} {vs : List V} {H : Hp} {Q : VK} {E : XK} (h : sp_Store_put_if K vs H Q E) : vs.length = 4 := by
  obtain ⟨_, _, _, _, _, _, _, _, rfl, _⟩ := h; rfl
theorem run_Store_put_if {K : PySem.W.Frag} {σ : Sig} {B H : Hp} {ta : TE} {E : XK} {a : Addr} {L : List Addr} {S : StS} {key : Str} {data : Str} {last : Option Int} {t1 : TE} {t2 : TE} {t3 : TE} {Q : VK} (ho : EvF ta σ H (.ref a)) (h1 : EvD t1 σ B H (.str key)) (h2 : EvD t2 σ B H (.str data)) (h3 : EvD t3 σ B H (oI last)) (eb : Ex B H) (hA : StAt K a S L B H := by assumption) (hB : StB S := by assumption) (p1 : data.length ≤ 50000 := by first | assumption | omega | decide) (q : RetCX K L (StAt K a (S.put key data)) (putIfR S key data last) B H Q E) : tMeth (He.ga K "Store") "put_if" (sp_Store_put_if K) [] E ta (tCons t1 (tCons t2 (tCons t3 tNil))) σ H Q := by
  obtain ⟨dx, fs, hx, hf⟩ := hA.obj
  exact run_meth ho hx (hf _ (by decide)) (evs_cons h1 (evs_cons h2 (evs_cons h3 evs_nil))) eb fun H1 B1 vs e1 x1 eb1 hd => by
    obtain ⟨v1, v2, v3, rfl, hv1, hv2, hv3⟩ := dpa3 hd
    cases hv1
    cases hv2
    exact ⟨B1, a, L, S, key, data, last, v3, rfl, eb1, hA.grow e1 x1, hB, hv3, p1, q.grow e1 x1⟩
def t_Store_put_if (K : PySem.W.Frag) (E : XK) : TS :=
  (tSeq (tAsg (tMeth (He.ga K "Store") "versions" (sp_Store_versions K) [] E0 (tVar 0) (tCons (tVar 1) tNil)) (gName 4))
    (tSeq (tIfS (tAnd (tTest (tOp rIsNone (tVar 3) (tC .non))) (tB (tMeth (He.ga K "Shelf") "is_there" (sp_Shelf_is_there K) [] E0 (tFld K (tVar 0) "shelf") (tCons (tVar 1) tNil)))) (tRs (He.ga K "Changed") E) tNext)
    (tSeq (tIfS (tAnd (tTest (tOp rNotNone (tVar 3) (tC .non))) (tOr (tNot (tTruth K (tVar 4))) (tTest (tOp rNe (tOp (rIxT K) (tOp (rIxT K) (tVar 4) (tC (.int 0))) (tC (.int 0))) (tVar 3))))) (tRs (He.ga K "Changed") E) tNext)
    (tRet (tMeth (He.ga K "Store") "put" (sp_Store_put K) [] E (tVar 0) (tCons (tVar 1) (tCons (tVar 2) tNil)))))))
theorem pure_Store_put_if {K : PySem.W.Frag}  {vs : List V} {H : Hp} {Q : VK} {E : XK} (h : sp_Store_put_if K vs H Q E) : t_Store_put_if K E { nx := fun _ H' => Q .non H', rt := Q } (start ["self", "key", "data", "last", "some"] vs) H := by
  obtain ⟨B, a, L, S, key, data, last, v_last, rfl, eb, hA, hB, h_last, pre1, r⟩ := h
  have hA' := hA
  refine q_asg (B := B) (mev_Store_versions (evf_var rfl) (evd_varS rfl) hA hB) eb fun v H1 B1 e1 x1 eb1 hv => ?_
  have hA1 := hA'.grow e1 x1
  have hA1' := hA1
  obtain ⟨cf, dx, sh, up, lg, Ls, Lu, rfl, hP⟩ := hA1
  have hl1 := h_last.ex' x1.1
  unfold putIfR at r
  have nn : ∀ H, EvB (tTest (tOp rIsNone (tVar 3) (tC .non))) [some (.ref a), some (.str key), some (.str data), some v_last, some v] B1 H (isNone (oI last)) := fun H => evb_test (evd_opIsN (evd_var rfl hl1) evd_cn)
  have nn' : ∀ H, EvB (tTest (tOp rNotNone (tVar 3) (tC .non))) [some (.ref a), some (.str key), some (.str data), some v_last, some v] B1 H (!isNone (oI last)) := fun H => evb_test (evd_opNotN (evd_var rfl hl1) evd_cn)
  have fin : ∀ H2, Ex H1 H2 → (isLast S key last = true) → tRet (tMeth (He.ga K "Store") "put" (sp_Store_put K) [] E (tVar 0) (tCons (tVar 1) (tCons (tVar 2) tNil))) { nx := fun _ H' => Q .non H', rt := Q } [some (.ref a), some (.str key), some (.str data), some v_last, some v] H2 := by
    intro H2 e2 hlast
    rw [if_pos hlast] at r
    exact run_Store_put (evf_var rfl) (evd_varS rfl) (evd_varS rfl) (eb1.trans e2) (hA1'.grow e2 (Ext.refl _ _)) hB pre1 (RetCX.grow r (e1.trans e2) (Ext.trans x1 e1 (Ext.refl _ _)))
  cases last with
  | none =>
    have hth : EvB (tB (tMeth (He.ga K "Shelf") "is_there" (sp_Shelf_is_there K) [] E0 (tFld K (tVar 0) "shelf") (tCons (tVar 1) tNil))) [some (.ref a), some (.str key), some (.str data), some v_last, some v] B1 H1 (isThere S.sh key) := evb_B (mev_Shelf_is_there (fev_Store_shelf (evf_var rfl) hP cf) (evd_varS rfl) hP.hs hB.sh)
    refine q_when (B := B1) (b := isThere S.sh key) (EvB.is (evb_and (nn H1) fun _ => hth) (Bool.true_and _)) eb1 (fun hb H2 e2 eb2 => ?_) (fun hb H2 e2 eb2 => ?_)
    · rw [if_neg (by unfold isLast; rw [hb]; simp)] at r
      exact r H2 (e1.trans e2)
    · refine q_pass (B := B1) (evb_and (b := false) (nn' H2) (fun z => nomatch z)) eb2 fun H3 e3 eb3 => ?_
      exact fin H3 (e2.trans e3) (by unfold isLast; rw [hb]; rfl)
  | some n =>
    refine q_pass (B := B1) (evb_and (b := false) (nn H1) (fun z => nomatch z)) eb1 fun H2 e2 eb2 => ?_
    cases hl1
    cases hn : newest S.sh key with
    | none =>
      have h0 : rowsOf S.sh key = [] := List.getLast?_eq_none_iff.mp hn
      have ht0 : toldRows S.sh key = .tuple [] := by unfold toldRows; rw [h0]; rfl
      rw [ht0] at hv
      refine q_when (b := true) (B := B1) (EvB.is (evb_and (b := true) (nn' H2) fun _ => evb_or (b := true) (evb_not (evb_tru (evd_var rfl hv) (fun x z => nomatch z))) (fun z => nomatch z)) rfl) eb2 (fun _ H3 e3 eb3 => ?_) (fun z => nomatch z)
      rw [if_neg (by unfold isLast; rw [hn]; simp)] at r
      exact r H3 ((e1.trans e2).trans e3)
    | some row =>
      obtain ⟨rest, hrest⟩ : ∃ rest, (rowsOf S.sh key).reverse = row :: rest := by
        unfold newest at hn
        rw [← List.head?_reverse] at hn
        cases h : (rowsOf S.sh key).reverse with
        | nil => rw [h] at hn; cases hn
        | cons p q => rw [h] at hn; cases hn; exact ⟨q, rfl⟩
      have ht0 : toldRows S.sh key = .tuple (toldD row :: rest.map toldD) := by unfold toldRows; rw [hrest]; rfl
      rw [ht0] at hv
      have hne : EvD (tOp rNe (tOp (rIxT K) (tOp (rIxT K) (tVar 4) (tC (.int 0))) (tC (.int 0))) (tVar 3)) [some (.ref a), some (.str key), some (.str data), some (.int n), some v] B1 H2 (.bool (!decide (row.v = n))) := evd_neI (evd_ixTc (evd_ixT (d := toldD row) (evd_var rfl hv) evd_ci (atI_nat' (by decide) rfl)) evd_ci) (evd_varI rfl)
      refine q_when (b := !decide (row.v = n)) (B := B1) (EvB.is (evb_and (b := !decide (row.v = n)) (nn' H2) fun _ => EvB.is (evb_or (b := !decide (row.v = n)) (evb_not (evb_tru (evd_var rfl hv) (fun x z => nomatch z))) fun _ => evb_test hne) (Bool.false_or _)) (Bool.true_and _)) eb2 (fun hb H3 e3 eb3 => ?_) (fun hb H3 e3 eb3 => ?_)
      · rw [if_neg (by unfold isLast; rw [hn]; simpa using hb)] at r
        exact r H3 ((e1.trans e2).trans e3)
      · exact fin H3 (e2.trans e3) (by unfold isLast; rw [hn]; simpa using hb)
def sp_Store_copy (K : PySem.W.Frag) : Sp := fun vs H Q E => ∃ (B : Hp) (a : Addr) (L : List Addr) (S : StS) (key : Str) (version : Int) (other : Str), vs = [.ref a, .str key, .int version, .str other] ∧ Ex B H ∧ StAt K a S L B H ∧ StB S ∧ RetCX K L (StAt K a (S.copy key version other)) (copyR S key version) B H Q E
theorem len_Store_copy {K : PySem.W.Frag} {vs : List V} {H : Hp} {Q : VK} {E : XK} (h : sp_Store_copy K vs H Q E) : vs.length = 4 := by
  obtain ⟨_, _, _, _, _, _, _, rfl, _⟩ := h; rfl
theorem run_Store_copy {K : PySem.W.Frag} {σ : Sig} {B H : Hp} {ta : TE} {E : XK} {a : Addr} {L : List Addr} {S : StS} {key : Str} {version : Int} {other : Str} {t1 : TE} {t2 : TE} {t3 : TE} {Q : VK} (ho : EvF ta σ H (.ref a)) (h1 : EvD t1 σ B H (.str key)) (h2 : EvD t2 σ B H (.int version)) (h3 : EvD t3 σ B H (.str other)) (eb : Ex B H) (hA : StAt K a S L B H := by assumption) (hB : StB S := by assumption) (q : RetCX K L (StAt K a (S.copy key version other)) (copyR S key version) B H Q E) : tMeth (He.ga K "Store") "copy" (sp_Store_copy K) [] E ta (tCons t1 (tCons t2 (tCons t3 tNil))) σ H Q := by
  obtain ⟨dx, fs, hx, hf⟩ := hA.obj
  exact run_meth ho hx (hf _ (by decide)) (evs_cons h1 (evs_cons h2 (evs_cons h3 evs_nil))) eb fun H1 B1 vs e1 x1 eb1 hd => by
    obtain ⟨v1, v2, v3, rfl, hv1, hv2, hv3⟩ := dpa3 hd
    cases hv1
    cases hv2
    cases hv3
    exact ⟨B1, a, L, S, key, version, other, rfl, eb1, hA.grow e1 x1, hB, q.grow e1 x1⟩
def t_Store_copy (K : PySem.W.Frag) (E : XK) : TS :=
  (tSeq (tAsg (tMeth (He.ga K "Shelf") "data_of" (sp_Shelf_data_of K) [] E (tFld K (tVar 0) "shelf") (tCons (tVar 1) (tCons (tVar 2) tNil))) (gName 4))
    (tSeq (tDrop (tMeth (He.ga K "Store") "must_fit" (sp_Store_must_fit K) [] E (tVar 0) (tCons (tCB rLenStr (tCons (tVar 4) tNil)) tNil)))
    (tRet (tMeth (He.ga K "Store") "come" (sp_Store_come K) [] E0 (tVar 0) (tCons (tVar 3) (tCons (tVar 4) (tCons (tOp (rIxT K) (tMeth (He.ga K "Shelf") "row_of" (sp_Shelf_row_of K) [] E (tFld K (tVar 0) "shelf") (tCons (tVar 1) (tCons (tVar 2) tNil))) (tC (.int 3))) tNil)))))))
theorem pure_Store_copy {K : PySem.W.Frag}  {vs : List V} {H : Hp} {Q : VK} {E : XK} (h : sp_Store_copy K vs H Q E) : t_Store_copy K E { nx := fun _ H' => Q .non H', rt := Q } (start ["self", "key", "version", "other", "data"] vs) H := by
  obtain ⟨B, a, L, S, key, version, other, rfl, eb, hA, hB, r⟩ := h
  have hA' := hA
  obtain ⟨cf, dx, sh, up, lg, Ls, Lu, rfl, hP⟩ := hA
  have hx := mxv_Shelf_data_of (E := E) (σ := [some (.ref a), some (.str key), some (.int version), some (.str other), none]) (fev_Store_shelf (ta := tVar 0) (evf_var (i := 0) rfl) hP cf) (evd_varS (i := 1) rfl) (evd_varI (i := 2) rfl) hP.hs hB.sh
  unfold copyR StS.copy at r
  unfold dataR at hx
  cases hn : rowOf S.sh key version with
  | none =>
    rw [hn] at r hx
    exact hx.no eb r
  | some row =>
    rw [hn] at r hx
    dsimp only at r hx
    obtain ⟨hmem, hver⟩ := rowOf_mem hn
    cases hd : row.data with
    | none =>
      rw [hd] at r hx
      exact hx.no eb r
    | some x =>
      rw [hd] at r hx
      have hlx : x.length ≤ 50000 := hB.sh.data hmem hd
      have hro := hB.row hmem
      unfold RowOk at hro
      rw [hd] at hro
      refine q_asgS (B := B) hx.ok eb fun H1 e1 eb1 => ?_
      have hA1 := hA'.grow e1 (Ext.refl B H)
      refine q_dropX (B := B) (mxv_Store_must_fit (evf_var (i := 0) rfl) (evd_lenS (evd_varS (i := 4) rfl) (by omega)) hA1 hB) eb1 (fun d hd2 H2 B2 e2 x2 eb2 => ?_) (fun c hc H2 e2 => ?_)
      · have hok : putR S x = .ok (.int (S.lastv + 1)) := by
          unfold putR
          unfold fitR at hd2 ⊢
          split at hd2
          · rename_i hf; rw [if_pos hf]
          · cases hd2
        dsimp only at r
        rw [hok] at r
        have hA2 := hA1.grow e2 x2
        have hP2 := (hP.grow e1 (Ext.refl B H)).grow e2 x2
        have hrow := mxv_Shelf_row_of (K := K) (E := E) (σ := [some (.ref a), some (.str key), some (.int version), some (.str other), some (.str x)]) (fev_Store_shelf (ta := tVar 0) (evf_var (i := 0) rfl) hP2 cf) (evd_varS (i := 1) rfl) (evd_varI (i := 2) rfl) hP2.hs hB.sh
        unfold rowR at hrow
        rw [hn] at hrow
        exact run_Store_come (data := some x) (total := row.sum) (evf_var rfl) (evd_varS rfl) (evd_varS rfl) (evd_ixTc hrow.ok evd_ci) eb2 hA2 hB.c hro (RetC.grow r (e1.trans e2) (Ext.trans (Ext.refl _ _) e1 x2))
      · have hno : putR S x = .no c := by
          unfold putR
          unfold fitR at hc ⊢
          split at hc
          · cases hc
          · rename_i hf; rw [if_neg hf]; exact hc
        dsimp only at r
        rw [hno] at r
        exact r H2 (e1.trans e2)
def sp_Store_begin (K : PySem.W.Frag) : Sp := fun vs H Q E => ∃ (B : Hp) (a : Addr) (L : List Addr) (S : StS) (key : Str), vs = [.ref a, .str key] ∧ Ex B H ∧ StAt K a S L B H ∧ StB S ∧ RetC L (StAt K a (S.begin key)) (.int (S.up.last + 1)) B H Q
theorem len_Store_begin {K : PySem.W.Frag} {vs : List V} {H : Hp} {Q : VK} {E : XK} (h : sp_Store_begin K vs H Q E) : vs.length = 2 := by
  obtain ⟨_, _, _, _, _, rfl, _⟩ := h; rfl
theorem run_Store_begin {K : PySem.W.Frag} {σ : Sig} {B H : Hp} {ta : TE} {E : XK} {a : Addr} {L : List Addr} {S : StS} {key : Str} {t1 : TE} {Q : VK} (ho : EvF ta σ H (.ref a)) (h1 : EvD t1 σ B H (.str key)) (eb : Ex B H) (hA : StAt K a S L B H := by assumption) (hB : StB S := by assumption) (q : RetC L (StAt K a (S.begin key)) (.int (S.up.last + 1)) B H Q) : tMeth (He.ga K "Store") "begin" (sp_Store_begin K) [] E ta (tCons t1 tNil) σ H Q := by
  obtain ⟨dx, fs, hx, hf⟩ := hA.obj
  exact run_meth ho hx (hf _ (by decide)) (evs_cons h1 evs_nil) eb fun H1 B1 vs e1 x1 eb1 hd => by
    obtain ⟨v1, rfl, hv1⟩ := dpa1 hd
    cases hv1
    exact ⟨B1, a, L, S, key, rfl, eb1, hA.grow e1 x1, hB, q.grow e1 x1⟩
def t_Store_begin (K : PySem.W.Frag) (E : XK) : TS :=
  (tRet (tMeth (He.ga K "Uploads") "begin" (sp_Uploads_begin K) [] E0 (tFld K (tVar 0) "sending") (tCons (tVar 1) (tCons (tFld K (tVar 0) "today") tNil))))
theorem pure_Store_begin {K : PySem.W.Frag}  {vs : List V} {H : Hp} {Q : VK} {E : XK} (h : sp_Store_begin K vs H Q E) : t_Store_begin K E { nx := fun _ H' => Q .non H', rt := Q } (start ["self", "key"] vs) H := by
  obtain ⟨B, a, L, S, key, rfl, eb, hA, hB, r⟩ := h
  obtain ⟨cf, dx, sh, up, lg, Ls, Lu, rfl, hP⟩ := hA
  refine run_Uploads_begin (fev_Store_sending (evf_var rfl) hP cf) (evd_varS rfl) (fev_Store_today (evf_var rfl) hP cf) eb hP.hu hB.up fun v2 H2 B2 L2 o2 f2 x2 eb2 hs2 hv => ?_
  exact r v2 H2 B2 _ (o2.mono fun p hp => by simp [hp]) (StAt.sub (K := K) (a := a) (dx := dx) (sh := sh) (up := up) (lg := lg) (fun p hp => .inl hp) f2) x2 eb2 ⟨cf, dx, sh, up, lg, Ls, L2, rfl, hP.ups o2 x2 f2 hs2⟩ hv
def sp_Store_sent (K : PySem.W.Frag) : Sp := fun vs H Q E => ∃ (B : Hp) (a : Addr) (L : List Addr) (S : StS) (upload : Int), vs = [.ref a, .int upload] ∧ Ex B H ∧ StAt K a S L B H ∧ StB S ∧ RetX K (openR S.up upload (sentD (partsOf S.up upload))) B H Q E
theorem len_Store_sent {K : PySem.W.Frag} {vs : List V} {H : Hp} {Q : VK} {E : XK} (h : sp_Store_sent K vs H Q E) : vs.length = 2 := by
  obtain ⟨_, _, _, _, _, rfl, _⟩ := h; rfl
theorem mxv_Store_sent {K : PySem.W.Frag} {σ : Sig} {B H : Hp} {ta : TE} {E : XK} {a : Addr} {L : List Addr} {S : StS} {upload : Int} {t1 : TE} (ho : EvF ta σ H (.ref a)) (h1 : EvD t1 σ B H (.int upload)) (hA : StAt K a S L B H := by assumption) (hB : StB S := by assumption) : EvX K (tMeth (He.ga K "Store") "sent" (sp_Store_sent K) [] E ta (tCons t1 tNil)) σ B H (openR S.up upload (sentD (partsOf S.up upload))) E := by
  obtain ⟨dx, fs, hx, hf⟩ := hA.obj
  exact evx_meth ho hx (hf _ (by decide)) (evs_cons h1 evs_nil) fun H1 B1 vs e1 x1 eb1 hd Q q => by
    obtain ⟨v1, rfl, hv1⟩ := dpa1 hd
    cases hv1
    exact ⟨B1, a, L, S, upload, rfl, eb1, hA.grow e1 x1, hB, q⟩
def t_Store_sent (K : PySem.W.Frag) (E : XK) : TS :=
  (tRet (tMeth (He.ga K "Uploads") "sent" (sp_Uploads_sent K) [] E (tFld K (tVar 0) "sending") (tCons (tVar 1) tNil)))
theorem pure_Store_sent {K : PySem.W.Frag}  {vs : List V} {H : Hp} {Q : VK} {E : XK} (h : sp_Store_sent K vs H Q E) : t_Store_sent K E { nx := fun _ H' => Q .non H', rt := Q } (start ["self", "upload"] vs) H := by
  obtain ⟨B, a, L, S, upload, rfl, eb, hA, hB, r⟩ := h
  obtain ⟨cf, dx, sh, up, lg, Ls, Lu, rfl, hP⟩ := hA
  exact mxv_Uploads_sent (fev_Store_sending (ta := tVar 0) (evf_var (i := 0) rfl) hP cf) (evd_varI (i := 1) rfl) hP.hu hB.up H (Ex.refl _) eb _ r
def sp_Store_cancel (K : PySem.W.Frag) : Sp := fun vs H Q E => ∃ (B : Hp) (a : Addr) (L : List Addr) (S : StS) (upload : Int), vs = [.ref a, .int upload] ∧ Ex B H ∧ StAt K a S L B H ∧ StB S ∧ RetCX K L (StAt K a (S.cancel upload)) (openR S.up upload .none) B H Q E
theorem len_Store_cancel {K : PySem.W.Frag} {vs : List V} {H : Hp} {Q : VK} {E : XK} (h : sp_Store_cancel K vs H Q E) : vs.length = 2 := by
  obtain ⟨_, _, _, _, _, rfl, _⟩ := h; rfl
theorem run_Store_cancel {K : PySem.W.Frag} {σ : Sig} {B H : Hp} {ta : TE} {E : XK} {a : Addr} {L : List Addr} {S : StS} {upload : Int} {t1 : TE} {Q : VK} (ho : EvF ta σ H (.ref a)) (h1 : EvD t1 σ B H (.int upload)) (eb : Ex B H) (hA : StAt K a S L B H := by assumption) (hB : StB S := by assumption) (q : RetCX K L (StAt K a (S.cancel upload)) (openR S.up upload .none) B H Q E) : tMeth (He.ga K "Store") "cancel" (sp_Store_cancel K) [] E ta (tCons t1 tNil) σ H Q := by
  obtain ⟨dx, fs, hx, hf⟩ := hA.obj
  exact run_meth ho hx (hf _ (by decide)) (evs_cons h1 evs_nil) eb fun H1 B1 vs e1 x1 eb1 hd => by
    obtain ⟨v1, rfl, hv1⟩ := dpa1 hd
    cases hv1
    exact ⟨B1, a, L, S, upload, rfl, eb1, hA.grow e1 x1, hB, q.grow e1 x1⟩
def t_Store_cancel (K : PySem.W.Frag) (E : XK) : TS :=
  (tDrop (tMeth (He.ga K "Uploads") "close" (sp_Uploads_close K) [] E (tFld K (tVar 0) "sending") (tCons (tVar 1) tNil)))
theorem pure_Store_cancel {K : PySem.W.Frag}  {vs : List V} {H : Hp} {Q : VK} {E : XK} (h : sp_Store_cancel K vs H Q E) : t_Store_cancel K E { nx := fun _ H' => Q .non H', rt := Q } (start ["self", "upload"] vs) H := by
  obtain ⟨B, a, L, S, upload, rfl, eb, hA, hB, r⟩ := h
  obtain ⟨cf, dx, sh, up, lg, Ls, Lu, rfl, hP⟩ := hA
  refine run_Uploads_close (fev_Store_sending (evf_var rfl) hP cf) (evd_varI rfl) eb hP.hu hB.up ?_
  unfold openR at r ⊢
  by_cases ho : isOpen S.up upload = true
  · rw [if_pos ho] at r ⊢
    intro v2 H2 B2 L2 o2 f2 x2 eb2 hs2 hv
    cases hv
    exact r _ H2 B2 _ (o2.mono fun p hp => by simp [hp]) (StAt.sub (K := K) (a := a) (dx := dx) (sh := sh) (up := up) (lg := lg) (fun p hp => .inl hp) f2) x2 eb2 ⟨cf, dx, sh, up, lg, Ls, L2, rfl, hP.ups o2 x2 f2 hs2⟩ .non
  · rw [if_neg ho] at r ⊢
    exact r
def sp_Store_uploads (K : PySem.W.Frag) : Sp := fun vs H Q E => ∃ (B : Hp) (a : Addr) (L : List Addr) (S : StS), vs = [.ref a] ∧ Ex B H ∧ StAt K a S L B H ∧ StB S ∧ Ret (uploadsD S.up) B H Q
theorem len_Store_uploads {K : PySem.W.Frag} {vs : List V} {H : Hp} {Q : VK} {E : XK} (h : sp_Store_uploads K vs H Q E) : vs.length = 1 := by
  obtain ⟨_, _, _, _, rfl, _⟩ := h; rfl
theorem mev_Store_uploads {K : PySem.W.Frag} {σ : Sig} {B H : Hp} {ta : TE} {E : XK} {a : Addr} {L : List Addr} {S : StS} (ho : EvF ta σ H (.ref a)) (hA : StAt K a S L B H := by assumption) (hB : StB S := by assumption) : EvD (tMeth (He.ga K "Store") "uploads" (sp_Store_uploads K) [] E ta tNil) σ B H (uploadsD S.up) := by
  obtain ⟨dx, fs, hx, hf⟩ := hA.obj
  exact evd_meth ho hx (hf _ (by decide)) evs_nil fun H1 B1 vs e1 x1 eb1 hd Q q => by
    cases hd
    exact ⟨B1, a, L, S, rfl, eb1, hA.grow e1 x1, hB, q⟩
def t_Store_uploads (K : PySem.W.Frag) (E : XK) : TS :=
  (tRet (tMeth (He.ga K "Uploads") "told" (sp_Uploads_told K) [] E0 (tFld K (tVar 0) "sending") tNil))
theorem pure_Store_uploads {K : PySem.W.Frag}  {vs : List V} {H : Hp} {Q : VK} {E : XK} (h : sp_Store_uploads K vs H Q E) : t_Store_uploads K E { nx := fun _ H' => Q .non H', rt := Q } (start ["self"] vs) H := by
  obtain ⟨B, a, L, S, rfl, eb, hA, hB, r⟩ := h
  obtain ⟨cf, dx, sh, up, lg, Ls, Lu, rfl, hP⟩ := hA
  exact s_ret (B := B) (mev_Uploads_told (fev_Store_sending (evf_var rfl) hP cf) hP.hu hB.up) eb r
def sp_Store_send (K : PySem.W.Frag) : Sp := fun vs H Q E => ∃ (B : Hp) (a : Addr) (L : List Addr) (S : StS) (upload : Int) (number : Int) (data : Str), vs = [.ref a, .int upload, .int number, .str data] ∧ Ex B H ∧ StAt K a S L B H ∧ StB S ∧ (data.length ≤ 50000) ∧ RetCX K L (StAt K a (S.send upload number data)) (sendR S upload number data) B H Q E
theorem len_Store_send {K : PySem.W.Frag} {vs : List V} {H : Hp} {Q : VK} {E : XK} (h : sp_Store_send K vs H Q E) : vs.length = 4 := by
  obtain ⟨_, _, _, _, _, _, _, rfl, _⟩ := h; rfl
theorem run_Store_send {K : PySem.W.Frag} {σ : Sig} {B H : Hp} {ta : TE} {E : XK} {a : Addr} {L : List Addr} {S : StS} {upload : Int} {number : Int} {data : Str} {t1 : TE} {t2 : TE} {t3 : TE} {Q : VK} (ho : EvF ta σ H (.ref a)) (h1 : EvD t1 σ B H (.int upload)) (h2 : EvD t2 σ B H (.int number)) (h3 : EvD t3 σ B H (.str data)) (eb : Ex B H) (hA : StAt K a S L B H := by assumption) (hB : StB S := by assumption) (p1 : data.length ≤ 50000 := by first | assumption | omega | decide) (q : RetCX K L (StAt K a (S.send upload number data)) (sendR S upload number data) B H Q E) : tMeth (He.ga K "Store") "send" (sp_Store_send K) [] E ta (tCons t1 (tCons t2 (tCons t3 tNil))) σ H Q := by
  obtain ⟨dx, fs, hx, hf⟩ := hA.obj
  exact run_meth ho hx (hf _ (by decide)) (evs_cons h1 (evs_cons h2 (evs_cons h3 evs_nil))) eb fun H1 B1 vs e1 x1 eb1 hd => by
    obtain ⟨v1, v2, v3, rfl, hv1, hv2, hv3⟩ := dpa3 hd
    cases hv1
    cases hv2
    cases hv3
    exact ⟨B1, a, L, S, upload, number, data, rfl, eb1, hA.grow e1 x1, hB, p1, q.grow e1 x1⟩
def t_Store_send (K : PySem.W.Frag) (E : XK) : TS :=
  (tSeq (tDrop (tMeth (He.ga K "Uploads") "must_be_open" (sp_Uploads_must_be_open K) [] E (tFld K (tVar 0) "sending") (tCons (tVar 1) tNil)))
    (tSeq (tIfS (tNot (tTest (tChain (rI0 fun i j => .bl (decide (i ≤ j))) (rI0 fun i j => .bl (decide (i ≤ j))) (tC (.int 1)) (tVar 2) (tC (.int 99))))) (tRs (He.ga K "BadPart") E) tNext)
    (tSeq (tDrop (tMeth (He.ga K "Store") "must_fit" (sp_Store_must_fit K) [] E (tVar 0) (tCons (tOp (rI0 fun i j => .int (i - j)) (tCB rLenStr (tCons (tVar 3) tNil)) (tMeth (He.ga K "Uploads") "size_of" (sp_Uploads_size_of K) [] E0 (tFld K (tVar 0) "sending") (tCons (tVar 1) (tCons (tVar 2) tNil)))) tNil)))
    (tRet (tMeth (He.ga K "Uploads") "send" (sp_Uploads_send K) [] E0 (tFld K (tVar 0) "sending") (tCons (tVar 1) (tCons (tVar 2) (tCons (tVar 3) tNil))))))))
theorem pure_Store_send {K : PySem.W.Frag}  {vs : List V} {H : Hp} {Q : VK} {E : XK} (h : sp_Store_send K vs H Q E) : t_Store_send K E { nx := fun _ H' => Q .non H', rt := Q } (start ["self", "upload", "number", "data"] vs) H := by
  obtain ⟨B, a, L, S, upload, number, data, rfl, eb, hA, hB, pre1, r⟩ := h
  have hA' := hA
  obtain ⟨cf, dx, sh, up, lg, Ls, Lu, rfl, hP⟩ := hA
  unfold sendR at r
  refine q_dropX (B := B) (mxv_Uploads_must_be_open (fev_Store_sending (ta := tVar 0) (evf_var (i := 0) rfl) hP cf) (evd_varI (i := 1) rfl) hP.hu hB.up) eb (fun d hd H1 B1 e1 x1 eb1 => ?_) (fun c hc H1 e1 => ?_)
  · unfold openR at hd
    by_cases ho : isOpen S.up upload = true
    · rw [if_pos ho] at r
      refine q_when (B := B1) (evb_not (evb_test (evd_chain evd_ci (evd_varI rfl) evd_ci))) eb1 (fun hb H2 e2 eb2 => ?_) (fun hb H2 e2 eb2 => ?_)
      · rw [if_neg (by
          rintro ⟨z1, z2⟩
          rw [decide_eq_true z1, decide_eq_true z2] at hb
          cases hb)] at r
        exact r H2 (e1.trans e2)
      · have hb' : 1 ≤ number ∧ number ≤ 99 := by
          rw [Bool.not_eq_false', Bool.and_eq_true] at hb
          exact ⟨of_decide_eq_true hb.1, of_decide_eq_true hb.2⟩
        rw [if_pos hb'] at r
        have x12 : Ext B H B1 := x1
        have hA2 := (hA'.grow e1 x1).grow e2 (Ext.refl _ _)
        have hP2 := (hP.grow e1 x1).grow e2 (Ext.refl _ _)
        refine q_dropX (B := B1) (mxv_Store_must_fit (evf_var (i := 0) rfl) (evd_I0 (g := fun i j => i - j) (evd_lenS (evd_varS (i := 3) rfl) (by omega)) (mev_Uploads_size_of (fev_Store_sending (ta := tVar 0) (evf_var (i := 0) rfl) hP2 cf) (evd_varI (i := 1) rfl) (evd_varI (i := 2) rfl) hP2.hu hB.up ho)) hA2 hB) eb2 (fun d hd2 H3 B3 e3 x3 eb3 => ?_) (fun c hc H3 e3 => ?_)
        · unfold fitR at hd2 r
          split at hd2
          · rename_i hf
            rw [if_pos hf] at r
            have hP3 := hP2.grow e3 x3
            have e123 := (e1.trans e2).trans e3
            have x13 : Ext B H B3 := Ext.trans x1 (e1.trans e2) x3
            refine run_Uploads_send (fev_Store_sending (evf_var rfl) hP3 cf) (evd_varI rfl) (evd_varI rfl) (evd_varS rfl) eb3 hP3.hu hB.up ho fun v4 H4 B4 L4 o4 f4 x4 eb4 hs4 hv => ?_
            exact (RetC.grow r e123 x13) v4 H4 B4 _ (o4.mono fun p hp => by simp [hp]) (StAt.sub (K := K) (a := a) (dx := dx) (sh := sh) (up := up) (lg := lg) (fun p hp => .inl hp) f4) x4 eb4 ⟨cf, dx, sh, up, lg, Ls, L4, rfl, hP3.ups o4 x4 f4 hs4⟩ hv
          · cases hd2
        · unfold fitR at hc r
          split at hc
          · cases hc
          · rename_i hf
            rw [if_neg hf] at r
            cases hc
            exact r H3 ((e1.trans e2).trans e3)
    · rw [if_neg ho] at hd; cases hd
  · unfold openR at hc
    by_cases ho : isOpen S.up upload = true
    · rw [if_pos ho] at hc; cases hc
    · rw [if_neg ho] at hc r; cases hc; exact r H1 e1
def sp_Store_finish (K : PySem.W.Frag) : Sp := fun vs H Q E => ∃ (B : Hp) (a : Addr) (L : List Addr) (S : StS) (upload : Int) (rows : Parts) (v_rows : V), vs = [.ref a, .int upload, v_rows] ∧ Ex B H ∧ StAt K a S L B H ∧ StB S ∧ Da B v_rows (pairsD rows) ∧ (rows.length ≤ 1000) ∧ RetCX K L (StAt K a (S.finish upload rows)) (finishR S upload rows) B H Q E
theorem len_Store_finish {K : PySem.W.Frag} {vs : List V} {H : Hp} {Q : VK} {E : XK} (h : sp_Store_finish K vs H Q E) : vs.length = 3 := by
  obtain ⟨_, _, _, _, _, _, _, rfl, _⟩ := h; rfl
theorem run_Store_finish {K : PySem.W.Frag} {σ : Sig} {B H : Hp} {ta : TE} {E : XK} {a : Addr} {L : List Addr} {S : StS} {upload : Int} {rows : Parts} {t1 : TE} {t2 : TE} {Q : VK} (ho : EvF ta σ H (.ref a)) (h1 : EvD t1 σ B H (.int upload)) (h2 : EvD t2 σ B H (pairsD rows)) (eb : Ex B H) (hA : StAt K a S L B H := by assumption) (hB : StB S := by assumption) (p1 : rows.length ≤ 1000 := by first | assumption | omega | decide) (q : RetCX K L (StAt K a (S.finish upload rows)) (finishR S upload rows) B H Q E) : tMeth (He.ga K "Store") "finish" (sp_Store_finish K) [] E ta (tCons t1 (tCons t2 tNil)) σ H Q := by
  obtain ⟨dx, fs, hx, hf⟩ := hA.obj
  exact run_meth ho hx (hf _ (by decide)) (evs_cons h1 (evs_cons h2 evs_nil)) eb fun H1 B1 vs e1 x1 eb1 hd => by
    obtain ⟨v1, v2, rfl, hv1, hv2⟩ := dpa2 hd
    cases hv1
    exact ⟨B1, a, L, S, upload, rows, v2, rfl, eb1, hA.grow e1 x1, hB, hv2, p1, q.grow e1 x1⟩
def t_Store_finish (K : PySem.W.Frag) (E : XK) : TS :=
  (tSeq (tAsg (tMeth (He.ga K "Uploads") "joint" (sp_Uploads_joint K) [] E (tFld K (tVar 0) "sending") (tCons (tVar 1) (tCons (tVar 2) tNil))) (gTup K 3 (gCons (gName 3) (gCons (gName 4) (gCons (gName 5) gNil)))))
    (tSeq (tDrop (tMeth (He.ga K "Uploads") "close" (sp_Uploads_close K) [] E (tFld K (tVar 0) "sending") (tCons (tVar 1) tNil)))
    (tRet (tMeth (He.ga K "Store") "come" (sp_Store_come K) [] E0 (tVar 0) (tCons (tVar 3) (tCons (tVar 4) (tCons (tVar 5) tNil)))))))
theorem pure_Store_finish {K : PySem.W.Frag}  {vs : List V} {H : Hp} {Q : VK} {E : XK} (h : sp_Store_finish K vs H Q E) : t_Store_finish K E { nx := fun _ H' => Q .non H', rt := Q } (start ["self", "upload", "rows", "key", "data", "total"] vs) H := by
  obtain ⟨B, a, L, S, upload, rows, v_rows, rfl, eb, hA, hB, h_rows, pre1, r⟩ := h
  have hA' := hA
  obtain ⟨cf, dx, sh, up, lg, Ls, Lu, rfl, hP⟩ := hA
  have hx := mxv_Uploads_joint (E := E) (σ := [some (.ref a), some (.int upload), some v_rows, none, none, none]) (fev_Store_sending (ta := tVar 0) (evf_var (i := 0) rfl) hP cf) (evd_varI (i := 1) rfl) (evd_var (i := 2) rfl h_rows) hP.hu hB.up pre1
  unfold jointR at hx
  unfold finishR StS.finish at r
  cases hj : joint S.up upload rows with
  | no c =>
    rw [hj] at r hx
    exact hx.no eb r
  | ok k x s =>
    rw [hj] at r hx
    have ho : isOpen S.up upload = true := by
      unfold joint at hj
      unfold isOpen
      cases h : aGet S.up.opn upload with
      | none => rw [h] at hj; cases hj
      | some _ => rfl
    refine hx.ok.run eb fun v H1 B1 e1 x1 eb1 hv => ?_
    refine tg3 hv eb1 fun v1 v2 v3 q1 q2 q3 => ?_
    cases q1
    cases q2
    cases q3
    have hP1 := hP.grow e1 x1
    refine run_Uploads_close (fev_Store_sending (evf_var rfl) hP1 cf) (evd_varI rfl) eb1 hP1.hu hB.up ?_
    unfold openR
    rw [if_pos ho]
    intro v2 H2 B2 L2 o2 f2 x2 eb2 hs2 _
    have hP2 := hP1.ups o2 x2 f2 hs2
    have hO2 : Only (a :: lg :: (Ls ++ Lu)) H H2 := (Only.of e1).trans (o2.mono fun p hp => by simp [hp])
    have x12 : Ext B H B2 := Ext.trans x1 e1 x2
    have fr := StAt.sub (K := K) (a := a) (dx := dx) (sh := sh) (up := up) (lg := lg) (fun (p : Addr) (hp : p ∈ Ls) => (Or.inl hp : p ∈ Ls ∨ H p = none)) (fresh_sub e1 f2)
    refine run_Store_come (S := S.cancel upload) (data := some x) (total := some s) (evf_var rfl) (evd_varS rfl) (evd_varS rfl) (evd_varS rfl) eb2 ⟨cf, dx, sh, up, lg, Ls, L2, rfl, hP2⟩ ⟨hB.sh, hB.nl⟩ rfl fun v4 H4 B4 L4 o4 f4 x4 eb4 hA4 hv4 => ?_
    exact r v4 H4 B4 L4 (hO2.next fr o4) (fresh_next hO2 fr f4) (x12.only hO2 x4) eb4 hA4 hv4
def sp_Store_hold (K : PySem.W.Frag) : Sp := fun vs H Q E => ∃ (B : Hp) (a : Addr) (L : List Addr) (S : StS) (key : Str) (version : Int) (until_ : Int), vs = [.ref a, .str key, .int version, .int until_] ∧ Ex B H ∧ StAt K a S L B H ∧ StB S ∧ RetCX K L (StAt K a (S.hold key version until_)) (sHoldR S key version) B H Q E
theorem len_Store_hold {K : PySem.W.Frag} {vs : List V} {H : Hp} {Q : VK} {E : XK} (h : sp_Store_hold K vs H Q E) : vs.length = 4 := by
  obtain ⟨_, _, _, _, _, _, _, rfl, _⟩ := h; rfl
theorem run_Store_hold {K : PySem.W.Frag} {σ : Sig} {B H : Hp} {ta : TE} {E : XK} {a : Addr} {L : List Addr} {S : StS} {key : Str} {version : Int} {until_ : Int} {t1 : TE} {t2 : TE} {t3 : TE} {Q : VK} (ho : EvF ta σ H (.ref a)) (h1 : EvD t1 σ B H (.str key)) (h2 : EvD t2 σ B H (.int version)) (h3 : EvD t3 σ B H (.int until_)) (eb : Ex B H) (hA : StAt K a S L B H := by assumption) (hB : StB S := by assumption) (q : RetCX K L (StAt K a (S.hold key version until_)) (sHoldR S key version) B H Q E) : tMeth (He.ga K "Store") "hold" (sp_Store_hold K) [] E ta (tCons t1 (tCons t2 (tCons t3 tNil))) σ H Q := by
  obtain ⟨dx, fs, hx, hf⟩ := hA.obj
  exact run_meth ho hx (hf _ (by decide)) (evs_cons h1 (evs_cons h2 (evs_cons h3 evs_nil))) eb fun H1 B1 vs e1 x1 eb1 hd => by
    obtain ⟨v1, v2, v3, rfl, hv1, hv2, hv3⟩ := dpa3 hd
    cases hv1
    cases hv2
    cases hv3
    exact ⟨B1, a, L, S, key, version, until_, rfl, eb1, hA.grow e1 x1, hB, q.grow e1 x1⟩
def t_Store_hold (K : PySem.W.Frag) (E : XK) : TS :=
  (tDrop (tMeth (He.ga K "Store") "note" (sp_Store_note K) [] E0 (tVar 0) (tCons (tTup (tCons (tC (.str "hold")) (tCons (tVar 1) (tCons (tVar 2) (tCons (tMeth (He.ga K "Shelf") "hold" (sp_Shelf_hold K) [] E (tFld K (tVar 0) "shelf") (tCons (tVar 1) (tCons (tVar 2) (tCons (tVar 3) tNil)))) tNil))))) tNil)))
theorem pure_Store_hold {K : PySem.W.Frag}  {vs : List V} {H : Hp} {Q : VK} {E : XK} (h : sp_Store_hold K vs H Q E) : t_Store_hold K E { nx := fun _ H' => Q .non H', rt := Q } (start ["self", "key", "version", "until"] vs) H := by
  obtain ⟨B, a, L, S, key, version, until_, rfl, eb, hA, hB, r⟩ := h
  have hA' := hA
  obtain ⟨cf, dx, sh, up, lg, Ls, Lu, rfl, hP⟩ := hA
  refine ⟨_, rfl, a, dx, _, rfl, hP.o, lookup_none (L := stF) rfl (by decide), ?_⟩
  refine ⟨_, rfl, _, rfl, ?_⟩
  refine run_Shelf_hold (K := K) (σ := [some (.ref a), some (.str key), some (.int version), some (.int until_)]) (fev_Store_shelf (ta := tVar 0) (evf_var (i := 0) rfl) hP cf) (evd_varS (i := 1) rfl) (evd_varI (i := 2) rfl) (evd_varI (i := 3) rfl) eb hP.hs hB.sh ?_
  unfold holdR
  unfold sHoldR at r
  cases hn : rowOf S.sh key version with
  | none =>
    rw [hn] at r
    exact r
  | some row =>
    rw [hn] at r
    intro v2 H2 B2 L2 o2 f2 x2 eb2 hs2 hv2
    cases hv2
    refine ⟨by show 4 ≤ _; decide, fun p hp => ?_⟩
    have hP2 := hP.shelf o2 x2 f2 hs2
    have e3 : Ex H2 (upd H2 p (.tup [.str "hold", .str key, .int version, .int (max until_ (untOf S.sh key version))])) := Ex.new hp
    have x3 : Ext B2 H2 (upd B2 p (.tup [.str "hold", .str key, .int version, .int (max until_ (untOf S.sh key version))])) := Ext.new eb2 hp
    have hP3 := hP2.grow e3 x3
    have hO2 : Only (a :: lg :: (Ls ++ Lu)) H H2 := o2.mono fun p hp => by simp [hp]
    have fr := StAt.sub (K := K) (a := a) (dx := dx) (sh := sh) (up := up) (lg := lg) f2 (fun (p : Addr) (hp : p ∈ Lu) => (Or.inl hp : p ∈ Lu ∨ H p = none))
    refine ⟨_, a, _, { S with sh := S.sh.hold key version until_ }, .hold key version (max until_ (untOf S.sh key version)), .ref p, rfl, ex_upd2 eb2, ⟨cf, dx, sh, up, lg, L2, Lu, rfl, hP3⟩, hB.nl, .tup upd_same (.cons (.str _) (.cons (.str _) (.cons (.int _) (.cons (.int _) .nil)))), ?_⟩
    intro v4 H4 B4 L4 o4 f4 x4 eb4 hA4 hv4
    cases hv4
    have hO3 := hO2.trans (Only.of e3)
    exact r _ H4 B4 L4 (hO3.next fr o4) (fresh_next hO3 fr f4) ((x2.only hO2 x3).only hO3 x4) eb4 hA4 .non
def sp_Store_changes (K : PySem.W.Frag) : Sp := fun vs H Q E => ∃ (B : Hp) (a : Addr) (L : List Addr) (S : StS) (after : Int), vs = [.ref a, .int after] ∧ Ex B H ∧ StAt K a S L B H ∧ StB S ∧ Ret (changesD S after) B H Q
theorem len_Store_changes {K : PySem.W.Frag} {vs : List V} {H : Hp} {Q : VK} {E : XK} (h : sp_Store_changes K vs H Q E) : vs.length = 2 := by
  obtain ⟨_, _, _, _, _, rfl, _⟩ := h; rfl
theorem mev_Store_changes {K : PySem.W.Frag} {σ : Sig} {B H : Hp} {ta : TE} {E : XK} {a : Addr} {L : List Addr} {S : StS} {after : Int} {t1 : TE} (ho : EvF ta σ H (.ref a)) (h1 : EvD t1 σ B H (.int after)) (hA : StAt K a S L B H := by assumption) (hB : StB S := by assumption) : EvD (tMeth (He.ga K "Store") "changes" (sp_Store_changes K) [] E ta (tCons t1 tNil)) σ B H (changesD S after) := by
  obtain ⟨dx, fs, hx, hf⟩ := hA.obj
  exact evd_meth ho hx (hf _ (by decide)) (evs_cons h1 evs_nil) fun H1 B1 vs e1 x1 eb1 hd Q q => by
    obtain ⟨v1, rfl, hv1⟩ := dpa1 hd
    cases hv1
    exact ⟨B1, a, L, S, after, rfl, eb1, hA.grow e1 x1, hB, q⟩
def t_Store_changes (K : PySem.W.Frag) (E : XK) : TS :=
  (tRet (tCB (rTupleOf K) (tCons (tSl (rSlL K) (tFld K (tVar 0) "log") (tPart (tVar 1)) tNoPart) tNil)))
theorem pure_Store_changes {K : PySem.W.Frag}  {vs : List V} {H : Hp} {Q : VK} {E : XK} (h : sp_Store_changes K vs H Q E) : t_Store_changes K E { nx := fun _ H' => Q .non H', rt := Q } (start ["self", "after"] vs) H := by
  obtain ⟨B, a, L, S, after, rfl, eb, hA, hB, r⟩ := h
  obtain ⟨cf, dx, sh, up, lg, Ls, Lu, rfl, hP⟩ := hA
  exact s_ret (B := B) (evd_tupSl (fev_Store_log (evf_var rfl) hP cf) (evd_varI rfl) hP.hl) eb r
def sp_Store_listing (K : PySem.W.Frag) : Sp := fun vs H Q E => ∃ (B : Hp) (a : Addr) (L : List Addr) (S : StS) (pre : Str) (mark : Str) (after : Str) (most : Nat) (v_most : V), vs = [.ref a, .str pre, .str mark, .str after, v_most] ∧ Ex B H ∧ StAt K a S L B H ∧ StB S ∧ Da B v_most (.int (most : Int)) ∧ (mkOk mark) ∧ Ret (pageD (keysThere S.sh) pre mark after most) B H Q
theorem len_Store_listing {K : PySem.W.Frag} {vs : List V} {H : Hp} {Q : VK} {E : XK} (h : sp_Store_listing K vs H Q E) : vs.length = 5 := by
  obtain ⟨_, _, _, _, _, _, _, _, _, rfl, _⟩ := h; rfl
theorem mev_Store_listing {K : PySem.W.Frag} {σ : Sig} {B H : Hp} {ta : TE} {E : XK} {a : Addr} {L : List Addr} {S : StS} {pre : Str} {mark : Str} {after : Str} {most : Nat} {t1 : TE} {t2 : TE} {t3 : TE} {t4 : TE} (ho : EvF ta σ H (.ref a)) (h1 : EvD t1 σ B H (.str pre)) (h2 : EvD t2 σ B H (.str mark)) (h3 : EvD t3 σ B H (.str after)) (h4 : EvD t4 σ B H (.int (most : Int))) (hA : StAt K a S L B H := by assumption) (hB : StB S := by assumption) (p1 : mkOk mark := by first | assumption | omega | decide) : EvD (tMeth (He.ga K "Store") "listing" (sp_Store_listing K) [] E ta (tCons t1 (tCons t2 (tCons t3 (tCons t4 tNil))))) σ B H (pageD (keysThere S.sh) pre mark after most) := by
  obtain ⟨dx, fs, hx, hf⟩ := hA.obj
  exact evd_meth ho hx (hf _ (by decide)) (evs_cons h1 (evs_cons h2 (evs_cons h3 (evs_cons h4 evs_nil)))) fun H1 B1 vs e1 x1 eb1 hd Q q => by
    obtain ⟨v1, v2, v3, v4, rfl, hv1, hv2, hv3, hv4⟩ := dpa4 hd
    cases hv1
    cases hv2
    cases hv3
    exact ⟨B1, a, L, S, pre, mark, after, most, v4, rfl, eb1, hA.grow e1 x1, hB, hv4, p1, q⟩
def t_Store_listing (K : PySem.W.Frag) (E : XK) : TS :=
  (tRet (tCall (sp_listed K) [] E0 (tCons (tMeth (He.ga K "Shelf") "keys_there" (sp_Shelf_keys_there K) [] E0 (tFld K (tVar 0) "shelf") tNil) (tCons (tVar 1) (tCons (tVar 2) (tCons (tVar 3) (tCons (tVar 4) tNil)))))))
theorem pure_Store_listing {K : PySem.W.Frag}  {vs : List V} {H : Hp} {Q : VK} {E : XK} (h : sp_Store_listing K vs H Q E) : t_Store_listing K E { nx := fun _ H' => Q .non H', rt := Q } (start ["self", "prefix", "mark", "after", "most"] vs) H := by
  obtain ⟨B, a, L, S, pre, mark, after, most, v_most, rfl, eb, hA, hB, h_most, pre1, r⟩ := h
  obtain ⟨cf, dx, sh, up, lg, Ls, Lu, rfl, hP⟩ := hA
  cases h_most
  have hk := hB.sh.nk
  refine s_ret (B := B) (cev_listed (mev_Shelf_keys_there (fev_Store_shelf (evf_var rfl) hP cf) hP.hs hB.sh) (evd_varS rfl) (evd_varS rfl) (evd_varS rfl) (evd_varI rfl) pre1 ?_ ?_) eb r
  · have h1 : (keysThere S.sh).length ≤ (srtS (S.sh.rows.map (·.1))).length := List.length_filter_le _ _
    rw [(srt_perm _).length_eq, List.length_map] at h1
    omega
  · intro k hk'
    have h1 := (List.mem_filter.mp hk').1
    have h2 := (srt_perm _).mem_iff.mp h1
    obtain ⟨p, hp, rfl⟩ := List.mem_map.mp h2
    exact hB.sh.kl p hp
def sp_Store_get_range (K : PySem.W.Frag) : Sp := fun vs H Q E => ∃ (B : Hp) (a : Addr) (L : List Addr) (S : StS) (key : Str) (text : Str), vs = [.ref a, .str key, .str text] ∧ Ex B H ∧ StAt K a S L B H ∧ StB S ∧ (text.length ≤ 1000) ∧ RetX K (rangeR S.sh key text) B H Q E
theorem len_Store_get_range {K : PySem.W.Frag} {vs : List V} {H : Hp} {Q : VK} {E : XK} (h : sp_Store_get_range K vs H Q E) : vs.length = 3 := by
  obtain ⟨_, _, _, _, _, _, rfl, _⟩ := h; rfl
theorem mxv_Store_get_range {K : PySem.W.Frag} {σ : Sig} {B H : Hp} {ta : TE} {E : XK} {a : Addr} {L : List Addr} {S : StS} {key : Str} {text : Str} {t1 : TE} {t2 : TE} (ho : EvF ta σ H (.ref a)) (h1 : EvD t1 σ B H (.str key)) (h2 : EvD t2 σ B H (.str text)) (hA : StAt K a S L B H := by assumption) (hB : StB S := by assumption) (p1 : text.length ≤ 1000 := by first | assumption | omega | decide) : EvX K (tMeth (He.ga K "Store") "get_range" (sp_Store_get_range K) [] E ta (tCons t1 (tCons t2 tNil))) σ B H (rangeR S.sh key text) E := by
  obtain ⟨dx, fs, hx, hf⟩ := hA.obj
  exact evx_meth ho hx (hf _ (by decide)) (evs_cons h1 (evs_cons h2 evs_nil)) fun H1 B1 vs e1 x1 eb1 hd Q q => by
    obtain ⟨v1, v2, rfl, hv1, hv2⟩ := dpa2 hd
    cases hv1
    cases hv2
    exact ⟨B1, a, L, S, key, text, rfl, eb1, hA.grow e1 x1, hB, p1, q⟩
def t_Store_get_range (K : PySem.W.Frag) (E : XK) : TS :=
  (tSeq (tAsg (tMeth (He.ga K "Store") "get" (sp_Store_get K) [] E (tVar 0) (tCons (tVar 1) tNil)) (gName 3))
    (tSeq (tAsg (tCall (sp_read_range K) [] E (tCons (tVar 2) (tCons (tCB rLenStr (tCons (tVar 3) tNil)) tNil))) (gTup K 2 (gCons (gName 4) (gCons (gName 5) gNil))))
    (tRet (tSl rSlS (tVar 3) (tPart (tVar 4)) (tPart (tOp (rI0 fun i j => .int (i + j)) (tVar 4) (tVar 5)))))))
theorem pure_Store_get_range {K : PySem.W.Frag}  {vs : List V} {H : Hp} {Q : VK} {E : XK} (h : sp_Store_get_range K vs H Q E) : t_Store_get_range K E { nx := fun _ H' => Q .non H', rt := Q } (start ["self", "key", "text", "data", "begin", "many"] vs) H := by
  obtain ⟨B, a, L, S, key, text, rfl, eb, hA, hB, pre1, r⟩ := h
  have hx := mxv_Store_get (K := K) (E := E) (σ := [some (.ref a), some (.str key), some (.str text), none, none, none]) (evf_var (i := 0) rfl) (evd_varS (i := 1) rfl) hA hB
  unfold rangeR at r
  cases hg : getR S.sh key with
  | no c =>
    rw [hg] at r hx
    exact hx.no eb r
  | ok d =>
    obtain ⟨y, rfl, hy⟩ : ∃ y, d = .str y ∧ y.length ≤ 50000 := by
      unfold getR at hg
      cases hn : newest S.sh key with
      | none => rw [hn] at hg; cases hg
      | some row =>
        rw [hn] at hg
        dsimp only at hg
        cases hd : row.data with
        | none => rw [hd] at hg; cases hg
        | some y => rw [hd] at hg; cases hg; exact ⟨y, rfl, hB.sh.data (List.mem_of_getLast? hn) hd⟩
    rw [hg] at r hx
    dsimp only at r
    refine q_asgS (B := B) hx.ok eb fun H1 e1 eb1 => ?_
    have hrr : EvX K (tCall (sp_read_range K) [] E (tCons (tVar 2) (tCons (tCB rLenStr (tCons (tVar 3) tNil)) tNil))) [some (.ref a), some (.str key), some (.str text), some (.str y), none, none] B H1 (resR (readR (tl text) (y.length : Nat))) E := evx_call (evs_cons (evd_varS rfl) (evs_cons (evd_lenS (evd_varS rfl) (by omega)) evs_nil)) fun H2 B2 vs _ _ eb2 hd Q q => by
      obtain ⟨v, u, rfl, hv, hu⟩ := dpa2 hd
      cases hv
      cases hu
      exact ⟨B2, text, _, eb2, rfl, pre1, q⟩
    cases hr : readR (tl text) (y.length : Nat) with
    | none =>
      rw [hr] at r hrr
      exact hrr.no eb1 fun H2 e2 => r H2 (e1.trans e2)
    | some bm =>
      obtain ⟨b, m⟩ := bm
      rw [hr] at r hrr
      refine hrr.ok.run eb1 fun v H2 B2 e2 x2 eb2 hv => ?_
      refine tg2 hv eb2 fun v1 v2 q1 q2 => ?_
      cases q1
      cases q2
      exact s_ret (B := B2) (evd_slS (evd_varS rfl) (evo_some (evd_varI rfl)) (evo_some (evd_I0 (g := fun i j => i + j) (evd_varI rfl) (evd_varI rfl))) (by omega)) eb2 (Ret.grow r (e1.trans e2) (Ext.trans (Ext.refl _ _) e1 x2))
def sp_Store_init (K : PySem.W.Frag) : Sp := fun vs H Q E => ∃ (B : Hp) (a dx : Addr) (m : Int), vs = [.ref a, .int m] ∧ Ex B H ∧ B a = none ∧ CfS K ∧ H a = some (.ins (He.ga K "Store") dx []) ∧ RetC [a] (StAt K a (StS.new m)) .none B H Q
theorem len_Store_init {K : PySem.W.Frag} {vs : List V} {H : Hp} {Q : VK} {E : XK} (h : sp_Store_init K vs H Q E) : vs.length = 2 := by
  obtain ⟨_, _, _, _, rfl, _⟩ := h; rfl
def t_Store_init (K : PySem.W.Frag) (E : XK) : TS :=
  (tSeq (sFld K (tVar 0) (tVar 1) "most")
    (tSeq (sFld K (tVar 0) (tC (.int 0)) "today")
    (tSeq (sFld K (tVar 0) (tC (.int 0)) "last_version")
    (tSeq (sFld K (tVar 0) (tMake (He.ga K "Shelf") (sp_Shelf_init K) [] E0 tNil) "shelf")
    (tSeq (sFld K (tVar 0) (tMake (He.ga K "Uploads") (sp_Uploads_init K) [] E0 tNil) "sending")
    (sFld K (tVar 0) (tLst tNil) "log"))))))
theorem pure_Store_init {K : PySem.W.Frag}  {vs : List V} {H : Hp} {Q : VK} {E : XK} (h : sp_Store_init K vs H Q E) : t_Store_init K E { nx := fun _ H' => Q .non H', rt := Q } (start ["self", "most"] vs) H := by
  obtain ⟨B, a, dx, m, rfl, eb, ba, cf, ha, r⟩ := h
  refine ⟨_, rfl, _, rfl, a, _, dx, [], rfl, ha, cf.st.c, cf.st.f _ (by decide), (by decide), ?_⟩
  refine ⟨_, rfl, a, _, dx, _, rfl, upd_same, cf.st.c, cf.st.f _ (by decide), Nat.lt_of_succ_le (Nat.le_of_ble_eq_true rfl), ?_⟩
  refine ⟨_, rfl, a, _, dx, _, rfl, upd_same, cf.st.c, cf.st.f _ (by decide), Nat.lt_of_succ_le (Nat.le_of_ble_eq_true rfl), ?_⟩
  rw [upd_upd, upd_upd]
  let o3 : HO := .ins (He.ga K "Store") dx [("most", .int m), ("today", .int 0), ("last_version", .int 0)]
  have hO3 : Only [a] H (upd H a o3) := Only.put (by simp)
  have eb3 : Ex B (upd H a o3) := ex_mut eb ba
  dsimp only
  refine q_fldV ?_
  refine mk_Shelf (B := B) (H := upd H a o3) cf.sh eb3 fun sh H4 B4 Ls e4 f4 x4 eb4 hs4 => ?_
  have ha4 : H4 a = some o3 := e4 _ _ upd_same
  refine ⟨_, rfl, a, _, dx, _, rfl, ha4, cf.st.c, cf.st.f _ (by decide), Nat.lt_of_succ_le (Nat.le_of_ble_eq_true rfl), ?_⟩
  let o4 : HO := .ins (He.ga K "Store") dx [("most", .int m), ("today", .int 0), ("last_version", .int 0), ("shelf", .ref sh)]
  have b4 : B4 a = none := x4.out (upd_same (H := H) (a := a) (o := o3)) ba
  have nas : a ∉ Ls := fun z => by have := f4 a z; rw [upd_same] at this; cases this
  refine q_fldV ?_
  refine mk_Uploads (B := B4) (H := upd H4 a o4) cf.up (ex_mut eb4 b4) fun up H5 B5 Lu e5 f5 x5 eb5 hu5 => ?_
  have ha5 : H5 a = some o4 := e5 _ _ upd_same
  refine ⟨_, rfl, a, _, dx, _, rfl, ha5, cf.st.c, cf.st.f _ (by decide), Nat.lt_of_succ_le (Nat.le_of_ble_eq_true rfl), ?_⟩
  let o5 : HO := .ins (He.ga K "Store") dx [("most", .int m), ("today", .int 0), ("last_version", .int 0), ("shelf", .ref sh), ("sending", .ref up)]
  have b5 : B5 a = none := x5.out (upd_same (H := H4) (a := a) (o := o4)) b4
  have nau : a ∉ Lu := fun z => by have := f5 a z; rw [upd_same] at this; cases this
  refine ⟨Nat.zero_le _, fun lg hlg => ?_⟩
  have nal : a ≠ lg := ne_of_none (H := upd H5 a o5) upd_same hlg
  have hlg5 : H5 lg = none := by
    have h := hlg
    rw [upd_ne (Ne.symm nal)] at h
    exact h
  refine ⟨_, rfl, a, _, dx, _, rfl, (upd_ne nal).trans upd_same, cf.st.c, cf.st.f _ (by decide), Nat.lt_of_succ_le (Nat.le_of_ble_eq_true rfl), ?_⟩
  have hO4 : Only [a] H (upd H4 a o4) := (hO3.trans (Only.of e4)).trans (Only.put (by simp))
  have hO5 : Only [a] H (upd H5 a o5) := (hO4.trans (Only.of e5)).trans (Only.put (by simp))
  have hO6 : Only [a] H (upd (upd H5 a o5) lg (.lst [])) := hO5.trans (Only.of (Ex.new hlg))
  have x14 : Ext B H B4 := (Ext.refl B H).only hO3 x4
  have x15 : Ext B H B5 := x14.only hO4 x5
  have b5l : B5 lg = none := fresh_back eb5 hlg5
  have hs5 : ShAt K sh ShS.nil Ls B5 H5 := (hs4.keep (Only.put (L := [a]) (p := a) (o := o4) (by simp)) (Ext.refl _ _) (fun p hp => by rw [List.mem_singleton]; rintro rfl; exact nas hp)).grow e5 x5
  refine r _ _ B5 (a :: lg :: (Ls ++ Lu)) (hO6.trans (Only.put (by simp))) (fun p hp => ?_) x15 (ex_mut (ex_mut (ex_mut eb5 b5) b5l) b5) ⟨cf, dx, sh, up, lg, Ls, Lu, rfl, ?_⟩ .non
  · simp only [List.mem_cons, List.mem_append] at hp
    rcases hp with z | z | z | z
    · exact .inl (by rw [z]; simp)
    · right
      rw [z]
      cases h : H lg with
      | none => rfl
      | some o => exact absurd hlg5 (by
          have := (hO4.trans (Only.of e5)).d lg (by rw [h]; simp)
          exact this)
    · right
      cases h : H p with
      | none => rfl
      | some o => exact absurd (f4 p z) (hO3.d p (by rw [h]; simp))
    · right
      cases h : H p with
      | none => rfl
      | some o => exact absurd (f5 p z) (hO4.d p (by rw [h]; simp))
  · have hOm : Only [a, lg] H5 (upd (upd (upd H5 a o5) lg (.lst [])) a (stO K dx sh up lg m 0 0)) := ((Only.put (by simp)).trans (Only.put (by simp))).trans (Only.put (by simp))
    have nls : lg ∉ Ls := fun z => (hs5.out lg z).1 hlg5
    have nlu : lg ∉ Lu := fun z => (hu5.out lg z).1 hlg5
    refine ⟨upd_same, b5, ⟨rfl, b5l, [], (upd_ne (Ne.symm nal)).trans upd_same, .nil⟩, hs5.keep hOm (Ext.refl _ _) (fun p hp => ?_), hu5.keep hOm (Ext.refl _ _) (fun p hp => ?_), nal, nas, nau, nls, nlu, fun p hp z => ?_⟩
    · simp only [List.mem_cons, List.not_mem_nil, or_false, not_or]
      exact ⟨fun z => nas (z ▸ hp), fun z => nls (z ▸ hp)⟩
    · simp only [List.mem_cons, List.not_mem_nil, or_false, not_or]
      exact ⟨fun z => nau (z ▸ hp), fun z => nlu (z ▸ hp)⟩
    · have := f5 p z
      have hpa : p ≠ a := fun c => nas (by rw [← c]; exact hp)
      rw [upd_ne hpa] at this
      exact (hs4.out p hp).1 this
theorem mk_Store {K : PySem.W.Frag} {σ : Sig} {B H : Hp} {E : XK} {Q : VK} {tm : TE} {m : Int} (cf : CfS K) (hm : EvD tm σ B H (.int m)) (eb : Ex B H) (k : ∀ x H' B' L, Ex H H' → (∀ p ∈ L, H p = none) → Ext B H B' → Ex B' H' → StAt K x (StS.new m) L B' H' → Q (.ref x) H') : tMake (He.ga K "Store") (sp_Store_init K) [] E (tCons tm tNil) σ H Q := by
  refine hm.flat (fun _ _ => dpi) (Ex.refl _) eb (Q := fun v H1 => ∀ x dx, H1 x = none → H1 dx = none → dx ≠ x → sp_Store_init K (.ref x :: ([v] ++ [])) (upd (upd H1 dx (.own x)) x (.ins (He.ga K "Store") dx [])) (fun v H2 => v = .non ∧ Q (.ref x) H2) E) fun H1 e1 x dx hx hdx nx => ?_
  have bx := fresh_back (eb.trans e1) hx
  have eH : Ex H1 (upd (upd H1 dx (.own x)) x (.ins (He.ga K "Store") dx [])) := (Ex.new hdx).trans (Ex.new (by rw [upd_ne (Ne.symm nx)]; exact hx))
  refine ⟨B, x, dx, m, rfl, (eb.trans e1).trans eH, bx, cf, upd_same, fun v H' B' L o f xt eb' hs hv => ⟨dpn hv, ?_⟩⟩
  refine k x H' B' L (fun q u hq => o.k q u (eH _ _ (e1 _ _ hq)) (by simpa using ne_of_none (e1 _ _ hq) hx)) (fun p hp => ?_) (Ext.trans (Ext.refl _ _) (e1.trans eH) xt) eb' hs
  rcases f p hp with z | z
  · rw [List.mem_singleton.mp z]; exact fresh_back e1 hx
  · exact fresh_back (e1.trans eH) z
end GK

/-! Bounds that grow with what is done. -/
namespace GK
open PySem L2
/-- at most k keys, n rows of each, n changes, n holds -/
structure Bn (k n : Nat) (S : StS) : Prop where
  nk : S.sh.rows.length ≤ k
  kl : ∀ p ∈ S.sh.rows, p.1.length ≤ 1000
  nr : ∀ p ∈ S.sh.rows, p.2.length ≤ n
  nd : ∀ p ∈ S.sh.rows, ∀ r ∈ p.2, ∀ x, r.data = some x → x.length ≤ 50000
  nu : S.sh.unt.length ≤ n
  nl : S.log.length ≤ n
  ro : ∀ p ∈ S.sh.rows, ∀ r ∈ p.2, RowOk r
structure Ub (k : Nat) (Y : UpS) : Prop where
  ks : Y.opn.map (·.1) = Y.pcs.map (·.1)
  nn : (Y.opn.map (·.1)).Nodup
  lt : ∀ p ∈ Y.opn, p.1 ≤ Y.last
  nk : Y.opn.length ≤ k
  np : ∀ p ∈ Y.pcs, p.2.length ≤ k
  nd : ∀ p ∈ Y.pcs, ∀ q ∈ p.2, q.2.length ≤ 5000
theorem Bn.stb {k n j : Nat} {S : StS} (h : Bn k n S) (u : Ub j S.up) (hk : k < 64 := by omega) (hn : n ≤ 5000 := by omega) (hj : j < 63 := by omega) : StB S :=
  ⟨⟨by have := h.nk; omega, h.kl, fun p hp => Nat.le_trans (h.nr p hp) hn, h.nd, Nat.le_trans h.nu hn⟩, ⟨u.ks, u.nn, u.lt, by have := u.nk; omega, fun p hp => by have := u.np p hp; omega, u.nd⟩, Nat.le_trans h.nl hn, h.ro⟩
theorem Bn.le {k n k' n' : Nat} {S : StS} (h : Bn k n S) (hk : k ≤ k' := by omega) (hn : n ≤ n' := by omega) : Bn k' n' S :=
  ⟨Nat.le_trans h.nk hk, h.kl, fun p hp => Nat.le_trans (h.nr p hp) hn, h.nd, Nat.le_trans h.nu hn, Nat.le_trans h.nl hn, h.ro⟩
theorem Ub.le {k k' : Nat} {Y : UpS} (h : Ub k Y) (hk : k ≤ k' := by omega) : Ub k' Y := ⟨h.ks, h.nn, h.lt, Nat.le_trans h.nk hk, fun p hp => Nat.le_trans (h.np p hp) hk, h.nd⟩
theorem Bn.new (m : Int) : Bn 0 0 (StS.new m) := ⟨Nat.le_refl _, (fun p hp => by cases hp), (fun p hp => by cases hp), (fun p hp => by cases hp), Nat.le_refl _, Nat.le_refl _, (fun p hp => by cases hp)⟩
theorem Ub.nil : Ub 0 UpS.nil := ⟨rfl, .nil, (fun p hp => by cases hp), Nat.le_refl _, (fun p hp => by cases hp), (fun p hp => by cases hp)⟩
theorem rowsOf_mem {X : ShS} {k : Str} {r : Row} (h : r ∈ rowsOf X k) : ∃ p ∈ X.rows, p.1 = k ∧ r ∈ p.2 := by
  unfold rowsOf at h
  cases e : aGet X.rows k with
  | none => rw [e] at h; cases h
  | some l => rw [e] at h; exact ⟨_, aGet_mem e, rfl, h⟩
theorem Bn.rows {k n : Nat} {S : StS} (h : Bn k n S) (key : Str) : (rowsOf S.sh key).length ≤ n := by
  unfold rowsOf
  cases e : aGet S.sh.rows key with
  | none => exact Nat.zero_le _
  | some l => exact h.nr _ (aGet_mem e)
theorem Bn.pass {k n : Nat} {S : StS} (h : Bn k n S) (m : Int) : Bn k n (S.pass m) := ⟨h.nk, h.kl, h.nr, h.nd, h.nu, h.nl, h.ro⟩
theorem Bn.comeIn {k n k' : Nat} {S : StS} (h : Bn k n S) {key : Str} {data total : Option Str} (hk : key.length ≤ 1000) (hd : ∀ x, data = some x → x.length ≤ 50000) (ho : data.isSome = total.isSome) (hl : (aPut S.sh.rows key (rowsOf S.sh key ++ [⟨S.lastv + 1, S.today, data, total⟩])).length ≤ k') : Bn k' (n + 1) (S.come key data total) := by
  have hr := h.rows key
  refine ⟨hl, fun p hp => ?_, fun p hp => ?_, fun p hp r hr' x hx => ?_, Nat.le_succ_of_le h.nu, ?_, fun p hp r hr' => ?_⟩
  · rcases aPut_mem hp with z | z
    · exact h.kl p z
    · rw [z]; exact hk
  · rcases aPut_mem hp with z | z
    · exact Nat.le_succ_of_le (h.nr p z)
    · rw [z]; show (rowsOf S.sh key ++ [_]).length ≤ _; rw [List.length_append]; show _ + 1 ≤ _; omega
  · rcases aPut_mem hp with z | z
    · exact h.nd p z r hr' x hx
    · rw [z] at hr'
      rcases List.mem_append.mp hr' with y | y
      · obtain ⟨q, hq, _, hq2⟩ := rowsOf_mem y
        exact h.nd q hq r hq2 x hx
      · rw [List.mem_singleton.mp y] at hx; exact hd x hx
  · show (S.log ++ [_]).length ≤ _
    rw [List.length_append]
    have := h.nl
    show _ + 1 ≤ _
    omega
  · rcases aPut_mem hp with z | z
    · exact h.ro p z r hr'
    · rw [z] at hr'
      rcases List.mem_append.mp hr' with y | y
      · obtain ⟨q, hq, _, hq2⟩ := rowsOf_mem y
        exact h.ro q hq r hq2
      · rw [List.mem_singleton.mp y]; exact ho
theorem Bn.come {k n : Nat} {S : StS} (h : Bn k n S) {key : Str} {data total : Option Str} (hk : key.length ≤ 1000) (hd : ∀ x, data = some x → x.length ≤ 50000) (ho : data.isSome = total.isSome) : Bn (k + 1) (n + 1) (S.come key data total) := h.comeIn hk hd ho (Nat.le_trans (aPut_len _ _ _) (Nat.succ_le_succ h.nk))
theorem Bn.comeOld {k n : Nat} {S : StS} (h : Bn k n S) {key : Str} {data total : Option Str} (hi : aGet S.sh.rows key ≠ none) (hd : ∀ x, data = some x → x.length ≤ 50000) (ho : data.isSome = total.isSome) : Bn k (n + 1) (S.come key data total) := by
  refine h.comeIn ?_ hd ho (by rw [aPut_lenIn hi]; exact h.nk)
  cases e : aGet S.sh.rows key with
  | none => exact absurd e hi
  | some l => exact h.kl _ (aGet_mem e)
theorem Bn.put {k n : Nat} {S : StS} (h : Bn k n S) {key x : Str} (hk : key.length ≤ 1000) (hx : x.length ≤ 50000) : Bn (k + 1) (n + 1) (S.put key x) := h.come hk (fun y hy => by cases hy; exact hx) rfl
theorem Bn.drop {k n : Nat} {S : StS} (h : Bn k n S) {key : Str} (hi : aGet S.sh.rows key ≠ none) : Bn k (n + 1) (S.drop key) := h.comeOld hi (fun y hy => by cases hy) rfl
theorem rowOf_in {X : ShS} {k : Str} {v : Int} {r : Row} (h : rowOf X k v = some r) : aGet X.rows k ≠ none := fun z => by
  unfold rowOf rowsOf at h
  rw [z] at h
  cases h
theorem newest_in {X : ShS} {k : Str} {r : Row} (h : newest X k = some r) : aGet X.rows k ≠ none := fun z => by
  unfold newest rowsOf at h
  rw [z] at h
  cases h
theorem Bn.leave {k n : Nat} {S : StS} (h : Bn k n S) {key : Str} {v : Int} (hi : aGet S.sh.rows key ≠ none) : Bn k (n + 1) (S.leave key v) := by
  have hr := h.rows key
  have hsub : ((rowsOf S.sh key).filter fun r => !decide (r.v = v)).length ≤ n := Nat.le_trans (List.length_filter_le _ _) hr
  refine ⟨by show (aPut _ _ _).length ≤ k; rw [aPut_lenIn hi]; exact h.nk, fun p hp => ?_, fun p hp => ?_, fun p hp r hr' x hx => ?_, ?_, ?_, fun p hp r hr' => ?_⟩
  · rcases aPut_mem hp with z | z
    · exact h.kl p z
    · rw [z]
      cases e : aGet S.sh.rows key with
      | none => exact absurd e hi
      | some l => exact h.kl (key, l) (aGet_mem e)
  · rcases aPut_mem hp with z | z
    · exact Nat.le_succ_of_le (h.nr p z)
    · rw [z]; exact Nat.le_succ_of_le hsub
  · rcases aPut_mem hp with z | z
    · exact h.nd p z r hr' x hx
    · rw [z] at hr'
      obtain ⟨q, hq, _, hq2⟩ := rowsOf_mem (List.mem_filter.mp hr').1
      exact h.nd q hq r hq2 x hx
  · exact Nat.le_succ_of_le (Nat.le_trans (aDel_len _ _) h.nu)
  · show (S.log ++ [_]).length ≤ _
    rw [List.length_append]
    have := h.nl
    show _ + 1 ≤ _
    omega
  · rcases aPut_mem hp with z | z
    · exact h.ro p z r hr'
    · rw [z] at hr'
      obtain ⟨q, hq, _, hq2⟩ := rowsOf_mem (List.mem_filter.mp hr').1
      exact h.ro q hq r hq2
theorem Bn.hold {k n : Nat} {S : StS} (h : Bn k n S) {key : Str} {v u : Int} : Bn k (n + 1) (S.hold key v u) := by
  refine ⟨h.nk, h.kl, fun p hp => Nat.le_succ_of_le (h.nr p hp), h.nd, Nat.le_trans (aPut_len _ _ _) (Nat.succ_le_succ h.nu), ?_, h.ro⟩
  show (S.log ++ [_]).length ≤ _
  rw [List.length_append]
  have := h.nl
  show _ + 1 ≤ _
  omega
theorem Bn.ofUp {k n : Nat} {S : StS} (h : Bn k n S) (Y : UpS) : Bn k n { S with up := Y } := ⟨h.nk, h.kl, h.nr, h.nd, h.nu, h.nl, h.ro⟩
theorem Ub.begin {k : Nat} {Y : UpS} (h : Ub k Y) (key : Str) (day : Int) : Ub (k + 1) (Y.begin key day) := by
  have hnew : Y.last + 1 ∉ Y.opn.map (·.1) := fun z => by
    obtain ⟨p, hp, e⟩ := List.mem_map.mp z
    have := h.lt p hp
    omega
  refine ⟨?_, aPut_nodup h.nn, fun p hp => ?_, Nat.le_trans (aPut_len _ _ _) (Nat.succ_le_succ h.nk), fun p hp => ?_, fun p hp q hq => ?_⟩
  · show (aPut Y.opn _ _).map _ = (aPut Y.pcs _ _).map _
    rw [aPut_keys, aPut_keys, h.ks]
  · rcases aPut_mem hp with z | z
    · have := h.lt p z
      show p.1 ≤ Y.last + 1
      omega
    · rw [z]; exact Int.le_refl _
  · rcases aPut_mem hp with z | z
    · exact Nat.le_succ_of_le (h.np p z)
    · rw [z]; exact Nat.zero_le _
  · rcases aPut_mem hp with z | z
    · exact h.nd p z q hq
    · rw [z] at hq; cases hq
theorem Ub.parts {k : Nat} {Y : UpS} (h : Ub k Y) (u : Int) : (partsOf Y u).length ≤ k := by
  unfold partsOf
  cases e : aGet Y.pcs u with
  | none => exact Nat.zero_le _
  | some m => exact h.np _ (aGet_mem e)
theorem Ub.send {k : Nat} {Y : UpS} (h : Ub k Y) {u n : Int} {x : Str} (ho : isOpen Y u = true) (hx : x.length ≤ 5000) : Ub (k + 1) (Y.send u n x) := by
  have hin : u ∈ Y.pcs.map (·.1) := by
    rw [← h.ks]
    apply aGet_keys.mp
    intro z
    unfold isOpen at ho
    rw [z] at ho
    cases ho
  have hp := h.parts u
  refine ⟨?_, h.nn, h.lt, Nat.le_succ_of_le h.nk, fun p hp' => ?_, fun p hp' q hq => ?_⟩
  · show Y.opn.map _ = (aPut Y.pcs _ _).map _
    rw [aPut_keys, if_pos hin]
    exact h.ks
  · rcases aPut_mem hp' with z | z
    · exact Nat.le_succ_of_le (h.np p z)
    · rw [z]; exact Nat.le_trans (aPut_len _ _ _) (Nat.succ_le_succ hp)
  · rcases aPut_mem hp' with z | z
    · exact h.nd p z q hq
    · rw [z] at hq
      rcases aPut_mem hq with y | y
      · unfold partsOf at y
        cases e : aGet Y.pcs u with
        | none => rw [e] at y; cases y
        | some m => rw [e] at y; exact h.nd _ (aGet_mem e) q y
      · rw [y]; exact hx
theorem Ub.close {k : Nat} {Y : UpS} (h : Ub k Y) (u : Int) : Ub k (Y.close u) :=
  ⟨by show (aDel Y.opn u).map _ = (aDel Y.pcs u).map _; rw [aDel_keys, aDel_keys, h.ks], aDel_nodup h.nn, fun p hp => h.lt p (aDel_mem hp), Nat.le_trans (aDel_len _ _) h.nk, fun p hp => h.np p (aDel_mem hp), fun p hp => h.nd p (aDel_mem hp)⟩
end GK

/-! Acts in a law: calls that change, told and compared. -/
namespace GK
open PySem PySem.Spec PyProof.Rows L2
open Evl (Ex ex_l ex_t ex_rd sq_of st_of sz_of sz_lt fresh_back)
section
variable {K : PySem.W.Frag} {σ : Sig} {B B1 H H1 : Hp} {te ta tm td tc : TE} {tr : TA} {tt tu : TT} {d : PyData} {E : XK} {D : Ends} {tx tz ts : TS} {i : Nat} {v : V} {r : Res} {L : List Addr} {P : List Addr → Hp → Hp → Prop} {Q : VK}
theorem RetCX.of (h : r = .ok d) (k : RetC L P d B H Q) : RetCX K L P r B H Q E := by subst h; exact k
theorem EvX.of (h : EvX K te σ B H r E) (e : r = .ok d) : EvD te σ B H d := by subst e; exact h.ok
theorem q_dropV (h : tm σ H fun _ H1 => tz D σ H1) : tSeq (tDrop tm) tz D σ H := h
theorem s_dropV (h : tm σ H fun _ H1 => D.nx σ H1) : tDrop tm D σ H := h
theorem q_asgV (h : tm σ H fun v H1 => tz D (σ.set i (some v)) H1) : tSeq (tAsg tm (gName i)) tz D σ H := h
theorem s_retV (h : tm σ H D.rt) : tRet tm D σ H := h
/-- what is told, compared with what is due -/
def SameQ (K : PySem.W.Frag) (td : TE) (σ : Sig) (Q : VK) (E : XK) : VK := fun v H1 => td σ H1 fun w H2 => sp_law_same 5 K [v, w] H2 Q E
theorem same_end (eb : Ex B1 H1) (hv : Da B1 v d) (hd : EvD td σ B1 H1 d) (hs : shal 4 d) (k : ∀ H2, Ex H1 H2 → Q (.bl true) H2) : SameQ K td σ Q E v H1 :=
  hd H1 (Ex.refl _) eb _ fun w H2 B2 e2 x2 eb2 hw => ⟨B2, d, v, w, eb2, rfl, hv.ex' x2.1, hw, hs, Ret.flat (fun _ _ => dpb) fun H3 e3 => k H3 (e2.trans e3)⟩
/-- if not ..: return False -/
def PassQ (D : Ends) (tx tz : TS) (σ : Sig) : VK := fun b H3 => ∃ k, b = .bl k ∧ (if (!k) = true then tx { D with nx := tz D } σ H3 else tNext { D with nx := tz D } σ H3)
theorem q_same (h : tm σ H (SameQ K td σ (PassQ D tx tz σ) E)) : tSeq (tIfS (tNot (tB (tCall (sp_law_same 5 K) [] E (tCons tm (tCons td tNil))))) tx tNext) tz D σ H := h
theorem same_pass (eb : Ex B1 H1) (hv : Da B1 v d) (hd : EvD td σ B1 H1 d) (hs : shal 4 d) (k : ∀ H2, Ex H1 H2 → tz D σ H2) : SameQ K td σ (PassQ D tx tz σ) E v H1 := same_end eb hv hd hs fun H2 e2 => ⟨true, rfl, k H2 e2⟩
/-- if A or B: return False -/
def IfQ (D : Ends) (tx tz : TS) (σ : Sig) : Bool → Hp → Prop := fun b H1 => if b = true then tx { D with nx := tz D } σ H1 else tNext { D with nx := tz D } σ H1
def OrQ (D : Ends) (tu : TT) (tx tz : TS) (σ : Sig) : VK := fun b H3 => ∃ k, b = .bl k ∧ (if (!k) = true then IfQ D tx tz σ true H3 else tu σ H3 (IfQ D tx tz σ))
theorem q_same_or (h : tm σ H (SameQ K td σ (OrQ D tu tx tz σ) E)) : tSeq (tIfS (tOr (tNot (tB (tCall (sp_law_same 5 K) [] E (tCons tm (tCons td tNil))))) tu) tx tNext) tz D σ H := h
theorem same_or (eb : Ex B1 H1) (hv : Da B1 v d) (hd : EvD td σ B1 H1 d) (hs : shal 4 d) (k : ∀ H2, Ex H1 H2 → tSeq (tIfS tu tx tNext) tz D σ H2) : SameQ K td σ (OrQ D tu tx tz σ) E v H1 := same_end eb hv hd hs fun H2 e2 => ⟨true, rfl, k H2 e2⟩
theorem q_or_go (ha : EvB tt σ B H false) (eb : Ex B H) (h : ∀ H1, Ex H H1 → Ex B H1 → tSeq (tIfS tu tx tNext) tz D σ H1) : tSeq (tIfS (tOr tt tu) tx tNext) tz D σ H := ha H (Ex.refl _) eb _ fun H1 e1 => by
  rw [if_neg (by decide)]
  exact h H1 e1 (eb.trans e1)
/-- m != c, m == c with m that changes -/
def NeQ (tc : TE) (σ : Sig) (Q : Bool → Hp → Prop) : VK := fun v H1 => tc σ H1 fun y H2 => rNe v y H2 fun b H3 => ∃ k, b = .bl k ∧ Q k H3
def OrB (D : Ends) (tu : TT) (tx tz : TS) (σ : Sig) : Bool → Hp → Prop := fun b H3 => if b = true then IfQ D tx tz σ true H3 else tu σ H3 (IfQ D tx tz σ)
theorem q_ne_or (h : tm σ H (NeQ tc σ (OrB D tu tx tz σ))) : tSeq (tIfS (tOr (tTest (tOp rNe tm tc)) tu) tx tNext) tz D σ H := h
theorem q_ne (h : tm σ H (NeQ tc σ (IfQ D tx tz σ))) : tSeq (tIfS (tTest (tOp rNe tm tc)) tx tNext) tz D σ H := h
theorem ne_end {n : Int} {Q : Bool → Hp → Prop} (eb : Ex B1 H1) (hv : Da B1 v (.int n)) (hd : EvD tc σ B1 H1 (.int n)) (k : ∀ H2, Ex H1 H2 → Q false H2) : NeQ tc σ Q v H1 := by
  cases hv
  exact hd.flat (fun _ _ => dpi) (Ex.refl _) eb fun H2 e2 => ⟨rfl, false, by simp, k H2 e2⟩
theorem ne_or_end {n : Int} (eb : Ex B1 H1) (hv : Da B1 v (.int n)) (hd : EvD tc σ B1 H1 (.int n)) (k : ∀ H2, Ex H1 H2 → tSeq (tIfS tu tx tNext) tz D σ H2) : NeQ tc σ (OrB D tu tx tz σ) v H1 := ne_end eb hv hd fun H2 e2 => k H2 e2
theorem ne_pass {n : Int} (eb : Ex B1 H1) (hv : Da B1 v (.int n)) (hd : EvD tc σ B1 H1 (.int n)) (k : ∀ H2, Ex H1 H2 → tz D σ H2) : NeQ tc σ (IfQ D tx tz σ) v H1 := ne_end eb hv hd fun H2 e2 => k H2 e2
/-- if A and B: return False, A so, A not so -/
theorem q_and_go (ha : EvB tt σ B H true) (eb : Ex B H) (h : ∀ H1, Ex H H1 → Ex B H1 → tSeq (tIfS tu tx tNext) tz D σ H1) : tSeq (tIfS (tAnd tt tu) tx tNext) tz D σ H := ha H (Ex.refl _) eb _ fun H1 e1 => by
  rw [if_pos rfl]
  exact h H1 e1 (eb.trans e1)
theorem q_and_no (ha : EvB tt σ B H false) (eb : Ex B H) (h : ∀ H1, Ex H H1 → Ex B H1 → tz D σ H1) : tSeq (tIfS (tAnd tt tu) tx tNext) tz D σ H := ha H (Ex.refl _) eb _ fun H1 e1 => by
  rw [if_neg (by decide)]
  exact h H1 e1 (eb.trans e1)
/-- if m is not None: return False -/
def NonQ (D : Ends) (tx tz : TS) (σ : Sig) : VK := fun v H1 => rNotNone v .non H1 fun b H3 => ∃ k, b = .bl k ∧ (if k = true then tx { D with nx := tz D } σ H3 else tNext { D with nx := tz D } σ H3)
theorem q_notN (h : tm σ H (NonQ D tx tz σ)) : tSeq (tIfS (tTest (tOp rNotNone tm (tC .non))) tx tNext) tz D σ H := h
theorem non_end (h : tz D σ H1) : NonQ D tx tz σ .non H1 := ⟨rfl, false, rfl, h⟩
end
end GK
namespace GK
open PySem PySem.Spec PyProof.Rows L2
open Evl (Ex ex_l ex_t ex_rd sq_of st_of sz_of sz_lt fresh_back)
/-! ### other keys: another first sign -/
def othS (cs : List Nat) (key : Str) : List Str := (cs.filter fun c => !decide (sign c = cutS key none (some 1))).map fun c => sign c ++ cutS key (some 1) none
theorem tl_cut1 (z : Str) : tl (cutS z none (some 1)) = (tl z).take 1 := by
  rw [tl_cut, sIx_none, sIx_pos (by decide), List.drop_zero, Nat.sub_zero, len_tl]
  show List.take (min 1 _) _ = _
  rw [List.take_eq_take_iff]
  omega
theorem tl_cutR (z : Str) : tl (cutS z (some 1) none) = (tl z).drop 1 := by
  rw [tl_cut, sIx_none, sIx_pos (by decide), len_tl]
  show List.take _ (List.drop (min 1 _) _) = _
  rw [List.take_of_length_le (by rw [List.length_drop]; omega)]
  cases tl z with
  | nil => simp
  | cons a r => rw [List.length_cons, show min 1 (r.length + 1) = 1 by omega]
theorem oth_ne {cs : List Nat} {key x : Str} (h : x ∈ othS cs key) : x ≠ key ∧ x.length ≤ key.length + 1 := by
  obtain ⟨c, hc, rfl⟩ := List.mem_map.mp h
  have h1 := (List.mem_filter.mp hc).2
  have h2 : sign c ≠ cutS key none (some 1) := by simpa using h1
  refine ⟨fun e => h2 ?_, ?_⟩
  · apply str_ext
    rw [tl_cut1, ← e, tl_app, tl_sign]
    rfl
  · rw [app_len]
    have := cut_len key (some 1) none
    have h3 : (sign c).length = 1 := rfl
    omega
theorem evd_oth {σ : Sig} {B H : Hp} {tc tk : TE} {z key : Str} {j : Nat} {vs : List Nat} (hz : EvD tc σ B H (.str z)) (hzl : z.length ≤ 1000) (hkl : key.length ≤ 1000) (hw : ∀ x, wipe ((wipe σ vs).set j (some x)) vs = wipe σ vs) (hj : ∀ x, ((wipe σ vs).set j (some x))[j]? = some (some x)) (hk : ∀ x B1 H1, EvD tk ((wipe σ vs).set j (some x)) B1 H1 (.str key)) : EvD (tLc (iStr tc) (gName j) (tTest (tOp rNe (tVar j) (tSl rSlS tk tNoPart (tPart (tC (.int 1)))))) (tOp rAddStr (tVar j) (tSl rSlS tk (tPart (tC (.int 1))) tNoPart)) vs) σ B H (.list ((othS (tl z) key).map .str)) := by
  unfold othS
  rw [List.map_map]
  refine evd_lc (fun c => PyData.str (sign c)) (fun c => !decide (sign c = cutS key none (some 1))) _ (src_str hz) (by rw [← len_tl]; omega) fun c hc x B1 H1 eb eh e hx R k => ?_
  cases hx
  refine k _ (hw _) (evb_test (evd_neS (evd_var (hj _) (.str _)) (evd_slS (hk _ _ _) evo_none (evo_some evd_ci) (by omega)))) fun _ => ?_
  refine evd_addS (evd_var (hj _) (.str _)) (evd_slS (hk _ _ _) (evo_some evd_ci) evo_none (by omega)) ?_
  have := cut_len key (some 1) none
  have h3 : (sign c).length = 1 := rfl
  omega
theorem qrs_tl : tl ("qrs" : Str) = [113, 114, 115] := by decide +kernel
theorem qr_tl : tl ("qr" : Str) = [113, 114] := by decide +kernel
theorem sign_inj {a b : Nat} (h : sign a = sign b) : a = b := by
  have := congrArg tl h
  rw [tl_sign, tl_sign] at this
  simpa using this
theorem oth3 (key : Str) : ∃ x y rest, othS (tl ("qrs" : Str)) key = x :: y :: rest ∧ x ≠ y := by
  rw [qrs_tl]
  unfold othS
  have hd : ∀ {a b : Nat}, a ≠ b → sign a ++ cutS key (some 1) none ≠ sign b ++ cutS key (some 1) none := fun h e => by
    have := congrArg tl e
    rw [tl_app, tl_app, tl_sign, tl_sign] at this
    exact h (by simpa using this)
  by_cases c1 : sign 113 = cutS key none (some 1)
  · have c2 : ¬ sign 114 = cutS key none (some 1) := fun z => absurd (sign_inj (z.trans c1.symm)) (by decide)
    have c3 : ¬ sign 115 = cutS key none (some 1) := fun z => absurd (sign_inj (z.trans c1.symm)) (by decide)
    refine ⟨_, _, [], ?_, hd (a := 114) (b := 115) (by decide)⟩
    rw [List.filter_cons_of_neg (by simp [c1]), List.filter_cons_of_pos (by simp [c2]), List.filter_cons_of_pos (by simp [c3])]
    rfl
  · by_cases c2 : sign 114 = cutS key none (some 1)
    · have c3 : ¬ sign 115 = cutS key none (some 1) := fun z => absurd (sign_inj (z.trans c2.symm)) (by decide)
      refine ⟨_, _, [], ?_, hd (a := 113) (b := 115) (by decide)⟩
      rw [List.filter_cons_of_pos (by simp [c1]), List.filter_cons_of_neg (by simp [c2]), List.filter_cons_of_pos (by simp [c3])]
      rfl
    · rw [List.filter_cons_of_pos (by simp [c1]), List.filter_cons_of_pos (by simp [c2])]
      exact ⟨_, _, _, rfl, hd (a := 113) (b := 114) (by decide)⟩
theorem oth2 (key : Str) : ∃ x rest, othS (tl ("qr" : Str)) key = x :: rest := by
  rw [qr_tl]
  unfold othS
  by_cases c1 : sign 113 = cutS key none (some 1)
  · have c2 : ¬ sign 114 = cutS key none (some 1) := fun z => absurd (sign_inj (z.trans c1.symm)) (by decide)
    rw [List.filter_cons_of_neg (by simp [c1]), List.filter_cons_of_pos (by simp [c2])]
    exact ⟨_, _, rfl⟩
  · rw [List.filter_cons_of_pos (by simp [c1])]
    exact ⟨_, _, rfl⟩
/-- a list that grows: its length -/
theorem evd_lenLs {K : PySem.W.Frag} {σ : Sig} {B H : Hp} {p : Addr} {ds : List PyData} {L : List Addr} {i : Nat} (hp : LsAt p ds L B H) (hv : σ[i]? = some (some (.ref p))) : EvD (tCB (rLenSeq K) (tCons (tVar i) tNil)) σ B H (.int ds.length) := fun H1 e eb Q q => by
  obtain ⟨_, _, xs, h1, h2⟩ := hp
  refine ⟨_, hv, p, xs, rfl, .inl (sq_of (e _ _ h1)), ?_⟩
  rw [dpa_len h2]
  exact q _ H1 B (Ex.refl _) (Ext.refl _ _) eb (.int _)
/-! ### a frame that grows by what is not the store's -/
theorem ShAt.frame {K : PySem.W.Frag} {a : Addr} {X : ShS} {L : List Addr} {B H B' : Hp} (h : ShAt K a X L B H) (e : Ex B B') (n : ∀ p ∈ L, B' p = none) : ShAt K a X L B' H := by
  obtain ⟨cf, dx, rd, ud, kvs, uks, rfl, h1, h2, h3, h4, h5, n1, n2, n3, b1, b2, b3⟩ := h
  exact ⟨cf, dx, rd, ud, kvs, uks, rfl, h1, h2, h3.mono fun v l hd => hd.ex' e, h4, h5, n1, n2, n3, n _ (by simp), n _ (by simp), n _ (by simp)⟩
theorem UpAt.frame {K : PySem.W.Frag} {a : Addr} {Y : UpS} {L : List Addr} {B H B' : Hp} (h : UpAt K a Y L B H) (e : Ex B B') (n : ∀ p ∈ L, B' p = none) : UpAt K a Y L B' H := by
  obtain ⟨cf, dx, od, pd, oks, pks, pa, rfl, nd, h1, h2, h3, h4, h5, h6, b⟩ := h
  exact ⟨cf, dx, od, pd, oks, pks, pa, rfl, nd, h1, h2, h3.mono fun v l hd => hd.ex' e, h4, h5, h6, n⟩
theorem LsAt.frame {p : Addr} {ds : List PyData} {L : List Addr} {B H B' : Hp} (h : LsAt p ds L B H) (e : Ex B B') (n : ∀ p ∈ L, B' p = none) : LsAt p ds L B' H := by
  obtain ⟨rfl, b, xs, h1, h2⟩ := h
  exact ⟨rfl, n _ (by simp), xs, h1, dpAll_ex e _ _ h2⟩
theorem StAt.frame {K : PySem.W.Frag} {a : Addr} {S : StS} {L : List Addr} {B H B' : Hp} (h : StAt K a S L B H) (e : Ex B B') (n : ∀ p ∈ L, B' p = none) : StAt K a S L B' H := by
  obtain ⟨cf, dx, sh, up, lg, Ls, Lu, rfl, h⟩ := h
  exact ⟨cf, dx, sh, up, lg, Ls, Lu, rfl, h.o, n _ (by simp), h.hl.frame e (fun p hp => n p (by rw [List.mem_singleton.mp hp]; simp)), h.hs.frame e (fun p hp => n p (by simp [hp])), h.hu.frame e (fun p hp => n p (by simp [hp])), h.n1, h.n2, h.n3, h.n4, h.n5, h.n6⟩
def SPassQ (D : Ends) (tx : TS) (σ : Sig) : VK := fun b H3 => ∃ k, b = .bl k ∧ (if (!k) = true then tx D σ H3 else tNext D σ H3)
section
variable {K : PySem.W.Frag} {σ : Sig} {B B1 H H1 : Hp} {te ta tm td tc : TE} {tr : TA} {tt tu : TT} {d : PyData} {E : XK} {D : Ends} {tx tz ts : TS} {v : V} {Q : VK} {sp : Sp} {ds : List PyData}
theorem q_not_or (h : tm σ H (OrQ D tu tx tz σ)) : tSeq (tIfS (tOr (tNot (tB tm)) tu) tx tNext) tz D σ H := h
theorem or_end (h : tSeq (tIfS tu tx tNext) tz D σ H1) : OrQ D tu tx tz σ (.bl true) H1 := ⟨true, rfl, h⟩
theorem q_not (h : tm σ H (PassQ D tx tz σ)) : tSeq (tIfS (tNot (tB tm)) tx tNext) tz D σ H := h
theorem s_not (h : tm σ H (SPassQ D tx σ)) : tIfS (tNot (tB tm)) tx tNext D σ H := h
theorem spass_end (h : D.nx σ H1) : SPassQ D tx σ (.bl true) H1 := ⟨true, rfl, h⟩
theorem s_same (h : tm σ H (SameQ K td σ (SPassQ D tx σ) E)) : tIfS (tNot (tB (tCall (sp_law_same 5 K) [] E (tCons tm (tCons td tNil))))) tx tNext D σ H := h
theorem s_same_pass (eb : Ex B1 H1) (hv : Da B1 v d) (hd : EvD td σ B1 H1 d) (hs : shal 4 d) (k : ∀ H2, Ex H1 H2 → D.nx σ H2) : SameQ K td σ (SPassQ D tx σ) E v H1 := same_end eb hv hd hs fun H2 e2 => ⟨true, rfl, k H2 e2⟩
theorem pass_end (h : tz D σ H1) : PassQ D tx tz σ (.bl true) H1 := ⟨true, rfl, h⟩
/-- a call whose first argument is an object -/
theorem run_call1 (h1 : EvF ta σ H v) (hr : EvDs tr σ B H ds) (eb : Ex B H) (k : ∀ H1 B1 vs, Ex H H1 → Ext B H B1 → Ex B1 H1 → DaAll B1 vs ds → sp (v :: vs) H1 Q E) : tCall sp [] E (tCons ta tr) σ H Q := h1 H (Ex.refl _) _ fun H2 e2 =>
  hr H2 e2 (eb.trans e2) _ fun vs H3 B3 e3 x3 eb3 hd => by
    show sp ((v :: vs) ++ []) H3 Q E
    rw [List.append_nil]
    exact k H3 B3 vs (e2.trans e3) (Ext.trans (Ext.refl _ _) e2 x3) eb3 hd
theorem s_ret_and (ha : EvD ta σ B H (.bool true)) (eb : Ex B H) (h : ∀ H1, Ex H H1 → Ex B H1 → tm σ H1 D.rt) : tRet (tAndV ta tm) D σ H := ha.flat (fun _ _ => dpb) (Ex.refl _) eb fun H1 e1 => ⟨true, rfl, by rw [if_pos rfl]; exact h H1 e1 (eb.trans e1)⟩
theorem s_ret_and2 {tb : TE} (h : tm σ H (SameQ K td σ (fun v H1 => ∃ b, v = .bl b ∧ (if b = true then tb σ H1 D.rt else D.rt (.bl false) H1)) E)) : tRet (tAndV (tCall (sp_law_same 5 K) [] E (tCons tm (tCons td tNil))) tb) D σ H := h
theorem v_same (h : tm σ H (SameQ K td σ Q E)) : tCall (sp_law_same 5 K) [] E (tCons tm (tCons td tNil)) σ H Q := h
end
/-- both sides change -/
def SameW (K : PySem.W.Frag) (v : V) (Q : VK) (E : XK) : VK := fun w H2 => sp_law_same 5 K [v, w] H2 Q E
theorem sameQ_run {K : PySem.W.Frag} {td : TE} {σ : Sig} {Q : VK} {E : XK} {v : V} {H1 : Hp} (h : td σ H1 (SameW K v Q E)) : SameQ K td σ Q E v H1 := h
theorem sameW_end {K : PySem.W.Frag} {Q : VK} {E : XK} {v w : V} {B H : Hp} {d : PyData} (eb : Ex B H) (hv : Da B v d) (hw : Da B w d) (hs : shal 4 d) (k : ∀ H2, Ex H H2 → Q (.bl true) H2) : SameW K v Q E w H := ⟨B, d, v, w, eb, rfl, hv, hw, hs, Ret.flat (fun _ _ => dpb) fun H3 e3 => k H3 e3⟩
theorem sameW_pass {K : PySem.W.Frag} {D : Ends} {tx tz : TS} {σ : Sig} {E : XK} {v w : V} {B H : Hp} {d : PyData} (eb : Ex B H) (hv : Da B v d) (hw : Da B w d) (hs : shal 4 d) (k : ∀ H2, Ex H H2 → tz D σ H2) : SameW K v (PassQ D tx tz σ) E w H := sameW_end eb hv hw hs fun H2 e2 => ⟨true, rfl, k H2 e2⟩
end GK

namespace GK
open PySem PySem.Spec PyProof.Rows L2
open Evl (Ex ex_l ex_t ex_rd sq_of st_of sz_of sz_lt fresh_back)
/-! ### acts -/
inductive Act where
  | put (k x : Str)
  | get (k : Str)
  | drop (k : Str)
  | pif (k x : Str) (last : Option Int)
  | hold (k : Str) (v n : Int)
  | held (k : Str) (v : Int)
  | leave (k : Str) (v : Int)
  | copy (k : Str) (v : Int) (o : Str)
  | version (k : Str) (v : Int)
  | send (u n : Int) (x : Str)
  | sent (u : Int)
  | cancel (u : Int)
  | finish (u : Int) (rows : Parts)
def Act.way : Act → Str
  | .put k x => "put"
  | .get k => "get"
  | .drop k => "drop"
  | .pif k x last => "if"
  | .hold k v n => "hold"
  | .held k v => "held"
  | .leave k v => "leave"
  | .copy k v o => "copy"
  | .version k v => "version"
  | .send u n x => "send"
  | .sent u => "sent"
  | .cancel u => "cancel"
  | .finish u rows => "finish"
def Act.args : Act → List PyData
  | .put k x => [.str k, .str x]
  | .get k => [.str k]
  | .drop k => [.str k]
  | .pif k x last => [.str k, .str x, oI last]
  | .hold k v n => [.str k, .int v, .int n]
  | .held k v => [.str k, .int v]
  | .leave k v => [.str k, .int v]
  | .copy k v o => [.str k, .int v, .str o]
  | .version k v => [.str k, .int v]
  | .send u n x => [.int u, .int n, .str x]
  | .sent u => [.int u]
  | .cancel u => [.int u]
  | .finish u rows => [.int u, pairsD rows]
def Act.fine : Act → Prop
  | .put k x => x.length ≤ 50000
  | .get k => True
  | .drop k => True
  | .pif k x last => x.length ≤ 50000
  | .hold k v n => True
  | .held k v => True
  | .leave k v => True
  | .copy k v o => True
  | .version k v => True
  | .send u n x => x.length ≤ 50000
  | .sent u => True
  | .cancel u => True
  | .finish u rows => rows.length ≤ 1000
def Act.res (S : StS) : Act → Res
  | .put k x => putR S x
  | .get k => getR S.sh k
  | .drop k => dropR S k
  | .pif k x last => putIfR S k x last
  | .hold k v n => sHoldR S k v
  | .held k v => heldR S.sh k v
  | .leave k v => leaveR S k v
  | .copy k v o => copyR S k v
  | .version k v => dataR S.sh k v
  | .send u n x => sendR S u n x
  | .sent u => openR S.up u (sentD (partsOf S.up u))
  | .cancel u => openR S.up u .none
  | .finish u rows => finishR S u rows
def Act.nxt (S : StS) : Act → StS
  | .put k x => S.put k x
  | .get k => S
  | .drop k => S.drop k
  | .pif k x last => S.put k x
  | .hold k v n => S.hold k v n
  | .held k v => S
  | .leave k v => S.leave k v
  | .copy k v o => S.copy k v o
  | .version k v => S
  | .send u n x => S.send u n x
  | .sent u => S
  | .cancel u => S.cancel u
  | .finish u rows => S.finish u rows
abbrev names9 : List Str := ["NoKey", "Gone", "NoVersion", "Changed", "Full", "NoUpload", "BadPart", "TooSmall", "Held"]
theorem fit_no {S : StS} {n : Int} {d : PyData} {c : Str} (h : fitR S n d = .no c) : c = "Full" := by
  unfold fitR at h
  split at h
  · cases h
  · cases h; rfl
theorem get_no {X : ShS} {k : Str} {c : Str} (h : getR X k = .no c) : c = "NoKey" ∨ c = "Gone" := by
  unfold getR at h
  split at h
  · cases h; exact .inl rfl
  · split at h
    · cases h; exact .inr rfl
    · cases h
theorem put_no {S : StS} {x : Str} {c : Str} (h : putR S x = .no c) : c = "Full" := fit_no h
theorem joint_no {Y : UpS} {u : Int} {rows : Parts} {c : Str} (h : joint Y u rows = .no c) : c = "NoUpload" ∨ c = "BadPart" ∨ c = "TooSmall" := by
  unfold joint at h
  split at h
  · cases h; exact .inl rfl
  · split at h
    · cases h; exact .inr (.inl rfl)
    · split at h
      · cases h; exact .inr (.inl rfl)
      · split at h
        · cases h; exact .inr (.inr rfl)
        · cases h
theorem act_no {S : StS} {act : Act} {c : Str} (h : act.res S = .no c) : c ∈ names9 := by
  have full : ∀ {c : Str}, c = "Full" → c ∈ names9 := fun z => by rw [z]; simp
  cases act with
  | put k x => exact full (put_no h)
  | get k => rcases get_no h with z | z <;> rw [z] <;> simp
  | drop k =>
    have h' : dropR S k = .no c := h
    unfold dropR at h'
    split at h'
    · rename_i c' hc
      cases h'
      rcases get_no hc with z | z <;> rw [z] <;> simp
    · cases h'
  | pif k x last =>
    have h' : putIfR S k x last = .no c := h
    unfold putIfR at h'
    split at h'
    · exact full (put_no h')
    · cases h'; simp
  | hold k v n =>
    have h' : sHoldR S k v = .no c := h
    unfold sHoldR at h'
    split at h'
    · cases h'; simp
    · cases h'
  | held k v =>
    have h' : heldR S.sh k v = .no c := h
    unfold heldR at h'
    split at h'
    · cases h'; simp
    · cases h'
  | leave k v =>
    have h' : leaveR S k v = .no c := h
    unfold leaveR at h'
    split at h'
    · cases h'; simp
    · split at h'
      · cases h'; simp
      · cases h'
  | copy k v o =>
    have h' : copyR S k v = .no c := h
    unfold copyR at h'
    split at h'
    · cases h'; simp
    · split at h'
      · cases h'; simp
      · exact full (put_no h')
  | version k v =>
    have h' : dataR S.sh k v = .no c := h
    unfold dataR at h'
    split at h'
    · cases h'; simp
    · split at h'
      · cases h'; simp
      · cases h'
  | send u n x =>
    have h' : sendR S u n x = .no c := h
    unfold sendR at h'
    split at h'
    · split at h'
      · exact full (fit_no h')
      · cases h'; simp
    · cases h'; simp
  | sent u =>
    have h' : openR S.up u _ = .no c := h
    unfold openR at h'
    split at h'
    · cases h'
    · cases h'; simp
  | cancel u =>
    have h' : openR S.up u _ = .no c := h
    unfold openR at h'
    split at h'
    · cases h'
    · cases h'; simp
  | finish u rows =>
    have h' : finishR S u rows = .no c := h
    unfold finishR at h'
    split at h'
    · rename_i c' hc
      cases h'
      rcases joint_no hc with z | z | z <;> rw [z] <;> simp
    · cases h'
def sp_law_call (K : PySem.W.Frag) : Sp := fun vs H Q E => ∃ (B : Hp) (a : Addr) (L : List Addr) (S : StS) (act : Act) (more : List PyData) (v : V), vs = [.ref a, .str act.way, v] ∧ Ex B H ∧ StAt K a S L B H ∧ StB S ∧ act.fine ∧ Da B v (.tuple (act.args ++ more)) ∧ RetCX K L (StAt K a (act.nxt S)) (act.res S) B H Q E
theorem len_law_call {K : PySem.W.Frag} {vs : List V} {H : Hp} {Q : VK} {E : XK} (h : sp_law_call K vs H Q E) : vs.length = 3 := by
  obtain ⟨_, _, _, _, _, _, _, rfl, _⟩ := h; rfl
/-- a read, as an act that changes nothing -/
theorem retx_c {K : PySem.W.Frag} {a : Addr} {L : List Addr} {S : StS} {r : Res} {B H : Hp} {Q : VK} {E : XK} (hA : StAt K a S L B H) (h : RetCX K L (StAt K a S) r B H Q E) : RetX K r B H Q E := by
  cases r with
  | ok d => exact fun v H' B' e x eb hd => h v H' B' L (Only.of e) (fun p hp => .inl hp) x eb (hA.grow e x) hd
  | no c => exact h
theorem atA {d : PyData} {ds more : List PyData} {i : Nat} (h : ds[i]? = some d) : atI (ds ++ more) (i : Int) = some d := atI_nat' (by omega) (by
  rw [Int.toNat_natCast, List.getElem?_append_left (List.getElem?_eq_some_iff.mp h).1]; exact h)
def t_law_call (K : PySem.W.Frag) (E : XK) : TS :=
  (tSeq (tIfS (tTest (tOp rEq (tVar 1) (tC (.str "put")))) (tRet (tMeth (He.ga K "Store") "put" (sp_Store_put K) [] E (tVar 0) (tCons (tOp (rIxT K) (tVar 2) (tC (.int 0))) (tCons (tOp (rIxT K) (tVar 2) (tC (.int 1))) tNil)))) tNext)
    (tSeq (tIfS (tTest (tOp rEq (tVar 1) (tC (.str "get")))) (tRet (tMeth (He.ga K "Store") "get" (sp_Store_get K) [] E (tVar 0) (tCons (tOp (rIxT K) (tVar 2) (tC (.int 0))) tNil))) tNext)
    (tSeq (tIfS (tTest (tOp rEq (tVar 1) (tC (.str "drop")))) (tRet (tMeth (He.ga K "Store") "drop" (sp_Store_drop K) [] E (tVar 0) (tCons (tOp (rIxT K) (tVar 2) (tC (.int 0))) tNil))) tNext)
    (tSeq (tIfS (tTest (tOp rEq (tVar 1) (tC (.str "if")))) (tRet (tMeth (He.ga K "Store") "put_if" (sp_Store_put_if K) [] E (tVar 0) (tCons (tOp (rIxT K) (tVar 2) (tC (.int 0))) (tCons (tOp (rIxT K) (tVar 2) (tC (.int 1))) (tCons (tOp (rIxT K) (tVar 2) (tC (.int 2))) tNil))))) tNext)
    (tSeq (tIfS (tTest (tOp rEq (tVar 1) (tC (.str "hold")))) (tRet (tMeth (He.ga K "Store") "hold" (sp_Store_hold K) [] E (tVar 0) (tCons (tOp (rIxT K) (tVar 2) (tC (.int 0))) (tCons (tOp (rIxT K) (tVar 2) (tC (.int 1))) (tCons (tOp (rIxT K) (tVar 2) (tC (.int 2))) tNil))))) tNext)
    (tSeq (tIfS (tTest (tOp rEq (tVar 1) (tC (.str "held")))) (tRet (tMeth (He.ga K "Store") "held" (sp_Store_held K) [] E (tVar 0) (tCons (tOp (rIxT K) (tVar 2) (tC (.int 0))) (tCons (tOp (rIxT K) (tVar 2) (tC (.int 1))) tNil)))) tNext)
    (tSeq (tIfS (tTest (tOp rEq (tVar 1) (tC (.str "leave")))) (tRet (tMeth (He.ga K "Store") "drop_version" (sp_Store_drop_version K) [] E (tVar 0) (tCons (tOp (rIxT K) (tVar 2) (tC (.int 0))) (tCons (tOp (rIxT K) (tVar 2) (tC (.int 1))) tNil)))) tNext)
    (tSeq (tIfS (tTest (tOp rEq (tVar 1) (tC (.str "copy")))) (tRet (tMeth (He.ga K "Store") "copy" (sp_Store_copy K) [] E (tVar 0) (tCons (tOp (rIxT K) (tVar 2) (tC (.int 0))) (tCons (tOp (rIxT K) (tVar 2) (tC (.int 1))) (tCons (tOp (rIxT K) (tVar 2) (tC (.int 2))) tNil))))) tNext)
    (tSeq (tIfS (tTest (tOp rEq (tVar 1) (tC (.str "version")))) (tRet (tMeth (He.ga K "Store") "get_version" (sp_Store_get_version K) [] E (tVar 0) (tCons (tOp (rIxT K) (tVar 2) (tC (.int 0))) (tCons (tOp (rIxT K) (tVar 2) (tC (.int 1))) tNil)))) tNext)
    (tSeq (tIfS (tTest (tOp rEq (tVar 1) (tC (.str "send")))) (tRet (tMeth (He.ga K "Store") "send" (sp_Store_send K) [] E (tVar 0) (tCons (tOp (rIxT K) (tVar 2) (tC (.int 0))) (tCons (tOp (rIxT K) (tVar 2) (tC (.int 1))) (tCons (tOp (rIxT K) (tVar 2) (tC (.int 2))) tNil))))) tNext)
    (tSeq (tIfS (tTest (tOp rEq (tVar 1) (tC (.str "sent")))) (tRet (tMeth (He.ga K "Store") "sent" (sp_Store_sent K) [] E (tVar 0) (tCons (tOp (rIxT K) (tVar 2) (tC (.int 0))) tNil))) tNext)
    (tSeq (tIfS (tTest (tOp rEq (tVar 1) (tC (.str "cancel")))) (tRet (tMeth (He.ga K "Store") "cancel" (sp_Store_cancel K) [] E (tVar 0) (tCons (tOp (rIxT K) (tVar 2) (tC (.int 0))) tNil))) tNext)
    (tRet (tMeth (He.ga K "Store") "finish" (sp_Store_finish K) [] E (tVar 0) (tCons (tOp (rIxT K) (tVar 2) (tC (.int 0))) (tCons (tOp (rIxT K) (tVar 2) (tC (.int 1))) tNil))))))))))))))))
theorem pure_law_call {K : PySem.W.Frag}  {vs : List V} {H : Hp} {Q : VK} {E : XK} (h : sp_law_call K vs H Q E) : t_law_call K E { nx := fun _ H' => Q .non H', rt := Q } (start ["store", "way", "some"] vs) H := by
  obtain ⟨B, a, L, S, act, more, vt, rfl, eb, hA, hB, hf, hv, r⟩ := h
  have at_ : ∀ {i : Nat} {d : PyData} (H : Hp), act.args[i]? = some d → EvD (tOp (rIxT K) (tVar 2) (tC (.int (i : Int)))) [some (.ref a), some (.str act.way), some vt] B H d := fun H h => evd_ixT (evd_var rfl hv) evd_ci (atA h)
  cases act with
  | put k x =>
    refine q_when (B := B) (b := true) (EvB.is (evb_test (evd_eqS (evd_varS rfl) (evd_cs (x := "put")))) (by show decide (("put" : Str) = "put") = true; decide +kernel)) eb (fun _ H0 e0 eb0 => ?_) (fun z => nomatch z)
    have hA' := hA.grow e0 (Ext.refl B H)
    exact run_Store_put (evf_var rfl) (at_ (i := 0) H0 rfl) (at_ (i := 1) H0 rfl) eb0 hA' hB hf (RetCX.grow r e0 (Ext.refl _ _))
  | get k =>
    refine q_pass (B := B) (EvB.is (evb_test (evd_eqS (evd_varS rfl) (evd_cs (x := "put")))) (by show decide (("get" : Str) = "put") = false; decide +kernel)) eb fun H0 e0 eb0 => ?_
    refine q_when (B := B) (b := true) (EvB.is (evb_test (evd_eqS (evd_varS rfl) (evd_cs (x := "get")))) (by show decide (("get" : Str) = "get") = true; decide +kernel)) eb0 (fun _ H1 e1 eb1 => ?_) (fun z => nomatch z)
    have hA' := hA.grow (e0.trans e1) (Ext.refl B H)
    exact mxv_Store_get (σ := [some (.ref a), some (.str _), some vt]) (evf_var (i := 0) rfl) (at_ (i := 0) H1 rfl) hA' hB H1 (Ex.refl _) eb1 _ (retx_c hA' (RetCX.grow r (e0.trans e1) (Ext.refl _ _)))
  | drop k =>
    refine q_pass (B := B) (EvB.is (evb_test (evd_eqS (evd_varS rfl) (evd_cs (x := "put")))) (by show decide (("drop" : Str) = "put") = false; decide +kernel)) eb fun H0 e0 eb0 => ?_
    refine q_pass (B := B) (EvB.is (evb_test (evd_eqS (evd_varS rfl) (evd_cs (x := "get")))) (by show decide (("drop" : Str) = "get") = false; decide +kernel)) eb0 fun H1 e1 eb1 => ?_
    refine q_when (B := B) (b := true) (EvB.is (evb_test (evd_eqS (evd_varS rfl) (evd_cs (x := "drop")))) (by show decide (("drop" : Str) = "drop") = true; decide +kernel)) eb1 (fun _ H2 e2 eb2 => ?_) (fun z => nomatch z)
    have hA' := hA.grow ((e0.trans e1).trans e2) (Ext.refl B H)
    exact run_Store_drop (evf_var rfl) (at_ (i := 0) H2 rfl) eb2 hA' hB (RetCX.grow r ((e0.trans e1).trans e2) (Ext.refl _ _))
  | pif k x last =>
    refine q_pass (B := B) (EvB.is (evb_test (evd_eqS (evd_varS rfl) (evd_cs (x := "put")))) (by show decide (("if" : Str) = "put") = false; decide +kernel)) eb fun H0 e0 eb0 => ?_
    refine q_pass (B := B) (EvB.is (evb_test (evd_eqS (evd_varS rfl) (evd_cs (x := "get")))) (by show decide (("if" : Str) = "get") = false; decide +kernel)) eb0 fun H1 e1 eb1 => ?_
    refine q_pass (B := B) (EvB.is (evb_test (evd_eqS (evd_varS rfl) (evd_cs (x := "drop")))) (by show decide (("if" : Str) = "drop") = false; decide +kernel)) eb1 fun H2 e2 eb2 => ?_
    refine q_when (B := B) (b := true) (EvB.is (evb_test (evd_eqS (evd_varS rfl) (evd_cs (x := "if")))) (by show decide (("if" : Str) = "if") = true; decide +kernel)) eb2 (fun _ H3 e3 eb3 => ?_) (fun z => nomatch z)
    have hA' := hA.grow (((e0.trans e1).trans e2).trans e3) (Ext.refl B H)
    exact run_Store_put_if (evf_var rfl) (at_ (i := 0) H3 rfl) (at_ (i := 1) H3 rfl) (at_ (i := 2) H3 rfl) eb3 hA' hB hf (RetCX.grow r (((e0.trans e1).trans e2).trans e3) (Ext.refl _ _))
  | hold k v n =>
    refine q_pass (B := B) (EvB.is (evb_test (evd_eqS (evd_varS rfl) (evd_cs (x := "put")))) (by show decide (("hold" : Str) = "put") = false; decide +kernel)) eb fun H0 e0 eb0 => ?_
    refine q_pass (B := B) (EvB.is (evb_test (evd_eqS (evd_varS rfl) (evd_cs (x := "get")))) (by show decide (("hold" : Str) = "get") = false; decide +kernel)) eb0 fun H1 e1 eb1 => ?_
    refine q_pass (B := B) (EvB.is (evb_test (evd_eqS (evd_varS rfl) (evd_cs (x := "drop")))) (by show decide (("hold" : Str) = "drop") = false; decide +kernel)) eb1 fun H2 e2 eb2 => ?_
    refine q_pass (B := B) (EvB.is (evb_test (evd_eqS (evd_varS rfl) (evd_cs (x := "if")))) (by show decide (("hold" : Str) = "if") = false; decide +kernel)) eb2 fun H3 e3 eb3 => ?_
    refine q_when (B := B) (b := true) (EvB.is (evb_test (evd_eqS (evd_varS rfl) (evd_cs (x := "hold")))) (by show decide (("hold" : Str) = "hold") = true; decide +kernel)) eb3 (fun _ H4 e4 eb4 => ?_) (fun z => nomatch z)
    have hA' := hA.grow ((((e0.trans e1).trans e2).trans e3).trans e4) (Ext.refl B H)
    exact run_Store_hold (evf_var rfl) (at_ (i := 0) H4 rfl) (at_ (i := 1) H4 rfl) (at_ (i := 2) H4 rfl) eb4 hA' hB (RetCX.grow r ((((e0.trans e1).trans e2).trans e3).trans e4) (Ext.refl _ _))
  | held k v =>
    refine q_pass (B := B) (EvB.is (evb_test (evd_eqS (evd_varS rfl) (evd_cs (x := "put")))) (by show decide (("held" : Str) = "put") = false; decide +kernel)) eb fun H0 e0 eb0 => ?_
    refine q_pass (B := B) (EvB.is (evb_test (evd_eqS (evd_varS rfl) (evd_cs (x := "get")))) (by show decide (("held" : Str) = "get") = false; decide +kernel)) eb0 fun H1 e1 eb1 => ?_
    refine q_pass (B := B) (EvB.is (evb_test (evd_eqS (evd_varS rfl) (evd_cs (x := "drop")))) (by show decide (("held" : Str) = "drop") = false; decide +kernel)) eb1 fun H2 e2 eb2 => ?_
    refine q_pass (B := B) (EvB.is (evb_test (evd_eqS (evd_varS rfl) (evd_cs (x := "if")))) (by show decide (("held" : Str) = "if") = false; decide +kernel)) eb2 fun H3 e3 eb3 => ?_
    refine q_pass (B := B) (EvB.is (evb_test (evd_eqS (evd_varS rfl) (evd_cs (x := "hold")))) (by show decide (("held" : Str) = "hold") = false; decide +kernel)) eb3 fun H4 e4 eb4 => ?_
    refine q_when (B := B) (b := true) (EvB.is (evb_test (evd_eqS (evd_varS rfl) (evd_cs (x := "held")))) (by show decide (("held" : Str) = "held") = true; decide +kernel)) eb4 (fun _ H5 e5 eb5 => ?_) (fun z => nomatch z)
    have hA' := hA.grow (((((e0.trans e1).trans e2).trans e3).trans e4).trans e5) (Ext.refl B H)
    exact mxv_Store_held (σ := [some (.ref a), some (.str _), some vt]) (evf_var (i := 0) rfl) (at_ (i := 0) H5 rfl) (at_ (i := 1) H5 rfl) hA' hB H5 (Ex.refl _) eb5 _ (retx_c hA' (RetCX.grow r (((((e0.trans e1).trans e2).trans e3).trans e4).trans e5) (Ext.refl _ _)))
  | leave k v =>
    refine q_pass (B := B) (EvB.is (evb_test (evd_eqS (evd_varS rfl) (evd_cs (x := "put")))) (by show decide (("leave" : Str) = "put") = false; decide +kernel)) eb fun H0 e0 eb0 => ?_
    refine q_pass (B := B) (EvB.is (evb_test (evd_eqS (evd_varS rfl) (evd_cs (x := "get")))) (by show decide (("leave" : Str) = "get") = false; decide +kernel)) eb0 fun H1 e1 eb1 => ?_
    refine q_pass (B := B) (EvB.is (evb_test (evd_eqS (evd_varS rfl) (evd_cs (x := "drop")))) (by show decide (("leave" : Str) = "drop") = false; decide +kernel)) eb1 fun H2 e2 eb2 => ?_
    refine q_pass (B := B) (EvB.is (evb_test (evd_eqS (evd_varS rfl) (evd_cs (x := "if")))) (by show decide (("leave" : Str) = "if") = false; decide +kernel)) eb2 fun H3 e3 eb3 => ?_
    refine q_pass (B := B) (EvB.is (evb_test (evd_eqS (evd_varS rfl) (evd_cs (x := "hold")))) (by show decide (("leave" : Str) = "hold") = false; decide +kernel)) eb3 fun H4 e4 eb4 => ?_
    refine q_pass (B := B) (EvB.is (evb_test (evd_eqS (evd_varS rfl) (evd_cs (x := "held")))) (by show decide (("leave" : Str) = "held") = false; decide +kernel)) eb4 fun H5 e5 eb5 => ?_
    refine q_when (B := B) (b := true) (EvB.is (evb_test (evd_eqS (evd_varS rfl) (evd_cs (x := "leave")))) (by show decide (("leave" : Str) = "leave") = true; decide +kernel)) eb5 (fun _ H6 e6 eb6 => ?_) (fun z => nomatch z)
    have hA' := hA.grow ((((((e0.trans e1).trans e2).trans e3).trans e4).trans e5).trans e6) (Ext.refl B H)
    exact run_Store_drop_version (evf_var rfl) (at_ (i := 0) H6 rfl) (at_ (i := 1) H6 rfl) eb6 hA' hB (RetCX.grow r ((((((e0.trans e1).trans e2).trans e3).trans e4).trans e5).trans e6) (Ext.refl _ _))
  | copy k v o =>
    refine q_pass (B := B) (EvB.is (evb_test (evd_eqS (evd_varS rfl) (evd_cs (x := "put")))) (by show decide (("copy" : Str) = "put") = false; decide +kernel)) eb fun H0 e0 eb0 => ?_
    refine q_pass (B := B) (EvB.is (evb_test (evd_eqS (evd_varS rfl) (evd_cs (x := "get")))) (by show decide (("copy" : Str) = "get") = false; decide +kernel)) eb0 fun H1 e1 eb1 => ?_
    refine q_pass (B := B) (EvB.is (evb_test (evd_eqS (evd_varS rfl) (evd_cs (x := "drop")))) (by show decide (("copy" : Str) = "drop") = false; decide +kernel)) eb1 fun H2 e2 eb2 => ?_
    refine q_pass (B := B) (EvB.is (evb_test (evd_eqS (evd_varS rfl) (evd_cs (x := "if")))) (by show decide (("copy" : Str) = "if") = false; decide +kernel)) eb2 fun H3 e3 eb3 => ?_
    refine q_pass (B := B) (EvB.is (evb_test (evd_eqS (evd_varS rfl) (evd_cs (x := "hold")))) (by show decide (("copy" : Str) = "hold") = false; decide +kernel)) eb3 fun H4 e4 eb4 => ?_
    refine q_pass (B := B) (EvB.is (evb_test (evd_eqS (evd_varS rfl) (evd_cs (x := "held")))) (by show decide (("copy" : Str) = "held") = false; decide +kernel)) eb4 fun H5 e5 eb5 => ?_
    refine q_pass (B := B) (EvB.is (evb_test (evd_eqS (evd_varS rfl) (evd_cs (x := "leave")))) (by show decide (("copy" : Str) = "leave") = false; decide +kernel)) eb5 fun H6 e6 eb6 => ?_
    refine q_when (B := B) (b := true) (EvB.is (evb_test (evd_eqS (evd_varS rfl) (evd_cs (x := "copy")))) (by show decide (("copy" : Str) = "copy") = true; decide +kernel)) eb6 (fun _ H7 e7 eb7 => ?_) (fun z => nomatch z)
    have hA' := hA.grow (((((((e0.trans e1).trans e2).trans e3).trans e4).trans e5).trans e6).trans e7) (Ext.refl B H)
    exact run_Store_copy (evf_var rfl) (at_ (i := 0) H7 rfl) (at_ (i := 1) H7 rfl) (at_ (i := 2) H7 rfl) eb7 hA' hB (RetCX.grow r (((((((e0.trans e1).trans e2).trans e3).trans e4).trans e5).trans e6).trans e7) (Ext.refl _ _))
  | version k v =>
    refine q_pass (B := B) (EvB.is (evb_test (evd_eqS (evd_varS rfl) (evd_cs (x := "put")))) (by show decide (("version" : Str) = "put") = false; decide +kernel)) eb fun H0 e0 eb0 => ?_
    refine q_pass (B := B) (EvB.is (evb_test (evd_eqS (evd_varS rfl) (evd_cs (x := "get")))) (by show decide (("version" : Str) = "get") = false; decide +kernel)) eb0 fun H1 e1 eb1 => ?_
    refine q_pass (B := B) (EvB.is (evb_test (evd_eqS (evd_varS rfl) (evd_cs (x := "drop")))) (by show decide (("version" : Str) = "drop") = false; decide +kernel)) eb1 fun H2 e2 eb2 => ?_
    refine q_pass (B := B) (EvB.is (evb_test (evd_eqS (evd_varS rfl) (evd_cs (x := "if")))) (by show decide (("version" : Str) = "if") = false; decide +kernel)) eb2 fun H3 e3 eb3 => ?_
    refine q_pass (B := B) (EvB.is (evb_test (evd_eqS (evd_varS rfl) (evd_cs (x := "hold")))) (by show decide (("version" : Str) = "hold") = false; decide +kernel)) eb3 fun H4 e4 eb4 => ?_
    refine q_pass (B := B) (EvB.is (evb_test (evd_eqS (evd_varS rfl) (evd_cs (x := "held")))) (by show decide (("version" : Str) = "held") = false; decide +kernel)) eb4 fun H5 e5 eb5 => ?_
    refine q_pass (B := B) (EvB.is (evb_test (evd_eqS (evd_varS rfl) (evd_cs (x := "leave")))) (by show decide (("version" : Str) = "leave") = false; decide +kernel)) eb5 fun H6 e6 eb6 => ?_
    refine q_pass (B := B) (EvB.is (evb_test (evd_eqS (evd_varS rfl) (evd_cs (x := "copy")))) (by show decide (("version" : Str) = "copy") = false; decide +kernel)) eb6 fun H7 e7 eb7 => ?_
    refine q_when (B := B) (b := true) (EvB.is (evb_test (evd_eqS (evd_varS rfl) (evd_cs (x := "version")))) (by show decide (("version" : Str) = "version") = true; decide +kernel)) eb7 (fun _ H8 e8 eb8 => ?_) (fun z => nomatch z)
    have hA' := hA.grow ((((((((e0.trans e1).trans e2).trans e3).trans e4).trans e5).trans e6).trans e7).trans e8) (Ext.refl B H)
    exact mxv_Store_get_version (σ := [some (.ref a), some (.str _), some vt]) (evf_var (i := 0) rfl) (at_ (i := 0) H8 rfl) (at_ (i := 1) H8 rfl) hA' hB H8 (Ex.refl _) eb8 _ (retx_c hA' (RetCX.grow r ((((((((e0.trans e1).trans e2).trans e3).trans e4).trans e5).trans e6).trans e7).trans e8) (Ext.refl _ _)))
  | send u n x =>
    refine q_pass (B := B) (EvB.is (evb_test (evd_eqS (evd_varS rfl) (evd_cs (x := "put")))) (by show decide (("send" : Str) = "put") = false; decide +kernel)) eb fun H0 e0 eb0 => ?_
    refine q_pass (B := B) (EvB.is (evb_test (evd_eqS (evd_varS rfl) (evd_cs (x := "get")))) (by show decide (("send" : Str) = "get") = false; decide +kernel)) eb0 fun H1 e1 eb1 => ?_
    refine q_pass (B := B) (EvB.is (evb_test (evd_eqS (evd_varS rfl) (evd_cs (x := "drop")))) (by show decide (("send" : Str) = "drop") = false; decide +kernel)) eb1 fun H2 e2 eb2 => ?_
    refine q_pass (B := B) (EvB.is (evb_test (evd_eqS (evd_varS rfl) (evd_cs (x := "if")))) (by show decide (("send" : Str) = "if") = false; decide +kernel)) eb2 fun H3 e3 eb3 => ?_
    refine q_pass (B := B) (EvB.is (evb_test (evd_eqS (evd_varS rfl) (evd_cs (x := "hold")))) (by show decide (("send" : Str) = "hold") = false; decide +kernel)) eb3 fun H4 e4 eb4 => ?_
    refine q_pass (B := B) (EvB.is (evb_test (evd_eqS (evd_varS rfl) (evd_cs (x := "held")))) (by show decide (("send" : Str) = "held") = false; decide +kernel)) eb4 fun H5 e5 eb5 => ?_
    refine q_pass (B := B) (EvB.is (evb_test (evd_eqS (evd_varS rfl) (evd_cs (x := "leave")))) (by show decide (("send" : Str) = "leave") = false; decide +kernel)) eb5 fun H6 e6 eb6 => ?_
    refine q_pass (B := B) (EvB.is (evb_test (evd_eqS (evd_varS rfl) (evd_cs (x := "copy")))) (by show decide (("send" : Str) = "copy") = false; decide +kernel)) eb6 fun H7 e7 eb7 => ?_
    refine q_pass (B := B) (EvB.is (evb_test (evd_eqS (evd_varS rfl) (evd_cs (x := "version")))) (by show decide (("send" : Str) = "version") = false; decide +kernel)) eb7 fun H8 e8 eb8 => ?_
    refine q_when (B := B) (b := true) (EvB.is (evb_test (evd_eqS (evd_varS rfl) (evd_cs (x := "send")))) (by show decide (("send" : Str) = "send") = true; decide +kernel)) eb8 (fun _ H9 e9 eb9 => ?_) (fun z => nomatch z)
    have hA' := hA.grow (((((((((e0.trans e1).trans e2).trans e3).trans e4).trans e5).trans e6).trans e7).trans e8).trans e9) (Ext.refl B H)
    exact run_Store_send (evf_var rfl) (at_ (i := 0) H9 rfl) (at_ (i := 1) H9 rfl) (at_ (i := 2) H9 rfl) eb9 hA' hB hf (RetCX.grow r (((((((((e0.trans e1).trans e2).trans e3).trans e4).trans e5).trans e6).trans e7).trans e8).trans e9) (Ext.refl _ _))
  | sent u =>
    refine q_pass (B := B) (EvB.is (evb_test (evd_eqS (evd_varS rfl) (evd_cs (x := "put")))) (by show decide (("sent" : Str) = "put") = false; decide +kernel)) eb fun H0 e0 eb0 => ?_
    refine q_pass (B := B) (EvB.is (evb_test (evd_eqS (evd_varS rfl) (evd_cs (x := "get")))) (by show decide (("sent" : Str) = "get") = false; decide +kernel)) eb0 fun H1 e1 eb1 => ?_
    refine q_pass (B := B) (EvB.is (evb_test (evd_eqS (evd_varS rfl) (evd_cs (x := "drop")))) (by show decide (("sent" : Str) = "drop") = false; decide +kernel)) eb1 fun H2 e2 eb2 => ?_
    refine q_pass (B := B) (EvB.is (evb_test (evd_eqS (evd_varS rfl) (evd_cs (x := "if")))) (by show decide (("sent" : Str) = "if") = false; decide +kernel)) eb2 fun H3 e3 eb3 => ?_
    refine q_pass (B := B) (EvB.is (evb_test (evd_eqS (evd_varS rfl) (evd_cs (x := "hold")))) (by show decide (("sent" : Str) = "hold") = false; decide +kernel)) eb3 fun H4 e4 eb4 => ?_
    refine q_pass (B := B) (EvB.is (evb_test (evd_eqS (evd_varS rfl) (evd_cs (x := "held")))) (by show decide (("sent" : Str) = "held") = false; decide +kernel)) eb4 fun H5 e5 eb5 => ?_
    refine q_pass (B := B) (EvB.is (evb_test (evd_eqS (evd_varS rfl) (evd_cs (x := "leave")))) (by show decide (("sent" : Str) = "leave") = false; decide +kernel)) eb5 fun H6 e6 eb6 => ?_
    refine q_pass (B := B) (EvB.is (evb_test (evd_eqS (evd_varS rfl) (evd_cs (x := "copy")))) (by show decide (("sent" : Str) = "copy") = false; decide +kernel)) eb6 fun H7 e7 eb7 => ?_
    refine q_pass (B := B) (EvB.is (evb_test (evd_eqS (evd_varS rfl) (evd_cs (x := "version")))) (by show decide (("sent" : Str) = "version") = false; decide +kernel)) eb7 fun H8 e8 eb8 => ?_
    refine q_pass (B := B) (EvB.is (evb_test (evd_eqS (evd_varS rfl) (evd_cs (x := "send")))) (by show decide (("sent" : Str) = "send") = false; decide +kernel)) eb8 fun H9 e9 eb9 => ?_
    refine q_when (B := B) (b := true) (EvB.is (evb_test (evd_eqS (evd_varS rfl) (evd_cs (x := "sent")))) (by show decide (("sent" : Str) = "sent") = true; decide +kernel)) eb9 (fun _ H10 e10 eb10 => ?_) (fun z => nomatch z)
    have hA' := hA.grow ((((((((((e0.trans e1).trans e2).trans e3).trans e4).trans e5).trans e6).trans e7).trans e8).trans e9).trans e10) (Ext.refl B H)
    exact mxv_Store_sent (σ := [some (.ref a), some (.str _), some vt]) (evf_var (i := 0) rfl) (at_ (i := 0) H10 rfl) hA' hB H10 (Ex.refl _) eb10 _ (retx_c hA' (RetCX.grow r ((((((((((e0.trans e1).trans e2).trans e3).trans e4).trans e5).trans e6).trans e7).trans e8).trans e9).trans e10) (Ext.refl _ _)))
  | cancel u =>
    refine q_pass (B := B) (EvB.is (evb_test (evd_eqS (evd_varS rfl) (evd_cs (x := "put")))) (by show decide (("cancel" : Str) = "put") = false; decide +kernel)) eb fun H0 e0 eb0 => ?_
    refine q_pass (B := B) (EvB.is (evb_test (evd_eqS (evd_varS rfl) (evd_cs (x := "get")))) (by show decide (("cancel" : Str) = "get") = false; decide +kernel)) eb0 fun H1 e1 eb1 => ?_
    refine q_pass (B := B) (EvB.is (evb_test (evd_eqS (evd_varS rfl) (evd_cs (x := "drop")))) (by show decide (("cancel" : Str) = "drop") = false; decide +kernel)) eb1 fun H2 e2 eb2 => ?_
    refine q_pass (B := B) (EvB.is (evb_test (evd_eqS (evd_varS rfl) (evd_cs (x := "if")))) (by show decide (("cancel" : Str) = "if") = false; decide +kernel)) eb2 fun H3 e3 eb3 => ?_
    refine q_pass (B := B) (EvB.is (evb_test (evd_eqS (evd_varS rfl) (evd_cs (x := "hold")))) (by show decide (("cancel" : Str) = "hold") = false; decide +kernel)) eb3 fun H4 e4 eb4 => ?_
    refine q_pass (B := B) (EvB.is (evb_test (evd_eqS (evd_varS rfl) (evd_cs (x := "held")))) (by show decide (("cancel" : Str) = "held") = false; decide +kernel)) eb4 fun H5 e5 eb5 => ?_
    refine q_pass (B := B) (EvB.is (evb_test (evd_eqS (evd_varS rfl) (evd_cs (x := "leave")))) (by show decide (("cancel" : Str) = "leave") = false; decide +kernel)) eb5 fun H6 e6 eb6 => ?_
    refine q_pass (B := B) (EvB.is (evb_test (evd_eqS (evd_varS rfl) (evd_cs (x := "copy")))) (by show decide (("cancel" : Str) = "copy") = false; decide +kernel)) eb6 fun H7 e7 eb7 => ?_
    refine q_pass (B := B) (EvB.is (evb_test (evd_eqS (evd_varS rfl) (evd_cs (x := "version")))) (by show decide (("cancel" : Str) = "version") = false; decide +kernel)) eb7 fun H8 e8 eb8 => ?_
    refine q_pass (B := B) (EvB.is (evb_test (evd_eqS (evd_varS rfl) (evd_cs (x := "send")))) (by show decide (("cancel" : Str) = "send") = false; decide +kernel)) eb8 fun H9 e9 eb9 => ?_
    refine q_pass (B := B) (EvB.is (evb_test (evd_eqS (evd_varS rfl) (evd_cs (x := "sent")))) (by show decide (("cancel" : Str) = "sent") = false; decide +kernel)) eb9 fun H10 e10 eb10 => ?_
    refine q_when (B := B) (b := true) (EvB.is (evb_test (evd_eqS (evd_varS rfl) (evd_cs (x := "cancel")))) (by show decide (("cancel" : Str) = "cancel") = true; decide +kernel)) eb10 (fun _ H11 e11 eb11 => ?_) (fun z => nomatch z)
    have hA' := hA.grow (((((((((((e0.trans e1).trans e2).trans e3).trans e4).trans e5).trans e6).trans e7).trans e8).trans e9).trans e10).trans e11) (Ext.refl B H)
    exact run_Store_cancel (evf_var rfl) (at_ (i := 0) H11 rfl) eb11 hA' hB (RetCX.grow r (((((((((((e0.trans e1).trans e2).trans e3).trans e4).trans e5).trans e6).trans e7).trans e8).trans e9).trans e10).trans e11) (Ext.refl _ _))
  | finish u rows =>
    refine q_pass (B := B) (EvB.is (evb_test (evd_eqS (evd_varS rfl) (evd_cs (x := "put")))) (by show decide (("finish" : Str) = "put") = false; decide +kernel)) eb fun H0 e0 eb0 => ?_
    refine q_pass (B := B) (EvB.is (evb_test (evd_eqS (evd_varS rfl) (evd_cs (x := "get")))) (by show decide (("finish" : Str) = "get") = false; decide +kernel)) eb0 fun H1 e1 eb1 => ?_
    refine q_pass (B := B) (EvB.is (evb_test (evd_eqS (evd_varS rfl) (evd_cs (x := "drop")))) (by show decide (("finish" : Str) = "drop") = false; decide +kernel)) eb1 fun H2 e2 eb2 => ?_
    refine q_pass (B := B) (EvB.is (evb_test (evd_eqS (evd_varS rfl) (evd_cs (x := "if")))) (by show decide (("finish" : Str) = "if") = false; decide +kernel)) eb2 fun H3 e3 eb3 => ?_
    refine q_pass (B := B) (EvB.is (evb_test (evd_eqS (evd_varS rfl) (evd_cs (x := "hold")))) (by show decide (("finish" : Str) = "hold") = false; decide +kernel)) eb3 fun H4 e4 eb4 => ?_
    refine q_pass (B := B) (EvB.is (evb_test (evd_eqS (evd_varS rfl) (evd_cs (x := "held")))) (by show decide (("finish" : Str) = "held") = false; decide +kernel)) eb4 fun H5 e5 eb5 => ?_
    refine q_pass (B := B) (EvB.is (evb_test (evd_eqS (evd_varS rfl) (evd_cs (x := "leave")))) (by show decide (("finish" : Str) = "leave") = false; decide +kernel)) eb5 fun H6 e6 eb6 => ?_
    refine q_pass (B := B) (EvB.is (evb_test (evd_eqS (evd_varS rfl) (evd_cs (x := "copy")))) (by show decide (("finish" : Str) = "copy") = false; decide +kernel)) eb6 fun H7 e7 eb7 => ?_
    refine q_pass (B := B) (EvB.is (evb_test (evd_eqS (evd_varS rfl) (evd_cs (x := "version")))) (by show decide (("finish" : Str) = "version") = false; decide +kernel)) eb7 fun H8 e8 eb8 => ?_
    refine q_pass (B := B) (EvB.is (evb_test (evd_eqS (evd_varS rfl) (evd_cs (x := "send")))) (by show decide (("finish" : Str) = "send") = false; decide +kernel)) eb8 fun H9 e9 eb9 => ?_
    refine q_pass (B := B) (EvB.is (evb_test (evd_eqS (evd_varS rfl) (evd_cs (x := "sent")))) (by show decide (("finish" : Str) = "sent") = false; decide +kernel)) eb9 fun H10 e10 eb10 => ?_
    refine q_pass (B := B) (EvB.is (evb_test (evd_eqS (evd_varS rfl) (evd_cs (x := "cancel")))) (by show decide (("finish" : Str) = "cancel") = false; decide +kernel)) eb10 fun H11 e11 eb11 => ?_
    have hA' := hA.grow (((((((((((e0.trans e1).trans e2).trans e3).trans e4).trans e5).trans e6).trans e7).trans e8).trans e9).trans e10).trans e11) (Ext.refl B H)
    exact run_Store_finish (evf_var rfl) (at_ (i := 0) H11 rfl) (at_ (i := 1) H11 rfl) eb11 hA' hB hf (RetCX.grow r (((((((((((e0.trans e1).trans e2).trans e3).trans e4).trans e5).trans e6).trans e7).trans e8).trans e9).trans e10).trans e11) (Ext.refl _ _))
/-! ### what is told: refused, or not -/
def noD (c : Str) : PyData := .tuple (.str "refused" :: names9.map fun n => .bool (decide (n = c)))
def askD : Res → PyData
  | .ok d => d
  | .no c => noD c
def Act.nxt' (S : StS) (act : Act) : StS := match act.res S with
  | .ok _ => act.nxt S
  | .no _ => S
def sp_law_no (K : PySem.W.Frag) : Sp := fun vs H Q _ => ∃ (B : Hp) (c : Str), vs = [.str c] ∧ Ex B H ∧ Ret (noD c) B H Q
theorem len_law_no {K : PySem.W.Frag} {vs : List V} {H : Hp} {Q : VK} {E : XK} (h : sp_law_no K vs H Q E) : vs.length = 1 := by
  obtain ⟨_, _, rfl, _⟩ := h; rfl
def t_law_no (K : PySem.W.Frag) (E : XK) : TS :=
  (tSeq (tAsg (tTup (tCons (tC (.str "NoKey")) (tCons (tC (.str "Gone")) (tCons (tC (.str "NoVersion")) (tCons (tC (.str "Changed")) (tCons (tC (.str "Full")) (tCons (tC (.str "NoUpload")) (tCons (tC (.str "BadPart")) (tCons (tC (.str "TooSmall")) (tCons (tC (.str "Held")) tNil)))))))))) (gName 1))
    (tRet (tOp (rCatA K) (tTup (tCons (tC (.str "refused")) tNil)) (tCB (rTupleOf K) (tCons (tLc (iTup K (tVar 1)) (gName 2) tYes (tOp rEq (tVar 2) (tVar 0)) [2]) tNil)))))
theorem pure_law_no {K : PySem.W.Frag}  {vs : List V} {H : Hp} {Q : VK} {E : XK} (h : sp_law_no K vs H Q E) : t_law_no K E { nx := fun _ H' => Q .non H', rt := Q } (start ["name", "names", "one"] vs) H := by
  obtain ⟨B, c, rfl, eb, r⟩ := h
  refine q_asg (B := B) (d := .tuple (names9.map .str)) (evd_tup (evs_cons evd_cs (evs_cons evd_cs (evs_cons evd_cs (evs_cons evd_cs (evs_cons evd_cs (evs_cons evd_cs (evs_cons evd_cs (evs_cons evd_cs (evs_cons evd_cs evs_nil)))))))))) eb fun v H1 B1 e1 x1 eb1 hv => ?_
  refine s_ret (B := B1) (d := noD c) ?_ eb1 (r.grow e1 x1)
  refine evd_catT (ds := [.str "refused"]) (es := names9.map fun n => .bool (decide (n = c))) (evd_tup (evs_cons evd_cs evs_nil)) (evd_tupleL ?_)
  refine evd_lc1 (σ := [some (.str c), some v, none]) (j := 2) (vs := [2]) PyData.str (fun n => .bool (decide (n = c))) (as := names9) (src_tup (evd_var (i := 1) rfl hv)) (by decide) (fun x => rfl) fun n hn x B2 H2 eb' eh' e' hx => ?_
  cases hx
  exact evd_eqS (evd_varS rfl) (evd_varS rfl)
theorem cev_law_no {K : PySem.W.Frag} {σ : Sig} {B H : Hp} {ta : TE} {E : XK} {c : Str} (ha : EvD ta σ B H (.str c)) : EvD (tCall (sp_law_no K) [] E (tCons ta tNil)) σ B H (noD c) := evd_call (evs_cons ha evs_nil) fun H1 B1 vs _ _ eb hd Q q => by
  obtain ⟨v, rfl, hv⟩ := dpa1 hd
  cases hv
  exact ⟨B1, c, rfl, eb, q⟩
theorem Exs.sub {xs ys : List Str} {K : PySem.W.Frag} (h : ∀ y ∈ ys, y ∈ xs) (e : Exs xs K) : Exs ys K := ⟨fun x hx => e.c x (h x hx), fun x hx => e.m x (h x hx), fun x hx => e.v x (h x hx), fun x hx => e.b x (h x hx), fun x hx y hy => e.k x (h x hx) y (h y hy), fun x hx y hy => e.e x (h x hx) y (h y hy)⟩
theorem evd_isX' {K : PySem.W.Frag} {σ : Sig} {B H : Hp} {i : Nat} {a D C : Addr} {b : Bool} (hv : σ[i]? = some (some (.ref a))) (hD : ExcC K D) (hk : PySem.W.kitOne K (.ref D) (.ref C) = some b) : EvD (tCB (rIsX K (.ref D) none a) (tCons (tVar i) (tCons (tC (.ref C)) tNil))) σ B H (.bool b) := fun H1 e eb Q q =>
  ⟨.ref a, hv, D, rfl, rfl, hD, .ref C, .ref C, b, rfl, fun u r => r, hk, q _ H1 B (Ex.refl _) (Ext.refl _ _) eb (.bl b)⟩
def sp_law_ask (K : PySem.W.Frag) : Sp := fun vs H Q _ => ∃ (B : Hp) (a : Addr) (L : List Addr) (S : StS) (act : Act) (more : List PyData) (v : V), vs = [.ref a, .str act.way, v] ∧ Ex B H ∧ StAt K a S L B H ∧ StB S ∧ act.fine ∧ Da B v (.tuple (act.args ++ more)) ∧ RetC L (StAt K a (act.nxt' S)) (askD (act.res S)) B H Q
theorem len_law_ask {K : PySem.W.Frag} {vs : List V} {H : Hp} {Q : VK} {E : XK} (h : sp_law_ask K vs H Q E) : vs.length = 3 := by
  obtain ⟨_, _, _, _, _, _, _, rfl, _⟩ := h; rfl
def t_law_ask (K : PySem.W.Frag) (E : XK) : TS :=
  (tSeq (tAsg (tC .non) (gName 3))
    (tSeq (tTryAs K (.ref (He.ga K "KeepError")) 4 (fun W => (tAsg (tCallS (sp_law_call K) (WE W) (tCons (tVar 0) (tCons (tVar 1) (tCons (tVar 2) tNil)))) (gName 3))) (fun a cls d => (tSeq (tAsg (tTup (tCons (tCB (rIsX K cls d a) (tCons (tVar 4) (tCons (tC (.ref (He.ga K "NoKey"))) tNil))) (tCons (tCB (rIsX K cls d a) (tCons (tVar 4) (tCons (tC (.ref (He.ga K "Gone"))) tNil))) (tCons (tCB (rIsX K cls d a) (tCons (tVar 4) (tCons (tC (.ref (He.ga K "NoVersion"))) tNil))) (tCons (tCB (rIsX K cls d a) (tCons (tVar 4) (tCons (tC (.ref (He.ga K "Changed"))) tNil))) tNil))))) (gName 5))
    (tSeq (tAsg (tTup (tCons (tCB (rIsX K cls d a) (tCons (tVar 4) (tCons (tC (.ref (He.ga K "Full"))) tNil))) (tCons (tCB (rIsX K cls d a) (tCons (tVar 4) (tCons (tC (.ref (He.ga K "NoUpload"))) tNil))) (tCons (tCB (rIsX K cls d a) (tCons (tVar 4) (tCons (tC (.ref (He.ga K "BadPart"))) tNil))) (tCons (tCB (rIsX K cls d a) (tCons (tVar 4) (tCons (tC (.ref (He.ga K "TooSmall"))) tNil))) tNil))))) (gName 6))
    (tAsg (tOp (rCatA K) (tOp (rCatA K) (tOp (rCatA K) (tTup (tCons (tC (.str "refused")) tNil)) (tVar 5)) (tVar 6)) (tTup (tCons (tCB (rIsX K cls d a) (tCons (tVar 4) (tCons (tC (.ref (He.ga K "Held"))) tNil))) tNil))) (gName 3))))))
    (tRet (tVar 3))))
theorem pure_law_ask {K : PySem.W.Frag} (xs : Exs names9 K) {vs : List V} {H : Hp} {Q : VK} {E : XK} (h : sp_law_ask K vs H Q E) : t_law_ask K E { nx := fun _ H' => Q .non H', rt := Q } (start ["store", "way", "some", "told", "e", "one", "other"] vs) H := by
  obtain ⟨B, a, L, S, act, more, v, rfl, eb, hA, hB, hf, hv, r⟩ := h
  refine q_asgN (B := B) evd_cn eb fun H1 e1 eb1 => ?_
  refine ⟨.ref a, rfl, .str act.way, rfl, v, rfl, B, a, L, S, act, more, v, rfl, eb1, hA.grow e1 (Ext.refl _ _), hB, hf, hv, ?_⟩
  unfold Act.nxt' at r
  cases hr : act.res S with
  | ok d =>
    rw [hr] at r
    intro w H2 B2 L2 o2 f2 x2 eb2 hA2 hw
    refine s_ret (B := B2) (evd_var rfl hw) eb2 fun w3 H3 B3 e3 x3 eb3 hw3 => ?_
    exact r w3 H3 B3 L2 (((Only.of e1).trans o2).trans (Only.of e3)) (fresh_sub e1 f2) ((Ext.trans (Ext.refl _ _) e1 x2).only ((Only.of e1).trans o2) x3) eb3 (hA2.grow e3 x3) hw3
  | no c =>
    rw [hr] at r
    have hc : c ∈ names9 := act_no hr
    intro H2 e2
    have cN : ExcC K (He.ga K c) := xs.c c hc
    refine ⟨true, xs.m c hc, fun _ ae hae => ?_, fun z => nomatch z⟩
    have kk : ∀ n ∈ names9, PySem.W.kitOne K (.ref (He.ga K c)) (.ref (He.ga K n)) = some (decide (n = c)) := fun n hn => by
      rw [xs.k c hc n hn]
      congr 1
      rw [decide_eq_decide]
      exact ⟨Eq.symm, Eq.symm⟩
    have isx : ∀ {n : Str} {σ1 : Sig} {B3 H3 : Hp}, n ∈ names9 → σ1[4]? = some (some (.ref ae)) → EvD (tCB (rIsX K (.ref (He.ga K c)) none ae) (tCons (tVar 4) (tCons (tC (.ref (He.ga K n))) tNil))) σ1 B3 H3 (.bool (decide (n = c))) := fun hn hs => evd_isX' hs cN (kk _ hn)
    have eb2 := eb1.trans e2
    refine q_asg (B := B) (d := .tuple [.bool (decide (("NoKey" : Str) = c)), .bool (decide (("Gone" : Str) = c)), .bool (decide (("NoVersion" : Str) = c)), .bool (decide (("Changed" : Str) = c))]) (evd_tup (evs_cons (isx (by simp) rfl) (evs_cons (isx (by simp) rfl) (evs_cons (isx (by simp) rfl) (evs_cons (isx (by simp) rfl) evs_nil))))) eb2 fun w1 H3 B3 e3 x3 eb3 hw1 => ?_
    refine q_asg (B := B3) (d := .tuple [.bool (decide (("Full" : Str) = c)), .bool (decide (("NoUpload" : Str) = c)), .bool (decide (("BadPart" : Str) = c)), .bool (decide (("TooSmall" : Str) = c))]) (evd_tup (evs_cons (isx (by simp) rfl) (evs_cons (isx (by simp) rfl) (evs_cons (isx (by simp) rfl) (evs_cons (isx (by simp) rfl) evs_nil))))) eb3 fun w2 H4 B4 e4 x4 eb4 hw2 => ?_
    refine s_asg (B := B4) (d := noD c) (evd_catT (evd_catT (evd_catT (evd_tup (evs_cons evd_cs evs_nil)) (evd_var rfl (hw1.ex' x4.1))) (evd_var rfl hw2)) (evd_tup (evs_cons (isx (n := "Held") (by simp) rfl) evs_nil))) eb4 fun w3 H5 B5 e5 x5 eb5 hw3 => ?_
    have eH : Ex H H5 := (((e1.trans e2).trans e3).trans e4).trans e5
    have xB : Ext B H B5 := Ext.trans (Ext.trans (Ext.trans (Ext.refl _ _) (e1.trans e2) x3) ((e1.trans e2).trans e3) x4) (((e1.trans e2).trans e3).trans e4) x5
    refine s_ret (B := B5) (evd_var rfl hw3) eb5 fun w6 H6 B6 e6 x6 eb6 hw6 => ?_
    exact r w6 H6 B6 L (Only.of (eH.trans e6)) (fun p hp => .inl hp) (Ext.trans xB eH x6) eb6 (hA.grow (eH.trans e6) (Ext.trans xB eH x6)) hw6
end GK

/-! A store with two keys, as it is seen. -/
namespace GK
open PySem L2
theorem rowsOf_come (X : ShS) (k j : Str) (r : Row) : rowsOf (X.come k r) j = if j = k then rowsOf X k ++ [r] else rowsOf X j := by
  unfold ShS.come
  show (aGet (aPut X.rows k _) j).getD [] = _
  rw [aGet_put]
  by_cases e : j = k
  · rw [if_pos e, if_pos e]; rfl
  · rw [if_neg e, if_neg e]; rfl
theorem rowsOf_leave (X : ShS) (k j : Str) (v : Int) : rowsOf (X.leave k v) j = if j = k then (rowsOf X k).filter (fun r => !decide (r.v = v)) else rowsOf X j := by
  unfold ShS.leave
  show (aGet (aPut X.rows k _) j).getD [] = _
  rw [aGet_put]
  by_cases e : j = k
  · rw [if_pos e, if_pos e]; rfl
  · rw [if_neg e, if_neg e]; rfl
/-- keys each once, all among ks -/
structure Ks (ks : List Str) (X : ShS) : Prop where
  nd : (X.rows.map (·.1)).Nodup
  sub : ∀ k ∈ X.rows.map (·.1), k ∈ ks
theorem Ks.put {ks : List Str} {X : ShS} (h : Ks ks X) {k : Str} (hk : k ∈ ks) (l : List Row) (U : List ((Str × Int) × Int)) : Ks ks ⟨aPut X.rows k l, U⟩ := by
  refine ⟨aPut_nodup h.nd, fun j hj => ?_⟩
  rw [aPut_keys] at hj
  split at hj
  · exact h.sub j hj
  · rcases List.mem_append.mp hj with z | z
    · exact h.sub j z
    · rw [List.mem_singleton.mp z]; exact hk
theorem sum_perm {l m : List Str} (p : l.Perm m) (f : Str → Int) : (l.map f).sum = (m.map f).sum := by
  induction p with
  | nil => rfl
  | cons x _ ih => rw [List.map_cons, List.map_cons, List.sum_cons, List.sum_cons, ih]
  | swap x y l => simp only [List.map_cons, List.sum_cons]; omega
  | trans _ _ ih1 ih2 => exact ih1.trans ih2
theorem sum_zero {l : List Str} {f : Str → Int} (h : ∀ k ∈ l, f k = 0) : (l.map f).sum = 0 := by
  induction l with
  | nil => rfl
  | cons x r ih => rw [List.map_cons, List.sum_cons, h x List.mem_cons_self, ih fun k hk => h k (List.mem_cons_of_mem _ hk)]; rfl
theorem total_ks {ks : List Str} {X : ShS} (hk : ks.Nodup) (h : Ks ks X) : totalS X = (ks.map fun k => (lensOf (rowsOf X k)).sum).sum := by
  unfold totalS
  have hin : ∀ k ∈ ks, k ∉ X.rows.map (·.1) → (lensOf (rowsOf X k)).sum = 0 := fun k _ hn => by
    have : aGet X.rows k = none := by
      cases e : aGet X.rows k with
      | none => rfl
      | some l => exact absurd (aGet_keys.mp (by rw [e]; simp)) hn
    unfold rowsOf
    rw [this]; rfl
  have hp : (X.rows.map (·.1)).Perm (ks.filter fun k => decide (k ∈ X.rows.map (·.1))) := by
    refine (List.perm_ext_iff_of_nodup h.nd (hk.filter _)).mpr fun k => ?_
    rw [List.mem_filter]
    constructor
    · exact fun z => ⟨h.sub k z, decide_eq_true z⟩
    · exact fun z => of_decide_eq_true z.2
  rw [sum_perm hp fun k => (lensOf (rowsOf X k)).sum]
  clear hp
  induction ks with
  | nil => rfl
  | cons k r ih =>
    rw [List.nodup_cons] at hk
    have ih' : ((r.filter fun k => decide (k ∈ X.rows.map (·.1))).map fun k => (lensOf (rowsOf X k)).sum).sum = (r.map fun k => (lensOf (rowsOf X k)).sum).sum := by
      have : ∀ r : List Str, (∀ k ∈ r, k ∉ X.rows.map (·.1) → (lensOf (rowsOf X k)).sum = 0) → ((r.filter fun k => decide (k ∈ X.rows.map (·.1))).map fun k => (lensOf (rowsOf X k)).sum).sum = (r.map fun k => (lensOf (rowsOf X k)).sum).sum := by
        intro r hr
        induction r with
        | nil => rfl
        | cons x t iht =>
          have := iht fun k hk => hr k (List.mem_cons_of_mem _ hk)
          by_cases c : x ∈ X.rows.map (·.1)
          · rw [List.filter_cons_of_pos (by simpa using c), List.map_cons, List.map_cons, List.sum_cons, List.sum_cons, this]
          · rw [List.filter_cons_of_neg (by simpa using c), List.map_cons, List.sum_cons, this, hr x List.mem_cons_self c, Int.zero_add]
      exact this r fun k hk => hin k (List.mem_cons_of_mem _ hk)
    by_cases c : k ∈ X.rows.map (·.1)
    · rw [List.filter_cons_of_pos (by simpa using c), List.map_cons, List.map_cons, List.sum_cons, List.sum_cons, ih']
    · rw [List.filter_cons_of_neg (by simpa using c), List.map_cons, List.sum_cons, ih', hin k List.mem_cons_self c, Int.zero_add]
theorem nodup_len : ∀ {l ks : List Str}, l.Nodup → (∀ x ∈ l, x ∈ ks) → l.length ≤ ks.length
  | [], _, _, _ => Nat.zero_le _
  | x :: r, ks, n, s => by
    rw [List.nodup_cons] at n
    have hx := s x List.mem_cons_self
    have := nodup_len (l := r) (ks := ks.erase x) n.2 fun y hy => (List.mem_erase_of_ne (show y ≠ x from fun z => n.1 (by rw [← z]; exact hy))).mpr (s y (List.mem_cons_of_mem _ hy))
    rw [List.length_erase_of_mem hx] at this
    have hp : 0 < ks.length := List.length_pos_of_mem hx
    rw [List.length_cons]
    omega
theorem Ks.len {ks : List Str} {X : ShS} (h : Ks ks X) : X.rows.length ≤ ks.length := by
  have : (X.rows.map (·.1)).length ≤ ks.length := nodup_len h.nd h.sub
  rwa [List.length_map] at this
theorem Ks.row {ks : List Str} {X : ShS} (h : Ks ks X) {p : Str × List Row} (hp : p ∈ X.rows) : p.2 = rowsOf X p.1 := by
  unfold rowsOf
  rw [aGet_in h.nd (show (p.1, p.2) ∈ X.rows from hp)]; rfl
def dataOk (d s : Option Str) : Prop := d.isSome = s.isSome ∧ ∀ x, d = some x → x.length ≤ 50000
/-- two keys: what is there; c bounds all counts -/
structure Vw (key other : Str) (c : Nat) (S : StS) (m t v : Int) (rk ro : List Row) : Prop where
  m : S.most = m
  t : S.today = t
  v : S.lastv = v
  k : rowsOf S.sh key = rk
  o : rowsOf S.sh other = ro
  ks : Ks [key, other] S.sh
  u : S.sh.unt = []
  up : S.up = UpS.nil
  ok : (∀ r ∈ rk, dataOk r.data r.sum) ∧ ∀ r ∈ ro, dataOk r.data r.sum
  lg : S.log.length ≤ c ∧ rk.length ≤ c ∧ ro.length ≤ c
theorem Vw.new (key other : Str) (m : Int) : Vw key other 0 (StS.new m) m 0 0 [] [] := ⟨rfl, rfl, rfl, rfl, rfl, ⟨.nil, fun k hk => by cases hk⟩, rfl, rfl, ⟨(fun r hr => by cases hr), (fun r hr => by cases hr)⟩, ⟨Nat.le_refl _, Nat.le_refl _, Nat.le_refl _⟩⟩
section
variable {key other : Str} {c : Nat} {S : StS} {m t v : Int} {rk ro : List Row}
theorem Vw.stb (h : Vw key other c S m t v rk ro) (hk : key.length ≤ 1000) (ho : other.length ≤ 1000) (hc : c ≤ 5000) : StB S := by
  have hrow : ∀ p ∈ S.sh.rows, (p.1 = key ∧ p.2 = rk) ∨ (p.1 = other ∧ p.2 = ro) := fun p hp => by
    have h1 := h.ks.row hp
    have h2 := h.ks.sub p.1 (List.mem_map.mpr ⟨p, hp, rfl⟩)
    simp only [List.mem_cons, List.not_mem_nil, or_false] at h2
    rcases h2 with z | z
    · exact .inl ⟨z, by rw [h1, z, h.k]⟩
    · exact .inr ⟨z, by rw [h1, z, h.o]⟩
  have hok : ∀ p ∈ S.sh.rows, ∀ r ∈ p.2, dataOk r.data r.sum := fun p hp r hr => by
    rcases hrow p hp with ⟨_, z⟩ | ⟨_, z⟩
    · rw [z] at hr; exact h.ok.1 r hr
    · rw [z] at hr; exact h.ok.2 r hr
  have hlen : S.sh.rows.length ≤ 2 := h.ks.len
  obtain ⟨l1, l2, l3⟩ := h.lg
  refine ⟨⟨by omega, fun p hp => ?_, fun p hp => ?_, fun p hp r hr x hx => (hok p hp r hr).2 x hx, by rw [h.u]; exact Nat.zero_le _⟩, ?_, by omega, fun p hp r hr => (hok p hp r hr).1⟩
  · rcases hrow p hp with ⟨z, _⟩ | ⟨z, _⟩ <;> rw [z] <;> assumption
  · rcases hrow p hp with ⟨_, z⟩ | ⟨_, z⟩ <;> rw [z] <;> omega
  · rw [h.up]
    exact ⟨rfl, .nil, (fun p hp => by cases hp), by decide, (fun p hp => by cases hp), (fun p hp => by cases hp)⟩
theorem Vw.size (h : Vw key other c S m t v rk ro) (hne : key ≠ other) : sizeS S = (lensOf rk).sum + (lensOf ro).sum := by
  unfold sizeS
  rw [total_ks (ks := [key, other]) (by simp [hne]) h.ks, h.up]
  simp only [List.map_cons, List.map_nil, List.sum_cons, List.sum_nil, h.k, h.o]
  show _ + 0 = _
  omega
theorem Vw.swap (h : Vw key other c S m t v rk ro) : Vw other key c S m t v ro rk := ⟨h.m, h.t, h.v, h.o, h.k, ⟨h.ks.nd, fun k hk => by have := h.ks.sub k hk; simp only [List.mem_cons, List.not_mem_nil, or_false] at this ⊢; exact this.symm⟩, h.u, h.up, ⟨h.ok.2, h.ok.1⟩, ⟨h.lg.1, h.lg.2.2, h.lg.2.1⟩⟩
theorem Vw.comeK (h : Vw key other c S m t v rk ro) (hne : key ≠ other) {d s : Option Str} (hd : dataOk d s) : Vw key other (c + 1) (S.come key d s) m t (v + 1) (rk ++ [⟨v + 1, t, d, s⟩]) ro := by
  refine ⟨h.m, h.t, by show S.lastv + 1 = _; rw [h.v], ?_, ?_, h.ks.put (by simp) _ _, h.u, h.up, ⟨fun r hr => ?_, h.ok.2⟩, ⟨?_, ?_, Nat.le_succ_of_le h.lg.2.2⟩⟩
  · show rowsOf (S.sh.come key _) key = _
    rw [rowsOf_come, if_pos rfl, h.k, h.v, h.t]
  · show rowsOf (S.sh.come key _) other = _
    rw [rowsOf_come, if_neg (Ne.symm hne), h.o]
  · rcases List.mem_append.mp hr with z | z
    · exact h.ok.1 r z
    · rw [List.mem_singleton.mp z]; exact hd
  · show (S.log ++ [_]).length ≤ _
    rw [List.length_append]
    exact Nat.succ_le_succ h.lg.1
  · rw [List.length_append]; exact Nat.succ_le_succ h.lg.2.1
theorem Vw.comeO (h : Vw key other c S m t v rk ro) (hne : key ≠ other) {d s : Option Str} (hd : dataOk d s) : Vw key other (c + 1) (S.come other d s) m t (v + 1) rk (ro ++ [⟨v + 1, t, d, s⟩]) := (h.swap.comeK (Ne.symm hne) hd).swap
theorem Vw.leaveK (h : Vw key other c S m t v rk ro) (hne : key ≠ other) (w : Int) : Vw key other (c + 1) (S.leave key w) m t v (rk.filter fun r => !decide (r.v = w)) ro := by
  refine ⟨h.m, h.t, h.v, ?_, ?_, h.ks.put (by simp) _ _, ?_, h.up, ⟨fun r hr => h.ok.1 r (List.mem_filter.mp hr).1, h.ok.2⟩, ⟨?_, Nat.le_succ_of_le (Nat.le_trans (List.length_filter_le _ _) h.lg.2.1), Nat.le_succ_of_le h.lg.2.2⟩⟩
  · show rowsOf (S.sh.leave key _) key = _
    rw [rowsOf_leave, if_pos rfl, h.k]
  · show rowsOf (S.sh.leave key _) other = _
    rw [rowsOf_leave, if_neg (Ne.symm hne), h.o]
  · show aDel S.sh.unt _ = []
    rw [h.u]; rfl
  · show (S.log ++ [_]).length ≤ _
    rw [List.length_append]
    exact Nat.succ_le_succ h.lg.1
theorem Vw.leaveO (h : Vw key other c S m t v rk ro) (hne : key ≠ other) (w : Int) : Vw key other (c + 1) (S.leave other w) m t v rk (ro.filter fun r => !decide (r.v = w)) := (h.swap.leaveK (Ne.symm hne) w).swap
theorem Vw.putK (h : Vw key other c S m t v rk ro) (hne : key ≠ other) {x : Str} (hx : x.length ≤ 50000) : Vw key other (c + 1) (S.put key x) m t (v + 1) (rk ++ [⟨v + 1, t, some x, some (sumT x)⟩]) ro := h.comeK hne ⟨rfl, fun y hy => by cases hy; exact hx⟩
theorem Vw.putO (h : Vw key other c S m t v rk ro) (hne : key ≠ other) {x : Str} (hx : x.length ≤ 50000) : Vw key other (c + 1) (S.put other x) m t (v + 1) rk (ro ++ [⟨v + 1, t, some x, some (sumT x)⟩]) := h.comeO hne ⟨rfl, fun y hy => by cases hy; exact hx⟩
theorem Vw.dropK (h : Vw key other c S m t v rk ro) (hne : key ≠ other) : Vw key other (c + 1) (S.drop key) m t (v + 1) (rk ++ [⟨v + 1, t, none, none⟩]) ro := h.comeK hne ⟨rfl, fun y hy => by cases hy⟩
theorem Vw.dropped (h : Vw key other c S m t v rk ro) {d : PyData} (hg : getR S.sh key = .ok d) : dropR S key = .ok (.int (v + 1)) := by
  unfold dropR
  rw [hg, ← h.v]
theorem Vw.pass (h : Vw key other c S m t v rk ro) (n : Int) : Vw key other c (S.pass n) m (t + n) v rk ro := ⟨h.m, by show S.today + n = _; rw [h.t], h.v, h.k, h.o, h.ks, h.u, h.up, h.ok, h.lg⟩
/-! what is told of the first key -/
def lastV (rk : List Row) : Option Int → Bool
  | none => match rk.getLast? with
    | none => true
    | some r => !r.data.isSome
  | some n => match rk.getLast? with
    | none => false
    | some r => decide (r.v = n)
theorem Vw.last (h : Vw key other c S m t v rk ro) (l : Option Int) : isLast S key l = lastV rk l := by
  unfold isLast lastV isThere newest
  rw [h.k]
  cases l with
  | none => cases rk.getLast? <;> rfl
  | some n => rfl
theorem Vw.fit (h : Vw key other c S m t v rk ro) (hne : key ≠ other) {x : Str} (hf : (lensOf rk).sum + (lensOf ro).sum + (x.length : Nat) ≤ m) : putR S x = .ok (.int (v + 1)) := by
  unfold putR fitR fits
  rw [h.size hne, h.m, h.v, if_pos]
  rw [Bool.not_eq_true', decide_eq_false_iff_not]
  omega
theorem Vw.full (h : Vw key other c S m t v rk ro) (hne : key ≠ other) {x : Str} (hf : m < (lensOf rk).sum + (lensOf ro).sum + (x.length : Nat)) : putR S x = .no "Full" := by
  unfold putR fitR fits
  rw [h.size hne, h.m, h.v, if_neg]
  rw [decide_eq_true hf]; decide
theorem Vw.get (h : Vw key other c S m t v rk ro) : getR S.sh key = (match rk.getLast? with | none => .no "NoKey" | some r => match r.data with | none => .no "Gone" | some x => .ok (.str x)) := by
  unfold getR newest
  rw [h.k]
  all_goals
    cases rk.getLast? with
    | none => rfl
    | some r =>
      try dsimp only
      cases r.data <;> rfl
theorem Vw.row (h : Vw key other c S m t v rk ro) (w : Int) : rowOf S.sh key w = rk.find? fun r => decide (r.v = w) := by
  unfold rowOf
  rw [h.k]
theorem Vw.unt (h : Vw key other c S m t v rk ro) (k : Str) (w : Int) : untOf S.sh k w = 0 := by
  unfold untOf
  rw [h.u]; rfl
end
/-! ### acts one behind the other -/
def Good (S : StS) : List (Act × PyData) → StS → Prop
  | [], S' => S' = S
  | (a, d) :: r, S' => StB S ∧ a.fine ∧ askD (a.res S) = d ∧ Good (a.nxt' S) r S'
theorem Good.ok {S S' : StS} {a : Act} {d : PyData} {r : List (Act × PyData)} (hB : StB S) (hf : a.fine) (hr : a.res S = .ok d) (k : Good (a.nxt S) r S') : Good S ((a, d) :: r) S' := by
  refine ⟨hB, hf, by rw [hr]; rfl, ?_⟩
  unfold Act.nxt'
  rw [hr]; exact k
theorem Good.no {S S' : StS} {a : Act} {c : Str} {r : List (Act × PyData)} (hB : StB S) (hf : a.fine) (hr : a.res S = .no c) (k : Good S r S') : Good S ((a, noD c) :: r) S' := by
  refine ⟨hB, hf, by rw [hr]; rfl, ?_⟩
  unfold Act.nxt'
  rw [hr]; exact k
def stAt (S : StS) (l : List (Act × PyData)) (i : Nat) : StS := (l.take i).foldl (fun S a => a.1.nxt' S) S
theorem stAt_succ {S : StS} {l : List (Act × PyData)} {i : Nat} {a : Act × PyData} (h : l[i]? = some a) : stAt S l (i + 1) = a.1.nxt' (stAt S l i) := by
  unfold stAt
  rw [lc_take h, List.foldl_append]; rfl
theorem Good.at {l : List (Act × PyData)} : ∀ {S S' : StS}, Good S l S' → ∀ {i : Nat} {a : Act × PyData}, l[i]? = some a → StB (stAt S l i) ∧ a.1.fine ∧ askD (a.1.res (stAt S l i)) = a.2 := by
  induction l with
  | nil => intro S S' _ i a h; simp at h
  | cons p r ih =>
    intro S S' g i a h
    obtain ⟨g1, g2, g3, g4⟩ := g
    cases i with
    | zero => simp at h; subst h; exact ⟨g1, g2, g3⟩
    | succ i =>
      have h' : r[i]? = some a := by simpa using h
      exact ih g4 h'
theorem Good.end {l : List (Act × PyData)} : ∀ {S S' : StS}, Good S l S' → stAt S l l.length = S' := by
  induction l with
  | nil => intro S S' g; exact g.symm
  | cons p r ih =>
    intro S S' g
    obtain ⟨_, _, _, g4⟩ := g
    have := ih g4
    unfold stAt at this ⊢
    rw [List.take_length] at this ⊢
    exact this
theorem told_shal {l : List Row} (hl : l.length ≤ 10000) {n : Nat} : shal (n + 2) (.tuple (l.map toldD)) := by
  refine ⟨by rw [List.length_map]; exact hl, fun d hd => ?_⟩
  obtain ⟨r, _, rfl⟩ := List.mem_map.mp hd
  refine ⟨by show 4 ≤ 10000; decide, fun d hd => ?_⟩
  simp only [List.mem_cons, List.not_mem_nil, or_false] at hd
  rcases hd with rfl | rfl | rfl | rfl
  · cases n <;> trivial
  · cases n <;> trivial
  · cases r.data <;> cases n <;> trivial
  · cases r.sum <;> cases n <;> trivial
theorem noD_shal (c : Str) {n : Nat} : shal (n + 1) (noD c) := by
  refine ⟨by show 10 ≤ 10000; decide, fun d hd => ?_⟩
  rcases List.mem_cons.mp hd with rfl | hd
  · cases n <;> trivial
  · obtain ⟨x, _, rfl⟩ := List.mem_map.mp hd
    cases n <;> trivial
end GK

/-! A store whose keys are few and known: written out. -/
namespace GK
open PySem L2
section
variable {α : Type} [DecidableEq α]
def xR (κ : α → Str) (r : List (α × List Row)) : List (Str × List Row) := r.map fun p => (κ p.1, p.2)
def xU (κ : α → Str) (u : List ((α × Int) × Int)) : List ((Str × Int) × Int) := u.map fun p => ((κ p.1.1, p.1.2), p.2)
def rws (r : List (α × List Row)) (i : α) : List Row := (aGet r i).getD []
def unts (u : List ((α × Int) × Int)) (i : α) (w : Int) : Int := (aGet u (i, w)).getD 0
variable {κ : α → Str}
def Inj (κ : α → Str) : Prop := ∀ i j, κ i = κ j → i = j
theorem mget {β γ : Type} [DecidableEq β] [DecidableEq γ] {δ : Type} (f : β → γ) (hf : ∀ i j, f i = f j → i = j) (i : β) : ∀ l : List (β × δ), aGet (l.map fun p => (f p.1, p.2)) (f i) = aGet l i
  | [] => rfl
  | (j, a) :: r => by
    rw [List.map_cons, aGet_cons, aGet_cons, mget f hf i r]
    by_cases h : j = i
    · rw [if_pos h, if_pos (by rw [h])]
    · rw [if_neg h, if_neg (fun z => h (hf _ _ z))]
theorem mput {β γ : Type} [DecidableEq β] [DecidableEq γ] {δ : Type} (f : β → γ) (hf : ∀ i j, f i = f j → i = j) (i : β) (a : δ) (l : List (β × δ)) : aPut (l.map fun p => (f p.1, p.2)) (f i) a = (aPut l i a).map fun p => (f p.1, p.2) := by
  cases e : aGet l i with
  | none =>
    rw [aPut_new e, aPut_new (by rw [mget f hf]; exact e), List.map_append]; rfl
  | some b =>
    rw [aPut_in e, aPut_in (by rw [mget f hf]; exact e), List.map_map, List.map_map]
    refine List.map_congr_left fun p _ => ?_
    show (if f p.1 = f i then _ else _) = _
    by_cases h : p.1 = i
    · show _ = (fun p : β × δ => (f p.1, p.2)) (if p.1 = i then (p.1, a) else p)
      rw [if_pos h, if_pos (by rw [h])]
    · show _ = (fun p : β × δ => (f p.1, p.2)) (if p.1 = i then (p.1, a) else p)
      rw [if_neg h, if_neg (fun z => h (hf _ _ z))]
theorem mdel {β γ : Type} [DecidableEq β] [DecidableEq γ] {δ : Type} (f : β → γ) (hf : ∀ i j, f i = f j → i = j) (i : β) : ∀ l : List (β × δ), aDel (l.map fun p => (f p.1, p.2)) (f i) = (aDel l i).map fun p => (f p.1, p.2)
  | [] => rfl
  | (j, a) :: r => by
    have ih := mdel f hf i r
    unfold aDel at ih ⊢
    rw [List.map_cons]
    by_cases h : j = i
    · rw [List.filter_cons_of_neg (by simp [h]), List.filter_cons_of_neg (by simp [h]), ih]
    · rw [List.filter_cons_of_pos (by simpa using fun z => h (hf _ _ z)), List.filter_cons_of_pos (by simpa using h), ih, List.map_cons]
structure Xw (κ : α → Str) (c : Nat) (S : StS) (m t v : Int) (r : List (α × List Row)) (u : List ((α × Int) × Int)) : Prop where
  em : S.most = m
  et : S.today = t
  ev : S.lastv = v
  er : S.sh.rows = xR κ r
  eu : S.sh.unt = xU κ u
  n : r.length ≤ c ∧ u.length ≤ c ∧ S.log.length ≤ c
  nr : ∀ p ∈ r, p.2.length ≤ c
  ok : ∀ p ∈ r, ∀ q ∈ p.2, dataOk q.data q.sum
  nd : (r.map (·.1)).Nodup
theorem Xw.new (κ : α → Str) (m : Int) : Xw κ 0 (StS.new m) m 0 0 [] [] := ⟨rfl, rfl, rfl, rfl, rfl, ⟨Nat.le_refl _, Nat.le_refl _, Nat.le_refl _⟩, (fun p hp => by cases hp), (fun p hp => by cases hp), .nil⟩
variable {c : Nat} {S : StS} {m t v : Int} {r : List (α × List Row)} {u : List ((α × Int) × Int)} {i : α}
theorem inj2 (hi : Inj κ) : ∀ p q : α × Int, (κ p.1, p.2) = (κ q.1, q.2) → p = q := fun p q e => by
  have h1 := hi _ _ (Prod.mk.inj e).1
  have h2 := (Prod.mk.inj e).2
  exact Prod.ext h1 h2
theorem Xw.rows (h : Xw κ c S m t v r u) (hi : Inj κ) (i : α) : rowsOf S.sh (κ i) = rws r i := by
  unfold rowsOf rws
  rw [h.er]
  exact congrArg (·.getD []) (mget κ hi i r)
theorem Xw.unt (h : Xw κ c S m t v r u) (hi : Inj κ) (i : α) (w : Int) : untOf S.sh (κ i) w = unts u i w := by
  unfold untOf unts
  rw [h.eu]
  exact congrArg (·.getD 0) (mget (fun p : α × Int => (κ p.1, p.2)) (inj2 hi) (i, w) u)
theorem Xw.rlen (h : Xw κ c S m t v r u) (i : α) : (rws r i).length ≤ c := by
  unfold rws
  cases e : aGet r i with
  | none => exact Nat.zero_le _
  | some l => exact h.nr _ (aGet_mem e)
theorem Xw.rok (h : Xw κ c S m t v r u) (i : α) : ∀ q ∈ rws r i, dataOk q.data q.sum := fun q hq => by
  unfold rws at hq
  cases e : aGet r i with
  | none => rw [e] at hq; cases hq
  | some l => rw [e] at hq; exact h.ok _ (aGet_mem e) q hq
theorem Xw.le (h : Xw κ c S m t v r u) {c' : Nat} (hc : c ≤ c') : Xw κ c' S m t v r u := ⟨h.em, h.et, h.ev, h.er, h.eu, ⟨by have := h.n; omega, by have := h.n; omega, by have := h.n; omega⟩, fun p hp => Nat.le_trans (h.nr p hp) hc, h.ok, h.nd⟩
theorem Xw.stb (h : Xw κ c S m t v r u) (hk : ∀ i, (κ i).length ≤ 1000) (hu : UpB S.up) (hc : c < 64) : StB S := by
  obtain ⟨n1, n2, n3⟩ := h.n
  refine ⟨⟨?_, fun p hp => ?_, fun p hp => ?_, fun p hp q hq x hx => ?_, ?_⟩, hu, by omega, fun p hp q hq => ?_⟩
  · rw [h.er]; unfold xR; rw [List.length_map]; omega
  · rw [h.er] at hp
    obtain ⟨p', hp', rfl⟩ := List.mem_map.mp hp
    exact hk _
  · rw [h.er] at hp
    obtain ⟨p', hp', rfl⟩ := List.mem_map.mp hp
    have := h.nr p' hp'
    show p'.2.length ≤ 5000
    omega
  · rw [h.er] at hp
    obtain ⟨p', hp', rfl⟩ := List.mem_map.mp hp
    exact (h.ok p' hp' q hq).2 x hx
  · rw [h.eu]; unfold xU; rw [List.length_map]; omega
  · rw [h.er] at hp
    obtain ⟨p', hp', rfl⟩ := List.mem_map.mp hp
    exact (h.ok p' hp' q hq).1
theorem Xw.pass (h : Xw κ c S m t v r u) (n : Int) : Xw κ c (S.pass n) m (t + n) v r u := ⟨h.em, by show S.today + n = _; rw [h.et], h.ev, h.er, h.eu, h.n, h.nr, h.ok, h.nd⟩
theorem Xw.ofUp (h : Xw κ c S m t v r u) (Y : UpS) : Xw κ c { S with up := Y } m t v r u := ⟨h.em, h.et, h.ev, h.er, h.eu, h.n, h.nr, h.ok, h.nd⟩
theorem Xw.come (h : Xw κ c S m t v r u) (hi : Inj κ) (i : α) {d s : Option Str} (hd : dataOk d s) : Xw κ (c + 1) (S.come (κ i) d s) m t (v + 1) (aPut r i (rws r i ++ [⟨v + 1, t, d, s⟩])) u := by
  obtain ⟨n1, n2, n3⟩ := h.n
  refine ⟨h.em, h.et, by show S.lastv + 1 = _; rw [h.ev], ?_, h.eu, ⟨?_, by omega, ?_⟩, fun p hp => ?_, fun p hp q hq => ?_, aPut_nodup h.nd⟩
  · show aPut S.sh.rows (κ i) (rowsOf S.sh (κ i) ++ [⟨S.lastv + 1, S.today, d, s⟩]) = _
    rw [h.rows hi, h.er, h.ev, h.et]
    exact mput κ hi i _ r
  · have := aPut_len r i (rws r i ++ [⟨v + 1, t, d, s⟩]); omega
  · show (S.log ++ [_]).length ≤ _
    rw [List.length_append]
    show _ + 1 ≤ _
    omega
  · rcases aPut_mem hp with z | z
    · exact Nat.le_succ_of_le (h.nr p z)
    · rw [z, List.length_append]; have := h.rlen i; show _ + 1 ≤ _; omega
  · rcases aPut_mem hp with z | z
    · exact h.ok p z q hq
    · rw [z] at hq
      rcases List.mem_append.mp hq with y | y
      · exact h.rok i q y
      · rw [List.mem_singleton.mp y]; exact hd
theorem Xw.put (h : Xw κ c S m t v r u) (hi : Inj κ) (i : α) {x : Str} (hx : x.length ≤ 50000) : Xw κ (c + 1) (S.put (κ i) x) m t (v + 1) (aPut r i (rws r i ++ [⟨v + 1, t, some x, some (sumT x)⟩])) u := h.come hi i ⟨rfl, fun y hy => by cases hy; exact hx⟩
theorem Xw.drop (h : Xw κ c S m t v r u) (hi : Inj κ) (i : α) : Xw κ (c + 1) (S.drop (κ i)) m t (v + 1) (aPut r i (rws r i ++ [⟨v + 1, t, none, none⟩])) u := h.come hi i ⟨rfl, fun y hy => by cases hy⟩
theorem Xw.leave (h : Xw κ c S m t v r u) (hi : Inj κ) (i : α) (w : Int) : Xw κ (c + 1) (S.leave (κ i) w) m t v (aPut r i ((rws r i).filter fun q => !decide (q.v = w))) (aDel u (i, w)) := by
  obtain ⟨n1, n2, n3⟩ := h.n
  refine ⟨h.em, h.et, h.ev, ?_, ?_, ⟨?_, ?_, ?_⟩, fun p hp => ?_, fun p hp q hq => ?_, aPut_nodup h.nd⟩
  · show aPut S.sh.rows (κ i) ((rowsOf S.sh (κ i)).filter _) = _
    rw [h.rows hi, h.er]
    exact mput κ hi i _ r
  · show aDel S.sh.unt (κ i, w) = _
    rw [h.eu]
    exact mdel (fun p : α × Int => (κ p.1, p.2)) (inj2 hi) (i, w) u
  · have := aPut_len r i ((rws r i).filter fun q => !decide (q.v = w)); omega
  · have := aDel_len u (i, w); omega
  · show (S.log ++ [_]).length ≤ _
    rw [List.length_append]
    show _ + 1 ≤ _
    omega
  · rcases aPut_mem hp with z | z
    · exact Nat.le_succ_of_le (h.nr p z)
    · rw [z]; have := h.rlen i; exact Nat.le_trans (List.length_filter_le _ _) (by omega)
  · rcases aPut_mem hp with z | z
    · exact h.ok p z q hq
    · rw [z] at hq; exact h.rok i q (List.mem_filter.mp hq).1
theorem Xw.hold (h : Xw κ c S m t v r u) (hi : Inj κ) (i : α) (w n : Int) : Xw κ (c + 1) (S.hold (κ i) w n) m t v r (aPut u (i, w) (max n (unts u i w))) := by
  obtain ⟨n1, n2, n3⟩ := h.n
  refine ⟨h.em, h.et, h.ev, h.er, ?_, ⟨by omega, ?_, ?_⟩, fun p hp => Nat.le_succ_of_le (h.nr p hp), h.ok, h.nd⟩
  · show aPut S.sh.unt (κ i, w) (max n (untOf S.sh (κ i) w)) = _
    rw [h.unt hi, h.eu]
    exact mput (fun p : α × Int => (κ p.1, p.2)) (inj2 hi) (i, w) _ u
  · have := aPut_len u (i, w) (max n (unts u i w)); omega
  · show (S.log ++ [_]).length ≤ _
    rw [List.length_append]
    show _ + 1 ≤ _
    omega
/-! what is told -/
theorem Xw.row (h : Xw κ c S m t v r u) (hi : Inj κ) (i : α) (w : Int) : rowOf S.sh (κ i) w = (rws r i).find? fun q => decide (q.v = w) := by
  unfold rowOf
  rw [h.rows hi]
theorem Xw.newest (h : Xw κ c S m t v r u) (hi : Inj κ) (i : α) : GK.newest S.sh (κ i) = (rws r i).getLast? := by
  unfold GK.newest
  rw [h.rows hi]
theorem Xw.told (h : Xw κ c S m t v r u) (hi : Inj κ) (i : α) : toldRows S.sh (κ i) = .tuple ((rws r i).reverse.map toldD) := by
  unfold toldRows
  rw [h.rows hi]
theorem Xw.getOk (h : Xw κ c S m t v r u) (hi : Inj κ) (i : α) {w d : Int} {x : Str} {s : Option Str} (hl : (rws r i).getLast? = some ⟨w, d, some x, s⟩) : getR S.sh (κ i) = .ok (.str x) := by
  unfold getR
  rw [h.newest hi, hl]
theorem Xw.getGone (h : Xw κ c S m t v r u) (hi : Inj κ) (i : α) {w d : Int} {s : Option Str} (hl : (rws r i).getLast? = some ⟨w, d, none, s⟩) : getR S.sh (κ i) = .no "Gone" := by
  unfold getR
  rw [h.newest hi, hl]
theorem Xw.dropOk (h : Xw κ c S m t v r u) (hi : Inj κ) (i : α) {w d : Int} {x : Str} {s : Option Str} (hl : (rws r i).getLast? = some ⟨w, d, some x, s⟩) : dropR S (κ i) = .ok (.int (v + 1)) := by
  unfold dropR
  rw [h.getOk hi i hl, h.ev]
def totX (r : List (α × List Row)) : Int := (r.map fun p => (lensOf (rws r p.1)).sum).sum
theorem Xw.total (h : Xw κ c S m t v r u) (hi : Inj κ) : totalS S.sh = totX r := by
  unfold totalS totX
  rw [List.map_map, h.er]
  unfold xR
  rw [List.map_map]
  congr 1
  refine List.map_congr_left fun p hp => ?_
  show (lensOf (rowsOf S.sh (κ p.1))).sum = _
  rw [h.rows hi]
theorem Xw.putOk (h : Xw κ c S m t v r u) (hi : Inj κ) {x : Str} (hf : totX r + totalU S.up + (x.length : Nat) ≤ m) : putR S x = .ok (.int (v + 1)) := by
  unfold putR fitR fits sizeS
  rw [h.total hi, h.em, h.ev, if_pos]
  rw [Bool.not_eq_true', decide_eq_false_iff_not]
  omega
end
end GK

/-! zip of a tuple and a list. -/
namespace GK
open PySem PySem.Spec PyProof.Rows L2
open Evl (Ex sq_of st_of fresh_back)
/-- a tuple and a list, side by side -/
def ItzM (K : PySem.W.Frag) (a b : Addr) : It where
  go := fun i H => ∃ xs ys : List V, SqT K H a xs ∧ SqL K H b ys ∧ i < xs.length ∧ i < ys.length
  yld := fun i H v H' => ∃ (T : Addr) (x y : V), v = .ref T ∧ H T = none ∧ H' = upd H T (.tup [x, y]) ∧ (∀ l, SqT K H a l → l[i]? = some x) ∧ (∀ l, SqL K H b l → l[i]? = some y)
  stop := fun i H => ∃ xs ys : List V, SqT K H a xs ∧ SqL K H b ys ∧ i ≤ xs.length ∧ i ≤ ys.length ∧ (i = xs.length ∨ i = ys.length)
structure ZmA (z p q j k a b : Addr) : Prop where
  s : ZipSep2 z p q j k [j, a] [k, b]
  ja : a ≠ j
  kb : b ≠ k
theorem zmA_new {n a b : Nat} (h1 : a < n) (h2 : b < n) : ZmA (n + 4) (n + 2) (n + 3) n (n + 1) a b :=
  ⟨zip_sep2 (fun c hc => by rw [List.mem_singleton.mp hc]; exact h1) (fun c hc => by rw [List.mem_singleton.mp hc]; exact h2), Nat.ne_of_lt h1, Nat.ne_of_lt (Nat.lt_succ_of_lt h2)⟩
def ZmSt (z p q j k a b : Addr) (i : Nat) (h : Heap) : Prop := IsZip h z p q .none ∧ IsTupOf2 h p (.ref j) (.ref k) ∧ (∃ x y, IsTupOf2 h q x y) ∧ h.IsTupleIter j a i ∧ h.IsListIter k b i
theorem zm5 {c z p q j k : Addr} (h : c ∈ [z, p, q, j, k]) : c = z ∨ c = p ∨ c = q ∨ c = j ∨ c = k := by simpa using h
theorem turn_zipM {P : Program} {w : World} {K : PySem.W.Frag} {elts : List Expr} {kk : Nat} {tpos : Pos} {a b z p q j k : Addr} (A : ZmA z p q j k a b) : Turn P w K (.Tuple elts kk tpos) (ItzM K a b) [z, p, q, j, k] z (ZmSt z p q j k a b) where
  mem := by simp
  obj := fun i h st c hc => by
    obtain ⟨s1, s2, ⟨x, y, s3⟩, ⟨o4, g4, _, d4⟩, ⟨o5, g5, _, d5⟩⟩ := st
    rcases zm5 hc with rfl | rfl | rfl | rfl | rfl
    · exact ⟨_, s1, fun _ e => by cases e⟩
    · exact ⟨_, s2, fun _ e => by cases e⟩
    · exact ⟨_, s3, fun _ e => by cases e⟩
    · exact ⟨o4, g4, fun _ e => by rw [d4] at e; cases e⟩
    · exact ⟨o5, g5, fun _ e => by rw [d5] at e; cases e⟩
  keep := fun i h h' st kp => by
    obtain ⟨s1, s2, ⟨x, y, s3⟩, s4, s5⟩ := st
    exact ⟨kp z (by simp) _ s1, kp p (by simp) _ s2, ⟨x, y, kp q (by simp) _ s3⟩, s4.at (fun o e => kp j (by simp) o e), s5.at (fun o e => kp k (by simp) o e)⟩
  item := by
    rintro X rfl rfl rfl hc i pins s σ H E I hf ⟨s1, s2, ⟨x0, y0, s3⟩, s4, s5⟩ ⟨xs, ys, qa, qb, la, lb⟩
    obtain ⟨us, ra, pa, _⟩ := I.tuple qa
    obtain ⟨ws, rb, pb, _⟩ := I.list qb
    have ha : us.toArray.size = xs.length := by simpa using ra.length.symm
    have hb : ws.toArray.size = ys.length := by simpa using rb.length.symm
    have hh : X.A.in1.handled = none := I.ok.hd hc
    have zl := Heap.lt_size s1
    refine wpAny_pyNext_zipD2_item (a1 := x0) (a2 := y0) A.s (Draws.tuple hh j a A.ja us.toArray) (Draws.list hh k b A.kb ws.toArray) s1 s2 s3 ⟨s4, pa⟩ ⟨s5, pb.isList⟩ (by omega) (by omega) fun u1 u2 h' tk g1 g2 t1 t2 t3 t4 t5 t6 t7 => ?_
    refine ⟨_, rfl, wpAny_letOwnedTupleGo_zip (s := { s with heap := h', toks := tk }) t1 fun h2 t1' sb => ?_⟩
    obtain ⟨x, hx⟩ : ∃ x, xs[i]? = some x := ⟨_, List.getElem?_eq_getElem la⟩
    obtain ⟨y, hy⟩ : ∃ y, ys[i]? = some y := ⟨_, List.getElem?_eq_getElem lb⟩
    obtain ⟨v1, e1, r1⟩ := ra.get hx
    obtain ⟨v2, e2, r2⟩ := rb.get hy
    have q1 : v1 = u1 := by rw [show us.toArray[i]? = us[i]? by simp, e1] at g1; exact Option.some.inj g1
    have q2 : v2 = u2 := by rw [show ws.toArray[i]? = ws[i]? by simp, e2] at g2; exact Option.some.inj g2
    subst q1 q2
    have tn : h2.get? s.heap.objs.size = some { cls := .type "tuple", data := .seq #[v1, v2] } := by rw [sb.2 _ (Nat.ne_of_gt zl)]; exact t5
    have new : ObjOk X.prog X.w (upd H s.heap.objs.size (.tup [x, y])) h2 s.heap.objs.size (.tup [x, y]) := ⟨by show 2 ≤ sizeLine; decide, [v1, v2], .cons r1 (.cons r2 .nil), ⟨_, tn, rfl, _, rfl⟩⟩
    have kp : ∀ c o, c ∉ [z, p, q, j, k] → s.heap.get? c = some o → h2.get? c = some o := fun c o hn e => by
      simp only [List.mem_cons, List.not_mem_nil, or_false, not_or] at hn
      rw [sb.2 c hn.1]
      exact t7 c o hn.1 hn.2.2.1 hn.2.2.2.1 hn.2.2.2.2 e
    have I1 : Inv X pins σ (upd H s.heap.objs.size (.tup [x, y])) { s with heap := h2, toks := tk } := I.turnedNew (t' := tk) (ch := [z, p, q, j, k]) kp hf (Nat.le_refl _) new
    refine ⟨.ref s.heap.objs.size, _, I1, rfl, ⟨_, x, y, rfl, I.hok.fresh (Nat.le_refl _), rfl, (fun l hl => by rw [I.tuple_inj hl qa]; exact hx), (fun l hl => by rw [I.list_inj hl qb]; exact hy)⟩, ⟨t1', ?_, ⟨v1, v2, ?_⟩, ?_, ?_⟩, fun c hcm => ?_⟩
    · rw [IsTupOf2, sb.2 p A.s.TIz]
      exact t7 p _ A.s.TIz A.s.TITO A.s.TIi1 A.s.TIi2 s2
    · rw [IsTupOf2, sb.2 q A.s.TOz]; exact t2
    · exact t3.1.at fun o e => by rw [sb.2 j (Ne.symm A.s.zi1)]; exact e
    · exact t4.1.at fun o e => by rw [sb.2 k (Ne.symm A.s.zi2)]; exact e
    · have lt : c < s.heap.objs.size := by
        obtain ⟨_, w4, _⟩ := s4
        obtain ⟨_, w5, _⟩ := s5
        rcases zm5 hcm with rfl | rfl | rfl | rfl | rfl
        · exact zl
        · exact Heap.lt_size s2
        · exact Heap.lt_size s3
        · exact Heap.lt_size w4
        · exact Heap.lt_size w5
      rw [upd_ne (Nat.ne_of_lt lt)]
      exact (hf c hcm).1
  done := by
    rintro X rfl rfl rfl hc i pins s σ H E I hf ⟨s1, s2, ⟨x0, y0, s3⟩, s4, s5⟩ ⟨xs, ys, qa, qb, la, lb, le⟩
    obtain ⟨us, ra, pa, _⟩ := I.tuple qa
    obtain ⟨ws, rb, pb, _⟩ := I.list qb
    have ha : us.toArray.size = xs.length := by simpa using ra.length.symm
    have hb : ws.toArray.size = ys.length := by simpa using rb.length.symm
    have hh : X.A.in1.handled = none := I.ok.hd hc
    refine wpAny_pyNext_zipD2_end (a1 := x0) (a2 := y0) A.s (Draws.tuple hh j a A.ja us.toArray) (Draws.list hh k b A.kb ws.toArray) s1 s2 s3 ⟨s4, pa⟩ ⟨s5, pb.isList⟩ (by omega) (by omega) (by omega) fun h' tk t7 => ⟨rfl, I.turnedL (t' := tk) (ch := [z, p, q, j, k]) (fun c o hn e => ?_) hf⟩
    simp only [List.mem_cons, List.not_mem_nil, or_false, not_or] at hn
    exact t7 c o hn.1 hn.2.2.1 hn.2.2.2.1 hn.2.2.2.2 e
  self := fun A i s Q E st h => wpAny_pyIter_zip st.1 h
def iZipM (K : PySem.W.Frag) (ta : TA) : TI := fun σ H R => ta σ H fun vs H1 => ∃ a b xs ys, vs = [.ref a, .ref b] ∧ SqT K H1 a xs ∧ SqL K H1 b ys ∧ R (ItzM K a b) H1
theorem pi_zipM {X : Cx} {e e2 : Expr} {ta : TA} {p pos tpos : Pos} {elts : List Expr} {kk : Nat} (hg : Gl X "zip") (hm : X.mg "zip" = none) (ha : PA X [e, e2] ta)
    (hs : starEach [e, e2] X.env = (false, eval e X.env) :: starEach [e2] X.env := by rfl) (hpl : (backTo pos (starEach [e2] X.env)).any (·.1) = false := by rfl) : PI X (.Tuple elts kk tpos) (.Call (.Name "zip" p) [e, e2] [] pos) (iZipM X.K ta) := by
  refine ⟨fun pins s σ H R I h => Call_ (ld_blt I hg hm PyProof.Rows.boot_zip (PyProof.Rows.callWith_type1 (thn (ha.run pos pins s σ H _ I h) fun us s1 ⟨vs, H1, I1, r1, q1⟩ => ?_) hs hpl))⟩
  obtain ⟨a, b, xs, ys, rfl, qa, qb, q1⟩ := q1
  obtain ⟨u1, u2, rfl, r1, r2⟩ := vals2 r1
  cases r1
  cases r2
  obtain ⟨us, ra, pa, _⟩ := I1.tuple qa
  obtain ⟨ws, rb, pb, _⟩ := I1.list qb
  obtain ⟨oa, ga, _⟩ := id pa
  refine zip_begins2 (begins_tuple a us.toArray) (begins_list b ws.toArray) pa pb.isList fun h' s1' s2 s3 s4 s5 sz kp => wpAny_pyIter_zip s1' ?_
  refine ⟨s1.heap.objs.size + 4, _, _, _, H1, rfl, I1.kept (t' := s1.toks) kp, turn_zipM (zmA_new (Heap.lt_size ga) pb.lt), ⟨s1', s2, ⟨_, _, s3⟩, ⟨_, s4, rfl, rfl⟩, ⟨_, s5, rfl, rfl⟩⟩, fun c hcm => ?_, q1⟩
  have hle : s1.heap.objs.size ≤ c := by rcases zm5 hcm with e | e | e | e | e <;> rw [e] <;> first | exact Nat.le_refl _ | exact Nat.le_add_right _ _
  exact I1.fpOk hle (I1.hok.fresh hle)
section
variable {K : PySem.W.Frag} {σ : Sig} {B H : Hp}
theorem walk_zipM {a b : Addr} {xs ys : List V} {n : Nat} (hx : n = xs.length) (hy : n = ys.length) : Walk (ItzM K a b) n (fun H => SqT K H a xs ∧ SqL K H b ys) (YPair (fun i => xs[i]?) (fun i => ys[i]?)) := by
  refine ⟨fun i H hi hg => ⟨xs, ys, hg.1, hg.2, by omega, by omega⟩, fun H hg => ⟨xs, ys, hg.1, hg.2, by omega, by omega, .inl hx⟩, fun i H x H' hi hg y => ?_⟩
  obtain ⟨T, u, w, rfl, hT, rfl, f1, f2⟩ := y
  exact ⟨T, u, w, rfl, hT, rfl, f1 _ hg.1, f2 _ hg.2⟩
/-- pairs of what is known -/
theorem wk_pair {J : It} {ds : List PyData} {G : Hp → Prop} {fx fy : Nat → Option V} (w : Walk J ds.length G (YPair fx fy)) (hg : ∀ H, Ex B H → G H)
    (hd : ∀ i d x y, ds[i]? = some d → fx i = some x → fy i = some y → ∃ d1 d2, d = .tuple [d1, d2] ∧ Da B x d1 ∧ Da B y d2) : WkD J ds B := ⟨G, _, w, hg, fun i x H H' hi eb y => by
  obtain ⟨T, u, v, rfl, hT, rfl, f1, f2⟩ := y
  refine ⟨Ex.new hT, fun d hdd => ?_⟩
  obtain ⟨d1, d2, rfl, h1, h2⟩ := hd i d u v hdd f1 f2
  exact ⟨upd B T (.tup [u, v]), Ext.new eb hT, ex_upd2 eb, .tup upd_same (dpAll_ex (Ex.new (fresh_back eb hT)) _ _ (.cons h1 (.cons h2 .nil)))⟩⟩
theorem two_maps {α : Type} {as : List α} {f g : α → PyData} {B : Hp} {xs ys : List V} (hx : DaAll B xs (as.map f)) (hy : DaAll B ys (as.map g)) {i : Nat} {d : PyData} {x y : V} (hd : (as.map fun a => PyData.tuple [f a, g a])[i]? = some d) (h1 : xs[i]? = some x) (h2 : ys[i]? = some y) : ∃ d1 d2, d = .tuple [d1, d2] ∧ Da B x d1 ∧ Da B y d2 := by
  obtain ⟨d1, g1, k1⟩ := dpa_get hx h1
  obtain ⟨d2, g2, k2⟩ := dpa_get hy h2
  rw [List.getElem?_map] at hd g1 g2
  cases hz : as[i]? with
  | none => rw [hz] at hd; cases hd
  | some z =>
    rw [hz] at hd g1 g2
    cases hd
    cases g1
    cases g2
    exact ⟨_, _, rfl, k1, k2⟩
theorem src_zipM {tr : TA} {α : Type} {as : List α} (f g : α → PyData) (h : EvDs tr σ B H [.tuple (as.map f), .list (as.map g)]) : SrcD (iZipM K tr) σ B H (as.map fun a => .tuple [f a, g a]) := fun H1 e eb R q => h H1 e eb _ fun vs H2 B2 e2 x2 eb2 hd => by
  obtain ⟨v, u, rfl, hv, hu⟩ := dpa2 hd
  obtain ⟨a, xs, rfl, hs, hx⟩ := dpt hv
  obtain ⟨b, ys, rfl, hs', hy⟩ := dpl hu
  have lx := dpa_len hx
  have ly := dpa_len hy
  rw [List.length_map] at lx ly
  refine ⟨a, b, xs, ys, rfl, st_of (eb2 _ _ hs), sq_of (eb2 _ _ hs'), q _ H2 B2 e2 x2 eb2 (wk_pair (walk_zipM (by rw [List.length_map, lx]) (by rw [List.length_map, ly])) (fun H3 e3 => ⟨st_of (e3 _ _ hs), sq_of (e3 _ _ hs')⟩) fun i d x y hd h1 h2 => two_maps hx hy hd h1 h2)⟩
theorem src_zipL {tr : TA} {α : Type} {as : List α} (f g : α → PyData) (h : EvDs tr σ B H [.list (as.map f), .list (as.map g)]) : SrcD (RZ.iZipA K tr) σ B H (as.map fun a => .tuple [f a, g a]) := fun H1 e eb R q => h H1 e eb _ fun vs H2 B2 e2 x2 eb2 hd => by
  obtain ⟨v, u, rfl, hv, hu⟩ := dpa2 hd
  obtain ⟨a, xs, rfl, hs, hx⟩ := dpl hv
  obtain ⟨b, ys, rfl, hs', hy⟩ := dpl hu
  have lx := dpa_len hx
  have ly := dpa_len hy
  rw [List.length_map] at lx ly
  refine ⟨a, b, xs, ys, rfl, .inl ⟨sq_of (eb2 _ _ hs), sq_of (eb2 _ _ hs'), q _ H2 B2 e2 x2 eb2 (wk_pair (walk_zip (by rw [List.length_map, lx, ly]; omega)) (fun H3 e3 => ⟨sq_of (e3 _ _ hs), sq_of (e3 _ _ hs')⟩) fun i d x y hd h1 h2 => two_maps hx hy hd h1 h2)⟩⟩
/-- the slots, written out -/
theorem at_sig {t : TS} {D : Ends} {σ' : Sig} (h : σ = σ') (k : t D σ' H) : t D σ H := by subst h; exact k
/-- a list that is put together step by step: each step by a name -/
theorem da_gen {v : V} {ds : List PyData} {n : Nat} (h : Da B v (.list ds)) (hl : ds.length ≤ n) : ∃ l, l = ds ∧ Da B v (.list l) ∧ l.length ≤ n := ⟨ds, rfl, h, hl⟩
theorem evd_catK {ta tb : TE} {ds es : List PyData} {n : Nat} (ha : EvD ta σ B H (.list ds)) (hb : EvD tb σ B H (.list es)) (hl : ds.length ≤ n) (hn : n ≤ 1000 := by decide) (he : es.length ≤ 1000 := by exact Nat.le_of_ble_eq_true rfl) : EvD (tOp rCat ta tb) σ B H (.list (ds ++ es)) := evd_catL ha hb (by omega)
end
end GK

/-! What was done since. -/
namespace GK
open PySem L2
open Evl (Ex fresh_back)
structure Since (L0 : List Addr) (B0 H0 : Hp) (L : List Addr) (B H : Hp) : Prop where
  o : Only L0 H0 H
  f : ∀ p ∈ L, p ∈ L0 ∨ H0 p = none
  x : Ext B0 H0 B
  eb : Ex B H
theorem Since.refl {L : List Addr} {B H : Hp} (eb : Ex B H) : Since L B H L B H := ⟨Only.refl, fun _ h => .inl h, Ext.refl _ _, eb⟩
section
variable {L0 L L' : List Addr} {B0 H0 B H B' H' : Hp}
theorem Since.next (s : Since L0 B0 H0 L B H) (o : Only L H H') (f : ∀ p ∈ L', p ∈ L ∨ H p = none) (x : Ext B H B') (eb : Ex B' H') : Since L0 B0 H0 L' B' H' := ⟨s.o.next s.f o, fresh_next s.o s.f f, s.x.only s.o x, eb⟩
theorem Since.grow (s : Since L0 B0 H0 L B H) (e : Ex H H') (x : Ext B H B') (eb : Ex B' H') : Since L0 B0 H0 L B' H' := s.next (Only.of e) (fun _ h => .inl h) x eb
theorem Since.more (s : Since L0 B0 H0 L B H) (e : Ex H H') : Since L0 B0 H0 L B H' := s.grow e (Ext.refl _ _) (s.eb.trans e)
end
end GK

/-! What laws by hand want. -/
namespace GK
open PySem PySem.Spec PyProof.Rows L2
open Evl (Ex ex_l ex_t ex_rd sq_of st_of sz_of sz_lt fresh_back)
def kk2 (x y : Str) : Bool → Str
  | true => x
  | false => y
theorem kk2_inj {x y : Str} (h : x ≠ y) : Inj (kk2 x y) := fun i j e => by
  cases i <;> cases j
  · rfl
  · exact absurd e.symm h
  · exact absurd e h
  · rfl
theorem kk2_len {x y : Str} (hx : x.length ≤ 1000) (hy : y.length ≤ 1000) : ∀ i, (kk2 x y i).length ≤ 1000 := fun i => by cases i <;> assumption
theorem Ub.upb' {k : Nat} {Y : UpS} (u : Ub k Y) (hk : k < 63) : UpB Y := ⟨u.ks, u.nn, u.lt, by have := u.nk; omega, fun p hp => by have := u.np p hp; omega, u.nd⟩
theorem up0 : UpB UpS.nil := Ub.nil.upb' (by decide)
theorem asc_sum (x : Str) : asc (sumT x) := fun c hc => by
  have h := sumN_rng (tl x)
  unfold sumT at hc
  rw [show (toString (sumN (tl x)) : String) = toString (((sumN (tl x)).toNat : Nat) : Int) by rw [Int.toNat_of_nonneg h.1], zfill_six (by omega)] at hc
  unfold six at hc
  rcases List.mem_append.mp hc with z | z
  · rw [List.eq_of_mem_replicate z]; decide
  · have := TL.numL_digits _ c z; omega
def sumOk (r : Row) : Prop := ∀ s, r.sum = some s → asc s
theorem told_shaped {l : List Row} (h : ∀ r ∈ l, sumOk r) : SeqAt.shaped (.tuple (l.map toldD)) = true := shaped_tuple (n := 1) (by decide) fun r hr => by
  have hs := h r hr
  unfold sumOk at hs
  unfold toldD
  cases hd : r.data <;> cases hsu : r.sum <;> refine ⟨?_, Nat.le_of_ble_eq_true rfl⟩
  · rfl
  · show PyData.canLayAll0 [_, _, _, .str _] = true
    simp [PyData.canLayAll0, PyData.canLay0, oLen, asc_ok (hs _ hsu)]
  · rfl
  · show PyData.canLayAll0 [_, _, _, .str _] = true
    simp [PyData.canLayAll0, PyData.canLay0, oLen, asc_ok (hs _ hsu)]
theorem eqv_refl {d : PyData} (h : SeqAt.shaped d = true) : PyData.eqv d d = true := SeqAt.eqv_refl d (SeqAt.canLay_of_shaped h)
def fltD : PyData → Bool
  | .none => true
  | .bool _ => true
  | .int _ => true
  | .str _ => true
  | _ => false
theorem flt_shal {n : Nat} {d : PyData} (h : fltD d = true) : shal n d := by
  cases d <;> first | (cases n <;> trivial) | cases h
theorem fltT_shal {ds : List PyData} {n : Nat} (hl : ds.length ≤ 10000) (h : ds.all fltD = true) : shal (n + 1) (.tuple ds) := ⟨hl, fun e he => flt_shal (List.all_eq_true.mp h e he)⟩
theorem g_name {i : Nat} {x : V} {tx : TS} {D : Ends} {σ : Sig} {H : Hp} (h : tx D (σ.set i (some x)) H) : gName i x σ H (fun σ2 H3 => tx D σ2 H3) := h
theorem s_notH {σ : Sig} {H : Hp} {tm : TE} {D : Ends} {tx : TS} (h : tm σ H (SPassQ D tx σ)) : tIfS (tNot (tB tm)) tx tNext D σ H := h
section
variable {K : PySem.W.Frag} {σ : Sig} {B H : Hp} {ta t1 t2 : TE} {E : XK} {Q : VK} {a : Addr} {L : List Addr} {S : StS} {act : Act}
theorem run_askH (ho : EvF ta σ H (.ref a)) (h1 : EvD t1 σ B H (.str act.way)) (h2 : EvD t2 σ B H (.tuple act.args)) (eb : Ex B H) (hA : StAt K a S L B H) (hB : StB S) (hf : act.fine) (q : RetC L (StAt K a (act.nxt' S)) (askD (act.res S)) B H Q) : tCall (sp_law_ask K) [] E (tCons ta (tCons t1 (tCons t2 tNil))) σ H Q := run_call1 (B := B) ho (evs_cons h1 (evs_cons h2 evs_nil)) eb fun H2 B2 vs e2 x2 eb2 hd => by
  obtain ⟨w1, w2, rfl, d1, d2⟩ := dpa2 hd
  cases d1
  exact ⟨B2, a, L, S, act, [], w2, rfl, eb2, hA.grow e2 x2, hB, hf, by rw [List.append_nil]; exact d2, q.grow e2 x2⟩
theorem run_askNo {c : Str} (ho : EvF ta σ H (.ref a)) (h1 : EvD t1 σ B H (.str act.way)) (h2 : EvD t2 σ B H (.tuple act.args)) (eb : Ex B H) (hA : StAt K a S L B H) (hB : StB S) (hf : act.fine) (hr : act.res S = .no c) (q : RetC L (StAt K a S) (noD c) B H Q) : tCall (sp_law_ask K) [] E (tCons ta (tCons t1 (tCons t2 tNil))) σ H Q := by
  refine run_askH ho h1 h2 eb hA hB hf ?_
  have : act.nxt' S = S := by unfold Act.nxt'; rw [hr]
  rw [this, hr]
  exact q
theorem run_askOk {d : PyData} (ho : EvF ta σ H (.ref a)) (h1 : EvD t1 σ B H (.str act.way)) (h2 : EvD t2 σ B H (.tuple act.args)) (eb : Ex B H) (hA : StAt K a S L B H) (hB : StB S) (hf : act.fine) (hr : act.res S = .ok d) (q : RetC L (StAt K a (act.nxt S)) d B H Q) : tCall (sp_law_ask K) [] E (tCons ta (tCons t1 (tCons t2 tNil))) σ H Q := by
  refine run_askH ho h1 h2 eb hA hB hf ?_
  have : act.nxt' S = act.nxt S := by unfold Act.nxt'; rw [hr]
  rw [this, hr]
  exact q
end
section
variable {K : PySem.W.Frag} {σ : Sig} {B H : Hp} {t1 t2 tm : TE} {d1 d2 : PyData} {Q : VK}
def Tup3Q (v1 v2 : V) (Q : VK) : VK := fun v3 H2 => [v1, v2, v3].length ≤ sizeLine ∧ ∀ p, H2 p = none → Q (.ref p) (upd H2 p (.tup [v1, v2, v3]))
theorem v_tup3 (h1 : EvD t1 σ B H d1) (h2 : EvD t2 σ B H d2) (eb : Ex B H) (k : ∀ v1 v2 H1 B1, Ex H H1 → Ext B H B1 → Ex B1 H1 → Da B1 v1 d1 → Da B1 v2 d2 → tm σ H1 (Tup3Q v1 v2 Q)) : tTup (tCons t1 (tCons t2 (tCons tm tNil))) σ H Q := h1 H (Ex.refl _) eb _ fun v1 H1 B1 e1 x1 eb1 hv1 => h2.mono x1.1 e1 H1 (Ex.refl _) eb1 _ fun v2 H2 B2 e2 x2 eb2 hv2 =>
  k v1 v2 H2 B2 (e1.trans e2) (x1.trans e1 x2) eb2 (hv1.ex' x2.1) hv2
theorem tup3_end {v1 v2 v3 : V} {d3 : PyData} (eb : Ex B H) (h1 : Da B v1 d1) (h2 : Da B v2 d2) (h3 : Da B v3 d3) (k : ∀ v H1 B1, Ex H H1 → Ext B H B1 → Ex B1 H1 → Da B1 v (.tuple [d1, d2, d3]) → Q v H1) : Tup3Q v1 v2 Q v3 H := ⟨by show 3 ≤ sizeLine; decide, fun p hp => k _ _ (upd B p (.tup [v1, v2, v3])) (Ex.new hp) (Ext.new eb hp) (ex_upd2 eb) (.tup upd_same (.cons (h1.ex' (Ex.new (fresh_back eb hp))) (.cons (h2.ex' (Ex.new (fresh_back eb hp))) (.cons (h3.ex' (Ex.new (fresh_back eb hp))) .nil))))⟩
end
section
variable {σ : Sig} {B H : Hp} {tt : TT} {tb tz : TS} {D : Ends}
theorem q_whileR (eb : Ex B H) (L0 : List Addr) (R : Nat → Sig → List Addr → Hp → Hp → Prop) (n0 : Nat) (r0 : R n0 σ L0 B H)
    (ht : ∀ n σ1 L1 B1 H1, Ext B H B1 → Only L0 H H1 → (∀ p ∈ L1, p ∈ L0 ∨ H p = none) → Ex B1 H1 → R n σ1 L1 B1 H1 → ∃ b, EvB tt σ1 B1 H1 b ∧
      (b = true → ∀ H2, Ex H1 H2 → Ex B1 H2 → ∀ D' : Ends, D'.rt = D.rt → (∀ n' σ3 H3 B3 L3, n' < n → Only L1 H1 H3 → (∀ p ∈ L3, p ∈ L1 ∨ H1 p = none) → Ext B1 H1 B3 → Ex B3 H3 → R n' σ3 L3 B3 H3 → D'.nx σ3 H3) → tb D' σ1 H2) ∧
      (b = false → ∀ H2, Ex H1 H2 → Ex B1 H2 → tz D σ1 H2)) : tSeq (tWhile tt tb) tz D σ H := by
  refine ⟨fun m σ1 H1 => ∃ B1 L1, R m σ1 L1 B1 H1 ∧ Ext B H B1 ∧ Only L0 H H1 ∧ (∀ p ∈ L1, p ∈ L0 ∨ H p = none) ∧ Ex B1 H1, ⟨n0, B, L0, r0, Ext.refl _ _, Only.of (Ex.refl _), fun p hp => .inl hp, eb⟩, ?_⟩
  rintro m σ1 H1 ⟨B1, L1, r1, x1, o1, f1, eb1⟩
  obtain ⟨b, hb, h1, h2⟩ := ht m σ1 L1 B1 H1 x1 o1 f1 eb1 r1
  refine hb H1 (Ex.refl _) eb1 _ fun H2 e2 => ?_
  cases b with
  | false =>
    rw [if_neg (by decide)]
    exact h2 rfl H2 e2 (eb1.trans e2)
  | true =>
    rw [if_pos rfl]
    refine ⟨fun σ3 H3 => ∃ m', m' < m ∧ ∃ B1 L1, R m' σ3 L1 B1 H3 ∧ Ext B H B1 ∧ Only L0 H H3 ∧ (∀ p ∈ L1, p ∈ L0 ∨ H p = none) ∧ Ex B1 H3, fun σ' H' h => h, h1 rfl H2 e2 (eb1.trans e2) _ rfl ?_⟩
    intro n' σ3 H3 B3 L3 hn o3 f3 x3 eb3 r3
    exact ⟨n', hn, B3, L3, r3, x1.only o1 x3, o1.next f1 o3, fresh_next o1 f1 f3, eb3⟩
end
theorem inV_ints (x : Int) (ks : List Int) : inV (.int x) (ks.map V.int) = ks.any fun k => decide (x = k) := by
  unfold inV
  induction ks with
  | nil => rfl
  | cons k r ih =>
    rw [List.map_cons, List.any_cons, List.any_cons, ih]
    show (k == x || _) = _
    congr 1
    by_cases c : x = k
    · subst c; simp
    · rw [decide_eq_false c, beq_eq_false_iff_ne.mpr (Ne.symm c)]
theorem flat_ints (ks : List Int) : (ks.map V.int).all L2.flatV = true := by
  rw [List.all_map]
  exact List.all_eq_true.mpr fun _ _ => rfl
theorem evd_inIT {K : PySem.W.Frag} {σ : Sig} {B H : Hp} {ta tb : TE} {neg : Bool} {x : Int} {ks : List Int} (h : EvD ta σ B H (.int x)) (h' : EvD tb σ B H (.tuple (ks.map .int))) : EvD (tOp (rIn K neg) ta tb) σ B H (.bool (if neg then !(ks.any fun k => decide (x = k)) else ks.any fun k => decide (x = k))) := fun H1 e eb Q q => h.flat (fun _ _ => dpi) e eb fun H2 e2 => by
  refine h' H2 (e.trans e2) (eb.trans e2) _ fun v H3 B3 e3 x3 eb3 hv => ?_
  obtain ⟨a, xs, rfl, hs, hx⟩ := dpt hv
  rw [dpa_ints hx] at hs
  refine ⟨a, _, rfl, .inr (st_of (eb3 _ _ hs)), rfl, flat_ints ks, ?_⟩
  rw [inV_ints]
  exact q _ H3 B (e2.trans e3) (Ext.refl _ _) ((eb.trans e2).trans e3) (.bl _)
end GK

/-! Ranges of a text that is kept. -/
namespace GK
open PySem L2
theorem ahead_app {A C : List Nat} (h : 45 ∉ A) : ahead (A ++ 45 :: C) = A := by
  induction A with
  | nil => rfl
  | cons c r ih =>
    have hc : (c != 45) = true := by
      rw [bne_iff_ne]; intro z; exact h (by rw [z]; exact List.mem_cons_self)
    unfold ahead at ih ⊢
    rw [List.cons_append, List.takeWhile_cons_of_pos (p := fun x => x != 45) hc, ih fun z => h (List.mem_cons_of_mem _ z)]
theorem behind_app {A C : List Nat} (h : 45 ∉ A) : behind (A ++ 45 :: C) = C := by
  induction A with
  | nil => rfl
  | cons c r ih =>
    have hc : (c != 45) = true := by
      rw [bne_iff_ne]; intro z; exact h (by rw [z]; exact List.mem_cons_self)
    unfold behind at ih ⊢
    rw [List.cons_append, List.dropWhile_cons_of_pos (p := fun x => x != 45) hc]
    exact ih fun z => h (List.mem_cons_of_mem _ z)
theorem num_no (n : Nat) : 45 ∉ TL.numL n := fun h => by
  have := TL.numL_digits n 45 h
  omega
theorem head_app {A C : List Nat} (hA : 45 ∉ A) (hC : 45 ∉ C) : headR (signsL ++ (A ++ 45 :: C)) = true := by
  unfold headR
  rw [Bool.and_eq_true_iff]
  constructor
  · exact decide_eq_true rfl
  · refine decide_eq_true ?_
    rw [List.count_append, List.count_append, List.count_cons_self, List.count_eq_zero.mpr hA, List.count_eq_zero.mpr hC]
    decide
theorem readR_app {A C : List Nat} (n : Int) (hA : 45 ∉ A) (hC : 45 ∉ C) : readR (signsL ++ (A ++ 45 :: C)) n = if A = [] then (match dig C with
    | none => none
    | some k => finR (n - min (k : Int) n) (min (k : Int) n))
  else match dig A with
    | none => none
    | some m => if C = [] then finR m (min (n - 1) (n - 1) - m + 1) else match dig C with
      | none => none
      | some l => if (l : Int) < m then none else finR m (min (l : Int) (n - 1) - m + 1) := by
  unfold readR
  rw [head_app hA hC, if_pos rfl]
  show readU (A ++ 45 :: C) n = _
  unfold readU
  rw [ahead_app hA, behind_app hA]
  all_goals rfl
theorem cut_end (y : Str) (a : Int) : cutS y (some a) (some (y.length : Int)) = cutS y (some a) none := by
  apply str_ext
  rw [tl_cut, tl_cut, sIx_none, sIx_pos (by omega), Int.toNat_natCast, Nat.min_self]
theorem cut_all (y : Str) : cutS y (some 0) none = y := by
  apply str_ext
  rw [cut_from _ _ (by decide)]
  rfl
section
variable {X : ShS} {key x y : Str}
theorem range_of {b m : Int} (h : getR X key = .ok (.str y)) (hr : readR (tl x) (y.length : Nat) = some (b, m)) : rangeR X key x = .ok (.str (cutS y (some b) (some (b + m)))) := by
  unfold rangeR
  rw [h]
  show (match readR (tl x) (y.length : Nat) with | none => _ | some (b, m) => _) = _
  rw [hr]
theorem range_none (h : getR X key = .ok (.str y)) (hr : readR (tl x) (y.length : Nat) = none) : rangeR X key x = .no "NoRange" := by
  unfold rangeR
  rw [h]
  show (match readR (tl x) (y.length : Nat) with | none => _ | some (b, m) => _) = _
  rw [hr]
theorem range_get {c : Str} (h : getR X key = .no c) : rangeR X key x = .no c := by
  unfold rangeR
  rw [h]
/-- from a up to b -/
theorem range_fs {a b : Nat} (h : getR X key = .ok (.str y)) (hx : tl x = signsL ++ (TL.numL a ++ 45 :: TL.numL b)) (hab : a ≤ b) (hb : b < y.length) (hy : y.length < 1000000) : rangeR X key x = .ok (.str (cutS y (some (a : Int)) (some ((b : Int) + 1)))) := by
  have hr : readR (tl x) (y.length : Nat) = some ((a : Int), (b : Int) - a + 1) := by
    rw [hx, readR_app _ (num_no a) (num_no b), if_neg (TL.numL_ne a), dig_num (by omega), dig_num (by omega)]
    show (if TL.numL b = [] then _ else (if ((b : Nat) : Int) < ((a : Nat) : Int) then none else finR (a : Int) (min (b : Int) ((y.length : Int) - 1) - a + 1))) = _
    rw [if_neg (TL.numL_ne b), if_neg (by omega)]
    unfold finR
    rw [show min (b : Int) ((y.length : Int) - 1) = (b : Int) by omega, if_neg (by omega)]
  rw [range_of h hr]
  congr 3
  congr 1
  omega
def tailR (y : Str) (a : Nat) : Res := if a < y.length then .ok (.str (cutS y (some (a : Int)) none)) else .no "NoRange"
theorem range_tail {a : Nat} (h : getR X key = .ok (.str y)) (hr : readR (tl x) (y.length : Nat) = finR (a : Int) ((y.length : Int) - a)) (ha : a ≤ y.length) : rangeR X key x = tailR y a := by
  unfold tailR
  unfold finR at hr
  split
  · rename_i c
    rw [if_neg (by omega)] at hr
    rw [range_of h hr, show (a : Int) + ((y.length : Int) - a) = (y.length : Int) by omega, cut_end]
  · rename_i c
    rw [if_pos (by omega)] at hr
    exact range_none h hr
theorem range_f {a : Nat} (h : getR X key = .ok (.str y)) (hx : tl x = signsL ++ (TL.numL a ++ 45 :: [])) (ha : a ≤ y.length) (hy : y.length < 100000) : rangeR X key x = tailR y a := by
  refine range_tail h ?_ ha
  rw [hx, readR_app _ (num_no a) (by simp), if_neg (TL.numL_ne a), dig_num (by omega)]
  show finR (a : Int) (min ((y.length : Int) - 1) ((y.length : Int) - 1) - a + 1) = _
  congr 1
  omega
theorem range_fb {a b : Nat} (h : getR X key = .ok (.str y)) (hx : tl x = signsL ++ (TL.numL a ++ 45 :: TL.numL b)) (ha : a ≤ y.length) (hb : y.length ≤ b) (hb2 : b < 100000) : rangeR X key x = tailR y a := by
  refine range_tail h ?_ ha
  rw [hx, readR_app _ (num_no a) (num_no b), if_neg (TL.numL_ne a), dig_num (by omega), dig_num (by omega)]
  show (if TL.numL b = [] then _ else (if ((b : Nat) : Int) < ((a : Nat) : Int) then none else finR (a : Int) (min (b : Int) ((y.length : Int) - 1) - a + 1))) = _
  rw [if_neg (TL.numL_ne b), if_neg (by omega)]
  congr 1
  omega
theorem range_s {a b : Nat} (h : getR X key = .ok (.str y)) (hx : tl x = signsL ++ ([] ++ 45 :: TL.numL b)) (hb : a = y.length - min b y.length) (hb2 : b < 100000) : rangeR X key x = tailR y a := by
  refine range_tail h ?_ (by omega)
  rw [hx, readR_app _ (by simp) (num_no b), if_pos rfl, dig_num (by omega)]
  show finR ((y.length : Int) - min (b : Int) (y.length : Int)) (min (b : Int) (y.length : Int)) = _
  rw [show (y.length : Int) - min (b : Int) (y.length : Int) = (a : Int) by omega, show min (b : Int) (y.length : Int) = (y.length : Int) - a by omega]
theorem range_no {c : Str} (h : rangeR X key x = .no c) : c = "NoKey" ∨ c = "Gone" ∨ c = "NoRange" := by
  unfold rangeR at h
  split at h
  · rename_i c' hc
    cases h
    unfold getR at hc
    split at hc
    · cases hc; exact .inl rfl
    · split at hc
      · cases hc; exact .inr (.inl rfl)
      · cases hc
  · split at h
    · cases h; exact .inr (.inr rfl)
    · cases h
  · cases h
end
def numT (n : Nat) : Str := Str.ofString (toString ((n : Nat) : Int))
theorem numT_len {n : Nat} (h : n < 1000000) : (numT n).length ≤ 6 := by
  rw [len_tl]
  unfold numT
  rw [tl_num]
  exact TL.numL_len (by decide) h
/-! rising numbers -/
theorem last_of {C : List Int} (h : C.Pairwise (· < ·)) {x : Int} (hx : x ∈ C) (hm : ∀ y ∈ C, y ≤ x) : C[C.length - 1]? = some x := by
  obtain ⟨j, hj, e⟩ := List.getElem_of_mem hx
  have hl : C.length - 1 < C.length := by omega
  rw [List.getElem?_eq_getElem hl]
  congr 1
  by_cases c : j = C.length - 1
  · subst c; exact e
  · have h1 := (List.pairwise_iff_getElem.mp h) j (C.length - 1) hj hl (by omega)
    have h2 := hm _ (List.getElem_mem hl)
    omega
theorem first_of {C : List Int} (h : C.Pairwise (· < ·)) {x : Int} (hx : x ∈ C) (hm : ∀ y ∈ C, x ≤ y) : C[0]? = some x := by
  obtain ⟨j, hj, e⟩ := List.getElem_of_mem hx
  have hl : 0 < C.length := by omega
  rw [List.getElem?_eq_getElem hl]
  congr 1
  by_cases c : j = 0
  · subst c; exact e
  · have h1 := (List.pairwise_iff_getElem.mp h) 0 j hl hj (by omega)
    have h2 := hm _ (List.getElem_mem hl)
    omega
end GK

/-! A store with one key, versions numbered from 1 on. -/
namespace GK
open PySem L2
abbrev k1 (key : Str) : Unit → Str := fun _ => key
theorem k1_inj (key : Str) : Inj (k1 key) := fun _ _ _ => rfl
structure One (key : Str) (c : Nat) (S : StS) (R : List Row) : Prop where
  x : ∃ r : List (Unit × List Row), Xw (k1 key) c S 100000 0 (R.length : Int) r [] ∧ rws r () = R ∧ totX r = (lensOf R).sum ∧ (r = [] ∨ ∃ l, r = [((), l)])
  up : S.up = UpS.nil
  vs : R.map (·.v) = (List.range R.length).map fun i : Nat => (i : Int) + 1
  tot : (lensOf R).sum ≤ 99 * (R.length : Int)
theorem One.new (key : Str) : One key 0 (StS.new 100000) [] := ⟨⟨[], Xw.new _ _, rfl, rfl, .inl rfl⟩, rfl, rfl, Int.le_refl _⟩
variable {key : Str} {c : Nat} {S : StS} {R : List Row}
theorem One.n (h : One key c S R) : R.length ≤ c := by
  obtain ⟨r, hx, e, _, _⟩ := h.x
  rw [← e]
  exact hx.rlen ()
theorem One.le (h : One key c S R) {c' : Nat} (hc : c ≤ c') : One key c' S R := by
  obtain ⟨r, hx, e1, e2, e3⟩ := h.x
  exact ⟨⟨r, hx.le hc, e1, e2, e3⟩, h.up, h.vs, h.tot⟩
theorem One.stb (h : One key c S R) (hk : key.length ≤ 1000) (hc : c < 64) : StB S := by
  obtain ⟨r, hx, _⟩ := h.x
  exact hx.stb (fun _ => hk) (by rw [h.up]; exact up0) hc
theorem lens_snoc (R : List Row) (q : Row) : (lensOf (R ++ [q])).sum = (lensOf R).sum + (match q.data with | none => 0 | some x => (x.length : Int)) := by
  unfold lensOf
  rw [List.filterMap_append, List.map_append, List.sum_append]
  congr 1
  cases h : q.data with
  | none => rw [List.filterMap_cons_none h]; rfl
  | some x => rw [List.filterMap_cons_some h]; show (x.length : Int) + 0 = _; rw [Int.add_zero]
theorem One.come (h : One key c S R) {d s : Option Str} (hd : dataOk d s) (hl : ∀ x, d = some x → x.length ≤ 99) : One key (c + 1) (S.come key d s) (R ++ [⟨(R.length : Int) + 1, 0, d, s⟩]) := by
  obtain ⟨r, hx, e1, e2, e3⟩ := h.x
  have hx' := hx.come (k1_inj key) () hd
  rw [e1] at hx'
  have hr : aPut r () (R ++ [⟨(R.length : Int) + 1, 0, d, s⟩]) = [((), R ++ [⟨(R.length : Int) + 1, 0, d, s⟩])] := by
    rcases e3 with rfl | ⟨l, rfl⟩
    · rfl
    · rfl
  rw [hr] at hx'
  have hlen : ((R ++ [(⟨(R.length : Int) + 1, 0, d, s⟩ : Row)]).length : Int) = (R.length : Int) + 1 := by rw [List.length_append]; rfl
  refine ⟨⟨_, by rw [hlen]; exact hx', rfl, ?_, .inr ⟨_, rfl⟩⟩, h.up, ?_, ?_⟩
  · show (lensOf (R ++ [_])).sum + 0 = _
    rw [Int.add_zero]
  · rw [List.map_append, h.vs, List.length_append, List.length_singleton, List.range_succ, List.map_append]
    rfl
  · rw [lens_snoc, hlen]
    have := h.tot
    cases d with
    | none => show _ + 0 ≤ _; omega
    | some x => have := hl x rfl; show _ + (x.length : Int) ≤ _; omega
theorem One.put (h : One key c S R) {x : Str} (hx : x.length ≤ 99) : One key (c + 1) (S.put key x) (R ++ [⟨(R.length : Int) + 1, 0, some x, some (sumT x)⟩]) := h.come ⟨rfl, fun y hy => by cases hy; omega⟩ fun y hy => by cases hy; exact hx
theorem One.drop (h : One key c S R) : One key (c + 1) (S.drop key) (R ++ [⟨(R.length : Int) + 1, 0, none, none⟩]) := h.come ⟨rfl, fun y hy => by cases hy⟩ fun y hy => by cases hy
theorem One.told (h : One key c S R) : toldRows S.sh key = .tuple (R.reverse.map toldD) := by
  obtain ⟨r, hx, e, _, _⟩ := h.x
  have := hx.told (k1_inj key) ()
  rw [e] at this
  exact this
theorem One.newest (h : One key c S R) : GK.newest S.sh key = R.getLast? := by
  obtain ⟨r, hx, e, _, _⟩ := h.x
  have := hx.newest (k1_inj key) ()
  rw [e] at this
  exact this
theorem One.row (h : One key c S R) (w : Int) : rowOf S.sh key w = R.find? fun q => decide (q.v = w) := by
  obtain ⟨r, hx, e, _, _⟩ := h.x
  have := hx.row (k1_inj key) () w
  rw [e] at this
  exact this
theorem One.putOk (h : One key c S R) (hc : c < 64) {x : Str} (hl : x.length ≤ 99) : putR S x = .ok (.int ((R.length : Int) + 1)) := by
  obtain ⟨r, hx, e1, e2, _⟩ := h.x
  refine hx.putOk (k1_inj key) ?_
  rw [e2, h.up]
  have := h.tot
  have := h.n
  show _ + 0 + _ ≤ _
  omega
theorem One.getOk (h : One key c S (R ++ [q])) {x : Str} (hq : q.data = some x) : getR S.sh key = .ok (.str x) := by
  unfold getR
  rw [h.newest, List.getLast?_concat, ]
  show (match q.data with | none => Res.no "Gone" | some x => .ok (.str x)) = _
  rw [hq]
theorem One.dropOk (h : One key c S (R ++ [q])) {x : Str} (hq : q.data = some x) : dropR S key = .ok (.int (S.lastv + 1)) := by
  unfold dropR
  rw [h.getOk hq]
def rd (R : List Row) : Option Int := match R.getLast? with
  | none => none
  | some q => match q.data with
    | none => none
    | some _ => some q.v
theorem rd_snoc {q : Row} {x : Str} (hq : q.data = some x) : rd (R ++ [q]) = some q.v := by
  unfold rd
  rw [List.getLast?_concat]
  show (match q.data with | none => none | some _ => some q.v) = _
  rw [hq]
theorem One.vle (h : One key c S R) {q : Row} (hq : q ∈ R) : q.v ≤ (R.length : Int) := by
  have : q.v ∈ R.map (·.v) := List.mem_map_of_mem hq
  rw [h.vs] at this
  obtain ⟨i, hi, e⟩ := List.mem_map.mp this
  rw [List.mem_range] at hi
  omega
theorem rd_le (h : One key c S R) {m : Int} (hm : rd R = some m) : m ≤ (R.length : Int) := by
  unfold rd at hm
  cases e : R.getLast? with
  | none => rw [e] at hm; cases hm
  | some q =>
    rw [e] at hm
    have hq := h.vle (List.mem_of_getLast? e)
    cases e2 : q.data with
    | none => simp [e2] at hm
    | some x => simp [e2] at hm; omega
theorem One.isLast (h : One key c S R) : GK.isLast S key (rd R) = true := by
  have hn := h.newest
  cases e : R.getLast? with
  | none =>
    have : rd R = none := by unfold rd; rw [e]
    rw [this]
    show (!isThere S.sh key) = true
    unfold isThere
    rw [hn, e]; rfl
  | some q =>
    cases e2 : q.data with
    | none =>
      have : rd R = none := by unfold rd; rw [e]; simp [e2]
      rw [this]
      show (!isThere S.sh key) = true
      unfold isThere
      rw [hn, e]; simp [e2]
    | some x =>
      have : rd R = some q.v := by unfold rd; rw [e]; simp [e2]
      rw [this]
      show (match GK.newest S.sh key with | none => false | some r => decide (r.v = q.v)) = true
      rw [hn, e]; simp
theorem One.pifOk (h : One key c S R) (hc : c < 64) {x : Str} (hl : x.length ≤ 99) : (Act.pif key x (rd R)).res S = .ok (.int ((R.length : Int) + 1)) := by
  show putIfR S key x (rd R) = _
  unfold putIfR
  rw [if_pos h.isLast]
  exact h.putOk hc hl
theorem One.pifNo {q : Row} (h : One key c S (R ++ [q])) {x : Str} {last : Option Int} (h1 : last = none → q.data.isSome = true) (h2 : ∀ m, last = some m → m ≠ q.v) : (Act.pif key x last).res S = .no "Changed" := by
  show putIfR S key x last = _
  unfold putIfR
  have hn := h.newest
  rw [List.getLast?_concat] at hn
  rw [if_neg]
  cases last with
  | none =>
    show ¬ (!isThere S.sh key) = true
    unfold isThere
    rw [hn]
    show ¬ (!q.data.isSome) = true
    rw [h1 rfl]; decide
  | some m =>
    show ¬ (match GK.newest S.sh key with | none => false | some r => decide (r.v = m)) = true
    rw [hn]
    show ¬ decide (q.v = m) = true
    rw [decide_eq_true_iff]
    exact fun z => h2 m rfl z.symm
theorem One.last (h : One key c S (R ++ [q])) : q.v = (R.length : Int) + 1 := by
  have := h.vs
  rw [List.map_append, List.length_append, List.length_singleton, List.range_succ, List.map_append] at this
  have := List.append_inj_right' this rfl
  simpa using this
end GK

namespace GK
open PySem PySem.Spec PyProof.Rows L2
open Evl (Ex ex_l ex_t ex_rd sq_of st_of sz_of sz_lt fresh_back)
/-! ### texts times numbers -/
theorem tl_mul {x : Str} {n : Int} (h1 : 1 ≤ n) : tl (Txt.mul x n) = (List.replicate n.toNat (tl x)).flatten := by
  unfold Txt.mul
  rw [if_neg (by omega)]
  have hf : ∀ (k : Nat) (acc : Array Nat), ((List.replicate k x.cps).foldl (· ++ ·) acc).toList = acc.toList ++ (List.replicate k (tl x)).flatten := by
    intro k
    induction k with
    | zero => intro acc; simp
    | succ k ih => intro acc; rw [List.replicate_succ, List.foldl_cons, ih, List.replicate_succ, List.flatten_cons]; simp [tl]
  split
  · rename_i hc
    rcases Bool.or_eq_true_iff.mp hc with q | q
    · rw [beq_iff_eq.mp q]; simp
    · have h0 : tl x = [] := by
        have := beq_iff_eq.mp q
        rw [len_tl] at this
        exact List.eq_nil_of_length_eq_zero this
      rw [h0]; simp
  · show ((List.replicate n.toNat x.cps).foldl (· ++ ·) #[]).toList = _
    rw [hf]; simp
theorem mul_len {x : Str} {n : Int} (h1 : 1 ≤ n) : (Txt.mul x n).length = n.toNat * x.length := by
  rw [len_tl, tl_mul h1, List.length_flatten, List.map_replicate, List.sum_replicate_nat, ← len_tl]
theorem asc_mul {x : Str} {n : Int} (h1 : 1 ≤ n) (h : asc x) : asc (Txt.mul x n) := fun c hc => by
  rw [tl_mul h1] at hc
  obtain ⟨l, hl, hc⟩ := List.mem_flatten.mp hc
  rw [(List.mem_replicate.mp hl).2] at hc
  exact h c hc
theorem mul_ok {x : Str} {n : Int} (h1 : 1 ≤ n) (h2 : n ≤ 1000) (hx : x.length ≤ 1000) : MulOk x n := by
  have e63 : (2 : Int) ^ 63 = 9223372036854775808 := by decide
  refine ⟨?_, fun _ _ => ?_, fun _ _ => ?_⟩
  · rw [decide_eq_false (by omega), decide_eq_false (by omega)]; rfl
  · have : (1000 : Int) ≤ ((2 : Int) ^ 63 - 1) / n := by
      refine (Int.le_ediv_iff_mul_le (by omega)).mpr ?_
      omega
    omega
  · have h3 : x.length * n.toNat ≤ 1000 * 1000 := Nat.mul_le_mul hx (by omega)
    unfold Builtin.Str.tooLong
    exact decide_eq_false (by have : (1000000 : Nat) ≤ sizeLine := by decide
                              omega)
end GK

/-! Two ways that meet again. -/
namespace GK
open PySem PySem.Spec PyProof.Rows L2
open Evl (Ex)
theorem q_join {ts tz : TS} {D : Ends} {σ : Sig} {H : Hp} (P : Sig → Hp → Prop) (h : ∀ D' : Ends, D'.rt = D.rt → (∀ σ H, P σ H → D'.nx σ H) → ts D' σ H) (k : ∀ σ H, P σ H → tz D σ H) : tSeq ts tz D σ H := h { D with nx := tz D } rfl k
theorem s_and_go {tt tu : TT} {tx ty : TS} {B : Hp} {D : Ends} {σ : Sig} {H : Hp} (ha : EvB tt σ B H true) (eb : Ex B H) (h : ∀ H1, Ex H H1 → Ex B H1 → tIfS tu tx ty D σ H1) : tIfS (tAnd tt tu) tx ty D σ H := ha H (Ex.refl _) eb _ fun H1 e1 => by
  rw [if_pos rfl]
  exact h H1 e1 (eb.trans e1)
theorem nx_go {D : Ends} {σ : Sig} {H : Hp} (h : D.nx σ H) : tNext D σ H := h
def NonOrQ (D : Ends) (tu : TT) (tx tz : TS) (σ : Sig) : VK := fun v H1 => rNotNone v .non H1 fun b H3 => ∃ k, b = .bl k ∧ (if k = true then (if true = true then tx { D with nx := tz D } σ H3 else tNext { D with nx := tz D } σ H3) else tu σ H3 fun b H1 => if b = true then tx { D with nx := tz D } σ H1 else tNext { D with nx := tz D } σ H1)
theorem q_notN_or {tm : TE} {tu : TT} {tx tz : TS} {D : Ends} {σ : Sig} {H : Hp} (h : tm σ H (NonOrQ D tu tx tz σ)) : tSeq (tIfS (tOr (tTest (tOp rNotNone tm (tC .non))) tu) tx tNext) tz D σ H := h
theorem non_or_end {tu : TT} {tx tz : TS} {D : Ends} {σ : Sig} {H : Hp} (h : tSeq (tIfS tu tx tNext) tz D σ H) : NonOrQ D tu tx tz σ .non H := ⟨rfl, false, rfl, h⟩
theorem s_asgNn {te : TE} {B H : Hp} {σ : Sig} {D : Ends} {i : Nat} (h : EvD te σ B H .none) (eb : Ex B H) (k : ∀ H1, Ex H H1 → Ex B H1 → D.nx (σ.set i (some .non)) H1) : tAsg te (gName i) D σ H := h.flat (fun _ _ => dpn) (Ex.refl _) eb fun H1 e => k H1 e (eb.trans e)
end GK

/-! A loop that changes things: what is changed may hang on the slots. -/
namespace GK
open PySem PySem.Spec PyProof.Rows L2
open Evl (Ex ex_l ex_t ex_rd sq_of st_of sz_of sz_lt fresh_back)
section
variable {σ : Sig} {B H : Hp} {wi : TI} {g : TG} {tx tz : TS} {D : Ends} {ds : List PyData}
theorem s_forS (hs : SrcD wi σ B H ds) (eb : Ex B H) (L0 : List Addr) (R : Nat → Sig → List Addr → Hp → Hp → Prop)
    (hg : ∀ i σ L B H B' H', R i σ L B H → Ex H H' → Ext B H B' → R i σ L B' H') (r0 : R 0 σ L0 B H)
    (ht : ∀ i d x σ1 H1 B1 L1, ds[i]? = some d → Ext B H B1 → Only L0 H H1 → (∀ p ∈ L1, p ∈ L0 ∨ H p = none) → Ex B1 H1 → R i σ1 L1 B1 H1 → Da B1 x d → ∀ D' : Ends, D'.rt = D.rt → D'.bk = D.nx → D'.ct = D'.nx →
      (∀ σ2 H2 B2 L2, Only L1 H1 H2 → (∀ p ∈ L2, p ∈ L1 ∨ H1 p = none) → Ext B1 H1 B2 → Ex B2 H2 → R (i + 1) σ2 L2 B2 H2 → D'.nx σ2 H2) → g x σ1 H1 fun σ2 H3 => tx D' σ2 H3)
    (hd : ∀ σ1 H1 B1 L1, Ext B H B1 → Only L0 H H1 → (∀ p ∈ L1, p ∈ L0 ∨ H p = none) → Ex B1 H1 → R ds.length σ1 L1 B1 H1 → D.nx σ1 H1) : tFor wi g tx D σ H := by
  refine s_for hs eb (fun B1 i σ1 H1 => ∃ B2 L2, Ext B H B2 ∧ Ex B1 B2 ∧ Ex B2 H1 ∧ Only L0 H H1 ∧ (∀ p ∈ L2, p ∈ L0 ∨ H p = none) ∧ R i σ1 L2 B2 H1)
    (fun H1 B1 e1 x1 eb1 => ⟨B1, L0, x1, Ex.refl _, eb1, Only.of e1, fun p hp => .inl hp, hg _ _ _ _ _ _ _ r0 e1 x1⟩) (fun B1 i σ1 H1 _ ⟨B2, L2, _, e1, e2, _⟩ => e1.trans e2) ?_ ?_
  · rintro B1 i d x σ1 H1 H2 B2 bB hdd ⟨B3, L3, x3, e13, e31, o3, f3, r3⟩ e2 x2 eb2 hx
    obtain ⟨u1, u2, u3⟩ := uni_loop x3 o3 e13 e31 e2 x2 eb2
    have x4 : Ext B H (uni B3 B2) := x3.only o3 u1
    have o4 : Only L0 H H2 := o3.trans (Only.of e2)
    refine ht i d x σ1 H2 (uni B3 B2) L3 hdd x4 o4 f3 u2 (hg _ _ _ _ _ _ _ r3 e2 u1) (hx.ex' u3) _ rfl rfl rfl fun σ2 H5 B5 L5 o5 f5 x5 eb5 r5 => ?_
    exact ⟨B5, L5, x4.only o4 x5, (e13.trans u1.1).trans x5.1, eb5, o4.next f3 o5, fresh_next o4 f3 f5, r5⟩
  · rintro B1 σ1 H1 bB ⟨B3, L3, x3, e13, e31, o3, f3, r3⟩
    exact hd σ1 H1 B3 L3 x3 o3 f3 e31 r3
theorem q_forS (hs : SrcD wi σ B H ds) (eb : Ex B H) (L0 : List Addr) (R : Nat → Sig → List Addr → Hp → Hp → Prop)
    (hg : ∀ i σ L B H B' H', R i σ L B H → Ex H H' → Ext B H B' → R i σ L B' H') (r0 : R 0 σ L0 B H)
    (ht : ∀ i d x σ1 H1 B1 L1, ds[i]? = some d → Ext B H B1 → Only L0 H H1 → (∀ p ∈ L1, p ∈ L0 ∨ H p = none) → Ex B1 H1 → R i σ1 L1 B1 H1 → Da B1 x d → ∀ D' : Ends, D'.rt = D.rt → D'.bk = tz D → D'.ct = D'.nx →
      (∀ σ2 H2 B2 L2, Only L1 H1 H2 → (∀ p ∈ L2, p ∈ L1 ∨ H1 p = none) → Ext B1 H1 B2 → Ex B2 H2 → R (i + 1) σ2 L2 B2 H2 → D'.nx σ2 H2) → g x σ1 H1 fun σ2 H3 => tx D' σ2 H3)
    (hd : ∀ σ1 H1 B1 L1, Ext B H B1 → Only L0 H H1 → (∀ p ∈ L1, p ∈ L0 ∨ H p = none) → Ex B1 H1 → R ds.length σ1 L1 B1 H1 → tz D σ1 H1) : tSeq (tFor wi g tx) tz D σ H := s_forS (D := { D with nx := tz D }) hs eb L0 R hg r0 ht hd
end
end GK

/-! Comprehensions with two names; tuples whose parts change things. -/
namespace GK
open PySem PySem.Spec PyProof.Rows L2
open Evl (Ex ex_l ex_t ex_rd sq_of st_of sz_of sz_lt fresh_back)
section
variable {K : PySem.W.Frag} {σ : Sig} {B H : Hp} {te t1 t2 : TE} {tt : TT} {Q : VK} {d1 d2 : PyData}
theorem evd_lc2c {wi : TI} {i j : Nat} {vs : List Nat} {α : Type} {as : List α} (e1 e2 : α → PyData) (c : α → Bool) (f : α → PyData) (hs : SrcD wi σ B H (as.map fun a => .tuple [e1 a, e2 a])) (hl : as.length ≤ 40000) (hw : ∀ x y, wipe (((wipe σ vs).set i (some x)).set j (some y)) vs = wipe σ vs)
    (he : ∀ a ∈ as, ∀ x y B1 H1, Ex B B1 → Ex H H1 → Ex B1 H1 → Da B1 x (e1 a) → Da B1 y (e2 a) → EvB tt (((wipe σ vs).set i (some x)).set j (some y)) B1 H1 (c a) ∧ (c a = true → EvD te (((wipe σ vs).set i (some x)).set j (some y)) B1 H1 (f a))) : EvD (tLc wi (gTup K 2 (gCons (gName i) (gCons (gName j) gNil))) tt te vs) σ B H (.list ((as.filter c).map f)) :=
  evd_lc (tt := tt) (te := te) (fun a => .tuple [e1 a, e2 a]) c f hs hl fun a ha x B1 H1 eb eh e hx R k => tg2 hx e fun v1 v2 q1 q2 => by
    obtain ⟨h1, h2⟩ := he a ha v1 v2 B1 H1 eb eh e q1 q2
    exact k _ (hw v1 v2) h1 h2
theorem evd_lc2 {wi : TI} {i j : Nat} {vs : List Nat} {α : Type} {as : List α} (e1 e2 : α → PyData) (f : α → PyData) (hs : SrcD wi σ B H (as.map fun a => .tuple [e1 a, e2 a])) (hl : as.length ≤ 40000) (hw : ∀ x y, wipe (((wipe σ vs).set i (some x)).set j (some y)) vs = wipe σ vs)
    (he : ∀ a ∈ as, ∀ x y B1 H1, Ex B B1 → Ex H H1 → Ex B1 H1 → Da B1 x (e1 a) → Da B1 y (e2 a) → EvD te (((wipe σ vs).set i (some x)).set j (some y)) B1 H1 (f a)) : EvD (tLc wi (gTup K 2 (gCons (gName i) (gCons (gName j) gNil))) tYes te vs) σ B H (.list (as.map f)) := by
  have h := evd_lc2c (K := K) (tt := tYes) (te := te) e1 e2 (fun _ => true) f hs hl hw fun a ha x y B1 H1 eb eh e hx hy => ⟨evb_yes, fun _ => he a ha x y B1 H1 eb eh e hx hy⟩
  rwa [List.filter_eq_self.mpr (fun _ _ => rfl)] at h
def Tup2Q (v1 : V) (Q : VK) : VK := fun v2 H2 => [v1, v2].length ≤ sizeLine ∧ ∀ p, H2 p = none → Q (.ref p) (upd H2 p (.tup [v1, v2]))
theorem v_tup2 (h : t1 σ H fun v1 H1 => t2 σ H1 (Tup2Q v1 Q)) : tTup (tCons t1 (tCons t2 tNil)) σ H Q := h
theorem tup2_end {v1 v2 : V} (eb : Ex B H) (h1 : Da B v1 d1) (h2 : Da B v2 d2) (k : ∀ v H1 B1, Ex H H1 → Ext B H B1 → Ex B1 H1 → Da B1 v (.tuple [d1, d2]) → Q v H1) : Tup2Q v1 Q v2 H := ⟨by show 2 ≤ sizeLine; decide, fun p hp => k _ _ (upd B p (.tup [v1, v2])) (Ex.new hp) (Ext.new eb hp) (ex_upd2 eb) (.tup upd_same (.cons (h1.ex' (Ex.new (fresh_back eb hp))) (.cons (h2.ex' (Ex.new (fresh_back eb hp))) .nil)))⟩
end
end GK

/-! A comprehension whose element changes things. -/
namespace GK
open PySem PySem.Spec PyProof.Rows L2
open Evl (Ex ex_l ex_t ex_rd sq_of st_of sz_of sz_lt fresh_back)
section
variable {σ : Sig} {B H : Hp} {wi : TI} {te : TE} {ds : List PyData} {Q : VK} {j : Nat} {vs : List Nat}
theorem yes_go {σ : Sig} {H : Hp} {P1 P2 : Hp → Prop} (h : P1 H) : tYes σ H fun b H3 => if b = true then P1 H3 else P2 H3 := by
  show if true = true then P1 H else P2 H
  rw [if_pos rfl]; exact h
theorem v_lcR (hs : SrcD wi σ B H ds) (eb : Ex B H) (L0 : List Addr) (hL0 : ∀ p ∈ L0, H p ≠ none) (R : Nat → List PyData → List Addr → Hp → Hp → Prop)
    (hk : ∀ {i acc L M B H B' H'}, R i acc L B H → Only M H H' → Ext B H B' → (∀ p ∈ L, p ∉ M) → R i acc L B' H') (r0 : R 0 [] L0 B H) (hl : ds.length ≤ 10000) (hw : ∀ x, wipe ((wipe σ vs).set j (some x)) vs = wipe σ vs)
    (ht : ∀ i d x H1 B1 L1 acc, ds[i]? = some d → Ex B B1 → Ex B1 H1 → acc.length = i → (∀ p ∈ L1, p ∈ L0 ∨ H p = none) → R i acc L1 B1 H1 → Da B1 x d → ∀ Q' : VK,
      (∀ y e H2 B2 L2, Only L1 H1 H2 → (∀ p ∈ L2, p ∈ L1 ∨ H1 p = none) → Ext B1 H1 B2 → Ex B2 H2 → R (i + 1) (acc ++ [e]) L2 B2 H2 → Da B2 y e → Q' y H2) → te ((wipe σ vs).set j (some x)) H1 Q')
    (hd : ∀ D H1 B1 L1 acc, Ext B H B1 → Only L0 H H1 → (∀ p ∈ L1, p ∈ L0 ∨ H p = none) → Ex B1 H1 → R ds.length acc L1 B1 H1 → H D = none → LsAt D acc [D] B1 H1 → D ∉ L1 → Q (.ref D) H1) : tLc wi (gName j) tYes te vs σ H Q := hs H (Ex.refl _) eb _ fun J H2 B2 e2 x2 eb2 ⟨G, Y, w, hG, hY⟩ D hD => by
  have bD : B2 D = none := fresh_back eb2 hD
  have hHD : H D = none := fresh_back e2 hD
  have e3 : Ex H2 (upd H2 D (.lst [])) := Ex.new hD
  have nD0 : D ∉ L0 := fun z => hL0 D z hHD
  refine lc_it w (fun i Hc => ∃ acc accD B3 L3, Ext B2 (upd H2 D (.lst [])) B3 ∧ Ex B3 Hc ∧ Only (D :: L0) (upd H2 D (.lst [])) Hc ∧ (∀ p ∈ L3, p ∈ L0 ∨ upd H2 D (.lst []) p = none) ∧ R i accD L3 B3 Hc ∧ Hc D = some (.lst acc) ∧ B3 D = none ∧ DaAll B3 acc accD ∧ accD.length = i)
    ⟨[], [], B2, L0, Ext.refl _ _, eb2.trans e3, Only.of (Ex.refl _), fun p hp => .inl hp, hk r0 (Only.of (L := []) (e2.trans e3)) x2 (fun _ _ => by simp), upd_same, bD, .nil, rfl⟩ (fun i H3 _ ⟨_, _, B3, _, x3, eb3, _⟩ => hG H3 (x3.1.trans eb3)) ?_ ?_
  · rintro i x Hc H4 hi ⟨acc, accD, B3, L3, x3, eb3, o3, f3, r3, hacc, b3, hds, hlen⟩ y
    obtain ⟨e4, hd4⟩ := hY i x Hc H4 hi (x3.1.trans eb3) y
    obtain ⟨d, hdd⟩ : ∃ d, ds[i]? = some d := ⟨_, List.getElem?_eq_getElem hi⟩
    obtain ⟨B4, x4, eb4, hdx⟩ := hd4 d hdd
    obtain ⟨u1, u2, u3⟩ := uni_loop x3 o3 x3.1 eb3 e4 x4 eb4
    have nD3 : D ∉ L3 := fun z => by
      rcases f3 D z with c | c
      · exact nD0 c
      · rw [upd_same] at c; cases c
    have hacc4 : H4 D = some (.lst acc) := e4 _ _ hacc
    have fr : ∀ p ∈ L3, p ∈ L0 ∨ H p = none := fun p hp => by
      rcases f3 p hp with c | c
      · exact .inl c
      · exact .inr (fresh_back (e2.trans e3) c)
    refine ⟨hw _, ?_⟩
    refine yes_go ?_
    refine ht i d x H4 (uni B3 B4) L3 accD hdd ((x2.1.trans x3.1).trans u1.1) u2 hlen fr (hk r3 (Only.of (L := []) e4) u1 (fun _ _ => by simp)) (hdx.ex' u3) _ ?_
    intro y' e H6 B6 L6 o6 f6 x6 eb6 r6 hy
    have hacc6 : H6 D = some (.lst acc) := o6.k _ _ hacc4 nD3
    have b5 : uni B3 B4 D = none := by rw [u1.2 D (by rw [hacc]; simp)]; exact b3
    have b6 : B6 D = none := by rw [x6.2 D (by rw [hacc4]; simp)]; exact b5
    have nD6 : D ∉ L6 := fun z => by
      rcases f6 D z with c | c
      · exact nD3 c
      · rw [hacc4] at c; cases c
    have o4 : Only (D :: L0) (upd H2 D (.lst [])) H4 := o3.trans (Only.of e4)
    have f3' : ∀ p ∈ L3, p ∈ D :: L0 ∨ upd H2 D (.lst []) p = none := fun p hp => (f3 p hp).imp (List.mem_cons_of_mem _) id
    refine ⟨acc, hacc6, ?_, acc ++ [y'], accD ++ [e], B6, L6, ?_, ex_mut eb6 b6, ?_, ?_, hk r6 (Only.put (L := [D]) (p := D) (by simp)) (Ext.refl _ _) (fun p hp => by simpa using fun z => nD6 (by rw [← z]; exact hp)), upd_same, b6, dpa_app (dpAll_ex (u1.1.trans x6.1) _ _ hds) (.cons hy .nil), by rw [List.length_append, hlen]; rfl⟩
    · have := dpa_len hds
      exact sz_lt (by omega)
    · exact (x3.only o3 u1).only o4 x6
    · exact (o4.next f3' o6).trans (Only.put (by simp))
    · intro p hp
      rcases fresh_next o4 f3' f6 p hp with c | c
      · rcases List.mem_cons.mp c with z | z
        · exact absurd hp (by rw [z]; exact nD6)
        · exact .inl z
      · exact .inr c
  · rintro Hc ⟨acc, accD, B3, L3, x3, eb3, o3, f3, r3, hacc, b3, hds, hlen⟩
    refine hd D Hc B3 L3 accD (x2.trans (e2.trans e3) x3) ⟨fun p o hp hn => o3.k p o ((e2.trans e3) _ _ hp) (fun z => ?_), fun p hp => o3.d p ?_⟩ (fun p hp => ?_) eb3 r3 hHD ⟨rfl, b3, acc, hacc, hds⟩ fun z => ?_
    · rcases List.mem_cons.mp z with c | c
      · rw [c, hHD] at hp; cases hp
      · exact hn c
    · cases c : H p with
      | none => exact absurd c hp
      | some o => rw [(e2.trans e3) _ _ c]; simp
    · rcases f3 p hp with c | c
      · exact .inl c
      · exact .inr (fresh_back (e2.trans e3) c)
    · rcases f3 D z with c | c
      · exact nD0 c
      · rw [upd_same] at c; cases c
end
end GK

namespace GK
open PySem PySem.Spec PyProof.Rows L2
open Evl (Ex ex_l ex_t ex_rd sq_of st_of sz_of sz_lt fresh_back)
theorem range_at' {n i : Nat} {d : PyData} (h : (rangeD 0 n)[i]? = some d) : i < n ∧ d = .int (i : Int) := by
  unfold rangeD at h
  rw [List.getElem?_map] at h
  obtain ⟨a, ha, rfl⟩ := Option.map_eq_some_iff.mp h
  obtain ⟨h1, h2⟩ := List.getElem?_eq_some_iff.mp ha
  rw [List.length_range] at h1
  rw [List.getElem_range] at h2
  subst h2
  exact ⟨h1, by simp⟩
def upto (n : Nat) : List Int := (List.range n).map fun i : Nat => (i : Int)
theorem upto_len (n : Nat) : (upto n).length = n := by unfold upto; rw [List.length_map, List.length_range]
theorem upto_mem {n : Nat} {x : Int} (h : x ∈ upto n) : 0 ≤ x ∧ x < (n : Int) := by
  unfold upto at h
  obtain ⟨i, hi, rfl⟩ := List.mem_map.mp h
  rw [List.mem_range] at hi
  omega
theorem src_upto {σ : Sig} {B H : Hp} {tr : TA} {n : Nat} (h : EvDs tr σ B H [.int (n : Int)]) (hn : n ≤ 10000) : SrcD (iRng1 tr) σ B H ((upto n).map .int) := by
  have := src_range1 h (by omega)
  unfold rangeD at this
  unfold upto
  rw [List.map_map]
  simp only [Int.zero_add, Int.toNat_natCast] at this
  exact this
theorem rgV_upto (n : Nat) : rgV 0 (n : Int) = (upto n).map V.int := by
  unfold rgV upto
  rw [List.map_map, Int.sub_zero, Int.toNat_natCast]
  refine List.map_congr_left fun i _ => ?_
  show V.int (0 + (i : Int)) = V.int (i : Int)
  rw [Int.zero_add]
theorem er_map {α β : Type} (f : α → β) : ∀ (l : List α) (k : Nat), (l.map f).eraseIdx k = (l.eraseIdx k).map f
  | [], k => by simp
  | a :: r, 0 => by simp
  | a :: r, k + 1 => by simp [er_map f r k]
theorem er_perm {α : Type} {y : α} : ∀ {l : List α} {k : Nat}, l[k]? = some y → l.Perm (y :: l.eraseIdx k)
  | [], k, h => by simp at h
  | a :: r, 0, h => by simp at h; subst h; simp
  | a :: r, k + 1, h => by
    have h' : r[k]? = some y := by simpa using h
    rw [List.eraseIdx_cons_succ]
    exact ((er_perm h').cons a).trans (.swap y a _)
section
variable {K : PySem.W.Frag} {σ : Sig} {B H : Hp} {D : Ends} {tz : TS} {ta : TE} {Q : VK}
theorem q_lrange {n i : Nat} (h : EvD ta σ B H (.int (n : Int))) (eb : Ex B H) (hn : n ≤ 10000) (k : ∀ p H1, H p = none → Ex H H1 → Ex B H1 → LsAt p ((upto n).map .int) [p] B H1 → tz D (σ.set i (some (.ref p))) H1) : tSeq (tAsg (tLstRg (tRg1 ta)) (gName i)) tz D σ H := h.flat (fun _ _ => dpi) (Ex.refl _) eb fun H1 e1 => by
  refine ⟨_, rfl, RgOk.of_le (by decide) (by omega) (by decide) (by omega), fun p hp => ?_⟩
  rw [rgV_upto]
  have eb1 := eb.trans e1
  refine k p _ (fresh_back e1 hp) (e1.trans (Ex.new hp)) (eb1.trans (Ex.new hp)) ⟨rfl, fresh_back eb1 hp, _, upd_same, dpa_ofInts _⟩
theorem v_popAt {p : Addr} {ns : List Int} {L : List Addr} {j k : Nat} {y : Int} (hv : σ[j]? = some (some (.ref p))) (h : EvD ta σ B H (.int (k : Int))) (eb : Ex B H) (hp : LsAt p (ns.map .int) L B H) (hk : ns[k]? = some y) (hl : ns.length ≤ 100000)
    (q : ∀ H1 B1, Only L H H1 → Ext B H B1 → Ex B1 H1 → LsAt p ((ns.eraseIdx k).map .int) L B1 H1 → Q (.int y) H1) : tBM K "list" rPopAt (tVar j) (tCons ta tNil) σ H Q := by
  obtain ⟨rfl, b, xs, h1, h2⟩ := hp
  have hxs := dpa_ints h2
  subst hxs
  have hkl : k < ns.length := (List.getElem?_eq_some_iff.mp hk).1
  refine ⟨_, hv, .inl ⟨rfl, _, sq_of h1⟩, h.flat (fun _ _ => dpi) (Ex.refl _) eb fun H1 e1 => ?_⟩
  refine ⟨p, _, _, k, .int y, rfl, rfl, e1 _ _ h1, by omega, by omega, ?_, by rw [List.getElem?_map, hk]; rfl, ?_⟩
  · unfold seqIndex?
    rw [List.length_map]
    simp [show ¬ ((k : Int) < 0) by omega, hkl]
  · refine q _ B ((Only.of e1).trans (Only.put (by simp))) (Ext.refl _ _) (ex_mut (eb.trans e1) b) ⟨rfl, b, _, upd_same, ?_⟩
    rw [er_map]
    exact dpa_ofInts _
end
def sp_law_perm (K : PySem.W.Frag) : Sp := fun vs H Q _ => ∃ (B : Hp) (c : Int) (n : Nat), vs = [.int c, .int (n : Int)] ∧ Ex B H ∧ n ≤ 1000 ∧ ∀ l : List Int, l.Perm (upto n) → Ret (.list (l.map .int)) B H Q
theorem len_law_perm {K : PySem.W.Frag} {vs : List V} {H : Hp} {Q : VK} {E : XK} (h : sp_law_perm K vs H Q E) : vs.length = 2 := by
  obtain ⟨_, _, _, rfl, _⟩ := h; rfl
def t_law_perm (K : PySem.W.Frag) (E : XK) : TS :=
  (tSeq (tAsg (tLstRg (tRg1 (tVar 1))) (gName 2))
    (tRet (tLc (iRng1 (tCons (tVar 1) tNil)) (gName 3) tYes (tBM K "list" rPopAt (tVar 2) (tCons (tCall (sp_law_mix K) [] E0 (tCons (tOp (rI0 fun i j => .int (i + j)) (tVar 0) (tOp (rI CMul fun i j => .int (i * j)) (tC (.int 5)) (tVar 3))) (tCons (tC (.int 9967)) (tCons (tOp (rI0 fun i j => .int (i - j)) (tVar 1) (tVar 3)) tNil)))) tNil)) [3])))
theorem pure_law_perm {K : PySem.W.Frag}  {vs : List V} {H : Hp} {Q : VK} {E : XK} (h : sp_law_perm K vs H Q E) : t_law_perm K E { nx := fun _ H' => Q .non H', rt := Q } (start ["cell", "many", "left", "k"] vs) H := by
  obtain ⟨B, c, n, rfl, eb, hn, r⟩ := h
  refine q_lrange (B := B) (n := n) (evd_varI rfl) eb (by omega) fun p H1 hp e1 eb1 hL => ?_
  refine s_retV ?_
  refine v_lcR (B := B) (ds := rangeD 0 n) (src_range1 (n := (n : Int)) (evs_cons (evd_varI rfl) evs_nil) (by omega)) eb1 [p] (fun q hq => ?_) (fun i acc L B H => ∃ xs ys : List Int, acc = ys.map .int ∧ (ys ++ xs).Perm (upto n) ∧ ys.length = i ∧ LsAt p (xs.map .int) L B H) (fun {i acc L M B H B' H'} ⟨xs, ys, h1, h2, h3, h4⟩ o x nn => ⟨xs, ys, h1, h2, h3, h4.keep o x nn⟩) ⟨upto n, [], rfl, .refl _, rfl, hL⟩ (by rw [rangeD_len]; omega) (fun _ => rfl) ?_ ?_
  · rw [List.mem_singleton.mp hq]
    obtain ⟨_, _, xs, h1, _⟩ := hL
    rw [h1]; simp
  · rintro i d x H2 B2 L2 acc hd b2 eb2 hai f2 ⟨xs, ys, rfl, hpe, hyl, hL2⟩ hx Q' k
    obtain ⟨hi, rfl⟩ := range_at' hd
    cases hx
    have hxl : xs.length = n - i := by
      have := hpe.length_eq
      rw [List.length_append, upto_len] at this
      omega
    have hm := mix_rng (c := c + 5 * (i : Int)) (p := 9967) (m := (n : Int) - (i : Int)) (by omega)
    obtain ⟨t, ht⟩ : ∃ t : Nat, mix (c + 5 * (i : Int)) 9967 ((n : Int) - (i : Int)) = (t : Int) := ⟨(mix (c + 5 * (i : Int)) 9967 ((n : Int) - (i : Int))).toNat, by omega⟩
    have htl : t < xs.length := by omega
    obtain ⟨y, hy⟩ : ∃ y, xs[t]? = some y := ⟨_, List.getElem?_eq_getElem htl⟩
    refine v_popAt (B := B2) (k := t) (y := y) rfl (EvD.is (cev_law_mix (evd_I0 (g := fun i j => i + j) (evd_varI rfl) (evd_mul (i := 5) (j := (i : Int)) evd_ci (evd_varI rfl) (by refine Or.inr ⟨?_, ?_⟩ <;> omega))) evd_ci (evd_I0 (g := fun i j => i - j) (evd_varI rfl) (evd_varI rfl)) (by omega)) (by rw [ht])) eb2 hL2 hy (by omega) fun H3 B3 o3 x3 eb3 hL3 => ?_
    refine k (.int y) (.int y) H3 B3 L2 o3 (fun q hq => .inl hq) x3 eb3 ⟨xs.eraseIdx t, ys ++ [y], by rw [List.map_append]; rfl, ?_, by rw [List.length_append, hyl]; rfl, hL3⟩ (.int y)
    rw [List.append_assoc]
    exact (List.Perm.append_left ys (er_perm hy).symm).trans hpe
  · rintro Dd H2 B2 L2 acc x2 o2 f2 eb2 ⟨xs, ys, rfl, hpe, hyl, hL2⟩ hDn hLD hDL
    rw [rangeD_len] at hyl
    have hx0 : xs = [] := by
      have := hpe.length_eq
      rw [List.length_append, upto_len] at this
      exact List.length_eq_zero_iff.mp (by omega)
    subst hx0
    rw [List.append_nil] at hpe
    obtain ⟨B3, u1, u2, u3, u4⟩ := hLD.up eb2
    refine r ys hpe _ H2 B3 ?_ ⟨x2.1.trans u1, fun q hq => ?_⟩ u2 u3
    · intro q o hq
      exact o2.k q o (e1 q o hq) (by simpa using ne_of_none hq hp)
    · have hq1 : H1 q ≠ none := by
        cases c : H q with
        | none => exact absurd c hq
        | some o => rw [e1 q o c]; simp
      rw [u4 q (fun z => hq1 (by rw [z]; exact hDn))]
      exact x2.2 q hq1
theorem run_law_perm {K : PySem.W.Frag} {σ : Sig} {B H : Hp} {ta tb : TE} {E : XK} {Q : VK} {c : Int} {n : Nat} (h1 : EvD ta σ B H (.int c)) (h2 : EvD tb σ B H (.int (n : Int))) (eb : Ex B H) (hn : n ≤ 1000) (q : ∀ l : List Int, l.Perm (upto n) → Ret (.list (l.map .int)) B H Q) : tCall (sp_law_perm K) [] E (tCons ta (tCons tb tNil)) σ H Q := h1.flat (fun _ _ => dpi) (Ex.refl _) eb fun H1 e1 => h2.flat (fun _ _ => dpi) e1 (eb.trans e1) fun H2 e2 => ⟨B, c, n, rfl, eb.trans (e1.trans e2), hn, fun l hl => (q l hl).grow (e1.trans e2) (Ext.refl _ _)⟩
theorem q_forV {K : PySem.W.Frag} {σ : Sig} {H : Hp} {te : TE} {g : TG} {tx tz : TS} {D : Ends} (h : te σ H fun x H1 => tSeq (tFor (iList K (tC x)) g tx) tz D σ H1) : tSeq (tFor (iList K te) g tx) tz D σ H := h
end GK

namespace GK
open PySem PySem.Spec PyProof.Rows L2
/-! ### sets of texts: made of a list or a tuple, then sorted (the road of HandS's sets of ints, turned to texts) -/
def keyT (e : Int × Value) : Str := match e.2 with | .str k _ => k | _ => Str.empty
def GoodT (P : Program) (w : World) (e : Int × Value) : Prop := ∃ k tk, e.2 = Value.str k tk ∧ e.1 = (PySem.strKind P w).hash k
def SetT (P : Program) (w : World) (h : Heap) (a : Addr) (S : Str → Bool) (n : Nat) : Prop :=
  ∃ o es ep t, h.get? a = some o ∧ o.ExactSet ∧ o.data = .set es ep t ∧ (∀ e ∈ es.toList, GoodT P w e) ∧ (es.toList.map keyT).Nodup ∧ (∀ k, S k = true ↔ k ∈ es.toList.map keyT) ∧
    es.size < scanBound ∧ t.fits es.size = true ∧ es.size = n ∧ Ris t.place.toList ∧ (w.params.followText "set-order" = true ∨ t.led = true)
section
variable {P : Program} {w : World} {h h' : Heap} {a : Addr} {S : Str → Bool} {n : Nat}
theorem SetT.at (R : SetT P w h a S n) (k : ∀ o, h.get? a = some o → h'.get? a = some o) : SetT P w h' a S n := by
  obtain ⟨o, es, ep, t, ho, r⟩ := R
  exact ⟨o, es, ep, t, k o ho, r⟩
theorem SetT.congr {S' : Str → Bool} {n' : Nat} (R : SetT P w h a S n) (e : ∀ k, S' k = S k) (en : n' = n) : SetT P w h a S' n' := by
  have q : S' = S := funext e
  rw [q, en]; exact R
theorem goodT_elems {l : List (Int × Value)} (g : ∀ e ∈ l, GoodT P w e) : ElemsOf (PySem.strKind P w) l := fun e he => by
  obtain ⟨k, tk, h1, h2⟩ := g e he
  exact ⟨⟨k, by rw [h1]; exact strKind_is P w k tk, h2⟩, by rw [h1] <;> rfl⟩
theorem goodT_is {e : Int × Value} (g : GoodT P w e) (k : Str) : (PySem.strKind P w).is k e.2 = true ↔ keyT e = k := by
  obtain ⟨k0, tk, h1, _⟩ := g
  unfold keyT
  rw [h1]
  show ((k0 == k) = true) ↔ k0 = k
  exact beq_iff_eq
theorem goodT_mem {l : List (Int × Value)} (g : ∀ e ∈ l, GoodT P w e) (k : Str) : k ∈ l.map keyT ↔ ∃ e ∈ l, (PySem.strKind P w).is k e.2 = true := by
  rw [List.mem_map]
  constructor
  · rintro ⟨e, he, q⟩
    exact ⟨e, he, (goodT_is (g e he) k).2 q⟩
  · rintro ⟨e, he, q⟩
    exact ⟨e, he, (goodT_is (g e he) k).1 q⟩
end
section
variable {P : Program} {w : World} {A : Around} {E : Value → Shared → Prop} {s : Shared} {a : Addr} {S : Str → Bool} {n : Nat}
theorem setT_tail {g : Bool → Sem Unit} (hg : ∀ (b : Bool) (s₁ : Shared) (Q' : Unit → Shared → Prop), Q' () s₁ → wpAny (model P w) A (g b) Q' E s₁)
    {o : Obj} {es : Array (Int × Value)} {ep : Nat} {t : SetTable} (ho : s.heap.get? a = some o) (hex : o.ExactSet) (hd : o.data = .set es ep t)
    {es1 : Array (Int × Value)} {t2 : SetTable} {S' : Str → Bool} (g1 : ∀ e ∈ es1.toList, GoodT P w e) (nd1 : (es1.toList.map keyT).Nodup) (m1 : ∀ k, S' k = true ↔ k ∈ es1.toList.map keyT)
    (hb1 : es1.size < scanBound) (hf2 : t2.fits es1.size = true) (hr : Ris t2.place.toList) (hl : w.params.followText "set-order" = true ∨ t2.led = true) {wasDummy : Bool} {R : Option Bool → Shared → Prop}
    (hR : ∀ h', Heap.SameBut a s.heap h' → SetT P w h' a S' es1.size → R (some true) { s with heap := h' }) :
    wpAny (model P w) A (do
        storeSet a es1 t2
        if (!wasDummy && t2.tooFull) = true then do
            g (relayAll t2 es1 (SetTable.grown es1.size)).2.2
            storeSet a (relayAll t2 es1 (SetTable.grown es1.size)).1 (relayAll t2 es1 (SetTable.grown es1.size)).2.1
            pure (some true)
          else pure (some true)) R E s := by
  refine wpAny_bind (wpAny_storeSet_of ho hd ?_ (fits_of_scanBound hb1))
  have ho1 := store_at (es' := es1) (t' := t2) ho hd
  have sb1 := Heap.SameBut.update s.heap a (Obj.putSet es1 t2)
  split
  · have pm := relayAll_perm t2 es1 (SetTable.grown es1.size)
    have hf3 := relayAll_fits t2 es1 (SetTable.grown es1.size)
    have hr3 := relayAll_ris t2 es1 (SetTable.grown es1.size)
    have hl3 := relayAll_led t2 es1 (SetTable.grown es1.size)
    generalize relayAll t2 es1 (SetTable.grown es1.size) = Z at pm hf3 hr3 hl3 ⊢
    obtain ⟨es2, t3, gave⟩ := Z
    dsimp only at pm hf3 hr3 hl3 ⊢
    have hsz : es2.size = es1.size := by rw [← Array.length_toList, pm.length_eq, Array.length_toList]
    have hb2 : es2.size < scanBound := by rw [hsz]; exact hb1
    refine wpAny_bind (hg _ _ _ ?_)
    refine wpAny_bind (wpAny_storeSet_of ho1 rfl ?_ (fits_of_scanBound hb2))
    have ho2 := store_at (es' := es2) (t' := t3) ho1 rfl
    refine wpAny_pure (hR _ (sb1.trans (Heap.SameBut.update _ a _)) ?_)
    exact ⟨_, es2, _, t3, ho2, hex, rfl, fun e he => g1 e (pm.mem_iff.mp he), (pm.map keyT).nodup_iff.mpr nd1, fun k => (m1 k).trans (pm.map keyT).mem_iff.symm, hb2, hf3, hsz, hr3,
      hl.imp id fun z => by rw [hl3]; exact z⟩
  · exact wpAny_pure (hR _ sb1 ⟨_, es1, _, t2, ho1, hex, rfl, g1, nd1, m1, hb1, hf2, rfl, hr, hl⟩)
theorem setT_add {k : Str} {tk : Tok} {Q : Bool → Shared → Prop} (R : SetT P w s.heap a S n) (room : n + 1 < scanBound)
    (hQ : ∀ h', Heap.SameBut a s.heap h' → SetT P w h' a (fun j => S j || decide (j = k)) (if S k = true then n else n + 1) → Q (!S k) { s with heap := h' }) :
    wpAny (model P w) A (setAddHashed a (.str k tk) ((PySem.strKind P w).hash k)) Q E s := by
  obtain ⟨o, es, ep, t, ho, hex, hd, g, nd, hm, hb, hf, hn, hr, hl⟩ := R
  have hkey : (PySem.strKind P w).is k (.str k tk) = true := strKind_is P w k tk
  have hsc : (Value.str k tk).scannable = true := rfl
  have hel : ElemsOf (PySem.strKind P w) es.toList := goodT_elems g
  unfold setAddHashed setAddHashedIn
  refine wpAny_holding (wpAny_bind (wpAny_setState_of ho hd hf ?_))
  dsimp only
  rw [byScan_of hsc hb hel]
  simp only [↓reduceIte]
  unfold setAddByScan
  refine wpAny_bind ?_
  refine wpAny_bind (wpAny_rule ?_)
  refine wpAny_bind (wpAny_setScan_of hkey ho hd hf hel ?_)
  cases hfi : List.findIdx? (fun e => (PySem.strKind P w).is k e.2) es.toList with
  | some j =>
    dsimp only
    obtain ⟨hj, pj, _⟩ := List.findIdx?_eq_some_iff_getElem.mp hfi
    have hSk : S k = true := (hm k).2 ((goodT_mem g k).2 ⟨es.toList[j], List.getElem_mem hj, pj⟩)
    refine wpAny_pure (wpAny_pure ?_)
    have q := hQ s.heap (Heap.SameBut.refl a s.heap) ⟨o, es, ep, t, ho, hex, hd, g, nd, fun i => by
      rw [Bool.or_eq_true, decide_eq_true_eq, ← hm i]
      exact ⟨fun z => z.elim id (fun e => e ▸ hSk), .inl⟩, hb, hf, by rw [if_pos hSk]; exact hn, hr, hl⟩
    rw [hSk] at q
    exact q
  | none =>
    dsimp only
    have hnk : k ∉ es.toList.map keyT := fun z => by
      obtain ⟨e, he, q⟩ := (goodT_mem g k).1 z
      have c := List.findIdx?_eq_none_iff.mp hfi e he
      rw [q] at c
      cases c
    have hSk : S k = false := by
      cases q : S k with
      | false => rfl
      | true => exact absurd ((hm k).1 q) hnk
    have hgw : ∀ (b : Bool) {s₁ : Shared} {Q' : Unit → Shared → Prop}, Q' () s₁ → wpAny (model P w) A (match b with | true => rule "set.scan.the-table-gave-way" | false => pure ()) Q' E s₁ :=
      fun b s₁ Q' q => by cases b <;> first | exact wpAny_pure q | exact wpAny_rule q
    have pm := layNew_perm t es ((PySem.strKind P w).hash k) (.str k tk)
    have hf1 := layNew_fits t es ((PySem.strKind P w).hash k) (.str k tk)
    have hr1 := layNew_ris t es ((PySem.strKind P w).hash k) (.str k tk) hr
    have hl1 := layNew_led t es ((PySem.strKind P w).hash k) (.str k tk)
    generalize layNew t es ((PySem.strKind P w).hash k) (.str k tk) = Z at pm hf1 hr1 hl1 ⊢
    obtain ⟨es1, t1, wasDummy, gave⟩ := Z
    dsimp only at pm hf1 hr1 hl1 ⊢
    rw [Array.toList_push] at pm
    have pc : es1.toList.Perm (((PySem.strKind P w).hash k, Value.str k tk) :: es.toList) := pm.trans (List.perm_append_singleton _ _)
    have pk : (es1.toList.map keyT).Perm (k :: es.toList.map keyT) := pc.map keyT
    have g1 : ∀ e ∈ es1.toList, GoodT P w e := fun e he => by
      rcases List.mem_cons.mp (pc.mem_iff.mp he) with z | z
      · rw [z]; exact ⟨k, tk, rfl, rfl⟩
      · exact g e z
    have nd1 : (es1.toList.map keyT).Nodup := pk.nodup_iff.mpr (List.nodup_cons.mpr ⟨hnk, nd⟩)
    have m1 : ∀ i, (S i || decide (i = k)) = true ↔ i ∈ es1.toList.map keyT := fun i => by
      rw [Bool.or_eq_true, decide_eq_true_eq, hm i, pk.mem_iff, List.mem_cons]
      exact Or.comm
    have hsz : es1.size = n + 1 := by rw [← Array.length_toList, pc.length_eq, List.length_cons, Array.length_toList, hn]
    have hb1 : es1.size < scanBound := by rw [hsz]; exact room
    have hled : w.params.followText "set-order" = true ∨ t1.led = true := hl.imp id fun z => by rw [hl1]; exact z
    have fin : ∀ h', Heap.SameBut a s.heap h' → SetT P w h' a (fun j => S j || decide (j = k)) es1.size → Q true { s with heap := h' } := fun h' sb r => by
      have q := hQ h' sb
      rw [hSk] at q
      rw [hsz] at r
      exact q r
    refine wpAny_bind (hgw _ ?_)
    split
    · refine wpAny_bind ?_
      rw [hashByValue_scannable 8 hsc]
      refine wpAny_pure ?_
      refine setT_tail ?_ ho hex hd g1 nd1 m1 hb1 ?_ ?_ ?_ ?_
      · intro b s₁ Q' q; cases b <;> first | exact wpAny_pure q | exact wpAny_rule q
      · first | (split <;> first | exact hf1 | exact SetTable.fits_plain_off hf1) | exact hf1
      · first | (split <;> exact hr1) | exact hr1
      · first | (split <;> exact hled) | exact hled
      · intro h' sb r; dsimp only; exact wpAny_pure (fin h' sb r)
    · refine wpAny_bind (wpAny_pure ?_)
      simp only [↓reduceIte]
      refine setT_tail ?_ ho hex hd g1 nd1 m1 hb1 hf1 hr1 hled ?_
      · intro b s₁ Q' q; cases b <;> first | exact wpAny_pure q | exact wpAny_rule q
      · intro h' sb r; dsimp only; exact wpAny_pure (fin h' sb r)
theorem setT_fresh {h : Heap} {a : Addr} (ho : h.get? a = some { cls := .type "set", dict := none, data := .set #[] 0 (.fresh 0 0 (!w.params.followText "set-order")) }) : SetT P w h a (fun _ => false) 0 :=
  ⟨_, #[], 0, _, ho, ⟨rfl, rfl, rfl⟩, rfl, (fun e he => by simp at he), (by simp), (fun k => by simp), (by decide), (by rfl), rfl, List.Pairwise.nil, by
    show _ ∨ (!w.params.followText "set-order") = true
    cases w.params.followText "set-order"
    · exact .inr rfl
    · exact .inl rfl⟩
theorem strs_ofT : ∀ (l : List Value), (∀ v ∈ l, ∃ k tk, v = Value.str k tk) → ∃ ks, StrsAre l ks ∧ ks = l.map fun v => match v with | .str k _ => k | _ => Str.empty
  | [], _ => ⟨[], .nil, rfl⟩
  | v :: l, h => by
    obtain ⟨k, tk, rfl⟩ := h v List.mem_cons_self
    obtain ⟨ks, h1, h2⟩ := strs_ofT l fun u hu => h u (List.mem_cons_of_mem _ hu)
    exact ⟨k :: ks, .cons k tk h1, by rw [h2]; rfl⟩
theorem sorted_setS {Q : Value → Shared → Prop} (R : SetT P w s.heap a S n) (hh : A.handled = none) (h64 : n < 64)
    (hQ : ∀ s' p (out : Array Value) (c : Nat) (ks : List Str), (∀ b o, s.heap.get? b = some o → s'.heap.get? b = some o) → s'.gens = s.gens → s'.os = s.os → s.heap.objs.size ≤ p →
      s'.heap.get? p = some (seqObj "list" out c) → StrsAre out.toList ks → sortedS ks = true → ks.Nodup → (∀ k, k ∈ ks ↔ S k = true) → ks.length = n → Q (.ref p) s') :
    wpAny (model P w) A (call (.builtin "sorted") [.ref a]) Q E s := by
  obtain ⟨o, es, ep, t, ho, hex, hd, g, nd, hm, hb, hf, hn, hr, hl⟩ := R
  refine Calls.call_function_entry kind_sorted plain_sorted entry_sorted (args_sorted1 _) ?_
  unfold Builtin.«sorted»
  refine wpAny_bind (m := checkCount "sorted" 1 1 _) (wpAny_pure ?_)
  refine wpAny_bind (collect_set (A := A.in1) hh ⟨o, ho, hex.1, hd⟩ hf hb hr hl fun s1 vs k1 hz g1 o1 pm => ?_)
  have hvl : vs.length = n := by rw [pm.length_eq, List.length_map, Array.length_toList]; exact hn
  obtain ⟨ks0, hI, hks0⟩ := strs_ofT vs fun v hv => by
    obtain ⟨e, he, q⟩ := List.mem_map.mp (pm.mem_iff.mp hv)
    obtain ⟨k, tk, h1, _⟩ := g e he
    exact ⟨k, tk, by rw [← q]; exact h1⟩
  have pk : ks0.Perm (es.toList.map keyT) := by
    have q := pm.map (fun v => match v with | .str k _ => k | _ => Str.empty)
    rw [List.map_map, ← hks0] at q
    exact q
  refine wpAny_bind (wpAny_newList ?_ (by rw [hvl, sizeLine_eq]; omega))
  have hoL : (s1.heap.push (seqObj "list" vs.toArray 0)).get? s1.heap.objs.size = some (seqObj "list" vs.toArray 0) := Heap.get?_push_size _ rfl
  refine wpAny_bind (wpAny_holding (wpAny_call_entry slot_list_sort ⟨_, hoL, rfl⟩ entry_list_sort (list_sort_treeK strKind_oneLt hoL hI.keysOf (fun v₁ v₂ rest e => keyKind_strs (by rw [← e]; exact hI)) (by rw [hvl]; exact h64) fun st' hp hs => ⟨_, rfl, ?_⟩) (args_list_sort _)))
  obtain ⟨ys, q1, q2, q3⟩ := sorted_out_str hI hp hs
  obtain ⟨c, hc⟩ := sortedHeap_at (vs := vs) (out := (arrOf st').map (·.2)) hoL
  have pn : ys.Perm (es.toList.map keyT) := q2.trans pk
  refine wpAny_pure ⟨_, rfl, hQ _ s1.heap.objs.size _ c ys (fun b u e => ?_) g1 o1 hz hc q1 q3 (pn.nodup_iff.mpr nd) (fun k => by rw [pn.mem_iff, ← hm k]) ?_⟩
  · have q := k1 b u e
    have hlt := Heap.lt_size q
    show (sortedHeap (s1.heap.push (seqObj "list" vs.toArray 0)) s1.heap.objs.size vs _).get? b = some u
    rw [sortedHeap_old (Nat.ne_of_lt hlt) (by rw [size_push']; exact Nat.lt_succ_of_lt hlt)]
    exact Heap.get?_push_of_some _ q
  · rw [pn.length_eq, List.length_map, Array.length_toList]; exact hn
end
/-! ### set(xs) -/
theorem dd_step {xs : List Str} {i : Nat} {x : Str} (h : xs[i]? = some x) : (ddS (xs.take (i + 1))).length = if decide (x ∈ xs.take i) = true then (ddS (xs.take i)).length else (ddS (xs.take i)).length + 1 := by
  rw [List.take_succ, h]
  show (ddS (xs.take i ++ [x])).length = _
  have : ddS (xs.take i ++ [x]) = addS (ddS (xs.take i)) x := by unfold ddS; rw [List.foldl_append]; rfl
  rw [this]
  unfold addS
  by_cases c : x ∈ xs.take i
  · rw [if_pos (dd_mem.mpr c), if_pos (decide_eq_true c)]
  · rw [if_neg (fun z => c (dd_mem.mp z)), if_neg (by rw [decide_eq_false c]; decide), List.length_append]; rfl
theorem mem_step {xs : List Str} {i : Nat} {x : Str} (h : xs[i]? = some x) (k : Str) : decide (k ∈ xs.take (i + 1)) = (decide (k ∈ xs.take i) || decide (k = x)) := by
  rw [List.take_succ, h]
  show decide (k ∈ xs.take i ++ [x]) = _
  rw [Bool.eq_iff_iff, Bool.or_eq_true, decide_eq_true_iff, decide_eq_true_iff, decide_eq_true_iff, List.mem_append, List.mem_singleton]
section
variable {prog : Program} {w : World} {A : Around} {R : Result → Shared → Prop} {I : Addr} {fp wr : List Addr} {G : Array GenState → Array GenState → Prop} {n : Nat} {P : Nat → Value → Prop} {St : Nat → Shared → Prop}
theorem loopT (W : WalksS prog w A.in1 I fp wr G n P St) (S : Addr) (hSf : S ∉ fp) (xs : List Str) (hsz : xs.length = n) (hn1 : n < 64)
    (hval : ∀ i v, P i v → ∃ x t, xs[i]? = some x ∧ v = .str x t) :
    ∀ (k i : Nat) (s : Shared), n - i = k → i ≤ n → St i s →
      SetT prog w s.heap S (fun k' => decide (k' ∈ xs.take i)) (ddS (xs.take i)).length →
      (∀ s', Moved (S :: wr) G s s' → SetT prog w s'.heap S (fun k' => decide (k' ∈ xs.take n)) (ddS (xs.take n)).length → R (.ok (.ret .none)) s') →
      codeAny (model prog w) A (.builtin "set.update.loop" ⟨[.ref S, .ref I], []⟩) R s := by
  have hSw : S ∉ wr := fun h => hSf (W.sub _ h)
  have hsub : ∀ b ∈ wr, b ∈ S :: wr := fun b hb => List.mem_cons_of_mem _ hb
  intro k
  induction k with
  | zero =>
    intro i s hk hi hst hS hR
    have hin : i = n := by omega
    subst hin
    refine codeAny_builtin PyProof.Rows.F.entry_set_update_loop ?_
    rw [Around.under_plainId PyProof.Rows.F.plain_set_update_loop _]
    show wpAny _ A.in1 (pyNext (.ref I) >>= _) _ _ s
    refine wpAny_bind (W.done s _ _ hst fun s' hm => ?_)
    show wpAny _ A.in1 (ret Value.none) _ _ s'
    exact wpAny_pure (hR s' (hm.mono hsub) (hS.at fun o e => hm.heap S o hSw e))
  | succ k ih =>
    intro i s hk hi hst hS hR
    have hlt : i < n := by omega
    refine codeAny_builtin PyProof.Rows.F.entry_set_update_loop ?_
    rw [Around.under_plainId PyProof.Rows.F.plain_set_update_loop _]
    show wpAny _ A.in1 (pyNext (.ref I) >>= _) _ _ s
    refine wpAny_bind (W.item i s _ _ hlt hst fun v s' hP hst' hm => ?_)
    obtain ⟨x, t, hx, rfl⟩ := hval i v hP
    have hS' := hS.at (h' := s'.heap) fun o e => hm.heap S o hSw e
    show wpAny _ A.in1 (holding [Value.str x t] (setAdd S (.str x t)) >>= _) _ _ s'
    refine wpAny_bind (wpAny_holding ?_)
    unfold setAdd
    refine wpAny_holding ?_
    refine wpAny_bind ((PySem.strKind prog w).pyHash (k := x) (strKind_is _ _ _ _) ?_)
    have hdl := dd_len (xs.take i)
    have htl : (xs.take i).length ≤ xs.length := by rw [List.length_take]; omega
    refine setT_add (s := { s' with toks := s'.toks + 1 }) hS' (by unfold scanBound; omega) fun h' hsb hS2 => ?_
    have hSi : SetT prog w h' S (fun k' => decide (k' ∈ xs.take (i + 1))) (ddS (xs.take (i + 1))).length := hS2.congr (fun k' => mem_step hx k') (dd_step hx)
    refine wpAny_pure ⟨plainId_quiet PyProof.Rows.F.plain_set_update_loop _, ih (i + 1) _ (by omega) hlt (W.frame _ s' _ _ hst' (Nat.le_succ _) fun b hb o e => ?_) hSi fun s'' hm'' hS'' => ?_⟩
    · rw [hsb.2 b (fun h : b = S => hSf (by rw [← h]; exact hb))]; exact e
    · refine hR s'' (Moved.trans W.gtrans ((hm.mono hsub).then_heap (Nat.le_succ _) fun b o hb e => ?_) hm'') hS''
      rw [hsb.2 b (fun h : b = S => hb (by rw [h]; exact List.mem_cons_self))]; exact e
end
section
variable {prog : Program} {w : World} {A : Around} {E : Value → Shared → Prop} {s : Shared}
theorem call_setT_list {l : Addr} {items : Array Value} {xs : List Str} {Q : Value → Shared → Prop}
    (hh : A.handled = none) (hl : s.heap.IsList l items) (hi : PyProof.Rows.StrsAre items.toList xs) (hn1 : xs.length < 64)
    (h : ∀ (h' : Heap) (tk : Nat), SetT prog w h' s.heap.objs.size (fun k' => decide (k' ∈ xs)) (ddS xs).length →
      (∀ b o, s.heap.get? b = some o → h'.get? b = some o) → Q (.ref s.heap.objs.size) { s with heap := h', toks := tk }) :
    wpAny (model prog w) A (call (.type "set") [.ref l]) Q E s := by
  obtain ⟨c, tl, hmro⟩ := PySem.F.called_set.mro
  have hmade := PySem.F.called_set.made
  have hsub := PySem.F.called_set.sub
  refine wpAny_call (codeAny_of_tree ?_)
  show wpAny _ _ (callAny (.type "set") _) _ _ _
  refine wpAny_pure ⟨Code.quiet_builtin _ (by decide +kernel), codeAny_builtin PySem.F.entry_type_call ?_⟩
  rw [Around.under_plain (weight_type_call_type "set" [.ref l] []) rfl]
  have h1 := PySem.F.called_set.notType
  have h2 := PySem.F.called_set.canCreate
  have hct := PySem.F.typeCall_set_1 (.ref l)
  repeat (any_goals (first | assumption | wp_step))

  refine codeAny_mono (code_set_led1 (.ref l) (E := E) (Q₁ := fun obj s₁ => obj = .ref s.heap.objs.size ∧ s₁ = { s with heap := s.heap.push { cls := .type "set", dict := none, data := .set #[] 0 (.fresh 0 0 (!w.params.followText "set-order")) } }) ⟨rfl, rfl⟩) fun r s₁ hr => ?_
  cases r with
  | error e => exact hr
  | ok fl =>
    cases fl with
    | ret obj =>
      obtain ⟨rfl, rfl⟩ := hr
      have hS : (s.heap.push { cls := .type "set", dict := none, data := .set #[] 0 (.fresh 0 0 (!w.params.followText "set-order")) }).get? s.heap.objs.size = some { cls := .type "set", dict := none, data := .set #[] 0 (.fresh 0 0 (!w.params.followText "set-order")) } := Heap.get?_push_size _ rfl
      have hT : Shared.TypeIs { s with heap := s.heap.push { cls := .type "set", dict := none, data := .set #[] 0 (.fresh 0 0 (!w.params.followText "set-order")) } } (.ref s.heap.objs.size) "set" := ⟨_, hS, rfl⟩
      have hli := PySem.F.called_set.init.lookup
      have hbi := PySem.F.called_set.init.bind (.ref s.heap.objs.size)
      repeat (any_goals (first | assumption | wp_step))

      refine codeAny_mono (codeAny_call_builtin (R := wants (fun r s₂ => r = .none ∧ ∃ h' tk, s₂ = { s with heap := h', toks := tk } ∧
          SetT prog w h' s.heap.objs.size (fun k' => decide (k' ∈ xs)) (ddS xs).length ∧
          (∀ b o, s.heap.get? b = some o → h'.get? b = some o)) E) PySem.F.called_set.init.plain PySem.F.entry_set_init (check_set_init_1 hT ?_)) fun r₂ s₂ hr₂ => ?_
      · obtain ⟨ol, hol, hcl, nl, hdl⟩ := hl
        obtain ⟨ocls, odict, odata, oslots⟩ := ol
        simp only at hcl hdl
        subst hcl; subst hdl
        have hol' : (s.heap.push { cls := .type "set", dict := none, data := .set #[] 0 (.fresh 0 0 (!w.params.followText "set-order")) }).get? l = some { cls := .type "list", dict := odict, data := .seq items nl, slots := oslots } := Heap.get?_push_of_some _ hol
        have hsls := PySem.F.sub_list_set
        have hslf := PySem.F.sub_list_frozenset
        have hne : (Value.type "list" == Value.type "dict") = false := by decide
        have hl1 : (s.heap.push { cls := .type "set", dict := none, data := .set #[] 0 (.fresh 0 0 (!w.params.followText "set-order")) }).IsList l items := ⟨_, hol', rfl, nl, rfl⟩
        unfold Builtin.«set.__init__» noKeywords Builtin.Frozenset.updateFrom
        generalize hPI : pyIter = PI
        wp_walk
        subst hPI

        refine wpAny_pyIter_list hl1 ?_
        refine wpAny_bind (wpAny_runValue ?_)
        have hlS : l < s.heap.objs.size := Heap.lt_size hol
        have hh3 : A.in1.in1.in1.handled = none := by simp [hh]
        have hneI : l ≠ (s.heap.push { cls := .type "set", dict := none, data := .set #[] 0 (.fresh 0 0 (!w.params.followText "set-order")) }).objs.size := by
          rw [Heap.size_push]; exact Nat.ne_of_lt (Nat.lt_succ_of_lt hlS)
        have hSf : s.heap.objs.size ∉ [(s.heap.push { cls := .type "set", dict := none, data := .set #[] 0 (.fresh 0 0 (!w.params.followText "set-order")) }).objs.size, l] := by
          rw [Heap.size_push]; simp only [List.mem_cons, List.mem_singleton, List.not_mem_nil, or_false, not_or]
          exact ⟨Nat.ne_of_lt (Nat.lt_succ_self _), Nat.ne_of_gt hlS⟩
        have hsz : xs.length = items.size := by rw [← StrsAre.len_eq hi, Array.length_toList]
        have hval : ∀ (i : Nat) (v : Value), items[i]? = some v → ∃ x t, xs[i]? = some x ∧ v = .str x t := fun i v hv => by
          obtain ⟨t, e⟩ := SS.strs_at hi i v (by rw [Array.getElem?_toList]; exact hv)
          have hlt : i < xs.length := by
            rw [hsz]
            exact (Array.getElem?_eq_some_iff.mp hv).1
          exact ⟨_, t, by rw [List.getD_eq_getElem?_getD, List.getElem?_eq_getElem hlt]; rfl, e⟩
        refine loopT ((Walks.list hh3 _ l hneI items).toS) s.heap.objs.size
          hSf xs hsz (by rw [← hsz]; exact hn1) hval (items.size - 0) 0 _ (by omega) (Nat.zero_le _)
          ⟨⟨_, Heap.get?_push_size _ rfl, rfl, rfl⟩, (hl1.push _)⟩ ?hS0 ?hR
        case hS0 =>
          have hget : ((s.heap.push { cls := .type "set", dict := none, data := .set #[] 0 (.fresh 0 0 (!w.params.followText "set-order")) }).push { cls := .type "list_iterator", data := .fields #[.ref l, .int 0 0] }).get? s.heap.objs.size
              = some { cls := .type "set", dict := none, data := .set #[] 0 (.fresh 0 0 (!w.params.followText "set-order")) } := Heap.get?_push_of_some _ hS
          exact (setT_fresh hget).congr (fun k => by rw [List.take_zero]; rfl) rfl
        case hR =>
          intro s' hm hS'
          obtain ⟨h', g', d', tk', os'⟩ := s'
          have eg : g' = s.gens := hm.gens
          have ed : d' = s.drawn := hm.drawn
          have eo : os' = s.os := hm.os
          subst eg; subst ed; subst eo
          show wpAny _ _ _ _ _ _
          refine wpAny_pure ?_
          show wpAny _ _ (ret Value.none) _ _ _
          rw [← hsz, List.take_length] at hS'
          refine wpAny_pure ⟨rfl, h', tk', rfl, hS', fun b o e => ?_⟩
          have hb : b < s.heap.objs.size := Heap.lt_size e
          have hb1 : b ≠ s.heap.objs.size := Nat.ne_of_lt hb
          have hb2 : b ≠ (s.heap.push { cls := .type "set", dict := none, data := .set #[] 0 (.fresh 0 0 (!w.params.followText "set-order")) }).objs.size := by
            rw [Heap.size_push]; exact Nat.ne_of_lt (Nat.lt_succ_of_lt hb)
          exact hm.heap b o (by simp only [List.mem_cons, List.mem_singleton, List.not_mem_nil, or_false, not_or]; exact ⟨hb1, hb2⟩) (Heap.get?_push_of_some _ (Heap.get?_push_of_some _ e))

      · cases r₂ with
        | error e => exact hr₂
        | ok fl₂ =>
          cases fl₂ with
          | ret r =>
            obtain ⟨rfl, h', tk, rfl, hS', hk'⟩ := hr₂
            repeat (any_goals (first | assumption | wp_step))
            exact h _ _ hS' hk'
          | _ => exact hr₂.elim
    | _ => exact hr.elim
theorem call_setT_tuple {l : Addr} {items : Array Value} {xs : List Str} {Q : Value → Shared → Prop}
    (hh : A.handled = none) (hl : s.heap.IsTuple l items) (hi : PyProof.Rows.StrsAre items.toList xs) (hn1 : xs.length < 64)
    (h : ∀ (h' : Heap) (tk : Nat), SetT prog w h' s.heap.objs.size (fun k' => decide (k' ∈ xs)) (ddS xs).length →
      (∀ b o, s.heap.get? b = some o → h'.get? b = some o) → Q (.ref s.heap.objs.size) { s with heap := h', toks := tk }) :
    wpAny (model prog w) A (call (.type "set") [.ref l]) Q E s := by
  obtain ⟨c, tl, hmro⟩ := PySem.F.called_set.mro
  have hmade := PySem.F.called_set.made
  have hsub := PySem.F.called_set.sub
  refine wpAny_call (codeAny_of_tree ?_)
  show wpAny _ _ (callAny (.type "set") _) _ _ _
  refine wpAny_pure ⟨Code.quiet_builtin _ (by decide +kernel), codeAny_builtin PySem.F.entry_type_call ?_⟩
  rw [Around.under_plain (weight_type_call_type "set" [.ref l] []) rfl]
  have h1 := PySem.F.called_set.notType
  have h2 := PySem.F.called_set.canCreate
  have hct := PySem.F.typeCall_set_1 (.ref l)
  repeat (any_goals (first | assumption | wp_step))

  refine codeAny_mono (code_set_led1 (.ref l) (E := E) (Q₁ := fun obj s₁ => obj = .ref s.heap.objs.size ∧ s₁ = { s with heap := s.heap.push { cls := .type "set", dict := none, data := .set #[] 0 (.fresh 0 0 (!w.params.followText "set-order")) } }) ⟨rfl, rfl⟩) fun r s₁ hr => ?_
  cases r with
  | error e => exact hr
  | ok fl =>
    cases fl with
    | ret obj =>
      obtain ⟨rfl, rfl⟩ := hr
      have hS : (s.heap.push { cls := .type "set", dict := none, data := .set #[] 0 (.fresh 0 0 (!w.params.followText "set-order")) }).get? s.heap.objs.size = some { cls := .type "set", dict := none, data := .set #[] 0 (.fresh 0 0 (!w.params.followText "set-order")) } := Heap.get?_push_size _ rfl
      have hT : Shared.TypeIs { s with heap := s.heap.push { cls := .type "set", dict := none, data := .set #[] 0 (.fresh 0 0 (!w.params.followText "set-order")) } } (.ref s.heap.objs.size) "set" := ⟨_, hS, rfl⟩
      have hli := PySem.F.called_set.init.lookup
      have hbi := PySem.F.called_set.init.bind (.ref s.heap.objs.size)
      repeat (any_goals (first | assumption | wp_step))

      refine codeAny_mono (codeAny_call_builtin (R := wants (fun r s₂ => r = .none ∧ ∃ h' tk, s₂ = { s with heap := h', toks := tk } ∧
          SetT prog w h' s.heap.objs.size (fun k' => decide (k' ∈ xs)) (ddS xs).length ∧
          (∀ b o, s.heap.get? b = some o → h'.get? b = some o)) E) PySem.F.called_set.init.plain PySem.F.entry_set_init (check_set_init_1 hT ?_)) fun r₂ s₂ hr₂ => ?_
      · obtain ⟨ol, hol, hcl, nl, hdl⟩ := hl
        obtain ⟨ocls, odict, odata, oslots⟩ := ol
        simp only at hcl hdl
        subst hcl; subst hdl
        have hol' : (s.heap.push { cls := .type "set", dict := none, data := .set #[] 0 (.fresh 0 0 (!w.params.followText "set-order")) }).get? l = some { cls := .type "tuple", dict := odict, data := .seq items nl, slots := oslots } := Heap.get?_push_of_some _ hol
        have hsls := PySem.F.sub_tuple_set
        have hslf := PySem.F.sub_tuple_frozenset
        have hne : (Value.type "tuple" == Value.type "dict") = false := by decide
        have hl1 : (s.heap.push { cls := .type "set", dict := none, data := .set #[] 0 (.fresh 0 0 (!w.params.followText "set-order")) }).IsTuple l items := ⟨_, hol', rfl, nl, rfl⟩
        unfold Builtin.«set.__init__» noKeywords Builtin.Frozenset.updateFrom
        generalize hPI : pyIter = PI
        wp_walk
        subst hPI

        refine wpAny_pyIter_tuple hl1 ?_
        refine wpAny_bind (wpAny_runValue ?_)
        have hlS : l < s.heap.objs.size := Heap.lt_size hol
        have hh3 : A.in1.in1.in1.handled = none := by simp [hh]
        have hneI : l ≠ (s.heap.push { cls := .type "set", dict := none, data := .set #[] 0 (.fresh 0 0 (!w.params.followText "set-order")) }).objs.size := by
          rw [Heap.size_push]; exact Nat.ne_of_lt (Nat.lt_succ_of_lt hlS)
        have hSf : s.heap.objs.size ∉ [(s.heap.push { cls := .type "set", dict := none, data := .set #[] 0 (.fresh 0 0 (!w.params.followText "set-order")) }).objs.size, l] := by
          rw [Heap.size_push]; simp only [List.mem_cons, List.mem_singleton, List.not_mem_nil, or_false, not_or]
          exact ⟨Nat.ne_of_lt (Nat.lt_succ_self _), Nat.ne_of_gt hlS⟩
        have hsz : xs.length = items.size := by rw [← StrsAre.len_eq hi, Array.length_toList]
        have hval : ∀ (i : Nat) (v : Value), items[i]? = some v → ∃ x t, xs[i]? = some x ∧ v = .str x t := fun i v hv => by
          obtain ⟨t, e⟩ := SS.strs_at hi i v (by rw [Array.getElem?_toList]; exact hv)
          have hlt : i < xs.length := by
            rw [hsz]
            exact (Array.getElem?_eq_some_iff.mp hv).1
          exact ⟨_, t, by rw [List.getD_eq_getElem?_getD, List.getElem?_eq_getElem hlt]; rfl, e⟩
        refine loopT ((Walks.tuple hh3 _ l hneI items).toS) s.heap.objs.size
          hSf xs hsz (by rw [← hsz]; exact hn1) hval (items.size - 0) 0 _ (by omega) (Nat.zero_le _)
          ⟨⟨_, Heap.get?_push_size _ rfl, rfl, rfl⟩, (hl1.push _)⟩ ?hS0 ?hR
        case hS0 =>
          have hget : ((s.heap.push { cls := .type "set", dict := none, data := .set #[] 0 (.fresh 0 0 (!w.params.followText "set-order")) }).push { cls := .type "tuple_iterator", data := .fields #[.ref l, .int 0 0] }).get? s.heap.objs.size
              = some { cls := .type "set", dict := none, data := .set #[] 0 (.fresh 0 0 (!w.params.followText "set-order")) } := Heap.get?_push_of_some _ hS
          exact (setT_fresh hget).congr (fun k => by rw [List.take_zero]; rfl) rfl
        case hR =>
          intro s' hm hS'
          obtain ⟨h', g', d', tk', os'⟩ := s'
          have eg : g' = s.gens := hm.gens
          have ed : d' = s.drawn := hm.drawn
          have eo : os' = s.os := hm.os
          subst eg; subst ed; subst eo
          show wpAny _ _ _ _ _ _
          refine wpAny_pure ?_
          show wpAny _ _ (ret Value.none) _ _ _
          rw [← hsz, List.take_length] at hS'
          refine wpAny_pure ⟨rfl, h', tk', rfl, hS', fun b o e => ?_⟩
          have hb : b < s.heap.objs.size := Heap.lt_size e
          have hb1 : b ≠ s.heap.objs.size := Nat.ne_of_lt hb
          have hb2 : b ≠ (s.heap.push { cls := .type "set", dict := none, data := .set #[] 0 (.fresh 0 0 (!w.params.followText "set-order")) }).objs.size := by
            rw [Heap.size_push]; exact Nat.ne_of_lt (Nat.lt_succ_of_lt hb)
          exact hm.heap b o (by simp only [List.mem_cons, List.mem_singleton, List.not_mem_nil, or_false, not_or]; exact ⟨hb1, hb2⟩) (Heap.get?_push_of_some _ (Heap.get?_push_of_some _ e))

      · cases r₂ with
        | error e => exact hr₂
        | ok fl₂ =>
          cases fl₂ with
          | ret r =>
            obtain ⟨rfl, h', tk, rfl, hS', hk'⟩ := hr₂
            repeat (any_goals (first | assumption | wp_step))
            exact h _ _ hS' hk'
          | _ => exact hr₂.elim
    | _ => exact hr.elim
end
end GK

namespace GK
open PySem PySem.Spec PyProof.Rows L2
open Evl (Ex ex_l ex_t ex_rd sq_of st_of sz_of sz_lt fresh_back)
/-- sorted(set(xs)), xs a list or tuple of texts, fewer than 64 -/
def tSortSet (K : PySem.W.Frag) (ta : TE) : TE := fun σ H Q => ta σ H fun x H1 => ∃ l, ∃ xs : List Str, x = .ref l ∧ (SqL K H1 l (xs.map V.str) ∨ SqT K H1 l (xs.map V.str)) ∧ xs.length < 64 ∧
  ∀ p, H1 p = none → Q (.ref p) (upd H1 p (.lst ((srtS (ddS xs)).map V.str)))
section
variable {X : Cx}
theorem sort_end {pins : List (Addr × Obj)} {σ : L2.St} {H1 : Hp} {s1 : Shared} {a : Addr} {xs : List Str} {Q : VK} (hc : X.calm = true) (h64 : xs.length < 64) (I2 : Inv X pins σ H1 s1) (hS : SetT X.prog X.w s1.heap a (fun k' => decide (k' ∈ xs)) (ddS xs).length)
    (q1 : ∀ p, H1 p = none → Q (.ref p) (upd H1 p (.lst ((srtS (ddS xs)).map V.str)))) : wpAny (model X.prog X.w) X.A (call (.builtin "sorted") [Value.ref a]) (EP X pins σ Q) X.xe s1 := by
  have hn64 : (ddS xs).length < 64 := Nat.lt_of_le_of_lt (dd_len xs) h64
  refine sorted_setS hS (I2.ok.hd hc) hn64 fun s' p out c ks k g o hp hgp hi hs hnd hmem hl => ?_
  have hks : ks = srtS (ddS xs) := srt_of ((List.perm_ext_iff_of_nodup hnd (dd_nd xs)).mpr fun y => by rw [hmem, decide_eq_true_iff, dd_mem]) hs
  have hlen : (ks.map V.str).length ≤ sizeLine := by rw [List.length_map, hl, sizeLine_eq]; omega
  have hn : H1 p = none := I2.hok.fresh hp
  have J : Inv X pins σ (upd H1 p (.lst (ks.map V.str))) { s1 with heap := s'.heap, gens := s'.gens, drawn := s'.drawn, toks := s'.toks } :=
    I2.call (ch := []) (Un.laid k hp hn) (I2.hok.laid k hp ⟨hlen, out.toList, c, vals_of_strs hi, hgp⟩) (by rw [g]; exact I2.bare) (fun _ z => nomatch z)
  have e : s' = { s1 with heap := s'.heap, gens := s'.gens, drawn := s'.drawn, toks := s'.toks } := by
    cases s'
    cases s1
    cases o
    rfl
  rw [e]
  refine ⟨.ref p, _, J, rfl, ?_⟩
  rw [hks]
  exact q1 p hn
theorem pe_sortSet {a : Expr} {ta : TE} {p p2 q pos : Pos} (hc : X.calm = true) (hg : Gl X "sorted") (hm : X.mg "sorted" = none) (hg2 : Gl X "set") (hm2 : X.mg "set" = none) (ha : PE X a ta)
    (na : starEach [a] X.env = (false, eval a X.env) :: starEach [] X.env := by rfl) : PE X (.Call (.Name "sorted" p) [.Call (.Name "set" p2) [a] [] q] [] pos) (tSortSet X.K ta) := by
  refine ⟨fun pins s σ H Q I h => ?_⟩
  refine Call_ (ld_blt I hg hm bt_sorted ?_)
  refine PyProof.Rows.callWith_builtin1 (PyProof.Rows.args_cons ?_ rfl) rfl rfl
  refine Call_ (ld_blt I hg2 hm2 boot_set ?_)
  refine PyProof.Rows.callWith_type1 (PyProof.Rows.args_cons (thn (ha.run pins s σ H _ I h) fun v s1 ⟨x, H1, I1, r1, q1⟩ => PyProof.Rows.args_nil ?_) na) na rfl
  obtain ⟨l, xs, rfl, hq, h64, q1⟩ := q1
  cases r1
  have fin : ∀ (h' : Heap) (tk : Nat), SetT X.prog X.w h' s1.heap.objs.size (fun k' => decide (k' ∈ xs)) (ddS xs).length →
      (∀ b o, s1.heap.get? b = some o → h'.get? b = some o) →
      wpAny (model X.prog X.w) X.A (spliced (backTo pos (starEach [] X.env))) (fun vs s₂ => wpAny (model X.prog X.w) X.A (call (.builtin "sorted") (Value.ref s1.heap.objs.size :: vs)) (EP X pins σ Q) X.xe s₂) X.xe { s1 with heap := h', toks := tk } := fun h' tk hS hk => by
    refine PyProof.Rows.args_nil ?_
    have I2 : Inv X pins σ H1 { s1 with heap := h', toks := tk } := I1.kept hk
    exact sort_end hc h64 I2 hS q1
  rcases hq with hq | hq
  · obtain ⟨its, r, pl, hz⟩ := I1.list hq
    exact call_setT_list (I1.ok.hd hc) pl.isList (by simpa using strsAre_of r) h64 fun h' tk hS hk => fin h' tk hS hk
  · obtain ⟨its, r, pl, hz⟩ := I1.tuple hq
    exact call_setT_tuple (I1.ok.hd hc) pl (by simpa using strsAre_of r) h64 fun h' tk hS hk => fin h' tk hS hk
end
section
variable {K : PySem.W.Frag} {σ : Sig} {B H : Hp} {ta : TE}
theorem evd_sortSet {xs : List Str} (h : EvD ta σ B H (.list (xs.map .str)) ∨ EvD ta σ B H (.tuple (xs.map .str))) (hl : xs.length < 64) : EvD (tSortSet K ta) σ B H (.list ((srtS (ddS xs)).map .str)) := fun H1 e eb Q q => by
  rcases h with h | h
  · refine h H1 e eb _ fun v H2 B2 e2 x2 eb2 hv => ?_
    obtain ⟨a, ys, rfl, hs, hx⟩ := dpl hv
    rw [dpa_strs hx] at hs
    exact ⟨a, xs, rfl, .inl (sq_of (eb2 _ _ hs)), hl, fun p hp => q _ _ (upd B2 p (.lst ((srtS (ddS xs)).map V.str))) (e2.trans (Ex.new hp)) (Ext.trans x2 e2 (Ext.new eb2 hp)) (ex_upd2 eb2) (.lst upd_same (dpa_ofStrs _))⟩
  · refine h H1 e eb _ fun v H2 B2 e2 x2 eb2 hv => ?_
    obtain ⟨a, ys, rfl, hs, hx⟩ := dpt hv
    rw [dpa_strs hx] at hs
    exact ⟨a, xs, rfl, .inr (st_of (eb2 _ _ hs)), hl, fun p hp => q _ _ (upd B2 p (.lst ((srtS (ddS xs)).map V.str))) (e2.trans (Ex.new hp)) (Ext.trans x2 e2 (Ext.new eb2 hp)) (ex_upd2 eb2) (.lst upd_same (dpa_ofStrs _))⟩
theorem evd_sortSetL {xs : List Str} (h : EvD ta σ B H (.list (xs.map .str))) (hl : xs.length < 64 := by first | with_reducible assumption | omega) : EvD (tSortSet K ta) σ B H (.list ((srtS (ddS xs)).map .str)) := evd_sortSet (.inl h) hl
theorem evd_sortSetT {xs : List Str} (h : EvD ta σ B H (.tuple (xs.map .str))) (hl : xs.length < 64 := by first | with_reducible assumption | omega) : EvD (tSortSet K ta) σ B H (.list ((srtS (ddS xs)).map .str)) := evd_sortSet (.inr h) hl
end
end GK

/-! sorted(set(xs)) of whole numbers (the road of HandS's sets, turned to a list) -/
namespace GK
open PySem PySem.Spec PyProof.Rows L2
open Evl (Ex ex_l ex_t ex_rd sq_of st_of sz_of sz_lt fresh_back)
section
variable {prog : Program} {w : World} {A : Around} {E : Value → Shared → Prop} {s : Shared}
theorem call_setI_list {l : Addr} {items : Array Value} {ns : List Int} {Q : Value → Shared → Prop}
    (hh : A.handled = none) (hl : s.heap.IsList l items) (hit : IntsAre items.toList ns) (hb : ns.length + 1 < scanBound)
    (h : ∀ (h' : Heap) (tk c : Nat), SetR w h' s.heap.objs.size (fun j => decide (j ∈ ns)) c → c ≤ ns.length →
      (∀ b o, s.heap.get? b = some o → h'.get? b = some o) → Q (.ref s.heap.objs.size) { s with heap := h', toks := tk }) :
    wpAny (model prog w) A (call (.type "set") [.ref l]) Q E s := by
  obtain ⟨c, tl, hmro⟩ := PySem.F.called_set.mro
  have hmade := PySem.F.called_set.made
  have hsub := PySem.F.called_set.sub
  refine wpAny_call (codeAny_of_tree ?_)
  show wpAny _ _ (callAny (.type "set") _) _ _ _
  refine wpAny_pure ⟨Code.quiet_builtin _ (by decide +kernel), codeAny_builtin PySem.F.entry_type_call ?_⟩
  rw [Around.under_plain (weight_type_call_type "set" [.ref l] []) rfl]
  have h1 := PySem.F.called_set.notType
  have h2 := PySem.F.called_set.canCreate
  have hct := PySem.F.typeCall_set_1 (.ref l)
  repeat (any_goals (first | assumption | wp_step))

  refine codeAny_mono (code_set_led1 (.ref l) (E := E) (Q₁ := fun obj s₁ => obj = .ref s.heap.objs.size ∧ s₁ = { s with heap := s.heap.push { cls := .type "set", dict := none, data := .set #[] 0 (.fresh 0 0 (!w.params.followText "set-order")) } }) ⟨rfl, rfl⟩) fun r s₁ hr => ?_
  cases r with
  | error e => exact hr
  | ok fl =>
    cases fl with
    | ret obj =>
      obtain ⟨rfl, rfl⟩ := hr
      have hS : (s.heap.push { cls := .type "set", dict := none, data := .set #[] 0 (.fresh 0 0 (!w.params.followText "set-order")) }).get? s.heap.objs.size = some { cls := .type "set", dict := none, data := .set #[] 0 (.fresh 0 0 (!w.params.followText "set-order")) } := Heap.get?_push_size _ rfl
      have hT : Shared.TypeIs { s with heap := s.heap.push { cls := .type "set", dict := none, data := .set #[] 0 (.fresh 0 0 (!w.params.followText "set-order")) } } (.ref s.heap.objs.size) "set" := ⟨_, hS, rfl⟩
      have hli := PySem.F.called_set.init.lookup
      have hbi := PySem.F.called_set.init.bind (.ref s.heap.objs.size)
      repeat (any_goals (first | assumption | wp_step))

      refine codeAny_mono (codeAny_call_builtin (R := wants (fun r s₂ => r = .none ∧ ∃ h' tk c, s₂ = { s with heap := h', toks := tk } ∧ SetR w h' s.heap.objs.size (fun j => decide (j ∈ ns)) c ∧ c ≤ ns.length ∧
          (∀ b o, s.heap.get? b = some o → h'.get? b = some o)) E) PySem.F.called_set.init.plain PySem.F.entry_set_init (check_set_init_1 hT ?_)) fun r₂ s₂ hr₂ => ?_
      · obtain ⟨ol, hol, hcl, nl, hdl⟩ := hl
        obtain ⟨ocls, odict, odata, oslots⟩ := ol
        simp only at hcl hdl
        subst hcl; subst hdl
        have hol' : (s.heap.push { cls := .type "set", dict := none, data := .set #[] 0 (.fresh 0 0 (!w.params.followText "set-order")) }).get? l = some { cls := .type "list", dict := odict, data := .seq items nl, slots := oslots } := Heap.get?_push_of_some _ hol
        have hsls := PySem.F.sub_list_set
        have hslf := PySem.F.sub_list_frozenset
        have hne : (Value.type "list" == Value.type "dict") = false := by decide
        have hl1 : (s.heap.push { cls := .type "set", dict := none, data := .set #[] 0 (.fresh 0 0 (!w.params.followText "set-order")) }).IsList l items := ⟨_, hol', rfl, nl, rfl⟩
        unfold Builtin.«set.__init__» noKeywords Builtin.Frozenset.updateFrom
        generalize hPI : pyIter = PI
        wp_walk
        subst hPI

        refine wpAny_pyIter_list hl1 ?_
        refine wpAny_bind (wpAny_runValue ?_)
        have hlS : l < s.heap.objs.size := Heap.lt_size hol
        have hh3 : A.in1.in1.in1.handled = none := by simp [hh]
        have hneI : l ≠ (s.heap.push { cls := .type "set", dict := none, data := .set #[] 0 (.fresh 0 0 (!w.params.followText "set-order")) }).objs.size := by
          rw [Heap.size_push]; exact Nat.ne_of_lt (Nat.lt_succ_of_lt hlS)
        have hSf : s.heap.objs.size ∉ [(s.heap.push { cls := .type "set", dict := none, data := .set #[] 0 (.fresh 0 0 (!w.params.followText "set-order")) }).objs.size, l] := by
          rw [Heap.size_push]; simp only [List.mem_cons, List.mem_singleton, List.not_mem_nil, or_false, not_or]
          exact ⟨Nat.ne_of_lt (Nat.lt_succ_self _), Nat.ne_of_gt hlS⟩
        have hisz : items.size = ns.length := by
          have q := IntsAre.length hit
          rw [Array.length_toList] at q
          exact q
        have hval : ∀ (i : Nat) (v : Value), items[i]? = some v → ∃ k t, ns[i]? = some k ∧ v = .int k t := fun i v hv => by
          have hi : i < ns.length := by rw [← hisz]; exact (Array.getElem?_eq_some_iff.mp hv).1
          obtain ⟨t, e⟩ := PyProof.Rows.IntsAre.int_at hit i v (by rw [Array.getElem?_toList]; exact hv)
          refine ⟨ns[i], t, List.getElem?_eq_getElem hi, ?_⟩
          rw [e, List.getD_eq_getElem?_getD, List.getElem?_eq_getElem hi] <;> rfl
        refine set_update_ints ((Walks.list hh3 _ l hneI items).toS) s.heap.objs.size
          hSf ns hisz hb hval (items.size - 0) 0 _ (by omega) (Nat.zero_le _)
          ⟨⟨_, Heap.get?_push_size _ rfl, rfl, rfl⟩, (hl1.push _)⟩ ?hS0 ?hR
        case hS0 =>
          have hget : ((s.heap.push { cls := .type "set", dict := none, data := .set #[] 0 (.fresh 0 0 (!w.params.followText "set-order")) }).push { cls := .type "list_iterator", data := .fields #[.ref l, .int 0 0] }).get? s.heap.objs.size
              = some { cls := .type "set", dict := none, data := .set #[] 0 (.fresh 0 0 (!w.params.followText "set-order")) } := Heap.get?_push_of_some _ hS
          exact ⟨0, Nat.le_refl 0, setR_new_at hget⟩
        case hR =>
          intro s' c' hm hc' hS'
          obtain ⟨h', g', d', tk', os'⟩ := s'
          have eg : g' = s.gens := hm.gens
          have ed : d' = s.drawn := hm.drawn
          have eo : os' = s.os := hm.os
          subst eg; subst ed; subst eo
          show wpAny _ _ _ _ _ _
          refine wpAny_pure ?_
          show wpAny _ _ (ret Value.none) _ _ _
          rw [hisz] at hc'
          refine wpAny_pure ⟨rfl, h', tk', c', rfl, hS', hc', fun b o e => ?_⟩
          have hb : b < s.heap.objs.size := Heap.lt_size e
          have hb1 : b ≠ s.heap.objs.size := Nat.ne_of_lt hb
          have hb2 : b ≠ (s.heap.push { cls := .type "set", dict := none, data := .set #[] 0 (.fresh 0 0 (!w.params.followText "set-order")) }).objs.size := by
            rw [Heap.size_push]; exact Nat.ne_of_lt (Nat.lt_succ_of_lt hb)
          exact hm.heap b o (by simp only [List.mem_cons, List.mem_singleton, List.not_mem_nil, or_false, not_or]; exact ⟨hb1, hb2⟩) (Heap.get?_push_of_some _ (Heap.get?_push_of_some _ e))

      · cases r₂ with
        | error e => exact hr₂
        | ok fl₂ =>
          cases fl₂ with
          | ret r =>
            obtain ⟨rfl, h', tk, c', rfl, hS', hc', hk'⟩ := hr₂
            repeat (any_goals (first | assumption | wp_step))
            exact h _ _ _ hS' hc' hk'
          | _ => exact hr₂.elim
    | _ => exact hr.elim
end
/-! each number once, in order -/
def ddI : List Int → List Int
  | [] => []
  | x :: r => if x ∈ r then ddI r else x :: ddI r
theorem ddI_mem : ∀ {l : List Int} {y : Int}, y ∈ ddI l ↔ y ∈ l
  | [], y => Iff.rfl
  | x :: r, y => by
    unfold ddI
    split
    · rename_i h
      rw [ddI_mem, List.mem_cons]
      constructor
      · exact .inr
      · rintro (rfl | z)
        · exact h
        · exact z
    · rw [List.mem_cons, List.mem_cons, ddI_mem]
theorem ddI_nd : ∀ l : List Int, (ddI l).Nodup
  | [] => .nil
  | x :: r => by
    unfold ddI
    split
    · exact ddI_nd r
    · rename_i h
      exact List.nodup_cons.mpr ⟨fun z => h (ddI_mem.mp z), ddI_nd r⟩
theorem ddI_len : ∀ l : List Int, (ddI l).length ≤ l.length
  | [] => Nat.le_refl _
  | x :: r => by
    unfold ddI
    split
    · exact Nat.le_succ_of_le (ddI_len r)
    · exact Nat.succ_le_succ (ddI_len r)
def setI (l : List Int) : List Int := srtI (ddI l)
theorem setI_of {l m : List Int} (h : m.Pairwise (· < ·)) (hm : ∀ k, k ∈ m ↔ k ∈ l) : m = setI l := by
  refine srtI_of ((List.perm_ext_iff_of_nodup (h.imp fun z e => by omega) (ddI_nd l)).mpr fun y => by rw [hm, ddI_mem]) (h.imp fun z => by omega)
theorem setI_mem {l : List Int} {y : Int} : y ∈ setI l ↔ y ∈ l := by unfold setI; rw [(srtI_perm _).mem_iff, ddI_mem]
theorem setI_len (l : List Int) : (setI l).length ≤ l.length := by unfold setI; rw [(srtI_perm _).length_eq]; exact ddI_len l
theorem setI_sort (l : List Int) : (setI l).Pairwise (· < ·) := by
  have h1 := srtI_sort (ddI l)
  have h2 : (setI l).Nodup := (srtI_perm _).nodup_iff.mpr (ddI_nd l)
  exact lt_of_le_nodup _ h1 h2
/-- sorted(set(xs)), xs a list of whole numbers, fewer than 64 -/
def tSortSetI (K : PySem.W.Frag) (ta : TE) : TE := fun σ H Q => ta σ H fun x H1 => ∃ l, ∃ xs : List Int, x = .ref l ∧ (SqL K H1 l (xs.map V.int) ∨ SqT K H1 l (xs.map V.int)) ∧ xs.length < 63 ∧
  ∀ p, H1 p = none → Q (.ref p) (upd H1 p (.lst ((setI xs).map V.int)))
section
variable {X : Cx}
theorem sort_endI {pins : List (Addr × Obj)} {σ : L2.St} {H1 : Hp} {s1 : Shared} {a : Addr} {xs : List Int} {c : Nat} {Q : VK} (hc : X.calm = true) (h64 : xs.length < 63) (hcl : c ≤ xs.length) (I2 : Inv X pins σ H1 s1) (hS : SetR X.w s1.heap a (fun k' => decide (k' ∈ xs)) c)
    (q1 : ∀ p, H1 p = none → Q (.ref p) (upd H1 p (.lst ((setI xs).map V.int)))) : wpAny (model X.prog X.w) X.A (call (.builtin "sorted") [Value.ref a]) (EP X pins σ Q) X.xe s1 := by
  refine sorted_set hS (I2.ok.hd hc) (by omega) fun s' p out c ns k g o hp hgp hi hs hmem hl => ?_
  have hks : ns = setI xs := setI_of hs fun y => by rw [hmem, decide_eq_true_iff]
  have hlen : (ns.map V.int).length ≤ sizeLine := by rw [List.length_map, hl, sizeLine_eq]; omega
  have hn : H1 p = none := I2.hok.fresh hp
  have J : Inv X pins σ (upd H1 p (.lst (ns.map V.int))) { s1 with heap := s'.heap, gens := s'.gens, drawn := s'.drawn, toks := s'.toks } :=
    I2.call (ch := []) (Un.laid k hp hn) (I2.hok.laid k hp ⟨hlen, out.toList, c, vals_of_ints hi, hgp⟩) (by rw [g]; exact I2.bare) (fun _ z => nomatch z)
  have e : s' = { s1 with heap := s'.heap, gens := s'.gens, drawn := s'.drawn, toks := s'.toks } := by
    cases s'
    cases s1
    cases o
    rfl
  rw [e]
  refine ⟨.ref p, _, J, rfl, ?_⟩
  rw [hks]
  exact q1 p hn
theorem pe_sortSetI {a : Expr} {ta : TE} {p p2 q pos : Pos} (hc : X.calm = true) (hg : Gl X "sorted") (hm : X.mg "sorted" = none) (hg2 : Gl X "set") (hm2 : X.mg "set" = none) (ha : PE X a ta)
    (na : starEach [a] X.env = (false, eval a X.env) :: starEach [] X.env := by rfl) : PE X (.Call (.Name "sorted" p) [.Call (.Name "set" p2) [a] [] q] [] pos) (tSortSetI X.K ta) := by
  refine ⟨fun pins s σ H Q I h => ?_⟩
  refine Call_ (ld_blt I hg hm bt_sorted ?_)
  refine PyProof.Rows.callWith_builtin1 (PyProof.Rows.args_cons ?_ rfl) rfl rfl
  refine Call_ (ld_blt I hg2 hm2 boot_set ?_)
  refine PyProof.Rows.callWith_type1 (PyProof.Rows.args_cons (thn (ha.run pins s σ H _ I h) fun v s1 ⟨x, H1, I1, r1, q1⟩ => PyProof.Rows.args_nil ?_) na) na rfl
  obtain ⟨l, xs, rfl, hq, h64, q1⟩ := q1
  cases r1
  have fin : ∀ (h' : Heap) (tk c : Nat), SetR X.w h' s1.heap.objs.size (fun k' => decide (k' ∈ xs)) c → c ≤ xs.length →
      (∀ b o, s1.heap.get? b = some o → h'.get? b = some o) →
      wpAny (model X.prog X.w) X.A (spliced (backTo pos (starEach [] X.env))) (fun vs s₂ => wpAny (model X.prog X.w) X.A (call (.builtin "sorted") (Value.ref s1.heap.objs.size :: vs)) (EP X pins σ Q) X.xe s₂) X.xe { s1 with heap := h', toks := tk } := fun h' tk c hS hcl hk => by
    refine PyProof.Rows.args_nil ?_
    have I2 : Inv X pins σ H1 { s1 with heap := h', toks := tk } := I1.kept hk
    exact sort_endI hc h64 hcl I2 hS q1
  have hb : xs.length + 1 < scanBound := by
    have : (64 : Nat) ≤ scanBound := by decide
    omega
  rcases hq with hq | hq
  · obtain ⟨its, r, pl, hz⟩ := I1.list hq
    exact call_setI_list (I1.ok.hd hc) pl.isList (by simpa using intsAre_of r) hb fun h' tk c hS hcl hk => fin h' tk c hS hcl hk
  · obtain ⟨its, r, pl, hz⟩ := I1.tuple hq
    exact call_set_tupI xs (I1.ok.hd hc) pl (by simpa using intsAre_of r) hb fun h' tk c hS hcl hk => fin h' tk c hS hcl hk
end
section
variable {K : PySem.W.Frag} {σ : Sig} {B H : Hp} {ta : TE}
theorem evd_sortSetIL {xs : List Int} (h : EvD ta σ B H (.list (xs.map .int))) (hl : xs.length < 63) : EvD (tSortSetI K ta) σ B H (.list ((setI xs).map .int)) := fun H1 e eb Q q => by
  refine h H1 e eb _ fun v H2 B2 e2 x2 eb2 hv => ?_
  obtain ⟨a, ys, rfl, hs, hx⟩ := dpl hv
  rw [dpa_ints hx] at hs
  exact ⟨a, xs, rfl, .inl (sq_of (eb2 _ _ hs)), hl, fun p hp => q _ _ (upd B2 p (.lst ((setI xs).map V.int))) (e2.trans (Ex.new hp)) (Ext.trans x2 e2 (Ext.new eb2 hp)) (ex_upd2 eb2) (.lst upd_same (dpa_ofInts _))⟩
end
end GK

/-! Parts of one upload, sent in any order. -/
namespace GK
open PySem L2
theorem sum_permG {α : Type} {l m : List α} (p : l.Perm m) (f : α → Int) : (l.map f).sum = (m.map f).sum := by
  induction p with
  | nil => rfl
  | cons x _ ih => rw [List.map_cons, List.map_cons, List.sum_cons, List.sum_cons, ih]
  | swap x y l => simp only [List.map_cons, List.sum_cons]; omega
  | trans _ _ ih1 ih2 => exact ih1.trans ih2
theorem nodup_lenI : ∀ {l ks : List Int}, l.Nodup → (∀ x ∈ l, x ∈ ks) → l.length ≤ ks.length
  | [], _, _, _ => Nat.zero_le _
  | x :: r, ks, n, s => by
    rw [List.nodup_cons] at n
    have hx := s x List.mem_cons_self
    have := nodup_lenI (l := r) (ks := ks.erase x) n.2 fun y hy => (List.mem_erase_of_ne (show y ≠ x from fun z => n.1 (by rw [← z]; exact hy))).mpr (s y (List.mem_cons_of_mem _ hy))
    rw [List.length_erase_of_mem hx] at this
    have hp : 0 < ks.length := List.length_pos_of_mem hx
    rw [List.length_cons]
    omega
structure Pts (ks : List Int) (num : Int → Int) (dat : Int → Str) (done : List Int) (b : Nat) (m : Parts) : Prop where
  nd : (m.map (·.1)).Nodup
  sub : ∀ x ∈ m.map (·.1), x ∈ ks.map num
  ok : ∀ k ∈ done, aGet m (num k) = some (dat k)
  le : ∀ p ∈ m, p.2.length ≤ b
section
variable {ks : List Int} {num : Int → Int} {dat : Int → Str} {done : List Int} {b : Nat} {m : Parts}
theorem Pts.nil (ks : List Int) (num : Int → Int) (dat : Int → Str) (b : Nat) : Pts ks num dat [] b [] := ⟨.nil, (fun x hx => by cases hx), (fun k hk => by cases hk), (fun p hp => by cases hp)⟩
theorem Pts.put (h : Pts ks num dat done b m) {k : Int} (hk : k ∈ ks) {x : Str} (hx : x.length ≤ b) {done' : List Int} (hd : ∀ j ∈ done', num j = num k → x = dat j) (hd2 : ∀ j ∈ done', num j ≠ num k → j ∈ done) : Pts ks num dat done' b (aPut m (num k) x) := by
  refine ⟨aPut_nodup h.nd, fun y hy => ?_, fun j hj => ?_, fun p hp => ?_⟩
  · rw [aPut_keys] at hy
    split at hy
    · exact h.sub y hy
    · rcases List.mem_append.mp hy with z | z
      · exact h.sub y z
      · rw [List.mem_singleton.mp z]; exact List.mem_map_of_mem hk
  · rw [aGet_put]
    by_cases e : num j = num k
    · rw [if_pos e, hd j hj e]
    · rw [if_neg e]; exact h.ok j (hd2 j hj e)
  · rcases aPut_mem hp with z | z
    · exact h.le p z
    · rw [z]; exact hx
theorem Pts.len (h : Pts ks num dat done b m) : m.length ≤ ks.length := by
  have := nodup_lenI h.nd h.sub
  rwa [List.length_map, List.length_map] at this
theorem Pts.get (h : Pts ks num dat done b m) (n : Int) : ((aGet m n).getD "").length ≤ b := by
  cases e : aGet m n with
  | none => exact Nat.zero_le _
  | some x => exact h.le _ (aGet_mem e)
theorem lensP_eq (m : Parts) : lensP m = (m.map (·.1)).map fun n => ((((aGet m n).getD "").length : Nat) : Int) := by
  unfold lensP
  rw [List.map_map]; rfl
theorem sum_le_mul {α : Type} {f : α → Int} {b : Nat} : ∀ {l : List α}, (∀ a ∈ l, f a ≤ (b : Int)) → (l.map f).sum ≤ (b * l.length : Nat)
  | [], _ => by simp
  | a :: r, h => by
    rw [List.map_cons, List.sum_cons, List.length_cons]
    have h1 := h a List.mem_cons_self
    have h2 := sum_le_mul (l := r) fun x hx => h x (List.mem_cons_of_mem _ hx)
    rw [Nat.mul_add, Nat.mul_one]
    omega
theorem Pts.sum (h : Pts ks num dat done b m) : (lensP m).sum ≤ (b * ks.length : Nat) := by
  rw [lensP_eq]
  have h1 := sum_le_mul (f := fun n => ((((aGet m n).getD "").length : Nat) : Int)) (b := b) (l := m.map (·.1)) fun n _ => by have := h.get n; omega
  have h2 := h.len
  rw [List.length_map] at h1
  have h3 : b * m.length ≤ b * ks.length := Nat.mul_le_mul_left b h2
  omega
/-- all were sent -/
theorem Pts.keys (h : Pts ks num dat ks b m) (hs : (ks.map num).Pairwise (· < ·)) : (m.map (·.1)).Perm (ks.map num) := by
  refine (List.perm_ext_iff_of_nodup h.nd (hs.imp fun z e => by omega)).mpr fun x => ⟨h.sub x, fun hx => ?_⟩
  obtain ⟨k, hk, rfl⟩ := List.mem_map.mp hx
  exact aGet_keys.mp (by rw [h.ok k hk]; simp)
theorem Pts.srt (h : Pts ks num dat ks b m) (hs : (ks.map num).Pairwise (· < ·)) : srtI (m.map (·.1)) = ks.map num := (srtI_of (h.keys hs).symm (hs.imp fun z => by omega)).symm
theorem Pts.sent (h : Pts ks num dat ks b m) (hs : (ks.map num).Pairwise (· < ·)) : sentD m = .tuple (ks.map fun k => .tuple [.int (num k), .int ((dat k).length : Nat), .str (sumT (dat k))]) := by
  unfold sentD
  rw [h.srt hs, List.map_map]
  congr 1
  refine List.map_congr_left fun k hk => ?_
  show partD m (num k) = _
  unfold partD
  rw [h.ok k hk]; rfl
theorem Pts.total (h : Pts ks num dat ks b m) (hs : (ks.map num).Pairwise (· < ·)) : (lensP m).sum = (ks.map fun k => ((dat k).length : Int)).sum := by
  rw [lensP_eq, sum_permG (h.keys hs), List.map_map]
  congr 1
  refine List.map_congr_left fun k hk => ?_
  show ((((aGet m (num k)).getD "").length : Nat) : Int) = _
  rw [h.ok k hk]; rfl
end
theorem rises_of : ∀ {l : Parts}, (l.map (·.1)).Pairwise (· < ·) → rises l = true
  | [], _ => rfl
  | [_], _ => rfl
  | p :: q :: r, h => by
    rw [List.map_cons, List.pairwise_cons] at h
    unfold rises
    rw [decide_eq_true (h.1 q.1 (by simp)), rises_of h.2]; rfl
theorem joint_ok {Y : UpS} {u : Int} {key : Str} {day : Int} {num : Int → Int} {dat : Int → Str} {sub : List Int} (ho : aGet Y.opn u = some (key, day)) (hne : sub ≠ []) (hs : (sub.map num).Pairwise (· < ·)) (hg : ∀ k ∈ sub, aGet (partsOf Y u) (num k) = some (dat k)) (hl : ∀ k ∈ sub.dropLast, 5 ≤ (dat k).length) : joint Y u (sub.map fun k => (num k, sumT (dat k))) = .ok key (Txt.join "" (sub.map dat)) (sumsT (sub.map fun k => sumT (dat k))) := by
  have h1 : ¬ ((sub.map fun k => (num k, sumT (dat k))).isEmpty = true ∨ rises (sub.map fun k => (num k, sumT (dat k))) = false) := by
    rintro (z | z)
    · rw [List.isEmpty_iff, List.map_eq_nil_iff] at z; exact hne z
    · rw [rises_of (by rw [List.map_map]; exact hs)] at z; cases z
  have h2 : (sub.map fun k => (num k, sumT (dat k))).all (right (partsOf Y u)) = true := by
    rw [List.all_eq_true]
    intro r hr
    obtain ⟨k, hk, rfl⟩ := List.mem_map.mp hr
    unfold right
    show ((aGet (partsOf Y u) (num k)).isSome && decide (sumT ((aGet (partsOf Y u) (num k)).getD "") = sumT (dat k))) = true
    rw [hg k hk]
    simp
  have h3 : ¬ ((sub.map fun k => (num k, sumT (dat k))).dropLast.any fun r => decide ((partOf (partsOf Y u) r).length < 5)) = true := by
    rw [← List.map_dropLast]
    intro z
    obtain ⟨r, hr, hz⟩ := List.any_eq_true.mp z
    obtain ⟨k, hk, rfl⟩ := List.mem_map.mp hr
    have hz' := of_decide_eq_true hz
    unfold partOf at hz'
    rw [hg k ((List.dropLast_sublist sub).mem hk)] at hz'
    have := hl k hk
    have hz2 : (dat k).length < 5 := hz'
    omega
  have e1 : (sub.map fun k => (num k, sumT (dat k))).map (partOf (partsOf Y u)) = sub.map dat := by
    rw [List.map_map]
    refine List.map_congr_left fun k hk => ?_
    show partOf (partsOf Y u) (num k, sumT (dat k)) = _
    unfold partOf
    rw [hg k hk]; rfl
  have e2 : (sub.map fun k => (num k, sumT (dat k))).map (·.2) = sub.map fun k => sumT (dat k) := by
    rw [List.map_map]; rfl
  unfold joint
  rw [ho]
  show (if _ then _ else _) = _
  rw [if_neg h1, h2, if_neg (by decide), if_neg h3, e1, e2]
end GK

/-! A method's call in the body of a try. -/
namespace GK
open PySem PySem.Spec PyProof.Rows L2
open Evl (Ex sq_of st_of fresh_back)
def tMethW (C : Addr) (m : Str) (sp : Sp) (E : L2.St → XK) (ta : TE) (t : TA) : TE := fun σ H Q => tMeth C m sp [] (E σ) ta t σ H Q
section
variable {X : Cx} {k j : Nat} {m : Str} {sp : Sp} {E : L2.St → XK} {e o : Expr} {es : List Expr} {t : TA} {ta : TE} {pos apos : Pos} {C : Addr}
theorem pe_mtS {pl : Sem Bool} (c : Mtb X.prog X.w X.K X.mg X.base k C m sp) (hr : Room j X.A) (hk : k ≤ j) (hx : ∀ σ, PassesAt (L2.CX X.prog X.w) X σ (E σ)) (he : PE X o ta) (ha : PA X (e :: es) t)
    (hst : starEach (e :: es) X.env = (false, eval e X.env) :: starEach es X.env := by rfl) (hpl : (backTo pos (starEach es X.env)).any (·.1) = false := by rfl)
    (ht : eval (.Call (.Attribute o m apos) (e :: es) [] pos) X.env = (eval o X.env >>= fun ov => standAt apos.atName >>= fun _ => holding [ov] (getMethod ov m pl) >>= fun q => callWith pos q.1 q.2 (backTo pos (starEach (e :: es) X.env)) (backToKw pos (keywordEach [] X.env))) := by rfl) :
    PE X (.Call (.Attribute o m apos) (e :: es) [] pos) (tMethW C m sp E ta t) := by
  obtain ⟨f, fd, ps, cl, me, F, b⟩ := c.ex
  constructor
  intro pins s σ H Q I h
  have h' : tMeth C m sp [] (E σ) ta t σ H Q := h
  refine PySem.W.methodCall_KW (pl := pl) (thn (he.run pins s σ H _ I h') ?_) ht
  rintro u s1 ⟨x, H1, I1, rx, a, dx, fs, rfl, ea, l, q⟩
  cases rx
  refine getmeth_ok I1 ea cl me l (PySem.W.callWith_K (first := [.ref a]) (h₀ := X.base) I.ok.mod.kin me.kp (thn (ha.run pos pins s1 σ H1 _ I1 q) ?_) hst hpl)
  rintro us s2 ⟨vs, H2, I2, r, q2⟩
  rw [List.append_nil] at q2
  exact ⟨I2.kIn, run_fnS (us := .ref a :: us) (vs := .ref a :: vs) F (hr.mono hk) b (hx σ) I2 (.cons rfl r) q2⟩
end
def tTryOn (K : PySem.W.Frag) (c : Value) (tb : WX → TS) (ts : Addr → Value → Option Addr → TS) : TS := fun D σ H => tb (wOnly K c ts (fun _ _ _ _ => False) D) D σ H
end GK

namespace GK
open PySem PySem.Spec PyProof.Rows L2
open Evl (Ex ex_l ex_t ex_rd sq_of st_of sz_of sz_lt fresh_back)
def told11 : Res → PyData
  | .ok d => d
  | .no c => .tuple [.bool (decide (c = "NoKey")), .bool (decide (c = "Gone")), .bool (decide (c = "NoRange"))]
def sp_law_told (K : PySem.W.Frag) : Sp := fun vs H Q _ => ∃ (B : Hp) (a : Addr) (L : List Addr) (S : StS) (key x : Str), vs = [.ref a, .str key, .str x] ∧ Ex B H ∧ StAt K a S L B H ∧ StB S ∧ x.length ≤ 1000 ∧ Ret (told11 (rangeR S.sh key x)) B H Q
theorem len_law_told {K : PySem.W.Frag} {vs : List V} {H : Hp} {Q : VK} {E : XK} (h : sp_law_told K vs H Q E) : vs.length = 3 := by
  obtain ⟨_, _, _, _, _, _, rfl, _⟩ := h; rfl
theorem q_tryAsA {K : PySem.W.Frag} {c : Value} {i j : Nat} {ts : Addr → Value → Option Addr → TS} {tz : TS} {C : Addr} {m : Str} {sp : Sp} {ta : TE} {t : TA} {D : Ends} {σ : Sig} {H : Hp} (h : tMeth C m sp [] (WE (wAs K c i ts (fun _ _ _ _ => False) { D with nx := tz D }) σ) ta t σ H fun v H1 => tz D (σ.set j (some v)) H1) : tSeq (tTryAs K c i (fun W => tAsg (tMethW C m sp (WE W) ta t) (gName j)) ts) tz D σ H := h
def t_law_told (K : PySem.W.Frag) (E : XK) : TS :=
  (tSeq (tAsg (tC .non) (gName 3))
    (tSeq (tTryAs K (.ref (He.ga K "KeepError")) 4 (fun W => (tAsg (tMethW (He.ga K "Store") "get_range" (sp_Store_get_range K) (WE W) (tVar 0) (tCons (tVar 1) (tCons (tVar 2) tNil))) (gName 3))) (fun a cls d => (tAsg (tTup (tCons (tCB (rIsX K cls d a) (tCons (tVar 4) (tCons (tC (.ref (He.ga K "NoKey"))) tNil))) (tCons (tCB (rIsX K cls d a) (tCons (tVar 4) (tCons (tC (.ref (He.ga K "Gone"))) tNil))) (tCons (tCB (rIsX K cls d a) (tCons (tVar 4) (tCons (tC (.ref (He.ga K "NoRange"))) tNil))) tNil)))) (gName 3))))
    (tRet (tVar 3))))
theorem pure_law_told {K : PySem.W.Frag} (xs : Exs ["NoKey", "Gone", "NoRange"] K) {vs : List V} {H : Hp} {Q : VK} {E : XK} (h : sp_law_told K vs H Q E) : t_law_told K E { nx := fun _ H' => Q .non H', rt := Q } (start ["store", "key", "text", "told", "e"] vs) H := by
  obtain ⟨B, a, L, S, key, x, rfl, eb, hA, hB, hx, r⟩ := h
  refine q_asgN (B := B) evd_cn eb fun H1 e1 eb1 => ?_
  refine q_tryAsA ?_
  refine mxv_Store_get_range (B := B) (key := key) (text := x) (evf_var rfl) (evd_varS rfl) (evd_varS rfl) (hA.grow e1 (Ext.refl _ _)) hB hx H1 (Ex.refl _) eb1 _ ?_
  cases hr : rangeR S.sh key x with
  | ok d =>
    rw [hr] at r
    intro v H2 B2 e2 x2 eb2 hv
    exact s_ret (B := B2) (evd_var rfl hv) eb2 (r.grow (e1.trans e2) (Ext.trans (Ext.refl _ _) e1 x2))
  | no c =>
    rw [hr] at r
    intro H2 e2
    have hc : c ∈ (["NoKey", "Gone", "NoRange"] : List Str) := by
      rcases range_no hr with z | z | z <;> rw [z] <;> simp
    have cN : ExcC K (He.ga K c) := xs.c c hc
    have kk : ∀ n ∈ (["NoKey", "Gone", "NoRange"] : List Str), PySem.W.kitOne K (.ref (He.ga K c)) (.ref (He.ga K n)) = some (decide (c = n)) := fun n hn => xs.k c hc n hn
    refine ⟨true, xs.m c hc, fun _ ae hae => ?_, fun z => nomatch z⟩
    refine s_asg (B := B) (d := told11 (.no c)) (evd_tup (evs_cons (evd_isX' rfl cN (kk _ (by simp))) (evs_cons (evd_isX' rfl cN (kk _ (by simp))) (evs_cons (evd_isX' rfl cN (kk _ (by simp))) evs_nil)))) (eb1.trans e2) fun w H4 B4 e4 x4 eb4 hw => ?_
    exact s_ret (B := B4) (evd_var rfl hw) eb4 (r.grow ((e1.trans e2).trans e4) (Ext.trans (Ext.refl _ _) (e1.trans e2) x4))
theorem cev_law_told {K : PySem.W.Frag} {σ : Sig} {B H : Hp} {ta tb tc : TE} {E : XK} {a : Addr} {L : List Addr} {S : StS} {key x : Str} (ho : EvF ta σ H (.ref a)) (hk : EvD tb σ B H (.str key)) (hx : EvD tc σ B H (.str x)) (hA : StAt K a S L B H) (hB : StB S) (hl : x.length ≤ 1000) : EvD (tCall (sp_law_told K) [] E (tCons ta (tCons tb (tCons tc tNil)))) σ B H (told11 (rangeR S.sh key x)) := fun H1 e eb Q q => run_call1 (B := B) (ho.mono e) ((evs_cons hk (evs_cons hx evs_nil)).mono (Ex.refl _) e) eb fun H2 B2 vs e2 x2 eb2 hd => by
  obtain ⟨v, w, rfl, hv, hw⟩ := dpa2 hd
  cases hv
  cases hw
  exact ⟨B2, a, L, S, key, x, rfl, eb2, (hA.grow e (Ext.refl _ _)).grow e2 x2, hB, hl, q.grow e2 x2⟩
/-! ### tails -/
def sp_law_tails (K : PySem.W.Frag) : Sp := fun vs H Q _ => ∃ (B : Hp) (a : Addr) (L : List Addr) (S : StS) (key y : Str) (n : Nat), vs = [.ref a, .str key, .str y, .int (n : Int)] ∧ Ex B H ∧ StAt K a S L B H ∧ StB S ∧ getR S.sh key = .ok (.str y) ∧ y.length ≤ 1000 ∧ n ≤ y.length ∧ Ret (.bool true) B H Q
theorem len_law_tails {K : PySem.W.Frag} {vs : List V} {H : Hp} {Q : VK} {E : XK} (h : sp_law_tails K vs H Q E) : vs.length = 4 := by
  obtain ⟨_, _, _, _, _, _, _, rfl, _⟩ := h; rfl
theorem l6 : ("signs=" : Str).length = 6 := by decide +kernel
theorem l1 : ("-" : Str).length = 1 := by decide +kernel
theorem told11_shal {y : Str} {n : Nat} : shal 4 (told11 (tailR y n)) := by
  unfold tailR
  split
  · exact flt_shal rfl
  · exact fltT_shal (by show 3 ≤ 10000; decide) rfl
def wds (y : Str) (n : Nat) : List Str := [numT n ++ "-", "-" ++ numT (y.length - n), numT n ++ "-" ++ numT (y.length + 5)]
def t_law_tails (K : PySem.W.Frag) (E : XK) : TS :=
  (tSeq (tAsg (tTup (tCons (tC (.bl false)) (tCons (tC (.bl false)) (tCons (tC (.bl true)) tNil)))) (gName 4))
    (tSeq (tIfS (tTest (tOp rNe (tSl rSlS (tVar 2) (tPart (tVar 3)) tNoPart) (tC (.str "")))) (tAsg (tSl rSlS (tVar 2) (tPart (tVar 3)) tNoPart) (gName 4)) tNext)
    (tSeq (tFor (iTup K (tTup (tCons (tOp rAddStr (tCB rStrInt (tCons (tVar 3) tNil)) (tC (.str "-"))) (tCons (tOp rAddStr (tC (.str "-")) (tCB rStrInt (tCons (tOp (rI0 fun i j => .int (i - j)) (tCB rLenStr (tCons (tVar 2) tNil)) (tVar 3)) tNil))) (tCons (tOp rAddStr (tOp rAddStr (tCB rStrInt (tCons (tVar 3) tNil)) (tC (.str "-"))) (tCB rStrInt (tCons (tOp (rI0 fun i j => .int (i + j)) (tCB rLenStr (tCons (tVar 2) tNil)) (tC (.int 5))) tNil))) tNil))))) (gName 5) (tIfS (tNot (tB (tCall (sp_law_same 5 K) [] E0 (tCons (tCall (sp_law_told K) [] E0 (tCons (tVar 0) (tCons (tVar 1) (tCons (tOp rAddStr (tC (.str "signs=")) (tVar 5)) tNil)))) (tCons (tVar 4) tNil))))) (tRet (tC (.bl false))) tNext))
    (tRet (tC (.bl true))))))
theorem pure_law_tails {K : PySem.W.Frag}  {vs : List V} {H : Hp} {Q : VK} {E : XK} (h : sp_law_tails K vs H Q E) : t_law_tails K E { nx := fun _ H' => Q .non H', rt := Q } (start ["store", "key", "text", "cut", "due", "word"] vs) H := by
  obtain ⟨B, a, L, S, key, y, n, rfl, eb, hA, hB, hg, hy, hn, r⟩ := h
  have l1 := l1
  have l6 := l6
  refine q_asg (B := B) (d := .tuple [.bool false, .bool false, .bool true]) (evd_tup (evs_cons evd_ck (evs_cons evd_ck (evs_cons evd_ck evs_nil)))) eb fun vd H1 B1 e1 x1 eb1 hvd => ?_
  refine q_join (fun σ H' => ∃ (vd : V) (B' : Hp), σ = [some (.ref a), some (.str key), some (.str y), some (.int (n : Int)), some vd, none] ∧ Da B' vd (told11 (tailR y n)) ∧ Ex H H' ∧ Ext B H B' ∧ Ex B' H') (fun D' rt hnx => ?_) ?_
  · have hcl := cut_len y (some (n : Int)) none
    have hcb : (cutS y (some (n : Int)) none).length = y.length - n := by
      rw [len_tl, cut_from _ _ (by omega), List.length_drop, ← len_tl, Int.toNat_natCast]
    refine s_if (B := B1) (evb_test (evd_neS (evd_slS (evd_varS rfl) (evo_some (evd_varI rfl)) evo_none (by omega)) evd_cs)) eb1 (fun hb H2 e2 eb2 => ?_) fun hb H2 e2 eb2 => ?_
    · have hne : cutS y (some (n : Int)) none ≠ "" := by simpa using hb
      have hlt : n < y.length := by
        rcases Nat.lt_or_ge n y.length with z | z
        · exact z
        · exfalso
          apply hne
          apply str_ext
          have : (tl (cutS y (some (n : Int)) none)).length = 0 := by rw [← len_tl]; omega
          rw [List.eq_nil_of_length_eq_zero this]; rfl
      refine s_asgS (B := B1) (x := cutS y (some (n : Int)) none) (evd_slS (evd_varS rfl) (evo_some (evd_varI rfl)) evo_none (by omega)) eb2 fun H3 e3 eb3 => ?_
      refine hnx _ _ ⟨_, B1, rfl, ?_, (e1.trans e2).trans e3, x1, eb3⟩
      unfold tailR
      rw [if_pos hlt]
      exact .str _
    · have he : cutS y (some (n : Int)) none = "" := by simpa using hb
      have hge : ¬ n < y.length := fun z => by
        have := congrArg Str.length he
        rw [hcb] at this
        have h0 : ("" : Str).length = 0 := rfl
        omega
      refine nx_go ?_
      refine hnx _ _ ⟨vd, B1, rfl, ?_, e1.trans e2, x1, eb2⟩
      unfold tailR
      rw [if_neg hge]
      exact hvd
  rintro σ1 H2 ⟨vd2, B2, rfl, hvd2, e2, x2, eb2⟩
  have hA2 := hA.grow e2 x2
  have r2 := r.grow e2 x2
  clear hvd
  have n1 := numT_len (n := n) (by omega)
  have n2 := numT_len (n := y.length - n) (by omega)
  have n3 := numT_len (n := y.length + 5) (by omega)
  have hwl : ∀ w ∈ wds y n, w.length ≤ 20 ∧ rangeR S.sh key ("signs=" ++ w) = tailR y n := by
    intro w hw
    simp only [wds, List.mem_cons, List.not_mem_nil, or_false] at hw
    have hd : tl ("-" : Str) = [45] := by decide +kernel
    have t1 : ∀ k, tl (numT k) = TL.numL k := fun k => tl_num k
    rcases hw with rfl | rfl | rfl
    · refine ⟨by rw [app_len]; omega, range_f hg ?_ hn (by omega)⟩
      rw [tl_app, tl_app, signs_tl, t1, hd]
    · refine ⟨by rw [app_len]; omega, range_s (b := y.length - n) hg ?_ (by omega) (by omega)⟩
      rw [tl_app, tl_app, signs_tl, t1, hd]; rfl
    · refine ⟨by rw [app_len, app_len]; omega, range_fb (b := y.length + 5) hg ?_ hn (by omega) (by omega)⟩
      rw [tl_app, tl_app, tl_app, signs_tl, t1, t1, hd, List.append_assoc]; rfl
  refine q_forR (B := B2) (ds := (wds y n).map .str) (src_tup (evd_tup (ds := (wds y n).map .str) (evs_cons (evd_addS (i := numT n) (evd_strI (evd_varI rfl) (by omega)) evd_cs (by omega)) (evs_cons (evd_addS (j := numT (y.length - n)) evd_cs (EvD.is (evd_strI (n := (y.length : Int) - (n : Int)) (evd_I0 (g := fun i j => i - j) (evd_lenS (evd_varS rfl) (by omega)) (evd_varI rfl)) (by omega)) (by unfold numT; rw [show (y.length : Int) - (n : Int) = ((y.length - n : Nat) : Int) by omega])) (by omega)) (evs_cons (evd_addS (i := numT n ++ "-") (j := numT (y.length + 5)) (evd_addS (i := numT n) (evd_strI (evd_varI rfl) (by omega)) evd_cs (by omega)) (EvD.is (evd_strI (n := (y.length : Int) + 5) (evd_I0 (g := fun i j => i + j) (evd_lenS (evd_varS rfl) (by omega)) evd_ci) (by omega)) (by unfold numT; rfl)) (by rw [app_len]; omega)) evs_nil))))) eb2 []
    (fun i σ1 => ∃ z, σ1 = [some (.ref a), some (.str key), some (.str y), some (.int (n : Int)), some vd2, z]) (fun i L B H => True) (fun i L B H B' H' _ _ _ => trivial) ⟨_, rfl⟩ trivial ?_ ?_
  · rintro i d x σ1 H3 B3 L3 hd ⟨z, rfl⟩ x3 o3 f3 eb3 _ hx D' rt k
    rw [List.getElem?_map] at hd
    obtain ⟨w, hw, rfl⟩ := Option.map_eq_some_iff.mp hd
    cases hx
    refine g_name ?_
    refine at_sig (σ' := [some (.ref a), some (.str key), some (.str y), some (.int (n : Int)), some vd2, some (.str w)]) rfl ?_
    obtain ⟨w1, w2⟩ := hwl w (List.mem_of_getElem? hw)
    have hA3 := hA2.grow o3.nil x3
    refine s_if (B := B3) (b := false) (EvB.is (evb_not (evb_B (cev_law_same (n := 4) (d := told11 (tailR y n)) (EvD.is (cev_law_told (x := "signs=" ++ w) (evf_var rfl) (evd_varS rfl) (evd_addS evd_cs (evd_varS rfl) (by omega)) hA3 hB (by rw [app_len]; omega)) (by rw [w2])) (evd_var rfl (hvd2.ex' x3.1)) told11_shal))) rfl) eb3 (fun z => by cases z) fun _ H4 e4 eb4 => ?_
    refine nx_go ?_
    exact k _ H4 B3 [] ⟨_, rfl⟩ (Only.of e4) (fun p hp => by cases hp) (Ext.refl _ _) eb4 trivial
  · rintro σ1 H3 B3 L3 ⟨z, rfl⟩ x3 o3 f3 eb3 _
    exact s_ret (B := B3) (d := .bool true) evd_ck eb3 (r2.grow o3.nil x3)
theorem cev_law_tails {K : PySem.W.Frag} {σ : Sig} {B H : Hp} {ta tb tc td : TE} {E : XK} {a : Addr} {L : List Addr} {S : StS} {key y : Str} {n : Nat} (ho : EvF ta σ H (.ref a)) (hk : EvD tb σ B H (.str key)) (hx : EvD tc σ B H (.str y)) (hn : EvD td σ B H (.int (n : Int))) (hA : StAt K a S L B H) (hB : StB S) (hg : getR S.sh key = .ok (.str y)) (hy : y.length ≤ 1000) (hny : n ≤ y.length) : EvD (tCall (sp_law_tails K) [] E (tCons ta (tCons tb (tCons tc (tCons td tNil))))) σ B H (.bool true) := fun H1 e eb Q q => run_call1 (B := B) (ho.mono e) ((evs_cons hk (evs_cons hx (evs_cons hn evs_nil))).mono (Ex.refl _) e) eb fun H2 B2 vs e2 x2 eb2 hd => by
  obtain ⟨v, w, u, rfl, hv, hw, hu⟩ := dpa3 hd
  cases hv
  cases hw
  cases hu
  exact ⟨B2, a, L, S, key, y, n, rfl, eb2, (hA.grow e (Ext.refl _ _)).grow e2 x2, hB, hg, hy, hny, q.grow e2 x2⟩
/-! ### ends -/
theorem rws_put (r : List (Unit × List Row)) (l : List Row) : rws (aPut r () l) () = l := by
  unfold rws
  rw [aGet_put, if_pos rfl]; rfl
def sp_law_ends (K : PySem.W.Frag) : Sp := fun vs H Q _ => ∃ (B : Hp) (a : Addr) (L : List Addr) (S : StS) (key : Str) (c : Nat) (v t : Int) (r : List (Unit × List Row)), vs = [.ref a, .str key] ∧ Ex B H ∧ StAt K a S L B H ∧ Xw (k1 key) c S 100000 t v r [] ∧ c < 60 ∧ UpB S.up ∧ totX r + totalU S.up ≤ 100000 ∧ key.length ≤ 1000 ∧ ∀ H', Q (.bl true) H'
theorem len_law_ends {K : PySem.W.Frag} {vs : List V} {H : Hp} {Q : VK} {E : XK} (h : sp_law_ends K vs H Q E) : vs.length = 2 := by
  obtain ⟨_, _, _, _, _, _, _, _, _, rfl, _⟩ := h; rfl
theorem tl0 : tl ("signs=0-" : Str) = signsL ++ (TL.numL 0 ++ 45 :: []) := by decide +kernel
def t_law_ends (K : PySem.W.Frag) (E : XK) : TS :=
  (tSeq (tDrop (tMeth (He.ga K "Store") "put" (sp_Store_put K) [] E0 (tVar 0) (tCons (tVar 1) (tCons (tC (.str "")) tNil))))
    (tSeq (tIfS (tTest (tOp (rNeD K) (tCall (sp_law_told K) [] E0 (tCons (tVar 0) (tCons (tVar 1) (tCons (tC (.str "signs=0-")) tNil)))) (tTup (tCons (tC (.bl false)) (tCons (tC (.bl false)) (tCons (tC (.bl true)) tNil)))))) (tRet (tC (.bl false))) tNext)
    (tSeq (tDrop (tMeth (He.ga K "Store") "drop" (sp_Store_drop K) [] E0 (tVar 0) (tCons (tVar 1) tNil)))
    (tSeq (tAsg (tTup (tCons (tC (.bl false)) (tCons (tC (.bl true)) (tCons (tC (.bl false)) tNil)))) (gName 2))
    (tRet (tAndV (tOp (rEqD K) (tCall (sp_law_told K) [] E0 (tCons (tVar 0) (tCons (tVar 1) (tCons (tC (.str "signs=0-")) tNil)))) (tVar 2)) (tOp (rEqD K) (tCall (sp_law_told K) [] E0 (tCons (tVar 0) (tCons (tVar 1) (tCons (tC (.str "x")) tNil)))) (tVar 2))))))))
theorem pure_law_ends {K : PySem.W.Frag}  {vs : List V} {H : Hp} {Q : VK} {E : XK} (h : sp_law_ends K vs H Q E) : t_law_ends K E { nx := fun _ H' => Q .non H', rt := Q } (start ["store", "key", "gone"] vs) H := by
  obtain ⟨B, a, L, S, key, c, v, t, r, rfl, eb, hA, X, hc, hu, htot, hkl, kk⟩ := h
  have hi := k1_inj key
  have hl0 : ("" : Str).length = 0 := rfl
  have l8 : ("signs=0-" : Str).length = 8 := by decide +kernel
  have lx : ("x" : Str).length = 1 := by decide +kernel
  refine q_dropV ?_
  refine run_Store_put (B := B) (key := key) (data := "") (evf_var rfl) (evd_varS rfl) evd_cs eb hA (X.stb (fun _ => hkl) hu (by omega)) (by omega) (RetCX.of (X.putOk hi (by rw [hl0]; omega)) fun w1 H1 B1 L1 o1 f1 x1 eb1 hA1 _ => ?_)
  have X1 := X.put hi () (x := "") (by omega)
  have hu1 : UpB (S.put key "").up := hu
  replace X1 : Xw (k1 key) (c + 1) (S.put key "") 100000 t (v + 1) _ [] := X1
  generalize S.put key "" = S1 at hA1 X1 hu1
  have hB1 := X1.stb (fun _ => hkl) hu1 (by omega)
  have hg1 : getR S1.sh key = .ok (.str "") := X1.getOk hi () (w := v + 1) (d := t) (x := "") (s := some (sumT "")) (by rw [rws_put]; simp)
  have hr1 : rangeR S1.sh key "signs=0-" = .no "NoRange" := by
    rw [range_f (a := 0) hg1 tl0 (Nat.zero_le _) (by rw [hl0]; decide)]; rfl
  refine q_pass (B := B1) (EvB.is (evb_test (evd_neD (d1 := .tuple [.bool false, .bool false, .bool true]) (EvD.is (cev_law_told (x := "signs=0-") (evf_var rfl) (evd_varS rfl) evd_cs hA1 hB1 (by omega)) (by rw [hr1]; rfl)) (evd_tup (evs_cons evd_ck (evs_cons evd_ck (evs_cons evd_ck evs_nil)))) rfl rfl)) rfl) eb1 fun H2 e2 eb2 => ?_
  refine q_dropV ?_
  refine run_Store_drop (B := B1) (key := key) (evf_var rfl) (evd_varS rfl) eb2 (hA1.grow e2 (Ext.refl _ _)) hB1 (RetCX.of (X1.dropOk hi () (w := v + 1) (d := t) (x := "") (s := some (sumT "")) (by rw [rws_put]; simp)) fun w3 H3 B3 L3 o3 f3 x3 eb3 hA3 _ => ?_)
  have X3 := X1.drop hi ()
  have hu3 : UpB (S1.drop key).up := hu1
  replace X3 : Xw (k1 key) (c + 1 + 1) (S1.drop key) 100000 t (v + 1 + 1) _ [] := X3
  generalize S1.drop key = S3 at hA3 X3 hu3
  have hB3 := X3.stb (fun _ => hkl) hu3 (by omega)
  have hg3 : getR S3.sh key = .no "Gone" := X3.getGone hi () (w := v + 1 + 1) (d := t) (s := none) (by rw [rws_put]; simp)
  refine q_asg (B := B3) (d := .tuple [.bool false, .bool true, .bool false]) (evd_tup (evs_cons evd_ck (evs_cons evd_ck (evs_cons evd_ck evs_nil)))) eb3 fun vg H4 B4 e4 x4 eb4 hvg => ?_
  have hA4 := hA3.grow e4 x4
  have tl_ : ∀ x : Str, told11 (rangeR S3.sh key x) = .tuple [.bool false, .bool true, .bool false] := fun x => by rw [range_get hg3]; rfl
  exact s_ret (B := B4) (d := .bool true) (EvD.is (evd_and (EvD.is (evd_eqD (d1 := .tuple [.bool false, .bool true, .bool false]) (EvD.is (cev_law_told (x := "signs=0-") (evf_var rfl) (evd_varS rfl) evd_cs hA4 hB3 (by omega)) (tl_ _)) (evd_var rfl hvg) rfl rfl) rfl) (fun _ => EvD.is (evd_eqD (d1 := .tuple [.bool false, .bool true, .bool false]) (EvD.is (cev_law_told (x := "x") (evf_var rfl) (evd_varS rfl) evd_cs hA4 hB3 (by omega)) (tl_ _)) (evd_var rfl hvg) rfl rfl) rfl)) rfl) eb4 (retTrue kk)
theorem run_law_ends {K : PySem.W.Frag} {σ : Sig} {B H : Hp} {ta tb : TE} {E : XK} {Q : VK} {a : Addr} {L : List Addr} {S : StS} {key : Str} {c : Nat} {v t : Int} {r : List (Unit × List Row)} (ho : EvF ta σ H (.ref a)) (hk : EvD tb σ B H (.str key)) (eb : Ex B H) (hA : StAt K a S L B H) (X : Xw (k1 key) c S 100000 t v r []) (hc : c < 60) (hu : UpB S.up) (ht : totX r + totalU S.up ≤ 100000) (hkl : key.length ≤ 1000) (q : ∀ H', Q (.bl true) H') : tCall (sp_law_ends K) [] E (tCons ta (tCons tb tNil)) σ H Q := run_call1 (B := B) ho (evs_cons hk evs_nil) eb fun H2 B2 vs e2 x2 eb2 hd => by
  obtain ⟨w, rfl, hw⟩ := dpa1 hd
  cases hw
  exact ⟨B2, a, L, S, key, c, v, t, r, rfl, eb2, hA.grow e2 x2, X, hc, hu, ht, hkl, q⟩
theorem tot_one {l : List Row} : totX [((), l)] = (lensOf l).sum := by
  show (lensOf l).sum + 0 = _
  omega
theorem numT_i {n : Nat} : (toString ((n : Nat) : Int) : String) = (toString ((n : Nat) : Int) : String) := rfl
theorem SrcD.is {wi : TI} {σ : Sig} {B H : Hp} {ds es : List PyData} (h : SrcD wi σ B H ds) (e : ds = es) : SrcD wi σ B H es := e ▸ h
theorem range_at1 {n i : Nat} {d : PyData} (h : (rangeD 1 n)[i]? = some d) : i < n ∧ d = .int (1 + (i : Int)) := by
  unfold rangeD at h
  rw [List.getElem?_map] at h
  obtain ⟨a, ha, rfl⟩ := Option.map_eq_some_iff.mp h
  obtain ⟨h1, h2⟩ := List.getElem?_eq_some_iff.mp ha
  rw [List.length_range] at h1
  rw [List.getElem_range] at h2
  subst h2
  exact ⟨h1, rfl⟩
def t_thelaw (K : PySem.W.Frag) (E : XK) : TS :=
  (tSeq (tAsg (tMake (He.ga K "Store") (sp_Store_init K) [] E0 (tCons (tC (.int 100000)) tNil)) (gName 1))
    (tSeq (tAsg (tCall (sp_law_key K) [] E0 (tCons (tCall (sp_law_cell K) [] E0 (tCons (tVar 0) (tCons (tC (.int 0)) tNil))) tNil)) (gName 2))
    (tSeq (tIfS (tOr (tTest (tOp (rNeD K) (tCall (sp_law_told K) [] E0 (tCons (tVar 1) (tCons (tVar 2) (tCons (tC (.str "signs=0-")) tNil)))) (tTup (tCons (tC (.bl true)) (tCons (tC (.bl false)) (tCons (tC (.bl false)) tNil)))))) (tTest (tOp (rNeD K) (tCall (sp_law_told K) [] E0 (tCons (tVar 1) (tCons (tVar 2) (tCons (tC (.str "no")) tNil)))) (tTup (tCons (tC (.bl true)) (tCons (tC (.bl false)) (tCons (tC (.bl false)) tNil))))))) (tRet (tC (.bl false))) tNext)
    (tSeq (tDrop (tMeth (He.ga K "Store") "put" (sp_Store_put K) [] E0 (tVar 1) (tCons (tVar 2) (tCons (tOp rMulStr (tC (.str "abc")) (tC (.int 30))) tNil))))
    (tSeq (tAsg (tOp rAddStr (tCall (sp_law_data K) [] E0 (tCons (tCall (sp_law_cell K) [] E0 (tCons (tVar 0) (tCons (tC (.int 1)) tNil))) tNil)) (tC (.str "x"))) (gName 3))
    (tSeq (tAsg (tSl rSlS (tVar 3) tNoPart (tPart (tC (.int 99)))) (gName 3))
    (tSeq (tIfS (tTest (tOp rEq (tOp (rI (fun _ j => 0 < j) fun i j => .int (i % j)) (tCall (sp_law_cell K) [] E0 (tCons (tVar 0) (tCons (tC (.int 2)) tNil))) (tC (.int 2))) (tC (.int 0)))) (tDrop (tMeth (He.ga K "Store") "put" (sp_Store_put K) [] E0 (tVar 1) (tCons (tVar 2) (tCons (tVar 3) tNil)))) (tSeq (tAsg (tMeth (He.ga K "Store") "begin" (sp_Store_begin K) [] E0 (tVar 1) (tCons (tVar 2) tNil)) (gName 4))
    (tSeq (tAsg (tCall (sp_law_data K) [] E0 (tCons (tCall (sp_law_cell K) [] E0 (tCons (tVar 0) (tCons (tC (.int 3)) tNil))) tNil)) (gName 5))
    (tSeq (tAsg (tTup (tCons (tTup (tCons (tC (.int 2)) (tCons (tMeth (He.ga K "Store") "send" (sp_Store_send K) [] E0 (tVar 1) (tCons (tVar 4) (tCons (tC (.int 2)) (tCons (tOp rAddStr (tVar 3) (tSl rSlS (tC (.str "12345")) (tPart (tCB rLenStr (tCons (tVar 3) tNil))) tNoPart)) tNil)))) tNil))) (tCons (tTup (tCons (tC (.int 9)) (tCons (tMeth (He.ga K "Store") "send" (sp_Store_send K) [] E0 (tVar 1) (tCons (tVar 4) (tCons (tC (.int 9)) (tCons (tVar 5) tNil)))) tNil))) tNil))) (gName 6))
    (tSeq (tAsg (tOp rAddStr (tOp rAddStr (tVar 3) (tSl rSlS (tC (.str "12345")) (tPart (tCB rLenStr (tCons (tVar 3) tNil))) tNoPart)) (tVar 5)) (gName 3))
    (tDrop (tMeth (He.ga K "Store") "finish" (sp_Store_finish K) [] E0 (tVar 1) (tCons (tVar 4) (tCons (tVar 6) tNil)))))))))
    (tSeq (tAsg (tCB rLenStr (tCons (tVar 3) tNil)) (gName 7))
    (tSeq (tAsg (tSortSetI K (tOp rCat (tLst (tCons (tC (.int 0)) (tCons (tVar 7) tNil))) (tLc (iRng1 (tCons (tC (.int 5)) tNil)) (gName 10) tYes (tCall (sp_law_mix K) [] E0 (tCons (tOp (rI0 fun i j => .int (i + j)) (tCall (sp_law_cell K) [] E0 (tCons (tVar 0) (tCons (tOp (rI0 fun i j => .int (i + j)) (tC (.int 4)) (tVar 10)) tNil))) (tVar 10)) (tCons (tC (.int 9811)) (tCons (tOp (rI0 fun i j => .int (i + j)) (tVar 7) (tC (.int 1))) tNil)))) [10]))) (gName 8))
    (tSeq (tAsg (tC (.str "")) (gName 9))
    (tSeq (tFor (iRng2 (tCons (tC (.int 1)) (tCons (tCB (rLenSeq K) (tCons (tVar 8) tNil)) tNil))) (gName 10) (tSeq (tAsg (tCall (sp_law_told K) [] E0 (tCons (tVar 1) (tCons (tVar 2) (tCons (tOp rAddStr (tOp rAddStr (tOp rAddStr (tC (.str "signs=")) (tCB rStrInt (tCons (tOp (rIxL K) (tVar 8) (tOp (rI0 fun i j => .int (i - j)) (tVar 10) (tC (.int 1)))) tNil))) (tC (.str "-"))) (tCB rStrInt (tCons (tOp (rI0 fun i j => .int (i - j)) (tOp (rIxL K) (tVar 8) (tVar 10)) (tC (.int 1))) tNil))) tNil)))) (gName 11))
    (tSeq (tIfS (tNot (tB (tCall (sp_law_same 5 K) [] E0 (tCons (tVar 11) (tCons (tSl rSlS (tVar 3) (tPart (tOp (rIxL K) (tVar 8) (tOp (rI0 fun i j => .int (i - j)) (tVar 10) (tC (.int 1))))) (tPart (tOp (rIxL K) (tVar 8) (tVar 10)))) tNil))))) (tRet (tC (.bl false))) tNext)
    (tAsg (tOp rAddStr (tVar 9) (tVar 11)) (gName 9)))))
    (tSeq (tIfS (tOr (tTest (tOp rNe (tVar 9) (tVar 3))) (tNot (tB (tCB (rAll K) (tCons (tLc (iList K (tVar 8)) (gName 12) tYes (tCall (sp_law_tails K) [] E0 (tCons (tVar 1) (tCons (tVar 2) (tCons (tVar 3) (tCons (tVar 12) tNil))))) [12]) tNil))))) (tRet (tC (.bl false))) tNext)
    (tSeq (tIfS (tNot (tB (tCall (sp_law_same 5 K) [] E0 (tCons (tCall (sp_law_told K) [] E0 (tCons (tVar 1) (tCons (tVar 2) (tCons (tOp rAddStr (tC (.str "signs=-")) (tCB rStrInt (tCons (tOp (rI0 fun i j => .int (i + j)) (tVar 7) (tC (.int 9))) tNil))) tNil)))) (tCons (tVar 3) tNil))))) (tRet (tC (.bl false))) tNext)
    (tRet (tCall (sp_law_ends K) [] E0 (tCons (tVar 1) (tCons (tVar 2) tNil)))))))))))))))))
theorem pure_thelaw {K : PySem.W.Frag} (cf_Store : CfS K) {vs : List V} {H : Hp} {Q : VK} {E : XK} (h : sp_thelaw K vs H Q E) : t_thelaw K E { nx := fun _ H' => Q .non H', rt := Q } (start ["script", "store", "key", "text", "upload", "more", "rows", "size", "cuts", "whole", "k", "found", "cut"] vs) H := by
  obtain ⟨a0, ns, rfl, hS0, hl, kk⟩ := h
  have l1 := l1
  have l6 := l6
  have l8 : ("signs=0-" : Str).length = 8 := by decide +kernel
  have lno : ("no" : Str).length = 2 := by decide +kernel
  have lx : ("x" : Str).length = 1 := by decide +kernel
  have l5 : ("12345" : Str).length = 5 := by decide +kernel
  have l3 : ("abc" : Str).length = 3 := by decide +kernel
  have l7 : ("signs=-" : Str).length = 7 := by decide +kernel
  refine q_asgV ?_
  refine mk_Store (B := H) (m := 100000) cf_Store evd_ci (Ex.refl _) fun a H2 B2 L2 e2 f2 x2 eb2 hA2 => ?_
  have hSB2 : SqL K B2 a0 (ns.map V.int) := ex_l x2.1 hS0
  have hS2 := ex_l eb2 hSB2
  refine q_asgS (B := B2) (cev_law_key (cev_law_cell (evf_var rfl) evd_ci)) eb2 fun H3 e3 eb3 => ?_
  have hkey := lawKey_len (cellN ns 0)
  generalize lawKey (cellN ns 0) = key at hkey
  have hkl : key.length ≤ 1000 := by omega
  have hi := k1_inj key
  have hA3 := hA2.grow e3 (Ext.refl _ _)
  have hB0 : StB (StS.new 100000) := (Bn.new 100000).stb Ub.nil
  have hr0 : ∀ x, told11 (rangeR (StS.new 100000).sh key x) = .tuple [.bool true, .bool false, .bool false] := fun x => by rw [range_get (c := "NoKey") rfl]; rfl
  refine at_sig (σ' := [some (.ref a0), some (.ref a), some (.str key), none, none, none, none, none, none, none, none, none, none]) rfl ?_
  refine q_or_go (B := B2) (EvB.is (evb_test (evd_neD (d1 := .tuple [.bool true, .bool false, .bool false]) (EvD.is (cev_law_told (x := "signs=0-") (evf_var rfl) (evd_varS rfl) evd_cs hA3 hB0 (by omega)) (hr0 _)) (evd_tup (evs_cons evd_ck (evs_cons evd_ck (evs_cons evd_ck evs_nil)))) rfl rfl)) rfl) eb3 fun H4 e4 eb4 => ?_
  have hA4 := hA3.grow e4 (Ext.refl _ _)
  refine q_pass (B := B2) (EvB.is (evb_test (evd_neD (d1 := .tuple [.bool true, .bool false, .bool false]) (EvD.is (cev_law_told (x := "no") (evf_var rfl) (evd_varS rfl) evd_cs hA4 hB0 (by omega)) (hr0 _)) (evd_tup (evs_cons evd_ck (evs_cons evd_ck (evs_cons evd_ck evs_nil)))) rfl rfl)) rfl) eb4 fun H5 e5 eb5 => ?_
  have hA5 := hA4.grow e5 (Ext.refl _ _)
  have mabc : MulOk "abc" 30 := mul_ok (by decide) (by decide) (by omega)
  have labc : (Txt.mul "abc" 30).length = 90 := by rw [mul_len (by decide), l3]; rfl
  have X0 := Xw.new (k1 key) 100000
  refine q_dropV ?_
  refine run_Store_put (B := B2) (key := key) (data := Txt.mul "abc" 30) (evf_var rfl) (evd_varS rfl) (evd_mulS evd_cs evd_ci) eb5 hA5 hB0 (by omega) (RetCX.of (X0.putOk hi (by rw [labc]; show (0 : Int) + 0 + _ ≤ _; omega)) fun w6 H6 B6 L6 o6 f6 x6 eb6 hA6 _ => ?_)
  have X1 := X0.put hi () (x := Txt.mul "abc" 30) (by omega)
  generalize Txt.mul "abc" 30 = abc at X1 hA6 labc
  replace X1 : Xw (k1 key) 1 ((StS.new 100000).put key abc) 100000 0 1 [((), [⟨1, 0, some abc, some (sumT abc)⟩])] [] := X1
  have hup1 : ((StS.new 100000).put key abc).up = UpS.nil := rfl
  generalize (StS.new 100000).put key abc = S1 at hA6 X1 hup1
  have hB1 := X1.stb (fun _ => hkl) (by rw [hup1]; exact up0) (by omega)
  have htx1 : totX [((), [(⟨1, 0, some abc, some (sumT abc)⟩ : Row)])] = 90 := by
    rw [tot_one]
    show (abc.length : Int) + 0 = 90
    omega
  have hSB6 : SqL K B6 a0 (ns.map V.int) := ex_l x6.1 hSB2
  have hS6 := ex_l eb6 hSB6
  have hdl := lawData_len (cellN ns 1)
  refine q_asgS (B := B6) (x := lawData (cellN ns 1) ++ "x") (evd_addS (cev_law_data (cev_law_cell (evf_var rfl) evd_ci)) evd_cs (by omega)) eb6 fun H7 e7 eb7 => ?_
  have htl0 : (lawData (cellN ns 1) ++ ("x" : Str)).length = (lawData (cellN ns 1)).length + 1 := by rw [app_len]; omega
  refine q_asgS (B := B6) (x := cutS (lawData (cellN ns 1) ++ "x") none (some 99)) (evd_slS (evd_varS rfl) evo_none (evo_some evd_ci) (by omega)) eb7 fun H8 e8 eb8 => ?_
  have htl : 1 ≤ (cutS (lawData (cellN ns 1) ++ "x") none (some 99)).length ∧ (cutS (lawData (cellN ns 1) ++ "x") none (some 99)).length ≤ 99 := by
    have h1 := cut_to (lawData (cellN ns 1) ++ ("x" : Str)) 99
    have h2 : (cutS (lawData (cellN ns 1) ++ "x") none (some 99)).length = min 99 ((lawData (cellN ns 1)).length + 1) := by
      rw [len_tl]
      have h1' : tl (cutS (lawData (cellN ns 1) ++ "x") none (some 99)) = (tl (lawData (cellN ns 1) ++ "x")).take 99 := h1
      rw [h1', List.length_take, ← len_tl, htl0]
    omega
  generalize cutS (lawData (cellN ns 1) ++ "x") none (some 99) = text0 at htl
  clear htl0 hdl
  refine at_sig (σ' := [some (.ref a0), some (.ref a), some (.str key), some (.str text0), none, none, none, none, none, none, none, none, none]) rfl ?_
  have hA8 := hA6.grow (e7.trans e8) (Ext.refl _ _)
  have hS8 := ex_l eb8 hSB6
  refine q_join (fun σ H => ∃ (text s : Str) (z4 z5 z6 : Option V) (S : StS) (L : List Addr) (B : Hp), σ = [some (.ref a0), some (.ref a), some (.str key), some (.str text), z4, z5, z6, none, none, none, none, none, none] ∧ 1 ≤ text.length ∧ text.length ≤ 300 ∧ Xw (k1 key) 2 S 100000 0 2 [((), [⟨1, 0, some abc, some (sumT abc)⟩, ⟨2, 0, some text, some s⟩])] [] ∧ UpB S.up ∧ totalU S.up = 0 ∧ StAt K a S L B H ∧ Ex B H ∧ SqL K B a0 (ns.map V.int)) (fun D' rt hnx => ?_) ?_
  · refine s_if (B := B6) (evb_test (evd_eqI (evd_mod (cev_law_cell (evf_var rfl) evd_ci) evd_ci) evd_ci)) eb8 (fun hb H9 e9 eb9 => ?_) fun hb H9 e9 eb9 => ?_
    · refine s_dropV ?_
      refine run_Store_put (B := B6) (key := key) (data := text0) (evf_var rfl) (evd_varS rfl) (evd_varS rfl) eb9 (hA8.grow e9 (Ext.refl _ _)) hB1 (by omega) (RetCX.of (X1.putOk hi (by rw [htx1, hup1]; show (90 : Int) + 0 + _ ≤ _; omega)) fun w10 H10 B10 L10 o10 f10 x10 eb10 hA10 _ => ?_)
      have X2 := X1.put hi () (x := text0) (by omega)
      exact hnx _ _ ⟨text0, sumT text0, none, none, none, _, L10, B10, rfl, htl.1, by omega, X2, by rw [show (S1.put key text0).up = UpS.nil from hup1]; exact up0, by rw [show (S1.put key text0).up = UpS.nil from hup1]; rfl, hA10, eb10, ex_l x10.1 hSB6⟩
    · have hA9 := hA8.grow e9 (Ext.refl _ _)
      refine q_asgV ?_
      refine run_Store_begin (B := B6) (key := key) (evf_var rfl) (evd_varS rfl) eb9 hA9 hB1 fun w10 H10 B10 L10 o10 f10 x10 eb10 hA10 hw10 => ?_
      rw [hup1] at hw10
      cases hw10
      have Y1 : S1.begin key = { S1 with up := ⟨1, [(1, (key, 0))], [(1, [])]⟩ } := by
        unfold StS.begin
        rw [hup1, X1.et]; rfl
      rw [Y1] at hA10
      have hY1 : UpB ⟨1, [(1, (key, 0))], [(1, [])]⟩ := (Ub.nil.begin key 0).upb' (by decide)
      have hSB10 : SqL K B10 a0 (ns.map V.int) := ex_l x10.1 hSB6
      have hS10 := ex_l eb10 hSB10
      have hml := lawData_len (cellN ns 3)
      refine q_asgS (B := B10) (cev_law_data (cev_law_cell (evf_var rfl) evd_ci)) eb10 fun H11 e11 eb11 => ?_
      generalize lawData (cellN ns 3) = more at hml
      have hpl : (cutS "12345" (some (text0.length : Int)) none).length = 5 - text0.length := by
        rw [len_tl, cut_from _ _ (by omega), List.length_drop, ← len_tl, l5, Int.toNat_natCast]
      have hA11 := hA10.grow e11 (Ext.refl _ _)
      refine at_sig (σ' := [some (.ref a0), some (.ref a), some (.str key), some (.str text0), some (.int 1), some (.str more), none, none, none, none, none, none, none]) rfl ?_
      have evp : ∀ {σ : Sig} {B1 H1 : Hp}, σ[3]? = some (some (.str text0)) → EvD (tOp rAddStr (tVar 3) (tSl rSlS (tC (.str "12345")) (tPart (tCB rLenStr (tCons (tVar 3) tNil))) tNoPart)) σ B1 H1 (.str (text0 ++ cutS "12345" (some (text0.length : Int)) none)) := fun h => evd_addS (evd_varS h) (evd_slS evd_cs (evo_some (evd_lenS (evd_varS h) (by omega))) evo_none (by omega)) (by omega)
      have hp2 : (text0 ++ cutS "12345" (some (text0.length : Int)) none).length = text0.length + (5 - text0.length) := by rw [app_len, hpl]
      generalize text0 ++ cutS "12345" (some (text0.length : Int)) none = part at evp hp2
      have hsz : ∀ m : Parts, sizeS { S1 with up := ⟨1, [(1, (key, 0))], [(1, m)]⟩ } = 90 + ((lensP m).sum + 0) := fun m => by
        show totalS S1.sh + ((lensP m).sum + 0) = _
        rw [X1.total hi, htx1]
      have hsend : ∀ (m : Parts) (n : Int) (x : Str), 1 ≤ n ∧ n ≤ 99 → (lensP m).sum + (x.length : Int) ≤ 1000 → sendR { S1 with up := ⟨1, [(1, (key, 0))], [(1, m)]⟩ } 1 n x = .ok (.str (sumT x)) := fun m n x hn hf => by
        unfold sendR
        rw [if_pos (show isOpen ({ S1 with up := ⟨1, [(1, (key, 0))], [(1, m)]⟩ } : StS).up 1 = true from rfl), if_pos hn]
        unfold fitR fits
        rw [hsz, if_pos]
        rw [Bool.not_eq_true', decide_eq_false_iff_not]
        have he : ({ S1 with up := ⟨1, [(1, (key, 0))], [(1, m)]⟩ } : StS).most = 100000 := X1.em
        rw [he]
        have hz : ∀ z : Int, 0 ≤ z → ¬ (100000 : Int) < 90 + ((lensP m).sum + 0) + ((x.length : Nat) - z) := by intro z hz; omega
        exact hz _ (by unfold sizeOf; omega)
      have hup : ∀ m : Parts, m.length < 63 → (∀ p ∈ m, p.2.length ≤ 5000) → UpB ⟨1, [(1, (key, 0))], [(1, m)]⟩ := fun m h1 h2 => by
        refine ⟨rfl, by show [(1 : Int)].Nodup; decide, fun p hp => ?_, by show 1 < 63; decide, fun p hp => ?_, fun p hp q hq => ?_⟩
        · rw [List.mem_singleton.mp hp]; show (1 : Int) ≤ 1; decide
        · rw [List.mem_singleton.mp hp]; exact h1
        · rw [List.mem_singleton.mp hp] at hq; exact h2 q hq
      have hstb : ∀ m : Parts, m.length < 63 → (∀ p ∈ m, p.2.length ≤ 5000) → StB { S1 with up := ⟨1, [(1, (key, 0))], [(1, m)]⟩ } := fun m h1 h2 => (X1.ofUp ⟨1, [(1, (key, 0))], [(1, m)]⟩).stb (fun _ => hkl) (hup m h1 h2) (by omega)
      refine q_asgV ?_
      refine v_tup2 ?_
      refine v_tup2 ?_
      refine run_Store_send (B := B10) (upload := 1) (number := 2) (data := part) (evf_var rfl) (evd_varI rfl) evd_ci (evp rfl) eb11 hA11 (hstb [] (by decide) (fun p hp => by cases hp)) (by omega) (RetCX.of (hsend [] 2 part (by decide) (by show (0 : Int) + _ ≤ _; omega)) fun w12 H12 B12 L12 o12 f12 x12 eb12 hA12 hw12 => ?_)
      refine tup2_end (d1 := .int 2) eb12 (.int 2) hw12 fun vt1 H13 B13 e13 x13 eb13 hvt1 => ?_
      replace hA12 : StAt K a { S1 with up := ⟨1, [(1, (key, 0))], [(1, [(2, part)])]⟩ } L12 B12 H12 := hA12
      have hA13 := hA12.grow e13 x13
      have hm1 : ∀ p ∈ ([(2, part)] : Parts), p.2.length ≤ 5000 := fun p hp => by rw [List.mem_singleton.mp hp]; show part.length ≤ 5000; omega
      refine v_tup2 ?_
      refine run_Store_send (B := B13) (upload := 1) (number := 9) (data := more) (evf_var rfl) (evd_varI rfl) evd_ci (evd_varS rfl) eb13 hA13 (hstb [(2, part)] (by show 1 < 63; decide) hm1) (by omega) (RetCX.of (hsend [(2, part)] 9 more (by decide) (by show ((part.length : Int) + 0) + _ ≤ _; omega)) fun w14 H14 B14 L14 o14 f14 x14 eb14 hA14 hw14 => ?_)
      refine tup2_end (d1 := .int 9) eb14 (.int 9) hw14 fun vt2 H15 B15 e15 x15 eb15 hvt2 => ?_
      refine tup2_end eb15 ((hvt1.ex' x14.1).ex' x15.1) hvt2 fun vr H16 B16 e16 x16 eb16 hvr => ?_
      replace hA14 : StAt K a { S1 with up := ⟨1, [(1, (key, 0))], [(1, [(2, part), (9, more)])]⟩ } L14 B14 H14 := hA14
      have hA16 := (hA14.grow e15 x15).grow e16 x16
      refine q_asgS (B := B16) (x := part ++ more) (evd_addS (evp rfl) (evd_varS rfl) (by omega)) eb16 fun H17 e17 eb17 => ?_
      have hA17 := hA16.grow e17 (Ext.refl _ _)
      have hm2 : ∀ p ∈ ([(2, part), (9, more)] : Parts), p.2.length ≤ 5000 := fun p hp => by
        simp only [List.mem_cons, List.not_mem_nil, or_false] at hp
        rcases hp with rfl | rfl
        · show part.length ≤ 5000; omega
        · show more.length ≤ 5000; omega
      have hj : joint ({ S1 with up := ⟨1, [(1, (key, 0))], [(1, [(2, part), (9, more)])]⟩ } : StS).up 1 [(2, sumT part), (9, sumT more)] = .ok key (Txt.join "" [part, more]) (sumsT [sumT part, sumT more]) := joint_ok (day := 0) (num := fun k => if k = 0 then 2 else 9) (dat := fun k => if k = 0 then part else more) (sub := [0, 1]) rfl (by simp) (by
        show [(2 : Int), 9].Pairwise (· < ·)
        simp) (fun k hk => by
        simp only [List.mem_cons, List.not_mem_nil, or_false] at hk
        rcases hk with rfl | rfl
        · rfl
        · rfl) (fun k hk => by
        rw [List.mem_singleton.mp (show k ∈ [(0 : Int)] from hk)]
        show 5 ≤ part.length
        omega)
      have hje : Txt.join "" [part, more] = part ++ more := by
        apply str_ext
        rw [tl_join_nil, tl_app]
        show tl part ++ (tl more ++ []) = _
        rw [List.append_nil]
      rw [hje] at hj
      refine s_dropV ?_
      refine run_Store_finish (B := B16) (upload := 1) (rows := [(2, sumT part), (9, sumT more)]) (evf_var rfl) (evd_varI rfl) (evd_var rfl hvr) eb17 hA17 (hstb _ (by show 2 < 63; decide) hm2) (by show 2 ≤ 1000; decide) (RetCX.of (d := .int (S1.lastv + 1)) (by unfold finishR; rw [hj]) fun w18 H18 B18 L18 o18 f18 x18 eb18 hA18 _ => ?_)
      have hfin : ({ S1 with up := ⟨1, [(1, (key, 0))], [(1, [(2, part), (9, more)])]⟩ } : StS).finish 1 [(2, sumT part), (9, sumT more)] = ({ S1 with up := ⟨1, [], []⟩ } : StS).come key (some (part ++ more)) (some (sumsT [sumT part, sumT more])) := by
        unfold StS.finish
        rw [hj]; rfl
      rw [hfin] at hA18
      have X2 := (X1.ofUp ⟨1, [], []⟩).come hi () (d := some (part ++ more)) (s := some (sumsT [sumT part, sumT more])) ⟨rfl, fun y hy => by cases hy; rw [app_len]; omega⟩
      exact hnx _ _ ⟨part ++ more, sumsT [sumT part, sumT more], _, _, _, _, L18, B18, rfl, by rw [app_len]; omega, by rw [app_len]; omega, X2, ⟨rfl, .nil, (fun p hp => by cases hp), by show 0 < 63; decide, (fun p hp => by cases hp), (fun p hp => by cases hp)⟩, rfl, hA18, eb18, ex_l ((((x12.1.trans x13.1).trans x14.1).trans x15.1).trans (x16.1.trans x18.1)) hSB10⟩
  clear hA8 hS8 hA6 X1 hB1 htl
  rintro σ1 H9 ⟨text, s, z4, z5, z6, S, L9, B9, rfl, ht1, ht2, X, hu, htu, hA9, eb9, hSB9⟩
  have hB := X.stb (fun _ => hkl) hu (by omega)
  have hg : getR S.sh key = .ok (.str text) := X.getOk hi () (w := 2) (d := 0) (x := text) (s := some s) rfl
  refine q_asgI (B := B9) (evd_lenS (evd_varS rfl)) eb9 fun H10 e10 eb10 => ?_
  have hS10 := ex_l eb10 hSB9
  have hmr : ∀ k : Nat, 0 ≤ mix (cellN ns (4 + (k : Int)) + (k : Int)) 9811 ((text.length : Int) + 1) ∧ mix (cellN ns (4 + (k : Int)) + (k : Int)) 9811 ((text.length : Int) + 1) < (text.length : Int) + 1 := fun k => mix_rng (by omega)
  refine at_sig (σ' := [some (.ref a0), some (.ref a), some (.str key), some (.str text), z4, z5, z6, some (.int (text.length : Int)), none, none, none, none, none]) rfl ?_
  refine q_asg (B := B9) (d := .list ((setI ([0, (text.length : Int)] ++ (List.range 5).map fun k : Nat => mix (cellN ns (4 + (k : Int)) + (k : Int)) 9811 ((text.length : Int) + 1))).map .int)) (evd_sortSetIL (xs := [0, (text.length : Int)] ++ (List.range 5).map fun k : Nat => mix (cellN ns (4 + (k : Int)) + (k : Int)) 9811 ((text.length : Int) + 1)) (EvD.is (evd_catL (evd_lst (evs_cons evd_ci (evs_cons (evd_varI rfl) evs_nil))) (evd_lcR (n := 5) (fun k : Nat => .int (mix (cellN ns (4 + (k : Int)) + (k : Int)) 9811 ((text.length : Int) + 1))) (evs_cons evd_ci evs_nil) (by decide) (fun _ => rfl) fun i hi2 B' H' eb' eh' e' => ?_) (by rw [List.length_map, List.length_range]; show 2 + 5 ≤ _; decide)) (by rw [List.map_append, List.map_map]; rfl)) (by rw [List.length_append, List.length_map, List.length_range]; show 2 + 5 < 63; decide)) eb10 fun vc H11 B11 e11 x11 eb11 hvc => ?_
  · have hS' := ex_l eh' hS10
    exact cev_law_mix (evd_I0 (g := fun i j => i + j) (cev_law_cell (evf_var rfl) (evd_I0 evd_ci (evd_varI rfl))) (evd_varI rfl)) evd_ci (evd_I0 (g := fun i j => i + j) (evd_varI rfl) evd_ci) (by omega)
  have hmem : ∀ y ∈ setI ([0, (text.length : Int)] ++ (List.range 5).map fun k : Nat => mix (cellN ns (4 + (k : Int)) + (k : Int)) 9811 ((text.length : Int) + 1)), 0 ≤ y ∧ y ≤ (text.length : Int) := fun y hy => by
    rw [setI_mem] at hy
    rcases List.mem_append.mp hy with z | z
    · simp only [List.mem_cons, List.not_mem_nil, or_false] at z
      rcases z with rfl | rfl <;> omega
    · obtain ⟨k, _, rfl⟩ := List.mem_map.mp z
      have := hmr k
      omega
  have h0m : (0 : Int) ∈ setI ([0, (text.length : Int)] ++ (List.range 5).map fun k : Nat => mix (cellN ns (4 + (k : Int)) + (k : Int)) 9811 ((text.length : Int) + 1)) := setI_mem.mpr (by simp)
  have hnm : (text.length : Int) ∈ setI ([0, (text.length : Int)] ++ (List.range 5).map fun k : Nat => mix (cellN ns (4 + (k : Int)) + (k : Int)) 9811 ((text.length : Int) + 1)) := setI_mem.mpr (by simp)
  have hsrt := setI_sort ([0, (text.length : Int)] ++ (List.range 5).map fun k : Nat => mix (cellN ns (4 + (k : Int)) + (k : Int)) 9811 ((text.length : Int) + 1))
  have hlen : (setI ([0, (text.length : Int)] ++ (List.range 5).map fun k : Nat => mix (cellN ns (4 + (k : Int)) + (k : Int)) 9811 ((text.length : Int) + 1))).length ≤ 7 := by
    have := setI_len ([0, (text.length : Int)] ++ (List.range 5).map fun k : Nat => mix (cellN ns (4 + (k : Int)) + (k : Int)) 9811 ((text.length : Int) + 1))
    rw [List.length_append, List.length_map, List.length_range] at this
    exact this
  generalize setI ([0, (text.length : Int)] ++ (List.range 5).map fun k : Nat => mix (cellN ns (4 + (k : Int)) + (k : Int)) 9811 ((text.length : Int) + 1) ) = C at hvc hmem h0m hnm hsrt hlen
  have hC0 := first_of hsrt h0m (fun y hy => (hmem y hy).1)
  have hCn := last_of hsrt hnm (fun y hy => (hmem y hy).2)
  have hCl : 0 < C.length := List.length_pos_of_mem h0m
  have hA11 := (hA9.grow e10 (Ext.refl _ _)).grow e11 x11
  refine q_asgS (B := B11) (x := "") evd_cs eb11 fun H12 e12 eb12 => ?_
  refine at_sig (σ' := [some (.ref a0), some (.ref a), some (.str key), some (.str text), z4, z5, z6, some (.int (text.length : Int)), some vc, some (.str ""), none, none, none]) rfl ?_
  have hA12 := hA11.grow e12 (Ext.refl _ _)
  refine q_forS (B := B11) (ds := rangeD 1 (C.length - 1)) (SrcD.is (src_range2 (m := 1) (n := (C.length : Int)) (evs_cons evd_ci (evs_cons (EvD.is (evd_lenL (evd_var rfl hvc)) (by rw [List.length_map])) evs_nil)) (by omega)) (by congr 1; omega)) eb12 L9
    (fun i σ1 L B H => ∃ (w : Str) (z10 z11 : Option V), σ1 = [some (.ref a0), some (.ref a), some (.str key), some (.str text), z4, z5, z6, some (.int (text.length : Int)), some vc, some (.str w), z10, z11, none] ∧ tl w = (tl text).take (C.getD i 0).toNat ∧ StAt K a S L B H)
    (fun i σ L B H B' H' ⟨w, z10, z11, h1, h2, h3⟩ e x => ⟨w, z10, z11, h1, h2, h3.grow e x⟩) ⟨"", none, none, rfl, by rw [List.getD_eq_getElem?_getD, hC0]; rfl, hA12⟩ ?_ ?_
  · rintro i d x σ1 H13 B13 L13 hd x13 o13 f13 eb13 ⟨w, z10, z11, rfl, hw, hA13⟩ hx D' rt _ _ k
    obtain ⟨hi1, rfl⟩ := range_at1 hd
    cases hx
    refine g_name ?_
    refine at_sig (σ' := [some (.ref a0), some (.ref a), some (.str key), some (.str text), z4, z5, z6, some (.int (text.length : Int)), some vc, some (.str w), some (.int (1 + (i : Int))), z11, none]) rfl ?_
    have hi2 : i + 1 < C.length := by omega
    have hi3 : i < C.length := by omega
    obtain ⟨p, hp⟩ : ∃ p : Nat, C[i] = (p : Int) := ⟨C[i].toNat, by have := hmem _ (List.getElem_mem hi3); omega⟩
    obtain ⟨q, hq⟩ : ∃ q : Nat, C[i + 1] = (q : Int) := ⟨C[i + 1].toNat, by have := hmem _ (List.getElem_mem hi2); omega⟩
    have hpq : (p : Int) < (q : Int) := by
      have := (List.pairwise_iff_getElem.mp hsrt) i (i + 1) hi3 hi2 (by omega)
      rwa [hp, hq] at this
    have hqn : (q : Int) ≤ (text.length : Int) := by
      have := (hmem _ (List.getElem_mem hi2)).2
      rwa [hq] at this
    have hCi : C[i]? = some (p : Int) := by rw [List.getElem?_eq_getElem hi3, hp]
    have hCj : C[i + 1]? = some (q : Int) := by rw [List.getElem?_eq_getElem hi2, hq]
    have hvc13 := hvc.ex' x13.1
    have ea : ∀ {B1 H1 : Hp}, Ex B13 B1 → EvD (tOp (rIxL K) (tVar 8) (tOp (rI0 fun i j => .int (i - j)) (tVar 10) (tC (.int 1)))) [some (.ref a0), some (.ref a), some (.str key), some (.str text), z4, z5, z6, some (.int (text.length : Int)), some vc, some (.str w), some (.int (1 + (i : Int))), z11, none] B1 H1 (.int (p : Int)) := fun e => evd_ixL (i := 1 + (i : Int) - 1) (evd_var rfl (hvc13.ex' e)) (evd_I0 (g := fun i j => i - j) (evd_varI rfl) evd_ci) (atI_nat' (by omega) (by rw [show (1 + (i : Int) - 1).toNat = i by omega, List.getElem?_map, hCi]; rfl))
    have eq_ : ∀ {z : Option V} {B1 H1 : Hp}, Ex B13 B1 → EvD (tOp (rIxL K) (tVar 8) (tVar 10)) [some (.ref a0), some (.ref a), some (.str key), some (.str text), z4, z5, z6, some (.int (text.length : Int)), some vc, some (.str w), some (.int (1 + (i : Int))), z, none] B1 H1 (.int (q : Int)) := fun e => evd_ixL (i := 1 + (i : Int)) (evd_var rfl (hvc13.ex' e)) (evd_varI rfl) (atI_nat' (by omega) (by rw [show (1 + (i : Int)).toNat = i + 1 by omega, List.getElem?_map, hCj]; rfl))
    have n1 := numT_len (n := p) (by omega)
    have n2 := numT_len (n := q - 1) (by omega)
    have hd45 : tl ("-" : Str) = [45] := by decide +kernel
    have t1 : ∀ k, tl (numT k) = TL.numL k := fun k => tl_num k
    have hxl : (("signs=" : Str) ++ numT p ++ "-" ++ numT (q - 1)).length ≤ 1000 := by rw [app_len, app_len, app_len]; omega
    have hrng : rangeR S.sh key (("signs=" : Str) ++ numT p ++ "-" ++ numT (q - 1)) = .ok (.str (cutS text (some (p : Int)) (some (q : Int)))) := by
      rw [range_fs (a := p) (b := q - 1) hg (by rw [tl_app, tl_app, tl_app, signs_tl, t1, t1, hd45, List.append_assoc, List.append_assoc]; rfl) (by omega) (by omega) (by omega)]
      congr 3
      congr 1
      omega
    have hcl := cut_len text (some (p : Int)) (some (q : Int))
    refine q_asgS (B := B13) (x := cutS text (some (p : Int)) (some (q : Int))) (EvD.is (cev_law_told (x := ("signs=" : Str) ++ numT p ++ "-" ++ numT (q - 1)) (evf_var rfl) (evd_varS rfl) (evd_addS (evd_addS (evd_addS evd_cs (evd_strI (n := (p : Int)) (ea (Ex.refl _)) (by omega)) (by show _ + (numT p).length ≤ _; omega)) evd_cs (by show (("signs=" : Str) ++ numT p).length + _ ≤ _; rw [app_len]; omega)) (EvD.is (evd_strI (n := (q : Int) - 1) (evd_I0 (g := fun i j => i - j) (eq_ (Ex.refl _)) evd_ci) (by omega)) (by unfold numT; rw [show (q : Int) - 1 = ((q - 1 : Nat) : Int) by omega])) (by show (("signs=" : Str) ++ numT p ++ "-").length + (numT (q - 1)).length ≤ _; rw [app_len, app_len]; omega)) hA13 hB hxl) (by rw [hrng]; rfl)) eb13 fun H14 e14 eb14 => ?_
    refine at_sig (σ' := [some (.ref a0), some (.ref a), some (.str key), some (.str text), z4, z5, z6, some (.int (text.length : Int)), some vc, some (.str w), some (.int (1 + (i : Int))), some (.str (cutS text (some (p : Int)) (some (q : Int)))), none]) rfl ?_
    refine q_pass (B := B13) (EvB.is (evb_not (evb_B (cev_law_same (n := 4) (evd_varS rfl) (evd_slS (evd_varS rfl) (evo_some (evd_ixL (i := 1 + (i : Int) - 1) (evd_var rfl hvc13) (evd_I0 (g := fun i j => i - j) (evd_varI rfl) evd_ci) (atI_nat' (by omega) (by rw [show (1 + (i : Int) - 1).toNat = i by omega, List.getElem?_map, hCi]; rfl)))) (evo_some (eq_ (Ex.refl _))) (by omega)) trivial))) rfl) eb14 fun H15 e15 eb15 => ?_
    have hwl : w.length ≤ 300 := by
      rw [len_tl, hw, List.length_take, ← len_tl]; omega
    refine s_asgS (B := B13) (x := w ++ cutS text (some (p : Int)) (some (q : Int))) (evd_addS (evd_varS rfl) (evd_varS rfl) (by omega)) eb15 fun H16 e16 eb16 => ?_
    refine k _ H16 B13 L13 (Only.of ((e14.trans e15).trans e16)) (fun p hp => .inl hp) (Ext.refl _ _) eb16 ⟨_, _, _, rfl, ?_, hA13.grow ((e14.trans e15).trans e16) (Ext.refl _ _)⟩
    have g1 : C.getD i 0 = (p : Int) := by rw [List.getD_eq_getElem?_getD, hCi]; rfl
    have g2 : C.getD (i + 1) 0 = (q : Int) := by rw [List.getD_eq_getElem?_getD, hCj]; rfl
    rw [tl_app, hw, g1, g2, tl_cut, sIx_pos (by omega), sIx_pos (by omega), Int.toNat_natCast, Int.toNat_natCast, show min p text.length = p by omega, show min q text.length = q by omega]
    rw [← List.take_add, show p + (q - p) = q by omega]
  rintro σ1 H13 B13 L13 x13 o13 f13 eb13 ⟨w, z10, z11, rfl, hw, hA13⟩
  rw [rangeD_len, List.getD_eq_getElem?_getD, hCn] at hw
  have hwt : w = text := by
    apply str_ext
    rw [hw]
    show (tl text).take ((text.length : Int)).toNat = _
    rw [Int.toNat_natCast, len_tl, List.take_length]
  subst hwt
  have hvc13 := hvc.ex' x13.1
  refine q_or_go (B := B13) (EvB.is (evb_test (evd_neS (evd_varS rfl) (evd_varS rfl))) (by rw [decide_eq_true rfl]; rfl)) eb13 fun H14 e14 eb14 => ?_
  have hA14 := hA13.grow e14 (Ext.refl _ _)
  refine q_pass (B := B13) (EvB.is (evb_not (evb_B (evd_all (bs := C.map fun _ => true) (EvD.is (evd_lc1 (j := 12) (vs := [12]) (as := C) PyData.int (fun _ => .bool true) (src_list (evd_var rfl hvc13)) (by omega) (fun _ => rfl) fun c hc x B' H' eb' eh' e' hx => ?_) (by rw [List.map_map]; rfl))))) (by rw [List.all_eq_true.mpr (fun b hb => by obtain ⟨c, _, rfl⟩ := List.mem_map.mp hb; rfl)]; rfl)) eb14 fun H15 e15 eb15 => ?_
  · cases hx
    obtain ⟨n, hn⟩ : ∃ n : Nat, c = (n : Int) := ⟨c.toNat, by have := hmem c hc; omega⟩
    subst hn
    have := (hmem _ hc).2
    exact (cev_law_tails (evf_var rfl) (evd_varS rfl) (evd_varS rfl) (evd_varI rfl) (hA14.grow eh' (Ext.refl _ _)) hB hg (by omega) (by omega)).mono eb' (Ex.refl _)
  have hA15 := hA14.grow e15 (Ext.refl _ _)
  have n9 := numT_len (n := w.length + 9) (by omega)
  have hrng : rangeR S.sh key (("signs=-" : Str) ++ numT (w.length + 9)) = .ok (.str w) := by
    rw [range_s (a := 0) (b := w.length + 9) hg (by rw [tl_app, show tl (numT (w.length + 9)) = TL.numL (w.length + 9) from tl_num _, show tl ("signs=-" : Str) = signsL ++ [45] from by decide +kernel]; simp) (by omega) (by omega)]
    unfold tailR
    rw [if_pos (by omega), show ((0 : Nat) : Int) = 0 from rfl, cut_all]
  refine q_pass (B := B13) (EvB.is (evb_not (evb_B (cev_law_same (n := 4) (d := .str w) (EvD.is (cev_law_told (x := ("signs=-" : Str) ++ numT (w.length + 9)) (evf_var rfl) (evd_varS rfl) (evd_addS evd_cs (EvD.is (evd_strI (n := (w.length : Int) + 9) (evd_I0 (g := fun i j => i + j) (evd_varI rfl) evd_ci) (by omega)) (by unfold numT; rfl)) (by omega)) hA15 hB (by rw [app_len]; omega)) (by rw [hrng]; rfl)) (evd_varS rfl) trivial))) rfl) eb15 fun H16 e16 eb16 => ?_
  refine s_retV ?_
  refine run_law_ends (B := B13) (evf_var rfl) (evd_varS rfl) eb16 (hA15.grow e16 (Ext.refl _ _)) X (by omega) hu ?_ hkl (fun H' => kk H')
  rw [htu, tot_one]
  show ((abc.length : Int) + ((w.length : Int) + 0)) + 0 ≤ 100000
  omega
end GK

namespace GKL
open PySem PySem.Spec PyProof.Rows L2 GK
open Evl (Ex)
def top (i : Nat) : Stmt := PySem.Challenge.pw_greatkeep_k11_whole_ranges.main.body.getD i (.Pass ⟨0, 0, 0, 0⟩)
section
variable {P : Program} {w : World} {K : PySem.W.Frag} {mg : Str → Option Value} {base : Heap}
abbrev s_Shelf_init : Stmt := inClass (top 15) 0
theorem sc_Shelf_init : FnScope ["self"] ["self"] (defScope s_Shelf_init) := ⟨rfl, rfl, rfl, by decide +kernel, rfl, by decide +kernel, by decide +kernel⟩
theorem ok_Shelf_init (bl : Blt mg) {f : Addr} {fd : FuncData} (F : FnP K "__init__" "Shelf.__init__" s_Shelf_init f fd)  : FnOk P w K mg base (L2.CX P w) 1 f fd ["self"] (sp_Shelf_init K) := by
  refine F.ok (k := 0) sc_Shelf_init (fun vs H Q E h => len_Shelf_init h) (fun cdv A outer s H vs Q E hr h => ⟨t_Shelf_init K E, PSs.nox ?_, pure_Shelf_init h⟩)
  have hu := hu_of hr
  exact (pss_cons (ps_fld (pv 0) pe_dnewK rfl)
      (pss_one (ps_fld (pv 0) pe_dnewT rfl)))
abbrev s_Uploads_init : Stmt := inClass (top 20) 0
theorem sc_Uploads_init : FnScope ["self"] ["self"] (defScope s_Uploads_init) := ⟨rfl, rfl, rfl, by decide +kernel, rfl, by decide +kernel, by decide +kernel⟩
theorem ok_Uploads_init (bl : Blt mg) {f : Addr} {fd : FuncData} (F : FnP K "__init__" "Uploads.__init__" s_Uploads_init f fd)  : FnOk P w K mg base (L2.CX P w) 1 f fd ["self"] (sp_Uploads_init K) := by
  refine F.ok (k := 0) sc_Uploads_init (fun vs H Q E h => len_Uploads_init h) (fun cdv A outer s H vs Q E hr h => ⟨t_Uploads_init K E, PSs.nox ?_, pure_Uploads_init h⟩)
  have hu := hu_of hr
  exact (pss_cons (ps_fld (pv 0) pe_int rfl)
      (pss_cons (ps_fld (pv 0) pe_dnewK rfl)
      (pss_one (ps_fld (pv 0) pe_dnewK rfl))))
abbrev s_Store_init : Stmt := inClass (top 22) 0
theorem sc_Store_init : FnScope ["self", "most"] ["self", "most"] (defScope s_Store_init) := ⟨rfl, rfl, rfl, by decide +kernel, rfl, by decide +kernel, by decide +kernel⟩
theorem ok_Store_init (bl : Blt mg) {f : Addr} {fd : FuncData} (F : FnP K "__init__" "Store.__init__" s_Store_init f fd) (mk_Shelf : Mkb P w K mg base 1 "Shelf" (He.ga K "Shelf") (sp_Shelf_init K)) (mk_Uploads : Mkb P w K mg base 1 "Uploads" (He.ga K "Uploads") (sp_Uploads_init K)) : FnOk P w K mg base (L2.CX P w) 3 f fd ["self", "most"] (sp_Store_init K) := by
  refine F.ok (k := 2) sc_Store_init (fun vs H Q E h => len_Store_init h) (fun cdv A outer s H vs Q E hr h => ⟨t_Store_init K E, PSs.nox ?_, pure_Store_init h⟩)
  have hu := hu_of hr
  exact (pss_cons (ps_fld (pv 0) (pv 1) rfl)
      (pss_cons (ps_fld (pv 0) pe_int rfl)
      (pss_cons (ps_fld (pv 0) pe_int rfl)
      (pss_cons (ps_fld (pv 0) (pe_mk0 mk_Shelf hr (by decide) passL) rfl)
      (pss_cons (ps_fld (pv 0) (pe_mk0 mk_Uploads hr (by decide) passL) rfl)
      (pss_one (ps_fld (pv 0) (pe_lst pa_nil) rfl)))))))
abbrev s_law_cell : Stmt := top 24
theorem sc_law_cell : FnScope ["script", "k"] ["script", "k"] (defScope s_law_cell) := ⟨rfl, rfl, rfl, by decide +kernel, rfl, by decide +kernel, by decide +kernel⟩
theorem ok_law_cell (bl : Blt mg) {f : Addr} {fd : FuncData} (F : FnP K "_law_cell" "_law_cell" s_law_cell f fd)  : FnOk P w K mg base (L2.CX P w) 1 f fd ["script", "k"] (sp_law_cell K) := by
  refine F.ok (k := 0) sc_law_cell (fun vs H Q E h => len_law_cell h) (fun cdv A outer s H vs Q E hr h => ⟨t_law_cell K E, PSs.nox ?_, pure_law_cell h⟩)
  have hu := hu_of hr
  exact (pss_cons (ps_if (pt_cmpR op_lt (pv 1) (pe_callB cr_lenSeq (by rfl) bl.len bt_len (pa_cons (pv 0) pa_nil)) (nomark _)) (pss_one (ps_ret (pe_ix ix_list (pv 0) (pv 1) (fun _ _ => rfl)))) pss_nil)
      (pss_one (ps_ret pe_int)))
abbrev s_law_mix : Stmt := top 25
theorem sc_law_mix : FnScope ["cell", "prime", "many", "blend"] ["cell", "prime", "many"] (defScope s_law_mix) := ⟨rfl, rfl, rfl, by decide +kernel, rfl, by decide +kernel, by decide +kernel⟩
theorem ok_law_mix (bl : Blt mg) {f : Addr} {fd : FuncData} (F : FnP K "_law_mix" "_law_mix" s_law_mix f fd)  : FnOk P w K mg base (L2.CX P w) 1 f fd ["cell", "prime", "many"] (sp_law_mix K) := by
  refine F.ok (k := 0) sc_law_mix (fun vs H Q E h => len_law_mix h) (fun cdv A outer s H vs Q E hr h => ⟨t_law_mix K E, PSs.nox ?_, pure_law_mix h⟩)
  have hu := hu_of hr
  exact (pss_cons (ps_set (i := 3) sc_law_mix.nd rfl (by first | exact Or.inl rfl | exact Or.inr rfl) (pe_op op_mod (pe_op op_mul (pv 0) pe_int) (pv 1)))
      (pss_one (ps_ret (pe_op op_mod (pe_op op_mod (pe_op op_mul (pv 3) (pe_op op_add (pv 3) pe_int)) (pv 1)) (pv 2)))))
abbrev s_law_key : Stmt := top 27
theorem sc_law_key : FnScope ["cell", "signs", "many", "k"] ["cell"] (defScope s_law_key) := ⟨rfl, rfl, rfl, by decide +kernel, rfl, by decide +kernel, by decide +kernel⟩
theorem ok_law_key (bl : Blt mg) {f : Addr} {fd : FuncData} (F : FnP K "_law_key" "_law_key" s_law_key f fd) (f_law_mix : Clb P w K mg base 1 "_law_mix" (sp_law_mix K)) : FnOk P w K mg base (L2.CX P w) 2 f fd ["cell"] (sp_law_key K) := by
  refine F.ok (k := 1) sc_law_key (fun vs H Q E h => len_law_key h) (fun cdv A outer s H vs Q E hr h => ⟨t_law_key K E, PSs.nox ?_, pure_law_key h⟩)
  have hu := hu_of hr
  exact (pss_cons (ps_set (i := 1) sc_law_key.nd rfl (by first | exact Or.inl rfl | exact Or.inr rfl) pe_str)
      (pss_cons (ps_if (pt_cmpR op_eq (pe_op op_mod (pv 0) pe_int) pe_int (nomark _)) (pss_one (ps_ret (pe_ix ix_tup (pe_tup (pa_cons pe_str (pa_cons pe_str (pa_cons pe_str (pa_cons pe_str (pa_cons pe_str (pa_cons pe_str (pa_cons pe_str (pa_cons pe_str pa_nil))))))))) (pe_cl f_law_mix hr (by decide) passL (pa_cons (pv 0) (pa_cons pe_int (pa_cons pe_int pa_nil)))) (fun _ _ => rfl)))) pss_nil)
      (pss_cons (ps_set (i := 2) sc_law_key.nd rfl (by first | exact Or.inl rfl | exact Or.inr rfl) (pe_op op_add pe_int (pe_cl f_law_mix hr (by decide) passL (pa_cons (pv 0) (pa_cons pe_int (pa_cons pe_int pa_nil))))))
      (pss_one (ps_ret (pe_m1 PySem.F.slot_str_join PySem.F.type_str_join mtr_join pe_str (pe_lc (own := [("k", 3)]) (g := (gName 3)) (tt := tYes) rfl sc_law_key.nd (pi_range1 (by rfl) bl.range (pa_cons (pv 2) pa_nil)) (blkOk_by (by kernel_rfl)) (fun _ _ _ _ _ => (pg_name (i := 3) sc_law_key.nd rfl (by first | exact Or.inl rfl | exact Or.inr rfl))) (fun _ _ _ _ _ => pts_nil) (fun _ _ _ _ _ => (pe_ix ix_str (pv 1) (pe_cl f_law_mix hr (by decide) passL (pa_cons (pe_op op_add (pv 0) (pe_op op_mul pe_int (pv 3))) (pa_cons pe_int (pa_cons pe_int pa_nil)))) (fun _ _ => rfl))))))))))
abbrev s_Shelf_rows_of : Stmt := inClass (top 15) 1
theorem sc_Shelf_rows_of : FnScope ["self", "key"] ["self", "key"] (defScope s_Shelf_rows_of) := ⟨rfl, rfl, rfl, by decide +kernel, rfl, by decide +kernel, by decide +kernel⟩
theorem ok_Shelf_rows_of (bl : Blt mg) {f : Addr} {fd : FuncData} (F : FnP K "rows_of" "Shelf.rows_of" s_Shelf_rows_of f fd)  : FnOk P w K mg base (L2.CX P w) 1 f fd ["self", "key"] (sp_Shelf_rows_of K) := by
  refine F.ok (k := 0) sc_Shelf_rows_of (fun vs H Q E h => len_Shelf_rows_of h) (fun cdv A outer s H vs Q E hr h => ⟨t_Shelf_rows_of K E, PSs.nox ?_, pure_Shelf_rows_of h⟩)
  have hu := hu_of hr
  exact (pss_one (ps_ret (pe_dget2 hu (pe_fld (pv 0) rfl) (pv 1) (pe_lst pa_nil) ⟨rfl, rfl, rfl, rfl⟩)))
abbrev s_Shelf_newest : Stmt := inClass (top 15) 5
theorem sc_Shelf_newest : FnScope ["self", "key", "some"] ["self", "key"] (defScope s_Shelf_newest) := ⟨rfl, rfl, rfl, by decide +kernel, rfl, by decide +kernel, by decide +kernel⟩
theorem ok_Shelf_newest (bl : Blt mg) {f : Addr} {fd : FuncData} (F : FnP K "newest" "Shelf.newest" s_Shelf_newest f fd) (m_Shelf_rows_of : Mtb P w K mg base 1 (He.ga K "Shelf") "rows_of" (sp_Shelf_rows_of K)) (x_NoKey : Exn K mg "NoKey") (x_Gone : Exn K mg "Gone") : FnOk P w K mg base (L2.CX P w) 2 f fd ["self", "key"] (sp_Shelf_newest K) := by
  refine F.ok (k := 1) sc_Shelf_newest (fun vs H Q E h => len_Shelf_newest h) (fun cdv A outer s H vs Q E hr h => ⟨t_Shelf_newest K E, ?_, pure_Shelf_newest h⟩)
  have hu := hu_of hr
  have tk : Takes _ (fun cls d _ H => E cls d H) := takes_of (X := cxOf (L2.CX P w) P w K mg base ["self", "key", "some"] "Shelf.newest" (defScope s_Shelf_newest) f cdv A outer s H E) rfl rfl rfl rfl
  have px := passes_call (E := E) tk (fun _ _ _ _ h => h)
  have po := passes_of (X := cxOf (L2.CX P w) P w K mg base ["self", "key", "some"] "Shelf.newest" (defScope s_Shelf_newest) f cdv A outer s H E) rfl
  exact (pss_cons (ps_set (i := 2) sc_Shelf_newest.nd rfl (by first | exact Or.inl rfl | exact Or.inr rfl) (pe_mt m_Shelf_rows_of hr (by decide) passL (pv 0) (pa_cons (pv 1) pa_nil)))
      (pss_cons (ps_if (pt_not (pt_truth (pv 2) (by intro _; rfl))) (pss_one (ps_rs x_NoKey tk)) pss_nil)
      (pss_cons (ps_if (pt_cmpR op_isN (pe_ix ix_tup (pe_ix ix_list (pv 2) (pe_un un_neg pe_int) (fun _ _ => rfl)) pe_int (fun _ _ => rfl)) pe_non (nomark _)) (pss_one (ps_rs x_Gone tk)) pss_nil)
      (pss_one (ps_ret (pe_ix ix_list (pv 2) (pe_un un_neg pe_int) (fun _ _ => rfl)))))))
abbrev s_Store_get : Stmt := inClass (top 22) 9
theorem sc_Store_get : FnScope ["self", "key"] ["self", "key"] (defScope s_Store_get) := ⟨rfl, rfl, rfl, by decide +kernel, rfl, by decide +kernel, by decide +kernel⟩
theorem ok_Store_get (bl : Blt mg) {f : Addr} {fd : FuncData} (F : FnP K "get" "Store.get" s_Store_get f fd) (m_Shelf_newest : Mtb P w K mg base 2 (He.ga K "Shelf") "newest" (sp_Shelf_newest K)) : FnOk P w K mg base (L2.CX P w) 3 f fd ["self", "key"] (sp_Store_get K) := by
  refine F.ok (k := 2) sc_Store_get (fun vs H Q E h => len_Store_get h) (fun cdv A outer s H vs Q E hr h => ⟨t_Store_get K E, ?_, pure_Store_get h⟩)
  have hu := hu_of hr
  have tk : Takes _ (fun cls d _ H => E cls d H) := takes_of (X := cxOf (L2.CX P w) P w K mg base ["self", "key"] "Store.get" (defScope s_Store_get) f cdv A outer s H E) rfl rfl rfl rfl
  have px := passes_call (E := E) tk (fun _ _ _ _ h => h)
  have po := passes_of (X := cxOf (L2.CX P w) P w K mg base ["self", "key"] "Store.get" (defScope s_Store_get) f cdv A outer s H E) rfl
  exact (pss_one (ps_ret (pe_ix ix_tup (pe_mt m_Shelf_newest hr (by decide) px (pe_fld (pv 0) rfl) (pa_cons (pv 1) pa_nil)) pe_int (fun _ _ => rfl))))
abbrev s_number_of : Stmt := top 12
theorem sc_number_of : FnScope ["word", "sign"] ["word"] (defScope s_number_of) := ⟨rfl, rfl, rfl, by decide +kernel, rfl, by decide +kernel, by decide +kernel⟩
theorem ok_number_of (bl : Blt mg) {f : Addr} {fd : FuncData} (F : FnP K "number_of" "number_of" s_number_of f fd) (x_NoRange : Exn K mg "NoRange") : FnOk P w K mg base (L2.CX P w) 1 f fd ["word"] (sp_number_of K) := by
  refine F.ok (k := 0) sc_number_of (fun vs H Q E h => len_number_of h) (fun cdv A outer s H vs Q E hr h => ⟨t_number_of K E, ?_, pure_number_of h⟩)
  have hu := hu_of hr
  have tk : Takes _ (fun cls d _ H => E cls d H) := takes_of (X := cxOf (L2.CX P w) P w K mg base ["word", "sign"] "number_of" (defScope s_number_of) f cdv A outer s H E) rfl rfl rfl rfl
  have px := passes_call (E := E) tk (fun _ _ _ _ h => h)
  have po := passes_of (X := cxOf (L2.CX P w) P w K mg base ["word", "sign"] "number_of" (defScope s_number_of) f cdv A outer s H E) rfl
  exact (pss_cons (ps_if (PW.pt (pw_or (pt_not (pt_chain op_le op_le pe_int (pe_callB cr_lenStr (by rfl) bl.len bt_len (pa_cons (pv 0) pa_nil)) pe_int)) (pw_or (pt_not (pt_val (pe_callB (cr_all rfl) (by rfl) bl.all_ bt_all (pa_cons (pe_lc (own := [("sign", 1)]) (g := (gName 1)) (tt := tYes) rfl sc_number_of.nd (pi_str (pv 0)) (blkOk_by (by kernel_rfl)) (fun _ _ _ _ _ => (pg_name (i := 1) sc_number_of.nd rfl (by first | exact Or.inl rfl | exact Or.inr rfl))) (fun _ _ _ _ _ => pts_nil) (fun _ _ _ _ _ => (pe_cmpR opr_inSign (pv 1) pe_str rfl))) pa_nil)))) (pw_or1 (pt_cmpR op_ne (pe_callTy cr_strInt (by rfl) bl.str bt_str (pa_cons (pe_callTy cr_intStr (by rfl) bl.int bt_int (pa_cons (pv 0) pa_nil)) pa_nil)) (pv 0) (nomark _)))))) (pss_one (ps_rs x_NoRange tk)) pss_nil)
      (pss_one (ps_ret (pe_callTy cr_intStr (by rfl) bl.int bt_int (pa_cons (pv 0) pa_nil)))))
abbrev s_read_range : Stmt := top 13
theorem sc_read_range : FnScope ["text", "size", "first", "second", "many", "begin", "last"] ["text", "size"] (defScope s_read_range) := ⟨rfl, rfl, rfl, by decide +kernel, rfl, by decide +kernel, by decide +kernel⟩
theorem ok_read_range (bl : Blt mg) {f : Addr} {fd : FuncData} (F : FnP K "read_range" "read_range" s_read_range f fd) (x_NoRange : Exn K mg "NoRange") (f_number_of : Clb P w K mg base 1 "number_of" (sp_number_of K)) : FnOk P w K mg base (L2.CX P w) 2 f fd ["text", "size"] (sp_read_range K) := by
  refine F.ok (k := 1) sc_read_range (fun vs H Q E h => len_read_range h) (fun cdv A outer s H vs Q E hr h => ⟨t_read_range K E, ?_, pure_read_range h⟩)
  have hu := hu_of hr
  have tk : Takes _ (fun cls d _ H => E cls d H) := takes_of (X := cxOf (L2.CX P w) P w K mg base ["text", "size", "first", "second", "many", "begin", "last"] "read_range" (defScope s_read_range) f cdv A outer s H E) rfl rfl rfl rfl
  have px := passes_call (E := E) tk (fun _ _ _ _ h => h)
  have po := passes_of (X := cxOf (L2.CX P w) P w K mg base ["text", "size", "first", "second", "many", "begin", "last"] "read_range" (defScope s_read_range) f cdv A outer s H E) rfl
  exact (pss_cons (ps_if (PW.pt (pw_or (pt_not (pt_val (pe_m1 PySem.F.slot_str_startswith PySem.F.type_str_startswith mtr_starts (pv 0) pe_str))) (pw_or1 (pt_cmpR op_ne (pe_m1 PySem.F.slot_str_count PySem.F.type_str_count mtr_count (pv 0) pe_str) pe_int (nomark _))))) (pss_one (ps_rs x_NoRange tk)) pss_nil)
      (pss_cons (ps_asg (pe_m1 PySem.F.slot_str_split PySem.F.type_str_split mtr_split (pe_slice sl_str (pv 0) (po_some pe_int) po_none) pe_str) (pg_lst rfl (pgs_cons (pg_name (i := 2) sc_read_range.nd rfl (by first | exact Or.inl rfl | exact Or.inr rfl)) (pgs_cons (pg_name (i := 3) sc_read_range.nd rfl (by first | exact Or.inl rfl | exact Or.inr rfl)) pgs_nil))))
      (pss_cons (ps_if (pt_cmpR op_eq (pv 2) pe_str (nomark _)) (pss_cons (ps_set (i := 4) sc_read_range.nd rfl (by first | exact Or.inl rfl | exact Or.inr rfl) (pe_callB (cr_minI rfl) (by rfl) bl.min bt_min (pa_cons (pe_cl f_number_of hr (by decide) px (pa_cons (pv 3) pa_nil)) (pa_cons (pv 1) pa_nil))))
      (pss_one (ps_set (i := 5) sc_read_range.nd rfl (by first | exact Or.inl rfl | exact Or.inr rfl) (pe_op op_sub (pv 1) (pv 4))))) (pss_cons (ps_set (i := 5) sc_read_range.nd rfl (by first | exact Or.inl rfl | exact Or.inr rfl) (pe_cl f_number_of hr (by decide) px (pa_cons (pv 2) pa_nil)))
      (pss_cons (ps_set (i := 6) sc_read_range.nd rfl (by first | exact Or.inl rfl | exact Or.inr rfl) (pe_op op_sub (pv 1) pe_int))
      (pss_cons (ps_if (pt_cmpR op_ne (pv 3) pe_str (nomark _)) (pss_cons (ps_set (i := 6) sc_read_range.nd rfl (by first | exact Or.inl rfl | exact Or.inr rfl) (pe_cl f_number_of hr (by decide) px (pa_cons (pv 3) pa_nil)))
      (pss_one (ps_if (pt_cmpR op_lt (pv 6) (pv 5) (nomark _)) (pss_one (ps_rs x_NoRange tk)) pss_nil))) pss_nil)
      (pss_one (ps_set (i := 4) sc_read_range.nd rfl (by first | exact Or.inl rfl | exact Or.inr rfl) (pe_op op_add (pe_op op_sub (pe_callB (cr_minI rfl) (by rfl) bl.min bt_min (pa_cons (pv 6) (pa_cons (pe_op op_sub (pv 1) pe_int) pa_nil))) (pv 5)) pe_int)))))))
      (pss_cons (ps_if (pt_cmpR op_lt (pv 4) pe_int (nomark _)) (pss_one (ps_rs x_NoRange tk)) pss_nil)
      (pss_one (ps_ret (pe_tup (pa_cons (pv 5) (pa_cons (pv 4) pa_nil)))))))))
abbrev s_Store_get_range : Stmt := inClass (top 22) 21
theorem sc_Store_get_range : FnScope ["self", "key", "text", "data", "begin", "many"] ["self", "key", "text"] (defScope s_Store_get_range) := ⟨rfl, rfl, rfl, by decide +kernel, rfl, by decide +kernel, by decide +kernel⟩
theorem ok_Store_get_range (bl : Blt mg) {f : Addr} {fd : FuncData} (F : FnP K "get_range" "Store.get_range" s_Store_get_range f fd) (m_Store_get : Mtb P w K mg base 3 (He.ga K "Store") "get" (sp_Store_get K)) (f_read_range : Clb P w K mg base 2 "read_range" (sp_read_range K)) : FnOk P w K mg base (L2.CX P w) 4 f fd ["self", "key", "text"] (sp_Store_get_range K) := by
  refine F.ok (k := 3) sc_Store_get_range (fun vs H Q E h => len_Store_get_range h) (fun cdv A outer s H vs Q E hr h => ⟨t_Store_get_range K E, ?_, pure_Store_get_range h⟩)
  have hu := hu_of hr
  have tk : Takes _ (fun cls d _ H => E cls d H) := takes_of (X := cxOf (L2.CX P w) P w K mg base ["self", "key", "text", "data", "begin", "many"] "Store.get_range" (defScope s_Store_get_range) f cdv A outer s H E) rfl rfl rfl rfl
  have px := passes_call (E := E) tk (fun _ _ _ _ h => h)
  have po := passes_of (X := cxOf (L2.CX P w) P w K mg base ["self", "key", "text", "data", "begin", "many"] "Store.get_range" (defScope s_Store_get_range) f cdv A outer s H E) rfl
  exact (pss_cons (ps_set (i := 3) sc_Store_get_range.nd rfl (by first | exact Or.inl rfl | exact Or.inr rfl) (pe_mt m_Store_get hr (by decide) px (pv 0) (pa_cons (pv 1) pa_nil)))
      (pss_cons (ps_asg (pe_cl f_read_range hr (by decide) px (pa_cons (pv 2) (pa_cons (pe_callB cr_lenStr (by rfl) bl.len bt_len (pa_cons (pv 3) pa_nil)) pa_nil))) (pg_tup rfl (pgs_cons (pg_name (i := 4) sc_Store_get_range.nd rfl (by first | exact Or.inl rfl | exact Or.inr rfl)) (pgs_cons (pg_name (i := 5) sc_Store_get_range.nd rfl (by first | exact Or.inl rfl | exact Or.inr rfl)) pgs_nil))))
      (pss_one (ps_ret (pe_slice sl_str (pv 3) (po_some (pv 4)) (po_some (pe_op op_add (pv 4) (pv 5))))))))
abbrev s_law_told : Stmt := top 29
theorem sc_law_told : FnScope ["store", "key", "text", "told", "e"] ["store", "key", "text"] (defScope s_law_told) := ⟨rfl, rfl, rfl, by decide +kernel, rfl, by decide +kernel, by decide +kernel⟩
theorem ok_law_told (bl : Blt mg) {f : Addr} {fd : FuncData} (F : FnP K "_law_told" "_law_told" s_law_told f fd) (g_KeepError : mg "KeepError" = some (.ref (He.ga K "KeepError"))) (xs : Exs ["NoKey", "Gone", "NoVersion", "Full", "NoUpload", "BadPart", "TooSmall", "NoRange"] K) (m_Store_get_range : Mtb P w K mg base 4 (He.ga K "Store") "get_range" (sp_Store_get_range K)) (g_NoKey : mg "NoKey" = some (.ref (He.ga K "NoKey"))) (g_Gone : mg "Gone" = some (.ref (He.ga K "Gone"))) (g_NoRange : mg "NoRange" = some (.ref (He.ga K "NoRange"))) : FnOk P w K mg base (L2.CX P w) 5 f fd ["store", "key", "text"] (sp_law_told K) := by
  refine F.ok (k := 4) sc_law_told (fun vs H Q E h => len_law_told h) (fun cdv A outer s H vs Q E hr h => ⟨t_law_told K E, PSs.nox ?_, pure_law_told (Exs.sub (by decide +kernel) xs) h⟩)
  have hu := hu_of hr
  exact (pss_cons (ps_set (i := 3) sc_law_told.nd rfl (by first | exact Or.inl rfl | exact Or.inr rfl) pe_non)
      (pss_cons (ps_try_as (i := 4) (tb := (fun W => (tAsg (tMethW (He.ga K "Store") "get_range" (sp_Store_get_range K) (WE W) (tVar 0) (tCons (tVar 1) (tCons (tVar 2) tNil))) (gName 3)))) (ts := (fun a cls d => (tAsg (tTup (tCons (tCB (rIsX K cls d a) (tCons (tVar 4) (tCons (tC (.ref (He.ga K "NoKey"))) tNil))) (tCons (tCB (rIsX K cls d a) (tCons (tVar 4) (tCons (tC (.ref (He.ga K "Gone"))) tNil))) (tCons (tCB (rIsX K cls d a) (tCons (tVar 4) (tCons (tC (.ref (He.ga K "NoRange"))) tNil))) tNil)))) (gName 3)))) (Wout := fun _ _ _ _ => False) rfl rfl sc_law_told.nd rfl rfl ⟨rfl, by decide, Or.inl g_KeepError⟩ takes0 (fun W pn xe tk _ => (pss_one (ps_set (i := 3) sc_law_told.nd rfl (by first | exact Or.inl rfl | exact Or.inr rfl) (by exact (pe_mtS m_Store_get_range hr (by decide) (fun σ => passAt tk σ) (by exact (pv 0)) (by exact (pa_cons (pv 1) (pa_cons (pv 2) pa_nil)))))))) (fun a oe cls d pn hz hf => (pss_one (ps_set (i := 3) sc_law_told.nd rfl (by first | exact Or.inl rfl | exact Or.inr rfl) (pe_tup (pa_cons (pe_callB (call_isX hz hf) (by rfl) bl.isinstance bt_isinstance (pa_cons (pv 4) (pa_cons (pe_gl ⟨_, g_NoKey, rfl⟩) pa_nil))) (pa_cons (pe_callB (call_isX hz hf) (by rfl) bl.isinstance bt_isinstance (pa_cons (pv 4) (pa_cons (pe_gl ⟨_, g_Gone, rfl⟩) pa_nil))) (pa_cons (pe_callB (call_isX hz hf) (by rfl) bl.isinstance bt_isinstance (pa_cons (pv 4) (pa_cons (pe_gl ⟨_, g_NoRange, rfl⟩) pa_nil))) pa_nil))))))))
      (pss_one (ps_ret (pv 3)))))
abbrev s_Shelf_total : Stmt := inClass (top 15) 12
theorem sc_Shelf_total : FnScope ["self", "key", "row"] ["self"] (defScope s_Shelf_total) := ⟨rfl, rfl, rfl, by decide +kernel, rfl, by decide +kernel, by decide +kernel⟩
theorem ok_Shelf_total (bl : Blt mg) {f : Addr} {fd : FuncData} (F : FnP K "total" "Shelf.total" s_Shelf_total f fd)  : FnOk P w K mg base (L2.CX P w) 1 f fd ["self"] (sp_Shelf_total K) := by
  refine F.ok (k := 0) sc_Shelf_total (fun vs H Q E h => len_Shelf_total h) (fun cdv A outer s H vs Q E hr h => ⟨t_Shelf_total K E, PSs.nox ?_, pure_Shelf_total h⟩)
  have hu := hu_of hr
  exact (pss_one (ps_ret (pe_callB (cr_sum rfl) (by rfl) bl.sum bt_sum (pa_cons (pe_lock (pe_lc (own := [("key", 1)]) (g := (gName 1)) (tt := tYes) rfl sc_Shelf_total.nd (pi_keys (pe_fld (pv 0) rfl)) (blkOk_by (by kernel_rfl)) (fun _ _ _ _ _ => (pg_name (i := 1) sc_Shelf_total.nd rfl (by first | exact Or.inl rfl | exact Or.inr rfl))) (fun _ _ _ _ _ => pts_nil) (fun _ _ _ _ _ => (pe_callB (cr_sum rfl) (by rfl) bl.sum bt_sum (pa_cons (pe_lc (own := [("row", 2)]) (g := (gName 2)) (tt := (tTest (tOp rNotNone (tOp (rIxT K) (tVar 2) (tC (.int 2))) (tC .non)))) rfl sc_Shelf_total.nd (pi_list (pe_dget hu (pe_fld (pv 0) rfl) (pv 1) (fun _ _ => rfl))) (blkOk_by (by kernel_rfl)) (fun _ _ _ _ _ => (pg_name (i := 2) sc_Shelf_total.nd rfl (by first | exact Or.inl rfl | exact Or.inr rfl))) (fun _ _ _ _ _ => (pts_one (pt_cmpR op_notN (pe_ix ix_tup (pv 2) pe_int (fun _ _ => rfl)) pe_non (nomark _)))) (fun _ _ _ _ _ => (pe_callB cr_lenStr (by rfl) bl.len bt_len (pa_cons (pe_ix ix_tup (pv 2) pe_int (fun _ _ => rfl)) pa_nil)))) pa_nil))))) pa_nil))))
abbrev s_Uploads_total : Stmt := inClass (top 20) 9
theorem sc_Uploads_total : FnScope ["self", "found", "upload", "some", "number"] ["self"] (defScope s_Uploads_total) := ⟨rfl, rfl, rfl, by decide +kernel, rfl, by decide +kernel, by decide +kernel⟩
theorem ok_Uploads_total (bl : Blt mg) {f : Addr} {fd : FuncData} (F : FnP K "total" "Uploads.total" s_Uploads_total f fd)  : FnOk P w K mg base (L2.CX P w) 1 f fd ["self"] (sp_Uploads_total K) := by
  refine F.ok (k := 0) sc_Uploads_total (fun vs H Q E h => len_Uploads_total h) (fun cdv A outer s H vs Q E hr h => ⟨t_Uploads_total K E, PSs.nox ?_, pure_Uploads_total h⟩)
  have hu := hu_of hr
  exact (pss_cons (ps_set (i := 1) sc_Uploads_total.nd rfl (by first | exact Or.inl rfl | exact Or.inr rfl) pe_int)
      (pss_cons (ps_lock (ps_for PassesOwn.never rfl (pi_keys (pe_fld (pv 0) rfl)) (pg_name (i := 2) sc_Uploads_total.nd rfl (by first | exact Or.inl rfl | exact Or.inr rfl)) (pss_cons (ps_set (i := 3) sc_Uploads_total.nd rfl (by first | exact Or.inl rfl | exact Or.inr rfl) (pe_dget hu (pe_fld (pv 0) rfl) (pv 2) (fun _ _ => rfl)))
      (pss_one (ps_set (i := 1) sc_Uploads_total.nd rfl (by first | exact Or.inl rfl | exact Or.inr rfl) (pe_op op_add (pv 1) (pe_callB (cr_sum rfl) (by rfl) bl.sum bt_sum (pa_cons (pe_lock (pe_lc (own := [("number", 4)]) (g := (gName 4)) (tt := tYes) rfl sc_Uploads_total.nd (pi_keys (pv 3)) (blkOk_by (by kernel_rfl)) (fun _ _ _ _ _ => (pg_name (i := 4) sc_Uploads_total.nd rfl (by first | exact Or.inl rfl | exact Or.inr rfl))) (fun _ _ _ _ _ => pts_nil) (fun _ _ _ _ _ => (pe_callB cr_lenStr (by rfl) bl.len bt_len (pa_cons (pe_dget hu (pv 3) (pv 4) (fun _ _ => rfl)) pa_nil))))) pa_nil))))))))
      (pss_one (ps_ret (pv 1)))))
abbrev s_Store_size : Stmt := inClass (top 22) 3
theorem sc_Store_size : FnScope ["self"] ["self"] (defScope s_Store_size) := ⟨rfl, rfl, rfl, by decide +kernel, rfl, by decide +kernel, by decide +kernel⟩
theorem ok_Store_size (bl : Blt mg) {f : Addr} {fd : FuncData} (F : FnP K "size" "Store.size" s_Store_size f fd) (m_Shelf_total : Mtb P w K mg base 1 (He.ga K "Shelf") "total" (sp_Shelf_total K)) (m_Uploads_total : Mtb P w K mg base 1 (He.ga K "Uploads") "total" (sp_Uploads_total K)) : FnOk P w K mg base (L2.CX P w) 2 f fd ["self"] (sp_Store_size K) := by
  refine F.ok (k := 1) sc_Store_size (fun vs H Q E h => len_Store_size h) (fun cdv A outer s H vs Q E hr h => ⟨t_Store_size K E, PSs.nox ?_, pure_Store_size h⟩)
  have hu := hu_of hr
  exact (pss_one (ps_ret (pe_op op_add (pe_mt0 m_Shelf_total hr (by decide) passL (pe_fld (pv 0) rfl)) (pe_mt0 m_Uploads_total hr (by decide) passL (pe_fld (pv 0) rfl)))))
abbrev s_Store_must_fit : Stmt := inClass (top 22) 4
theorem sc_Store_must_fit : FnScope ["self", "more"] ["self", "more"] (defScope s_Store_must_fit) := ⟨rfl, rfl, rfl, by decide +kernel, rfl, by decide +kernel, by decide +kernel⟩
theorem ok_Store_must_fit (bl : Blt mg) {f : Addr} {fd : FuncData} (F : FnP K "must_fit" "Store.must_fit" s_Store_must_fit f fd) (m_Store_size : Mtb P w K mg base 2 (He.ga K "Store") "size" (sp_Store_size K)) (x_Full : Exn K mg "Full") : FnOk P w K mg base (L2.CX P w) 3 f fd ["self", "more"] (sp_Store_must_fit K) := by
  refine F.ok (k := 2) sc_Store_must_fit (fun vs H Q E h => len_Store_must_fit h) (fun cdv A outer s H vs Q E hr h => ⟨t_Store_must_fit K E, ?_, pure_Store_must_fit h⟩)
  have hu := hu_of hr
  have tk : Takes _ (fun cls d _ H => E cls d H) := takes_of (X := cxOf (L2.CX P w) P w K mg base ["self", "more"] "Store.must_fit" (defScope s_Store_must_fit) f cdv A outer s H E) rfl rfl rfl rfl
  have px := passes_call (E := E) tk (fun _ _ _ _ h => h)
  have po := passes_of (X := cxOf (L2.CX P w) P w K mg base ["self", "more"] "Store.must_fit" (defScope s_Store_must_fit) f cdv A outer s H E) rfl
  exact (pss_one (ps_if (pt_cmpR op_gt (pe_op op_add (pe_mt0 m_Store_size hr (by decide) passL (pv 0)) (pv 1)) (pe_fld (pv 0) rfl) (nomark _)) (pss_one (ps_rs x_Full tk)) pss_nil))
abbrev s_Shelf_come : Stmt := inClass (top 15) 2
theorem sc_Shelf_come : FnScope ["self", "key", "row"] ["self", "key", "row"] (defScope s_Shelf_come) := ⟨rfl, rfl, rfl, by decide +kernel, rfl, by decide +kernel, by decide +kernel⟩
theorem ok_Shelf_come (bl : Blt mg) {f : Addr} {fd : FuncData} (F : FnP K "come" "Shelf.come" s_Shelf_come f fd) (m_Shelf_rows_of : Mtb P w K mg base 1 (He.ga K "Shelf") "rows_of" (sp_Shelf_rows_of K)) : FnOk P w K mg base (L2.CX P w) 2 f fd ["self", "key", "row"] (sp_Shelf_come K) := by
  refine F.ok (k := 1) sc_Shelf_come (fun vs H Q E h => len_Shelf_come h) (fun cdv A outer s H vs Q E hr h => ⟨t_Shelf_come K E, PSs.nox ?_, pure_Shelf_come h⟩)
  have hu := hu_of hr
  exact (pss_one (ps_dput hu (pe_fld (pv 0) rfl) (pv 1) (pe_op op_cat (pe_mt m_Shelf_rows_of hr (by decide) passL (pv 0) (pa_cons (pv 1) pa_nil)) (pe_lst (pa_cons (pv 2) pa_nil))) rfl))
abbrev s_Store_note : Stmt := inClass (top 22) 5
theorem sc_Store_note : FnScope ["self", "change"] ["self", "change"] (defScope s_Store_note) := ⟨rfl, rfl, rfl, by decide +kernel, rfl, by decide +kernel, by decide +kernel⟩
theorem ok_Store_note (bl : Blt mg) {f : Addr} {fd : FuncData} (F : FnP K "note" "Store.note" s_Store_note f fd)  : FnOk P w K mg base (L2.CX P w) 1 f fd ["self", "change"] (sp_Store_note K) := by
  refine F.ok (k := 0) sc_Store_note (fun vs H Q E h => len_Store_note h) (fun cdv A outer s H vs Q E hr h => ⟨t_Store_note K E, PSs.nox ?_, pure_Store_note h⟩)
  have hu := hu_of hr
  exact (pss_one (ps_expr (pe_bm PySem.F.plainAttrs_list PySem.F.slot_list_append PySem.F.type_list_append mt_append (pe_fld (pv 0) rfl) (pa_cons (pe_op op_catA (pe_tup (pa_cons (pe_op op_add (pe_callB cr_lenSeq (by rfl) bl.len bt_len (pa_cons (pe_fld (pv 0) rfl) pa_nil)) pe_int) pa_nil)) (pv 1)) pa_nil))))
abbrev s_Store_come : Stmt := inClass (top 22) 6
theorem sc_Store_come : FnScope ["self", "key", "data", "total"] ["self", "key", "data", "total"] (defScope s_Store_come) := ⟨rfl, rfl, rfl, by decide +kernel, rfl, by decide +kernel, by decide +kernel⟩
theorem ok_Store_come (bl : Blt mg) {f : Addr} {fd : FuncData} (F : FnP K "come" "Store.come" s_Store_come f fd) (m_Shelf_come : Mtb P w K mg base 2 (He.ga K "Shelf") "come" (sp_Shelf_come K)) (m_Store_note : Mtb P w K mg base 1 (He.ga K "Store") "note" (sp_Store_note K)) : FnOk P w K mg base (L2.CX P w) 3 f fd ["self", "key", "data", "total"] (sp_Store_come K) := by
  refine F.ok (k := 2) sc_Store_come (fun vs H Q E h => len_Store_come h) (fun cdv A outer s H vs Q E hr h => ⟨t_Store_come K E, PSs.nox ?_, pure_Store_come h⟩)
  have hu := hu_of hr
  exact (pss_cons (ps_fld (pv 0) (pe_op op_add (pe_fld (pv 0) rfl) pe_int) rfl)
      (pss_cons (ps_expr (pe_mt m_Shelf_come hr (by decide) passL (pe_fld (pv 0) rfl) (pa_cons (pv 1) (pa_cons (pe_tup (pa_cons (pe_fld (pv 0) rfl) (pa_cons (pe_fld (pv 0) rfl) (pa_cons (pv 2) (pa_cons (pv 3) pa_nil))))) pa_nil))))
      (pss_cons (ps_if (pt_cmpR op_isN (pv 2) pe_non (nomark _)) (pss_one (ps_expr (pe_mt m_Store_note hr (by decide) passL (pv 0) (pa_cons (pe_tup (pa_cons pe_str (pa_cons (pv 1) (pa_cons (pe_fld (pv 0) rfl) (pa_cons (pe_fld (pv 0) rfl) pa_nil))))) pa_nil)))) (pss_one (ps_expr (pe_mt m_Store_note hr (by decide) passL (pv 0) (pa_cons (pe_tup (pa_cons pe_str (pa_cons (pv 1) (pa_cons (pe_fld (pv 0) rfl) (pa_cons (pe_fld (pv 0) rfl) (pa_cons (pv 2) (pa_cons (pv 3) pa_nil))))))) pa_nil)))))
      (pss_one (ps_ret (pe_fld (pv 0) rfl))))))
abbrev s_sum_of : Stmt := top 17
theorem sc_sum_of : FnScope ["data", "found", "sign"] ["data"] (defScope s_sum_of) := ⟨rfl, rfl, rfl, by decide +kernel, rfl, by decide +kernel, by decide +kernel⟩
theorem ok_sum_of (bl : Blt mg) {f : Addr} {fd : FuncData} (F : FnP K "sum_of" "sum_of" s_sum_of f fd)  : FnOk P w K mg base (L2.CX P w) 1 f fd ["data"] (sp_sum_of K) := by
  refine F.ok (k := 0) sc_sum_of (fun vs H Q E h => len_sum_of h) (fun cdv A outer s H vs Q E hr h => ⟨t_sum_of K E, PSs.nox ?_, pure_sum_of h⟩)
  have hu := hu_of hr
  exact (pss_cons (ps_set (i := 1) sc_sum_of.nd rfl (by first | exact Or.inl rfl | exact Or.inr rfl) pe_int)
      (pss_cons (ps_for PassesOwn.never rfl (pi_str (pv 0)) (pg_name (i := 2) sc_sum_of.nd rfl (by first | exact Or.inl rfl | exact Or.inr rfl)) (pss_one (ps_set (i := 1) sc_sum_of.nd rfl (by first | exact Or.inl rfl | exact Or.inr rfl) (pe_op op_mod (pe_op op_sub (pe_op op_add (pe_op op_mul pe_int (pv 1)) (pe_callB cr_ord1 (by rfl) bl.ord bt_ord (pa_cons (pv 2) pa_nil))) pe_int) pe_int))))
      (pss_one (ps_ret (pe_m1 PySem.F.slot_str_zfill PySem.F.type_str_zfill mtr_zfill (pe_callTy cr_strInt (by rfl) bl.str bt_str (pa_cons (pv 1) pa_nil)) pe_int)))))
abbrev s_Store_put : Stmt := inClass (top 22) 7
theorem sc_Store_put : FnScope ["self", "key", "data"] ["self", "key", "data"] (defScope s_Store_put) := ⟨rfl, rfl, rfl, by decide +kernel, rfl, by decide +kernel, by decide +kernel⟩
theorem ok_Store_put (bl : Blt mg) {f : Addr} {fd : FuncData} (F : FnP K "put" "Store.put" s_Store_put f fd) (m_Store_must_fit : Mtb P w K mg base 3 (He.ga K "Store") "must_fit" (sp_Store_must_fit K)) (m_Store_come : Mtb P w K mg base 3 (He.ga K "Store") "come" (sp_Store_come K)) (f_sum_of : Clb P w K mg base 1 "sum_of" (sp_sum_of K)) : FnOk P w K mg base (L2.CX P w) 4 f fd ["self", "key", "data"] (sp_Store_put K) := by
  refine F.ok (k := 3) sc_Store_put (fun vs H Q E h => len_Store_put h) (fun cdv A outer s H vs Q E hr h => ⟨t_Store_put K E, ?_, pure_Store_put h⟩)
  have hu := hu_of hr
  have tk : Takes _ (fun cls d _ H => E cls d H) := takes_of (X := cxOf (L2.CX P w) P w K mg base ["self", "key", "data"] "Store.put" (defScope s_Store_put) f cdv A outer s H E) rfl rfl rfl rfl
  have px := passes_call (E := E) tk (fun _ _ _ _ h => h)
  have po := passes_of (X := cxOf (L2.CX P w) P w K mg base ["self", "key", "data"] "Store.put" (defScope s_Store_put) f cdv A outer s H E) rfl
  exact (pss_cons (ps_expr (pe_mt m_Store_must_fit hr (by decide) px (pv 0) (pa_cons (pe_callB cr_lenStr (by rfl) bl.len bt_len (pa_cons (pv 2) pa_nil)) pa_nil)))
      (pss_one (ps_ret (pe_mt m_Store_come hr (by decide) passL (pv 0) (pa_cons (pv 1) (pa_cons (pv 2) (pa_cons (pe_cl f_sum_of hr (by decide) passL (pa_cons (pv 2) pa_nil)) pa_nil)))))))
abbrev s_law_data : Stmt := top 28
theorem sc_law_data : FnScope ["cell", "signs", "many", "k"] ["cell"] (defScope s_law_data) := ⟨rfl, rfl, rfl, by decide +kernel, rfl, by decide +kernel, by decide +kernel⟩
theorem ok_law_data (bl : Blt mg) {f : Addr} {fd : FuncData} (F : FnP K "_law_data" "_law_data" s_law_data f fd) (f_law_mix : Clb P w K mg base 1 "_law_mix" (sp_law_mix K)) : FnOk P w K mg base (L2.CX P w) 2 f fd ["cell"] (sp_law_data K) := by
  refine F.ok (k := 1) sc_law_data (fun vs H Q E h => len_law_data h) (fun cdv A outer s H vs Q E hr h => ⟨t_law_data K E, PSs.nox ?_, pure_law_data h⟩)
  have hu := hu_of hr
  exact (pss_cons (ps_set (i := 1) sc_law_data.nd rfl (by first | exact Or.inl rfl | exact Or.inr rfl) pe_str)
      (pss_cons (ps_set (i := 2) sc_law_data.nd rfl (by first | exact Or.inl rfl | exact Or.inr rfl) (pe_cl f_law_mix hr (by decide) passL (pa_cons (pv 0) (pa_cons pe_int (pa_cons pe_int pa_nil)))))
      (pss_cons (ps_if (pt_cmpR op_eq (pe_cl f_law_mix hr (by decide) passL (pa_cons (pv 0) (pa_cons pe_int (pa_cons pe_int pa_nil)))) pe_int (nomark _)) (pss_one (ps_set (i := 2) sc_law_data.nd rfl (by first | exact Or.inl rfl | exact Or.inr rfl) pe_int)) pss_nil)
      (pss_cons (ps_if (pt_cmpR op_eq (pe_cl f_law_mix hr (by decide) passL (pa_cons (pv 0) (pa_cons pe_int (pa_cons pe_int pa_nil)))) pe_int (nomark _)) (pss_one (ps_set (i := 2) sc_law_data.nd rfl (by first | exact Or.inl rfl | exact Or.inr rfl) (pe_cl f_law_mix hr (by decide) passL (pa_cons (pv 0) (pa_cons pe_int (pa_cons pe_int pa_nil)))))) pss_nil)
      (pss_one (ps_ret (pe_m1 PySem.F.slot_str_join PySem.F.type_str_join mtr_join pe_str (pe_lc (own := [("k", 3)]) (g := (gName 3)) (tt := tYes) rfl sc_law_data.nd (pi_range1 (by rfl) bl.range (pa_cons (pv 2) pa_nil)) (blkOk_by (by kernel_rfl)) (fun _ _ _ _ _ => (pg_name (i := 3) sc_law_data.nd rfl (by first | exact Or.inl rfl | exact Or.inr rfl))) (fun _ _ _ _ _ => pts_nil) (fun _ _ _ _ _ => (pe_ix ix_str (pv 1) (pe_cl f_law_mix hr (by decide) passL (pa_cons (pe_op op_add (pv 0) (pe_op op_mul pe_int (pv 3))) (pa_cons pe_int (pa_cons (pe_callB cr_lenStr (by rfl) bl.len bt_len (pa_cons (pv 1) pa_nil)) pa_nil)))) (fun _ _ => rfl)))))))))))
abbrev s_Uploads_begin : Stmt := inClass (top 20) 1
theorem sc_Uploads_begin : FnScope ["self", "key", "day"] ["self", "key", "day"] (defScope s_Uploads_begin) := ⟨rfl, rfl, rfl, by decide +kernel, rfl, by decide +kernel, by decide +kernel⟩
theorem ok_Uploads_begin (bl : Blt mg) {f : Addr} {fd : FuncData} (F : FnP K "begin" "Uploads.begin" s_Uploads_begin f fd)  : FnOk P w K mg base (L2.CX P w) 1 f fd ["self", "key", "day"] (sp_Uploads_begin K) := by
  refine F.ok (k := 0) sc_Uploads_begin (fun vs H Q E h => len_Uploads_begin h) (fun cdv A outer s H vs Q E hr h => ⟨t_Uploads_begin K E, PSs.nox ?_, pure_Uploads_begin h⟩)
  have hu := hu_of hr
  exact (pss_cons (ps_fld (pv 0) (pe_op op_add (pe_fld (pv 0) rfl) pe_int) rfl)
      (pss_cons (ps_dput hu (pe_fld (pv 0) rfl) (pe_fld (pv 0) rfl) (pe_tup (pa_cons (pv 1) (pa_cons (pv 2) pa_nil))) rfl)
      (pss_cons (ps_dput hu (pe_fld (pv 0) rfl) (pe_fld (pv 0) rfl) pe_dnewK rfl)
      (pss_one (ps_ret (pe_fld (pv 0) rfl))))))
abbrev s_Store_begin : Stmt := inClass (top 22) 15
theorem sc_Store_begin : FnScope ["self", "key"] ["self", "key"] (defScope s_Store_begin) := ⟨rfl, rfl, rfl, by decide +kernel, rfl, by decide +kernel, by decide +kernel⟩
theorem ok_Store_begin (bl : Blt mg) {f : Addr} {fd : FuncData} (F : FnP K "begin" "Store.begin" s_Store_begin f fd) (m_Uploads_begin : Mtb P w K mg base 1 (He.ga K "Uploads") "begin" (sp_Uploads_begin K)) : FnOk P w K mg base (L2.CX P w) 2 f fd ["self", "key"] (sp_Store_begin K) := by
  refine F.ok (k := 1) sc_Store_begin (fun vs H Q E h => len_Store_begin h) (fun cdv A outer s H vs Q E hr h => ⟨t_Store_begin K E, PSs.nox ?_, pure_Store_begin h⟩)
  have hu := hu_of hr
  exact (pss_one (ps_ret (pe_mt m_Uploads_begin hr (by decide) passL (pe_fld (pv 0) rfl) (pa_cons (pv 1) (pa_cons (pe_fld (pv 0) rfl) pa_nil)))))
abbrev s_Uploads_must_be_open : Stmt := inClass (top 20) 2
theorem sc_Uploads_must_be_open : FnScope ["self", "upload"] ["self", "upload"] (defScope s_Uploads_must_be_open) := ⟨rfl, rfl, rfl, by decide +kernel, rfl, by decide +kernel, by decide +kernel⟩
theorem ok_Uploads_must_be_open (bl : Blt mg) {f : Addr} {fd : FuncData} (F : FnP K "must_be_open" "Uploads.must_be_open" s_Uploads_must_be_open f fd) (x_NoUpload : Exn K mg "NoUpload") : FnOk P w K mg base (L2.CX P w) 1 f fd ["self", "upload"] (sp_Uploads_must_be_open K) := by
  refine F.ok (k := 0) sc_Uploads_must_be_open (fun vs H Q E h => len_Uploads_must_be_open h) (fun cdv A outer s H vs Q E hr h => ⟨t_Uploads_must_be_open K E, ?_, pure_Uploads_must_be_open h⟩)
  have hu := hu_of hr
  have tk : Takes _ (fun cls d _ H => E cls d H) := takes_of (X := cxOf (L2.CX P w) P w K mg base ["self", "upload"] "Uploads.must_be_open" (defScope s_Uploads_must_be_open) f cdv A outer s H E) rfl rfl rfl rfl
  have px := passes_call (E := E) tk (fun _ _ _ _ h => h)
  have po := passes_of (X := cxOf (L2.CX P w) P w K mg base ["self", "upload"] "Uploads.must_be_open" (defScope s_Uploads_must_be_open) f cdv A outer s H E) rfl
  exact (pss_one (ps_if (pt_cmp (pc_dnotin hu (pv 1) (pe_fld (pv 0) rfl))) (pss_one (ps_rs x_NoUpload tk)) pss_nil))
abbrev s_Uploads_size_of : Stmt := inClass (top 20) 3
theorem sc_Uploads_size_of : FnScope ["self", "upload", "number"] ["self", "upload", "number"] (defScope s_Uploads_size_of) := ⟨rfl, rfl, rfl, by decide +kernel, rfl, by decide +kernel, by decide +kernel⟩
theorem ok_Uploads_size_of (bl : Blt mg) {f : Addr} {fd : FuncData} (F : FnP K "size_of" "Uploads.size_of" s_Uploads_size_of f fd)  : FnOk P w K mg base (L2.CX P w) 1 f fd ["self", "upload", "number"] (sp_Uploads_size_of K) := by
  refine F.ok (k := 0) sc_Uploads_size_of (fun vs H Q E h => len_Uploads_size_of h) (fun cdv A outer s H vs Q E hr h => ⟨t_Uploads_size_of K E, PSs.nox ?_, pure_Uploads_size_of h⟩)
  have hu := hu_of hr
  exact (pss_one (ps_ret (pe_callB cr_lenStr (by rfl) bl.len bt_len (pa_cons (pe_dget2 hu (pe_dget hu (pe_fld (pv 0) rfl) (pv 1) (fun _ _ => rfl)) (pv 2) pe_str ⟨rfl, rfl, rfl, rfl⟩) pa_nil))))
abbrev s_Uploads_send : Stmt := inClass (top 20) 4
theorem sc_Uploads_send : FnScope ["self", "upload", "number", "data"] ["self", "upload", "number", "data"] (defScope s_Uploads_send) := ⟨rfl, rfl, rfl, by decide +kernel, rfl, by decide +kernel, by decide +kernel⟩
theorem ok_Uploads_send (bl : Blt mg) {f : Addr} {fd : FuncData} (F : FnP K "send" "Uploads.send" s_Uploads_send f fd) (f_sum_of : Clb P w K mg base 1 "sum_of" (sp_sum_of K)) : FnOk P w K mg base (L2.CX P w) 2 f fd ["self", "upload", "number", "data"] (sp_Uploads_send K) := by
  refine F.ok (k := 1) sc_Uploads_send (fun vs H Q E h => len_Uploads_send h) (fun cdv A outer s H vs Q E hr h => ⟨t_Uploads_send K E, PSs.nox ?_, pure_Uploads_send h⟩)
  have hu := hu_of hr
  exact (pss_cons (ps_dput hu (pe_dget hu (pe_fld (pv 0) rfl) (pv 1) (fun _ _ => rfl)) (pv 2) (pv 3) rfl)
      (pss_one (ps_ret (pe_cl f_sum_of hr (by decide) passL (pa_cons (pv 3) pa_nil)))))
abbrev s_Store_send : Stmt := inClass (top 22) 16
theorem sc_Store_send : FnScope ["self", "upload", "number", "data"] ["self", "upload", "number", "data"] (defScope s_Store_send) := ⟨rfl, rfl, rfl, by decide +kernel, rfl, by decide +kernel, by decide +kernel⟩
theorem ok_Store_send (bl : Blt mg) {f : Addr} {fd : FuncData} (F : FnP K "send" "Store.send" s_Store_send f fd) (m_Uploads_must_be_open : Mtb P w K mg base 1 (He.ga K "Uploads") "must_be_open" (sp_Uploads_must_be_open K)) (x_BadPart : Exn K mg "BadPart") (m_Store_must_fit : Mtb P w K mg base 3 (He.ga K "Store") "must_fit" (sp_Store_must_fit K)) (m_Uploads_size_of : Mtb P w K mg base 1 (He.ga K "Uploads") "size_of" (sp_Uploads_size_of K)) (m_Uploads_send : Mtb P w K mg base 2 (He.ga K "Uploads") "send" (sp_Uploads_send K)) : FnOk P w K mg base (L2.CX P w) 4 f fd ["self", "upload", "number", "data"] (sp_Store_send K) := by
  refine F.ok (k := 3) sc_Store_send (fun vs H Q E h => len_Store_send h) (fun cdv A outer s H vs Q E hr h => ⟨t_Store_send K E, ?_, pure_Store_send h⟩)
  have hu := hu_of hr
  have tk : Takes _ (fun cls d _ H => E cls d H) := takes_of (X := cxOf (L2.CX P w) P w K mg base ["self", "upload", "number", "data"] "Store.send" (defScope s_Store_send) f cdv A outer s H E) rfl rfl rfl rfl
  have px := passes_call (E := E) tk (fun _ _ _ _ h => h)
  have po := passes_of (X := cxOf (L2.CX P w) P w K mg base ["self", "upload", "number", "data"] "Store.send" (defScope s_Store_send) f cdv A outer s H E) rfl
  exact (pss_cons (ps_expr (pe_mt m_Uploads_must_be_open hr (by decide) px (pe_fld (pv 0) rfl) (pa_cons (pv 1) pa_nil)))
      (pss_cons (ps_if (pt_not (pt_chain op_le op_le pe_int (pv 2) pe_int)) (pss_one (ps_rs x_BadPart tk)) pss_nil)
      (pss_cons (ps_expr (pe_mt m_Store_must_fit hr (by decide) px (pv 0) (pa_cons (pe_op op_sub (pe_callB cr_lenStr (by rfl) bl.len bt_len (pa_cons (pv 3) pa_nil)) (pe_mt m_Uploads_size_of hr (by decide) passL (pe_fld (pv 0) rfl) (pa_cons (pv 1) (pa_cons (pv 2) pa_nil)))) pa_nil)))
      (pss_one (ps_ret (pe_mt m_Uploads_send hr (by decide) passL (pe_fld (pv 0) rfl) (pa_cons (pv 1) (pa_cons (pv 2) (pa_cons (pv 3) pa_nil)))))))))
abbrev s_sum_of_parts : Stmt := top 18
theorem sc_sum_of_parts : FnScope ["sums"] ["sums"] (defScope s_sum_of_parts) := ⟨rfl, rfl, rfl, by decide +kernel, rfl, by decide +kernel, by decide +kernel⟩
theorem ok_sum_of_parts (bl : Blt mg) {f : Addr} {fd : FuncData} (F : FnP K "sum_of_parts" "sum_of_parts" s_sum_of_parts f fd) (f_sum_of : Clb P w K mg base 1 "sum_of" (sp_sum_of K)) : FnOk P w K mg base (L2.CX P w) 2 f fd ["sums"] (sp_sum_of_parts K) := by
  refine F.ok (k := 1) sc_sum_of_parts (fun vs H Q E h => len_sum_of_parts h) (fun cdv A outer s H vs Q E hr h => ⟨t_sum_of_parts K E, PSs.nox ?_, pure_sum_of_parts h⟩)
  have hu := hu_of hr
  exact (pss_one (ps_ret (pe_op op_addStr (pe_op op_addStr (pe_cl f_sum_of hr (by decide) passL (pa_cons (pe_m1 PySem.F.slot_str_join PySem.F.type_str_join mtr_join pe_str (pv 0)) pa_nil)) pe_str) (pe_callTy cr_strInt (by rfl) bl.str bt_str (pa_cons (pe_callB cr_lenSeq (by rfl) bl.len bt_len (pa_cons (pv 0) pa_nil)) pa_nil)))))
abbrev s_Uploads_joint : Stmt := inClass (top 20) 8
theorem sc_Uploads_joint : FnScope ["self", "upload", "rows", "some", "data", "k", "number", "total"] ["self", "upload", "rows"] (defScope s_Uploads_joint) := ⟨rfl, rfl, rfl, by decide +kernel, rfl, by decide +kernel, by decide +kernel⟩
theorem ok_Uploads_joint (bl : Blt mg) {f : Addr} {fd : FuncData} (F : FnP K "joint" "Uploads.joint" s_Uploads_joint f fd) (m_Uploads_must_be_open : Mtb P w K mg base 1 (He.ga K "Uploads") "must_be_open" (sp_Uploads_must_be_open K)) (x_BadPart : Exn K mg "BadPart") (f_sum_of : Clb P w K mg base 1 "sum_of" (sp_sum_of K)) (x_TooSmall : Exn K mg "TooSmall") (f_sum_of_parts : Clb P w K mg base 2 "sum_of_parts" (sp_sum_of_parts K)) : FnOk P w K mg base (L2.CX P w) 3 f fd ["self", "upload", "rows"] (sp_Uploads_joint K) := by
  refine F.ok (k := 2) sc_Uploads_joint (fun vs H Q E h => len_Uploads_joint h) (fun cdv A outer s H vs Q E hr h => ⟨t_Uploads_joint K E, ?_, pure_Uploads_joint h⟩)
  have hu := hu_of hr
  have tk : Takes _ (fun cls d _ H => E cls d H) := takes_of (X := cxOf (L2.CX P w) P w K mg base ["self", "upload", "rows", "some", "data", "k", "number", "total"] "Uploads.joint" (defScope s_Uploads_joint) f cdv A outer s H E) rfl rfl rfl rfl
  have px := passes_call (E := E) tk (fun _ _ _ _ h => h)
  have po := passes_of (X := cxOf (L2.CX P w) P w K mg base ["self", "upload", "rows", "some", "data", "k", "number", "total"] "Uploads.joint" (defScope s_Uploads_joint) f cdv A outer s H E) rfl
  exact (pss_cons (ps_expr (pe_mt m_Uploads_must_be_open hr (by decide) px (pv 0) (pa_cons (pv 1) pa_nil)))
      (pss_cons (ps_set (i := 3) sc_Uploads_joint.nd rfl (by first | exact Or.inl rfl | exact Or.inr rfl) (pe_dget hu (pe_fld (pv 0) rfl) (pv 1) (fun _ _ => rfl)))
      (pss_cons (ps_if (PW.pt (pw_or (pt_not (pt_truth (pv 2) (by intro _; rfl))) (pw_or1 (pt_not (pt_val (pe_callB (cr_all rfl) (by rfl) bl.all_ bt_all (pa_cons (pe_lc (own := [("k", 5)]) (g := (gName 5)) (tt := tYes) rfl sc_Uploads_joint.nd (pi_range2 (by rfl) bl.range (pa_cons pe_int (pa_cons (pe_callB cr_lenSeq (by rfl) bl.len bt_len (pa_cons (pv 2) pa_nil)) pa_nil))) (blkOk_by (by kernel_rfl)) (fun _ _ _ _ _ => (pg_name (i := 5) sc_Uploads_joint.nd rfl (by first | exact Or.inl rfl | exact Or.inr rfl))) (fun _ _ _ _ _ => pts_nil) (fun _ _ _ _ _ => (pe_cmpR op_lt (pe_ix ix_tup (pe_ix ix_tup (pv 2) (pe_op op_sub (pv 5) pe_int) (fun _ _ => rfl)) pe_int (fun _ _ => rfl)) (pe_ix ix_tup (pe_ix ix_tup (pv 2) (pv 5) (fun _ _ => rfl)) pe_int (fun _ _ => rfl)) (nomark _)))) pa_nil))))))) (pss_one (ps_rs x_BadPart tk)) pss_nil)
      (pss_cons (ps_if (pt_not (pt_val (pe_callB (cr_all rfl) (by rfl) bl.all_ bt_all (pa_cons (pe_lc (own := [("number", 6), ("total", 7)]) (g := (gTup K 2 (gCons (gName 6) (gCons (gName 7) gNil)))) (tt := tYes) rfl sc_Uploads_joint.nd (pi_tup (pv 2)) (blkOk_by (by kernel_rfl)) (fun _ _ _ _ _ => (pg_tup rfl (pgs_cons (pg_name (i := 6) sc_Uploads_joint.nd rfl (by first | exact Or.inl rfl | exact Or.inr rfl)) (pgs_cons (pg_name (i := 7) sc_Uploads_joint.nd rfl (by first | exact Or.inl rfl | exact Or.inr rfl)) pgs_nil)))) (fun _ _ _ _ _ => pts_nil) (fun _ _ _ _ _ => (pe_and (pe_cmp (pc_din hu (pv 6) (pv 3)) rfl) (pe_one (pe_cmpR op_eq (pe_cl f_sum_of hr (by decide) passL (pa_cons (pe_dget hu (pv 3) (pv 6) (fun _ _ => rfl)) pa_nil)) (pv 7) (nomark _)))))) pa_nil)))) (pss_one (ps_rs x_BadPart tk)) pss_nil)
      (pss_cons (ps_if (pt_val (pe_callB (cr_any rfl) (by rfl) bl.any_ bt_any (pa_cons (pe_lc (own := [("number", 6), ("total", 7)]) (g := (gTup K 2 (gCons (gName 6) (gCons (gName 7) gNil)))) (tt := tYes) rfl sc_Uploads_joint.nd (pi_tup (pe_slice sl_tupA (pv 2) po_none (po_some (pe_un un_neg pe_int)))) (blkOk_by (by kernel_rfl)) (fun _ _ _ _ _ => (pg_tup rfl (pgs_cons (pg_name (i := 6) sc_Uploads_joint.nd rfl (by first | exact Or.inl rfl | exact Or.inr rfl)) (pgs_cons (pg_name (i := 7) sc_Uploads_joint.nd rfl (by first | exact Or.inl rfl | exact Or.inr rfl)) pgs_nil)))) (fun _ _ _ _ _ => pts_nil) (fun _ _ _ _ _ => (pe_cmpR op_lt (pe_callB cr_lenStr (by rfl) bl.len bt_len (pa_cons (pe_dget hu (pv 3) (pv 6) (fun _ _ => rfl)) pa_nil)) pe_int (nomark _)))) pa_nil))) (pss_one (ps_rs x_TooSmall tk)) pss_nil)
      (pss_cons (ps_set (i := 4) sc_Uploads_joint.nd rfl (by first | exact Or.inl rfl | exact Or.inr rfl) (pe_m1 PySem.F.slot_str_join PySem.F.type_str_join mtr_join pe_str (pe_lc (own := [("number", 6), ("total", 7)]) (g := (gTup K 2 (gCons (gName 6) (gCons (gName 7) gNil)))) (tt := tYes) rfl sc_Uploads_joint.nd (pi_tup (pv 2)) (blkOk_by (by kernel_rfl)) (fun _ _ _ _ _ => (pg_tup rfl (pgs_cons (pg_name (i := 6) sc_Uploads_joint.nd rfl (by first | exact Or.inl rfl | exact Or.inr rfl)) (pgs_cons (pg_name (i := 7) sc_Uploads_joint.nd rfl (by first | exact Or.inl rfl | exact Or.inr rfl)) pgs_nil)))) (fun _ _ _ _ _ => pts_nil) (fun _ _ _ _ _ => (pe_dget hu (pv 3) (pv 6) (fun _ _ => rfl))))))
      (pss_one (ps_ret (pe_tup (pa_cons (pe_ix ix_tup (pe_dget hu (pe_fld (pv 0) rfl) (pv 1) (fun _ _ => rfl)) pe_int (fun _ _ => rfl)) (pa_cons (pv 4) (pa_cons (pe_cl f_sum_of_parts hr (by decide) passL (pa_cons (pe_callTy cr_tupleOf (by rfl) bl.tuple bt_tuple (pa_cons (pe_lc (own := [("number", 6), ("total", 7)]) (g := (gTup K 2 (gCons (gName 6) (gCons (gName 7) gNil)))) (tt := tYes) rfl sc_Uploads_joint.nd (pi_tup (pv 2)) (blkOk_by (by kernel_rfl)) (fun _ _ _ _ _ => (pg_tup rfl (pgs_cons (pg_name (i := 6) sc_Uploads_joint.nd rfl (by first | exact Or.inl rfl | exact Or.inr rfl)) (pgs_cons (pg_name (i := 7) sc_Uploads_joint.nd rfl (by first | exact Or.inl rfl | exact Or.inr rfl)) pgs_nil)))) (fun _ _ _ _ _ => pts_nil) (fun _ _ _ _ _ => (pv 7))) pa_nil)) pa_nil)) pa_nil))))))))))))
abbrev s_Uploads_close : Stmt := inClass (top 20) 6
theorem sc_Uploads_close : FnScope ["self", "upload"] ["self", "upload"] (defScope s_Uploads_close) := ⟨rfl, rfl, rfl, by decide +kernel, rfl, by decide +kernel, by decide +kernel⟩
theorem ok_Uploads_close (bl : Blt mg) {f : Addr} {fd : FuncData} (F : FnP K "close" "Uploads.close" s_Uploads_close f fd) (m_Uploads_must_be_open : Mtb P w K mg base 1 (He.ga K "Uploads") "must_be_open" (sp_Uploads_must_be_open K)) : FnOk P w K mg base (L2.CX P w) 2 f fd ["self", "upload"] (sp_Uploads_close K) := by
  refine F.ok (k := 1) sc_Uploads_close (fun vs H Q E h => len_Uploads_close h) (fun cdv A outer s H vs Q E hr h => ⟨t_Uploads_close K E, ?_, pure_Uploads_close h⟩)
  have hu := hu_of hr
  have tk : Takes _ (fun cls d _ H => E cls d H) := takes_of (X := cxOf (L2.CX P w) P w K mg base ["self", "upload"] "Uploads.close" (defScope s_Uploads_close) f cdv A outer s H E) rfl rfl rfl rfl
  have px := passes_call (E := E) tk (fun _ _ _ _ h => h)
  have po := passes_of (X := cxOf (L2.CX P w) P w K mg base ["self", "upload"] "Uploads.close" (defScope s_Uploads_close) f cdv A outer s H E) rfl
  exact (pss_cons (ps_expr (pe_mt m_Uploads_must_be_open hr (by decide) px (pv 0) (pa_cons (pv 1) pa_nil)))
      (pss_cons (ps_expr (pe_dpop1 (pe_fld (pv 0) rfl) (pv 1) ⟨rfl, rfl, rfl, rfl⟩))
      (pss_one (ps_expr (pe_dpop1 (pe_fld (pv 0) rfl) (pv 1) ⟨rfl, rfl, rfl, rfl⟩)))))
abbrev s_Store_finish : Stmt := inClass (top 22) 20
theorem sc_Store_finish : FnScope ["self", "upload", "rows", "key", "data", "total"] ["self", "upload", "rows"] (defScope s_Store_finish) := ⟨rfl, rfl, rfl, by decide +kernel, rfl, by decide +kernel, by decide +kernel⟩
theorem ok_Store_finish (bl : Blt mg) {f : Addr} {fd : FuncData} (F : FnP K "finish" "Store.finish" s_Store_finish f fd) (m_Uploads_joint : Mtb P w K mg base 3 (He.ga K "Uploads") "joint" (sp_Uploads_joint K)) (m_Uploads_close : Mtb P w K mg base 2 (He.ga K "Uploads") "close" (sp_Uploads_close K)) (m_Store_come : Mtb P w K mg base 3 (He.ga K "Store") "come" (sp_Store_come K)) : FnOk P w K mg base (L2.CX P w) 4 f fd ["self", "upload", "rows"] (sp_Store_finish K) := by
  refine F.ok (k := 3) sc_Store_finish (fun vs H Q E h => len_Store_finish h) (fun cdv A outer s H vs Q E hr h => ⟨t_Store_finish K E, ?_, pure_Store_finish h⟩)
  have hu := hu_of hr
  have tk : Takes _ (fun cls d _ H => E cls d H) := takes_of (X := cxOf (L2.CX P w) P w K mg base ["self", "upload", "rows", "key", "data", "total"] "Store.finish" (defScope s_Store_finish) f cdv A outer s H E) rfl rfl rfl rfl
  have px := passes_call (E := E) tk (fun _ _ _ _ h => h)
  have po := passes_of (X := cxOf (L2.CX P w) P w K mg base ["self", "upload", "rows", "key", "data", "total"] "Store.finish" (defScope s_Store_finish) f cdv A outer s H E) rfl
  exact (pss_cons (ps_asg (pe_mt m_Uploads_joint hr (by decide) px (pe_fld (pv 0) rfl) (pa_cons (pv 1) (pa_cons (pv 2) pa_nil))) (pg_tup rfl (pgs_cons (pg_name (i := 3) sc_Store_finish.nd rfl (by first | exact Or.inl rfl | exact Or.inr rfl)) (pgs_cons (pg_name (i := 4) sc_Store_finish.nd rfl (by first | exact Or.inl rfl | exact Or.inr rfl)) (pgs_cons (pg_name (i := 5) sc_Store_finish.nd rfl (by first | exact Or.inl rfl | exact Or.inr rfl)) pgs_nil)))))
      (pss_cons (ps_expr (pe_mt m_Uploads_close hr (by decide) px (pe_fld (pv 0) rfl) (pa_cons (pv 1) pa_nil)))
      (pss_one (ps_ret (pe_mt m_Store_come hr (by decide) passL (pv 0) (pa_cons (pv 3) (pa_cons (pv 4) (pa_cons (pv 5) pa_nil))))))))
abbrev s_law_same : Stmt := top 26
theorem sc_law_same : FnScope ["found", "due", "one", "other"] ["found", "due"] (defScope s_law_same) := ⟨rfl, rfl, rfl, by decide +kernel, rfl, by decide +kernel, by decide +kernel⟩
theorem ok_law_same (bl : Blt mg) {f : Addr} {fd : FuncData} (F : FnP K "_law_same" "_law_same" s_law_same f fd) (gm : mg "_law_same" = some (.ref f)) (bb : Binds K fd ["found", "due"] [])  : ∀ n, FnOk P w K mg base (L2.CX P w) n f fd ["found", "due"] (sp_law_same n K)
  | 0 => ⟨fun _ _ _ _ h => h.elim, fun _ _ _ _ _ _ _ _ _ _ _ _ _ h => h.elim⟩
  | n + 1 => by
    have ih := ok_law_same bl F gm bb n
    have f_law_same : Clb P w K mg base n "_law_same" (sp_law_same n K) := ⟨_, _, _, ih, gm, F.kp, bb⟩
    refine F.ok sc_law_same (fun vs H Q E h => len_law_same h) (fun cdv A outer s H vs Q E hr h => ⟨t_law_same n K E, PSs.nox ?_, pure_law_same h⟩)
    have hu := hu_of hr
    exact (pss_cons (ps_if (pt_val (pe_callB call_isi (by rfl) bl.isinstance bt_isinstance (pa_cons (pv 1) (pa_cons (pe_bltn (v := .ty "tuple") (by rfl) bl.tuple bt_tuple rfl) pa_nil)))) (pss_cons (ps_if (PW.pt (pw_or (pt_not (pt_val (pe_callB call_isi (by rfl) bl.isinstance bt_isinstance (pa_cons (pv 0) (pa_cons (pe_bltn (v := .ty "tuple") (by rfl) bl.tuple bt_tuple rfl) pa_nil))))) (pw_or1 (pt_cmpR op_ne (pe_callB cr_lenSeq (by rfl) bl.len bt_len (pa_cons (pv 0) pa_nil)) (pe_callB cr_lenSeq (by rfl) bl.len bt_len (pa_cons (pv 1) pa_nil)) (nomark _))))) (pss_one (ps_ret pe_bl)) pss_nil)
      (pss_one (ps_ret (pe_callB (cr_all rfl) (by rfl) bl.all_ bt_all (pa_cons (pe_lc (own := [("one", 2), ("other", 3)]) (g := (gTup K 2 (gCons (gName 2) (gCons (gName 3) gNil)))) (tt := tYes) rfl sc_law_same.nd (RZ.pi_zipA (by rfl) bl.zip (pa_cons (pv 0) (pa_cons (pv 1) pa_nil))) (blkOk_by (by kernel_rfl)) (fun _ _ _ _ _ => (pg_tup rfl (pgs_cons (pg_name (i := 2) sc_law_same.nd rfl (by first | exact Or.inl rfl | exact Or.inr rfl)) (pgs_cons (pg_name (i := 3) sc_law_same.nd rfl (by first | exact Or.inl rfl | exact Or.inr rfl)) pgs_nil)))) (fun _ _ _ _ _ => pts_nil) (fun _ _ _ _ _ => (pe_cl f_law_same hr (Nat.le_refl _) passL (pa_cons (pv 2) (pa_cons (pv 3) pa_nil))))) pa_nil))))) pss_nil)
      (pss_cons (ps_if (pt_cmpR op_isN (pv 1) pe_non (nomark _)) (pss_one (ps_ret (pe_cmpR op_isN (pv 0) pe_non (nomark _)))) pss_nil)
      (pss_cons (ps_if (PW.pt (pw_or (pt_val (pe_callB call_isi (by rfl) bl.isinstance bt_isinstance (pa_cons (pv 1) (pa_cons (pe_bltn (v := .ty "bool") (by rfl) bl.bool bt_bool rfl) pa_nil)))) (pw_or1 (pt_val (pe_callB call_isi (by rfl) bl.isinstance bt_isinstance (pa_cons (pv 0) (pa_cons (pe_bltn (v := .ty "bool") (by rfl) bl.bool bt_bool rfl) pa_nil))))))) (pss_one (ps_ret (pe_and (pe_callB call_isi (by rfl) bl.isinstance bt_isinstance (pa_cons (pv 1) (pa_cons (pe_bltn (v := .ty "bool") (by rfl) bl.bool bt_bool rfl) pa_nil))) (pe_and (pe_callB call_isi (by rfl) bl.isinstance bt_isinstance (pa_cons (pv 0) (pa_cons (pe_bltn (v := .ty "bool") (by rfl) bl.bool bt_bool rfl) pa_nil))) (pe_one (pe_cmpR op_eq (pv 0) (pv 1) (nomark _))))))) pss_nil)
      (pss_one (ps_ret (pe_and (pe_callB call_isiT (by rfl) bl.isinstance bt_isinstance (pa_cons (pv 0) (pa_cons (pe_tup (pa_cons (pe_bltn (v := .ty "int") (by rfl) bl.int bt_int rfl) (pa_cons (pe_bltn (v := .ty "str") (by rfl) bl.str bt_str rfl) pa_nil))) pa_nil))) (pe_one (pe_cmpR op_eq (pv 0) (pv 1) (nomark _)))))))))
abbrev s_law_tails : Stmt := top 30
theorem sc_law_tails : FnScope ["store", "key", "text", "cut", "due", "word"] ["store", "key", "text", "cut"] (defScope s_law_tails) := ⟨rfl, rfl, rfl, by decide +kernel, rfl, by decide +kernel, by decide +kernel⟩
theorem ok_law_tails (bl : Blt mg) {f : Addr} {fd : FuncData} (F : FnP K "_law_tails" "_law_tails" s_law_tails f fd) (f_law_told : Clb P w K mg base 5 "_law_told" (sp_law_told K)) (f_law_same : Clb P w K mg base 5 "_law_same" (sp_law_same 5 K)) : FnOk P w K mg base (L2.CX P w) 6 f fd ["store", "key", "text", "cut"] (sp_law_tails K) := by
  refine F.ok (k := 5) sc_law_tails (fun vs H Q E h => len_law_tails h) (fun cdv A outer s H vs Q E hr h => ⟨t_law_tails K E, PSs.nox ?_, pure_law_tails h⟩)
  have hu := hu_of hr
  exact (pss_cons (ps_set (i := 4) sc_law_tails.nd rfl (by first | exact Or.inl rfl | exact Or.inr rfl) (pe_tup (pa_cons pe_bl (pa_cons pe_bl (pa_cons pe_bl pa_nil)))))
      (pss_cons (ps_if (pt_cmpR op_ne (pe_slice sl_str (pv 2) (po_some (pv 3)) po_none) pe_str (nomark _)) (pss_one (ps_set (i := 4) sc_law_tails.nd rfl (by first | exact Or.inl rfl | exact Or.inr rfl) (pe_slice sl_str (pv 2) (po_some (pv 3)) po_none))) pss_nil)
      (pss_cons (ps_for PassesOwn.never rfl (pi_tup (pe_tup (pa_cons (pe_op op_addStr (pe_callTy cr_strInt (by rfl) bl.str bt_str (pa_cons (pv 3) pa_nil)) pe_str) (pa_cons (pe_op op_addStr pe_str (pe_callTy cr_strInt (by rfl) bl.str bt_str (pa_cons (pe_op op_sub (pe_callB cr_lenStr (by rfl) bl.len bt_len (pa_cons (pv 2) pa_nil)) (pv 3)) pa_nil))) (pa_cons (pe_op op_addStr (pe_op op_addStr (pe_callTy cr_strInt (by rfl) bl.str bt_str (pa_cons (pv 3) pa_nil)) pe_str) (pe_callTy cr_strInt (by rfl) bl.str bt_str (pa_cons (pe_op op_add (pe_callB cr_lenStr (by rfl) bl.len bt_len (pa_cons (pv 2) pa_nil)) pe_int) pa_nil))) pa_nil))))) (pg_name (i := 5) sc_law_tails.nd rfl (by first | exact Or.inl rfl | exact Or.inr rfl)) (pss_one (ps_if (pt_not (pt_val (pe_cl f_law_same hr (by decide) passL (pa_cons (pe_cl f_law_told hr (by decide) passL (pa_cons (pv 0) (pa_cons (pv 1) (pa_cons (pe_op op_addStr pe_str (pv 5)) pa_nil)))) (pa_cons (pv 4) pa_nil))))) (pss_one (ps_ret pe_bl)) pss_nil)))
      (pss_one (ps_ret pe_bl)))))
abbrev s_Store_drop : Stmt := inClass (top 22) 8
theorem sc_Store_drop : FnScope ["self", "key"] ["self", "key"] (defScope s_Store_drop) := ⟨rfl, rfl, rfl, by decide +kernel, rfl, by decide +kernel, by decide +kernel⟩
theorem ok_Store_drop (bl : Blt mg) {f : Addr} {fd : FuncData} (F : FnP K "drop" "Store.drop" s_Store_drop f fd) (m_Shelf_newest : Mtb P w K mg base 2 (He.ga K "Shelf") "newest" (sp_Shelf_newest K)) (m_Store_come : Mtb P w K mg base 3 (He.ga K "Store") "come" (sp_Store_come K)) : FnOk P w K mg base (L2.CX P w) 4 f fd ["self", "key"] (sp_Store_drop K) := by
  refine F.ok (k := 3) sc_Store_drop (fun vs H Q E h => len_Store_drop h) (fun cdv A outer s H vs Q E hr h => ⟨t_Store_drop K E, ?_, pure_Store_drop h⟩)
  have hu := hu_of hr
  have tk : Takes _ (fun cls d _ H => E cls d H) := takes_of (X := cxOf (L2.CX P w) P w K mg base ["self", "key"] "Store.drop" (defScope s_Store_drop) f cdv A outer s H E) rfl rfl rfl rfl
  have px := passes_call (E := E) tk (fun _ _ _ _ h => h)
  have po := passes_of (X := cxOf (L2.CX P w) P w K mg base ["self", "key"] "Store.drop" (defScope s_Store_drop) f cdv A outer s H E) rfl
  exact (pss_cons (ps_expr (pe_mt m_Shelf_newest hr (by decide) px (pe_fld (pv 0) rfl) (pa_cons (pv 1) pa_nil)))
      (pss_one (ps_ret (pe_mt m_Store_come hr (by decide) passL (pv 0) (pa_cons (pv 1) (pa_cons pe_non (pa_cons pe_non pa_nil)))))))
abbrev s_law_ends : Stmt := top 31
theorem sc_law_ends : FnScope ["store", "key", "gone"] ["store", "key"] (defScope s_law_ends) := ⟨rfl, rfl, rfl, by decide +kernel, rfl, by decide +kernel, by decide +kernel⟩
theorem ok_law_ends (bl : Blt mg) {f : Addr} {fd : FuncData} (F : FnP K "_law_ends" "_law_ends" s_law_ends f fd) (m_Store_put : Mtb P w K mg base 4 (He.ga K "Store") "put" (sp_Store_put K)) (f_law_told : Clb P w K mg base 5 "_law_told" (sp_law_told K)) (m_Store_drop : Mtb P w K mg base 4 (He.ga K "Store") "drop" (sp_Store_drop K)) : FnOk P w K mg base (L2.CX P w) 6 f fd ["store", "key"] (sp_law_ends K) := by
  refine F.ok (k := 5) sc_law_ends (fun vs H Q E h => len_law_ends h) (fun cdv A outer s H vs Q E hr h => ⟨t_law_ends K E, PSs.nox ?_, pure_law_ends h⟩)
  have hu := hu_of hr
  exact (pss_cons (ps_expr (pe_mt m_Store_put hr (by decide) passL (pv 0) (pa_cons (pv 1) (pa_cons pe_str pa_nil))))
      (pss_cons (ps_if (pt_cmpR (op_neD hr.units) (pe_cl f_law_told hr (by decide) passL (pa_cons (pv 0) (pa_cons (pv 1) (pa_cons pe_str pa_nil)))) (pe_tup (pa_cons pe_bl (pa_cons pe_bl (pa_cons pe_bl pa_nil)))) (nomark _)) (pss_one (ps_ret pe_bl)) pss_nil)
      (pss_cons (ps_expr (pe_mt m_Store_drop hr (by decide) passL (pv 0) (pa_cons (pv 1) pa_nil)))
      (pss_cons (ps_set (i := 2) sc_law_ends.nd rfl (by first | exact Or.inl rfl | exact Or.inr rfl) (pe_tup (pa_cons pe_bl (pa_cons pe_bl (pa_cons pe_bl pa_nil)))))
      (pss_one (ps_ret (pe_and (pe_cmpR (op_eqD hr.units) (pe_cl f_law_told hr (by decide) passL (pa_cons (pv 0) (pa_cons (pv 1) (pa_cons pe_str pa_nil)))) (pv 2) (nomark _)) (pe_one (pe_cmpR (op_eqD hr.units) (pe_cl f_law_told hr (by decide) passL (pa_cons (pv 0) (pa_cons (pv 1) (pa_cons pe_str pa_nil)))) (pv 2) (nomark _))))))))))
abbrev s_thelaw : Stmt := top 32
theorem sc_thelaw : FnScope ["script", "store", "key", "text", "upload", "more", "rows", "size", "cuts", "whole", "k", "found", "cut"] ["script"] (defScope s_thelaw) := ⟨rfl, rfl, rfl, by decide +kernel, rfl, by decide +kernel, by decide +kernel⟩
theorem ok_thelaw (bl : Blt mg) {f : Addr} {fd : FuncData} (F : FnP K "law" "law" s_thelaw f fd) (mk_Store : Mkb P w K mg base 3 "Store" (He.ga K "Store") (sp_Store_init K)) (cf_Store : CfS K) (f_law_cell : Clb P w K mg base 1 "_law_cell" (sp_law_cell K)) (f_law_key : Clb P w K mg base 2 "_law_key" (sp_law_key K)) (f_law_told : Clb P w K mg base 5 "_law_told" (sp_law_told K)) (m_Store_put : Mtb P w K mg base 4 (He.ga K "Store") "put" (sp_Store_put K)) (f_law_data : Clb P w K mg base 2 "_law_data" (sp_law_data K)) (m_Store_begin : Mtb P w K mg base 2 (He.ga K "Store") "begin" (sp_Store_begin K)) (m_Store_send : Mtb P w K mg base 4 (He.ga K "Store") "send" (sp_Store_send K)) (m_Store_finish : Mtb P w K mg base 4 (He.ga K "Store") "finish" (sp_Store_finish K)) (f_law_mix : Clb P w K mg base 1 "_law_mix" (sp_law_mix K)) (f_law_same : Clb P w K mg base 5 "_law_same" (sp_law_same 5 K)) (f_law_tails : Clb P w K mg base 6 "_law_tails" (sp_law_tails K)) (f_law_ends : Clb P w K mg base 6 "_law_ends" (sp_law_ends K)) : FnOk P w K mg base (L2.CX P w) 7 f fd ["script"] (sp_thelaw K) := by
  refine F.ok (k := 6) sc_thelaw (fun vs H Q E h => len_thelaw h) (fun cdv A outer s H vs Q E hr h => ⟨t_thelaw K E, PSs.nox ?_, pure_thelaw cf_Store h⟩)
  have hu := hu_of hr
  exact (pss_cons (ps_set (i := 1) sc_thelaw.nd rfl (by first | exact Or.inl rfl | exact Or.inr rfl) (pe_mk mk_Store hr (by decide) passL (pa_cons pe_int pa_nil)))
      (pss_cons (ps_set (i := 2) sc_thelaw.nd rfl (by first | exact Or.inl rfl | exact Or.inr rfl) (pe_cl f_law_key hr (by decide) passL (pa_cons (pe_cl f_law_cell hr (by decide) passL (pa_cons (pv 0) (pa_cons pe_int pa_nil))) pa_nil)))
      (pss_cons (ps_if (PW.pt (pw_or (pt_cmpR (op_neD hr.units) (pe_cl f_law_told hr (by decide) passL (pa_cons (pv 1) (pa_cons (pv 2) (pa_cons pe_str pa_nil)))) (pe_tup (pa_cons pe_bl (pa_cons pe_bl (pa_cons pe_bl pa_nil)))) (nomark _)) (pw_or1 (pt_cmpR (op_neD hr.units) (pe_cl f_law_told hr (by decide) passL (pa_cons (pv 1) (pa_cons (pv 2) (pa_cons pe_str pa_nil)))) (pe_tup (pa_cons pe_bl (pa_cons pe_bl (pa_cons pe_bl pa_nil)))) (nomark _))))) (pss_one (ps_ret pe_bl)) pss_nil)
      (pss_cons (ps_expr (pe_mt m_Store_put hr (by decide) passL (pv 1) (pa_cons (pv 2) (pa_cons (pe_op op_mulStr pe_str pe_int) pa_nil))))
      (pss_cons (ps_set (i := 3) sc_thelaw.nd rfl (by first | exact Or.inl rfl | exact Or.inr rfl) (pe_op op_addStr (pe_cl f_law_data hr (by decide) passL (pa_cons (pe_cl f_law_cell hr (by decide) passL (pa_cons (pv 0) (pa_cons pe_int pa_nil))) pa_nil)) pe_str))
      (pss_cons (ps_set (i := 3) sc_thelaw.nd rfl (by first | exact Or.inl rfl | exact Or.inr rfl) (pe_slice sl_str (pv 3) po_none (po_some pe_int)))
      (pss_cons (ps_if (pt_cmpR op_eq (pe_op op_mod (pe_cl f_law_cell hr (by decide) passL (pa_cons (pv 0) (pa_cons pe_int pa_nil))) pe_int) pe_int (nomark _)) (pss_one (ps_expr (pe_mt m_Store_put hr (by decide) passL (pv 1) (pa_cons (pv 2) (pa_cons (pv 3) pa_nil))))) (pss_cons (ps_set (i := 4) sc_thelaw.nd rfl (by first | exact Or.inl rfl | exact Or.inr rfl) (pe_mt m_Store_begin hr (by decide) passL (pv 1) (pa_cons (pv 2) pa_nil)))
      (pss_cons (ps_set (i := 5) sc_thelaw.nd rfl (by first | exact Or.inl rfl | exact Or.inr rfl) (pe_cl f_law_data hr (by decide) passL (pa_cons (pe_cl f_law_cell hr (by decide) passL (pa_cons (pv 0) (pa_cons pe_int pa_nil))) pa_nil)))
      (pss_cons (ps_set (i := 6) sc_thelaw.nd rfl (by first | exact Or.inl rfl | exact Or.inr rfl) (pe_tup (pa_cons (pe_tup (pa_cons pe_int (pa_cons (pe_mt m_Store_send hr (by decide) passL (pv 1) (pa_cons (pv 4) (pa_cons pe_int (pa_cons (pe_op op_addStr (pv 3) (pe_slice sl_str pe_str (po_some (pe_callB cr_lenStr (by rfl) bl.len bt_len (pa_cons (pv 3) pa_nil))) po_none)) pa_nil)))) pa_nil))) (pa_cons (pe_tup (pa_cons pe_int (pa_cons (pe_mt m_Store_send hr (by decide) passL (pv 1) (pa_cons (pv 4) (pa_cons pe_int (pa_cons (pv 5) pa_nil)))) pa_nil))) pa_nil))))
      (pss_cons (ps_set (i := 3) sc_thelaw.nd rfl (by first | exact Or.inl rfl | exact Or.inr rfl) (pe_op op_addStr (pe_op op_addStr (pv 3) (pe_slice sl_str pe_str (po_some (pe_callB cr_lenStr (by rfl) bl.len bt_len (pa_cons (pv 3) pa_nil))) po_none)) (pv 5)))
      (pss_one (ps_expr (pe_mt m_Store_finish hr (by decide) passL (pv 1) (pa_cons (pv 4) (pa_cons (pv 6) pa_nil))))))))))
      (pss_cons (ps_set (i := 7) sc_thelaw.nd rfl (by first | exact Or.inl rfl | exact Or.inr rfl) (pe_callB cr_lenStr (by rfl) bl.len bt_len (pa_cons (pv 3) pa_nil)))
      (pss_cons (ps_set (i := 8) sc_thelaw.nd rfl (by first | exact Or.inl rfl | exact Or.inr rfl) (pe_sortSetI rfl (by rfl) bl.sorted (by rfl) bl.set (pe_op op_cat (pe_lst (pa_cons pe_int (pa_cons (pv 7) pa_nil))) (pe_lc (own := [("k", 10)]) (g := (gName 10)) (tt := tYes) rfl sc_thelaw.nd (pi_range1 (by rfl) bl.range (pa_cons pe_int pa_nil)) (blkOk_by (by kernel_rfl)) (fun _ _ _ _ _ => (pg_name (i := 10) sc_thelaw.nd rfl (by first | exact Or.inl rfl | exact Or.inr rfl))) (fun _ _ _ _ _ => pts_nil) (fun _ _ _ _ _ => (pe_cl f_law_mix hr (by decide) passL (pa_cons (pe_op op_add (pe_cl f_law_cell hr (by decide) passL (pa_cons (pv 0) (pa_cons (pe_op op_add pe_int (pv 10)) pa_nil))) (pv 10)) (pa_cons pe_int (pa_cons (pe_op op_add (pv 7) pe_int) pa_nil)))))))))
      (pss_cons (ps_set (i := 9) sc_thelaw.nd rfl (by first | exact Or.inl rfl | exact Or.inr rfl) pe_str)
      (pss_cons (ps_for PassesOwn.never rfl (pi_range2 (by rfl) bl.range (pa_cons pe_int (pa_cons (pe_callB cr_lenSeq (by rfl) bl.len bt_len (pa_cons (pv 8) pa_nil)) pa_nil))) (pg_name (i := 10) sc_thelaw.nd rfl (by first | exact Or.inl rfl | exact Or.inr rfl)) (pss_cons (ps_set (i := 11) sc_thelaw.nd rfl (by first | exact Or.inl rfl | exact Or.inr rfl) (pe_cl f_law_told hr (by decide) passL (pa_cons (pv 1) (pa_cons (pv 2) (pa_cons (pe_op op_addStr (pe_op op_addStr (pe_op op_addStr pe_str (pe_callTy cr_strInt (by rfl) bl.str bt_str (pa_cons (pe_ix ix_list (pv 8) (pe_op op_sub (pv 10) pe_int) (fun _ _ => rfl)) pa_nil))) pe_str) (pe_callTy cr_strInt (by rfl) bl.str bt_str (pa_cons (pe_op op_sub (pe_ix ix_list (pv 8) (pv 10) (fun _ _ => rfl)) pe_int) pa_nil))) pa_nil)))))
      (pss_cons (ps_if (pt_not (pt_val (pe_cl f_law_same hr (by decide) passL (pa_cons (pv 11) (pa_cons (pe_slice sl_str (pv 3) (po_some (pe_ix ix_list (pv 8) (pe_op op_sub (pv 10) pe_int) (fun _ _ => rfl))) (po_some (pe_ix ix_list (pv 8) (pv 10) (fun _ _ => rfl)))) pa_nil))))) (pss_one (ps_ret pe_bl)) pss_nil)
      (pss_one (ps_set (i := 9) sc_thelaw.nd rfl (by first | exact Or.inl rfl | exact Or.inr rfl) (pe_op op_addStr (pv 9) (pv 11)))))))
      (pss_cons (ps_if (PW.pt (pw_or (pt_cmpR op_ne (pv 9) (pv 3) (nomark _)) (pw_or1 (pt_not (pt_val (pe_callB (cr_all rfl) (by rfl) bl.all_ bt_all (pa_cons (pe_lc (own := [("cut", 12)]) (g := (gName 12)) (tt := tYes) rfl sc_thelaw.nd (pi_list (pv 8)) (blkOk_by (by kernel_rfl)) (fun _ _ _ _ _ => (pg_name (i := 12) sc_thelaw.nd rfl (by first | exact Or.inl rfl | exact Or.inr rfl))) (fun _ _ _ _ _ => pts_nil) (fun _ _ _ _ _ => (pe_cl f_law_tails hr (by decide) passL (pa_cons (pv 1) (pa_cons (pv 2) (pa_cons (pv 3) (pa_cons (pv 12) pa_nil))))))) pa_nil))))))) (pss_one (ps_ret pe_bl)) pss_nil)
      (pss_cons (ps_if (pt_not (pt_val (pe_cl f_law_same hr (by decide) passL (pa_cons (pe_cl f_law_told hr (by decide) passL (pa_cons (pv 1) (pa_cons (pv 2) (pa_cons (pe_op op_addStr pe_str (pe_callTy cr_strInt (by rfl) bl.str bt_str (pa_cons (pe_op op_add (pv 7) pe_int) pa_nil))) pa_nil)))) (pa_cons (pv 3) pa_nil))))) (pss_one (ps_ret pe_bl)) pss_nil)
      (pss_one (ps_ret (pe_cl f_law_ends hr (by decide) passL (pa_cons (pv 1) (pa_cons (pv 2) pa_nil))))))))))))))))))
end
def d_Shelf_init : He.DefD := ⟨("Shelf", some "__init__"), "__init__", "Shelf.__init__", defArgs s_Shelf_init, defBody s_Shelf_init, defScope s_Shelf_init, [], []⟩
def d_Uploads_init : He.DefD := ⟨("Uploads", some "__init__"), "__init__", "Uploads.__init__", defArgs s_Uploads_init, defBody s_Uploads_init, defScope s_Uploads_init, [], []⟩
def d_Store_init : He.DefD := ⟨("Store", some "__init__"), "__init__", "Store.__init__", defArgs s_Store_init, defBody s_Store_init, defScope s_Store_init, [], []⟩
def d_law_cell : He.DefD := ⟨("_law_cell", none), "_law_cell", "_law_cell", defArgs s_law_cell, defBody s_law_cell, defScope s_law_cell, [], []⟩
def d_law_mix : He.DefD := ⟨("_law_mix", none), "_law_mix", "_law_mix", defArgs s_law_mix, defBody s_law_mix, defScope s_law_mix, [], []⟩
def d_law_key : He.DefD := ⟨("_law_key", none), "_law_key", "_law_key", defArgs s_law_key, defBody s_law_key, defScope s_law_key, [], []⟩
def d_Shelf_rows_of : He.DefD := ⟨("Shelf", some "rows_of"), "rows_of", "Shelf.rows_of", defArgs s_Shelf_rows_of, defBody s_Shelf_rows_of, defScope s_Shelf_rows_of, [], []⟩
def d_Shelf_newest : He.DefD := ⟨("Shelf", some "newest"), "newest", "Shelf.newest", defArgs s_Shelf_newest, defBody s_Shelf_newest, defScope s_Shelf_newest, [], []⟩
def d_Store_get : He.DefD := ⟨("Store", some "get"), "get", "Store.get", defArgs s_Store_get, defBody s_Store_get, defScope s_Store_get, [], []⟩
def d_number_of : He.DefD := ⟨("number_of", none), "number_of", "number_of", defArgs s_number_of, defBody s_number_of, defScope s_number_of, [], []⟩
def d_read_range : He.DefD := ⟨("read_range", none), "read_range", "read_range", defArgs s_read_range, defBody s_read_range, defScope s_read_range, [], []⟩
def d_Store_get_range : He.DefD := ⟨("Store", some "get_range"), "get_range", "Store.get_range", defArgs s_Store_get_range, defBody s_Store_get_range, defScope s_Store_get_range, [], []⟩
def d_law_told : He.DefD := ⟨("_law_told", none), "_law_told", "_law_told", defArgs s_law_told, defBody s_law_told, defScope s_law_told, [], []⟩
def d_Shelf_total : He.DefD := ⟨("Shelf", some "total"), "total", "Shelf.total", defArgs s_Shelf_total, defBody s_Shelf_total, defScope s_Shelf_total, [], []⟩
def d_Uploads_total : He.DefD := ⟨("Uploads", some "total"), "total", "Uploads.total", defArgs s_Uploads_total, defBody s_Uploads_total, defScope s_Uploads_total, [], []⟩
def d_Store_size : He.DefD := ⟨("Store", some "size"), "size", "Store.size", defArgs s_Store_size, defBody s_Store_size, defScope s_Store_size, [], []⟩
def d_Store_must_fit : He.DefD := ⟨("Store", some "must_fit"), "must_fit", "Store.must_fit", defArgs s_Store_must_fit, defBody s_Store_must_fit, defScope s_Store_must_fit, [], []⟩
def d_Shelf_come : He.DefD := ⟨("Shelf", some "come"), "come", "Shelf.come", defArgs s_Shelf_come, defBody s_Shelf_come, defScope s_Shelf_come, [], []⟩
def d_Store_note : He.DefD := ⟨("Store", some "note"), "note", "Store.note", defArgs s_Store_note, defBody s_Store_note, defScope s_Store_note, [], []⟩
def d_Store_come : He.DefD := ⟨("Store", some "come"), "come", "Store.come", defArgs s_Store_come, defBody s_Store_come, defScope s_Store_come, [], []⟩
def d_sum_of : He.DefD := ⟨("sum_of", none), "sum_of", "sum_of", defArgs s_sum_of, defBody s_sum_of, defScope s_sum_of, [], []⟩
def d_Store_put : He.DefD := ⟨("Store", some "put"), "put", "Store.put", defArgs s_Store_put, defBody s_Store_put, defScope s_Store_put, [], []⟩
def d_law_data : He.DefD := ⟨("_law_data", none), "_law_data", "_law_data", defArgs s_law_data, defBody s_law_data, defScope s_law_data, [], []⟩
def d_Uploads_begin : He.DefD := ⟨("Uploads", some "begin"), "begin", "Uploads.begin", defArgs s_Uploads_begin, defBody s_Uploads_begin, defScope s_Uploads_begin, [], []⟩
def d_Store_begin : He.DefD := ⟨("Store", some "begin"), "begin", "Store.begin", defArgs s_Store_begin, defBody s_Store_begin, defScope s_Store_begin, [], []⟩
def d_Uploads_must_be_open : He.DefD := ⟨("Uploads", some "must_be_open"), "must_be_open", "Uploads.must_be_open", defArgs s_Uploads_must_be_open, defBody s_Uploads_must_be_open, defScope s_Uploads_must_be_open, [], []⟩
def d_Uploads_size_of : He.DefD := ⟨("Uploads", some "size_of"), "size_of", "Uploads.size_of", defArgs s_Uploads_size_of, defBody s_Uploads_size_of, defScope s_Uploads_size_of, [], []⟩
def d_Uploads_send : He.DefD := ⟨("Uploads", some "send"), "send", "Uploads.send", defArgs s_Uploads_send, defBody s_Uploads_send, defScope s_Uploads_send, [], []⟩
def d_Store_send : He.DefD := ⟨("Store", some "send"), "send", "Store.send", defArgs s_Store_send, defBody s_Store_send, defScope s_Store_send, [], []⟩
def d_sum_of_parts : He.DefD := ⟨("sum_of_parts", none), "sum_of_parts", "sum_of_parts", defArgs s_sum_of_parts, defBody s_sum_of_parts, defScope s_sum_of_parts, [], []⟩
def d_Uploads_joint : He.DefD := ⟨("Uploads", some "joint"), "joint", "Uploads.joint", defArgs s_Uploads_joint, defBody s_Uploads_joint, defScope s_Uploads_joint, [], []⟩
def d_Uploads_close : He.DefD := ⟨("Uploads", some "close"), "close", "Uploads.close", defArgs s_Uploads_close, defBody s_Uploads_close, defScope s_Uploads_close, [], []⟩
def d_Store_finish : He.DefD := ⟨("Store", some "finish"), "finish", "Store.finish", defArgs s_Store_finish, defBody s_Store_finish, defScope s_Store_finish, [], []⟩
def d_law_same : He.DefD := ⟨("_law_same", none), "_law_same", "_law_same", defArgs s_law_same, defBody s_law_same, defScope s_law_same, [], []⟩
def d_law_tails : He.DefD := ⟨("_law_tails", none), "_law_tails", "_law_tails", defArgs s_law_tails, defBody s_law_tails, defScope s_law_tails, [], []⟩
def d_Store_drop : He.DefD := ⟨("Store", some "drop"), "drop", "Store.drop", defArgs s_Store_drop, defBody s_Store_drop, defScope s_Store_drop, [], []⟩
def d_law_ends : He.DefD := ⟨("_law_ends", none), "_law_ends", "_law_ends", defArgs s_law_ends, defBody s_law_ends, defScope s_law_ends, [], []⟩
def d_thelaw : He.DefD := ⟨("law", none), "law", "law", defArgs s_thelaw, defBody s_thelaw, defScope s_thelaw, [], []⟩
def fa0 : List He.Fa := [.glo "_law_cell", .glo "_law_mix", .glo "_law_key", .glo "number_of", .glo "read_range", .glo "_law_told", .glo "sum_of", .glo "_law_data", .glo "sum_of_parts", .glo "_law_same", .glo "_law_tails", .glo "_law_ends", .glo "law", .glo "Shelf", .glo "Uploads", .glo "Store", .glo "NoKey", .glo "Gone", .glo "NoRange", .glo "Full", .glo "NoUpload", .glo "BadPart", .glo "TooSmall", .glo "KeepError", .cls "Shelf", .mkr "Shelf", .noat "Shelf" "rows", .noat "Shelf" "until", .cls "Uploads", .mkr "Uploads"]
def fa1 : List He.Fa := [.noat "Uploads" "last", .noat "Uploads" "open_ones", .noat "Uploads" "pieces", .cls "Store", .mkr "Store", .noat "Store" "most", .noat "Store" "today", .noat "Store" "last_version", .noat "Store" "shelf", .noat "Store" "sending", .noat "Store" "log", .meth "Shelf" "rows_of", .meth "Shelf" "newest", .meth "Store" "get", .meth "Store" "get_range", .meth "Shelf" "total", .meth "Uploads" "total", .meth "Store" "size", .meth "Store" "must_fit", .meth "Shelf" "come", .meth "Store" "note", .meth "Store" "come", .meth "Store" "put", .meth "Uploads" "begin", .meth "Store" "begin", .meth "Uploads" "must_be_open", .meth "Uploads" "size_of", .meth "Uploads" "send", .meth "Store" "send", .meth "Uploads" "joint"]
def fa2 : List He.Fa := [.meth "Uploads" "close", .meth "Store" "finish", .meth "Store" "drop", .exc "NoKey", .exc "Gone", .exc "NoRange", .exc "Full", .exc "NoUpload", .exc "BadPart", .exc "TooSmall", .free "ValueError", .free "all", .free "any", .free "bool", .free "dict", .free "enumerate", .free "int", .free "isinstance", .free "len", .free "list", .free "max", .free "min", .free "ord", .free "range", .free "reversed", .free "set", .free "sorted", .free "str", .free "sum", .free "tuple"]
def fa3 : List He.Fa := [.free "zip"]
def fa : List He.Fa := fa0 ++ fa1 ++ fa2 ++ fa3
def fn0 : List He.DefD := [d_Shelf_init, d_Uploads_init, d_Store_init, d_law_cell, d_law_mix, d_law_key, d_Shelf_rows_of, d_Shelf_newest, d_Store_get, d_number_of, d_read_range, d_Store_get_range, d_law_told, d_Shelf_total, d_Uploads_total, d_Store_size, d_Store_must_fit, d_Shelf_come, d_Store_note, d_Store_come, d_sum_of, d_Store_put, d_law_data, d_Uploads_begin, d_Store_begin, d_Uploads_must_be_open, d_Uploads_size_of, d_Uploads_send, d_Store_send, d_sum_of_parts]
def fn1 : List He.DefD := [d_Uploads_joint, d_Uploads_close, d_Store_finish, d_law_same, d_law_tails, d_Store_drop, d_law_ends, d_thelaw]
def fn : List He.DefD := fn0 ++ fn1
def loose0 : List PySem.Str := ["_wall", "KeepError", "NoKey", "Gone", "NoVersion", "Full", "NoUpload", "BadPart", "TooSmall", "NoRange", "number_of", "read_range", "Shelf", "sum_of", "sum_of_parts", "Uploads", "Store", "_law_cell", "_law_mix", "_law_same", "_law_key", "_law_data", "_law_told", "_law_tails", "_law_ends"]
def loose : List PySem.Str := loose0
def adr0 : List Addr := [3, 31, 44, 56, 68, 80, 92, 104, 116, 128, 241, 331, 527, 30, 43, 55, 67, 79, 91, 103, 115, 127, 240, 330, 526, 21, 135, 142, 252, 259]
def adr1 : List Addr := [538, 545, 550, 555, 560, 567, 574, 581, 586, 20, 134, 141, 251, 258, 537, 544, 549, 554, 559, 566, 573, 580, 585, 156, 163, 170, 177, 184, 191, 198]
def adr2 : List Addr := [205, 212, 219, 226, 233, 238, 273, 280, 287, 294, 301, 306, 313, 318, 323, 328, 349, 356, 363, 370, 377, 384, 391, 398, 405, 412, 419, 426, 433, 440]
def adr3 : List Addr := [447, 454, 461, 468, 475, 482, 489, 496, 503, 510, 517, 524, 155, 162, 169, 176, 183, 190, 197, 204, 211, 218, 225, 232, 237, 272, 279, 286, 293, 300]
def adr4 : List Addr := [305, 312, 317, 322, 327, 348, 355, 362, 369, 376, 383, 390, 397, 404, 411, 418, 425, 432, 439, 446, 453, 460, 467, 474, 481, 488, 495, 502, 509, 516]
def adr5 : List Addr := [523]
def adr : List Addr := adr0 ++ adr1 ++ adr2 ++ adr3 ++ adr4 ++ adr5
abbrev R : PySem.W.OpenRow := PySem.W.OpenLaw.row PySem.Challenge.rw_greatkeep_k11_whole_ranges
def exf : PySem.W.Frag → Bool := excsB ["NoKey", "Gone", "NoVersion", "Full", "NoUpload", "BadPart", "TooSmall", "NoRange"]
abbrev hk : PySem.W.Hook := hookA adr fa fn exf
def ob (s : PySem.W.SharedT) : AlB := (He.obsD fa fn (He.frG (HandSHeadRun.getT s) adr), exf (He.frG (HandSHeadRun.getT s) adr))
theorem ob_eq (s : PySem.W.SharedT) : ob s = hk.obs s.abs := hookA_eq
theorem run (w : World) : HandSHeadRun.RunEq R (PySem.W.view R.prog [32]) hk ob 5000 loose w := by
  intro os
  kernel_rfl
theorem facts {P : Program} {w : World} {K : PySem.W.Frag} {h : Heap} {mg : Str → Option Value} {f : Addr} (X : K.In h) (G : h.Ns mainGlobals mg) (hfa : mg ("law" : Str) = some (.ref f)) (c0 : SaysB fa fn exf K) :
    ∃ fd : FuncData, (∀ (s : Shared) (v : Value), BindsTo s fd ⟨[v], []⟩ [("script", v)]) ∧ ∀ base : Heap, K.In base → base.Ns mainGlobals mg → FnOk P w K mg base (L2.CX P w) 7 f fd ["script"] (sp_thelaw K) := by
  obtain ⟨c, cx⟩ := c0
  have xs : Exs ["NoKey", "Gone", "NoVersion", "Full", "NoUpload", "BadPart", "TooSmall", "NoRange"] K := excsB_ok cx
  obtain ⟨fd_Shelf_init, F_Shelf_init⟩ := c.def_ 0 (d := d_Shelf_init) rfl
  obtain ⟨fd_Uploads_init, F_Uploads_init⟩ := c.def_ 1 (d := d_Uploads_init) rfl
  obtain ⟨fd_Store_init, F_Store_init⟩ := c.def_ 2 (d := d_Store_init) rfl
  obtain ⟨fd_law_cell, F_law_cell⟩ := c.def_ 3 (d := d_law_cell) rfl
  obtain ⟨fd_law_mix, F_law_mix⟩ := c.def_ 4 (d := d_law_mix) rfl
  obtain ⟨fd_law_key, F_law_key⟩ := c.def_ 5 (d := d_law_key) rfl
  obtain ⟨fd_Shelf_rows_of, F_Shelf_rows_of⟩ := c.def_ 6 (d := d_Shelf_rows_of) rfl
  obtain ⟨fd_Shelf_newest, F_Shelf_newest⟩ := c.def_ 7 (d := d_Shelf_newest) rfl
  obtain ⟨fd_Store_get, F_Store_get⟩ := c.def_ 8 (d := d_Store_get) rfl
  obtain ⟨fd_number_of, F_number_of⟩ := c.def_ 9 (d := d_number_of) rfl
  obtain ⟨fd_read_range, F_read_range⟩ := c.def_ 10 (d := d_read_range) rfl
  obtain ⟨fd_Store_get_range, F_Store_get_range⟩ := c.def_ 11 (d := d_Store_get_range) rfl
  obtain ⟨fd_law_told, F_law_told⟩ := c.def_ 12 (d := d_law_told) rfl
  obtain ⟨fd_Shelf_total, F_Shelf_total⟩ := c.def_ 13 (d := d_Shelf_total) rfl
  obtain ⟨fd_Uploads_total, F_Uploads_total⟩ := c.def_ 14 (d := d_Uploads_total) rfl
  obtain ⟨fd_Store_size, F_Store_size⟩ := c.def_ 15 (d := d_Store_size) rfl
  obtain ⟨fd_Store_must_fit, F_Store_must_fit⟩ := c.def_ 16 (d := d_Store_must_fit) rfl
  obtain ⟨fd_Shelf_come, F_Shelf_come⟩ := c.def_ 17 (d := d_Shelf_come) rfl
  obtain ⟨fd_Store_note, F_Store_note⟩ := c.def_ 18 (d := d_Store_note) rfl
  obtain ⟨fd_Store_come, F_Store_come⟩ := c.def_ 19 (d := d_Store_come) rfl
  obtain ⟨fd_sum_of, F_sum_of⟩ := c.def_ 20 (d := d_sum_of) rfl
  obtain ⟨fd_Store_put, F_Store_put⟩ := c.def_ 21 (d := d_Store_put) rfl
  obtain ⟨fd_law_data, F_law_data⟩ := c.def_ 22 (d := d_law_data) rfl
  obtain ⟨fd_Uploads_begin, F_Uploads_begin⟩ := c.def_ 23 (d := d_Uploads_begin) rfl
  obtain ⟨fd_Store_begin, F_Store_begin⟩ := c.def_ 24 (d := d_Store_begin) rfl
  obtain ⟨fd_Uploads_must_be_open, F_Uploads_must_be_open⟩ := c.def_ 25 (d := d_Uploads_must_be_open) rfl
  obtain ⟨fd_Uploads_size_of, F_Uploads_size_of⟩ := c.def_ 26 (d := d_Uploads_size_of) rfl
  obtain ⟨fd_Uploads_send, F_Uploads_send⟩ := c.def_ 27 (d := d_Uploads_send) rfl
  obtain ⟨fd_Store_send, F_Store_send⟩ := c.def_ 28 (d := d_Store_send) rfl
  obtain ⟨fd_sum_of_parts, F_sum_of_parts⟩ := c.def_ 29 (d := d_sum_of_parts) rfl
  obtain ⟨fd_Uploads_joint, F_Uploads_joint⟩ := c.def_ 30 (d := d_Uploads_joint) rfl
  obtain ⟨fd_Uploads_close, F_Uploads_close⟩ := c.def_ 31 (d := d_Uploads_close) rfl
  obtain ⟨fd_Store_finish, F_Store_finish⟩ := c.def_ 32 (d := d_Store_finish) rfl
  obtain ⟨fd_law_same, F_law_same⟩ := c.def_ 33 (d := d_law_same) rfl
  obtain ⟨fd_law_tails, F_law_tails⟩ := c.def_ 34 (d := d_law_tails) rfl
  obtain ⟨fd_Store_drop, F_Store_drop⟩ := c.def_ 35 (d := d_Store_drop) rfl
  obtain ⟨fd_law_ends, F_law_ends⟩ := c.def_ 36 (d := d_law_ends) rfl
  obtain ⟨fd_thelaw, F_thelaw⟩ := c.def_ 37 (d := d_thelaw) rfl
  have bl : Blt mg := ⟨He.free_ok X G (c.fact 78 rfl), He.free_ok X G (c.fact 83 rfl), He.free_ok X G (c.fact 88 rfl), He.free_ok X G (c.fact 71 rfl), He.free_ok X G (c.fact 72 rfl), He.free_ok X G (c.fact 89 rfl), He.free_ok X G (c.fact 79 rfl), He.free_ok X G (c.fact 74 rfl), He.free_ok X G (c.fact 85 rfl), He.free_ok X G (c.fact 77 rfl), He.free_ok X G (c.fact 82 rfl), He.free_ok X G (c.fact 87 rfl), He.free_ok X G (c.fact 76 rfl), He.free_ok X G (c.fact 73 rfl), He.free_ok X G (c.fact 81 rfl), He.free_ok X G (c.fact 80 rfl), He.free_ok X G (c.fact 86 rfl), He.free_ok X G (c.fact 84 rfl), He.free_ok X G (c.fact 90 rfl), He.free_ok X G (c.fact 75 rfl), He.free_ok X G (c.fact 70 rfl)⟩
  have x_NoKey : Exn K mg "NoKey" := by
    obtain ⟨a1, a2, a3, a4⟩ := He.exc_ok (c.fact 63 rfl)
    exact ⟨a1, He.glo_ok X G (c.fact 16 rfl), a2, a3, a4⟩
  have x_Gone : Exn K mg "Gone" := by
    obtain ⟨a1, a2, a3, a4⟩ := He.exc_ok (c.fact 64 rfl)
    exact ⟨a1, He.glo_ok X G (c.fact 17 rfl), a2, a3, a4⟩
  have x_NoRange : Exn K mg "NoRange" := by
    obtain ⟨a1, a2, a3, a4⟩ := He.exc_ok (c.fact 65 rfl)
    exact ⟨a1, He.glo_ok X G (c.fact 18 rfl), a2, a3, a4⟩
  have x_Full : Exn K mg "Full" := by
    obtain ⟨a1, a2, a3, a4⟩ := He.exc_ok (c.fact 66 rfl)
    exact ⟨a1, He.glo_ok X G (c.fact 19 rfl), a2, a3, a4⟩
  have x_NoUpload : Exn K mg "NoUpload" := by
    obtain ⟨a1, a2, a3, a4⟩ := He.exc_ok (c.fact 67 rfl)
    exact ⟨a1, He.glo_ok X G (c.fact 20 rfl), a2, a3, a4⟩
  have x_BadPart : Exn K mg "BadPart" := by
    obtain ⟨a1, a2, a3, a4⟩ := He.exc_ok (c.fact 68 rfl)
    exact ⟨a1, He.glo_ok X G (c.fact 21 rfl), a2, a3, a4⟩
  have x_TooSmall : Exn K mg "TooSmall" := by
    obtain ⟨a1, a2, a3, a4⟩ := He.exc_ok (c.fact 69 rfl)
    exact ⟨a1, He.glo_ok X G (c.fact 22 rfl), a2, a3, a4⟩
  have g_KeepError := He.glo_ok X G (c.fact 23 rfl)
  have g_NoKey := He.glo_ok X G (c.fact 16 rfl)
  have g_Gone := He.glo_ok X G (c.fact 17 rfl)
  have g_NoRange := He.glo_ok X G (c.fact 18 rfl)
  have cf_Store : CfS K := ⟨⟨He.cls_ok (c.fact 24 rfl), fun x hx => by
      simp only [List.mem_cons, List.not_mem_nil, or_false] at hx
      rcases hx with rfl | rfl
      · exact He.noat_ok (c.fact 26 rfl)
      · exact He.noat_ok (c.fact 27 rfl)⟩, ⟨He.cls_ok (c.fact 28 rfl), fun x hx => by
      simp only [List.mem_cons, List.not_mem_nil, or_false] at hx
      rcases hx with rfl | rfl | rfl
      · exact He.noat_ok (c.fact 30 rfl)
      · exact He.noat_ok (c.fact 31 rfl)
      · exact He.noat_ok (c.fact 32 rfl)⟩, ⟨He.cls_ok (c.fact 33 rfl), fun x hx => by
      simp only [List.mem_cons, List.not_mem_nil, or_false] at hx
      rcases hx with rfl | rfl | rfl | rfl | rfl | rfl
      · exact He.noat_ok (c.fact 35 rfl)
      · exact He.noat_ok (c.fact 36 rfl)
      · exact He.noat_ok (c.fact 37 rfl)
      · exact He.noat_ok (c.fact 38 rfl)
      · exact He.noat_ok (c.fact 39 rfl)
      · exact He.noat_ok (c.fact 40 rfl)⟩⟩
  have e := hfa.symm.trans (He.glo_ok X G (c.fact 12 rfl))
  cases e
  have b := FunD.bindsA (ps := ["script"]) F_thelaw fun _ _ _ _ _ _ us hl => match us, hl with | [_], _ => rfl
  refine ⟨fd_thelaw, fun s v => b s [v] rfl, fun base _ _ => ?_⟩
  have b_Shelf_init : Binds K fd_Shelf_init ["self"] [] := F_Shelf_init.bindsN fun _ _ _ _ _ _ us hl => match us, hl with | [_], _ => rfl
  have mk_Shelf : Mkb P w K mg base 1 "Shelf" (He.ga K "Shelf") (sp_Shelf_init K) := ⟨_, _, _, He.mkr_ok (c.fact 25 rfl), ok_Shelf_init bl F_Shelf_init , He.glo_ok X G (c.fact 13 rfl), b_Shelf_init⟩
  have b_Uploads_init : Binds K fd_Uploads_init ["self"] [] := F_Uploads_init.bindsN fun _ _ _ _ _ _ us hl => match us, hl with | [_], _ => rfl
  have mk_Uploads : Mkb P w K mg base 1 "Uploads" (He.ga K "Uploads") (sp_Uploads_init K) := ⟨_, _, _, He.mkr_ok (c.fact 29 rfl), ok_Uploads_init bl F_Uploads_init , He.glo_ok X G (c.fact 14 rfl), b_Uploads_init⟩
  have b_Store_init : Binds K fd_Store_init ["self", "most"] [] := F_Store_init.bindsN fun _ _ _ _ _ _ us hl => match us, hl with | [_, _], _ => rfl
  have mk_Store : Mkb P w K mg base 3 "Store" (He.ga K "Store") (sp_Store_init K) := ⟨_, _, _, He.mkr_ok (c.fact 34 rfl), ok_Store_init bl F_Store_init mk_Shelf mk_Uploads, He.glo_ok X G (c.fact 15 rfl), b_Store_init⟩
  have b_law_cell : Binds K fd_law_cell ["script", "k"] [] := F_law_cell.bindsN fun _ _ _ _ _ _ us hl => match us, hl with | [_, _], _ => rfl
  have f_law_cell : Clb P w K mg base 1 "_law_cell" (sp_law_cell K) := ⟨_, _, _, ok_law_cell bl F_law_cell , He.glo_ok X G (c.fact 0 rfl), F_law_cell.kp, b_law_cell⟩
  have b_law_mix : Binds K fd_law_mix ["cell", "prime", "many"] [] := F_law_mix.bindsN fun _ _ _ _ _ _ us hl => match us, hl with | [_, _, _], _ => rfl
  have f_law_mix : Clb P w K mg base 1 "_law_mix" (sp_law_mix K) := ⟨_, _, _, ok_law_mix bl F_law_mix , He.glo_ok X G (c.fact 1 rfl), F_law_mix.kp, b_law_mix⟩
  have b_law_key : Binds K fd_law_key ["cell"] [] := F_law_key.bindsN fun _ _ _ _ _ _ us hl => match us, hl with | [_], _ => rfl
  have f_law_key : Clb P w K mg base 2 "_law_key" (sp_law_key K) := ⟨_, _, _, ok_law_key bl F_law_key f_law_mix, He.glo_ok X G (c.fact 2 rfl), F_law_key.kp, b_law_key⟩
  have b_Shelf_rows_of : Binds K fd_Shelf_rows_of ["self", "key"] [] := F_Shelf_rows_of.bindsN fun _ _ _ _ _ _ us hl => match us, hl with | [_, _], _ => rfl
  have m_Shelf_rows_of : Mtb P w K mg base 1 (He.ga K "Shelf") "rows_of" (sp_Shelf_rows_of K) := ⟨_, _, _, He.cls_ok (c.fact 24 rfl), He.meth_ok (c.fact 41 rfl), ok_Shelf_rows_of bl F_Shelf_rows_of , b_Shelf_rows_of⟩
  have b_Shelf_newest : Binds K fd_Shelf_newest ["self", "key"] [] := F_Shelf_newest.bindsN fun _ _ _ _ _ _ us hl => match us, hl with | [_, _], _ => rfl
  have m_Shelf_newest : Mtb P w K mg base 2 (He.ga K "Shelf") "newest" (sp_Shelf_newest K) := ⟨_, _, _, He.cls_ok (c.fact 24 rfl), He.meth_ok (c.fact 42 rfl), ok_Shelf_newest bl F_Shelf_newest m_Shelf_rows_of x_NoKey x_Gone, b_Shelf_newest⟩
  have b_Store_get : Binds K fd_Store_get ["self", "key"] [] := F_Store_get.bindsN fun _ _ _ _ _ _ us hl => match us, hl with | [_, _], _ => rfl
  have m_Store_get : Mtb P w K mg base 3 (He.ga K "Store") "get" (sp_Store_get K) := ⟨_, _, _, He.cls_ok (c.fact 33 rfl), He.meth_ok (c.fact 43 rfl), ok_Store_get bl F_Store_get m_Shelf_newest, b_Store_get⟩
  have b_number_of : Binds K fd_number_of ["word"] [] := F_number_of.bindsN fun _ _ _ _ _ _ us hl => match us, hl with | [_], _ => rfl
  have f_number_of : Clb P w K mg base 1 "number_of" (sp_number_of K) := ⟨_, _, _, ok_number_of bl F_number_of x_NoRange, He.glo_ok X G (c.fact 3 rfl), F_number_of.kp, b_number_of⟩
  have b_read_range : Binds K fd_read_range ["text", "size"] [] := F_read_range.bindsN fun _ _ _ _ _ _ us hl => match us, hl with | [_, _], _ => rfl
  have f_read_range : Clb P w K mg base 2 "read_range" (sp_read_range K) := ⟨_, _, _, ok_read_range bl F_read_range x_NoRange f_number_of, He.glo_ok X G (c.fact 4 rfl), F_read_range.kp, b_read_range⟩
  have b_Store_get_range : Binds K fd_Store_get_range ["self", "key", "text"] [] := F_Store_get_range.bindsN fun _ _ _ _ _ _ us hl => match us, hl with | [_, _, _], _ => rfl
  have m_Store_get_range : Mtb P w K mg base 4 (He.ga K "Store") "get_range" (sp_Store_get_range K) := ⟨_, _, _, He.cls_ok (c.fact 33 rfl), He.meth_ok (c.fact 44 rfl), ok_Store_get_range bl F_Store_get_range m_Store_get f_read_range, b_Store_get_range⟩
  have b_law_told : Binds K fd_law_told ["store", "key", "text"] [] := F_law_told.bindsN fun _ _ _ _ _ _ us hl => match us, hl with | [_, _, _], _ => rfl
  have f_law_told : Clb P w K mg base 5 "_law_told" (sp_law_told K) := ⟨_, _, _, ok_law_told bl F_law_told g_KeepError xs m_Store_get_range g_NoKey g_Gone g_NoRange, He.glo_ok X G (c.fact 5 rfl), F_law_told.kp, b_law_told⟩
  have b_Shelf_total : Binds K fd_Shelf_total ["self"] [] := F_Shelf_total.bindsN fun _ _ _ _ _ _ us hl => match us, hl with | [_], _ => rfl
  have m_Shelf_total : Mtb P w K mg base 1 (He.ga K "Shelf") "total" (sp_Shelf_total K) := ⟨_, _, _, He.cls_ok (c.fact 24 rfl), He.meth_ok (c.fact 45 rfl), ok_Shelf_total bl F_Shelf_total , b_Shelf_total⟩
  have b_Uploads_total : Binds K fd_Uploads_total ["self"] [] := F_Uploads_total.bindsN fun _ _ _ _ _ _ us hl => match us, hl with | [_], _ => rfl
  have m_Uploads_total : Mtb P w K mg base 1 (He.ga K "Uploads") "total" (sp_Uploads_total K) := ⟨_, _, _, He.cls_ok (c.fact 28 rfl), He.meth_ok (c.fact 46 rfl), ok_Uploads_total bl F_Uploads_total , b_Uploads_total⟩
  have b_Store_size : Binds K fd_Store_size ["self"] [] := F_Store_size.bindsN fun _ _ _ _ _ _ us hl => match us, hl with | [_], _ => rfl
  have m_Store_size : Mtb P w K mg base 2 (He.ga K "Store") "size" (sp_Store_size K) := ⟨_, _, _, He.cls_ok (c.fact 33 rfl), He.meth_ok (c.fact 47 rfl), ok_Store_size bl F_Store_size m_Shelf_total m_Uploads_total, b_Store_size⟩
  have b_Store_must_fit : Binds K fd_Store_must_fit ["self", "more"] [] := F_Store_must_fit.bindsN fun _ _ _ _ _ _ us hl => match us, hl with | [_, _], _ => rfl
  have m_Store_must_fit : Mtb P w K mg base 3 (He.ga K "Store") "must_fit" (sp_Store_must_fit K) := ⟨_, _, _, He.cls_ok (c.fact 33 rfl), He.meth_ok (c.fact 48 rfl), ok_Store_must_fit bl F_Store_must_fit m_Store_size x_Full, b_Store_must_fit⟩
  have b_Shelf_come : Binds K fd_Shelf_come ["self", "key", "row"] [] := F_Shelf_come.bindsN fun _ _ _ _ _ _ us hl => match us, hl with | [_, _, _], _ => rfl
  have m_Shelf_come : Mtb P w K mg base 2 (He.ga K "Shelf") "come" (sp_Shelf_come K) := ⟨_, _, _, He.cls_ok (c.fact 24 rfl), He.meth_ok (c.fact 49 rfl), ok_Shelf_come bl F_Shelf_come m_Shelf_rows_of, b_Shelf_come⟩
  have b_Store_note : Binds K fd_Store_note ["self", "change"] [] := F_Store_note.bindsN fun _ _ _ _ _ _ us hl => match us, hl with | [_, _], _ => rfl
  have m_Store_note : Mtb P w K mg base 1 (He.ga K "Store") "note" (sp_Store_note K) := ⟨_, _, _, He.cls_ok (c.fact 33 rfl), He.meth_ok (c.fact 50 rfl), ok_Store_note bl F_Store_note , b_Store_note⟩
  have b_Store_come : Binds K fd_Store_come ["self", "key", "data", "total"] [] := F_Store_come.bindsN fun _ _ _ _ _ _ us hl => match us, hl with | [_, _, _, _], _ => rfl
  have m_Store_come : Mtb P w K mg base 3 (He.ga K "Store") "come" (sp_Store_come K) := ⟨_, _, _, He.cls_ok (c.fact 33 rfl), He.meth_ok (c.fact 51 rfl), ok_Store_come bl F_Store_come m_Shelf_come m_Store_note, b_Store_come⟩
  have b_sum_of : Binds K fd_sum_of ["data"] [] := F_sum_of.bindsN fun _ _ _ _ _ _ us hl => match us, hl with | [_], _ => rfl
  have f_sum_of : Clb P w K mg base 1 "sum_of" (sp_sum_of K) := ⟨_, _, _, ok_sum_of bl F_sum_of , He.glo_ok X G (c.fact 6 rfl), F_sum_of.kp, b_sum_of⟩
  have b_Store_put : Binds K fd_Store_put ["self", "key", "data"] [] := F_Store_put.bindsN fun _ _ _ _ _ _ us hl => match us, hl with | [_, _, _], _ => rfl
  have m_Store_put : Mtb P w K mg base 4 (He.ga K "Store") "put" (sp_Store_put K) := ⟨_, _, _, He.cls_ok (c.fact 33 rfl), He.meth_ok (c.fact 52 rfl), ok_Store_put bl F_Store_put m_Store_must_fit m_Store_come f_sum_of, b_Store_put⟩
  have b_law_data : Binds K fd_law_data ["cell"] [] := F_law_data.bindsN fun _ _ _ _ _ _ us hl => match us, hl with | [_], _ => rfl
  have f_law_data : Clb P w K mg base 2 "_law_data" (sp_law_data K) := ⟨_, _, _, ok_law_data bl F_law_data f_law_mix, He.glo_ok X G (c.fact 7 rfl), F_law_data.kp, b_law_data⟩
  have b_Uploads_begin : Binds K fd_Uploads_begin ["self", "key", "day"] [] := F_Uploads_begin.bindsN fun _ _ _ _ _ _ us hl => match us, hl with | [_, _, _], _ => rfl
  have m_Uploads_begin : Mtb P w K mg base 1 (He.ga K "Uploads") "begin" (sp_Uploads_begin K) := ⟨_, _, _, He.cls_ok (c.fact 28 rfl), He.meth_ok (c.fact 53 rfl), ok_Uploads_begin bl F_Uploads_begin , b_Uploads_begin⟩
  have b_Store_begin : Binds K fd_Store_begin ["self", "key"] [] := F_Store_begin.bindsN fun _ _ _ _ _ _ us hl => match us, hl with | [_, _], _ => rfl
  have m_Store_begin : Mtb P w K mg base 2 (He.ga K "Store") "begin" (sp_Store_begin K) := ⟨_, _, _, He.cls_ok (c.fact 33 rfl), He.meth_ok (c.fact 54 rfl), ok_Store_begin bl F_Store_begin m_Uploads_begin, b_Store_begin⟩
  have b_Uploads_must_be_open : Binds K fd_Uploads_must_be_open ["self", "upload"] [] := F_Uploads_must_be_open.bindsN fun _ _ _ _ _ _ us hl => match us, hl with | [_, _], _ => rfl
  have m_Uploads_must_be_open : Mtb P w K mg base 1 (He.ga K "Uploads") "must_be_open" (sp_Uploads_must_be_open K) := ⟨_, _, _, He.cls_ok (c.fact 28 rfl), He.meth_ok (c.fact 55 rfl), ok_Uploads_must_be_open bl F_Uploads_must_be_open x_NoUpload, b_Uploads_must_be_open⟩
  have b_Uploads_size_of : Binds K fd_Uploads_size_of ["self", "upload", "number"] [] := F_Uploads_size_of.bindsN fun _ _ _ _ _ _ us hl => match us, hl with | [_, _, _], _ => rfl
  have m_Uploads_size_of : Mtb P w K mg base 1 (He.ga K "Uploads") "size_of" (sp_Uploads_size_of K) := ⟨_, _, _, He.cls_ok (c.fact 28 rfl), He.meth_ok (c.fact 56 rfl), ok_Uploads_size_of bl F_Uploads_size_of , b_Uploads_size_of⟩
  have b_Uploads_send : Binds K fd_Uploads_send ["self", "upload", "number", "data"] [] := F_Uploads_send.bindsN fun _ _ _ _ _ _ us hl => match us, hl with | [_, _, _, _], _ => rfl
  have m_Uploads_send : Mtb P w K mg base 2 (He.ga K "Uploads") "send" (sp_Uploads_send K) := ⟨_, _, _, He.cls_ok (c.fact 28 rfl), He.meth_ok (c.fact 57 rfl), ok_Uploads_send bl F_Uploads_send f_sum_of, b_Uploads_send⟩
  have b_Store_send : Binds K fd_Store_send ["self", "upload", "number", "data"] [] := F_Store_send.bindsN fun _ _ _ _ _ _ us hl => match us, hl with | [_, _, _, _], _ => rfl
  have m_Store_send : Mtb P w K mg base 4 (He.ga K "Store") "send" (sp_Store_send K) := ⟨_, _, _, He.cls_ok (c.fact 33 rfl), He.meth_ok (c.fact 58 rfl), ok_Store_send bl F_Store_send m_Uploads_must_be_open x_BadPart m_Store_must_fit m_Uploads_size_of m_Uploads_send, b_Store_send⟩
  have b_sum_of_parts : Binds K fd_sum_of_parts ["sums"] [] := F_sum_of_parts.bindsN fun _ _ _ _ _ _ us hl => match us, hl with | [_], _ => rfl
  have f_sum_of_parts : Clb P w K mg base 2 "sum_of_parts" (sp_sum_of_parts K) := ⟨_, _, _, ok_sum_of_parts bl F_sum_of_parts f_sum_of, He.glo_ok X G (c.fact 8 rfl), F_sum_of_parts.kp, b_sum_of_parts⟩
  have b_Uploads_joint : Binds K fd_Uploads_joint ["self", "upload", "rows"] [] := F_Uploads_joint.bindsN fun _ _ _ _ _ _ us hl => match us, hl with | [_, _, _], _ => rfl
  have m_Uploads_joint : Mtb P w K mg base 3 (He.ga K "Uploads") "joint" (sp_Uploads_joint K) := ⟨_, _, _, He.cls_ok (c.fact 28 rfl), He.meth_ok (c.fact 59 rfl), ok_Uploads_joint bl F_Uploads_joint m_Uploads_must_be_open x_BadPart f_sum_of x_TooSmall f_sum_of_parts, b_Uploads_joint⟩
  have b_Uploads_close : Binds K fd_Uploads_close ["self", "upload"] [] := F_Uploads_close.bindsN fun _ _ _ _ _ _ us hl => match us, hl with | [_, _], _ => rfl
  have m_Uploads_close : Mtb P w K mg base 2 (He.ga K "Uploads") "close" (sp_Uploads_close K) := ⟨_, _, _, He.cls_ok (c.fact 28 rfl), He.meth_ok (c.fact 60 rfl), ok_Uploads_close bl F_Uploads_close m_Uploads_must_be_open, b_Uploads_close⟩
  have b_Store_finish : Binds K fd_Store_finish ["self", "upload", "rows"] [] := F_Store_finish.bindsN fun _ _ _ _ _ _ us hl => match us, hl with | [_, _, _], _ => rfl
  have m_Store_finish : Mtb P w K mg base 4 (He.ga K "Store") "finish" (sp_Store_finish K) := ⟨_, _, _, He.cls_ok (c.fact 33 rfl), He.meth_ok (c.fact 61 rfl), ok_Store_finish bl F_Store_finish m_Uploads_joint m_Uploads_close m_Store_come, b_Store_finish⟩
  have b_law_same : Binds K fd_law_same ["found", "due"] [] := F_law_same.bindsN fun _ _ _ _ _ _ us hl => match us, hl with | [_, _], _ => rfl
  have f_law_same : Clb P w K mg base 5 "_law_same" (sp_law_same 5 K) := ⟨_, _, _, ok_law_same bl F_law_same (He.glo_ok X G (c.fact 9 rfl)) b_law_same  5, He.glo_ok X G (c.fact 9 rfl), F_law_same.kp, b_law_same⟩
  have b_law_tails : Binds K fd_law_tails ["store", "key", "text", "cut"] [] := F_law_tails.bindsN fun _ _ _ _ _ _ us hl => match us, hl with | [_, _, _, _], _ => rfl
  have f_law_tails : Clb P w K mg base 6 "_law_tails" (sp_law_tails K) := ⟨_, _, _, ok_law_tails bl F_law_tails f_law_told f_law_same, He.glo_ok X G (c.fact 10 rfl), F_law_tails.kp, b_law_tails⟩
  have b_Store_drop : Binds K fd_Store_drop ["self", "key"] [] := F_Store_drop.bindsN fun _ _ _ _ _ _ us hl => match us, hl with | [_, _], _ => rfl
  have m_Store_drop : Mtb P w K mg base 4 (He.ga K "Store") "drop" (sp_Store_drop K) := ⟨_, _, _, He.cls_ok (c.fact 33 rfl), He.meth_ok (c.fact 62 rfl), ok_Store_drop bl F_Store_drop m_Shelf_newest m_Store_come, b_Store_drop⟩
  have b_law_ends : Binds K fd_law_ends ["store", "key"] [] := F_law_ends.bindsN fun _ _ _ _ _ _ us hl => match us, hl with | [_, _], _ => rfl
  have f_law_ends : Clb P w K mg base 6 "_law_ends" (sp_law_ends K) := ⟨_, _, _, ok_law_ends bl F_law_ends m_Store_put f_law_told m_Store_drop, He.glo_ok X G (c.fact 11 rfl), F_law_ends.kp, b_law_ends⟩
  exact ok_thelaw bl F_thelaw mk_Store cf_Store f_law_cell f_law_key f_law_told m_Store_put f_law_data m_Store_begin m_Store_send m_Store_finish f_law_mix f_law_same f_law_tails f_law_ends
end GKL
open PySem PySem.W PySem.Calls PyProof.Rows
theorem PySem.Challenge.cw_greatkeep_k11_whole_ranges_holds : PySem.Challenge.rw_greatkeep_k11_whole_ranges.Holds := by
  w_on; o_law
  refine HandSHeadRun.head_any (r := OpenLaw.row PySem.Challenge.rw_greatkeep_k11_whole_ranges) (q := view (OpenLaw.row PySem.Challenge.rw_greatkeep_k11_whole_ranges).prog [32]) (H := GKL.hk) (ob := GKL.ob) (M := 5000) (loose := GKL.loose) (d := HandSHeadRun.topDef (OpenLaw.row PySem.Challenge.rw_greatkeep_k11_whole_ranges).prog 32) (kwd := []) GKL.ob_eq
    (by kernel_rfl) (fun s => by kernel_rfl) GKL.run (by kernel_rfl) (by kernel_rfl) (by kernel_rfl) (by rfl) (by first | assumption | decide +kernel) (by decide +kernel) ⟨rfl, rfl, rfl, rfl, rfl, by decide +kernel⟩ ?hw ?hc
  case hw => w_witness2
  case hc =>
    refine L2.walk_ofE (l := PySem.Challenge.rw_greatkeep_k11_whole_ranges) (n := 63) (k := 7) (x := "script") (CX := GK.cxAny) rfl (by decide) (by kernel_rfl) ⟨rfl, by decide, by decide⟩ ?F GK.cxAny_no
    intro w mg fa h Y G hmg0
    obtain ⟨K, KX, c⟩ := Y
    have hmg : mg ("law" : PySem.Str) = some (.ref fa) := by
      have e : (HandSHeadRun.topDef (OpenLaw.row PySem.Challenge.rw_greatkeep_k11_whole_ranges).prog 32).name = ("law" : PySem.Str) := by kernel_rfl
      rw [← e]
      exact hmg0
    obtain ⟨fd, hb, hF⟩ := GKL.facts (P := (PySem.Challenge.rw_greatkeep_k11_whole_ranges).prog) (w := w) KX G hmg c
    exact ⟨K, fd, GK.sp_thelaw K, KX, hb, fun H a ns hl _ hS => ⟨a, ns, rfl, hS, hl, fun _ => rfl⟩, fun base k1 k2 => GK.cxAny_of (hF base k1 k2)⟩
