import PyProof.Rows.All
import HandS.ForMost
import HandS.Evl
import HandS.More
import HandS.Conv
import HandS.DictComp
import HandS.Zip
import HandS.TupAny
import HandS.TupMul
import HandS.TupSets
import HandS.SetFor
import HandS.Strs
import HandS.SortInts
import HandS.SortRule
import HandS.Style
import HandS.ListItems
import HandS.IsInst
import HandS.RaiseMore
import PyProof.ReprRoads
import PyProof.ReprBulk
import KE.KDictZip
import KE.KDictItemsList
import HandS.ExcInit
import HandS.ExcSuper
import KE.KSuper
import KE.KExcSuper
import HandS.Exc
import HandS.TryMany
import HandS.ExcField
import PySem.Challenge.RW_keptwhole_k40_whole_links_that_lack_and
import HandS.Defaults
import HandS.WordsExc
import HandS.Iter
import KE.GoesMore
import KE.KEqSeq
import HandS.Lambda
import KE.KExcInit
import KE.KNestM
import KE.KStateDown
import HandS.Head0
import HandS.Head1
import HandS.Head2
import HandS.HeadHook1
import HandS.HeadHook2
import HandS.HeadHook3
import HandS.HeadHook4
import HandS.EndTab
import HandS.EndBits
set_option Elab.async false
set_option linter.all false
set_option maxRecDepth 100000
set_option maxHeartbeats 0
section
/-! Kw0: values as data (Dp) under growing heaps; what a reading evaluates to, told as a property of the value. -/
namespace Kw
open PySem PySem.Spec PyProof.Rows L2 Evl

section
variable {K : PySem.W.Frag} {H H' H1 H2 : Hp}
/-! ### data under growing heaps -/
mutual
theorem dp_ex (e : Ex H H') : ∀ (d : PyData) (v : V), Dp K H v d → Dp K H' v d
  | .none, _, h => by cases h; exact .non
  | .bool b, _, h => by cases h; exact .bl b
  | .int i, _, h => by cases h; exact .int i
  | .str x, _, h => by cases h; exact .str x
  | .list ds, _, h => by
    cases h with
    | lst hs ha => exact .lst (ex_l e hs) (dpA_ex e ds _ ha)
  | .tuple ds, _, h => by
    cases h with
    | tup hs ha => exact .tup (ex_t e hs) (dpA_ex e ds _ ha)
  | .dict _, _, h => by cases h
theorem dpA_ex (e : Ex H H') : ∀ (ds : List PyData) (vs : List V), DpAll K H vs ds → DpAll K H' vs ds
  | [], _, h => by cases h; exact .nil
  | d :: ds, _, h => by
    cases h with
    | cons h1 h2 => exact .cons (dp_ex e d _ h1) (dpA_ex e ds _ h2)
end
/-- what was a tuple still is it -/
def TupK (H H' : Hp) : Prop := ∀ a xs, Rd H a (.tup xs) → Rd H' a (.tup xs)
theorem TupK.refl (H : Hp) : TupK H H := fun _ _ h => h
theorem TupK.trans (a : TupK H H1) (b : TupK H1 H2) : TupK H H2 := fun c xs h => b c xs (a c xs h)
theorem TupK.of (e : Ex H H') : TupK H H' := fun _ _ h => ex_rd e h
theorem TupK.upd {p : Addr} {o : HO} (h : ∀ xs, ¬ Rd H p (.tup xs)) : TupK H (upd H p o) := fun a xs r => by
  have ne : a ≠ p := fun z => h xs (by rw [← z]; exact r)
  rcases r with r | ⟨ob, r⟩
  · exact .inl (by rw [upd_ne ne]; exact r)
  · exact .inr ⟨ob, by rw [upd_ne ne]; exact r⟩
theorem nrd_lst {p : Addr} {xs : List V} (h : H p = some (.lst xs)) : ∀ ys, ¬ Rd H p (.tup ys) := fun ys r => by
  rcases r with r | ⟨o, r⟩ <;> (rw [h] at r; cases r)
theorem nrd_dK {p : Addr} {xs : List (Key × V)} (h : H p = some (.dK xs)) : ∀ ys, ¬ Rd H p (.tup ys) := fun ys r => by
  rcases r with r | ⟨o, r⟩ <;> (rw [h] at r; cases r)
theorem nrd_dT {p : Addr} {xs : List (List Key × V)} (h : H p = some (.dT xs)) : ∀ ys, ¬ Rd H p (.tup ys) := fun ys r => by
  rcases r with r | ⟨o, r⟩ <;> (rw [h] at r; cases r)
theorem nrd_none {p : Addr} (h : H p = none) : ∀ ys, ¬ Rd H p (.tup ys) := fun ys r => by
  rcases r with r | ⟨o, r⟩ <;> (rw [h] at r; cases r)
theorem nrd_frz {p : Addr} {xs : List (Key × V)} {o : Obj} (h : H p = some (.frz o (.dK xs))) : ∀ ys, ¬ Rd H p (.tup ys) := fun ys r => by
  rcases r with r | ⟨o, r⟩ <;> (rw [h] at r; cases r)
/- data without lists and dicts: only tuples lie under it -/
mutual
def imm : PyData → Bool
  | .none | .bool _ | .int _ | .str _ => true
  | .tuple xs => immA xs
  | .list _ => false
  | .dict _ => false
def immA : List PyData → Bool
  | [] => true
  | x :: xs => imm x && immA xs
end
theorem tk_t (e : TupK H H') {a : Addr} {xs : List V} (h : SqT K H a xs) : SqT K H' a xs := by
  rcases h with h | h
  · exact .inl (e a xs h)
  · exact .inr h
mutual
theorem dp_tk (e : TupK H H') : ∀ (d : PyData) (v : V), imm d = true → Dp K H v d → Dp K H' v d
  | .none, _, _, h => by cases h; exact .non
  | .bool b, _, _, h => by cases h; exact .bl b
  | .int i, _, _, h => by cases h; exact .int i
  | .str x, _, _, h => by cases h; exact .str x
  | .list ds, _, i, h => by simp [imm] at i
  | .tuple ds, _, i, h => by
    cases h with
    | tup hs ha => exact .tup (tk_t e hs) (dpA_tk e ds _ (by simpa [imm] using i) ha)
  | .dict _, _, _, h => by cases h
theorem dpA_tk (e : TupK H H') : ∀ (ds : List PyData) (vs : List V), immA ds = true → DpAll K H vs ds → DpAll K H' vs ds
  | [], _, _, h => by cases h; exact .nil
  | d :: ds, _, i, h => by
    have i' : imm d = true ∧ immA ds = true := by simpa [immA] using i
    cases h with
    | cons h1 h2 => exact .cons (dp_tk e d _ i'.1 h1) (dpA_tk e ds _ i'.2 h2)
end
theorem immA_iff : ∀ {ds : List PyData}, immA ds = true ↔ ∀ d ∈ ds, imm d = true
  | [] => by simp [immA]
  | d :: ds => by simp [immA, immA_iff (ds := ds)]
theorem immA_app {ds es : List PyData} (h : immA ds = true) (h' : immA es = true) : immA (ds ++ es) = true := by
  rw [immA_iff] at *
  intro d hd
  rcases List.mem_append.mp hd with q | q
  · exact h d q
  · exact h' d q
theorem immA_ints (ns : List Int) : immA (ns.map PyData.int) = true := by
  rw [immA_iff]
  intro d hd
  obtain ⟨n, _, rfl⟩ := List.mem_map.mp hd
  rfl
/-! ### reading data off -/
theorem dp_int {v : V} {i : Int} (h : Dp K H v (.int i)) : v = .int i := by cases h; rfl
theorem dp_bl {v : V} {b : Bool} (h : Dp K H v (.bool b)) : v = .bl b := by cases h; rfl
theorem dp_str {v : V} {x : Str} (h : Dp K H v (.str x)) : v = .str x := by cases h; rfl
theorem dp_tup {v : V} {ds : List PyData} (h : Dp K H v (.tuple ds)) : ∃ a xs, v = .ref a ∧ SqT K H a xs ∧ DpAll K H xs ds := by
  cases h with
  | tup hs ha => exact ⟨_, _, rfl, hs, ha⟩
theorem dp_lst {v : V} {ds : List PyData} (h : Dp K H v (.list ds)) : ∃ a xs, v = .ref a ∧ SqL K H a xs ∧ DpAll K H xs ds := by
  cases h with
  | lst hs ha => exact ⟨_, _, rfl, hs, ha⟩
theorem dpA_len : ∀ {vs : List V} {ds : List PyData}, DpAll K H vs ds → vs.length = ds.length
  | _, _, .nil => rfl
  | _, _, .cons _ h => by rw [List.length_cons, List.length_cons, dpA_len h]
theorem dpA_get : ∀ {vs : List V} {ds : List PyData} {i : Nat} {d : PyData}, DpAll K H vs ds → ds[i]? = some d → ∃ v, vs[i]? = some v ∧ Dp K H v d
  | _, _, _, _, .nil, e => by simp at e
  | _, _, 0, _, .cons h _, e => by
    simp at e
    subst e
    exact ⟨_, rfl, h⟩
  | _, _, i + 1, d, .cons _ h, e => by
    obtain ⟨v, h1, h2⟩ := dpA_get (i := i) (d := d) h (by simpa using e)
    exact ⟨v, by simpa using h1, h2⟩
theorem dpA_getV : ∀ {vs : List V} {ds : List PyData} {i : Nat} {v : V}, DpAll K H vs ds → vs[i]? = some v → ∃ d, ds[i]? = some d ∧ Dp K H v d
  | _, _, _, _, .nil, e => by simp at e
  | _, _, 0, _, .cons h _, e => by
    simp at e
    subst e
    exact ⟨_, rfl, h⟩
  | _, _, i + 1, v, .cons _ h, e => by
    obtain ⟨d, h1, h2⟩ := dpA_getV (i := i) (v := v) h (by simpa using e)
    exact ⟨d, by simpa using h1, h2⟩
theorem dpA_app : ∀ {vs us : List V} {ds es : List PyData}, DpAll K H vs ds → DpAll K H us es → DpAll K H (vs ++ us) (ds ++ es)
  | _, _, _, _, .nil, h => h
  | _, _, _, _, .cons h t, h' => .cons h (dpA_app t h')
theorem dpA_one {v : V} {d : PyData} (h : Dp K H v d) : DpAll K H [v] [d] := .cons h .nil
theorem dpA_ints : ∀ ns : List Int, DpAll K H (ns.map V.int) (ns.map PyData.int)
  | [] => .nil
  | n :: ns => .cons (.int n) (dpA_ints ns)
theorem ints_dpA : ∀ {ns : List Int} {vs : List V}, DpAll K H vs (ns.map PyData.int) → vs = ns.map V.int
  | [], _, h => by cases h; rfl
  | n :: ns, _, h => by
    cases h with
    | cons h1 h2 => rw [dp_int h1, ints_dpA h2]; rfl
theorem dp_tupI {v : V} {ns : List Int} (h : Dp K H v (.tuple (ns.map .int))) : ∃ a, v = .ref a ∧ SqT K H a (ns.map V.int) := by
  obtain ⟨a, xs, e, hs, ha⟩ := dp_tup h
  rw [ints_dpA ha] at hs
  exact ⟨a, e, hs⟩
theorem dp_lstI {v : V} {ns : List Int} (h : Dp K H v (.list (ns.map .int))) : ∃ a, v = .ref a ∧ SqL K H a (ns.map V.int) := by
  obtain ⟨a, xs, e, hs, ha⟩ := dp_lst h
  rw [ints_dpA ha] at hs
  exact ⟨a, e, hs⟩
theorem dp_tupOf {a : Addr} {ns : List Int} (h : SqT K H a (ns.map V.int)) : Dp K H (.ref a) (.tuple (ns.map .int)) := .tup h (dpA_ints ns)
theorem dp_lstOf {a : Addr} {ns : List Int} (h : SqL K H a (ns.map V.int)) : Dp K H (.ref a) (.list (ns.map .int)) := .lst h (dpA_ints ns)
end

/-! ### what evaluates to what -/
abbrev PV := V → Hp → Prop
def EvP (te : TE) (σ : L2.St) (H : Hp) (P : PV) : Prop := ∀ H1, Ex H H1 → ∀ Q : VK, (∀ v H2, Ex H1 H2 → P v H2 → Q v H2) → te σ H1 Q
def EvPA (ta : TA) (σ : L2.St) (H : Hp) (P : List V → Hp → Prop) : Prop := ∀ H1, Ex H H1 → ∀ Q : List V → Hp → Prop, (∀ vs H2, Ex H1 H2 → P vs H2 → Q vs H2) → ta σ H1 Q
abbrev EvD (K : PySem.W.Frag) (te : TE) (σ : L2.St) (H : Hp) (d : PyData) : Prop := EvP te σ H fun v H2 => Dp K H2 v d
abbrev EvDs (K : PySem.W.Frag) (ta : TA) (σ : L2.St) (H : Hp) (ds : List PyData) : Prop := EvPA ta σ H fun vs H2 => DpAll K H2 vs ds
def RetP (H : Hp) (P : PV) (Q : VK) : Prop := ∀ v H', Ex H H' → P v H' → Q v H'
/-- a property that growing keeps -/
def Up (P : PV) : Prop := ∀ v H H', Ex H H' → P v H → P v H'
section
variable {K : PySem.W.Frag} {σ : L2.St} {H H' H1 : Hp} {ta tb te : TE} {t u : TT} {x y z v : V} {r : R2} {d : PyData} {ds es : List PyData} {i j : Int} {P P' R : PV}
theorem up_dp : Up fun v H => Dp K H v d := fun v _ _ e h => dp_ex e d v h
theorem EvP.mono (e : Ex H H') (h : EvP te σ H P) : EvP te σ H' P := fun H1 a Q q => h H1 (e.trans a) Q q
theorem EvPA.mono {ta : TA} {P : List V → Hp → Prop} (e : Ex H H') (h : EvPA ta σ H P) : EvPA ta σ H' P := fun H1 a Q q => h H1 (e.trans a) Q q
theorem EvP.imp (h : EvP te σ H P) (k : ∀ v H', Ex H H' → P v H' → R v H') : EvP te σ H R := fun H1 a Q q => h H1 a Q fun v H2 e2 p => q v H2 e2 (k v H2 (a.trans e2) p)
theorem ep_ev (h : Ev te σ H v) (k : ∀ H', Ex H H' → P v H') : EvP te σ H P := fun H1 a Q q => h H1 a Q fun H2 e2 => q v H2 e2 (k H2 (a.trans e2))
theorem ed_ev (h : Ev te σ H v) (k : Dp K H v d) : EvD K te σ H d := ep_ev h fun _ e => dp_ex e _ _ k
theorem ev_ep (h : EvP te σ H P) (k : ∀ w H', P w H' → w = v) : Ev te σ H v := fun H1 a Q q => h H1 a Q fun w H2 e2 p => by
  rw [k w H2 p]
  exact q H2 e2
theorem evI (h : EvD K te σ H (.int i)) : Ev te σ H (.int i) := ev_ep h fun _ _ p => dp_int p
theorem evB {b : Bool} (h : EvD K te σ H (.bool b)) : Ev te σ H (.bl b) := ev_ep h fun _ _ p => dp_bl p
theorem evS {x : Str} (h : EvD K te σ H (.str x)) : Ev te σ H (.str x) := ev_ep h fun _ _ p => dp_str p
theorem edI (h : Ev te σ H (.int i)) : EvD K te σ H (.int i) := ed_ev h (.int i)
theorem edB {b : Bool} (h : Ev te σ H (.bl b)) : EvD K te σ H (.bool b) := ed_ev h (.bl b)
theorem edS {x : Str} (h : Ev te σ H (.str x)) : EvD K te σ H (.str x) := ed_ev h (.str x)
theorem ed_var {n : Nat} (h : σ[n]? = some (some v)) (k : Dp K H v d) : EvD K (tVar n) σ H d := ed_ev (ev_var h) k
theorem ed_c (k : Dp K H v d) : EvD K (tC v) σ H d := ed_ev ev_c k
theorem ed_int : EvD K (tC (.int i)) σ H (.int i) := ed_c (.int i)
theorem ed_str {x : Str} : EvD K (tC (.str x)) σ H (.str x) := ed_c (.str x)
theorem ed_bl {b : Bool} : EvD K (tC (.bl b)) σ H (.bool b) := ed_c (.bl b)
theorem eds_nil : EvDs K tNil σ H [] := fun H1 _ _ q => q [] H1 (Ex.refl H1) .nil
theorem eds_cons {tr : TA} (h : EvD K te σ H d) (hr : EvDs K tr σ H ds) : EvDs K (tCons te tr) σ H (d :: ds) := fun H1 e Q q =>
  h H1 e _ fun v H2 e2 p => hr H2 (e.trans e2) _ fun vs H3 e3 ps => q (v :: vs) H3 (e2.trans e3) (.cons (dp_ex e3 _ _ p) ps)
/-- arguments by properties: the first is carried over the rest -/
theorem epa_nil {P : List V → Hp → Prop} (h : ∀ H', Ex H H' → P [] H') : EvPA tNil σ H P := fun H1 e _ q => q [] H1 (Ex.refl H1) (h H1 e)
theorem epa_cons {tr : TA} {P : List V → Hp → Prop} {P1 : PV} {P2 : List V → Hp → Prop} (u : Up P1) (h : EvP te σ H P1) (hr : EvPA tr σ H P2) (k : ∀ v vs H', Ex H H' → P1 v H' → P2 vs H' → P (v :: vs) H') : EvPA (tCons te tr) σ H P := fun H1 e Q q =>
  h H1 e _ fun v H2 e2 p => hr H2 (e.trans e2) _ fun vs H3 e3 ps => q (v :: vs) H3 (e2.trans e3) (k v vs H3 ((e.trans e2).trans e3) (u v H2 H3 e3 p) ps)
theorem epa_one {P : List V → Hp → Prop} {P1 : PV} (h : EvP te σ H P1) (k : ∀ v H', Ex H H' → P1 v H' → P [v] H') : EvPA (tCons te tNil) σ H P := fun H1 e Q q =>
  h H1 e _ fun v H2 e2 p => q [v] H2 e2 (k v H2 (e.trans e2) p)
theorem ed_tup {ta : TA} (h : EvDs K ta σ H ds) (hl : ds.length ≤ 100000) : EvD K (tTup ta) σ H (.tuple ds) := fun H1 e Q q =>
  h H1 e _ fun vs H2 e2 p => ⟨sz_of (by rw [dpA_len p]; exact hl), fun a ha => q (.ref a) _ (e2.trans (Ex.new ha)) (.tup (st_of upd_same) (dpA_ex (Ex.new ha) _ _ p))⟩
theorem ed_lst {ta : TA} (h : EvDs K ta σ H ds) (hl : ds.length ≤ 100000) : EvD K (tLst ta) σ H (.list ds) := fun H1 e Q q =>
  h H1 e _ fun vs H2 e2 p => ⟨sz_of (by rw [dpA_len p]; exact hl), fun a ha => q (.ref a) _ (e2.trans (Ex.new ha)) (.lst (sq_of upd_same) (dpA_ex (Ex.new ha) _ _ p))⟩
/-- a list that is new and known -/
def NewL (H0 : Hp) (xs : List V) : PV := fun v H => ∃ p, v = .ref p ∧ H0 p = none ∧ H p = some (.lst xs)
/-- t[i], xs[i] at a place told as a natural number -/
theorem ed_ixT {n : Nat} (h : EvD K ta σ H (.tuple ds)) (hi : Ev tb σ H (.int (n : Int))) (hd : ds[n]? = some d) : EvD K (tOp (rIxT K) ta tb) σ H d := fun H1 e Q q =>
  h H1 e _ fun v H2 e2 p => hi H2 (e.trans e2) _ fun H3 e3 => by
    obtain ⟨a, xs, rfl, hs, ha⟩ := dp_tup p
    obtain ⟨w, h1, h2⟩ := dpA_get ha hd
    exact ⟨a, xs, (n : Int), w, rfl, rfl, ex_t e3 hs, atI_nat h1, q w H3 (e2.trans e3) (dp_ex e3 _ _ h2)⟩
theorem ed_ixL {n : Nat} (h : EvD K ta σ H (.list ds)) (hi : Ev tb σ H (.int (n : Int))) (hd : ds[n]? = some d) : EvD K (tOp (rIxL K) ta tb) σ H d := fun H1 e Q q =>
  h H1 e _ fun v H2 e2 p => hi H2 (e.trans e2) _ fun H3 e3 => by
    obtain ⟨a, xs, rfl, hs, ha⟩ := dp_lst p
    obtain ⟨w, h1, h2⟩ := dpA_get ha hd
    exact ⟨a, xs, (n : Int), w, rfl, rfl, ex_l e3 hs, atI_nat h1, q w H3 (e2.trans e3) (dp_ex e3 _ _ h2)⟩
/-- f(..): P the arguments, R what comes back -/
theorem ep_call {sp : Sp} {dvs : List V} {E : XK} {ta : TA} {P : List V → Hp → Prop} (h : EvPA ta σ H P) (k : ∀ vs H1, Ex H H1 → P vs H1 → ∀ Q : VK, RetP H1 R Q → sp (vs ++ dvs) H1 Q E) : EvP (tCall sp dvs E ta) σ H R := fun H1 e Q q =>
  h H1 e _ fun vs H2 e2 p => k vs H2 (e.trans e2) p Q fun v H3 e3 r => q v H3 (e2.trans e3) r
/-- a built-in's call -/
theorem ep_cb {rr : List V → Hp → VK → Prop} {ta : TA} {P : List V → Hp → Prop} (h : EvPA ta σ H P) (k : ∀ vs H1, Ex H H1 → P vs H1 → ∀ Q : VK, RetP H1 R Q → rr vs H1 Q) : EvP (tCB rr ta) σ H R := fun H1 e Q q =>
  h H1 e _ fun vs H2 e2 p => k vs H2 (e.trans e2) p Q fun v H3 e3 r => q v H3 (e2.trans e3) r
theorem ep_op {P1 P2 : PV} (u1 : Up P1) (h : EvP ta σ H P1) (h' : EvP tb σ H P2) (k : ∀ v w H1, Ex H H1 → P1 v H1 → P2 w H1 → ∀ Q : VK, RetP H1 R Q → r v w H1 Q) : EvP (tOp r ta tb) σ H R := fun H1 e Q q =>
  h H1 e _ fun v H2 e2 p => h' H2 (e.trans e2) _ fun w H3 e3 p' => k v w H3 ((e.trans e2).trans e3) (u1 v H2 H3 e3 p) p' Q fun z H4 e4 rr => q z H4 ((e2.trans e3).trans e4) rr
theorem ep_un {rr : V → Hp → VK → Prop} {P1 : PV} (h : EvP ta σ H P1) (k : ∀ v H1, Ex H H1 → P1 v H1 → ∀ Q : VK, RetP H1 R Q → rr v H1 Q) : EvP (tUn rr ta) σ H R := fun H1 e Q q =>
  h H1 e _ fun v H2 e2 p => k v H2 (e.trans e2) p Q fun z H3 e3 r => q z H3 (e2.trans e3) r
theorem ep_then {k : V → Hp → VK → Prop} {P1 : PV} (h : EvP ta σ H P1) (g : ∀ v H1, Ex H H1 → P1 v H1 → ∀ Q : VK, RetP H1 R Q → k v H1 Q) : EvP (tThen ta k) σ H R := fun H1 e Q q =>
  h H1 e _ fun v H2 e2 p => g v H2 (e.trans e2) p Q fun z H3 e3 r => q z H3 (e2.trans e3) r
theorem ep_if {b : Bool} (h : EvT t σ H b) (h1 : b = true → EvP ta σ H P) (h2 : b = false → EvP tb σ H P) : EvP (tIf t ta tb) σ H P := fun H1 e Q q => h H1 e _ fun H2 e2 => by
  cases b with
  | true =>
    show ta σ H2 Q
    exact h1 rfl H2 (e.trans e2) Q fun v H3 e3 => q v H3 (e2.trans e3)
  | false =>
    show tb σ H2 Q
    exact h2 rfl H2 (e.trans e2) Q fun v H3 e3 => q v H3 (e2.trans e3)
/-! ### statements -/
variable {D : Ends} {tu tw tz : TS} {g : TG}
theorem s_asgP {n : Nat} (h : EvP te σ H P) (k : ∀ v H1, Ex H H1 → P v H1 → D.nx (σ.set n (some v)) H1) : tAsg te (gName n) D σ H := h H (Ex.refl H) _ fun v H1 e p => k v H1 e p
theorem q_asgP {n : Nat} (h : EvP te σ H P) (k : ∀ v H1, Ex H H1 → P v H1 → tz D (σ.set n (some v)) H1) : tSeq (tAsg te (gName n)) tz D σ H := s_asgP (D := { D with nx := tz D }) h k
theorem s_retP (h : EvP te σ H P) (k : ∀ v H1, Ex H H1 → P v H1 → D.rt v H1) : tRet te D σ H := h H (Ex.refl H) _ fun v H1 e p => k v H1 e p
theorem s_retR (h : EvP te σ H P) (k : RetP H P D.rt) : tRet te D σ H := h H (Ex.refl H) _ fun v H1 e p => k v H1 e p
theorem s_dropP (h : EvP te σ H P) (k : ∀ v H1, Ex H H1 → P v H1 → D.nx σ H1) : tDrop te D σ H := h H (Ex.refl H) _ fun v H1 e p => k v H1 e p
theorem q_dropP (h : EvP te σ H P) (k : ∀ v H1, Ex H H1 → P v H1 → tz D σ H1) : tSeq (tDrop te) tz D σ H := s_dropP (D := { D with nx := tz D }) h k
/-- a target: the slots behind it -/
def GP (g : TG) (x : V) (σ : L2.St) (H : Hp) (S : L2.St → Prop) : Prop := ∀ H1, Ex H H1 → ∀ Q : L2.St → Hp → Prop, (∀ σ', S σ' → Q σ' H1) → g x σ H1 Q
theorem gp_name {n : Nat} : GP (gName n) x σ H (fun σ' => σ' = σ.set n (some x)) := fun H1 _ _ q => q _ rfl
theorem gp_tup2 {a b : Nat} {d1 d2 : PyData} (h : Dp K H x (.tuple [d1, d2])) : GP (gTup K 2 (gCons (gName a) (gCons (gName b) gNil))) x σ H (fun σ' => ∃ v1 v2, Dp K H v1 d1 ∧ Dp K H v2 d2 ∧ σ' = (σ.set a (some v1)).set b (some v2)) := fun H1 e Q q => by
  obtain ⟨p, xs, rfl, hs, ha⟩ := dp_tup h
  cases ha with
  | cons h1 h2 =>
    cases h2 with
    | cons h2 h3 =>
      cases h3
      exact ⟨p, _, rfl, ex_t e hs, rfl, _, _, rfl, _, _, rfl, rfl, q _ ⟨_, _, h1, h2, rfl⟩⟩
theorem gp_tup3 {a b c : Nat} {d1 d2 d3 : PyData} (h : Dp K H x (.tuple [d1, d2, d3])) : GP (gTup K 3 (gCons (gName a) (gCons (gName b) (gCons (gName c) gNil)))) x σ H (fun σ' => ∃ v1 v2 v3, Dp K H v1 d1 ∧ Dp K H v2 d2 ∧ Dp K H v3 d3 ∧ σ' = ((σ.set a (some v1)).set b (some v2)).set c (some v3)) := fun H1 e Q q => by
  obtain ⟨p, xs, rfl, hs, ha⟩ := dp_tup h
  cases ha with
  | cons h1 h2 =>
    cases h2 with
    | cons h2 h3 =>
      cases h3 with
      | cons h3 h4 =>
        cases h4
        exact ⟨p, _, rfl, ex_t e hs, rfl, _, _, rfl, _, _, rfl, _, _, rfl, rfl, q _ ⟨_, _, _, h1, h2, h3, rfl⟩⟩
end
end Kw
end
section
/-! KwR1: repr(..) of data that the heap bears: lists, tuples, a dict of immutable things. -/
namespace Kw
open PySem PySem.Spec PyProof.Rows L2 Evl

section
variable {K : PySem.W.Frag} {H : Hp}
mutual
theorem dp_nodict : ∀ (d : PyData) (v : V), Dp K H v d → d.hasDict = false
  | .none, _, _ => rfl
  | .bool b, _, _ => rfl
  | .int i, _, _ => rfl
  | .str x, _, _ => rfl
  | .list ds, _, h => by
    cases h with
    | lst hs ha => simpa [PyData.hasDict] using dpA_nodict ds _ ha
  | .tuple ds, _, h => by
    cases h with
    | tup hs ha => simpa [PyData.hasDict] using dpA_nodict ds _ ha
  | .dict _, _, h => by cases h
theorem dpA_nodict : ∀ (ds : List PyData) (vs : List V), DpAll K H vs ds → PyData.hasDictAll ds = false
  | [], _, _ => rfl
  | d :: ds, _, h => by
    cases h with
    | cons h1 h2 => simp [PyData.hasDictAll, dp_nodict d _ h1, dpA_nodict ds _ h2]
end
end
section
variable {X : Cx} {pins : List (Addr × Obj)} {σ : L2.St} {H : Hp} {s : Shared}
mutual
theorem dp_readsI (I : Inv X pins σ H s) : ∀ (d : PyData) (v : V) (u : Value), imm d = true → Dp X.K H v d → RelV v u → Reads s.heap u d []
  | .none, _, _, _, h, r => by
    cases h
    cases r
    exact Reads.none
  | .bool b, _, _, _, h, r => by
    cases h
    cases r
    exact Reads.bool b
  | .int i, _, _, _, h, r => by
    cases h
    obtain ⟨t, rfl⟩ := r
    exact Reads.int i t
  | .str x, _, _, _, h, r => by
    cases h
    obtain ⟨t, rfl⟩ := r
    exact Reads.str x t
  | .list ds, _, _, i, _, _ => by simp [imm] at i
  | .tuple ds, _, _, i, h, r => by
    cases h with
    | tup hs ha =>
      cases r
      obtain ⟨its, rv, ⟨o, ho, hc, n, hd⟩, _⟩ := I.tuple hs
      exact Reads.tuple ho hc hd (dpA_readsI I ds _ its (by simpa [imm] using i) ha rv)
  | .dict _, _, _, _, h, _ => by cases h
theorem dpA_readsI (I : Inv X pins σ H s) : ∀ (ds : List PyData) (vs : List V) (us : List Value), immA ds = true → DpAll X.K H vs ds → Vals vs us → ReadsAll s.heap us ds []
  | [], _, _, _, h, r => by
    cases h
    cases r
    exact ReadsAll.nil
  | d :: ds, _, _, i, h, r => by
    have i' : imm d = true ∧ immA ds = true := by simpa [immA] using i
    cases h with
    | cons h1 h2 =>
      cases r with
      | cons r1 r2 => exact ReadsAll.cons (as := []) (bs := []) (dp_readsI I d _ _ i'.1 h1 r1) (dpA_readsI I ds _ _ i'.2 h2 r2)
end
/-- repr of a list or tuple of data -/
def rReprD (K : PySem.W.Frag) : List V → Hp → VK → Prop := fun vs H Q => ∃ (a : Addr) (d : PyData), vs = [.ref a] ∧ Dp K H (.ref a) d ∧ d.showable = true ∧ d.depth ≤ 60 ∧ d.shown.length ≤ sizeLine ∧ Q (.str d.shown) H
theorem call_reprD (hg : X.A.guards = some []) (hu : X.A.units + 64 < cLine) : CallR X (.builtin "repr") (rReprD X.K) := by
  intro pins s σ H xs us Q I r h
  obtain ⟨a, d, rfl, hd, hs, hdep, hz, q⟩ := h
  obtain ⟨u, rfl, ru⟩ := vals1 r
  obtain rfl : u = Value.ref a := ru
  obtain ⟨as, rd⟩ := Dp.reads I d (.ref a) (.ref a) hd rfl
  have nd := dp_nodict d _ hd
  refine PySem.repr_of_reads' rd hs (fun z => by rw [nd] at z; cases z) hg (by omega) (fun b o e => e) (fun h' u tk k => ?_) hz
  exact ⟨.str d.shown, H, I.kept (t' := tk) k, ⟨u, rfl⟩, q⟩
/-- the keys of a dict as data -/
def keyD : Key → PyData
  | .inl i => .int i
  | .inr x => .str x
theorem pairs_keys {h : Heap} {P : Program} {w : World} : ∀ {es : List DictEntry} {vs : List (Key × Value)}, Pairs (mixKind P w) es vs → ReadsAll h (es.map (·.key)) ((vs.map (·.1)).map keyD) []
  | _, _, .nil => ReadsAll.nil
  | e :: es, kv :: kvs, .cons hk _ t => by
    have r1 : Reads h e.key (keyD kv.1) [] := by
      rcases keyIs_shape (show keyIs kv.1 e.key = true from hk) with ⟨i, t, e1, e2⟩ | ⟨x, t, e1, e2⟩
      · rw [e1, e2]
        exact Reads.int i t
      · rw [e1, e2]
        exact Reads.str x t
    exact ReadsAll.cons (as := []) (bs := []) r1 (pairs_keys t)
theorem pairs_vals {P : Program} {w : World} : ∀ {es : List DictEntry} {vs : List (Key × Value)}, Pairs (mixKind P w) es vs → es.map (·.val) = vs.map (·.2)
  | _, _, .nil => rfl
  | _, _, .cons _ h t => by
    rw [List.map_cons, List.map_cons, pairs_vals t, h]
/-- repr of a dict whose values are immutable things -/
def rReprK (K : PySem.W.Frag) : List V → Hp → VK → Prop := fun vs H Q => ∃ (a : Addr) (kvs : List (Key × V)) (ds : List PyData), vs = [.ref a] ∧ Rd H a (.dK kvs) ∧ DpAll K H (kvs.map (·.2)) ds ∧ immA ds = true ∧
  (PyData.dict ((kvs.map (fun p => keyD p.1)).zip ds)).showable = true ∧ (PyData.dict ((kvs.map (fun p => keyD p.1)).zip ds)).depth ≤ 60 ∧ (PyData.dict ((kvs.map (fun p => keyD p.1)).zip ds)).shown.length ≤ sizeLine ∧
  Q (.str (PyData.dict ((kvs.map (fun p => keyD p.1)).zip ds)).shown) H
theorem zip_fst {α β : Type} : ∀ {xs : List α} {ys : List β}, xs.length = ys.length → (xs.zip ys).map (·.1) = xs
  | [], [], _ => rfl
  | [], _ :: _, l => by cases l
  | _ :: _, [], l => by cases l
  | x :: xs, y :: ys, l => by
    show x :: (xs.zip ys).map (·.1) = x :: xs
    rw [zip_fst (by simpa using l)]
theorem zip_snd {α β : Type} : ∀ {xs : List α} {ys : List β}, xs.length = ys.length → (xs.zip ys).map (·.2) = ys
  | [], [], _ => rfl
  | [], _ :: _, l => by cases l
  | _ :: _, [], l => by cases l
  | x :: xs, y :: ys, l => by
    show y :: (xs.zip ys).map (·.2) = y :: ys
    rw [zip_snd (by simpa using l)]
theorem kv_vals : ∀ {kvs : List (Key × V)} {vs : List (Key × Value)}, KV kvs vs → Vals (kvs.map (·.2)) (vs.map (·.2))
  | _, _, .nil => .nil
  | _, _, .cons h t => .cons h.2 (kv_vals t)
theorem call_reprK (hg : X.A.guards = some []) (hu : X.A.units + 64 < cLine) : CallR X (.builtin "repr") (rReprK X.K) := by
  intro pins s σ H xs us Q I r h
  obtain ⟨a, kvs, ds, rfl, hk, hd, hi, hs, hdep, hz, q⟩ := h
  obtain ⟨u, rfl, ru⟩ := vals1 r
  obtain rfl : u = Value.ref a := ru
  obtain ⟨_, hsys, vs, kv, dd⟩ := dk_rd I.hok hk
  have lk : kvs.length = vs.length := kv.length
  have ld : kvs.length = ds.length := by have := dpA_len hd; simpa using this
  have rd : Reads s.heap (.ref a) (PyData.dict ((kvs.map (fun p => keyD p.1)).zip ds)) (a :: [] ++ []) := by
    obtain ⟨o, es, ep, ho, hex, hdat, hes, hall, hnd⟩ := dd
    have l1 : (kvs.map (fun p => keyD p.1)).length = ds.length := by simpa using ld
    refine Reads.dict (es := es) (n := ep) (as := []) (bs := []) ho ?_ hdat ?_ ?_
    · exact hex.1
    · rw [zip_fst l1]
      have e1 : kvs.map (fun p => keyD p.1) = (kvs.map (·.1)).map keyD := by rw [List.map_map]; rfl
      rw [e1, kv.keys]
      exact pairs_keys hall
    · rw [zip_snd l1, pairs_vals hall]
      exact dpA_readsI I ds _ _ hi hd (kv_vals kv)
  refine PySem.repr_of_reads' rd hs (fun _ z => ?_) hg (by omega) (fun b o e => e) (fun h' u tk k => ?_) hz
  · have z' : sysModules = a := by simpa using z
    rw [z'] at hsys
    simp at hsys
  · exact ⟨.str _, H, I.kept (t' := tk) k, ⟨u, rfl⟩, q⟩
end
end Kw
end
section
/-! KwR2: set(a list or a tuple of ints), to be sorted. -/
namespace Kw
open PySem PySem.Spec PyProof.Rows L2 Evl
section
variable {P : Program} {w : World} {A : Around} {E : Value → Shared → Prop} {s : Shared}
/-- the set's object as it is new -/
abbrev set0 (w : World) : Obj := { cls := .type "set", dict := none, data := .set #[] 0 (.fresh 0 0 (!w.params.followText "set-order")) }
/-- set(l) of a list of ints: as call_set_tupI is for tuples -/
theorem set_lstI {l : Addr} {items : Array Value} (ns : List Int) {Q : Value → Shared → Prop} (hh : A.handled = none) (hl : s.heap.IsList l items) (hit : IntsAre items.toList ns) (hb : ns.length + 1 < scanBound)
    (h : ∀ (h' : Heap) (tk c : Nat), SetR w h' s.heap.objs.size (fun j => decide (j ∈ ns)) c → c ≤ ns.length → (∀ b o, s.heap.get? b = some o → h'.get? b = some o) → Q (.ref s.heap.objs.size) { s with heap := h', toks := tk }) :
    wpAny (model P w) A (call (.type "set") [.ref l]) Q E s := by
  have hisz : items.size = ns.length := by
    have q := IntsAre.length hit
    rw [Array.length_toList] at q
    exact q
  obtain ⟨c, tl, hmro⟩ := F.called_set.mro
  have hmade := F.called_set.made
  have hsub := F.called_set.sub
  refine wpAny_call (codeAny_of_tree ?_)
  show wpAny _ _ (callAny (.type "set") _) _ _ _
  refine wpAny_pure ⟨Code.quiet_builtin _ (by decide +kernel), codeAny_builtin F.entry_type_call ?_⟩
  rw [Around.under_plain (weight_type_call_type "set" [.ref l] []) rfl]
  have h1 := F.called_set.notType
  have h2 := F.called_set.canCreate
  have hct := F.typeCall_set_1 (.ref l)
  repeat (any_goals (first | assumption | wp_step))
  refine codeAny_mono (code_set_led1 (.ref l) (E := E) (Q₁ := fun obj s₁ => obj = .ref s.heap.objs.size ∧ s₁ = { s with heap := s.heap.push (set0 w) }) ⟨rfl, rfl⟩) fun r s₁ hr => ?_
  cases r with
  | error e => exact hr
  | ok fl =>
    cases fl with
    | next => exact hr.elim
    | brk => exact hr.elim
    | cont => exact hr.elim
    | ret obj =>
      obtain ⟨rfl, rfl⟩ := hr
      have hS : (s.heap.push (set0 w)).get? s.heap.objs.size = some (set0 w) := Heap.get?_push_size _ rfl
      have hT : Shared.TypeIs { s with heap := s.heap.push (set0 w) } (.ref s.heap.objs.size) "set" := ⟨_, hS, rfl⟩
      have hli := F.called_set.init.lookup
      have hbi := F.called_set.init.bind (.ref s.heap.objs.size)
      repeat (any_goals (first | assumption | wp_step))
      refine codeAny_mono (codeAny_call_builtin (R := wants (fun r s₂ => r = .none ∧ ∃ h' tk c, s₂ = { s with heap := h', toks := tk } ∧ SetR w h' s.heap.objs.size (fun j => decide (j ∈ ns)) c ∧ c ≤ ns.length ∧
          (∀ b o, s.heap.get? b = some o → h'.get? b = some o)) E) F.called_set.init.plain F.entry_set_init (check_set_init_1 hT ?_)) fun r₂ s₂ hr₂ => ?_
      · obtain ⟨⟨ocls, odict, odata, oslots⟩, hol, hcl, nl, hdl⟩ := hl
        simp only at hcl hdl
        subst hcl hdl
        have hol' : (s.heap.push (set0 w)).get? l = some { cls := .type "list", dict := odict, data := .seq items nl, slots := oslots } := Heap.get?_push_of_some _ hol
        have hsls := F.sub_list_set
        have hslf := F.sub_list_frozenset
        have hne : (Value.type "list" == Value.type "dict") = false := by decide
        have hl1 : (s.heap.push (set0 w)).IsList l items := ⟨_, hol', rfl, nl, rfl⟩
        unfold Builtin.«set.__init__» noKeywords Builtin.Frozenset.updateFrom
        generalize hPI : pyIter = PI
        wp_walk
        subst hPI
        refine wpAny_pyIter_list hl1 (wpAny_bind (wpAny_runValue ?_))
        have hlS : l < s.heap.objs.size := Heap.lt_size hol
        have hh3 : A.in1.in1.in1.handled = none := by simp [hh]
        have hneI : l ≠ (s.heap.push (set0 w)).objs.size := by
          rw [Heap.size_push]; exact Nat.ne_of_lt (Nat.lt_succ_of_lt hlS)
        have hSf : s.heap.objs.size ∉ [(s.heap.push (set0 w)).objs.size, l] := by
          rw [Heap.size_push]
          intro z
          rcases List.mem_cons.mp z with z | z
          · exact absurd z (Nat.ne_of_lt (Nat.lt_succ_self _))
          · exact absurd (List.mem_singleton.mp z) (Nat.ne_of_gt hlS)
        have hval : ∀ (i : Nat) (v : Value), items[i]? = some v → ∃ k t, ns[i]? = some k ∧ v = .int k t := fun i v hv => by
          have hi : i < ns.length := by rw [← hisz]; exact (Array.getElem?_eq_some_iff.mp hv).1
          obtain ⟨t, e⟩ := PyProof.Rows.IntsAre.int_at hit i v (by rw [Array.getElem?_toList]; exact hv)
          refine ⟨ns[i], t, List.getElem?_eq_getElem hi, ?_⟩
          rw [e, List.getD_eq_getElem?_getD, List.getElem?_eq_getElem hi] <;> rfl
        refine set_update_ints ((Walks.list hh3 _ l hneI items).toS) s.heap.objs.size hSf ns hisz hb hval (items.size - 0) 0 _ (by omega) (Nat.zero_le _)
          ⟨⟨_, Heap.get?_push_size _ rfl, rfl, rfl⟩, (hl1.push _)⟩ ?hS0 ?hR
        case hS0 =>
          have hget : ((s.heap.push (set0 w)).push { cls := .type "list_iterator", data := .fields #[.ref l, .int 0 0] }).get? s.heap.objs.size = some (set0 w) := Heap.get?_push_of_some _ hS
          exact ⟨0, Nat.le_refl 0, setR_new_at hget⟩
        case hR =>
          intro s' c' hm hc' hS'
          obtain ⟨h', g2, d', tk', os'⟩ := s'
          obtain rfl : g2 = s.gens := hm.gens
          obtain rfl : d' = s.drawn := hm.drawn
          obtain rfl : os' = s.os := hm.os
          show wpAny _ _ _ _ _ _
          refine wpAny_pure ?_
          show wpAny _ _ (ret Value.none) _ _ _
          rw [hisz] at hc'
          refine wpAny_pure ⟨rfl, h', tk', c', rfl, hS', hc', fun b o e => ?_⟩
          have hb0 : b < s.heap.objs.size := Heap.lt_size e
          refine hm.heap b o (fun z => ?_) (Heap.get?_push_of_some _ (Heap.get?_push_of_some _ e))
          rcases List.mem_cons.mp z with z | z
          · exact absurd z (Nat.ne_of_lt hb0)
          · have z' := List.mem_singleton.mp z
            rw [Heap.size_push] at z'
            exact absurd z' (Nat.ne_of_lt (Nat.lt_succ_of_lt hb0))
      · cases r₂ with
        | error e => exact hr₂
        | ok fl₂ =>
          cases fl₂ with
          | next => exact hr₂.elim
          | brk => exact hr₂.elim
          | cont => exact hr₂.elim
          | ret r =>
            obtain ⟨rfl, h', tk, c', rfl, hS', hc', hk'⟩ := hr₂
            repeat (any_goals (first | assumption | wp_step))
            exact h _ _ _ hS' hc' hk'
end
section
variable {X : Cx}
/-- set(x), x a list or a tuple of ints -/
def rSetI (K : PySem.W.Frag) (w : World) : List V → Hp → VK → Prop := fun vs H Q => ∃ (l : Addr) (ns : List Int), vs = [.ref l] ∧ (SqL K H l (ns.map V.int) ∨ SqT K H l (ns.map V.int)) ∧ ns.length ≤ 1000 ∧
  ∀ p c, c ≤ ns.length → H p = none → Q (.ref p) (upd H p (SetO w p (fun j => decide (j ∈ ns)) c))
theorem call_setI (hc : X.calm = true) : CallR X (.type "set") (rSetI X.K X.w) := by
  intro pins s σ H xs us Q I r h
  obtain ⟨l, ns, rfl, hs, hz, q⟩ := h
  obtain ⟨u, rfl, ru⟩ := vals1 r
  obtain rfl : u = Value.ref l := ru
  have fin : ∀ (h' : Heap) (tk c : Nat), SetR X.w h' s.heap.objs.size (fun j => decide (j ∈ ns)) c → c ≤ ns.length → (∀ b o, s.heap.get? b = some o → h'.get? b = some o) → EP X pins σ Q (.ref s.heap.objs.size) { s with heap := h', toks := tk } := fun h' tk c hS hc k =>
    ⟨.ref _, _, I.laid (t' := tk) k (Nat.le_refl _) (setO_new hS), rfl, q _ c hc (I.hok.fresh (Nat.le_refl _))⟩
  have hb : ns.length + 1 < scanBound := by unfold scanBound; omega
  rcases hs with hs | hs
  · obtain ⟨its, rv, p, _⟩ := I.list hs
    exact set_lstI ns (I.ok.hd hc) p.isList (by simpa using RZ.intsAre_vals rv) hb fin
  · obtain ⟨its, rv, p, _⟩ := I.tuple hs
    exact call_set_tupI ns (I.ok.hd hc) (show s.heap.IsTuple l its.toArray from p) (by simpa using RZ.intsAre_vals rv) hb fin
end
end Kw
end
section
/-! KwR3: list(zip(t, u)) of two tuples of one length. -/
namespace Kw
open PySem PySem.Spec PyProof.Rows L2 Evl
section
variable {P : Program} {w : World} {A : Around} {E : Value → Shared → Prop} {s : Shared}
/-- next of a zip over tuples while the pair given out before is held -/
theorem zipH_item {z TI TO T i1 i2 l1 l2 : Addr} {f : Bool} {oT : Obj} {k1 k2 : Nat} {xs ys : Array Value} {x y : Value} {Q : Value → Shared → Prop} (D : ZipApart z TI TO i1 i2 l1 l2)
    (hz : IsZipHeld s.heap z TI TO T f) (hT : s.heap.get? T = some oT) (hTI : IsPair s.heap TI (.ref i1) (.ref i2))
    (h1 : s.heap.IsTupleIter i1 l1 k1) (h2 : s.heap.IsTupleIter i2 l2 k2) (hl1 : s.heap.IsTuple l1 xs) (hl2 : s.heap.IsTuple l2 ys) (hx : xs[k1]? = some x) (hy : ys[k2]? = some y)
    (hQ : ∀ h', IsZipHeld h' z TI TO T true → h'.IsTupleIter i1 l1 (k1 + 1) → h'.IsTupleIter i2 l2 (k2 + 1) → IsPair h' s.heap.objs.size x y → h'.objs.size = s.heap.objs.size + 1 →
      (∀ c o, c ≠ z → c ≠ i1 → c ≠ i2 → s.heap.get? c = some o → h'.get? c = some o) → Q (.ref s.heap.objs.size) { s with heap := h' }) :
    wpAny (model P w) A (Builtin.«zip.__next__» ⟨[.ref z], []⟩) (fun fin s' => ∃ v, fin = .done (.ret v) ∧ Q v s') E s := by
  show wpAny _ _ (field (.ref z) 2 >>= _) _ _ _
  refine wpAny_bind (wpAny_field hz rfl (x := .bool false) rfl ?_)
  show wpAny _ _ (field (.ref z) 3 >>= _) _ _ _
  refine wpAny_bind (wpAny_field hz rfl (x := .ref TI) rfl (wpAny_bind (wpAny_seqItems hTI rfl ?_)))
  show wpAny _ _ (Builtin.SmallTypes.ownedTupleIsFree (.ref z) >>= _) _ _ _
  refine wpAny_bind (wpAny_tupleHeld_zip hz hT fun h₁ hz₁ hs₁ => ?_)
  simp only [Bool.false_eq_true, if_false]
  refine wpAny_bind ?_
  rw [← Array.forIn_toList]
  simp only [List.forIn_cons, List.forIn_nil]
  refine wpAny_bind (wpAny_bind (wpAny_holding ?_))
  show wpAny _ _ (Builtin.SmallTypes.nextOf (.ref i1) >>= _) _ _ _
  refine wpAny_bind (RZ.nextOf_tuple_item (s := { s with heap := h₁ }) (h1.extBut hs₁.extBut D.i1z) (hl1.extBut hs₁.extBut D.l1z) hx fun h₂ h1₂ hs₂ => wpAny_pure (wpAny_pure ?_))
  refine wpAny_bind (wpAny_bind (wpAny_holding ?_))
  show wpAny _ _ (Builtin.SmallTypes.nextOf (.ref i2) >>= _) _ _ _
  refine wpAny_bind (RZ.nextOf_tuple_item (s := { s with heap := h₂ }) ((h2.extBut hs₁.extBut D.i2z).extBut hs₂.extBut D.i12.symm) ((hl2.extBut hs₁.extBut D.l2z).extBut hs₂.extBut D.l2i1) hy fun h₃ h2₃ hs₃ => wpAny_pure (wpAny_pure (wpAny_pure ?_)))
  show wpAny _ _ (newTuple [x, y] >>= _) _ _ _
  refine wpAny_bind (wpAny_newTuple ?_)
  have hsz : h₃.objs.size = s.heap.objs.size := by rw [hs₃.1, hs₂.1, hs₁.1]
  have hz₃ : IsZipHeld h₃ z TI TO T true := hs₃.extBut _ _ D.i2z.symm (hs₂.extBut _ _ D.i1z.symm hz₁)
  have hk : ∀ c o, c ≠ z → c ≠ i1 → c ≠ i2 → s.heap.get? c = some o → h₃.get? c = some o := fun c o c1 c2 c3 e => hs₃.extBut _ _ c3 (hs₂.extBut _ _ c2 (hs₁.extBut _ _ c1 e))
  have h1₃ : h₃.IsTupleIter i1 l1 (k1 + 1) := h1₂.extBut hs₃.extBut D.i12
  refine wpAny_pure ⟨_, rfl, ?_⟩
  show Q (.ref h₃.objs.size) _
  have hp : IsPair (h₃.push { cls := .type "tuple", data := .seq #[x, y] }) h₃.objs.size x y := Heap.get?_push_size _ rfl
  have hz4 : (h₃.push { cls := .type "tuple", data := .seq #[x, y] }).objs.size = h₃.objs.size + 1 := Heap.size_push ..
  rw [hsz] at hp hz4 ⊢
  exact hQ _ (Heap.get?_push_of_some _ hz₃) (h1₃.at fun o e => Heap.get?_push_of_some _ e) (h2₃.at fun o e => Heap.get?_push_of_some _ e) hp hz4 fun c o c1 c2 c3 e => Heap.get?_push_of_some _ (hk c o c1 c2 c3 e)
theorem zipH_end {z TI TO T i1 i2 l1 l2 : Addr} {f : Bool} {oT : Obj} {k1 : Nat} {xs : Array Value} {Q : Fin → Shared → Prop} (hh : A.handled = none) (D : ZipApart z TI TO i1 i2 l1 l2)
    (hz : IsZipHeld s.heap z TI TO T f) (hT : s.heap.get? T = some oT) (hTI : IsPair s.heap TI (.ref i1) (.ref i2))
    (h1 : s.heap.IsTupleIter i1 l1 k1) (hl1 : s.heap.IsTuple l1 xs) (hend : xs[k1]? = none)
    (hE : ∀ h' e, (∀ c o, c ≠ z → c ≠ i1 → c ≠ i2 → s.heap.get? c = some o → h'.get? c = some o) → (∃ o, h'.get? e = some o ∧ o.cls = .type "StopIteration") → E (.ref e) { s with heap := h' }) :
    wpAny (model P w) A (Builtin.«zip.__next__» ⟨[.ref z], []⟩) Q E s := by
  show wpAny _ _ (field (.ref z) 2 >>= _) _ _ _
  refine wpAny_bind (wpAny_field hz rfl (x := .bool false) rfl ?_)
  show wpAny _ _ (field (.ref z) 3 >>= _) _ _ _
  refine wpAny_bind (wpAny_field hz rfl (x := .ref TI) rfl (wpAny_bind (wpAny_seqItems hTI rfl ?_)))
  show wpAny _ _ (Builtin.SmallTypes.ownedTupleIsFree (.ref z) >>= _) _ _ _
  refine wpAny_bind (wpAny_tupleHeld_zip hz hT fun h₁ hz₁ hs₁ => ?_)
  simp only [Bool.false_eq_true, if_false]
  refine wpAny_bind ?_
  rw [← Array.forIn_toList]
  simp only [List.forIn_cons, List.forIn_nil]
  refine wpAny_bind (wpAny_bind (wpAny_holding ?_))
  show wpAny _ _ (Builtin.SmallTypes.nextOf (.ref i1) >>= _) _ _ _
  refine wpAny_bind (RZ.nextOf_tuple_end (s := { s with heap := h₁ }) hh (h1.extBut hs₁.extBut D.i1z) (hl1.extBut hs₁.extBut D.l1z) hend fun h₂ e hs₂ he => ?_)
  exact hE h₂ e (fun c o c1 c2 _ x => hs₂ _ _ c2 (hs₁.extBut _ _ c1 x)) he

/-- the zip at its k-th turn; S is what else is written meanwhile -/
structure ZSt (h : Heap) (z TI TO i1 i2 l1 l2 S : Addr) (k : Nat) (xs ys : Array Value) : Prop where
  ti : IsPair h TI (.ref i1) (.ref i2)
  it1 : h.IsTupleIter i1 l1 k
  it2 : h.IsTupleIter i2 l2 k
  t1 : h.IsTuple l1 xs
  t2 : h.IsTuple l2 ys
  zz : (IsZip h z TI TO .none ∧ ∃ a b, IsPair h TO a b) ∨ ∃ T f oT, IsZipHeld h z TI TO T f ∧ h.get? T = some oT ∧ T ≠ S ∧ T ≠ z ∧ T ≠ i1 ∧ T ≠ i2
theorem isTup_keep {h h' : Heap} {a : Addr} {xs : Array Value} (t : h.IsTuple a xs) (k : ∀ o, h.get? a = some o → h'.get? a = some o) : h'.IsTuple a xs := by
  obtain ⟨o, ho, r⟩ := t
  exact ⟨o, k o ho, r⟩
theorem ZSt.keep {h h' : Heap} {z TI TO i1 i2 l1 l2 S : Addr} {k : Nat} {xs ys : Array Value} (st : ZSt h z TI TO i1 i2 l1 l2 S k xs ys) (hk : ∀ c o, c ≠ S → h.get? c = some o → h'.get? c = some o)
    (n1 : TI ≠ S) (n2 : i1 ≠ S) (n3 : i2 ≠ S) (n4 : l1 ≠ S) (n5 : l2 ≠ S) (n6 : z ≠ S) (n7 : TO ≠ S) : ZSt h' z TI TO i1 i2 l1 l2 S k xs ys where
  ti := hk _ _ n1 st.ti
  it1 := st.it1.at fun o e => hk _ o n2 e
  it2 := st.it2.at fun o e => hk _ o n3 e
  t1 := isTup_keep st.t1 fun o e => hk _ o n4 e
  t2 := isTup_keep st.t2 fun o e => hk _ o n5 e
  zz := by
    rcases st.zz with ⟨a, x, y, b⟩ | ⟨T, f, oT, a, b, c⟩
    · exact .inl ⟨hk _ _ n6 a, x, y, hk _ _ n7 b⟩
    · exact .inr ⟨T, f, oT, hk _ _ n6 a, hk _ _ c.1 b, c⟩
theorem zst_item {z TI TO i1 i2 l1 l2 S : Addr} {k : Nat} {xs ys : Array Value} {x y : Value} {Q : Option Value → Shared → Prop} (D : ZipApart z TI TO i1 i2 l1 l2) (hS : S < s.heap.objs.size) (st : ZSt s.heap z TI TO i1 i2 l1 l2 S k xs ys) (hx : xs[k]? = some x) (hy : ys[k]? = some y)
    (hQ : ∀ h', ZSt h' z TI TO i1 i2 l1 l2 S (k + 1) xs ys → IsPair h' s.heap.objs.size x y → h'.objs.size = s.heap.objs.size + 1 → (∀ c o, c ≠ z → c ≠ TO → c ≠ i1 → c ≠ i2 → s.heap.get? c = some o → h'.get? c = some o) → Q (some (.ref s.heap.objs.size)) { s with heap := h' }) :
    wpAny (model P w) A (pyNext (.ref z)) Q E s := by
  have lt : ∀ {a : Addr} {o : Obj}, s.heap.get? a = some o → a ≠ s.heap.objs.size := fun e => Nat.ne_of_lt (Heap.lt_size e)
  rcases st.zz with ⟨hz, a, b, hTO⟩ | ⟨T, f, oT, hz, hT, nS, nz, ni1, ni2⟩
  · refine RZ.pyNext_zipT_item D hz st.ti hTO st.it1 st.it2 st.t1 st.t2 hx hy fun h' z' TO' h1' h2' hT hsz hk => hQ h' ⟨hk _ _ D.TIz D.TITO D.TIi1 D.TIi2 st.ti, h1', h2', isTup_keep st.t1 fun o e => hk _ o D.l1z D.l1TO ?_ ?_ e, isTup_keep st.t2 fun o e => hk _ o D.l2z D.l2TO ?_ ?_ e, .inr ⟨s.heap.objs.size, false, _, z', hT, Nat.ne_of_gt hS, (lt hz).symm, ?_, ?_⟩⟩ hT hsz hk
    · exact D.l1i1
    · exact D.l1i2
    · exact D.l2i1
    · exact D.l2i2
    · obtain ⟨_, e, _⟩ := st.it1
      exact (lt e).symm
    · obtain ⟨_, e, _⟩ := st.it2
      exact (lt e).symm
  · have hTy : s.TypeIs (.ref z) "zip" := ⟨_, hz, rfl⟩
    unfold pyNext
    refine wpAny_bind (wpAny_attempt (wpAny_callSpecial?_slot (name := Str.ofString "__next__") hTy F.slot_zip_next
      (wpAny_call_entry F.slot_zip_next hTy F.entry_zip_next
        (zipH_item D hz hT st.ti st.it1 st.it2 st.t1 st.t2 hx hy fun h' z' h1' h2' hp hsz hk => wpAny_pure (hQ h' ⟨hk _ _ D.TIz D.TIi1 D.TIi2 st.ti, h1', h2', isTup_keep st.t1 fun o e => hk _ o D.l1z D.l1i1 D.l1i2 e, isTup_keep st.t2 fun o e => hk _ o D.l2z D.l2i1 D.l2i2 e,
          .inr ⟨T, true, oT, z', hk _ _ nz ni1 ni2 hT, nS, nz, ni1, ni2⟩⟩ hp hsz fun c o c1 _ c3 c4 e => hk c o c1 c3 c4 e)) (F.args_zip_next_1 _))))
theorem zst_done {z TI TO i1 i2 l1 l2 S : Addr} {k : Nat} {xs ys : Array Value} {Q : Option Value → Shared → Prop} (hh : A.handled = none) (D : ZipApart z TI TO i1 i2 l1 l2) (st : ZSt s.heap z TI TO i1 i2 l1 l2 S k xs ys) (hx : xs[k]? = none)
    (hQ : ∀ h', (∀ c o, c ≠ z → c ≠ TO → c ≠ i1 → c ≠ i2 → s.heap.get? c = some o → h'.get? c = some o) → Q none { s with heap := h' }) : wpAny (model P w) A (pyNext (.ref z)) Q E s := by
  rcases st.zz with ⟨hz, a, b, hTO⟩ | ⟨T, f, oT, hz, hT, nS, nz, ni1, ni2⟩
  · exact RZ.pyNext_zipT_end hh D hz st.ti hTO st.it1 st.it2 st.t1 st.t2 (.inl hx) hQ
  · have hTy : s.TypeIs (.ref z) "zip" := ⟨_, hz, rfl⟩
    unfold pyNext
    refine wpAny_bind (wpAny_attempt (wpAny_callSpecial?_slot (name := Str.ofString "__next__") hTy F.slot_zip_next
      (wpAny_call_entry F.slot_zip_next hTy F.entry_zip_next (zipH_end hh D hz hT st.ti st.it1 st.t1 hx fun h' e hk he => ?_) (F.args_zip_next_1 _))))
    obtain ⟨o, ho, hc⟩ := he
    refine wpAny_bind (wpAny_isInstance (T := "StopIteration") (b := true) ⟨o, ho, hc⟩ isSubtype_stop ?_)
    exact wpAny_pure (hQ _ fun c o c1 _ c3 c4 e => hk c o c1 c3 c4 e)
/-- the pairs made so far: their addresses rise above lo -/
structure ZG (xs ys : Array Value) (lo : Addr) (h : Heap) (as : List Addr) : Prop where
  rise : as.Pairwise (· < ·)
  above : ∀ a ∈ as, lo < a
  pairs : ∀ (j : Nat) (a : Addr), as[j]? = some a → ∃ x y, xs[j]? = some x ∧ ys[j]? = some y ∧ IsPair h a x y
theorem ZG.nil {xs ys : Array Value} {lo : Addr} {h : Heap} : ZG xs ys lo h [] := ⟨List.Pairwise.nil, (fun _ z => nomatch z), fun j a z => by simp at z⟩
theorem ZG.low {xs ys : Array Value} {lo lo' : Addr} {h : Heap} {as : List Addr} (g : ZG xs ys lo h as) (l : lo' ≤ lo) : ZG xs ys lo' h as := ⟨g.rise, fun a z => Nat.lt_of_le_of_lt l (g.above a z), g.pairs⟩
theorem ZG.keep {xs ys : Array Value} {lo : Addr} {h h' : Heap} {as : List Addr} (g : ZG xs ys lo h as) (k : ∀ a o, lo < a → h.get? a = some o → h'.get? a = some o) : ZG xs ys lo h' as :=
  ⟨g.rise, g.above, fun j a z => by
    obtain ⟨x, y, e1, e2, e3⟩ := g.pairs j a z
    exact ⟨x, y, e1, e2, k _ _ (g.above a (List.mem_of_getElem? z)) e3⟩⟩
theorem ZG.there {xs ys : Array Value} {lo : Addr} {h : Heap} {as : List Addr} (g : ZG xs ys lo h as) {a : Addr} (ha : a ∈ as) : a < h.objs.size := by
  obtain ⟨j, hj⟩ := List.mem_iff_getElem?.mp ha
  obtain ⟨x, y, _, _, e⟩ := g.pairs j a hj
  exact Heap.lt_size e
theorem ZG.snoc {xs ys : Array Value} {lo T : Addr} {h : Heap} {as : List Addr} (g : ZG xs ys lo h as) (hT : ∀ a ∈ as, a < T) (hl : lo < T) {x y : Value} (hx : xs[as.length]? = some x) (hy : ys[as.length]? = some y) (hp : IsPair h T x y) : ZG xs ys lo h (as ++ [T]) where
  rise := List.pairwise_append.mpr ⟨g.rise, List.pairwise_singleton _ _, fun a ha b hb => by
    rw [List.mem_singleton.mp hb]
    exact hT a ha⟩
  above := fun a ha => by
    rcases List.mem_append.mp ha with ha | ha
    · exact g.above a ha
    · rw [List.mem_singleton.mp ha]
      exact hl
  pairs := fun j b hj => by
    rcases Nat.lt_trichotomy j as.length with h1 | h1 | h1
    · rw [List.getElem?_append_left h1] at hj
      exact g.pairs j b hj
    · subst h1
      have hb : T = b := by simpa using hj
      subst hb
      exact ⟨x, y, hx, hy, hp⟩
    · have hnone : (as ++ [T])[j]? = none := List.getElem?_eq_none (by rw [List.length_append, List.length_singleton]; omega)
      rw [hnone] at hj
      cases hj
theorem zip_loop {S z TI TO i1 i2 l1 l2 : Addr} {xs ys : Array Value} {R : Result → Shared → Prop} (hh : A.handled = none) (D : ZipApart z TI TO i1 i2 l1 l2) (hlen : xs.size = ys.size) (hn : xs.size ≤ sizeLine) (lo : Addr) (res : Value) (n1 : TI ≠ S) (n2 : i1 ≠ S) (n3 : i2 ≠ S) (n4 : l1 ≠ S) (n5 : l2 ≠ S) (n6 : z ≠ S) (n7 : TO ≠ S)
    (b1 : S ≤ lo) (b2 : z ≤ lo) (b3 : TO ≤ lo) (b4 : i1 ≤ lo) (b5 : i2 ≤ lo) {h₁ : Heap}
    (hR : ∀ h' tk acc c as, (∀ b o, b ≠ S → b ≠ z → b ≠ TO → b ≠ i1 → b ≠ i2 → h₁.get? b = some o → h'.get? b = some o) → h'.get? S = some { cls := .type "list", dict := none, data := .seq acc c, slots := #[] } → as.length = xs.size → ZG xs ys lo h' as →
      acc.toList = as.map Value.ref → R (.ok (.ret res)) { s with heap := h', toks := tk }) :
    ∀ (k i : Nat) (h : Heap) (tk c : Nat) (acc : Array Value) (as : List Addr), xs.size - i = k → i ≤ xs.size → ZSt h z TI TO i1 i2 l1 l2 S i xs ys → (∀ b o, b ≠ S → b ≠ z → b ≠ TO → b ≠ i1 → b ≠ i2 → h₁.get? b = some o → h.get? b = some o) →
      h.get? S = some { cls := .type "list", dict := none, data := .seq acc c, slots := #[] } → acc.toList = as.map Value.ref → as.length = i → ZG xs ys lo h as → lo < h.objs.size →
      codeAny (model P w) A (.builtin "list.extend.loop" ⟨[.ref S, .ref z, res], []⟩) R { s with heap := h, toks := tk } := by
  intro k
  induction k with
  | zero =>
    intro i h tk c acc as hk hi hst hkeep hS hacc hal hG hIs
    have hin : i = xs.size := by omega
    refine codeAny_builtin PySem.F.entry_extend_loop ?_
    rw [Around.under_plainId PySem.F.plain_extend_loop _]
    show wpAny _ A.in1 (pyNext (.ref z) >>= _) _ _ _
    refine wpAny_bind (zst_done (s := { s with heap := h, toks := tk }) (A := A.in1) hh D hst (by rw [hin]; simp) fun h' he => ?_)
    refine wpAny_pure (hR h' tk acc c as (fun b o h1 h2 h3 h4 h5 e => he b o h2 h3 h4 h5 (hkeep b o h1 h2 h3 h4 h5 e)) (he S _ n6.symm n7.symm n2.symm n3.symm hS) (by omega) (hG.keep fun a o ha e => ?_) hacc)
    exact he a o (Nat.ne_of_gt (Nat.lt_of_le_of_lt b2 ha)) (Nat.ne_of_gt (Nat.lt_of_le_of_lt b3 ha)) (Nat.ne_of_gt (Nat.lt_of_le_of_lt b4 ha)) (Nat.ne_of_gt (Nat.lt_of_le_of_lt b5 ha)) e
  | succ k ih =>
    intro i h tk c acc as hk hi hst hkeep hS hacc hal hG hIs
    have hlt : i < xs.size := by omega
    have hlt2 : i < ys.size := by omega
    have hsz : acc.size = i := by rw [← Array.length_toList, hacc, List.length_map, hal]
    refine codeAny_builtin PySem.F.entry_extend_loop ?_
    rw [Around.under_plainId PySem.F.plain_extend_loop _]
    show wpAny _ A.in1 (pyNext (.ref z) >>= _) _ _ _
    have hSl : S < h.objs.size := Heap.lt_size hS
    refine wpAny_bind (zst_item (s := { s with heap := h, toks := tk }) (x := xs[i]) (y := ys[i]) D hSl hst (by simp [hlt]) (by simp [hlt2]) fun h' hst' ht hz hkp => ?_)
    dsimp only at ht hz hkp ⊢
    have hS' := hkp S _ n6.symm n7.symm n2.symm n3.symm hS
    have up : ∀ b o, b ≠ S → h'.get? b = some o → (h'.update S (Obj.mapSeq (·.push (Value.ref h.objs.size)))).get? b = some o := fun b o hb e => (Heap.get?_update_other _ _ (Ne.symm hb)).trans e
    have hgt : ∀ a o, lo < a → h.get? a = some o → h'.get? a = some o := fun a o ha e =>
      hkp a o (Nat.ne_of_gt (Nat.lt_of_le_of_lt b2 ha)) (Nat.ne_of_gt (Nat.lt_of_le_of_lt b3 ha)) (Nat.ne_of_gt (Nat.lt_of_le_of_lt b4 ha)) (Nat.ne_of_gt (Nat.lt_of_le_of_lt b5 ha)) e
    show wpAny _ A.in1 (updateSeq S (·.push (Value.ref h.objs.size)) >>= _) _ _ _
    refine wpAny_bind ?_
    refine wpAny_updateSeq hS' rfl (wpAny_pure ⟨plainId_quiet PySem.F.plain_extend_loop _, ih (i + 1) _ tk _ (acc.push (Value.ref h.objs.size)) (as ++ [h.objs.size]) (by omega) hlt (hst'.keep up n1 n2 n3 n4 n5 n6 n7)
      (fun b o h1 h2 h3 h4 h5 e => up b o h1 (hkp b o h2 h3 h4 h5 (hkeep b o h1 h2 h3 h4 h5 e))) (Heap.get?_update_self _ hS' rfl) (by rw [Array.toList_push, hacc, List.map_append]; rfl) (by rw [List.length_append, hal]; rfl) ?_ ?_⟩) (by rw [hsz]; omega) (by rw [Array.size_push, hsz]; omega)
    · refine ZG.snoc (x := xs[i]) (y := ys[i]) ((hG.keep hgt).keep fun a o ha e => up a o (Nat.ne_of_gt (Nat.lt_of_le_of_lt b1 ha)) e) (fun a ha => hG.there ha) hIs (by rw [hal]; simp [hlt]) (by rw [hal]; simp [hlt2]) (up _ _ (Nat.ne_of_gt hSl) ht)
    · have e : (h'.update S (Obj.mapSeq (·.push (Value.ref h.objs.size)))).get? h.objs.size = _ := up _ _ (Nat.ne_of_gt hSl) ht
      exact Nat.lt_trans hIs (Heap.lt_size e)
theorem zip_no_len : typeLookup (.type "zip") "__len__" = pure none := am_miss_of_fast (by decide +kernel)
theorem zip_no_hint : typeLookup (.type "zip") "__length_hint__" = pure none := am_miss_of_fast (by decide +kernel)
theorem zip_hint {z : Addr} {Q : Bool → Shared → Prop} (hT : s.TypeIs (.ref z) "zip") (h : Q true s) : wpAny (model P w) A (Builtin.List.listLengthHint (.ref z)) Q E s := by
  unfold Builtin.List.listLengthHint
  refine wpAny_bind (wpAny_specialOf hT zip_no_len ?_)
  refine wpAny_bind (wpAny_specialOf hT zip_no_hint ?_)
  exact wpAny_pure h
theorem zip_extend {z TI TO i1 i2 l1 l2 S : Addr} {xs ys : Array Value} {R : Result → Shared → Prop} (hh : A.handled = none) (D : ZipApart z TI TO i1 i2 l1 l2) (hlen : xs.size = ys.size) (hn : xs.size ≤ sizeLine) (lo : Addr) (res : Value) (n1 : TI ≠ S) (n2 : i1 ≠ S) (n3 : i2 ≠ S) (n4 : l1 ≠ S) (n5 : l2 ≠ S) (n6 : z ≠ S) (n7 : TO ≠ S)
    (b1 : S ≤ lo) (b2 : z ≤ lo) (b3 : TO ≤ lo) (b4 : i1 ≤ lo) (b5 : i2 ≤ lo) (hlo : lo < s.heap.objs.size) (hz0 : IsZip s.heap z TI TO .none) (st : ZSt s.heap z TI TO i1 i2 l1 l2 S 0 xs ys) (c₀ : Nat) (hS : s.heap.get? S = some { cls := .type "list", data := .seq #[] c₀ })
    (hR : ∀ h' tk acc c as, (∀ b o, b ≠ S → b ≠ z → b ≠ TO → b ≠ i1 → b ≠ i2 → s.heap.get? b = some o → h'.get? b = some o) → h'.get? S = some { cls := .type "list", dict := none, data := .seq acc c, slots := #[] } → as.length = xs.size → ZG xs ys lo h' as →
      acc.toList = as.map Value.ref → R (.ok (.ret res)) { s with heap := h', toks := tk }) :
    wpAny (model P w) A.in1 (Builtin.List.listExtendWith (.ref S) (.ref z) res)
      (fun fin s' => match fin with | .done f => R (.ok f) s' | .again c' => c'.quiet = true ∧ codeAny (model P w) A c' R s') (fun e s' => R (.error e) s') s := by
  have hTz : s.TypeIs (.ref z) "zip" := ⟨_, hz0, rfl⟩
  have key : ∀ (h : Heap) (c₁ tk : Nat), (∀ b o, b ≠ S → s.heap.get? b = some o → h.get? b = some o) → lo < h.objs.size → h.get? S = some { cls := .type "list", data := .seq #[] c₁ } →
      codeAny (model P w) A (.builtin "list.extend.loop" ⟨[.ref S, .ref z, res], []⟩) R { s with heap := h, toks := tk } := fun h c₁ tk hk hl hS₁ =>
    zip_loop (s := s) (h₁ := s.heap) hh D hlen hn lo res n1 n2 n3 n4 n5 n6 n7 b1 b2 b3 b4 b5 hR xs.size 0 h tk c₁ #[] [] (Nat.sub_zero _) (Nat.zero_le _) (st.keep hk n1 n2 n3 n4 n5 n6 n7) (fun b o h1 _ _ _ _ e => hk b o h1 e) hS₁ rfl rfl ZG.nil hl
  unfold Builtin.List.listExtendWith
  refine wpAny_bind (wpAny_typeOf (T := "zip") hTz ?_)
  have h1 : Builtin.List.listSameRef (.ref S) (.ref z) = false := by
    simp only [Builtin.List.listSameRef]
    exact decide_eq_false (Ne.symm n6)
  have h2 : (Value.type "zip" == Value.type "list") = false := by decide
  have h3 : (Value.type "zip" == Value.type "tuple") = false := by decide
  simp only [h1, h2, h3, Bool.or_false, Bool.false_eq_true, if_false]
  refine wpAny_bind (wpAny_pyIter_zip hz0 (wpAny_bind (wpAny_holding (zip_hint hTz ?_))))
  refine wpAny_ite_split (fun _ => ?_) (fun hc => absurd rfl hc)
  refine wpAny_bind (wpAny_rule ?_)
  refine wpAny_bind ?_
  show wpAny _ _ (updateSeq S (·.push .none) >>= fun _ => updateSeq S (·.pop)) _ _ _
  refine wpAny_bind (wpAny_updateSeq hS rfl ?_)
  have hS₂ := Heap.get?_update_self (Obj.mapSeq (·.push Value.none)) hS rfl
  refine wpAny_updateSeq (hz := by seq_fits) hS₂ rfl ?_
  have hS₃ := Heap.get?_update_self (Obj.mapSeq (·.pop)) hS₂ rfl
  refine wpAny_pure ⟨plainId_quiet PySem.F.plain_extend_loop _, key _ _ _ (fun b o hb e => ?_) ?_ hS₃⟩
  · exact (Heap.get?_update_other _ _ (Ne.symm hb)).trans ((Heap.get?_update_other _ _ (Ne.symm hb)).trans e)
  · show lo < ((s.heap.update S _).update S _).objs.size
    rw [Heap.size_update, Heap.size_update]
    exact hlo
/-- list(z) of a zip just made -/
theorem zip_call {z TI TO i1 i2 l1 l2 : Addr} {xs ys : Array Value} {Q : Value → Shared → Prop} (hh : A.handled = none) (D : ZipApart z TI TO i1 i2 l1 l2) (hlen : xs.size = ys.size) (hn : xs.size ≤ sizeLine)
    (hz0 : IsZip s.heap z TI TO .none) (hTI : IsPair s.heap TI (.ref i1) (.ref i2)) (hTO : ∃ a b, IsPair s.heap TO a b) (h1 : s.heap.IsTupleIter i1 l1 0) (h2 : s.heap.IsTupleIter i2 l2 0) (hl1 : s.heap.IsTuple l1 xs) (hl2 : s.heap.IsTuple l2 ys)
    (hQ : ∀ h' tk acc c as, (∀ b o, b ≠ z → b ≠ TO → b ≠ i1 → b ≠ i2 → s.heap.get? b = some o → h'.get? b = some o) → h'.get? s.heap.objs.size = some { cls := .type "list", dict := none, data := .seq acc c, slots := #[] } → as.length = xs.size → ZG xs ys s.heap.objs.size h' as →
      acc.toList = as.map Value.ref → Q (.ref s.heap.objs.size) { s with heap := h', toks := tk }) :
    wpAny (model P w) A (call (.type "list") [.ref z]) Q E s := by
  refine callType_codes (Q₁ := fun obj s₁ => obj = .ref s.heap.objs.size ∧ s₁ = { s with heap := s.heap.push { cls := .type "list", data := .seq #[] } }) PySem.F.called_list (PySem.F.typeCall_list_1 _) PySem.F.entry_list_init
    (code_list_new _ ⟨rfl, rfl⟩) fun obj s₁ h₁ => ?_
  obtain ⟨rfl, rfl⟩ := h₁
  have up : ∀ b o, s.heap.get? b = some o → (s.heap.push { cls := .type "list", data := .seq #[] }).get? b = some o := fun b o e => Heap.get?_push_of_some _ e
  have lt : ∀ {b o}, s.heap.get? b = some o → b < s.heap.objs.size := fun e => Heap.lt_size e
  obtain ⟨ta, tb, hTO⟩ := hTO
  have q1 : i1 < s.heap.objs.size := let ⟨_, e, _⟩ := h1; lt e
  have q2 : i2 < s.heap.objs.size := let ⟨_, e, _⟩ := h2; lt e
  have q3 : l1 < s.heap.objs.size := let ⟨_, e, _⟩ := hl1; lt e
  have q4 : l2 < s.heap.objs.size := let ⟨_, e, _⟩ := hl2; lt e
  have hS : (s.heap.push { cls := .type "list", data := .seq #[] }).get? s.heap.objs.size = some { cls := .type "list", data := .seq #[] } := Heap.get?_push_size _ rfl
  have hS2 := Heap.get?_update_self (Obj.mapSeq (fun _ => (#[] : Array Value))) hS rfl
  have oth : ∀ b o, b ≠ s.heap.objs.size → (s.heap.push { cls := .type "list", data := .seq #[] }).get? b = some o → ((s.heap.push { cls := .type "list", data := .seq #[] }).update s.heap.objs.size (Obj.mapSeq (fun _ => (#[] : Array Value)))).get? b = some o :=
    fun b o hb e => (Heap.get?_update_other _ _ (Ne.symm hb)).trans e
  have both : ∀ b o, s.heap.get? b = some o → ((s.heap.push { cls := .type "list", data := .seq #[] }).update s.heap.objs.size (Obj.mapSeq (fun _ => (#[] : Array Value)))).get? b = some o := fun b o e => oth b o (Nat.ne_of_lt (lt e)) (up b o e)
  refine ⟨⟨_, hS, rfl⟩, PySem.F.args_list_init_2 _ _, ?_⟩
  show wpAny _ _ (do let old ← Builtin.List.listItems (.ref s.heap.objs.size); Builtin.List.listUpdate (.ref s.heap.objs.size) (fun _ => #[]); letGo old.toList.reverse; Builtin.List.listExtendWith (.ref s.heap.objs.size) (.ref z) .none) _ _ _
  refine wpAny_bind ?_
  unfold Builtin.List.listItems
  refine wpAny_bind (wpAny_seqItems hS rfl (wpAny_pure ?_))
  show wpAny _ _ (updateSeq s.heap.objs.size (fun _ => #[]) >>= fun _ => letGo (#[] : Array Value).toList.reverse >>= fun _ => Builtin.List.listExtendWith (.ref s.heap.objs.size) (.ref z) .none) _ _ _
  refine wpAny_bind (wpAny_updateSeq hS rfl ?_)
  refine wpAny_bind (wpAny_letGo ?_)
  refine zip_extend (A := A.in1) (s := { s with heap := (s.heap.push { cls := .type "list", data := .seq #[] }).update s.heap.objs.size (Obj.mapSeq (fun _ => (#[] : Array Value))) }) (xs := xs) (ys := ys) hh D hlen hn s.heap.objs.size .none (Nat.ne_of_lt (lt hTI)) (Nat.ne_of_lt q1) (Nat.ne_of_lt q2) (Nat.ne_of_lt q3) (Nat.ne_of_lt q4) (Nat.ne_of_lt (lt hz0)) (Nat.ne_of_lt (lt hTO))
    (Nat.le_refl _) (Nat.le_of_lt (lt hz0)) (Nat.le_of_lt (lt hTO)) (Nat.le_of_lt q1) (Nat.le_of_lt q2) (Heap.lt_size hS2) (both _ _ hz0)
    ⟨both _ _ hTI, h1.at fun o e => both _ o e, h2.at fun o e => both _ o e, isTup_keep hl1 fun o e => both _ o e, isTup_keep hl2 fun o e => both _ o e, .inl ⟨both _ _ hz0, _, _, both _ _ hTO⟩⟩ _ hS2 fun h' tk acc c as hk hS' hl hG hacc => ?_
  exact ⟨rfl, hQ h' tk acc c as (fun b o e1 e2 e3 e4 e => hk b o (Nat.ne_of_lt (lt e)) e1 e2 e3 e4 (both b o e)) hS' hl hG hacc⟩
end
end Kw
end
section
/-! KwR3b: list(zip(t, u)) as a rule of the layer. -/
namespace Kw
open PySem PySem.Spec PyProof.Rows L2 Evl
/-- pairs tracked at their addresses -/
def layT : Hp → List Addr → List V → List V → Hp
  | H, a :: as, x :: xs, y :: ys => layT (upd H a (.tup [x, y])) as xs ys
  | H, _, _, _ => H
theorem layT_off {b : Addr} : ∀ (as : List Addr) (xs ys : List V) (H : Hp), b ∉ as → layT H as xs ys b = H b
  | [], _, _, _, _ => rfl
  | _ :: _, [], _, _, _ => rfl
  | _ :: _, _ :: _, [], _, _ => rfl
  | a :: as, x :: xs, y :: ys, H, h => by
    show layT (upd H a (.tup [x, y])) as xs ys b = H b
    rw [layT_off as xs ys _ (fun z => h (List.mem_cons_of_mem _ z)), upd_ne (fun z => h (by rw [z]; exact List.mem_cons_self))]
theorem layT_at : ∀ (as : List Addr) (xs ys : List V) (H : Hp), as.Nodup → ∀ (j : Nat) (a : Addr) (x y : V), as[j]? = some a → xs[j]? = some x → ys[j]? = some y → layT H as xs ys a = some (.tup [x, y])
  | [], _, _, _, _, j, _, _, _, h, _, _ => by simp at h
  | _ :: _, [], _, _, _, j, _, _, _, _, h, _ => by simp at h
  | _ :: _, _ :: _, [], _, _, j, _, _, _, _, _, h => by simp at h
  | a :: as, x :: xs, y :: ys, H, hn, 0, b, u, v, h1, h2, h3 => by
    have hn' := List.nodup_cons.mp hn
    have e1 : a = b := by simpa using h1
    have e2 : x = u := by simpa using h2
    have e3 : y = v := by simpa using h3
    subst e1 e2 e3
    show layT (upd H a (.tup [x, y])) as xs ys a = _
    rw [layT_off as xs ys _ hn'.1, upd_same]
  | a :: as, x :: xs, y :: ys, H, hn, j + 1, b, u, v, h1, h2, h3 => by
    have hn' := List.nodup_cons.mp hn
    exact layT_at as xs ys _ hn'.2 j b u v (by simpa using h1) (by simpa using h2) (by simpa using h3)
theorem valsR : ∀ as : List Addr, Vals (as.map V.ref) (as.map Value.ref)
  | [] => .nil
  | _ :: as => .cons rfl (valsR as)
def rZipL (K : PySem.W.Frag) : List V → Hp → VK → Prop := fun vs H Q => ∃ (a b : Addr) (xs ys : List V), vs = [.ref a, .ref b] ∧ SqT K H a xs ∧ SqT K H b ys ∧ xs.length = ys.length ∧
  ∀ (H' : Hp) (p : Addr) (ts : List Addr), Ex H H' → H p = none → H' p = some (.lst (ts.map V.ref)) → ts.length = xs.length → (∀ (j : Nat) (t : Addr) (x y : V), ts[j]? = some t → xs[j]? = some x → ys[j]? = some y → H' t = some (.tup [x, y])) → Q (.ref p) H'
def tZipL (K : PySem.W.Frag) (ta : TA) : TE := fun σ H Q => ta σ H fun vs H1 => rZipL K vs H1 Q
section
variable {X : Cx}
theorem zip_laid {pins : List (Addr × Obj)} {σ : L2.St} {H : Hp} {s : Shared} {h' : Heap} {tk : Nat} {xs ys : List V} {its jts : List Value} {acc : Array Value} {c lo : Nat} {as : List Addr} (I : Inv X pins σ H s) (hz : xs.length ≤ sizeLine) (rx : Vals xs its) (ry : Vals ys jts) (hlen : xs.length = ys.length)
    (hlo : s.heap.objs.size ≤ lo) (hk : ∀ b o, s.heap.get? b = some o → h'.get? b = some o) (hS : h'.get? lo = some { cls := .type "list", dict := none, data := .seq acc c, slots := #[] }) (hl : as.length = its.length) (hG : ZG its.toArray jts.toArray lo h' as) (hacc : acc.toList = as.map Value.ref) :
    ∃ H' : Hp, Ex H H' ∧ H lo = none ∧ H' lo = some (.lst (as.map V.ref)) ∧ (∀ (j : Nat) (t : Addr) (x y : V), as[j]? = some t → xs[j]? = some x → ys[j]? = some y → H' t = some (.tup [x, y])) ∧ Inv X pins σ H' { s with heap := h', toks := tk } := by
  have hSn : lo ∉ as := fun z => Nat.lt_irrefl _ (hG.above _ z)
  have nd : as.Nodup := List.Pairwise.imp (fun {a b} (h : a < b) => Nat.ne_of_lt h) hG.rise
  have new : ∀ t ∈ as, H t = none := fun t ht => I.hok.fresh (Nat.le_trans hlo (Nat.le_of_lt (hG.above t ht)))
  have newS : H lo = none := I.hok.fresh hlo
  generalize hH' : layT (upd H lo (.lst (as.map V.ref))) as xs ys = H'
  have atP : ∀ (j : Nat) (t : Addr) (x y : V), as[j]? = some t → xs[j]? = some x → ys[j]? = some y → H' t = some (.tup [x, y]) := fun j t x y e1 e2 e3 => by
    rw [← hH']
    exact layT_at as xs ys _ nd j t x y e1 e2 e3
  have off : ∀ b, b ∉ as → b ≠ lo → H' b = H b := fun b h1 h2 => by rw [← hH', layT_off as xs ys _ h1, upd_ne h2]
  have low : ∀ b o, s.heap.get? b = some o → b ∉ as ∧ b ≠ lo := fun b o e => ⟨fun z => absurd (Heap.lt_size e) (Nat.not_lt.mpr (Nat.le_trans hlo (Nat.le_of_lt (hG.above b z)))), Nat.ne_of_lt (Nat.lt_of_lt_of_le (Heap.lt_size e) hlo)⟩
  have kp : Ex H H' := fun b u e => by
    rw [off b (fun z => by rw [new b z] at e; cases e) (fun z => by rw [z, newS] at e; cases e)]
    exact e
  have eS : H' lo = some (.lst (as.map V.ref)) := by rw [← hH', layT_off as xs ys _ hSn, upd_same]
  refine ⟨H', kp, newS, eS, atP, ?_⟩
  refine I.call' (ch := []) rfl ⟨fun b o q _ _ _ => hk b o q, fun b o q _ _ _ => ⟨o.slots, hk b o q⟩, fun b o q n _ => ?_, fun b o q _ => ⟨o, hk b o q⟩, fun b xs q => kp b _ q, fun b o u q => kp b _ q, fun b ps q => ⟨#[], by rw [kp b _ q]; simp⟩⟩ (fun b u q => ?_) I.bare fun b z => by cases z
  · obtain ⟨z1, z2⟩ := low b o q
    rw [off b z1 z2]
    exact n
  · by_cases hb : b ∈ as
    · obtain ⟨j, e1⟩ := List.mem_iff_getElem?.mp hb
      have hj : j < xs.length := by
        have := (List.getElem?_eq_some_iff.mp e1).1
        have l := rx.length
        omega
      have e2 : xs[j]? = some xs[j] := List.getElem?_eq_getElem hj
      have e3 : ys[j]? = some (ys[j]'(by omega)) := List.getElem?_eq_getElem (by omega)
      rw [atP j b _ _ e1 e2 e3] at q
      cases q
      obtain ⟨x, y, f1, f2, f3⟩ := hG.pairs j b e1
      obtain ⟨u1, g1, r1⟩ := rx.get e2
      obtain ⟨u2, g2, r2⟩ := ry.get e3
      have w1 : u1 = x := by
        have : its.toArray[j]? = some u1 := by simpa using g1
        rw [f1] at this
        exact (Option.some.inj this).symm
      have w2 : u2 = y := by
        have : jts.toArray[j]? = some u2 := by simpa using g2
        rw [f2] at this
        exact (Option.some.inj this).symm
      subst w1 w2
      exact ⟨by show 2 ≤ sizeLine; decide, [u1, u2], .cons r1 (.cons r2 .nil), ⟨_, f3, rfl, _, rfl⟩⟩
    · by_cases hb2 : b = lo
      · rw [hb2] at q ⊢
        rw [eS] at q
        cases q
        refine ⟨by rw [List.length_map, hl, ← rx.length]; exact hz, acc.toList, c, by rw [hacc]; exact valsR as, ?_⟩
        rw [Array.toArray_toList]
        exact hS
      · rw [off b hb hb2] at q
        exact (I.hok b u q).stay (fun d v _ y => hk d v y) (fun d y => kp d _ y) fun d xs y => kp d _ y
/-- list(zip(a, b)) -/
theorem pe_listZip {a b : Expr} {ta : TA} {p q pos cpos : Pos} (hc : X.calm = true) (hg : Gl X "list") (hm : X.mg "list" = none) (hv : bootBuiltins "list" = some (.type "list")) (hgz : Gl X "zip") (hmz : X.mg "zip" = none) (ha : PA X [a, b] ta)
    (hs : starEach [.Call (.Name "zip" q) [a, b] [] cpos] X.env = (false, eval (.Call (.Name "zip" q) [a, b] [] cpos) X.env) :: starEach [] X.env := by rfl)
    (hs2 : starEach [a, b] X.env = (false, eval a X.env) :: starEach [b] X.env := by rfl) (hpl : (backTo cpos (starEach [b] X.env)).any (·.1) = false := by rfl) :
    PE X (.Call (.Name "list" p) [.Call (.Name "zip" q) [a, b] [] cpos] [] pos) (tZipL X.K ta) := by
  refine ⟨fun pins s σ H Q I h => ?_⟩
  refine wpAny_Call_Name_kw (ld_blt I hg hm hv ?_)
  refine PyProof.Rows.callWith_type1 ?_ hs rfl
  rw [hs]
  show wpAny _ _ (spliced ((false, eval (.Call (.Name "zip" q) [a, b] [] cpos) X.env) :: backTo pos (starEach [] X.env))) _ _ s
  refine Calls.spliced_cons ?_
  refine Call_ (ld_blt I hgz hmz PyProof.Rows.boot_zip (PyProof.Rows.callWith_type1 (thn (ha.run cpos pins s σ H _ I h) fun us s1 ⟨vs, H1, I1, r1, q1⟩ => ?_) hs2 hpl))
  obtain ⟨l1, l2, xs, ys, rfl, hx, hy, hlen, k⟩ := q1
  cases r1 with
  | cons r rr =>
    cases rr with
    | cons r' rr =>
      cases rr
      cases r
      cases r'
      obtain ⟨its, rv, p1, hz⟩ := I1.tuple hx
      obtain ⟨jts, rw', p2, _⟩ := I1.tuple hy
      have lx := rv.length
      have ly := rw'.length
      have b1 : l1 < s1.heap.objs.size := let ⟨_, e, _⟩ := p1; Heap.lt_size e
      have b2 : l2 < s1.heap.objs.size := let ⟨_, e, _⟩ := p2; Heap.lt_size e
      refine RZ.call_zipT (show s1.heap.IsTuple l1 its.toArray from p1) (show s1.heap.IsTuple l2 jts.toArray from p2) fun h' z1 z2 z3 z4 z5 z6 z7 => ?_
      refine Calls.spliced_nil ?_
      refine zip_call (s := { s1 with heap := h' }) (xs := its.toArray) (ys := jts.toArray) (I1.ok.hd hc) (PySem.W.ktu_apart s1.heap.objs.size l1 l2 b1 b2) (by simp; omega) (by simp; omega) z1 z2 ⟨_, _, z3⟩ z4 z5 (isTup_keep p1 fun o e => z7 _ o e) (isTup_keep p2 fun o e => z7 _ o e) fun h2 tk acc c as hk hS hl hG hacc => ?_
      have low : ∀ b o, s1.heap.get? b = some o → h2.get? b = some o := fun b o e => by
        have hb := Heap.lt_size e
        exact hk b o (Nat.ne_of_lt (Nat.lt_of_lt_of_le hb (Nat.le_add_right _ _))) (Nat.ne_of_lt (Nat.lt_of_lt_of_le hb (Nat.le_add_right _ _))) (Nat.ne_of_lt hb) (Nat.ne_of_lt (Nat.lt_of_lt_of_le hb (Nat.le_add_right _ _))) (z7 b o e)
      obtain ⟨H', e1, e2, e3, e4, J⟩ := zip_laid (tk := tk) I1 hz rv rw' hlen (lo := h'.objs.size) (by omega) low hS (by simpa using hl) hG hacc
      exact ⟨.ref h'.objs.size, H', J, rfl, k H' _ as e1 e2 e3 (by rw [lx]; simpa using hl) e4⟩
end
end Kw
end
section
/-! KwX1: an own exception whose __init__ is `super().__init__(text); self.f = v`, over any built-in base: made. -/
namespace KwX
open PySem PySem.HandSPX Builtin Builtin.ObjectAttr
/-! ### type.__call__ on a class whose static base has its own __new__ -/
section
variable {M : Model} {A : Around} {E : Value → Shared → Prop} {h : Heap} {g : Array GenState} {d : Drawn} {t : Nat} {os : OsState}
variable {nm q : Str} {C N : Addr} {bs bm bmB : List Value} {hdct : Bool} {sn : List Str} {sub : List Value} {ab : Bool} {col : Option Bool} {dd : Option Addr} {k0 k1 k2 k3 k5 : Option Value} {B newId initId : String}
theorem check_newW (F : ExcBaseFacts B newId initId bmB) (hB : bm.contains (.type B) = true) {rest : List Value} {Q : Unit → Shared → Prop}
    (hC : h.get? C = some (excClassObj nm q C N bs bm hdct sn sub ab col dd k0 k1 k2 k3 k5 newId)) (hq : Q () ⟨h, g, d, t, os⟩) : wpAny M A (checkBuiltinCall newId ⟨.ref C :: rest, []⟩) Q E ⟨h, g, d, t, os⟩ := by
  have hcont : (Value.ref C :: bm).contains (.type B) = true := by rw [List.contains_cons, hB, Bool.or_true]
  have hstar := F.noStar
  simp only [checkBuiltinCall, F.newKind, F.newSplit, F.newRow]
  repeat (first | refine wpAny_loadPart_at hC ?_ | (refine wpAny_isSubtype_exc hC ?_; rw [hcont]) | refine wpAny_staticBase_exc hC ?_ | refine wpAny_madeBy_exc hC ?_ | simp only [bne_self_eq_false, Bool.false_eq_true, if_false] | wp_step)
  exact hq
end
section
variable {prog : Program} {w : World} {A : Around} {E : Value → Shared → Prop} {R : Result → Shared → Prop} {h : Heap} {g : Array GenState} {d : Drawn} {t : Nat} {os : OsState}
variable {nm q : Str} {C N : Addr} {bs bm bmB : List Value} {hdct : Bool} {sn : List Str} {sub : List Value} {ab : Bool} {col : Option Bool} {dd : Option Addr} {k0 k1 k2 k3 k5 : Option Value} {B newId initId : String}
theorem newW (F : ExcBaseFacts B newId initId bmB) (hB : bm.contains (.type B) = true) (hA : bm.contains (.type "AttributeError") = false) (hN : bm.contains (.type "NameError") = false) {rest : List Value}
    (hC : h.get? C = some (excClassObj nm q C N bs bm hdct sn sub ab col dd k0 k1 k2 k3 k5 newId))
    (hq : R (.ok (.ret (.ref (h.objs.size + 1)))) ⟨(h.push { cls := .type "tuple", data := .seq rest.toArray }).push
      { cls := .ref C, data := .fields #[.ref h.objs.size, .none, .none, .none, .bool false, .none] }, g, d, t, os⟩) (hrest : rest.length ≤ sizeLine) :
    codeAny (model prog w) A (.builtin newId ⟨.ref C :: rest, []⟩) R ⟨h, g, d, t, os⟩ := by
  have hends := F.ends
  have hcB : (Value.ref C :: bm).contains (.type B) = true := by rw [List.contains_cons, hB, Bool.or_true]
  have hcA : (Value.ref C :: bm).contains (.type "AttributeError") = false := by rw [List.contains_cons, hA]; rfl
  have hcN : (Value.ref C :: bm).contains (.type "NameError") = false := by rw [List.contains_cons, hN]; rfl
  refine codeAny_builtinAt F.entry ?_
  unfold Builtin.«BaseException.__new__»
  refine wpAt_bind ?_
  show wpAt _ _ _ (stack >>= _) _ _ _
  refine wpAt_bind (wpAt_stack fun p below => wpAt_of_wpAny ?_)
  wp_walk
  refine wpAt_of_wpAny ?_
  rw [F.owner]
  repeat (first | with_reducible refine wpAny_madeHere_exc F.canon hC ?_ | with_reducible refine wpAny_loadPart_at hC ?_ | (with_reducible refine wpAny_isSubtype_exc hC ?_; first | rw [hcB] | rw [hcA] | rw [hcN]) | wp_step)
  show R _ _
  rw [Heap.size_push]
  exact hq
theorem type_callW (F : ExcBaseFacts B newId initId bmB) (hB : bm.contains (.type B) = true) (hA : bm.contains (.type "AttributeError") = false) (hN : bm.contains (.type "NameError") = false) {rest : List Value} {fI : Addr} {Q : Fin → Shared → Prop}
    (hC : h.get? C = some (excClassObj nm q C N bs bm hdct sn sub ab col dd k0 k1 k2 k3 k5 newId))
    (hi : W.Looks (model prog w) h (typeLookup (.ref C) "__init__") (some (.ref fI))) (hb : ∀ self, W.Looks (model prog w) h (bindSpecial (.ref fI) self) (.ref fI, [self])) (hrest : rest.length ≤ sizeLine)
    (hq : codeAny (model prog w) A (.call (.ref fI) ⟨.ref (h.objs.size + 1) :: rest, []⟩)
      (fun r s' => match r with | .ok (.ret v) => v = .none ∧ Q (.done (.ret (.ref (h.objs.size + 1)))) s' | .ok _ => False | .error e => E e s')
      ⟨(h.push (W.kdv_tup rest)).push (excO C h.objs.size), g, d, t, os⟩) :
    wpAny (model prog w) A (Builtin.«type.__call__» ⟨.ref C :: rest, []⟩) Q E ⟨h, g, d, t, os⟩ := by
  repeat (first | with_reducible refine wpAny_loadPart_at hC ?_ | with_reducible refine wpAny_madeBy_exc hC ?_ | wp_step)
  refine codeAny_call_builtin_code (Code.quiet_builtin _ F.quiet) (check_newW F hB hC ?_)
  refine newW F hB hA hN hC ?_ hrest
  show wpAny _ _ _ _ _ _
  have k : ∀ b o, h.get? b = some o → ((h.push (W.kdv_tup rest)).push (excO C h.objs.size)).get? b = some o := fun b o e => Heap.get?_push_of_some _ (Heap.get?_push_of_some _ e)
  have hC₁ := k _ _ hC
  have hget : ((h.push (W.kdv_tup rest)).push (excO C h.objs.size)).get? (h.objs.size + 1) = some (excO C h.objs.size) := by heap_get
  have hcC : (Value.ref C :: bm).contains (.ref C) = true := by simp
  have i1 := hi.keeps k
  have b1 := (hb (.ref (h.objs.size + 1))).keeps k
  unfold isInstance
  repeat (first | with_reducible refine wpAny_loadPart_at hget ?_ | (with_reducible refine wpAny_isSubtype_exc hC₁ ?_; rw [hcC]) | wp_step)
  show wpAny _ _ (typeLookup (.ref C) _) _ _ _
  refine i1.at ?_
  refine wpAny_holding (wpAny_bind (b1.at ?_))
  refine wpAny_bind (wpAny_call (codeAny_mono hq fun r s' z => ?_))
  rcases r with e | (v | _ | _ | _) <;> first | exact z | exact z.elim | skip
  obtain ⟨rfl, z⟩ := z
  first
    | exact wpAny_pure (wpAny_pure z)
    | (wp_walk; exact z)
theorem callW (F : ExcBaseFacts B newId initId bmB) (hB : bm.contains (.type B) = true) (hA : bm.contains (.type "AttributeError") = false) (hN : bm.contains (.type "NameError") = false) {rest : List Value} {fI : Addr}
    (hC : h.get? C = some (excClassObj nm q C N bs bm hdct sn sub ab col dd k0 k1 k2 k3 k5 newId))
    (hi : W.Looks (model prog w) h (typeLookup (.ref C) "__init__") (some (.ref fI))) (hb : ∀ self, W.Looks (model prog w) h (bindSpecial (.ref fI) self) (.ref fI, [self])) (hrest : rest.length ≤ sizeLine)
    (hq : codeAny (model prog w) (A.under (.builtin "type.__call__" ⟨.ref C :: rest, []⟩)) (.call (.ref fI) ⟨.ref (h.objs.size + 1) :: rest, []⟩) (W.InitBack (h.objs.size + 1) R)
      ⟨(h.push (W.kdv_tup rest)).push (excO C h.objs.size), g, d, t, os⟩) :
    codeAny (model prog w) A (.call (.ref C) ⟨rest, []⟩) R ⟨h, g, d, t, os⟩ := by
  have f1 := tc_lookup
  have f2 := tc_bind (.ref C)
  have hTy : (⟨h, g, d, t, os⟩ : Shared).TypeIs (.ref C) "type" := ⟨_, hC, rfl⟩
  refine codeAny_of_tree ?_
  show wpAny _ _ (callAny (.ref C) _) _ _ _
  repeat (any_goals (first | assumption | with_reducible refine wpAny_loadPart_at hC ?_ | wp_step))
  refine ⟨rfl, ?_⟩
  refine codeAny_call_builtin_at (Code.quiet_builtin _ (by decide +kernel)) entry_typeCall (wpAny_check_type_call_sub hC (type_callW F hB hA hN hC hi hb hrest ?_))
  refine codeAny_mono hq fun r s' z => ?_
  rcases r with e | (v | _ | _ | _) <;> exact z
end
/-! ### self.name = v, any tail -/
section
variable {prog : Program} {w : World} {A : Around} {E : Value → Shared → Prop} {R : Result → Shared → Prop} {hp : Heap} {g : Array GenState} {d : Drawn} {t : Nat} {os : OsState}
theorem osaW {K : W.Frag} {name : Str} {tk : Tok} {v : Value} {x C : Addr} {fv : Array Value} {cd : ClassData}
    (X : K.In hp) (hx : hp.get? x = some { cls := .ref C, data := .fields fv }) (hcd : W.clsIn K C = some cd) (hm : ∀ self, refuseLoop self "__setattr__" cd.mro = pure ()) (hob : W.mroIn K C (.type "object") = some true) (hh : cd.hasDict = true) (ha : W.findIn K (.ref C) name = some none)
    (hq : ∀ h' tk' dx, (∀ b o, b ≠ x → hp.get? b = some o → h'.get? b = some o) → hp.objs.size ≤ dx → dx ≠ x → h'.get? x = some { cls := .ref C, dict := some dx, data := .fields fv } →
      h'.Ns1 dx (fun y => if y = name then some v else none) → R (.ok (.ret .none)) ⟨h', g, d, tk', os⟩) :
    codeAny (model prog w) A (.call (.builtin "object.__setattr__") ⟨[.ref x, .str name tk, v], []⟩) R ⟨hp, g, d, t, os⟩ := by
  have I : W.InstAt hp x { cls := .ref C, data := .fields fv } C none := ⟨hx, rfl, rfl, trivial⟩
  have SF := F.store_object
  have hxs : x ≠ hp.objs.size := Nat.ne_of_lt (Heap.lt_size hx)
  have sub : W.Looks (model prog w) hp (isInstance (.ref x) (.type "object")) true := I.type.andThen (W.looks_mroIn X hob)
  refine codeAny_call_builtin SF.slot.plain SF.entry (@W.check_slot (model prog w) _ _ ⟨hp, g, d, t, os⟩ "object.__setattr__" "object" "__setattr__" (.ref x) [.str name tk, v] [] _ SF.kind SF.split sub (SF.args (.ref x) (.str name tk) v) ?_)
  have hmr : W.Looks (model prog w) hp (mroOf (.ref C)) cd.mro := (W.looks_clsIn X hcd).andThen .now
  have L3 : W.Looks (model prog w) hp (storeTaker? none) none := .now
  have hcls : W.Looks (model prog w) hp (classData C) cd := W.looks_clsIn X hcd
  rw [W.osa_eq, refuse_eq]
  refine wpAny_bind (wpAny_bind (I.type.at (wpAny_bind (hmr.at ?_))))
  rw [hm]
  refine wpAny_pure (wpAny_bind (I.type.at (wpAny_bind ((W.looks_findIn X ha).at (wpAny_bind (L3.at ?_))))))
  show wpAny _ _ (storeInOwnDict (.ref x) (.ref C) (.str name tk) name v false) _ _ _
  obtain ⟨nm, bs, mro, ns, qn, hd, sn, sb, ab, col, del⟩ := cd
  dsimp only at hh
  subst hh
  unfold storeInOwnDict ownDictForStores
  repeat (first | with_reducible refine store_in_new ?_ ?_ | with_reducible refine wpAny_loadPart_at hx ?_ | with_reducible refine hcls.at ?_ | wp_step)
  · exact ⟨_, #[], _, (Heap.get?_update_ne _ _ _ _ hxs.symm).trans (Heap.get?_push_at rfl rfl), rfl, fun e he => absurd he (by simp), fun _ => rfl⟩
  · intro h' tk' hn' hs
    have hx₁ : (hp.push { cls := .type "dict", data := .dict #[] }).get? x = some { cls := .ref C, data := .fields fv } := Heap.get?_push_of_some _ hx
    refine hq h' tk' hp.objs.size (fun b o hb ho => ?_) (Nat.le_refl _) hxs.symm ?_ hn'
    · exact (hs.2 b (Nat.ne_of_lt (Heap.lt_size ho))).trans ((Heap.get?_update_ne _ _ _ _ hb).trans (Heap.get?_push_of_some _ ho))
    · exact (hs.2 x hxs).trans (Heap.get?_update_self _ hx₁ rfl)
end
/-! ### the facts of KeyError.__init__ -/
theorem kxs_KeyError : W.KxsFacts "KeyError" "KeyError.__init__" := ⟨by show builtinType _ = _; rw [builtinType_eq_fast]; kernel_rfl, by first | kernel_rfl | rfl⟩
/-- what is asked of the __init__ that super() finds -/
structure IFacts (B i : String) : Prop where
  kxs : W.KxsFacts B i
  entry : entryFor table i = some Builtin.«BaseException.__init__»
  plain : plainId i = true
  kind : builtinKind i = some .slot
  row : Manifest.signature? i = some ⟨.positional, "*", B, .self, [⟨"args", .varPos, false⟩]⟩
  noStar : (B != "*") = true
theorem if_KeyError : IFacts "KeyError" "KeyError.__init__" := ⟨kxs_KeyError, PyProof.Rows.excClass_KeyError.initEntry, PyProof.Rows.excClass_KeyError.init.plain, PyProof.Rows.excClass_KeyError.initKind, PyProof.Rows.excClass_KeyError.initSig, PyProof.Rows.excClass_KeyError.notStar⟩
theorem if_ValueError : IFacts "ValueError" "ValueError.__init__" := ⟨W.kxs_ValueError, F.excBase_ValueError.initEntry, F.excBase_ValueError.init.plain, F.excBase_ValueError.initKind, F.excBase_ValueError.initRow, F.excBase_ValueError.noStar⟩
end KwX
end
section
/-! KwX2: the whole making of such an exception, told over the heap. -/
namespace KwX
open PySem PySem.W PySem.Calls Builtin Builtin.ObjectAttr
section
variable {prog : Program} {w : World} {A : Around} {E : Value → Shared → Prop} {h : Heap} {g : Array GenState} {d : Drawn} {t : Nat} {os : OsState}
theorem check_boundI {M : Model} {B i newId : String} (F : IFacts B i) {nm q : Str} {C N e : Addr} {oe : Obj} {bs bm : List Value} {hdct : Bool} {sn : List Str} {sub : List Value} {ab : Bool} {col : Option Bool} {dd : Option Addr} {k0 k1 k2 k3 k5 : Option Value} {rest : List Value} {Q : Unit → Shared → Prop}
    (hC : h.get? C = some (excClassObj nm q C N bs bm hdct sn sub ab col dd k0 k1 k2 k3 k5 newId)) (he : h.get? e = some oe) (hcls : oe.cls = .ref C) (hq : Q () ⟨h, g, d, t, os⟩) : wpAny M A (checkBoundCall i ⟨.ref e :: rest, []⟩) Q E ⟨h, g, d, t, os⟩ := by
  have hshort := F.noStar
  simp only [checkBoundCall, F.kind, F.row]
  repeat (first | (with_reducible refine wpAny_loadPart_at he ?_; rw [hcls]) | with_reducible refine wpAny_loadPart_at hC ?_ | wp_step)
  refine wpAny_onRaise ?_
  rw [show ∀ (a b : String) (n : Nat), Bind.check ⟨.positional, "*", B, .self, [⟨"args", .varPos, false⟩]⟩ a b n (List.map (fun x => x.fst) ({ pos := Value.ref e :: rest } : Args).kw) = pure () from
    fun a b n => check_star_args _ _ _ _ _ _]
  exact wpAny_pure hq
/-- the bound __init__ of the base called: the args are laid anew -/
theorem call_bound {B i newId : String} (F : IFacts B i) {nm q : Str} {C N u e t0 : Addr} {bs bm : List Value} {hdct : Bool} {sn : List Str} {sub : List Value} {ab : Bool} {col : Option Bool} {dd : Option Addr} {k0 k1 k2 k3 k5 : Option Value} {rest : List Value} {Q : Value → Shared → Prop}
    (hC : h.get? C = some (excClassObj nm q C N bs bm hdct sn sub ab col dd k0 k1 k2 k3 k5 newId)) (he : h.get? e = some (HandSPX.excO C t0)) (hu : h.get? u = some (kxs_mw i e)) (hrest : rest.length ≤ sizeLine)
    (hq : ∀ h' t1, (∀ b o, b ≠ e → h.get? b = some o → h'.get? b = some o) → h'.get? e = some (HandSPX.excO C t1) → Q .none ⟨h', g, d, t, os⟩) :
    wpAny (model prog w) A (call (.ref u) rest) Q E ⟨h, g, d, t, os⟩ := by
  refine wpAny_call (codeAny_of_tree ?_)
  show wpAny _ A.in1 (callAny (.ref u) ⟨rest, []⟩) _ _ _
  simp only [callAny]
  refine wpAny_bind (wpAny_load hu ?_)
  simp only [kxs_mw, show (Value.type "method-wrapper" == Value.type "method" || Value.type "method-wrapper" == Value.type "builtin_function_or_method" || Value.type "method-wrapper" == Value.type "method-wrapper") = true by decide, if_true]
  refine W.KFB.if_so (by decide) ?_
  refine wpAny_bind (check_boundI F hC he rfl ?_)
  refine wpAny_bind (wpAny_pure (wpAny_pure ?_))
  refine ⟨plainId_quiet F.plain _, codeAny_builtin F.entry ?_⟩
  rw [Around.under_plainId F.plain _]
  wp_walk
  refine hq _ h.objs.size (fun b o hb ho => ?_) ?_
  · rw [Heap.get?_update_other _ _ (Ne.symm hb)]
    exact Heap.get?_push_of_some _ ho
  · rw [Heap.get?_update_self _ (Heap.get?_push_of_some _ he) rfl]
    rfl
end
/-- the text of __init__ -/
structure InitText (params : Arguments) (body : List Stmt) (scope : Scope) (fld txt : Str) : Prop where
  hbody : ∃ p0 p1 p2 p3 p4 p5 p6 p7 p8 p9 j, body = [.Expr (.Call (.Attribute (.Call (.Name "super" p0) [] [] p1) "__init__" p2) [.Constant (.str txt) j p3] [] p4) p5, .Assign [.Attribute (.Name "self" p6) fld p7] (.Name fld p8) p9] ∧
    (∀ env, ∃ pl : Sem Bool, eval (.Call (.Attribute (.Call (.Name "super" p0) [] [] p1) "__init__" p2) [.Constant (.str txt) j p3] [] p4) env = (do
      let ov ← attributeBase (.Call (.Name "super" p0) [] [] p1) "__init__" env (eval (.Call (.Name "super" p0) [] [] p1) env)
      standAt p2.atName
      let (f, first) ← holding [ov] (getMethod ov "__init__" pl)
      callWith p4 f first (backTo p4 (starEach [.Constant (.str txt) j p3] env)) [])) ∧
    (∀ env, swapsWith (.Call (.Attribute (.Call (.Name "super" p0) [] [] p1) "__init__" p2) [.Constant (.str txt) j p3] [] p4) none p5.line env = pure false) ∧
    (∀ env, swapsWith (.Name fld p8) (some (.Attribute (.Name "self" p6) fld p7)) p9.line env = pure false)
  hhead : ∃ ar : Arg, (params.posonlyargs ++ params.args).head? = some ar ∧ ar.arg = "self"
  binds : ∀ (name qual : Str) (kV doc pm : Value) (an : Option Addr) (cdv ct : Value) (cc : Addr) (a b : Value), bindArgs (ksFn name qual params body scope .none kV doc pm an cdv ct cc) ⟨[a, b], []⟩ = pure [(("self" : Str), a), (fld, b)]
  cells : ∀ x ∈ scope.names, x.2 ≠ .cell
  self : scope.names.lookup ("self" : Str) = some .local
  hfld : scope.names.lookup fld = some .local
  cls : scope.names.lookup ("__class__" : Str) = some .free
  sup : scope.names.lookup ("super" : Str) = some .globalImplicit
  kind : scope.kind = .function
  co : scope.isCoroutine = false
  gen : scope.isGenerator = false
  nd : (fld == ("__debug__" : Str)) = false
  ns : (("self" : Str) == fld) = false
/-- the written part's word on the class at C: its __init__(self, fld) says super().__init__(txt), self.fld = fld -/
structure XIn (P : Program) (K : Frag) (C : Addr) (fld txt : Str) : Prop where
  cls : ∃ (newB newId nInit : String) (bmB : List Value) (nm q : Str) (N : Addr) (bs bm : List Value) (sn : List Str) (sub : List Value) (ab : Bool) (col : Option Bool) (dd : Option Addr) (k0 k1 k2 k3 k5 : Option Value),
    ExcBaseFacts newB newId nInit bmB ∧ K.lookup C = some (excClassObj nm q C N bs bm true sn sub ab col dd k0 k1 k2 k3 k5 newId) ∧ bm.contains (.type newB) = true ∧ bm.contains (.type "AttributeError") = false ∧ bm.contains (.type "NameError") = false ∧
      ∀ self, refuseLoop self "__setattr__" (.ref C :: bm) = pure ()
  ob : mroIn K C (.type "object") = some true
  self : mroIn K C (.ref C) = some true
  sa : findIn K (.ref C) "__setattr__" = some (some (.builtin "object.__setattr__"))
  na : findIn K (.ref C) fld = some none
  exC : subIn K (.ref C) (.type "BaseException") = some true
  tyC : typeIn K (.ref C) = some (.type "type")
  kC : keepIn K (.ref C) = true
  stat : nsIn K cStatics "thirdparty.any" = some none
  sup : nsIn K mainGlobals "super" = some none
  top : (P.main.scope.names.lookup ("super" : Str)).isSome = false
  fn : ∃ (f cda cc : Addr) (oc : Value) (od : Option Addr) (osl : Array (Option Value)) (name qual : Str) (params : Arguments) (body : List Stmt) (scope : Scope) (kV doc pm : Value) (an : Option Addr) (ct : Value)
      (ccl : Value) (cdd : Option Addr) (vs : Array Value) (ccs : Array (Option Value)) (file : Str) (tf : Tok) (cl : Value) (cld : Option Addr) (csl : Array (Option Value)),
    findIn K (.ref C) "__init__" = some (some (.ref f)) ∧ typeIn K (.ref f) = some (.type "function") ∧
    K.lookup f = some ⟨oc, od, .func (ksFn name qual params body scope .none kV doc pm an (.ref cda) ct cc), osl⟩ ∧ codeIn K (.ref cda) qual = true ∧ K.lookup cda = some ⟨ccl, cdd, .fields vs, ccs⟩ ∧ vs[2]? = some (.str file tf) ∧
    ((P.main.file : Str) == file) = true ∧ K.lookup cc = some ⟨cl, cld, .cell (some (.ref C)), csl⟩ ∧ InitText params body scope fld txt
  ini : ∃ B i : String, IFacts B i ∧ ks_superIn K C C "__init__" = some (some (.builtin i)) ∧ subIn K (.ref C) (.type B) = some true
/-- where the module's names stand -/
structure Tops (P : Program) (h : Heap) : Prop where
  g : ∃ mg, h.Ns mainGlobals mg
  b : ∃ mb, h.Ns builtinsNs mb ∧ mb "super" = some (.type "super")
  nolimit : h.NoLimit
theorem Tops.keeps {P : Program} {h h' : Heap} (T : Tops P h) (k : ∀ b o, h.get? b = some o → h'.get? b = some o) : Tops P h' := by
  obtain ⟨mg, hg⟩ := T.g
  obtain ⟨mb, hb, e⟩ := T.b
  exact ⟨⟨mg, hg.keeps k⟩, ⟨mb, hb.keeps k, e⟩, T.nolimit.keeps k⟩
section
variable {prog : Program} {w : World} {A : Around} {E : Value → Shared → Prop} {K : Frag} {C : Addr} {fld txt : Str} {h : Heap} {g : Array GenState} {d : Drawn} {t : Nat} {os : OsState} {u : Value} {Q : Value → Shared → Prop}
abbrev excD (C dx t : Addr) : Obj := { cls := .ref C, dict := some dx, data := .fields #[.ref t, .none, .none, .none, .bool false, .none] }
theorem make_low (T : XIn prog K C fld txt) (X : K.In h) (O : Tops prog h) (hr : A.depth + 8 < recursionLimit)
    (hq : ∀ h' t' e dx t1, h.objs.size ≤ e → h.objs.size ≤ dx → dx ≠ e → (∀ b o, h.get? b = some o → h'.get? b = some o) → h'.get? e = some (excD C dx t1) → h'.Ns1 dx (fun y => if y = fld then some u else none) → Q (.ref e) ⟨h', g, d, t', os⟩) :
    wpAny (model prog w) A (call (.ref C) [u]) Q E ⟨h, g, d, t, os⟩ := by
  obtain ⟨newB, newId, nInit, bmB, nm, q, N, bs, bm, sn, sub, ab, col, dd, k0, k1, k2, k3, k5, FB, hCK, hB, hA, hN, hloop⟩ := T.cls
  obtain ⟨f, cda, cc, oc, od, osl, name, qual, params, body, scope, kV, doc, pm, an, ct, ccl, cdd, vs, ccs, file, tf, cl, cld, csl, hini, htf, hf, hcode, hcda, hvs, hfile, hcc, tx⟩ := T.fn
  obtain ⟨B, i, FI, hsup, hsubB⟩ := T.ini
  have hC := X _ _ hCK
  refine wpAny_call (callW FB hB hA hN hC (looks_findIn X hini) (fun self => bind_fn X self htf) (by show 1 ≤ sizeLine; rw [sizeLine_eq]; omega) ?_)
  -- the heap with the tuple of args and the exception
  have kk : ∀ b o, h.get? b = some o → ((h.push (kdv_tup [u])).push (HandSPX.excO C h.objs.size)).get? b = some o := fun b o e => Heap.get?_push_of_some _ (Heap.get?_push_of_some _ e)
  have hget : ((h.push (kdv_tup [u])).push (HandSPX.excO C h.objs.size)).get? (h.objs.size + 1) = some (HandSPX.excO C h.objs.size) := by heap_get
  generalize (h.push (kdv_tup [u])).push (HandSPX.excO C h.objs.size) = h1 at kk hget ⊢
  generalize he : h.objs.size + 1 = e at hget ⊢
  have hle : h.objs.size ≤ e := by omega
  have X1 : K.In h1 := X.keeps kk
  have hdp : (A.under (.builtin "type.__call__" ⟨[.ref C, u], []⟩)).depth < recursionLimit := by
    rw [show (A.under (.builtin "type.__call__" ⟨[.ref C, u], []⟩)).depth = A.depth + 1 from L2.make_depth ..] <;> omega
  refine ks_codeAny_call_defAt (binds := [(("self" : Str), .ref e), (fld, u)]) hdp (X1 _ _ hf) rfl (O.nolimit.keeps kk) (codeRec_of X1 hcode) rfl (.of_eq (tx.binds ..)) tx.cells ?_ (fun h2 hns kk2 => ?_) tx.co tx.gen tx.kind
  · intro y hy
    rcases List.mem_cons.mp hy with rfl | hy
    · exact tx.self
    · rcases List.mem_cons.mp hy with rfl | hy
      · exact tx.hfld
      · cases hy
  have X2 : K.In h2 := X1.keeps kk2
  have O2 : Tops prog h2 := (O.keeps kk).keeps kk2
  have hget2 := kk2 _ _ hget
  show wpAt _ _ (.func body (ksEnv qual scope h1.objs.size f (.ref cda) cc)) (execs body (ksEnv qual scope h1.objs.size f (.ref cda) cc)) _ _ _
  obtain ⟨p0, p1, p2, p3, p4, p5, p6, p7, p8, p9, j, hb, hcall, hsw1, hsw2⟩ := tx.hbody
  rw [hb]
  generalize hL : h1.objs.size = L at hns ⊢
  have hsf : (fun y => (([(("self" : Str), Value.ref e), (fld, u)] : List (Str × Value)).reverse.lookup y)) "self" = some (.ref e) := by
    have n1 : ((("self" : Str) == fld)) = false := tx.ns
    simp [List.lookup, n1]
  have hfl : (fun y => (([(("self" : Str), Value.ref e), (fld, u)] : List (Str × Value)).reverse.lookup y)) fld = some u := by
    simp [List.lookup]
  generalize (fun y => (([(("self" : Str), Value.ref e), (fld, u)] : List (Str × Value)).reverse.lookup y)) = mL at hns hsf hfl
  obtain ⟨pl, hcall⟩ := hcall (ksEnv qual scope L f (.ref cda) cc)
  refine ks_wpAt_execs_cons (ks_wpAt_Expr_any (ks_wpAt_MethodCall (pl := pl) ?_ hcall) (by unfold interactive; rw [show (ksEnv qual scope L f (Value.ref cda) cc).scope.kind = .function from tx.kind]; rfl) (hsw1 _))
  obtain ⟨ar, har, hare⟩ := tx.hhead
  obtain ⟨mg, hg⟩ := O2.g
  obtain ⟨mb, hbl, hbs⟩ := O2.b
  refine ks_wpAt_super_base (env := ksEnv qual scope L f (.ref cda) cc) tx.sup tx.cls (by decide) rfl (X2 _ _ hf) rfl har rfl (X2 _ _ hcda) rfl hvs hfile T.top ?_
  refine ks_loadName_global tx.kind tx.sup (loadGlobal_builtin (env := ksEnv qual scope L f (.ref cda) cc) hg (mg_none_of X2 hg T.sup) hbl hbs ⟨rfl, ?_⟩)
  refine wpAny_loadName_free tx.kind tx.cls rfl ⟨_, X2 _ _ hcc, rfl⟩ ?_
  rw [hare]
  refine wpAny_loadName_local tx.kind tx.self hns hsf ?_
  have hC2 := X2 _ _ hCK
  refine ks_wpAny_isType_cls hC2 rfl ⟨rfl, ?_⟩
  refine ks_wpAny_call_super hC2 rfl hget2 rfl (fun c z => by cases z) (looks_mroIn X2 T.self) (fun h3 e3 k3 => ?_)
  have X3 : K.In h3 := X2.keeps k3
  have hcl : clsIn K C = some { name := nm, bases := bs, mro := .ref C :: bm, ns := N, qualname := q, hasDict := true, slotNames := sn, subclasses := sub, abstract := ab, collection := col, hasDel := false } := by unfold clsIn; rw [hCK] <;> rfl
  have hget3 := k3 _ _ hget2
  have hal : alongIn K "__init__" (((Value.ref C :: bm).dropWhile (· != .ref C)).drop 1) = some (some (.builtin i)) := by
    unfold ks_superIn at hsup
    rw [hcl] at hsup
    exact hsup
  have I3 : InstAt h3 e (HandSPX.excO C h.objs.size) C none := ⟨hget3, rfl, rfl, trivial⟩
  have hmro : Looks (model prog w) h3 (mroOf (.ref C)) (.ref C :: bm) := fun A Q E s k q => wpAny_bind ((looks_clsIn X3 hcl) A _ E s k (wpAny_pure q))
  have hso := e3
  generalize hz : h2.objs.size = so at hso ⊢
  refine kxs_getMethod FI.kxs (D := C) (x := e) (C := C) hso (looks_opaque X3 T.stat) hmro rfl X3 hal (I3.type.andThen (looks_subIn X3 hsubB)) (ks_ne X3 I3 hcl) (by decide) ?_
  -- the bound __init__
  have hu : (h3.push (kxs_mw i e)).get? h3.objs.size = some (kxs_mw i e) := Heap.get?_push_at rfl rfl
  have k4 : ∀ b o, h3.get? b = some o → (h3.push (kxs_mw i e)).get? b = some o := fun b o z => Heap.get?_push_of_some _ z
  generalize h3.push (kxs_mw i e) = h4 at hu k4 ⊢
  generalize h3.objs.size = uu at hu ⊢
  refine kxs_callWith (i := i) (x := e) rfl (evalArgs_plain ?_)
  refine Calls.spliced_cons (Calls.Constant_str (k := j) (pos := p3) ?_)
  refine Calls.spliced_nil ⟨hu, ?_⟩
  have X4 : K.In h4 := X3.keeps k4
  refine call_bound FI (X4 _ _ hCK) (k4 _ _ hget3) hu (by show 1 ≤ sizeLine; rw [sizeLine_eq]; omega) (fun h5 t1 k5 e5 => ?_)
  have heL : L ≠ e := by
    have z : e < L := by rw [← hL]; exact Heap.lt_size hget
    exact Nat.ne_of_gt z
  have X5 : K.In h5 := fun b o z => k5 b o (fun y => by
    rw [y] at z
    exact absurd (Nat.lt_of_lt_of_le (Heap.lt_size (X _ _ z)) hle) (Nat.lt_irrefl _)) (X4 b o z)
  have hns5 : h5.Ns L mL := by
    obtain ⟨o, es, ep, z1, z2⟩ := hns
    exact ⟨o, es, ep, k5 _ _ heL (k4 _ _ (k3 _ _ z1)), z2⟩
  refine ks_wpAt_execs_cons (ks_wpAt_Assign_Attr ?_ (hsw2 _))
  refine wpAt_of_wpAny (wpAny_Name ?_ tx.nd)
  refine wpAny_loadName_local (env := ksEnv qual scope L f (.ref cda) cc) tx.kind tx.hfld (m := mL) ?_ hfl ?_
  · exact hns5
  refine wpAny_Name ?_ (by decide)
  refine wpAny_loadName_local (env := ksEnv qual scope L f (.ref cda) cc) tx.kind tx.self (m := mL) ?_ hsf ?_
  · exact hns5
  refine set_plain X5 (ox := HandSPX.excO C t1) (od := none) ⟨e5, rfl, rfl, trivial⟩ T.sa ?_
  refine osaW X5 e5 hcl hloop T.ob rfl T.na (fun h6 tk dx k6 hdx hdn hx6 hn6 => ?_)
  have keep : ∀ b o, h.get? b = some o → h6.get? b = some o := fun b o z => by
    have lt := Heap.lt_size z
    have ne : b ≠ e := Nat.ne_of_lt (Nat.lt_of_lt_of_le lt hle)
    exact k6 b o ne (k5 b o ne (k4 b o (k3 b o (kk2 b o (kk b o z)))))
  have sz : h.objs.size ≤ dx := by
    have a1 : e < h5.objs.size := Heap.lt_size e5
    exact Nat.le_trans hle (Nat.le_trans (Nat.le_of_lt a1) hdx)
  exact wpAt_of_wpAny (wpAny_pure ⟨rfl, hq h6 tk e dx t1 hle sz hdn keep hx6 hn6⟩)
end
end KwX
end
section
/-! KwX3: the rule: X(e), X an own exception whose __init__ says super().__init__(text); self.f = v. -/
namespace L2
open PySem PySem.Spec PyProof.Rows KwX
/-- X(e): the class, its dict that is new -/
def tMkX (C : Addr) (fld : Str) (te : TE) : St → Hp → XK → Prop := fun σ H Q => te σ H fun v H1 => ∀ d, H1 d = none → Q (.ref C) (some d) (upd H1 d (.xd [(fld, v)]))
section
variable {X : Cx} {C : Addr} {x fld txt : Str} {k : Nat} {e : Expr} {te : TE} {p pos : Pos}
theorem xd_ok {P : Program} {w : World} {H : Hp} {h : Heap} {dx : Addr} {fs : List (Str × V)} {mA : Str → Option Value} (hn : h.Ns1 dx mA) (r : ∀ f, RelO (fs.lookup f) (mA f)) : ObjOk P w H h dx (.xd fs) := ⟨mA, hn, r⟩
theorem pmk_x (T : XIn X.prog X.K C fld txt) (hr : Room (k + 2) X.A) (hg : Gl X x) (hm : X.mg x = some (.ref C)) (he1 : PE X e te)
    (hdb : (x == ("__debug__" : Str)) = false := by decide) (he : starEach [e] X.env = (false, eval e X.env) :: starEach [] X.env := by rfl) (hpl : (backTo pos (starEach [] X.env)).any (·.1) = false := by rfl) :
    PMk X (.Call (.Name x p) [e] [] pos) (tMkX C fld te) := by
  intro pins s σ H Q I h
  refine wpAny_Call_Name_kw (ld_glob I hg hm ?_ hdb)
  have ha : PA X [e] (tCons te tNil) := pa_cons he1 pa_nil he
  refine PySem.W.callWith_K (h₀ := X.base) I.ok.mod.kin T.kC (thn (ha.run pos pins s σ H (fun vs H1 => match vs with | [v] => ∀ d, H1 d = none → Q (.ref C) (some d) (upd H1 d (.xd [(fld, v)])) | _ => False) I h) fun us s1 hh => ?_) he hpl
  obtain ⟨vs, H1, I1, r1, hq⟩ := hh
  refine ⟨I1.kIn, ?_⟩
  cases r1 with
  | nil => exact hq.elim
  | @cons v u _ us' ru rn =>
    cases rn with
    | cons _ _ => exact hq.elim
    | nil =>
      show wpAny _ _ (call (.ref C) [u]) _ _ _
      obtain ⟨hp, g, d, tk, os⟩ := s1
      have O : Tops X.prog hp := by
        obtain ⟨mb, h1, h2⟩ := I1.mod.blt
        exact ⟨⟨_, I1.mod.glob.keeps I1.bk⟩, ⟨mb, h1.keeps I1.bk, (h2 "super" (by decide)).trans (by decide +kernel)⟩, I1.nolimit⟩
      refine make_low T I1.kIn O (by have := hr.dp; omega) (fun h' t' e dx t1 hle hdx hne kk hx hn => ?_)
      obtain ⟨G, g1, g2⟩ := restrict h' fun b => decide (b ≠ e)
      have gk : ∀ b, b ≠ e → G.get? b = h'.get? b := fun b hb => g1 b (decide_eq_true hb)
      have ge : G.get? e = none := g2 e (by simp)
      have nha : ∀ {b : Addr} {o : Obj}, hp.get? b = some o → b ≠ e := fun {b o} z => Nat.ne_of_lt (Nat.lt_of_lt_of_le (Heap.lt_size z) hle)
      have hnG : G.Ns1 dx (fun y => if y = fld then some u else none) := by
        exact hn.at fun o y => (gk dx hne).trans y
      have ok : ObjOk X.prog X.w H1 G dx (.xd [(fld, v)]) := xd_ok hnG fun f => by
        rw [lookup_put]
        by_cases hf : f = fld
        · rw [if_pos hf, if_pos hf]
          exact ru
        · rw [if_neg hf, if_neg hf]
          exact True.intro
      have J : Inv X pins σ (upd H1 dx (.xd [(fld, v)])) ⟨G, g, d, t', os⟩ := I1.laid (t' := t') (a := dx) (o := .xd [(fld, v)]) (h' := G) (fun b o z => (gk b (nha z)).trans (kk b o z)) hdx ok
      have nd : H1 dx = none := I1.hok.fresh hdx
      refine ⟨e, _, _, ⟨G, g, d, t', os⟩, _, .ref C, some dx, rfl, J, fun b o z => ?_, ge, hx, ⟨rfl, rfl⟩, rfl, rfl, ?_, rfl, I1.bare, raises_own T.exC T.tyC, hq dx nd⟩
      · by_cases hb : b = e
        · rw [hb, ge] at z
          cases z
        · exact (gk b hb).symm.trans z
      · rw [upd_ne (Ne.symm hne)]
        exact I1.hok.fresh hle
end
end L2
end
section
/-! KwT: several except clauses, each with a name. -/
namespace L2
open PySem PySem.Spec PyProof.Rows
/-- one clause: the class, the name's slot, the suite's reading -/
abbrev Cla : Type := Value × Nat × (Addr → Value → Option Addr → TS)
def asEnds (D : Ends) (i : Nat) : Ends := { nx := fun σ' H' => D.nx (σ'.set i none) H', rt := D.rt, bk := fun σ' H' => D.bk (σ'.set i none) H', ct := fun σ' H' => D.ct (σ'.set i none) H' }
def wManyA (K : PySem.W.Frag) (Wout : WX) (D : Ends) : List Cla → WX
  | [] => Wout
  | (c, i, ts) :: r => fun cls d σ H => ∃ b, PySem.W.exmOne K cls c = some b ∧ (b = true → ∀ a, H a = none → ts a cls d (asEnds D i) (σ.set i (some (.ref a))) H) ∧ (b = false → wManyA K Wout D r cls d σ H)
inductive HdsA (X : Cx) : List ExceptHandler → List Cla → Prop
  | nil : HdsA X [] []
  | cons {x n : Str} {c : Value} {i : Nat} {ts : Addr → Value → Option Addr → TS} {b₀ : Stmt} {suite : List Stmt} {np pos' : Pos} {hds : List ExceptHandler} {l : List Cla} (hc : Names X x c) (hi : X.N[i]? = some n) (hln : X.env.kindOf n = some .local)
      (hsu : ∀ (a : Addr) (oe : Obj) (cls : Value) (d : Option Addr) (pn : List (Addr × Obj)), Zc cls d oe → (∃ vs, oe.data = .fields vs) → PSs (X.suite a ((a, oe) :: pn)) (b₀ :: suite) (ts a cls d)) (r : HdsA X hds l) :
      HdsA X (.ExceptHandler (some (.Name x np)) (some n) (b₀ :: suite) pos' :: hds) ((c, i, ts) :: l)
section
variable {X : Cx} {body : List Stmt} {h₀ : ExceptHandler} {hds : List ExceptHandler} {l : List Cla} {pos : Pos} {tb : WX → TS} {Wout : WX}
theorem ps_try_manyA (hs : X.stack = X.env :: X.outer) (hf : X.env.frame = some X.env.locals) (hN : X.N.Nodup) (tk : Takes X Wout)
    (hb : ∀ (W : WX) (pn : List (Addr × Obj)) (xe : Value → Shared → Prop), Takes (X.tr pn xe) W → PassesOwn (model X.prog X.w) X.A X.env xe → PSs (X.tr pn xe) body (tb W))
    (hh : HdsA X (h₀ :: hds) l) : PS X (.Try body (h₀ :: hds) [] [] pos) (fun D σ H => tb (wManyA X.K Wout D l) D σ H) := by
  refine ⟨fun pins s σ H D I h => ?_⟩
  have ok := I.ok
  have hfr : X.A.frames = some (X.env :: X.outer) := by rw [ok.frames, hs]
  refine wpAny_Try_except ?_
  refine wpAny_mono ((hb (wManyA X.K Wout D l) (X.pn ++ pins) (fun e s₁ => wpAny (model X.prog X.w) X.A (noteFrame e X.env) (fun _ s₂ => wpAny (model X.prog X.w) X.A (setFlight e none) (fun _ s₃ =>
    wpAny (model X.prog X.w) X.A (handleBy e X.env (h₀ :: hds)) (SP X pins D) X.xe s₃) X.xe s₂) X.xe s₁) (fun u s' xx => ?_) PassesOwn.looking).run [] s σ H D (I.toTry _) h) (fun f s1 hsp => ?_) (fun e s1 he => he)
  · -- the catch
    obtain ⟨a, B, sI, pins', σ', H', cls, d, rfl, J', nb, up, sky, na, os, ag, w⟩ := xx
    have J : Inv X pins σ' H' sI := J'.ofTry ok
    have sky' : Sky B (X.env :: X.outer) a (Zc cls d) X.env.locals s'.heap := by rw [← hs]; exact sky
    show wpAny (model X.prog X.w) X.A (noteFrame (.ref a) X.env) _ _ _
    refine Sky.land Zc.steady hfr hf sky' fun h3 fl3 up3 => ?_
    have J3 : Inv X pins σ' H' { s' with heap := h3 } := J.landed nb fl3.1 (up.trans up3) os ag
    obtain ⟨oe3, vs3, he3, hz3, hd3⟩ := fl3.there
    have notFr : ∀ {h : Heap} {o : Obj} {vs : Array Value}, h.FunFrames B (X.env :: X.outer) → h.get? a = some o → o.data = .fields vs → a ∉ frs (X.env :: X.outer) := fun {h o vs} ff e dd hm => by
      obtain ⟨_, o', e', hnf⟩ := ff.mem hm
      rw [e] at e'; cases e'
      exact hnf _ dd
    have nfr := notFr fl3.2.2.1 he3 hd3
    have nL : a ≠ X.env.locals := fun z => nfr (List.mem_filterMap.mpr ⟨X.env, List.mem_cons_self, by rw [hf, z]⟩)
    have nF : a ∉ X.fs := fun hm => by
      obtain ⟨e, he, q⟩ := List.mem_filterMap.mp hm
      exact nfr (List.mem_filterMap.mpr ⟨e, List.mem_cons_of_mem _ he, q⟩)
    have S3 := J3.suite he3 hd3 na nL nF
    have go : ∀ {hds' : List ExceptHandler} {l' : List Cla}, HdsA X hds' l' → wManyA X.K Wout D l' cls d σ' H' →
        wpAny (model X.prog X.w) X.A (handleBy (.ref a) X.env hds') (SP X pins D) X.xe { s' with heap := h3 } := by
      intro hds' l' hk
      induction hk with
      | nil =>
        intro w
        refine wpAny_handleBy_nil ?_
        obtain ⟨k1, k2, k3, oe, vs, T, oT, ts', he, hz, hd, h1, hr⟩ := id fl3
        unfold PySem.passOn
        refine wpAny_bind (wpAny_field he hd h1 ?_)
        rw [if_neg (show ¬ ((Value.ref T == Value.none) = true) from by simp)]
        have fin : wpAny (model X.prog X.w) X.A (setFlight (.ref a) X.env.frame) (fun _ s4 => wpAny (model X.prog X.w) X.A (throw (.ref a) : Sem Flow) (SP X pins D) X.xe s4) X.xe { s' with heap := h3 } := by
          rw [hf]
          refine HandSPX.setFlight_upZ fl3 fun h4 hh4 up4 => wpAny_throw (tk _ _ ?_)
          exact ⟨a, B, sI, pins, σ', H', cls, d, rfl, J, nb, (up.trans up3).trans up4, .inr (.inr (by rw [hs]; exact hh4)), na, os, ag, w⟩
        first
          | exact wpAny_bind (wpAny_pure (wpAny_bind fin))
          | exact wpAny_bind fin
      | @cons x n c i ts b₀ suite np pos' hds2 l2 hc hi hln hsu r ih =>
        intro w
        obtain ⟨b, hb1, hyes, hno⟩ := w
        refine wpAny_handleBy_cons (codeAny_handlers_test ?_) (by intro q; cases q)
        have LT : PySem.W.Looks (model X.prog X.w) h3 (typeOf (.ref a)) cls := fun A Q E s k q => wpAny_typeOf_ref (k _ _ he3) (by rw [hz3.1]; exact q)
        have LM := PySem.W.exm_one (M := model X.prog X.w) (J3.kIn) LT hb1
        have test : ∀ {Q : Value → Shared → Prop} {E : Value → Shared → Prop}, Q c { s' with heap := h3 } → wpAny (model X.prog X.w) (X.A.mark (some (.ref a))) (eval (.Name x np) X.env) Q E { s' with heap := h3 } := fun {Q E} q => by
          obtain ⟨hg, hdbg, hm | ⟨hm, hv, hnn⟩⟩ := hc
          · exact ld_glob (X := X.suite a ((a, oe3) :: (X.pn ++ pins))) S3 hg hm q hdbg
          · exact ld_blt (X := X.suite a ((a, oe3) :: (X.pn ++ pins))) S3 hg hm hv q hnn hdbg
        refine test (LM.here ?_)
        cases b with
        | true =>
          refine codeAny_handlers_suite_as ?_
          refine HandSPX.lands_againZ fl3 fun h4 fl4 up4 => ?_
          have J4 : Inv X pins σ' H' { s' with heap := h4 } := J.landed nb fl4.1 ((up.trans up3).trans up4) os ag
          obtain ⟨oe4, vs4, he4, hz4, hd4⟩ := fl4.there
          have S4 := J4.suite he4 hd4 na nL nF
          refine store_ok (X := X.suite a ((a, oe4) :: (X.pn ++ pins))) (v := .ref a) S4 hN hi (.inl hln) rfl (fun s5 S5 => ?_) (.inr hln)
          refine wpAny_mono ((hsu a oe4 cls d (X.pn ++ pins) hz4 ⟨_, hd4⟩).run [] s5 _ H' _ S5 (hyes rfl a na)) (fun f s6 hsp => ?_) (fun _ _ z => False.elim z)
          have end_ : ∀ {σ6 : St} {H6 : Hp} {Q : Shared → Prop}, Inv (X.suite a ((a, oe4) :: (X.pn ++ pins))) [] σ6 H6 s6 → (∀ s7, Inv X pins (σ6.set i none) H6 s7 → Q s7) →
              wpAny (model X.prog X.w) X.A (do bindName X.env n .none; unbindBehindTheSuite X.env n pos') (fun _ s7 => Q s7) X.xe s6 := fun {σ6 H6 Q} S6 hq => gone_ok (S6.unsuite ok) hN hi hln hq
          cases f with
          | next =>
            obtain ⟨σ6, H6, S6, q6⟩ := hsp
            exact end_ S6 fun s7 J7 => ⟨_, _, J7, q6⟩
          | brk =>
            obtain ⟨σ6, H6, S6, q6⟩ := hsp
            exact end_ S6 fun s7 J7 => ⟨_, _, J7, q6⟩
          | cont =>
            obtain ⟨σ6, H6, S6, q6⟩ := hsp
            exact end_ S6 fun s7 J7 => ⟨_, _, J7, q6⟩
          | ret u =>
            obtain ⟨v6, σ6, H6, S6, r6, q6⟩ := hsp
            exact end_ S6 fun s7 J7 => ⟨_, _, _, J7, r6, q6⟩
        | false =>
          show wpAny _ X.A (handleBy (.ref a) X.env hds2) _ _ _
          exact ih (hno rfl)
    exact go hh w
  · cases f with
    | next =>
      obtain ⟨σ', H', J', q⟩ := hsp
      exact wpAny_execs_nil ⟨σ', H', J'.ofTry ok, q⟩
    | brk =>
      obtain ⟨σ', H', J', q⟩ := hsp
      exact ⟨σ', H', J'.ofTry ok, q⟩
    | cont =>
      obtain ⟨σ', H', J', q⟩ := hsp
      exact ⟨σ', H', J'.ofTry ok, q⟩
    | ret u =>
      obtain ⟨v, σ', H', J', r, q⟩ := hsp
      exact ⟨v, σ', H', J'.ofTry ok, r, q⟩
end
end L2
end
section
/-! KwD0: the row's defs, what is known of the module's names, callables. -/
namespace Kw
open PySem PySem.Spec PyProof.Rows L2 Evl
def top (i : Nat) : Stmt := PySem.Challenge.pw_keptwhole_k40_whole_links_that_lack_and.main.body.getD i (.Pass ⟨0, 0, 0, 0⟩)
abbrev FnP (K : PySem.W.Frag) (x : Str) (st : Stmt) (f : Addr) (fd : FuncData) : Prop := FunD K x x (defArgs st) (defBody st) (defScope st) [] [] f fd
/-- a name that calls a def which keeps its promise -/
def CalX (CX : CXT) (P : Program) (w : World) (K : PySem.W.Frag) (mg : Str → Option Value) (base : Heap) (x : Str) (k : Nat) (ps : List Str) (sp : Sp) : Prop :=
  ∃ f fd, mg x = some (.ref f) ∧ PySem.W.keepIn K (.ref f) = true ∧ Binds K fd ps [] ∧ FnOk P w K mg base CX k f fd ps sp ∧ ∃ st, FnP K x st f fd
abbrev Cal := CalX CX0
section
variable {P : Program} {w : World} {K : PySem.W.Frag} {mg : Str → Option Value} {base : Heap} {x : Str} {k : Nat} {ps : List Str} {sp : Sp}
theorem CalX.mono {CX : CXT} {j : Nat} (c : CalX CX P w K mg base x j ps sp) (h : j ≤ k) : CalX CX P w K mg base x k ps sp := by
  obtain ⟨f, fd, a, b, d, e, g⟩ := c
  exact ⟨f, fd, a, b, d, e.mono h, g⟩
end
section
variable {X : Cx} {x : Str} {k : Nat} {ps : List Str} {sp : Sp} {e : Expr} {es : List Expr} {p pos : Pos} {t : TA}
theorem pe_cal (c : Cal X.prog X.w X.K X.mg X.base x k ps sp) (hr : Room k X.A) (hg : Gl X x) (ha : PA X (e :: es) t)
    (hdb : (x == ("__debug__" : Str)) = false := by decide) (he : starEach (e :: es) X.env = (false, eval e X.env) :: starEach es X.env := by rfl) (hpl : (backTo pos (starEach es X.env)).any (·.1) = false := by rfl) :
    PE X (.Call (.Name x p) (e :: es) [] pos) (tCall sp [] E0 t) := by
  obtain ⟨f, fd, hm, hk, hb, F, _⟩ := c
  exact pe_call F hr hg hm hk hb .nil pass0 ha hdb he hpl
theorem pe_calS {E : L2.St → XK} (c : CalX (L2.CX X.prog X.w) X.prog X.w X.K X.mg X.base x k ps sp) (hr : Room k X.A) (hg : Gl X x) (hx : ∀ σ, PassesAt (L2.CX X.prog X.w) X σ (E σ)) (ha : PA X (e :: es) t)
    (hdb : (x == ("__debug__" : Str)) = false := by decide) (he : starEach (e :: es) X.env = (false, eval e X.env) :: starEach es X.env := by rfl) (hpl : (backTo pos (starEach es X.env)).any (·.1) = false := by rfl) :
    PE X (.Call (.Name x p) (e :: es) [] pos) (tCallS sp E t) := by
  obtain ⟨f, fd, hm, hk, hb, F, _⟩ := c
  exact pe_callS F hr hg hm hk hb hx ha hdb he hpl
end
/-- the module's functions: name, statement -/
abbrev D (x : Str) (i : Nat) : Str × Stmt := (x, top i)
def defs : List (Str × Stmt) := [D "is_integer" 7, D "is_number" 8, D "is_below" 9, D "is_sequence" 10, D "need_octets" 11, D "figures_of" 14, D "write_number" 15, D "write_octets" 16, D "write_row" 17,
  D "parts_of" 21, D "kinds_let" 22, D "thing_links" 23, D "links_to" 24, D "links_there" 28, D "lacking" 29, D "is_closed" 30, D "closure" 31, D "linkers_of" 32, D "ring_in" 33, D "link_order" 34,
  D "need_order" 35, D "depths" 36, D "_law_box" 38, D "_law_take" 39, D "_law_pick" 40, D "_law_number" 41, D "_law_form" 42, D "_law_parts" 44, D "_law_loose" 46, D "_law_links" 47, D "_law_there" 48,
  D "_law_order" 49, D "_law_lacking" 50, D "_law_come" 51, D "_law_deep" 52, D "_law_heard" 53, D "law" 54]
def frees : List Str := ["isinstance", "int", "bool", "list", "tuple", "enumerate", "len", "zip", "sorted", "min", "max", "abs", "range", "set", "repr"]
/-- what the walk leans on -/
structure Tx (K : PySem.W.Frag) (mg : Str → Option Value) : Prop where
  fn : ∀ (i : Nat) (x : Str) (st : Stmt), defs[i]? = some (x, st) → ∃ f fd, FnP K x st f fd ∧ mg x = some (.ref f)
  fr : ∀ x ∈ frees, mg x = none
  gOct : ∃ t, mg "MOST_OCTET" = some (.int 256 t)
  gFig : ∃ t, mg "MOST_FIGURES" = some (.int 200 t)
  gTree : ∃ t, mg "TO_TREE" = some (.int 2 t)
  gOrder : ∃ t, mg "ORDER" = some (.str "order" t)
  gRing : ∃ t, mg "RING" = some (.str "ring" t)
  gKinds : ∃ a, mg "KINDS" = some (.ref a) ∧ ∀ H, SqT K H a [.str "blob", .str "tree", .str "commit", .str "tag"]
/-- a def that keeps its promise can be called -/
theorem cal_of {P : Program} {w : World} {K : PySem.W.Frag} {mg : Str → Option Value} {base : Heap} {x : Str} {st : Stmt} {k : Nat} {ps : List Str} {sp : Sp} {CX : CXT} {f : Addr} {fd : FuncData} (F : FnP K x st f fd) (hm : mg x = some (.ref f))
    (hb : ∀ (kV doc pm : Value) (an : Option Addr) (cdv ct : Value) (us : List Value), us.length = ps.length → bindArgs (PySem.W.fnOf x x (defArgs st) (defBody st) (defScope st) .none kV doc pm an cdv ct) ⟨us, []⟩ = pure (ps.zip us))
    (ok : FnOk P w K mg base CX k f fd ps sp) : CalX CX P w K mg base x k ps sp := ⟨f, fd, hm, F.kp, F.bindsN hb, ok, st, F⟩
end Kw
end
section
/-! KwR4: tuple += tuple; tuple * int of any small size; xs[::e]. -/
namespace L2
open PySem PySem.Spec PyProof.Rows HT
section
variable {prog : Program} {w : World} {A : Around} {E : Value → Shared → Prop} {s : Shared}
theorem no_tuple_iadd : typeLookup (.type "tuple") (dunderI "add") = pure none := by
  rw [typeLookup_type, builtinLookup_eq_fast]; kernel_rfl
theorem icat_tup {t b : Addr} {vs ws : List Value} {Q : Value → Shared → Prop} (ht : IsTup s.heap t vs.toArray) (hb : IsTup s.heap b ws.toArray)
    (h0 : vs = [] → Q (.ref b) s) (h1 : vs ≠ [] → ws = [] → Q (.ref t) s) (h2 : vs ≠ [] → ws ≠ [] → Q (.ref s.heap.objs.size) { s with heap := s.heap.push { cls := .type "tuple", data := .seq (vs ++ ws).toArray } })
    (hsz : vs.length + ws.length ≤ sizeLine) : wpAny (model prog w) A (inplaceOp .Add (.ref t) (.ref b)) Q E s := by
  obtain ⟨⟨cls, dd, data, sl⟩, ho, hc, n, hd⟩ := id ht
  obtain ⟨⟨cls2, dd2, data2, sl2⟩, ho2, hc2, n2, hd2⟩ := id hb
  simp only at hc hd hc2 hd2
  subst hc hd hc2 hd2
  have e : vs.toArray ++ ws.toArray = (vs ++ ws).toArray := by simp
  refine wpAny_inplaceOp_concat ⟨_, ho, rfl⟩ ⟨_, ho2, rfl⟩ no_tuple_iadd noFill_tuple_add seq_tuple_add ?_
  by_cases hv : vs = []
  · refine call_meets PySem.F.slot_tuple_add ⟨_, ho, rfl⟩ PySem.F.entry_tuple_add (PySem.F.args_tuple_add_2 _ _)
      (tuple_addW0 t b vs.toArray ws.toArray n n2 dd dd2 sl sl2 (by simp [hv])) ⟨ho, ho2, h0 hv⟩
  · by_cases hw : ws = []
    · refine call_meets PySem.F.slot_tuple_add ⟨_, ho, rfl⟩ PySem.F.entry_tuple_add (PySem.F.args_tuple_add_2 _ _)
        (tuple_addW1 t b vs.toArray ws.toArray n n2 dd dd2 sl sl2 (by simpa using hv) (by simp [hw])) ⟨ho, ho2, h1 hv hw⟩
    · refine call_meets PySem.F.slot_tuple_add ⟨_, ho, rfl⟩ PySem.F.entry_tuple_add (PySem.F.args_tuple_add_2 _ _)
        (tuple_addW2 t b vs.toArray ws.toArray n n2 dd dd2 sl sl2 (by simpa using hv) (by simpa using hw) (by rw [List.size_toArray, List.size_toArray]; exact hsz)) ⟨ho, ho2, ?_⟩
      rw [e]
      exact h2 hv hw
theorem tuple_mul1 (l : Addr) (items : Array Value) (n : Nat) (dd : Option Addr) (sl : Array (Option Value)) (x : Int) (u : Tok) (c0 : (decide (x < -(2 ^ 63)) || decide (x ≥ 2 ^ 63)) = false) (c1 : (items.isEmpty || x == 1) = true) :
    Meets (Builtin.«tuple.__mul__» ⟨[.ref l, .int x u], []⟩) (fun _ R s => s.heap.get? l = some { cls := .type "tuple", dict := dd, data := .seq items n, slots := sl } ∧
      R (.ok (.ret (Value.ref l))) s) :=
  .of_wp fun prog w A R s h => by
    obtain ⟨hp, g, d, tk, os⟩ := s
    obtain ⟨hl, h⟩ := h
    have f1 := AutoSeq1.idx_int
    wp_walk using wpAny_loadPart' hl
    repeat (first
      | (refine wpAny_ite_false (decide_eq_false (by rw [c0]; exact Bool.false_ne_true)) ?_; wp_walk using wpAny_loadPart' hl)
      | (refine wpAny_ite_true (decide_eq_true c1) ?_; wp_walk using wpAny_loadPart' hl)
      | (simp only [c0, c1, Bool.false_eq_true, if_false, if_true, decide_true]; wp_walk using wpAny_loadPart' hl))
    exact ⟨_, rfl, h⟩
theorem tuple_mul0 (l : Addr) (items : Array Value) (n : Nat) (dd : Option Addr) (sl : Array (Option Value)) (x : Int) (u : Tok) (c0 : (decide (x < -(2 ^ 63)) || decide (x ≥ 2 ^ 63)) = false) (c1 : (items.isEmpty || x == 1) = false) (c2 : (decide (x ≤ 0) || items.isEmpty) = true) :
    Meets (Builtin.«tuple.__mul__» ⟨[.ref l, .int x u], []⟩) (fun _ R s => s.heap.get? l = some { cls := .type "tuple", dict := dd, data := .seq items n, slots := sl } ∧
      R (.ok (.ret (Value.ref s.heap.objs.size))) { s with heap := s.heap.push { cls := Value.type "tuple", data := Data.seq #[] }, toks := s.toks }) :=
  .of_wp fun prog w A R s h => by
    obtain ⟨hp, g, d, tk, os⟩ := s
    obtain ⟨hl, h⟩ := h
    have f1 := AutoSeq1.idx_int
    wp_walk using wpAny_loadPart' hl
    repeat (first
      | (refine wpAny_ite_false (decide_eq_false (by rw [c0]; exact Bool.false_ne_true)) ?_; wp_walk using wpAny_loadPart' hl)
      | (refine wpAny_ite_false (decide_eq_false (by rw [c1]; exact Bool.false_ne_true)) ?_; wp_walk using wpAny_loadPart' hl)
      | (refine wpAny_ite_true (decide_eq_true c2) ?_; wp_walk using wpAny_loadPart' hl)
      | (simp only [c0, c1, c2, Bool.false_eq_true, if_false, if_true, decide_true]; wp_walk using wpAny_loadPart' hl))
    exact ⟨_, rfl, h⟩
end
section
variable {X : Cx}
theorem iop_catA : OpR X (inplaceOp .Add) (rCatA X.K) := by
  intro pins s σ H x y v u Q I rx ry h
  obtain ⟨a, b, xs, ys, rfl, rfl, ha, hb, hz, q0, q1, q2⟩ := h
  cases rx
  cases ry
  obtain ⟨its, r1, p1, _⟩ := I.tuple ha
  obtain ⟨its2, r2, p2, _⟩ := I.tuple hb
  refine icat_tup p1 p2 (fun z => ⟨.ref b, H, I, rfl, q0 (r1.nil_iff.mp z)⟩) (fun z z2 => ⟨.ref a, H, I, rfl, q1 (fun e => z (r1.nil_iff.mpr e)) (r2.nil_iff.mp z2)⟩) (fun z z2 => ?_) (by rw [← r1.length, ← r2.length]; exact hz)
  refine ⟨.ref s.heap.objs.size, _, I.laid (t' := s.toks) (o := .tup (xs ++ ys)) (fun b ob q => Heap.get?_push_of_some _ q) (Nat.le_refl _) ?_, rfl, q2 (fun e => z (r1.nil_iff.mpr e)) (fun e => z2 (r2.nil_iff.mpr e)) _ (I.hok.fresh (Nat.le_refl _))⟩
  exact ⟨by rw [List.length_append]; exact hz, _, r1.append r2, IsTup.new _ _⟩
/-- t * k, t not empty, 0 ≤ k -/
def rRepA (K : PySem.W.Frag) : R2 := fun x y H Q => ∃ l k xs, x = .ref l ∧ y = .int k ∧ SqT K H l xs ∧ xs ≠ [] ∧ 0 ≤ k ∧ k ≤ 1000 ∧ xs.length ≤ 1000 ∧ (k = 1 → Q (.ref l) H) ∧ (k ≠ 1 → ∀ p, H p = none → Q (.ref p) (upd H p (.tup (List.replicate k.toNat xs).flatten)))
theorem op_repA : OpR X (binaryOp .Mult) (rRepA X.K) := by
  intro pins s σ H x y v u Q I rx ry h
  obtain ⟨l, k, xs, rfl, rfl, hT, hne, h1, h2, hz, q1, q⟩ := h
  by_cases hk : 2 ≤ k
  · exact op_repT pins s σ H _ _ v u Q I rx ry ⟨l, k, xs, rfl, rfl, hT, hne, hk, h2, hz, q (by omega)⟩
  cases rx
  obtain ⟨t, rfl⟩ := ry
  obtain ⟨its, r, ⟨⟨cls, dd, data, sl⟩, ho, hc, n, hd⟩, hs⟩ := I.tuple hT
  simp only at hc hd
  subst hc hd
  have hle : its.length = xs.length := r.length.symm
  have hn : its ≠ [] := fun e => hne (by
    rw [e] at hle
    exact List.eq_nil_of_length_eq_zero hle.symm)
  have hi : its.toArray.isEmpty = false := by
    cases its with
    | nil => exact absurd rfl hn
    | cons a b => rfl
  have c0 : (decide (k < -(2 ^ 63)) || decide (k ≥ 2 ^ 63)) = false := by
    rw [decide_eq_false (by omega), decide_eq_false (by omega)] <;> rfl
  have road : ∀ {R : Result → Shared → Prop}, True := fun {_} => trivial
  by_cases hk1 : k = 1
  · have c1 : (its.toArray.isEmpty || k == 1) = true := by rw [hk1]; simp
    exact wpAny_binaryOp_repeat_ref (T := "tuple") (U := "int") (by decide) ⟨_, ho, rfl⟩ (fun s' => typeIs_int s' k t) noFill_tuple_mul F.fills_int_mul F.slot_int_rmul repeat_tuple F.slot_int_index.lookup
      (call_meets F.slot_int_rmul (typeIs_int s k t) F.entry_int_rmul (F.args_int_rmul_2 _ _) (int_rmul_tuple k t l its.toArray n dd sl)
        ⟨ho, rfl, ⟨_, ho, rfl⟩, call_meets F.slot_tuple_mul ⟨_, ho, rfl⟩ F.entry_tuple_mul (F.args_tuple_mul_2 _ _) (tuple_mul1 l its.toArray n dd sl k t c0 c1) ⟨ho, ⟨.ref l, H, I, rfl, q1 hk1⟩⟩⟩)
  · have hk0 : k = 0 := by omega
    have c1 : (its.toArray.isEmpty || k == 1) = false := by
      rw [hi, Bool.false_or]
      exact beq_eq_false_iff_ne.mpr hk1
    have c2 : (decide (k ≤ 0) || its.toArray.isEmpty) = true := by
      rw [hi, Bool.or_false]
      exact decide_eq_true (by omega)
    refine wpAny_binaryOp_repeat_ref (T := "tuple") (U := "int") (by decide) ⟨_, ho, rfl⟩ (fun s' => typeIs_int s' k t) noFill_tuple_mul F.fills_int_mul F.slot_int_rmul repeat_tuple F.slot_int_index.lookup
      (call_meets F.slot_int_rmul (typeIs_int s k t) F.entry_int_rmul (F.args_int_rmul_2 _ _) (int_rmul_tuple k t l its.toArray n dd sl)
        ⟨ho, rfl, ⟨_, ho, rfl⟩, call_meets F.slot_tuple_mul ⟨_, ho, rfl⟩ F.entry_tuple_mul (F.args_tuple_mul_2 _ _) (tuple_mul0 l its.toArray n dd sl k t c0 c1 c2) ⟨ho, ?_⟩⟩)
    have e0 : (List.replicate k.toNat xs).flatten = [] := by rw [hk0]; rfl
    have q2 := q hk1
    rw [e0] at q2
    exact ⟨.ref s.heap.objs.size, _, I.laid (t' := s.toks) (o := .tup []) (fun b ob q => Heap.get?_push_of_some _ q) (Nat.le_refl _) ⟨Nat.zero_le _, _, .nil, IsTup.new _ _⟩, rfl, q2 _ (I.hok.fresh (Nat.le_refl _))⟩
/-- xs[::e], e the int -1 whatever stands -/
def tRevS (K : PySem.W.Frag) (te : TE) : TE := tRevL K te
theorem pe_revS {e e1 : Expr} {te t1 : TE} {p3 pos : Pos} (he : PE X e te) (h1 : PE X e1 t1) (hv : ∀ σ H (Q : VK), Q (.int (-1)) H → t1 σ H Q) : PE X (.Subscript e (.Slice none none (some e1) p3) pos) (tRevL X.K te) := by
  refine ⟨fun pins s σ H Q I h => ?_⟩
  refine Subscript_ (thn (he.run pins s σ H _ I h) fun v s1 ⟨x, H1, I1, r1, q1⟩ => ?_)
  obtain ⟨a, xs, ex, hx, q⟩ := q1
  subst ex
  cases r1
  have hst : PO X (some e1) (tPart t1) := po_some h1
  refine wpAny_Slice (thn (po_none.run pins s1 σ H1 (fun o H2 => o = none ∧ H2 = H1) I1 ⟨rfl, rfl⟩) fun vl s2 ⟨l, H2, I2, pl, el, e2⟩ => ?_)
  subst el e2
  refine thn (po_none.run pins s2 σ H2 (fun o H3 => o = none ∧ H3 = H2) I2 ⟨rfl, rfl⟩) fun vu s3 ⟨u, H3, I3, pu, eu, e3⟩ => ?_
  subst eu e3
  refine thn (hst.run pins s3 σ H3 (fun o H4 => o = some (-1) ∧ H4 = H3) I3 (hv σ H3 _ ⟨-1, rfl, rfl, rfl⟩)) fun vs s4 ⟨o, H4, I4, ps, eo, e4⟩ => ?_
  subst eo e4
  have I5 : Inv X pins σ H4 { s4 with heap := s4.heap.push { cls := .type "slice", data := .fields #[vl, vu, vs] } } := I4.kept (t' := s4.toks) fun b ob q => Heap.get?_push_of_some _ q
  obtain ⟨its, r, ht, hz⟩ := I5.list hx
  have hlen := r.length
  show wpAny (model X.prog X.w) X.A (subscriptTail e (.Slice none none (some e1) p3) (.ref a) (.ref s4.heap.objs.size)) (EP X pins σ Q) X.xe { s4 with heap := s4.heap.push { cls := .type "slice", data := .fields #[vl, vu, vs] } }
  refine tail_any (ops := [.ref a, .ref s4.heap.objs.size]) ht.isList.typeIs (PySem.slot_list_getitem.lookup) ?_ (by with_unfolding_all rfl)
  refine wpAny_getItem_list_slice ht.isList (Heap.IsSliceOf.new _ vl vu vs) pl pu ps (by decide) ?_ (by rw [List.size_toArray]; omega)
  rw [PySem.W.krv_pick]
  refine ⟨.ref _, _, I5.laid (t' := s4.toks) (o := .lst xs.reverse) (fun b ob q => Heap.get?_push_of_some _ q) (Nat.le_refl _) ?_, rfl, q _ (I5.hok.fresh (Nat.le_refl _))⟩
  exact ⟨by rw [List.length_reverse]; exact hz, _, 0, r.reverse, Heap.get?_push_size _ rfl⟩
/-- a loop over a list or a tuple -/
def iLT (K : PySem.W.Frag) (tl : TE) : TI := fun σ H R => tl σ H fun x H1 => ∃ a, x = .ref a ∧ (((∃ xs, SqL K H1 a xs) ∧ R (Itl K a) H1) ∨ ((∃ xs, SqT K H1 a xs) ∧ R (Itt K a) H1))
theorem pi_lt {tg l : Expr} {tl : TE} (hl : PE X l tl) : PI X tg l (iLT X.K tl) := by
  refine ⟨fun pins s σ H R I h => ?_⟩
  refine thn (hl.run pins s σ H _ I h) fun v s1 ⟨x, H1, I1, r1, q1⟩ => ?_
  obtain ⟨a, e, q1⟩ := q1
  subst e
  cases r1
  rcases q1 with ⟨⟨xs, hq⟩, q⟩ | ⟨⟨xs, hq⟩, q⟩
  · obtain ⟨its, rv, p, hz⟩ := I1.list hq
    refine wpAny_pyIter_list p.isList ?_
    refine ⟨s1.heap.objs.size, [s1.heap.objs.size], _, _, H1, rfl, I1.kept (t' := s1.toks) fun b o e => Heap.get?_push_of_some _ e, turn_list a _, ⟨_, Heap.get?_push_size _ rfl, rfl, rfl⟩, fun b hb => ?_, q⟩
    have e : b = s1.heap.objs.size := by simpa using hb
    subst e
    exact I1.fpOk (Nat.le_refl _) (I1.hok.fresh (Nat.le_refl _))
  · obtain ⟨its, rv, p, hz⟩ := I1.tuple hq
    refine wpAny_pyIter_tuple (show s1.heap.IsTuple a its.toArray from p) ?_
    refine ⟨s1.heap.objs.size, [s1.heap.objs.size], _, _, H1, rfl, I1.kept (t' := s1.toks) fun b o e => Heap.get?_push_of_some _ e, turn_tuple a _, ⟨_, Heap.get?_push_size _ rfl, rfl, rfl⟩, fun b hb => ?_, q⟩
    have e : b = s1.heap.objs.size := by simpa using hb
    subst e
    exact I1.fpOk (Nat.le_refl _) (I1.hok.fresh (Nat.le_refl _))
end
end L2
end
section
/-! KwR5: enumerate(tuple). -/
namespace PySem
open Sem (wp)
open AutoSeq1 (wpAny_loadPart')
theorem meets_enumerate_newT (l : Addr) (items : Array Value) (n : Nat) (dct : Option Addr) (sl : Array (Option Value)) :
    Meets (Builtin.«enumerate.__new__» ⟨[.type "enumerate", .ref l], []⟩) (fun _ R s => s.heap.get? l = some { cls := .type "tuple", dict := dct, data := .seq items n, slots := sl } ∧
      R (.ok (.ret (.ref (s.heap.push { cls := .type "tuple_iterator", data := .fields #[.ref l, .int 0 0] }).objs.size)))
        { s with heap := (s.heap.push { cls := .type "tuple_iterator", data := .fields #[.ref l, .int 0 0] }).push { cls := .type "enumerate", data := .fields #[.none, .bool false, .ref s.heap.objs.size, rawInt 0, .none, .none] } }) :=
  .of_wp fun prog w A R s h => by
    obtain ⟨hp, g, d, tk, os⟩ := s; obtain ⟨hl, h⟩ := h
    have hsub := sub_enumerate
    have hL : Heap.IsTuple (Shared.heap ⟨hp, g, d, tk, os⟩) l items := ⟨_, hl, rfl, n, rfl⟩
    wp_walk using wpAny_loadPart' hl
    refine wpAny_stack_any fun st => wpAny_pure ?_
    split
    · rename_i c _ _ _ _ _
      cases (c == Value.type "enumerate")
      · wp_walk using wpAny_loadPart' hl, wpAny_pyIter_tuple hL
        exact ⟨_, rfl, h⟩
      · wp_walk using wpAny_loadPart' hl, wpAny_pyIter_tuple hL
        exact ⟨_, rfl, h⟩
    · wp_walk using wpAny_loadPart' hl, wpAny_pyIter_tuple hL
      exact ⟨_, rfl, h⟩
section
variable {prog : Program} {w : World} {A : Around} {E : Value → Shared → Prop} {s : Shared}
theorem call_enumerate_tuple {l : Addr} {items : Array Value} {Q : Value → Shared → Prop} (hL : s.heap.IsTuple l items)
    (h : ∀ h', IsEnum h' (s.heap.objs.size + 1) s.heap.objs.size 0 .none → h'.IsTupleIter s.heap.objs.size l 0 → h'.objs.size = s.heap.objs.size + 2 →
      (∀ b o, s.heap.get? b = some o → h'.get? b = some o) → Q (.ref (s.heap.objs.size + 1)) { s with heap := h' }) :
    wpAny (model prog w) A (call (.type "enumerate") [.ref l]) Q E s := by
  obtain ⟨⟨c, dct, dt, sl⟩, hl, hc, n, hd⟩ := hL
  replace hc : c = .type "tuple" := hc
  replace hd : dt = .seq items n := hd
  subst hc hd
  refine callType_new F.called_enumerate (by decide) (F.typeCall_enumerate_1 _) (F.newCall_enumerate_1 _) (fun obj => F.args_object_init_2 obj _) F.entry_enumerate_new
    (meets_enumerate_newT l items n dct sl) ⟨hl, ?_⟩
  have hz : (s.heap.push { cls := .type "tuple_iterator", data := .fields #[.ref l, .int 0 0] }).objs.size = s.heap.objs.size + 1 := Heap.size_push ..
  show _ ∧ _
  rw [hz]
  have he : IsEnum ((s.heap.push { cls := .type "tuple_iterator", data := .fields #[.ref l, .int 0 0] }).push
      { cls := .type "enumerate", data := .fields #[.none, .bool false, .ref s.heap.objs.size, rawInt 0, .none, .none] }) (s.heap.objs.size + 1) s.heap.objs.size 0 .none := by
    have := Heap.get?_push_size (s.heap.push { cls := .type "tuple_iterator", data := .fields #[.ref l, .int 0 0] })
      (o := { cls := .type "enumerate", data := .fields #[.none, .bool false, .ref s.heap.objs.size, rawInt 0, .none, .none] }) rfl
    rw [hz] at this; exact this
  refine ⟨⟨_, he, rfl⟩, h _ he ⟨_, Heap.get?_push_of_some _ (Heap.get?_push_size _ rfl), rfl, rfl⟩ (by rw [Heap.size_push, hz]) fun b o x => Heap.get?_push_of_some _ (Heap.get?_push_of_some _ x)⟩
end
end PySem
namespace L2
open PySem PySem.Spec PyProof.Rows
section
variable {X : Cx} {tg : Expr}
/-! ### enumerate(tuple) -/
/-- the list at a as it stands at each turn, each item in a new pair -/
def IteT (K : PySem.W.Frag) (a : Addr) : It :=
  ⟨fun i H => ∃ (xs : List V) (x : V), SqT K H a xs ∧ xs[i]? = some x, fun i H v H' => ∃ T x, v = .ref T ∧ H T = none ∧ H' = upd H T (.tup [.int (i : Nat), x]) ∧ ∀ xs, SqT K H a xs → xs[i]? = some x, fun i H => ∃ xs : List V, SqT K H a xs ∧ xs.length = i⟩
theorem turn_enumT {P : Program} {w : World} {K : PySem.W.Frag} {elts : List Expr} {kk : Nat} {tpos : Pos} (a e it : Addr) :
    Turn P w K (.Tuple elts kk tpos) (IteT K a) [e, it] e (fun i h => (∃ old, IsEnum h e it ((i : Nat) : Int) old) ∧ h.IsTupleIter it a i ∧ e ≠ it) where
  mem := by simp
  obj := fun i h st b hb => by
    obtain ⟨⟨old, he⟩, ⟨o, ho, hc, hd⟩, _⟩ := st
    have e' : b = e ∨ b = it := by simpa using hb
    rcases e' with z | z
    · rw [z]; exact ⟨_, he, fun v q => nomatch q⟩
    · rw [z]; exact ⟨o, ho, fun v q => by rw [hd] at q; cases q⟩
  keep := fun i h h' st k => let ⟨⟨old, he⟩, hi, hne⟩ := st; ⟨⟨old, k e (by simp) _ he⟩, hi.at fun o q => k it (by simp) o q, hne⟩
  item := by
    intro X hP hw hK hc i pins s σ H E I hf st hg
    subst hP hw hK
    obtain ⟨⟨old, he⟩, hit, hne⟩ := st
    obtain ⟨xs, x, hq, hx⟩ := hg
    obtain ⟨its, rv, p, hz⟩ := I.tuple hq
    obtain ⟨u, hu, ru⟩ := rv.get hx
    have hel : e < s.heap.objs.size := Heap.lt_size he
    have hil : it < s.heap.objs.size := by obtain ⟨_, q, _⟩ := hit; exact Heap.lt_size q
    obtain ⟨oa, hoa, hca, na, hda⟩ := id p
    obtain ⟨oi, hoi, hci, hdi⟩ := id hit
    have nai : a ≠ it := fun z => by
      rw [z, hoi] at hoa
      cases hoa
      rw [hci] at hca
      injection hca with q
      exact absurd q (by decide)
    have nae : e ≠ a := fun z => by
      have he2 : s.heap.get? e = _ := he
      rw [z, hoa] at he2
      cases he2
      injection hca with q
      exact absurd q (by decide)
    have D := Draws.tuple (prog := X.prog) (w := X.w) (A := X.A.in1) (I.ok.hd hc) it a nai its.toArray
    have hlt : i < its.toArray.size := by
      rw [List.size_toArray]
      exact (List.getElem?_eq_some_iff.mp hu).1
    refine wpAny_pyNext_enum_itemD D he ⟨hit, p⟩ hlt hne (by simp [hne, nae]) fun x0 h' tk0 hx0 ho hit' hT hsz hk => ?_
    have ex0 : x0 = u := by
      have : its.toArray[i]? = some u := by simpa using hu
      rw [this] at hx0
      exact (Option.some.inj hx0).symm
    subst ex0
    refine ⟨_, rfl, wpAny_letOwnedTupleGo_enum (s := { s with heap := h', toks := tk0 + 1 }) ho fun h'' he' sb => ?_⟩
    have hT2 : h''.get? s.heap.objs.size = some { cls := .type "tuple", data := .seq #[.int i tk0, x0] } := (sb.2 _ (Nat.ne_of_gt hel)).trans hT
    have new : ObjOk X.prog X.w (upd H s.heap.objs.size (.tup [.int (i : Nat), x])) h'' s.heap.objs.size (.tup [.int (i : Nat), x]) :=
      ⟨by show 2 ≤ sizeLine; decide, [.int i tk0, x0], .cons ⟨_, rfl⟩ (.cons ru .nil), ⟨_, hT2, rfl, _, rfl⟩⟩
    have I1 : Inv X pins σ (upd H s.heap.objs.size (.tup [.int (i : Nat), x])) { s with heap := h'', toks := tk0 + 1 } :=
      I.turnedNew (ch := [e, it]) (fun b ob hb q => (sb.2 b (fun z => hb (by simp [z]))).trans (hk b ob (fun z => hb (by simp [z])) (fun z => hb (by simp [z])) q)) hf (Nat.le_refl _) new
    refine ⟨.ref s.heap.objs.size, _, I1, rfl, ⟨_, x, rfl, I.hok.fresh (Nat.le_refl _), rfl, fun ys hy => by rw [I.tuple_inj hy hq]; exact hx⟩, ⟨⟨x0, ?_⟩, hit'.1.at fun o q => (sb.2 it (Ne.symm hne)).trans q, hne⟩, fun b hb => ?_⟩
    · have e1 : ((i + 1 : Nat) : Int) = (i : Int) + 1 := by omega
      rw [e1]; exact he'
    · have hb' : b < s.heap.objs.size := by
        have e' : b = e ∨ b = it := by simpa using hb
        rcases e' with z | z
        · rw [z]; exact hel
        · rw [z]; exact hil
      rw [upd_ne (Nat.ne_of_lt hb')]
      exact (hf b hb).1
  done := by
    intro X hP hw hK hc i pins s σ H E I hf st hg
    subst hP hw hK
    obtain ⟨⟨old, he⟩, hit, hne⟩ := st
    obtain ⟨xs, hq, hx⟩ := hg
    obtain ⟨its, rv, p, hz⟩ := I.tuple hq
    obtain ⟨f0, f1, f2, f3, f4, f5⟩ := hf it (by simp)
    have hl := rv.length
    obtain ⟨oa, hoa, hca, na, hda⟩ := id p
    obtain ⟨oi, hoi, hci, hdi⟩ := id hit
    have nai : a ≠ it := fun z => by
      rw [z, hoi] at hoa
      cases hoa
      rw [hci] at hca
      injection hca with q
      exact absurd q (by decide)
    have D := Draws.tuple (prog := X.prog) (w := X.w) (A := X.A.in1) (I.ok.hd hc) it a nai its.toArray
    have hend : its.toArray.size = i := by
      rw [List.size_toArray]
      omega
    subst hend
    exact wpAny_pyNext_enum_endD D he ⟨hit, p⟩ fun h' eb => ⟨rfl, I.turned (t' := s.toks) (fun b o hb q => eb b o hb q) f0 f1 f3 f4 f5⟩
  self := fun A i s Q E st h => let ⟨⟨_, he⟩, _⟩ := st; wpAny_pyIter_enum he h
def iEnumT (K : PySem.W.Frag) (ta : TA) : TI := fun σ H R => ta σ H fun vs H1 => ∃ a xs, vs = [.ref a] ∧ SqT K H1 a xs ∧ R (IteT K a) H1
theorem pi_enumT {X : Cx} {e : Expr} {ta : TA} {p pos tpos : Pos} {elts : List Expr} {kk : Nat} (hg : Gl X "enumerate") (hm : X.mg "enumerate" = none) (ha : PA X [e] ta) (hs : starEach [e] X.env = [(false, eval e X.env)] := by rfl) :
    PI X (.Tuple elts kk tpos) (.Call (.Name "enumerate" p) [e] [] pos) (iEnumT X.K ta) := by
  refine ⟨fun pins s σ H R I h => ?_⟩
  refine Call_ (ld_blt I hg hm boot_enumerate (PyProof.Rows.callWith_type1 (thn (ha.run pos pins s σ H _ I h) fun us s1 ⟨vs, H1, I1, r1, q1⟩ => ?_) hs rfl))
  obtain ⟨a, xs, ex, hq, q⟩ := q1
  subst ex
  cases r1 with
  | cons r rr =>
    cases rr
    cases r
    obtain ⟨its, rv, p', hz⟩ := I1.tuple hq
    refine call_enumerate_tuple p' fun h' he hit hsz hk => wpAny_pyIter_enum he ?_
    have I2 : Inv X pins σ H1 { s1 with heap := h' } := I1.kept (t' := s1.toks) hk
    refine ⟨s1.heap.objs.size + 1, [s1.heap.objs.size + 1, s1.heap.objs.size], _, _, H1, rfl, I2, turn_enumT a (s1.heap.objs.size + 1) s1.heap.objs.size, ⟨⟨.none, he⟩, hit, Nat.succ_ne_self _⟩, fun b hb => ?_, q⟩
    have e' : b = s1.heap.objs.size + 1 ∨ b = s1.heap.objs.size := by simpa using hb
    have hle : s1.heap.objs.size ≤ b := by
      rcases e' with z | z
      · rw [z]; exact Nat.le_add_right _ _
      · rw [z]; exact Nat.le_refl _
    exact I1.fpOk hle (I1.hok.fresh hle)
theorem for_enumT {K : PySem.W.Frag} {a : Addr} {xs : List V} {g : TG} {tb : TS} {D : Ends} {σ : St} {H : Hp} (Pv : Nat → St → Hp → Prop) (h0 : Pv 0 σ H) (hq : ∀ i σ H, Pv i σ H → SqT K H a xs)
    (hs : ∀ (i : Nat) (x : V) (T : Addr) (σ : St) (H : Hp), xs[i]? = some x → Pv i σ H → H T = none → g (.ref T) σ (upd H T (.tup [.int (i : Nat), x])) fun σ2 H2 => tb { D with nx := Pv (i + 1), ct := Pv (i + 1), bk := D.nx } σ2 H2) (hd : ∀ σ H, Pv xs.length σ H → D.nx σ H) :
    ∃ W : Nat → Nat → St → Hp → Prop, (∃ m, W 0 m σ H) ∧ ∀ i m σ H, W i m σ H → ((IteT K a).stop i H ∧ D.nx σ H) ∨
      ((IteT K a).go i H ∧ ∃ N : St → Hp → Prop, (∀ σ' H', N σ' H' → ∃ m', m' < m ∧ W (i + 1) m' σ' H') ∧
        ∀ x H', (IteT K a).yld i H x H' → g x σ H' fun σ2 H2 => tb { D with nx := N, ct := N, bk := D.nx } σ2 H2) := by
  refine ⟨fun i m σ H => Pv i σ H ∧ i + m = xs.length, ⟨xs.length, h0, by omega⟩, fun i m σ H hw => ?_⟩
  obtain ⟨hp, hm⟩ := hw
  have hx := hq i σ H hp
  by_cases hi : i < xs.length
  · obtain ⟨x, hxi⟩ : ∃ x, xs[i]? = some x := ⟨xs[i], List.getElem?_eq_getElem hi⟩
    refine .inr ⟨⟨xs, x, hx, hxi⟩, Pv (i + 1), fun σ' H' hn => ⟨m - 1, by omega, hn, by omega⟩, fun v H' hy => ?_⟩
    obtain ⟨T, y, rfl, nT, rfl, hy2⟩ := hy
    have e := hy2 xs hx
    rw [hxi] at e
    cases e
    exact hs i x T σ H hxi hp nT
  · have e : i = xs.length := by omega
    subst e
    exact .inl ⟨⟨xs, hx, rfl⟩, hd σ H hp⟩
end
end L2
end
section
/-! KwR6: calls with keywords alone. -/
namespace Kw
open PySem PySem.Spec PyProof.Rows L2 Evl
/-- names with one, with two keywords; two in the other order -/
def kw1 {α : Type} : List α → List α → List α
  | [], [a] => [a]
  | _, _ => []
def kw2r {α : Type} : List α → List α → List α
  | [], [a, b] => [b, a]
  | _, _ => []
theorem kw1_rel {vs : List V} {us : List Value} {zs : List V} {ws : List Value} (r : Vals vs us) (q : Vals zs ws) : Vals (kw1 vs zs) (kw1 us ws) := by
  cases r with
  | nil =>
    cases q with
    | nil => exact .nil
    | cons h t =>
      cases t with
      | nil => exact .cons h .nil
      | cons _ _ => exact .nil
  | cons _ _ => exact .nil
theorem kw2r_rel {vs : List V} {us : List Value} {zs : List V} {ws : List Value} (r : Vals vs us) (q : Vals zs ws) : Vals (kw2r vs zs) (kw2r us ws) := by
  cases r with
  | nil =>
    cases q with
    | nil => exact .nil
    | cons h t =>
      cases t with
      | nil => exact .nil
      | cons h2 t2 =>
        cases t2 with
        | nil => exact .cons h2 (.cons h .nil)
        | cons _ _ => exact .nil
  | cons _ _ => exact .nil
/-- a name that calls a def by keywords ks -/
def CalK (CX : CXT) (P : Program) (w : World) (K : PySem.W.Frag) (mg : Str → Option Value) (base : Heap) (x : Str) (k : Nat) (ps ks : List Str) (gU : List Value → List Value → List Value) (gV : List V → List V → List V) (sp : Sp) : Prop :=
  ∃ f fd, mg x = some (.ref f) ∧ PySem.W.keepIn K (.ref f) = true ∧ KBinds K fd ps ks gU gV ∧ FnOk P w K mg base CX k f fd ps sp
theorem kbinds1 {K : PySem.W.Frag} {x : Str} {st : Stmt} {f : Addr} {fd : FuncData} {p : Str} (F : FnP K x st f fd)
    (hb : ∀ (kV doc pm : Value) (an : Option Addr) (cdv ct a : Value), bindArgs (PySem.W.fnOf x x (defArgs st) (defBody st) (defScope st) .none kV doc pm an cdv ct) ⟨[], [(p, a)]⟩ = pure [(p, a)]) : KBinds K fd [p] [p] kw1 kw1 := by
  refine ⟨fun s us ws _ hl => ?_, kw1_rel⟩
  obtain ⟨oc, od, dV, kV, doc, pm, an, cdv, ct, osl, rfl, lk, hcd, hD, hK⟩ := F.ex
  rcases hD with ⟨_, rfl⟩ | ⟨e, _⟩
  · match us, ws, hl with
    | [], [a], _ => exact .of_eq (hb kV doc pm an cdv ct a)
    | [], [], hl => cases hl
    | [], _ :: _ :: _, hl => cases hl
    | _ :: _, _, hl => cases hl
  · exact absurd rfl e
theorem kbinds2r {K : PySem.W.Frag} {x : Str} {st : Stmt} {f : Addr} {fd : FuncData} {p q : Str} (F : FnP K x st f fd)
    (hb : ∀ (kV doc pm : Value) (an : Option Addr) (cdv ct a b : Value), bindArgs (PySem.W.fnOf x x (defArgs st) (defBody st) (defScope st) .none kV doc pm an cdv ct) ⟨[], [(q, a), (p, b)]⟩ = pure [(p, b), (q, a)]) : KBinds K fd [p, q] [q, p] kw2r kw2r := by
  refine ⟨fun s us ws _ hl => ?_, kw2r_rel⟩
  obtain ⟨oc, od, dV, kV, doc, pm, an, cdv, ct, osl, rfl, lk, hcd, hD, hK⟩ := F.ex
  rcases hD with ⟨_, rfl⟩ | ⟨e, _⟩
  · match us, ws, hl with
    | [], [a, b], _ => exact .of_eq (hb kV doc pm an cdv ct a b)
    | [], [], hl => cases hl
    | [], [_], hl => cases hl
    | [], _ :: _ :: _ :: _, hl => cases hl
    | _ :: _, _, hl => cases hl
  · exact absurd rfl e
section
variable {X : Cx} {x : Str} {k : Nat} {ps ks : List Str} {sp : Sp} {kws : List Keyword} {p pos : Pos} {tk : TA} {gU : List Value → List Value → List Value} {gV : List V → List V → List V}
/-- f(k = v, ..) -/
def tKw (sp : Sp) (gV : List V → List V → List V) (E : XK) (tk : TA) : TE := fun σ H Q => tk σ H fun zs H2 => sp (gV [] zs) H2 Q E
theorem pe_calK (c : CalK CX0 X.prog X.w X.K X.mg X.base x k ps ks gU gV sp) (hr : Room k X.A) (hg : Gl X x)
    (hkw : PK X kws tk) (hall : (backToKw pos (keywordEach kws X.env)).all (·.1.isSome) = true := by rfl) (hks : (backToKw pos (keywordEach kws X.env)).filterMap (·.1) = ks := by rfl)
    (hdb : (x == ("__debug__" : Str)) = false := by decide)
    (hpl : ((backTo pos (starEach [] X.env)).any (·.1) || (backToKw pos (keywordEach kws X.env)).any (·.1.isNone)) = false := by rfl) :
    PE X (.Call (.Name x p) [] kws pos) (tKw sp gV E0 tk) := by
  obtain ⟨f, fd, hm, hk, hb, F⟩ := c
  refine ⟨fun pins s σ H Q I h => ?_⟩
  refine wpAny_Call_Name_kw (ld_glob I hg hm ?_ hdb)
  refine PySem.W.callWith_KW0 (h₀ := X.base) I.ok.mod.kin hk hall (thn (hkw.run pos pins s σ H _ I h) fun ws s2 ⟨zs, H2, I2, rz, q2⟩ => ⟨I2.kIn, ?_⟩) hpl
  rw [hks]
  exact run_fnk F hr hb pass0 I2 .nil rz q2
/-- .. which may raise -/
def tKwS (sp : Sp) (gV : List V → List V → List V) (E : L2.St → XK) (tk : TA) : TE := fun σ H Q => tk σ H fun zs H2 => sp (gV [] zs) H2 Q (E σ)
theorem pe_calKS {E : L2.St → XK} (c : CalK (L2.CX X.prog X.w) X.prog X.w X.K X.mg X.base x k ps ks gU gV sp) (hr : Room k X.A) (hg : Gl X x) (hx : ∀ σ, PassesAt (L2.CX X.prog X.w) X σ (E σ))
    (hkw : PK X kws tk) (hall : (backToKw pos (keywordEach kws X.env)).all (·.1.isSome) = true := by rfl) (hks : (backToKw pos (keywordEach kws X.env)).filterMap (·.1) = ks := by rfl)
    (hdb : (x == ("__debug__" : Str)) = false := by decide)
    (hpl : ((backTo pos (starEach [] X.env)).any (·.1) || (backToKw pos (keywordEach kws X.env)).any (·.1.isNone)) = false := by rfl) :
    PE X (.Call (.Name x p) [] kws pos) (tKwS sp gV E tk) := by
  obtain ⟨f, fd, hm, hk, hb, F⟩ := c
  refine ⟨fun pins s σ H Q I h => ?_⟩
  refine wpAny_Call_Name_kw (ld_glob I hg hm ?_ hdb)
  refine PySem.W.callWith_KW0 (h₀ := X.base) I.ok.mod.kin hk hall (thn (hkw.run pos pins s σ H _ I h) fun us s1 ⟨zs, H1, I1, r, q⟩ => ⟨I1.kIn, ?_⟩) hpl
  rw [hks]
  have r2 := hb.rel (vs := []) (us := []) .nil r
  have hl : (gU [] us).length = ps.length := by rw [← r2.length]; exact F.len _ _ _ _ q
  refine wpAny_call (codeAny_mono (F.run X.A X.stack s1 H1 ⟨[], ks.zip us⟩ (gU [] us) _ Q (E σ) hr I1.env0 (hb.to s1 [] us I1.kIn hl) r2 q) fun r s' hq => ?_)
  cases r with
  | error e => exact hx σ pins H1 s1 e s' I1 hq
  | ok fl =>
    cases fl with
    | ret u => exact I1.after hq
    | next => exact False.elim hq
    | brk => exact False.elim hq
    | cont => exact False.elim hq
end
end Kw
end
section
/-! KwR7: name = {k: v for ..} on one line. -/
namespace L2
open PySem PySem.Spec PyProof.Rows
section
variable {X : Cx}
theorem ps_setDc {i : Nat} {y : Str} {py : Pos} {kx vx tg iter : Expr} {ifs : List Expr} {scope : Scope} {own : List (Str × Nat)} {pos spos : Pos} {wi : TI} {g : TG} {tt : TT} {tk tv : TE} (hc : X.calm = true) (hN : X.N.Nodup) (hy : X.N[i]? = some y) (hyl : X.env.scope.names.lookup y = some .local)
    (hsw : swapsWith (.DictComp kx vx [⟨tg, iter, ifs, 0⟩] scope pos) (some (.Name y py)) spos.line X.env = pure true) (hi : PI X tg iter wi) (ok : BlkOk X.N X.env.scope scope own)
    (hg : ∀ (s : Shared) (H : Hp) (C : Addr) (cl : List (Str × Addr)) (fp : List Addr), PG (X.blk s H scope (compEnvC scope cl C X.env) fp) tg g) (ht : ∀ (s : Shared) (H : Hp) (C : Addr) (cl : List (Str × Addr)) (fp : List Addr), PTs (X.blk s H scope (compEnvC scope cl C X.env) fp) ifs tt)
    (hk : ∀ (s : Shared) (H : Hp) (C : Addr) (cl : List (Str × Addr)) (fp : List Addr), PE (X.blk s H scope (compEnvC scope cl C X.env) fp) kx tk)
    (he : ∀ (s : Shared) (H : Hp) (C : Addr) (cl : List (Str × Addr)) (fp : List Addr), PE (X.blk s H scope (compEnvC scope cl C X.env) fp) vx tv) (hs : ∀ x, foldedSetIterable iter X.env x = pure x := by intro _; rfl) :
    PS X (.Assign [.Name y py] (.DictComp kx vx [⟨tg, iter, ifs, 0⟩] scope pos) spos) (tAsg (tDc wi g tt tk tv (own.map (·.2))) (gName i)) := by
  refine ⟨fun pins s σ H D I h => ?_⟩
  rw [exec_Assign_Name_used _ _ _ _ hsw]
  refine wpAny_bind (wpAny_standAt (wpAny_bind ?_))
  show wpAny _ X.A (do let _ ← comprehension (.DictComp kx vx [⟨tg, iter, ifs, 0⟩] scope pos) scope X.env (firstIterPos [⟨tg, iter, ifs, 0⟩] pos) _ false (eval iter X.env) (some (assign (.Name y py) X.env))) _ _ s
  have h : tDc wi g tt tk tv (own.map (·.2)) σ H (fun x H1 => gName i x σ H1 D.nx) := h
  refine wpAny_bind (thn (dc_core (Qf := fun _ s' => SP X pins D .next s') hc hN I hi ok hg ht hk he hs h fun L C s' m H' I' q hn f => ?_) fun _ s' hq => wpAny_pure (wpAny_pure hq))
  show wpAny _ _ (assign (.Name y py) X.env (.ref L)) _ _ _
  refine wpAny_assign_Name (store_ok2 (v := V.ref L) I' hN hy (.inl hyl) rfl (fun s2 I2 ⟨a, sb, ha⟩ => ?_) (.inr hyl))
  obtain ⟨f0, f1, f2, f3, f4, f5⟩ := f
  have haC : C ≠ a := by
    rcases ha with z | z
    · rw [z]; exact f1
    · exact fun e => f4 y a z e.symm
  refine ⟨m, hn.sameBut sb haC, fun h3 sb3 => ?_⟩
  exact ⟨_, H', I2.turned (t' := s2.toks) (fun b o hb e => (sb3.2 b hb).trans e) f0 f1 f3 f4 f5, q⟩
theorem swd_true {kx vx : Expr} {gs : List Comprehension} {scope : Scope} {pos py : Pos} {y : Str} {l : Nat} {env : Env} (hk : env.scope.kind = .function) (hy : env.scope.names.lookup y = some .local) (hl : (py.line == pos.line) = true)
    (ha : (scope.names.any fun (n, k) => n == y && (k == .local || k == .cell)) = false) : swapsWith (.DictComp kx vx gs scope pos) (some (.Name y py)) l env = pure true := by
  have ky : env.kindOf y = some .local := hy
  have hb : env.blockKind = .function := by unfold Env.blockKind; rw [hk]; rfl
  unfold swapsWith
  simp only [hb, ky, ha, Expr.pos, hl]
  rfl
end
end L2
end
section
/-! KwM1: ascending lists; things and their links (plain Lean). -/
namespace Kw
open PySem
/-! ### ascending lists -/
def Asc (xs : List Int) : Prop := xs.Pairwise (· < ·)
theorem Asc.nodup {xs : List Int} (h : Asc xs) : xs.Nodup := List.Pairwise.imp (fun h => by omega) h
theorem asc_ext : ∀ {xs ys : List Int}, Asc xs → Asc ys → (∀ k, k ∈ xs ↔ k ∈ ys) → xs = ys
  | [], [], _, _, _ => rfl
  | [], y :: ys, _, _, h => by have := (h y).2 (by simp); simp at this
  | x :: xs, [], _, _, h => by have := (h x).1 (by simp); simp at this
  | x :: xs, y :: ys, h1, h2, h => by
    have h1' := List.pairwise_cons.mp h1
    have h2' := List.pairwise_cons.mp h2
    have e : x = y := by
      rcases List.mem_cons.mp ((h x).1 (by simp)) with q | q
      · exact q
      · rcases List.mem_cons.mp ((h y).2 (by simp)) with q' | q'
        · exact q'.symm
        · have a := h1'.1 y q'
          have b := h2'.1 x q
          omega
    subst e
    have ih : xs = ys := asc_ext h1'.2 h2'.2 fun k => by
      constructor
      · intro q
        rcases List.mem_cons.mp ((h k).1 (List.mem_cons_of_mem _ q)) with z | z
        · have := h1'.1 k q
          omega
        · exact z
      · intro q
        rcases List.mem_cons.mp ((h k).2 (List.mem_cons_of_mem _ q)) with z | z
        · have := h2'.1 k q
          omega
        · exact z
    rw [ih]
/-- insertion, no twice -/
def ins (k : Int) : List Int → List Int
  | [] => [k]
  | x :: xs => if k < x then k :: x :: xs else if k = x then x :: xs else x :: ins k xs
def norm : List Int → List Int
  | [] => []
  | x :: xs => ins x (norm xs)
theorem mem_ins {k j : Int} : ∀ {xs : List Int}, j ∈ ins k xs ↔ j = k ∨ j ∈ xs
  | [] => by simp [ins]
  | x :: xs => by
    unfold ins
    split
    · simp
    · split
      · rename_i h1 h2
        subst h2
        simp
      · simp [mem_ins (xs := xs)]
        constructor
        · rintro (h | h | h)
          · exact .inr (.inl h)
          · exact .inl h
          · exact .inr (.inr h)
        · rintro (h | h | h)
          · exact .inr (.inl h)
          · exact .inl h
          · exact .inr (.inr h)
theorem asc_ins {k : Int} : ∀ {xs : List Int}, Asc xs → Asc (ins k xs)
  | [], _ => by simp [ins, Asc]
  | x :: xs, h => by
    have h' := List.pairwise_cons.mp h
    unfold ins
    split
    · rename_i q
      refine List.pairwise_cons.mpr ⟨fun y hy => ?_, h⟩
      rcases List.mem_cons.mp hy with e | e
      · rw [e]
        exact q
      · have := h'.1 y e
        omega
    · split
      · exact h
      · refine List.pairwise_cons.mpr ⟨fun y hy => ?_, asc_ins h'.2⟩
        rcases mem_ins.mp hy with e | e
        · rw [e]
          omega
        · exact h'.1 y e
theorem mem_norm {j : Int} : ∀ {xs : List Int}, j ∈ norm xs ↔ j ∈ xs
  | [] => by simp [norm]
  | x :: xs => by simp [norm, mem_ins, mem_norm (xs := xs)]
theorem asc_norm : ∀ xs : List Int, Asc (norm xs)
  | [] => List.Pairwise.nil
  | x :: xs => asc_ins (asc_norm xs)
theorem norm_eq {xs ys : List Int} (h : Asc ys) (m : ∀ k, k ∈ ys ↔ k ∈ xs) : ys = norm xs := asc_ext h (asc_norm xs) fun k => (m k).trans mem_norm.symm
theorem ins_len {k : Int} : ∀ xs : List Int, (ins k xs).length ≤ xs.length + 1
  | [] => by simp [ins]
  | x :: xs => by
    unfold ins
    split
    · simp
    · split
      · simp
      · have := ins_len (k := k) xs
        simp
        omega
theorem norm_len : ∀ xs : List Int, (norm xs).length ≤ xs.length
  | [] => Nat.le_refl _
  | x :: xs => by
    have h1 := ins_len (k := x) (norm xs)
    have h2 := norm_len xs
    simp only [norm, List.length_cons]
    omega
/-- sorted, no item twice: ascending -/
theorem asc_of {xs : List Int} (h : xs.Pairwise (· ≤ ·)) (n : xs.Nodup) : Asc xs := by
  induction xs with
  | nil => exact .nil
  | cons x xs ih =>
    have h1 := List.pairwise_cons.mp h
    have n1 := List.nodup_cons.mp n
    refine List.pairwise_cons.mpr ⟨fun y hy => ?_, ih h1.2 n1.2⟩
    have a := h1.1 y hy
    have b : x ≠ y := fun e => n1.1 (by rw [e]; exact hy)
    omega
theorem perm_asc {xs ys : List Int} (p : ys.Perm xs) (h : ys.Pairwise (· ≤ ·)) (n : xs.Nodup) : ys = norm xs := norm_eq (asc_of h (p.nodup_iff.mpr n)) fun _ => p.mem_iff
theorem norm_asc {xs : List Int} (h : Asc xs) : norm xs = xs := (norm_eq h fun _ => Iff.rfl).symm
theorem asc_filter {xs : List Int} (p : Int → Bool) (h : Asc xs) : Asc (xs.filter p) := List.Pairwise.filter _ h
/-! ### things -/
inductive Th where
  | blob (o : List Int)
  | tree (rows : List (Int × Int × Int))
  | commit (t : Int) (ps : List Int)
  | tag (n : Int)
def rowD (r : Int × Int × Int) : PyData := .tuple [.tuple [.int r.1], .int r.2.1, .int r.2.2]
def intsD (ns : List Int) : PyData := .tuple (ns.map .int)
def thD : Th → PyData
  | .blob o => .tuple [.str "blob", intsD o]
  | .tree rows => .tuple [.str "tree", .tuple (rows.map rowD)]
  | .commit t ps => .tuple [.str "commit", .int t, intsD ps, .int 1, .tuple []]
  | .tag n => .tuple [.str "tag", .int n, .tuple []]
def Th.word : Th → Str
  | .blob _ => "blob"
  | .tree _ => "tree"
  | .commit _ _ => "commit"
  | .tag _ => "tag"
def Th.links : Th → List Int
  | .blob _ => []
  | .tree rows => rows.map (·.2.2)
  | .commit t ps => t :: ps
  | .tag n => [n]
def allKinds : List Str := ["blob", "tree", "commit", "tag"]
def Th.kinds : Th → List (List Str)
  | .blob _ => []
  | .tree rows => rows.map fun r => if r.2.1 = 2 then ["tree"] else ["blob"]
  | .commit _ ps => ["tree"] :: ps.map fun _ => ["commit"]
  | .tag _ => [allKinds]
theorem Th.kinds_len (t : Th) : t.kinds.length = t.links.length := by
  cases t <;> simp [Th.kinds, Th.links]
/-- how small a drawn thing is -/
def Th.Ok : Th → Prop
  | .blob o => o.length ≤ 1 ∧ ∀ x ∈ o, 0 ≤ x ∧ x < 3
  | .tree rows => rows.length ≤ 3 ∧ ∀ r ∈ rows, (97 ≤ r.1 ∧ r.1 < 100) ∧ (0 ≤ r.2.1 ∧ r.2.1 < 3) ∧ 0 ≤ r.2.2 ∧ r.2.2 < 50
  | .commit t ps => ps.length ≤ 2 ∧ (0 ≤ t ∧ t < 50) ∧ ∀ p ∈ ps, 0 ≤ p ∧ p < 50
  | .tag n => 0 ≤ n ∧ n < 50
theorem Th.Ok.links {t : Th} (h : t.Ok) : t.links.length ≤ 3 ∧ ∀ l ∈ t.links, 0 ≤ l ∧ l < 50 := by
  cases t with
  | blob o => exact ⟨Nat.zero_le _, fun l hl => by simp [Th.links] at hl⟩
  | tree rows =>
    obtain ⟨h1, h2⟩ := h
    refine ⟨by simpa [Th.links] using h1, fun l hl => ?_⟩
    obtain ⟨r, hr, rfl⟩ := List.mem_map.mp hl
    exact (h2 r hr).2.2
  | commit t ps =>
    obtain ⟨h1, h2, h3⟩ := h
    refine ⟨by simp [Th.links]; omega, fun l hl => ?_⟩
    rcases List.mem_cons.mp hl with e | e
    · rw [e]
      exact h2
    · exact h3 l e
  | tag n =>
    refine ⟨by simp [Th.links], fun l hl => ?_⟩
    have e : l = n := by simpa [Th.links] using hl
    rw [e]
    exact h
abbrev Ths := List (Int × Th)
def names (ts : Ths) : List Int := ts.map (·.1)
def has (ts : Ths) (n : Int) : Bool := (names ts).contains n
def thOf : Ths → Int → Option Th
  | [], _ => none
  | p :: ts, n => if p.1 = n then some p.2 else thOf ts n
theorem has_iff {ts : Ths} {n : Int} : has ts n = true ↔ n ∈ names ts := by simp [has]
theorem thOf_some : ∀ {ts : Ths} {n : Int}, n ∈ names ts → ∃ t, thOf ts n = some t
  | [], _, h => by simp [names] at h
  | p :: ts, n, h => by
    unfold thOf
    by_cases e : p.1 = n
    · exact ⟨p.2, by rw [if_pos e]⟩
    · rw [if_neg e]
      refine thOf_some (ts := ts) ?_
      rcases List.mem_cons.mp (show n ∈ p.1 :: names ts from h) with q | q
      · exact absurd q.symm e
      · exact q
theorem thOf_mem : ∀ {ts : Ths} {n : Int} {t : Th}, thOf ts n = some t → (n, t) ∈ ts
  | p :: ts, n, t, h => by
    unfold thOf at h
    by_cases e : p.1 = n
    · rw [if_pos e] at h
      cases h
      rw [← e]
      exact List.mem_cons_self
    · rw [if_neg e] at h
      exact List.mem_cons_of_mem _ (thOf_mem h)
theorem thOf_in {ts : Ths} {n : Int} {t : Th} (h : thOf ts n = some t) : n ∈ names ts := List.mem_map.mpr ⟨_, thOf_mem h, rfl⟩
theorem thOf_of : ∀ {ts : Ths} {n : Int} {t : Th}, (names ts).Nodup → (n, t) ∈ ts → thOf ts n = some t
  | p :: ts, n, t, hn, h => by
    have hn' := List.nodup_cons.mp (show (p.1 :: names ts).Nodup from hn)
    unfold thOf
    rcases List.mem_cons.mp h with e | e
    · rw [← e, if_pos rfl]
    · have : p.1 ≠ n := fun z => hn'.1 (by rw [z]; exact List.mem_map.mpr ⟨_, e, rfl⟩)
      rw [if_neg this]
      exact thOf_of hn'.2 e
theorem thOf_none {ts : Ths} {n : Int} (h : n ∉ names ts) : thOf ts n = none := by
  cases e : thOf ts n with
  | none => rfl
  | some t => exact absurd (thOf_in e) h
/-- the things of a run: no name twice, few, small -/
structure TsOk (ts : Ths) : Prop where
  nd : (names ts).Nodup
  len : ts.length ≤ 9
  nm : ∀ n ∈ names ts, 0 ≤ n ∧ n < 50
  ok : ∀ p ∈ ts, p.2.Ok
/-- the links of a name that are there -/
def there (ts : Ths) (n : Int) : List Int := match thOf ts n with
  | some t => (norm t.links).filter (has ts)
  | none => []
theorem there_asc (ts : Ths) (n : Int) : Asc (there ts n) := by
  unfold there
  split
  · exact asc_filter _ (asc_norm _)
  · exact .nil
theorem there_names {ts : Ths} {n l : Int} (h : l ∈ there ts n) : l ∈ names ts := by
  unfold there at h
  split at h
  · exact has_iff.mp (List.mem_filter.mp h).2
  · cases h
theorem there_len {ts : Ths} (h : TsOk ts) (n : Int) : (there ts n).length ≤ 3 := by
  unfold there
  split
  · rename_i t e
    have a := List.length_filter_le (has ts) (norm t.links)
    have b := norm_len t.links
    have c : t.links.length ≤ 3 := (h.ok _ (thOf_mem e)).links.1
    omega
  · exact Nat.zero_le _
end Kw
end
section
/-! KwE: more of what evaluates to what: calls, types, new lists. -/
namespace Kw
open PySem PySem.Spec PyProof.Rows L2 Evl
section
variable {K : PySem.W.Frag} {σ : L2.St} {H H' H1 : Hp} {ta tb te : TE} {t u : TT} {x y z v : V} {r : R2} {P P' R : PV}
theorem ret_same {Q : VK} (q : RetP H P Q) (h : P v H) : Q v H := q v H (Ex.refl H) h
theorem ty_t {a : Addr} {xs : List V} (h : SqT K H a xs) : TyX K H (.ref a) (.type "tuple") := by
  rcases h with (h | ⟨o, h⟩) | ⟨o, its, n, h1, h2, h3, h4, h5⟩
  · exact .base (.tup h)
  · exact .fTuple h
  · exact .kTuple h1 h2
theorem ty_l {a : Addr} {xs : List V} (h : SqL K H a xs) : TyX K H (.ref a) (.type "list") := by
  rcases h with (h | ⟨o, h⟩) | ⟨o, its, n, h1, h2, h3, h4, h5⟩
  · exact .base (.lst h)
  · exact .base (.frz h)
  · exact .kList h1 h2
/-- a call that gives one value -/
theorem ev_cal {sp : Sp} {E : XK} {ta : TA} {dvs : List V} {P : List V → Hp → Prop} (h : EvPA ta σ H P) (k : ∀ vs H1, Ex H H1 → P vs H1 → ∀ Q : VK, (∀ H2, Ex H1 H2 → Q v H2) → sp (vs ++ dvs) H1 Q E) : Ev (tCall sp dvs E ta) σ H v := fun H1 e Q q =>
  h H1 e _ fun vs H2 e2 p => k vs H2 (e.trans e2) p Q fun H3 e3 => q H3 (e2.trans e3)
theorem ev_cb {rr : List V → Hp → VK → Prop} {ta : TA} {P : List V → Hp → Prop} (h : EvPA ta σ H P) (k : ∀ vs H1, Ex H H1 → P vs H1 → ∀ Q : VK, (∀ H2, Ex H1 H2 → Q v H2) → rr vs H1 Q) : Ev (tCB rr ta) σ H v := fun H1 e Q q =>
  h H1 e _ fun vs H2 e2 p => k vs H2 (e.trans e2) p Q fun H3 e3 => q H3 (e2.trans e3)
/-- arguments that are told -/
theorem ea_epa {ta : TA} {vs : List V} {P : List V → Hp → Prop} (h : EvA ta σ H vs) (k : ∀ H1, Ex H H1 → P vs H1) : EvPA ta σ H P := fun H1 e Q q => h H1 e _ fun H2 e2 => q vs H2 e2 (k H2 (e.trans e2))
theorem ea_one (h : Ev te σ H x) : EvA (tCons te tNil) σ H [x] := ea_cons h ea_nil
theorem ea_two (h : Ev te σ H x) (h2 : Ev tb σ H y) : EvA (tCons te (tCons tb tNil)) σ H [x, y] := ea_cons h (ea_cons h2 ea_nil)
/-- isinstance(x, T) -/
theorem ev_isi {tx : Value} {n : String} {b : Bool} (h : Ev ta σ H x) (hx : ∀ H1, Ex H H1 → TyX K H1 x tx) (hk : PySem.W.kitOne K tx (.type n) = some b) : Ev (tCB (rIsi K) (tCons ta (tCons (tC (.ty n)) tNil))) σ H (.bl b) := fun H1 e Q q =>
  h H1 e _ fun H2 e2 => ⟨x, .ty n, tx, .type n, b, rfl, .ty n, hx H2 (e.trans e2), hk, q H2 e2⟩
theorem ev_truth {b : Bool} (h : Ev te σ H (.bl b)) : EvT (tB te) σ H b := et_B h
/-- a new list -/
def NewD (K : PySem.W.Frag) (H : Hp) (ds : List PyData) : PV := fun v H' => ∃ p xs, v = .ref p ∧ H p = none ∧ H' p = some (.lst xs) ∧ DpAll K H' xs ds
theorem up_newD {H0 : Hp} {ds : List PyData} : Up (NewD K H0 ds) := fun v H H' e h => by
  obtain ⟨p, xs, h1, h2, h3, h4⟩ := h
  exact ⟨p, xs, h1, h2, e p _ h3, dpA_ex e _ _ h4⟩
theorem NewD.dp {H0 : Hp} {ds : List PyData} (h : NewD K H0 ds v H) : Dp K H v (.list ds) := by
  obtain ⟨p, xs, rfl, h2, h3, h4⟩ := h
  exact .lst (sq_of h3) h4
theorem NewD.back {H0 : Hp} {ds : List PyData} (e : Ex H0 H) (h : NewD K H ds v H') : NewD K H0 ds v H' := by
  obtain ⟨p, xs, h1, h2, h3, h4⟩ := h
  exact ⟨p, xs, h1, fresh_back e h2, h3, h4⟩
theorem NewD.ints {H0 : Hp} {ns : List Int} (h : NewD K H0 (ns.map .int) v H) : ∃ p, v = .ref p ∧ H0 p = none ∧ H p = some (.lst (ns.map V.int)) := by
  obtain ⟨p, xs, h1, h2, h3, h4⟩ := h
  rw [ints_dpA h4] at h3
  exact ⟨p, h1, h2, h3⟩
theorem newD_ints {H0 : Hp} {p : Addr} {ns : List Int} (h1 : H0 p = none) (h2 : H p = some (.lst (ns.map V.int))) : NewD K H0 (ns.map .int) (.ref p) H := ⟨p, _, rfl, h1, h2, dpA_ints ns⟩
/-- [a, b, ..] -/
theorem en_lst {ta : TA} {ds : List PyData} (h : EvDs K ta σ H ds) (hl : ds.length ≤ 100000) : EvP (tLst ta) σ H (NewD K H ds) := fun H1 e Q q =>
  h H1 e _ fun vs H2 e2 p => ⟨sz_of (by rw [dpA_len p]; exact hl), fun a ha => q (.ref a) _ (e2.trans (Ex.new ha)) ⟨a, vs, rfl, fresh_back (e.trans e2) ha, upd_same, dpA_ex (Ex.new ha) _ _ p⟩⟩
/-- tuple(..) of a list or of a tuple -/
def rTupS (K : PySem.W.Frag) : List V → Hp → VK → Prop := fun xs H Q => ∃ p ys, xs = [.ref p] ∧ ((SqL K H p ys ∧ ∀ l, H l = none → Q (.ref l) (upd H l (.tup ys))) ∨ (SqT K H p ys ∧ Q (.ref p) H))
theorem ed_tupL {ds : List PyData} (h : EvD K te σ H (.list ds)) : EvD K (tCB (rTupS K) (tCons te tNil)) σ H (.tuple ds) := fun H1 e Q q =>
  h H1 e _ fun v H2 e2 p => by
    obtain ⟨a, xs, rfl, hs, ha⟩ := dp_lst p
    exact ⟨a, xs, rfl, .inl ⟨hs, fun l hl => q (.ref l) _ (e2.trans (Ex.new hl)) (.tup (st_of upd_same) (dpA_ex (Ex.new hl) _ _ ha))⟩⟩
theorem ed_tupT {ds : List PyData} (h : EvD K te σ H (.tuple ds)) : EvD K (tCB (rTupS K) (tCons te tNil)) σ H (.tuple ds) := fun H1 e Q q =>
  h H1 e _ fun v H2 e2 p => by
    obtain ⟨a, xs, rfl, hs, ha⟩ := dp_tup p
    exact ⟨a, xs, rfl, .inr ⟨hs, q (.ref a) _ e2 (.tup hs ha)⟩⟩
/-- list(..) of a list or of a tuple -/
theorem en_list {ds : List PyData} (h : EvP te σ H fun v H1 => Dp K H1 v (.list ds) ∨ Dp K H1 v (.tuple ds)) : EvP (tCB (rListS K) (tCons te tNil)) σ H (NewD K H ds) := fun H1 e Q q =>
  h H1 e _ fun v H2 e2 p => by
    rcases p with p | p
    · obtain ⟨a, xs, rfl, hs, ha⟩ := dp_lst p
      exact ⟨a, xs, rfl, .inl hs, fun l hl => q (.ref l) _ (e2.trans (Ex.new hl)) ⟨l, xs, rfl, fresh_back (e.trans e2) hl, upd_same, dpA_ex (Ex.new hl) _ _ ha⟩⟩
    · obtain ⟨a, xs, rfl, hs, ha⟩ := dp_tup p
      exact ⟨a, xs, rfl, .inr hs, fun l hl => q (.ref l) _ (e2.trans (Ex.new hl)) ⟨l, xs, rfl, fresh_back (e.trans e2) hl, upd_same, dpA_ex (Ex.new hl) _ _ ha⟩⟩
/-- len of a list or of a tuple -/
theorem ev_lenD {ds : List PyData} (h : EvP te σ H fun v H1 => Dp K H1 v (.list ds) ∨ Dp K H1 v (.tuple ds)) : Ev (tCB (rLenS K) (tCons te tNil)) σ H (.int (ds.length : Int)) := fun H1 e Q q =>
  h H1 e _ fun v H2 e2 p => by
    rcases p with p | p
    · obtain ⟨a, xs, rfl, hs, ha⟩ := dp_lst p
      exact ⟨a, xs, rfl, .inl hs, by rw [dpA_len ha]; exact q H2 e2⟩
    · obtain ⟨a, xs, rfl, hs, ha⟩ := dp_tup p
      exact ⟨a, xs, rfl, .inr hs, by rw [dpA_len ha]; exact q H2 e2⟩
theorem ev_lenT {ds : List PyData} (h : EvD K te σ H (.tuple ds)) : Ev (tCB (rLenS K) (tCons te tNil)) σ H (.int (ds.length : Int)) := ev_lenD (h.imp fun _ _ _ p => .inr p)
theorem ev_lenL {ds : List PyData} (h : EvD K te σ H (.list ds)) : Ev (tCB (rLenS K) (tCons te tNil)) σ H (.int (ds.length : Int)) := ev_lenD (h.imp fun _ _ _ p => .inl p)
/-- t + u -/
theorem ed_cat {ds es : List PyData} (h : EvD K ta σ H (.tuple ds)) (h' : EvD K tb σ H (.tuple es)) (hz : ds.length + es.length ≤ 100000) : EvD K (tOp (rCatA K) ta tb) σ H (.tuple (ds ++ es)) := fun H1 e Q q =>
  h H1 e _ fun v H2 e2 p => h' H2 (e.trans e2) _ fun w H3 e3 p' => by
    obtain ⟨a, xs, rfl, hs, ha⟩ := dp_tup (dp_ex e3 _ _ p)
    obtain ⟨b, ys, rfl, hs', ha'⟩ := dp_tup p'
    refine ⟨a, b, xs, ys, rfl, rfl, hs, hs', sz_of (by rw [dpA_len ha, dpA_len ha']; exact hz), fun hx => ?_, fun _ hy => ?_, fun _ _ l hl => ?_⟩
    · subst hx
      cases ha
      exact q _ H3 (e2.trans e3) (.tup hs' ha')
    · subst hy
      cases ha'
      exact q _ H3 (e2.trans e3) (by
        show Dp K H3 _ (.tuple (ds ++ []))
        rw [List.append_nil]
        exact .tup hs ha)
    · exact q _ _ ((e2.trans e3).trans (Ex.new hl)) (.tup (st_of upd_same) (dpA_app (dpA_ex (Ex.new hl) _ _ ha) (dpA_ex (Ex.new hl) _ _ ha')))
/-- a ahead of a name's first value -/
theorem ev_is' (h : Ev te σ H x) (e : x = y) : Ev te σ H y := by
  rw [← e]
  exact h
end
end Kw
end
section
/-! KwD1: is_integer .. need_octets. -/
namespace Kw
open PySem PySem.Spec PyProof.Rows L2 Evl
def spIsInt : Sp := fun vs H Q _ => ∃ n : Int, vs = [.int n] ∧ ∀ H', Ex H H' → Q (.bl true) H'
def spIsNum : Sp := fun vs H Q _ => ∃ n : Int, vs = [.int n] ∧ 0 ≤ n ∧ ∀ H', Ex H H' → Q (.bl true) H'
def spIsBelow : Sp := fun vs H Q _ => ∃ n m : Int, vs = [.int n, .int m] ∧ 0 ≤ n ∧ ∀ H', Ex H H' → Q (.bl (decide (n < m))) H'
def spIsSeq (K : PySem.W.Frag) : Sp := fun vs H Q _ => ∃ a : Addr, vs = [.ref a] ∧ ((∃ xs, SqT K H a xs) ∨ ∃ xs, SqL K H a xs) ∧ ∀ H', Ex H H' → Q (.bl true) H'
def spNeed (K : PySem.W.Frag) : Sp := fun vs H Q _ => ∃ (a : Addr) (ns : List Int), vs = [.ref a] ∧ SqT K H a (ns.map V.int) ∧ (∀ n ∈ ns, 0 ≤ n ∧ n < 256) ∧ ∀ H', Ex H H' → Q (.ref a) H'
theorem q_forE {K : PySem.W.Frag} {σ : L2.St} {H : Hp} {D : Ends} {tu tz : TS} {g : TG} {ta : TA} {a : Addr} {xs : List V} (h : EvA ta σ H [.ref a]) (hx : SqT K H a xs) (Pv : Nat → L2.St → Hp → Prop) (h0 : ∀ H1, Ex H H1 → Pv 0 σ H1) (hl : ∀ i σ' H', Pv i σ' H' → SqT K H' a xs)
    (hs : ∀ (i : Nat) x T σ' H', xs[i]? = some x → Pv i σ' H' → H' T = none → g (.ref T) σ' (upd H' T (.tup [.int (i : Nat), x])) fun σ2 H2 => tu { D with nx := Pv (i + 1), ct := Pv (i + 1), bk := tz D } σ2 H2) (hd : ∀ σ' H', Pv xs.length σ' H' → tz D σ' H') : tSeq (tFor (iEnumT K ta) g tu) tz D σ H :=
  h H (Ex.refl H) _ fun H1 e => ⟨a, xs, rfl, ex_t e hx, for_enumT (D := { D with nx := tz D }) Pv (h0 H1 e) hl hs hd⟩
section
variable {P : Program} {w : World} {K : PySem.W.Frag} {mg : Str → Option Value} {base : Heap}
theorem sc_is_integer : FnScope ["value"] ["value"] (defScope (top 7)) := ⟨rfl, rfl, rfl, by decide +kernel, rfl, by decide +kernel, by decide +kernel⟩
theorem cal_is_integer (T : Tx K mg) : Cal P w K mg base "is_integer" 1 ["value"] spIsInt := by
  obtain ⟨f, fd, F, hm⟩ := T.fn 0 "is_integer" (top 7) rfl
  refine cal_of F hm (fun _ _ _ _ _ _ us hl => match us, hl with | [_], _ => rfl) (F.ok sc_is_integer (fun vs H Q E h => by obtain ⟨_,  rfl, _⟩ := h <;> rfl) (fun cdv A outer s H vs Q E hr h => ⟨_, PSs.nox (pss_one (ps_ret (pe_and (pe_callB call_isi rfl (T.fr "isinstance" (by decide)) boot_isinstance (pa_cons (pv 0) (pa_cons (pe_bltn (v := .ty "int") rfl (T.fr "int" (by decide)) (by rfl) rfl) pa_nil))) (pe_one (pe_not (pe_callB call_isi rfl (T.fr "isinstance" (by decide)) boot_isinstance (pa_cons (pv 0) (pa_cons (pe_bltn (v := .ty "bool") rfl (T.fr "bool" (by decide)) (by rfl) rfl) pa_nil)))))))), ?_⟩))
  obtain ⟨n, rfl, hQ⟩ := h
  have hv : ∀ H1, Ev (tVar 0) (start ["value"] [V.int n]) H1 (V.int n) := fun H1 => ev_var rfl
  refine s_ret (v := .bl true) (ev_is (ev_andV (a := true) (b := true) (ev_isi (hv H) (fun H1 _ => .base (.int n)) (kit_ty (by decide +kernel))) (fun _ => ?_)) rfl) (fun H1 e => hQ H1 e)
  exact ev_is (ev_notV (ev_isi (b := false) (hv H) (fun H1 _ => .base (.int n)) (kit_ty (by decide +kernel)))) rfl
theorem sc_is_number : FnScope ["value"] ["value"] (defScope (top 8)) := ⟨rfl, rfl, rfl, by decide +kernel, rfl, by decide +kernel, by decide +kernel⟩
theorem cal_is_number (T : Tx K mg) (c_is_integer : Cal P w K mg base "is_integer" 1 ["value"] spIsInt) : Cal P w K mg base "is_number" 2 ["value"] spIsNum := by
  obtain ⟨f, fd, F, hm⟩ := T.fn 1 "is_number" (top 8) rfl
  refine cal_of F hm (fun _ _ _ _ _ _ us hl => match us, hl with | [_], _ => rfl) (F.ok sc_is_number (fun vs H Q E h => by obtain ⟨_,  rfl, _⟩ := h <;> rfl) (fun cdv A outer s H vs Q E hr h => ⟨_, PSs.nox (pss_one (ps_ret (pe_and (pe_cal c_is_integer (hr.mono (by decide)) rfl (pa_cons (pv 0) pa_nil)) (pe_one (pe_cmpR op_ge (pv 0) pe_int (nomark _)))))), ?_⟩))
  obtain ⟨n, rfl, hn, hQ⟩ := h
  refine s_ret (v := .bl true) (ev_is (ev_andV (a := true) (b := true) (ev_cal (P := fun vs _ => vs = [.int n]) (ea_epa (ea_one (ev_var rfl)) fun _ _ => rfl) (fun vs H1 e p Q q => ⟨n, by rw [p] <;> rfl, q⟩)) (fun _ => ?_)) rfl) (fun H1 e => hQ H1 e)
  exact ev_is (ev_op (ev_var rfl) ev_c rv_I0) (congrArg V.bl (decide_eq_true hn))
theorem sc_is_below : FnScope ["value", "most"] ["value", "most"] (defScope (top 9)) := ⟨rfl, rfl, rfl, by decide +kernel, rfl, by decide +kernel, by decide +kernel⟩
theorem cal_is_below (T : Tx K mg) (c_is_number : Cal P w K mg base "is_number" 2 ["value"] spIsNum) : Cal P w K mg base "is_below" 3 ["value", "most"] spIsBelow := by
  obtain ⟨f, fd, F, hm⟩ := T.fn 2 "is_below" (top 9) rfl
  refine cal_of F hm (fun _ _ _ _ _ _ us hl => match us, hl with | [_, _], _ => rfl) (F.ok sc_is_below (fun vs H Q E h => by obtain ⟨_, _,  rfl, _⟩ := h <;> rfl) (fun cdv A outer s H vs Q E hr h => ⟨_, PSs.nox (pss_one (ps_ret (pe_and (pe_cal c_is_number (hr.mono (by decide)) rfl (pa_cons (pv 0) pa_nil)) (pe_one (pe_cmpR op_lt (pv 0) (pv 1) (nomark _)))))), ?_⟩))
  obtain ⟨n, m, rfl, hn, hQ⟩ := h
  refine s_ret (v := .bl (decide (n < m))) (ev_is (ev_andV (a := true) (b := decide (n < m)) (ev_cal (P := fun vs _ => vs = [.int n]) (ea_epa (ea_one (ev_var rfl)) fun _ _ => rfl) (fun vs H1 e p Q q => ⟨n, by rw [p] <;> rfl, hn, q⟩)) (fun _ => ?_)) rfl) (fun H1 e => hQ H1 e)
  exact ev_op (ev_var rfl) (ev_var rfl) rv_I0
theorem sc_is_sequence : FnScope ["value"] ["value"] (defScope (top 10)) := ⟨rfl, rfl, rfl, by decide +kernel, rfl, by decide +kernel, by decide +kernel⟩
theorem cal_is_sequence (T : Tx K mg) : Cal P w K mg base "is_sequence" 1 ["value"] (spIsSeq K) := by
  obtain ⟨f, fd, F, hm⟩ := T.fn 3 "is_sequence" (top 10) rfl
  refine cal_of F hm (fun _ _ _ _ _ _ us hl => match us, hl with | [_], _ => rfl) (F.ok sc_is_sequence (fun vs H Q E h => by obtain ⟨_,  rfl, _⟩ := h <;> rfl) (fun cdv A outer s H vs Q E hr h => ⟨_, PSs.nox (pss_one (ps_ret (pe_callB call_isiT rfl (T.fr "isinstance" (by decide)) boot_isinstance (pa_cons (pv 0) (pa_cons (pe_tup (pa_cons (pe_bltn (v := .ty "list") rfl (T.fr "list" (by decide)) (by rfl) rfl) (pa_cons (pe_bltn (v := .ty "tuple") rfl (T.fr "tuple" (by decide)) (by rfl) rfl) pa_nil))) pa_nil))))), ?_⟩))
  obtain ⟨a, rfl, ha, hQ⟩ := h
  have kt : ∀ t : Value, (t = .type "tuple" ∨ t = .type "list") → PySem.W.kitAny K t [.type "list", .type "tuple"] = some true := fun t ht => by
    rcases ht with rfl | rfl
    · exact kitAny_cons (b := false) (kit_ty (by decide +kernel)) (fun _ => kitAny_cons (b := true) (kit_ty (by decide +kernel)) (fun z => by cases z) fun _ => rfl) fun z => by cases z
    · exact kitAny_cons (b := true) (kit_ty (by decide +kernel)) (fun z => by cases z) fun _ => rfl
  have tx : ∃ t : Value, (t = .type "tuple" ∨ t = .type "list") ∧ ∀ H1, Ex H H1 → TyX K H1 (.ref a) t := by
    rcases ha with ⟨xs, h⟩ | ⟨xs, h⟩
    · exact ⟨_, .inl rfl, fun H1 e => ty_t (ex_t e h)⟩
    · exact ⟨_, .inr rfl, fun H1 e => ty_l (ex_l e h)⟩
  obtain ⟨t, ht, hx⟩ := tx
  refine s_ret (v := .bl true) (fun H1 e Q q => ?_) (fun H1 e => hQ H1 e)
  refine ⟨_, rfl, by show 2 ≤ sizeLine; decide, fun T hT => ⟨.ref a, T, _, t, _, true, rfl, upd_same, .cons (.ty _) (.cons (.ty _) .nil), hx _ (e.trans (Ex.new hT)), kt t ht, q _ (Ex.new hT)⟩⟩
theorem sc_need_octets : FnScope ["value", "at", "octet"] ["value"] (defScope (top 11)) := ⟨rfl, rfl, rfl, by decide +kernel, rfl, by decide +kernel, by decide +kernel⟩
theorem cal_need_octets (T : Tx K mg) (c_is_below : Cal P w K mg base "is_below" 3 ["value", "most"] spIsBelow) (c_is_sequence : Cal P w K mg base "is_sequence" 1 ["value"] (spIsSeq K)) : Cal P w K mg base "need_octets" 4 ["value"] (spNeed K) := by
  obtain ⟨f, fd, F, hm⟩ := T.fn 4 "need_octets" (top 11) rfl
  obtain ⟨tO, hOct⟩ := T.gOct
  refine cal_of F hm (fun _ _ _ _ _ _ us hl => match us, hl with | [_], _ => rfl) (F.ok sc_need_octets (fun vs H Q E h => by obtain ⟨_, _,  rfl, _⟩ := h <;> rfl) (fun cdv A outer s H vs Q E hr h => ⟨_, PSs.nox (pss_cons (ps_if (pt_not (pt_val (pe_cal c_is_sequence (hr.mono (by decide)) rfl (pa_cons (pv 0) pa_nil)))) (pss_one ps_never) pss_nil)
      (pss_cons (ps_for PassesOwn.never rfl (pi_enumT (by rfl) (T.fr "enumerate" (by decide)) (pa_cons (pv 0) pa_nil)) (pg_tup rfl (pgs_cons (pg_name (i := 1) sc_need_octets.nd rfl (.inl rfl)) (pgs_cons (pg_name (i := 2) sc_need_octets.nd rfl (.inl rfl)) pgs_nil))) (pss_one (ps_if (pt_not (pt_val (pe_cal c_is_below (hr.mono (by decide)) rfl (pa_cons (pv 2) (pa_cons (pe_glob (v := .int 256) rfl hOct ⟨_, rfl⟩) pa_nil))))) (pss_one ps_never) pss_nil)))
      (pss_one (ps_ret (pe_callTy call_tuple_of rfl (T.fr "tuple" (by decide)) boot_tuple (pa_cons (pv 0) pa_nil)))))), ?_⟩))
  obtain ⟨a, ns, rfl, ha, hn, hQ⟩ := h
  refine q_when (b := false) (et_is (et_not (et_B (ev_cal (v := .bl true) (P := fun vs _ => vs = [.ref a]) (ea_epa (ea_one (ev_var rfl)) fun _ _ => rfl) (fun vs H1 e p Q q => ⟨a, by rw [p] <;> rfl, .inl ⟨_, ex_t e ha⟩, q⟩)))) rfl) (fun z => by cases z) (fun _ H1 e1 => ?_)
  refine q_forE (ea_one (ev_var rfl)) (ex_t e1 ha) (fun i σ H' => σ[0]? = some (some (.ref a)) ∧ σ.length = 3 ∧ Ex H H') (fun H2 e2 => ⟨rfl, rfl, e1.trans e2⟩) (fun i σ H' p => ex_t p.2.2 ha) (fun i x T0 σ' H' hx p hT => ?_) (fun σ' H' p => ?_)
  · obtain ⟨n, hn1, rfl⟩ : ∃ n, ns[i]? = some n ∧ V.int n = x := by simpa using hx
    obtain ⟨p1, p2, p3⟩ := p
    refine ⟨T0, _, rfl, st_of upd_same, rfl, _, _, rfl, _, _, rfl, rfl, ?_⟩
    have hb := hn n (List.mem_of_getElem? hn1)
    refine s_when (b := false) (et_is (et_not (et_B (ev_cal (v := .bl true) (P := fun vs _ => vs = [.int n, .int 256]) (ea_epa (ea_two (ev_var (v := .int n) ?_) ev_c) fun _ _ => rfl) (fun vs H1 e p Q q => ⟨n, 256, by rw [p] <;> rfl, hb.1, by rw [decide_eq_true hb.2]; exact q⟩)))) rfl) (fun z => by cases z) (fun _ H2 e2 => ?_)
    · rw [List.getElem?_set_self (by simp [p2])]
    · exact ⟨by rw [List.getElem?_set_ne (by decide), List.getElem?_set_ne (by decide)]; exact p1, by simp [p2], (p3.trans (Ex.new hT)).trans e2⟩
  · refine s_ret (v := .ref a) ?_ (fun H2 e2 => hQ H2 (p.2.2.trans e2))
    exact fun H2 e2 Q q => ⟨_, p.1, a, ns.map V.int, rfl, .inr ⟨ex_t (p.2.2.trans e2) ha, q H2 (Ex.refl H2)⟩⟩
end
end Kw
end
section
/-! KwD2: figures_of .. write_row. -/
namespace Kw
open PySem PySem.Spec PyProof.Rows L2 Evl
def figs (n : Int) : List Int := if n = 0 then [] else [n]
def wnum (n : Int) : List Int := ((figs n).length : Int) :: figs n
def woct (ns : List Int) : List Int := wnum ns.length ++ ns
def wrow (nss : List (List Int)) : List Int := wnum nss.length ++ (nss.map woct).flatten
theorem figs_len (n : Int) : (figs n).length ≤ 1 := by
  unfold figs
  split <;> simp
theorem wnum_len (n : Int) : (wnum n).length ≤ 2 := by
  have := figs_len n
  simp only [wnum, List.length_cons]
  omega
def spFig (K : PySem.W.Frag) : Sp := fun vs H Q _ => ∃ n : Int, vs = [.int n] ∧ (0 ≤ n ∧ n < 256) ∧ RetP H (fun v H' => Dp K H' v (intsD (figs n))) Q
def spWNum (K : PySem.W.Frag) : Sp := fun vs H Q _ => ∃ n : Int, vs = [.int n] ∧ (0 ≤ n ∧ n < 256) ∧ RetP H (fun v H' => Dp K H' v (intsD (wnum n))) Q
def spWOct (K : PySem.W.Frag) : Sp := fun vs H Q _ => ∃ (v : V) (ns : List Int), vs = [v] ∧ Dp K H v (intsD ns) ∧ (∀ n ∈ ns, 0 ≤ n ∧ n < 256) ∧ ns.length < 256 ∧ RetP H (fun v H' => Dp K H' v (intsD (woct ns))) Q
def spWRow (K : PySem.W.Frag) : Sp := fun vs H Q _ => ∃ (v : V) (nss : List (List Int)), vs = [v] ∧ Dp K H v (.list (nss.map intsD)) ∧ (∀ ns ∈ nss, (∀ n ∈ ns, 0 ≤ n ∧ n < 256) ∧ ns.length < 256) ∧ nss.length < 256 ∧ RetP H (fun v H' => Dp K H' v (intsD (wrow nss))) Q
theorem intsD_app (a b : List Int) : intsD (a ++ b) = .tuple (a.map .int ++ b.map .int) := by simp [intsD]
section
variable {P : Program} {w : World} {K : PySem.W.Frag} {mg : Str → Option Value} {base : Heap}
theorem sc_figures_of : FnScope ["number", "found"] ["number"] (defScope (top 14)) := ⟨rfl, rfl, rfl, by decide +kernel, rfl, by decide +kernel, by decide +kernel⟩
theorem cal_figures_of (T : Tx K mg) : Cal P w K mg base "figures_of" 1 ["number"] (spFig K) := by
  obtain ⟨f, fd, F, hm⟩ := T.fn 5 "figures_of" (top 14) rfl
  obtain ⟨tF, hFig⟩ := T.gFig
  obtain ⟨tO, hOct⟩ := T.gOct
  refine cal_of F hm (fun _ _ _ _ _ _ us hl => match us, hl with | [_], _ => rfl) (F.ok sc_figures_of (fun vs H Q E h => by obtain ⟨_,  rfl, _⟩ := h <;> rfl) (fun cdv A outer s H vs Q E hr h => ⟨_, PSs.nox (pss_cons (ps_set (i := 1) sc_figures_of.nd rfl (.inl rfl) (pe_lst pa_nil))
      (pss_cons (ps_while PassesOwn.never (PW.pt (pw_and (pt_cmpR op_gt (pv 0) pe_int (nomark _)) (pw_and1 (pt_cmpR op_le (pe_callB call_len_seq rfl (T.fr "len" (by decide)) boot_len (pa_cons (pv 1) pa_nil)) (pe_glob (v := .int 200) rfl hFig ⟨_, rfl⟩) (nomark _))))) (pss_cons (ps_expr (pe_bm PySem.F.plainAttrs_list PySem.F.slot_list_append PySem.F.type_list_append mt_append (pv 1) (pa_cons (pe_op op_mod (pv 0) (pe_glob (v := .int 256) rfl hOct ⟨_, rfl⟩)) pa_nil)))
      (pss_one (ps_aug (i := 0) sc_figures_of.nd rfl (.inl rfl) (pe_glob (v := .int 256) rfl hOct ⟨_, rfl⟩) iop_fdiv))))
      (pss_one (ps_ret (pe_callTy call_tuple_of rfl (T.fr "tuple" (by decide)) boot_tuple (pa_cons (pe_revL (pv 1)) pa_nil)))))), ?_⟩))
  obtain ⟨n, rfl, hn, hQ⟩ := h
  refine q_asgP (en_lst (K := K) eds_nil (by simp)) (fun v1 H1 e1 hv1 => ?_)
  obtain ⟨p, xs, rfl, np, hp, hxs⟩ := hv1
  cases hxs
  -- the state: not begun, done
  refine q_while (fun m σ H' => ((m = 1 ∧ n ≠ 0 ∧ σ = [some (.int n), some (.ref p)] ∧ H' p = some (.lst [])) ∨ (m = 0 ∧ σ = [some (.int 0), some (.ref p)] ∧ H' p = some (.lst ((figs n).map V.int)))) ∧ Ex H H') (if n = 0 then 0 else 1) ?_ (fun m σ H' hw => ?_)
  · refine ⟨?_, e1⟩
    by_cases h0 : n = 0
    · refine .inr ⟨by rw [if_pos h0], ?_, ?_⟩
      · subst h0
        rfl
      · rw [hp, figs, if_pos h0] <;> rfl
    · exact .inl ⟨by rw [if_neg h0], h0, rfl, hp⟩
  · obtain ⟨hw, eH⟩ := hw
    rcases hw with ⟨rfl, h0, rfl, hp'⟩ | ⟨rfl, rfl, hp'⟩
    · refine ⟨true, ?_, fun _ H2 e2 => ⟨fun σ2 H3 => σ2 = [some (.int 0), some (.ref p)] ∧ H3 p = some (.lst ((figs n).map V.int)) ∧ Ex H H3, fun σ2 H3 q => ⟨0, by decide, .inr ⟨rfl, q.1, q.2.1⟩, q.2.2⟩, ?_⟩, fun z => (by cases z)⟩
      · refine et_is (et_and (a := true) (b := true) (et_is (et_test (ev_op (ev_var rfl) ev_c rv_I0)) (decide_eq_true (by omega))) fun _ => et_is (et_test (ev_op (ev_len (ev_var rfl) (sq_of hp')) ev_c rv_I0)) (by decide)) rfl
      · refine q_app (e2 p _ hp') (ev_var rfl) (ev_op (ev_var rfl) ev_c (rv_I (C := fun _ j => 0 < j) (g := fun i j => .int (i % j)) (by decide))) (by simp) (fun H3 e3 => ?_)
        refine ⟨.int n, rfl, n, 256, rfl, rfl, ⟨by decide, by decide⟩, ?_⟩
        have d0 : n / 256 = 0 := by omega
        have m0 : n % 256 = n := by omega
        refine ⟨by show [some (V.int n), some (V.ref p)].set 0 (some (V.int (n / 256))) = _; rw [d0]; rfl, ?_, Ex.mut ((eH.trans e2).trans e3) np⟩
        rw [upd_same, m0, figs, if_neg h0] <;> rfl
    · refine ⟨false, ?_, fun z => (by cases z), fun _ H2 e2 => ?_⟩
      · exact et_is (et_and (a := false) (b := true) (et_is (et_test (ev_op (ev_var rfl) ev_c rv_I0)) (by decide)) fun z => by cases z) rfl
      · refine s_retR (P := fun v H' => Dp K H' v (intsD (figs n))) ?_ (fun v H3 e3 q => hQ v H3 ((eH.trans e2).trans e3) q)
        refine ed_tupL (ds := (figs n).map .int) (fun H3 e3 Q' q => ?_)
        refine ⟨.ref p, rfl, p, _, rfl, sq_of (e3 p _ (e2 p _ hp')), fun l hl => q (.ref l) _ (Ex.new hl) ?_⟩
        have er : ((figs n).map V.int).reverse = (figs n).map V.int := by
          unfold figs
          split <;> rfl
        rw [er]
        exact dp_lstOf (sq_of upd_same)
theorem sc_write_number : FnScope ["number", "figures"] ["number"] (defScope (top 15)) := ⟨rfl, rfl, rfl, by decide +kernel, rfl, by decide +kernel, by decide +kernel⟩
theorem cal_write_number (T : Tx K mg) (c_figures_of : Cal P w K mg base "figures_of" 1 ["number"] (spFig K)) (c_is_number : Cal P w K mg base "is_number" 2 ["value"] spIsNum) : Cal P w K mg base "write_number" 3 ["number"] (spWNum K) := by
  obtain ⟨f, fd, F, hm⟩ := T.fn 6 "write_number" (top 15) rfl
  obtain ⟨tF, hFig⟩ := T.gFig
  refine cal_of F hm (fun _ _ _ _ _ _ us hl => match us, hl with | [_], _ => rfl) (F.ok sc_write_number (fun vs H Q E h => by obtain ⟨_,  rfl, _⟩ := h <;> rfl) (fun cdv A outer s H vs Q E hr h => ⟨_, PSs.nox (pss_cons (ps_if (pt_not (pt_val (pe_cal c_is_number (hr.mono (by decide)) rfl (pa_cons (pv 0) pa_nil)))) (pss_one ps_never) pss_nil)
      (pss_cons (ps_set (i := 1) sc_write_number.nd rfl (.inl rfl) (pe_cal c_figures_of (hr.mono (by decide)) rfl (pa_cons (pv 0) pa_nil)))
      (pss_cons (ps_if (pt_cmpR op_gt (pe_callB call_len_seq rfl (T.fr "len" (by decide)) boot_len (pa_cons (pv 1) pa_nil)) (pe_glob (v := .int 200) rfl hFig ⟨_, rfl⟩) (nomark _)) (pss_one ps_never) pss_nil)
      (pss_one (ps_ret (pe_op op_catA (pe_tup (pa_cons (pe_callB call_len_seq rfl (T.fr "len" (by decide)) boot_len (pa_cons (pv 1) pa_nil)) pa_nil)) (pv 1))))))), ?_⟩))
  obtain ⟨n, rfl, hn, hQ⟩ := h
  refine q_when (b := false) (et_is (et_not (et_B (ev_cal (v := .bl true) (P := fun vs _ => vs = [.int n]) (ea_epa (ea_one (ev_var rfl)) fun _ _ => rfl) (fun vs H1 e p Q q => ⟨n, by rw [p] <;> rfl, hn.1, q⟩)))) rfl) (fun z => by cases z) (fun _ H1 e1 => ?_)
  refine q_asgP (P := fun v H' => Dp K H' v (intsD (figs n))) (ep_call (P := fun vs _ => vs = [.int n]) (ea_epa (ea_one (ev_var rfl)) fun _ _ => rfl) (fun vs H2 e p Q q => ⟨n, by rw [p] <;> rfl, hn, q⟩)) (fun v H2 e2 hv => ?_)
  have hl : EvD K (tVar 1) ((start ["number", "figures"] [V.int n]).set 1 (some v)) H2 (intsD (figs n)) := ed_var rfl hv
  have hlen : ((List.map PyData.int (figs n)).length : Int) = ((figs n).length : Int) := by rw [List.length_map]
  refine q_when (b := false) (et_is (et_test (ev_op (ev_lenT hl) ev_c rv_I0)) (decide_eq_false (by have := figs_len n; rw [List.length_map]; omega))) (fun z => by cases z) (fun _ H3 e3 => ?_)
  refine s_retR (P := fun v H' => Dp K H' v (intsD (wnum n))) ?_ (fun v H4 e4 q => hQ v H4 (((e1.trans e2).trans e3).trans e4) q)
  have := ed_cat (K := K) (ds := [.int (figs n).length]) (es := (figs n).map .int) (ed_tup (eds_cons (edI (ev_is (ev_lenT (hl.mono e3)) (by rw [hlen]))) eds_nil) (by simp)) (hl.mono e3) (by have := figs_len n; simp; omega)
  exact this
theorem sc_write_octets : FnScope ["octets", "told"] ["octets"] (defScope (top 16)) := ⟨rfl, rfl, rfl, by decide +kernel, rfl, by decide +kernel, by decide +kernel⟩
theorem cal_write_octets (T : Tx K mg) (c_need_octets : Cal P w K mg base "need_octets" 4 ["value"] (spNeed K)) (c_write_number : Cal P w K mg base "write_number" 3 ["number"] (spWNum K)) : Cal P w K mg base "write_octets" 5 ["octets"] (spWOct K) := by
  obtain ⟨f, fd, F, hm⟩ := T.fn 7 "write_octets" (top 16) rfl
  refine cal_of F hm (fun _ _ _ _ _ _ us hl => match us, hl with | [_], _ => rfl) (F.ok sc_write_octets (fun vs H Q E h => by obtain ⟨_, _,  rfl, _⟩ := h <;> rfl) (fun cdv A outer s H vs Q E hr h => ⟨_, PSs.nox (pss_cons (ps_set (i := 1) sc_write_octets.nd rfl (.inl rfl) (pe_cal c_need_octets (hr.mono (by decide)) rfl (pa_cons (pv 0) pa_nil)))
      (pss_one (ps_ret (pe_op op_catA (pe_cal c_write_number (hr.mono (by decide)) rfl (pa_cons (pe_callB call_len_seq rfl (T.fr "len" (by decide)) boot_len (pa_cons (pv 1) pa_nil)) pa_nil)) (pv 1))))), ?_⟩))
  obtain ⟨v, ns, rfl, hv, hn, hl, hQ⟩ := h
  obtain ⟨a, rfl, ha⟩ := dp_tupI hv
  refine q_asg (v := .ref a) (ev_cal (P := fun vs _ => vs = [.ref a]) (ea_epa (ea_one (ev_var rfl)) fun _ _ => rfl) (fun vs H1 e p Q q => ⟨a, ns, by rw [p] <;> rfl, ex_t e ha, hn, q⟩)) (fun H1 e1 => ?_)
  have hd : EvD K (tVar 1) ((start ["octets", "told"] [V.ref a]).set 1 (some (V.ref a))) H1 (intsD ns) := ed_var rfl (dp_tupOf (ex_t e1 ha))
  refine s_retR (P := fun v H' => Dp K H' v (intsD (woct ns))) ?_ (fun v H2 e2 q => hQ v H2 (e1.trans e2) q)
  have hw : EvD K (tCall (spWNum K) [] E0 (tCons (tCB (rLenS K) (tCons (tVar 1) tNil)) tNil)) ((start ["octets", "told"] [V.ref a]).set 1 (some (V.ref a))) H1 (intsD (wnum ns.length)) :=
    ep_call (P := fun vs _ => vs = [.int ns.length]) (ea_epa (ea_one (ev_is (ev_lenT hd) (by rw [List.length_map]))) fun _ _ => rfl) (fun vs H2 e p Q q => ⟨ns.length, by rw [p] <;> rfl, by omega, q⟩)
  have := ed_cat (K := K) (ds := (wnum ns.length).map .int) (es := ns.map .int) hw hd (by have := wnum_len ns.length; simp only [List.length_map]; omega)
  rw [← intsD_app] at this
  exact this
theorem sc_write_row : FnScope ["parts", "found", "part"] ["parts"] (defScope (top 17)) := ⟨rfl, rfl, rfl, by decide +kernel, rfl, by decide +kernel, by decide +kernel⟩
theorem cal_write_row (T : Tx K mg) (c_is_sequence : Cal P w K mg base "is_sequence" 1 ["value"] (spIsSeq K)) (c_write_number : Cal P w K mg base "write_number" 3 ["number"] (spWNum K)) (c_write_octets : Cal P w K mg base "write_octets" 5 ["octets"] (spWOct K)) : Cal P w K mg base "write_row" 6 ["parts"] (spWRow K) := by
  obtain ⟨f, fd, F, hm⟩ := T.fn 8 "write_row" (top 17) rfl
  refine cal_of F hm (fun _ _ _ _ _ _ us hl => match us, hl with | [_], _ => rfl) (F.ok sc_write_row (fun vs H Q E h => by obtain ⟨_, _,  rfl, _⟩ := h <;> rfl) (fun cdv A outer s H vs Q E hr h => ⟨_, PSs.nox (pss_cons (ps_if (pt_not (pt_val (pe_cal c_is_sequence (hr.mono (by decide)) rfl (pa_cons (pv 0) pa_nil)))) (pss_one ps_never) pss_nil)
      (pss_cons (ps_set (i := 1) sc_write_row.nd rfl (.inl rfl) (pe_cal c_write_number (hr.mono (by decide)) rfl (pa_cons (pe_callB call_len_seq rfl (T.fr "len" (by decide)) boot_len (pa_cons (pv 0) pa_nil)) pa_nil)))
      (pss_cons (ps_for PassesOwn.never rfl (pi_list (pv 0)) (pg_name (i := 2) sc_write_row.nd rfl (.inl rfl)) (pss_one (ps_aug (i := 1) sc_write_row.nd rfl (.inl rfl) (pe_cal c_write_octets (hr.mono (by decide)) rfl (pa_cons (pv 2) pa_nil)) iop_catA)))
      (pss_one (ps_ret (pv 1)))))), ?_⟩))
  obtain ⟨v, nss, rfl, hv, hn, hl, hQ⟩ := h
  obtain ⟨a, xs, rfl, ha, hxs⟩ := dp_lst hv
  have hlen : xs.length = nss.length := by rw [dpA_len hxs, List.length_map]
  refine q_when (b := false) (et_is (et_not (et_B (ev_cal (v := .bl true) (P := fun vs _ => vs = [.ref a]) (ea_epa (ea_one (ev_var rfl)) fun _ _ => rfl) (fun vs H1 e p Q q => ⟨a, by rw [p] <;> rfl, .inr ⟨xs, ex_l e ha⟩, q⟩)))) rfl) (fun z => by cases z) (fun _ H1 e1 => ?_)
  refine q_asgP (P := fun v H' => Dp K H' v (intsD (wnum nss.length))) (ep_call (P := fun vs _ => vs = [.int nss.length]) (ea_epa (ea_one (ev_is (ev_len (ev_var rfl) (ex_l e1 ha)) (by rw [hlen]))) fun _ _ => rfl) (fun vs H2 e p Q q => ⟨nss.length, by rw [p] <;> rfl, by omega, q⟩)) (fun v H2 e2 hv2 => ?_)
  refine q_forLn (a := a) (xs := xs) (ev_var rfl) (ex_l (e1.trans e2) ha) (fun i σ H' => σ.length = 3 ∧ σ[0]? = some (some (.ref a)) ∧ (∃ u, σ[1]? = some (some u) ∧ Dp K H' u (intsD (wnum nss.length ++ ((nss.take i).map woct).flatten))) ∧ Ex H H') (fun H3 e3 => ⟨rfl, rfl, ⟨v, rfl, ?_⟩, (e1.trans e2).trans e3⟩) (fun i σ H' _ p => ex_l p.2.2.2 ha) (fun i x σ H' hx p => ?_) (fun σ H' p => ?_)
  · simpa using dp_ex e3 _ _ hv2
  · obtain ⟨p1, p2, ⟨u, p3, p4⟩, p5⟩ := p
    obtain ⟨d, hd1, hd2⟩ := dpA_getV hxs hx
    obtain ⟨ns, hns, rfl⟩ : ∃ ns, nss[i]? = some ns ∧ intsD ns = d := by simpa using hd1
    have hb := hn ns (List.mem_of_getElem? hns)
    have hi : i < nss.length := (List.getElem?_eq_some_iff.mp hns).1
    refine ⟨u, by rw [List.getElem?_set_ne (by decide)]; exact p3, ?_⟩
    have hc : EvD K (tCall (spWOct K) [] E0 (tCons (tVar 2) tNil)) (σ.set 2 (some x)) H' (intsD (woct ns)) :=
      ep_call (P := fun vs H2 => vs = [x] ∧ Dp K H2 x (intsD ns)) (ea_epa (ea_one (ev_var (by rw [List.getElem?_set_self (by rw [p1]; decide)]))) fun H2 e => ⟨rfl, dp_ex (p5.trans e) _ _ hd2⟩) (fun vs H2 e p Q q => ⟨x, ns, by rw [p.1] <;> rfl, p.2, hb.1, hb.2, q⟩)
    refine hc H' (Ex.refl H') _ fun y H3 e3 hy => ?_
    obtain ⟨b, xs', rfl, hs', ha'⟩ := dp_tup (dp_ex e3 _ _ p4)
    obtain ⟨b2, ys', rfl, hs2, ha2⟩ := dp_tup hy
    have fl : ∀ z : List (List Int), (∀ q ∈ z, (∀ n ∈ q, 0 ≤ n ∧ n < 256) ∧ q.length < 256) → ((z.map woct).flatten).length ≤ 258 * z.length := fun z => by
      induction z with
      | nil => intro _; simp
      | cons q z ih =>
        intro hq
        have h1 := ih fun r hr => hq r (List.mem_cons_of_mem _ hr)
        have h2 := (hq q List.mem_cons_self).2
        have h3 := wnum_len q.length
        simp only [List.map_cons, List.flatten_cons, List.length_append, woct, List.length_cons]
        omega
    have lz : xs'.length + ys'.length ≤ 100000 := by
      rw [dpA_len ha', dpA_len ha2, List.length_map, List.length_map, List.length_append]
      have h1 := fl (nss.take i) fun q hq => hn q (List.mem_of_mem_take hq)
      have h2 := wnum_len nss.length
      have h3 := wnum_len ns.length
      have h4 : (nss.take i).length ≤ 256 := by rw [List.length_take]; omega
      simp only [woct, List.length_append] at *
      omega
    have eqd : intsD (wnum nss.length ++ ((nss.take (i + 1)).map woct).flatten) = .tuple ((wnum nss.length ++ ((nss.take i).map woct).flatten).map .int ++ (woct ns).map .int) := by
      rw [← List.map_append]
      show PyData.tuple _ = PyData.tuple _
      rw [List.take_add_one, hns]
      simp
    have fin : ∀ u2 H4, Ex H3 H4 → Dp K H4 u2 (intsD (wnum nss.length ++ ((nss.take (i + 1)).map woct).flatten)) →
        ((σ.set 2 (some x)).set 1 (some u2)).length = 3 ∧ ((σ.set 2 (some x)).set 1 (some u2))[0]? = some (some (.ref a)) ∧ (∃ u, ((σ.set 2 (some x)).set 1 (some u2))[1]? = some (some u) ∧ Dp K H4 u (intsD (wnum nss.length ++ ((nss.take (i + 1)).map woct).flatten))) ∧ Ex H H4 := fun u2 H4 e4 h4 =>
      ⟨by simp [p1], by rw [List.getElem?_set_ne (by decide), List.getElem?_set_ne (by decide)]; exact p2, ⟨u2, by rw [List.getElem?_set_self (by simp [p1])], h4⟩, (p5.trans e3).trans e4⟩
    refine ⟨b, b2, xs', ys', rfl, rfl, hs', hs2, sz_of lz, fun hx0 => ?_, fun _ hy0 => ?_, fun _ _ l hl2 => ?_⟩
    · refine fin _ H3 (Ex.refl H3) ?_
      rw [eqd]
      subst hx0
      exact .tup hs2 (dpA_app ha' ha2)
    · refine fin _ H3 (Ex.refl H3) ?_
      rw [eqd]
      subst hy0
      have := dpA_app ha' ha2
      rw [List.append_nil] at this
      exact .tup hs' this
    · refine fin _ _ (Ex.new hl2) ?_
      rw [eqd]
      exact .tup (st_of upd_same) (dpA_app (dpA_ex (Ex.new hl2) _ _ ha') (dpA_ex (Ex.new hl2) _ _ ha2))
  · obtain ⟨p1, p2, ⟨u, p3, p4⟩, p5⟩ := p
    refine s_retR (P := fun v H' => Dp K H' v (intsD (wrow nss))) (ed_var p3 ?_) (fun v H4 e4 q => hQ v H4 (p5.trans e4) q)
    rw [hlen, List.take_length] at p4
    exact p4
end
end Kw
end
section
/-! KwE2: comprehensions over data. -/
namespace Kw
open PySem PySem.Spec PyProof.Rows L2 Evl
/-- the iterator gives these data, whatever else grows -/
def Walks (K : PySem.W.Frag) (J : It) (H : Hp) (ds : List PyData) : Prop := ∀ i H', Ex H H' → (∀ d, ds[i]? = some d → J.go i H' ∧ ∀ x H2, J.yld i H' x H2 → Ex H' H2 ∧ Dp K H2 x d) ∧ (i = ds.length → J.stop i H')
def EvI (K : PySem.W.Frag) (wi : TI) (σ : L2.St) (H : Hp) (ds : List PyData) : Prop := ∀ H1, Ex H H1 → ∀ R : It → Hp → Prop, (∀ J H2, Ex H1 H2 → Walks K J H2 ds → R J H2) → wi σ H1 R
section
variable {K : PySem.W.Frag} {σ : L2.St} {H H' H1 : Hp} {ta tb te tk tv tl : TE} {tt : TT} {g : TG} {wi : TI} {vs : List Nat} {α : Type}
theorem ei_tup {ds : List PyData} (h : EvD K tl σ H (.tuple ds)) : EvI K (iTup K tl) σ H ds := fun H1 e R r =>
  h H1 e _ fun v H2 e2 p => by
    obtain ⟨a, xs, rfl, hs, ha⟩ := dp_tup p
    refine ⟨a, rfl, ⟨xs, hs⟩, r _ H2 e2 fun i H' e3 => ⟨fun d hd => ?_, fun hi => ⟨xs, ex_t e3 hs, by rw [hi, dpA_len ha]; exact Nat.le_refl _⟩⟩⟩
    obtain ⟨x, hx, hdx⟩ := dpA_get ha hd
    refine ⟨⟨xs, x, ex_t e3 hs, hx⟩, fun y H4 q => ?_⟩
    obtain ⟨rfl, q⟩ := q
    have := q xs (ex_t e3 hs)
    rw [hx] at this
    cases this
    exact ⟨Ex.refl _, dp_ex e3 _ _ hdx⟩
theorem ei_list {ds : List PyData} (h : EvD K tl σ H (.list ds)) : EvI K (iList K tl) σ H ds := fun H1 e R r =>
  h H1 e _ fun v H2 e2 p => by
    obtain ⟨a, xs, rfl, hs, ha⟩ := dp_lst p
    refine ⟨a, rfl, ⟨xs, hs⟩, r _ H2 e2 fun i H' e3 => ⟨fun d hd => ?_, fun hi => ⟨xs, ex_l e3 hs, by rw [hi, dpA_len ha]; exact Nat.le_refl _⟩⟩⟩
    obtain ⟨x, hx, hdx⟩ := dpA_get ha hd
    refine ⟨⟨xs, x, ex_l e3 hs, hx⟩, fun y H4 q => ?_⟩
    obtain ⟨rfl, q⟩ := q
    have := q xs (ex_l e3 hs)
    rw [hx] at this
    cases this
    exact ⟨Ex.refl _, dp_ex e3 _ _ hdx⟩
theorem ei_lt {ds : List PyData} (h : EvP tl σ H fun v H1 => Dp K H1 v (.list ds) ∨ Dp K H1 v (.tuple ds)) : EvI K (iLT K tl) σ H ds := fun H1 e R r =>
  h H1 e _ fun v H2 e2 p => by
    rcases p with p | p
    · obtain ⟨a, xs, rfl, hs, ha⟩ := dp_lst p
      refine ⟨a, rfl, .inl ⟨⟨xs, hs⟩, r _ H2 e2 fun i H' e3 => ⟨fun d hd => ?_, fun hi => ⟨xs, ex_l e3 hs, by rw [hi, dpA_len ha]; exact Nat.le_refl _⟩⟩⟩⟩
      obtain ⟨x, hx, hdx⟩ := dpA_get ha hd
      refine ⟨⟨xs, x, ex_l e3 hs, hx⟩, fun y H4 q => ?_⟩
      obtain ⟨rfl, q⟩ := q
      have := q xs (ex_l e3 hs)
      rw [hx] at this
      cases this
      exact ⟨Ex.refl _, dp_ex e3 _ _ hdx⟩
    · obtain ⟨a, xs, rfl, hs, ha⟩ := dp_tup p
      refine ⟨a, rfl, .inr ⟨⟨xs, hs⟩, r _ H2 e2 fun i H' e3 => ⟨fun d hd => ?_, fun hi => ⟨xs, ex_t e3 hs, by rw [hi, dpA_len ha]; exact Nat.le_refl _⟩⟩⟩⟩
      obtain ⟨x, hx, hdx⟩ := dpA_get ha hd
      refine ⟨⟨xs, x, ex_t e3 hs, hx⟩, fun y H4 q => ?_⟩
      obtain ⟨rfl, q⟩ := q
      have := q xs (ex_t e3 hs)
      rw [hx] at this
      cases this
      exact ⟨Ex.refl _, dp_ex e3 _ _ hdx⟩
/-- range(n) -/
theorem ei_rng {n : Nat} (h : Ev ta σ H (.int (n : Int))) (hn : n ≤ 100000) : EvI K (iRng1 (tCons ta tNil)) σ H ((List.range n).map fun i : Nat => PyData.int (i : Int)) := fun H1 e R r =>
  h H1 e _ fun H2 e2 => ⟨(n : Int), rfl, by omega, by omega, r _ H2 e2 fun i H' e3 => by
    refine ⟨fun d hd => ?_, fun hi => ?_⟩
    · have hi : i < n := by
        have := (List.getElem?_eq_some_iff.mp hd).1
        simpa using this
      have ed : d = .int (i : Int) := by
        rw [List.getElem?_map, List.getElem?_range hi] at hd
        exact (Option.some.inj hd).symm
      refine ⟨by show i < ((n : Int).toNat); simpa using hi, fun x H4 q => ?_⟩
      obtain ⟨rfl, rfl⟩ := q
      rw [ed, Int.zero_add]
      exact ⟨Ex.refl _, .int _⟩
    · show ((n : Int).toNat) ≤ i
      rw [hi]
      simp⟩
/-- [e for a in .. if f] -/
theorem en_lc (as : List α) (enc : α → PyData) (f : α → Bool) (ee : α → PyData) (h : EvI K wi σ H (as.map enc)) (hz : as.length ≤ 40000) (him : ∀ a ∈ as, imm (ee a) = true)
    (item : ∀ a ∈ as, ∀ x H1, Ex H H1 → Dp K H1 x (enc a) → GP g x (wipe σ vs) H1 fun σ2 => wipe σ2 vs = wipe σ vs ∧ EvT tt σ2 H1 (f a) ∧ (f a = true → EvD K te σ2 H1 (ee a))) :
    EvP (tLc wi g tt te vs) σ H (NewD K H ((as.filter f).map ee)) := fun H0 e0 Q q => h H0 e0 _ fun J H1 e1 wk D hD => by
  have flen : ∀ i, (((as.take i).filter f).map ee).length ≤ 40000 := fun i => by
    rw [List.length_map]
    have a := List.length_filter_le f (as.take i)
    rw [List.length_take] at a
    omega
  refine ⟨fun i m H' => m + i = as.length ∧ Ex H1 H' ∧ ∃ acc, H' D = some (.lst acc) ∧ DpAll K H' acc (((as.take i).filter f).map ee), ⟨as.length, by omega, Ex.new hD, [], upd_same, by simpa using DpAll.nil⟩, fun i m H' hw => ?_⟩
  obtain ⟨hm, eH, acc, hacc, hda⟩ := hw
  obtain ⟨w1, w2⟩ := wk i H' eH
  by_cases hi : i < as.length
  · have hai : as[i]? = some as[i] := List.getElem?_eq_getElem hi
    obtain ⟨hgo, hy⟩ := w1 (enc as[i]) (by rw [List.getElem?_map, hai] <;> rfl)
    refine .inr ⟨hgo, fun H2 => m - 1 + (i + 1) = as.length ∧ Ex H1 H2 ∧ ∃ acc, H2 D = some (.lst acc) ∧ DpAll K H2 acc (((as.take (i + 1)).filter f).map ee), fun H2 h2 => ⟨m - 1, by omega, h2⟩, fun x H2 hyl => ?_⟩
    obtain ⟨e2, hdx⟩ := hy x H2 hyl
    have eAll : Ex H H2 := ((e0.trans e1).trans eH).trans e2
    refine item as[i] (List.getElem_mem hi) x H2 eAll hdx H2 (Ex.refl H2) _ fun σ2 hs => ⟨hs.1, hs.2.1 H2 (Ex.refl H2) _ fun H3 e3 => ?_⟩
    have tk1 : as.take (i + 1) = as.take i ++ [as[i]] := by rw [List.take_add_one, hai] <;> rfl
    cases hf : f as[i] with
    | false =>
      show m - 1 + (i + 1) = as.length ∧ Ex H1 H3 ∧ _
      refine ⟨by omega, (eH.trans e2).trans e3, acc, e3 D _ (e2 D _ hacc), ?_⟩
      rw [tk1, List.filter_append, List.filter_cons, if_neg (by rw [hf]; decide)]
      simpa using dpA_ex (e2.trans e3) _ _ hda
    | true =>
      show te σ2 H3 _
      refine hs.2.2 hf H3 e3 _ fun y H4 e4 hdy => ⟨acc, e4 D _ (e3 D _ (e2 D _ hacc)), sz_lt (by have := flen i; rw [dpA_len hda]; omega), by omega, Ex.mut (((eH.trans e2).trans e3).trans e4) hD, acc ++ [y], upd_same, ?_⟩
      rw [tk1, List.filter_append, List.filter_cons, if_pos hf, List.map_append]
      have eN : TupK H4 (upd H4 D (.lst (acc ++ [y]))) := TupK.upd (nrd_lst (e4 D _ (e3 D _ (e2 D _ hacc))))
      have im1 : immA (((as.take i).filter f).map ee) = true := immA_iff.mpr fun d hd => by
        obtain ⟨b, hb, rfl⟩ := List.mem_map.mp hd
        exact him b (List.mem_of_mem_take (List.mem_filter.mp hb).1)
      exact dpA_app (dpA_tk (((TupK.of e2).trans (TupK.of e3)).trans ((TupK.of e4).trans eN)) _ _ im1 hda) (dpA_one (dp_tk eN _ _ (him _ (List.getElem_mem hi)) hdy))
  · have hn : i = as.length := by omega
    subst hn
    refine .inl ⟨w2 (by rw [List.length_map]), q (.ref D) H' (e1.trans eH) ⟨D, acc, rfl, fresh_back (e0.trans e1) hD, hacc, ?_⟩⟩
    rw [List.take_length] at hda
    exact hda
theorem filt_all (as : List α) : as.filter (fun _ => true) = as := List.filter_eq_self.mpr fun _ _ => rfl
/-- [e for a in ..] -/
theorem en_map (as : List α) (enc : α → PyData) (ee : α → PyData) (h : EvI K wi σ H (as.map enc)) (hz : as.length ≤ 40000) (him : ∀ a ∈ as, imm (ee a) = true)
    (item : ∀ a ∈ as, ∀ x H1, Ex H H1 → Dp K H1 x (enc a) → GP g x (wipe σ vs) H1 fun σ2 => wipe σ2 vs = wipe σ vs ∧ EvD K te σ2 H1 (ee a)) :
    EvP (tLc wi g tYes te vs) σ H (NewD K H (as.map ee)) := by
  have h1 := en_lc (tt := tYes) (te := te) (g := g) (vs := vs) as enc (fun _ => true) ee h hz him (fun a ha x H1 e hx => fun H2 e2 Q q => item a ha x H1 e hx H2 e2 Q fun σ2 hs => q σ2 ⟨hs.1, fun H3 e3 Q q => q H3 (Ex.refl H3), fun _ => hs.2⟩)
  rw [filt_all] at h1
  exact h1
/-- {k: v for a in .. if f} -/
def DictN (H : Hp) (kvs : List (Key × V)) : PV := fun v H' => ∃ D, v = .ref D ∧ H D = none ∧ H' D = some (.dK kvs)
theorem ek_dc (as : List α) (enc : α → PyData) (f : α → Bool) (kk : α → Key) (ev : α → V) (h : EvI K wi σ H (as.map enc)) (hz : as.length ≤ 40000)
    (item : ∀ a ∈ as, ∀ x H1, Ex H H1 → Dp K H1 x (enc a) → GP g x (wipe σ vs) H1 fun σ2 => wipe σ2 vs = wipe σ vs ∧ EvT tt σ2 H1 (f a) ∧ (f a = true → Ev tk σ2 H1 (kV (kk a)) ∧ Ev tv σ2 H1 (ev a))) :
    EvP (tDc wi g tt tk tv vs) σ H (DictN H ((as.filter f).foldl (fun kvs a => putK kvs (kk a) (ev a)) [])) := fun H0 e0 Q q => h H0 e0 _ fun J H1 e1 wk D hD => by
  have plen : ∀ (l : List α) (kvs : List (Key × V)), (l.foldl (fun kvs a => putK kvs (kk a) (ev a)) kvs).length ≤ kvs.length + l.length := fun l => by
    induction l with
    | nil => intro kvs; exact Nat.le_refl _
    | cons a l ih =>
      intro kvs
      have h1 := ih (putK kvs (kk a) (ev a))
      have h2 : (putK kvs (kk a) (ev a)).length ≤ kvs.length + 1 := by
        unfold putK
        split <;> simp
      simp only [List.foldl_cons, List.length_cons]
      omega
  refine ⟨fun i m H' => m + i = as.length ∧ Ex H1 H' ∧ H' D = some (.dK (((as.take i).filter f).foldl (fun kvs a => putK kvs (kk a) (ev a)) [])), ⟨as.length, by omega, Ex.new hD, by simpa using upd_same⟩, fun i m H' hw => ?_⟩
  obtain ⟨hm, eH, hacc⟩ := hw
  obtain ⟨w1, w2⟩ := wk i H' eH
  by_cases hi : i < as.length
  · have hai : as[i]? = some as[i] := List.getElem?_eq_getElem hi
    obtain ⟨hgo, hy⟩ := w1 (enc as[i]) (by rw [List.getElem?_map, hai] <;> rfl)
    refine .inr ⟨hgo, fun H2 => m - 1 + (i + 1) = as.length ∧ Ex H1 H2 ∧ H2 D = some (.dK (((as.take (i + 1)).filter f).foldl (fun kvs a => putK kvs (kk a) (ev a)) [])), fun H2 h2 => ⟨m - 1, by omega, h2⟩, fun x H2 hyl => ?_⟩
    obtain ⟨e2, hdx⟩ := hy x H2 hyl
    have eAll : Ex H H2 := ((e0.trans e1).trans eH).trans e2
    refine item as[i] (List.getElem_mem hi) x H2 eAll hdx H2 (Ex.refl H2) _ fun σ2 hs => ⟨hs.1, hs.2.1 H2 (Ex.refl H2) _ fun H3 e3 => ?_⟩
    have tk1 : as.take (i + 1) = as.take i ++ [as[i]] := by rw [List.take_add_one, hai] <;> rfl
    cases hf : f as[i] with
    | false =>
      show m - 1 + (i + 1) = as.length ∧ Ex H1 H3 ∧ _
      refine ⟨by omega, (eH.trans e2).trans e3, ?_⟩
      rw [tk1, List.filter_append, List.filter_cons, if_neg (by rw [hf]; decide)]
      simpa using e3 D _ (e2 D _ hacc)
    | true =>
      show tk σ2 H3 _
      obtain ⟨hk, hv⟩ := hs.2.2 hf
      refine hk H3 e3 _ fun H4 e4 => hv H4 (e3.trans e4) _ fun H5 e5 => ?_
      have h5 := e5 D _ (e4 D _ (e3 D _ (e2 D _ hacc)))
      refine ⟨_, kk as[i], rfl, h5, sz_lt ?_, by omega, Ex.mut (((((eH.trans e2).trans e3).trans e4)).trans e5) hD, ?_⟩
      · have a1 := plen ((as.take i).filter f) []
        have a2 := List.length_filter_le f (as.take i)
        rw [List.length_take] at a2
        simp at a1
        omega
      · rw [upd_same, tk1, List.filter_append, List.filter_cons, if_pos hf, List.foldl_append] <;> rfl
  · have hn : i = as.length := by omega
    subst hn
    refine .inl ⟨w2 (by rw [List.length_map]), q (.ref D) H' (e1.trans eH) ⟨D, rfl, fresh_back (e0.trans e1) hD, ?_⟩⟩
    rw [List.take_length] at hacc
    exact hacc
end
/-! ### dicts of bools by ints: the keys -/
theorem keys_old {kvs : List (Key × V)} {k : Key} {v : V} (h : k ∈ kvs.map (·.1)) : (putK kvs k v).map (·.1) = kvs.map (·.1) := by
  unfold putK
  have h' : (kvs.any fun kv => decide (kv.1 = k)) = true := by
    obtain ⟨p, hp, e⟩ := List.mem_map.mp h
    exact List.any_eq_true.mpr ⟨p, hp, by simpa using e⟩
  rw [if_pos h', List.map_map]
  apply List.map_congr_left
  intro p _
  show (if p.1 = k then (p.1, v) else p).1 = p.1
  split <;> rfl
theorem put_new {kvs : List (Key × V)} {k : Key} {v : V} (h : k ∉ kvs.map (·.1)) : putK kvs k v = kvs ++ [(k, v)] := by
  unfold putK
  have h' : ¬ (kvs.any fun kv => decide (kv.1 = k)) = true := fun z => by
    obtain ⟨p, hp, e⟩ := List.any_eq_true.mp z
    exact h (List.mem_map.mpr ⟨p, hp, by simpa using e⟩)
  rw [if_neg h']
theorem keys_new {kvs : List (Key × V)} {k : Key} {v : V} (h : k ∉ kvs.map (·.1)) : (putK kvs k v).map (·.1) = kvs.map (·.1) ++ [k] := by
  rw [put_new h]
  simp
/-- the keys in the order they first came -/
def dedup : List Int → List Int → List Int
  | acc, [] => acc
  | acc, x :: xs => dedup (if x ∈ acc then acc else acc ++ [x]) xs
theorem mem_dedup {k : Int} : ∀ {xs acc : List Int}, k ∈ dedup acc xs ↔ k ∈ acc ∨ k ∈ xs
  | [], acc => by simp [dedup]
  | x :: xs, acc => by
    unfold dedup
    rw [mem_dedup (xs := xs)]
    split
    · rename_i h
      simp only [List.mem_cons]
      constructor
      · rintro (q | q)
        · exact .inl q
        · exact .inr (.inr q)
      · rintro (q | q | q)
        · exact .inl q
        · rw [q]
          exact .inl h
        · exact .inr q
    · simp only [List.mem_append, List.mem_cons, List.not_mem_nil, or_false]
      constructor
      · rintro ((q | q) | q)
        · exact .inl q
        · exact .inr (.inl q)
        · exact .inr (.inr q)
      · rintro (q | q | q)
        · exact .inl (.inl q)
        · exact .inl (.inr q)
        · exact .inr q
theorem nodup_dedup : ∀ {xs acc : List Int}, acc.Nodup → (dedup acc xs).Nodup
  | [], _, h => h
  | x :: xs, acc, h => by
    unfold dedup
    refine nodup_dedup ?_
    split
    · exact h
    · rename_i q
      exact List.nodup_append.mpr ⟨h, by simp, fun a ha b hb e => q (by
        have : b = x := by simpa using hb
        rw [← this, ← e]
        exact ha)⟩
theorem dedup_len : ∀ {xs acc : List Int}, (dedup acc xs).length ≤ acc.length + xs.length
  | [], _ => Nat.le_refl _
  | x :: xs, acc => by
    unfold dedup
    have := dedup_len (xs := xs) (acc := if x ∈ acc then acc else acc ++ [x])
    have h2 : (if x ∈ acc then acc else acc ++ [x]).length ≤ acc.length + 1 := by split <;> simp
    simp only [List.length_cons]
    omega
theorem foldl_keys {v : Int → V} : ∀ (xs : List Int) (kvs : List (Key × V)) (acc : List Int), kvs.map (·.1) = acc.map Sum.inl → (xs.foldl (fun kvs a => putK kvs (Sum.inl a) (v a)) kvs).map (·.1) = (dedup acc xs).map Sum.inl
  | [], kvs, acc, h => h
  | x :: xs, kvs, acc, h => by
    rw [List.foldl_cons]
    unfold dedup
    refine foldl_keys xs _ _ ?_
    by_cases hx : x ∈ acc
    · rw [if_pos hx, keys_old (by rw [h]; exact List.mem_map.mpr ⟨x, hx, rfl⟩), h]
    · rw [if_neg hx, keys_new (fun z => hx (by
        rw [h] at z
        obtain ⟨y, hy, e⟩ := List.mem_map.mp z
        cases e
        exact hy)), h, List.map_append] <;> rfl
end Kw
end
section
/-! KwE3: list(d), sorted(..), things as a dict. -/
namespace Kw
open PySem PySem.Spec PyProof.Rows L2 Evl
section
variable {K : PySem.W.Frag} {σ : L2.St} {H H' H1 : Hp} {ta tb te : TE} {v : V}
theorem kV_inls : ∀ (kvs : List (Key × V)) (ns : List Int), kvs.map (·.1) = ns.map Sum.inl → kvs.map (fun kv => kV kv.1) = ns.map V.int := fun kvs ns h => by
  have := congrArg (List.map kV) h
  rw [List.map_map, List.map_map] at this
  exact this
/-- list(d), d a dict with int keys -/
def rLstD : List V → Hp → VK → Prop := fun xs H Q => ∃ (a : Addr) (kvs : List (Key × V)), xs = [.ref a] ∧ Rd H a (.dK kvs) ∧ ∀ p, H p = none → Q (.ref p) (upd H p (.lst (kvs.map fun kv => kV kv.1)))
theorem en_listD {P : PV} {ns : List Int} (h : EvP te σ H P) (hd : ∀ v H1, Ex H H1 → P v H1 → ∃ a kvs, v = .ref a ∧ Rd H1 a (.dK kvs) ∧ kvs.map (·.1) = ns.map Sum.inl) : EvP (tCB rLstD (tCons te tNil)) σ H (NewD K H (ns.map .int)) := fun H1 e Q q =>
  h H1 e _ fun v H2 e2 p => by
    obtain ⟨a, kvs, rfl, ha, hk⟩ := hd v H2 (e.trans e2) p
    refine ⟨a, kvs, rfl, ha, fun l hl => q _ _ (e2.trans (Ex.new hl)) (newD_ints (fresh_back (e.trans e2) hl) ?_)⟩
    rw [upd_same, kV_inls _ _ hk]
/-- sorted(xs), no int twice -/
theorem en_sortI {ns : List Int} (h : EvD K te σ H (.list (ns.map .int))) (hn : ns.Nodup) : EvP (tCB (rSortedI K) (tCons te tNil)) σ H (NewD K H ((norm ns).map .int)) := fun H1 e Q q =>
  h H1 e _ fun v H2 e2 p => by
    obtain ⟨a, rfl, ha⟩ := dp_lstI p
    refine ⟨a, ns, rfl, ha, fun ys l hp hs hl => ?_⟩
    rw [perm_asc hp hs hn]
    exact q _ _ (e2.trans (Ex.new hl)) (newD_ints (fresh_back (e.trans e2) hl) upd_same)
/-- sorted(d), d a dict with int keys -/
def rSrtD : List V → Hp → VK → Prop := fun xs H Q => ∃ (a : Addr) (kvs : List (Key × V)) (ks : List Int), xs = [.ref a] ∧ Rd H a (.dK kvs) ∧ kvs.map (·.1) = ks.map Sum.inl ∧ ks.length < 64 ∧
    ∀ (ys : List Int) (p : Addr), ys.Perm ks → ys.Pairwise (· ≤ ·) → H p = none → Q (.ref p) (upd H p (.lst (ys.map V.int)))
theorem en_sortD {P : PV} {ns : List Int} (h : EvP te σ H P) (hn : ns.Nodup) (hl : ns.length < 64) (hd : ∀ v H1, Ex H H1 → P v H1 → ∃ a kvs, v = .ref a ∧ Rd H1 a (.dK kvs) ∧ kvs.map (·.1) = ns.map Sum.inl) : EvP (tCB rSrtD (tCons te tNil)) σ H (NewD K H ((norm ns).map .int)) := fun H1 e Q q =>
  h H1 e _ fun v H2 e2 p => by
    obtain ⟨a, kvs, rfl, ha, hk⟩ := hd v H2 (e.trans e2) p
    refine ⟨a, kvs, ns, rfl, ha, hk, hl, fun ys l hp hs hl => ?_⟩
    rw [perm_asc hp hs hn]
    exact q _ _ (e2.trans (Ex.new hl)) (newD_ints (fresh_back (e.trans e2) hl) upd_same)
/-- sorted(list({a: .. for a in ns})) -/
theorem norm_dedup (ns : List Int) : norm (dedup [] ns) = norm ns := norm_eq (asc_norm _) fun k => by rw [mem_norm, mem_dedup]; simp
theorem dictN_keys {H0 : Hp} {v : V} {f : Int → V} {ns : List Int} (h : DictN H0 (ns.foldl (fun kvs a => putK kvs (Sum.inl a) (f a)) []) v H) : ∃ a kvs, v = .ref a ∧ Rd H a (.dK kvs) ∧ kvs.map (·.1) = (dedup [] ns).map Sum.inl := by
  obtain ⟨D, rfl, h1, h2⟩ := h
  exact ⟨D, _, rfl, .inl h2, foldl_keys ns [] [] rfl⟩
/-- {name: True for name in ns} -/
theorem ek_true {wi : TI} {j : Nat} {ns : List Int} (h : EvI K wi σ H (ns.map .int)) (hz : ns.length ≤ 40000) (hw : ∀ x, wipe ((wipe σ [j]).set j (some x)) [j] = wipe σ [j]) (hj : j < σ.length) :
    EvP (tDc wi (gName j) tYes (tVar j) (tC (.bl true)) [j]) σ H (DictN H (ns.foldl (fun kvs a => putK kvs (Sum.inl a) (.bl true)) [])) := by
  have hd := ek_dc (K := K) (g := gName j) (tt := tYes) (tk := tVar j) (tv := tC (.bl true)) (vs := [j]) ns PyData.int (fun _ => true) Sum.inl (fun _ => .bl true) h hz (fun a ha x H2 e2 hx => by
    rw [dp_int hx]
    exact fun H3 e3 Q q => gp_name H3 e3 Q fun σ' hs => q σ' (by
      subst hs
      refine ⟨hw _, fun H4 e4 Q q => q H4 (Ex.refl H4), fun _ => ⟨ev_var ?_, ev_c⟩⟩
      rw [List.getElem?_set_self (by simpa [wipe] using hj)] <;> rfl))
  rw [filt_all] at hd
  exact hd
/-! ### things -/
def kvsOf (ts : Ths) (us : List V) : List (Key × V) := ((names ts).map Sum.inl).zip us
/-- at d: the dict of the things, open or walked -/
def ThR (K : PySem.W.Frag) (H : Hp) (d : Addr) (ts : Ths) : Prop := ∃ us, Rd H d (.dK (kvsOf ts us)) ∧ DpAll K H us (ts.map fun p => thD p.2)
/-- .. open -/
def ThO (K : PySem.W.Frag) (H : Hp) (d : Addr) (ts : Ths) : Prop := ∃ us, H d = some (.dK (kvsOf ts us)) ∧ DpAll K H us (ts.map fun p => thD p.2)
theorem ThO.r {d : Addr} {ts : Ths} (h : ThO K H d ts) : ThR K H d ts := by
  obtain ⟨us, h1, h2⟩ := h
  exact ⟨us, .inl h1, h2⟩
theorem ThR.ex {d : Addr} {ts : Ths} (e : Ex H H') (h : ThR K H d ts) : ThR K H' d ts := by
  obtain ⟨us, h1, h2⟩ := h
  exact ⟨us, ex_rd e h1, dpA_ex e _ _ h2⟩
theorem ThO.ex {d : Addr} {ts : Ths} (e : Ex H H') (h : ThO K H d ts) : ThO K H' d ts := by
  obtain ⟨us, h1, h2⟩ := h
  exact ⟨us, e d _ h1, dpA_ex e _ _ h2⟩
theorem imm_thD (t : Th) : imm (thD t) = true := by
  cases t with
  | blob o => exact (show (imm (.str "blob") && (imm (intsD o) && true)) = true by rw [show imm (intsD o) = true from immA_ints o] <;> rfl)
  | tree rows =>
    have : immA (rows.map rowD) = true := immA_iff.mpr fun d hd => by
      obtain ⟨r, _, rfl⟩ := List.mem_map.mp hd
      rfl
    exact (show (imm (.str "tree") && (immA (rows.map rowD) && true)) = true by rw [this] <;> rfl)
  | commit t ps => exact (show (imm (.str "commit") && (imm (.int t) && (imm (intsD ps) && (imm (.int 1) && (imm (.tuple []) && true))))) = true by rw [show imm (intsD ps) = true from immA_ints ps] <;> rfl)
  | tag n => rfl
theorem imm_ths (ts : Ths) : immA (ts.map fun p => thD p.2) = true := immA_iff.mpr fun d hd => by
  obtain ⟨r, _, rfl⟩ := List.mem_map.mp hd
  exact imm_thD _
/-- walked: all else as it was -/
theorem ThO.lock {d : Addr} {ts : Ths} {o : Obj} (h : ThO K H d ts) : ∃ us, H d = some (.dK (kvsOf ts us)) ∧ ThR K (upd H d (.frz o (.dK (kvsOf ts us)))) d ts := by
  obtain ⟨us, h1, h2⟩ := h
  exact ⟨us, h1, us, .inr ⟨o, upd_same⟩, dpA_tk (TupK.upd (nrd_dK h1)) _ _ (imm_ths ts) h2⟩
theorem kvs_keys {ts : Ths} {us : List V} (h : us.length = ts.length) : (kvsOf ts us).map (·.1) = (names ts).map Sum.inl := by
  unfold kvsOf
  rw [List.map_fst_zip (by simp [names, h])]
theorem valV_ths : ∀ {ts : Ths} {us : List V} {n : Int}, DpAll K H us (ts.map fun p => thD p.2) → (match thOf ts n with
    | some t => ∃ v, valV (kvsOf ts us) (Sum.inl n) = some v ∧ Dp K H v (thD t)
    | none => valV (kvsOf ts us) (Sum.inl n) = none)
  | [], us, n, h => by
    cases h
    exact valV_nil
  | p :: ts, us, n, h => by
    cases us with
    | nil => cases h
    | cons u us' =>
      obtain ⟨h1, h2⟩ : Dp K H u (thD p.2) ∧ DpAll K H us' (ts.map fun p => thD p.2) := by
        cases h with
        | cons a b => exact ⟨a, b⟩
      have ih := valV_ths (n := n) h2
      unfold thOf
      by_cases e : p.1 = n
      · rw [if_pos e]
        refine ⟨u, ?_, h1⟩
        show valV ((Sum.inl p.1, u) :: kvsOf ts us') (Sum.inl n) = some u
        exact valV_pos (p := (Sum.inl p.1, u)) (by rw [e])
      · rw [if_neg e]
        have : valV (kvsOf (p :: ts) (u :: us')) (Sum.inl n) = valV (kvsOf ts us') (Sum.inl n) := valV_neg (p := (Sum.inl p.1, u)) (fun z => e (Sum.inl.inj z))
        rw [this]
        exact ih
theorem dget_of {d : Addr} {kvs : List (Key × V)} {k : Key} (h : Rd H d (.dK kvs)) : DGet H d (kV k) (valV kvs k) := .inl ⟨kvs, k, h, rfl, rfl⟩
/-- things[n], n there -/
theorem ed_dget {d : Addr} {ts : Ths} {n : Int} {t : Th} (hd : Ev ta σ H (.ref d)) (hn : Ev tb σ H (.int n)) (h : ThR K H d ts) (ht : thOf ts n = some t) : EvD K (tDGet ta tb) σ H (thD t) := fun H1 e Q q =>
  hd H1 e _ fun H2 e2 => hn H2 (e.trans e2) _ fun H3 e3 => by
    obtain ⟨us, h1, h2⟩ := h.ex ((e.trans e2).trans e3)
    have hv := valV_ths (n := n) h2
    rw [ht] at hv
    obtain ⟨v, hv1, hv2⟩ := hv
    exact ⟨d, v, rfl, hv1 ▸ dget_of (k := Sum.inl n) h1, q v H3 (e2.trans e3) hv2⟩
/-- n in things -/
theorem ev_din {d : Addr} {ts : Ths} {n : Int} (hn : Ev ta σ H (.int n)) (hd : Ev tb σ H (.ref d)) (h : ThR K H d ts) : Ev (tDIn ta tb) σ H (.bl (has ts n)) := fun H1 e Q q =>
  hn H1 e _ fun H2 e2 => hd H2 (e.trans e2) _ fun H3 e3 => by
    obtain ⟨us, h1, h2⟩ := h.ex ((e.trans e2).trans e3)
    have hv := valV_ths (n := n) h2
    refine ⟨d, valV (kvsOf ts us) (Sum.inl n), rfl, dget_of (k := Sum.inl n) h1, ?_⟩
    have eb : (valV (kvsOf ts us) (Sum.inl n)).isSome = has ts n := by
      by_cases hin : n ∈ names ts
      · obtain ⟨t, ht⟩ := thOf_some hin
        rw [ht] at hv
        obtain ⟨v, hv1, _⟩ := hv
        rw [hv1, has_iff.mpr hin] <;> rfl
      · rw [thOf_none hin] at hv
        rw [hv]
        have : has ts n = false := by
          cases q : has ts n with
          | false => rfl
          | true => exact absurd (has_iff.mp q) hin
        rw [this] <;> rfl
    rw [eb]
    exact q H3 (e2.trans e3)
theorem ev_dnotin {d : Addr} {ts : Ths} {n : Int} (hn : Ev ta σ H (.int n)) (hd : Ev tb σ H (.ref d)) (h : ThR K H d ts) : Ev (tDNotIn ta tb) σ H (.bl (!has ts n)) := fun H1 e Q q =>
  hn H1 e _ fun H2 e2 => hd H2 (e.trans e2) _ fun H3 e3 => by
    obtain ⟨us, h1, h2⟩ := h.ex ((e.trans e2).trans e3)
    have hv := valV_ths (n := n) h2
    refine ⟨d, valV (kvsOf ts us) (Sum.inl n), rfl, dget_of (k := Sum.inl n) h1, ?_⟩
    have eb : (valV (kvsOf ts us) (Sum.inl n)).isSome = has ts n := by
      by_cases hin : n ∈ names ts
      · obtain ⟨t, ht⟩ := thOf_some hin
        rw [ht] at hv
        obtain ⟨v, hv1, _⟩ := hv
        rw [hv1, has_iff.mpr hin] <;> rfl
      · rw [thOf_none hin] at hv
        rw [hv]
        have : has ts n = false := by
          cases q : has ts n with
          | false => rfl
          | true => exact absurd (has_iff.mp q) hin
        rw [this] <;> rfl
    rw [eb]
    exact q H3 (e2.trans e3)
end
end Kw
end
section
/-! KwD3: parts_of, kinds_let, thing_links, links_to, links_there. -/
namespace Kw
open PySem PySem.Spec PyProof.Rows L2 Evl
def strsD (ks : List Str) : PyData := .tuple (ks.map .str)
def Th.no : Th → Int
  | .blob _ => 0
  | .tree _ => 1
  | .commit _ _ => 2
  | .tag _ => 3
def linkD (p : Int × List Str) : PyData := .tuple [.int p.1, strsD p.2]
def spParts (K : PySem.W.Frag) : Sp := fun vs H Q _ => ∃ (v : V) (t : Th), vs = [v] ∧ Dp K H v (thD t) ∧ t.Ok ∧ RetP H (fun v H' => ∃ own, Dp K H' v (.tuple [.int t.no, intsD own, intsD t.links])) Q
def spKinds (K : PySem.W.Frag) : Sp := fun vs H Q _ => ∃ (v : V) (t : Th), vs = [v] ∧ Dp K H v (thD t) ∧ t.Ok ∧ RetP H (fun v H' => Dp K H' v (.tuple (t.kinds.map strsD))) Q
def spTLinks (K : PySem.W.Frag) : Sp := fun vs H Q _ => ∃ (v : V) (t : Th), vs = [v] ∧ Dp K H v (thD t) ∧ t.Ok ∧ RetP H (fun v H' => Dp K H' v (.tuple ((t.links.zip t.kinds).map linkD))) Q
def spLinksTo (K : PySem.W.Frag) : Sp := fun vs H Q _ => ∃ (v : V) (t : Th), vs = [v] ∧ Dp K H v (thD t) ∧ t.Ok ∧ RetP H (fun v H' => Dp K H' v (intsD (norm t.links))) Q
def spThere (K : PySem.W.Frag) : Sp := fun vs H Q _ => ∃ (d : Addr) (n : Int) (ts : Ths) (t : Th), vs = [.ref d, .int n] ∧ ThR K H d ts ∧ TsOk ts ∧ thOf ts n = some t ∧ RetP H (NewD K H ((there ts n).map .int)) Q
theorem imm_intsD (ns : List Int) : imm (intsD ns) = true := immA_ints ns
theorem imm_strsD (ks : List Str) : imm (strsD ks) = true := by
  show immA (ks.map .str) = true
  rw [immA_iff]
  intro d hd
  obtain ⟨n, _, rfl⟩ := List.mem_map.mp hd
  rfl
theorem ed_word {K : PySem.W.Frag} {σ : L2.St} {H : Hp} {te : TE} {t : Th} (h : EvD K te σ H (thD t)) : EvD K (tOp (rIxT K) te (tC (.int 0))) σ H (.str t.word) := by
  cases t <;> exact ed_ixT (n := 0) h ev_c rfl
theorem et_eqS {σ : L2.St} {H : Hp} {te : TE} {x x' y : Str} {b : Bool} (h : Ev te σ H (.str x)) (hx : x = x') (hb : decide (x' = y) = b) : EvT (tTest (tOp rEq te (tC (.str y)))) σ H b :=
  et_is (et_test (ev_op h ev_c (rv_eq rfl))) (by
    subst hx
    rw [← hb]
    by_cases q : x = y
    · rw [decide_eq_true q, decide_eq_true (by rw [q])]
    · rw [decide_eq_false q, decide_eq_false (fun z => q (V.str.inj z))])
/-- KINDS[lo:hi] -/
theorem ed_kinds {K : PySem.W.Frag} {σ : L2.St} {H : Hp} {aK : Addr} {tl th : TO} {lo hi : Option Int} {w : Str} (sK : ∀ H, SqT K H aK [.str "blob", .str "tree", .str "commit", .str "tag"]) (hl : EvO tl σ H lo) (hh : EvO th σ H hi)
    (hn : ¬ (HT.sIx 4 0 lo = 0 ∧ HT.sIx 4 4 hi = 4)) (hc : cutV [V.str "blob", V.str "tree", V.str "commit", V.str "tag"] lo hi = [V.str w]) : EvD K (tSl (rSlA K) (tC (.ref aK)) tl th) σ H (strsD [w]) := fun H1 e Q q =>
  hl H1 e _ fun H2 e2 => hh H2 (e.trans e2) _ fun H3 e3 => ⟨aK, _, rfl, sK H3, fun z => absurd z hn, fun _ p hp => q (.ref p) _ ((e2.trans e3).trans (Ex.new hp)) (.tup (st_of upd_same) (by rw [hc]; exact .cons (.str w) .nil))⟩
theorem eo_int {σ : L2.St} {H : Hp} {i : Int} : EvO (tPart (tC (.int i))) σ H (some i) := fun H1 _ _ q => ⟨i, rfl, q H1 (Ex.refl H1)⟩
theorem eo_none {σ : L2.St} {H : Hp} : EvO tNoPart σ H none := fun H1 _ _ q => q H1 (Ex.refl H1)
theorem dpA_of {K : PySem.W.Frag} {H : Hp} : ∀ (vs : List V) (ds : List PyData), vs.length = ds.length → (∀ (i : Nat) (v : V) (d : PyData), vs[i]? = some v → ds[i]? = some d → Dp K H v d) → DpAll K H vs ds
  | [], [], _, _ => .nil
  | [], _ :: _, h, _ => by cases h
  | _ :: _, [], h, _ => by cases h
  | v :: vs, d :: ds, h, k => .cons (k 0 v d rfl rfl) (dpA_of vs ds (by simpa using h) fun i w e h1 h2 => k (i + 1) w e (by simpa using h1) (by simpa using h2))
/-- list(zip(t, u)) -/
theorem ed_zip {K : PySem.W.Frag} {σ : L2.St} {H : Hp} {ta tb : TE} {ds es : List PyData} (h : EvD K ta σ H (.tuple ds)) (h' : EvD K tb σ H (.tuple es)) (hl : ds.length = es.length) :
    EvD K (tZipL K (tCons ta (tCons tb tNil))) σ H (.list ((ds.zip es).map fun p => .tuple [p.1, p.2])) := fun H1 e Q q =>
  h H1 e _ fun v H2 e2 p => h' H2 (e.trans e2) _ fun w H3 e3 p' => by
    obtain ⟨a, xs, rfl, hs, ha⟩ := dp_tup (dp_ex e3 _ _ p)
    obtain ⟨b, ys, rfl, hs', ha'⟩ := dp_tup p'
    have l1 := dpA_len ha
    have l2 := dpA_len ha'
    refine ⟨a, b, xs, ys, rfl, hs, hs', by rw [l1, l2, hl], fun H' p ts e4 np hp lt ht => q _ H' ((e2.trans e3).trans e4) (.lst (sq_of hp) (dpA_of _ _ (by simp; omega) fun i v d hv hd => ?_))⟩
    obtain ⟨t, ht1, rfl⟩ : ∃ t, ts[i]? = some t ∧ V.ref t = v := by simpa using hv
    have hi : i < ts.length := (List.getElem?_eq_some_iff.mp ht1).1
    obtain ⟨d1, hd1⟩ : ∃ d, ds[i]? = some d := ⟨ds[i]'(by omega), List.getElem?_eq_getElem _⟩
    obtain ⟨d2, hd2⟩ : ∃ d, es[i]? = some d := ⟨es[i]'(by omega), List.getElem?_eq_getElem _⟩
    have hz : (ds.zip es)[i]? = some (d1, d2) := List.getElem?_zip_eq_some.mpr ⟨hd1, hd2⟩
    have ed : d = .tuple [d1, d2] := by
      rw [List.getElem?_map, hz] at hd
      exact (Option.some.inj hd).symm
    subst ed
    obtain ⟨x, hx, px⟩ := dpA_get ha hd1
    obtain ⟨y, hy, py⟩ := dpA_get ha' hd2
    exact .tup (st_of (ht i t x y ht1 hx hy)) (.cons (dp_ex e4 _ _ px) (.cons (dp_ex e4 _ _ py) .nil))
section
variable {P : Program} {w : World} {K : PySem.W.Frag} {mg : Str → Option Value} {base : Heap}
theorem sc_parts_of : FnScope ["thing", "word", "own", "label", "mark", "name"] ["thing"] (defScope (top 21)) := ⟨rfl, rfl, rfl, by decide +kernel, rfl, by decide +kernel, by decide +kernel⟩
theorem cal_parts_of (T : Tx K mg) (c_write_number : Cal P w K mg base "write_number" 3 ["number"] (spWNum K)) (c_write_octets : Cal P w K mg base "write_octets" 5 ["octets"] (spWOct K)) (c_write_row : Cal P w K mg base "write_row" 6 ["parts"] (spWRow K)) : Cal P w K mg base "parts_of" 7 ["thing"] (spParts K) := by
  obtain ⟨f, fd, F, hm⟩ := T.fn 9 "parts_of" (top 21) rfl
  refine cal_of F hm (fun _ _ _ _ _ _ us hl => match us, hl with | [_], _ => rfl) (F.ok sc_parts_of (fun vs H Q E h => by obtain ⟨_, _,  rfl, _⟩ := h <;> rfl) (fun cdv A outer s H vs Q E hr h => ⟨_, PSs.nox (pss_cons (ps_set (i := 1) sc_parts_of.nd rfl (.inl rfl) (pe_ix ix_tup (pv 0) pe_int (fun _ _ => rfl)))
      (pss_cons (ps_if (pt_cmpR op_eq (pv 1) pe_str (nomark _)) (pss_one (ps_ret (pe_tup (pa_cons pe_int (pa_cons (pe_ix ix_tup (pv 0) pe_int (fun _ _ => rfl)) (pa_cons (pe_tup pa_nil) pa_nil)))))) pss_nil)
      (pss_cons (ps_if (pt_cmpR op_eq (pv 1) pe_str (nomark _)) (pss_cons (ps_set (i := 2) sc_parts_of.nd rfl (.inl rfl) (pe_cal c_write_row (hr.mono (by decide)) rfl (pa_cons (pe_lc (own := [("label", 3), ("mark", 4), ("name", 5)]) (g := (gTup K 3 (gCons (gName 3) (gCons (gName 4) (gCons (gName 5) gNil))))) (tt := tYes) (te := (tOp (rCatA K) (tVar 3) (tTup (tCons (tVar 4) tNil)))) rfl sc_parts_of.nd (pi_tup (pe_ix ix_tup (pv 0) pe_int (fun _ _ => rfl))) (blkOk_by (N := ["thing", "word", "own", "label", "mark", "name"]) (sc := defScope (top 21)) (by decide +kernel)) (fun _ _ _ _ _ => (pg_tup rfl (pgs_cons (pg_name (i := 3) sc_parts_of.nd rfl (.inl rfl)) (pgs_cons (pg_name (i := 4) sc_parts_of.nd rfl (.inl rfl)) (pgs_cons (pg_name (i := 5) sc_parts_of.nd rfl (.inl rfl)) pgs_nil))))) (fun _ _ _ _ _ => pts_nil) (fun _ _ _ _ _ => (pe_op op_catA (pv 3) (pe_tup (pa_cons (pv 4) pa_nil))))) pa_nil)))
      (pss_one (ps_ret (pe_tup (pa_cons pe_int (pa_cons (pv 2) (pa_cons (pe_callTy call_tuple_of rfl (T.fr "tuple" (by decide)) boot_tuple (pa_cons (pe_lc (own := [("label", 3), ("mark", 4), ("name", 5)]) (g := (gTup K 3 (gCons (gName 3) (gCons (gName 4) (gCons (gName 5) gNil))))) (tt := tYes) (te := (tVar 5)) rfl sc_parts_of.nd (pi_tup (pe_ix ix_tup (pv 0) pe_int (fun _ _ => rfl))) (blkOk_by (N := ["thing", "word", "own", "label", "mark", "name"]) (sc := defScope (top 21)) (by decide +kernel)) (fun _ _ _ _ _ => (pg_tup rfl (pgs_cons (pg_name (i := 3) sc_parts_of.nd rfl (.inl rfl)) (pgs_cons (pg_name (i := 4) sc_parts_of.nd rfl (.inl rfl)) (pgs_cons (pg_name (i := 5) sc_parts_of.nd rfl (.inl rfl)) pgs_nil))))) (fun _ _ _ _ _ => pts_nil) (fun _ _ _ _ _ => (pv 5))) pa_nil)) pa_nil))))))) pss_nil)
      (pss_cons (ps_if (pt_cmpR op_eq (pv 1) pe_str (nomark _)) (pss_one (ps_ret (pe_tup (pa_cons pe_int (pa_cons (pe_op op_catA (pe_cal c_write_number (hr.mono (by decide)) rfl (pa_cons (pe_ix ix_tup (pv 0) pe_int (fun _ _ => rfl)) pa_nil)) (pe_cal c_write_octets (hr.mono (by decide)) rfl (pa_cons (pe_ix ix_tup (pv 0) pe_int (fun _ _ => rfl)) pa_nil))) (pa_cons (pe_op op_catA (pe_tup (pa_cons (pe_ix ix_tup (pv 0) pe_int (fun _ _ => rfl)) pa_nil)) (pe_ix ix_tup (pv 0) pe_int (fun _ _ => rfl))) pa_nil)))))) pss_nil)
      (pss_one (ps_ret (pe_tup (pa_cons pe_int (pa_cons (pe_ix ix_tup (pv 0) pe_int (fun _ _ => rfl)) (pa_cons (pe_tup (pa_cons (pe_ix ix_tup (pv 0) pe_int (fun _ _ => rfl)) pa_nil)) pa_nil)))))))))), ?_⟩))
  obtain ⟨v, t, rfl, hv, ht, hQ⟩ := h
  refine q_asg (v := .str t.word) (evS (ed_word (K := K) (ed_var rfl hv))) (fun H1 e1 => ?_)
  have hth : ∀ H2, Ex H1 H2 → EvD K (tVar 0) ((start ["thing", "word", "own", "label", "mark", "name"] [v]).set 1 (some (V.str t.word))) H2 (thD t) := fun H2 e2 => ed_var rfl (dp_ex (e1.trans e2) _ _ hv)
  have hw : ∀ H2, Ev (tVar 1) ((start ["thing", "word", "own", "label", "mark", "name"] [v]).set 1 (some (V.str t.word))) H2 (.str t.word) := fun H2 => ev_var rfl
  cases t with
  | blob o =>
    refine q_when (b := true) (et_eqS (x' := "blob") (hw _) rfl (by decide)) (fun _ H2 e2 => ?_) (fun z => by cases z)
    refine s_retR (P := fun v H' => ∃ own, Dp K H' v (.tuple [.int 0, intsD own, intsD []])) (EvP.imp (ed_tup (eds_cons ed_int (eds_cons (ed_ixT (n := 1) (hth _ e2) ev_c rfl) (eds_cons (ed_tup eds_nil (by simp)) eds_nil))) (by simp)) fun v' H' _ p => ⟨o, p⟩) (fun v' H3 e3 q => hQ v' H3 ((e1.trans e2).trans e3) q)
  | tree rows =>
    refine q_when (b := false) (et_eqS (x' := "tree") (hw _) rfl (by decide)) (fun z => by cases z) (fun _ H2 e2 => ?_)
    refine q_when (b := true) (et_eqS (x' := "tree") (hw _) rfl (by decide)) (fun _ H3 e3 => ?_) (fun z => by cases z)
    have e23 := e2.trans e3
    have wi_ : ∀ σ', σ'[0]? = some (some v) → ∀ H4, Ex H3 H4 → EvI K (iTup K (tOp (rIxT K) (tVar 0) (tC (.int 1)))) σ' H4 (rows.map rowD) := fun σ' hs H4 e4 => ei_tup (ed_ixT (n := 1) (ed_var hs (dp_ex ((e1.trans e23).trans e4) _ _ hv)) ev_c rfl)
    refine q_asgP (P := fun v' H' => Dp K H' v' (intsD (wrow (rows.map fun r => [r.1, r.2.1])))) (ep_call (P := fun vs H' => ∃ u, vs = [u] ∧ Dp K H' u (.list ((rows.map fun r => [r.1, r.2.1]).map intsD))) (epa_one (en_map rows rowD (fun r => intsD [r.1, r.2.1]) (wi_ _ rfl _ (Ex.refl _)) (by have := ht.1; omega) (fun _ _ => imm_intsD _) (fun r hr x H4 e4 hx => ?_)) (fun u H4 e4 p => ⟨u, rfl, ?_⟩)) (fun vs H4 e4 p Q q => ?_)) (fun v' H4 e4 hv' => ?_)
    · refine fun H5 e5 Q q => gp_tup3 hx H5 e5 Q fun σ2 hs2 => q σ2 ?_
      obtain ⟨v1, v2, v3, d1, d2, d3, rfl⟩ := hs2
      refine ⟨rfl, ?_⟩
      refine ed_cat (K := K) (ds := [.int r.1]) (es := [.int r.2.1]) (ed_var (n := 3) rfl d1) (ed_tup (eds_cons (ed_var (n := 4) rfl d2) eds_nil) (by simp)) (by simp)
    · have := p.dp
      rw [List.map_map]
      exact this
    · obtain ⟨u, rfl, pu⟩ := p
      refine ⟨u, _, rfl, pu, fun ns hns => ?_, by simp; have := ht.1; omega, q⟩
      obtain ⟨r, hr, rfl⟩ := List.mem_map.mp hns
      have := ht.2 r hr
      refine ⟨fun n hn => ?_, by simp⟩
      rcases List.mem_cons.mp hn with e | hn
      · rw [e]; omega
      · have e : n = r.2.1 := by simpa using hn
        rw [e]; omega
    · refine s_retR (P := fun v H' => ∃ own, Dp K H' v (.tuple [.int 1, intsD own, intsD (Th.tree rows).links])) (EvP.imp (ed_tup (eds_cons ed_int (eds_cons (ed_var (n := 2) rfl hv') (eds_cons (ed_tupL (EvP.imp (en_map rows rowD (fun r => .int r.2.2) (wi_ _ rfl _ e4) (by have := ht.1; omega) (fun _ _ => rfl) (fun r hr x H5 e5 hx => ?_)) fun _ _ _ p => p.dp)) eds_nil))) (by simp)) fun v' H' _ p => ⟨wrow (rows.map fun r => [r.1, r.2.1]), ?_⟩) (fun v' H5 e5 q => hQ v' H5 (((e1.trans e23).trans e4).trans e5) q)
      · refine fun H6 e6 Q q => gp_tup3 hx H6 e6 Q fun σ2 hs2 => q σ2 ?_
        obtain ⟨v1, v2, v3, d1, d2, d3, rfl⟩ := hs2
        exact ⟨rfl, ed_var (n := 5) rfl d3⟩
      · rw [show intsD (Th.tree rows).links = .tuple (rows.map fun r => .int r.2.2) by simp [intsD, Th.links]]
        exact p
  | commit tr ps =>
    refine q_when (b := false) (et_eqS (x' := "commit") (hw _) rfl (by decide)) (fun z => by cases z) (fun _ H2 e2 => ?_)
    refine q_when (b := false) (et_eqS (x' := "commit") (hw _) rfl (by decide)) (fun z => by cases z) (fun _ H3 e3 => ?_)
    refine q_when (b := true) (et_eqS (x' := "commit") (hw _) rfl (by decide)) (fun _ H4 e4 => ?_) (fun z => by cases z)
    have e24 := (e2.trans e3).trans e4
    have hh := hth _ e24
    have hown : EvD K (tOp (rCatA K) (tCall (spWNum K) [] E0 (tCons (tOp (rIxT K) (tVar 0) (tC (.int 3))) tNil)) (tCall (spWOct K) [] E0 (tCons (tOp (rIxT K) (tVar 0) (tC (.int 4))) tNil))) ((start ["thing", "word", "own", "label", "mark", "name"] [v]).set 1 (some (V.str (Th.commit tr ps).word))) H4 (intsD (wnum 1 ++ woct [])) := by
      rw [intsD_app]
      refine ed_cat ?_ ?_ (by decide)
      · exact ep_call (P := fun vs _ => vs = [.int 1]) (epa_one (ed_ixT (n := 3) (d := .int 1) hh ev_c rfl) fun v' _ _ p => by rw [dp_int p]) (fun vs H2 e p Q q => ⟨1, by rw [p] <;> rfl, by decide, q⟩)
      · exact ep_call (P := fun vs H' => ∃ u, vs = [u] ∧ Dp K H' u (intsD [])) (epa_one (ed_ixT (n := 4) (d := intsD []) hh ev_c rfl) fun v' _ _ p => ⟨v', rfl, p⟩) (fun vs H2 e p Q q => by
          obtain ⟨u, rfl, pu⟩ := p
          exact ⟨u, [], rfl, pu, fun _ h => (by cases h), by decide, q⟩)
    refine s_retR (P := fun v H' => ∃ own, Dp K H' v (.tuple [.int 2, intsD own, intsD (tr :: ps)])) (EvP.imp (ed_tup (eds_cons ed_int (eds_cons hown (eds_cons (ed_cat (ds := [.int tr]) (es := ps.map .int) (ed_tup (eds_cons (ed_ixT (n := 1) hh ev_c rfl) eds_nil) (by simp)) (ed_ixT (n := 2) (d := intsD ps) hh ev_c rfl) (by have := ht.1; simp; omega)) eds_nil))) (by simp)) fun v' H' _ p => ⟨_, p⟩) (fun v' H5 e5 q => hQ v' H5 ((e1.trans e24).trans e5) q)
  | tag n =>
    refine q_when (b := false) (et_eqS (x' := "tag") (hw _) rfl (by decide)) (fun z => by cases z) (fun _ H2 e2 => ?_)
    refine q_when (b := false) (et_eqS (x' := "tag") (hw _) rfl (by decide)) (fun z => by cases z) (fun _ H3 e3 => ?_)
    refine q_when (b := false) (et_eqS (x' := "tag") (hw _) rfl (by decide)) (fun z => by cases z) (fun _ H4 e4 => ?_)
    have e24 := (e2.trans e3).trans e4
    have hh := hth _ e24
    refine s_retR (P := fun v H' => ∃ own, Dp K H' v (.tuple [.int 3, intsD own, intsD [n]])) (EvP.imp (ed_tup (eds_cons ed_int (eds_cons (ed_ixT (n := 2) (d := intsD []) hh ev_c rfl) (eds_cons (ed_tup (eds_cons (ed_ixT (n := 1) hh ev_c rfl) eds_nil) (by simp)) eds_nil))) (by simp)) fun v' H' _ p => ⟨_, p⟩) (fun v' H5 e5 q => hQ v' H5 ((e1.trans e24).trans e5) q)
theorem sc_kinds_let : FnScope ["thing", "word", "label", "mark", "name"] ["thing"] (defScope (top 22)) := ⟨rfl, rfl, rfl, by decide +kernel, rfl, by decide +kernel, by decide +kernel⟩
theorem cal_kinds_let (T : Tx K mg) : Cal P w K mg base "kinds_let" 1 ["thing"] (spKinds K) := by
  obtain ⟨f, fd, F, hm⟩ := T.fn 10 "kinds_let" (top 22) rfl
  obtain ⟨aK, hKinds, sKinds⟩ := T.gKinds
  obtain ⟨tT, hTree⟩ := T.gTree
  refine cal_of F hm (fun _ _ _ _ _ _ us hl => match us, hl with | [_], _ => rfl) (F.ok sc_kinds_let (fun vs H Q E h => by obtain ⟨_, _,  rfl, _⟩ := h <;> rfl) (fun cdv A outer s H vs Q E hr h => ⟨_, PSs.nox (pss_cons (ps_set (i := 1) sc_kinds_let.nd rfl (.inl rfl) (pe_ix ix_tup (pv 0) pe_int (fun _ _ => rfl)))
      (pss_cons (ps_if (pt_cmpR op_eq (pv 1) pe_str (nomark _)) (pss_one (ps_ret (pe_callTy call_tuple_of rfl (T.fr "tuple" (by decide)) boot_tuple (pa_cons (pe_lc (own := [("label", 2), ("mark", 3), ("name", 4)]) (g := (gTup K 3 (gCons (gName 2) (gCons (gName 3) (gCons (gName 4) gNil))))) (tt := tYes) (te := (tIf (tTest (tOp _ (tVar 3) (tC (.int 2)))) (tSl (rSlA K) (tC (.ref aK)) (tPart (tC (.int 1))) (tPart (tC (.int 2)))) (tSl (rSlA K) (tC (.ref aK)) tNoPart (tPart (tC (.int 1)))))) rfl sc_kinds_let.nd (pi_tup (pe_ix ix_tup (pv 0) pe_int (fun _ _ => rfl))) (blkOk_by (N := ["thing", "word", "label", "mark", "name"]) (sc := defScope (top 22)) (by decide +kernel)) (fun _ _ _ _ _ => (pg_tup rfl (pgs_cons (pg_name (i := 2) sc_kinds_let.nd rfl (.inl rfl)) (pgs_cons (pg_name (i := 3) sc_kinds_let.nd rfl (.inl rfl)) (pgs_cons (pg_name (i := 4) sc_kinds_let.nd rfl (.inl rfl)) pgs_nil))))) (fun _ _ _ _ _ => pts_nil) (fun _ _ _ _ _ => (pe_ifExp (pt_cmpR op_eq (pv 3) (pe_glob (v := .int 2) rfl hTree ⟨_, rfl⟩) (nomark _)) (pe_slice sl_tupA (pe_glob (v := .ref aK) rfl hKinds rfl) (po_some pe_int) (po_some pe_int)) (pe_slice sl_tupA (pe_glob (v := .ref aK) rfl hKinds rfl) po_none (po_some pe_int))))) pa_nil)))) pss_nil)
      (pss_cons (ps_if (pt_cmpR op_eq (pv 1) pe_str (nomark _)) (pss_one (ps_ret (pe_op op_catA (pe_tup (pa_cons (pe_slice sl_tupA (pe_glob (v := .ref aK) rfl hKinds rfl) (po_some pe_int) (po_some pe_int)) pa_nil)) (pe_op op_repA (pe_tup (pa_cons (pe_slice sl_tupA (pe_glob (v := .ref aK) rfl hKinds rfl) (po_some pe_int) (po_some pe_int)) pa_nil)) (pe_callB call_len_seq rfl (T.fr "len" (by decide)) boot_len (pa_cons (pe_ix ix_tup (pv 0) pe_int (fun _ _ => rfl)) pa_nil)))))) pss_nil)
      (pss_one (ps_ret (pe_ifExp (pt_cmpR op_eq (pv 1) pe_str (nomark _)) (pe_tup (pa_cons (pe_glob (v := .ref aK) rfl hKinds rfl) pa_nil)) (pe_tup pa_nil))))))), ?_⟩))
  obtain ⟨v, t, rfl, hv, ht, hQ⟩ := h
  have k1 : ∀ σ H, EvD K (tSl (rSlA K) (tC (.ref aK)) (tPart (tC (.int 1))) (tPart (tC (.int 2)))) σ H (strsD ["tree"]) := fun σ H => ed_kinds sKinds eo_int eo_int (by decide) (by decide)
  have k2 : ∀ σ H, EvD K (tSl (rSlA K) (tC (.ref aK)) (tPart (tC (.int 2))) (tPart (tC (.int 3)))) σ H (strsD ["commit"]) := fun σ H => ed_kinds sKinds eo_int eo_int (by decide) (by decide)
  have k0 : ∀ σ H, EvD K (tSl (rSlA K) (tC (.ref aK)) tNoPart (tPart (tC (.int 1)))) σ H (strsD ["blob"]) := fun σ H => ed_kinds sKinds eo_none eo_int (by decide) (by decide)
  refine q_asg (v := .str t.word) (evS (ed_word (K := K) (ed_var rfl hv))) (fun H1 e1 => ?_)
  have hth : ∀ H2, Ex H1 H2 → EvD K (tVar 0) ((start ["thing", "word", "label", "mark", "name"] [v]).set 1 (some (V.str t.word))) H2 (thD t) := fun H2 e2 => ed_var rfl (dp_ex (e1.trans e2) _ _ hv)
  have hw : ∀ H2, Ev (tVar 1) ((start ["thing", "word", "label", "mark", "name"] [v]).set 1 (some (V.str t.word))) H2 (.str t.word) := fun H2 => ev_var rfl
  cases t with
  | blob o =>
    refine q_when (b := false) (et_eqS (x' := "blob") (hw _) rfl (by decide)) (fun z => by cases z) (fun _ H2 e2 => ?_)
    refine q_when (b := false) (et_eqS (x' := "blob") (hw _) rfl (by decide)) (fun z => by cases z) (fun _ H3 e3 => ?_)
    refine s_retR (P := fun v H' => Dp K H' v (.tuple [])) (ep_if (b := false) (et_eqS (x' := "blob") (hw _) rfl (by decide)) (fun z => by cases z) (fun _ => ed_tup eds_nil (by simp))) (fun v' H4 e4 q => hQ v' H4 (((e1.trans e2).trans e3).trans e4) q)
  | tree rows =>
    refine q_when (b := true) (et_eqS (x' := "tree") (hw _) rfl (by decide)) (fun _ H2 e2 => ?_) (fun z => by cases z)
    refine s_retR (P := fun v H' => Dp K H' v (.tuple (rows.map fun r : Int × Int × Int => strsD (if r.2.1 = 2 then ["tree"] else ["blob"])))) (ed_tupL (EvP.imp (en_map rows rowD (fun r => strsD (if r.2.1 = 2 then ["tree"] else ["blob"])) (ei_tup (ed_ixT (n := 1) (hth _ e2) ev_c rfl)) (by have := ht.1; omega) (fun _ _ => imm_strsD _) (fun r hr x H4 e4 hx => ?_)) fun _ _ _ p => p.dp)) (fun v' H4 e4 q => hQ v' H4 ((e1.trans e2).trans e4) ?_)
    · refine fun H6 e6 Q q => gp_tup3 hx H6 e6 Q fun σ2 hs2 => q σ2 ?_
      obtain ⟨v1, v2, v3, d1, d2, d3, rfl⟩ := hs2
      have e2' : v2 = .int r.2.1 := dp_int d2
      subst e2'
      refine ⟨rfl, ?_⟩
      by_cases hm : r.2.1 = 2
      · rw [if_pos hm]
        refine ep_if (b := true) (et_is (et_test (ev_op (ev_var (i := 3) rfl) ev_c (rv_eq rfl))) (decide_eq_true (by rw [hm]))) (fun _ => k1 _ _) (fun z => by cases z)
      · rw [if_neg hm]
        refine ep_if (b := false) (et_is (et_test (ev_op (ev_var (i := 3) rfl) ev_c (rv_eq rfl))) (decide_eq_false (fun z => hm (V.int.inj z)))) (fun z => by cases z) (fun _ => k0 _ _)
    · rw [show (Th.tree rows).kinds.map strsD = rows.map fun r => strsD (if r.2.1 = 2 then ["tree"] else ["blob"]) by simp [Th.kinds]]
      exact q
  | commit tr ps =>
    refine q_when (b := false) (et_eqS (x' := "commit") (hw _) rfl (by decide)) (fun z => by cases z) (fun _ H2 e2 => ?_)
    refine q_when (b := true) (et_eqS (x' := "commit") (hw _) rfl (by decide)) (fun _ H3 e3 => ?_) (fun z => by cases z)
    have e13 := (e1.trans e2).trans e3
    refine s_retR (P := fun v H' => Dp K H' v (.tuple ([strsD ["tree"]] ++ (List.replicate ps.length [strsD ["commit"]]).flatten))) (ed_cat (ed_tup (eds_cons (k1 _ _) eds_nil) (by simp)) ?_ ?_) (fun v' H4 e4 q => hQ v' H4 (e13.trans e4) ?_)
    · refine fun H4 e4 Q q => ed_tup (eds_cons (k2 _ _) eds_nil) (by simp) H4 e4 _ fun u H5 e5 hu => ev_lenT (ed_ixT (n := 2) (d := intsD ps) (hth _ (e2.trans e3)) ev_c rfl) H5 (e4.trans e5) _ fun H6 e6 => ?_
      obtain ⟨a, xs, rfl, hs, ha⟩ := dp_tup (dp_ex e6 _ _ hu)
      have hp := ht.1
      have lx : xs.length = 1 := dpA_len ha
      have ei : ((List.map PyData.int ps).length : Int) = (ps.length : Int) := by rw [List.length_map]
      have rep : ∀ n : Nat, DpAll K H6 (List.replicate n xs).flatten (List.replicate n [strsD ["commit"]]).flatten := fun n => by
        induction n with
        | zero => exact .nil
        | succ n ih => exact dpA_app ha ih
      refine ⟨a, _, xs, rfl, rfl, hs, (by intro z; rw [z] at lx; cases lx), (by omega), (by rw [ei]; omega), (by omega), fun h1 => q _ H6 (e5.trans e6) ?_, fun _ p hp => q _ _ ((e5.trans e6).trans (Ex.new hp)) (.tup (st_of upd_same) ?_)⟩
      · have : ps.length = 1 := by rw [ei] at h1; omega
        rw [this]
        exact .tup hs ha
      · rw [ei]
        exact dpA_ex (Ex.new hp) _ _ (rep ps.length)
    · have := ht.1
      have : ((List.replicate ps.length [strsD ["commit"]]).flatten).length = ps.length := by simp
      rw [this]
      simp
      omega
    · have : (Th.commit tr ps).kinds.map strsD = [strsD ["tree"]] ++ (List.replicate ps.length [strsD ["commit"]]).flatten := by
        simp only [Th.kinds, List.map_cons, List.map_map, List.singleton_append]
        congr 1
        clear ht hv hQ hth hw q
        induction ps with
        | nil => rfl
        | cons p ps ih =>
          simp only [List.map_cons, List.length_cons, List.replicate_succ, List.flatten_cons, List.singleton_append, ih]
          rfl
      rw [this]
      exact q
  | tag n =>
    refine q_when (b := false) (et_eqS (x' := "tag") (hw _) rfl (by decide)) (fun z => by cases z) (fun _ H2 e2 => ?_)
    refine q_when (b := false) (et_eqS (x' := "tag") (hw _) rfl (by decide)) (fun z => by cases z) (fun _ H3 e3 => ?_)
    refine s_retR (P := fun v H' => Dp K H' v (.tuple [strsD allKinds])) (ep_if (b := true) (et_eqS (x' := "tag") (hw _) rfl (by decide)) (fun _ => ed_tup (eds_cons (ed_c (.tup (sKinds _) ?_)) eds_nil) (by simp)) (fun z => by cases z)) (fun v' H4 e4 q => hQ v' H4 (((e1.trans e2).trans e3).trans e4) q)
    exact .cons (.str _) (.cons (.str _) (.cons (.str _) (.cons (.str _) .nil)))
theorem sc_thing_links : FnScope ["thing"] ["thing"] (defScope (top 23)) := ⟨rfl, rfl, rfl, by decide +kernel, rfl, by decide +kernel, by decide +kernel⟩
theorem cal_thing_links (T : Tx K mg) (c_kinds_let : Cal P w K mg base "kinds_let" 1 ["thing"] (spKinds K)) (c_parts_of : Cal P w K mg base "parts_of" 7 ["thing"] (spParts K)) : Cal P w K mg base "thing_links" 8 ["thing"] (spTLinks K) := by
  obtain ⟨f, fd, F, hm⟩ := T.fn 11 "thing_links" (top 23) rfl
  refine cal_of F hm (fun _ _ _ _ _ _ us hl => match us, hl with | [_], _ => rfl) (F.ok sc_thing_links (fun vs H Q E h => by obtain ⟨_, _,  rfl, _⟩ := h <;> rfl) (fun cdv A outer s H vs Q E hr h => ⟨_, PSs.nox (pss_one (ps_ret (pe_callTy call_tuple_of rfl (T.fr "tuple" (by decide)) boot_tuple (pa_cons (pe_listZip rfl (by rfl) (T.fr "list" (by decide)) boot_list (by rfl) (T.fr "zip" (by decide)) (pa_cons (pe_ix ix_tup (pe_cal c_parts_of (hr.mono (by decide)) rfl (pa_cons (pv 0) pa_nil)) pe_int (fun _ _ => rfl)) (pa_cons (pe_cal c_kinds_let (hr.mono (by decide)) rfl (pa_cons (pv 0) pa_nil)) pa_nil))) pa_nil)))), ?_⟩))
  obtain ⟨v, t, rfl, hv, ht, hQ⟩ := h
  have hp : EvD K (tOp (rIxT K) (tCall (spParts K) [] E0 (tCons (tVar 0) tNil)) (tC (.int 2))) (start ["thing"] [v]) H (intsD t.links) := fun H1 e1 Q q => by
    have h1 : EvP (tCall (spParts K) [] E0 (tCons (tVar 0) tNil)) (start ["thing"] [v]) H (fun v H' => ∃ own, Dp K H' v (.tuple [.int t.no, intsD own, intsD t.links])) :=
      ep_call (P := fun vs H' => vs = [v] ∧ Dp K H' v (thD t)) (ea_epa (ea_one (ev_var rfl)) fun H2 e2 => ⟨rfl, dp_ex e2 _ _ hv⟩) (fun vs H2 e p Q q => ⟨v, t, by rw [p.1] <;> rfl, p.2, ht, q⟩)
    refine h1 H1 e1 _ fun u H2 e2 ⟨own, hu⟩ => ?_
    obtain ⟨a, xs, rfl, hs, ha⟩ := dp_tup hu
    obtain ⟨x, hx, px⟩ := dpA_get (i := 2) ha rfl
    exact ⟨a, xs, 2, x, rfl, rfl, hs, atI_nat (j := 2) hx, q x H2 e2 px⟩
  have hk : EvD K (tCall (spKinds K) [] E0 (tCons (tVar 0) tNil)) (start ["thing"] [v]) H (.tuple (t.kinds.map strsD)) :=
    ep_call (P := fun vs H' => vs = [v] ∧ Dp K H' v (thD t)) (ea_epa (ea_one (ev_var rfl)) fun H2 e2 => ⟨rfl, dp_ex e2 _ _ hv⟩) (fun vs H2 e p Q q => ⟨v, t, by rw [p.1] <;> rfl, p.2, ht, q⟩)
  refine s_retR (P := fun v H' => Dp K H' v (.tuple ((t.links.zip t.kinds).map linkD))) ?_ hQ
  have hz := ed_tupL (ed_zip hp hk (by simp [t.kinds_len]))
  have e : ((t.links.map PyData.int).zip (t.kinds.map strsD)).map (fun p => PyData.tuple [p.1, p.2]) = (t.links.zip t.kinds).map linkD := by
    rw [List.zip_map, List.map_map]
    rfl
  rw [e] at hz
  exact hz
theorem sc_links_to : FnScope ["thing", "name"] ["thing"] (defScope (top 24)) := ⟨rfl, rfl, rfl, by decide +kernel, rfl, by decide +kernel, by decide +kernel⟩
theorem cal_links_to (T : Tx K mg) (c_parts_of : Cal P w K mg base "parts_of" 7 ["thing"] (spParts K)) : Cal P w K mg base "links_to" 8 ["thing"] (spLinksTo K) := by
  obtain ⟨f, fd, F, hm⟩ := T.fn 12 "links_to" (top 24) rfl
  refine cal_of F hm (fun _ _ _ _ _ _ us hl => match us, hl with | [_], _ => rfl) (F.ok sc_links_to (fun vs H Q E h => by obtain ⟨_, _,  rfl, _⟩ := h <;> rfl) (fun cdv A outer s H vs Q E hr h => ⟨_, PSs.nox (pss_one (ps_ret (pe_callTy call_tuple_of rfl (T.fr "tuple" (by decide)) boot_tuple (pa_cons (pe_callB cr_sortedI rfl (T.fr "sorted" (by decide)) boot_sorted (pa_cons (pe_callTy (call_listD rfl) rfl (T.fr "list" (by decide)) boot_list (pa_cons (pe_dc (own := [("name", 1)]) (g := (gName 1)) (tt := tYes) (tk := (tVar 1)) (tv := (tC (.bl true))) rfl sc_links_to.nd (pi_tup (pe_ix ix_tup (pe_cal c_parts_of (hr.mono (by decide)) rfl (pa_cons (pv 0) pa_nil)) pe_int (fun _ _ => rfl))) (blkOk_by (N := ["thing", "name"]) (sc := defScope (top 24)) (by decide +kernel)) (fun _ _ _ _ _ => (pg_name (i := 1) sc_links_to.nd rfl (.inl rfl))) (fun _ _ _ _ _ => pts_nil) (fun _ _ _ _ _ => (pv 1)) (fun _ _ _ _ _ => pe_bl)) pa_nil)) pa_nil)) pa_nil)))), ?_⟩))
  obtain ⟨v, t, rfl, hv, ht, hQ⟩ := h
  have hp : EvD K (tOp (rIxT K) (tCall (spParts K) [] E0 (tCons (tVar 0) tNil)) (tC (.int 2))) (start ["thing", "name"] [v]) H (intsD t.links) := fun H1 e1 Q q => by
    have h1 : EvP (tCall (spParts K) [] E0 (tCons (tVar 0) tNil)) (start ["thing", "name"] [v]) H (fun v H' => ∃ own, Dp K H' v (.tuple [.int t.no, intsD own, intsD t.links])) :=
      ep_call (P := fun vs H' => vs = [v] ∧ Dp K H' v (thD t)) (ea_epa (ea_one (ev_var rfl)) fun H2 e2 => ⟨rfl, dp_ex e2 _ _ hv⟩) (fun vs H2 e p Q q => ⟨v, t, by rw [p.1] <;> rfl, p.2, ht, q⟩)
    refine h1 H1 e1 _ fun u H2 e2 ⟨own, hu⟩ => ?_
    obtain ⟨a, xs, rfl, hs, ha⟩ := dp_tup hu
    obtain ⟨x, hx, px⟩ := dpA_get (i := 2) ha rfl
    exact ⟨a, xs, 2, x, rfl, rfl, hs, atI_nat (j := 2) hx, q x H2 e2 px⟩
  refine s_retR (P := fun v H' => Dp K H' v (intsD (norm t.links))) (ed_tupL (ds := (norm t.links).map .int) (EvP.imp (en_sortI (ns := dedup [] t.links) (EvP.imp (en_listD (ek_true (j := 1) (ei_tup hp) (by have := ht.links.1; omega) (fun _ => rfl) (by show 1 < 2; decide)) (fun v H1 e p => dictN_keys p)) fun _ _ _ p => p.dp) (nodup_dedup .nil)) fun v' H' e p => ?_)) hQ
  rw [norm_dedup] at p
  exact p.dp
theorem sc_links_there : FnScope ["things", "name", "link"] ["things", "name"] (defScope (top 28)) := ⟨rfl, rfl, rfl, by decide +kernel, rfl, by decide +kernel, by decide +kernel⟩
theorem cal_links_there (T : Tx K mg) (c_links_to : Cal P w K mg base "links_to" 8 ["thing"] (spLinksTo K)) : Cal P w K mg base "links_there" 9 ["things", "name"] (spThere K) := by
  obtain ⟨f, fd, F, hm⟩ := T.fn 13 "links_there" (top 28) rfl
  refine cal_of F hm (fun _ _ _ _ _ _ us hl => match us, hl with | [_, _], _ => rfl) (F.ok sc_links_there (fun vs H Q E h => by obtain ⟨_, _, _, _,  rfl, _⟩ := h <;> rfl) (fun cdv A outer s H vs Q E hr h => ⟨_, PSs.nox (pss_one (ps_ret (pe_lc (own := [("link", 2)]) (g := (gName 2)) (tt := (tB (tDIn (tVar 2) (tVar 0)))) (te := (tVar 2)) rfl sc_links_there.nd (pi_tup (pe_cal c_links_to (hr.mono (by decide)) rfl (pa_cons (pe_dget (hu_of hr) (pv 0) (pv 1) (fun _ _ => rfl)) pa_nil))) (blkOk_by (N := ["things", "name", "link"]) (sc := defScope (top 28)) (by decide +kernel)) (fun _ _ _ _ _ => (pg_name (i := 2) sc_links_there.nd rfl (.inl rfl))) (fun _ _ _ _ _ => (pts_one (pt_cmp (pc_din (hu_of hr) (pv 2) (pv 0))))) (fun _ _ _ _ _ => (pv 2))))), ?_⟩))
  obtain ⟨d, n, ts, t, rfl, hd, ok, ht, hQ⟩ := h
  have hl : EvD K (tCall (spLinksTo K) [] E0 (tCons (tDGet (tVar 0) (tVar 1)) tNil)) (start ["things", "name", "link"] [.ref d, .int n]) H (intsD (norm t.links)) :=
    ep_call (P := fun vs H' => ∃ u, vs = [u] ∧ Dp K H' u (thD t)) (epa_one (ed_dget (ev_var rfl) (ev_var rfl) hd ht) fun u H' e p => ⟨u, rfl, p⟩) (fun vs H2 e p Q q => by
      obtain ⟨u, rfl, pu⟩ := p
      exact ⟨u, t, rfl, pu, ok.ok _ (thOf_mem ht), q⟩)
  refine s_retR (P := NewD K H ((there ts n).map .int)) ?_ hQ
  have e0 : there ts n = (norm t.links).filter (has ts) := by
    unfold there
    rw [ht]
  have hlen := norm_len t.links
  have ho := (ok.ok _ (thOf_mem ht)).links.1
  rw [e0]
  refine en_lc (K := K) (norm t.links) PyData.int (has ts) PyData.int (ei_tup hl) (by simp only at ho; omega) (fun _ _ => rfl) (fun a ha x H1 e1 hx => ?_)
  rw [dp_int hx]
  exact fun H2 e2 Q q => gp_name H2 e2 Q fun σ' hs => q σ' (by
    subst hs
    exact ⟨rfl, et_B (ev_din (ev_var rfl) (ev_var rfl) (hd.ex e1)), fun _ => ed_var rfl (.int a)⟩)
end
end Kw
end
section
/-! KwD4: the law's own: numbers, forms, parts, links. -/
namespace Kw
open PySem PySem.Spec PyProof.Rows L2 Evl
def spLNum (K : PySem.W.Frag) : Sp := spWNum K
def spLForm (K : PySem.W.Frag) : Sp := spWOct K
def spLParts (K : PySem.W.Frag) : Sp := spParts K
def spLLinks (K : PySem.W.Frag) : Sp := fun vs H Q _ => ∃ (v : V) (t : Th), vs = [v] ∧ Dp K H v (thD t) ∧ t.Ok ∧ RetP H (NewD K H ((norm t.links).map .int)) Q
def spLThere (K : PySem.W.Frag) : Sp := spThere K
/-- int(x) of an int -/
def rInt1 : List V → Hp → VK → Prop := fun xs H Q => (∃ i, xs = [.int i] ∧ Q (.int i) H) ∨ ∃ k, xs = [.bl k] ∧ Q (.int (if k then 1 else 0)) H
theorem ev_int1 {σ : L2.St} {H : Hp} {te : TE} {i : Int} (h : Ev te σ H (.int i)) : Ev (tCB rInt1 (tCons te tNil)) σ H (.int i) := fun H1 e Q q => h H1 e _ fun H2 e2 => .inl ⟨i, rfl, q H2 e2⟩
theorem s_par {σ : L2.St} {H : Hp} {ta tb : TE} {P1 P2 : PV} {D : Ends} {i j : Nat} (u : Up P1) (h : EvP ta σ H P1) (h' : EvP tb σ H P2) (k : ∀ v w H1, Ex H H1 → P1 v H1 → P2 w H1 → D.nx ((σ.set i (some v)).set j (some w)) H1) : tPar i j (tCons ta (tCons tb tNil)) D σ H :=
  h H (Ex.refl H) _ fun v H1 e1 p1 => h' H1 e1 _ fun w H2 e2 p2 => ⟨v, w, rfl, k v w H2 (e1.trans e2) (u v H1 H2 e2 p1) p2⟩
section
variable {P : Program} {w : World} {K : PySem.W.Frag} {mg : Str → Option Value} {base : Heap}
theorem sc__law_number : FnScope ["_law_number_here", "_law_found", "_law_at"] ["_law_number_here"] (defScope (top 41)) := ⟨rfl, rfl, rfl, by decide +kernel, rfl, by decide +kernel, by decide +kernel⟩
theorem cal__law_number (T : Tx K mg) : Cal P w K mg base "_law_number" 1 ["_law_number_here"] (spLNum K) := by
  obtain ⟨f, fd, F, hm⟩ := T.fn 25 "_law_number" (top 41) rfl
  refine cal_of F hm (fun _ _ _ _ _ _ us hl => match us, hl with | [_], _ => rfl) (F.ok sc__law_number (fun vs H Q E h => by obtain ⟨_,  rfl, _⟩ := h <;> rfl) (fun cdv A outer s H vs Q E hr h => ⟨_, PSs.nox (pss_cons (ps_set (i := 1) sc__law_number.nd rfl (.inl rfl) (pe_tup pa_nil))
      (pss_cons (ps_for PassesOwn.never rfl (pi_range1 (by rfl) (T.fr "range" (by decide)) (pa_cons pe_int pa_nil)) (pg_name (i := 2) sc__law_number.nd rfl (.inl rfl)) (pss_cons (ps_if (pt_cmpR op_eq (pv 0) pe_int (nomark _)) (pss_one ps_break) pss_nil)
      (pss_one (ps_par (i := 1) (j := 0) rfl sc__law_number.nd rfl rfl (by decide) rfl rfl (pa_cons (pe_op op_catA (pe_tup (pa_cons (pe_op op_mod (pe_callTy call_int1 rfl (T.fr "int" (by decide)) boot_int (pa_cons (pv 0) pa_nil)) pe_int) pa_nil)) (pv 1)) (pa_cons (pe_op op_fdiv (pv 0) pe_int) pa_nil)) (by rfl)))))
      (pss_one (ps_ret (pe_op op_catA (pe_tup (pa_cons (pe_callB call_len_seq rfl (T.fr "len" (by decide)) boot_len (pa_cons (pv 1) pa_nil)) pa_nil)) (pv 1)))))), ?_⟩))
  obtain ⟨n, rfl, hn, hQ⟩ := h
  have hnil : ∀ σ H, EvD K (tTup tNil) σ H (intsD []) := fun σ H => ed_tup eds_nil (by simp)
  refine q_asgP (hnil _ _) (fun v1 H1 e1 hv1 => ?_)
  have fin : ∀ σ H2 u, Ex H H2 → σ[1]? = some (some u) → Dp K H2 u (intsD (figs n)) → (tRet (tOp (rCatA K) (tTup (tCons (tCB (rLenS K) (tCons (tVar 1) tNil)) tNil)) (tVar 1))) { nx := fun _ H' => Q .non H', rt := Q } σ H2 := fun σ H2 u e2 hs hu => by
    have hl : EvD K (tVar 1) σ H2 (intsD (figs n)) := ed_var hs hu
    have hlen : ((List.map PyData.int (figs n)).length : Int) = ((figs n).length : Int) := by rw [List.length_map]
    refine s_retR (P := fun v H' => Dp K H' v (intsD (wnum n))) ?_ (fun v H4 e4 q => hQ v H4 (e2.trans e4) q)
    have := ed_cat (K := K) (ds := [.int (figs n).length]) (es := (figs n).map .int) (ed_tup (eds_cons (edI (ev_is (ev_lenT hl) (by rw [hlen]))) eds_nil) (by simp)) hl (by have := figs_len n; simp; omega)
    exact this
  refine q_forR1 (n := 300) (ea_one ev_c) (by decide) (fun i σ H' => Ex H H' ∧ σ.length = 3 ∧ ((i = 0 ∧ σ[0]? = some (some (.int n)) ∧ ∃ u, σ[1]? = some (some u) ∧ Dp K H' u (intsD [])) ∨ (0 < i ∧ σ[0]? = some (some (.int 0)) ∧ ∃ u, σ[1]? = some (some u) ∧ Dp K H' u (intsD (figs n)))))
    (fun H2 e2 => ⟨e1.trans e2, rfl, .inl ⟨rfl, rfl, v1, rfl, dp_ex e2 _ _ hv1⟩⟩) (fun i σ' H' hi p => ?_) (fun σ' H' p => ?_)
  · obtain ⟨p1, p2, p3⟩ := p
    have hb : ∀ x, ((σ'.set 2 x)[0]? = σ'[0]?) ∧ ((σ'.set 2 x)[1]? = σ'[1]?) := fun x => ⟨by rw [List.getElem?_set_ne (by decide)], by rw [List.getElem?_set_ne (by decide)]⟩
    rcases p3 with ⟨rfl, p3, u, p4, p5⟩ | ⟨hi0, p3, u, p4, p5⟩
    · by_cases h0 : n = 0
      · refine q_when (b := true) (et_is (et_test (ev_op (ev_var (by rw [(hb _).1]; exact p3)) ev_c (rv_eq rfl))) (decide_eq_true (by rw [h0]))) (fun _ H2 e2 => ?_) (fun z => by cases z)
        refine fin _ H2 u (p1.trans e2) (by rw [(hb _).2]; exact p4) ?_
        rw [figs, if_pos h0]
        exact dp_ex e2 _ _ p5
      · refine q_when (b := false) (et_is (et_test (ev_op (ev_var (by rw [(hb _).1]; exact p3)) ev_c (rv_eq rfl))) (decide_eq_false (fun z => h0 (V.int.inj z)))) (fun z => by cases z) (fun _ H2 e2 => ?_)
        refine s_par (up_dp (d := intsD (figs n))) ?_ (edI (K := K) (ev_op (ev_var (by rw [(hb _).1]; exact p3)) ev_c (rv_I (C := CDiv) (g := fun i j => .int (i / j)) ⟨by decide, by decide⟩))) (fun a b H3 e3 ha hb2 => ⟨(p1.trans e2).trans e3, by simp [p2], .inr ⟨by omega, ?_, a, ?_, ha⟩⟩)
        · have m0 : n % 256 = n := by omega
          have := ed_cat (K := K) (ds := [.int n]) (es := []) (ed_tup (eds_cons (edI (ev_is (ev_op (ev_int1 (ev_var (i := 0) (σ := σ'.set 2 (some (.int ((0 : Nat) : Int)))) (H := H2) (by rw [(hb _).1]; exact p3))) ev_c (rv_I (C := fun _ j => 0 < j) (g := fun i j => .int (i % j)) (j := 256) (by decide))) (by show V.int (n % 256) = V.int n; rw [m0]))) eds_nil) (by simp)) (ed_var (n := 1) (by rw [(hb _).2]; exact p4) (dp_ex e2 _ _ p5)) (by simp)
          rw [show intsD (figs n) = .tuple ([.int n] ++ []) by rw [figs, if_neg h0]; rfl]
          exact this
        · have d0 : n / 256 = 0 := by omega
          rw [List.getElem?_set_self (by simp [p2]), dp_int hb2, d0]
        · rw [List.getElem?_set_ne (by decide), List.getElem?_set_self (by simp [p2])]
    · refine q_when (b := true) (et_is (et_test (ev_op (ev_var (by rw [(hb _).1]; exact p3)) ev_c (rv_eq rfl))) (by decide)) (fun _ H2 e2 => ?_) (fun z => by cases z)
      exact fin _ H2 u (p1.trans e2) (by rw [(hb _).2]; exact p4) (dp_ex e2 _ _ p5)
  · obtain ⟨p1, p2, p3⟩ := p
    rcases p3 with ⟨z, _⟩ | ⟨_, p3, u, p4, p5⟩
    · cases z
    · exact fin _ H' u p1 p4 p5
theorem sc__law_form : FnScope ["_law_octets_here"] ["_law_octets_here"] (defScope (top 42)) := ⟨rfl, rfl, rfl, by decide +kernel, rfl, by decide +kernel, by decide +kernel⟩
theorem cal__law_form (T : Tx K mg) (c__law_number : Cal P w K mg base "_law_number" 1 ["_law_number_here"] (spLNum K)) : Cal P w K mg base "_law_form" 2 ["_law_octets_here"] (spLForm K) := by
  obtain ⟨f, fd, F, hm⟩ := T.fn 26 "_law_form" (top 42) rfl
  refine cal_of F hm (fun _ _ _ _ _ _ us hl => match us, hl with | [_], _ => rfl) (F.ok sc__law_form (fun vs H Q E h => by obtain ⟨_, _,  rfl, _⟩ := h <;> rfl) (fun cdv A outer s H vs Q E hr h => ⟨_, PSs.nox (pss_one (ps_ret (pe_op op_catA (pe_cal c__law_number (hr.mono (by decide)) rfl (pa_cons (pe_callB call_len_seq rfl (T.fr "len" (by decide)) boot_len (pa_cons (pv 0) pa_nil)) pa_nil)) (pe_callTy call_tuple_of rfl (T.fr "tuple" (by decide)) boot_tuple (pa_cons (pv 0) pa_nil))))), ?_⟩))
  obtain ⟨v, ns, rfl, hv, hn, hl, hQ⟩ := h
  have hd : EvD K (tVar 0) (start ["_law_octets_here"] [v]) H (intsD ns) := ed_var rfl hv
  refine s_retR (P := fun v H' => Dp K H' v (intsD (woct ns))) ?_ (fun v H2 e2 q => hQ v H2 e2 q)
  have hw : EvD K (tCall (spLNum K) [] E0 (tCons (tCB (rLenS K) (tCons (tVar 0) tNil)) tNil)) (start ["_law_octets_here"] [v]) H (intsD (wnum ns.length)) :=
    ep_call (P := fun vs _ => vs = [.int ns.length]) (ea_epa (ea_one (ev_is (ev_lenT hd) (by rw [List.length_map]))) fun _ _ => rfl) (fun vs H2 e p Q q => ⟨ns.length, by rw [p] <;> rfl, by omega, q⟩)
  have := ed_cat (K := K) (ds := (wnum ns.length).map .int) (es := ns.map .int) hw (ed_tupT hd) (by have := wnum_len ns.length; simp only [List.length_map]; omega)
  rw [← intsD_app] at this
  exact this
theorem sc__law_parts : FnScope ["_law_thing", "_law_word", "_law_own", "_law_label", "_law_mark", "_law_name"] ["_law_thing"] (defScope (top 44)) := ⟨rfl, rfl, rfl, by decide +kernel, rfl, by decide +kernel, by decide +kernel⟩
theorem cal__law_parts (T : Tx K mg) (c__law_form : Cal P w K mg base "_law_form" 2 ["_law_octets_here"] (spLForm K)) (c__law_number : Cal P w K mg base "_law_number" 1 ["_law_number_here"] (spLNum K)) : Cal P w K mg base "_law_parts" 3 ["_law_thing"] (spLParts K) := by
  obtain ⟨f, fd, F, hm⟩ := T.fn 27 "_law_parts" (top 44) rfl
  refine cal_of F hm (fun _ _ _ _ _ _ us hl => match us, hl with | [_], _ => rfl) (F.ok sc__law_parts (fun vs H Q E h => by obtain ⟨_, _,  rfl, _⟩ := h <;> rfl) (fun cdv A outer s H vs Q E hr h => ⟨_, PSs.nox (pss_cons (ps_set (i := 1) sc__law_parts.nd rfl (.inl rfl) (pe_ix ix_tup (pv 0) pe_int (fun _ _ => rfl)))
      (pss_cons (ps_if (pt_cmpR op_eq (pv 1) pe_str (nomark _)) (pss_one (ps_ret (pe_tup (pa_cons pe_int (pa_cons (pe_callTy call_tuple_of rfl (T.fr "tuple" (by decide)) boot_tuple (pa_cons (pe_ix ix_tup (pv 0) pe_int (fun _ _ => rfl)) pa_nil)) (pa_cons (pe_tup pa_nil) pa_nil)))))) pss_nil)
      (pss_cons (ps_if (pt_cmpR op_eq (pv 1) pe_str (nomark _)) (pss_cons (ps_set (i := 2) sc__law_parts.nd rfl (.inl rfl) (pe_cal c__law_number (hr.mono (by decide)) rfl (pa_cons (pe_callB call_len_seq rfl (T.fr "len" (by decide)) boot_len (pa_cons (pe_ix ix_tup (pv 0) pe_int (fun _ _ => rfl)) pa_nil)) pa_nil)))
      (pss_cons (ps_for PassesOwn.never rfl (pi_tup (pe_ix ix_tup (pv 0) pe_int (fun _ _ => rfl))) (pg_tup rfl (pgs_cons (pg_name (i := 3) sc__law_parts.nd rfl (.inl rfl)) (pgs_cons (pg_name (i := 4) sc__law_parts.nd rfl (.inl rfl)) (pgs_cons (pg_name (i := 5) sc__law_parts.nd rfl (.inl rfl)) pgs_nil)))) (pss_one (ps_set (i := 2) sc__law_parts.nd rfl (.inl rfl) (pe_op op_catA (pv 2) (pe_cal c__law_form (hr.mono (by decide)) rfl (pa_cons (pe_op op_catA (pe_callTy call_tuple_of rfl (T.fr "tuple" (by decide)) boot_tuple (pa_cons (pv 3) pa_nil)) (pe_tup (pa_cons (pv 4) pa_nil))) pa_nil))))))
      (pss_one (ps_ret (pe_tup (pa_cons pe_int (pa_cons (pv 2) (pa_cons (pe_callTy call_tuple_of rfl (T.fr "tuple" (by decide)) boot_tuple (pa_cons (pe_lc (own := [("_law_label", 3), ("_law_mark", 4), ("_law_name", 5)]) (g := (gTup K 3 (gCons (gName 3) (gCons (gName 4) (gCons (gName 5) gNil))))) (tt := tYes) (te := (tVar 5)) rfl sc__law_parts.nd (pi_tup (pe_ix ix_tup (pv 0) pe_int (fun _ _ => rfl))) (blkOk_by (N := ["_law_thing", "_law_word", "_law_own", "_law_label", "_law_mark", "_law_name"]) (sc := defScope (top 44)) (by decide +kernel)) (fun _ _ _ _ _ => (pg_tup rfl (pgs_cons (pg_name (i := 3) sc__law_parts.nd rfl (.inl rfl)) (pgs_cons (pg_name (i := 4) sc__law_parts.nd rfl (.inl rfl)) (pgs_cons (pg_name (i := 5) sc__law_parts.nd rfl (.inl rfl)) pgs_nil))))) (fun _ _ _ _ _ => pts_nil) (fun _ _ _ _ _ => (pv 5))) pa_nil)) pa_nil)))))))) pss_nil)
      (pss_cons (ps_if (pt_cmpR op_eq (pv 1) pe_str (nomark _)) (pss_one (ps_ret (pe_tup (pa_cons pe_int (pa_cons (pe_op op_catA (pe_cal c__law_number (hr.mono (by decide)) rfl (pa_cons (pe_ix ix_tup (pv 0) pe_int (fun _ _ => rfl)) pa_nil)) (pe_cal c__law_form (hr.mono (by decide)) rfl (pa_cons (pe_ix ix_tup (pv 0) pe_int (fun _ _ => rfl)) pa_nil))) (pa_cons (pe_op op_catA (pe_tup (pa_cons (pe_ix ix_tup (pv 0) pe_int (fun _ _ => rfl)) pa_nil)) (pe_callTy call_tuple_of rfl (T.fr "tuple" (by decide)) boot_tuple (pa_cons (pe_ix ix_tup (pv 0) pe_int (fun _ _ => rfl)) pa_nil))) pa_nil)))))) pss_nil)
      (pss_one (ps_ret (pe_tup (pa_cons pe_int (pa_cons (pe_callTy call_tuple_of rfl (T.fr "tuple" (by decide)) boot_tuple (pa_cons (pe_ix ix_tup (pv 0) pe_int (fun _ _ => rfl)) pa_nil)) (pa_cons (pe_tup (pa_cons (pe_ix ix_tup (pv 0) pe_int (fun _ _ => rfl)) pa_nil)) pa_nil)))))))))), ?_⟩))
  obtain ⟨v, t, rfl, hv, ht, hQ⟩ := h
  refine q_asg (v := .str t.word) (evS (ed_word (K := K) (ed_var rfl hv))) (fun H1 e1 => ?_)
  have hth : ∀ H2, Ex H1 H2 → EvD K (tVar 0) ((start ["_law_thing", "_law_word", "_law_own", "_law_label", "_law_mark", "_law_name"] [v]).set 1 (some (V.str t.word))) H2 (thD t) := fun H2 e2 => ed_var rfl (dp_ex (e1.trans e2) _ _ hv)
  have hw : ∀ H2, Ev (tVar 1) ((start ["_law_thing", "_law_word", "_law_own", "_law_label", "_law_mark", "_law_name"] [v]).set 1 (some (V.str t.word))) H2 (.str t.word) := fun H2 => ev_var rfl
  cases t with
  | blob o =>
    refine q_when (b := true) (et_eqS (x' := "blob") (hw _) rfl (by decide)) (fun _ H2 e2 => ?_) (fun z => by cases z)
    refine s_retR (P := fun v H' => ∃ own, Dp K H' v (.tuple [.int 0, intsD own, intsD []])) (EvP.imp (ed_tup (eds_cons ed_int (eds_cons (ed_tupT (ds := o.map .int) (ed_ixT (n := 1) (hth _ e2) ev_c rfl)) (eds_cons (ed_tup eds_nil (by simp)) eds_nil))) (by simp)) fun v' H' _ p => ⟨o, p⟩) (fun v' H3 e3 q => hQ v' H3 ((e1.trans e2).trans e3) q)
  | tree rows =>
    refine q_when (b := false) (et_eqS (x' := "tree") (hw _) rfl (by decide)) (fun z => by cases z) (fun _ H2 e2 => ?_)
    refine q_when (b := true) (et_eqS (x' := "tree") (hw _) rfl (by decide)) (fun _ H3 e3 => ?_) (fun z => by cases z)
    have e23 := e2.trans e3
    have row_ : ∀ σ', σ'[0]? = some (some v) → ∀ H4, Ex H3 H4 → EvD K (tOp (rIxT K) (tVar 0) (tC (.int 1))) σ' H4 (.tuple (rows.map rowD)) := fun σ' hs H4 e4 => ed_ixT (n := 1) (ed_var hs (dp_ex ((e1.trans e23).trans e4) _ _ hv)) ev_c rfl
    have hr3 := ht.1
    refine q_asgP (P := fun v' H' => Dp K H' v' (intsD (wnum rows.length))) (ep_call (P := fun vs _ => vs = [.int rows.length]) (ea_epa (ea_one (ev_is (ev_lenT (row_ _ rfl _ (Ex.refl _))) (by rw [List.length_map]))) fun _ _ => rfl) (fun vs H2 e p Q q => ⟨rows.length, by rw [p] <;> rfl, by omega, q⟩)) (fun v2 H4 e4 hv2 => ?_)
    refine row_ _ rfl H4 e4 H4 (Ex.refl _) _ fun u5 H5 e5 h5 => ?_
    obtain ⟨a, xs, rfl, hs, ha⟩ := dp_tup h5
    have fl : ∀ z : List (Int × Int × Int), ((z.map fun r => woct [r.1, r.2.1]).flatten).length ≤ 4 * z.length := fun z => by
      induction z with
      | nil => simp
      | cons q z ih =>
        have h3 := wnum_len 2
        have h4 : (woct [q.1, q.2.1]).length ≤ 4 := by
          show (wnum ((2 : Nat) : Int) ++ [q.1, q.2.1]).length ≤ 4
          have := wnum_len ((2 : Nat) : Int)
          simp only [List.length_append, List.length_cons, List.length_nil]
          omega
        simp only [List.map_cons, List.flatten_cons, List.length_append, List.length_cons]
        omega
    refine ⟨a, rfl, ⟨xs, hs⟩, for_tup (D := { nx := _, rt := Q }) (xs := xs) (fun i σ H' => σ.length = 6 ∧ σ[0]? = some (some v) ∧ (∃ u own, σ[2]? = some (some u) ∧ Dp K H' u (intsD own) ∧ own.length ≤ 2 + 4 * i) ∧ Ex H5 H') ⟨rfl, rfl, ⟨v2, _, rfl, dp_ex e5 _ _ hv2, by have := wnum_len rows.length; omega⟩, Ex.refl _⟩ (fun i σ H' _ p => ex_t p.2.2.2 hs) (fun i x σ H' hx p => ?_) (fun σ H' p => ?_)⟩
    · obtain ⟨p1, p2, ⟨u, own, p3, p4, p5⟩, p6⟩ := p
      obtain ⟨d, hd1, hd2⟩ := dpA_getV ha hx
      obtain ⟨r, hr, rfl⟩ : ∃ r, rows[i]? = some r ∧ rowD r = d := by simpa using hd1
      have hrb := ht.2 r (List.mem_of_getElem? hr)
      have hi : i < rows.length := (List.getElem?_eq_some_iff.mp hr).1
      refine gp_tup3 (dp_ex p6 _ _ hd2) H' (Ex.refl H') _ fun σ2 hs2 => ?_
      obtain ⟨v3, v4, v5, d3, d4, d5, rfl⟩ := hs2
      have g : ∀ k x3 x4 x5, k < 3 → (((σ.set 3 x3).set 4 x4).set 5 x5)[k]? = σ[k]? := fun k x3 x4 x5 hk => by rw [List.getElem?_set_ne (by omega), List.getElem?_set_ne (by omega), List.getElem?_set_ne (by omega)]
      have g3 : (((σ.set 3 (some v3)).set 4 (some v4)).set 5 (some v5))[3]? = some (some v3) := by rw [List.getElem?_set_ne (by decide), List.getElem?_set_ne (by decide), List.getElem?_set_self (by simp [p1])]
      have g4 : (((σ.set 3 (some v3)).set 4 (some v4)).set 5 (some v5))[4]? = some (some v4) := by rw [List.getElem?_set_ne (by decide), List.getElem?_set_self (by simp [p1])]
      have hc : EvD K (tOp (rCatA K) (tCB (rTupS K) (tCons (tVar 3) tNil)) (tTup (tCons (tVar 4) tNil))) (((σ.set 3 (some v3)).set 4 (some v4)).set 5 (some v5)) H' (intsD [r.1, r.2.1]) :=
        ed_cat (ds := [.int r.1]) (es := [.int r.2.1]) (ed_tupT (ed_var g3 d3)) (ed_tup (eds_cons (ed_var g4 d4) eds_nil) (by simp)) (by simp)
      have hf : EvD K (tCall (spLForm K) [] E0 (tCons (tOp (rCatA K) (tCB (rTupS K) (tCons (tVar 3) tNil)) (tTup (tCons (tVar 4) tNil))) tNil)) (((σ.set 3 (some v3)).set 4 (some v4)).set 5 (some v5)) H' (intsD (woct [r.1, r.2.1])) :=
        ep_call (P := fun vs H2 => ∃ u, vs = [u] ∧ Dp K H2 u (intsD [r.1, r.2.1])) (epa_one hc fun u H2 e p => ⟨u, rfl, p⟩) (fun vs H2 e p Q q => by
          obtain ⟨u, rfl, pu⟩ := p
          refine ⟨u, _, rfl, pu, fun n hn => ?_, by simp, q⟩
          rcases List.mem_cons.mp hn with e | hn
          · rw [e]; omega
          · have e : n = r.2.1 := by simpa using hn
            rw [e]; omega)
      have hwl : (woct [r.1, r.2.1]).length ≤ 4 := by
        have := fl [r]
        simpa using this
      have hall := ed_cat (K := K) (ds := own.map .int) (es := (woct [r.1, r.2.1]).map .int) (ed_var (n := 2) (by rw [g 2 _ _ _ (by decide)]; exact p3) p4) hf (by simp only [List.length_map]; omega)
      refine s_asgP hall (fun u2 H6 e6 h6 => ⟨by simp [p1], by rw [List.getElem?_set_ne (by decide), g 0 _ _ _ (by decide)]; exact p2, ⟨u2, own ++ woct [r.1, r.2.1], by rw [List.getElem?_set_self (by simp [p1])], ?_, ?_⟩, p6.trans e6⟩)
      · rw [intsD_app]
        exact h6
      · rw [List.length_append]
        omega
    · obtain ⟨p1, p2, ⟨u, own, p3, p4, p5⟩, p6⟩ := p
      have e35 : Ex H3 H' := (e4.trans e5).trans p6
      refine s_retR (P := fun v H' => ∃ own, Dp K H' v (.tuple [.int 1, intsD own, intsD (Th.tree rows).links])) (EvP.imp (ed_tup (eds_cons ed_int (eds_cons (ed_var (n := 2) p3 p4) (eds_cons (ed_tupL (EvP.imp (en_map rows rowD (fun r => .int r.2.2) (ei_tup (row_ _ p2 _ e35)) (by omega) (fun _ _ => rfl) (fun r hr x H5 e5 hx => ?_)) fun _ _ _ p => p.dp)) eds_nil))) (by simp)) fun v' H' _ p => ⟨own, ?_⟩) (fun v' H5 e5 q => hQ v' H5 (((e1.trans e23).trans e35).trans e5) q)
      · refine fun H6 e6 Q q => gp_tup3 hx H6 e6 Q fun σ2 hs2 => q σ2 ?_
        obtain ⟨v1, v2, v3, d1, d2, d3, rfl⟩ := hs2
        refine ⟨?_, ed_var (n := 5) ?_ d3⟩
        · apply List.ext_getElem?
          intro k
          simp only [wipe, List.map_cons, List.map_nil]
          by_cases h3 : k = 3
          · subst h3
            simp [List.getElem?_set]
          · by_cases h4 : k = 4
            · subst h4
              simp [List.getElem?_set]
            · by_cases h5 : k = 5
              · subst h5
                simp [List.getElem?_set]
              · simp [List.getElem?_set, Ne.symm h3, Ne.symm h4, Ne.symm h5]
        · rw [List.getElem?_set_self (by simp [wipe, p1])]
      · rw [show intsD (Th.tree rows).links = .tuple (rows.map fun r => .int r.2.2) by simp [intsD, Th.links]]
        exact p
  | commit tr ps =>
    refine q_when (b := false) (et_eqS (x' := "commit") (hw _) rfl (by decide)) (fun z => by cases z) (fun _ H2 e2 => ?_)
    refine q_when (b := false) (et_eqS (x' := "commit") (hw _) rfl (by decide)) (fun z => by cases z) (fun _ H3 e3 => ?_)
    refine q_when (b := true) (et_eqS (x' := "commit") (hw _) rfl (by decide)) (fun _ H4 e4 => ?_) (fun z => by cases z)
    have e24 := (e2.trans e3).trans e4
    have hh := hth _ e24
    have hown : EvD K (tOp (rCatA K) (tCall (spLNum K) [] E0 (tCons (tOp (rIxT K) (tVar 0) (tC (.int 3))) tNil)) (tCall (spLForm K) [] E0 (tCons (tOp (rIxT K) (tVar 0) (tC (.int 4))) tNil))) ((start ["_law_thing", "_law_word", "_law_own", "_law_label", "_law_mark", "_law_name"] [v]).set 1 (some (V.str (Th.commit tr ps).word))) H4 (intsD (wnum 1 ++ woct [])) := by
      rw [intsD_app]
      refine ed_cat ?_ ?_ (by decide)
      · exact ep_call (P := fun vs _ => vs = [.int 1]) (epa_one (ed_ixT (n := 3) (d := .int 1) hh ev_c rfl) fun v' _ _ p => by rw [dp_int p]) (fun vs H2 e p Q q => ⟨1, by rw [p] <;> rfl, by decide, q⟩)
      · exact ep_call (P := fun vs H' => ∃ u, vs = [u] ∧ Dp K H' u (intsD [])) (epa_one (ed_ixT (n := 4) (d := intsD []) hh ev_c rfl) fun v' _ _ p => ⟨v', rfl, p⟩) (fun vs H2 e p Q q => by
          obtain ⟨u, rfl, pu⟩ := p
          exact ⟨u, [], rfl, pu, fun _ h => (by cases h), by decide, q⟩)
    refine s_retR (P := fun v H' => ∃ own, Dp K H' v (.tuple [.int 2, intsD own, intsD (tr :: ps)])) (EvP.imp (ed_tup (eds_cons ed_int (eds_cons hown (eds_cons (ed_cat (ds := [.int tr]) (es := ps.map .int) (ed_tup (eds_cons (ed_ixT (n := 1) hh ev_c rfl) eds_nil) (by simp)) (ed_tupT (ed_ixT (n := 2) (d := intsD ps) hh ev_c rfl)) (by have := ht.1; simp; omega)) eds_nil))) (by simp)) fun v' H' _ p => ⟨_, p⟩) (fun v' H5 e5 q => hQ v' H5 ((e1.trans e24).trans e5) q)
  | tag n =>
    refine q_when (b := false) (et_eqS (x' := "tag") (hw _) rfl (by decide)) (fun z => by cases z) (fun _ H2 e2 => ?_)
    refine q_when (b := false) (et_eqS (x' := "tag") (hw _) rfl (by decide)) (fun z => by cases z) (fun _ H3 e3 => ?_)
    refine q_when (b := false) (et_eqS (x' := "tag") (hw _) rfl (by decide)) (fun z => by cases z) (fun _ H4 e4 => ?_)
    have e24 := (e2.trans e3).trans e4
    have hh := hth _ e24
    refine s_retR (P := fun v H' => ∃ own, Dp K H' v (.tuple [.int 3, intsD own, intsD [n]])) (EvP.imp (ed_tup (eds_cons ed_int (eds_cons (ed_tupT (ed_ixT (n := 2) (d := intsD []) hh ev_c rfl)) (eds_cons (ed_tup (eds_cons (ed_ixT (n := 1) hh ev_c rfl) eds_nil) (by simp)) eds_nil))) (by simp)) fun v' H' _ p => ⟨[], p⟩) (fun v' H5 e5 q => hQ v' H5 ((e1.trans e24).trans e5) q)
theorem sc__law_links : FnScope ["_law_thing"] ["_law_thing"] (defScope (top 47)) := ⟨rfl, rfl, rfl, by decide +kernel, rfl, by decide +kernel, by decide +kernel⟩
theorem cal__law_links (T : Tx K mg) (c__law_parts : Cal P w K mg base "_law_parts" 3 ["_law_thing"] (spLParts K)) : Cal P w K mg base "_law_links" 4 ["_law_thing"] (spLLinks K) := by
  obtain ⟨f, fd, F, hm⟩ := T.fn 29 "_law_links" (top 47) rfl
  refine cal_of F hm (fun _ _ _ _ _ _ us hl => match us, hl with | [_], _ => rfl) (F.ok sc__law_links (fun vs H Q E h => by obtain ⟨_, _,  rfl, _⟩ := h <;> rfl) (fun cdv A outer s H vs Q E hr h => ⟨_, PSs.nox (pss_one (ps_ret (pe_callB (cr_sortedSet rfl) rfl (T.fr "sorted" (by decide)) boot_sorted (pa_cons (pe_callTy (call_setI rfl) rfl (T.fr "set" (by decide)) boot_set (pa_cons (pe_ix ix_tup (pe_cal c__law_parts (hr.mono (by decide)) rfl (pa_cons (pv 0) pa_nil)) pe_int (fun _ _ => rfl)) pa_nil)) pa_nil)))), ?_⟩))
  obtain ⟨v, t, rfl, hv, ht, hQ⟩ := h
  have hp : EvD K (tOp (rIxT K) (tCall (spLParts K) [] E0 (tCons (tVar 0) tNil)) (tC (.int 2))) (start ["_law_thing"] [v]) H (intsD t.links) := fun H1 e1 Q q => by
    have h1 : EvP (tCall (spLParts K) [] E0 (tCons (tVar 0) tNil)) (start ["_law_thing"] [v]) H (fun v H' => ∃ own, Dp K H' v (.tuple [.int t.no, intsD own, intsD t.links])) :=
      ep_call (P := fun vs H' => vs = [v] ∧ Dp K H' v (thD t)) (ea_epa (ea_one (ev_var rfl)) fun H2 e2 => ⟨rfl, dp_ex e2 _ _ hv⟩) (fun vs H2 e p Q q => ⟨v, t, by rw [p.1] <;> rfl, p.2, ht, q⟩)
    refine h1 H1 e1 _ fun u H2 e2 ⟨own, hu⟩ => ?_
    obtain ⟨a, xs, rfl, hs, ha⟩ := dp_tup hu
    obtain ⟨x, hx, px⟩ := dpA_get (i := 2) ha rfl
    exact ⟨a, xs, 2, x, rfl, rfl, hs, atI_nat (j := 2) hx, q x H2 e2 px⟩
  refine s_retR (P := NewD K H ((norm t.links).map .int)) (fun H1 e1 Q q => ?_) hQ
  have hl3 := ht.links.1
  refine hp H1 e1 _ fun u H2 e2 hu => ?_
  obtain ⟨a, rfl, ha⟩ := dp_tupI hu
  refine ⟨a, t.links, rfl, .inr ha, by omega, fun p c hc hp2 => ?_⟩
  refine ⟨p, _, c, rfl, upd_same, by omega, fun ns l hasc hm _ hl => ?_⟩
  have en : ns = norm t.links := norm_eq hasc fun k => by rw [hm]; simp
  rw [en]
  exact q _ _ ((e2.trans (Ex.new hp2)).trans (Ex.new hl)) (newD_ints (fresh_back ((e1.trans e2).trans (Ex.new hp2)) hl) upd_same)
theorem sc__law_there : FnScope ["_law_things", "_law_name", "_law_link"] ["_law_things", "_law_name"] (defScope (top 48)) := ⟨rfl, rfl, rfl, by decide +kernel, rfl, by decide +kernel, by decide +kernel⟩
theorem cal__law_there (T : Tx K mg) (c__law_links : Cal P w K mg base "_law_links" 4 ["_law_thing"] (spLLinks K)) : Cal P w K mg base "_law_there" 5 ["_law_things", "_law_name"] (spLThere K) := by
  obtain ⟨f, fd, F, hm⟩ := T.fn 30 "_law_there" (top 48) rfl
  refine cal_of F hm (fun _ _ _ _ _ _ us hl => match us, hl with | [_, _], _ => rfl) (F.ok sc__law_there (fun vs H Q E h => by obtain ⟨_, _, _, _,  rfl, _⟩ := h <;> rfl) (fun cdv A outer s H vs Q E hr h => ⟨_, PSs.nox (pss_one (ps_ret (pe_lc (own := [("_law_link", 2)]) (g := (gName 2)) (tt := (tB (tDIn (tVar 2) (tVar 0)))) (te := (tVar 2)) rfl sc__law_there.nd (pi_list (pe_cal c__law_links (hr.mono (by decide)) rfl (pa_cons (pe_dget (hu_of hr) (pv 0) (pv 1) (fun _ _ => rfl)) pa_nil))) (blkOk_by (N := ["_law_things", "_law_name", "_law_link"]) (sc := defScope (top 48)) (by decide +kernel)) (fun _ _ _ _ _ => (pg_name (i := 2) sc__law_there.nd rfl (.inl rfl))) (fun _ _ _ _ _ => (pts_one (pt_cmp (pc_din (hu_of hr) (pv 2) (pv 0))))) (fun _ _ _ _ _ => (pv 2))))), ?_⟩))
  obtain ⟨d, n, ts, t, rfl, hd, ok, ht, hQ⟩ := h
  have hl : EvD K (tCall (spLLinks K) [] E0 (tCons (tDGet (tVar 0) (tVar 1)) tNil)) (start ["_law_things", "_law_name", "_law_link"] [.ref d, .int n]) H (.list ((norm t.links).map .int)) :=
    EvP.imp (ep_call (R := NewD K H ((norm t.links).map .int)) (P := fun vs H' => ∃ u, vs = [u] ∧ Dp K H' u (thD t)) (epa_one (ed_dget (ev_var rfl) (ev_var rfl) hd ht) fun u H' e p => ⟨u, rfl, p⟩) (fun vs H2 e p Q q => by
      obtain ⟨u, rfl, pu⟩ := p
      exact ⟨u, t, rfl, pu, ok.ok _ (thOf_mem ht), fun v H' e' p' => q v H' e' (p'.back e)⟩)) fun _ _ _ p => p.dp
  refine s_retR (P := NewD K H ((there ts n).map .int)) ?_ hQ
  have e0 : there ts n = (norm t.links).filter (has ts) := by
    unfold there
    rw [ht]
  have hlen := norm_len t.links
  have ho := (ok.ok _ (thOf_mem ht)).links.1
  rw [e0]
  refine en_lc (K := K) (norm t.links) PyData.int (has ts) PyData.int (ei_list hl) (by simp only at ho; omega) (fun _ _ => rfl) (fun a ha x H1 e1 hx => ?_)
  rw [dp_int hx]
  exact fun H2 e2 Q q => gp_name H2 e2 Q fun σ' hs => q σ' (by
    subst hs
    exact ⟨rfl, et_B (ev_din (ev_var rfl) (ev_var rfl) (hd.ex e1)), fun _ => ed_var rfl (.int a)⟩)
end
end Kw
end
section
/-! KwM2: the pairs that lack (plain Lean). -/
namespace Kw
open PySem PySem.Spec PyProof.Rows
def cd (q : List Int) : Int := TS.code 64 q
def Pr (q : List Int) : Prop := ∃ n l : Int, q = [n, l] ∧ (0 ≤ n ∧ n < 50) ∧ 0 ≤ l ∧ l < 50
theorem cd_inj {p q : List Int} (hp : Pr p) (hq : Pr q) (h : cd p = cd q) : p = q := by
  obtain ⟨a, b, rfl, ha, hb⟩ := hp
  obtain ⟨c, d, rfl, hc, hd⟩ := hq
  unfold cd at h
  rw [L2.code_pair, L2.code_pair] at h
  have : a = c := by omega
  have : b = d := by omega
  subst_vars
  rfl
/-- strictly ascending -/
def AscP (ps : List (List Int)) : Prop := ps.Pairwise fun a b => cd a < cd b
theorem ascP_ext {ps qs : List (List Int)} (h1 : AscP ps) (h2 : AscP qs) (hp : ∀ q ∈ ps, Pr q) (hm : ∀ q, q ∈ ps ↔ q ∈ qs) : ps = qs := by
  have a1 : Asc (ps.map cd) := List.pairwise_map.mpr h1
  have a2 : Asc (qs.map cd) := List.pairwise_map.mpr h2
  have e := asc_ext a1 a2 fun k => by
    constructor
    · intro h
      obtain ⟨q, hq, rfl⟩ := List.mem_map.mp h
      exact List.mem_map.mpr ⟨q, (hm q).1 hq, rfl⟩
    · intro h
      obtain ⟨q, hq, rfl⟩ := List.mem_map.mp h
      exact List.mem_map.mpr ⟨q, (hm q).2 hq, rfl⟩
  have hq : ∀ q ∈ qs, Pr q := fun q h => hp q ((hm q).2 h)
  clear hm a1 a2 h1 h2
  induction ps generalizing qs with
  | nil =>
    cases qs with
    | nil => rfl
    | cons _ _ => cases e
  | cons p ps ih =>
    cases qs with
    | nil => cases e
    | cons q qs =>
      simp only [List.map_cons, List.cons.injEq] at e
      rw [cd_inj (hp p List.mem_cons_self) (hq q List.mem_cons_self) e.1, ih (fun r hr => hp r (List.mem_cons_of_mem _ hr)) e.2 fun r hr => hq r (List.mem_cons_of_mem _ hr)]
theorem ascP_of {ps : List (List Int)} (h : ps.Pairwise fun a b => cd a ≤ cd b) (n : ps.Nodup) (hp : ∀ q ∈ ps, Pr q) : AscP ps := by
  induction ps with
  | nil => exact .nil
  | cons p ps ih =>
    have h1 := List.pairwise_cons.mp h
    have n1 := List.nodup_cons.mp n
    refine List.pairwise_cons.mpr ⟨fun q hq => ?_, ih h1.2 n1.2 fun r hr => hp r (List.mem_cons_of_mem _ hr)⟩
    have a := h1.1 q hq
    have b : cd p ≠ cd q := fun e => n1.1 (by rw [cd_inj (hp p List.mem_cons_self) (hp q (List.mem_cons_of_mem _ hq)) e]; exact hq)
    omega
/-- one link lacks, or leads where it may not -/
def bad (ts : Ths) (p : Int × List Str) : Bool := match thOf ts p.1 with
  | some t => !p.2.contains t.word
  | none => true
def lackOf (ts : Ths) (p : Int × Th) : List (List Int) := ((p.2.links.zip p.2.kinds).filter (bad ts)).map fun q => [p.1, q.1]
def lackAll (ts : Ths) : List (List Int) := ts.flatMap (lackOf ts)
structure IsLack (ts : Ths) (ps : List (List Int)) : Prop where
  asc : AscP ps
  mem : ∀ q, q ∈ ps ↔ q ∈ lackAll ts
theorem lackOf_pr {ts : Ths} (ok : TsOk ts) {p : Int × Th} (hp : p ∈ ts) {q : List Int} (hq : q ∈ lackOf ts p) : Pr q := by
  obtain ⟨r, hr, rfl⟩ := List.mem_map.mp hq
  have h1 := (List.of_mem_zip (List.mem_filter.mp hr).1).1
  exact ⟨p.1, r.1, rfl, ok.nm _ (List.mem_map.mpr ⟨p, hp, rfl⟩), ((ok.ok p hp).links.2 _ h1)⟩
theorem lackAll_pr {ts : Ths} (ok : TsOk ts) {q : List Int} (hq : q ∈ lackAll ts) : Pr q := by
  obtain ⟨p, hp, hq⟩ := List.mem_flatMap.mp hq
  exact lackOf_pr ok hp hq
theorem isLack_eq {ts : Ths} (ok : TsOk ts) {ps qs : List (List Int)} (h1 : IsLack ts ps) (h2 : IsLack ts qs) : ps = qs :=
  ascP_ext h1.asc h2.asc (fun q hq => lackAll_pr ok ((h1.mem q).1 hq)) fun q => (h1.mem q).trans (h2.mem q).symm
theorem lackOf_len {ts : Ths} (ok : TsOk ts) {p : Int × Th} (hp : p ∈ ts) : (lackOf ts p).length ≤ 3 := by
  unfold lackOf
  rw [List.length_map]
  have h1 := List.length_filter_le (bad ts) (p.2.links.zip p.2.kinds)
  have h2 := (ok.ok p hp).links.1
  rw [List.length_zip] at h1
  omega
theorem flat_len {ts : Ths} : ∀ (us : Ths), (∀ p ∈ us, (lackOf ts p).length ≤ 3) → (us.flatMap (lackOf ts)).length ≤ 3 * us.length
  | [], _ => by simp
  | p :: us, h => by
    have h1 := flat_len us fun q hq => h q (List.mem_cons_of_mem _ hq)
    have h2 := h p List.mem_cons_self
    simp only [List.flatMap_cons, List.length_append, List.length_cons]
    omega
theorem lackAll_len {ts : Ths} (ok : TsOk ts) : (lackAll ts).length ≤ 27 := by
  have h1 := flat_len (ts := ts) ts fun p hp => lackOf_len ok hp
  have h2 := ok.len
  unfold lackAll
  omega
/-- a list without twices, all of it in another -/
theorem nodup_len {α : Type} [BEq α] [LawfulBEq α] : ∀ {xs ys : List α}, xs.Nodup → (∀ x ∈ xs, x ∈ ys) → xs.length ≤ ys.length
  | [], _, _, _ => Nat.zero_le _
  | x :: xs, ys, hn, h => by
    have hn' := List.nodup_cons.mp hn
    have hx := h x List.mem_cons_self
    have h2 : xs.length ≤ (ys.erase x).length := nodup_len hn'.2 fun y hy => by
      have hy' := h y (List.mem_cons_of_mem _ hy)
      have ne : y ≠ x := fun e => hn'.1 (by rw [← e]; exact hy)
      exact (List.mem_erase_of_ne ne).mpr hy'
    rw [List.length_erase_of_mem hx] at h2
    have := List.length_pos_of_mem hx
    simp only [List.length_cons]
    omega
/-! ### lists in pairs -/
theorem paired_perm {α β : Type} {R : α → β → Prop} {xs ys : List α} {as : List β} (p : ys.Perm xs) (h : Paired R xs as) : ∃ bs, bs.Perm as ∧ Paired R ys bs := by
  induction p generalizing as with
  | nil => exact ⟨as, .refl _, h⟩
  | cons x _ ih =>
    cases h with
    | cons h1 h2 =>
      obtain ⟨bs, hb, hp⟩ := ih h2
      exact ⟨_, hb.cons _, .cons h1 hp⟩
  | swap x y l =>
    cases h with
    | cons h1 h2 =>
      cases h2 with
      | cons h2 h3 => exact ⟨_, .swap _ _ _, .cons h2 (.cons h1 h3)⟩
  | trans _ _ ih1 ih2 =>
    obtain ⟨bs, hb, hp⟩ := ih2 h
    obtain ⟨cs, hc, hq⟩ := ih1 hp
    exact ⟨cs, hc.trans hb, hq⟩
end Kw
end
section
/-! KwE4: an object of one's own that changes; walks over items. -/
namespace Kw
open PySem PySem.Spec PyProof.Rows L2 Evl
section
variable {K : PySem.W.Frag} {σ : L2.St} {H H' H1 H2 : Hp} {p : Addr} {o : HO}
theorem exd_of (e : Ex H H') : Ex (del H p) H' := fun a u h => by
  unfold del at h
  split at h
  · cases h
  · exact e a u h
theorem exd_mut (e : Ex (del H p) H') : Ex (del H p) (upd H' p o) := e.mut del_same
theorem exd_at (e : Ex (del H p) H') {a : Addr} {u : HO} (h : H a = some u) (ne : a ≠ p) : H' a = some u := e a u (by rw [del_ne ne]; exact h)
/-- what was a tuple still is it, where p is none -/
theorem tk_del (n : ∀ ys, ¬ Rd H p (.tup ys)) (e : Ex (del H p) H') : TupK H H' := fun a xs r => by
  have ne : a ≠ p := fun z => n xs (by rw [← z]; exact r)
  rcases r with r | ⟨ob, r⟩
  · exact .inl (exd_at e r ne)
  · exact .inr ⟨ob, exd_at e r ne⟩
theorem st_tk {a : Addr} {xs : List V} (e : TupK H H') (h : SqT K H a xs) : SqT K H' a xs := tk_t e h
/-- for k, v in d.items() -/
theorem for_iti {d : Addr} {ob : Obj} {kvs : List (Key × V)} {g : TG} {tb : TS} {D : Ends} {H : Hp} (Pv : Nat → L2.St → Hp → Prop) (h0 : Pv 0 σ H) (hq : ∀ i σ H, Pv i σ H → H d = some (.frz ob (.dK kvs)))
    (hs : ∀ (i : Nat) (k : Key) (v : V) (T : Addr) (σ : L2.St) (H : Hp), kvs[i]? = some (k, v) → Pv i σ H → H T = none → g (.ref T) σ (upd H T (.tup [kV k, v])) fun σ2 H2 => tb { D with nx := Pv (i + 1), ct := Pv (i + 1), bk := D.nx } σ2 H2) (hd : ∀ σ H, Pv kvs.length σ H → D.nx σ H) :
    ∃ W : Nat → Nat → L2.St → Hp → Prop, (∃ m, W 0 m σ H) ∧ ∀ i m σ H, W i m σ H → ((Iti d ob kvs).stop i H ∧ D.nx σ H) ∨
      ((Iti d ob kvs).go i H ∧ ∃ N : L2.St → Hp → Prop, (∀ σ' H', N σ' H' → ∃ m', m' < m ∧ W (i + 1) m' σ' H') ∧
        ∀ x H', (Iti d ob kvs).yld i H x H' → g x σ H' fun σ2 H2 => tb { D with nx := N, ct := N, bk := D.nx } σ2 H2) := by
  refine ⟨fun i m σ H => Pv i σ H ∧ i + m = kvs.length, ⟨kvs.length, h0, by omega⟩, fun i m σ H hw => ?_⟩
  obtain ⟨hp, hm⟩ := hw
  have hx := hq i σ H hp
  by_cases hi : i < kvs.length
  · refine .inr ⟨⟨hx, hi⟩, Pv (i + 1), fun σ' H' hn => ⟨m - 1, by omega, hn, by omega⟩, fun v H' hy => ?_⟩
    obtain ⟨T, k, u, hk, rfl, nT, rfl⟩ := hy
    exact hs i k u T σ H hk hp nT
  · have e : i = kvs.length := by omega
    subst e
    exact .inl ⟨⟨hx, Nat.le_refl _⟩, hd σ H hp⟩
theorem kvs_get {ts : Ths} {us : List V} {i : Nat} {k : Key} {v : V} (hu : DpAll K H us (ts.map fun p => thD p.2)) (h : (kvsOf ts us)[i]? = some (k, v)) : ∃ n t, ts[i]? = some (n, t) ∧ k = Sum.inl n ∧ us[i]? = some v ∧ Dp K H v (thD t) := by
  obtain ⟨h1, h2⟩ := List.getElem?_zip_eq_some.mp h
  obtain ⟨⟨n, t⟩, hn, rfl⟩ : ∃ q, ts[i]? = some q ∧ Sum.inl q.1 = k := by simpa [names] using h1
  obtain ⟨d, hd1, hd2⟩ := dpA_getV hu h2
  have : d = thD t := by
    rw [List.getElem?_map, hn] at hd1
    exact (Option.some.inj hd1).symm
  rw [this] at hd2
  exact ⟨n, t, hn, rfl, h2, hd2⟩
theorem kvs_len {ts : Ths} {us : List V} (hu : DpAll K H us (ts.map fun p => thD p.2)) : (kvsOf ts us).length = ts.length := by
  have := dpA_len hu
  unfold kvsOf
  rw [List.length_zip, List.length_map, names, List.length_map]
  rw [List.length_map] at this
  omega
/-! ### x in a tuple of texts -/
theorem inV_strs {w : Str} : ∀ {ks : List Str}, inV (.str w) (ks.map V.str) = ks.contains w
  | [] => rfl
  | k :: ks => by
    have ih := inV_strs (w := w) (ks := ks)
    unfold inV at ih ⊢
    rw [List.map_cons, List.any_cons, ih, List.contains_cons]
    congr 1
    show eqV (V.str k) (V.str w) = (w == k)
    simp only [eqV]
    first
      | (rw [Bool.beq_comm])
      | (by_cases e : w = k <;> simp [e, eq_comm])
theorem flat_strs (ks : List Str) : (ks.map V.str).all flatV = true := List.all_eq_true.mpr fun v hv => by
  obtain ⟨k, _, rfl⟩ := List.mem_map.mp hv
  rfl
theorem strs_dpA : ∀ {ks : List Str} {vs : List V}, DpAll K H vs (ks.map PyData.str) → vs = ks.map V.str
  | [], _, h => by cases h; rfl
  | k :: ks, _, h => by
    cases h with
    | cons h1 h2 => rw [dp_str h1, strs_dpA h2]; rfl
/-! ### a dict of pairs -/
/-- at p: a dict with these pairs as its keys -/
def PDict (H : Hp) (p : Addr) (acc : List (List Int)) : Prop := ∃ kvs : List (List Key × V), H p = some (.dT kvs) ∧ kvs.map (·.1) = acc.map (·.map Sum.inl)
theorem pdict_put {acc : List (List Int)} {q : List Int} {v : V} (h : PDict H p acc) (hl : acc.length < 100000) {H2 : Hp} {b : Addr} (e : Ex H H2) (hb : H2 b = some (.tup (q.map V.int))) :
    ∃ kvs, DPut H2 p (.ref b) v (upd H2 p (.dT kvs)) ∧ PDict (upd H2 p (.dT kvs)) p (if q ∈ acc then acc else acc ++ [q]) := by
  obtain ⟨kvs, h1, h2⟩ := h
  have len : kvs.length = acc.length := by
    have := congrArg List.length h2
    simpa using this
  have hb2 : H2 b = some (.tup ((q.map (Sum.inl : Int → Key)).map kV)) := by
    rw [List.map_map]
    exact hb
  refine ⟨putK kvs (q.map Sum.inl) v, DPut.t (e p _ h1) hb2 (sz_lt (by omega)), _, upd_same, ?_⟩
  have inj : ∀ {a b : List Int}, a.map (Sum.inl : Int → Key) = b.map Sum.inl → a = b := fun {a b} h => by
    have := congrArg (List.map fun k : Key => match k with | .inl i => i | .inr _ => 0) h
    simpa [List.map_map, Function.comp_def] using this
  by_cases hq : q ∈ acc
  · rw [if_pos hq, ← h2]
    unfold putK
    have h' : (kvs.any fun kv => decide (kv.1 = q.map Sum.inl)) = true := by
      have : q.map (Sum.inl : Int → Key) ∈ kvs.map (·.1) := by
        rw [h2]
        exact List.mem_map.mpr ⟨q, hq, rfl⟩
      obtain ⟨r, hr, e⟩ := List.mem_map.mp this
      exact List.any_eq_true.mpr ⟨r, hr, by simpa using e⟩
    rw [if_pos h', List.map_map]
    apply List.map_congr_left
    intro r _
    show (if r.1 = q.map Sum.inl then (r.1, v) else r).1 = r.1
    split <;> rfl
  · rw [if_neg hq]
    unfold putK
    have h' : ¬ (kvs.any fun kv => decide (kv.1 = q.map Sum.inl)) = true := fun z => by
      obtain ⟨r, hr, e⟩ := List.any_eq_true.mp z
      have : r.1 ∈ acc.map (·.map (Sum.inl : Int → Key)) := by
        rw [← h2]
        exact List.mem_map.mpr ⟨r, hr, rfl⟩
      obtain ⟨s, hs, e2⟩ := List.mem_map.mp this
      have e3 : r.1 = q.map Sum.inl := by simpa using e
      rw [e3] at e2
      exact hq (by rw [← inj e2]; exact hs)
    rw [if_neg h', List.map_append, List.map_append, h2] <;> rfl
end
end Kw
end
section
/-! KwD5: lacking, is_closed. -/
namespace Kw
open PySem PySem.Spec PyProof.Rows L2 Evl
def spLacking (K : PySem.W.Frag) : Sp := fun vs H Q _ => ∃ (d : Addr) (ts : Ths), vs = [.ref d] ∧ ThO K H d ts ∧ TsOk ts ∧ RetP H (fun v H' => ∃ ps, IsLack ts ps ∧ Dp K H' v (.tuple (ps.map intsD))) Q
def spClosed (K : PySem.W.Frag) : Sp := fun vs H Q _ => ∃ (d : Addr) (ts : Ths), vs = [.ref d] ∧ ThO K H d ts ∧ TsOk ts ∧ RetP H (fun v H' => ∃ ps, IsLack ts ps ∧ v = .bl (decide (ps = []))) Q
theorem take_flat {ts : Ths} {i : Nat} {n : Int} {t : Th} (h : ts[i]? = some (n, t)) (q : List Int) : q ∈ (ts.take (i + 1)).flatMap (lackOf ts) ↔ q ∈ (ts.take i).flatMap (lackOf ts) ∨ q ∈ lackOf ts (n, t) := by
  rw [List.take_add_one, h]
  simp
/-- a list of tuples by its pairs -/
theorem tups_of {K : PySem.W.Frag} {H : Hp} {vs : List V} {ps : List (List Int)} (h : Paired (fun v q => TupI K H v q) vs ps) : DpAll K H vs (ps.map intsD) := by
  induction h with
  | nil => exact .nil
  | cons h1 h2 ih =>
    obtain ⟨t, rfl, ht⟩ := h1
    exact .cons (dp_tupOf ht) ih
theorem paired_ex {K : PySem.W.Frag} {H H' : Hp} (e : Ex H H') {vs : List V} {ps : List (List Int)} (h : Paired (fun v q => TupI K H v q) vs ps) : Paired (fun v q => TupI K H' v q) vs ps := by
  induction h with
  | nil => exact .nil
  | cons h1 h2 ih =>
    obtain ⟨t, rfl, ht⟩ := h1
    exact .cons ⟨t, rfl, ex_t e ht⟩ ih
theorem paired_mem {α β : Type} {R : α → β → Prop} {xs : List α} {as : List β} (h : Paired R xs as) : ∀ x ∈ xs, ∃ a ∈ as, R x a := by
  induction h with
  | nil => intro x hx; cases hx
  | cons h1 h2 ih =>
    intro x hx
    rcases List.mem_cons.mp hx with e | hx
    · rw [e]
      exact ⟨_, List.mem_cons_self, h1⟩
    · obtain ⟨a, ha, hr⟩ := ih x hx
      exact ⟨a, List.mem_cons_of_mem _ ha, hr⟩
theorem paired_flip {α β : Type} {R : α → β → Prop} {xs : List α} {as : List β} (h : Paired R xs as) : Paired (fun b x => R x b) as xs := by
  induction h with
  | nil => exact .nil
  | cons a b ih => exact .cons a ih
theorem paired_pw {α β : Type} {R : α → β → Prop} {S : α → α → Prop} {U : β → β → Prop} {xs : List α} {as : List β} (h : Paired R xs as) (k : ∀ x y a b, R x a → R y b → S x y → U a b) (p : xs.Pairwise S) : as.Pairwise U := by
  induction h with
  | nil => exact .nil
  | @cons x a xs as h1 h2 ih =>
    have p' := List.pairwise_cons.mp p
    refine List.pairwise_cons.mpr ⟨fun b hb => ?_, ih p'.2⟩
    have h2' := paired_flip h2
    obtain ⟨y, hy, hr⟩ := paired_mem h2' b hb
    exact k _ _ _ _ h1 hr (p'.1 y hy)
section
variable {P : Program} {w : World} {K : PySem.W.Frag} {mg : Str → Option Value} {base : Heap}
/-- the keys of a dict of pairs -/
theorem keys_pair {K : PySem.W.Frag} {H : Hp} {kvs : List (List Key × V)} {bs : List Addr} (h : IsKeys H kvs bs) : ∀ acc : List (List Int), kvs.map (·.1) = acc.map (·.map Sum.inl) → Paired (fun v q => TupI K H v q) (bs.map V.ref) acc := by
  unfold IsKeys at h
  induction h with
  | nil =>
    intro acc e
    cases acc with
    | nil => exact .nil
    | cons _ _ => cases e
  | @cons p b ps bs h1 h2 ih =>
    intro acc e
    cases acc with
    | nil => cases e
    | cons q acc =>
      simp only [List.map_cons, List.cons.injEq] at e
      refine .cons ⟨b, rfl, st_of ?_⟩ (ih acc e.2)
      rw [h1, e.1, List.map_map] <;> rfl
/-- the state of the walk -/
def LkInv (K : PySem.W.Frag) (HB : Hp) (d p : Addr) (acc : List (List Int) → Prop) (σ : L2.St) (H' : Hp) : Prop := σ.length = 6 ∧ σ[0]? = some (some (.ref d)) ∧ σ[1]? = some (some (.ref p)) ∧ Ex HB H' ∧ ∃ a : List (List Int), PDict H' p a ∧ a.Nodup ∧ acc a
theorem sc_lacking : FnScope ["things", "found", "name", "thing", "link", "kinds"] ["things"] (defScope (top 29)) := ⟨rfl, rfl, rfl, by decide +kernel, rfl, by decide +kernel, by decide +kernel⟩
theorem cal_lacking (T : Tx K mg) (c_thing_links : Cal P w K mg base "thing_links" 8 ["thing"] (spTLinks K)) : Cal P w K mg base "lacking" 9 ["things"] (spLacking K) := by
  obtain ⟨f, fd, F, hm⟩ := T.fn 14 "lacking" (top 29) rfl
  refine cal_of F hm (fun _ _ _ _ _ _ us hl => match us, hl with | [_], _ => rfl) (F.ok sc_lacking (fun vs H Q E h => by obtain ⟨_, _,  rfl, _⟩ := h <;> rfl) (fun cdv A outer s H vs Q E hr h => ⟨_, PSs.nox (pss_cons (ps_set (i := 1) sc_lacking.nd rfl (.inl rfl) pe_dnewT)
      (pss_cons (ps_lock (ps_for PassesOwn.never rfl (pi_items (pv 0)) (pg_tup rfl (pgs_cons (pg_name (i := 2) sc_lacking.nd rfl (.inl rfl)) (pgs_cons (pg_name (i := 3) sc_lacking.nd rfl (.inl rfl)) pgs_nil))) (pss_one (ps_for PassesOwn.never rfl (pi_tup (pe_cal c_thing_links (hr.mono (by decide)) rfl (pa_cons (pv 3) pa_nil))) (pg_tup rfl (pgs_cons (pg_name (i := 4) sc_lacking.nd rfl (.inl rfl)) (pgs_cons (pg_name (i := 5) sc_lacking.nd rfl (.inl rfl)) pgs_nil))) (pss_one (ps_if (PW.pt (pw_or (pt_cmp (pc_dnotin (hu_of hr) (pv 4) (pv 0))) (pw_or1 (pt_cmpR op_notIn_seq (pe_ix ix_tup (pe_dget (hu_of hr) (pv 0) (pv 4) (fun _ _ => rfl)) pe_int (fun _ _ => rfl)) (pv 5) (by rfl))))) (pss_one (ps_dput (hu_of hr) (pv 1) (pe_tup (pa_cons (pv 2) (pa_cons (pv 4) pa_nil))) pe_bl rfl)) pss_nil))))))
      (pss_one (ps_ret (pe_callTy call_tuple_of rfl (T.fr "tuple" (by decide)) boot_tuple (pa_cons (pe_callB (cr_sortT (d := 2) (B := 64) (by decide)) rfl (T.fr "sorted" (by decide)) boot_sorted (pa_cons (pe_callTy (call_list_dT rfl) rfl (T.fr "list" (by decide)) boot_list (pa_cons (pv 1) pa_nil)) pa_nil)) pa_nil)))))), ?_⟩))
  obtain ⟨d, ts, rfl, hd, ok, hQ⟩ := h
  obtain ⟨us, hus, hda⟩ := hd
  intro p np
  have ndp : d ≠ p := ne_of_none hus np
  have lus : us.length = ts.length := by rw [dpA_len hda, List.length_map]
  refine ⟨d, .dK (kvsOf ts us), by rw [upd_ne ndp]; exact hus, True.intro, fun od => ?_⟩
  have hR : ThR K (upd H d (.frz od (.dK (kvsOf ts us)))) d ts := ⟨us, .inr ⟨od, upd_same⟩, dpA_tk (TupK.upd (nrd_dK hus)) _ _ (imm_ths ts) hda⟩
  have hda2 : DpAll K (upd H d (.frz od (.dK (kvsOf ts us)))) us (ts.map fun p => thD p.2) := dpA_tk (TupK.upd (nrd_dK hus)) _ _ (imm_ths ts) hda
  have hBd : (upd H d (.frz od (.dK (kvsOf ts us)))) d = some (.frz od (.dK (kvsOf ts us))) := upd_same
  have hBp : (upd H d (.frz od (.dK (kvsOf ts us)))) p = none := by rw [upd_ne (Ne.symm ndp)]; exact np
  have e0 : Ex (upd H d (.frz od (.dK (kvsOf ts us)))) (upd (upd H p (.dT [])) d (.frz od (.dK (kvsOf ts us)))) := fun a o h => by
    by_cases ha : a = d
    · rw [ha] at h ⊢
      rw [upd_same] at h ⊢
      exact h
    · rw [upd_ne ha] at h ⊢
      rw [upd_ne (ne_of_none h np)]
      exact h
  generalize hHB : upd H d (.frz od (.dK (kvsOf ts us))) = HB at hR hda2 hBd hBp e0
  refine ⟨.ref d, rfl, d, od, kvsOf ts us, rfl, upd_same, for_iti (D := { nx := _, rt := _, bk := _, ct := _ }) (fun i σ H' => LkInv K HB d p (fun a => ∀ q, q ∈ a ↔ q ∈ (ts.take i).flatMap (lackOf ts)) σ H') ⟨rfl, rfl, rfl, e0, [], ⟨[], by rw [upd_ne (Ne.symm ndp)]; exact upd_same, rfl⟩, .nil, fun q => by simp⟩ (fun i σ H' h => h.2.2.2.1 d _ hBd) (fun i k v T σ H' hk hI nT => ?_) (fun σ H' hI => ?_)⟩
  · obtain ⟨s1, s2, s3, s4, acc, s5, s6, s7⟩ := hI
    obtain ⟨n, t, ht, rfl, hv, hdv⟩ := kvs_get hda2 hk
    have htm : (n, t) ∈ ts := List.mem_of_getElem? ht
    have tOk := ok.ok _ htm
    have pT : p ≠ T := fun z => by
      obtain ⟨_, h1, _⟩ := s5
      rw [z, nT] at h1
      cases h1
    refine ⟨T, _, rfl, st_of upd_same, rfl, _, _, rfl, _, _, rfl, rfl, ?_⟩
    have e2 : Ex HB (upd H' T (.tup [V.int n, v])) := s4.trans (Ex.new nT)
    have hcall : EvD K (tCall (spTLinks K) [] E0 (tCons (tVar 3) tNil)) ((σ.set 2 (some (V.int n))).set 3 (some v)) (upd H' T (.tup [V.int n, v])) (.tuple ((t.links.zip t.kinds).map linkD)) :=
      ep_call (P := fun vs H2 => vs = [v] ∧ Dp K H2 v (thD t)) (ea_epa (ea_one (ev_var (by rw [List.getElem?_set_self (by simp [s1])]))) fun H2 e => ⟨rfl, dp_ex (e2.trans e) _ _ hdv⟩) (fun vs H2 e p Q q => ⟨v, t, by rw [p.1] <;> rfl, p.2, tOk, q⟩)
    refine hcall _ (Ex.refl _) _ fun u H3 e3 hu => ?_
    obtain ⟨a, xs, rfl, hs, ha⟩ := dp_tup hu
    have n3 : H3 p = (upd H' T (.tup [V.int n, v])) p := by
      obtain ⟨_, h1, _⟩ := s5
      rw [upd_ne pT, h1]
      exact e3 p _ (by rw [upd_ne pT]; exact h1)
    have nt3 : ∀ ys, ¬ Rd H3 p (.tup ys) := by
      obtain ⟨_, h1, _⟩ := s5
      rw [upd_ne pT, h1] at n3
      exact nrd_dT n3
    refine ⟨a, rfl, ⟨xs, hs⟩, for_tup (D := { nx := _, rt := _, bk := _, ct := _ }) (xs := xs) (fun j σ H4 => LkInv K HB d p (fun a => ∀ q, q ∈ a ↔ q ∈ (ts.take i).flatMap (lackOf ts) ∨ q ∈ (((t.links.zip t.kinds).take j).filter (bad ts)).map fun r => [n, r.1]) σ H4 ∧ σ[2]? = some (some (.int n)) ∧ Ex (del H3 p) H4) ?_ (fun j σ H4 _ h => st_tk (tk_del nt3 h.2.2) hs) (fun j x σ4 H4 hx hI => ?_) (fun σ4 H4 hI => ?_)⟩
    · refine ⟨⟨by simp [s1], by rw [List.getElem?_set_ne (by decide), List.getElem?_set_ne (by decide)]; exact s2, by rw [List.getElem?_set_ne (by decide), List.getElem?_set_ne (by decide)]; exact s3, e2.trans e3, acc, ?_, s6, fun q => by rw [s7]; simp⟩, by rw [List.getElem?_set_ne (by decide), List.getElem?_set_self (by simp [s1])] <;> rfl, exd_of (Ex.refl _)⟩
      obtain ⟨kv2, h1, h2⟩ := s5
      exact ⟨kv2, by rw [n3, upd_ne pT]; exact h1, h2⟩
    · obtain ⟨⟨r1, r2, r3, r4, acc2, r5, r6, r7⟩, r8, r9⟩ := hI
      obtain ⟨dd, hd1, hd2⟩ := dpA_getV ha hx
      obtain ⟨⟨l, ks⟩, hl, rfl⟩ : ∃ r, (t.links.zip t.kinds)[j]? = some r ∧ linkD r = dd := by
        rw [List.getElem?_map] at hd1
        obtain ⟨r, h1, h2⟩ := Option.map_eq_some_iff.mp hd1
        exact ⟨r, h1, h2⟩
      have imL : imm (linkD (l, ks)) = true := by
        show (imm (.int l) && (imm (strsD ks) && true)) = true
        rw [imm_strsD] <;> rfl
      have hx4 := dp_tk (tk_del nt3 r9) _ _ imL hd2
      have hlz := List.mem_of_getElem? hl
      have lb := tOk.links.2 l (List.of_mem_zip hlz).1
      have nb := ok.nm n (List.mem_map.mpr ⟨_, htm, rfl⟩)
      refine gp_tup2 hx4 H4 (Ex.refl H4) _ fun σ5 hs5 => ?_
      obtain ⟨v4, v5, d4, d5, rfl⟩ := hs5
      have : v4 = .int l := dp_int d4
      subst this
      obtain ⟨b5, xs5, rfl, t5, a5⟩ := dp_tup d5
      rw [strs_dpA a5] at t5
      have g4 : ((σ4.set 4 (some (V.int l))).set 5 (some (V.ref b5)))[4]? = some (some (.int l)) := by rw [List.getElem?_set_ne (by decide), List.getElem?_set_self (by simp [r1])]
      have g5 : ((σ4.set 4 (some (V.int l))).set 5 (some (V.ref b5)))[5]? = some (some (.ref b5)) := by rw [List.getElem?_set_self (by simp [r1])]
      have gk : ∀ k, k < 4 → ((σ4.set 4 (some (V.int l))).set 5 (some (V.ref b5)))[k]? = σ4[k]? := fun k hk => by rw [List.getElem?_set_ne (by omega), List.getElem?_set_ne (by omega)]
      have gl : ((σ4.set 4 (some (V.int l))).set 5 (some (V.ref b5))).length = 6 := by simp [r1]
      generalize ((σ4.set 4 (some (V.int l))).set 5 (some (V.ref b5))) = σ5 at g4 g5 gk gl
      have hR4 := hR.ex r4
      have test : EvT (tOr (tB (tDNotIn (tVar 4) (tVar 0))) (tTest (tOp (rIn K true) (tOp (rIxT K) (tDGet (tVar 0) (tVar 4)) (tC (.int 0))) (tVar 5)))) σ5 H4 (bad ts (l, ks)) := by
        have v0 : Ev (tVar 0) σ5 H4 (.ref d) := ev_var (by rw [gk 0 (by decide)]; exact r2)
        have v4 : Ev (tVar 4) σ5 H4 (.int l) := ev_var g4
        cases hth : thOf ts l with
        | none =>
          have hf : has ts l = false := by
            cases q : has ts l with
            | false => rfl
            | true =>
              obtain ⟨t', e'⟩ := thOf_some (has_iff.mp q)
              rw [e'] at hth
              cases hth
          have hb : bad ts (l, ks) = true := by unfold bad; rw [hth]
          rw [hb]
          exact et_is (et_or (a := true) (b := true) (et_is (et_B (ev_dnotin v4 v0 hR4)) (by rw [hf] <;> rfl)) fun z => by cases z) rfl
        | some t' =>
          have hf : has ts l = true := has_iff.mpr (thOf_in hth)
          have hb : bad ts (l, ks) = !ks.contains t'.word := by unfold bad; rw [hth]
          rw [hb]
          exact et_is (et_or (a := false) (b := !ks.contains t'.word) (et_is (et_B (ev_dnotin v4 v0 hR4)) (by rw [hf] <;> rfl)) fun _ => et_is (et_test (ev_op (evS (ed_word (ed_dget v0 v4 hR4 hth))) (ev_var g5) (rv_niT t5 rfl (flat_strs ks)))) (by rw [inV_strs])) rfl
      have step : ∀ q, q ∈ (((t.links.zip t.kinds).take (j + 1)).filter (bad ts)).map (fun r => [n, r.1]) ↔ q ∈ (((t.links.zip t.kinds).take j).filter (bad ts)).map (fun r => [n, r.1]) ∨ (bad ts (l, ks) = true ∧ q = [n, l]) := fun q => by
        rw [List.take_add_one, hl]
        simp only [Option.toList_some, List.filter_append, List.map_append, List.mem_append]
        cases hb : bad ts (l, ks) with
        | true => simp [List.filter_cons, hb]
        | false => simp [List.filter_cons, hb]
      refine s_when test (fun hb H5 e5 => ?_) (fun hb H5 e5 => ?_)
      · have nb' : ∀ q ∈ acc2, q ∈ lackAll ts := fun q hq => by
          rcases (r7 q).1 hq with z | z
          · obtain ⟨r, hr, hq⟩ := List.mem_flatMap.mp z
            exact List.mem_flatMap.mpr ⟨r, List.mem_of_mem_take hr, hq⟩
          · refine List.mem_flatMap.mpr ⟨(n, t), htm, ?_⟩
            obtain ⟨r, hr, rfl⟩ := List.mem_map.mp z
            have hr' := List.mem_filter.mp hr
            exact List.mem_map.mpr ⟨r, List.mem_filter.mpr ⟨List.mem_of_mem_take hr'.1, hr'.2⟩, rfl⟩
        have len2 : acc2.length ≤ 27 := Nat.le_trans (nodup_len r6 nb') (lackAll_len ok)
        have r5' : PDict H5 p acc2 := by
          obtain ⟨kv2, h1, h2⟩ := r5
          exact ⟨kv2, e5 p _ h1, h2⟩
        refine ⟨.ref p, by rw [gk 1 (by decide)]; exact r3, .int n, by rw [gk 2 (by decide)]; exact r8, .int l, g4, by show 2 ≤ sizeLine; decide, fun b nb5 => ?_⟩
        obtain ⟨kvs, hput, hpd⟩ := pdict_put (v := .bl true) (q := [n, l]) r5' (by omega) (Ex.new nb5) (b := b) upd_same
        refine ⟨p, _, rfl, hput, ⟨gl, by rw [gk 0 (by decide)]; exact r2, by rw [gk 1 (by decide)]; exact r3, ((r4.trans e5).trans (Ex.new nb5)).mut hBp, _, hpd, ?_, fun q => ?_⟩, by rw [gk 2 (by decide)]; exact r8, exd_mut ((r9.trans e5).trans (Ex.new nb5))⟩
        · split
          · exact r6
          · rename_i hq
            exact List.nodup_append.mpr ⟨r6, by simp, fun a ha b hb e => hq (by
              have : b = [n, l] := by simpa using hb
              rw [← this, ← e]
              exact ha)⟩
        · rw [step]
          have : q ∈ (if [n, l] ∈ acc2 then acc2 else acc2 ++ [[n, l]]) ↔ q ∈ acc2 ∨ q = [n, l] := by
            split
            · rename_i hq
              exact ⟨.inl, fun z => z.elim id fun e => by rw [e]; exact hq⟩
            · simp
          rw [this, r7, hb]
          simp only [true_and, or_assoc]
      · refine ⟨⟨gl, by rw [gk 0 (by decide)]; exact r2, by rw [gk 1 (by decide)]; exact r3, r4.trans e5, acc2, ?_, r6, fun q => ?_⟩, by rw [gk 2 (by decide)]; exact r8, r9.trans e5⟩
        · obtain ⟨kv2, h1, h2⟩ := r5
          exact ⟨kv2, e5 p _ h1, h2⟩
        · rw [r7, step, hb]
          simp
    · obtain ⟨⟨r1, r2, r3, r4, acc2, r5, r6, r7⟩, r8, r9⟩ := hI
      refine ⟨r1, r2, r3, r4, acc2, r5, r6, fun q => ?_⟩
      have lx : xs.length = (t.links.zip t.kinds).length := by rw [dpA_len ha, List.length_map]
      rw [r7, take_flat ht, lx, List.take_length]
      exact Iff.rfl
  · obtain ⟨s1, s2, s3, s4, acc, s5, s6, s7⟩ := hI
    have lk := kvs_len hda
    rw [lk, List.take_length] at s7
    refine ⟨s4 d _ hBd, ?_⟩
    have eF : Ex H (upd H' d (.dK (kvsOf ts us))) := fun a o h => by
      by_cases ha : a = d
      · rw [ha] at h ⊢
        rw [upd_same, ← hus]
        exact h
      · rw [upd_ne ha]
        exact s4 a o (by rw [← hHB, upd_ne ha]; exact h)
    have len2 : acc.length ≤ 27 := Nat.le_trans (nodup_len s6 fun q hq => (s7 q).1 hq) (lackAll_len ok)
    dsimp only
    refine s_retR (P := fun v H' => ∃ ps, IsLack ts ps ∧ Dp K H' v (.tuple (ps.map intsD))) (fun H1 e1 Q' q => ?_) (fun v H1 e1 p => hQ v H1 (eF.trans e1) p)
    obtain ⟨kv2, h1, h2⟩ := s5
    have h1' : H1 p = some (.dT kv2) := e1 p _ (by rw [upd_ne (Ne.symm ndp)]; exact h1)
    refine ⟨.ref p, s3, p, kv2, rfl, .inl h1', fun l bs nl hk => ?_⟩
    have hpair := keys_pair (K := K) hk acc h2
    have hpair2 := paired_ex (Ex.new (o := .lst (bs.map V.ref)) nl) hpair
    have prs : ∀ q ∈ acc, Pr q := fun q hq => lackAll_pr ok ((s7 q).1 hq)
    refine ⟨l, bs.map V.ref, rfl, sq_of upd_same, ?_, fun x hx => ?_, fun ys l2 hperm hpw nl2 => ?_⟩
    · have := Paired.length hpair
      omega
    · obtain ⟨ns, hns, hT⟩ := paired_mem hpair2 x hx
      obtain ⟨a, b, rfl, ha, hb⟩ := prs ns hns
      refine ⟨_, hT, rfl, fun y hy => ?_⟩
      rcases List.mem_cons.mp hy with e | hy
      · rw [e]; omega
      · have e : y = b := by simpa using hy
        rw [e]; omega
    · obtain ⟨ps, hps, hpp⟩ := paired_perm hperm hpair2
      have hle : ps.Pairwise fun a b => cd a ≤ cd b := paired_pw hpp (fun x y a b hx hy hxy => hxy a b hx hy) hpw
      refine ⟨l2, ys, rfl, .inl ⟨sq_of upd_same, fun l3 nl3 => q (.ref l3) _ (((Ex.new nl).trans (Ex.new nl2)).trans (Ex.new nl3)) ⟨ps, ⟨ascP_of hle (hps.nodup_iff.mpr s6) fun q hq => prs q (hps.mem_iff.mp hq), fun q => hps.mem_iff.trans (s7 q)⟩, .tup (st_of upd_same) (tups_of (paired_ex ((Ex.new nl2).trans (Ex.new nl3)) hpp))⟩⟩⟩
theorem sc_is_closed : FnScope ["things"] ["things"] (defScope (top 30)) := ⟨rfl, rfl, rfl, by decide +kernel, rfl, by decide +kernel, by decide +kernel⟩
theorem cal_is_closed (T : Tx K mg) (c_lacking : Cal P w K mg base "lacking" 9 ["things"] (spLacking K)) : Cal P w K mg base "is_closed" 10 ["things"] (spClosed K) := by
  obtain ⟨f, fd, F, hm⟩ := T.fn 15 "is_closed" (top 30) rfl
  refine cal_of F hm (fun _ _ _ _ _ _ us hl => match us, hl with | [_], _ => rfl) (F.ok sc_is_closed (fun vs H Q E h => by obtain ⟨_, _,  rfl, _⟩ := h <;> rfl) (fun cdv A outer s H vs Q E hr h => ⟨_, PSs.nox (pss_one (ps_ret (pe_cmpR op_eq (pe_callB call_len_seq rfl (T.fr "len" (by decide)) boot_len (pa_cons (pe_cal c_lacking (hr.mono (by decide)) rfl (pa_cons (pv 0) pa_nil)) pa_nil)) pe_int (nomark _)))), ?_⟩))
  obtain ⟨d, ts, rfl, hd, ok, hQ⟩ := h
  have hl : EvP (tCall (spLacking K) [] E0 (tCons (tVar 0) tNil)) (start ["things"] [.ref d]) H (fun v H' => ∃ ps, IsLack ts ps ∧ Dp K H' v (.tuple (ps.map intsD))) :=
    ep_call (P := fun vs H' => vs = [.ref d] ∧ ThO K H' d ts) (ea_epa (ea_one (ev_var rfl)) fun H2 e2 => ⟨rfl, hd.ex e2⟩) (fun vs H2 e p Q q => ⟨d, ts, by rw [p.1] <;> rfl, p.2, ok, q⟩)
  refine s_retR (P := fun v H' => ∃ ps, IsLack ts ps ∧ v = .bl (decide (ps = []))) (fun H1 e1 Q' q => ?_) hQ
  refine hl H1 e1 _ fun u H2 e2 ⟨ps, hps, hu⟩ => ?_
  obtain ⟨a, xs, rfl, hs, ha⟩ := dp_tup hu
  refine ⟨a, xs, rfl, .inr hs, rfl, q _ H2 e2 ⟨ps, hps, ?_⟩⟩
  have lx : xs.length = ps.length := by rw [dpA_len ha, List.length_map]
  have hi : (V.int (xs.length : Int) = V.int 0) ↔ ps = [] := by
    constructor
    · intro z
      have := V.int.inj z
      have : ps.length = 0 := by omega
      exact List.eq_nil_of_length_eq_zero this
    · intro z
      rw [z] at lx
      rw [lx] <;> rfl
  rw [decide_eq_decide.mpr hi]
end
end Kw
end
section
/-! KwE5: walks over a locked dict in a comprehension; zip of lists; lists of lists. -/
namespace Kw
open PySem PySem.Spec PyProof.Rows L2 Evl
section
variable {K : PySem.W.Frag} {σ : L2.St} {H H' H1 : Hp} {ta tb te tk tv tl td : TE} {tt : TT} {g : TG} {wi : TI} {vs : List Nat} {α : Type} {v : V}
/-- a comprehension while d is walked -/
theorem en_lock {t : TE} {d : Addr} {u : HO} {ds : List PyData} (hd : H d = some u) (mu : Mut (some u)) (nt : ∀ (o : Obj) (ys : List V), u ≠ .tup ys) (him : immA ds = true)
    (h : ∀ H1, Ex H H1 → ∀ od, EvP t σ (upd H1 d (.frz od u)) (NewD K (upd H1 d (.frz od u)) ds)) : EvP (tLockE t) σ H (NewD K H ds) := fun H1 e Q q => ⟨d, u, e d _ hd, mu, fun od => h H1 e od _ (Ex.refl _) _ fun v H2 e2 p => by
  obtain ⟨p, xs, rfl, h2, h3, h4⟩ := p
  have npd : p ≠ d := fun z => by
    rw [z, upd_same] at h2
    cases h2
  have h1p : H1 p = none := by rw [upd_ne npd] at h2; exact h2
  have hd2 : H2 d = some (.frz od u) := e2 d _ upd_same
  refine ⟨hd2, q _ _ ?_ ⟨p, xs, rfl, fresh_back e h1p, by rw [upd_ne npd]; exact h3, dpA_tk (TupK.upd fun ys r => ?_) _ _ him h4⟩⟩
  · intro a o ha
    by_cases hz : a = d
    · rw [hz] at ha ⊢
      rw [upd_same, ← ha]
      exact (e d _ hd).symm
    · rw [upd_ne hz]
      exact e2 a o (by rw [upd_ne hz]; exact ha)
  · rcases r with r | ⟨ob, r⟩
    · rw [hd2] at r
      cases r
    · rw [hd2] at r
      have := HO.frz.inj (Option.some.inj r)
      exact nt ob ys this.2⟩
/-- .. a dict made -/
theorem ek_lock {t : TE} {d : Addr} {u : HO} {kvs : List (Key × V)} (hd : H d = some u) (mu : Mut (some u))
    (h : ∀ H1, Ex H H1 → ∀ od, EvP t σ (upd H1 d (.frz od u)) (DictN (upd H1 d (.frz od u)) kvs)) : EvP (tLockE t) σ H (DictN H kvs) := fun H1 e Q q => ⟨d, u, e d _ hd, mu, fun od => h H1 e od _ (Ex.refl _) _ fun v H2 e2 p => by
  obtain ⟨p, rfl, h2, h3⟩ := p
  have npd : p ≠ d := fun z => by
    rw [z, upd_same] at h2
    cases h2
  have h1p : H1 p = none := by rw [upd_ne npd] at h2; exact h2
  have hd2 : H2 d = some (.frz od u) := e2 d _ upd_same
  refine ⟨hd2, q _ _ ?_ ⟨p, rfl, fresh_back e h1p, by rw [upd_ne npd]; exact h3⟩⟩
  intro a o ha
  by_cases hz : a = d
  · rw [hz] at ha ⊢
    rw [upd_same, ← ha]
    exact (e d _ hd).symm
  · rw [upd_ne hz]
    exact e2 a o (by rw [upd_ne hz]; exact ha)⟩
def itemD (p : Int × Th) : PyData := .tuple [.int p.1, thD p.2]
/-- d.items() of the things, walked -/
theorem ei_items {d : Addr} {o : Obj} {ts : Ths} {us : List V} (hd : Ev td σ H (.ref d)) (hu : DpAll K H us (ts.map fun p => thD p.2)) (hf : H d = some (.frz o (.dK (kvsOf ts us)))) : EvI K (iItems td) σ H (ts.map itemD) := fun H1 e R r =>
  hd H1 e _ fun H2 e2 => ⟨d, o, kvsOf ts us, rfl, (e.trans e2) d _ hf, r _ H2 e2 fun i H' e3 => by
    have hf' := ((e.trans e2).trans e3) d _ hf
    have lk := kvs_len hu
    refine ⟨fun dd hdd => ?_, fun hi => ⟨hf', by rw [hi, lk, List.length_map]; exact Nat.le_refl _⟩⟩
    have hi : i < ts.length := by
      have := (List.getElem?_eq_some_iff.mp hdd).1
      simpa using this
    refine ⟨⟨hf', by omega⟩, fun x H4 q => ?_⟩
    obtain ⟨T, k, v, hk, rfl, nT, rfl⟩ := q
    obtain ⟨n, t, hn, rfl, hv, hdv⟩ := kvs_get hu hk
    rw [List.getElem?_map, hn] at hdd
    have ed := (Option.some.inj hdd).symm
    subst ed
    exact ⟨Ex.new nT, .tup (st_of upd_same) (.cons (.int n) (.cons (dp_ex (((e.trans e2).trans e3).trans (Ex.new nT)) _ _ hdv) .nil))⟩⟩
/-- the names of the things, walked -/
theorem ei_keys {d : Addr} {o : Obj} {kvs : List (Key × V)} {ns : List Int} (hd : Ev td σ H (.ref d)) (hk : kvs.map (·.1) = ns.map Sum.inl) (hf : H d = some (.frz o (.dK kvs))) : EvI K (iKeys td) σ H (ns.map .int) := fun H1 e R r =>
  hd H1 e _ fun H2 e2 => ⟨d, o, rfl, .inl ⟨kvs, (e.trans e2) d _ hf, r _ H2 e2 fun i H' e3 => by
    have hf' := ((e.trans e2).trans e3) d _ hf
    have lk : kvs.length = ns.length := by
      have := congrArg List.length hk
      simpa using this
    refine ⟨fun dd hdd => ?_, fun hi => ⟨hf', by rw [hi, lk, List.length_map]; exact Nat.le_refl _⟩⟩
    have hi : i < ns.length := by
      have := (List.getElem?_eq_some_iff.mp hdd).1
      simpa using this
    refine ⟨⟨hf', by omega⟩, fun x H4 q => ?_⟩
    obtain ⟨rfl, k, v, hkv, rfl⟩ := q
    obtain ⟨n, hn, rfl⟩ : ∃ n, ns[i]? = some n ∧ PyData.int n = dd := by simpa using hdd
    have : k = Sum.inl n := by
      have h1 : (kvs.map (·.1))[i]? = some k := by rw [List.getElem?_map, hkv] <;> rfl
      rw [hk, List.getElem?_map, hn] at h1
      exact (Option.some.inj h1).symm
    subst this
    exact ⟨Ex.refl _, .int n⟩⟩⟩
/-- zip(xs, ys), two lists of one length -/
theorem ei_zip {ds es : List PyData} (h : EvD K ta σ H (.list ds)) (h' : EvD K tb σ H (.list es)) (hl : ds.length = es.length) : EvI K (iZip K (tCons ta (tCons tb tNil))) σ H ((ds.zip es).map fun p => .tuple [p.1, p.2]) := fun H1 e R r =>
  h H1 e _ fun v H2 e2 p => h' H2 (e.trans e2) _ fun w H3 e3 p' => by
    obtain ⟨a, xs, rfl, hs, ha⟩ := dp_lst (dp_ex e3 _ _ p)
    obtain ⟨b, ys, rfl, hs', ha'⟩ := dp_lst p'
    have l1 := dpA_len ha
    have l2 := dpA_len ha'
    refine ⟨a, b, xs, ys, rfl, hs, hs', r _ H3 (e2.trans e3) fun i H' e4 => ⟨fun dd hdd => ?_, fun hi => ⟨xs, ys, ex_l e4 hs, ex_l e4 hs', .inl (by
      rw [hi, List.length_map, List.length_zip]
      omega)⟩⟩⟩
    have hi : i < ds.length ∧ i < es.length := by
      have := (List.getElem?_eq_some_iff.mp hdd).1
      rw [List.length_map, List.length_zip] at this
      omega
    obtain ⟨d1, hd1⟩ : ∃ d, ds[i]? = some d := ⟨ds[i]'hi.1, List.getElem?_eq_getElem _⟩
    obtain ⟨d2, hd2⟩ : ∃ d, es[i]? = some d := ⟨es[i]'hi.2, List.getElem?_eq_getElem _⟩
    have hz : (ds.zip es)[i]? = some (d1, d2) := List.getElem?_zip_eq_some.mpr ⟨hd1, hd2⟩
    have ed : dd = .tuple [d1, d2] := by
      rw [List.getElem?_map, hz] at hdd
      exact (Option.some.inj hdd).symm
    subst ed
    obtain ⟨x, hx, px⟩ := dpA_get ha hd1
    obtain ⟨y, hy, py⟩ := dpA_get ha' hd2
    refine ⟨⟨xs, ys, x, y, ex_l e4 hs, ex_l e4 hs', hx, hy⟩, fun z H4 q => ?_⟩
    obtain ⟨T, x', y', rfl, nT, rfl, qx, qy⟩ := q
    have ex1 := qx xs (ex_l e4 hs)
    have ex2 := qy ys (ex_l e4 hs')
    rw [hx] at ex1
    rw [hy] at ex2
    cases ex1
    cases ex2
    exact ⟨Ex.new nT, .tup (st_of upd_same) (.cons (dp_ex (e4.trans (Ex.new nT)) _ _ px) (.cons (dp_ex (e4.trans (Ex.new nT)) _ _ py) .nil))⟩
/-- [new list for a in ..]: what the lists hold holds no list -/
theorem en_mapL (as : List α) (enc : α → PyData) (el : α → List PyData) (h : EvI K wi σ H (as.map enc)) (hz : as.length ≤ 40000) (him : ∀ a ∈ as, immA (el a) = true)
    (item : ∀ a ∈ as, ∀ x H1, Ex H H1 → Dp K H1 x (enc a) → GP g x (wipe σ vs) H1 fun σ2 => wipe σ2 vs = wipe σ vs ∧ EvP te σ2 H1 (NewD K H1 (el a))) :
    EvP (tLc wi g tYes te vs) σ H (NewD K H (as.map fun a => .list (el a))) := fun H0 e0 Q q => h H0 e0 _ fun J H1 e1 wk D hD => by
  refine ⟨fun i m H' => m + i = as.length ∧ Ex H1 H' ∧ ∃ acc : List V, H' D = some (.lst acc) ∧ acc.length = i ∧ ∀ (j : Nat) (a : α), j < i → as[j]? = some a → ∃ p xs, acc[j]? = some (.ref p) ∧ p ≠ D ∧ H' p = some (.lst xs) ∧ DpAll K H' xs (el a), ⟨as.length, by omega, Ex.new hD, [], upd_same, rfl, fun j a hj => by omega⟩, fun i m H' hw => ?_⟩
  obtain ⟨hm, eH, acc, hacc, hlen, hda⟩ := hw
  obtain ⟨w1, w2⟩ := wk i H' eH
  by_cases hi : i < as.length
  · have hai : as[i]? = some as[i] := List.getElem?_eq_getElem hi
    obtain ⟨hgo, hy⟩ := w1 (enc as[i]) (by rw [List.getElem?_map, hai] <;> rfl)
    refine .inr ⟨hgo, fun H2 => m - 1 + (i + 1) = as.length ∧ Ex H1 H2 ∧ ∃ acc : List V, H2 D = some (.lst acc) ∧ acc.length = i + 1 ∧ ∀ (j : Nat) (a : α), j < i + 1 → as[j]? = some a → ∃ p xs, acc[j]? = some (.ref p) ∧ p ≠ D ∧ H2 p = some (.lst xs) ∧ DpAll K H2 xs (el a), fun H2 h2 => ⟨m - 1, by omega, h2⟩, fun x H2 hyl => ?_⟩
    obtain ⟨e2, hdx⟩ := hy x H2 hyl
    have eAll : Ex H H2 := ((e0.trans e1).trans eH).trans e2
    refine item as[i] (List.getElem_mem hi) x H2 eAll hdx H2 (Ex.refl H2) _ fun σ2 hs => ⟨hs.1, ?_⟩
    show te σ2 H2 _
    refine hs.2 H2 (Ex.refl H2) _ fun y H4 e4 hdy => ?_
    obtain ⟨p, xs, rfl, np, hp, hxs⟩ := hdy
    have h4D := e4 D _ (e2 D _ hacc)
    have npD : p ≠ D := fun z => by
      rw [z, e2 D _ hacc] at np
      cases np
    have eN : TupK H4 (upd H4 D (.lst (acc ++ [.ref p]))) := TupK.upd (nrd_lst h4D)
    refine ⟨acc, h4D, sz_lt (by omega), by omega, Ex.mut ((eH.trans e2).trans e4) hD, acc ++ [.ref p], upd_same, by rw [List.length_append, hlen] <;> rfl, fun j a hj ha => ?_⟩
    by_cases hji : j < i
    · obtain ⟨p', xs', a1, a2, a3, a4⟩ := hda j a hji ha
      refine ⟨p', xs', by rw [List.getElem?_append_left (by omega)]; exact a1, a2, by rw [upd_ne a2]; exact e4 _ _ (e2 _ _ a3), dpA_tk (((TupK.of e2).trans (TupK.of e4)).trans eN) _ _ (him a (List.mem_of_getElem? ha)) a4⟩
    · have : j = i := by omega
      subst this
      rw [hai] at ha
      cases ha
      refine ⟨p, xs, by rw [List.getElem?_append_right (by omega), hlen, Nat.sub_self] <;> rfl, npD, by rw [upd_ne npD]; exact hp, dpA_tk eN _ _ (him _ (List.getElem_mem hi)) hxs⟩
  · have hn : i = as.length := by omega
    subst hn
    refine .inl ⟨w2 (by rw [List.length_map]), q (.ref D) H' (e1.trans eH) ⟨D, acc, rfl, fresh_back (e0.trans e1) hD, hacc, ?_⟩⟩
    have gen : ∀ (vs : List V) (bs : List PyData), vs.length = bs.length → (∀ (i : Nat) (v : V) (d : PyData), vs[i]? = some v → bs[i]? = some d → Dp K H' v d) → DpAll K H' vs bs := fun vs => by
      induction vs with
      | nil =>
        intro bs hl _
        cases bs with
        | nil => exact .nil
        | cons _ _ => cases hl
      | cons v vs ih =>
        intro bs hl k
        cases bs with
        | nil => cases hl
        | cons b bs => exact .cons (k 0 v b rfl rfl) (ih bs (by simpa using hl) fun i w e h1 h2 => k (i + 1) w e (by simpa using h1) (by simpa using h2))
    refine gen acc _ (by rw [List.length_map]; exact hlen) fun j v d hv hd => ?_
    obtain ⟨a, ha, rfl⟩ : ∃ a, as[j]? = some a ∧ PyData.list (el a) = d := by simpa using hd
    have hj : j < as.length := (List.getElem?_eq_some_iff.mp ha).1
    obtain ⟨p, xs, a1, a2, a3, a4⟩ := hda j a hj ha
    rw [hv] at a1
    cases a1
    exact .lst (sq_of a3) a4
end
end Kw
end
section
/-! KwE6: lists joined, repeated; a name set in an if. -/
namespace Kw
open PySem PySem.Spec PyProof.Rows L2 Evl
theorem dpA_reps {K : PySem.W.Frag} {H : Hp} {xs : List V} {ds : List PyData} (h : DpAll K H xs ds) : ∀ n : Nat, DpAll K H (List.replicate n xs).flatten (List.replicate n ds).flatten
  | 0 => .nil
  | n + 1 => dpA_app h (dpA_reps h n)
section
variable {K : PySem.W.Frag} {σ : L2.St} {H H' H1 : Hp} {ta tb te : TE} {t : TT} {v : V}
/-- a list that stands open -/
def LsD (K : PySem.W.Frag) (ds : List PyData) : PV := fun v H => ∃ p xs, v = .ref p ∧ H p = some (.lst xs) ∧ DpAll K H xs ds
theorem up_lsD {ds : List PyData} : Up (LsD K ds) := fun v H H' e h => by
  obtain ⟨p, xs, h1, h2, h3⟩ := h
  exact ⟨p, xs, h1, e p _ h2, dpA_ex e _ _ h3⟩
theorem NewD.ls {H0 : Hp} {ds : List PyData} (h : NewD K H0 ds v H) : LsD K ds v H := by
  obtain ⟨p, xs, h1, _, h3, h4⟩ := h
  exact ⟨p, xs, h1, h3, h4⟩
theorem LsD.dp {ds : List PyData} (h : LsD K ds v H) : Dp K H v (.list ds) := by
  obtain ⟨p, xs, rfl, h3, h4⟩ := h
  exact .lst (sq_of h3) h4
theorem en_cat {ds es : List PyData} (h : EvP ta σ H (LsD K ds)) (h' : EvP tb σ H (LsD K es)) (hz : ds.length + es.length ≤ 100000) : EvP (tOp rCat ta tb) σ H (NewD K H (ds ++ es)) := fun H1 e Q q =>
  h H1 e _ fun v H2 e2 p => h' H2 (e.trans e2) _ fun w H3 e3 p' => by
    obtain ⟨a, xs, rfl, ha, hxs⟩ := up_lsD v H2 H3 e3 p
    obtain ⟨b, ys, rfl, hb, hys⟩ := p'
    refine ⟨a, b, xs, ys, rfl, rfl, ha, hb, sz_of (by rw [dpA_len hxs, dpA_len hys]; exact hz), fun l hl => q _ _ ((e2.trans e3).trans (Ex.new hl)) ⟨l, _, rfl, fresh_back ((e.trans e2).trans e3) hl, upd_same, dpA_app (dpA_ex (Ex.new hl) _ _ hxs) (dpA_ex (Ex.new hl) _ _ hys)⟩⟩
theorem en_rep {ds : List PyData} {n : Nat} (h : EvP ta σ H (LsD K ds)) (h' : Ev tb σ H (.int (n : Int))) (hn : n ≤ 1000) (hl : ds.length ≤ 50) : EvP (tOp rRep ta tb) σ H (NewD K H (List.replicate n ds).flatten) := fun H1 e Q q =>
  h H1 e _ fun v H2 e2 p => h' H2 (e.trans e2) _ fun H3 e3 => by
    obtain ⟨a, xs, rfl, ha, hxs⟩ := up_lsD v H2 H3 e3 p
    have lx := dpA_len hxs
    refine ⟨a, n, xs, rfl, rfl, ha, by omega, by omega, sz_of ?_, fun l hl2 => q _ _ ((e2.trans e3).trans (Ex.new hl2)) ⟨l, _, rfl, fresh_back ((e.trans e2).trans e3) hl2, upd_same, ?_⟩⟩
    · have : ((n : Int)).toNat = n := by simp
      rw [this, lx]
      have := Nat.mul_le_mul hl hn
      omega
    · have : ((n : Int)).toNat = n := by simp
      rw [this]
      have hx := dpA_ex (Ex.new (o := .lst (List.replicate n xs).flatten) hl2) _ _ hxs
      exact dpA_reps hx n
/-- if c: x = e -/
theorem q_ifAsgP {D : Ends} {tz : TS} {P : PV} {b : Bool} {i : Nat} (h : EvT t σ H b) (h1 : b = true → EvP te σ H P) (h2 : b = false → ∃ v, σ[i]? = some (some v) ∧ P v H) (up : Up P) (k : ∀ v H1, Ex H H1 → P v H1 → tz D (σ.set i (some v)) H1) :
    tSeq (tIfS t (tAsg te (gName i)) tNext) tz D σ H := q_when h (fun hb H1 e1 => s_asgP (D := { D with nx := tz D }) ((h1 hb).mono e1) fun v H2 e2 p => k v H2 (e1.trans e2) p) (fun hb H1 e1 => by
  obtain ⟨v, hv, p⟩ := h2 hb
  have := k v H1 e1 (up v H H1 e1 p)
  have es : σ.set i (some v) = σ := by
    obtain ⟨hi, e⟩ := List.getElem?_eq_some_iff.mp hv
    rw [← e]
    exact List.set_getElem_self hi
  rw [es] at this
  exact this)
end
end Kw
end
section
/-! KwE7: a loop over a list that a reading gives. -/
namespace Kw
open PySem PySem.Spec PyProof.Rows L2 Evl
structure Loop (K : PySem.W.Frag) (g : TG) (tb : TS) (D : Ends) (σ : L2.St) (H : Hp) (xs : List V) (at_ : Hp → Prop) (Pv : Nat → L2.St → Hp → Prop) : Prop where
  z : Pv 0 σ H
  l : ∀ i σ H, i ≤ xs.length → Pv i σ H → at_ H
  s : ∀ i x σ H, xs[i]? = some x → Pv i σ H → g x σ H fun σ2 H2 => tb { D with nx := Pv (i + 1), ct := Pv (i + 1), bk := D.nx } σ2 H2
  d : ∀ σ H, Pv xs.length σ H → D.nx σ H
theorem s_forL {K : PySem.W.Frag} {tl : TE} {g : TG} {tb : TS} {D : Ends} {σ : L2.St} {H : Hp} {P : PV} (h : EvP tl σ H P) (k : ∀ v H1, Ex H H1 → P v H1 → ∃ a xs Pv, v = .ref a ∧ Loop K g tb D σ H1 xs (fun H => SqL K H a xs) Pv) : tFor (iList K tl) g tb D σ H :=
  h H (Ex.refl _) _ fun v H1 e p => by
    obtain ⟨a, xs, Pv, rfl, q⟩ := k v H1 e p
    exact ⟨a, rfl, ⟨xs, q.l 0 σ H1 (Nat.zero_le _) q.z⟩, for_list Pv q.z q.l q.s q.d⟩
theorem q_forL {K : PySem.W.Frag} {tl : TE} {g : TG} {tb tz : TS} {D : Ends} {σ : L2.St} {H : Hp} {P : PV} (h : EvP tl σ H P) (k : ∀ v H1, Ex H H1 → P v H1 → ∃ a xs Pv, v = .ref a ∧ Loop K g tb { D with nx := tz D } σ H1 xs (fun H => SqL K H a xs) Pv) : tSeq (tFor (iList K tl) g tb) tz D σ H := s_forL (D := { D with nx := tz D }) h k
end Kw
end
section
/-! KwD6: linkers_of, _law_lacking. -/
namespace Kw
open PySem PySem.Spec PyProof.Rows L2 Evl
def linkersL (ts : Ths) (n : Int) : List Int := (ts.filter fun p => (norm p.2.links).contains n).map (·.1)
def spLinkers (K : PySem.W.Frag) : Sp := fun vs H Q _ => ∃ (d : Addr) (n : Int) (ts : Ths), vs = [.ref d, .int n] ∧ ThO K H d ts ∧ TsOk ts ∧ RetP H (fun v H' => Dp K H' v (intsD (norm (linkersL ts n)))) Q
def spLLack (K : PySem.W.Frag) : Sp := fun vs H Q _ => ∃ (d : Addr) (ts : Ths), vs = [.ref d] ∧ ThR K H d ts ∧ TsOk ts ∧ RetP H (fun v H' => ∃ ps, IsLack ts ps ∧ Dp K H' v (.tuple (ps.map intsD))) Q
theorem linkersL_nodup {ts : Ths} (ok : TsOk ts) (n : Int) : (linkersL ts n).Nodup := (List.filter_sublist.map _).nodup ok.nd
theorem inV_ints {n : Int} : ∀ {ks : List Int}, inV (.int n) (ks.map V.int) = ks.contains n
  | [] => rfl
  | k :: ks => by
    have ih := inV_ints (n := n) (ks := ks)
    unfold inV at ih ⊢
    rw [List.map_cons, List.any_cons, ih, List.contains_cons]
    congr 1
    show eqV (V.int k) (V.int n) = (n == k)
    simp only [eqV]
    rw [Bool.beq_comm]
theorem flat_ints (ks : List Int) : (ks.map V.int).all flatV = true := List.all_eq_true.mpr fun v hv => by
  obtain ⟨k, _, rfl⟩ := List.mem_map.mp hv
  rfl
/-- n in t, t a tuple | a list of ints that is told as data -/
theorem ev_inTD {K : PySem.W.Frag} {σ : L2.St} {H : Hp} {ta tb : TE} {n : Int} {ns : List Int} (h : Ev ta σ H (.int n)) (h' : EvD K tb σ H (intsD ns)) : Ev (tOp (rIn K false) ta tb) σ H (.bl (ns.contains n)) := fun H1 e Q q =>
  h H1 e _ fun H2 e2 => h' H2 (e.trans e2) _ fun v H3 e3 p => by
    obtain ⟨a, rfl, ha⟩ := dp_tupI p
    refine ⟨a, ns.map V.int, rfl, .inr ha, rfl, flat_ints ns, ?_⟩
    show Q (.bl (inV (.int n) (ns.map V.int))) H3
    rw [inV_ints]
    exact q H3 (e2.trans e3)
theorem ev_inLD {K : PySem.W.Frag} {σ : L2.St} {H : Hp} {ta tb : TE} {n : Int} {ns : List Int} (h : Ev ta σ H (.int n)) (h' : EvD K tb σ H (.list (ns.map .int))) : Ev (tOp (rIn K false) ta tb) σ H (.bl (ns.contains n)) := fun H1 e Q q =>
  h H1 e _ fun H2 e2 => h' H2 (e.trans e2) _ fun v H3 e3 p => by
    obtain ⟨a, rfl, ha⟩ := dp_lstI p
    refine ⟨a, ns.map V.int, rfl, .inl ha, rfl, flat_ints ns, ?_⟩
    show Q (.bl (inV (.int n) (ns.map V.int))) H3
    rw [inV_ints]
    exact q H3 (e2.trans e3)
theorem ev_notinLD {K : PySem.W.Frag} {σ : L2.St} {H : Hp} {ta tb : TE} {n : Int} {ns : List Int} (h : Ev ta σ H (.int n)) (h' : EvD K tb σ H (.list (ns.map .int))) : Ev (tOp (rIn K true) ta tb) σ H (.bl (!ns.contains n)) := fun H1 e Q q =>
  h H1 e _ fun H2 e2 => h' H2 (e.trans e2) _ fun v H3 e3 p => by
    obtain ⟨a, rfl, ha⟩ := dp_lstI p
    refine ⟨a, ns.map V.int, rfl, .inl ha, rfl, flat_ints ns, ?_⟩
    show Q (.bl (!inV (.int n) (ns.map V.int))) H3
    rw [inV_ints]
    exact q H3 (e2.trans e3)
theorem strs_dpL {K : PySem.W.Frag} {H : Hp} {v : V} {ks : List Str} (h : Dp K H v (.list (ks.map .str))) : ∃ a, v = .ref a ∧ SqL K H a (ks.map V.str) := by
  obtain ⟨a, xs, rfl, hs, ha⟩ := dp_lst h
  rw [strs_dpA ha] at hs
  exact ⟨a, rfl, hs⟩
/-- what lacks of one name -/
def lackN (ts : Ths) (n : Int) : List (List Int) := match thOf ts n with
  | some t => lackOf ts (n, t)
  | none => []
def kd4 (t : Th) : List PyData := List.replicate t.links.length (.list (allKinds.map .str))
def kd5 : Th → List PyData
  | .tree rows => rows.map fun r => .list ((if r.2.1 = 2 then [("tree" : Str)] else ["blob"]).map .str)
  | t => kd4 t
theorem flat_one {α : Type} (a : α) : ∀ n : Nat, (List.replicate n [a]).flatten = List.replicate n a
  | 0 => rfl
  | n + 1 => by rw [List.replicate_succ, List.flatten_cons, flat_one a n] <;> rfl
theorem lackN_le {ts : Ths} (ok : TsOk ts) (n : Int) : (lackN ts n).length ≤ 3 := by
  unfold lackN
  split
  · rename_i t ht
    exact lackOf_len ok (thOf_mem ht)
  · exact Nat.zero_le _
theorem flatN_len {ts : Ths} (ok : TsOk ts) : ∀ ns : List Int, (ns.flatMap (lackN ts)).length ≤ 3 * ns.length
  | [] => by simp
  | n :: ns => by
    have h1 := flatN_len ok ns
    have h2 := lackN_le ok n
    simp only [List.flatMap_cons, List.length_append, List.length_cons]
    omega
theorem lackN_mem {ts : Ths} (ok : TsOk ts) (q : List Int) : q ∈ (norm (names ts)).flatMap (lackN ts) ↔ q ∈ lackAll ts := by
  constructor
  · intro h
    obtain ⟨n, hn, hq⟩ := List.mem_flatMap.mp h
    unfold lackN at hq
    split at hq
    · rename_i t ht
      exact List.mem_flatMap.mpr ⟨(n, t), thOf_mem ht, hq⟩
    · cases hq
  · intro h
    obtain ⟨⟨n, t⟩, hp, hq⟩ := List.mem_flatMap.mp h
    refine List.mem_flatMap.mpr ⟨n, mem_norm.mpr (List.mem_map.mpr ⟨_, hp, rfl⟩), ?_⟩
    unfold lackN
    rw [thOf_of ok.nd hp]
    exact hq
theorem tups_ks {K : PySem.W.Frag} {H : Hp} : ∀ {ps : List (List Int)} {xs : List V}, DpAll K H xs (ps.map intsD) → ∃ ks : List (Addr × List Int), xs = ks.map (fun p => V.ref p.1) ∧ ks.map (·.2) = ps ∧ ∀ p ∈ ks, SqT K H p.1 (p.2.map V.int)
  | [], xs, h => by
    cases h
    exact ⟨[], rfl, rfl, fun p hp => by cases hp⟩
  | q :: ps, xs, h => by
    cases xs with
    | nil => cases h
    | cons x xs =>
      have h1 : Dp K H x (intsD q) ∧ DpAll K H xs (ps.map intsD) := by
        cases h with
        | cons a b => exact ⟨a, b⟩
      obtain ⟨a, rfl, ha⟩ := dp_tupI h1.1
      obtain ⟨ks, e1, e2, e3⟩ := tups_ks h1.2
      refine ⟨(a, q) :: ks, by rw [e1] <;> rfl, by rw [List.map_cons, e2], fun p hp => ?_⟩
      rcases List.mem_cons.mp hp with e | hp
      · rw [e]
        exact ha
      · exact e3 p hp
theorem paired_ks {K : PySem.W.Frag} {H : Hp} : ∀ {L : List (Addr × List Int)}, (∀ p ∈ L, SqT K H p.1 (p.2.map V.int)) → Paired (fun v q => TupI K H v q) (L.map fun q => V.ref q.1) (L.map (·.2))
  | [], _ => .nil
  | p :: L, h => .cons ⟨p.1, rfl, h p List.mem_cons_self⟩ (paired_ks fun r hr => h r (List.mem_cons_of_mem _ hr))
section
variable {P : Program} {w : World} {K : PySem.W.Frag} {mg : Str → Option Value} {base : Heap}
theorem sc_linkers_of : FnScope ["things", "name", "one", "thing"] ["things", "name"] (defScope (top 32)) := ⟨rfl, rfl, rfl, by decide +kernel, rfl, by decide +kernel, by decide +kernel⟩
theorem cal_linkers_of (T : Tx K mg) (c_links_to : Cal P w K mg base "links_to" 8 ["thing"] (spLinksTo K)) : Cal P w K mg base "linkers_of" 9 ["things", "name"] (spLinkers K) := by
  obtain ⟨f, fd, F, hm⟩ := T.fn 17 "linkers_of" (top 32) rfl
  refine cal_of F hm (fun _ _ _ _ _ _ us hl => match us, hl with | [_, _], _ => rfl) (F.ok sc_linkers_of (fun vs H Q E h => by obtain ⟨_, _, _,  rfl, _⟩ := h <;> rfl) (fun cdv A outer s H vs Q E hr h => ⟨_, PSs.nox (pss_one (ps_ret (pe_callTy call_tuple_of rfl (T.fr "tuple" (by decide)) boot_tuple (pa_cons (pe_callB cr_sortedI rfl (T.fr "sorted" (by decide)) boot_sorted (pa_cons (pe_lock (pe_lc (own := [("one", 2), ("thing", 3)]) (g := (gTup K 2 (gCons (gName 2) (gCons (gName 3) gNil)))) (tt := (tTest (tOp (rIn K false) (tVar 1) (tCall (spLinksTo K) [] E0 (tCons (tVar 3) tNil))))) (te := (tVar 2)) rfl sc_linkers_of.nd (pi_items (pv 0)) (blkOk_by (N := ["things", "name", "one", "thing"]) (sc := defScope (top 32)) (by decide +kernel)) (fun _ _ _ _ _ => (pg_tup rfl (pgs_cons (pg_name (i := 2) sc_linkers_of.nd rfl (.inl rfl)) (pgs_cons (pg_name (i := 3) sc_linkers_of.nd rfl (.inl rfl)) pgs_nil)))) (fun _ _ _ _ _ => (pts_one (pt_cmpR op_in_seq (pv 1) (pe_cal c_links_to (hr.mono (by decide)) rfl (pa_cons (pv 3) pa_nil)) (by rfl)))) (fun _ _ _ _ _ => (pv 2)))) pa_nil)) pa_nil)))), ?_⟩))
  obtain ⟨d, n, ts, rfl, hd, ok, hQ⟩ := h
  have hl9 := ok.len
  refine s_retR (P := fun v H' => Dp K H' v (intsD (norm (linkersL ts n)))) (ed_tupL (EvP.imp (en_sortI (ns := linkersL ts n) (EvP.imp (R := fun v H' => Dp K H' v (.list ((linkersL ts n).map .int))) (?_ : EvP _ _ _ (NewD K H ((linkersL ts n).map .int))) fun _ _ _ p => p.dp) (linkersL_nodup ok n)) fun v' H' e p => p.dp)) hQ
  obtain ⟨us, hus, hda⟩ := hd
  refine en_lock hus True.intro (fun _ _ => by intro z; cases z) (immA_ints _) (fun H1 e1 od => ?_)
  have hus1 := e1 d _ hus
  have hda2 : DpAll K (upd H1 d (.frz od (.dK (kvsOf ts us)))) us (ts.map fun p => thD p.2) := dpA_tk (TupK.upd (nrd_dK hus1)) _ _ (imm_ths ts) (dpA_ex e1 _ _ hda)
  have hlc := en_lc (K := K) (H := upd H1 d (.frz od (.dK (kvsOf ts us)))) (σ := start ["things", "name", "one", "thing"] [.ref d, .int n]) (g := gTup K 2 (gCons (gName 2) (gCons (gName 3) gNil))) (tt := tTest (tOp (rIn K false) (tVar 1) (tCall (spLinksTo K) [] E0 (tCons (tVar 3) tNil)))) (te := tVar 2) (vs := [2, 3]) (wi := iItems (tVar 0)) ts itemD (fun p => (norm p.2.links).contains n) (fun p => .int p.1)
    (ei_items (ev_var rfl) hda2 upd_same) (by omega) (fun _ _ => rfl) (fun p hp x H2 e2 hx => fun H3 e3 Q q => gp_tup2 hx H3 e3 Q fun σ2 hs2 => q σ2 (by
      obtain ⟨v1, v2, d1, d2, rfl⟩ := hs2
      have : v1 = .int p.1 := dp_int d1
      subst this
      refine ⟨rfl, et_test (ev_inTD (ev_var rfl) ?_), fun _ => ed_var (n := 2) rfl (.int p.1)⟩
      exact ep_call (P := fun vs H' => vs = [v2] ∧ Dp K H' v2 (thD p.2)) (ea_epa (ea_one (ev_var rfl)) fun H4 e4 => ⟨rfl, dp_ex e4 _ _ d2⟩) (fun vs H4 e p' Q q => ⟨v2, p.2, by rw [p'.1] <;> rfl, p'.2, ok.ok p hp, q⟩)))
  have e : (linkersL ts n).map PyData.int = (ts.filter fun p => (norm p.2.links).contains n).map fun p => PyData.int p.1 := by
    unfold linkersL
    rw [List.map_map] <;> rfl
  rw [e]
  exact hlc
theorem sc__law_lacking : FnScope ["_law_things", "_law_found", "_law_name", "_law_thing", "_law_links_here", "_law_kinds", "_law_label", "_law_mark", "_law_link", "_law_some"] ["_law_things"] (defScope (top 50)) := ⟨rfl, rfl, rfl, by decide +kernel, rfl, by decide +kernel, by decide +kernel⟩
theorem cal__law_lacking (T : Tx K mg) (c__law_parts : Cal P w K mg base "_law_parts" 3 ["_law_thing"] (spLParts K)) : Cal P w K mg base "_law_lacking" 4 ["_law_things"] (spLLack K) := by
  obtain ⟨f, fd, F, hm⟩ := T.fn 32 "_law_lacking" (top 50) rfl
  refine cal_of F hm (fun _ _ _ _ _ _ us hl => match us, hl with | [_], _ => rfl) (F.ok sc__law_lacking (fun vs H Q E h => by obtain ⟨_, _,  rfl, _⟩ := h <;> rfl) (fun cdv A outer s H vs Q E hr h => ⟨_, PSs.nox (pss_cons (ps_set (i := 1) sc__law_lacking.nd rfl (.inl rfl) (pe_lst pa_nil))
      (pss_cons (ps_for PassesOwn.never rfl (pi_list (pe_callB (call_sortedDI rfl) rfl (T.fr "sorted" (by decide)) boot_sorted (pa_cons (pv 0) pa_nil))) (pg_name (i := 2) sc__law_lacking.nd rfl (.inr rfl)) (pss_cons (ps_set (i := 3) sc__law_lacking.nd rfl (.inl rfl) (pe_dget (hu_of hr) (pv 0) (pv 2) (fun _ _ => rfl)))
      (pss_cons (ps_set (i := 4) sc__law_lacking.nd rfl (.inl rfl) (pe_callTy call_list_of rfl (T.fr "list" (by decide)) boot_list (pa_cons (pe_ix ix_tup (pe_cal c__law_parts (hr.mono (by decide)) rfl (pa_cons (pv 3) pa_nil)) pe_int (fun _ _ => rfl)) pa_nil)))
      (pss_cons (ps_set (i := 5) sc__law_lacking.nd rfl (.inl rfl) (pe_op op_rep (pe_lst (pa_cons (pe_lst (pa_cons pe_str (pa_cons pe_str (pa_cons pe_str (pa_cons pe_str pa_nil))))) pa_nil)) (pe_callB call_len_seq rfl (T.fr "len" (by decide)) boot_len (pa_cons (pv 4) pa_nil))))
      (pss_cons (ps_if (pt_cmpR op_eq (pe_ix ix_tup (pv 3) pe_int (fun _ _ => rfl)) pe_str (nomark _)) (pss_one (ps_setLc (i := 5) (own := [("_law_label", 6), ("_law_mark", 7), ("_law_link", 8)]) (g := (gTup K 3 (gCons (gName 6) (gCons (gName 7) (gCons (gName 8) gNil))))) (tt := tYes) (te := (tIf (tTest (tOp _ (tVar 7) (tC (.int 2)))) (tLst (tCons (tC (.str "tree")) tNil)) (tLst (tCons (tC (.str "blob")) tNil)))) rfl sc__law_lacking.nd rfl rfl (by rfl) (pi_tup (pe_ix ix_tup (pv 3) pe_int (fun _ _ => rfl))) (blkOk_by (N := ["_law_things", "_law_found", "_law_name", "_law_thing", "_law_links_here", "_law_kinds", "_law_label", "_law_mark", "_law_link", "_law_some"]) (sc := defScope (top 50)) (by decide +kernel)) (fun _ _ _ _ _ => (pg_tup rfl (pgs_cons (pg_name (i := 6) sc__law_lacking.nd rfl (.inl rfl)) (pgs_cons (pg_name (i := 7) sc__law_lacking.nd rfl (.inl rfl)) (pgs_cons (pg_name (i := 8) sc__law_lacking.nd rfl (.inl rfl)) pgs_nil))))) (fun _ _ _ _ _ => pts_nil) (fun _ _ _ _ _ => (pe_ifExp (pt_cmpR op_eq (pv 7) pe_int (nomark _)) (pe_lst (pa_cons pe_str pa_nil)) (pe_lst (pa_cons pe_str pa_nil)))))) pss_nil)
      (pss_cons (ps_if (pt_cmpR op_eq (pe_ix ix_tup (pv 3) pe_int (fun _ _ => rfl)) pe_str (nomark _)) (pss_one (ps_set (i := 5) sc__law_lacking.nd rfl (.inl rfl) (pe_op op_cat (pe_lst (pa_cons (pe_lst (pa_cons pe_str pa_nil)) pa_nil)) (pe_op op_rep (pe_lst (pa_cons (pe_lst (pa_cons pe_str pa_nil)) pa_nil)) (pe_op op_sub (pe_callB call_len_seq rfl (T.fr "len" (by decide)) boot_len (pa_cons (pv 4) pa_nil)) pe_int))))) pss_nil)
      (pss_one (ps_set (i := 1) sc__law_lacking.nd rfl (.inl rfl) (pe_op op_cat (pv 1) (pe_lc (own := [("_law_link", 8), ("_law_some", 9)]) (g := (gTup K 2 (gCons (gName 8) (gCons (gName 9) gNil)))) (tt := (tOr (tB (tDNotIn (tVar 8) (tVar 0))) (tTest (tOp (rIn K true) (tOp (rIxT K) (tDGet (tVar 0) (tVar 8)) (tC (.int 0))) (tVar 9))))) (te := (tTup (tCons (tVar 2) (tCons (tVar 8) tNil)))) rfl sc__law_lacking.nd (pi_zip (by rfl) (T.fr "zip" (by decide)) (pa_cons (pv 4) (pa_cons (pv 5) pa_nil))) (blkOk_by (N := ["_law_things", "_law_found", "_law_name", "_law_thing", "_law_links_here", "_law_kinds", "_law_label", "_law_mark", "_law_link", "_law_some"]) (sc := defScope (top 50)) (by decide +kernel)) (fun _ _ _ _ _ => (pg_tup rfl (pgs_cons (pg_name (i := 8) sc__law_lacking.nd rfl (.inl rfl)) (pgs_cons (pg_name (i := 9) sc__law_lacking.nd rfl (.inl rfl)) pgs_nil)))) (fun _ _ _ _ _ => (pts_one (PW.pt (pw_or (pt_cmp (pc_dnotin (hu_of hr) (pv 8) (pv 0))) (pw_or1 (pt_cmpR op_notIn_seq (pe_ix ix_tup (pe_dget (hu_of hr) (pv 0) (pv 8) (fun _ _ => rfl)) pe_int (fun _ _ => rfl)) (pv 9) (by rfl))))))) (fun _ _ _ _ _ => (pe_tup (pa_cons (pv 2) (pa_cons (pv 8) pa_nil))))))))))))))
      (pss_one (ps_ret (pe_callTy call_tuple_of rfl (T.fr "tuple" (by decide)) boot_tuple (pa_cons (pe_callB (cr_sortedT rfl) rfl (T.fr "sorted" (by decide)) boot_sorted (pa_cons (pe_callTy (cr_setOfT rfl hr.units) rfl (T.fr "set" (by decide)) boot_set (pa_cons (pv 1) pa_nil)) pa_nil)) pa_nil)))))), ?_⟩))
  obtain ⟨d, ts, rfl, hd, ok, hQ⟩ := h
  have l9 := ok.len
  refine q_asgP (P := LsD K []) (EvP.imp (en_lst (K := K) eds_nil (by simp)) fun _ _ _ p => p.ls) (fun u1 H1 e1 hu1 => ?_)
  -- the names, ascending
  have hsort : EvP (tCB rSrtD (tCons (tVar 0) tNil)) ((start ["_law_things", "_law_found", "_law_name", "_law_thing", "_law_links_here", "_law_kinds", "_law_label", "_law_mark", "_law_link", "_law_some"] [V.ref d]).set 1 (some u1)) H1 (NewD K H1 ((norm (names ts)).map .int)) :=
    en_sortD (P := fun v H' => v = .ref d ∧ ThR K H' d ts) (ns := names ts) (ep_ev (ev_var rfl) fun H' e => ⟨rfl, hd.ex (e1.trans e)⟩) ok.nd (by simp [names]; omega) (fun v H' e p => by
      obtain ⟨rfl, us, h1, h2⟩ := p
      exact ⟨d, _, rfl, h1, kvs_keys (by rw [dpA_len h2, List.length_map])⟩)
  refine q_forL hsort fun u2 H2 e2 hu2 => ?_
  obtain ⟨pN, rfl, npN, hpN⟩ := hu2.ints
  have e12 := e1.trans e2
  have nlen : (norm (names ts)).length ≤ 9 := Nat.le_trans (norm_len _) (by simpa [names] using l9)
  refine ⟨pN, (norm (names ts)).map V.int, fun i σ H' => σ.length = 10 ∧ σ[0]? = some (some (.ref d)) ∧ (∃ u, σ[1]? = some (some u) ∧ LsD K ((((norm (names ts)).take i).flatMap (lackN ts)).map intsD) u H') ∧ Ex H2 H', rfl, ⟨rfl, rfl, ⟨u1, rfl, up_lsD _ _ _ e2 hu1⟩, Ex.refl _⟩, fun i σ H' _ p => sq_of (p.2.2.2 _ _ hpN), fun i x σ H' hx hI => ?_, fun σ H' hI => ?_⟩
  · obtain ⟨s1, s2, ⟨u, s3, s4⟩, s5⟩ := hI
    obtain ⟨n, hn, rfl⟩ : ∃ n, (norm (names ts))[i]? = some n ∧ V.int n = x := by simpa using hx
    have hin : n ∈ names ts := mem_norm.mp (List.mem_of_getElem? hn)
    obtain ⟨t, ht⟩ := thOf_some hin
    have tOk := ok.ok _ (thOf_mem ht)
    have l3 := tOk.links.1
    simp only at l3
    have hR : ThR K H' d ts := hd.ex (e12.trans s5)
    have g : ∀ k, k ≠ 2 → (σ.set 2 (some (.int n)))[k]? = σ[k]? := fun k hk => by rw [List.getElem?_set_ne (Ne.symm hk)]
    have g2 : (σ.set 2 (some (.int n)))[2]? = some (some (.int n)) := by rw [List.getElem?_set_self (by omega)]
    have gl : (σ.set 2 (some (V.int n))).length = 10 := by simpa using s1
    have gs0 := (g 0 (by decide)).trans s2
    have gs1 := (g 1 (by decide)).trans s3
    show tSeq _ _ _ (σ.set 2 (some (V.int n))) H'
    generalize σ.set 2 (some (V.int n)) = σ1 at g2 gl gs0 gs1 ⊢
    refine q_asgP (P := fun v H' => Dp K H' v (thD t)) (ed_dget (ev_var gs0) (ev_var g2) hR ht) (fun v3 H3 e3 hv3 => ?_)
    have hs3 : (σ1.set 3 (some v3))[3]? = some (some v3) := by rw [List.getElem?_set_self (by omega)]
    have hp : EvD K (tOp (rIxT K) (tCall (spLParts K) [] E0 (tCons (tVar 3) tNil)) (tC (.int 2))) (σ1.set 3 (some v3)) H3 (intsD t.links) := fun H4 e4 Q q => by
      have h1 : EvP (tCall (spLParts K) [] E0 (tCons (tVar 3) tNil)) (σ1.set 3 (some v3)) H3 (fun v H' => ∃ own, Dp K H' v (.tuple [.int t.no, intsD own, intsD t.links])) :=
        ep_call (P := fun vs H' => vs = [v3] ∧ Dp K H' v3 (thD t)) (ea_epa (ea_one (ev_var hs3)) fun H2 e2 => ⟨rfl, dp_ex e2 _ _ hv3⟩) (fun vs H2 e p Q q => ⟨v3, t, by rw [p.1] <;> rfl, p.2, tOk, q⟩)
      refine h1 H4 e4 _ fun u H5 e5 ⟨own, hu⟩ => ?_
      obtain ⟨a, xs, rfl, hs, ha⟩ := dp_tup hu
      obtain ⟨x, hx, px⟩ := dpA_get (i := 2) ha rfl
      exact ⟨a, xs, 2, x, rfl, rfl, hs, atI_nat (j := 2) hx, q x H5 e5 px⟩
    refine q_asgP (P := LsD K (t.links.map .int)) (EvP.imp (en_list (K := K) (ds := t.links.map .int) (hp.imp fun _ _ _ p => .inr p)) fun _ _ _ p => p.ls) (fun v4 H4 e4 hv4 => ?_)
    -- what is let, first as if for a tag
    have hlen4 : Ev (tCB (rLenS K) (tCons (tVar 4) tNil)) ((σ1.set 3 (some v3)).set 4 (some v4)) H4 (.int (t.links.length : Int)) := ev_is (ev_lenL (ds := t.links.map .int) (ed_var (by rw [List.getElem?_set_self (by simp; omega)]) hv4.dp)) (by rw [List.length_map])
    refine q_asgP (P := fun v H' => Dp K H' v (.list (kd4 t))) (EvP.imp (en_rep (K := K) (ds := [.list (allKinds.map .str)]) (n := t.links.length) (EvP.imp (en_lst (eds_cons (EvP.imp (en_lst (eds_cons ed_str (eds_cons ed_str (eds_cons ed_str (eds_cons ed_str eds_nil)))) (by simp)) fun _ _ _ p => p.dp) eds_nil) (by simp)) fun _ _ _ p => p.ls) hlen4 (by omega) (by simp)) fun v' H' _ p => by
      have := p.dp
      rw [flat_one] at this
      exact this) (fun v5 H5 e5 hv5 => ?_)
    have e35 := (e3.trans e4).trans e5
    have k3 : (((σ1.set 3 (some v3)).set 4 (some v4)).set 5 (some v5))[3]? = some (some v3) := by rw [List.getElem?_set_ne (by decide), List.getElem?_set_ne (by decide)]; exact hs3
    have k4 : (((σ1.set 3 (some v3)).set 4 (some v4)).set 5 (some v5))[4]? = some (some v4) := by rw [List.getElem?_set_ne (by decide), List.getElem?_set_self (by simp; omega)]
    have k5 : (((σ1.set 3 (some v3)).set 4 (some v4)).set 5 (some v5))[5]? = some (some v5) := by rw [List.getElem?_set_self (by simp; omega)]
    have kk : ∀ k, k < 3 → (((σ1.set 3 (some v3)).set 4 (some v4)).set 5 (some v5))[k]? = σ1[k]? := fun k hk => by rw [List.getElem?_set_ne (by omega), List.getElem?_set_ne (by omega), List.getElem?_set_ne (by omega)]
    have kl : (((σ1.set 3 (some v3)).set 4 (some v4)).set 5 (some v5)).length = 10 := by simpa using gl
    have q0 := (kk 0 (by decide)).trans gs0
    have q1 := (kk 1 (by decide)).trans gs1
    have q2 := (kk 2 (by decide)).trans g2
    clear kk hlen4
    generalize ((σ1.set 3 (some v3)).set 4 (some v4)).set 5 (some v5) = σ5 at k3 k4 k5 kl q0 q1 q2 ⊢
    have hth5 : EvD K (tVar 3) σ5 H5 (thD t) := ed_var k3 (dp_ex (e4.trans e5) _ _ hv3)
    -- a tree: by the marks
    refine q_ifAsgP (P := fun v H' => Dp K H' v (.list (kd5 t))) (b := decide (t.word = "tree")) (et_eqS (evS (ed_word hth5)) rfl rfl) (fun hb => ?_) (fun hb => ⟨v5, k5, ?_⟩) up_dp (fun v6 H6 e6 hv6 => ?_)
    · cases t with
      | tree rows =>
        refine EvP.imp (en_mapL (K := K) rows rowD (fun r => (if r.2.1 = 2 then [("tree" : Str)] else ["blob"]).map PyData.str) (ei_tup (ed_ixT (n := 1) hth5 ev_c rfl)) (by have := tOk.1; omega) (fun r _ => by split <;> rfl) (fun r hr x H6 e6 hx => ?_)) fun v' H' _ p => p.dp
        refine fun H7 e7 Q q => gp_tup3 hx H7 e7 Q fun σ2 hs2 => q σ2 ?_
        obtain ⟨w1, w2, w3, d1, d2, d3, rfl⟩ := hs2
        have e2' : w2 = .int r.2.1 := dp_int d2
        subst e2'
        refine ⟨?_, ?_⟩
        · apply List.ext_getElem?
          intro k
          simp only [wipe, List.map_cons, List.map_nil]
          by_cases h3 : k = 6
          · subst h3
            simp [List.getElem?_set]
          · by_cases h4 : k = 7
            · subst h4
              simp [List.getElem?_set]
            · by_cases h5 : k = 8
              · subst h5
                simp [List.getElem?_set]
              · simp [List.getElem?_set, Ne.symm h3, Ne.symm h4, Ne.symm h5]
        · have g7 : ((((wipe σ5 [6, 7, 8]).set 6 (some w1)).set 7 (some (V.int r.2.1))).set 8 (some w3))[7]? = some (some (.int r.2.1)) := by rw [List.getElem?_set_ne (by decide), List.getElem?_set_self (by simp [wipe, kl])]
          by_cases hm : r.2.1 = 2
          · rw [if_pos hm]
            exact ep_if (b := true) (et_is (et_test (ev_op (ev_var (i := 7) g7) ev_c (rv_eq rfl))) (decide_eq_true (by rw [hm]))) (fun _ => en_lst (eds_cons ed_str eds_nil) (by simp)) (fun z => by cases z)
          · rw [if_neg hm]
            exact ep_if (b := false) (et_is (et_test (ev_op (ev_var (i := 7) g7) ev_c (rv_eq rfl))) (decide_eq_false (fun z => hm (V.int.inj z)))) (fun z => by cases z) (fun _ => en_lst (eds_cons ed_str eds_nil) (by simp))
      | blob o => exact absurd hb (show ¬ decide (("blob" : Str) = "tree") = true by decide)
      | commit a b => exact absurd hb (show ¬ decide (("commit" : Str) = "tree") = true by decide)
      | tag a => exact absurd hb (show ¬ decide (("tag" : Str) = "tree") = true by decide)
    · cases t with
      | tree rows => exact absurd hb (show ¬ decide (("tree" : Str) = "tree") = false by decide)
      | _ => exact hv5
    have e36 := e35.trans e6
    have m5 : (σ5.set 5 (some v6))[5]? = some (some v6) := by rw [List.getElem?_set_self (by omega)]
    have mk : ∀ k, k ≠ 5 → (σ5.set 5 (some v6))[k]? = σ5[k]? := fun k hk => by rw [List.getElem?_set_ne (Ne.symm hk)]
    have ml : (σ5.set 5 (some v6)).length = 10 := by simpa using kl
    have r3 := (mk 3 (by decide)).trans k3
    have r4 := (mk 4 (by decide)).trans k4
    have r0 := (mk 0 (by decide)).trans q0
    have r1 := (mk 1 (by decide)).trans q1
    have r2 := (mk 2 (by decide)).trans q2
    clear mk
    generalize σ5.set 5 (some v6) = σ6 at m5 ml r3 r4 r0 r1 r2 ⊢
    have hth6 : EvD K (tVar 3) σ6 H6 (thD t) := ed_var r3 (dp_ex ((e4.trans e5).trans e6) _ _ hv3)
    -- a commit: its tree, its parents
    refine q_ifAsgP (P := fun v H' => Dp K H' v (.list (t.kinds.map fun ks => .list (ks.map .str)))) (b := decide (t.word = "commit")) (et_eqS (evS (ed_word hth6)) rfl rfl) (fun hb => ?_) (fun hb => ⟨v6, m5, ?_⟩) up_dp (fun v7 H7 e7 hv7 => ?_)
    · cases t with
      | commit a ps =>
        have hl6 : Ev (tOp (rI0 fun i j => .int (i - j)) (tCB (rLenS K) (tCons (tVar 4) tNil)) (tC (.int 1))) σ6 H6 (.int (ps.length : Int)) := ev_is (ev_op (ev_lenL (ds := (Th.commit a ps).links.map .int) (ed_var r4 (dp_ex (e5.trans e6) _ _ hv4.dp))) ev_c rv_I0) (by simp [Th.links])
        refine EvP.imp (en_cat (K := K) (ds := [.list [.str "tree"]]) (es := (List.replicate ps.length [PyData.list [.str "commit"]]).flatten) (EvP.imp (en_lst (eds_cons (EvP.imp (en_lst (eds_cons ed_str eds_nil) (by simp)) fun _ _ _ p => p.dp) eds_nil) (by simp)) fun _ _ _ p => p.ls) (EvP.imp (en_rep (K := K) (ds := [.list [.str "commit"]]) (n := ps.length) (EvP.imp (en_lst (eds_cons (EvP.imp (en_lst (eds_cons ed_str eds_nil) (by simp)) fun _ _ _ p => p.dp) eds_nil) (by simp)) fun _ _ _ p => p.ls) hl6 (by have := tOk.1; omega) (by simp)) fun _ _ _ p => p.ls) (by have := tOk.1; rw [flat_one]; simp; omega)) fun v' H' _ p => ?_
        have := p.dp
        rw [flat_one] at this
        have e : (Th.commit a ps).kinds.map (fun ks => PyData.list (ks.map .str)) = [.list [.str "tree"]] ++ List.replicate ps.length (.list [.str "commit"]) := by
          simp only [Th.kinds, List.map_cons, List.map_map, List.singleton_append, List.map_nil]
          congr 1
          clear this p hl6 hth6 tOk l3 ht hv3 hp hv4 hv5 hth5 hv6 hb
          induction ps with
          | nil => rfl
          | cons p ps ih => simp only [List.map_cons, List.length_cons, List.replicate_succ, ih, Function.comp]; rfl
        rw [e]
        exact this
      | blob o => exact absurd hb (show ¬ decide (("blob" : Str) = "commit") = true by decide)
      | tree b => exact absurd hb (show ¬ decide (("tree" : Str) = "commit") = true by decide)
      | tag a => exact absurd hb (show ¬ decide (("tag" : Str) = "commit") = true by decide)
    · cases t with
      | commit a b => exact absurd hb (show ¬ decide (("commit" : Str) = "commit") = false by decide)
      | blob o => exact hv6
      | tag a => exact hv6
      | tree rows =>
        have e : (Th.tree rows).kinds.map (fun ks => PyData.list (ks.map .str)) = kd5 (Th.tree rows) := by
          simp only [Th.kinds, kd5, List.map_map]
          rfl
        rw [e]
        exact hv6
    have e37 := e36.trans e7
    have n5 : (σ6.set 5 (some v7))[5]? = some (some v7) := by rw [List.getElem?_set_self (by omega)]
    have nk : ∀ k, k ≠ 5 → (σ6.set 5 (some v7))[k]? = σ6[k]? := fun k hk => by rw [List.getElem?_set_ne (Ne.symm hk)]
    have nl : (σ6.set 5 (some v7)).length = 10 := by simpa using ml
    have t4 := (nk 4 (by decide)).trans r4
    have t0 := (nk 0 (by decide)).trans r0
    have t1 := (nk 1 (by decide)).trans r1
    have t2 := (nk 2 (by decide)).trans r2
    clear nk
    generalize σ6.set 5 (some v7) = σ7 at n5 nl t4 t0 t1 t2 ⊢
    have hR7 : ThR K H7 d ts := hR.ex e37
    have nb := ok.nm n hin
    have hcomp := en_lc (K := K) (H := H7) (σ := σ7) (g := gTup K 2 (gCons (gName 8) (gCons (gName 9) gNil))) (tt := tOr (tB (tDNotIn (tVar 8) (tVar 0))) (tTest (tOp (rIn K true) (tOp (rIxT K) (tDGet (tVar 0) (tVar 8)) (tC (.int 0))) (tVar 9)))) (te := tTup (tCons (tVar 2) (tCons (tVar 8) tNil))) (vs := [8, 9]) (wi := iZip K (tCons (tVar 4) (tCons (tVar 5) tNil)))
      (t.links.zip t.kinds) (fun r => .tuple [.int r.1, .list (r.2.map .str)]) (bad ts) (fun r => intsD [n, r.1])
      (by
        have hz := ei_zip (K := K) (ta := tVar 4) (tb := tVar 5) (σ := σ7) (H := H7) (ds := t.links.map .int) (es := t.kinds.map fun ks => .list (ks.map .str)) (ed_var t4 (dp_ex ((e5.trans e6).trans e7) _ _ hv4.dp)) (ed_var n5 hv7) (by simp [t.kinds_len])
        rw [List.zip_map, List.map_map] at hz
        exact hz)
      (by rw [List.length_zip]; omega) (fun _ _ => imm_intsD _) (fun r hr x H8 e8 hx => fun H9 e9 Q q => gp_tup2 hx H9 e9 Q fun σ2 hs2 => q σ2 (by
        obtain ⟨w1, w2, d1, d2, rfl⟩ := hs2
        have : w1 = .int r.1 := dp_int d1
        subst this
        obtain ⟨b9, rfl, h9⟩ := strs_dpL d2
        have gg : ∀ k, k < 8 → (((wipe σ7 [8, 9]).set 8 (some (V.int r.1))).set 9 (some (V.ref b9)))[k]? = σ7[k]? := fun k hk => by
          simp only [wipe]
          rw [List.getElem?_set_ne (by omega), List.getElem?_set_ne (by omega), List.getElem?_set_ne (by omega), List.getElem?_set_ne (by omega)]
        have g8 : (((wipe σ7 [8, 9]).set 8 (some (V.int r.1))).set 9 (some (V.ref b9)))[8]? = some (some (.int r.1)) := by rw [List.getElem?_set_ne (by decide), List.getElem?_set_self (by simp [wipe, nl])]
        have g9 : (((wipe σ7 [8, 9]).set 8 (some (V.int r.1))).set 9 (some (V.ref b9)))[9]? = some (some (.ref b9)) := by rw [List.getElem?_set_self (by simp [wipe, nl])]
        have hw2 : wipe (((wipe σ7 [8, 9]).set 8 (some (V.int r.1))).set 9 (some (V.ref b9))) [8, 9] = wipe σ7 [8, 9] := by
          apply List.ext_getElem?
          intro k
          simp only [wipe]
          by_cases h3 : k = 8
          · subst h3
            simp [List.getElem?_set]
          · by_cases h4 : k = 9
            · subst h4
              simp [List.getElem?_set]
            · simp [List.getElem?_set, Ne.symm h3, Ne.symm h4]
        refine ⟨hw2, ?_, fun _ => ?_⟩
        · have v0 : Ev (tVar 0) (((wipe σ7 [8, 9]).set 8 (some (V.int r.1))).set 9 (some (V.ref b9))) H8 (.ref d) := ev_var ((gg 0 (by decide)).trans t0)
          have v8 : Ev (tVar 8) (((wipe σ7 [8, 9]).set 8 (some (V.int r.1))).set 9 (some (V.ref b9))) H8 (.int r.1) := ev_var g8
          have hR8 := hR7.ex e8
          cases hth : thOf ts r.1 with
          | none =>
            have hf : has ts r.1 = false := by
              cases q : has ts r.1 with
              | false => rfl
              | true =>
                obtain ⟨t', e'⟩ := thOf_some (has_iff.mp q)
                rw [e'] at hth
                cases hth
            have hb : bad ts r = true := by unfold bad; rw [hth]
            rw [hb]
            exact et_is (et_or (a := true) (b := true) (et_is (et_B (ev_dnotin v8 v0 hR8)) (by rw [hf] <;> rfl)) fun z => by cases z) rfl
          | some t' =>
            have hf : has ts r.1 = true := has_iff.mpr (thOf_in hth)
            have hb : bad ts r = !r.2.contains t'.word := by unfold bad; rw [hth]
            rw [hb]
            exact et_is (et_or (a := false) (b := !r.2.contains t'.word) (et_is (et_B (ev_dnotin v8 v0 hR8)) (by rw [hf] <;> rfl)) fun _ => et_is (et_test (ev_op (evS (ed_word (ed_dget v0 v8 hR8 hth))) (ev_var g9) (rv_niL h9 rfl (flat_strs r.2)))) (by rw [inV_strs])) rfl
        · exact ed_tup (eds_cons (ed_var (n := 2) ((gg 2 (by decide)).trans t2) (.int n)) (eds_cons (ed_var (n := 8) g8 (.int r.1)) eds_nil)) (by simp)))
    have hlk : lackN ts n = ((t.links.zip t.kinds).filter (bad ts)).map fun r => [n, r.1] := by
      unfold lackN
      rw [ht]
      rfl
    have lenL : (lackN ts n).length ≤ 3 := by
      rw [hlk, List.length_map]
      have h1 := List.length_filter_le (bad ts) (t.links.zip t.kinds)
      rw [List.length_zip] at h1
      omega
    have lenT : (((norm (names ts)).take i).flatMap (lackN ts)).length ≤ 3 * i := by
      have h1 := flatN_len (ts := ts) ok ((norm (names ts)).take i)
      rw [List.length_take] at h1
      omega
    have hi9 : i < 9 := by
      have := (List.getElem?_eq_some_iff.mp hn).1
      omega
    refine s_asgP (P := LsD K ((((norm (names ts)).take (i + 1)).flatMap (lackN ts)).map intsD)) (EvP.imp (en_cat (K := K) (ds := (((norm (names ts)).take i).flatMap (lackN ts)).map intsD) (es := ((t.links.zip t.kinds).filter (bad ts)).map fun r => intsD [n, r.1]) (ep_ev (ev_var t1) fun H8 e8 => up_lsD _ _ _ (e37.trans e8) s4) (EvP.imp hcomp fun _ _ _ p => p.ls) (by
      have := congrArg List.length hlk
      simp only [List.length_map] at this ⊢
      omega)) fun v' H' _ p => ?_) (fun v8 H8 e8 hv8 => ⟨by simpa using nl, by rw [List.getElem?_set_ne (by decide)]; exact t0, ⟨v8, by rw [List.getElem?_set_self (by omega)], hv8⟩, (s5.trans e37).trans e8⟩)
    have e : (((norm (names ts)).take (i + 1)).flatMap (lackN ts)).map intsD = (((norm (names ts)).take i).flatMap (lackN ts)).map intsD ++ ((t.links.zip t.kinds).filter (bad ts)).map fun r => intsD [n, r.1] := by
      rw [List.take_add_one, hn]
      simp only [Option.toList_some, List.flatMap_append, List.map_append, List.flatMap_cons, List.flatMap_nil, List.append_nil, hlk, List.map_map]
      rfl
    rw [e]
    exact p.ls
  · obtain ⟨s1, s2, ⟨u, s3, s4⟩, s5⟩ := hI
    rw [List.length_map, List.take_length] at s4
    have mem : ∀ q, q ∈ (norm (names ts)).flatMap (lackN ts) ↔ q ∈ lackAll ts := fun q => lackN_mem ok q
    have lenA : ((norm (names ts)).flatMap (lackN ts)).length ≤ 27 := by
      have := flatN_len (ts := ts) ok (norm (names ts))
      omega
    dsimp only
    refine s_retR (D := { nx := fun _ H' => Q .non H', rt := Q }) (P := fun v H' => ∃ ps, IsLack ts ps ∧ Dp K H' v (.tuple (ps.map intsD))) (fun H3 e3 Q' q => ?_) (fun v H3 e3 p => hQ v H3 ((e12.trans s5).trans e3) p)
    obtain ⟨pF, xs, rfl, hF, hxs⟩ := up_lsD _ _ _ e3 s4
    obtain ⟨ks, hks, hkv, hkt⟩ := tups_ks hxs
    refine ⟨.ref pF, s3, pF, ks, rfl, sq_of (by rw [← hks]; exact hF), hkt, ?_, fun a L na hL1 hL2 => ?_⟩
    · have := congrArg List.length hkv
      rw [List.length_map] at this
      omega
    · have kt2 : ∀ p ∈ L, SqT K (upd H3 a (SetTO P w a L)) p.1 (p.2.map V.int) := fun p hp => ex_t (Ex.new na) (hkt p (hL1 p hp))
      have prL : ∀ p ∈ L, Pr p.2 := fun p hp => lackAll_pr ok ((mem p.2).1 (by rw [← hkv]; exact List.mem_map.mpr ⟨p, hL1 p hp, rfl⟩))
      refine ⟨a, L, 2, 64, rfl, upd_same, kt2, by decide, fun p hp => ?_, fun L' l hperm hnd _ hpw nl => ?_⟩
      · obtain ⟨x, y, e, hx, hy⟩ := prL p hp
        rw [e]
        refine ⟨rfl, fun z hz => ?_⟩
        rcases List.mem_cons.mp hz with e | hz
        · rw [e]; omega
        · have e : z = y := by simpa using hz
          rw [e]; omega
      · have prL' : ∀ p ∈ L', Pr p.2 := fun p hp => prL p (hperm.mem_iff.mp hp)
        refine ⟨l, L'.map fun q => V.ref q.1, rfl, .inl ⟨sq_of upd_same, fun l3 nl3 => q (.ref l3) _ (((Ex.new na).trans (Ex.new nl)).trans (Ex.new nl3)) ⟨L'.map (·.2), ⟨?_, fun z => ?_⟩, .tup (st_of upd_same) (tups_of ?_)⟩⟩⟩
        · refine ascP_of ?_ hnd fun z hz => ?_
          · exact List.pairwise_map.mpr hpw
          · obtain ⟨p, hp, rfl⟩ := List.mem_map.mp hz
            exact prL' p hp
        · rw [← mem]
          constructor
          · intro hz
            obtain ⟨p, hp, rfl⟩ := List.mem_map.mp hz
            rw [← hkv]
            exact List.mem_map.mpr ⟨p, hL1 p (hperm.mem_iff.mp hp), rfl⟩
          · intro hz
            rw [← hkv] at hz
            obtain ⟨p, hp, rfl⟩ := List.mem_map.mp hz
            obtain ⟨r, hr, e⟩ := List.mem_map.mp (hL2 p hp)
            exact List.mem_map.mpr ⟨r, hperm.mem_iff.mpr hr, e⟩
        · have kt3 : ∀ p ∈ L', SqT K (upd (upd (upd H3 a (SetTO P w a L)) l (.lst (L'.map fun q => V.ref q.1))) l3 (.tup (L'.map fun q => V.ref q.1))) p.1 (p.2.map V.int) := fun p hp => ex_t ((Ex.new nl).trans (Ex.new nl3)) (kt2 p (hperm.mem_iff.mp hp))
          exact paired_ks kt3
end
end Kw
end
section
/-! KwE8: dicts with whole numbers as keys; loops over a list | a tuple; raising. -/
namespace Kw
open PySem PySem.Spec PyProof.Rows L2 Evl
section
variable {K : PySem.W.Frag} {σ : L2.St} {H H' H1 H2 : Hp} {ta tb te td tl : TE} {v : V}
theorem valV_isSome {n : Int} : ∀ {kvs : List (Key × V)} {F : List Int}, kvs.map (·.1) = F.map Sum.inl → (valV kvs (Sum.inl n)).isSome = F.contains n
  | [], [], _ => by rw [valV_nil] <;> rfl
  | [], _ :: _, h => by cases h
  | _ :: _, [], h => by cases h
  | (k, u) :: kvs, f :: F, h => by
    simp only [List.map_cons, List.cons.injEq] at h
    obtain ⟨rfl, h⟩ := h
    rw [List.contains_cons]
    by_cases e : f = n
    · rw [valV_pos (p := (Sum.inl f, u)) (by rw [e])]
      simp [e]
    · rw [valV_neg (p := (Sum.inl f, u)) (fun z => e (Sum.inl.inj z)), valV_isSome h]
      simp [Ne.symm e]
/-- n in d, n not in d: by the keys -/
theorem ev_nK {d : Addr} {kvs : List (Key × V)} {F : List Int} {n : Int} (hn : Ev ta σ H (.int n)) (hd : Ev tb σ H (.ref d)) (h : Rd H d (.dK kvs)) (hk : kvs.map (·.1) = F.map Sum.inl) : Ev (tDNotIn ta tb) σ H (.bl (!F.contains n)) := fun H1 e Q q =>
  hn H1 e _ fun H2 e2 => hd H2 (e.trans e2) _ fun H3 e3 => by
    refine ⟨d, valV kvs (Sum.inl n), rfl, dget_of (k := Sum.inl n) (ex_rd ((e.trans e2).trans e3) h), ?_⟩
    rw [valV_isSome hk]
    exact q H3 (e2.trans e3)
theorem ev_iK {d : Addr} {kvs : List (Key × V)} {F : List Int} {n : Int} (hn : Ev ta σ H (.int n)) (hd : Ev tb σ H (.ref d)) (h : Rd H d (.dK kvs)) (hk : kvs.map (·.1) = F.map Sum.inl) : Ev (tDIn ta tb) σ H (.bl (F.contains n)) := fun H1 e Q q =>
  hn H1 e _ fun H2 e2 => hd H2 (e.trans e2) _ fun H3 e3 => by
    refine ⟨d, valV kvs (Sum.inl n), rfl, dget_of (k := Sum.inl n) (ex_rd ((e.trans e2).trans e3) h), ?_⟩
    rw [valV_isSome hk]
    exact q H3 (e2.trans e3)
theorem g_name {n : Nat} {x : V} {Q : L2.St → Hp → Prop} (h : Q (σ.set n (some x)) H) : gName n x σ H Q := h
/-- d[y] = v -/
theorem s_dput {D : Ends} {tv ty : TE} {d : Addr} {kvs : List (Key × V)} {k : Key} (hd : Ev td σ H (.ref d)) (hy : Ev ty σ H (kV k)) (hv : Ev tv σ H v) (h : H d = some (.dK kvs)) (hl : kvs.length < 100000) (k' : ∀ H1, Ex H H1 → D.nx σ (upd H1 d (.dK (putK kvs k v)))) : sDPut td ty tv D σ H :=
  hv H (Ex.refl H) _ fun H1 e1 => hd H1 e1 _ fun H2 e2 => hy H2 (e1.trans e2) _ fun H3 e3 => ⟨d, _, rfl, DPut.k (e3 d _ (e2 d _ (e1 d _ h))) (sz_lt hl), k' H3 ((e1.trans e2).trans e3)⟩
theorem q_dput {D : Ends} {tz : TS} {tv ty : TE} {d : Addr} {kvs : List (Key × V)} {k : Key} (hd : Ev td σ H (.ref d)) (hy : Ev ty σ H (kV k)) (hv : Ev tv σ H v) (h : H d = some (.dK kvs)) (hl : kvs.length < 100000) (k' : ∀ H1, Ex H H1 → tz D σ (upd H1 d (.dK (putK kvs k v)))) : tSeq (sDPut td ty tv) tz D σ H := s_dput (D := { D with nx := tz D }) hd hy hv h hl k'
/-- for x in starts, a list | a tuple -/
theorem q_forLT {g : TG} {tb tz : TS} {D : Ends} {a : Addr} {xs : List V} (h : Ev tl σ H (.ref a)) (hx : SqL K H a xs ∨ SqT K H a xs) (Pv : Nat → L2.St → Hp → Prop) (k : ∀ H1, Ex H H1 → Pv 0 σ H1)
    (hq : ∀ i σ' H', Pv i σ' H' → Ex H H') (hs : ∀ i x σ H, xs[i]? = some x → Pv i σ H → g x σ H fun σ2 H2 => tb { D with nx := Pv (i + 1), ct := Pv (i + 1), bk := tz D } σ2 H2) (hd : ∀ σ H, Pv xs.length σ H → tz D σ H) : tSeq (tFor (iLT K tl) g tb) tz D σ H :=
  h H (Ex.refl _) _ fun H1 e => by
    rcases hx with hx | hx
    · exact ⟨a, rfl, .inl ⟨⟨xs, ex_l e hx⟩, for_list (D := { D with nx := tz D }) Pv (k H1 e) (fun i σ' H' _ p => ex_l (hq i σ' H' p) hx) hs hd⟩⟩
    · exact ⟨a, rfl, .inr ⟨⟨xs, ex_t e hx⟩, for_tup (D := { D with nx := tz D }) Pv (k H1 e) (fun i σ' H' _ p => ex_t (hq i σ' H' p) hx) hs hd⟩⟩
end
end Kw
end
section
/-! KwM3: what is come to (plain Lean). -/
namespace Kw
inductive Reach (ts : Ths) (ns : List Int) : Int → Prop
  | base {n : Int} (h : n ∈ ns) : Reach ts ns n
  | step {a l : Int} (h : Reach ts ns a) (hl : l ∈ there ts a) : Reach ts ns l
theorem reach_names {ts : Ths} {ns : List Int} (h : ∀ n ∈ ns, n ∈ names ts) {x : Int} (r : Reach ts ns x) : x ∈ names ts := by
  induction r with
  | base q => exact h _ q
  | step _ hl _ => exact there_names hl
/-- what closes under the links and has the starts has all -/
theorem reach_sub {ts : Ths} {ns : List Int} {S : Int → Prop} (h0 : ∀ n ∈ ns, S n) (h1 : ∀ x, S x → ∀ l ∈ there ts x, S l) {x : Int} (r : Reach ts ns x) : S x := by
  induction r with
  | base q => exact h0 _ q
  | step _ hl ih => exact h1 _ ih _ hl
/-! ### the walk with a list that waits -/
structure CI (ts : Ths) (ns : List Int) (ex : Int → Prop) (W F : List Int) : Prop where
  nd : F.Nodup
  sub : ∀ x ∈ W, x ∈ F
  nm : ∀ x ∈ F, x ∈ names ts
  re : ∀ x ∈ F, Reach ts ns x
  st : ∀ n ∈ ns, n ∈ F
  cl : ∀ x ∈ F, x ∉ W → ¬ ex x → ∀ l ∈ there ts x, l ∈ F
theorem CI.start {ts : Ths} {ns W F : List Int} (h : ∀ n ∈ ns, n ∈ names ts) (nd : F.Nodup) (hW : ∀ x, x ∈ W ↔ x ∈ ns) (hF : ∀ x, x ∈ F ↔ x ∈ ns) : CI ts ns (fun _ => False) W F where
  nd := nd
  sub := fun x hx => (hF x).2 ((hW x).1 hx)
  nm := fun x hx => h x ((hF x).1 hx)
  re := fun x hx => .base ((hF x).1 hx)
  st := fun n hn => (hF n).2 hn
  cl := fun x hx hn => absurd ((hW x).2 ((hF x).1 hx)) hn
theorem CI.pop {ts : Ths} {ns W F : List Int} {a : Int} (c : CI ts ns (fun _ => False) (W ++ [a]) F) : CI ts ns (· = a) W F where
  nd := c.nd
  sub := fun x hx => c.sub x (List.mem_append_left _ hx)
  nm := c.nm
  re := c.re
  st := c.st
  cl := fun x hx hn he => c.cl x hx (fun z => by
    rcases List.mem_append.mp z with z | z
    · exact hn z
    · exact he (by simpa using z)) (fun z => z)
theorem CI.add {ts : Ths} {ns W F : List Int} {ex : Int → Prop} {a l : Int} (c : CI ts ns ex W F) (hl : l ∉ F) (ha : a ∈ F) (h : l ∈ there ts a) : CI ts ns ex (W ++ [l]) (F ++ [l]) where
  nd := List.nodup_append.mpr ⟨c.nd, by simp, fun x hx y hy e => hl (by
    have : y = l := by simpa using hy
    rw [← this, ← e]
    exact hx)⟩
  sub := fun x hx => by
    rcases List.mem_append.mp hx with z | z
    · exact List.mem_append_left _ (c.sub x z)
    · exact List.mem_append_right _ z
  nm := fun x hx => by
    rcases List.mem_append.mp hx with z | z
    · exact c.nm x z
    · have e : x = l := by simpa using z
      rw [e]
      exact there_names h
  re := fun x hx => by
    rcases List.mem_append.mp hx with z | z
    · exact c.re x z
    · have e : x = l := by simpa using z
      rw [e]
      exact .step (c.re a ha) h
  st := fun n hn => List.mem_append_left _ (c.st n hn)
  cl := fun x hx hn he m hm => by
    rcases List.mem_append.mp hx with z | z
    · exact List.mem_append_left _ (c.cl x z (fun q => hn (List.mem_append_left _ q)) he m hm)
    · exact absurd (List.mem_append_right _ z) hn
theorem CI.fin {ts : Ths} {ns W F : List Int} {a : Int} (c : CI ts ns (· = a) W F) (h : ∀ l ∈ there ts a, l ∈ F) : CI ts ns (fun _ => False) W F where
  nd := c.nd
  sub := c.sub
  nm := c.nm
  re := c.re
  st := c.st
  cl := fun x hx hn _ l hl => by
    by_cases e : x = a
    · rw [e] at hl
      exact h l hl
    · exact c.cl x hx hn e l hl
theorem CI.done {ts : Ths} {ns F : List Int} (c : CI ts ns (fun _ => False) [] F) (x : Int) : x ∈ F ↔ Reach ts ns x :=
  ⟨c.re x, fun r => reach_sub (S := fun x => x ∈ F) c.st (fun x hx => c.cl x hx (by simp) (fun z => z)) r⟩
theorem CI.len {ts : Ths} {ns W F : List Int} {ex : Int → Prop} (c : CI ts ns ex W F) : F.length ≤ ts.length := by
  have := nodup_len c.nd c.nm
  simpa [names] using this
/-! ### by rounds -/
def round (ts : Ths) (S : List Int) : List Int := norm (S ++ S.flatMap (there ts))
def rounds (ts : Ths) (ns : List Int) : Nat → List Int
  | 0 => norm ns
  | n + 1 => round ts (rounds ts ns n)
theorem rounds_asc (ts : Ths) (ns : List Int) : ∀ n, Asc (rounds ts ns n)
  | 0 => asc_norm _
  | _ + 1 => asc_norm _
theorem mem_round {ts : Ths} {S : List Int} {x : Int} : x ∈ round ts S ↔ x ∈ S ∨ ∃ a ∈ S, x ∈ there ts a := by
  unfold round
  rw [mem_norm, List.mem_append, List.mem_flatMap]
theorem rounds_re {ts : Ths} {ns : List Int} : ∀ (n : Nat) (x : Int), x ∈ rounds ts ns n → Reach ts ns x
  | 0, x, h => .base (mem_norm.mp h)
  | n + 1, x, h => by
    rcases mem_round.mp h with z | ⟨a, ha, hx⟩
    · exact rounds_re n x z
    · exact .step (rounds_re n a ha) hx
theorem rounds_st {ts : Ths} {ns : List Int} {m : Int} (hm : m ∈ ns) : ∀ n : Nat, m ∈ rounds ts ns n
  | 0 => mem_norm.mpr hm
  | n + 1 => mem_round.mpr (.inl (rounds_st hm n))
theorem rounds_grow {ts : Ths} {ns : List Int} : ∀ n : Nat, round ts (rounds ts ns n) = rounds ts ns n ∨ n + 1 ≤ (rounds ts ns (n + 1)).length
  | 0 => by
    by_cases e : round ts (rounds ts ns 0) = rounds ts ns 0
    · exact .inl e
    · right
      show 0 + 1 ≤ (round ts (rounds ts ns 0)).length
      cases q : round ts (rounds ts ns 0) with
      | nil =>
        have : rounds ts ns 0 = [] := by
          cases q2 : rounds ts ns 0 with
          | nil => rfl
          | cons y ys =>
            have : y ∈ round ts (rounds ts ns 0) := mem_round.mpr (.inl (by rw [q2]; exact List.mem_cons_self))
            rw [q] at this
            cases this
        exact absurd (by rw [q, this]) e
      | cons y ys => simp
  | n + 1 => by
    by_cases e : round ts (rounds ts ns (n + 1)) = rounds ts ns (n + 1)
    · exact .inl e
    · right
      rcases rounds_grow (ts := ts) (ns := ns) n with h | h
      · exfalso
        have h2 : rounds ts ns (n + 1) = rounds ts ns n := h
        rw [h2] at e
        exact e h
      · have h1 : (rounds ts ns (n + 1)).length ≤ (rounds ts ns (n + 1 + 1)).length := nodup_len (rounds_asc ts ns (n + 1)).nodup fun x hx => mem_round.mpr (.inl hx)
        by_cases e2 : (rounds ts ns (n + 1 + 1)).length = (rounds ts ns (n + 1)).length
        · exfalso
          refine e (asc_ext (asc_norm _) (rounds_asc ts ns (n + 1)) fun k => ⟨fun hk => ?_, fun hk => mem_round.mpr (.inl hk)⟩)
          refine Classical.byContradiction fun hn => ?_
          have : (k :: rounds ts ns (n + 1)).length ≤ (rounds ts ns (n + 1 + 1)).length := nodup_len (List.nodup_cons.mpr ⟨hn, (rounds_asc ts ns (n + 1)).nodup⟩) fun x hx => by
            rcases List.mem_cons.mp hx with z | z
            · rw [z]
              exact hk
            · exact mem_round.mpr (.inl z)
          simp only [List.length_cons] at this
          omega
        · omega
/-- as many rounds as things: all is come to -/
theorem rounds_all {ts : Ths} {ns : List Int} (h : ∀ n ∈ ns, n ∈ names ts) (x : Int) : x ∈ rounds ts ns ts.length ↔ Reach ts ns x := by
  refine ⟨rounds_re _ x, fun r => ?_⟩
  have hc : ∀ y, y ∈ rounds ts ns ts.length → ∀ l ∈ there ts y, l ∈ rounds ts ns ts.length := by
    intro y hy l hl
    rcases rounds_grow (ts := ts) (ns := ns) ts.length with e | e
    · rw [← e]
      exact mem_round.mpr (.inr ⟨y, hy, hl⟩)
    · exfalso
      have := nodup_len (rounds_asc ts ns (ts.length + 1)).nodup (ys := names ts) fun z hz => reach_names h (rounds_re _ z hz)
      have e2 : (names ts).length = ts.length := by simp [names]
      omega
  exact reach_sub (S := fun x => x ∈ rounds ts ns ts.length) (fun n hn => rounds_st hn _) hc r
theorem reach_eq {ts : Ths} {ns xs ys : List Int} (h1 : Asc xs) (h2 : Asc ys) (m1 : ∀ x, x ∈ xs ↔ Reach ts ns x) (m2 : ∀ x, x ∈ ys ↔ Reach ts ns x) : xs = ys := asc_ext h1 h2 fun k => (m1 k).trans (m2 k).symm
end Kw
end
section
/-! KwD7: closure. -/
namespace Kw
open PySem PySem.Spec PyProof.Rows L2 Evl
def spClosure (K : PySem.W.Frag) (aN : Addr) : Sp := fun vs H Q E => ∃ (d st : Addr) (ts : Ths) (ns : List Int), vs = [.ref d, .ref st] ∧ ThO K H d ts ∧ TsOk ts ∧ (SqL K H st (ns.map V.int) ∨ SqT K H st (ns.map V.int)) ∧ ns.length ≤ 9 ∧
  ((∀ n ∈ ns, n ∈ names ts) → RetP H (fun v H' => ∃ rs, Asc rs ∧ (∀ x, x ∈ rs ↔ Reach ts ns x) ∧ Dp K H' v (intsD rs)) Q) ∧
  (∀ pre n post, ns = pre ++ n :: post → (∀ m ∈ pre, m ∈ names ts) → n ∉ names ts → ∀ H' x, Ex H H' → H' x = some (.xd [("name", .int n)]) → E (.ref aN) (some x) H')
/-- the state of the walk: W waits (the list p), F is found (the dict q) -/
structure ClI (K : PySem.W.Frag) (H : Hp) (d : Addr) (p q : Addr) (W F : List Int) (σ : L2.St) (H' : Hp) : Prop where
  len : σ.length = 6
  s0 : σ[0]? = some (some (.ref d))
  s3 : σ[3]? = some (some (.ref p))
  s4 : σ[4]? = some (some (.ref q))
  ex : Ex H H'
  hp : H' p = some (.lst (W.map V.int))
  hq : ∃ kvs : List (Key × V), H' q = some (.dK kvs) ∧ kvs.map (·.1) = F.map Sum.inl
theorem names_notin {ts : Ths} {n : Int} (h : has ts n = false) : n ∉ names ts := fun z => by rw [has_iff.mpr z] at h; cases h
section
variable {P : Program} {w : World} {K : PySem.W.Frag} {mg : Str → Option Value} {base : Heap} {aN : Addr}
theorem sc_closure : FnScope ["things", "starts", "name", "waiting", "found", "link"] ["things", "starts"] (defScope (top 31)) := ⟨rfl, rfl, rfl, by decide +kernel, rfl, by decide +kernel, by decide +kernel⟩
theorem cal_closure (T : Tx K mg) (c_links_there : Cal P w K mg base "links_there" 9 ["things", "name"] (spThere K)) (x_NoObject : KwX.XIn P K aN "name" "no such object") (g_NoObject : mg "NoObject" = some (.ref aN)) : CalX (L2.CX P w) P w K mg base "closure" 10 ["things", "starts"] (spClosure K aN) := by
  obtain ⟨f, fd, F, hm⟩ := T.fn 16 "closure" (top 31) rfl
  refine cal_of F hm (fun _ _ _ _ _ _ us hl => match us, hl with | [_, _], _ => rfl) (F.ok sc_closure (fun vs H Q E h => by obtain ⟨_, _, _, _,  rfl, _⟩ := h <;> rfl) (fun cdv A outer s H vs Q E hr h => ⟨_, (pss_cons (ps_for (passes_of rfl) rfl (pi_lt (pv 1)) (pg_name (i := 2) sc_closure.nd rfl (.inl rfl)) (pss_one (ps_if (pt_cmp (pc_dnotin (hu_of hr) (pv 2) (pv 0))) (pss_one (ps_raise rfl (takes_of rfl rfl rfl rfl) (pmk_x (k := 0) x_NoObject (hr.mono (by decide)) rfl g_NoObject (pv 2)))) pss_nil)))
      (pss_cons (ps_set (i := 3) sc_closure.nd rfl (.inl rfl) (pe_callB cr_sortedI rfl (T.fr "sorted" (by decide)) boot_sorted (pa_cons (pe_callTy (call_listD rfl) rfl (T.fr "list" (by decide)) boot_list (pa_cons (pe_dc (own := [("name", 2)]) (g := (gName 2)) (tt := tYes) (tk := (tVar 2)) (tv := (tC (.bl true))) rfl sc_closure.nd (pi_lt (pv 1)) (blkOk_by (N := ["things", "starts", "name", "waiting", "found", "link"]) (sc := defScope (top 31)) (by decide +kernel)) (fun _ _ _ _ _ => (pg_name (i := 2) sc_closure.nd rfl (.inl rfl))) (fun _ _ _ _ _ => pts_nil) (fun _ _ _ _ _ => (pv 2)) (fun _ _ _ _ _ => pe_bl)) pa_nil)) pa_nil)))
      (pss_cons (ps_setDc (i := 4) (own := [("name", 2)]) (g := (gName 2)) (tt := tYes) (tk := (tVar 2)) (tv := (tC (.bl true))) rfl sc_closure.nd rfl rfl (by rfl) (pi_list (pv 3)) (blkOk_by (N := ["things", "starts", "name", "waiting", "found", "link"]) (sc := defScope (top 31)) (by decide +kernel)) (fun _ _ _ _ _ => (pg_name (i := 2) sc_closure.nd rfl (.inl rfl))) (fun _ _ _ _ _ => pts_nil) (fun _ _ _ _ _ => (pv 2)) (fun _ _ _ _ _ => pe_bl))
      (pss_cons (ps_while (passes_of rfl) (pt_cmpR op_gt (pe_callB call_len_seq rfl (T.fr "len" (by decide)) boot_len (pa_cons (pv 3) pa_nil)) pe_int (nomark _)) (pss_one (ps_for (passes_of rfl) rfl (pi_list (pe_cal c_links_there (hr.mono (by decide)) rfl (pa_cons (pv 0) (pa_cons (pe_bm0 PySem.F.plainAttrs_list PySem.F.slot_list_pop PySem.F.type_list_pop mt_pop (pv 3)) pa_nil)))) (pg_name (i := 5) sc_closure.nd rfl (.inl rfl)) (pss_one (ps_if (pt_cmp (pc_dnotin (hu_of hr) (pv 5) (pv 4))) (pss_cons (ps_dput (hu_of hr) (pv 4) (pv 5) pe_bl rfl)
      (pss_one (ps_expr (pe_bm PySem.F.plainAttrs_list PySem.F.slot_list_append PySem.F.type_list_append mt_append (pv 3) (pa_cons (pv 5) pa_nil))))) pss_nil)))))
      (pss_one (ps_ret (pe_callTy call_tuple_of rfl (T.fr "tuple" (by decide)) boot_tuple (pa_cons (pe_callB cr_sortedI rfl (T.fr "sorted" (by decide)) boot_sorted (pa_cons (pe_callTy (call_listD rfl) rfl (T.fr "list" (by decide)) boot_list (pa_cons (pv 4) pa_nil)) pa_nil)) pa_nil)))))))), ?_⟩))
  obtain ⟨d, st, ts, ns, rfl, hd, ok, hs, hn9, hQ, hE⟩ := h
  refine q_forLT (ev_var (i := 1) rfl) hs (fun i σ' H' => σ'.length = 6 ∧ σ'[0]? = some (some (.ref d)) ∧ σ'[1]? = some (some (.ref st)) ∧ Ex H H' ∧ ∀ m ∈ ns.take i, m ∈ names ts) (fun H1 e1 => ⟨rfl, rfl, rfl, e1, fun m hm => by simp at hm⟩) (fun i σ' H' p => p.2.2.2.1) (fun i x σ' H' hx hI => ?_) (fun σ' H' hI => ?_)
  · obtain ⟨s1, s2, s3, s4, s5⟩ := hI
    obtain ⟨n, hn, rfl⟩ : ∃ n, ns[i]? = some n ∧ V.int n = x := by simpa using hx
    have g2 : (σ'.set 2 (some (.int n)))[2]? = some (some (.int n)) := by rw [List.getElem?_set_self (by omega)]
    have g0 : (σ'.set 2 (some (.int n)))[0]? = some (some (.ref d)) := by rw [List.getElem?_set_ne (by decide)]; exact s2
    have g1 : (σ'.set 2 (some (.int n)))[1]? = some (some (.ref st)) := by rw [List.getElem?_set_ne (by decide)]; exact s3
    refine g_name ?_
    refine s_when (et_B (ev_dnotin (ev_var g2) (ev_var g0) (hd.r.ex s4))) (fun hb H1 e1 => ?_) (fun hb H1 e1 => ?_)
    · have hnn : n ∉ names ts := names_notin (by simpa using hb)
      obtain ⟨hi, hni⟩ := List.getElem?_eq_some_iff.mp hn
      refine ⟨.int n, g2, fun dx ndx => hE (ns.take i) n (ns.drop (i + 1)) ?_ s5 hnn _ dx ((s4.trans e1).trans (Ex.new ndx)) upd_same⟩
      rw [← hni, List.getElem_cons_drop, List.take_append_drop]
    · refine ⟨by simpa using s1, g0, g1, s4.trans e1, fun m hm => ?_⟩
      rw [List.take_add_one, hn] at hm
      rcases List.mem_append.mp hm with z | z
      · exact s5 m z
      · have e : m = n := by simpa using z
        rw [e]
        exact has_iff.mp (by simpa using hb)
  · obtain ⟨s1, s2, s3, s4, s5⟩ := hI
    rw [List.length_map, List.take_length] at s5
    have hQ' := hQ s5
    have hdd : EvP (tVar 1) σ' H' (fun v H1 => Dp K H1 v (.list (ns.map .int)) ∨ Dp K H1 v (.tuple (ns.map .int))) := ep_ev (ev_var s3) fun H1 e1 => by
      rcases hs with h | h
      · exact .inl (dp_lstOf (ex_l (s4.trans e1) h))
      · exact .inr (dp_tupOf (ex_t (s4.trans e1) h))
    -- what waits
    refine q_asgP (P := NewD K H' ((norm ns).map .int)) (EvP.imp (en_sortI (ns := dedup [] ns) (EvP.imp (en_listD (ek_true (j := 2) (ei_lt hdd) (by omega) (fun x => by simp [wipe]) (by omega)) (fun v H1 e p => dictN_keys p)) fun _ _ _ p => p.dp) (nodup_dedup .nil)) fun v H1 e p => by rw [norm_dedup] at p; exact p) (fun v1 H1 e1 hv1 => ?_)
    obtain ⟨p, rfl, np, hp⟩ := hv1.ints
    have t3 : (σ'.set 3 (some (.ref p)))[3]? = some (some (.ref p)) := by rw [List.getElem?_set_self (by omega)]
    have t0 : (σ'.set 3 (some (.ref p)))[0]? = some (some (.ref d)) := by rw [List.getElem?_set_ne (by decide)]; exact s2
    have tl : (σ'.set 3 (some (.ref p))).length = 6 := by simpa using s1
    generalize σ'.set 3 (some (V.ref p)) = σ1 at t3 t0 tl ⊢
    have nl : (norm ns).length ≤ 9 := Nat.le_trans (norm_len ns) hn9
    refine q_asgP (P := DictN H1 ((norm ns).foldl (fun kvs a => putK kvs (Sum.inl a) (.bl true)) [])) (ek_true (j := 2) (ei_list (ds := (norm ns).map .int) (ed_var t3 (dp_lstOf (sq_of hp)))) (by omega) (fun x => by simp [wipe]) (by omega)) (fun v2 H2 e2 hv2 => ?_)
    obtain ⟨q, rfl, nq, hq⟩ := hv2
    have hkq := foldl_keys (v := fun _ => .bl true) (norm ns) [] [] rfl
    have npq : p ≠ q := ne_of_none hp nq
    have ndp : d ≠ p := by
      obtain ⟨us, h1, _⟩ := hd
      exact ne_of_none (s4 d _ h1) np
    have ndq : d ≠ q := by
      obtain ⟨us, h1, _⟩ := hd
      exact ne_of_none (e1 d _ (s4 d _ h1)) nq
    have npH : H p = none := fresh_back s4 np
    have nqH : H q = none := fresh_back (s4.trans e1) nq
    have c0 : CI ts ns (fun _ => False) (norm ns) (dedup [] (norm ns)) := CI.start s5 (nodup_dedup .nil) (fun x => mem_norm) (fun x => by rw [mem_dedup, mem_norm]; simp)
    have I0 : ClI K H d p q (norm ns) (dedup [] (norm ns)) (σ1.set 4 (some (.ref q))) H2 := ⟨by simpa using tl, by rw [List.getElem?_set_ne (by decide)]; exact t0, by rw [List.getElem?_set_ne (by decide)]; exact t3, by rw [List.getElem?_set_self (by omega)], (s4.trans e1).trans e2, e2 p _ hp, _, hq, hkq⟩
    refine q_while (fun m σ2 H3 => ∃ W F, ClI K H d p q W F σ2 H3 ∧ CI ts ns (fun _ => False) W F ∧ 2 * (ts.length - F.length) + W.length = m ∧ m ≤ 40) _ ⟨_, _, I0, c0, rfl, by have := ok.len; omega⟩ (fun m σ2 H3 hw => ?_)
    obtain ⟨W, F, I, c, hm, m40⟩ := hw
    have cl := c.len
    have l9 := ok.len
    refine ⟨_, et_test (ev_op (ev_lenL (ds := W.map .int) (ed_var I.s3 (dp_lstOf (sq_of I.hp)))) ev_c rv_I0), fun hb H4 e4 => ?_, fun hb H4 e4 => ?_⟩
    · have hW : W ≠ [] := fun z => by simp [z] at hb
      obtain ⟨W1, a, rfl⟩ : ∃ W1 a, W = W1 ++ [a] := ⟨W.dropLast, W.getLast hW, (List.dropLast_concat_getLast hW).symm⟩
      have haF : a ∈ F := c.sub a (by simp)
      obtain ⟨t, ht⟩ := thOf_some (c.nm a haF)
      have c1 := c.pop
      refine ⟨fun σ2 H3 => ∃ m', m' < m ∧ ∃ W F, ClI K H d p q W F σ2 H3 ∧ CI ts ns (fun _ => False) W F ∧ 2 * (ts.length - F.length) + W.length = m' ∧ m' ≤ 40, fun σ2 H3 z => z, ?_⟩
      -- the call: links_there(things, waiting.pop())
      have hp4 := e4 p _ I.hp
      refine ⟨.ref d, I.s0, .ref p, I.s3, Or.inl ⟨rfl, _, sq_of hp4⟩, p, (W1 ++ [a]).map V.int, .int a, rfl, rfl, hp4, by simp, ?_⟩
      have hdrop : ((W1 ++ [a]).map V.int).dropLast = W1.map V.int := by simp
      rw [hdrop]
      have e5 : Ex H (upd H4 p (.lst (W1.map V.int))) := (I.ex.trans e4).mut npH
      refine ⟨d, a, ts, t, rfl, (hd.r.ex e5), ok, ht, fun v H5 e6 hv => ?_⟩
      obtain ⟨l, rfl, nl, hl⟩ := NewD.ints hv
      have nlp : p ≠ l := ne_of_none upd_same nl
      obtain ⟨kvs0, hq0, hk0⟩ := I.hq
      have hq5 : H5 q = some (.dK kvs0) := e6 q _ (by rw [upd_ne (Ne.symm npq)]; exact e4 q _ hq0)
      have nlq : q ≠ l := ne_of_none (H := upd H4 p (.lst (W1.map V.int))) (by rw [upd_ne (Ne.symm npq)]; exact e4 q _ hq0) nl
      have I5 : ClI K H d p q W1 F σ2 H5 := ⟨I.len, I.s0, I.s3, I.s4, e5.trans e6, e6 p _ upd_same, kvs0, hq5, hk0⟩
      have hm' : 2 * (ts.length - F.length) + W1.length + 1 = m := by simpa [Nat.add_assoc] using hm
      refine ⟨l, rfl, ⟨_, sq_of hl⟩, for_list (D := { nx := _, rt := _, bk := _, ct := _ }) (xs := (there ts a).map V.int) (fun i σ4 H6 => ∃ W F, ClI K H d p q W F σ4 H6 ∧ CI ts ns (· = a) W F ∧ a ∈ F ∧ (∀ x ∈ (there ts a).take i, x ∈ F) ∧ H6 l = some (.lst ((there ts a).map V.int)) ∧ 2 * (ts.length - F.length) + W.length + 1 ≤ m) ⟨W1, F, I5, c1, haF, fun x hx => by simp at hx, hl, Nat.le_of_eq hm'⟩ (fun i σ4 H6 _ ⟨_, _, _, _, _, _, z, _⟩ => sq_of z) (fun i x σ4 H6 hx hI => ?_) (fun σ4 H6 hI => ?_)⟩
      · obtain ⟨W, F, I, c, haF, hsub, hl6, hm⟩ := hI
        obtain ⟨lk, hlk, rfl⟩ : ∃ n, (there ts a)[i]? = some n ∧ V.int n = x := by simpa using hx
        have hlkm : lk ∈ there ts a := List.mem_of_getElem? hlk
        obtain ⟨kvs, hq6, hk6⟩ := I.hq
        have cl := c.len
        have u5 : (σ4.set 5 (some (.int lk)))[5]? = some (some (.int lk)) := by rw [List.getElem?_set_self (by rw [I.len]; decide)]
        have u0 : (σ4.set 5 (some (.int lk)))[0]? = some (some (.ref d)) := by rw [List.getElem?_set_ne (by decide)]; exact I.s0
        have u3 : (σ4.set 5 (some (.int lk)))[3]? = some (some (.ref p)) := by rw [List.getElem?_set_ne (by decide)]; exact I.s3
        have u4 : (σ4.set 5 (some (.int lk)))[4]? = some (some (.ref q)) := by rw [List.getElem?_set_ne (by decide)]; exact I.s4
        have ul : (σ4.set 5 (some (.int lk))).length = 6 := by simpa using I.len
        have step : ∀ F' : List Int, (∀ x ∈ F, x ∈ F') → lk ∈ F' → ∀ x ∈ (there ts a).take (i + 1), x ∈ F' := fun F' h1 h2 x hx => by
          rw [List.take_add_one, hlk] at hx
          rcases List.mem_append.mp hx with z | z
          · exact h1 x (hsub x z)
          · have e : x = lk := by simpa using z
            rw [e]
            exact h2
        refine g_name ?_
        refine s_when (et_B (ev_nK (ev_var u5) (ev_var u4) (.inl hq6) hk6)) (fun hb H7 e7 => ?_) (fun hb H7 e7 => ?_)
        · have hnF : lk ∉ F := by simpa using hb
          have kl : kvs.length = F.length := by
            have := congrArg List.length hk6
            simpa using this
          have c2 := c.add hnF haF hlkm
          have cl2 := c2.len
          rw [List.length_append] at cl2
          simp only [List.length_cons, List.length_nil] at cl2
          refine q_dput (ev_var u4) (k := Sum.inl lk) (ev_var u5) ev_c (e7 q _ hq6) (by omega) fun H8 e8 => ?_
          have hp8 : (upd H8 q (.dK (putK kvs (Sum.inl lk) (.bl true)))) p = some (.lst (W.map V.int)) := by rw [upd_ne npq]; exact e8 p _ (e7 p _ I.hp)
          have hl8 : (upd H8 q (.dK (putK kvs (Sum.inl lk) (.bl true)))) l = some (.lst ((there ts a).map V.int)) := by rw [upd_ne (Ne.symm nlq)]; exact e8 l _ (e7 l _ hl6)
          have wl : W.length ≤ 100 := by omega
          refine s_app hp8 (ev_var u3) (ev_var u5) (by rw [List.length_map]; omega) fun H9 e9 => ⟨W ++ [lk], F ++ [lk], ⟨ul, u0, u3, u4, ((((I.ex.trans e7).trans e8).mut nqH).trans e9).mut npH, ?_, ?_⟩, c2, List.mem_append_left _ haF, step _ (fun x hx => List.mem_append_left _ hx) (by simp), ?_, ?_⟩
          · rw [upd_same, List.map_append] <;> rfl
          · refine ⟨_, by rw [upd_ne (Ne.symm npq)]; exact e9 q _ upd_same, ?_⟩
            rw [keys_new (by rw [hk6]; intro z; obtain ⟨y, hy, e⟩ := List.mem_map.mp z; exact hnF (by rw [← Sum.inl.inj e]; exact hy)), hk6, List.map_append] <;> rfl
          · rw [upd_ne (Ne.symm nlp)]
            exact e9 l _ hl8
          · simp only [List.length_append, List.length_cons, List.length_nil]
            omega
        · have hF : lk ∈ F := by simpa using hb
          exact ⟨W, F, ⟨ul, u0, u3, u4, I.ex.trans e7, e7 p _ I.hp, kvs, e7 q _ hq6, hk6⟩, c, haF, step F (fun x hx => hx) hF, e7 l _ hl6, hm⟩
      · obtain ⟨W, F, I, c, haF, hsub, hl6, hm⟩ := hI
        rw [List.length_map, List.take_length] at hsub
        exact ⟨_, by omega, W, F, I, c.fin hsub, rfl, by omega⟩
    · have hW : W = [] := by
        cases W with
        | nil => rfl
        | cons x W =>
          exfalso
          simp at hb
      subst hW
      obtain ⟨kvs, hq6, hk6⟩ := I.hq
      refine s_retR (P := fun v H' => ∃ rs, Asc rs ∧ (∀ x, x ∈ rs ↔ Reach ts ns x) ∧ Dp K H' v (intsD rs)) (EvP.imp (ed_tupL (ds := (norm F).map .int) (EvP.imp (en_sortI (ns := F) (EvP.imp (en_listD (P := fun v H' => v = .ref q ∧ H' q = some (.dK kvs)) (ep_ev (ev_var I.s4) fun H5 e5 => ⟨rfl, e5 q _ (e4 q _ hq6)⟩) (fun v H1 e z => ⟨q, kvs, z.1, .inl z.2, hk6⟩)) fun _ _ _ z => z.dp) c.nd) fun _ _ _ z => z.dp)) fun v H' _ z => ⟨norm F, asc_norm _, fun x => mem_norm.trans (c.done x), z⟩) (fun v H5 e5 z => hQ' v H5 ((I.ex.trans e4).trans e5) z)
end
end Kw
end
section
/-! KwE9: min, index, pieces of lists of whole numbers. -/
namespace Kw
open PySem PySem.Spec PyProof.Rows L2 Evl
section
variable {K : PySem.W.Frag} {σ : L2.St} {H H' H1 H2 : Hp} {ta tb te td tl : TE} {v : V}
def MinOf (ns : List Int) : PV := fun v _ => ∃ m, m ∈ ns ∧ (∀ y ∈ ns, m ≤ y) ∧ v = .int m
theorem ep_min {ns : List Int} (h : EvD K te σ H (.list (ns.map .int))) (hn : ns ≠ []) : EvP (tCB (rMin K) (tCons te tNil)) σ H (MinOf ns) := fun H1 e Q q =>
  h H1 e _ fun v H2 e2 p => by
    obtain ⟨a, rfl, ha⟩ := dp_lstI p
    exact ⟨a, ns, rfl, ha, List.length_pos_iff.mpr hn, fun m hm hy => q _ H2 e2 ⟨m, hm, hy, rfl⟩⟩
theorem ep_minK {d : Addr} {kvs : List (Key × V)} {F : List Int} (h : Ev te σ H (.ref d)) (hd : H d = some (.dK kvs)) (hk : kvs.map (·.1) = F.map Sum.inl) (hn : F ≠ []) : EvP (tCB rMinK (tCons te tNil)) σ H (MinOf F) := fun H1 e Q q =>
  h H1 e _ fun H2 e2 => ⟨d, kvs, F, rfl, e2 d _ (e d _ hd), hk, hn, fun m hm hy => q _ H2 e2 ⟨m, hm, hy, rfl⟩⟩
theorem eqV_int (a b : Int) : eqV (.int a) (.int b) = (a == b) := by simp only [eqV]
theorem first_at {n : Int} : ∀ {ns : List Int}, n ∈ ns → ∃ j, ns[j]? = some n ∧ ∀ (m : Nat) (z : Int), m < j → ns[m]? = some z → z ≠ n
  | x :: ns, h => by
    by_cases e : x = n
    · exact ⟨0, by simp [e], fun m z hm => absurd hm (by omega)⟩
    · rcases List.mem_cons.mp h with z | z
      · exact absurd z.symm e
      · obtain ⟨j, h1, h2⟩ := first_at z
        refine ⟨j + 1, by simpa using h1, fun m z hm hz => ?_⟩
        cases m with
        | zero =>
          have : x = z := by simpa using hz
          rw [← this]
          exact e
        | succ m => exact h2 m z (by omega) (by simpa using hz)
theorem flat_intsV (ks : List Int) : (ks.map V.int).all flatV = true := List.all_eq_true.mpr fun v hv => by
  obtain ⟨k, _, rfl⟩ := List.mem_map.mp hv
  rfl
/-- ns.index(n) -/
theorem ep_index {a : Addr} {ns : List Int} {n : Int} (ho : Ev ta σ H (.ref a)) (ha : SqL K H a (ns.map V.int)) (hn : Ev tb σ H (.int n)) (hm : n ∈ ns) : EvP (tBM K "list" (rIndex K) ta (tCons tb tNil)) σ H (fun v _ => ∃ j : Nat, j < ns.length ∧ v = .int (j : Int)) := fun H1 e Q q =>
  ho H1 e _ fun H2 e2 => ⟨Or.inl ⟨rfl, _, ex_l (e.trans e2) ha⟩, hn H2 (e.trans e2) _ fun H3 e3 => by
    obtain ⟨j, h1, h2⟩ := first_at hm
    refine ⟨a, ns.map V.int, .int n, j, .int n, rfl, rfl, ex_l ((e.trans e2).trans e3) ha, rfl, flat_intsV ns, by simpa using h1, by simp [eqV], fun m z hm hz => ?_, q _ H3 (e2.trans e3) ⟨j, (List.getElem?_eq_some_iff.mp h1).1, rfl⟩⟩
    obtain ⟨y, hy, rfl⟩ : ∃ y, ns[m]? = some y ∧ V.int y = z := by simpa using hz
    have := h2 m y hm hy
    simpa [eqV] using this⟩
/-- a list of one's own, of ns, at most k long -/
def SubL (ns : List Int) (k : Nat) : PV := fun v H => ∃ p ms, v = .ref p ∧ H p = some (.lst (List.map V.int ms)) ∧ (∀ m ∈ ms, m ∈ ns) ∧ ms.length ≤ k
theorem up_subL {ns : List Int} {k : Nat} : Up (SubL ns k) := fun v H H' e h => by
  obtain ⟨p, ms, rfl, h1, h2, h3⟩ := h
  exact ⟨p, ms, rfl, e p _ h1, h2, h3⟩
theorem cut_ints (ns : List Int) (lo hi : Option Int) : ∃ ms, cutV (ns.map V.int) lo hi = List.map V.int ms ∧ (∀ m ∈ ms, m ∈ ns) ∧ ms.length ≤ ns.length := by
  refine ⟨(ns.drop (HT.sIx ns.length 0 lo)).take (HT.sIx ns.length ns.length hi - HT.sIx ns.length 0 lo), ?_, fun m hm => List.mem_of_mem_drop (List.mem_of_mem_take hm), ?_⟩
  · unfold cutV
    rw [List.length_map, ← List.map_drop, ← List.map_take]
  · rw [List.length_take, List.length_drop]
    omega
theorem es_sl {tl th : TO} {a : Addr} {ns : List Int} {lo hi : Option Int} (h : Ev te σ H (.ref a)) (h1 : EvO tl σ H lo) (h2 : EvO th σ H hi) (hs : SqL K H a (ns.map V.int)) : EvP (tSl (rSlL K) te tl th) σ H (SubL ns ns.length) := fun H0 e Q q =>
  el_sl h h1 h2 hs H0 e Q fun p H2 np e2 hp => by
    obtain ⟨ms, m1, m2, m3⟩ := cut_ints ns lo hi
    exact q _ H2 e2 ⟨p, ms, rfl, by rw [← m1]; exact hp, m2, m3⟩
theorem es_cat {ns : List Int} {j k : Nat} (h : EvP ta σ H (SubL ns j)) (h' : EvP tb σ H (SubL ns k)) (hz : j + k ≤ 100000) : EvP (tOp rCat ta tb) σ H (SubL ns (j + k)) := fun H1 e Q q =>
  h H1 e _ fun v H2 e2 p => h' H2 (e.trans e2) _ fun u H3 e3 p' => by
    obtain ⟨a, xs, rfl, a1, a2, a3⟩ := up_subL _ _ _ e3 p
    obtain ⟨b, ys, rfl, b1, b2, b3⟩ := p'
    refine ⟨a, b, _, _, rfl, rfl, a1, b1, sz_of (by simp only [List.length_map]; omega), fun c hc => q _ _ ((e2.trans e3).trans (Ex.new hc)) ⟨c, xs ++ ys, rfl, by rw [upd_same, List.map_append], fun m hm => ?_, by rw [List.length_append]; omega⟩⟩
    rcases List.mem_append.mp hm with z | z
    · exact a2 m z
    · exact b2 m z
end
end Kw
end
section
/-! KwD8: ring_in. -/
namespace Kw
open PySem PySem.Spec PyProof.Rows L2 Evl
def spRing (K : PySem.W.Frag) : Sp := fun vs H Q _ => ∃ (d l : Addr) (ts : Ths) (kvs : List (Key × V)) (L : List Int), vs = [.ref d, .ref l] ∧ ThR K H d ts ∧ TsOk ts ∧ H l = some (.dK kvs) ∧ kvs.map (·.1) = L.map Sum.inl ∧ L.Nodup ∧ L ≠ [] ∧ (∀ n ∈ L, n ∈ names ts) ∧ (∀ n ∈ L, ∃ m ∈ there ts n, m ∈ L) ∧
  RetP H (fun v H' => ∃ rs : List Int, (∀ r ∈ rs, r ∈ L) ∧ rs.length ≤ 40 ∧ Dp K H' v (intsD rs)) Q
section
variable {P : Program} {w : World} {K : PySem.W.Frag} {mg : Str → Option Value} {base : Heap} {aN : Addr}
/-- min([link for link in links_there(things, n) if link in names]) -/
theorem ep_minlink {σ : L2.St} {H : Hp} {ta : TE} {d l : Addr} {ts : Ths} {kvs : List (Key × V)} {L : List Int} {n : Int} {E : XK} (hn : Ev ta σ H (.int n)) (h0 : σ[0]? = some (some (.ref d))) (h1 : σ[1]? = some (some (.ref l))) (s7 : σ.length = 7) (hd : ThR K H d ts) (ok : TsOk ts)
    (hl : H l = some (.dK kvs)) (hk : kvs.map (·.1) = L.map Sum.inl) (sL : ∀ n ∈ L, n ∈ names ts) (hL : ∀ n ∈ L, ∃ m ∈ there ts n, m ∈ L) (hm : n ∈ L) :
    EvP (tCB (rMin K) (tCons (tLc (iList K (tCall (spThere K) [] E (tCons (tVar 0) (tCons ta tNil)))) (gName 4) (tB (tDIn (tVar 4) (tVar 1))) (tVar 4) [4]) tNil)) σ H (fun v _ => ∃ m, m ∈ L ∧ v = .int m) := by
  obtain ⟨t, ht⟩ := thOf_some (sL n hm)
  have hc : EvP (tCall (spThere K) [] E (tCons (tVar 0) (tCons ta tNil))) σ H (fun v H' => Dp K H' v (.list ((there ts n).map .int))) :=
    ep_call (P := fun vs H' => vs = [.ref d, .int n]) (ea_epa (ea_two (ev_var h0) hn) fun _ _ => rfl) (fun vs H1 e p Q q => ⟨d, n, ts, t, by rw [p] <;> rfl, hd.ex e, ok, ht, fun v H2 e2 hv => q v H2 e2 hv.dp⟩)
  have hlc := en_lc (K := K) (there ts n) PyData.int (fun m => L.contains m) PyData.int (g := gName 4) (tt := tB (tDIn (tVar 4) (tVar 1))) (te := tVar 4) (vs := [4]) (ei_list hc) (by have := there_len ok n; omega) (fun _ _ => rfl) (fun a ha x H1 e1 hx => by
    rw [dp_int hx]
    exact fun H2 e2 Q q => gp_name H2 e2 Q fun σ' hs => q σ' (by
      subst hs
      have g4 : ((wipe σ [4]).set 4 (some (V.int a)))[4]? = some (some (.int a)) := by rw [List.getElem?_set_self (by simp [wipe, s7])]
      have g1 : ((wipe σ [4]).set 4 (some (V.int a)))[1]? = some (some (.ref l)) := by
        rw [List.getElem?_set_ne (by decide)]
        simp only [wipe]
        rw [List.getElem?_set_ne (by decide)]
        exact h1
      exact ⟨by simp [wipe], et_B (ev_iK (ev_var g4) (ev_var g1) (.inl (e1 l _ hl)) hk), fun _ => ed_var g4 (.int a)⟩))
  refine EvP.imp (ep_min (ns := (there ts n).filter fun m => L.contains m) (EvP.imp hlc fun _ _ _ p => p.dp) ?_) fun v H' e p => ?_
  · obtain ⟨m, h1, h2⟩ := hL n hm
    intro z
    have : m ∈ (there ts n).filter fun m => L.contains m := List.mem_filter.mpr ⟨h1, by simpa using h2⟩
    rw [z] at this
    cases this
  · obtain ⟨m, h1, h2, h3⟩ := p
    exact ⟨m, by simpa using (List.mem_filter.mp h1).2, h3⟩
theorem sc_ring_in : FnScope ["things", "names", "trail", "here", "link", "ring", "at"] ["things", "names"] (defScope (top 33)) := ⟨rfl, rfl, rfl, by decide +kernel, rfl, by decide +kernel, by decide +kernel⟩
theorem cal_ring_in (T : Tx K mg) (c_links_there : Cal P w K mg base "links_there" 9 ["things", "name"] (spThere K)) : Cal P w K mg base "ring_in" 10 ["things", "names"] (spRing K) := by
  obtain ⟨f, fd, F, hm⟩ := T.fn 18 "ring_in" (top 33) rfl
  refine cal_of F hm (fun _ _ _ _ _ _ us hl => match us, hl with | [_, _], _ => rfl) (F.ok sc_ring_in (fun vs H Q E h => by obtain ⟨_, _, _, _, _,  rfl, _⟩ := h <;> rfl) (fun cdv A outer s H vs Q E hr h => ⟨_, PSs.nox (pss_cons (ps_set (i := 2) sc_ring_in.nd rfl (.inl rfl) (pe_lst (pa_cons (pe_callB (cr_minK rfl) rfl (T.fr "min" (by decide)) boot_min (pa_cons (pv 1) pa_nil)) pa_nil)))
      (pss_cons (ps_set (i := 3) sc_ring_in.nd rfl (.inl rfl) (pe_callB (cr_min rfl) rfl (T.fr "min" (by decide)) boot_min (pa_cons (pe_lc (own := [("link", 4)]) (g := (gName 4)) (tt := (tB (tDIn (tVar 4) (tVar 1)))) (te := (tVar 4)) rfl sc_ring_in.nd (pi_list (pe_cal c_links_there (hr.mono (by decide)) rfl (pa_cons (pv 0) (pa_cons (pe_ix ix_list (pv 2) (pe_un un_neg pe_int) (fun _ _ => rfl)) pa_nil)))) (blkOk_by (N := ["things", "names", "trail", "here", "link", "ring", "at"]) (sc := defScope (top 33)) (by decide +kernel)) (fun _ _ _ _ _ => (pg_name (i := 4) sc_ring_in.nd rfl (.inl rfl))) (fun _ _ _ _ _ => (pts_one (pt_cmp (pc_din (hu_of hr) (pv 4) (pv 1))))) (fun _ _ _ _ _ => (pv 4))) pa_nil)))
      (pss_cons (ps_while PassesOwn.never (pt_cmpR op_notIn_seq (pv 3) (pv 2) (by rfl)) (pss_cons (ps_expr (pe_bm PySem.F.plainAttrs_list PySem.F.slot_list_append PySem.F.type_list_append mt_append (pv 2) (pa_cons (pv 3) pa_nil)))
      (pss_one (ps_set (i := 3) sc_ring_in.nd rfl (.inl rfl) (pe_callB (cr_min rfl) rfl (T.fr "min" (by decide)) boot_min (pa_cons (pe_lc (own := [("link", 4)]) (g := (gName 4)) (tt := (tB (tDIn (tVar 4) (tVar 1)))) (te := (tVar 4)) rfl sc_ring_in.nd (pi_list (pe_cal c_links_there (hr.mono (by decide)) rfl (pa_cons (pv 0) (pa_cons (pv 3) pa_nil)))) (blkOk_by (N := ["things", "names", "trail", "here", "link", "ring", "at"]) (sc := defScope (top 33)) (by decide +kernel)) (fun _ _ _ _ _ => (pg_name (i := 4) sc_ring_in.nd rfl (.inl rfl))) (fun _ _ _ _ _ => (pts_one (pt_cmp (pc_din (hu_of hr) (pv 4) (pv 1))))) (fun _ _ _ _ _ => (pv 4))) pa_nil))))))
      (pss_cons (ps_set (i := 5) sc_ring_in.nd rfl (.inl rfl) (pe_slice sl_list (pv 2) (po_some (pe_bm PySem.F.plainAttrs_list PySem.F.slot_list_index PySem.F.type_list_index mt_index (pv 2) (pa_cons (pv 3) pa_nil))) po_none))
      (pss_cons (ps_set (i := 6) sc_ring_in.nd rfl (.inl rfl) (pe_bm PySem.F.plainAttrs_list PySem.F.slot_list_index PySem.F.type_list_index mt_index (pv 5) (pa_cons (pe_callB (cr_min rfl) rfl (T.fr "min" (by decide)) boot_min (pa_cons (pv 5) pa_nil)) pa_nil)))
      (pss_one (ps_ret (pe_callTy call_tuple_of rfl (T.fr "tuple" (by decide)) boot_tuple (pa_cons (pe_op op_cat (pe_slice sl_list (pv 5) (po_some (pv 6)) po_none) (pe_slice sl_list (pv 5) po_none (po_some (pv 6)))) pa_nil))))))))), ?_⟩))
  obtain ⟨d, l, ts, kvs, L, rfl, hd, ok, hl, hk, nL, eL, sL, hL, hQ⟩ := h
  have lL : L.length ≤ 9 := by
    have := nodup_len nL sL
    have := ok.len
    simp only [names, List.length_map] at *
    omega
  refine q_asgP (P := fun v H' => ∃ n, n ∈ L ∧ NewD K H [.int n] v H') (fun H1 e1 Q q => ?_) (fun v1 H1 e1 hv1 => ?_)
  · refine ep_minK (ev_var rfl) hl hk eL H1 e1 _ fun v H2 e2 p => ?_
    obtain ⟨m, h1, _, rfl⟩ := p
    exact ⟨by show 1 ≤ sizeLine; decide, fun a na => q _ _ (e2.trans (Ex.new na)) ⟨m, h1, a, _, rfl, fresh_back (e1.trans e2) na, upd_same, dpA_ints [m]⟩⟩
  obtain ⟨n0, hn0, hv1⟩ := hv1
  obtain ⟨p, rfl, np, hp⟩ := NewD.ints (ns := [n0]) hv1
  have npl : p ≠ l := Ne.symm (ne_of_none hl np)
  have hd1 : ThR K H1 d ts := hd.ex e1
  have hl1 := e1 l _ hl
  -- the first step
  refine q_asgP (P := fun v _ => ∃ m, m ∈ L ∧ v = .int m) (ep_minlink (n := n0) (ev_op (ev_var rfl) (ev_un ev_c ru_neg) (rv_ixL (sq_of hp) rfl)) rfl rfl rfl hd1 ok hl1 hk sL hL hn0) (fun v2 H2 e2 hv2 => ?_)
  obtain ⟨m0, hm0, rfl⟩ := hv2
  have hd2 := hd1.ex e2
  refine q_while (fun k σ2 H3 => ∃ (T : List Int) (h : Int), σ2.length = 7 ∧ σ2[0]? = some (some (.ref d)) ∧ σ2[1]? = some (some (.ref l)) ∧ σ2[2]? = some (some (.ref p)) ∧ σ2[3]? = some (some (.int h)) ∧ Ex H H3 ∧ H3 p = some (.lst (T.map V.int)) ∧ T.Nodup ∧ (∀ x ∈ T, x ∈ L) ∧ h ∈ L ∧ k = L.length - T.length) _ ⟨[n0], m0, rfl, rfl, rfl, rfl, rfl, e1.trans e2, e2 p _ hp, by simp, fun x hx => (by
    have : x = n0 := by simpa using hx
    rw [this]; exact hn0), hm0, rfl⟩ (fun k σ2 H3 hw => ?_)
  obtain ⟨T, h, s7, s0, s1, s2, s3, eH, hpT, nT, sT, hh, hk2⟩ := hw
  have lT := nodup_len nT sT
  refine ⟨!T.contains h, et_is (et_test (ev_op (ev_var s3) (ev_var s2) (rv_niL (sq_of hpT) rfl (flat_intsV T)))) (by rw [inV_ints]), fun hb H4 e4 => ?_, fun hb H4 e4 => ?_⟩
  · have hnT : h ∉ T := by simpa using hb
    have nT2 : (T ++ [h]).Nodup := List.nodup_append.mpr ⟨nT, by simp, fun x hx y hy e => hnT (by
      have : y = h := by simpa using hy
      rw [← this, ← e]
      exact hx)⟩
    have sT2 : ∀ x ∈ T ++ [h], x ∈ L := fun x hx => by
      rcases List.mem_append.mp hx with z | z
      · exact sT x z
      · have : x = h := by simpa using z
        rw [this]
        exact hh
    have lT2 := nodup_len nT2 sT2
    simp only [List.length_append, List.length_cons, List.length_nil] at lT2
    refine ⟨_, fun σ2 H3 z => z, ?_⟩
    refine q_app (e4 p _ hpT) (ev_var s2) (ev_var s3) (by rw [List.length_map]; omega) fun H5 e5 => ?_
    have e6 : Ex H (upd H5 p (.lst (T.map V.int ++ [.int h]))) := ((eH.trans e4).trans e5).mut (fresh_back (Ex.refl H) np)
    refine s_asgP (P := fun v _ => ∃ m, m ∈ L ∧ v = .int m) (ep_minlink (n := h) (ev_var s3) s0 s1 s7 (hd.ex e6) ok (e6 l _ hl) hk sL hL hh) (fun v7 H7 e7 hv7 => ?_)
    obtain ⟨m, hm, rfl⟩ := hv7
    refine ⟨L.length - (T ++ [h]).length, by simp only [List.length_append, List.length_cons, List.length_nil]; omega, T ++ [h], m, by simpa using s7, ?_, ?_, ?_, ?_, e6.trans e7, ?_, nT2, sT2, hm, rfl⟩
    · rw [List.getElem?_set_ne (by decide)]
      exact s0
    · rw [List.getElem?_set_ne (by decide)]
      exact s1
    · rw [List.getElem?_set_ne (by decide)]
      exact s2
    · rw [List.getElem?_set_self (by omega)]
    · rw [List.map_append]
      exact e7 p _ upd_same
  · have hT : h ∈ T := by simpa using hb
    have hp4 := e4 p _ hpT
    -- ring = trail[trail.index(here):]
    refine q_asgP (P := fun v H' => ∃ r ms, v = .ref r ∧ H' r = some (.lst (List.map V.int ms)) ∧ ms ≠ [] ∧ (∀ m ∈ ms, m ∈ L) ∧ ms.length ≤ 9) (fun H5 e5 Q q => ?_) (fun v5 H5 e5 hv5 => ?_)
    · refine ⟨.ref p, s2, ep_index (ev_var s2) (sq_of hp4) (ev_var s3) hT H5 e5 _ fun v H6 e6 pj => ?_⟩
      obtain ⟨j, hj, rfl⟩ := pj
      refine ⟨(j : Int), rfl, p, T.map V.int, rfl, sq_of (e6 p _ (e5 p _ hp4)), fun r nr => q (.ref r) _ (e6.trans (Ex.new nr)) ⟨r, T.drop j, rfl, ?_, ?_, fun m hm => sT m (List.mem_of_mem_drop hm), by rw [List.length_drop]; omega⟩⟩
      · rw [upd_same]
        unfold cutV
        rw [HT.sIx_nat, HT.sIx_none, List.length_map, Nat.min_eq_left (by omega), ← List.map_drop, ← List.map_take, List.take_of_length_le (by rw [List.length_drop]; omega)]
      · intro z
        have := congrArg List.length z
        rw [List.length_drop, List.length_nil] at this
        omega
    obtain ⟨r, ms, rfl, hr5, nms, sms, lms⟩ := hv5
    have g5 : (σ2.set 5 (some (.ref r)))[5]? = some (some (.ref r)) := by rw [List.getElem?_set_self (by omega)]
    have gl : (σ2.set 5 (some (.ref r))).length = 7 := by simpa using s7
    generalize σ2.set 5 (some (V.ref r)) = σ5 at g5 gl ⊢
    refine q_asgP (P := fun v _ => ∃ j : Nat, j < ms.length ∧ v = .int (j : Int)) (fun H6 e6 Q q => ?_) (fun v6 H6 e6 hv6 => ?_)
    · refine ⟨.ref r, g5, Or.inl ⟨rfl, _, sq_of (e6 r _ hr5)⟩, ?_⟩
      refine ep_min (ns := ms) (ed_var g5 (dp_lstOf (sq_of hr5))) nms H6 e6 _ fun v H7 e7 pm => ?_
      obtain ⟨m, hm, _, rfl⟩ := pm
      obtain ⟨j, h1, h2⟩ := first_at hm
      refine ⟨r, ms.map V.int, .int m, j, .int m, rfl, rfl, sq_of (e7 r _ (e6 r _ hr5)), rfl, flat_intsV ms, by simpa using h1, by simp [eqV], fun m' z hm hz => ?_, q _ H7 e7 ⟨j, (List.getElem?_eq_some_iff.mp h1).1, rfl⟩⟩
      obtain ⟨y, hy, rfl⟩ : ∃ y, ms[m']? = some y ∧ V.int y = z := by simpa using hz
      have := h2 m' y hm hy
      simpa [eqV] using this
    obtain ⟨j, hj, rfl⟩ := hv6
    have k6 : (σ5.set 6 (some (.int (j : Int))))[6]? = some (some (.int (j : Int))) := by rw [List.getElem?_set_self (by omega)]
    have k5 : (σ5.set 6 (some (.int (j : Int))))[5]? = some (some (.ref r)) := by rw [List.getElem?_set_ne (by decide)]; exact g5
    have hr6 := e6 r _ hr5
    refine s_retR (P := fun v H' => ∃ rs : List Int, (∀ r ∈ rs, r ∈ L) ∧ rs.length ≤ 40 ∧ Dp K H' v (intsD rs)) (fun H7 e7 Q q => ?_) (fun v H7 e7 z => hQ v H7 ((((eH.trans e4).trans e5).trans e6).trans e7) z)
    refine es_cat (es_sl (ev_var k5) (eo_some (ev_var k6)) eo_none (sq_of hr6)) (es_sl (ev_var k5) eo_none (eo_some (ev_var k6)) (sq_of hr6)) (by omega) H7 e7 _ fun v H8 e8 z => ?_
    obtain ⟨c, rs, rfl, hc, z1, z2⟩ := z
    exact ⟨c, _, rfl, .inl ⟨sq_of hc, fun t nt => q _ _ (e8.trans (Ex.new nt)) ⟨rs, fun r hr => sms r (z1 r hr), by omega, dp_tupOf (st_of upd_same)⟩⟩⟩
end
end Kw
end
section
/-! KwM4: the order of the links (plain Lean). -/
namespace Kw
/-- links of n that are in L -/
def inL (ts : Ths) (L : List Int) (n : Int) : List Int := (there ts n).filter fun m => L.contains m
def cnt (ts : Ths) (L : List Int) (n : Int) : Int := ((inL ts L n).length : Int)
def readyL (ts : Ths) (L : List Int) : List Int := L.filter fun n => decide (cnt ts L n = 0)
theorem cnt_zero {ts : Ths} {L : List Int} {n : Int} : cnt ts L n = 0 ↔ ∀ l ∈ there ts n, l ∉ L := by
  unfold cnt inL
  constructor
  · intro h l hl hm
    have h0 : ((there ts n).filter fun m => L.contains m) = [] := List.length_eq_zero_iff.mp (by omega)
    have : l ∈ ((there ts n).filter fun m => L.contains m) := List.mem_filter.mpr ⟨hl, by simpa using hm⟩
    rw [h0] at this
    cases this
  · intro h
    have h0 : ((there ts n).filter fun m => L.contains m) = [] := List.filter_eq_nil_iff.mpr fun l hl => by
      simpa using h l hl
    rw [h0] <;> rfl
theorem mem_ready {ts : Ths} {L : List Int} {n : Int} : n ∈ readyL ts L ↔ n ∈ L ∧ ∀ l ∈ there ts n, l ∉ L := by
  unfold readyL
  rw [List.mem_filter, decide_eq_true_iff, cnt_zero]
theorem ready_same {ts : Ths} {L S : List Int} (h : ∀ x, x ∈ L ↔ x ∈ S) (n : Int) : n ∈ readyL ts L ↔ n ∈ readyL ts S := by
  rw [mem_ready, mem_ready, h]
  constructor
  · exact fun ⟨a, b⟩ => ⟨a, fun l hl hm => b l hl ((h l).2 hm)⟩
  · exact fun ⟨a, b⟩ => ⟨a, fun l hl hm => b l hl ((h l).1 hm)⟩
def dropE (L : List Int) (r : Int) : List Int := L.filter fun x => decide (x ≠ r)
theorem mem_dropE {L : List Int} {r x : Int} : x ∈ dropE L r ↔ x ∈ L ∧ x ≠ r := by
  unfold dropE
  rw [List.mem_filter, decide_eq_true_iff]
/-- one name less: one link less, where it leads there -/
theorem filt_drop {L : List Int} {r : Int} (hr : r ∈ L) : ∀ {xs : List Int}, xs.Nodup → (xs.filter fun m => L.contains m).length = (xs.filter fun m => (dropE L r).contains m).length + if r ∈ xs then 1 else 0
  | [], _ => rfl
  | x :: xs, h => by
    have h' := List.nodup_cons.mp h
    have ih := filt_drop (L := L) hr h'.2
    by_cases e : x = r
    · subst e
      have a1 : L.contains x = true := by simpa using hr
      have a2 : (dropE L x).contains x = false := by
        cases q : (dropE L x).contains x with
        | false => rfl
        | true =>
          have := mem_dropE.mp (by simpa using q)
          exact absurd rfl this.2
      rw [List.filter_cons, if_pos a1, List.filter_cons, if_neg (by rw [a2]; decide), List.length_cons, ih, if_neg h'.1, if_pos List.mem_cons_self]
    · have a : L.contains x = (dropE L r).contains x := by
        rw [Bool.eq_iff_iff]
        constructor
        · intro z
          have : x ∈ dropE L r := mem_dropE.mpr ⟨by simpa using z, e⟩
          simpa using this
        · intro z
          have := mem_dropE.mp (by simpa using z)
          simpa using this.1
      have b : (r ∈ x :: xs) ↔ r ∈ xs := by
        constructor
        · intro z
          rcases List.mem_cons.mp z with z | z
          · exact absurd z.symm e
          · exact z
        · exact List.mem_cons_of_mem _
      rw [List.filter_cons, List.filter_cons, a]
      have c : (if r ∈ x :: xs then 1 else 0) = if r ∈ xs then 1 else 0 := by simp only [b]
      cases (dropE L r).contains x with
      | true =>
        rw [if_pos rfl, if_pos rfl, List.length_cons, List.length_cons, ih, c]
        omega
      | false => rw [if_neg (by decide), if_neg (by decide), ih, c]
theorem cnt_drop {ts : Ths} {L : List Int} {r n : Int} (hr : r ∈ L) : cnt ts L n = cnt ts (dropE L r) n + if r ∈ there ts n then 1 else 0 := by
  unfold cnt inL
  rw [filt_drop hr (there_asc ts n).nodup]
  split <;> simp
theorem mem_there {ts : Ths} {n r : Int} {t : Th} (h : thOf ts n = some t) (hr : r ∈ names ts) : r ∈ there ts n ↔ r ∈ norm t.links := by
  unfold there
  rw [h]
  rw [List.mem_filter]
  exact ⟨fun z => z.1, fun z => ⟨z, has_iff.mpr hr⟩⟩
theorem take_notin {L : List Int} {i : Nat} {x : Int} (n : L.Nodup) (h : L[i]? = some x) : x ∉ L.take i := by
  intro z
  obtain ⟨j, hj, e⟩ := List.mem_iff_getElem.mp z
  rw [List.length_take] at hj
  rw [List.getElem_take] at e
  obtain ⟨hi, e2⟩ := List.getElem?_eq_some_iff.mp h
  exact List.pairwise_iff_getElem.mp n j i (by omega) hi (by omega) (e.trans e2.symm)
theorem dropE_len {L : List Int} {r : Int} (n : L.Nodup) (h : r ∈ L) : (dropE L r).length + 1 = L.length := by
  have h1 : dropE L r = L.erase r := by
    rw [List.Nodup.erase_eq_filter n]
    unfold dropE
    congr 1
    funext x
    by_cases e : x = r
    · simp [e]
    · simp [e, bne_iff_ne]
  rw [h1, List.length_erase_of_mem h]
  have := List.length_pos_of_mem h
  omega
/-! ### by turns -/
def ordS (ts : Ths) : Nat → List Int × List Int
  | 0 => ([], norm (names ts))
  | k + 1 => match readyL ts (ordS ts k).2 with
    | [] => ordS ts k
    | r :: _ => ((ordS ts k).1 ++ [r], dropE (ordS ts k).2 r)
def fin (ts : Ths) : List Int × List Int := ordS ts ts.length
theorem ordS_stop {ts : Ths} {k : Nat} (h : readyL ts (ordS ts k).2 = []) : ∀ j : Nat, ordS ts (k + j) = ordS ts k
  | 0 => rfl
  | j + 1 => by
    show (match readyL ts (ordS ts (k + j)).2 with
    | [] => ordS ts (k + j)
    | r :: _ => ((ordS ts (k + j)).1 ++ [r], dropE (ordS ts (k + j)).2 r)) = _
    rw [ordS_stop h j, h]
theorem ordS_fin {ts : Ths} {k : Nat} (h : readyL ts (ordS ts k).2 = []) (hk : k ≤ ts.length) : fin ts = ordS ts k := by
  unfold fin
  obtain ⟨j, e⟩ := Nat.exists_eq_add_of_le hk
  rw [e, ordS_stop h]
theorem ordS_step {ts : Ths} {k : Nat} {r : Int} {rs : List Int} (h : readyL ts (ordS ts k).2 = r :: rs) : ordS ts (k + 1) = ((ordS ts k).1 ++ [r], dropE (ordS ts k).2 r) := by
  show (match readyL ts (ordS ts k).2 with
    | [] => ordS ts k
    | r :: _ => ((ordS ts k).1 ++ [r], dropE (ordS ts k).2 r)) = _
  rw [h]
structure OrdOk (ts : Ths) (F S : List Int) : Prop where
  asc : Asc S
  mem : ∀ x, x ∈ names ts ↔ x ∈ F ∨ x ∈ S
  nd : F.Nodup
  dj : ∀ x ∈ F, x ∉ S
  pre : ∀ A n B, F = A ++ n :: B → ∀ l ∈ there ts n, l ∈ A
theorem ordOk (ts : Ths) : ∀ k, OrdOk ts (ordS ts k).1 (ordS ts k).2
  | 0 => ⟨asc_norm _, fun x => by simp [ordS, mem_norm], .nil, (fun x hx => by cases hx), fun A n B h => by simp [ordS] at h⟩
  | k + 1 => by
    have ih := ordOk ts k
    cases hr : readyL ts (ordS ts k).2 with
    | nil =>
      have e : ordS ts (k + 1) = ordS ts k := ordS_stop hr 1
      rw [e]
      exact ih
    | cons r rs =>
      rw [ordS_step hr]
      have hr' := mem_ready.mp (show r ∈ readyL ts (ordS ts k).2 by rw [hr]; exact List.mem_cons_self)
      have hrF : r ∉ (ordS ts k).1 := fun z => ih.dj r z hr'.1
      refine ⟨List.Pairwise.filter _ ih.asc, fun x => ?_, ?_, fun x hx z => ?_, fun A n B h l hl => ?_⟩
      · rw [ih.mem, List.mem_append, mem_dropE]
        by_cases e : x = r
        · subst e
          exact ⟨fun _ => .inl (.inr List.mem_cons_self), fun _ => .inr hr'.1⟩
        · simp [e]
      · exact List.nodup_append.mpr ⟨ih.nd, by simp, fun x hx y hy e => hrF (by
          have : y = r := by simpa using hy
          rw [← this, ← e]
          exact hx)⟩
      · have z' := mem_dropE.mp z
        rcases List.mem_append.mp hx with q | q
        · exact ih.dj x q z'.1
        · exact z'.2 (by simpa using q)
      · rcases List.append_eq_append_iff.mp h with ⟨C, h1, h2⟩ | ⟨C, h1, h2⟩
        · -- A = F ++ C, [r] = C ++ n :: B
          cases C with
          | nil =>
            have e : r = n ∧ B = [] := by simpa using h2
            rw [h1, List.append_nil]
            have hl' : l ∈ there ts r := by rw [e.1]; exact hl
            rcases (ih.mem l).1 (there_names hl) with q | q
            · exact q
            · exact absurd q (hr'.2 l hl')
          | cons c C =>
            have := congrArg List.length h2
            simp at this
        · cases C with
          | nil =>
            have e : n = r ∧ B = [] := by simpa using h2
            have h1 : (ordS ts k).1 = A := by simpa using h1
            have hl' : l ∈ there ts r := by rw [← e.1]; exact hl
            rcases (ih.mem l).1 (there_names hl) with q | q
            · rw [← h1]
              exact q
            · exact absurd q (hr'.2 l hl')
          | cons c C =>
            have e : n = c ∧ B = C ++ [r] := by simpa using h2
            rw [← e.1] at h1
            exact ih.pre A n C h1 l hl
theorem finOk (ts : Ths) : OrdOk ts (fin ts).1 (fin ts).2 := ordOk ts _
/-- the least of the ready is the first of the ascending -/
theorem ready_min {ts : Ths} {L S : List Int} {m : Int} (h : ∀ x, x ∈ L ↔ x ∈ S) (hS : Asc S) (hm : m ∈ readyL ts L) (hl : ∀ y ∈ readyL ts L, m ≤ y) : ∃ rs, readyL ts S = m :: rs := by
  have a : Asc (readyL ts S) := List.Pairwise.filter _ hS
  have hm' := (ready_same h m).1 hm
  cases q : readyL ts S with
  | nil => rw [q] at hm'; cases hm'
  | cons r rs =>
    rw [q] at hm' a
    have hr : r ∈ readyL ts L := (ready_same h r).2 (by rw [q]; exact List.mem_cons_self)
    have h1 := hl r hr
    rcases List.mem_cons.mp hm' with z | z
    · exact ⟨rs, by rw [z]⟩
    · have := (List.pairwise_cons.mp a).1 m z
      omega
theorem ready_nil {ts : Ths} {L S : List Int} (h : ∀ x, x ∈ L ↔ x ∈ S) (e : readyL ts L = []) : readyL ts S = [] := by
  cases q : readyL ts S with
  | nil => rfl
  | cons r rs =>
    have : r ∈ readyL ts L := (ready_same h r).2 (by rw [q]; exact List.mem_cons_self)
    rw [e] at this
    cases this
end Kw
end
section
/-! KwE10: dicts of whole numbers by whole numbers. -/
namespace Kw
open PySem PySem.Spec PyProof.Rows L2 Evl
def dI (L : List Int) (f : Int → Int) : List (Key × V) := L.map fun n => (Sum.inl n, V.int (f n))
theorem dI_keys (L : List Int) (f : Int → Int) : (dI L f).map (·.1) = L.map Sum.inl := by
  unfold dI
  rw [List.map_map] <;> rfl
theorem dI_len (L : List Int) (f : Int → Int) : (dI L f).length = L.length := by
  unfold dI
  rw [List.length_map]
theorem dI_val {f : Int → Int} {n : Int} : ∀ {L : List Int}, n ∈ L → valV (dI L f) (Sum.inl n) = some (.int (f n))
  | x :: L, h => by
    by_cases e : x = n
    · show valV ((Sum.inl x, V.int (f x)) :: dI L f) (Sum.inl n) = _
      rw [valV_pos (p := (Sum.inl x, V.int (f x))) (by rw [e]), e]
    · show valV ((Sum.inl x, V.int (f x)) :: dI L f) (Sum.inl n) = _
      rw [valV_neg (p := (Sum.inl x, V.int (f x))) (fun z => e (Sum.inl.inj z))]
      refine dI_val ?_
      rcases List.mem_cons.mp h with z | z
      · exact absurd z.symm e
      · exact z
theorem dI_drop (f : Int → Int) (r : Int) : ∀ L : List Int, dropK (dI L f) (Sum.inl r) = dI (dropE L r) f
  | [] => rfl
  | x :: L => by
    have ih := dI_drop f r L
    unfold dropK dI dropE at ih ⊢
    rw [List.map_cons, List.filter_cons, List.filter_cons]
    by_cases e : x = r
    · subst e
      rw [if_neg (by simp), if_neg (by simp)]
      exact ih
    · rw [if_pos (by simpa using fun z => e z), if_pos (by simpa using e), List.map_cons, ih]
theorem dI_congr {L : List Int} {f g : Int → Int} (h : ∀ n ∈ L, f n = g n) : dI L f = dI L g := List.map_congr_left fun n hn => by rw [h n hn]
theorem dI_put {L : List Int} {f : Int → Int} {n v : Int} (h : n ∈ L) : putK (dI L f) (Sum.inl n) (.int v) = dI L fun m => if m = n then v else f m := by
  have hk : (Sum.inl n : Key) ∈ (dI L f).map (·.1) := by
    rw [dI_keys]
    exact List.mem_map.mpr ⟨n, h, rfl⟩
  unfold putK
  have h' : ((dI L f).any fun kv => decide (kv.1 = Sum.inl n)) = true := by
    obtain ⟨p, hp, e⟩ := List.mem_map.mp hk
    exact List.any_eq_true.mpr ⟨p, hp, by simpa using e⟩
  rw [if_pos h']
  unfold dI
  rw [List.map_map]
  refine List.map_congr_left fun m _ => ?_
  show (if (Sum.inl m : Key) = Sum.inl n then ((Sum.inl m : Key), V.int v) else (Sum.inl m, V.int (f m))) = (Sum.inl m, V.int (if m = n then v else f m))
  by_cases e : m = n
  · rw [if_pos (by rw [e]), if_pos e]
  · rw [if_neg (fun z => e (Sum.inl.inj z)), if_neg e]
theorem dI_new {L : List Int} {f : Int → Int} {n v : Int} (h : n ∉ L) : putK (dI L f) (Sum.inl n) (.int v) = dI (L ++ [n]) fun m => if m = n then v else f m := by
  rw [put_new (by rw [dI_keys]; intro z; obtain ⟨y, hy, e⟩ := List.mem_map.mp z; exact h (by rw [← Sum.inl.inj e]; exact hy))]
  unfold dI
  rw [List.map_append]
  congr 1
  · refine List.map_congr_left fun m hm => ?_
    show (Sum.inl m, V.int (f m)) = (Sum.inl m, V.int (if m = n then v else f m))
    rw [if_neg (fun z : m = n => h (by rw [← z]; exact hm))]
  · show [(Sum.inl n, V.int v)] = [(Sum.inl n, V.int (if n = n then v else f n))]
    rw [if_pos rfl]
theorem dI_fold {f : Int → Int} : ∀ (L acc : List Int), (acc ++ L).Nodup → L.foldl (fun kvs a => putK kvs (Sum.inl a) (.int (f a))) (dI acc f) = dI (acc ++ L) f
  | [], acc, _ => by rw [List.append_nil] <;> rfl
  | n :: L, acc, h => by
    have hn : n ∉ acc := fun z => (List.nodup_append.mp h).2.2 n z n List.mem_cons_self rfl
    rw [List.foldl_cons, dI_new hn]
    have e : dI (acc ++ [n]) (fun m => if m = n then f n else f m) = dI (acc ++ [n]) f := dI_congr fun m _ => by
      by_cases e : m = n
      · rw [if_pos e, e]
      · rw [if_neg e]
    rw [e, dI_fold L (acc ++ [n]) (by rw [List.append_assoc]; exact h), List.append_assoc] <;> rfl
section
variable {K : PySem.W.Frag} {σ : L2.St} {H H' H1 H2 : Hp} {ta tb te td ty tl : TE} {v : V} {D : Ends} {tz : TS} {P : PV}
theorem q_lockAsg {t : TE} {n : Nat} (h : EvP (tLockE t) σ H P) (k : ∀ v H1, Ex H H1 → P v H1 → tz D (σ.set n (some v)) H1) : tSeq (tLock (tAsg t (gName n))) tz D σ H := h H (Ex.refl H) (fun v H' => tz D (σ.set n (some v)) H') k
/-- d[n], whole numbers -/
theorem ev_dI {d : Addr} {L : List Int} {f : Int → Int} {n : Int} (hd : Ev td σ H (.ref d)) (hn : Ev ty σ H (.int n)) (h : Rd H d (.dK (dI L f))) (hm : n ∈ L) : Ev (tDGet td ty) σ H (.int (f n)) := fun H1 e Q q =>
  hd H1 e _ fun H2 e2 => hn H2 (e.trans e2) _ fun H3 e3 => ⟨d, .int (f n), rfl, by
    have := dget_of (k := Sum.inl n) (ex_rd ((e.trans e2).trans e3) h)
    rw [dI_val hm] at this
    exact this, q H3 (e2.trans e3)⟩
/-- del d[n] -/
theorem q_ddel {d : Addr} {L : List Int} {f : Int → Int} {n : Int} (hd : Ev td σ H (.ref d)) (hn : Ev ty σ H (.int n)) (h : H d = some (.dK (dI L f))) (hm : n ∈ L) (k : ∀ H1, Ex H H1 → tz D σ (upd H1 d (.dK (dI (dropE L n) f)))) : tSeq (sDDel td ty) tz D σ H :=
  hd H (Ex.refl H) _ fun H1 e1 => hn H1 e1 _ fun H2 e2 => ⟨d, dI L f, Sum.inl n, rfl, e2 d _ (e1 d _ h), rfl, by rw [dI_val hm] <;> rfl, by
    have := k H2 (e1.trans e2)
    rw [← dI_drop] at this
    exact this⟩
/-- d[n] -= e -/
theorem s_daugSub {d : Addr} {L : List Int} {f : Int → Int} {n b : Int} (hd : Ev td σ H (.ref d)) (hn : Ev ty σ H (.int n)) (hb : Ev te σ H (.int b)) (h : H d = some (.dK (dI L f))) (hm : n ∈ L) (hl : L.length < 100000)
    (k : ∀ H1, Ex H H1 → D.nx σ (upd H1 d (.dK (dI L fun m => if m = n then f n - b else f m)))) : sDAug td ty te rSub D σ H :=
  hd H (Ex.refl H) _ fun H1 e1 => hn H1 e1 _ fun H2 e2 => ⟨d, .int (f n), rfl, by
    have := dget_of (k := Sum.inl n) (H := H2) (d := d) (.inl (e2 d _ (e1 d _ h)))
    rw [dI_val hm] at this
    exact this, hb H2 (e1.trans e2) _ fun H3 e3 => ⟨f n, b, rfl, rfl, _, DPut.k (k := Sum.inl n) (e3 d _ (e2 d _ (e1 d _ h))) (sz_lt (by rw [dI_len]; exact hl)), by
      rw [dI_put hm]
      exact k H3 ((e1.trans e2).trans e3)⟩⟩
end
end Kw
end
section
/-! KwD9: link_order. -/
namespace Kw
open PySem PySem.Spec PyProof.Rows L2 Evl
def OrderV (K : PySem.W.Frag) (ts : Ths) : PV := fun v H' => ((fin ts).2 = [] ∧ Dp K H' v (.tuple [.str "order", intsD (fin ts).1])) ∨ ((fin ts).2 ≠ [] ∧ ∃ rs : List Int, (∀ r ∈ rs, r ∈ (fin ts).2) ∧ rs.length ≤ 40 ∧ Dp K H' v (.tuple [.str "ring", intsD rs]))
def spOrder (K : PySem.W.Frag) : Sp := fun vs H Q _ => ∃ (d : Addr) (ts : Ths), vs = [.ref d] ∧ ThO K H d ts ∧ TsOk ts ∧ RetP H (OrderV K ts) Q
theorem s_break {D : Ends} {σ : L2.St} {H : Hp} (h : D.bk σ H) : tBreak D σ H := h
/-- the state at a turn: L is left (the dict q), F is found (the list p) -/
structure LoI (K : PySem.W.Frag) (H : Hp) (d q p : Addr) (L F : List Int) (σ : L2.St) (H' : Hp) : Prop where
  len : σ.length = 6
  s0 : σ[0]? = some (some (.ref d))
  s1 : σ[1]? = some (some (.ref q))
  s3 : σ[3]? = some (some (.ref p))
  ex : Ex H H'
  hp : H' p = some (.lst (F.map V.int))
structure LoS (ts : Ths) (k : Nat) (L F : List Int) : Prop where
  nd : L.Nodup
  mem : ∀ x, x ∈ L ↔ x ∈ (ordS ts k).2
  eF : F = (ordS ts k).1
  len : k + L.length = ts.length
theorem LoS.nm {ts : Ths} {k : Nat} {L F : List Int} (s : LoS ts k L F) {x : Int} (h : x ∈ L) : x ∈ names ts := ((ordOk ts k).mem x).2 (.inr ((s.mem x).1 h))
theorem LoS.zero {ts : Ths} (ok : TsOk ts) : LoS ts 0 (names ts) [] := ⟨ok.nd, fun x => (mem_norm (xs := names ts)).symm, rfl, by simp [names]⟩
theorem LoS.next {ts : Ths} {k : Nat} {L F : List Int} (s : LoS ts k L F) {m : Int} (hm : m ∈ readyL ts L) (hl : ∀ y ∈ readyL ts L, m ≤ y) : LoS ts (k + 1) (dropE L m) (F ++ [m]) := by
  obtain ⟨rs, hr⟩ := ready_min s.mem (ordOk ts k).asc hm hl
  have h1 := (mem_ready.mp hm).1
  have e := ordS_step hr
  refine ⟨List.Pairwise.filter _ s.nd, fun x => ?_, by rw [e, s.eF], ?_⟩
  · rw [e, mem_dropE, mem_dropE, s.mem]
  · have := dropE_len s.nd h1
    have := s.len
    omega
section
variable {P : Program} {w : World} {K : PySem.W.Frag} {mg : Str → Option Value} {base : Heap} {aN : Addr}
theorem sc_link_order : FnScope ["things", "left", "name", "found", "ready", "one"] ["things"] (defScope (top 34)) := ⟨rfl, rfl, rfl, by decide +kernel, rfl, by decide +kernel, by decide +kernel⟩
theorem cal_link_order (T : Tx K mg) (c_links_there : Cal P w K mg base "links_there" 9 ["things", "name"] (spThere K)) (c_links_to : Cal P w K mg base "links_to" 8 ["thing"] (spLinksTo K)) (c_ring_in : Cal P w K mg base "ring_in" 10 ["things", "names"] (spRing K)) : Cal P w K mg base "link_order" 11 ["things"] (spOrder K) := by
  obtain ⟨f, fd, F, hm⟩ := T.fn 19 "link_order" (top 34) rfl
  obtain ⟨tR, hOrder⟩ := T.gOrder
  obtain ⟨tR, hRing⟩ := T.gRing
  refine cal_of F hm (fun _ _ _ _ _ _ us hl => match us, hl with | [_], _ => rfl) (F.ok sc_link_order (fun vs H Q E h => by obtain ⟨_, _,  rfl, _⟩ := h <;> rfl) (fun cdv A outer s H vs Q E hr h => ⟨_, PSs.nox (pss_cons (ps_set (i := 1) sc_link_order.nd rfl (.inr rfl) (pe_lock (pe_dc (own := [("name", 2)]) (g := (gName 2)) (tt := tYes) (tk := (tVar 2)) (tv := (tCB (rLenS K) (tCons (tCall (spThere K) [] E0 (tCons (tVar 0) (tCons (tVar 2) tNil))) tNil))) rfl sc_link_order.nd (pi_keys (pv 0)) (blkOk_by (N := ["things", "left", "name", "found", "ready", "one"]) (sc := defScope (top 34)) (by decide +kernel)) (fun _ _ _ _ _ => (pg_name (i := 2) sc_link_order.nd rfl (.inl rfl))) (fun _ _ _ _ _ => pts_nil) (fun _ _ _ _ _ => (pv 2)) (fun _ _ _ _ _ => (pe_callB call_len_seq rfl (T.fr "len" (by decide)) boot_len (pa_cons (pe_cal c_links_there (hr.mono (by decide)) rfl (pa_cons (pv 0) (pa_cons (pv 2) pa_nil))) pa_nil))))))
      (pss_cons (ps_set (i := 3) sc_link_order.nd rfl (.inl rfl) (pe_lst pa_nil))
      (pss_cons (ps_while PassesOwn.never (pt_val pe_bl) (pss_cons (ps_lock (ps_setLc (i := 4) (own := [("name", 2)]) (g := (gName 2)) (tt := (tTest (tOp _ (tDGet (tVar 1) (tVar 2)) (tC (.int 0))))) (te := (tVar 2)) rfl sc_link_order.nd rfl rfl (by rfl) (pi_keys (pv 1)) (blkOk_by (N := ["things", "left", "name", "found", "ready", "one"]) (sc := defScope (top 34)) (by decide +kernel)) (fun _ _ _ _ _ => (pg_name (i := 2) sc_link_order.nd rfl (.inl rfl))) (fun _ _ _ _ _ => (pts_one (pt_cmpR op_eq (pe_dget (hu_of hr) (pv 1) (pv 2) (fun _ _ => rfl)) pe_int (nomark _)))) (fun _ _ _ _ _ => (pv 2))))
      (pss_cons (ps_if (pt_cmpR op_eq (pe_callB call_len_seq rfl (T.fr "len" (by decide)) boot_len (pa_cons (pv 4) pa_nil)) pe_int (nomark _)) (pss_one ps_break) pss_nil)
      (pss_cons (ps_set (i := 2) sc_link_order.nd rfl (.inl rfl) (pe_callB (cr_min rfl) rfl (T.fr "min" (by decide)) boot_min (pa_cons (pv 4) pa_nil)))
      (pss_cons (ps_expr (pe_bm PySem.F.plainAttrs_list PySem.F.slot_list_append PySem.F.type_list_append mt_append (pv 3) (pa_cons (pv 2) pa_nil)))
      (pss_cons (ps_ddel (pv 1) (pv 2))
      (pss_one (ps_for PassesOwn.never rfl (pi_list (pe_callTy (call_listD rfl) rfl (T.fr "list" (by decide)) boot_list (pa_cons (pv 1) pa_nil))) (pg_name (i := 5) sc_link_order.nd rfl (.inl rfl)) (pss_one (ps_daug (hu_of hr) (pv 1) (pv 5) (pe_callTy call_int1 rfl (T.fr "int" (by decide)) boot_int (pa_cons (pe_cmpR op_in_seq (pv 2) (pe_cal c_links_to (hr.mono (by decide)) rfl (pa_cons (pe_dget (hu_of hr) (pv 0) (pv 5) (fun _ _ => rfl)) pa_nil)) (by rfl)) pa_nil)) in_sub (by intros; rfl)))))))))))
      (pss_one (ps_ret (pe_ifExp (pt_cmpR op_eq (pe_callB call_lenD rfl (T.fr "len" (by decide)) boot_len (pa_cons (pv 1) pa_nil)) pe_int (nomark _)) (pe_tup (pa_cons (pe_glob (v := .str "order") rfl hOrder ⟨_, rfl⟩) (pa_cons (pe_callTy call_tuple_of rfl (T.fr "tuple" (by decide)) boot_tuple (pa_cons (pv 3) pa_nil)) pa_nil))) (pe_tup (pa_cons (pe_glob (v := .str "ring") rfl hRing ⟨_, rfl⟩) (pa_cons (pe_cal c_ring_in (hr.mono (by decide)) rfl (pa_cons (pv 0) (pa_cons (pv 1) pa_nil))) pa_nil))))))))), ?_⟩))
  obtain ⟨d, ts, rfl, hd, ok, hQ⟩ := h
  have l9 := ok.len
  -- left
  refine q_asgP (P := DictN H (dI (names ts) (cnt ts (names ts)))) ?_ (fun v1 H1 e1 hv1 => ?_)
  · obtain ⟨us, hus, hda⟩ := id hd
    refine ek_lock hus True.intro (fun H1 e1 od => ?_)
    have hR : ThR K (upd H1 d (.frz od (.dK (kvsOf ts us)))) d ts := ⟨us, .inr ⟨od, upd_same⟩, dpA_tk (TupK.upd (nrd_dK (e1 d _ hus))) _ _ (imm_ths ts) (dpA_ex e1 _ _ hda)⟩
    have hdc := ek_dc (K := K) (H := upd H1 d (.frz od (.dK (kvsOf ts us)))) (σ := start ["things", "left", "name", "found", "ready", "one"] [.ref d]) (g := gName 2) (tt := tYes) (wi := iKeys (tVar 0)) (tk := tVar 2) (tv := tCB (rLenS K) (tCons (tCall (spThere K) [] E0 (tCons (tVar 0) (tCons (tVar 2) tNil))) tNil)) (vs := [2])
      (names ts) PyData.int (fun _ => true) Sum.inl (fun n => .int (cnt ts (names ts) n)) (ei_keys (ev_var rfl) (kvs_keys (by rw [dpA_len hda, List.length_map])) upd_same) (by simp [names]; omega) (fun n hn x H2 e2 hx => by
        rw [dp_int hx]
        exact fun H3 e3 Q q => gp_name H3 e3 Q fun σ' hs => q σ' (by
          subst hs
          refine ⟨rfl, fun H4 e4 Q q => q H4 (Ex.refl H4), fun _ => ⟨ev_var rfl, ?_⟩⟩
          obtain ⟨t, ht⟩ := thOf_some hn
          have hc : EvP (tCall (spThere K) [] E0 (tCons (tVar 0) (tCons (tVar 2) tNil))) ((wipe (start ["things", "left", "name", "found", "ready", "one"] [.ref d]) [2]).set 2 (some (.int n))) H2 (fun v H' => Dp K H' v (.list ((there ts n).map .int))) :=
            ep_call (P := fun vs H' => vs = [.ref d, .int n]) (ea_epa (ea_two (ev_var rfl) (ev_var rfl)) fun _ _ => rfl) (fun vs H1 e p Q q => ⟨d, n, ts, t, by rw [p] <;> rfl, (hR.ex e2).ex e, ok, ht, fun v H2 e2 hv => q v H2 e2 hv.dp⟩)
          refine ev_is (ev_lenL hc) ?_
          rw [List.length_map]
          unfold cnt inL
          rw [List.filter_eq_self.mpr fun l hl => by simpa using there_names hl]))
    rw [filt_all] at hdc
    have hf := dI_fold (f := cnt ts (names ts)) (names ts) [] (by simpa using ok.nd)
    have e0 : dI [] (cnt ts (names ts)) = [] := rfl
    rw [e0, List.nil_append] at hf
    rw [hf] at hdc
    exact hdc
  obtain ⟨q, rfl, nq, hq1⟩ := hv1
  refine q_asgP (P := NewD K H1 []) (en_lst (K := K) eds_nil (by simp)) (fun v2 H2 e2 hv2 => ?_)
  obtain ⟨p, rfl, np, hp2⟩ := NewD.ints (ns := []) hv2
  have npq : p ≠ q := Ne.symm (ne_of_none hq1 np)
  have ndq : d ≠ q := by
    obtain ⟨us, h1, _⟩ := hd
    exact ne_of_none h1 nq
  have npH : H p = none := fresh_back e1 np
  refine q_while (fun m σ2 H3 => ∃ (k : Nat) (L F : List Int), LoI K H d q p L F σ2 H3 ∧ H3 q = some (.dK (dI L (cnt ts L))) ∧ LoS ts k L F ∧ m = L.length) _ ⟨0, names ts, [], ⟨rfl, rfl, rfl, rfl, e1.trans e2, hp2⟩, e2 q _ hq1, LoS.zero ok, rfl⟩ (fun m σ2 H3 hw => ?_)
  obtain ⟨k, L, F, I, hq3, S, rfl⟩ := hw
  have lS := S.len
  refine ⟨true, et_B ev_c, fun _ H4 e4 => ?_, fun z => by cases z⟩
  refine ⟨_, fun σ2 H3 z => z, ?_⟩
  have hq4 := e4 q _ hq3
  have hp4 := e4 p _ I.hp
  -- ready
  refine q_lockAsg (P := NewD K H4 ((readyL ts L).map .int)) (en_lock hq4 True.intro (fun _ _ => by intro z; cases z) (immA_ints _) (fun H5 e5 od => ?_)) (fun v5 H5 e5 hv5 => ?_)
  · have hR : (upd H5 q (.frz od (.dK (dI L (cnt ts L))))) q = some (.frz od (.dK (dI L (cnt ts L)))) := upd_same
    exact en_lc (K := K) L PyData.int (fun n => decide (cnt ts L n = 0)) PyData.int (ei_keys (ev_var I.s1) (dI_keys L _) hR) (by omega) (fun _ _ => rfl) (fun n hn x H6 e6 hx => by
      rw [dp_int hx]
      exact fun H7 e7 Q q' => gp_name H7 e7 Q fun σ' hs => q' σ' (by
        subst hs
        have g2 : ((wipe σ2 [2]).set 2 (some (V.int n)))[2]? = some (some (.int n)) := by rw [List.getElem?_set_self (by simp [wipe, I.len])]
        have g1 : ((wipe σ2 [2]).set 2 (some (V.int n)))[1]? = some (some (.ref q)) := by
          rw [List.getElem?_set_ne (by decide)]
          simp only [wipe]
          rw [List.getElem?_set_ne (by decide)]
          exact I.s1
        exact ⟨by simp [wipe], et_is (et_test (ev_op (ev_dI (ev_var g1) (ev_var g2) (.inr ⟨od, e6 q _ hR⟩) hn) ev_c (rv_eq rfl))) (by simp), fun _ => ed_var g2 (.int n)⟩))
  obtain ⟨r, rfl, nr, hr5⟩ := hv5.ints
  have nrq : r ≠ q := Ne.symm (ne_of_none hq4 nr)
  have nrp : r ≠ p := Ne.symm (ne_of_none hp4 nr)
  have t4 : (σ2.set 4 (some (.ref r)))[4]? = some (some (.ref r)) := by rw [List.getElem?_set_self (by rw [I.len]; decide)]
  have tk : ∀ k, k ≠ 4 → (σ2.set 4 (some (.ref r)))[k]? = σ2[k]? := fun k hk => by rw [List.getElem?_set_ne (Ne.symm hk)]
  have tl : (σ2.set 4 (some (.ref r))).length = 6 := by simpa using I.len
  have t0 := (tk 0 (by decide)).trans I.s0
  have t1 := (tk 1 (by decide)).trans I.s1
  have t3 := (tk 3 (by decide)).trans I.s3
  generalize σ2.set 4 (some (V.ref r)) = σ4 at t4 t0 t1 t3 tl ⊢
  have eH5 := (I.ex.trans e4).trans e5
  refine q_when (b := decide (readyL ts L = [])) (et_is (et_test (ev_op (ev_lenL (ds := (readyL ts L).map .int) (ed_var t4 (dp_lstOf (sq_of hr5)))) ev_c (rv_eq rfl))) ?_) (fun hb H6 e6 => ?_) (fun hb H6 e6 => ?_)
  · rw [List.length_map]
    cases readyL ts L with
    | nil => rfl
    | cons x xs =>
      rw [decide_eq_false, decide_eq_false]
      · intro z; cases z
      · intro z
        have := V.int.inj z
        simp at this
        omega
  · -- the end
    have hrd : readyL ts L = [] := of_decide_eq_true hb
    have hfin : fin ts = ordS ts k := ordS_fin (ready_nil S.mem hrd) (by omega)
    have hq6 := e6 q _ (e5 q _ hq4)
    have hp6 := e6 p _ (e5 p _ hp4)
    have eH6 := eH5.trans e6
    have hlen : (decide ((L.length : Int) = 0)) = decide (L = []) := by
      cases L with
      | nil => rfl
      | cons x xs =>
        rw [decide_eq_false, decide_eq_false]
        · intro z; cases z
        · intro z
          simp at z
          omega
    refine s_break ?_
    dsimp only
    refine s_retR (P := OrderV K ts) (ep_if (b := decide (L = [])) (et_test (fun H7 e7 Q q' => ⟨.ref q, t1, ⟨q, dI L (cnt ts L), rfl, e7 q _ hq6, ?_⟩⟩)) (fun hb => ?_) (fun hb => ?_)) (fun v H7 e7 z => hQ v H7 (eH6.trans e7) z)
    · refine ⟨rfl, ?_⟩
      rw [dI_len]
      have : decide (V.int (L.length : Int) = V.int 0) = decide (L = []) := by
        rw [← hlen]
        simp
      rw [this]
      exact q' H7 (Ex.refl _)
    · have hL : L = [] := of_decide_eq_true hb
      have hS : (fin ts).2 = [] := by
        rw [hfin]
        cases q : (ordS ts k).2 with
        | nil => rfl
        | cons x xs =>
          have := (S.mem x).2 (by rw [q]; exact List.mem_cons_self)
          rw [hL] at this
          cases this
      refine EvP.imp (ed_tup (eds_cons (ed_c (.str _)) (eds_cons (ed_tupL (ds := F.map .int) (ed_var t3 (dp_lstOf (sq_of hp6)))) eds_nil)) (by simp)) fun v H7 _ z => .inl ⟨hS, ?_⟩
      rw [hfin, ← S.eF]
      exact z
    · have hL : L ≠ [] := of_decide_eq_false hb
      have hS : (fin ts).2 ≠ [] := by
        rw [hfin]
        intro z
        cases L with
        | nil => exact hL rfl
        | cons x xs =>
          have := (S.mem x).1 List.mem_cons_self
          rw [z] at this
          cases this
      have hcall : EvP (tCall (spRing K) [] E0 (tCons (tVar 0) (tCons (tVar 1) tNil))) σ4 H6 (fun v H' => ∃ rs : List Int, (∀ r ∈ rs, r ∈ L) ∧ rs.length ≤ 40 ∧ Dp K H' v (intsD rs)) :=
        ep_call (P := fun vs H' => vs = [.ref d, .ref q] ∧ Ex H6 H') (ea_epa (ea_two (ev_var t0) (ev_var t1)) fun H1 e => ⟨rfl, e⟩) (fun vs H7 e7 z Q q' => ⟨d, q, ts, dI L (cnt ts L), L, by rw [z.1] <;> rfl, hd.r.ex (eH6.trans e7), ok, e7 q _ hq6, dI_keys L _, S.nd, hL, fun n hn => S.nm hn, (fun n hn => by
          refine Classical.byContradiction fun hno => ?_
          have : n ∈ readyL ts L := mem_ready.mpr ⟨hn, fun l hl hm => hno ⟨l, hl, hm⟩⟩
          rw [hrd] at this
          cases this), fun v H8 e8 z => q' v H8 e8 z⟩)
      refine fun H7 e7 Q q' => ?_
      refine hcall H7 e7 _ fun v H8 e8 z => ?_
      obtain ⟨rs, z1, z2, z3⟩ := z
      exact ⟨by show 2 ≤ sizeLine; decide, fun a na => q' _ _ (e8.trans (Ex.new na)) (.inr ⟨hS, rs, fun r hr => by rw [hfin]; exact (S.mem r).1 (z1 r hr), z2, .tup (st_of upd_same) (.cons (.str _) (.cons (dp_ex (Ex.new na) _ _ z3) .nil))⟩)⟩
  · have hrd : readyL ts L ≠ [] := of_decide_eq_false hb
    refine q_asgP (P := MinOf (readyL ts L)) (ep_min (ns := readyL ts L) (ed_var t4 (dp_lstOf (sq_of (e6 r _ hr5)))) hrd) (fun v7 H7 e7 hv7 => ?_)
    obtain ⟨mn, hmn, hle, rfl⟩ := hv7
    have S2 := S.next hmn hle
    have hmL : mn ∈ L := (mem_ready.mp hmn).1
    have u2 : (σ4.set 2 (some (.int mn)))[2]? = some (some (.int mn)) := by rw [List.getElem?_set_self (by omega)]
    have uk : ∀ k, k ≠ 2 → (σ4.set 2 (some (.int mn)))[k]? = σ4[k]? := fun k hk => by rw [List.getElem?_set_ne (Ne.symm hk)]
    have ul : (σ4.set 2 (some (.int mn))).length = 6 := by simpa using tl
    have u0 := (uk 0 (by decide)).trans t0
    have u1 := (uk 1 (by decide)).trans t1
    have u3 := (uk 3 (by decide)).trans t3
    generalize σ4.set 2 (some (V.int mn)) = σ7 at u2 ul u0 u1 u3 ⊢
    have hp7 := e7 p _ (e6 p _ (e5 p _ hp4))
    have hq7 := e7 q _ (e6 q _ (e5 q _ hq4))
    have eH7 := (eH5.trans e6).trans e7
    have lF : F.length ≤ 9 := by
      have h1 := nodup_len (ordOk ts k).nd (ys := names ts) fun x hx => ((ordOk ts k).mem x).2 (.inl hx)
      rw [S.eF]
      simp only [names, List.length_map] at h1
      omega
    refine q_app hp7 (ev_var u3) (ev_var u2) (by rw [List.length_map]; omega) fun H8 e8 => ?_
    have eH8 : Ex H (upd H8 p (.lst (F.map V.int ++ [.int mn]))) := (eH7.trans e8).mut npH
    have hq8 : (upd H8 p (.lst (F.map V.int ++ [.int mn]))) q = some (.dK (dI L (cnt ts L))) := by rw [upd_ne (Ne.symm npq)]; exact e8 q _ hq7
    have hp8 : (upd H8 p (.lst (F.map V.int ++ [.int mn]))) p = some (.lst ((F ++ [mn]).map V.int)) := by rw [upd_same, List.map_append] <;> rfl
    generalize upd H8 p (.lst (F.map V.int ++ [.int mn])) = H9 at eH8 hq8 hp8 ⊢
    refine q_ddel (ev_var u1) (ev_var u2) hq8 hmL fun H10 e10 => ?_
    have eH10 : Ex H (upd H10 q (.dK (dI (dropE L mn) (cnt ts L)))) := (eH8.trans e10).mut nq
    have hq10 : (upd H10 q (.dK (dI (dropE L mn) (cnt ts L)))) q = some (.dK (dI (dropE L mn) (cnt ts L))) := upd_same
    have hp10 : (upd H10 q (.dK (dI (dropE L mn) (cnt ts L)))) p = some (.lst ((F ++ [mn]).map V.int)) := by rw [upd_ne npq]; exact e10 p _ hp8
    generalize upd H10 q (.dK (dI (dropE L mn) (cnt ts L))) = H11 at eH10 hq10 hp10 ⊢
    have hL2 : ∀ n ∈ dropE L mn, n ∈ L := fun n hn => (mem_dropE.mp hn).1
    refine s_forL (P := NewD K H11 ((dropE L mn).map .int)) (en_listD (P := fun v H' => v = .ref q ∧ H' q = some (.dK (dI (dropE L mn) (cnt ts L)))) (ep_ev (ev_var u1) fun H' e => ⟨rfl, e q _ hq10⟩) (fun v H' e z => ⟨q, _, z.1, .inl z.2, dI_keys _ _⟩)) (fun v12 H12 e12 hv12 => ?_)
    obtain ⟨l, rfl, nl, hl12⟩ := hv12.ints
    have nlq : l ≠ q := Ne.symm (ne_of_none hq10 nl)
    have nlp : l ≠ p := Ne.symm (ne_of_none hp10 nl)
    refine ⟨l, (dropE L mn).map V.int, fun i σ' H' => LoI K H d q p (dropE L mn) (F ++ [mn]) σ' H' ∧ σ'[2]? = some (some (.int mn)) ∧ H' l = some (.lst ((dropE L mn).map V.int)) ∧ ∃ f : Int → Int, H' q = some (.dK (dI (dropE L mn) f)) ∧ (∀ n ∈ (dropE L mn).take i, f n = cnt ts (dropE L mn) n) ∧ (∀ n ∈ dropE L mn, n ∉ (dropE L mn).take i → f n = cnt ts L n), rfl, ⟨⟨ul, u0, u1, u3, eH10.trans e12, e12 p _ hp10⟩, u2, hl12, cnt ts L, e12 q _ hq10, fun n hn => by simp at hn, fun n _ _ => rfl⟩, fun i σ' H' _ z => sq_of z.2.2.1, fun i x σ' H' hx hI => ?_, fun σ' H' hI => ?_⟩
    · obtain ⟨I', w2, w3, f, w4, w5, w6⟩ := hI
      obtain ⟨one, hone, rfl⟩ : ∃ n, (dropE L mn)[i]? = some n ∧ V.int n = x := by simpa using hx
      have h1 : one ∈ dropE L mn := List.mem_of_getElem? hone
      have h2 : one ∉ (dropE L mn).take i := take_notin S2.nd hone
      obtain ⟨t, ht⟩ := thOf_some (S2.nm h1)
      refine g_name ?_
      have x5 : (σ'.set 5 (some (.int one)))[5]? = some (some (.int one)) := by rw [List.getElem?_set_self (by rw [I'.len]; decide)]
      have xk : ∀ k, k ≠ 5 → (σ'.set 5 (some (.int one)))[k]? = σ'[k]? := fun k hk => by rw [List.getElem?_set_ne (Ne.symm hk)]
      have xl : (σ'.set 5 (some (.int one))).length = 6 := by simpa using I'.len
      have x0 := (xk 0 (by decide)).trans I'.s0
      have x1 := (xk 1 (by decide)).trans I'.s1
      have x2 := (xk 2 (by decide)).trans w2
      have x3 := (xk 3 (by decide)).trans I'.s3
      have hlk : EvD K (tCall (spLinksTo K) [] E0 (tCons (tDGet (tVar 0) (tVar 5)) tNil)) (σ'.set 5 (some (.int one))) H' (intsD (norm t.links)) :=
        ep_call (P := fun vs H' => ∃ u, vs = [u] ∧ Dp K H' u (thD t)) (epa_one (ed_dget (ev_var x0) (ev_var x5) (hd.r.ex I'.ex) ht) fun u H' e p => ⟨u, rfl, p⟩) (fun vs H2 e p Q q => by
          obtain ⟨u, rfl, pu⟩ := p
          exact ⟨u, t, rfl, pu, ok.ok _ (thOf_mem ht), q⟩)
      have hint : Ev (tCB (fun xs H Q => (∃ i, xs = [V.int i] ∧ Q (V.int i) H) ∨ ∃ k, xs = [V.bl k] ∧ Q (V.int (if k = true then 1 else 0)) H) (tCons (tOp (rIn K false) (tVar 2) (tCall (spLinksTo K) [] E0 (tCons (tDGet (tVar 0) (tVar 5)) tNil))) tNil)) (σ'.set 5 (some (.int one))) H' (.int (if (norm t.links).contains mn = true then 1 else 0)) := fun H13 e13 Q q' =>
        ev_inTD (ev_var x2) hlk H13 e13 _ fun H14 e14 => .inr ⟨_, rfl, q' H14 e14⟩
      have lL2 : (dropE L mn).length < 100000 := by
        have := S2.len
        omega
      refine s_daugSub (ev_var x1) (ev_var x5) hint w4 h1 lL2 (fun H13 e13 => ?_)
      have hmnN := S.nm hmL
      refine ⟨⟨xl, x0, x1, x3, (I'.ex.trans e13).mut nq, by rw [upd_ne npq]; exact e13 p _ I'.hp⟩, x2, by rw [upd_ne nlq]; exact e13 l _ w3, _, upd_same, fun n hn => ?_, fun n hn hno => ?_⟩
      · show (if n = one then f one - (if (norm t.links).contains mn = true then 1 else 0) else f n) = _
        by_cases e : n = one
        · rw [if_pos e, w6 one h1 h2, e, cnt_drop (ts := ts) (n := one) hmL]
          have hb : ((norm t.links).contains mn = true) ↔ mn ∈ there ts one := by
            rw [mem_there ht hmnN]
            simp
          by_cases q : mn ∈ there ts one
          · rw [if_pos q, if_pos (hb.2 q)]
            omega
          · rw [if_neg q, if_neg (fun z => q (hb.1 z))]
            omega
        · rw [if_neg e]
          rw [List.take_add_one, hone] at hn
          rcases List.mem_append.mp hn with z | z
          · exact w5 n z
          · exact absurd (by simpa using z) e
      · have hno' : n ∉ (dropE L mn).take i ∧ n ≠ one := by
          rw [List.take_add_one, hone] at hno
          constructor
          · exact fun z => hno (List.mem_append_left _ z)
          · exact fun z => hno (List.mem_append_right _ (by simp [z]))
        show (if n = one then f one - (if (norm t.links).contains mn = true then 1 else 0) else f n) = _
        rw [if_neg hno'.2]
        exact w6 n hn hno'.1
    · obtain ⟨I', w2, w3, f, w4, w5, w6⟩ := hI
      rw [List.length_map, List.take_length] at w5
      refine ⟨(dropE L mn).length, by have := dropE_len S.nd hmL; omega, k + 1, dropE L mn, F ++ [mn], I', ?_, S2, rfl⟩
      rw [w4, dI_congr w5]
end
end Kw
end
section
/-! KwM5: how deep (plain Lean). -/
namespace Kw
open PySem
def mxL (xs : List Int) : Int := xs.foldl max 0
theorem mx_ge : ∀ (xs : List Int) (a : Int), a ≤ xs.foldl max a ∧ ∀ y ∈ xs, y ≤ xs.foldl max a
  | [], a => ⟨Int.le_refl _, fun y hy => by cases hy⟩
  | x :: xs, a => by
    have h := mx_ge xs (max a x)
    refine ⟨Int.le_trans (Int.le_max_left a x) h.1, fun y hy => ?_⟩
    rcases List.mem_cons.mp hy with e | e
    · rw [e]
      exact Int.le_trans (Int.le_max_right a x) h.1
    · exact h.2 y e
theorem mx_mem : ∀ (xs : List Int) (a : Int), xs.foldl max a = a ∨ xs.foldl max a ∈ xs
  | [], a => .inl rfl
  | x :: xs, a => by
    show xs.foldl max (max a x) = a ∨ xs.foldl max (max a x) ∈ x :: xs
    rcases mx_mem xs (max a x) with e | e
    · rw [e]
      by_cases h : a ≤ x
      · right
        rw [Int.max_eq_right h]
        exact List.mem_cons_self
      · left
        exact Int.max_eq_left (by omega)
    · exact .inr (List.mem_cons_of_mem _ e)
/-- the greatest of xs and 0 -/
theorem mx_uniq {xs : List Int} {m : Int} (h : m = 0 ∨ m ∈ xs) (h0 : 0 ≤ m) (hx : ∀ y ∈ xs, y ≤ m) : m = mxL xs := by
  have g := mx_ge xs 0
  rcases h with e | e
  · rcases mx_mem xs 0 with q | q
    · exact e.trans q.symm
    · have h1 := hx _ q
      have h2 := g.1
      unfold mxL
      omega
  · have h1 := g.2 m e
    unfold mxL
    rcases mx_mem xs 0 with q | q
    · omega
    · have h2 := hx _ q
      omega
def stepD (ts : Ths) (f : Int → Int) (n : Int) : Int → Int := fun m => if m = n then mxL ((there ts n).map fun l => f l + 1) else f m
def depF (ts : Ths) (F : List Int) : Int → Int := F.foldl (stepD ts) fun _ => 0
theorem depF_snoc (ts : Ths) (F : List Int) (n : Int) : depF ts (F ++ [n]) = stepD ts (depF ts F) n := by
  unfold depF
  rw [List.foldl_append] <;> rfl
theorem mx_le {xs : List Int} {b : Int} (h0 : 0 ≤ b) (h : ∀ y ∈ xs, y ≤ b) : mxL xs ≤ b := by
  unfold mxL
  rcases mx_mem xs 0 with q | q
  · omega
  · exact h _ q
theorem step_bound {ts : Ths} {f : Int → Int} {n b : Int} (h : ∀ m, 0 ≤ f m ∧ f m ≤ b) (m : Int) : 0 ≤ stepD ts f n m ∧ stepD ts f n m ≤ b + 1 := by
  have hb := h 0
  unfold stepD
  split
  · refine ⟨(mx_ge _ 0).1, mx_le (by omega) fun y hy => ?_⟩
    obtain ⟨l, _, rfl⟩ := List.mem_map.mp hy
    have := h l
    omega
  · have := h m
    omega
theorem fold_bound {ts : Ths} : ∀ (F : List Int) (f : Int → Int) (b : Int), (∀ m, 0 ≤ f m ∧ f m ≤ b) → ∀ m, 0 ≤ F.foldl (stepD ts) f m ∧ F.foldl (stepD ts) f m ≤ b + F.length
  | [], f, b, h, m => by simpa using h m
  | n :: F, f, b, h, m => by
    have := fold_bound (ts := ts) F (stepD ts f n) (b + 1) (step_bound h) m
    simp only [List.foldl_cons, List.length_cons]
    omega
theorem dep_bound (ts : Ths) (F : List Int) (m : Int) : 0 ≤ depF ts F m ∧ depF ts F m ≤ F.length := by
  have := fold_bound (ts := ts) F (fun _ => 0) 0 (fun _ => by omega) m
  unfold depF
  omega
/-- told: name, how deep -/
def deps (ts : Ths) : List (Int × Int) := (norm (names ts)).map fun n => (n, depF ts (fin ts).1 n)
def pairD (p : Int × Int) : PyData := .tuple [.int p.1, .int p.2]
def depsD (ts : Ths) : PyData := .tuple ((deps ts).map pairD)
theorem fin_names {ts : Ths} (h : (fin ts).2 = []) (x : Int) : x ∈ (fin ts).1 ↔ x ∈ names ts := by
  rw [(finOk ts).mem, h]
  simp
end Kw
end
section
/-! KwE11: max; pairs sorted. -/
namespace Kw
open PySem PySem.Spec PyProof.Rows L2 Evl
section
variable {K : PySem.W.Frag} {σ : L2.St} {H H' H1 H2 : Hp} {ta tb te td ty tl : TE} {v : V} {D : Ends} {tz : TS} {P : PV}
theorem ep_max {ns : List Int} (h : EvD K te σ H (.list (ns.map .int))) (hn : ns ≠ []) : EvP (tCB (rMax K) (tCons te tNil)) σ H (fun v _ => ∃ m, m ∈ ns ∧ (∀ y ∈ ns, y ≤ m) ∧ v = .int m) := fun H1 e Q q =>
  h H1 e _ fun v H2 e2 p => by
    obtain ⟨a, rfl, ha⟩ := dp_lstI p
    exact ⟨a, ns, rfl, ha, List.length_pos_iff.mpr hn, fun m hm hy => q _ H2 e2 ⟨m, hm, hy, rfl⟩⟩
/-- max([..] + [0]), max([0] + [..]) -/
theorem ev_maxR {xs : List Int} (h : EvD K te σ H (.list ((xs ++ [0]).map .int))) : Ev (tCB (rMax K) (tCons te tNil)) σ H (.int (mxL xs)) := ev_ep (ep_max (ns := xs ++ [0]) h (by simp)) fun w _ p => by
  obtain ⟨m, h1, h2, rfl⟩ := p
  rw [mx_uniq (xs := xs) (m := m) ?_ (h2 0 (by simp)) (fun y hy => h2 y (List.mem_append_left _ hy))]
  rcases List.mem_append.mp h1 with z | z
  · exact .inr z
  · exact .inl (by simpa using z)
theorem ev_maxL {xs : List Int} (h : EvD K te σ H (.list (((0 : Int) :: xs).map .int))) : Ev (tCB (rMax K) (tCons te tNil)) σ H (.int (mxL xs)) := ev_ep (ep_max (ns := 0 :: xs) h (by simp)) fun w _ p => by
  obtain ⟨m, h1, h2, rfl⟩ := p
  rw [mx_uniq (xs := xs) (m := m) ?_ (h2 0 (by simp)) (fun y hy => h2 y (List.mem_cons_of_mem _ hy))]
  rcases List.mem_cons.mp h1 with z | z
  · exact .inl z
  · exact .inr z
def kOf (H : Hp) : V → Int × Int
  | .ref t => match H t with
    | some (.tup [.int a, .int b]) => (a, b)
    | _ => (0, 0)
  | _ => (0, 0)
theorem kOf_at {t : Addr} {a b : Int} (h : H t = some (.tup [.int a, .int b])) : kOf H (.ref t) = (a, b) := by
  show (match H t with
    | some (.tup [.int a, .int b]) => (a, b)
    | _ => (0, 0)) = (a, b)
  rw [h]
theorem dpA_pairs {g : Int → Int} {k1 : V → Int} : ∀ {ys : List V}, (∀ y ∈ ys, ∃ t, y = .ref t ∧ H t = some (.tup [.int (k1 y), .int (g (k1 y))])) → DpAll K H ys (((ys.map k1).map fun n => (n, g n)).map pairD)
  | [], _ => .nil
  | y :: ys, h => by
    obtain ⟨t, e, ht⟩ := h y List.mem_cons_self
    refine .cons ?_ (dpA_pairs fun z hz => h z (List.mem_cons_of_mem _ hz))
    rw [e] at ht ⊢
    exact .tup (st_of ht) (.cons (.int _) (.cons (.int _) .nil))
theorem pair_keys {H : Hp} {g : Int → Int} : ∀ {as : List Addr} {F : List Int}, Paired (fun (t : Addr) (q : Key × V) => H t = some (.tup [kV q.1, q.2])) as (dI F g) → as.map (fun t => (kOf H (.ref t)).1) = F ∧ ∀ t ∈ as, ∃ n ∈ F, H t = some (.tup [.int n, .int (g n)])
  | as, [], h => by
    cases h
    exact ⟨rfl, fun t ht => by cases ht⟩
  | as, n :: F, h => by
    cases h with
    | cons h1 h2 =>
      obtain ⟨e1, e2⟩ := pair_keys h2
      have h1' : H _ = some (.tup [.int n, .int (g n)]) := h1
      refine ⟨?_, fun t ht => ?_⟩
      · rw [List.map_cons, kOf_at h1', e1]
      · rcases List.mem_cons.mp ht with z | z
        · rw [z]
          exact ⟨n, List.mem_cons_self, h1'⟩
        · obtain ⟨m, hm, hm2⟩ := e2 t z
          exact ⟨m, List.mem_cons_of_mem _ hm, hm2⟩
/-- sorted(list(d.items())) -/
theorem ed_sortItems {d : Addr} {F : List Int} {g : Int → Int} (hd : Ev td σ H (.ref d)) (h : H d = some (.dK (dI F g))) (nd : F.Nodup) : EvD K (tCB (rSortedPO K) (tCons (LiI.tListItems td) tNil)) σ H (.list (((norm F).map fun n => (n, g n)).map pairD)) := fun H1 e Q q =>
  hd H1 e _ fun H2 e2 => ⟨d, dI F g, rfl, e2 d _ (e d _ h), fun H3 p as e3 np nas _ hp pr => by
    obtain ⟨k1, k2⟩ := pair_keys pr
    refine ⟨p, as.map V.ref, kOf H3, rfl, sq_of hp, fun x hx => ?_, fun ys l hs st nl => ?_⟩
    · obtain ⟨t, ht, rfl⟩ := List.mem_map.mp hx
      obtain ⟨n, hn, h3⟩ := k2 t ht
      exact ⟨t, rfl, by rw [kOf_at h3]; exact h3⟩
    · have hk : ys.map (fun y => (kOf H3 y).1) = norm F := by
        refine perm_asc (xs := F) ?_ ?_ nd
        · have := st.perm.map (fun y => (kOf H3 y).1)
          rw [List.map_map] at this
          have e4 : as.map ((fun y => (kOf H3 y).1) ∘ V.ref) = F := k1
          rw [e4] at this
          exact this
        · refine List.pairwise_map.mpr (List.Pairwise.imp (fun {a b} hab => ?_) hs)
          have := SrtO.lexB_no.mp hab
          omega
      have hda : DpAll K (upd H3 l (.lst ys)) ys (((ys.map fun y => (kOf H3 y).1).map fun n => (n, g n)).map pairD) := dpA_ex (Ex.new nl) _ _ (dpA_pairs fun y hy => by
        obtain ⟨t, ht, rfl⟩ := List.mem_map.mp (st.perm.mem_iff.mp hy)
        obtain ⟨n, hn, h3⟩ := k2 t ht
        exact ⟨t, rfl, by rw [kOf_at h3]; exact h3⟩)
      rw [hk] at hda
      exact q (.ref l) _ ((e2.trans e3).trans (Ex.new nl)) (.lst (sq_of upd_same) hda)⟩
end
end Kw
end
section
/-! KwD10: need_order, depths. -/
namespace Kw
open PySem PySem.Spec PyProof.Rows L2 Evl
def RefusedV (K : PySem.W.Frag) (aR : Addr) (H : Hp) (ts : Ths) (E : XK) : Prop := (fin ts).2 ≠ [] → ∀ rs : List Int, (∀ r ∈ rs, r ∈ (fin ts).2) → rs.length ≤ 40 → ∀ v H' x, Ex H H' → Dp K H' v (intsD rs) → H' x = some (.xd [("at", v)]) → E (.ref aR) (some x) H'
def spNeedO (K : PySem.W.Frag) (aR : Addr) : Sp := fun vs H Q E => ∃ (d : Addr) (ts : Ths), vs = [.ref d] ∧ ThO K H d ts ∧ TsOk ts ∧ ((fin ts).2 = [] → RetP H (fun v H' => Dp K H' v (intsD (fin ts).1)) Q) ∧ RefusedV K aR H ts E
def spDepths (K : PySem.W.Frag) (aR : Addr) : Sp := fun vs H Q E => ∃ (d : Addr) (ts : Ths), vs = [.ref d] ∧ ThO K H d ts ∧ TsOk ts ∧ ((fin ts).2 = [] → RetP H (fun v H' => Dp K H' v (depsD ts)) Q) ∧ RefusedV K aR H ts E
theorem depF_take {ts : Ths} {F : List Int} {i : Nat} {n : Int} (h : F[i]? = some n) : depF ts (F.take (i + 1)) = stepD ts (depF ts (F.take i)) n := by
  rw [List.take_add_one, h]
  exact depF_snoc ts _ n
section
variable {P : Program} {w : World} {K : PySem.W.Frag} {mg : Str → Option Value} {base : Heap} {aN aR : Addr}
theorem sc_need_order : FnScope ["things", "word", "names"] ["things"] (defScope (top 35)) := ⟨rfl, rfl, rfl, by decide +kernel, rfl, by decide +kernel, by decide +kernel⟩
theorem cal_need_order (T : Tx K mg) (c_link_order : Cal P w K mg base "link_order" 11 ["things"] (spOrder K)) (x_Refused : KwX.XIn P K aR "at" "no such value here") (g_Refused : mg "Refused" = some (.ref aR)) : CalX (L2.CX P w) P w K mg base "need_order" 12 ["things"] (spNeedO K aR) := by
  obtain ⟨f, fd, F, hm⟩ := T.fn 20 "need_order" (top 35) rfl
  obtain ⟨tR, hRing⟩ := T.gRing
  refine cal_of F hm (fun _ _ _ _ _ _ us hl => match us, hl with | [_], _ => rfl) (F.ok sc_need_order (fun vs H Q E h => by obtain ⟨_, _,  rfl, _⟩ := h <;> rfl) (fun cdv A outer s H vs Q E hr h => ⟨_, (pss_cons (ps_asg (pe_cal c_link_order (hr.mono (by decide)) rfl (pa_cons (pv 0) pa_nil)) (pg_tup rfl (pgs_cons (pg_name (i := 1) sc_need_order.nd rfl (.inl rfl)) (pgs_cons (pg_name (i := 2) sc_need_order.nd rfl (.inl rfl)) pgs_nil))))
      (pss_cons (ps_if (pt_cmpR op_eq (pv 1) (pe_glob (v := .str "ring") rfl hRing ⟨_, rfl⟩) (nomark _)) (pss_one (ps_raise rfl (takes_of rfl rfl rfl rfl) (pmk_x (k := 0) x_Refused (hr.mono (by decide)) rfl g_Refused (pv 2)))) pss_nil)
      (pss_one (ps_ret (pv 2))))), ?_⟩))
  obtain ⟨d, ts, rfl, hd, ok, hQ, hE⟩ := h
  have hc : EvP (tCall (spOrder K) [] E0 (tCons (tVar 0) tNil)) (start ["things", "word", "names"] [.ref d]) H (OrderV K ts) :=
    ep_call (P := fun vs H' => vs = [.ref d] ∧ Ex H H') (ea_epa (ea_one (ev_var rfl)) fun H1 e => ⟨rfl, e⟩) (fun vs H1 e z Q q => ⟨d, ts, by rw [z.1] <;> rfl, hd.ex z.2, ok, q⟩)
  refine hc H (Ex.refl H) _ fun v H1 e1 hv => ?_
  rcases hv with ⟨hS, hv⟩ | ⟨hS, rs, hr1, hr2, hv⟩
  · refine gp_tup2 hv H1 (Ex.refl _) _ fun σ2 hs2 => ?_
    obtain ⟨v1, v2, d1, d2, rfl⟩ := hs2
    have : v1 = .str "order" := dp_str d1
    subst this
    dsimp only
    refine q_when (b := false) (et_eqS (x' := "order") (y := "ring") (ev_var (i := 1) rfl) rfl (by decide)) (fun z => by cases z) (fun _ H2 e2 => ?_)
    exact s_retP (P := fun v H' => Dp K H' v (intsD (fin ts).1)) (ed_var (n := 2) rfl (dp_ex e2 _ _ d2)) (fun v H3 e3 z => hQ hS v H3 ((e1.trans e2).trans e3) z)
  · refine gp_tup2 hv H1 (Ex.refl _) _ fun σ2 hs2 => ?_
    obtain ⟨v1, v2, d1, d2, rfl⟩ := hs2
    have : v1 = .str "ring" := dp_str d1
    subst this
    dsimp only
    refine q_when (b := true) (et_eqS (x' := "ring") (y := "ring") (ev_var (i := 1) rfl) rfl (by decide)) (fun _ H2 e2 => ?_) (fun z => by cases z)
    exact ⟨v2, rfl, fun dx ndx => hE hS rs hr1 hr2 v2 _ dx ((e1.trans e2).trans (Ex.new ndx)) (dp_ex (e2.trans (Ex.new ndx)) _ _ d2) upd_same⟩
theorem sc_depths : FnScope ["things", "found", "name", "link"] ["things"] (defScope (top 36)) := ⟨rfl, rfl, rfl, by decide +kernel, rfl, by decide +kernel, by decide +kernel⟩
theorem cal_depths (T : Tx K mg) (c_links_there : Cal P w K mg base "links_there" 9 ["things", "name"] (spThere K)) (c_need_order : CalX (L2.CX P w) P w K mg base "need_order" 12 ["things"] (spNeedO K aR)) : CalX (L2.CX P w) P w K mg base "depths" 13 ["things"] (spDepths K aR) := by
  obtain ⟨f, fd, F, hm⟩ := T.fn 21 "depths" (top 36) rfl
  refine cal_of F hm (fun _ _ _ _ _ _ us hl => match us, hl with | [_], _ => rfl) (F.ok sc_depths (fun vs H Q E h => by obtain ⟨_, _,  rfl, _⟩ := h <;> rfl) (fun cdv A outer s H vs Q E hr h => ⟨_, (pss_cons (ps_set (i := 1) sc_depths.nd rfl (.inr rfl) pe_dnewK)
      (pss_cons (ps_for (passes_of rfl) rfl (pi_tup (pe_calS (E := fun _ => E) c_need_order (hr.mono (by decide)) rfl (fun σ => passAt (takes_of rfl rfl rfl rfl) σ) (pa_cons (pv 0) pa_nil))) (pg_name (i := 2) sc_depths.nd rfl (.inl rfl)) (pss_one (ps_dput (hu_of hr) (pv 1) (pv 2) (pe_callB (cr_max rfl) rfl (T.fr "max" (by decide)) boot_max (pa_cons (pe_op op_cat (pe_lc (own := [("link", 3)]) (g := (gName 3)) (tt := tYes) (te := (tOp _ (tDGet (tVar 1) (tVar 3)) (tC (.int 1)))) rfl sc_depths.nd (pi_list (pe_cal c_links_there (hr.mono (by decide)) rfl (pa_cons (pv 0) (pa_cons (pv 2) pa_nil)))) (blkOk_by (N := ["things", "found", "name", "link"]) (sc := defScope (top 36)) (by decide +kernel)) (fun _ _ _ _ _ => (pg_name (i := 3) sc_depths.nd rfl (.inl rfl))) (fun _ _ _ _ _ => pts_nil) (fun _ _ _ _ _ => (pe_op op_add (pe_dget (hu_of hr) (pv 1) (pv 3) (fun _ _ => rfl)) pe_int))) (pe_lst (pa_cons pe_int pa_nil))) pa_nil)) rfl)))
      (pss_one (ps_ret (pe_callTy call_tuple_of rfl (T.fr "tuple" (by decide)) boot_tuple (pa_cons (pe_callB cr_sortedPO rfl (T.fr "sorted" (by decide)) boot_sorted (pa_cons (LiI.pe_listItems rfl (pv 1) (by rfl) (T.fr "list" (by decide)) boot_list) pa_nil)) pa_nil)))))), ?_⟩))
  obtain ⟨d, ts, rfl, hd, ok, hQ, hE⟩ := h
  have l9 := ok.len
  intro p np
  have e0 : Ex H (upd H p (.dK [])) := Ex.new np
  -- the call
  refine ⟨.ref d, rfl, d, ts, rfl, hd.ex e0, ok, fun hS => ?_, fun hS rs h1 h2 v H' x e hv hx => hE hS rs h1 h2 v H' x (e0.trans e) hv hx⟩
  intro v H1 e1 hv
  have hQ' := hQ hS
  obtain ⟨a, rfl, ha⟩ := dp_tupI hv
  have fO := finOk ts
  have hF9 : (fin ts).1.length ≤ 9 := by
    have := nodup_len fO.nd fun x hx => (fin_names hS x).1 hx
    simp only [names, List.length_map] at this
    omega
  refine ⟨a, rfl, ⟨_, ha⟩, for_tup (D := { nx := _, rt := _, bk := _, ct := _ }) (xs := (fin ts).1.map V.int) (fun i σ' H' => σ'.length = 4 ∧ σ'[0]? = some (some (.ref d)) ∧ σ'[1]? = some (some (.ref p)) ∧ Ex H H' ∧ SqT K H' a ((fin ts).1.map V.int) ∧ H' p = some (.dK (dI ((fin ts).1.take i) (depF ts ((fin ts).1.take i))))) ⟨rfl, rfl, rfl, e0.trans e1, ha, e1 p _ upd_same⟩ (fun i σ' H' _ z => z.2.2.2.2.1) (fun i x σ' H' hx hI => ?_) (fun σ' H' hI => ?_)⟩
  · obtain ⟨s4, s0, s1, eH, hA, hp⟩ := hI
    obtain ⟨n, hn, rfl⟩ : ∃ n, (fin ts).1[i]? = some n ∧ V.int n = x := by simpa using hx
    have hi := (List.getElem?_eq_some_iff.mp hn).1
    have hnN : n ∈ names ts := (fin_names hS n).1 (List.mem_of_getElem? hn)
    obtain ⟨t, ht⟩ := thOf_some hnN
    have hnew : n ∉ (fin ts).1.take i := take_notin fO.nd hn
    have hpre : ∀ l ∈ there ts n, l ∈ (fin ts).1.take i := by
      refine fO.pre _ n ((fin ts).1.drop (i + 1)) ?_
      have e := (List.getElem?_eq_some_iff.mp hn).2
      rw [← e, List.getElem_cons_drop, List.take_append_drop]
    refine g_name ?_
    have t2 : (σ'.set 2 (some (.int n)))[2]? = some (some (.int n)) := by rw [List.getElem?_set_self (by omega)]
    have tk : ∀ k, k ≠ 2 → (σ'.set 2 (some (.int n)))[k]? = σ'[k]? := fun k hk => by rw [List.getElem?_set_ne (Ne.symm hk)]
    have tl : (σ'.set 2 (some (.int n))).length = 4 := by simpa using s4
    have t0 := (tk 0 (by decide)).trans s0
    have t1 := (tk 1 (by decide)).trans s1
    generalize σ'.set 2 (some (V.int n)) = σ2 at t2 tl t0 t1 ⊢
    have hc : EvP (tCall (spThere K) [] E0 (tCons (tVar 0) (tCons (tVar 2) tNil))) σ2 H' (fun v H' => Dp K H' v (.list ((there ts n).map .int))) :=
      ep_call (P := fun vs H' => vs = [.ref d, .int n]) (ea_epa (ea_two (ev_var t0) (ev_var t2)) fun _ _ => rfl) (fun vs H1 e z Q q => ⟨d, n, ts, t, by rw [z] <;> rfl, (hd.r.ex eH).ex e, ok, ht, fun v H2 e2 hv => q v H2 e2 hv.dp⟩)
    have hmap := en_map (K := K) (g := gName 3) (te := tOp (rI0 fun i j => V.int (i + j)) (tDGet (tVar 1) (tVar 3)) (tC (V.int 1))) (vs := [3]) (there ts n) PyData.int (fun l => .int (depF ts ((fin ts).1.take i) l + 1)) (ei_list hc) (by have := there_len ok n; omega) (fun _ _ => rfl) (fun l hl x H2 e2 hx => by
      rw [dp_int hx]
      exact fun H3 e3 Q q => gp_name H3 e3 Q fun σ3 hs => q σ3 (by
        subst hs
        have g3 : ((wipe σ2 [3]).set 3 (some (V.int l)))[3]? = some (some (.int l)) := by rw [List.getElem?_set_self (by simp [wipe, tl])]
        have g1 : ((wipe σ2 [3]).set 3 (some (V.int l)))[1]? = some (some (.ref p)) := by
          rw [List.getElem?_set_ne (by decide)]
          simp only [wipe]
          rw [List.getElem?_set_ne (by decide)]
          exact t1
        exact ⟨by simp [wipe], edI (ev_op (ev_dI (ev_var g1) (ev_var g3) (.inl (e2 p _ hp)) (hpre l hl)) ev_c rv_I0)⟩))
    have hcat := en_cat (K := K) (es := [.int 0]) (EvP.imp hmap fun _ _ _ z => z.ls) (EvP.imp (en_lst (K := K) (ta := tCons (tC (.int 0)) tNil) (eds_cons ed_int eds_nil) (by simp)) fun _ _ _ z => z.ls) (by have := there_len ok n; simp; omega)
    have hmx := ev_maxR (K := K) (xs := (there ts n).map fun l => depF ts ((fin ts).1.take i) l + 1) (EvP.imp hcat fun v H3 _ z => by
      have := z.dp
      rw [List.map_append, List.map_map]
      exact this)
    have hl9 : (dI ((fin ts).1.take i) (depF ts ((fin ts).1.take i))).length < 100000 := by
      rw [dI_len, List.length_take]
      omega
    refine s_dput (ev_var t1) (k := Sum.inl n) (ev_var t2) hmx hp hl9 (fun H3 e3 => ⟨tl, t0, t1, (eH.trans e3).mut np, ?_, ?_⟩)
    · have hne : ∀ ys, ¬ Rd H3 p (.tup ys) := nrd_dK (e3 p _ hp)
      exact tk_t (TupK.upd hne) (ex_t e3 hA)
    · rw [upd_same, dI_new hnew, depF_take hn]
      rw [List.take_add_one, hn] <;> rfl
  · obtain ⟨s4, s0, s1, eH, hA, hp⟩ := hI
    rw [List.length_map, List.take_length] at hp
    have en : norm (fin ts).1 = norm (names ts) := norm_eq (asc_norm _) fun x => by rw [mem_norm, fin_names hS]
    dsimp only
    refine s_retR (D := { nx := fun _ H' => Q .non H', rt := Q }) (P := fun v H' => Dp K H' v (depsD ts)) (ed_tupL (ds := (deps ts).map pairD) ?_) (fun v H2 e2 z => hQ' v H2 (eH.trans e2) z)
    have := ed_sortItems (K := K) (σ := σ') (ev_var s1) hp fO.nd
    rw [en] at this
    exact this
end
end Kw
end
section
/-! KwE12: sorted(set(..)); data compared. -/
namespace Kw
open PySem PySem.Spec PyProof.Rows L2 Evl
section
variable {K : PySem.W.Frag} {σ : L2.St} {H H' H1 H2 : Hp} {ta tb te td ty tl : TE} {v : V} {D : Ends} {tz : TS} {P : PV} {w : World}
theorem en_sortSet {ns : List Int} (h : EvD K te σ H (.list (ns.map .int))) (hl : ns.length < 64) : EvP (tCB (rSortedSet w) (tCons (tCB (rSetI K w) (tCons te tNil)) tNil)) σ H (NewD K H ((norm ns).map .int)) := fun H1 e1 Q q =>
  h H1 e1 _ fun u H2 e2 hu => by
    obtain ⟨a, rfl, ha⟩ := dp_lstI hu
    refine ⟨a, ns, rfl, .inl ha, by omega, fun p c hc hp2 => ?_⟩
    refine ⟨p, _, c, rfl, upd_same, by omega, fun ms l hasc hm _ hl => ?_⟩
    have en : ms = norm ns := norm_eq hasc fun k => by rw [hm]; simp
    rw [en]
    refine q (.ref l) _ ((e2.trans (Ex.new hp2)).trans (Ex.new hl)) ⟨l, _, rfl, ?_, upd_same, dpA_ints _⟩
    exact fresh_back e1 (fresh_back e2 (fresh_back (Ex.new hp2) hl))
theorem ev_eqD {d e : PyData} (h : EvD K ta σ H d) (h' : EvD K tb σ H e) (sd : SeqAt.shaped d = true) (se : SeqAt.shaped e = true) : Ev (tOp (rEqD K) ta tb) σ H (.bl (PyData.eqv d e)) := fun H1 e1 Q q =>
  h H1 e1 _ fun v H2 e2 p => h' H2 (e1.trans e2) _ fun u H3 e3 p' => ⟨d, e, dp_ex e3 _ _ p, p', sd, se, q H3 (e2.trans e3)⟩
theorem ev_neD {d e : PyData} (h : EvD K ta σ H d) (h' : EvD K tb σ H e) (sd : SeqAt.shaped d = true) (se : SeqAt.shaped e = true) : Ev (tOp (rNeD K) ta tb) σ H (.bl (!PyData.eqv d e)) := fun H1 e1 Q q =>
  h H1 e1 _ fun v H2 e2 p => h' H2 (e1.trans e2) _ fun u H3 e3 p' => ⟨d, e, dp_ex e3 _ _ p, p', sd, se, q H3 (e2.trans e3)⟩
theorem eqv_nil (ns : List Int) : PyData.eqv (.list (ns.map .int)) (.list []) = decide (ns = []) := by
  cases ns <;> simp [PyData.eqv, PyData.eqvAll]
theorem ev_eqNil {ns : List Int} (h : EvD K ta σ H (.list (ns.map .int))) : Ev (tOp (rEqD K) ta (tLst tNil)) σ H (.bl (decide (ns = []))) := by
  have := ev_eqD h (ed_lst (K := K) (ta := tNil) (ds := []) eds_nil (by simp)) (PySem.W.ke_shaped_ints ns) (PySem.W.ke_shaped_ints [])
  rw [eqv_nil] at this
  exact this
theorem ev_neNil {ns : List Int} (h : EvD K ta σ H (.list (ns.map .int))) : Ev (tOp (rNeD K) ta (tLst tNil)) σ H (.bl (!decide (ns = []))) := by
  have := ev_neD h (ed_lst (K := K) (ta := tNil) (ds := []) eds_nil (by simp)) (PySem.W.ke_shaped_ints ns) (PySem.W.ke_shaped_ints [])
  rw [eqv_nil] at this
  exact this
/-- g = e, any target -/
theorem q_asgG {g : TG} (h : EvP te σ H P) (k : ∀ v H1, Ex H H1 → P v H1 → g v σ H1 fun σ2 H2 => tz D σ2 H2) : tSeq (tAsg te g) tz D σ H := h H (Ex.refl H) _ k
/-- len of a dict -/
theorem ev_lenK {d : Addr} {kvs : List (Key × V)} (h : Ev te σ H (.ref d)) (hd : H d = some (.dK kvs)) : Ev (tCB (fun xs H Q => ∃ a kvs, xs = [V.ref a] ∧ H a = some (HO.dK kvs) ∧ Q (V.int ((kvs.length : Nat) : Int)) H) (tCons te tNil)) σ H (.int ((kvs.length : Nat) : Int)) := fun H1 e Q q =>
  h H1 e _ fun H2 e2 => ⟨d, kvs, rfl, e2 d _ (e d _ hd), q H2 e2⟩
end
end Kw
end
section
/-! KwD11: _law_order, _law_come, _law_deep. -/
namespace Kw
open PySem PySem.Spec PyProof.Rows L2 Evl
def spLOrder (K : PySem.W.Frag) : Sp := fun vs H Q _ => ∃ (d : Addr) (ts : Ths), vs = [.ref d] ∧ ThO K H d ts ∧ TsOk ts ∧ RetP H (fun v H' => ∃ a p l, v = .ref a ∧ SqT K H' a [.ref p, .ref l] ∧ H p = none ∧ H' p = some (.lst ((fin ts).1.map V.int)) ∧ H l = none ∧ H' l = some (.lst ((fin ts).2.map V.int))) Q
def spLCome (K : PySem.W.Frag) : Sp := fun vs H Q _ => ∃ (d st : Addr) (ts : Ths) (ns : List Int), vs = [.ref d, .ref st] ∧ ThO K H d ts ∧ TsOk ts ∧ SqL K H st (ns.map V.int) ∧ ns.length ≤ 9 ∧ (∀ n ∈ ns, n ∈ names ts) ∧ RetP H (fun v H' => Dp K H' v (intsD (rounds ts ns ts.length))) Q
def spLDeep (K : PySem.W.Frag) : Sp := fun vs H Q _ => ∃ (d o : Addr) (ts : Ths), vs = [.ref d, .ref o] ∧ ThO K H d ts ∧ TsOk ts ∧ SqL K H o ((fin ts).1.map V.int) ∧ (fin ts).2 = [] ∧ RetP H (fun v H' => Dp K H' v (depsD ts)) Q
theorem ThO.len {K : PySem.W.Frag} {H : Hp} {d : Addr} {ts : Ths} (h : ThO K H d ts) : ∃ kvs, H d = some (.dK kvs) ∧ kvs.length = ts.length := by
  obtain ⟨us, h1, h2⟩ := h
  exact ⟨_, h1, kvs_len h2⟩
theorem ThO.keys {K : PySem.W.Frag} {H : Hp} {d : Addr} {ts : Ths} (h : ThO K H d ts) : ∃ kvs, H d = some (.dK kvs) ∧ kvs.map (·.1) = (names ts).map Sum.inl := by
  obtain ⟨us, h1, h2⟩ := h
  exact ⟨_, h1, kvs_keys (by rw [dpA_len h2, List.length_map])⟩
structure OrI (K : PySem.W.Frag) (H : Hp) (d p l : Addr) (F S : List Int) (σ : L2.St) (H' : Hp) : Prop where
  len : σ.length = 7
  s0 : σ[0]? = some (some (.ref d))
  s1 : σ[1]? = some (some (.ref p))
  s2 : σ[2]? = some (some (.ref l))
  ex : Ex H H'
  hp : H' p = some (.lst (F.map V.int))
  hl : H' l = some (.lst (S.map V.int))
  ne : l ≠ p
  nl : H l = none
section
variable {P : Program} {w : World} {K : PySem.W.Frag} {mg : Str → Option Value} {base : Heap} {aN aR : Addr}
/-- sorted(things) -/
theorem en_sortTh {σ : L2.St} {H : Hp} {te : TE} {d : Addr} {ts : Ths} (h : Ev te σ H (.ref d)) (hd : ThO K H d ts) (ok : TsOk ts) : EvP (tCB rSrtD (tCons te tNil)) σ H (NewD K H ((norm (names ts)).map .int)) :=
  en_sortD (P := fun v H' => v = .ref d ∧ ThO K H' d ts) (ns := names ts) (ep_ev h fun H' e => ⟨rfl, hd.ex e⟩) ok.nd (by have := ok.len; simp [names]; omega) (fun v H' e p => by
    obtain ⟨kvs, h1, h2⟩ := p.2.keys
    exact ⟨d, kvs, p.1, .inl h1, h2⟩)
theorem sc__law_order : FnScope ["_law_things", "_law_found", "_law_left", "_law_turn", "_law_some", "_law_name", "_law_link"] ["_law_things"] (defScope (top 49)) := ⟨rfl, rfl, rfl, by decide +kernel, rfl, by decide +kernel, by decide +kernel⟩
theorem cal__law_order (T : Tx K mg) (c__law_there : Cal P w K mg base "_law_there" 5 ["_law_things", "_law_name"] (spLThere K)) : Cal P w K mg base "_law_order" 6 ["_law_things"] (spLOrder K) := by
  obtain ⟨f, fd, F, hm⟩ := T.fn 31 "_law_order" (top 49) rfl
  refine cal_of F hm (fun _ _ _ _ _ _ us hl => match us, hl with | [_], _ => rfl) (F.ok sc__law_order (fun vs H Q E h => by obtain ⟨_, _,  rfl, _⟩ := h <;> rfl) (fun cdv A outer s H vs Q E hr h => ⟨_, PSs.nox (pss_cons (ps_asg (pe_tup (pa_cons (pe_lst pa_nil) (pa_cons (pe_callB (call_sortedDI rfl) rfl (T.fr "sorted" (by decide)) boot_sorted (pa_cons (pv 0) pa_nil)) pa_nil))) (pg_tup rfl (pgs_cons (pg_name (i := 1) sc__law_order.nd rfl (.inl rfl)) (pgs_cons (pg_name (i := 2) sc__law_order.nd rfl (.inr rfl)) pgs_nil))))
      (pss_cons (ps_for PassesOwn.never rfl (pi_range1 (by rfl) (T.fr "range" (by decide)) (pa_cons (pe_callB call_lenD rfl (T.fr "len" (by decide)) boot_len (pa_cons (pv 0) pa_nil)) pa_nil)) (pg_name (i := 3) sc__law_order.nd rfl (.inl rfl)) (pss_cons (ps_set (i := 4) sc__law_order.nd rfl (.inr rfl) (pe_lc (own := [("_law_name", 5)]) (g := (gName 5)) (tt := (tTest (tOp (rEqD K) (tLc (iList K (tCall (spLThere K) [] E0 (tCons (tVar 0) (tCons (tVar 5) tNil)))) (gName 6) (tTest (tOp (rIn K false) (tVar 6) (tVar 2))) (tVar 6) [6]) (tLst tNil)))) (te := (tVar 5)) rfl sc__law_order.nd (pi_list (pv 2)) (blkOk_by (N := ["_law_things", "_law_found", "_law_left", "_law_turn", "_law_some", "_law_name", "_law_link"]) (sc := defScope (top 49)) (by decide +kernel)) (fun _ _ _ _ _ => (pg_name (i := 5) sc__law_order.nd rfl (.inl rfl))) (fun _ _ _ _ _ => (pts_one (pt_cmpR (op_eqD hr.units) (pe_lc (own := [("_law_link", 6)]) (g := (gName 6)) (tt := (tTest (tOp (rIn K false) (tVar 6) (tVar 2)))) (te := (tVar 6)) rfl sc__law_order.nd (pi_list (pe_cal c__law_there (hr.mono (by decide)) rfl (pa_cons (pv 0) (pa_cons (pv 5) pa_nil)))) (blkOk_by (by rfl)) (fun _ _ _ _ _ => (pg_name (i := 6) sc__law_order.nd rfl (.inl rfl))) (fun _ _ _ _ _ => (pts_one (pt_cmpR op_in_seq (pv 6) (pv 2) (by rfl)))) (fun _ _ _ _ _ => (pv 6))) (pe_lst pa_nil) (nomark _)))) (fun _ _ _ _ _ => (pv 5))))
      (pss_cons (ps_if (pt_cmpR (op_eqD hr.units) (pv 4) (pe_lst pa_nil) (nomark _)) (pss_one ps_break) pss_nil)
      (pss_cons (ps_expr (pe_bm PySem.F.plainAttrs_list PySem.F.slot_list_append PySem.F.type_list_append mt_append (pv 1) (pa_cons (pe_ix ix_list (pv 4) pe_int (fun _ _ => rfl)) pa_nil)))
      (pss_one (ps_set (i := 2) sc__law_order.nd rfl (.inr rfl) (pe_lc (own := [("_law_name", 5)]) (g := (gName 5)) (tt := (tTest (tOp _ (tVar 5) (tOp (rIxL K) (tVar 4) (tC (.int 0)))))) (te := (tVar 5)) rfl sc__law_order.nd (pi_list (pv 2)) (blkOk_by (N := ["_law_things", "_law_found", "_law_left", "_law_turn", "_law_some", "_law_name", "_law_link"]) (sc := defScope (top 49)) (by decide +kernel)) (fun _ _ _ _ _ => (pg_name (i := 5) sc__law_order.nd rfl (.inl rfl))) (fun _ _ _ _ _ => (pts_one (pt_cmpR op_ne (pv 5) (pe_ix ix_list (pv 4) pe_int (fun _ _ => rfl)) (nomark _)))) (fun _ _ _ _ _ => (pv 5)))))))))
      (pss_one (ps_ret (pe_tup (pa_cons (pv 1) (pa_cons (pv 2) pa_nil))))))), ?_⟩))
  obtain ⟨d, ts, rfl, hd, ok, hQ⟩ := h
  have l9 := ok.len
  have hargs : EvPA (tCons (tLst tNil) (tCons (tCB rSrtD (tCons (tVar 0) tNil)) tNil)) (start ["_law_things", "_law_found", "_law_left", "_law_turn", "_law_some", "_law_name", "_law_link"] [.ref d]) H (fun vs H' => ∃ p l, vs = [.ref p, .ref l] ∧ H p = none ∧ H' p = some (.lst []) ∧ H' l = some (.lst ((norm (names ts)).map V.int)) ∧ l ≠ p ∧ H l = none) := fun H1 e1 Q q => by
    refine en_lst (K := K) eds_nil (by simp) H1 e1 _ fun v H2 e2 hv => ?_
    obtain ⟨p, rfl, np, hp⟩ := NewD.ints (ns := []) hv
    refine en_sortTh (K := K) (σ := (start ["_law_things", "_law_found", "_law_left", "_law_turn", "_law_some", "_law_name", "_law_link"] [.ref d])) (H := H2) (ev_var rfl) (hd.ex (e1.trans e2)) ok H2 (Ex.refl _) _ fun u H3 e3 hu => ?_
    obtain ⟨l, rfl, nl, hl⟩ := hu.ints
    exact q _ H3 (e2.trans e3) ⟨p, l, rfl, np, e3 p _ hp, hl, Ne.symm (ne_of_none hp nl), fresh_back (e1.trans e2) nl⟩
  have harg : EvP (tTup (tCons (tLst tNil) (tCons (tCB rSrtD (tCons (tVar 0) tNil)) tNil))) (start ["_law_things", "_law_found", "_law_left", "_law_turn", "_law_some", "_law_name", "_law_link"] [.ref d]) H (fun v H' => ∃ a p l, v = .ref a ∧ H' a = some (.tup [.ref p, .ref l]) ∧ H p = none ∧ H' p = some (.lst []) ∧ H' l = some (.lst ((norm (names ts)).map V.int)) ∧ l ≠ p ∧ H l = none) := fun H1 e1 Q q =>
    hargs H1 e1 _ fun vs H3 e3 z => by
      obtain ⟨p, l, rfl, np, hp, hl, nlp, nlH⟩ := z
      exact ⟨by show 2 ≤ sizeLine; decide, fun a na => q _ _ (e3.trans (Ex.new na)) ⟨a, p, l, rfl, upd_same, np, Ex.new na p _ hp, Ex.new na l _ hl, nlp, nlH⟩⟩
  refine q_asgG harg (fun v H2 e2 hv => ?_)
  obtain ⟨a, p, l, rfl, ha, np, hp2, hl2, nlp, nlH⟩ := hv
  refine ⟨a, _, rfl, st_of ha, rfl, _, _, rfl, _, _, rfl, rfl, ?_⟩
  obtain ⟨kvs, hk1, hk2⟩ := (hd.ex e2).len
  -- what is returned
  have ret : ∀ σ' H' l, OrI K H d p l (fin ts).1 (fin ts).2 σ' H' → tRet (tTup (tCons (tVar 1) (tCons (tVar 2) tNil))) { nx := fun x H' => Q V.non H', rt := Q } σ' H' := fun σ' H' l I =>
    s_retR (D := { nx := fun x H' => Q V.non H', rt := Q }) (P := fun v H' => ∃ a p l, v = .ref a ∧ SqT K H' a [.ref p, .ref l] ∧ H p = none ∧ H' p = some (.lst ((fin ts).1.map V.int)) ∧ H l = none ∧ H' l = some (.lst ((fin ts).2.map V.int))) (fun H3 e3 Q q => ⟨.ref p, I.s1, .ref l, I.s2, by show 2 ≤ sizeLine; decide, fun a na => q _ _ (Ex.new na) ⟨a, p, l, rfl, st_of upd_same, np, Ex.new na p _ (e3 p _ I.hp), I.nl, Ex.new na l _ (e3 l _ I.hl)⟩⟩) (fun v H3 e3 z => hQ v H3 (I.ex.trans e3) z)
  dsimp only
  refine Evl.q_forR1 (n := (kvs.length : Int)) (ea_one (ev_lenK (ev_var rfl) hk1)) (by omega) (fun i σ' H' => ∃ l, OrI K H d p l (ordS ts i).1 (ordS ts i).2 σ' H') (fun H3 e3 => ⟨l, rfl, rfl, rfl, rfl, e2.trans e3, e3 p _ hp2, e3 l _ hl2, nlp, nlH⟩) (fun i σ' H' hi I => ?_) (fun σ' H' I => ?_)
  · have hi' : i < ts.length := by omega
    have oO := ordOk ts i
    have lS : (ordS ts i).2.length ≤ 9 := by
      have := nodup_len oO.asc.nodup (ys := names ts) fun x hx => (oO.mem x).2 (.inr hx)
      simp only [names, List.length_map] at this
      omega
    have lF : (ordS ts i).1.length ≤ 9 := by
      have := nodup_len oO.nd (ys := names ts) fun x hx => (oO.mem x).2 (.inl hx)
      simp only [names, List.length_map] at this
      omega
    obtain ⟨l, s7, s0, s1, s2, eH, hp, hl, nlp, nlH⟩ := I
    have t0 : (σ'.set 3 (some (.int (i : Int))))[0]? = some (some (.ref d)) := by rw [List.getElem?_set_ne (by decide)]; exact s0
    have t1 : (σ'.set 3 (some (.int (i : Int))))[1]? = some (some (.ref p)) := by rw [List.getElem?_set_ne (by decide)]; exact s1
    have t2 : (σ'.set 3 (some (.int (i : Int))))[2]? = some (some (.ref l)) := by rw [List.getElem?_set_ne (by decide)]; exact s2
    have tl : (σ'.set 3 (some (.int (i : Int)))).length = 7 := by simpa using s7
    generalize σ'.set 3 (some (V.int (i : Int))) = σ1 at t0 t1 t2 tl ⊢
    generalize hO : ordS ts i = FS at hp hl oO lS lF
    obtain ⟨F, S⟩ := FS
    simp only at hp hl oO lS lF
    have hdH := hd.r.ex eH
    -- some
    refine q_asgP (P := NewD K H' ((readyL ts S).map .int)) ?_ (fun v3 H3 e3 hv3 => ?_)
    · refine en_lc (K := K) S PyData.int (fun n => decide (cnt ts S n = 0)) PyData.int (ei_list (ed_var t2 (dp_lstOf (sq_of hl)))) (by omega) (fun _ _ => rfl) (fun n hn x H3 e3 hx => ?_)
      rw [dp_int hx]
      refine fun H4 e4 Q q => gp_name H4 e4 Q fun σ' hs => q σ' ?_
      subst hs
      have g5 : ((wipe σ1 [5]).set 5 (some (V.int n)))[5]? = some (some (.int n)) := by rw [List.getElem?_set_self (by simp [wipe, tl])]
      have gk : ∀ k, k ≠ 5 → ((wipe σ1 [5]).set 5 (some (V.int n)))[k]? = σ1[k]? := fun k hk => by
        rw [List.getElem?_set_ne (Ne.symm hk)]
        simp only [wipe]
        rw [List.getElem?_set_ne (Ne.symm hk)]
      have g0 := (gk 0 (by decide)).trans t0
      have g2 := (gk 2 (by decide)).trans t2
      have gl : ((wipe σ1 [5]).set 5 (some (V.int n))).length = 7 := by simp [wipe, tl]
      refine ⟨by simp [wipe], ?_, fun _ => ed_var g5 (.int n)⟩
      obtain ⟨σ5, hσ5⟩ : ∃ σ5, σ5 = (wipe σ1 [5]).set 5 (some (V.int n)) := ⟨_, rfl⟩
      rw [← hσ5] at g5 g0 g2 gl
      obtain ⟨t, ht⟩ := thOf_some ((oO.mem n).2 (.inr hn))
      have hc : EvP (tCall (spLThere K) [] E0 (tCons (tVar 0) (tCons (tVar 5) tNil))) σ5 H3 (fun v H' => Dp K H' v (.list ((there ts n).map .int))) :=
        ep_call (P := fun vs H' => vs = [.ref d, .int n]) (ea_epa (ea_two (ev_var g0) (ev_var g5)) fun _ _ => rfl) (fun vs H1 e p Q q => ⟨d, n, ts, t, by rw [p] <;> rfl, (hdH.ex e3).ex e, ok, ht, fun v H2 e2 hv => q v H2 e2 hv.dp⟩)
      have hin := en_lc (K := K) (g := gName 6) (tt := tTest (tOp (rIn K false) (tVar 6) (tVar 2))) (te := tVar 6) (vs := [6]) (there ts n) PyData.int (fun m => S.contains m) PyData.int (ei_list hc) (by have := there_len ok n; omega) (fun _ _ => rfl) (fun m hm x H5 e5 hx => by
        rw [dp_int hx]
        exact fun H6 e6 Q q => gp_name H6 e6 Q fun σ' hs => q σ' (by
          subst hs
          have k6 : ((wipe σ5 [6]).set 6 (some (V.int m)))[6]? = some (some (.int m)) := by rw [List.getElem?_set_self (by simp [wipe, gl])]
          have k2 : ((wipe σ5 [6]).set 6 (some (V.int m)))[2]? = some (some (.ref l)) := by
            rw [List.getElem?_set_ne (by decide)]
            simp only [wipe]
            rw [List.getElem?_set_ne (by decide)]
            exact g2
          exact ⟨by simp [wipe], et_test (ev_inLD (ev_var k6) (ed_var k2 (dp_lstOf (sq_of (e5 l _ (e3 l _ hl)))))), fun _ => ed_var k6 (.int m)⟩))
      have hz : decide ((there ts n).filter (fun m => S.contains m) = []) = decide (cnt ts S n = 0) := by
        unfold cnt inL
        cases (there ts n).filter (fun m => S.contains m) with
        | nil => rfl
        | cons x xs =>
          rw [decide_eq_false, decide_eq_false]
          · intro z
            simp at z
            omega
          · intro z; cases z
      have hfin := et_is (et_test (ev_eqNil (EvP.imp hin fun _ _ _ z => z.dp))) hz
      subst hσ5
      exact hfin
    obtain ⟨r, rfl, nr, hr3⟩ := hv3.ints
    have u4 : (σ1.set 4 (some (.ref r)))[4]? = some (some (.ref r)) := by rw [List.getElem?_set_self (by omega)]
    have uk : ∀ k, k ≠ 4 → (σ1.set 4 (some (.ref r)))[k]? = σ1[k]? := fun k hk => by rw [List.getElem?_set_ne (Ne.symm hk)]
    have u0 := (uk 0 (by decide)).trans t0
    have u1 := (uk 1 (by decide)).trans t1
    have u2 := (uk 2 (by decide)).trans t2
    have ul : (σ1.set 4 (some (.ref r))).length = 7 := by simpa using tl
    generalize σ1.set 4 (some (V.ref r)) = σ2 at u4 u0 u1 u2 ul ⊢
    have nrp : r ≠ p := Ne.symm (ne_of_none hp nr)
    refine q_when (et_test (ev_eqNil (ed_var u4 (dp_lstOf (sq_of hr3))))) (fun hb H4 e4 => ?_) (fun hb H4 e4 => ?_)
    · have hrd : readyL ts (ordS ts i).2 = [] := by rw [hO]; exact of_decide_eq_true hb
      have hfin := ordS_fin hrd (by omega)
      refine s_break ?_
      dsimp only
      refine ret σ2 H4 l ?_
      rw [hfin, hO]
      exact ⟨ul, u0, u1, u2, (eH.trans e3).trans e4, e4 p _ (e3 p _ hp), e4 l _ (e3 l _ hl), nlp, nlH⟩
    · have hrd : readyL ts S ≠ [] := of_decide_eq_false hb
      obtain ⟨m, ms, hm⟩ : ∃ m ms, readyL ts S = m :: ms := by
        cases q : readyL ts S with
        | nil => exact absurd q hrd
        | cons m ms => exact ⟨m, ms, rfl⟩
      have hstep : ordS ts (i + 1) = (F ++ [m], dropE S m) := by
        have := ordS_step (ts := ts) (k := i) (r := m) (rs := ms) (by rw [hO]; exact hm)
        rw [this, hO]
      have hat : atI ((readyL ts S).map V.int) 0 = some (.int m) := by rw [hm]; exact atI_nat (j := 0) rfl
      have hr4 := e4 r _ hr3
      refine q_app (e4 p _ (e3 p _ hp)) (ev_var u1) (ev_op (ev_var u4) ev_c (rv_ixL (sq_of hr4) hat)) (by rw [List.length_map]; omega) fun H5 e5 => ?_
      have eH5 : Ex H (upd H5 p (.lst (F.map V.int ++ [.int m]))) := (((eH.trans e3).trans e4).trans e5).mut np
      have hp5 : (upd H5 p (.lst (F.map V.int ++ [.int m]))) p = some (.lst ((F ++ [m]).map V.int)) := by rw [upd_same, List.map_append] <;> rfl
      have hl5 : (upd H5 p (.lst (F.map V.int ++ [.int m]))) l = some (.lst (S.map V.int)) := by rw [upd_ne nlp]; exact e5 l _ (e4 l _ (e3 l _ hl))
      have hr5 : (upd H5 p (.lst (F.map V.int ++ [.int m]))) r = some (.lst ((readyL ts S).map V.int)) := by rw [upd_ne nrp]; exact e5 r _ hr4
      generalize upd H5 p (.lst (F.map V.int ++ [.int m])) = H6 at eH5 hp5 hl5 hr5 ⊢
      refine s_asgP (P := NewD K H6 ((dropE S m).map .int)) ?_ (fun v7 H7 e7 hv7 => ?_)
      · refine en_lc (K := K) S PyData.int (fun n => decide (n ≠ m)) PyData.int (ei_list (ed_var u2 (dp_lstOf (sq_of hl5)))) (by omega) (fun _ _ => rfl) (fun n hn x H8 e8 hx => ?_)
        rw [dp_int hx]
        refine fun H9 e9 Q q => gp_name H9 e9 Q fun σ' hs => q σ' ?_
        subst hs
        have g5 : ((wipe σ2 [5]).set 5 (some (V.int n)))[5]? = some (some (.int n)) := by rw [List.getElem?_set_self (by simp [wipe, ul])]
        have g4 : ((wipe σ2 [5]).set 5 (some (V.int n)))[4]? = some (some (.ref r)) := by
          rw [List.getElem?_set_ne (by decide)]
          simp only [wipe]
          rw [List.getElem?_set_ne (by decide)]
          exact u4
        refine ⟨by simp [wipe], et_is (et_test (ev_op (ev_var g5) (ev_op (ev_var g4) ev_c (rv_ixL (sq_of (e8 r _ hr5)) hat)) (rv_ne rfl))) ?_, fun _ => ed_var g5 (.int n)⟩
        by_cases z : n = m <;> simp [z]
      · obtain ⟨l2, rfl, nl2, hl2⟩ := hv7.ints
        refine ⟨l2, ?_⟩
        rw [hstep]
        exact ⟨by simpa using ul, by rw [List.getElem?_set_ne (by decide)]; exact u0, by rw [List.getElem?_set_ne (by decide)]; exact u1, by rw [List.getElem?_set_self (by omega)], eH5.trans e7, e7 p _ hp5, hl2, Ne.symm (ne_of_none hp5 nl2), fresh_back eH5 nl2⟩
  · have : ((kvs.length : Int)).toNat = ts.length := by omega
    rw [this] at I
    obtain ⟨l, I⟩ := I
    exact ret σ' H' l I
theorem sc__law_come : FnScope ["_law_things", "_law_starts", "_law_found", "_law_turn", "_law_more", "_law_name"] ["_law_things", "_law_starts"] (defScope (top 51)) := ⟨rfl, rfl, rfl, by decide +kernel, rfl, by decide +kernel, by decide +kernel⟩
theorem cal__law_come (T : Tx K mg) (c__law_there : Cal P w K mg base "_law_there" 5 ["_law_things", "_law_name"] (spLThere K)) : Cal P w K mg base "_law_come" 6 ["_law_things", "_law_starts"] (spLCome K) := by
  obtain ⟨f, fd, F, hm⟩ := T.fn 33 "_law_come" (top 51) rfl
  refine cal_of F hm (fun _ _ _ _ _ _ us hl => match us, hl with | [_, _], _ => rfl) (F.ok sc__law_come (fun vs H Q E h => by obtain ⟨_, _, _, _,  rfl, _⟩ := h <;> rfl) (fun cdv A outer s H vs Q E hr h => ⟨_, PSs.nox (pss_cons (ps_set (i := 2) sc__law_come.nd rfl (.inl rfl) (pe_callB (cr_sortedSet rfl) rfl (T.fr "sorted" (by decide)) boot_sorted (pa_cons (pe_callTy (call_setI rfl) rfl (T.fr "set" (by decide)) boot_set (pa_cons (pv 1) pa_nil)) pa_nil)))
      (pss_cons (ps_for PassesOwn.never rfl (pi_range1 (by rfl) (T.fr "range" (by decide)) (pa_cons (pe_callB call_lenD rfl (T.fr "len" (by decide)) boot_len (pa_cons (pv 0) pa_nil)) pa_nil)) (pg_name (i := 3) sc__law_come.nd rfl (.inl rfl)) (pss_cons (ps_set (i := 4) sc__law_come.nd rfl (.inl rfl) (pv 2))
      (pss_cons (ps_for PassesOwn.never rfl (pi_list (pv 2)) (pg_name (i := 5) sc__law_come.nd rfl (.inl rfl)) (pss_one (ps_set (i := 4) sc__law_come.nd rfl (.inl rfl) (pe_op op_cat (pv 4) (pe_cal c__law_there (hr.mono (by decide)) rfl (pa_cons (pv 0) (pa_cons (pv 5) pa_nil)))))))
      (pss_one (ps_set (i := 2) sc__law_come.nd rfl (.inl rfl) (pe_callB (cr_sortedSet rfl) rfl (T.fr "sorted" (by decide)) boot_sorted (pa_cons (pe_callTy (call_setI rfl) rfl (T.fr "set" (by decide)) boot_set (pa_cons (pv 4) pa_nil)) pa_nil)))))))
      (pss_one (ps_ret (pe_callTy call_tuple_of rfl (T.fr "tuple" (by decide)) boot_tuple (pa_cons (pv 2) pa_nil)))))), ?_⟩))
  obtain ⟨d, st, ts, ns, rfl, hd, ok, hs, hn9, hsub, hQ⟩ := h
  have l9 := ok.len
  refine q_asgP (P := NewD K H ((rounds ts ns 0).map .int)) (en_sortSet (K := K) (ed_var (n := 1) rfl (dp_lstOf hs)) (by omega)) (fun v1 H1 e1 hv1 => ?_)
  obtain ⟨l, rfl, nl, hl1⟩ := hv1.ints
  obtain ⟨kvs, hk1, hk2⟩ := (hd.ex e1).len
  refine Evl.q_forR1 (n := (kvs.length : Int)) (ea_one (ev_lenK (ev_var rfl) hk1)) (by omega) (fun i σ' H' => σ'.length = 6 ∧ σ'[0]? = some (some (.ref d)) ∧ Ex H H' ∧ ∃ l, σ'[2]? = some (some (.ref l)) ∧ H' l = some (.lst ((rounds ts ns i).map V.int))) (fun H3 e3 => ⟨rfl, rfl, e1.trans e3, l, rfl, e3 l _ hl1⟩) (fun i σ' H' hi I => ?_) (fun σ' H' I => ?_)
  · clear hv1 hl1 nl
    clear l
    obtain ⟨s6, s0, eH, l, s2, hl⟩ := I
    have hdH := hd.r.ex eH
    have t0 : (σ'.set 3 (some (.int (i : Int))))[0]? = some (some (.ref d)) := by rw [List.getElem?_set_ne (by decide)]; exact s0
    have t2 : (σ'.set 3 (some (.int (i : Int))))[2]? = some (some (.ref l)) := by rw [List.getElem?_set_ne (by decide)]; exact s2
    have tl : (σ'.set 3 (some (.int (i : Int)))).length = 6 := by simpa using s6
    generalize σ'.set 3 (some (V.int (i : Int))) = σ1 at t0 t2 tl ⊢
    have hnm : ∀ x ∈ rounds ts ns i, x ∈ names ts := fun x hx => reach_names hsub (rounds_re i x hx)
    have lS : (rounds ts ns i).length ≤ 9 := by
      have := nodup_len (rounds_asc ts ns i).nodup hnm
      simp only [names, List.length_map] at this
      omega
    have hnext : rounds ts ns (i + 1) = round ts (rounds ts ns i) := rfl
    rw [hnext]
    generalize rounds ts ns i = S at hl hnm lS
    refine q_asgP (P := fun v H1 => v = .ref l ∧ H1 l = some (.lst (S.map V.int))) (ep_ev (ev_var t2) fun H1 e1 => ⟨rfl, e1 l _ hl⟩) (fun v2 H2 e2 hv2 => ?_)
    obtain ⟨rfl, hl2⟩ := hv2
    have flen : ∀ j : Nat, ((S.take j).flatMap (there ts)).length ≤ 3 * j := fun j => by
      have h1 : ∀ xs : List Int, (xs.flatMap (there ts)).length ≤ 3 * xs.length := fun xs => by
        induction xs with
        | nil => simp
        | cons x xs ih =>
          have := there_len ok x
          simp only [List.flatMap_cons, List.length_append, List.length_cons]
          omega
      have := h1 (S.take j)
      rw [List.length_take] at this
      omega
    refine Evl.q_forL (a := l) (xs := S.map V.int) (ev_var (by rw [List.getElem?_set_ne (by decide)]; exact t2)) (sq_of hl2) (fun j σ' H' => σ'.length = 6 ∧ σ'[0]? = some (some (.ref d)) ∧ Ex H H' ∧ σ'[2]? = some (some (.ref l)) ∧ H' l = some (.lst (S.map V.int)) ∧ ∃ m, σ'[4]? = some (some (.ref m)) ∧ H' m = some (.lst ((S ++ (S.take j).flatMap (there ts)).map V.int))) (fun H3 e3 => ⟨by simpa using tl, by rw [List.getElem?_set_ne (by decide)]; exact t0, (eH.trans e2).trans e3, by rw [List.getElem?_set_ne (by decide)]; exact t2, e3 l _ hl2, l, by rw [List.getElem?_set_self (by omega)], by simpa using e3 l _ hl2⟩) (fun j σ' H' _ z => sq_of z.2.2.2.2.1) (fun j x σ' H' hx I => ?_) (fun σ' H' I => ?_)
    · obtain ⟨u6, u0, eH', u2, hl', m, u4, hm⟩ := I
      obtain ⟨n, hn, rfl⟩ : ∃ n, S[j]? = some n ∧ V.int n = x := by simpa using hx
      have hj := (List.getElem?_eq_some_iff.mp hn).1
      refine g_name ?_
      obtain ⟨t, ht⟩ := thOf_some (hnm n (List.mem_of_getElem? hn))
      have g5 : (σ'.set 5 (some (.int n)))[5]? = some (some (.int n)) := by rw [List.getElem?_set_self (by omega)]
      have gk : ∀ k, k ≠ 5 → (σ'.set 5 (some (.int n)))[k]? = σ'[k]? := fun k hk => by rw [List.getElem?_set_ne (Ne.symm hk)]
      have gl : (σ'.set 5 (some (.int n))).length = 6 := by simpa using u6
      have g0 := (gk 0 (by decide)).trans u0
      have g2 := (gk 2 (by decide)).trans u2
      have g4 := (gk 4 (by decide)).trans u4
      generalize σ'.set 5 (some (V.int n)) = σ5 at g5 g0 g2 g4 gl ⊢
      have hc : EvP (tCall (spLThere K) [] E0 (tCons (tVar 0) (tCons (tVar 5) tNil))) σ5 H' (LsD K ((there ts n).map .int)) :=
        ep_call (P := fun vs H' => vs = [.ref d, .int n]) (ea_epa (ea_two (ev_var g0) (ev_var g5)) fun _ _ => rfl) (fun vs H1 e p Q q => ⟨d, n, ts, t, by rw [p] <;> rfl, (hd.r.ex eH').ex e, ok, ht, fun v H2 e2 hv => q v H2 e2 hv.ls⟩)
      have hl3 := there_len ok n
      have hfl := flen j
      refine s_asgP (P := LsD K ((S ++ (S.take (j + 1)).flatMap (there ts)).map .int)) (EvP.imp (en_cat (K := K) (ds := (S ++ (S.take j).flatMap (there ts)).map .int) (es := (there ts n).map .int) (ep_ev (ev_var g4) fun H6 e6 => ⟨m, _, rfl, e6 m _ hm, dpA_ints _⟩) hc (by simp only [List.length_map, List.length_append]; omega)) fun v H6 _ z => ?_) (fun v7 H7 e7 hv7 => ?_)
      · have z := z.ls
        rw [← List.map_append, List.append_assoc] at z
        rw [List.take_add_one, hn]
        simpa using z
      · obtain ⟨m7, xs7, rfl, h7, d7⟩ := hv7
        rw [ints_dpA d7] at h7
        exact ⟨by simpa using gl, by rw [List.getElem?_set_ne (by decide)]; exact g0, eH'.trans e7, by rw [List.getElem?_set_ne (by decide)]; exact g2, e7 l _ hl', m7, by rw [List.getElem?_set_self (by omega)], h7⟩
    · obtain ⟨u6, u0, eH', u2, hl', m, u4, hm⟩ := I
      rw [List.length_map, List.take_length] at hm
      have hfl := flen S.length
      rw [List.take_length] at hfl
      refine s_asgP (P := NewD K H' ((round ts S).map .int)) (en_sortSet (K := K) (ns := S ++ S.flatMap (there ts)) (ed_var u4 (dp_lstOf (sq_of hm))) (by rw [List.length_append]; omega)) (fun v7 H7 e7 hv7 => ?_)
      obtain ⟨l7, rfl, nl7, hl7⟩ := hv7.ints
      exact ⟨by simpa using u6, by rw [List.getElem?_set_ne (by decide)]; exact u0, eH'.trans e7, l7, by rw [List.getElem?_set_self (by omega)], hl7⟩
  · have : ((kvs.length : Int)).toNat = ts.length := by omega
    rw [this] at I
    obtain ⟨s6, s0, eH, l, s2, hl⟩ := I
    exact s_retR (D := { nx := fun x H' => Q V.non H', rt := Q }) (P := fun v H' => Dp K H' v (intsD (rounds ts ns ts.length))) (ed_tupL (ds := (rounds ts ns ts.length).map .int) (ed_var s2 (dp_lstOf (sq_of hl)))) (fun v H3 e3 z => hQ v H3 (eH.trans e3) z)
theorem sc__law_deep : FnScope ["_law_things", "_law_order_here", "_law_found", "_law_name", "_law_link"] ["_law_things", "_law_order_here"] (defScope (top 52)) := ⟨rfl, rfl, rfl, by decide +kernel, rfl, by decide +kernel, by decide +kernel⟩
theorem cal__law_deep (T : Tx K mg) (c__law_there : Cal P w K mg base "_law_there" 5 ["_law_things", "_law_name"] (spLThere K)) : Cal P w K mg base "_law_deep" 6 ["_law_things", "_law_order_here"] (spLDeep K) := by
  obtain ⟨f, fd, F, hm⟩ := T.fn 34 "_law_deep" (top 52) rfl
  refine cal_of F hm (fun _ _ _ _ _ _ us hl => match us, hl with | [_, _], _ => rfl) (F.ok sc__law_deep (fun vs H Q E h => by obtain ⟨_, _, _,  rfl, _⟩ := h <;> rfl) (fun cdv A outer s H vs Q E hr h => ⟨_, PSs.nox (pss_cons (ps_set (i := 2) sc__law_deep.nd rfl (.inr rfl) pe_dnewK)
      (pss_cons (ps_for PassesOwn.never rfl (pi_list (pv 1)) (pg_name (i := 3) sc__law_deep.nd rfl (.inl rfl)) (pss_one (ps_dput (hu_of hr) (pv 2) (pv 3) (pe_callB (cr_max rfl) rfl (T.fr "max" (by decide)) boot_max (pa_cons (pe_op op_cat (pe_lst (pa_cons pe_int pa_nil)) (pe_lc (own := [("_law_link", 4)]) (g := (gName 4)) (tt := tYes) (te := (tOp _ (tDGet (tVar 2) (tVar 4)) (tC (.int 1)))) rfl sc__law_deep.nd (pi_list (pe_cal c__law_there (hr.mono (by decide)) rfl (pa_cons (pv 0) (pa_cons (pv 3) pa_nil)))) (blkOk_by (N := ["_law_things", "_law_order_here", "_law_found", "_law_name", "_law_link"]) (sc := defScope (top 52)) (by decide +kernel)) (fun _ _ _ _ _ => (pg_name (i := 4) sc__law_deep.nd rfl (.inl rfl))) (fun _ _ _ _ _ => pts_nil) (fun _ _ _ _ _ => (pe_op op_add (pe_dget (hu_of hr) (pv 2) (pv 4) (fun _ _ => rfl)) pe_int)))) pa_nil)) rfl)))
      (pss_one (ps_ret (pe_callTy call_tuple_of rfl (T.fr "tuple" (by decide)) boot_tuple (pa_cons (pe_lc (own := [("_law_name", 3)]) (g := (gName 3)) (tt := tYes) (te := (tTup (tCons (tVar 3) (tCons (tDGet (tVar 2) (tVar 3)) tNil)))) rfl sc__law_deep.nd (pi_list (pe_callB (call_sortedDI rfl) rfl (T.fr "sorted" (by decide)) boot_sorted (pa_cons (pv 0) pa_nil))) (blkOk_by (N := ["_law_things", "_law_order_here", "_law_found", "_law_name", "_law_link"]) (sc := defScope (top 52)) (by decide +kernel)) (fun _ _ _ _ _ => (pg_name (i := 3) sc__law_deep.nd rfl (.inl rfl))) (fun _ _ _ _ _ => pts_nil) (fun _ _ _ _ _ => (pe_tup (pa_cons (pv 3) (pa_cons (pe_dget (hu_of hr) (pv 2) (pv 3) (fun _ _ => rfl)) pa_nil))))) pa_nil)))))), ?_⟩))
  obtain ⟨d, o, ts, rfl, hd, ok, hs, hS, hQ⟩ := h
  have l9 := ok.len
  intro p np
  have e0 : Ex H (upd H p (.dK [])) := Ex.new np
  have fO := finOk ts
  have hF9 : (fin ts).1.length ≤ 9 := by
    have := nodup_len fO.nd fun x hx => (fin_names hS x).1 hx
    simp only [names, List.length_map] at this
    omega
  refine Evl.q_forL (a := o) (xs := (fin ts).1.map V.int) (ev_var rfl) (ex_l e0 hs) (fun i σ' H' => σ'.length = 5 ∧ σ'[0]? = some (some (.ref d)) ∧ σ'[2]? = some (some (.ref p)) ∧ Ex H H' ∧ H' p = some (.dK (dI ((fin ts).1.take i) (depF ts ((fin ts).1.take i))))) (fun H1 e1 => ⟨rfl, rfl, rfl, e0.trans e1, e1 p _ upd_same⟩) (fun i σ' H' _ z => ex_l z.2.2.2.1 hs) (fun i x σ' H' hx hI => ?_) (fun σ' H' hI => ?_)
  · obtain ⟨s4, s0, s1, eH, hp⟩ := hI
    obtain ⟨n, hn, rfl⟩ : ∃ n, (fin ts).1[i]? = some n ∧ V.int n = x := by simpa using hx
    have hi := (List.getElem?_eq_some_iff.mp hn).1
    have hnN : n ∈ names ts := (fin_names hS n).1 (List.mem_of_getElem? hn)
    obtain ⟨t, ht⟩ := thOf_some hnN
    have hnew : n ∉ (fin ts).1.take i := take_notin fO.nd hn
    have hpre : ∀ l ∈ there ts n, l ∈ (fin ts).1.take i := by
      refine fO.pre _ n ((fin ts).1.drop (i + 1)) ?_
      have e := (List.getElem?_eq_some_iff.mp hn).2
      rw [← e, List.getElem_cons_drop, List.take_append_drop]
    refine g_name ?_
    have t2 : (σ'.set 3 (some (.int n)))[3]? = some (some (.int n)) := by rw [List.getElem?_set_self (by omega)]
    have tk : ∀ k, k ≠ 3 → (σ'.set 3 (some (.int n)))[k]? = σ'[k]? := fun k hk => by rw [List.getElem?_set_ne (Ne.symm hk)]
    have tl : (σ'.set 3 (some (.int n))).length = 5 := by simpa using s4
    have t0 := (tk 0 (by decide)).trans s0
    have t1 := (tk 2 (by decide)).trans s1
    generalize σ'.set 3 (some (V.int n)) = σ2 at t2 tl t0 t1 ⊢
    have hc : EvP (tCall (spLThere K) [] E0 (tCons (tVar 0) (tCons (tVar 3) tNil))) σ2 H' (fun v H' => Dp K H' v (.list ((there ts n).map .int))) :=
      ep_call (P := fun vs H' => vs = [.ref d, .int n]) (ea_epa (ea_two (ev_var t0) (ev_var t2)) fun _ _ => rfl) (fun vs H1 e z Q q => ⟨d, n, ts, t, by rw [z] <;> rfl, (hd.r.ex eH).ex e, ok, ht, fun v H2 e2 hv => q v H2 e2 hv.dp⟩)
    have hmap := en_map (K := K) (g := gName 4) (te := tOp (rI0 fun i j => V.int (i + j)) (tDGet (tVar 2) (tVar 4)) (tC (V.int 1))) (vs := [4]) (there ts n) PyData.int (fun l => .int (depF ts ((fin ts).1.take i) l + 1)) (ei_list hc) (by have := there_len ok n; omega) (fun _ _ => rfl) (fun l hl x H2 e2 hx => by
      rw [dp_int hx]
      exact fun H3 e3 Q q => gp_name H3 e3 Q fun σ3 hs => q σ3 (by
        subst hs
        have g3 : ((wipe σ2 [4]).set 4 (some (V.int l)))[4]? = some (some (.int l)) := by rw [List.getElem?_set_self (by simp [wipe, tl])]
        have g1 : ((wipe σ2 [4]).set 4 (some (V.int l)))[2]? = some (some (.ref p)) := by
          rw [List.getElem?_set_ne (by decide)]
          simp only [wipe]
          rw [List.getElem?_set_ne (by decide)]
          exact t1
        exact ⟨by simp [wipe], edI (ev_op (ev_dI (ev_var g1) (ev_var g3) (.inl (e2 p _ hp)) (hpre l hl)) ev_c rv_I0)⟩))
    have hcat := en_cat (K := K) (ds := [.int 0]) (EvP.imp (en_lst (K := K) (ta := tCons (tC (.int 0)) tNil) (eds_cons ed_int eds_nil) (by simp)) fun _ _ _ z => z.ls) (EvP.imp hmap fun _ _ _ z => z.ls) (by have := there_len ok n; simp; omega)
    have hmx := ev_maxL (K := K) (xs := (there ts n).map fun l => depF ts ((fin ts).1.take i) l + 1) (EvP.imp hcat fun v H3 _ z => by
      have := z.dp
      rw [List.map_cons, List.map_map]
      exact this)
    have hl9 : (dI ((fin ts).1.take i) (depF ts ((fin ts).1.take i))).length < 100000 := by
      rw [dI_len, List.length_take]
      omega
    refine s_dput (ev_var t1) (k := Sum.inl n) (ev_var t2) hmx hp hl9 (fun H3 e3 => ⟨tl, t0, t1, (eH.trans e3).mut np, ?_⟩)
    rw [upd_same, dI_new hnew, depF_take hn]
    rw [List.take_add_one, hn] <;> rfl
  · obtain ⟨s4, s0, s1, eH, hp⟩ := hI
    rw [List.length_map, List.take_length] at hp
    refine s_retR (D := { nx := fun _ H' => Q .non H', rt := Q }) (P := fun v H' => Dp K H' v (depsD ts)) (ed_tupL (ds := (deps ts).map pairD) ?_) (fun v H2 e2 z => hQ v H2 (eH.trans e2) z)
    have nmlen : (norm (names ts)).length ≤ 9 := by
      have h1 := norm_len (names ts)
      have e : (names ts).length = ts.length := by simp [names]
      omega
    have hmap := en_map (K := K) (g := gName 3) (te := tTup (tCons (tVar 3) (tCons (tDGet (tVar 2) (tVar 3)) tNil))) (vs := [3]) (norm (names ts)) PyData.int (fun n => pairD (n, depF ts (fin ts).1 n)) (ei_list (EvP.imp (en_sortTh (K := K) (σ := σ') (ev_var s0) (hd.ex eH) ok) fun _ _ _ z => z.dp)) (by omega) (fun _ _ => rfl) (fun n hn x H2 e2 hx => by
      rw [dp_int hx]
      exact fun H3 e3 Q q => gp_name H3 e3 Q fun σ3 hs => q σ3 (by
        subst hs
        have g3 : ((wipe σ' [3]).set 3 (some (V.int n)))[3]? = some (some (.int n)) := by rw [List.getElem?_set_self (by simp [wipe, s4])]
        have g1 : ((wipe σ' [3]).set 3 (some (V.int n)))[2]? = some (some (.ref p)) := by
          rw [List.getElem?_set_ne (by decide)]
          simp only [wipe]
          rw [List.getElem?_set_ne (by decide)]
          exact s1
        exact ⟨by simp [wipe], ed_tup (eds_cons (ed_var g3 (.int n)) (eds_cons (edI (ev_dI (ev_var g1) (ev_var g3) (.inl (e2 p _ hp)) ((fin_names hS n).2 (mem_norm.mp hn)))) eds_nil)) (by simp)⟩))
    have hdp := EvP.imp (R := fun v H' => Dp K H' v (.list ((deps ts).map pairD))) hmap fun v H' _ z => by
      have := z.dp
      unfold deps
      rw [List.map_map]
      exact this
    exact hdp
end
end Kw
end
section
/-! KwE13: the box of the draws changes; what is drawn. -/
namespace Kw
open PySem PySem.Spec PyProof.Rows L2 Evl
def BoxA (H : Hp) (b : Addr) : Prop := ∃ g s : Int, H b = some (.lst [.int g, .int s])
structure RB (b : Addr) (H H' : Hp) : Prop where
  ex : Ex (del H b) H'
  box : BoxA H' b
theorem RB.at {b : Addr} {H H' : Hp} (r : RB b H H') {a : Addr} {o : HO} (h : H a = some o) (ne : a ≠ b) : H' a = some o := exd_at r.ex h ne
theorem RB.trans {b : Addr} {H H1 H2 : Hp} (r : RB b H H1) (r2 : RB b H1 H2) : RB b H H2 := ⟨fun a o h => by
  by_cases e : a = b
  · rw [e, del_same] at h
    cases h
  · rw [del_ne e] at h
    exact r2.at (r.at h e) e, r2.box⟩
theorem RB.of {b : Addr} {H H' : Hp} (hb : BoxA H b) (e : Ex H H') : RB b H H' := ⟨exd_of e, by
  obtain ⟨g, s, h⟩ := hb
  exact ⟨g, s, e b _ h⟩⟩
theorem RB.refl {b : Addr} {H : Hp} (hb : BoxA H b) : RB b H H := RB.of hb (Ex.refl H)
theorem RB.ext {b : Addr} {H H1 H2 : Hp} (r : RB b H H1) (e : Ex H1 H2) : RB b H H2 := r.trans (RB.of r.box e)
theorem BoxA.nt {b : Addr} {H : Hp} (hb : BoxA H b) : ∀ ys, ¬ Rd H b (.tup ys) := by
  obtain ⟨g, s, h⟩ := hb
  exact nrd_lst h
theorem RB.tk {b : Addr} {H H' : Hp} (hb : BoxA H b) (r : RB b H H') : TupK H H' := tk_del hb.nt r.ex
/-- an object of one's own, other than the box, may change -/
theorem RB.mut {b : Addr} {H H' : Hp} {p : Addr} {o : HO} (r : RB b H H') (hp : H p = none) (hb : BoxA H b) : RB b H (upd H' p o) := by
  have ne : b ≠ p := by
    obtain ⟨g, s, h⟩ := hb
    exact ne_of_none h hp
  refine ⟨r.ex.mut ?_, ?_⟩
  · unfold del
    split
    · rfl
    · exact hp
  · obtain ⟨g, s, h⟩ := r.box
    exact ⟨g, s, by rw [upd_ne ne]; exact h⟩
theorem RB.fresh {b : Addr} {H H' : Hp} {p : Addr} (r : RB b H H') (hb : BoxA H b) (h : H' p = none) : H p = none := by
  cases q : H p with
  | none => rfl
  | some o =>
    have ne : p ≠ b := fun z => by
      obtain ⟨g, s, hx⟩ := r.box
      rw [z, hx] at h
      cases h
    rw [r.at q ne] at h
    cases h
section
variable {K : PySem.W.Frag} {σ : L2.St} {b : Addr} {H H' H1 H2 : Hp} {ta tb te td ty tl : TE} {v : V} {S S' : PyData → Prop} {d : PyData}
theorem RB.dp (hb : BoxA H b) (r : RB b H H') (i : imm d = true) (h : Dp K H v d) : Dp K H' v d := dp_tk (r.tk hb) d v i h
theorem RB.dpA {ds : List PyData} {vs : List V} (hb : BoxA H b) (r : RB b H H') (i : immA ds = true) (h : DpAll K H vs ds) : DpAll K H' vs ds := dpA_tk (r.tk hb) ds vs i h
/-- the value is data of S -/
def EvS (K : PySem.W.Frag) (b : Addr) (te : TE) (σ : L2.St) (H : Hp) (S : PyData → Prop) : Prop := ∀ H1, RB b H H1 → ∀ Q : VK, (∀ v H2 d, RB b H1 H2 → S d → imm d = true → Dp K H2 v d → Q v H2) → te σ H1 Q
def EvSA (K : PySem.W.Frag) (b : Addr) (ta : TA) (σ : L2.St) (H : Hp) (S : List PyData → Prop) : Prop := ∀ H1, RB b H H1 → ∀ Q : List V → Hp → Prop, (∀ vs H2 ds, RB b H1 H2 → S ds → immA ds = true → DpAll K H2 vs ds → Q vs H2) → ta σ H1 Q
theorem EvS.imp (h : EvS K b te σ H S) (k : ∀ d, S d → S' d) : EvS K b te σ H S' := fun H1 r Q q => h H1 r Q fun v H2 d r2 s i p => q v H2 d r2 (k d s) i p
theorem EvS.mono (r : RB b H H') (h : EvS K b te σ H S) : EvS K b te σ H' S := fun H1 r1 Q q => h H1 (r.trans r1) Q q
theorem es_of (h : ∀ H1, RB b H H1 → EvD K te σ H1 d) (s : S d) (i : imm d = true) : EvS K b te σ H S := fun H1 r Q q => h H1 r H1 (Ex.refl _) Q fun v H2 e p => q v H2 d (RB.of r.box e) s i p
theorem esA_nil : EvSA K b tNil σ H (fun ds => ds = []) := fun H1 r Q q => q [] H1 [] (RB.refl r.box) rfl rfl .nil
theorem esA_cons {tr : TA} {S2 S3 : List PyData → Prop} (h : EvS K b te σ H S) (hr : EvSA K b tr σ H S2) (k : ∀ d ds, S d → S2 ds → S3 (d :: ds)) : EvSA K b (tCons te tr) σ H S3 := fun H1 r Q q =>
  h H1 r _ fun v H2 d r2 s i p => hr H2 (r.trans r2) _ fun vs H3 ds r3 s2 i2 ps => q (v :: vs) H3 (d :: ds) (r2.trans r3) (k d ds s s2) (by simp [immA, i, i2]) (.cons (r3.dp r2.box i p) ps)
theorem es_tup {ta : TA} {SA : List PyData → Prop} (h : EvSA K b ta σ H SA) (hl : ∀ ds, SA ds → ds.length ≤ 1000) (k : ∀ ds, SA ds → S (.tuple ds)) : EvS K b (tTup ta) σ H S := fun H1 r Q q =>
  h H1 r _ fun vs H2 ds r2 s i p => ⟨sz_of (by rw [dpA_len p]; have := hl ds s; omega), fun a na => q (.ref a) _ (.tuple ds) (r2.ext (Ex.new na)) (k ds s) (by simpa [imm] using i) (.tup (st_of upd_same) (dpA_ex (Ex.new na) _ _ p))⟩
/-- [e for j in range(t)] -/
theorem es_lcR {j : Nat} {n : Nat} (h : EvS K b ta σ H fun d => ∃ i : Int, d = .int i ∧ 0 ≤ i ∧ i < (n : Int)) (hn : n ≤ 1000) (hw : ∀ x, wipe ((wipe σ [j]).set j (some x)) [j] = wipe σ [j])
    (he : ∀ (i : Nat) H1, RB b H H1 → i + 1 < n → EvS K b te ((wipe σ [j]).set j (some (.int (i : Int)))) H1 S) :
    ∀ H1, RB b H H1 → ∀ Q : VK, (∀ v H2, RB b H1 H2 → (∃ p xs ds, v = .ref p ∧ H1 p = none ∧ H2 p = some (.lst xs) ∧ DpAll K H2 xs ds ∧ immA ds = true ∧ ds.length < n ∧ ∀ d ∈ ds, S d) → Q v H2) → tLc (iRng1 (tCons ta tNil)) (gName j) tYes te [j] σ H1 Q := fun H1 r Q q =>
  h H1 r _ fun v H2 d r2 s i p => by
    obtain ⟨m, rfl, m0, m1⟩ := s
    have : v = .int m := dp_int p
    subst this
    obtain ⟨k, rfl⟩ : ∃ k : Nat, m = (k : Int) := ⟨m.toNat, by omega⟩
    have hk : k < n := by omega
    refine ⟨(k : Int), rfl, by omega, by omega, fun Dl hD => ?_⟩
    have nDb : Dl ≠ b := Ne.symm (by
      obtain ⟨g, s, hx⟩ := r2.box
      exact ne_of_none hx hD)
    refine lc_range (lo := 0) (n := (k : Int).toNat) (fun i H' => RB b H2 H' ∧ ∃ xs ds, H' Dl = some (.lst xs) ∧ DpAll K H' xs ds ∧ immA ds = true ∧ ds.length = i ∧ ∀ d ∈ ds, S d) ⟨RB.of r2.box (Ex.new hD), [], [], upd_same, .nil, rfl, rfl, fun d hd => by cases hd⟩ (fun i H' hi pI => ?_) (fun H' pI => ?_)
    · obtain ⟨r3, xs, ds, h1, h2, h3, h4, h5⟩ := pI
      have e0 : (0 : Int) + (i : Int) = (i : Int) := Int.zero_add _
      show wipe ((wipe σ [j]).set j (some (.int ((0 : Int) + (i : Int))))) [j] = wipe σ [j] ∧ tYes ((wipe σ [j]).set j (some (.int ((0 : Int) + (i : Int))))) H' _
      rw [e0]
      refine ⟨hw _, ?_⟩
      show te ((wipe σ [j]).set j (some (.int (i : Int)))) H' _
      refine he i H' ((r.trans r2).trans r3) (by omega) H' (RB.refl r3.box) _ fun y H4 d r4 sd id pd => ?_
      have lx := dpA_len h2
      refine ⟨xs, r4.at h1 nDb, sz_lt (by omega), (r3.trans r4).mut hD r2.box, xs ++ [y], ds ++ [d], upd_same, ?_, immA_app h3 (by simp [immA, id]), by simp [h4], fun e he => ?_⟩
      · refine dpA_tk (TupK.upd (nrd_lst (r4.at h1 nDb))) _ _ (immA_app h3 (by simp [immA, id])) (dpA_app (r4.dpA r3.box h3 h2) (dpA_one pd))
      · rcases List.mem_append.mp he with z | z
        · exact h5 e z
        · have : e = d := by simpa using z
          rw [this]
          exact sd
    · obtain ⟨r3, xs, ds, h1, h2, h3, h4, h5⟩ := pI
      exact q (.ref Dl) H' (r2.trans r3) ⟨Dl, xs, ds, rfl, r2.fresh r.box hD, h1, h2, h3, by omega, h5⟩
theorem cb1 {rr : List V → Hp → VK → Prop} {Q : VK} (h : te σ H fun v H1 => rr [v] H1 Q) : tCB rr (tCons te tNil) σ H Q := h
/-- tuple([e for j in range(t)]) -/
theorem es_tupLc {j : Nat} {n : Nat} (h : EvS K b ta σ H fun d => ∃ i : Int, d = .int i ∧ 0 ≤ i ∧ i < (n : Int)) (hn : n ≤ 1000) (hw : ∀ x, wipe ((wipe σ [j]).set j (some x)) [j] = wipe σ [j])
    (he : ∀ (i : Nat) H1, RB b H H1 → i + 1 < n → EvS K b te ((wipe σ [j]).set j (some (.int (i : Int)))) H1 S) :
    EvS K b (tCB (rTupS K) (tCons (tLc (iRng1 (tCons ta tNil)) (gName j) tYes te [j]) tNil)) σ H (fun d => ∃ ds, d = .tuple ds ∧ ds.length < n ∧ ∀ x ∈ ds, S x) := fun H1 r Q q =>
  cb1 (es_lcR h hn hw he H1 r _ fun v H2 r2 ⟨p, xs, ds, e1, _, e3, e4, e5, e6, e7⟩ => ⟨p, xs, by rw [e1] <;> rfl, .inl ⟨sq_of e3, fun l nl => q (.ref l) _ (.tuple ds) (r2.ext (Ex.new nl)) ⟨ds, rfl, e6, e7⟩ (by simpa [imm] using e5) (.tup (st_of upd_same) (dpA_ex (Ex.new nl) _ _ e4))⟩⟩)
theorem ints_of {P : Int → Prop} : ∀ {ds : List PyData}, (∀ d ∈ ds, ∃ i : Int, d = .int i ∧ P i) → ∃ ns : List Int, ds = ns.map .int ∧ ∀ n ∈ ns, P n
  | [], _ => ⟨[], rfl, fun n hn => by cases hn⟩
  | d :: ds, h => by
    obtain ⟨i, e, hi⟩ := h d List.mem_cons_self
    obtain ⟨ns, e2, hn⟩ := ints_of (P := P) fun x hx => h x (List.mem_cons_of_mem _ hx)
    refine ⟨i :: ns, by rw [e, e2] <;> rfl, fun n hm => ?_⟩
    rcases List.mem_cons.mp hm with z | z
    · rw [z]
      exact hi
    · exact hn n z
variable {D : Ends} {tz : TS} {n : Nat}
theorem q_asgS (h : EvS K b te σ H S) (hb : BoxA H b) (k : ∀ v H1 d, RB b H H1 → S d → imm d = true → Dp K H1 v d → tz D (σ.set n (some v)) H1) : tSeq (tAsg te (gName n)) tz D σ H := h H (RB.refl hb) _ k
theorem s_retS (h : EvS K b te σ H S) (hb : BoxA H b) (k : ∀ v H1 d, RB b H H1 → S d → imm d = true → Dp K H1 v d → D.rt v H1) : tRet te D σ H := h H (RB.refl hb) _ k
end
end Kw
end
section
/-! KwD12: _law_box, _law_take, _law_pick, _law_loose. -/
namespace Kw
open PySem PySem.Spec PyProof.Rows L2 Evl
def spBox (K : PySem.W.Frag) : Sp := fun vs H Q _ => ∃ (a : Addr) (k : Nat) (ns : List Int), vs = [.ref a, .int (k : Int)] ∧ SqL K H a (ns.map V.int) ∧ RetP H (fun v H' => ∃ b, v = .ref b ∧ H b = none ∧ BoxA H' b) Q
def spTake : Sp := fun vs H Q _ => ∃ (b : Addr) (m : Int), vs = [.ref b, .int m] ∧ BoxA H b ∧ 1 ≤ m ∧ m ≤ 1000 ∧ ∀ i H', RB b H H' → 0 ≤ i → i < m → Q (.int i) H'
/-- some is a list; what is picked is some item -/
def spPick (K : PySem.W.Frag) : Sp := fun vs H Q _ => ∃ (b m : Addr) (xs : List V), vs = [.ref b, .ref m] ∧ BoxA H b ∧ H m = some (.lst xs) ∧ m ≠ b ∧ xs ≠ [] ∧ xs.length ≤ 1000 ∧ ∀ v H', RB b H H' → v ∈ xs → Q v H'
def NamesOk (ns : List Int) : Prop := ns ≠ [] ∧ ns.length ≤ 20 ∧ ∀ n ∈ ns, 0 ≤ n ∧ n < 50
def spLoose (K : PySem.W.Frag) : Sp := fun vs H Q _ => ∃ (b m : Addr) (ns : List Int), vs = [.ref b, .ref m] ∧ BoxA H b ∧ H m = some (.lst (ns.map V.int)) ∧ m ≠ b ∧ NamesOk ns ∧ ∀ v H', RB b H H' → (∃ t : Th, t.Ok ∧ Dp K H' v (thD t)) → Q v H'
theorem ev_intB {σ : L2.St} {H : Hp} {te : TE} {k : Bool} (h : Ev te σ H (.bl k)) : Ev (tCB (fun xs H Q => (∃ i, xs = [V.int i] ∧ Q (V.int i) H) ∨ ∃ k, xs = [V.bl k] ∧ Q (V.int (if k = true then 1 else 0)) H) (tCons te tNil)) σ H (.int (if k = true then 1 else 0)) := fun H1 e Q q => h H1 e _ fun H2 e2 => .inr ⟨k, rfl, q H2 e2⟩
theorem ev_abs {σ : L2.St} {H : Hp} {te : TE} {i : Int} (h : Ev te σ H (.int i)) : Ev (tCB (fun xs H Q => ∃ i, xs = [V.int i] ∧ Q (V.int (if i < 0 then -i else i)) H) (tCons te tNil)) σ H (.int (if i < 0 then -i else i)) := fun H1 e Q q => h H1 e _ fun H2 e2 => ⟨i, rfl, q H2 e2⟩
theorem cmulL {i j : Int} (h : -(2 ^ 64) < i ∧ i < 2 ^ 64) : CMul i j := .inl h
theorem cmulR {i j : Int} (h : -(2 ^ 64) < j ∧ j < 2 ^ 64) : CMul i j := .inr h
/-- a list to pick from -/
def LsB (K : PySem.W.Frag) (b : Addr) (S : PyData → Prop) : PV := fun v H => ∃ m xs ds, v = .ref m ∧ H m = some (.lst xs) ∧ m ≠ b ∧ DpAll K H xs ds ∧ immA ds = true ∧ ds ≠ [] ∧ ds.length ≤ 1000 ∧ ∀ d ∈ ds, S d
theorem dpA_mem {K : PySem.W.Frag} {H : Hp} : ∀ {vs : List V} {ds : List PyData} {v : V}, DpAll K H vs ds → v ∈ vs → ∃ d ∈ ds, Dp K H v d
  | _, _, v, .nil, h => by cases h
  | _, _, v, .cons (v := u) (d := d) h t, hm => by
    rcases List.mem_cons.mp hm with e | e
    · rw [e]
      exact ⟨d, List.mem_cons_self, h⟩
    · obtain ⟨d2, h1, h2⟩ := dpA_mem t e
      exact ⟨d2, List.mem_cons_of_mem _ h1, h2⟩
theorem es_take {K : PySem.W.Frag} {σ : L2.St} {b : Addr} {H : Hp} {E : XK} {m : Int} (h0 : σ[0]? = some (some (.ref b))) (h1 : 1 ≤ m) (h2 : m ≤ 1000) : EvS K b (tCall spTake [] E (tCons (tVar 0) (tCons (tC (.int m)) tNil))) σ H (fun d => ∃ i : Int, d = .int i ∧ 0 ≤ i ∧ i < m) := fun H1 r Q q =>
  ⟨.ref b, h0, b, m, rfl, r.box, h1, h2, fun i H' r' g1 g2 => q (.int i) H' (.int i) r' ⟨i, rfl, g1, g2⟩ rfl (.int i)⟩
theorem es_pick {K : PySem.W.Frag} {σ : L2.St} {b : Addr} {H : Hp} {E : XK} {te : TE} {S : PyData → Prop} (h0 : σ[0]? = some (some (.ref b))) (h : ∀ H1, RB b H H1 → EvP te σ H1 (LsB K b S)) : EvS K b (tCall (spPick K) [] E (tCons (tVar 0) (tCons te tNil))) σ H S := fun H1 r Q q =>
  ⟨.ref b, h0, h H1 r H1 (Ex.refl _) _ fun v H2 e2 ⟨m, xs, ds, e, hm, nb, hd, him, hne, hl, hS⟩ => by
    have r2 := RB.of r.box e2
    have ll := dpA_len hd
    refine ⟨b, m, xs, by rw [e] <;> rfl, r2.box, hm, nb, fun z => hne (by rw [z] at ll; exact List.length_eq_zero_iff.mp ll.symm), by omega, fun v H' r' hv => ?_⟩
    obtain ⟨d, hd1, hd2⟩ := dpA_mem hd hv
    have id := immA_iff.mp him d hd1
    exact q v H' d (r2.trans r') (hS d hd1) id (r'.dp r2.box id hd2)⟩
/-- a list of names to pick from -/
theorem names_ls {K : PySem.W.Frag} {b m : Addr} {ns : List Int} {H : Hp} (h : NamesOk ns) (hm : H m = some (.lst (ns.map V.int))) (nb : m ≠ b) : LsB K b (fun d => ∃ i : Int, d = .int i ∧ i ∈ ns) (.ref m) H :=
  ⟨m, _, _, rfl, hm, nb, dpA_ints ns, immA_ints ns, by simpa using h.1, by have := h.2.1; rw [List.length_map]; omega, fun d hd => by
    obtain ⟨i, hi, rfl⟩ := List.mem_map.mp hd
    exact ⟨i, rfl, hi⟩⟩
def ThS (d : PyData) : Prop := ∃ t : Th, t.Ok ∧ d = thD t
theorem rows_of : ∀ {ds : List PyData}, (∀ d ∈ ds, ∃ r : Int × Int × Int, d = rowD r ∧ (97 ≤ r.1 ∧ r.1 < 100) ∧ (0 ≤ r.2.1 ∧ r.2.1 < 3) ∧ 0 ≤ r.2.2 ∧ r.2.2 < 50) → ∃ rs : List (Int × Int × Int), ds = rs.map rowD ∧ ∀ r ∈ rs, (97 ≤ r.1 ∧ r.1 < 100) ∧ (0 ≤ r.2.1 ∧ r.2.1 < 3) ∧ 0 ≤ r.2.2 ∧ r.2.2 < 50
  | [], _ => ⟨[], rfl, fun n hn => by cases hn⟩
  | d :: ds, h => by
    obtain ⟨i, e, hi⟩ := h d List.mem_cons_self
    obtain ⟨ns, e2, hn⟩ := rows_of fun x hx => h x (List.mem_cons_of_mem _ hx)
    refine ⟨i :: ns, by rw [e, e2] <;> rfl, fun n hm => ?_⟩
    rcases List.mem_cons.mp hm with z | z
    · rw [z]
      exact hi
    · exact hn n z
theorem cb1q {rr : List V → Hp → VK → Prop} {te : TE} {n : Nat} {tz : TS} {D : Ends} {σ : L2.St} {H : Hp} (h : te σ H fun v H1 => rr [v] H1 fun v H2 => tz D (σ.set n (some v)) H2) : tSeq (tAsg (tCB rr (tCons te tNil)) (gName n)) tz D σ H := h
section
variable {P : Program} {w : World} {K : PySem.W.Frag} {mg : Str → Option Value} {base : Heap} {aN aR : Addr}
theorem sc__law_box : FnScope ["_law_script", "_law_k", "_law_cell", "_law_great"] ["_law_script", "_law_k"] (defScope (top 38)) := ⟨rfl, rfl, rfl, by decide +kernel, rfl, by decide +kernel, by decide +kernel⟩
theorem cal__law_box (T : Tx K mg) : Cal P w K mg base "_law_box" 1 ["_law_script", "_law_k"] (spBox K) := by
  obtain ⟨f, fd, F, hm⟩ := T.fn 22 "_law_box" (top 38) rfl
  refine cal_of F hm (fun _ _ _ _ _ _ us hl => match us, hl with | [_, _], _ => rfl) (F.ok sc__law_box (fun vs H Q E h => by obtain ⟨_, _, _,  rfl, _⟩ := h <;> rfl) (fun cdv A outer s H vs Q E hr h => ⟨_, PSs.nox (pss_cons (ps_set (i := 2) sc__law_box.nd rfl (.inl rfl) (pe_op op_add (pe_op op_mul pe_int (pv 1)) pe_int))
      (pss_cons (ps_if (pt_cmpR op_lt (pv 1) (pe_callB call_len_seq rfl (T.fr "len" (by decide)) boot_len (pa_cons (pv 0) pa_nil)) (nomark _)) (pss_one (ps_set (i := 2) sc__law_box.nd rfl (.inl rfl) (pe_callB call_abs rfl (T.fr "abs" (by decide)) boot_abs (pa_cons (pe_callTy call_int1 rfl (T.fr "int" (by decide)) boot_int (pa_cons (pe_ix ix_list (pv 0) (pv 1) (fun _ _ => rfl)) pa_nil)) pa_nil)))) (pss_one (ps_if (pt_cmpR op_gt (pe_callB call_len_seq rfl (T.fr "len" (by decide)) boot_len (pa_cons (pv 0) pa_nil)) pe_int (nomark _)) (pss_one (ps_set (i := 2) sc__law_box.nd rfl (.inl rfl) (pe_op op_add (pv 2) (pe_op op_mul (pe_op op_mod (pe_callTy call_int1 rfl (T.fr "int" (by decide)) boot_int (pa_cons (pe_callB call_abs rfl (T.fr "abs" (by decide)) boot_abs (pa_cons (pe_callTy call_int1 rfl (T.fr "int" (by decide)) boot_int (pa_cons (pe_ix ix_list (pv 0) (pe_op op_mod (pe_callTy call_int1 rfl (T.fr "int" (by decide)) boot_int (pa_cons (pv 1) pa_nil)) (pe_callB call_len_seq rfl (T.fr "len" (by decide)) boot_len (pa_cons (pv 0) pa_nil))) (fun _ _ => rfl)) pa_nil)) pa_nil)) pa_nil)) pe_int) pe_int)))) pss_nil)))
      (pss_cons (ps_set (i := 3) sc__law_box.nd rfl (.inl rfl) (pe_ifExp (pt_cmpR op_ge (pv 2) (pe_op op_pow pe_int pe_int) (nomark _)) (pv 2) pe_int))
      (pss_one (ps_ret (pe_lst (pa_cons (pv 3) (pa_cons (pe_op op_add (pe_op op_mod (pe_callTy call_int1 rfl (T.fr "int" (by decide)) boot_int (pa_cons (pe_op op_add (pe_op op_mul (pe_op op_mod (pe_callTy call_int1 rfl (T.fr "int" (by decide)) boot_int (pa_cons (pv 2) pa_nil)) pe_int) pe_int) (pe_op op_mul pe_int (pv 1))) pa_nil)) pe_int) pe_int) pa_nil)))))))), ?_⟩))
  obtain ⟨a, k, ns, rfl, hs, hQ⟩ := h
  -- from a cell on
  have rest : ∀ (σ : L2.St) (H1 : Hp) (c : Int), σ.length = 4 → σ[1]? = some (some (.int (k : Int))) → σ[2]? = some (some (.int c)) → Ex H H1 → tSeq (tAsg (tIf (tTest (tOp (rI0 fun i j => V.bl (decide (j ≤ i))) (tVar 2) (tOp (rI CPow fun i j => V.int (i ^ j.toNat)) (tC (V.int 10)) (tC (V.int 18))))) (tVar 2) (tC (V.int 0))) (gName 3))
      (tRet (tLst (tCons (tVar 3) (tCons (tOp (rI0 fun i j => V.int (i + j)) (tOp (rI (fun x j => 0 < j) fun i j => V.int (i % j)) (tCB (fun xs H Q => (∃ i, xs = [V.int i] ∧ Q (V.int i) H) ∨ ∃ k, xs = [V.bl k] ∧ Q (V.int (if k = true then 1 else 0)) H)
        (tCons (tOp (rI0 fun i j => V.int (i + j)) (tOp (rI CMul fun i j => V.int (i * j)) (tOp (rI (fun x j => 0 < j) fun i j => V.int (i % j)) (tCB (fun xs H Q => (∃ i, xs = [V.int i] ∧ Q (V.int i) H) ∨ ∃ k, xs = [V.bl k] ∧ Q (V.int (if k = true then 1 else 0)) H) (tCons (tVar 2) tNil)) (tC (V.int 2147483587))) (tC (V.int 69069)))
          (tOp (rI CMul fun i j => V.int (i * j)) (tC (V.int 1039)) (tVar 1))) tNil)) (tC (V.int 2147483587))) (tC (V.int 1))) tNil)))) { nx := fun x H' => Q V.non H', rt := Q } σ H1 := fun σ H1 c sl s1 s2 eH => by
    refine q_asgP (P := fun v _ => ∃ g : Int, v = .int g) (ep_if (b := decide (((10 : Int) ^ (18 : Int).toNat) ≤ c)) (et_test (ev_op (ev_var s2) (ev_op ev_c ev_c (rv_I (by refine ⟨?_, ?_, ?_⟩ <;> decide))) rv_I0)) (fun _ => ep_ev (ev_var s2) fun _ _ => ⟨c, rfl⟩) (fun _ => ep_ev ev_c fun _ _ => ⟨0, rfl⟩)) (fun v2 H2 e2 hv => ?_)
    obtain ⟨g, rfl⟩ := hv
    have t1 : (σ.set 3 (some (.int g)))[1]? = some (some (.int (k : Int))) := by rw [List.getElem?_set_ne (by decide)]; exact s1
    have t2 : (σ.set 3 (some (.int g)))[2]? = some (some (.int c)) := by rw [List.getElem?_set_ne (by decide)]; exact s2
    have t3 : (σ.set 3 (some (.int g)))[3]? = some (some (.int g)) := by rw [List.getElem?_set_self (by omega)]
    generalize σ.set 3 (some (V.int g)) = σ1 at t1 t2 t3 ⊢
    have hs := ev_op (σ := σ1) (H := H2) (r := rI0 fun i j => V.int (i + j)) (ev_op (r := rI (fun x j => 0 < j) fun i j => V.int (i % j)) (ev_int1 (ev_op (r := rI0 fun i j => V.int (i + j)) (ev_op (r := rI CMul fun i j => V.int (i * j)) (ev_op (r := rI (fun x j => 0 < j) fun i j => V.int (i % j)) (ev_int1 (ev_var t2)) (ev_c (v := .int 2147483587)) (rv_I (by decide))) (ev_c (v := .int 69069)) (rv_I (cmulR (by decide)))) (ev_op (r := rI CMul fun i j => V.int (i * j)) (ev_c (v := .int 1039)) (ev_var t1) (rv_I (cmulL (by decide)))) rv_I0)) (ev_c (v := .int 2147483587)) (rv_I (by decide))) (ev_c (v := .int 1)) rv_I0
    refine s_retP (P := NewD K H2 [.int g, .int _]) (en_lst (eds_cons (ed_var t3 (.int g)) (eds_cons (edI hs) eds_nil)) (by simp)) (fun v3 H3 e3 hv => ?_)
    obtain ⟨p, xs, rfl, np, hp, ha⟩ := hv
    have := ints_dpA (ns := [g, _]) ha
    rw [this] at hp
    exact hQ _ _ ((eH.trans e2).trans e3) ⟨p, rfl, fresh_back (eH.trans e2) np, g, _, hp⟩
  refine q_asgP (P := fun v _ => ∃ c : Int, v = .int c) (ep_ev (ev_op (ev_op ev_c (ev_var rfl) (rv_I (cmulL (by decide)))) ev_c rv_I0) fun _ _ => ⟨_, rfl⟩) (fun v1 H1 e1 hv => ?_)
  obtain ⟨c0, rfl⟩ := hv
  have hlen : ∀ σ : L2.St, ∀ H2, Ex H H2 → σ[0]? = some (some (.ref a)) → Ev (tCB (rLenS K) (tCons (tVar 0) tNil)) σ H2 (.int (ns.length : Int)) := fun σ H2 e s0 => ev_len (xs := ns.map V.int) (ev_var s0) (ex_l e hs) |> fun h => ev_is h (by rw [List.length_map])
  refine q_if (et_test (ev_op (ev_var (i := 1) rfl) (hlen _ _ e1 rfl) rv_I0)) (fun hb H2 e2 => ?_) (fun hb H2 e2 => ?_)
  · have hk : k < ns.length := by
      have := of_decide_eq_true hb
      omega
    obtain ⟨n, hn⟩ : ∃ n, ns[k]? = some n := ⟨_, List.getElem?_eq_getElem hk⟩
    refine s_asgP (P := fun v _ => ∃ c : Int, v = .int c) (ep_ev (ev_abs (ev_int1 (ev_op (ev_var rfl) (ev_var rfl) (rv_ixL (ex_l (e1.trans e2) hs) (atI_nat (xs := ns.map V.int) (j := k) (v := V.int n) (by simp [hn])))))) fun _ _ => ⟨_, rfl⟩) (fun v3 H3 e3 hv => ?_)
    obtain ⟨c, rfl⟩ := hv
    exact rest _ H3 c rfl rfl rfl ((e1.trans e2).trans e3)
  · refine s_if (et_test (ev_op (hlen _ _ (e1.trans e2) rfl) ev_c rv_I0)) (fun hb H3 e3 => ?_) (fun hb H3 e3 => ?_)
    · have hl : 0 < ns.length := by
        have := of_decide_eq_true hb
        omega
      have hmod : ∃ j : Nat, ((k : Int) % (ns.length : Int)) = (j : Int) ∧ j < ns.length := ⟨((k : Int) % (ns.length : Int)).toNat, by have := Int.emod_nonneg (k : Int) (b := (ns.length : Int)) (by omega); omega, by have := Int.emod_lt_of_pos (k : Int) (b := (ns.length : Int)) (by omega); have := Int.emod_nonneg (k : Int) (b := (ns.length : Int)) (by omega); omega⟩
      obtain ⟨j, hj, hjl⟩ := hmod
      obtain ⟨n, hn⟩ : ∃ n, ns[j]? = some n := ⟨_, List.getElem?_eq_getElem hjl⟩
      refine s_asgP (P := fun v _ => ∃ c : Int, v = .int c) (ep_ev (ev_op (ev_var rfl) (ev_op (ev_op (ev_int1 (ev_abs (ev_int1 (ev_op (ev_var rfl) (ev_is (ev_op (ev_int1 (ev_var rfl)) (hlen _ _ ((e1.trans e2).trans e3) rfl) (rv_I (by omega))) (by rw [hj])) (rv_ixL (ex_l ((e1.trans e2).trans e3) hs) (atI_nat (xs := ns.map V.int) (j := j) (v := V.int n) (by simp [hn]))))))) ev_c (rv_I (by decide))) ev_c (rv_I (cmulR (by decide)))) rv_I0) fun _ _ => ⟨_, rfl⟩) (fun v3 H4 e4 hv => ?_)
      obtain ⟨c, rfl⟩ := hv
      exact rest _ H4 c rfl rfl rfl (((e1.trans e2).trans e3).trans e4)
    · exact rest _ H3 c0 rfl rfl rfl ((e1.trans e2).trans e3)
theorem sc__law_take : FnScope ["_law_box_here", "_law_many", "_law_digit", "_law_raw"] ["_law_box_here", "_law_many"] (defScope (top 39)) := ⟨rfl, rfl, rfl, by decide +kernel, rfl, by decide +kernel, by decide +kernel⟩
theorem cal__law_take (T : Tx K mg) : Cal P w K mg base "_law_take" 1 ["_law_box_here", "_law_many"] spTake := by
  obtain ⟨f, fd, F, hm⟩ := T.fn 23 "_law_take" (top 39) rfl
  refine cal_of F hm (fun _ _ _ _ _ _ us hl => match us, hl with | [_, _], _ => rfl) (F.ok sc__law_take (fun vs H Q E h => by obtain ⟨_, _,  rfl, _⟩ := h <;> rfl) (fun cdv A outer s H vs Q E hr h => ⟨_, PSs.nox (pss_cons (ps_if (pt_cmpR op_gt (pe_ix ix_list (pv 0) pe_int (fun _ _ => rfl)) pe_int (nomark _)) (pss_cons (ps_set (i := 2) sc__law_take.nd rfl (.inl rfl) (pe_op op_mod (pe_callTy call_int1 rfl (T.fr "int" (by decide)) boot_int (pa_cons (pe_ix ix_list (pv 0) pe_int (fun _ _ => rfl)) pa_nil)) (pv 1)))
      (pss_cons (ps_asg (pe_op op_fdiv (pe_ix ix_list (pv 0) pe_int (fun _ _ => rfl)) (pv 1)) (pg_sub (pv 0) pe_int set_list))
      (pss_one (ps_ret (pv 2))))) pss_nil)
      (pss_cons (ps_set (i := 3) sc__law_take.nd rfl (.inl rfl) (pe_op op_mod (pe_callTy call_int1 rfl (T.fr "int" (by decide)) boot_int (pa_cons (pe_op op_add (pe_op op_mul (pe_ix ix_list (pv 0) pe_int (fun _ _ => rfl)) pe_int) pe_int) pa_nil)) pe_int))
      (pss_cons (ps_asg (pe_op op_add (pe_op op_mod (pe_callTy call_int1 rfl (T.fr "int" (by decide)) boot_int (pa_cons (pe_op op_add (pe_op op_mul (pv 3) pe_int) pe_int) pa_nil)) pe_int) pe_int) (pg_sub (pv 0) pe_int set_list))
      (pss_one (ps_ret (pe_op op_mod (pe_callTy call_int1 rfl (T.fr "int" (by decide)) boot_int (pa_cons (pe_op op_fdiv (pe_op op_add (pe_op op_mul (pv 3) pe_int) (pe_ix ix_list (pv 0) pe_int (fun _ _ => rfl))) pe_int) pa_nil)) (pv 1))))))), ?_⟩))
  obtain ⟨b, m, rfl, hb, h1, h2, hQ⟩ := h
  have r0 := RB.refl hb
  obtain ⟨g, s, hg⟩ := hb
  have at0 : ∀ g' s' : Int, atI [V.int g', V.int s'] 0 = some (.int g') := fun _ _ => rfl
  have at1 : ∀ g' s' : Int, atI [V.int g', V.int s'] 1 = some (.int s') := fun _ _ => rfl
  refine q_if (et_test (ev_op (ev_op (ev_var rfl) ev_c (rv_ixL (sq_of hg) (at0 g s))) ev_c rv_I0)) (fun hz H2 e2 => ?_) (fun hz H2 e2 => ?_)
  · refine q_asg (ev_op (ev_int1 (ev_op (ev_var rfl) ev_c (rv_ixL (sq_of (e2 b _ hg)) (at0 g s)))) (ev_var rfl) (rv_I (by omega))) (fun H3 e3 => ?_)
    refine q_setL (e3 b _ (e2 b _ hg)) (ev_op (ev_op (ev_var rfl) ev_c (rv_ixL (sq_of (e3 b _ (e2 b _ hg))) (at0 g s))) (ev_var rfl) (rv_I ⟨by omega, by omega⟩)) (ev_var rfl) (ev_c (v := .int ((0 : Nat) : Int))) (by simp) (fun H4 e4 => ?_)
    refine s_ret (ev_var rfl) (fun H5 e5 => hQ _ H5 ⟨?_, _, _, e5 b _ upd_same⟩ (Int.emod_nonneg _ (by omega)) (Int.emod_lt_of_pos _ (by omega)))
    have e6 : Ex (del H b) H4 := exd_of ((e2.trans e3).trans e4)
    exact (exd_mut e6).trans e5
  · refine q_asg (ev_op (ev_int1 (ev_op (ev_op (ev_op (ev_var rfl) ev_c (rv_ixL (sq_of (e2 b _ hg)) (at1 g s))) ev_c (rv_I (cmulR (by decide)))) ev_c rv_I0)) ev_c (rv_I (by decide))) (fun H3 e3 => ?_)
    refine q_setL (e3 b _ (e2 b _ hg)) (ev_op (ev_op (ev_int1 (ev_op (ev_op (ev_var rfl) ev_c (rv_I (cmulR (by decide)))) ev_c rv_I0)) ev_c (rv_I (by decide))) ev_c rv_I0) (ev_var rfl) (ev_c (v := .int ((1 : Nat) : Int))) (by simp) (fun H4 e4 => ?_)
    refine s_ret (ev_op (ev_int1 (ev_op (ev_op (ev_op (ev_var rfl) ev_c (rv_I (cmulR (by decide)))) (ev_op (ev_var rfl) ev_c (rv_ixL (sq_of upd_same) (at1 _ _))) rv_I0) ev_c (rv_I ⟨by decide, by decide⟩))) (ev_var rfl) (rv_I (by omega))) (fun H5 e5 => hQ _ H5 ⟨?_, _, _, e5 b _ upd_same⟩ (Int.emod_nonneg _ (by omega)) (Int.emod_lt_of_pos _ (by omega)))
    have e6 : Ex (del H b) H4 := exd_of ((e2.trans e3).trans e4)
    exact (exd_mut e6).trans e5
theorem sc__law_pick : FnScope ["_law_box_here", "_law_some"] ["_law_box_here", "_law_some"] (defScope (top 40)) := ⟨rfl, rfl, rfl, by decide +kernel, rfl, by decide +kernel, by decide +kernel⟩
theorem cal__law_pick (T : Tx K mg) (c__law_take : Cal P w K mg base "_law_take" 1 ["_law_box_here", "_law_many"] spTake) : Cal P w K mg base "_law_pick" 2 ["_law_box_here", "_law_some"] (spPick K) := by
  obtain ⟨f, fd, F, hm⟩ := T.fn 24 "_law_pick" (top 40) rfl
  refine cal_of F hm (fun _ _ _ _ _ _ us hl => match us, hl with | [_, _], _ => rfl) (F.ok sc__law_pick (fun vs H Q E h => by obtain ⟨_, _, _,  rfl, _⟩ := h <;> rfl) (fun cdv A outer s H vs Q E hr h => ⟨_, PSs.nox (pss_one (ps_ret (pe_ix ix_list (pv 1) (pe_cal c__law_take (hr.mono (by decide)) rfl (pa_cons (pv 0) (pa_cons (pe_callB call_len_seq rfl (T.fr "len" (by decide)) boot_len (pa_cons (pv 1) pa_nil)) pa_nil))) (fun _ _ => rfl)))), ?_⟩))
  obtain ⟨b, m, xs, rfl, hb, hm, hmb, hne, hlen, hQ⟩ := h
  refine ⟨.ref m, rfl, ?_⟩
  refine ⟨.ref b, rfl, .ref m, rfl, m, xs, rfl, .inl (sq_of hm), b, (xs.length : Int), rfl, hb, by have := List.length_pos_iff.mpr hne; omega, by omega, fun i H' r h0 h1 => ?_⟩
  obtain ⟨j, rfl⟩ : ∃ j : Nat, i = (j : Int) := ⟨i.toNat, by omega⟩
  obtain ⟨v, hv⟩ : ∃ v, xs[j]? = some v := ⟨_, List.getElem?_eq_getElem (by omega)⟩
  exact ⟨m, xs, (j : Int), v, rfl, rfl, sq_of (r.at hm hmb), atI_nat hv, hQ v H' r (List.mem_of_getElem? hv)⟩
theorem sc__law_loose : FnScope ["_law_box_here", "_law_names", "_law_word", "_law_at", "_law_parents"] ["_law_box_here", "_law_names"] (defScope (top 46)) := ⟨rfl, rfl, rfl, by decide +kernel, rfl, by decide +kernel, by decide +kernel⟩
theorem cal__law_loose (T : Tx K mg) (c__law_pick : Cal P w K mg base "_law_pick" 2 ["_law_box_here", "_law_some"] (spPick K)) (c__law_take : Cal P w K mg base "_law_take" 1 ["_law_box_here", "_law_many"] spTake) : Cal P w K mg base "_law_loose" 3 ["_law_box_here", "_law_names"] (spLoose K) := by
  obtain ⟨f, fd, F, hm⟩ := T.fn 28 "_law_loose" (top 46) rfl
  refine cal_of F hm (fun _ _ _ _ _ _ us hl => match us, hl with | [_, _], _ => rfl) (F.ok sc__law_loose (fun vs H Q E h => by obtain ⟨_, _, _,  rfl, _⟩ := h <;> rfl) (fun cdv A outer s H vs Q E hr h => ⟨_, PSs.nox (pss_cons (ps_set (i := 2) sc__law_loose.nd rfl (.inl rfl) (pe_cal c__law_pick (hr.mono (by decide)) rfl (pa_cons (pv 0) (pa_cons (pe_lst (pa_cons pe_str (pa_cons pe_str (pa_cons pe_str (pa_cons pe_str (pa_cons pe_str pa_nil)))))) pa_nil))))
      (pss_cons (ps_if (pt_cmpR op_eq (pv 2) pe_str (nomark _)) (pss_one (ps_ret (pe_tup (pa_cons (pv 2) (pa_cons (pe_tup (pa_cons (pe_cal c__law_take (hr.mono (by decide)) rfl (pa_cons (pv 0) (pa_cons pe_int pa_nil))) pa_nil)) pa_nil))))) pss_nil)
      (pss_cons (ps_if (pt_cmpR op_eq (pv 2) pe_str (nomark _)) (pss_one (ps_ret (pe_tup (pa_cons (pv 2) (pa_cons (pe_callTy call_tuple_of rfl (T.fr "tuple" (by decide)) boot_tuple (pa_cons (pe_lc (own := [("_law_at", 3)]) (g := (gName 3)) (tt := tYes) (te := (tTup (tCons (tTup (tCons (tOp _ (tC (.int 97)) (tVar 3)) tNil)) (tCons (tCall spTake [] E0 (tCons (tVar 0) (tCons (tC (.int 3)) tNil))) (tCons (tCall (spPick K) [] E0 (tCons (tVar 0) (tCons (tVar 1) tNil))) tNil))))) rfl sc__law_loose.nd (pi_range1 (by rfl) (T.fr "range" (by decide)) (pa_cons (pe_cal c__law_take (hr.mono (by decide)) rfl (pa_cons (pv 0) (pa_cons pe_int pa_nil))) pa_nil)) (blkOk_by (N := ["_law_box_here", "_law_names", "_law_word", "_law_at", "_law_parents"]) (sc := defScope (top 46)) (by decide +kernel)) (fun _ _ _ _ _ => (pg_name (i := 3) sc__law_loose.nd rfl (.inl rfl))) (fun _ _ _ _ _ => pts_nil) (fun _ _ _ _ _ => (pe_tup (pa_cons (pe_tup (pa_cons (pe_op op_add pe_int (pv 3)) pa_nil)) (pa_cons (pe_cal c__law_take (hr.mono (by decide)) rfl (pa_cons (pv 0) (pa_cons pe_int pa_nil))) (pa_cons (pe_cal c__law_pick (hr.mono (by decide)) rfl (pa_cons (pv 0) (pa_cons (pv 1) pa_nil))) pa_nil)))))) pa_nil)) pa_nil))))) pss_nil)
      (pss_cons (ps_if (pt_cmpR op_eq (pv 2) pe_str (nomark _)) (pss_one (ps_ret (pe_tup (pa_cons (pv 2) (pa_cons (pe_cal c__law_pick (hr.mono (by decide)) rfl (pa_cons (pv 0) (pa_cons (pv 1) pa_nil))) (pa_cons (pe_tup pa_nil) pa_nil)))))) pss_nil)
      (pss_cons (ps_set (i := 4) sc__law_loose.nd rfl (.inl rfl) (pe_callB (cr_sortedSet rfl) rfl (T.fr "sorted" (by decide)) boot_sorted (pa_cons (pe_callTy (call_setI rfl) rfl (T.fr "set" (by decide)) boot_set (pa_cons (pe_lc (own := [("_law_at", 3)]) (g := (gName 3)) (tt := tYes) (te := (tCall (spPick K) [] E0 (tCons (tVar 0) (tCons (tVar 1) tNil)))) rfl sc__law_loose.nd (pi_range1 (by rfl) (T.fr "range" (by decide)) (pa_cons (pe_cal c__law_take (hr.mono (by decide)) rfl (pa_cons (pv 0) (pa_cons pe_int pa_nil))) pa_nil)) (blkOk_by (N := ["_law_box_here", "_law_names", "_law_word", "_law_at", "_law_parents"]) (sc := defScope (top 46)) (by decide +kernel)) (fun _ _ _ _ _ => (pg_name (i := 3) sc__law_loose.nd rfl (.inl rfl))) (fun _ _ _ _ _ => pts_nil) (fun _ _ _ _ _ => (pe_cal c__law_pick (hr.mono (by decide)) rfl (pa_cons (pv 0) (pa_cons (pv 1) pa_nil))))) pa_nil)) pa_nil)))
      (pss_one (ps_ret (pe_tup (pa_cons (pv 2) (pa_cons (pe_cal c__law_pick (hr.mono (by decide)) rfl (pa_cons (pv 0) (pa_cons (pv 1) pa_nil))) (pa_cons (pe_callTy call_tuple_of rfl (T.fr "tuple" (by decide)) boot_tuple (pa_cons (pe_revS (pv 4) (pe_op op_sub pe_int pe_int) (fun _ _ _ q => ⟨_, _, rfl, rfl, q⟩)) pa_nil)) (pa_cons pe_int (pa_cons (pe_tup pa_nil) pa_nil))))))))))))), ?_⟩))
  obtain ⟨b, m, ns, rfl, hb, hm, hmb, hns, hQ⟩ := h
  have hQ' : ∀ H0, RB b H H0 → ∀ v H1 d, RB b H0 H1 → ThS d → imm d = true → Dp K H1 v d → Q v H1 := fun H0 r0 v H1 d r s i p => by
    obtain ⟨t, ht, rfl⟩ := s
    exact hQ v H1 (r0.trans r) ⟨t, ht, p⟩
  have pickN : ∀ (σ : L2.St) (H1 : Hp) (E : XK), RB b H H1 → σ[0]? = some (some (.ref b)) → σ[1]? = some (some (.ref m)) → EvS K b (tCall (spPick K) [] E (tCons (tVar 0) (tCons (tVar 1) tNil))) σ H1 (fun d => ∃ i : Int, d = .int i ∧ i ∈ ns) := fun σ H1 E r s0 s1 =>
    es_pick s0 fun H2 r2 => ep_ev (ev_var s1) fun H3 e3 => names_ls hns (e3 m _ ((r.trans r2).at hm hmb)) hmb
  -- the word
  refine q_asgS (b := b) (S := fun d => ∃ x : Str, d = .str x ∧ (x = "blob" ∨ x = "tree" ∨ x = "commit" ∨ x = "tag")) (es_pick rfl fun H1 r1 => EvP.imp (en_lst (K := K) (eds_cons ed_str (eds_cons ed_str (eds_cons ed_str (eds_cons ed_str (eds_cons ed_str eds_nil))))) (by simp)) fun v H2 e2 z => ?_) hb (fun v H1 d r1 hd _ hv => ?_)
  · obtain ⟨p, xs, rfl, np, hp, hxs⟩ := z
    refine ⟨p, xs, _, rfl, hp, fun z => ?_, hxs, rfl, by simp, by simp, fun d hd => ?_⟩
    · obtain ⟨g, s, hx⟩ := r1.box
      rw [z, hx] at np
      cases np
    · have : d = .str "blob" ∨ d = .str "tree" ∨ d = .str "commit" ∨ d = .str "tag" := by
        simp at hd
        rcases hd with h | h | h | h
        · exact .inl h
        · exact .inr (.inl h)
        · exact .inr (.inr (.inl h))
        · exact .inr (.inr (.inr h))
      rcases this with h | h | h | h
      · exact ⟨_, h, .inl rfl⟩
      · exact ⟨_, h, .inr (.inl rfl)⟩
      · exact ⟨_, h, .inr (.inr (.inl rfl))⟩
      · exact ⟨_, h, .inr (.inr (.inr rfl))⟩
  obtain ⟨x, rfl, hx⟩ := hd
  have : v = .str x := dp_str hv
  subst this
  have t0 : (List.set (start ["_law_box_here", "_law_names", "_law_word", "_law_at", "_law_parents"] [V.ref b, V.ref m]) 2 (some (V.str x)))[0]? = some (some (.ref b)) := rfl
  have t1 : (List.set (start ["_law_box_here", "_law_names", "_law_word", "_law_at", "_law_parents"] [V.ref b, V.ref m]) 2 (some (V.str x)))[1]? = some (some (.ref m)) := rfl
  have t2 : (List.set (start ["_law_box_here", "_law_names", "_law_word", "_law_at", "_law_parents"] [V.ref b, V.ref m]) 2 (some (V.str x)))[2]? = some (some (.str x)) := rfl
  have tl : (List.set (start ["_law_box_here", "_law_names", "_law_word", "_law_at", "_law_parents"] [V.ref b, V.ref m]) 2 (some (V.str x))).length = 5 := rfl
  generalize List.set (start ["_law_box_here", "_law_names", "_law_word", "_law_at", "_law_parents"] [V.ref b, V.ref m]) 2 (some (V.str x)) = σ at t0 t1 t2 tl ⊢
  have word : ∀ (H2 : Hp), EvS K b (tVar 2) σ H2 (fun d => d = .str x) := fun H2 => es_of (d := .str x) (fun H3 _ => ed_var t2 (.str x)) rfl rfl
  have b1 : BoxA H1 b := r1.box
  have xw : Ev (tVar 2) σ H1 (.str x) := ev_var t2
  rcases hx with rfl | rfl | rfl | rfl
  · refine q_when (b := true) (et_eqS (x' := "blob") xw rfl (by decide)) (fun _ H2 e2 => ?_) (fun z => by cases z)
    have r2 := r1.ext e2
    refine s_retS (b := b) (S := ThS) (es_tup (SA := fun ds => ∃ i : Int, ds = [.str "blob", .tuple [.int i]] ∧ 0 ≤ i ∧ i < 3) (esA_cons (word H2) (esA_cons (S2 := fun ds => ds = []) (S := fun d => ∃ i : Int, d = .tuple [.int i] ∧ 0 ≤ i ∧ i < 3) (es_tup (SA := fun ds => ∃ i : Int, ds = [.int i] ∧ 0 ≤ i ∧ i < 3) (esA_cons (es_take t0 (by decide) (by decide)) esA_nil fun d ds h1 h2 => ?_) (fun ds h => ?_) (fun ds h => ?_)) esA_nil (S3 := fun ds => ∃ i : Int, ds = [.tuple [.int i]] ∧ 0 ≤ i ∧ i < 3) fun d ds h1 h2 => ?_) fun d ds h1 h2 => ?_) (fun ds h => ?_) (fun ds h => ?_)) r2.box (fun v H3 d r3 h1 h2 h3 => hQ' H2 r2 v H3 d r3 h1 h2 h3)
    · obtain ⟨i, rfl, h3⟩ := h1
      exact ⟨i, by rw [h2], h3⟩
    · obtain ⟨i, rfl, h3⟩ := h
      simp
    · obtain ⟨i, rfl, h3⟩ := h
      exact ⟨i, rfl, h3⟩
    · obtain ⟨i, rfl, h3⟩ := h1
      exact ⟨i, by rw [h2], h3⟩
    · obtain ⟨i, rfl, h3⟩ := h2
      exact ⟨i, by rw [h1], h3⟩
    · obtain ⟨i, rfl, h3⟩ := h
      simp
    · obtain ⟨i, rfl, h3⟩ := h
      exact ⟨.blob [i], ⟨by simp, fun x hx => by
        have : x = i := by simpa using hx
        rw [this]
        exact h3⟩, rfl⟩
  · refine q_when (b := false) (et_eqS (x' := "tree") xw rfl (by decide)) (fun z => by cases z) (fun _ H2 e2 => ?_)
    refine q_when (b := true) (et_eqS (x' := "tree") (xw.mono e2) rfl (by decide)) (fun _ H3 e3 => ?_) (fun z => by cases z)
    have r2 := r1.ext (e2.trans e3)
    have rowS : ∀ (i : Nat) H4, RB b H3 H4 → i + 1 < 4 → EvS K b (tTup (tCons (tTup (tCons (tOp (rI0 fun i j => V.int (i + j)) (tC (V.int 97)) (tVar 3)) tNil)) (tCons (tCall spTake [] E0 (tCons (tVar 0) (tCons (tC (V.int 3)) tNil))) (tCons (tCall (spPick K) [] E0 (tCons (tVar 0) (tCons (tVar 1) tNil))) tNil)))) ((wipe σ [3]).set 3 (some (.int (i : Int)))) H4 (fun d => ∃ (j k l : Int), d = rowD (j, k, l) ∧ j = 97 + (i : Int) ∧ (0 ≤ k ∧ k < 3) ∧ l ∈ ns) := fun i H4 r4 hi => by
      have u0 : ((wipe σ [3]).set 3 (some (.int (i : Int))))[0]? = some (some (.ref b)) := by
        rw [List.getElem?_set_ne (by decide)]
        simp only [wipe]
        rw [List.getElem?_set_ne (by decide)]
        exact t0
      have u1 : ((wipe σ [3]).set 3 (some (.int (i : Int))))[1]? = some (some (.ref m)) := by
        rw [List.getElem?_set_ne (by decide)]
        simp only [wipe]
        rw [List.getElem?_set_ne (by decide)]
        exact t1
      have u3 : ((wipe σ [3]).set 3 (some (.int (i : Int))))[3]? = some (some (.int (i : Int))) := by rw [List.getElem?_set_self (by simp [wipe, tl])]
      have lab : EvS K b (tTup (tCons (tOp (rI0 fun i j => V.int (i + j)) (tC (V.int 97)) (tVar 3)) tNil)) ((wipe σ [3]).set 3 (some (.int (i : Int)))) H4 (fun d => d = .tuple [.int (97 + (i : Int))]) := es_of (d := .tuple [.int (97 + (i : Int))]) (fun H5 _ => ed_tup (eds_cons (edI (ev_op ev_c (ev_var u3) rv_I0)) eds_nil) (by simp)) rfl rfl
      refine es_tup (SA := fun ds => ∃ (k l : Int), ds = [.tuple [.int (97 + (i : Int))], .int k, .int l] ∧ (0 ≤ k ∧ k < 3) ∧ l ∈ ns) (esA_cons lab (esA_cons (S3 := fun ds => ∃ (k l : Int), ds = [.int k, .int l] ∧ (0 ≤ k ∧ k < 3) ∧ l ∈ ns) (es_take u0 (by decide) (by decide)) (esA_cons (S3 := fun ds => ∃ l : Int, ds = [.int l] ∧ l ∈ ns) (pickN _ H4 _ (r2.trans r4) u0 u1) esA_nil fun d ds h1 h2 => ?_) fun d ds h1 h2 => ?_) fun d ds h1 h2 => ?_) (fun ds h => ?_) (fun ds h => ?_)
      · obtain ⟨l, rfl, h3⟩ := h1
        exact ⟨l, by rw [h2], h3⟩
      · obtain ⟨k, rfl, h3⟩ := h1
        obtain ⟨l, rfl, h4⟩ := h2
        exact ⟨k, l, rfl, h3, h4⟩
      · obtain ⟨k, l, rfl, h3, h4⟩ := h2
        exact ⟨k, l, by rw [h1], h3, h4⟩
      · obtain ⟨k, l, rfl, h3, h4⟩ := h
        simp
      · obtain ⟨k, l, rfl, h3, h4⟩ := h
        exact ⟨97 + (i : Int), k, l, rfl, rfl, h3, h4⟩
    have hb50 : ∀ n ∈ ns, 0 ≤ n ∧ n < 50 := hns.2.2
    have lst := es_tupLc (K := K) (b := b) (σ := σ) (H := H3) (j := 3) (n := 4) (ta := tCall spTake [] E0 (tCons (tVar 0) (tCons (tC (.int 4)) tNil))) (te := tTup (tCons (tTup (tCons (tOp (rI0 fun i j => V.int (i + j)) (tC (V.int 97)) (tVar 3)) tNil)) (tCons (tCall spTake [] E0 (tCons (tVar 0) (tCons (tC (V.int 3)) tNil))) (tCons (tCall (spPick K) [] E0 (tCons (tVar 0) (tCons (tVar 1) tNil))) tNil)))) (S := fun d => ∃ r : Int × Int × Int, d = rowD r ∧ (97 ≤ r.1 ∧ r.1 < 100) ∧ (0 ≤ r.2.1 ∧ r.2.1 < 3) ∧ 0 ≤ r.2.2 ∧ r.2.2 < 50) (es_take (m := 4) t0 (by decide) (by decide)) (by decide) (fun _ => by simp [wipe]) (fun i H4 r4 hi => (rowS i H4 r4 hi).imp fun d hd => by
      obtain ⟨j, k, l, rfl, rfl, h3, h4⟩ := hd
      exact ⟨(97 + (i : Int), k, l), rfl, ⟨by simp only; omega, by simp only; omega⟩, h3, hb50 l h4⟩)
    have lst2 := lst.imp (S' := fun d => ∃ rs : List (Int × Int × Int), d = .tuple (rs.map rowD) ∧ rs.length ≤ 3 ∧ ∀ r ∈ rs, (97 ≤ r.1 ∧ r.1 < 100) ∧ (0 ≤ r.2.1 ∧ r.2.1 < 3) ∧ 0 ≤ r.2.2 ∧ r.2.2 < 50) fun d hd => by
      obtain ⟨ds, rfl, h3, h4⟩ := hd
      obtain ⟨rs, rfl, h5⟩ := rows_of h4
      exact ⟨rs, rfl, by simp at h3; omega, h5⟩
    refine s_retS (b := b) (S := ThS) (es_tup (SA := fun ds => ∃ rs : List (Int × Int × Int), ds = [.str "tree", .tuple (rs.map rowD)] ∧ rs.length ≤ 3 ∧ ∀ r ∈ rs, (97 ≤ r.1 ∧ r.1 < 100) ∧ (0 ≤ r.2.1 ∧ r.2.1 < 3) ∧ 0 ≤ r.2.2 ∧ r.2.2 < 50) (esA_cons (word H3) (esA_cons (S3 := fun ds => ∃ rs : List (Int × Int × Int), ds = [.tuple (rs.map rowD)] ∧ rs.length ≤ 3 ∧ ∀ r ∈ rs, (97 ≤ r.1 ∧ r.1 < 100) ∧ (0 ≤ r.2.1 ∧ r.2.1 < 3) ∧ 0 ≤ r.2.2 ∧ r.2.2 < 50) lst2 esA_nil fun d ds h1 h2 => ?_) fun d ds h1 h2 => ?_) (fun ds h => ?_) (fun ds h => ?_)) r2.box (fun v H3 d r3 h1 h2 h3 => hQ' _ r2 v H3 d r3 h1 h2 h3)
    · obtain ⟨rs, rfl, h3⟩ := h1
      exact ⟨rs, by rw [h2], h3⟩
    · obtain ⟨rs, rfl, h3⟩ := h2
      exact ⟨rs, by rw [h1], h3⟩
    · obtain ⟨rs, rfl, h3⟩ := h
      simp
    · obtain ⟨rs, rfl, h3, h4⟩ := h
      exact ⟨.tree rs, ⟨h3, h4⟩, rfl⟩
  · refine q_when (b := false) (et_eqS (x' := "commit") xw rfl (by decide)) (fun z => by cases z) (fun _ H2 e2 => ?_)
    refine q_when (b := false) (et_eqS (x' := "commit") (xw.mono e2) rfl (by decide)) (fun z => by cases z) (fun _ H3 e3 => ?_)
    refine q_when (b := false) (et_eqS (x' := "commit") (xw.mono (e2.trans e3)) rfl (by decide)) (fun z => by cases z) (fun _ H4 e4 => ?_)
    have r2 := r1.ext ((e2.trans e3).trans e4)
    have hb50 : ∀ n ∈ ns, 0 ≤ n ∧ n < 50 := hns.2.2
    -- the parents
    refine cb1q (cb1 (es_lcR (K := K) (b := b) (σ := σ) (H := H4) (j := 3) (n := 3) (ta := tCall spTake [] E0 (tCons (tVar 0) (tCons (tC (.int 3)) tNil))) (te := tCall (spPick K) [] E0 (tCons (tVar 0) (tCons (tVar 1) tNil))) (S := fun d => ∃ i : Int, d = .int i ∧ i ∈ ns) (es_take (m := 3) t0 (by decide) (by decide)) (by decide) (fun _ => by simp [wipe]) (fun i H5 r5 hi => ?_) H4 (RB.refl r2.box) _ fun v H5 r5 z => ?_))
    · refine pickN _ H5 _ (r2.trans r5) ?_ ?_
      · rw [List.getElem?_set_ne (by decide)]
        simp only [wipe]
        rw [List.getElem?_set_ne (by decide)]
        exact t0
      · rw [List.getElem?_set_ne (by decide)]
        simp only [wipe]
        rw [List.getElem?_set_ne (by decide)]
        exact t1
    obtain ⟨p, xs, ds, rfl, np, hp, hd, him, hlen, hS⟩ := z
    obtain ⟨ps, rfl, hps⟩ := ints_of hS
    rw [ints_dpA hd] at hp
    have lps : ps.length ≤ 2 := by
      rw [List.length_map] at hlen
      omega
    refine ⟨p, ps, rfl, .inl (sq_of hp), by omega, fun q c hc nq => ?_⟩
    refine ⟨q, _, c, rfl, upd_same, by omega, fun ms l hasc hmem _ nl => ?_⟩
    have en : ms = norm ps := norm_eq hasc fun k => by rw [hmem]; simp
    subst en
    have r6 : RB b H (upd (upd H5 q (SetO w q (fun j => decide (j ∈ ps)) c)) l (.lst ((norm ps).map V.int))) := (r2.trans r5).ext ((Ex.new nq).trans (Ex.new nl))
    have hl6 : (upd (upd H5 q (SetO w q (fun j => decide (j ∈ ps)) c)) l (.lst ((norm ps).map V.int))) l = some (.lst ((norm ps).map V.int)) := upd_same
    have nlb : l ≠ b := by
      obtain ⟨g, s, hx⟩ := (r2.trans r5).box
      exact Ne.symm (ne_of_none (Ex.new nq b _ hx) nl)
    show tRet _ _ (σ.set 4 (some (V.ref l))) (upd (upd H5 q (SetO w q (fun j => decide (j ∈ ps)) c)) l (.lst ((norm ps).map V.int)))
    generalize upd (upd H5 q (SetO w q (fun j => decide (j ∈ ps)) c)) l (.lst ((norm ps).map V.int)) = H6 at r6 hl6 ⊢
    have u0 : (σ.set 4 (some (.ref l)))[0]? = some (some (.ref b)) := by rw [List.getElem?_set_ne (by decide)]; exact t0
    have u1 : (σ.set 4 (some (.ref l)))[1]? = some (some (.ref m)) := by rw [List.getElem?_set_ne (by decide)]; exact t1
    have u2 : (σ.set 4 (some (.ref l)))[2]? = some (some (.str "commit")) := by rw [List.getElem?_set_ne (by decide)]; exact t2
    have u4 : (σ.set 4 (some (.ref l)))[4]? = some (some (.ref l)) := by rw [List.getElem?_set_self (by omega)]
    generalize σ.set 4 (some (V.ref l)) = σ4 at u0 u1 u2 u4 ⊢
    have nps : (norm ps).length ≤ 2 := Nat.le_trans (norm_len ps) lps
    have par : EvS K b (tCB (rTupS K) (tCons (tRevL K (tVar 4)) tNil)) σ4 H6 (fun d => d = intsD (norm ps).reverse) := es_of (d := intsD (norm ps).reverse) (fun H7 r7 => ed_tupL (ds := (norm ps).reverse.map .int) (fun H8 e8 Q q => ⟨.ref l, u4, l, _, rfl, sq_of (e8 l _ (r7.at hl6 nlb)), fun t nt => q _ _ (Ex.new nt) (dp_lstOf (sq_of (by rw [upd_same, List.map_reverse])))⟩)) rfl (imm_intsD _)
    refine s_retS (D := { nx := fun x H' => Q V.non H', rt := Q }) (b := b) (S := ThS) (es_tup (SA := fun ds => ∃ t : Int, ds = [.str "commit", .int t, intsD (norm ps).reverse, .int 1, .tuple []] ∧ t ∈ ns) (esA_cons (es_of (d := .str "commit") (fun H7 _ => ed_var u2 (.str "commit")) (rfl : (fun d => d = PyData.str "commit") (.str "commit")) rfl) (esA_cons (S3 := fun ds => ∃ t : Int, ds = [.int t, intsD (norm ps).reverse, .int 1, .tuple []] ∧ t ∈ ns) (pickN _ H6 _ r6 u0 u1) (esA_cons (S3 := fun ds => ds = [intsD (norm ps).reverse, .int 1, .tuple []]) par (esA_cons (S3 := fun ds => ds = [.int 1, .tuple []]) (es_of (d := .int 1) (fun H7 _ => ed_int) (rfl : (fun d => d = PyData.int 1) (.int 1)) rfl) (esA_cons (S3 := fun ds => ds = [.tuple []]) (es_of (d := .tuple []) (fun H7 _ => ed_tup eds_nil (by simp)) (rfl : (fun d => d = PyData.tuple []) (.tuple [])) rfl) esA_nil fun d ds h1 h2 => by rw [h1, h2]) fun d ds h1 h2 => by rw [h1, h2]) fun d ds h1 h2 => by rw [h1, h2]) fun d ds h1 h2 => ?_) fun d ds h1 h2 => ?_) (fun ds h => ?_) (fun ds h => ?_)) r6.box (fun v H7 d r7 h1 h2 h3 => hQ' _ r6 v H7 d r7 h1 h2 h3)
    · obtain ⟨t, rfl, h3⟩ := h1
      exact ⟨t, by rw [h2], h3⟩
    · obtain ⟨t, rfl, h3⟩ := h2
      exact ⟨t, by rw [h1], h3⟩
    · obtain ⟨t, rfl, h3⟩ := h
      simp
    · obtain ⟨t, rfl, h3⟩ := h
      exact ⟨.commit t (norm ps).reverse, ⟨by rw [List.length_reverse]; exact nps, hb50 t h3, fun p hp => hb50 p (hps p (mem_norm.mp (List.mem_reverse.mp hp)))⟩, rfl⟩
  · refine q_when (b := false) (et_eqS (x' := "tag") xw rfl (by decide)) (fun z => by cases z) (fun _ H2 e2 => ?_)
    refine q_when (b := false) (et_eqS (x' := "tag") (xw.mono e2) rfl (by decide)) (fun z => by cases z) (fun _ H3 e3 => ?_)
    refine q_when (b := true) (et_eqS (x' := "tag") (xw.mono (e2.trans e3)) rfl (by decide)) (fun _ H4 e4 => ?_) (fun z => by cases z)
    have r2 := r1.ext ((e2.trans e3).trans e4)
    have hb50 : ∀ n ∈ ns, 0 ≤ n ∧ n < 50 := hns.2.2
    refine s_retS (b := b) (S := ThS) (es_tup (SA := fun ds => ∃ t : Int, ds = [.str "tag", .int t, .tuple []] ∧ t ∈ ns) (esA_cons (word H4) (esA_cons (S3 := fun ds => ∃ t : Int, ds = [.int t, .tuple []] ∧ t ∈ ns) (pickN _ H4 _ r2 t0 t1) (esA_cons (S3 := fun ds => ds = [.tuple []]) (es_of (d := .tuple []) (fun H7 _ => ed_tup eds_nil (by simp)) (rfl : (fun d => d = PyData.tuple []) (.tuple [])) rfl) esA_nil fun d ds h1 h2 => by rw [h1, h2]) fun d ds h1 h2 => ?_) fun d ds h1 h2 => ?_) (fun ds h => ?_) (fun ds h => ?_)) r2.box (fun v H7 d r7 h1 h2 h3 => hQ' _ r2 v H7 d r7 h1 h2 h3)
    · obtain ⟨t, rfl, h3⟩ := h1
      exact ⟨t, by rw [h2], h3⟩
    · obtain ⟨t, rfl, h3⟩ := h2
      exact ⟨t, by rw [h1], h3⟩
    · obtain ⟨t, rfl, h3⟩ := h
      simp
    · obtain ⟨t, rfl, h3⟩ := h
      exact ⟨.tag t, hb50 t h3, rfl⟩
end
end Kw
end
section
/-! KwH: _law_heard, called with a lambda. -/
namespace Kw
open PySem PySem.Spec PyProof.Rows L2 Evl
theorem pss_len {X : Cx} {body : List Stmt} {t : TS} (h : PSs X body t) : PSs X body (fun D σ H => σ.length = X.N.length → t D σ H) := ⟨fun pins s σ H D I q => h.run pins s σ H D I (q I.len)⟩
/-- what is let out, caught -/
def EchH (aN aR : Addr) (Q : VK) : XK := fun cls d H' => (cls = .ref aN ∧ ∃ (dd : Addr) (n : Int), d = some dd ∧ H' dd = some (.xd [("name", .int n)]) ∧ n.natAbs.log2 < 1920 ∧ ∀ a, H' a = none → Q (.ref a) (upd H' a (.tup [.str "lacks", .str (toString n)]))) ∨
  (cls = .ref aR ∧ ∃ (dd : Addr) (v : V), d = some dd ∧ H' dd = some (.xd [("at", v)]) ∧ ∀ a, H' a = none → Q (.ref a) (upd H' a (.tup [.str "refused", v])))
def THeard (aN aR : Addr) : (XK → Hp → VK → Prop) → Hp → VK → Prop := fun tl H Q => tl (EchH aN aR Q) H (fun v H' => [V.str "told", v].length ≤ sizeLine ∧ ∀ a, H' a = none → Q (.ref a) (upd H' a (.tup [.str "told", v])))
/-- what is known of the two classes -/
structure XTwo (K : PySem.W.Frag) (aN aR : Addr) : Prop where
  xN : XfC K aN
  nN : PySem.W.findIn K (.ref aN) "name" = some none
  xR : XfC K aR
  nR : PySem.W.findIn K (.ref aR) "at" = some none
  eNN : PySem.W.exmOne K (.ref aN) (.ref aN) = some true
  eRN : PySem.W.exmOne K (.ref aR) (.ref aN) = some false
  eRR : PySem.W.exmOne K (.ref aR) (.ref aR) = some true
theorem heard_gives {X : Cx} {g aN aR : Addr} {cdg : Value} {q : Str} (T : XTwo X.K aN aR) (hN : X.mg "NoObject" = some (.ref aN)) (hR : X.mg "Refused" = some (.ref aR)) (hr : X.mg "repr" = none) :
    LamX.GivesTo X ["_law_ask", "fault"] "_law_heard" (defScope (top 53)) g cdg (defBody (top 53)) "_law_ask" q (THeard aN aR) := by
  intro f c' s H Q tl act hc h
  have nd : (["_law_ask", "fault"] : List Str).Nodup := by decide
  refine ⟨_, pss_one (L2.ps_try_manyA (X := (cxOf C8.CX0 X.prog X.w X.K X.mg X.base ["_law_ask", "fault"] "_law_heard" (defScope (top 53)) g cdg X.A X.stack s H C8.E0).nox)
    (l := [(.ref aN, 1, fun a cls d D σ H => σ.length = 2 → tRet (tTup (tCons (tC (.str "lacks")) (tCons (tCB (fun xs H Q => ∃ i, xs = [V.int i] ∧ i.natAbs.log2 < 1920 ∧ Q (.str (toString i)) H) (tCons (tXf a cls d aN "name" (tVar 1)) tNil)) tNil))) D σ H),
      (.ref aR, 1, fun a cls d D σ H => σ.length = 2 → tRet (tTup (tCons (tC (.str "refused")) (tCons (tXf a cls d aR "at" (tVar 1)) tNil))) D σ H)])
    (tb := fun W D σ H => ∃ Ech : XK, (∀ cls d σ' H', Ech cls d H' → W cls d σ' H') ∧ tRet (tTup (tCons (tC (.str "told")) (tCons (fun σZ HZ Q => σZ[0]? = some (some (.ref f)) ∧ HZ c' = some (LamX.CodeO c' q) ∧ tl Ech HZ Q) tNil))) D σ H)
    rfl rfl nd LamX.takes0 (fun W pn xe tk _ => ?_) ?_), ?_⟩
  · refine ⟨fun pins s' σ H' D I h' => ?_⟩
    obtain ⟨Ech, hW, h1⟩ := h'
    exact (pss_one (ps_ret (pe_tup (pa_cons pe_str (pa_cons (act W pn xe Ech _ _ tk hW) pa_nil))))).run pins s' σ H' D I h1
  · refine .cons ⟨rfl, by decide, .inl hN⟩ rfl rfl (fun a oe cls d pn hz hf => ?_) (.cons ⟨rfl, by decide, .inl hR⟩ rfl rfl (fun a oe cls d pn hz hf => ?_) .nil)
    · have hfld : ∀ p p2, PE (((cxOf C8.CX0 X.prog X.w X.K X.mg X.base ["_law_ask", "fault"] "_law_heard" (defScope (top 53)) g cdg X.A X.stack s H C8.E0).nox).suite a ((a, oe) :: pn)) (.Attribute (.Name "fault" p) "name" p2) (tXf a cls d aN "name" (tVar 1)) := fun p p2 => pe_xf T.xN T.nN hz hf (pv 1)
      exact pss_len (pss_one (ps_ret (pe_tup (pa_cons pe_str (pa_cons (pe_callB SkE.call_repr_int rfl hr boot_repr (pa_cons (hfld _ _) pa_nil)) pa_nil)))))
    · have hfld : ∀ p p2, PE (((cxOf C8.CX0 X.prog X.w X.K X.mg X.base ["_law_ask", "fault"] "_law_heard" (defScope (top 53)) g cdg X.A X.stack s H C8.E0).nox).suite a ((a, oe) :: pn)) (.Attribute (.Name "fault" p) "at" p2) (tXf a cls d aR "at" (tVar 1)) := fun p p2 => pe_xf T.xR T.nR hz hf (pv 1)
      exact pss_len (pss_one (ps_ret (pe_tup (pa_cons pe_str (pa_cons (hfld _ _) pa_nil)))))
  · refine ⟨EchH aN aR Q, fun cls d σ' H' he => ?_, ?_⟩
    · rcases he with ⟨rfl, dd, n, rfl, hx, hn, hq⟩ | ⟨rfl, dd, v, rfl, hx, hq⟩
      · refine ⟨true, T.eNN, fun _ a na hl => ?_, fun z => by cases z⟩
        refine ⟨.ref a, ?_, rfl, rfl, dd, _, .int n, rfl, hx, rfl, n, rfl, hn, by show 2 ≤ sizeLine; decide, fun b nb => hq b nb⟩
        rw [List.getElem?_set_self (by rw [List.length_set] at hl; omega)]
      · refine ⟨false, T.eRN, (fun z => by cases z), fun _ => ⟨true, T.eRR, fun _ a na hl => ?_, fun z => by cases z⟩⟩
        refine ⟨.ref a, ?_, rfl, rfl, dd, _, v, rfl, hx, rfl, by show 2 ≤ sizeLine; decide, fun b nb => hq b nb⟩
        rw [List.getElem?_set_self (by rw [List.length_set] at hl; omega)]
    · exact ⟨rfl, hc, h⟩
end Kw
end
section
/-! KwL: _law_heard(lambda: ..); calls by keywords. -/
namespace Kw
open PySem PySem.Spec PyProof.Rows L2 Evl
theorem pe_heard {X : Cx} {g aN aR c Pt : Addr} {fd : FuncData} {k : Nat} {params : Arguments} {body : Expr} {scope : Scope} {t : XK → TE} {p lpos pos : Pos} (F : FnP X.K "_law_heard" (top 53) g fd) (hm : X.mg "_law_heard" = some (.ref g)) (T2 : XTwo X.K aN aR) (hN : X.mg "NoObject" = some (.ref aN)) (hR : X.mg "Refused" = some (.ref aR)) (hrp : X.mg "repr" = none)
    (hg : Gl X "_law_heard") (TB : LamX.TabB X.base X.mg c Pt) (hcode : X.env.code = .ref c) (hr : Room (k + 2) X.A) (L : LamX.LamS X.env.scope scope) (hdef : defaultsOf params X.env = ([], []))
    (hbind : ∀ (q : Str) (cl : List (Str × Addr)) (pm cv ctv : Value), bindArgs (PySem.W.kla_fn "<lambda>" q params body scope cl pm cv ctv) ⟨[], []⟩ = pure [])
    (hbody : ∀ (A : Around) (outer : List Env) (s : Shared) (H : Hp) (E : XK) (f c' : Addr), Room k (A.deeper (LamX.lamEnv X scope s.heap.objs.size f c')) → PE (LamX.lamCx X A outer s H E scope f c') body (t E)) :
    PE X (.Call (.Name "_law_heard" p) [.Lambda params body scope lpos] [] pos) (LamX.tLam [(Pt, X.env.qual ++ "<lambda>")] (THeard aN aR) t) := by
  have hb := F.bindsN (ps := ["_law_ask"]) (fun _ _ _ _ _ _ us hl => match us, hl with | [_], _ => rfl)
  obtain ⟨oc, od, dV, kV, doc, pm, an, cdv, ct, osl, rfl, lk, hcd, hD, hK⟩ := F.ex
  have sc0 : FnScope ["_law_ask", "fault"] ["_law_ask"] (defScope (top 53)) := ⟨rfl, rfl, rfl, by decide +kernel, rfl, by decide +kernel, by decide +kernel⟩
  exact LamX.pe_lamcall hg hm F.kp lk hcd hb sc0 rfl (.inl rfl) (heard_gives T2 hN hR hrp) TB hcode List.mem_cons_self (fun p hp _ => by
    have : p = (Pt, X.env.qual ++ "<lambda>") := by simpa using hp
    rw [this]) hr L hdef hbind hbody
/-- the same def, called by keywords -/
theorem kal_of {P : Program} {w : World} {K : PySem.W.Frag} {mg : Str → Option Value} {base : Heap} {x : Str} {st : Stmt} {k : Nat} {ps ks : List Str} {sp : Sp} {CX : CXT} {f : Addr} {fd : FuncData} {gU : List Value → List Value → List Value} {gV : List V → List V → List V} (c : CalX CX P w K mg base x k ps sp) (F : FnP K x st f fd) (hm : mg x = some (.ref f)) (kb : KBinds K fd ps ks gU gV) : CalK CX P w K mg base x k ps ks gU gV sp := by
  obtain ⟨f', fd', hm', hk, hb, ok, st', F'⟩ := c
  have e1 : f' = f := by
    rw [hm] at hm'
    cases hm'
    rfl
  subst e1
  have e2 : fd' = fd := by
    obtain ⟨_, _, _, _, _, _, _, _, _, _, _, lk, _⟩ := F.ex
    obtain ⟨_, _, _, _, _, _, _, _, _, _, _, lk', _⟩ := F'.ex
    rw [lk] at lk'
    cases lk'
    rfl
  subst e2
  exact ⟨f', fd', hm, hk, kb, ok⟩
end Kw
end
section
/-! KwF: small data: it can be shown and compared. -/
namespace Kw
open PySem PySem.Spec PyProof.Rows L2 Evl
structure Fit (d : PyData) (dep bk : Nat) : Prop where
  sh : d.showable = true
  ly : d.canLay0 = true
  lv : d.leavesShort 13 = true
  dp : d.depth ≤ dep
  bk : d.bulk ≤ bk
structure FitA (ds : List PyData) (dep bk : Nat) : Prop where
  sh : PyData.showableAll ds = true
  ly : PyData.canLayAll0 ds = true
  lv : PyData.leavesShortAll 13 ds = true
  dp : PyData.depthAll ds ≤ dep
  bk : PyData.bulkAll ds ≤ bk
theorem Fit.mono {d : PyData} {a b a' b' : Nat} (h : Fit d a b) (ha : a ≤ a') (hb : b ≤ b') : Fit d a' b' := ⟨h.sh, h.ly, h.lv, Nat.le_trans h.dp ha, Nat.le_trans h.bk hb⟩
theorem int_short : ∀ n : Fin 100, (PyData.shown (.int (n.val : Int))).length ≤ 13 ∧ ((n.val : Int)).natAbs.log2 < 1920 := by decide +kernel
theorem fit_int {i : Int} (h0 : 0 ≤ i) (h1 : i < 100) : Fit (.int i) 0 0 := by
  obtain ⟨n, rfl⟩ : ∃ n : Nat, i = (n : Int) := ⟨i.toNat, by omega⟩
  have h := int_short ⟨n, by omega⟩
  exact ⟨by simpa [PyData.showable] using h.2, rfl, by simpa [PyData.leavesShort] using h.1, Nat.le_refl _, Nat.le_refl _⟩
theorem fit_bool (b : Bool) : Fit (.bool b) 0 0 := ⟨rfl, rfl, rfl, Nat.le_refl _, Nat.le_refl _⟩
theorem fit_str {x : Str} (h1 : PyData.strOk x = true) (h2 : (PyData.str x).leavesShort 13 = true) (h3 : x.cps.size ≤ 20) : Fit (.str x) 0 20 := ⟨rfl, by simpa [PyData.canLay0] using h1, h2, Nat.le_refl _, by simpa [PyData.bulk] using h3⟩
theorem fit_nil : FitA [] 0 0 := ⟨rfl, rfl, rfl, Nat.le_refl _, Nat.le_refl _⟩
theorem fit_cons {d : PyData} {ds : List PyData} {a b a' b' : Nat} (h : Fit d a b) (h' : FitA ds a' b') : FitA (d :: ds) (max a a') (b + 1 + b') := by
  refine ⟨by simp [PyData.showableAll, h.sh, h'.sh], by simp [PyData.canLayAll0, h.ly, h'.ly], by simp [PyData.leavesShortAll, h.lv, h'.lv], ?_, ?_⟩
  · have h1 := h.dp
    have h2 := h'.dp
    simp only [PyData.depthAll]
    omega
  · have h1 := h.bk
    have h2 := h'.bk
    simp only [PyData.bulkAll]
    omega
theorem fit_tup {ds : List PyData} {a b : Nat} (h : FitA ds a b) : Fit (.tuple ds) (a + 1) b := ⟨by simpa [PyData.showable] using h.sh, by simpa [PyData.canLay0] using h.ly, by simpa [PyData.leavesShort] using h.lv, by have := h.dp; simp only [PyData.depth]; omega, by simpa [PyData.bulk] using h.bk⟩
theorem fit_lst {ds : List PyData} {a b : Nat} (h : FitA ds a b) : Fit (.list ds) (a + 1) b := ⟨by simpa [PyData.showable] using h.sh, by simpa [PyData.canLay0] using h.ly, by simpa [PyData.leavesShort] using h.lv, by have := h.dp; simp only [PyData.depth]; omega, by simpa [PyData.bulk] using h.bk⟩
theorem fit_all {a b : Nat} : ∀ {ds : List PyData}, (∀ d ∈ ds, Fit d a b) → FitA ds a ((b + 1) * ds.length)
  | [], _ => ⟨rfl, rfl, rfl, Nat.zero_le _, Nat.le_refl _⟩
  | d :: ds, h => by
    have h1 := h d List.mem_cons_self
    have h2 := fit_all (a := a) (b := b) fun x hx => h x (List.mem_cons_of_mem _ hx)
    have h3 := fit_cons h1 h2
    refine ⟨h3.sh, h3.ly, h3.lv, Nat.le_trans h3.dp (by omega), Nat.le_trans h3.bk ?_⟩
    rw [List.length_cons, Nat.mul_add]
    omega
theorem FitA.mono {ds : List PyData} {a b a' b' : Nat} (h : FitA ds a b) (ha : a ≤ a') (hb : b ≤ b') : FitA ds a' b' := ⟨h.sh, h.ly, h.lv, Nat.le_trans h.dp ha, Nat.le_trans h.bk hb⟩
theorem fit_ints {ns : List Int} {n : Nat} (h : ∀ i ∈ ns, 0 ≤ i ∧ i < 100) (hl : ns.length ≤ n) : FitA (ns.map .int) 0 n := by
  refine (fit_all (a := 0) (b := 0) fun d hd => ?_).mono (Nat.le_refl _) (by rw [List.length_map]; omega)
  obtain ⟨i, hi, rfl⟩ := List.mem_map.mp hd
  exact fit_int (h i hi).1 (h i hi).2
theorem Fit.shown {d : PyData} {a b : Nat} (h : Fit d a b) (hb : b ≤ 2 ^ 20) : d.shown.length ≤ sizeLine := PyData.shown_fits_bulk (B := 13) (by decide) (by decide) h.lv (Nat.le_trans h.bk hb)
theorem Fit.shaped {d : PyData} {a b : Nat} (h : Fit d a b) (ha : a ≤ 60) : SeqAt.shaped d = true := by
  have := h.dp
  simp [SeqAt.shaped, h.ly]
  omega
theorem eqv_self {d : PyData} {a b : Nat} (h : Fit d a b) : PyData.eqv d d = true := SeqAt.eqv_refl d h.ly
theorem fit_thD {t : Th} (ok : t.Ok) : Fit (thD t) 4 200 := by
  have w1 : Fit (.str "blob") 0 20 := fit_str (by decide +kernel) (by decide +kernel) (by decide +kernel)
  have w2 : Fit (.str "tree") 0 20 := fit_str (by decide +kernel) (by decide +kernel) (by decide +kernel)
  have w3 : Fit (.str "commit") 0 20 := fit_str (by decide +kernel) (by decide +kernel) (by decide +kernel)
  have w4 : Fit (.str "tag") 0 20 := fit_str (by decide +kernel) (by decide +kernel) (by decide +kernel)
  cases t with
  | blob o =>
    obtain ⟨h1, h2⟩ := ok
    exact (fit_tup (fit_cons w1 (fit_cons (fit_tup (fit_ints (n := 1) (fun i hi => by have := h2 i hi; omega) h1)) fit_nil))).mono (by decide) (by decide)
  | tree rows =>
    obtain ⟨h1, h2⟩ := ok
    have hr : ∀ d ∈ rows.map rowD, Fit d 2 10 := fun d hd => by
      obtain ⟨r, hr, rfl⟩ := List.mem_map.mp hd
      obtain ⟨a1, a2, a3⟩ := h2 r hr
      exact (fit_tup (fit_cons (fit_tup (fit_cons (fit_int (by omega) (by omega)) fit_nil)) (fit_cons (fit_int (by omega) (by omega)) (fit_cons (fit_int (by omega) (by omega)) fit_nil)))).mono (by decide) (by decide)
    have := (fit_all hr).mono (Nat.le_refl 2) (b' := 33) (by rw [List.length_map]; omega)
    exact (fit_tup (fit_cons w2 (fit_cons (fit_tup this) fit_nil))).mono (by decide) (by decide)
  | commit a ps =>
    obtain ⟨h1, h2, h3⟩ := ok
    exact (fit_tup (fit_cons w3 (fit_cons (fit_int (by omega) (by omega)) (fit_cons (fit_tup (fit_ints (n := 2) (fun i hi => by have := h3 i hi; omega) h1)) (fit_cons (fit_int (by decide) (by decide)) (fit_cons (fit_tup fit_nil) fit_nil)))))).mono (by decide) (by decide)
  | tag a =>
    have h : 0 ≤ a ∧ a < 50 := ok
    exact (fit_tup (fit_cons w4 (fit_cons (fit_int (by omega) (by omega)) (fit_cons (fit_tup fit_nil) fit_nil)))).mono (by decide) (by decide)
/-- the dict of the things as data -/
def thsD (ts : Ths) : List (PyData × PyData) := ts.map fun p => (.int p.1, thD p.2)
theorem kv_fit : ∀ {ts : Ths}, (∀ p ∈ ts, (0 ≤ p.1 ∧ p.1 < 50) ∧ p.2.Ok) → PyData.showableKv (thsD ts) = true ∧ PyData.leavesShortKv 13 (thsD ts) = true ∧ PyData.depthKv (thsD ts) ≤ 4 ∧ PyData.bulkKv (thsD ts) ≤ 202 * ts.length
  | [], _ => ⟨rfl, rfl, Nat.zero_le _, Nat.zero_le _⟩
  | (n, t) :: ts, h => by
    obtain ⟨⟨h1, h2⟩, h3⟩ := h (n, t) List.mem_cons_self
    obtain ⟨i1, i2, i3, i4⟩ := kv_fit (ts := ts) fun p hp => h p (List.mem_cons_of_mem _ hp)
    have f1 : Fit (.int n) 0 0 := fit_int h1 (show n < 100 by simp only at h2; omega)
    have f2 : Fit (thD t) 4 200 := fit_thD h3
    unfold thsD at i1 i2 i3 i4 ⊢
    refine ⟨by simp [PyData.showableKv, f1.sh, f2.sh, i1], by simp [PyData.leavesShortKv, f1.lv, f2.lv, i2], ?_, ?_⟩
    · have a := f1.dp
      have b := f2.dp
      simp only [List.map_cons, PyData.depthKv]
      omega
    · have a := f1.bk
      have b := f2.bk
      simp only [List.map_cons, PyData.bulkKv, List.length_cons]
      omega
end Kw
end
section
/-! KwG: the box and the tables of code objects change, all else stays. -/
namespace Kw
open PySem PySem.Spec PyProof.Rows L2 Evl
structure LR (T : List (Addr × Str)) (b : Addr) (H H' : Hp) : Prop where
  st : ∀ a o, H a = some o → a ≠ b → (∀ ps, o ≠ .tbl ps) → H' a = some o
  box : BoxA H' b
  tb : LamX.Tabs T H'
section
variable {T : List (Addr × Str)} {b : Addr} {H H' H1 H2 : Hp}
theorem LR.trans (r : LR T b H H1) (r2 : LR T b H1 H2) : LR T b H H2 := ⟨fun a o h n t => r2.st a o (r.st a o h n t) n t, r2.box, r2.tb⟩
theorem LR.of (hb : BoxA H b) (ht : LamX.Tabs T H) (e : Ex H H') : LR T b H H' := ⟨fun a o h _ _ => e a o h, (RB.of hb e).box, ht.ext e⟩
theorem LR.refl (hb : BoxA H b) (ht : LamX.Tabs T H) : LR T b H H := LR.of hb ht (Ex.refl H)
theorem LR.ext (r : LR T b H H1) (e : Ex H1 H2) : LR T b H H2 := r.trans (LR.of r.box r.tb e)
theorem tabs_rb (hb : BoxA H b) (ht : LamX.Tabs T H) (r : RB b H H') : LamX.Tabs T H' := fun p hp => by
  obtain ⟨ps, h1, h2, h3⟩ := ht p hp
  obtain ⟨g, s, hx⟩ := hb
  refine ⟨ps, r.at h1 (fun z => ?_), h2, fun pos cv hc => ?_⟩
  · rw [z, hx] at h1
    cases h1
  · obtain ⟨c, e1, e2⟩ := h3 pos cv hc
    refine ⟨c, e1, r.at e2 fun z => ?_⟩
    rw [z, hx] at e2
    cases e2
theorem LR.of_rb (hb : BoxA H b) (ht : LamX.Tabs T H) (r : RB b H H') : LR T b H H' := ⟨fun a o h n _ => r.at h n, r.box, tabs_rb hb ht r⟩
theorem LR.of_extn (hb : BoxA H b) (e : LamX.ExtN H H') (ht : LamX.Tabs T H') : LR T b H H' := ⟨fun a o h _ t => e a o h t, by
  obtain ⟨g, s, hx⟩ := hb
  exact ⟨g, s, e b _ hx fun ps => by intro z; cases z⟩, ht⟩
theorem LR.tk (hb : BoxA H b) (r : LR T b H H') : TupK H H' := fun a xs h => by
  obtain ⟨g, s, hx⟩ := hb
  have ne : a ≠ b := fun z => by
    rcases h with h | ⟨o, h⟩ <;> (rw [z, hx] at h; cases h)
  rcases h with h | ⟨o, h⟩
  · exact .inl (r.st a _ h ne fun ps => by intro z; cases z)
  · exact .inr ⟨o, r.st a _ h ne fun ps => by intro z; cases z⟩
theorem LR.dp {K : PySem.W.Frag} {v : V} {d : PyData} (hb : BoxA H b) (r : LR T b H H') (i : imm d = true) (h : Dp K H v d) : Dp K H' v d := dp_tk (r.tk hb) d v i h
theorem LR.lst {p : Addr} {xs : List V} (r : LR T b H H') (h : H p = some (.lst xs)) (ne : p ≠ b) : H' p = some (.lst xs) := r.st p _ h ne fun ps => by intro z; cases z
theorem LR.ths {K : PySem.W.Frag} {d : Addr} {ts : Ths} (hb : BoxA H b) (r : LR T b H H') (h : ThO K H d ts) : ThO K H' d ts := by
  obtain ⟨us, h1, h2⟩ := h
  refine ⟨us, r.st d _ h1 (fun z => ?_) (fun ps => by intro z; cases z), dpA_tk (r.tk hb) _ _ (imm_ths ts) h2⟩
  obtain ⟨g, s, hx⟩ := hb
  rw [z, hx] at h1
  cases h1
theorem RB.ths {K : PySem.W.Frag} {d : Addr} {ts : Ths} (hb : BoxA H b) (r : RB b H H') (h : ThO K H d ts) : ThO K H' d ts := by
  obtain ⟨us, h1, h2⟩ := h
  refine ⟨us, r.at h1 (fun z => ?_), dpA_tk (r.tk hb) _ _ (imm_ths ts) h2⟩
  obtain ⟨g, s, hx⟩ := hb
  rw [z, hx] at h1
  cases h1
end
section
variable {K : PySem.W.Frag} {T : List (Addr × Str)} {σ : L2.St} {b : Addr} {H H' H1 H2 : Hp} {ta tb te td ty tl : TE} {tt tu : TT} {v : V} {d : PyData} {P P1 P2 R : PV} {D : Ends} {tz tw : TS} {n : Nat}
def EvR (T : List (Addr × Str)) (b : Addr) (te : TE) (σ : L2.St) (H : Hp) (P : PV) : Prop := ∀ H1, LR T b H H1 → ∀ Q : VK, (∀ v H2, LR T b H1 H2 → P v H2 → Q v H2) → te σ H1 Q
def EvTR (T : List (Addr × Str)) (b : Addr) (tt : TT) (σ : L2.St) (H : Hp) (x : Bool) : Prop := ∀ H1, LR T b H H1 → ∀ Q : Bool → Hp → Prop, (∀ H2, LR T b H1 H2 → Q x H2) → tt σ H1 Q
theorem EvR.imp (h : EvR T b te σ H P) (k : ∀ v H', LR T b H H' → P v H' → R v H') : EvR T b te σ H R := fun H1 r Q q => h H1 r Q fun v H2 r2 p => q v H2 r2 (k v H2 (r.trans r2) p)
theorem er_of (h : ∀ H1, LR T b H H1 → EvP te σ H1 P) : EvR T b te σ H P := fun H1 r Q q => h H1 r H1 (Ex.refl _) Q fun v H2 e p => q v H2 (LR.of r.box r.tb e) p
theorem er_s {S : PyData → Prop} (h : ∀ H1, LR T b H H1 → EvS K b te σ H1 S) : EvR T b te σ H (fun v H' => ∃ d, S d ∧ imm d = true ∧ Dp K H' v d) := fun H1 r Q q => h H1 r H1 (RB.refl r.box) Q fun v H2 d r2 s i p => q v H2 (LR.of_rb r.box r.tb r2) ⟨d, s, i, p⟩
/-- both operands data that stays, or values -/
theorem er_op {r : R2} (u1 : ∀ v H H', LR T b H H' → BoxA H b → P1 v H → P1 v H') (h : EvR T b ta σ H P1) (h' : EvR T b tb σ H P2) (k : ∀ v w H1, LR T b H H1 → P1 v H1 → P2 w H1 → ∀ Q : VK, (∀ z, R z H1 → Q z H1) → r v w H1 Q) : EvR T b (tOp r ta tb) σ H R := fun H1 r1 Q q =>
  h H1 r1 _ fun v H2 r2 p => h' H2 (r1.trans r2) _ fun w H3 r3 p' => k v w H3 ((r1.trans r2).trans r3) (u1 v H2 H3 r3 r2.box p) p' Q fun z hz => q z H3 (r2.trans r3) hz
theorem er_ne {x y : Str} (h : EvR T b ta σ H (fun v _ => v = .str x)) (h' : EvR T b tb σ H (fun v _ => v = .str y)) (e : x = y) : EvTR T b (tTest (tOp rNe ta tb)) σ H false := fun H1 r1 Q q =>
  h H1 r1 _ fun v H2 r2 p => h' H2 (r1.trans r2) _ fun w H3 r3 p' => by
    subst p
    subst p'
    subst e
    refine ⟨rfl, false, by simp, q H3 (r2.trans r3)⟩
theorem er_neD {a c : Nat} (h : EvR T b ta σ H (fun v H' => Dp K H' v d)) (h' : EvR T b tb σ H (fun v H' => Dp K H' v d)) (i : imm d = true) (f : Fit d a c) (ha : a ≤ 60) : EvTR T b (tTest (tOp (rNeD K) ta tb)) σ H false := fun H1 r1 Q q =>
  h H1 r1 _ fun v H2 r2 p => h' H2 (r1.trans r2) _ fun w H3 r3 p' => by
    refine ⟨d, d, r3.dp r2.box i p, p', f.shaped ha, f.shaped ha, false, ?_, q H3 (r2.trans r3)⟩
    rw [eqv_self f]
    rfl
theorem er_repr {a c : Nat} (h : EvR T b te σ H (fun v H' => Dp K H' v d)) (hd : (∃ ds, d = .tuple ds) ∨ ∃ ds, d = .list ds) (f : Fit d a c) (ha : a ≤ 60) (hc : c ≤ 2 ^ 20) : EvR T b (tCB (rReprD K) (tCons te tNil)) σ H (fun v _ => v = .str d.shown) := fun H1 r1 Q q =>
  h H1 r1 _ fun v H2 r2 p => by
    have : ∃ x, v = .ref x := by
      rcases hd with ⟨ds, rfl⟩ | ⟨ds, rfl⟩
      · obtain ⟨x, _, e, _⟩ := dp_tup p
        exact ⟨x, e⟩
      · obtain ⟨x, _, e, _⟩ := dp_lst p
        exact ⟨x, e⟩
    obtain ⟨x, rfl⟩ := this
    exact ⟨x, d, rfl, p, f.sh, Nat.le_trans f.dp ha, f.shown hc, q _ H2 r2 rfl⟩
theorem er_reprK {x : Addr} {ts : Ths} (h : EvR T b te σ H (fun v H' => v = .ref x ∧ ThO K H' x ts)) (ok : TsOk ts) : EvR T b (tCB (rReprK K) (tCons te tNil)) σ H (fun v _ => v = .str (PyData.dict (thsD ts)).shown) := fun H1 r1 Q q =>
  h H1 r1 _ fun v H2 r2 p => by
    obtain ⟨rfl, us, h1, h2⟩ := p
    have l9 := ok.len
    have lu : us.length = ts.length := by rw [dpA_len h2, List.length_map]
    obtain ⟨k1, k2, k3, k4⟩ := kv_fit (ts := ts) fun p hp => ⟨ok.nm _ (List.mem_map.mpr ⟨p, hp, rfl⟩), ok.ok p hp⟩
    have e : ((kvsOf ts us).map (fun p => keyD p.1)).zip (ts.map fun p => thD p.2) = thsD ts := by
      have e1 : (kvsOf ts us).map (fun p => keyD p.1) = ts.map fun p => PyData.int p.1 := by
        have := congrArg (List.map keyD) (kvs_keys (ts := ts) lu)
        rw [List.map_map] at this
        rw [show (kvsOf ts us).map (fun p => keyD p.1) = (kvsOf ts us).map (keyD ∘ fun x => x.1) from rfl, this]
        simp [names, keyD, Function.comp_def]
      rw [e1]
      unfold thsD
      clear h1 h2 lu k1 k2 k3 k4 l9 ok e1 h q
      induction ts with
      | nil => rfl
      | cons p ts ih => simp only [List.map_cons, List.zip_cons_cons, ih]
    have hv : (kvsOf ts us).map (·.2) = us := zip_snd (by simp [names, lu])
    refine ⟨x, kvsOf ts us, ts.map fun p => thD p.2, rfl, .inl h1, by rw [hv]; exact h2, imm_ths ts, ?_, ?_, ?_, ?_⟩
    · rw [e]
      simpa [PyData.showable] using k1
    · rw [e]
      simp only [PyData.depth]
      omega
    · rw [e]
      refine PyData.shown_fits_bulk (B := 13) (by decide) (by decide) (by simpa [PyData.leavesShort] using k2) ?_
      simp only [PyData.bulk]
      omega
    · rw [e]
      exact q _ H2 r2 rfl
theorem et_orR {x y : Bool} (h1 : EvTR T b tt σ H x) (h2 : x = false → EvTR T b tu σ H y) : EvTR T b (tOr tt tu) σ H (x || y) := fun H1 r1 Q q => h1 H1 r1 _ fun H2 r2 => by
  cases x with
  | true =>
    show Q true H2
    exact q H2 r2
  | false =>
    show tu σ H2 Q
    exact h2 rfl H2 (r1.trans r2) Q fun H3 r3 => q H3 (r2.trans r3)
theorem et_andR {x y : Bool} (h1 : EvTR T b tt σ H x) (h2 : x = true → EvTR T b tu σ H y) : EvTR T b (tAnd tt tu) σ H (x && y) := fun H1 r1 Q q => h1 H1 r1 _ fun H2 r2 => by
  cases x with
  | true =>
    show tu σ H2 Q
    exact h2 rfl H2 (r1.trans r2) Q fun H3 r3 => q H3 (r2.trans r3)
  | false =>
    show Q false H2
    exact q H2 r2
theorem et_ofR {x : Bool} (h : ∀ H1, LR T b H H1 → EvT tt σ H1 x) : EvTR T b tt σ H x := fun H1 r Q q => h H1 r H1 (Ex.refl _) Q fun H2 e => q H2 (LR.of r.box r.tb e)
theorem et_isR {x y : Bool} (h : EvTR T b tt σ H x) (e : x = y) : EvTR T b tt σ H y := by
  rw [← e]
  exact h
/-- if .. : return False, where it does not come to it -/
theorem q_noR (h : EvTR T b tt σ H false) (hb : BoxA H b) (ht : LamX.Tabs T H) (k : ∀ H1, LR T b H H1 → tz D σ H1) : tSeq (tIfS tt tw tNext) tz D σ H := h H (LR.refl hb ht) _ fun H1 r1 => k H1 r1
theorem s_noR (h : EvTR T b tt σ H false) (hb : BoxA H b) (ht : LamX.Tabs T H) (k : ∀ H1, LR T b H H1 → D.nx σ H1) : tIfS tt tw tNext D σ H := h H (LR.refl hb ht) _ fun H1 r1 => k H1 r1
theorem q_asgR (h : EvR T b te σ H P) (hb : BoxA H b) (ht : LamX.Tabs T H) (k : ∀ v H1, LR T b H H1 → P v H1 → tz D (σ.set n (some v)) H1) : tSeq (tAsg te (gName n)) tz D σ H := h H (LR.refl hb ht) _ k
theorem q_asgGR {g : TG} (h : EvR T b te σ H P) (hb : BoxA H b) (ht : LamX.Tabs T H) (k : ∀ v H1, LR T b H H1 → P v H1 → g v σ H1 fun σ2 H2 => tz D σ2 H2) : tSeq (tAsg te g) tz D σ H := h H (LR.refl hb ht) _ k
/-- a lambda called by _law_heard -/
theorem er_lam {aN aR : Addr} {t : XK → TE} (h : ∀ H1, LR T b H H1 → ∀ Q : VK, (∀ v H2, LR T b H1 H2 → P v H2 → Q v H2) → THeard aN aR (fun E H' Q' => t E σ H' Q') H1 Q) : EvR T b (LamX.tLam T (THeard aN aR) t) σ H P := fun H1 r1 Q q =>
  ⟨r1.tb, fun H2 e2 t2 => h H2 (r1.trans (LR.of_extn r1.box e2 t2)) Q fun v H3 r3 p => q v H3 ((LR.of_extn r1.box e2 t2).trans r3) p⟩
end
end Kw
end
section
/-! KwJ: the law's questions, one by one. -/
namespace Kw
open PySem PySem.Spec PyProof.Rows L2 Evl
section
variable {K : PySem.W.Frag} {T : List (Addr × Str)} {σ : L2.St} {b d : Addr} {H H' H1 H2 : Hp} {ts : Ths} {aN aR : Addr}
theorem ep_kw {sp : Sp} {gV : List V → List V → List V} {E : XK} {tk : TA} {P : List V → Hp → Prop} {R : PV} (h : EvPA tk σ H P) (k : ∀ zs H1, Ex H H1 → P zs H1 → ∀ Q : VK, RetP H1 R Q → sp (gV [] zs) H1 Q E) : EvP (tKw sp gV E tk) σ H R := fun H1 e Q q =>
  h H1 e _ fun zs H2 e2 p => k zs H2 (e.trans e2) p Q fun v H3 e3 r => q v H3 (e2.trans e3) r
/-- the pairs that lack, as data -/
def lackD (ps : List (List Int)) : PyData := .tuple (ps.map intsD)
theorem fit_lack {ps : List (List Int)} (ok : TsOk ts) (h : IsLack ts ps) : Fit (lackD ps) 2 200 := by
  have hp : ∀ q ∈ ps, Pr q := fun q hq => lackAll_pr ok ((h.mem q).1 hq)
  have hl : ps.length ≤ 27 := by
    have nd : ps.Nodup := List.Pairwise.imp (fun {a b} hab e => by rw [e] at hab; omega) h.asc
    exact Nat.le_trans (nodup_len nd fun q hq => (h.mem q).1 hq) (lackAll_len ok)
  have hf : ∀ e ∈ ps.map intsD, Fit e 1 2 := fun e he => by
    obtain ⟨q, hq, rfl⟩ := List.mem_map.mp he
    obtain ⟨x, y, rfl, hx, hy⟩ := hp q hq
    exact fit_tup (fit_ints (n := 2) (fun i hi => by
      rcases List.mem_cons.mp hi with z | z
      · rw [z]; omega
      · have : i = y := by simpa using z
        rw [this]; omega) (by simp))
  exact (fit_tup (fit_all hf)).mono (by decide) (by rw [List.length_map]; omega)
theorem imm_lack (ps : List (List Int)) : imm (lackD ps) = true := by
  show immA (ps.map intsD) = true
  rw [immA_iff]
  intro e he
  obtain ⟨q, _, rfl⟩ := List.mem_map.mp he
  exact imm_intsD q
theorem eqv_lackNil (ps : List (List Int)) : PyData.eqv (lackD ps) (.tuple []) = decide (ps = []) := by
  cases ps <;> simp [lackD, PyData.eqv, PyData.eqvAll]
theorem ask_lacking {v8 : V} {ps : List (List Int)} (hb : BoxA H b) (s5 : σ[5]? = some (some (.ref d))) (s8 : σ[8]? = some (some v8)) (hd : ThO K H d ts) (ok : TsOk ts) (h8 : Dp K H v8 (lackD ps)) (hps : IsLack ts ps) :
    EvTR T b (tOr (tTest (tOp rNe (tCB (rReprD K) (tCons (tLst (tCons (tCall (spLacking K) [] E0 (tCons (tVar 5) tNil)) (tCons (tKw (spLacking K) kw1 E0 (tCons (tVar 5) tNil)) tNil))) tNil)) (tCB (rReprD K) (tCons (tLst (tCons (tVar 8) (tCons (tVar 8) tNil))) tNil))))
      (tTest (tOp rNe (tCB (rReprD K) (tCons (tLst (tCons (tCall (spClosed K) [] E0 (tCons (tVar 5) tNil)) (tCons (tKw (spClosed K) kw1 E0 (tCons (tVar 5) tNil)) tNil))) tNil)) (tCB (rReprD K) (tCons (tOp rRep (tLst (tCons (tOp (rEqD K) (tVar 8) (tTup tNil)) tNil)) (tC (.int 2))) tNil))))) σ H false := by
  have c1 : ∀ H1, LR T b H H1 → EvD K (tCall (spLacking K) [] E0 (tCons (tVar 5) tNil)) σ H1 (lackD ps) := fun H1 r1 => ep_call (P := fun vs H' => vs = [.ref d] ∧ Ex H1 H') (ea_epa (ea_one (ev_var s5)) fun H2 e => ⟨rfl, e⟩) (fun vs H2 e p Q q => ⟨d, ts, by rw [p.1] <;> rfl, (r1.ths hb hd).ex p.2, ok, fun v H3 e3 ⟨ps', h1, h2⟩ => q v H3 e3 (by rw [isLack_eq ok hps h1]; exact h2)⟩)
  have c2 : ∀ H1, LR T b H H1 → EvD K (tKw (spLacking K) kw1 E0 (tCons (tVar 5) tNil)) σ H1 (lackD ps) := fun H1 r1 => ep_kw (P := fun vs H' => vs = [.ref d] ∧ Ex H1 H') (ea_epa (ea_one (ev_var s5)) fun H2 e => ⟨rfl, e⟩) (fun vs H2 e p Q q => ⟨d, ts, by rw [p.1] <;> rfl, (r1.ths hb hd).ex p.2, ok, fun v H3 e3 ⟨ps', h1, h2⟩ => q v H3 e3 (by rw [isLack_eq ok hps h1]; exact h2)⟩)
  have d1 : ∀ H1, LR T b H H1 → EvD K (tCall (spClosed K) [] E0 (tCons (tVar 5) tNil)) σ H1 (.bool (decide (ps = []))) := fun H1 r1 => ep_call (P := fun vs H' => vs = [.ref d] ∧ Ex H1 H') (ea_epa (ea_one (ev_var s5)) fun H2 e => ⟨rfl, e⟩) (fun vs H2 e p Q q => ⟨d, ts, by rw [p.1] <;> rfl, (r1.ths hb hd).ex p.2, ok, fun v H3 e3 ⟨ps', h1, h2⟩ => q v H3 e3 (by rw [h2, isLack_eq ok hps h1]; exact .bl _)⟩)
  have d2 : ∀ H1, LR T b H H1 → EvD K (tKw (spClosed K) kw1 E0 (tCons (tVar 5) tNil)) σ H1 (.bool (decide (ps = []))) := fun H1 r1 => ep_kw (P := fun vs H' => vs = [.ref d] ∧ Ex H1 H') (ea_epa (ea_one (ev_var s5)) fun H2 e => ⟨rfl, e⟩) (fun vs H2 e p Q q => ⟨d, ts, by rw [p.1] <;> rfl, (r1.ths hb hd).ex p.2, ok, fun v H3 e3 ⟨ps', h1, h2⟩ => q v H3 e3 (by rw [h2, isLack_eq ok hps h1]; exact .bl _)⟩)
  have v8R : ∀ H1, LR T b H H1 → EvD K (tVar 8) σ H1 (lackD ps) := fun H1 r1 => ed_var s8 (r1.dp hb (imm_lack ps) h8)
  have f8 := fit_lack ok hps
  have fL : Fit (.list [lackD ps, lackD ps]) 3 500 := (fit_lst (fit_cons f8 (fit_cons f8 fit_nil))).mono (by decide) (by decide)
  have fB : Fit (.list [.bool (decide (ps = [])), .bool (decide (ps = []))]) 3 500 := (fit_lst (fit_cons (fit_bool _) (fit_cons (fit_bool _) fit_nil))).mono (by decide) (by decide)
  refine et_isR (et_orR (x := false) (y := false) (er_ne (er_repr (d := .list [lackD ps, lackD ps]) (er_of fun H1 r1 => ed_lst (eds_cons (c1 H1 r1) (eds_cons (c2 H1 r1) eds_nil)) (by simp)) (.inr ⟨_, rfl⟩) fL (by decide) (by decide)) (er_repr (d := .list [lackD ps, lackD ps]) (er_of fun H1 r1 => ed_lst (eds_cons (v8R H1 r1) (eds_cons (v8R H1 r1) eds_nil)) (by simp)) (.inr ⟨_, rfl⟩) fL (by decide) (by decide)) rfl)
    fun _ => er_ne (er_repr (d := .list [.bool (decide (ps = [])), .bool (decide (ps = []))]) (er_of fun H1 r1 => ed_lst (eds_cons (d1 H1 r1) (eds_cons (d2 H1 r1) eds_nil)) (by simp)) (.inr ⟨_, rfl⟩) fB (by decide) (by decide)) (er_repr (d := .list [.bool (decide (ps = [])), .bool (decide (ps = []))]) (er_of fun H1 r1 => ?_) (.inr ⟨_, rfl⟩) fB (by decide) (by decide)) rfl) rfl
  have heq := ev_eqD (v8R H1 r1) (ed_tup (K := K) (ta := tNil) (ds := []) eds_nil (by simp)) (f8.shaped (by decide)) ((fit_tup fit_nil).shaped (by decide))
  rw [eqv_lackNil] at heq
  exact EvP.imp (en_rep (K := K) (ds := [.bool (decide (ps = []))]) (n := 2) (EvP.imp (en_lst (eds_cons (edB heq) eds_nil) (by simp)) fun _ _ _ z => z.ls) ev_c (by decide) (by simp)) fun v H2 _ z => z.dp
end
end Kw
end
section
/-! KwJ2: what closure is heard to say. -/
namespace Kw
open PySem PySem.Spec PyProof.Rows L2 Evl
def goneL (ts : Ths) (ns : List Int) : List Int := ns.filter fun n => !has ts n
def dueC (ts : Ths) (ns : List Int) : PyData := match goneL ts ns with
  | [] => .tuple [.str "told", intsD (rounds ts ns ts.length)]
  | g :: _ => .tuple [.str "lacks", .str (toString g)]
theorem gone_nil {ts : Ths} {ns : List Int} (h : goneL ts ns = []) : ∀ n ∈ ns, n ∈ names ts := fun n hn => by
  have := List.filter_eq_nil_iff.mp h n hn
  exact has_iff.mp (by simpa using this)
theorem gone_head {ts : Ths} {pre post : List Int} {n : Int} (h1 : ∀ m ∈ pre, m ∈ names ts) (h2 : n ∉ names ts) : goneL ts (pre ++ n :: post) = n :: goneL ts post := by
  unfold goneL
  rw [List.filter_append, List.filter_eq_nil_iff.mpr fun m hm => by simp [has_iff.mpr (h1 m hm)], List.nil_append, List.filter_cons, if_pos]
  have : has ts n = false := by
    cases q : has ts n with
    | false => rfl
    | true => exact absurd (has_iff.mp q) h2
  rw [this]
  rfl
theorem str_short : ∀ n : Fin 50, PyData.strOk (toString (n.val : Int)) = true ∧ (PyData.str (toString (n.val : Int))).leavesShort 13 = true ∧ (toString (n.val : Int) : Str).cps.size ≤ 20 := by decide +kernel
theorem fit_told {d : PyData} {a b : Nat} (h : Fit d a b) (ha : a ≤ 10) (hb : b ≤ 1000) : Fit (.tuple [.str "told", d]) 20 2000 := (fit_tup (fit_cons (fit_str (x := "told") (by decide +kernel) (by decide +kernel) (by decide +kernel)) (fit_cons h fit_nil))).mono (by omega) (by omega)
theorem fit_due {ts : Ths} {ns : List Int} (ok : TsOk ts) (hn : ∀ n ∈ ns, 0 ≤ n ∧ n < 50) : Fit (dueC ts ns) 20 2000 := by
  unfold dueC
  cases hg : goneL ts ns with
  | nil =>
    have hnm := gone_nil hg
    have hr : ∀ x ∈ rounds ts ns ts.length, x ∈ names ts := fun x hx => reach_names hnm (rounds_re _ x hx)
    have hl : (rounds ts ns ts.length).length ≤ 9 := by
      have h1 := nodup_len (rounds_asc ts ns ts.length).nodup hr
      have h2 := ok.len
      simp only [names, List.length_map] at h1
      omega
    exact fit_told (fit_tup (fit_ints (n := 9) (fun i hi => by have := ok.nm i (hr i hi); omega) hl)) (by decide) (by decide)
  | cons g gs =>
    have hgm : g ∈ ns := (List.mem_filter.mp (show g ∈ goneL ts ns by rw [hg]; exact List.mem_cons_self)).1
    obtain ⟨n, rfl⟩ : ∃ n : Nat, g = (n : Int) := ⟨g.toNat, by have := hn g hgm; omega⟩
    obtain ⟨s1, s2, s3⟩ := str_short ⟨n, by have := hn _ hgm; omega⟩
    exact (fit_tup (fit_cons (fit_str (x := "lacks") (by decide +kernel) (by decide +kernel) (by decide +kernel)) (fit_cons (fit_str s1 s2 s3) fit_nil))).mono (by decide) (by decide)
theorem imm_due (ts : Ths) (ns : List Int) : imm (dueC ts ns) = true := by
  unfold dueC
  split
  · show (imm (.str "told") && (imm (intsD _) && true)) = true
    rw [imm_intsD] <;> rfl
  · rfl
theorem due_tup (ts : Ths) (ns : List Int) : ∃ ds, dueC ts ns = .tuple ds := by
  unfold dueC
  split <;> exact ⟨_, rfl⟩
section
variable {K : PySem.W.Frag} {T : List (Addr × Str)} {σ : L2.St} {b d st : Addr} {H H' H1 H2 : Hp} {ts : Ths} {ns : List Int} {aN aR : Addr}
theorem heard_closure (hd : ThO K H d ts) (ok : TsOk ts) (hs : SqL K H st (ns.map V.int) ∨ SqT K H st (ns.map V.int)) (hl : ns.length ≤ 9) (hn : ∀ n ∈ ns, 0 ≤ n ∧ n < 50) {Q : VK} (q : ∀ v H2, Ex H H2 → Dp K H2 v (dueC ts ns) → Q v H2) :
    spClosure K aN [.ref d, .ref st] H (fun v H' => [V.str "told", v].length ≤ sizeLine ∧ ∀ a, H' a = none → Q (.ref a) (upd H' a (.tup [.str "told", v]))) (EchH aN aR Q) := by
  refine ⟨d, st, ts, ns, rfl, hd, ok, hs, hl, fun hin v H2 e2 ⟨rs, h1, h2, h3⟩ => ⟨by show 2 ≤ sizeLine; decide, fun a na => q _ _ (e2.trans (Ex.new na)) ?_⟩, fun pre n post hns hpre hno H2 x e2 hx => .inl ⟨rfl, x, n, rfl, hx, ?_, fun a na => q _ _ (e2.trans (Ex.new na)) ?_⟩⟩
  · have hg : goneL ts ns = [] := List.filter_eq_nil_iff.mpr fun n hn => by simp [has_iff.mpr (hin n hn)]
    have e : dueC ts ns = .tuple [.str "told", intsD (rounds ts ns ts.length)] := by
      unfold dueC
      rw [hg]
    have er : rs = rounds ts ns ts.length := reach_eq h1 (rounds_asc _ _ _) h2 (rounds_all hin)
    rw [e, ← er]
    exact .tup (st_of upd_same) (.cons (.str _) (.cons (dp_ex (Ex.new na) _ _ h3) .nil))
  · have hm := hn n (by rw [hns]; simp)
    obtain ⟨k, rfl⟩ : ∃ k : Nat, n = (k : Int) := ⟨n.toNat, by omega⟩
    exact (int_short ⟨k, by omega⟩).2
  · have e : dueC ts ns = .tuple [.str "lacks", .str (toString n)] := by
      unfold dueC
      rw [hns, gone_head hpre hno]
    rw [e]
    exact .tup (st_of upd_same) (.cons (.str _) (.cons (.str _) .nil))
/-- _law_heard(lambda: closure(things, starts)) -/
theorem er_closure (hb : BoxA H b) (s5 : σ[5]? = some (some (.ref d))) (s10 : σ[10]? = some (some (.ref st))) (hd : ThO K H d ts) (ok : TsOk ts) (hs : H st = some (.lst (ns.map V.int))) (nb : st ≠ b) (hl : ns.length ≤ 9) (hn : ∀ n ∈ ns, 0 ≤ n ∧ n < 50) :
    EvR T b (LamX.tLam T (THeard aN aR) fun E' => tCallS (spClosure K aN) (fun _ => E') (tCons (tVar 5) (tCons (tVar 10) tNil))) σ H (fun v H' => Dp K H' v (dueC ts ns)) := er_lam fun H1 r1 Q q =>
  ⟨.ref d, s5, .ref st, s10, heard_closure (r1.ths hb hd) ok (.inl (sq_of (r1.lst hs nb))) hl hn fun v H2 e2 p => q v H2 (LR.of r1.box r1.tb e2) p⟩
theorem er_closureK (hb : BoxA H b) (s5 : σ[5]? = some (some (.ref d))) (s10 : σ[10]? = some (some (.ref st))) (hd : ThO K H d ts) (ok : TsOk ts) (hs : H st = some (.lst (ns.map V.int))) (nb : st ≠ b) (hl : ns.length ≤ 9) (hn : ∀ n ∈ ns, 0 ≤ n ∧ n < 50) :
    EvR T b (LamX.tLam T (THeard aN aR) fun E' => tKwS (spClosure K aN) kw2r (fun _ => E') (tCons (tCB (rTupS K) (tCons (tVar 10) tNil)) (tCons (tVar 5) tNil))) σ H (fun v H' => Dp K H' v (dueC ts ns)) := er_lam fun H1 r1 Q q =>
  ⟨.ref st, s10, st, ns.map V.int, rfl, .inl ⟨sq_of (r1.lst hs nb), fun l nl => ⟨.ref d, s5, heard_closure ((r1.ths hb hd).ex (Ex.new nl)) ok (.inr (st_of upd_same)) hl hn fun v H2 e2 p => q v H2 (LR.of r1.box r1.tb ((Ex.new nl).trans e2)) p⟩⟩⟩
/-- what is due, worked out by the law -/
theorem ep_due {l : Addr} (s5 : σ[5]? = some (some (.ref d))) (s10 : σ[10]? = some (some (.ref st))) (s11 : σ[11]? = some (some (.ref l))) (hd : ThO K H d ts) (ok : TsOk ts) (hs : H st = some (.lst (ns.map V.int))) (hgl : H l = some (.lst ((goneL ts ns).map V.int))) (hl : ns.length ≤ 9) (hn : ∀ n ∈ ns, 0 ≤ n ∧ n < 50) :
    EvP (tIf (tTest (tOp (rNeD K) (tVar 11) (tLst tNil))) (tTup (tCons (tC (.str "lacks")) (tCons (tCB (fun xs H Q => ∃ i, xs = [V.int i] ∧ i.natAbs.log2 < 1920 ∧ Q (V.str (toString i)) H) (tCons (tOp (rIxL K) (tVar 11) (tC (.int 0))) tNil)) tNil)))
      (tTup (tCons (tC (.str "told")) (tCons (tCall (spLCome K) [] E0 (tCons (tVar 5) (tCons (tVar 10) tNil))) tNil)))) σ H (fun v H' => Dp K H' v (dueC ts ns)) := by
  refine ep_if (et_test (ev_neNil (ed_var s11 (dp_lstOf (sq_of hgl))))) (fun hb => ?_) (fun hb => ?_)
  · obtain ⟨g, gs, hg⟩ : ∃ g gs, goneL ts ns = g :: gs := by
      cases q : goneL ts ns with
      | nil => rw [q] at hb; cases hb
      | cons g gs => exact ⟨g, gs, rfl⟩
    have e : dueC ts ns = .tuple [.str "lacks", .str (toString g)] := by
      unfold dueC
      rw [hg]
    rw [e]
    have hgm : g ∈ ns := (List.mem_filter.mp (show g ∈ goneL ts ns by rw [hg]; exact List.mem_cons_self)).1
    refine ed_tup (eds_cons ed_str (eds_cons (edS (fun H1 e1 Q q => ⟨.ref l, s11, l, _, 0, .int g, rfl, rfl, sq_of (e1 l _ hgl), by rw [hg]; exact atI_nat (j := 0) rfl, g, rfl, ?_, q H1 (Ex.refl _)⟩)) eds_nil)) (by simp)
    have hm := hn g hgm
    obtain ⟨k, rfl⟩ : ∃ k : Nat, g = (k : Int) := ⟨g.toNat, by omega⟩
    exact (int_short ⟨k, by omega⟩).2
  · have hg : goneL ts ns = [] := by simpa using hb
    have e : dueC ts ns = .tuple [.str "told", intsD (rounds ts ns ts.length)] := by
      unfold dueC
      rw [hg]
    rw [e]
    exact ed_tup (eds_cons ed_str (eds_cons (ep_call (P := fun vs H' => vs = [.ref d, .ref st] ∧ Ex H H') (ea_epa (ea_two (ev_var s5) (ev_var s10)) fun H1 e => ⟨rfl, e⟩) (fun vs H1 e z Q q => ⟨d, st, ts, ns, by rw [z.1] <;> rfl, hd.ex z.2, ok, sq_of (z.2 st _ hs), hl, gone_nil hg, q⟩)) eds_nil)) (by simp)
end
end Kw
end
section
/-! KwJ3: linkers, order, depths: the law's questions. -/
namespace Kw
open PySem PySem.Spec PyProof.Rows L2 Evl
def isLinker (ts : Ths) (n one : Int) : Bool := match thOf ts one with
  | some t => (norm t.links).contains n
  | none => false
theorem linkers_eq {ts : Ths} (ok : TsOk ts) (n : Int) : (norm (names ts)).filter (isLinker ts n) = norm (linkersL ts n) := norm_eq (asc_filter _ (asc_norm _)) fun x => by
  rw [List.mem_filter, mem_norm]
  unfold linkersL
  rw [List.mem_map]
  constructor
  · intro ⟨h1, h2⟩
    obtain ⟨t, ht⟩ := thOf_some h1
    unfold isLinker at h2
    rw [ht] at h2
    exact ⟨(x, t), List.mem_filter.mpr ⟨thOf_mem ht, h2⟩, rfl⟩
  · intro ⟨p, hp, e⟩
    obtain ⟨h1, h2⟩ := List.mem_filter.mp hp
    have ht : thOf ts x = some p.2 := by
      rw [← e]
      exact thOf_of ok.nd h1
    refine ⟨thOf_in ht, ?_⟩
    unfold isLinker
    rw [ht]
    exact h2
theorem fit_linkers {ts : Ths} (ok : TsOk ts) (n : Int) : Fit (intsD (norm (linkersL ts n))) 1 9 := by
  have hm : ∀ x ∈ linkersL ts n, x ∈ names ts := fun x hx => by
    obtain ⟨p, hp, e⟩ := List.mem_map.mp hx
    rw [← e]
    exact List.mem_map.mpr ⟨p, (List.mem_filter.mp hp).1, rfl⟩
  refine fit_tup (fit_ints (n := 9) (fun i hi => by have := ok.nm i (hm i (mem_norm.mp hi)); omega) ?_)
  have h1 := nodup_len (asc_norm (linkersL ts n)).nodup (ys := names ts) fun x hx => hm x (mem_norm.mp hx)
  have h2 := ok.len
  simp only [names, List.length_map] at h1
  omega
theorem fit_deps {ts : Ths} (ok : TsOk ts) : Fit (depsD ts) 2 50 := by
  have hl : (norm (names ts)).length ≤ 9 := by
    have h1 := norm_len (names ts)
    have h2 := ok.len
    have h3 : (names ts).length = ts.length := by simp [names]
    omega
  have fO := finOk ts
  have hF : (fin ts).1.length ≤ 9 := by
    have h1 := nodup_len fO.nd (ys := names ts) fun x hx => (fO.mem x).2 (.inl hx)
    have h2 := ok.len
    simp only [names, List.length_map] at h1
    omega
  have hp : ∀ e ∈ (deps ts).map pairD, Fit e 1 4 := fun e he => by
    obtain ⟨p, hp, rfl⟩ := List.mem_map.mp he
    obtain ⟨n, hn, rfl⟩ := List.mem_map.mp hp
    have h1 := ok.nm n (mem_norm.mp hn)
    have h2 := dep_bound ts (fin ts).1 n
    exact (fit_tup (fit_cons (fit_int (by omega) (by omega)) (fit_cons (fit_int h2.1 (by omega)) fit_nil))).mono (by decide) (by decide)
  refine (fit_tup (fit_all hp)).mono (by decide) ?_
  unfold deps
  simp only [List.length_map]
  omega
theorem imm_deps (ts : Ths) : imm (depsD ts) = true := by
  show immA ((deps ts).map pairD) = true
  rw [immA_iff]
  intro e he
  obtain ⟨p, _, rfl⟩ := List.mem_map.mp he
  rfl
section
variable {K : PySem.W.Frag} {T : List (Addr × Str)} {σ : L2.St} {b d st : Addr} {H H' H1 H2 : Hp} {ts : Ths} {ns : List Int} {aN aR : Addr} {n : Int}
theorem ep_dueL (s5 : σ[5]? = some (some (.ref d))) (s6 : σ[6]? = some (some (.int n))) (s16 : σ.length = 16) (hd : ThO K H d ts) (ok : TsOk ts) :
    EvP (tCB (rTupS K) (tCons (tLc (iList K (tCB rSrtD (tCons (tVar 5) tNil))) (gName 12) (tTest (tOp (rIn K false) (tVar 6) (tCall (spLLinks K) [] E0 (tCons (tDGet (tVar 5) (tVar 12)) tNil)))) (tVar 12) [12]) tNil)) σ H (fun v H' => Dp K H' v (intsD (norm (linkersL ts n)))) := by
  have nl : (norm (names ts)).length ≤ 9 := by
    have h1 := norm_len (names ts)
    have h2 := ok.len
    have h3 : (names ts).length = ts.length := by simp [names]
    omega
  rw [← linkers_eq ok]
  refine ed_tupL (ds := ((norm (names ts)).filter (isLinker ts n)).map .int) (EvP.imp (en_lc (K := K) (norm (names ts)) PyData.int (isLinker ts n) PyData.int (ei_list (EvP.imp (en_sortTh (K := K) (σ := σ) (ev_var s5) hd ok) fun _ _ _ z => z.dp)) (by omega) (fun _ _ => rfl) (fun one ho x H1 e1 hx => ?_)) fun _ _ _ z => z.dp)
  rw [dp_int hx]
  refine fun H2 e2 Q q => gp_name H2 e2 Q fun σ' hs => q σ' ?_
  subst hs
  have g12 : ((wipe σ [12]).set 12 (some (V.int one)))[12]? = some (some (.int one)) := by rw [List.getElem?_set_self (by simp [wipe, s16])]
  have gk : ∀ k, k ≠ 12 → ((wipe σ [12]).set 12 (some (V.int one)))[k]? = σ[k]? := fun k hk => by
    rw [List.getElem?_set_ne (Ne.symm hk)]
    simp only [wipe]
    rw [List.getElem?_set_ne (Ne.symm hk)]
  have g5 := (gk 5 (by decide)).trans s5
  have g6 := (gk 6 (by decide)).trans s6
  obtain ⟨t, ht⟩ := thOf_some (mem_norm.mp ho)
  have hlk : EvD K (tCall (spLLinks K) [] E0 (tCons (tDGet (tVar 5) (tVar 12)) tNil)) ((wipe σ [12]).set 12 (some (V.int one))) H1 (.list ((norm t.links).map .int)) :=
    EvP.imp (ep_call (R := NewD K H1 ((norm t.links).map .int)) (P := fun vs H' => ∃ u, vs = [u] ∧ Dp K H' u (thD t)) (epa_one (ed_dget (ev_var g5) (ev_var g12) (hd.r.ex e1) ht) fun u H' e p => ⟨u, rfl, p⟩) (fun vs H2 e p Q q => by
      obtain ⟨u, rfl, pu⟩ := p
      exact ⟨u, t, rfl, pu, ok.ok _ (thOf_mem ht), fun v H' e' p' => q v H' e' (p'.back e)⟩)) fun _ _ _ p => p.dp
  refine ⟨by simp [wipe], et_is (et_test (ev_inLD (ev_var g6) hlk)) ?_, fun _ => ed_var g12 (.int one)⟩
  unfold isLinker
  rw [ht]
theorem ask_linkers {v8 : V} (hb : BoxA H b) (s5 : σ[5]? = some (some (.ref d))) (s6 : σ[6]? = some (some (.int n))) (s8 : σ[8]? = some (some v8)) (hd : ThO K H d ts) (ok : TsOk ts) (h8 : Dp K H v8 (intsD (norm (linkersL ts n)))) :
    EvTR T b (tTest (tOp rNe (tCB (rReprD K) (tCons (tLst (tCons (tCall (spLinkers K) [] E0 (tCons (tVar 5) (tCons (tVar 6) tNil))) (tCons (tKw (spLinkers K) kw2r E0 (tCons (tVar 6) (tCons (tVar 5) tNil))) tNil))) tNil)) (tCB (rReprD K) (tCons (tLst (tCons (tVar 8) (tCons (tVar 8) tNil))) tNil)))) σ H false := by
  have c1 : ∀ H1, LR T b H H1 → EvD K (tCall (spLinkers K) [] E0 (tCons (tVar 5) (tCons (tVar 6) tNil))) σ H1 (intsD (norm (linkersL ts n))) := fun H1 r1 => ep_call (P := fun vs H' => vs = [.ref d, .int n] ∧ Ex H1 H') (ea_epa (ea_two (ev_var s5) (ev_var s6)) fun H2 e => ⟨rfl, e⟩) (fun vs H2 e p Q q => ⟨d, n, ts, by rw [p.1] <;> rfl, (r1.ths hb hd).ex p.2, ok, q⟩)
  have c2 : ∀ H1, LR T b H H1 → EvD K (tKw (spLinkers K) kw2r E0 (tCons (tVar 6) (tCons (tVar 5) tNil))) σ H1 (intsD (norm (linkersL ts n))) := fun H1 r1 => ep_kw (P := fun vs H' => vs = [.int n, .ref d] ∧ Ex H1 H') (ea_epa (ea_two (ev_var s6) (ev_var s5)) fun H2 e => ⟨rfl, e⟩) (fun vs H2 e p Q q => ⟨d, n, ts, by rw [p.1] <;> rfl, (r1.ths hb hd).ex p.2, ok, q⟩)
  have v8R : ∀ H1, LR T b H H1 → EvD K (tVar 8) σ H1 (intsD (norm (linkersL ts n))) := fun H1 r1 => ed_var s8 (r1.dp hb (imm_intsD _) h8)
  have f8 := fit_linkers ok n
  have fL : Fit (.list [intsD (norm (linkersL ts n)), intsD (norm (linkersL ts n))]) 3 500 := (fit_lst (fit_cons f8 (fit_cons f8 fit_nil))).mono (by decide) (by decide)
  exact er_ne (er_repr (d := .list [intsD (norm (linkersL ts n)), intsD (norm (linkersL ts n))]) (er_of fun H1 r1 => ed_lst (eds_cons (c1 H1 r1) (eds_cons (c2 H1 r1) eds_nil)) (by simp)) (.inr ⟨_, rfl⟩) fL (by decide) (by decide)) (er_repr (d := .list [intsD (norm (linkersL ts n)), intsD (norm (linkersL ts n))]) (er_of fun H1 r1 => ed_lst (eds_cons (v8R H1 r1) (eds_cons (v8R H1 r1) eds_nil)) (by simp)) (.inr ⟨_, rfl⟩) fL (by decide) (by decide)) rfl
/-- what depths is heard to say -/
def HeardV (K : PySem.W.Frag) (ts : Ths) : PV := fun v H' => ((fin ts).2 = [] ∧ Dp K H' v (.tuple [.str "told", depsD ts])) ∨ ((fin ts).2 ≠ [] ∧ ∃ rs : List Int, (∀ r ∈ rs, r ∈ (fin ts).2) ∧ rs.length ≤ 40 ∧ Dp K H' v (.tuple [.str "refused", intsD rs]))
theorem imm_told (ts : Ths) : imm (.tuple [.str "told", depsD ts]) = true := by
  show (imm (.str "told") && (imm (depsD ts) && true)) = true
  rw [imm_deps] <;> rfl
theorem imm_ref (rs : List Int) : imm (.tuple [.str "refused", intsD rs]) = true := by
  show (imm (.str "refused") && (imm (intsD rs) && true)) = true
  rw [imm_intsD] <;> rfl
theorem HeardV.lr {v : V} (hb : BoxA H b) (r : LR T b H H') (h : HeardV K ts v H) : HeardV K ts v H' := by
  rcases h with ⟨h1, h2⟩ | ⟨h1, rs, h2, h3, h4⟩
  · exact .inl ⟨h1, r.dp hb (imm_told ts) h2⟩
  · exact .inr ⟨h1, rs, h2, h3, r.dp hb (imm_ref rs) h4⟩
theorem er_depths (hb : BoxA H b) (s5 : σ[5]? = some (some (.ref d))) (hd : ThO K H d ts) (ok : TsOk ts) : EvR T b (LamX.tLam T (THeard aN aR) fun E' => tCallS (spDepths K aR) (fun _ => E') (tCons (tVar 5) tNil)) σ H (HeardV K ts) := er_lam fun H1 r1 Q q =>
  ⟨.ref d, s5, d, ts, rfl, r1.ths hb hd, ok, fun hS v H2 e2 hv => ⟨by show 2 ≤ sizeLine; decide, fun a na => q _ _ (LR.of r1.box r1.tb (e2.trans (Ex.new na))) (.inl ⟨hS, .tup (st_of upd_same) (.cons (.str _) (.cons (dp_ex (Ex.new na) _ _ hv) .nil))⟩)⟩,
    fun hS rs h1 h2 v H2 x e2 hv hx => .inr ⟨rfl, x, v, rfl, hx, fun a na => q _ _ (LR.of r1.box r1.tb (e2.trans (Ex.new na))) (.inr ⟨hS, rs, h1, h2, .tup (st_of upd_same) (.cons (.str _) (.cons (dp_ex (Ex.new na) _ _ hv) .nil))⟩)⟩⟩
theorem ask_depths {o l : Addr} {v15 : V} (hb : BoxA H b) (s5 : σ[5]? = some (some (.ref d))) (s13 : σ[13]? = some (some (.ref o))) (s14 : σ[14]? = some (some (.ref l))) (s15 : σ[15]? = some (some v15)) (hd : ThO K H d ts) (ok : TsOk ts)
    (ho : H o = some (.lst ((fin ts).1.map V.int))) (nob : o ≠ b) (hl : H l = some (.lst ((fin ts).2.map V.int))) (nlb : l ≠ b) (h15 : HeardV K ts v15 H) :
    EvTR T b (tAnd (tTest (tOp (rEqD K) (tVar 14) (tLst tNil))) (tOr (tTest (tOp rNe (tCB (rReprD K) (tCons (tVar 15) tNil)) (tCB (rReprD K) (tCons (tTup (tCons (tC (.str "told")) (tCons (tCall (spLDeep K) [] E0 (tCons (tVar 5) (tCons (tVar 13) tNil))) tNil))) tNil))))
      (tTest (tOp (rNeD K) (tKwS (spDepths K aR) kw1 (fun _ _ _ _ => False) (tCons (tVar 5) tNil)) (tOp (rIxT K) (tVar 15) (tC (.int 1))))))) σ H false := by
  refine et_isR (et_andR (x := decide ((fin ts).2 = [])) (y := false) (et_ofR fun H1 r1 => et_test (ev_eqNil (ed_var s14 (dp_lstOf (sq_of (r1.lst hl nlb)))))) fun hS => ?_) (by simp)
  have hS : (fin ts).2 = [] := of_decide_eq_true hS
  have h15' : Dp K H v15 (.tuple [.str "told", depsD ts]) := by
    rcases h15 with ⟨_, h⟩ | ⟨h, _⟩
    · exact h
    · exact absurd hS h
  have v15R : ∀ H1, LR T b H H1 → EvD K (tVar 15) σ H1 (.tuple [.str "told", depsD ts]) := fun H1 r1 => ed_var s15 (r1.dp hb (imm_told ts) h15')
  have fD := fit_deps ok
  have fT : Fit (.tuple [.str "told", depsD ts]) 20 2000 := fit_told fD (by decide) (by decide)
  have cd : ∀ H1, LR T b H H1 → EvD K (tCall (spLDeep K) [] E0 (tCons (tVar 5) (tCons (tVar 13) tNil))) σ H1 (depsD ts) := fun H1 r1 => ep_call (P := fun vs H' => vs = [.ref d, .ref o] ∧ Ex H1 H') (ea_epa (ea_two (ev_var s5) (ev_var s13)) fun H2 e => ⟨rfl, e⟩) (fun vs H2 e p Q q => ⟨d, o, ts, by rw [p.1] <;> rfl, (r1.ths hb hd).ex p.2, ok, sq_of (p.2 o _ (r1.lst ho nob)), hS, q⟩)
  refine et_isR (et_orR (x := false) (y := false) (er_ne (er_repr (er_of v15R) (.inl ⟨_, rfl⟩) fT (by decide) (by decide)) (er_repr (d := .tuple [.str "told", depsD ts]) (er_of fun H1 r1 => ed_tup (eds_cons ed_str (eds_cons (cd H1 r1) eds_nil)) (by simp)) (.inl ⟨_, rfl⟩) fT (by decide) (by decide)) rfl) fun _ => ?_) rfl
  refine er_neD (d := depsD ts) (er_of fun H1 r1 H2 e2 Q q => ⟨.ref d, s5, d, ts, rfl, (r1.ths hb hd).ex e2, ok, fun _ v H3 e3 hv => q v H3 e3 hv, fun h => absurd hS h⟩) (er_of fun H1 r1 => ed_ixT (n := 1) (v15R H1 r1) ev_c rfl) (imm_deps ts) fD (by decide)
theorem ask_ring {l : Addr} {v15 : V} (hb : BoxA H b) (s14 : σ[14]? = some (some (.ref l))) (s15 : σ[15]? = some (some v15)) (s16 : σ.length = 16) (hl : H l = some (.lst ((fin ts).2.map V.int))) (nlb : l ≠ b) (h15 : HeardV K ts v15 H) :
    EvTR T b (tAnd (tTest (tOp (rNeD K) (tVar 14) (tLst tNil))) (tOr (tTest (tOp rNe (tOp (rIxT K) (tVar 15) (tC (.int 0))) (tC (.str "refused"))))
      (tTest (tOp (rNeD K) (tLc (iTup K (tOp (rIxT K) (tVar 15) (tC (.int 1)))) (gName 6) (tTest (tOp (rIn K true) (tVar 6) (tVar 14))) (tVar 6) [6]) (tLst tNil))))) σ H false := by
  refine et_isR (et_andR (x := !decide ((fin ts).2 = [])) (y := false) (et_ofR fun H1 r1 => et_test (ev_neNil (ed_var s14 (dp_lstOf (sq_of (r1.lst hl nlb)))))) fun hS => ?_) (by simp)
  have hS : (fin ts).2 ≠ [] := by simpa using hS
  obtain ⟨rs, h1, h2, h15'⟩ : ∃ rs : List Int, (∀ r ∈ rs, r ∈ (fin ts).2) ∧ rs.length ≤ 40 ∧ Dp K H v15 (.tuple [.str "refused", intsD rs]) := by
    rcases h15 with ⟨h, _⟩ | ⟨_, h⟩
    · exact absurd h hS
    · exact h
  have v15R : ∀ H1, LR T b H H1 → EvD K (tVar 15) σ H1 (.tuple [.str "refused", intsD rs]) := fun H1 r1 => ed_var s15 (r1.dp hb (imm_ref rs) h15')
  refine et_isR (et_orR (x := false) (y := false) (er_ne (x := "refused") (y := "refused") (er_of fun H1 r1 => ep_ev (evS (ed_ixT (n := 0) (v15R H1 r1) ev_c rfl)) fun _ _ => rfl) (er_of fun H1 r1 => ep_ev ev_c fun _ _ => rfl) rfl) fun _ => et_ofR fun H1 r1 => ?_) rfl
  have hlc := en_lc (K := K) (H := H1) (σ := σ) (g := gName 6) (tt := tTest (tOp (rIn K true) (tVar 6) (tVar 14))) (te := tVar 6) (vs := [6]) rs PyData.int (fun r => !(fin ts).2.contains r) PyData.int (ei_tup (ed_ixT (n := 1) (v15R H1 r1) ev_c rfl)) (by omega) (fun _ _ => rfl) (fun r hr x H2 e2 hx => by
    rw [dp_int hx]
    exact fun H3 e3 Q q => gp_name H3 e3 Q fun σ' hs => q σ' (by
      subst hs
      have g6 : ((wipe σ [6]).set 6 (some (V.int r)))[6]? = some (some (.int r)) := by rw [List.getElem?_set_self (by simp [wipe, s16])]
      have g14 : ((wipe σ [6]).set 6 (some (V.int r)))[14]? = some (some (.ref l)) := by
        rw [List.getElem?_set_ne (by decide)]
        simp only [wipe]
        rw [List.getElem?_set_ne (by decide)]
        exact s14
      exact ⟨by simp [wipe], et_test (ev_notinLD (ev_var g6) (ed_var g14 (dp_lstOf (sq_of (e2 l _ (r1.lst hl nlb)))))), fun _ => ed_var g6 (.int r)⟩))
  have hnil : rs.filter (fun r => !(fin ts).2.contains r) = [] := List.filter_eq_nil_iff.mpr fun r hr => by simpa using h1 r hr
  have := et_test (ev_neNil (EvP.imp hlc fun _ _ _ z => z.dp))
  rw [hnil] at this
  exact this
theorem ask_kept {x : Addr} (hb : BoxA H b) (s5 : σ[5]? = some (some (.ref d))) (s7 : σ[7]? = some (some (.str (PyData.dict (thsD ts)).shown))) (hd : ThO K H d ts) (ok : TsOk ts) : EvTR T b (tTest (tOp rNe (tCB (rReprK K) (tCons (tVar 5) tNil)) (tVar 7))) σ H false :=
  er_ne (er_reprK (er_of fun H1 r1 => ep_ev (ev_var s5) fun H2 e => ⟨rfl, (r1.ths hb hd).ex e⟩) ok) (er_of fun H1 r1 => ep_ev (ev_var s7) fun _ _ => rfl) rfl
end
end Kw
end
section
/-! KwJ4: the things drawn. -/
namespace Kw
open PySem PySem.Spec PyProof.Rows L2 Evl
def putTh : Ths → Int → Th → Ths
  | [], n, t => [(n, t)]
  | p :: ts, n, t => if p.1 = n then (n, t) :: ts else p :: putTh ts n t
theorem names_put {n : Int} {t : Th} : ∀ {ts : Ths} {x : Int}, x ∈ names (putTh ts n t) ↔ x = n ∨ x ∈ names ts
  | [], x => by simp [putTh, names]
  | p :: ts, x => by
    unfold putTh
    by_cases e : p.1 = n
    · rw [if_pos e]
      simp only [names, List.map_cons, List.mem_cons]
      rw [e]
      simp
    · rw [if_neg e]
      have ih := names_put (n := n) (t := t) (ts := ts) (x := x)
      simp only [names, List.map_cons, List.mem_cons] at ih ⊢
      rw [ih]
      constructor
      · rintro (h | h | h)
        · exact .inr (.inl h)
        · exact .inl h
        · exact .inr (.inr h)
      · rintro (h | h | h)
        · exact .inr (.inl h)
        · exact .inl h
        · exact .inr (.inr h)
theorem nodup_put {n : Int} {t : Th} : ∀ {ts : Ths}, (names ts).Nodup → (names (putTh ts n t)).Nodup
  | [], _ => by simp [putTh, names]
  | p :: ts, h => by
    have h' := List.nodup_cons.mp (show (p.1 :: names ts).Nodup from h)
    unfold putTh
    by_cases e : p.1 = n
    · rw [if_pos e]
      show (n :: names ts).Nodup
      rw [← e]
      exact h
    · rw [if_neg e]
      show (p.1 :: names (putTh ts n t)).Nodup
      refine List.nodup_cons.mpr ⟨fun z => ?_, nodup_put h'.2⟩
      rcases names_put.mp z with q | q
      · exact e q
      · exact h'.1 q
theorem mem_put {n : Int} {t : Th} : ∀ {ts : Ths} {p : Int × Th}, p ∈ putTh ts n t → p = (n, t) ∨ p ∈ ts
  | [], p, h => .inl (by simpa [putTh] using h)
  | q :: ts, p, h => by
    unfold putTh at h
    by_cases e : q.1 = n
    · rw [if_pos e] at h
      rcases List.mem_cons.mp h with z | z
      · exact .inl z
      · exact .inr (List.mem_cons_of_mem _ z)
    · rw [if_neg e] at h
      rcases List.mem_cons.mp h with z | z
      · exact .inr (by rw [z]; exact List.mem_cons_self)
      · rcases mem_put z with y | y
        · exact .inl y
        · exact .inr (List.mem_cons_of_mem _ y)
theorem putK_neg {p : Key × V} {r : List (Key × V)} {k : Key} {v : V} (e : ¬ p.1 = k) : putK (p :: r) k v = p :: putK r k v := by
  unfold putK
  rw [List.any_cons]
  have : decide (p.1 = k) = false := decide_eq_false e
  rw [this, Bool.false_or]
  split
  · rw [List.map_cons, if_neg e]
  · rw [List.cons_append]
theorem putK_pos {p : Key × V} {r : List (Key × V)} {k : Key} {v : V} (e : p.1 = k) (h : k ∉ r.map (·.1)) : putK (p :: r) k v = (k, v) :: r := by
  unfold putK
  rw [List.any_cons]
  have : decide (p.1 = k) = true := decide_eq_true e
  rw [this, Bool.true_or, if_pos rfl, List.map_cons, if_pos e, e]
  congr 1
  have : r.map (fun kv => if kv.1 = k then (kv.1, v) else kv) = r.map id := List.map_congr_left fun kv hk => by
    rw [if_neg]
    · rfl
    · intro z
      exact h (List.mem_map.mpr ⟨kv, hk, z⟩)
  rw [this, List.map_id]
theorem kvs_put {K : PySem.W.Frag} {H : Hp} {n : Int} {t : Th} {v : V} (hv : Dp K H v (thD t)) : ∀ {ts : Ths} {us : List V}, (names ts).Nodup → DpAll K H us (ts.map fun p => thD p.2) → ∃ us', putK (kvsOf ts us) (Sum.inl n) v = kvsOf (putTh ts n t) us' ∧ DpAll K H us' ((putTh ts n t).map fun p => thD p.2)
  | [], us, _, h => by
    cases h
    exact ⟨[v], rfl, .cons hv .nil⟩
  | p :: ts, us, nd, h => by
    have nd' := List.nodup_cons.mp (show (p.1 :: names ts).Nodup from nd)
    cases us with
    | nil => cases h
    | cons u us =>
      obtain ⟨h1, h2⟩ : Dp K H u (thD p.2) ∧ DpAll K H us (ts.map fun p => thD p.2) := by
        cases h with
        | cons a b => exact ⟨a, b⟩
      have lu : us.length = ts.length := by rw [dpA_len h2, List.length_map]
      have e0 : kvsOf (p :: ts) (u :: us) = (Sum.inl p.1, u) :: kvsOf ts us := rfl
      rw [e0]
      unfold putTh
      by_cases e : p.1 = n
      · rw [if_pos e, putK_pos (by rw [e]) (by
          rw [kvs_keys lu]
          intro z
          obtain ⟨x, hx, ex⟩ := List.mem_map.mp z
          exact nd'.1 (by rw [e, ← Sum.inl.inj ex]; exact hx))]
        exact ⟨v :: us, rfl, .cons hv h2⟩
      · rw [if_neg e, putK_neg (fun z => e (Sum.inl.inj z))]
        obtain ⟨us', i1, i2⟩ := kvs_put hv nd'.2 h2
        rw [i1]
        exact ⟨u :: us', rfl, .cons h1 i2⟩
/-- the things as they grow: their names among nm -/
structure TsB (nm : List Int) (ts : Ths) : Prop where
  nd : (names ts).Nodup
  nm : ∀ n ∈ names ts, n ∈ nm
  ok : ∀ p ∈ ts, p.2.Ok
theorem TsB.put {nm : List Int} {ts : Ths} {n : Int} {t : Th} (h : TsB nm ts) (hn : n ∈ nm) (ht : t.Ok) : TsB nm (putTh ts n t) := ⟨nodup_put h.nd, fun x hx => by
  rcases names_put.mp hx with e | e
  · rw [e]
    exact hn
  · exact h.nm x e, fun p hp => by
  rcases mem_put hp with e | e
  · rw [e]
    exact ht
  · exact h.ok p e⟩
theorem TsB.toOk {nm : List Int} {ts : Ths} (h : TsB nm ts) (hl : nm.length ≤ 9) (hb : ∀ n ∈ nm, 0 ≤ n ∧ n < 50) : TsOk ts := ⟨h.nd, by
  have := nodup_len h.nd h.nm
  simp only [names, List.length_map] at this
  omega, fun n hn => hb n (h.nm n hn), h.ok⟩
theorem ThO.put {K : PySem.W.Frag} {H : Hp} {d : Addr} {ts : Ths} {n : Int} {t : Th} {v : V} (h : ThO K H d ts) (nd : (names ts).Nodup) (hv : Dp K H v (thD t)) : ∃ kvs, H d = some (.dK kvs) ∧ kvs.length = ts.length ∧ ThO K (upd H d (.dK (putK kvs (Sum.inl n) v))) d (putTh ts n t) := by
  obtain ⟨us, h1, h2⟩ := h
  obtain ⟨us', i1, i2⟩ := kvs_put (n := n) hv nd h2
  exact ⟨_, h1, kvs_len h2, us', by rw [upd_same, i1], dpA_tk (TupK.upd (nrd_dK h1)) _ _ (imm_ths _) i2⟩
def nmOf (k : Nat) : List Int := (List.range k).map fun i : Nat => 2 * (i : Int) + 1
theorem nmOf_b {k : Nat} (hk : k ≤ 9) : ∀ n ∈ nmOf k, 0 ≤ n ∧ n < 50 := fun n hn => by
  obtain ⟨i, hi, rfl⟩ := List.mem_map.mp hn
  have := List.mem_range.mp hi
  omega
theorem nmOf_len (k : Nat) : (nmOf k).length = k := by simp [nmOf]
section
variable {K : PySem.W.Frag} {σ : L2.St} {b d m : Addr} {H0 H H' H1 H2 : Hp} {ts : Ths} {nm : List Int} {ta tb te td ty tv : TE} {tt : TT} {D : Ends} {tz tu : TS} {S : PyData → Prop} {n : Int}
/-- a test on a draw: either way -/
def EvTB (b : Addr) (tt : TT) (σ : L2.St) (H : Hp) : Prop := ∀ H1, RB b H H1 → ∀ Q : Bool → Hp → Prop, (∀ x H2, RB b H1 H2 → Q x H2) → tt σ H1 Q
theorem etb_gt (h : EvS K b te σ H fun d => ∃ i : Int, d = .int i ∧ S d) : EvTB b (tTest (tOp (rI0 fun i j => .bl (decide (j < i))) te (tC (.int 0)))) σ H := fun H1 r Q q =>
  h H1 r _ fun v H2 d r2 ⟨i, e, _⟩ _ p => by
    rw [e] at p
    have : v = .int i := dp_int p
    subst this
    exact ⟨i, 0, rfl, rfl, _, rfl, q _ H2 r2⟩
theorem etb_eq (h : EvS K b te σ H fun d => ∃ i : Int, d = .int i ∧ S d) : EvTB b (tTest (tOp rEq te (tC (.int 0)))) σ H := fun H1 r Q q =>
  h H1 r _ fun v H2 d r2 ⟨i, e, _⟩ _ p => by
    rw [e] at p
    have : v = .int i := dp_int p
    subst this
    exact ⟨rfl, _, rfl, q _ H2 r2⟩
theorem es_takeS {E : XK} {j : Nat} {k : Int} (h0 : σ[j]? = some (some (.ref b))) (h1 : 1 ≤ k) (h2 : k ≤ 1000) : EvS K b (tCall spTake [] E (tCons (tVar j) (tCons (tC (.int k)) tNil))) σ H (fun d => ∃ i : Int, d = .int i ∧ (∃ i : Int, d = .int i ∧ 0 ≤ i ∧ i < k)) := fun H1 r Q q =>
  ⟨.ref b, h0, b, k, rfl, r.box, h1, h2, fun i H' r' g1 g2 => q (.int i) H' (.int i) r' ⟨i, rfl, i, rfl, g1, g2⟩ rfl (.int i)⟩
theorem es_if (h : EvTB b tt σ H) (h1 : EvS K b ta σ H S) (h2 : EvS K b tb σ H S) : EvS K b (tIf tt ta tb) σ H S := fun H1 r Q q => h H1 r _ fun x H2 r2 => by
  cases x with
  | true =>
    show ta σ H2 Q
    exact h1 H2 (r.trans r2) Q fun v H3 d r3 => q v H3 d (r2.trans r3)
  | false =>
    show tb σ H2 Q
    exact h2 H2 (r.trans r2) Q fun v H3 d r3 => q v H3 d (r2.trans r3)
/-- _law_loose(box, names) -/
theorem es_loose {E : XK} (s2 : σ[2]? = some (some (.ref b))) (h : ∀ H1, RB b H H1 → ∀ Q : VK, (∀ p ns H2, RB b H1 H2 → H2 p = some (.lst (List.map V.int ns)) → p ≠ b → NamesOk ns → Q (.ref p) H2) → te σ H1 Q) : EvS K b (tCall (spLoose K) [] E (tCons (tVar 2) (tCons te tNil))) σ H ThS := fun H1 r Q q =>
  ⟨.ref b, s2, h H1 r _ fun p ns H2 r2 hp nb hn => ⟨b, p, ns, rfl, r2.box, hp, nb, hn, fun v H3 r3 ⟨t, ht, hv⟩ => q v H3 (thD t) (r2.trans r3) ⟨t, ht, rfl⟩ (imm_thD t) hv⟩⟩
/-- things[n] = e -/
theorem s_putTh (hb0 : BoxA H0 b) (nd : H0 d = none) (r0 : RB b H0 H) (hth : ThO K H d ts) (tb' : TsB nm ts) (lt : ts.length ≤ 100) (hv : EvS K b tv σ H ThS) (s5 : σ[5]? = some (some (.ref d))) (hy : ∀ H1, RB b H H1 → Ev ty σ H1 (.int n)) (hn : n ∈ nm)
    (k : ∀ H' t, RB b H0 H' → ThO K H' d (putTh ts n t) → TsB nm (putTh ts n t) → D.nx σ H') : sDPut (tVar 5) ty tv D σ H :=
  hv H (RB.refl r0.box) _ fun v H1 dd r1 ⟨t, ht, e⟩ _ p => ⟨.ref d, s5, hy H1 r1 H1 (Ex.refl _) _ fun H2 e2 => by
    rw [e] at p
    have r2 := r1.ext e2
    have hth2 := RB.ths r0.box r2 hth
    obtain ⟨kvs, h1, h2, h3⟩ := ThO.put (n := n) hth2 tb'.nd (dp_ex e2 _ _ p)
    exact ⟨d, _, rfl, DPut.k (k := Sum.inl n) h1 (sz_lt (by omega)), k _ t ((r0.trans r2).mut nd hb0) h3 (tb'.put hn ht)⟩⟩
/-- [2 * i + 1 for i in range(2 + take)] -/
theorem nm_lc (K : PySem.W.Frag) {j : Nat} (h : ∀ H1, RB b H H1 → ∀ Q : VK, (∀ (k : Nat) H2, RB b H1 H2 → 2 ≤ k → k ≤ 9 → Q (.int (k : Int)) H2) → ta σ H1 Q) (hj : j < σ.length) (hb : BoxA H b) {Q : VK}
    (q : ∀ p (k : Nat) H2, RB b H H2 → 2 ≤ k → k ≤ 9 → p ≠ b → H2 p = some (.lst ((nmOf k).map V.int)) → Q (.ref p) H2) :
    tLc (iRng1 (tCons ta tNil)) (gName j) tYes (tOp (rI0 fun i j => V.int (i + j)) (tOp (rI CMul fun i j => V.int (i * j)) (tC (V.int 2)) (tVar j)) (tC (V.int 1))) [j] σ H Q :=
  h H (RB.refl hb) _ fun k H2 r2 h1 h2 => by
    have hm := en_map (K := K) (H := H2) (σ := σ) (g := gName j) (te := tOp (rI0 fun i j => V.int (i + j)) (tOp (rI CMul fun i j => V.int (i * j)) (tC (V.int 2)) (tVar j)) (tC (V.int 1))) (vs := [j]) (wi := iRng1 (tCons (tC (.int (k : Int))) tNil)) (List.range k) (fun i : Nat => PyData.int (i : Int)) (fun i : Nat => .int (2 * (i : Int) + 1)) (ei_rng ev_c (by omega)) (by rw [List.length_range]; omega) (fun _ _ => rfl) (fun i hi x H3 e3 hx => by
      rw [dp_int hx]
      exact fun H4 e4 Q q => gp_name H4 e4 Q fun σ' hs => q σ' (by
        subst hs
        refine ⟨by simp [wipe], edI (ev_op (ev_op ev_c (ev_var (by rw [List.getElem?_set_self (by simpa [wipe] using hj)])) (rv_I (cmulL (by decide)))) ev_c rv_I0)⟩))
    refine hm H2 (Ex.refl _) Q fun v H3 e3 z => ?_
    have e : (List.range k).map (fun i : Nat => PyData.int (2 * (i : Int) + 1)) = (nmOf k).map .int := by
      unfold nmOf
      rw [List.map_map] <;> rfl
    rw [e] at z
    obtain ⟨p, rfl, np, hp⟩ := z.ints
    refine q p k H3 (r2.ext e3) h1 h2 (fun z => ?_) hp
    obtain ⟨g, s, hx⟩ := r2.box
    rw [z, hx] at np
    cases np
end
end Kw
end
section
/-! KwJ5: draws in the law. -/
namespace Kw
open PySem PySem.Spec PyProof.Rows L2 Evl
section
variable {K : PySem.W.Frag} {σ : L2.St} {b d m : Addr} {H0 H H' H1 H2 : Hp} {ts : Ths} {nm : List Int} {ta tb te td ty tv : TE} {tt : TT} {D : Ends} {tz tu : TS} {n : Int}
theorem s_whenB (h : EvTB b tt σ H) (hb : BoxA H b) (h1 : ∀ H1, RB b H H1 → tu D σ H1) (h2 : ∀ H1, RB b H H1 → D.nx σ H1) : tIfS tt tu tNext D σ H := h H (RB.refl hb) _ fun x H1 r => by
  cases x with
  | true =>
    show tu D σ H1
    exact h1 H1 r
  | false =>
    show D.nx σ H1
    exact h2 H1 r
theorem q_whenB (h : EvTB b tt σ H) (hb : BoxA H b) (h1 : ∀ H1, RB b H H1 → tu { D with nx := tz D } σ H1) (h2 : ∀ H1, RB b H H1 → tz D σ H1) : tSeq (tIfS tt tu tNext) tz D σ H := s_whenB (D := { D with nx := tz D }) h hb h1 h2
/-- names + [4] * int(take == 0) -/
theorem nm4 (s2 : σ[2]? = some (some (.ref b))) (s3 : σ[3]? = some (some (.ref m))) (hm : H m = some (.lst (nm.map V.int))) (nmb : m ≠ b) (hl : nm.length ≤ 9) (hne : nm ≠ []) (hnm : ∀ n ∈ nm, 0 ≤ n ∧ n < 50) : ∀ H1, RB b H H1 → ∀ Q : VK, (∀ p ns H2, RB b H1 H2 → H2 p = some (.lst (List.map V.int ns)) → p ≠ b → NamesOk ns → Q (.ref p) H2) →
    tOp rCat (tVar 3) (tOp rRep (tLst (tCons (tC (V.int 4)) tNil)) (tCB (fun xs H Q => (∃ i, xs = [V.int i] ∧ Q (V.int i) H) ∨ ∃ k, xs = [V.bl k] ∧ Q (V.int (if k = true then 1 else 0)) H) (tCons (tOp rEq (tCall spTake [] E0 (tCons (tVar 2) (tCons (tC (V.int 3)) tNil))) (tC (V.int 0))) tNil))) σ H1 Q := fun H1 r Q q => by
  refine ⟨.ref m, s3, ?_⟩
  refine ⟨by show 1 ≤ sizeLine; decide, fun l nl => ⟨.ref b, s2, b, 3, rfl, ?_, by decide, by decide, fun x H3 r3 g0 g1 => ?_⟩⟩
  · exact (RB.of r.box (Ex.new nl)).box
  have nlb : l ≠ b := fun z => by
    obtain ⟨g, s, hx⟩ := r.box
    rw [z, hx] at nl
    cases nl
  have rl : RB b H1 (upd H1 l (.lst [.int 4])) := RB.of r.box (Ex.new nl)
  have hl3 : H3 l = some (.lst [.int 4]) := r3.at upd_same nlb
  have r13 := rl.trans r3
  have hm3 : H3 m = some (.lst (nm.map V.int)) := (r.trans r13).at hm nmb
  obtain ⟨c, hc0, hc1, hc⟩ : ∃ c : Int, 0 ≤ c ∧ c ≤ 1 ∧ (if decide (V.int x = V.int 0) = true then (1 : Int) else 0) = c := ⟨_, by split <;> decide, by split <;> decide, rfl⟩
  refine ⟨rfl, .inr ⟨decide (V.int x = V.int 0), rfl, ?_⟩⟩
  rw [hc]
  have hrep : (List.replicate c.toNat [V.int 4]).flatten = (List.replicate c.toNat (4 : Int)).map V.int := by
    rw [List.map_replicate, flat_one]
  refine ⟨l, c, [.int 4], rfl, rfl, hl3, by omega, by omega, sz_of (by simp; omega), fun p np => ?_⟩
  rw [hrep]
  have ep : Ex H3 (upd H3 p (.lst ((List.replicate c.toNat (4 : Int)).map V.int))) := Ex.new np
  refine ⟨m, p, nm.map V.int, _, rfl, rfl, ep m _ hm3, upd_same, sz_of (by simp; omega), fun p2 np2 => ?_⟩
  have r4 : RB b H1 (upd (upd H3 p (.lst ((List.replicate c.toNat (4 : Int)).map V.int))) p2 (.lst (nm.map V.int ++ (List.replicate c.toNat (4 : Int)).map V.int))) := (r13.ext ep).ext (Ex.new np2)
  refine q p2 (nm ++ List.replicate c.toNat 4) _ r4 (by rw [upd_same, List.map_append]) (fun z => ?_) ⟨by simp [hne], by rw [List.length_append, List.length_replicate]; omega, fun n hn => ?_⟩
  · obtain ⟨g, s, hx⟩ := (r13.ext ep).box
    rw [z, hx] at np2
    cases np2
  · rcases List.mem_append.mp hn with z | z
    · exact hnm n z
    · rw [List.eq_of_mem_replicate z]
      omega
/-- the law's plain tag -/
theorem es_tag (s3 : σ[3]? = some (some (.ref m))) (hm : ∀ H1, RB b H H1 → H1 m = some (.lst (nm.map V.int))) (hne : nm ≠ []) (hnm : ∀ n ∈ nm, 0 ≤ n ∧ n < 50) : EvS K b (tTup (tCons (tC (.str "tag")) (tCons (tOp (rIxL K) (tVar 3) (tC (.int 0))) (tCons (tTup tNil) tNil)))) σ H ThS := by
  obtain ⟨n, ns, rfl⟩ : ∃ n ns, nm = n :: ns := by
    cases nm with
    | nil => exact absurd rfl hne
    | cons n ns => exact ⟨n, ns, rfl⟩
  exact es_of (d := thD (.tag n)) (fun H1 r1 => ed_tup (eds_cons ed_str (eds_cons (edI (ev_op (ev_var s3) ev_c (rv_ixL (sq_of (hm H1 r1)) (atI_nat (j := 0) rfl)))) (eds_cons (ed_tup eds_nil (by simp)) eds_nil))) (by simp)) ⟨.tag n, hnm n List.mem_cons_self, rfl⟩ rfl
theorem es_blob : EvS K b (tTup (tCons (tC (.str "blob")) (tCons (tTup tNil) tNil))) σ H ThS :=
  es_of (d := thD (.blob [])) (fun H1 r1 => ed_tup (eds_cons ed_str (eds_cons (ed_tup eds_nil (by simp)) eds_nil)) (by simp)) ⟨.blob [], ⟨by simp, fun x hx => by cases hx⟩, rfl⟩ rfl
/-- names[:at] -/
theorem nm_sl {j : Nat} (s3 : σ[3]? = some (some (.ref m))) (s4 : σ[4]? = some (some (.int (j : Int)))) (hm : H m = some (.lst (nm.map V.int))) (nmb : m ≠ b) (hl : nm.length ≤ 9) (hj : 0 < j) (hne : nm ≠ []) (hnm : ∀ n ∈ nm, 0 ≤ n ∧ n < 50) : ∀ H1, RB b H H1 → ∀ Q : VK, (∀ p ns H2, RB b H1 H2 → H2 p = some (.lst (List.map V.int ns)) → p ≠ b → NamesOk ns → Q (.ref p) H2) →
    tSl (rSlL K) (tVar 3) tNoPart (tPart (tVar 4)) σ H1 Q := fun H1 r Q q => by
  have hm1 := r.at hm nmb
  refine ⟨.ref m, s3, .int (j : Int), s4, (j : Int), rfl, m, nm.map V.int, rfl, sq_of hm1, fun p np => ?_⟩
  have e : cutV (nm.map V.int) none (some (j : Int)) = (nm.take j).map V.int := by
    unfold cutV
    rw [HT.sIx_nat, HT.sIx_none, List.drop_zero, Nat.sub_zero, List.length_map, ← List.map_take]
    congr 1
    by_cases h : j ≤ nm.length
    · rw [Nat.min_eq_left h]
    · rw [Nat.min_eq_right (by omega), List.take_of_length_le (Nat.le_refl _), List.take_of_length_le (by omega)]
  rw [e]
  refine q p (nm.take j) _ (RB.of r.box (Ex.new np)) upd_same (fun z => ?_) ⟨fun z => ?_, by rw [List.length_take]; omega, fun n hn => hnm n (List.mem_of_mem_take hn)⟩
  · obtain ⟨g, s, hx⟩ := r.box
    rw [z, hx] at np
    cases np
  · have := congrArg List.length z
    rw [List.length_take, List.length_nil] at this
    have := List.length_pos_iff.mpr hne
    omega
/-- a test that is told -/
theorem etb_of {x : Bool} (h : ∀ H1, RB b H H1 → EvT tt σ H1 x) : EvTB b tt σ H := fun H1 r Q q => h H1 r H1 (Ex.refl _) Q fun H2 e => q x H2 (RB.of r.box e)
theorem es_ifT {S : PyData → Prop} {x : Bool} (h : ∀ H1, RB b H H1 → EvT tt σ H1 x) (h1 : x = true → EvS K b ta σ H S) (h2 : x = false → EvS K b tb σ H S) : EvS K b (tIf tt ta tb) σ H S := fun H1 r Q q => h H1 r H1 (Ex.refl _) _ fun H2 e => by
  have r2 := RB.of r.box e
  cases x with
  | true =>
    show ta σ H2 Q
    exact h1 rfl H2 (r.trans r2) Q fun v H3 d r3 => q v H3 d (r2.trans r3)
  | false =>
    show tb σ H2 Q
    exact h2 rfl H2 (r.trans r2) Q fun v H3 d r3 => q v H3 d (r2.trans r3)
end
end Kw
end
section
/-! KwJ6: steps of the law. -/
namespace Kw
open PySem PySem.Spec PyProof.Rows L2 Evl
theorem q_raw {te : TE} {n : Nat} {tz : TS} {D : Ends} {σ : L2.St} {H : Hp} (h : te σ H fun v H1 => tz D (σ.set n (some v)) H1) : tSeq (tAsg te (gName n)) tz D σ H := h
section
variable {K : PySem.W.Frag} {T : List (Addr × Str)} {σ : L2.St} {b d m : Addr} {H0 H H' H1 H2 : Hp} {ts : Ths} {nm : List Int} {ta tb te td ty tv : TE} {tt : TT} {D : Ends} {tz tu : TS} {n : Int} {E : XK}
theorem q_kept (hb : BoxA H b) (ht : LamX.Tabs T H) (s5 : σ[5]? = some (some (.ref d))) (hth : ThO K H d ts) (ok : TsOk ts)
    (k : ∀ v8 ps H1, LR T b H H1 → IsLack ts ps → Dp K H1 v8 (lackD ps) → tz D ((σ.set 7 (some (.str (PyData.dict (thsD ts)).shown))).set 8 (some v8)) H1) :
    tSeq (tPar 7 8 (tCons (tCB (rReprK K) (tCons (tVar 5) tNil)) (tCons (tCall (spLLack K) [] E (tCons (tVar 5) tNil)) tNil))) tz D σ H := by
  have hr := er_reprK (K := K) (T := T) (b := b) (σ := σ) (H := H) (te := tVar 5) (x := d) (ts := ts) (er_of fun H1 r1 => ep_ev (ev_var s5) fun H2 e => ⟨rfl, (r1.ths hb hth).ex e⟩) ok
  show (tCB (rReprK K) (tCons (tVar 5) tNil)) σ H _
  refine hr H (LR.refl hb ht) _ fun v H1 r1 hv => ?_
  exact ⟨.ref d, s5, d, ts, rfl, (r1.ths hb hth).r, ok, fun w H2 e2 ⟨ps, h1, h2⟩ => ⟨v, w, rfl, by
    rw [hv]
    exact k w ps H2 (r1.ext e2) h1 h2⟩⟩
theorem es_take2 {k : Int} (h0 : σ[2]? = some (some (.ref b))) (h1 : 1 ≤ k) (h2 : k ≤ 1000) : EvS K b (tCall spTake [] E (tCons (tVar 2) (tCons (tC (.int k)) tNil))) σ H (fun d => ∃ i : Int, d = .int i ∧ 0 ≤ i ∧ i < k) := fun H1 r Q q =>
  ⟨.ref b, h0, b, k, rfl, r.box, h1, h2, fun i H' r' g1 g2 => q (.int i) H' (.int i) r' ⟨i, rfl, g1, g2⟩ rfl (.int i)⟩
theorem es_pick2 {S : PyData → Prop} (h0 : σ[2]? = some (some (.ref b))) (h : ∀ H1, RB b H H1 → EvP te σ H1 (LsB K b S)) : EvS K b (tCall (spPick K) [] E (tCons (tVar 2) (tCons te tNil))) σ H S := fun H1 r Q q =>
  ⟨.ref b, h0, h H1 r H1 (Ex.refl _) _ fun v H2 e2 ⟨m, xs, ds, e, hm, nb, hd, him, hne, hl, hS⟩ => by
    have r2 := RB.of r.box e2
    have ll := dpA_len hd
    refine ⟨b, m, xs, by rw [e] <;> rfl, r2.box, hm, nb, fun z => hne (by rw [z] at ll; exact List.length_eq_zero_iff.mp ll.symm), by omega, fun v H' r' hv => ?_⟩
    obtain ⟨d, hd1, hd2⟩ := dpA_mem hd hv
    have id := immA_iff.mp him d hd1
    exact q v H' d (r2.trans r') (hS d hd1) id (r'.dp r2.box id hd2)⟩
/-- starts = [pick(box, names) for at in range(take(box, 3))] -/
theorem q_starts (hb : BoxA H b) (ht : LamX.Tabs T H) (s2 : σ[2]? = some (some (.ref b))) (s3 : σ[3]? = some (some (.ref m))) (s16 : σ.length = 16) (hm : H m = some (.lst (nm.map V.int))) (nmb : m ≠ b) (hnm : NamesOk nm)
    (k : ∀ p ns H1, LR T b H H1 → H1 p = some (.lst (List.map V.int ns)) → p ≠ b → ns.length ≤ 9 → (∀ n ∈ ns, 0 ≤ n ∧ n < 50) → tz D (σ.set 10 (some (.ref p))) H1) :
    tSeq (tAsg (tLc (iRng1 (tCons (tCall spTake [] E (tCons (tVar 2) (tCons (tC (V.int 3)) tNil))) tNil)) (gName 4) tYes (tCall (spPick K) [] E (tCons (tVar 2) (tCons (tVar 3) tNil))) [4]) (gName 10)) tz D σ H := by
  refine q_raw (es_lcR (K := K) (b := b) (n := 3) (S := fun d => ∃ i : Int, d = .int i ∧ i ∈ nm) (es_take2 (k := 3) s2 (by decide) (by decide)) (by decide) (fun x => by simp [wipe]) (fun i H1 r1 hi => es_pick2 ?_ fun H2 r2 => ep_ev (ev_var ?_) fun H3 e3 => names_ls hnm (e3 m _ ((r1.trans r2).at hm nmb)) nmb) H (RB.refl hb) _ fun v H1 r1 hz => ?_)
  · rw [List.getElem?_set_ne (by decide)]
    simp only [wipe]
    rw [List.getElem?_set_ne (by decide)]
    exact s2
  · rw [List.getElem?_set_ne (by decide)]
    simp only [wipe]
    rw [List.getElem?_set_ne (by decide)]
    exact s3
  · obtain ⟨p, xs, ds, rfl, np, hp, hd, him, hlen, hS⟩ := hz
    obtain ⟨ns, rfl, hns⟩ := ints_of hS
    rw [ints_dpA hd] at hp
    refine k p ns H1 (LR.of_rb hb ht r1) hp (fun z => ?_) (by rw [List.length_map] at hlen; omega) fun n hn => hnm.2.2 n (hns n hn)
    obtain ⟨g, s, hx⟩ := hb
    rw [z, hx] at np
    cases np
/-- gone = [n for n in starts if n not in things] -/
theorem en_gone {p : Addr} {ns : List Int} (s5 : σ[5]? = some (some (.ref d))) (s10 : σ[10]? = some (some (.ref p))) (s16 : σ.length = 16) (hth : ThO K H d ts) (hp : H p = some (.lst (ns.map V.int))) (hl : ns.length ≤ 9) :
    EvP (tLc (iList K (tVar 10)) (gName 6) (tB (tDNotIn (tVar 6) (tVar 5))) (tVar 6) [6]) σ H (NewD K H ((goneL ts ns).map .int)) := by
  refine en_lc (K := K) ns PyData.int (fun n => !has ts n) PyData.int (ei_list (ed_var s10 (dp_lstOf (sq_of hp)))) (by omega) (fun _ _ => rfl) (fun n hn x H1 e1 hx => ?_)
  rw [dp_int hx]
  refine fun H2 e2 Q q => gp_name H2 e2 Q fun σ' hs => q σ' ?_
  subst hs
  have g6 : ((wipe σ [6]).set 6 (some (V.int n)))[6]? = some (some (.int n)) := by rw [List.getElem?_set_self (by simp [wipe, s16])]
  have g5 : ((wipe σ [6]).set 6 (some (V.int n)))[5]? = some (some (.ref d)) := by
    rw [List.getElem?_set_ne (by decide)]
    simp only [wipe]
    rw [List.getElem?_set_ne (by decide)]
    exact s5
  exact ⟨by simp [wipe], et_B (ev_dnotin (ev_var g6) (ev_var g5) (hth.r.ex e1)), fun _ => ed_var g6 (.int n)⟩
/-- name = pick(box, names + [4]) -/
theorem er_name (hb : BoxA H b) (s2 : σ[2]? = some (some (.ref b))) (s3 : σ[3]? = some (some (.ref m))) (hm : H m = some (.lst (nm.map V.int))) (nmb : m ≠ b) (hnm : NamesOk nm) :
    EvR T b (tCall (spPick K) [] E (tCons (tVar 2) (tCons (tOp rCat (tVar 3) (tLst (tCons (tC (V.int 4)) tNil))) tNil))) σ H (fun v _ => ∃ n : Int, v = .int n) := by
  refine EvR.imp (er_s (K := K) (S := fun d => ∃ i : Int, d = .int i ∧ True) fun H1 r1 => es_pick2 s2 fun H2 r2 => ?_) fun v H' _ z => ?_
  · have hm2 := r2.at (r1.lst hm nmb) nmb
    refine EvP.imp (en_cat (K := K) (ds := nm.map .int) (es := [.int 4]) (ep_ev (ev_var s3) fun H3 e3 => ⟨m, _, rfl, e3 m _ hm2, dpA_ints nm⟩) (EvP.imp (en_lst (K := K) (ta := tCons (tC (.int 4)) tNil) (eds_cons ed_int eds_nil) (by simp)) fun _ _ _ z => z.ls) (by have := hnm.2.1; simp; omega)) fun v H3 e3 z => ?_
    obtain ⟨p, xs, rfl, np, hp, hxs⟩ := z
    refine ⟨p, xs, _, rfl, hp, fun z => ?_, hxs, immA_app (immA_ints nm) rfl, by simp, by have := hnm.2.1; simp; omega, fun d hd => ?_⟩
    · obtain ⟨g, s, hx⟩ := r2.box
      rw [z, hx] at np
      cases np
    · rcases List.mem_append.mp hd with z | z
      · obtain ⟨i, _, rfl⟩ := List.mem_map.mp z
        exact ⟨i, rfl, trivial⟩
      · have : d = .int 4 := by simpa using z
        exact ⟨4, this, trivial⟩
  · obtain ⟨d, ⟨i, rfl, _⟩, _, hv⟩ := z
    exact ⟨i, dp_int hv⟩
end
end Kw
end
section
/-! KwL3: law. -/
namespace Kw
open PySem PySem.Spec PyProof.Rows L2 Evl
section
variable {P : Program} {w : World} {K : PySem.W.Frag} {mg : Str → Option Value} {base : Heap} {aN aR gH cL pL : Addr} {fdH : FuncData}
theorem sc_law : FnScope ["_law_script", "_law_k", "_law_box_here", "_law_names", "_law_at", "_law_things", "_law_name", "_law_kept", "_law_due", "_law_turn", "_law_starts", "_law_gone", "_law_one", "_law_order_here", "_law_left", "_law_heard_here"] ["_law_script"] (defScope (top 54)) := ⟨rfl, rfl, rfl, by decide +kernel, rfl, by decide +kernel, by decide +kernel⟩
theorem law_run (T : Tx K mg) (c__law_box : Cal P w K mg base "_law_box" 1 ["_law_script", "_law_k"] (spBox K)) (c__law_come : Cal P w K mg base "_law_come" 6 ["_law_things", "_law_starts"] (spLCome K)) (c__law_deep : Cal P w K mg base "_law_deep" 6 ["_law_things", "_law_order_here"] (spLDeep K)) (c__law_lacking : Cal P w K mg base "_law_lacking" 4 ["_law_things"] (spLLack K)) (c__law_links : Cal P w K mg base "_law_links" 4 ["_law_thing"] (spLLinks K)) (c__law_loose : Cal P w K mg base "_law_loose" 3 ["_law_box_here", "_law_names"] (spLoose K)) (c__law_order : Cal P w K mg base "_law_order" 6 ["_law_things"] (spLOrder K)) (c__law_pick : Cal P w K mg base "_law_pick" 2 ["_law_box_here", "_law_some"] (spPick K)) (c__law_take : Cal P w K mg base "_law_take" 1 ["_law_box_here", "_law_many"] spTake) (c_closure : CalX (L2.CX P w) P w K mg base "closure" 10 ["things", "starts"] (spClosure K aN)) (c_depths : CalX (L2.CX P w) P w K mg base "depths" 13 ["things"] (spDepths K aR)) (c_is_closed : Cal P w K mg base "is_closed" 10 ["things"] (spClosed K)) (c_lacking : Cal P w K mg base "lacking" 9 ["things"] (spLacking K)) (c_linkers_of : Cal P w K mg base "linkers_of" 9 ["things", "name"] (spLinkers K)) (k_closure : CalK (L2.CX P w) P w K mg base "closure" 10 ["things", "starts"] ["starts", "things"] kw2r kw2r (spClosure K aN)) (k_depths : CalK (L2.CX P w) P w K mg base "depths" 13 ["things"] ["things"] kw1 kw1 (spDepths K aR)) (k_is_closed : CalK CX0 P w K mg base "is_closed" 10 ["things"] ["things"] kw1 kw1 (spClosed K)) (k_lacking : CalK CX0 P w K mg base "lacking" 9 ["things"] ["things"] kw1 kw1 (spLacking K)) (k_linkers_of : CalK CX0 P w K mg base "linkers_of" 9 ["things", "name"] ["name", "things"] kw2r kw2r (spLinkers K)) (FH : FnP K "_law_heard" (top 53) gH fdH) (hH : mg "_law_heard" = some (.ref gH)) (T2 : XTwo K aN aR) (hN : mg "NoObject" = some (.ref aN)) (hR : mg "Refused" = some (.ref aR)) (TB : LamX.TabB base mg cL pL) {s : Shared} {H : Hp} {E : XK} {fa : Addr} (hr : Room 20 (callerA.deeper (envOfC "law" (defScope (top 54)) s.heap.objs.size fa (.ref cL)))) {a : Addr} {ns : List Int} (hs : SqL K H a (ns.map V.int)) (hT : H pL = some (.tbl #[])) :
    ∃ t, PSs (cxOf CX0 P w K mg base ["_law_script", "_law_k", "_law_box_here", "_law_names", "_law_at", "_law_things", "_law_name", "_law_kept", "_law_due", "_law_turn", "_law_starts", "_law_gone", "_law_one", "_law_order_here", "_law_left", "_law_heard_here"] "law" (defScope (top 54)) fa (.ref cL) callerA [] s H E) (defBody (top 54)) t ∧ t { nx := fun _ H' => (fun (v : V) (_ : Hp) => v = .bl true) .non H', rt := fun v _ => v = .bl true } (start ["_law_script", "_law_k", "_law_box_here", "_law_names", "_law_at", "_law_things", "_law_name", "_law_kept", "_law_due", "_law_turn", "_law_starts", "_law_gone", "_law_one", "_law_order_here", "_law_left", "_law_heard_here"] [.ref a]) H := by
  have hGu : (callerA.deeper (envOfC "law" (defScope (top 54)) s.heap.objs.size fa (.ref cL))).guards = some [] := rfl
  refine ⟨_, PSs.nox (pss_cons (ps_for PassesOwn.never rfl (pi_range1 (by rfl) (T.fr "range" (by decide)) (pa_cons pe_int pa_nil)) (pg_name (i := 1) sc_law.nd rfl (.inl rfl)) (pss_cons (ps_set (i := 2) sc_law.nd rfl (.inr rfl) (pe_cal c__law_box (hr.mono (by decide)) rfl (pa_cons (pv 0) (pa_cons (pv 1) pa_nil))))
      (pss_cons (ps_set (i := 3) sc_law.nd rfl (.inr rfl) (pe_lc (own := [("_law_at", 4)]) (g := (gName 4)) (tt := tYes) (te := (tOp _ (tOp _ (tC (.int 2)) (tVar 4)) (tC (.int 1)))) rfl sc_law.nd (pi_range1 (by rfl) (T.fr "range" (by decide)) (pa_cons (pe_op op_add pe_int (pe_cal c__law_take (hr.mono (by decide)) rfl (pa_cons (pv 2) (pa_cons pe_int pa_nil)))) pa_nil)) (blkOk_by (N := ["_law_script", "_law_k", "_law_box_here", "_law_names", "_law_at", "_law_things", "_law_name", "_law_kept", "_law_due", "_law_turn", "_law_starts", "_law_gone", "_law_one", "_law_order_here", "_law_left", "_law_heard_here"]) (sc := defScope (top 54)) (by decide +kernel)) (fun _ _ _ _ _ => (pg_name (i := 4) sc_law.nd rfl (.inl rfl))) (fun _ _ _ _ _ => pts_nil) (fun _ _ _ _ _ => (pe_op op_add (pe_op op_mul pe_int (pv 4)) pe_int))))
      (pss_cons (ps_set (i := 5) sc_law.nd rfl (.inr rfl) pe_dnewK)
      (pss_cons (ps_for PassesOwn.never rfl (pi_list (pv 3)) (pg_name (i := 6) sc_law.nd rfl (.inr rfl)) (pss_one (ps_if (pt_cmpR op_gt (pe_cal c__law_take (hr.mono (by decide)) rfl (pa_cons (pv 2) (pa_cons pe_int pa_nil))) pe_int (nomark _)) (pss_one (ps_dput (hu_of hr) (pv 5) (pv 6) (pe_ifExp (pt_cmpR op_gt (pe_cal c__law_take (hr.mono (by decide)) rfl (pa_cons (pv 2) (pa_cons pe_int pa_nil))) pe_int (nomark _)) (pe_cal c__law_loose (hr.mono (by decide)) rfl (pa_cons (pv 2) (pa_cons (pe_op op_cat (pv 3) (pe_op op_rep (pe_lst (pa_cons pe_int pa_nil)) (pe_callTy call_int1 rfl (T.fr "int" (by decide)) boot_int (pa_cons (pe_cmpR op_eq (pe_cal c__law_take (hr.mono (by decide)) rfl (pa_cons (pv 2) (pa_cons pe_int pa_nil))) pe_int (nomark _)) pa_nil)))) pa_nil))) (pe_tup (pa_cons pe_str (pa_cons (pe_ix ix_list (pv 3) pe_int (fun _ _ => rfl)) (pa_cons (pe_tup pa_nil) pa_nil))))) rfl)) pss_nil)))
      (pss_cons (ps_if (pt_cmpR op_eq (pe_cal c__law_take (hr.mono (by decide)) rfl (pa_cons (pv 2) (pa_cons pe_int pa_nil))) pe_int (nomark _)) (pss_one (ps_for PassesOwn.never rfl (pi_range1 (by rfl) (T.fr "range" (by decide)) (pa_cons (pe_callB call_len_seq rfl (T.fr "len" (by decide)) boot_len (pa_cons (pv 3) pa_nil)) pa_nil)) (pg_name (i := 4) sc_law.nd rfl (.inl rfl)) (pss_one (ps_dput (hu_of hr) (pv 5) (pe_ix ix_list (pv 3) (pv 4) (fun _ _ => rfl)) (pe_ifExp (pt_cmpR op_gt (pv 4) pe_int (nomark _)) (pe_cal c__law_loose (hr.mono (by decide)) rfl (pa_cons (pv 2) (pa_cons (pe_slice sl_list (pv 3) po_none (po_some (pv 4))) pa_nil))) (pe_tup (pa_cons pe_str (pa_cons (pe_tup pa_nil) pa_nil)))) rfl)))) pss_nil)
      (pss_cons (ps_par (i := 7) (j := 8) rfl sc_law.nd rfl rfl (by decide) rfl rfl (pa_cons (pe_callB (call_reprK hGu hr.units) rfl (T.fr "repr" (by decide)) boot_repr (pa_cons (pv 5) pa_nil)) (pa_cons (pe_cal c__law_lacking (hr.mono (by decide)) rfl (pa_cons (pv 5) pa_nil)) pa_nil)) (by rfl))
      (pss_cons (ps_if (PW.pt (pw_or (pt_cmpR op_ne (pe_callB (call_reprD hGu hr.units) rfl (T.fr "repr" (by decide)) boot_repr (pa_cons (pe_lst (pa_cons (pe_cal c_lacking (hr.mono (by decide)) rfl (pa_cons (pv 5) pa_nil)) (pa_cons (pe_calK k_lacking (hr.mono (by decide)) rfl (pk_cons (pv 5) pk_nil)) pa_nil))) pa_nil)) (pe_callB (call_reprD hGu hr.units) rfl (T.fr "repr" (by decide)) boot_repr (pa_cons (pe_lst (pa_cons (pv 8) (pa_cons (pv 8) pa_nil))) pa_nil)) (nomark _)) (pw_or1 (pt_cmpR op_ne (pe_callB (call_reprD hGu hr.units) rfl (T.fr "repr" (by decide)) boot_repr (pa_cons (pe_lst (pa_cons (pe_cal c_is_closed (hr.mono (by decide)) rfl (pa_cons (pv 5) pa_nil)) (pa_cons (pe_calK k_is_closed (hr.mono (by decide)) rfl (pk_cons (pv 5) pk_nil)) pa_nil))) pa_nil)) (pe_callB (call_reprD hGu hr.units) rfl (T.fr "repr" (by decide)) boot_repr (pa_cons (pe_op op_rep (pe_lst (pa_cons (pe_cmpR (op_eqD hr.units) (pv 8) (pe_tup pa_nil) (nomark _)) pa_nil)) pe_int) pa_nil)) (nomark _))))) (pss_one (ps_ret pe_bl)) pss_nil)
      (pss_cons (ps_for PassesOwn.never rfl (pi_range1 (by rfl) (T.fr "range" (by decide)) (pa_cons pe_int pa_nil)) (pg_name (i := 9) sc_law.nd rfl (.inl rfl)) (pss_cons (ps_set (i := 10) sc_law.nd rfl (.inr rfl) (pe_lc (own := [("_law_at", 4)]) (g := (gName 4)) (tt := tYes) (te := (tCall (spPick K) [] E0 (tCons (tVar 2) (tCons (tVar 3) tNil)))) rfl sc_law.nd (pi_range1 (by rfl) (T.fr "range" (by decide)) (pa_cons (pe_cal c__law_take (hr.mono (by decide)) rfl (pa_cons (pv 2) (pa_cons pe_int pa_nil))) pa_nil)) (blkOk_by (N := ["_law_script", "_law_k", "_law_box_here", "_law_names", "_law_at", "_law_things", "_law_name", "_law_kept", "_law_due", "_law_turn", "_law_starts", "_law_gone", "_law_one", "_law_order_here", "_law_left", "_law_heard_here"]) (sc := defScope (top 54)) (by decide +kernel)) (fun _ _ _ _ _ => (pg_name (i := 4) sc_law.nd rfl (.inl rfl))) (fun _ _ _ _ _ => pts_nil) (fun _ _ _ _ _ => (pe_cal c__law_pick (hr.mono (by decide)) rfl (pa_cons (pv 2) (pa_cons (pv 3) pa_nil))))))
      (pss_cons (ps_setLc (i := 11) (own := [("_law_name", 6)]) (g := (gName 6)) (tt := (tB (tDNotIn (tVar 6) (tVar 5)))) (te := (tVar 6)) rfl sc_law.nd rfl rfl (by rfl) (pi_list (pv 10)) (blkOk_by (N := ["_law_script", "_law_k", "_law_box_here", "_law_names", "_law_at", "_law_things", "_law_name", "_law_kept", "_law_due", "_law_turn", "_law_starts", "_law_gone", "_law_one", "_law_order_here", "_law_left", "_law_heard_here"]) (sc := defScope (top 54)) (by decide +kernel)) (fun _ _ _ _ _ => (pg_name (i := 6) sc_law.nd rfl (.inl rfl))) (fun _ _ _ _ _ => (pts_one (pt_cmp (pc_dnotin (hu_of hr) (pv 6) (pv 5))))) (fun _ _ _ _ _ => (pv 6)))
      (pss_cons (ps_set (i := 8) sc_law.nd rfl (.inl rfl) (pe_ifExp (pt_cmpR (op_neD hr.units) (pv 11) (pe_lst pa_nil) (nomark _)) (pe_tup (pa_cons pe_str (pa_cons (pe_callB SkE.call_repr_int rfl (T.fr "repr" (by decide)) boot_repr (pa_cons (pe_ix ix_list (pv 11) pe_int (fun _ _ => rfl)) pa_nil)) pa_nil))) (pe_tup (pa_cons pe_str (pa_cons (pe_cal c__law_come (hr.mono (by decide)) rfl (pa_cons (pv 5) (pa_cons (pv 10) pa_nil))) pa_nil)))))
      (pss_cons (ps_if (pt_cmpR op_ne (pe_callB (call_reprD hGu hr.units) rfl (T.fr "repr" (by decide)) boot_repr (pa_cons (pe_heard (k := 13) (t := fun E' => (tCallS (spClosure K aN) (fun _ => E') (tCons (tVar 5) (tCons (tVar 10) tNil)))) FH hH T2 hN hR (T.fr "repr" (by decide)) rfl TB rfl (hr.mono (by decide)) (LamX.lamS_by (sc := defScope (top 54)) (by decide +kernel)) rfl (fun _ _ _ _ _ => rfl) (fun A' outer' s' H' E' f' c' hr' => (pe_calS (E := fun _ => E') c_closure (hr'.mono (by decide)) rfl (fun σ => passAt (takes_of rfl rfl rfl rfl) σ) (pa_cons (pv 5) (pa_cons (pv 10) pa_nil))))) pa_nil)) (pe_callB (call_reprD hGu hr.units) rfl (T.fr "repr" (by decide)) boot_repr (pa_cons (pv 8) pa_nil)) (nomark _)) (pss_one (ps_ret pe_bl)) pss_nil)
      (pss_cons (ps_if (pt_cmpR (op_neD hr.units) (pe_heard (k := 13) (t := fun E' => (tKwS (spClosure K aN) kw2r (fun _ => E') (tCons (tCB (rTupS K) (tCons (tVar 10) tNil)) (tCons (tVar 5) tNil)))) FH hH T2 hN hR (T.fr "repr" (by decide)) rfl TB rfl (hr.mono (by decide)) (LamX.lamS_by (sc := defScope (top 54)) (by decide +kernel)) rfl (fun _ _ _ _ _ => rfl) (fun A' outer' s' H' E' f' c' hr' => (pe_calKS (E := (fun _ => E')) k_closure (hr'.mono (by decide)) rfl (fun σ => passAt (takes_of rfl rfl rfl rfl) σ) (pk_cons (pe_callTy call_tuple_of rfl (T.fr "tuple" (by decide)) boot_tuple (pa_cons (pv 10) pa_nil)) (pk_cons (pv 5) pk_nil))))) (pv 8) (nomark _)) (pss_one (ps_ret pe_bl)) pss_nil)
      (pss_cons (ps_set (i := 6) sc_law.nd rfl (.inr rfl) (pe_cal c__law_pick (hr.mono (by decide)) rfl (pa_cons (pv 2) (pa_cons (pe_op op_cat (pv 3) (pe_lst (pa_cons pe_int pa_nil))) pa_nil))))
      (pss_cons (ps_set (i := 8) sc_law.nd rfl (.inl rfl) (pe_callTy call_tuple_of rfl (T.fr "tuple" (by decide)) boot_tuple (pa_cons (pe_lc (own := [("_law_one", 12)]) (g := (gName 12)) (tt := (tTest (tOp (rIn K false) (tVar 6) (tCall (spLLinks K) [] E0 (tCons (tDGet (tVar 5) (tVar 12)) tNil))))) (te := (tVar 12)) rfl sc_law.nd (pi_list (pe_callB (call_sortedDI rfl) rfl (T.fr "sorted" (by decide)) boot_sorted (pa_cons (pv 5) pa_nil))) (blkOk_by (N := ["_law_script", "_law_k", "_law_box_here", "_law_names", "_law_at", "_law_things", "_law_name", "_law_kept", "_law_due", "_law_turn", "_law_starts", "_law_gone", "_law_one", "_law_order_here", "_law_left", "_law_heard_here"]) (sc := defScope (top 54)) (by decide +kernel)) (fun _ _ _ _ _ => (pg_name (i := 12) sc_law.nd rfl (.inl rfl))) (fun _ _ _ _ _ => (pts_one (pt_cmpR op_in_seq (pv 6) (pe_cal c__law_links (hr.mono (by decide)) rfl (pa_cons (pe_dget (hu_of hr) (pv 5) (pv 12) (fun _ _ => rfl)) pa_nil)) (by rfl)))) (fun _ _ _ _ _ => (pv 12))) pa_nil)))
      (pss_one (ps_if (pt_cmpR op_ne (pe_callB (call_reprD hGu hr.units) rfl (T.fr "repr" (by decide)) boot_repr (pa_cons (pe_lst (pa_cons (pe_cal c_linkers_of (hr.mono (by decide)) rfl (pa_cons (pv 5) (pa_cons (pv 6) pa_nil))) (pa_cons (pe_calK k_linkers_of (hr.mono (by decide)) rfl (pk_cons (pv 6) (pk_cons (pv 5) pk_nil))) pa_nil))) pa_nil)) (pe_callB (call_reprD hGu hr.units) rfl (T.fr "repr" (by decide)) boot_repr (pa_cons (pe_lst (pa_cons (pv 8) (pa_cons (pv 8) pa_nil))) pa_nil)) (nomark _)) (pss_one (ps_ret pe_bl)) pss_nil))))))))))
      (pss_cons (ps_asg (pe_cal c__law_order (hr.mono (by decide)) rfl (pa_cons (pv 5) pa_nil)) (pg_tup rfl (pgs_cons (pg_name (i := 13) sc_law.nd rfl (.inl rfl)) (pgs_cons (pg_name (i := 14) sc_law.nd rfl (.inr rfl)) pgs_nil))))
      (pss_cons (ps_set (i := 15) sc_law.nd rfl (.inl rfl) (pe_heard (k := 13) (t := fun E' => (tCallS (spDepths K aR) (fun _ => E') (tCons (tVar 5) tNil))) FH hH T2 hN hR (T.fr "repr" (by decide)) rfl TB rfl (hr.mono (by decide)) (LamX.lamS_by (sc := defScope (top 54)) (by decide +kernel)) rfl (fun _ _ _ _ _ => rfl) (fun A' outer' s' H' E' f' c' hr' => (pe_calS (E := fun _ => E') c_depths (hr'.mono (by decide)) rfl (fun σ => passAt (takes_of rfl rfl rfl rfl) σ) (pa_cons (pv 5) pa_nil)))))
      (pss_cons (ps_if (PW.pt (pw_and (pt_cmpR (op_eqD hr.units) (pv 14) (pe_lst pa_nil) (nomark _)) (pw_and1 (PW.pt (pw_or (pt_cmpR op_ne (pe_callB (call_reprD hGu hr.units) rfl (T.fr "repr" (by decide)) boot_repr (pa_cons (pv 15) pa_nil)) (pe_callB (call_reprD hGu hr.units) rfl (T.fr "repr" (by decide)) boot_repr (pa_cons (pe_tup (pa_cons pe_str (pa_cons (pe_cal c__law_deep (hr.mono (by decide)) rfl (pa_cons (pv 5) (pa_cons (pv 13) pa_nil))) pa_nil))) pa_nil)) (nomark _)) (pw_or1 (pt_cmpR (op_neD hr.units) (pe_calKS (E := (fun _ => fun _ _ _ => False)) k_depths (hr.mono (by decide)) rfl (fun σ => passAt LamX.takes0 σ) (pk_cons (pv 5) pk_nil)) (pe_ix ix_tup (pv 15) pe_int (fun _ _ => rfl)) (nomark _)))))))) (pss_one (ps_ret pe_bl)) pss_nil)
      (pss_cons (ps_if (PW.pt (pw_and (pt_cmpR (op_neD hr.units) (pv 14) (pe_lst pa_nil) (nomark _)) (pw_and1 (PW.pt (pw_or (pt_cmpR op_ne (pe_ix ix_tup (pv 15) pe_int (fun _ _ => rfl)) pe_str (nomark _)) (pw_or1 (pt_cmpR (op_neD hr.units) (pe_lc (own := [("_law_name", 6)]) (g := (gName 6)) (tt := (tTest (tOp (rIn K true) (tVar 6) (tVar 14)))) (te := (tVar 6)) rfl sc_law.nd (pi_tup (pe_ix ix_tup (pv 15) pe_int (fun _ _ => rfl))) (blkOk_by (N := ["_law_script", "_law_k", "_law_box_here", "_law_names", "_law_at", "_law_things", "_law_name", "_law_kept", "_law_due", "_law_turn", "_law_starts", "_law_gone", "_law_one", "_law_order_here", "_law_left", "_law_heard_here"]) (sc := defScope (top 54)) (by decide +kernel)) (fun _ _ _ _ _ => (pg_name (i := 6) sc_law.nd rfl (.inl rfl))) (fun _ _ _ _ _ => (pts_one (pt_cmpR op_notIn_seq (pv 6) (pv 14) (by rfl)))) (fun _ _ _ _ _ => (pv 6))) (pe_lst pa_nil) (nomark _)))))))) (pss_one (ps_ret pe_bl)) pss_nil)
      (pss_one (ps_if (pt_cmpR op_ne (pe_callB (call_reprK hGu hr.units) rfl (T.fr "repr" (by decide)) boot_repr (pa_cons (pv 5) pa_nil)) (pv 7) (nomark _)) (pss_one (ps_ret pe_bl)) pss_nil)))))))))))))))
      (pss_one (ps_ret pe_bl))), ?_⟩
  have ht0 : LamX.Tabs [(pL, (envOfC "law" (defScope (top 54)) s.heap.objs.size fa (.ref cL)).qual ++ "<lambda>")] H := fun p hp => by
    have : p = (pL, (envOfC "law" (defScope (top 54)) s.heap.objs.size fa (.ref cL)).qual ++ "<lambda>") := by simpa using hp
    rw [this]
    exact LamX.TabS.nil hT
  refine Evl.q_forR1 (n := 4) (ea_one ev_c) (by decide) (fun i σ' H' => σ'.length = 16 ∧ σ'[0]? = some (some (.ref a)) ∧ LamX.ExtN H H' ∧ LamX.Tabs [(pL, (envOfC "law" (defScope (top 54)) s.heap.objs.size fa (.ref cL)).qual ++ "<lambda>")] H') (fun H1 e1 => ⟨rfl, rfl, LamX.ExtN.of e1, ht0.ext e1⟩) (fun i σ1 H1 hi I => ?_) (fun σ' H' I => s_ret (D := { nx := fun x H' => (fun v x => v = V.bl true) V.non H', rt := fun v x => v = V.bl true }) ev_c fun _ _ => rfl)
  obtain ⟨s16, s0, eN, ht1⟩ := I
  have hs1 : SqL K H1 a (ns.map V.int) := by
    rcases hs with (h | ⟨o, h⟩) | h
    · exact .inl (.inl (eN a _ h fun ps => by intro z; cases z))
    · exact .inl (.inr ⟨o, eN a _ h fun ps => by intro z; cases z⟩)
    · exact .inr h
  generalize hTT : [(pL, (envOfC "law" (defScope (top 54)) s.heap.objs.size fa (.ref cL)).qual ++ "<lambda>")] = TT at ht1 ht0
  have t0 : (σ1.set 1 (some (.int (i : Int))))[0]? = some (some (.ref a)) := by rw [List.getElem?_set_ne (by decide)]; exact s0
  have t1 : (σ1.set 1 (some (.int (i : Int))))[1]? = some (some (.int (i : Int))) := by rw [List.getElem?_set_self (by omega)]
  have tl : (σ1.set 1 (some (.int (i : Int)))).length = 16 := by simpa using s16
  generalize σ1.set 1 (some (V.int (i : Int))) = σ2 at t0 t1 tl ⊢
  -- the box
  refine q_asgP (P := fun v H' => ∃ b, v = .ref b ∧ H1 b = none ∧ BoxA H' b) (ep_call (P := fun vs H' => vs = [.ref a, .int (i : Int)] ∧ Ex H1 H') (ea_epa (ea_two (ev_var t0) (ev_var t1)) fun H2 e => ⟨rfl, e⟩) (fun vs H2 e p Q q => ⟨a, i, ns, by rw [p.1] <;> rfl, ex_l p.2 hs1, fun v H3 e3 z => ?_⟩)) (fun v2 H2 e2 hv2 => ?_)
  · obtain ⟨b, rfl, h1, h2⟩ := z
    exact q _ H3 e3 ⟨b, rfl, fresh_back p.2 h1, h2⟩
  obtain ⟨b, rfl, nb1, hb2⟩ := hv2
  have ht2 := ht1.ext e2
  have u0 : (σ2.set 2 (some (.ref b)))[0]? = some (some (.ref a)) := by rw [List.getElem?_set_ne (by decide)]; exact t0
  have u2 : (σ2.set 2 (some (.ref b)))[2]? = some (some (.ref b)) := by rw [List.getElem?_set_self (by omega)]
  have ul : (σ2.set 2 (some (.ref b))).length = 16 := by simpa using tl
  generalize σ2.set 2 (some (V.ref b)) = σ3 at u0 u2 ul ⊢
  -- the names
  refine q_raw (nm_lc K (σ := σ3) (j := 4) (fun H3 r3 Q q => ?_) (by omega) hb2 (fun m k H3 r3 k2 k9 nmb hm3 => ?_))
  · refine ⟨.ref b, u2, b, 8, rfl, r3.box, by decide, by decide, fun x H' r' g0 g1 => ⟨2, x, rfl, rfl, ?_⟩⟩
    obtain ⟨y, rfl⟩ : ∃ y : Nat, x = (y : Int) := ⟨x.toNat, by omega⟩
    have := q (2 + y) H' r' (by omega) (by omega)
    rw [Int.natCast_add] at this
    exact this
  have v0 : (σ3.set 3 (some (.ref m)))[0]? = some (some (.ref a)) := by rw [List.getElem?_set_ne (by decide)]; exact u0
  have v2 : (σ3.set 3 (some (.ref m)))[2]? = some (some (.ref b)) := by rw [List.getElem?_set_ne (by decide)]; exact u2
  have v3 : (σ3.set 3 (some (.ref m)))[3]? = some (some (.ref m)) := by rw [List.getElem?_set_self (by omega)]
  have vl : (σ3.set 3 (some (.ref m))).length = 16 := by simpa using ul
  dsimp only
  generalize σ3.set 3 (some (V.ref m)) = σ4 at v0 v2 v3 vl ⊢
  have ht3 := tabs_rb hb2 ht2 r3
  have hb3 := r3.box
  have eN3 : LamX.ExtN H1 H3 := fun c o h t => (by
    have ne : c ≠ b := fun z => by rw [z, nb1] at h; cases h
    exact r3.at (e2 c o h) ne)
  have hnm9 : (nmOf k).length ≤ 9 := by rw [nmOf_len]; exact k9
  have hnmb := nmOf_b k9
  have hnmne : nmOf k ≠ [] := fun z => by
    have := congrArg List.length z
    rw [nmOf_len, List.length_nil] at this
    omega
  -- things = {}
  refine q_raw (fun d nd3 => ?_)
  have w5 : (σ4.set 5 (some (.ref d)))[5]? = some (some (.ref d)) := by rw [List.getElem?_set_self (by omega)]
  have w2 : (σ4.set 5 (some (.ref d)))[2]? = some (some (.ref b)) := by rw [List.getElem?_set_ne (by decide)]; exact v2
  have w3 : (σ4.set 5 (some (.ref d)))[3]? = some (some (.ref m)) := by rw [List.getElem?_set_ne (by decide)]; exact v3
  have w0 : (σ4.set 5 (some (.ref d)))[0]? = some (some (.ref a)) := by rw [List.getElem?_set_ne (by decide)]; exact v0
  have wl : (σ4.set 5 (some (.ref d))).length = 16 := by simpa using vl
  have r4 : RB b H3 (upd H3 d (.dK [])) := RB.of hb3 (Ex.new nd3)
  have hth4 : ThO K (upd H3 d (.dK [])) d [] := ⟨[], upd_same, .nil⟩
  have tsb0 : TsB (nmOf k) [] := ⟨.nil, (fun n hn => by cases hn), fun p hp => by cases hp⟩
  dsimp only
  generalize upd H3 d (.dK []) = H4 at r4 hth4 ⊢
  generalize σ4.set 5 (some (V.ref d)) = σ5 at w0 w2 w3 w5 wl ⊢
  -- the first draws
  refine Evl.q_forL (a := m) (xs := (nmOf k).map V.int) (ev_var w3) (sq_of (r4.at hm3 nmb)) (fun j σ' H' => σ'.length = 16 ∧ σ'[0]? = some (some (.ref a)) ∧ σ'[2]? = some (some (.ref b)) ∧ σ'[3]? = some (some (.ref m)) ∧ σ'[5]? = some (some (.ref d)) ∧ RB b H3 H' ∧ ∃ ts, ThO K H' d ts ∧ TsB (nmOf k) ts) (fun H5 e5 => ⟨wl, w0, w2, w3, w5, r4.ext e5, [], hth4.ex e5, tsb0⟩) (fun j σ' H' _ z => sq_of (z.2.2.2.2.2.1.at hm3 nmb)) (fun j x σ' H' hx I => ?_) (fun σ' H' I => ?_)
  · obtain ⟨x16, x0, x2, x3, x5, r5, ts, hth, tsb⟩ := I
    obtain ⟨n, hn, rfl⟩ : ∃ n, (nmOf k)[j]? = some n ∧ V.int n = x := by simpa using hx
    have hnn : n ∈ nmOf k := List.mem_of_getElem? hn
    have lts : ts.length ≤ 9 := (tsb.toOk hnm9 hnmb).len
    refine g_name ?_
    have y6 : (σ'.set 6 (some (.int n)))[6]? = some (some (.int n)) := by rw [List.getElem?_set_self (by omega)]
    have yk : ∀ k, k ≠ 6 → (σ'.set 6 (some (.int n)))[k]? = σ'[k]? := fun k hk => by rw [List.getElem?_set_ne (Ne.symm hk)]
    have yl : (σ'.set 6 (some (.int n))).length = 16 := by simpa using x16
    have y0 := (yk 0 (by decide)).trans x0
    have y2 := (yk 2 (by decide)).trans x2
    have y3 := (yk 3 (by decide)).trans x3
    have y5 := (yk 5 (by decide)).trans x5
    generalize σ'.set 6 (some (V.int n)) = σ6 at y6 yl y0 y2 y3 y5 ⊢
    refine s_whenB (etb_gt (S := fun d => ∃ i : Int, d = .int i ∧ 0 ≤ i ∧ i < 7) (es_takeS (K := K) (j := 2) (σ := σ6) (E := E0) (k := 7) y2 (by decide) (by decide))) r5.box (fun H5 r6 => ?_) (fun H5 r6 => ⟨yl, y0, y2, y3, y5, r5.trans r6, ts, RB.ths r5.box r6 hth, tsb⟩)
    have r7 := r5.trans r6
    have hth5 := RB.ths r5.box r6 hth
    refine s_putTh (K := K) (nm := nmOf k) (n := n) hb3 nd3 r7 hth5 tsb (by omega) ?_ y5 (fun H6 _ => ev_var y6) hnn (fun H6 t r8 h1 h2 => ⟨yl, y0, y2, y3, y5, r8, _, h1, h2⟩)
    exact es_if (etb_gt (S := fun d => ∃ i : Int, d = .int i ∧ 0 ≤ i ∧ i < 3) (es_takeS (K := K) (j := 2) (E := E0) (k := 3) y2 (by decide) (by decide))) (es_loose y2 (nm4 y2 y3 (r7.at hm3 nmb) nmb hnm9 hnmne hnmb)) (es_tag y3 (fun H6 r8 => (r7.trans r8).at hm3 nmb) hnmne hnmb)
  obtain ⟨x16, x0, x2, x3, x5, r5, ts1, hth, tsb⟩ := I
  -- the second draws
  have second : ∀ (σ' : L2.St) (H' : Hp) (rest : TS) (D : Ends), σ'.length = 16 → σ'[0]? = some (some (.ref a)) → σ'[2]? = some (some (.ref b)) → σ'[3]? = some (some (.ref m)) → σ'[5]? = some (some (.ref d)) → RB b H3 H' → (∃ ts, ThO K H' d ts ∧ TsB (nmOf k) ts) →
      (∀ (σ' : L2.St) (H' : Hp), σ'.length = 16 → σ'[0]? = some (some (.ref a)) → σ'[2]? = some (some (.ref b)) → σ'[3]? = some (some (.ref m)) → σ'[5]? = some (some (.ref d)) → RB b H3 H' → (∃ ts, ThO K H' d ts ∧ TsB (nmOf k) ts) → rest D σ' H') →
      tSeq (tIfS (tTest (tOp rEq (tCall spTake [] E0 (tCons (tVar 2) (tCons (tC (V.int 2)) tNil))) (tC (V.int 0))))
        (tFor (iRng1 (tCons (tCB (rLenS K) (tCons (tVar 3) tNil)) tNil)) (gName 4) (sDPut (tVar 5) (tOp (rIxL K) (tVar 3) (tVar 4)) (tIf (tTest (tOp (rI0 fun i j => V.bl (decide (j < i))) (tVar 4) (tC (V.int 0)))) (tCall (spLoose K) [] E0 (tCons (tVar 2) (tCons (tSl (rSlL K) (tVar 3) tNoPart (tPart (tVar 4))) tNil))) (tTup (tCons (tC (V.str "blob")) (tCons (tTup tNil) tNil)))))) tNext) rest D σ' H' := fun σ' H' rest D x16 x0 x2 x3 x5 r5 hts hk => by
    refine q_whenB (etb_eq (S := fun d => ∃ i : Int, d = .int i ∧ 0 ≤ i ∧ i < 2) (es_takeS (K := K) (j := 2) (E := E0) (k := 2) x2 (by decide) (by decide))) r5.box (fun H5 r6 => ?_) (fun H5 r6 => hk σ' H5 x16 x0 x2 x3 x5 (r5.trans r6) (by
      obtain ⟨ts, h1, h2⟩ := hts
      exact ⟨ts, RB.ths r5.box r6 h1, h2⟩))
    have r7 := r5.trans r6
    have hm5 := r7.at hm3 nmb
    refine s_forR1 (D := { D with nx := rest D }) (n := (k : Int)) (ea_one (ev_is (ev_len (ev_var x3) (sq_of hm5)) (by rw [List.length_map, nmOf_len]))) (by omega) (fun j σ' H' => σ'.length = 16 ∧ σ'[0]? = some (some (.ref a)) ∧ σ'[2]? = some (some (.ref b)) ∧ σ'[3]? = some (some (.ref m)) ∧ σ'[5]? = some (some (.ref d)) ∧ RB b H3 H' ∧ ∃ ts, ThO K H' d ts ∧ TsB (nmOf k) ts) (fun H6 e6 => ⟨x16, x0, x2, x3, x5, r7.ext e6, by
      obtain ⟨ts, h1, h2⟩ := hts
      exact ⟨ts, (RB.ths r5.box r6 h1).ex e6, h2⟩⟩) (fun j σ' H' hj I => ?_) (fun σ' H' I => hk σ' H' I.1 I.2.1 I.2.2.1 I.2.2.2.1 I.2.2.2.2.1 I.2.2.2.2.2.1 I.2.2.2.2.2.2)
    obtain ⟨x16, x0, x2, x3, x5, r5, ts, hth, tsb⟩ := I
    have hj' : j < k := by omega
    obtain ⟨n, hn⟩ : ∃ n, (nmOf k)[j]? = some n := ⟨_, List.getElem?_eq_getElem (by rw [nmOf_len]; exact hj')⟩
    have lts : ts.length ≤ 9 := (tsb.toOk hnm9 hnmb).len
    have y4 : (σ'.set 4 (some (.int (j : Int))))[4]? = some (some (.int (j : Int))) := by rw [List.getElem?_set_self (by omega)]
    have yk : ∀ k, k ≠ 4 → (σ'.set 4 (some (.int (j : Int))))[k]? = σ'[k]? := fun k hk => by rw [List.getElem?_set_ne (Ne.symm hk)]
    have yl : (σ'.set 4 (some (.int (j : Int)))).length = 16 := by simpa using x16
    have y0 := (yk 0 (by decide)).trans x0
    have y2 := (yk 2 (by decide)).trans x2
    have y3 := (yk 3 (by decide)).trans x3
    have y5 := (yk 5 (by decide)).trans x5
    generalize σ'.set 4 (some (V.int (j : Int))) = σ6 at y4 yl y0 y2 y3 y5 ⊢
    have hmH := r5.at hm3 nmb
    refine s_putTh (K := K) (nm := nmOf k) (n := n) hb3 nd3 r5 hth tsb (by omega) ?_ y5 (fun H6 r8 => ev_op (ev_var y3) (ev_var y4) (rv_ixL (sq_of (r8.at hmH nmb)) (atI_nat (j := j) (by simp [hn])))) (List.mem_of_getElem? hn) (fun H6 t r8 h1 h2 => ⟨yl, y0, y2, y3, y5, r8, _, h1, h2⟩)
    exact es_ifT (fun H6 r8 => et_test (ev_op (ev_var y4) ev_c rv_I0)) (fun hz => es_loose y2 (nm_sl y3 y4 hmH nmb hnm9 (by have := of_decide_eq_true hz; omega) hnmne hnmb)) (fun _ => es_blob)
  refine second _ _ _ _ x16 x0 x2 x3 x5 r5 ⟨ts1, hth, tsb⟩ fun σ7 H7 z16 z0 z2 z3 z5 r7 ⟨ts, hth7, tsb7⟩ => ?_
  clear second x16 x0 x2 x3 x5 r5 hth tsb
  have ok := tsb7.toOk hnm9 hnmb
  have ht7 := tabs_rb hb3 ht3 r7
  have hb7 := r7.box
  have hm7 := r7.at hm3 nmb
  have hnmO : NamesOk (nmOf k) := ⟨hnmne, by omega, hnmb⟩
  -- what is kept, what lacks
  refine q_kept (T := TT) hb7 ht7 z5 hth7 ok (fun v8 ps H8 r8 hps h8 => ?_)
  have a7 : ((σ7.set 7 (some (.str (PyData.dict (thsD ts)).shown))).set 8 (some v8))[7]? = some (some (.str (PyData.dict (thsD ts)).shown)) := by rw [List.getElem?_set_ne (by decide), List.getElem?_set_self (by omega)]
  have a8 : ((σ7.set 7 (some (.str (PyData.dict (thsD ts)).shown))).set 8 (some v8))[8]? = some (some v8) := by rw [List.getElem?_set_self (by simp; omega)]
  have ak : ∀ k, k < 7 → ((σ7.set 7 (some (.str (PyData.dict (thsD ts)).shown))).set 8 (some v8))[k]? = σ7[k]? := fun k hk => by rw [List.getElem?_set_ne (by omega), List.getElem?_set_ne (by omega)]
  have al : ((σ7.set 7 (some (.str (PyData.dict (thsD ts)).shown))).set 8 (some v8)).length = 16 := by simpa using z16
  have a0 := (ak 0 (by decide)).trans z0
  have a2 := (ak 2 (by decide)).trans z2
  have a3 := (ak 3 (by decide)).trans z3
  have a5 := (ak 5 (by decide)).trans z5
  clear ak
  generalize (σ7.set 7 (some (.str (PyData.dict (thsD ts)).shown))).set 8 (some v8) = σ8 at a0 a2 a3 a5 a7 a8 al ⊢
  refine q_noR (T := TT) (ask_lacking r8.box a5 a8 (r8.ths hb7 hth7) ok h8 hps) r8.box r8.tb (fun H9 r9 => ?_)
  have r79 := r8.trans r9
  clear hps h8 a8
  -- the turns
  refine Evl.q_forR1 (n := 4) (ea_one ev_c) (by decide) (fun j σ' H' => σ'.length = 16 ∧ σ'[0]? = some (some (.ref a)) ∧ σ'[2]? = some (some (.ref b)) ∧ σ'[3]? = some (some (.ref m)) ∧ σ'[5]? = some (some (.ref d)) ∧ σ'[7]? = some (some (.str (PyData.dict (thsD ts)).shown)) ∧ LR TT b H7 H') (fun H10 e10 => ⟨al, a0, a2, a3, a5, a7, r79.ext e10⟩) (fun j σ' H' hj I => ?_) (fun σ' H' I => ?_)
  · obtain ⟨i16, i0, i2, i3, i5, i7, rI⟩ := I
    have f9 : ∀ k, k ≠ 9 → (σ'.set 9 (some (.int (j : Int))))[k]? = σ'[k]? := fun k hk => by rw [List.getElem?_set_ne (Ne.symm hk)]
    have fl : (σ'.set 9 (some (.int (j : Int)))).length = 16 := by simpa using i16
    have f0 := (f9 0 (by decide)).trans i0
    have f2 := (f9 2 (by decide)).trans i2
    have f3 := (f9 3 (by decide)).trans i3
    have f5 := (f9 5 (by decide)).trans i5
    have f7 := (f9 7 (by decide)).trans i7
    clear f9
    generalize σ'.set 9 (some (V.int (j : Int))) = τ at f0 f2 f3 f5 f7 fl ⊢
    -- the starts
    refine q_starts (T := TT) rI.box rI.tb f2 f3 fl (rI.lst hm7 nmb) nmb hnmO (fun st ns' H10 r10 hst nst hl9 hn50 => ?_)
    have g10 : (τ.set 10 (some (.ref st)))[10]? = some (some (.ref st)) := by rw [List.getElem?_set_self (by omega)]
    have gk : ∀ k, k ≠ 10 → (τ.set 10 (some (.ref st)))[k]? = τ[k]? := fun k hk => by rw [List.getElem?_set_ne (Ne.symm hk)]
    have gl : (τ.set 10 (some (.ref st))).length = 16 := by simpa using fl
    have g0 := (gk 0 (by decide)).trans f0
    have g2 := (gk 2 (by decide)).trans f2
    have g3 := (gk 3 (by decide)).trans f3
    have g5 := (gk 5 (by decide)).trans f5
    have g7 := (gk 7 (by decide)).trans f7
    clear gk f0 f2 f3 f5 f7 fl
    generalize τ.set 10 (some (V.ref st)) = τ2 at g0 g2 g3 g5 g7 g10 gl ⊢
    have rA := rI.trans r10
    have hthA := rA.ths hb7 hth7
    -- what is not there
    refine q_asgP (P := NewD K H10 ((goneL ts ns').map .int)) (en_gone g5 g10 gl hthA hst hl9) (fun v11 H11 e11 hv11 => ?_)
    obtain ⟨l, rfl, nl, hl11⟩ := hv11.ints
    have h11 : (τ2.set 11 (some (.ref l)))[11]? = some (some (.ref l)) := by rw [List.getElem?_set_self (by omega)]
    have hk : ∀ k, k ≠ 11 → (τ2.set 11 (some (.ref l)))[k]? = τ2[k]? := fun k hk => by rw [List.getElem?_set_ne (Ne.symm hk)]
    have hl' : (τ2.set 11 (some (.ref l))).length = 16 := by simpa using gl
    have h0 := (hk 0 (by decide)).trans g0
    have h2 := (hk 2 (by decide)).trans g2
    have h3 := (hk 3 (by decide)).trans g3
    have h5 := (hk 5 (by decide)).trans g5
    have h7 := (hk 7 (by decide)).trans g7
    have h10 := (hk 10 (by decide)).trans g10
    clear hk g0 g2 g3 g5 g7 g10 gl
    generalize τ2.set 11 (some (V.ref l)) = τ3 at h0 h2 h3 h5 h7 h10 h11 hl' ⊢
    -- what is due
    refine q_asgP (P := fun v H' => Dp K H' v (dueC ts ns')) (ep_due h5 h10 h11 (hthA.ex e11) ok (e11 st _ hst) hl11 hl9 hn50) (fun v8 H12 e12 hv8 => ?_)
    have k8 : (τ3.set 8 (some v8))[8]? = some (some v8) := by rw [List.getElem?_set_self (by omega)]
    have kk : ∀ k, k ≠ 8 → (τ3.set 8 (some v8))[k]? = τ3[k]? := fun k hk => by rw [List.getElem?_set_ne (Ne.symm hk)]
    have kl : (τ3.set 8 (some v8)).length = 16 := by simpa using hl'
    have k0 := (kk 0 (by decide)).trans h0
    have k2 := (kk 2 (by decide)).trans h2
    have k3 := (kk 3 (by decide)).trans h3
    have k5 := (kk 5 (by decide)).trans h5
    have k7 := (kk 7 (by decide)).trans h7
    have k10 := (kk 10 (by decide)).trans h10
    clear kk h0 h2 h3 h5 h7 h10 h11 hl'
    generalize τ3.set 8 (some v8) = τ4 at k0 k2 k3 k5 k7 k8 k10 kl ⊢
    have rB := rA.ext (e11.trans e12)
    have hthB := rB.ths hb7 hth7
    have hstB : H12 st = some (.lst (ns'.map V.int)) := e12 st _ (e11 st _ hst)
    have fD := fit_due (ts := ts) ok hn50
    have v8R : EvR TT b (tVar 8) τ4 H12 (fun v H' => Dp K H' v (dueC ts ns')) := er_of fun H13 r13 => ed_var k8 (r13.dp rB.box (imm_due ts ns') hv8)
    refine q_noR (T := TT) (er_ne (er_repr (by rw [← hTT] at *; exact er_closure rB.box k5 k10 hthB ok hstB nst hl9 hn50) (.inl (due_tup ts ns')) fD (by decide) (by decide)) (er_repr v8R (.inl (due_tup ts ns')) fD (by decide) (by decide)) rfl) rB.box rB.tb (fun H13 r13 => ?_)
    have rC := rB.trans r13
    have v8R2 : EvR TT b (tVar 8) τ4 H13 (fun v H' => Dp K H' v (dueC ts ns')) := er_of fun H14 r14 => ed_var k8 ((r13.trans r14).dp rB.box (imm_due ts ns') hv8)
    refine q_noR (T := TT) (er_neD (by rw [← hTT] at *; exact er_closureK rC.box k5 k10 (rC.ths hb7 hth7) ok (r13.lst hstB nst) nst hl9 hn50) v8R2 (imm_due ts ns') fD (by decide)) rC.box rC.tb (fun H14 r14 => ?_)
    have rD := rC.trans r14
    -- a name
    refine q_asgR (T := TT) (er_name rD.box k2 k3 (rD.lst hm7 nmb) nmb hnmO) rD.box rD.tb (fun v6 H15 r15 hv6 => ?_)
    obtain ⟨nn, rfl⟩ := hv6
    have p6 : (τ4.set 6 (some (.int nn)))[6]? = some (some (.int nn)) := by rw [List.getElem?_set_self (by omega)]
    have pk : ∀ k, k ≠ 6 → (τ4.set 6 (some (.int nn)))[k]? = τ4[k]? := fun k hk => by rw [List.getElem?_set_ne (Ne.symm hk)]
    have pl : (τ4.set 6 (some (.int nn))).length = 16 := by simpa using kl
    have p0 := (pk 0 (by decide)).trans k0
    have p2 := (pk 2 (by decide)).trans k2
    have p3 := (pk 3 (by decide)).trans k3
    have p5 := (pk 5 (by decide)).trans k5
    have p7 := (pk 7 (by decide)).trans k7
    clear pk k0 k2 k3 k5 k7 k8 k10 kl v8R v8R2
    generalize τ4.set 6 (some (V.int nn)) = τ5 at p0 p2 p3 p5 p6 p7 pl ⊢
    have rE := rD.trans r15
    refine q_asgP (P := fun v H' => Dp K H' v (intsD (norm (linkersL ts nn)))) (ep_dueL p5 p6 pl (rE.ths hb7 hth7) ok) (fun v8 H16 e16 hv8 => ?_)
    have q8 : (τ5.set 8 (some v8))[8]? = some (some v8) := by rw [List.getElem?_set_self (by omega)]
    have qk : ∀ k, k ≠ 8 → (τ5.set 8 (some v8))[k]? = τ5[k]? := fun k hk => by rw [List.getElem?_set_ne (Ne.symm hk)]
    have ql : (τ5.set 8 (some v8)).length = 16 := by simpa using pl
    have q0 := (qk 0 (by decide)).trans p0
    have q2 := (qk 2 (by decide)).trans p2
    have q3 := (qk 3 (by decide)).trans p3
    have q5 := (qk 5 (by decide)).trans p5
    have q6 := (qk 6 (by decide)).trans p6
    have q7 := (qk 7 (by decide)).trans p7
    clear qk p0 p2 p3 p5 p6 p7 pl
    generalize τ5.set 8 (some v8) = τ6 at q0 q2 q3 q5 q6 q7 q8 ql ⊢
    have rF := rE.ext e16
    exact s_noR (T := TT) (ask_linkers rF.box q5 q6 q8 (rF.ths hb7 hth7) ok hv8) rF.box rF.tb (fun H17 r17 => ⟨ql, q0, q2, q3, q5, q7, rF.trans r17⟩)
  · obtain ⟨i16, i0, i2, i3, i5, i7, rI⟩ := I
    have hthI := rI.ths hb7 hth7
    -- the order
    refine q_asgG (P := fun v H'' => ∃ x p l, v = .ref x ∧ SqT K H'' x [.ref p, .ref l] ∧ H' p = none ∧ H'' p = some (.lst ((fin ts).1.map V.int)) ∧ H' l = none ∧ H'' l = some (.lst ((fin ts).2.map V.int))) (ep_call (P := fun vs H'' => vs = [.ref d] ∧ Ex H' H'') (ea_epa (ea_one (ev_var i5)) fun H2 e => ⟨rfl, e⟩) (fun vs H2 e z Q q => ⟨d, ts, by rw [z.1] <;> rfl, hthI.ex z.2, ok, fun v H3 e3 ⟨x, p, l, h1, h2, h3, h4, h5, h6⟩ => q v H3 e3 ⟨x, p, l, h1, h2, fresh_back z.2 h3, h4, fresh_back z.2 h5, h6⟩⟩)) (fun v H10 e10 hv => ?_)
    obtain ⟨x, o, l, rfl, hx, no, ho, nl, hl⟩ := hv
    have nob : o ≠ b := fun z => by
      obtain ⟨g, s', hg⟩ := rI.box
      rw [z, hg] at no
      cases no
    have nlb : l ≠ b := fun z => by
      obtain ⟨g, s', hg⟩ := rI.box
      rw [z, hg] at nl
      cases nl
    refine ⟨x, _, rfl, hx, rfl, _, _, rfl, _, _, rfl, rfl, ?_⟩
    have j14 : ((σ'.set 13 (some (.ref o))).set 14 (some (.ref l)))[14]? = some (some (.ref l)) := by rw [List.getElem?_set_self (by simp; omega)]
    have j13 : ((σ'.set 13 (some (.ref o))).set 14 (some (.ref l)))[13]? = some (some (.ref o)) := by rw [List.getElem?_set_ne (by decide), List.getElem?_set_self (by omega)]
    have jk : ∀ k, k < 13 → ((σ'.set 13 (some (.ref o))).set 14 (some (.ref l)))[k]? = σ'[k]? := fun k hk => by rw [List.getElem?_set_ne (by omega), List.getElem?_set_ne (by omega)]
    have jl : ((σ'.set 13 (some (.ref o))).set 14 (some (.ref l))).length = 16 := by simpa using i16
    have j0 := (jk 0 (by decide)).trans i0
    have j5 := (jk 5 (by decide)).trans i5
    have j7 := (jk 7 (by decide)).trans i7
    clear jk i0 i2 i3 i5 i7 i16
    dsimp only
    generalize (σ'.set 13 (some (V.ref o))).set 14 (some (V.ref l)) = τ at j0 j5 j7 j13 j14 jl ⊢
    have rJ := rI.ext e10
    -- the depths
    refine q_asgR (T := TT) (by rw [← hTT] at *; exact er_depths rJ.box j5 (rJ.ths hb7 hth7) ok) rJ.box rJ.tb (fun v15 H11 r11 hv15 => ?_)
    have m15 : (τ.set 15 (some v15))[15]? = some (some v15) := by rw [List.getElem?_set_self (by omega)]
    have mk : ∀ k, k ≠ 15 → (τ.set 15 (some v15))[k]? = τ[k]? := fun k hk => by rw [List.getElem?_set_ne (Ne.symm hk)]
    have ml : (τ.set 15 (some v15)).length = 16 := by simpa using jl
    have m0 := (mk 0 (by decide)).trans j0
    have m5 := (mk 5 (by decide)).trans j5
    have m7 := (mk 7 (by decide)).trans j7
    have m13 := (mk 13 (by decide)).trans j13
    have m14 := (mk 14 (by decide)).trans j14
    clear mk j0 j5 j7 j13 j14 jl
    generalize τ.set 15 (some v15) = τ2 at m0 m5 m7 m13 m14 m15 ml ⊢
    have rK := rJ.trans r11
    have hoK := r11.lst ho nob
    have hlK := r11.lst hl nlb
    refine q_noR (T := TT) (ask_depths (aR := aR) rK.box m5 m13 m14 m15 (rK.ths hb7 hth7) ok hoK nob hlK nlb hv15) rK.box rK.tb (fun H12 r12 => ?_)
    have rL := rK.trans r12
    refine q_noR (T := TT) (ask_ring rL.box m14 m15 ml (r12.lst hlK nlb) nlb (hv15.lr rK.box r12)) rL.box rL.tb (fun H13 r13 => ?_)
    have rM := rL.trans r13
    refine s_noR (T := TT) (ask_kept (x := d) rM.box m5 m7 (rM.ths hb7 hth7) ok) rM.box rM.tb (fun H14 r14 => ⟨ml, m0, ?_, ?_⟩)
    · have rN := rM.trans r14
      refine eN.trans fun c o' h t => ?_
      have ne : c ≠ b := fun z => by rw [z, nb1] at h; cases h
      exact rN.st c o' (r7.at (eN3 c o' h t) ne) ne t
    · exact (rM.trans r14).tb
end
end Kw
end
section
/-! KwN1: the text of the two __init__. -/
namespace Kw
open PySem PySem.Spec PyProof.Rows L2 Evl
def clsBody : Stmt → List Stmt
  | .ClassDef _ _ _ b _ _ _ _ _ _ _ => b
  | _ => []
def initSt (i : Nat) : Stmt := (clsBody (top i)).getD 0 (.Pass ⟨0, 0, 0, 0⟩)
theorem tx_Refused : KwX.InitText (defArgs (initSt 3)) (defBody (initSt 3)) (defScope (initSt 3)) "at" "no such value here" where
  hbody := ⟨_, _, _, _, _, _, _, _, _, _, _, rfl, fun env => ⟨_, rfl⟩, fun env => rfl, fun env => rfl⟩
  hhead := ⟨_, rfl, rfl⟩
  binds := fun _ _ _ _ _ _ _ _ _ _ _ => rfl
  cells := by decide +kernel
  self := rfl
  hfld := rfl
  cls := rfl
  sup := rfl
  kind := rfl
  co := rfl
  gen := rfl
  nd := by decide
  ns := by decide
theorem tx_NoObject : KwX.InitText (defArgs (initSt 4)) (defBody (initSt 4)) (defScope (initSt 4)) "name" "no such object" where
  hbody := ⟨_, _, _, _, _, _, _, _, _, _, _, rfl, fun env => ⟨_, rfl⟩, fun env => rfl, fun env => rfl⟩
  hhead := ⟨_, rfl, rfl⟩
  binds := fun _ _ _ _ _ _ _ _ _ _ _ => rfl
  cells := by decide +kernel
  self := rfl
  hfld := rfl
  cls := rfl
  sup := rfl
  kind := rfl
  co := rfl
  gen := rfl
  nd := by decide
  ns := by decide
end Kw
end
section
/-! KwN2: what is known of the exception classes; the head's Hook. -/
namespace Kw
open PySem PySem.Spec PyProof.Rows L2 Evl He
/-! ### an own exception class with its own __init__ -/
/-- its class object -/
theorem xcls_of {K : PySem.W.Frag} {C : Addr} {bmB : List Value} {newId : String} (q : PySem.W.excInitIn K C bmB newId = true) (hd : PySem.W.hasDictIn K C = true) : ∃ (nm qn : Str) (N : Addr) (bs bm : List Value) (sn : List Str) (sub : List Value) (ab : Bool) (col : Option Bool) (dd : Option Addr) (k0 k1 k2 k3 k5 : Option Value),
    K.lookup C = some (excClassObj nm qn C N bs bm true sn sub ab col dd k0 k1 k2 k3 k5 newId) ∧ PySem.W.excTail bmB bm = true := by
  unfold PySem.W.excInitIn at q
  split at q
  · rename_i dd cd sl ho
    split at q
    · rename_i C' bm k0 k1 k2 k3 n k5 hm hs
      simp only [Bool.and_eq_true, beq_iff_eq, Bool.not_eq_true'] at q
      obtain ⟨⟨⟨rfl, rfl⟩, hdel⟩, ht⟩ := q
      obtain ⟨nm, bs, mro, ns, qn, h, sn, sub, ab, col, del⟩ := cd
      dsimp only at hm hdel
      subst hm hdel
      have hsl : sl = #[k0, k1, k2, k3, some (.builtin n), k5] := by
        obtain ⟨l⟩ := sl
        simp only at hs
        rw [hs]
      subst hsl
      have hh : h = true := by
        unfold PySem.W.hasDictIn PySem.W.clsIn at hd
        rw [ho] at hd
        simpa using hd
      subst hh
      exact ⟨nm, qn, ns, bs, bm, sn, sub, ab, col, dd, k0, k1, k2, k3, k5, ho, ht⟩
    · cases q
  · cases q
abbrev InW : Type := Option (Str × Str × Arguments × FuncBody × Scope × Addr × List Str × Addr)
def inW (K : PySem.W.Frag) (x : Str) : InW := match K.lookup (ma K (ga K x) "__init__") with
  | some ⟨_, _, .func fd, _⟩ => some (fd.name, fd.qualname, fd.params, fd.body, fd.scope, fd.globals, fd.closure.map (·.1), fd.builtins)
  | _ => none
def inV (qual : Str) (st : Stmt) : InW := some ("__init__", qual, defArgs st, .stmts (defBody st), defScope st, mainGlobals, ["__class__"], builtinsNs)
def fileB (K : PySem.W.Frag) (file : Str) (cd : Value) : Bool := match cd with
  | .ref c => (match K.lookup c with
    | some ⟨_, _, .fields vs, _⟩ => (match (vs[2]? : Option Value) with
      | some (.str f _) => file == f
      | _ => false)
    | _ => false)
  | _ => false
def cellB (K : PySem.W.Frag) (C : Addr) (cl : List (Str × Addr)) : Bool := match cl with
  | [(_, cc)] => (match K.lookup cc with
    | some ⟨_, _, .cell (some (.ref D)), _⟩ => D == C
    | _ => false)
  | _ => false
def inB (K : PySem.W.Frag) (file : Str) (C f : Addr) : Bool := match K.lookup f with
  | some ⟨_, _, .func fd, _⟩ => PySem.W.codeIn K fd.code fd.qualname && (fileB K file fd.code && (cellB K C fd.closure && (match fd.defaults with
    | .none => true
    | _ => false)))
  | _ => false
structure XW where
  x : Str
  fld : Str
  bm : List Value
  newId : String
  i : String
  B : String
def XW.ok (d : XW) (file : Str) (K : PySem.W.Frag) : Bool :=
  PySem.W.excInitIn K (ga K d.x) d.bm d.newId && (PySem.W.hasDictIn K (ga K d.x) && (decide (PySem.W.mroIn K (ga K d.x) (.type "object") = some true) && (decide (PySem.W.mroIn K (ga K d.x) (.ref (ga K d.x)) = some true) &&
  (eqO (PySem.W.findIn K (.ref (ga K d.x)) "__setattr__") (some (some (.builtin "object.__setattr__"))) && (eqO (PySem.W.findIn K (.ref (ga K d.x)) d.fld) (some none) && (decide (PySem.W.subIn K (.ref (ga K d.x)) (.type "BaseException") = some true) &&
  (decide (PySem.W.typeIn K (.ref (ga K d.x)) = some (.type "type")) && (PySem.W.keepIn K (.ref (ga K d.x)) && (eqO (PySem.W.findIn K (.ref (ga K d.x)) "__init__") (some (some (.ref (ma K (ga K d.x) "__init__")))) &&
  (decide (PySem.W.typeIn K (.ref (ma K (ga K d.x) "__init__")) = some (.type "function")) && (inB K file (ga K d.x) (ma K (ga K d.x) "__init__") && (eqO (PySem.W.ks_superIn K (ga K d.x) (ga K d.x) "__init__") (some (some (.builtin d.i))) &&
  (decide (PySem.W.subIn K (.ref (ga K d.x)) (.type d.B) = some true) && (eqO (PySem.W.nsIn K cStatics "thirdparty.any") (some none) && eqO (PySem.W.nsIn K mainGlobals "super") (some none)))))))))))))))
theorem xin_of {P : Program} {K : PySem.W.Frag} {d : XW} {file txt : Str} {st : Stmt} {qual : Str} {newB nInit : String} (c : d.ok P.main.file K = true) (e : inW K d.x = inV qual st) (tx : KwX.InitText (defArgs st) (defBody st) (defScope st) d.fld txt)
    (FB : ExcBaseFacts newB d.newId nInit bmN) (h1 : d.bm.contains (.type newB) = true) (h2 : d.bm.contains (.type "AttributeError") = false) (h3 : d.bm.contains (.type "NameError") = false) (h4 : ∀ self, refuseLoop self "__setattr__" d.bm = pure ())
    (FI : KwX.IFacts d.B d.i) (top : (P.main.scope.names.lookup ("super" : Str)).isSome = false) : KwX.XIn P K (ga K d.x) d.fld txt := by
  unfold XW.ok at c
  simp only [Bool.and_eq_true, decide_eq_true_eq] at c
  obtain ⟨c1, c2, c3, c4, c5, c6, c7, c8, c9, c10, c11, c12, c13, c14, c15, c16⟩ := c
  refine ⟨?_, c3, c4, eqO_ok c5, eqO_ok c6, c7, c8, c9, eqO_ok c15, eqO_ok c16, top, ?_, ⟨d.B, d.i, FI, eqO_ok c13, c14⟩⟩
  · obtain ⟨nm, qn, N, bs, bm, sn, sub, ab, col, dd, k0, k1, k2, k3, k5, lk, ht⟩ := xcls_of c1 c2
    refine ⟨newB, d.newId, nInit, _, nm, qn, N, bs, bm, sn, sub, ab, col, dd, k0, k1, k2, k3, k5, FB, lk, ?_, ?_, ?_, fun self => ?_⟩
    · rw [PySem.W.excTail_contains _ _ ht]
      exact h1
    · rw [PySem.W.excTail_contains _ _ ht]
      exact h2
    · rw [PySem.W.excTail_contains _ _ ht]
      exact h3
    · rw [refuseLoop_ref]
      exact PySem.W.excTail_pass self (h4 self) _ ht
  · unfold inW inV at e
    unfold inB at c12
    cases q : K.lookup (ma K (ga K d.x) "__init__") with
    | none =>
      rw [q] at e
      cases e
    | some o =>
      obtain ⟨oc, od, dt, osl⟩ := o
      rw [q] at e c12
      cases dt with
      | func fd =>
        obtain ⟨n1, n2, n3, n4, n5, n6, n7, n8, n9, n10, n11, n12, n13, n14, n15⟩ := fd
        have e2 : (some (n1, n2, n3, n4, n5, n6, n7.map (·.1), n15) : InW) = (some (("__init__" : Str), qual, defArgs st, FuncBody.stmts (defBody st), defScope st, mainGlobals, [("__class__" : Str)], builtinsNs) : InW) := e
        simp only [Option.some.injEq, Prod.mk.injEq] at e2
        obtain ⟨g1, g2, g3, g4, g5, g6, g7, g8⟩ := e2
        subst g1 g2 g3 g4 g5 g6 g8
        simp only [Bool.and_eq_true] at c12
        obtain ⟨b1, b2, b3, b4⟩ := c12
        obtain ⟨cc, rfl⟩ : ∃ cc : Addr, n7 = [(("__class__" : Str), cc)] := by
          cases n7 with
          | nil => cases g7
          | cons p r =>
            cases r with
            | nil =>
              obtain ⟨a, b⟩ := p
              simp only [List.map_cons, List.map_nil, List.cons.injEq, and_true] at g7
              exact ⟨b, by rw [g7]⟩
            | cons _ _ => simp at g7
        have hn8 : n8 = .none := by
          cases n8 <;> first | rfl | (exfalso; revert b4; simp)
        subst hn8
        have hcell : ∃ cl cld csl, K.lookup cc = some ⟨cl, cld, .cell (some (.ref (ga K d.x))), csl⟩ := by
          have b3' : (match K.lookup cc with
            | some ⟨_, _, .cell (some (.ref D)), _⟩ => D == ga K d.x
            | _ => false) = true := b3
          split at b3'
          · rename_i cl cld D csl hl
            have : D = ga K d.x := by simpa using b3'
            subst this
            exact ⟨cl, cld, csl, hl⟩
          · cases b3'
        obtain ⟨cl, cld, csl, hcl⟩ := hcell
        have hfile : ∃ cda ccl cdd vs ccs f tf, n13 = .ref cda ∧ K.lookup cda = some ⟨ccl, cdd, .fields vs, ccs⟩ ∧ vs[2]? = some (.str f tf) ∧ ((P.main.file : Str) == f) = true := by
          unfold fileB at b2
          split at b2
          · rename_i cda
            split at b2
            · rename_i ccl cdd vs ccs hl
              split at b2
              · rename_i f tf hf
                exact ⟨cda, ccl, cdd, vs, ccs, f, tf, rfl, hl, hf, b2⟩
              · cases b2
            · cases b2
          · cases b2
        obtain ⟨cda, ccl, cdd, vs, ccs, f, tf, rfl, hl, hf, hfl⟩ := hfile
        exact ⟨_, cda, cc, oc, od, osl, _, _, _, _, _, n9, n10, n11, n12, n14, ccl, cdd, vs, ccs, f, tf, cl, cld, csl, eqO_ok c10, c11, q, b1, hl, hf, hfl, hcl, tx⟩
      | _ => cases e
end Kw
end
section
/-! KwN3: the head's Hook: what the walk looks at behind the top. -/
namespace Kw
open PySem PySem.Spec PyProof.Rows L2 Evl He
def asY (g : Addr → Option Obj) : Nat → List Addr
  | 0 => [mainGlobals, cStatics]
  | n + 1 => growD g (asY g n)
abbrev Xs : Type := List (Str × Str × Stmt)
abbrev AlY : Type := (AlD × List InW) × Bool
def obsY0 (fa : List Fa) (fn : List DefD) (tf : List Defn) (ex : PySem.W.Frag → Bool) (xs : Xs) (g : Addr → Option Obj) (K : PySem.W.Frag) : AlY := ((obsD fa fn K, xs.map fun p => inW K p.1), ex K && tabsB g tf K)
def obsY (n : Nat) (fa : List Fa) (fn : List DefD) (tf : List Defn) (ex : PySem.W.Frag → Bool) (xs : Xs) (g : Addr → Option Obj) : AlY := obsY0 fa fn tf ex xs g (frT g (asY g n))
def valY (fn : List DefD) (xs : Xs) : AlY := ((valD fn, xs.map fun p => inV p.2.1 p.2.2), true)
structure SaysY (fa : List Fa) (fn : List DefD) (tf : List Defn) (ex : PySem.W.Frag → Bool) (xs : Xs) (h : Heap) (K : PySem.W.Frag) : Prop where
  d : SaysD fa fn K
  xin : xs.map (fun p => inW K p.1) = xs.map fun p => inV p.2.1 p.2.2
  more : ex K = true
  hd : ∀ p ∈ tf, PySem.W.codeHdIn K (cT K p).1 (cT K p).2 = true
  out : ∀ p ∈ tf, K.lookup (cT K p).2 = none
  empty : ∀ p ∈ tf, h.get? (cT K p).2 = some { cls := .none, data := .fields #[] }
theorem saysY_of {as : List Addr} {fa : List Fa} {fn : List DefD} {tf : List Defn} {ex : PySem.W.Frag → Bool} {xs : Xs} {h : Heap} (e : obsY0 fa fn tf ex xs h.get? (frT h.get? as) = valY fn xs) : SaysY fa fn tf ex xs h (frT h.get? as) := by
  have e0 := congrArg (fun z : AlY => z.1) e
  have e1 : obsD fa fn (frT h.get? as) = valD fn := congrArg (fun z : AlD × List InW => z.1) e0
  have e3 : xs.map (fun p => inW (frT h.get? as) p.1) = xs.map fun p => inV p.2.1 p.2.2 := congrArg (fun z : AlD × List InW => z.2) e0
  have e2 : (ex (frT h.get? as) && tabsB h.get? tf (frT h.get? as)) = true := congrArg (fun z : AlY => z.2) e
  obtain ⟨h1, h2⟩ := Bool.and_eq_true_iff.mp e2
  have key : ∀ p ∈ tf, PySem.W.codeHdIn (frT h.get? as) (cT (frT h.get? as) p).1 (cT (frT h.get? as) p).2 = true ∧ ∃ o, h.get? (cT (frT h.get? as) p).2 = some o ∧ emptyTab o = true := fun p hp => by
    obtain ⟨h3, h4⟩ := Bool.and_eq_true_iff.mp (List.all_eq_true.mp h2 p hp)
    refine ⟨h3, ?_⟩
    cases q : h.get? (cT (frT h.get? as) p).2 with
    | none =>
      rw [q] at h4
      cases h4
    | some o =>
      rw [q] at h4
      exact ⟨o, rfl, h4⟩
  refine ⟨e1, e3, h1, fun p hp => (key p hp).1, fun p hp => ?_, fun p hp => ?_⟩
  · obtain ⟨_, o, q, z⟩ := key p hp
    exact frT_none q z
  · obtain ⟨_, o, q, z⟩ := key p hp
    rw [q, emptyTab_eq z]
def hookY (n : Nat) (fa : List Fa) (fn : List DefD) (tf : List Defn) (ex : PySem.W.Frag → Bool) (xs : Xs) : PySem.W.Hook where
  α := AlY
  obs := fun s => obsY n fa fn tf ex xs s.heap.get?
  val := fun _ => valY fn xs
  says := fun _ h => ∃ K : PySem.W.Frag, K.In h ∧ SaysY fa fn tf ex xs h K
  of := fun _ _ e => ⟨_, frT_in, saysY_of e⟩
  keeps := fun _ _ _ ⟨K, hK, c⟩ k => ⟨K, PySem.W.Frag.In.keeps hK k, ⟨c.d, c.xin, c.more, c.hd, c.out, fun p hp => k _ _ (c.empty p hp)⟩⟩
theorem obsY_eq {n : Nat} {fa : List Fa} {fn : List DefD} {tf : List Defn} {ex : PySem.W.Frag → Bool} {xs : Xs} {g : Addr → Option Obj} {s : Shared} (h : ∀ a, g a = s.heap.get? a) : obsY n fa fn tf ex xs g = (hookY n fa fn tf ex xs).obs s := by
  have e : g = s.heap.get? := funext h
  rw [e] <;> rfl
/-! ### the data -/
def dd (p : Str × Stmt) : DefD := { at_ := (p.1, none), name := p.1, qual := p.1, params := defArgs p.2, body := defBody p.2, scope := defScope p.2 }
def fnL : List DefD := defs.map dd
def faL : List Fa := (defs.map fun p => Fa.glo p.1) ++ ((frees.map Fa.free) ++ [.glo "NoObject", .glo "Refused", .glo "KINDS", .int "MOST_OCTET" 256, .int "MOST_FIGURES" 200, .int "TO_TREE" 2, .str "ORDER" "order", .str "RING" "ring", .exm "NoObject" "NoObject" true, .exm "Refused" "NoObject" false, .exm "Refused" "Refused" true, .noat "NoObject" "name", .noat "Refused" "at"])
def tfL : List Defn := [("law", none)]
def keTail : List Value := [.type "KeyError", .type "LookupError", .type "Exception", .type "BaseException", .type "object"]
def veTail : List Value := [.type "ValueError", .type "Exception", .type "BaseException", .type "object"]
def xN : XW := ⟨"NoObject", "name", keTail, "LookupError.__new__", "KeyError.__init__", "KeyError"⟩
def xR : XW := ⟨"Refused", "at", veTail, "ValueError.__new__", "ValueError.__init__", "ValueError"⟩
abbrev theProg : Program := (PySem.W.OpenLaw.row PySem.Challenge.rw_keptwhole_k40_whole_links_that_lack_and).prog
def exL (K : PySem.W.Frag) : Bool := tupB K "KINDS" [.str "blob", .str "tree", .str "commit", .str "tag"] && (xfB K (ga K "NoObject") && (xfB K (ga K "Refused") && (xN.ok theProg.main.file K && xR.ok theProg.main.file K)))
def xsL : Xs := [("NoObject", "NoObject.__init__", initSt 4), ("Refused", "Refused.__init__", initSt 3)]
abbrev R : PySem.W.OpenRow := PySem.W.OpenLaw.row PySem.Challenge.rw_keptwhole_k40_whole_links_that_lack_and
abbrev hkL : PySem.W.Hook := hookY 5 faL fnL tfL exL xsL
def obL (s : PySem.W.SharedT) : AlY := obsY 5 faL fnL tfL exL xsL (HandSHeadRun.getT s)
theorem obL_eq (s : PySem.W.SharedT) : obL s = hkL.obs s.abs := obsY_eq (HandSHeadRun.getT_eq s)
end Kw
end
section
/-! KwN4: the top run. -/
namespace Kw
open PySem PySem.Spec PyProof.Rows L2 Evl He
def loose1 : List Str := ["KeepError", "BadOctets", "Refused", "NoObject", "MOST_OCTET", "is_integer", "is_number", "is_below", "is_sequence", "need_octets", "MOST_FIGURES", "figures_of", "write_number", "write_octets", "write_row", "KINDS", "TO_TREE", "parts_of", "kinds_let", "thing_links", "links_to", "ORDER", "RING"]
def loose2 : List Str := ["links_there", "lacking", "is_closed", "closure", "linkers_of", "ring_in", "link_order", "need_order", "depths", "_law_box", "_law_take", "_law_pick", "_law_number", "_law_form", "_law_eight", "_law_parts", "_law_octets", "_law_loose", "_law_links", "_law_there", "_law_order", "_law_lacking", "_law_come", "_law_deep", "_law_heard"]
theorem runL (w : World) : HandSHeadRun.RunEq R (PySem.W.view R.prog [54]) hkL obL 4000 (loose1 ++ loose2) w := by
  intro os
  kernel_rfl
end Kw
end
section
/-! KwN5: the law called by the judge's caller, whose guards are known. -/
namespace Kw
open PySem PySem.Spec PyProof.Rows L2 Evl LamX
theorem law_callG {P : Program} {w : World} {K : PySem.W.Frag} {mg mb : Str → Option Value} {fa a c Pt : Addr} {name qual x : Str} {params : Arguments} {body : List Stmt} {scope : Scope} {kV doc pm cdv ct oc : Value} {an od : Option Addr} {osl : Array (Option Value)} {N : List Str} {s₁ : Shared} {vs : List Value} {ns : List Int}
    (KX : K.In s₁.heap) (hns : s₁.heap.Ns mainGlobals mg) (hb : s₁.heap.Ns builtinsNs mb) (hbb : ∀ x : Str, x ≠ "__name__" → mb x = bootBuiltins x) (hlim : s₁.heap.NoLimit) (hg : s₁.gens = #[])
    (hT : s₁.heap.get? Pt = some { cls := .none, data := .fields #[] }) (nT : K.lookup Pt = none) (C : PySem.W.CodeHd s₁.heap c Pt)
    (hbm : ∃ (bm : Addr) (ob : Obj), mg "__builtins__" = some (.ref bm) ∧ bm ≠ builtinsNs ∧ s₁.heap.get? bm = some ob ∧ ob.cls = .type "module" ∧ ob.dict = some builtinsNs ∧ ob.data = .plain)
    (ha : s₁.heap.get? a = some { cls := .type "list", data := .seq vs.toArray }) (hi : IntsAre vs ns) (hl : ns.length ≤ sizeLine)
    (lk : K.lookup fa = some ⟨oc, od, .func (PySem.W.fnOf name qual params body scope .none kV doc pm an cdv ct), osl⟩) (hcd : PySem.W.codeIn K cdv qual = true) (S : FnScope N [x] scope) (hr : Room 21 callerA)
    (hbind : BindsTo s₁ (PySem.W.fnOf name qual params body scope .none kV doc pm an cdv ct) ⟨[.ref a], []⟩ ([x].zip [.ref a]))
    (hbody : ∀ (base : Heap) (H : Hp), K.In base → base.Ns mainGlobals mg → TabB base mg c Pt → H Pt = some (.tbl #[]) → SqL K H a (ns.map V.int) → Room 20 (callerA.deeper (envOfC qual scope s₁.heap.objs.size fa cdv)) →
      ∃ t, PSs (cxOf CX0 P w K mg base N qual scope fa cdv callerA [] s₁ H E0) body t ∧ t { nx := fun _ H' => (fun (v : V) (_ : Hp) => v = .bl true) .non H', rt := fun v _ => v = .bl true } (start N [.ref a]) H) :
    codeAny (model P w) callerA (.call (.ref fa) ⟨[.ref a], []⟩) (fun r s' => r = .ok (.ret (.bool true)) ∧ OldK s₁.heap s'.heap ∧ s'.os = s₁.os ∧ AllBare s'.gens) s₁ := by
  have rv := vals_ints hi
  have lenV := hi.length
  have aP : a ≠ Pt := fun z => by
    rw [z, hT] at ha
    cases ha
  obtain ⟨H, hH⟩ : ∃ H : Hp, H = fun b => if b = Pt then some (.tbl #[]) else if b = a ∧ K.lookup a = none then some (.frz { cls := .type "list", data := .seq vs.toArray } (.lst (ns.map V.int))) else none := ⟨_, rfl⟩
  have HP : H Pt = some (.tbl #[]) := by
    rw [hH]
    exact if_pos rfl
  have Hc : ∀ b u, H b = some u → (b = Pt ∧ u = .tbl #[]) ∨ (b = a ∧ K.lookup a = none ∧ u = .frz { cls := .type "list", data := .seq vs.toArray } (.lst (ns.map V.int))) := fun b u z => by
    rw [hH] at z
    simp only at z
    split at z
    · rename_i e
      cases z
      exact .inl ⟨e, rfl⟩
    · split at z
      · rename_i e
        cases z
        exact .inr ⟨e.1, e.2, rfl⟩
      · cases z
  have hS : SqL K H a (ns.map V.int) := by
    cases hk : K.lookup a with
    | some o =>
      have e := KX a o hk
      rw [ha] at e
      cases e
      exact .inr ⟨_, vs.toArray, _, hk, rfl, rfl, rfl, by rw [List.size_toArray, lenV]; exact hl, by simpa using rv⟩
    | none =>
      refine .inl (.inr ⟨{ cls := .type "list", data := .seq vs.toArray }, ?_⟩)
      rw [hH]
      show (if a = Pt then some (HO.tbl #[]) else if a = a ∧ K.lookup a = none then some (.frz { cls := .type "list", data := .seq vs.toArray } (.lst (ns.map V.int))) else none) = _
      rw [if_neg aP, if_pos ⟨rfl, hk⟩]
  have hok : HOk P w H s₁.heap := fun b u z => by
    rcases Hc b u z with ⟨rfl, rfl⟩ | ⟨rfl, _, rfl⟩
    · exact hT
    · exact ⟨ha, by rw [List.length_map]; exact hl, vs, _, rv, ha⟩
  have nH : ∀ {b : Addr} {o : Obj}, s₁.heap.get? b = some o → (∀ us n, o.data ≠ .seq us n) → o.data ≠ .fields #[] → H b = none := fun {b o} e h1 h2 => by
    cases q : H b with
    | none => rfl
    | some u =>
      rcases Hc b u q with ⟨rfl, _⟩ | ⟨rfl, _, _⟩
      · rw [hT] at e
        cases e
        exact (h2 rfl).elim
      · rw [ha] at e
        cases e
        exact (h1 _ _ rfl).elim
  have bget : ∀ {b : Addr} {o : Obj}, s₁.heap.get? b = some o → H b = none → (hidT s₁.heap H).get? b = some o := fun e n => hidT_get e n
  have nsK : ∀ {b : Addr} {m : Str → Option Value}, s₁.heap.Ns b m → (hidT s₁.heap H).Ns b m := fun {b m} ⟨o, es, ep, e, d, r⟩ =>
    ⟨o, es, ep, bget e (nH e (fun us n z => by rw [d] at z; cases z) fun z => by rw [d] at z; cases z), d, r⟩
  have hKb : K.In (hidT s₁.heap H) := fun b o e => bget (KX b o e) (by
    cases q : H b with
    | none => rfl
    | some u =>
      rcases Hc b u q with ⟨rfl, _⟩ | ⟨rfl, hk, _⟩
      · rw [nT] at e
        cases e
      · rw [hk] at e
        cases e)
  have hM : L2.Mod K mg (hidT s₁.heap H) := ⟨hKb, nsK hns, ⟨mb, nsK hb, hbb⟩, let ⟨mc, h1, h2⟩ := hlim; ⟨mc, nsK h1, h2⟩⟩
  have TB : TabB (hidT s₁.heap H) mg c Pt := by
    refine ⟨?_, ?_, fun z => ?_⟩
    · obtain ⟨o, us, file, tf, flags, tg, inF, text, tt, e1, r1, r2, r3, r4, r5, r6, r7, r8, hne⟩ := C
      refine ⟨o, us, file, tf, flags, tg, inF, text, tt, bget e1 (nH e1 (fun us n z => ?_) fun z => ?_), r1, r2, r3, r4, r5, r6, r7, r8, hne⟩
      · rw [r2] at z
        cases z
      · rw [r2] at z
        cases z
        simp at r3
    · obtain ⟨bm, ob, b1, b2, b3, b4, b5, b6⟩ := hbm
      refine ⟨bm, ob, b1, b2, fun q => ?_, fun q => ?_, bget b3 (nH b3 (fun us n z => ?_) fun z => ?_), b4, b5, b6⟩
      · obtain ⟨o, es, ep, e, hd, _⟩ := hns
        rw [q, e] at b3
        cases b3
        rw [hd] at b6
        cases b6
      · rw [q, hT] at b3
        cases b3
        cases b6
      · rw [b6] at z
        cases z
      · rw [b6] at z
        cases z
    · obtain ⟨o, es, ep, e, hd, _⟩ := hns
      rw [z, hT] at e
      cases e
      cases hd
  have e0 : Env0 P w K mg (hidT s₁.heap H) callerA [] s₁ H := ⟨rfl, hM, fun b o e => of_hidT e, Nat.le_of_eq (hidT_size _ _), trivial, fun b hb => absurd (show b ∈ ([] : List Addr) from hb) (by simp), hok, .of_eq hg⟩
  refine codeAny_mono (run_ofS (CX := CX0) (E := E0) (k := 20) (Q := fun v _ => v = .bl true) lk hcd S hr e0 hbind (show Vals [V.ref a] [Value.ref a] from .cons rfl .nil) rfl fun hr' => hbody _ H hKb (nsK hns) TB HP hS hr') fun r s' h => ?_
  cases r with
  | error e => exact (show False from h).elim
  | ok fl =>
    cases fl with
    | next => exact False.elim h
    | brk => exact False.elim h
    | cont => exact False.elim h
    | ret u =>
      obtain ⟨v, H', os, bare, un, hok', r', q⟩ := h
      have q' : v = .bl true := q
      subst q'
      obtain rfl : u = Value.bool true := r'
      have keep : ∀ b o, b ≠ Pt → s₁.heap.get? b = some o → s'.heap.get? b = some o := fun b o nb e => by
        cases q : H b with
        | none => exact un.keep b o e q (by intro z; exact absurd (show b ∈ ([] : List Addr) from z) (by simp)) (by simp)
        | some u =>
          rcases Hc b u q with ⟨z, _⟩ | ⟨_, _, rfl⟩
          · exact absurd z nb
          · have z2 := un.frzs b _ _ q
            obtain ⟨e1, _⟩ := hok b _ q
            obtain ⟨e2, _⟩ := hok' b _ z2
            rw [e] at e1
            cases e1
            exact e2
      obtain ⟨more, hmore⟩ : ∃ more : Array Value, s'.heap.get? Pt = some { cls := .none, data := .fields more } := by
        obtain ⟨more, z⟩ := un.tbls Pt #[] HP
        exact ⟨_, hok' Pt _ z⟩
      refine ⟨rfl, ⟨fun b o e => ?_, fun b o e => ?_⟩, os, bare⟩
      · by_cases hb : b = Pt
        · subst hb
          rw [hT] at e
          cases e
          exact .inr (.inl ⟨(C.tab hT).isCodeTable, rfl, #[], more, rfl, by rw [Array.empty_append]; exact hmore⟩)
        · exact .inl (keep b o hb e)
      · by_cases hb : b = Pt
        · rw [hb]
          exact ⟨_, hmore⟩
        · exact ⟨o, keep b o hb e⟩
end Kw
end
section
/-! KwN6: the end. -/
namespace Kw
open PySem PySem.Spec PyProof.Rows L2 Evl He LamX
section
variable {P : Program} {w : World} {K : PySem.W.Frag} {mg : Str → Option Value} {base : Heap} {aN aR gH cL pL : Addr} {fdH : FuncData}
theorem law_all (T : Tx K mg) (x_NoObject : KwX.XIn P K aN "name" "no such object") (g_NoObject : mg "NoObject" = some (.ref aN)) (x_Refused : KwX.XIn P K aR "at" "no such value here") (g_Refused : mg "Refused" = some (.ref aR)) (T2 : XTwo K aN aR) (FH : FnP K "_law_heard" (top 53) gH fdH) (hH : mg "_law_heard" = some (.ref gH))
    (TB : LamX.TabB base mg cL pL) {s : Shared} {H : Hp} {E : XK} {fa : Addr} (hr : Room 20 (callerA.deeper (envOfC "law" (defScope (top 54)) s.heap.objs.size fa (.ref cL)))) {a : Addr} {ns : List Int} (hs : SqL K H a (ns.map V.int)) (hT : H pL = some (.tbl #[])) :
    ∃ t, PSs (cxOf CX0 P w K mg base ["_law_script", "_law_k", "_law_box_here", "_law_names", "_law_at", "_law_things", "_law_name", "_law_kept", "_law_due", "_law_turn", "_law_starts", "_law_gone", "_law_one", "_law_order_here", "_law_left", "_law_heard_here"] "law" (defScope (top 54)) fa (.ref cL) callerA [] s H E) (defBody (top 54)) t ∧ t { nx := fun _ H' => (fun (v : V) (_ : Hp) => v = .bl true) .non H', rt := fun v _ => v = .bl true } (start ["_law_script", "_law_k", "_law_box_here", "_law_names", "_law_at", "_law_things", "_law_name", "_law_kept", "_law_due", "_law_turn", "_law_starts", "_law_gone", "_law_one", "_law_order_here", "_law_left", "_law_heard_here"] [.ref a]) H := by
  have c__law_box : Cal P w K mg base "_law_box" 1 ["_law_script", "_law_k"] (spBox K) := cal__law_box T 
  have c__law_number : Cal P w K mg base "_law_number" 1 ["_law_number_here"] (spLNum K) := cal__law_number T 
  have c__law_form : Cal P w K mg base "_law_form" 2 ["_law_octets_here"] (spLForm K) := cal__law_form T c__law_number
  have c__law_parts : Cal P w K mg base "_law_parts" 3 ["_law_thing"] (spLParts K) := cal__law_parts T c__law_form c__law_number
  have c__law_links : Cal P w K mg base "_law_links" 4 ["_law_thing"] (spLLinks K) := cal__law_links T c__law_parts
  have c__law_there : Cal P w K mg base "_law_there" 5 ["_law_things", "_law_name"] (spLThere K) := cal__law_there T c__law_links
  have c__law_come : Cal P w K mg base "_law_come" 6 ["_law_things", "_law_starts"] (spLCome K) := cal__law_come T c__law_there
  have c__law_deep : Cal P w K mg base "_law_deep" 6 ["_law_things", "_law_order_here"] (spLDeep K) := cal__law_deep T c__law_there
  have c__law_lacking : Cal P w K mg base "_law_lacking" 4 ["_law_things"] (spLLack K) := cal__law_lacking T c__law_parts
  have c__law_take : Cal P w K mg base "_law_take" 1 ["_law_box_here", "_law_many"] spTake := cal__law_take T 
  have c__law_pick : Cal P w K mg base "_law_pick" 2 ["_law_box_here", "_law_some"] (spPick K) := cal__law_pick T c__law_take
  have c__law_loose : Cal P w K mg base "_law_loose" 3 ["_law_box_here", "_law_names"] (spLoose K) := cal__law_loose T c__law_pick c__law_take
  have c__law_order : Cal P w K mg base "_law_order" 6 ["_law_things"] (spLOrder K) := cal__law_order T c__law_there
  have c_figures_of : Cal P w K mg base "figures_of" 1 ["number"] (spFig K) := cal_figures_of T 
  have c_is_integer : Cal P w K mg base "is_integer" 1 ["value"] spIsInt := cal_is_integer T 
  have c_is_number : Cal P w K mg base "is_number" 2 ["value"] spIsNum := cal_is_number T c_is_integer
  have c_write_number : Cal P w K mg base "write_number" 3 ["number"] (spWNum K) := cal_write_number T c_figures_of c_is_number
  have c_is_below : Cal P w K mg base "is_below" 3 ["value", "most"] spIsBelow := cal_is_below T c_is_number
  have c_is_sequence : Cal P w K mg base "is_sequence" 1 ["value"] (spIsSeq K) := cal_is_sequence T 
  have c_need_octets : Cal P w K mg base "need_octets" 4 ["value"] (spNeed K) := cal_need_octets T c_is_below c_is_sequence
  have c_write_octets : Cal P w K mg base "write_octets" 5 ["octets"] (spWOct K) := cal_write_octets T c_need_octets c_write_number
  have c_write_row : Cal P w K mg base "write_row" 6 ["parts"] (spWRow K) := cal_write_row T c_is_sequence c_write_number c_write_octets
  have c_parts_of : Cal P w K mg base "parts_of" 7 ["thing"] (spParts K) := cal_parts_of T c_write_number c_write_octets c_write_row
  have c_links_to : Cal P w K mg base "links_to" 8 ["thing"] (spLinksTo K) := cal_links_to T c_parts_of
  have c_links_there : Cal P w K mg base "links_there" 9 ["things", "name"] (spThere K) := cal_links_there T c_links_to
  have c_closure : CalX (L2.CX P w) P w K mg base "closure" 10 ["things", "starts"] (spClosure K aN) := cal_closure T c_links_there x_NoObject g_NoObject
  have c_ring_in : Cal P w K mg base "ring_in" 10 ["things", "names"] (spRing K) := cal_ring_in T c_links_there
  have c_link_order : Cal P w K mg base "link_order" 11 ["things"] (spOrder K) := cal_link_order T c_links_there c_links_to c_ring_in
  have c_need_order : CalX (L2.CX P w) P w K mg base "need_order" 12 ["things"] (spNeedO K aR) := cal_need_order T c_link_order x_Refused g_Refused
  have c_depths : CalX (L2.CX P w) P w K mg base "depths" 13 ["things"] (spDepths K aR) := cal_depths T c_links_there c_need_order
  have c_kinds_let : Cal P w K mg base "kinds_let" 1 ["thing"] (spKinds K) := cal_kinds_let T 
  have c_thing_links : Cal P w K mg base "thing_links" 8 ["thing"] (spTLinks K) := cal_thing_links T c_kinds_let c_parts_of
  have c_lacking : Cal P w K mg base "lacking" 9 ["things"] (spLacking K) := cal_lacking T c_thing_links
  have c_is_closed : Cal P w K mg base "is_closed" 10 ["things"] (spClosed K) := cal_is_closed T c_lacking
  have c_linkers_of : Cal P w K mg base "linkers_of" 9 ["things", "name"] (spLinkers K) := cal_linkers_of T c_links_to
  obtain ⟨f_closure, fd_closure, F_closure, m_closure⟩ := T.fn 16 "closure" (top 31) rfl
  have k_closure := kal_of c_closure F_closure m_closure (kbinds2r F_closure fun _ _ _ _ _ _ _ _ => rfl)
  obtain ⟨f_depths, fd_depths, F_depths, m_depths⟩ := T.fn 21 "depths" (top 36) rfl
  have k_depths := kal_of c_depths F_depths m_depths (kbinds1 F_depths fun _ _ _ _ _ _ _ => rfl)
  obtain ⟨f_is_closed, fd_is_closed, F_is_closed, m_is_closed⟩ := T.fn 15 "is_closed" (top 30) rfl
  have k_is_closed := kal_of c_is_closed F_is_closed m_is_closed (kbinds1 F_is_closed fun _ _ _ _ _ _ _ => rfl)
  obtain ⟨f_lacking, fd_lacking, F_lacking, m_lacking⟩ := T.fn 14 "lacking" (top 29) rfl
  have k_lacking := kal_of c_lacking F_lacking m_lacking (kbinds1 F_lacking fun _ _ _ _ _ _ _ => rfl)
  obtain ⟨f_linkers_of, fd_linkers_of, F_linkers_of, m_linkers_of⟩ := T.fn 17 "linkers_of" (top 32) rfl
  have k_linkers_of := kal_of c_linkers_of F_linkers_of m_linkers_of (kbinds2r F_linkers_of fun _ _ _ _ _ _ _ _ => rfl)
  exact law_run T c__law_box c__law_come c__law_deep c__law_lacking c__law_links c__law_loose c__law_order c__law_pick c__law_take c_closure c_depths c_is_closed c_lacking c_linkers_of k_closure k_depths k_is_closed k_lacking k_linkers_of FH hH T2 g_NoObject g_Refused TB hr hs hT
end
end Kw
end
section
/-! KwN7: from the facts to the end. -/
namespace Kw
open PySem PySem.Spec PyProof.Rows L2 Evl He LamX
theorem fa_app2 {f : Fa} (h : f ∈ [Fa.glo "NoObject", .glo "Refused", .glo "KINDS", .int "MOST_OCTET" 256, .int "MOST_FIGURES" 200, .int "TO_TREE" 2, .str "ORDER" "order", .str "RING" "ring", .exm "NoObject" "NoObject" true, .exm "Refused" "NoObject" false, .exm "Refused" "Refused" true, .noat "NoObject" "name", .noat "Refused" "at"]) : f ∈ faL := List.mem_append_right _ (List.mem_append_right _ h)
section
variable {K : PySem.W.Frag} {h : Heap} {mg : Str → Option Value}
theorem tx_of (X : K.In h) (G : h.Ns mainGlobals mg) (c : SaysD faL fnL K) (kk : tupB K "KINDS" [.str "blob", .str "tree", .str "commit", .str "tag"] = true) : Tx K mg where
  fn := fun i x st hi => by
    have hm : (x, st) ∈ defs := List.mem_of_getElem? hi
    obtain ⟨fd, F⟩ := c.defs (d := dd (x, st)) (List.mem_map.mpr ⟨_, hm, rfl⟩)
    exact ⟨_, fd, F, glo_ok X G (c.facts (f := .glo x) (List.mem_append_left _ (List.mem_map.mpr ⟨_, hm, rfl⟩)))⟩
  fr := fun x hx => free_ok X G (c.facts (f := .free x) (List.mem_append_right _ (List.mem_append_left _ (List.mem_map.mpr ⟨x, hx, rfl⟩))))
  gOct := int_ok X G (c.facts (f := .int "MOST_OCTET" 256) (fa_app2 (by simp)))
  gFig := int_ok X G (c.facts (f := .int "MOST_FIGURES" 200) (fa_app2 (by simp)))
  gTree := int_ok X G (c.facts (f := .int "TO_TREE" 2) (fa_app2 (by simp)))
  gOrder := str_ok X G (c.facts (f := .str "ORDER" "order") (fa_app2 (by simp)))
  gRing := str_ok X G (c.facts (f := .str "RING" "ring") (fa_app2 (by simp)))
  gKinds := ⟨ga K "KINDS", glo_ok X G (c.facts (f := .glo "KINDS") (fa_app2 (by simp))), fun H => tupB_ok kk H⟩
theorem two_of (c : SaysD faL fnL K) (h1 : xfB K (ga K "NoObject") = true) (h2 : xfB K (ga K "Refused") = true) : XTwo K (ga K "NoObject") (ga K "Refused") where
  xN := xfB_ok h1
  nN := noat_ok (c.facts (f := .noat "NoObject" "name") (fa_app2 (by simp)))
  xR := xfB_ok h2
  nR := noat_ok (c.facts (f := .noat "Refused" "at") (fa_app2 (by simp)))
  eNN := exm_ok (c.facts (f := .exm "NoObject" "NoObject" true) (fa_app2 (by simp)))
  eRN := exm_ok (c.facts (f := .exm "Refused" "NoObject" false) (fa_app2 (by simp)))
  eRR := exm_ok (c.facts (f := .exm "Refused" "Refused" true) (fa_app2 (by simp)))
theorem ke_pass (self : Value) : refuseLoop self "__setattr__" keTail = pure () := by kernel_rfl
theorem xn_of (c : exL K = true) (e : xsL.map (fun p => inW K p.1) = xsL.map fun p => inV p.2.1 p.2.2) : KwX.XIn theProg K (ga K "NoObject") "name" "no such object" ∧ KwX.XIn theProg K (ga K "Refused") "at" "no such value here" := by
  unfold exL at c
  simp only [Bool.and_eq_true] at c
  obtain ⟨_, _, _, cN, cR⟩ := c
  have e1 : inW K "NoObject" = inV "NoObject.__init__" (initSt 4) := (List.cons.inj e).1
  have e2 : inW K "Refused" = inV "Refused.__init__" (initSt 3) := (List.cons.inj (List.cons.inj e).2).1
  exact ⟨xin_of (file := "") (d := xN) cN e1 tx_NoObject F.excBase_LookupError (by decide) (by decide) (by decide) ke_pass KwX.if_KeyError (by kernel_rfl), xin_of (file := "") (d := xR) cR e2 tx_Refused F.excBase_ValueError (by decide) (by decide) (by decide) F.store_ValueError.passes KwX.if_ValueError (by kernel_rfl)⟩
end
end Kw
end
section
/-! KwN8: the statement. -/
namespace Kw
open PySem PySem.Spec PyProof.Rows L2 Evl He LamX
theorem walkL {loose : List Str} {XP : (Str → Option Value) → Heap → Prop} : PySem.W.WalkO (PySem.W.view R.prog [54]) loose XP hkL.says R.toRowW (HandSHeadRun.topDef R.prog 54) [] (fun f vs => PySem.call f vs) := by
  refine Att.attach_callB (l := PySem.Challenge.rw_keptwhole_k40_whole_links_that_lack_and) (n := 63) rfl (by kernel_rfl) fun w s₀ s₁ mg mb fa o pm cd doc a vs ns G Y ho hd hcd hmg0 hobj hints hlen hbits hg => ?_
  obtain ⟨K, KX, c⟩ := Y
  have hmg : mg "law" = some (.ref fa) := by
    have e : (HandSHeadRun.topDef R.prog 54).name = ("law" : PySem.Str) := by kernel_rfl
    rw [← e]
    exact hmg0
  have GG := G.T.g
  have kk : tupB K "KINDS" [.str "blob", .str "tree", .str "commit", .str "tag"] = true := by
    have := c.more
    unfold exL at this
    simp only [Bool.and_eq_true] at this
    exact this.1
  have x1 : xfB K (ga K "NoObject") = true := by
    have := c.more
    unfold exL at this
    simp only [Bool.and_eq_true] at this
    exact this.2.1
  have x2 : xfB K (ga K "Refused") = true := by
    have := c.more
    unfold exL at this
    simp only [Bool.and_eq_true] at this
    exact this.2.2.1
  have T := tx_of KX GG c.d kk
  obtain ⟨xn, xr⟩ := xn_of c.more c.xin
  have gN := glo_ok KX GG (c.d.facts (f := .glo "NoObject") (fa_app2 (by simp)))
  have gR := glo_ok KX GG (c.d.facts (f := .glo "Refused") (fa_app2 (by simp)))
  have T2 := two_of c.d x1 x2
  obtain ⟨gH, fdH, FH, hH⟩ := T.fn 35 "_law_heard" (top 53) rfl
  -- the law's own function
  have hml : (("law" : Str), top 54) ∈ defs := List.mem_of_getElem? (i := 36) rfl
  have hgl := glo_ok KX GG (c.d.facts (f := .glo "law") (List.mem_append_left _ (List.mem_map.mpr ⟨_, hml, rfl⟩)))
  obtain ⟨fd, FL⟩ := c.d.defs (d := dd ("law", top 54)) (List.mem_map.mpr ⟨_, hml, rfl⟩)
  have efa : ga K "law" = fa := by
    rw [hmg] at hgl
    exact (Value.ref.inj (Option.some.inj hgl)).symm
  have FL : FnP K "law" (top 54) (ga K "law") fd := FL
  have hbA := FunD.bindsA (ps := ["_law_script"]) FL fun _ _ _ _ _ _ us hl => match us, hl with | [_], _ => rfl
  obtain ⟨oc, od, dV, kV, doc', pm', an, cdv, ct, osl, rfl, lk, hcode, hD, _⟩ := FL.ex
  obtain ⟨cL, rfl⟩ := codeIn_ref hcode
  have hcO : codeOf K ("law", none) = cL := codeOf_eq (p := ("law", none)) lk rfl
  have e1 : (cT K ("law", none)).1 = cL := hcO
  have hhd := c.hd ("law", none) (by simp [tfL])
  have hout := c.out ("law", none) (by simp [tfL])
  have hemp := c.empty ("law", none) (by simp [tfL])
  rw [e1] at hhd
  have hdV : dV = .none := by
    rcases hD with ⟨_, h⟩ | ⟨h, _⟩
    · exact h
    · exact absurd rfl h
  subst hdV
  rw [efa] at lk
  have sc := sc_law
  refine law_callG (c := cL) (Pt := (cT K ("law", none)).2) (x := "_law_script") KX GG G.T.b G.T.builtins G.T.nolimit hg hemp hout (PySem.W.codeHd_of_K KX hhd) G.T.bmain hobj hints (Nat.le_trans hlen (by decide)) lk hcode sc ⟨rfl, by decide, by decide⟩ (hbA s₁ [.ref a] rfl) ?_
  intro base H hKb hnb TB hT hS hr
  have T' : Tx K mg := T
  exact law_all T' xn gN xr gR T2 FH hH TB hr hS hT
end Kw
open PySem PySem.W PySem.Calls PyProof.Rows
theorem PySem.Challenge.cw_keptwhole_k40_whole_links_that_lack_and_holds : PySem.Challenge.rw_keptwhole_k40_whole_links_that_lack_and.Holds := by
  w_on; o_law
  refine HandSHeadRun.head_any (r := Kw.R) (q := view Kw.R.prog [54]) (H := Kw.hkL) (ob := Kw.obL) (M := 4000) (loose := Kw.loose1 ++ Kw.loose2) (d := HandSHeadRun.topDef Kw.R.prog 54) (kwd := []) Kw.obL_eq
    (by kernel_rfl) (fun s => by kernel_rfl) Kw.runL (by kernel_rfl) (by kernel_rfl) (by kernel_rfl) (by rfl) (by first | assumption | decide +kernel) (by decide +kernel) ⟨rfl, rfl, rfl, rfl, rfl, by decide +kernel⟩ ?hw ?hc
  case hw => w_witness2
  case hc => exact Kw.walkL
end
