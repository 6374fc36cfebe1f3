import PyProof.Rows.All
import Wide.All
import OpenK.AllK
import Wide.FinOn
import HandS.ForMost
import HandS.Walk
import HandS.IsInst
import HandS.TupAny
import HandS.TupMul
import HandS.Evl
import KE.DataEq
import KE.GoesMore
import PyProof.Draws
import PyProof.EnumMake
import KE.SortData
import KE.KDictKeyed
import KE.KDictLaw
import PyProof.ReprRoads
import PyProof.ReprLen
import HandS.Strs
import HandS.SetFor
import HandS.Zip
import HandS.More
import HandS.DictComp
import PySem.Challenge.RW_handnames_k56_whole_levels_are_looks
import KE.KDictZip
import PyProof.RangeIter
import PyProof.RangeFor
set_option Elab.async false
set_option linter.all false
set_option maxRecDepth 100000
set_option maxHeartbeats 4000000
/-! The data layer: values told as data (tuples all the way down), readings that hand back data and leave all that was tracked. -/
namespace Hn
open PySem L2

abbrev Ex := Evl.Ex
theorem exr (H : Hp) : Ex H H := Evl.Ex.refl H
def TK (H H' : Hp) : Prop := ∀ b xs, H b = some (.tup xs) → H' b = some (.tup xs)
section
variable {H H' H1 H2 : Hp} {a : Addr} {o u : HO}
theorem TK.of (e : Ex H H') : TK H H' := fun b _ h => e b _ h
theorem TK.refl (H : Hp) : TK H H := fun _ _ h => h
theorem TK.trans (a : TK H H1) (b : TK H1 H2) : TK H H2 := fun c xs h => b c xs (a c xs h)
theorem TK.upd (h : H a = some u) (nt : ∀ xs, u ≠ .tup xs) : TK H (upd H a o) := fun b xs e => by
  rw [upd_ne (ne_of e h (nt xs).symm)]
  exact e
theorem TK.new (h : H a = none) : TK H (L2.upd H a o) := fun b xs e => by
  rw [upd_ne (ne_of_none e h)]
  exact e
theorem TK.updL {ys : List V} (h : H a = some (.lst ys)) : TK H (L2.upd H a o) := TK.upd h fun _ e => nomatch e
end

/-- plain data; ptr: any object, by its place -/
inductive D where
  | non | bl (b : Bool) | int (i : Int) | str (x : Str) | tup (xs : List D) | ptr (a : Addr)

/-- v reads as d -/
inductive Tp (H : Hp) : V → D → Prop
  | non : Tp H .non .non
  | bl (b : Bool) : Tp H (.bl b) (.bl b)
  | int (i : Int) : Tp H (.int i) (.int i)
  | str (x : Str) : Tp H (.str x) (.str x)
  | ptr (a : Addr) : Tp H (.ref a) (.ptr a)
  | tup {a : Addr} {xs : List V} {ds : List D} (h : H a = some (.tup xs)) (l : xs.length = ds.length) (e : ∀ (i : Nat) (v : V) (d : D), xs[i]? = some v → ds[i]? = some d → Tp H v d) : Tp H (.ref a) (.tup ds)
def Tps (H : Hp) (xs : List V) (ds : List D) : Prop := xs.length = ds.length ∧ ∀ (i : Nat) (v : V) (d : D), xs[i]? = some v → ds[i]? = some d → Tp H v d
section
variable {H H' : Hp} {v : V} {d : D} {xs ys : List V} {ds es : List D} {a : Addr}
theorem Tp.mono (k : TK H H') (h : Tp H v d) : Tp H' v d := by
  induction h with
  | non => exact .non
  | bl b => exact .bl b
  | int i => exact .int i
  | str x => exact .str x
  | ptr a => exact .ptr a
  | tup h l e ih => exact .tup (k _ _ h) l ih
theorem Tps.mono (k : TK H H') (h : Tps H xs ds) : Tps H' xs ds := ⟨h.1, fun i v d e1 e2 => (h.2 i v d e1 e2).mono k⟩
theorem Tp.ex (k : Ex H H') (h : Tp H v d) : Tp H' v d := h.mono (TK.of k)
theorem Tps.ex (k : Ex H H') (h : Tps H xs ds) : Tps H' xs ds := h.mono (TK.of k)
theorem Tps.nil : Tps H [] [] := ⟨rfl, fun i v d e => by simp at e⟩
theorem Tps.cons (h : Tp H v d) (t : Tps H xs ds) : Tps H (v :: xs) (d :: ds) := by
  refine ⟨by rw [List.length_cons, List.length_cons, t.1], fun i w e e1 e2 => ?_⟩
  cases i with
  | zero =>
    simp only [List.getElem?_cons_zero, Option.some.injEq] at e1 e2
    subst e1 e2
    exact h
  | succ i => exact t.2 i w e (by simpa using e1) (by simpa using e2)
theorem Tps.inv (h : Tps H xs (d :: ds)) : ∃ v ys, xs = v :: ys ∧ Tp H v d ∧ Tps H ys ds := by
  obtain ⟨l, e⟩ := h
  cases xs with
  | nil => simp at l
  | cons v ys =>
    refine ⟨v, ys, rfl, e 0 v d rfl rfl, by simpa using l, fun i w f e1 e2 => e (i + 1) w f (by simpa using e1) (by simpa using e2)⟩
theorem Tps.inv0 (h : Tps H xs []) : xs = [] := List.eq_nil_of_length_eq_zero h.1
theorem Tps.get (h : Tps H xs ds) {i : Nat} (e : ds[i]? = some d) : ∃ v, xs[i]? = some v ∧ Tp H v d := by
  obtain ⟨hi, _⟩ := List.getElem?_eq_some_iff.mp e
  have hj : i < xs.length := by rw [h.1]; exact hi
  exact ⟨xs[i], List.getElem?_eq_getElem hj, h.2 i _ _ (List.getElem?_eq_getElem hj) e⟩
theorem Tps.get' (h : Tps H xs ds) {i : Nat} (e : xs[i]? = some v) : ∃ d, ds[i]? = some d ∧ Tp H v d := by
  obtain ⟨hi, _⟩ := List.getElem?_eq_some_iff.mp e
  have hj : i < ds.length := by rw [← h.1]; exact hi
  exact ⟨ds[i], List.getElem?_eq_getElem hj, h.2 i _ _ e (List.getElem?_eq_getElem hj)⟩
theorem Tps.append : ∀ {xs : List V} {ds : List D}, Tps H xs ds → Tps H ys es → Tps H (xs ++ ys) (ds ++ es)
  | xs, [], h, k => by rw [h.inv0]; exact k
  | xs, d :: ds, h, k => by
    obtain ⟨v, zs, rfl, h1, h2⟩ := h.inv
    exact Tps.cons h1 (Tps.append h2 k)
theorem Tps.take (n : Nat) (h : Tps H xs ds) : Tps H (xs.take n) (ds.take n) := by
  refine ⟨by rw [List.length_take, List.length_take, h.1], fun i v d e1 e2 => ?_⟩
  rw [List.getElem?_take] at e1 e2
  split at e1
  · rename_i hi
    rw [if_pos hi] at e2
    exact h.2 i v d e1 e2
  · cases e1
theorem Tps.drop (n : Nat) (h : Tps H xs ds) : Tps H (xs.drop n) (ds.drop n) := by
  refine ⟨by rw [List.length_drop, List.length_drop, h.1], fun i v d e1 e2 => ?_⟩
  rw [List.getElem?_drop] at e1 e2
  exact h.2 _ v d e1 e2
theorem Tps.set (i : Nat) (h : Tps H xs ds) (k : Tp H v d) : Tps H (xs.set i v) (ds.set i d) := by
  refine ⟨by rw [List.length_set, List.length_set, h.1], fun j w e e1 e2 => ?_⟩
  by_cases hj : i = j
  · subst hj
    by_cases hl : i < xs.length
    · rw [List.getElem?_set_self hl] at e1
      rw [List.getElem?_set_self (by rw [← h.1]; exact hl)] at e2
      cases e1
      cases e2
      exact k
    · rw [List.getElem?_eq_none (by rw [List.length_set]; omega)] at e1
      cases e1
  · rw [List.getElem?_set_ne hj] at e1 e2
    exact h.2 j w e e1 e2
theorem Tps.ints : ∀ {ns : List Int} {xs : List V}, Tps H xs (ns.map .int) → xs = ns.map .int
  | [], xs, h => h.inv0
  | n :: ns, xs, h => by
    obtain ⟨v, ys, rfl, h1, h2⟩ := Tps.inv (d := .int n) (ds := ns.map .int) h
    cases h1
    rw [List.map_cons, Tps.ints h2]
theorem Tps.ofInts : ∀ (ns : List Int), Tps H (ns.map .int) (ns.map .int)
  | [] => Tps.nil
  | n :: ns => Tps.cons (.int n) (Tps.ofInts ns)
theorem Tps.bls : ∀ {ns : List Bool} {xs : List V}, Tps H xs (ns.map .bl) → xs = ns.map .bl
  | [], xs, h => h.inv0
  | n :: ns, xs, h => by
    obtain ⟨v, ys, rfl, h1, h2⟩ := Tps.inv (d := .bl n) (ds := ns.map .bl) h
    cases h1
    rw [List.map_cons, Tps.bls h2]
theorem Tp.invI {i : Int} (h : Tp H v (.int i)) : v = .int i := by cases h; rfl
theorem Tp.invB {i : Bool} (h : Tp H v (.bl i)) : v = .bl i := by cases h; rfl
theorem Tp.invS {i : Str} (h : Tp H v (.str i)) : v = .str i := by cases h; rfl
theorem Tp.invP {i : Addr} (h : Tp H v (.ptr i)) : v = .ref i := by cases h; rfl
theorem Tp.invN (h : Tp H v .non) : v = .non := by cases h; rfl
theorem Tp.invT (h : Tp H v (.tup ds)) : ∃ a xs, v = .ref a ∧ H a = some (.tup xs) ∧ Tps H xs ds := by
  cases h with
  | tup h l e => exact ⟨_, _, rfl, h, l, e⟩
theorem Tp.mk (h : H a = some (.tup xs)) (t : Tps H xs ds) : Tp H (.ref a) (.tup ds) := .tup h t.1 t.2
/-- a new tuple -/
theorem Tp.laid {H : Hp} {p : Addr} (h : H p = none) (t : Tps H xs ds) : Tp (upd H p (.tup xs)) (.ref p) (.tup ds) := Tp.mk upd_same (t.mono (TK.new h))
end

/-- a list at p -/
def Lst (H : Hp) (p : Addr) (ds : List D) : Prop := ∃ xs, H p = some (.lst xs) ∧ Tps H xs ds
theorem Lst.ex {H H' : Hp} {p : Addr} {ds : List D} (h : Lst H p ds) (e : Ex H H') : Lst H' p ds := by
  obtain ⟨xs, h1, h2⟩ := h
  exact ⟨xs, e _ _ h1, h2.ex e⟩

/-! ### the slots -/
def Env (σ : L2.St) (H : Hp) (ρ : List (Option D)) : Prop := σ.length = ρ.length ∧ ∀ (i : Nat) (d : D), ρ[i]? = some (some d) → ∃ v, σ[i]? = some (some v) ∧ Tp H v d
section
variable {σ : L2.St} {H H' : Hp} {ρ : List (Option D)} {v : V} {d : D}
theorem Env.mono (k : TK H H') (h : Env σ H ρ) : Env σ H' ρ := ⟨h.1, fun i d e => let ⟨v, h1, h2⟩ := h.2 i d e; ⟨v, h1, h2.mono k⟩⟩
theorem Env.ex (k : Ex H H') (h : Env σ H ρ) : Env σ H' ρ := h.mono (TK.of k)
theorem Env.set (j : Nat) (h : Env σ H ρ) (k : Tp H v d) : Env (σ.set j (some v)) H (ρ.set j (some d)) := by
  refine ⟨by rw [List.length_set, List.length_set, h.1], fun i e he => ?_⟩
  by_cases hj : j = i
  · subst hj
    by_cases hl : j < ρ.length
    · rw [List.getElem?_set_self hl] at he
      cases he
      exact ⟨v, List.getElem?_set_self (by rw [h.1]; exact hl), k⟩
    · rw [List.getElem?_eq_none (by rw [List.length_set]; omega)] at he
      cases he
  · rw [List.getElem?_set_ne hj] at he ⊢
    exact h.2 i e he
theorem Env.unset (j : Nat) (h : Env σ H ρ) (o : Option V) : Env (σ.set j o) H (ρ.set j none) := by
  refine ⟨by rw [List.length_set, List.length_set, h.1], fun i e he => ?_⟩
  by_cases hj : j = i
  · subst hj
    by_cases hl : j < ρ.length
    · rw [List.getElem?_set_self hl] at he
      cases he
    · rw [List.getElem?_eq_none (by rw [List.length_set]; omega)] at he
      cases he
  · rw [List.getElem?_set_ne hj] at he ⊢
    exact h.2 i e he
/-- fewer slots known -/
def Less (ρ' ρ : List (Option D)) : Prop := ρ'.length = ρ.length ∧ ∀ (i : Nat) (d : D), ρ'[i]? = some (some d) → ρ[i]? = some (some d)
theorem Env.less {ρ' : List (Option D)} (h : Env σ H ρ) (l : Less ρ' ρ) : Env σ H ρ' := ⟨h.1.trans l.1.symm, fun i d e => h.2 i d (l.2 i d e)⟩
theorem Env.get (h : Env σ H ρ) {i : Nat} (e : ρ[i]? = some (some d)) : ∃ v, σ[i]? = some (some v) ∧ Tp H v d := h.2 i d e
def wipeD (ρ : List (Option D)) : List Nat → List (Option D)
  | [] => ρ
  | v :: vs => (wipeD ρ vs).set v none
theorem Env.wipe (h : Env σ H ρ) : ∀ vs : List Nat, Env (L2.wipe σ vs) H (wipeD ρ vs)
  | [] => h
  | v :: vs => (Env.wipe h vs).unset v none
theorem Env.start {vs : List V} {ds : List D} (N : List Str) (t : Tps H vs ds) : Env (L2.start N vs) H (ds.map some ++ List.replicate (N.length - ds.length) none) := by
  unfold L2.start
  refine ⟨by rw [List.length_append, List.length_append, List.length_map, List.length_map, List.length_replicate, List.length_replicate, t.1], fun i d e => ?_⟩
  by_cases hi : i < ds.length
  · rw [List.getElem?_append_left (by simpa using hi), List.getElem?_map] at e
    rw [List.getElem?_append_left (by simpa [t.1] using hi), List.getElem?_map]
    cases hd : ds[i]? with
    | none => rw [hd] at e; cases e
    | some d' =>
      rw [hd] at e
      cases e
      obtain ⟨v, h1, h2⟩ := t.get hd
      exact ⟨v, by rw [h1]; rfl, h2⟩
  · rw [List.getElem?_append_right (by simpa using hi), List.getElem?_replicate] at e
    split at e <;> cases e
end

/-! ### what a reading gives -/
/-- data, all that was tracked stays -/
def Ev (te : TE) (ρ : List (Option D)) (H : Hp) (d : D) : Prop := ∀ σ H1 (Q : VK), Ex H H1 → Env σ H1 ρ → (∀ v H2, Ex H1 H2 → Tp H2 v d → Q v H2) → te σ H1 Q
/-- a new list of data -/
def EvL (te : TE) (ρ : List (Option D)) (H : Hp) (ds : List D) : Prop := ∀ σ H1 (Q : VK), Ex H H1 → Env σ H1 ρ → (∀ p H2, H1 p = none → Ex H1 H2 → Lst H2 p ds → Q (.ref p) H2) → te σ H1 Q
def EvT (tt : TT) (ρ : List (Option D)) (H : Hp) (b : Bool) : Prop := ∀ σ H1 (Q : Bool → Hp → Prop), Ex H H1 → Env σ H1 ρ → (∀ H2, Ex H1 H2 → Q b H2) → tt σ H1 Q
def EvA (ta : TA) (ρ : List (Option D)) (H : Hp) (ds : List D) : Prop := ∀ σ H1 (Q : List V → Hp → Prop), Ex H H1 → Env σ H1 ρ → (∀ vs H2, Ex H1 H2 → Tps H2 vs ds → Q vs H2) → ta σ H1 Q
def EvO (to : TO) (ρ : List (Option D)) (H : Hp) (o : Option Int) : Prop := ∀ σ H1 (Q : Option Int → Hp → Prop), Ex H H1 → Env σ H1 ρ → (∀ H2, Ex H1 H2 → Q o H2) → to σ H1 Q
/-- a two-place operation on data -/
def RV (r : R2) (d e : D) (H : Hp) (z : D) : Prop := ∀ x y H1 (Q : VK), Ex H H1 → Tp H1 x d → Tp H1 y e → (∀ v H2, Ex H1 H2 → Tp H2 v z → Q v H2) → r x y H1 Q
/-- a call on data -/
def RC (r : List V → Hp → VK → Prop) (ds : List D) (H : Hp) (z : D) : Prop := ∀ vs H1 (Q : VK), Ex H H1 → Tps H1 vs ds → (∀ v H2, Ex H1 H2 → Tp H2 v z → Q v H2) → r vs H1 Q
def RCL (r : List V → Hp → VK → Prop) (ds : List D) (H : Hp) (zs : List D) : Prop := ∀ vs H1 (Q : VK), Ex H H1 → Tps H1 vs ds → (∀ p H2, H1 p = none → Ex H1 H2 → Lst H2 p zs → Q (.ref p) H2) → r vs H1 Q
/-- a call on a new list -/
def RN (r : List V → Hp → VK → Prop) (ds : List D) (z : D) : Prop := ∀ p H1 (Q : VK), Lst H1 p ds → (∀ v H2, Ex H1 H2 → Tp H2 v z → Q v H2) → r [.ref p] H1 Q
def RNL (r : List V → Hp → VK → Prop) (ds : List D) (zs : List D) : Prop := ∀ p H1 (Q : VK), Lst H1 p ds → (∀ q H2, H1 q = none → Ex H1 H2 → Lst H2 q zs → Q (.ref q) H2) → r [.ref p] H1 Q
section
variable {K : PySem.W.Frag} {ρ ρ' : List (Option D)} {H H' : Hp} {ta tb tc te tx : TE} {t u : TT} {d e z : D} {ds es : List D} {r r' : R2} {ts tr : TA} {b : Bool} {E : XK}
theorem fresh_back {H H' : Hp} {p : Addr} (e : Ex H H') (h : H' p = none) : H p = none := Evl.fresh_back e h
theorem Ev.mono (h : Ev te ρ H d) (e : Ex H H') : Ev te ρ H' d := fun σ H1 Q a => h σ H1 Q (e.trans a)
theorem EvL.mono (h : EvL te ρ H ds) (e : Ex H H') : EvL te ρ H' ds := fun σ H1 Q a => h σ H1 Q (e.trans a)
theorem EvT.mono (h : EvT t ρ H b) (e : Ex H H') : EvT t ρ H' b := fun σ H1 Q a => h σ H1 Q (e.trans a)
theorem EvA.mono (h : EvA ts ρ H ds) (e : Ex H H') : EvA ts ρ H' ds := fun σ H1 Q a => h σ H1 Q (e.trans a)
theorem ev_var {i : Nat} (h : ρ[i]? = some (some d)) : Ev (tVar i) ρ H d := fun σ H1 Q _ E q => by
  obtain ⟨v, h1, h2⟩ := E.get h
  exact ⟨v, h1, q v H1 (exr H1) h2⟩
theorem ev_int {i : Int} : Ev (tC (.int i)) ρ H (.int i) := fun _ H1 _ _ _ q => q _ H1 (exr H1) (.int i)
theorem ev_bl {i : Bool} : Ev (tC (.bl i)) ρ H (.bl i) := fun _ H1 _ _ _ q => q _ H1 (exr H1) (.bl i)
theorem ev_str {i : Str} : Ev (tC (.str i)) ρ H (.str i) := fun _ H1 _ _ _ q => q _ H1 (exr H1) (.str i)
theorem ev_non : Ev (tC .non) ρ H .non := fun _ H1 _ _ _ q => q _ H1 (exr H1) .non
theorem ev_is (h : Ev te ρ H d) (q : d = e) : Ev te ρ H e := by rw [← q]; exact h
theorem el_is (h : EvL te ρ H ds) (q : ds = es) : EvL te ρ H es := by rw [← q]; exact h
theorem et_is {b' : Bool} (h : EvT t ρ H b) (q : b = b') : EvT t ρ H b' := by rw [← q]; exact h
theorem ea_nil : EvA tNil ρ H [] := fun _ H1 _ _ _ q => q [] H1 (exr H1) Tps.nil
theorem ea_cons (h : Ev te ρ H d) (k : EvA tr ρ H ds) : EvA (tCons te tr) ρ H (d :: ds) := fun σ H1 Q a E q =>
  h σ H1 _ a E fun v H2 e2 t2 => k σ H2 _ (a.trans e2) (E.ex e2) fun vs H3 e3 t3 => q _ H3 (e2.trans e3) (Tps.cons (t2.ex e3) t3)
theorem ev_tup (h : EvA ts ρ H ds) (hl : ds.length ≤ 100000) : Ev (tTup ts) ρ H (.tup ds) := fun σ H1 Q a E q =>
  h σ H1 _ a E fun vs H2 e2 t2 => ⟨Evl.sz_of (by rw [t2.1]; exact hl), fun p hp => q _ _ (e2.trans (Evl.Ex.new hp)) (Tp.laid hp t2)⟩
theorem el_lst (h : EvA ts ρ H ds) (hl : ds.length ≤ 100000) : EvL (tLst ts) ρ H ds := fun σ H1 Q a E q =>
  h σ H1 _ a E fun vs H2 e2 t2 => ⟨Evl.sz_of (by rw [t2.1]; exact hl), fun p hp => q p _ (fresh_back e2 hp) (e2.trans (Evl.Ex.new hp)) ⟨vs, upd_same, t2.mono (TK.new hp)⟩⟩
theorem ev_op (ha : Ev ta ρ H d) (hb : Ev tb ρ H e) (hr : RV r d e H z) : Ev (tOp r ta tb) ρ H z := fun σ H1 Q a E q =>
  ha σ H1 _ a E fun x H2 e2 t2 => hb σ H2 _ (a.trans e2) (E.ex e2) fun y H3 e3 t3 => hr x y H3 Q ((a.trans e2).trans e3) (t2.ex e3) t3 fun v H4 e4 t4 => q v H4 ((e2.trans e3).trans e4) t4
theorem rv_I0 {g : Int → Int → V} {i j : Int} {w : D} (hg : ∀ H, Tp H (g i j) w) : RV (rI0 g) (.int i) (.int j) H w := fun x y H1 Q _ t1 t2 q => ⟨i, j, t1.invI, t2.invI, q _ H1 (exr H1) (hg _)⟩
theorem rv_I {C : Int → Int → Prop} {g : Int → Int → V} {i j : Int} {w : D} (hc : C i j) (hg : ∀ H, Tp H (g i j) w) : RV (rI C g) (.int i) (.int j) H w := fun x y H1 Q _ t1 t2 q => ⟨i, j, t1.invI, t2.invI, hc, q _ H1 (exr H1) (hg _)⟩
theorem ev_add {i j : Int} (ha : Ev ta ρ H (.int i)) (hb : Ev tb ρ H (.int j)) : Ev (tOp (rI0 fun i j => .int (i + j)) ta tb) ρ H (.int (i + j)) := ev_op ha hb (rv_I0 fun _ => .int _)
theorem ev_sub {i j : Int} (ha : Ev ta ρ H (.int i)) (hb : Ev tb ρ H (.int j)) : Ev (tOp (rI0 fun i j => .int (i - j)) ta tb) ρ H (.int (i - j)) := ev_op ha hb (rv_I0 fun _ => .int _)
theorem ev_mul {i j : Int} (ha : Ev ta ρ H (.int i)) (hb : Ev tb ρ H (.int j)) (hc : CMul i j) : Ev (tOp (rI CMul fun i j => .int (i * j)) ta tb) ρ H (.int (i * j)) := ev_op ha hb (rv_I hc fun _ => .int _)
theorem ev_fdiv {i j : Int} (ha : Ev ta ρ H (.int i)) (hb : Ev tb ρ H (.int j)) (hc : CDiv i j) : Ev (tOp (rI CDiv fun i j => .int (i / j)) ta tb) ρ H (.int (i / j)) := ev_op ha hb (rv_I hc fun _ => .int _)
theorem ev_mod {i j : Int} (ha : Ev ta ρ H (.int i)) (hb : Ev tb ρ H (.int j)) (hc : 0 < j) : Ev (tOp (rI (fun _ j => 0 < j) fun i j => .int (i % j)) ta tb) ρ H (.int (i % j)) := ev_op ha hb (rv_I hc fun _ => .int _)
theorem ev_lt {i j : Int} (ha : Ev ta ρ H (.int i)) (hb : Ev tb ρ H (.int j)) : Ev (tOp (rI0 fun i j => .bl (decide (i < j))) ta tb) ρ H (.bl (decide (i < j))) := ev_op ha hb (rv_I0 fun _ => .bl _)
theorem ev_le {i j : Int} (ha : Ev ta ρ H (.int i)) (hb : Ev tb ρ H (.int j)) : Ev (tOp (rI0 fun i j => .bl (decide (i ≤ j))) ta tb) ρ H (.bl (decide (i ≤ j))) := ev_op ha hb (rv_I0 fun _ => .bl _)
theorem ev_gt {i j : Int} (ha : Ev ta ρ H (.int i)) (hb : Ev tb ρ H (.int j)) : Ev (tOp (rI0 fun i j => .bl (decide (j < i))) ta tb) ρ H (.bl (decide (j < i))) := ev_op ha hb (rv_I0 fun _ => .bl _)
theorem ev_ge {i j : Int} (ha : Ev ta ρ H (.int i)) (hb : Ev tb ρ H (.int j)) : Ev (tOp (rI0 fun i j => .bl (decide (j ≤ i))) ta tb) ρ H (.bl (decide (j ≤ i))) := ev_op ha hb (rv_I0 fun _ => .bl _)
/-- == and != of ints, of texts -/
theorem ev_eqI {i j : Int} (ha : Ev ta ρ H (.int i)) (hb : Ev tb ρ H (.int j)) : Ev (tOp rEq ta tb) ρ H (.bl (decide (i = j))) := ev_op ha hb fun x y H1 Q _ t1 t2 q => by
  rw [t1.invI, t2.invI]
  have e : decide (V.int i = V.int j) = decide (i = j) := decide_eq_decide.mpr (by simp)
  exact ⟨rfl, by rw [e]; exact q _ H1 (exr H1) (.bl _)⟩
theorem ev_neI {i j : Int} (ha : Ev ta ρ H (.int i)) (hb : Ev tb ρ H (.int j)) : Ev (tOp rNe ta tb) ρ H (.bl (!decide (i = j))) := ev_op ha hb fun x y H1 Q _ t1 t2 q => by
  rw [t1.invI, t2.invI]
  have e : decide (V.int i = V.int j) = decide (i = j) := decide_eq_decide.mpr (by simp)
  exact ⟨rfl, by rw [e]; exact q _ H1 (exr H1) (.bl _)⟩
theorem ev_eqS {i j : Str} {b : Bool} (ha : Ev ta ρ H (.str i)) (hb : Ev tb ρ H (.str j)) (h : decide (i = j) = b) : Ev (tOp rEq ta tb) ρ H (.bl b) := ev_op ha hb fun x y H1 Q _ t1 t2 q => by
  rw [t1.invS, t2.invS]
  have e : decide (V.str i = V.str j) = b := by rw [← h]; exact decide_eq_decide.mpr (by simp)
  exact ⟨rfl, by rw [e]; exact q _ H1 (exr H1) (.bl _)⟩
theorem ev_neS {i j : Str} {b : Bool} (ha : Ev ta ρ H (.str i)) (hb : Ev tb ρ H (.str j)) (h : decide (i = j) = b) : Ev (tOp rNe ta tb) ρ H (.bl (!b)) := ev_op ha hb fun x y H1 Q _ t1 t2 q => by
  rw [t1.invS, t2.invS]
  have e : decide (V.str i = V.str j) = b := by rw [← h]; exact decide_eq_decide.mpr (by simp)
  exact ⟨rfl, by rw [e]; exact q _ H1 (exr H1) (.bl _)⟩
/-- is None, is not None -/
abbrev rIsN : R2 := fun x y H Q => y = .non ∧ Q (.bl (decide (x = .non))) H
abbrev rNotN : R2 := fun x y H Q => y = .non ∧ Q (.bl (!decide (x = .non))) H
def D.isNon : D → Bool
  | .non => true
  | _ => false
theorem Tp.isNon {v : V} (h : Tp H v d) : decide (v = .non) = d.isNon := by cases h <;> rfl
theorem ev_isN (ha : Ev ta ρ H d) (hb : Ev tb ρ H .non) : Ev (tOp rIsN ta tb) ρ H (.bl d.isNon) := ev_op ha hb fun x y H1 Q _ t1 t2 q => ⟨t2.invN, by rw [t1.isNon]; exact q _ H1 (exr H1) (.bl _)⟩
theorem ev_notN (ha : Ev ta ρ H d) (hb : Ev tb ρ H .non) : Ev (tOp rNotN ta tb) ρ H (.bl (!d.isNon)) := ev_op ha hb fun x y H1 Q _ t1 t2 q => ⟨t2.invN, by rw [t1.isNon]; exact q _ H1 (exr H1) (.bl _)⟩
/-- an item of a tuple; of a list at p; of a new list -/
theorem atI_tps {H : Hp} {xs : List V} {ds : List D} {i : Int} (t : Tps H xs ds) (h : atI ds i = some d) : ∃ v, atI xs i = some v ∧ Tp H v d := by
  unfold atI at h ⊢
  rw [t.1]
  cases hx : ixN ds.length i with
  | none => rw [hx] at h; cases h
  | some j =>
    rw [hx] at h
    exact t.get h
theorem ev_ixT {i : Int} (ha : Ev ta ρ H (.tup ds)) (hb : Ev tb ρ H (.int i)) (h : atI ds i = some d) : Ev (tOp (rIxT K) ta tb) ρ H d := ev_op ha hb fun x y H1 Q _ t1 t2 q => by
  obtain ⟨a, xs, rfl, h1, h2⟩ := t1.invT
  obtain ⟨v, h3, h4⟩ := atI_tps h2 h
  exact ⟨a, xs, i, v, rfl, t2.invI, SqT.of h1, h3, q v H1 (exr H1) h4⟩
theorem ev_ixL {i : Int} {p : Addr} (hL : Lst H p ds) (ha : Ev ta ρ H (.ptr p)) (hb : Ev tb ρ H (.int i)) (h : atI ds i = some d) : Ev (tOp (rIxL K) ta tb) ρ H d := ev_op ha hb fun x y H1 Q e1 t1 t2 q => by
  obtain ⟨xs, h1, h2⟩ := hL.ex e1
  obtain ⟨v, h3, h4⟩ := atI_tps h2 h
  exact ⟨p, xs, i, v, t1.invP, t2.invI, SqL.of h1, h3, q v H1 (exr H1) h4⟩
theorem ev_ixN {i : Int} (ha : EvL ta ρ H ds) (hb : Ev tb ρ H (.int i)) (h : atI ds i = some d) : Ev (tOp (rIxL K) ta tb) ρ H d := fun σ H1 Q a E q =>
  ha σ H1 _ a E fun p H2 hp e2 t2 => hb σ H2 _ (a.trans e2) (E.ex e2) fun y H3 e3 t3 => by
    obtain ⟨xs, h1, h2⟩ := t2.ex e3
    obtain ⟨v, h3, h4⟩ := atI_tps h2 h
    exact ⟨p, xs, i, v, rfl, t3.invI, SqL.of h1, h3, q v H3 (e2.trans e3) h4⟩
/-- slices of tuples -/
def cutD {α : Type} (xs : List α) (lo hi : Option Int) : List α := (xs.drop (HT.sIx xs.length 0 lo)).take (HT.sIx xs.length xs.length hi - HT.sIx xs.length 0 lo)
theorem Tps.cut {H : Hp} {xs : List V} {ds : List D} (t : Tps H xs ds) (lo hi : Option Int) : Tps H (cutV xs lo hi) (cutD ds lo hi) := by
  unfold cutV cutD
  rw [t.1]
  exact (t.drop _).take _
theorem cut_whole {α : Type} {xs : List α} {lo hi : Option Int} (h : HT.sIx xs.length 0 lo = 0 ∧ HT.sIx xs.length xs.length hi = xs.length) : cutD xs lo hi = xs := by
  unfold cutD
  rw [h.1, h.2]
  simp
theorem eo_none : EvO tNoPart ρ H none := fun _ H1 _ _ _ q => q H1 (exr H1)
theorem eo_some {i : Int} (h : Ev te ρ H (.int i)) : EvO (tPart te) ρ H (some i) := fun σ H1 Q a E q => h σ H1 _ a E fun v H2 e2 t2 => ⟨i, t2.invI, q H2 e2⟩
theorem ev_slT {tl th : TO} {lo hi : Option Int} (h : Ev te ρ H (.tup ds)) (h1 : EvO tl ρ H lo) (h2 : EvO th ρ H hi) : Ev (tSl (rSlA K) te tl th) ρ H (.tup (cutD ds lo hi)) := fun σ H1 Q a E q =>
  h σ H1 _ a E fun x H2 e2 t2 => h1 σ H2 _ (a.trans e2) (E.ex e2) fun H3 e3 => h2 σ H3 _ ((a.trans e2).trans e3) ((E.ex e2).ex e3) fun H4 e4 => by
    obtain ⟨p, xs, rfl, k1, k2⟩ := (t2.ex (e3.trans e4)).invT
    refine ⟨p, xs, rfl, SqT.of k1, fun hw => ?_, fun _ r hr => ?_⟩
    · refine q _ H4 ((e2.trans e3).trans e4) ?_
      rw [k2.1] at hw
      rw [cut_whole hw]
      exact Tp.mk k1 k2
    · exact q _ _ (((e2.trans e3).trans e4).trans (Evl.Ex.new hr)) (Tp.laid hr (k2.cut lo hi))
/-- tuple + tuple -/
theorem ev_cat (ha : Ev ta ρ H (.tup ds)) (hb : Ev tb ρ H (.tup es)) (hl : ds.length + es.length ≤ 100000) : Ev (tOp (rCatA K) ta tb) ρ H (.tup (ds ++ es)) := ev_op ha hb fun x y H1 Q _ t1 t2 q => by
  obtain ⟨a, xs, rfl, h1, h2⟩ := t1.invT
  obtain ⟨b, ys, rfl, h3, h4⟩ := t2.invT
  refine ⟨a, b, xs, ys, rfl, rfl, SqT.of h1, SqT.of h3, Evl.sz_of (by rw [h2.1, h4.1]; exact hl), fun h => ?_, fun _ h => ?_, fun _ _ p hp => ?_⟩
  · have z : ds = [] := List.eq_nil_of_length_eq_zero (by rw [← h2.1, h]; rfl)
    subst z
    exact q _ H1 (exr H1) t2
  · have z : es = [] := List.eq_nil_of_length_eq_zero (by rw [← h4.1, h]; rfl)
    subst z
    rw [List.append_nil] at q
    exact q _ H1 (exr H1) t1
  · exact q _ _ (Evl.Ex.new hp) (Tp.laid hp (h2.append h4))
/-- calls -/
theorem ev_cb {rc : List V → Hp → VK → Prop} (h : EvA ts ρ H ds) (hr : RC rc ds H z) : Ev (tCB rc ts) ρ H z := fun σ H1 Q a E q => h σ H1 _ a E fun vs H2 e2 t2 => hr vs H2 Q (a.trans e2) t2 fun v H3 e3 t3 => q v H3 (e2.trans e3) t3
theorem el_cb {rc : List V → Hp → VK → Prop} (h : EvA ts ρ H ds) (hr : RCL rc ds H es) : EvL (tCB rc ts) ρ H es := fun σ H1 Q a E q => h σ H1 _ a E fun vs H2 e2 t2 => hr vs H2 Q (a.trans e2) t2 fun p H3 hp e3 t3 => q p H3 (fresh_back e2 hp) (e2.trans e3) t3
/-- .. of one new list -/
theorem ev_cn {rc : List V → Hp → VK → Prop} (h : EvL te ρ H ds) (hr : RN rc ds z) : Ev (tCB rc (tCons te tNil)) ρ H z := fun σ H1 Q a E q => h σ H1 _ a E fun p H2 hp e2 t2 => hr p H2 Q t2 fun v H3 e3 t3 => q v H3 (e2.trans e3) t3
theorem el_cn {rc : List V → Hp → VK → Prop} (h : EvL te ρ H ds) (hr : RNL rc ds es) : EvL (tCB rc (tCons te tNil)) ρ H es := fun σ H1 Q a E q => h σ H1 _ a E fun p H2 hp e2 t2 => hr p H2 Q t2 fun r H3 hp' e3 t3 => q r H3 (fresh_back e2 hp') (e2.trans e3) t3
abbrev rLenS (K : PySem.W.Frag) : List V → Hp → VK → Prop := fun xs H Q => ∃ p ys, xs = [.ref p] ∧ (SqL K H p ys ∨ SqT K H p ys) ∧ Q (.int ys.length) H
abbrev rListS (K : PySem.W.Frag) : List V → Hp → VK → Prop := fun xs H Q => ∃ p ys, xs = [.ref p] ∧ (SqL K H p ys ∨ SqT K H p ys) ∧ ∀ l, H l = none → Q (.ref l) (upd H l (.lst ys))
abbrev rTupleS (K : PySem.W.Frag) : List V → Hp → VK → Prop := fun xs H Q => ∃ p ys, xs = [.ref p] ∧ ((SqL K H p ys ∧ ∀ l, H l = none → Q (.ref l) (upd H l (.tup ys))) ∨ (SqT K H p ys ∧ Q (.ref p) H))
theorem ev_lenT (h : Ev te ρ H (.tup ds)) : Ev (tCB (rLenS K) (tCons te tNil)) ρ H (.int ds.length) := ev_cb (ea_cons h ea_nil) fun vs H1 Q _ t q => by
  obtain ⟨v, ys, rfl, h1, h2⟩ := t.inv
  rw [h2.inv0]
  obtain ⟨a, xs, rfl, k1, k2⟩ := h1.invT
  refine ⟨a, xs, rfl, .inr (SqT.of k1), ?_⟩
  rw [k2.1]
  exact q _ H1 (exr H1) (.int _)
theorem rn_len : RN (rLenS K) ds (.int ds.length) := fun p H1 Q t q => by
  obtain ⟨xs, k1, k2⟩ := t
  refine ⟨p, xs, rfl, .inl (SqL.of k1), ?_⟩
  rw [k2.1]
  exact q _ H1 (exr H1) (.int _)
theorem ev_lenN (h : EvL te ρ H ds) : Ev (tCB (rLenS K) (tCons te tNil)) ρ H (.int ds.length) := ev_cn h rn_len
theorem ev_lenL {p : Addr} (hL : Lst H p ds) (h : Ev te ρ H (.ptr p)) : Ev (tCB (rLenS K) (tCons te tNil)) ρ H (.int ds.length) := ev_cb (ea_cons h ea_nil) fun vs H1 Q e1 t q => by
  obtain ⟨v, ys, rfl, h1, h2⟩ := t.inv
  rw [h2.inv0, h1.invP]
  exact rn_len p H1 Q (hL.ex e1) q
theorem rn_tuple : RN (rTupleS K) ds (.tup ds) := fun p H1 Q t q => by
  obtain ⟨xs, k1, k2⟩ := t
  exact ⟨p, xs, rfl, .inl ⟨SqL.of k1, fun l hl => q _ _ (Evl.Ex.new hl) (Tp.laid hl k2)⟩⟩
theorem ev_tupleN (h : EvL te ρ H ds) : Ev (tCB (rTupleS K) (tCons te tNil)) ρ H (.tup ds) := ev_cn h rn_tuple
theorem ev_tupleL {p : Addr} (hL : Lst H p ds) (h : Ev te ρ H (.ptr p)) : Ev (tCB (rTupleS K) (tCons te tNil)) ρ H (.tup ds) := ev_cb (ea_cons h ea_nil) fun vs H1 Q e1 t q => by
  obtain ⟨v, ys, rfl, h1, h2⟩ := t.inv
  rw [h2.inv0, h1.invP]
  exact rn_tuple p H1 Q (hL.ex e1) q
theorem el_listT (h : Ev te ρ H (.tup ds)) : EvL (tCB (rListS K) (tCons te tNil)) ρ H ds := el_cb (ea_cons h ea_nil) fun vs H1 Q _ t q => by
  obtain ⟨v, ys, rfl, h1, h2⟩ := t.inv
  rw [h2.inv0]
  obtain ⟨a, xs, rfl, k1, k2⟩ := h1.invT
  exact ⟨a, xs, rfl, .inr (SqT.of k1), fun l hl => q l _ hl (Evl.Ex.new hl) ⟨xs, upd_same, k2.mono (TK.new hl)⟩⟩
theorem rn_all {bs : List Bool} : RN (rAll K) (bs.map .bl) (.bl (bs.all id)) := fun p H1 Q t q => by
  obtain ⟨xs, k1, k2⟩ := t
  rw [k2.bls] at k1
  exact ⟨p, bs, rfl, SqL.of k1, q _ H1 (exr H1) (.bl _)⟩
theorem ev_all {bs : List Bool} (h : EvL te ρ H (bs.map .bl)) : Ev (tCB (rAll K) (tCons te tNil)) ρ H (.bl (bs.all id)) := ev_cn h rn_all
/-- the sorted list of ints -/
def sortI (ns : List Int) : List Int := ns.mergeSort fun a b => decide (a ≤ b)
theorem sortI_perm (ns : List Int) : (sortI ns).Perm ns := List.mergeSort_perm _ _
theorem sortI_up (ns : List Int) : (sortI ns).Pairwise (· ≤ ·) := by
  have h := List.pairwise_mergeSort (le := fun a b : Int => decide (a ≤ b)) (fun a b c h1 h2 => by simp at *; omega) (fun a b => by simp; omega) ns
  exact h.imp fun h => of_decide_eq_true h
theorem sort_unique : ∀ {xs ys : List Int}, xs.Perm ys → xs.Pairwise (· ≤ ·) → ys.Pairwise (· ≤ ·) → xs = ys := fun h h1 h2 =>
  h.eq_of_pairwise (fun a b _ _ h3 h4 => Int.le_antisymm h3 h4) h1 h2
theorem sortI_eq {xs ns : List Int} (h : xs.Perm ns) (h1 : xs.Pairwise (· ≤ ·)) : sortI ns = xs := sort_unique ((sortI_perm ns).trans h.symm) (sortI_up ns) h1
theorem rnl_sorted {ns : List Int} (h64 : ns.length < 64) : RNL (rSorted K) (ns.map .int) ((sortI ns).map .int) := fun p H1 Q t q => by
  obtain ⟨xs, k1, k2⟩ := t
  rw [k2.ints] at k1
  refine ⟨p, ns, rfl, SqL.of k1, h64, fun ns' l h1 h2 hl => ?_⟩
  rw [← sortI_eq h1 h2]
  exact q l _ hl (Evl.Ex.new hl) ⟨_, upd_same, Tps.ofInts _⟩
theorem el_sortedN {ns : List Int} (h : EvL te ρ H (ns.map .int)) (h64 : ns.length < 64) : EvL (tCB (rSorted K) (tCons te tNil)) ρ H ((sortI ns).map .int) := el_cn h (rnl_sorted h64)
theorem el_sortedL {ns : List Int} {p : Addr} (hL : Lst H p (ns.map .int)) (h : Ev te ρ H (.ptr p)) (h64 : ns.length < 64) : EvL (tCB (rSorted K) (tCons te tNil)) ρ H ((sortI ns).map .int) := el_cb (ea_cons h ea_nil) fun vs H1 Q e1 t q => by
  obtain ⟨v, ys, rfl, h1, h2⟩ := t.inv
  rw [h2.inv0, h1.invP]
  exact rnl_sorted h64 p H1 Q (hL.ex e1) q
/-- x in ints -/
theorem inV_ints {i : Int} : ∀ ns : List Int, inV (.int i) (ns.map .int) = decide (i ∈ ns)
  | [] => rfl
  | n :: ns => by
    have e : inV (.int i) ((n :: ns).map .int) = (eqV (.int n) (.int i) || inV (.int i) (ns.map .int)) := rfl
    have e2 : eqV (.int n) (.int i) = decide (n = i) := by unfold eqV; first | rfl | exact beq_eq_decide _ _ | simp
    rw [e, inV_ints ns, e2]
    by_cases h : n = i
    · subst h; simp
    · have h' : ¬ i = n := fun q => h q.symm
      simp [h, h']
theorem flat_ints (ns : List Int) : (ns.map V.int).all flatV = true := by
  induction ns with
  | nil => rfl
  | cons n ns ih => rw [List.map_cons, List.all_cons, ih]; rfl
theorem ev_inT {i : Int} {ns : List Int} (ha : Ev ta ρ H (.int i)) (hb : Ev tb ρ H (.tup (ns.map .int))) : Ev (tOp (rIn K false) ta tb) ρ H (.bl (decide (i ∈ ns))) := ev_op ha hb fun x y H1 Q _ t1 t2 q => by
  obtain ⟨a, xs, rfl, h1, h2⟩ := t2.invT
  rw [h2.ints] at h1
  rw [t1.invI]
  refine ⟨a, _, rfl, .inr (SqT.of h1), rfl, flat_ints ns, ?_⟩
  show Q (.bl (inV (.int i) (ns.map .int))) H1
  rw [inV_ints]
  exact q _ H1 (exr H1) (.bl _)
/-- a chain of two comparisons of ints -/
theorem ev_chain {f g : Int → Int → Bool} {i j k : Int} (ha : Ev ta ρ H (.int i)) (hb : Ev tb ρ H (.int j)) (hc : Ev tc ρ H (.int k)) :
    Ev (tChain (rI0 fun i j => .bl (f i j)) (rI0 fun i j => .bl (g i j)) ta tb tc) ρ H (.bl (f i j && g j k)) := fun σ H1 Q a E q =>
  ha σ H1 _ a E fun x H2 e2 t2 => hb σ H2 _ (a.trans e2) (E.ex e2) fun y H3 e3 t3 => by
    refine ⟨i, j, t2.invI, t3.invI, f i j, rfl, ?_⟩
    cases hf : f i j with
    | true =>
      rw [hf] at q
      refine hc σ H3 _ ((a.trans e2).trans e3) ((E.ex e2).ex e3) fun w H4 e4 t4 => ?_
      exact ⟨j, k, t3.invI, t4.invI, q _ H4 ((e2.trans e3).trans e4) (.bl _)⟩
    | false =>
      rw [hf] at q
      exact q _ H3 (e2.trans e3) (.bl _)
theorem ev_chainLe {i j k : Int} (ha : Ev ta ρ H (.int i)) (hb : Ev tb ρ H (.int j)) (hc : Ev tc ρ H (.int k)) :
    Ev (tChain (rI0 fun i j => .bl (decide (i ≤ j))) (rI0 fun i j => .bl (decide (i ≤ j))) ta tb tc) ρ H (.bl (decide (i ≤ j) && decide (j ≤ k))) := ev_chain ha hb hc
/-! tests -/
theorem et_test {b : Bool} (h : Ev te ρ H (.bl b)) : EvT (tTest te) ρ H b := fun σ H1 Q a E q => h σ H1 _ a E fun v H2 e2 t2 => ⟨b, t2.invB, q H2 e2⟩
theorem et_B {b : Bool} (h : Ev te ρ H (.bl b)) : EvT (tB te) ρ H b := fun σ H1 Q a E q => h σ H1 _ a E fun v H2 e2 t2 => ⟨b, t2.invB, q H2 e2⟩
theorem et_not {b : Bool} (h : EvT t ρ H b) : EvT (tNot t) ρ H (!b) := fun σ H1 Q a E q => h σ H1 _ a E fun H2 e2 => q H2 e2
theorem et_and {a b : Bool} (h1 : EvT t ρ H a) (h2 : a = true → EvT u ρ H b) : EvT (tAnd t u) ρ H (a && b) := fun σ H1 Q e E q => h1 σ H1 _ e E fun H2 e2 => by
  cases a with
  | true => exact h2 rfl σ H2 Q (e.trans e2) (E.ex e2) fun H3 e3 => q H3 (e2.trans e3)
  | false => exact q H2 e2
theorem et_or {a b : Bool} (h1 : EvT t ρ H a) (h2 : a = false → EvT u ρ H b) : EvT (tOr t u) ρ H (a || b) := fun σ H1 Q e E q => h1 σ H1 _ e E fun H2 e2 => by
  cases a with
  | true => exact q H2 e2
  | false => exact h2 rfl σ H2 Q (e.trans e2) (E.ex e2) fun H3 e3 => q H3 (e2.trans e3)
theorem et_yes : EvT tYes ρ H true := fun _ H1 _ _ _ q => q H1 (exr H1)
theorem ev_andV {a b : Bool} (h1 : Ev ta ρ H (.bl a)) (h2 : a = true → Ev tb ρ H (.bl b)) : Ev (tAndV ta tb) ρ H (.bl (a && b)) := fun σ H1 Q e E q => h1 σ H1 _ e E fun v H2 e2 t2 => ⟨a, t2.invB, by
  cases a with
  | true => exact h2 rfl σ H2 Q (e.trans e2) (E.ex e2) fun w H3 e3 t3 => q w H3 (e2.trans e3) t3
  | false => exact q _ H2 e2 (.bl _)⟩
theorem ev_notV {a : Bool} (h1 : Ev ta ρ H (.bl a)) : Ev (tNotV ta) ρ H (.bl (!a)) := fun σ H1 Q e E q => h1 σ H1 _ e E fun v H2 e2 t2 => ⟨a, t2.invB, q _ H2 e2 (.bl _)⟩
theorem ev_if {b : Bool} (h : EvT t ρ H b) (h1 : b = true → Ev ta ρ H d) (h2 : b = false → Ev tb ρ H d) : Ev (tIf t ta tb) ρ H d := fun σ H1 Q e E q => h σ H1 _ e E fun H2 e2 => by
  cases b with
  | true => exact h1 rfl σ H2 Q (e.trans e2) (E.ex e2) fun v H3 e3 t3 => q v H3 (e2.trans e3) t3
  | false => exact h2 rfl σ H2 Q (e.trans e2) (E.ex e2) fun v H3 e3 t3 => q v H3 (e2.trans e3) t3
end
end Hn


/-! Calls of own defs, comprehensions, loops, statements, over the data layer. -/
namespace Hn
open PySem L2

/-! ### promises -/
/-- data in, data out -/
def spD (R : List D → D → Prop) : Sp := fun vs H Q _ => ∃ ds d, Tps H vs ds ∧ R ds d ∧ ∀ v H', Ex H H' → Tp H' v d → Q v H'
/-- data in, a new list out -/
def spL (R : List D → List D → Prop) : Sp := fun vs H Q _ => ∃ ds es, Tps H vs ds ∧ R ds es ∧ ∀ p H', H p = none → Ex H H' → Lst H' p es → Q (.ref p) H'
structure FnAt (P : Program) (w : World) (K : PySem.W.Frag) (mg : Str → Option Value) (base : Heap) (k : Nat) (x : Str) (ps : List Str) (sp : Sp) : Prop where
  ex : ∃ f fd, mg x = some (.ref f) ∧ PySem.W.keepIn K (.ref f) = true ∧ Binds K fd ps [] ∧ FnOk P w K mg base CX0 k f fd ps sp
structure DefAt (K : PySem.W.Frag) (mg : Str → Option Value) (x : Str) (st : Stmt) (ps : List Str) : Prop where
  ex : ∃ f fd, mg x = some (.ref f) ∧ Fun K x x st f fd ∧ Binds K fd ps []
section
variable {P : Program} {w : World} {K : PySem.W.Frag} {mg : Str → Option Value} {base : Heap} {x : Str} {st : Stmt} {ps N : List Str} {k : Nat} {sp : Sp}
theorem DefAt.ok (F : DefAt K mg x st ps) (S : FnScope N ps (defScope st)) (len : ∀ vs H Q E, sp vs H Q E → vs.length = ps.length)
    (hbody : ∀ (f : Addr) (cdv : Value) (A : Around) (outer : List PySem.Env) (s : Shared) (H : Hp) (vs : List V) (Q : VK) (E : XK), Room k (A.deeper (PyProof.Rows.envOfC x (defScope st) s.heap.objs.size f cdv)) → sp vs H Q E →
      ∃ t, PSs (cxOf CX0 P w K mg base N x (defScope st) f cdv A outer s H E).nox (defBody st) t ∧ t { nx := fun _ H' => Q .non H', rt := Q } (start N vs) H) : FnAt P w K mg base (k + 1) x ps sp := by
  obtain ⟨f, fd, hm, hF, hb⟩ := F.ex
  exact ⟨f, fd, hm, hF.kp, hb, hF.ok S len fun cdv A outer s H vs Q E => hbody f cdv A outer s H vs Q E⟩
theorem FnAt.mono {j : Nat} (F : FnAt P w K mg base j x ps sp) (h : j ≤ k) : FnAt P w K mg base k x ps sp := by
  obtain ⟨f, fd, hm, hk, hb, F⟩ := F.ex
  exact ⟨f, fd, hm, hk, hb, F.mono h⟩
theorem pe_fn {X : Cx} {p pos : Pos} {e : Expr} {es : List Expr} {t : TA} (F : FnAt X.prog X.w X.K X.mg X.base k x ps sp) (hr : Room k X.A) (hg : Gl X x) (ha : PA X (e :: es) t) (hdb : (x == ("__debug__" : Str)) = false := by decide)
    (he : starEach (e :: es) X.env = (false, eval e X.env) :: starEach es X.env := by rfl) (hpl : (backTo pos (starEach es X.env)).any (·.1) = false := by rfl) : PE X (.Call (.Name x p) (e :: es) [] pos) (tCall sp [] E0 t) := by
  obtain ⟨f, fd, hm, hk, hb, F⟩ := F.ex
  exact pe_call F hr hg hm hk hb .nil pass0 ha hdb he hpl
end
theorem spD_len {R : List D → D → Prop} {n : Nat} (h : ∀ ds d, R ds d → ds.length = n) : ∀ vs H Q E, spD R vs H Q E → vs.length = n := fun vs H Q E ⟨ds, d, t, r, _⟩ => t.1.trans (h ds d r)
theorem spL_len {R : List D → List D → Prop} {n : Nat} (h : ∀ ds d, R ds d → ds.length = n) : ∀ vs H Q E, spL R vs H Q E → vs.length = n := fun vs H Q E ⟨ds, d, t, r, _⟩ => t.1.trans (h ds d r)

section
variable {K : PySem.W.Frag} {ρ ρ' : List (Option D)} {H H' : Hp} {ta tb tc te tx tl : TE} {t u : TT} {d e z : D} {ds es : List D} {ts tr : TA} {b : Bool} {E : XK} {σ : L2.St}
theorem ev_call {R : List D → D → Prop} (h : EvA ts ρ H ds) (hR : R ds d) : Ev (tCall (spD R) [] E ts) ρ H d := fun σ H1 Q a En q => h σ H1 _ a En fun vs H2 e2 t2 => by
  rw [List.append_nil]
  exact ⟨ds, d, t2, hR, fun v H3 e3 t3 => q v H3 (e2.trans e3) t3⟩
theorem el_call {R : List D → List D → Prop} (h : EvA ts ρ H ds) (hR : R ds es) : EvL (tCall (spL R) [] E ts) ρ H es := fun σ H1 Q a En q => h σ H1 _ a En fun vs H2 e2 t2 => by
  rw [List.append_nil]
  exact ⟨ds, es, t2, hR, fun p H3 hp e3 t3 => q p H3 (fresh_back e2 hp) (e2.trans e3) t3⟩

/-! ### what is walked -/
/-- J walks the data srcs while all that stood in H1 stands -/
def Src (J : It) (srcs : List D) (H1 : Hp) : Prop := ∃ (G : Hp → Prop) (Y : Nat → Hp → V → Hp → Prop), Walk J srcs.length G Y ∧ (∀ H', Ex H1 H' → G H') ∧ ∀ i H x H' d, srcs[i]? = some d → Ex H1 H → Y i H x H' → Ex H H' ∧ Tp H' x d
def EvI (wi : TI) (ρ : List (Option D)) (H : Hp) (srcs : List D) : Prop := ∀ σ H1 (R : It → Hp → Prop), Ex H H1 → Env σ H1 ρ → (∀ J H2, Ex H1 H2 → Src J srcs H2 → R J H2) → wi σ H1 R
theorem ei_tup (h : Ev tl ρ H (.tup ds)) : EvI (iTup K tl) ρ H ds := fun σ H1 R a En q => h σ H1 _ a En fun v H2 e2 t2 => by
  obtain ⟨p, xs, rfl, h1, h2⟩ := t2.invT
  refine ⟨p, rfl, ⟨xs, SqT.of h1⟩, q _ H2 e2 ⟨_, _, (by rw [← h2.1]; exact walk_tup (K := K) (a := p) (xs := xs)), fun H' e => SqT.of (e _ _ h1), fun i H x H' d hd e y => ?_⟩⟩
  obtain ⟨rfl, y⟩ := y
  exact ⟨exr _, (h2.ex e).2 i x d y hd⟩
theorem src_lst {p : Addr} {H2 : Hp} (t2 : Lst H2 p ds) : Src (Itl K p) ds H2 := by
  obtain ⟨xs, h1, h2⟩ := t2
  refine ⟨_, _, (by rw [← h2.1]; exact walk_list (K := K) (a := p) (xs := xs)), fun H' e => SqL.of (e _ _ h1), fun i H x H' d hd e y => ?_⟩
  obtain ⟨rfl, y⟩ := y
  exact ⟨exr _, (h2.ex e).2 i x d y hd⟩
theorem ei_new (h : EvL tl ρ H ds) : EvI (iList K tl) ρ H ds := fun σ H1 R a En q => h σ H1 _ a En fun p H2 hp e2 t2 => by
  obtain ⟨xs, h1, h2⟩ := id t2
  exact ⟨p, rfl, ⟨xs, SqL.of h1⟩, q _ H2 e2 (src_lst t2)⟩
theorem ei_lst {p : Addr} (hL : Lst H p ds) (h : Ev tl ρ H (.ptr p)) : EvI (iList K tl) ρ H ds := fun σ H1 R a En q => h σ H1 _ a En fun v H2 e2 t2 => by
  obtain ⟨xs, h1, h2⟩ := id (hL.ex (a.trans e2))
  exact ⟨p, t2.invP, ⟨xs, SqL.of h1⟩, q _ H2 e2 (src_lst (hL.ex (a.trans e2)))⟩
def rangeD (lo : Int) (n : Nat) : List D := (List.range n).map fun (i : Nat) => D.int (lo + (i : Int))
theorem src_range {lo : Int} {n : Nat} {H2 : Hp} : Src (Itr lo n) (rangeD lo n) H2 := by
  have e : (rangeD lo n).length = n := by unfold rangeD; rw [List.length_map, List.length_range]
  refine ⟨_, _, (by rw [e]; exact walk_range (lo := lo) (n := n)), fun H' _ => trivial, fun i H x H' d hd _ y => ?_⟩
  obtain ⟨rfl, rfl⟩ := y
  refine ⟨exr _, ?_⟩
  unfold rangeD at hd
  have hi := (List.getElem?_eq_some_iff.mp hd).1
  rw [List.length_map, List.length_range] at hi
  rw [List.getElem?_map, List.getElem?_range hi] at hd
  cases hd
  exact .int _
theorem ei_range1 {n : Int} (h : Ev te ρ H (.int n)) (hn : -(2 ^ 62) ≤ n ∧ n < 2 ^ 62) : EvI (iRng1 (tCons te tNil)) ρ H (rangeD 0 n.toNat) := fun σ H1 R a En q => h σ H1 _ a En fun v H2 e2 t2 =>
  ⟨n, by rw [t2.invI], hn.1, hn.2, q _ H2 e2 src_range⟩
theorem ei_range2 {lo n : Int} (h0 : Ev ta ρ H (.int lo)) (h : Ev te ρ H (.int n)) (hn : -(2 ^ 62) ≤ lo ∧ lo < 2 ^ 62 ∧ -(2 ^ 62) ≤ n ∧ n < 2 ^ 62) : EvI (iRng2 (tCons ta (tCons te tNil))) ρ H (rangeD lo (n - lo).toNat) := fun σ H1 R a En q =>
  h0 σ H1 _ a En fun v0 H2 e2 t2 => h σ H2 _ (a.trans e2) (En.ex e2) fun v H3 e3 t3 => ⟨lo, n, by rw [t2.invI, t3.invI], hn, q _ H3 (e2.trans e3) src_range⟩

/-! ### targets -/
def TgD (g : TG) (vs : List Nat) (ρ ρ' : List (Option D)) (d : D) : Prop := ∀ v σ H (Q : L2.St → Hp → Prop), Env σ H ρ → Tp H v d → (∀ σ', Env σ' H ρ' → wipe σ' vs = wipe σ vs → Q σ' H) → g v σ H Q
theorem wipe_set : ∀ {vs : List Nat} {σ : L2.St} {j : Nat} {o : Option V}, j ∈ vs → wipe (σ.set j o) vs = wipe σ vs
  | [], _, _, _, h => absurd h List.not_mem_nil
  | v :: vs, σ, j, o, h => by
    show (wipe (σ.set j o) vs).set v none = (wipe σ vs).set v none
    by_cases hv : j ∈ vs
    · rw [wipe_set hv]
    · have e : j = v := by
        rcases List.mem_cons.mp h with q | q
        · exact q
        · exact absurd q hv
      subst e
      have out : ∀ ws : List Nat, j ∉ ws → wipe (σ.set j o) ws = (wipe σ ws).set j o := by
        intro ws
        induction ws with
        | nil => intro _; rfl
        | cons w ws ih =>
          intro hw
          show (wipe (σ.set j o) ws).set w none = ((wipe σ ws).set w none).set j o
          rw [ih fun q => hw (List.mem_cons_of_mem _ q)]
          exact List.set_comm _ _ fun q => hw (by rw [q]; exact List.mem_cons_self)
      rw [out vs hv, List.set_set]
theorem wipe_wipe : ∀ {vs us : List Nat} {σ : L2.St}, (∀ j ∈ us, j ∈ vs) → wipe (wipe σ us) vs = wipe σ vs
  | vs, [], σ, _ => rfl
  | vs, u :: us, σ, h => by
    show wipe ((wipe σ us).set u none) vs = wipe σ vs
    rw [wipe_set (h u List.mem_cons_self), wipe_wipe fun j hj => h j (List.mem_cons_of_mem _ hj)]
theorem tg_name {j : Nat} {vs : List Nat} (hj : j ∈ vs) : TgD (gName j) vs ρ (ρ.set j (some d)) d := fun v σ H Q En t q => q _ (En.set j t) (wipe_set hj)
theorem tg_pair {i j : Nat} {vs : List Nat} (hi : i ∈ vs) (hj : j ∈ vs) : TgD (gTup K 2 (gCons (gName i) (gCons (gName j) gNil))) vs ρ ((ρ.set i (some d)).set j (some e)) (.tup [d, e]) := fun v σ H Q En t q => by
  obtain ⟨p, xs, rfl, h1, h2⟩ := t.invT
  obtain ⟨x, ys, rfl, k1, h3⟩ := h2.inv
  obtain ⟨y, zs, rfl, k2, h4⟩ := h3.inv
  obtain rfl := h4.inv0
  exact ⟨p, _, rfl, SqT.of h1, rfl, x, _, rfl, y, _, rfl, rfl, q _ ((En.set i k1).set j k2) ((wipe_set hj).trans (wipe_set hi))⟩

/-! ### comprehensions -/
theorem el_lc {α : Type} {xs : List α} {enc : α → D} {wi : TI} {g : TG} {vs : List Nat} (hi : EvI wi ρ H (xs.map enc)) (f : α → Bool) (v : α → D) (ρ' : α → List (Option D)) (hl : xs.length ≤ 50000) (hg : ∀ d ∈ xs, TgD g vs (wipeD ρ vs) (ρ' d) (enc d)) (ht : ∀ d ∈ xs, EvT t (ρ' d) H (f d)) (he : ∀ d ∈ xs, f d = true → Ev te (ρ' d) H (v d)) :
    EvL (tLc wi g t te vs) ρ H ((xs.filter f).map v) := fun σ H1 Q a En q => hi σ H1 _ a En fun J H2 e2 S Dl hD => by
  obtain ⟨G, Y, w, hG, hY⟩ := S
  rw [List.length_map] at w
  have En2 : Env (wipe σ vs) H2 (wipeD ρ vs) := (En.ex e2).wipe vs
  let Pv : Nat → Hp → Prop := fun i H' => Ex H2 H' ∧ ∃ acc, H' Dl = some (.lst acc) ∧ Tps H' acc (((xs.take i).filter f).map v)
  refine lc_it w Pv ⟨Evl.Ex.new hD, [], upd_same, Tps.nil⟩ (fun i H' _ p => hG H' p.1) (fun i x H' H3 hlt p y => ?_) (fun H' p => ?_)
  · obtain ⟨p1, acc, p2, p3⟩ := p
    have hx : xs[i]? = some xs[i] := List.getElem?_eq_getElem hlt
    have hm : xs[i] ∈ xs := List.getElem_mem hlt
    obtain ⟨e3, t3⟩ := hY i H' x H3 (enc xs[i]) (by rw [List.getElem?_map, hx]; rfl) p1 y
    refine hg _ hm x _ H3 _ (En2.ex (p1.trans e3)) t3 fun σ' Es hw => ⟨hw.trans (wipe_wipe fun _ z => z), ?_⟩
    have et : (xs.take (i + 1)).filter f = (xs.take i).filter f ++ (if f xs[i] = true then [xs[i]] else []) := by
      rw [List.take_succ_eq_append_getElem hlt, List.filter_append, List.filter_cons, List.filter_nil]
    refine ht _ hm σ' H3 _ ((a.trans e2).trans (p1.trans e3)) Es fun H4 e4 => ?_
    cases hf : f xs[i] with
    | true =>
      rw [if_pos hf] at et
      refine he _ hm hf σ' H4 _ (((a.trans e2).trans (p1.trans e3)).trans e4) (Es.ex e4) fun r H5 e5 t5 => ⟨acc, e5 _ _ (e4 _ _ (e3 _ _ p2)), ?_, ?_, _, upd_same, ?_⟩
      · have z := p3.1
        rw [List.length_map] at z
        have z2 := List.length_filter_le f (xs.take i)
        rw [List.length_take] at z2
        exact Evl.sz_lt (by omega)
      · exact Evl.Ex.mut (((p1.trans e3).trans e4).trans e5) hD
      · rw [et, List.map_append]
        have hk := e5 _ _ (e4 _ _ (e3 _ _ p2))
        exact (Tps.append (((p3.ex e3).ex e4).ex e5) (Tps.cons t5 Tps.nil)).mono (TK.updL hk)
    | false =>
      rw [if_neg (by rw [hf]; decide), List.append_nil] at et
      refine ⟨(p1.trans e3).trans e4, acc, e4 _ _ (e3 _ _ p2), ?_⟩
      rw [et]
      exact (p3.ex e3).ex e4
  · obtain ⟨p1, acc, p2, p3⟩ := p
    rw [List.take_length] at p3
    exact q Dl H' (fresh_back e2 hD) (e2.trans p1) ⟨acc, p2, p3⟩
/-- without a test -/
theorem el_map {α : Type} {xs : List α} {enc : α → D} {wi : TI} {g : TG} {vs : List Nat} (hi : EvI wi ρ H (xs.map enc)) (v : α → D) (ρ' : α → List (Option D)) (hl : xs.length ≤ 50000) (hg : ∀ d ∈ xs, TgD g vs (wipeD ρ vs) (ρ' d) (enc d)) (he : ∀ d ∈ xs, Ev te (ρ' d) H (v d)) :
    EvL (tLc wi g tYes te vs) ρ H (xs.map v) := by
  have h := el_lc (t := tYes) (te := te) hi (fun _ => true) v ρ' hl hg (fun _ _ => et_yes) fun d hd _ => he d hd
  have e : xs.filter (fun _ => true) = xs := List.filter_eq_self.mpr fun _ _ => rfl
  rw [e] at h
  exact h

/-! ### statements -/
variable {D0 : Ends} {tu tw tz : TS} {g : TG}
theorem x_asg {i : Nat} (En : Env σ H ρ) (h : Ev te ρ H d) (k : ∀ σ' H1, Ex H H1 → Env σ' H1 (ρ.set i (some d)) → D0.nx σ' H1) : tAsg te (gName i) D0 σ H := h σ H _ (exr H) En fun v H1 e1 t1 => k _ H1 e1 ((En.ex e1).set i t1)
theorem x_asgL {i : Nat} (En : Env σ H ρ) (h : EvL te ρ H ds) (k : ∀ p σ' H1, H p = none → Ex H H1 → Lst H1 p ds → Env σ' H1 (ρ.set i (some (.ptr p))) → D0.nx σ' H1) : tAsg te (gName i) D0 σ H := h σ H _ (exr H) En fun p H1 hp e1 t1 => k p _ H1 hp e1 t1 ((En.ex e1).set i (.ptr p))
theorem x_ret (En : Env σ H ρ) (h : Ev te ρ H d) (k : ∀ v H1, Ex H H1 → Tp H1 v d → D0.rt v H1) : tRet te D0 σ H := h σ H _ (exr H) En k
theorem x_retL (En : Env σ H ρ) (h : EvL te ρ H ds) (k : ∀ p H1, H p = none → Ex H H1 → Lst H1 p ds → D0.rt (.ref p) H1) : tRet te D0 σ H := h σ H _ (exr H) En k
theorem x_if {b : Bool} (En : Env σ H ρ) (h : EvT t ρ H b) (h1 : b = true → ∀ H1, Ex H H1 → tu D0 σ H1) (h2 : b = false → ∀ H1, Ex H H1 → tw D0 σ H1) : tIfS t tu tw D0 σ H := h σ H _ (exr H) En fun H1 e1 => by
  cases b with
  | true => exact h1 rfl H1 e1
  | false => exact h2 rfl H1 e1
theorem q_asg {i : Nat} (En : Env σ H ρ) (h : Ev te ρ H d) (k : ∀ σ' H1, Ex H H1 → Env σ' H1 (ρ.set i (some d)) → tz D0 σ' H1) : tSeq (tAsg te (gName i)) tz D0 σ H := x_asg (D0 := { D0 with nx := tz D0 }) En h k
theorem q_asgL {i : Nat} (En : Env σ H ρ) (h : EvL te ρ H ds) (k : ∀ p σ' H1, H p = none → Ex H H1 → Lst H1 p ds → Env σ' H1 (ρ.set i (some (.ptr p))) → tz D0 σ' H1) : tSeq (tAsg te (gName i)) tz D0 σ H := x_asgL (D0 := { D0 with nx := tz D0 }) En h k
theorem q_if {b : Bool} (En : Env σ H ρ) (h : EvT t ρ H b) (h1 : b = true → ∀ H1, Ex H H1 → tu { D0 with nx := tz D0 } σ H1) (h2 : b = false → ∀ H1, Ex H H1 → tw { D0 with nx := tz D0 } σ H1) : tSeq (tIfS t tu tw) tz D0 σ H := x_if (D0 := { D0 with nx := tz D0 }) En h h1 h2
/-- the answer is known -/
theorem q_no (En : Env σ H ρ) (h : EvT t ρ H false) (k : ∀ H1, Ex H H1 → tz D0 σ H1) : tSeq (tIfS t tu tNext) tz D0 σ H := q_if En h (fun z => nomatch z) fun _ H1 e1 => k H1 e1
/-- a, b = a pair -/
theorem q_unpack {i j : Nat} (En : Env σ H ρ) (h : Ev te ρ H (.tup [d, e])) (k : ∀ σ' H1, Ex H H1 → Env σ' H1 ((ρ.set i (some d)).set j (some e)) → tz D0 σ' H1) : tSeq (tAsg te (gTup K 2 (gCons (gName i) (gCons (gName j) gNil)))) tz D0 σ H :=
  h σ H _ (exr H) En fun v H1 e1 t1 => tg_pair (K := K) (vs := [i, j]) (List.mem_cons_self) (List.mem_cons_of_mem _ List.mem_cons_self) v σ H1 _ (En.ex e1) t1 fun σ' Es _ => k σ' H1 e1 Es
/-- a, b = x, y -/
theorem q_par {i j : Nat} (En : Env σ H ρ) (ha : Ev ta ρ H d) (hb : Ev tb ρ H e) (k : ∀ σ' H1, Ex H H1 → Env σ' H1 ((ρ.set i (some d)).set j (some e)) → tz D0 σ' H1) : tSeq (tPar i j (tCons ta (tCons tb tNil))) tz D0 σ H :=
  ha σ H _ (exr H) En fun v H1 e1 t1 => hb σ H1 _ e1 (En.ex e1) fun y H2 e2 t2 => ⟨v, y, rfl, k _ H2 (e1.trans e2) (((En.ex e1).ex e2).set i (t1.ex e2) |>.set j t2)⟩
theorem x_par {i j : Nat} (En : Env σ H ρ) (ha : Ev ta ρ H d) (hb : Ev tb ρ H e) (k : ∀ σ' H1, Ex H H1 → Env σ' H1 ((ρ.set i (some d)).set j (some e)) → D0.nx σ' H1) : tPar i j (tCons ta (tCons tb tNil)) D0 σ H :=
  ha σ H _ (exr H) En fun v H1 e1 t1 => hb σ H1 _ e1 (En.ex e1) fun y H2 e2 t2 => ⟨v, y, rfl, k _ H2 (e1.trans e2) (((En.ex e1).ex e2).set i (t1.ex e2) |>.set j t2)⟩
/-- a, b = two new lists -/
theorem q_parL {i j : Nat} (En : Env σ H ρ) (ha : EvL ta ρ H ds) (hb : EvL tb ρ H es) (k : ∀ p r σ' H1, H p = none → H r = none → p ≠ r → Ex H H1 → Lst H1 p ds → Lst H1 r es → Env σ' H1 ((ρ.set i (some (.ptr p))).set j (some (.ptr r))) → tz D0 σ' H1) : tSeq (tPar i j (tCons ta (tCons tb tNil))) tz D0 σ H :=
  ha σ H _ (exr H) En fun p H1 hp e1 t1 => hb σ H1 _ e1 (En.ex e1) fun r H2 hr e2 t2 => ⟨.ref p, .ref r, rfl, k p r _ H2 hp (fresh_back e1 hr) (by obtain ⟨_, z, _⟩ := t1; exact ne_of_none z hr) (e1.trans e2) (t1.ex e2) t2 (((En.ex e1).ex e2).set i (.ptr p) |>.set j (.ptr r))⟩
/-- xs.append(e) -/
theorem x_app {p : Addr} {xs : List V} (hp : H p = some (.lst xs)) (hz : xs.length < 100000) (En : Env σ H ρ) (ha : Ev ta ρ H (.ptr p)) (h : Ev te ρ H d) (k : ∀ v H1, Ex H H1 → Tp H1 v d → D0.nx σ (upd H1 p (.lst (xs ++ [v])))) :
    tDrop (tBM K "list" rAppend ta (tCons te tNil)) D0 σ H := ha σ H _ (exr H) En fun v H1 e1 t1 => by
  rw [t1.invP]
  exact ⟨Or.inl ⟨rfl, xs, SqL.of (e1 _ _ hp)⟩, h σ H1 _ e1 (En.ex e1) fun y H2 e2 t2 => ⟨p, xs, y, rfl, rfl, e2 _ _ (e1 _ _ hp), Evl.sz_lt hz, k y H2 (e1.trans e2) t2⟩⟩
/-- xs.extend(a new list) -/
theorem x_ext {p : Addr} {xs : List V} (hp : H p = some (.lst xs)) (hz : xs.length + ds.length < 100000) (En : Env σ H ρ) (ha : Ev ta ρ H (.ptr p)) (h : EvL te ρ H ds) (k : ∀ zs H1, Ex H H1 → Tps H1 zs ds → D0.nx σ (upd H1 p (.lst (xs ++ zs)))) :
    tDrop (tBM K "list" rExtend ta (tCons te tNil)) D0 σ H := ha σ H _ (exr H) En fun v H1 e1 t1 => by
  rw [t1.invP]
  refine ⟨Or.inl ⟨rfl, xs, SqL.of (e1 _ _ hp)⟩, h σ H1 _ e1 (En.ex e1) fun q H2 hq e2 t2 => ?_⟩
  obtain ⟨zs, h1, h2⟩ := t2
  exact ⟨p, q, xs, zs, rfl, rfl, e2 _ _ (e1 _ _ hp), h1, Evl.sz_of (by rw [h2.1]; omega), k zs H2 (e1.trans e2) h2⟩
/-- xs[i] = e -/
theorem x_setL {p : Addr} {xs : List V} {j : Nat} (hp : H p = some (.lst xs)) (En : Env σ H ρ) (hj : j < xs.length) (h : Ev te ρ H d) (ha : Ev ta ρ H (.ptr p)) (hb : Ev tb ρ H (.int (j : Int))) (k : ∀ v H1, Ex H H1 → Tp H1 v d → D0.nx σ (upd H1 p (.lst (xs.set j v)))) :
    tAsg te (gSub ta tb rSetL) D0 σ H := h σ H _ (exr H) En fun v H1 e1 t1 => ha σ H1 _ e1 (En.ex e1) fun o H2 e2 t2 => hb σ H2 _ (e1.trans e2) ((En.ex e1).ex e2) fun i H3 e3 t3 =>
  ⟨p, xs, (j : Int), j, t2.invP, t3.invI, ((e1.trans e2).trans e3) _ _ hp, Evl.ixN_nat hj, k v H3 ((e1.trans e2).trans e3) ((t1.ex e2).ex e3)⟩
/-- loops -/
theorem x_forT (En : Env σ H ρ) (h : Ev tl ρ H (.tup ds)) (Pv : Hp → Nat → L2.St → Hp → Prop) (h0 : ∀ H1, Ex H H1 → Pv H1 0 σ H1) (hk : ∀ H1 i σ' H', Pv H1 i σ' H' → TK H1 H')
    (hs : ∀ H1 i x σ' H' v, Ex H H1 → ds[i]? = some x → Pv H1 i σ' H' → Tp H' v x → g v σ' H' fun σ2 H2 => tu { D0 with nx := Pv H1 (i + 1), ct := Pv H1 (i + 1), bk := D0.nx } σ2 H2) (hd : ∀ H1 σ' H', Ex H H1 → Pv H1 ds.length σ' H' → D0.nx σ' H') : tFor (iTup K tl) g tu D0 σ H :=
  h σ H _ (exr H) En fun v H1 e1 t1 => by
    obtain ⟨p, xs, rfl, h1, h2⟩ := t1.invT
    refine ⟨p, rfl, ⟨xs, SqT.of h1⟩, for_tup (xs := xs) (Pv H1) (h0 H1 e1) (fun i σ' H' _ q => SqT.of (hk H1 i σ' H' q _ _ h1)) (fun i x σ' H' hx q => ?_) (fun σ' H' q => hd H1 σ' H' e1 (by rw [← h2.1]; exact q))⟩
    obtain ⟨d', hd', td⟩ := h2.get' hx
    exact hs H1 i d' σ' H' x e1 hd' q (td.mono (hk H1 i σ' H' q))
theorem x_forR1 {n : Int} (En : Env σ H ρ) (h : Ev te ρ H (.int n)) (hn : 0 ≤ n ∧ n < 2 ^ 62) (Pv : Nat → L2.St → Hp → Prop) (h0 : ∀ H1, Ex H H1 → Pv 0 σ H1)
    (hs : ∀ (i : Nat) σ' H', (i : Int) < n → Pv i σ' H' → g (.int (i : Int)) σ' H' fun σ2 H2 => tu { D0 with nx := Pv (i + 1), ct := Pv (i + 1), bk := D0.nx } σ2 H2) (hd : ∀ σ' H', Pv n.toNat σ' H' → D0.nx σ' H') : tFor (iRng1 (tCons te tNil)) g tu D0 σ H :=
  h σ H _ (exr H) En fun v H1 e1 t1 => ⟨n, by rw [t1.invI], by omega, hn.2, for_range (lo := 0) (n := n.toNat) Pv (h0 H1 e1) (fun i σ' H' hi p => by
    have e0 : (0 : Int) + (i : Int) = (i : Int) := Int.zero_add _
    rw [e0]
    exact hs i σ' H' (by omega) p) hd⟩
/-- over a new list -/
theorem x_forN (En : Env σ H ρ) (h : EvL tl ρ H ds) (Pv : Hp → Nat → L2.St → Hp → Prop) (h0 : ∀ H1, Ex H H1 → Pv H1 0 σ H1) (hk : ∀ H1 i σ' H', Pv H1 i σ' H' → Ex H1 H')
    (hs : ∀ H1 i x σ' H' v, Ex H H1 → ds[i]? = some x → Pv H1 i σ' H' → Tp H' v x → g v σ' H' fun σ2 H2 => tu { D0 with nx := Pv H1 (i + 1), ct := Pv H1 (i + 1), bk := D0.nx } σ2 H2) (hd : ∀ H1 σ' H', Ex H H1 → Pv H1 ds.length σ' H' → D0.nx σ' H') : tFor (iList K tl) g tu D0 σ H :=
  h σ H _ (exr H) En fun p H1 hp e1 t1 => by
    obtain ⟨xs, h1, h2⟩ := t1
    refine ⟨p, rfl, ⟨xs, SqL.of h1⟩, for_list (xs := xs) (Pv H1) (h0 H1 e1) (fun i σ' H' _ q => SqL.of (hk H1 i σ' H' q _ _ h1)) (fun i x σ' H' hx q => ?_) (fun σ' H' q => hd H1 σ' H' e1 (by rw [← h2.1]; exact q))⟩
    obtain ⟨d', hd', td⟩ := h2.get' hx
    exact hs H1 i d' σ' H' x e1 hd' q (td.ex (hk H1 i σ' H' q))
end
end Hn


/-! Rules that were lacking: == over data without a look at its texts, xs.extend(tuple), enumerate(tuple), tuple * int of any positive count. -/
namespace Hn
open PySem PySem.Spec PyProof.Rows L2

/-! ### == of data -/
mutual
def D.py : D → PyData
  | .non => .none
  | .bl b => .bool b
  | .int i => .int i
  | .str x => .str x
  | .tup xs => .tuple (D.pys xs)
  | .ptr _ => .none
def D.pys : List D → List PyData
  | [] => []
  | d :: ds => d.py :: D.pys ds
end
mutual
/-- no place of an object within -/
def D.pure : D → Bool
  | .tup xs => D.pures xs
  | .ptr _ => false
  | _ => true
def D.pures : List D → Bool
  | [] => true
  | d :: ds => d.pure && D.pures ds
end
theorem D.pys_length : ∀ ds : List D, (D.pys ds).length = ds.length
  | [] => rfl
  | _ :: ds => congrArg (· + 1) (D.pys_length ds)
mutual
theorem Tp.dp {K : PySem.W.Frag} {H : Hp} : ∀ (d : D) (v : V), d.pure = true → Tp H v d → Dp K H v d.py
  | .non, v, _, t => by cases t; exact .non
  | .bl b, v, _, t => by cases t; exact .bl b
  | .int i, v, _, t => by cases t; exact .int i
  | .str x, v, _, t => by cases t; exact .str x
  | .ptr a, v, p, _ => by unfold D.pure at p; cases p
  | .tup ds, v, p, t => by
    obtain ⟨a, xs, rfl, h1, h2⟩ := t.invT
    unfold D.pure at p
    exact .tup (SqT.of h1) (Tps.dp ds xs p h2)
theorem Tps.dp {K : PySem.W.Frag} {H : Hp} : ∀ (ds : List D) (vs : List V), D.pures ds = true → Tps H vs ds → DpAll K H vs (D.pys ds)
  | [], vs, _, t => by rw [t.inv0]; exact .nil
  | d :: ds, vs, p, t => by
    obtain ⟨v, ys, rfl, h1, h2⟩ := t.inv
    unfold D.pures at p
    rw [Bool.and_eq_true] at p
    exact .cons (Tp.dp d v p.1 h1) (Tps.dp ds ys p.2 h2)
end
mutual
theorem D.plain : ∀ d : D, d.py.plain = true
  | .non => rfl
  | .bl b => rfl
  | .int i => rfl
  | .str x => rfl
  | .ptr a => rfl
  | .tup ds => by
    unfold D.py PyData.plain
    exact D.plains ds
theorem D.plains : ∀ ds : List D, PyData.plainAll (D.pys ds) = true
  | [] => rfl
  | d :: ds => by
    unfold D.pys PyData.plainAll
    rw [D.plain d, D.plains ds]
    rfl
end
section
variable {X : Cx}
/-- == of data: room for its depth -/
def rEqP (K : PySem.W.Frag) : R2 := fun x y H Q => ∃ d e, Dp K H x d ∧ Dp K H y e ∧ d.plain = true ∧ e.plain = true ∧ min d.depth e.depth ≤ 64 ∧ Q (.bl (PyData.eqv d e)) H
def rNeP (K : PySem.W.Frag) : R2 := fun x y H Q => ∃ d e, Dp K H x d ∧ Dp K H y e ∧ d.plain = true ∧ e.plain = true ∧ min d.depth e.depth ≤ 64 ∧ Q (.bl (!PyData.eqv d e)) H
theorem op_eqP (hu : X.A.units + 64 < cLine) : OpR X (compareOp .Eq) (rEqP X.K) := fun pins s σ H x y v u Q I rx ry ⟨d, e, hd, he, pd, pe, hm, q⟩ => by
  obtain ⟨as, r1⟩ := Dp.reads I d x v hd rx
  obtain ⟨bs, r2⟩ := Dp.reads I e y u he ry
  exact PySem.SeqAt.eq_plain r1 r2 pd pe (by omega) ⟨.bl _, H, I, rfl, q⟩
theorem op_neP (hu : X.A.units + 64 < cLine) : OpR X (compareOp .NotEq) (rNeP X.K) := fun pins s σ H x y v u Q I rx ry ⟨d, e, hd, he, pd, pe, hm, q⟩ => by
  obtain ⟨as, r1⟩ := Dp.reads I d x v hd rx
  obtain ⟨bs, r2⟩ := Dp.reads I e y u he ry
  exact PySem.SeqAt.ne_plain r1 r2 pd pe (by omega) ⟨.bl _, H, I, rfl, q⟩
end
mutual
theorem D.eqv_self : ∀ d : D, PyData.eqv d.py d.py = true
  | .non => rfl
  | .bl b => by cases b <;> rfl
  | .int i => by unfold D.py PyData.eqv; exact beq_self_eq_true i
  | .str x => by unfold D.py PyData.eqv; exact beq_self_eq_true x
  | .ptr a => rfl
  | .tup ds => by
    unfold D.py PyData.eqv
    exact D.eqvs_self ds
theorem D.eqvs_self : ∀ ds : List D, PyData.eqvAll (D.pys ds) (D.pys ds) = true
  | [] => rfl
  | d :: ds => by
    unfold D.pys PyData.eqvAll
    rw [D.eqv_self d, D.eqvs_self ds]
    rfl
end
section
variable {K : PySem.W.Frag} {ρ : List (Option D)} {H : Hp} {ta tb : TE} {d e : D} {ds : List D}
theorem ev_eqP {b : Bool} (ha : Ev ta ρ H d) (hb : Ev tb ρ H e) (p1 : d.pure = true) (p2 : e.pure = true) (hm : min d.py.depth e.py.depth ≤ 64) (h : PyData.eqv d.py e.py = b) : Ev (tOp (rEqP K) ta tb) ρ H (.bl b) := ev_op ha hb fun x y H1 Q _ t1 t2 q =>
  ⟨d.py, e.py, t1.dp _ _ p1, t2.dp _ _ p2, D.plain d, D.plain e, hm, by rw [h]; exact q _ H1 (exr H1) (.bl _)⟩
theorem ev_neP {b : Bool} (ha : Ev ta ρ H d) (hb : Ev tb ρ H e) (p1 : d.pure = true) (p2 : e.pure = true) (hm : min d.py.depth e.py.depth ≤ 64) (h : PyData.eqv d.py e.py = b) : Ev (tOp (rNeP K) ta tb) ρ H (.bl (!b)) := ev_op ha hb fun x y H1 Q _ t1 t2 q =>
  ⟨d.py, e.py, t1.dp _ _ p1, t2.dp _ _ p2, D.plain d, D.plain e, hm, by rw [h]; exact q _ H1 (exr H1) (.bl _)⟩
end

/-! ### xs.extend(t), t a tuple -/
theorem extend_lt (l b : Addr) (xs ys : Array Value) (n m : Nat) (dd : Option Addr) (sl : Array (Option Value)) (h1 : ¬(!xs.isEmpty && Builtin.List.listTooLong (xs.size + ys.size)) = true) (h2 : xs.size ≤ sizeLine) (h3 : xs.size + ys.size ≤ sizeLine + 1) :
    Meets (Builtin.«list.extend» ⟨[.ref l, .ref b], []⟩) (fun _ R s => s.heap.get? l = some { cls := .type "list", dict := none, data := .seq xs n, slots := #[] } ∧
      s.heap.get? b = some { cls := .type "tuple", dict := dd, data := .seq ys m, slots := sl } ∧ R (.ok (.ret Value.none)) { s with heap := s.heap.update l (Obj.mapSeq fun x => x ++ ys), toks := s.toks }) :=
  .of_wp fun prog w A R s h => by
    obtain ⟨hp, g, d, tk, os⟩ := s
    obtain ⟨hl, hb, h⟩ := h
    have f1 := AutoSeq1.idx_int
    have f2 := AutoSeq1.sub_tuple_tuple
    have f3 := AutoSeq1.sub_list_list
    have f4 := AutoSeq1.sub_tuple_list
    have f5 := AutoSeq1.sub_list_tuple
    have h4 : (xs ++ ys).size ≤ sizeLine + 1 := by
      rw [Array.size_append]
      exact h3
    wp_walk using (wpAny_updateSeq hl rfl (hz := h2) (_hz' := h4)), AutoSeq1.wpAny_loadPart' hl, AutoSeq1.wpAny_loadPart' hb
    exact ⟨_, rfl, h⟩
section
variable {X : Cx}
def rExtendT (K : PySem.W.Frag) : V → List V → Hp → VK → Prop := fun x vs H Q => ∃ l b xs zs, x = .ref l ∧ vs = [.ref b] ∧ H l = some (.lst xs) ∧ SqT K H b zs ∧ xs.length + zs.length ≤ sizeLine ∧ Q .non (upd H l (.lst (xs ++ zs)))
theorem mt_extendT : MtM X "list.extend" (rExtendT X.K) := fun pins s σ H x vs v us Q I rx rv ⟨l, b, xs, zs, ex, evs, hH, hB, hz, q⟩ => by
  subst ex evs
  cases rx
  obtain ⟨u, rfl, ru⟩ := rv.one
  cases ru
  obtain ⟨z, its, n, r, hl, e⟩ := I.lstM hH
  obtain ⟨its2, r2, ⟨⟨cls, dd, data, sl⟩, e2, hc, n2, hd⟩, hz2⟩ := I.tuple hB
  simp only at hc hd
  subst hc hd
  have l2 := r2.length
  have hsz : its.toArray.size + its2.toArray.size ≤ sizeLine := by
    rw [List.size_toArray, List.size_toArray]
    omega
  have hno : ¬ (!its.toArray.isEmpty && Builtin.List.listTooLong (its.toArray.size + its2.toArray.size)) = true := by
    rw [notLongL hsz, Bool.and_false]
    decide
  refine call_meets F.slot_list_extend ⟨_, e, rfl⟩ F.entry_list_extend (F.args_list_extend_2 _ _) (extend_lt l b its.toArray its2.toArray n n2 dd sl hno (by omega) (by omega)) ⟨e, e2, ?_⟩
  exact ⟨.non, _, I.lset (its' := its ++ its2) hH e (by simp) (r.append r2) (by rw [List.length_append]; exact hz), rfl, q⟩
end
section
variable {K : PySem.W.Frag} {ρ : List (Option D)} {H : Hp} {ta te : TE} {ds : List D} {σ : L2.St} {D0 : Ends}
theorem x_extT {p : Addr} {xs : List V} (hp : H p = some (.lst xs)) (hz : xs.length + ds.length < 100000) (En : Hn.Env σ H ρ) (ha : Ev ta ρ H (.ptr p)) (h : Ev te ρ H (.tup ds)) (k : ∀ zs H1, Ex H H1 → Tps H1 zs ds → D0.nx σ (upd H1 p (.lst (xs ++ zs)))) :
    tDrop (tBM K "list" (rExtendT K) ta (tCons te tNil)) D0 σ H := ha σ H _ (exr H) En fun v H1 e1 t1 => by
  rw [t1.invP]
  refine ⟨Or.inl ⟨rfl, xs, SqL.of (e1 _ _ hp)⟩, h σ H1 _ e1 (En.ex e1) fun q H2 e2 t2 => ?_⟩
  obtain ⟨b, zs, rfl, h1, h2⟩ := t2.invT
  exact ⟨p, b, xs, zs, rfl, rfl, e2 _ _ (e1 _ _ hp), SqT.of h1, Evl.sz_of (by rw [h2.1]; omega), k zs H2 (e1.trans e2) h2⟩
end

/-! ### tuple * int, the int at least 1 -/
section
variable {X : Cx}
theorem tup_mul1 (l : Addr) (items : Array Value) (n : Nat) (dd : Option Addr) (sl : Array (Option Value)) (u : Tok) :
    Meets (Builtin.«tuple.__mul__» ⟨[.ref l, .int 1 u], []⟩) (fun _ R s => s.heap.get? l = some { cls := .type "tuple", dict := dd, data := .seq items n, slots := sl } ∧ R (.ok (.ret (Value.ref l))) s) :=
  .of_wp fun prog w A R s h => by
    obtain ⟨hp, g, d, tk, os⟩ := s
    obtain ⟨hl, h⟩ := h
    have f1 := AutoSeq1.idx_int
    have f2 := AutoSeq1.sub_tuple_tuple
    wp_walk using AutoSeq1.wpAny_loadPart' hl
    exact ⟨_, rfl, h⟩
/-- t * 1 is t itself -/
def rRepA (K : PySem.W.Frag) : R2 := fun x y H Q => ∃ l k xs, x = .ref l ∧ y = .int k ∧ SqT K H l xs ∧ xs ≠ [] ∧ 1 ≤ k ∧ k ≤ 1000 ∧ xs.length ≤ 1000 ∧ (k = 1 → Q (.ref l) H) ∧ (k ≠ 1 → ∀ p, H p = none → Q (.ref p) (upd H p (.tup (List.replicate k.toNat xs).flatten)))
theorem op_repA : OpR X (binaryOp .Mult) (rRepA X.K) := fun pins s σ H x y v u Q I rx ry ⟨l, k, xs, ex, ey, hT, hne, h1, h2, hz, q1, q2⟩ => by
  by_cases hk : k = 1
  · subst ex ey hk
    cases rx
    obtain ⟨t, rfl⟩ := ry
    obtain ⟨its, r, ⟨⟨cls, dd, data, sl⟩, ho, hc, n, hd⟩, hs⟩ := I.tuple hT
    simp only at hc hd
    subst hc hd
    have body := call_meets (prog := X.prog) (w := X.w) (A := X.A) (E := X.xe) (s := s) (Q := EP X pins σ Q) F.slot_tuple_mul (show s.TypeIs (.ref l) "tuple" from ⟨_, ho, rfl⟩) F.entry_tuple_mul (F.args_tuple_mul_2 _ _) (tup_mul1 l its.toArray n dd sl t) ⟨ho, ⟨.ref l, H, I, rfl, q1 rfl⟩⟩
    exact wpAny_binaryOp_repeat_ref (T := "tuple") (U := "int") (by decide) ⟨_, ho, rfl⟩ (fun s' => typeIs_int s' 1 t) noFill_tuple_mul F.fills_int_mul F.slot_int_rmul repeat_tuple F.slot_int_index.lookup
      (call_meets F.slot_int_rmul (typeIs_int s 1 t) F.entry_int_rmul (F.args_int_rmul_2 _ _) (int_rmul_tuple 1 t l its.toArray n dd sl) ⟨ho, rfl, ⟨_, ho, rfl⟩, body⟩)
  · exact op_repT pins s σ H x y v u Q I rx ry ⟨l, k, xs, ex, ey, hT, hne, by omega, h2, hz, q2 hk⟩
end
section
variable {K : PySem.W.Frag} {ρ : List (Option D)} {H : Hp} {ta tb : TE} {d e : D} {ds : List D}
theorem rep_one {α : Type} (k : Nat) (x : α) : (List.replicate k [x]).flatten = List.replicate k x := by
  induction k with
  | zero => rfl
  | succ k ih => rw [List.replicate_succ, List.flatten_cons, ih, List.replicate_succ]; rfl
/-- (x,) * k -/
theorem ev_rep {k : Int} (ha : Ev ta ρ H (.tup [d])) (hb : Ev tb ρ H (.int k)) (h1 : 1 ≤ k) (h2 : k ≤ 1000) : Ev (tOp (rRepA K) ta tb) ρ H (.tup (List.replicate k.toNat d)) := ev_op ha hb fun x y H1 Q _ t1 t2 q => by
  obtain ⟨a, xs, rfl, k1, k2⟩ := t1.invT
  obtain ⟨v, ys, rfl, k3, k4⟩ := k2.inv
  obtain rfl := k4.inv0
  refine ⟨a, k, [v], rfl, t2.invI, SqT.of k1, by simp, h1, h2, by simp, fun e => ?_, fun _ p hp => ?_⟩
  · subst e
    exact q _ H1 (exr H1) t1
  · rw [rep_one]
    refine q _ _ (Evl.Ex.new hp) (Tp.laid hp ⟨by simp, fun i w f e1 e2 => ?_⟩)
    rw [List.getElem?_replicate] at e1 e2
    split at e1
    · rename_i hi
      rw [if_pos hi] at e2
      cases e1
      cases e2
      exact k3
    · cases e1
end

/-! ### enumerate(t), t a tuple -/
theorem enum_newT (l : Addr) (items : Array Value) (n : Nat) (dct : Option Addr) (sl : Array (Option Value)) :
    Meets (Builtin.«enumerate.__new__» ⟨[.type "enumerate", .ref l], []⟩) (fun _ R s => s.heap.get? l = some { cls := .type "tuple", dict := dct, data := .seq items n, slots := sl } ∧
      R (.ok (.ret (.ref (s.heap.push { cls := .type "tuple_iterator", data := .fields #[.ref l, .int 0 0] }).objs.size)))
        { s with heap := (s.heap.push { cls := .type "tuple_iterator", data := .fields #[.ref l, .int 0 0] }).push { cls := .type "enumerate", data := .fields #[.none, .bool false, .ref s.heap.objs.size, rawInt 0, .none, .none] } }) :=
  .of_wp fun prog w A R s h => by
    obtain ⟨hp, g, d, tk, os⟩ := s
    obtain ⟨hl, h⟩ := h
    have f1 := sub_enumerate
    have hL : Heap.IsTuple (Shared.heap ⟨hp, g, d, tk, os⟩) l items := ⟨_, hl, rfl, n, rfl⟩
    wp_walk using AutoSeq1.wpAny_loadPart' hl
    refine wpAny_stack_any fun st => wpAny_pure ?_
    split
    · rename_i c _ _ _ _ _
      cases (c == Value.type "enumerate")
      all_goals
        wp_walk using AutoSeq1.wpAny_loadPart' hl, wpAny_pyIter_tuple hL
        exact ⟨_, rfl, h⟩
    · wp_walk using AutoSeq1.wpAny_loadPart' hl, wpAny_pyIter_tuple hL
      exact ⟨_, rfl, h⟩
section
variable {prog : Program} {w : World} {A : Around} {E : Value → Shared → Prop} {s : Shared}
theorem call_enumT {l : Addr} {items : Array Value} {Q : Value → Shared → Prop} (hL : s.heap.IsTuple l items)
    (h : ∀ h', IsEnum h' (s.heap.objs.size + 1) s.heap.objs.size 0 .none → h'.IsTupleIter s.heap.objs.size l 0 → (∀ b o, s.heap.get? b = some o → h'.get? b = some o) → Q (.ref (s.heap.objs.size + 1)) { s with heap := h' }) :
    wpAny (model prog w) A (call (.type "enumerate") [.ref l]) Q E s := by
  obtain ⟨⟨c, dct, dt, sl⟩, hl, hc, n, hd⟩ := hL
  simp only at hc hd
  subst hc hd
  have hz : (s.heap.push { cls := .type "tuple_iterator", data := .fields #[.ref l, .int 0 0] }).objs.size = s.heap.objs.size + 1 := Heap.size_push ..
  have he : IsEnum ((s.heap.push { cls := .type "tuple_iterator", data := .fields #[.ref l, .int 0 0] }).push { cls := .type "enumerate", data := .fields #[.none, .bool false, .ref s.heap.objs.size, rawInt 0, .none, .none] }) (s.heap.objs.size + 1) s.heap.objs.size 0 .none := by
    rw [← hz]
    exact Heap.get?_push_size _ rfl
  have fin := h _ he ⟨_, Heap.get?_push_of_some _ (Heap.get?_push_size _ rfl), rfl, rfl⟩ fun b o x => Heap.get?_push_of_some _ (Heap.get?_push_of_some _ x)
  refine callType_new F.called_enumerate (by decide) (F.typeCall_enumerate_1 _) (F.newCall_enumerate_1 _) (fun obj => F.args_object_init_2 obj _) F.entry_enumerate_new (enum_newT l items n dct sl) ⟨hl, ?_⟩
  show _ ∧ _
  rw [hz]
  exact ⟨⟨_, he, rfl⟩, fin⟩
end
/-- the tuple at a, each item in a new pair -/
def Iet (K : PySem.W.Frag) (a : Addr) : It :=
  ⟨fun i H => ∃ (xs : List V) (x : V), SqT K H a xs ∧ xs[i]? = some x, fun i H v H' => ∃ T x, v = .ref T ∧ H T = none ∧ H' = upd H T (.tup [.int (i : Nat), x]) ∧ ∀ xs, SqT K H a xs → xs[i]? = some x, fun i H => ∃ xs : List V, SqT K H a xs ∧ xs.length = i⟩
theorem turn_enumT {P : Program} {w : World} {K : PySem.W.Frag} {elts : List Expr} {kk : Nat} {tpos : Pos} (a e it : Addr) (hai : a ≠ it) (hae : a ≠ e) :
    Turn P w K (.Tuple elts kk tpos) (Iet K a) [e, it] e (fun i h => (∃ old, IsEnum h e it ((i : Nat) : Int) old) ∧ h.IsTupleIter it a i ∧ e ≠ it) where
  mem := List.mem_cons_self
  obj := fun i h st b hb => by
    obtain ⟨⟨old, he⟩, ⟨o, ho, hc, hd⟩, _⟩ := st
    rcases List.mem_cons.mp hb with z | z
    · rw [z]
      exact ⟨_, he, fun v q => nomatch q⟩
    · rw [List.mem_singleton.mp z]
      exact ⟨o, ho, fun v q => by rw [hd] at q; cases q⟩
  keep := fun i h h' st k => by
    obtain ⟨⟨old, he⟩, hi, hne⟩ := st
    exact ⟨⟨old, k e List.mem_cons_self _ he⟩, hi.at fun o q => k it (List.mem_cons_of_mem _ List.mem_cons_self) o q, hne⟩
  item := by
    intro X hP hw hK hc i pins s σ H E I hf st hg
    subst hP hw hK
    obtain ⟨⟨old, he⟩, hit, hne⟩ := st
    obtain ⟨xs, x, hq, hx⟩ := hg
    obtain ⟨jts, rv, p, hz⟩ := I.tuple hq
    obtain ⟨u, hu, ru⟩ := rv.get hx
    have hlt : i < jts.toArray.size := by
      have := (List.getElem?_eq_some_iff.mp hu).1
      simpa using this
    have hel : e < s.heap.objs.size := Heap.lt_size he
    have hil : it < s.heap.objs.size := by
      obtain ⟨_, q, _⟩ := id hit
      exact Heap.lt_size q
    have hd : X.A.in1.handled = none := I.ok.hd hc
    refine wpAny_pyNext_enum_itemD (Draws.tuple hd it a hai jts.toArray) he ⟨hit, (show s.heap.IsTuple a jts.toArray from p)⟩ hlt hne (by simp [hne]; exact fun z => hae z.symm) fun u' h' tk hu' ho hit' hT hsz hk => ?_
    have eu : u' = u := by
      have z : jts[i]? = some u' := by simpa using hu'
      rw [hu] at z
      exact (Option.some.inj z).symm
    subst eu
    refine ⟨_, rfl, wpAny_letOwnedTupleGo_enum (s := { s with heap := h', toks := tk + 1 }) ho fun h'' he' sb => ?_⟩
    have hT2 : h''.get? s.heap.objs.size = some { cls := .type "tuple", data := .seq #[.int i tk, u'] } := (sb.2 _ (Nat.ne_of_gt hel)).trans hT
    have new : ObjOk X.prog X.w (upd H s.heap.objs.size (.tup [.int (i : Nat), x])) h'' s.heap.objs.size (.tup [.int (i : Nat), x]) :=
      ⟨by show 2 ≤ sizeLine; decide, [.int i tk, u'], .cons ⟨_, rfl⟩ (.cons ru .nil), ⟨_, hT2, rfl, _, rfl⟩⟩
    have J := I.turnedNew (t' := tk + 1) (ch := [e, it]) (fun b ob hb q => (sb.2 b fun z => hb (by simp [z])).trans (hk b ob (fun z => hb (by simp [z])) (fun z => hb (by simp [z])) q)) hf (Nat.le_refl _) new
    refine ⟨.ref s.heap.objs.size, _, J, rfl, ⟨_, x, rfl, I.hok.fresh (Nat.le_refl _), rfl, fun ys hy => by rw [I.tuple_inj hy hq]; exact hx⟩, ⟨⟨u', ?_⟩, hit'.1.at fun o q => (sb.2 it (Ne.symm hne)).trans q, hne⟩, fun b hb => ?_⟩
    · have e1 : ((i + 1 : Nat) : Int) = (i : Int) + 1 := by omega
      rw [e1]
      exact he'
    · have hb' : b < s.heap.objs.size := by
        rcases List.mem_cons.mp hb with z | z
        · rw [z]; exact hel
        · rw [List.mem_singleton.mp z]; exact hil
      rw [upd_ne (Nat.ne_of_lt hb')]
      exact (hf b hb).1
  done := by
    intro X hP hw hK hc i pins s σ H E I hf st hg
    subst hP hw hK
    obtain ⟨⟨old, he⟩, hit, hne⟩ := st
    obtain ⟨xs, hq, hx⟩ := hg
    obtain ⟨jts, rv, p, hz⟩ := I.tuple hq
    have hd : X.A.in1.handled = none := I.ok.hd hc
    have hl := rv.length
    have hn : jts.toArray.size = i := by
      rw [List.size_toArray]
      omega
    subst hn
    obtain ⟨f0, f1, f2, f3, f4, f5⟩ := hf it (List.mem_cons_of_mem _ List.mem_cons_self)
    exact wpAny_pyNext_enum_endD (Draws.tuple hd it a hai jts.toArray) he ⟨hit, (show s.heap.IsTuple a jts.toArray from p)⟩ fun h' eb => ⟨rfl, I.turned (t' := s.toks) (fun b o hb q => eb b o hb q) f0 f1 f3 f4 f5⟩
  self := fun A i s Q E st h => by
    obtain ⟨⟨old, he⟩, _⟩ := st
    exact wpAny_pyIter_enum he h
def iEnumT (K : PySem.W.Frag) (ta : TA) : TI := fun σ H R => ta σ H fun vs H1 => ∃ a xs, vs = [.ref a] ∧ SqT K H1 a xs ∧ R (Iet K a) H1
theorem pi_enumT {X : Cx} {e : Expr} {ta : TA} {p pos tpos : Pos} {elts : List Expr} {kk : Nat} (hg : Gl X "enumerate") (hm : X.mg "enumerate" = none) (ha : PA X [e] ta) (hs : starEach [e] X.env = [(false, eval e X.env)] := by rfl) :
    PI X (.Tuple elts kk tpos) (.Call (.Name "enumerate" p) [e] [] pos) (iEnumT X.K ta) := ⟨fun pins s σ H R I h => by
  refine Call_ (ld_blt I hg hm boot_enumerate (PyProof.Rows.callWith_type1 (thn (ha.run pos pins s σ H _ I h) fun us s1 ⟨vs, H1, I1, r1, a, xs, ex, hq, q⟩ => ?_) hs rfl))
  subst ex
  cases r1 with
  | cons r rr =>
    cases rr
    cases r
    obtain ⟨its, rv, p', hz⟩ := I1.tuple hq
    have la : a < s1.heap.objs.size := p'.lt
    refine call_enumT (show s1.heap.IsTuple a its.toArray from p') fun h' he hit hk => wpAny_pyIter_enum he ?_
    refine ⟨s1.heap.objs.size + 1, [s1.heap.objs.size + 1, s1.heap.objs.size], _, _, H1, rfl, I1.kept (t' := s1.toks) hk, turn_enumT a (s1.heap.objs.size + 1) s1.heap.objs.size (Nat.ne_of_lt la) (Nat.ne_of_lt (Nat.lt_succ_of_lt la)), ⟨⟨.none, he⟩, hit, Nat.succ_ne_self _⟩, fun b hb => ?_, q⟩
    have hle : s1.heap.objs.size ≤ b := by
      rcases List.mem_cons.mp hb with z | z
      · rw [z]; exact Nat.le_succ _
      · rw [List.mem_singleton.mp z]; exact Nat.le_refl _
    exact I1.fpOk hle (I1.hok.fresh hle)⟩
theorem walk_enumT {K : PySem.W.Frag} {a : Addr} {xs : List V} : Walk (Iet K a) xs.length (fun H => SqT K H a xs) (YPair (fun i => some (.int (i : Nat))) (fun i => xs[i]?)) :=
  ⟨fun i _ hi q => ⟨xs, xs[i], q, by simp [hi]⟩, fun _ q => ⟨xs, q, rfl⟩, fun i H x H' _ q ⟨T, y, e1, e2, e3, e4⟩ => ⟨T, .int (i : Nat), y, e1, e2, e3, rfl, e4 xs q⟩⟩
/-- the items with their numbers -/
def numbered : Nat → List D → List D
  | _, [] => []
  | k, d :: ds => .tup [.int (k : Nat), d] :: numbered (k + 1) ds
theorem numbered_get : ∀ (k : Nat) (ds : List D) (i : Nat), (numbered k ds)[i]? = ds[i]?.map fun d => .tup [.int ((k + i : Nat) : Int), d]
  | _, [], i => by simp [numbered]
  | k, d :: ds, 0 => by simp [numbered]
  | k, d :: ds, i + 1 => by
    show (numbered (k + 1) ds)[i]? = _
    rw [numbered_get (k + 1) ds i]
    have e : k + 1 + i = k + (i + 1) := by omega
    rw [e]
    rfl
theorem numbered_length : ∀ (k : Nat) (ds : List D), (numbered k ds).length = ds.length
  | _, [] => rfl
  | k, _ :: ds => congrArg (· + 1) (numbered_length (k + 1) ds)
section
variable {K : PySem.W.Frag} {ρ : List (Option D)} {H : Hp} {te : TE} {ds : List D}
theorem src_pairs {H2 : Hp} {i : Nat} {H H' : Hp} {x : V} {d : D} {xs : List V} (t : Tps H2 xs ds) (hd : (numbered 0 ds)[i]? = some d) (e : Ex H2 H) (y : YPair (fun i => some (.int (i : Nat))) (fun i => xs[i]?) i H x H') : Ex H H' ∧ Tp H' x d := by
  obtain ⟨T, a, b, rfl, hT, rfl, ea, eb⟩ := y
  cases ea
  rw [numbered_get, Nat.zero_add] at hd
  cases h : ds[i]? with
  | none => rw [h] at hd; cases hd
  | some z =>
    rw [h] at hd
    cases hd
    refine ⟨Evl.Ex.new hT, Tp.laid hT (Tps.cons (.int _) (Tps.cons ?_ Tps.nil))⟩
    exact (t.2 i b z eb h).ex e
theorem ei_enumT (h : Ev te ρ H (.tup ds)) : EvI (iEnumT K (tCons te tNil)) ρ H (numbered 0 ds) := fun σ H1 R a En q => h σ H1 _ a En fun v H2 e2 t2 => by
  obtain ⟨p, xs, rfl, h1, h2⟩ := t2.invT
  refine ⟨p, xs, rfl, SqT.of h1, q _ H2 e2 ⟨_, _, (by rw [numbered_length, ← h2.1]; exact walk_enumT (K := K) (a := p) (xs := xs)), fun H' e => SqT.of (e _ _ h1), fun i H x H' d hd e y => src_pairs h2 hd e y⟩⟩
theorem ei_enumN (h : EvL te ρ H ds) : EvI (iEnum K (tCons te tNil)) ρ H (numbered 0 ds) := fun σ H1 R a En q => h σ H1 _ a En fun p H2 hp e2 t2 => by
  obtain ⟨xs, h1, h2⟩ := t2
  refine ⟨p, xs, rfl, SqL.of h1, q _ H2 e2 ⟨_, _, (by rw [numbered_length, ← h2.1]; exact walk_enum (K := K) (a := p) (xs := xs)), fun H' e => SqL.of (e _ _ h1), fun i H x H' d hd e y => src_pairs h2 hd e y⟩⟩
end
end Hn


/-! sorted of pairs (number, ()); a dict whose keys are nested tuples, made once and read. -/
namespace Hn
open PySem PySem.Spec PyProof.Rows L2

/-! ### sorted([(n, ()), ..]) -/
def pl (n : Int) : D := .tup [.int n, .tup []]
def plPy (n : Int) : PyData := .tuple [.int n, .tuple []]
theorem le_pl : PySem.W.dataLe false plPy = fun a b => decide (a ≤ b) := by
  funext a b
  rw [PySem.W.dataLe_eq]
  show (!PySem.W.dataLt (plPy b) (plPy a)) = decide (a ≤ b)
  unfold plPy
  rw [PySem.W.dataLt_pair (by simp [PySem.W.alike]) (by simp [PySem.W.alike, PySem.W.alikeAll]), PySem.W.dataLt_int]
  have e : PyData.eqv (.int b) (.int a) = (b == a) := by simp only [PyData.eqv]
  have e2 : PyData.eqv (.tuple []) (.tuple []) = true := by simp only [PyData.eqv, PyData.eqvAll]
  rw [e, e2]
  by_cases h : b = a
  · subst h
    simp
  · have h' : (b == a) = false := beq_eq_false_iff_ne.mpr h
    rw [h']
    by_cases h2 : b < a
    · have h3 : ¬ a ≤ b := by omega
      simp [h2, h3]
    · have h3 : a ≤ b := by omega
      simp [h2, h3]
theorem each_pl {X : Cx} {pins : List (Addr × Obj)} {s : Shared} {σ : L2.St} {H : Hp} (I : Inv X pins σ H s) : ∀ (ns : List Int) (xs : List V) (its : List Value), Vals xs its → Tps H xs (ns.map pl) →
    PySem.W.EachIs (fun v n => ∃ x, RelV x v ∧ Tp H x (pl n)) its ns ∧ PySem.W.EachIs (fun v n => ∃ as, Reads s.heap v (plPy n) as) its ns
  | [], xs, its, r, t => by
    obtain rfl := t.inv0
    cases r
    exact ⟨.nil, .nil⟩
  | n :: ns, xs, its, r, t => by
    obtain ⟨v, ys, rfl, h1, h2⟩ := Tps.inv (d := pl n) (ds := ns.map pl) t
    cases r with
    | cons rv rr =>
      obtain ⟨e1, e2⟩ := each_pl I ns ys _ rr h2
      have hp : (pl n).pure = true := by simp [pl, D.pure, D.pures]
      obtain ⟨as, hr⟩ := Dp.reads I (pl n).py v _ (h1.dp (pl n) v hp) rv
      have e : (pl n).py = plPy n := by simp [pl, plPy, D.py, D.pys]
      rw [e] at hr
      exact ⟨.cons ⟨v, rv, h1⟩ e1, .cons ⟨as, hr⟩ e2⟩
theorem each_back {H : Hp} : ∀ (ns : List Int) (out : List Value), PySem.W.EachIs (fun v n => ∃ x, RelV x v ∧ Tp H x (pl n)) out ns → ∃ ys, Vals ys out ∧ Tps H ys (ns.map pl)
  | _, _, .nil => ⟨[], .nil, Tps.nil⟩
  | _, _, .cons ⟨x, r, t⟩ h => by
    obtain ⟨ys, h1, h2⟩ := each_back _ _ h
    exact ⟨x :: ys, .cons r h1, Tps.cons t h2⟩
def rSortedP : List V → Hp → VK → Prop := fun vs H Q => ∃ (a : Addr) (ns : List Int), vs = [V.ref a] ∧ Lst H a (ns.map pl) ∧ ns.length ≤ 1000 ∧ ∀ p ys, H p = none → Tps H ys ((sortI ns).map pl) → Q (.ref p) (upd H p (.lst ys))
theorem cr_sortedP {X : Cx} (hu : X.A.units + 64 < cLine) : CallR X (.builtin "sorted") rSortedP := fun pins s σ H vs us Q I r ⟨a, ns, ev, ⟨xs, ha, ht⟩, hl, q⟩ => by
  subst ev
  obtain ⟨its, rv, pls, hz⟩ := I.list (SqL.of ha)
  rw [Vals.ref1 r]
  obtain ⟨e1, e2⟩ := each_pl I ns xs its rv ht
  have hsz : ns.length ≤ sizeLine := Nat.le_trans hl (by decide)
  refine PySem.W.sorted_data (bs := ns) (enc := plPy) pls.isList e1 e2 (PySem.W.AllAlike.of fun b b' => by simp [plPy, PySem.W.alike, PySem.W.alikeAll]) (PySem.W.Sortable.tuples fun b => ⟨_, _, rfl⟩) hsz (fun b _ => by simp [plPy, PyData.depth, PyData.depthAll]; omega) fun out ho eo => ?_
  rw [le_pl] at eo
  obtain ⟨ys, k1, k2⟩ := each_back _ _ eo
  obtain ⟨ep, he⟩ := PyProof.Rows.sortedAll_at s.heap its out.toArray
  have hlen : ys.length ≤ sizeLine := by
    rw [k1.length, ho]
    exact hsz
  exact ⟨.ref _, upd H (s.heap.objs.size + 1) (.lst ys), I.laid (t' := s.toks) (fun _ _ => PyProof.Rows.sortedAll_old) (Nat.le_succ _) ⟨hlen, out, ep, k1, by simpa using he⟩, rfl, q _ ys (I.hok.fresh (Nat.le_succ _)) k2⟩
theorem el_sortedP {ρ : List (Option D)} {H : Hp} {te : TE} {ns : List Int} (h : EvL te ρ H (ns.map pl)) (hl : ns.length ≤ 1000) : EvL (tCB rSortedP (tCons te tNil)) ρ H ((sortI ns).map pl) := el_cn h fun p H1 Q t q =>
  ⟨p, ns, rfl, t, hl, fun r ys hr k => q r _ hr (Evl.Ex.new hr) ⟨ys, upd_same, k.mono (TK.new hr)⟩⟩

/-! ### a dict of nested keys -/
mutual
def D.key : D → NestedKey
  | .non => .none
  | .bl b => .num (if b = true then 1 else 0)
  | .int i => .num i
  | .str x => .text x
  | .tup xs => .tup (D.keys xs)
  | .ptr _ => .none
def D.keys : List D → List NestedKey
  | [] => []
  | d :: ds => d.key :: D.keys ds
end
mutual
theorem Tp.nested {X : Cx} {pins : List (Addr × Obj)} {s : Shared} {σ : L2.St} {H : Hp} (I : Inv X pins σ H s) : ∀ (d : D) (v : V) (u : Value), d.pure = true → Tp H v d → RelV v u → NestedIs s.heap d.key u
  | .non, v, u, _, t, r => by cases t; cases r; exact .none
  | .bl b, v, u, _, t, r => by cases t; cases r; exact .bool rfl
  | .int i, v, u, _, t, r => by cases t; obtain ⟨t, rfl⟩ := r; exact .int i t
  | .str x, v, u, _, t, r => by cases t; obtain ⟨t, rfl⟩ := r; exact .text x t
  | .ptr a, v, u, p, _, _ => by unfold D.pure at p; cases p
  | .tup ds, v, u, p, t, r => by
    obtain ⟨a, xs, rfl, h1, h2⟩ := t.invT
    cases r
    obtain ⟨its, rv, ⟨o, ho, hc, n, hd⟩, _⟩ := I.tuple (SqT.of h1)
    unfold D.pure at p
    exact .tup ho hc hd (by simpa using Tps.nested I ds xs its p h2 rv)
theorem Tps.nested {X : Cx} {pins : List (Addr × Obj)} {s : Shared} {σ : L2.St} {H : Hp} (I : Inv X pins σ H s) : ∀ (ds : List D) (vs : List V) (us : List Value), D.pures ds = true → Tps H vs ds → Vals vs us → NestedAll s.heap (D.keys ds) us
  | [], vs, us, _, t, r => by
    obtain rfl := t.inv0
    cases r
    exact .nil
  | d :: ds, vs, us, p, t, r => by
    obtain ⟨v, ys, rfl, h1, h2⟩ := t.inv
    cases r with
    | cons r1 r2 =>
      unfold D.pures at p
      rw [Bool.and_eq_true] at p
      exact .cons (Tp.nested I d v _ p.1 h1 r1) (Tps.nested I ds ys _ p.2 h2 r2)
end
/-- what may be a key here -/
def D.okKey (d : D) : Prop := d.pure = true ∧ d.key.depth ≤ 8 ∧ ∃ ds, d = .tup ds
/-- a dict from nested keys to numbers at p: known to the object, never written -/
def DicN (P : Program) (w : World) (H : Hp) (p : Addr) (kvs : List (D × Int)) : Prop :=
  ∃ (od : Obj) (es : Array DictEntry) (ep : Nat) (xs : List (D × Addr × Int × Tok)), H p = some (.frz od (.own p)) ∧ (p == sysModules) = false ∧ od.ExactDict ∧ od.data = .dict es ep ∧
    es.toList = xs.map (fun x => entryOfKey (nestedKind P w) (x.1.key, x.2.1, Value.int x.2.2.1 x.2.2.2)) ∧ (∀ x ∈ xs, x.1.okKey ∧ Tp H (.ref x.2.1) x.1) ∧ (xs.map fun x => x.1.key).Nodup ∧ xs.map (fun x => (x.1, x.2.2.1)) = kvs
theorem DicN.ex {P : Program} {w : World} {H H' : Hp} {p : Addr} {kvs : List (D × Int)} (h : DicN P w H p kvs) (e : Ex H H') : DicN P w H' p kvs := by
  obtain ⟨od, es, ep, xs, h1, h2, h3, h4, h5, h6, h7, h8⟩ := h
  exact ⟨od, es, ep, xs, e _ _ h1, h2, h3, h4, h5, fun x hx => ⟨(h6 x hx).1, (h6 x hx).2.ex e⟩, h7, h8⟩
section
variable {X : Cx} {pins : List (Addr × Obj)} {s : Shared} {σ : L2.St} {H : Hp} {p : Addr} {kvs : List (D × Int)}
theorem DicN.keyed (I : Inv X pins σ H s) (h : DicN X.prog X.w H p kvs) : ∃ kvs' : List (NestedKey × Value), s.heap.DictKeyed (nestedKind X.prog X.w) p kvs' ∧ (kvs'.map (·.1)).Nodup ∧ ∀ d n, (d, n) ∈ kvs → ∃ t, (d.key, Value.int n t) ∈ kvs' := by
  obtain ⟨od, es, ep, xs, h1, h2, h3, h4, h5, h6, h7, h8⟩ := h
  obtain ⟨ho, _⟩ := I.hok p _ h1
  let ys : List (NestedKey × Addr × Value) := xs.map fun x => (x.1.key, x.2.1, Value.int x.2.2.1 x.2.2.2)
  have hn : (ys.map (·.1)).Nodup := by
    show ((xs.map _).map _).Nodup
    rw [List.map_map]
    exact h7
  have hm : s.heap.DictOfH (nestedKind X.prog X.w) p ys := ⟨od, es, ep, ho, h3, h4, by rw [h5]; show _ = (xs.map _).map _; rw [List.map_map]; rfl, fun y hy => by
    obtain ⟨x, hx, rfl⟩ := List.mem_map.mp hy
    exact ⟨Tp.nested I x.1 _ _ (h6 x hx).1.1 (h6 x hx).2 rfl, (h6 x hx).1.2.1⟩, hn⟩
  refine ⟨pairsH ys, ⟨ys, hm, rfl⟩, ?_, fun d n hd => ?_⟩
  · have e : (pairsH ys).map (·.1) = ys.map (·.1) := by
      unfold pairsH
      rw [List.map_map]
      rfl
    rw [e]
    exact hn
  · rw [← h8] at hd
    obtain ⟨x, hx, e⟩ := List.mem_map.mp hd
    cases e
    exact ⟨x.2.2.2, List.mem_map.mpr ⟨(x.1.key, x.2.1, Value.int x.2.2.1 x.2.2.2), List.mem_map.mpr ⟨x, hx, rfl⟩, rfl⟩⟩
/-- k not in d, where it is in -/
def rHasN (P : Program) (w : World) : R2 := fun x y H Q => ∃ a p d n kvs, x = .ref a ∧ y = .ref p ∧ Tp H (.ref a) d ∧ d.okKey ∧ DicN P w H p kvs ∧ (d, n) ∈ kvs ∧ Q (.bl false) H
theorem op_hasN (hu : X.A.units + 64 < cLine) : OpR X (compareOp .NotIn) (rHasN X.prog X.w) := fun pins s σ H x y v u Q I rx ry ⟨a, p, d, n, kvs, ex, ey, t, ok, hD, hm, q⟩ => by
  subst ex ey
  cases rx
  cases ry
  obtain ⟨kvs', hK, hn, hmm⟩ := hD.keyed I
  obtain ⟨tk, hmem⟩ := hmm d n hm
  obtain ⟨_, _, _, _, _, hsys, _⟩ := hD
  have hv := valueAt_of_mem hn hmem
  refine notIn_keyed (knd := nestedKind X.prog X.w) (k := d.key) (by show X.A.units + 1 + 8 < cLine; omega) ⟨Tp.nested I d _ _ ok.1 t rfl, ok.2.1⟩ hsys hK ?_
  rw [hv]
  exact ⟨.bl false, H, I.tok _, rfl, q⟩
/-- d[k] -/
def rGetN (P : Program) (w : World) : R2 := fun y x H Q => ∃ a p d n kvs, x = .ref a ∧ y = .ref p ∧ Tp H (.ref a) d ∧ d.okKey ∧ DicN P w H p kvs ∧ (d, n) ∈ kvs ∧ Q (.int n) H
theorem pe_getN {o i : Expr} {td ti : TE} {pos : Pos} (hu : X.A.units + 64 < cLine) (ho : PE X o td) (hi : PE X i ti) (hs : NoSl i) : PE X (.Subscript o i pos) (tOp (rGetN X.prog X.w) td ti) := ⟨fun pins s σ H Q I h => by
  refine subD_of PySem.F.slot_dict_getitem.lookup hs (thn (ho.run pins s σ H _ I h) fun u s1 ⟨y, H1, I1, ry, q1⟩ => thn (hi.run pins s1 σ H1 _ I1 q1) fun v s2 ⟨x, H2, I2, rx, a, p, d, n, kvs, ex, ey, t, ok, hD, hm, q⟩ => ?_)
  subst ex ey
  cases rx
  cases ry
  obtain ⟨kvs', hK, hn, hmm⟩ := hD.keyed I2
  obtain ⟨tk, hmem⟩ := hmm d n hm
  exact ⟨hK.typeIs, getItem_keyed (knd := nestedKind X.prog X.w) (k := d.key) (by show X.A.units + 1 + 8 < cLine; omega) ⟨Tp.nested I2 d _ _ ok.1 t rfl, ok.2.1⟩ hK (valueAt_of_mem hn hmem) ⟨.int n, H2, I2.tok _, ⟨tk, rfl⟩, q⟩⟩⟩
theorem stored_nd : ∀ (ps acc : List (NestedKey × Addr × Value)), ((acc ++ ps).map (·.1)).Nodup → storedAllH acc ps = acc ++ ps
  | [], acc, _ => by simp [storedAllH]
  | p :: ps, acc, h => by
    have hn : atKey acc p.1 = none := by
      unfold atKey
      rw [Option.map_eq_none_iff, List.find?_eq_none]
      intro x hx hk
      have e : x.1 = p.1 := of_decide_eq_true hk
      rw [List.map_append, List.map_cons] at h
      exact (List.nodup_append.mp h).2.2 x.1 (List.mem_map.mpr ⟨x, hx, rfl⟩) p.1 List.mem_cons_self e
    have e : storedH acc p.1 p.2.1 p.2.2 = acc ++ [p] := storedH_new hn _ _
    show storedAllH (storedH acc p.1 p.2.1 p.2.2) ps = _
    rw [e, stored_nd ps (acc ++ [p]) (by rw [List.append_assoc]; exact h), List.append_assoc]
    rfl
/-- the pairs of a list, by places -/
theorem pairs_of : ∀ (kvs : List (D × Int)) (vs : List V) (its : List Value), Vals vs its → Tps H vs (kvs.map fun kv => .tup [kv.1, .int kv.2]) → Inv X pins σ H s → (∀ kv ∈ kvs, kv.1.okKey) →
    ∃ xs : List (Addr × D × Addr × Int × Tok), its = xs.map (fun x => Value.ref x.1) ∧ (∀ x ∈ xs, s.heap.IsTuple x.1 #[.ref x.2.2.1, .int x.2.2.2.1 x.2.2.2.2] ∧ x.2.1.okKey ∧ Tp H (.ref x.2.2.1) x.2.1) ∧ xs.map (fun x => (x.2.1, x.2.2.2.1)) = kvs
  | [], vs, its, r, t, _, _ => by
    obtain rfl := t.inv0
    cases r
    exact ⟨[], rfl, fun x hx => absurd hx List.not_mem_nil, rfl⟩
  | kv :: kvs, vs, its, r, t, I, ok => by
    obtain ⟨v, ys, rfl, h1, h2⟩ := Tps.inv (d := .tup [kv.1, .int kv.2]) (ds := kvs.map fun kv => .tup [kv.1, .int kv.2]) t
    cases r with
    | cons r1 r2 =>
      obtain ⟨xs, e1, e2, e3⟩ := pairs_of kvs ys _ r2 h2 I fun z hz => ok z (List.mem_cons_of_mem _ hz)
      obtain ⟨a, zs, rfl, k1, k2⟩ := h1.invT
      obtain ⟨x, ws, rfl, k3, k4⟩ := k2.inv
      obtain ⟨y, us, rfl, k5, k6⟩ := k4.inv
      obtain rfl := k6.inv0
      have hk := ok kv List.mem_cons_self
      obtain ⟨ds, hds⟩ := hk.2.2
      have k3' := k3
      rw [hds] at k3'
      obtain ⟨b, _, rfl, _, _⟩ := k3'.invT
      obtain rfl := k5.invI
      cases r1
      obtain ⟨jts, rj, pj, _⟩ := I.tuple (SqT.of k1)
      cases rj with
      | cons q1 q2 =>
        cases q2 with
        | cons q3 q4 =>
          cases q4
          cases q1
          obtain ⟨tk, rfl⟩ := q3
          refine ⟨(a, kv.1, b, kv.2, tk) :: xs, by rw [e1]; rfl, fun x hx => ?_, by rw [List.map_cons, e3]⟩
          rcases List.mem_cons.mp hx with rfl | hx
          · exact ⟨pj, hk, k3⟩
          · exact e2 x hx
def rDicN (P : Program) (w : World) : List V → Hp → VK → Prop := fun vs H Q => ∃ (a : Addr) (kvs : List (D × Int)), vs = [V.ref a] ∧ Lst H a (kvs.map fun kv => .tup [kv.1, .int kv.2]) ∧ (∀ kv ∈ kvs, kv.1.okKey) ∧ (kvs.map fun kv => kv.1.key).Nodup ∧ kvs.length ≤ 1000 ∧
  ∀ p H', H p = none → Ex H H' → DicN P w H' p kvs → Q (.ref p) H'
theorem call_dicN (hu : X.A.units + 64 < cLine) (hc : X.calm = true) : CallR X (.type "dict") (rDicN X.prog X.w) := fun pins s σ H vs us Q I r ⟨a, kvs, ev, ⟨xs, ha, ht⟩, ok, nd, hl, q⟩ => by
  subst ev
  obtain ⟨its, rv, ⟨o, n, ho, ho1, ho2, ho3⟩, hz⟩ := I.list (SqL.of ha)
  rw [Vals.ref1 r]
  obtain ⟨zs, z1, z2, z3⟩ := pairs_of kvs xs its rv ht I ok
  let ps : List (NestedKey × Addr × Value) := zs.map fun x => (x.2.1.key, x.2.2.1, Value.int x.2.2.2.1 x.2.2.2.2)
  let qs : List (Value × Value) := zs.map fun x => (Value.ref x.2.2.1, Value.int x.2.2.2.1 x.2.2.2.2)
  have lz : zs.length = kvs.length := by rw [← z3, List.length_map]
  have lq : qs.length = zs.length := List.length_map _
  have lp : ps.length = zs.length := List.length_map _
  have hPI : PairItems s.heap its.toArray (fun j => (zs.map (·.1)).getD j 0) qs := ⟨by rw [List.size_toArray, z1, List.length_map, lq], fun j k v hj => by
    rw [List.getElem?_map] at hj
    cases hzj : zs[j]? with
    | none => rw [hzj] at hj; cases hj
    | some x =>
      rw [hzj] at hj
      cases hj
      have eT : (zs.map (·.1)).getD j 0 = x.1 := by
        rw [List.getD_eq_getElem?_getD, List.getElem?_map, hzj]
        rfl
      dsimp only
      rw [eT]
      refine ⟨?_, .inl (z2 x (List.mem_of_getElem? hzj)).1⟩
      have : its[j]? = some (.ref x.1) := by rw [z1, List.getElem?_map, hzj]; rfl
      simpa using this⟩
  have hn2 : (ps.map (·.1)).Nodup := by
    show ((zs.map _).map _).Nodup
    rw [List.map_map]
    have e : zs.map ((fun x : NestedKey × Addr × Value => x.1) ∘ fun x => (x.2.1.key, x.2.2.1, Value.int x.2.2.2.1 x.2.2.2.2)) = kvs.map fun kv => kv.1.key := by
      rw [← z3, List.map_map]
      rfl
    rw [e]
    exact nd
  have hst : storedAllH [] ps = ps := by
    have := stored_nd ps [] hn2
    rw [this]
    rfl
  refine call_dict_pairsH (knd := nestedKind X.prog X.w) (ps := ps) (PairArg.list a its.toArray (fun j => (zs.map (·.1)).getD j 0) qs) (I.ok.hd hc) (by show X.A.units + 1 + 1 + 8 < cLine; omega) ⟨⟨o, n, ho, ho1, ho2, ho3⟩, hPI⟩ ⟨by rw [lp, lq], fun i key v hrel => ?_⟩ (fun h' hk x hx => ?_) (by rw [lq, lz]; exact Nat.le_trans hl (by decide)) fun h' tk hd' hk => ?_
  · have hrel : qs[i]? = some (key, v) := hrel
    rw [List.getElem?_map] at hrel
    cases hzi : zs[i]? with
    | none => rw [hzi] at hrel; cases hrel
    | some x =>
      rw [hzi] at hrel
      cases hrel
      exact ⟨x.2.1.key, x.2.2.1, by rw [List.getElem?_map, hzi]; rfl, rfl⟩
  · obtain ⟨z, hz', rfl⟩ := List.mem_map.mp hx
    obtain ⟨k1, k2, k3⟩ := z2 z hz'
    refine ⟨NestedIs.at (fun b ob ws m hb hd => hk b ob (Nat.ne_of_lt (Heap.lt_size hb)) (by simp) hb) _ _ (Tp.nested I z.2.1 _ _ k2.1 k3 rfl), k2.2.1⟩
  · rw [hst] at hd'
    obtain ⟨od, es, ep, g1, g2, g3, g4, g5, g6⟩ := hd'
    have hk' : ∀ b u, s.heap.get? b = some u → h'.get? b = some u := fun b u e => hk b u (by simp) e
    have hbig : (s.heap.objs.size == sysModules) = false := beq_eq_false_iff_ne.mpr (Nat.ne_of_gt I.big)
    have hfree := I.hok.fresh (Nat.le_refl s.heap.objs.size)
    refine ⟨.ref s.heap.objs.size, upd H s.heap.objs.size (.frz od (.own s.heap.objs.size)), I.laid (t' := tk) hk' (Nat.le_refl _) ⟨g1, od, g1⟩, rfl, q _ _ hfree (Evl.Ex.new hfree) ?_⟩
    refine ⟨od, es, ep, zs.map (fun x => x.2), upd_same, hbig, g2, g3, ?_, fun x hx => ?_, ?_, ?_⟩
    · rw [g4]
      show (zs.map _).map _ = (zs.map _).map _
      rw [List.map_map, List.map_map]
      rfl
    · obtain ⟨z, hz', rfl⟩ := List.mem_map.mp hx
      exact ⟨(z2 z hz').2.1, (z2 z hz').2.2.mono (TK.new hfree)⟩
    · rw [List.map_map]
      have e : (fun x : D × Addr × Int × Tok => x.1.key) ∘ (fun x : Addr × D × Addr × Int × Tok => x.2) = fun x => x.2.1.key := rfl
      rw [e]
      have e2 : zs.map (fun x => x.2.1.key) = kvs.map fun kv => kv.1.key := by
        rw [← z3, List.map_map]
        rfl
      rw [e2]
      exact nd
    · rw [List.map_map]
      exact z3
end
section
variable {P : Program} {w : World} {ρ : List (Option D)} {H : Hp} {ta tb te : TE} {d : D} {n : Int} {p : Addr} {kvs : List (D × Int)} {σ : L2.St} {D0 : Ends}
theorem ev_hasN (hD : DicN P w H p kvs) (ok : d.okKey) (hm : (d, n) ∈ kvs) (ha : Ev ta ρ H d) (hb : Ev tb ρ H (.ptr p)) : Ev (tOp (rHasN P w) ta tb) ρ H (.bl false) := ev_op ha hb fun x y H1 Q e1 t1 t2 q => by
  obtain ⟨ds, hds⟩ := ok.2.2
  have t1' := t1
  rw [hds] at t1'
  obtain ⟨a, _, rfl, _, _⟩ := t1'.invT
  exact ⟨a, p, d, n, kvs, rfl, t2.invP, t1, ok, hD.ex e1, hm, q _ H1 (exr H1) (.bl _)⟩
theorem ev_getN (hD : DicN P w H p kvs) (ok : d.okKey) (hm : (d, n) ∈ kvs) (ha : Ev ta ρ H (.ptr p)) (hb : Ev tb ρ H d) : Ev (tOp (rGetN P w) ta tb) ρ H (.int n) := ev_op ha hb fun y x H1 Q e1 t2 t1 q => by
  obtain ⟨ds, hds⟩ := ok.2.2
  have t1' := t1
  rw [hds] at t1'
  obtain ⟨a, _, rfl, _, _⟩ := t1'.invT
  exact ⟨a, p, d, n, kvs, rfl, t2.invP, t1, ok, hD.ex e1, hm, q _ H1 (exr H1) (.int _)⟩
theorem x_retDicN (En : Hn.Env σ H ρ) (h : EvL te ρ H (kvs.map fun kv => .tup [kv.1, .int kv.2])) (ok : ∀ kv ∈ kvs, kv.1.okKey) (nd : (kvs.map fun kv => kv.1.key).Nodup) (hl : kvs.length ≤ 1000) (k : ∀ p H1, H p = none → Ex H H1 → DicN P w H1 p kvs → D0.rt (.ref p) H1) :
    tRet (tCB (rDicN P w) (tCons te tNil)) D0 σ H := h σ H _ (exr H) En fun a H1 ha e1 t1 => ⟨a, kvs, rfl, t1, ok, nd, hl, fun p H2 hp e2 hD => k p H2 (fresh_back e1 hp) (e1.trans e2) hD⟩
end
end Hn


/-! repr of data, where no repr is under way; defs that are promised where none is. -/
namespace Hn
open PySem PySem.Spec PyProof.Rows L2

section
variable {X : Cx}
def rRepr : List V → Hp → VK → Prop := fun vs H Q => ∃ x ds, vs = [x] ∧ Tp H x (.tup ds) ∧ D.pures ds = true ∧ (D.tup ds).py.showable = true ∧ (D.tup ds).py.depth ≤ 60 ∧ (D.tup ds).py.hasDict = false ∧ (D.tup ds).py.shown.length ≤ sizeLine ∧ Q (.str (D.tup ds).py.shown) H
theorem cr_repr (hg : X.A.guards = some []) (hu : X.A.units + 64 < cLine) : CallR X (.builtin "repr") rRepr := fun pins s σ H vs us Q I r ⟨x, ds, ev, t, p, h1, h2, h3, h4, q⟩ => by
  subst ev
  obtain ⟨u, rfl, ru⟩ := vals1 r
  obtain ⟨a, xs, rfl, k1, k2⟩ := t.invT
  cases ru
  obtain ⟨as, hr⟩ := Dp.reads I (D.tup ds).py (.ref a) (.ref a) ((Tp.mk k1 k2).dp (.tup ds) _ (by unfold D.pure; exact p)) rfl
  exact repr_of_reads' hr h1 (PyData.noDict_hsm h3) hg (by omega) (fun _ _ e => e) (fun h' tk n hk => ⟨.str _, H, I.kept hk, ⟨_, rfl⟩, q⟩) h4
end
theorem ev_repr {ρ : List (Option D)} {H : Hp} {te : TE} {ds : List D} (h : Ev te ρ H (.tup ds)) (p : D.pures ds = true) (h1 : (D.tup ds).py.showable = true) (h2 : (D.tup ds).py.depth ≤ 60) (h3 : (D.tup ds).py.hasDict = false) (h4 : (D.tup ds).py.shown.length ≤ sizeLine) :
    Ev (tCB rRepr (tCons te tNil)) ρ H (.str (D.tup ds).py.shown) := ev_cb (ea_cons h ea_nil) fun vs H1 Q _ t q => by
  obtain ⟨v, ys, rfl, k1, k2⟩ := t.inv
  rw [k2.inv0]
  exact ⟨v, ds, rfl, k1, p, h1, h2, h3, h4, q _ H1 (exr H1) (.str _)⟩

/-! ### a def whose promise holds where no repr is under way -/
structure FnG (P : Program) (w : World) (K : PySem.W.Frag) (mg : Str → Option Value) (base : Heap) (k : Nat) (f : Addr) (fd : FuncData) (ps : List Str) (sp : Sp) : Prop where
  len : ∀ vs H Q E, sp vs H Q E → vs.length = ps.length
  run : ∀ (A : Around) (outer : List PySem.Env) (s : Shared) (H : Hp) (args : Args) (us : List Value) (vs : List V) (Q : VK), A.guards = some [] → Room k A → Env0 P w K mg base A outer s H → BindsTo s fd args (ps.zip us) → Vals vs us → sp vs H Q E0 →
    codeAny (model P w) A (.call (.ref f) args) (CR CX0 outer P w H s Q E0) s
structure GAt (P : Program) (w : World) (K : PySem.W.Frag) (mg : Str → Option Value) (base : Heap) (k : Nat) (x : Str) (ps : List Str) (sp : Sp) : Prop where
  ex : ∃ f fd, mg x = some (.ref f) ∧ PySem.W.keepIn K (.ref f) = true ∧ Binds K fd ps [] ∧ FnG P w K mg base k f fd ps sp
section
variable {P : Program} {w : World} {K : PySem.W.Frag} {mg : Str → Option Value} {base : Heap} {x : Str} {st : Stmt} {ps N : List Str} {k : Nat} {sp : Sp}
theorem fun_okG {f : Addr} {fd : FuncData} (F : Fun K x x st f fd) (S : FnScope N ps (defScope st)) (len : ∀ vs H Q E, sp vs H Q E → vs.length = ps.length)
    (hbody : ∀ (cdv : Value) (A : Around) (outer : List PySem.Env) (s : Shared) (H : Hp) (vs : List V) (Q : VK), A.guards = some [] → Room k (A.deeper (envOfC x (defScope st) s.heap.objs.size f cdv)) → sp vs H Q E0 →
      ∃ t, PSs (cxOf CX0 P w K mg base N x (defScope st) f cdv A outer s H E0).nox (defBody st) t ∧ t { nx := fun _ H' => Q .non H', rt := Q } (start N vs) H) : FnG P w K mg base (k + 1) f fd ps sp := by
  obtain ⟨oc, od, kV, doc, pm, an, cdv, ct, osl, rfl, lk, hcd⟩ := F.ex
  refine ⟨len, fun A outer s H args us vs Q hg hr e0 hb r hsp => ?_⟩
  have KX : K.In s.heap := e0.mod.kin.keeps fun b o e => (e0.bs b o e).1
  have hkind : ∀ y ∈ ps.zip us, (defScope st).names.lookup y.1 = some .local ∨ ((defScope st).names.lookup y.1 = some .cell ∧ ((cellsFrom (s.heap.objs.size + 1) (defScope st).names []).lookup y.1).isSome = true) := fun y hy => by
    rcases S.par y.1 (List.of_mem_zip (a := y.1) (b := y.2) hy).1 with q | q
    · exact .inl q
    · exact .inr ⟨q, PySem.W.cellsFrom_some _ _ _ (.inl q)⟩
  refine codeAny_call_function hr.depth (KX _ _ lk) rfl S.co S.gen rfl (PySem.W.codeRec_of KX hcd) (hb _ _ _ _ (wpAny_newFunctionEnv_cells S.kind hkind fun env he s1 y => ?_))
  subst he
  obtain ⟨t, ht, hq⟩ := hbody cdv A outer s H vs Q hg (hr.deeper _) hsp
  have I := inv_start (E := E0) (CX := CX0) (f := f) (cd := cdv) (qual := x) S hr.hd e0 (len _ _ _ _ hsp) r y
  refine ⟨(e0.mod.nolimit.keeps fun b o e => (e0.bs b o e).1).keeps y.toInCall.keep, codeAny_func (wpAny_mono (ht.nox.run [] s1 (start N vs) H _ I hq) (fun fl s' hs => ?_) fun e s' hs => hs)⟩
  cases fl with
  | next =>
    obtain ⟨σ', H', J, q⟩ := hs
    exact ⟨.non, H', J.os, J.bare, J.base, J.hok, rfl, q⟩
  | ret u =>
    obtain ⟨v, σ', H', J, rv, q⟩ := hs
    exact ⟨v, H', J.os, J.bare, J.base, J.hok, rv, q⟩
  | brk => exact hs.elim fun _ ⟨_, _, z⟩ => z.elim
  | cont => exact hs.elim fun _ ⟨_, _, z⟩ => z.elim
theorem DefAt.okG (F : DefAt K mg x st ps) (S : FnScope N ps (defScope st)) (len : ∀ vs H Q E, sp vs H Q E → vs.length = ps.length)
    (hbody : ∀ (f : Addr) (cdv : Value) (A : Around) (outer : List PySem.Env) (s : Shared) (H : Hp) (vs : List V) (Q : VK), A.guards = some [] → Room k (A.deeper (envOfC x (defScope st) s.heap.objs.size f cdv)) → sp vs H Q E0 →
      ∃ t, PSs (cxOf CX0 P w K mg base N x (defScope st) f cdv A outer s H E0).nox (defBody st) t ∧ t { nx := fun _ H' => Q .non H', rt := Q } (start N vs) H) : GAt P w K mg base (k + 1) x ps sp := by
  obtain ⟨f, fd, hm, hF, hb⟩ := F.ex
  exact ⟨f, fd, hm, hF.kp, hb, fun_okG hF S len fun cdv A outer s H vs Q => hbody f cdv A outer s H vs Q⟩
theorem pe_fnG {X : Cx} {p pos : Pos} {e : Expr} {es : List Expr} {t : TA} (F : GAt X.prog X.w X.K X.mg X.base k x ps sp) (hg : X.A.guards = some []) (hr : Room k X.A) (hgl : Gl X x) (ha : PA X (e :: es) t) (hdb : (x == ("__debug__" : Str)) = false := by decide)
    (he : starEach (e :: es) X.env = (false, eval e X.env) :: starEach es X.env := by rfl) (hpl : (backTo pos (starEach es X.env)).any (·.1) = false := by rfl) : PE X (.Call (.Name x p) (e :: es) [] pos) (tCall sp [] E0 t) := by
  obtain ⟨f, fd, hm, hk, hb, F⟩ := F.ex
  refine ⟨fun pins s σ H Q I h => wpAny_Call_Name_kw (ld_glob I hgl hm (PySem.W.callWith_K (h₀ := X.base) I.ok.mod.kin hk (thn (ha.run pos pins s σ H _ I h) fun us s1 ⟨vs, H1, I1, r, q⟩ => ⟨I1.kIn, ?_⟩) he hpl) hdb)⟩
  have q' : sp (vs ++ []) H1 Q E0 := q
  rw [List.append_nil] at q'
  have hb1 := hb s1 us I1.kIn (by rw [List.append_nil, ← r.length]; exact F.len _ _ _ _ q')
  rw [List.append_nil] at hb1
  refine wpAny_call (codeAny_mono (F.run X.A X.stack s1 H1 ⟨us, []⟩ us vs Q hg hr I1.env0 hb1 r q') fun z s' hz => ?_)
  match z, hz with
  | .ok (.ret u), hz => exact I1.after hz
  | .ok .next, hz => exact hz.elim
  | .ok .brk, hz => exact hz.elim
  | .ok .cont, hz => exact hz.elim
  | .error e, hz => exact hz.elim
end
section
variable {P : Program} {w : World} {K : PySem.W.Frag} {a : Addr} {vs : List Value} {ns : List Int}
/-- what is tracked at the law's entry: the script, known to its object, or nothing where it is the module's own -/
theorem entry_hp {h : Heap} (KX : K.In h) (ha : h.get? a = some { cls := .type "list", data := .seq vs.toArray }) (hi : IntsAre vs ns) (hl : ns.length ≤ sizeLine) :
    ∃ H : Hp, Only H ∧ SqL K H a (ns.map V.int) ∧ HOk P w H h ∧ ∀ b, H b ≠ none → b = a ∧ K.lookup a = none := by
  have rv := vals_ints hi
  cases hk : K.lookup a with
  | some o =>
    have e := KX a o hk
    rw [ha] at e
    cases e
    have lenV := hi.length
    exact ⟨fun _ => none, fun _ => .inl rfl, .inr ⟨_, vs.toArray, _, hk, rfl, rfl, rfl, by rw [List.size_toArray, lenV]; exact hl, by simpa using rv⟩, fun b u (z : (none : Option HO) = some u) => (nomatch z), fun b z => absurd rfl z⟩
  | none =>
    have yes : ∀ b, b = a → (if b = a then some (HO.frz { cls := .type "list", data := .seq vs.toArray } (.lst (ns.map V.int))) else none) = some (HO.frz { cls := .type "list", data := .seq vs.toArray } (.lst (ns.map V.int))) := fun b e => if_pos e
    refine ⟨fun b => if b = a then some (.frz { cls := .type "list", data := .seq vs.toArray } (.lst (ns.map V.int))) else none, fun b => ?_, .inl (.inr ⟨_, yes a rfl⟩), fun b u z => ?_, fun b z => ⟨?_, rfl⟩⟩
    · by_cases hb : b = a
      · exact .inr ⟨_, _, yes b hb⟩
      · exact .inl (if_neg hb)
    · by_cases hb : b = a
      · have z' := (yes b hb).symm.trans z
        cases z'
        rw [hb]
        exact ⟨ha, by rw [List.length_map]; exact hl, vs, _, rv, ha⟩
      · have z' := (if_neg hb).symm.trans z
        cases z'
    · by_cases hb : b = a
      · exact hb
      · exact absurd (if_neg hb) z
theorem enterG {mg mb : Str → Option Value} {k : Nat} {fa : Addr} {fd : FuncData} {x : Str} {sp : Sp} {s₁ : Shared} (KX : K.In s₁.heap) (hns : s₁.heap.Ns mainGlobals mg) (hb : s₁.heap.Ns builtinsNs mb) (hbb : ∀ x : Str, x ≠ "__name__" → mb x = bootBuiltins x)
    (hlim : s₁.heap.NoLimit) (hgn : s₁.gens = #[]) (ha : s₁.heap.get? a = some { cls := .type "list", data := .seq vs.toArray }) (hi : IntsAre vs ns) (hl : ns.length ≤ sizeLine) (hr : Room k callerA)
    (F : ∀ base : Heap, K.In base → base.Ns mainGlobals mg → FnG P w K mg base k fa fd [x] sp) (hbind : ∀ (s : Shared) (u : Value), BindsTo s fd ⟨[u], []⟩ [(x, u)])
    (hsp : ∀ H : Hp, Only H → SqL K H a (ns.map V.int) → sp [.ref a] H (fun v _ => v = .bl true) E0) :
    codeAny (model P w) callerA (.call (.ref fa) ⟨[.ref a], []⟩) (fun r s' => r = .ok (.ret (.bool true)) ∧ OldK s₁.heap s'.heap ∧ s'.os = s₁.os ∧ AllBare s'.gens) s₁ := by
  obtain ⟨H, hO, hS, hok, hA⟩ := entry_hp (P := P) (w := w) KX ha hi hl
  have out : ∀ {b : Addr} {o : Obj}, s₁.heap.get? b = some o → (b = a → K.lookup a = none → False) → (hidT s₁.heap H).get? b = some o := fun {b o} e n => hidT_get e (Classical.byContradiction fun z => n (hA b z).1 (hA b z).2)
  have nsK : ∀ {b : Addr} {m : Str → Option Value}, s₁.heap.Ns b m → (hidT s₁.heap H).Ns b m := fun {b m} ⟨o, es, ep, e, d, r⟩ => ⟨o, es, ep, out e (fun z _ => by
    rw [z, ha] at e
    cases e
    exact nomatch d), d, r⟩
  have hKb : K.In (hidT s₁.heap H) := fun b o e => out (KX b o e) fun z n => by
    rw [z, n] at e
    cases e
  have e0 : Env0 P w K mg (hidT s₁.heap H) callerA [] s₁ H := ⟨rfl, ⟨hKb, nsK hns, ⟨mb, nsK hb, hbb⟩, hlim.elim fun mc q => ⟨mc, nsK q.1, q.2⟩⟩, fun b o e => of_hidT e, Nat.le_of_eq (hidT_size _ _), trivial, fun b z => absurd z (by simp [frs]), hok, .of_eq hgn⟩
  refine codeAny_mono ((F _ hKb (nsK hns)).run callerA [] s₁ H ⟨[.ref a], []⟩ [.ref a] [.ref a] _ rfl hr e0 (hbind s₁ (.ref a)) (.cons rfl .nil) (hsp H hO hS)) fun r s' hq => ?_
  match r, hq with
  | .ok (.ret u), hq =>
    obtain ⟨v, H', os, bare, un, hok', r', q⟩ := hq
    have q' : v = .bl true := q
    subst q'
    cases r'
    refine ⟨rfl, OldK.of_keep fun b o e => ?_, os, bare⟩
    rcases hO b with z | ⟨ob, xs, z⟩
    · exact un.keep b o e z (by simp [frs]) (by simp)
    · obtain ⟨e1, _⟩ := hok b _ z
      rw [e1] at e
      cases e
      exact (hok' b _ (un.frzs b _ _ z)).1
  | .ok .next, hq => exact hq.elim
  | .ok .brk, hq => exact hq.elim
  | .ok .cont, hq => exact hq.elim
  | .error e, hq => exact hq.elim
end
/-- the goal that k_head leaves, from the law's promise where no repr is under way -/
theorem walkG {l : PySem.W.OpenLaw} {n k : Nat} {q : Program} {loose : List Str} {XP : (Str → Option Value) → Heap → Prop} {YP : World → Heap → Prop} {d : DefRec} {K : Params → PySem.W.Frag} {sp : PySem.W.Frag → Sp} {x : Str}
    (hn : l.most = some n) (hn2 : n ≤ sizeLine) (hdf : d.params.defaults = []) (hr : Room k callerA) (hY : ∀ (w : World) (h : Heap), YP w h → (K w.params).In h)
    (F : ∀ (w : World) (mg : Str → Option Value) (fa : Addr) (h : Heap), (K w.params).In h → h.Ns mainGlobals mg → mg d.name = some (.ref fa) → ∃ fd : FuncData, (∀ (s : Shared) (u : Value), BindsTo s fd ⟨[u], []⟩ [(x, u)]) ∧
      ∀ base : Heap, (K w.params).In base → base.Ns mainGlobals mg → FnG l.prog w (K w.params) mg base k fa fd [x] (sp (K w.params)))
    (hsp : ∀ (K : PySem.W.Frag) (H : Hp) (a : Addr) (ns : List Int), ns.length ≤ n → Only H → SqL K H a (ns.map V.int) → sp K [.ref a] H (fun v _ => v = .bl true) E0) : PySem.W.WalkO q loose XP YP l.row.toRowW d [] (fun f vs => PySem.call f vs) :=
  Att.attach_call hn hdf fun w s₀ s₁ mg mb fa o pm cd doc a vs ns G Y ho hd hcd hmg hobj hints hlen hgn => by
    obtain ⟨fd, hb, hF⟩ := F w mg fa _ (hY w _ Y) G.T.g hmg
    exact enterG (hY w _ Y) G.T.g G.T.b G.T.builtins G.T.nolimit hgn hobj hints (Nat.le_trans hlen hn2) hr hF hb fun H hO hS => hsp _ H a ns hlen hO hS
end Hn


/-! set(a list of ints), as a set that may be sorted. -/
namespace Hn
open PySem PySem.Spec PyProof.Rows L2

/-- a set just made -/
abbrev bare0 (w : World) : Obj := { cls := .type "set", dict := none, data := .set #[] 0 (.fresh 0 0 (!w.params.followText "set-order")) }
section
variable {P : Program} {w : World} {A : Around} {E : Value → Shared → Prop} {s : Shared}
/-- set.__init__ of a bare set and a list of ints -/
theorem init_setL {S l : Addr} {items : Array Value} {ns : List Int} {R : Result → Shared → Prop} (hh : A.handled = none) (hS : s.heap.get? S = some (bare0 w)) (hl : s.heap.IsList l items) (hit : IntsAre items.toList ns) (hb : ns.length + 1 < scanBound)
    (hne : l ≠ S) (h : ∀ (h' : Heap) (tk c : Nat), SetR w h' S (fun j => decide (j ∈ ns)) c → c ≤ ns.length → (∀ b o, b ≠ S → s.heap.get? b = some o → h'.get? b = some o) → R (.ok (.ret .none)) { s with heap := h', toks := tk }) :
    wpAny (model P w) A.in1 (Builtin.«set.__init__» ⟨[.ref S, .ref l], []⟩) (fun fin s' => match fin with | .done f => R (.ok f) s' | .again c' => c'.quiet = true ∧ codeAny (model P w) A c' R s') (fun e s' => R (.error e) s') s := by
  have hsz : items.size = ns.length := by
    have q := IntsAre.length hit
    rwa [Array.length_toList] at q
  obtain ⟨⟨oc, od, odat, osl⟩, hol, hcl, nl, hdl⟩ := hl
  simp only at hcl hdl
  subst hcl hdl
  have f1 := F.sub_list_set
  have f2 := F.sub_list_frozenset
  have f3 : (Value.type "list" == Value.type "dict") = false := by decide
  have hT : s.TypeIs (.ref S) "set" := ⟨_, hS, rfl⟩
  have hl1 : s.heap.IsList l items := ⟨_, hol, rfl, nl, rfl⟩
  have lS : S < s.heap.objs.size := Heap.lt_size hS
  have ll : l < s.heap.objs.size := Heap.lt_size hol
  unfold Builtin.«set.__init__» noKeywords Builtin.Frozenset.updateFrom
  generalize hPI : pyIter = PI
  wp_walk
  subst hPI
  refine wpAny_pyIter_list hl1 (wpAny_bind (wpAny_runValue ?_))
  have hi3 : A.in1.in1.handled = none := hh
  have hval : ∀ (i : Nat) (v : Value), items[i]? = some v → ∃ k t, ns[i]? = some k ∧ v = .int k t := fun i v hv => by
    have hi : i < ns.length := by
      rw [← hsz]
      exact (Array.getElem?_eq_some_iff.mp hv).1
    obtain ⟨t, e⟩ := PyProof.Rows.IntsAre.int_at hit i v (by rw [Array.getElem?_toList]; exact hv)
    rw [List.getD_eq_getElem?_getD, List.getElem?_eq_getElem hi] at e
    exact ⟨ns[i], t, List.getElem?_eq_getElem hi, e⟩
  have hSf : S ∉ [s.heap.objs.size, l] := by
    intro z
    rcases List.mem_cons.mp z with z | z
    · exact absurd lS (by rw [z]; exact Nat.lt_irrefl _)
    · exact hne (List.mem_singleton.mp z).symm
  refine set_update_ints ((Walks.list hi3 s.heap.objs.size l (Nat.ne_of_lt ll) items).toS) S hSf ns hsz hb hval (items.size - 0) 0 _ (by omega) (Nat.zero_le _) ⟨⟨_, Heap.get?_push_size _ rfl, rfl, rfl⟩, hl1.push _⟩ ⟨0, Nat.le_refl 0, setR_new_at (Heap.get?_push_of_some _ hS)⟩ fun s' c' hm hc' hS' => ?_
  obtain ⟨h', g2, d', tk', os'⟩ := s'
  have eg : g2 = s.gens := hm.gens
  have ed : d' = s.drawn := hm.drawn
  have eo : os' = s.os := hm.os
  subst eg ed eo
  show wpAny _ _ _ _ _ _
  refine wpAny_pure ?_
  show wpAny _ _ (ret Value.none) _ _ _
  rw [hsz] at hc'
  refine wpAny_pure (h h' tk' c' hS' hc' fun b o hb e => hm.heap b o ?_ (Heap.get?_push_of_some _ e))
  intro z
  rcases List.mem_cons.mp z with z | z
  · exact hb z
  · exact absurd (Heap.lt_size e) (by rw [List.mem_singleton.mp z]; exact Nat.lt_irrefl _)
theorem call_setL {l : Addr} {items : Array Value} {ns : List Int} {Q : Value → Shared → Prop} (hh : A.handled = none) (hl : s.heap.IsList l items) (hit : IntsAre items.toList ns) (hb : ns.length + 1 < scanBound)
    (h : ∀ (h' : Heap) (tk c : Nat), SetR w h' s.heap.objs.size (fun j => decide (j ∈ ns)) c → c ≤ ns.length → (∀ b o, s.heap.get? b = some o → h'.get? b = some o) → Q (.ref s.heap.objs.size) { s with heap := h', toks := tk }) :
    wpAny (model P w) A (call (.type "set") [.ref l]) Q E s := by
  have ft := F.called_set
  obtain ⟨mc, ml, hmro⟩ := ft.mro
  have hmade := ft.made
  have hsub := ft.sub
  have hnt := ft.notType
  have hcan := ft.canCreate
  have hcheck := F.typeCall_set_1 (.ref l)
  have hll : l < s.heap.objs.size := hl.elim fun _ z => Heap.lt_size z.1
  refine wpAny_call (codeAny_of_tree (show wpAny _ _ (callAny (.type "set") _) _ _ _ from wpAny_pure ⟨Code.quiet_builtin _ (by decide +kernel), codeAny_builtin F.entry_type_call ?_⟩))
  rw [Around.under_plain (weight_type_call_type "set" [.ref l] []) rfl]
  repeat (any_goals (first | assumption | wp_step))
  refine codeAny_mono (code_set_led1 (.ref l) (E := E) (Q₁ := fun obj s₁ => obj = .ref s.heap.objs.size ∧ s₁ = { s with heap := s.heap.push (bare0 w) }) ⟨rfl, rfl⟩) fun r s₁ hr => ?_
  match r, hr with
  | .error e, hr => exact hr
  | .ok .next, hr => exact hr.elim
  | .ok .brk, hr => exact hr.elim
  | .ok .cont, hr => exact hr.elim
  | .ok (.ret obj), hr =>
    obtain ⟨rfl, rfl⟩ := hr
    have hS : (s.heap.push (bare0 w)).get? s.heap.objs.size = some (bare0 w) := Heap.get?_push_size _ rfl
    have hT : Shared.TypeIs { s with heap := s.heap.push (bare0 w) } (.ref s.heap.objs.size) "set" := ⟨_, hS, rfl⟩
    have hli := ft.init.lookup
    have hbi := ft.init.bind (.ref s.heap.objs.size)
    repeat (any_goals (first | assumption | wp_step))
    refine codeAny_mono (codeAny_call_builtin (R := wants (fun r s₂ => r = .none ∧ ∃ h' tk c, s₂ = { s with heap := h', toks := tk } ∧ SetR w h' s.heap.objs.size (fun j => decide (j ∈ ns)) c ∧ c ≤ ns.length ∧ ∀ b o, s.heap.get? b = some o → h'.get? b = some o) E)
      ft.init.plain F.entry_set_init (check_set_init_1 hT (init_setL (A := A.in1) (s := { s with heap := s.heap.push (bare0 w) }) hh hS (hl.push _) hit hb (Nat.ne_of_lt hll) fun h' tk c hR hc hk => ⟨rfl, h', tk, c, rfl, hR, hc, fun b o e => hk b o (Nat.ne_of_lt (Heap.lt_size e)) (Heap.get?_push_of_some _ e)⟩))) fun r₂ s₂ hr₂ => ?_
    match r₂, hr₂ with
    | .error e, hr => exact hr
    | .ok .next, hr => exact hr.elim
    | .ok .brk, hr => exact hr.elim
    | .ok .cont, hr => exact hr.elim
    | .ok (.ret r), hr =>
      obtain ⟨rfl, h', tk, c, rfl, hR, hc, hk⟩ := hr
      repeat (any_goals (first | assumption | wp_step))
      exact h h' tk c hR hc hk
end
section
variable {X : Cx}
/-- set(xs) of a list of ints -/
def rSetL (w : World) : List V → Hp → VK → Prop := fun vs H Q => ∃ (a : Addr) (ns : List Int), vs = [V.ref a] ∧ H a = some (.lst (ns.map V.int)) ∧ ns.length ≤ 1000 ∧ ∀ p c, c ≤ ns.length → H p = none → Q (.ref p) (upd H p (SetO w p (fun j => decide (j ∈ ns)) c))
theorem cr_setL (hc : X.calm = true) : CallR X (.type "set") (rSetL X.w) := fun pins s σ H vs us Q I r ⟨a, ns, ev, ha, hl, q⟩ => by
  subst ev
  obtain ⟨its, rv, pls, hz⟩ := I.list (SqL.of ha)
  rw [Vals.ref1 r]
  refine call_setL (I.ok.hd hc) pls.isList (by simpa using rv.ints) (by unfold scanBound; omega) fun h' tk c hR hcn hk => ?_
  exact ⟨.ref _, upd H s.heap.objs.size (SetO X.w s.heap.objs.size (fun j => decide (j ∈ ns)) c), I.laid (t' := tk) hk (Nat.le_refl _) (setO_new hR), rfl, q _ c hcn (I.hok.fresh (Nat.le_refl _))⟩
end
theorem up_unique : ∀ {xs ys : List Int}, xs.Pairwise (· < ·) → ys.Pairwise (· < ·) → (∀ k, k ∈ xs ↔ k ∈ ys) → xs = ys
  | [], [], _, _, _ => rfl
  | [], y :: ys, _, _, h => absurd ((h y).mpr List.mem_cons_self) List.not_mem_nil
  | x :: xs, [], _, _, h => absurd ((h x).mp List.mem_cons_self) List.not_mem_nil
  | x :: xs, y :: ys, h1, h2, h => by
    obtain ⟨a1, a2⟩ := List.pairwise_cons.mp h1
    obtain ⟨b1, b2⟩ := List.pairwise_cons.mp h2
    have e : x = y := by
      rcases List.mem_cons.mp ((h x).mp List.mem_cons_self) with q | q
      · exact q
      · rcases List.mem_cons.mp ((h y).mpr List.mem_cons_self) with q' | q'
        · exact q'.symm
        · have := b1 x q
          have := a1 y q'
          omega
    subst e
    congr 1
    refine up_unique a2 b2 fun k => ⟨fun hk => ?_, fun hk => ?_⟩
    · rcases List.mem_cons.mp ((h k).mp (List.mem_cons_of_mem _ hk)) with q | q
      · have := a1 k hk
        omega
      · exact q
    · rcases List.mem_cons.mp ((h k).mpr (List.mem_cons_of_mem _ hk)) with q | q
      · have := b1 k hk
        omega
      · exact q
section
variable {K : PySem.W.Frag} {w : World} {ρ : List (Option D)} {H : Hp} {te : TE}
/-- sorted(set(a new list)) -/
theorem el_sortedSet {ns us : List Int} (h : EvL te ρ H (ns.map .int)) (hl : ns.length < 64) (hu : us.Pairwise (· < ·)) (hm : ∀ k, k ∈ us ↔ k ∈ ns) : EvL (tCB (rSortedSet w) (tCons (tCB (rSetL w) (tCons te tNil)) tNil)) ρ H (us.map .int) := fun σ H1 Q a En q =>
  h σ H1 _ a En fun p H2 hp e2 t2 => by
    obtain ⟨xs, k1, k2⟩ := t2
    rw [k2.ints] at k1
    refine ⟨p, ns, rfl, k1, by omega, fun r c hc hr => ⟨r, _, c, rfl, upd_same, by omega, fun ms z up mem hl hz => ?_⟩⟩
    have e : ms = us := up_unique up hu fun k => by
      rw [mem k, hm k, decide_eq_true_eq]
    subst e
    have ez : H2 z = none := by
      cases hz2 : H2 z with
      | none => rfl
      | some o =>
        rw [upd_ne (ne_of_none hz2 hr)] at hz
        rw [hz2] at hz
        cases hz
    exact q z _ (fresh_back e2 ez) ((e2.trans (Evl.Ex.new hr)).trans (Evl.Ex.new hz)) ⟨_, upd_same, Tps.ofInts _⟩
end
end Hn


/-! Dicts keyed by numbers, results told by their place, isinstance: over the data layer. -/
namespace Hn
open PySem L2

/-- a result told by its place -/
def EvX (te : TE) (ρ : List (Option D)) (H : Hp) (Φ : Addr → Hp → Prop) : Prop := ∀ σ H1 (Q : VK), Ex H H1 → Env σ H1 ρ → (∀ p H2, H1 p = none → Ex H1 H2 → Φ p H2 → Q (.ref p) H2) → te σ H1 Q
/-- a dict from numbers to data -/
def DicI (p : Addr) (kvs : List (Int × D)) (H : Hp) : Prop := ∃ vs, H p = some (.dK (List.zipWith (fun (kd : Int × D) (v : V) => ((Sum.inl kd.1 : Key), v)) kvs vs)) ∧ Tps H vs (kvs.map (·.2))
theorem DicI.ex {p : Addr} {kvs : List (Int × D)} {H H' : Hp} (h : DicI p kvs H) (e : Ex H H') : DicI p kvs H' := by
  obtain ⟨vs, h1, h2⟩ := h
  exact ⟨vs, e _ _ h1, h2.ex e⟩
abbrev zipK (kvs : List (Int × D)) (vs : List V) : List (Key × V) := List.zipWith (fun (kd : Int × D) (v : V) => ((Sum.inl kd.1 : Key), v)) kvs vs
theorem zipK_get : ∀ {kvs : List (Int × D)} {vs : List V} {H : Hp} {k : Int} {d : D}, Tps H vs (kvs.map (·.2)) → kvs.lookup k = some d → ∃ v, valV (zipK kvs vs) (Sum.inl k) = some v ∧ Tp H v d
  | [], _, _, _, _, _, e => by cases e
  | kd :: kvs, vs, H, k, d, t, e => by
    obtain ⟨v, ys, rfl, h1, h2⟩ := Tps.inv (d := kd.2) (ds := kvs.map (·.2)) t
    by_cases hk : k = kd.1
    · subst hk
      rw [List.lookup_cons, beq_self_eq_true] at e
      cases e
      exact ⟨v, valV_pos (p := (Sum.inl kd.1, v)) rfl, h1⟩
    · have hb : (k == kd.1) = false := beq_eq_false_iff_ne.mpr hk
      rw [List.lookup_cons, hb] at e
      obtain ⟨w, h3, h4⟩ := zipK_get h2 e
      exact ⟨w, (valV_neg (p := (Sum.inl kd.1, v)) fun z => hk (Sum.inl.inj z).symm).trans h3, h4⟩
theorem zipK_none : ∀ {kvs : List (Int × D)} {vs : List V} {H : Hp} {k : Int}, Tps H vs (kvs.map (·.2)) → k ∉ kvs.map (·.1) → valV (zipK kvs vs) (Sum.inl k) = none
  | [], _, _, _, t, _ => by obtain rfl := t.inv0; rfl
  | kd :: kvs, vs, H, k, t, hn => by
    obtain ⟨v, ys, rfl, h1, h2⟩ := Tps.inv (d := kd.2) (ds := kvs.map (·.2)) t
    rw [List.map_cons, List.mem_cons, not_or] at hn
    exact (valV_neg (p := (Sum.inl kd.1, v)) fun z => hn.1 (Sum.inl.inj z).symm).trans (zipK_none h2 hn.2)
theorem zipK_snoc : ∀ {kvs : List (Int × D)} {vs : List V} {H : Hp} (kd : Int × D) (v : V), Tps H vs (kvs.map (·.2)) → zipK kvs vs ++ [(Sum.inl kd.1, v)] = zipK (kvs ++ [kd]) (vs ++ [v])
  | [], vs, H, kd, v, t => by obtain rfl := t.inv0; rfl
  | a :: kvs, vs, H, kd, v, t => by
    obtain ⟨w, ys, rfl, h1, h2⟩ := Tps.inv (d := a.2) (ds := kvs.map (·.2)) t
    show _ :: (zipK kvs ys ++ [(Sum.inl kd.1, v)]) = _
    rw [zipK_snoc kd v h2]
    rfl
theorem zipK_len {kvs : List (Int × D)} {vs : List V} {H : Hp} (t : Tps H vs (kvs.map (·.2))) : (zipK kvs vs).length = kvs.length := by
  have h := t.1
  rw [List.length_map] at h
  rw [List.length_zipWith, h, Nat.min_self]
/-- merging pairs whose keys differ -/
theorem mergeK_nd : ∀ (more acc : List (Key × V)), ((acc ++ more).map (·.1)).Nodup → mergeK acc more = acc ++ more
  | [], acc, _ => by simp [mergeK]
  | p :: more, acc, h => by
    have hn : valV acc p.1 = none := by
      cases hv : valV acc p.1 with
      | none => rfl
      | some v =>
        have := valV_in hv
        rw [List.map_append, List.map_cons] at h
        exact absurd rfl ((List.nodup_append.mp h).2.2 p.1 this p.1 List.mem_cons_self)
    show mergeK (putK acc p.1 p.2) more = _
    rw [putK_new p.2 hn, mergeK_nd more (acc ++ [(p.1, p.2)]) (by rw [List.append_assoc]; exact h), List.append_assoc]
    rfl
section
variable {K : PySem.W.Frag} {ρ ρ' : List (Option D)} {H H' : Hp} {ta tb tc te tx td tv : TE} {t u : TT} {d e z : D} {ds es : List D} {ts tr : TA} {b : Bool} {E : XK} {σ : L2.St} {D0 : Ends} {tz tu : TS} {p : Addr} {kvs : List (Int × D)}
theorem q_asgX {i : Nat} {Φ : Addr → Hp → Prop} (En : Env σ H ρ) (h : EvX te ρ H Φ) (k : ∀ p σ' H1, H p = none → Ex H H1 → Φ p H1 → Env σ' H1 (ρ.set i (some (.ptr p))) → tz D0 σ' H1) : tSeq (tAsg te (gName i)) tz D0 σ H := h σ H _ (exr H) En fun p H1 hp e1 t1 => k p _ H1 hp e1 t1 ((En.ex e1).set i (.ptr p))
/-- {} -/
theorem ex_new : EvX tDNewK ρ H (fun p H => DicI p [] H) := fun σ H1 Q a En q p hp => q p _ hp (Evl.Ex.new hp) ⟨[], upd_same, Tps.nil⟩
/-- d[k] -/
theorem ev_dget {k : Int} (hD : DicI p kvs H) (hl : kvs.lookup k = some d) (ha : Ev td ρ H (.ptr p)) (hb : Ev te ρ H (.int k)) : Ev (tDGet td te) ρ H d := fun σ H1 Q a En q => ha σ H1 _ a En fun x H2 e2 t2 => hb σ H2 _ (a.trans e2) (En.ex e2) fun y H3 e3 t3 => by
  obtain ⟨vs, h1, h2⟩ := hD.ex ((a.trans e2).trans e3)
  obtain ⟨v, h3, h4⟩ := zipK_get h2 hl
  refine ⟨p, v, t2.invP, ?_, q v H3 (e2.trans e3) h4⟩
  rw [t3.invI, ← h3]
  exact DGet.k (k := Sum.inl k) h1
/-- d[k] = v, k new -/
theorem x_dput {k : Int} (hD : DicI p kvs H) (hn : k ∉ kvs.map (·.1)) (hz : kvs.length ≤ 1000) (En : Env σ H ρ) (hv : Ev tv ρ H d) (ha : Ev td ρ H (.ptr p)) (hb : Ev te ρ H (.int k)) (kk : ∀ o H1, Ex H H1 → DicI p (kvs ++ [(k, d)]) (upd H1 p o) → (∀ xs, H1 p ≠ some (.tup xs)) → D0.nx σ (upd H1 p o)) : sDPut td te tv D0 σ H :=
  hv σ H _ (exr H) En fun v H1 e1 t1 => ha σ H1 _ e1 (En.ex e1) fun x H2 e2 t2 => hb σ H2 _ (e1.trans e2) ((En.ex e1).ex e2) fun y H3 e3 t3 => by
    obtain ⟨vs, h1, h2⟩ := hD.ex ((e1.trans e2).trans e3)
    have hnone := zipK_none h2 hn
    refine ⟨p, upd H3 p (.dK (putK (zipK kvs vs) (Sum.inl k) v)), t2.invP, ?_, kk _ H3 ((e1.trans e2).trans e3) ?_ fun xs z => by rw [h1] at z; cases z⟩
    · rw [t3.invI]
      exact DPut.k (k := Sum.inl k) h1 (by rw [zipK_len h2]; exact Nat.lt_of_le_of_lt hz (by decide))
    · refine ⟨vs ++ [v], ?_, ?_⟩
      · rw [upd_same, putK_new v hnone, zipK_snoc (k, d) v h2]
      · rw [List.map_append]
        exact (Tps.append h2 (Tps.cons ((t1.ex e2).ex e3) Tps.nil)).mono (TK.upd h1 fun xs z => nomatch z)
/-- dict(a new list of pairs), the keys differ -/
abbrev rDictP (K : PySem.W.Frag) : List V → Hp → VK → Prop := fun xs H Q => ∃ (a : Addr) (ps : List Addr) (kvs : List (Key × V)), xs = [.ref a] ∧ SqL K H a (ps.map V.ref) ∧ Paired (fun p kv => SqT K H p [kV kv.1, kv.2]) ps kvs ∧ ∀ p, H p = none → Q (.ref p) (upd H p (.dK (mergeK [] kvs)))
theorem pairs_dict : ∀ {kvs : List (Int × D)} {xs : List V} {H : Hp}, Tps H xs (kvs.map fun kd => .tup [.int kd.1, kd.2]) → ∃ (ps : List Addr) (vs : List V), xs = ps.map V.ref ∧ Tps H vs (kvs.map (·.2)) ∧ Paired (fun p kv => SqT K H p [kV kv.1, kv.2]) ps (zipK kvs vs)
  | [], xs, H, t => by
    obtain rfl := t.inv0
    exact ⟨[], [], rfl, Tps.nil, .nil⟩
  | kd :: kvs, xs, H, t => by
    obtain ⟨v, ys, rfl, h1, h2⟩ := Tps.inv (d := .tup [.int kd.1, kd.2]) (ds := kvs.map fun kd => .tup [.int kd.1, kd.2]) t
    obtain ⟨ps, vs, rfl, k1, k2⟩ := pairs_dict h2
    obtain ⟨a, ws, rfl, k3, k4⟩ := h1.invT
    obtain ⟨x, us, rfl, k5, k6⟩ := k4.inv
    obtain ⟨y, rs, rfl, k7, k8⟩ := k6.inv
    obtain rfl := k8.inv0
    obtain rfl := k5.invI
    exact ⟨a :: ps, y :: vs, rfl, Tps.cons k7 k1, .cons (SqT.of k3) k2⟩
theorem zipK_keys : ∀ {kvs : List (Int × D)} {vs : List V} {H : Hp}, Tps H vs (kvs.map (·.2)) → (zipK kvs vs).map (·.1) = (kvs.map (·.1)).map (Sum.inl : Int → Key)
  | [], vs, H, t => by obtain rfl := t.inv0; rfl
  | kd :: kvs, vs, H, t => by
    obtain ⟨v, ys, rfl, h1, h2⟩ := Tps.inv (d := kd.2) (ds := kvs.map (·.2)) t
    show _ :: (zipK kvs ys).map (·.1) = _
    rw [zipK_keys h2]
    rfl
theorem inl_nd {ks : List Int} (h : ks.Nodup) : (ks.map (Sum.inl : Int → Key)).Nodup := List.pairwise_map.mpr (h.imp fun hne e => hne (Sum.inl.inj e))
theorem ex_dict (h : EvL te ρ H (kvs.map fun kd => .tup [.int kd.1, kd.2])) (nd : (kvs.map (·.1)).Nodup) : EvX (tCB (rDictP K) (tCons te tNil)) ρ H (fun p H => DicI p kvs H) := fun σ H1 Q a En q => h σ H1 _ a En fun r H2 hr e2 t2 => by
  obtain ⟨xs, h1, h2⟩ := t2
  obtain ⟨ps, vs, rfl, k1, k2⟩ := pairs_dict (K := K) h2
  refine ⟨r, ps, zipK kvs vs, rfl, SqL.of h1, k2, fun p hp => q p _ (fresh_back e2 hp) (e2.trans (Evl.Ex.new hp)) ⟨vs, ?_, k1.mono (TK.new hp)⟩⟩
  rw [upd_same, mergeK_nd _ [] (by rw [List.nil_append, zipK_keys k1]; exact inl_nd nd)]
  rfl

/-! ### a dict of members -/
def DicS (p : Addr) (ks : List Int) (H : Hp) : Prop := H p = some (.dK (ks.map fun k => ((Sum.inl k : Key), V.bl true)))
theorem DicS.ex {ks : List Int} (h : DicS p ks H) (e : Ex H H') : DicS p ks H' := e _ _ h
/-- k put among the members -/
def addK (ks : List Int) (k : Int) : List Int := if k ∈ ks then ks else ks ++ [k]
theorem putK_S (ks : List Int) (k : Int) : putK (ks.map fun k => ((Sum.inl k : Key), V.bl true)) (Sum.inl k) (.bl true) = (addK ks k).map fun k => ((Sum.inl k : Key), V.bl true) := by
  unfold putK addK
  have e : ((ks.map fun k => ((Sum.inl k : Key), V.bl true)).any fun kv => decide (kv.1 = Sum.inl k)) = decide (k ∈ ks) := by
    rw [List.any_map]
    induction ks with
    | nil => rfl
    | cons a ks ih =>
      rw [List.any_cons, ih]
      by_cases h : a = k
      · subst h
        simp
      · have h' : ¬ k = a := fun z => h z.symm
        simp [h, h']
  rw [e]
  by_cases h : k ∈ ks
  · rw [if_pos (decide_eq_true h), if_pos h, List.map_map]
    refine List.map_congr_left fun x _ => ?_
    by_cases hx : (Sum.inl x : Key) = Sum.inl k
    · simp [hx]
    · simp [hx]
  · rw [if_neg (by simpa using h), if_neg h, List.map_append]
    rfl
theorem ex_dispS {k : Int} (h : Ev te ρ H (.int k)) : EvX (tDisp [(te, tC (.bl true))]) ρ H (fun p H => DicS p [k] H) := fun σ H1 Q a En q p hp =>
  h σ _ _ (a.trans (Evl.Ex.new hp)) (En.ex (Evl.Ex.new hp)) fun x H2 e2 t2 => by
    have hk := e2 _ _ (upd_same (H := H1) (a := p) (o := .dK []))
    refine ⟨hk, [(Sum.inl k, .bl true)], by rw [t2.invI]; rfl, (by show 1 ≤ 15; decide), q p _ hp (Evl.Ex.mut ((Evl.Ex.new hp).trans e2) hp) ?_⟩
    show upd H2 p _ p = _
    rw [upd_same]
    rfl
theorem x_dputS {k : Int} {ks : List Int} (hD : DicS p ks H) (hz : ks.length ≤ 1000) (En : Env σ H ρ) (ha : Ev td ρ H (.ptr p)) (hb : Ev te ρ H (.int k)) (kk : ∀ o H1, Ex H H1 → DicS p (addK ks k) (upd H1 p o) → (∀ xs, H1 p ≠ some (.tup xs)) → D0.nx σ (upd H1 p o)) : sDPut td te (tC (.bl true)) D0 σ H :=
  ha σ H _ (exr H) En fun x H2 e2 t2 => hb σ H2 _ e2 (En.ex e2) fun y H3 e3 t3 => by
    have h1 := hD.ex (e2.trans e3)
    refine ⟨p, upd H3 p (.dK (putK (ks.map fun k => ((Sum.inl k : Key), V.bl true)) (Sum.inl k) (.bl true))), t2.invP, ?_, kk _ H3 (e2.trans e3) ?_ fun xs z => by rw [h1] at z; cases z⟩
    · rw [t3.invI]
      exact DPut.k (k := Sum.inl k) h1 (by rw [List.length_map]; exact Nat.lt_of_le_of_lt hz (by decide))
    · show upd H3 p _ p = _
      rw [upd_same, putK_S]
/-- sorted(the members) -/
abbrev rSortedDI : List V → Hp → VK → Prop := fun xs H Q => ∃ (a : Addr) (kvs : List (Key × V)) (ks : List Int), xs = [.ref a] ∧ Rd H a (.dK kvs) ∧ kvs.map (·.1) = ks.map Sum.inl ∧ ks.length < 64 ∧ ∀ (ys : List Int) (p : Addr), ys.Perm ks → ys.Pairwise (· ≤ ·) → H p = none → Q (.ref p) (upd H p (.lst (ys.map V.int)))
theorem el_sortedS {ks : List Int} (hD : DicS p ks H) (hz : ks.length < 64) (ha : Ev td ρ H (.ptr p)) : EvL (tCB rSortedDI (tCons td tNil)) ρ H ((sortI ks).map .int) := fun σ H1 Q a En q => ha σ H1 _ a En fun x H2 e2 t2 => by
  have h1 := hD.ex (a.trans e2)
  rw [t2.invP]
  refine ⟨p, _, ks, rfl, .inl h1, by rw [List.map_map]; rfl, hz, fun ys r k1 k2 hr => ?_⟩
  rw [← sortI_eq k1 k2]
  exact q r _ (fresh_back e2 hr) (e2.trans (Evl.Ex.new hr)) ⟨_, upd_same, Tps.ofInts _⟩

/-! ### isinstance -/
/-- the built-in class of data -/
def D.cls : D → String
  | .non => "NoneType"
  | .bl _ => "bool"
  | .int _ => "int"
  | .str _ => "str"
  | .tup _ => "tuple"
  | .ptr _ => ""
theorem Tp.tyX {v : V} (h : Tp H v d) (hp : ∀ a, d ≠ .ptr a) : TyX K H v (.type d.cls) := by
  cases h with
  | non => exact .base .non
  | bl b => exact .base (.bl b)
  | int i => exact .base (.int i)
  | str x => exact .base (.str x)
  | ptr a => exact absurd rfl (hp a)
  | tup h l e => exact .base (.tup h)
theorem ev_isi {T : String} {b : Bool} (h : Ev te ρ H d) (hp : ∀ a, d ≠ .ptr a) (hk : kitB d.cls T = some b) : Ev (tCB (rIsi K) (tCons te (tCons (tC (.ty T)) tNil))) ρ H (.bl b) := fun σ H1 Q a En q => h σ H1 _ a En fun v H2 e2 t2 =>
  ⟨v, .ty T, .type d.cls, .type T, b, rfl, .ty T, t2.tyX hp, kit_ty hk, q _ H2 e2 (.bl b)⟩
theorem ev_isiT (h : Ev te ρ H (.tup ds)) : Ev (tCB (rIsi K) (tCons te (tCons (tC (.ty "tuple")) tNil))) ρ H (.bl true) := ev_isi h (fun _ z => nomatch z) (show kitB "tuple" "tuple" = some true by decide +kernel)
theorem ev_isiI {i : Int} (h : Ev te ρ H (.int i)) : Ev (tCB (rIsi K) (tCons te (tCons (tC (.ty "int")) tNil))) ρ H (.bl true) := ev_isi h (fun _ z => nomatch z) (show kitB "int" "int" = some true by decide +kernel)
theorem ev_isiB {i : Int} (h : Ev te ρ H (.int i)) : Ev (tCB (rIsi K) (tCons te (tCons (tC (.ty "bool")) tNil))) ρ H (.bl false) := ev_isi h (fun _ z => nomatch z) (show kitB "int" "bool" = some false by decide +kernel)
theorem kit_tt : kitB "tuple" "tuple" = some true := by decide +kernel
theorem kit_ii : kitB "int" "int" = some true := by decide +kernel
theorem kit_ib : kitB "int" "bool" = some false := by decide +kernel
end
end Hn


namespace Hn
open PySem L2
/-- a list or a tuple at p -/
def Seq (H : Hp) (p : Addr) (ds : List D) : Prop := ∃ xs, (H p = some (.lst xs) ∨ H p = some (.tup xs)) ∧ Tps H xs ds
theorem Seq.ex {H H' : Hp} {p : Addr} {ds : List D} (h : Seq H p ds) (e : Ex H H') : Seq H' p ds := by
  obtain ⟨xs, h1, h2⟩ := h
  exact ⟨xs, h1.imp (e _ _) (e _ _), h2.ex e⟩
section
variable {K : PySem.W.Frag} {ρ ρ' : List (Option D)} {H H' : Hp} {ta tb tc te tx td tv : TE} {t u : TT} {d e z : D} {ds es : List D} {ts tr : TA} {b : Bool} {E : XK} {σ : L2.St} {D0 : Ends} {tz tu : TS} {p : Addr} {wi : TI}
theorem ev_lenQ (hS : Seq H p ds) (h : Ev te ρ H (.ptr p)) : Ev (tCB (rLenS K) (tCons te tNil)) ρ H (.int ds.length) := ev_cb (ea_cons h ea_nil) fun vs H1 Q e1 t q => by
  obtain ⟨v, ys, rfl, h1, h2⟩ := t.inv
  rw [h2.inv0, h1.invP]
  obtain ⟨xs, k1, k2⟩ := hS.ex e1
  refine ⟨p, xs, rfl, k1.imp SqL.of SqT.of, ?_⟩
  rw [k2.1]
  exact q _ H1 (exr H1) (.int _)
theorem ev_ixQ {i : Int} (hS : Seq H p ds) (ha : Ev ta ρ H (.ptr p)) (hb : Ev tb ρ H (.int i)) (h : atI ds i = some d) : Ev (tOp (rIx K) ta tb) ρ H d := ev_op ha hb fun x y H1 Q e1 t1 t2 q => by
  obtain ⟨xs, h1, h2⟩ := hS.ex e1
  obtain ⟨v, h3, h4⟩ := atI_tps h2 h
  rcases h1 with h1 | h1
  · exact .inl ⟨p, xs, i, v, t1.invP, t2.invI, SqL.of h1, h3, q v H1 (exr H1) h4⟩
  · exact .inr (.inl ⟨p, xs, i, v, t1.invP, t2.invI, SqT.of h1, h3, q v H1 (exr H1) h4⟩)
theorem ev_allT {α : Type} {xs : List α} (h : EvL te ρ H (xs.map fun _ => D.bl true)) : Ev (tCB (rAll K) (tCons te tNil)) ρ H (.bl true) := by
  have e : (xs.map fun _ => D.bl true) = (xs.map fun _ => true).map .bl := by rw [List.map_map]; rfl
  rw [e] at h
  refine ev_is (ev_all h) ?_
  have : ((xs.map fun _ => true).all id) = true := List.all_eq_true.mpr fun x hx => by
    obtain ⟨_, _, rfl⟩ := List.mem_map.mp hx
    rfl
  rw [this]
theorem el_mapN {α : Type} {xs : List α} {enc : α → D} {j : Nat} (hi : EvI wi ρ H (xs.map enc)) (v : α → D) (hl : xs.length ≤ 50000) (he : ∀ d ∈ xs, Ev te ((wipeD ρ [j]).set j (some (enc d))) H (v d)) : EvL (tLc wi (gName j) tYes te [j]) ρ H (xs.map v) :=
  el_map hi v (fun d => (wipeD ρ [j]).set j (some (enc d))) hl (fun _ _ => tg_name List.mem_cons_self) he
theorem el_lcN {α : Type} {xs : List α} {enc : α → D} {j : Nat} (hi : EvI wi ρ H (xs.map enc)) (f : α → Bool) (v : α → D) (hl : xs.length ≤ 50000) (ht : ∀ d ∈ xs, EvT t ((wipeD ρ [j]).set j (some (enc d))) H (f d)) (he : ∀ d ∈ xs, f d = true → Ev te ((wipeD ρ [j]).set j (some (enc d))) H (v d)) : EvL (tLc wi (gName j) t te [j]) ρ H ((xs.filter f).map v) :=
  el_lc hi f v (fun d => (wipeD ρ [j]).set j (some (enc d))) hl (fun _ _ => tg_name List.mem_cons_self) ht he
/-- over numbered items, the target a pair of names -/
theorem numbered_map {α : Type} (enc : α → D) : ∀ (k : Nat) (xs : List α), numbered k (xs.map enc) = (xs.zipIdx k).map fun p => .tup [.int (p.2 : Nat), enc p.1]
  | _, [] => rfl
  | k, x :: xs => by
    rw [List.map_cons, List.zipIdx_cons, List.map_cons, numbered, numbered_map enc (k + 1) xs]
theorem el_mapP {α : Type} {xs : List α} {enc : α → D} {i j : Nat} (hi : EvI wi ρ H (numbered 0 (xs.map enc))) (v : α × Nat → D) (hl : xs.length ≤ 50000) (he : ∀ p ∈ xs.zipIdx, Ev te (((wipeD ρ [i, j]).set i (some (.int (p.2 : Nat)))).set j (some (enc p.1))) H (v p)) :
    EvL (tLc wi (gTup K 2 (gCons (gName i) (gCons (gName j) gNil))) tYes te [i, j]) ρ H (xs.zipIdx.map v) := by
  rw [numbered_map] at hi
  exact el_map hi v (fun p => ((wipeD ρ [i, j]).set i (some (.int (p.2 : Nat)))).set j (some (enc p.1))) (by rw [List.length_zipIdx]; exact hl) (fun _ _ => tg_pair List.mem_cons_self (List.mem_cons_of_mem _ List.mem_cons_self)) he
theorem el_lcP {α : Type} {xs : List α} {enc : α → D} {i j : Nat} (hi : EvI wi ρ H (numbered 0 (xs.map enc))) (f : α × Nat → Bool) (v : α × Nat → D) (hl : xs.length ≤ 50000) (ht : ∀ p ∈ xs.zipIdx, EvT t (((wipeD ρ [i, j]).set i (some (.int (p.2 : Nat)))).set j (some (enc p.1))) H (f p))
    (he : ∀ p ∈ xs.zipIdx, f p = true → Ev te (((wipeD ρ [i, j]).set i (some (.int (p.2 : Nat)))).set j (some (enc p.1))) H (v p)) : EvL (tLc wi (gTup K 2 (gCons (gName i) (gCons (gName j) gNil))) t te [i, j]) ρ H ((xs.zipIdx.filter f).map v) := by
  rw [numbered_map] at hi
  exact el_lc hi f v (fun p => ((wipeD ρ [i, j]).set i (some (.int (p.2 : Nat)))).set j (some (enc p.1))) (by rw [List.length_zipIdx]; exact hl) (fun _ _ => tg_pair List.mem_cons_self (List.mem_cons_of_mem _ List.mem_cons_self)) ht he
theorem len_range (n : Nat) (h : n ≤ 50000) : (List.range n).length ≤ 50000 := by rw [List.length_range]; exact h
/-- a call with one new list -/
theorem ev_callN {sp : Sp} (h : EvL te ρ H ds) (hs : ∀ p H1 (Q : VK), Lst H1 p ds → (∀ v H2, Ex H1 H2 → Tp H2 v d → Q v H2) → sp [.ref p] H1 Q E) : Ev (tCall sp [] E (tCons te tNil)) ρ H d := fun σ H1 Q a En q => h σ H1 _ a En fun p H2 hp e2 t2 => by
  exact hs p H2 Q t2 fun v H3 e3 t3 => q v H3 (e2.trans e3) t3
theorem atI_some {α : Type} {xs : List α} {j : Nat} {v : α} (h : xs[j]? = some v) : atI xs (j : Int) = some v := atI_nat h
theorem q_forT {g : TG} {tl : TE} (En : Env σ H ρ) (h : Ev tl ρ H (.tup ds)) (Pv : Hp → Nat → L2.St → Hp → Prop) (h0 : ∀ H1, Ex H H1 → Pv H1 0 σ H1) (hk : ∀ H1 i σ' H', Pv H1 i σ' H' → TK H1 H')
    (hs : ∀ H1 i x σ' H' v, Ex H H1 → ds[i]? = some x → Pv H1 i σ' H' → Tp H' v x → g v σ' H' fun σ2 H2 => tu { D0 with nx := Pv H1 (i + 1), ct := Pv H1 (i + 1), bk := tz D0 } σ2 H2) (hd : ∀ H1 σ' H', Ex H H1 → Pv H1 ds.length σ' H' → tz D0 σ' H') : tSeq (tFor (iTup K tl) g tu) tz D0 σ H :=
  x_forT (D0 := { D0 with nx := tz D0 }) En h Pv h0 hk hs hd
/-- over a new list, at q -/
theorem x_forL {g : TG} {tl : TE} (En : Env σ H ρ) (h : EvL tl ρ H ds) (Pv : Hp → Addr → List V → Nat → L2.St → Hp → Prop) (h0 : ∀ H1 q xs, H q = none → Ex H H1 → H1 q = some (.lst xs) → Tps H1 xs ds → Pv H1 q xs 0 σ H1) (hk : ∀ H1 q xs i σ' H', Pv H1 q xs i σ' H' → H' q = some (.lst xs) ∧ TK H1 H')
    (hs : ∀ H1 q xs i x σ' H' v, Ex H H1 → ds[i]? = some x → Pv H1 q xs i σ' H' → Tp H' v x → g v σ' H' fun σ2 H2 => tu { D0 with nx := Pv H1 q xs (i + 1), ct := Pv H1 q xs (i + 1), bk := D0.nx } σ2 H2) (hd : ∀ H1 q xs σ' H', Ex H H1 → Pv H1 q xs ds.length σ' H' → D0.nx σ' H') : tFor (iList K tl) g tu D0 σ H :=
  h σ H _ (exr H) En fun p H1 hp e1 t1 => by
    obtain ⟨xs, h1, h2⟩ := t1
    refine ⟨p, rfl, ⟨xs, SqL.of h1⟩, for_list (xs := xs) (Pv H1 p xs) (h0 H1 p xs hp e1 h1 h2) (fun i σ' H' _ q => SqL.of (hk H1 p xs i σ' H' q).1) (fun i x σ' H' hx q => ?_) (fun σ' H' q => hd H1 p xs σ' H' e1 (by rw [← h2.1]; exact q))⟩
    obtain ⟨d', hd', td⟩ := h2.get' hx
    exact hs H1 p xs i d' σ' H' x e1 hd' q (td.mono (hk H1 p xs i σ' H' q).2)
theorem q_forL {g : TG} {tl : TE} (En : Env σ H ρ) (h : EvL tl ρ H ds) (Pv : Hp → Addr → List V → Nat → L2.St → Hp → Prop) (h0 : ∀ H1 q xs, H q = none → Ex H H1 → H1 q = some (.lst xs) → Tps H1 xs ds → Pv H1 q xs 0 σ H1) (hk : ∀ H1 q xs i σ' H', Pv H1 q xs i σ' H' → H' q = some (.lst xs) ∧ TK H1 H')
    (hs : ∀ H1 q xs i x σ' H' v, Ex H H1 → ds[i]? = some x → Pv H1 q xs i σ' H' → Tp H' v x → g v σ' H' fun σ2 H2 => tu { D0 with nx := Pv H1 q xs (i + 1), ct := Pv H1 q xs (i + 1), bk := tz D0 } σ2 H2) (hd : ∀ H1 q xs σ' H', Ex H H1 → Pv H1 q xs ds.length σ' H' → tz D0 σ' H') : tSeq (tFor (iList K tl) g tu) tz D0 σ H :=
  x_forL (D0 := { D0 with nx := tz D0 }) En h Pv h0 hk hs hd
theorem q_forR1 {g : TG} {n : Int} (En : Env σ H ρ) (h : Ev te ρ H (.int n)) (hn : 0 ≤ n ∧ n < 2 ^ 62) (Pv : Nat → L2.St → Hp → Prop) (h0 : ∀ H1, Ex H H1 → Pv 0 σ H1)
    (hs : ∀ (i : Nat) σ' H', (i : Int) < n → Pv i σ' H' → g (.int (i : Int)) σ' H' fun σ2 H2 => tu { D0 with nx := Pv (i + 1), ct := Pv (i + 1), bk := tz D0 } σ2 H2) (hd : ∀ σ' H', Pv n.toNat σ' H' → tz D0 σ' H') : tSeq (tFor (iRng1 (tCons te tNil)) g tu) tz D0 σ H :=
  x_forR1 (D0 := { D0 with nx := tz D0 }) En h hn Pv h0 hs hd
/-- a tuple that holds something is not () -/
theorem eqv_nil (h : ds ≠ []) : PyData.eqv (D.tup ds).py (D.tup []).py = false := by
  cases ds with
  | nil => exact absurd rfl h
  | cons d ds => simp [D.py, D.pys, PyData.eqv, PyData.eqvAll]
theorem ev_eqNil (ha : Ev ta ρ H (.tup ds)) (p : D.pures ds = true) (h : ds ≠ []) : Ev (tOp (rEqP K) ta (tTup tNil)) ρ H (.bl false) :=
  ev_eqP ha (ev_tup ea_nil (by decide)) (by unfold D.pure; exact p) rfl (Nat.le_trans (Nat.min_le_right _ _) (by decide)) (eqv_nil h)
theorem pures_map {α : Type} {f : α → D} (h : ∀ a, (f a).pure = true) : ∀ xs : List α, D.pures (xs.map f) = true
  | [] => rfl
  | x :: xs => by
    rw [List.map_cons, D.pures, h x, pures_map h xs]
    rfl
def encB (b : List Int) : D := .tup (b.map .int)
def encR (r : List (List Int)) : D := .tup (r.map encB)
theorem pure_encB (b : List Int) : (encB b).pure = true := by
  unfold encB D.pure
  exact pures_map (fun _ => rfl) b
theorem pure_encR (r : List (List Int)) : (encR r).pure = true := by
  unfold encR D.pure
  exact pures_map pure_encB r
end
end Hn


namespace Hn
open PySem PySem.Spec PyProof.Rows L2
/-- the statements of the program's top, by places -/
def top (i : Nat) : Stmt := PySem.Challenge.pw_handnames_k56_whole_levels_are_looks.main.body.getD i (.Pass ⟨0, 0, 0, 0⟩)
/-- the built-in names that the defs use are no globals; the one constant -/
structure Zs (mg : Str → Option Value) : Prop where
  z_isinstance : mg "isinstance" = none
  z_int : mg "int" = none
  z_bool : mg "bool" = none
  z_tuple : mg "tuple" = none
  z_list : mg "list" = none
  z_dict : mg "dict" = none
  z_set : mg "set" = none
  z_all : mg "all" = none
  z_len : mg "len" = none
  z_range : mg "range" = none
  z_sorted : mg "sorted" = none
  z_enumerate : mg "enumerate" = none
  z_zip : mg "zip" = none
  z_repr : mg "repr" = none
  z_rounds : ∃ t, mg "MOST_ROUNDS" = some (.int 4 t)
theorem boot_isinstance : bootBuiltins "isinstance" = some (.builtin "isinstance") := by decide +kernel
theorem boot_all : bootBuiltins "all" = some (.builtin "all") := by decide +kernel
theorem boot_sorted : bootBuiltins "sorted" = some (.builtin "sorted") := by decide +kernel
theorem boot_repr : bootBuiltins "repr" = some (.builtin "repr") := by decide +kernel
theorem boot_len : bootBuiltins "len" = some (.builtin "len") := by decide +kernel
theorem boot_int : bootBuiltins "int" = some (.type "int") := by decide +kernel
theorem boot_bool : bootBuiltins "bool" = some (.type "bool") := by decide +kernel
theorem boot_tuple : bootBuiltins "tuple" = some (.type "tuple") := by decide +kernel
theorem boot_list : bootBuiltins "list" = some (.type "list") := by decide +kernel
theorem boot_dict : bootBuiltins "dict" = some (.type "dict") := by decide +kernel
theorem boot_set : bootBuiltins "set" = some (.type "set") := by decide +kernel
/-- code that is never come to -/
theorem pe_never {X : Cx} {e : Expr} : PE X e (fun _ _ _ => False) := ⟨fun _ _ _ _ _ _ h => h.elim⟩
end Hn


namespace Hn
open PySem PySem.Spec PyProof.Rows L2
section
variable {P : Program} {w : World} {K : PySem.W.Frag} {mg : Str → Option Value} {base : Heap}
abbrev s_is_whole : Stmt := top 2
abbrev N_is_whole : List Str := ["thing", "least", "most"]
abbrev P_is_whole : List Str := ["thing", "least", "most"]
theorem sc_is_whole : FnScope N_is_whole P_is_whole (defScope s_is_whole) := ⟨rfl, rfl, rfl, by decide +kernel, rfl, by decide +kernel, by decide +kernel⟩
def R_is_whole (ds : List D) (d : D) : Prop := ∃ x a b : Int, ds = [.int x, .int a, .int b] ∧ a ≤ x ∧ x ≤ b ∧ d = .bl true
theorem ok_is_whole (Z : Zs mg) (F : DefAt K mg "is_whole" s_is_whole P_is_whole) : FnAt P w K mg base 1 "is_whole" P_is_whole (spD R_is_whole) := by
  refine F.ok sc_is_whole (spD_len fun ds d ⟨_, _, _, e, _⟩ => by rw [e]; rfl) fun f cdv A outer s H vs Q E hr h => ?_
  have nd := sc_is_whole.nd
  obtain ⟨ds, d, t, ⟨x, a, b, rfl, h1, h2, rfl⟩, q⟩ := h
  refine ⟨_,
    (pss_one (ps_ret (pe_and (pe_callB call_isi rfl Z.z_isinstance boot_isinstance (pa_cons (pv 0) (pa_cons (pe_bltn (v := .ty "int") rfl Z.z_int boot_int rfl) pa_nil))) (pe_and (pe_not (pe_callB call_isi rfl Z.z_isinstance boot_isinstance (pa_cons (pv 0) (pa_cons (pe_bltn (v := .ty "bool") rfl Z.z_bool boot_bool rfl) pa_nil)))) (pe_one (pe_chain op_le op_le (pv 1) (pv 0) (pv 2))))))), ?_⟩
  have En := Env.start N_is_whole t
  exact x_ret En (ev_is (ev_andV (ev_isiI (ev_var rfl)) fun _ => ev_andV (ev_notV (ev_isiB (ev_var rfl))) fun _ => ev_chainLe (ev_var rfl) (ev_var rfl) (ev_var rfl)) (by simp [h1, h2])) q
end
end Hn


namespace Hn
open PySem PySem.Spec PyProof.Rows L2
section
variable {P : Program} {w : World} {K : PySem.W.Frag} {mg : Str → Option Value} {base : Heap}
abbrev s_is_rising : Stmt := top 3
abbrev N_is_rising : List Str := ["row", "k"]
abbrev P_is_rising : List Str := ["row"]
theorem sc_is_rising : FnScope N_is_rising P_is_rising (defScope s_is_rising) := ⟨rfl, rfl, rfl, by decide +kernel, rfl, by decide +kernel, by decide +kernel⟩

def spRise : Sp := fun vs H Q _ => ∃ (a : Addr) (ns : List Int), vs = [.ref a] ∧ Seq H a (ns.map .int) ∧ ns.Pairwise (· < ·) ∧ ns.length ≤ 1000 ∧ ∀ v H', Ex H H' → Tp H' v (.bl true) → Q v H'
theorem up_next {ns : List Int} (h : ns.Pairwise (· < ·)) {i : Nat} {a b : Int} (ha : ns[i]? = some a) (hb : ns[i + 1]? = some b) : a < b := by
  obtain ⟨h1, rfl⟩ := List.getElem?_eq_some_iff.mp ha
  obtain ⟨h2, rfl⟩ := List.getElem?_eq_some_iff.mp hb
  exact List.pairwise_iff_getElem.mp h i (i + 1) h1 h2 (Nat.lt_succ_self i)
theorem ok_is_rising (Z : Zs mg) (F : DefAt K mg "is_rising" s_is_rising P_is_rising) : FnAt P w K mg base 1 "is_rising" P_is_rising spRise := by
  refine F.ok sc_is_rising (fun vs H Q E ⟨_, _, e, _⟩ => by rw [e]; rfl) fun f cdv A outer s H vs Q E hr h => ?_
  have nd := sc_is_rising.nd
  obtain ⟨a, ns, rfl, hS, hp, hl, q⟩ := h
  refine ⟨_, 
    (pss_one (ps_ret (pe_callB (cr_all rfl : CallR _ _ (rAll K)) rfl Z.z_all boot_all (pa_cons (pe_lc (own := [("k", 1)]) (g := gName 1) rfl nd (pi_range2 rfl Z.z_range (pa_cons pe_int (pa_cons (pe_callB (call_len_seq : CallR _ _ (rLenS K)) rfl Z.z_len boot_len (pa_cons (pv 0) pa_nil)) pa_nil))) (blkOk_by (own := [("k", 1)]) (N := N_is_rising) (sc := defScope s_is_rising) (by decide +kernel)) (fun _ _ _ _ _ => (pg_name (i := 1) nd rfl (Or.inl rfl))) (fun _ _ _ _ _ => pts_nil) (fun _ _ _ _ _ => (pe_cmpR op_lt (pe_ix (ix_seq : IxR _ (rIx K)) (pv 0) (pe_op op_sub (pv 1) pe_int) (fun _ _ => rfl)) (pe_ix (ix_seq : IxR _ (rIx K)) (pv 0) (pv 1) (fun _ _ => rfl)) (nomark _)))) pa_nil)))), ?_⟩
  have En := Env.start N_is_rising (Tps.cons (.ptr a) (Tps.nil (H := H)))
  have hlen : (ns.map D.int).length = ns.length := List.length_map _
  refine x_ret En (ev_allT (el_mapN (xs := List.range ((ns.map D.int).length - 1 : Int).toNat) (ei_range2 ev_int (ev_lenQ hS (ev_var rfl)) (by omega)) (fun _ => .bl true) (len_range _ (by omega)) fun i hi => ?_)) q
  have hi' : i < ((ns.map D.int).length - 1 : Int).toNat := List.mem_range.mp hi
  have h1 : i < ns.length := by omega
  have h2 : i + 1 < ns.length := by omega
  have e1 : ns[i]? = some ns[i] := List.getElem?_eq_getElem h1
  have e2 : ns[i + 1]? = some ns[i + 1] := List.getElem?_eq_getElem h2
  have k1 : (1 : Int) + (i : Int) - 1 = ((i : Nat) : Int) := by omega
  have k2 : (1 : Int) + (i : Int) = ((i + 1 : Nat) : Int) := by omega
  refine ev_is (ev_lt (ev_ixQ (d := .int ns[i]) hS (ev_var rfl) (ev_sub (ev_var rfl) ev_int) (by rw [k1]; exact atI_some (by rw [List.getElem?_map, e1]; rfl))) (ev_ixQ (d := .int ns[i + 1]) hS (ev_var rfl) (ev_var rfl) (by rw [k2]; exact atI_some (by rw [List.getElem?_map, e2]; rfl)))) ?_
  rw [decide_eq_true (up_next hp e1 e2)]
end
end Hn


namespace Hn
open PySem PySem.Spec PyProof.Rows L2
/-! stands as data -/
inductive Hr where
  | out | look (l : Int) | put (l : Int) | holds (v : List Int)
def Hr.enc : Hr → D
  | .out => .tup [.str "out"]
  | .look l => .tup [.str "look", .int l]
  | .put l => .tup [.str "put", .int l]
  | .holds v => .tup [.str "holds", encB v]
def encX : Option Int → D
  | none => .non
  | some b => .int b
def encS (bs : List (Option Int)) (hs : List Hr) : D := .tup [.tup (bs.map encX), .tup (hs.map Hr.enc)]
def inBox (l : Int) : Option Int → Bool
  | none => false
  | some b => decide (b ≤ l)
def within (bs : List (Option Int)) (l : Int) : List Int := (bs.zipIdx.filter fun p => inBox l p.1).map fun p => (p.2 : Int)
def behind (bs : List (Option Int)) (l : Int) : Hr := if l ≤ (within bs l).length then .holds (within bs l) else .put (l - 1)
theorem l1 {α : Type} {x : α} : [x].length ≤ 100000 := by
  show 1 ≤ 100000
  decide
theorem l2 {α : Type} {x y : α} : [x, y].length ≤ 100000 := by
  show 2 ≤ 100000
  decide
theorem encX_non (b : Option Int) : (encX b).isNon = b.isNone := by cases b <;> rfl
theorem pe_bmK {X : Cx} {K : PySem.W.Frag} {o e : Expr} {es : List Expr} {to : TE} {t : TA} {name : Str} {apos cpos : Pos} {T id : String} {r : V → List V → Hp → VK → Prop} (hK : X.K = K) (pa : PlainAttrs T) (slot : Slot T name id) (hty : typeOf (.builtin id) = pure (.type "method_descriptor")) (hm : MtR X id r) (ho : PE X o to) (ha : PA X (e :: es) t)
    (hbase : attributeBase o name X.env (eval o X.env) = eval o X.env := by rfl)
    (hfew : ((backTo cpos (starEach (e :: es) X.env)).all (fun x => !x.1) && (backToKw cpos (keywordEach [] X.env)).all (fun x => x.1.isSome)
      && decide ((e :: es).length + ([] : List Keyword).length + (if ([] : List Keyword).isEmpty then 0 else 1) < 30)) = true := by rfl)
    (hline : (apos.endLine == cpos.line) = true := by rfl) (hs : starEach (e :: es) X.env = (false, eval e X.env) :: starEach es X.env := by rfl) (hplain : (backTo cpos (starEach es X.env)).any (·.1) = false := by rfl) :
    PE X (.Call (.Attribute o name apos) (e :: es) [] cpos) (tBM K T r to t) := by
  subst hK
  exact pe_bm pa slot hty hm ho ha hbase hfew hline hs hplain
section
variable {P : Program} {w : World} {K : PySem.W.Frag} {mg : Str → Option Value} {base : Heap}
abbrev s_first_levels : Stmt := top 18
abbrev N_first_levels : List Str := ["many"]
abbrev P_first_levels : List Str := ["many"]
theorem sc_first_levels : FnScope N_first_levels P_first_levels (defScope s_first_levels) := ⟨rfl, rfl, rfl, by decide +kernel, rfl, by decide +kernel, by decide +kernel⟩

def R_first_levels (ds : List D) (d : D) : Prop := ∃ n : Int, ds = [.int n] ∧ 1 ≤ n ∧ n ≤ 1000 ∧ d = encS (List.replicate n.toNat none) (List.replicate n.toNat .out)
theorem ok_first_levels (Z : Zs mg) (F : DefAt K mg "first_levels" s_first_levels P_first_levels) : FnAt P w K mg base 1 "first_levels" P_first_levels (spD R_first_levels) := by
  refine F.ok sc_first_levels (spD_len fun ds d ⟨_, e, _⟩ => by rw [e]; rfl) fun f cdv A outer s H vs Q E hr h => ?_
  have nd := sc_first_levels.nd
  obtain ⟨ds, d, t, ⟨n, rfl, h1, h2, rfl⟩, q⟩ := h
  refine ⟨_, 
    (pss_one (ps_ret (pe_tup (pa_cons (pe_op (op_repA : OpR _ _ (rRepA K)) (pe_tup (pa_cons pe_non pa_nil)) (pv 0)) (pa_cons (pe_op (op_repA : OpR _ _ (rRepA K)) (pe_tup (pa_cons (pe_tup (pa_cons pe_str pa_nil)) pa_nil)) (pv 0)) pa_nil))))), ?_⟩
  have En := Env.start N_first_levels t
  refine x_ret En (ev_is (ev_tup (ea_cons (ev_rep (ev_tup (ea_cons ev_non ea_nil) l1) (ev_var rfl) h1 h2) (ea_cons (ev_rep (ev_tup (ea_cons (ev_tup (ea_cons ev_str ea_nil) l1) ea_nil) l1) (ev_var rfl) h1 h2) ea_nil)) l2) ?_) q
  unfold encS
  rw [List.map_replicate, List.map_replicate]
  rfl
abbrev s_laid_at : Stmt := top 19
abbrev N_laid_at : List Str := ["row", "at", "thing"]
abbrev P_laid_at : List Str := ["row", "at", "thing"]
theorem sc_laid_at : FnScope N_laid_at P_laid_at (defScope s_laid_at) := ⟨rfl, rfl, rfl, by decide +kernel, rfl, by decide +kernel, by decide +kernel⟩

def R_laid_at (ds : List D) (d : D) : Prop := ∃ (xs : List D) (j : Nat) (x : D), ds = [.tup xs, .int j, x] ∧ j < xs.length ∧ xs.length ≤ 1000 ∧ d = .tup (xs.set j x)
theorem cut_lo {α : Type} {xs : List α} {j : Nat} (h : j ≤ xs.length) : cutD xs none (some (j : Int)) = xs.take j := by
  unfold cutD
  have e1 : HT.sIx xs.length 0 none = 0 := rfl
  have e2 : HT.sIx xs.length xs.length (some (j : Int)) = j := by
    rw [HT.sIx_nat]
    omega
  rw [e1, e2]
  simp
theorem cut_hi {α : Type} {xs : List α} {j : Nat} (h : j ≤ xs.length) : cutD xs (some (j : Int)) none = xs.drop j := by
  unfold cutD
  have e1 : HT.sIx xs.length 0 (some (j : Int)) = j := by
    rw [HT.sIx_nat]
    omega
  have e2 : HT.sIx xs.length xs.length none = xs.length := rfl
  rw [e1, e2, List.take_of_length_le (by rw [List.length_drop]; omega)]
theorem set_cut {α : Type} : ∀ {xs : List α} {j : Nat} {x : α}, j < xs.length → xs.take j ++ [x] ++ xs.drop (j + 1) = xs.set j x
  | [], _, _, h => absurd h (Nat.not_lt_zero _)
  | _ :: _, 0, _, _ => rfl
  | y :: ys, j + 1, x, h => congrArg (y :: ·) (set_cut (xs := ys) (j := j) (x := x) (Nat.lt_of_succ_lt_succ h))
theorem ok_laid_at (Z : Zs mg) (F : DefAt K mg "laid_at" s_laid_at P_laid_at) : FnAt P w K mg base 1 "laid_at" P_laid_at (spD R_laid_at) := by
  refine F.ok sc_laid_at (spD_len fun ds d ⟨_, _, _, e, _⟩ => by rw [e]; rfl) fun f cdv A outer s H vs Q E hr h => ?_
  have nd := sc_laid_at.nd
  obtain ⟨ds, d, t, ⟨xs, j, x, rfl, h1, h2, rfl⟩, q⟩ := h
  refine ⟨_, 
    (pss_one (ps_ret (pe_op (op_catA : OpR _ _ (rCatA K)) (pe_op (op_catA : OpR _ _ (rCatA K)) (pe_slice (sl_tupA : SlR _ (rSlA K)) (pv 0) po_none (po_some (pv 1))) (pe_tup (pa_cons (pv 2) pa_nil))) (pe_slice (sl_tupA : SlR _ (rSlA K)) (pv 0) (po_some (pe_op op_add (pv 1) pe_int)) po_none)))), ?_⟩
  have En := Env.start N_laid_at t
  have m1 : (cutD xs none (some (j : Int))).length ≤ xs.length := by rw [cut_lo (Nat.le_of_lt h1)]; rw [List.length_take]; omega
  have m2 : (cutD xs (some ((j : Int) + 1)) none).length ≤ xs.length := by
    have e := cut_hi (xs := xs) (j := j + 1) h1
    rw [Int.natCast_succ] at e
    rw [e, List.length_drop]
    omega
  refine x_ret En (ev_is (ev_cat (ev_cat (ev_slT (ev_var rfl) eo_none (eo_some (ev_var rfl))) (ev_tup (ea_cons (ev_var rfl) ea_nil) l1) (by simp only [List.length_cons, List.length_nil]; omega)) (ev_slT (ev_var rfl) (eo_some (ev_add (ev_var rfl) ev_int)) eo_none) (by simp only [List.length_append, List.length_cons, List.length_nil]; omega)) ?_) q
  have e := cut_hi (xs := xs) (j := j + 1) h1
  rw [Int.natCast_succ] at e
  rw [cut_lo (Nat.le_of_lt h1), e, set_cut h1]
abbrev s_hands_within : Stmt := top 20
abbrev N_hands_within : List Str := ["boxes", "level", "hand", "box"]
abbrev P_hands_within : List Str := ["boxes", "level"]
theorem sc_hands_within : FnScope N_hands_within P_hands_within (defScope s_hands_within) := ⟨rfl, rfl, rfl, by decide +kernel, rfl, by decide +kernel, by decide +kernel⟩

def R_hands_within (ds : List D) (d : D) : Prop := ∃ (bs : List (Option Int)) (l : Int), ds = [.tup (bs.map encX), .int l] ∧ bs.length ≤ 1000 ∧ d = encB (within bs l)
theorem ok_hands_within (Z : Zs mg) (F : DefAt K mg "hands_within" s_hands_within P_hands_within) : FnAt P w K mg base 1 "hands_within" P_hands_within (spD R_hands_within) := by
  refine F.ok sc_hands_within (spD_len fun ds d ⟨_, _, e, _⟩ => by rw [e]; rfl) fun f cdv A outer s H vs Q E hr h => ?_
  have nd := sc_hands_within.nd
  obtain ⟨ds, d, t, ⟨bs, l, rfl, h2, rfl⟩, q⟩ := h
  refine ⟨_, 
    (pss_one (ps_ret (pe_callTy (call_tuple_of : CallR _ _ (rTupleS K)) rfl Z.z_tuple boot_tuple (pa_cons (pe_lc (own := [("hand", 2), ("box", 3)]) (g := gTup K 2 (gCons (gName 2) (gCons (gName 3) gNil))) rfl nd (pi_enumT rfl Z.z_enumerate (pa_cons (pv 0) pa_nil)) (blkOk_by (own := [("hand", 2), ("box", 3)]) (N := N_hands_within) (sc := defScope s_hands_within) (by decide +kernel)) (fun _ _ _ _ _ => (pg_tup rfl (pgs_cons (pg_name (i := 2) nd rfl (Or.inl rfl)) (pgs_cons (pg_name (i := 3) nd rfl (Or.inl rfl)) pgs_nil)))) (fun _ _ _ _ _ => (pts_one (PW.pt (pw_and (pt_cmpR op_notN (pv 3) pe_non (nomark _)) (pw_and1 (pt_cmpR op_le (pv 3) (pv 1) (nomark _))))))) (fun _ _ _ _ _ => (pv 2))) pa_nil)))), ?_⟩
  have En := Env.start N_hands_within t
  refine x_ret En (ev_is (ev_tupleN (el_lcP (ei_enumT (ev_var rfl)) (fun p => inBox l p.1) (fun p => .int (p.2 : Nat)) (by omega) (fun p _ => ?_) fun p _ _ => ev_var rfl)) ?_) q
  · refine et_is (et_and (et_test (ev_notN (ev_var rfl) ev_non)) (b := inBox l p.1) fun hn => ?_) ?_
    · obtain ⟨b, i⟩ := p
      cases b with
      | none => cases hn
      | some b => exact et_test (ev_le (ev_var rfl) (ev_var rfl))
    · obtain ⟨b, i⟩ := p
      cases b <;> rfl
  · unfold encB within
    rw [List.map_map]
    rfl
abbrev s_behind_look : Stmt := top 21
abbrev N_behind_look : List Str := ["boxes", "level", "seen"]
abbrev P_behind_look : List Str := ["boxes", "level"]
theorem sc_behind_look : FnScope N_behind_look P_behind_look (defScope s_behind_look) := ⟨rfl, rfl, rfl, by decide +kernel, rfl, by decide +kernel, by decide +kernel⟩

def R_behind_look (ds : List D) (d : D) : Prop := ∃ (bs : List (Option Int)) (l : Int), ds = [.tup (bs.map encX), .int l] ∧ bs.length ≤ 1000 ∧ d = (behind bs l).enc
theorem ok_behind_look (Z : Zs mg) (F : DefAt K mg "behind_look" s_behind_look P_behind_look) (F_hands_within : FnAt P w K mg base 1 "hands_within" P_hands_within (spD R_hands_within)) : FnAt P w K mg base 2 "behind_look" P_behind_look (spD R_behind_look) := by
  refine F.ok sc_behind_look (spD_len fun ds d ⟨_, _, e, _⟩ => by rw [e]; rfl) fun f cdv A outer s H vs Q E hr h => ?_
  have nd := sc_behind_look.nd
  obtain ⟨ds, d, t, ⟨bs, l, rfl, h2, rfl⟩, q⟩ := h
  refine ⟨_, 
    (pss_cons (ps_set (i := 2) nd rfl (Or.inl rfl) (pe_fn F_hands_within (hr.mono (by decide)) rfl (pa_cons (pv 0) (pa_cons (pv 1) pa_nil)))) 
    (pss_one (ps_ret (pe_ifExp (pt_cmpR op_le (pv 1) (pe_callB (call_len_seq : CallR _ _ (rLenS K)) rfl Z.z_len boot_len (pa_cons (pv 2) pa_nil)) (nomark _)) (pe_tup (pa_cons pe_str (pa_cons (pv 2) pa_nil))) (pe_tup (pa_cons pe_str (pa_cons (pe_op op_sub (pv 1) pe_int) pa_nil))))))), ?_⟩
  have En := Env.start N_behind_look t
  refine q_asg En (ev_call (ea_cons (ev_var rfl) (ea_cons (ev_var rfl) ea_nil)) ⟨bs, l, rfl, h2, rfl⟩) fun σ1 H1 e1 En => ?_
  refine x_ret En (ev_if (b := decide (l ≤ (within bs l).length)) (et_is (et_test (ev_le (ev_var rfl) (ev_lenT (ds := (within bs l).map .int) (ev_var rfl)))) (by rw [List.length_map])) (fun hb => ?_) fun hb => ?_) (fun v H2 e2 t2 => q v H2 (e1.trans e2) t2)
  · refine ev_is (ev_tup (ea_cons ev_str (ea_cons (ev_var rfl) ea_nil)) l2) ?_
    unfold behind
    rw [if_pos (of_decide_eq_true hb)]
    rfl
  · refine ev_is (ev_tup (ea_cons ev_str (ea_cons (ev_sub (ev_var rfl) ev_int) ea_nil)) l2) ?_
    unfold behind
    rw [if_neg (of_decide_eq_false hb)]
    rfl
end
end Hn


namespace Hn
open PySem PySem.Spec PyProof.Rows L2
def stepB (bs : List (Option Int)) (hs : List Hr) (j : Nat) : List (Option Int) := match hs[j]? with
  | some .out => bs.set j (some (bs.length : Int))
  | some (.put l) => bs.set j (some l)
  | _ => bs
def stepH (bs : List (Option Int)) (hs : List Hr) (j : Nat) : List Hr := match hs[j]? with
  | some .out => hs.set j (.look (bs.length : Int))
  | some (.put l) => hs.set j (.look l)
  | some (.look l) => hs.set j (behind bs l)
  | _ => hs
def Hr.done : Hr → Bool
  | .holds _ => true
  | _ => false
/-- the word ahead -/
def Hr.word : Hr → Str
  | .out => "out"
  | .look _ => "look"
  | .put _ => "put"
  | .holds _ => "holds"
def Hr.rest : Hr → List D
  | .out => []
  | .look l => [.int l]
  | .put l => [.int l]
  | .holds v => [encB v]
theorem Hr.enc_eq (x : Hr) : x.enc = .tup (.str x.word :: x.rest) := by cases x <;> rfl
theorem word_holds (x : Hr) : decide (x.word = ("holds" : Str)) = x.done := by cases x <;> rfl
section
variable {P : Program} {w : World} {K : PySem.W.Frag} {mg : Str → Option Value} {base : Heap}
variable {ρ ρ' : List (Option D)} {H H' : Hp} {ta tb tc te tx tl : TE}
/-- x[0] -/
theorem ev_word {x : Hr} (h : Ev te ρ H x.enc) : Ev (tOp (rIxT K) te (tC (.int 0))) ρ H (.str x.word) := ev_ixT (ds := .str x.word :: x.rest) (by rw [← Hr.enc_eq]; exact h) ev_int (atI_some (j := 0) rfl)
abbrev s_step_levels : Stmt := top 22
abbrev N_step_levels : List Str := ["stand", "hand", "boxes", "hands", "here", "level"]
abbrev P_step_levels : List Str := ["stand", "hand"]
theorem sc_step_levels : FnScope N_step_levels P_step_levels (defScope s_step_levels) := ⟨rfl, rfl, rfl, by decide +kernel, rfl, by decide +kernel, by decide +kernel⟩

def R_step_levels (ds : List D) (d : D) : Prop := ∃ (bs : List (Option Int)) (hs : List Hr) (j : Nat) (x : Hr), ds = [encS bs hs, .int j] ∧ bs.length = hs.length ∧ hs.length ≤ 1000 ∧ hs[j]? = some x ∧ x.done = false ∧ d = encS (stepB bs hs j) (stepH bs hs j)
theorem ok_step_levels (Z : Zs mg) (F : DefAt K mg "step_levels" s_step_levels P_step_levels) (F_laid_at : FnAt P w K mg base 1 "laid_at" P_laid_at (spD R_laid_at)) (F_behind_look : FnAt P w K mg base 2 "behind_look" P_behind_look (spD R_behind_look)) : FnAt P w K mg base 3 "step_levels" P_step_levels (spD R_step_levels) := by
  refine F.ok sc_step_levels (spD_len fun ds d ⟨_, _, _, _, e, _⟩ => by rw [e]; rfl) fun f cdv A outer s H vs Q E hr h => ?_
  have nd := sc_step_levels.nd
  obtain ⟨ds, d, t, ⟨bs, hs, j, x, rfl, hl, h2, hx, hdn, rfl⟩, q⟩ := h
  refine ⟨_, 
    (pss_cons (ps_asg (pv 0) (pg_tup rfl (pgs_cons (pg_name (i := 2) nd rfl (Or.inl rfl)) (pgs_cons (pg_name (i := 3) nd rfl (Or.inl rfl)) pgs_nil)))) 
    (pss_cons (ps_set (i := 4) nd rfl (Or.inl rfl) (pe_ix (ix_tup : IxR _ (rIxT K)) (pv 3) (pv 1) (fun _ _ => rfl))) 
    (pss_cons (ps_if (pt_cmpR op_eq (pe_ix (ix_tup : IxR _ (rIxT K)) (pv 4) pe_int (fun _ _ => rfl)) pe_str (nomark _)) 
      (pss_one ps_never) pss_nil) 
    (pss_cons (ps_if (pt_cmpR op_eq (pe_ix (ix_tup : IxR _ (rIxT K)) (pv 4) pe_int (fun _ _ => rfl)) pe_str (nomark _)) 
      (pss_one (ps_ret (pe_tup (pa_cons (pv 2) (pa_cons (pe_fn F_laid_at (hr.mono (by decide)) rfl (pa_cons (pv 3) (pa_cons (pv 1) (pa_cons (pe_fn F_behind_look (hr.mono (by decide)) rfl (pa_cons (pv 2) (pa_cons (pe_ix (ix_tup : IxR _ (rIxT K)) (pv 4) pe_int (fun _ _ => rfl)) pa_nil))) pa_nil)))) pa_nil))))) pss_nil) 
    (pss_cons (ps_set (i := 5) nd rfl (Or.inl rfl) (pe_ifExp (pt_cmpR op_eq (pe_ix (ix_tup : IxR _ (rIxT K)) (pv 4) pe_int (fun _ _ => rfl)) pe_str (nomark _)) (pe_callB (call_len_seq : CallR _ _ (rLenS K)) rfl Z.z_len boot_len (pa_cons (pv 2) pa_nil)) (pe_ix (ix_tup : IxR _ (rIxT K)) (pv 4) pe_int (fun _ _ => rfl)))) 
    (pss_one (ps_ret (pe_tup (pa_cons (pe_fn F_laid_at (hr.mono (by decide)) rfl (pa_cons (pv 2) (pa_cons (pv 1) (pa_cons (pv 5) pa_nil)))) (pa_cons (pe_fn F_laid_at (hr.mono (by decide)) rfl (pa_cons (pv 3) (pa_cons (pv 1) (pa_cons (pe_tup (pa_cons pe_str (pa_cons (pv 5) pa_nil))) pa_nil)))) pa_nil)))))))))), ?_⟩
  have En := Env.start N_step_levels t
  have hj : j < hs.length := (List.getElem?_eq_some_iff.mp hx).1
  refine q_unpack (d := .tup (bs.map encX)) (e := .tup (hs.map Hr.enc)) En (ev_var rfl) fun σ1 H1 e1 En => ?_
  refine q_asg En (ev_ixT (d := x.enc) (ev_var rfl) (ev_var rfl) (atI_some (by rw [List.getElem?_map, hx]; rfl))) fun σ2 H2 e2 En => ?_
  refine q_no En (et_is (et_test (ev_eqS (ev_word (ev_var rfl)) ev_str (word_holds x))) hdn) fun H3 e3 => ?_
  have En := En.ex e3
  have e13 : Ex H H3 := (e1.trans e2).trans e3
  cases x with
  | holds v => cases hdn
  | look l =>
    refine q_if (b := true) En (et_test (ev_eqS (ev_word (x := .look l) (ev_var rfl)) ev_str rfl)) (fun _ H4 e4 => ?_) (fun z => nomatch z)
    have En := En.ex e4
    refine x_ret En (ev_is (ev_tup (ea_cons (ev_var rfl) (ea_cons (ev_call (ea_cons (ev_var rfl) (ea_cons (ev_var rfl) (ea_cons (ev_call (ea_cons (ev_var rfl) (ea_cons (ev_ixT (ds := [.str "look", .int l]) (d := .int l) (ev_var rfl) ev_int rfl) ea_nil)) ⟨bs, l, rfl, by omega, rfl⟩) ea_nil))) ⟨_, j, _, rfl, by rw [List.length_map]; exact hj, by rw [List.length_map]; exact h2, rfl⟩) ea_nil)) l2) ?_) (fun v H5 e5 t5 => q v H5 ((e13.trans e4).trans e5) t5)
    unfold encS stepB stepH
    rw [hx, List.map_set]
  | out =>
    refine q_no En (et_test (ev_eqS (ev_word (x := .out) (ev_var rfl)) ev_str rfl)) fun H4 e4 => ?_
    have En := En.ex e4
    refine q_asg En (ev_if (b := true) (et_test (ev_eqS (ev_word (x := .out) (ev_var rfl)) ev_str rfl)) (fun _ => ev_is (e := .int (bs.length : Int)) (ev_lenT (ev_var rfl)) (by rw [List.length_map])) (fun z => nomatch z)) fun σ5 H5 e5 En => ?_
    refine x_ret En (ev_is (ev_tup (ea_cons (ev_call (ea_cons (ev_var rfl) (ea_cons (ev_var rfl) (ea_cons (ev_var rfl) ea_nil))) ⟨_, j, _, rfl, by rw [List.length_map, hl]; exact hj, by rw [List.length_map, hl]; exact h2, rfl⟩) (ea_cons (ev_call (ea_cons (ev_var rfl) (ea_cons (ev_var rfl) (ea_cons (ev_tup (ea_cons ev_str (ea_cons (ev_var rfl) ea_nil)) l2) ea_nil))) ⟨_, j, _, rfl, by rw [List.length_map]; exact hj, by rw [List.length_map]; exact h2, rfl⟩) ea_nil)) l2) ?_) (fun v H6 e6 t6 => q v H6 (((e13.trans e4).trans e5).trans e6) t6)
    unfold encS stepB stepH
    rw [hx, List.map_set, List.map_set]
    rfl
  | put l =>
    refine q_no En (et_test (ev_eqS (ev_word (x := .put l) (ev_var rfl)) ev_str rfl)) fun H4 e4 => ?_
    have En := En.ex e4
    refine q_asg En (ev_if (b := false) (et_test (ev_eqS (ev_word (x := .put l) (ev_var rfl)) ev_str rfl)) (fun z => nomatch z) fun _ => ev_ixT (ds := [.str "put", .int l]) (d := .int l) (ev_var rfl) ev_int rfl) fun σ5 H5 e5 En => ?_
    refine x_ret En (ev_is (ev_tup (ea_cons (ev_call (ea_cons (ev_var rfl) (ea_cons (ev_var rfl) (ea_cons (ev_var rfl) ea_nil))) ⟨_, j, _, rfl, by rw [List.length_map, hl]; exact hj, by rw [List.length_map, hl]; exact h2, rfl⟩) (ea_cons (ev_call (ea_cons (ev_var rfl) (ea_cons (ev_var rfl) (ea_cons (ev_tup (ea_cons ev_str (ea_cons (ev_var rfl) ea_nil)) l2) ea_nil))) ⟨_, j, _, rfl, by rw [List.length_map]; exact hj, by rw [List.length_map]; exact h2, rfl⟩) ea_nil)) l2) ?_) (fun v H6 e6 t6 => q v H6 (((e13.trans e4).trans e5).trans e6) t6)
    unfold encS stepB stepH
    rw [hx, List.map_set, List.map_set]
    rfl
abbrev s_level_name : Stmt := top 23
abbrev N_level_name : List Str := ["greats", "hand", "here", "size", "lesser", "other"]
abbrev P_level_name : List Str := ["greats", "hand", "here"]
theorem sc_level_name : FnScope N_level_name P_level_name (defScope s_level_name) := ⟨rfl, rfl, rfl, by decide +kernel, rfl, by decide +kernel, by decide +kernel⟩

/-- the law's name -/
def nameOf (gs : List Int) (j : Nat) (v : List Nat) : Int := (v.length : Int) * ((v.length : Int) - 1) / 2 + ((v.filter fun i => decide (gs.getD i 0 < gs.getD j 0)).length : Nat) + 1
def asI (v : List Nat) : List Int := v.map Int.ofNat
def R_level_name (ds : List D) (d : D) : Prop := ∃ (gs : List Int) (j : Nat) (v : List Nat), ds = [.tup (gs.map .int), .int j, (Hr.holds (asI v)).enc] ∧ j < gs.length ∧ (∀ i ∈ v, i < gs.length) ∧ v.length ≤ 1000 ∧ d = .int (nameOf gs j v)
theorem ev_great {gs : List Int} {i : Nat} (hi : i < gs.length) (ha : Ev ta ρ H (.tup (gs.map .int))) (hb : Ev tb ρ H (.int i)) : Ev (tOp (rIxT K) ta tb) ρ H (.int (gs.getD i 0)) :=
  ev_ixT ha hb (atI_some (by rw [List.getElem?_map, List.getElem?_eq_getElem hi, List.getD_eq_getElem?_getD, List.getElem?_eq_getElem hi]; rfl))
theorem ok_level_name (Z : Zs mg) (F : DefAt K mg "level_name" s_level_name P_level_name) : FnAt P w K mg base 1 "level_name" P_level_name (spD R_level_name) := by
  refine F.ok sc_level_name (spD_len fun ds d ⟨_, _, _, e, _⟩ => by rw [e]; rfl) fun f cdv A outer s H vs Q E hr h => ?_
  have nd := sc_level_name.nd
  obtain ⟨ds, d, t, ⟨gs, j, v, rfl, hj, hv, hl, rfl⟩, q⟩ := h
  refine ⟨_, 
    (pss_cons (ps_if (pt_cmpR op_ne (pe_ix (ix_tup : IxR _ (rIxT K)) (pv 2) pe_int (fun _ _ => rfl)) pe_str (nomark _)) 
      (pss_one (ps_ret pe_non)) pss_nil) 
    (pss_cons (ps_set (i := 3) nd rfl (Or.inl rfl) (pe_callB (call_len_seq : CallR _ _ (rLenS K)) rfl Z.z_len boot_len (pa_cons (pe_ix (ix_tup : IxR _ (rIxT K)) (pv 2) pe_int (fun _ _ => rfl)) pa_nil))) 
    (pss_cons (ps_setLc (i := 4) (own := [("other", 5)]) (g := gName 5) rfl nd rfl rfl (sw_true rfl rfl rfl (by decide +kernel)) (pi_tup (pe_ix (ix_tup : IxR _ (rIxT K)) (pv 2) pe_int (fun _ _ => rfl))) (blkOk_by (own := [("other", 5)]) (N := N_level_name) (sc := defScope s_level_name) (by decide +kernel)) (fun _ _ _ _ _ => (pg_name (i := 5) nd rfl (Or.inl rfl))) (fun _ _ _ _ _ => (pts_one (pt_cmpR op_lt (pe_ix (ix_tup : IxR _ (rIxT K)) (pv 0) (pv 5) (fun _ _ => rfl)) (pe_ix (ix_tup : IxR _ (rIxT K)) (pv 0) (pv 1) (fun _ _ => rfl)) (nomark _)))) (fun _ _ _ _ _ => (pv 5))) 
    (pss_one (ps_ret (pe_op op_add (pe_op op_add (pe_op op_fdiv (pe_op op_mul (pv 3) (pe_op op_sub (pv 3) pe_int)) pe_int) (pe_callB (call_len_seq : CallR _ _ (rLenS K)) rfl Z.z_len boot_len (pa_cons (pv 4) pa_nil))) pe_int)))))), ?_⟩
  have En := Env.start N_level_name t
  refine q_no En (et_is (et_test (ev_neS (ev_word (x := .holds (asI v)) (ev_var rfl)) ev_str rfl)) rfl) fun H1 e1 => ?_
  have En := En.ex e1
  refine q_asg En (ev_is (e := .int (v.length : Int)) (ev_lenT (ds := (asI v).map .int) (ev_ixT (ds := [.str "holds", encB (asI v)]) (d := encB (asI v)) (ev_var rfl) ev_int rfl)) (by rw [List.length_map, asI, List.length_map])) fun σ2 H2 e2 En => ?_
  refine q_asgL En (el_lcN (xs := v) (enc := fun i => .int (i : Nat)) (ei_tup (ev_is (ev_ixT (ds := [.str "holds", encB (asI v)]) (d := encB (asI v)) (ev_var rfl) ev_int rfl) (by unfold encB asI; rw [List.map_map]; rfl))) (fun i => decide (gs.getD i 0 < gs.getD j 0)) (fun i => .int (i : Nat)) (by omega) (fun i hi => ?_) fun i hi _ => ev_var rfl) fun p σ3 H3 hp e3 hL En => ?_
  · exact et_test (ev_lt (ev_great (hv i hi) (ev_var rfl) (ev_var rfl)) (ev_great hj (ev_var rfl) (ev_var rfl)))
  · refine x_ret En (ev_is (ev_add (ev_add (ev_fdiv (ev_mul (ev_var rfl) (ev_sub (ev_var rfl) ev_int) ?_) ev_int ?_) (ev_lenL hL (ev_var rfl))) ev_int) ?_) (fun v H4 e4 t4 => q v H4 (((e1.trans e2).trans e3).trans e4) t4)
    · exact .inl ⟨by omega, by omega⟩
    · exact ⟨by decide, by decide⟩
    · unfold nameOf
      rw [List.length_map]
abbrev s_level_names : Stmt := top 24
abbrev N_level_names : List Str := ["greats", "stand", "hand", "here"]
abbrev P_level_names : List Str := ["greats", "stand"]
theorem sc_level_names : FnScope N_level_names P_level_names (defScope s_level_names) := ⟨rfl, rfl, rfl, by decide +kernel, rfl, by decide +kernel, by decide +kernel⟩

def R_level_names (ds : List D) (d : D) : Prop := ∃ (gs : List Int) (bs : List (Option Int)) (vs : List (List Nat)), ds = [.tup (gs.map .int), encS bs (vs.map fun v => .holds (asI v))] ∧ vs.length = gs.length ∧ gs.length ≤ 1000 ∧ (∀ v ∈ vs, v.length ≤ 1000 ∧ ∀ i ∈ v, i < gs.length) ∧ d = encB (vs.zipIdx.map fun p => nameOf gs p.2 p.1)
theorem ok_level_names (Z : Zs mg) (F : DefAt K mg "level_names" s_level_names P_level_names) (F_level_name : FnAt P w K mg base 1 "level_name" P_level_name (spD R_level_name)) : FnAt P w K mg base 2 "level_names" P_level_names (spD R_level_names) := by
  refine F.ok sc_level_names (spD_len fun ds d ⟨_, _, _, e, _⟩ => by rw [e]; rfl) fun f cdv A outer s H vs Q E hr h => ?_
  have nd := sc_level_names.nd
  obtain ⟨ds, d, t, ⟨gs, bs, ws, rfl, hl, hn, hw, rfl⟩, q⟩ := h
  refine ⟨_, 
    (pss_one (ps_ret (pe_callTy (call_tuple_of : CallR _ _ (rTupleS K)) rfl Z.z_tuple boot_tuple (pa_cons (pe_lc (own := [("hand", 2), ("here", 3)]) (g := gTup K 2 (gCons (gName 2) (gCons (gName 3) gNil))) rfl nd (pi_enumT rfl Z.z_enumerate (pa_cons (pe_ix (ix_tup : IxR _ (rIxT K)) (pv 1) pe_int (fun _ _ => rfl)) pa_nil)) (blkOk_by (own := [("hand", 2), ("here", 3)]) (N := N_level_names) (sc := defScope s_level_names) (by decide +kernel)) (fun _ _ _ _ _ => (pg_tup rfl (pgs_cons (pg_name (i := 2) nd rfl (Or.inl rfl)) (pgs_cons (pg_name (i := 3) nd rfl (Or.inl rfl)) pgs_nil)))) (fun _ _ _ _ _ => pts_nil) (fun _ _ _ _ _ => (pe_fn F_level_name (hr.mono (by decide)) rfl (pa_cons (pv 0) (pa_cons (pv 2) (pa_cons (pv 3) pa_nil)))))) pa_nil)))), ?_⟩
  have En := Env.start N_level_names t
  refine x_ret En (ev_is (ev_tupleN (el_mapP (xs := ws) (enc := fun v => (Hr.holds (asI v)).enc) (ei_enumT (ev_ixT (ds := [.tup (bs.map encX), .tup ((ws.map fun v => Hr.holds (asI v)).map Hr.enc)]) (d := .tup (ws.map fun v => (Hr.holds (asI v)).enc)) (ev_var rfl) ev_int (by rw [List.map_map]; rfl))) (fun p => .int (nameOf gs p.2 p.1)) (by omega) fun p hp => ?_)) ?_) q
  · have hm := List.mem_zipIdx' hp
    have hwp := hw p.1 (by rw [hm.2]; exact List.getElem_mem _)
    exact ev_call (ea_cons (ev_var rfl) (ea_cons (ev_var rfl) (ea_cons (ev_var rfl) ea_nil))) ⟨gs, p.2, p.1, rfl, by rw [← hl]; exact hm.1, hwp.2, hwp.1, rfl⟩
  · unfold encB
    rw [List.map_map]
    rfl
end
end Hn


namespace Hn
open PySem PySem.Spec PyProof.Rows L2
theorem Env.forget {σ : L2.St} {H : Hp} {ρ : List (Option D)} (j : Nat) (h : Env σ H ρ) : Env σ H (ρ.set j none) := by
  refine ⟨by rw [List.length_set, h.1], fun i e he => ?_⟩
  by_cases hj : j = i
  · subst hj
    by_cases hl : j < ρ.length
    · rw [List.getElem?_set_self hl] at he
      cases he
    · rw [List.getElem?_eq_none (by rw [List.length_set]; omega)] at he
      cases he
  · rw [List.getElem?_set_ne hj] at he
    exact h.2 i e he
/-- what the hand h sees -/
def SeenAt (r : List (List Int)) (h : Int) (v : List Int) : Prop := ∃ k b, r[k]? = some b ∧ h ∈ b ∧ (∀ i c, i < k → r[i]? = some c → h ∉ c) ∧ v = sortI (r.take (k + 1)).flatten
theorem take_flat {α : Type} {r : List (List α)} (k : Nat) : (r.take k).flatten.length ≤ r.flatten.length := by
  have e : r.flatten = (r.take k).flatten ++ (r.drop k).flatten := by rw [← List.flatten_append, List.take_append_drop]
  rw [e, List.length_append]
  omega
theorem flat_snoc {r : List (List Int)} {i : Nat} {b : List Int} (h : r[i]? = some b) : (r.take (i + 1)).flatten = (r.take i).flatten ++ b := by
  obtain ⟨hi, rfl⟩ := List.getElem?_eq_some_iff.mp h
  rw [List.take_succ_eq_append_getElem hi, List.flatten_append]
  simp
theorem encR_get {r : List (List Int)} {i : Nat} {x : D} (h : (r.map encB)[i]? = some x) : ∃ b, r[i]? = some b ∧ x = encB b := by
  rw [List.getElem?_map] at h
  cases hb : r[i]? with
  | none => rw [hb] at h; cases h
  | some b =>
    rw [hb] at h
    cases h
    exact ⟨b, rfl, rfl⟩
section
variable {P : Program} {w : World} {K : PySem.W.Frag} {mg : Str → Option Value} {base : Heap}
variable {ρ ρ' : List (Option D)} {H H' : Hp} {ta tb tc te tx tl : TE} {E : XK}
theorem ev_rise {b : List Int} (h : Ev te ρ H (encB b)) (hp : b.Pairwise (· < ·)) (hl : b.length ≤ 1000) : Ev (tCall spRise [] E (tCons te tNil)) ρ H (.bl true) := fun σ H1 Q a En q => h σ H1 _ a En fun v H2 e2 t2 => by
  obtain ⟨p, xs, rfl, h1, h2⟩ := t2.invT
  exact ⟨p, b, rfl, ⟨xs, .inr h1, h2⟩, hp, hl, fun v H3 e3 t3 => q v H3 (e2.trans e3) t3⟩
theorem ev_riseN {b : List Int} (h : EvL te ρ H (b.map .int)) (hp : b.Pairwise (· < ·)) (hl : b.length ≤ 1000) : Ev (tCall spRise [] E (tCons te tNil)) ρ H (.bl true) :=
  ev_callN h fun p H1 Q ⟨xs, h1, h2⟩ q => ⟨p, b, rfl, ⟨xs, .inl h1, h2⟩, hp, hl, q⟩
abbrev s_is_block : Stmt := top 4
abbrev N_is_block : List Str := ["many", "thing", "one"]
abbrev P_is_block : List Str := ["many", "thing"]
theorem sc_is_block : FnScope N_is_block P_is_block (defScope s_is_block) := ⟨rfl, rfl, rfl, by decide +kernel, rfl, by decide +kernel, by decide +kernel⟩

def R_is_block (ds : List D) (d : D) : Prop := ∃ (m : Int) (b : List Int), ds = [.int m, encB b] ∧ b ≠ [] ∧ b.length ≤ 1000 ∧ b.Pairwise (· < ·) ∧ (∀ x ∈ b, 0 ≤ x ∧ x ≤ m - 1) ∧ d = .bl true
theorem ok_is_block (Z : Zs mg) (F : DefAt K mg "is_block" s_is_block P_is_block) (F_is_whole : FnAt P w K mg base 1 "is_whole" P_is_whole (spD R_is_whole)) (F_is_rising : FnAt P w K mg base 1 "is_rising" P_is_rising spRise) : FnAt P w K mg base 2 "is_block" P_is_block (spD R_is_block) := by
  refine F.ok sc_is_block (spD_len fun ds d ⟨_, _, e, _⟩ => by rw [e]; rfl) fun f cdv A outer s H vs Q E hr h => ?_
  have nd := sc_is_block.nd
  obtain ⟨ds, d, t, ⟨m, b, rfl, hne, hl, hp, hb, rfl⟩, q⟩ := h
  refine ⟨_, 
    (pss_cons (ps_if (PW.pt (pw_or (pt_not (pt_val (pe_callB (call_isi : CallR _ _ (rIsi K)) rfl Z.z_isinstance boot_isinstance (pa_cons (pv 1) (pa_cons (pe_bltn (v := .ty "tuple") rfl Z.z_tuple boot_tuple rfl) pa_nil))))) (pw_or1 (pt_cmpR (op_eqP hr.units : OpR _ _ (rEqP K)) (pv 1) (pe_tup pa_nil) (nomark _))))) 
      (pss_one (ps_ret pe_bl)) pss_nil) 
    (pss_one (ps_ret (pe_and (pe_callB (cr_all rfl : CallR _ _ (rAll K)) rfl Z.z_all boot_all (pa_cons (pe_lc (own := [("one", 2)]) (g := gName 2) rfl nd (pi_tup (pv 1)) (blkOk_by (own := [("one", 2)]) (N := N_is_block) (sc := defScope s_is_block) (by decide +kernel)) (fun _ _ _ _ _ => (pg_name (i := 2) nd rfl (Or.inl rfl))) (fun _ _ _ _ _ => pts_nil) (fun _ _ _ _ _ => (pe_fn F_is_whole (hr.mono (by decide)) rfl (pa_cons (pv 2) (pa_cons pe_int (pa_cons (pe_op op_sub (pv 0) pe_int) pa_nil)))))) pa_nil)) (pe_one (pe_fn F_is_rising (hr.mono (by decide)) rfl (pa_cons (pv 1) pa_nil))))))), ?_⟩
  have En := Env.start N_is_block t
  refine q_no En (et_is (et_or (a := false) (b := false) (et_is (et_not (et_test (ev_isiT (ds := b.map .int) (ev_var rfl)))) rfl) fun _ => et_test (ev_eqNil (ev_var rfl) (pures_map (fun _ => rfl) b) (by simpa using hne))) rfl) fun H1 e1 => ?_
  have En := En.ex e1
  refine x_ret En (ev_is (ev_andV (ev_allT (el_mapN (xs := b) (enc := .int) (ei_tup (ev_var rfl)) (fun _ => .bl true) (by omega) fun x hx => ?_)) fun _ => ev_rise (ev_var rfl) hp hl) rfl) (fun v H2 e2 t2 => q v H2 (e1.trans e2) t2)
  exact ev_call (ea_cons (ev_var rfl) (ea_cons ev_int (ea_cons (ev_sub (ev_var rfl) ev_int) ea_nil))) ⟨x, 0, m - 1, rfl, (hb x hx).1, (hb x hx).2, rfl⟩
abbrev s_hands_in : Stmt := top 5
abbrev N_hands_in : List Str := ["round_here", "found", "block"]
abbrev P_hands_in : List Str := ["round_here"]
theorem sc_hands_in : FnScope N_hands_in P_hands_in (defScope s_hands_in) := ⟨rfl, rfl, rfl, by decide +kernel, rfl, by decide +kernel, by decide +kernel⟩

def R_hands (ds : List D) (es : List D) : Prop := ∃ r : List (List Int), ds = [encR r] ∧ r.flatten.length < 64 ∧ es = (sortI r.flatten).map .int
theorem ok_hands_in (Z : Zs mg) (F : DefAt K mg "hands_in" s_hands_in P_hands_in) : FnAt P w K mg base 1 "hands_in" P_hands_in (spL R_hands) := by
  refine F.ok sc_hands_in (spL_len fun ds d ⟨_, e, _⟩ => by rw [e]; rfl) fun f cdv A outer s H vs Q E hr h => ?_
  have nd := sc_hands_in.nd
  obtain ⟨ds, d, t, ⟨r, rfl, hl, rfl⟩, q⟩ := h
  refine ⟨_, 
    (pss_cons (ps_set (i := 1) nd rfl (Or.inl rfl) (pe_lst pa_nil)) 
    (pss_cons (ps_for PassesOwn.never rfl (pi_tup (pv 0)) (pg_name (i := 2) nd rfl (Or.inl rfl)) 
      (pss_one (ps_expr (pe_bmK (K := K) (r := rExtendT K) rfl PySem.F.plainAttrs_list PySem.F.slot_list_extend PySem.F.type_list_extend mt_extendT (pv 1) (pa_cons (pv 2) pa_nil))))) 
    (pss_one (ps_ret (pe_callB (cr_sorted : CallR _ _ (rSorted K)) rfl Z.z_sorted boot_sorted (pa_cons (pv 1) pa_nil)))))), ?_⟩
  have En := Env.start N_hands_in t
  refine q_asgL En (el_lst ea_nil (Nat.zero_le _)) fun p σ1 H1 hp e1 hL En => ?_
  refine q_forT (ds := r.map encB) En (ev_var rfl) (fun H1 i σ' H' => TK H1 H' ∧ Ex H H' ∧ Env σ' H' [some (encR r), some (.ptr p), none] ∧ Lst H' p ((r.take i).flatten.map .int)) (fun H2 e2 => ⟨TK.refl _, e1.trans e2, (En.ex e2).forget 2, hL.ex e2⟩) (fun _ _ _ _ h => h.1) (fun H2 i x σ' H' v e2 hx ⟨k1, k2, k3, k4⟩ tx => ?_) (fun H2 σ' H' e2 ⟨k1, k2, k3, k4⟩ => ?_)
  · obtain ⟨b, hb, rfl⟩ := encR_get hx
    obtain ⟨xs, l1, l2⟩ := k4
    refine tg_name (vs := [2]) (List.mem_singleton.mpr rfl) v σ' H' _ k3 tx fun σ2 E2 _ => ?_
    have hz := take_flat (r := r) (i + 1)
    rw [flat_snoc hb, List.length_append] at hz
    refine x_extT l1 (ds := b.map .int) (by rw [l2.1, List.length_map, List.length_map]; omega) E2 (ev_var rfl) (ev_var rfl) fun zs H3 e3 t3 => ?_
    have hk := TK.updL (o := .lst (xs ++ zs)) (e3 _ _ l1)
    refine ⟨(k1.trans (TK.of e3)).trans hk, Evl.Ex.mut (k2.trans e3) hp, ((E2.ex e3).mono hk).forget 2, _, upd_same, ?_⟩
    rw [flat_snoc hb, List.map_append]
    exact (Tps.append (l2.ex e3) t3).mono hk
  · rw [List.length_map, List.take_length] at k4
    exact x_retL k3 (el_sortedL k4 (ev_var rfl) hl) fun p2 H3 h2 e3 t3 => q p2 H3 (fresh_back k2 h2) (k2.trans e3) t3
abbrev s_is_round : Stmt := top 6
abbrev N_is_round : List Str := ["many", "thing", "block"]
abbrev P_is_round : List Str := ["many", "thing"]
theorem sc_is_round : FnScope N_is_round P_is_round (defScope s_is_round) := ⟨rfl, rfl, rfl, by decide +kernel, rfl, by decide +kernel, by decide +kernel⟩

def R_is_round (ds : List D) (d : D) : Prop := ∃ (m : Int) (r : List (List Int)), ds = [.int m, encR r] ∧ r ≠ [] ∧ r.length ≤ 1000 ∧ (∀ b ∈ r, R_is_block [.int m, encB b] (.bl true)) ∧ r.flatten.length < 64 ∧ (sortI r.flatten).Pairwise (· < ·) ∧ d = .bl true
theorem ok_is_round (Z : Zs mg) (F : DefAt K mg "is_round" s_is_round P_is_round) (F_is_block : FnAt P w K mg base 2 "is_block" P_is_block (spD R_is_block)) (F_hands_in : FnAt P w K mg base 1 "hands_in" P_hands_in (spL R_hands)) (F_is_rising : FnAt P w K mg base 1 "is_rising" P_is_rising spRise) : FnAt P w K mg base 3 "is_round" P_is_round (spD R_is_round) := by
  refine F.ok sc_is_round (spD_len fun ds d ⟨_, _, e, _⟩ => by rw [e]; rfl) fun f cdv A outer s H vs Q E hr h => ?_
  have nd := sc_is_round.nd
  obtain ⟨ds, d, t, ⟨m, r, rfl, hne, hl, hb, hz, hp, rfl⟩, q⟩ := h
  refine ⟨_, 
    (pss_cons (ps_if (PW.pt (pw_or (pt_not (pt_val (pe_callB (call_isi : CallR _ _ (rIsi K)) rfl Z.z_isinstance boot_isinstance (pa_cons (pv 1) (pa_cons (pe_bltn (v := .ty "tuple") rfl Z.z_tuple boot_tuple rfl) pa_nil))))) (pw_or (pt_cmpR (op_eqP hr.units : OpR _ _ (rEqP K)) (pv 1) (pe_tup pa_nil) (nomark _)) (pw_or1 (pt_not (pt_val (pe_callB (cr_all rfl : CallR _ _ (rAll K)) rfl Z.z_all boot_all (pa_cons (pe_lc (own := [("block", 2)]) (g := gName 2) rfl nd (pi_tup (pv 1)) (blkOk_by (own := [("block", 2)]) (N := N_is_round) (sc := defScope s_is_round) (by decide +kernel)) (fun _ _ _ _ _ => (pg_name (i := 2) nd rfl (Or.inl rfl))) (fun _ _ _ _ _ => pts_nil) (fun _ _ _ _ _ => (pe_fn F_is_block (hr.mono (by decide)) rfl (pa_cons (pv 0) (pa_cons (pv 2) pa_nil))))) pa_nil)))))))) 
      (pss_one (ps_ret pe_bl)) pss_nil) 
    (pss_one (ps_ret (pe_fn F_is_rising (hr.mono (by decide)) rfl (pa_cons (pe_fn F_hands_in (hr.mono (by decide)) rfl (pa_cons (pv 1) pa_nil)) pa_nil))))), ?_⟩
  have En := Env.start N_is_round t
  refine q_no En (et_is (et_or (a := false) (b := false) (et_is (et_not (et_test (ev_isiT (ds := r.map encB) (ev_var rfl)))) rfl) fun _ => et_is (et_or (a := false) (b := false) (et_test (ev_eqNil (ds := r.map encB) (ev_var rfl) (pures_map pure_encB r) (by simpa using hne))) fun _ => et_is (et_not (et_test (ev_allT (el_mapN (xs := r) (enc := encB) (ei_tup (ev_var rfl)) (fun _ => .bl true) (by omega) fun x hx => ?_)))) rfl) rfl) rfl) fun H1 e1 => ?_
  · exact ev_call (ea_cons (ev_var rfl) (ea_cons (ev_var rfl) ea_nil)) (hb x hx)
  · have En := En.ex e1
    exact x_ret En (ev_riseN (el_call (ea_cons (ev_var rfl) ea_nil) ⟨r, rfl, hz, rfl⟩) hp (by rw [(sortI_perm _).length_eq]; omega)) (fun v H2 e2 t2 => q v H2 (e1.trans e2) t2)
abbrev s_are_rounds : Stmt := top 8
abbrev N_are_rounds : List Str := ["many", "thing", "k", "one"]
abbrev P_are_rounds : List Str := ["many", "thing"]
theorem sc_are_rounds : FnScope N_are_rounds P_are_rounds (defScope s_are_rounds) := ⟨rfl, rfl, rfl, by decide +kernel, rfl, by decide +kernel, by decide +kernel⟩

def R_are_rounds (ds : List D) (d : D) : Prop := ∃ (m : Int) (r : List (List Int)), ds = [.int m, .tup [encR r]] ∧ R_is_round [.int m, encR r] (.bl true) ∧ d = .bl true
theorem ok_are_rounds (Z : Zs mg) (F : DefAt K mg "are_rounds" s_are_rounds P_are_rounds) (F_is_round : FnAt P w K mg base 3 "is_round" P_is_round (spD R_is_round)) : FnAt P w K mg base 4 "are_rounds" P_are_rounds (spD R_are_rounds) := by
  refine F.ok sc_are_rounds (spD_len fun ds d ⟨_, _, e, _⟩ => by rw [e]; rfl) fun f cdv A outer s H vs Q E hr h => ?_
  have nd := sc_are_rounds.nd
  obtain ⟨ds, d, t, ⟨m, r, rfl, hrd, rfl⟩, q⟩ := h
  refine ⟨_, 
    (pss_cons (ps_if (PW.pt (pw_or (pt_not (pt_val (pe_callB (call_isi : CallR _ _ (rIsi K)) rfl Z.z_isinstance boot_isinstance (pa_cons (pv 1) (pa_cons (pe_bltn (v := .ty "tuple") rfl Z.z_tuple boot_tuple rfl) pa_nil))))) (pw_or1 (pt_not (pt_chain op_le op_le pe_int (pe_callB (call_len_seq : CallR _ _ (rLenS K)) rfl Z.z_len boot_len (pa_cons (pv 1) pa_nil)) (pe_glob rfl (v := .int 4) Z.z_rounds.choose_spec ⟨_, rfl⟩)))))) 
      (pss_one (ps_ret pe_bl)) pss_nil) 
    (pss_cons (ps_if (pt_not (pt_val (pe_callB (cr_all rfl : CallR _ _ (rAll K)) rfl Z.z_all boot_all (pa_cons (pe_lc (own := [("one", 3)]) (g := gName 3) rfl nd (pi_tup (pv 1)) (blkOk_by (own := [("one", 3)]) (N := N_are_rounds) (sc := defScope s_are_rounds) (by decide +kernel)) (fun _ _ _ _ _ => (pg_name (i := 3) nd rfl (Or.inl rfl))) (fun _ _ _ _ _ => pts_nil) (fun _ _ _ _ _ => (pe_fn F_is_round (hr.mono (by decide)) rfl (pa_cons (pv 0) (pa_cons (pv 3) pa_nil))))) pa_nil)))) 
      (pss_one (ps_ret pe_bl)) pss_nil) 
    (pss_one (ps_ret (pe_callB (cr_all rfl : CallR _ _ (rAll K)) rfl Z.z_all boot_all (pa_cons (pe_lc (own := [("k", 2)]) (g := gName 2) rfl nd (pi_range2 rfl Z.z_range (pa_cons pe_int (pa_cons (pe_callB (call_len_seq : CallR _ _ (rLenS K)) rfl Z.z_len boot_len (pa_cons (pv 1) pa_nil)) pa_nil))) (blkOk_by (own := [("k", 2)]) (N := N_are_rounds) (sc := defScope s_are_rounds) (by decide +kernel)) (fun _ _ _ _ _ => (pg_name (i := 2) nd rfl (Or.inl rfl))) (fun _ _ _ _ _ => pts_nil) (fun _ _ _ _ _ => pe_never)) pa_nil)))))), ?_⟩
  have En := Env.start N_are_rounds t
  refine q_no En (et_is (et_or (a := false) (b := false) (et_is (et_not (et_test (ev_isiT (ds := [encR r]) (ev_var rfl)))) rfl) fun _ => et_is (et_not (et_test (ev_chainLe ev_int (ev_lenT (ds := [encR r]) (ev_var rfl)) ev_int))) rfl) rfl) fun H1 e1 => ?_
  have En := En.ex e1
  refine q_no En (et_is (et_not (et_test (ev_allT (el_mapN (xs := [r]) (enc := encR) (ei_tup (ev_var rfl)) (fun _ => .bl true) (by show 1 ≤ 50000; decide) fun x hx => ?_)))) rfl) fun H2 e2 => ?_
  · obtain rfl := List.mem_singleton.mp hx
    exact ev_call (ea_cons (ev_var rfl) (ea_cons (ev_var rfl) ea_nil)) hrd
  · have En := En.ex e2
    exact x_ret En (ev_allT (el_mapN (xs := List.range (((1 : Nat) : Int) - 1).toNat) (ei_range2 ev_int (ev_lenT (ds := [encR r]) (ev_var rfl)) (by decide)) (fun _ => .bl true) (by decide) fun i hi => absurd (List.mem_range.mp hi) (Nat.not_lt_zero i))) (fun v H3 e3 t3 => q v H3 ((e1.trans e2).trans e3) t3)
abbrev s_seen_by : Stmt := top 9
abbrev N_seen_by : List Str := ["round_here", "hand", "found", "block"]
abbrev P_seen_by : List Str := ["round_here", "hand"]
theorem sc_seen_by : FnScope N_seen_by P_seen_by (defScope s_seen_by) := ⟨rfl, rfl, rfl, by decide +kernel, rfl, by decide +kernel, by decide +kernel⟩

def R_seen (ds : List D) (es : List D) : Prop := ∃ (r : List (List Int)) (h : Int) (v : List Int), ds = [encR r, .int h] ∧ r.length < 64 ∧ r.flatten.length < 64 ∧ SeenAt r h v ∧ es = v.map .int
theorem ok_seen_by (Z : Zs mg) (F : DefAt K mg "seen_by" s_seen_by P_seen_by) : FnAt P w K mg base 1 "seen_by" P_seen_by (spL R_seen) := by
  refine F.ok sc_seen_by (spL_len fun ds d ⟨_, _, _, e, _⟩ => by rw [e]; rfl) fun f cdv A outer s H vs Q E hr h => ?_
  have nd := sc_seen_by.nd
  obtain ⟨ds, d, t, ⟨r, h, v, rfl, hrl0, hl, ⟨k, b, hk, hm, hn, rfl⟩, rfl⟩, q⟩ := h
  refine ⟨_, 
    (pss_cons (ps_set (i := 2) nd rfl (Or.inl rfl) (pe_lst pa_nil)) 
    (pss_cons (ps_for PassesOwn.never rfl (pi_tup (pv 0)) (pg_name (i := 3) nd rfl (Or.inl rfl)) 
      (pss_cons (ps_expr (pe_bmK (K := K) (r := rExtendT K) rfl PySem.F.plainAttrs_list PySem.F.slot_list_extend PySem.F.type_list_extend mt_extendT (pv 2) (pa_cons (pv 3) pa_nil))) 
      (pss_one (ps_if (pt_cmpR (op_in_seq : OpR _ _ (rIn K false)) (pv 1) (pv 3) rfl) 
        (pss_one (ps_ret (pe_callB (cr_sorted : CallR _ _ (rSorted K)) rfl Z.z_sorted boot_sorted (pa_cons (pv 2) pa_nil)))) pss_nil)))) 
    (pss_one (ps_ret (pe_lst pa_nil))))), ?_⟩
  have En := Env.start N_seen_by t
  refine q_asgL En (el_lst ea_nil (Nat.zero_le _)) fun p σ1 H1 hp e1 hL En => ?_
  have hkl := (List.getElem?_eq_some_iff.mp hk).1
  refine q_forT (ds := r.map encB) En (ev_var rfl) (fun H1 i σ' H' => TK H1 H' ∧ Ex H H' ∧ Env σ' H' [some (encR r), some (.int h), some (.ptr p), none] ∧ Lst H' p ((r.take i).flatten.map .int) ∧ i ≤ k) (fun H2 e2 => ⟨TK.refl _, e1.trans e2, (En.ex e2).forget 3, hL.ex e2, Nat.zero_le _⟩) (fun _ _ _ _ h => h.1) (fun H2 i x σ' H' v e2 hx ⟨k1, k2, k3, k4, k5⟩ tx => ?_) (fun H2 σ' H' e2 ⟨k1, k2, k3, k4, k5⟩ => ?_)
  · obtain ⟨c, hc, rfl⟩ := encR_get hx
    obtain ⟨xs, l1, l2⟩ := k4
    refine tg_name (vs := [3]) (List.mem_singleton.mpr rfl) v σ' H' _ k3 tx fun σ2 E2 _ => ?_
    have hz := take_flat (r := r) (i + 1)
    rw [flat_snoc hc, List.length_append] at hz
    refine x_extT l1 (ds := c.map .int) (D0 := { nx := _, ct := _, bk := _, rt := _ }) (by rw [l2.1, List.length_map, List.length_map]; omega) E2 (ev_var rfl) (ev_var rfl) fun zs H3 e3 t3 => ?_
    have hk' := TK.updL (o := .lst (xs ++ zs)) (e3 _ _ l1)
    have E4 := (E2.ex e3).mono hk'
    have x4 : Ex H (upd H3 p (.lst (xs ++ zs))) := Evl.Ex.mut (k2.trans e3) hp
    have L4 : Lst (upd H3 p (.lst (xs ++ zs))) p ((r.take (i + 1)).flatten.map .int) := by
      refine ⟨_, upd_same, ?_⟩
      rw [flat_snoc hc, List.map_append]
      exact (Tps.append (l2.ex e3) t3).mono hk'
    refine x_if E4 (b := decide (h ∈ c)) (et_test (ev_inT (ev_var rfl) (ev_var rfl))) (fun hb H5 e5 => ?_) (fun hb H5 e5 => ?_)
    · have hb := of_decide_eq_true hb
      have : i = k := by
        rcases Nat.lt_or_eq_of_le k5 with z | z
        · exact absurd hb (hn i c z hc)
        · exact z
      subst this
      exact x_retL (E4.ex e5) (el_sortedL (L4.ex e5) (ev_var rfl) (Nat.lt_of_le_of_lt (take_flat _) hl)) fun p2 H6 h2 e6 t6 => q p2 H6 (fresh_back (x4.trans e5) h2) ((x4.trans e5).trans e6) t6
    · have hb := of_decide_eq_false hb
      have : i ≠ k := by
        rintro rfl
        rw [hk] at hc
        cases hc
        exact hb hm
      exact ⟨((k1.trans (TK.of e3)).trans hk').trans (TK.of e5), x4.trans e5, (E4.ex e5).forget 3, L4.ex e5, by omega⟩
  · rw [List.length_map] at k5
    omega
end
end Hn


namespace Hn
open PySem PySem.Spec PyProof.Rows L2
/-- the hands of the rows as long as s -/
def ofLen (vs : List (List Int)) (s : Int) : List Int := ((List.range vs.length).filter fun i => decide (((vs.getD i []).length : Int) = s)).map Int.ofNat
theorem getD_at {α : Type} {xs : List α} {i : Nat} {d : α} (h : i < xs.length) : xs[i]? = some (xs.getD i d) := by
  rw [List.getD_eq_getElem?_getD, List.getElem?_eq_getElem h]
  rfl
theorem filter_first {n k : Nat} {f : Nat → Bool} (hk : k < n) (h : f k = true) (hn : ∀ i, i < k → f i = false) : ((List.range n).filter f)[0]? = some k := by
  have e : List.range n = List.range k ++ (k :: (List.range' (k + 1) (n - k - 1))) := by
    have h1 : n = k + ((n - k - 1) + 1) := by omega
    conv => lhs; rw [h1]
    rw [List.range_eq_range', ← List.range'_append_1, List.range_eq_range', List.range'_succ, Nat.zero_add]
  have e0 : (List.range k).filter f = [] := List.filter_eq_nil_iff.mpr fun i hi => by rw [hn i (List.mem_range.mp hi)]; decide
  rw [e, List.filter_append, e0, List.nil_append, List.filter_cons, if_pos h]
  rfl
theorem within_range (bs : List (Option Int)) (l : Int) : within bs l = ((List.range bs.length).filter fun i => inBox l (bs.getD i none)).map Int.ofNat := by
  unfold within
  have e : bs.zipIdx = (List.range bs.length).map fun i => (bs.getD i none, i) := by
    refine List.ext_getElem? fun i => ?_
    rw [List.getElem?_map, List.getElem?_zipIdx]
    by_cases hi : i < bs.length
    · rw [List.getElem?_range hi]
      simp [List.getElem?_eq_getElem hi, List.getD_eq_getElem?_getD]
    · have h1 : bs[i]? = none := List.getElem?_eq_none (by omega)
      have h2 : (List.range bs.length)[i]? = none := List.getElem?_eq_none (by rw [List.length_range]; omega)
      rw [h1, h2]
      rfl
  rw [e, List.filter_map, List.map_map]
  rfl
section
variable {P : Program} {w : World} {K : PySem.W.Frag} {mg : Str → Option Value} {base : Heap}
variable {ρ ρ' : List (Option D)} {H H' : Hp} {ta tb tc te tx tl : TE} {E : XK} {ds es : List D} {σ : L2.St} {D0 : Ends} {tz : TS}
/-- a, b = two new lists, by way of a pair -/
theorem q_asg2L {i j : Nat} (En : Env σ H ρ) (ha : EvL ta ρ H ds) (hb : EvL tb ρ H es) (k : ∀ p r σ' H1, H p = none → H r = none → p ≠ r → Ex H H1 → Lst H1 p ds → Lst H1 r es → Env σ' H1 ((ρ.set i (some (.ptr p))).set j (some (.ptr r))) → tz D0 σ' H1) :
    tSeq (tAsg (tTup (tCons ta (tCons tb tNil))) (gTup K 2 (gCons (gName i) (gCons (gName j) gNil)))) tz D0 σ H :=
  ha σ H _ (exr H) En fun p H1 hp e1 t1 => hb σ H1 _ e1 (En.ex e1) fun r H2 hr e2 t2 => by
    refine ⟨Evl.sz_of (by show 2 ≤ 100000; decide), fun q hq => ?_⟩
    have e3 := Evl.Ex.new (o := .tup [.ref p, .ref r]) hq
    exact ⟨q, _, rfl, SqT.of upd_same, rfl, _, _, rfl, _, _, rfl, rfl, k p r _ _ hp (fresh_back e1 hr) (by obtain ⟨_, z, _⟩ := t1; exact ne_of_none z hr) ((e1.trans e2).trans e3) ((t1.ex e2).ex e3) (t2.ex e3) ((((En.ex e1).ex e2).ex e3).set i (.ptr p) |>.set j (.ptr r))⟩
/-- a, b = x, y by way of a pair -/
theorem x_asg2 {i j : Nat} {d e : D} (En : Env σ H ρ) (ha : Ev ta ρ H d) (hb : Ev tb ρ H e) (k : ∀ σ' H1, Ex H H1 → Env σ' H1 ((ρ.set i (some d)).set j (some e)) → D0.nx σ' H1) :
    tAsg (tTup (tCons ta (tCons tb tNil))) (gTup K 2 (gCons (gName i) (gCons (gName j) gNil))) D0 σ H :=
  ev_tup (ea_cons ha (ea_cons hb ea_nil)) l2 σ H _ (exr H) En fun v H1 e1 t1 => tg_pair (K := K) (vs := [i, j]) (List.mem_cons_self) (List.mem_cons_of_mem _ List.mem_cons_self) v σ H1 _ (En.ex e1) t1 fun σ' Es _ => k σ' H1 e1 Es
abbrev s_round_of : Stmt := top 12
abbrev N_round_of : List Str := ["stand", "views", "found", "size", "hand_here", "view", "hand"]
abbrev P_round_of : List Str := ["stand"]
theorem sc_round_of : FnScope N_round_of P_round_of (defScope s_round_of) := ⟨rfl, rfl, rfl, by decide +kernel, rfl, by decide +kernel, by decide +kernel⟩

def R_round_of (ds : List D) (d : D) : Prop := ∃ (bs : List (Option Int)) (vs : List (List Int)) (us : List Int), ds = [encS bs (vs.map .holds)] ∧ vs.length < 64 ∧ us.length < 64 ∧ us.Pairwise (· < ·) ∧ (∀ k : Int, k ∈ us ↔ k ∈ vs.map fun v => (v.length : Int)) ∧ d = encR (us.map (ofLen vs))
theorem ok_round_of (Z : Zs mg) (F : DefAt K mg "round_of" s_round_of P_round_of) : FnAt P w K mg base 1 "round_of" P_round_of (spD R_round_of) := by
  refine F.ok sc_round_of (spD_len fun ds d ⟨_, _, _, e, _⟩ => by rw [e]; rfl) fun f cdv A outer s0 H vs Q E hr h => ?_
  have nd := sc_round_of.nd
  obtain ⟨ds, d, t, ⟨bs, ws, us, rfl, hl, hul, hu, hm, rfl⟩, q⟩ := h
  refine ⟨_, 
    (pss_cons (ps_set (i := 1) nd rfl (Or.inr rfl) (pe_lc (own := [("hand_here", 4)]) (g := gName 4) rfl nd (pi_tup (pe_ix (ix_tup : IxR _ (rIxT K)) (pv 0) pe_int (fun _ _ => rfl))) (blkOk_by (own := [("hand_here", 4)]) (N := N_round_of) (sc := defScope s_round_of) (by decide +kernel)) (fun _ _ _ _ _ => (pg_name (i := 4) nd rfl (Or.inl rfl))) (fun _ _ _ _ _ => pts_nil) (fun _ _ _ _ _ => (pe_ix (ix_tup : IxR _ (rIxT K)) (pv 4) pe_int (fun _ _ => rfl))))) 
    (pss_cons (ps_set (i := 2) nd rfl (Or.inl rfl) (pe_lst pa_nil)) 
    (pss_cons (ps_for PassesOwn.never rfl (pi_list (pe_callB (cr_sortedSet rfl : CallR _ _ (rSortedSet w)) rfl Z.z_sorted boot_sorted (pa_cons (pe_callTy (cr_setL rfl : CallR _ _ (rSetL w)) rfl Z.z_set boot_set (pa_cons (pe_lc (own := [("view", 5)]) (g := gName 5) rfl nd (pi_list (pv 1)) (blkOk_by (own := [("view", 5)]) (N := N_round_of) (sc := defScope s_round_of) (by decide +kernel)) (fun _ _ _ _ _ => (pg_name (i := 5) nd rfl (Or.inl rfl))) (fun _ _ _ _ _ => pts_nil) (fun _ _ _ _ _ => (pe_callB (call_len_seq : CallR _ _ (rLenS K)) rfl Z.z_len boot_len (pa_cons (pv 5) pa_nil)))) pa_nil)) pa_nil))) (pg_name (i := 3) nd rfl (Or.inr rfl)) 
      (pss_one (ps_expr (pe_bmK (K := K) (r := rAppend) rfl PySem.F.plainAttrs_list PySem.F.slot_list_append PySem.F.type_list_append mt_append (pv 2) (pa_cons (pe_callTy (call_tuple_of : CallR _ _ (rTupleS K)) rfl Z.z_tuple boot_tuple (pa_cons (pe_lc (own := [("hand", 6)]) (g := gName 6) rfl nd (pi_range1 rfl Z.z_range (pa_cons (pe_callB (call_len_seq : CallR _ _ (rLenS K)) rfl Z.z_len boot_len (pa_cons (pv 1) pa_nil)) pa_nil)) (blkOk_by (own := [("hand", 6)]) (N := N_round_of) (sc := defScope s_round_of) (by decide +kernel)) (fun _ _ _ _ _ => (pg_name (i := 6) nd rfl (Or.inl rfl))) (fun _ _ _ _ _ => (pts_one (pt_cmpR op_eq (pe_callB (call_len_seq : CallR _ _ (rLenS K)) rfl Z.z_len boot_len (pa_cons (pe_ix (ix_list : IxR _ (rIxL K)) (pv 1) (pv 6) (fun _ _ => rfl)) pa_nil)) (pv 3) (nomark _)))) (fun _ _ _ _ _ => (pv 6))) pa_nil)) pa_nil))))) 
    (pss_one (ps_ret (pe_callTy (call_tuple_of : CallR _ _ (rTupleS K)) rfl Z.z_tuple boot_tuple (pa_cons (pv 2) pa_nil))))))), ?_⟩
  have En := Env.start N_round_of t
  refine q_asgL En (el_mapN (xs := ws) (enc := fun v => (Hr.holds v).enc) (ei_tup (ev_ixT (ds := [.tup (bs.map encX), .tup ((ws.map Hr.holds).map Hr.enc)]) (d := .tup (ws.map fun v => (Hr.holds v).enc)) (ev_var rfl) ev_int (by rw [List.map_map]; rfl))) encB (by omega) fun v hv => ?_) fun pv σ1 H1 hp1 e1 hL1 En => ?_
  · exact ev_ixT (ds := [.str "holds", encB v]) (d := encB v) (ev_var rfl) ev_int rfl
  refine q_asgL En (el_lst ea_nil (Nat.zero_le _)) fun p σ2 H2 hp2 e2 hL2 En => ?_
  refine q_forL (ds := us.map .int) En (el_sortedSet (ns := ws.map fun v => (v.length : Int)) (el_is (el_mapN (xs := ws) (enc := encB) (ei_lst (hL1.ex e2) (ev_var rfl)) (fun v => .int (v.length : Int)) (by omega) fun v hv => ?_) (by rw [List.map_map]; rfl)) (by rw [List.length_map]; exact hl) hu hm) (fun H3 q xs i σ' H' => (H' q = some (.lst xs) ∧ q ≠ p) ∧ TK H3 H' ∧ Ex H1 H' ∧ Env σ' H' [some (encS bs (ws.map .holds)), some (.ptr pv), some (.ptr p), none, none, none, none] ∧ Lst H' p ((us.take i).map fun s => encB (ofLen ws s))) (fun H3 q xs hq e3 hx tx => ⟨⟨hx, ?_⟩, TK.refl _, e2.trans e3, ((((En.ex e3).forget 3).forget 4).forget 5).forget 6, hL2.ex e3⟩) (fun H3 q xs i σ' H' z => ⟨z.1.1, z.2.1⟩) (fun H3 q xs i x σ' H' v e3 hx ⟨k0, k1, k2, k3, k4⟩ tx => ?_) (fun H3 _ xs σ' H' e3 ⟨k0, k1, k2, k3, k4⟩ => ?_)
  · exact ev_is (ev_lenT (ds := v.map .int) (ev_var rfl)) (by rw [List.length_map])
  · obtain ⟨_, z, _⟩ := hL2
    exact fun e => by rw [e, z] at hq; cases hq
  · rw [List.getElem?_map] at hx
    obtain ⟨s, hs, rfl⟩ := Option.map_eq_some_iff.mp hx
    have hi := (List.getElem?_eq_some_iff.mp hs).1
    obtain ⟨ys, m1, m2⟩ := k4
    refine tg_name (vs := [3]) (List.mem_singleton.mpr rfl) v σ' H' _ k3 tx fun σ2 E2 _ => ?_
    have hLv := hL1.ex k2
    have hz : ys.length < 100000 := by rw [m2.1, List.length_map, List.length_take]; omega
    refine x_app m1 (d := encB (ofLen ws s)) hz E2 (ev_var rfl) (ev_is (ev_tupleN (el_lcN (xs := List.range ws.length) (enc := fun i => .int (i : Nat)) ?_ (fun i => decide (((ws.getD i []).length : Int) = s)) (fun i => .int (i : Nat)) (len_range _ (by omega)) (fun i hi => ?_) fun i _ _ => ev_var rfl)) ?_) fun z H4 e4 t4 => ?_
    · have h := ei_range1 (n := (ws.map encB).length) (ev_lenL (K := K) (te := tVar 1) hLv (ev_var (ρ := [some (encS bs (ws.map .holds)), some (.ptr pv), some (.ptr p), none, none, none, none].set 3 (some (.int s))) rfl)) (by rw [List.length_map]; omega)
      unfold rangeD at h
      rw [Int.toNat_natCast, List.length_map] at h
      simp only [Int.zero_add] at h
      rw [← List.length_map (f := encB)] at h
      rw [List.length_map] at h
      exact h
    · refine et_test (ev_eqI (ev_is (ev_lenT (ds := (ws.getD i []).map .int) (ev_ixL hLv (ev_var rfl) (ev_var rfl) (atI_some (v := encB (ws.getD i [])) ?_))) ?_) (ev_var rfl))
      · rw [List.getElem?_map, getD_at (d := []) (List.mem_range.mp hi)]
        rfl
      · rw [List.length_map]
    · unfold encB ofLen
      rw [List.map_map]
      rfl
    · have hk := TK.updL (o := .lst (ys ++ [z])) (e4 _ _ m1)
      refine ⟨⟨?_, k0.2⟩, (k1.trans (TK.of e4)).trans hk, Evl.Ex.mut (k2.trans e4) hp2, ((E2.ex e4).mono hk).forget 3, _, upd_same, ?_⟩
      · rw [upd_ne k0.2]
        exact e4 _ _ k0.1
      · rw [List.take_succ_eq_append_getElem hi, List.map_append]
        obtain ⟨_, hs'⟩ := List.getElem?_eq_some_iff.mp hs
        rw [hs']
        exact (Tps.append (m2.ex e4) (Tps.cons t4 Tps.nil)).mono hk
  · rw [List.length_map, List.take_length] at k4
    refine x_ret k3 (ev_is (ev_tupleL k4 (ev_var rfl)) ?_) fun v H4 e4 t4 => q v H4 ((e1.trans k2).trans e4) t4
    unfold encR
    rw [List.map_map]
    rfl
end
end Hn


namespace Hn
open PySem PySem.Spec PyProof.Rows L2
section
variable {P : Program} {w : World} {K : PySem.W.Frag} {mg : Str → Option Value} {base : Heap}
variable {ρ ρ' : List (Option D)} {H H' : Hp} {ta tb tc te tx tl : TE} {E : XK} {ds es : List D} {σ : L2.St} {D0 : Ends} {tz : TS}
theorem ei_rangeN {n : Nat} (hn : n ≤ 50000) (h : Ev te ρ H (.int (n : Int))) : EvI (iRng1 (tCons te tNil)) ρ H ((List.range n).map fun i => .int (i : Nat)) := by
  have h := ei_range1 h (by omega)
  unfold rangeD at h
  rw [Int.toNat_natCast] at h
  simp only [Int.zero_add] at h
  exact h
abbrev s__law_hands : Stmt := top 37
abbrev N__law_hands : List Str := ["_law_round_here", "_law_found", "_law_block"]
abbrev P__law_hands : List Str := ["_law_round_here"]
theorem sc__law_hands : FnScope N__law_hands P__law_hands (defScope s__law_hands) := ⟨rfl, rfl, rfl, by decide +kernel, rfl, by decide +kernel, by decide +kernel⟩

theorem ok__law_hands (Z : Zs mg) (F : DefAt K mg "_law_hands" s__law_hands P__law_hands) : FnAt P w K mg base 1 "_law_hands" P__law_hands (spL R_hands) := by
  refine F.ok sc__law_hands (spL_len fun ds d ⟨_, e, _⟩ => by rw [e]; rfl) fun f cdv A outer s H vs Q E hr h => ?_
  have nd := sc__law_hands.nd
  obtain ⟨ds, d, t, ⟨r, rfl, hl, rfl⟩, q⟩ := h
  refine ⟨_, 
    (pss_cons (ps_set (i := 1) nd rfl (Or.inl rfl) (pe_lst pa_nil)) 
    (pss_cons (ps_for PassesOwn.never rfl (pi_tup (pv 0)) (pg_name (i := 2) nd rfl (Or.inl rfl)) 
      (pss_one (ps_expr (pe_bmK (K := K) (r := rExtendT K) rfl PySem.F.plainAttrs_list PySem.F.slot_list_extend PySem.F.type_list_extend mt_extendT (pv 1) (pa_cons (pv 2) pa_nil))))) 
    (pss_one (ps_ret (pe_callB (cr_sorted : CallR _ _ (rSorted K)) rfl Z.z_sorted boot_sorted (pa_cons (pv 1) pa_nil)))))), ?_⟩
  have En := Env.start N__law_hands t
  refine q_asgL En (el_lst ea_nil (Nat.zero_le _)) fun p σ1 H1 hp e1 hL En => ?_
  refine q_forT (ds := r.map encB) En (ev_var rfl) (fun H1 i σ' H' => TK H1 H' ∧ Ex H H' ∧ Env σ' H' [some (encR r), some (.ptr p), none] ∧ Lst H' p ((r.take i).flatten.map .int)) (fun H2 e2 => ⟨TK.refl _, e1.trans e2, (En.ex e2).forget 2, hL.ex e2⟩) (fun _ _ _ _ h => h.1) (fun H2 i x σ' H' v e2 hx ⟨k1, k2, k3, k4⟩ tx => ?_) (fun H2 σ' H' e2 ⟨k1, k2, k3, k4⟩ => ?_)
  · obtain ⟨b, hb, rfl⟩ := encR_get hx
    obtain ⟨xs, l1, l2⟩ := k4
    refine tg_name (vs := [2]) (List.mem_singleton.mpr rfl) v σ' H' _ k3 tx fun σ2 E2 _ => ?_
    have hz := take_flat (r := r) (i + 1)
    rw [flat_snoc hb, List.length_append] at hz
    refine x_extT l1 (ds := b.map .int) (by rw [l2.1, List.length_map, List.length_map]; omega) E2 (ev_var rfl) (ev_var rfl) fun zs H3 e3 t3 => ?_
    have hk := TK.updL (o := .lst (xs ++ zs)) (e3 _ _ l1)
    refine ⟨(k1.trans (TK.of e3)).trans hk, Evl.Ex.mut (k2.trans e3) hp, ((E2.ex e3).mono hk).forget 2, _, upd_same, ?_⟩
    rw [flat_snoc hb, List.map_append]
    exact (Tps.append (l2.ex e3) t3).mono hk
  · rw [List.length_map, List.take_length] at k4
    exact x_retL k3 (el_sortedL k4 (ev_var rfl) hl) fun p2 H3 h2 e3 t3 => q p2 H3 (fresh_back k2 h2) (k2.trans e3) t3
abbrev s__law_seen : Stmt := top 38
abbrev N__law_seen : List Str := ["_law_round_here", "_law_hand", "_law_at", "_law_k"]
abbrev P__law_seen : List Str := ["_law_round_here", "_law_hand"]
theorem sc__law_seen : FnScope N__law_seen P__law_seen (defScope s__law_seen) := ⟨rfl, rfl, rfl, by decide +kernel, rfl, by decide +kernel, by decide +kernel⟩

theorem ok__law_seen (Z : Zs mg) (F : DefAt K mg "_law_seen" s__law_seen P__law_seen) (F__law_hands : FnAt P w K mg base 1 "_law_hands" P__law_hands (spL R_hands)) : FnAt P w K mg base 2 "_law_seen" P__law_seen (spL R_seen) := by
  refine F.ok sc__law_seen (spL_len fun ds d ⟨_, _, _, e, _⟩ => by rw [e]; rfl) fun f cdv A outer s H vs Q E hr h => ?_
  have nd := sc__law_seen.nd
  obtain ⟨ds, d, t, ⟨r, h, v, rfl, hrl0, hl, ⟨k, b, hk, hm, hn, rfl⟩, rfl⟩, q⟩ := h
  refine ⟨_, 
    (pss_cons (ps_set (i := 2) nd rfl (Or.inl rfl) (pe_ix (ix_list : IxR _ (rIxL K)) (pe_lc (own := [("_law_k", 3)]) (g := gName 3) rfl nd (pi_range1 rfl Z.z_range (pa_cons (pe_callB (call_len_seq : CallR _ _ (rLenS K)) rfl Z.z_len boot_len (pa_cons (pv 0) pa_nil)) pa_nil)) (blkOk_by (own := [("_law_k", 3)]) (N := N__law_seen) (sc := defScope s__law_seen) (by decide +kernel)) (fun _ _ _ _ _ => (pg_name (i := 3) nd rfl (Or.inl rfl))) (fun _ _ _ _ _ => (pts_one (pt_cmpR (op_in_seq : OpR _ _ (rIn K false)) (pv 1) (pe_ix (ix_tup : IxR _ (rIxT K)) (pv 0) (pv 3) (fun _ _ => rfl)) rfl))) (fun _ _ _ _ _ => (pv 3))) pe_int (fun _ _ => rfl))) 
    (pss_one (ps_ret (pe_fn F__law_hands (hr.mono (by decide)) rfl (pa_cons (pe_slice (sl_tupA : SlR _ (rSlA K)) (pv 0) po_none (po_some (pe_op op_add (pv 2) pe_int))) pa_nil))))), ?_⟩
  have En := Env.start N__law_seen t
  have hkl := (List.getElem?_eq_some_iff.mp hk).1
  have hrl : r.length ≤ 50000 := by omega
  refine q_asg (d := .int (k : Nat)) En (ev_ixN (el_lcN (xs := List.range r.length) (enc := fun i => .int (i : Nat)) (ei_rangeN hrl (ev_is (ev_lenT (ds := r.map encB) (ev_var rfl)) (by rw [List.length_map]))) (fun i => decide (h ∈ r.getD i [])) (fun i => .int (i : Nat)) (len_range _ hrl) (fun i hi => ?_) fun i _ _ => ev_var rfl) ev_int ?_) fun σ1 H1 e1 En => ?_
  · exact et_test (ev_inT (ev_var rfl) (ev_ixT (ds := r.map encB) (d := encB (r.getD i [])) (ev_var rfl) (ev_var rfl) (atI_some (by rw [List.getElem?_map, getD_at (d := []) (List.mem_range.mp hi)]; rfl))))
  · refine atI_some (j := 0) ?_
    rw [List.getElem?_map, filter_first hkl]
    · rfl
    · exact decide_eq_true (by rw [List.getD_eq_getElem?_getD, hk]; exact hm)
    · intro i hi
      exact decide_eq_false (hn i _ hi (getD_at (Nat.lt_trans hi hkl)))
  · refine x_retL En (el_call (ea_cons (ev_is (ev_slT (ds := r.map encB) (ev_var rfl) eo_none (eo_some (ev_add (ev_var rfl) ev_int))) ?_) ea_nil) ⟨r.take (k + 1), rfl, Nat.lt_of_le_of_lt (take_flat _) hl, rfl⟩) fun p H2 h2 e2 t2 => q p H2 (fresh_back e1 h2) (e1.trans e2) t2
    have e := cut_lo (xs := r.map encB) (j := k + 1) (by rw [List.length_map]; exact hkl)
    rw [Int.natCast_succ] at e
    rw [e, ← List.map_take]
    rfl
abbrev s__law_held : Stmt := top 39
abbrev N__law_held : List Str := ["_law_round_here", "_law_many", "_law_views", "_law_hand", "_law_view"]
abbrev P__law_held : List Str := ["_law_round_here", "_law_many"]
theorem sc__law_held : FnScope N__law_held P__law_held (defScope s__law_held) := ⟨rfl, rfl, rfl, by decide +kernel, rfl, by decide +kernel, by decide +kernel⟩

def R_law_held (ds : List D) (d : D) : Prop := ∃ (r : List (List Int)) (vs : List (List Int)), ds = [encR r, .int (vs.length : Nat)] ∧ r.length < 64 ∧ r.flatten.length < 64 ∧ vs.length < 64 ∧ (∀ (j : Nat) (v : List Int), vs[j]? = some v → SeenAt r j v) ∧ d = encS (vs.map fun v => some (v.length : Int)) (vs.map .holds)
theorem ok__law_held (Z : Zs mg) (F : DefAt K mg "_law_held" s__law_held P__law_held) (F__law_seen : FnAt P w K mg base 2 "_law_seen" P__law_seen (spL R_seen)) : FnAt P w K mg base 3 "_law_held" P__law_held (spD R_law_held) := by
  refine F.ok sc__law_held (spD_len fun ds d ⟨_, _, e, _⟩ => by rw [e]; rfl) fun f cdv A outer s H vs Q E hr h => ?_
  have nd := sc__law_held.nd
  obtain ⟨ds, d, t, ⟨r, ws, rfl, hrl, hl, hw, hs, rfl⟩, q⟩ := h
  refine ⟨_, 
    (pss_cons (ps_setLc (i := 2) (own := [("_law_hand", 3)]) (g := gName 3) rfl nd rfl rfl (sw_true rfl rfl rfl (by decide +kernel)) (pi_range1 rfl Z.z_range (pa_cons (pv 1) pa_nil)) (blkOk_by (own := [("_law_hand", 3)]) (N := N__law_held) (sc := defScope s__law_held) (by decide +kernel)) (fun _ _ _ _ _ => (pg_name (i := 3) nd rfl (Or.inl rfl))) (fun _ _ _ _ _ => pts_nil) (fun _ _ _ _ _ => (pe_callTy (call_tuple_of : CallR _ _ (rTupleS K)) rfl Z.z_tuple boot_tuple (pa_cons (pe_fn F__law_seen (hr.mono (by decide)) rfl (pa_cons (pv 0) (pa_cons (pv 3) pa_nil))) pa_nil)))) 
    (pss_one (ps_ret (pe_tup (pa_cons (pe_callTy (call_tuple_of : CallR _ _ (rTupleS K)) rfl Z.z_tuple boot_tuple (pa_cons (pe_lc (own := [("_law_view", 4)]) (g := gName 4) rfl nd (pi_list (pv 2)) (blkOk_by (own := [("_law_view", 4)]) (N := N__law_held) (sc := defScope s__law_held) (by decide +kernel)) (fun _ _ _ _ _ => (pg_name (i := 4) nd rfl (Or.inl rfl))) (fun _ _ _ _ _ => pts_nil) (fun _ _ _ _ _ => (pe_callB (call_len_seq : CallR _ _ (rLenS K)) rfl Z.z_len boot_len (pa_cons (pv 4) pa_nil)))) pa_nil)) (pa_cons (pe_callTy (call_tuple_of : CallR _ _ (rTupleS K)) rfl Z.z_tuple boot_tuple (pa_cons (pe_lc (own := [("_law_view", 4)]) (g := gName 4) rfl nd (pi_list (pv 2)) (blkOk_by (own := [("_law_view", 4)]) (N := N__law_held) (sc := defScope s__law_held) (by decide +kernel)) (fun _ _ _ _ _ => (pg_name (i := 4) nd rfl (Or.inl rfl))) (fun _ _ _ _ _ => pts_nil) (fun _ _ _ _ _ => (pe_tup (pa_cons pe_str (pa_cons (pv 4) pa_nil))))) pa_nil)) pa_nil)))))), ?_⟩
  have En := Env.start N__law_held t
  refine q_asgL En (el_mapN (xs := List.range ws.length) (enc := fun i => .int (i : Nat)) (ei_rangeN (by omega) (ev_var rfl)) (fun i => encB (ws.getD i [])) (len_range _ (by omega)) fun i hi => ?_) fun p σ1 H1 hp e1 hL En => ?_
  · exact ev_tupleN (ds := (ws.getD i []).map .int) (el_call (ea_cons (ev_var rfl) (ea_cons (ev_var rfl) ea_nil)) ⟨r, _, _, rfl, hrl, hl, hs i _ (getD_at (List.mem_range.mp hi)), rfl⟩)
  have ew : (List.range ws.length).map (fun i => encB (ws.getD i [])) = ws.map encB := by
    refine List.ext_getElem? fun i => ?_
    rw [List.getElem?_map, List.getElem?_map]
    by_cases hi : i < ws.length
    · rw [List.getElem?_range hi, getD_at (d := []) hi]
      rfl
    · rw [List.getElem?_eq_none (by rw [List.length_range]; omega), List.getElem?_eq_none (l := ws) (by omega)]
      rfl
  rw [ew] at hL
  refine x_ret En (ev_is (ev_tup (ea_cons (ev_tupleN (el_mapN (xs := ws) (enc := encB) (ei_lst hL (ev_var rfl)) (fun v => .int (v.length : Int)) (by omega) fun v _ => ev_is (ev_lenT (ds := v.map .int) (ev_var rfl)) (by rw [List.length_map]))) (ea_cons (ev_tupleN (el_mapN (xs := ws) (enc := encB) (ei_lst hL (ev_var rfl)) (fun v => (Hr.holds v).enc) (by omega) fun v _ => ev_tup (ea_cons ev_str (ea_cons (ev_var rfl) ea_nil)) l2)) ea_nil)) l2) ?_) fun v H2 e2 t2 => q v H2 (e1.trans e2) t2
  unfold encS
  rw [List.map_map, List.map_map]
  rfl
abbrev s__law_begun : Stmt := top 41
abbrev N__law_begun : List Str := ["_law_many"]
abbrev P__law_begun : List Str := ["_law_many"]
theorem sc__law_begun : FnScope N__law_begun P__law_begun (defScope s__law_begun) := ⟨rfl, rfl, rfl, by decide +kernel, rfl, by decide +kernel, by decide +kernel⟩

theorem ok__law_begun (Z : Zs mg) (F : DefAt K mg "_law_begun" s__law_begun P__law_begun) : FnAt P w K mg base 1 "_law_begun" P__law_begun (spD R_first_levels) := by
  refine F.ok sc__law_begun (spD_len fun ds d ⟨_, e, _⟩ => by rw [e]; rfl) fun f cdv A outer s H vs Q E hr h => ?_
  have nd := sc__law_begun.nd
  obtain ⟨ds, d, t, ⟨n, rfl, h1, h2, rfl⟩, q⟩ := h
  refine ⟨_, 
    (pss_one (ps_ret (pe_tup (pa_cons (pe_op (op_repA : OpR _ _ (rRepA K)) (pe_tup (pa_cons pe_non pa_nil)) (pv 0)) (pa_cons (pe_op (op_repA : OpR _ _ (rRepA K)) (pe_tup (pa_cons (pe_tup (pa_cons pe_str pa_nil)) pa_nil)) (pv 0)) pa_nil))))), ?_⟩
  have En := Env.start N__law_begun t
  refine x_ret En (ev_is (ev_tup (ea_cons (ev_rep (ev_tup (ea_cons ev_non ea_nil) l1) (ev_var rfl) h1 h2) (ea_cons (ev_rep (ev_tup (ea_cons (ev_tup (ea_cons ev_str ea_nil) l1) ea_nil) l1) (ev_var rfl) h1 h2) ea_nil)) l2) ?_) q
  unfold encS
  rw [List.map_replicate, List.map_replicate]
  rfl
/-- only the thing at p was changed -/
structure Mut (H H2 : Hp) (p : Addr) : Prop where
  tk : TK H H2
  off : ∀ (b : Addr) (u : HO), b ≠ p → H b = some u → H2 b = some u
theorem Mut.lst {p r : Addr} (m : Mut H H' p) (h : Lst H r ds) (n : r ≠ p) : Lst H' r ds := by
  obtain ⟨xs, h1, h2⟩ := h
  exact ⟨xs, m.off _ _ n h1, h2.mono m.tk⟩
theorem Mut.ex {H0 : Hp} {p : Addr} (m : Mut H H' p) (e : Ex H0 H) (hp : H0 p = none) : Ex H0 H' := fun b u h => m.off b u (fun z => by rw [z, hp] at h; cases h) (e b u h)
theorem Mut.of {p : Addr} {u o : HO} (e : Ex H H') (hp : H' p = some u) (nt : ∀ xs, u ≠ .tup xs) : Mut H (upd H' p o) p := ⟨(TK.of e).trans (TK.upd hp nt), fun b v n h => by
  rw [upd_ne n]
  exact e _ _ h⟩
theorem x_setD {p : Addr} {j : Nat} {d : D} (hL : Lst H p ds) (hj : j < ds.length) (En : Env σ H ρ) (h : Ev te ρ H d) (ha : Ev ta ρ H (.ptr p)) (hb : Ev tb ρ H (.int j)) (k : ∀ H2, Mut H H2 p → Lst H2 p (ds.set j d) → Env σ H2 ρ → D0.nx σ H2) : tAsg te (gSub ta tb L2.rSetL) D0 σ H := by
  obtain ⟨xs, h1, h2⟩ := hL
  exact x_setL h1 En (by rw [h2.1]; exact hj) h ha hb fun v H1 e1 t1 => by
    have m : Mut H (upd H1 p (.lst (xs.set j v))) p := Mut.of e1 (e1 _ _ h1) fun _ z => nomatch z
    exact k _ m ⟨_, upd_same, ((h2.ex e1).set j t1).mono (TK.updL (e1 _ _ h1))⟩ ((En.ex e1).mono (TK.updL (e1 _ _ h1)))
theorem q_setD {p : Addr} {j : Nat} {d : D} (hL : Lst H p ds) (hj : j < ds.length) (En : Env σ H ρ) (h : Ev te ρ H d) (ha : Ev ta ρ H (.ptr p)) (hb : Ev tb ρ H (.int j)) (k : ∀ H2, Mut H H2 p → Lst H2 p (ds.set j d) → Env σ H2 ρ → tz D0 σ H2) : tSeq (tAsg te (gSub ta tb L2.rSetL)) tz D0 σ H := x_setD (D0 := { D0 with nx := tz D0 }) hL hj En h ha hb k
abbrev s__law_stepped : Stmt := top 40
abbrev N__law_stepped : List Str := ["_law_stand", "_law_hand", "_law_boxes", "_law_hands_here", "_law_many", "_law_here", "_law_level", "_law_seen_here", "_law_one"]
abbrev P__law_stepped : List Str := ["_law_stand", "_law_hand"]
theorem sc__law_stepped : FnScope N__law_stepped P__law_stepped (defScope s__law_stepped) := ⟨rfl, rfl, rfl, by decide +kernel, rfl, by decide +kernel, by decide +kernel⟩

def R_law_stepped (ds : List D) (d : D) : Prop := ∃ (bs : List (Option Int)) (hs : List Hr) (j : Nat), ds = [encS bs hs, .int j] ∧ bs.length = hs.length ∧ hs.length < 64 ∧ j < hs.length ∧ d = encS (stepB bs hs j) (stepH bs hs j)
theorem ok__law_stepped (Z : Zs mg) (F : DefAt K mg "_law_stepped" s__law_stepped P__law_stepped) : FnAt P w K mg base 1 "_law_stepped" P__law_stepped (spD R_law_stepped) := by
  refine F.ok sc__law_stepped (spD_len fun ds d ⟨_, _, _, e, _⟩ => by rw [e]; rfl) fun f cdv A outer s H vs Q E hr h => ?_
  have nd := sc__law_stepped.nd
  obtain ⟨ds, d, t, ⟨bs, hs, j, rfl, hl, h2, hj, rfl⟩, q⟩ := h
  refine ⟨_, 
    (pss_cons (ps_asg (pe_tup (pa_cons (pe_callTy (call_list_of : CallR _ _ (rListS K)) rfl Z.z_list boot_list (pa_cons (pe_ix (ix_tup : IxR _ (rIxT K)) (pv 0) pe_int (fun _ _ => rfl)) pa_nil)) (pa_cons (pe_callTy (call_list_of : CallR _ _ (rListS K)) rfl Z.z_list boot_list (pa_cons (pe_ix (ix_tup : IxR _ (rIxT K)) (pv 0) pe_int (fun _ _ => rfl)) pa_nil)) pa_nil))) (pg_tup rfl (pgs_cons (pg_name (i := 2) nd rfl (Or.inr rfl)) (pgs_cons (pg_name (i := 3) nd rfl (Or.inl rfl)) pgs_nil)))) 
    (pss_cons (ps_set (i := 4) nd rfl (Or.inl rfl) (pe_callB (call_len_seq : CallR _ _ (rLenS K)) rfl Z.z_len boot_len (pa_cons (pv 3) pa_nil))) 
    (pss_cons (ps_set (i := 5) nd rfl (Or.inl rfl) (pe_ix (ix_list : IxR _ (rIxL K)) (pv 3) (pv 1) (fun _ _ => rfl))) 
    (pss_cons (ps_if (pt_cmpR op_eq (pe_ix (ix_tup : IxR _ (rIxT K)) (pv 5) pe_int (fun _ _ => rfl)) pe_str (nomark _)) 
      (pss_one (ps_ret (pv 0))) pss_nil) 
    (pss_cons (ps_if (pt_cmpR op_eq (pe_ix (ix_tup : IxR _ (rIxT K)) (pv 5) pe_int (fun _ _ => rfl)) pe_str (nomark _)) 
      (pss_cons (ps_set (i := 6) nd rfl (Or.inr rfl) (pe_ix (ix_tup : IxR _ (rIxT K)) (pv 5) pe_int (fun _ _ => rfl))) 
      (pss_cons (ps_setLc (i := 7) (own := [("_law_one", 8)]) (g := gName 8) rfl nd rfl rfl (sw_true rfl rfl rfl (by decide +kernel)) (pi_range1 rfl Z.z_range (pa_cons (pv 4) pa_nil)) (blkOk_by (own := [("_law_one", 8)]) (N := N__law_stepped) (sc := defScope s__law_stepped) (by decide +kernel)) (fun _ _ _ _ _ => (pg_name (i := 8) nd rfl (Or.inl rfl))) (fun _ _ _ _ _ => (pts_one (PW.pt (pw_and (pt_cmpR op_notN (pe_ix (ix_list : IxR _ (rIxL K)) (pv 2) (pv 8) (fun _ _ => rfl)) pe_non (nomark _)) (pw_and1 (pt_cmpR op_le (pe_ix (ix_list : IxR _ (rIxL K)) (pv 2) (pv 8) (fun _ _ => rfl)) (pv 6) (nomark _))))))) (fun _ _ _ _ _ => (pv 8))) 
      (pss_one (ps_asg (pe_ifExp (pt_cmpR op_lt (pe_callB (call_len_seq : CallR _ _ (rLenS K)) rfl Z.z_len boot_len (pa_cons (pv 7) pa_nil)) (pv 6) (nomark _)) (pe_tup (pa_cons pe_str (pa_cons (pe_op op_sub (pv 6) pe_int) pa_nil))) (pe_tup (pa_cons pe_str (pa_cons (pe_callTy (call_tuple_of : CallR _ _ (rTupleS K)) rfl Z.z_tuple boot_tuple (pa_cons (pv 7) pa_nil)) pa_nil)))) (pg_sub (pv 3) (pv 1) set_list))))) 
      (pss_cons (ps_set (i := 6) nd rfl (Or.inr rfl) (pe_ifExp (pt_cmpR op_eq (pe_ix (ix_tup : IxR _ (rIxT K)) (pv 5) pe_int (fun _ _ => rfl)) pe_str (nomark _)) (pv 4) (pe_ix (ix_tup : IxR _ (rIxT K)) (pv 5) pe_int (fun _ _ => rfl)))) 
      (pss_cons (ps_asg (pv 6) (pg_sub (pv 2) (pv 1) set_list)) 
      (pss_one (ps_asg (pe_tup (pa_cons pe_str (pa_cons (pv 6) pa_nil))) (pg_sub (pv 3) (pv 1) set_list)))))) 
    (pss_one (ps_ret (pe_tup (pa_cons (pe_callTy (call_tuple_of : CallR _ _ (rTupleS K)) rfl Z.z_tuple boot_tuple (pa_cons (pv 2) pa_nil)) (pa_cons (pe_callTy (call_tuple_of : CallR _ _ (rTupleS K)) rfl Z.z_tuple boot_tuple (pa_cons (pv 3) pa_nil)) pa_nil)))))))))), ?_⟩
  have En := Env.start N__law_stepped t
  refine q_asg2L (ds := bs.map encX) (es := hs.map Hr.enc) En (el_listT (ev_ixT (ds := [.tup (bs.map encX), .tup (hs.map Hr.enc)]) (ev_var rfl) ev_int rfl)) (el_listT (ev_ixT (ds := [.tup (bs.map encX), .tup (hs.map Hr.enc)]) (ev_var rfl) ev_int rfl)) fun pb ph σ1 H1 hpb hph hne e1 Lb Lh En => ?_
  obtain ⟨x, hx⟩ : ∃ x, hs[j]? = some x := ⟨_, List.getElem?_eq_getElem hj⟩
  refine q_asg En (ev_is (ev_lenL Lh (ev_var rfl)) (e := .int (hs.length : Nat)) (by rw [List.length_map])) fun σ2 H2 e2 En => ?_
  refine q_asg En (ev_ixL (Lh.ex e2) (d := x.enc) (ev_var rfl) (ev_var rfl) (atI_some (by rw [List.getElem?_map, hx]; rfl))) fun σ3 H3 e3 En => ?_
  refine q_if En (et_test (ev_eqS (ev_word (ev_var rfl)) ev_str (word_holds x))) (fun hd H4 e4 => ?_) (fun hd H4 e4 => ?_)
  · have e14 := ((e1.trans e2).trans e3).trans e4
    refine x_ret (En.ex e4) (ev_is (ev_var rfl) ?_) fun v H5 e5 t5 => q v H5 (e14.trans e5) t5
    unfold stepB stepH
    rw [hx]
    cases x with
    | holds v => rfl
    | _ => cases hd
  · have e14 := ((e1.trans e2).trans e3).trans e4
    have En := En.ex e4
    have Lb := ((Lb.ex e2).ex e3).ex e4
    have Lh := ((Lh.ex e2).ex e3).ex e4
    have jb : j < (bs.map encX).length := by rw [List.length_map, hl]; exact hj
    have jh : j < (hs.map Hr.enc).length := by rw [List.length_map]; exact hj
    have fin : ∀ (σ' : L2.St) (H5 : Hp) (o1 o2 o3 : Option D) (bs' : List (Option Int)) (hs' : List Hr), Ex H H5 → Env σ' H5 [some (encS bs hs), some (.int j), some (.ptr pb), some (.ptr ph), some (.int (hs.length : Nat)), some x.enc, o1, o2, o3] → Lst H5 pb (bs'.map encX) → Lst H5 ph (hs'.map Hr.enc) → stepB bs hs j = bs' → stepH bs hs j = hs' →
        tRet (tTup (tCons (tCB (rTupleS K) (tCons (tVar 2) tNil)) (tCons (tCB (rTupleS K) (tCons (tVar 3) tNil)) tNil))) { nx := fun _ H' => Q .non H', rt := Q } σ' H5 := by
      intro σ' H5 o1 o2 o3 bs' hs' e5 En Lb Lh q1 q2
      refine x_ret En (ev_is (ev_tup (ea_cons (ev_tupleL Lb (ev_var rfl)) (ea_cons (ev_tupleL Lh (ev_var rfl)) ea_nil)) l2) ?_) fun v H6 e6 t6 => q v H6 (e5.trans e6) t6
      rw [q1, q2]
      rfl
    cases x with
    | holds v => cases hd
    | look l =>
      refine q_if (b := true) En (et_test (ev_eqS (ev_word (x := .look l) (ev_var rfl)) ev_str rfl)) (fun _ H5 e5 => ?_) (fun z => nomatch z)
      have En := En.ex e5
      refine q_asg En (ev_ixT (ds := [.str "look", .int l]) (d := .int l) (ev_var rfl) ev_int rfl) fun σ6 H6 e6 En => ?_
      refine q_asgL En (el_lcN (xs := List.range hs.length) (enc := fun i => .int (i : Nat)) (ei_rangeN (by omega) (ev_var rfl)) (fun i => inBox l (bs.getD i none)) (fun i => .int (i : Nat)) (len_range _ (by omega)) (fun i hi => ?_) fun i _ _ => ev_var rfl) fun pw σ7 H7 hpw e7 Lw En => ?_
      · have hi := List.mem_range.mp hi
        have hg : (bs.map encX)[i]? = some (encX (bs.getD i none)) := by
          rw [List.getElem?_map, getD_at (d := none) (by rw [hl]; exact hi)]
          rfl
        have Lb' := (Lb.ex e5).ex e6
        refine et_is (et_and (et_test (ev_notN (ev_ixL Lb' (ev_var rfl) (ev_var rfl) (atI_some hg)) ev_non)) (b := inBox l (bs.getD i none)) fun hn => ?_) ?_
        · generalize hbd : bs.getD i none = bx at hn hg
          cases bx with
          | none => cases hn
          | some b => exact et_test (ev_le (ev_ixL Lb' (d := .int b) (ev_var rfl) (ev_var rfl) (atI_some hg)) (ev_var rfl))
        · generalize bs.getD i none = bx
          cases bx <;> rfl
      have ew : ((List.range hs.length).filter fun i => inBox l (bs.getD i none)).map (fun i => D.int (i : Nat)) = (within bs l).map .int := by
        rw [within_range, List.map_map, hl]
        rfl
      rw [ew] at Lw
      have e17 := ((e14.trans e5).trans e6).trans e7
      refine x_setD (((Lh.ex e5).ex e6).ex e7) (d := (behind bs l).enc) jh En (ev_if (b := decide (((within bs l).length : Int) < l)) (et_is (et_test (ev_lt (ev_lenL Lw (ev_var rfl)) (ev_var rfl))) (by rw [List.length_map])) (fun hb => ?_) fun hb => ?_) (ev_var rfl) (ev_var rfl) fun H8 m8 L8 En => ?_
      · refine ev_is (ev_tup (ea_cons ev_str (ea_cons (ev_sub (ev_var rfl) ev_int) ea_nil)) l2) ?_
        have := of_decide_eq_true hb
        unfold behind
        rw [if_neg (by omega)]
        rfl
      · refine ev_is (ev_tup (ea_cons ev_str (ea_cons (ev_tupleL Lw (ev_var rfl)) ea_nil)) l2) ?_
        have := of_decide_eq_false hb
        unfold behind
        rw [if_pos (by omega)]
        rfl
      · have x8 : Ex H H8 := m8.ex e17 hph
        rw [← List.map_set] at L8
        refine fin _ H8 _ _ _ bs _ x8 En (m8.lst (((Lb.ex e5).ex e6).ex e7) hne) L8 ?_ ?_
        · unfold stepB
          rw [hx]
        · unfold stepH
          rw [hx]
    | out =>
      refine q_if (b := false) En (et_test (ev_eqS (ev_word (x := .out) (ev_var rfl)) ev_str rfl)) (fun z => nomatch z) fun _ H5 e5 => ?_
      have En := En.ex e5
      refine q_asg En (ev_if (b := true) (et_test (ev_eqS (ev_word (x := .out) (ev_var rfl)) ev_str rfl)) (fun _ => ev_var rfl) (fun z => nomatch z)) fun σ6 H6 e6 En => ?_
      refine q_setD ((Lb.ex e5).ex e6) (d := encX (some (hs.length : Nat))) jb En (ev_var rfl) (ev_var rfl) (ev_var rfl) fun H7 m7 L7 En => ?_
      refine x_setD (m7.lst ((Lh.ex e5).ex e6) hne.symm) (d := (Hr.look (hs.length : Nat)).enc) jh En (ev_tup (ea_cons ev_str (ea_cons (ev_var rfl) ea_nil)) l2) (ev_var rfl) (ev_var rfl) fun H8 m8 L8 En => ?_
      have x8 : Ex H H8 := m8.ex (m7.ex ((e14.trans e5).trans e6) hpb) hph
      rw [← List.map_set] at L7 L8
      refine fin _ H8 _ _ _ _ _ x8 En (m8.lst L7 hne) L8 ?_ ?_
      · unfold stepB
        rw [hx, hl]
      · unfold stepH
        rw [hx, hl]
    | put l =>
      refine q_if (b := false) En (et_test (ev_eqS (ev_word (x := .put l) (ev_var rfl)) ev_str rfl)) (fun z => nomatch z) fun _ H5 e5 => ?_
      have En := En.ex e5
      refine q_asg En (ev_if (b := false) (et_test (ev_eqS (ev_word (x := .put l) (ev_var rfl)) ev_str rfl)) (fun z => nomatch z) fun _ => ev_ixT (ds := [.str "put", .int l]) (d := .int l) (ev_var rfl) ev_int rfl) fun σ6 H6 e6 En => ?_
      refine q_setD ((Lb.ex e5).ex e6) (d := encX (some l)) jb En (ev_var rfl) (ev_var rfl) (ev_var rfl) fun H7 m7 L7 En => ?_
      refine x_setD (m7.lst ((Lh.ex e5).ex e6) hne.symm) (d := (Hr.look l).enc) jh En (ev_tup (ea_cons ev_str (ea_cons (ev_var rfl) ea_nil)) l2) (ev_var rfl) (ev_var rfl) fun H8 m8 L8 En => ?_
      have x8 : Ex H H8 := m8.ex (m7.ex ((e14.trans e5).trans e6) hpb) hph
      rw [← List.map_set] at L7 L8
      refine fin _ H8 _ _ _ _ _ x8 En (m8.lst L7 hne) L8 ?_ ?_
      · unfold stepB
        rw [hx]
      · unfold stepH
        rw [hx]
end
end Hn


namespace Hn
open PySem PySem.Spec PyProof.Rows L2
/-- a view: the hand, and the rows of those it sees -/
def encV (h : Int) (v : List Int) : D := .tup [.int h, .tup (v.map pl)]
theorem sort_up {ns us : List Int} (nd : ns.Nodup) (hu : us.Pairwise (· < ·)) (hm : ∀ k, k ∈ us ↔ k ∈ ns) : sortI ns = us := by
  have h1 : (sortI ns).Pairwise (· ≠ ·) := (sortI_perm ns).nodup_iff.mpr nd
  have h2 : (sortI ns).Pairwise (· < ·) := (List.pairwise_and_iff.mpr ⟨sortI_up ns, h1⟩).imp fun ⟨a, b⟩ => by omega
  exact up_unique h2 hu fun k => by rw [(sortI_perm ns).mem_iff, hm]
theorem nd1 (k : Int) : [k].Nodup := List.pairwise_singleton _ _
theorem addK_mem {ks : List Int} {k x : Int} : x ∈ addK ks k ↔ x ∈ ks ∨ x = k := by
  unfold addK
  split
  · constructor
    · exact .inl
    · rintro (h | rfl)
      · exact h
      · assumption
  · simp
theorem addK_nd {ks : List Int} {k : Int} (h : ks.Nodup) : (addK ks k).Nodup := by
  unfold addK
  split
  · exact h
  · rename_i hn
    refine List.nodup_append.mpr ⟨h, nd1 k, ?_⟩
    rintro a ha b hb rfl
    rw [List.mem_singleton] at hb
    subst hb
    exact hn ha
theorem foldK_mem : ∀ (v ks : List Int) (x : Int), x ∈ v.foldl addK ks ↔ x ∈ ks ∨ x ∈ v
  | [], ks, x => by simp
  | k :: v, ks, x => by
    rw [List.foldl_cons, foldK_mem v, addK_mem, List.mem_cons, or_assoc]
theorem foldK_nd : ∀ (v ks : List Int), ks.Nodup → (v.foldl addK ks).Nodup
  | [], _, h => h
  | k :: v, ks, h => foldK_nd v _ (addK_nd h)
theorem addK_len (ks : List Int) (k : Int) : (addK ks k).length ≤ ks.length + 1 := by
  unfold addK
  split
  · omega
  · simp
theorem foldK_len : ∀ (v ks : List Int), (v.foldl addK ks).length ≤ ks.length + v.length
  | [], ks => by simp
  | k :: v, ks => by
    have h1 := foldK_len v (addK ks k)
    have h2 := addK_len ks k
    rw [List.foldl_cons, List.length_cons]
    omega
theorem foldK_snoc {v : List Int} {ks : List Int} {i : Nat} {k : Int} (h : v[i]? = some k) : (v.take (i + 1)).foldl addK ks = addK ((v.take i).foldl addK ks) k := by
  obtain ⟨hi, rfl⟩ := List.getElem?_eq_some_iff.mp h
  rw [List.take_succ_eq_append_getElem hi, List.foldl_append]
  rfl
section
variable {P : Program} {w : World} {K : PySem.W.Frag} {mg : Str → Option Value} {base : Heap}
variable {ρ ρ' : List (Option D)} {H H' : Hp} {ta tb tc te tx tl td tv : TE} {E : XK} {ds es : List D} {σ : L2.St} {D0 : Ends} {tz : TS} {p : Addr}
theorem Mut.of' {o : HO} (e : Ex H H') (nt : ∀ xs, H' p ≠ some (.tup xs)) : Mut H (upd H' p o) p := ⟨(TK.of e).trans fun b xs h => by
  rw [upd_ne (fun z => by rw [z] at h; exact nt _ h)]
  exact h, fun b v n h => by
  rw [upd_ne n]
  exact e _ _ h⟩
theorem Mut.dic {r : Addr} {kvs : List (Int × D)} (m : Mut H H' p) (h : DicI r kvs H) (n : r ≠ p) : DicI r kvs H' := by
  obtain ⟨vs, h1, h2⟩ := h
  exact ⟨vs, m.off _ _ n h1, h2.mono m.tk⟩
theorem Mut.env (m : Mut H H' p) (h : Env σ H ρ) : Env σ H' ρ := h.mono m.tk
theorem Mut.trans {H1 : Hp} (a : Mut H H1 p) (b : Mut H1 H' p) : Mut H H' p := ⟨a.tk.trans b.tk, fun c u n h => b.off c u n (a.off c u n h)⟩
theorem Mut.ofEx (e : Ex H H') : Mut H H' p := ⟨TK.of e, fun c u _ h => e c u h⟩
theorem x_dputM {k : Int} {d : D} {kvs : List (Int × D)} (hD : DicI p kvs H) (hn : k ∉ kvs.map (·.1)) (hz : kvs.length ≤ 1000) (En : Env σ H ρ) (hv : Ev tv ρ H d) (ha : Ev td ρ H (.ptr p)) (hb : Ev te ρ H (.int k)) (kk : ∀ H2, Mut H H2 p → DicI p (kvs ++ [(k, d)]) H2 → Env σ H2 ρ → D0.nx σ H2) : sDPut td te tv D0 σ H :=
  x_dput hD hn hz En hv ha hb fun o H1 e1 h1 nt => kk _ (Mut.of' e1 nt) h1 ((Mut.of' e1 nt).env En)
theorem x_dputSM {k : Int} {ks : List Int} (hD : DicS p ks H) (hz : ks.length ≤ 1000) (En : Env σ H ρ) (ha : Ev td ρ H (.ptr p)) (hb : Ev te ρ H (.int k)) (kk : ∀ H2, Mut H H2 p → DicS p (addK ks k) H2 → Env σ H2 ρ → D0.nx σ H2) : sDPut td te (tC (.bl true)) D0 σ H :=
  x_dputS hD hz En ha hb fun o H1 e1 h1 nt => kk _ (Mut.of' e1 nt) h1 ((Mut.of' e1 nt).env En)
theorem DicI.ne {kvs : List (Int × D)} {r : Addr} (h : DicI r kvs H) (n : H p = none) : r ≠ p := by
  obtain ⟨_, h1, _⟩ := h
  exact fun z => by rw [z, n] at h1; cases h1
theorem look_map {α : Type} [BEq α] [LawfulBEq α] {β : Type} (f : α → β) : ∀ {xs : List α} {a : α}, a ∈ xs → (xs.map fun a => (a, f a)).lookup a = some (f a)
  | x :: xs, a, h => by
    rw [List.map_cons, List.lookup_cons]
    by_cases e : a = x
    · subst e
      rw [beq_self_eq_true]
    · rw [beq_eq_false_iff_ne.mpr e]
      rcases List.mem_cons.mp h with z | z
      · exact absurd z e
      · exact look_map f z
theorem fst_map {α β : Type} (f : α → β) (xs : List α) : (xs.map fun a => (a, f a)).map (·.1) = xs := by
  rw [List.map_map]
  exact List.map_id' xs
theorem SeenAt.mem {r : List (List Int)} {h : Int} {v : List Int} (s : SeenAt r h v) {g : Int} (hg : g ∈ v) : g ∈ r.flatten := by
  obtain ⟨k, b, hk, hb, hn, rfl⟩ := s
  have h1 := (sortI_perm _).mem_iff.mp hg
  obtain ⟨c, hc, hgc⟩ := List.mem_flatten.mp h1
  exact List.mem_flatten.mpr ⟨c, List.mem_of_mem_take hc, hgc⟩
theorem SeenAt.len {r : List (List Int)} {h : Int} {v : List Int} (s : SeenAt r h v) : v.length ≤ r.flatten.length := by
  obtain ⟨k, b, hk, hb, hn, rfl⟩ := s
  rw [(sortI_perm _).length_eq]
  exact take_flat _
abbrev s_view_of : Stmt := top 10
abbrev N_view_of : List Str := ["rounds", "hand", "views", "round_here", "later", "one", "other"]
abbrev P_view_of : List Str := ["rounds", "hand"]
theorem sc_view_of : FnScope N_view_of P_view_of (defScope s_view_of) := ⟨rfl, rfl, rfl, by decide +kernel, rfl, by decide +kernel, by decide +kernel⟩

def R_view_of (ds : List D) (d : D) : Prop := ∃ (r : List (List Int)) (sn : Int → List Int) (h : Int), ds = [.tup [encR r], .int h] ∧ r.length < 64 ∧ r.flatten.length < 64 ∧ r.flatten.Nodup ∧ (∀ g ∈ r.flatten, SeenAt r g (sn g)) ∧ h ∈ r.flatten ∧ d = encV h (sn h)
theorem ok_view_of (Z : Zs mg) (F : DefAt K mg "view_of" s_view_of P_view_of) (F_hands_in : FnAt P w K mg base 1 "hands_in" P_hands_in (spL R_hands)) (F_seen_by : FnAt P w K mg base 1 "seen_by" P_seen_by (spL R_seen)) : FnAt P w K mg base 2 "view_of" P_view_of (spD R_view_of) := by
  refine F.ok sc_view_of (spD_len fun ds d ⟨_, _, _, e, _⟩ => by rw [e]; rfl) fun f cdv A outer s H vs Q E hr h => ?_
  have nd := sc_view_of.nd
  obtain ⟨ds, d, t, ⟨r, sn, h, rfl, hrl, hl, hnd, hs, hh, rfl⟩, q⟩ := h
  refine ⟨_, 
    (pss_cons (ps_set (i := 2) nd rfl (Or.inr rfl) (pe_callTy (call_dictP rfl : CallR _ _ (rDictP K)) rfl Z.z_dict boot_dict (pa_cons (pe_lc (own := [("one", 5)]) (g := gName 5) rfl nd (pi_list (pe_fn F_hands_in (hr.mono (by decide)) rfl (pa_cons (pe_ix (ix_tup : IxR _ (rIxT K)) (pv 0) pe_int (fun _ _ => rfl)) pa_nil))) (blkOk_by (own := [("one", 5)]) (N := N_view_of) (sc := defScope s_view_of) (by decide +kernel)) (fun _ _ _ _ _ => (pg_name (i := 5) nd rfl (Or.inl rfl))) (fun _ _ _ _ _ => pts_nil) (fun _ _ _ _ _ => (pe_tup (pa_cons (pv 5) (pa_cons (pe_tup (pa_cons (pv 5) (pa_cons (pe_tup pa_nil) pa_nil))) pa_nil))))) pa_nil))) 
    (pss_cons (ps_for PassesOwn.never rfl (pi_tup (pv 0)) (pg_name (i := 3) nd rfl (Or.inl rfl)) 
      (pss_cons (ps_set (i := 4) nd rfl (Or.inl rfl) pe_dnewK) 
      (pss_cons (ps_for PassesOwn.never rfl (pi_list (pe_fn F_hands_in (hr.mono (by decide)) rfl (pa_cons (pv 3) pa_nil))) (pg_name (i := 5) nd rfl (Or.inl rfl)) 
        (pss_one (ps_dput (hu_of hr) (pv 4) (pv 5) (pe_tup (pa_cons (pv 5) (pa_cons (pe_callTy (call_tuple_of : CallR _ _ (rTupleS K)) rfl Z.z_tuple boot_tuple (pa_cons (pe_lc (own := [("other", 6)]) (g := gName 6) rfl nd (pi_list (pe_fn F_seen_by (hr.mono (by decide)) rfl (pa_cons (pv 3) (pa_cons (pv 5) pa_nil)))) (blkOk_by (own := [("other", 6)]) (N := N_view_of) (sc := defScope s_view_of) (by decide +kernel)) (fun _ _ _ _ _ => (pg_name (i := 6) nd rfl (Or.inl rfl))) (fun _ _ _ _ _ => pts_nil) (fun _ _ _ _ _ => (pe_dget (hu_of hr) (pv 2) (pv 6) (fun _ _ => rfl)))) pa_nil)) pa_nil))) rfl))) 
      (pss_one (ps_set (i := 2) nd rfl (Or.inr rfl) (pv 4)))))) 
    (pss_one (ps_ret (pe_dget (hu_of hr) (pv 2) (pv 1) (fun _ _ => rfl)))))), ?_⟩
  have En := Env.start N_view_of t
  have hgl : (sortI r.flatten).length < 64 := by rw [(sortI_perm _).length_eq]; exact hl
  have hgn : (sortI r.flatten).Nodup := (sortI_perm _).nodup_iff.mpr hnd
  have hgm : ∀ g, g ∈ sortI r.flatten ↔ g ∈ r.flatten := fun g => (sortI_perm _).mem_iff
  generalize hgs : sortI r.flatten = gs at hgl hgn hgm
  refine q_asgX (Φ := fun p H => DicI p (gs.map fun g => (g, pl g)) H) En (ex_dict (el_is (el_mapN (xs := gs) (enc := .int) (ei_new (el_call (ea_cons (ev_ixT (ds := [encR r]) (d := encR r) (ev_var rfl) ev_int rfl) ea_nil) ⟨r, rfl, hl, by rw [hgs]⟩)) (fun g => .tup [.int g, pl g]) (by omega) fun g hg => ?_) (by rw [List.map_map]; rfl)) (by rw [fst_map]; exact hgn)) fun pv σ1 H1 hp1 e1 hD1 En => ?_
  · exact ev_tup (ea_cons (ev_var rfl) (ea_cons (ev_tup (ea_cons (ev_var rfl) (ea_cons (ev_tup ea_nil (Nat.zero_le _)) ea_nil)) l2) ea_nil)) l2
  refine q_forT (ds := [encR r]) En (ev_var rfl) (fun H2 i σ' H' => TK H2 H' ∧ Ex H H' ∧ ∃ pw kvs, Env σ' H' [some (.tup [encR r]), some (.int h), some (.ptr pw), none, none, none, none] ∧ DicI pw kvs H' ∧ (i = 0 → kvs = gs.map fun g => (g, pl g)) ∧ (i ≠ 0 → kvs = gs.map fun g => (g, encV g (sn g)))) (fun H2 e2 => ⟨TK.refl _, e1.trans e2, pv, _, ((((En.ex e2).forget 3).forget 4).forget 5).forget 6, hD1.ex e2, fun _ => rfl, fun z => absurd rfl z⟩) (fun _ _ _ _ h => h.1) (fun H2 i x σ' H' v e2 hx ⟨k1, k2, pw, kvs, k3, k4, k5, k6⟩ tx => ?_) (fun H2 σ' H' e2 ⟨k1, k2, pw, kvs, k3, k4, k5, k6⟩ => ?_)
  · have hi : i = 0 := by
      have := (List.getElem?_eq_some_iff.mp hx).1
      exact Nat.lt_one_iff.mp this
    subst hi
    obtain rfl := k5 rfl
    cases hx
    refine tg_name (vs := [3]) (List.mem_singleton.mpr rfl) v σ' H' _ k3 tx fun σ3 E3 _ => ?_
    refine q_asgX E3 ex_new fun pl' σ4 H4 hp4 e4 hD4 E4 => ?_
    have npl : pw ≠ pl' := k4.ne hp4
    refine q_forL (ds := gs.map .int) E4 (el_call (ea_cons (ev_var rfl) ea_nil) ⟨r, rfl, hl, by rw [hgs]⟩) (fun H5 q xs i σ' H6 => (H6 q = some (.lst xs) ∧ q ≠ pl') ∧ TK H5 H6 ∧ Mut H4 H6 pl' ∧ Env σ' H6 [some (.tup [encR r]), some (.int h), some (.ptr pw), some (encR r), some (.ptr pl'), none, none] ∧ DicI pl' ((gs.take i).map fun g => (g, encV g (sn g))) H6) (fun H5 q xs hq e5 hx tx => ⟨⟨hx, ?_⟩, TK.refl _, Mut.ofEx e5, ((E4.ex e5).forget 5).forget 6, hD4.ex e5⟩) (fun H5 q xs i σ' H6 z => ⟨z.1.1, z.2.1⟩) (fun H5 q xs i x σ' H6 v e5 hx ⟨m0, m1, m2, m3, m4⟩ tx => ?_) (fun H5 q xs σ' H6 e5 ⟨m0, m1, m2, m3, m4⟩ => ?_)
    · exact (hD4.ne hq).symm
    · rw [List.getElem?_map] at hx
      obtain ⟨g, hg, rfl⟩ := Option.map_eq_some_iff.mp hx
      have hgi := (List.getElem?_eq_some_iff.mp hg).1
      have hgr : g ∈ r.flatten := (hgm g).mp (List.mem_of_getElem? hg)
      refine tg_name (vs := [5]) (List.mem_singleton.mpr rfl) v σ' H6 _ m3 tx fun σ7 E7 _ => ?_
      have hDv : DicI pw (gs.map fun g => (g, pl g)) H6 := m2.dic (k4.ex e4) npl
      refine x_dputM (k := g) (d := encV g (sn g)) m4 ?_ ?_ E7 (ev_tup (ea_cons (ev_var rfl) (ea_cons (ev_tupleN (el_mapN (xs := sn g) (enc := .int) (ei_new (el_call (ea_cons (ev_var rfl) (ea_cons (ev_var rfl) ea_nil)) ⟨r, g, _, rfl, hrl, hl, hs g hgr, rfl⟩)) pl ?_ fun o ho => ?_)) ea_nil)) l2) (ev_var rfl) (ev_var rfl) fun H8 m8 D8 E8 => ?_
      · rw [fst_map]
        exact fun z => by
          rw [List.mem_take_iff_getElem] at z
          obtain ⟨j, hj, e⟩ := z
          obtain ⟨h1, h2⟩ := List.getElem?_eq_some_iff.mp hg
          exact List.pairwise_iff_getElem.mp hgn j i (by omega) h1 (by omega) (e.trans h2.symm)
      · rw [List.length_map, List.length_take]
        omega
      · have := (hs g hgr).len
        omega
      · exact ev_dget (d := pl o) hDv (look_map pl ((hgm o).mpr ((hs g hgr).mem ho))) (ev_var rfl) (ev_var rfl)
      · refine ⟨⟨m8.off _ _ m0.2 m0.1, m0.2⟩, m1.trans m8.tk, m2.trans m8, E8.forget 5, ?_⟩
        rw [List.take_succ_eq_append_getElem hgi, List.map_append]
        obtain ⟨_, hg'⟩ := List.getElem?_eq_some_iff.mp hg
        rw [hg']
        exact D8
    · rw [List.length_map, List.take_length] at m4
      refine x_asg m3 (ev_var rfl) fun σ9 H9 e9 E9 => ?_
      exact ⟨((k1.trans (TK.of e4)).trans m2.tk).trans (TK.of e9), (m2.ex (k2.trans e4) (fresh_back k2 hp4)).trans e9, pl', _, (E9.forget 3).forget 4, m4.ex e9, fun z => absurd z (by decide), fun _ => rfl⟩
  · obtain rfl := k6 (Nat.one_ne_zero)
    exact x_ret k3 (ev_dget k4 (look_map (fun g => encV g (sn g)) ((hgm h).mpr hh)) (ev_var rfl) (ev_var rfl)) fun v H3 e3 t3 => q v H3 (k2.trans e3) t3
abbrev s_standing : Stmt := top 26
abbrev N_standing : List Str := ["view", "found", "one", "hand"]
abbrev P_standing : List Str := ["view"]
theorem sc_standing : FnScope N_standing P_standing (defScope s_standing) := ⟨rfl, rfl, rfl, by decide +kernel, rfl, by decide +kernel, by decide +kernel⟩

def R_standing0 (ds es : List D) : Prop := ∃ g : Int, ds = [pl g] ∧ es = [.int g]
theorem ok_standing0 (Z : Zs mg) (F : DefAt K mg "standing" s_standing P_standing) : FnAt P w K mg base 1 "standing" P_standing (spL R_standing0) := by
  refine F.ok sc_standing (spL_len fun ds d ⟨_, e, _⟩ => by rw [e]; rfl) fun f cdv A outer s H vs Q E hr h => ?_
  have nd := sc_standing.nd
  obtain ⟨ds, d, t, ⟨g, rfl, rfl⟩, q⟩ := h
  refine ⟨_, 
    (pss_cons (ps_set (i := 1) nd rfl (Or.inl rfl) (pe_disp (pps_cons (pe_ix (ix_tup : IxR _ (rIxT K)) (pv 0) pe_int (fun _ _ => rfl)) pe_bl pps_nil) (by rfl) (by rfl) (fun z => by cases z) (by decide))) 
    (pss_cons (ps_for PassesOwn.never rfl (pi_tup (pe_ix (ix_tup : IxR _ (rIxT K)) (pv 0) pe_int (fun _ _ => rfl))) (pg_name (i := 2) nd rfl (Or.inl rfl)) 
      (pss_one (ps_for PassesOwn.never rfl (pi_list pe_never) (pg_name (i := 3) nd rfl (Or.inl rfl)) 
        (pss_one (ps_dput (hu_of hr) (pv 1) (pv 3) pe_bl rfl))))) 
    (pss_one (ps_ret (pe_callB (call_sortedDI rfl : CallR _ _ rSortedDI) rfl Z.z_sorted boot_sorted (pa_cons (pv 1) pa_nil)))))), ?_⟩
  have En := Env.start N_standing t
  refine q_asgX En (ex_dispS (ev_ixT (ds := [.int g, .tup []]) (d := .int g) (ev_var rfl) ev_int rfl)) fun p σ1 H1 hp1 e1 hD En => ?_
  refine q_forT (ds := []) En (ev_ixT (ds := [.int g, .tup []]) (d := .tup []) (ev_var rfl) ev_int rfl) (fun H2 i σ' H' => TK H2 H' ∧ Ex H H' ∧ Env σ' H' [some (pl g), some (.ptr p), none, none] ∧ DicS p [g] H') (fun H2 e2 => ⟨TK.refl _, e1.trans e2, En.ex e2, hD.ex e2⟩) (fun _ _ _ _ h => h.1) (fun H2 i x σ' H' v e2 hx _ _ => by simp at hx) fun H2 σ' H' e2 ⟨_, k2, k3, k4⟩ => ?_
  exact x_retL k3 (el_sortedS k4 (by show 1 < 64; decide) (ev_var rfl)) fun p H3 h3 e3 t3 => q p H3 (fresh_back k2 h3) (k2.trans e3) (by rw [sort_up (us := [g]) (nd1 g) (List.pairwise_singleton _ _) (fun _ => Iff.rfl)] at t3; exact t3)
def R_standing (ds es : List D) : Prop := ∃ (h : Int) (v : List Int), ds = [encV h v] ∧ h ∈ v ∧ v.Pairwise (· < ·) ∧ v.length < 60 ∧ es = v.map .int
theorem ok_standing (Z : Zs mg) (F : DefAt K mg "standing" s_standing P_standing) (F_standing : FnAt P w K mg base 1 "standing" P_standing (spL R_standing0)) : FnAt P w K mg base 2 "standing" P_standing (spL R_standing) := by
  refine F.ok sc_standing (spL_len fun ds d ⟨_, _, e, _⟩ => by rw [e]; rfl) fun f cdv A outer s H vs Q E hr h => ?_
  have nd := sc_standing.nd
  obtain ⟨ds, d, t, ⟨h, v, rfl, hm, hu, hl, rfl⟩, q⟩ := h
  refine ⟨_, 
    (pss_cons (ps_set (i := 1) nd rfl (Or.inl rfl) (pe_disp (pps_cons (pe_ix (ix_tup : IxR _ (rIxT K)) (pv 0) pe_int (fun _ _ => rfl)) pe_bl pps_nil) (by rfl) (by rfl) (fun z => by cases z) (by decide))) 
    (pss_cons (ps_for PassesOwn.never rfl (pi_tup (pe_ix (ix_tup : IxR _ (rIxT K)) (pv 0) pe_int (fun _ _ => rfl))) (pg_name (i := 2) nd rfl (Or.inl rfl)) 
      (pss_one (ps_for PassesOwn.never rfl (pi_list (pe_fn F_standing (hr.mono (by decide)) rfl (pa_cons (pv 2) pa_nil))) (pg_name (i := 3) nd rfl (Or.inl rfl)) 
        (pss_one (ps_dput (hu_of hr) (pv 1) (pv 3) pe_bl rfl))))) 
    (pss_one (ps_ret (pe_callB (call_sortedDI rfl : CallR _ _ rSortedDI) rfl Z.z_sorted boot_sorted (pa_cons (pv 1) pa_nil)))))), ?_⟩
  have En := Env.start N_standing t
  refine q_asgX En (ex_dispS (ev_ixT (ds := [.int h, .tup (v.map pl)]) (d := .int h) (ev_var rfl) ev_int rfl)) fun p σ1 H1 hp1 e1 hD En => ?_
  refine q_forT (ds := v.map pl) En (ev_ixT (ds := [.int h, .tup (v.map pl)]) (d := .tup (v.map pl)) (ev_var rfl) ev_int rfl) (fun H2 i σ' H' => TK H2 H' ∧ Ex H H' ∧ Env σ' H' [some (encV h v), some (.ptr p), none, none] ∧ DicS p ((v.take i).foldl addK [h]) H') (fun H2 e2 => ⟨TK.refl _, e1.trans e2, En.ex e2, hD.ex e2⟩) (fun _ _ _ _ h => h.1) (fun H2 i x σ' H' u e2 hx ⟨k1, k2, k3, k4⟩ tx => ?_) fun H2 σ' H' e2 ⟨k1, k2, k3, k4⟩ => ?_
  · rw [List.getElem?_map] at hx
    obtain ⟨g, hg, rfl⟩ := Option.map_eq_some_iff.mp hx
    refine tg_name (vs := [2]) (List.mem_singleton.mpr rfl) u σ' H' _ k3 tx fun σ3 E3 _ => ?_
    refine x_forL (ds := [.int g]) E3 (el_call (ea_cons (ev_var rfl) ea_nil) ⟨g, rfl, rfl⟩) (fun H4 q xs j σ' H5 => (H5 q = some (.lst xs) ∧ q ≠ p) ∧ TK H4 H5 ∧ Mut H' H5 p ∧ Env σ' H5 [some (encV h v), some (.ptr p), some (pl g), none] ∧ (j = 0 → DicS p ((v.take i).foldl addK [h]) H5) ∧ (j ≠ 0 → DicS p ((v.take (i + 1)).foldl addK [h]) H5)) (fun H4 q xs hq e4 hx tx => ⟨⟨hx, ?_⟩, TK.refl _, Mut.ofEx e4, (E3.ex e4).forget 3, fun _ => k4.ex e4, fun z => absurd rfl z⟩) (fun H4 q xs j σ' H5 z => ⟨z.1.1, z.2.1⟩) (fun H4 q xs j x σ' H5 y e4 hx ⟨m0, m1, m2, m3, m4, _⟩ tx => ?_) (fun H4 q xs σ' H5 e4 ⟨m0, m1, m2, m3, _, m5⟩ => ?_)
    · exact fun z => by
        have k4' : H' p = _ := k4
        rw [z, k4'] at hq
        cases hq
    · have hj : j = 0 := by
        have := (List.getElem?_eq_some_iff.mp hx).1
        exact Nat.lt_one_iff.mp this
      subst hj
      cases hx
      refine tg_name (vs := [3]) (List.mem_singleton.mpr rfl) y σ' H5 _ m3 tx fun σ6 E6 _ => ?_
      refine x_dputSM (m4 rfl) ?_ E6 (ev_var rfl) (ev_var rfl) fun H7 m7 D7 E7 => ?_
      · have h1 := foldK_len (v.take i) [h]
        rw [List.length_take] at h1
        have h2 : [h].length = 1 := rfl
        omega
      · exact ⟨⟨m7.off _ _ m0.2 m0.1, m0.2⟩, m1.trans m7.tk, m2.trans m7, E7.forget 3, fun z => absurd z (by decide), fun _ => by rw [foldK_snoc hg]; exact D7⟩
    · exact ⟨k1.trans m2.tk, m2.ex k2 hp1, m3.forget 2, m5 (Nat.one_ne_zero)⟩
  · rw [List.length_map, List.take_length] at k4
    have e : sortI (v.foldl addK [h]) = v := sort_up (foldK_nd v _ (nd1 h)) hu fun k => by
      rw [foldK_mem, List.mem_singleton]
      exact ⟨.inr, fun z => z.elim (fun y => y ▸ hm) id⟩
    have h1 := foldK_len v [h]
    have h2 : [h].length = 1 := rfl
    exact x_retL k3 (el_sortedS k4 (by omega) (ev_var rfl)) fun p H3 h3 e3 t3 => q p H3 (fresh_back k2 h3) (k2.trans e3) (by rw [e] at t3; exact t3)
end
end Hn


namespace Hn
open PySem PySem.Spec PyProof.Rows L2
/-- promises that read the heap -/
def spH (R : Hp → List D → D → Prop) : Sp := fun vs H Q _ => ∃ ds d, Tps H vs ds ∧ R H ds d ∧ ∀ v H', Ex H H' → Tp H' v d → Q v H'
def spX (R : Hp → List D → (Addr → Hp → Prop) → Prop) : Sp := fun vs H Q _ => ∃ ds Φ, Tps H vs ds ∧ R H ds Φ ∧ ∀ p H', H p = none → Ex H H' → Φ p H' → Q (.ref p) H'
theorem spH_len {R : Hp → List D → D → Prop} {n : Nat} (h : ∀ H ds d, R H ds d → ds.length = n) : ∀ vs H Q E, spH R vs H Q E → vs.length = n := fun vs H Q E ⟨ds, d, t, r, _⟩ => t.1.trans (h H ds d r)
theorem spX_len {R : Hp → List D → (Addr → Hp → Prop) → Prop} {n : Nat} (h : ∀ H ds d, R H ds d → ds.length = n) : ∀ vs H Q E, spX R vs H Q E → vs.length = n := fun vs H Q E ⟨ds, d, t, r, _⟩ => t.1.trans (h H ds d r)
/-- a kind of view: place j among s -/
def kindD (j s : Nat) : D := .tup [.int (j : Nat), .tup ((List.range s).map fun i => pl (i : Nat))]
def gsAt (gs : List Int) (g : Int) : Int := gs.getD g.toNat 0
def rkOf (gs v : List Int) (g : Int) : Nat := (v.filter fun i => decide (gsAt gs i < gsAt gs g)).length
/-- the place in a rising row -/
theorem rise_place : ∀ {os : List Int} {x : Int}, os.Pairwise (· < ·) → x ∈ os → os[(os.filter fun y => decide (y < x)).length]? = some x
  | o :: os, x, h, hx => by
    obtain ⟨h1, h2⟩ := List.pairwise_cons.mp h
    by_cases e : o < x
    · rw [List.filter_cons, if_pos (decide_eq_true e), List.length_cons, List.getElem?_cons_succ]
      rcases List.mem_cons.mp hx with z | z
      · omega
      · exact rise_place h2 z
    · rw [List.filter_cons, if_neg (by rw [decide_eq_false e]; decide)]
      have ex : x = o := by
        rcases List.mem_cons.mp hx with z | z
        · exact z
        · have := h1 x z
          omega
      subst ex
      have : (os.filter fun y => decide (y < x)) = [] := List.filter_eq_nil_iff.mpr fun y hy => by
        have := h1 y hy
        simp
        omega
      rw [this]
      rfl
theorem rise_no {os : List Int} (h : os.Pairwise (· < ·)) {j m : Nat} {x z : Int} (hj : os[j]? = some x) (hm : m < j) (hz : os[m]? = some z) : z ≠ x := by
  obtain ⟨a, rfl⟩ := List.getElem?_eq_some_iff.mp hj
  obtain ⟨b, rfl⟩ := List.getElem?_eq_some_iff.mp hz
  have := List.pairwise_iff_getElem.mp h m j b a hm
  omega
theorem rise_map {os : List Int} (h : os.Pairwise (· < ·)) : (os.map fun x => ((os.filter fun y => decide (y < x)).length : Int)) = (List.range os.length).map Int.ofNat := by
  refine List.ext_getElem? fun i => ?_
  rw [List.getElem?_map, List.getElem?_map]
  by_cases hi : i < os.length
  · rw [List.getElem?_range hi, List.getElem?_eq_getElem hi]
    have h1 := rise_place h (List.getElem_mem hi)
    obtain ⟨h2, h3⟩ := List.getElem?_eq_some_iff.mp h1
    have : (os.filter fun y => decide (y < os[i])).length = i := by
      rcases Nat.lt_trichotomy (os.filter fun y => decide (y < os[i])).length i with z | z | z
      · have := List.pairwise_iff_getElem.mp h _ i h2 hi z
        omega
      · exact z
      · have := List.pairwise_iff_getElem.mp h i _ hi h2 z
        omega
    rw [Option.map_some, Option.map_some, this]
    rfl
  · rw [List.getElem?_eq_none (by omega), List.getElem?_eq_none (by rw [List.length_range]; omega)]
    rfl
theorem filt_len {α : Type} {xs ys : List α} (p : α → Bool) (h : xs.Perm ys) : (xs.filter p).length = (ys.filter p).length := (h.filter p).length_eq
theorem rk_sorted (gs v : List Int) (g : Int) : ((sortI (v.map (gsAt gs))).filter fun y => decide (y < gsAt gs g)).length = rkOf gs v g := by
  rw [filt_len _ (sortI_perm _), List.filter_map, List.length_map]
  rfl
theorem os_up {gs v : List Int} (nd : (v.map (gsAt gs)).Nodup) : (sortI (v.map (gsAt gs))).Pairwise (· < ·) :=
  (List.pairwise_and_iff.mpr ⟨sortI_up _, (sortI_perm _).nodup_iff.mpr nd⟩).imp fun ⟨a, b⟩ => by omega
theorem rk_all {gs v : List Int} (nd : (v.map (gsAt gs)).Nodup) : sortI (v.map fun g => (rkOf gs v g : Int)) = (List.range v.length).map Int.ofNat := by
  have h := rise_map (os_up nd)
  have e : (List.range (sortI (v.map (gsAt gs))).length).map Int.ofNat = (List.range v.length).map Int.ofNat := by rw [(sortI_perm _).length_eq, List.length_map]
  rw [e] at h
  refine sortI_eq ?_ ?_
  · rw [← h]
    refine ((sortI_perm _).map _).trans ?_
    rw [List.map_map]
    refine List.Perm.of_eq (List.map_congr_left fun g _ => ?_)
    show ((List.filter _ _).length : Int) = _
    rw [rk_sorted]
  · refine List.pairwise_map.mpr (List.pairwise_lt_range.imp fun z => ?_)
    show ((_ : Nat) : Int) ≤ ((_ : Nat) : Int)
    omega
/-- the kinds, size by size -/
def tyL (n : Nat) : List (Nat × Nat) := (List.range n).flatMap fun s => (List.range (s + 1)).map fun j => (j, s + 1)
def wayK (n : Nat) : List (D × Int) := (tyL n).zipIdx.map fun p => (kindD p.1.1 p.1.2, (p.2 : Int) + 1)
theorem tyL_snoc (i : Nat) : tyL (i + 1) = tyL i ++ (List.range (i + 1)).map fun j => (j, i + 1) := by
  show (List.range (i + 1)).flatMap _ = _
  have e : List.range (i + 1) = List.range i ++ [i] := List.range_succ
  have e2 : ∀ f : Nat → List (Nat × Nat), (List.range (i + 1)).flatMap f = (List.range i).flatMap f ++ f i := fun f => by
    rw [e, List.flatMap_append, List.flatMap_cons, List.flatMap_nil, List.append_nil]
  exact e2 _
theorem tyL_len : ∀ n, (tyL n).length ≤ n * (n + 1)
  | 0 => Nat.le_refl _
  | n + 1 => by
    have h := tyL_len n
    have e : (n + 1) * (n + 1 + 1) = n * (n + 1) + (n + 1) * 2 := by
      simp only [Nat.mul_add, Nat.add_mul, Nat.mul_one, Nat.one_mul]
      omega
    rw [tyL_snoc, List.length_append, List.length_map, List.length_range]
    omega
theorem pure_pl (n : Int) : (pl n).pure = true := by
  simp [pl, D.pure, D.pures]
theorem key_pl (n : Int) : (pl n).key = .tup [.num n, .tup []] := by
  simp [pl, D.key, D.keys]
theorem keys_pl : ∀ ns : List Int, NestedKey.depthAll (D.keys (ns.map pl)) ≤ 3
  | [] => by simp [D.keys, NestedKey.depthAll]
  | n :: ns => by
    rw [List.map_cons, D.keys, NestedKey.depthAll, key_pl]
    have h := keys_pl ns
    simp only [NestedKey.depth, NestedKey.depthAll]
    omega
theorem keys_len : ∀ ds : List D, (D.keys ds).length = ds.length
  | [] => rfl
  | d :: ds => by rw [D.keys, List.length_cons, List.length_cons, keys_len ds]
theorem kind_key (j s : Nat) : (kindD j s).key = .tup [.num (j : Nat), .tup (D.keys ((List.range s).map fun i => pl (i : Nat)))] := by
  unfold kindD
  rw [D.key, D.keys, D.keys, D.keys, D.key, D.key]
theorem kind_ok (j s : Nat) : (kindD j s).okKey := by
  refine ⟨?_, ?_, _, rfl⟩
  · unfold kindD
    have h := pures_map (f := fun i : Nat => pl (i : Nat)) (fun i => pure_pl _) (List.range s)
    simp [D.pure, D.pures, h]
  · rw [kind_key]
    have h := keys_pl ((List.range s).map Int.ofNat)
    rw [List.map_map] at h
    have h : NestedKey.depthAll (D.keys ((List.range s).map fun i => pl (i : Nat))) ≤ 3 := h
    simp only [NestedKey.depth, NestedKey.depthAll]
    omega
theorem kind_inj {j s j' s' : Nat} (h : (kindD j s).key = (kindD j' s').key) : (j, s) = (j', s') := by
  rw [kind_key, kind_key] at h
  injection h with h
  injection h with h1 h2
  injection h1 with h1
  injection h2 with h2 _
  injection h2 with h2
  have e := congrArg List.length h2
  rw [keys_len, keys_len, List.length_map, List.length_map, List.length_range, List.length_range] at e
  rw [e, Int.ofNat_inj.mp h1]
theorem tyL_mem {n j s : Nat} (h : (j, s) ∈ tyL n) : j < s ∧ 1 ≤ s ∧ s ≤ n := by
  unfold tyL at h
  obtain ⟨a, h1, h2⟩ := List.mem_flatMap.mp h
  obtain ⟨b, h3, h4⟩ := List.mem_map.mp h2
  rw [List.mem_range] at h1 h3
  cases h4
  omega
theorem tyL_nd : ∀ n, (tyL n).Nodup
  | 0 => List.Pairwise.nil
  | n + 1 => by
    rw [tyL_snoc]
    refine List.nodup_append.mpr ⟨tyL_nd n, ?_, ?_⟩
    · exact List.pairwise_map.mpr (List.nodup_range.imp fun z e => z (Prod.mk.inj e).1)
    · rintro ⟨j, s⟩ h1 b h2 rfl
      obtain ⟨k, _, e⟩ := List.mem_map.mp h2
      have := tyL_mem h1
      cases e
      omega
theorem fst_zipIdx {α : Type} : ∀ (xs : List α) (k : Nat), (xs.zipIdx k).map Prod.fst = xs
  | [], _ => rfl
  | x :: xs, k => by rw [List.zipIdx_cons, List.map_cons, fst_zipIdx xs]
theorem way_nd (n : Nat) : ((wayK n).map fun kv => kv.1.key).Nodup := by
  unfold wayK
  rw [List.map_map]
  have e : ((fun kv : D × Int => kv.1.key) ∘ fun p : (Nat × Nat) × Nat => (kindD p.1.1 p.1.2, (p.2 : Int) + 1)) = (fun q : Nat × Nat => (kindD q.1 q.2).key) ∘ Prod.fst := rfl
  rw [e, ← List.map_map, fst_zipIdx]
  exact List.pairwise_map.mpr ((tyL_nd n).imp fun z e => z (kind_inj e))
theorem wayK_len (n : Nat) : (wayK n).length = (tyL n).length := by
  unfold wayK
  rw [List.length_map, List.length_zipIdx]
section
variable {P : Program} {w : World} {K : PySem.W.Frag} {mg : Str → Option Value} {base : Heap}
variable {ρ ρ' : List (Option D)} {H H' : Hp} {ta tb tc te tx tl td tv : TE} {E : XK} {ds es : List D} {σ : L2.St} {D0 : Ends} {tz tu : TS} {p : Addr} {ts : TA} {d : D} {g : TG}
theorem ev_callH {R : Hp → List D → D → Prop} (h : EvA ts ρ H ds) (hR : ∀ H1, Ex H H1 → R H1 ds d) : Ev (tCall (spH R) [] E ts) ρ H d := fun σ H1 Q a En q => h σ H1 _ a En fun vs H2 e2 t2 => by
  rw [List.append_nil]
  exact ⟨ds, d, t2, hR H2 (a.trans e2), fun v H3 e3 t3 => q v H3 (e2.trans e3) t3⟩
theorem ex_call {R : Hp → List D → (Addr → Hp → Prop) → Prop} {Φ : Addr → Hp → Prop} (h : EvA ts ρ H ds) (hR : ∀ H1, Ex H H1 → R H1 ds Φ) : EvX (tCall (spX R) [] E ts) ρ H Φ := fun σ H1 Q a En q => h σ H1 _ a En fun vs H2 e2 t2 => by
  rw [List.append_nil]
  exact ⟨ds, Φ, t2, hR H2 (a.trans e2), fun p H3 hp e3 t3 => q p H3 (fresh_back e2 hp) (e2.trans e3) t3⟩
theorem ev_index {os : List Int} {x : Int} {j : Nat} (hL : Lst H p (os.map .int)) (ha : Ev ta ρ H (.ptr p)) (hb : Ev tb ρ H (.int x)) (hj : os[j]? = some x) (hn : ∀ m z, m < j → os[m]? = some z → z ≠ x) : Ev (tBM K "list" (rIndex K) ta (tCons tb tNil)) ρ H (.int (j : Nat)) := fun σ H1 Q a En q => ha σ H1 _ a En fun v H2 e2 t2 => by
  obtain ⟨xs, h1, h2⟩ := hL.ex (a.trans e2)
  have h2 := h2.ints
  subst h2
  rw [t2.invP]
  refine ⟨Or.inl ⟨rfl, _, SqL.of h1⟩, hb σ H2 _ (a.trans e2) (En.ex e2) fun y H3 e3 t3 => ⟨p, _, _, j, .int x, rfl, rfl, SqL.of (e3 _ _ h1), by rw [t3.invI]; rfl, flat_ints os, by rw [List.getElem?_map, hj]; rfl, by rw [t3.invI]; exact beq_self_eq_true x, fun m z' hm hz => ?_, q _ H3 (e2.trans e3) (.int _)⟩⟩
  rw [List.getElem?_map] at hz
  obtain ⟨z, hz1, rfl⟩ := Option.map_eq_some_iff.mp hz
  rw [t3.invI]
  exact beq_eq_false_iff_ne.mpr (hn m z hm hz1)
theorem q_forR2 {lo n : Int} (En : Env σ H ρ) (h0 : Ev ta ρ H (.int lo)) (h : Ev te ρ H (.int n)) (hn : -(2 ^ 62) ≤ lo ∧ lo < 2 ^ 62 ∧ -(2 ^ 62) ≤ n ∧ n < 2 ^ 62) (Pv : Nat → L2.St → Hp → Prop) (hs0 : ∀ H1, Ex H H1 → Pv 0 σ H1)
    (hs : ∀ (i : Nat) σ' H', i < (n - lo).toNat → Pv i σ' H' → g (.int (lo + (i : Int))) σ' H' fun σ2 H2 => tu { D0 with nx := Pv (i + 1), ct := Pv (i + 1), bk := tz D0 } σ2 H2) (hd : ∀ σ' H', Pv (n - lo).toNat σ' H' → tz D0 σ' H') : tSeq (tFor (iRng2 (tCons ta (tCons te tNil))) g tu) tz D0 σ H :=
  h0 σ H _ (exr H) En fun v0 H1 e1 t1 => h σ H1 _ e1 (En.ex e1) fun v H2 e2 t2 => ⟨lo, n, by rw [t1.invI, t2.invI], hn, for_range (lo := lo) (n := (n - lo).toNat) (D := { D0 with nx := tz D0 }) Pv (hs0 H2 (e1.trans e2)) hs hd⟩
theorem ev_neg {i : Int} (h : Ev te ρ H (.int i)) : Ev (tUn (rU fun i => .int (-i)) te) ρ H (.int (-i)) := fun σ H1 Q a En q => h σ H1 _ a En fun v H2 e2 t2 => ⟨i, t2.invI, q _ H2 e2 (.int _)⟩
abbrev s_placed : Stmt := top 27
abbrev N_placed : List Str := ["places", "view", "one"]
abbrev P_placed : List Str := ["places", "view"]
theorem sc_placed : FnScope N_placed P_placed (defScope s_placed) := ⟨rfl, rfl, rfl, by decide +kernel, rfl, by decide +kernel, by decide +kernel⟩

def R_placed0 (H : Hp) (ds : List D) (d : D) : Prop := ∃ (pp : Addr) (kvs : List (Int × D)) (g n : Int), ds = [.ptr pp, pl g] ∧ DicI pp kvs H ∧ kvs.lookup g = some (.int n) ∧ d = pl n
theorem ok_placed0 (Z : Zs mg) (F : DefAt K mg "placed" s_placed P_placed) : FnAt P w K mg base 1 "placed" P_placed (spH R_placed0) := by
  refine F.ok sc_placed (spH_len fun H ds d ⟨_, _, _, _, e, _⟩ => by rw [e]; rfl) fun f cdv A outer s H vs Q E hr h => ?_
  have nd := sc_placed.nd
  obtain ⟨ds, d, t, ⟨pp, kvs, g, n, rfl, hD, hk, rfl⟩, q⟩ := h
  refine ⟨_, 
    (pss_one (ps_ret (pe_tup (pa_cons (pe_dget (hu_of hr) (pv 0) (pe_ix (ix_tup : IxR _ (rIxT K)) (pv 1) pe_int (fun _ _ => rfl)) (fun _ _ => rfl)) (pa_cons (pe_callTy (call_tuple_of : CallR _ _ (rTupleS K)) rfl Z.z_tuple boot_tuple (pa_cons (pe_callB (cr_sortedP hr.units) rfl Z.z_sorted boot_sorted (pa_cons (pe_lc (own := [("one", 2)]) (g := gName 2) rfl nd (pi_tup (pe_ix (ix_tup : IxR _ (rIxT K)) (pv 1) pe_int (fun _ _ => rfl))) (blkOk_by (own := [("one", 2)]) (N := N_placed) (sc := defScope s_placed) (by decide +kernel)) (fun _ _ _ _ _ => (pg_name (i := 2) nd rfl (Or.inl rfl))) (fun _ _ _ _ _ => pts_nil) (fun _ _ _ _ _ => pe_never)) pa_nil)) pa_nil)) pa_nil))))), ?_⟩
  have En := Env.start N_placed t
  exact x_ret En (ev_tup (ea_cons (ev_dget hD hk (ev_var rfl) (ev_ixT (ds := [.int g, .tup []]) (d := .int g) (ev_var rfl) ev_int rfl)) (ea_cons (ev_is (ev_tupleN (el_sortedP (ns := []) (el_mapN (xs := ([] : List Int)) (enc := .int) (ei_tup (ev_ixT (ds := [.int g, .tup []]) (d := .tup []) (ev_var rfl) ev_int rfl)) pl (Nat.zero_le _) fun x hx => absurd hx List.not_mem_nil) (Nat.zero_le _))) (by rw [sortI_eq (xs := []) (List.Perm.refl _) List.Pairwise.nil]; rfl)) ea_nil)) l2) q
def R_placed (H : Hp) (ds : List D) (d : D) : Prop := ∃ (pp : Addr) (v : List Int) (rk : Int → Int) (h : Int), ds = [.ptr pp, encV h v] ∧ DicI pp (v.map fun g => (g, .int (rk g))) H ∧ h ∈ v ∧ v.length ≤ 1000 ∧ d = .tup [.int (rk h), .tup ((sortI (v.map rk)).map pl)]
theorem ok_placed (Z : Zs mg) (F : DefAt K mg "placed" s_placed P_placed) (F_placed : FnAt P w K mg base 1 "placed" P_placed (spH R_placed0)) : FnAt P w K mg base 2 "placed" P_placed (spH R_placed) := by
  refine F.ok sc_placed (spH_len fun H ds d ⟨_, _, _, _, e, _⟩ => by rw [e]; rfl) fun f cdv A outer s H vs Q E hr h => ?_
  have nd := sc_placed.nd
  obtain ⟨ds, d, t, ⟨pp, v, rk, h, rfl, hD, hm, hl, rfl⟩, q⟩ := h
  refine ⟨_, 
    (pss_one (ps_ret (pe_tup (pa_cons (pe_dget (hu_of hr) (pv 0) (pe_ix (ix_tup : IxR _ (rIxT K)) (pv 1) pe_int (fun _ _ => rfl)) (fun _ _ => rfl)) (pa_cons (pe_callTy (call_tuple_of : CallR _ _ (rTupleS K)) rfl Z.z_tuple boot_tuple (pa_cons (pe_callB (cr_sortedP hr.units) rfl Z.z_sorted boot_sorted (pa_cons (pe_lc (own := [("one", 2)]) (g := gName 2) rfl nd (pi_tup (pe_ix (ix_tup : IxR _ (rIxT K)) (pv 1) pe_int (fun _ _ => rfl))) (blkOk_by (own := [("one", 2)]) (N := N_placed) (sc := defScope s_placed) (by decide +kernel)) (fun _ _ _ _ _ => (pg_name (i := 2) nd rfl (Or.inl rfl))) (fun _ _ _ _ _ => pts_nil) (fun _ _ _ _ _ => (pe_fn F_placed (hr.mono (by decide)) rfl (pa_cons (pv 0) (pa_cons (pv 2) pa_nil))))) pa_nil)) pa_nil)) pa_nil))))), ?_⟩
  have En := Env.start N_placed t
  exact x_ret En (ev_tup (ea_cons (ev_dget hD (look_map (fun g => D.int (rk g)) hm) (ev_var rfl) (ev_ixT (ds := [.int h, .tup (v.map pl)]) (d := .int h) (ev_var rfl) ev_int rfl)) (ea_cons (ev_tupleN (el_sortedP (ns := v.map rk) (el_is (el_mapN (xs := v) (enc := pl) (ei_tup (ev_ixT (ds := [.int h, .tup (v.map pl)]) (d := .tup (v.map pl)) (ev_var rfl) ev_int rfl)) (fun g => pl (rk g)) (by omega) fun g hg => ev_callH (ea_cons (ev_var rfl) (ea_cons (ev_var rfl) ea_nil)) fun H1 e1 => ⟨pp, _, g, rk g, rfl, hD.ex e1, look_map (fun g => D.int (rk g)) hg, rfl⟩) (by rw [List.map_map]; rfl)) (by rw [List.length_map]; exact hl))) ea_nil)) l2) q
abbrev s_type_of : Stmt := top 28
abbrev N_type_of : List Str := ["greats", "view", "hands", "order", "places", "hand"]
abbrev P_type_of : List Str := ["greats", "view"]
theorem sc_type_of : FnScope N_type_of P_type_of (defScope s_type_of) := ⟨rfl, rfl, rfl, by decide +kernel, rfl, by decide +kernel, by decide +kernel⟩

def R_type_of (ds : List D) (d : D) : Prop := ∃ (gs v : List Int) (h : Int), ds = [.tup (gs.map .int), encV h v] ∧ h ∈ v ∧ v.Pairwise (· < ·) ∧ v.length < 60 ∧ (∀ g ∈ v, 0 ≤ g ∧ g < gs.length) ∧ (v.map (gsAt gs)).Nodup ∧ d = kindD (rkOf gs v h) v.length
theorem ok_type_of (Z : Zs mg) (F : DefAt K mg "type_of" s_type_of P_type_of) (F_standing : FnAt P w K mg base 2 "standing" P_standing (spL R_standing)) (F_placed : FnAt P w K mg base 2 "placed" P_placed (spH R_placed)) : FnAt P w K mg base 3 "type_of" P_type_of (spD R_type_of) := by
  refine F.ok sc_type_of (spD_len fun ds d ⟨_, _, _, e, _⟩ => by rw [e]; rfl) fun f cdv A outer s H vs Q E hr h => ?_
  have nd := sc_type_of.nd
  obtain ⟨ds, d, t, ⟨gs, v, h, rfl, hm, hu, hl, hb, hnd, rfl⟩, q⟩ := h
  refine ⟨_, 
    (pss_cons (ps_set (i := 2) nd rfl (Or.inl rfl) (pe_fn F_standing (hr.mono (by decide)) rfl (pa_cons (pv 1) pa_nil))) 
    (pss_cons (ps_set (i := 3) nd rfl (Or.inr rfl) (pe_callB (cr_sorted : CallR _ _ (rSorted K)) rfl Z.z_sorted boot_sorted (pa_cons (pe_lc (own := [("hand", 5)]) (g := gName 5) rfl nd (pi_list (pv 2)) (blkOk_by (own := [("hand", 5)]) (N := N_type_of) (sc := defScope s_type_of) (by decide +kernel)) (fun _ _ _ _ _ => (pg_name (i := 5) nd rfl (Or.inl rfl))) (fun _ _ _ _ _ => pts_nil) (fun _ _ _ _ _ => (pe_ix (ix_tup : IxR _ (rIxT K)) (pv 0) (pv 5) (fun _ _ => rfl)))) pa_nil))) 
    (pss_cons (ps_set (i := 4) nd rfl (Or.inl rfl) (pe_callTy (call_dictP rfl : CallR _ _ (rDictP K)) rfl Z.z_dict boot_dict (pa_cons (pe_lc (own := [("hand", 5)]) (g := gName 5) rfl nd (pi_list (pv 2)) (blkOk_by (own := [("hand", 5)]) (N := N_type_of) (sc := defScope s_type_of) (by decide +kernel)) (fun _ _ _ _ _ => (pg_name (i := 5) nd rfl (Or.inl rfl))) (fun _ _ _ _ _ => pts_nil) (fun _ _ _ _ _ => (pe_tup (pa_cons (pv 5) (pa_cons (pe_bmK (K := K) (r := rIndex K) rfl PySem.F.plainAttrs_list PySem.F.slot_list_index PySem.F.type_list_index mt_index (pv 3) (pa_cons (pe_ix (ix_tup : IxR _ (rIxT K)) (pv 0) (pv 5) (fun _ _ => rfl)) pa_nil)) pa_nil))))) pa_nil))) 
    (pss_one (ps_ret (pe_fn F_placed (hr.mono (by decide)) rfl (pa_cons (pv 4) (pa_cons (pv 1) pa_nil)))))))), ?_⟩
  have En := Env.start N_type_of t
  refine q_asgL (ds := v.map .int) En (el_call (ea_cons (ev_var rfl) ea_nil) ⟨h, v, rfl, hm, hu, hl, rfl⟩) fun ph σ1 H1 hp1 e1 hL1 En => ?_
  have eg : ∀ {ρ : List (Option D)} {H : Hp} {ta tb : TE} {g : Int}, g ∈ v → Ev ta ρ H (.tup (gs.map .int)) → Ev tb ρ H (.int g) → Ev (tOp (rIxT K) ta tb) ρ H (.int (gsAt gs g)) := fun {ρ H ta tb g} hg ha hb' => by
    obtain ⟨a, b⟩ := hb g hg
    obtain ⟨m, rfl⟩ : ∃ m : Nat, g = (m : Int) := ⟨g.toNat, by omega⟩
    have := ev_great (gs := gs) (i := m) (K := K) (by omega) ha hb'
    unfold gsAt
    rw [Int.toNat_natCast]
    exact this
  refine q_asgL (ds := (sortI (v.map (gsAt gs))).map .int) En (el_sortedN (el_is (el_mapN (xs := v) (enc := .int) (ei_lst hL1 (ev_var rfl)) (fun g => .int (gsAt gs g)) (by omega) fun g hg => eg hg (ev_var rfl) (ev_var rfl)) (by rw [List.map_map]; rfl)) (by rw [List.length_map]; omega)) fun po σ2 H2 hp2 e2 hL2 En => ?_
  refine q_asgX (Φ := fun p H => DicI p (v.map fun g => (g, .int (rkOf gs v g : Int))) H) En (ex_dict (el_is (el_mapN (xs := v) (enc := .int) (ei_lst (hL1.ex e2) (ev_var rfl)) (fun g => .tup [.int g, .int (rkOf gs v g : Int)]) (by omega) fun g hg => ?_) (by rw [List.map_map]; rfl)) (by rw [fst_map]; exact hu.imp fun z => by omega)) fun pd σ3 H3 hp3 e3 hD3 En => ?_
  · have hup := os_up hnd
    have hpl := rise_place hup ((sortI_perm _).mem_iff.mpr (List.mem_map_of_mem hg))
    rw [rk_sorted] at hpl
    exact ev_tup (ea_cons (ev_var rfl) (ea_cons (ev_index hL2 (ev_var rfl) (eg hg (ev_var rfl) (ev_var rfl)) hpl fun m z hm hz => rise_no hup hpl hm hz) ea_nil)) l2
  · refine x_ret En (ev_callH (ea_cons (ev_var rfl) (ea_cons (ev_var rfl) ea_nil)) fun H4 e4 => ⟨pd, v, fun g => (rkOf gs v g : Int), h, rfl, hD3.ex e4, hm, by omega, ?_⟩) fun u H4 e4 t4 => q u H4 (((e1.trans e2).trans e3).trans e4) t4
    rw [rk_all hnd, List.map_map]
    rfl
abbrev s_one_round_types : Stmt := top 29
abbrev N_one_round_types : List Str := ["many", "found", "size", "seen", "place"]
abbrev P_one_round_types : List Str := ["many"]
theorem sc_one_round_types : FnScope N_one_round_types P_one_round_types (defScope s_one_round_types) := ⟨rfl, rfl, rfl, by decide +kernel, rfl, by decide +kernel, by decide +kernel⟩

def R_types (ds es : List D) : Prop := ∃ n : Nat, ds = [.int (n : Nat)] ∧ n ≤ 40 ∧ es = (tyL n).map fun p => kindD p.1 p.2
theorem ok_one_round_types (Z : Zs mg) (F : DefAt K mg "one_round_types" s_one_round_types P_one_round_types) : FnAt P w K mg base 1 "one_round_types" P_one_round_types (spL R_types) := by
  refine F.ok sc_one_round_types (spL_len fun ds d ⟨_, e, _⟩ => by rw [e]; rfl) fun f cdv A outer s H vs Q E hr h => ?_
  have nd := sc_one_round_types.nd
  obtain ⟨ds, d, t, ⟨n, rfl, hn, rfl⟩, q⟩ := h
  refine ⟨_, 
    (pss_cons (ps_set (i := 1) nd rfl (Or.inl rfl) (pe_lst pa_nil)) 
    (pss_cons (ps_for PassesOwn.never rfl (pi_range2 rfl Z.z_range (pa_cons pe_int (pa_cons (pe_op op_add (pv 0) pe_int) pa_nil))) (pg_name (i := 2) nd rfl (Or.inl rfl)) 
      (pss_cons (ps_set (i := 3) nd rfl (Or.inr rfl) (pe_callTy (call_tuple_of : CallR _ _ (rTupleS K)) rfl Z.z_tuple boot_tuple (pa_cons (pe_lc (own := [("place", 4)]) (g := gName 4) rfl nd (pi_range1 rfl Z.z_range (pa_cons (pv 2) pa_nil)) (blkOk_by (own := [("place", 4)]) (N := N_one_round_types) (sc := defScope s_one_round_types) (by decide +kernel)) (fun _ _ _ _ _ => (pg_name (i := 4) nd rfl (Or.inl rfl))) (fun _ _ _ _ _ => pts_nil) (fun _ _ _ _ _ => (pe_tup (pa_cons (pv 4) (pa_cons (pe_tup pa_nil) pa_nil))))) pa_nil))) 
      (pss_one (ps_expr (pe_bmK (K := K) (r := rExtend) rfl PySem.F.plainAttrs_list PySem.F.slot_list_extend PySem.F.type_list_extend mt_extend (pv 1) (pa_cons (pe_lc (own := [("place", 4)]) (g := gName 4) rfl nd (pi_range1 rfl Z.z_range (pa_cons (pv 2) pa_nil)) (blkOk_by (own := [("place", 4)]) (N := N_one_round_types) (sc := defScope s_one_round_types) (by decide +kernel)) (fun _ _ _ _ _ => (pg_name (i := 4) nd rfl (Or.inl rfl))) (fun _ _ _ _ _ => pts_nil) (fun _ _ _ _ _ => (pe_tup (pa_cons (pv 4) (pa_cons (pv 3) pa_nil))))) pa_nil)))))) 
    (pss_one (ps_ret (pv 1))))), ?_⟩
  have En := Env.start N_one_round_types t
  refine q_asgL En (el_lst ea_nil (Nat.zero_le _)) fun p σ1 H1 hp1 e1 hL1 En => ?_
  have em : ((n : Int) + 1 - 1).toNat = n := by omega
  refine q_forR2 (lo := 1) (n := (n : Int) + 1) En ev_int (ev_add (ev_var rfl) ev_int) (by omega) (fun i σ' H' => Ex H H' ∧ Env σ' H' [some (.int (n : Nat)), some (.ptr p), none, none, none] ∧ Lst H' p ((tyL i).map fun p => kindD p.1 p.2)) (fun H2 e2 => ⟨e1.trans e2, (((En.ex e2).forget 2).forget 3).forget 4, hL1.ex e2⟩) (fun i σ' H' hi ⟨k2, k3, k4⟩ => ?_) fun σ' H' ⟨k2, k3, k4⟩ => ?_
  · rw [em] at hi
    have ei : (1 : Int) + (i : Int) = ((i + 1 : Nat) : Int) := by omega
    rw [ei]
    obtain ⟨xs, m1, m2⟩ := k4
    refine tg_name (vs := [2]) (List.mem_singleton.mpr rfl) _ σ' H' _ k3 (.int _) fun σ3 E3 _ => ?_
    refine q_asg E3 (ev_tupleN (el_mapN (xs := List.range (i + 1)) (enc := fun i => .int (i : Nat)) (ei_rangeN (by omega) (ev_var rfl)) (fun i => pl (i : Nat)) (len_range _ (by omega)) fun j hj => ev_tup (ea_cons (ev_var rfl) (ea_cons (ev_tup ea_nil (Nat.zero_le _)) ea_nil)) l2)) fun σ4 H4 e4 E4 => ?_
    have hz : xs.length + ((List.range (i + 1)).map fun j => kindD j (i + 1)).length < 100000 := by
      have h1 := tyL_len i
      have h2 : i * (i + 1) ≤ 40 * 41 := Nat.mul_le_mul (by omega) (by omega)
      rw [m2.1, List.length_map, List.length_map, List.length_range]
      omega
    refine x_ext (e4 _ _ m1) hz E4 (ev_var rfl) (el_mapN (xs := List.range (i + 1)) (enc := fun i => .int (i : Nat)) (ei_rangeN (by omega) (ev_var rfl)) (fun j => kindD j (i + 1)) (len_range _ (by omega)) fun j hj => ev_tup (ea_cons (ev_var rfl) (ea_cons (ev_var rfl) ea_nil)) l2) fun zs H5 e5 t5 => ?_
    have hk := TK.updL (o := .lst (xs ++ zs)) (e5 _ _ (e4 _ _ m1))
    refine ⟨Evl.Ex.mut ((k2.trans e4).trans e5) hp1, ((((E4.ex e5).mono hk).forget 2).forget 3), _, upd_same, ?_⟩
    rw [tyL_snoc, List.map_append, List.map_map]
    exact (Tps.append ((m2.ex e4).ex e5) t5).mono hk
  · rw [em] at k4
    refine k3 |> fun k3 => ?_
    exact ev_var (i := 1) rfl σ' H' _ (exr _) k3 fun v H3 e3 t3 => by
      rw [t3.invP]
      exact q p H3 hp1 (k2.trans e3) (k4.ex e3)
abbrev s_told_way : Stmt := top 32
abbrev N_told_way : List Str := ["many", "number", "kind"]
abbrev P_told_way : List Str := ["many"]
theorem sc_told_way : FnScope N_told_way P_told_way (defScope s_told_way) := ⟨rfl, rfl, rfl, by decide +kernel, rfl, by decide +kernel, by decide +kernel⟩

def R_told (P : Program) (w : World) (H : Hp) (ds : List D) (Φ : Addr → Hp → Prop) : Prop := ∃ n : Nat, ds = [.int (n : Nat)] ∧ n ≤ 20 ∧ Φ = fun p H => DicN P w H p (wayK n)
theorem ok_told_way (Z : Zs mg) (F : DefAt K mg "told_way" s_told_way P_told_way) (F_one_round_types : FnAt P w K mg base 1 "one_round_types" P_one_round_types (spL R_types)) : FnAt P w K mg base 2 "told_way" P_told_way (spX (R_told P w)) := by
  refine F.ok sc_told_way (spX_len fun H ds d ⟨_, e, _⟩ => by rw [e]; rfl) fun f cdv A outer s H vs Q E hr h => ?_
  have nd := sc_told_way.nd
  obtain ⟨ds, Φ, t, ⟨n, rfl, hn, rfl⟩, q⟩ := h
  refine ⟨_, 
    (pss_one (ps_ret (pe_callTy (call_dicN hr.units rfl : CallR _ _ (rDicN P w)) rfl Z.z_dict boot_dict (pa_cons (pe_lc (own := [("number", 1), ("kind", 2)]) (g := gTup K 2 (gCons (gName 1) (gCons (gName 2) gNil))) rfl nd (pi_enum rfl Z.z_enumerate (pa_cons (pe_fn F_one_round_types (hr.mono (by decide)) rfl (pa_cons (pv 0) pa_nil)) pa_nil)) (blkOk_by (own := [("number", 1), ("kind", 2)]) (N := N_told_way) (sc := defScope s_told_way) (by decide +kernel)) (fun _ _ _ _ _ => (pg_tup rfl (pgs_cons (pg_name (i := 1) nd rfl (Or.inl rfl)) (pgs_cons (pg_name (i := 2) nd rfl (Or.inl rfl)) pgs_nil)))) (fun _ _ _ _ _ => pts_nil) (fun _ _ _ _ _ => (pe_tup (pa_cons (pv 2) (pa_cons (pe_op op_add (pv 1) pe_int) pa_nil))))) pa_nil)))), ?_⟩
  have En := Env.start N_told_way t
  refine x_retDicN (kvs := wayK n) En (el_is (el_mapP (xs := tyL n) (enc := fun p => kindD p.1 p.2) (ei_enumN (el_call (ea_cons (ev_var rfl) ea_nil) ⟨n, rfl, by omega, rfl⟩)) (fun p => .tup [kindD p.1.1 p.1.2, .int ((p.2 : Int) + 1)]) ?_ fun p hp => ev_tup (ea_cons (ev_var rfl) (ea_cons (ev_add (ev_var rfl) ev_int) ea_nil)) l2) ?_) ?_ ?_ ?_ q
  · have h1 := tyL_len n
    have h2 : n * (n + 1) ≤ 20 * 21 := Nat.mul_le_mul (by omega) (by omega)
    omega
  · unfold wayK
    rw [List.map_map]
    rfl
  · intro kv hkv
    obtain ⟨p, _, rfl⟩ := List.mem_map.mp hkv
    exact kind_ok _ _
  · exact way_nd n
  · have h1 := tyL_len n
    have h2 : n * (n + 1) ≤ 20 * 21 := Nat.mul_le_mul (by omega) (by omega)
    rw [wayK_len]
    omega
abbrev s_names_by : Stmt := top 30
abbrev N_names_by : List Str := ["way", "greats", "rounds", "found", "hand", "type_here"]
abbrev P_names_by : List Str := ["way", "greats", "rounds"]
theorem sc_names_by : FnScope N_names_by P_names_by (defScope s_names_by) := ⟨rfl, rfl, rfl, by decide +kernel, rfl, by decide +kernel, by decide +kernel⟩

def R_names (P : Program) (w : World) (H : Hp) (ds : List D) (Φ : Addr → Hp → Prop) : Prop := ∃ (pw : Addr) (n : Nat) (gs : List Int) (r : List (List Int)) (sn : Int → List Int) (nm : Int → Int), ds = [.ptr pw, .tup (gs.map .int), .tup [encR r]] ∧ DicN P w H pw (wayK n) ∧ r.length < 64 ∧ r.flatten.length < 60 ∧ r.flatten.Nodup ∧ (∀ g ∈ r.flatten, SeenAt r g (sn g)) ∧
  (∀ h ∈ r.flatten, R_type_of [.tup (gs.map .int), encV h (sn h)] (kindD (rkOf gs (sn h) h) (sn h).length) ∧ (kindD (rkOf gs (sn h) h) (sn h).length, nm h) ∈ wayK n) ∧ Φ = fun p H => DicI p ((sortI r.flatten).map fun h => (h, .int (nm h))) H
theorem ok_names_by (Z : Zs mg) (F : DefAt K mg "names_by" s_names_by P_names_by) (F_hands_in : FnAt P w K mg base 1 "hands_in" P_hands_in (spL R_hands)) (F_view_of : FnAt P w K mg base 2 "view_of" P_view_of (spD R_view_of)) (F_type_of : FnAt P w K mg base 3 "type_of" P_type_of (spD R_type_of)) : FnAt P w K mg base 4 "names_by" P_names_by (spX (R_names P w)) := by
  refine F.ok sc_names_by (spX_len fun H ds d ⟨_, _, _, _, _, _, e, _⟩ => by rw [e]; rfl) fun f cdv A outer s H vs Q E hr h => ?_
  have nd := sc_names_by.nd
  obtain ⟨ds, Φ, t, ⟨pw, n, gs, r, sn, nm, rfl, hW, hrl, hl, hnd, hs, hk, rfl⟩, q⟩ := h
  refine ⟨_, 
    (pss_cons (ps_set (i := 3) nd rfl (Or.inl rfl) pe_dnewK) 
    (pss_cons (ps_for PassesOwn.never rfl (pi_list (pe_fn F_hands_in (hr.mono (by decide)) rfl (pa_cons (pe_ix (ix_tup : IxR _ (rIxT K)) (pv 2) (pe_un un_neg pe_int) (fun _ _ => rfl)) pa_nil))) (pg_name (i := 4) nd rfl (Or.inl rfl)) 
      (pss_cons (ps_set (i := 5) nd rfl (Or.inl rfl) (pe_fn F_type_of (hr.mono (by decide)) rfl (pa_cons (pv 1) (pa_cons (pe_fn F_view_of (hr.mono (by decide)) rfl (pa_cons (pv 2) (pa_cons (pv 4) pa_nil))) pa_nil)))) 
      (pss_cons (ps_if (pt_cmpR (op_hasN hr.units : OpR _ _ (rHasN P w)) (pv 5) (pv 0) rfl) 
        (pss_one ps_never) pss_nil) 
      (pss_one (ps_dput (hu_of hr) (pv 3) (pv 4) (pe_getN hr.units (pv 0) (pv 5) (fun _ _ => rfl)) rfl))))) 
    (pss_one (ps_ret (pv 3))))), ?_⟩
  have En := Env.start N_names_by t
  refine q_asgX En ex_new fun pf σ1 H1 hp1 e1 hD1 En => ?_
  have hl64 : r.flatten.length < 64 := by omega
  have hgl : (sortI r.flatten).length < 64 := by rw [(sortI_perm _).length_eq]; omega
  have hgn : (sortI r.flatten).Nodup := (sortI_perm _).nodup_iff.mpr hnd
  have hgm : ∀ g, g ∈ sortI r.flatten ↔ g ∈ r.flatten := fun g => (sortI_perm _).mem_iff
  generalize hgs : sortI r.flatten = ss at hgl hgn hgm q
  refine q_forL (ds := ss.map .int) En (el_call (ea_cons (ev_ixT (i := -1) (ds := [encR r]) (d := encR r) (ev_var rfl) (ev_neg ev_int) rfl) ea_nil) ⟨r, rfl, hl64, by rw [hgs]⟩) (fun H5 q xs i σ' H6 => (H6 q = some (.lst xs) ∧ q ≠ pf) ∧ TK H5 H6 ∧ Ex H H6 ∧ Env σ' H6 [some (.ptr pw), some (.tup (gs.map .int)), some (.tup [encR r]), some (.ptr pf), none, none] ∧ DicI pf ((ss.take i).map fun h => (h, .int (nm h))) H6) (fun H5 q xs hq e5 hx tx => ⟨⟨hx, (hD1.ne hq).symm⟩, TK.refl _, e1.trans e5, ((En.ex e5).forget 4).forget 5, hD1.ex e5⟩) (fun H5 q xs i σ' H6 z => ⟨z.1.1, z.2.1⟩) (fun H5 q xs i x σ' H6 v e5 hx ⟨m0, m1, m2, m3, m4⟩ tx => ?_) (fun H5 _ xs σ' H6 e5 ⟨m0, m1, m2, m3, m4⟩ => ?_)
  · rw [List.getElem?_map] at hx
    obtain ⟨h, hg, rfl⟩ := Option.map_eq_some_iff.mp hx
    have hgi := (List.getElem?_eq_some_iff.mp hg).1
    have hgr : h ∈ r.flatten := (hgm h).mp (List.mem_of_getElem? hg)
    refine tg_name (vs := [4]) (List.mem_singleton.mpr rfl) v σ' H6 _ m3 tx fun σ7 E7 _ => ?_
    refine q_asg E7 (ev_call (ea_cons (ev_var rfl) (ea_cons (ev_call (ea_cons (ev_var rfl) (ea_cons (ev_var rfl) ea_nil)) ⟨r, sn, h, rfl, hrl, hl64, hnd, hs, hgr, rfl⟩) ea_nil)) (hk h hgr).1) fun σ8 H8 e8 E8 => ?_
    have hW8 := hW.ex (m2.trans e8)
    refine q_no E8 (et_test (ev_hasN hW8 (kind_ok _ _) (hk h hgr).2 (ev_var rfl) (ev_var rfl))) fun H9 e9 => ?_
    have E9 := E8.ex e9
    refine x_dputM (k := h) (d := .int (nm h)) ((m4.ex e8).ex e9) ?_ ?_ E9 (ev_getN (hW8.ex e9) (kind_ok _ _) (hk h hgr).2 (ev_var rfl) (ev_var rfl)) (ev_var rfl) (ev_var rfl) fun H10 mm D10 E10 => ?_
    · rw [fst_map]
      exact fun z => by
        rw [List.mem_take_iff_getElem] at z
        obtain ⟨j, hj, e⟩ := z
        obtain ⟨h1, h2⟩ := List.getElem?_eq_some_iff.mp hg
        exact List.pairwise_iff_getElem.mp hgn j i (by omega) h1 (by omega) (e.trans h2.symm)
    · rw [List.length_map, List.length_take]
      omega
    · refine ⟨⟨mm.off _ _ m0.2 (e9 _ _ (e8 _ _ m0.1)), m0.2⟩, ((m1.trans (TK.of e8)).trans (TK.of e9)).trans mm.tk, mm.ex ((m2.trans e8).trans e9) hp1, (E10.forget 4).forget 5, ?_⟩
      rw [List.take_succ_eq_append_getElem hgi, List.map_append]
      obtain ⟨_, hg'⟩ := List.getElem?_eq_some_iff.mp hg
      rw [hg']
      exact D10
  · rw [List.length_map, List.take_length] at m4
    exact ev_var (i := 3) rfl σ' H6 _ (exr _) m3 fun v H7 e7 t7 => by
      rw [t7.invP]
      exact q pf H7 hp1 (m2.trans e7) (m4.ex e7)
end
end Hn


namespace Hn
open PySem PySem.Spec PyProof.Rows L2
/-- the tape at p: at most b draws so far -/
def Tape (l : Addr) (b : Nat) (p : Addr) (H : Hp) : Prop := ∃ (ms : List Int) (k t n : Int), l ≠ p ∧ Lst H p [.ptr l, .int k, .int t, .int n] ∧ Lst H l (ms.map .int) ∧ 0 ≤ n ∧ n ≤ b
theorem Tape.ex {l : Addr} {b : Nat} {p : Addr} {H H' : Hp} (h : Tape l b p H) (e : Ex H H') : Tape l b p H' := by
  obtain ⟨ms, k, t, n, h1, h2, h3, h4, h5⟩ := h
  exact ⟨ms, k, t, n, h1, h2.ex e, h3.ex e, h4, h5⟩
theorem Tape.le {l : Addr} {b c : Nat} {p : Addr} {H : Hp} (h : Tape l b p H) (e : b ≤ c) : Tape l c p H := by
  obtain ⟨ms, k, t, n, h1, h2, h3, h4, h5⟩ := h
  exact ⟨ms, k, t, n, h1, h2, h3, h4, by omega⟩
theorem Tape.isL {l : Addr} {b : Nat} {p : Addr} {H : Hp} (h : Tape l b p H) : ∃ xs, H p = some (.lst xs) := by
  obtain ⟨ms, k, t, n, h1, ⟨xs, h2, _⟩, _⟩ := h
  exact ⟨xs, h2⟩
theorem Tape.isM {l : Addr} {b : Nat} {p : Addr} {H : Hp} (h : Tape l b p H) : ∃ xs, H l = some (.lst xs) := by
  obtain ⟨ms, k, t, n, h1, _, ⟨xs, h2, _⟩, _⟩ := h
  exact ⟨xs, h2⟩
theorem seqIx {j : Int} {n : Nat} (h0 : 0 ≤ j) (h1 : j < n) : seqIndex? j n = some j.toNat := by
  have h : ¬ j < 0 := by omega
  unfold seqIndex?
  rw [if_neg h]
  simp [h0, h1]
theorem erase_map {α β : Type} (f : α → β) : ∀ (xs : List α) (j : Nat), (xs.map f).eraseIdx j = (xs.eraseIdx j).map f
  | [], _ => rfl
  | _ :: _, 0 => rfl
  | x :: xs, j + 1 => congrArg (f x :: ·) (erase_map f xs j)
theorem erase_perm {α : Type} : ∀ {xs : List α} {j : Nat} (h : j < xs.length), ([xs[j]] ++ xs.eraseIdx j).Perm xs
  | _ :: _, 0, _ => List.Perm.refl _
  | x :: xs, j + 1, h => by
    have h' : j < xs.length := Nat.lt_of_succ_lt_succ h
    have := erase_perm h'
    exact (List.Perm.swap _ _ _).trans (List.Perm.cons x this)
def spDraw : Sp := fun vs H Q _ => ∃ (p l : Addr) (m : Int) (b : Nat), vs = [.ref p, .int m] ∧ Tape l b p H ∧ b ≤ 2 ^ 40 ∧ 0 < m ∧ m < 1073741824 ∧ ∀ (i : Int) H', 0 ≤ i → i < m → Mut H H' p → Tape l (b + 1) p H' → Q (.int i) H'
def spTape (K : PySem.W.Frag) : Sp := fun vs H Q _ => ∃ (a : Addr) (ns : List Int), vs = [.ref a] ∧ SqL K H a (ns.map V.int) ∧ ∀ p l H', H p = none → H l = none → Ex H H' → Tape l 0 p H' → Q (.ref p) H'
section
variable {P : Program} {w : World} {K : PySem.W.Frag} {mg : Str → Option Value} {base : Heap}
variable {ρ ρ' : List (Option D)} {H H' : Hp} {ta tb tc te tx tl td tv : TE} {E : XK} {ds es : List D} {σ : L2.St} {D0 : Ends} {tz tu tw : TS} {p l : Addr} {ts : TA} {d : D} {g : TG} {t : TT}
theorem ev_pow {i j : Int} (ha : Ev ta ρ H (.int i)) (hb : Ev tb ρ H (.int j)) (hc : CPow i j) : Ev (tOp (rI CPow fun i j => .int (i ^ j.toNat)) ta tb) ρ H (.int (i ^ j.toNat)) := ev_op ha hb (rv_I hc fun _ => .int _)
/-- what comes after is told by M -/
theorem q_ifM {b : Bool} (M : L2.St → Hp → Prop) (En : Env σ H ρ) (h : EvT t ρ H b) (hM : ∀ σ' H1, M σ' H1 → tz D0 σ' H1) (h1 : b = true → ∀ H1 nx, Ex H H1 → (∀ σ' H1, M σ' H1 → nx σ' H1) → tu { D0 with nx := nx } σ H1) (h2 : b = false → ∀ H1 nx, Ex H H1 → (∀ σ' H1, M σ' H1 → nx σ' H1) → tw { D0 with nx := nx } σ H1) : tSeq (tIfS t tu tw) tz D0 σ H :=
  q_if En h (fun hb H1 e1 => h1 hb H1 _ e1 hM) fun hb H1 e1 => h2 hb H1 _ e1 hM
theorem dp_ints {ns : List Int} {vs : List V} : Tps H vs (ns.map .int) → DpAll K H vs (ns.map PyData.int) := fun t => by
  rw [t.ints]
  clear t
  induction ns with
  | nil => exact .nil
  | cons n ns ih => exact .cons (.int n) ih
theorem plain_all_ints : ∀ ns : List Int, PyData.plainAll (ns.map PyData.int) = true
  | [] => rfl
  | n :: ns => by
    rw [List.map_cons, PyData.plainAll, plain_all_ints ns]
    rfl
theorem plain_ints (ns : List Int) : (PyData.list (ns.map PyData.int)).plain = true := by
  rw [PyData.plain]
  exact plain_all_ints ns
theorem eqv_list : ∀ ns : List Int, PyData.eqv (.list (ns.map PyData.int)) (.list []) = ns.isEmpty
  | [] => rfl
  | n :: ns => by simp [PyData.eqv, PyData.eqvAll]
theorem rv_list {ns : List Int} {x y : V} {p q : Addr} (hx : x = .ref p) (hy : y = .ref q) (hL : Lst H p (ns.map .int)) (hN : Lst H q []) : ∃ d e, Dp K H x d ∧ Dp K H y e ∧ d.plain = true ∧ e.plain = true ∧ min d.depth e.depth ≤ 64 ∧ PyData.eqv d e = ns.isEmpty := by
  obtain ⟨xs, h1, h2⟩ := hL
  obtain ⟨ys, h3, h4⟩ := hN
  obtain rfl := h4.inv0
  subst hx hy
  exact ⟨_, .list [], .lst (SqL.of h1) (dp_ints h2), .lst (SqL.of h3) .nil, plain_ints ns, rfl, Nat.le_trans (Nat.min_le_right _ _) (by decide), eqv_list ns⟩
/-- a list != [], a list == [] -/
theorem ev_neL {ns : List Int} (hL : Lst H p (ns.map .int)) (ha : Ev ta ρ H (.ptr p)) : Ev (tOp (rNeP K) ta (tLst tNil)) ρ H (.bl (!ns.isEmpty)) := fun σ H1 Q a En q => ha σ H1 _ a En fun v H2 e2 t2 =>
  el_lst (ρ := ρ) (H := H2) ea_nil (Nat.zero_le _) σ H2 _ (exr _) (En.ex e2) fun r H3 hr e3 t3 => by
    obtain ⟨d, e, h1, h2, h3, h4, h5, h6⟩ := rv_list (K := K) t2.invP rfl (hL.ex ((a.trans e2).trans e3)) t3
    exact ⟨d, e, h1, h2, h3, h4, h5, by rw [h6]; exact q _ H3 (e2.trans e3) (.bl _)⟩
theorem ev_eqL {ns : List Int} (hL : Lst H p (ns.map .int)) (ha : Ev ta ρ H (.ptr p)) : Ev (tOp (rEqP K) ta (tLst tNil)) ρ H (.bl ns.isEmpty) := fun σ H1 Q a En q => ha σ H1 _ a En fun v H2 e2 t2 =>
  el_lst (ρ := ρ) (H := H2) ea_nil (Nat.zero_le _) σ H2 _ (exr _) (En.ex e2) fun r H3 hr e3 t3 => by
    obtain ⟨d, e, h1, h2, h3, h4, h5, h6⟩ := rv_list (K := K) t2.invP rfl (hL.ex ((a.trans e2).trans e3)) t3
    exact ⟨d, e, h1, h2, h3, h4, h5, by rw [h6]; exact q _ H3 (e2.trans e3) (.bl _)⟩
/-- a reading that draws once -/
def EvM (te : TE) (ρ : List (Option D)) (H : Hp) (p l : Addr) (b : Nat) (C : D → Prop) : Prop := ∀ σ H1 (Q : VK), Ex H H1 → Env σ H1 ρ → (∀ v d H2, Mut H1 H2 p → Tape l (b + 1) p H2 → Tp H2 v d → C d → Q v H2) → te σ H1 Q
theorem lc_yes {te : TE} {σ : L2.St} {H : Hp} {F : VK} {N : Hp → Prop} (h : te σ H F) : tYes σ H fun b H3 => if b = true then te σ H3 F else N H3 := by
  show ite (true = true) (te σ H F) (N H)
  rw [if_pos rfl]
  exact h
theorem em_draw {m : Int} {b : Nat} (hT : Tape l b p H) (hb : b ≤ 2 ^ 40) (h0 : 0 < m) (h1 : m < 1073741824) (ha : Ev ta ρ H (.ptr p)) (hm : Ev tb ρ H (.int m)) : EvM (tCall spDraw [] E (tCons ta (tCons tb tNil))) ρ H p l b (fun d => ∃ i, d = .int i ∧ 0 ≤ i ∧ i < m) := fun σ H1 Q a En q =>
  ha σ H1 _ a En fun v H2 e2 t2 => hm σ H2 _ (a.trans e2) (En.ex e2) fun u H3 e3 t3 => by
    rw [t2.invP, t3.invI]
    exact ⟨p, l, m, b, rfl, hT.ex ((a.trans e2).trans e3), hb, h0, h1, fun i H4 i0 i1 m4 T4 => q _ (.int i) H4 ((Mut.ofEx (e2.trans e3)).trans m4) T4 (.int i) ⟨i, rfl, i0, i1⟩⟩
theorem em_add {b : Nat} {m j : Int} (ha : Ev ta ρ H (.int j)) (h : EvM te ρ H p l b (fun d => ∃ i, d = .int i ∧ 0 ≤ i ∧ i < m)) : EvM (tOp (rI0 fun i j => .int (i + j)) ta te) ρ H p l b (fun d => ∃ i, d = .int i ∧ j ≤ i ∧ i < j + m) := fun σ H1 Q a En q =>
  ha σ H1 _ a En fun v H2 e2 t2 => h σ H2 _ (a.trans e2) (En.ex e2) fun u d H3 m3 T3 t3 ⟨i, ed, i0, i1⟩ => by
    subst ed
    exact ⟨j, i, t2.invI, t3.invI, q _ (.int (j + i)) H3 ((Mut.ofEx e2).trans m3) T3 (.int _) ⟨j + i, rfl, by omega, by omega⟩⟩
theorem em_ix {b : Nat} {r : Addr} (hL : Lst H r ds) (hr : r ≠ p) (ha : Ev ta ρ H (.ptr r)) (h : EvM te ρ H p l b (fun d => ∃ i, d = .int i ∧ 0 ≤ i ∧ i < (ds.length : Int))) : EvM (tOp (rIxL K) ta te) ρ H p l b (fun d => d ∈ ds) := fun σ H1 Q a En q =>
  ha σ H1 _ a En fun v H2 e2 t2 => h σ H2 _ (a.trans e2) (En.ex e2) fun u d H3 m3 T3 t3 ⟨i, ed, i0, i1⟩ => by
    subst ed
    obtain ⟨m, rfl⟩ : ∃ m : Nat, i = (m : Int) := ⟨i.toNat, by omega⟩
    have hm : m < ds.length := by omega
    obtain ⟨xs, h1, h2⟩ := m3.lst (hL.ex (a.trans e2)) hr
    obtain ⟨w, h3, h4⟩ := atI_tps h2 (atI_some (List.getElem?_eq_getElem hm))
    exact ⟨r, xs, _, w, t2.invP, t3.invI, SqL.of h1, h3, q w ds[m] H3 ((Mut.ofEx e2).trans m3) T3 h4 (List.getElem_mem hm)⟩
theorem q_asgM {i : Nat} {b : Nat} {C : D → Prop} (En : Env σ H ρ) (h : EvM te ρ H p l b C) (k : ∀ d σ' H1, Mut H H1 p → Tape l (b + 1) p H1 → C d → Env σ' H1 (ρ.set i (some d)) → tz D0 σ' H1) : tSeq (tAsg te (gName i)) tz D0 σ H :=
  h σ H _ (exr H) En fun v d H1 m1 T1 t1 c1 => k d _ H1 m1 T1 c1 ((m1.env En).set i t1)
abbrev s__law_tape : Stmt := top 34
abbrev N__law_tape : List Str := ["_law_script"]
abbrev P__law_tape : List Str := ["_law_script"]
theorem sc__law_tape : FnScope N__law_tape P__law_tape (defScope s__law_tape) := ⟨rfl, rfl, rfl, by decide +kernel, rfl, by decide +kernel, by decide +kernel⟩

theorem ok__law_tape (Z : Zs mg) (F : DefAt K mg "_law_tape" s__law_tape P__law_tape) : FnAt P w K mg base 1 "_law_tape" P__law_tape (spTape K) := by
  refine F.ok sc__law_tape (fun vs H Q E ⟨_, _, e, _⟩ => by rw [e]; rfl) fun f cdv A outer s H vs Q E hr h => ?_
  have nd := sc__law_tape.nd
  obtain ⟨a, ns, rfl, hS, q⟩ := h
  refine ⟨_, 
    (pss_one (ps_ret (pe_lst (pa_cons (pe_callTy (call_list_of : CallR _ _ (rListS K)) rfl Z.z_list boot_list (pa_cons (pe_slice (sl_list : SlR _ (rSlL K)) (pv 0) po_none (po_some pe_int)) pa_nil)) (pa_cons pe_int (pa_cons pe_int (pa_cons pe_int pa_nil))))))), ?_⟩
  have En := Env.start N__law_tape (Tps.cons (.ptr a) (Tps.nil (H := H)))
  have ecut : cutV (ns.map V.int) none (some 63) = (cutD ns none (some 63)).map V.int := by
    unfold cutV cutD
    rw [List.length_map, List.map_take, List.map_drop]
  refine ⟨.ref a, rfl, 63, rfl, a, _, rfl, hS, fun p1 h1 => ⟨p1, _, rfl, .inl (SqL.of upd_same), fun p2 h2 => ⟨Evl.sz_of (by show 4 ≤ 100000; decide), fun p3 h3 => ?_⟩⟩⟩
  have x1 : Ex H (upd H p1 (.lst (cutV (ns.map V.int) none (some 63)))) := Evl.Ex.new h1
  have x2 := Evl.Ex.new (o := .lst (cutV (ns.map V.int) none (some 63))) h2
  have x3 := Evl.Ex.new (o := .lst [.ref p2, .int 0, .int 0, .int 0]) h3
  refine q p3 p2 _ (fresh_back (x1.trans x2) h3) (fresh_back x1 h2) ((x1.trans x2).trans x3) ⟨cutD ns none (some 63), 0, 0, 0, ?_, ⟨_, upd_same, ?_⟩, ⟨_, x3 _ _ upd_same, ?_⟩, by omega, by omega⟩
  · exact ne_of_none upd_same h3
  · exact Tps.cons (.ptr p2) (Tps.cons (.int 0) (Tps.cons (.int 0) (Tps.cons (.int 0) Tps.nil)))
  · rw [ecut]
    exact Tps.ofInts _
abbrev s__law_draw : Stmt := top 35
abbrev N__law_draw : List Str := ["_law_tape_here", "_law_many", "_law_found", "_law_cell", "_law_mixed"]
abbrev P__law_draw : List Str := ["_law_tape_here", "_law_many"]
theorem sc__law_draw : FnScope N__law_draw P__law_draw (defScope s__law_draw) := ⟨rfl, rfl, rfl, by decide +kernel, rfl, by decide +kernel, by decide +kernel⟩

theorem ok__law_draw (Z : Zs mg) (F : DefAt K mg "_law_draw" s__law_draw P__law_draw) : FnAt P w K mg base 1 "_law_draw" P__law_draw spDraw := by
  refine F.ok sc__law_draw (fun vs H Q E ⟨_, _, _, _, e, _⟩ => by rw [e]; rfl) fun f cdv A outer s H vs Q E hr h => ?_
  have nd := sc__law_draw.nd
  obtain ⟨p, l, m, b, rfl, ⟨ms, k, t, n, hlp, hL, hM, hn0, hnb⟩, hb, hm0, hm1, q⟩ := h
  refine ⟨_, 
    (pss_cons (ps_asg (pe_op op_add (pe_ix (ix_list : IxR _ (rIxL K)) (pv 0) pe_int (fun _ _ => rfl)) pe_int) (pg_sub (pv 0) pe_int set_list)) 
    (pss_cons (ps_if (pt_cmpR op_gt (pe_ix (ix_list : IxR _ (rIxL K)) (pv 0) pe_int (fun _ _ => rfl)) pe_int (nomark _)) 
      (pss_cons (ps_set (i := 2) nd rfl (Or.inl rfl) (pe_op op_mod (pe_ix (ix_list : IxR _ (rIxL K)) (pv 0) pe_int (fun _ _ => rfl)) (pv 1))) 
      (pss_cons (ps_asg (pe_op op_fdiv (pe_ix (ix_list : IxR _ (rIxL K)) (pv 0) pe_int (fun _ _ => rfl)) (pv 1)) (pg_sub (pv 0) pe_int set_list)) 
      (pss_one (ps_ret (pv 2))))) pss_nil) 
    (pss_cons (ps_set (i := 3) nd rfl (Or.inl rfl) pe_int) 
    (pss_cons (ps_if (pt_cmpR (op_neP hr.units : OpR _ _ (rNeP K)) (pe_ix (ix_list : IxR _ (rIxL K)) (pv 0) pe_int (fun _ _ => rfl)) (pe_lst pa_nil) (nomark _)) 
      (pss_one (ps_set (i := 3) nd rfl (Or.inl rfl) (pe_ix (ix_list : IxR _ (rIxL K)) (pe_ix (ix_list : IxR _ (rIxL K)) (pv 0) pe_int (fun _ _ => rfl)) (pe_op op_mod (pe_ix (ix_list : IxR _ (rIxL K)) (pv 0) pe_int (fun _ _ => rfl)) (pe_callB (call_len_seq : CallR _ _ (rLenS K)) rfl Z.z_len boot_len (pa_cons (pe_ix (ix_list : IxR _ (rIxL K)) (pv 0) pe_int (fun _ _ => rfl)) pa_nil))) (fun _ _ => rfl)))) pss_nil) 
    (pss_cons (ps_asg (pe_op op_add (pe_ix (ix_list : IxR _ (rIxL K)) (pv 0) pe_int (fun _ _ => rfl)) pe_int) (pg_sub (pv 0) pe_int set_list)) 
    (pss_cons (ps_if (PW.pt (pw_and (pt_cmpR op_ge (pv 3) (pe_op op_pow pe_int pe_int) (nomark _)) (pw_and1 (pt_cmpR op_le (pe_ix (ix_list : IxR _ (rIxL K)) (pv 0) pe_int (fun _ _ => rfl)) (pe_callB (call_len_seq : CallR _ _ (rLenS K)) rfl Z.z_len boot_len (pa_cons (pe_ix (ix_list : IxR _ (rIxL K)) (pv 0) pe_int (fun _ _ => rfl)) pa_nil)) (nomark _))))) 
      (pss_cons (ps_asg (pe_op op_fdiv (pv 3) (pv 1)) (pg_sub (pv 0) pe_int set_list)) 
      (pss_one (ps_ret (pe_op op_mod (pv 3) (pv 1))))) pss_nil) 
    (pss_cons (ps_set (i := 4) nd rfl (Or.inl rfl) (pe_op op_mod (pe_op op_mul (pe_op op_add (pe_op op_mod (pv 3) pe_int) (pe_op op_mul pe_int (pe_ix (ix_list : IxR _ (rIxL K)) (pv 0) pe_int (fun _ _ => rfl)))) pe_int) pe_int)) 
    (pss_cons (ps_set (i := 4) nd rfl (Or.inl rfl) (pe_op op_mod (pe_op op_mul (pe_op op_add (pe_op op_fdiv (pv 4) pe_int) (pe_op op_mul (pe_op op_mul pe_int (pe_ix (ix_list : IxR _ (rIxL K)) (pv 0) pe_int (fun _ _ => rfl))) (pe_ix (ix_list : IxR _ (rIxL K)) (pv 0) pe_int (fun _ _ => rfl)))) pe_int) pe_int)) 
    (pss_one (ps_ret (pe_op op_mod (pe_op op_fdiv (pv 4) pe_int) (pv 1)))))))))))), ?_⟩
  have En := Env.start N__law_draw (Tps.cons (.ptr p) (Tps.cons (.int m) (Tps.nil (H := H))))
  refine q_setD (j := 3) hL (by show 3 < 4; decide) En (ev_add (ev_ixL hL (ev_var rfl) ev_int rfl) ev_int) (ev_var rfl) ev_int fun H1 m1 L1 En => ?_
  have M1 := m1.lst hM hlp
  have L1 : Lst H1 p [.ptr l, .int k, .int t, .int (n + 1)] := L1
  refine q_if (b := decide (0 < t)) En (et_test (ev_gt (ev_ixL L1 (ev_var rfl) ev_int rfl) ev_int)) (fun _ H2 e2 => ?_) fun _ H2 e2 => ?_
  · have L2 := L1.ex e2
    refine q_asg (En.ex e2) (ev_mod (ev_ixL L2 (ev_var rfl) ev_int rfl) (ev_var rfl) hm0) fun σ3 H3 e3 En => ?_
    refine q_setD (j := 2) (L2.ex e3) (by show 2 < 4; decide) En (ev_fdiv (ev_ixL (L2.ex e3) (ev_var rfl) ev_int rfl) (ev_var rfl) ⟨hm0, hm1⟩) (ev_var rfl) ev_int fun H4 m4 L4 En => ?_
    have M4 := m4.lst ((M1.ex e2).ex e3) hlp
    refine x_ret En (ev_var rfl) fun v H5 e5 t5 => ?_
    rw [t5.invI]
    exact q _ H5 (Int.emod_nonneg _ (by omega)) (Int.emod_lt_of_pos _ hm0) (((m1.trans (Mut.ofEx (e2.trans e3))).trans m4).trans (Mut.ofEx e5)) ⟨ms, _, _, _, hlp, L4.ex e5, M4.ex e5, by omega, by omega⟩
  · have L2 := L1.ex e2
    have M2 := M1.ex e2
    refine q_asg (En.ex e2) ev_int fun σ3 H3 e3 En => ?_
    have L3 := L2.ex e3
    have M3 := M2.ex e3
    have m3 : Mut H H3 p := m1.trans (Mut.ofEx (e2.trans e3))
    refine q_ifM (b := !ms.isEmpty) (fun σ' H4 => ∃ c : Int, Mut H H4 p ∧ Lst H4 p [.ptr l, .int k, .int t, .int (n + 1)] ∧ Lst H4 l (ms.map .int) ∧ Env σ' H4 [some (.ptr p), some (.int m), none, some (.int c), none]) En (et_test (ev_neL M3 (ev_ixL L3 (ev_var rfl) ev_int rfl))) (fun σ' H4 ⟨c, m4, L4, M4, En⟩ => ?_) (fun hne H4 nx e4 kx => ?_) fun hne H4 nx e4 kx => ?_
    · have b1 : (0 : Int) ≤ n + 1 ∧ n + 1 < 2 ^ 64 := by omega
      refine q_setD (j := 1) L4 (by show 1 < 4; decide) En (ev_add (ev_ixL L4 (ev_var rfl) ev_int rfl) ev_int) (ev_var rfl) ev_int fun H5 m5 L5 En => ?_
      have M5 := m5.lst M4 hlp
      have L5 : Lst H5 p [.ptr l, .int (k + 1), .int t, .int (n + 1)] := L5
      have m5 := m4.trans m5
      refine q_if (b := decide ((10 : Int) ^ (18 : Int).toNat ≤ c) && decide (k + 1 ≤ ms.length)) En (et_and (et_test (ev_ge (ev_var rfl) (ev_pow ev_int ev_int ⟨by decide, by decide, by decide⟩))) fun _ => et_is (et_test (ev_le (ev_ixL L5 (ev_var rfl) ev_int rfl) (ev_lenL M5 (ev_ixL L5 (ev_var rfl) ev_int rfl)))) (by rw [List.length_map])) (fun _ H6 e6 => ?_) fun _ H6 e6 => ?_
      · have En := En.ex e6
        refine q_setD (j := 2) (L5.ex e6) (by show 2 < 4; decide) En (ev_fdiv (ev_var rfl) (ev_var rfl) ⟨hm0, hm1⟩) (ev_var rfl) ev_int fun H7 m7 L7 En => ?_
        have M7 := m7.lst (M5.ex e6) hlp
        refine x_ret En (ev_mod (ev_var rfl) (ev_var rfl) hm0) fun v H8 e8 t8 => ?_
        rw [t8.invI]
        exact q _ H8 (Int.emod_nonneg _ (by omega)) (Int.emod_lt_of_pos _ hm0) (((m5.trans (Mut.ofEx e6)).trans m7).trans (Mut.ofEx e8)) ⟨ms, _, _, _, hlp, L7.ex e8, M7.ex e8, by omega, by omega⟩
      · have En := En.ex e6
        have L6 := L5.ex e6
        refine q_asg En (ev_mod (ev_mul (ev_add (ev_mod (ev_var rfl) ev_int (by decide)) (ev_mul ev_int (ev_ixL L6 (ev_var rfl) ev_int rfl) (.inl ⟨by decide, by decide⟩))) ev_int (.inr ⟨by decide, by decide⟩)) ev_int (by decide)) fun σ7 H7 e7 En => ?_
        have L7 := L6.ex e7
        refine q_asg En (ev_mod (ev_mul (ev_add (ev_fdiv (ev_var rfl) ev_int ⟨by decide, by decide⟩) (ev_mul (ev_mul ev_int (ev_ixL L7 (ev_var rfl) ev_int rfl) (.inl ⟨by decide, by decide⟩)) (ev_ixL L7 (ev_var rfl) ev_int rfl) (.inr ⟨by omega, b1.2⟩))) ev_int (.inr ⟨by decide, by decide⟩)) ev_int (by decide)) fun σ8 H8 e8 En => ?_
        refine x_ret En (ev_mod (ev_fdiv (ev_var rfl) ev_int ⟨by decide, by decide⟩) (ev_var rfl) hm0) fun v H9 e9 t9 => ?_
        rw [t9.invI]
        have e69 := ((e6.trans e7).trans e8).trans e9
        exact q _ H9 (Int.emod_nonneg _ (by omega)) (Int.emod_lt_of_pos _ hm0) (m5.trans (Mut.ofEx e69)) ⟨ms, _, _, _, hlp, L5.ex e69, M5.ex e69, by omega, by omega⟩
    · have hz : 0 < ms.length := by
        cases ms with
        | nil => cases hne
        | cons _ _ => exact Nat.succ_pos _
      have hz' : (0 : Int) < ((ms.map D.int).length : Int) := by rw [List.length_map]; omega
      have L4 := L3.ex e4
      have M4 := M3.ex e4
      have r0 := Int.emod_nonneg k (show ((ms.map D.int).length : Int) ≠ 0 by omega)
      have r1 := Int.emod_lt_of_pos k hz'
      obtain ⟨i, hi⟩ : ∃ i : Nat, k % ((ms.map D.int).length : Int) = (i : Int) := ⟨(k % ((ms.map D.int).length : Int)).toNat, by omega⟩
      have hil : i < ms.length := by rw [List.length_map] at r1 hi; omega
      refine x_asg (En.ex e4) (ev_ixL (d := .int ms[i]) M4 (ev_ixL L4 (ev_var rfl) ev_int rfl) (ev_mod (ev_ixL L4 (ev_var rfl) ev_int rfl) (ev_lenL M4 (ev_ixL L4 (ev_var rfl) ev_int rfl)) hz') (by rw [hi]; exact atI_some (by rw [List.getElem?_map, List.getElem?_eq_getElem hil]; rfl))) fun σ5 H5 e5 En => ?_
      exact kx _ _ ⟨_, m3.trans (Mut.ofEx (e4.trans e5)), L4.ex e5, M4.ex e5, En⟩
    · exact kx _ _ ⟨3, m3.trans (Mut.ofEx e4), L3.ex e4, M3.ex e4, En.ex e4⟩
abbrev s__law_greats : Stmt := top 36
abbrev N__law_greats : List Str := ["_law_tape_here", "_law_many", "_law_some", "_law_k"]
abbrev P__law_greats : List Str := ["_law_tape_here", "_law_many"]
theorem sc__law_greats : FnScope N__law_greats P__law_greats (defScope s__law_greats) := ⟨rfl, rfl, rfl, by decide +kernel, rfl, by decide +kernel, by decide +kernel⟩

def menu : List Int := [0, 1, 2, 8, 9, 10, 11, 99, 100, 101, 10 ^ 8, 10 ^ 9 - 1, 10 ^ 9]
def spGreats : Sp := fun vs H Q _ => ∃ (p l : Addr) (n b : Nat), vs = [.ref p, .int (n : Nat)] ∧ Tape l b p H ∧ b + n ≤ 2 ^ 40 ∧ n ≤ 12 ∧ ∀ v H' (gs : List Int), Mut H H' p → Tape l (b + n) p H' → Tp H' v (.tup (gs.map .int)) → gs.length = n → gs.Nodup → Q v H'
theorem ok__law_greats (Z : Zs mg) (F : DefAt K mg "_law_greats" s__law_greats P__law_greats) (F__law_draw : FnAt P w K mg base 1 "_law_draw" P__law_draw spDraw) : FnAt P w K mg base 2 "_law_greats" P__law_greats spGreats := by
  refine F.ok sc__law_greats (fun vs H Q E ⟨_, _, _, _, e, _⟩ => by rw [e]; rfl) fun f cdv A outer s H vs Q E hr h => ?_
  have nd := sc__law_greats.nd
  obtain ⟨p, l, n, b, rfl, hT, hb, hn, q⟩ := h
  refine ⟨_, 
    (pss_cons (ps_set (i := 2) nd rfl (Or.inr rfl) (pe_lst (pa_cons pe_int (pa_cons pe_int (pa_cons pe_int (pa_cons pe_int (pa_cons pe_int (pa_cons pe_int (pa_cons pe_int (pa_cons pe_int (pa_cons pe_int (pa_cons pe_int (pa_cons (pe_op op_pow pe_int pe_int) (pa_cons (pe_op op_sub (pe_op op_pow pe_int pe_int) pe_int) (pa_cons (pe_op op_pow pe_int pe_int) pa_nil))))))))))))))) 
    (pss_one (ps_ret (pe_callTy (call_tuple_of : CallR _ _ (rTupleS K)) rfl Z.z_tuple boot_tuple (pa_cons (pe_lc (own := [("_law_k", 3)]) (g := gName 3) rfl nd (pi_range1 rfl Z.z_range (pa_cons (pv 1) pa_nil)) (blkOk_by (own := [("_law_k", 3)]) (N := N__law_greats) (sc := defScope s__law_greats) (by decide +kernel)) (fun _ _ _ _ _ => (pg_name (i := 3) nd rfl (Or.inl rfl))) (fun _ _ _ _ _ => pts_nil) (fun _ _ _ _ _ => (pe_bmK (K := K) (r := rPopAt) rfl PySem.F.plainAttrs_list PySem.F.slot_list_pop PySem.F.type_list_pop mt_popAt (pv 2) (pa_cons (pe_fn F__law_draw (hr.mono (by decide)) rfl (pa_cons (pv 0) (pa_cons (pe_callB (call_len_seq : CallR _ _ (rLenS K)) rfl Z.z_len boot_len (pa_cons (pv 2) pa_nil)) pa_nil))) pa_nil)))) pa_nil))))), ?_⟩
  have En := Env.start N__law_greats (Tps.cons (.ptr p) (Tps.cons (.int (n : Nat)) (Tps.nil (H := H))))
  obtain ⟨p0, hp0⟩ := hT.isL
  refine q_asgL (ds := menu.map .int) En (el_is (el_lst (ea_cons ev_int (ea_cons ev_int (ea_cons ev_int (ea_cons ev_int (ea_cons ev_int (ea_cons ev_int (ea_cons ev_int (ea_cons ev_int (ea_cons ev_int (ea_cons ev_int (ea_cons (ev_pow ev_int ev_int ⟨by decide, by decide, by decide⟩) (ea_cons (ev_sub (ev_pow ev_int ev_int ⟨by decide, by decide, by decide⟩) ev_int) (ea_cons (ev_pow ev_int ev_int ⟨by decide, by decide, by decide⟩) ea_nil))))))))))))) (by show 13 ≤ 100000; decide)) rfl) fun qa σ1 H1 hq1 e1 hL1 En => ?_
  have nqp : qa ≠ p := (ne_of_none hp0 hq1).symm
  obtain ⟨l0, hl0⟩ := hT.isM
  have nql : l ≠ qa := ne_of_none hl0 hq1
  refine (ev_var (i := 1) rfl) σ1 H1 _ (exr _) En fun v H2 e2 t2 => ⟨(n : Int), by rw [t2.invI], by omega, by omega, fun Dl hD => ?_⟩
  have hT2 := (hT.ex e1).ex e2
  obtain ⟨p2, hp2⟩ := hT2.isL
  have nDl : l ≠ Dl := ne_of_none (e2 _ _ (e1 _ _ hl0)) hD
  have nDp : Dl ≠ p := (ne_of_none hp2 hD).symm
  have hL2 := hL1.ex e2
  have nDq : Dl ≠ qa := by
    obtain ⟨_, z, _⟩ := hL2
    exact (ne_of_none z hD).symm
  have En2 := (En.ex e2).wipe [3]
  have en : ((n : Int)).toNat = n := Int.toNat_natCast n
  let Pv : Nat → Hp → Prop := fun i H' => Mut H H' p ∧ Tape l (b + i) p H' ∧ TK H2 H' ∧ ∃ acc rem : List Int, H' Dl = some (.lst (acc.map V.int)) ∧ Lst H' qa (rem.map .int) ∧ (acc ++ rem).Perm menu ∧ acc.length = i
  refine lc_it (walk_range (lo := 0) (n := (n : Int).toNat)) Pv ?_ (fun _ _ _ _ => trivial) (fun i x H3 H' hlt pv y => ?_) fun H' pv => ?_
  · exact ⟨Mut.ofEx ((e1.trans e2).trans (Evl.Ex.new hD)), hT2.ex (Evl.Ex.new hD), TK.new hD, [], menu, upd_same, hL2.ex (Evl.Ex.new hD), List.Perm.refl _, rfl⟩
  · obtain ⟨k1, k2, k3, acc, rem, k4, k5, k6, k7⟩ := pv
    obtain ⟨rfl, rfl⟩ := y
    have hlr : acc.length + rem.length = 13 := by
      have := k6.length_eq
      rw [List.length_append] at this
      exact this
    refine tg_name (vs := [3]) (List.mem_singleton.mpr rfl) _ _ H' _ (En2.mono k3) (.int _) fun σ4 E4 hw => ⟨hw.trans (wipe_wipe fun _ z => z), ?_⟩
    refine lc_yes ?_
    refine (ev_var (i := 2) rfl) σ4 H' _ (exr _) E4 fun v4 H4 e4 t4 => ?_
    rw [t4.invP]
    have K5 := k5.ex e4
    obtain ⟨xs, x1, x2⟩ := id K5
    refine ⟨Or.inl ⟨rfl, xs, SqL.of x1⟩, ?_⟩
    refine em_draw (k2.ex e4) (by omega) (m := (rem.length : Nat)) (by omega) (by omega) (ev_var rfl) (ev_is (ev_lenL K5 (ev_var rfl)) (by rw [List.length_map])) σ4 H4 _ (exr _) (E4.ex e4) fun v5 d5 H5 m5 T5 t5 c5 => ?_
    obtain ⟨j, rfl, j0, j1⟩ := c5
    obtain ⟨ys, y1, y2⟩ := m5.lst K5 nqp
    have y2 := y2.ints
    subst y2
    have hjl : j.toNat < rem.length := by omega
    refine ⟨qa, _, j, j.toNat, .int rem[j.toNat], rfl, by rw [t5.invI], y1, by omega, by omega, ?_, ?_, ?_⟩
    · rw [List.length_map]
      exact seqIx j0 j1
    · rw [List.getElem?_map, List.getElem?_eq_getElem hjl]
      rfl
    · have hk1 : TK H' H5 := (TK.of e4).trans m5.tk
      have d1 : H5 Dl = some (.lst (acc.map V.int)) := m5.off _ _ nDp (e4 _ _ k4)
      have tq := TK.updL (o := .lst ((rem.map V.int).eraseIdx j.toNat)) y1
      have d2 : (upd H5 qa (.lst ((rem.map V.int).eraseIdx j.toNat))) Dl = some (.lst (acc.map V.int)) := by
        rw [upd_ne nDq]
        exact d1
      have tD := TK.updL (o := .lst (acc.map V.int ++ [V.int rem[j.toNat]])) d2
      refine ⟨acc.map V.int, d2, Evl.sz_lt (by rw [List.length_map]; omega), ?_, ?_, ((k3.trans hk1).trans tq).trans tD, acc ++ [rem[j.toNat]], rem.eraseIdx j.toNat, ?_, ?_, ?_, ?_⟩
      · refine ⟨(((k1.tk.trans hk1).trans tq).trans tD), fun c u n1 hc => ?_⟩
        have c1 : c ≠ Dl := fun z => by
          rw [z, fresh_back (e1.trans e2) hD] at hc
          cases hc
        have c2 : c ≠ qa := fun z => by
          rw [z, hq1] at hc
          cases hc
        rw [upd_ne c1, upd_ne c2]
        exact m5.off _ _ n1 (e4 _ _ (k1.off _ _ n1 hc))
      · obtain ⟨ms, k, t, n', a1, a2, a3, a4, a5⟩ := T5
        have sl : ∀ (r : Addr) (es : List D), r ≠ qa → r ≠ Dl → Lst H5 r es → Lst (upd (upd H5 qa (.lst ((rem.map V.int).eraseIdx j.toNat))) Dl (.lst (acc.map V.int ++ [V.int rem[j.toNat]]))) r es := fun r es n1 n2 ⟨zs, z1, z2⟩ => ⟨zs, by rw [upd_ne n2, upd_ne n1]; exact z1, (z2.mono tq).mono tD⟩
        exact ⟨ms, k, t, n', a1, sl _ _ nqp.symm nDp.symm a2, sl _ _ nql nDl a3, a4, by omega⟩
      · rw [upd_same, List.map_append]
        rfl
      · refine ⟨(rem.eraseIdx j.toNat).map V.int, ?_, Tps.ofInts _⟩
        rw [upd_ne nDq.symm, upd_same, erase_map]
      · rw [List.append_assoc]
        exact ((List.Perm.append_left acc (erase_perm hjl))).trans k6
      · rw [List.length_append, k7]
        rfl
  · obtain ⟨k1, k2, k3, acc, rem, k4, k5, k6, k7⟩ := pv
    rw [en] at k2 k7
    have hnd : acc.Nodup := (List.nodup_append.mp (k6.nodup_iff.mpr (by decide +kernel : menu.Nodup))).1
    refine ⟨Dl, _, rfl, .inl ⟨SqL.of k4, fun r hr => ?_⟩⟩
    exact q _ _ acc (k1.trans (Mut.ofEx (Evl.Ex.new hr))) (k2.ex (Evl.Ex.new hr)) (Tp.laid hr (Tps.ofInts acc)) k7 hnd
end
end Hn


/-! dict(zip(range(n), xs)): a range's iterator as a source of a zip, a zip as a source of pairs. -/
namespace Hn
open PySem
open PySem.Sem (wp)
section
variable {prog : Program} {w : World} {A : Around} {E : Value → Shared → Prop} {s : Shared}
theorem nextOf_range_item {it : Addr} {x left step : Int} {Q : Value → Shared → Prop} (hit : IsRangeIter s.heap it x left step) (hleft : 0 < left)
    (hQ : ∀ h', IsRangeIter h' it (x + step) (left - 1) step → Heap.SameBut it s.heap h' → Q (.int x s.toks) { s with heap := h', toks := s.toks + 1 }) :
    wpAny (model prog w) A (Builtin.SmallTypes.nextOf (.ref it)) Q E s := by
  have hT : s.TypeIs (.ref it) "range_iterator" := ⟨_, hit, rfl⟩
  unfold Builtin.SmallTypes.nextOf
  refine wpAny_bind (wpAny_callSpecial?_slot (name := Str.ofString "__next__") hT F.slot_range_iterator_next
    (call_meets F.slot_range_iterator_next hT F.entry_range_iterator_next (F.args_range_iterator_next_1 _) (AutoRange.range_iterator___next___range_iterator_1 it x left step (by omega)) ⟨hit, ?_⟩))
  exact wpAny_pure (hQ _ (Heap.get?_update_self _ (Heap.get?_update_self _ hit rfl) rfl) ((Heap.SameBut.update ..).trans (Heap.SameBut.update ..)))
theorem nextOf_range_end {it : Addr} {x left step : Int} {Q : Value → Shared → Prop} (hh : A.handled = none) (hit : IsRangeIter s.heap it x left step) (hleft : left ≤ 0)
    (hE : ∀ h' e, Heap.ExtBut it s.heap h' → (∃ o, h'.get? e = some o ∧ o.cls = .type "StopIteration") → E (.ref e) { s with heap := h' }) : wpAny (model prog w) A (Builtin.SmallTypes.nextOf (.ref it)) Q E s := by
  have hT : s.TypeIs (.ref it) "range_iterator" := ⟨_, hit, rfl⟩
  unfold Builtin.SmallTypes.nextOf
  refine wpAny_bind (wpAny_callSpecial?_slot (name := Str.ofString "__next__") hT F.slot_range_iterator_next
    (wpAny_call_entry F.slot_range_iterator_next hT F.entry_range_iterator_next ?_ (F.args_range_iterator_next_1 _)))
  show wpAny _ _ (field (.ref it) 0 >>= _) _ _ s
  refine wpAny_bind (wpAny_field hit rfl (x := rawInt x) rfl ?_)
  show wpAny _ _ (field (.ref it) 1 >>= _) _ _ s
  refine wpAny_bind (wpAny_field hit rfl (x := rawInt left) rfl ?_)
  show wpAny _ _ (field (.ref it) 2 >>= _) _ _ s
  refine wpAny_bind (wpAny_field hit rfl (x := rawInt step) rfl ?_)
  show wpAny _ _ (if left ≤ 0 then _ else _) _ _ s
  rw [if_pos hleft]
  refine wpAny_bind (wpAny_rule ?_)
  refine wpAny_bind ?_
  show wpAny _ _ (newExc (.type "StopIteration") [] >>= _) _ _ _
  refine wpAny_bind ?_
  simp only [newExc, newTuple]
  refine wpAny_bind (wpAny_newObj_type ?_ (by size_fits))
  refine wpAny_bind (m := firstArgMember _ _) (wpAny_of_eq (a := Value.none) (by first | rfl | (simp only [firstArgMember]; rfl)) ?_)
  refine wpAny_newObj_type ?_ (by size_fits)
  simp only [raiseNew]
  refine wpAny_bind (wpAny_handled ?_)
  first | rw [show A.in1.handled = none from hh] | rw [hh]
  refine wpAny_bind (wpAny_pure (wpAny_throw ?_))
  exact hE _ _ (((Heap.ExtBut.refl it s.heap).push _).push _) ⟨_, Heap.get?_push_size _ rfl, rfl⟩
end
/-- the iterator of range(n) -/
def RgSt (it : Addr) (n : Nat) (i : Nat) (h : Heap) : Prop := IsRangeIter h it (i : Int) ((n : Int) - (i : Int)) 1
theorem drawsRange {prog : Program} {w : World} {A : Around} (hh : A.handled = none) (it : Addr) (n : Nat) : Draws prog w A it [it] n (fun i v => ∃ t, v = .int (i : Int) t) (RgSt it n) where
  live := fun _ _ st => ⟨_, st⟩
  frame := fun _ _ _ st hk => hk it (by simp) _ st
  item := fun i s Q E hi st hQ => nextOf_range_item st (by omega) fun h' hit' hs' => hQ _ h' (s.toks + 1) ⟨_, rfl⟩ (by
    have e1 : ((i + 1 : Nat) : Int) = (i : Int) + 1 := by omega
    have e2 : (n : Int) - ((i + 1 : Nat) : Int) = (n : Int) - (i : Int) - 1 := by omega
    unfold RgSt
    rw [e2, e1]
    exact hit') hs'
  done := fun s Q E st hE => nextOf_range_end hh st (by omega) hE
theorem begins_range (r : Addr) (n : Nat) (t u v : Tok) (hn : (n : Int) < 2 ^ 62) : Begins (.ref r) { cls := .type "range_iterator", data := .fields #[rawInt 0, rawInt (n : Int), rawInt 1] } fun h => IsRange h r 0 (n : Int) 1 t u v where
  iter := fun prog w A E s Q hr h => wpAny_pyIter_range hr (small_one (by decide) (by decide) (by omega) hn) (by
    have e : Builtin.Range.rangeSize 0 (n : Int) 1 = (n : Int) := by rw [rangeSize_one]; split <;> omega
    rw [e]
    exact h)
  keeps := fun h h' x hk => hk r _ x
  free := rfl
section
variable {prog : Program} {w : World} {A : Around} {E : Value → Shared → Prop} {s : Shared} {z TI TO T i1 i2 : Addr} {fp1 fp2 : List Addr} {n1 n2 i : Nat} {P1 P2 : Nat → Value → Prop} {St1 St2 : Nat → Heap → Prop} {f : Bool} {oT : Obj}
theorem zipH_item {Q : Value → Shared → Prop} (S : ZipSep2 z TI TO i1 i2 fp1 fp2) (D1 : Draws prog w A i1 fp1 n1 P1 St1) (D2 : Draws prog w A i2 fp2 n2 P2 St2)
    (hz : IsZipHeld s.heap z TI TO T f) (hT : s.heap.get? T = some oT) (hTI : IsTupOf2 s.heap TI (.ref i1) (.ref i2)) (st1 : St1 i s.heap) (st2 : St2 i s.heap) (hlt1 : i < n1) (hlt2 : i < n2)
    (hQ : ∀ x1 x2 h' tk, P1 i x1 → P2 i x2 → IsZipHeld h' z TI TO T true → St1 (i + 1) h' → St2 (i + 1) h' → IsTupOf2 h' s.heap.objs.size x1 x2 → h'.objs.size = s.heap.objs.size + 1 →
      (∀ c o, c ≠ z → c ≠ i1 → c ≠ i2 → s.heap.get? c = some o → h'.get? c = some o) → Q (.ref s.heap.objs.size) { s with heap := h', toks := tk }) :
    wpAny (model prog w) A (Builtin.«zip.__next__» ⟨[.ref z], []⟩) (fun fin s' => ∃ v, fin = .done (.ret v) ∧ Q v s') E s := by
  obtain ⟨hp, g, d, tk0, os⟩ := s
  show wpAny _ _ (field (.ref z) 2 >>= _) _ _ _
  refine wpAny_bind (wpAny_field hz rfl (x := .bool false) rfl ?_)
  show wpAny _ _ (field (.ref z) 3 >>= _) _ _ _
  refine wpAny_bind (wpAny_field hz rfl (x := .ref TI) rfl ?_)
  refine wpAny_bind (wpAny_seqItems hTI rfl ?_)
  show wpAny _ _ (Builtin.SmallTypes.ownedTupleIsFree (.ref z) >>= _) _ _ _
  refine wpAny_bind (wpAny_tupleHeld_zip hz hT fun g0 hz0 hs0 => ?_)
  replace hs0 : Heap.SameBut z hp g0 := hs0
  simp only [Bool.false_eq_true, if_false]
  refine wpAny_bind ?_
  rw [← Array.forIn_toList]
  simp only [List.forIn_cons, List.forIn_nil]
  refine wpAny_bind (wpAny_bind (wpAny_holding ?_))
  show wpAny _ _ (Builtin.SmallTypes.nextOf (.ref i1) >>= _) _ _ ⟨g0, g, d, tk0, os⟩
  refine wpAny_bind (D1.item i ⟨g0, g, d, tk0, os⟩ _ _ hlt1 (D1.over st1 hs0 S.zf1) fun x1 p1 tk1 hx1 sn1 hp1 => wpAny_pure ?_)
  replace hp1 : Heap.SameBut i1 g0 p1 := hp1
  refine wpAny_pure ?_
  refine wpAny_bind (wpAny_bind (wpAny_holding ?_))
  show wpAny _ _ (Builtin.SmallTypes.nextOf (.ref i2) >>= _) _ _ ⟨p1, g, d, tk1, os⟩
  refine wpAny_bind (D2.item i ⟨p1, g, d, tk1, os⟩ _ _ hlt2 (D2.over (D2.over st2 hs0 S.zf2) hp1 S.sep1_2) fun x2 p2 tk2 hx2 sn2 hp2 => wpAny_pure ?_)
  replace hp2 : Heap.SameBut i2 p1 p2 := hp2
  refine wpAny_pure (wpAny_pure ?_)
  show wpAny _ _ (newTuple [x1, x2] >>= _) _ _ ⟨p2, g, d, tk2, os⟩
  refine wpAny_bind (wpAny_newTuple ?_)
  have hsz : p2.objs.size = hp.objs.size := by rw [hp2.1, hp1.1, hs0.1]
  have hz₃ : IsZipHeld p2 z TI TO T true := hp2.extBut _ _ S.zi2 (hp1.extBut _ _ S.zi1 hz0)
  have hk : ∀ c o, c ≠ z → c ≠ i1 → c ≠ i2 → hp.get? c = some o → p2.get? c = some o := fun c o c1 c2 c3 e => hp2.extBut _ _ c3 (hp1.extBut _ _ c2 (hs0.extBut _ _ c1 e))
  have hj1 : St1 (i + 1) p2 := D1.over sn1 hp2 S.sep2_1
  refine wpAny_pure ⟨_, rfl, ?_⟩
  show Q (.ref p2.objs.size) _
  have hpr : IsTupOf2 (p2.push { cls := .type "tuple", data := .seq #[x1, x2] }) p2.objs.size x1 x2 := Heap.get?_push_size _ rfl
  have hz4 : (p2.push { cls := .type "tuple", data := .seq #[x1, x2] }).objs.size = p2.objs.size + 1 := Heap.size_push ..
  rw [hsz] at hpr hz4 ⊢
  exact hQ x1 x2 _ tk2 hx1 hx2 (Heap.get?_push_of_some _ hz₃) (D1.frame _ _ _ hj1 fun _ _ _ e => Heap.get?_push_of_some _ e) (D2.frame _ _ _ sn2 fun _ _ _ e => Heap.get?_push_of_some _ e) hpr hz4 fun c o c1 c2 c3 e => Heap.get?_push_of_some _ (hk c o c1 c2 c3 e)
theorem zipH_end {Q : Fin → Shared → Prop} (S : ZipSep2 z TI TO i1 i2 fp1 fp2) (D1 : Draws prog w A i1 fp1 n1 P1 St1) (D2 : Draws prog w A i2 fp2 n2 P2 St2)
    (hz : IsZipHeld s.heap z TI TO T f) (hT : s.heap.get? T = some oT) (hTI : IsTupOf2 s.heap TI (.ref i1) (.ref i2)) (st1 : St1 i s.heap) (st2 : St2 i s.heap) (hle1 : i ≤ n1) (hle2 : i ≤ n2) (hend : i = n1 ∨ i = n2)
    (hE : ∀ h' tk e, (∀ c o, c ≠ z → c ≠ i1 → c ≠ i2 → s.heap.get? c = some o → h'.get? c = some o) → (∃ o, h'.get? e = some o ∧ o.cls = .type "StopIteration") → E (.ref e) { s with heap := h', toks := tk }) :
    wpAny (model prog w) A (Builtin.«zip.__next__» ⟨[.ref z], []⟩) Q E s := by
  obtain ⟨hp, g, d, tk0, os⟩ := s
  show wpAny _ _ (field (.ref z) 2 >>= _) _ _ _
  refine wpAny_bind (wpAny_field hz rfl (x := .bool false) rfl ?_)
  show wpAny _ _ (field (.ref z) 3 >>= _) _ _ _
  refine wpAny_bind (wpAny_field hz rfl (x := .ref TI) rfl ?_)
  refine wpAny_bind (wpAny_seqItems hTI rfl ?_)
  show wpAny _ _ (Builtin.SmallTypes.ownedTupleIsFree (.ref z) >>= _) _ _ _
  refine wpAny_bind (wpAny_tupleHeld_zip hz hT fun g0 hz0 hs0 => ?_)
  replace hs0 : Heap.SameBut z hp g0 := hs0
  simp only [Bool.false_eq_true, if_false]
  refine wpAny_bind ?_
  rw [← Array.forIn_toList]
  simp only [List.forIn_cons, List.forIn_nil]
  refine wpAny_bind (wpAny_bind (wpAny_holding ?_))
  show wpAny _ _ (Builtin.SmallTypes.nextOf (.ref i1) >>= _) _ _ ⟨g0, g, d, tk0, os⟩
  by_cases hlt1 : i < n1
  · refine wpAny_bind (D1.item i ⟨g0, g, d, tk0, os⟩ _ _ hlt1 (D1.over st1 hs0 S.zf1) fun x1 p1 tk1 hx1 sn1 hp1 => wpAny_pure ?_)
    replace hp1 : Heap.SameBut i1 g0 p1 := hp1
    have hi2 : i = n2 := by omega
    refine wpAny_pure ?_
    refine wpAny_bind (wpAny_bind (wpAny_holding ?_))
    show wpAny _ _ (Builtin.SmallTypes.nextOf (.ref i2) >>= _) _ _ ⟨p1, g, d, tk1, os⟩
    refine wpAny_bind (D2.done ⟨p1, g, d, tk1, os⟩ _ _ (by rw [← hi2]; exact D2.over (D2.over st2 hs0 S.zf2) hp1 S.sep1_2) fun q e hq he => ?_)
    exact hE q tk1 e (fun c o c1 c2 c3 x => hq _ _ c3 (hp1.extBut _ _ c2 (hs0.extBut _ _ c1 x))) he
  · have hi1 : i = n1 := by omega
    refine wpAny_bind (D1.done ⟨g0, g, d, tk0, os⟩ _ _ (by rw [← hi1]; exact D1.over st1 hs0 S.zf1) fun q e hq he => ?_)
    exact hE q tk0 e (fun c o c1 c2 _ x => hq _ _ c2 (hs0.extBut _ _ c1 x)) he
theorem pyNext_zipH_item {Q : Option Value → Shared → Prop} (S : ZipSep2 z TI TO i1 i2 fp1 fp2) (D1 : Draws prog w A.in1 i1 fp1 n1 P1 St1) (D2 : Draws prog w A.in1 i2 fp2 n2 P2 St2)
    (hz : IsZipHeld s.heap z TI TO T f) (hT : s.heap.get? T = some oT) (hTI : IsTupOf2 s.heap TI (.ref i1) (.ref i2)) (st1 : St1 i s.heap) (st2 : St2 i s.heap) (hlt1 : i < n1) (hlt2 : i < n2)
    (hQ : ∀ x1 x2 h' tk, P1 i x1 → P2 i x2 → IsZipHeld h' z TI TO T true → St1 (i + 1) h' → St2 (i + 1) h' → IsTupOf2 h' s.heap.objs.size x1 x2 → h'.objs.size = s.heap.objs.size + 1 →
      (∀ c o, c ≠ z → c ≠ i1 → c ≠ i2 → s.heap.get? c = some o → h'.get? c = some o) → Q (some (.ref s.heap.objs.size)) { s with heap := h', toks := tk }) :
    wpAny (model prog w) A (pyNext (.ref z)) Q E s := by
  have hTy : s.TypeIs (.ref z) "zip" := ⟨_, hz, rfl⟩
  unfold pyNext
  exact wpAny_bind (wpAny_attempt (wpAny_callSpecial?_slot (name := Str.ofString "__next__") hTy F.slot_zip_next
    (wpAny_call_entry F.slot_zip_next hTy F.entry_zip_next
      (zipH_item S D1 D2 hz hT hTI st1 st2 hlt1 hlt2 fun x1 x2 h' tk y1 y2 b1 d1 d2 b5 b6 b7 => wpAny_pure (hQ x1 x2 h' tk y1 y2 b1 d1 d2 b5 b6 b7)) (F.args_zip_next_1 _))))
theorem pyNext_zipH_end {Q : Option Value → Shared → Prop} (S : ZipSep2 z TI TO i1 i2 fp1 fp2) (D1 : Draws prog w A.in1 i1 fp1 n1 P1 St1) (D2 : Draws prog w A.in1 i2 fp2 n2 P2 St2)
    (hz : IsZipHeld s.heap z TI TO T f) (hT : s.heap.get? T = some oT) (hTI : IsTupOf2 s.heap TI (.ref i1) (.ref i2)) (st1 : St1 i s.heap) (st2 : St2 i s.heap) (hle1 : i ≤ n1) (hle2 : i ≤ n2) (hend : i = n1 ∨ i = n2)
    (hQ : ∀ h' tk, (∀ c o, c ≠ z → c ≠ i1 → c ≠ i2 → s.heap.get? c = some o → h'.get? c = some o) → Q none { s with heap := h', toks := tk }) : wpAny (model prog w) A (pyNext (.ref z)) Q E s := by
  have hTy : s.TypeIs (.ref z) "zip" := ⟨_, hz, rfl⟩
  unfold pyNext
  refine wpAny_bind (wpAny_attempt (wpAny_callSpecial?_slot (name := Str.ofString "__next__") hTy F.slot_zip_next
    (wpAny_call_entry F.slot_zip_next hTy F.entry_zip_next (zipH_end S D1 D2 hz hT hTI st1 st2 hle1 hle2 hend fun h' tk e hk he => ?_) (F.args_zip_next_1 _))))
  obtain ⟨o, ho, hc⟩ := he
  refine wpAny_bind (wpAny_isInstance (T := "StopIteration") (b := true) ⟨o, ho, hc⟩ isSubtype_stop ?_)
  exact wpAny_pure (hQ _ _ hk)
end
theorem pairArgZ {prog : Program} {w : World} {z TI TO i1 i2 : Addr} {fp1 fp2 : List Addr} {n1 n2 : Nat} {P1 P2 : Nat → Value → Prop} {St1 St2 : Nat → Heap → Prop} (S : ZipSep2 z TI TO i1 i2 fp1 fp2)
    (D1 : ∀ A : Around, A.handled = none → Draws prog w A i1 fp1 n1 P1 St1) (D2 : ∀ A : Around, A.handled = none → Draws prog w A i2 fp2 n2 P2 St2)
    (F1 : ∀ i h h', St1 i h → (∀ b ∈ fp1, ∀ o, h.get? b = some o → h'.get? b = some o) → St1 i h') (F2 : ∀ i h h', St2 i h → (∀ b ∈ fp2, ∀ o, h.get? b = some o → h'.get? b = some o) → St2 i h')
    (L1 : ∀ i h, St1 i h → ∀ b ∈ fp1, ∃ o, h.get? b = some o) (L2 : ∀ i h, St2 i h → ∀ b ∈ fp2, ∃ o, h.get? b = some o) :
    PairArg prog w "zip" z (z :: TI :: TO :: (fp1 ++ fp2)) [z, TO, i1, i2] (min n1 n2) (fun i k v => P1 i k ∧ P2 i v)
      (fun h => IsZip h z TI TO .none ∧ IsTupOf2 h TI (.ref i1) (.ref i2) ∧ (∃ a b, IsTupOf2 h TO a b) ∧ St1 0 h ∧ St2 0 h) where
  type := fun s ok => ⟨_, ok.1, rfl⟩
  notDict := by decide
  keep := fun h h' ok hk => by
    obtain ⟨hz, hTI, ⟨a, b, hTO⟩, h1, h2⟩ := ok
    exact ⟨hk _ _ hz, hk _ _ hTI, ⟨a, b, hk _ _ hTO⟩, F1 _ _ _ h1 fun b _ o e => hk b o e, F2 _ _ _ h2 fun b _ o e => hk b o e⟩
  there := fun h ok b hb => by
    obtain ⟨hz, hTI, ⟨a, c, hTO⟩, h1, h2⟩ := ok
    simp only [List.mem_cons, List.mem_append] at hb
    rcases hb with rfl | rfl | rfl | hb | hb
    · exact ⟨_, hz⟩
    · exact ⟨_, hTI⟩
    · exact ⟨_, hTO⟩
    · exact L1 _ _ h1 b hb
    · exact L2 _ _ h2 b hb
  sub := fun b hb => by
    simp only [List.mem_cons, List.not_mem_nil, or_false] at hb
    simp only [List.mem_cons, List.mem_append]
    rcases hb with rfl | rfl | rfl | rfl
    · exact .inl rfl
    · exact .inr (.inr (.inl rfl))
    · exact .inr (.inr (.inr (.inl S.mem1)))
    · exact .inr (.inr (.inr (.inr S.mem2)))
  noKeys := fun A s Q E hA ok h => getAttrOr_miss_zip ok.1 rfl rfl rfl zip_no_keys (by decide +kernel) hA h
  iter := fun A s d Q E hA ok hd hdf h => by
    obtain ⟨hz, hTI, ⟨a, b, hTO⟩, h1, h2⟩ := ok
    simp only [List.mem_cons, List.mem_append, not_or] at hdf
    obtain ⟨dz, dTI, dTO, df1, df2⟩ := hdf
    have di1 : d ≠ i1 := fun e => df1 (e ▸ S.mem1)
    have di2 : d ≠ i2 := fun e => df2 (e ▸ S.mem2)
    have D1' := D1 A.in1 hA
    have D2' := D2 A.in1 hA
    refine wpAny_pyIter_zip hz (h z [z, TO, i1, i2] (fun i h => IsTupOf2 h TI (.ref i1) (.ref i2) ∧ St1 i h ∧ St2 i h ∧
      ((IsZip h z TI TO .none ∧ ∃ a b, IsTupOf2 h TO a b) ∨ ∃ T f oT, IsZipHeld h z TI TO T f ∧ h.get? T = some oT ∧ T ≠ z ∧ T ≠ i1 ∧ T ≠ i2 ∧ T ≠ d)) s.heap s.toks ?_
      ⟨hTI, h1, h2, .inl ⟨hz, a, b, hTO⟩⟩ (fun _ _ e => e) fun b hb => .inl hb)
    exact {
      off := fun hm => by
        simp only [List.mem_cons, List.not_mem_nil, or_false] at hm
        rcases hm with e | e | e | e
        · exact dz e
        · exact dTO e
        · exact di1 e
        · exact di2 e
      frame := fun i h₁ h₂ st hk => by
        obtain ⟨hTI, h1, h2, hz⟩ := st
        refine ⟨hk _ _ (Ne.symm dTI) hTI, F1 _ _ _ h1 fun b hb o e => hk b o (fun q => df1 (q ▸ hb)) e, F2 _ _ _ h2 fun b hb o e => hk b o (fun q => df2 (q ▸ hb)) e, ?_⟩
        rcases hz with ⟨hz, a, b, hTO⟩ | ⟨T, f, oT, hz, hT, r1, r2, r3, r4⟩
        · exact .inl ⟨hk _ _ (Ne.symm dz) hz, a, b, hk _ _ (Ne.symm dTO) hTO⟩
        · exact .inr ⟨T, f, oT, hk _ _ (Ne.symm dz) hz, hk _ _ r4 hT, r1, r2, r3, r4⟩
      item := fun i s₁ Q₁ E₁ hi st hds hQ => by
        obtain ⟨hTI, h1, h2, hz⟩ := st
        have hix : i < n1 := Nat.lt_of_lt_of_le hi (Nat.min_le_left ..)
        have hiy : i < n2 := Nat.lt_of_lt_of_le hi (Nat.min_le_right ..)
        have lt : ∀ {c o}, s₁.heap.get? c = some o → s₁.heap.objs.size ≠ c := fun e => Nat.ne_of_gt (Heap.lt_size e)
        have n1' : s₁.heap.objs.size ≠ i1 := let ⟨_, e⟩ := L1 _ _ h1 i1 S.mem1; lt e
        have n2' : s₁.heap.objs.size ≠ i2 := let ⟨_, e⟩ := L2 _ _ h2 i2 S.mem2; lt e
        rcases hz with ⟨hz, a, b, hTO⟩ | ⟨T, f, oT, hz, hT, r1, r2, r3, r4⟩
        · refine wpAny_pyNext_zipD2_item S D1' D2' hz hTI hTO h1 h2 hix hiy fun x1 x2 h' tk y1 y2 a1 a2 a3 a4 a5 a6 hk => ?_
          exact hQ s₁.heap.objs.size _ _ h' tk ⟨y1, y2⟩ (.inl ⟨_, a5, rfl, _, rfl⟩)
            ⟨hk _ _ S.TIz S.TITO S.TIi1 S.TIi2 hTI, a3, a4, .inr ⟨s₁.heap.objs.size, false, _, a1, a5, lt hz, n1', n2', Nat.ne_of_gt hds⟩⟩
            fun c o hc e => hk c o (fun x => hc (by simp [x])) (fun x => hc (by simp [x])) (fun x => hc (by simp [x])) (fun x => hc (by simp [x])) e
        · refine pyNext_zipH_item S D1' D2' hz hT hTI h1 h2 hix hiy fun x1 x2 h' tk y1 y2 a1 a3 a4 a5 a6 hk => ?_
          exact hQ s₁.heap.objs.size _ _ h' tk ⟨y1, y2⟩ (.inl ⟨_, a5, rfl, _, rfl⟩)
            ⟨hk _ _ S.TIz S.TIi1 S.TIi2 hTI, a3, a4, .inr ⟨T, true, oT, a1, hk _ _ r1 r2 r3 hT, r1, r2, r3, r4⟩⟩
            fun c o hc e => hk c o (fun x => hc (by simp [x])) (fun x => hc (by simp [x])) (fun x => hc (by simp [x])) e
      done := fun s₁ Q₁ E₁ st hQ => by
        obtain ⟨hTI, h1, h2, hz⟩ := st
        have m1 := Nat.min_le_left n1 n2
        have m2 := Nat.min_le_right n1 n2
        have m3 : min n1 n2 = n1 ∨ min n1 n2 = n2 := by omega
        rcases hz with ⟨hz, a, b, hTO⟩ | ⟨T, f, oT, hz, hT, r1, r2, r3, r4⟩
        · exact wpAny_pyNext_zipD2_end S D1' D2' hz hTI hTO h1 h2 m1 m2 m3 fun h' tk hk => hQ h' tk fun c o hc e => hk c o (fun x => hc (by simp [x])) (fun x => hc (by simp [x])) (fun x => hc (by simp [x])) (fun x => hc (by simp [x])) e
        · exact pyNext_zipH_end S D1' D2' hz hT hTI h1 h2 m1 m2 m3 fun h' tk hk => hQ h' tk fun c o hc e => hk c o (fun x => hc (by simp [x])) (fun x => hc (by simp [x])) (fun x => hc (by simp [x])) e }
end Hn


/-! The plain law of the levels. -/
namespace Hn
open PySem L2
/-- at most level l, or on the way there -/
def levLe (l : Int) : Hr → Bool
  | .out => false
  | .look x => decide (x ≤ l)
  | .put x => decide (x ≤ l)
  | .holds v => decide ((v.length : Int) ≤ l)
/-- a hand and its box -/
def fit (n : Int) (bs : List (Option Int)) (b : Option Int) : Hr → Prop
  | .out => b = none
  | .look l => 1 ≤ l ∧ l ≤ n ∧ b = some l
  | .put l => 1 ≤ l ∧ l + 1 ≤ n ∧ b = some (l + 1)
  | .holds v => 1 ≤ (v.length : Int) ∧ (v.length : Int) ≤ n ∧ b = some (v.length : Int) ∧ v = within bs v.length
structure Good (n : Nat) (bs : List (Option Int)) (hs : List Hr) : Prop where
  lb : bs.length = n
  lh : hs.length = n
  fit : ∀ (j : Nat) (x : Hr), hs[j]? = some x → fit n bs (bs.getD j none) x
  few : ∀ l : Int, 1 ≤ l → l ≤ n → (((List.range n).filter fun i => levLe l (hs.getD i .out)).length : Int) ≤ l
theorem filt_mono {n : Nat} {p q : Nat → Bool} (h : ∀ i, i < n → p i = true → q i = true) : ((List.range n).filter p).length ≤ ((List.range n).filter q).length := by
  rw [← List.countP_eq_length_filter, ← List.countP_eq_length_filter]
  exact List.countP_mono_left fun i hi hp => h i (List.mem_range.mp hi) hp
theorem filt_same {n : Nat} {p q : Nat → Bool} (h : ∀ i, i < n → p i = true → q i = true) (hl : ((List.range n).filter q).length ≤ ((List.range n).filter p).length) : (List.range n).filter q = (List.range n).filter p := by
  have e : (List.range n).filter p = ((List.range n).filter q).filter p := by
    rw [List.filter_filter]
    refine List.filter_congr fun i hi => ?_
    cases hp : p i with
    | false => rfl
    | true => rw [h i (List.mem_range.mp hi) hp]; rfl
  have s : (((List.range n).filter q).filter p).Sublist ((List.range n).filter q) := List.filter_sublist
  rw [← e] at s
  exact (s.eq_of_length_le hl).symm
theorem within_len (bs : List (Option Int)) (l : Int) : (within bs l).length = ((List.range bs.length).filter fun i => inBox l (bs.getD i none)).length := by
  rw [within_range, List.length_map]
theorem getD_eq {α : Type} {xs : List α} {i : Nat} {x d : α} (h : xs[i]? = some x) : xs.getD i d = x := by
  rw [List.getD_eq_getElem?_getD, h]
  rfl
theorem getD_set {α : Type} {xs : List α} {i j : Nat} {x d : α} (h : j < xs.length) : (xs.set j x).getD i d = if i = j then x else xs.getD i d := by
  rw [List.getD_eq_getElem?_getD, List.getD_eq_getElem?_getD]
  by_cases e : i = j
  · subst e
    rw [List.getElem?_set_self h, if_pos rfl]
    rfl
  · rw [List.getElem?_set_ne (fun z => e z.symm), if_neg e]
/-- who stands in a box at l or below is at l or below -/
theorem Good.box {n : Nat} {bs : List (Option Int)} {hs : List Hr} (G : Good n bs hs) {l : Int} {i : Nat} (hi : i < n) (h : inBox l (bs.getD i none) = true) : levLe l (hs.getD i .out) = true := by
  have hx : hs[i]? = some (hs.getD i .out) := getD_at (by rw [G.lh]; exact hi)
  have f := G.fit i _ hx
  generalize hs.getD i .out = x at f
  generalize bs.getD i none = b at f h
  cases x with
  | out =>
    have f : b = none := f
    subst f
    cases h
  | look y =>
    obtain ⟨_, _, rfl⟩ := f
    exact h
  | put y =>
    obtain ⟨_, _, rfl⟩ := f
    have h := of_decide_eq_true h
    exact decide_eq_true (by omega)
  | holds v =>
    obtain ⟨_, _, rfl, _⟩ := f
    exact h
theorem Good.within_le {n : Nat} {bs : List (Option Int)} {hs : List Hr} (G : Good n bs hs) {l : Int} (h1 : 1 ≤ l) (h2 : l ≤ n) : ((within bs l).length : Int) ≤ l := by
  have h := G.few l h1 h2
  have m := filt_mono (n := n) (p := fun i => inBox l (bs.getD i none)) (q := fun i => levLe l (hs.getD i .out)) fun i hi hp => G.box hi hp
  rw [within_len, G.lb]
  omega
/-- a step that keeps the counts, and puts boxes lower only -/
theorem Good.keep {n : Nat} {bs bs' : List (Option Int)} {hs hs' : List Hr} (G : Good n bs hs) (lb : bs'.length = n) (lh : hs'.length = n) (j : Nat) (hj : j < n)
    (low : ∀ i l, inBox l (bs.getD i none) = true → inBox l (bs'.getD i none) = true)
    (other : ∀ i, i ≠ j → bs'.getD i none = bs.getD i none ∧ hs'[i]? = hs[i]?)
    (few : ∀ l : Int, 1 ≤ l → l ≤ n → (((List.range n).filter fun i => levLe l (hs'.getD i .out)).length : Int) ≤ l)
    (box : ∀ l i, i < n → inBox l (bs'.getD i none) = true → levLe l (hs'.getD i .out) = true)
    (new : ∀ x, hs'[j]? = some x → Hn.fit n bs' (bs'.getD j none) x) : Good n bs' hs' where
  lb := lb
  lh := lh
  few := few
  fit := fun i x hx => by
    by_cases e : i = j
    · subst e
      exact new x hx
    · obtain ⟨e1, e2⟩ := other i e
      rw [e1]
      rw [e2] at hx
      have f := G.fit i x hx
      cases x with
      | out => exact f
      | look l => exact f
      | put l => exact f
      | holds v =>
        obtain ⟨f1, f2, f3, f4⟩ := f
        refine ⟨f1, f2, f3, ?_⟩
        have hle := few v.length f1 f2
        have m := filt_mono (n := n) (p := fun i => inBox v.length (bs'.getD i none)) (q := fun i => levLe v.length (hs'.getD i .out)) fun i hi hp => box _ i hi hp
        have lenv : v.length = ((List.range n).filter fun i => inBox v.length (bs.getD i none)).length := by
          have := congrArg List.length f4
          rw [within_len, G.lb] at this
          exact this
        have s := filt_same (n := n) (p := fun i => inBox v.length (bs.getD i none)) (q := fun i => inBox v.length (bs'.getD i none)) (fun i _ hp => low i _ hp) (by omega)
        rw [within_range, lb, s, ← G.lb, ← within_range]
        exact f4
theorem inBox_none (l : Int) : inBox l none = false := rfl
theorem Good.step {n : Nat} {bs : List (Option Int)} {hs : List Hr} (G : Good n bs hs) {j : Nat} (hj : j < n) : Good n (stepB bs hs j) (stepH bs hs j) := by
  obtain ⟨x, hx⟩ : ∃ x, hs[j]? = some x := ⟨_, List.getElem?_eq_getElem (by rw [G.lh]; exact hj)⟩
  have f := G.fit j x hx
  have jb : j < bs.length := by rw [G.lb]; exact hj
  have jh : j < hs.length := by rw [G.lh]; exact hj
  have hD : hs.getD j .out = x := getD_eq hx
  unfold stepB stepH
  rw [hx]
  cases x with
  | holds v => exact G
  | out =>
    show Good n (bs.set j (some (bs.length : Int))) (hs.set j (.look (bs.length : Int)))
    have f : bs.getD j none = none := f
    have gb : ∀ i, (bs.set j (some (bs.length : Int))).getD i none = if i = j then some (n : Int) else bs.getD i none := fun i => by rw [getD_set jb, G.lb]
    have gh : ∀ i, (hs.set j (.look (bs.length : Int))).getD i .out = if i = j then .look (n : Int) else hs.getD i .out := fun i => by rw [getD_set jh, G.lb]
    have n1 : (1 : Int) ≤ n := by omega
    refine G.keep (by rw [List.length_set, G.lb]) (by rw [List.length_set, G.lh]) j hj (fun i l h => ?_) (fun i hi => ⟨by rw [gb, if_neg hi], by rw [List.getElem?_set_ne (fun z => hi z.symm)]⟩) (fun l h1 h2 => ?_) (fun l i hi h => ?_) fun x hx' => ?_
    · rw [gb]
      by_cases e : i = j
      · subst e
        rw [f] at h
        cases h
      · rw [if_neg e]
        exact h
    · by_cases e : l = n
      · have m := List.length_filter_le (fun i => levLe l ((hs.set j (.look (bs.length : Int))).getD i .out)) (List.range n)
        rw [List.length_range] at m
        omega
      · have h := G.few l h1 h2
        have m := filt_mono (n := n) (p := fun i => levLe l ((hs.set j (.look (bs.length : Int))).getD i .out)) (q := fun i => levLe l (hs.getD i .out)) fun i hi hp => by
          rw [gh] at hp
          by_cases ei : i = j
          · rw [if_pos ei] at hp
            have := of_decide_eq_true hp
            omega
          · rw [if_neg ei] at hp
            exact hp
        omega
    · rw [gb] at h
      rw [gh]
      by_cases ei : i = j
      · rw [if_pos ei] at h ⊢
        exact h
      · rw [if_neg ei] at h ⊢
        exact G.box hi h
    · rw [List.getElem?_set_self jh] at hx'
      cases hx'
      rw [gb, if_pos rfl]
      refine ⟨?_, ?_, ?_⟩
      · rw [G.lb]
        exact n1
      · rw [G.lb]
        exact Int.le_refl _
      · rw [G.lb]
  | put y =>
    show Good n (bs.set j (some y)) (hs.set j (.look y))
    obtain ⟨f1, f2, f3⟩ := f
    have gb : ∀ i, (bs.set j (some y)).getD i none = if i = j then some y else bs.getD i none := fun i => getD_set jb
    have gh : ∀ i, (hs.set j (.look y)).getD i .out = if i = j then .look y else hs.getD i .out := fun i => getD_set jh
    refine G.keep (by rw [List.length_set, G.lb]) (by rw [List.length_set, G.lh]) j hj (fun i l h => ?_) (fun i hi => ⟨by rw [gb, if_neg hi], by rw [List.getElem?_set_ne (fun z => hi z.symm)]⟩) (fun l h1 h2 => ?_) (fun l i hi h => ?_) fun x hx' => ?_
    · rw [gb]
      by_cases e : i = j
      · subst e
        rw [f3] at h
        have := of_decide_eq_true h
        rw [if_pos rfl]
        exact decide_eq_true (by omega)
      · rw [if_neg e]
        exact h
    · have h := G.few l h1 h2
      have m := filt_mono (n := n) (p := fun i => levLe l ((hs.set j (.look y)).getD i .out)) (q := fun i => levLe l (hs.getD i .out)) fun i hi hp => by
        rw [gh] at hp
        by_cases ei : i = j
        · rw [if_pos ei] at hp
          rw [ei, hD]
          exact hp
        · rw [if_neg ei] at hp
          exact hp
      omega
    · rw [gb] at h
      rw [gh]
      by_cases ei : i = j
      · rw [if_pos ei] at h ⊢
        exact h
      · rw [if_neg ei] at h ⊢
        exact G.box hi h
    · rw [List.getElem?_set_self jh] at hx'
      cases hx'
      rw [gb, if_pos rfl]
      exact ⟨f1, by omega, rfl⟩
  | look y =>
    show Good n bs (hs.set j (behind bs y))
    obtain ⟨f1, f2, f3⟩ := f
    have gh : ∀ i, (hs.set j (behind bs y)).getD i .out = if i = j then behind bs y else hs.getD i .out := fun i => getD_set jh
    have wle := G.within_le f1 f2
    have hjin : inBox y (bs.getD j none) = true := by
      rw [f3]
      exact decide_eq_true (Int.le_refl _)
    have wpos : 1 ≤ (within bs y).length := by
      rw [within_len, G.lb]
      exact List.length_pos_of_mem (List.mem_filter.mpr ⟨List.mem_range.mpr hj, hjin⟩)
    by_cases hc : y ≤ ((within bs y).length : Int)
    · have eb : behind bs y = .holds (within bs y) := by unfold behind; rw [if_pos hc]
      have el : ((within bs y).length : Int) = y := by omega
      refine G.keep G.lb (by rw [List.length_set, G.lh]) j hj (fun i l h => h) (fun i hi => ⟨rfl, by rw [List.getElem?_set_ne (fun z => hi z.symm)]⟩) (fun l h1 h2 => ?_) (fun l i hi h => ?_) fun x hx' => ?_
      · have h := G.few l h1 h2
        have m := filt_mono (n := n) (p := fun i => levLe l ((hs.set j (behind bs y)).getD i .out)) (q := fun i => levLe l (hs.getD i .out)) fun i hi hp => by
          rw [gh] at hp
          by_cases ei : i = j
          · rw [if_pos ei, eb] at hp
            rw [ei, hD]
            have := of_decide_eq_true hp
            exact decide_eq_true (by omega)
          · rw [if_neg ei] at hp
            exact hp
        omega
      · rw [gh]
        by_cases ei : i = j
        · rw [if_pos ei, eb]
          rw [ei, f3] at h
          have := of_decide_eq_true h
          exact decide_eq_true (by omega)
        · rw [if_neg ei]
          exact G.box hi h
      · rw [List.getElem?_set_self jh, eb] at hx'
        cases hx'
        refine ⟨by omega, by omega, by rw [f3, el], ?_⟩
        rw [el]
    · have eb : behind bs y = .put (y - 1) := by unfold behind; rw [if_neg hc]
      refine G.keep G.lb (by rw [List.length_set, G.lh]) j hj (fun i l h => h) (fun i hi => ⟨rfl, by rw [List.getElem?_set_ne (fun z => hi z.symm)]⟩) (fun l h1 h2 => ?_) (fun l i hi h => ?_) fun x hx' => ?_
      · by_cases e : l = y - 1
        · have m := filt_mono (n := n) (p := fun i => levLe l ((hs.set j (behind bs y)).getD i .out)) (q := fun i => inBox y (bs.getD i none)) fun i hi hp => by
            rw [gh] at hp
            by_cases ei : i = j
            · rw [ei]
              exact hjin
            · rw [if_neg ei] at hp
              have hxi : hs[i]? = some (hs.getD i .out) := getD_at (by rw [G.lh]; exact hi)
              have fi := G.fit i _ hxi
              generalize hs.getD i .out = x at fi hp
              cases x with
              | out => cases hp
              | look z =>
                obtain ⟨_, _, g⟩ := fi
                have := of_decide_eq_true hp
                rw [g]
                exact decide_eq_true (by omega)
              | put z =>
                obtain ⟨_, _, g⟩ := fi
                have := of_decide_eq_true hp
                rw [g]
                exact decide_eq_true (by omega)
              | holds v =>
                obtain ⟨_, _, g, _⟩ := fi
                have := of_decide_eq_true hp
                rw [g]
                exact decide_eq_true (by omega)
          rw [← G.lb, ← within_len, G.lb] at m
          omega
        · have h := G.few l h1 h2
          have m := filt_mono (n := n) (p := fun i => levLe l ((hs.set j (behind bs y)).getD i .out)) (q := fun i => levLe l (hs.getD i .out)) fun i hi hp => by
            rw [gh] at hp
            by_cases ei : i = j
            · rw [if_pos ei, eb] at hp
              rw [ei, hD]
              have := of_decide_eq_true hp
              exact decide_eq_true (by omega)
            · rw [if_neg ei] at hp
              exact hp
          omega
      · rw [gh]
        by_cases ei : i = j
        · rw [if_pos ei, eb]
          rw [ei, f3] at h
          have := of_decide_eq_true h
          exact decide_eq_true (by omega)
        · rw [if_neg ei]
          exact G.box hi h
      · rw [List.getElem?_set_self jh, eb] at hx'
        cases hx'
        refine ⟨by omega, by omega, ?_⟩
        rw [f3]
        congr 1
        omega
theorem getD_rep {α : Type} {n i : Nat} {x d : α} (h : i < n) : (List.replicate n x).getD i d = x := by
  rw [List.getD_eq_getElem?_getD, List.getElem?_replicate, if_pos h]
  rfl
theorem Good.start (n : Nat) : Good n (List.replicate n none) (List.replicate n .out) where
  lb := List.length_replicate
  lh := List.length_replicate
  fit := fun j x hx => by
    have hj := (List.getElem?_eq_some_iff.mp hx).1
    rw [List.length_replicate] at hj
    rw [List.getElem?_replicate, if_pos hj] at hx
    cases hx
    exact getD_rep hj
  few := fun l h1 h2 => by
    have : (List.range n).filter (fun i => levLe l ((List.replicate n Hr.out).getD i .out)) = [] := List.filter_eq_nil_iff.mpr fun i hi => by
      rw [getD_rep (List.mem_range.mp hi)]
      exact Bool.false_ne_true
    rw [this]
    show (0 : Int) ≤ l
    omega
/-! ### the steps that are left -/
def wt (n : Nat) : Hr → Nat
  | .out => 2 * n + 1
  | .look l => 2 * l.toNat
  | .put l => 2 * l.toNat + 1
  | .holds _ => 0
def wts (n : Nat) (hs : List Hr) : Nat := (hs.map (wt n)).sum
theorem sum_set : ∀ {xs : List Nat} {j : Nat} {x y : Nat}, xs[j]? = some x → (xs.set j y).sum + x = xs.sum + y
  | [], j, x, y, h => by simp at h
  | z :: xs, 0, x, y, h => by
    simp only [List.getElem?_cons_zero, Option.some.injEq] at h
    subst h
    rw [List.set_cons_zero, List.sum_cons, List.sum_cons]
    omega
  | z :: xs, j + 1, x, y, h => by
    have := sum_set (xs := xs) (j := j) (x := x) (y := y) (by simpa using h)
    rw [List.set_cons_succ, List.sum_cons, List.sum_cons]
    omega
theorem Good.less {n : Nat} {bs : List (Option Int)} {hs : List Hr} (G : Good n bs hs) {j : Nat} {x : Hr} (hx : hs[j]? = some x) (hd : x.done = false) : wts n (stepH bs hs j) + 1 ≤ wts n hs := by
  have f := G.fit j x hx
  have key : ∀ y : Hr, wt n y + 1 ≤ wt n x → wts n (hs.set j y) + 1 ≤ wts n hs := fun y hy => by
    unfold wts
    rw [List.map_set]
    have := sum_set (xs := hs.map (wt n)) (j := j) (x := wt n x) (y := wt n y) (by rw [List.getElem?_map, hx]; rfl)
    omega
  unfold stepH
  rw [hx]
  cases x with
  | holds v => cases hd
  | out =>
    refine key _ ?_
    rw [G.lb]
    show 2 * ((n : Int)).toNat + 1 ≤ 2 * n + 1
    rw [Int.toNat_natCast]
    exact Nat.le_refl _
  | put l => exact key _ (Nat.le_refl _)
  | look l =>
    obtain ⟨f1, f2, f3⟩ := f
    refine key _ ?_
    unfold behind
    split
    · show 0 + 1 ≤ 2 * l.toNat
      omega
    · show 2 * (l - 1).toNat + 1 + 1 ≤ 2 * l.toNat
      omega
theorem wts_start (n : Nat) : wts n (List.replicate n .out) = n * (2 * n + 1) := by
  unfold wts
  rw [List.map_replicate, List.sum_replicate_nat]
  rfl
theorem wts_pos {n : Nat} {hs : List Hr} {j : Nat} {x : Hr} {bs : List (Option Int)} (G : Good n bs hs) (hx : hs[j]? = some x) (hd : x.done = false) : 1 ≤ wts n hs := by
  have := G.less hx hd
  omega
end Hn


/-! The stand in which every hand holds a view, as a round. -/
namespace Hn
open PySem L2
def sz (ws : List (List Int)) (i : Nat) : Nat := (ws.getD i []).length
structure Fin1 (n : Nat) (ws : List (List Int)) : Prop where
  len : ws.length = n
  pos : ∀ j, j < n → 1 ≤ sz ws j ∧ sz ws j ≤ n
  eq : ∀ j, j < n → ws.getD j [] = ((List.range n).filter fun i => decide (sz ws i ≤ sz ws j)).map Int.ofNat
def viewOf : Hr → List Int
  | .holds v => v
  | _ => []
theorem Good.fin {n : Nat} {bs : List (Option Int)} {hs : List Hr} (G : Good n bs hs) (hd : ∀ x ∈ hs, x.done = true) : ∃ ws, hs = ws.map .holds ∧ bs = ws.map (fun v => some (v.length : Int)) ∧ Fin1 n ws := by
  have e1 : hs = (hs.map viewOf).map .holds := by
    rw [List.map_map]
    conv => lhs; rw [← List.map_id hs]
    refine List.map_congr_left fun x hx => ?_
    have := hd x hx
    cases x with
    | holds v => rfl
    | _ => cases this
  have hv : ∀ j, j < n → hs[j]? = some (.holds ((hs.map viewOf).getD j [])) := fun j hj => by
    have h1 : (hs.map viewOf)[j]? = some ((hs.map viewOf).getD j []) := getD_at (by rw [List.length_map, G.lh]; exact hj)
    conv => lhs; rw [e1]
    rw [List.getElem?_map, h1]
    rfl
  have hf : ∀ j, j < n → 1 ≤ sz (hs.map viewOf) j ∧ sz (hs.map viewOf) j ≤ n ∧ bs.getD j none = some (sz (hs.map viewOf) j : Int) ∧ (hs.map viewOf).getD j [] = within bs (sz (hs.map viewOf) j) := fun j hj => by
    obtain ⟨f1, f2, f3, f4⟩ := G.fit j _ (hv j hj)
    exact ⟨by unfold sz; omega, by unfold sz; omega, f3, f4⟩
  refine ⟨hs.map viewOf, e1, ?_, ⟨by rw [List.length_map, G.lh], fun j hj => ⟨(hf j hj).1, (hf j hj).2.1⟩, fun j hj => ?_⟩⟩
  · refine List.ext_getElem? fun j => ?_
    by_cases hj : j < n
    · have h1 : (hs.map viewOf)[j]? = some ((hs.map viewOf).getD j []) := getD_at (by rw [List.length_map, G.lh]; exact hj)
      rw [getD_at (d := none) (by rw [G.lb]; exact hj), (hf j hj).2.2.1, List.getElem?_map, h1]
      rfl
    · rw [List.getElem?_eq_none (by rw [G.lb]; omega), List.getElem?_eq_none (by rw [List.length_map, List.length_map, G.lh]; omega)]
  · rw [(hf j hj).2.2.2, within_range, G.lb]
    refine congrArg (List.map Int.ofNat) (List.filter_congr fun i hi => ?_)
    rw [(hf i (List.mem_range.mp hi)).2.2.1]
    exact decide_eq_decide.mpr Int.ofNat_le
section
variable {n : Nat} {ws : List (List Int)}
/-- the sizes, once each, rising -/
def szs (n : Nat) (ws : List (List Int)) : List Int := ((List.range (n + 1)).filter fun k => (List.range n).any fun i => decide (sz ws i = k)).map Int.ofNat
def rnd (n : Nat) (ws : List (List Int)) : List (List Int) := (szs n ws).map (ofLen ws)
theorem up_nat {m : Nat} (f : Nat → Bool) : (((List.range m).filter f).map Int.ofNat).Pairwise (· < ·) :=
  List.pairwise_map.mpr ((List.pairwise_lt_range.filter f).imp fun h => Int.ofNat_lt.mpr h)
theorem up_nd {xs : List Int} (h : xs.Pairwise (· < ·)) : xs.Nodup := h.imp fun z => by omega
theorem mem_nat {m : Nat} {f : Nat → Bool} {x : Int} : x ∈ ((List.range m).filter f).map Int.ofNat ↔ ∃ i : Nat, i < m ∧ f i = true ∧ x = (i : Int) := by
  constructor
  · intro h
    obtain ⟨i, hi, rfl⟩ := List.mem_map.mp h
    obtain ⟨h1, h2⟩ := List.mem_filter.mp hi
    exact ⟨i, List.mem_range.mp h1, h2, rfl⟩
  · rintro ⟨i, h1, h2, rfl⟩
    exact List.mem_map.mpr ⟨i, List.mem_filter.mpr ⟨List.mem_range.mpr h1, h2⟩, rfl⟩
theorem szs_up : (szs n ws).Pairwise (· < ·) := up_nat _
theorem Fin1.szs_mem (F : Fin1 n ws) {k : Int} : k ∈ szs n ws ↔ ∃ i : Nat, i < n ∧ k = (sz ws i : Int) := by
  unfold szs
  rw [mem_nat]
  constructor
  · rintro ⟨j, h1, h2, rfl⟩
    obtain ⟨i, h3, h4⟩ := List.any_eq_true.mp h2
    exact ⟨i, List.mem_range.mp h3, by rw [of_decide_eq_true h4]⟩
  · rintro ⟨i, h1, rfl⟩
    have := F.pos i h1
    exact ⟨sz ws i, by omega, List.any_eq_true.mpr ⟨i, List.mem_range.mpr h1, decide_eq_true rfl⟩, rfl⟩
theorem Fin1.szs_len (F : Fin1 n ws) (k : Int) : k ∈ szs n ws ↔ k ∈ ws.map fun v => (v.length : Int) := by
  rw [F.szs_mem, List.mem_map]
  constructor
  · rintro ⟨i, h1, rfl⟩
    exact ⟨_, List.mem_of_getElem? (getD_at (d := []) (by rw [F.len]; exact h1)), rfl⟩
  · rintro ⟨v, hv, rfl⟩
    obtain ⟨i, h1, h2⟩ := List.getElem_of_mem hv
    refine ⟨i, by rw [← F.len]; exact h1, ?_⟩
    unfold sz
    rw [List.getD_eq_getElem?_getD, List.getElem?_eq_getElem h1, h2]
    rfl
theorem szs_short : (szs n ws).length ≤ n + 1 := by
  unfold szs
  have := List.length_filter_le (fun k => (List.range n).any fun i => decide (sz ws i = k)) (List.range (n + 1))
  rw [List.length_range] at this
  rw [List.length_map]
  exact this
theorem Fin1.of_mem (F : Fin1 n ws) {s x : Int} : x ∈ ofLen ws s ↔ ∃ i : Nat, i < n ∧ (sz ws i : Int) = s ∧ x = (i : Int) := by
  unfold ofLen
  rw [mem_nat, F.len]
  constructor
  · rintro ⟨i, h1, h2, h3⟩
    exact ⟨i, h1, of_decide_eq_true h2, h3⟩
  · rintro ⟨i, h1, h2, h3⟩
    exact ⟨i, h1, decide_eq_true h2, h3⟩
theorem of_up (ws : List (List Int)) (s : Int) : (ofLen ws s).Pairwise (· < ·) := up_nat _
theorem Fin1.flat_mem (F : Fin1 n ws) {us : List Int} {x : Int} : x ∈ (us.map (ofLen ws)).flatten ↔ ∃ i : Nat, i < n ∧ (sz ws i : Int) ∈ us ∧ x = (i : Int) := by
  rw [List.mem_flatten]
  constructor
  · rintro ⟨b, hb, hx⟩
    obtain ⟨s, hs, rfl⟩ := List.mem_map.mp hb
    obtain ⟨i, h1, h2, h3⟩ := F.of_mem.mp hx
    exact ⟨i, h1, by rw [h2]; exact hs, h3⟩
  · rintro ⟨i, h1, h2, h3⟩
    exact ⟨_, List.mem_map_of_mem h2, F.of_mem.mpr ⟨i, h1, rfl, h3⟩⟩
theorem Fin1.flat_nd (F : Fin1 n ws) : ∀ {us : List Int}, us.Nodup → (us.map (ofLen ws)).flatten.Nodup
  | [], _ => List.Pairwise.nil
  | s :: us, h => by
    obtain ⟨h1, h2⟩ := List.nodup_cons.mp h
    rw [List.map_cons, List.flatten_cons]
    refine List.nodup_append.mpr ⟨up_nd (of_up ws s), F.flat_nd h2, ?_⟩
    rintro a ha b hb rfl
    obtain ⟨i, i1, i2, i3⟩ := F.of_mem.mp ha
    obtain ⟨j, j1, j2, j3⟩ := F.flat_mem.mp hb
    have : i = j := by omega
    subst this
    rw [i2] at j2
    exact h1 j2
theorem rng_up (n : Nat) : ((List.range n).map Int.ofNat).Pairwise (· < ·) := List.pairwise_map.mpr (List.pairwise_lt_range.imp fun h => Int.ofNat_lt.mpr h)
theorem Fin1.flat_sort (F : Fin1 n ws) : sortI (rnd n ws).flatten = (List.range n).map Int.ofNat := by
  refine sort_up (F.flat_nd (up_nd szs_up)) (rng_up n) fun k => ?_
  unfold rnd
  rw [F.flat_mem, List.mem_map]
  constructor
  · rintro ⟨i, hi, rfl⟩
    exact ⟨i, List.mem_range.mp hi, F.szs_mem.mpr ⟨i, List.mem_range.mp hi, rfl⟩, rfl⟩
  · rintro ⟨i, h1, _, rfl⟩
    exact ⟨i, List.mem_range.mpr h1, rfl⟩
theorem Fin1.flat_len (F : Fin1 n ws) : (rnd n ws).flatten.length = n := by
  have := (sortI_perm (rnd n ws).flatten).length_eq
  rw [F.flat_sort, List.length_map, List.length_range] at this
  exact this.symm
theorem Fin1.nd (F : Fin1 n ws) : (rnd n ws).flatten.Nodup := F.flat_nd (up_nd szs_up)
theorem take_up {us : List Int} (h : us.Pairwise (· < ·)) {k : Nat} {s x : Int} (hk : us[k]? = some s) : x ∈ us.take (k + 1) ↔ x ∈ us ∧ x ≤ s := by
  obtain ⟨hk1, rfl⟩ := List.getElem?_eq_some_iff.mp hk
  constructor
  · intro hx
    refine ⟨List.mem_of_mem_take hx, ?_⟩
    rw [List.mem_take_iff_getElem] at hx
    obtain ⟨i, hi, rfl⟩ := hx
    rcases Nat.lt_or_eq_of_le (show i ≤ k by omega) with z | z
    · have := List.pairwise_iff_getElem.mp h i k (by omega) hk1 z
      omega
    · subst z
      exact Int.le_refl _
  · rintro ⟨hx, hle⟩
    obtain ⟨i, hi, rfl⟩ := List.getElem_of_mem hx
    rw [List.mem_take_iff_getElem]
    refine ⟨i, ?_, rfl⟩
    by_cases z : k < i
    · have := List.pairwise_iff_getElem.mp h k i hk1 hi z
      omega
    · omega
theorem Fin1.seen (F : Fin1 n ws) {j : Nat} (hj : j < n) : SeenAt (rnd n ws) j (ws.getD j []) := by
  obtain ⟨k, hk⟩ := List.getElem?_of_mem (F.szs_mem.mpr ⟨j, hj, rfl⟩)
  refine ⟨k, ofLen ws (sz ws j), by unfold rnd; rw [List.getElem?_map, hk]; rfl, F.of_mem.mpr ⟨j, hj, rfl, rfl⟩, fun i c hi hc hm => ?_, ?_⟩
  · unfold rnd at hc
    rw [List.getElem?_map] at hc
    obtain ⟨s, hs, rfl⟩ := Option.map_eq_some_iff.mp hc
    obtain ⟨j', h1, h2, h3⟩ := F.of_mem.mp hm
    have : j = j' := by omega
    subst this
    obtain ⟨a, a'⟩ := List.getElem?_eq_some_iff.mp hs
    obtain ⟨b, b'⟩ := List.getElem?_eq_some_iff.mp hk
    have := List.pairwise_iff_getElem.mp (szs_up (n := n) (ws := ws)) i k a b hi
    omega
  · have e : ((rnd n ws).take (k + 1)).flatten = (((szs n ws).take (k + 1)).map (ofLen ws)).flatten := by
      unfold rnd
      rw [List.map_take]
    rw [e]
    refine (sort_up (F.flat_nd (up_nd ((szs_up (n := n) (ws := ws)).sublist (List.take_sublist _ _)))) ?_ fun x => ?_).symm
    · rw [F.eq j hj]
      exact up_nat _
    · rw [F.eq j hj, mem_nat, F.flat_mem]
      constructor
      · rintro ⟨i, h1, h2, rfl⟩
        have h2 := of_decide_eq_true h2
        exact ⟨i, h1, (take_up szs_up hk).mpr ⟨F.szs_mem.mpr ⟨i, h1, rfl⟩, Int.ofNat_le.mpr h2⟩, rfl⟩
      · rintro ⟨i, h1, h2, rfl⟩
        have := ((take_up szs_up hk).mp h2).2
        exact ⟨i, h1, decide_eq_true (Int.ofNat_le.mp this), rfl⟩
theorem Fin1.round (F : Fin1 n ws) (h1 : 1 ≤ n) (h2 : n < 60) : R_is_round [.int n, encR (rnd n ws)] (.bl true) := by
  refine ⟨n, rnd n ws, rfl, ?_, ?_, fun b hb => ?_, by rw [F.flat_len]; omega, by rw [F.flat_sort]; exact rng_up n, rfl⟩
  · intro e
    have := F.flat_len
    rw [e] at this
    simp at this
    omega
  · unfold rnd
    rw [List.length_map]
    have := szs_short (n := n) (ws := ws)
    omega
  · unfold rnd at hb
    obtain ⟨s, hs, rfl⟩ := List.mem_map.mp hb
    obtain ⟨i, i1, i2⟩ := F.szs_mem.mp hs
    refine ⟨n, ofLen ws s, rfl, ?_, ?_, of_up ws s, fun x hx => ?_, rfl⟩
    · exact List.ne_nil_of_mem (F.of_mem.mpr ⟨i, i1, i2.symm, rfl⟩)
    · unfold ofLen
      have := List.length_filter_le (fun i => decide (((ws.getD i []).length : Int) = s)) (List.range ws.length)
      rw [List.length_range, F.len] at this
      rw [List.length_map, F.len]
      omega
    · obtain ⟨j, j1, _, rfl⟩ := F.of_mem.mp hx
      omega
theorem Fin1.self (F : Fin1 n ws) {j : Nat} (hj : j < n) : (j : Int) ∈ ws.getD j [] := by
  rw [F.eq j hj, mem_nat]
  exact ⟨j, hj, decide_eq_true (Nat.le_refl _), rfl⟩
theorem Fin1.view_up (F : Fin1 n ws) {j : Nat} (hj : j < n) : (ws.getD j []).Pairwise (· < ·) := by
  rw [F.eq j hj]
  exact up_nat _
theorem Fin1.view_in (F : Fin1 n ws) {j : Nat} (hj : j < n) {g : Int} (hg : g ∈ ws.getD j []) : 0 ≤ g ∧ g < n := by
  rw [F.eq j hj, mem_nat] at hg
  obtain ⟨i, h1, _, rfl⟩ := hg
  omega
end
end Hn


/-! The names. -/
namespace Hn
open PySem L2
def tri (s : Nat) : Nat := s * (s - 1) / 2
theorem tri_succ (s : Nat) : tri (s + 1) = tri s + s := by
  unfold tri
  have e : (s + 1) * (s + 1 - 1) = s * (s - 1) + 2 * s := by
    cases s with
    | zero => rfl
    | succ s =>
      simp only [Nat.add_sub_cancel, Nat.add_mul, Nat.mul_add, Nat.one_mul, Nat.mul_one]
      omega
  rw [e, Nat.add_mul_div_left _ _ (by decide)]
theorem tri_mono {s t : Nat} (h : s ≤ t) : tri s ≤ tri t := by
  induction h with
  | refl => exact Nat.le_refl _
  | @step m h ih =>
    have : tri (Nat.succ m) = tri m + m := tri_succ m
    omega
theorem tyL_tri : ∀ n, (tyL n).length = tri (n + 1)
  | 0 => rfl
  | n + 1 => by
    rw [tyL_snoc, List.length_append, List.length_map, List.length_range, tyL_tri n, tri_succ (n + 1)]
theorem tyL_idx : ∀ {n s j : Nat}, s ≤ n → j < s → (tyL n)[tri s + j]? = some (j, s)
  | 0, s, j, h, hj => by omega
  | n + 1, s, j, h, hj => by
    rw [tyL_snoc]
    rcases Nat.lt_or_eq_of_le h with z | z
    · have ih := tyL_idx (n := n) (show s ≤ n by omega) hj
      rw [List.getElem?_append_left (List.getElem?_eq_some_iff.mp ih).1]
      exact ih
    · subst z
      rw [List.getElem?_append_right (by rw [tyL_tri]; omega), tyL_tri, Nat.add_sub_cancel_left, List.getElem?_map, List.getElem?_range hj]
      rfl
theorem way_mem {n s j : Nat} (h : s ≤ n) (hj : j < s) : (kindD j s, ((tri s + j : Nat) : Int) + 1) ∈ wayK n := by
  have := tyL_idx h hj
  refine List.mem_map.mpr ⟨((j, s), tri s + j), List.mem_of_getElem? (i := tri s + j) ?_, rfl⟩
  rw [List.getElem?_zipIdx, this]
  simp
def nameI (gs v : List Int) (j : Nat) : Int := (v.length : Int) * ((v.length : Int) - 1) / 2 + (rkOf gs v j : Int) + 1
theorem tri_int {s : Nat} (h : 1 ≤ s) : (s : Int) * ((s : Int) - 1) / 2 = (tri s : Int) := by
  unfold tri
  have e : (s : Int) - 1 = ((s - 1 : Nat) : Int) := by omega
  rw [e, ← Int.natCast_mul]
  rfl
theorem nameI_nat {gs v : List Int} {j : Nat} (h : 1 ≤ v.length) : nameI gs v j = ((tri v.length + rkOf gs v j : Nat) : Int) + 1 := by
  unfold nameI
  rw [tri_int h]
  omega
theorem rk_lt {gs v : List Int} {g : Int} (h : g ∈ v) : rkOf gs v g < v.length := by
  unfold rkOf
  have := List.length_filter_lt_length_iff_exists (l := v) (p := fun i => decide (gsAt gs i < gsAt gs g))
  exact this.mpr ⟨g, h, by simp⟩
theorem rk_mono {gs v : List Int} {a b : Int} (ha : a ∈ v) (h : gsAt gs a < gsAt gs b) : rkOf gs v a < rkOf gs v b := by
  unfold rkOf
  have e : v.filter (fun i => decide (gsAt gs i < gsAt gs a)) = (v.filter fun i => decide (gsAt gs i < gsAt gs b)).filter fun i => decide (gsAt gs i < gsAt gs a) := by
    rw [List.filter_filter]
    refine List.filter_congr fun i _ => ?_
    by_cases hi : gsAt gs i < gsAt gs a
    · have : gsAt gs i < gsAt gs b := by omega
      simp [hi, this]
    · simp [hi]
  rw [e]
  exact List.length_filter_lt_length_iff_exists.mpr ⟨a, List.mem_filter.mpr ⟨ha, decide_eq_true h⟩, by simp⟩
section
variable {n : Nat} {ws : List (List Int)} {gs : List Int}
def due (gs : List Int) (n : Nat) (ws : List (List Int)) : List Int := (List.range n).map fun j => nameI gs (ws.getD j []) j
theorem gsAt_nat (gs : List Int) (i : Nat) : gsAt gs (i : Int) = gs.getD i 0 := by
  unfold gsAt
  rw [Int.toNat_natCast]
theorem gs_inj (hg : gs.Nodup) {i j : Nat} (hi : i < gs.length) (hj : j < gs.length) (h : gs.getD i 0 = gs.getD j 0) : i = j := by
  rw [List.getD_eq_getElem?_getD, List.getD_eq_getElem?_getD, List.getElem?_eq_getElem hi, List.getElem?_eq_getElem hj] at h
  have h : gs[i] = gs[j] := h
  rcases Nat.lt_trichotomy i j with z | z | z
  · exact absurd h (List.pairwise_iff_getElem.mp hg i j hi hj z)
  · exact z
  · exact absurd h.symm (List.pairwise_iff_getElem.mp hg j i hj hi z)
theorem tri_inj {s t a b : Nat} (ha : a < s) (hb : b < t) (h : tri s + a = tri t + b) : s = t ∧ a = b := by
  have key : ∀ {s t a b : Nat}, a < s → tri s + a = tri t + b → ¬ s < t := fun {s t a b} ha h z => by
    have h1 := tri_mono (show s + 1 ≤ t from z)
    rw [tri_succ] at h1
    omega
  have h1 := key ha h
  have h2 := key hb h.symm
  have e : s = t := by omega
  subst e
  omega
theorem Fin1.same (F : Fin1 n ws) {i j : Nat} (hi : i < n) (hj : j < n) (h : sz ws i = sz ws j) : ws.getD i [] = ws.getD j [] := by rw [F.eq i hi, F.eq j hj, h]
theorem Fin1.due_inj (F : Fin1 n ws) (hl : gs.length = n) (hg : gs.Nodup) {i j : Nat} (hi : i < n) (hj : j < n) (h : nameI gs (ws.getD i []) i = nameI gs (ws.getD j []) j) : i = j := by
  rw [nameI_nat (F.pos i hi).1, nameI_nat (F.pos j hj).1] at h
  have h : tri (ws.getD i []).length + rkOf gs (ws.getD i []) i = tri (ws.getD j []).length + rkOf gs (ws.getD j []) j := by omega
  obtain ⟨h1, h2⟩ := tri_inj (rk_lt (F.self hi)) (rk_lt (F.self hj)) h
  have e := F.same hi hj h1
  rw [e] at h2
  have mi : (i : Int) ∈ ws.getD j [] := by rw [← e]; exact F.self hi
  have mj := F.self hj
  refine gs_inj hg (by omega) (by omega) ?_
  have a1 := gsAt_nat gs i
  have a2 := gsAt_nat gs j
  rcases Int.lt_trichotomy (gsAt gs i) (gsAt gs j) with z | z | z
  · have := rk_mono mi z
    omega
  · omega
  · have := rk_mono mj z
    omega
theorem Fin1.due_nd (F : Fin1 n ws) (hl : gs.length = n) (hg : gs.Nodup) : (due gs n ws).Nodup := by
  unfold due
  refine List.pairwise_map.mpr ?_
  have : (List.range n).Pairwise fun i j => i < n ∧ j < n ∧ i ≠ j := by
    refine List.pairwise_iff_getElem.mpr fun i j hi hj hij => ?_
    rw [List.length_range] at hi hj
    rw [List.getElem_range, List.getElem_range]
    exact ⟨hi, hj, Nat.ne_of_lt hij⟩
  exact this.imp fun ⟨a, b, c⟩ e => c (F.due_inj hl hg a b e)
theorem Fin1.gs_nd (F : Fin1 n ws) (hl : gs.length = n) (hg : gs.Nodup) {j : Nat} (hj : j < n) : ((ws.getD j []).map (gsAt gs)).Nodup := by
  refine List.pairwise_map.mpr ?_
  have h1 := up_nd (F.view_up hj)
  refine List.Pairwise.imp_of_mem (fun {a b} ha hb hne e => hne ?_) h1
  obtain ⟨a1, a2⟩ := F.view_in hj ha
  obtain ⟨b1, b2⟩ := F.view_in hj hb
  have := gs_inj hg (i := a.toNat) (j := b.toNat) (by omega) (by omega) e
  omega
theorem Fin1.type (F : Fin1 n ws) (hl : gs.length = n) (hg : gs.Nodup) (hn : n < 60) {j : Nat} (hj : j < n) : R_type_of [.tup (gs.map .int), encV j (ws.getD j [])] (kindD (rkOf gs (ws.getD j []) j) (ws.getD j []).length) := by
  refine ⟨gs, ws.getD j [], j, rfl, F.self hj, F.view_up hj, ?_, fun g hg' => ?_, F.gs_nd hl hg hj, rfl⟩
  · have := (F.pos j hj).2
    unfold sz at this
    omega
  · rw [hl]
    exact F.view_in hj hg'
theorem Fin1.named (F : Fin1 n ws) {j : Nat} (hj : j < n) : (kindD (rkOf gs (ws.getD j []) j) (ws.getD j []).length, nameI gs (ws.getD j []) j) ∈ wayK n := by
  rw [nameI_nat (F.pos j hj).1]
  exact way_mem (F.pos j hj).2 (rk_lt (F.self hj))
/-- the views as places -/
def nats (n : Nat) (ws : List (List Int)) : List (List Nat) := (List.range n).map fun j => (List.range n).filter fun i => decide (sz ws i ≤ sz ws j)
theorem Fin1.nats_eq (F : Fin1 n ws) : ws = (nats n ws).map asI := by
  unfold nats
  rw [List.map_map]
  refine List.ext_getElem? fun j => ?_
  rw [List.getElem?_map]
  by_cases hj : j < n
  · rw [getD_at (d := []) (by rw [F.len]; exact hj), List.getElem?_range hj, F.eq j hj]
    rfl
  · rw [List.getElem?_eq_none (by rw [F.len]; omega), List.getElem?_eq_none (by rw [List.length_range]; omega)]
    rfl
theorem Fin1.due_eq (F : Fin1 n ws) : (nats n ws).zipIdx.map (fun p => nameOf gs p.2 p.1) = due gs n ws := by
  refine List.ext_getElem? fun j => ?_
  unfold due
  rw [List.getElem?_map, List.getElem?_map, List.getElem?_zipIdx]
  by_cases hj : j < n
  · rw [List.getElem?_range hj]
    unfold nats
    rw [List.getElem?_map, List.getElem?_range hj]
    simp only [Option.map_some, Nat.zero_add]
    refine congrArg some ?_
    rw [F.eq j hj]
    unfold nameOf nameI rkOf
    rw [List.filter_map, List.length_map, List.length_map]
    have e : ((List.range n).filter fun i => decide (sz ws i ≤ sz ws j)).filter ((fun i : Int => decide (gsAt gs i < gsAt gs (j : Int))) ∘ Int.ofNat) = ((List.range n).filter fun i => decide (sz ws i ≤ sz ws j)).filter fun i => decide (gs.getD i 0 < gs.getD j 0) := by
      refine List.filter_congr fun i _ => ?_
      show decide (gsAt gs (i : Int) < gsAt gs (j : Int)) = _
      rw [gsAt_nat, gsAt_nat]
    rw [e]
  · unfold nats
    rw [List.getElem?_map, List.getElem?_eq_none (l := List.range n) (by rw [List.length_range]; omega)]
    rfl
theorem due_len : (due gs n ws).length = n := by
  unfold due
  rw [List.length_map, List.length_range]
end
end Hn


namespace Hn
open PySem L2
section
variable {X : Cx}
def rRng1 : List V → Hp → VK → Prop := fun vs H Q => ∃ j : Int, vs = [.int j] ∧ ∀ p, H p = none → Q (.ref p) (upd H p (.rng 0 j))
theorem cr_range1 : CallR X (.type "range") rRng1 := fun pins s σ H vs us Q I r ⟨j, ev, q⟩ => by
  subst ev
  obtain ⟨u, rfl, ⟨t, rfl⟩⟩ := vals1 r
  exact call_range_1 ⟨.ref s.heap.objs.size, upd H s.heap.objs.size (.rng 0 j), I.laid (t' := s.toks + 1 + 1) (fun b o e => Heap.get?_push_of_some _ e) (Nat.le_refl _) ⟨s.toks, t, s.toks + 1, Heap.get?_push_size _ rfl⟩, rfl, q _ (I.hok.fresh (Nat.le_refl _))⟩
/-- the pairs (i, xs[i]) -/
def numV (ns : List Int) : List (Key × V) := ns.zipIdx.map fun p => (Sum.inl (p.2 : Int), V.int p.1)
theorem kv_num : ∀ {ns : List Int} {its : List Value} (k : Nat), Vals (ns.map V.int) its → KV ((ns.zipIdx k).map fun p => ((Sum.inl (p.2 : Int) : Key), V.int p.1)) ((its.zipIdx k).map fun p => ((Sum.inl (p.2 : Int) : Key), p.1))
  | [], _, k, r => by
    cases r
    exact .nil
  | n :: ns, its, k, r => by
    rw [List.map_cons] at r
    cases r with
    | cons h t =>
      rw [List.zipIdx_cons, List.zipIdx_cons, List.map_cons, List.map_cons]
      exact .cons ⟨rfl, h⟩ (kv_num (k + 1) t)
theorem num_keys : ∀ (ns : List Int) (k : Nat), (((ns.zipIdx k).map fun p => ((Sum.inl (p.2 : Int) : Key), V.int p.1)).map (·.1)) = (List.range' k ns.length).map fun i : Nat => (Sum.inl (i : Int) : Key)
  | [], k => rfl
  | n :: ns, k => by
    rw [List.zipIdx_cons, List.map_cons, List.map_cons, num_keys ns (k + 1), List.length_cons, List.range'_succ, List.map_cons]
theorem num_nd (ns : List Int) : ((numV ns).map (·.1)).Nodup := by
  unfold numV
  rw [num_keys]
  exact List.pairwise_map.mpr ((List.pairwise_lt_range' : (List.range' 0 ns.length).Pairwise (· < ·)).imp fun hne e => absurd (Int.ofNat_inj.mp (Sum.inl.inj e)) (Nat.ne_of_lt hne))
theorem sepZ (N l : Nat) (hl : l < N) : ZipSep2 (N + 4) (N + 2) (N + 3) N (N + 1) [N] [N + 1, l] where
  TIz := by show (N + 2 : Nat) ≠ N + 4; omega
  TOz := by show (N + 3 : Nat) ≠ N + 4; omega
  TITO := by show (N + 2 : Nat) ≠ N + 3; omega
  TIi1 := by show (N + 2 : Nat) ≠ N; omega
  mem1 := List.mem_singleton.mpr rfl
  zf1 := fun h => by
    have h : (N + 4 : Nat) = N := List.mem_singleton.mp h
    omega
  Tf1 := fun h => by
    have h : (N + 3 : Nat) = N := List.mem_singleton.mp h
    omega
  TIi2 := by show (N + 2 : Nat) ≠ N + 1; omega
  mem2 := List.mem_cons_self
  zf2 := fun h => by
    rcases List.mem_cons.mp h with h | h
    · have h : (N + 4 : Nat) = N + 1 := h
      omega
    · have h : (N + 4 : Nat) = l := List.mem_singleton.mp h
      omega
  Tf2 := fun h => by
    rcases List.mem_cons.mp h with h | h
    · have h : (N + 3 : Nat) = N + 1 := h
      omega
    · have h : (N + 3 : Nat) = l := List.mem_singleton.mp h
      omega
  sep1_2 := fun h => by
    rcases List.mem_cons.mp h with h | h
    · have h : (N : Nat) = N + 1 := h
      omega
    · have h : (N : Nat) = l := List.mem_singleton.mp h
      omega
  sep2_1 := fun h => by
    have h : (N + 1 : Nat) = N := List.mem_singleton.mp h
    omega
def tDictZip (K : PySem.W.Frag) (ta : TA) : TE := fun σ H Q => ta σ H fun vs H1 => ∃ (r l : Addr) (ns : List Int), vs = [.ref r, .ref l] ∧ H1 r = some (.rng 0 (ns.length : Int)) ∧ SqL K H1 l (ns.map V.int) ∧ ns.length ≤ 1000 ∧ ∀ p, H1 p = none → Q (.ref p) (upd H1 p (.dK (numV ns)))
theorem pe_dictZip {e e2 : Expr} {ta : TA} {p p2 q pos : Pos} (hg : Gl X "dict") (hm : X.mg "dict" = none) (hg2 : Gl X "zip") (hm2 : X.mg "zip" = none) (ha : PA X [e, e2] ta) (hc : X.calm = true := by rfl)
    (na : starEach [.Call (.Name "zip" p2) [e, e2] [] q] X.env = (false, eval (.Call (.Name "zip" p2) [e, e2] [] q) X.env) :: starEach [] X.env := by rfl)
    (hs : starEach [e, e2] X.env = (false, eval e X.env) :: starEach [e2] X.env := by rfl) (hpl : (backTo q (starEach [e2] X.env)).any (·.1) = false := by rfl) :
    PE X (.Call (.Name "dict" p) [.Call (.Name "zip" p2) [e, e2] [] q] [] pos) (tDictZip X.K ta) := by
  refine ⟨fun pins s σ H Q I h => ?_⟩
  refine PyProof.Rows.Call_ (ld_blt I hg hm PyProof.Rows.boot_dict ?_)
  refine PyProof.Rows.callWith_type1 (PyProof.Rows.args_cons ?_ na) na rfl
  refine PyProof.Rows.Call_ (ld_blt I hg2 hm2 PyProof.Rows.boot_zip (PyProof.Rows.callWith_type1 (thn (ha.run q pins s σ H _ I h) fun us s1 ⟨vs, H1, I1, r1, q1⟩ => ?_) hs hpl))
  obtain ⟨r, l, ns, ex, hr, hq, hn, q1⟩ := q1
  subst ex
  cases r1 with
  | cons a1 rr =>
    cases rr with
    | cons a2 rr =>
      cases rr
      cases a1
      cases a2
      obtain ⟨t, u, v, hro⟩ := (show ObjOk X.prog X.w H1 s1.heap r (.rng 0 (ns.length : Int)) from I1.hok r _ hr)
      obtain ⟨its, rv, p1, _⟩ := I1.list hq
      have hlen : its.length = ns.length := by rw [← rv.length, List.length_map]
      have hll := p1.lt
      refine zip_begins2 (begins_range r ns.length t u v (by omega)) (begins_list l its.toArray) hro p1.isList fun h' hz hTI hTO h1 h2 hsz hk => PyProof.Rows.args_nil ?_
      have ne : ∀ c k : Nat, c < s1.heap.objs.size → c ≠ s1.heap.objs.size + k := fun c k hc => by omega
      have S : ZipSep2 (s1.heap.objs.size + 4) (s1.heap.objs.size + 2) (s1.heap.objs.size + 3) s1.heap.objs.size (s1.heap.objs.size + 1) [s1.heap.objs.size] [s1.heap.objs.size + 1, l] :=
        sepZ _ _ hll
      have st1 : RgSt s1.heap.objs.size ns.length 0 h' := by
        unfold RgSt
        have e1 : ((0 : Nat) : Int) = 0 := rfl
        rw [e1, Int.sub_zero]
        exact h1
      have hli : h'.IsListIter (s1.heap.objs.size + 1) l 0 := ⟨_, h2, rfl, rfl⟩
      have hl' : h'.IsList l its.toArray := p1.isList.at fun o e => hk _ _ e
      have PA2 := pairArgZ (prog := X.prog) (w := X.w) S (fun A hA => drawsRange hA s1.heap.objs.size ns.length) (fun A hA => Draws.list hA (s1.heap.objs.size + 1) l (Nat.ne_of_lt (Nat.lt_succ_of_lt hll)) its.toArray)
        (fun i h h'' st hkk => hkk _ (by simp) _ st) (fun i h h'' st hkk => ⟨st.1.at fun o e => hkk _ (by simp) o e, st.2.at fun o e => hkk _ (by simp) o e⟩)
        (fun i h st b hb => by
          obtain rfl := List.mem_singleton.mp hb
          exact ⟨_, st⟩)
        (fun i h st b hb => by
          simp only [List.mem_cons, List.not_mem_nil, or_false] at hb
          rcases hb with rfl | rfl
          · exact let ⟨o, ho, _⟩ := st.1; ⟨o, ho⟩
          · exact let ⟨o, ho, _⟩ := st.2; ⟨o, ho⟩)
      have hmin : min ns.length its.toArray.size = ns.length := by rw [List.size_toArray, hlen, Nat.min_self]
      refine PySem.call_dict_pairs (knd := mixKind X.prog X.w) (kvs := its.zipIdx.map fun p => ((Sum.inl (p.2 : Int) : Key), p.1)) PA2 (I1.ok.hd hc) ⟨hz, hTI, ⟨_, _, hTO⟩, st1, hli, hl'⟩ ⟨by rw [List.length_map, List.length_zipIdx, hmin, hlen], ?_⟩ (by rw [hmin]; exact Nat.le_trans hn (by decide)) fun h'' tk hd' hk2 => ?_
      · rintro i key v ⟨⟨t', rfl⟩, hv⟩
        have hv' : its[i]? = some v := by simpa using hv
        refine ⟨Sum.inl (i : Int), ?_, ?_⟩
        · rw [List.getElem?_map, List.getElem?_zipIdx, hv']
          simp
        · show Value.isInt (i : Int) (.int (i : Int) t') = true
          simp [Value.isInt]
      · have hbig : (h'.objs.size == sysModules) = false := beq_eq_false_iff_ne.mpr (Nat.ne_of_gt (Nat.lt_of_lt_of_le I1.big (by rw [hsz]; exact Nat.le_add_right _ _)))
        have hkk : ∀ b o, s1.heap.get? b = some o → h''.get? b = some o := fun b o e => by
          have hb := Heap.lt_size e
          refine hk2 b o ?_ (hk b o e)
          have out : ∀ k : Nat, b ≠ s1.heap.objs.size + k := fun k => Nat.ne_of_lt (Nat.lt_of_lt_of_le hb (Nat.le_add_right _ k))
          intro hm
          simp only [List.mem_cons, List.not_mem_nil, or_false] at hm
          rcases hm with z | z | z | z
          · exact out 4 z
          · exact out 3 z
          · exact out 0 z
          · exact out 1 z
        have hfree : H1 h'.objs.size = none := I1.hok.fresh (by rw [hsz]; omega)
        refine ⟨.ref h'.objs.size, upd H1 h'.objs.size (.dK (numV ns)), I1.laid (t' := tk) hkk (by rw [hsz]; omega) (show ObjOk X.prog X.w _ _ _ (.dK (numV ns)) from ⟨?_, hbig, _, ?_, hd'⟩), rfl, q1 _ hfree⟩
        · unfold numV
          rw [List.length_map, List.length_zipIdx]
          exact Nat.le_trans hn (by decide)
        · have := KV.merge (kv_num 0 rv) (kvs := []) (vs := []) .nil
          rw [mergeK_nd _ [] (by rw [List.nil_append]; exact num_nd ns), List.nil_append] at this
          exact this
end
section
variable {K : PySem.W.Frag} {ρ : List (Option D)} {H : Hp} {ta tb te td : TE} {p l : Addr} {ns : List Int}
theorem zipK_num : ∀ (ns : List Int) (k : Nat), zipK ((ns.zipIdx k).map fun p => ((p.2 : Int), D.int p.1)) (ns.map V.int) = (ns.zipIdx k).map fun p => ((Sum.inl (p.2 : Int) : Key), V.int p.1)
  | [], _ => rfl
  | n :: ns, k => by
    rw [List.zipIdx_cons, List.map_cons, List.map_cons, List.map_cons, ← zipK_num ns (k + 1)]
    rfl
/-- dict(zip(range(n), xs)) -/
theorem ex_dictZip (hL : Lst H l (ns.map .int)) (hn : ns.length ≤ 1000) (ha : Ev ta ρ H (.int (ns.length : Nat))) (hb : Ev tb ρ H (.ptr l)) : EvX (tDictZip K (tCons (tCB rRng1 (tCons ta tNil)) (tCons tb tNil))) ρ H (fun p H => DicI p (ns.zipIdx.map fun p => ((p.2 : Int), D.int p.1)) H) := fun σ H1 Q a En q =>
  ha σ H1 _ a En fun v H2 e2 t2 => ⟨(ns.length : Nat), by rw [t2.invI], fun r hr => by
    have e3 := Evl.Ex.new (o := .rng 0 (ns.length : Nat)) hr
    refine hb σ _ _ ((a.trans e2).trans e3) ((En.ex e2).ex e3) fun u H4 e4 t4 => ?_
    obtain ⟨xs, h1, h2⟩ := hL.ex (((a.trans e2).trans e3).trans e4)
    have h2 := h2.ints
    subst h2
    refine ⟨r, l, ns, by rw [t4.invP], e4 _ _ upd_same, SqL.of h1, hn, fun p hp => ?_⟩
    refine q p _ (fresh_back ((e2.trans e3).trans e4) hp) (((e2.trans e3).trans e4).trans (Evl.Ex.new hp)) ⟨ns.map V.int, ?_, ?_⟩
    · rw [upd_same]
      exact congrArg (fun z => some (HO.dK z)) (zipK_num ns 0).symm
    · rw [List.map_map]
      have e : ns.zipIdx.map ((fun x => x.2) ∘ fun p : Int × Nat => ((p.2 : Int), D.int p.1)) = ns.map D.int := by
        have := congrArg (List.map D.int) (fst_zipIdx ns 0)
        rw [List.map_map] at this
        exact this
      rw [e]
      exact Tps.ofInts ns⟩
/-- len(set(xs)) of numbers that differ -/
theorem ev_lenSet (hL : Lst H l (ns.map .int)) (hn : ns.length ≤ 1000) (nd : ns.Nodup) (hb : Ev tb ρ H (.ptr l)) : Ev (RZ.tLenSetI K tb) ρ H (.int (ns.length : Nat)) := fun σ H1 Q a En q => hb σ H1 _ a En fun u H4 e4 t4 => by
  obtain ⟨xs, h1, h2⟩ := hL.ex (a.trans e4)
  have h2 := h2.ints
  subst h2
  exact ⟨l, ns, t4.invP, SqL.of h1, nd, by omega, q _ H4 e4 (.int _)⟩
/-- two dicts of the same pairs are not != -/
theorem ev_neDic {kvs lvs : List (Int × Int)} (ndl : (lvs.map (·.1)).Nodup) (hl : kvs.length = lvs.length) (hm : ∀ kv ∈ kvs, kv ∈ lvs) (hD : DicI p (kvs.map fun kv => (kv.1, D.int kv.2)) H) (ha : Ev ta ρ H (.ptr p)) (hb : EvX tb ρ H (fun r H => DicI r (lvs.map fun kv => (kv.1, D.int kv.2)) H)) : Ev (tOp rNeDA ta tb) ρ H (.bl false) := fun σ H1 Q a En q =>
  ha σ H1 _ a En fun v H2 e2 t2 => hb σ H2 _ (a.trans e2) (En.ex e2) fun r H3 hr e3 d3 => by
    obtain ⟨vs, h1, h2⟩ := hD.ex ((a.trans e2).trans e3)
    obtain ⟨us, k1, k2⟩ := d3
    have eV : vs = kvs.map fun kv => V.int kv.2 := by
      rw [List.map_map] at h2
      have := Tps.ints (ns := kvs.map (·.2)) (by rw [List.map_map]; exact h2)
      rw [this, List.map_map]
      rfl
    have eU : us = lvs.map fun kv => V.int kv.2 := by
      rw [List.map_map] at k2
      have := Tps.ints (ns := lvs.map (·.2)) (by rw [List.map_map]; exact k2)
      rw [this, List.map_map]
      rfl
    have zz : ∀ xs : List (Int × Int), List.zipWith (fun (kd : Int × D) (v : V) => ((Sum.inl kd.1 : Key), v)) (xs.map fun kv => (kv.1, D.int kv.2)) (xs.map fun kv => V.int kv.2) = xs.map fun kv => ((Sum.inl kv.1 : Key), V.int kv.2) := fun xs => by
      induction xs with
      | nil => rfl
      | cons x xs ih =>
        rw [List.map_cons, List.map_cons, List.map_cons, ← ih]
        rfl
    rw [eV] at h1
    rw [eU] at k1
    refine ⟨p, r, _, _, t2.invP, rfl, h1, k1, ?_, ?_, q _ H3 (e2.trans e3) (.bl _)⟩
    · rw [zz, zz, List.length_map, List.length_map, hl]
    · rw [zz, zz]
      intro kv hkv
      obtain ⟨x, hx, rfl⟩ := List.mem_map.mp hkv
      have hx := hm x hx
      refine ⟨?_, rfl⟩
      clear hD h1 k1 eV eU h2 k2 hl hm hkv hb
      induction lvs with
      | nil => cases hx
      | cons y ys ih =>
        rw [List.map_cons, List.nodup_cons] at ndl
        rcases List.mem_cons.mp hx with rfl | z
        · exact valV_pos rfl
        · refine (valV_neg (fun e => ?_)).trans (ih ndl.2 z)
          have e : y.1 = x.1 := Sum.inl.inj e
          exact ndl.1 (by rw [e]; exact List.mem_map_of_mem z)
end
end Hn


namespace Hn
open PySem PySem.Spec PyProof.Rows L2
/-! what can be shown -/
def NiceW (k B : Nat) (d : D) : Prop := d.pure = true ∧ d.py.showable = true ∧ d.py.hasDict = false ∧ d.py.leavesShort 8 = true ∧ d.py.depth ≤ k ∧ d.py.weight ≤ B
theorem NiceW.mono {k B k' B' : Nat} {d : D} (h : NiceW k B d) (h1 : k ≤ k') (h2 : B ≤ B') : NiceW k' B' d := ⟨h.1, h.2.1, h.2.2.1, h.2.2.2.1, Nat.le_trans h.2.2.2.2.1 h1, Nat.le_trans h.2.2.2.2.2 h2⟩
theorem nice_all {k B : Nat} : ∀ {ds : List D}, (∀ d ∈ ds, NiceW k B d) → D.pures ds = true ∧ PyData.showableAll (D.pys ds) = true ∧ PyData.hasDictAll (D.pys ds) = false ∧ PyData.leavesShortAll 8 (D.pys ds) = true ∧ PyData.depthAll (D.pys ds) ≤ k ∧ PyData.weightAll (D.pys ds) ≤ ds.length * (B + 1)
  | [], _ => ⟨rfl, rfl, rfl, rfl, Nat.zero_le _, Nat.zero_le _⟩
  | d :: ds, h => by
    obtain ⟨a1, a2, a3, a4, a5, a6⟩ := h d List.mem_cons_self
    obtain ⟨b1, b2, b3, b4, b5, b6⟩ := nice_all (ds := ds) fun e he => h e (List.mem_cons_of_mem _ he)
    rw [D.pys, D.pures, PyData.showableAll, PyData.hasDictAll, PyData.leavesShortAll, PyData.depthAll, PyData.weightAll, a1, a2, a3, a4, b1, b2, b3, b4]
    refine ⟨rfl, rfl, rfl, rfl, Nat.max_le.mpr ⟨a5, b5⟩, ?_⟩
    rw [List.length_cons, Nat.add_mul, Nat.one_mul]
    omega
theorem nice_tup {k B m : Nat} {ds : List D} (h : ∀ d ∈ ds, NiceW k B d) (hl : ds.length ≤ m) : NiceW (k + 1) (m * (B + 1)) (.tup ds) := by
  obtain ⟨b1, b2, b3, b4, b5, b6⟩ := nice_all h
  unfold NiceW
  rw [D.pure, D.py, PyData.showable, PyData.hasDict, PyData.leavesShort, PyData.depth, PyData.weight]
  exact ⟨b1, b2, b3, b4, Nat.succ_le_succ b5, Nat.le_trans b6 (Nat.mul_le_mul_right _ hl)⟩
theorem nice_int {i : Int} (h0 : 0 ≤ i) (h4 : i ≤ 4) : NiceW 0 3 (.int i) := by
  have : i = 0 ∨ i = 1 ∨ i = 2 ∨ i = 3 ∨ i = 4 := by omega
  rcases this with rfl | rfl | rfl | rfl | rfl <;> exact ⟨rfl, by decide +kernel, by decide +kernel, by decide +kernel, by decide +kernel, by decide +kernel⟩
theorem nice_non : NiceW 0 0 .non := ⟨rfl, by decide +kernel, by decide +kernel, by decide +kernel, by decide +kernel, by decide +kernel⟩
theorem nice_w1 : NiceW 0 5 (.str "out") := ⟨rfl, by decide +kernel, by decide +kernel, by decide +kernel, by decide +kernel, by decide +kernel⟩
theorem nice_w2 : NiceW 0 5 (.str "look") := ⟨rfl, by decide +kernel, by decide +kernel, by decide +kernel, by decide +kernel, by decide +kernel⟩
theorem nice_w3 : NiceW 0 5 (.str "put") := ⟨rfl, by decide +kernel, by decide +kernel, by decide +kernel, by decide +kernel, by decide +kernel⟩
theorem nice_w4 : NiceW 0 5 (.str "holds") := ⟨rfl, by decide +kernel, by decide +kernel, by decide +kernel, by decide +kernel, by decide +kernel⟩
theorem nice_word (x : Hr) : NiceW 0 5 (.str x.word) := by
  cases x with
  | out => exact nice_w1
  | look l => exact nice_w2
  | put l => exact nice_w3
  | holds v => exact nice_w4
theorem rest_len (x : Hr) (d : D) : (d :: x.rest).length ≤ 2 := by
  cases x with
  | out => show 1 ≤ 2; decide
  | look l => show 2 ≤ 2; decide
  | put l => show 2 ≤ 2; decide
  | holds v => show 2 ≤ 2; decide
theorem nice_B {v : List Int} (h : ∀ i ∈ v, 0 ≤ i ∧ i ≤ 4) (hl : v.length ≤ 4) : NiceW 1 16 (encB v) := by
  refine nice_tup (k := 0) (B := 3) (m := 4) (fun d hd => ?_) (by rw [List.length_map]; exact hl)
  obtain ⟨i, hi, rfl⟩ := List.mem_map.mp hd
  exact nice_int (h i hi).1 (h i hi).2
theorem Good.nice {n : Nat} {bs : List (Option Int)} {hs : List Hr} (G : Good n bs hs) (hn : n ≤ 4) : NiceW 4 282 (encS bs hs) := by
  have hb : NiceW 3 140 (.tup (bs.map encX)) := by
    refine (nice_tup (k := 0) (B := 3) (m := 4) (fun d hd => ?_) (by rw [List.length_map, G.lb]; exact hn)).mono (by decide) (by decide)
    obtain ⟨b, hb, rfl⟩ := List.mem_map.mp hd
    obtain ⟨j, hj, hjb⟩ := List.getElem_of_mem hb
    have hj' : j < n := by rw [← G.lb]; exact hj
    have f := G.fit j _ (getD_at (d := .out) (by rw [G.lh]; exact hj'))
    rw [getD_eq (x := b) (by rw [List.getElem?_eq_getElem hj, hjb])] at f
    generalize hs.getD j .out = x at f
    cases x with
    | out =>
      have f : b = none := f
      subst f
      exact nice_non.mono (by decide) (by decide)
    | look l =>
      obtain ⟨_, _, rfl⟩ := f
      exact nice_int (by omega) (by omega)
    | put l =>
      obtain ⟨_, _, rfl⟩ := f
      exact nice_int (by omega) (by omega)
    | holds v =>
      obtain ⟨_, _, rfl, _⟩ := f
      exact nice_int (by omega) (by omega)
  have hh : NiceW 3 140 (.tup (hs.map Hr.enc)) := by
    refine nice_tup (k := 2) (B := 34) (m := 4) (fun d hd => ?_) (by rw [List.length_map, G.lh]; exact hn)
    obtain ⟨x, hx, rfl⟩ := List.mem_map.mp hd
    obtain ⟨j, hj, hjx⟩ := List.getElem_of_mem hx
    have f := G.fit j x (by rw [List.getElem?_eq_getElem hj, hjx])
    rw [Hr.enc_eq]
    refine nice_tup (k := 1) (B := 16) (m := 2) (fun d hd => ?_) (rest_len x _)
    rcases List.mem_cons.mp hd with rfl | hd
    · exact (nice_word x).mono (by decide) (by decide)
    · cases x with
      | out => cases hd
      | look l =>
        obtain rfl := List.mem_singleton.mp hd
        obtain ⟨_, _, _⟩ := f
        exact (nice_int (by omega) (by omega)).mono (by decide) (by decide)
      | put l =>
        obtain rfl := List.mem_singleton.mp hd
        obtain ⟨_, _, _⟩ := f
        exact (nice_int (by omega) (by omega)).mono (by decide) (by decide)
      | holds v =>
        obtain rfl := List.mem_singleton.mp hd
        obtain ⟨_, f2, _, f4⟩ := f
        refine nice_B (fun i hi => ?_) (by omega)
        rw [f4, within_range, G.lb] at hi
        obtain ⟨m, m1, m2, rfl⟩ := mem_nat.mp hi
        omega
  refine nice_tup (k := 3) (B := 140) (m := 2) (fun d hd => ?_) (by show 2 ≤ 2; decide)
  simp only [List.mem_cons, List.not_mem_nil, or_false] at hd
  rcases hd with rfl | rfl
  · exact hb
  · exact hh
def spRun : Sp := fun vs H Q _ => ∃ (p l : Addr) (n b : Nat), vs = [.ref p, .int (n : Nat)] ∧ Tape l b p H ∧ b ≤ 2 ^ 30 ∧ 1 ≤ n ∧ n ≤ 4 ∧ ∀ v H' (ws : List (List Int)), Mut H H' p → Tape l (b + 201) p H' → Fin1 n ws → Tp H' v (encS (ws.map fun v => some (v.length : Int)) (ws.map .holds)) → Q v H'
section
variable {P : Program} {w : World} {K : PySem.W.Frag} {mg : Str → Option Value} {base : Heap}
variable {ρ ρ' : List (Option D)} {H H' : Hp} {ta tb tc te tx tl td tv : TE} {E : XK} {ds es : List D} {σ : L2.St} {D0 : Ends} {tz tu tw : TS} {p : Addr} {ts : TA} {d : D} {g : TG} {t : TT}
theorem q_asg2 {i j : Nat} {d e : D} (En : Env σ H ρ) (ha : Ev ta ρ H d) (hb : Ev tb ρ H e) (k : ∀ σ' H1, Ex H H1 → Env σ' H1 ((ρ.set i (some d)).set j (some e)) → tz D0 σ' H1) :
    tSeq (tAsg (tTup (tCons ta (tCons tb tNil))) (gTup K 2 (gCons (gName i) (gCons (gName j) gNil)))) tz D0 σ H := x_asg2 (D0 := { D0 with nx := tz D0 }) En ha hb k
theorem ev_show {n : Nat} {bs : List (Option Int)} {hs : List Hr} (G : Good n bs hs) (hn : n ≤ 4) (h : Ev te ρ H (encS bs hs)) : Ev (tCB rRepr (tCons te tNil)) ρ H (.str (encS bs hs).py.shown) := by
  obtain ⟨a1, a2, a3, a4, a5, a6⟩ := G.nice hn
  unfold encS at h a1 a2 a3 a4 a5 a6 ⊢
  rw [D.pure] at a1
  exact ev_repr h a1 a2 (Nat.le_trans a5 (by decide)) a3 (PyData.shown_fits (by decide) (by decide) a4 (Nat.le_trans a6 (by decide)))
abbrev s__law_run : Stmt := top 42
abbrev N__law_run : List Str := ["_law_tape_here", "_law_many", "_law_stand", "_law_own", "_law_often", "_law_k", "_law_left", "_law_hand", "_law_turn"]
abbrev P__law_run : List Str := ["_law_tape_here", "_law_many"]
theorem sc__law_run : FnScope N__law_run P__law_run (defScope s__law_run) := ⟨rfl, rfl, rfl, by decide +kernel, rfl, by decide +kernel, by decide +kernel⟩

theorem ok__law_run (Z : Zs mg) (F : DefAt K mg "_law_run" s__law_run P__law_run) (F__law_draw : FnAt P w K mg base 1 "_law_draw" P__law_draw spDraw) (F_first_levels : FnAt P w K mg base 1 "first_levels" P_first_levels (spD R_first_levels)) (F__law_begun : FnAt P w K mg base 1 "_law_begun" P__law_begun (spD R_first_levels)) (F_step_levels : FnAt P w K mg base 3 "step_levels" P_step_levels (spD R_step_levels)) (F__law_stepped : FnAt P w K mg base 1 "_law_stepped" P__law_stepped (spD R_law_stepped)) : GAt P w K mg base 4 "_law_run" P__law_run spRun := by
  refine F.okG sc__law_run (fun vs H Q E ⟨_, _, _, _, e, _⟩ => by rw [e]; rfl) fun f cdv A outer s H vs Q hg hr h => ?_
  have nd := sc__law_run.nd
  obtain ⟨p, l, n, b, rfl, hT, hb, hn1, hn4, q⟩ := h
  refine ⟨_, 
    (pss_cons (ps_asg (pe_tup (pa_cons (pe_fn F_first_levels (hr.mono (by decide)) rfl (pa_cons (pv 1) pa_nil)) (pa_cons (pe_fn F__law_begun (hr.mono (by decide)) rfl (pa_cons (pv 1) pa_nil)) pa_nil))) (pg_tup rfl (pgs_cons (pg_name (i := 2) nd rfl (Or.inl rfl)) (pgs_cons (pg_name (i := 3) nd rfl (Or.inr rfl)) pgs_nil)))) 
    (pss_cons (ps_set (i := 4) nd rfl (Or.inl rfl) (pe_op op_add pe_int (pe_fn F__law_draw (hr.mono (by decide)) rfl (pa_cons (pv 0) (pa_cons pe_int pa_nil))))) 
    (pss_cons (ps_for PassesOwn.never rfl (pi_range1 rfl Z.z_range (pa_cons pe_int pa_nil)) (pg_name (i := 5) nd rfl (Or.inl rfl)) 
      (pss_cons (ps_setLc (i := 6) (own := [("_law_hand", 7)]) (g := gName 7) rfl nd rfl rfl (sw_true rfl rfl rfl (by decide +kernel)) (pi_range1 rfl Z.z_range (pa_cons (pv 1) pa_nil)) (blkOk_by (own := [("_law_hand", 7)]) (N := N__law_run) (sc := defScope s__law_run) (by decide +kernel)) (fun _ _ _ _ _ => (pg_name (i := 7) nd rfl (Or.inl rfl))) (fun _ _ _ _ _ => (pts_one (pt_cmpR op_ne (pe_ix (ix_tup : IxR _ (rIxT K)) (pe_ix (ix_tup : IxR _ (rIxT K)) (pe_ix (ix_tup : IxR _ (rIxT K)) (pv 3) pe_int (fun _ _ => rfl)) (pv 7) (fun _ _ => rfl)) pe_int (fun _ _ => rfl)) pe_str (nomark _)))) (fun _ _ _ _ _ => (pv 7))) 
      (pss_cons (ps_if (pt_cmpR (op_eqP hr.units : OpR _ _ (rEqP K)) (pv 6) (pe_lst pa_nil) (nomark _)) 
        (pss_one (ps_ret (pv 2))) pss_nil) 
      (pss_cons (ps_set (i := 7) nd rfl (Or.inl rfl) (pe_ix (ix_list : IxR _ (rIxL K)) (pv 6) (pe_fn F__law_draw (hr.mono (by decide)) rfl (pa_cons (pv 0) (pa_cons (pe_callB (call_len_seq : CallR _ _ (rLenS K)) rfl Z.z_len boot_len (pa_cons (pv 6) pa_nil)) pa_nil))) (fun _ _ => rfl))) 
      (pss_one (ps_for PassesOwn.never rfl (pi_range1 rfl Z.z_range (pa_cons (pv 4) pa_nil)) (pg_name (i := 8) nd rfl (Or.inl rfl)) 
        (pss_one (ps_if (pt_cmpR op_ne (pe_ix (ix_tup : IxR _ (rIxT K)) (pe_ix (ix_tup : IxR _ (rIxT K)) (pe_ix (ix_tup : IxR _ (rIxT K)) (pv 3) pe_int (fun _ _ => rfl)) (pv 7) (fun _ _ => rfl)) pe_int (fun _ _ => rfl)) pe_str (nomark _)) 
          (pss_cons (ps_asg (pe_tup (pa_cons (pe_fn F_step_levels (hr.mono (by decide)) rfl (pa_cons (pv 2) (pa_cons (pv 7) pa_nil))) (pa_cons (pe_fn F__law_stepped (hr.mono (by decide)) rfl (pa_cons (pv 3) (pa_cons (pv 7) pa_nil))) pa_nil))) (pg_tup rfl (pgs_cons (pg_name (i := 2) nd rfl (Or.inl rfl)) (pgs_cons (pg_name (i := 3) nd rfl (Or.inr rfl)) pgs_nil)))) 
          (pss_one (ps_if (pt_cmpR op_ne (pe_callB (cr_repr hg hr.units) rfl Z.z_repr boot_repr (pa_cons (pv 2) pa_nil)) (pe_callB (cr_repr hg hr.units) rfl Z.z_repr boot_repr (pa_cons (pv 3) pa_nil)) (nomark _)) 
            (pss_one (ps_ret pe_non)) pss_nil))) pss_nil)))))))) 
    (pss_one (ps_ret pe_non))))), ?_⟩
  have En := Env.start N__law_run (Tps.cons (.ptr p) (Tps.cons (.int (n : Nat)) (Tps.nil (H := H))))
  have hst : R_first_levels [.int (n : Nat)] (encS (List.replicate n none) (List.replicate n .out)) := ⟨n, rfl, by omega, by omega, by rw [Int.toNat_natCast]⟩
  refine q_asg2 En (ev_call (ea_cons (ev_var rfl) ea_nil) hst) (ev_call (ea_cons (ev_var rfl) ea_nil) hst) fun σ1 H1 e1 En => ?_
  refine q_asgM En (em_add ev_int (em_draw (hT.ex e1) (by omega) (m := 6) (by decide) (by decide) (ev_var rfl) ev_int)) fun d2 σ2 H2 m2 T2 c2 En => ?_
  obtain ⟨o, rfl, o1, o2⟩ := c2
  have hW : n * (2 * n + 1) ≤ 4 * 9 := Nat.mul_le_mul hn4 (by omega)
  refine q_forR1 (n := 200) En ev_int (by decide) (fun i σ' H' => Mut H H' p ∧ Tape l (b + 1 + i) p H' ∧ ∃ bs hs, Good n bs hs ∧ wts n hs + i ≤ 36 ∧ Env σ' H' [some (.ptr p), some (.int (n : Nat)), some (encS bs hs), some (encS bs hs), some (.int o), none, none, none, none]) (fun H3 e3 => ⟨((Mut.ofEx e1).trans m2).trans (Mut.ofEx e3), T2.ex e3, _, _, Good.start n, by rw [wts_start]; omega, En.ex e3⟩) (fun i σ' H' hi ⟨k1, k2, bs, hs, G, kw, k3⟩ => ?_) fun σ' H' ⟨k1, k2, bs, hs, G, kw, k3⟩ => ?_
  · refine tg_name (vs := [5]) (List.mem_singleton.mpr rfl) _ σ' H' _ k3 (.int _) fun σ4 E4 _ => ?_
    have hat : ∀ j, j < n → hs[j]? = some (hs.getD j .out) := fun j hj => getD_at (by rw [G.lh]; exact hj)
    refine q_asgL (ds := (((List.range n).filter fun j => !(hs.getD j .out).done).map Int.ofNat).map .int) E4 (el_is (el_lcN (xs := List.range n) (enc := fun j => .int (j : Nat)) (ei_rangeN (by omega) (ev_var rfl)) (fun j => !(hs.getD j .out).done) (fun j => .int (j : Nat)) (len_range _ (by omega)) (fun j hj => ?_) fun j _ _ => ev_var rfl) (by rw [List.map_map]; rfl)) fun pl σ5 H5 hp5 e5 hL5 E5 => ?_
    · exact et_test (ev_neS (ev_word (ev_ixT (ds := hs.map Hr.enc) (d := (hs.getD j .out).enc) (ev_ixT (ds := [.tup (bs.map encX), .tup (hs.map Hr.enc)]) (ev_var rfl) ev_int rfl) (ev_var rfl) (atI_some (by rw [List.getElem?_map, hat j (List.mem_range.mp hj)]; rfl)))) ev_str (word_holds _))
    have T5 := k2.ex e5
    have npl : pl ≠ p := by
      obtain ⟨_, z⟩ := k2.isL
      exact (ne_of_none z hp5).symm
    refine q_if E5 (et_test (ev_eqL hL5 (ev_var rfl))) (fun hb6 H6 e6 => ?_) fun hb6 H6 e6 => ?_
    · have e0 := List.isEmpty_iff.mp hb6
      have hall : ∀ x ∈ hs, x.done = true := fun x hx => by
        obtain ⟨j, hj, hjx⟩ := List.getElem_of_mem hx
        have hj' : j < n := by rw [← G.lh]; exact hj
        have hg : hs.getD j .out = x := getD_eq (by rw [List.getElem?_eq_getElem hj, hjx])
        cases hd : x.done with
        | true => rfl
        | false =>
          have : (j : Int) ∈ ((List.range n).filter fun j => !(hs.getD j .out).done).map Int.ofNat := mem_nat.mpr ⟨j, hj', by rw [hg, hd]; rfl, rfl⟩
          rw [e0] at this
          cases this
      obtain ⟨ws, rfl, rfl, Fn⟩ := G.fin hall
      exact x_ret (E5.ex e6) (ev_var rfl) fun v H7 e7 t7 => q v H7 ws (k1.trans (Mut.ofEx ((e5.trans e6).trans e7))) (((T5.ex e6).ex e7).le (by omega)) Fn t7
    · have hL6 := hL5.ex e6
      have hne : 0 < ((List.range n).filter fun j => !(hs.getD j .out).done).length := by
        cases hz : (List.range n).filter fun j => !(hs.getD j .out).done with
        | nil =>
          rw [hz] at hb6
          cases hb6
        | cons _ _ => exact Nat.succ_pos _
      have hlen : ((List.range n).filter fun j => !(hs.getD j .out).done).length ≤ n := by
        have := List.length_filter_le (fun j => !(hs.getD j .out).done) (List.range n)
        rwa [List.length_range] at this
      refine q_asgM (E5.ex e6) (em_ix hL6 npl (ev_var rfl) (em_draw (T5.ex e6) (by omega) (by rw [List.length_map, List.length_map]; omega) (by rw [List.length_map, List.length_map]; omega) (ev_var rfl) (ev_lenL hL6 (ev_var rfl)))) fun d7 σ7 H7 m7 T7 c7 E7 => ?_
      obtain ⟨hz, hz1, rfl⟩ := List.mem_map.mp c7
      obtain ⟨h, h1, h2, rfl⟩ := mem_nat.mp hz1
      have hx := hat h h1
      have hd0 : (hs.getD h .out).done = false := by simpa using h2
      have mm : Mut H H7 p := (k1.trans (Mut.ofEx (e5.trans e6))).trans m7
      refine x_forR1 (n := o) E7 (ev_var rfl) (by omega) (fun t σ' H' => Mut H H' p ∧ Tape l (b + 1 + i + 1) p H' ∧ ∃ bs' hs', Good n bs' hs' ∧ (t = 0 → hs' = hs) ∧ (t ≠ 0 → wts n hs' + 1 ≤ wts n hs) ∧ Env σ' H' [some (.ptr p), some (.int (n : Nat)), some (encS bs' hs'), some (encS bs' hs'), some (.int o), none, none, some (.int (h : Nat)), none]) (fun H8 e8 => ⟨mm.trans (Mut.ofEx e8), T7.ex e8, bs, hs, G, fun _ => rfl, fun z => absurd rfl z, ((((E7.ex e8).forget 5).forget 6).forget 8)⟩) (fun t σ' H' ht ⟨j1, j2, bs', hs', G', ja, jb, j3⟩ => ?_) fun σ' H' ⟨j1, j2, bs', hs', G', ja, jb, j3⟩ => ?_
      · refine tg_name (vs := [8]) (List.mem_singleton.mpr rfl) _ σ' H' _ j3 (.int _) fun σ9 E9 _ => ?_
        have hx' : hs'[h]? = some (hs'.getD h .out) := getD_at (by rw [G'.lh]; exact h1)
        refine x_if E9 (et_test (ev_neS (ev_word (ev_ixT (ds := hs'.map Hr.enc) (d := (hs'.getD h .out).enc) (ev_ixT (ds := [.tup (bs'.map encX), .tup (hs'.map Hr.enc)]) (ev_var rfl) ev_int rfl) (ev_var rfl) (atI_some (by rw [List.getElem?_map, hx']; rfl)))) ev_str (word_holds _))) (fun hb9 H10 e10 => ?_) fun hb9 H10 e10 => ?_
        · have hd9 : (hs'.getD h .out).done = false := by simpa using hb9
          have G2 := G'.step h1
          have hls := G'.less hx' hd9
          refine q_asg2 (E9.ex e10) (ev_call (ea_cons (ev_var rfl) (ea_cons (ev_var rfl) ea_nil)) ⟨bs', hs', h, _, rfl, by rw [G'.lb, G'.lh], by rw [G'.lh]; omega, hx', hd9, rfl⟩) (ev_call (ea_cons (ev_var rfl) (ea_cons (ev_var rfl) ea_nil)) ⟨bs', hs', h, rfl, by rw [G'.lb, G'.lh], by rw [G'.lh]; omega, by rw [G'.lh]; exact h1, rfl⟩) fun σ11 H11 e11 E11 => ?_
          refine x_if (b := false) E11 (et_test (ev_neS (ev_show G2 hn4 (ev_var rfl)) (ev_show G2 hn4 (ev_var rfl)) (decide_eq_true rfl))) (fun z => nomatch z) fun _ H12 e12 => ?_
          have ee := (e10.trans e11).trans e12
          refine ⟨j1.trans (Mut.ofEx ee), j2.ex ee, _, _, G2, fun z => absurd z (Nat.succ_ne_zero t), fun _ => ?_, ((E11.ex e12).forget 8)⟩
          by_cases ht0 : t = 0
          · have e := ja ht0
            rw [e] at hls ⊢
            exact hls
          · have := jb ht0
            omega
        · have hd9 : (hs'.getD h .out).done = true := by simpa using hb9
          by_cases ht0 : t = 0
          · rw [ja ht0, hd0] at hd9
            cases hd9
          · exact ⟨j1.trans (Mut.ofEx e10), j2.ex e10, bs', hs', G', fun z => absurd z (Nat.succ_ne_zero t), fun _ => jb ht0, ((E9.ex e10).forget 8)⟩
      · have := jb (by omega)
        exact ⟨j1, j2, bs', hs', G', by omega, j3.forget 7⟩
  · have e : (200 : Int).toNat = 200 := rfl
    rw [e] at kw
    omega
end
end Hn


namespace Hn
open PySem PySem.Spec PyProof.Rows L2
def PD (k : Nat) (d : D) : Prop := d.pure = true ∧ d.py.depth ≤ k
theorem PD.mono {k j : Nat} {d : D} (h : PD k d) (e : k ≤ j) : PD j d := ⟨h.1, Nat.le_trans h.2 e⟩
theorem pd_all {k : Nat} : ∀ {ds : List D}, (∀ d ∈ ds, PD k d) → D.pures ds = true ∧ PyData.depthAll (D.pys ds) ≤ k
  | [], _ => ⟨rfl, Nat.zero_le _⟩
  | d :: ds, h => by
    obtain ⟨a1, a2⟩ := h d List.mem_cons_self
    obtain ⟨b1, b2⟩ := pd_all (ds := ds) fun e he => h e (List.mem_cons_of_mem _ he)
    rw [D.pys, D.pures, PyData.depthAll, a1, b1]
    exact ⟨rfl, Nat.max_le.mpr ⟨a2, b2⟩⟩
theorem pd_tup {k : Nat} {ds : List D} (h : ∀ d ∈ ds, PD k d) : PD (k + 1) (.tup ds) := by
  obtain ⟨b1, b2⟩ := pd_all h
  unfold PD
  rw [D.pure, D.py, PyData.depth]
  exact ⟨b1, Nat.succ_le_succ b2⟩
theorem pd_int (i : Int) : PD 0 (.int i) := ⟨rfl, Nat.le_refl _⟩
theorem pd_B (v : List Int) : PD 1 (encB v) := pd_tup fun d hd => by
  obtain ⟨i, _, rfl⟩ := List.mem_map.mp hd
  exact pd_int i
theorem pd_S (ws : List (List Int)) : PD 4 (encS (ws.map fun v => some (v.length : Int)) (ws.map .holds)) := pd_tup fun d hd => by
  simp only [List.mem_cons, List.not_mem_nil, or_false] at hd
  rcases hd with rfl | rfl
  · refine (pd_tup (k := 0) fun d hd => ?_).mono (by decide)
    obtain ⟨b, hb, rfl⟩ := List.mem_map.mp hd
    obtain ⟨v, _, rfl⟩ := List.mem_map.mp hb
    exact pd_int _
  · refine (pd_tup (k := 2) fun d hd => ?_).mono (by decide)
    obtain ⟨x, hx, rfl⟩ := List.mem_map.mp hd
    obtain ⟨v, _, rfl⟩ := List.mem_map.mp hx
    refine pd_tup (k := 1) fun d hd => ?_
    simp only [List.mem_cons, List.not_mem_nil, or_false] at hd
    rcases hd with rfl | rfl
    · exact ⟨rfl, Nat.zero_le _⟩
    · exact pd_B v
abbrev finS (ws : List (List Int)) : D := encS (ws.map fun v => some (v.length : Int)) (ws.map .holds)
def spLaw (K : PySem.W.Frag) : Sp := fun vs H Q _ => ∃ (a : Addr) (ns : List Int), vs = [.ref a] ∧ SqL K H a (ns.map V.int) ∧ ∀ H', Q (.bl true) H'
section
variable {P : Program} {w : World} {K : PySem.W.Frag} {mg : Str → Option Value} {base : Heap}
variable {ρ ρ' : List (Option D)} {H H' : Hp} {ta tb tc te tx tl td tv : TE} {E : XK} {ds es : List D} {σ : L2.St} {D0 : Ends} {tz tu tw : TS} {p l : Addr} {ts : TA} {d : D} {g : TG} {t : TT}
/-- what is said of two things that are the same -/
theorem ev_same {k : Nat} (ha : Ev ta ρ H d) (hb : Ev tb ρ H d) (h : PD k d) (hk : k ≤ 64) : Ev (tOp (rNeP K) ta tb) ρ H (.bl false) := ev_neP ha hb h.1 h.1 (Nat.le_trans (Nat.min_le_left _ _) (Nat.le_trans h.2 hk)) (D.eqv_self d)
theorem Env.only {i : Nat} {d : D} (h : Env σ H ρ) (hi : ρ[i]? = some (some d)) : Env σ H ((List.replicate ρ.length none).set i (some d)) := by
  refine h.less ⟨by rw [List.length_set, List.length_replicate], fun j e he => ?_⟩
  by_cases hj : i = j
  · subst hj
    by_cases hl : i < ρ.length
    · rw [List.getElem?_set_self (by rw [List.length_replicate]; exact hl)] at he
      cases he
      exact hi
    · rw [List.getElem?_eq_none (by rw [List.length_set, List.length_replicate]; omega)] at he
      cases he
  · rw [List.getElem?_set_ne hj, List.getElem?_replicate] at he
    split at he <;> cases he
theorem Mut.tape {q : Addr} {b : Nat} (m : Mut H H' q) (h : Tape l b p H) (h1 : p ≠ q) (h2 : l ≠ q) : Tape l b p H' := by
  obtain ⟨ms, k, t, n, a1, a2, a3, a4, a5⟩ := h
  exact ⟨ms, k, t, n, a1, m.lst a2 h1, m.lst a3 h2, a4, a5⟩
theorem ex_callX {R : Hp → List D → (Addr → Hp → Prop) → Prop} {Φ0 Φ : Addr → Hp → Prop} (h1 : EvX te ρ H Φ0) (hM : ∀ p H1 H2, Φ0 p H1 → Ex H1 H2 → Φ0 p H2) (h : EvA ts ρ H ds) (hR : ∀ p H1, Ex H H1 → Φ0 p H1 → R H1 (.ptr p :: ds) Φ) : EvX (tCall (spX R) [] E (tCons te ts)) ρ H Φ := fun σ H1 Q a En q =>
  h1 σ H1 _ a En fun p H2 hp e2 f2 => h σ H2 _ (a.trans e2) (En.ex e2) fun vs H3 e3 t3 => by
    show spX R ((.ref p :: vs) ++ []) H3 Q E
    rw [List.append_nil]
    exact ⟨.ptr p :: ds, Φ, Tps.cons (.ptr p) t3, hR p H3 ((a.trans e2).trans e3) (hM _ _ _ f2 e3), fun p2 H4 hp4 e4 t4 => q p2 H4 (fresh_back (e2.trans e3) hp4) ((e2.trans e3).trans e4) t4⟩
theorem q_greats {i n b : Nat} (hT : Tape l b p H) (hb : b + n ≤ 2 ^ 40) (hn : n ≤ 12) (En : Env σ H ρ) (ha : Ev ta ρ H (.ptr p)) (hm : Ev tb ρ H (.int (n : Nat))) (k : ∀ (gs : List Int) σ' H1, Mut H H1 p → Tape l (b + n) p H1 → gs.length = n → gs.Nodup → Env σ' H1 (ρ.set i (some (.tup (gs.map .int)))) → tz D0 σ' H1) : tSeq (tAsg (tCall spGreats [] E (tCons ta (tCons tb tNil))) (gName i)) tz D0 σ H :=
  ha σ H _ (exr H) En fun v H2 e2 t2 => hm σ H2 _ e2 (En.ex e2) fun u H3 e3 t3 => by
    rw [t2.invP, t3.invI]
    exact ⟨p, l, n, b, rfl, (hT.ex e2).ex e3, hb, hn, fun v H4 gs m4 T4 t4 l4 d4 => k gs _ H4 ((Mut.ofEx (e2.trans e3)).trans m4) T4 l4 d4 ((m4.env ((En.ex e2).ex e3)).set i t4)⟩
theorem q_run {i n b : Nat} (hT : Tape l b p H) (hb : b ≤ 2 ^ 30) (h1 : 1 ≤ n) (h4 : n ≤ 4) (En : Env σ H ρ) (ha : Ev ta ρ H (.ptr p)) (hm : Ev tb ρ H (.int (n : Nat))) (k : ∀ (ws : List (List Int)) σ' H1, Mut H H1 p → Tape l (b + 201) p H1 → Fin1 n ws → Env σ' H1 (ρ.set i (some (encS (ws.map fun v => some (v.length : Int)) (ws.map .holds)))) → tz D0 σ' H1) : tSeq (tAsg (tCall spRun [] E (tCons ta (tCons tb tNil))) (gName i)) tz D0 σ H :=
  ha σ H _ (exr H) En fun v H2 e2 t2 => hm σ H2 _ e2 (En.ex e2) fun u H3 e3 t3 => by
    rw [t2.invP, t3.invI]
    exact ⟨p, l, n, b, rfl, (hT.ex e2).ex e3, hb, h1, h4, fun v H4 ws m4 T4 F4 t4 => k ws _ H4 ((Mut.ofEx (e2.trans e3)).trans m4) T4 F4 ((m4.env ((En.ex e2).ex e3)).set i t4)⟩
theorem q_tape {i : Nat} {a : Addr} {ns : List Int} (hS : SqL K H a (ns.map V.int)) (En : Env σ H ρ) (hv : σ[0]? = some (some (.ref a))) (k : ∀ p l σ' H1, Ex H H1 → Tape l 0 p H1 → Env σ' H1 (ρ.set i (some (.ptr p))) → tz D0 σ' H1) : tSeq (tAsg (tCall (spTape K) [] E (tCons (tVar 0) tNil)) (gName i)) tz D0 σ H :=
  ⟨.ref a, hv, a, ns, rfl, hS, fun p l H2 _ _ e2 T2 => k p l _ H2 e2 T2 ((En.ex e2).set i (.ptr p))⟩
theorem x_appM (hL : Lst H p ds) (hz : ds.length < 100000) (En : Env σ H ρ) (ha : Ev ta ρ H (.ptr p)) (h : Ev te ρ H d) (k : ∀ H2, Mut H H2 p → Lst H2 p (ds ++ [d]) → Env σ H2 ρ → D0.nx σ H2) : tDrop (tBM K "list" rAppend ta (tCons te tNil)) D0 σ H := by
  obtain ⟨xs, h1, h2⟩ := hL
  exact x_app h1 (by rw [h2.1]; exact hz) En ha h fun v H1 e1 t1 => by
    have hk := TK.updL (o := .lst (xs ++ [v])) (e1 _ _ h1)
    exact k _ (Mut.of e1 (e1 _ _ h1) fun _ z => nomatch z) ⟨_, upd_same, (Tps.append (h2.ex e1) (Tps.cons t1 Tps.nil)).mono hk⟩ ((En.ex e1).mono hk)
theorem Fin1.kvs_eq {n : Nat} {gs : List Int} {ws : List (List Int)} : (List.range n).map (fun j : Nat => ((j : Int), nameI gs (ws.getD j []) j)) = (due gs n ws).zipIdx.map fun p => ((p.2 : Int), p.1) := by
  refine List.ext_getElem? fun j => ?_
  unfold due
  rw [List.getElem?_map, List.getElem?_map, List.getElem?_zipIdx, List.getElem?_map]
  by_cases hj : j < n
  · rw [List.getElem?_range hj]
    simp
  · rw [List.getElem?_eq_none (by rw [List.length_range]; omega)]
    rfl
abbrev s_law : Stmt := top 43
abbrev N_law : List Str := ["_law_script", "_law_tape_here", "_law_k", "_law_many", "_law_greats_here", "_law_stand", "_law_rounds", "_law_named", "_law_due", "_law_hand", "_law_view", "_law_place", "_law_one"]
abbrev P_law : List Str := ["_law_script"]
theorem sc_law : FnScope N_law P_law (defScope s_law) := ⟨rfl, rfl, rfl, by decide +kernel, rfl, by decide +kernel, by decide +kernel⟩

theorem ok_law {fl : Addr} {fdl : FuncData} (Z : Zs mg) (F : Fun K "law" "law" s_law fl fdl) (F__law_tape : FnAt P w K mg base 1 "_law_tape" P__law_tape (spTape K)) (F__law_draw : FnAt P w K mg base 1 "_law_draw" P__law_draw spDraw) (F__law_greats : FnAt P w K mg base 2 "_law_greats" P__law_greats spGreats) (F__law_run : GAt P w K mg base 4 "_law_run" P__law_run spRun)
    (F_round_of : FnAt P w K mg base 1 "round_of" P_round_of (spD R_round_of)) (F_are_rounds : FnAt P w K mg base 4 "are_rounds" P_are_rounds (spD R_are_rounds)) (F__law_held : FnAt P w K mg base 3 "_law_held" P__law_held (spD R_law_held)) (F_told_way : FnAt P w K mg base 2 "told_way" P_told_way (spX (R_told P w))) (F_names_by : FnAt P w K mg base 4 "names_by" P_names_by (spX (R_names P w)))
    (F_view_of : FnAt P w K mg base 2 "view_of" P_view_of (spD R_view_of)) (F_level_names : FnAt P w K mg base 2 "level_names" P_level_names (spD R_level_names)) : FnG P w K mg base 5 fl fdl P_law (spLaw K) := by
  refine fun_okG F sc_law (fun vs H Q E ⟨_, _, e, _⟩ => by rw [e]; rfl) fun cdv A outer s H vs Q hg hr h => ?_
  have nd := sc_law.nd
  obtain ⟨a, ns, rfl, hS, q⟩ := h
  refine ⟨_, 
    (pss_cons (ps_set (i := 1) nd rfl (Or.inl rfl) (pe_fn F__law_tape (hr.mono (by decide)) rfl (pa_cons (pv 0) pa_nil))) 
    (pss_cons (ps_for PassesOwn.never rfl (pi_range1 rfl Z.z_range (pa_cons pe_int pa_nil)) (pg_name (i := 2) nd rfl (Or.inl rfl)) 
      (pss_cons (ps_set (i := 3) nd rfl (Or.inl rfl) (pe_op op_add pe_int (pe_fn F__law_draw (hr.mono (by decide)) rfl (pa_cons (pv 1) (pa_cons pe_int pa_nil))))) 
      (pss_cons (ps_set (i := 4) nd rfl (Or.inr rfl) (pe_fn F__law_greats (hr.mono (by decide)) rfl (pa_cons (pv 1) (pa_cons (pv 3) pa_nil)))) 
      (pss_cons (ps_set (i := 5) nd rfl (Or.inl rfl) (pe_fnG F__law_run hg (hr.mono (by decide)) rfl (pa_cons (pv 1) (pa_cons (pv 3) pa_nil)))) 
      (pss_cons (ps_if (pt_cmpR op_isN (pv 5) pe_non (nomark _)) 
        (pss_one (ps_ret pe_bl)) pss_nil) 
      (pss_cons (ps_set (i := 6) nd rfl (Or.inl rfl) (pe_tup (pa_cons (pe_fn F_round_of (hr.mono (by decide)) rfl (pa_cons (pv 5) pa_nil)) pa_nil))) 
      (pss_cons (ps_if (PW.pt (pw_or (pt_not (pt_val (pe_fn F_are_rounds (hr.mono (by decide)) rfl (pa_cons (pv 3) (pa_cons (pv 6) pa_nil))))) (pw_or1 (pt_cmpR (op_neP hr.units : OpR _ _ (rNeP K)) (pe_fn F__law_held (hr.mono (by decide)) rfl (pa_cons (pe_ix (ix_tup : IxR _ (rIxT K)) (pv 6) pe_int (fun _ _ => rfl)) (pa_cons (pv 3) pa_nil))) (pv 5) (nomark _))))) 
        (pss_one (ps_ret pe_bl)) pss_nil) 
      (pss_cons (ps_set (i := 7) nd rfl (Or.inl rfl) (pe_fn F_names_by (hr.mono (by decide)) rfl (pa_cons (pe_fn F_told_way (hr.mono (by decide)) rfl (pa_cons (pv 3) pa_nil)) (pa_cons (pv 4) (pa_cons (pv 6) pa_nil))))) 
      (pss_cons (ps_set (i := 8) nd rfl (Or.inl rfl) (pe_lst pa_nil)) 
      (pss_cons (ps_for PassesOwn.never rfl (pi_range1 rfl Z.z_range (pa_cons (pv 3) pa_nil)) (pg_name (i := 9) nd rfl (Or.inr rfl)) 
        (pss_cons (ps_set (i := 10) nd rfl (Or.inl rfl) (pe_ix (ix_tup : IxR _ (rIxT K)) (pe_ix (ix_tup : IxR _ (rIxT K)) (pe_ix (ix_tup : IxR _ (rIxT K)) (pv 5) pe_int (fun _ _ => rfl)) (pv 9) (fun _ _ => rfl)) pe_int (fun _ _ => rfl))) 
        (pss_cons (ps_if (pt_cmpR (op_neP hr.units : OpR _ _ (rNeP K)) (pe_callTy (call_tuple_of : CallR _ _ (rTupleS K)) rfl Z.z_tuple boot_tuple (pa_cons (pe_lc (own := [("_law_one", 12)]) (g := gName 12) rfl nd (pi_tup (pe_ix (ix_tup : IxR _ (rIxT K)) (pe_fn F_view_of (hr.mono (by decide)) rfl (pa_cons (pv 6) (pa_cons (pv 9) pa_nil))) pe_int (fun _ _ => rfl))) (blkOk_by (own := [("_law_one", 12)]) (N := N_law) (sc := defScope s_law) (by decide +kernel)) (fun _ _ _ _ _ => (pg_name (i := 12) nd rfl (Or.inl rfl))) (fun _ _ _ _ _ => pts_nil) (fun _ _ _ _ _ => (pe_ix (ix_tup : IxR _ (rIxT K)) (pv 12) pe_int (fun _ _ => rfl)))) pa_nil)) (pv 10) (nomark _)) 
          (pss_one (ps_ret pe_bl)) pss_nil) 
        (pss_cons (ps_set (i := 11) nd rfl (Or.inl rfl) (pe_callB (call_len_seq : CallR _ _ (rLenS K)) rfl Z.z_len boot_len (pa_cons (pe_lc (own := [("_law_one", 12)]) (g := gName 12) rfl nd (pi_tup (pv 10)) (blkOk_by (own := [("_law_one", 12)]) (N := N_law) (sc := defScope s_law) (by decide +kernel)) (fun _ _ _ _ _ => (pg_name (i := 12) nd rfl (Or.inl rfl))) (fun _ _ _ _ _ => (pts_one (pt_cmpR op_lt (pe_ix (ix_tup : IxR _ (rIxT K)) (pv 4) (pv 12) (fun _ _ => rfl)) (pe_ix (ix_tup : IxR _ (rIxT K)) (pv 4) (pv 9) (fun _ _ => rfl)) (nomark _)))) (fun _ _ _ _ _ => (pv 12))) pa_nil))) 
        (pss_one (ps_expr (pe_bmK (K := K) (r := rAppend) rfl PySem.F.plainAttrs_list PySem.F.slot_list_append PySem.F.type_list_append mt_append (pv 8) (pa_cons (pe_op op_add (pe_op op_add (pe_op op_fdiv (pe_op op_mul (pe_callB (call_len_seq : CallR _ _ (rLenS K)) rfl Z.z_len boot_len (pa_cons (pv 10) pa_nil)) (pe_op op_sub (pe_callB (call_len_seq : CallR _ _ (rLenS K)) rfl Z.z_len boot_len (pa_cons (pv 10) pa_nil)) pe_int)) pe_int) (pv 11)) pe_int) pa_nil)))))))) 
      (pss_cons (ps_if (PW.pt (pw_or (pt_cmpR (op_neP hr.units : OpR _ _ (rNeP K)) (pe_fn F_level_names (hr.mono (by decide)) rfl (pa_cons (pv 4) (pa_cons (pv 5) pa_nil))) (pe_callTy (call_tuple_of : CallR _ _ (rTupleS K)) rfl Z.z_tuple boot_tuple (pa_cons (pv 8) pa_nil)) (nomark _)) (pw_or1 (pt_cmpR (op_ne_dictA (Nat.lt_of_le_of_lt (Nat.le_add_right _ _) hr.units)) (pv 7) (pe_dictZip rfl Z.z_dict rfl Z.z_zip (pa_cons (pe_callTy (cr_range1 : CallR _ _ rRng1) rfl Z.z_range boot_range (pa_cons (pv 3) pa_nil)) (pa_cons (pv 8) pa_nil))) (nomark _))))) 
        (pss_one (ps_ret pe_bl)) pss_nil) 
      (pss_one (ps_if (pt_cmpR op_ne (RZ.pe_lenSetI rfl Z.z_len rfl Z.z_set (pv 8)) (pv 3) (nomark _)) 
        (pss_one (ps_ret pe_bl)) pss_nil))))))))))))) 
    (pss_one (ps_ret pe_bl)))), ?_⟩
  have En := Env.start N_law (Tps.cons (.ptr a) (Tps.nil (H := H)))
  refine q_tape hS En rfl fun p l σ1 H1 e1 T1 En => ?_
  refine q_forR1 (n := 5) En ev_int (by decide) (fun i σ' H' => Tape l (i * 300) p H' ∧ Env σ' H' [none, some (.ptr p), none, none, none, none, none, none, none, none, none, none, none]) (fun H2 e2 => ⟨by rw [Nat.zero_mul]; exact T1.ex e2, (En.ex e2).only (i := 1) rfl⟩) (fun i σ' H' hi ⟨T2, k3⟩ => ?_) fun σ' H' ⟨T2, k3⟩ => ?_
  · refine tg_name (vs := [2]) (List.mem_singleton.mpr rfl) _ σ' H' _ k3 (.int _) fun σ3 E3 _ => ?_
    have hi5 : i < 5 := by omega
    refine q_asgM E3 (em_add ev_int (em_draw T2 (by omega) (m := 4) (by decide) (by decide) (ev_var rfl) ev_int)) fun d4 σ4 H4 m4 T4 c4 E4 => ?_
    obtain ⟨m, rfl, c1, c2⟩ := c4
    obtain ⟨n, rfl⟩ : ∃ n : Nat, m = (n : Int) := ⟨m.toNat, by omega⟩
    have n1 : 1 ≤ n := by omega
    have n4 : n ≤ 4 := by omega
    refine q_greats T4 (by omega) (by omega) E4 (ev_var rfl) (ev_var rfl) fun gs σ5 H5 m5 T5 lg ng E5 => ?_
    refine q_run T5 (by omega) n1 n4 E5 (ev_var rfl) (ev_var rfl) fun ws σ6 H6 m6 T6 Fn E6 => ?_
    refine q_no E6 (et_is (et_test (ev_isN (ev_var rfl) ev_non)) rfl) fun H7 e7 => ?_
    have E7 := E6.ex e7
    have T7 := T6.ex e7
    have hsl := szs_short (n := n) (ws := ws)
    have hrl : (rnd n ws).length ≤ n + 1 := by
      unfold rnd
      rw [List.length_map]
      exact hsl
    refine q_asg (d := .tup [encR (rnd n ws)]) E7 (ev_tup (ea_cons (ev_call (ea_cons (ev_var rfl) ea_nil) ⟨_, ws, szs n ws, rfl, by rw [Fn.len]; omega, by omega, szs_up, Fn.szs_len, rfl⟩) ea_nil) l1) fun σ8 H8 e8 E8 => ?_
    have T8 := T7.ex e8
    have hheld : R_law_held [encR (rnd n ws), .int (n : Nat)] (encS (ws.map fun v => some (v.length : Int)) (ws.map .holds)) := ⟨rnd n ws, ws, by rw [Fn.len], by omega, by rw [Fn.flat_len]; omega, by rw [Fn.len]; omega, fun j v hv => by
      have hj : j < n := by rw [← Fn.len]; exact (List.getElem?_eq_some_iff.mp hv).1
      have := Fn.seen hj
      rw [getD_eq hv] at this
      exact this, rfl⟩
    refine q_no E8 (et_is (et_or (a := false) (b := false) (et_is (et_not (et_test (ev_call (ea_cons (ev_var rfl) (ea_cons (ev_var rfl) ea_nil)) ⟨n, rnd n ws, rfl, Fn.round n1 (by omega), rfl⟩))) rfl) fun _ => et_test (ev_same (ev_call (ea_cons (ev_ixT (ds := [encR (rnd n ws)]) (d := encR (rnd n ws)) (ev_var rfl) ev_int rfl) (ea_cons (ev_var rfl) ea_nil)) hheld) (ev_var rfl) (pd_S ws) (by decide))) rfl) fun H9 e9 => ?_
    have E9 := E8.ex e9
    have T9 := T8.ex e9
    have hmem : ∀ g ∈ (rnd n ws).flatten, ∃ j : Nat, j < n ∧ g = (j : Int) := fun g hg => by
      have := (sortI_perm (rnd n ws).flatten).mem_iff.mpr hg
      rw [Fn.flat_sort] at this
      obtain ⟨j, hj, rfl⟩ := List.mem_map.mp this
      exact ⟨j, List.mem_range.mp hj, rfl⟩
    have hin : ∀ j : Nat, j < n → (j : Int) ∈ (rnd n ws).flatten := fun j hj => by
      refine (sortI_perm (rnd n ws).flatten).mem_iff.mp ?_
      rw [Fn.flat_sort]
      exact List.mem_map.mpr ⟨j, List.mem_range.mpr hj, rfl⟩
    have hsn : ∀ g ∈ (rnd n ws).flatten, SeenAt (rnd n ws) g (ws.getD g.toNat []) := fun g hg => by
      obtain ⟨j, hj, rfl⟩ := hmem g hg
      rw [Int.toNat_natCast]
      exact Fn.seen hj
    have hnm : ∀ h ∈ (rnd n ws).flatten, R_type_of [.tup (gs.map .int), encV h (ws.getD h.toNat [])] (kindD (rkOf gs (ws.getD h.toNat []) h) (ws.getD h.toNat []).length) ∧ (kindD (rkOf gs (ws.getD h.toNat []) h) (ws.getD h.toNat []).length, nameI gs (ws.getD h.toNat []) h.toNat) ∈ wayK n := fun g hg => by
      obtain ⟨j, hj, rfl⟩ := hmem g hg
      rw [Int.toNat_natCast]
      exact ⟨Fn.type lg ng (by omega) hj, Fn.named hj⟩
    refine q_asgX (Φ := fun p H => DicI p (((List.range n).map fun j : Nat => ((j : Int), nameI gs (ws.getD j []) j)).map fun kv => (kv.1, D.int kv.2)) H) E9 (ex_callX (Φ0 := fun p H => DicN P w H p (wayK n)) (ex_call (ea_cons (ev_var rfl) ea_nil) fun H1 _ => ⟨n, rfl, by omega, rfl⟩) (fun p H1 H2 h e => h.ex e) (ea_cons (ev_var rfl) (ea_cons (ev_var rfl) ea_nil)) fun p H1 e1 f1 => ⟨p, n, gs, rnd n ws, fun g => ws.getD g.toNat [], fun g => nameI gs (ws.getD g.toNat []) g.toNat, rfl, f1, by omega, by rw [Fn.flat_len]; omega, Fn.nd, hsn, hnm, ?_⟩) fun pn σ10 H10 hp10 e10 D10 E10 => ?_
    · rw [Fn.flat_sort, List.map_map, List.map_map]
      rfl
    have T10 := T9.ex e10
    refine q_asgL E10 (el_lst ea_nil (Nat.zero_le _)) fun pd σ11 H11 hp11 e11 L11 E11 => ?_
    have T11 := T10.ex e11
    have D11 := D10.ex e11
    have npn : pn ≠ pd := D10.ne hp11
    obtain ⟨_, zp⟩ := T10.isL
    obtain ⟨_, zl⟩ := T10.isM
    have npp : p ≠ pd := ne_of_none zp hp11
    have npl : l ≠ pd := ne_of_none zl hp11
    refine q_forR1 (n := (n : Int)) E11 (ev_var rfl) (by omega) (fun j σ' H' => Mut H11 H' pd ∧ Lst H' pd (((List.range j).map fun j => nameI gs (ws.getD j []) j).map .int) ∧ Env σ' H' [none, some (.ptr p), none, some (.int (n : Nat)), some (.tup (gs.map .int)), some (finS ws), some (.tup [encR (rnd n ws)]), some (.ptr pn), some (.ptr pd), none, none, none, none]) (fun H12 e12 => ⟨Mut.ofEx e12, L11.ex e12, (E11.ex e12).forget 2⟩) (fun j σ' H' hj ⟨k1, k2, k3⟩ => ?_) fun σ' H' ⟨k1, k2, k3⟩ => ?_
    · have hj : j < n := by omega
      refine tg_name (vs := [9]) (List.mem_singleton.mpr rfl) _ σ' H' _ k3 (.int _) fun σ12 E12 _ => ?_
      have hwj : ws[j]? = some (ws.getD j []) := getD_at (by rw [Fn.len]; exact hj)
      have hlv : (ws.getD j []).length ≤ 4 := by
        have := (Fn.pos j hj).2
        unfold sz at this
        omega
      generalize hv : ws.getD j [] = v at hwj hlv
      refine q_asg (d := encB v) E12 (ev_ixT (ds := [.str "holds", encB v]) (ev_ixT (ds := (ws.map Hr.holds).map Hr.enc) (d := (Hr.holds v).enc) (ev_ixT (ds := [.tup ((ws.map fun v => some (v.length : Int)).map encX), .tup ((ws.map Hr.holds).map Hr.enc)]) (ev_var rfl) ev_int rfl) (ev_var rfl) (atI_some (by rw [List.getElem?_map, List.getElem?_map, hwj]; rfl))) ev_int rfl) fun σ13 H13 e13 E13 => ?_
      have hvw : R_view_of [.tup [encR (rnd n ws)], .int (j : Nat)] (encV j v) := ⟨rnd n ws, fun g => ws.getD g.toNat [], j, rfl, by omega, by rw [Fn.flat_len]; omega, Fn.nd, hsn, hin j hj, by
        show encV j v = encV j (ws.getD ((j : Int)).toNat [])
        rw [Int.toNat_natCast, hv]⟩
      refine q_no E13 (et_test (ev_same (d := encB v) (ev_tupleN (ds := v.map .int) (el_mapN (xs := v) (enc := pl) (ei_tup (ev_ixT (ds := [.int j, .tup (v.map pl)]) (d := .tup (v.map pl)) (ev_call (ea_cons (ev_var rfl) (ea_cons (ev_var rfl) ea_nil)) hvw) ev_int rfl)) (fun g => .int g) (by omega) fun g hg => ev_ixT (ds := [.int g, .tup []]) (d := .int g) (ev_var rfl) ev_int rfl)) (ev_var rfl) (pd_B v) (by decide))) fun H14 e14 => ?_
      have E14 := E13.ex e14
      have eg : ∀ {ρ : List (Option D)} {H : Hp} {ta tb : TE} {g : Int}, g ∈ v → Ev ta ρ H (.tup (gs.map .int)) → Ev tb ρ H (.int g) → Ev (tOp (rIxT K) ta tb) ρ H (.int (gsAt gs g)) := fun {ρ H ta tb g} hg' ha hb' => by
        obtain ⟨a, b⟩ := Fn.view_in hj (by rw [hv]; exact hg')
        obtain ⟨m, rfl⟩ : ∃ m : Nat, g = (m : Int) := ⟨g.toNat, by omega⟩
        rw [gsAt_nat]
        exact ev_great (gs := gs) (i := m) (K := K) (by omega) ha hb'
      have hself : (j : Int) ∈ v := by rw [← hv]; exact Fn.self hj
      refine q_asg (d := .int (rkOf gs v j : Nat)) E14 (ev_is (ev_lenN (el_lcN (xs := v) (enc := .int) (ei_tup (ev_var rfl)) (fun g => decide (gsAt gs g < gsAt gs j)) .int (by omega) (fun g hg => et_test (ev_lt (eg hg (ev_var rfl) (ev_var rfl)) (eg hself (ev_var rfl) (ev_var rfl)))) fun g _ _ => ev_var rfl)) (by rw [List.length_map]; rfl)) fun σ15 H15 e15 E15 => ?_
      have k2' := ((k2.ex e13).ex e14).ex e15
      refine x_appM (d := .int (nameI gs v j)) k2' (by rw [List.length_map, List.length_map, List.length_range]; omega) E15 (ev_var rfl) (ev_add (ev_add (ev_fdiv (ev_mul (ev_is (e := .int (v.length : Nat)) (ev_lenT (ds := v.map .int) (ev_var rfl)) (by rw [List.length_map])) (ev_sub (ev_is (e := .int (v.length : Nat)) (ev_lenT (ds := v.map .int) (ev_var rfl)) (by rw [List.length_map])) ev_int) (.inl ⟨by omega, by omega⟩)) ev_int ⟨by decide, by decide⟩) (ev_var rfl)) ev_int) fun H16 m16 L16 E16 => ?_
      refine ⟨(k1.trans (Mut.ofEx ((e13.trans e14).trans e15))).trans m16, ?_, (((E16.forget 9).forget 10).forget 11)⟩
      rw [List.range_succ, List.map_append, List.map_append]
      simp only [List.map_cons, List.map_nil, hv]
      exact L16
    · rw [Int.toNat_natCast] at k2
      have k2 : Lst H' pd ((due gs n ws).map .int) := k2
      have D' := k1.dic D11 npn
      have T' := k1.tape T11 npp npl
      have hln : R_level_names [.tup (gs.map .int), encS (ws.map fun v => some (v.length : Int)) (ws.map .holds)] (encB (due gs n ws)) := by
        refine ⟨gs, ws.map fun v => some (v.length : Int), nats n ws, ?_, ?_, by omega, fun v hv => ?_, by rw [Fn.due_eq]⟩
        · have e : (nats n ws).map (fun v => Hr.holds (asI v)) = ws.map .holds := by
            conv => rhs; rw [Fn.nats_eq]
            rw [List.map_map]
            rfl
          rw [e]
        · unfold nats
          rw [List.length_map, List.length_range, lg]
        · unfold nats at hv
          obtain ⟨j, hj, rfl⟩ := List.mem_map.mp hv
          have := List.length_filter_le (fun i => decide (sz ws i ≤ sz ws j)) (List.range n)
          rw [List.length_range] at this
          exact ⟨by omega, fun i hi => by rw [lg]; exact List.mem_range.mp (List.mem_filter.mp hi).1⟩
      have hnl := due_len (gs := gs) (n := n) (ws := ws)
      refine q_no k3 (et_is (et_or (a := false) (b := false) (et_test (ev_same (d := encB (due gs n ws)) (ev_call (ea_cons (ev_var rfl) (ea_cons (ev_var rfl) ea_nil)) hln) (ev_tupleL (ds := (due gs n ws).map .int) k2 (ev_var rfl)) (pd_B _) (by decide))) fun _ => et_test (ev_neDic (kvs := (List.range n).map fun j : Nat => ((j : Int), nameI gs (ws.getD j []) j)) (lvs := (due gs n ws).zipIdx.map fun p => ((p.2 : Int), p.1)) ?_ ?_ ?_ D' (ev_var rfl) ?_)) rfl) fun H17 e17 => ?_
      · rw [← Fin1.kvs_eq, List.map_map]
        exact List.pairwise_map.mpr (List.nodup_range.imp fun hne e => hne (Int.ofNat_inj.mp e))
      · rw [Fin1.kvs_eq]
      · intro kv hkv
        rw [← Fin1.kvs_eq]
        exact hkv
      · have := ex_dictZip (K := K) (ta := tVar 3) (tb := tVar 8) (ρ := [none, some (.ptr p), none, some (.int (n : Nat)), some (.tup (gs.map .int)), some (finS ws), some (.tup [encR (rnd n ws)]), some (.ptr pn), some (.ptr pd), none, none, none, none]) k2 (by omega) (by rw [hnl]; exact ev_var rfl) (ev_var rfl)
        rw [List.map_map]
        exact this
      · have E17 := k3.ex e17
        refine x_if (b := false) E17 (et_is (et_test (ev_neI (ev_lenSet (k2.ex e17) (by omega) (Fn.due_nd lg ng) (ev_var rfl)) (ev_var rfl))) ?_) (fun z => nomatch z) fun _ H18 e18 => ?_
        · rw [hnl]
          simp
        · exact ⟨((T'.ex e17).ex e18).le (by omega), (E17.ex e18).only (i := 1) rfl⟩
  · exact x_ret k3 ev_bl fun v H2 e2 t2 => by
      rw [t2.invB]
      exact q H2
end
end Hn


namespace Hn
open PySem PySem.Spec PyProof.Rows L2
/-- a def of the top, as it stands in the heap -/
structure Stood (K : PySem.W.Frag) (x : Str) (st : Stmt) (f : Addr) (fd : FuncData) : Prop where
  at' : PySem.W.nsIn K mainGlobals x = some (some (.ref f))
  fn : Fun K x x st f fd
section
variable {P : Program} {w : World} {K : PySem.W.Frag} {mg : Str → Option Value} {base h : Heap}
theorem da_is_whole {f : Addr} {fd : FuncData} (X : K.In h) (G : h.Ns mainGlobals mg) (S : Stood K "is_whole" s_is_whole f fd) : DefAt K mg "is_whole" s_is_whole P_is_whole := ⟨f, fd, PySem.W.mg_of X G S.at', S.fn, S.fn.binds (ps := P_is_whole) fun _ _ _ _ _ _ us hl => match us, hl with | [_, _, _], _ => rfl⟩
theorem da_is_rising {f : Addr} {fd : FuncData} (X : K.In h) (G : h.Ns mainGlobals mg) (S : Stood K "is_rising" s_is_rising f fd) : DefAt K mg "is_rising" s_is_rising P_is_rising := ⟨f, fd, PySem.W.mg_of X G S.at', S.fn, S.fn.binds (ps := P_is_rising) fun _ _ _ _ _ _ us hl => match us, hl with | [_], _ => rfl⟩
theorem da_is_block {f : Addr} {fd : FuncData} (X : K.In h) (G : h.Ns mainGlobals mg) (S : Stood K "is_block" s_is_block f fd) : DefAt K mg "is_block" s_is_block P_is_block := ⟨f, fd, PySem.W.mg_of X G S.at', S.fn, S.fn.binds (ps := P_is_block) fun _ _ _ _ _ _ us hl => match us, hl with | [_, _], _ => rfl⟩
theorem da_hands_in {f : Addr} {fd : FuncData} (X : K.In h) (G : h.Ns mainGlobals mg) (S : Stood K "hands_in" s_hands_in f fd) : DefAt K mg "hands_in" s_hands_in P_hands_in := ⟨f, fd, PySem.W.mg_of X G S.at', S.fn, S.fn.binds (ps := P_hands_in) fun _ _ _ _ _ _ us hl => match us, hl with | [_], _ => rfl⟩
theorem da_is_round {f : Addr} {fd : FuncData} (X : K.In h) (G : h.Ns mainGlobals mg) (S : Stood K "is_round" s_is_round f fd) : DefAt K mg "is_round" s_is_round P_is_round := ⟨f, fd, PySem.W.mg_of X G S.at', S.fn, S.fn.binds (ps := P_is_round) fun _ _ _ _ _ _ us hl => match us, hl with | [_, _], _ => rfl⟩
theorem da_are_rounds {f : Addr} {fd : FuncData} (X : K.In h) (G : h.Ns mainGlobals mg) (S : Stood K "are_rounds" s_are_rounds f fd) : DefAt K mg "are_rounds" s_are_rounds P_are_rounds := ⟨f, fd, PySem.W.mg_of X G S.at', S.fn, S.fn.binds (ps := P_are_rounds) fun _ _ _ _ _ _ us hl => match us, hl with | [_, _], _ => rfl⟩
theorem da_seen_by {f : Addr} {fd : FuncData} (X : K.In h) (G : h.Ns mainGlobals mg) (S : Stood K "seen_by" s_seen_by f fd) : DefAt K mg "seen_by" s_seen_by P_seen_by := ⟨f, fd, PySem.W.mg_of X G S.at', S.fn, S.fn.binds (ps := P_seen_by) fun _ _ _ _ _ _ us hl => match us, hl with | [_, _], _ => rfl⟩
theorem da_view_of {f : Addr} {fd : FuncData} (X : K.In h) (G : h.Ns mainGlobals mg) (S : Stood K "view_of" s_view_of f fd) : DefAt K mg "view_of" s_view_of P_view_of := ⟨f, fd, PySem.W.mg_of X G S.at', S.fn, S.fn.binds (ps := P_view_of) fun _ _ _ _ _ _ us hl => match us, hl with | [_, _], _ => rfl⟩
theorem da_round_of {f : Addr} {fd : FuncData} (X : K.In h) (G : h.Ns mainGlobals mg) (S : Stood K "round_of" s_round_of f fd) : DefAt K mg "round_of" s_round_of P_round_of := ⟨f, fd, PySem.W.mg_of X G S.at', S.fn, S.fn.binds (ps := P_round_of) fun _ _ _ _ _ _ us hl => match us, hl with | [_], _ => rfl⟩
theorem da_first_levels {f : Addr} {fd : FuncData} (X : K.In h) (G : h.Ns mainGlobals mg) (S : Stood K "first_levels" s_first_levels f fd) : DefAt K mg "first_levels" s_first_levels P_first_levels := ⟨f, fd, PySem.W.mg_of X G S.at', S.fn, S.fn.binds (ps := P_first_levels) fun _ _ _ _ _ _ us hl => match us, hl with | [_], _ => rfl⟩
theorem da_laid_at {f : Addr} {fd : FuncData} (X : K.In h) (G : h.Ns mainGlobals mg) (S : Stood K "laid_at" s_laid_at f fd) : DefAt K mg "laid_at" s_laid_at P_laid_at := ⟨f, fd, PySem.W.mg_of X G S.at', S.fn, S.fn.binds (ps := P_laid_at) fun _ _ _ _ _ _ us hl => match us, hl with | [_, _, _], _ => rfl⟩
theorem da_hands_within {f : Addr} {fd : FuncData} (X : K.In h) (G : h.Ns mainGlobals mg) (S : Stood K "hands_within" s_hands_within f fd) : DefAt K mg "hands_within" s_hands_within P_hands_within := ⟨f, fd, PySem.W.mg_of X G S.at', S.fn, S.fn.binds (ps := P_hands_within) fun _ _ _ _ _ _ us hl => match us, hl with | [_, _], _ => rfl⟩
theorem da_behind_look {f : Addr} {fd : FuncData} (X : K.In h) (G : h.Ns mainGlobals mg) (S : Stood K "behind_look" s_behind_look f fd) : DefAt K mg "behind_look" s_behind_look P_behind_look := ⟨f, fd, PySem.W.mg_of X G S.at', S.fn, S.fn.binds (ps := P_behind_look) fun _ _ _ _ _ _ us hl => match us, hl with | [_, _], _ => rfl⟩
theorem da_step_levels {f : Addr} {fd : FuncData} (X : K.In h) (G : h.Ns mainGlobals mg) (S : Stood K "step_levels" s_step_levels f fd) : DefAt K mg "step_levels" s_step_levels P_step_levels := ⟨f, fd, PySem.W.mg_of X G S.at', S.fn, S.fn.binds (ps := P_step_levels) fun _ _ _ _ _ _ us hl => match us, hl with | [_, _], _ => rfl⟩
theorem da_level_name {f : Addr} {fd : FuncData} (X : K.In h) (G : h.Ns mainGlobals mg) (S : Stood K "level_name" s_level_name f fd) : DefAt K mg "level_name" s_level_name P_level_name := ⟨f, fd, PySem.W.mg_of X G S.at', S.fn, S.fn.binds (ps := P_level_name) fun _ _ _ _ _ _ us hl => match us, hl with | [_, _, _], _ => rfl⟩
theorem da_level_names {f : Addr} {fd : FuncData} (X : K.In h) (G : h.Ns mainGlobals mg) (S : Stood K "level_names" s_level_names f fd) : DefAt K mg "level_names" s_level_names P_level_names := ⟨f, fd, PySem.W.mg_of X G S.at', S.fn, S.fn.binds (ps := P_level_names) fun _ _ _ _ _ _ us hl => match us, hl with | [_, _], _ => rfl⟩
theorem da_standing {f : Addr} {fd : FuncData} (X : K.In h) (G : h.Ns mainGlobals mg) (S : Stood K "standing" s_standing f fd) : DefAt K mg "standing" s_standing P_standing := ⟨f, fd, PySem.W.mg_of X G S.at', S.fn, S.fn.binds (ps := P_standing) fun _ _ _ _ _ _ us hl => match us, hl with | [_], _ => rfl⟩
theorem da_placed {f : Addr} {fd : FuncData} (X : K.In h) (G : h.Ns mainGlobals mg) (S : Stood K "placed" s_placed f fd) : DefAt K mg "placed" s_placed P_placed := ⟨f, fd, PySem.W.mg_of X G S.at', S.fn, S.fn.binds (ps := P_placed) fun _ _ _ _ _ _ us hl => match us, hl with | [_, _], _ => rfl⟩
theorem da_type_of {f : Addr} {fd : FuncData} (X : K.In h) (G : h.Ns mainGlobals mg) (S : Stood K "type_of" s_type_of f fd) : DefAt K mg "type_of" s_type_of P_type_of := ⟨f, fd, PySem.W.mg_of X G S.at', S.fn, S.fn.binds (ps := P_type_of) fun _ _ _ _ _ _ us hl => match us, hl with | [_, _], _ => rfl⟩
theorem da_one_round_types {f : Addr} {fd : FuncData} (X : K.In h) (G : h.Ns mainGlobals mg) (S : Stood K "one_round_types" s_one_round_types f fd) : DefAt K mg "one_round_types" s_one_round_types P_one_round_types := ⟨f, fd, PySem.W.mg_of X G S.at', S.fn, S.fn.binds (ps := P_one_round_types) fun _ _ _ _ _ _ us hl => match us, hl with | [_], _ => rfl⟩
theorem da_names_by {f : Addr} {fd : FuncData} (X : K.In h) (G : h.Ns mainGlobals mg) (S : Stood K "names_by" s_names_by f fd) : DefAt K mg "names_by" s_names_by P_names_by := ⟨f, fd, PySem.W.mg_of X G S.at', S.fn, S.fn.binds (ps := P_names_by) fun _ _ _ _ _ _ us hl => match us, hl with | [_, _, _], _ => rfl⟩
theorem da_told_way {f : Addr} {fd : FuncData} (X : K.In h) (G : h.Ns mainGlobals mg) (S : Stood K "told_way" s_told_way f fd) : DefAt K mg "told_way" s_told_way P_told_way := ⟨f, fd, PySem.W.mg_of X G S.at', S.fn, S.fn.binds (ps := P_told_way) fun _ _ _ _ _ _ us hl => match us, hl with | [_], _ => rfl⟩
theorem da__law_tape {f : Addr} {fd : FuncData} (X : K.In h) (G : h.Ns mainGlobals mg) (S : Stood K "_law_tape" s__law_tape f fd) : DefAt K mg "_law_tape" s__law_tape P__law_tape := ⟨f, fd, PySem.W.mg_of X G S.at', S.fn, S.fn.binds (ps := P__law_tape) fun _ _ _ _ _ _ us hl => match us, hl with | [_], _ => rfl⟩
theorem da__law_draw {f : Addr} {fd : FuncData} (X : K.In h) (G : h.Ns mainGlobals mg) (S : Stood K "_law_draw" s__law_draw f fd) : DefAt K mg "_law_draw" s__law_draw P__law_draw := ⟨f, fd, PySem.W.mg_of X G S.at', S.fn, S.fn.binds (ps := P__law_draw) fun _ _ _ _ _ _ us hl => match us, hl with | [_, _], _ => rfl⟩
theorem da__law_greats {f : Addr} {fd : FuncData} (X : K.In h) (G : h.Ns mainGlobals mg) (S : Stood K "_law_greats" s__law_greats f fd) : DefAt K mg "_law_greats" s__law_greats P__law_greats := ⟨f, fd, PySem.W.mg_of X G S.at', S.fn, S.fn.binds (ps := P__law_greats) fun _ _ _ _ _ _ us hl => match us, hl with | [_, _], _ => rfl⟩
theorem da__law_hands {f : Addr} {fd : FuncData} (X : K.In h) (G : h.Ns mainGlobals mg) (S : Stood K "_law_hands" s__law_hands f fd) : DefAt K mg "_law_hands" s__law_hands P__law_hands := ⟨f, fd, PySem.W.mg_of X G S.at', S.fn, S.fn.binds (ps := P__law_hands) fun _ _ _ _ _ _ us hl => match us, hl with | [_], _ => rfl⟩
theorem da__law_seen {f : Addr} {fd : FuncData} (X : K.In h) (G : h.Ns mainGlobals mg) (S : Stood K "_law_seen" s__law_seen f fd) : DefAt K mg "_law_seen" s__law_seen P__law_seen := ⟨f, fd, PySem.W.mg_of X G S.at', S.fn, S.fn.binds (ps := P__law_seen) fun _ _ _ _ _ _ us hl => match us, hl with | [_, _], _ => rfl⟩
theorem da__law_held {f : Addr} {fd : FuncData} (X : K.In h) (G : h.Ns mainGlobals mg) (S : Stood K "_law_held" s__law_held f fd) : DefAt K mg "_law_held" s__law_held P__law_held := ⟨f, fd, PySem.W.mg_of X G S.at', S.fn, S.fn.binds (ps := P__law_held) fun _ _ _ _ _ _ us hl => match us, hl with | [_, _], _ => rfl⟩
theorem da__law_stepped {f : Addr} {fd : FuncData} (X : K.In h) (G : h.Ns mainGlobals mg) (S : Stood K "_law_stepped" s__law_stepped f fd) : DefAt K mg "_law_stepped" s__law_stepped P__law_stepped := ⟨f, fd, PySem.W.mg_of X G S.at', S.fn, S.fn.binds (ps := P__law_stepped) fun _ _ _ _ _ _ us hl => match us, hl with | [_, _], _ => rfl⟩
theorem da__law_begun {f : Addr} {fd : FuncData} (X : K.In h) (G : h.Ns mainGlobals mg) (S : Stood K "_law_begun" s__law_begun f fd) : DefAt K mg "_law_begun" s__law_begun P__law_begun := ⟨f, fd, PySem.W.mg_of X G S.at', S.fn, S.fn.binds (ps := P__law_begun) fun _ _ _ _ _ _ us hl => match us, hl with | [_], _ => rfl⟩
theorem da__law_run {f : Addr} {fd : FuncData} (X : K.In h) (G : h.Ns mainGlobals mg) (S : Stood K "_law_run" s__law_run f fd) : DefAt K mg "_law_run" s__law_run P__law_run := ⟨f, fd, PySem.W.mg_of X G S.at', S.fn, S.fn.binds (ps := P__law_run) fun _ _ _ _ _ _ us hl => match us, hl with | [_, _], _ => rfl⟩
theorem law_all {fl : Addr} {fdl : FuncData} (Z : Zs mg) (F : Fun K "law" "law" s_law fl fdl) (D_is_whole : DefAt K mg "is_whole" s_is_whole P_is_whole) (D_is_rising : DefAt K mg "is_rising" s_is_rising P_is_rising) (D_is_block : DefAt K mg "is_block" s_is_block P_is_block) (D_hands_in : DefAt K mg "hands_in" s_hands_in P_hands_in) (D_is_round : DefAt K mg "is_round" s_is_round P_is_round) (D_are_rounds : DefAt K mg "are_rounds" s_are_rounds P_are_rounds) (D_seen_by : DefAt K mg "seen_by" s_seen_by P_seen_by) (D_view_of : DefAt K mg "view_of" s_view_of P_view_of) (D_round_of : DefAt K mg "round_of" s_round_of P_round_of) (D_first_levels : DefAt K mg "first_levels" s_first_levels P_first_levels) (D_laid_at : DefAt K mg "laid_at" s_laid_at P_laid_at) (D_hands_within : DefAt K mg "hands_within" s_hands_within P_hands_within) (D_behind_look : DefAt K mg "behind_look" s_behind_look P_behind_look) (D_step_levels : DefAt K mg "step_levels" s_step_levels P_step_levels) (D_level_name : DefAt K mg "level_name" s_level_name P_level_name) (D_level_names : DefAt K mg "level_names" s_level_names P_level_names) (D_standing : DefAt K mg "standing" s_standing P_standing) (D_placed : DefAt K mg "placed" s_placed P_placed) (D_type_of : DefAt K mg "type_of" s_type_of P_type_of) (D_one_round_types : DefAt K mg "one_round_types" s_one_round_types P_one_round_types) (D_names_by : DefAt K mg "names_by" s_names_by P_names_by) (D_told_way : DefAt K mg "told_way" s_told_way P_told_way) (D__law_tape : DefAt K mg "_law_tape" s__law_tape P__law_tape) (D__law_draw : DefAt K mg "_law_draw" s__law_draw P__law_draw) (D__law_greats : DefAt K mg "_law_greats" s__law_greats P__law_greats) (D__law_hands : DefAt K mg "_law_hands" s__law_hands P__law_hands) (D__law_seen : DefAt K mg "_law_seen" s__law_seen P__law_seen) (D__law_held : DefAt K mg "_law_held" s__law_held P__law_held) (D__law_stepped : DefAt K mg "_law_stepped" s__law_stepped P__law_stepped) (D__law_begun : DefAt K mg "_law_begun" s__law_begun P__law_begun) (D__law_run : DefAt K mg "_law_run" s__law_run P__law_run) : FnG P w K mg base 5 fl fdl P_law (spLaw K) := by
  have o_is_whole := ok_is_whole (P := P) (w := w) (base := base) Z D_is_whole
  have o_is_rising := ok_is_rising (P := P) (w := w) (base := base) Z D_is_rising
  have o_is_block := ok_is_block (P := P) (w := w) (base := base) Z D_is_block o_is_whole o_is_rising
  have o_hands_in := ok_hands_in (P := P) (w := w) (base := base) Z D_hands_in
  have o_is_round := ok_is_round (P := P) (w := w) (base := base) Z D_is_round o_is_block o_hands_in o_is_rising
  have o_are_rounds := ok_are_rounds (P := P) (w := w) (base := base) Z D_are_rounds o_is_round
  have o_seen_by := ok_seen_by (P := P) (w := w) (base := base) Z D_seen_by
  have o_view_of := ok_view_of (P := P) (w := w) (base := base) Z D_view_of o_hands_in o_seen_by
  have o_round_of := ok_round_of (P := P) (w := w) (base := base) Z D_round_of
  have o_first_levels := ok_first_levels (P := P) (w := w) (base := base) Z D_first_levels
  have o_laid_at := ok_laid_at (P := P) (w := w) (base := base) Z D_laid_at
  have o_hands_within := ok_hands_within (P := P) (w := w) (base := base) Z D_hands_within
  have o_behind_look := ok_behind_look (P := P) (w := w) (base := base) Z D_behind_look o_hands_within
  have o_step_levels := ok_step_levels (P := P) (w := w) (base := base) Z D_step_levels o_laid_at o_behind_look
  have o_level_name := ok_level_name (P := P) (w := w) (base := base) Z D_level_name
  have o_level_names := ok_level_names (P := P) (w := w) (base := base) Z D_level_names o_level_name
  have o_one_round_types := ok_one_round_types (P := P) (w := w) (base := base) Z D_one_round_types
  have o_told_way := ok_told_way (P := P) (w := w) (base := base) Z D_told_way o_one_round_types
  have o__law_tape := ok__law_tape (P := P) (w := w) (base := base) Z D__law_tape
  have o__law_draw := ok__law_draw (P := P) (w := w) (base := base) Z D__law_draw
  have o__law_greats := ok__law_greats (P := P) (w := w) (base := base) Z D__law_greats o__law_draw
  have o__law_hands := ok__law_hands (P := P) (w := w) (base := base) Z D__law_hands
  have o__law_seen := ok__law_seen (P := P) (w := w) (base := base) Z D__law_seen o__law_hands
  have o__law_held := ok__law_held (P := P) (w := w) (base := base) Z D__law_held o__law_seen
  have o__law_stepped := ok__law_stepped (P := P) (w := w) (base := base) Z D__law_stepped
  have o__law_begun := ok__law_begun (P := P) (w := w) (base := base) Z D__law_begun
  have o_standing := ok_standing (P := P) (w := w) (base := base) Z D_standing (ok_standing0 (P := P) (w := w) (base := base) Z D_standing)
  have o_placed := ok_placed (P := P) (w := w) (base := base) Z D_placed (ok_placed0 (P := P) (w := w) (base := base) Z D_placed)
  have o_type_of := ok_type_of (P := P) (w := w) (base := base) Z D_type_of o_standing o_placed
  have o_names_by := ok_names_by (P := P) (w := w) (base := base) Z D_names_by o_hands_in o_view_of o_type_of
  have o__law_run := ok__law_run (P := P) (w := w) (base := base) Z D__law_run o__law_draw o_first_levels o__law_begun o_step_levels o__law_stepped
  exact ok_law (P := P) (w := w) (base := base) Z F o__law_tape o__law_draw o__law_greats o__law_run o_round_of o_are_rounds o__law_held o_told_way o_names_by o_view_of o_level_names
end
end Hn


namespace Hn
open PySem PySem.Spec PyProof.Rows L2
theorem stood_mk {K : PySem.W.Frag} {x : Str} {st : Stmt} {f : Addr} {od an : Option Addr} {sl : Array (Option Value)} {oc kV dc pm cd ct : Value} (a : PySem.W.nsIn K mainGlobals x = some (some (.ref f))) (lk : K.lookup f = some ⟨oc, od, .func (PySem.W.fnOf x x (defArgs st) (defBody st) (defScope st) .none kV dc pm an cd ct), sl⟩) (c : PySem.W.codeIn K cd x = true) (k : PySem.W.keepIn K (.ref f) = true) :
    ∃ f fd, Stood K x st f fd := ⟨f, _, a, fun_mk (st := st) lk c k⟩
theorem all_mk {l : PySem.W.OpenLaw} {w : World} {K : PySem.W.Frag} {h : Heap} {mg : Str → Option Value} {fa fl : Addr} (X : K.In h) (G : h.Ns mainGlobals mg) (hfa : mg "law" = some (.ref fa)) {od an : Option Addr} {sl : Array (Option Value)} {oc kV dc pm cd ct : Value} {tr : Tok}
    (a0 : PySem.W.nsIn K mainGlobals "law" = some (some (.ref fl))) (l0 : K.lookup fl = some ⟨oc, od, .func (PySem.W.fnOf "law" "law" (defArgs s_law) (defBody s_law) (defScope s_law) .none kV dc pm an cd ct), sl⟩) (c0 : PySem.W.codeIn K cd "law" = true) (k0 : PySem.W.keepIn K (.ref fl) = true)
    (zr : PySem.W.nsIn K mainGlobals "MOST_ROUNDS" = some (some (.int 4 tr)))
    (z_isinstance : PySem.W.nsIn K mainGlobals "isinstance" = some none)
    (z_int : PySem.W.nsIn K mainGlobals "int" = some none)
    (z_bool : PySem.W.nsIn K mainGlobals "bool" = some none)
    (z_tuple : PySem.W.nsIn K mainGlobals "tuple" = some none)
    (z_list : PySem.W.nsIn K mainGlobals "list" = some none)
    (z_dict : PySem.W.nsIn K mainGlobals "dict" = some none)
    (z_set : PySem.W.nsIn K mainGlobals "set" = some none)
    (z_all : PySem.W.nsIn K mainGlobals "all" = some none)
    (z_len : PySem.W.nsIn K mainGlobals "len" = some none)
    (z_range : PySem.W.nsIn K mainGlobals "range" = some none)
    (z_sorted : PySem.W.nsIn K mainGlobals "sorted" = some none)
    (z_enumerate : PySem.W.nsIn K mainGlobals "enumerate" = some none)
    (z_zip : PySem.W.nsIn K mainGlobals "zip" = some none)
    (z_repr : PySem.W.nsIn K mainGlobals "repr" = some none)
    (S_is_whole : ∃ f fd, Stood K "is_whole" s_is_whole f fd)
    (S_is_rising : ∃ f fd, Stood K "is_rising" s_is_rising f fd)
    (S_is_block : ∃ f fd, Stood K "is_block" s_is_block f fd)
    (S_hands_in : ∃ f fd, Stood K "hands_in" s_hands_in f fd)
    (S_is_round : ∃ f fd, Stood K "is_round" s_is_round f fd)
    (S_are_rounds : ∃ f fd, Stood K "are_rounds" s_are_rounds f fd)
    (S_seen_by : ∃ f fd, Stood K "seen_by" s_seen_by f fd)
    (S_view_of : ∃ f fd, Stood K "view_of" s_view_of f fd)
    (S_round_of : ∃ f fd, Stood K "round_of" s_round_of f fd)
    (S_first_levels : ∃ f fd, Stood K "first_levels" s_first_levels f fd)
    (S_laid_at : ∃ f fd, Stood K "laid_at" s_laid_at f fd)
    (S_hands_within : ∃ f fd, Stood K "hands_within" s_hands_within f fd)
    (S_behind_look : ∃ f fd, Stood K "behind_look" s_behind_look f fd)
    (S_step_levels : ∃ f fd, Stood K "step_levels" s_step_levels f fd)
    (S_level_name : ∃ f fd, Stood K "level_name" s_level_name f fd)
    (S_level_names : ∃ f fd, Stood K "level_names" s_level_names f fd)
    (S_standing : ∃ f fd, Stood K "standing" s_standing f fd)
    (S_placed : ∃ f fd, Stood K "placed" s_placed f fd)
    (S_type_of : ∃ f fd, Stood K "type_of" s_type_of f fd)
    (S_one_round_types : ∃ f fd, Stood K "one_round_types" s_one_round_types f fd)
    (S_names_by : ∃ f fd, Stood K "names_by" s_names_by f fd)
    (S_told_way : ∃ f fd, Stood K "told_way" s_told_way f fd)
    (S__law_tape : ∃ f fd, Stood K "_law_tape" s__law_tape f fd)
    (S__law_draw : ∃ f fd, Stood K "_law_draw" s__law_draw f fd)
    (S__law_greats : ∃ f fd, Stood K "_law_greats" s__law_greats f fd)
    (S__law_hands : ∃ f fd, Stood K "_law_hands" s__law_hands f fd)
    (S__law_seen : ∃ f fd, Stood K "_law_seen" s__law_seen f fd)
    (S__law_held : ∃ f fd, Stood K "_law_held" s__law_held f fd)
    (S__law_stepped : ∃ f fd, Stood K "_law_stepped" s__law_stepped f fd)
    (S__law_begun : ∃ f fd, Stood K "_law_begun" s__law_begun f fd)
    (S__law_run : ∃ f fd, Stood K "_law_run" s__law_run f fd)
    : ∃ fd : FuncData, (∀ (s : Shared) (v : Value), BindsTo s fd ⟨[v], []⟩ [("_law_script", v)]) ∧ ∀ base : Heap, K.In base → base.Ns mainGlobals mg → FnG l.prog w K mg base 5 fa fd ["_law_script"] (spLaw K) := by
  have e := hfa.symm.trans (PySem.W.mg_of X G a0)
  cases e
  have Z : Zs mg := ⟨PySem.W.mg_none_of X G z_isinstance, PySem.W.mg_none_of X G z_int, PySem.W.mg_none_of X G z_bool, PySem.W.mg_none_of X G z_tuple, PySem.W.mg_none_of X G z_list, PySem.W.mg_none_of X G z_dict, PySem.W.mg_none_of X G z_set, PySem.W.mg_none_of X G z_all, PySem.W.mg_none_of X G z_len, PySem.W.mg_none_of X G z_range, PySem.W.mg_none_of X G z_sorted, PySem.W.mg_none_of X G z_enumerate, PySem.W.mg_none_of X G z_zip, PySem.W.mg_none_of X G z_repr, ⟨tr, PySem.W.mg_of X G zr⟩⟩
  obtain ⟨_, _, S_is_whole⟩ := S_is_whole
  obtain ⟨_, _, S_is_rising⟩ := S_is_rising
  obtain ⟨_, _, S_is_block⟩ := S_is_block
  obtain ⟨_, _, S_hands_in⟩ := S_hands_in
  obtain ⟨_, _, S_is_round⟩ := S_is_round
  obtain ⟨_, _, S_are_rounds⟩ := S_are_rounds
  obtain ⟨_, _, S_seen_by⟩ := S_seen_by
  obtain ⟨_, _, S_view_of⟩ := S_view_of
  obtain ⟨_, _, S_round_of⟩ := S_round_of
  obtain ⟨_, _, S_first_levels⟩ := S_first_levels
  obtain ⟨_, _, S_laid_at⟩ := S_laid_at
  obtain ⟨_, _, S_hands_within⟩ := S_hands_within
  obtain ⟨_, _, S_behind_look⟩ := S_behind_look
  obtain ⟨_, _, S_step_levels⟩ := S_step_levels
  obtain ⟨_, _, S_level_name⟩ := S_level_name
  obtain ⟨_, _, S_level_names⟩ := S_level_names
  obtain ⟨_, _, S_standing⟩ := S_standing
  obtain ⟨_, _, S_placed⟩ := S_placed
  obtain ⟨_, _, S_type_of⟩ := S_type_of
  obtain ⟨_, _, S_one_round_types⟩ := S_one_round_types
  obtain ⟨_, _, S_names_by⟩ := S_names_by
  obtain ⟨_, _, S_told_way⟩ := S_told_way
  obtain ⟨_, _, S__law_tape⟩ := S__law_tape
  obtain ⟨_, _, S__law_draw⟩ := S__law_draw
  obtain ⟨_, _, S__law_greats⟩ := S__law_greats
  obtain ⟨_, _, S__law_hands⟩ := S__law_hands
  obtain ⟨_, _, S__law_seen⟩ := S__law_seen
  obtain ⟨_, _, S__law_held⟩ := S__law_held
  obtain ⟨_, _, S__law_stepped⟩ := S__law_stepped
  obtain ⟨_, _, S__law_begun⟩ := S__law_begun
  obtain ⟨_, _, S__law_run⟩ := S__law_run
  exact ⟨PySem.W.fnOf "law" "law" (defArgs s_law) (defBody s_law) (defScope s_law) .none kV dc pm an cd ct, fun s v => .of_eq rfl, fun base _ _ => law_all Z (fun_mk (st := s_law) l0 c0 k0) (da_is_whole X G S_is_whole) (da_is_rising X G S_is_rising) (da_is_block X G S_is_block) (da_hands_in X G S_hands_in) (da_is_round X G S_is_round) (da_are_rounds X G S_are_rounds) (da_seen_by X G S_seen_by) (da_view_of X G S_view_of) (da_round_of X G S_round_of) (da_first_levels X G S_first_levels) (da_laid_at X G S_laid_at) (da_hands_within X G S_hands_within) (da_behind_look X G S_behind_look) (da_step_levels X G S_step_levels) (da_level_name X G S_level_name) (da_level_names X G S_level_names) (da_standing X G S_standing) (da_placed X G S_placed) (da_type_of X G S_type_of) (da_one_round_types X G S_one_round_types) (da_names_by X G S_names_by) (da_told_way X G S_told_way) (da__law_tape X G S__law_tape) (da__law_draw X G S__law_draw) (da__law_greats X G S__law_greats) (da__law_hands X G S__law_hands) (da__law_seen X G S__law_seen) (da__law_held X G S__law_held) (da__law_stepped X G S__law_stepped) (da__law_begun X G S__law_begun) (da__law_run X G S__law_run)⟩
end Hn
open PySem PySem.W PyProof.Rows
set_option maxRecDepth 100000 in
set_option maxHeartbeats 0 in
theorem PySem.Challenge.cw_handnames_k56_whole_levels_are_looks_holds : PySem.Challenge.rw_handnames_k56_whole_levels_are_looks.Holds := by
  w_on; o_law; k_head; (case hw => w_witness2)
  k_fill
  refine Hn.walkG (l := PySem.Challenge.rw_handnames_k56_whole_levels_are_looks) (n := 63) (k := 5) (sp := fun K => Hn.spLaw K) (x := "_law_script") rfl (by decide) rfl ⟨rfl, by decide, by decide⟩ (fun w h Y => PySem.W.kIn_of Y) ?F fun _ _ a ns _ _ hS => ⟨a, ns, rfl, hS, fun _ => rfl⟩
  case F =>
    intro w mg fa h KX G hmg
    refine' Hn.all_mk KX G hmg ?a0 ?l0 ?c0 ?k0 ?zr ?z_isinstance ?z_int ?z_bool ?z_tuple ?z_list ?z_dict ?z_set ?z_all ?z_len ?z_range ?z_sorted ?z_enumerate ?z_zip ?z_repr ?s_is_whole ?s_is_rising ?s_is_block ?s_hands_in ?s_is_round ?s_are_rounds ?s_seen_by ?s_view_of ?s_round_of ?s_first_levels ?s_laid_at ?s_hands_within ?s_behind_look ?s_step_levels ?s_level_name ?s_level_names ?s_standing ?s_placed ?s_type_of ?s_one_round_types ?s_names_by ?s_told_way ?s__law_tape ?s__law_draw ?s__law_greats ?s__law_hands ?s__law_seen ?s__law_held ?s__law_stepped ?s__law_begun ?s__law_run
    (case a0 => k_is); (case l0 => k_is); (case c0 => k_is); (case k0 => k_is); (case zr => k_is)
    (case z_isinstance => k_is)
    (case z_int => k_is)
    (case z_bool => k_is)
    (case z_tuple => k_is)
    (case z_list => k_is)
    (case z_dict => k_is)
    (case z_set => k_is)
    (case z_all => k_is)
    (case z_len => k_is)
    (case z_range => k_is)
    (case z_sorted => k_is)
    (case z_enumerate => k_is)
    (case z_zip => k_is)
    (case z_repr => k_is)
    case s_is_whole =>
      refine' Hn.stood_mk ?a ?l ?c ?k
      (case a => k_is); (case l => k_is); (case c => k_is); (case k => k_is)
    case s_is_rising =>
      refine' Hn.stood_mk ?a ?l ?c ?k
      (case a => k_is); (case l => k_is); (case c => k_is); (case k => k_is)
    case s_is_block =>
      refine' Hn.stood_mk ?a ?l ?c ?k
      (case a => k_is); (case l => k_is); (case c => k_is); (case k => k_is)
    case s_hands_in =>
      refine' Hn.stood_mk ?a ?l ?c ?k
      (case a => k_is); (case l => k_is); (case c => k_is); (case k => k_is)
    case s_is_round =>
      refine' Hn.stood_mk ?a ?l ?c ?k
      (case a => k_is); (case l => k_is); (case c => k_is); (case k => k_is)
    case s_are_rounds =>
      refine' Hn.stood_mk ?a ?l ?c ?k
      (case a => k_is); (case l => k_is); (case c => k_is); (case k => k_is)
    case s_seen_by =>
      refine' Hn.stood_mk ?a ?l ?c ?k
      (case a => k_is); (case l => k_is); (case c => k_is); (case k => k_is)
    case s_view_of =>
      refine' Hn.stood_mk ?a ?l ?c ?k
      (case a => k_is); (case l => k_is); (case c => k_is); (case k => k_is)
    case s_round_of =>
      refine' Hn.stood_mk ?a ?l ?c ?k
      (case a => k_is); (case l => k_is); (case c => k_is); (case k => k_is)
    case s_first_levels =>
      refine' Hn.stood_mk ?a ?l ?c ?k
      (case a => k_is); (case l => k_is); (case c => k_is); (case k => k_is)
    case s_laid_at =>
      refine' Hn.stood_mk ?a ?l ?c ?k
      (case a => k_is); (case l => k_is); (case c => k_is); (case k => k_is)
    case s_hands_within =>
      refine' Hn.stood_mk ?a ?l ?c ?k
      (case a => k_is); (case l => k_is); (case c => k_is); (case k => k_is)
    case s_behind_look =>
      refine' Hn.stood_mk ?a ?l ?c ?k
      (case a => k_is); (case l => k_is); (case c => k_is); (case k => k_is)
    case s_step_levels =>
      refine' Hn.stood_mk ?a ?l ?c ?k
      (case a => k_is); (case l => k_is); (case c => k_is); (case k => k_is)
    case s_level_name =>
      refine' Hn.stood_mk ?a ?l ?c ?k
      (case a => k_is); (case l => k_is); (case c => k_is); (case k => k_is)
    case s_level_names =>
      refine' Hn.stood_mk ?a ?l ?c ?k
      (case a => k_is); (case l => k_is); (case c => k_is); (case k => k_is)
    case s_standing =>
      refine' Hn.stood_mk ?a ?l ?c ?k
      (case a => k_is); (case l => k_is); (case c => k_is); (case k => k_is)
    case s_placed =>
      refine' Hn.stood_mk ?a ?l ?c ?k
      (case a => k_is); (case l => k_is); (case c => k_is); (case k => k_is)
    case s_type_of =>
      refine' Hn.stood_mk ?a ?l ?c ?k
      (case a => k_is); (case l => k_is); (case c => k_is); (case k => k_is)
    case s_one_round_types =>
      refine' Hn.stood_mk ?a ?l ?c ?k
      (case a => k_is); (case l => k_is); (case c => k_is); (case k => k_is)
    case s_names_by =>
      refine' Hn.stood_mk ?a ?l ?c ?k
      (case a => k_is); (case l => k_is); (case c => k_is); (case k => k_is)
    case s_told_way =>
      refine' Hn.stood_mk ?a ?l ?c ?k
      (case a => k_is); (case l => k_is); (case c => k_is); (case k => k_is)
    case s__law_tape =>
      refine' Hn.stood_mk ?a ?l ?c ?k
      (case a => k_is); (case l => k_is); (case c => k_is); (case k => k_is)
    case s__law_draw =>
      refine' Hn.stood_mk ?a ?l ?c ?k
      (case a => k_is); (case l => k_is); (case c => k_is); (case k => k_is)
    case s__law_greats =>
      refine' Hn.stood_mk ?a ?l ?c ?k
      (case a => k_is); (case l => k_is); (case c => k_is); (case k => k_is)
    case s__law_hands =>
      refine' Hn.stood_mk ?a ?l ?c ?k
      (case a => k_is); (case l => k_is); (case c => k_is); (case k => k_is)
    case s__law_seen =>
      refine' Hn.stood_mk ?a ?l ?c ?k
      (case a => k_is); (case l => k_is); (case c => k_is); (case k => k_is)
    case s__law_held =>
      refine' Hn.stood_mk ?a ?l ?c ?k
      (case a => k_is); (case l => k_is); (case c => k_is); (case k => k_is)
    case s__law_stepped =>
      refine' Hn.stood_mk ?a ?l ?c ?k
      (case a => k_is); (case l => k_is); (case c => k_is); (case k => k_is)
    case s__law_begun =>
      refine' Hn.stood_mk ?a ?l ?c ?k
      (case a => k_is); (case l => k_is); (case c => k_is); (case k => k_is)
    case s__law_run =>
      refine' Hn.stood_mk ?a ?l ?c ?k
      (case a => k_is); (case l => k_is); (case c => k_is); (case k => k_is)
