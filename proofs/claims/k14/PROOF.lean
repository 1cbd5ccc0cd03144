import PyProof.Rows.All
import Wide.All
import OpenK.AllK
import Wide.FinOn
import HandS.ForMost
import HandS.ForExc
import HandS.Flow
import HandS.TupAny
import HandS.TupLe
import HandS.TupLen
import HandS.IsInst
import PyProof.SumWalkG
import PyProof.WalksMore
import HandS.Zip
import HandS.TryMany
import HandS.Deep
import HandS.TupMul
import PyProof.MinMaxWalk
import PyProof.WalkInts
import PySem.Challenge.RW_pricerows_k14_changed
set_option Elab.async false
set_option linter.all false
set_option maxRecDepth 100000
set_option maxHeartbeats 4000000
set_option autoImplicit false
/-! PD0: plain data for what stands in the heap; slots by flags; the canonical readings. -/
namespace PD
open PySem L2
/-- the slots' plain data -/
abbrev Rw := List PyData
/-- no promise, or an exception of the class that the module calls n -/
inductive Er where
  | bad
  | exc (n : Str)
abbrev Rs (a : Type) := Except Er a
def keyD : Key → PyData
  | .inl i => .int i
  | .inr x => .str x
mutual
/-- the value stands for the datum, by objects of F alone -/
inductive Rp (K : PySem.W.Frag) (F : Hp) : V → PyData → Prop
  | non : Rp K F .non .none
  | bl (b : Bool) : Rp K F (.bl b) (.bool b)
  | int (i : Int) : Rp K F (.int i) (.int i)
  | str (x : Str) : Rp K F (.str x) (.str x)
  | lst {a : Addr} {xs : List V} {ds : List PyData} : F a = some (.lst xs) → xs.length ≤ sizeLine → RpL K F xs ds → Rp K F (.ref a) (.list ds)
  | tup {a : Addr} {xs : List V} {ds : List PyData} : F a = some (.tup xs) → xs.length ≤ sizeLine → RpL K F xs ds → Rp K F (.ref a) (.tuple ds)
  | dct {a : Addr} {es : List (List Key × V)} {kvs : List (PyData × PyData)} : Rd F a (.dT es) → es.length ≤ sizeLine → RpE K F es kvs → Rp K F (.ref a) (.dict kvs)
  | scr {a : Addr} {ns : List Int} : SqL K F a (ns.map V.int) → Rp K F (.ref a) (.dict [(.none, .list (ns.map PyData.int))])
inductive RpL (K : PySem.W.Frag) (F : Hp) : List V → List PyData → Prop
  | nil : RpL K F [] []
  | cons {v : V} {vs : List V} {d : PyData} {ds : List PyData} : Rp K F v d → RpL K F vs ds → RpL K F (v :: vs) (d :: ds)
inductive RpE (K : PySem.W.Frag) (F : Hp) : List (List Key × V) → List (PyData × PyData) → Prop
  | nil : RpE K F [] []
  | cons {k : List Key} {v : V} {es : List (List Key × V)} {d : PyData} {kvs : List (PyData × PyData)} : Rp K F v d → RpE K F es kvs → RpE K F ((k, v) :: es) ((.tuple (k.map keyD), d) :: kvs)
end
/-- the script as a datum -/
abbrev scrD (ns : List Int) : PyData := .dict [(.none, .list (ns.map PyData.int))]
section
variable {K : PySem.W.Frag} {F F' : Hp}
theorem rd_same {a : Addr} {u : HO} (s : Same F F') (h : Rd F a u) : Rd F' a u := by
  rcases h with h | ⟨o, h⟩
  · exact .inl (s _ _ h)
  · exact .inr ⟨o, s _ _ h⟩
theorem sqT_same {a : Addr} {xs : List V} (s : Same F F') (h : SqT K F a xs) : SqT K F' a xs := by
  rcases h with h | h
  · exact .inl (rd_same s h)
  · exact .inr h
theorem Rp.mono (s : Same F F') {v : V} {d : PyData} (h : Rp K F v d) : Rp K F' v d :=
  Rp.rec (motive_1 := fun v d _ => Rp K F' v d) (motive_2 := fun vs ds _ => RpL K F' vs ds) (motive_3 := fun es kvs _ => RpE K F' es kvs)
    .non (fun b => .bl b) (fun i => .int i) (fun x => .str x) (fun e z _ h => .lst (s _ _ e) z h) (fun e z _ h => .tup (s _ _ e) z h) (fun e z _ h => .dct (rd_same s e) z h) (fun e => .scr (s.seq e))
    .nil (fun _ _ h1 h2 => .cons h1 h2) .nil (fun _ _ h1 h2 => .cons h1 h2) h
theorem RpL.mono (s : Same F F') : ∀ {vs : List V} {ds : List PyData}, RpL K F vs ds → RpL K F' vs ds
  | _, _, .nil => .nil
  | _, _, .cons h t => .cons (h.mono s) (RpL.mono s t)
theorem RpE.mono (s : Same F F') : ∀ {es : List (List Key × V)} {kvs : List (PyData × PyData)}, RpE K F es kvs → RpE K F' es kvs
  | _, _, .nil => .nil
  | _, _, .cons h t => .cons (h.mono s) (RpE.mono s t)
theorem RpL.length : ∀ {vs : List V} {ds : List PyData}, RpL K F vs ds → vs.length = ds.length
  | _, _, .nil => rfl
  | _, _, .cons _ t => congrArg Nat.succ (RpL.length t)
theorem RpE.length : ∀ {es : List (List Key × V)} {kvs : List (PyData × PyData)}, RpE K F es kvs → es.length = kvs.length
  | _, _, .nil => rfl
  | _, _, .cons _ t => congrArg Nat.succ (RpE.length t)
theorem RpL.get : ∀ {vs : List V} {ds : List PyData} {i : Nat} {d : PyData}, RpL K F vs ds → ds[i]? = some d → ∃ v, vs[i]? = some v ∧ Rp K F v d
  | _, _, _, _, .nil, e => by simp at e
  | _, _, 0, _, .cons h _, e => by simp at e; subst e; exact ⟨_, rfl, h⟩
  | _, _, i + 1, d, .cons _ t, e => by
    obtain ⟨v, h1, h2⟩ := RpL.get (i := i) (d := d) t (by simpa using e)
    exact ⟨v, by simpa using h1, h2⟩
theorem RpL.getV : ∀ {vs : List V} {ds : List PyData} {i : Nat} {v : V}, RpL K F vs ds → vs[i]? = some v → ∃ d, ds[i]? = some d ∧ Rp K F v d
  | _, _, _, _, .nil, e => by simp at e
  | _, _, 0, _, .cons h _, e => by simp at e; subst e; exact ⟨_, rfl, h⟩
  | _, _, i + 1, d, .cons _ t, e => by
    obtain ⟨v, h1, h2⟩ := RpL.getV (i := i) (v := d) t (by simpa using e)
    exact ⟨v, by simpa using h1, h2⟩
theorem RpL.append : ∀ {vs ws : List V} {ds es : List PyData}, RpL K F vs ds → RpL K F ws es → RpL K F (vs ++ ws) (ds ++ es)
  | _, _, _, _, .nil, s => s
  | _, _, _, _, .cons h t, s => .cons h (RpL.append t s)
theorem RpL.take : ∀ {vs : List V} {ds : List PyData} (n : Nat), RpL K F vs ds → RpL K F (vs.take n) (ds.take n)
  | _, _, 0, _ => .nil
  | _, _, _ + 1, .nil => .nil
  | _, _, n + 1, .cons h t => .cons h (RpL.take n t)
theorem RpL.drop : ∀ {vs : List V} {ds : List PyData} (n : Nat), RpL K F vs ds → RpL K F (vs.drop n) (ds.drop n)
  | _, _, 0, h => h
  | _, _, _ + 1, .nil => .nil
  | _, _, n + 1, .cons _ t => RpL.drop n t
theorem RpL.set {v : V} {d : PyData} (h : Rp K F v d) : ∀ {vs : List V} {ds : List PyData} (i : Nat), RpL K F vs ds → RpL K F (vs.set i v) (ds.set i d)
  | _, _, _, .nil => .nil
  | _, _, 0, .cons _ t => .cons h t
  | _, _, i + 1, .cons q t => .cons q (RpL.set h i t)
theorem RpL.one {v : V} {d : PyData} (h : Rp K F v d) : RpL K F [v] [d] := .cons h .nil
theorem RpL.reverse {vs : List V} {ds : List PyData} (h : RpL K F vs ds) : RpL K F vs.reverse ds.reverse := by
  induction vs generalizing ds with
  | nil => cases h; exact .nil
  | cons v vs ih =>
    cases h with
    | cons h t => rw [List.reverse_cons, List.reverse_cons]; exact (ih t).append (.one h)
theorem RpL.ints : ∀ ns : List Int, RpL K F (ns.map V.int) (ns.map PyData.int)
  | [] => .nil
  | n :: ns => .cons (.int n) (RpL.ints ns)
end
/-! ### steps: what an expression does to the two heaps -/
/-- F the frozen part of H; F' adds to F only what is new in H' -/
structure Step (F H F' H' : Hp) : Prop where
  f : Same F F'
  fh : Same F' H'
  h : Same H H'
  nw : ∀ p, F p = none → H p ≠ none → F' p = none
theorem same_none {F H : Hp} (s : Same F H) {p : Addr} (h : H p = none) : F p = none := s.free h
theorem Step.refl {F H : Hp} (s : Same F H) : Step F H F H := ⟨Same.refl _, s, Same.refl _, fun _ h _ => h⟩
theorem same_some {H H' : Hp} (s : Same H H') {p : Addr} (h : H p ≠ none) : H' p ≠ none := by
  cases e : H p with
  | none => exact absurd e h
  | some o => rw [s _ _ e]; simp
theorem Step.trans {F H F1 H1 F2 H2 : Hp} (a : Step F H F1 H1) (b : Step F1 H1 F2 H2) : Step F H F2 H2 :=
  ⟨a.f.trans b.f, b.fh, a.h.trans b.h, fun p h h' => b.nw p (a.nw p h h') (same_some a.h h')⟩
theorem same_upd {H : Hp} {p : Addr} {o : HO} (h : H p = none) : Same H (upd H p o) := fun b x e => by
  rw [upd_ne (ne_of_none e h)]; exact e
/-- a new object, frozen at once -/
theorem Step.new {F H : Hp} {p : Addr} {o : HO} (s : Same F H) (h : H p = none) : Step F H (upd F p o) (upd H p o) := by
  refine ⟨same_upd (same_none s h), fun b x e => ?_, same_upd h, fun q h1 h2 => ?_⟩
  · by_cases hb : b = p
    · subst hb; rw [upd_same] at e ⊢; exact e
    · rw [upd_ne hb] at e ⊢; exact s _ _ e
  · have : q ≠ p := fun z => h2 (z ▸ h)
    rw [upd_ne this]; exact h1
/-- a new object, not frozen -/
theorem Step.hid {F H : Hp} {p : Addr} {o : HO} (s : Same F H) (h : H p = none) : Step F H F (upd H p o) :=
  ⟨Same.refl _, s.trans (same_upd h), same_upd h, fun _ h _ => h⟩
/-! ### slots -/
/-- nothing known; a value by frozen objects; an object of one's own that nothing else knows -/
inductive Fl where
  | dead | im | ow
  deriving DecidableEq
/-- what an own object holds -/
def RepO (K : PySem.W.Frag) (F : Hp) : HO → PyData → Prop
  | .lst xs, .list ds => xs.length ≤ sizeLine ∧ RpL K F xs ds
  | .dT es, .dict kvs => es.length ≤ sizeLine ∧ RpE K F es kvs
  | _, _ => False
theorem RepO.mono {K : PySem.W.Frag} {F F' : Hp} (s : Same F F') {o : HO} {d : PyData} (h : RepO K F o d) : RepO K F' o d := by
  cases o <;> cases d <;> first | exact ⟨h.1, RpL.mono s h.2⟩ | exact ⟨h.1, RpE.mono s h.2⟩ | exact h
theorem RepO.rp {K : PySem.W.Frag} {F : Hp} {p : Addr} {o : HO} {d : PyData} (h : RepO K F o d) (hp : F p = some o) : Rp K F (.ref p) d := by
  cases o <;> cases d <;> first | exact Rp.lst hp h.1 h.2 | exact Rp.dct (.inl hp) h.1 h.2 | exact False.elim h
def SlotOk (K : PySem.W.Frag) (F H : Hp) : Fl → Option V → PyData → Prop
  | .dead, _, _ => True
  | .im, sv, d => ∃ v, sv = some v ∧ Rp K F v d
  | .ow, sv, d => ∃ p o, sv = some (.ref p) ∧ F p = none ∧ H p = some o ∧ RepO K F o d
structure En (K : PySem.W.Frag) (ph : List Fl) (F H : Hp) (σ : St) (rho : Rw) : Prop where
  fh : Same F H
  ls : ph.length ≤ σ.length
  lr : ph.length ≤ rho.length
  sl : ∀ (i : Nat) (f : Fl), ph[i]? = some f → ∃ (sv : Option V) (d : PyData), σ[i]? = some sv ∧ rho[i]? = some d ∧ SlotOk K F H f sv d
  ap : ∀ (i j : Nat) (p : Addr), ph[i]? = some .ow → ph[j]? = some .ow → σ[i]? = some (some (.ref p)) → σ[j]? = some (some (.ref p)) → i = j
theorem SlotOk.step {K : PySem.W.Frag} {F H F' H' : Hp} (s : Step F H F' H') {f : Fl} {sv : Option V} {d : PyData} (h : SlotOk K F H f sv d) : SlotOk K F' H' f sv d := by
  cases f with
  | dead => trivial
  | im => obtain ⟨v, e, r⟩ := h; exact ⟨v, e, r.mono s.f⟩
  | ow =>
    obtain ⟨p, o, e, h1, h2, r⟩ := h
    exact ⟨p, o, e, s.nw p h1 (by rw [h2]; simp), s.h _ _ h2, r.mono s.f⟩
theorem En.step {K : PySem.W.Frag} {ph : List Fl} {F H F' H' : Hp} {σ : St} {rho : Rw} (n : En K ph F H σ rho) (s : Step F H F' H') : En K ph F' H' σ rho :=
  ⟨s.fh, n.ls, n.lr, fun i f h => by
    obtain ⟨sv, d, h1, h2, h3⟩ := n.sl i f h
    exact ⟨sv, d, h1, h2, h3.step s⟩, n.ap⟩
/-- reading a slot -/
def look (rho : Rw) (i : Nat) : PyData := rho.getD i .none
theorem look_of {rho : Rw} {i : Nat} {d : PyData} (h : rho[i]? = some d) : look rho i = d := by
  unfold look; rw [List.getD_eq_getElem?_getD, h]; rfl
theorem En.im {K : PySem.W.Frag} {ph : List Fl} {F H : Hp} {σ : St} {rho : Rw} {i : Nat} (n : En K ph F H σ rho) (h : ph[i]? = some .im) : ∃ v, σ[i]? = some (some v) ∧ Rp K F v (look rho i) := by
  obtain ⟨sv, d, h1, h2, v, rfl, r⟩ := n.sl i .im h
  exact ⟨v, h1, by rw [look_of h2]; exact r⟩
theorem En.ow {K : PySem.W.Frag} {ph : List Fl} {F H : Hp} {σ : St} {rho : Rw} {i : Nat} (n : En K ph F H σ rho) (h : ph[i]? = some .ow) : ∃ p o, σ[i]? = some (some (.ref p)) ∧ F p = none ∧ H p = some o ∧ RepO K F o (look rho i) := by
  obtain ⟨sv, d, h1, h2, p, o, rfl, r⟩ := n.sl i .ow h
  exact ⟨p, o, h1, by rw [look_of h2]; exact r⟩
/-- a slot is given a value by frozen objects -/
theorem En.setIm {K : PySem.W.Frag} {ph : List Fl} {F H : Hp} {σ : St} {rho : Rw} {v : V} {d : PyData} (n : En K ph F H σ rho) (i : Nat) (r : Rp K F v d) : En K (ph.set i .im) F H (σ.set i (some v)) (rho.set i d) := by
  refine ⟨n.fh, by simpa using n.ls, by simpa using n.lr, fun j f h => ?_, fun j k p h1 h2 h3 h4 => ?_⟩
  · by_cases hj : i = j
    · subst hj
      have hi : i < ph.length := by
        have := (List.getElem?_eq_some_iff.mp h).1
        simpa using this
      rw [List.getElem?_set_self hi] at h
      cases h
      exact ⟨some v, d, List.getElem?_set_self (Nat.lt_of_lt_of_le hi n.ls), List.getElem?_set_self (Nat.lt_of_lt_of_le hi n.lr), v, rfl, r⟩
    · rw [List.getElem?_set_ne hj] at h
      obtain ⟨sv, d', h1, h2, h3⟩ := n.sl j f h
      exact ⟨sv, d', by rw [List.getElem?_set_ne hj]; exact h1, by rw [List.getElem?_set_ne hj]; exact h2, h3⟩
  · have ne : ∀ m, (ph.set i Fl.im)[m]? = some Fl.ow → i ≠ m := fun m h z => by
      subst z
      have hi : i < ph.length := by
        have := (List.getElem?_eq_some_iff.mp h).1
        simpa using this
      rw [List.getElem?_set_self hi] at h
      cases h
    have nj := ne j h1
    have nk := ne k h2
    rw [List.getElem?_set_ne nj] at h1 h3
    rw [List.getElem?_set_ne nk] at h2 h4
    exact n.ap j k p h1 h2 h3 h4
/-- .. an own object that was just made: it stands in H, not in F, and no slot has it -/
theorem En.setOw {K : PySem.W.Frag} {ph : List Fl} {F H : Hp} {σ : St} {rho : Rw} {p : Addr} {o : HO} {d : PyData} (n : En K ph F H σ rho) (i : Nat) (h1 : F p = none) (h2 : H p = some o) (r : RepO K F o d)
    (hn : ∀ j, j ≠ i → ph[j]? = some .ow → σ[j]? ≠ some (some (.ref p))) : En K (ph.set i .ow) F H (σ.set i (some (.ref p))) (rho.set i d) := by
  refine ⟨n.fh, by simpa using n.ls, by simpa using n.lr, fun j f h => ?_, fun j k q e1 e2 e3 e4 => ?_⟩
  · by_cases hj : i = j
    · subst hj
      have hi : i < ph.length := by
        have := (List.getElem?_eq_some_iff.mp h).1
        simpa using this
      rw [List.getElem?_set_self hi] at h
      cases h
      exact ⟨some (.ref p), d, List.getElem?_set_self (Nat.lt_of_lt_of_le hi n.ls), List.getElem?_set_self (Nat.lt_of_lt_of_le hi n.lr), p, o, rfl, h1, h2, r⟩
    · rw [List.getElem?_set_ne hj] at h
      obtain ⟨sv, d', e1, e2, e3⟩ := n.sl j f h
      exact ⟨sv, d', by rw [List.getElem?_set_ne hj]; exact e1, by rw [List.getElem?_set_ne hj]; exact e2, e3⟩
  · have lt : ∀ m, (ph.set i Fl.ow)[m]? = some Fl.ow → m < σ.length := fun m h => by
      have := (List.getElem?_eq_some_iff.mp h).1
      rw [List.length_set] at this
      exact Nat.lt_of_lt_of_le this n.ls
    by_cases hj : i = j
    · by_cases hk : i = k
      · exact hj.symm.trans hk
      · subst hj
        rw [List.getElem?_set_self (lt i e1)] at e3
        rw [List.getElem?_set_ne hk] at e2 e4
        cases e3
        exact absurd e4 (hn k (Ne.symm hk) e2)
    · by_cases hk : i = k
      · subst hk
        rw [List.getElem?_set_self (lt i e2)] at e4
        rw [List.getElem?_set_ne hj] at e1 e3
        cases e4
        exact absurd e3 (hn j (Ne.symm hj) e1)
      · rw [List.getElem?_set_ne hj] at e1 e3
        rw [List.getElem?_set_ne hk] at e2 e4
        exact n.ap j k q e1 e2 e3 e4
/-- fewer things known -/
def wkF : Fl → Fl → Bool
  | _, .dead => true
  | .im, .im => true
  | .ow, .ow => true
  | .ow, .im => true
  | _, _ => false
def wk : List Fl → List Fl → Bool
  | _, [] => true
  | f :: fs, g :: gs => wkF f g && wk fs gs
  | [], _ :: _ => false
theorem wk_get : ∀ {ph ph' : List Fl} {i : Nat} {g : Fl}, wk ph ph' = true → ph'[i]? = some g → ∃ f, ph[i]? = some f ∧ wkF f g = true
  | _, [], i, g, _, h => by simp at h
  | [], _ :: _, _, _, h, _ => by simp [wk] at h
  | f :: fs, g' :: gs, 0, g, h, e => by
    simp only [wk, Bool.and_eq_true] at h
    simp only [List.getElem?_cons_zero, Option.some.injEq] at e
    subst e
    exact ⟨f, rfl, h.1⟩
  | f :: fs, g' :: gs, i + 1, g, h, e => by
    simp only [wk, Bool.and_eq_true] at h
    simp only [List.getElem?_cons_succ] at e ⊢
    exact wk_get h.2 e
theorem wk_len : ∀ {ph ph' : List Fl}, wk ph ph' = true → ph'.length ≤ ph.length
  | _, [], _ => Nat.zero_le _
  | [], _ :: _, h => by simp [wk] at h
  | f :: fs, g :: gs, h => by
    simp only [wk, Bool.and_eq_true] at h
    exact Nat.succ_le_succ (wk_len h.2)
theorem wk_refl : ∀ ph : List Fl, wk ph ph = true
  | [] => rfl
  | f :: fs => by
    simp only [wk, Bool.and_eq_true]
    exact ⟨by cases f <;> rfl, wk_refl fs⟩
end PD
/-! PD1: the canonical readings of expressions, and the first rules. -/
namespace PD
open PySem L2
def clsOf (mg : Str → Option Value) (n : Str) : Value := (mg n).getD .none
/-- what is asked behind a result -/
def Aft {a : Type} (mg : Str → Option Value) (W : WX) (σ : L2.St) (F H : Hp) (r : Rs a) (Z : a → Hp → Hp → Prop) : Prop :=
  match r with
  | .ok x => ∀ F' H', Step F H F' H' → Z x F' H'
  | .error (.exc n) => ∀ F' H', Step F H F' H' → W (clsOf mg n) none σ H'
  | .error .bad => False
section
variable {mg : Str → Option Value} {W : WX} {σ : L2.St} {F H F1 H1 : Hp} {a b : Type}
theorem Aft.step {r : Rs a} {Z : a → Hp → Hp → Prop} (h : Aft mg W σ F H r Z) (s : Step F H F1 H1) : Aft mg W σ F1 H1 r Z := by
  cases r with
  | ok x => exact fun F' H' s' => h F' H' (s.trans s')
  | error e =>
    cases e with
    | bad => exact h
    | exc n => exact fun F' H' s' => h F' H' (s.trans s')
theorem Aft.bind {r : Rs a} {k : a → Rs b} {Z : b → Hp → Hp → Prop} {Z' : a → Hp → Hp → Prop} (h : Aft mg W σ F H (r >>= k) Z)
    (hz : ∀ x F1 H1, Step F H F1 H1 → Aft mg W σ F1 H1 (k x) Z → Z' x F1 H1) : Aft mg W σ F H r Z' := by
  cases r with
  | ok x => exact fun F' H' s => hz x F' H' s (Aft.step (r := k x) h s)
  | error e =>
    cases e with
    | bad => exact h
    | exc n => exact h
theorem Aft.imp {r : Rs a} {Z Z' : a → Hp → Hp → Prop} (h : Aft mg W σ F H r Z) (hz : ∀ x F1 H1, Step F H F1 H1 → Z x F1 H1 → Z' x F1 H1) : Aft mg W σ F H r Z' := by
  cases r with
  | ok x => exact fun F' H' s => hz x F' H' s (h F' H' s)
  | error e => cases e <;> exact h
/-- .. by all that is to come -/
theorem Aft.all {r : Rs a} {Z Z' : a → Hp → Hp → Prop} (h : Aft mg W σ F H r Z) (hz : ∀ x, (∀ F1 H1, Step F H F1 H1 → Z x F1 H1) → ∀ F1 H1, Step F H F1 H1 → Z' x F1 H1) : Aft mg W σ F H r Z' := by
  cases r with
  | ok x => exact hz x h
  | error e => cases e <;> exact h
theorem Aft.ok {x : a} {Z : a → Hp → Hp → Prop} (h : Aft mg W σ F H (.ok x) Z) (s : Step F H F1 H1) : Z x F1 H1 := h F1 H1 s
theorem Aft.now {x : a} {Z : a → Hp → Hp → Prop} (h : Aft mg W σ F H (.ok x) Z) (s : Same F H) : Z x F H := h F H (.refl s)
end
def lift {a : Type} : Option a → Rs a
  | some x => .ok x
  | none => .error .bad
theorem Aft.lift {mg : Str → Option Value} {W : WX} {σ : L2.St} {F H : Hp} {a : Type} {r : Option a} {Z : a → Hp → Hp → Prop} (h : Aft mg W σ F H (PD.lift r) Z) : ∃ x, r = some x ∧ Aft mg W σ F H (.ok x) Z := by
  cases r with
  | none => exact False.elim h
  | some x => exact ⟨x, rfl, h⟩
/-- an expression gives the datum g of the slots' data -/
def rE (K : PySem.W.Frag) (mg : Str → Option Value) (W : WX) (ph : List Fl) (g : Rw → Rs PyData) : TE := fun σ H Q =>
  ∃ F rho, En K ph F H σ rho ∧ Aft mg W σ F H (g rho) fun d F' H' => ∀ v, Rp K F' v d → Q v H'
/-- .. as a new object that nothing else knows -/
def rO (K : PySem.W.Frag) (mg : Str → Option Value) (W : WX) (ph : List Fl) (g : Rw → Rs PyData) : TE := fun σ H Q =>
  ∃ F rho, En K ph F H σ rho ∧ Aft mg W σ F H (g rho) fun d F' H' => ∀ p o, H p = none → F' p = none → H' p = some o → RepO K F' o d → Q (.ref p) H'
def rT (K : PySem.W.Frag) (mg : Str → Option Value) (W : WX) (ph : List Fl) (g : Rw → Rs Bool) : TT := fun σ H Q =>
  ∃ F rho, En K ph F H σ rho ∧ Aft mg W σ F H (g rho) fun b _ H' => Q b H'
def rA (K : PySem.W.Frag) (mg : Str → Option Value) (W : WX) (ph : List Fl) (g : Rw → Rs (List PyData)) : TA := fun σ H Q =>
  ∃ F rho, En K ph F H σ rho ∧ Aft mg W σ F H (g rho) fun ds F' H' => ∀ vs, RpL K F' vs ds → Q vs H'
theorem pe_imp {X : Cx} {e : Expr} {t t' : TE} (h : PE X e t) (hi : ∀ σ H Q, t' σ H Q → t σ H Q) : PE X e t' := ⟨fun pins s σ H Q I q => h.run pins s σ H Q I (hi σ H Q q)⟩
theorem pt_imp {X : Cx} {e : Expr} {t t' : TT} (h : PT X e t) (hi : ∀ σ H Q, t' σ H Q → t σ H Q) : PT X e t' := ⟨fun pins s σ H Q I q => h.run pins s σ H Q I (hi σ H Q q)⟩
theorem pw_imp {X : Cx} {e : Expr} {t t' : TT} (h : PW X e t) (hi : ∀ σ H Q, t' σ H Q → t σ H Q) : PW X e t' := ⟨fun wh pins s σ H Q I q => h.run wh pins s σ H Q I (hi σ H Q q)⟩
theorem pa_imp {X : Cx} {es : List Expr} {t t' : TA} (h : PA X es t) (hi : ∀ σ H Q, t' σ H Q → t σ H Q) : PA X es t' := ⟨fun pos pins s σ H Q I q => h.run pos pins s σ H Q I (hi σ H Q q)⟩
theorem ps_imp {X : Cx} {st : Stmt} {t t' : TS} (h : PS X st t) (hi : ∀ D σ H, t' D σ H → t D σ H) : PS X st t' := ⟨fun pins s σ H D I q => h.run pins s σ H D I (hi D σ H q)⟩
theorem pss_imp {X : Cx} {st : List Stmt} {t t' : TS} (h : PSs X st t) (hi : ∀ D σ H, t' D σ H → t D σ H) : PSs X st t' := ⟨fun pins s σ H D I q => h.run pins s σ H D I (hi D σ H q)⟩
abbrev DE (X : Cx) (W : WX) (ph : List Fl) (e : Expr) (g : Rw → Rs PyData) : Prop := PE X e (rE X.K X.mg W ph g)
abbrev DO (X : Cx) (W : WX) (ph : List Fl) (e : Expr) (g : Rw → Rs PyData) : Prop := PE X e (rO X.K X.mg W ph g)
abbrev DT (X : Cx) (W : WX) (ph : List Fl) (e : Expr) (g : Rw → Rs Bool) : Prop := PT X e (rT X.K X.mg W ph g)
abbrev DW (X : Cx) (W : WX) (ph : List Fl) (e : Expr) (g : Rw → Rs Bool) : Prop := PW X e (rT X.K X.mg W ph g)
abbrev DA (X : Cx) (W : WX) (ph : List Fl) (es : List Expr) (g : Rw → Rs (List PyData)) : Prop := PA X es (rA X.K X.mg W ph g)
/-- a step that freezes a new object -/
theorem Step.freeze {F H F' H' : Hp} {p : Addr} {o : HO} (s : Step F H F' H') (h0 : H p = none) (h1 : F' p = none) (h2 : H' p = some o) : Step F H (upd F' p o) H' := by
  refine ⟨s.f.trans (same_upd h1), fun b x e => ?_, s.h, fun q e1 e2 => ?_⟩
  · by_cases hb : b = p
    · subst hb; rw [upd_same] at e; rw [h2]; exact e
    · rw [upd_ne hb] at e; exact s.fh _ _ e
  · have ne : q ≠ p := fun z => by subst z; exact e2 h0
    rw [upd_ne ne]; exact s.nw q e1 e2
section
variable {X : Cx} {W : WX} {ph : List Fl} {e a b c : Expr} {es : List Expr} {pos : Pos}
/-- an object of one's own may be frozen -/
theorem de_of {g : Rw → Rs PyData} (h : DO X W ph e g) : DE X W ph e g := pe_imp h fun σ H Q ⟨F, rho, n, q⟩ =>
  ⟨F, rho, n, q.all fun d z F' H' s p o h0 h1 h2 r => z (upd F' p o) H' (s.freeze h0 h1 h2) (.ref p) ((r.mono (same_upd h1)).rp upd_same)⟩
/-! ### names and constants -/
def gV (i : Nat) : Rw → Rs PyData := fun rho => .ok (look rho i)
def gC (d : PyData) : Rw → Rs PyData := fun _ => .ok d
theorem de_var (i : Nat) {x : Str} (h : ph[i]? = some .im := by rfl) (hN : X.N[i]? = some x := by rfl) (hv : Vis X.env.scope x := by first | exact Or.inl rfl | exact Or.inr (Or.inl rfl) | exact Or.inr (Or.inr rfl))
    (hd : (x == ("__debug__" : Str)) = false := by decide) (hcd : (x == ("__classdict__" : Str)) = false := by decide) : DE X W ph (.Name x pos) (gV i) :=
  pe_imp (pe_var hN hv hd hcd) fun σ H Q ⟨F, rho, n, q⟩ => by
    obtain ⟨v, e, r⟩ := n.im h
    exact ⟨v, e, q.now n.fh v r⟩
theorem de_int {i : Int} {j} : DE X W ph (.Constant (.int i) j pos) (gC (.int i)) := pe_imp pe_int fun σ H Q ⟨F, rho, n, q⟩ => q.now n.fh _ (.int i)
theorem de_bl {b : Bool} {j} : DE X W ph (.Constant (.bool b) j pos) (gC (.bool b)) := pe_imp pe_bl fun σ H Q ⟨F, rho, n, q⟩ => q.now n.fh _ (.bl b)
theorem de_non {j} : DE X W ph (.Constant .none j pos) (gC .none) := pe_imp pe_non fun σ H Q ⟨F, rho, n, q⟩ => q.now n.fh _ .non
theorem de_str {x : Str} {j} : DE X W ph (.Constant (.str x) j pos) (gC (.str x)) := pe_imp pe_str fun σ H Q ⟨F, rho, n, q⟩ => q.now n.fh _ (.str x)
/-- a module's number -/
theorem de_glob {x : Str} {i : Int} {t : Tok} (hm : X.mg x = some (.int i t)) (hg : Gl X x := by rfl) (hd : (x == ("__debug__" : Str)) = false := by decide) : DE X W ph (.Name x pos) (gC (.int i)) :=
  pe_imp (pe_glob (v := .int i) hg hm ⟨t, rfl⟩ hd) fun σ H Q ⟨F, rho, n, q⟩ => q.now n.fh _ (.int i)
/-! ### operators by data -/
def rOp (K : PySem.W.Frag) (o : PyData → PyData → Option PyData) : R2 := fun x y H Q => ∃ F d1 d2 d, Same F H ∧ Rp K F x d1 ∧ Rp K F y d2 ∧ o d1 d2 = some d ∧ ∀ v F' H', Step F H F' H' → Rp K F' v d → Q v H'
def gB (o : PyData → PyData → Option PyData) (ga gb : Rw → Rs PyData) : Rw → Rs PyData := fun rho => ga rho >>= fun x => gb rho >>= fun y => lift (o x y)
variable {ga gb gc : Rw → Rs PyData} {o o' : PyData → PyData → Option PyData}
theorem op_run {t : TE} {r : R2} (hr : ∀ x y H Q, rOp X.K o x y H Q → r x y H Q) : ∀ σ H Q, rE X.K X.mg W ph (gB o ga gb) σ H Q → tOp r (rE X.K X.mg W ph ga) (rE X.K X.mg W ph gb) σ H Q := fun σ H Q ⟨F, rho, n, q⟩ =>
  ⟨F, rho, n, q.bind fun d1 F1 H1 s1 q1 v1 r1 => ⟨F1, rho, n.step s1, q1.bind fun d2 F2 H2 s2 q2 v2 r2 => by
    obtain ⟨d, e, q3⟩ := q2.lift
    exact hr _ _ _ _ ⟨F2, d1, d2, d, s2.fh, r1.mono s2.f, r2, e, fun v F' H' s3 r => q3.ok s3 v r⟩⟩⟩
theorem de_op {op : Operator} (ho : OpR X (binaryOp op) (rOp X.K o)) (ha : DE X W ph a ga) (hb : DE X W ph b gb) : DE X W ph (.BinOp a op b pos) (gB o ga gb) :=
  pe_imp (pe_op ho ha hb) (op_run (t := fun _ _ _ => True) fun _ _ _ _ h => h)
theorem de_cmp {op : CmpOp} (ho : OpR X (compareOp op) (rOp X.K o)) (ha : DE X W ph a ga) (hb : DE X W ph b gb) (hm : behindInMarks op b = false := by first | exact nomark _ | rfl) : DE X W ph (.Compare a [op] [b] pos) (gB o ga gb) :=
  pe_imp (pe_cmpR ho ha hb hm) (op_run (t := fun _ _ _ => True) fun _ _ _ _ h => h)
/-- a datum that is a truth value -/
def boolD : PyData → Option Bool
  | .bool b => some b
  | _ => none
def gTb (g : Rw → Rs PyData) : Rw → Rs Bool := fun rho => g rho >>= fun d => lift (boolD d)
theorem tb_run {g : Rw → Rs PyData} : ∀ σ H Q, rT X.K X.mg W ph (gTb g) σ H Q → rE X.K X.mg W ph g σ H fun x H' => ∃ k, x = .bl k ∧ Q k H' := fun σ H Q ⟨F, rho, n, q⟩ =>
  ⟨F, rho, n, q.bind fun d F1 H1 s1 q1 v r => by
    obtain ⟨k, e, q2⟩ := q1.lift
    cases d <;> cases e
    cases r
    exact ⟨_, rfl, q2.now s1.fh⟩⟩
theorem dt_cmp {op : CmpOp} (ho : OpR X (compareOp op) (rOp X.K o)) (ha : DE X W ph a ga) (hb : DE X W ph b gb) (hm : behindInMarks op b = false := by first | exact nomark _ | rfl) : DT X W ph (.Compare a [op] [b] pos) (gTb (gB o ga gb)) :=
  pt_imp (pt_cmpR ho ha hb hm) fun σ H Q h => op_run (t := fun _ _ _ => True) (fun _ _ _ _ h => h) σ H _ (tb_run σ H Q h)
/-- a < b < c -/
def gChain (o o' : PyData → PyData → Option PyData) (ga gb gc : Rw → Rs PyData) : Rw → Rs PyData := fun rho => ga rho >>= fun x => gb rho >>= fun y => lift ((o x y).bind boolD) >>= fun k => if k = true then gc rho >>= fun z => lift (o' y z) else .ok (.bool false)
theorem chain_run {r r' : R2} (hr : ∀ x y H Q, rOp X.K o x y H Q → r x y H Q) (hr' : ∀ x y H Q, rOp X.K o' x y H Q → r' x y H Q) : ∀ σ H Q, rE X.K X.mg W ph (gChain o o' ga gb gc) σ H Q →
    tChain r r' (rE X.K X.mg W ph ga) (rE X.K X.mg W ph gb) (rE X.K X.mg W ph gc) σ H Q := fun σ H Q ⟨F, rho, n, q⟩ =>
  ⟨F, rho, n, q.bind fun d1 F1 H1 s1 q1 v1 r1 => ⟨F1, rho, n.step s1, q1.bind fun d2 F2 H2 s2 q2 v2 r2 => by
    refine hr _ _ _ _ ?_
    cases e : o d1 d2 with
    | none => rw [e] at q2; exact False.elim q2
    | some z =>
      rw [e] at q2
      cases z with
      | bool k =>
        refine ⟨F2, d1, d2, _, s2.fh, r1.mono s2.f, r2, e, fun v F3 H3 s3 r3 => ?_⟩
        cases r3
        have q3 : Aft X.mg W σ F2 H2 (if k = true then gc rho >>= fun z => lift (o' d2 z) else .ok (.bool false)) _ := q2
        refine ⟨k, rfl, ?_⟩
        cases k with
        | true =>
          rw [if_pos rfl] at q3 ⊢
          exact ⟨F3, rho, (n.step (s1.trans s2)).step s3, (q3.step s3).bind fun d3 F4 H4 s4 q4 v4 r4 => by
            obtain ⟨d, e4, q5⟩ := q4.lift
            exact hr' _ _ _ _ ⟨F4, d2, d3, d, s4.fh, (r2.mono s3.f).mono s4.f, r4, e4, fun v F' H' s5 r => q5.ok s5 v r⟩⟩
        | false =>
          rw [if_neg Bool.false_ne_true] at q3 ⊢
          exact q3.ok s3 _ (.bl false)
      | none => exact False.elim q2
      | int _ => exact False.elim q2
      | str _ => exact False.elim q2
      | list _ => exact False.elim q2
      | tuple _ => exact False.elim q2
      | dict _ => exact False.elim q2⟩⟩
theorem de_chain {op op' : CmpOp} (ho : OpR X (compareOp op) (rOp X.K o)) (ho' : OpR X (compareOp op') (rOp X.K o')) (ha : DE X W ph a ga) (hb : DE X W ph b gb) (hc : DE X W ph c gc) (hm : lastMarks [op, op'] [b, c] = false := by with_unfolding_all rfl) :
    DE X W ph (.Compare a [op, op'] [b, c] pos) (gChain o o' ga gb gc) := pe_imp (pe_chain ho ho' ha hb hc hm) (chain_run (fun _ _ _ _ h => h) fun _ _ _ _ h => h)
theorem dt_chain {op op' : CmpOp} (ho : OpR X (compareOp op) (rOp X.K o)) (ho' : OpR X (compareOp op') (rOp X.K o')) (ha : DE X W ph a ga) (hb : DE X W ph b gb) (hc : DE X W ph c gc) (hm : lastMarks [op, op'] [b, c] = false := by with_unfolding_all rfl) :
    DT X W ph (.Compare a [op, op'] [b, c] pos) (gTb (gChain o o' ga gb gc)) := pt_imp (pt_chain ho ho' ha hb hc hm) fun σ H Q h => chain_run (fun _ _ _ _ h => h) (fun _ _ _ _ h => h) σ H _ (tb_run σ H Q h)
/-! ### truth -/
def truD : PyData → Option Bool
  | .none => some false
  | .bool b => some b
  | .int i => some (i != 0)
  | .str x => if x.length ≤ sizeLine then some ((x.length : Int) != 0) else none
  | .list xs => some (!xs.isEmpty)
  | .tuple xs => some (!xs.isEmpty)
  | .dict _ => none
def gTr (g : Rw → Rs PyData) : Rw → Rs Bool := fun rho => g rho >>= fun d => lift (truD d)
theorem rpl_empty {K : PySem.W.Frag} {F : Hp} {vs : List V} {ds : List PyData} (h : RpL K F vs ds) : (!ds.isEmpty) = !vs.isEmpty := by cases h <;> rfl
theorem tru_of {K : PySem.W.Frag} {F H : Hp} (s : Same F H) {v : V} {d : PyData} {k : Bool} (r : Rp K F v d) (h : truD d = some k) : TruV K v H k := by
  cases r with
  | non => cases h; rfl
  | bl b => cases h; rfl
  | int i => cases h; rfl
  | str x =>
    have h : (if x.length ≤ sizeLine then some ((x.length : Int) != 0) else none) = some k := h
    by_cases hz : x.length ≤ sizeLine
    · rw [if_pos hz] at h; cases h; exact ⟨hz, rfl⟩
    · rw [if_neg hz] at h; cases h
  | lst e _ t => cases h; exact .inl ⟨_, .of (s _ _ e), rpl_empty t⟩
  | tup e _ t => cases h; exact .inr (.inl ⟨_, .of (s _ _ e), rpl_empty t⟩)
  | dct e _ t => cases h
  | scr e => cases h
theorem dt_truth {g : Rw → Rs PyData} (h : DE X W ph e g) (he : ∀ whole, isTrue e X.env whole = (do let v ← whole; standAt e.pos; holding [v] (truthy v)) := by intro _; rfl) : DT X W ph e (gTr g) :=
  pt_imp (pt_truth h he) fun σ H Q ⟨F, rho, n, q⟩ => ⟨F, rho, n, q.bind fun d F1 H1 s1 q1 v r => by
    obtain ⟨k, e, q2⟩ := q1.lift
    exact ⟨k, tru_of s1.fh r e, q2.now s1.fh⟩⟩
/-! ### and, or, not, if -/
variable {ta tb : Rw → Rs Bool} {rest : List Expr}
def gAndT (a b : Rw → Rs Bool) : Rw → Rs Bool := fun rho => a rho >>= fun x => if x = true then b rho else .ok false
def gOrT (a b : Rw → Rs Bool) : Rw → Rs Bool := fun rho => a rho >>= fun x => if x = true then .ok true else b rho
def gNotT (a : Rw → Rs Bool) : Rw → Rs Bool := fun rho => a rho >>= fun x => .ok (!x)
theorem dw_and1 (ha : DT X W ph a ta) : DW X W ph (.BoolOp .And [a] pos) ta := pw_and1 ha
theorem dw_or1 (ha : DT X W ph a ta) : DW X W ph (.BoolOp .Or [a] pos) ta := pw_or1 ha
theorem dw_and (ha : DT X W ph a ta) (hb : DW X W ph (.BoolOp .And (b :: rest) pos) tb) : DW X W ph (.BoolOp .And (a :: b :: rest) pos) (gAndT ta tb) :=
  pw_imp (pw_and ha hb) fun σ H Q ⟨F, rho, n, q⟩ => ⟨F, rho, n, q.bind fun k F1 H1 s1 q1 => by
    cases k with
    | true => rw [if_pos rfl] at q1 ⊢; exact ⟨F1, rho, n.step s1, q1⟩
    | false => rw [if_neg Bool.false_ne_true] at q1 ⊢; exact q1.now s1.fh⟩
theorem dw_or (ha : DT X W ph a ta) (hb : DW X W ph (.BoolOp .Or (b :: rest) pos) tb) : DW X W ph (.BoolOp .Or (a :: b :: rest) pos) (gOrT ta tb) :=
  pw_imp (pw_or ha hb) fun σ H Q ⟨F, rho, n, q⟩ => ⟨F, rho, n, q.bind fun k F1 H1 s1 q1 => by
    cases k with
    | true => rw [if_pos rfl] at q1 ⊢; exact q1.now s1.fh
    | false => rw [if_neg Bool.false_ne_true] at q1 ⊢; exact ⟨F1, rho, n.step s1, q1⟩⟩
theorem dt_w (h : DW X W ph e ta) : DT X W ph e ta := h.pt
theorem dt_not (ha : DT X W ph a ta) : DT X W ph (.UnaryOp .Not a pos) (gNotT ta) :=
  pt_imp (pt_not ha) fun σ H Q ⟨F, rho, n, q⟩ => ⟨F, rho, n, q.bind fun k F1 H1 s1 q1 => q1.now s1.fh⟩
def gAndV (a b : Rw → Rs PyData) : Rw → Rs PyData := fun rho => a rho >>= fun x => lift (boolD x) >>= fun k => if k = true then b rho else .ok (.bool false)
def gOrV (a b : Rw → Rs PyData) : Rw → Rs PyData := fun rho => a rho >>= fun x => lift (boolD x) >>= fun k => if k = true then .ok (.bool true) else b rho
def gNotV (a : Rw → Rs PyData) : Rw → Rs PyData := fun rho => a rho >>= fun x => lift (truD x) >>= fun k => .ok (.bool (!k))
theorem de_one {op} (h : DE X W ph a ga) : DE X W ph (.BoolOp op [a] pos) ga := pe_one h
theorem bool_of {K : PySem.W.Frag} {F : Hp} {v : V} {d : PyData} {k : Bool} (r : Rp K F v d) (e : boolD d = some k) : v = .bl k := by
  cases r <;> cases e; rfl
theorem de_and (ha : DE X W ph a ga) (hb : DE X W ph (.BoolOp .And (b :: rest) pos) gb) : DE X W ph (.BoolOp .And (a :: b :: rest) pos) (gAndV ga gb) :=
  pe_imp (pe_and ha hb) fun σ H Q ⟨F, rho, n, q⟩ => ⟨F, rho, n, q.bind fun d F1 H1 s1 q1 v r => by
    cases e : boolD d with
    | none => rw [e] at q1; exact False.elim q1
    | some k =>
      rw [e] at q1
      have q2 : Aft X.mg W σ F1 H1 (if k = true then gb rho else .ok (.bool false)) _ := q1
      refine ⟨k, bool_of r e, ?_⟩
      cases k with
      | true => rw [if_pos rfl] at q2 ⊢; exact ⟨F1, rho, n.step s1, q2⟩
      | false => rw [if_neg Bool.false_ne_true] at q2 ⊢; exact q2.now s1.fh _ (.bl false)⟩
theorem de_or (ha : DE X W ph a ga) (hb : DE X W ph (.BoolOp .Or (b :: rest) pos) gb) : DE X W ph (.BoolOp .Or (a :: b :: rest) pos) (gOrV ga gb) :=
  pe_imp (pe_or ha hb) fun σ H Q ⟨F, rho, n, q⟩ => ⟨F, rho, n, q.bind fun d F1 H1 s1 q1 v r => by
    cases e : boolD d with
    | none => rw [e] at q1; exact False.elim q1
    | some k =>
      rw [e] at q1
      have q2 : Aft X.mg W σ F1 H1 (if k = true then .ok (.bool true) else gb rho) _ := q1
      refine ⟨k, bool_of r e, ?_⟩
      cases k with
      | true => rw [if_pos rfl] at q2 ⊢; exact q2.now s1.fh _ (.bl true)
      | false => rw [if_neg Bool.false_ne_true] at q2 ⊢; exact ⟨F1, rho, n.step s1, q2⟩⟩
theorem de_not (ha : DE X W ph a ga) : DE X W ph (.UnaryOp .Not a pos) (gNotV ga) :=
  pe_imp (pe_notT ha) fun σ H Q ⟨F, rho, n, q⟩ => ⟨F, rho, n, q.bind fun d F1 H1 s1 q1 v r => by
    cases e : truD d with
    | none => rw [e] at q1; exact False.elim q1
    | some k =>
      rw [e] at q1
      have q2 : Aft X.mg W σ F1 H1 (.ok (PyData.bool !k)) _ := q1
      exact ⟨k, tru_of s1.fh r e, q2.now s1.fh _ (.bl _)⟩⟩
def gIf (t : Rw → Rs Bool) (a b : Rw → Rs PyData) : Rw → Rs PyData := fun rho => t rho >>= fun k => if k = true then a rho else b rho
theorem de_if (hc : DT X W ph c ta) (ha : DE X W ph a ga) (hb : DE X W ph b gb) : DE X W ph (.IfExp c a b pos) (gIf ta ga gb) :=
  pe_imp (pe_ifExp hc ha hb) fun σ H Q ⟨F, rho, n, q⟩ => ⟨F, rho, n, q.bind fun k F1 H1 s1 q1 => by
    cases k with
    | true => rw [if_pos rfl] at q1 ⊢; exact ⟨F1, rho, n.step s1, q1⟩
    | false => rw [if_neg Bool.false_ne_true] at q1 ⊢; exact ⟨F1, rho, n.step s1, q1⟩⟩
/-! ### argument lists, displays -/
variable {gs : Rw → Rs (List PyData)}
def gNil : Rw → Rs (List PyData) := fun _ => .ok []
def gCons (ga : Rw → Rs PyData) (gs : Rw → Rs (List PyData)) : Rw → Rs (List PyData) := fun rho => ga rho >>= fun x => gs rho >>= fun xs => .ok (x :: xs)
theorem da_nil : DA X W ph [] gNil := pa_imp pa_nil fun σ H Q ⟨F, rho, n, q⟩ => q.now n.fh _ .nil
theorem da_cons (ha : DE X W ph e ga) (hr : DA X W ph es gs) (hs : starEach (e :: es) X.env = (false, eval e X.env) :: starEach es X.env := by rfl) : DA X W ph (e :: es) (gCons ga gs) :=
  pa_imp (pa_cons ha hr hs) fun σ H Q ⟨F, rho, n, q⟩ => ⟨F, rho, n, q.bind fun d F1 H1 s1 q1 v r => ⟨F1, rho, n.step s1, q1.bind fun ds F2 H2 s2 q2 vs rs => q2.now s2.fh _ (.cons (r.mono s2.f) rs)⟩⟩
def smal (n : Nat) : Bool := decide (n ≤ sizeLine)
def tupD (ds : List PyData) : Option PyData := if ds.length ≤ sizeLine then some (.tuple ds) else none
def lstD (ds : List PyData) : Option PyData := if ds.length ≤ sizeLine then some (.list ds) else none
def gL (o : List PyData → Option PyData) (gs : Rw → Rs (List PyData)) : Rw → Rs PyData := fun rho => gs rho >>= fun ds => lift (o ds)
theorem de_tup {x1} (h : DA X W ph es gs) : DE X W ph (.Tuple es x1 pos) (gL tupD gs) :=
  pe_imp (pe_tup h) fun σ H Q ⟨F, rho, n, q⟩ => ⟨F, rho, n, q.bind fun ds F1 H1 s1 q1 vs rs => by
    obtain ⟨d, e, q2⟩ := q1.lift
    unfold tupD at e
    by_cases hz : ds.length ≤ sizeLine
    · rw [if_pos hz] at e
      cases e
      refine ⟨by rw [rs.length]; exact hz, fun p hp => ?_⟩
      exact q2.ok (Step.new s1.fh hp) _ (.tup upd_same (by rw [rs.length]; exact hz) (rs.mono (same_upd (same_none s1.fh hp))))
    · rw [if_neg hz] at e; cases e⟩
theorem do_lst (h : DA X W ph es gs) : DO X W ph (.List es pos) (gL lstD gs) :=
  pe_imp (pe_lst h) fun σ H Q ⟨F, rho, n, q⟩ => ⟨F, rho, n, q.bind fun ds F1 H1 s1 q1 vs rs => by
    obtain ⟨d, e, q2⟩ := q1.lift
    unfold lstD at e
    by_cases hz : ds.length ≤ sizeLine
    · rw [if_pos hz] at e
      cases e
      refine ⟨by rw [rs.length]; exact hz, fun p hp => ?_⟩
      exact q2.ok (Step.hid s1.fh hp) p _ (same_none s1.h hp) (same_none s1.fh hp) upd_same ⟨by rw [rs.length]; exact hz, rs⟩
    · rw [if_neg hz] at e; cases e⟩
/-! ### calls of built-ins -/
def rCl (K : PySem.W.Frag) (o : List PyData → Option PyData) : List V → Hp → VK → Prop := fun vs H Q => ∃ F ds d, Same F H ∧ RpL K F vs ds ∧ o ds = some d ∧ ∀ v F' H', Step F H F' H' → Rp K F' v d → Q v H'
def rClO (K : PySem.W.Frag) (o : List PyData → Option PyData) : List V → Hp → VK → Prop := fun vs H Q => ∃ F ds d, Same F H ∧ RpL K F vs ds ∧ o ds = some d ∧ ∀ p u F' H', Step F H F' H' → H p = none → F' p = none → H' p = some u → RepO K F' u d → Q (.ref p) H'
variable {x : Str} {p : Pos} {id T : String} {ol : List PyData → Option PyData}
theorem cl_run : ∀ σ H Q, rE X.K X.mg W ph (gL ol gs) σ H Q → tCB (rCl X.K ol) (rA X.K X.mg W ph gs) σ H Q := fun σ H Q ⟨F, rho, n, q⟩ =>
  ⟨F, rho, n, q.bind fun ds F1 H1 s1 q1 vs rs => by
    obtain ⟨d, e, q2⟩ := q1.lift
    exact ⟨F1, ds, d, s1.fh, rs, e, fun v F' H' s r => q2.ok s v r⟩⟩
theorem clO_run : ∀ σ H Q, rO X.K X.mg W ph (gL ol gs) σ H Q → tCB (rClO X.K ol) (rA X.K X.mg W ph gs) σ H Q := fun σ H Q ⟨F, rho, n, q⟩ =>
  ⟨F, rho, n, q.bind fun ds F1 H1 s1 q1 vs rs => by
    obtain ⟨d, e, q2⟩ := q1.lift
    exact ⟨F1, ds, d, s1.fh, rs, e, fun p u F' H' s h0 h1 h2 r => q2.ok s p u (same_none s1.h h0) h1 h2 r⟩⟩
theorem de_callB (hc : CallR X (.builtin id) (rCl X.K ol)) (hm : X.mg x = none) (hv : bootBuiltins x = some (.builtin id)) (ha : DA X W ph (e :: es) gs) (hg : Gl X x := by rfl) (hn : x ≠ "__name__" := by decide) (hdb : (x == ("__debug__" : Str)) = false := by decide)
    (he : starEach (e :: es) X.env = (false, eval e X.env) :: starEach es X.env := by rfl) (hpl : (backTo pos (starEach es X.env)).any (·.1) = false := by rfl) : DE X W ph (.Call (.Name x p) (e :: es) [] pos) (gL ol gs) :=
  pe_imp (pe_callB hc hg hm hv ha hn hdb he hpl) cl_run
theorem do_callB (hc : CallR X (.builtin id) (rClO X.K ol)) (hm : X.mg x = none) (hv : bootBuiltins x = some (.builtin id)) (ha : DA X W ph (e :: es) gs) (hg : Gl X x := by rfl) (hn : x ≠ "__name__" := by decide) (hdb : (x == ("__debug__" : Str)) = false := by decide)
    (he : starEach (e :: es) X.env = (false, eval e X.env) :: starEach es X.env := by rfl) (hpl : (backTo pos (starEach es X.env)).any (·.1) = false := by rfl) : DO X W ph (.Call (.Name x p) (e :: es) [] pos) (gL ol gs) :=
  pe_imp (pe_callB hc hg hm hv ha hn hdb he hpl) clO_run
theorem de_callTy (hc : CallR X (.type T) (rCl X.K ol)) (hm : X.mg x = none) (hv : bootBuiltins x = some (.type T)) (ha : DA X W ph (e :: es) gs) (hg : Gl X x := by rfl) (hn : x ≠ "__name__" := by decide) (hdb : (x == ("__debug__" : Str)) = false := by decide)
    (he : starEach (e :: es) X.env = (false, eval e X.env) :: starEach es X.env := by rfl) (hpl : (backTo pos (starEach es X.env)).any (·.1) = false := by rfl) : DE X W ph (.Call (.Name x p) (e :: es) [] pos) (gL ol gs) :=
  pe_imp (pe_callTy hc hg hm hv ha hn hdb he hpl) cl_run
theorem do_callTy (hc : CallR X (.type T) (rClO X.K ol)) (hm : X.mg x = none) (hv : bootBuiltins x = some (.type T)) (ha : DA X W ph (e :: es) gs) (hg : Gl X x := by rfl) (hn : x ≠ "__name__" := by decide) (hdb : (x == ("__debug__" : Str)) = false := by decide)
    (he : starEach (e :: es) X.env = (false, eval e X.env) :: starEach es X.env := by rfl) (hpl : (backTo pos (starEach es X.env)).any (·.1) = false := by rfl) : DO X W ph (.Call (.Name x p) (e :: es) [] pos) (gL ol gs) :=
  pe_imp (pe_callTy hc hg hm hv ha hn hdb he hpl) clO_run
/-! ### calls of defs -/
/-- the promise of a def: m of its arguments' data -/
def spP (K : PySem.W.Frag) (mg : Str → Option Value) (k : Nat) (m : List PyData → Rs PyData) : Sp := fun vs H Q E => ∃ F ds, ds.length = k ∧ Same F H ∧ RpL K F vs ds ∧ Aft mg (fun c d _ H' => E c d H') [] F H (m ds) fun d F' H' => ∀ v, Rp K F' v d → Q v H'
def gF (m : List PyData → Rs PyData) (gs : Rw → Rs (List PyData)) : Rw → Rs PyData := fun rho => gs rho >>= m
theorem aft_w {mg : Str → Option Value} {W : WX} {σ : L2.St} {F H : Hp} {r : Rs PyData} {Z : PyData → Hp → Hp → Prop} (h : Aft mg W σ F H r Z) : Aft mg (fun c d _ H' => W c d σ H') [] F H r Z := by
  cases r with
  | ok x => exact h
  | error e => cases e <;> exact h
/-- m is of nn arguments -/
def LenM (nn : Nat) (m : List PyData → Rs PyData) : Prop := ∀ ds, ds.length ≠ nn → m ds = .error .bad
theorem de_fn {k : Nat} {f : Addr} {fd : FuncData} {ps : List Str} {m : List PyData → Rs PyData} {nn : Nat} (G : FnOk X.prog X.w X.K X.mg X.base (L2.CX X.prog X.w) k f fd ps (spP X.K X.mg nn m)) (hr : Room k X.A) (hm : X.mg x = some (.ref f)) (hk : PySem.W.keepIn X.K (.ref f) = true) (hb : Binds X.K fd ps [])
    (lm : LenM nn m) (tk : Takes X W) (ha : DA X W ph (e :: es) gs) (hg : Gl X x := by rfl) (hdb : (x == ("__debug__" : Str)) = false := by decide)
    (he : starEach (e :: es) X.env = (false, eval e X.env) :: starEach es X.env := by rfl) (hpl : (backTo pos (starEach es X.env)).any (·.1) = false := by rfl) : DE X W ph (.Call (.Name x p) (e :: es) [] pos) (gF m gs) :=
  pe_imp (pe_callS G hr hg hm hk hb (fun σ => passAt tk σ) ha hdb he hpl) fun σ H Q ⟨F, rho, n, q⟩ => ⟨F, rho, n, q.bind fun ds F1 H1 s1 q1 vs rs => by
    by_cases hl : ds.length = nn
    · exact ⟨F1, ds, hl, s1.fh, rs, aft_w q1⟩
    · rw [lm ds hl] at q1; exact False.elim q1⟩
end
end PD
/-! PD2: statements, targets, loops. -/
namespace PD
open PySem L2
/-- within a def that was entered with F0, H0 -/
structure EnS (K : PySem.W.Frag) (F0 H0 : Hp) (ph : List Fl) (F H : Hp) (σ : L2.St) (rho : Rw) : Prop where
  en : En K ph F H σ rho
  st : Step F0 H0 F H
  on : ∀ (i : Nat) (p : Addr), ph[i]? = some .ow → σ[i]? = some (some (.ref p)) → H0 p = none
section
variable {K : PySem.W.Frag} {F0 H0 F H F' H' : Hp} {ph ph' : List Fl} {σ : L2.St} {rho : Rw}
theorem EnS.step (n : EnS K F0 H0 ph F H σ rho) (s : Step F H F' H') : EnS K F0 H0 ph F' H' σ rho := ⟨n.en.step s, n.st.trans s, n.on⟩
open Classical in
theorem EnS.weak (n : EnS K F0 H0 ph F H σ rho) (w : wk ph ph' = true) : ∃ F', Same F F' ∧ EnS K F0 H0 ph' F' H σ rho := by
  let Fz : Addr → Prop := fun b => ∃ i : Nat, ph[i]? = some Fl.ow ∧ ph'[i]? = some Fl.im ∧ σ[i]? = some (some (V.ref b))
  let F' : Hp := fun b => if Fz b then H b else F b
  have s1 : Same F F' := fun b o e => by
    show (if Fz b then H b else F b) = some o
    by_cases h : Fz b
    · rw [if_pos h]; exact n.en.fh _ _ e
    · rw [if_neg h]; exact e
  have s2 : Same F' H := fun b o e => by
    have e : (if Fz b then H b else F b) = some o := e
    by_cases h : Fz b
    · rw [if_pos h] at e; exact e
    · rw [if_neg h] at e; exact n.en.fh _ _ e
  have owow : ∀ i, ph'[i]? = some Fl.ow → ph[i]? = some Fl.ow := fun i h => by
    obtain ⟨f, h1, h2⟩ := wk_get w h
    cases f <;> first | exact h1 | (exact absurd h2 (by decide))
  refine ⟨F', s1, ⟨s2, Nat.le_trans (wk_len w) n.en.ls, Nat.le_trans (wk_len w) n.en.lr, fun i g h => ?_, fun i j p h1 h2 => n.en.ap i j p (owow i h1) (owow j h2)⟩, ⟨n.st.f.trans s1, s2, n.st.h, fun p h1 h2 => ?_⟩, fun i p h1 h2 => n.on i p (owow i h1) h2⟩
  · obtain ⟨f, h1, h2⟩ := wk_get w h
    obtain ⟨sv, d, e1, e2, e3⟩ := n.en.sl i f h1
    refine ⟨sv, d, e1, e2, ?_⟩
    cases g with
    | dead => trivial
    | im =>
      cases f with
      | dead => exact absurd h2 (by decide)
      | im => obtain ⟨v, e, r⟩ := e3; exact ⟨v, e, r.mono s1⟩
      | ow =>
        obtain ⟨p, o, e, q1, q2, r⟩ := e3
        subst e
        have : F' p = some o := by
          show (if Fz p then H p else F p) = some o
          rw [if_pos ⟨i, h1, h, e1⟩]; exact q2
        exact ⟨.ref p, rfl, (r.mono s1).rp this⟩
    | ow =>
      cases f with
      | dead => exact absurd h2 (by decide)
      | im => exact absurd h2 (by decide)
      | ow =>
        obtain ⟨p, o, e, q1, q2, r⟩ := e3
        subst e
        refine ⟨p, o, rfl, ?_, q2, r.mono s1⟩
        show (if Fz p then H p else F p) = none
        rw [if_neg]
        · exact q1
        · rintro ⟨j, j1, j2, j3⟩
          have := n.en.ap i j p h1 j1 e1 j3
          subst this
          rw [h] at j2; cases j2
  · show (if Fz p then H p else F p) = none
    rw [if_neg]
    · exact n.st.nw p h1 h2
    · rintro ⟨i, i1, i2, i3⟩
      exact h2 (n.on i p i1 i3)
end
/-- how a statement ends -/
inductive SR where
  | nx (rho : Rw)
  | rt (d : PyData)
  | bk (rho : Rw)
  | ct (rho : Rw)
  | er (e : Er) (rho : Rw)
/-- what is known at a break, a continue, an exception -/
structure Ctl where
  b : List Fl
  c : List Fl
  e : List Fl
def SAft (K : PySem.W.Frag) (mg : Str → Option Value) (W : WX) (C : Ctl) (F0 H0 : Hp) (phn : List Fl) (D : Ends) : SR → Prop
  | .nx rho => ∀ σ F H, EnS K F0 H0 phn F H σ rho → D.nx σ H
  | .rt d => ∀ v F H, Step F0 H0 F H → Rp K F v d → D.rt v H
  | .bk rho => ∀ σ F H, EnS K F0 H0 C.b F H σ rho → D.bk σ H
  | .ct rho => ∀ σ F H, EnS K F0 H0 C.c F H σ rho → D.ct σ H
  | .er (.exc n) rho => ∀ σ F H, EnS K F0 H0 C.e F H σ rho → W (clsOf mg n) none σ H
  | .er .bad _ => False
def rS (K : PySem.W.Frag) (mg : Str → Option Value) (W : WX) (C : Ctl) (ph phn : List Fl) (g : Rw → SR) : TS := fun D σ H =>
  ∃ F0 H0 F rho, EnS K F0 H0 ph F H σ rho ∧ SAft K mg W C F0 H0 phn D (g rho)
abbrev DS (X : Cx) (W : WX) (C : Ctl) (ph phn : List Fl) (s : Stmt) (g : Rw → SR) : Prop := PS X s (rS X.K X.mg W C ph phn g)
abbrev DB (X : Cx) (W : WX) (C : Ctl) (ph phn : List Fl) (s : List Stmt) (g : Rw → SR) : Prop := PSs X s (rS X.K X.mg W C ph phn g)
/-- an expression's result, then the rest -/
def thenS {a : Type} (r : Rs a) (rho : Rw) (k : a → SR) : SR := match r with
  | .ok x => k x
  | .error e => .er e rho
section
variable {X : Cx} {W : WX} {C : Ctl} {ph ph1 ph2 phn : List Fl} {e : Expr} {s : Stmt} {rest : List Stmt} {pos : Pos} {g1 g2 : Rw → SR} {ge : Rw → Rs PyData}
/-- from the statement's wish to the expression's -/
theorem aft_then {a : Type} {mg : Str → Option Value} {F0 H0 F H : Hp} {σ : L2.St} {rho : Rw} {r : Rs a} {k : a → SR} {D : Ends} {K : PySem.W.Frag} {Z : a → Hp → Hp → Prop} (n : EnS K F0 H0 ph F H σ rho) (w : wk ph C.e = true) (q : SAft K mg W C F0 H0 phn D (thenS r rho k))
    (hz : ∀ x F1 H1, Step F H F1 H1 → SAft K mg W C F0 H0 phn D (k x) → Z x F1 H1) : Aft mg W σ F H r Z := by
  cases r with
  | ok x => exact fun F1 H1 s => hz x F1 H1 s q
  | error er =>
    cases er with
    | bad => exact q
    | exc nm =>
      intro F1 H1 s
      obtain ⟨F2, _, n2⟩ := (n.step s).weak w
      exact q σ F2 H1 n2
theorem db_nil : DB X W C ph ph [] SR.nx := pss_imp pss_nil fun D σ H ⟨F0, H0, F, rho, n, q⟩ => q σ F H n
def gSeq (g1 g2 : Rw → SR) : Rw → SR := fun rho => match g1 rho with
  | .nx r => g2 r
  | .rt d => .rt d
  | .bk r => .bk r
  | .ct r => .ct r
  | .er e r => .er e r
theorem db_cons (h1 : DS X W C ph ph1 s g1) (h2 : DB X W C ph1 ph2 rest g2) : DB X W C ph ph2 (s :: rest) (gSeq g1 g2) :=
  pss_imp (pss_cons h1 h2) fun D σ H ⟨F0, H0, F, rho, n, q⟩ => ⟨F0, H0, F, rho, n, by
    unfold gSeq at q
    cases e : g1 rho with
    | nx r => rw [e] at q; exact fun σ' F' H' n' => ⟨F0, H0, F', r, n', q⟩
    | rt d => rw [e] at q; exact q
    | bk r => rw [e] at q; exact q
    | ct r => rw [e] at q; exact q
    | er er r => rw [e] at q; cases er <;> exact q⟩
theorem db_one (h1 : DS X W C ph ph1 s g1) : DB X W C ph ph1 [s] g1 := pss_one h1
/-- less is known behind -/
theorem saft_post {K : PySem.W.Frag} {mg : Str → Option Value} {F0 H0 : Hp} {D : Ends} (w : wk ph1 ph2 = true) : ∀ {r : SR}, SAft K mg W C F0 H0 ph2 D r → SAft K mg W C F0 H0 ph1 D r
  | .nx rho, q => fun σ F H n => by
    obtain ⟨F', _, n'⟩ := n.weak w
    exact q σ F' H n'
  | .rt d, q => q
  | .bk r, q => q
  | .ct r, q => q
  | .er (.exc _) r, q => q
  | .er .bad _, q => q
theorem db_post {st : List Stmt} (h : DB X W C ph ph1 st g1) (w : wk ph1 ph2 = true) : DB X W C ph ph2 st g1 := pss_imp h fun D σ H ⟨F0, H0, F, rho, n, q⟩ => ⟨F0, H0, F, rho, n, saft_post w q⟩
theorem ds_post (h : DS X W C ph ph1 s g1) (w : wk ph1 ph2 = true) : DS X W C ph ph2 s g1 := ps_imp h fun D σ H ⟨F0, H0, F, rho, n, q⟩ => ⟨F0, H0, F, rho, n, saft_post w q⟩
theorem db_pre {st : List Stmt} (h : DB X W C ph1 ph2 st g1) (w : wk ph ph1 = true) : DB X W C ph ph2 st g1 := pss_imp h fun D σ H ⟨F0, H0, F, rho, n, q⟩ => by
  obtain ⟨F', _, n'⟩ := n.weak w
  exact ⟨F0, H0, F', rho, n', q⟩
theorem ds_pre (h : DS X W C ph1 ph2 s g1) (w : wk ph ph1 = true) : DS X W C ph ph2 s g1 := ps_imp h fun D σ H ⟨F0, H0, F, rho, n, q⟩ => by
  obtain ⟨F', _, n'⟩ := n.weak w
  exact ⟨F0, H0, F', rho, n', q⟩
theorem ds_pass : DS X W C ph ph (.Pass pos) SR.nx := ps_imp ps_pass fun D σ H ⟨F0, H0, F, rho, n, q⟩ => q σ F H n
theorem ds_break (w : wk ph C.b = true) : DS X W C ph phn (.Break pos) SR.bk := ps_imp ps_break fun D σ H ⟨F0, H0, F, rho, n, q⟩ => by
  obtain ⟨F', _, n'⟩ := n.weak w
  exact q σ F' H n'
theorem ds_cont (w : wk ph C.c = true) : DS X W C ph phn (.Continue pos) SR.ct := ps_imp ps_continue fun D σ H ⟨F0, H0, F, rho, n, q⟩ => by
  obtain ⟨F', _, n'⟩ := n.weak w
  exact q σ F' H n'
def gDrop (ge : Rw → Rs PyData) : Rw → SR := fun rho => thenS (ge rho) rho fun _ => .nx rho
theorem ds_expr (he : DE X W ph e ge) (w : wk ph C.e = true := by rfl) (hs : swapsWith e none pos.line X.env = pure false := by rfl) : DS X W C ph ph (.Expr e pos) (gDrop ge) :=
  ps_imp (ps_expr he hs) fun D σ H ⟨F0, H0, F, rho, n, q⟩ => ⟨F, rho, n.en, aft_then n w q fun d F1 H1 s1 q1 v r => q1 σ F1 H1 (n.step s1)⟩
def gRet (ge : Rw → Rs PyData) : Rw → SR := fun rho => thenS (ge rho) rho fun d => .rt d
theorem ds_ret (he : DE X W ph e ge) (w : wk ph C.e = true := by rfl) : DS X W C ph phn (.Return (some e) pos) (gRet ge) :=
  ps_imp (ps_ret he) fun D σ H ⟨F0, H0, F, rho, n, q⟩ => ⟨F, rho, n.en, aft_then n w q fun d F1 H1 s1 q1 v r => q1 v F1 H1 (n.step s1).st r⟩
def gIfS (t : Rw → Rs Bool) (a b : Rw → SR) : Rw → SR := fun rho => thenS (t rho) rho fun k => if k = true then a rho else b rho
theorem ds_if {c : Expr} {a b : List Stmt} {tc : Rw → Rs Bool} (hc : DT X W ph c tc) (ha : DB X W C ph phn a g1) (hb : DB X W C ph phn b g2) (w : wk ph C.e = true := by rfl) : DS X W C ph phn (.If c a b pos) (gIfS tc g1 g2) :=
  ps_imp (ps_if hc ha hb) fun D σ H ⟨F0, H0, F, rho, n, q⟩ => ⟨F, rho, n.en, aft_then n w q fun k F1 H1 s1 q1 => by
    cases k with
    | true => rw [if_pos rfl] at q1 ⊢; exact ⟨F0, H0, F1, rho, n.step s1, q1⟩
    | false => rw [if_neg Bool.false_ne_true] at q1 ⊢; exact ⟨F0, H0, F1, rho, n.step s1, q1⟩⟩
/-! ### stores to names -/
theorem EnS.setIm {K : PySem.W.Frag} {F0 H0 F H : Hp} {σ : L2.St} {rho : Rw} {v : V} {d : PyData} (n : EnS K F0 H0 ph F H σ rho) (i : Nat) (r : Rp K F v d) : EnS K F0 H0 (ph.set i .im) F H (σ.set i (some v)) (rho.set i d) := by
  refine ⟨n.en.setIm i r, n.st, fun j p h1 h2 => ?_⟩
  have ne : i ≠ j := fun z => by
    subst z
    have hi : i < ph.length := by
      have := (List.getElem?_eq_some_iff.mp h1).1
      simpa using this
    rw [List.getElem?_set_self hi] at h1; cases h1
  rw [List.getElem?_set_ne ne] at h1 h2
  exact n.on j p h1 h2
def gSet (i : Nat) (ge : Rw → Rs PyData) : Rw → SR := fun rho => thenS (ge rho) rho fun d => .nx (rho.set i d)
theorem ds_set (i : Nat) {x : Str} {pos' : Pos} (he : DE X W ph e ge) (hN : X.N.Nodup) (hx : Loc X.env.scope x := by first | exact Or.inl rfl | exact Or.inr rfl) (w : wk ph C.e = true := by rfl) (hi : X.N[i]? = some x := by rfl) (hs : swapsWith e (some (.Name x pos')) pos.line X.env = pure false := by rfl)
    (hf : X.fn x = true ∨ X.env.scope.names.lookup x = some .local := by first | exact .inl rfl | exact .inr rfl) : DS X W C ph (ph.set i .im) (.Assign [.Name x pos'] e pos) (gSet i ge) :=
  ps_imp (ps_set hN hi hx he hs hf) fun D σ H ⟨F0, H0, F, rho, n, q⟩ => ⟨F, rho, n.en, aft_then n w q fun d F1 H1 s1 q1 v r => q1 _ F1 H1 ((n.step s1).setIm i r)⟩
theorem EnS.setOw {K : PySem.W.Frag} {F0 H0 F H F1 H1 : Hp} {σ : L2.St} {rho : Rw} {p : Addr} {o : HO} {d : PyData} (n : EnS K F0 H0 ph F H σ rho) (i : Nat) (s : Step F H F1 H1) (h0 : H p = none) (h1 : F1 p = none) (h2 : H1 p = some o) (r : RepO K F1 o d) :
    EnS K F0 H0 (ph.set i .ow) F1 H1 (σ.set i (some (.ref p))) (rho.set i d) := by
  refine ⟨(n.en.step s).setOw i h1 h2 r fun j hj ho e => ?_, n.st.trans s, fun j q e1 e2 => ?_⟩
  · obtain ⟨q, o', q1, q2, q3, q4⟩ := n.en.ow ho
    rw [q1] at e; cases e
    rw [h0] at q3; cases q3
  · by_cases hj : i = j
    · subst hj
      have hi : i < ph.length := by
        have := (List.getElem?_eq_some_iff.mp e1).1
        simpa using this
      rw [List.getElem?_set_self (Nat.lt_of_lt_of_le hi n.en.ls)] at e2
      cases e2
      exact same_none n.st.h h0
    · rw [List.getElem?_set_ne hj] at e1 e2
      exact n.on j q e1 e2
theorem ds_setO (i : Nat) {x : Str} {pos' : Pos} (he : DO X W ph e ge) (hN : X.N.Nodup) (hx : Loc X.env.scope x := by first | exact Or.inl rfl | exact Or.inr rfl) (w : wk ph C.e = true := by rfl) (hi : X.N[i]? = some x := by rfl) (hs : swapsWith e (some (.Name x pos')) pos.line X.env = pure false := by rfl)
    (hf : X.fn x = true ∨ X.env.scope.names.lookup x = some .local := by first | exact .inl rfl | exact .inr rfl) : DS X W C ph (ph.set i .ow) (.Assign [.Name x pos'] e pos) (gSet i ge) :=
  ps_imp (ps_set hN hi hx he hs hf) fun D σ H ⟨F0, H0, F, rho, n, q⟩ => ⟨F, rho, n.en, aft_then n w q fun d F1 H1 s1 q1 p o h0 h1 h2 r => q1 _ F1 H1 (n.setOw i s1 h0 h1 h2 r)⟩
/-! ### targets -/
def setIms (ts : List Nat) (ph : List Fl) : List Fl := ts.foldl (fun ph i => ph.set i .im) ph
/-- only the slots ts may have changed -/
def Oth (ts : List Nat) (σ σ2 : L2.St) : Prop := σ2.length = σ.length ∧ ∀ i, i ∉ ts → σ2[i]? = σ[i]?
def rG (K : PySem.W.Frag) (ph : List Fl) (ts : List Nat) (gt : PyData → Rw → Option Rw) : TG := fun v σ H Q => ∃ F rho d rho2, En K ph F H σ rho ∧ Rp K F v d ∧ gt d rho = some rho2 ∧ ∀ σ2, En K (setIms ts ph) F H σ2 rho2 → Oth ts σ σ2 → Q σ2 H
def rGs (K : PySem.W.Frag) (ph : List Fl) (ts : List Nat) (gt : List PyData → Rw → Option Rw) : TGs := fun vs σ H Q => ∃ F rho ds rho2, En K ph F H σ rho ∧ RpL K F vs ds ∧ gt ds rho = some rho2 ∧ ∀ σ2, En K (setIms ts ph) F H σ2 rho2 → Oth ts σ σ2 → Q σ2 H
theorem pg_imp {tg : Expr} {t t' : TG} (h : PG X tg t) (hi : ∀ v σ H Q, t' v σ H Q → t v σ H Q) : PG X tg t' := ⟨fun pins s σ H v u Q I r q => h.run pins s σ H v u Q I r (hi v σ H Q q)⟩
theorem pgs_imp {tg : List Expr} {t t' : TGs} (h : PGs X tg t) (hi : ∀ v σ H Q, t' v σ H Q → t v σ H Q) : PGs X tg t' := ⟨fun pins s σ H v u Q I r q => h.run pins s σ H v u Q I r (hi v σ H Q q)⟩
def tName (i : Nat) : PyData → Rw → Option Rw := fun d rho => some (rho.set i d)
theorem dg_name (i : Nat) {x : Str} (hN : X.N.Nodup) (hx : Loc X.env.scope x := by first | exact Or.inl rfl | exact Or.inr rfl) (hi : X.N[i]? = some x := by rfl) (hf : X.fn x = true ∨ X.env.scope.names.lookup x = some .local := by first | exact .inl rfl | exact .inr rfl) :
    PG X (.Name x pos) (rG X.K ph [i] (tName i)) :=
  pg_imp (pg_name hN hi hx hf) fun v σ H Q ⟨F, rho, d, rho2, n, r, e, q⟩ => by
    cases e
    exact q _ (n.setIm i r) ⟨by simp, fun j hj => List.getElem?_set_ne fun z => hj (by simp [z])⟩
def tNil : List PyData → Rw → Option Rw := fun ds rho => match ds with
  | [] => some rho
  | _ :: _ => none
def tCons (t : PyData → Rw → Option Rw) (u : List PyData → Rw → Option Rw) : List PyData → Rw → Option Rw := fun ds rho => match ds with
  | [] => none
  | d :: r => (t d rho).bind (u r)
theorem dgs_nil : PGs X [] (rGs X.K ph [] tNil) := pgs_imp pgs_nil fun vs σ H Q ⟨F, rho, ds, rho2, n, r, e, q⟩ => by
  cases r with
  | nil => cases e; exact ⟨rfl, q _ n ⟨rfl, fun _ _ => rfl⟩⟩
  | cons _ _ => cases e
theorem dgs_cons {es : List Expr} {ts us : List Nat} {t : PyData → Rw → Option Rw} {u : List PyData → Rw → Option Rw} (h1 : PG X e (rG X.K ph ts t)) (h2 : PGs X es (rGs X.K (setIms ts ph) us u))
    (hs : (assignEach (e :: es) X.env).map (·.2) = assign e X.env :: (assignEach es X.env).map (·.2) := by rfl) : PGs X (e :: es) (rGs X.K ph (ts ++ us) (tCons t u)) :=
  pgs_imp (pgs_cons h1 h2 hs) fun vs σ H Q ⟨F, rho, ds, rho2, n, r, e, q⟩ => by
    cases r with
    | nil => cases e
    | cons r rs =>
      rename_i v vs d ds _
      cases e1 : t d rho with
      | none => simp [tCons, e1] at e
      | some rho1 =>
        have e : (t d rho).bind (u ds) = some rho2 := e
        rw [e1] at e
        have e : u ds rho1 = some rho2 := e
        refine ⟨v, vs, rfl, F, rho, d, rho1, n, r, e1, fun σ1 n1 o1 => ⟨F, rho1, ds, rho2, n1, rs, e, fun σ2 n2 o2 => q σ2 ?_ ?_⟩⟩
        · unfold setIms at n2 ⊢; rw [List.foldl_append]; exact n2
        · exact ⟨o2.1.trans o1.1, fun i hi => (o2.2 i fun z => hi (List.mem_append_right _ z)).trans (o1.2 i fun z => hi (List.mem_append_left _ z))⟩
def tTup (k : Nat) (u : List PyData → Rw → Option Rw) : PyData → Rw → Option Rw := fun d rho => match d with
  | .tuple ds => if ds.length = k then u ds rho else none
  | _ => none
theorem dg_tup {es : List Expr} {k n : Nat} {ts : List Nat} {u : List PyData → Rw → Option Rw} (hc : X.calm = true) (h : PGs X es (rGs X.K ph ts u)) (hn : (assignEach es X.env).length = n := by rfl) (hst : (assignEach es X.env).findIdx? (·.1) = none := by rfl) :
    PG X (.Tuple es k pos) (rG X.K ph ts (tTup n u)) :=
  pg_imp (pg_tup hc h hn hst) fun v σ H Q ⟨F, rho, d, rho2, nn, r, e, q⟩ => by
    cases r with
    | tup h1 _ h2 =>
      rename_i a xs ds _ _
      have e : (if ds.length = n then u ds rho else none) = some rho2 := e
      by_cases hl : ds.length = n
      · rw [if_pos hl] at e
        exact ⟨a, xs, rfl, .of (nn.fh _ _ h1), by rw [h2.length]; exact hl, F, rho, ds, rho2, nn, h2, e, q⟩
      · rw [if_neg hl] at e; cases e
    | _ => cases e
theorem setIms_get {ts : List Nat} : ∀ {ph : List Fl} {i : Nat}, (setIms ts ph)[i]? = some Fl.ow → i ∉ ts ∧ ph[i]? = some Fl.ow := by
  induction ts with
  | nil => intro ph i h; exact ⟨by simp, h⟩
  | cons t ts ih =>
    intro ph i h
    have h : (setIms ts (ph.set t .im))[i]? = some Fl.ow := h
    obtain ⟨h1, h2⟩ := ih h
    by_cases hi : t = i
    · subst hi
      have hl : t < ph.length := by
        have := (List.getElem?_eq_some_iff.mp h2).1
        simpa using this
      rw [List.getElem?_set_self hl] at h2; cases h2
    · rw [List.getElem?_set_ne hi] at h2
      exact ⟨by simp only [List.mem_cons, not_or]; exact ⟨Ne.symm hi, h1⟩, h2⟩
theorem EnS.tgt {K : PySem.W.Frag} {F0 H0 F H : Hp} {σ σ2 : L2.St} {rho rho2 : Rw} {ts : List Nat} (n : EnS K F0 H0 ph F H σ rho) (n2 : En K (setIms ts ph) F H σ2 rho2) (o : Oth ts σ σ2) : EnS K F0 H0 (setIms ts ph) F H σ2 rho2 :=
  ⟨n2, n.st, fun i p h1 h2 => by
    obtain ⟨a, b⟩ := setIms_get h1
    rw [o.2 i a] at h2
    exact n.on i p b h2⟩
def gAsg (gt : PyData → Rw → Option Rw) (ge : Rw → Rs PyData) : Rw → SR := fun rho => thenS (ge rho) rho fun d => match gt d rho with
  | some r => .nx r
  | none => .er .bad rho
theorem ds_asg {tg : Expr} {ts : List Nat} {gt : PyData → Rw → Option Rw} (he : DE X W ph e ge) (hg : PG X tg (rG X.K ph ts gt)) (w : wk ph C.e = true := by rfl) (hs : swapsWithSole [tg] e pos.line X.env = pure false := by rfl) (hw : swappedStores [tg] e X.env = pure none := by rfl)
    (h1 : (assignEach [tg] X.env).map (·.2) = [assign tg X.env] := by rfl) : DS X W C ph (setIms ts ph) (.Assign [tg] e pos) (gAsg gt ge) :=
  ps_imp (ps_asg he hg hs hw h1) fun D σ H ⟨F0, H0, F, rho, n, q⟩ => ⟨F, rho, n.en, aft_then n w q fun d F1 H1 s1 q1 v r => by
    cases e : gt d rho with
    | none => rw [e] at q1; exact False.elim q1
    | some rho2 =>
      rw [e] at q1
      exact ⟨F1, rho, d, rho2, (n.step s1).en, r, e, fun σ2 n2 o => q1 σ2 F1 H1 ((n.step s1).tgt n2 o)⟩⟩
end
end PD
/-! PD3: loops, comprehensions, defs. -/
namespace PD
open PySem L2
/-- J yields the data ds, at the heaps F1, H1 -/
def Its (K : PySem.W.Frag) (J : It) (F1 H1 : Hp) (ds : List PyData) : Prop :=
  ds.length ≤ sizeLine ∧ (∀ (i : Nat) (d : PyData), ds[i]? = some d → J.go i H1 ∧ ∀ x H2, J.yld i H1 x H2 → ∃ F2, Step F1 H1 F2 H2 ∧ Rp K F2 x d) ∧ J.stop ds.length H1
/-- whatever happens beyond F -/
def ItF (K : PySem.W.Frag) (J : It) (F : Hp) (ds : List PyData) : Prop := ∀ F1 H1, Same F F1 → Same F1 H1 → Its K J F1 H1 ds
/-- while all of H stands -/
def ItH (K : PySem.W.Frag) (J : It) (F H : Hp) (ds : List PyData) : Prop := ∀ F1 H1, Same F F1 → Same F1 H1 → Same H H1 → Its K J F1 H1 ds
def rI (K : PySem.W.Frag) (mg : Str → Option Value) (W : WX) (ph : List Fl) (gi : Rw → Rs (List PyData)) : TI := fun σ H R =>
  ∃ F rho, En K ph F H σ rho ∧ Aft mg W σ F H (gi rho) fun ds F' H' => ∀ J, ItF K J F' ds → R J H'
def rIh (K : PySem.W.Frag) (mg : Str → Option Value) (W : WX) (ph : List Fl) (gi : Rw → Rs (List PyData)) : TI := fun σ H R =>
  ∃ F rho, En K ph F H σ rho ∧ Aft mg W σ F H (gi rho) fun ds F' H' => ∀ J, ItH K J F' H' ds → R J H'
theorem pi_imp {X : Cx} {tg e : Expr} {t t' : TI} (h : PI X tg e t) (hi : ∀ σ H R, t' σ H R → t σ H R) : PI X tg e t' := ⟨fun pins s σ H R I q => h.run pins s σ H R I (hi σ H R q)⟩
abbrev DI (X : Cx) (W : WX) (ph : List Fl) (tg e : Expr) (gi : Rw → Rs (List PyData)) : Prop := PI X tg e (rI X.K X.mg W ph gi)
abbrev DIh (X : Cx) (W : WX) (ph : List Fl) (tg e : Expr) (gi : Rw → Rs (List PyData)) : Prop := PI X tg e (rIh X.K X.mg W ph gi)
theorem dih_of {X : Cx} {W : WX} {ph : List Fl} {tg e : Expr} {gi : Rw → Rs (List PyData)} (h : DI X W ph tg e gi) : DIh X W ph tg e gi := pi_imp h fun σ H R ⟨F, rho, n, q⟩ =>
  ⟨F, rho, n, q.imp fun ds F1 H1 s z J hJ => z J fun F2 H2 a b _ => hJ F2 H2 a b⟩
/-- what is not known is forgotten -/
def mask : List Fl → Rw → Rw
  | [], rho => rho
  | _ :: _, [] => []
  | f :: fs, d :: ds => (match f with | .dead => .none | _ => d) :: mask fs ds
theorem mask_get : ∀ {ph : List Fl} {rho : Rw} {i : Nat} {f : Fl} {d : PyData}, ph[i]? = some f → rho[i]? = some d → ∃ d', (mask ph rho)[i]? = some d' ∧ (f ≠ .dead → d' = d)
  | [], _, _, _, _, h, _ => by simp at h
  | _ :: _, [], _, _, _, _, h => by simp at h
  | f :: fs, d :: ds, 0, g, x, h1, h2 => by
    simp only [List.getElem?_cons_zero, Option.some.injEq] at h1 h2
    subst h1 h2
    refine ⟨_, rfl, fun h => ?_⟩
    cases f <;> first | rfl | exact absurd rfl h
  | f :: fs, d :: ds, i + 1, g, x, h1, h2 => by
    simp only [List.getElem?_cons_succ] at h1 h2
    exact mask_get (ph := fs) (rho := ds) h1 h2
theorem mask_len : ∀ (ph : List Fl) (rho : Rw), (mask ph rho).length = rho.length
  | [], _ => rfl
  | _ :: _, [] => rfl
  | _ :: fs, _ :: ds => congrArg Nat.succ (mask_len fs ds)
theorem En.mask {K : PySem.W.Frag} {ph : List Fl} {F H : Hp} {σ : L2.St} {rho : Rw} (n : En K ph F H σ rho) : En K ph F H σ (PD.mask ph rho) :=
  ⟨n.fh, n.ls, by rw [mask_len]; exact n.lr, fun i f h => by
    obtain ⟨sv, d, h1, h2, h3⟩ := n.sl i f h
    obtain ⟨d', e1, e2⟩ := mask_get h h2
    refine ⟨sv, d', h1, e1, ?_⟩
    cases f with
    | dead => trivial
    | im => rw [e2 (by decide)]; exact h3
    | ow => rw [e2 (by decide)]; exact h3, n.ap⟩
theorem EnS.mask {K : PySem.W.Frag} {ph : List Fl} {F0 H0 F H : Hp} {σ : L2.St} {rho : Rw} (n : EnS K F0 H0 ph F H σ rho) : EnS K F0 H0 ph F H σ (PD.mask ph rho) := ⟨n.en.mask, n.st, n.on⟩
/-- the entry moved to here: what is frozen now, and what stood at the entry -/
theorem EnS.rebase {K : PySem.W.Frag} {ph : List Fl} {F0 H0 F H : Hp} {σ : L2.St} {rho : Rw} (n : EnS K F0 H0 ph F H σ rho) : ∃ Hb, EnS K F Hb ph F H σ rho ∧ (∀ F2 H2, Step F Hb F2 H2 → Step F0 H0 F2 H2) ∧
    ∀ ph' F2 H2 σ2 rho2, EnS K F Hb ph' F2 H2 σ2 rho2 → EnS K F0 H0 ph' F2 H2 σ2 rho2 := by
  let Hb : Hp := fun b => match F b with
    | some o => some o
    | none => H0 b
  have hF : ∀ b o, F b = some o → Hb b = some o := fun b o e => by show (match F b with | some o => some o | none => H0 b) = some o; rw [e]
  have hN : ∀ b, F b = none → Hb b = H0 b := fun b e => by show (match F b with | some o => some o | none => H0 b) = H0 b; rw [e]
  have hH : Same Hb H := fun b o e => by
    cases q : F b with
    | some u => rw [hF b u q] at e; cases e; exact n.en.fh _ _ q
    | none => rw [hN b q] at e; exact n.st.h _ _ e
  have h0 : Same H0 Hb := fun b o e => by
    cases q : F b with
    | some u =>
      have := n.st.h _ _ e
      rw [n.en.fh _ _ q] at this
      rw [hF b u q]; exact this
    | none => rw [hN b q]; exact e
  have stp : ∀ F2 H2, Step F Hb F2 H2 → Step F0 H0 F2 H2 := fun F2 H2 s => ⟨n.st.f.trans s.f, s.fh, h0.trans s.h, fun p h1 h2 => s.nw p (n.st.nw p h1 h2) (same_some h0 h2)⟩
  refine ⟨Hb, ⟨n.en, ⟨Same.refl _, n.en.fh, hH, fun _ h _ => h⟩, fun i p h1 h2 => ?_⟩, stp, fun ph' F2 H2 σ2 rho2 m => ⟨m.en, stp _ _ m.st, fun i p h1 h2 => ?_⟩⟩
  · obtain ⟨q, o, q1, q2, q3, q4⟩ := n.en.ow h1
    rw [q1] at h2; cases h2
    rw [hN _ q2]; exact n.on i _ h1 q1
  · exact same_none h0 (m.on i p h1 h2)
/-- the turns of a loop -/
def forD (ph : List Fl) (step : PyData → Rw → SR) : List PyData → Rw → SR
  | [], rho => .nx rho
  | d :: ds, rho => match step d rho with
    | .nx r => forD ph step ds (mask ph r)
    | .ct r => forD ph step ds (mask ph r)
    | .bk r => .nx (mask ph r)
    | .rt x => .rt x
    | .er e r => .er e r
def turnD (gt : PyData → Rw → Option Rw) (gb : Rw → SR) : PyData → Rw → SR := fun d rho => match gt d rho with
  | some r => gb r
  | none => .er .bad rho
def gFor (ph : List Fl) (gi : Rw → Rs (List PyData)) (gt : PyData → Rw → Option Rw) (gb : Rw → SR) : Rw → SR := fun rho => thenS (gi rho) rho fun ds => forD ph (turnD gt gb) ds (mask ph rho)
section
variable {X : Cx} {W : WX} {C : Ctl} {ph ph1 phn : List Fl} {tg iter : Expr} {body : List Stmt} {pos : Pos} {gi : Rw → Rs (List PyData)} {gt : PyData → Rw → Option Rw} {gb : Rw → SR} {ts : List Nat}
/-- phn: what is known between two turns -/
theorem ds_for (hp : PassesOwn (model X.prog X.w) X.A X.env X.xe) (hc : X.calm = true) (hi : DI X W ph tg iter gi) (hg : PG X tg (rG X.K phn ts gt)) (hb : DB X W ⟨phn, phn, C.e⟩ (setIms ts phn) phn body gb)
    (w : wk ph C.e = true := by rfl) (w1 : wk ph phn = true := by rfl) (hs : ∀ x, foldedSetIterable iter X.env x = pure x := by intro _; rfl) : DS X W C ph phn (.For tg iter body [] pos) (gFor phn gi gt gb) :=
  ps_imp (ps_for hp hc hi hg hb hs) fun D σ H ⟨F0, H0, F, rho, n, q⟩ => ⟨F, rho, n.en, aft_then n w q fun ds F1 H1 s1 q1 J hJ => by
    obtain ⟨F2, sF, n2⟩ := (n.step s1).weak w1
    refine ⟨fun i m σ' H' => ∃ F' rho', m = ds.length - i ∧ i ≤ ds.length ∧ EnS X.K F0 H0 phn F' H' σ' rho' ∧ Same F1 F' ∧ SAft X.K X.mg W C F0 H0 phn D (forD phn (turnD gt gb) (ds.drop i) rho'),
      ⟨ds.length, F2, _, by simp, Nat.zero_le _, n2.mask, sF, q1⟩, ?_⟩
    rintro i m σ' H' ⟨F', rho', rfl, hi, n', sF', q'⟩
    have its := hJ F' H' sF' n'.en.fh
    by_cases hlt : i < ds.length
    · obtain ⟨go, yl⟩ := its.2.1 i ds[i] (by simp [hlt])
      have hd : ds.drop i = ds[i] :: ds.drop (i + 1) := List.drop_eq_getElem_cons hlt
      rw [hd] at q'
      refine .inr ⟨go, fun σ3 H3 => ∃ F3 rho3, EnS X.K F0 H0 phn F3 H3 σ3 rho3 ∧ Same F1 F3 ∧ SAft X.K X.mg W C F0 H0 phn D (forD phn (turnD gt gb) (ds.drop (i + 1)) rho3),
        fun σ3 H3 ⟨F3, rho3, a, b, c⟩ => ⟨ds.length - (i + 1), by omega, F3, rho3, rfl, hlt, a, b, c⟩, fun x H2 hy => ?_⟩
      obtain ⟨F3, s3, r3⟩ := yl x H2 hy
      cases e : gt ds[i] rho' with
      | none =>
        have : forD phn (turnD gt gb) (ds[i] :: ds.drop (i + 1)) rho' = .er .bad rho' := by simp only [forD, turnD, e]
        rw [this] at q'; exact False.elim q'
      | some r =>
        refine ⟨F3, rho', ds[i], r, (n'.step s3).en, r3, e, fun σ2 n2 o2 => ?_⟩
        obtain ⟨Hb, nb, sb, eb⟩ := ((n'.step s3).tgt n2 o2).rebase
        refine ⟨F3, Hb, F3, r, nb, ?_⟩
        have q2 : SAft X.K X.mg W C F0 H0 phn D (match gb r with | .nx r => forD phn (turnD gt gb) (ds.drop (i + 1)) (mask phn r) | .ct r => forD phn (turnD gt gb) (ds.drop (i + 1)) (mask phn r) | .bk r => .nx (mask phn r) | .rt x => .rt x | .er e r => .er e r) := by
          have : forD phn (turnD gt gb) (ds[i] :: ds.drop (i + 1)) rho' = (match gb r with | .nx r => forD phn (turnD gt gb) (ds.drop (i + 1)) (mask phn r) | .ct r => forD phn (turnD gt gb) (ds.drop (i + 1)) (mask phn r) | .bk r => .nx (mask phn r) | .rt x => .rt x | .er e r => .er e r) := by
            simp only [forD, turnD, e]
          rw [← this]; exact q'
        cases eg : gb r with
        | nx r2 => rw [eg] at q2; exact fun σ4 F4 H4 n4 => ⟨F4, _, (eb _ _ _ _ _ n4).mask, (sF'.trans s3.f).trans n4.st.f, q2⟩
        | ct r2 => rw [eg] at q2; exact fun σ4 F4 H4 n4 => ⟨F4, _, (eb _ _ _ _ _ n4).mask, (sF'.trans s3.f).trans n4.st.f, q2⟩
        | bk r2 => rw [eg] at q2; exact fun σ4 F4 H4 n4 => q2 σ4 F4 H4 (eb _ _ _ _ _ n4).mask
        | rt x => rw [eg] at q2; exact fun v F4 H4 s4 r4 => q2 v F4 H4 (sb _ _ s4) r4
        | er er r2 =>
          rw [eg] at q2
          cases er with
          | bad => exact q2
          | exc nm => exact fun σ4 F4 H4 n4 => q2 σ4 F4 H4 (eb _ _ _ _ _ n4)
    · have e : i = ds.length := by omega
      subst e
      rw [List.drop_length] at q'
      exact .inl ⟨its.2.2, q' σ' F' H' n'⟩⟩
/-! ### while -/
def whileD (ph : List Fl) (gt : Rw → Rs Bool) (gb : Rw → SR) : Nat → Rw → SR
  | 0, rho => .er .bad rho
  | k + 1, rho => thenS (gt rho) rho fun b => if b = true then (match gb rho with
      | .nx r => whileD ph gt gb k (mask ph r)
      | .ct r => whileD ph gt gb k (mask ph r)
      | .bk r => .nx (mask ph r)
      | .rt x => .rt x
      | .er e r => .er e r) else .nx rho
def gWhile (ph : List Fl) (k : Nat) (gt : Rw → Rs Bool) (gb : Rw → SR) : Rw → SR := fun rho => whileD ph gt gb k (mask ph rho)
theorem ds_while (k : Nat) {c : Expr} {gc : Rw → Rs Bool} (hp : PassesOwn (model X.prog X.w) X.A X.env X.xe) (hc : DT X W phn c gc) (hb : DB X W ⟨phn, phn, C.e⟩ phn phn body gb) (w : wk phn C.e = true := by rfl) (w1 : wk ph phn = true := by rfl) :
    DS X W C ph phn (.While c body [] pos) (gWhile phn k gc gb) :=
  ps_imp (ps_while hp hc hb) fun D σ H ⟨F0, H0, F, rho, n, q⟩ => by
    obtain ⟨F2, sF, n2⟩ := n.weak w1
    refine ⟨fun m σ' H' => ∃ F' rho', EnS X.K F0 H0 phn F' H' σ' rho' ∧ SAft X.K X.mg W C F0 H0 phn D (whileD phn gc gb m rho'), ⟨k, F2, _, n2.mask, q⟩, ?_⟩
    rintro m σ' H' ⟨F', rho', n', q'⟩
    cases m with
    | zero => exact False.elim q'
    | succ m =>
      refine ⟨F', rho', n'.en, aft_then n' w q' fun b F1 H1 s1 q1 => ?_⟩
      cases b with
      | false => rw [if_neg Bool.false_ne_true] at q1 ⊢; exact q1 σ' F1 H1 (n'.step s1)
      | true =>
        rw [if_pos rfl] at q1 ⊢
        refine ⟨fun σ3 H3 => ∃ F3 rho3, EnS X.K F0 H0 phn F3 H3 σ3 rho3 ∧ SAft X.K X.mg W C F0 H0 phn D (whileD phn gc gb m rho3), fun σ3 H3 h => ⟨m, Nat.lt_succ_self m, h⟩, ?_⟩
        refine ⟨F0, H0, F1, rho', n'.step s1, ?_⟩
        cases eg : gb rho' with
        | nx r2 => rw [eg] at q1; exact fun σ4 F4 H4 n4 => ⟨F4, _, n4.mask, q1⟩
        | ct r2 => rw [eg] at q1; exact fun σ4 F4 H4 n4 => ⟨F4, _, n4.mask, q1⟩
        | bk r2 => rw [eg] at q1; exact fun σ4 F4 H4 n4 => q1 σ4 F4 H4 n4.mask
        | rt x => rw [eg] at q1; exact q1
        | er er r2 =>
          rw [eg] at q1
          cases er with
          | bad => exact q1
          | exc nm => exact q1
/-! ### list comprehensions -/
def kill (vs : List Nat) (ph : List Fl) : List Fl := vs.foldr (fun i ph => ph.set i .dead) ph
theorem kill_len (vs : List Nat) (ph : List Fl) : (kill vs ph).length = ph.length := by
  induction vs with
  | nil => rfl
  | cons v vs ih => show ((kill vs ph).set v .dead).length = _; rw [List.length_set, ih]
theorem kill_get : ∀ {vs : List Nat} {ph : List Fl} {i : Nat} {f : Fl}, (kill vs ph)[i]? = some f → (f = .dead ∧ i < ph.length) ∨ (i ∉ vs ∧ ph[i]? = some f)
  | [], ph, i, f, h => .inr ⟨by simp, h⟩
  | v :: vs, ph, i, f, h => by
    have h : ((kill vs ph).set v .dead)[i]? = some f := h
    by_cases hv : v = i
    · subst hv
      have hl : v < (kill vs ph).length := by
        have := (List.getElem?_eq_some_iff.mp h).1
        simpa using this
      rw [List.getElem?_set_self hl] at h
      cases h
      exact .inl ⟨rfl, by rw [kill_len] at hl; exact hl⟩
    · rw [List.getElem?_set_ne hv] at h
      rcases kill_get h with h | ⟨h1, h2⟩
      · exact .inl h
      · exact .inr ⟨by simp only [List.mem_cons, not_or]; exact ⟨Ne.symm hv, h1⟩, h2⟩
theorem wipe_get {σ : L2.St} {i : Nat} : ∀ {vs : List Nat}, i ∉ vs → (wipe σ vs)[i]? = σ[i]?
  | [], _ => rfl
  | v :: vs, h => by
    simp only [List.mem_cons, not_or] at h
    show ((wipe σ vs).set v none)[i]? = _
    rw [List.getElem?_set_ne (Ne.symm h.1)]
    exact wipe_get h.2
theorem En.wipe {K : PySem.W.Frag} {ph : List Fl} {F H : Hp} {σ : L2.St} {rho : Rw} (n : En K ph F H σ rho) (vs : List Nat) : En K (kill vs ph) F H (L2.wipe σ vs) rho := by
  refine ⟨n.fh, by rw [kill_len, wipe_length]; exact n.ls, by rw [kill_len]; exact n.lr, fun i f h => ?_, fun i j p h1 h2 h3 h4 => ?_⟩
  · rcases kill_get h with ⟨rfl, hl⟩ | ⟨h1, h2⟩
    · have a : i < (L2.wipe σ vs).length := by rw [wipe_length]; exact Nat.lt_of_lt_of_le hl n.ls
      have b : i < rho.length := Nat.lt_of_lt_of_le hl n.lr
      exact ⟨_, _, List.getElem?_eq_getElem a, List.getElem?_eq_getElem b, trivial⟩
    · obtain ⟨sv, d, e1, e2, e3⟩ := n.sl i f h2
      exact ⟨sv, d, by rw [wipe_get h1]; exact e1, e2, e3⟩
  · rcases kill_get h1 with ⟨e, _⟩ | ⟨a1, a2⟩
    · cases e
    · rcases kill_get h2 with ⟨e, _⟩ | ⟨b1, b2⟩
      · cases e
      · rw [wipe_get a1] at h3
        rw [wipe_get b1] at h4
        exact n.ap i j p a2 b2 h3 h4
theorem wipe_self {σ : L2.St} : ∀ {vs : List Nat} {i : Nat}, i ∈ vs → i < σ.length → (wipe σ vs)[i]? = some none
  | [], i, h, _ => by simp at h
  | v :: vs, i, h, hl => by
    show ((wipe σ vs).set v none)[i]? = _
    by_cases hv : v = i
    · subst hv; rw [List.getElem?_set_self (by rw [wipe_length]; exact hl)]
    · rw [List.getElem?_set_ne hv]
      exact wipe_self ((List.mem_cons.mp h).resolve_left (Ne.symm hv)) hl
theorem wipe_oth {σ σ2 : L2.St} {ts vs : List Nat} (o : Oth ts (wipe σ vs) σ2) (h : ∀ i ∈ ts, i ∈ vs) : wipe σ2 vs = wipe σ vs := by
  apply List.ext_getElem?
  intro i
  by_cases hi : i ∈ vs
  · have hl : σ2.length = σ.length := by rw [o.1, wipe_length]
    by_cases hlt : i < σ.length
    · rw [wipe_self hi (by rw [hl]; exact hlt), wipe_self hi hlt]
    · rw [List.getElem?_eq_none (by rw [wipe_length]; omega), List.getElem?_eq_none (by rw [wipe_length]; omega)]
  · rw [wipe_get hi, wipe_get hi, o.2 i (fun z => hi (h i z)), wipe_get hi]
def toO {a : Type} : Rs a → Option a
  | .ok x => some x
  | .error _ => none
def compD (f : PyData → Option (Option PyData)) : List PyData → Option (List PyData)
  | [] => some []
  | d :: ds => (f d).bind fun o => (compD f ds).bind fun r => some (o.toList ++ r)
def eltD (gt : PyData → Rw → Option Rw) (gc : Rw → Rs Bool) (ge : Rw → Rs PyData) (rho : Rw) : PyData → Option (Option PyData) := fun d => (gt d rho).bind fun r => (toO (gc r)).bind fun b => if b = true then (toO (ge r)).bind fun y => some (some y) else some none
def gLc (gi : Rw → Rs (List PyData)) (gt : PyData → Rw → Option Rw) (gc : Rw → Rs Bool) (ge : Rw → Rs PyData) : Rw → Rs PyData := fun rho => gi rho >>= fun ds => lift ((compD (eltD gt gc ge rho) ds).map PyData.list)
def gYes : Rw → Rs Bool := fun _ => .ok true
abbrev W0 : WX := fun _ _ _ _ => False
theorem pts_imp {ifs : List Expr} {t t' : TT} (h : PTs X ifs t) (hi : ∀ σ H Q, t' σ H Q → t σ H Q) : PTs X ifs t' := ⟨fun pins s σ H Q I q => h.run pins s σ H Q I (hi σ H Q q)⟩
theorem dts_nil : PTs X [] (rT X.K X.mg W ph gYes) := pts_imp pts_nil fun σ H Q ⟨F, rho, n, q⟩ => q.now n.fh
theorem dts_one {c : Expr} {gc : Rw → Rs Bool} (h : DT X W ph c gc) : PTs X [c] (rT X.K X.mg W ph gc) := pts_one h
theorem aft_toO {a : Type} {mg : Str → Option Value} {σ : L2.St} {F H : Hp} {r : Rs a} {x : a} {Z : a → Hp → Hp → Prop} (h : toO r = some x) (q : ∀ F1 H1, Step F H F1 H1 → Z x F1 H1) : Aft mg W0 σ F H r Z := by
  cases r with
  | ok y => cases h; exact q
  | error e => cases h
/-- the reading of a comprehension, from the canonical one -/
theorem lc_run {own : List (Str × Nat)} {gc : Rw → Rs Bool} {ge : Rw → Rs PyData} (hts : ∀ i ∈ ts, i ∈ own.map (·.2)) : ∀ σ H Q, rO X.K X.mg W ph (gLc gi gt gc ge) σ H Q →
    tLc (rIh X.K X.mg W ph gi) (rG X.K (kill (own.map (·.2)) ph) ts gt) (rT X.K X.mg W0 (setIms ts (kill (own.map (·.2)) ph)) gc) (rE X.K X.mg W0 (setIms ts (kill (own.map (·.2)) ph)) ge) (own.map (·.2)) σ H Q :=
  fun σ H Q ⟨F, rho, n, q⟩ => ⟨F, rho, n, q.bind fun ds F1 H1 s1 q1 J hJ L hL => by
    obtain ⟨d, e, q2⟩ := q1.lift
    cases er : compD (eltD gt gc ge rho) ds with
    | none => rw [er] at e; cases e
    | some r =>
      rw [er] at e
      cases e
      have its0 := hJ F1 H1 (Same.refl _) s1.fh (Same.refl _)
      refine ⟨fun i m H' => ∃ F' accv accd rest, m = ds.length - i ∧ i ≤ ds.length ∧ Step F1 H1 F' H' ∧ F' L = none ∧ H' L = some (.lst accv) ∧ RpL X.K F' accv accd ∧ compD (eltD gt gc ge rho) (ds.drop i) = some rest ∧ accd ++ rest = r ∧ accd.length ≤ i,
        ⟨ds.length, F1, [], [], r, by simp, Nat.zero_le _, Step.hid s1.fh hL, same_none s1.fh hL, upd_same, .nil, er, rfl, Nat.le_refl _⟩, ?_⟩
      rintro i m H' ⟨F', accv, accd, rest, rfl, hi, s', f0, h0, ra, ec, ea, hl⟩
      have its := hJ F' H' s'.f s'.fh s'.h
      by_cases hlt : i < ds.length
      · obtain ⟨go, yl⟩ := its.2.1 i ds[i] (by simp [hlt])
        have hd : ds.drop i = ds[i] :: ds.drop (i + 1) := List.drop_eq_getElem_cons hlt
        rw [hd] at ec
        have ec : (eltD gt gc ge rho ds[i]).bind (fun o => (compD (eltD gt gc ge rho) (ds.drop (i + 1))).bind fun r => some (o.toList ++ r)) = some rest := ec
        refine .inr ⟨go, fun H3 => ∃ F' accv accd rest, Step F1 H1 F' H3 ∧ F' L = none ∧ H3 L = some (.lst accv) ∧ RpL X.K F' accv accd ∧ compD (eltD gt gc ge rho) (ds.drop (i + 1)) = some rest ∧ accd ++ rest = r ∧ accd.length ≤ i + 1,
          fun H3 ⟨F', accv, accd, rest, a⟩ => ⟨ds.length - (i + 1), by omega, F', accv, accd, rest, rfl, hlt, a⟩, fun x H2 hy => ?_⟩
        obtain ⟨F2, s2, r2⟩ := yl x H2 hy
        have sA : Step F1 H1 F2 H2 := s'.trans s2
        have f2 : F2 L = none := s2.nw L f0 (by rw [h0]; simp)
        have h2 : H2 L = some (.lst accv) := s2.h _ _ h0
        cases e1 : gt ds[i] rho with
        | none => simp [eltD, e1] at ec
        | some rho2 =>
          refine ⟨F2, rho, ds[i], rho2, ((n.step s1).step sA).wipe _, r2, e1, fun σ2 n2 o2 => ⟨wipe_oth o2 hts, F2, rho2, n2, ?_⟩⟩
          cases e2 : toO (gc rho2) with
          | none => simp [eltD, e1, e2] at ec
          | some b =>
            refine aft_toO e2 fun F3 H3 s3 => ?_
            have sB := sA.trans s3
            have f3 : F3 L = none := s3.nw L f2 (by rw [h2]; simp)
            have h3 : H3 L = some (.lst accv) := s3.h _ _ h2
            cases b with
            | false =>
              refine iteF ?_
              simp only [eltD, e1, e2, Option.bind_some, Bool.false_eq_true, if_false] at ec
              cases e3 : compD (eltD gt gc ge rho) (ds.drop (i + 1)) with
              | none =>
                rw [e3] at ec; cases ec
              | some r3 =>
                rw [e3] at ec
                cases ec
                exact ⟨F3, accv, accd, r3, sB, f3, h3, ra.mono (s2.f.trans s3.f), rfl, ea, by omega⟩
            | true =>
              refine iteT ?_
              refine ⟨F3, rho2, n2.step s3, ?_⟩
              cases e4 : toO (ge rho2) with
              | none => simp [eltD, e1, e2, e4] at ec
              | some y =>
                refine aft_toO e4 fun F4 H4 s4 v rv => ?_
                have sC := sB.trans s4
                have f4 : F4 L = none := s4.nw L f3 (by rw [h3]; simp)
                have h4 : H4 L = some (.lst accv) := s4.h _ _ h3
                simp only [eltD, e1, e2, e4, Option.bind_some, if_true] at ec
                have hz : accv.length < sizeLine := by rw [ra.length]; exact Nat.lt_of_le_of_lt hl (Nat.lt_of_lt_of_le hlt its0.1)
                refine ⟨accv, h4, hz, ?_⟩
                cases e3 : compD (eltD gt gc ge rho) (ds.drop (i + 1)) with
                | none =>
                  rw [e3] at ec; cases ec
                | some r3 =>
                  rw [e3] at ec
                  cases ec
                  have ne : ∀ b u, F4 b = some u → b ≠ L := fun b u z => ne_of_none z f4
                  refine ⟨F4, accv ++ [v], accd ++ [y], r3, ⟨sC.f, fun b u z => ?_, fun b u z => ?_, sC.nw⟩, f4, upd_same, (ra.mono ((s2.f.trans s3.f).trans s4.f)).append (.one rv), rfl, ?_, by simp; omega⟩
                  · rw [upd_ne (ne b u z)]; exact sC.fh _ _ z
                  · rw [upd_ne (ne_of_none z hL)]; exact sC.h _ _ z
                  · rw [← ea]; simp
      · have e : i = ds.length := by omega
        subst e
        rw [List.drop_length] at ec
        cases ec
        refine .inl ⟨its.2.2, ?_⟩
        rw [List.append_nil] at ea
        subst ea
        exact q2.ok s' L _ (same_none s1.h hL) f0 h0 ⟨by rw [ra.length]; exact Nat.le_trans hl its0.1, ra⟩⟩
theorem do_lc {elt : Expr} {ifs : List Expr} {scope : Scope} {own : List (Str × Nat)} {gc : Rw → Rs Bool} {ge : Rw → Rs PyData} (hc : X.calm = true) (hN : X.N.Nodup) (hi : DIh X W ph tg iter gi) (ok : BlkOk X.N X.env.scope scope own)
    (hg : ∀ (s : Shared) (H : Hp) (C : Addr) (cl : List (Str × Addr)) (fp : List Addr), PG (X.blk s H scope (compEnvC scope cl C X.env) fp) tg (rG X.K (kill (own.map (·.2)) ph) ts gt))
    (ht : ∀ (s : Shared) (H : Hp) (C : Addr) (cl : List (Str × Addr)) (fp : List Addr), PTs (X.blk s H scope (compEnvC scope cl C X.env) fp) ifs (rT X.K X.mg W0 (setIms ts (kill (own.map (·.2)) ph)) gc))
    (he : ∀ (s : Shared) (H : Hp) (C : Addr) (cl : List (Str × Addr)) (fp : List Addr), DE (X.blk s H scope (compEnvC scope cl C X.env) fp) W0 (setIms ts (kill (own.map (·.2)) ph)) elt ge)
    (hts : ∀ i ∈ ts, i ∈ own.map (·.2)) (hs : ∀ x, foldedSetIterable iter X.env x = pure x := by intro _; rfl) : DO X W ph (.ListComp elt [⟨tg, iter, ifs, 0⟩] scope pos) (gLc gi gt gc ge) :=
  pe_imp (pe_lc (te := rE X.K X.mg W0 (setIms ts (kill (own.map (·.2)) ph)) ge) hc hN hi ok hg ht he hs) (lc_run hts)
end
end PD
/-! PD4: defs. -/
namespace PD
open PySem L2
def endD : SR → Rs PyData
  | .nx _ => .ok .none
  | .rt d => .ok d
  | .er e _ => .error e
  | .bk _ => .error .bad
  | .ct _ => .error .bad
/-- a def of k parameters and nn names, by its body -/
def fnM (k nn : Nat) (g : Rw → SR) : List PyData → Rs PyData := fun ds => if ds.length = k then endD (g (ds ++ List.replicate (nn - k) .none)) else .error .bad
theorem fnM_len (k nn : Nat) (g : Rw → SR) : LenM k (fnM k nn g) := fun ds h => if_neg h
def ph0 (k nn : Nat) : List Fl := List.replicate k .im ++ List.replicate (nn - k) .dead
theorem rpl_get {K : PySem.W.Frag} {F : Hp} {vs : List V} {ds : List PyData} (r : RpL K F vs ds) {i : Nat} (h : i < ds.length) : ∃ v, vs[i]? = some v ∧ Rp K F v ds[i] := r.get (List.getElem?_eq_getElem h)
theorem en_start {K : PySem.W.Frag} {F H : Hp} {vs : List V} {ds : List PyData} {N : List Str} (s : Same F H) (r : RpL K F vs ds) (hn : ds.length ≤ N.length) : En K (ph0 ds.length N.length) F H (L2.start N vs) (ds ++ List.replicate (N.length - ds.length) .none) := by
  have el := r.length
  have ls : (L2.start N vs).length = N.length := by unfold L2.start; simp; omega
  refine ⟨s, by rw [ls]; simp [ph0]; omega, by simp [ph0], fun i f h => ?_, fun i j p h1 _ _ _ => ?_⟩
  · unfold ph0 at h
    by_cases hi : i < ds.length
    · rw [List.getElem?_append_left (by simpa using hi), List.getElem?_replicate, if_pos hi] at h
      cases h
      obtain ⟨v, e, rv⟩ := rpl_get r hi
      refine ⟨some v, ds[i], ?_, ?_, v, rfl, rv⟩
      · unfold L2.start
        rw [List.getElem?_append_left (by simp; omega), List.getElem?_map, e]; rfl
      · rw [List.getElem?_append_left hi]; exact List.getElem?_eq_getElem hi
    · rw [List.getElem?_append_right (by simpa using hi), List.getElem?_replicate] at h
      split at h
      · rename_i hlt
        cases h
        simp at hlt
        have a : i < (L2.start N vs).length := by rw [ls]; omega
        have b : i < (ds ++ List.replicate (N.length - ds.length) PyData.none).length := by simp; omega
        exact ⟨_, _, List.getElem?_eq_getElem a, List.getElem?_eq_getElem b, trivial⟩
      · cases h
  · unfold ph0 at h1
    by_cases hi : i < ds.length
    · rw [List.getElem?_append_left (by simpa using hi), List.getElem?_replicate, if_pos hi] at h1; cases h1
    · rw [List.getElem?_append_right (by simpa using hi), List.getElem?_replicate] at h1
      split at h1 <;> cases h1
/-- THE RULE for a def -/
theorem fn_pure {P : Program} {w : World} {K : PySem.W.Frag} {mg : Str → Option Value} {base : Heap} {x qual : Str} {st : Stmt} {f : Addr} {fd : FuncData} {N ps : List Str} {k : Nat} {g : Rw → SR} {phn : List Fl} (Fn : Fun K x qual st f fd) (S : FnScope N ps (defScope st))
    (hbody : ∀ (cdv : Value) (A : Around) (outer : List PySem.Env) (s : Shared) (H : Hp) (E : XK), Room k (A.deeper (PyProof.Rows.envOfC qual (defScope st) s.heap.objs.size f cdv)) →
      DB (cxOf (L2.CX P w) P w K mg base N qual (defScope st) f cdv A outer s H E) (fun c d _ H' => E c d H') ⟨[], [], []⟩ (ph0 ps.length N.length) phn (defBody st) g) :
    FnOk P w K mg base (L2.CX P w) (k + 1) f fd ps (spP K mg ps.length (fnM ps.length N.length g)) := by
  have hpl : ps.length ≤ N.length := by have := congrArg List.length S.pre; rw [List.length_take] at this; omega
  refine Fn.okX S (fun vs H Q E h => ?_) (fun cdv A outer s H vs Q E hr h => ⟨_, hbody cdv A outer s H E hr, ?_⟩)
  · obtain ⟨F, ds, e, _, r, _⟩ := h
    exact r.length.trans e
  · obtain ⟨F, ds, e, sm, r, q⟩ := h
    rw [← e]
    have n : En K (ph0 ds.length N.length) F H (L2.start N vs) (ds ++ List.replicate (N.length - ds.length) .none) := en_start sm r (by omega)
    have q : Aft mg (fun c d _ H' => E c d H') [] F H (endD (g (ds ++ List.replicate (N.length - ds.length) .none))) fun d F' H' => ∀ v, Rp K F' v d → Q v H' := by
      have : fnM ps.length N.length g ds = endD (g (ds ++ List.replicate (N.length - ds.length) .none)) := by unfold fnM; rw [if_pos e, e]
      rw [← this]; exact q
    refine ⟨F, H, F, _, ⟨n, .refl sm, fun i p h1 h2 => ?_⟩, ?_⟩
    · obtain ⟨p', o, _, _, q3, _⟩ := n.ow h1
      exfalso
      unfold ph0 at h1
      by_cases hi : i < ds.length
      · rw [List.getElem?_append_left (by simpa using hi), List.getElem?_replicate, if_pos hi] at h1; cases h1
      · rw [List.getElem?_append_right (by simpa using hi), List.getElem?_replicate] at h1
        split at h1 <;> cases h1
    · cases eg : g (ds ++ List.replicate (N.length - ds.length) PyData.none) with
      | nx r => rw [eg] at q; exact fun σ F' H' n' => q.ok n'.st _ .non
      | rt d => rw [eg] at q; exact fun v F' H' s' r' => q.ok s' v r'
      | bk r => rw [eg] at q; exact False.elim q
      | ct r => rw [eg] at q; exact False.elim q
      | er e r =>
        rw [eg] at q
        cases e with
        | bad => exact q
        | exc nm => exact fun σ F' H' n' => q F' H' n'.st
end PD
/-! PD5: operators by data. -/
namespace PD
open PySem L2
theorem opr_imp {X : Cx} {f : Value → Value → Sem Value} {r r' : R2} (h : OpR X f r) (hi : ∀ x y H Q, r' x y H Q → r x y H Q) : OpR X f r' := fun pins s σ H x y v u Q I rx ry q => h pins s σ H x y v u Q I rx ry (hi x y H Q q)
theorem unr_imp {X : Cx} {f : Value → Sem Value} {r r' : V → Hp → VK → Prop} (h : UnR X f r) (hi : ∀ x H Q, r' x H Q → r x H Q) : UnR X f r' := fun pins s σ H x v Q I rx q => h pins s σ H x v Q I rx (hi x H Q q)
theorem clr_imp {X : Cx} {f : Value} {r r' : List V → Hp → VK → Prop} (h : CallR X f r) (hi : ∀ xs H Q, r' xs H Q → r xs H Q) : CallR X f r' := fun pins s σ H xs us Q I rx q => h pins s σ H xs us Q I rx (hi xs H Q q)
theorem clr_or {X : Cx} {f : Value} {r r' : List V → Hp → VK → Prop} (h : CallR X f r) (h' : CallR X f r') : CallR X f (fun xs H Q => r xs H Q ∨ r' xs H Q) := fun pins s σ H xs us Q I rx q => by
  rcases q with q | q
  · exact h pins s σ H xs us Q I rx q
  · exact h' pins s σ H xs us Q I rx q
section
variable {X : Cx}
def dAdd : PyData → PyData → Option PyData
  | .int i, .int j => some (.int (i + j))
  | .str x, .str y => if x.length + y.length ≤ sizeLine then some (.str (x ++ y)) else none
  | .tuple xs, .tuple ys => if xs.length + ys.length ≤ sizeLine then some (.tuple (xs ++ ys)) else none
  | .list xs, .list ys => if xs.length + ys.length ≤ sizeLine then some (.list (xs ++ ys)) else none
  | _, _ => none
theorem op_addP : OpR X (binaryOp .Add) (rOp X.K dAdd) := by
  refine opr_imp (OpR.or (OpR.or op_add op_add_str) (OpR.or op_catA op_cat)) fun x y H Q ⟨F, d1, d2, d, s, r1, r2, e, q⟩ => ?_
  cases r1 with
  | int i =>
    cases r2 <;> cases e
    exact .inl (.inl ⟨_, _, rfl, rfl, q _ F H (.refl s) (.int _)⟩)
  | str a =>
    cases r2 with
    | str b =>
      have e : (if a.length + b.length ≤ sizeLine then some (PyData.str (a ++ b)) else none) = some d := e
      split at e
      · rename_i hz; cases e; exact .inl (.inr ⟨_, _, rfl, rfl, hz, q _ F H (.refl s) (.str _)⟩)
      · cases e
    | _ => cases e
  | tup h1 z1 t1 =>
    rename_i a xs ds _
    cases r2 with
    | tup h2 z2 t2 =>
      rename_i b ys es _
      have e : (if ds.length + es.length ≤ sizeLine then some (PyData.tuple (ds ++ es)) else none) = some d := e
      split at e
      · rename_i hz
        cases e
        have hz' : xs.length + ys.length ≤ sizeLine := by rw [t1.length, t2.length]; exact hz
        refine .inr (.inl ⟨a, b, xs, ys, rfl, rfl, .of (s _ _ h1), .of (s _ _ h2), hz', fun en => ?_, fun _ en => ?_, fun _ _ p hp => ?_⟩)
        · subst en; cases t1; exact q _ F H (.refl s) (.tup h2 z2 t2)
        · subst en; cases t2; rw [List.append_nil] at q; exact q _ F H (.refl s) (.tup h1 z1 t1)
        · exact q _ _ _ (Step.new s hp) (.tup upd_same (by rw [List.length_append]; exact hz') ((t1.append t2).mono (same_upd (same_none s hp))))
      · cases e
    | _ => cases e
  | lst h1 z1 t1 =>
    rename_i a xs ds _
    cases r2 with
    | lst h2 z2 t2 =>
      rename_i b ys es _
      have e : (if ds.length + es.length ≤ sizeLine then some (PyData.list (ds ++ es)) else none) = some d := e
      split at e
      · rename_i hz
        cases e
        have hz' : xs.length + ys.length ≤ sizeLine := by rw [t1.length, t2.length]; exact hz
        refine .inr (.inr ⟨a, b, xs, ys, rfl, rfl, s _ _ h1, s _ _ h2, hz', fun p hp => ?_⟩)
        exact q _ _ _ (Step.new s hp) (.lst upd_same (by rw [List.length_append]; exact hz') ((t1.append t2).mono (same_upd (same_none s hp))))
      · cases e
    | _ => cases e
  | non => cases e
  | bl _ => cases e
  | dct _ _ _ => cases e
  | scr _ => cases e
/-- two whole numbers -/
def d2I (C : Int → Int → Bool) (g : Int → Int → PyData) : PyData → PyData → Option PyData
  | .int i, .int j => if C i j = true then some (g i j) else none
  | _, _ => none
theorem d2I_of {K : PySem.W.Frag} {F : Hp} {x y : V} {d1 d2 d : PyData} {C : Int → Int → Bool} {g : Int → Int → PyData} (r1 : Rp K F x d1) (r2 : Rp K F y d2) (e : d2I C g d1 d2 = some d) : ∃ i j, x = .int i ∧ y = .int j ∧ d1 = .int i ∧ d2 = .int j ∧ C i j = true ∧ d = g i j := by
  cases r1 with
  | int i =>
    cases r2 with
    | int j =>
      have e : (if C i j = true then some (g i j) else none) = some d := e
      split at e
      · rename_i h; cases e; exact ⟨i, j, rfl, rfl, rfl, rfl, h, rfl⟩
      · cases e
    | _ => cases e
  | _ => cases e
def yes2 : Int → Int → Bool := fun _ _ => true
abbrev dSub : PyData → PyData → Option PyData := d2I yes2 fun i j => .int (i - j)
theorem op_subP : OpR X (binaryOp .Sub) (rOp X.K dSub) := opr_imp op_sub fun x y H Q ⟨F, d1, d2, d, s, r1, r2, e, q⟩ => by
  obtain ⟨i, j, rfl, rfl, _, _, _, rfl⟩ := d2I_of r1 r2 e
  exact ⟨i, j, rfl, rfl, q _ F H (.refl s) (.int _)⟩
abbrev dMulI : PyData → PyData → Option PyData := d2I (fun i j => decide ((-(2 ^ 64) < i ∧ i < 2 ^ 64) ∨ (-(2 ^ 64) < j ∧ j < 2 ^ 64))) fun i j => .int (i * j)
theorem op_mulP : OpR X (binaryOp .Mult) (rOp X.K dMulI) := opr_imp op_mul fun x y H Q ⟨F, d1, d2, d, s, r1, r2, e, q⟩ => by
  obtain ⟨i, j, rfl, rfl, _, _, h, rfl⟩ := d2I_of r1 r2 e
  have h2 := of_decide_eq_true h
  exact ⟨i, j, rfl, rfl, h2, q _ F H (.refl s) (.int _)⟩
abbrev dFdiv : PyData → PyData → Option PyData := d2I (fun _ j => decide (0 < j ∧ j < 1073741824)) fun i j => .int (i / j)
theorem op_fdivP : OpR X (binaryOp .FloorDiv) (rOp X.K dFdiv) := opr_imp op_fdiv fun x y H Q ⟨F, d1, d2, d, s, r1, r2, e, q⟩ => by
  obtain ⟨i, j, rfl, rfl, _, _, h, rfl⟩ := d2I_of r1 r2 e
  have h2 := of_decide_eq_true h
  exact ⟨i, j, rfl, rfl, h2, q _ F H (.refl s) (.int _)⟩
abbrev dMod : PyData → PyData → Option PyData := d2I (fun _ j => decide (0 < j)) fun i j => .int (i % j)
theorem op_modP : OpR X (binaryOp .Mod) (rOp X.K dMod) := opr_imp op_mod fun x y H Q ⟨F, d1, d2, d, s, r1, r2, e, q⟩ => by
  obtain ⟨i, j, rfl, rfl, _, _, h, rfl⟩ := d2I_of r1 r2 e
  have h2 := of_decide_eq_true h
  exact ⟨i, j, rfl, rfl, h2, q _ F H (.refl s) (.int _)⟩
abbrev dPow : PyData → PyData → Option PyData := d2I (fun i j => decide (0 ≤ j ∧ j ≤ 1000000 ∧ i.natAbs < 2 ^ 64)) fun i j => .int (i ^ j.toNat)
theorem op_powP : OpR X (binaryOp .Pow) (rOp X.K dPow) := opr_imp op_pow fun x y H Q ⟨F, d1, d2, d, s, r1, r2, e, q⟩ => by
  obtain ⟨i, j, rfl, rfl, _, _, h, rfl⟩ := d2I_of r1 r2 e
  have h2 := of_decide_eq_true h
  exact ⟨i, j, rfl, rfl, h2, q _ F H (.refl s) (.int _)⟩
abbrev dLtI : PyData → PyData → Option PyData := d2I yes2 fun i j => .bool (decide (i < j))
abbrev dLeI : PyData → PyData → Option PyData := d2I yes2 fun i j => .bool (decide (i ≤ j))
abbrev dGtI : PyData → PyData → Option PyData := d2I yes2 fun i j => .bool (decide (j < i))
abbrev dGeI : PyData → PyData → Option PyData := d2I yes2 fun i j => .bool (decide (j ≤ i))
theorem op_ltP : OpR X (compareOp .Lt) (rOp X.K dLtI) := opr_imp op_lt fun x y H Q ⟨F, d1, d2, d, s, r1, r2, e, q⟩ => by
  obtain ⟨i, j, rfl, rfl, _, _, h, rfl⟩ := d2I_of r1 r2 e
  exact ⟨i, j, rfl, rfl, q _ F H (.refl s) (.bl _)⟩
theorem op_leP : OpR X (compareOp .LtE) (rOp X.K dLeI) := opr_imp op_le fun x y H Q ⟨F, d1, d2, d, s, r1, r2, e, q⟩ => by
  obtain ⟨i, j, rfl, rfl, _, _, h, rfl⟩ := d2I_of r1 r2 e
  exact ⟨i, j, rfl, rfl, q _ F H (.refl s) (.bl _)⟩
theorem op_gtP : OpR X (compareOp .Gt) (rOp X.K dGtI) := opr_imp op_gt fun x y H Q ⟨F, d1, d2, d, s, r1, r2, e, q⟩ => by
  obtain ⟨i, j, rfl, rfl, _, _, h, rfl⟩ := d2I_of r1 r2 e
  exact ⟨i, j, rfl, rfl, q _ F H (.refl s) (.bl _)⟩
theorem op_geP : OpR X (compareOp .GtE) (rOp X.K dGeI) := opr_imp op_ge fun x y H Q ⟨F, d1, d2, d, s, r1, r2, e, q⟩ => by
  obtain ⟨i, j, rfl, rfl, _, _, h, rfl⟩ := d2I_of r1 r2 e
  exact ⟨i, j, rfl, rfl, q _ F H (.refl s) (.bl _)⟩
/-! ### equality at any depth -/
theorem canAll_cons {d : PyData} {ds : List PyData} (h : PyData.canLayAll0 (d :: ds) = true) : d.canLay0 = true ∧ PyData.canLayAll0 ds = true := by
  simpa [PyData.canLayAll0] using h
mutual
theorem Rp.dp {K : PySem.W.Frag} {F H : Hp} (s : Same F H) : ∀ (d : PyData) {v : V}, d.canLay0 = true → Rp K F v d → Dp K H v d
  | .none, _, _, h => by cases h; exact .non
  | .bool b, _, _, h => by cases h; exact .bl b
  | .int i, _, _, h => by cases h; exact .int i
  | .str x, _, _, h => by cases h; exact .str x
  | .list ds, _, hc, h => by
    cases h with
    | lst e _ t => exact .lst (.of (s _ _ e)) (RpL.dp s ds (by simpa [PyData.canLay0] using hc) t)
  | .tuple ds, _, hc, h => by
    cases h with
    | tup e _ t => exact .tup (.of (s _ _ e)) (RpL.dp s ds (by simpa [PyData.canLay0] using hc) t)
  | .dict _, _, hc, _ => by simp [PyData.canLay0] at hc
theorem RpL.dp {K : PySem.W.Frag} {F H : Hp} (s : Same F H) : ∀ (ds : List PyData) {vs : List V}, PyData.canLayAll0 ds = true → RpL K F vs ds → DpAll K H vs ds
  | [], _, _, h => by cases h; exact .nil
  | d :: ds, _, hc, h => by
    cases h with
    | cons h1 h2 => exact .cons (Rp.dp s d (canAll_cons hc).1 h1) (RpL.dp s ds (canAll_cons hc).2 h2)
end
def dEq : PyData → PyData → Option PyData := fun a b => if (SeqAt.shaped a && SeqAt.shaped b) = true then some (.bool (PyData.eqv a b)) else none
def dNe : PyData → PyData → Option PyData := fun a b => if (SeqAt.shaped a && SeqAt.shaped b) = true then some (.bool (!PyData.eqv a b)) else none
theorem op_eqP (hu : X.A.units + 64 < cLine) : OpR X (compareOp .Eq) (rOp X.K dEq) := opr_imp (op_eqD hu) fun x y H Q ⟨F, d1, d2, d, s, r1, r2, e, q⟩ => by
  unfold dEq at e
  split at e
  · rename_i h
    cases e
    rw [Bool.and_eq_true] at h
    exact ⟨d1, d2, Rp.dp s d1 (SeqAt.canLay_of_shaped h.1) r1, Rp.dp s d2 (SeqAt.canLay_of_shaped h.2) r2, h.1, h.2, q _ F H (.refl s) (.bl _)⟩
  · cases e
theorem op_neP (hu : X.A.units + 64 < cLine) : OpR X (compareOp .NotEq) (rOp X.K dNe) := opr_imp (op_neD hu) fun x y H Q ⟨F, d1, d2, d, s, r1, r2, e, q⟩ => by
  unfold dNe at e
  split at e
  · rename_i h
    cases e
    rw [Bool.and_eq_true] at h
    exact ⟨d1, d2, Rp.dp s d1 (SeqAt.canLay_of_shaped h.1) r1, Rp.dp s d2 (SeqAt.canLay_of_shaped h.2) r2, h.1, h.2, q _ F H (.refl s) (.bl _)⟩
  · cases e
/-! ### is None, is True -/
def isNoD : PyData → Bool
  | .none => true
  | _ => false
theorem isNo_of {K : PySem.W.Frag} {F : Hp} {v : V} {d : PyData} (r : Rp K F v d) : decide (v = V.non) = isNoD d := by
  cases r <;> first | rfl | exact decide_eq_false (fun z => nomatch z)
def dIs (neg : Bool) : PyData → PyData → Option PyData
  | a, .none => some (.bool (isNoD a != neg))
  | .bool a, .bool b => some (.bool (decide (a = b) != neg))
  | _, _ => none
theorem op_isP : OpR X (compareOp .Is) (rOp X.K (dIs false)) := opr_imp (OpR.or op_isN op_is_bl) fun x y H Q ⟨F, d1, d2, d, s, r1, r2, e, q⟩ => by
  cases r2 with
  | non =>
    refine .inl ⟨rfl, ?_⟩
    rw [isNo_of r1]
    have e : some (PyData.bool (isNoD d1 != false)) = some d := by cases d1 <;> exact e
    cases e
    have := q _ F H (.refl s) (.bl _)
    rwa [Bool.bne_false] at this
  | bl b =>
    cases r1 <;> cases e
    refine .inr ⟨_, _, rfl, rfl, ?_⟩
    have := q _ F H (.refl s) (.bl _)
    rwa [Bool.bne_false] at this
  | _ => cases r1 <;> cases e
theorem op_isnotP : OpR X (compareOp .IsNot) (rOp X.K (dIs true)) := opr_imp (OpR.or op_notN op_isnot_bl) fun x y H Q ⟨F, d1, d2, d, s, r1, r2, e, q⟩ => by
  cases r2 with
  | non =>
    refine .inl ⟨rfl, ?_⟩
    rw [isNo_of r1]
    have e : some (PyData.bool (isNoD d1 != true)) = some d := by cases d1 <;> exact e
    cases e
    have := q _ F H (.refl s) (.bl _)
    rwa [Bool.bne_true] at this
  | bl b =>
    cases r1 <;> cases e
    refine .inr ⟨_, _, rfl, rfl, ?_⟩
    have := q _ F H (.refl s) (.bl _)
    rwa [Bool.bne_true] at this
  | _ => cases r1 <;> cases e
/-! ### -x -/
def rUn (K : PySem.W.Frag) (o : PyData → Option PyData) : V → Hp → VK → Prop := fun x H Q => ∃ F d1 d, Same F H ∧ Rp K F x d1 ∧ o d1 = some d ∧ ∀ v F' H', Step F H F' H' → Rp K F' v d → Q v H'
def gU (o : PyData → Option PyData) (ga : Rw → Rs PyData) : Rw → Rs PyData := fun rho => ga rho >>= fun x => lift (o x)
theorem de_un {W : WX} {ph : List Fl} {a : Expr} {pos : Pos} {ga : Rw → Rs PyData} {op : UnaryOp} {o : PyData → Option PyData} (ho : UnR X (unaryOp op) (rUn X.K o)) (ha : DE X W ph a ga) : DE X W ph (.UnaryOp op a pos) (gU o ga) :=
  pe_imp (pe_un ho ha) fun σ H Q ⟨F, rho, n, q⟩ => ⟨F, rho, n, q.bind fun d1 F1 H1 s1 q1 v1 r1 => by
    obtain ⟨d, e, q3⟩ := q1.lift
    exact ⟨F1, d1, d, s1.fh, r1, e, fun v F' H' s3 r => q3.ok s3 v r⟩⟩
def dNeg : PyData → Option PyData
  | .int i => some (.int (-i))
  | _ => none
theorem un_negP : UnR X (unaryOp .USub) (rUn X.K dNeg) := unr_imp un_neg fun x H Q ⟨F, d1, d, s, r1, e, q⟩ => by
  cases r1 <;> cases e
  exact ⟨_, rfl, q _ F H (.refl s) (.int _)⟩
end
end PD
/-! PD6: built-ins by data. -/
namespace PD
open PySem L2
section
variable {X : Cx}
/-! ### lists of whole numbers -/
def intsD : List PyData → Option (List Int)
  | [] => some []
  | .int i :: r => (intsD r).map (i :: ·)
  | _ :: _ => none
theorem intsD_eq : ∀ {ds : List PyData} {ns : List Int}, intsD ds = some ns → ds = ns.map PyData.int
  | [], ns, h => by cases h; rfl
  | d :: r, ns, h => by
    cases d with
    | int i =>
      have h : (intsD r).map (i :: ·) = some ns := h
      cases e : intsD r with
      | none => rw [e] at h; cases h
      | some ms => rw [e] at h; cases h; rw [intsD_eq e]; rfl
    | _ => cases h
theorem intsD_map (ns : List Int) : intsD (ns.map PyData.int) = some ns := by
  induction ns with
  | nil => rfl
  | cons n ns ih => show (intsD (ns.map PyData.int)).map (n :: ·) = _; rw [ih]; rfl
theorem rpl_ints {K : PySem.W.Frag} {F : Hp} : ∀ {vs : List V} {ns : List Int}, RpL K F vs (ns.map PyData.int) → vs = ns.map V.int
  | [], [], _ => rfl
  | [], _ :: _, h => by cases h
  | _ :: _, [], h => by cases h
  | v :: vs, n :: ns, h => by
    cases h with
    | cons h t => cases h; rw [rpl_ints t]; rfl
/-! ### len -/
def dLen : List PyData → Option PyData
  | [.str x] => if x.length ≤ sizeLine then some (.int x.length) else none
  | [.list xs] => some (.int xs.length)
  | [.tuple xs] => some (.int xs.length)
  | [.dict [(.none, .list xs)]] => some (.int xs.length)
  | _ => none
theorem cl_len : CallR X (.builtin "len") (rCl X.K dLen) := clr_imp call_len fun vs H Q ⟨F, ds, d, s, r, e, q⟩ => by
  cases r with
  | nil => cases e
  | cons r1 t =>
    cases t with
    | cons _ _ => exact absurd e (by unfold dLen; intro z; split at z <;> simp_all)
    | nil =>
      cases r1 with
      | str x =>
        have e : (if x.length ≤ sizeLine then some (PyData.int x.length) else none) = some d := e
        split at e
        · rename_i hz; cases e; exact ⟨_, _, rfl, ⟨hz, rfl⟩, q _ F H (.refl s) (.int _)⟩
        · cases e
      | lst h _ t => cases e; refine ⟨_, _, rfl, .inl ⟨_, .of (s _ _ h), rfl⟩, ?_⟩; rw [t.length]; exact q _ F H (.refl s) (.int _)
      | tup h _ t => cases e; refine ⟨_, _, rfl, .inr ⟨_, .of (s _ _ h), rfl⟩, ?_⟩; rw [t.length]; exact q _ F H (.refl s) (.int _)
      | @scr a ns h =>
        have e : some (PyData.int (ns.map PyData.int).length) = some d := e
        cases e
        refine ⟨_, _, rfl, .inl ⟨_, s.seq h, rfl⟩, ?_⟩
        have := q _ F H (.refl s) (.int _)
        rw [List.length_map] at this ⊢; exact this
      | dct h z t =>
        cases t with
        | nil => cases e
        | cons _ _ => cases e
      | _ => cases e
/-! ### isinstance -/
def tyD : PyData → String
  | .none => "NoneType"
  | .bool _ => "bool"
  | .int _ => "int"
  | .str _ => "str"
  | .list _ => "list"
  | .tuple _ => "tuple"
  | .dict _ => "dict"
def notDict : PyData → Bool
  | .dict _ => false
  | _ => true
theorem ty_of {K : PySem.W.Frag} {F H : Hp} (s : Same F H) {v : V} {d : PyData} (r : Rp K F v d) (h : notDict d = true) : TyX K H v (.type (tyD d)) := by
  cases r with
  | non => exact .base .non
  | bl b => exact .base (.bl b)
  | int i => exact .base (.int i)
  | str x => exact .base (.str x)
  | lst e _ _ => exact .base (.lst (s _ _ e))
  | tup e _ _ => exact .base (.tup (s _ _ e))
  | dct _ _ _ => cases h
  | scr _ => cases h
def dIsi (T : String) : PyData → Option PyData := fun d => if notDict d = true then (kitB (tyD d) T).map PyData.bool else none
theorem de_isi {W : WX} {ph : List Fl} {a : Expr} {p1 p2 pos : Pos} {ga : Rw → Rs PyData} {T : String} {x : Str} (ha : DE X W ph a ga) (hm : X.mg "isinstance" = none) (hmT : X.mg x = none) (hv : bootBuiltins x = some (.type T)) (hg : Gl X "isinstance" := by rfl) (hgT : Gl X x := by rfl) (hn : x ≠ "__name__" := by decide)
    (hd : (x == ("__debug__" : Str)) = false := by decide) (h1 : starEach [a, .Name x p2] X.env = (false, eval a X.env) :: starEach [.Name x p2] X.env := by rfl) (h2 : starEach [.Name x p2] X.env = (false, eval (.Name x p2) X.env) :: starEach [] X.env := by rfl) (hpl : (backTo pos (starEach [.Name x p2] X.env)).any (·.1) = false := by rfl) :
    DE X W ph (.Call (.Name "isinstance" p1) [a, .Name x p2] [] pos) (gU (dIsi T) ga) :=
  pe_imp (pe_callB call_isi hg hm (by decide +kernel) (L2.pa_cons ha (L2.pa_cons (pe_bltn (v := .ty T) hgT hmT hv rfl hn hd) L2.pa_nil h2) h1) (by decide) (by decide) h1 hpl) fun σ H Q ⟨F, rho, n, q⟩ => ⟨F, rho, n, q.bind fun d1 F1 H1 s1 q1 v1 r1 => by
    obtain ⟨d, e, q3⟩ := q1.lift
    unfold dIsi at e
    split at e
    · rename_i hz
      cases eb : kitB (tyD d1) T with
      | none => rw [eb] at e; cases e
      | some b =>
        rw [eb] at e; cases e
        exact ⟨v1, .ty T, .type (tyD d1), .type T, b, rfl, .ty T, ty_of s1.fh r1 hz, kit_ty eb, q3.now s1.fh _ (.bl b)⟩
    · cases e⟩
/-! ### list(..), tuple(..) -/
def dTuple : List PyData → Option PyData
  | [.list xs] => some (.tuple xs)
  | [.tuple xs] => some (.tuple xs)
  | _ => none
theorem cl_tuple : CallR X (.type "tuple") (rCl X.K dTuple) := clr_imp call_tuple_of fun vs H Q ⟨F, ds, d, s, r, e, q⟩ => by
  cases r with
  | nil => cases e
  | cons r1 t =>
    cases t with
    | cons _ _ => exact absurd e (by unfold dTuple; intro z; split at z <;> simp_all)
    | nil =>
      cases r1 with
      | lst h z t => cases e; exact ⟨_, _, rfl, .inl ⟨.of (s _ _ h), fun p hp => q _ _ _ (Step.new s hp) (.tup upd_same z (t.mono (same_upd (same_none s hp))))⟩⟩
      | tup h z t => cases e; exact ⟨_, _, rfl, .inr ⟨.of (s _ _ h), q _ F H (.refl s) (.tup h z t)⟩⟩
      | _ => cases e
def dList : List PyData → Option PyData
  | [.list xs] => some (.list xs)
  | [.tuple xs] => some (.list xs)
  | _ => none
theorem cl_listO : CallR X (.type "list") (rClO X.K dList) := clr_imp call_list_of fun vs H Q ⟨F, ds, d, s, r, e, q⟩ => by
  cases r with
  | nil => cases e
  | cons r1 t =>
    cases t with
    | cons _ _ => exact absurd e (by unfold dList; intro z; split at z <;> simp_all)
    | nil =>
      cases r1 with
      | lst h z t => cases e; exact ⟨_, _, rfl, .inl (.of (s _ _ h)), fun p hp => q p _ _ _ (Step.hid s hp) hp (same_none s hp) upd_same ⟨z, t⟩⟩
      | tup h z t => cases e; exact ⟨_, _, rfl, .inr (.of (s _ _ h)), fun p hp => q p _ _ _ (Step.hid s hp) hp (same_none s hp) upd_same ⟨z, t⟩⟩
      | _ => cases e
/-! ### int(..) of a number or a truth value; max, min of two numbers -/
def dInt : List PyData → Option PyData
  | [.int i] => some (.int i)
  | [.bool b] => some (.int (if b then 1 else 0))
  | _ => none
def dMax2 : List PyData → Option PyData
  | [.int i, .int j] => some (.int (if j > i then j else i))
  | _ => none
def dMin2 : List PyData → Option PyData
  | [.int i, .int j] => some (.int (if j < i then j else i))
  | _ => none
theorem cl_max2 (hc : X.calm = true) : CallR X (.builtin "max") (rCl X.K dMax2) := clr_imp (call_max2 hc) fun vs H Q ⟨F, ds, d, s, r, e, q⟩ => by
  unfold dMax2 at e
  split at e
  · cases e
    cases r with | cons r1 t => cases t with | cons r2 t2 => cases t2; cases r1; cases r2; exact ⟨_, _, rfl, q _ F H (.refl s) (.int _)⟩
  · cases e
theorem cl_min2 (hc : X.calm = true) : CallR X (.builtin "min") (rCl X.K dMin2) := clr_imp (call_min2 hc) fun vs H Q ⟨F, ds, d, s, r, e, q⟩ => by
  unfold dMin2 at e
  split at e
  · cases e
    cases r with | cons r1 t => cases t with | cons r2 t2 => cases t2; cases r1; cases r2; exact ⟨_, _, rfl, q _ F H (.refl s) (.int _)⟩
  · cases e
theorem cl_int : CallR X (.type "int") (rCl X.K dInt) := clr_imp call_int1 fun vs H Q ⟨F, ds, d, s, r, e, q⟩ => by
  unfold dInt at e
  split at e
  · cases e; cases r with | cons r1 t => cases t; cases r1; exact .inl ⟨_, rfl, q _ F H (.refl s) (.int _)⟩
  · cases e; cases r with | cons r1 t => cases t; cases r1; exact .inr ⟨_, rfl, q _ F H (.refl s) (.int _)⟩
  · cases e
/-! ### sum -/
theorem preSum_take (ns : List Int) : ∀ j, preSum (fun i => ns.getD i 0) j = (ns.take j).sum
  | 0 => by simp [preSum]
  | j + 1 => by
    rw [preSum, preSum_take ns j]
    cases e : ns[j]? with
    | none =>
      have : ns.length ≤ j := List.getElem?_eq_none_iff.mp e
      rw [List.getD_eq_getElem?_getD, e, List.take_of_length_le this, List.take_of_length_le (by omega)]; simp
    | some x => rw [List.take_add_one, e, List.getD_eq_getElem?_getD, e]; simp
theorem vals_int_at : ∀ {ns : List Int} {its : List Value} {i : Nat} {v : Value}, Vals (ns.map V.int) its → its[i]? = some v → ∃ t, v = .int (ns.getD i 0) t
  | [], _, _, _, .nil, h => by simp at h
  | n :: ns, _, 0, v, .cons r _, h => by
    simp at h; subst h
    obtain ⟨t, rfl⟩ := r
    exact ⟨t, rfl⟩
  | n :: ns, _, i + 1, v, .cons _ t, h => by
    obtain ⟨t, e⟩ := vals_int_at (i := i) t (by simpa using h)
    exact ⟨t, by simpa using e⟩
theorem old_push {s : Shared} {h' : Heap} {o : Obj} (hk : ∀ b u, b ∉ [s.heap.objs.size] → (s.heap.push o).get? b = some u → h'.get? b = some u) : ∀ b u, s.heap.get? b = some u → h'.get? b = some u := fun b u e =>
  hk b u (fun hm => by
    have : b = s.heap.objs.size := by simpa using hm
    exact absurd (this ▸ Heap.lt_size e) (Nat.lt_irrefl _)) (Heap.get?_push_of_some _ e)
theorem cr_sumT (hc : X.calm = true) : CallR X (.builtin "sum") (fun vs H Q => ∃ (a : Addr) (ns : List Int), vs = [V.ref a] ∧ SqT X.K H a (ns.map V.int) ∧ Q (.int ns.sum) H) := by
  intro pins s σ H vs us Q I r h
  obtain ⟨a, ns, rfl, hs, q⟩ := h
  obtain ⟨its, rv, ht, _⟩ := I.tuple hs
  rw [Vals.ref1 r]
  have hlt : a < s.heap.objs.size := by obtain ⟨_, e, _⟩ := ht; exact Heap.lt_size e
  refine call_sum_walkG (wpAny_pyIter_tuple (show s.heap.IsTuple a its.toArray from ht) ?_)
  refine ⟨_, _, _, _, _, _, fun i => ns.getD i 0, rfl, Walks.tuple (A := X.A.in1) (I.ok.hd hc) s.heap.objs.size a (Nat.ne_of_lt hlt) its.toArray, ⟨⟨_, Heap.get?_push_size _ rfl, rfl, rfl⟩, ?_⟩, fun b hb => ?_, fun i v hv => vals_int_at rv (by simpa using hv), fun h' tk t' hk => ?_⟩
  · obtain ⟨o, e, c⟩ := ht; exact ⟨o, Heap.get?_push_of_some _ e, c⟩
  · show b < (s.heap.push _).objs.size
    rw [Heap.size_push]
    rcases List.mem_cons.mp hb with rfl | hb
    · exact Nat.lt_succ_self _
    · have : b = a := by simpa using hb
      subst this; exact Nat.lt_succ_of_lt hlt
  · have hl := rv.length
    rw [List.length_map] at hl
    refine ⟨.int _, H, I.kept (old_push hk), ⟨_, rfl⟩, ?_⟩
    rw [preSum_take, List.take_of_length_le (by simp; omega)]; exact q
def dSum : List PyData → Option PyData
  | [.list ds] => (intsD ds).map fun ns => .int ns.sum
  | [.tuple ds] => (intsD ds).map fun ns => .int ns.sum
  | _ => none
theorem cl_sum (hc : X.calm = true) : CallR X (.builtin "sum") (rCl X.K dSum) := clr_imp (clr_or (cr_sum hc) (cr_sumT hc)) fun vs H Q ⟨F, ds, d, s, r, e, q⟩ => by
  unfold dSum at e
  split at e
  · rename_i ds
    cases ei : intsD ds with
    | none => rw [ei] at e; cases e
    | some ns =>
      rw [ei] at e; cases e
      cases r with
      | cons r1 t =>
        cases t
        cases r1 with
        | lst h z t =>
          rw [intsD_eq ei] at t
          have := rpl_ints t
          subst this
          exact .inl ⟨_, ns, rfl, .of (s _ _ h), q _ F H (.refl s) (.int _)⟩
  · rename_i ds
    cases ei : intsD ds with
    | none => rw [ei] at e; cases e
    | some ns =>
      rw [ei] at e; cases e
      cases r with
      | cons r1 t =>
        cases t
        cases r1 with
        | tup h z t =>
          rw [intsD_eq ei] at t
          have := rpl_ints t
          subst this
          exact .inr ⟨_, ns, rfl, .of (s _ _ h), q _ F H (.refl s) (.int _)⟩
  · cases e
/-! ### items -/
theorem atI_rp {K : PySem.W.Frag} {F : Hp} {vs : List V} {ds : List PyData} {i : Int} {d : PyData} (r : RpL K F vs ds) (e : atI ds i = some d) : ∃ v, atI vs i = some v ∧ Rp K F v d := by
  unfold atI at e ⊢
  rw [r.length]
  cases ej : ixN ds.length i with
  | none => rw [ej] at e; cases e
  | some j => rw [ej] at e; exact r.get e
def dIx : PyData → PyData → Option PyData
  | .list xs, .int i => atI xs i
  | .tuple xs, .int i => atI xs i
  | .str z, .int i => if z.length ≤ sizeLine then (atI z.cps.toList i).map fun c => .str ⟨#[c]⟩ else none
  | .dict [(.none, .list xs)], .int i => atI xs i
  | _, _ => none
theorem de_ix {W : WX} {ph : List Fl} {a b : Expr} {pos : Pos} {ga gb : Rw → Rs PyData} (ha : DE X W ph a ga) (hb : DE X W ph b gb) (hs : PlainIx b := by exact fun _ _ => rfl) : DE X W ph (.Subscript a b pos) (gB dIx ga gb) :=
  pe_imp (pe_ix ix_seq ha hb hs) (op_run (t := fun _ _ _ => True) fun x y H Q ⟨F, d1, d2, d, s, r1, r2, e, q⟩ => by
    cases r1 with
    | lst h z t =>
      cases r2 with
      | int i =>
        obtain ⟨v, e1, rv⟩ := atI_rp t e
        exact .inl ⟨_, _, i, v, rfl, rfl, .of (s _ _ h), e1, q _ F H (.refl s) rv⟩
      | _ => cases e
    | tup h z t =>
      cases r2 with
      | int i =>
        obtain ⟨v, e1, rv⟩ := atI_rp t e
        exact .inr (.inl ⟨_, _, i, v, rfl, rfl, .of (s _ _ h), e1, q _ F H (.refl s) rv⟩)
      | _ => cases e
    | str z =>
      cases r2 with
      | int i =>
        have e : (if z.length ≤ sizeLine then (atI z.cps.toList i).map (fun c => PyData.str ⟨#[c]⟩) else none) = some d := e
        split at e
        · rename_i hz
          cases ec : atI z.cps.toList i with
          | none => rw [ec] at e; cases e
          | some c => rw [ec] at e; cases e; exact .inr (.inr ⟨z, i, c, rfl, rfl, hz, ec, q _ F H (.refl s) (.str _)⟩)
        · cases e
      | _ => cases e
    | @scr a ns h =>
      cases r2 with
      | int i =>
        have e : atI (ns.map PyData.int) i = some d := e
        obtain ⟨v, e1, rv⟩ := atI_rp (F := F) (K := X.K) (RpL.ints ns) e
        exact .inl ⟨_, _, i, v, rfl, rfl, s.seq h, e1, q _ F H (.refl s) rv⟩
      | _ => cases e
    | dct h z t =>
      cases t with
      | nil => cases r2 <;> cases e
      | cons _ _ => cases r2 <;> cases e
    | _ => cases r2 <;> cases e)
end
end PD
/-! PD7: slices, walks, own lists. -/
namespace PD
open PySem L2
section
variable {X : Cx} {W : WX} {C : Ctl} {ph phn : List Fl} {e a b : Expr} {pos : Pos} {ge ga gb : Rw → Rs PyData}
/-! ### slices -/
def rPt (K : PySem.W.Frag) (mg : Str → Option Value) (W : WX) (ph : List Fl) (g : Rw → Rs (Option Int)) : TO := fun σ H Q => ∃ F rho, En K ph F H σ rho ∧ Aft mg W σ F H (g rho) fun o _ H' => Q o H'
theorem po_imp {e : Option Expr} {t t' : TO} (h : PO X e t) (hi : ∀ σ H Q, t' σ H Q → t σ H Q) : PO X e t' := ⟨fun pins s σ H Q I q => h.run pins s σ H Q I (hi σ H Q q)⟩
def gPn : Rw → Rs (Option Int) := fun _ => .ok none
def intD : PyData → Option Int
  | .int i => some i
  | _ => none
def gPs (g : Rw → Rs PyData) : Rw → Rs (Option Int) := fun rho => g rho >>= fun d => lift ((intD d).map some)
theorem dp_none : PO X none (rPt X.K X.mg W ph gPn) := po_imp po_none fun σ H Q ⟨F, rho, n, q⟩ => q.now n.fh
theorem dp_some (h : DE X W ph e ge) : PO X (some e) (rPt X.K X.mg W ph (gPs ge)) := po_imp (po_some h) fun σ H Q ⟨F, rho, n, q⟩ => ⟨F, rho, n, q.bind fun d F1 H1 s1 q1 v r => by
  obtain ⟨o, e, q2⟩ := q1.lift
  cases r <;> cases e
  exact ⟨_, rfl, q2.now s1.fh⟩⟩
def cutD {α : Type} (xs : List α) (lo hi : Option Int) : List α := (xs.drop (HT.sIx xs.length 0 lo)).take (HT.sIx xs.length xs.length hi - HT.sIx xs.length 0 lo)
theorem cut_rp {K : PySem.W.Frag} {F : Hp} {vs : List V} {ds : List PyData} (r : RpL K F vs ds) (lo hi : Option Int) : RpL K F (cutV vs lo hi) (cutD ds lo hi) := by
  unfold cutV cutD
  rw [r.length]
  exact (r.drop _).take _
def dSl (d : PyData) (lo hi : Option Int) : Option PyData := match d with
  | .list xs => some (.list (cutD xs lo hi))
  | .tuple xs => some (.tuple (cutD xs lo hi))
  | .str z => if z.length ≤ sizeLine then some (.str (cutS z lo hi)) else none
  | _ => none
def gSl (ge : Rw → Rs PyData) (gl gh : Rw → Rs (Option Int)) : Rw → Rs PyData := fun rho => ge rho >>= fun d => gl rho >>= fun lo => gh rho >>= fun hi => lift (dSl d lo hi)
theorem sIx_all {n : Nat} {lo hi : Option Int} (h : HT.sIx n 0 lo = 0 ∧ HT.sIx n n hi = n) {α : Type} {xs : List α} (hn : xs.length = n) : cutD xs lo hi = xs := by
  unfold cutD
  rw [hn, h.1, h.2, List.drop_zero, Nat.sub_zero, ← hn, List.take_length]
theorem de_slice {lo hi : Option Expr} {gl gh : Rw → Rs (Option Int)} {p2 : Pos} (he : DE X W ph e ge) (hl : PO X lo (rPt X.K X.mg W ph gl)) (hh : PO X hi (rPt X.K X.mg W ph gh)) : DE X W ph (.Subscript e (.Slice lo hi none p2) pos) (gSl ge gl gh) :=
  pe_imp (pe_slice (SlR.or sl_list (SlR.or sl_tupA sl_str)) he hl hh) fun σ H Q ⟨F, rho, n, q⟩ => ⟨F, rho, n, q.bind fun d F1 H1 s1 q1 v r => ⟨F1, rho, n.step s1, q1.bind fun l F2 H2 s2 q2 => ⟨F2, rho, n.step (s1.trans s2), q2.bind fun u F3 H3 s3 q3 => by
    obtain ⟨z, e, q4⟩ := q3.lift
    have r := (r.mono s2.f).mono s3.f
    cases r with
    | lst h hz t => cases e; exact .inl ⟨_, _, rfl, .of (s3.fh _ _ h), fun p hp => q4.ok (Step.new s3.fh hp) _ (.lst upd_same (Nat.le_trans (cutV_length _ _ _) hz) ((cut_rp t l u).mono (same_upd (same_none s3.fh hp))))⟩
    | tup h hz t =>
      cases e
      refine .inr (.inl ⟨_, _, rfl, .of (s3.fh _ _ h), fun hf => ?_, fun _ p hp => q4.ok (Step.new s3.fh hp) _ (.tup upd_same (Nat.le_trans (cutV_length _ _ _) hz) ((cut_rp t l u).mono (same_upd (same_none s3.fh hp))))⟩)
      have := sIx_all (α := PyData) hf t.length.symm
      rw [this] at q4
      exact q4.now s3.fh _ (.tup h hz t)
    | str x =>
      have e : (if x.length ≤ sizeLine then some (PyData.str (cutS x l u)) else none) = some z := e
      split at e
      · rename_i hz; cases e; exact .inr (.inr ⟨x, rfl, hz, q4.now s3.fh _ (.str _)⟩)
      · cases e
    | _ => cases e⟩⟩⟩
/-! ### what is walked -/
theorem pi_or {tg : Expr} {t t' : TI} (h : PI X tg e t) (h' : PI X tg e t') : PI X tg e (fun σ H R => t σ H R ∨ t' σ H R) := ⟨fun pins s σ H R I q => by
  rcases q with q | q
  · exact h.run pins s σ H R I q
  · exact h'.run pins s σ H R I q⟩
/-- the items of a list, of a tuple, the signs of a text -/
def seqD : PyData → Option (List PyData)
  | .list ds => some ds
  | .tuple ds => some ds
  | .str x => if x.length ≤ sizeLine then some (x.cps.toList.map fun c => .str ⟨#[c]⟩) else none
  | _ => none
def gIt (o : PyData → Option (List PyData)) (ge : Rw → Rs PyData) : Rw → Rs (List PyData) := fun rho => ge rho >>= fun d => lift (o d)
theorem its_list {K : PySem.W.Frag} {F1 H1 : Hp} {p : Addr} {vs : List V} {ds : List PyData} (s : Same F1 H1) (h : H1 p = some (.lst vs)) (z : vs.length ≤ sizeLine) (t : RpL K F1 vs ds) : Its K (Itl K p) F1 H1 ds := by
  refine ⟨by rw [← t.length]; exact z, fun i d hd => ?_, ⟨_, .of h, by rw [t.length]; exact Nat.le_refl _⟩⟩
  obtain ⟨v, e1, r⟩ := t.get hd
  refine ⟨⟨_, _, .of h, e1⟩, fun x H2 hy => ?_⟩
  obtain ⟨rfl, hx⟩ := hy
  have := hx _ (.of h)
  rw [e1] at this; cases this
  exact ⟨F1, .refl s, r⟩
theorem its_tup {K : PySem.W.Frag} {F1 H1 : Hp} {p : Addr} {vs : List V} {ds : List PyData} (s : Same F1 H1) (h : H1 p = some (.tup vs)) (z : vs.length ≤ sizeLine) (t : RpL K F1 vs ds) : Its K (Itt K p) F1 H1 ds := by
  refine ⟨by rw [← t.length]; exact z, fun i d hd => ?_, ⟨_, .of h, by rw [t.length]; exact Nat.le_refl _⟩⟩
  obtain ⟨v, e1, r⟩ := t.get hd
  refine ⟨⟨_, _, .of h, e1⟩, fun x H2 hy => ?_⟩
  obtain ⟨rfl, hx⟩ := hy
  have := hx _ (.of h)
  rw [e1] at this; cases this
  exact ⟨F1, .refl s, r⟩
theorem its_str {K : PySem.W.Frag} {F1 H1 : Hp} {x : Str} (s : Same F1 H1) (z : x.length ≤ sizeLine) : Its K (L2.Its x) F1 H1 (x.cps.toList.map fun c => .str ⟨#[c]⟩) := by
  have hl : (x.cps.toList.map fun c => PyData.str ⟨#[c]⟩).length = x.cps.size := by simp
  refine ⟨by rw [hl]; exact z, fun i d hd => ?_, by show x.cps.size ≤ _; rw [hl]; exact Nat.le_refl _⟩
  have hi : i < x.cps.size := by
    have := (List.getElem?_eq_some_iff.mp hd).1
    rw [hl] at this; exact this
  refine ⟨hi, fun v H2 hy => ?_⟩
  obtain ⟨rfl, c, hc, rfl⟩ := hy
  rw [List.getElem?_map] at hd
  have : x.cps.toList[i]? = some c := by simpa using hc
  rw [this] at hd
  cases hd
  exact ⟨F1, .refl s, .str _⟩
theorem di_seq {tg : Expr} (he : DE X W ph e ge) : DI X W ph tg e (gIt seqD ge) := pi_imp (pi_or (pi_list he) (pi_or (pi_tup he) (pi_str he))) fun σ H R ⟨F, rho, n, q⟩ => by
  have key : ∀ (Z' : PyData → Hp → Hp → Prop), (∀ d F1 H1, ge rho = .ok d → Step F H F1 H1 → Aft X.mg W σ F1 H1 (lift (seqD d)) (fun ds F' H' => ∀ J, ItF X.K J F' ds → R J H') → Z' d F1 H1) → Aft X.mg W σ F H (ge rho) Z' := fun Z' hz => by
    have q : Aft X.mg W σ F H (ge rho >>= fun d => lift (seqD d)) (fun ds F' H' => ∀ J, ItF X.K J F' ds → R J H') := q
    revert q hz
    generalize ge rho = r
    intro hz q
    cases r with
    | ok d => exact fun F1 H1 s1 => hz d F1 H1 rfl s1 (Aft.step (r := lift (seqD d)) q s1)
    | error er => cases er <;> exact q
  have walk : ∀ {J : It} {ds : List PyData} {F1 H1 : Hp}, Aft X.mg W σ F1 H1 (.ok ds) (fun ds F' H' => ∀ J, ItF X.K J F' ds → R J H') → Same F1 H1 → ItF X.K J F1 ds → R J H1 := fun q s h => q.now s _ h
  cases eg : ge rho with
  | error er => exact .inl ⟨F, rho, n, key _ fun d F1 H1 ed => by rw [eg] at ed; cases ed⟩
  | ok d0 =>
    cases d0 with
    | tuple ds =>
      refine .inr (.inl ⟨F, rho, n, key _ fun d F1 H1 ed s1 q1 v r => ?_⟩)
      rw [eg] at ed; cases ed
      cases r with
      | tup h z t => exact ⟨_, rfl, ⟨_, .of (s1.fh _ _ h)⟩, walk q1 s1.fh fun F2 H2 a b => its_tup b (b _ _ (a _ _ h)) z (t.mono a)⟩
    | str x =>
      refine .inr (.inr ⟨F, rho, n, key _ fun d F1 H1 ed s1 q1 v r => ?_⟩)
      rw [eg] at ed; cases ed
      cases r
      by_cases hz : x.length ≤ sizeLine
      · rw [show seqD (.str x) = some (x.cps.toList.map fun c => .str ⟨#[c]⟩) from if_pos hz] at q1
        exact ⟨x, rfl, walk q1 s1.fh fun F2 H2 a b => its_str b hz⟩
      · rw [show seqD (.str x) = none from if_neg hz] at q1
        exact False.elim q1
    | list ds =>
      refine .inl ⟨F, rho, n, key _ fun d F1 H1 ed s1 q1 v r => ?_⟩
      rw [eg] at ed; cases ed
      cases r with
      | lst h z t => exact ⟨_, rfl, ⟨_, .of (s1.fh _ _ h)⟩, walk q1 s1.fh fun F2 H2 a b => its_list b (b _ _ (a _ _ h)) z (t.mono a)⟩
    | _ => exact .inl ⟨F, rho, n, key _ fun d F1 H1 ed s1 q1 v r => by rw [eg] at ed; cases ed; exact False.elim q1⟩
/-- a comprehension over an own list -/
def ownD : PyData → Option (List PyData)
  | .list ds => some ds
  | _ => none
theorem dih_own (i : Nat) {tg : Expr} {x : Str} {pos' : Pos} (h : ph[i]? = some .ow := by rfl) (hN : X.N[i]? = some x := by rfl) (hv : Vis X.env.scope x := by first | exact Or.inl rfl | exact Or.inr (Or.inl rfl) | exact Or.inr (Or.inr rfl))
    (hd : (x == ("__debug__" : Str)) = false := by decide) (hcd : (x == ("__classdict__" : Str)) = false := by decide) : DIh X W ph tg (.Name x pos') (gIt ownD (gV i)) :=
  pi_imp (pi_list (pe_var hN hv hd hcd)) fun σ H R ⟨F, rho, n, q⟩ => by
    obtain ⟨p, o, e, h1, h2, r⟩ := n.ow h
    have q : Aft X.mg W σ F H (lift (ownD (look rho i))) _ := q
    cases ed : look rho i with
    | list ds =>
      rw [ed] at q r
      cases o with
      | lst vs =>
        obtain ⟨z, t⟩ := r
        refine ⟨.ref p, e, p, rfl, ⟨vs, .of h2⟩, ?_⟩
        exact q.now n.fh _ fun F1 H1 a b c => its_list b (c _ _ h2) z (t.mono a)
      | _ => exact False.elim r
    | _ => rw [ed] at q; exact False.elim q
/-! ### range -/
def rangeD (lo : Int) (k : Nat) : List PyData := (List.range k).map fun (i : Nat) => PyData.int (lo + i)
theorem its_range {K : PySem.W.Frag} {F1 H1 : Hp} (s : Same F1 H1) {lo : Int} {k : Nat} (z : k ≤ sizeLine) : Its K (Itr lo k) F1 H1 (rangeD lo k) := by
  have hl : (rangeD lo k).length = k := by simp [rangeD]
  refine ⟨by rw [hl]; exact z, fun i d hd => ?_, by show k ≤ _; rw [hl]; exact Nat.le_refl _⟩
  have hi : i < k := by
    have := (List.getElem?_eq_some_iff.mp hd).1
    rw [hl] at this; exact this
  refine ⟨hi, fun v H2 hy => ?_⟩
  obtain ⟨rfl, rfl⟩ := hy
  unfold rangeD at hd
  rw [List.getElem?_map, List.getElem?_range hi] at hd
  cases hd
  exact ⟨F1, .refl s, .int _⟩
def rng1 : PyData → Option (List PyData)
  | .int n => if -(2 ^ 62) ≤ n ∧ n < 2 ^ 62 ∧ n.toNat ≤ sizeLine then some (rangeD 0 n.toNat) else none
  | _ => none
theorem di_range1 {tg : Expr} {p : Pos} (ha : DE X W ph a ga) (hm : X.mg "range" = none) (hg : Gl X "range" := by rfl) (hs : starEach [a] X.env = [(false, eval a X.env)] := by rfl) (hs2 : starEach [a] X.env = (false, eval a X.env) :: starEach [] X.env := by rfl) :
    DI X W ph tg (.Call (.Name "range" p) [a] [] pos) (gIt rng1 ga) :=
  pi_imp (pi_range1 hg hm (L2.pa_cons ha L2.pa_nil hs2) hs) fun σ H R ⟨F, rho, n, q⟩ => ⟨F, rho, n, q.bind fun d F1 H1 s1 q1 v r => by
    obtain ⟨ds, e, q2⟩ := q1.lift
    cases r with
    | int k =>
      have e : (if -(2 ^ 62) ≤ k ∧ k < 2 ^ 62 ∧ k.toNat ≤ sizeLine then some (rangeD 0 k.toNat) else none) = some ds := e
      split at e
      · rename_i hz; cases e; exact ⟨k, rfl, hz.1, hz.2.1, q2.now s1.fh _ fun F2 H2 _ b => its_range b hz.2.2⟩
      · cases e
    | _ => cases e⟩
def rng2 : PyData → PyData → Option (List PyData)
  | .int m, .int n => if (-(2 ^ 62) ≤ m ∧ m < 2 ^ 62 ∧ -(2 ^ 62) ≤ n ∧ n < 2 ^ 62) ∧ (n - m).toNat ≤ sizeLine then some (rangeD m (n - m).toNat) else none
  | _, _ => none
def gIt2 (o : PyData → PyData → Option (List PyData)) (ga gb : Rw → Rs PyData) : Rw → Rs (List PyData) := fun rho => ga rho >>= fun x => gb rho >>= fun y => lift (o x y)
theorem di_range2 {tg : Expr} {p : Pos} (ha : DE X W ph a ga) (hb : DE X W ph b gb) (hm : X.mg "range" = none) (hg : Gl X "range" := by rfl) (hs : starEach [a, b] X.env = [(false, eval a X.env), (false, eval b X.env)] := by rfl) (hs2 : starEach [b] X.env = [(false, eval b X.env)] := by rfl)
    (h1 : starEach [a, b] X.env = (false, eval a X.env) :: starEach [b] X.env := by rfl) (h2 : starEach [b] X.env = (false, eval b X.env) :: starEach [] X.env := by rfl) : DI X W ph tg (.Call (.Name "range" p) [a, b] [] pos) (gIt2 rng2 ga gb) :=
  pi_imp (pi_range2 hg hm (L2.pa_cons ha (L2.pa_cons hb L2.pa_nil h2) h1) hs hs2) fun σ H R ⟨F, rho, n, q⟩ => ⟨F, rho, n, q.bind fun d F1 H1 s1 q1 v r => ⟨F1, rho, n.step s1, q1.bind fun d2 F2 H2 s2 q2 v2 r2 => by
    obtain ⟨ds, e, q3⟩ := q2.lift
    cases r with
    | int k =>
      cases r2 with
      | int l =>
        have e : (if (-(2 ^ 62) ≤ k ∧ k < 2 ^ 62 ∧ -(2 ^ 62) ≤ l ∧ l < 2 ^ 62) ∧ (l - k).toNat ≤ sizeLine then some (rangeD k (l - k).toNat) else none) = some ds := e
        split at e
        · rename_i hz; cases e; exact ⟨k, l, rfl, hz.1, q3.now s2.fh _ fun F3 H3 _ b => its_range b hz.2⟩
        · cases e
      | _ => cases e
    | _ => cases e⟩⟩
/-! ### own lists -/
theorem EnS.mut {K : PySem.W.Frag} {F0 H0 F H : Hp} {σ : L2.St} {rho : Rw} {i : Nat} {p : Addr} {o : HO} {d : PyData} (n : EnS K F0 H0 ph F H σ rho) (hi : ph[i]? = some .ow) (hp : σ[i]? = some (some (.ref p))) (r : RepO K F o d) : EnS K F0 H0 ph F (upd H p o) σ (rho.set i d) := by
  have hF : F p = none := by
    obtain ⟨p', o', e, h1, _⟩ := n.en.ow hi
    rw [hp] at e; cases e; exact h1
  have h0 : H0 p = none := n.on i p hi hp
  have sF : Same F (upd H p o) := fun b u z => by rw [upd_ne (ne_of_none z hF)]; exact n.en.fh _ _ z
  refine ⟨⟨sF, n.en.ls, by simpa using n.en.lr, fun j f hj => ?_, n.en.ap⟩, ⟨n.st.f, sF, fun b u z => by rw [upd_ne (ne_of_none z h0)]; exact n.st.h _ _ z, n.st.nw⟩, n.on⟩
  by_cases hij : i = j
  · subst hij
    rw [hi] at hj; cases hj
    have hl : i < rho.length := Nat.lt_of_lt_of_le (List.getElem?_eq_some_iff.mp hi).1 n.en.lr
    exact ⟨_, d, hp, List.getElem?_set_self hl, p, o, rfl, hF, upd_same, r⟩
  · obtain ⟨sv, d', e1, e2, e3⟩ := n.en.sl j f hj
    refine ⟨sv, d', e1, by rw [List.getElem?_set_ne hij]; exact e2, ?_⟩
    cases f with
    | dead => trivial
    | im => exact e3
    | ow =>
      obtain ⟨q, u, e, q1, q2, q3⟩ := e3
      subst e
      have ne : q ≠ p := fun z => by subst z; exact hij (n.en.ap i j q hi hj hp e1)
      exact ⟨q, u, rfl, q1, by rw [upd_ne ne]; exact q2, q3⟩
def gApp (i : Nat) (ge : Rw → Rs PyData) : Rw → SR := fun rho => match look rho i with
  | .list xs => thenS (ge rho) rho fun d => if xs.length < sizeLine then .nx (rho.set i (.list (xs ++ [d]))) else .er .bad rho
  | _ => .er .bad rho
theorem own_list {K : PySem.W.Frag} {F H : Hp} {σ : L2.St} {rho : Rw} {i : Nat} {xs : List PyData} (n : En K ph F H σ rho) (h : ph[i]? = some .ow) (e : look rho i = .list xs) : ∃ p vs, σ[i]? = some (some (.ref p)) ∧ F p = none ∧ H p = some (.lst vs) ∧ vs.length ≤ sizeLine ∧ RpL K F vs xs := by
  obtain ⟨p, o, e1, h1, h2, r⟩ := n.ow h
  rw [e] at r
  cases o with
  | lst vs => exact ⟨p, vs, e1, h1, h2, r.1, r.2⟩
  | _ => exact False.elim r
theorem ds_append (i : Nat) {x : Str} {p1 p2 cpos : Pos} (he : DE X W ph e ge) (h : ph[i]? = some .ow := by rfl) (hN : X.N[i]? = some x := by rfl) (hv : Vis X.env.scope x := by first | exact Or.inl rfl | exact Or.inr (Or.inl rfl) | exact Or.inr (Or.inr rfl)) (w : wk ph C.e = true := by rfl)
    (hd : (x == ("__debug__" : Str)) = false := by decide) (hcd : (x == ("__classdict__" : Str)) = false := by decide) (hbase : attributeBase (.Name x p1) "append" X.env (eval (.Name x p1) X.env) = eval (.Name x p1) X.env := by rfl)
    (hfew : ((backTo cpos (starEach [e] X.env)).all (fun x => !x.1) && (backToKw cpos (keywordEach [] X.env)).all (fun x => x.1.isSome) && decide ([e].length + ([] : List Keyword).length + (if ([] : List Keyword).isEmpty then 0 else 1) < 30)) = true := by rfl)
    (hline : (p2.endLine == cpos.line) = true := by rfl) (hs : starEach [e] X.env = (false, eval e X.env) :: starEach [] X.env := by rfl) (hplain : (backTo cpos (starEach [] X.env)).any (·.1) = false := by rfl)
    (hsw : swapsWith (.Call (.Attribute (.Name x p1) "append" p2) [e] [] cpos) none pos.line X.env = pure false := by rfl) : DS X W C ph ph (.Expr (.Call (.Attribute (.Name x p1) "append" p2) [e] [] cpos) pos) (gApp i ge) :=
  ps_imp (ps_expr (pe_bm PySem.F.plainAttrs_list PySem.F.slot_list_append PySem.F.type_list_append mt_append (pe_var hN hv hd hcd) (L2.pa_cons he L2.pa_nil hs) hbase hfew hline hs hplain) hsw) fun D σ H ⟨F0, H0, F, rho, n, q⟩ => by
    unfold gApp at q
    cases ed : look rho i with
    | list xs =>
      rw [ed] at q
      have q : SAft X.K X.mg W C F0 H0 ph D (thenS (ge rho) rho fun d => if xs.length < sizeLine then .nx (rho.set i (.list (xs ++ [d]))) else .er .bad rho) := q
      obtain ⟨p, vs, e1, h1, h2, z, t⟩ := own_list n.en h ed
      refine ⟨.ref p, e1, .inl ⟨rfl, vs, .of h2⟩, F, rho, n.en, aft_then n w q fun d F1 H1 s1 q1 v rv => ?_⟩
      have h3 := s1.h _ _ h2
      split at q1
      · rename_i hz
        have hz' : vs.length < sizeLine := by rw [t.length]; exact hz
        refine ⟨p, vs, v, rfl, rfl, h3, hz', ?_⟩
        exact q1 σ F1 _ ((n.step s1).mut h e1 ⟨by simp; omega, (t.mono s1.f).append (.one rv)⟩)
      · exact False.elim q1
    | _ => rw [ed] at q; exact False.elim q
def gExt (i : Nat) (ge : Rw → Rs PyData) : Rw → SR := fun rho => match look rho i with
  | .list xs => thenS (ge rho) rho fun d => match d with
    | .list ys => if xs.length + ys.length ≤ sizeLine then .nx (rho.set i (.list (xs ++ ys))) else .er .bad rho
    | _ => .er .bad rho
  | _ => .er .bad rho
theorem ds_extend (i : Nat) {x : Str} {p1 p2 cpos : Pos} (he : DE X W ph e ge) (h : ph[i]? = some .ow := by rfl) (hN : X.N[i]? = some x := by rfl) (hv : Vis X.env.scope x := by first | exact Or.inl rfl | exact Or.inr (Or.inl rfl) | exact Or.inr (Or.inr rfl)) (w : wk ph C.e = true := by rfl)
    (hd : (x == ("__debug__" : Str)) = false := by decide) (hcd : (x == ("__classdict__" : Str)) = false := by decide) (hbase : attributeBase (.Name x p1) "extend" X.env (eval (.Name x p1) X.env) = eval (.Name x p1) X.env := by rfl)
    (hfew : ((backTo cpos (starEach [e] X.env)).all (fun x => !x.1) && (backToKw cpos (keywordEach [] X.env)).all (fun x => x.1.isSome) && decide ([e].length + ([] : List Keyword).length + (if ([] : List Keyword).isEmpty then 0 else 1) < 30)) = true := by rfl)
    (hline : (p2.endLine == cpos.line) = true := by rfl) (hs : starEach [e] X.env = (false, eval e X.env) :: starEach [] X.env := by rfl) (hplain : (backTo cpos (starEach [] X.env)).any (·.1) = false := by rfl)
    (hsw : swapsWith (.Call (.Attribute (.Name x p1) "extend" p2) [e] [] cpos) none pos.line X.env = pure false := by rfl) : DS X W C ph ph (.Expr (.Call (.Attribute (.Name x p1) "extend" p2) [e] [] cpos) pos) (gExt i ge) :=
  ps_imp (ps_expr (pe_bm PySem.F.plainAttrs_list PySem.F.slot_list_extend PySem.F.type_list_extend mt_extend (pe_var hN hv hd hcd) (L2.pa_cons he L2.pa_nil hs) hbase hfew hline hs hplain) hsw) fun D σ H ⟨F0, H0, F, rho, n, q⟩ => by
    unfold gExt at q
    cases ed : look rho i with
    | list xs =>
      rw [ed] at q
      have q : SAft X.K X.mg W C F0 H0 ph D (thenS (ge rho) rho fun d => match d with
        | .list ys => if xs.length + ys.length ≤ sizeLine then .nx (rho.set i (.list (xs ++ ys))) else .er .bad rho
        | _ => .er .bad rho) := q
      obtain ⟨p, vs, e1, h1, h2, z, t⟩ := own_list n.en h ed
      refine ⟨.ref p, e1, .inl ⟨rfl, vs, .of h2⟩, F, rho, n.en, aft_then n w q fun d F1 H1 s1 q1 v rv => ?_⟩
      have h3 := s1.h _ _ h2
      cases rv with
      | @lst b ws ys hb zb tb =>
        have q1 : SAft X.K X.mg W C F0 H0 ph D (if xs.length + ys.length ≤ sizeLine then .nx (rho.set i (.list (xs ++ ys))) else .er .bad rho) := q1
        split at q1
        · rename_i hz
          have hz' : vs.length + ws.length ≤ sizeLine := by rw [t.length, tb.length]; exact hz
          refine ⟨p, b, vs, ws, rfl, rfl, h3, s1.fh _ _ hb, hz', ?_⟩
          exact q1 σ F1 _ ((n.step s1).mut h e1 ⟨by simp; omega, (t.mono s1.f).append tb⟩)
        · exact False.elim q1
      | _ => exact False.elim q1
    | _ => rw [ed] at q; exact False.elim q
/-- xs[k] = e -/
def gPutL (i : Nat) (gk ge : Rw → Rs PyData) : Rw → SR := fun rho => thenS (ge rho) rho fun d => thenS (gk rho) rho fun k => match look rho i, k with
  | .list xs, .int k => (match ixN xs.length k with
    | some j => .nx (rho.set i (.list (xs.set j d)))
    | none => .er .bad rho)
  | _, _ => .er .bad rho
theorem ds_putL (i : Nat) {x : Str} {k : Expr} {gk : Rw → Rs PyData} {p1 p2 : Pos} (hk : DE X W ph k gk) (he : DE X W ph e ge) (h : ph[i]? = some .ow := by rfl) (hN : X.N[i]? = some x := by rfl) (hv : Vis X.env.scope x := by first | exact Or.inl rfl | exact Or.inr (Or.inl rfl) | exact Or.inr (Or.inr rfl)) (w : wk ph C.e = true := by rfl)
    (hd : (x == ("__debug__" : Str)) = false := by decide) (hcd : (x == ("__classdict__" : Str)) = false := by decide) (ha : ∀ v, assign (.Subscript (.Name x p1) k p2) X.env v = (do
      let ov ← holding [v] (eval (.Name x p1) X.env)
      let iv ← holding [v, ov] (eval k X.env)
      standAt p2
      holding [v, ov, iv] (setItem ov iv v)
      release [v, ov, iv] []) := by intro _; rfl) (hs : swapsWithSole [.Subscript (.Name x p1) k p2] e pos.line X.env = pure false := by rfl) (hw : swappedStores [.Subscript (.Name x p1) k p2] e X.env = pure none := by rfl)
    (h1 : (assignEach [.Subscript (.Name x p1) k p2] X.env).map (·.2) = [assign (.Subscript (.Name x p1) k p2) X.env] := by rfl) : DS X W C ph ph (.Assign [.Subscript (.Name x p1) k p2] e pos) (gPutL i gk ge) :=
  ps_imp (ps_asg he (pg_sub (pe_var hN hv hd hcd) hk set_list ha) hs hw h1) fun D σ H ⟨F0, H0, F, rho, n, q⟩ => ⟨F, rho, n.en, aft_then n w q fun d F1 H1 s1 q1 v rv => by
    obtain ⟨p, o, e1, f1, h2, r⟩ := n.en.ow h
    refine ⟨.ref p, e1, F1, rho, (n.step s1).en, aft_then (n.step s1) w q1 fun kd F2 H2 s2 q2 kv rk => ?_⟩
    have n2 := (n.step s1).step s2
    cases ed : look rho i with
    | list xs =>
      obtain ⟨p', vs, e1', f', h2', z, t⟩ := own_list n2.en h ed
      rw [e1] at e1'; cases e1'
      cases rk with
      | int kk =>
        have q2 : SAft X.K X.mg W C F0 H0 ph D (match look rho i, PyData.int kk with
          | .list xs, .int k => (match ixN xs.length k with
            | some j => .nx (rho.set i (.list (xs.set j d)))
            | none => .er .bad rho)
          | _, _ => .er .bad rho) := q2
        rw [ed] at q2
        cases ej : ixN xs.length kk with
        | none => simp only [ej] at q2; exact False.elim q2
        | some j =>
          simp only [ej] at q2
          refine ⟨p, vs, kk, j, rfl, rfl, h2', by rw [t.length]; exact ej, ?_⟩
          exact q2 σ F2 _ (n2.mut h e1 ⟨by simpa using z, t.set (rv.mono s2.f) j⟩)
      | _ => rw [ed] at q2; exact False.elim q2
    | _ => rw [ed] at q2; cases kd <;> exact False.elim q2⟩
end
end PD
/-! PD8: raise, try. -/
namespace PD
open PySem L2
abbrev veB : List Value := [.type "ValueError", .type "Exception", .type "BaseException", .type "object"]
/-- an own exception class -/
structure ExcT (K : PySem.W.Frag) (mg : Str → Option Value) (x : Str) (C : Addr) : Prop where
  g : mg x = some (.ref C)
  q : PySem.W.excIn K C veB "ValueError.__new__" = true
  k : PySem.W.keepIn K (.ref C) = true
  b : PySem.W.subIn K (.ref C) (.type "BaseException") = some true
  t : PySem.W.typeIn K (.ref C) = some (.type "type")
/-- exceptions of the classes xs are just what the clauses name -/
def ExcAll (K : PySem.W.Frag) (mg : Str → Option Value) (xs : List Str) : Prop := ∀ x ∈ xs, ∀ y ∈ xs, PySem.W.exmOne K (clsOf mg x) (clsOf mg y) = some (decide (x = y))
section
variable {X : Cx} {W : WX} {C : Ctl} {ph phn phe : List Fl} {pos : Pos}
def gRaise (x : Str) : Rw → SR := fun rho => .er (.exc x) rho
theorem ds_raise {x m : Str} {A : Addr} {j : Nat} {p p2 pos2 : Pos} (hc : X.calm = true) (tk : Takes X W) (T : ExcT X.K X.mg x A) (hg : Gl X x := by rfl) (w : wk ph C.e = true := by rfl) (hdb : (x == ("__debug__" : Str)) = false := by decide) :
    DS X W C ph phn (.Raise (some (.Call (.Name x p) [.Constant (.str m) j p2] [] pos)) none pos2) (gRaise x) :=
  ps_imp (ps_raise hc tk (pmk_own PySem.F.excBase_ValueError T.q T.g T.k (raises_own T.b T.t) hg hdb)) fun D σ H ⟨F0, H0, F, rho, n, q⟩ => by
    obtain ⟨F', _, n'⟩ := n.weak w
    have := q σ F' H n'
    rwa [show clsOf X.mg x = .ref A by unfold clsOf; rw [T.g]; rfl] at this
/-- a clause's suite raises nothing -/
def noX : SR → SR
  | .er _ r => .er .bad r
  | r => r
def handD (x : Str) (rho : Rw) : List (Str × (Rw → SR)) → SR
  | [] => .er (.exc x) rho
  | (n, h) :: r => if x = n then noX (h rho) else handD x rho r
def gTry (xs : List Str) (gb : Rw → SR) (hs : List (Str × (Rw → SR))) : Rw → SR := fun rho => match gb rho with
  | .er (.exc x) r => if x ∈ xs then handD x r hs else .er .bad r
  | .er .bad r => .er .bad r
  | .nx r => .nx r
  | .rt d => .rt d
  | .bk r => .bk r
  | .ct r => .ct r
abbrev clD (X : Cx) (C : Ctl) (phe phn : List Fl) (hs : List (Str × (Rw → SR))) : List (Value × (Addr → Value → Option Addr → TS)) := hs.map fun h => (clsOf X.mg h.1, fun _ _ _ => rS X.K X.mg (fun _ _ _ _ => False) C phe phn h.2)
theorem dh_nil : HdsOk X [] (clD X C phe phn []) := .nil
theorem dh_cons {x : Str} {A : Addr} {b0 : Stmt} {suite : List Stmt} {np pos' : Pos} {hds : List ExceptHandler} {gh : Rw → SR} {hs : List (Str × (Rw → SR))} (hm : X.mg x = some (.ref A))
    (hsu : ∀ (a : Addr) (oe : Obj) (pn : List (Addr × Obj)), DB (X.suite a ((a, oe) :: pn)) (fun _ _ _ _ => False) C phe phn (b0 :: suite) gh) (r : HdsOk X hds (clD X C phe phn hs)) (hg : Gl X x := by rfl) (hdb : (x == ("__debug__" : Str)) = false := by decide) :
    HdsOk X (.ExceptHandler (some (.Name x np)) none (b0 :: suite) pos' :: hds) (clD X C phe phn ((x, gh) :: hs)) :=
  .cons ⟨hg, hdb, .inl (by show X.mg x = some (clsOf X.mg x); unfold clsOf; rw [hm]; rfl)⟩ (fun a oe cls d pn _ _ => hsu a oe pn) r
theorem saft_noX {K : PySem.W.Frag} {mg : Str → Option Value} {F0 H0 : Hp} {D : Ends} {W' : WX} : ∀ {r : SR}, SAft K mg W C F0 H0 phn D (noX r) → SAft K mg W' C F0 H0 phn D r
  | .nx _, q => q
  | .rt _, q => q
  | .bk _, q => q
  | .ct _, q => q
  | .er (.exc _) _, q => False.elim q
  | .er .bad _, q => q
theorem hand_w {xs : List Str} {x : Str} {D : Ends} {F0 H0 F1 H1 : Hp} {σ1 : L2.St} {r : Rw} (EA : ExcAll X.K X.mg xs) (hx : x ∈ xs) (w : wk phe C.e = true) (n1 : EnS X.K F0 H0 phe F1 H1 σ1 r) : ∀ hs : List (Str × (Rw → SR)), (∀ h ∈ hs, h.1 ∈ xs) →
    SAft X.K X.mg W C F0 H0 phn D (handD x r hs) → wMany X.K W D (clD X C phe phn hs) (clsOf X.mg x) none σ1 H1
  | [], _, q => by
    obtain ⟨F2, _, n2⟩ := n1.weak w
    exact q σ1 F2 H1 n2
  | (nm, gh) :: hs, hn, q => by
    have q : SAft X.K X.mg W C F0 H0 phn D (if x = nm then noX (gh r) else handD x r hs) := q
    refine ⟨decide (x = nm), EA x hx nm (hn _ (List.mem_cons_self)), fun hb a ha => ?_, fun hb => ?_⟩
    · rw [if_pos (of_decide_eq_true hb)] at q
      exact ⟨F0, H0, F1, r, n1, saft_noX q⟩
    · rw [if_neg (of_decide_eq_false hb)] at q
      exact hand_w EA hx w n1 hs (fun h hm => hn h (List.mem_cons_of_mem _ hm)) q
theorem ds_try {xs : List Str} {body : List Stmt} {h0 : ExceptHandler} {hds : List ExceptHandler} {gb : Rw → SR} {hs : List (Str × (Rw → SR))} (EA : ExcAll X.K X.mg xs) (tk : Takes X W)
    (hb : ∀ (W' : WX) (pn : List (Addr × Obj)) (xe : Value → Shared → Prop), Takes (X.tr pn xe) W' → DB (X.tr pn xe) W' ⟨C.b, C.c, phe⟩ ph phn body gb)
    (hh : HdsOk X (h0 :: hds) (clD X C phe phn hs)) (hn : ∀ h ∈ hs, h.1 ∈ xs) (w : wk phe C.e = true := by rfl) (hst : X.stack = X.env :: X.outer := by rfl) (hf : X.env.frame = some X.env.locals := by rfl) :
    DS X W C ph phn (.Try body (h0 :: hds) [] [] pos) (gTry xs gb hs) :=
  ps_imp (ps_try_many (tb := fun W' => rS X.K X.mg W' ⟨C.b, C.c, phe⟩ ph phn gb) hst hf tk (fun W' pn xe t _ => hb W' pn xe t) hh) fun D σ H ⟨F0, H0, F, rho, n, q⟩ => ⟨F0, H0, F, rho, n, by
    unfold gTry at q
    cases eg : gb rho with
    | nx r => rw [eg] at q; exact q
    | rt d => rw [eg] at q; exact q
    | bk r => rw [eg] at q; exact q
    | ct r => rw [eg] at q; exact q
    | er er r =>
      rw [eg] at q
      cases er with
      | bad => exact q
      | exc x =>
        have q : SAft X.K X.mg W C F0 H0 phn D (if x ∈ xs then handD x r hs else .er .bad r) := q
        split at q
        · rename_i hx
          exact fun σ1 F1 H1 n1 => hand_w EA hx w n1 hs hn q
        · exact False.elim q⟩
/-- x += e for numbers -/
def gAug (i : Nat) (o : PyData → PyData → Option PyData) (ge : Rw → Rs PyData) : Rw → SR := fun rho => thenS (ge rho) rho fun d => match o (look rho i) d with
  | some z => .nx (rho.set i z)
  | none => .er .bad rho
theorem ds_augI (i : Nat) {x : Str} {e : Expr} {ge : Rw → Rs PyData} {pos' : Pos} (hN : X.N.Nodup) (he : DE X W ph e ge) (h : ph[i]? = some .im := by rfl) (hi : X.N[i]? = some x := by rfl) (hx : Loc X.env.scope x := by first | exact Or.inl rfl | exact Or.inr rfl) (w : wk ph C.e = true := by rfl)
    (hf : X.fn x = true ∨ X.env.scope.names.lookup x = some .local := by first | exact .inl rfl | exact .inr rfl) : DS X W C ph (ph.set i .im) (.AugAssign (.Name x pos') .Add e pos) (gAug i (d2I yes2 fun i j => .int (i + j)) ge) :=
  ps_imp (ps_aug hN hi hx he ip_add hf) fun D σ H ⟨F0, H0, F, rho, n, q⟩ => by
    obtain ⟨v, e1, r⟩ := n.en.im h
    refine ⟨v, e1, F, rho, n.en, aft_then n w q fun d F1 H1 s1 q1 u ru => ?_⟩
    cases ed : d2I yes2 (fun i j => .int (i + j)) (look rho i) d with
    | none => rw [ed] at q1; exact False.elim q1
    | some z =>
      rw [ed] at q1
      obtain ⟨a, b, rfl, rfl, _, _, _, rfl⟩ := d2I_of (r.mono s1.f) ru ed
      exact ⟨a, b, rfl, rfl, q1 _ F1 H1 ((n.step s1).setIm i (.int _))⟩
end
end PD
/-! PD9: more operators and built-ins by data. -/
namespace PD
open PySem L2
section
variable {X : Cx}
/-! ### in -/
def flatD : PyData → Bool
  | .none => true
  | .bool _ => true
  | .int _ => true
  | .str _ => true
  | _ => false
theorem flat_of {K : PySem.W.Frag} {F : Hp} {v : V} {d : PyData} (r : Rp K F v d) (h : flatD d = true) : flatV v = true := by cases r <;> (try rfl) <;> (simp [flatD] at h)
theorem flats_of {K : PySem.W.Frag} {F : Hp} : ∀ {vs : List V} {ds : List PyData}, RpL K F vs ds → ds.all flatD = true → vs.all flatV = true
  | _, _, .nil, _ => rfl
  | _, _, .cons h t, e => by
    simp only [List.all_cons, Bool.and_eq_true] at e ⊢
    exact ⟨flat_of h e.1, flats_of t e.2⟩
theorem eqv_flat {K : PySem.W.Frag} {F : Hp} {v u : V} {d e : PyData} (r : Rp K F v d) (q : Rp K F u e) (h : flatD d = true) (h' : flatD e = true) : eqV v u = PyData.eqv d e := by
  cases r <;> (try (simp [flatD] at h; done)) <;> cases q <;> (try (simp [flatD] at h'; done)) <;> simp only [eqV, PyData.eqv]
theorem inV_flat {K : PySem.W.Frag} {F : Hp} {u : V} {e : PyData} (q : Rp K F u e) (h' : flatD e = true) : ∀ {vs : List V} {ds : List PyData}, RpL K F vs ds → ds.all flatD = true → inV u vs = ds.any fun z => PyData.eqv z e
  | _, _, .nil, _ => rfl
  | _, _, .cons h t, f => by
    simp only [List.all_cons, Bool.and_eq_true] at f
    show (eqV _ u || inV u _) = (PyData.eqv _ e || _)
    rw [eqv_flat h q f.1 h', inV_flat q h' t f.2]
def dIn (neg : Bool) : PyData → PyData → Option PyData
  | x, .list ds => if (SeqAt.shaped x && SeqAt.shaped (.list ds)) = true then some (.bool ((ds.any fun z => PyData.eqv z x) != neg)) else none
  | x, .tuple ds => if (flatD x && ds.all flatD) = true then some (.bool ((ds.any fun z => PyData.eqv z x) != neg)) else none
  | .str x, .str z => match x.cps.toList with
    | [c] => some (.bool (decide (c ∈ z.cps.toList) != neg))
    | _ => none
  | _, _ => none
theorem str_one {x : Str} {c : Nat} (h : x.cps.toList = [c]) : x = ⟨#[c]⟩ := by
  obtain ⟨⟨l⟩⟩ := x
  simp at h
  subst h; rfl
theorem op_inP (hu : X.A.units + 65 < cLine) : OpR X (compareOp .In) (rOp X.K (dIn false)) := opr_imp (OpR.or (op_inD hu) (OpR.or op_in_seq op_in_sign)) fun x y H Q ⟨F, d1, d2, d, s, r1, r2, e, q⟩ => by
  cases r2 with
  | @lst b ys es h2 z2 t2 =>
    have e : (if (SeqAt.shaped d1 && SeqAt.shaped (.list es)) = true then some (PyData.bool ((es.any fun z => PyData.eqv z d1) != false)) else none) = some d := by cases d1 <;> exact e
    split at e
    · rename_i h
      cases e
      rw [Bool.and_eq_true] at h
      refine .inl ⟨d1, es, Rp.dp s d1 (SeqAt.canLay_of_shaped h.1) r1, Rp.dp s _ (SeqAt.canLay_of_shaped h.2) (.lst h2 z2 t2), h.1, h.2, ?_⟩
      have := q _ F H (.refl s) (.bl _)
      rwa [Bool.bne_false] at this
    · cases e
  | @tup b ys es h2 z2 t2 =>
    have e : (if (flatD d1 && es.all flatD) = true then some (PyData.bool ((es.any fun z => PyData.eqv z d1) != false)) else none) = some d := by cases d1 <;> exact e
    split at e
    · rename_i h
      cases e
      rw [Bool.and_eq_true] at h
      refine .inr (.inl ⟨b, ys, rfl, .inr (.of (s _ _ h2)), flat_of r1 h.1, flats_of t2 h.2, ?_⟩)
      have := q _ F H (.refl s) (.bl _)
      rw [Bool.bne_false, ← inV_flat r1 h.1 t2 h.2] at this
      exact this
    · cases e
  | str z =>
    cases r1 with
    | str a =>
      have e : (match a.cps.toList with | [c] => some (PyData.bool (decide (c ∈ z.cps.toList) != false)) | _ => none) = some d := e
      split at e
      · rename_i c hc
        cases e
        have := str_one hc
        subst this
        refine .inr (.inr ⟨c, z, rfl, rfl, ?_⟩)
        have := q _ F H (.refl s) (.bl _)
        rwa [Bool.bne_false] at this
      · cases e
    | _ => cases e
  | _ => cases r1 <;> cases e
theorem op_notInP (hu : X.A.units + 65 < cLine) : OpR X (compareOp .NotIn) (rOp X.K (dIn true)) := opr_imp (OpR.or (op_notInD hu) (OpR.or op_notIn_seq op_notIn_sign)) fun x y H Q ⟨F, d1, d2, d, s, r1, r2, e, q⟩ => by
  cases r2 with
  | @lst b ys es h2 z2 t2 =>
    have e : (if (SeqAt.shaped d1 && SeqAt.shaped (.list es)) = true then some (PyData.bool ((es.any fun z => PyData.eqv z d1) != true)) else none) = some d := by cases d1 <;> exact e
    split at e
    · rename_i h
      cases e
      rw [Bool.and_eq_true] at h
      refine .inl ⟨d1, es, Rp.dp s d1 (SeqAt.canLay_of_shaped h.1) r1, Rp.dp s _ (SeqAt.canLay_of_shaped h.2) (.lst h2 z2 t2), h.1, h.2, ?_⟩
      have := q _ F H (.refl s) (.bl _)
      rwa [Bool.bne_true] at this
    · cases e
  | @tup b ys es h2 z2 t2 =>
    have e : (if (flatD d1 && es.all flatD) = true then some (PyData.bool ((es.any fun z => PyData.eqv z d1) != true)) else none) = some d := by cases d1 <;> exact e
    split at e
    · rename_i h
      cases e
      rw [Bool.and_eq_true] at h
      refine .inr (.inl ⟨b, ys, rfl, .inr (.of (s _ _ h2)), flat_of r1 h.1, flats_of t2 h.2, ?_⟩)
      have := q _ F H (.refl s) (.bl _)
      rw [Bool.bne_true, ← inV_flat r1 h.1 t2 h.2] at this
      exact this
    · cases e
  | str z =>
    cases r1 with
    | str a =>
      have e : (match a.cps.toList with | [c] => some (PyData.bool (decide (c ∈ z.cps.toList) != true)) | _ => none) = some d := e
      split at e
      · rename_i c hc
        cases e
        have := str_one hc
        subst this
        refine .inr (.inr ⟨c, z, rfl, rfl, ?_⟩)
        have := q _ F H (.refl s) (.bl _)
        rwa [Bool.bne_true] at this
      · cases e
    | _ => cases e
  | _ => cases r1 <;> cases e
/-! ### tuple * number -/
theorem tup_mul0 (l : Addr) (items : Array Value) (n : Nat) (dd : Option Addr) (sl : Array (Option Value)) (x : Int) (u : Tok) (c0 : (decide (x < -(2 ^ 63)) || decide (x ≥ 2 ^ 63)) = false) (c1 : (items.isEmpty || x == 1) = false) (c2 : (decide (x ≤ 0) || items.isEmpty) = true) :
    Meets (Builtin.«tuple.__mul__» ⟨[.ref l, .int x u], []⟩) (fun _ R s => s.heap.get? l = some { cls := .type "tuple", dict := dd, data := .seq items n, slots := sl } ∧
      R (.ok (.ret (Value.ref s.heap.objs.size))) { s with heap := s.heap.push { cls := Value.type "tuple", data := Data.seq #[] }, toks := s.toks }) :=
  .of_wp fun prog w A R s h => by
    obtain ⟨hp, g, d, tk, os⟩ := s
    obtain ⟨hl, h⟩ := h
    have f1 := AutoSeq1.idx_int
    wp_walk using wpAny_loadPart' hl
    refine wpAny_ite_false (decide_eq_false (by rw [c0]; exact Bool.false_ne_true)) ?_
    wp_walk using wpAny_loadPart' hl
    exact ⟨_, rfl, h⟩
theorem tup_mul1 (l : Addr) (items : Array Value) (n : Nat) (dd : Option Addr) (sl : Array (Option Value)) (x : Int) (u : Tok) (c0 : (decide (x < -(2 ^ 63)) || decide (x ≥ 2 ^ 63)) = false) (c1 : (items.isEmpty || x == 1) = true) :
    Meets (Builtin.«tuple.__mul__» ⟨[.ref l, .int x u], []⟩) (fun _ R s => s.heap.get? l = some { cls := .type "tuple", dict := dd, data := .seq items n, slots := sl } ∧
      R (.ok (.ret (Value.ref l))) s) :=
  .of_wp fun prog w A R s h => by
    obtain ⟨hp, g, d, tk, os⟩ := s
    obtain ⟨hl, h⟩ := h
    have f1 := AutoSeq1.idx_int
    wp_walk using wpAny_loadPart' hl
    refine wpAny_ite_false (decide_eq_false (by rw [c0]; exact Bool.false_ne_true)) ?_
    wp_walk using wpAny_loadPart' hl
    exact ⟨_, rfl, h⟩
open PyProof.Rows in
theorem op_rep1 : OpR X (binaryOp .Mult) (fun x y H Q => ∃ l k xs, x = .ref l ∧ y = .int k ∧ SqT X.K H l xs ∧ (xs = [] ∨ k = 1) ∧ -1000 ≤ k ∧ k ≤ 1000 ∧ Q (.ref l) H) := by
  intro pins s σ H x y v u Q I rx ry h
  obtain ⟨l, k, xs, rfl, rfl, hT, hc1, h1, h2, q⟩ := h
  cases rx
  obtain ⟨t, rfl⟩ := ry
  obtain ⟨its, r, ⟨⟨cls, dd, data, sl⟩, ho, hc, n, hd⟩, hs⟩ := I.tuple hT
  simp only at hc hd
  subst hc hd
  have c0 : (decide (k < -(2 ^ 63)) || decide (k ≥ 2 ^ 63)) = false := by
    rw [decide_eq_false (by omega), decide_eq_false (by omega)]; rfl
  have c1 : (its.toArray.isEmpty || k == 1) = true := by
    rcases hc1 with e | e
    · subst e; cases r; rfl
    · subst e; simp
  exact wpAny_binaryOp_repeat_ref (T := "tuple") (U := "int") (by decide) ⟨_, ho, rfl⟩ (fun s' => typeIs_int s' k t) noFill_tuple_mul F.fills_int_mul F.slot_int_rmul repeat_tuple F.slot_int_index.lookup
    (call_meets F.slot_int_rmul (typeIs_int s k t) F.entry_int_rmul (F.args_int_rmul_2 _ _) (int_rmul_tuple k t l its.toArray n dd sl)
      ⟨ho, rfl, ⟨_, ho, rfl⟩, call_meets F.slot_tuple_mul ⟨_, ho, rfl⟩ F.entry_tuple_mul (F.args_tuple_mul_2 _ _) (tup_mul1 l its.toArray n dd sl k t c0 c1) ⟨ho, .ref l, H, I, rfl, q⟩⟩)
open PyProof.Rows in
theorem op_rep0 : OpR X (binaryOp .Mult) (fun x y H Q => ∃ l k xs, x = .ref l ∧ y = .int k ∧ SqT X.K H l xs ∧ xs ≠ [] ∧ k ≤ 0 ∧ -1000 ≤ k ∧ ∀ p, H p = none → Q (.ref p) (upd H p (.tup []))) := by
  intro pins s σ H x y v u Q I rx ry h
  obtain ⟨l, k, xs, rfl, rfl, hT, hne, h1, h2, q⟩ := h
  cases rx
  obtain ⟨t, rfl⟩ := ry
  obtain ⟨its, r, ⟨⟨cls, dd, data, sl⟩, ho, hc, n, hd⟩, hs⟩ := I.tuple hT
  simp only at hc hd
  subst hc hd
  have c0 : (decide (k < -(2 ^ 63)) || decide (k ≥ 2 ^ 63)) = false := by
    rw [decide_eq_false (by omega), decide_eq_false (by omega)]; rfl
  have hi : its.toArray.isEmpty = false := by
    cases r with
    | nil => exact absurd rfl hne
    | cons _ _ => rfl
  have c1 : (its.toArray.isEmpty || k == 1) = false := by
    rw [hi, Bool.false_or]; exact beq_eq_false_iff_ne.mpr (by omega)
  have c2 : (decide (k ≤ 0) || its.toArray.isEmpty) = true := by rw [decide_eq_true h1]; rfl
  refine wpAny_binaryOp_repeat_ref (T := "tuple") (U := "int") (by decide) ⟨_, ho, rfl⟩ (fun s' => typeIs_int s' k t) noFill_tuple_mul F.fills_int_mul F.slot_int_rmul repeat_tuple F.slot_int_index.lookup
    (call_meets F.slot_int_rmul (typeIs_int s k t) F.entry_int_rmul (F.args_int_rmul_2 _ _) (int_rmul_tuple k t l its.toArray n dd sl)
      ⟨ho, rfl, ⟨_, ho, rfl⟩, call_meets F.slot_tuple_mul ⟨_, ho, rfl⟩ F.entry_tuple_mul (F.args_tuple_mul_2 _ _) (tup_mul0 l its.toArray n dd sl k t c0 c1 c2) ⟨ho, ?_⟩⟩)
  refine ⟨.ref s.heap.objs.size, _, I.laid (t' := s.toks) (o := .tup []) (fun b ob q => Heap.get?_push_of_some _ q) (Nat.le_refl _) ?_, rfl, q _ (I.hok.fresh (Nat.le_refl _))⟩
  exact ⟨Nat.zero_le _, _, .nil, IsTup.new _ _⟩
/-- a sequence so many times -/
def repD {a : Type} (xs : List a) (k : Int) : List a := (List.replicate k.toNat xs).flatten
theorem rep_rp {K : PySem.W.Frag} {F : Hp} {vs : List V} {ds : List PyData} (r : RpL K F vs ds) : ∀ m : Nat, RpL K F (List.replicate m vs).flatten (List.replicate m ds).flatten
  | 0 => .nil
  | m + 1 => by rw [List.replicate_succ, List.replicate_succ, List.flatten_cons, List.flatten_cons]; exact r.append (rep_rp r m)
def dMul : PyData → PyData → Option PyData
  | .int i, .int j => if (-(2 ^ 64) < i ∧ i < 2 ^ 64) ∨ (-(2 ^ 64) < j ∧ j < 2 ^ 64) then some (.int (i * j)) else none
  | .tuple xs, .int k => if -1000 ≤ k ∧ k ≤ 1000 ∧ xs.length ≤ 1000 then some (.tuple (repD xs k)) else none
  | .list xs, .int k => if -1000 ≤ k ∧ k ≤ 1000 ∧ xs.length ≤ 1000 then some (.list (repD xs k)) else none
  | _, _ => none
theorem op_mulS : OpR X (binaryOp .Mult) (rOp X.K dMul) := by
  refine opr_imp (OpR.or (OpR.or op_mul op_rep) (OpR.or op_rep1 (OpR.or op_rep0 op_repT))) fun x y H Q ⟨F, d1, d2, d, s, r1, r2, e, q⟩ => ?_
  have len : ∀ {vs : List V} {k : Int}, k ≤ 1000 → vs.length ≤ 1000 → (List.replicate k.toNat vs).flatten.length ≤ sizeLine := fun {vs k} h1 h2 => by
    rw [PyProof.Rows.lm_len_rep_flat, sizeLine_eq]
    have : k.toNat * vs.length ≤ 1000 * 1000 := Nat.mul_le_mul (by omega) h2
    omega
  cases r1 with
  | int i =>
    cases r2 with
    | int j =>
      have e : (if (-(2 ^ 64) < i ∧ i < 2 ^ 64) ∨ (-(2 ^ 64) < j ∧ j < 2 ^ 64) then some (PyData.int (i * j)) else none) = some d := e
      split at e
      · rename_i hz; cases e; exact .inl (.inl ⟨i, j, rfl, rfl, hz, q _ F H (.refl s) (.int _)⟩)
      · cases e
    | _ => cases e
  | @tup a vs ds h z t =>
    cases r2 with
    | int k =>
      have e : (if -1000 ≤ k ∧ k ≤ 1000 ∧ ds.length ≤ 1000 then some (PyData.tuple (repD ds k)) else none) = some d := e
      split at e
      · rename_i hz
        cases e
        have hl : vs.length ≤ 1000 := by rw [t.length]; exact hz.2.2
        by_cases c1 : vs = [] ∨ k = 1
        · refine .inr (.inl ⟨a, k, vs, rfl, rfl, .of (s _ _ h), c1, hz.1, hz.2.1, ?_⟩)
          have : repD ds k = ds := by
            rcases c1 with e | e
            · subst e; cases t; unfold repD; simp
            · subst e; unfold repD; simp
          rw [this] at q
          exact q _ F H (.refl s) (.tup h z t)
        · have c2 : vs ≠ [] := fun e => c1 (.inl e)
          by_cases c3 : k ≤ 0
          · refine .inr (.inr (.inl ⟨a, k, vs, rfl, rfl, .of (s _ _ h), c2, c3, hz.1, fun p hp => ?_⟩))
            have : repD ds k = [] := by unfold repD; rw [show k.toNat = 0 by omega]; rfl
            rw [this] at q
            exact q _ _ _ (Step.new s hp) (.tup upd_same (Nat.zero_le _) .nil)
          · have c4 : k ≠ 1 := fun e => c1 (.inr e)
            refine .inr (.inr (.inr ⟨a, k, vs, rfl, rfl, .of (s _ _ h), c2, by omega, hz.2.1, hl, fun p hp => ?_⟩))
            exact q _ _ _ (Step.new s hp) (.tup upd_same (len hz.2.1 hl) ((rep_rp t k.toNat).mono (same_upd (same_none s hp))))
      · cases e
    | _ => cases e
  | @lst a vs ds h z t =>
    cases r2 with
    | int k =>
      have e : (if -1000 ≤ k ∧ k ≤ 1000 ∧ ds.length ≤ 1000 then some (PyData.list (repD ds k)) else none) = some d := e
      split at e
      · rename_i hz
        cases e
        have hl : vs.length ≤ 1000 := by rw [t.length]; exact hz.2.2
        have hm : vs.length * k.toNat ≤ sizeLine := by
          rw [sizeLine_eq]
          have : vs.length * k.toNat ≤ 1000 * 1000 := Nat.mul_le_mul hl (by omega)
          omega
        refine .inl (.inr ⟨a, k, vs, rfl, rfl, s _ _ h, by omega, by omega, hm, fun p hp => ?_⟩)
        exact q _ _ _ (Step.new s hp) (.lst upd_same (len hz.2.1 hl) ((rep_rp t k.toNat).mono (same_upd (same_none s hp))))
      · cases e
    | _ => cases e
  | _ => cases e
/-! ### max, min of whole numbers in a list or a tuple -/
def maxZ : Int → List Int → Int
  | m, [] => m
  | m, n :: ns => maxZ (if n > m then n else m) ns
def minZ : Int → List Int → Int
  | m, [] => m
  | m, n :: ns => minZ (if n < m then n else m) ns
theorem maxZ_spec : ∀ (ns : List Int) (m : Int), (maxZ m ns = m ∨ maxZ m ns ∈ ns) ∧ m ≤ maxZ m ns ∧ ∀ y ∈ ns, y ≤ maxZ m ns
  | [], m => ⟨.inl rfl, Int.le_refl _, fun y h => by simp at h⟩
  | n :: ns, m => by
    obtain ⟨h1, h2, h3⟩ := maxZ_spec ns (if n > m then n else m)
    unfold maxZ
    refine ⟨?_, ?_, fun y hy => ?_⟩
    · rcases h1 with h1 | h1
      · rw [h1]; by_cases c : n > m
        · rw [if_pos c]; exact .inr List.mem_cons_self
        · rw [if_neg c]; exact .inl rfl
      · exact .inr (List.mem_cons_of_mem _ h1)
    · by_cases c : n > m
      · rw [if_pos c] at h2 ⊢; omega
      · rw [if_neg c] at h2 ⊢; exact h2
    · rcases List.mem_cons.mp hy with e | hy
      · subst e
        by_cases c : y > m
        · rw [if_pos c] at h2 ⊢; exact h2
        · rw [if_neg c] at h2 ⊢; omega
      · exact h3 y hy
theorem minZ_spec : ∀ (ns : List Int) (m : Int), (minZ m ns = m ∨ minZ m ns ∈ ns) ∧ minZ m ns ≤ m ∧ ∀ y ∈ ns, minZ m ns ≤ y
  | [], m => ⟨.inl rfl, Int.le_refl _, fun y h => by simp at h⟩
  | n :: ns, m => by
    obtain ⟨h1, h2, h3⟩ := minZ_spec ns (if n < m then n else m)
    unfold minZ
    refine ⟨?_, ?_, fun y hy => ?_⟩
    · rcases h1 with h1 | h1
      · rw [h1]; by_cases c : n < m
        · rw [if_pos c]; exact .inr List.mem_cons_self
        · rw [if_neg c]; exact .inl rfl
      · exact .inr (List.mem_cons_of_mem _ h1)
    · by_cases c : n < m
      · rw [if_pos c] at h2 ⊢; omega
      · rw [if_neg c] at h2 ⊢; exact h2
    · rcases List.mem_cons.mp hy with e | hy
      · subst e
        by_cases c : y < m
        · rw [if_pos c] at h2 ⊢; exact h2
        · rw [if_neg c] at h2 ⊢; omega
      · exact h3 y hy
end
end PD
/-! PDA: max, min of numbers; a written dict asked. -/
namespace PD
open PySem L2
section
variable {X : Cx}
theorem mem_getD0 {ns : List Int} {i : Nat} (h : i < ns.length) : ns.getD i 0 ∈ ns := by
  rw [List.getD_eq_getElem?_getD, List.getElem?_eq_getElem h]; exact List.getElem_mem h
theorem getD_of_mem {ns : List Int} {a : Int} (h : a ∈ ns) : ∃ j, j < ns.length ∧ ns.getD j 0 = a := by
  obtain ⟨j, hj, e⟩ := List.getElem_of_mem h
  exact ⟨j, hj, by rw [List.getD_eq_getElem?_getD, List.getElem?_eq_getElem hj]; exact e⟩
open PyProof.Rows in
theorem cr_maxT (hc : X.calm = true) : CallR X (.builtin "max") (fun vs H Q => ∃ (a : Addr) (ns : List Int), vs = [V.ref a] ∧ SqT X.K H a (ns.map V.int) ∧ 0 < ns.length ∧ ∀ m, m ∈ ns → (∀ y, y ∈ ns → y ≤ m) → Q (.int m) H) := by
  intro pins s σ H vs us Q I r h
  obtain ⟨a, ns, rfl, hs, hne, q⟩ := h
  obtain ⟨its, rv, ht, _⟩ := I.tuple hs
  rw [Vals.ref1 r]
  have hlt : a < s.heap.objs.size := by obtain ⟨_, e, _⟩ := ht; exact Heap.lt_size e
  have hl := rv.length
  rw [List.length_map] at hl
  refine call_max_walk (wpAny_pyIter_tuple (show s.heap.IsTuple a its.toArray from ht) ?_)
  refine ⟨_, _, _, _, _, _, fun i j => decide (ns.getD i 0 > ns.getD j 0), rfl, Walks.tuple (A := X.A.in1) (I.ok.hd hc) s.heap.objs.size a (Nat.ne_of_lt hlt) its.toArray, ⟨⟨_, Heap.get?_push_size _ rfl, rfl, rfl⟩, ?_⟩, fun b hb => ?_, by simp; omega, CmpOf.ints_gt (fun i => ns.getD i 0) (fun i v hv => vals_int_at rv (by simpa using hv)), fun v h' tk hP hk => ?_⟩
  · obtain ⟨o, e, c⟩ := ht; exact ⟨o, Heap.get?_push_of_some _ e, c⟩
  · show b < (s.heap.push _).objs.size
    rw [Heap.size_push]
    rcases List.mem_cons.mp hb with rfl | hb
    · exact Nat.lt_succ_self _
    · have : b = a := by simpa using hb
      subst this; exact Nat.lt_succ_of_lt hlt
  · obtain ⟨t, rfl⟩ := vals_int_at rv (by simpa only [List.getElem?_toArray] using hP)
    obtain ⟨h1, h2⟩ := argBest_gt (fun i => ns.getD i 0) (its.toArray.size - 1)
    have hz : its.toArray.size = ns.length := by simp; omega
    rw [hz] at h1 h2
    refine ⟨.int _, H, I.kept (old_push hk), ⟨_, rfl⟩, q _ ?_ fun y hy => ?_⟩
    · rw [hz]; exact mem_getD0 (by omega)
    · obtain ⟨j, hj, rfl⟩ := getD_of_mem hy
      rw [hz]; exact h2 j (by omega)
open PyProof.Rows in
theorem cr_minT (hc : X.calm = true) : CallR X (.builtin "min") (fun vs H Q => ∃ (a : Addr) (ns : List Int), vs = [V.ref a] ∧ SqT X.K H a (ns.map V.int) ∧ 0 < ns.length ∧ ∀ m, m ∈ ns → (∀ y, y ∈ ns → m ≤ y) → Q (.int m) H) := by
  intro pins s σ H vs us Q I r h
  obtain ⟨a, ns, rfl, hs, hne, q⟩ := h
  obtain ⟨its, rv, ht, _⟩ := I.tuple hs
  rw [Vals.ref1 r]
  have hlt : a < s.heap.objs.size := by obtain ⟨_, e, _⟩ := ht; exact Heap.lt_size e
  have hl := rv.length
  rw [List.length_map] at hl
  refine call_min_walk (wpAny_pyIter_tuple (show s.heap.IsTuple a its.toArray from ht) ?_)
  refine ⟨_, _, _, _, _, _, fun i j => decide (ns.getD i 0 < ns.getD j 0), rfl, Walks.tuple (A := X.A.in1) (I.ok.hd hc) s.heap.objs.size a (Nat.ne_of_lt hlt) its.toArray, ⟨⟨_, Heap.get?_push_size _ rfl, rfl, rfl⟩, ?_⟩, fun b hb => ?_, by simp; omega, CmpOf.ints_lt (fun i => ns.getD i 0) (fun i v hv => vals_int_at rv (by simpa using hv)), fun v h' tk hP hk => ?_⟩
  · obtain ⟨o, e, c⟩ := ht; exact ⟨o, Heap.get?_push_of_some _ e, c⟩
  · show b < (s.heap.push _).objs.size
    rw [Heap.size_push]
    rcases List.mem_cons.mp hb with rfl | hb
    · exact Nat.lt_succ_self _
    · have : b = a := by simpa using hb
      subst this; exact Nat.lt_succ_of_lt hlt
  · obtain ⟨t, rfl⟩ := vals_int_at rv (by simpa only [List.getElem?_toArray] using hP)
    obtain ⟨h1, h2⟩ := argBest_lt (fun i => ns.getD i 0) (its.toArray.size - 1)
    have hz : its.toArray.size = ns.length := by simp; omega
    rw [hz] at h1 h2
    refine ⟨.int _, H, I.kept (old_push hk), ⟨_, rfl⟩, q _ ?_ fun y hy => ?_⟩
    · rw [hz]; exact mem_getD0 (by omega)
    · obtain ⟨j, hj, rfl⟩ := getD_of_mem hy
      rw [hz]; exact h2 j (by omega)
def pickD (f : Int → List Int → Int) : List PyData → Option PyData
  | [.list ds] => (intsD ds).bind fun ns => match ns with
    | [] => none
    | n :: r => some (.int (f n r))
  | [.tuple ds] => (intsD ds).bind fun ns => match ns with
    | [] => none
    | n :: r => some (.int (f n r))
  | _ => none
theorem pick_of {K : PySem.W.Frag} {F H : Hp} {vs : List V} {ds : List PyData} {d : PyData} {f : Int → List Int → Int} (s : Same F H) (r : RpL K F vs ds) (e : pickD f ds = some d) : ∃ a n ns, vs = [.ref a] ∧ d = .int (f n ns) ∧ (SqL K H a ((n :: ns).map V.int) ∨ SqT K H a ((n :: ns).map V.int)) := by
  unfold pickD at e
  split at e
  · rename_i ds
    cases ei : intsD ds with
    | none => rw [ei] at e; cases e
    | some ns =>
      rw [ei] at e
      cases ns with
      | nil => cases e
      | cons n ns =>
        cases e
        cases r with
        | cons r1 t =>
          cases t
          cases r1 with
          | lst h z t =>
            rw [intsD_eq ei] at t
            have := rpl_ints t
            subst this
            exact ⟨_, n, ns, rfl, rfl, .inl (.of (s _ _ h))⟩
  · rename_i ds
    cases ei : intsD ds with
    | none => rw [ei] at e; cases e
    | some ns =>
      rw [ei] at e
      cases ns with
      | nil => cases e
      | cons n ns =>
        cases e
        cases r with
        | cons r1 t =>
          cases t
          cases r1 with
          | tup h z t =>
            rw [intsD_eq ei] at t
            have := rpl_ints t
            subst this
            exact ⟨_, n, ns, rfl, rfl, .inr (.of (s _ _ h))⟩
  · cases e
theorem maxZ_eq {n m : Int} {ns : List Int} (h1 : m ∈ n :: ns) (h2 : ∀ y ∈ n :: ns, y ≤ m) : m = maxZ n ns := by
  obtain ⟨a, b, c⟩ := maxZ_spec ns n
  have hm : maxZ n ns ∈ n :: ns := by
    rcases a with a | a
    · rw [a]; exact List.mem_cons_self
    · exact List.mem_cons_of_mem _ a
  have h3 := h2 _ hm
  rcases List.mem_cons.mp h1 with e | e
  · subst e; omega
  · have := c m e; omega
theorem minZ_eq {n m : Int} {ns : List Int} (h1 : m ∈ n :: ns) (h2 : ∀ y ∈ n :: ns, m ≤ y) : m = minZ n ns := by
  obtain ⟨a, b, c⟩ := minZ_spec ns n
  have hm : minZ n ns ∈ n :: ns := by
    rcases a with a | a
    · rw [a]; exact List.mem_cons_self
    · exact List.mem_cons_of_mem _ a
  have h3 := h2 _ hm
  rcases List.mem_cons.mp h1 with e | e
  · subst e; omega
  · have := c m e; omega
theorem cl_max1 (hc : X.calm = true) : CallR X (.builtin "max") (rCl X.K (pickD maxZ)) := clr_imp (clr_or (cr_max hc) (cr_maxT hc)) fun vs H Q ⟨F, ds, d, s, r, e, q⟩ => by
  obtain ⟨a, n, ns, rfl, rfl, h | h⟩ := pick_of s r e
  · exact .inl ⟨a, n :: ns, rfl, h, by simp, fun m h1 h2 => by rw [maxZ_eq h1 h2]; exact q _ F H (.refl s) (.int _)⟩
  · exact .inr ⟨a, n :: ns, rfl, h, by simp, fun m h1 h2 => by rw [maxZ_eq h1 h2]; exact q _ F H (.refl s) (.int _)⟩
theorem cl_min1 (hc : X.calm = true) : CallR X (.builtin "min") (rCl X.K (pickD minZ)) := clr_imp (clr_or (cr_min hc) (cr_minT hc)) fun vs H Q ⟨F, ds, d, s, r, e, q⟩ => by
  obtain ⟨a, n, ns, rfl, rfl, h | h⟩ := pick_of s r e
  · exact .inl ⟨a, n :: ns, rfl, h, by simp, fun m h1 h2 => by rw [minZ_eq h1 h2]; exact q _ F H (.refl s) (.int _)⟩
  · exact .inr ⟨a, n :: ns, rfl, h, by simp, fun m h1 h2 => by rw [minZ_eq h1 h2]; exact q _ F H (.refl s) (.int _)⟩
/-! ### {'a': 1, ..}.get(e, f) -/
def disp3 (k1 : Str) (i1 : Int) (k2 : Str) (i2 : Int) (k3 : Str) (i3 : Int) : PyData → PyData → Option PyData
  | .str k, z => some (if k = k3 then .int i3 else if k = k2 then .int i2 else if k = k1 then .int i1 else z)
  | _, _ => none
theorem de_disp3 {W : WX} {ph : List Fl} {e f : Expr} {ge gf : Rw → Rs PyData} {k1 k2 k3 : Str} {i1 i2 i3 : Int} {c1 c2 c3 d1 d2 d3 : Nat} {p1 p2 p3 q1 q2 q3 dpos apos cpos : Pos} (hu : X.A.units + 1 < cLine) (he : DE X W ph e ge) (hf : DE X W ph f gf)
    (base : attributeBase (.Dict [some (.Constant (.str k1) c1 p1), some (.Constant (.str k2) c2 p2), some (.Constant (.str k3) c3 p3)] [.Constant (.int i1) d1 q1, .Constant (.int i2) d2 q2, .Constant (.int i3) d3 q3] dpos) "get" X.env (eval (.Dict [some (.Constant (.str k1) c1 p1), some (.Constant (.str k2) c2 p2), some (.Constant (.str k3) c3 p3)] [.Constant (.int i1) d1 q1, .Constant (.int i2) d2 q2, .Constant (.int i3) d3 q3] dpos) X.env) = eval (.Dict [some (.Constant (.str k1) c1 p1), some (.Constant (.str k2) c2 p2), some (.Constant (.str k3) c3 p3)] [.Constant (.int i1) d1 q1, .Constant (.int i2) d2 q2, .Constant (.int i3) d3 q3] dpos) X.env := by rfl)
    (few : ((backTo cpos (starEach [e, f] X.env)).all (fun x => !x.1) && (backToKw cpos (keywordEach [] X.env)).all (fun x => x.1.isSome) && decide (([e, f] : List Expr).length + ([] : List Keyword).length + (if ([] : List Keyword).isEmpty then 0 else 1) < 30)) = true := by rfl)
    (line : (apos.endLine == cpos.line) = true := by rfl) (trees : backTo cpos (starEach [e, f] X.env) = [(false, eval e X.env), (false, eval f X.env)] := by rfl) :
    DE X W ph (.Call (.Attribute (.Dict [some (.Constant (.str k1) c1 p1), some (.Constant (.str k2) c2 p2), some (.Constant (.str k3) c3 p3)] [.Constant (.int i1) d1 q1, .Constant (.int i2) d2 q2, .Constant (.int i3) d3 q3] dpos) "get" apos) [e, f] [] cpos) (gB (disp3 k1 i1 k2 i2 k3 i3) ge gf) :=
  pe_imp (pe_dget2 hu (pe_disp (pps_cons pe_str pe_int (pps_cons pe_str pe_int (pps_cons pe_str pe_int pps_nil))) rfl rfl (fun z => by cases z) (by simp)) he hf ⟨base, few, line, trees⟩) fun σ H Q ⟨F, rho, n, q⟩ => by
    intro p hp
    refine ⟨upd_same, [(Sum.inr k1, .int i1), (Sum.inr k2, .int i2), (Sum.inr k3, .int i3)], rfl, by simp, p, rfl, .inl ⟨_, .inl upd_same⟩, ?_⟩
    rw [upd_upd]
    have s0 : Step F H F (upd H p (.dK (mergeK [] [(Sum.inr k1, .int i1), (Sum.inr k2, .int i2), (Sum.inr k3, .int i3)]))) := Step.hid n.fh hp
    refine ⟨F, rho, n.step s0, (q.step s0).bind fun x F1 H1 s1 q1 v1 r1 => ⟨F1, rho, (n.step s0).step s1, q1.bind fun y F2 H2 s2 q2 v2 r2 => ?_⟩⟩
    obtain ⟨d, ed, q3⟩ := q2.lift
    cases r1 with
    | str k =>
      cases ed
      have hd : H2 p = some (.dK (mergeK [] [(Sum.inr k1, .int i1), (Sum.inr k2, .int i2), (Sum.inr k3, .int i3)])) := s2.h _ _ (s1.h _ _ upd_same)
      refine ⟨_, DGet.k (k := Sum.inr k) hd, ?_⟩
      have inj : ∀ a b : Str, ((Sum.inr a : Key) = Sum.inr b) ↔ a = b := fun a b => ⟨fun h => Sum.inr.inj h, fun h => by rw [h]⟩
      have ev : valV (mergeK [] [(Sum.inr k1, V.int i1), (Sum.inr k2, .int i2), (Sum.inr k3, .int i3)]) (Sum.inr k : Key) = if k = k3 then some (.int i3) else if k = k2 then some (.int i2) else if k = k1 then some (.int i1) else none := by
        show valV (putK (putK (putK [] (Sum.inr k1) (V.int i1)) (Sum.inr k2) (.int i2)) (Sum.inr k3) (.int i3)) (Sum.inr k) = _
        rw [valV_put, valV_put, valV_put]
        simp only [inj, valV_nil]
      rw [ev]
      by_cases h3 : k = k3
      · simp only [h3, if_true] at q3 ⊢; exact q3.now s2.fh _ (.int _)
      · by_cases h2 : k = k2
        · simp only [h3, h2, if_true, if_false] at q3 ⊢; rw [if_neg (by rw [← h2]; exact h3)] at q3 ⊢; exact q3.now s2.fh _ (.int _)
        · by_cases h1 : k = k1
          · rw [if_neg h3, if_neg h2, if_pos h1] at q3 ⊢; exact q3.now s2.fh _ (.int _)
          · rw [if_neg h3, if_neg h2, if_neg h1] at q3 ⊢; exact q3.now s2.fh _ r2
    | _ => cases ed
end
end PD
/-! PDB: comprehensions stored; own lists read. -/
namespace PD
open PySem L2
section
variable {X : Cx} {W : WX} {C : Ctl} {ph phn : List Fl} {tg iter : Expr} {pos spos : Pos} {gi : Rw → Rs (List PyData)} {gt : PyData → Rw → Option Rw} {ts : List Nat}
theorem ds_setLcO (i : Nat) {y : Str} {py : Pos} {elt : Expr} {ifs : List Expr} {scope : Scope} {own : List (Str × Nat)} {gc : Rw → Rs Bool} {ge : Rw → Rs PyData} (hc : X.calm = true) (hN : X.N.Nodup) (hyl : X.env.scope.names.lookup y = some .local) (hsw : swapsWith (.ListComp elt [⟨tg, iter, ifs, 0⟩] scope pos) (some (.Name y py)) spos.line X.env = pure true)
    (hi : DIh X W ph tg iter gi) (ok : BlkOk X.N X.env.scope scope own)
    (hg : ∀ (s : Shared) (H : Hp) (C : Addr) (cl : List (Str × Addr)) (fp : List Addr), PG (X.blk s H scope (compEnvC scope cl C X.env) fp) tg (rG X.K (kill (own.map (·.2)) ph) ts gt))
    (ht : ∀ (s : Shared) (H : Hp) (C : Addr) (cl : List (Str × Addr)) (fp : List Addr), PTs (X.blk s H scope (compEnvC scope cl C X.env) fp) ifs (rT X.K X.mg W0 (setIms ts (kill (own.map (·.2)) ph)) gc))
    (he : ∀ (s : Shared) (H : Hp) (C : Addr) (cl : List (Str × Addr)) (fp : List Addr), DE (X.blk s H scope (compEnvC scope cl C X.env) fp) W0 (setIms ts (kill (own.map (·.2)) ph)) elt ge)
    (hts : ∀ i ∈ ts, i ∈ own.map (·.2)) (w : wk ph C.e = true := by rfl) (hy : X.N[i]? = some y := by rfl) (hs : ∀ x, foldedSetIterable iter X.env x = pure x := by intro _; rfl) :
    DS X W C ph (ph.set i .ow) (.Assign [.Name y py] (.ListComp elt [⟨tg, iter, ifs, 0⟩] scope pos) spos) (gSet i (gLc gi gt gc ge)) :=
  ps_imp (ps_setLc (te := rE X.K X.mg W0 (setIms ts (kill (own.map fun p : Str × Nat => p.2) ph)) ge) hc hN hy hyl hsw hi ok hg ht he hs) fun D σ H ⟨F0, H0, F, rho, n, q⟩ =>
    lc_run hts σ H (fun x H1 => gName i x σ H1 D.nx) ⟨F, rho, n.en, aft_then n w q fun d F1 H1 s1 q1 p o h0 h1 h2 r => q1 _ F1 H1 (n.setOw i s1 h0 h1 h2 r)⟩
/-- .. frozen at once -/
theorem ds_setLc (i : Nat) {y : Str} {py : Pos} {elt : Expr} {ifs : List Expr} {scope : Scope} {own : List (Str × Nat)} {gc : Rw → Rs Bool} {ge : Rw → Rs PyData} (hc : X.calm = true) (hN : X.N.Nodup) (hyl : X.env.scope.names.lookup y = some .local) (hsw : swapsWith (.ListComp elt [⟨tg, iter, ifs, 0⟩] scope pos) (some (.Name y py)) spos.line X.env = pure true)
    (hi : DIh X W ph tg iter gi) (ok : BlkOk X.N X.env.scope scope own)
    (hg : ∀ (s : Shared) (H : Hp) (C : Addr) (cl : List (Str × Addr)) (fp : List Addr), PG (X.blk s H scope (compEnvC scope cl C X.env) fp) tg (rG X.K (kill (own.map (·.2)) ph) ts gt))
    (ht : ∀ (s : Shared) (H : Hp) (C : Addr) (cl : List (Str × Addr)) (fp : List Addr), PTs (X.blk s H scope (compEnvC scope cl C X.env) fp) ifs (rT X.K X.mg W0 (setIms ts (kill (own.map (·.2)) ph)) gc))
    (he : ∀ (s : Shared) (H : Hp) (C : Addr) (cl : List (Str × Addr)) (fp : List Addr), DE (X.blk s H scope (compEnvC scope cl C X.env) fp) W0 (setIms ts (kill (own.map (·.2)) ph)) elt ge)
    (hts : ∀ i ∈ ts, i ∈ own.map (·.2)) (w : wk ph C.e = true := by rfl) (hy : X.N[i]? = some y := by rfl) (hs : ∀ x, foldedSetIterable iter X.env x = pure x := by intro _; rfl) :
    DS X W C ph (ph.set i .im) (.Assign [.Name y py] (.ListComp elt [⟨tg, iter, ifs, 0⟩] scope pos) spos) (gSet i (gLc gi gt gc ge)) :=
  ps_imp (ps_setLc (te := rE X.K X.mg W0 (setIms ts (kill (own.map fun p : Str × Nat => p.2) ph)) ge) hc hN hy hyl hsw hi ok hg ht he hs) fun D σ H ⟨F0, H0, F, rho, n, q⟩ =>
    lc_run hts σ H (fun x H1 => gName i x σ H1 D.nx) ⟨F, rho, n.en, aft_then n w q fun d F1 H1 s1 q1 p o h0 h1 h2 r => q1 _ (upd F1 p o) H1 ((n.step (s1.freeze h0 h1 h2)).setIm i ((r.mono (same_upd h1)).rp upd_same))⟩
/-- an item of an own list -/
theorem de_ixO (i : Nat) {x : Str} {b : Expr} {gb : Rw → Rs PyData} {p1 : Pos} (hb : DE X W ph b gb) (h : ph[i]? = some .ow := by rfl) (hN : X.N[i]? = some x := by rfl) (hv : Vis X.env.scope x := by first | exact Or.inl rfl | exact Or.inr (Or.inl rfl) | exact Or.inr (Or.inr rfl))
    (hd : (x == ("__debug__" : Str)) = false := by decide) (hcd : (x == ("__classdict__" : Str)) = false := by decide) (hs : PlainIx b := by exact fun _ _ => rfl) : DE X W ph (.Subscript (.Name x p1) b pos) (gB dIx (gV i) gb) :=
  pe_imp (pe_ix ix_seq (pe_var hN hv hd hcd) hb hs) fun σ H Q ⟨F, rho, n, q⟩ => by
    obtain ⟨p, o, e1, f1, h1, r⟩ := n.ow h
    have q : Aft X.mg W σ F H (gb rho >>= fun y => lift (dIx (look rho i) y)) _ := q
    refine ⟨.ref p, e1, F, rho, n, q.bind fun d2 F2 H2 s2 q2 v2 r2 => ?_⟩
    obtain ⟨d, e, q3⟩ := q2.lift
    cases ed : look rho i with
    | list xs =>
      rw [ed] at e
      obtain ⟨p', vs, e1', f', h1', z, t⟩ := own_list (n.step s2) h ed
      rw [e1] at e1'; cases e1'
      cases r2 with
      | int k =>
        obtain ⟨v, ev, rv⟩ := atI_rp t e
        exact .inl ⟨p, vs, k, v, rfl, rfl, .of h1', ev, q3.now s2.fh _ rv⟩
      | _ => cases e
    | str z =>
      rw [ed] at r
      cases o <;> exact False.elim r
    | tuple z =>
      rw [ed] at r
      cases o <;> exact False.elim r
    | dict kvs =>
      rw [ed] at r e
      cases o with
      | dT es =>
        obtain ⟨_, t⟩ := r
        cases t with
        | nil => cases r2 <;> cases e
        | cons _ _ => cases r2 <;> cases e
      | _ => exact False.elim r
    | _ => rw [ed] at e; cases r2 <;> cases e
/-- a module's number -/
theorem de_globE {x : Str} {i : Int} (hm : ∃ t, X.mg x = some (.int i t)) (hg : Gl X x := by rfl) (hd : (x == ("__debug__" : Str)) = false := by decide) : DE X W ph (.Name x pos) (gC (.int i)) := let ⟨_, h⟩ := hm; de_glob h hg hd
end
theorem un65 {A : Around} {k : Nat} (hr : Room k A) : A.units + 65 < cLine := by have := hr.un; omega
/-- a def as it stands behind the top -/
structure DefT (K : PySem.W.Frag) (mg : Str → Option Value) (x : Str) (st : Stmt) (ps : List Str) (f : Addr) (fd : FuncData) : Prop where
  F : Fun K x x st f fd
  b : Binds K fd ps []
  g : mg x = some (.ref f)
/-- the built-ins are the built-ins -/
structure BnT (mg : Str → Option Value) : Prop where
  len_ : mg "len" = none
  isinstance_ : mg "isinstance" = none
  int_ : mg "int" = none
  bool_ : mg "bool" = none
  tuple_ : mg "tuple" = none
  list_ : mg "list" = none
  str_ : mg "str" = none
  range_ : mg "range" = none
  sum_ : mg "sum" = none
  max_ : mg "max" = none
  min_ : mg "min" = none
  sorted_ : mg "sorted" = none
  set_ : mg "set" = none
  zip_ : mg "zip" = none
  dict_ : mg "dict" = none
  enumerate_ : mg "enumerate" = none
end PD
/-! PDC: the end of a law. -/
namespace PD
open PySem L2
/-- law's promise: a list of at most 63 ints is handed in, True comes out -/
def spLaw (K : PySem.W.Frag) : Sp := fun vs H Q _ => ∃ (a : Addr) (ns : List Int), vs = [.ref a] ∧ SqL K H a (ns.map V.int) ∧ ns.length ≤ 63 ∧ ∀ H', Q (.bl true) H'
theorem law_end {P : Program} {w : World} {K : PySem.W.Frag} {mg : Str → Option Value} {base : Heap} {k : Nat} {f : Addr} {fd : FuncData} {m : List PyData → Rs PyData} (O : FnOk P w K mg base (L2.CX P w) k f fd ["script"] (spP K mg 1 m))
    (h : ∀ ns : List Int, ns.length ≤ 63 → m [scrD ns] = .ok (.bool true)) : FnOk P w K mg base (L2.CX P w) k f fd ["script"] (spLaw K) :=
  O.imp fun vs H Q E ⟨a, ns, e, hS, hl, q⟩ => by
    subst e
    refine ⟨H, [scrD ns], rfl, Same.refl _, .cons (.scr hS) .nil, ?_⟩
    rw [h ns hl]
    intro F' H' s v r
    cases r
    exact q H'
theorem cx_false {P : Program} {w : World} {H : Hp} {s : Shared} {e : Value} {s' : Shared} (h : L2.CX P w [] H s (fun _ _ _ => False) e s') : False := by
  obtain ⟨_, _, _, _, _, _, _, _, _, _, _, _, z⟩ := h
  exact z.elim
section
variable {K : PySem.W.Frag} {h : Heap} {mg : Str → Option Value}
theorem defT_mk {x : Str} {st : Stmt} {ps : List Str} {f : Addr} {oc : Value} {od an : Option Addr} {osl : Array (Option Value)} {kV doc pm cdv ct : Value} (X : K.In h) (G : h.Ns mainGlobals mg) (a : PySem.W.nsIn K mainGlobals x = some (some (.ref f)))
    (l : K.lookup f = some ⟨oc, od, .func (PySem.W.fnOf x x (defArgs st) (defBody st) (defScope st) .none kV doc pm an cdv ct), osl⟩) (c : PySem.W.codeIn K cdv x = true) (k : PySem.W.keepIn K (.ref f) = true)
    (hb : ∀ (kV doc pm : Value) (an : Option Addr) (cdv ct : Value) (us : List Value), us.length = ps.length → bindArgs (PySem.W.fnOf x x (defArgs st) (defBody st) (defScope st) .none kV doc pm an cdv ct) ⟨us, []⟩ = pure (ps.zip us)) :
    DefT K mg x st ps f (PySem.W.fnOf x x (defArgs st) (defBody st) (defScope st) .none kV doc pm an cdv ct) :=
  have F := fun_mk (st := st) l c k
  ⟨F, F.binds hb, PySem.W.mg_of X G a⟩
theorem excT_mk {x : Str} {C : Addr} (X : K.In h) (G : h.Ns mainGlobals mg) (a : PySem.W.nsIn K mainGlobals x = some (some (.ref C))) (q : PySem.W.excIn K C veB "ValueError.__new__" = true) (k : PySem.W.keepIn K (.ref C) = true)
    (b : PySem.W.subIn K (.ref C) (.type "BaseException") = some true) (t : PySem.W.typeIn K (.ref C) = some (.type "type")) : ExcT K mg x C := ⟨PySem.W.mg_of X G a, q, k, b, t⟩
theorem exm_mk {x y : Str} {A B : Addr} {b : Bool} (Tx : ExcT K mg x A) (Ty : ExcT K mg y B) (h1 : PySem.W.subIn K (.ref B) (.type "BaseException") = some true) (h2 : PySem.W.isClsIn K B = true) (h3 : PySem.W.typeIn K (.ref B) = some (.type "type"))
    (h4 : PySem.W.subIn K (.ref A) (.ref B) = some b) : PySem.W.exmOne K (clsOf mg x) (clsOf mg y) = some b := by
  rw [show clsOf mg x = .ref A by unfold clsOf; rw [Tx.g]; rfl, show clsOf mg y = .ref B by unfold clsOf; rw [Ty.g]; rfl]
  have h2' : (PySem.W.clsIn K B).isSome = true := h2
  unfold PySem.W.exmOne
  rw [h1]
  show PySem.W.kitCls K (.ref A) (.ref B) = some b
  unfold PySem.W.kitCls
  simp only [h2', h3, h4, beq_self_eq_true, Bool.and_self, if_true]
end
end PD
/-! PE: reckoning with mirrors. -/
namespace PD
open PySem L2
@[simp] theorem ev_look0 (d : PyData) (r : Rw) : look (d :: r) 0 = d := rfl
@[simp] theorem ev_lookS (d : PyData) (r : Rw) (n : Nat) : look (d :: r) (n + 1) = look r n := rfl
@[simp] theorem ev_gV (i : Nat) (r : Rw) : gV i r = .ok (look r i) := rfl
@[simp] theorem ev_gC (d : PyData) (r : Rw) : gC d r = .ok d := rfl
@[simp] theorem ev_bind {a b : Type} (x : a) (f : a → Rs b) : ((Except.ok x : Rs a) >>= f) = f x := rfl
@[simp] theorem ev_bindE {a b : Type} (x : Er) (f : a → Rs b) : ((Except.error x : Rs a) >>= f) = .error x := rfl
@[simp] theorem ev_lift {a : Type} (x : a) : lift (some x) = .ok x := rfl
@[simp] theorem ev_gB (o : PyData → PyData → Option PyData) (ga gb : Rw → Rs PyData) (r : Rw) : gB o ga gb r = ga r >>= fun x => gb r >>= fun y => lift (o x y) := rfl
@[simp] theorem ev_gU (o : PyData → Option PyData) (ga : Rw → Rs PyData) (r : Rw) : gU o ga r = ga r >>= fun x => lift (o x) := rfl
@[simp] theorem ev_gNil (r : Rw) : gNil r = .ok [] := rfl
@[simp] theorem ev_gCons (ga : Rw → Rs PyData) (gs : Rw → Rs (List PyData)) (r : Rw) : gCons ga gs r = ga r >>= fun x => gs r >>= fun xs => .ok (x :: xs) := rfl
@[simp] theorem ev_gL (o : List PyData → Option PyData) (gs : Rw → Rs (List PyData)) (r : Rw) : gL o gs r = gs r >>= fun ds => lift (o ds) := rfl
@[simp] theorem ev_gF (m : List PyData → Rs PyData) (gs : Rw → Rs (List PyData)) (r : Rw) : gF m gs r = gs r >>= m := rfl
@[simp] theorem ev_gTb (g : Rw → Rs PyData) (r : Rw) : gTb g r = g r >>= fun d => lift (boolD d) := rfl
@[simp] theorem ev_boolD (b : Bool) : boolD (.bool b) = some b := rfl
@[simp] theorem ev_gTr (g : Rw → Rs PyData) (r : Rw) : gTr g r = g r >>= fun d => lift (truD d) := rfl
@[simp] theorem ev_truB (b : Bool) : truD (.bool b) = some b := rfl
@[simp] theorem ev_gAndT (a b : Rw → Rs Bool) (r : Rw) : gAndT a b r = a r >>= fun x => if x = true then b r else .ok false := rfl
@[simp] theorem ev_gOrT (a b : Rw → Rs Bool) (r : Rw) : gOrT a b r = a r >>= fun x => if x = true then .ok true else b r := rfl
@[simp] theorem ev_gNotT (a : Rw → Rs Bool) (r : Rw) : gNotT a r = a r >>= fun x => .ok (!x) := rfl
@[simp] theorem ev_gAndV (a b : Rw → Rs PyData) (r : Rw) : gAndV a b r = a r >>= fun x => lift (boolD x) >>= fun k => if k = true then b r else .ok (.bool false) := rfl
@[simp] theorem ev_gOrV (a b : Rw → Rs PyData) (r : Rw) : gOrV a b r = a r >>= fun x => lift (boolD x) >>= fun k => if k = true then .ok (.bool true) else b r := rfl
@[simp] theorem ev_gNotV (a : Rw → Rs PyData) (r : Rw) : gNotV a r = a r >>= fun x => lift (truD x) >>= fun k => .ok (.bool (!k)) := rfl
@[simp] theorem ev_gIf (t : Rw → Rs Bool) (a b : Rw → Rs PyData) (r : Rw) : gIf t a b r = t r >>= fun k => if k = true then a r else b r := rfl
@[simp] theorem ev_gChain (o o' : PyData → PyData → Option PyData) (ga gb gc : Rw → Rs PyData) (r : Rw) : gChain o o' ga gb gc r = ga r >>= fun x => gb r >>= fun y => lift ((o x y).bind boolD) >>= fun k => if k = true then gc r >>= fun z => lift (o' y z) else .ok (.bool false) := rfl
@[simp] theorem ev_thenS {a : Type} (x : a) (rho : Rw) (k : a → SR) : thenS (.ok x : Rs a) rho k = k x := rfl
@[simp] theorem ev_thenE {a : Type} (x : Er) (rho : Rw) (k : a → SR) : thenS (.error x : Rs a) rho k = .er x rho := rfl
@[simp] theorem ev_gSet (i : Nat) (ge : Rw → Rs PyData) (r : Rw) : gSet i ge r = thenS (ge r) r fun d => .nx (r.set i d) := rfl
@[simp] theorem ev_gRet (ge : Rw → Rs PyData) (r : Rw) : gRet ge r = thenS (ge r) r fun d => .rt d := rfl
@[simp] theorem ev_gDrop (ge : Rw → Rs PyData) (r : Rw) : gDrop ge r = thenS (ge r) r fun _ => .nx r := rfl
@[simp] theorem ev_gIfS (t : Rw → Rs Bool) (a b : Rw → SR) (r : Rw) : gIfS t a b r = thenS (t r) r fun k => if k = true then a r else b r := rfl
@[simp] theorem ev_gRaise (x : Str) (r : Rw) : gRaise x r = .er (.exc x) r := rfl
theorem ev_seq {g1 g2 : Rw → SR} {r r' : Rw} (h : g1 r = .nx r') : gSeq g1 g2 r = g2 r' := by unfold gSeq; rw [h]
theorem ev_seqR {g1 g2 : Rw → SR} {r : Rw} {d : PyData} (h : g1 r = .rt d) : gSeq g1 g2 r = .rt d := by unfold gSeq; rw [h]
theorem ev_seqE {g1 g2 : Rw → SR} {r r' : Rw} {e : Er} (h : g1 r = .er e r') : gSeq g1 g2 r = .er e r' := by unfold gSeq; rw [h]
@[simp] theorem ev_gSeq (g1 g2 : Rw → SR) (r : Rw) : gSeq g1 g2 r = match g1 r with
  | .nx r' => g2 r'
  | o => o := by unfold gSeq; cases g1 r <;> rfl
@[simp] theorem ev_endR (d : PyData) : endD (.rt d) = .ok d := rfl
@[simp] theorem ev_endN (r : Rw) : endD (.nx r) = .ok .none := rfl
@[simp] theorem ev_endE (e : Er) (r : Rw) : endD (.er e r) = .error e := rfl
@[simp] theorem ev_addI (i j : Int) : dAdd (.int i) (.int j) = some (.int (i + j)) := rfl
theorem ev_d2I {C : Int → Int → Bool} {g : Int → Int → PyData} {i j : Int} (h : C i j = true) : d2I C g (.int i) (.int j) = some (g i j) := by show (if _ then _ else _) = _; rw [if_pos h]
@[simp] theorem ev_yes (g : Int → Int → PyData) (i j : Int) : d2I yes2 g (.int i) (.int j) = some (g i j) := rfl
@[simp] theorem ev_fdiv {i j : Int} (h : 0 < j ∧ j < 1073741824) : dFdiv (.int i) (.int j) = some (.int (i / j)) := ev_d2I (by simpa using h)
@[simp] theorem ev_mod {i j : Int} (h : 0 < j) : dMod (.int i) (.int j) = some (.int (i % j)) := ev_d2I (by simpa using h)
@[simp] theorem ev_pow {i j : Int} (h : 0 ≤ j ∧ j ≤ 1000000 ∧ i.natAbs < 2 ^ 64) : dPow (.int i) (.int j) = some (.int (i ^ j.toNat)) := ev_d2I (by simpa using h)
@[simp] theorem ev_mulI {i j : Int} (h : (-(2 ^ 64) < i ∧ i < 2 ^ 64) ∨ (-(2 ^ 64) < j ∧ j < 2 ^ 64)) : dMul (.int i) (.int j) = some (.int (i * j)) := by show (if _ then _ else _) = _; rw [if_pos h]
theorem sl_big {n : Nat} (h : n ≤ 1000) : n ≤ sizeLine := by rw [sizeLine_eq]; omega
theorem sl_lt {n : Nat} (h : n ≤ 1000) : n < sizeLine := by rw [sizeLine_eq]; omega
theorem ev_tupD {ds : List PyData} (h : ds.length ≤ 1000) : tupD ds = some (.tuple ds) := if_pos (sl_big h)
theorem ev_lstD {ds : List PyData} (h : ds.length ≤ 1000) : lstD ds = some (.list ds) := if_pos (sl_big h)
theorem ev_fnM {k nn : Nat} {g : Rw → SR} {ds : List PyData} (h : ds.length = k) : fnM k nn g ds = endD (g (ds ++ List.replicate (nn - k) .none)) := if_pos h
end PD
namespace PD
open PySem L2
/-! ### lists, items, comprehensions -/
theorem ixN_in {n : Nat} {i : Int} (h0 : 0 ≤ i) (h1 : i < n) : ixN n i = some i.toNat := by unfold ixN; rw [if_pos h0, if_pos h1]
theorem atI_nat {α : Type} {xs : List α} {i : Nat} {x : α} (h : xs[i]? = some x) : atI xs (i : Int) = some x := by
  unfold atI
  have hl := (List.getElem?_eq_some_iff.mp h).1
  rw [ixN_in (by omega) (by omega)]
  simpa using h
theorem atI_in {α : Type} {xs : List α} {i : Int} (h0 : 0 ≤ i) (h1 : i < xs.length) : ∃ x ∈ xs, xs[i.toNat]? = some x ∧ atI xs i = some x := by
  have hl : i.toNat < xs.length := by omega
  refine ⟨xs[i.toNat], List.getElem_mem _, List.getElem?_eq_getElem hl, ?_⟩
  unfold atI
  rw [ixN_in h0 h1]
  exact List.getElem?_eq_getElem hl
theorem atI_last {α : Type} {xs : List α} {x : α} : atI (xs ++ [x]) (-1) = some x := by
  unfold atI ixN
  rw [if_neg (by decide), if_pos (by simp; omega)]
  simp
  have : (-1 + ((xs.length : Int) + 1)).toNat = xs.length := by omega
  simp [this]
@[simp] theorem ev_ixL (xs : List PyData) (i : Int) : dIx (.list xs) (.int i) = atI xs i := rfl
@[simp] theorem ev_ixT (xs : List PyData) (i : Int) : dIx (.tuple xs) (.int i) = atI xs i := rfl
@[simp] theorem ev_ixS (xs : List PyData) (i : Int) : dIx (.dict [(.none, .list xs)]) (.int i) = atI xs i := rfl
@[simp] theorem ev_lenL (xs : List PyData) : dLen [.list xs] = some (.int xs.length) := rfl
@[simp] theorem ev_lenT (xs : List PyData) : dLen [.tuple xs] = some (.int xs.length) := rfl
@[simp] theorem ev_lenS (xs : List PyData) : dLen [.dict [(.none, .list xs)]] = some (.int xs.length) := rfl
theorem compD_of {f : PyData → Option (Option PyData)} {c : PyData → Bool} {h : PyData → PyData} : ∀ (ds : List PyData), (∀ d ∈ ds, f d = some (if c d then some (h d) else none)) → compD f ds = some ((ds.filter c).map h)
  | [], _ => rfl
  | d :: ds, H => by
    unfold compD
    rw [H d List.mem_cons_self, compD_of ds fun x hx => H x (List.mem_cons_of_mem _ hx)]
    by_cases e : c d = true
    · simp [e]
    · simp [e]
theorem compD_map {f : PyData → Option (Option PyData)} {h : PyData → PyData} (ds : List PyData) (H : ∀ d ∈ ds, f d = some (some (h d))) : compD f ds = some (ds.map h) := by
  have := compD_of (f := f) (c := fun _ => true) (h := h) ds (fun d hd => by rw [H d hd]; rfl)
  rw [this, List.filter_eq_self.mpr fun _ _ => rfl]
@[simp] theorem ev_rng1 {n : Int} (h : 0 ≤ n ∧ n ≤ 1000) : rng1 (.int n) = some (rangeD 0 n.toNat) := by
  show (if _ then _ else _) = _; rw [if_pos ⟨by omega, by omega, sl_big (by omega)⟩]
@[simp] theorem ev_rng2 {m n : Int} (h : -1000 ≤ m ∧ m ≤ 1000 ∧ -1000 ≤ n ∧ n ≤ 1000 ∧ n - m ≤ 1000) : rng2 (.int m) (.int n) = some (rangeD m (n - m).toNat) := by
  show (if _ then _ else _) = _; rw [if_pos ⟨⟨by omega, by omega, by omega, by omega⟩, sl_big (by omega)⟩]
@[simp] theorem ev_gIt (o : PyData → Option (List PyData)) (ge : Rw → Rs PyData) (r : Rw) : gIt o ge r = ge r >>= fun d => lift (o d) := rfl
@[simp] theorem ev_gIt2 (o : PyData → PyData → Option (List PyData)) (ga gb : Rw → Rs PyData) (r : Rw) : gIt2 o ga gb r = ga r >>= fun x => gb r >>= fun y => lift (o x y) := rfl
@[simp] theorem ev_gLc (gi : Rw → Rs (List PyData)) (gt : PyData → Rw → Option Rw) (gc : Rw → Rs Bool) (ge : Rw → Rs PyData) (r : Rw) : gLc gi gt gc ge r = gi r >>= fun ds => lift ((compD (eltD gt gc ge r) ds).map PyData.list) := rfl
@[simp] theorem ev_seqL (ds : List PyData) : seqD (.list ds) = some ds := rfl
@[simp] theorem ev_seqT (ds : List PyData) : seqD (.tuple ds) = some ds := rfl
theorem ev_elt1 {i : Nat} {ge : Rw → Rs PyData} {r : Rw} {d y : PyData} (h : ge (r.set i d) = .ok y) : eltD (tName i) gYes ge r d = some (some y) := by
  unfold eltD tName gYes
  simp [toO, h]
theorem ev_eltC {i : Nat} {gc : Rw → Rs Bool} {ge : Rw → Rs PyData} {r : Rw} {d y : PyData} {b : Bool} (hc : gc (r.set i d) = .ok b) (h : ge (r.set i d) = .ok y) : eltD (tName i) gc ge r d = some (if b then some y else none) := by
  unfold eltD tName
  cases b <;> simp [toO, h, hc]
/-- a loop, by what holds between two turns -/
theorem forD_inv0 {ph : List Fl} {step : PyData → Rw → SR} {I : List PyData → Rw → Prop} {all : List PyData} (H : ∀ done d rest rho, all = done ++ d :: rest → I done rho → ∃ r, step d rho = .nx r ∧ I (done ++ [d]) (mask ph r)) : ∀ (ds done : List PyData) (rho : Rw), all = done ++ ds → I done rho → ∃ r, forD ph step ds rho = .nx r ∧ I all r
  | [], done, rho, e, h => ⟨rho, rfl, by rw [List.append_nil] at e; rw [e]; exact h⟩
  | d :: ds, done, rho, e, h => by
    obtain ⟨r, e1, i⟩ := H done d ds rho e h
    obtain ⟨r2, e2, i2⟩ := forD_inv0 H ds (done ++ [d]) (mask ph r) (by rw [e, List.append_assoc]; rfl) i
    refine ⟨r2, ?_, i2⟩
    unfold forD; rw [e1]; exact e2
theorem forD_inv {ph : List Fl} {step : PyData → Rw → SR} (I : List PyData → Rw → Prop) {all : List PyData} {rho : Rw} (h : I [] rho) (H : ∀ done d rest rho, all = done ++ d :: rest → I done rho → ∃ r, step d rho = .nx r ∧ I (done ++ [d]) (mask ph r)) : ∃ r, forD ph step all rho = .nx r ∧ I all r := forD_inv0 H all [] rho rfl h
@[simp] theorem ev_gFor (ph : List Fl) (gi : Rw → Rs (List PyData)) (gt : PyData → Rw → Option Rw) (gb : Rw → SR) (r : Rw) : gFor ph gi gt gb r = thenS (gi r) r fun ds => forD ph (turnD gt gb) ds (mask ph r) := rfl
@[simp] theorem ev_turn1 (i : Nat) (gb : Rw → SR) (d : PyData) (r : Rw) : turnD (tName i) gb d r = gb (r.set i d) := rfl
theorem mem_rangeD {lo : Int} {k : Nat} {d : PyData} (h : d ∈ rangeD lo k) : ∃ i : Nat, i < k ∧ d = .int (lo + i) := by
  unfold rangeD at h
  obtain ⟨i, hi, rfl⟩ := List.mem_map.mp h
  exact ⟨i, List.mem_range.mp hi, rfl⟩
@[simp] theorem ev_rangeD_len (lo : Int) (k : Nat) : (rangeD lo k).length = k := by simp [rangeD]
/-! ### shapes -/
def Shp (n : Nat) (d : PyData) : Prop := d.canLay0 = true ∧ d.depth ≤ n
theorem Shp.shaped {n : Nat} {d : PyData} (h : Shp n d) (hn : n ≤ 64) : SeqAt.shaped d = true := by
  unfold SeqAt.shaped; rw [h.1]; simpa using Nat.le_trans h.2 hn
theorem Shp.mono {n m : Nat} {d : PyData} (h : Shp n d) (hn : n ≤ m) : Shp m d := ⟨h.1, Nat.le_trans h.2 hn⟩
theorem shp_int (i : Int) : Shp 0 (.int i) := ⟨rfl, Nat.le_refl _⟩
theorem shp_bool (i : Bool) : Shp 0 (.bool i) := ⟨rfl, Nat.le_refl _⟩
theorem shp_none : Shp 0 .none := ⟨rfl, Nat.le_refl _⟩
theorem shp_all {n : Nat} : ∀ {ds : List PyData}, (∀ d ∈ ds, Shp n d) → PyData.canLayAll0 ds = true ∧ PyData.depthAll ds ≤ n
  | [], _ => ⟨rfl, Nat.zero_le _⟩
  | d :: ds, H => by
    have h1 := H d List.mem_cons_self
    have h2 := shp_all fun x hx => H x (List.mem_cons_of_mem _ hx)
    refine ⟨?_, ?_⟩
    · show (PyData.canLay0 d && PyData.canLayAll0 ds) = true; rw [h1.1, h2.1]; rfl
    · show max _ _ ≤ n; exact Nat.max_le.mpr ⟨h1.2, h2.2⟩
theorem shp_tup {n : Nat} {ds : List PyData} (h : ∀ d ∈ ds, Shp n d) : Shp (n + 1) (.tuple ds) := ⟨(shp_all h).1, Nat.succ_le_succ (shp_all h).2⟩
theorem shp_lst {n : Nat} {ds : List PyData} (h : ∀ d ∈ ds, Shp n d) : Shp (n + 1) (.list ds) := ⟨(shp_all h).1, Nat.succ_le_succ (shp_all h).2⟩
theorem dEq_self {n : Nat} {d : PyData} (h : Shp n d) (hn : n ≤ 64) : dEq d d = some (.bool true) := by
  unfold dEq; rw [h.shaped hn]; simp [SeqAt.eqv_refl d h.1]
theorem dNe_self {n : Nat} {d : PyData} (h : Shp n d) (hn : n ≤ 64) : dNe d d = some (.bool false) := by
  unfold dNe; rw [h.shaped hn]; simp [SeqAt.eqv_refl d h.1]
@[simp] theorem ev_eqI (i j : Int) : dEq (.int i) (.int j) = some (.bool (i == j)) := rfl
@[simp] theorem ev_neI (i j : Int) : dNe (.int i) (.int j) = some (.bool (!(i == j))) := rfl
/-! ### isinstance -/
theorem isi_of {T : String} {d : PyData} {b : Bool} (h : notDict d = true) (k : kitB (tyD d) T = some b) : dIsi T d = some (.bool b) := by unfold dIsi; rw [if_pos h, k]; rfl
theorem kb_int_int : kitB "int" "int" = some true := by decide +kernel
@[simp] theorem isi_int_int (i : Int) : dIsi "int" (.int i) = some (.bool true) := isi_of rfl kb_int_int
theorem kb_int_bool : kitB "int" "bool" = some false := by decide +kernel
@[simp] theorem isi_int_bool (i : Int) : dIsi "bool" (.int i) = some (.bool false) := isi_of rfl kb_int_bool
theorem kb_int_tuple : kitB "int" "tuple" = some false := by decide +kernel
@[simp] theorem isi_int_tuple (i : Int) : dIsi "tuple" (.int i) = some (.bool false) := isi_of rfl kb_int_tuple
theorem kb_int_str : kitB "int" "str" = some false := by decide +kernel
@[simp] theorem isi_int_str (i : Int) : dIsi "str" (.int i) = some (.bool false) := isi_of rfl kb_int_str
theorem kb_bool_int : kitB "bool" "int" = some true := by decide +kernel
@[simp] theorem isi_bool_int (i : Bool) : dIsi "int" (.bool i) = some (.bool true) := isi_of rfl kb_bool_int
theorem kb_bool_bool : kitB "bool" "bool" = some true := by decide +kernel
@[simp] theorem isi_bool_bool (i : Bool) : dIsi "bool" (.bool i) = some (.bool true) := isi_of rfl kb_bool_bool
theorem kb_bool_tuple : kitB "bool" "tuple" = some false := by decide +kernel
@[simp] theorem isi_bool_tuple (i : Bool) : dIsi "tuple" (.bool i) = some (.bool false) := isi_of rfl kb_bool_tuple
theorem kb_bool_str : kitB "bool" "str" = some false := by decide +kernel
@[simp] theorem isi_bool_str (i : Bool) : dIsi "str" (.bool i) = some (.bool false) := isi_of rfl kb_bool_str
theorem kb_none_int : kitB "NoneType" "int" = some false := by decide +kernel
@[simp] theorem isi_none_int  : dIsi "int" (.none) = some (.bool false) := isi_of rfl kb_none_int
theorem kb_none_bool : kitB "NoneType" "bool" = some false := by decide +kernel
@[simp] theorem isi_none_bool  : dIsi "bool" (.none) = some (.bool false) := isi_of rfl kb_none_bool
theorem kb_none_tuple : kitB "NoneType" "tuple" = some false := by decide +kernel
@[simp] theorem isi_none_tuple  : dIsi "tuple" (.none) = some (.bool false) := isi_of rfl kb_none_tuple
theorem kb_none_str : kitB "NoneType" "str" = some false := by decide +kernel
@[simp] theorem isi_none_str  : dIsi "str" (.none) = some (.bool false) := isi_of rfl kb_none_str
theorem kb_str_int : kitB "str" "int" = some false := by decide +kernel
@[simp] theorem isi_str_int (x : Str) : dIsi "int" (.str x) = some (.bool false) := isi_of rfl kb_str_int
theorem kb_str_bool : kitB "str" "bool" = some false := by decide +kernel
@[simp] theorem isi_str_bool (x : Str) : dIsi "bool" (.str x) = some (.bool false) := isi_of rfl kb_str_bool
theorem kb_str_tuple : kitB "str" "tuple" = some false := by decide +kernel
@[simp] theorem isi_str_tuple (x : Str) : dIsi "tuple" (.str x) = some (.bool false) := isi_of rfl kb_str_tuple
theorem kb_str_str : kitB "str" "str" = some true := by decide +kernel
@[simp] theorem isi_str_str (x : Str) : dIsi "str" (.str x) = some (.bool true) := isi_of rfl kb_str_str
theorem kb_lst_int : kitB "list" "int" = some false := by decide +kernel
@[simp] theorem isi_lst_int (x : List PyData) : dIsi "int" (.list x) = some (.bool false) := isi_of rfl kb_lst_int
theorem kb_lst_bool : kitB "list" "bool" = some false := by decide +kernel
@[simp] theorem isi_lst_bool (x : List PyData) : dIsi "bool" (.list x) = some (.bool false) := isi_of rfl kb_lst_bool
theorem kb_lst_tuple : kitB "list" "tuple" = some false := by decide +kernel
@[simp] theorem isi_lst_tuple (x : List PyData) : dIsi "tuple" (.list x) = some (.bool false) := isi_of rfl kb_lst_tuple
theorem kb_lst_str : kitB "list" "str" = some false := by decide +kernel
@[simp] theorem isi_lst_str (x : List PyData) : dIsi "str" (.list x) = some (.bool false) := isi_of rfl kb_lst_str
theorem kb_tup_int : kitB "tuple" "int" = some false := by decide +kernel
@[simp] theorem isi_tup_int (x : List PyData) : dIsi "int" (.tuple x) = some (.bool false) := isi_of rfl kb_tup_int
theorem kb_tup_bool : kitB "tuple" "bool" = some false := by decide +kernel
@[simp] theorem isi_tup_bool (x : List PyData) : dIsi "bool" (.tuple x) = some (.bool false) := isi_of rfl kb_tup_bool
theorem kb_tup_tuple : kitB "tuple" "tuple" = some true := by decide +kernel
@[simp] theorem isi_tup_tuple (x : List PyData) : dIsi "tuple" (.tuple x) = some (.bool true) := isi_of rfl kb_tup_tuple
theorem kb_tup_str : kitB "tuple" "str" = some false := by decide +kernel
@[simp] theorem isi_tup_str (x : List PyData) : dIsi "str" (.tuple x) = some (.bool false) := isi_of rfl kb_tup_str
end PD
namespace PD
open PySem L2
/-! the text of the row, by places -/
def topS (i : Nat) : Stmt := PySem.Challenge.pw_pricerows_k14_changed.main.body.getD i (.Pass ⟨0, 0, 0, 0⟩)
abbrev excN : List Str := ["BadList", "BadOffer", "BadPrice", "Full"]
structure GcT (mg : Str → Option Value) : Prop where
  one : True
  MOST_WARES : ∃ t, mg "MOST_WARES" = some (.int 3 t)
  MOST_OFFERS : ∃ t, mg "MOST_OFFERS" = some (.int 6 t)
  MOST_COUNT : ∃ t, mg "MOST_COUNT" = some (.int 5 t)
  MOST_PRICE : ∃ t, mg "MOST_PRICE" = some (.int 99 t)
section
variable {P : Program} {w : World} {K : PySem.W.Frag} {mg : Str → Option Value} {base : Heap}
def g__law_seed : Rw → SR := (gRet (gB dMod (gB dPow (gB dMod (gB dAdd (gB dAdd (gB dMul (gV 0) (gC (.int 1103515245))) (gB dMul (gC (.int 7919)) (gV 1))) (gC (.int 12345))) (gC (.int 2147483647))) (gC (.int 5))) (gC (.int 2147483647))))
abbrev m__law_seed : List PyData → Rs PyData := fnM 2 2 g__law_seed
abbrev s__law_seed : Stmt := topS 22
theorem sc__law_seed : FnScope ["seed", "k"] ["seed", "k"] (defScope s__law_seed) := ⟨rfl, rfl, rfl, by decide +kernel, rfl, by decide +kernel, by decide +kernel⟩
theorem ok__law_seed {f__law_seed : Addr} {fd__law_seed : FuncData} (T__law_seed : DefT K mg "_law_seed" s__law_seed ["seed", "k"] f__law_seed fd__law_seed) (B : BnT mg) (G : GcT mg) : FnOk P w K mg base (L2.CX P w) 1 f__law_seed fd__law_seed ["seed", "k"] (spP K mg 2 m__law_seed) := by
  have sc := sc__law_seed
  refine fn_pure (phn := []) T__law_seed.F sc (fun cdv A outer s H E hr => ?_)
  have tk : Takes (cxOf (L2.CX P w) P w K mg base ["seed", "k"] "_law_seed" (defScope s__law_seed) f__law_seed cdv A outer s H E) (fun c d _ H' => E c d H') := takes_of rfl rfl rfl rfl
  exact (db_one (ds_ret (de_op op_modP (de_op op_powP (de_op op_modP (de_op op_addP (de_op op_addP (de_op op_mulS (de_var 0) de_int) (de_op op_mulS de_int (de_var 1))) de_int) de_int) de_int) de_int)))
def g__law_cell : Rw → SR := (gSeq (gIfS (gTb (gB dLtI (gV 1) (gL dLen (gCons (gV 0) gNil)))) (gRet (gB dIx (gV 0) (gV 1))) SR.nx) (gRet (gC (.int 0))))
abbrev m__law_cell : List PyData → Rs PyData := fnM 2 2 g__law_cell
abbrev s__law_cell : Stmt := topS 21
theorem sc__law_cell : FnScope ["script", "k"] ["script", "k"] (defScope s__law_cell) := ⟨rfl, rfl, rfl, by decide +kernel, rfl, by decide +kernel, by decide +kernel⟩
theorem ok__law_cell {f__law_cell : Addr} {fd__law_cell : FuncData} (T__law_cell : DefT K mg "_law_cell" s__law_cell ["script", "k"] f__law_cell fd__law_cell) (B : BnT mg) (G : GcT mg) : FnOk P w K mg base (L2.CX P w) 1 f__law_cell fd__law_cell ["script", "k"] (spP K mg 2 m__law_cell) := by
  have sc := sc__law_cell
  refine fn_pure (phn := []) T__law_cell.F sc (fun cdv A outer s H E hr => ?_)
  have tk : Takes (cxOf (L2.CX P w) P w K mg base ["script", "k"] "_law_cell" (defScope s__law_cell) f__law_cell cdv A outer s H E) (fun c d _ H' => E c d H') := takes_of rfl rfl rfl rfl
  exact (db_cons (ds_if (dt_cmp op_ltP (de_var 1) (de_callB cl_len B.len_ (by decide +kernel) (da_cons (de_var 0) da_nil))) (db_one (ds_ret (de_ix (de_var 0) (de_var 1)))) db_nil) (db_one (ds_ret de_int)))
def g__law_pick : Rw → SR := (gRet (gB dMod (gB dFdiv (gV 0) (gC (.int 97))) (gV 1)))
abbrev m__law_pick : List PyData → Rs PyData := fnM 2 2 g__law_pick
abbrev s__law_pick : Stmt := topS 23
theorem sc__law_pick : FnScope ["seed", "many"] ["seed", "many"] (defScope s__law_pick) := ⟨rfl, rfl, rfl, by decide +kernel, rfl, by decide +kernel, by decide +kernel⟩
theorem ok__law_pick {f__law_pick : Addr} {fd__law_pick : FuncData} (T__law_pick : DefT K mg "_law_pick" s__law_pick ["seed", "many"] f__law_pick fd__law_pick) (B : BnT mg) (G : GcT mg) : FnOk P w K mg base (L2.CX P w) 1 f__law_pick fd__law_pick ["seed", "many"] (spP K mg 2 m__law_pick) := by
  have sc := sc__law_pick
  refine fn_pure (phn := []) T__law_pick.F sc (fun cdv A outer s H E hr => ?_)
  have tk : Takes (cxOf (L2.CX P w) P w K mg base ["seed", "many"] "_law_pick" (defScope s__law_pick) f__law_pick cdv A outer s H E) (fun c d _ H' => E c d H') := takes_of rfl rfl rfl rfl
  exact (db_one (ds_ret (de_op op_modP (de_op op_fdivP (de_var 0) de_int) (de_var 1))))
def g__law_offer : Rw → SR := (gSeq (gSet 2 (gB dMod (gB dFdiv (gV 0) (gC (.int 7))) (gV 1))) (gSeq (gSet 3 (gB dAdd (gC (.int 1)) (gB dMod (gB dFdiv (gV 0) (gC (.int 11))) (gB dIx (gL lstD (gCons (gC (.int 99)) (gCons (gC (.int 20)) (gCons (gC (.int 9)) gNil)))) (gB dMod (gB dFdiv (gV 0) (gC (.int 13))) (gC (.int 3))))))) (gSeq (gSet 4 (gB dAdd (gC (.int 2)) (gB dMod (gB dFdiv (gV 0) (gC (.int 17))) (gC (.int 4))))) (gSeq (gSet 5 (gLc (gIt rng1 (gV 1)) (tName 8) gYes (gB dMod (gB dFdiv (gF m__law_seed (gCons (gV 0) (gCons (gV 8) gNil))) (gC (.int 7))) (gB dIx (gL lstD (gCons (gC (.int 6)) (gCons (gC (.int 3)) (gCons (gC (.int 2)) gNil)))) (gB dMod (gB dFdiv (gV 0) (gC (.int 19))) (gC (.int 3))))))) (gSeq (gPutL 5 (gV 2) (gL dMax2 (gCons (gC (.int 1)) (gCons (gB dIx (gV 5) (gV 2)) gNil)))) (gSeq (gSet 6 (gF m__law_pick (gCons (gV 0) (gCons (gC (.int 7)) gNil)))) (gSeq (gIfS (gTb (gB dLtI (gV 6) (gC (.int 3)))) (gRet (gL tupD (gCons (gC (.str "joined")) (gCons (gL dTuple (gCons (gV 5) gNil)) (gCons (gV 3) gNil))))) SR.nx) (gSeq (gSet 7 (gL tupD (gCons (gC (.str "each")) (gCons (gV 2) (gCons (gV 3) gNil))))) (gRet (gB dIx (gL lstD (gCons (gV 7) (gCons (gV 7) (gCons (gL tupD (gCons (gC (.str "pack")) (gCons (gV 2) (gCons (gV 4) (gCons (gV 3) gNil))))) (gCons (gL tupD (gCons (gC (.str "tier")) (gCons (gV 2) (gCons (gV 4) (gCons (gV 3) gNil))))) gNil))))) (gB dSub (gV 6) (gC (.int 3)))))))))))))
abbrev m__law_offer : List PyData → Rs PyData := fnM 2 9 g__law_offer
abbrev s__law_offer : Stmt := topS 24
theorem sc__law_offer : FnScope ["seed", "wares", "ware", "price", "many", "counts", "pick", "single", "k"] ["seed", "wares"] (defScope s__law_offer) := ⟨rfl, rfl, rfl, by decide +kernel, rfl, by decide +kernel, by decide +kernel⟩
theorem ok__law_offer {f__law_offer : Addr} {fd__law_offer : FuncData} (T__law_offer : DefT K mg "_law_offer" s__law_offer ["seed", "wares"] f__law_offer fd__law_offer) {f__law_seed : Addr} {fd__law_seed : FuncData} (T__law_seed : DefT K mg "_law_seed" s__law_seed ["seed", "k"] f__law_seed fd__law_seed) (O__law_seed : FnOk P w K mg base (L2.CX P w) 1 f__law_seed fd__law_seed ["seed", "k"] (spP K mg 2 m__law_seed)) {f__law_pick : Addr} {fd__law_pick : FuncData} (T__law_pick : DefT K mg "_law_pick" s__law_pick ["seed", "many"] f__law_pick fd__law_pick) (O__law_pick : FnOk P w K mg base (L2.CX P w) 1 f__law_pick fd__law_pick ["seed", "many"] (spP K mg 2 m__law_pick)) (B : BnT mg) (G : GcT mg) : FnOk P w K mg base (L2.CX P w) 2 f__law_offer fd__law_offer ["seed", "wares"] (spP K mg 2 m__law_offer) := by
  have sc := sc__law_offer
  refine fn_pure (phn := []) T__law_offer.F sc (fun cdv A outer s H E hr => ?_)
  have tk : Takes (cxOf (L2.CX P w) P w K mg base ["seed", "wares", "ware", "price", "many", "counts", "pick", "single", "k"] "_law_offer" (defScope s__law_offer) f__law_offer cdv A outer s H E) (fun c d _ H' => E c d H') := takes_of rfl rfl rfl rfl
  exact (db_cons (ds_set 2 (de_op op_modP (de_op op_fdivP (de_var 0) de_int) (de_var 1)) sc.nd) (db_cons (ds_set 3 (de_op op_addP de_int (de_op op_modP (de_op op_fdivP (de_var 0) de_int) (de_ix (de_of (do_lst (da_cons de_int (da_cons de_int (da_cons de_int da_nil))))) (de_op op_modP (de_op op_fdivP (de_var 0) de_int) de_int)))) sc.nd) (db_cons (ds_set 4 (de_op op_addP de_int (de_op op_modP (de_op op_fdivP (de_var 0) de_int) de_int)) sc.nd) (db_cons (ds_setLcO 5 (own := [("k", 8)]) rfl sc.nd rfl (sw_true rfl rfl rfl (by kernel_rfl)) (dih_of (di_range1 (de_var 1) B.range_)) (blkOk_by (by kernel_rfl)) (fun _ _ _ _ _ => (dg_name 8 sc.nd)) (fun _ _ _ _ _ => dts_nil) (fun _ _ _ _ _ => (de_op op_modP (de_op op_fdivP (de_fn O__law_seed (hr.mono (by decide)) T__law_seed.g T__law_seed.F.kp T__law_seed.b (fnM_len _ _ _) takes0 (da_cons (de_var 0) (da_cons (de_var 8) da_nil))) de_int) (de_ix (de_of (do_lst (da_cons de_int (da_cons de_int (da_cons de_int da_nil))))) (de_op op_modP (de_op op_fdivP (de_var 0) de_int) de_int)))) (by decide)) (db_cons (ds_putL 5 (de_var 2) (de_callB (cl_max2 rfl) B.max_ (by decide +kernel) (da_cons de_int (da_cons (de_ixO 5 (de_var 2)) da_nil)))) (db_cons (ds_set 6 (de_fn O__law_pick (hr.mono (by decide)) T__law_pick.g T__law_pick.F.kp T__law_pick.b (fnM_len _ _ _) tk (da_cons (de_var 0) (da_cons de_int da_nil))) sc.nd) (db_cons (ds_if (dt_cmp op_ltP (de_var 6) de_int) (db_one (ds_pre (ph1 := [.im, .im, .im, .im, .im, .im, .im, .dead, .dead]) (ds_ret (de_tup (da_cons de_str (da_cons (de_callTy cl_tuple B.tuple_ (by decide +kernel) (da_cons (de_var 5) da_nil)) (da_cons (de_var 3) da_nil))))) rfl)) db_nil) (db_cons (ds_set 7 (de_tup (da_cons de_str (da_cons (de_var 2) (da_cons (de_var 3) da_nil)))) sc.nd) (db_one (ds_ret (de_ix (de_of (do_lst (da_cons (de_var 7) (da_cons (de_var 7) (da_cons (de_tup (da_cons de_str (da_cons (de_var 2) (da_cons (de_var 4) (da_cons (de_var 3) da_nil))))) (da_cons (de_tup (da_cons de_str (da_cons (de_var 2) (da_cons (de_var 4) (da_cons (de_var 3) da_nil))))) da_nil)))))) (de_op op_subP (de_var 6) de_int))))))))))))
def g__law_list : Rw → SR := (gSeq (gSet 2 (gF m__law_seed (gCons (gF m__law_cell (gCons (gV 0) (gCons (gV 1) gNil))) (gCons (gC (.int 0)) gNil)))) (gSeq (gSet 3 (gB dAdd (gC (.int 1)) (gB dMod (gB dFdiv (gV 2) (gC (.int 5))) (gC (.int 3))))) (gSeq (gSet 4 (gL lstD gNil)) (gSeq (gFor [.im, .im, .dead, .im, .ow, .dead] (gIt rng1 (gB dIx (gL lstD (gCons (gC (.int 6)) (gCons (gB dMod (gB dFdiv (gV 2) (gC (.int 7))) (gC (.int 7))) (gCons (gB dAdd (gC (.int 2)) (gB dMod (gB dFdiv (gV 2) (gC (.int 7))) (gC (.int 3)))) gNil)))) (gB dMod (gB dFdiv (gV 2) (gC (.int 11))) (gC (.int 3))))) (tName 5) (gApp 4 (gF m__law_offer (gCons (gF m__law_seed (gCons (gB dAdd (gF m__law_cell (gCons (gV 0) (gCons (gB dAdd (gB dAdd (gV 1) (gC (.int 1))) (gB dMod (gV 5) (gC (.int 3)))) gNil))) (gB dMul (gC (.int 41)) (gV 5))) (gCons (gV 5) gNil))) (gCons (gV 3) gNil))))) (gRet (gL tupD (gCons (gV 3) (gCons (gL dTuple (gCons (gV 4) gNil)) gNil))))))))
abbrev m__law_list : List PyData → Rs PyData := fnM 2 6 g__law_list
abbrev s__law_list : Stmt := topS 25
theorem sc__law_list : FnScope ["script", "at", "first", "wares", "found", "k"] ["script", "at"] (defScope s__law_list) := ⟨rfl, rfl, rfl, by decide +kernel, rfl, by decide +kernel, by decide +kernel⟩
theorem ok__law_list {f__law_list : Addr} {fd__law_list : FuncData} (T__law_list : DefT K mg "_law_list" s__law_list ["script", "at"] f__law_list fd__law_list) {f__law_seed : Addr} {fd__law_seed : FuncData} (T__law_seed : DefT K mg "_law_seed" s__law_seed ["seed", "k"] f__law_seed fd__law_seed) (O__law_seed : FnOk P w K mg base (L2.CX P w) 1 f__law_seed fd__law_seed ["seed", "k"] (spP K mg 2 m__law_seed)) {f__law_cell : Addr} {fd__law_cell : FuncData} (T__law_cell : DefT K mg "_law_cell" s__law_cell ["script", "k"] f__law_cell fd__law_cell) (O__law_cell : FnOk P w K mg base (L2.CX P w) 1 f__law_cell fd__law_cell ["script", "k"] (spP K mg 2 m__law_cell)) {f__law_offer : Addr} {fd__law_offer : FuncData} (T__law_offer : DefT K mg "_law_offer" s__law_offer ["seed", "wares"] f__law_offer fd__law_offer) (O__law_offer : FnOk P w K mg base (L2.CX P w) 2 f__law_offer fd__law_offer ["seed", "wares"] (spP K mg 2 m__law_offer)) (B : BnT mg) (G : GcT mg) : FnOk P w K mg base (L2.CX P w) 3 f__law_list fd__law_list ["script", "at"] (spP K mg 2 m__law_list) := by
  have sc := sc__law_list
  refine fn_pure (phn := []) T__law_list.F sc (fun cdv A outer s H E hr => ?_)
  have tk : Takes (cxOf (L2.CX P w) P w K mg base ["script", "at", "first", "wares", "found", "k"] "_law_list" (defScope s__law_list) f__law_list cdv A outer s H E) (fun c d _ H' => E c d H') := takes_of rfl rfl rfl rfl
  exact (db_cons (ds_set 2 (de_fn O__law_seed (hr.mono (by decide)) T__law_seed.g T__law_seed.F.kp T__law_seed.b (fnM_len _ _ _) tk (da_cons (de_fn O__law_cell (hr.mono (by decide)) T__law_cell.g T__law_cell.F.kp T__law_cell.b (fnM_len _ _ _) tk (da_cons (de_var 0) (da_cons (de_var 1) da_nil))) (da_cons de_int da_nil))) sc.nd) (db_cons (ds_set 3 (de_op op_addP de_int (de_op op_modP (de_op op_fdivP (de_var 2) de_int) de_int)) sc.nd) (db_cons (ds_setO 4 (do_lst da_nil) sc.nd) (db_cons (ds_for (phn := [.im, .im, .dead, .im, .ow, .dead]) (passes_of rfl) rfl (di_range1 (de_ix (de_of (do_lst (da_cons de_int (da_cons (de_op op_modP (de_op op_fdivP (de_var 2) de_int) de_int) (da_cons (de_op op_addP de_int (de_op op_modP (de_op op_fdivP (de_var 2) de_int) de_int)) da_nil))))) (de_op op_modP (de_op op_fdivP (de_var 2) de_int) de_int)) B.range_) (dg_name 5 sc.nd) (db_post (db_one (ds_append 4 (de_fn O__law_offer (hr.mono (by decide)) T__law_offer.g T__law_offer.F.kp T__law_offer.b (fnM_len _ _ _) tk (da_cons (de_fn O__law_seed (hr.mono (by decide)) T__law_seed.g T__law_seed.F.kp T__law_seed.b (fnM_len _ _ _) tk (da_cons (de_op op_addP (de_fn O__law_cell (hr.mono (by decide)) T__law_cell.g T__law_cell.F.kp T__law_cell.b (fnM_len _ _ _) tk (da_cons (de_var 0) (da_cons (de_op op_addP (de_op op_addP (de_var 1) de_int) (de_op op_modP (de_var 5) de_int)) da_nil))) (de_op op_mulS de_int (de_var 5))) (da_cons (de_var 5) da_nil))) (da_cons (de_var 3) da_nil))))) (ph2 := [.im, .im, .dead, .im, .ow, .dead]) rfl)) (db_one (ds_pre (ph1 := [.im, .im, .dead, .im, .im, .dead]) (ds_ret (de_tup (da_cons (de_var 3) (da_cons (de_callTy cl_tuple B.tuple_ (by decide +kernel) (da_cons (de_var 4) da_nil)) da_nil)))) rfl))))))
def g__law_in : Rw → SR := (gRet (gAndV (gU (dIsi "int") (gV 0)) (gAndV (gNotV (gU (dIsi "bool") (gV 0))) (gChain dLeI dLeI (gV 1) (gV 0) (gV 2)))))
abbrev m__law_in : List PyData → Rs PyData := fnM 3 3 g__law_in
abbrev s__law_in : Stmt := topS 26
theorem sc__law_in : FnScope ["thing", "low", "high"] ["thing", "low", "high"] (defScope s__law_in) := ⟨rfl, rfl, rfl, by decide +kernel, rfl, by decide +kernel, by decide +kernel⟩
theorem ok__law_in {f__law_in : Addr} {fd__law_in : FuncData} (T__law_in : DefT K mg "_law_in" s__law_in ["thing", "low", "high"] f__law_in fd__law_in) (B : BnT mg) (G : GcT mg) : FnOk P w K mg base (L2.CX P w) 1 f__law_in fd__law_in ["thing", "low", "high"] (spP K mg 3 m__law_in) := by
  have sc := sc__law_in
  refine fn_pure (phn := []) T__law_in.F sc (fun cdv A outer s H E hr => ?_)
  have tk : Takes (cxOf (L2.CX P w) P w K mg base ["thing", "low", "high"] "_law_in" (defScope s__law_in) f__law_in cdv A outer s H E) (fun c d _ H' => E c d H') := takes_of rfl rfl rfl rfl
  exact (db_one (ds_ret (de_and (de_isi (de_var 0) B.isinstance_ B.int_ (by decide +kernel)) (de_and (de_not (de_isi (de_var 0) B.isinstance_ B.bool_ (by decide +kernel))) (de_one (de_chain op_leP op_leP (de_var 1) (de_var 0) (de_var 2)))))))
def g_is_within : Rw → SR := (gRet (gAndV (gU (dIsi "int") (gV 0)) (gAndV (gNotV (gU (dIsi "bool") (gV 0))) (gChain dLeI dLeI (gV 1) (gV 0) (gV 2)))))
abbrev m_is_within : List PyData → Rs PyData := fnM 3 3 g_is_within
abbrev s_is_within : Stmt := topS 11
theorem sc_is_within : FnScope ["thing", "low", "high"] ["thing", "low", "high"] (defScope s_is_within) := ⟨rfl, rfl, rfl, by decide +kernel, rfl, by decide +kernel, by decide +kernel⟩
theorem ok_is_within {f_is_within : Addr} {fd_is_within : FuncData} (T_is_within : DefT K mg "is_within" s_is_within ["thing", "low", "high"] f_is_within fd_is_within) (B : BnT mg) (G : GcT mg) : FnOk P w K mg base (L2.CX P w) 1 f_is_within fd_is_within ["thing", "low", "high"] (spP K mg 3 m_is_within) := by
  have sc := sc_is_within
  refine fn_pure (phn := []) T_is_within.F sc (fun cdv A outer s H E hr => ?_)
  have tk : Takes (cxOf (L2.CX P w) P w K mg base ["thing", "low", "high"] "is_within" (defScope s_is_within) f_is_within cdv A outer s H E) (fun c d _ H' => E c d H') := takes_of rfl rfl rfl rfl
  exact (db_one (ds_ret (de_and (de_isi (de_var 0) B.isinstance_ B.int_ (by decide +kernel)) (de_and (de_not (de_isi (de_var 0) B.isinstance_ B.bool_ (by decide +kernel))) (de_one (de_chain op_leP op_leP (de_var 1) (de_var 0) (de_var 2)))))))
def g_is_offer : Rw → SR := (gSeq (gIfS (gOrT (gNotT (gTr (gU (dIsi "tuple") (gV 1)))) (gOrT (gNotT (gTr (gV 1))) (gNotT (gTr (gU (dIsi "str") (gB dIx (gV 1) (gC (.int 0)))))))) (gRet (gC (.bool false))) SR.nx) (gSeq (gIfS (gTb (gB dEq (gB dIx (gV 1) (gC (.int 0))) (gC (.str "joined")))) (gSeq (gIfS (gOrT (gTb (gB dNe (gL dLen (gCons (gV 1) gNil)) (gC (.int 3)))) (gOrT (gNotT (gTr (gU (dIsi "tuple") (gB dIx (gV 1) (gC (.int 1)))))) (gTb (gB dNe (gL dLen (gCons (gB dIx (gV 1) (gC (.int 1))) gNil)) (gV 0))))) (gRet (gC (.bool false))) SR.nx) (gSeq (gIfS (gOrT (gTr (gLc (gIt seqD (gB dIx (gV 1) (gC (.int 1)))) (tName 2) (gNotT (gTr (gF m_is_within (gCons (gV 2) (gCons (gC (.int 0)) (gCons (gC (.int 5)) gNil)))))) (gV 2))) (gTb (gB dEq (gL dSum (gCons (gB dIx (gV 1) (gC (.int 1))) gNil)) (gC (.int 0))))) (gRet (gC (.bool false))) SR.nx) (gRet (gF m_is_within (gCons (gB dIx (gV 1) (gC (.int 2))) (gCons (gC (.int 1)) (gCons (gC (.int 99)) gNil))))))) SR.nx) (gSeq (gIfS (gOrT (gTb (gB dNe (gL dLen (gCons (gV 1) gNil)) (gB (disp3 "each" 3 "pack" 4 "tier" 4) (gB dIx (gV 1) (gC (.int 0))) (gC (.int 0))))) (gNotT (gTr (gF m_is_within (gCons (gB dIx (gV 1) (gC (.int 1))) (gCons (gC (.int 0)) (gCons (gB dSub (gV 0) (gC (.int 1))) gNil))))))) (gRet (gC (.bool false))) SR.nx) (gSeq (gIfS (gAndT (gTb (gB dNe (gB dIx (gV 1) (gC (.int 0))) (gC (.str "each")))) (gNotT (gTr (gF m_is_within (gCons (gB dIx (gV 1) (gC (.int 2))) (gCons (gC (.int 2)) (gCons (gC (.int 5)) gNil))))))) (gRet (gC (.bool false))) SR.nx) (gRet (gF m_is_within (gCons (gB dIx (gV 1) (gU dNeg (gC (.int 1)))) (gCons (gC (.int 1)) (gCons (gC (.int 99)) gNil)))))))))
abbrev m_is_offer : List PyData → Rs PyData := fnM 2 3 g_is_offer
abbrev s_is_offer : Stmt := topS 12
theorem sc_is_offer : FnScope ["wares", "thing", "one"] ["wares", "thing"] (defScope s_is_offer) := ⟨rfl, rfl, rfl, by decide +kernel, rfl, by decide +kernel, by decide +kernel⟩
theorem ok_is_offer {f_is_offer : Addr} {fd_is_offer : FuncData} (T_is_offer : DefT K mg "is_offer" s_is_offer ["wares", "thing"] f_is_offer fd_is_offer) {f_is_within : Addr} {fd_is_within : FuncData} (T_is_within : DefT K mg "is_within" s_is_within ["thing", "low", "high"] f_is_within fd_is_within) (O_is_within : FnOk P w K mg base (L2.CX P w) 1 f_is_within fd_is_within ["thing", "low", "high"] (spP K mg 3 m_is_within)) (B : BnT mg) (G : GcT mg) : FnOk P w K mg base (L2.CX P w) 2 f_is_offer fd_is_offer ["wares", "thing"] (spP K mg 2 m_is_offer) := by
  have sc := sc_is_offer
  refine fn_pure (phn := []) T_is_offer.F sc (fun cdv A outer s H E hr => ?_)
  have tk : Takes (cxOf (L2.CX P w) P w K mg base ["wares", "thing", "one"] "is_offer" (defScope s_is_offer) f_is_offer cdv A outer s H E) (fun c d _ H' => E c d H') := takes_of rfl rfl rfl rfl
  exact (db_cons (ds_if (dt_w (dw_or (dt_not (dt_truth (de_isi (de_var 1) B.isinstance_ B.tuple_ (by decide +kernel)))) (dw_or (dt_not (dt_truth (de_var 1))) (dw_or1 (dt_not (dt_truth (de_isi (de_ix (de_var 1) de_int) B.isinstance_ B.str_ (by decide +kernel)))))))) (db_one (ds_ret de_bl)) db_nil) (db_cons (ds_if (dt_cmp (op_eqP hr.units) (de_ix (de_var 1) de_int) de_str) (db_cons (ds_if (dt_w (dw_or (dt_cmp (op_neP hr.units) (de_callB cl_len B.len_ (by decide +kernel) (da_cons (de_var 1) da_nil)) de_int) (dw_or (dt_not (dt_truth (de_isi (de_ix (de_var 1) de_int) B.isinstance_ B.tuple_ (by decide +kernel)))) (dw_or1 (dt_cmp (op_neP hr.units) (de_callB cl_len B.len_ (by decide +kernel) (da_cons (de_ix (de_var 1) de_int) da_nil)) (de_var 0)))))) (db_one (ds_ret de_bl)) db_nil) (db_cons (ds_if (dt_w (dw_or (dt_truth (de_of (do_lc (own := [("one", 2)]) rfl sc.nd (dih_of (di_seq (de_ix (de_var 1) de_int))) (blkOk_by (by kernel_rfl)) (fun _ _ _ _ _ => (dg_name 2 sc.nd)) (fun _ _ _ _ _ => (dts_one (dt_not (dt_truth (de_fn O_is_within (hr.mono (by decide)) T_is_within.g T_is_within.F.kp T_is_within.b (fnM_len _ _ _) takes0 (da_cons (de_var 2) (da_cons de_int (da_cons (de_globE G.MOST_COUNT) da_nil)))))))) (fun _ _ _ _ _ => (de_var 2)) (by decide)))) (dw_or1 (dt_cmp (op_eqP hr.units) (de_callB (cl_sum rfl) B.sum_ (by decide +kernel) (da_cons (de_ix (de_var 1) de_int) da_nil)) de_int)))) (db_one (ds_ret de_bl)) db_nil) (db_one (ds_ret (de_fn O_is_within (hr.mono (by decide)) T_is_within.g T_is_within.F.kp T_is_within.b (fnM_len _ _ _) tk (da_cons (de_ix (de_var 1) de_int) (da_cons de_int (da_cons (de_globE G.MOST_PRICE) da_nil)))))))) db_nil) (db_cons (ds_if (dt_w (dw_or (dt_cmp (op_neP hr.units) (de_callB cl_len B.len_ (by decide +kernel) (da_cons (de_var 1) da_nil)) (de_disp3 (hu_of hr) (de_ix (de_var 1) de_int) de_int)) (dw_or1 (dt_not (dt_truth (de_fn O_is_within (hr.mono (by decide)) T_is_within.g T_is_within.F.kp T_is_within.b (fnM_len _ _ _) tk (da_cons (de_ix (de_var 1) de_int) (da_cons de_int (da_cons (de_op op_subP (de_var 0) de_int) da_nil))))))))) (db_one (ds_ret de_bl)) db_nil) (db_cons (ds_if (dt_w (dw_and (dt_cmp (op_neP hr.units) (de_ix (de_var 1) de_int) de_str) (dw_and1 (dt_not (dt_truth (de_fn O_is_within (hr.mono (by decide)) T_is_within.g T_is_within.F.kp T_is_within.b (fnM_len _ _ _) tk (da_cons (de_ix (de_var 1) de_int) (da_cons de_int (da_cons (de_globE G.MOST_COUNT) da_nil))))))))) (db_one (ds_ret de_bl)) db_nil) (db_one (ds_ret (de_fn O_is_within (hr.mono (by decide)) T_is_within.g T_is_within.F.kp T_is_within.b (fnM_len _ _ _) tk (da_cons (de_ix (de_var 1) (de_un un_negP de_int)) (da_cons de_int (da_cons (de_globE G.MOST_PRICE) da_nil))))))))))
def g_is_list : Rw → SR := (gSeq (gIfS (gOrT (gNotT (gTr (gU (dIsi "tuple") (gV 0)))) (gOrT (gTb (gB dNe (gL dLen (gCons (gV 0) gNil)) (gC (.int 2)))) (gNotT (gTr (gF m_is_within (gCons (gB dIx (gV 0) (gC (.int 0))) (gCons (gC (.int 1)) (gCons (gC (.int 3)) gNil)))))))) (gRet (gC (.bool false))) SR.nx) (gSeq (gIfS (gOrT (gNotT (gTr (gU (dIsi "tuple") (gB dIx (gV 0) (gC (.int 1)))))) (gTb (gB dGtI (gL dLen (gCons (gB dIx (gV 0) (gC (.int 1))) gNil)) (gC (.int 6))))) (gRet (gC (.bool false))) SR.nx) (gRet (gNotV (gLc (gIt seqD (gB dIx (gV 0) (gC (.int 1)))) (tName 1) (gNotT (gTr (gF m_is_offer (gCons (gB dIx (gV 0) (gC (.int 0))) (gCons (gV 1) gNil))))) (gV 1))))))
abbrev m_is_list : List PyData → Rs PyData := fnM 1 2 g_is_list
abbrev s_is_list : Stmt := topS 13
theorem sc_is_list : FnScope ["thing", "one"] ["thing"] (defScope s_is_list) := ⟨rfl, rfl, rfl, by decide +kernel, rfl, by decide +kernel, by decide +kernel⟩
theorem ok_is_list {f_is_list : Addr} {fd_is_list : FuncData} (T_is_list : DefT K mg "is_list" s_is_list ["thing"] f_is_list fd_is_list) {f_is_within : Addr} {fd_is_within : FuncData} (T_is_within : DefT K mg "is_within" s_is_within ["thing", "low", "high"] f_is_within fd_is_within) (O_is_within : FnOk P w K mg base (L2.CX P w) 1 f_is_within fd_is_within ["thing", "low", "high"] (spP K mg 3 m_is_within)) {f_is_offer : Addr} {fd_is_offer : FuncData} (T_is_offer : DefT K mg "is_offer" s_is_offer ["wares", "thing"] f_is_offer fd_is_offer) (O_is_offer : FnOk P w K mg base (L2.CX P w) 2 f_is_offer fd_is_offer ["wares", "thing"] (spP K mg 2 m_is_offer)) (B : BnT mg) (G : GcT mg) : FnOk P w K mg base (L2.CX P w) 3 f_is_list fd_is_list ["thing"] (spP K mg 1 m_is_list) := by
  have sc := sc_is_list
  refine fn_pure (phn := []) T_is_list.F sc (fun cdv A outer s H E hr => ?_)
  have tk : Takes (cxOf (L2.CX P w) P w K mg base ["thing", "one"] "is_list" (defScope s_is_list) f_is_list cdv A outer s H E) (fun c d _ H' => E c d H') := takes_of rfl rfl rfl rfl
  exact (db_cons (ds_if (dt_w (dw_or (dt_not (dt_truth (de_isi (de_var 0) B.isinstance_ B.tuple_ (by decide +kernel)))) (dw_or (dt_cmp (op_neP hr.units) (de_callB cl_len B.len_ (by decide +kernel) (da_cons (de_var 0) da_nil)) de_int) (dw_or1 (dt_not (dt_truth (de_fn O_is_within (hr.mono (by decide)) T_is_within.g T_is_within.F.kp T_is_within.b (fnM_len _ _ _) tk (da_cons (de_ix (de_var 0) de_int) (da_cons de_int (da_cons (de_globE G.MOST_WARES) da_nil)))))))))) (db_one (ds_ret de_bl)) db_nil) (db_cons (ds_if (dt_w (dw_or (dt_not (dt_truth (de_isi (de_ix (de_var 0) de_int) B.isinstance_ B.tuple_ (by decide +kernel)))) (dw_or1 (dt_cmp op_gtP (de_callB cl_len B.len_ (by decide +kernel) (da_cons (de_ix (de_var 0) de_int) da_nil)) (de_globE G.MOST_OFFERS))))) (db_one (ds_ret de_bl)) db_nil) (db_one (ds_ret (de_not (de_of (do_lc (own := [("one", 1)]) rfl sc.nd (dih_of (di_seq (de_ix (de_var 0) de_int))) (blkOk_by (by kernel_rfl)) (fun _ _ _ _ _ => (dg_name 1 sc.nd)) (fun _ _ _ _ _ => (dts_one (dt_not (dt_truth (de_fn O_is_offer (hr.mono (by decide)) T_is_offer.g T_is_offer.F.kp T_is_offer.b (fnM_len _ _ _) takes0 (da_cons (de_ix (de_var 0) de_int) (da_cons (de_var 1) da_nil))))))) (fun _ _ _ _ _ => (de_var 1)) (by decide))))))))
def g_look : Rw → SR := (gIfS (gNotT (gTr (gF m_is_list (gCons (gV 0) gNil)))) (gRaise "BadList") SR.nx)
abbrev m_look : List PyData → Rs PyData := fnM 1 1 g_look
abbrev s_look : Stmt := topS 14
theorem sc_look : FnScope ["thing"] ["thing"] (defScope s_look) := ⟨rfl, rfl, rfl, by decide +kernel, rfl, by decide +kernel, by decide +kernel⟩
theorem ok_look {f_look : Addr} {fd_look : FuncData} (T_look : DefT K mg "look" s_look ["thing"] f_look fd_look) {f_is_list : Addr} {fd_is_list : FuncData} (T_is_list : DefT K mg "is_list" s_is_list ["thing"] f_is_list fd_is_list) (O_is_list : FnOk P w K mg base (L2.CX P w) 3 f_is_list fd_is_list ["thing"] (spP K mg 1 m_is_list)) {a_BadList : Addr} (X_BadList : ExcT K mg "BadList" a_BadList) (B : BnT mg) (G : GcT mg) : FnOk P w K mg base (L2.CX P w) 4 f_look fd_look ["thing"] (spP K mg 1 m_look) := by
  have sc := sc_look
  refine fn_pure (phn := []) T_look.F sc (fun cdv A outer s H E hr => ?_)
  have tk : Takes (cxOf (L2.CX P w) P w K mg base ["thing"] "look" (defScope s_look) f_look cdv A outer s H E) (fun c d _ H' => E c d H') := takes_of rfl rfl rfl rfl
  exact (db_one (ds_if (dt_not (dt_truth (de_fn O_is_list (hr.mono (by decide)) T_is_list.g T_is_list.F.kp T_is_list.b (fnM_len _ _ _) tk (da_cons (de_var 0) da_nil)))) (db_one (ds_raise rfl tk X_BadList)) (db_post db_nil (ph2 := []) rfl)))
def g_with_offer : Rw → SR := (gSeq (gDrop (gF m_look (gCons (gV 0) gNil))) (gSeq (gIfS (gNotT (gTr (gF m_is_offer (gCons (gB dIx (gV 0) (gC (.int 0))) (gCons (gV 1) gNil))))) (gRaise "BadOffer") SR.nx) (gSeq (gIfS (gTb (gB dEq (gL dLen (gCons (gB dIx (gV 0) (gC (.int 1))) gNil)) (gC (.int 6)))) (gRaise "Full") SR.nx) (gRet (gL tupD (gCons (gB dIx (gV 0) (gC (.int 0))) (gCons (gB dAdd (gB dIx (gV 0) (gC (.int 1))) (gL tupD (gCons (gV 1) gNil))) gNil)))))))
abbrev m_with_offer : List PyData → Rs PyData := fnM 2 2 g_with_offer
abbrev s_with_offer : Stmt := topS 17
theorem sc_with_offer : FnScope ["prices", "offer"] ["prices", "offer"] (defScope s_with_offer) := ⟨rfl, rfl, rfl, by decide +kernel, rfl, by decide +kernel, by decide +kernel⟩
theorem ok_with_offer {f_with_offer : Addr} {fd_with_offer : FuncData} (T_with_offer : DefT K mg "with_offer" s_with_offer ["prices", "offer"] f_with_offer fd_with_offer) {f_look : Addr} {fd_look : FuncData} (T_look : DefT K mg "look" s_look ["thing"] f_look fd_look) (O_look : FnOk P w K mg base (L2.CX P w) 4 f_look fd_look ["thing"] (spP K mg 1 m_look)) {f_is_offer : Addr} {fd_is_offer : FuncData} (T_is_offer : DefT K mg "is_offer" s_is_offer ["wares", "thing"] f_is_offer fd_is_offer) (O_is_offer : FnOk P w K mg base (L2.CX P w) 2 f_is_offer fd_is_offer ["wares", "thing"] (spP K mg 2 m_is_offer)) {a_BadOffer : Addr} (X_BadOffer : ExcT K mg "BadOffer" a_BadOffer) {a_Full : Addr} (X_Full : ExcT K mg "Full" a_Full) (B : BnT mg) (G : GcT mg) : FnOk P w K mg base (L2.CX P w) 5 f_with_offer fd_with_offer ["prices", "offer"] (spP K mg 2 m_with_offer) := by
  have sc := sc_with_offer
  refine fn_pure (phn := []) T_with_offer.F sc (fun cdv A outer s H E hr => ?_)
  have tk : Takes (cxOf (L2.CX P w) P w K mg base ["prices", "offer"] "with_offer" (defScope s_with_offer) f_with_offer cdv A outer s H E) (fun c d _ H' => E c d H') := takes_of rfl rfl rfl rfl
  exact (db_cons (ds_expr (de_fn O_look (hr.mono (by decide)) T_look.g T_look.F.kp T_look.b (fnM_len _ _ _) tk (da_cons (de_var 0) da_nil))) (db_cons (ds_if (dt_not (dt_truth (de_fn O_is_offer (hr.mono (by decide)) T_is_offer.g T_is_offer.F.kp T_is_offer.b (fnM_len _ _ _) tk (da_cons (de_ix (de_var 0) de_int) (da_cons (de_var 1) da_nil))))) (db_one (ds_raise rfl tk X_BadOffer)) db_nil) (db_cons (ds_if (dt_cmp (op_eqP hr.units) (de_callB cl_len B.len_ (by decide +kernel) (da_cons (de_ix (de_var 0) de_int) da_nil)) (de_globE G.MOST_OFFERS)) (db_one (ds_raise rfl tk X_Full)) db_nil) (db_one (ds_ret (de_tup (da_cons (de_ix (de_var 0) de_int) (da_cons (de_op op_addP (de_ix (de_var 0) de_int) (de_tup (da_cons (de_var 1) da_nil))) da_nil))))))))
def g_look_place : Rw → SR := (gIfS (gNotT (gTr (gF m_is_within (gCons (gV 1) (gCons (gC (.int 0)) (gCons (gB dSub (gL dLen (gCons (gB dIx (gV 0) (gC (.int 1))) gNil)) (gC (.int 1))) gNil)))))) (gRaise "BadOffer") SR.nx)
abbrev m_look_place : List PyData → Rs PyData := fnM 2 2 g_look_place
abbrev s_look_place : Stmt := topS 16
theorem sc_look_place : FnScope ["prices", "place"] ["prices", "place"] (defScope s_look_place) := ⟨rfl, rfl, rfl, by decide +kernel, rfl, by decide +kernel, by decide +kernel⟩
theorem ok_look_place {f_look_place : Addr} {fd_look_place : FuncData} (T_look_place : DefT K mg "look_place" s_look_place ["prices", "place"] f_look_place fd_look_place) {f_is_within : Addr} {fd_is_within : FuncData} (T_is_within : DefT K mg "is_within" s_is_within ["thing", "low", "high"] f_is_within fd_is_within) (O_is_within : FnOk P w K mg base (L2.CX P w) 1 f_is_within fd_is_within ["thing", "low", "high"] (spP K mg 3 m_is_within)) {a_BadOffer : Addr} (X_BadOffer : ExcT K mg "BadOffer" a_BadOffer) (B : BnT mg) (G : GcT mg) : FnOk P w K mg base (L2.CX P w) 2 f_look_place fd_look_place ["prices", "place"] (spP K mg 2 m_look_place) := by
  have sc := sc_look_place
  refine fn_pure (phn := []) T_look_place.F sc (fun cdv A outer s H E hr => ?_)
  have tk : Takes (cxOf (L2.CX P w) P w K mg base ["prices", "place"] "look_place" (defScope s_look_place) f_look_place cdv A outer s H E) (fun c d _ H' => E c d H') := takes_of rfl rfl rfl rfl
  exact (db_one (ds_if (dt_not (dt_truth (de_fn O_is_within (hr.mono (by decide)) T_is_within.g T_is_within.F.kp T_is_within.b (fnM_len _ _ _) tk (da_cons (de_var 1) (da_cons de_int (da_cons (de_op op_subP (de_callB cl_len B.len_ (by decide +kernel) (da_cons (de_ix (de_var 0) de_int) da_nil)) de_int) da_nil)))))) (db_one (ds_raise rfl tk X_BadOffer)) (db_post db_nil (ph2 := []) rfl)))
def g_struck : Rw → SR := (gSeq (gDrop (gF m_look (gCons (gV 0) gNil))) (gSeq (gDrop (gF m_look_place (gCons (gV 0) (gCons (gV 1) gNil)))) (gRet (gL tupD (gCons (gB dIx (gV 0) (gC (.int 0))) (gCons (gB dAdd (gSl (gB dIx (gV 0) (gC (.int 1))) gPn (gPs (gV 1))) (gSl (gB dIx (gV 0) (gC (.int 1))) (gPs (gB dAdd (gV 1) (gC (.int 1)))) gPn)) gNil))))))
abbrev m_struck : List PyData → Rs PyData := fnM 2 2 g_struck
abbrev s_struck : Stmt := topS 18
theorem sc_struck : FnScope ["prices", "place"] ["prices", "place"] (defScope s_struck) := ⟨rfl, rfl, rfl, by decide +kernel, rfl, by decide +kernel, by decide +kernel⟩
theorem ok_struck {f_struck : Addr} {fd_struck : FuncData} (T_struck : DefT K mg "struck" s_struck ["prices", "place"] f_struck fd_struck) {f_look : Addr} {fd_look : FuncData} (T_look : DefT K mg "look" s_look ["thing"] f_look fd_look) (O_look : FnOk P w K mg base (L2.CX P w) 4 f_look fd_look ["thing"] (spP K mg 1 m_look)) {f_look_place : Addr} {fd_look_place : FuncData} (T_look_place : DefT K mg "look_place" s_look_place ["prices", "place"] f_look_place fd_look_place) (O_look_place : FnOk P w K mg base (L2.CX P w) 2 f_look_place fd_look_place ["prices", "place"] (spP K mg 2 m_look_place)) (B : BnT mg) (G : GcT mg) : FnOk P w K mg base (L2.CX P w) 5 f_struck fd_struck ["prices", "place"] (spP K mg 2 m_struck) := by
  have sc := sc_struck
  refine fn_pure (phn := []) T_struck.F sc (fun cdv A outer s H E hr => ?_)
  have tk : Takes (cxOf (L2.CX P w) P w K mg base ["prices", "place"] "struck" (defScope s_struck) f_struck cdv A outer s H E) (fun c d _ H' => E c d H') := takes_of rfl rfl rfl rfl
  exact (db_cons (ds_expr (de_fn O_look (hr.mono (by decide)) T_look.g T_look.F.kp T_look.b (fnM_len _ _ _) tk (da_cons (de_var 0) da_nil))) (db_cons (ds_expr (de_fn O_look_place (hr.mono (by decide)) T_look_place.g T_look_place.F.kp T_look_place.b (fnM_len _ _ _) tk (da_cons (de_var 0) (da_cons (de_var 1) da_nil)))) (db_one (ds_ret (de_tup (da_cons (de_ix (de_var 0) de_int) (da_cons (de_op op_addP (de_slice (de_ix (de_var 0) de_int) dp_none (dp_some (de_var 1))) (de_slice (de_ix (de_var 0) de_int) (dp_some (de_op op_addP (de_var 1) de_int)) dp_none)) da_nil)))))))
def g_priced : Rw → SR := (gSeq (gDrop (gF m_look (gCons (gV 0) gNil))) (gSeq (gDrop (gF m_look_place (gCons (gV 0) (gCons (gV 1) gNil)))) (gSeq (gIfS (gNotT (gTr (gF m_is_within (gCons (gV 2) (gCons (gC (.int 1)) (gCons (gC (.int 99)) gNil)))))) (gRaise "BadPrice") SR.nx) (gSeq (gSet 3 (gB dAdd (gSl (gB dIx (gB dIx (gV 0) (gC (.int 1))) (gV 1)) gPn (gPs (gU dNeg (gC (.int 1))))) (gL tupD (gCons (gV 2) gNil)))) (gRet (gL tupD (gCons (gB dIx (gV 0) (gC (.int 0))) (gCons (gB dAdd (gB dAdd (gSl (gB dIx (gV 0) (gC (.int 1))) gPn (gPs (gV 1))) (gL tupD (gCons (gV 3) gNil))) (gSl (gB dIx (gV 0) (gC (.int 1))) (gPs (gB dAdd (gV 1) (gC (.int 1)))) gPn)) gNil))))))))
abbrev m_priced : List PyData → Rs PyData := fnM 3 4 g_priced
abbrev s_priced : Stmt := topS 19
theorem sc_priced : FnScope ["prices", "place", "price", "offer"] ["prices", "place", "price"] (defScope s_priced) := ⟨rfl, rfl, rfl, by decide +kernel, rfl, by decide +kernel, by decide +kernel⟩
theorem ok_priced {f_priced : Addr} {fd_priced : FuncData} (T_priced : DefT K mg "priced" s_priced ["prices", "place", "price"] f_priced fd_priced) {f_look : Addr} {fd_look : FuncData} (T_look : DefT K mg "look" s_look ["thing"] f_look fd_look) (O_look : FnOk P w K mg base (L2.CX P w) 4 f_look fd_look ["thing"] (spP K mg 1 m_look)) {f_look_place : Addr} {fd_look_place : FuncData} (T_look_place : DefT K mg "look_place" s_look_place ["prices", "place"] f_look_place fd_look_place) (O_look_place : FnOk P w K mg base (L2.CX P w) 2 f_look_place fd_look_place ["prices", "place"] (spP K mg 2 m_look_place)) {f_is_within : Addr} {fd_is_within : FuncData} (T_is_within : DefT K mg "is_within" s_is_within ["thing", "low", "high"] f_is_within fd_is_within) (O_is_within : FnOk P w K mg base (L2.CX P w) 1 f_is_within fd_is_within ["thing", "low", "high"] (spP K mg 3 m_is_within)) {a_BadPrice : Addr} (X_BadPrice : ExcT K mg "BadPrice" a_BadPrice) (B : BnT mg) (G : GcT mg) : FnOk P w K mg base (L2.CX P w) 5 f_priced fd_priced ["prices", "place", "price"] (spP K mg 3 m_priced) := by
  have sc := sc_priced
  refine fn_pure (phn := []) T_priced.F sc (fun cdv A outer s H E hr => ?_)
  have tk : Takes (cxOf (L2.CX P w) P w K mg base ["prices", "place", "price", "offer"] "priced" (defScope s_priced) f_priced cdv A outer s H E) (fun c d _ H' => E c d H') := takes_of rfl rfl rfl rfl
  exact (db_cons (ds_expr (de_fn O_look (hr.mono (by decide)) T_look.g T_look.F.kp T_look.b (fnM_len _ _ _) tk (da_cons (de_var 0) da_nil))) (db_cons (ds_expr (de_fn O_look_place (hr.mono (by decide)) T_look_place.g T_look_place.F.kp T_look_place.b (fnM_len _ _ _) tk (da_cons (de_var 0) (da_cons (de_var 1) da_nil)))) (db_cons (ds_if (dt_not (dt_truth (de_fn O_is_within (hr.mono (by decide)) T_is_within.g T_is_within.F.kp T_is_within.b (fnM_len _ _ _) tk (da_cons (de_var 2) (da_cons de_int (da_cons de_int da_nil)))))) (db_one (ds_raise rfl tk X_BadPrice)) db_nil) (db_cons (ds_set 3 (de_op op_addP (de_slice (de_ix (de_ix (de_var 0) de_int) (de_var 1)) dp_none (dp_some (de_un un_negP de_int))) (de_tup (da_cons (de_var 2) da_nil))) sc.nd) (db_one (ds_ret (de_tup (da_cons (de_ix (de_var 0) de_int) (da_cons (de_op op_addP (de_op op_addP (de_slice (de_ix (de_var 0) de_int) dp_none (dp_some (de_var 1))) (de_tup (da_cons (de_var 3) da_nil))) (de_slice (de_ix (de_var 0) de_int) (dp_some (de_op op_addP (de_var 1) de_int)) dp_none)) da_nil)))))))))
def g__law_done : Rw → SR := (gSeq (gIfS (gTb (gB dEq (gV 0) (gC (.int 0)))) (gRet (gF m_with_offer (gCons (gV 1) (gCons (gV 2) gNil)))) SR.nx) (gRet (gIf (gTb (gB dEq (gV 0) (gC (.int 1)))) (gF m_struck (gCons (gV 1) (gCons (gV 2) gNil))) (gF m_priced (gCons (gV 1) (gCons (gV 2) (gCons (gV 3) gNil)))))))
abbrev m__law_done : List PyData → Rs PyData := fnM 4 4 g__law_done
abbrev s__law_done : Stmt := topS 29
theorem sc__law_done : FnScope ["kind", "prices", "thing", "price"] ["kind", "prices", "thing", "price"] (defScope s__law_done) := ⟨rfl, rfl, rfl, by decide +kernel, rfl, by decide +kernel, by decide +kernel⟩
theorem ok__law_done {f__law_done : Addr} {fd__law_done : FuncData} (T__law_done : DefT K mg "_law_done" s__law_done ["kind", "prices", "thing", "price"] f__law_done fd__law_done) {f_with_offer : Addr} {fd_with_offer : FuncData} (T_with_offer : DefT K mg "with_offer" s_with_offer ["prices", "offer"] f_with_offer fd_with_offer) (O_with_offer : FnOk P w K mg base (L2.CX P w) 5 f_with_offer fd_with_offer ["prices", "offer"] (spP K mg 2 m_with_offer)) {f_struck : Addr} {fd_struck : FuncData} (T_struck : DefT K mg "struck" s_struck ["prices", "place"] f_struck fd_struck) (O_struck : FnOk P w K mg base (L2.CX P w) 5 f_struck fd_struck ["prices", "place"] (spP K mg 2 m_struck)) {f_priced : Addr} {fd_priced : FuncData} (T_priced : DefT K mg "priced" s_priced ["prices", "place", "price"] f_priced fd_priced) (O_priced : FnOk P w K mg base (L2.CX P w) 5 f_priced fd_priced ["prices", "place", "price"] (spP K mg 3 m_priced)) (B : BnT mg) (G : GcT mg) : FnOk P w K mg base (L2.CX P w) 6 f__law_done fd__law_done ["kind", "prices", "thing", "price"] (spP K mg 4 m__law_done) := by
  have sc := sc__law_done
  refine fn_pure (phn := []) T__law_done.F sc (fun cdv A outer s H E hr => ?_)
  have tk : Takes (cxOf (L2.CX P w) P w K mg base ["kind", "prices", "thing", "price"] "_law_done" (defScope s__law_done) f__law_done cdv A outer s H E) (fun c d _ H' => E c d H') := takes_of rfl rfl rfl rfl
  exact (db_cons (ds_if (dt_cmp (op_eqP hr.units) (de_var 0) de_int) (db_one (ds_ret (de_fn O_with_offer (hr.mono (by decide)) T_with_offer.g T_with_offer.F.kp T_with_offer.b (fnM_len _ _ _) tk (da_cons (de_var 1) (da_cons (de_var 2) da_nil))))) db_nil) (db_one (ds_ret (de_if (dt_cmp (op_eqP hr.units) (de_var 0) de_int) (de_fn O_struck (hr.mono (by decide)) T_struck.g T_struck.F.kp T_struck.b (fnM_len _ _ _) tk (da_cons (de_var 1) (da_cons (de_var 2) da_nil))) (de_fn O_priced (hr.mono (by decide)) T_priced.g T_priced.F.kp T_priced.b (fnM_len _ _ _) tk (da_cons (de_var 1) (da_cons (de_var 2) (da_cons (de_var 3) da_nil))))))))
def g__law_told : Rw → SR := (gSeq (gSet 4 (gC .none)) (gSeq (gTry excN (gSet 4 (gF m__law_done (gCons (gV 0) (gCons (gV 1) (gCons (gV 2) (gCons (gV 3) gNil)))))) [("BadList", (gSet 4 (gC (.str "list")))), ("BadOffer", (gSet 4 (gC (.str "offer")))), ("BadPrice", (gSet 4 (gC (.str "price")))), ("Full", (gSet 4 (gC (.str "full"))))]) (gRet (gV 4))))
abbrev m__law_told : List PyData → Rs PyData := fnM 4 5 g__law_told
abbrev s__law_told : Stmt := topS 28
theorem sc__law_told : FnScope ["kind", "prices", "thing", "price", "found"] ["kind", "prices", "thing", "price"] (defScope s__law_told) := ⟨rfl, rfl, rfl, by decide +kernel, rfl, by decide +kernel, by decide +kernel⟩
theorem ok__law_told {f__law_told : Addr} {fd__law_told : FuncData} (T__law_told : DefT K mg "_law_told" s__law_told ["kind", "prices", "thing", "price"] f__law_told fd__law_told) {f__law_done : Addr} {fd__law_done : FuncData} (T__law_done : DefT K mg "_law_done" s__law_done ["kind", "prices", "thing", "price"] f__law_done fd__law_done) (O__law_done : FnOk P w K mg base (L2.CX P w) 6 f__law_done fd__law_done ["kind", "prices", "thing", "price"] (spP K mg 4 m__law_done)) {a_BadList : Addr} (X_BadList : ExcT K mg "BadList" a_BadList) {a_BadOffer : Addr} (X_BadOffer : ExcT K mg "BadOffer" a_BadOffer) {a_BadPrice : Addr} (X_BadPrice : ExcT K mg "BadPrice" a_BadPrice) {a_Full : Addr} (X_Full : ExcT K mg "Full" a_Full) (EA : ExcAll K mg excN) (B : BnT mg) (G : GcT mg) : FnOk P w K mg base (L2.CX P w) 7 f__law_told fd__law_told ["kind", "prices", "thing", "price"] (spP K mg 4 m__law_told) := by
  have sc := sc__law_told
  refine fn_pure (phn := []) T__law_told.F sc (fun cdv A outer s H E hr => ?_)
  have tk : Takes (cxOf (L2.CX P w) P w K mg base ["kind", "prices", "thing", "price", "found"] "_law_told" (defScope s__law_told) f__law_told cdv A outer s H E) (fun c d _ H' => E c d H') := takes_of rfl rfl rfl rfl
  exact (db_cons (ds_set 4 de_non sc.nd) (db_cons (ds_try (phe := [.im, .im, .im, .im, .im]) EA tk (fun _ _ _ tk => (db_one (ds_set 4 (de_fn O__law_done (hr.mono (by decide)) T__law_done.g T__law_done.F.kp T__law_done.b (fnM_len _ _ _) tk (da_cons (de_var 0) (da_cons (de_var 1) (da_cons (de_var 2) (da_cons (de_var 3) da_nil))))) sc.nd))) (dh_cons X_BadList.g (fun _ _ _ => (db_one (ds_set 4 de_str sc.nd))) (dh_cons X_BadOffer.g (fun _ _ _ => (db_one (ds_set 4 de_str sc.nd))) (dh_cons X_BadPrice.g (fun _ _ _ => (db_one (ds_set 4 de_str sc.nd))) (dh_cons X_Full.g (fun _ _ _ => (db_one (ds_set 4 de_str sc.nd))) dh_nil)))) (by decide)) (db_one (ds_ret (de_var 4)))))
def g__law_is_offer : Rw → SR := (gSeq (gIfS (gOrT (gNotT (gTr (gU (dIsi "tuple") (gV 0)))) (gOrT (gTb (gB dLtI (gL dLen (gCons (gV 0) gNil)) (gC (.int 3)))) (gOrT (gNotT (gTr (gU (dIsi "str") (gB dIx (gV 0) (gC (.int 0)))))) (gNotT (gTr (gF m__law_in (gCons (gB dIx (gV 0) (gU dNeg (gC (.int 1)))) (gCons (gC (.int 1)) (gCons (gC (.int 99)) gNil))))))))) (gRet (gC (.bool false))) SR.nx) (gSeq (gIfS (gTb (gB dEq (gB dIx (gV 0) (gC (.int 0))) (gC (.str "joined")))) (gSeq (gIfS (gOrT (gTb (gB dNe (gL dLen (gCons (gV 0) gNil)) (gC (.int 3)))) (gOrT (gNotT (gTr (gU (dIsi "tuple") (gB dIx (gV 0) (gC (.int 1)))))) (gTb (gB dNe (gL dLen (gCons (gB dIx (gV 0) (gC (.int 1))) gNil)) (gV 1))))) (gRet (gC (.bool false))) SR.nx) (gRet (gAndV (gB dEq (gLc (gIt seqD (gB dIx (gV 0) (gC (.int 1)))) (tName 2) (gNotT (gTr (gF m__law_in (gCons (gV 2) (gCons (gC (.int 0)) (gCons (gC (.int 5)) gNil)))))) (gV 2)) (gL lstD gNil)) (gB dGtI (gL (pickD maxZ) (gCons (gB dIx (gV 0) (gC (.int 1))) gNil)) (gC (.int 0)))))) SR.nx) (gSeq (gIfS (gNotT (gTr (gF m__law_in (gCons (gB dIx (gV 0) (gC (.int 1))) (gCons (gC (.int 0)) (gCons (gB dSub (gV 1) (gC (.int 1))) gNil)))))) (gRet (gC (.bool false))) SR.nx) (gSeq (gIfS (gTb (gB dEq (gB dIx (gV 0) (gC (.int 0))) (gC (.str "each")))) (gRet (gB dEq (gL dLen (gCons (gV 0) gNil)) (gC (.int 3)))) SR.nx) (gRet (gAndV (gB (dIn false) (gB dIx (gV 0) (gC (.int 0))) (gL tupD (gCons (gC (.str "pack")) (gCons (gC (.str "tier")) gNil)))) (gAndV (gB dEq (gL dLen (gCons (gV 0) gNil)) (gC (.int 4))) (gF m__law_in (gCons (gB dIx (gV 0) (gC (.int 2))) (gCons (gC (.int 2)) (gCons (gC (.int 5)) gNil)))))))))))
abbrev m__law_is_offer : List PyData → Rs PyData := fnM 2 3 g__law_is_offer
abbrev s__law_is_offer : Stmt := topS 27
theorem sc__law_is_offer : FnScope ["thing", "wares", "one"] ["thing", "wares"] (defScope s__law_is_offer) := ⟨rfl, rfl, rfl, by decide +kernel, rfl, by decide +kernel, by decide +kernel⟩
theorem ok__law_is_offer {f__law_is_offer : Addr} {fd__law_is_offer : FuncData} (T__law_is_offer : DefT K mg "_law_is_offer" s__law_is_offer ["thing", "wares"] f__law_is_offer fd__law_is_offer) {f__law_in : Addr} {fd__law_in : FuncData} (T__law_in : DefT K mg "_law_in" s__law_in ["thing", "low", "high"] f__law_in fd__law_in) (O__law_in : FnOk P w K mg base (L2.CX P w) 1 f__law_in fd__law_in ["thing", "low", "high"] (spP K mg 3 m__law_in)) (B : BnT mg) (G : GcT mg) : FnOk P w K mg base (L2.CX P w) 2 f__law_is_offer fd__law_is_offer ["thing", "wares"] (spP K mg 2 m__law_is_offer) := by
  have sc := sc__law_is_offer
  refine fn_pure (phn := []) T__law_is_offer.F sc (fun cdv A outer s H E hr => ?_)
  have tk : Takes (cxOf (L2.CX P w) P w K mg base ["thing", "wares", "one"] "_law_is_offer" (defScope s__law_is_offer) f__law_is_offer cdv A outer s H E) (fun c d _ H' => E c d H') := takes_of rfl rfl rfl rfl
  exact (db_cons (ds_if (dt_w (dw_or (dt_not (dt_truth (de_isi (de_var 0) B.isinstance_ B.tuple_ (by decide +kernel)))) (dw_or (dt_cmp op_ltP (de_callB cl_len B.len_ (by decide +kernel) (da_cons (de_var 0) da_nil)) de_int) (dw_or (dt_not (dt_truth (de_isi (de_ix (de_var 0) de_int) B.isinstance_ B.str_ (by decide +kernel)))) (dw_or1 (dt_not (dt_truth (de_fn O__law_in (hr.mono (by decide)) T__law_in.g T__law_in.F.kp T__law_in.b (fnM_len _ _ _) tk (da_cons (de_ix (de_var 0) (de_un un_negP de_int)) (da_cons de_int (da_cons de_int da_nil))))))))))) (db_one (ds_ret de_bl)) db_nil) (db_cons (ds_if (dt_cmp (op_eqP hr.units) (de_ix (de_var 0) de_int) de_str) (db_cons (ds_if (dt_w (dw_or (dt_cmp (op_neP hr.units) (de_callB cl_len B.len_ (by decide +kernel) (da_cons (de_var 0) da_nil)) de_int) (dw_or (dt_not (dt_truth (de_isi (de_ix (de_var 0) de_int) B.isinstance_ B.tuple_ (by decide +kernel)))) (dw_or1 (dt_cmp (op_neP hr.units) (de_callB cl_len B.len_ (by decide +kernel) (da_cons (de_ix (de_var 0) de_int) da_nil)) (de_var 1)))))) (db_one (ds_ret de_bl)) db_nil) (db_one (ds_ret (de_and (de_cmp (op_eqP hr.units) (de_of (do_lc (own := [("one", 2)]) rfl sc.nd (dih_of (di_seq (de_ix (de_var 0) de_int))) (blkOk_by (by kernel_rfl)) (fun _ _ _ _ _ => (dg_name 2 sc.nd)) (fun _ _ _ _ _ => (dts_one (dt_not (dt_truth (de_fn O__law_in (hr.mono (by decide)) T__law_in.g T__law_in.F.kp T__law_in.b (fnM_len _ _ _) takes0 (da_cons (de_var 2) (da_cons de_int (da_cons de_int da_nil)))))))) (fun _ _ _ _ _ => (de_var 2)) (by decide))) (de_of (do_lst da_nil))) (de_one (de_cmp op_gtP (de_callB (cl_max1 rfl) B.max_ (by decide +kernel) (da_cons (de_ix (de_var 0) de_int) da_nil)) de_int)))))) db_nil) (db_cons (ds_if (dt_not (dt_truth (de_fn O__law_in (hr.mono (by decide)) T__law_in.g T__law_in.F.kp T__law_in.b (fnM_len _ _ _) tk (da_cons (de_ix (de_var 0) de_int) (da_cons de_int (da_cons (de_op op_subP (de_var 1) de_int) da_nil)))))) (db_one (ds_ret de_bl)) db_nil) (db_cons (ds_if (dt_cmp (op_eqP hr.units) (de_ix (de_var 0) de_int) de_str) (db_one (ds_ret (de_cmp (op_eqP hr.units) (de_callB cl_len B.len_ (by decide +kernel) (da_cons (de_var 0) da_nil)) de_int))) db_nil) (db_one (ds_ret (de_and (de_cmp (op_inP (un65 hr)) (de_ix (de_var 0) de_int) (de_tup (da_cons de_str (da_cons de_str da_nil)))) (de_and (de_cmp (op_eqP hr.units) (de_callB cl_len B.len_ (by decide +kernel) (da_cons (de_var 0) da_nil)) de_int) (de_one (de_fn O__law_in (hr.mono (by decide)) T__law_in.g T__law_in.F.kp T__law_in.b (fnM_len _ _ _) tk (da_cons (de_ix (de_var 0) de_int) (da_cons de_int (da_cons de_int da_nil)))))))))))))
def g_law : Rw → SR := (gSeq (gSet 1 (gF m__law_list (gCons (gV 0) (gCons (gC (.int 0)) gNil)))) (gSeq (gAsg (tTup 2 (tCons (tName 2) (tCons (tName 3) tNil))) (gV 1)) (gSeq (gSet 4 (gL lstD (gCons (gC .none) (gCons (gL tupD (gCons (gC (.str "each")) (gCons (gV 2) (gCons (gC (.int 5)) gNil)))) (gCons (gL tupD (gCons (gC (.str "pack")) (gCons (gC (.int 0)) (gCons (gC (.int 1)) (gCons (gC (.int 5)) gNil))))) (gCons (gL tupD (gCons (gC (.str "joined")) (gCons (gB dMul (gL tupD (gCons (gC (.int 0)) gNil)) (gV 2)) (gCons (gC (.int 5)) gNil)))) (gCons (gL tupD (gCons (gC (.str "tier")) (gCons (gC (.int 0)) (gCons (gC (.int 2)) gNil)))) gNil))))))) (gSeq (gSet 4 (gB dAdd (gV 4) (gL lstD (gCons (gL lstD (gCons (gC (.str "each")) (gCons (gC (.int 0)) (gCons (gC (.int 5)) gNil)))) (gCons (gL tupD (gCons (gC (.str "each")) (gCons (gC (.int 0)) (gCons (gC (.int 0)) gNil)))) (gCons (gL tupD (gCons (gC (.str "pack")) (gCons (gC (.int 0)) (gCons (gC (.int 6)) (gCons (gC (.int 5)) gNil))))) (gCons (gL tupD (gCons (gC (.str "tier")) (gCons (gC (.int 0)) (gCons (gC (.int 6)) (gCons (gC (.int 5)) gNil))))) (gCons (gL tupD (gCons (gC (.str "each")) (gCons (gC (.int 0)) (gCons (gC (.int 100)) gNil)))) gNil)))))))) (gSeq (gSet 4 (gB dAdd (gV 4) (gL lstD (gCons (gL tupD (gCons (gC (.str "joined")) (gCons (gB dAdd (gL tupD (gCons (gC (.int 6)) gNil)) (gB dMul (gL tupD (gCons (gC (.int 0)) gNil)) (gB dSub (gV 2) (gC (.int 1))))) (gCons (gC (.int 5)) gNil)))) (gCons (gL tupD (gCons (gC (.str "joined")) (gCons (gB dMul (gL tupD (gCons (gC (.int 5)) gNil)) (gV 2)) (gCons (gC (.int 99)) gNil)))) gNil))))) (gSeq (gSet 5 (gF m__law_offer (gCons (gF m__law_seed (gCons (gF m__law_cell (gCons (gV 0) (gCons (gC (.int 4)) gNil))) (gCons (gC (.int 0)) gNil))) (gCons (gV 2) gNil)))) (gSeq (gIfS (gTb (gB dEq (gB dMod (gF m__law_cell (gCons (gV 0) (gCons (gC (.int 5)) gNil))) (gC (.int 3))) (gC (.int 0)))) (gSet 5 (gB dIx (gV 4) (gB dMod (gF m__law_cell (gCons (gV 0) (gCons (gC (.int 6)) gNil))) (gC (.int 12))))) SR.nx) (gSeq (gSet 6 (gIf (gTb (gB dLtI (gL dLen (gCons (gV 3) gNil)) (gC (.int 6)))) (gL tupD (gCons (gV 2) (gCons (gB dAdd (gV 3) (gL tupD (gCons (gV 5) gNil))) gNil))) (gC (.str "full")))) (gSeq (gIfS (gTb (gB dNe (gF m__law_told (gCons (gC (.int 0)) (gCons (gV 1) (gCons (gV 5) (gCons (gC .none) gNil))))) (gIf (gTr (gF m__law_is_offer (gCons (gV 5) (gCons (gV 2) gNil)))) (gV 6) (gC (.str "offer"))))) (gRet (gC (.bool false))) SR.nx) (gSeq (gSet 7 (gB dIx (gL lstD (gCons (gB dSub (gB dMod (gF m__law_cell (gCons (gV 0) (gCons (gC (.int 7)) gNil))) (gC (.int 8))) (gC (.int 1))) (gCons (gC .none) (gCons (gC (.bool true)) (gCons (gC (.str "0")) gNil))))) (gB dIx (gL lstD (gCons (gC (.int 0)) (gCons (gC (.int 0)) (gCons (gC (.int 0)) (gCons (gC (.int 1)) (gCons (gC (.int 2)) (gCons (gC (.int 3)) gNil))))))) (gB dMod (gF m__law_cell (gCons (gV 0) (gCons (gC (.int 8)) gNil))) (gC (.int 6)))))) (gSeq (gSet 8 (gB dIx (gL lstD (gCons (gB dSub (gB dMod (gF m__law_cell (gCons (gV 0) (gCons (gC (.int 9)) gNil))) (gC (.int 102))) (gC (.int 1))) (gCons (gC .none) (gCons (gC (.bool true)) gNil)))) (gB dIx (gL lstD (gCons (gC (.int 0)) (gCons (gC (.int 0)) (gCons (gC (.int 1)) (gCons (gC (.int 2)) gNil))))) (gB dMod (gF m__law_cell (gCons (gV 0) (gCons (gC (.int 10)) gNil))) (gC (.int 4)))))) (gSeq (gSet 9 (gF m__law_in (gCons (gV 7) (gCons (gC (.int 0)) (gCons (gB dSub (gL dLen (gCons (gV 3) gNil)) (gC (.int 1))) gNil))))) (gSeq (gSet 6 (gL lstD (gCons (gC (.str "offer")) (gCons (gC (.str "offer")) gNil)))) (gSeq (gIfS (gTr (gV 9)) (gSeq (gSet 10 (gB dAdd (gSl (gB dIx (gV 3) (gV 7)) gPn (gPs (gU dNeg (gC (.int 1))))) (gL tupD (gCons (gV 8) gNil)))) (gSeq (gSet 6 (gL lstD (gCons (gL tupD (gCons (gV 2) (gCons (gB dAdd (gSl (gV 3) gPn (gPs (gV 7))) (gSl (gV 3) (gPs (gB dAdd (gV 7) (gC (.int 1)))) gPn)) gNil))) (gCons (gL tupD (gCons (gV 2) (gCons (gB dAdd (gB dAdd (gSl (gV 3) gPn (gPs (gV 7))) (gL tupD (gCons (gV 10) gNil))) (gSl (gV 3) (gPs (gB dAdd (gV 7) (gC (.int 1)))) gPn)) gNil))) gNil)))) (gPutL 6 (gC (.int 1)) (gIf (gTr (gF m__law_in (gCons (gV 8) (gCons (gC (.int 1)) (gCons (gC (.int 99)) gNil))))) (gB dIx (gV 6) (gC (.int 1))) (gC (.str "price")))))) SR.nx) (gSeq (gIfS (gTb (gB dNe (gL lstD (gCons (gF m__law_told (gCons (gC (.int 1)) (gCons (gV 1) (gCons (gV 7) (gCons (gC .none) gNil))))) (gCons (gF m__law_told (gCons (gC (.int 2)) (gCons (gV 1) (gCons (gV 7) (gCons (gV 8) gNil))))) gNil))) (gV 6))) (gRet (gC (.bool false))) SR.nx) (gSeq (gSet 11 (gB dIx (gL lstD (gCons (gC .none) (gCons (gL dList (gCons (gV 1) gNil)) (gCons (gL tupD (gCons (gC (.int 4)) (gCons (gL tupD gNil) gNil))) (gCons (gL tupD (gCons (gV 2) (gCons (gB dAdd (gV 3) (gL tupD (gCons (gC .none) gNil))) gNil))) (gCons (gL tupD (gCons (gC (.int 0)) (gCons (gL tupD gNil) gNil))) gNil)))))) (gB dMod (gF m__law_cell (gCons (gV 0) (gCons (gC (.int 11)) gNil))) (gC (.int 5))))) (gRet (gB dEq (gLc (gIt rng1 (gC (.int 3))) (tName 12) gYes (gF m__law_told (gCons (gV 12) (gCons (gV 11) (gCons (gC .none) (gCons (gC .none) gNil)))))) (gB dMul (gL lstD (gCons (gC (.str "list")) gNil)) (gC (.int 3)))))))))))))))))))))
abbrev m_law : List PyData → Rs PyData := fnM 1 13 g_law
abbrev s_law : Stmt := topS 30
theorem sc_law : FnScope ["script", "prices", "wares", "offers", "odd", "offer", "due", "at", "price", "good", "new", "bad", "k"] ["script"] (defScope s_law) := ⟨rfl, rfl, rfl, by decide +kernel, rfl, by decide +kernel, by decide +kernel⟩
theorem ok_law {f_law : Addr} {fd_law : FuncData} (T_law : DefT K mg "law" s_law ["script"] f_law fd_law) {f__law_list : Addr} {fd__law_list : FuncData} (T__law_list : DefT K mg "_law_list" s__law_list ["script", "at"] f__law_list fd__law_list) (O__law_list : FnOk P w K mg base (L2.CX P w) 3 f__law_list fd__law_list ["script", "at"] (spP K mg 2 m__law_list)) {f__law_offer : Addr} {fd__law_offer : FuncData} (T__law_offer : DefT K mg "_law_offer" s__law_offer ["seed", "wares"] f__law_offer fd__law_offer) (O__law_offer : FnOk P w K mg base (L2.CX P w) 2 f__law_offer fd__law_offer ["seed", "wares"] (spP K mg 2 m__law_offer)) {f__law_seed : Addr} {fd__law_seed : FuncData} (T__law_seed : DefT K mg "_law_seed" s__law_seed ["seed", "k"] f__law_seed fd__law_seed) (O__law_seed : FnOk P w K mg base (L2.CX P w) 1 f__law_seed fd__law_seed ["seed", "k"] (spP K mg 2 m__law_seed)) {f__law_cell : Addr} {fd__law_cell : FuncData} (T__law_cell : DefT K mg "_law_cell" s__law_cell ["script", "k"] f__law_cell fd__law_cell) (O__law_cell : FnOk P w K mg base (L2.CX P w) 1 f__law_cell fd__law_cell ["script", "k"] (spP K mg 2 m__law_cell)) {f__law_told : Addr} {fd__law_told : FuncData} (T__law_told : DefT K mg "_law_told" s__law_told ["kind", "prices", "thing", "price"] f__law_told fd__law_told) (O__law_told : FnOk P w K mg base (L2.CX P w) 7 f__law_told fd__law_told ["kind", "prices", "thing", "price"] (spP K mg 4 m__law_told)) {f__law_is_offer : Addr} {fd__law_is_offer : FuncData} (T__law_is_offer : DefT K mg "_law_is_offer" s__law_is_offer ["thing", "wares"] f__law_is_offer fd__law_is_offer) (O__law_is_offer : FnOk P w K mg base (L2.CX P w) 2 f__law_is_offer fd__law_is_offer ["thing", "wares"] (spP K mg 2 m__law_is_offer)) {f__law_in : Addr} {fd__law_in : FuncData} (T__law_in : DefT K mg "_law_in" s__law_in ["thing", "low", "high"] f__law_in fd__law_in) (O__law_in : FnOk P w K mg base (L2.CX P w) 1 f__law_in fd__law_in ["thing", "low", "high"] (spP K mg 3 m__law_in)) (B : BnT mg) (G : GcT mg) : FnOk P w K mg base (L2.CX P w) 8 f_law fd_law ["script"] (spP K mg 1 m_law) := by
  have sc := sc_law
  refine fn_pure (phn := []) T_law.F sc (fun cdv A outer s H E hr => ?_)
  have tk : Takes (cxOf (L2.CX P w) P w K mg base ["script", "prices", "wares", "offers", "odd", "offer", "due", "at", "price", "good", "new", "bad", "k"] "law" (defScope s_law) f_law cdv A outer s H E) (fun c d _ H' => E c d H') := takes_of rfl rfl rfl rfl
  exact (db_cons (ds_set 1 (de_fn O__law_list (hr.mono (by decide)) T__law_list.g T__law_list.F.kp T__law_list.b (fnM_len _ _ _) tk (da_cons (de_var 0) (da_cons de_int da_nil))) sc.nd) (db_cons (ds_asg (de_var 1) (dg_tup rfl (dgs_cons (dg_name 2 sc.nd) (dgs_cons (dg_name 3 sc.nd) dgs_nil)))) (db_cons (ds_set 4 (de_of (do_lst (da_cons de_non (da_cons (de_tup (da_cons de_str (da_cons (de_var 2) (da_cons de_int da_nil)))) (da_cons (de_tup (da_cons de_str (da_cons de_int (da_cons de_int (da_cons de_int da_nil))))) (da_cons (de_tup (da_cons de_str (da_cons (de_op op_mulS (de_tup (da_cons de_int da_nil)) (de_var 2)) (da_cons de_int da_nil)))) (da_cons (de_tup (da_cons de_str (da_cons de_int (da_cons de_int da_nil)))) da_nil))))))) sc.nd) (db_cons (ds_set 4 (de_op op_addP (de_var 4) (de_of (do_lst (da_cons (de_of (do_lst (da_cons de_str (da_cons de_int (da_cons de_int da_nil))))) (da_cons (de_tup (da_cons de_str (da_cons de_int (da_cons de_int da_nil)))) (da_cons (de_tup (da_cons de_str (da_cons de_int (da_cons de_int (da_cons de_int da_nil))))) (da_cons (de_tup (da_cons de_str (da_cons de_int (da_cons de_int (da_cons de_int da_nil))))) (da_cons (de_tup (da_cons de_str (da_cons de_int (da_cons de_int da_nil)))) da_nil)))))))) sc.nd) (db_cons (ds_set 4 (de_op op_addP (de_var 4) (de_of (do_lst (da_cons (de_tup (da_cons de_str (da_cons (de_op op_addP (de_tup (da_cons de_int da_nil)) (de_op op_mulS (de_tup (da_cons de_int da_nil)) (de_op op_subP (de_var 2) de_int))) (da_cons de_int da_nil)))) (da_cons (de_tup (da_cons de_str (da_cons (de_op op_mulS (de_tup (da_cons de_int da_nil)) (de_var 2)) (da_cons de_int da_nil)))) da_nil))))) sc.nd) (db_cons (ds_set 5 (de_fn O__law_offer (hr.mono (by decide)) T__law_offer.g T__law_offer.F.kp T__law_offer.b (fnM_len _ _ _) tk (da_cons (de_fn O__law_seed (hr.mono (by decide)) T__law_seed.g T__law_seed.F.kp T__law_seed.b (fnM_len _ _ _) tk (da_cons (de_fn O__law_cell (hr.mono (by decide)) T__law_cell.g T__law_cell.F.kp T__law_cell.b (fnM_len _ _ _) tk (da_cons (de_var 0) (da_cons de_int da_nil))) (da_cons de_int da_nil))) (da_cons (de_var 2) da_nil))) sc.nd) (db_cons (ds_if (dt_cmp (op_eqP hr.units) (de_op op_modP (de_fn O__law_cell (hr.mono (by decide)) T__law_cell.g T__law_cell.F.kp T__law_cell.b (fnM_len _ _ _) tk (da_cons (de_var 0) (da_cons de_int da_nil))) de_int) de_int) (db_one (ds_set 5 (de_ix (de_var 4) (de_op op_modP (de_fn O__law_cell (hr.mono (by decide)) T__law_cell.g T__law_cell.F.kp T__law_cell.b (fnM_len _ _ _) tk (da_cons (de_var 0) (da_cons de_int da_nil))) de_int)) sc.nd)) db_nil) (db_cons (ds_set 6 (de_if (dt_cmp op_ltP (de_callB cl_len B.len_ (by decide +kernel) (da_cons (de_var 3) da_nil)) de_int) (de_tup (da_cons (de_var 2) (da_cons (de_op op_addP (de_var 3) (de_tup (da_cons (de_var 5) da_nil))) da_nil))) de_str) sc.nd) (db_cons (ds_if (dt_cmp (op_neP hr.units) (de_fn O__law_told (hr.mono (by decide)) T__law_told.g T__law_told.F.kp T__law_told.b (fnM_len _ _ _) tk (da_cons de_int (da_cons (de_var 1) (da_cons (de_var 5) (da_cons de_non da_nil))))) (de_if (dt_truth (de_fn O__law_is_offer (hr.mono (by decide)) T__law_is_offer.g T__law_is_offer.F.kp T__law_is_offer.b (fnM_len _ _ _) tk (da_cons (de_var 5) (da_cons (de_var 2) da_nil)))) (de_var 6) de_str)) (db_one (ds_ret de_bl)) db_nil) (db_cons (ds_set 7 (de_ix (de_of (do_lst (da_cons (de_op op_subP (de_op op_modP (de_fn O__law_cell (hr.mono (by decide)) T__law_cell.g T__law_cell.F.kp T__law_cell.b (fnM_len _ _ _) tk (da_cons (de_var 0) (da_cons de_int da_nil))) de_int) de_int) (da_cons de_non (da_cons de_bl (da_cons de_str da_nil)))))) (de_ix (de_of (do_lst (da_cons de_int (da_cons de_int (da_cons de_int (da_cons de_int (da_cons de_int (da_cons de_int da_nil)))))))) (de_op op_modP (de_fn O__law_cell (hr.mono (by decide)) T__law_cell.g T__law_cell.F.kp T__law_cell.b (fnM_len _ _ _) tk (da_cons (de_var 0) (da_cons de_int da_nil))) de_int))) sc.nd) (db_cons (ds_set 8 (de_ix (de_of (do_lst (da_cons (de_op op_subP (de_op op_modP (de_fn O__law_cell (hr.mono (by decide)) T__law_cell.g T__law_cell.F.kp T__law_cell.b (fnM_len _ _ _) tk (da_cons (de_var 0) (da_cons de_int da_nil))) de_int) de_int) (da_cons de_non (da_cons de_bl da_nil))))) (de_ix (de_of (do_lst (da_cons de_int (da_cons de_int (da_cons de_int (da_cons de_int da_nil)))))) (de_op op_modP (de_fn O__law_cell (hr.mono (by decide)) T__law_cell.g T__law_cell.F.kp T__law_cell.b (fnM_len _ _ _) tk (da_cons (de_var 0) (da_cons de_int da_nil))) de_int))) sc.nd) (db_cons (ds_set 9 (de_fn O__law_in (hr.mono (by decide)) T__law_in.g T__law_in.F.kp T__law_in.b (fnM_len _ _ _) tk (da_cons (de_var 7) (da_cons de_int (da_cons (de_op op_subP (de_callB cl_len B.len_ (by decide +kernel) (da_cons (de_var 3) da_nil)) de_int) da_nil)))) sc.nd) (db_cons (ds_setO 6 (do_lst (da_cons de_str (da_cons de_str da_nil))) sc.nd) (db_cons (ds_if (dt_truth (de_var 9)) (db_cons (ds_set 10 (de_op op_addP (de_slice (de_ix (de_var 3) (de_var 7)) dp_none (dp_some (de_un un_negP de_int))) (de_tup (da_cons (de_var 8) da_nil))) sc.nd) (db_cons (ds_setO 6 (do_lst (da_cons (de_tup (da_cons (de_var 2) (da_cons (de_op op_addP (de_slice (de_var 3) dp_none (dp_some (de_var 7))) (de_slice (de_var 3) (dp_some (de_op op_addP (de_var 7) de_int)) dp_none)) da_nil))) (da_cons (de_tup (da_cons (de_var 2) (da_cons (de_op op_addP (de_op op_addP (de_slice (de_var 3) dp_none (dp_some (de_var 7))) (de_tup (da_cons (de_var 10) da_nil))) (de_slice (de_var 3) (dp_some (de_op op_addP (de_var 7) de_int)) dp_none)) da_nil))) da_nil))) sc.nd) (db_post (db_one (ds_putL 6 de_int (de_if (dt_truth (de_fn O__law_in (hr.mono (by decide)) T__law_in.g T__law_in.F.kp T__law_in.b (fnM_len _ _ _) tk (da_cons (de_var 8) (da_cons de_int (da_cons de_int da_nil))))) (de_ixO 6 de_int) de_str))) (ph2 := [.im, .im, .im, .im, .im, .im, .ow, .im, .im, .im, .dead, .dead, .dead]) rfl))) db_nil) (db_cons (ds_pre (ph1 := [.im, .im, .im, .im, .im, .im, .im, .im, .im, .im, .dead, .dead, .dead]) (ds_if (dt_cmp (op_neP hr.units) (de_of (do_lst (da_cons (de_fn O__law_told (hr.mono (by decide)) T__law_told.g T__law_told.F.kp T__law_told.b (fnM_len _ _ _) tk (da_cons de_int (da_cons (de_var 1) (da_cons (de_var 7) (da_cons de_non da_nil))))) (da_cons (de_fn O__law_told (hr.mono (by decide)) T__law_told.g T__law_told.F.kp T__law_told.b (fnM_len _ _ _) tk (da_cons de_int (da_cons (de_var 1) (da_cons (de_var 7) (da_cons (de_var 8) da_nil))))) da_nil)))) (de_var 6)) (db_one (ds_ret de_bl)) db_nil) rfl) (db_cons (ds_set 11 (de_ix (de_of (do_lst (da_cons de_non (da_cons (de_of (do_callTy cl_listO B.list_ (by decide +kernel) (da_cons (de_var 1) da_nil))) (da_cons (de_tup (da_cons de_int (da_cons (de_tup da_nil) da_nil))) (da_cons (de_tup (da_cons (de_var 2) (da_cons (de_op op_addP (de_var 3) (de_tup (da_cons de_non da_nil))) da_nil))) (da_cons (de_tup (da_cons de_int (da_cons (de_tup da_nil) da_nil))) da_nil))))))) (de_op op_modP (de_fn O__law_cell (hr.mono (by decide)) T__law_cell.g T__law_cell.F.kp T__law_cell.b (fnM_len _ _ _) tk (da_cons (de_var 0) (da_cons de_int da_nil))) de_int)) sc.nd) (db_one (ds_ret (de_cmp (op_eqP hr.units) (de_of (do_lc (own := [("k", 12)]) rfl sc.nd (dih_of (di_range1 de_int B.range_)) (blkOk_by (by kernel_rfl)) (fun _ _ _ _ _ => (dg_name 12 sc.nd)) (fun _ _ _ _ _ => dts_nil) (fun _ _ _ _ _ => (de_fn O__law_told (hr.mono (by decide)) T__law_told.g T__law_told.F.kp T__law_told.b (fnM_len _ _ _) takes0 (da_cons (de_var 12) (da_cons (de_var 11) (da_cons de_non (da_cons de_non da_nil)))))) (by decide))) (de_op op_mulS (de_of (do_lst (da_cons de_str da_nil))) de_int))))))))))))))))))))
end
end PD
namespace PD
open PySem L2
/-! ### offers -/
inductive Off where
  | each (w p : Int)
  | pack (w m p : Int)
  | tier (w m p : Int)
  | joined (cs : List Int) (p : Int)
def encO : Off → PyData
  | .each w p => .tuple [.str "each", .int w, .int p]
  | .pack w m p => .tuple [.str "pack", .int w, .int m, .int p]
  | .tier w m p => .tuple [.str "tier", .int w, .int m, .int p]
  | .joined cs p => .tuple [.str "joined", .tuple (cs.map PyData.int), .int p]
def Off.Good (n : Int) : Off → Prop
  | .each w p => 0 ≤ w ∧ w < n ∧ 1 ≤ p ∧ p ≤ 99
  | .pack w m p => 0 ≤ w ∧ w < n ∧ 2 ≤ m ∧ m ≤ 5 ∧ 1 ≤ p ∧ p ≤ 99
  | .tier w m p => 0 ≤ w ∧ w < n ∧ 2 ≤ m ∧ m ≤ 5 ∧ 1 ≤ p ∧ p ≤ 99
  | .joined cs p => (cs.length : Int) = n ∧ (∀ c ∈ cs, 0 ≤ c ∧ c ≤ 5) ∧ (∃ c ∈ cs, 0 < c) ∧ 1 ≤ p ∧ p ≤ 99
/-- a good list of offers -/
structure GoodL (n : Int) (os : List Off) : Prop where
  n1 : 1 ≤ n
  n3 : n ≤ 3
  l6 : os.length ≤ 6
  g : ∀ o ∈ os, o.Good n
def encL (n : Int) (os : List Off) : PyData := .tuple [.int n, .tuple (os.map encO)]
theorem shp_str {x : Str} (h : (PyData.str x).canLay0 = true) : Shp 0 (.str x) := ⟨h, Nat.le_refl _⟩
theorem shp_ints (cs : List Int) : Shp 1 (.tuple (cs.map PyData.int)) := shp_tup fun d hd => by
  obtain ⟨c, _, rfl⟩ := List.mem_map.mp hd
  exact shp_int c
theorem shp_encO (o : Off) : Shp 2 (encO o) := by
  cases o with
  | each w p => exact (shp_tup (n := 0) (by simp [shp_int]; exact shp_str (by decide +kernel))).mono (by decide)
  | pack w m p => exact (shp_tup (n := 0) (by simp [shp_int]; exact shp_str (by decide +kernel))).mono (by decide)
  | tier w m p => exact (shp_tup (n := 0) (by simp [shp_int]; exact shp_str (by decide +kernel))).mono (by decide)
  | joined cs p => exact shp_tup (n := 1) (by simp; exact ⟨(shp_str (by decide +kernel)).mono (by decide), shp_ints cs, (shp_int p).mono (by decide)⟩)
/-! ### a script's numbers -/
def seedZ (s k : Int) : Int := ((s * 1103515245 + 7919 * k + 12345) % 2147483647) ^ 5 % 2147483647
theorem m_seed (s k : Int) : m__law_seed [.int s, .int k] = .ok (.int (seedZ s k)) := by
  have h : ((s * 1103515245 + 7919 * k + 12345) % 2147483647).natAbs < 2 ^ 64 := by omega
  show endD (g__law_seed [.int s, .int k]) = _
  simp [g__law_seed, h, seedZ]
def cellZ (ns : List Int) (k : Int) : Int := if k < ns.length then ns.getD k.toNat 0 else 0
theorem m_cell (ns : List Int) (k : Int) (hk : 0 ≤ k) : m__law_cell [scrD ns, .int k] = .ok (.int (cellZ ns k)) := by
  show endD (g__law_cell [scrD ns, .int k]) = _
  unfold cellZ
  by_cases h : k < ns.length
  · have : atI (ns.map PyData.int) k = some (.int (ns.getD k.toNat 0)) := by
      unfold atI
      rw [ixN_in hk (by simpa using h)]
      have : k.toNat < ns.length := by omega
      simp [this]
    simp [g__law_cell, h, this]
  · simp [g__law_cell, h]
theorem m_pick (s : Int) {n : Int} (h : 0 < n) : m__law_pick [.int s, .int n] = .ok (.int (s / 97 % n)) := by
  show endD (g__law_pick [.int s, .int n]) = _
  simp [g__law_pick, h]
theorem atI_pick3 {a b c i : Int} (h0 : 0 ≤ i) (h3 : i < 3) : atI [PyData.int a, .int b, .int c] i = some (.int (if i = 0 then a else if i = 1 then b else c)) := by
  have : i = 0 ∨ i = 1 ∨ i = 2 := by omega
  rcases this with rfl | rfl | rfl <;> rfl
theorem m_offer (s : Int) {n : Int} (h1 : 1 ≤ n) (h3 : n ≤ 3) : ∃ o : Off, o.Good n ∧ m__law_offer [.int s, .int n] = .ok (encO o) := by
  show ∃ o : Off, o.Good n ∧ endD (g__law_offer [.int s, .int n, .none, .none, .none, .none, .none, .none, .none]) = _
  obtain ⟨w, hw⟩ : ∃ w, w = s / 7 % n := ⟨_, rfl⟩
  obtain ⟨p, hp⟩ : ∃ p, p = 1 + s / 11 % (if s / 13 % 3 = 0 then 99 else if s / 13 % 3 = 1 then 20 else 9) := ⟨_, rfl⟩
  obtain ⟨b, hb⟩ : ∃ b : Int, b = (if s / 19 % 3 = 0 then 6 else if s / 19 % 3 = 1 then 3 else 2) := ⟨_, rfl⟩
  obtain ⟨m, hm⟩ : ∃ m, m = 2 + s / 17 % 4 := ⟨_, rfl⟩
  have w0 : 0 ≤ w := by rw [hw]; exact Int.emod_nonneg _ (by omega)
  have wn : w < n := by rw [hw]; exact Int.emod_lt_of_pos _ (by omega)
  have q1 : (0 : Int) < (if s / 13 % 3 = 0 then 99 else if s / 13 % 3 = 1 then 20 else 9) := by split <;> (try split) <;> omega
  have p1 : 1 ≤ p ∧ p ≤ 99 := by
    have := Int.emod_nonneg (s / 11) (show (if s / 13 % 3 = 0 then 99 else if s / 13 % 3 = 1 then 20 else 9 : Int) ≠ 0 by omega)
    have := Int.emod_lt_of_pos (s / 11) q1
    have : (if s / 13 % 3 = 0 then 99 else if s / 13 % 3 = 1 then 20 else 9 : Int) ≤ 99 := by split <;> (try split) <;> omega
    omega
  have b0 : 0 < b ∧ b ≤ 6 := by rw [hb]; split <;> (try split) <;> omega
  have hm' : 2 ≤ m ∧ m ≤ 5 := by omega
  have e1 : atI [PyData.int 99, .int 20, .int 9] (s / 13 % 3) = some (.int (if s / 13 % 3 = 0 then 99 else if s / 13 % 3 = 1 then 20 else 9)) := atI_pick3 (by omega) (by omega)
  have e2 : atI [PyData.int 6, .int 3, .int 2] (s / 19 % 3) = some (.int b) := by rw [hb]; exact atI_pick3 (by omega) (by omega)
  obtain ⟨cs0, hcs⟩ : ∃ cs : List Int, cs = (List.range n.toNat).map fun (i : Nat) => seedZ s i / 7 % b := ⟨_, rfl⟩
  have l0 : cs0.length = n.toNat := by rw [hcs]; simp
  have c0 : ∀ c ∈ cs0, 0 ≤ c ∧ c ≤ 5 := by
    intro c hc
    rw [hcs] at hc
    obtain ⟨i, _, rfl⟩ := List.mem_map.mp hc
    have h1 := Int.emod_nonneg (seedZ s i / 7) (show b ≠ 0 by omega)
    have h2 := Int.emod_lt_of_pos (seedZ s i / 7) b0.1
    omega
  have hwn : w.toNat < cs0.length := by omega
  have ix : ixN cs0.length w = some w.toNat := ixN_in w0 (by omega)
  have ea : atI (cs0.map PyData.int) w = some (.int cs0[w.toNat]) := by
    unfold atI
    rw [List.length_map, ix]
    simp [hwn]
  obtain ⟨cs, hcs2⟩ : ∃ cs : List Int, cs = cs0.set w.toNat (if cs0[w.toNat] > 1 then cs0[w.toNat] else 1) := ⟨_, rfl⟩
  have hj : (cs.length : Int) = n ∧ (∀ c ∈ cs, 0 ≤ c ∧ c ≤ 5) ∧ ∃ c ∈ cs, 0 < c := by
    have hq : 0 < (if cs0[w.toNat] > 1 then cs0[w.toNat] else 1) ∧ (if cs0[w.toNat] > 1 then cs0[w.toNat] else 1) ≤ 5 := by
      have := c0 _ (List.getElem_mem hwn)
      split <;> omega
    refine ⟨by rw [hcs2, List.length_set]; omega, fun c hc => ?_, ⟨_, ?_, hq.1⟩⟩
    · rw [hcs2] at hc
      rcases List.mem_or_eq_of_mem_set hc with h | h
      · exact c0 c h
      · rw [h]; omega
    · rw [hcs2]; exact List.mem_set hwn _
  have lc : ∀ r : Rw, r.length = 9 → look r 0 = .int s → compD (eltD (tName 8) gYes (gB dMod (gB dFdiv (gF m__law_seed (gCons (gV 0) (gCons (gV 8) gNil))) (gC (.int 7))) (gB dIx (gL lstD (gCons (gC (.int 6)) (gCons (gC (.int 3)) (gCons (gC (.int 2)) gNil)))) (gB dMod (gB dFdiv (gV 0) (gC (.int 19))) (gC (.int 3))))) r) (rangeD 0 n.toNat) = some (cs0.map PyData.int) := by
    intro r hr h0
    rw [compD_map (h := fun d => match d with | .int i => .int (seedZ s i / 7 % b) | d => d)]
    · rw [hcs]; unfold rangeD; simp
    · intro d hd
      obtain ⟨i, hi, rfl⟩ := mem_rangeD hd
      refine ev_elt1 ?_
      have k0 : look (r.set 8 (.int (0 + (i : Int)))) 0 = .int s := by
        rw [← h0]; unfold look; rw [List.getD_eq_getElem?_getD, List.getElem?_set_ne (by decide), List.getD_eq_getElem?_getD]
      have k8 : look (r.set 8 (.int (0 + (i : Int)))) 8 = .int i := by
        unfold look; rw [List.getD_eq_getElem?_getD, List.getElem?_set_self (by omega)]; simp
      simp only [ev_gB, ev_gF, ev_gCons, ev_gNil, ev_gV, ev_gC, ev_gL, k0, k8, ev_bind, m_seed, ev_fdiv (show (0 : Int) < 7 ∧ (7 : Int) < 1073741824 by decide), ev_lift]
      simp [ev_lstD, e2, b0.1]
  refine ⟨?o, ?g, ?e⟩
  case o => exact if s / 97 % 7 < 3 then .joined cs p else if s / 97 % 7 = 3 ∨ s / 97 % 7 = 4 then .each w p else if s / 97 % 7 = 5 then .pack w m p else .tier w m p
  case g =>
    split
    · exact ⟨hj.1, hj.2.1, hj.2.2, p1.1, p1.2⟩
    · split
      · exact ⟨w0, wn, p1.1, p1.2⟩
      · split <;> exact ⟨w0, wn, hm'.1, hm'.2, p1.1, p1.2⟩
  unfold g__law_offer
  rw [ev_seq (r' := [.int s, .int n, .int w, .none, .none, .none, .none, .none, .none]) (by simp [show (0 : Int) < n by omega, hw])]
  rw [ev_seq (r' := [.int s, .int n, .int w, .int p, .none, .none, .none, .none, .none]) (by simp [ev_lstD, e1, hp, q1])]
  rw [ev_seq (r' := [.int s, .int n, .int w, .int p, .int m, .none, .none, .none, .none]) (by simp [hm])]
  rw [ev_seq (r' := [.int s, .int n, .int w, .int p, .int m, .list (cs0.map PyData.int), .none, .none, .none]) (by
    rw [ev_gSet, ev_gLc]
    simp only [ev_gIt, ev_gV, ev_bind, ev_look0, ev_lookS, ev_rng1 (show 0 ≤ n ∧ n ≤ 1000 by omega), ev_lift]
    rw [lc _ rfl rfl]; rfl)]
  rw [ev_seq (r' := [.int s, .int n, .int w, .int p, .int m, .list (cs.map PyData.int), .none, .none, .none]) (by
    unfold gPutL
    simp [ea, dMax2, ix, hcs2, List.map_set])]
  rw [ev_seq (r' := [.int s, .int n, .int w, .int p, .int m, .list (cs.map PyData.int), .int (s / 97 % 7), .none, .none]) (by simp [m_pick])]
  by_cases h : s / 97 % 7 < 3
  · simp [h, ev_tupD, dTuple, encO]
  · have h7 : s / 97 % 7 = 3 ∨ s / 97 % 7 = 4 ∨ s / 97 % 7 = 5 ∨ s / 97 % 7 = 6 := by omega
    rcases h7 with h | h | h | h <;> simp [h, ev_tupD, ev_lstD, encO] <;> rfl
theorem m_list (ns : List Int) {k : Int} (hk : 0 ≤ k) : ∃ (n : Int) (os : List Off), GoodL n os ∧ m__law_list [scrD ns, .int k] = .ok (encL n os) := by
  show ∃ (n : Int) (os : List Off), GoodL n os ∧ endD (g__law_list [scrD ns, .int k, .none, .none, .none, .none]) = _
  obtain ⟨f, hf⟩ : ∃ f, f = seedZ (cellZ ns k) 0 := ⟨_, rfl⟩
  obtain ⟨n, hn⟩ : ∃ n, n = 1 + f / 5 % 3 := ⟨_, rfl⟩
  obtain ⟨t, ht⟩ : ∃ t, t = (if f / 11 % 3 = 0 then 6 else if f / 11 % 3 = 1 then f / 7 % 7 else 2 + f / 7 % 3) := ⟨_, rfl⟩
  have n1 : 1 ≤ n := by omega
  have n3 : n ≤ 3 := by omega
  have t0 : 0 ≤ t ∧ t ≤ 6 := by rw [ht]; split <;> (try split) <;> omega
  have e1 : atI [PyData.int 6, .int (f / 7 % 7), .int (2 + f / 7 % 3)] (f / 11 % 3) = some (.int t) := by rw [ht]; exact atI_pick3 (by omega) (by omega)
  unfold g__law_list
  rw [ev_seq (r' := [scrD ns, .int k, .int f, .none, .none, .none]) (by simp [m_cell ns k hk, m_seed, hf])]
  rw [ev_seq (r' := [scrD ns, .int k, .int f, .int n, .none, .none]) (by simp [hn])]
  rw [ev_seq (r' := [scrD ns, .int k, .int f, .int n, .list [], .none]) (by simp [ev_lstD])]
  rw [ev_gSeq, ev_gFor]
  simp only [ev_gIt, ev_gB, ev_gL, ev_gCons, ev_gC, ev_gV, ev_gNil, ev_bind, ev_look0, ev_lookS, ev_fdiv (show (0 : Int) < 7 ∧ (7 : Int) < 1073741824 by decide), ev_fdiv (show (0 : Int) < 11 ∧ (11 : Int) < 1073741824 by decide), ev_mod (show (0 : Int) < 7 by decide), ev_mod (show (0 : Int) < 3 by decide), ev_lift, ev_addI, ev_lstD (show [PyData.int 6, .int (f / 7 % 7), .int (2 + f / 7 % 3)].length ≤ 1000 by simp), ev_ixL, e1, ev_rng1 (show 0 ≤ t ∧ t ≤ 1000 by omega), ev_thenS]
  obtain ⟨r, er, os, rfl, hl, hg⟩ := forD_inv (ph := [.im, .im, .dead, .im, .ow, .dead]) (step := turnD (tName 5) (gApp 4 (gF m__law_offer (gCons (gF m__law_seed (gCons (gB dAdd (gF m__law_cell (gCons (gV 0) (gCons (gB dAdd (gB dAdd (gV 1) (gC (.int 1))) (gB dMod (gV 5) (gC (.int 3)))) gNil))) (gB dMul (gC (.int 41)) (gV 5))) (gCons (gV 5) gNil))) (gCons (gV 3) gNil)))))
    (all := rangeD 0 t.toNat) (rho := mask [.im, .im, .dead, .im, .ow, .dead] [scrD ns, .int k, .int f, .int n, .list [], .none]) (fun done rho => ∃ os : List Off, rho = [scrD ns, .int k, .none, .int n, .list (os.map encO), .none] ∧ os.length = done.length ∧ ∀ o ∈ os, o.Good n)
    ⟨[], rfl, rfl, by simp⟩ (by
      rintro done d rest rho e ⟨os, rfl, hl, hg⟩
      have hd : d ∈ rangeD 0 t.toNat := by rw [e]; simp
      obtain ⟨i, hi, rfl⟩ := mem_rangeD hd
      have hlen : done.length + 1 ≤ t.toNat := by
        have := congrArg List.length e
        simp at this; omega
      obtain ⟨o, og, eo⟩ := m_offer (seedZ (cellZ ns (k + 1 + i % 3) + 41 * i) i) n1 n3
      have hm : (-(2 ^ 64) < (41 : Int) ∧ (41 : Int) < 2 ^ 64) ∨ (-(2 ^ 64) < (i : Int) ∧ (i : Int) < 2 ^ 64) := .inl (by decide)
      refine ⟨[scrD ns, .int k, .none, .int n, .list ((os ++ [o]).map encO), .int (0 + (i : Int))], ?_, os ++ [o], rfl, by simp [hl], fun x hx => ?_⟩
      · rw [ev_turn1]
        unfold gApp
        simp only [List.set, ev_look0, ev_lookS, ev_gF, ev_gCons, ev_gB, ev_gV, ev_gC, ev_gNil, ev_bind, ev_lift, ev_addI, ev_mod (show (0 : Int) < 3 by decide), ev_mulI hm, Int.zero_add, m_cell ns (k + 1 + i % 3) (by omega), m_seed, eo, ev_thenS]
        rw [if_pos (sl_lt (by simp; omega))]
        simp
      · rcases List.mem_append.mp hx with h | h
        · exact hg x h
        · rw [List.mem_singleton.mp h]; exact og)
  rw [er]
  refine ⟨n, os, ⟨n1, n3, by simp at hl; omega, hg⟩, ?_⟩
  simp [dTuple, ev_tupD, encL]
end PD
namespace PD
open PySem L2
/-! ### what is looked at -/
def withB (d : PyData) (lo hi : Int) : Bool := match d with
  | .int i => decide (lo ≤ i) && decide (i ≤ hi)
  | _ => false
theorem m_within {d : PyData} {lo hi : Int} (h : notDict d = true) : m_is_within [d, .int lo, .int hi] = .ok (.bool (withB d lo hi)) := by
  show endD (g_is_within [d, .int lo, .int hi]) = _
  cases d <;> (try cases h) <;> simp [g_is_within, withB]
  rename_i i
  by_cases c : lo ≤ i <;> simp [c]
theorem m_lawin {d : PyData} {lo hi : Int} (h : notDict d = true) : m__law_in [d, .int lo, .int hi] = .ok (.bool (withB d lo hi)) := by
  show endD (g__law_in [d, .int lo, .int hi]) = _
  cases d <;> (try cases h) <;> simp [g__law_in, withB]
  rename_i i
  by_cases c : lo ≤ i <;> simp [c]
@[simp] theorem m_withinI (i lo hi : Int) : m_is_within [.int i, .int lo, .int hi] = .ok (.bool (decide (lo ≤ i) && decide (i ≤ hi))) := m_within rfl
@[simp] theorem m_lawinI (i lo hi : Int) : m__law_in [.int i, .int lo, .int hi] = .ok (.bool (decide (lo ≤ i) && decide (i ≤ hi))) := m_lawin rfl
theorem dEq_str {x y : Str} (hx : (PyData.str x).canLay0 = true) (hy : (PyData.str y).canLay0 = true) : dEq (.str x) (.str y) = some (.bool (x == y)) := by
  unfold dEq
  rw [(shp_str hx).shaped (by decide), (shp_str hy).shaped (by decide)]; rfl
theorem dNe_str {x y : Str} (hx : (PyData.str x).canLay0 = true) (hy : (PyData.str y).canLay0 = true) : dNe (.str x) (.str y) = some (.bool (!(x == y))) := by
  unfold dNe
  rw [(shp_str hx).shaped (by decide), (shp_str hy).shaped (by decide)]; rfl
theorem atI_ofNat {α : Type} {xs : List α} {x : α} (i : Nat) (h : xs[i]? = some x) : atI xs (no_index (OfNat.ofNat i)) = some x := atI_nat (i := i) h
theorem sum_pos {cs : List Int} (h0 : ∀ c ∈ cs, 0 ≤ c) (h : ∃ c ∈ cs, 0 < c) : 0 < cs.sum := by
  have nn : ∀ ds : List Int, (∀ c ∈ ds, 0 ≤ c) → 0 ≤ ds.sum := by
    intro ds
    induction ds with
    | nil => intro _; simp
    | cons d ds ih => intro H; have h1 := H d List.mem_cons_self; have h2 := ih fun x hx => H x (List.mem_cons_of_mem _ hx); rw [List.sum_cons]; omega
  induction cs with
  | nil => obtain ⟨c, hc, _⟩ := h; simp at hc
  | cons d ds ih =>
    obtain ⟨c, hc, h⟩ := h
    have h1 := h0 d List.mem_cons_self
    have h2 := nn ds fun x hx => h0 x (List.mem_cons_of_mem _ hx)
    rw [List.sum_cons]
    rcases List.mem_cons.mp hc with e | e
    · omega
    · have := ih (fun x hx => h0 x (List.mem_cons_of_mem _ hx)) ⟨c, e, h⟩; omega
theorem good_none {cs : List Int} {r : Rw} {i : Nat} (hr : i < r.length) (h : ∀ c ∈ cs, 0 ≤ c ∧ c ≤ 5) : compD (eltD (tName i) (gNotT (gTr (gF m_is_within (gCons (gV i) (gCons (gC (.int 0)) (gCons (gC (.int 5)) gNil)))))) (gV i) r) (cs.map PyData.int) = some [] := by
  rw [compD_of (c := fun _ => false) (h := id)]
  · simp
  · intro d hd
    obtain ⟨c, hc, rfl⟩ := List.mem_map.mp hd
    have hh := h c hc
    have k : look (r.set i (.int c)) i = .int c := by unfold look; rw [List.getD_eq_getElem?_getD, List.getElem?_set_self hr]; rfl
    rw [ev_eltC (b := false) (y := .int c) (by simp [k, hh.1, hh.2]) (by simp [k])]; rfl
theorem good_none' {cs : List Int} {r : Rw} {i : Nat} (hr : i < r.length) (h : ∀ c ∈ cs, 0 ≤ c ∧ c ≤ 5) : compD (eltD (tName i) (gNotT (gTr (gF m__law_in (gCons (gV i) (gCons (gC (.int 0)) (gCons (gC (.int 5)) gNil)))))) (gV i) r) (cs.map PyData.int) = some [] := by
  rw [compD_of (c := fun _ => false) (h := id)]
  · simp
  · intro d hd
    obtain ⟨c, hc, rfl⟩ := List.mem_map.mp hd
    have hh := h c hc
    have k : look (r.set i (.int c)) i = .int c := by unfold look; rw [List.getD_eq_getElem?_getD, List.getElem?_set_self hr]; rfl
    rw [ev_eltC (b := false) (y := .int c) (by simp [k, hh.1, hh.2]) (by simp [k])]; rfl
theorem lay_joined : (PyData.str "joined").canLay0 = true := by decide +kernel
theorem lay_each : (PyData.str "each").canLay0 = true := by decide +kernel
theorem lay_pack : (PyData.str "pack").canLay0 = true := by decide +kernel
theorem lay_tier : (PyData.str "tier").canLay0 = true := by decide +kernel
@[simp] theorem eq_joined_joined : dEq (.str "joined") (.str "joined") = some (.bool true) := (dEq_str lay_joined lay_joined).trans (by rw [show (("joined" : Str) == "joined") = true by decide +kernel])
@[simp] theorem ne_joined_joined : dNe (.str "joined") (.str "joined") = some (.bool false) := (dNe_str lay_joined lay_joined).trans (by rw [show (("joined" : Str) == "joined") = true by decide +kernel]; rfl)
@[simp] theorem eq_joined_each : dEq (.str "joined") (.str "each") = some (.bool false) := (dEq_str lay_joined lay_each).trans (by rw [show (("joined" : Str) == "each") = false by decide +kernel])
@[simp] theorem ne_joined_each : dNe (.str "joined") (.str "each") = some (.bool true) := (dNe_str lay_joined lay_each).trans (by rw [show (("joined" : Str) == "each") = false by decide +kernel]; rfl)
@[simp] theorem eq_each_joined : dEq (.str "each") (.str "joined") = some (.bool false) := (dEq_str lay_each lay_joined).trans (by rw [show (("each" : Str) == "joined") = false by decide +kernel])
@[simp] theorem ne_each_joined : dNe (.str "each") (.str "joined") = some (.bool true) := (dNe_str lay_each lay_joined).trans (by rw [show (("each" : Str) == "joined") = false by decide +kernel]; rfl)
@[simp] theorem eq_each_each : dEq (.str "each") (.str "each") = some (.bool true) := (dEq_str lay_each lay_each).trans (by rw [show (("each" : Str) == "each") = true by decide +kernel])
@[simp] theorem ne_each_each : dNe (.str "each") (.str "each") = some (.bool false) := (dNe_str lay_each lay_each).trans (by rw [show (("each" : Str) == "each") = true by decide +kernel]; rfl)
@[simp] theorem eq_pack_joined : dEq (.str "pack") (.str "joined") = some (.bool false) := (dEq_str lay_pack lay_joined).trans (by rw [show (("pack" : Str) == "joined") = false by decide +kernel])
@[simp] theorem ne_pack_joined : dNe (.str "pack") (.str "joined") = some (.bool true) := (dNe_str lay_pack lay_joined).trans (by rw [show (("pack" : Str) == "joined") = false by decide +kernel]; rfl)
@[simp] theorem eq_pack_each : dEq (.str "pack") (.str "each") = some (.bool false) := (dEq_str lay_pack lay_each).trans (by rw [show (("pack" : Str) == "each") = false by decide +kernel])
@[simp] theorem ne_pack_each : dNe (.str "pack") (.str "each") = some (.bool true) := (dNe_str lay_pack lay_each).trans (by rw [show (("pack" : Str) == "each") = false by decide +kernel]; rfl)
@[simp] theorem eq_tier_joined : dEq (.str "tier") (.str "joined") = some (.bool false) := (dEq_str lay_tier lay_joined).trans (by rw [show (("tier" : Str) == "joined") = false by decide +kernel])
@[simp] theorem ne_tier_joined : dNe (.str "tier") (.str "joined") = some (.bool true) := (dNe_str lay_tier lay_joined).trans (by rw [show (("tier" : Str) == "joined") = false by decide +kernel]; rfl)
@[simp] theorem eq_tier_each : dEq (.str "tier") (.str "each") = some (.bool false) := (dEq_str lay_tier lay_each).trans (by rw [show (("tier" : Str) == "each") = false by decide +kernel])
@[simp] theorem ne_tier_each : dNe (.str "tier") (.str "each") = some (.bool true) := (dNe_str lay_tier lay_each).trans (by rw [show (("tier" : Str) == "each") = false by decide +kernel]; rfl)
@[simp] theorem disp_each (z : PyData) : disp3 "each" 3 "pack" 4 "tier" 4 (.str "each") z = some (.int 3) := by unfold disp3; simp [show ¬ (("each" : Str) = "tier") by decide +kernel, show ¬ (("each" : Str) = "pack") by decide +kernel, show ¬ (("pack" : Str) = "tier") by decide +kernel]
@[simp] theorem disp_pack (z : PyData) : disp3 "each" 3 "pack" 4 "tier" 4 (.str "pack") z = some (.int 4) := by unfold disp3; simp [show ¬ (("each" : Str) = "tier") by decide +kernel, show ¬ (("each" : Str) = "pack") by decide +kernel, show ¬ (("pack" : Str) = "tier") by decide +kernel]
@[simp] theorem disp_tier (z : PyData) : disp3 "each" 3 "pack" 4 "tier" 4 (.str "tier") z = some (.int 4) := by unfold disp3; simp [show ¬ (("each" : Str) = "tier") by decide +kernel, show ¬ (("each" : Str) = "pack") by decide +kernel, show ¬ (("pack" : Str) = "tier") by decide +kernel]
@[simp] theorem at_0 (a : PyData) (l : List PyData) : atI (a :: l) 0 = some a := atI_nat (i := 0) rfl
@[simp] theorem at_1 (a b : PyData) (l : List PyData) : atI (a :: b :: l) 1 = some b := atI_nat (i := 1) rfl
@[simp] theorem at_2 (a b c : PyData) (l : List PyData) : atI (a :: b :: c :: l) 2 = some c := atI_nat (i := 2) rfl
@[simp] theorem at_3 (a b c d : PyData) (l : List PyData) : atI (a :: b :: c :: d :: l) 3 = some d := atI_nat (i := 3) rfl
@[simp] theorem at_m3 (a b c : PyData) : atI [a, b, c] (-1) = some c := rfl
@[simp] theorem at_m4 (a b c d : PyData) : atI [a, b, c, d] (-1) = some d := rfl
@[simp] theorem ev_neg (i : Int) : dNeg (.int i) = some (.int (-i)) := rfl
@[simp] theorem ev_truT (xs : List PyData) : truD (.tuple xs) = some (!xs.isEmpty) := rfl
@[simp] theorem ev_truL (xs : List PyData) : truD (.list xs) = some (!xs.isEmpty) := rfl
@[simp] theorem ev_truN : truD .none = some false := rfl
@[simp] theorem ev_sumT (cs : List Int) : dSum [.tuple (cs.map PyData.int)] = some (.int cs.sum) := by unfold dSum; simp [intsD_map]
@[simp] theorem ev_sumL (cs : List Int) : dSum [.list (cs.map PyData.int)] = some (.int cs.sum) := by unfold dSum; simp [intsD_map]
theorem m_isoffer {n : Int} {o : Off} (h : o.Good n) : m_is_offer [.int n, encO o] = .ok (.bool true) := by
  show endD (g_is_offer [.int n, encO o, .none]) = _
  cases o with
  | each w p =>
    obtain ⟨h1, h2, h3, h4⟩ := h
    have h2' : w ≤ n - 1 := by omega
    simp [g_is_offer, encO, h1, h2', h3, h4]
  | pack w m p =>
    obtain ⟨h1, h2, h3, h4, h5, h6⟩ := h
    have h2' : w ≤ n - 1 := by omega
    simp [g_is_offer, encO, h1, h2', h3, h4, h5, h6]
  | tier w m p =>
    obtain ⟨h1, h2, h3, h4, h5, h6⟩ := h
    have h2' : w ≤ n - 1 := by omega
    simp [g_is_offer, encO, h1, h2', h3, h4, h5, h6]
  | joined cs p =>
    obtain ⟨h1, h2, h3, h4, h5⟩ := h
    have h6 := sum_pos (fun c hc => (h2 c hc).1) h3
    have h7 : cs.sum ≠ 0 := by omega
    have h8 := good_none (r := [.int n, .tuple [.str "joined", .tuple (cs.map PyData.int), .int p], .none]) (i := 2) (by simp) h2
    simp [g_is_offer, encO, h1, h7, h4, h5, h8]
theorem m_islist {n : Int} {os : List Off} (h : GoodL n os) : m_is_list [encL n os] = .ok (.bool true) := by
  show endD (g_is_list [encL n os, .none]) = _
  have h1 := h.n1
  have h3 := h.n3
  have h6 : ¬ (6 < (os.length : Int)) := by have := h.l6; omega
  have hc : compD (eltD (tName 1) (gNotT (gTr (gF m_is_offer (gCons (gB dIx (gV 0) (gC (.int 0))) (gCons (gV 1) gNil))))) (gV 1) [encL n os, .none]) (os.map encO) = some [] := by
    rw [compD_of (c := fun _ => false) (h := id)]
    · simp
    · intro d hd
      obtain ⟨o, ho, rfl⟩ := List.mem_map.mp hd
      rw [ev_eltC (b := false) (y := encO o) (by simp [encL, m_isoffer (h.g o ho)]) (by simp)]; rfl
  unfold encL at hc
  simp [g_is_list, encL, h1, h3, h6, hc]
theorem m_looks {n : Int} {os : List Off} (h : GoodL n os) : m_look [encL n os] = .ok .none := by
  show endD (g_look [encL n os]) = _
  simp [g_look, m_islist h]
end PD
namespace PD
open PySem L2
theorem maxZ_pos {cs : List Int} {c : Int} (h : ∃ x ∈ c :: cs, 0 < x) : 0 < maxZ c cs := by
  obtain ⟨x, hx, h0⟩ := h
  obtain ⟨_, h2, h3⟩ := maxZ_spec cs c
  rcases List.mem_cons.mp hx with rfl | e
  · omega
  · have := h3 x e; omega
theorem m_lawoffer {n : Int} {o : Off} (h : o.Good n) : m__law_is_offer [encO o, .int n] = .ok (.bool true) := by
  show endD (g__law_is_offer [encO o, .int n, .none]) = _
  cases o with
  | each w p =>
    obtain ⟨h1, h2, h3, h4⟩ := h
    have h2' : w ≤ n - 1 := by omega
    simp [g__law_is_offer, encO, h1, h2', h3, h4]
  | pack w m p =>
    obtain ⟨h1, h2, h3, h4, h5, h6⟩ := h
    have h2' : w ≤ n - 1 := by omega
    have : dIn false (.str "pack") (.tuple [.str "pack", .str "tier"]) = some (.bool true) := by rfl
    simp [g__law_is_offer, encO, h1, h2', h3, h4, h5, h6, ev_tupD, this]
  | tier w m p =>
    obtain ⟨h1, h2, h3, h4, h5, h6⟩ := h
    have h2' : w ≤ n - 1 := by omega
    have : dIn false (.str "tier") (.tuple [.str "pack", .str "tier"]) = some (.bool true) := by rfl
    simp [g__law_is_offer, encO, h1, h2', h3, h4, h5, h6, ev_tupD, this]
  | joined cs p =>
    obtain ⟨h1, h2, h3, h4, h5⟩ := h
    have h8 := good_none' (r := [.tuple [.str "joined", .tuple (cs.map PyData.int), .int p], .int n, .none]) (i := 2) (by simp) h2
    cases cs with
    | nil => obtain ⟨c, hc, _⟩ := h3; simp at hc
    | cons c cs =>
      have h9 : pickD maxZ [.tuple ((c :: cs).map PyData.int)] = some (.int (maxZ c cs)) := by unfold pickD; simp only [intsD_map]; rfl
      have h10 := maxZ_pos h3
      have h11 : dEq (.list []) (.list []) = some (.bool true) := dEq_self (n := 1) (shp_lst (n := 0) (by simp)) (by decide)
      have h12 : (((c :: cs).map PyData.int).length : Int) = n := by rw [List.length_map]; exact h1
      unfold g__law_is_offer
      simp only [List.map_cons] at h8 h9 h12
      simp only [encO, List.map_cons, ev_gSeq, ev_gIfS, ev_gOrT, ev_gNotT, ev_gTr, ev_gU, ev_gV, ev_look0, ev_lookS, ev_bind, isi_tup_tuple, ev_lift, ev_truB]
      simp [h8, h9, h10, h11, h4, h5, ev_lstD]
      simp at h12
      simp [h12, h8, h9, h10, h11]
def okB (r : Rs PyData) (b : Bool) : Bool := match r with
  | .ok (.bool c) => c == b
  | _ => false
theorem okB_of {r : Rs PyData} {b : Bool} (h : okB r b = true) : r = .ok (.bool b) := by
  unfold okB at h
  split at h
  · rw [beq_iff_eq.mp h]
  · cases h
/-- what is handed in as an offer, and whether it is one -/
structure Odd (n : Int) (d : PyData) (b : Bool) : Prop where
  a : m_is_offer [.int n, d] = .ok (.bool b)
  l : m__law_is_offer [d, .int n] = .ok (.bool b)
  s : Shp 3 d
theorem odd_good {n : Int} {o : Off} (h : o.Good n) : Odd n (encO o) true := ⟨m_isoffer h, m_lawoffer h, (shp_encO o).mono (by decide)⟩
def oddL (n : Int) : List PyData := [.none, .tuple [.str "each", .int n, .int 5], .tuple [.str "pack", .int 0, .int 1, .int 5], .tuple [.str "joined", .tuple (repD [.int 0] n), .int 5], .tuple [.str "tier", .int 0, .int 2]] ++
  [.list [.str "each", .int 0, .int 5], .tuple [.str "each", .int 0, .int 0], .tuple [.str "pack", .int 0, .int 6, .int 5], .tuple [.str "tier", .int 0, .int 6, .int 5], .tuple [.str "each", .int 0, .int 100]] ++
  [.tuple [.str "joined", .tuple ([.int 6] ++ repD [.int 0] (n - 1)), .int 5], .tuple [.str "joined", .tuple (repD [.int 5] n), .int 99]]
theorem odd_all {n : Int} (h1 : 1 ≤ n) (h3 : n ≤ 3) : ∀ d ∈ oddL n, ∃ b, Odd n d b := by
  have : n = 1 ∨ n = 2 ∨ n = 3 := by omega
  have sw : ∀ {x : Str}, (PyData.str x).canLay0 = true → Shp 2 (.str x) := fun h => (shp_str h).mono (by decide)
  intro d hd
  rcases this with rfl | rfl | rfl <;> simp only [oddL, List.cons_append, List.nil_append, List.mem_cons, List.not_mem_nil, or_false] at hd <;> (rcases hd with rfl | rfl | rfl | rfl | rfl | rfl | rfl | rfl | rfl | rfl | rfl | rfl) <;> first | exact ⟨false, okB_of (by decide +kernel), okB_of (by decide +kernel), by decide +kernel, by decide +kernel⟩ | exact ⟨true, okB_of (by decide +kernel), okB_of (by decide +kernel), by decide +kernel, by decide +kernel⟩
@[simp] theorem ev_addT {xs ys : List PyData} (h : xs.length + ys.length ≤ 1000) : dAdd (.tuple xs) (.tuple ys) = some (.tuple (xs ++ ys)) := by show (if _ then _ else _) = _; rw [if_pos (sl_big h)]
@[simp] theorem ev_addL {xs ys : List PyData} (h : xs.length + ys.length ≤ 1000) : dAdd (.list xs) (.list ys) = some (.list (xs ++ ys)) := by show (if _ then _ else _) = _; rw [if_pos (sl_big h)]
theorem m_withoffer {n : Int} {os : List Off} {d : PyData} {b : Bool} (h : GoodL n os) (hd : m_is_offer [.int n, d] = .ok (.bool b)) :
    m_with_offer [encL n os, d] = if b then (if os.length = 6 then .error (.exc "Full") else .ok (.tuple [.int n, .tuple (os.map encO ++ [d])])) else .error (.exc "BadOffer") := by
  show endD (g_with_offer [encL n os, d]) = _
  have l6 := h.l6
  have hl := m_looks h
  cases b
  · unfold encL at hl ⊢
    simp [g_with_offer, hd, hl]
  · unfold encL at hl ⊢
    by_cases c : os.length = 6
    · simp [g_with_offer, hd, hl, c]
    · have c' : ¬ ((os.length : Int) = 6) := by omega
      have c2 : (os.map encO).length + [d].length ≤ 1000 := by simp; omega
      simp only [g_with_offer, ev_gSeq, ev_gDrop, ev_gF, ev_gCons, ev_gV, ev_gNil, ev_look0, ev_lookS, ev_bind, hl, ev_thenS, ev_gIfS, ev_gNotT, ev_gTr, ev_gB, ev_gC, ev_ixT, at_0, at_1, ev_lift, hd, ev_truB, ev_gTb, ev_gL, ev_lenT, ev_eqI, ev_boolD, List.length_map, ev_gRet, ev_tupD (show [d].length ≤ 1000 by simp), ev_addT c2]
      simp [c, c', ev_tupD, ev_addT c2]
theorem cut_lo (xs : List PyData) (i : Nat) (h : i ≤ xs.length) : cutD xs none (some (i : Int)) = xs.take i := by
  unfold cutD; rw [HT.sIx_none, HT.sIx_nat]; simp [Nat.min_eq_left h]
theorem cut_hi (xs : List PyData) (i : Nat) (h : i ≤ xs.length) : cutD xs (some (i : Int)) none = xs.drop i := by
  unfold cutD; rw [HT.sIx_none, HT.sIx_nat, Nat.min_eq_left h]; exact List.take_of_length_le (by simp)
@[simp] theorem ev_gSl (ge : Rw → Rs PyData) (gl gh : Rw → Rs (Option Int)) (r : Rw) : gSl ge gl gh r = ge r >>= fun d => gl r >>= fun lo => gh r >>= fun hi => lift (dSl d lo hi) := rfl
@[simp] theorem ev_gPn (r : Rw) : gPn r = .ok none := rfl
@[simp] theorem ev_gPs (g : Rw → Rs PyData) (r : Rw) : gPs g r = g r >>= fun d => lift ((intD d).map some) := rfl
@[simp] theorem ev_intD (i : Int) : intD (.int i) = some i := rfl
@[simp] theorem ev_slT (xs : List PyData) (lo hi : Option Int) : dSl (.tuple xs) lo hi = some (.tuple (cutD xs lo hi)) := rfl
theorem m_lookplace {n : Int} {os : List Off} {at_ : PyData} (hd : notDict at_ = true) : m_look_place [encL n os, at_] = if withB at_ 0 (os.length - 1) then .ok .none else .error (.exc "BadOffer") := by
  show endD (g_look_place [encL n os, at_]) = _
  unfold encL
  simp only [g_look_place, ev_gIfS, ev_gNotT, ev_gTr, ev_gF, ev_gCons, ev_gV, ev_gC, ev_gNil, ev_gB, ev_gL, ev_look0, ev_lookS, ev_bind, ev_ixT, at_1, ev_lift, ev_lenT, ev_yes, List.length_map, m_within hd, ev_truB, ev_thenS]
  cases withB at_ 0 (os.length - 1) <;> simp
theorem place_of {at_ : PyData} {k : Nat} (h : withB at_ 0 ((k : Int) - 1) = true) : ∃ i : Nat, at_ = .int i ∧ i < k := by
  cases at_ <;> simp [withB] at h
  rename_i i
  exact ⟨i.toNat, by rw [Int.toNat_of_nonneg h.1], by omega⟩
def struckD (n : Int) (ds : List PyData) (i : Nat) : PyData := .tuple [.int n, .tuple (ds.take i ++ ds.drop (i + 1))]
theorem sl_struck {ds : List PyData} {i : Nat} (h : i < ds.length) (h6 : ds.length ≤ 6) : dAdd (.tuple (cutD ds none (some (i : Int)))) (.tuple (cutD ds (some ((i : Int) + 1)) none)) = some (.tuple (ds.take i ++ ds.drop (i + 1))) := by
  rw [cut_lo _ _ (by omega), show ((i : Int) + 1) = ((i + 1 : Nat) : Int) by omega, cut_hi _ _ (by omega), ev_addT]
  simp; omega
theorem m_struckD {n : Int} {os : List Off} {at_ : PyData} (h : GoodL n os) (hd : notDict at_ = true) (i : Nat) (hi : withB at_ 0 (os.length - 1) = true → at_ = .int i) :
    m_struck [encL n os, at_] = if withB at_ 0 (os.length - 1) then .ok (struckD n (os.map encO) i) else .error (.exc "BadOffer") := by
  show endD (g_struck [encL n os, at_]) = _
  have hl := m_looks h
  have hp := m_lookplace (n := n) (os := os) hd
  have h6 := h.l6
  cases c : withB at_ 0 (os.length - 1) with
  | false =>
    rw [c] at hp
    simp [g_struck, hl, hp]
  | true =>
    have hi' := hi c
    subst hi'
    rw [c] at hp
    have c' : i < os.length := by simp [withB] at c; omega
    unfold encL at hl hp ⊢
    have hs := sl_struck (ds := os.map encO) (i := i) (by simpa using c') (by simpa using h6)
    simp [g_struck, hl, hp, hs, ev_tupD, struckD]
def pricedD (n : Int) (ds : List PyData) (i : Nat) (p : PyData) : PyData := match ds[i]? with
  | some (.tuple xs) => .tuple [.int n, .tuple (ds.take i ++ [.tuple (cutD xs none (some (-1)) ++ [p])] ++ ds.drop (i + 1))]
  | _ => .none
theorem cut_len {xs : List PyData} {lo hi : Option Int} : (cutD xs lo hi).length ≤ xs.length := by unfold cutD; simp; omega
theorem encO_tup (o : Off) : ∃ xs, encO o = .tuple xs ∧ xs.length ≤ 4 := by cases o <;> exact ⟨_, rfl, by simp⟩
theorem m_pricedD {n : Int} {os : List Off} {at_ p : PyData} (h : GoodL n os) (hd : notDict at_ = true) (hp : notDict p = true) (i : Nat) (hi : withB at_ 0 (os.length - 1) = true → at_ = .int i) :
    m_priced [encL n os, at_, p] = if withB at_ 0 (os.length - 1) then (if withB p 1 99 then .ok (pricedD n (os.map encO) i p) else .error (.exc "BadPrice")) else .error (.exc "BadOffer") := by
  show endD (g_priced [encL n os, at_, p, .none]) = _
  have hl := m_looks h
  have hq := m_lookplace (n := n) (os := os) hd
  have h6 := h.l6
  cases c : withB at_ 0 (os.length - 1) with
  | false =>
    rw [c] at hq
    simp [g_priced, hl, hq]
  | true =>
    have hi' := hi c
    subst hi'
    rw [c] at hq
    have c' : i < os.length := by simp [withB] at c; omega
    have hw := m_within (lo := 1) (hi := 99) hp
    cases cp : withB p 1 99 with
    | false =>
      rw [cp] at hw
      simp [g_priced, hl, hq, hw]
    | true =>
      rw [cp] at hw
      obtain ⟨xs, ex, lx⟩ := encO_tup os[i]
      have eg : (os.map encO)[i]? = some (.tuple xs) := by rw [List.getElem?_map, List.getElem?_eq_getElem c', ← ex]; rfl
      have ea : atI (os.map encO) (i : Int) = some (.tuple xs) := atI_nat eg
      have ln := cut_len (xs := xs) (lo := none) (hi := some (-1))
      unfold encL at hl hq ⊢
      have s1 := cut_lo (os.map encO) i (by simp; omega)
      have s2 := cut_hi (os.map encO) (i + 1) (by simp; omega)
      rw [show ((i + 1 : Nat) : Int) = (i : Int) + 1 by omega] at s2
      have a1 : dAdd (.tuple (cutD xs none (some (-1)))) (.tuple [p]) = some (.tuple (cutD xs none (some (-1)) ++ [p])) := ev_addT (by simp; omega)
      have a2 : dAdd (.tuple ((os.map encO).take i)) (.tuple [.tuple (cutD xs none (some (-1)) ++ [p])]) = some (.tuple ((os.map encO).take i ++ [.tuple (cutD xs none (some (-1)) ++ [p])])) := ev_addT (by simp; omega)
      have a3 : dAdd (.tuple ((os.map encO).take i ++ [.tuple (cutD xs none (some (-1)) ++ [p])])) (.tuple ((os.map encO).drop (i + 1))) = some (.tuple ((os.map encO).take i ++ [.tuple (cutD xs none (some (-1)) ++ [p])] ++ (os.map encO).drop (i + 1))) := ev_addT (by simp; omega)
      unfold g_priced
      rw [ev_seq (r' := [.tuple [.int n, .tuple (os.map encO)], .int i, p, .none]) (by simp [hl])]
      rw [ev_seq (r' := [.tuple [.int n, .tuple (os.map encO)], .int i, p, .none]) (by simp [hq])]
      rw [ev_seq (r' := [.tuple [.int n, .tuple (os.map encO)], .int i, p, .none]) (by simp [hw])]
      rw [ev_seq (r' := [.tuple [.int n, .tuple (os.map encO)], .int i, p, .tuple (cutD xs none (some (-1)) ++ [p])]) (by
        simp only [ev_gSet, ev_gB, ev_gSl, ev_gV, ev_gC, ev_gPn, ev_gPs, ev_gU, ev_gL, ev_gCons, ev_gNil, ev_bind, ev_look0, ev_lookS, ev_ixT, at_1, ev_lift, ea, ev_neg, ev_intD, Option.map_some, ev_slT, ev_tupD (show [p].length ≤ 1000 by simp), a1, ev_thenS]
        rfl)]
      simp only [ev_gRet, ev_gB, ev_gSl, ev_gV, ev_gC, ev_gPn, ev_gPs, ev_gU, ev_gL, ev_gCons, ev_gNil, ev_bind, ev_look0, ev_lookS, ev_ixT, at_0, at_1, ev_lift, ev_intD, Option.map_some, ev_slT, ev_addI, s1, s2, ev_tupD (show [PyData.tuple (cutD xs none (some (-1)) ++ [p])].length ≤ 1000 by simp), a2, a3, ev_thenS]
      unfold pricedD
      rw [eg]
      simp [ev_tupD]
theorem m_done0 (l d p : PyData) : m__law_done [.int 0, l, d, p] = m_with_offer [l, d] := by
  show endD (g__law_done [.int 0, l, d, p]) = _
  simp [g__law_done]
  cases m_with_offer [l, d] <;> simp
theorem m_done1 (l d p : PyData) : m__law_done [.int 1, l, d, p] = m_struck [l, d] := by
  show endD (g__law_done [.int 1, l, d, p]) = _
  simp [g__law_done]
  cases m_struck [l, d] <;> simp
theorem m_done2 (l d p : PyData) : m__law_done [.int 2, l, d, p] = m_priced [l, d, p] := by
  show endD (g__law_done [.int 2, l, d, p]) = _
  simp [g__law_done]
  cases m_priced [l, d, p] <;> simp
theorem m_told {k l d p x : PyData} (h : m__law_done [k, l, d, p] = .ok x) : m__law_told [k, l, d, p] = .ok x := by
  show endD (g__law_told [k, l, d, p, .none]) = _
  unfold g__law_told
  simp [gTry, h]
theorem m_toldE {k l d p : PyData} {x w : Str} (h : m__law_done [k, l, d, p] = .error (.exc x)) (hx : (x = "BadList" ∧ w = "list") ∨ (x = "BadOffer" ∧ w = "offer") ∨ (x = "BadPrice" ∧ w = "price") ∨ (x = "Full" ∧ w = "full")) : m__law_told [k, l, d, p] = .ok (.str w) := by
  show endD (g__law_told [k, l, d, p, .none]) = _
  unfold g__law_told
  have n1 : ¬ (("BadOffer" : Str) = "BadList") := by decide +kernel
  have n2 : ¬ (("BadPrice" : Str) = "BadList") := by decide +kernel
  have n3 : ¬ (("BadPrice" : Str) = "BadOffer") := by decide +kernel
  have n4 : ¬ (("Full" : Str) = "BadList") := by decide +kernel
  have n5 : ¬ (("Full" : Str) = "BadOffer") := by decide +kernel
  have n6 : ¬ (("Full" : Str) = "BadPrice") := by decide +kernel
  rcases hx with ⟨rfl, rfl⟩ | ⟨rfl, rfl⟩ | ⟨rfl, rfl⟩ | ⟨rfl, rfl⟩ <;> simp [gTry, h, handD, noX, excN, n1, n2, n3, n4, n5, n6]
/-! ### the law -/
structure BadL (d : PyData) : Prop where
  l : m_is_list [d] = .ok (.bool false)
theorem look_bad {d : PyData} (h : BadL d) : m_look [d] = .error (.exc "BadList") := by
  show endD (g_look [d]) = _
  simp [g_look, h.l]
theorem told_bad {d : PyData} (h : BadL d) (k : Int) (hk : k = 0 ∨ k = 1 ∨ k = 2) : m__law_told [.int k, d, .none, .none] = .ok (.str "list") := by
  refine m_toldE (x := "BadList") ?_ (.inl ⟨rfl, rfl⟩)
  rcases hk with rfl | rfl | rfl
  · rw [m_done0]; show endD (g_with_offer [d, .none]) = _; simp [g_with_offer, look_bad h]
  · rw [m_done1]; show endD (g_struck [d, .none]) = _; simp [g_struck, look_bad h]
  · rw [m_done2]; show endD (g_priced [d, .none, .none, .none]) = _; simp [g_priced, look_bad h]
theorem bad_none : BadL .none := ⟨okB_of (by decide +kernel)⟩
theorem bad_4 : BadL (.tuple [.int 4, .tuple []]) := ⟨okB_of (by decide +kernel)⟩
theorem bad_0 : BadL (.tuple [.int 0, .tuple []]) := ⟨okB_of (by decide +kernel)⟩
theorem bad_lst (xs : List PyData) : BadL (.list xs) := ⟨by show endD (g_is_list [.list xs, .none]) = _; simp [g_is_list]⟩
theorem bad_more {n : Int} {os : List Off} (h : GoodL n os) : BadL (.tuple [.int n, .tuple (os.map encO ++ [.none])]) := ⟨by
  show endD (g_is_list [.tuple [.int n, .tuple (os.map encO ++ [.none])], .none]) = _
  have h1 := h.n1
  have h3 := h.n3
  by_cases c : 6 < (os.length : Int) + 1
  · simp [g_is_list, h1, h3, c]
  · have hc : compD (eltD (tName 1) (gNotT (gTr (gF m_is_offer (gCons (gB dIx (gV 0) (gC (.int 0))) (gCons (gV 1) gNil))))) (gV 1) [.tuple [.int n, .tuple (os.map encO ++ [.none])], .none]) (os.map encO ++ [.none]) = some [.none] := by
      have e0 : m_is_offer [.int n, .none] = .ok (.bool false) := by show endD (g_is_offer [.int n, .none, .none]) = _; simp [g_is_offer]
      rw [compD_of (c := fun d => isNoD d) (h := id)]
      · rw [List.filter_append, List.filter_eq_nil_iff.mpr]
        · rfl
        · intro d hd
          obtain ⟨o, ho, rfl⟩ := List.mem_map.mp hd
          cases o <;> simp [encO, isNoD]
      · intro d hd
        rcases List.mem_append.mp hd with hd | hd
        · obtain ⟨o, ho, rfl⟩ := List.mem_map.mp hd
          rw [ev_eltC (b := false) (y := encO o) (by simp [m_isoffer (h.g o ho)]) (by simp)]
          cases o <;> rfl
        · rw [List.mem_singleton.mp hd, ev_eltC (b := true) (y := .none) (by simp [e0]) (by simp)]; rfl
    simp [g_is_list, h1, h3, c, hc]⟩
/-- the first question: with_offer -/
theorem ask0 {n : Int} {os : List Off} {d : PyData} {b : Bool} (h : GoodL n os) (hd : Odd n d b) :
    ∃ x, m__law_told [.int 0, encL n os, d, .none] = .ok x ∧ Shp 5 x ∧ x = (if b then (if os.length < 6 then .tuple [.int n, .tuple (os.map encO ++ [d])] else .str "full") else .str "offer") := by
  have e := (m_done0 (encL n os) d .none).trans (m_withoffer h hd.a)
  have l6 := h.l6
  cases b with
  | false => exact ⟨_, m_toldE e (.inr (.inl ⟨rfl, rfl⟩)), (shp_str (by decide +kernel)).mono (by decide), rfl⟩
  | true =>
    by_cases c : os.length = 6
    · have c' : ¬ os.length < 6 := by omega
      simp only [if_true, c] at e
      exact ⟨_, m_toldE e (.inr (.inr (.inr ⟨rfl, rfl⟩))), (shp_str (by decide +kernel)).mono (by decide), by simp [c']⟩
    · have c' : os.length < 6 := by omega
      simp only [if_true, c] at e
      refine ⟨_, m_told e, ?_, by simp [c']⟩
      refine shp_tup (n := 4) fun x hx => ?_
      simp only [List.mem_cons, List.not_mem_nil, or_false] at hx
      rcases hx with rfl | rfl
      · exact (shp_int n).mono (by decide)
      · refine shp_tup (n := 3) fun y hy => ?_
        rcases List.mem_append.mp hy with hy | hy
        · obtain ⟨o, _, rfl⟩ := List.mem_map.mp hy
          exact (shp_encO o).mono (by decide)
        · rw [List.mem_singleton.mp hy]; exact hd.s
end PD
namespace PD
open PySem L2
theorem atI_mem {xs : List PyData} {i k : Int} (hk : (xs.length : Int) = k) (h0 : 0 < k) : ∃ x ∈ xs, atI xs (i % k) = some x := by
  have h1 := Int.emod_nonneg i (show k ≠ 0 by omega)
  have h2 := Int.emod_lt_of_pos i h0
  obtain ⟨x, hx, _, e⟩ := atI_in (xs := xs) (i := i % k) h1 (by omega)
  exact ⟨x, hx, e⟩
@[simp] theorem ev_mulT {xs : List PyData} {k : Int} (h : -1000 ≤ k ∧ k ≤ 1000 ∧ xs.length ≤ 1000) : dMul (.tuple xs) (.int k) = some (.tuple (repD xs k)) := by show (if _ then _ else _) = _; rw [if_pos h]
@[simp] theorem ev_mulL {xs : List PyData} {k : Int} (h : -1000 ≤ k ∧ k ≤ 1000 ∧ xs.length ≤ 1000) : dMul (.list xs) (.int k) = some (.list (repD xs k)) := by show (if _ then _ else _) = _; rw [if_pos h]
theorem shp_struck {n : Int} {os : List Off} {i : Nat} : Shp 5 (struckD n (os.map encO) i) := by
  refine (shp_tup (n := 3) fun x hx => ?_).mono (by decide)
  simp only [List.mem_cons, List.not_mem_nil, or_false] at hx
  rcases hx with rfl | rfl
  · exact (shp_int n).mono (by decide)
  · refine shp_tup (n := 2) fun y hy => ?_
    have : y ∈ os.map encO := by
      rcases List.mem_append.mp hy with hy | hy
      · exact List.mem_of_mem_take hy
      · exact List.mem_of_mem_drop hy
    obtain ⟨o, _, rfl⟩ := List.mem_map.mp this
    exact shp_encO o
theorem shp_items {n : Nat} {ds : List PyData} (h : Shp (n + 1) (.tuple ds)) {d : PyData} (hd : d ∈ ds) : Shp n d := by
  refine ⟨PyData.canLay0_of_mem ds d h.1 hd, ?_⟩
  have h1 := PyData.depth_le_depthAll ds d hd
  have h2 : PyData.depthAll ds + 1 ≤ n + 1 := h.2
  omega
theorem shp_priced {n : Int} {os : List Off} {i : Nat} {p : PyData} (hp : Shp 0 p) (hi : i < os.length) : Shp 5 (pricedD n (os.map encO) i p) := by
  obtain ⟨xs, ex, lx⟩ := encO_tup os[i]
  have eg : (os.map encO)[i]? = some (.tuple xs) := by rw [List.getElem?_map, List.getElem?_eq_getElem hi, ← ex]; rfl
  have hx := shp_encO os[i]
  rw [ex] at hx
  unfold pricedD
  rw [eg]
  refine (shp_tup (n := 3) fun x hx => ?_).mono (by decide)
  simp only [List.mem_cons, List.not_mem_nil, or_false] at hx
  rcases hx with rfl | rfl
  · exact (shp_int n).mono (by decide)
  · refine shp_tup (n := 2) fun y hy => ?_
    rcases List.mem_append.mp hy with hy | hy
    · rcases List.mem_append.mp hy with hy | hy
      · obtain ⟨o, _, rfl⟩ := List.mem_map.mp (List.mem_of_mem_take hy)
        exact shp_encO o
      · rw [List.mem_singleton.mp hy]
        refine shp_tup (n := 1) fun z hz => ?_
        rcases List.mem_append.mp hz with hz | hz
        · exact shp_items (by assumption) (List.mem_of_mem_drop (List.mem_of_mem_take hz))
        · rw [List.mem_singleton.mp hz]; exact hp.mono (by decide)
    · obtain ⟨o, _, rfl⟩ := List.mem_map.mp (List.mem_of_mem_drop hy)
      exact shp_encO o
theorem law_plain : ∀ ns : List Int, ns.length ≤ 63 → m_law [scrD ns] = .ok (.bool true) := by
  intro ns _
  show endD (g_law [scrD ns, .none, .none, .none, .none, .none, .none, .none, .none, .none, .none, .none, .none]) = _
  obtain ⟨n, os, G, eL⟩ := m_list ns (k := 0) (by decide)
  have n1 := G.n1
  have n3 := G.n3
  have l6 := G.l6
  unfold g_law
  rw [ev_seq (r' := [scrD ns, encL n os, .none, .none, .none, .none, .none, .none, .none, .none, .none, .none, .none]) (by simp [eL])]
  rw [ev_seq (r' := [scrD ns, encL n os, .int n, .tuple (os.map encO), .none, .none, .none, .none, .none, .none, .none, .none, .none]) (by rfl)]
  rw [ev_seq (r' := [scrD ns, encL n os, .int n, .tuple (os.map encO), .list ((oddL n).take 5), .none, .none, .none, .none, .none, .none, .none, .none]) (by
    simp [ev_tupD, ev_lstD, ev_mulT (show -1000 ≤ n ∧ n ≤ 1000 ∧ [PyData.int 0].length ≤ 1000 by simp; omega), oddL])]
  rw [ev_seq (r' := [scrD ns, encL n os, .int n, .tuple (os.map encO), .list ((oddL n).take 10), .none, .none, .none, .none, .none, .none, .none, .none]) (by
    simp [ev_tupD, ev_lstD, oddL, ev_addL])]
  rw [ev_seq (r' := [scrD ns, encL n os, .int n, .tuple (os.map encO), .list (oddL n), .none, .none, .none, .none, .none, .none, .none, .none]) (by
    have : (repD [PyData.int 0] (n - 1)).length ≤ 10 := by unfold repD; simp; omega
    have a1 : dAdd (.tuple [.int 6]) (.tuple (repD [PyData.int 0] (n - 1))) = some (.tuple ([.int 6] ++ repD [PyData.int 0] (n - 1))) := ev_addT (by simp; omega)
    simp [ev_tupD, ev_lstD, oddL, ev_addL, a1, ev_mulT (show -1000 ≤ n - 1 ∧ n - 1 ≤ 1000 ∧ [PyData.int 0].length ≤ 1000 by simp; omega), ev_mulT (show -1000 ≤ n ∧ n ≤ 1000 ∧ [PyData.int 5].length ≤ 1000 by simp; omega)])]
  obtain ⟨o, og, eo⟩ := m_offer (seedZ (cellZ ns 4) 0) n1 n3
  rw [ev_seq (r' := [scrD ns, encL n os, .int n, .tuple (os.map encO), .list (oddL n), encO o, .none, .none, .none, .none, .none, .none, .none]) (by
    simp [m_cell, m_seed, eo])]
  obtain ⟨x6, hx6, e6⟩ := atI_mem (xs := oddL n) (i := cellZ ns 6) (k := 12) (by rfl) (by decide)
  obtain ⟨d, b, hd, e7⟩ : ∃ d b, Odd n d b ∧ (if cellZ ns 5 % 3 = 0 then x6 else encO o) = d := by
    by_cases c : cellZ ns 5 % 3 = 0
    · obtain ⟨b, hb⟩ := odd_all n1 n3 x6 hx6
      exact ⟨_, b, hb, by rw [if_pos c]⟩
    · exact ⟨_, true, odd_good og, by rw [if_neg c]⟩
  rw [ev_seq (r' := [scrD ns, encL n os, .int n, .tuple (os.map encO), .list (oddL n), d, .none, .none, .none, .none, .none, .none, .none]) (by
    by_cases c : cellZ ns 5 % 3 = 0
    · rw [if_pos c] at e7; subst e7; simp [m_cell, c, e6]
    · rw [if_neg c] at e7; subst e7; simp [m_cell, c])]
  obtain ⟨u, hu⟩ : ∃ u : PyData, u = (if os.length < 6 then .tuple [.int n, .tuple (os.map encO ++ [d])] else .str "full") := ⟨_, rfl⟩
  rw [ev_seq (r' := [scrD ns, encL n os, .int n, .tuple (os.map encO), .list (oddL n), d, u, .none, .none, .none, .none, .none, .none]) (by
    have a1 : dAdd (.tuple (os.map encO)) (.tuple [d]) = some (.tuple (os.map encO ++ [d])) := ev_addT (by simp; omega)
    by_cases c : os.length < 6
    · rw [if_pos c] at hu; subst hu
      have c' : (os.length : Int) < 6 := by omega
      simp [c', ev_tupD, a1]
    · rw [if_neg c] at hu; subst hu
      have c' : ¬ (os.length : Int) < 6 := by omega
      simp [c'])]
  rw [ev_seq (r' := [scrD ns, encL n os, .int n, .tuple (os.map encO), .list (oddL n), d, u, .none, .none, .none, .none, .none, .none]) (by
    obtain ⟨x, ex, sx, hx⟩ := ask0 G hd
    rw [← hu] at hx
    have ne := dNe_self sx (by decide)
    cases b with
    | true => simp only [if_true] at hx; subst hx; simp [ex, hd.l, ne]
    | false => simp at hx; subst hx; simp [ex, hd.l, ne])]
  obtain ⟨at_, hat, ea1, ea2⟩ : ∃ x : PyData, (notDict x = true ∧ Shp 0 x) ∧ ∃ j, atI [PyData.int 0, .int 0, .int 0, .int 1, .int 2, .int 3] (cellZ ns 8 % 6) = some (.int j) ∧ atI [PyData.int (cellZ ns 7 % 8 - 1), .none, .bool true, .str "0"] j = some x := by
    obtain ⟨x, hx, e⟩ := atI_mem (xs := [PyData.int 0, .int 0, .int 0, .int 1, .int 2, .int 3]) (i := cellZ ns 8) (k := 6) rfl (by decide)
    simp only [List.mem_cons, List.not_mem_nil, or_false] at hx
    rcases hx with rfl | rfl | rfl | rfl | rfl | rfl
    · exact ⟨_, ⟨rfl, shp_int _⟩, 0, e, rfl⟩
    · exact ⟨_, ⟨rfl, shp_int _⟩, 0, e, rfl⟩
    · exact ⟨_, ⟨rfl, shp_int _⟩, 0, e, rfl⟩
    · exact ⟨_, ⟨rfl, shp_none⟩, 1, e, rfl⟩
    · exact ⟨_, ⟨rfl, shp_bool _⟩, 2, e, rfl⟩
    · exact ⟨_, ⟨rfl, shp_str (by decide +kernel)⟩, 3, e, rfl⟩
  rw [ev_seq (r' := [scrD ns, encL n os, .int n, .tuple (os.map encO), .list (oddL n), d, u, at_, .none, .none, .none, .none, .none]) (by
    simp [m_cell, ev_lstD, ea2.1, ea2.2])]
  obtain ⟨p, hp, ep1, ep2⟩ : ∃ x : PyData, (notDict x = true ∧ Shp 0 x) ∧ ∃ j, atI [PyData.int 0, .int 0, .int 1, .int 2] (cellZ ns 10 % 4) = some (.int j) ∧ atI [PyData.int (cellZ ns 9 % 102 - 1), .none, .bool true] j = some x := by
    obtain ⟨x, hx, e⟩ := atI_mem (xs := [PyData.int 0, .int 0, .int 1, .int 2]) (i := cellZ ns 10) (k := 4) rfl (by decide)
    simp only [List.mem_cons, List.not_mem_nil, or_false] at hx
    rcases hx with rfl | rfl | rfl | rfl
    · exact ⟨_, ⟨rfl, shp_int _⟩, 0, e, rfl⟩
    · exact ⟨_, ⟨rfl, shp_int _⟩, 0, e, rfl⟩
    · exact ⟨_, ⟨rfl, shp_none⟩, 1, e, rfl⟩
    · exact ⟨_, ⟨rfl, shp_bool _⟩, 2, e, rfl⟩
  rw [ev_seq (r' := [scrD ns, encL n os, .int n, .tuple (os.map encO), .list (oddL n), d, u, at_, p, .none, .none, .none, .none]) (by
    simp [m_cell, ev_lstD, ep2.1, ep2.2])]
  obtain ⟨g, hg⟩ : ∃ g, g = withB at_ 0 (os.length - 1) := ⟨_, rfl⟩
  rw [ev_seq (r' := [scrD ns, encL n os, .int n, .tuple (os.map encO), .list (oddL n), d, u, at_, p, .bool g, .none, .none, .none]) (by
    simp [m_lawin hat.1, hg])]
  rw [ev_seq (r' := [scrD ns, encL n os, .int n, .tuple (os.map encO), .list (oddL n), d, .list [.str "offer", .str "offer"], at_, p, .bool g, .none, .none, .none]) (by
    simp [ev_lstD])]
  obtain ⟨i, hi⟩ : ∃ i : Nat, withB at_ 0 (os.length - 1) = true → at_ = .int i := by
    by_cases c : withB at_ 0 (os.length - 1) = true
    · obtain ⟨i, e, _⟩ := place_of c; exact ⟨i, fun _ => e⟩
    · exact ⟨0, fun z => absurd z c⟩
  have es := m_struckD G hat.1 i hi
  have er := m_pricedD G hat.1 hp.1 i hi
  obtain ⟨y, hy⟩ : ∃ y : List PyData, y = (if g then [struckD n (os.map encO) i, if withB p 1 99 then pricedD n (os.map encO) i p else .str "price"] else [.str "offer", .str "offer"]) := ⟨_, rfl⟩
  obtain ⟨z, hz⟩ : ∃ z : PyData, gIfS (gTr (gV 9)) (gSeq (gSet 10 (gB dAdd (gSl (gB dIx (gV 3) (gV 7)) gPn (gPs (gU dNeg (gC (.int 1))))) (gL tupD (gCons (gV 8) gNil)))) (gSeq (gSet 6 (gL lstD (gCons (gL tupD (gCons (gV 2) (gCons (gB dAdd (gSl (gV 3) gPn (gPs (gV 7))) (gSl (gV 3) (gPs (gB dAdd (gV 7) (gC (.int 1)))) gPn)) gNil))) (gCons (gL tupD (gCons (gV 2) (gCons (gB dAdd (gB dAdd (gSl (gV 3) gPn (gPs (gV 7))) (gL tupD (gCons (gV 10) gNil))) (gSl (gV 3) (gPs (gB dAdd (gV 7) (gC (.int 1)))) gPn)) gNil))) gNil)))) (gPutL 6 (gC (.int 1)) (gIf (gTr (gF m__law_in (gCons (gV 8) (gCons (gC (.int 1)) (gCons (gC (.int 99)) gNil))))) (gB dIx (gV 6) (gC (.int 1))) (gC (.str "price")))))) SR.nx
      [scrD ns, encL n os, .int n, .tuple (os.map encO), .list (oddL n), d, .list [.str "offer", .str "offer"], at_, p, .bool g, .none, .none, .none] = .nx [scrD ns, encL n os, .int n, .tuple (os.map encO), .list (oddL n), d, .list y, at_, p, .bool g, z, .none, .none] := by
    cases g with
    | false => exact ⟨.none, by simp at hy; subst hy; simp⟩
    | true =>
      have hi' := hi hg.symm
      subst hi'
      have c' : i < os.length := by simp [withB] at hg; omega
      obtain ⟨xs, ex, lx⟩ := encO_tup os[i]
      have eg : (os.map encO)[i]? = some (.tuple xs) := by rw [List.getElem?_map, List.getElem?_eq_getElem c', ← ex]; rfl
      have ea : atI (os.map encO) (i : Int) = some (.tuple xs) := atI_nat eg
      have ln := cut_len (xs := xs) (lo := none) (hi := some (-1))
      have s1 := cut_lo (os.map encO) i (by simp; omega)
      have s2 := cut_hi (os.map encO) (i + 1) (by simp; omega)
      rw [show ((i + 1 : Nat) : Int) = (i : Int) + 1 by omega] at s2
      have a0 : dAdd (.tuple ((os.map encO).take i)) (.tuple ((os.map encO).drop (i + 1))) = some (.tuple ((os.map encO).take i ++ (os.map encO).drop (i + 1))) := ev_addT (by simp; omega)
      have a1 : dAdd (.tuple (cutD xs none (some (-1)))) (.tuple [p]) = some (.tuple (cutD xs none (some (-1)) ++ [p])) := ev_addT (by simp; omega)
      have a2 : dAdd (.tuple ((os.map encO).take i)) (.tuple [.tuple (cutD xs none (some (-1)) ++ [p])]) = some (.tuple ((os.map encO).take i ++ [.tuple (cutD xs none (some (-1)) ++ [p])])) := ev_addT (by simp; omega)
      have a3 : dAdd (.tuple ((os.map encO).take i ++ [.tuple (cutD xs none (some (-1)) ++ [p])])) (.tuple ((os.map encO).drop (i + 1))) = some (.tuple ((os.map encO).take i ++ [.tuple (cutD xs none (some (-1)) ++ [p])] ++ (os.map encO).drop (i + 1))) := ev_addT (by simp; omega)
      refine ⟨.tuple (cutD xs none (some (-1)) ++ [p]), ?_⟩
      rw [ev_gIfS]
      simp only [ev_gTr, ev_gV, ev_lookS, ev_look0, ev_bind, ev_truB, ev_lift, ev_thenS, if_true]
      rw [ev_seq (r' := [scrD ns, encL n os, .int n, .tuple (os.map encO), .list (oddL n), d, .list [.str "offer", .str "offer"], .int i, p, .bool true, .tuple (cutD xs none (some (-1)) ++ [p]), .none, .none]) (by
        simp only [ev_gSet, ev_gB, ev_gSl, ev_gV, ev_gC, ev_gPn, ev_gPs, ev_gU, ev_gL, ev_gCons, ev_gNil, ev_bind, ev_look0, ev_lookS, ev_ixT, at_1, ev_lift, ea, ev_neg, ev_intD, Option.map_some, ev_slT, ev_tupD (show [p].length ≤ 1000 by simp), a1, ev_thenS]
        rfl)]
      rw [ev_seq (r' := [scrD ns, encL n os, .int n, .tuple (os.map encO), .list (oddL n), d, .list [struckD n (os.map encO) i, pricedD n (os.map encO) i p], .int i, p, .bool true, .tuple (cutD xs none (some (-1)) ++ [p]), .none, .none]) (by
        simp only [ev_gSet, ev_gB, ev_gSl, ev_gV, ev_gC, ev_gPn, ev_gPs, ev_gU, ev_gL, ev_gCons, ev_gNil, ev_bind, ev_look0, ev_lookS, ev_ixT, at_0, at_1, ev_lift, ev_intD, Option.map_some, ev_slT, ev_addI, s1, s2, ev_tupD (show [PyData.tuple (cutD xs none (some (-1)) ++ [p])].length ≤ 1000 by simp), a0, a2, a3, ev_thenS]
        unfold pricedD struckD
        rw [eg]
        simp [ev_tupD, ev_lstD])]
      subst hy
      unfold gPutL
      cases cp : withB p 1 99 <;> simp [m_lawin hp.1, cp] <;> rfl
  rw [ev_seq hz]
  rw [ev_seq (r' := [scrD ns, encL n os, .int n, .tuple (os.map encO), .list (oddL n), d, .list y, at_, p, .bool g, z, .none, .none]) (by
    have t : ∃ x1 x2, m__law_told [.int 1, encL n os, at_, .none] = .ok x1 ∧ m__law_told [.int 2, encL n os, at_, p] = .ok x2 ∧ y = [x1, x2] ∧ Shp 5 x1 ∧ Shp 5 x2 := by
      rw [← hg] at es er
      have sw : ∀ {x : Str}, (PyData.str x).canLay0 = true → Shp 5 (.str x) := fun h => (shp_str h).mono (by decide)
      cases g with
      | false =>
        simp at es er hy
        exact ⟨_, _, m_toldE ((m_done1 _ _ _).trans es) (.inr (.inl ⟨rfl, rfl⟩)), m_toldE ((m_done2 _ _ _).trans er) (.inr (.inl ⟨rfl, rfl⟩)), hy, sw (by decide +kernel), sw (by decide +kernel)⟩
      | true =>
        have hi' := hi hg.symm
        have c' : i < os.length := by subst hi'; simp [withB] at hg; omega
        simp only [if_true] at es er hy
        cases cp : withB p 1 99 with
        | false =>
          rw [cp] at er hy
          exact ⟨_, _, m_told ((m_done1 _ _ _).trans es), m_toldE ((m_done2 _ _ _).trans er) (.inr (.inr (.inl ⟨rfl, rfl⟩))), hy, shp_struck, sw (by decide +kernel)⟩
        | true =>
          rw [cp] at er hy
          exact ⟨_, _, m_told ((m_done1 _ _ _).trans es), m_told ((m_done2 _ _ _).trans er), hy, shp_struck, shp_priced hp.2 c'⟩
    obtain ⟨x1, x2, e1, e2, e3, s1, s2⟩ := t
    subst e3
    have ne : dNe (.list [x1, x2]) (.list [x1, x2]) = some (.bool false) := dNe_self (n := 6) (shp_lst (n := 5) (by simp; exact ⟨s1, s2⟩)) (by decide)
    simp [e1, e2, ev_lstD, ne])]
  have hb : ∃ x, BadL x ∧ atI [.none, .list [.int n, .tuple (os.map encO)], .tuple [.int 4, .tuple []], .tuple [.int n, .tuple (os.map encO ++ [.none])], .tuple [.int 0, .tuple []]] (cellZ ns 11 % 5) = some x := by
    obtain ⟨x, hx, e⟩ := atI_mem (xs := [.none, .list [.int n, .tuple (os.map encO)], .tuple [.int 4, .tuple []], .tuple [.int n, .tuple (os.map encO ++ [.none])], .tuple [.int 0, .tuple []]]) (i := cellZ ns 11) (k := 5) rfl (by decide)
    refine ⟨x, ?_, e⟩
    simp only [List.mem_cons, List.not_mem_nil, or_false] at hx
    rcases hx with rfl | rfl | rfl | rfl | rfl
    · exact bad_none
    · exact bad_lst _
    · exact bad_4
    · exact bad_more G
    · exact bad_0
  obtain ⟨x, bx, ex⟩ := hb
  rw [ev_seq (r' := [scrD ns, encL n os, .int n, .tuple (os.map encO), .list (oddL n), d, .list y, at_, p, .bool g, z, x, .none]) (by
    have a1 : dAdd (.tuple (os.map encO)) (.tuple [.none]) = some (.tuple (os.map encO ++ [.none])) := ev_addT (by simp; omega)
    simp [m_cell, ev_lstD, ev_tupD, dList, a1, encL, ex])]
  have hc : compD (eltD (tName 12) gYes (gF m__law_told (gCons (gV 12) (gCons (gV 11) (gCons (gC .none) (gCons (gC .none) gNil))))) [scrD ns, encL n os, .int n, .tuple (os.map encO), .list (oddL n), d, .list y, at_, p, .bool g, z, x, .none]) (rangeD 0 3) = some [.str "list", .str "list", .str "list"] := by
    rw [compD_map (h := fun _ => .str "list")]
    · rfl
    · intro d hd
      obtain ⟨i, hi, rfl⟩ := mem_rangeD hd
      exact ev_elt1 (by simp [told_bad bx (i : Int) (by omega)])
  have he : dEq (.list [.str "list", .str "list", .str "list"]) (.list [.str "list", .str "list", .str "list"]) = some (.bool true) := dEq_self (n := 1) (shp_lst (n := 0) (by simp; exact shp_str (by decide +kernel))) (by decide)
  have hr : repD [PyData.str "list"] 3 = [.str "list", .str "list", .str "list"] := rfl
  simp [hc, he, hr, ev_lstD]
end PD
namespace PD
open PySem L2
theorem all_mk {w : World} {K : PySem.W.Frag} {h : Heap} {mg : Str → Option Value} {fa : Addr} (X : K.In h) (G : h.Ns mainGlobals mg) (hfa : mg "law" = some (.ref fa))
    {f__law_seed : Addr} {oc_0 kV_0 dc_0 pm_0 cd_0 ct_0 : Value} {od_0 an_0 : Option Addr} {sl_0 : Array (Option Value)} (a_0 : PySem.W.nsIn K mainGlobals "_law_seed" = some (some (.ref f__law_seed))) (l_0 : K.lookup f__law_seed = some ⟨oc_0, od_0, .func (PySem.W.fnOf "_law_seed" "_law_seed" (defArgs s__law_seed) (defBody s__law_seed) (defScope s__law_seed) .none kV_0 dc_0 pm_0 an_0 cd_0 ct_0), sl_0⟩) (c_0 : PySem.W.codeIn K cd_0 "_law_seed" = true) (k_0 : PySem.W.keepIn K (.ref f__law_seed) = true)
    {f__law_cell : Addr} {oc_1 kV_1 dc_1 pm_1 cd_1 ct_1 : Value} {od_1 an_1 : Option Addr} {sl_1 : Array (Option Value)} (a_1 : PySem.W.nsIn K mainGlobals "_law_cell" = some (some (.ref f__law_cell))) (l_1 : K.lookup f__law_cell = some ⟨oc_1, od_1, .func (PySem.W.fnOf "_law_cell" "_law_cell" (defArgs s__law_cell) (defBody s__law_cell) (defScope s__law_cell) .none kV_1 dc_1 pm_1 an_1 cd_1 ct_1), sl_1⟩) (c_1 : PySem.W.codeIn K cd_1 "_law_cell" = true) (k_1 : PySem.W.keepIn K (.ref f__law_cell) = true)
    {f__law_pick : Addr} {oc_2 kV_2 dc_2 pm_2 cd_2 ct_2 : Value} {od_2 an_2 : Option Addr} {sl_2 : Array (Option Value)} (a_2 : PySem.W.nsIn K mainGlobals "_law_pick" = some (some (.ref f__law_pick))) (l_2 : K.lookup f__law_pick = some ⟨oc_2, od_2, .func (PySem.W.fnOf "_law_pick" "_law_pick" (defArgs s__law_pick) (defBody s__law_pick) (defScope s__law_pick) .none kV_2 dc_2 pm_2 an_2 cd_2 ct_2), sl_2⟩) (c_2 : PySem.W.codeIn K cd_2 "_law_pick" = true) (k_2 : PySem.W.keepIn K (.ref f__law_pick) = true)
    {f__law_offer : Addr} {oc_3 kV_3 dc_3 pm_3 cd_3 ct_3 : Value} {od_3 an_3 : Option Addr} {sl_3 : Array (Option Value)} (a_3 : PySem.W.nsIn K mainGlobals "_law_offer" = some (some (.ref f__law_offer))) (l_3 : K.lookup f__law_offer = some ⟨oc_3, od_3, .func (PySem.W.fnOf "_law_offer" "_law_offer" (defArgs s__law_offer) (defBody s__law_offer) (defScope s__law_offer) .none kV_3 dc_3 pm_3 an_3 cd_3 ct_3), sl_3⟩) (c_3 : PySem.W.codeIn K cd_3 "_law_offer" = true) (k_3 : PySem.W.keepIn K (.ref f__law_offer) = true)
    {f__law_list : Addr} {oc_4 kV_4 dc_4 pm_4 cd_4 ct_4 : Value} {od_4 an_4 : Option Addr} {sl_4 : Array (Option Value)} (a_4 : PySem.W.nsIn K mainGlobals "_law_list" = some (some (.ref f__law_list))) (l_4 : K.lookup f__law_list = some ⟨oc_4, od_4, .func (PySem.W.fnOf "_law_list" "_law_list" (defArgs s__law_list) (defBody s__law_list) (defScope s__law_list) .none kV_4 dc_4 pm_4 an_4 cd_4 ct_4), sl_4⟩) (c_4 : PySem.W.codeIn K cd_4 "_law_list" = true) (k_4 : PySem.W.keepIn K (.ref f__law_list) = true)
    {f__law_in : Addr} {oc_5 kV_5 dc_5 pm_5 cd_5 ct_5 : Value} {od_5 an_5 : Option Addr} {sl_5 : Array (Option Value)} (a_5 : PySem.W.nsIn K mainGlobals "_law_in" = some (some (.ref f__law_in))) (l_5 : K.lookup f__law_in = some ⟨oc_5, od_5, .func (PySem.W.fnOf "_law_in" "_law_in" (defArgs s__law_in) (defBody s__law_in) (defScope s__law_in) .none kV_5 dc_5 pm_5 an_5 cd_5 ct_5), sl_5⟩) (c_5 : PySem.W.codeIn K cd_5 "_law_in" = true) (k_5 : PySem.W.keepIn K (.ref f__law_in) = true)
    {f_is_within : Addr} {oc_6 kV_6 dc_6 pm_6 cd_6 ct_6 : Value} {od_6 an_6 : Option Addr} {sl_6 : Array (Option Value)} (a_6 : PySem.W.nsIn K mainGlobals "is_within" = some (some (.ref f_is_within))) (l_6 : K.lookup f_is_within = some ⟨oc_6, od_6, .func (PySem.W.fnOf "is_within" "is_within" (defArgs s_is_within) (defBody s_is_within) (defScope s_is_within) .none kV_6 dc_6 pm_6 an_6 cd_6 ct_6), sl_6⟩) (c_6 : PySem.W.codeIn K cd_6 "is_within" = true) (k_6 : PySem.W.keepIn K (.ref f_is_within) = true)
    {f_is_offer : Addr} {oc_7 kV_7 dc_7 pm_7 cd_7 ct_7 : Value} {od_7 an_7 : Option Addr} {sl_7 : Array (Option Value)} (a_7 : PySem.W.nsIn K mainGlobals "is_offer" = some (some (.ref f_is_offer))) (l_7 : K.lookup f_is_offer = some ⟨oc_7, od_7, .func (PySem.W.fnOf "is_offer" "is_offer" (defArgs s_is_offer) (defBody s_is_offer) (defScope s_is_offer) .none kV_7 dc_7 pm_7 an_7 cd_7 ct_7), sl_7⟩) (c_7 : PySem.W.codeIn K cd_7 "is_offer" = true) (k_7 : PySem.W.keepIn K (.ref f_is_offer) = true)
    {f_is_list : Addr} {oc_8 kV_8 dc_8 pm_8 cd_8 ct_8 : Value} {od_8 an_8 : Option Addr} {sl_8 : Array (Option Value)} (a_8 : PySem.W.nsIn K mainGlobals "is_list" = some (some (.ref f_is_list))) (l_8 : K.lookup f_is_list = some ⟨oc_8, od_8, .func (PySem.W.fnOf "is_list" "is_list" (defArgs s_is_list) (defBody s_is_list) (defScope s_is_list) .none kV_8 dc_8 pm_8 an_8 cd_8 ct_8), sl_8⟩) (c_8 : PySem.W.codeIn K cd_8 "is_list" = true) (k_8 : PySem.W.keepIn K (.ref f_is_list) = true)
    {f_look : Addr} {oc_9 kV_9 dc_9 pm_9 cd_9 ct_9 : Value} {od_9 an_9 : Option Addr} {sl_9 : Array (Option Value)} (a_9 : PySem.W.nsIn K mainGlobals "look" = some (some (.ref f_look))) (l_9 : K.lookup f_look = some ⟨oc_9, od_9, .func (PySem.W.fnOf "look" "look" (defArgs s_look) (defBody s_look) (defScope s_look) .none kV_9 dc_9 pm_9 an_9 cd_9 ct_9), sl_9⟩) (c_9 : PySem.W.codeIn K cd_9 "look" = true) (k_9 : PySem.W.keepIn K (.ref f_look) = true)
    {f_with_offer : Addr} {oc_10 kV_10 dc_10 pm_10 cd_10 ct_10 : Value} {od_10 an_10 : Option Addr} {sl_10 : Array (Option Value)} (a_10 : PySem.W.nsIn K mainGlobals "with_offer" = some (some (.ref f_with_offer))) (l_10 : K.lookup f_with_offer = some ⟨oc_10, od_10, .func (PySem.W.fnOf "with_offer" "with_offer" (defArgs s_with_offer) (defBody s_with_offer) (defScope s_with_offer) .none kV_10 dc_10 pm_10 an_10 cd_10 ct_10), sl_10⟩) (c_10 : PySem.W.codeIn K cd_10 "with_offer" = true) (k_10 : PySem.W.keepIn K (.ref f_with_offer) = true)
    {f_look_place : Addr} {oc_11 kV_11 dc_11 pm_11 cd_11 ct_11 : Value} {od_11 an_11 : Option Addr} {sl_11 : Array (Option Value)} (a_11 : PySem.W.nsIn K mainGlobals "look_place" = some (some (.ref f_look_place))) (l_11 : K.lookup f_look_place = some ⟨oc_11, od_11, .func (PySem.W.fnOf "look_place" "look_place" (defArgs s_look_place) (defBody s_look_place) (defScope s_look_place) .none kV_11 dc_11 pm_11 an_11 cd_11 ct_11), sl_11⟩) (c_11 : PySem.W.codeIn K cd_11 "look_place" = true) (k_11 : PySem.W.keepIn K (.ref f_look_place) = true)
    {f_struck : Addr} {oc_12 kV_12 dc_12 pm_12 cd_12 ct_12 : Value} {od_12 an_12 : Option Addr} {sl_12 : Array (Option Value)} (a_12 : PySem.W.nsIn K mainGlobals "struck" = some (some (.ref f_struck))) (l_12 : K.lookup f_struck = some ⟨oc_12, od_12, .func (PySem.W.fnOf "struck" "struck" (defArgs s_struck) (defBody s_struck) (defScope s_struck) .none kV_12 dc_12 pm_12 an_12 cd_12 ct_12), sl_12⟩) (c_12 : PySem.W.codeIn K cd_12 "struck" = true) (k_12 : PySem.W.keepIn K (.ref f_struck) = true)
    {f_priced : Addr} {oc_13 kV_13 dc_13 pm_13 cd_13 ct_13 : Value} {od_13 an_13 : Option Addr} {sl_13 : Array (Option Value)} (a_13 : PySem.W.nsIn K mainGlobals "priced" = some (some (.ref f_priced))) (l_13 : K.lookup f_priced = some ⟨oc_13, od_13, .func (PySem.W.fnOf "priced" "priced" (defArgs s_priced) (defBody s_priced) (defScope s_priced) .none kV_13 dc_13 pm_13 an_13 cd_13 ct_13), sl_13⟩) (c_13 : PySem.W.codeIn K cd_13 "priced" = true) (k_13 : PySem.W.keepIn K (.ref f_priced) = true)
    {f__law_done : Addr} {oc_14 kV_14 dc_14 pm_14 cd_14 ct_14 : Value} {od_14 an_14 : Option Addr} {sl_14 : Array (Option Value)} (a_14 : PySem.W.nsIn K mainGlobals "_law_done" = some (some (.ref f__law_done))) (l_14 : K.lookup f__law_done = some ⟨oc_14, od_14, .func (PySem.W.fnOf "_law_done" "_law_done" (defArgs s__law_done) (defBody s__law_done) (defScope s__law_done) .none kV_14 dc_14 pm_14 an_14 cd_14 ct_14), sl_14⟩) (c_14 : PySem.W.codeIn K cd_14 "_law_done" = true) (k_14 : PySem.W.keepIn K (.ref f__law_done) = true)
    {f__law_told : Addr} {oc_15 kV_15 dc_15 pm_15 cd_15 ct_15 : Value} {od_15 an_15 : Option Addr} {sl_15 : Array (Option Value)} (a_15 : PySem.W.nsIn K mainGlobals "_law_told" = some (some (.ref f__law_told))) (l_15 : K.lookup f__law_told = some ⟨oc_15, od_15, .func (PySem.W.fnOf "_law_told" "_law_told" (defArgs s__law_told) (defBody s__law_told) (defScope s__law_told) .none kV_15 dc_15 pm_15 an_15 cd_15 ct_15), sl_15⟩) (c_15 : PySem.W.codeIn K cd_15 "_law_told" = true) (k_15 : PySem.W.keepIn K (.ref f__law_told) = true)
    {f__law_is_offer : Addr} {oc_16 kV_16 dc_16 pm_16 cd_16 ct_16 : Value} {od_16 an_16 : Option Addr} {sl_16 : Array (Option Value)} (a_16 : PySem.W.nsIn K mainGlobals "_law_is_offer" = some (some (.ref f__law_is_offer))) (l_16 : K.lookup f__law_is_offer = some ⟨oc_16, od_16, .func (PySem.W.fnOf "_law_is_offer" "_law_is_offer" (defArgs s__law_is_offer) (defBody s__law_is_offer) (defScope s__law_is_offer) .none kV_16 dc_16 pm_16 an_16 cd_16 ct_16), sl_16⟩) (c_16 : PySem.W.codeIn K cd_16 "_law_is_offer" = true) (k_16 : PySem.W.keepIn K (.ref f__law_is_offer) = true)
    {f_law : Addr} {oc_17 kV_17 dc_17 pm_17 cd_17 ct_17 : Value} {od_17 an_17 : Option Addr} {sl_17 : Array (Option Value)} (a_17 : PySem.W.nsIn K mainGlobals "law" = some (some (.ref f_law))) (l_17 : K.lookup f_law = some ⟨oc_17, od_17, .func (PySem.W.fnOf "law" "law" (defArgs s_law) (defBody s_law) (defScope s_law) .none kV_17 dc_17 pm_17 an_17 cd_17 ct_17), sl_17⟩) (c_17 : PySem.W.codeIn K cd_17 "law" = true) (k_17 : PySem.W.keepIn K (.ref f_law) = true)
    {a_BadList : Addr} (xa_BadList : PySem.W.nsIn K mainGlobals "BadList" = some (some (.ref a_BadList))) (xq_BadList : PySem.W.excIn K a_BadList veB "ValueError.__new__" = true) (xk_BadList : PySem.W.keepIn K (.ref a_BadList) = true) (xb_BadList : PySem.W.subIn K (.ref a_BadList) (.type "BaseException") = some true) (xt_BadList : PySem.W.typeIn K (.ref a_BadList) = some (.type "type"))
    {a_BadOffer : Addr} (xa_BadOffer : PySem.W.nsIn K mainGlobals "BadOffer" = some (some (.ref a_BadOffer))) (xq_BadOffer : PySem.W.excIn K a_BadOffer veB "ValueError.__new__" = true) (xk_BadOffer : PySem.W.keepIn K (.ref a_BadOffer) = true) (xb_BadOffer : PySem.W.subIn K (.ref a_BadOffer) (.type "BaseException") = some true) (xt_BadOffer : PySem.W.typeIn K (.ref a_BadOffer) = some (.type "type"))
    {a_BadPrice : Addr} (xa_BadPrice : PySem.W.nsIn K mainGlobals "BadPrice" = some (some (.ref a_BadPrice))) (xq_BadPrice : PySem.W.excIn K a_BadPrice veB "ValueError.__new__" = true) (xk_BadPrice : PySem.W.keepIn K (.ref a_BadPrice) = true) (xb_BadPrice : PySem.W.subIn K (.ref a_BadPrice) (.type "BaseException") = some true) (xt_BadPrice : PySem.W.typeIn K (.ref a_BadPrice) = some (.type "type"))
    {a_Full : Addr} (xa_Full : PySem.W.nsIn K mainGlobals "Full" = some (some (.ref a_Full))) (xq_Full : PySem.W.excIn K a_Full veB "ValueError.__new__" = true) (xk_Full : PySem.W.keepIn K (.ref a_Full) = true) (xb_Full : PySem.W.subIn K (.ref a_Full) (.type "BaseException") = some true) (xt_Full : PySem.W.typeIn K (.ref a_Full) = some (.type "type"))
    (xi_BadList : PySem.W.isClsIn K a_BadList = true)
    (xi_BadOffer : PySem.W.isClsIn K a_BadOffer = true)
    (xi_BadPrice : PySem.W.isClsIn K a_BadPrice = true)
    (xi_Full : PySem.W.isClsIn K a_Full = true)
    (xs_BadList_BadList : PySem.W.subIn K (.ref a_BadList) (.ref a_BadList) = some true)
    (xs_BadList_BadOffer : PySem.W.subIn K (.ref a_BadList) (.ref a_BadOffer) = some false)
    (xs_BadList_BadPrice : PySem.W.subIn K (.ref a_BadList) (.ref a_BadPrice) = some false)
    (xs_BadList_Full : PySem.W.subIn K (.ref a_BadList) (.ref a_Full) = some false)
    (xs_BadOffer_BadList : PySem.W.subIn K (.ref a_BadOffer) (.ref a_BadList) = some false)
    (xs_BadOffer_BadOffer : PySem.W.subIn K (.ref a_BadOffer) (.ref a_BadOffer) = some true)
    (xs_BadOffer_BadPrice : PySem.W.subIn K (.ref a_BadOffer) (.ref a_BadPrice) = some false)
    (xs_BadOffer_Full : PySem.W.subIn K (.ref a_BadOffer) (.ref a_Full) = some false)
    (xs_BadPrice_BadList : PySem.W.subIn K (.ref a_BadPrice) (.ref a_BadList) = some false)
    (xs_BadPrice_BadOffer : PySem.W.subIn K (.ref a_BadPrice) (.ref a_BadOffer) = some false)
    (xs_BadPrice_BadPrice : PySem.W.subIn K (.ref a_BadPrice) (.ref a_BadPrice) = some true)
    (xs_BadPrice_Full : PySem.W.subIn K (.ref a_BadPrice) (.ref a_Full) = some false)
    (xs_Full_BadList : PySem.W.subIn K (.ref a_Full) (.ref a_BadList) = some false)
    (xs_Full_BadOffer : PySem.W.subIn K (.ref a_Full) (.ref a_BadOffer) = some false)
    (xs_Full_BadPrice : PySem.W.subIn K (.ref a_Full) (.ref a_BadPrice) = some false)
    (xs_Full_Full : PySem.W.subIn K (.ref a_Full) (.ref a_Full) = some true)
    (bn_len : PySem.W.nsIn K mainGlobals "len" = some none)
    (bn_isinstance : PySem.W.nsIn K mainGlobals "isinstance" = some none)
    (bn_int : PySem.W.nsIn K mainGlobals "int" = some none)
    (bn_bool : PySem.W.nsIn K mainGlobals "bool" = some none)
    (bn_tuple : PySem.W.nsIn K mainGlobals "tuple" = some none)
    (bn_list : PySem.W.nsIn K mainGlobals "list" = some none)
    (bn_str : PySem.W.nsIn K mainGlobals "str" = some none)
    (bn_range : PySem.W.nsIn K mainGlobals "range" = some none)
    (bn_sum : PySem.W.nsIn K mainGlobals "sum" = some none)
    (bn_max : PySem.W.nsIn K mainGlobals "max" = some none)
    (bn_min : PySem.W.nsIn K mainGlobals "min" = some none)
    (bn_sorted : PySem.W.nsIn K mainGlobals "sorted" = some none)
    (bn_set : PySem.W.nsIn K mainGlobals "set" = some none)
    (bn_zip : PySem.W.nsIn K mainGlobals "zip" = some none)
    (bn_dict : PySem.W.nsIn K mainGlobals "dict" = some none)
    (bn_enumerate : PySem.W.nsIn K mainGlobals "enumerate" = some none)
    {t_0 : Tok} (gc_0 : PySem.W.nsIn K mainGlobals "MOST_WARES" = some (some (.int 3 t_0)))
    {t_1 : Tok} (gc_1 : PySem.W.nsIn K mainGlobals "MOST_OFFERS" = some (some (.int 6 t_1)))
    {t_2 : Tok} (gc_2 : PySem.W.nsIn K mainGlobals "MOST_COUNT" = some (some (.int 5 t_2)))
    {t_3 : Tok} (gc_3 : PySem.W.nsIn K mainGlobals "MOST_PRICE" = some (some (.int 99 t_3))) :
    ∃ fd : FuncData, (∀ (s : Shared) (v : Value), BindsTo s fd ⟨[v], []⟩ [("script", v)]) ∧ ∀ base : Heap, K.In base → base.Ns mainGlobals mg → FnOk PySem.Challenge.pw_pricerows_k14_changed w K mg base (L2.CX PySem.Challenge.pw_pricerows_k14_changed w) 8 fa fd ["script"] (spLaw K) := by
  have T__law_seed := defT_mk (st := s__law_seed) (ps := ["seed", "k"]) X G a_0 l_0 c_0 k_0 fun _ _ _ _ _ _ us hl => match us, hl with | [_, _], _ => rfl
  have T__law_cell := defT_mk (st := s__law_cell) (ps := ["script", "k"]) X G a_1 l_1 c_1 k_1 fun _ _ _ _ _ _ us hl => match us, hl with | [_, _], _ => rfl
  have T__law_pick := defT_mk (st := s__law_pick) (ps := ["seed", "many"]) X G a_2 l_2 c_2 k_2 fun _ _ _ _ _ _ us hl => match us, hl with | [_, _], _ => rfl
  have T__law_offer := defT_mk (st := s__law_offer) (ps := ["seed", "wares"]) X G a_3 l_3 c_3 k_3 fun _ _ _ _ _ _ us hl => match us, hl with | [_, _], _ => rfl
  have T__law_list := defT_mk (st := s__law_list) (ps := ["script", "at"]) X G a_4 l_4 c_4 k_4 fun _ _ _ _ _ _ us hl => match us, hl with | [_, _], _ => rfl
  have T__law_in := defT_mk (st := s__law_in) (ps := ["thing", "low", "high"]) X G a_5 l_5 c_5 k_5 fun _ _ _ _ _ _ us hl => match us, hl with | [_, _, _], _ => rfl
  have T_is_within := defT_mk (st := s_is_within) (ps := ["thing", "low", "high"]) X G a_6 l_6 c_6 k_6 fun _ _ _ _ _ _ us hl => match us, hl with | [_, _, _], _ => rfl
  have T_is_offer := defT_mk (st := s_is_offer) (ps := ["wares", "thing"]) X G a_7 l_7 c_7 k_7 fun _ _ _ _ _ _ us hl => match us, hl with | [_, _], _ => rfl
  have T_is_list := defT_mk (st := s_is_list) (ps := ["thing"]) X G a_8 l_8 c_8 k_8 fun _ _ _ _ _ _ us hl => match us, hl with | [_], _ => rfl
  have T_look := defT_mk (st := s_look) (ps := ["thing"]) X G a_9 l_9 c_9 k_9 fun _ _ _ _ _ _ us hl => match us, hl with | [_], _ => rfl
  have T_with_offer := defT_mk (st := s_with_offer) (ps := ["prices", "offer"]) X G a_10 l_10 c_10 k_10 fun _ _ _ _ _ _ us hl => match us, hl with | [_, _], _ => rfl
  have T_look_place := defT_mk (st := s_look_place) (ps := ["prices", "place"]) X G a_11 l_11 c_11 k_11 fun _ _ _ _ _ _ us hl => match us, hl with | [_, _], _ => rfl
  have T_struck := defT_mk (st := s_struck) (ps := ["prices", "place"]) X G a_12 l_12 c_12 k_12 fun _ _ _ _ _ _ us hl => match us, hl with | [_, _], _ => rfl
  have T_priced := defT_mk (st := s_priced) (ps := ["prices", "place", "price"]) X G a_13 l_13 c_13 k_13 fun _ _ _ _ _ _ us hl => match us, hl with | [_, _, _], _ => rfl
  have T__law_done := defT_mk (st := s__law_done) (ps := ["kind", "prices", "thing", "price"]) X G a_14 l_14 c_14 k_14 fun _ _ _ _ _ _ us hl => match us, hl with | [_, _, _, _], _ => rfl
  have T__law_told := defT_mk (st := s__law_told) (ps := ["kind", "prices", "thing", "price"]) X G a_15 l_15 c_15 k_15 fun _ _ _ _ _ _ us hl => match us, hl with | [_, _, _, _], _ => rfl
  have T__law_is_offer := defT_mk (st := s__law_is_offer) (ps := ["thing", "wares"]) X G a_16 l_16 c_16 k_16 fun _ _ _ _ _ _ us hl => match us, hl with | [_, _], _ => rfl
  have T_law := defT_mk (st := s_law) (ps := ["script"]) X G a_17 l_17 c_17 k_17 fun _ _ _ _ _ _ us hl => match us, hl with | [_], _ => rfl
  have X_BadList := excT_mk X G xa_BadList xq_BadList xk_BadList xb_BadList xt_BadList
  have X_BadOffer := excT_mk X G xa_BadOffer xq_BadOffer xk_BadOffer xb_BadOffer xt_BadOffer
  have X_BadPrice := excT_mk X G xa_BadPrice xq_BadPrice xk_BadPrice xb_BadPrice xt_BadPrice
  have X_Full := excT_mk X G xa_Full xq_Full xk_Full xb_Full xt_Full
  have EA : ExcAll K mg excN := by
    intro x hx y hy
    simp only [excN, List.mem_cons, List.not_mem_nil, or_false] at hx hy
    rcases hx with rfl | rfl | rfl | rfl <;> rcases hy with rfl | rfl | rfl | rfl
    · exact exm_mk X_BadList X_BadList xb_BadList xi_BadList xt_BadList (xs_BadList_BadList)
    · exact exm_mk X_BadList X_BadOffer xb_BadOffer xi_BadOffer xt_BadOffer (xs_BadList_BadOffer)
    · exact exm_mk X_BadList X_BadPrice xb_BadPrice xi_BadPrice xt_BadPrice (xs_BadList_BadPrice)
    · exact exm_mk X_BadList X_Full xb_Full xi_Full xt_Full (xs_BadList_Full)
    · exact exm_mk X_BadOffer X_BadList xb_BadList xi_BadList xt_BadList (xs_BadOffer_BadList)
    · exact exm_mk X_BadOffer X_BadOffer xb_BadOffer xi_BadOffer xt_BadOffer (xs_BadOffer_BadOffer)
    · exact exm_mk X_BadOffer X_BadPrice xb_BadPrice xi_BadPrice xt_BadPrice (xs_BadOffer_BadPrice)
    · exact exm_mk X_BadOffer X_Full xb_Full xi_Full xt_Full (xs_BadOffer_Full)
    · exact exm_mk X_BadPrice X_BadList xb_BadList xi_BadList xt_BadList (xs_BadPrice_BadList)
    · exact exm_mk X_BadPrice X_BadOffer xb_BadOffer xi_BadOffer xt_BadOffer (xs_BadPrice_BadOffer)
    · exact exm_mk X_BadPrice X_BadPrice xb_BadPrice xi_BadPrice xt_BadPrice (xs_BadPrice_BadPrice)
    · exact exm_mk X_BadPrice X_Full xb_Full xi_Full xt_Full (xs_BadPrice_Full)
    · exact exm_mk X_Full X_BadList xb_BadList xi_BadList xt_BadList (xs_Full_BadList)
    · exact exm_mk X_Full X_BadOffer xb_BadOffer xi_BadOffer xt_BadOffer (xs_Full_BadOffer)
    · exact exm_mk X_Full X_BadPrice xb_BadPrice xi_BadPrice xt_BadPrice (xs_Full_BadPrice)
    · exact exm_mk X_Full X_Full xb_Full xi_Full xt_Full (xs_Full_Full)
  have B : BnT mg := ⟨PySem.W.mg_none_of X G bn_len, PySem.W.mg_none_of X G bn_isinstance, PySem.W.mg_none_of X G bn_int, PySem.W.mg_none_of X G bn_bool, PySem.W.mg_none_of X G bn_tuple, PySem.W.mg_none_of X G bn_list, PySem.W.mg_none_of X G bn_str, PySem.W.mg_none_of X G bn_range, PySem.W.mg_none_of X G bn_sum, PySem.W.mg_none_of X G bn_max, PySem.W.mg_none_of X G bn_min, PySem.W.mg_none_of X G bn_sorted, PySem.W.mg_none_of X G bn_set, PySem.W.mg_none_of X G bn_zip, PySem.W.mg_none_of X G bn_dict, PySem.W.mg_none_of X G bn_enumerate⟩
  have Gc : GcT mg := ⟨trivial, ⟨_, PySem.W.mg_of X G gc_0⟩, ⟨_, PySem.W.mg_of X G gc_1⟩, ⟨_, PySem.W.mg_of X G gc_2⟩, ⟨_, PySem.W.mg_of X G gc_3⟩⟩
  have e := hfa.symm.trans T_law.g
  cases e
  refine ⟨PySem.W.fnOf "law" "law" (defArgs s_law) (defBody s_law) (defScope s_law) .none kV_17 dc_17 pm_17 an_17 cd_17 ct_17, fun s v => .of_eq rfl, fun base _ _ => ?_⟩
  have O__law_seed := ok__law_seed (P := PySem.Challenge.pw_pricerows_k14_changed) (w := w) (base := base) T__law_seed B Gc
  have O__law_cell := ok__law_cell (P := PySem.Challenge.pw_pricerows_k14_changed) (w := w) (base := base) T__law_cell B Gc
  have O__law_pick := ok__law_pick (P := PySem.Challenge.pw_pricerows_k14_changed) (w := w) (base := base) T__law_pick B Gc
  have O__law_offer := ok__law_offer (P := PySem.Challenge.pw_pricerows_k14_changed) (w := w) (base := base) T__law_offer T__law_seed O__law_seed T__law_pick O__law_pick B Gc
  have O__law_list := ok__law_list (P := PySem.Challenge.pw_pricerows_k14_changed) (w := w) (base := base) T__law_list T__law_seed O__law_seed T__law_cell O__law_cell T__law_offer O__law_offer B Gc
  have O__law_in := ok__law_in (P := PySem.Challenge.pw_pricerows_k14_changed) (w := w) (base := base) T__law_in B Gc
  have O_is_within := ok_is_within (P := PySem.Challenge.pw_pricerows_k14_changed) (w := w) (base := base) T_is_within B Gc
  have O_is_offer := ok_is_offer (P := PySem.Challenge.pw_pricerows_k14_changed) (w := w) (base := base) T_is_offer T_is_within O_is_within B Gc
  have O_is_list := ok_is_list (P := PySem.Challenge.pw_pricerows_k14_changed) (w := w) (base := base) T_is_list T_is_within O_is_within T_is_offer O_is_offer B Gc
  have O_look := ok_look (P := PySem.Challenge.pw_pricerows_k14_changed) (w := w) (base := base) T_look T_is_list O_is_list X_BadList B Gc
  have O_with_offer := ok_with_offer (P := PySem.Challenge.pw_pricerows_k14_changed) (w := w) (base := base) T_with_offer T_look O_look T_is_offer O_is_offer X_BadOffer X_Full B Gc
  have O_look_place := ok_look_place (P := PySem.Challenge.pw_pricerows_k14_changed) (w := w) (base := base) T_look_place T_is_within O_is_within X_BadOffer B Gc
  have O_struck := ok_struck (P := PySem.Challenge.pw_pricerows_k14_changed) (w := w) (base := base) T_struck T_look O_look T_look_place O_look_place B Gc
  have O_priced := ok_priced (P := PySem.Challenge.pw_pricerows_k14_changed) (w := w) (base := base) T_priced T_look O_look T_look_place O_look_place T_is_within O_is_within X_BadPrice B Gc
  have O__law_done := ok__law_done (P := PySem.Challenge.pw_pricerows_k14_changed) (w := w) (base := base) T__law_done T_with_offer O_with_offer T_struck O_struck T_priced O_priced B Gc
  have O__law_told := ok__law_told (P := PySem.Challenge.pw_pricerows_k14_changed) (w := w) (base := base) T__law_told T__law_done O__law_done X_BadList X_BadOffer X_BadPrice X_Full EA B Gc
  have O__law_is_offer := ok__law_is_offer (P := PySem.Challenge.pw_pricerows_k14_changed) (w := w) (base := base) T__law_is_offer T__law_in O__law_in B Gc
  have O_law := ok_law (P := PySem.Challenge.pw_pricerows_k14_changed) (w := w) (base := base) T_law T__law_list O__law_list T__law_offer O__law_offer T__law_seed O__law_seed T__law_cell O__law_cell T__law_told O__law_told T__law_is_offer O__law_is_offer T__law_in O__law_in B Gc
  exact law_end O_law law_plain
end PD
open PySem PySem.W PyProof.Rows
set_option maxRecDepth 100000 in
set_option maxHeartbeats 0 in
theorem PySem.Challenge.cw_pricerows_k14_changed_holds : PySem.Challenge.rw_pricerows_k14_changed.Holds := by
  w_on; o_law; k_head; (case hw => w_witness2)
  k_fill
  refine L2.walk_of (l := PySem.Challenge.rw_pricerows_k14_changed) (n := 63) (k := 8) (x := "script") (CX := fun w => L2.CX PySem.Challenge.pw_pricerows_k14_changed w) (sp := fun w => PD.spLaw _) rfl (by decide) rfl ⟨rfl, by decide, by decide⟩ (fun w h Y => PySem.W.kIn_of Y) ?F (fun _ _ a ns hl _ hS => ⟨a, ns, rfl, hS, hl, fun _ => rfl⟩) (fun _ _ _ _ _ h => PD.cx_false h)
  case F =>
    intro w mg fa h KX G hmg
    refine' PD.all_mk KX G hmg ?a_0 ?l_0 ?c_0 ?k_0 ?a_1 ?l_1 ?c_1 ?k_1 ?a_2 ?l_2 ?c_2 ?k_2 ?a_3 ?l_3 ?c_3 ?k_3 ?a_4 ?l_4 ?c_4 ?k_4 ?a_5 ?l_5 ?c_5 ?k_5 ?a_6 ?l_6 ?c_6 ?k_6 ?a_7 ?l_7 ?c_7 ?k_7 ?a_8 ?l_8 ?c_8 ?k_8 ?a_9 ?l_9 ?c_9 ?k_9 ?a_10 ?l_10 ?c_10 ?k_10 ?a_11 ?l_11 ?c_11 ?k_11 ?a_12 ?l_12 ?c_12 ?k_12 ?a_13 ?l_13 ?c_13 ?k_13 ?a_14 ?l_14 ?c_14 ?k_14 ?a_15 ?l_15 ?c_15 ?k_15 ?a_16 ?l_16 ?c_16 ?k_16 ?a_17 ?l_17 ?c_17 ?k_17 ?xa_BadList ?xq_BadList ?xk_BadList ?xb_BadList ?xt_BadList ?xa_BadOffer ?xq_BadOffer ?xk_BadOffer ?xb_BadOffer ?xt_BadOffer ?xa_BadPrice ?xq_BadPrice ?xk_BadPrice ?xb_BadPrice ?xt_BadPrice ?xa_Full ?xq_Full ?xk_Full ?xb_Full ?xt_Full ?xi_BadList ?xi_BadOffer ?xi_BadPrice ?xi_Full ?xs_BadList_BadList ?xs_BadList_BadOffer ?xs_BadList_BadPrice ?xs_BadList_Full ?xs_BadOffer_BadList ?xs_BadOffer_BadOffer ?xs_BadOffer_BadPrice ?xs_BadOffer_Full ?xs_BadPrice_BadList ?xs_BadPrice_BadOffer ?xs_BadPrice_BadPrice ?xs_BadPrice_Full ?xs_Full_BadList ?xs_Full_BadOffer ?xs_Full_BadPrice ?xs_Full_Full ?bn_len ?bn_isinstance ?bn_int ?bn_bool ?bn_tuple ?bn_list ?bn_str ?bn_range ?bn_sum ?bn_max ?bn_min ?bn_sorted ?bn_set ?bn_zip ?bn_dict ?bn_enumerate ?gc_0 ?gc_1 ?gc_2 ?gc_3
    (case a_0 => k_is)
    (case l_0 => k_is)
    (case c_0 => k_is)
    (case k_0 => k_is)
    (case a_1 => k_is)
    (case l_1 => k_is)
    (case c_1 => k_is)
    (case k_1 => k_is)
    (case a_2 => k_is)
    (case l_2 => k_is)
    (case c_2 => k_is)
    (case k_2 => k_is)
    (case a_3 => k_is)
    (case l_3 => k_is)
    (case c_3 => k_is)
    (case k_3 => k_is)
    (case a_4 => k_is)
    (case l_4 => k_is)
    (case c_4 => k_is)
    (case k_4 => k_is)
    (case a_5 => k_is)
    (case l_5 => k_is)
    (case c_5 => k_is)
    (case k_5 => k_is)
    (case a_6 => k_is)
    (case l_6 => k_is)
    (case c_6 => k_is)
    (case k_6 => k_is)
    (case a_7 => k_is)
    (case l_7 => k_is)
    (case c_7 => k_is)
    (case k_7 => k_is)
    (case a_8 => k_is)
    (case l_8 => k_is)
    (case c_8 => k_is)
    (case k_8 => k_is)
    (case a_9 => k_is)
    (case l_9 => k_is)
    (case c_9 => k_is)
    (case k_9 => k_is)
    (case a_10 => k_is)
    (case l_10 => k_is)
    (case c_10 => k_is)
    (case k_10 => k_is)
    (case a_11 => k_is)
    (case l_11 => k_is)
    (case c_11 => k_is)
    (case k_11 => k_is)
    (case a_12 => k_is)
    (case l_12 => k_is)
    (case c_12 => k_is)
    (case k_12 => k_is)
    (case a_13 => k_is)
    (case l_13 => k_is)
    (case c_13 => k_is)
    (case k_13 => k_is)
    (case a_14 => k_is)
    (case l_14 => k_is)
    (case c_14 => k_is)
    (case k_14 => k_is)
    (case a_15 => k_is)
    (case l_15 => k_is)
    (case c_15 => k_is)
    (case k_15 => k_is)
    (case a_16 => k_is)
    (case l_16 => k_is)
    (case c_16 => k_is)
    (case k_16 => k_is)
    (case a_17 => k_is)
    (case l_17 => k_is)
    (case c_17 => k_is)
    (case k_17 => k_is)
    (case xa_BadList => k_is)
    (case xq_BadList => k_exc)
    (case xk_BadList => k_is)
    (case xb_BadList => k_is)
    (case xt_BadList => k_is)
    (case xa_BadOffer => k_is)
    (case xq_BadOffer => k_exc)
    (case xk_BadOffer => k_is)
    (case xb_BadOffer => k_is)
    (case xt_BadOffer => k_is)
    (case xa_BadPrice => k_is)
    (case xq_BadPrice => k_exc)
    (case xk_BadPrice => k_is)
    (case xb_BadPrice => k_is)
    (case xt_BadPrice => k_is)
    (case xa_Full => k_is)
    (case xq_Full => k_exc)
    (case xk_Full => k_is)
    (case xb_Full => k_is)
    (case xt_Full => k_is)
    (case xi_BadList => k_is)
    (case xi_BadOffer => k_is)
    (case xi_BadPrice => k_is)
    (case xi_Full => k_is)
    (case xs_BadList_BadList => k_is)
    (case xs_BadList_BadOffer => k_is)
    (case xs_BadList_BadPrice => k_is)
    (case xs_BadList_Full => k_is)
    (case xs_BadOffer_BadList => k_is)
    (case xs_BadOffer_BadOffer => k_is)
    (case xs_BadOffer_BadPrice => k_is)
    (case xs_BadOffer_Full => k_is)
    (case xs_BadPrice_BadList => k_is)
    (case xs_BadPrice_BadOffer => k_is)
    (case xs_BadPrice_BadPrice => k_is)
    (case xs_BadPrice_Full => k_is)
    (case xs_Full_BadList => k_is)
    (case xs_Full_BadOffer => k_is)
    (case xs_Full_BadPrice => k_is)
    (case xs_Full_Full => k_is)
    (case bn_len => k_is)
    (case bn_isinstance => k_is)
    (case bn_int => k_is)
    (case bn_bool => k_is)
    (case bn_tuple => k_is)
    (case bn_list => k_is)
    (case bn_str => k_is)
    (case bn_range => k_is)
    (case bn_sum => k_is)
    (case bn_max => k_is)
    (case bn_min => k_is)
    (case bn_sorted => k_is)
    (case bn_set => k_is)
    (case bn_zip => k_is)
    (case bn_dict => k_is)
    (case bn_enumerate => k_is)
    (case gc_0 => k_is)
    (case gc_1 => k_is)
    (case gc_2 => k_is)
    (case gc_3 => k_is)
