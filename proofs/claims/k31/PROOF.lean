import PyProof.Rows.All
import Wide.All
import OpenK.AllK
import Wide.FinOn
import HandS.ForMost
import HandS.ForExc
import HandS.Flow
import HandS.Lambda
import HandS.HeadHook4
import HandS.HeadWalk
import HandS.TupAny
import HandS.TupLe
import HandS.TupLen
import HandS.IsInst
import PyProof.SumWalkG
import PyProof.WalksMore
import HandS.Zip
import HandS.TryMany
import HandS.Deep
import HandS.TupMul
import PyProof.MinMaxWalk
import PyProof.WalkInts
import KE.SortData
import HandS.Dict
import KE.SortKeyHeap
import HandS.TupSets
import KE.KeyNested
import HandS.Defaults
import HandS.HeadEnd
import HandS.Conv
import HandS.Style
import KE.DataMinMax
import KE.KRevSl
import PySem.Challenge.RW_pricerows_k31_whole_carts_back
import KE.KStateDown
import HandS.Head0
import HandS.Head1
import HandS.Head2
import HandS.HeadHook1
import HandS.HeadHook2
import HandS.HeadHook3
set_option Elab.async false
set_option linter.all false
set_option maxRecDepth 100000
set_option maxHeartbeats 4000000
set_option autoImplicit false
/-! PD0: plain data for what stands in the heap; slots by flags; the canonical readings. -/
namespace PD
open PySem L2
/-- the slots' plain data -/
abbrev Rw := List PyData
/-- no promise, or an exception of the class that the module calls n -/
inductive Er where
  | bad
  | exc (n : Str)
abbrev Rs (a : Type) := Except Er a
def keyD : Key → PyData
  | .inl i => .int i
  | .inr x => .str x
mutual
/-- the value stands for the datum, by objects of F alone -/
inductive Rp (K : PySem.W.Frag) (F : Hp) : V → PyData → Prop
  | non : Rp K F .non .none
  | bl (b : Bool) : Rp K F (.bl b) (.bool b)
  | int (i : Int) : Rp K F (.int i) (.int i)
  | str (x : Str) : Rp K F (.str x) (.str x)
  | lst {a : Addr} {xs : List V} {ds : List PyData} : F a = some (.lst xs) → xs.length ≤ sizeLine → RpL K F xs ds → Rp K F (.ref a) (.list ds)
  | tup {a : Addr} {xs : List V} {ds : List PyData} : F a = some (.tup xs) → xs.length ≤ sizeLine → RpL K F xs ds → Rp K F (.ref a) (.tuple ds)
  | dct {a : Addr} {es : List (List Key × V)} {kvs : List (PyData × PyData)} : Rd F a (.dT es) → es.length ≤ sizeLine → RpE K F es kvs → Rp K F (.ref a) (.dict kvs)
  | scr {a : Addr} {ns : List Int} : SqL K F a (ns.map V.int) → Rp K F (.ref a) (.dict [(.none, .list (ns.map PyData.int))])
inductive RpL (K : PySem.W.Frag) (F : Hp) : List V → List PyData → Prop
  | nil : RpL K F [] []
  | cons {v : V} {vs : List V} {d : PyData} {ds : List PyData} : Rp K F v d → RpL K F vs ds → RpL K F (v :: vs) (d :: ds)
inductive RpE (K : PySem.W.Frag) (F : Hp) : List (List Key × V) → List (PyData × PyData) → Prop
  | nil : RpE K F [] []
  | cons {k : List Key} {v : V} {es : List (List Key × V)} {d : PyData} {kvs : List (PyData × PyData)} : Rp K F v d → RpE K F es kvs → RpE K F ((k, v) :: es) ((.tuple (k.map keyD), d) :: kvs)
end
/-- the script as a datum -/
abbrev scrD (ns : List Int) : PyData := .dict [(.none, .list (ns.map PyData.int))]
section
variable {K : PySem.W.Frag} {F F' : Hp}
theorem rd_same {a : Addr} {u : HO} (s : Same F F') (h : Rd F a u) : Rd F' a u := by
  rcases h with h | ⟨o, h⟩
  · exact .inl (s _ _ h)
  · exact .inr ⟨o, s _ _ h⟩
theorem sqT_same {a : Addr} {xs : List V} (s : Same F F') (h : SqT K F a xs) : SqT K F' a xs := by
  rcases h with h | h
  · exact .inl (rd_same s h)
  · exact .inr h
theorem Rp.mono (s : Same F F') {v : V} {d : PyData} (h : Rp K F v d) : Rp K F' v d :=
  Rp.rec (motive_1 := fun v d _ => Rp K F' v d) (motive_2 := fun vs ds _ => RpL K F' vs ds) (motive_3 := fun es kvs _ => RpE K F' es kvs)
    .non (fun b => .bl b) (fun i => .int i) (fun x => .str x) (fun e z _ h => .lst (s _ _ e) z h) (fun e z _ h => .tup (s _ _ e) z h) (fun e z _ h => .dct (rd_same s e) z h) (fun e => .scr (s.seq e))
    .nil (fun _ _ h1 h2 => .cons h1 h2) .nil (fun _ _ h1 h2 => .cons h1 h2) h
theorem RpL.mono (s : Same F F') : ∀ {vs : List V} {ds : List PyData}, RpL K F vs ds → RpL K F' vs ds
  | _, _, .nil => .nil
  | _, _, .cons h t => .cons (h.mono s) (RpL.mono s t)
theorem RpE.mono (s : Same F F') : ∀ {es : List (List Key × V)} {kvs : List (PyData × PyData)}, RpE K F es kvs → RpE K F' es kvs
  | _, _, .nil => .nil
  | _, _, .cons h t => .cons (h.mono s) (RpE.mono s t)
theorem RpL.length : ∀ {vs : List V} {ds : List PyData}, RpL K F vs ds → vs.length = ds.length
  | _, _, .nil => rfl
  | _, _, .cons _ t => congrArg Nat.succ (RpL.length t)
theorem RpE.length : ∀ {es : List (List Key × V)} {kvs : List (PyData × PyData)}, RpE K F es kvs → es.length = kvs.length
  | _, _, .nil => rfl
  | _, _, .cons _ t => congrArg Nat.succ (RpE.length t)
theorem RpL.get : ∀ {vs : List V} {ds : List PyData} {i : Nat} {d : PyData}, RpL K F vs ds → ds[i]? = some d → ∃ v, vs[i]? = some v ∧ Rp K F v d
  | _, _, _, _, .nil, e => by simp at e
  | _, _, 0, _, .cons h _, e => by simp at e; subst e; exact ⟨_, rfl, h⟩
  | _, _, i + 1, d, .cons _ t, e => by
    obtain ⟨v, h1, h2⟩ := RpL.get (i := i) (d := d) t (by simpa using e)
    exact ⟨v, by simpa using h1, h2⟩
theorem RpL.getV : ∀ {vs : List V} {ds : List PyData} {i : Nat} {v : V}, RpL K F vs ds → vs[i]? = some v → ∃ d, ds[i]? = some d ∧ Rp K F v d
  | _, _, _, _, .nil, e => by simp at e
  | _, _, 0, _, .cons h _, e => by simp at e; subst e; exact ⟨_, rfl, h⟩
  | _, _, i + 1, d, .cons _ t, e => by
    obtain ⟨v, h1, h2⟩ := RpL.getV (i := i) (v := d) t (by simpa using e)
    exact ⟨v, by simpa using h1, h2⟩
theorem RpL.append : ∀ {vs ws : List V} {ds es : List PyData}, RpL K F vs ds → RpL K F ws es → RpL K F (vs ++ ws) (ds ++ es)
  | _, _, _, _, .nil, s => s
  | _, _, _, _, .cons h t, s => .cons h (RpL.append t s)
theorem RpL.take : ∀ {vs : List V} {ds : List PyData} (n : Nat), RpL K F vs ds → RpL K F (vs.take n) (ds.take n)
  | _, _, 0, _ => .nil
  | _, _, _ + 1, .nil => .nil
  | _, _, n + 1, .cons h t => .cons h (RpL.take n t)
theorem RpL.drop : ∀ {vs : List V} {ds : List PyData} (n : Nat), RpL K F vs ds → RpL K F (vs.drop n) (ds.drop n)
  | _, _, 0, h => h
  | _, _, _ + 1, .nil => .nil
  | _, _, n + 1, .cons _ t => RpL.drop n t
theorem RpL.set {v : V} {d : PyData} (h : Rp K F v d) : ∀ {vs : List V} {ds : List PyData} (i : Nat), RpL K F vs ds → RpL K F (vs.set i v) (ds.set i d)
  | _, _, _, .nil => .nil
  | _, _, 0, .cons _ t => .cons h t
  | _, _, i + 1, .cons q t => .cons q (RpL.set h i t)
theorem RpL.one {v : V} {d : PyData} (h : Rp K F v d) : RpL K F [v] [d] := .cons h .nil
theorem RpL.reverse {vs : List V} {ds : List PyData} (h : RpL K F vs ds) : RpL K F vs.reverse ds.reverse := by
  induction vs generalizing ds with
  | nil => cases h; exact .nil
  | cons v vs ih =>
    cases h with
    | cons h t => rw [List.reverse_cons, List.reverse_cons]; exact (ih t).append (.one h)
theorem RpL.ints : ∀ ns : List Int, RpL K F (ns.map V.int) (ns.map PyData.int)
  | [] => .nil
  | n :: ns => .cons (.int n) (RpL.ints ns)
end
/-! ### steps: what an expression does to the two heaps -/
/-- the tables of code objects that a run may lengthen, and the name that their code objects bear -/
class Tb where
  tab : List (Addr × Str)
  /-- the class of carts; the things that are changed -/
  cls : Addr
  root : Nat → Addr
/-- all that is known stays; a table may grow -/
def Gro (H H' : Hp) : Prop := ∀ b o, H b = some o → ∃ o', H' b = some o' ∧ ((∀ ps, o ≠ .tbl ps) → o' = o)
theorem Gro.refl (H : Hp) : Gro H H := fun _ o e => ⟨o, e, fun _ => rfl⟩
theorem Gro.of {H H' : Hp} (s : Same H H') : Gro H H' := fun b o e => ⟨o, s b o e, fun _ => rfl⟩
theorem Gro.k {H H' : Hp} (g : Gro H H') {b : Addr} {o : HO} (e : H b = some o) (n : ∀ ps, o ≠ .tbl ps) : H' b = some o := by
  obtain ⟨o', h1, h2⟩ := g b o e
  rw [h1, h2 n]
theorem Gro.has {H H' : Hp} (g : Gro H H') {p : Addr} (h : H p ≠ none) : H' p ≠ none := by
  cases e : H p with
  | none => exact absurd e h
  | some o => obtain ⟨o', h1, _⟩ := g p o e; rw [h1]; simp
theorem Gro.free {H H' : Hp} (g : Gro H H') {p : Addr} (h : H' p = none) : H p = none := by
  cases e : H p with
  | none => rfl
  | some o => obtain ⟨o', h1, _⟩ := g p o e; rw [h1] at h; cases h
theorem Gro.lst {H H' : Hp} (g : Gro H H') {p : Addr} {xs : List V} (h : H p = some (.lst xs)) : H' p = some (.lst xs) := g.k h fun _ z => by cases z
theorem Gro.trans {H H1 H2 : Hp} (a : Gro H H1) (b : Gro H1 H2) : Gro H H2 := fun p o e => by
  obtain ⟨o1, h1, k1⟩ := a p o e
  obtain ⟨o2, h2, k2⟩ := b p o1 h1
  refine ⟨o2, h2, fun n => ?_⟩
  have e1 := k1 n
  subst e1
  exact k2 n
theorem gro_upd {H : Hp} {p : Addr} {o : HO} (h : H p = none) : Gro H (upd H p o) := fun b x e => ⟨x, by rw [upd_ne (ne_of_none e h)]; exact e, fun _ => rfl⟩
/-- tuples that are known are frozen -/
def TupIn (F H : Hp) : Prop := ∀ p xs, H p = some (.tup xs) → F p = some (.tup xs)
def TbOk [Tb] (F H : Hp) : Prop := (∀ p ∈ Tb.tab, F p.1 = none ∧ LamX.TabS H p.1 p.2) ∧ TupIn F H
theorem tupIn_hid {F H : Hp} {p : Addr} {o : HO} (t : TupIn F H) (ho : ∀ xs, o ≠ .tup xs) : TupIn F (upd H p o) := fun q xs e => by
  by_cases hq : q = p
  · subst hq; rw [upd_same] at e; cases e; exact absurd rfl (ho xs)
  · rw [upd_ne hq] at e; exact t q xs e
theorem tupIn_new {F H : Hp} {p : Addr} {o : HO} (t : TupIn F H) : TupIn (upd F p o) (upd H p o) := fun q xs e => by
  by_cases hq : q = p
  · subst hq; rw [upd_same] at e ⊢; exact e
  · rw [upd_ne hq] at e ⊢; exact t q xs e
theorem tabS_upd {H : Hp} {p a : Addr} {q : Str} {o : HO} (t : LamX.TabS H p q) (n : ∀ u, H a = some u → (∀ ps, u ≠ .tbl ps) ∧ ∀ c q, u ≠ LamX.CodeO c q) : LamX.TabS (upd H a o) p q := by
  obtain ⟨ps, h1, h2, h3⟩ := t
  have np : p ≠ a := fun z => by subst z; exact (n _ h1).1 ps rfl
  refine ⟨ps, by rw [upd_ne np]; exact h1, h2, fun pos cv hc => ?_⟩
  obtain ⟨c, e1, e2⟩ := h3 pos cv hc
  have nc : c ≠ a := fun z => by subst z; exact (n _ e2).2 _ _ rfl
  exact ⟨c, e1, by rw [upd_ne nc]; exact e2⟩
theorem tabS_new {H : Hp} {p a : Addr} {q : Str} {o : HO} (t : LamX.TabS H p q) (h : H a = none) : LamX.TabS (upd H a o) p q := tabS_upd t fun u e => by rw [h] at e; cases e
theorem tabS_ne {H : Hp} {p a : Addr} {q : Str} (t : LamX.TabS H p q) (h : H a = none) : p ≠ a := fun z => by
  obtain ⟨ps, h1, _⟩ := t
  subst z; rw [h] at h1; cases h1
/-- F the frozen part of H; F' adds to F only what is new in H' -/
structure Step [Tb] (F H F' H' : Hp) : Prop where
  f : Same F F'
  fh : Same F' H'
  h : Gro H H'
  nw : ∀ p, F p = none → H p ≠ none → F' p = none
  t : TbOk F H → TbOk F' H'
theorem same_none {F H : Hp} (s : Same F H) {p : Addr} (h : H p = none) : F p = none := s.free h
theorem Step.refl [Tb] {F H : Hp} (s : Same F H) : Step F H F H := ⟨Same.refl _, s, Gro.refl _, fun _ h _ => h, id⟩
theorem Step.trans [Tb] {F H F1 H1 F2 H2 : Hp} (a : Step F H F1 H1) (b : Step F1 H1 F2 H2) : Step F H F2 H2 :=
  ⟨a.f.trans b.f, b.fh, a.h.trans b.h, fun p h h' => b.nw p (a.nw p h h') (a.h.has h'), fun t => b.t (a.t t)⟩
theorem same_upd {H : Hp} {p : Addr} {o : HO} (h : H p = none) : Same H (upd H p o) := fun b x e => by
  rw [upd_ne (ne_of_none e h)]; exact e
/-- a new object, frozen at once -/
theorem Step.new [Tb] {F H : Hp} {p : Addr} {o : HO} (s : Same F H) (h : H p = none) : Step F H (upd F p o) (upd H p o) := by
  refine ⟨same_upd (same_none s h), fun b x e => ?_, gro_upd h, fun q h1 h2 => ?_, fun t => ⟨fun q hq => ?_, tupIn_new t.2⟩⟩
  · by_cases hb : b = p
    · subst hb; rw [upd_same] at e ⊢; exact e
    · rw [upd_ne hb] at e ⊢; exact s _ _ e
  · have : q ≠ p := fun z => h2 (z ▸ h)
    rw [upd_ne this]; exact h1
  · obtain ⟨h1, h2⟩ := t.1 q hq
    exact ⟨by rw [upd_ne (tabS_ne h2 h)]; exact h1, tabS_new h2 h⟩
/-- a new object, not frozen -/
theorem Step.hid [Tb] {F H : Hp} {p : Addr} {o : HO} (s : Same F H) (h : H p = none) (ho : ∀ xs, o ≠ .tup xs := by intro _ z; cases z) : Step F H F (upd H p o) :=
  ⟨Same.refl _, s.trans (same_upd h), gro_upd h, fun _ h _ => h, fun t => ⟨fun q hq => ⟨(t.1 q hq).1, tabS_new (t.1 q hq).2 h⟩, tupIn_hid t.2 ho⟩⟩
/-! ### slots -/
/-- nothing known; a value by frozen objects; an object of one's own that nothing else knows -/
inductive Fl where
  | dead | im | ow
  | cr (k : Nat) | cw (k : Nat)
  deriving DecidableEq
/-- an object's attributes: by frozen objects, or lists of its own -/
inductive FldsOk (K : PySem.W.Frag) (F H : Hp) : List (Str × V) → List (PyData × PyData) → List Addr → Prop
  | nil : FldsOk K F H [] [] []
  | im {f : Str} {v : V} {d : PyData} {fs : List (Str × V)} {kvs : List (PyData × PyData)} {as : List Addr} : Rp K F v d → FldsOk K F H fs kvs as → FldsOk K F H ((f, v) :: fs) ((.str f, .tuple [d]) :: kvs) as
  | ow {f : Str} {p : Addr} {xs : List V} {ds : List PyData} {fs : List (Str × V)} {kvs : List (PyData × PyData)} {as : List Addr} : H p = some (.lst xs) → xs.length ≤ sizeLine → RpL K F xs ds → F p = none → FldsOk K F H fs kvs as → FldsOk K F H ((f, .ref p) :: fs) ((.str f, .list ds) :: kvs) (p :: as)
theorem FldsOk.mono {K : PySem.W.Frag} {F H F' H' : Hp} (s : Same F F') {fs : List (Str × V)} {kvs : List (PyData × PyData)} {as : List Addr} (h : FldsOk K F H fs kvs as) (hh : ∀ a ∈ as, H' a = H a ∧ F' a = none) : FldsOk K F' H' fs kvs as := by
  induction h with
  | nil => exact .nil
  | im r _ ih => exact .im (r.mono s) (ih hh)
  | ow h1 h2 r h3 _ ih => exact .ow (by rw [(hh _ List.mem_cons_self).1]; exact h1) h2 (r.mono s) (hh _ List.mem_cons_self).2 (ih fun a ha => hh a (List.mem_cons_of_mem _ ha))
theorem FldsOk.has {K : PySem.W.Frag} {F H : Hp} {fs : List (Str × V)} {kvs : List (PyData × PyData)} {as : List Addr} (h : FldsOk K F H fs kvs as) : ∀ a ∈ as, F a = none ∧ ∃ xs, H a = some (.lst xs) := by
  induction h with
  | nil => intro a ha; cases ha
  | im r _ ih => exact ih
  | ow h1 h2 r h3 _ ih =>
    intro a ha
    rcases List.mem_cons.mp ha with rfl | z
    · exact ⟨h3, _, h1⟩
    · exact ih a z
/-- a thing that is changed: a cart, a dict by names -/
inductive CtAt (C : Addr) (K : PySem.W.Frag) (F H : Hp) : Addr → List Addr → PyData → Prop
  | ins {x dx : Addr} {fs : List (Str × V)} {kvs : List (PyData × PyData)} {as : List Addr} : H x = some (.ins C dx fs) → FldsOk K F H fs kvs as → (x :: as).Nodup → F x = none → CtAt C K F H x (x :: as) (.dict kvs)
  | dct {x : Addr} {fs : List (Str × V)} {kvs : List (PyData × PyData)} : H x = some (.dK (fs.map fun p => (.inr p.1, p.2))) → FldsOk K F H fs kvs [] → F x = none → CtAt C K F H x [x] (.list [.dict kvs])
theorem CtAt.mono {C : Addr} {K : PySem.W.Frag} {F H F' H' : Hp} (s : Same F F') {x : Addr} {as : List Addr} {d : PyData} (h : CtAt C K F H x as d) (hh : ∀ a ∈ as, H' a = H a ∧ F' a = none) : CtAt C K F' H' x as d := by
  cases h with
  | ins h1 h2 h3 h4 => exact .ins (by rw [(hh _ List.mem_cons_self).1]; exact h1) (h2.mono s fun a ha => hh a (List.mem_cons_of_mem _ ha)) h3 (hh _ List.mem_cons_self).2
  | dct h1 h2 h4 => exact .dct (by rw [(hh _ List.mem_cons_self).1]; exact h1) (h2.mono s fun a ha => by cases ha) (hh _ List.mem_cons_self).2
/-- no table, no code, no tuple -/
def Fresh (o : HO) : Prop := (∀ ps, o ≠ .tbl ps) ∧ (∀ c q, o ≠ LamX.CodeO c q) ∧ ∀ xs, o ≠ .tup xs
theorem fresh_lst (xs : List V) : Fresh (.lst xs) := ⟨fun _ z => (by cases z), fun _ _ z => (by cases z), fun _ z => (by cases z)⟩
theorem fresh_ins (C dx : Addr) (fs : List (Str × V)) : Fresh (.ins C dx fs) := ⟨fun _ z => (by cases z), fun _ _ z => (by cases z), fun _ z => (by cases z)⟩
theorem fresh_dK (es : List (Key × V)) : Fresh (.dK es) := ⟨fun _ z => (by cases z), fun _ _ z => (by cases z), fun _ z => (by cases z)⟩
theorem CtAt.has {C : Addr} {K : PySem.W.Frag} {F H : Hp} {x : Addr} {as : List Addr} {d : PyData} (h : CtAt C K F H x as d) : ∀ a ∈ as, F a = none ∧ ∃ o, H a = some o ∧ Fresh o := by
  cases h with
  | ins h1 h2 h3 h4 =>
    intro a ha
    rcases List.mem_cons.mp ha with rfl | z
    · exact ⟨h4, _, h1, fresh_ins _ _ _⟩
    · obtain ⟨e1, xs, e2⟩ := h2.has a z
      exact ⟨e1, _, e2, fresh_lst xs⟩
  | dct h1 h2 h4 =>
    intro a ha
    rw [List.mem_singleton.mp ha]
    exact ⟨h4, _, h1, fresh_dK _⟩
/-- what an own object holds -/
def RepO (K : PySem.W.Frag) (F : Hp) : HO → PyData → Prop
  | .lst xs, .list ds => xs.length ≤ sizeLine ∧ RpL K F xs ds
  | .dT es, .dict kvs => es.length ≤ sizeLine ∧ RpE K F es kvs
  | _, _ => False
theorem RepO.mono {K : PySem.W.Frag} {F F' : Hp} (s : Same F F') {o : HO} {d : PyData} (h : RepO K F o d) : RepO K F' o d := by
  cases o <;> cases d <;> first | exact ⟨h.1, RpL.mono s h.2⟩ | exact ⟨h.1, RpE.mono s h.2⟩ | exact h
theorem RepO.nt {K : PySem.W.Frag} {F : Hp} {o : HO} {d : PyData} (h : RepO K F o d) : (∀ ps, o ≠ .tbl ps) ∧ ∀ c q, o ≠ LamX.CodeO c q := by
  refine ⟨fun ps z => ?_, fun c q z => ?_⟩
  · subst z; cases d <;> exact h
  · subst z; cases d <;> exact h
theorem RepO.rp {K : PySem.W.Frag} {F : Hp} {p : Addr} {o : HO} {d : PyData} (h : RepO K F o d) (hp : F p = some o) : Rp K F (.ref p) d := by
  cases o <;> cases d <;> first | exact Rp.lst hp h.1 h.2 | exact Rp.dct (.inl hp) h.1 h.2 | exact False.elim h
def SlotOk [Tb] (K : PySem.W.Frag) (F H : Hp) : Fl → Option V → PyData → Prop
  | .cr k, sv, d => sv = some (.ref (Tb.root k)) ∧ ∃ as, CtAt Tb.cls K F H (Tb.root k) as d
  | .cw k, sv, d => sv = some (.ref (Tb.root k)) ∧ ∃ as, CtAt Tb.cls K F H (Tb.root k) as d
  | .dead, _, _ => True
  | .im, sv, d => ∃ v, sv = some v ∧ Rp K F v d
  | .ow, sv, d => ∃ p o, sv = some (.ref p) ∧ F p = none ∧ H p = some o ∧ RepO K F o d
structure En [Tb] (K : PySem.W.Frag) (ph : List Fl) (F H : Hp) (σ : St) (rho : Rw) : Prop where
  fh : Same F H
  ls : ph.length ≤ σ.length
  lr : ph.length ≤ rho.length
  sl : ∀ (i : Nat) (f : Fl), ph[i]? = some f → ∃ (sv : Option V) (d : PyData), σ[i]? = some sv ∧ rho[i]? = some d ∧ SlotOk K F H f sv d
  ap : ∀ (i j : Nat) (p : Addr), ph[i]? = some .ow → ph[j]? = some .ow → σ[i]? = some (some (.ref p)) → σ[j]? = some (some (.ref p)) → i = j
  tb : TbOk F H
theorem CtAt.step [Tb] {C : Addr} {K : PySem.W.Frag} {F H F' H' : Hp} (s : Step F H F' H') {x : Addr} {as : List Addr} {d : PyData} (h : CtAt C K F H x as d) : CtAt C K F' H' x as d := h.mono s.f fun a ha => by
  obtain ⟨e1, o, e2, e3⟩ := h.has a ha
  exact ⟨by rw [e2]; exact s.h.k e2 e3.1, s.nw a e1 (by rw [e2]; simp)⟩
theorem SlotOk.step [Tb] {K : PySem.W.Frag} {F H F' H' : Hp} (s : Step F H F' H') {f : Fl} {sv : Option V} {d : PyData} (h : SlotOk K F H f sv d) : SlotOk K F' H' f sv d := by
  cases f with
  | dead => trivial
  | im => obtain ⟨v, e, r⟩ := h; exact ⟨v, e, r.mono s.f⟩
  | ow =>
    obtain ⟨p, o, e, h1, h2, r⟩ := h
    exact ⟨p, o, e, s.nw p h1 (by rw [h2]; simp), s.h.k h2 r.nt.1, r.mono s.f⟩
  | cr k => obtain ⟨e, as, c⟩ := h; exact ⟨e, as, c.step s⟩
  | cw k => obtain ⟨e, as, c⟩ := h; exact ⟨e, as, c.step s⟩
theorem En.step [Tb] {K : PySem.W.Frag} {ph : List Fl} {F H F' H' : Hp} {σ : St} {rho : Rw} (n : En K ph F H σ rho) (s : Step F H F' H') : En K ph F' H' σ rho :=
  ⟨s.fh, n.ls, n.lr, fun i f h => by
    obtain ⟨sv, d, h1, h2, h3⟩ := n.sl i f h
    exact ⟨sv, d, h1, h2, h3.step s⟩, n.ap, s.t n.tb⟩
/-- reading a slot -/
def look (rho : Rw) (i : Nat) : PyData := rho.getD i .none
theorem look_of {rho : Rw} {i : Nat} {d : PyData} (h : rho[i]? = some d) : look rho i = d := by
  unfold look; rw [List.getD_eq_getElem?_getD, h]; rfl
theorem En.im [Tb] {K : PySem.W.Frag} {ph : List Fl} {F H : Hp} {σ : St} {rho : Rw} {i : Nat} (n : En K ph F H σ rho) (h : ph[i]? = some .im) : ∃ v, σ[i]? = some (some v) ∧ Rp K F v (look rho i) := by
  obtain ⟨sv, d, h1, h2, v, rfl, r⟩ := n.sl i .im h
  exact ⟨v, h1, by rw [look_of h2]; exact r⟩
theorem En.ow [Tb] {K : PySem.W.Frag} {ph : List Fl} {F H : Hp} {σ : St} {rho : Rw} {i : Nat} (n : En K ph F H σ rho) (h : ph[i]? = some .ow) : ∃ p o, σ[i]? = some (some (.ref p)) ∧ F p = none ∧ H p = some o ∧ RepO K F o (look rho i) := by
  obtain ⟨sv, d, h1, h2, p, o, rfl, r⟩ := n.sl i .ow h
  exact ⟨p, o, h1, by rw [look_of h2]; exact r⟩
/-- a slot is given a value by frozen objects -/
theorem En.setIm [Tb] {K : PySem.W.Frag} {ph : List Fl} {F H : Hp} {σ : St} {rho : Rw} {v : V} {d : PyData} (n : En K ph F H σ rho) (i : Nat) (r : Rp K F v d) : En K (ph.set i .im) F H (σ.set i (some v)) (rho.set i d) := by
  refine ⟨n.fh, by simpa using n.ls, by simpa using n.lr, fun j f h => ?_, fun j k p h1 h2 h3 h4 => ?_, n.tb⟩
  · by_cases hj : i = j
    · subst hj
      have hi : i < ph.length := by
        have := (List.getElem?_eq_some_iff.mp h).1
        simpa using this
      rw [List.getElem?_set_self hi] at h
      cases h
      exact ⟨some v, d, List.getElem?_set_self (Nat.lt_of_lt_of_le hi n.ls), List.getElem?_set_self (Nat.lt_of_lt_of_le hi n.lr), v, rfl, r⟩
    · rw [List.getElem?_set_ne hj] at h
      obtain ⟨sv, d', h1, h2, h3⟩ := n.sl j f h
      exact ⟨sv, d', by rw [List.getElem?_set_ne hj]; exact h1, by rw [List.getElem?_set_ne hj]; exact h2, h3⟩
  · have ne : ∀ m, (ph.set i Fl.im)[m]? = some Fl.ow → i ≠ m := fun m h z => by
      subst z
      have hi : i < ph.length := by
        have := (List.getElem?_eq_some_iff.mp h).1
        simpa using this
      rw [List.getElem?_set_self hi] at h
      cases h
    have nj := ne j h1
    have nk := ne k h2
    rw [List.getElem?_set_ne nj] at h1 h3
    rw [List.getElem?_set_ne nk] at h2 h4
    exact n.ap j k p h1 h2 h3 h4
/-- .. an own object that was just made: it stands in H, not in F, and no slot has it -/
theorem En.setOw [Tb] {K : PySem.W.Frag} {ph : List Fl} {F H : Hp} {σ : St} {rho : Rw} {p : Addr} {o : HO} {d : PyData} (n : En K ph F H σ rho) (i : Nat) (h1 : F p = none) (h2 : H p = some o) (r : RepO K F o d)
    (hn : ∀ j, j ≠ i → ph[j]? = some .ow → σ[j]? ≠ some (some (.ref p))) : En K (ph.set i .ow) F H (σ.set i (some (.ref p))) (rho.set i d) := by
  refine ⟨n.fh, by simpa using n.ls, by simpa using n.lr, fun j f h => ?_, fun j k q e1 e2 e3 e4 => ?_, n.tb⟩
  · by_cases hj : i = j
    · subst hj
      have hi : i < ph.length := by
        have := (List.getElem?_eq_some_iff.mp h).1
        simpa using this
      rw [List.getElem?_set_self hi] at h
      cases h
      exact ⟨some (.ref p), d, List.getElem?_set_self (Nat.lt_of_lt_of_le hi n.ls), List.getElem?_set_self (Nat.lt_of_lt_of_le hi n.lr), p, o, rfl, h1, h2, r⟩
    · rw [List.getElem?_set_ne hj] at h
      obtain ⟨sv, d', e1, e2, e3⟩ := n.sl j f h
      exact ⟨sv, d', by rw [List.getElem?_set_ne hj]; exact e1, by rw [List.getElem?_set_ne hj]; exact e2, e3⟩
  · have lt : ∀ m, (ph.set i Fl.ow)[m]? = some Fl.ow → m < σ.length := fun m h => by
      have := (List.getElem?_eq_some_iff.mp h).1
      rw [List.length_set] at this
      exact Nat.lt_of_lt_of_le this n.ls
    by_cases hj : i = j
    · by_cases hk : i = k
      · exact hj.symm.trans hk
      · subst hj
        rw [List.getElem?_set_self (lt i e1)] at e3
        rw [List.getElem?_set_ne hk] at e2 e4
        cases e3
        exact absurd e4 (hn k (Ne.symm hk) e2)
    · by_cases hk : i = k
      · subst hk
        rw [List.getElem?_set_self (lt i e2)] at e4
        rw [List.getElem?_set_ne hj] at e1 e3
        cases e4
        exact absurd e3 (hn j (Ne.symm hj) e1)
      · rw [List.getElem?_set_ne hj] at e1 e3
        rw [List.getElem?_set_ne hk] at e2 e4
        exact n.ap j k q e1 e2 e3 e4
/-- fewer things known -/
def wkF : Fl → Fl → Bool
  | _, .dead => true
  | .im, .im => true
  | .ow, .ow => true
  | .ow, .im => true
  | .cr a, .cr b => a == b
  | .cw a, .cw b => a == b
  | _, _ => false
def wk : List Fl → List Fl → Bool
  | _, [] => true
  | f :: fs, g :: gs => wkF f g && wk fs gs
  | [], _ :: _ => false
theorem wk_get : ∀ {ph ph' : List Fl} {i : Nat} {g : Fl}, wk ph ph' = true → ph'[i]? = some g → ∃ f, ph[i]? = some f ∧ wkF f g = true
  | _, [], i, g, _, h => by simp at h
  | [], _ :: _, _, _, h, _ => by simp [wk] at h
  | f :: fs, g' :: gs, 0, g, h, e => by
    simp only [wk, Bool.and_eq_true] at h
    simp only [List.getElem?_cons_zero, Option.some.injEq] at e
    subst e
    exact ⟨f, rfl, h.1⟩
  | f :: fs, g' :: gs, i + 1, g, h, e => by
    simp only [wk, Bool.and_eq_true] at h
    simp only [List.getElem?_cons_succ] at e ⊢
    exact wk_get h.2 e
theorem wk_len : ∀ {ph ph' : List Fl}, wk ph ph' = true → ph'.length ≤ ph.length
  | _, [], _ => Nat.zero_le _
  | [], _ :: _, h => by simp [wk] at h
  | f :: fs, g :: gs, h => by
    simp only [wk, Bool.and_eq_true] at h
    exact Nat.succ_le_succ (wk_len h.2)
theorem wk_refl : ∀ ph : List Fl, wk ph ph = true
  | [] => rfl
  | f :: fs => by
    simp only [wk, Bool.and_eq_true]
    exact ⟨by cases f <;> simp [wkF], wk_refl fs⟩
end PD
/-! PD1: the canonical readings of expressions, and the first rules. -/
namespace PD
open PySem L2
def clsOf (mg : Str → Option Value) (n : Str) : Value := (mg n).getD .none
/-- what is asked behind a result -/
def Aft [Tb] {a : Type} (mg : Str → Option Value) (W : WX) (σ : L2.St) (F H : Hp) (r : Rs a) (Z : a → Hp → Hp → Prop) : Prop :=
  match r with
  | .ok x => ∀ F' H', Step F H F' H' → Z x F' H'
  | .error (.exc n) => ∀ F' H', Step F H F' H' → W (clsOf mg n) none σ H'
  | .error .bad => False
section
variable {mg : Str → Option Value} {W : WX} {σ : L2.St} {F H F1 H1 : Hp} {a b : Type}
theorem Aft.step [Tb] {r : Rs a} {Z : a → Hp → Hp → Prop} (h : Aft mg W σ F H r Z) (s : Step F H F1 H1) : Aft mg W σ F1 H1 r Z := by
  cases r with
  | ok x => exact fun F' H' s' => h F' H' (s.trans s')
  | error e =>
    cases e with
    | bad => exact h
    | exc n => exact fun F' H' s' => h F' H' (s.trans s')
theorem Aft.bind [Tb] {r : Rs a} {k : a → Rs b} {Z : b → Hp → Hp → Prop} {Z' : a → Hp → Hp → Prop} (h : Aft mg W σ F H (r >>= k) Z)
    (hz : ∀ x F1 H1, Step F H F1 H1 → Aft mg W σ F1 H1 (k x) Z → Z' x F1 H1) : Aft mg W σ F H r Z' := by
  cases r with
  | ok x => exact fun F' H' s => hz x F' H' s (Aft.step (r := k x) h s)
  | error e =>
    cases e with
    | bad => exact h
    | exc n => exact h
theorem Aft.imp [Tb] {r : Rs a} {Z Z' : a → Hp → Hp → Prop} (h : Aft mg W σ F H r Z) (hz : ∀ x F1 H1, Step F H F1 H1 → Z x F1 H1 → Z' x F1 H1) : Aft mg W σ F H r Z' := by
  cases r with
  | ok x => exact fun F' H' s => hz x F' H' s (h F' H' s)
  | error e => cases e <;> exact h
/-- .. by all that is to come -/
theorem Aft.all [Tb] {r : Rs a} {Z Z' : a → Hp → Hp → Prop} (h : Aft mg W σ F H r Z) (hz : ∀ x, (∀ F1 H1, Step F H F1 H1 → Z x F1 H1) → ∀ F1 H1, Step F H F1 H1 → Z' x F1 H1) : Aft mg W σ F H r Z' := by
  cases r with
  | ok x => exact hz x h
  | error e => cases e <;> exact h
theorem Aft.ok [Tb] {x : a} {Z : a → Hp → Hp → Prop} (h : Aft mg W σ F H (.ok x) Z) (s : Step F H F1 H1) : Z x F1 H1 := h F1 H1 s
theorem Aft.now [Tb] {x : a} {Z : a → Hp → Hp → Prop} (h : Aft mg W σ F H (.ok x) Z) (s : Same F H) : Z x F H := h F H (.refl s)
end
def lift {a : Type} : Option a → Rs a
  | some x => .ok x
  | none => .error .bad
theorem Aft.lift [Tb] {mg : Str → Option Value} {W : WX} {σ : L2.St} {F H : Hp} {a : Type} {r : Option a} {Z : a → Hp → Hp → Prop} (h : Aft mg W σ F H (PD.lift r) Z) : ∃ x, r = some x ∧ Aft mg W σ F H (.ok x) Z := by
  cases r with
  | none => exact False.elim h
  | some x => exact ⟨x, rfl, h⟩
/-- an expression gives the datum g of the slots' data -/
def rE [Tb] (K : PySem.W.Frag) (mg : Str → Option Value) (W : WX) (ph : List Fl) (g : Rw → Rs PyData) : TE := fun σ H Q =>
  ∃ F rho, En K ph F H σ rho ∧ Aft mg W σ F H (g rho) fun d F' H' => ∀ v, Rp K F' v d → Q v H'
/-- .. as a new object that nothing else knows -/
def rO [Tb] (K : PySem.W.Frag) (mg : Str → Option Value) (W : WX) (ph : List Fl) (g : Rw → Rs PyData) : TE := fun σ H Q =>
  ∃ F rho, En K ph F H σ rho ∧ Aft mg W σ F H (g rho) fun d F' H' => ∀ p o, H p = none → F' p = none → H' p = some o → RepO K F' o d → Q (.ref p) H'
def rT [Tb] (K : PySem.W.Frag) (mg : Str → Option Value) (W : WX) (ph : List Fl) (g : Rw → Rs Bool) : TT := fun σ H Q =>
  ∃ F rho, En K ph F H σ rho ∧ Aft mg W σ F H (g rho) fun b _ H' => Q b H'
def rA [Tb] (K : PySem.W.Frag) (mg : Str → Option Value) (W : WX) (ph : List Fl) (g : Rw → Rs (List PyData)) : TA := fun σ H Q =>
  ∃ F rho, En K ph F H σ rho ∧ Aft mg W σ F H (g rho) fun ds F' H' => ∀ vs, RpL K F' vs ds → Q vs H'
theorem pe_imp {X : Cx} {e : Expr} {t t' : TE} (h : PE X e t) (hi : ∀ σ H Q, t' σ H Q → t σ H Q) : PE X e t' := ⟨fun pins s σ H Q I q => h.run pins s σ H Q I (hi σ H Q q)⟩
theorem pt_imp {X : Cx} {e : Expr} {t t' : TT} (h : PT X e t) (hi : ∀ σ H Q, t' σ H Q → t σ H Q) : PT X e t' := ⟨fun pins s σ H Q I q => h.run pins s σ H Q I (hi σ H Q q)⟩
theorem pw_imp {X : Cx} {e : Expr} {t t' : TT} (h : PW X e t) (hi : ∀ σ H Q, t' σ H Q → t σ H Q) : PW X e t' := ⟨fun wh pins s σ H Q I q => h.run wh pins s σ H Q I (hi σ H Q q)⟩
theorem pa_imp {X : Cx} {es : List Expr} {t t' : TA} (h : PA X es t) (hi : ∀ σ H Q, t' σ H Q → t σ H Q) : PA X es t' := ⟨fun pos pins s σ H Q I q => h.run pos pins s σ H Q I (hi σ H Q q)⟩
theorem ps_imp {X : Cx} {st : Stmt} {t t' : TS} (h : PS X st t) (hi : ∀ D σ H, t' D σ H → t D σ H) : PS X st t' := ⟨fun pins s σ H D I q => h.run pins s σ H D I (hi D σ H q)⟩
theorem pss_imp {X : Cx} {st : List Stmt} {t t' : TS} (h : PSs X st t) (hi : ∀ D σ H, t' D σ H → t D σ H) : PSs X st t' := ⟨fun pins s σ H D I q => h.run pins s σ H D I (hi D σ H q)⟩
abbrev DE [Tb] (X : Cx) (W : WX) (ph : List Fl) (e : Expr) (g : Rw → Rs PyData) : Prop := PE X e (rE X.K X.mg W ph g)
abbrev DO [Tb] (X : Cx) (W : WX) (ph : List Fl) (e : Expr) (g : Rw → Rs PyData) : Prop := PE X e (rO X.K X.mg W ph g)
abbrev DT [Tb] (X : Cx) (W : WX) (ph : List Fl) (e : Expr) (g : Rw → Rs Bool) : Prop := PT X e (rT X.K X.mg W ph g)
abbrev DW [Tb] (X : Cx) (W : WX) (ph : List Fl) (e : Expr) (g : Rw → Rs Bool) : Prop := PW X e (rT X.K X.mg W ph g)
abbrev DA [Tb] (X : Cx) (W : WX) (ph : List Fl) (es : List Expr) (g : Rw → Rs (List PyData)) : Prop := PA X es (rA X.K X.mg W ph g)
/-- a step that freezes a new object -/
theorem Step.freeze [Tb] {F H F' H' : Hp} {p : Addr} {o : HO} (s : Step F H F' H') (h0 : H p = none) (h1 : F' p = none) (h2 : H' p = some o) : Step F H (upd F' p o) H' := by
  refine ⟨s.f.trans (same_upd h1), fun b x e => ?_, s.h, fun q e1 e2 => ?_, fun t => ⟨fun q hq => ?_, fun q xs e => ?_⟩⟩
  · by_cases hb : b = p
    · subst hb; rw [upd_same] at e; rw [h2]; exact e
    · rw [upd_ne hb] at e; exact s.fh _ _ e
  · have ne : q ≠ p := fun z => by subst z; exact e2 h0
    rw [upd_ne ne]; exact s.nw q e1 e2
  · have := (s.t t).1 q hq
    exact ⟨by rw [upd_ne (tabS_ne (t.1 q hq).2 h0)]; exact this.1, this.2⟩
  · by_cases hq : q = p
    · subst hq; rw [upd_same, ← h2]; exact e
    · rw [upd_ne hq]; exact (s.t t).2 q xs e
section
variable {X : Cx} {W : WX} {ph : List Fl} {e a b c : Expr} {es : List Expr} {pos : Pos}
/-- an object of one's own may be frozen -/
theorem de_of [Tb] {g : Rw → Rs PyData} (h : DO X W ph e g) : DE X W ph e g := pe_imp h fun σ H Q ⟨F, rho, n, q⟩ =>
  ⟨F, rho, n, q.all fun d z F' H' s p o h0 h1 h2 r => z (upd F' p o) H' (s.freeze h0 h1 h2) (.ref p) ((r.mono (same_upd h1)).rp upd_same)⟩
/-! ### names and constants -/
def gV (i : Nat) : Rw → Rs PyData := fun rho => .ok (look rho i)
def gC (d : PyData) : Rw → Rs PyData := fun _ => .ok d
theorem de_var [Tb] (i : Nat) {x : Str} (h : ph[i]? = some .im := by rfl) (hN : X.N[i]? = some x := by rfl) (hv : Vis X.env.scope x := by first | exact Or.inl rfl | exact Or.inr (Or.inl rfl) | exact Or.inr (Or.inr rfl))
    (hd : (x == ("__debug__" : Str)) = false := by decide) (hcd : (x == ("__classdict__" : Str)) = false := by decide) : DE X W ph (.Name x pos) (gV i) :=
  pe_imp (pe_var hN hv hd hcd) fun σ H Q ⟨F, rho, n, q⟩ => by
    obtain ⟨v, e, r⟩ := n.im h
    exact ⟨v, e, q.now n.fh v r⟩
theorem de_int [Tb] {i : Int} {j} : DE X W ph (.Constant (.int i) j pos) (gC (.int i)) := pe_imp pe_int fun σ H Q ⟨F, rho, n, q⟩ => q.now n.fh _ (.int i)
theorem de_bl [Tb] {b : Bool} {j} : DE X W ph (.Constant (.bool b) j pos) (gC (.bool b)) := pe_imp pe_bl fun σ H Q ⟨F, rho, n, q⟩ => q.now n.fh _ (.bl b)
theorem de_non [Tb] {j} : DE X W ph (.Constant .none j pos) (gC .none) := pe_imp pe_non fun σ H Q ⟨F, rho, n, q⟩ => q.now n.fh _ .non
theorem de_str [Tb] {x : Str} {j} : DE X W ph (.Constant (.str x) j pos) (gC (.str x)) := pe_imp pe_str fun σ H Q ⟨F, rho, n, q⟩ => q.now n.fh _ (.str x)
/-- a module's number -/
theorem de_glob [Tb] {x : Str} {i : Int} {t : Tok} (hm : X.mg x = some (.int i t)) (hg : Gl X x := by rfl) (hd : (x == ("__debug__" : Str)) = false := by decide) : DE X W ph (.Name x pos) (gC (.int i)) :=
  pe_imp (pe_glob (v := .int i) hg hm ⟨t, rfl⟩ hd) fun σ H Q ⟨F, rho, n, q⟩ => q.now n.fh _ (.int i)
/-! ### operators by data -/
def rOp [Tb] (K : PySem.W.Frag) (o : PyData → PyData → Option PyData) : R2 := fun x y H Q => ∃ F d1 d2 d, Same F H ∧ Rp K F x d1 ∧ Rp K F y d2 ∧ o d1 d2 = some d ∧ ∀ v F' H', Step F H F' H' → Rp K F' v d → Q v H'
def gB (o : PyData → PyData → Option PyData) (ga gb : Rw → Rs PyData) : Rw → Rs PyData := fun rho => ga rho >>= fun x => gb rho >>= fun y => lift (o x y)
variable {ga gb gc : Rw → Rs PyData} {o o' : PyData → PyData → Option PyData}
theorem op_run [Tb] {t : TE} {r : R2} (hr : ∀ x y H Q, rOp X.K o x y H Q → r x y H Q) : ∀ σ H Q, rE X.K X.mg W ph (gB o ga gb) σ H Q → tOp r (rE X.K X.mg W ph ga) (rE X.K X.mg W ph gb) σ H Q := fun σ H Q ⟨F, rho, n, q⟩ =>
  ⟨F, rho, n, q.bind fun d1 F1 H1 s1 q1 v1 r1 => ⟨F1, rho, n.step s1, q1.bind fun d2 F2 H2 s2 q2 v2 r2 => by
    obtain ⟨d, e, q3⟩ := q2.lift
    exact hr _ _ _ _ ⟨F2, d1, d2, d, s2.fh, r1.mono s2.f, r2, e, fun v F' H' s3 r => q3.ok s3 v r⟩⟩⟩
theorem de_op [Tb] {op : Operator} (ho : OpR X (binaryOp op) (rOp X.K o)) (ha : DE X W ph a ga) (hb : DE X W ph b gb) : DE X W ph (.BinOp a op b pos) (gB o ga gb) :=
  pe_imp (pe_op ho ha hb) (op_run (t := fun _ _ _ => True) fun _ _ _ _ h => h)
theorem de_cmp [Tb] {op : CmpOp} (ho : OpR X (compareOp op) (rOp X.K o)) (ha : DE X W ph a ga) (hb : DE X W ph b gb) (hm : behindInMarks op b = false := by first | exact nomark _ | rfl) : DE X W ph (.Compare a [op] [b] pos) (gB o ga gb) :=
  pe_imp (pe_cmpR ho ha hb hm) (op_run (t := fun _ _ _ => True) fun _ _ _ _ h => h)
/-- a datum that is a truth value -/
def boolD : PyData → Option Bool
  | .bool b => some b
  | _ => none
def gTb (g : Rw → Rs PyData) : Rw → Rs Bool := fun rho => g rho >>= fun d => lift (boolD d)
theorem tb_run [Tb] {g : Rw → Rs PyData} : ∀ σ H Q, rT X.K X.mg W ph (gTb g) σ H Q → rE X.K X.mg W ph g σ H fun x H' => ∃ k, x = .bl k ∧ Q k H' := fun σ H Q ⟨F, rho, n, q⟩ =>
  ⟨F, rho, n, q.bind fun d F1 H1 s1 q1 v r => by
    obtain ⟨k, e, q2⟩ := q1.lift
    cases d <;> cases e
    cases r
    exact ⟨_, rfl, q2.now s1.fh⟩⟩
theorem dt_cmp [Tb] {op : CmpOp} (ho : OpR X (compareOp op) (rOp X.K o)) (ha : DE X W ph a ga) (hb : DE X W ph b gb) (hm : behindInMarks op b = false := by first | exact nomark _ | rfl) : DT X W ph (.Compare a [op] [b] pos) (gTb (gB o ga gb)) :=
  pt_imp (pt_cmpR ho ha hb hm) fun σ H Q h => op_run (t := fun _ _ _ => True) (fun _ _ _ _ h => h) σ H _ (tb_run σ H Q h)
/-- a < b < c -/
def gChain (o o' : PyData → PyData → Option PyData) (ga gb gc : Rw → Rs PyData) : Rw → Rs PyData := fun rho => ga rho >>= fun x => gb rho >>= fun y => lift ((o x y).bind boolD) >>= fun k => if k = true then gc rho >>= fun z => lift (o' y z) else .ok (.bool false)
theorem chain_run [Tb] {r r' : R2} (hr : ∀ x y H Q, rOp X.K o x y H Q → r x y H Q) (hr' : ∀ x y H Q, rOp X.K o' x y H Q → r' x y H Q) : ∀ σ H Q, rE X.K X.mg W ph (gChain o o' ga gb gc) σ H Q →
    tChain r r' (rE X.K X.mg W ph ga) (rE X.K X.mg W ph gb) (rE X.K X.mg W ph gc) σ H Q := fun σ H Q ⟨F, rho, n, q⟩ =>
  ⟨F, rho, n, q.bind fun d1 F1 H1 s1 q1 v1 r1 => ⟨F1, rho, n.step s1, q1.bind fun d2 F2 H2 s2 q2 v2 r2 => by
    refine hr _ _ _ _ ?_
    cases e : o d1 d2 with
    | none => rw [e] at q2; exact False.elim q2
    | some z =>
      rw [e] at q2
      cases z with
      | bool k =>
        refine ⟨F2, d1, d2, _, s2.fh, r1.mono s2.f, r2, e, fun v F3 H3 s3 r3 => ?_⟩
        cases r3
        have q3 : Aft X.mg W σ F2 H2 (if k = true then gc rho >>= fun z => lift (o' d2 z) else .ok (.bool false)) _ := q2
        refine ⟨k, rfl, ?_⟩
        cases k with
        | true =>
          rw [if_pos rfl] at q3 ⊢
          exact ⟨F3, rho, (n.step (s1.trans s2)).step s3, (q3.step s3).bind fun d3 F4 H4 s4 q4 v4 r4 => by
            obtain ⟨d, e4, q5⟩ := q4.lift
            exact hr' _ _ _ _ ⟨F4, d2, d3, d, s4.fh, (r2.mono s3.f).mono s4.f, r4, e4, fun v F' H' s5 r => q5.ok s5 v r⟩⟩
        | false =>
          rw [if_neg Bool.false_ne_true] at q3 ⊢
          exact q3.ok s3 _ (.bl false)
      | none => exact False.elim q2
      | int _ => exact False.elim q2
      | str _ => exact False.elim q2
      | list _ => exact False.elim q2
      | tuple _ => exact False.elim q2
      | dict _ => exact False.elim q2⟩⟩
theorem de_chain [Tb] {op op' : CmpOp} (ho : OpR X (compareOp op) (rOp X.K o)) (ho' : OpR X (compareOp op') (rOp X.K o')) (ha : DE X W ph a ga) (hb : DE X W ph b gb) (hc : DE X W ph c gc) (hm : lastMarks [op, op'] [b, c] = false := by with_unfolding_all rfl) :
    DE X W ph (.Compare a [op, op'] [b, c] pos) (gChain o o' ga gb gc) := pe_imp (pe_chain ho ho' ha hb hc hm) (chain_run (fun _ _ _ _ h => h) fun _ _ _ _ h => h)
theorem dt_chain [Tb] {op op' : CmpOp} (ho : OpR X (compareOp op) (rOp X.K o)) (ho' : OpR X (compareOp op') (rOp X.K o')) (ha : DE X W ph a ga) (hb : DE X W ph b gb) (hc : DE X W ph c gc) (hm : lastMarks [op, op'] [b, c] = false := by with_unfolding_all rfl) :
    DT X W ph (.Compare a [op, op'] [b, c] pos) (gTb (gChain o o' ga gb gc)) := pt_imp (pt_chain ho ho' ha hb hc hm) fun σ H Q h => chain_run (fun _ _ _ _ h => h) (fun _ _ _ _ h => h) σ H _ (tb_run σ H Q h)
/-! ### truth -/
def truD : PyData → Option Bool
  | .none => some false
  | .bool b => some b
  | .int i => some (i != 0)
  | .str x => if x.length ≤ sizeLine then some ((x.length : Int) != 0) else none
  | .list xs => some (!xs.isEmpty)
  | .tuple xs => some (!xs.isEmpty)
  | .dict _ => none
def gTr (g : Rw → Rs PyData) : Rw → Rs Bool := fun rho => g rho >>= fun d => lift (truD d)
theorem rpl_empty {K : PySem.W.Frag} {F : Hp} {vs : List V} {ds : List PyData} (h : RpL K F vs ds) : (!ds.isEmpty) = !vs.isEmpty := by cases h <;> rfl
theorem tru_of {K : PySem.W.Frag} {F H : Hp} (s : Same F H) {v : V} {d : PyData} {k : Bool} (r : Rp K F v d) (h : truD d = some k) : TruV K v H k := by
  cases r with
  | non => cases h; rfl
  | bl b => cases h; rfl
  | int i => cases h; rfl
  | str x =>
    have h : (if x.length ≤ sizeLine then some ((x.length : Int) != 0) else none) = some k := h
    by_cases hz : x.length ≤ sizeLine
    · rw [if_pos hz] at h; cases h; exact ⟨hz, rfl⟩
    · rw [if_neg hz] at h; cases h
  | lst e _ t => cases h; exact .inl ⟨_, .of (s _ _ e), rpl_empty t⟩
  | tup e _ t => cases h; exact .inr (.inl ⟨_, .of (s _ _ e), rpl_empty t⟩)
  | dct e _ t => cases h
  | scr e => cases h
theorem dt_truth [Tb] {g : Rw → Rs PyData} (h : DE X W ph e g) (he : ∀ whole, isTrue e X.env whole = (do let v ← whole; standAt e.pos; holding [v] (truthy v)) := by intro _; rfl) : DT X W ph e (gTr g) :=
  pt_imp (pt_truth h he) fun σ H Q ⟨F, rho, n, q⟩ => ⟨F, rho, n, q.bind fun d F1 H1 s1 q1 v r => by
    obtain ⟨k, e, q2⟩ := q1.lift
    exact ⟨k, tru_of s1.fh r e, q2.now s1.fh⟩⟩
/-! ### and, or, not, if -/
variable {ta tb : Rw → Rs Bool} {rest : List Expr}
def gAndT (a b : Rw → Rs Bool) : Rw → Rs Bool := fun rho => a rho >>= fun x => if x = true then b rho else .ok false
def gOrT (a b : Rw → Rs Bool) : Rw → Rs Bool := fun rho => a rho >>= fun x => if x = true then .ok true else b rho
def gNotT (a : Rw → Rs Bool) : Rw → Rs Bool := fun rho => a rho >>= fun x => .ok (!x)
theorem dw_and1 [Tb] (ha : DT X W ph a ta) : DW X W ph (.BoolOp .And [a] pos) ta := pw_and1 ha
theorem dw_or1 [Tb] (ha : DT X W ph a ta) : DW X W ph (.BoolOp .Or [a] pos) ta := pw_or1 ha
theorem dw_and [Tb] (ha : DT X W ph a ta) (hb : DW X W ph (.BoolOp .And (b :: rest) pos) tb) : DW X W ph (.BoolOp .And (a :: b :: rest) pos) (gAndT ta tb) :=
  pw_imp (pw_and ha hb) fun σ H Q ⟨F, rho, n, q⟩ => ⟨F, rho, n, q.bind fun k F1 H1 s1 q1 => by
    cases k with
    | true => rw [if_pos rfl] at q1 ⊢; exact ⟨F1, rho, n.step s1, q1⟩
    | false => rw [if_neg Bool.false_ne_true] at q1 ⊢; exact q1.now s1.fh⟩
theorem dw_or [Tb] (ha : DT X W ph a ta) (hb : DW X W ph (.BoolOp .Or (b :: rest) pos) tb) : DW X W ph (.BoolOp .Or (a :: b :: rest) pos) (gOrT ta tb) :=
  pw_imp (pw_or ha hb) fun σ H Q ⟨F, rho, n, q⟩ => ⟨F, rho, n, q.bind fun k F1 H1 s1 q1 => by
    cases k with
    | true => rw [if_pos rfl] at q1 ⊢; exact q1.now s1.fh
    | false => rw [if_neg Bool.false_ne_true] at q1 ⊢; exact ⟨F1, rho, n.step s1, q1⟩⟩
theorem dt_w [Tb] (h : DW X W ph e ta) : DT X W ph e ta := h.pt
theorem dt_not [Tb] (ha : DT X W ph a ta) : DT X W ph (.UnaryOp .Not a pos) (gNotT ta) :=
  pt_imp (pt_not ha) fun σ H Q ⟨F, rho, n, q⟩ => ⟨F, rho, n, q.bind fun k F1 H1 s1 q1 => q1.now s1.fh⟩
def gAndV (a b : Rw → Rs PyData) : Rw → Rs PyData := fun rho => a rho >>= fun x => lift (boolD x) >>= fun k => if k = true then b rho else .ok (.bool false)
def gOrV (a b : Rw → Rs PyData) : Rw → Rs PyData := fun rho => a rho >>= fun x => lift (boolD x) >>= fun k => if k = true then .ok (.bool true) else b rho
def gNotV (a : Rw → Rs PyData) : Rw → Rs PyData := fun rho => a rho >>= fun x => lift (truD x) >>= fun k => .ok (.bool (!k))
theorem de_one [Tb] {op} (h : DE X W ph a ga) : DE X W ph (.BoolOp op [a] pos) ga := pe_one h
theorem bool_of {K : PySem.W.Frag} {F : Hp} {v : V} {d : PyData} {k : Bool} (r : Rp K F v d) (e : boolD d = some k) : v = .bl k := by
  cases r <;> cases e; rfl
theorem de_and [Tb] (ha : DE X W ph a ga) (hb : DE X W ph (.BoolOp .And (b :: rest) pos) gb) : DE X W ph (.BoolOp .And (a :: b :: rest) pos) (gAndV ga gb) :=
  pe_imp (pe_and ha hb) fun σ H Q ⟨F, rho, n, q⟩ => ⟨F, rho, n, q.bind fun d F1 H1 s1 q1 v r => by
    cases e : boolD d with
    | none => rw [e] at q1; exact False.elim q1
    | some k =>
      rw [e] at q1
      have q2 : Aft X.mg W σ F1 H1 (if k = true then gb rho else .ok (.bool false)) _ := q1
      refine ⟨k, bool_of r e, ?_⟩
      cases k with
      | true => rw [if_pos rfl] at q2 ⊢; exact ⟨F1, rho, n.step s1, q2⟩
      | false => rw [if_neg Bool.false_ne_true] at q2 ⊢; exact q2.now s1.fh _ (.bl false)⟩
theorem de_or [Tb] (ha : DE X W ph a ga) (hb : DE X W ph (.BoolOp .Or (b :: rest) pos) gb) : DE X W ph (.BoolOp .Or (a :: b :: rest) pos) (gOrV ga gb) :=
  pe_imp (pe_or ha hb) fun σ H Q ⟨F, rho, n, q⟩ => ⟨F, rho, n, q.bind fun d F1 H1 s1 q1 v r => by
    cases e : boolD d with
    | none => rw [e] at q1; exact False.elim q1
    | some k =>
      rw [e] at q1
      have q2 : Aft X.mg W σ F1 H1 (if k = true then .ok (.bool true) else gb rho) _ := q1
      refine ⟨k, bool_of r e, ?_⟩
      cases k with
      | true => rw [if_pos rfl] at q2 ⊢; exact q2.now s1.fh _ (.bl true)
      | false => rw [if_neg Bool.false_ne_true] at q2 ⊢; exact ⟨F1, rho, n.step s1, q2⟩⟩
theorem de_not [Tb] (ha : DE X W ph a ga) : DE X W ph (.UnaryOp .Not a pos) (gNotV ga) :=
  pe_imp (pe_notT ha) fun σ H Q ⟨F, rho, n, q⟩ => ⟨F, rho, n, q.bind fun d F1 H1 s1 q1 v r => by
    cases e : truD d with
    | none => rw [e] at q1; exact False.elim q1
    | some k =>
      rw [e] at q1
      have q2 : Aft X.mg W σ F1 H1 (.ok (PyData.bool !k)) _ := q1
      exact ⟨k, tru_of s1.fh r e, q2.now s1.fh _ (.bl _)⟩⟩
def gIf (t : Rw → Rs Bool) (a b : Rw → Rs PyData) : Rw → Rs PyData := fun rho => t rho >>= fun k => if k = true then a rho else b rho
theorem de_if [Tb] (hc : DT X W ph c ta) (ha : DE X W ph a ga) (hb : DE X W ph b gb) : DE X W ph (.IfExp c a b pos) (gIf ta ga gb) :=
  pe_imp (pe_ifExp hc ha hb) fun σ H Q ⟨F, rho, n, q⟩ => ⟨F, rho, n, q.bind fun k F1 H1 s1 q1 => by
    cases k with
    | true => rw [if_pos rfl] at q1 ⊢; exact ⟨F1, rho, n.step s1, q1⟩
    | false => rw [if_neg Bool.false_ne_true] at q1 ⊢; exact ⟨F1, rho, n.step s1, q1⟩⟩
/-! ### argument lists, displays -/
variable {gs : Rw → Rs (List PyData)}
def gNil : Rw → Rs (List PyData) := fun _ => .ok []
def gCons (ga : Rw → Rs PyData) (gs : Rw → Rs (List PyData)) : Rw → Rs (List PyData) := fun rho => ga rho >>= fun x => gs rho >>= fun xs => .ok (x :: xs)
theorem da_nil [Tb] : DA X W ph [] gNil := pa_imp pa_nil fun σ H Q ⟨F, rho, n, q⟩ => q.now n.fh _ .nil
theorem da_cons [Tb] (ha : DE X W ph e ga) (hr : DA X W ph es gs) (hs : starEach (e :: es) X.env = (false, eval e X.env) :: starEach es X.env := by rfl) : DA X W ph (e :: es) (gCons ga gs) :=
  pa_imp (pa_cons ha hr hs) fun σ H Q ⟨F, rho, n, q⟩ => ⟨F, rho, n, q.bind fun d F1 H1 s1 q1 v r => ⟨F1, rho, n.step s1, q1.bind fun ds F2 H2 s2 q2 vs rs => q2.now s2.fh _ (.cons (r.mono s2.f) rs)⟩⟩
def smal (n : Nat) : Bool := decide (n ≤ sizeLine)
def tupD (ds : List PyData) : Option PyData := if ds.length ≤ sizeLine then some (.tuple ds) else none
def lstD (ds : List PyData) : Option PyData := if ds.length ≤ sizeLine then some (.list ds) else none
def gL (o : List PyData → Option PyData) (gs : Rw → Rs (List PyData)) : Rw → Rs PyData := fun rho => gs rho >>= fun ds => lift (o ds)
theorem de_tup [Tb] {x1} (h : DA X W ph es gs) : DE X W ph (.Tuple es x1 pos) (gL tupD gs) :=
  pe_imp (pe_tup h) fun σ H Q ⟨F, rho, n, q⟩ => ⟨F, rho, n, q.bind fun ds F1 H1 s1 q1 vs rs => by
    obtain ⟨d, e, q2⟩ := q1.lift
    unfold tupD at e
    by_cases hz : ds.length ≤ sizeLine
    · rw [if_pos hz] at e
      cases e
      refine ⟨by rw [rs.length]; exact hz, fun p hp => ?_⟩
      exact q2.ok (Step.new s1.fh hp) _ (.tup upd_same (by rw [rs.length]; exact hz) (rs.mono (same_upd (same_none s1.fh hp))))
    · rw [if_neg hz] at e; cases e⟩
theorem do_lst [Tb] (h : DA X W ph es gs) : DO X W ph (.List es pos) (gL lstD gs) :=
  pe_imp (pe_lst h) fun σ H Q ⟨F, rho, n, q⟩ => ⟨F, rho, n, q.bind fun ds F1 H1 s1 q1 vs rs => by
    obtain ⟨d, e, q2⟩ := q1.lift
    unfold lstD at e
    by_cases hz : ds.length ≤ sizeLine
    · rw [if_pos hz] at e
      cases e
      refine ⟨by rw [rs.length]; exact hz, fun p hp => ?_⟩
      exact q2.ok (Step.hid s1.fh hp) p _ (s1.h.free hp) (same_none s1.fh hp) upd_same ⟨by rw [rs.length]; exact hz, rs⟩
    · rw [if_neg hz] at e; cases e⟩
/-! ### calls of built-ins -/
def rCl [Tb] (K : PySem.W.Frag) (o : List PyData → Option PyData) : List V → Hp → VK → Prop := fun vs H Q => ∃ F ds d, Same F H ∧ RpL K F vs ds ∧ o ds = some d ∧ ∀ v F' H', Step F H F' H' → Rp K F' v d → Q v H'
def rClO [Tb] (K : PySem.W.Frag) (o : List PyData → Option PyData) : List V → Hp → VK → Prop := fun vs H Q => ∃ F ds d, Same F H ∧ RpL K F vs ds ∧ o ds = some d ∧ ∀ p u F' H', Step F H F' H' → H p = none → F' p = none → H' p = some u → RepO K F' u d → Q (.ref p) H'
variable {x : Str} {p : Pos} {id T : String} {ol : List PyData → Option PyData}
theorem cl_run [Tb] : ∀ σ H Q, rE X.K X.mg W ph (gL ol gs) σ H Q → tCB (rCl X.K ol) (rA X.K X.mg W ph gs) σ H Q := fun σ H Q ⟨F, rho, n, q⟩ =>
  ⟨F, rho, n, q.bind fun ds F1 H1 s1 q1 vs rs => by
    obtain ⟨d, e, q2⟩ := q1.lift
    exact ⟨F1, ds, d, s1.fh, rs, e, fun v F' H' s r => q2.ok s v r⟩⟩
theorem clO_run [Tb] : ∀ σ H Q, rO X.K X.mg W ph (gL ol gs) σ H Q → tCB (rClO X.K ol) (rA X.K X.mg W ph gs) σ H Q := fun σ H Q ⟨F, rho, n, q⟩ =>
  ⟨F, rho, n, q.bind fun ds F1 H1 s1 q1 vs rs => by
    obtain ⟨d, e, q2⟩ := q1.lift
    exact ⟨F1, ds, d, s1.fh, rs, e, fun p u F' H' s h0 h1 h2 r => q2.ok s p u (s1.h.free h0) h1 h2 r⟩⟩
theorem de_callB [Tb] (hc : CallR X (.builtin id) (rCl X.K ol)) (hm : X.mg x = none) (hv : bootBuiltins x = some (.builtin id)) (ha : DA X W ph (e :: es) gs) (hg : Gl X x := by rfl) (hn : x ≠ "__name__" := by decide) (hdb : (x == ("__debug__" : Str)) = false := by decide)
    (he : starEach (e :: es) X.env = (false, eval e X.env) :: starEach es X.env := by rfl) (hpl : (backTo pos (starEach es X.env)).any (·.1) = false := by rfl) : DE X W ph (.Call (.Name x p) (e :: es) [] pos) (gL ol gs) :=
  pe_imp (pe_callB hc hg hm hv ha hn hdb he hpl) cl_run
theorem do_callB [Tb] (hc : CallR X (.builtin id) (rClO X.K ol)) (hm : X.mg x = none) (hv : bootBuiltins x = some (.builtin id)) (ha : DA X W ph (e :: es) gs) (hg : Gl X x := by rfl) (hn : x ≠ "__name__" := by decide) (hdb : (x == ("__debug__" : Str)) = false := by decide)
    (he : starEach (e :: es) X.env = (false, eval e X.env) :: starEach es X.env := by rfl) (hpl : (backTo pos (starEach es X.env)).any (·.1) = false := by rfl) : DO X W ph (.Call (.Name x p) (e :: es) [] pos) (gL ol gs) :=
  pe_imp (pe_callB hc hg hm hv ha hn hdb he hpl) clO_run
theorem de_callTy [Tb] (hc : CallR X (.type T) (rCl X.K ol)) (hm : X.mg x = none) (hv : bootBuiltins x = some (.type T)) (ha : DA X W ph (e :: es) gs) (hg : Gl X x := by rfl) (hn : x ≠ "__name__" := by decide) (hdb : (x == ("__debug__" : Str)) = false := by decide)
    (he : starEach (e :: es) X.env = (false, eval e X.env) :: starEach es X.env := by rfl) (hpl : (backTo pos (starEach es X.env)).any (·.1) = false := by rfl) : DE X W ph (.Call (.Name x p) (e :: es) [] pos) (gL ol gs) :=
  pe_imp (pe_callTy hc hg hm hv ha hn hdb he hpl) cl_run
theorem do_callTy [Tb] (hc : CallR X (.type T) (rClO X.K ol)) (hm : X.mg x = none) (hv : bootBuiltins x = some (.type T)) (ha : DA X W ph (e :: es) gs) (hg : Gl X x := by rfl) (hn : x ≠ "__name__" := by decide) (hdb : (x == ("__debug__" : Str)) = false := by decide)
    (he : starEach (e :: es) X.env = (false, eval e X.env) :: starEach es X.env := by rfl) (hpl : (backTo pos (starEach es X.env)).any (·.1) = false := by rfl) : DO X W ph (.Call (.Name x p) (e :: es) [] pos) (gL ol gs) :=
  pe_imp (pe_callTy hc hg hm hv ha hn hdb he hpl) clO_run
/-! ### calls of defs -/
/-- the promise of a def: m of its arguments' data -/
def spP [Tb] (K : PySem.W.Frag) (mg : Str → Option Value) (k : Nat) (m : List PyData → Rs PyData) : Sp := fun vs H Q E => ∃ F ds, ds.length = k ∧ Same F H ∧ TbOk F H ∧ RpL K F vs ds ∧ Aft mg (fun c d _ H' => E c d H') [] F H (m ds) fun d F' H' => ∀ v, Rp K F' v d → Q v H'
def gF (m : List PyData → Rs PyData) (gs : Rw → Rs (List PyData)) : Rw → Rs PyData := fun rho => gs rho >>= m
theorem aft_w [Tb] {mg : Str → Option Value} {W : WX} {σ : L2.St} {F H : Hp} {r : Rs PyData} {Z : PyData → Hp → Hp → Prop} (h : Aft mg W σ F H r Z) : Aft mg (fun c d _ H' => W c d σ H') [] F H r Z := by
  cases r with
  | ok x => exact h
  | error e => cases e <;> exact h
/-- m is of nn arguments -/
def LenM (nn : Nat) (m : List PyData → Rs PyData) : Prop := ∀ ds, ds.length ≠ nn → m ds = .error .bad
theorem de_fn [Tb] {k : Nat} {f : Addr} {fd : FuncData} {ps : List Str} {m : List PyData → Rs PyData} {nn : Nat} (G : FnOk X.prog X.w X.K X.mg X.base (L2.CX X.prog X.w) k f fd ps (spP X.K X.mg nn m)) (hr : Room k X.A) (hm : X.mg x = some (.ref f)) (hk : PySem.W.keepIn X.K (.ref f) = true) (hb : Binds X.K fd ps [])
    (lm : LenM nn m) (tk : Takes X W) (ha : DA X W ph (e :: es) gs) (hg : Gl X x := by rfl) (hdb : (x == ("__debug__" : Str)) = false := by decide)
    (he : starEach (e :: es) X.env = (false, eval e X.env) :: starEach es X.env := by rfl) (hpl : (backTo pos (starEach es X.env)).any (·.1) = false := by rfl) : DE X W ph (.Call (.Name x p) (e :: es) [] pos) (gF m gs) :=
  pe_imp (pe_callS G hr hg hm hk hb (fun σ => passAt tk σ) ha hdb he hpl) fun σ H Q ⟨F, rho, n, q⟩ => ⟨F, rho, n, q.bind fun ds F1 H1 s1 q1 vs rs => by
    by_cases hl : ds.length = nn
    · exact ⟨F1, ds, hl, s1.fh, s1.t n.tb, rs, aft_w q1⟩
    · rw [lm ds hl] at q1; exact False.elim q1⟩
end
end PD
/-! PD2: statements, targets, loops. -/
namespace PD
open PySem L2
/-- where the things that are changed stand: those that may be written are not known at the entry, and apart from all own ones; those that are read were known -/
def CwOk [Tb] (K : PySem.W.Frag) (H0 : Hp) (ph : List Fl) (F H : Hp) (σ : L2.St) (rho : Rw) : Prop := ∃ ad : Nat → List Addr,
  (∀ i k, ph[i]? = some (.cw k) → CtAt Tb.cls K F H (Tb.root k) (ad k) (look rho i) ∧ (∀ a ∈ ad k, H0 a = none) ∧ (∀ (j : Nat) (p : Addr), ph[j]? = some .ow → σ[j]? = some (some (.ref p)) → p ∉ ad k) ∧ ∀ j l, ph[j]? = some (.cw l) → j ≠ i → ∀ a ∈ ad k, a ∉ ad l) ∧
  (∀ i k, ph[i]? = some (.cr k) → CtAt Tb.cls K F H (Tb.root k) (ad k) (look rho i) ∧ ∀ a ∈ ad k, H0 a ≠ none)
theorem CwOk.map [Tb] {K : PySem.W.Frag} {H0 H0' : Hp} {ph ph' : List Fl} {F H F' H' : Hp} {σ σ' : L2.St} {rho rho' : Rw} (c : CwOk K H0 ph F H σ rho) (on : ∀ (i : Nat) (p : Addr), ph[i]? = some .ow → σ[i]? = some (some (.ref p)) → H0 p = none) (hs : Same F F')
    (h0 : ∀ a, F a = none → H0 a = none → H0' a = none) (h1 : ∀ a, F a = none → H0 a ≠ none → H0' a ≠ none)
    (hw : ∀ i k, ph'[i]? = some (.cw k) → ph[i]? = some (.cw k) ∧ look rho' i = look rho i) (hr : ∀ i k, ph'[i]? = some (.cr k) → ph[i]? = some (.cr k) ∧ look rho' i = look rho i)
    (ho : ∀ (j : Nat) (p : Addr), ph'[j]? = some .ow → σ'[j]? = some (some (.ref p)) → (ph[j]? = some .ow ∧ σ[j]? = some (some (.ref p))) ∨ H p = none)
    (hh : ∀ a o, H a = some o → F a = none → Fresh o → (∀ (j : Nat) (p : Addr), ph[j]? = some .ow → σ[j]? = some (some (.ref p)) → a ≠ p) → H' a = some o ∧ F' a = none) : CwOk K H0' ph' F' H' σ' rho' := by
  obtain ⟨ad, cw, cr⟩ := c
  refine ⟨ad, fun i k h => ?_, fun i k h => ?_⟩
  · obtain ⟨e1, e2⟩ := hw i k h
    obtain ⟨c1, c2, c3, c4⟩ := cw i k e1
    refine ⟨?_, fun a ha => h0 a (c1.has a ha).1 (c2 a ha), fun j p h1 h2 z => ?_, fun j l hl hj => c4 j l (hw j l hl).1 hj⟩
    · rw [e2]
      refine c1.mono hs fun a ha => ?_
      obtain ⟨f1, o, f2, f3⟩ := c1.has a ha
      obtain ⟨g1, g2⟩ := hh a o f2 f1 f3 fun j p q1 q2 z => c3 j p q1 q2 (z ▸ ha)
      exact ⟨by rw [g1, f2], g2⟩
    · rcases ho j p h1 h2 with ⟨q1, q2⟩ | q
      · exact c3 j p q1 q2 z
      · obtain ⟨_, o, f2, _⟩ := c1.has p z
        rw [q] at f2; cases f2
  · obtain ⟨e1, e2⟩ := hr i k h
    obtain ⟨c1, c2⟩ := cr i k e1
    refine ⟨?_, fun a ha => h1 a (c1.has a ha).1 (c2 a ha)⟩
    rw [e2]
    refine c1.mono hs fun a ha => ?_
    obtain ⟨f1, o, f2, f3⟩ := c1.has a ha
    obtain ⟨g1, g2⟩ := hh a o f2 f1 f3 fun j p q1 q2 z => c2 a ha (z ▸ on j p q1 q2)
    exact ⟨by rw [g1, f2], g2⟩
/-- within a def that was entered with F0, H0 -/
structure EnS [Tb] (K : PySem.W.Frag) (F0 H0 : Hp) (ph : List Fl) (F H : Hp) (σ : L2.St) (rho : Rw) : Prop where
  en : En K ph F H σ rho
  st : Step F0 H0 F H
  on : ∀ (i : Nat) (p : Addr), ph[i]? = some .ow → σ[i]? = some (some (.ref p)) → H0 p = none
  cw : CwOk K H0 ph F H σ rho
section
variable {K : PySem.W.Frag} {F0 H0 F H F' H' : Hp} {ph ph' : List Fl} {σ : L2.St} {rho : Rw}
theorem CwOk.step [Tb] (c : CwOk K H0 ph F H σ rho) (on : ∀ (i : Nat) (p : Addr), ph[i]? = some .ow → σ[i]? = some (some (.ref p)) → H0 p = none) (s : Step F H F' H') : CwOk K H0 ph F' H' σ rho :=
  c.map on s.f (fun _ _ h => h) (fun _ _ h => h) (fun _ _ h => ⟨h, rfl⟩) (fun _ _ h => ⟨h, rfl⟩) (fun _ _ h1 h2 => .inl ⟨h1, h2⟩) fun a o h1 h2 h3 _ => ⟨s.h.k h1 h3.1, s.nw a h2 (by rw [h1]; simp)⟩
theorem EnS.step [Tb] (n : EnS K F0 H0 ph F H σ rho) (s : Step F H F' H') : EnS K F0 H0 ph F' H' σ rho := ⟨n.en.step s, n.st.trans s, n.on, n.cw.step n.on s⟩
open Classical in
theorem EnS.weak [Tb] (n : EnS K F0 H0 ph F H σ rho) (w : wk ph ph' = true) : ∃ F', Same F F' ∧ EnS K F0 H0 ph' F' H σ rho := by
  let Fz : Addr → Prop := fun b => ∃ i : Nat, ph[i]? = some Fl.ow ∧ ph'[i]? = some Fl.im ∧ σ[i]? = some (some (V.ref b))
  let F' : Hp := fun b => if Fz b then H b else F b
  have s1 : Same F F' := fun b o e => by
    show (if Fz b then H b else F b) = some o
    by_cases h : Fz b
    · rw [if_pos h]; exact n.en.fh _ _ e
    · rw [if_neg h]; exact e
  have s2 : Same F' H := fun b o e => by
    have e : (if Fz b then H b else F b) = some o := e
    by_cases h : Fz b
    · rw [if_pos h] at e; exact e
    · rw [if_neg h] at e; exact n.en.fh _ _ e
  have owow : ∀ i, ph'[i]? = some Fl.ow → ph[i]? = some Fl.ow := fun i h => by
    obtain ⟨f, h1, h2⟩ := wk_get w h
    cases f <;> first | exact h1 | (exact absurd h2 (by simp [wkF]))
  have cwcw : ∀ i k, ph'[i]? = some (Fl.cw k) → ph[i]? = some (Fl.cw k) := fun i k h => by
    obtain ⟨f, h1, h2⟩ := wk_get w h
    cases f with
    | cw l => have : (l == k) = true := h2; rw [beq_iff_eq.mp this] at h1; exact h1
    | _ => exact absurd h2 (by simp [wkF])
  have crcr : ∀ i k, ph'[i]? = some (Fl.cr k) → ph[i]? = some (Fl.cr k) := fun i k h => by
    obtain ⟨f, h1, h2⟩ := wk_get w h
    cases f with
    | cr l => have : (l == k) = true := h2; rw [beq_iff_eq.mp this] at h1; exact h1
    | _ => exact absurd h2 (by simp [wkF])
  have tb : TbOk F' H := ⟨fun q hq => by
    obtain ⟨t1, t2⟩ := n.en.tb.1 q hq
    refine ⟨?_, t2⟩
    show (if Fz q.1 then H q.1 else F q.1) = none
    rw [if_neg]
    · exact t1
    · rintro ⟨i, i1, _, i3⟩
      obtain ⟨p, o, e1, _, e3, r⟩ := n.en.ow i1
      rw [i3] at e1; cases e1
      obtain ⟨ps, hp, _⟩ := t2
      rw [hp] at e3; cases e3
      exact r.nt.1 ps rfl, fun q xs e => by
    show (if Fz q then H q else F q) = _
    by_cases h : Fz q
    · rw [if_pos h]; exact e
    · rw [if_neg h]; exact n.en.tb.2 q xs e⟩
  refine ⟨F', s1, ⟨s2, Nat.le_trans (wk_len w) n.en.ls, Nat.le_trans (wk_len w) n.en.lr, fun i g h => ?_, fun i j p h1 h2 => n.en.ap i j p (owow i h1) (owow j h2), tb⟩, ⟨n.st.f.trans s1, s2, n.st.h, fun p h1 h2 => ?_, fun _ => tb⟩, fun i p h1 h2 => n.on i p (owow i h1) h2, n.cw.map n.on s1 (fun _ _ h => h) (fun _ _ h => h) (fun i k h => ⟨cwcw i k h, rfl⟩) (fun i k h => ⟨crcr i k h, rfl⟩) (fun j p h1 h2 => .inl ⟨owow j h1, h2⟩) fun a o h1 h2 h3 h4 => ⟨h1, ?_⟩⟩
  · obtain ⟨f, h1, h2⟩ := wk_get w h
    obtain ⟨sv, d, e1, e2, e3⟩ := n.en.sl i f h1
    refine ⟨sv, d, e1, e2, ?_⟩
    cases g with
    | dead => trivial
    | cr k =>
      have e := crcr i k h
      rw [h1] at e; cases e
      obtain ⟨q1, as, q2⟩ := e3
      obtain ⟨ad, _, c2⟩ := n.cw
      obtain ⟨c3, c4⟩ := c2 i k h1
      refine ⟨q1, ad k, ?_⟩
      rw [look_of e2] at c3
      refine c3.mono s1 fun a ha => ⟨rfl, ?_⟩
      show (if Fz a then H a else F a) = none
      rw [if_neg]
      · exact (c3.has a ha).1
      · rintro ⟨j, j1, _, j3⟩
        exact c4 a ha (n.on j a j1 j3)
    | cw k =>
      have e := cwcw i k h
      rw [h1] at e; cases e
      obtain ⟨q1, as, q2⟩ := e3
      obtain ⟨ad, c2, _⟩ := n.cw
      obtain ⟨c3, _, c4, _⟩ := c2 i k h1
      refine ⟨q1, ad k, ?_⟩
      rw [look_of e2] at c3
      refine c3.mono s1 fun a ha => ⟨rfl, ?_⟩
      show (if Fz a then H a else F a) = none
      rw [if_neg]
      · exact (c3.has a ha).1
      · rintro ⟨j, j1, _, j3⟩
        exact c4 j a j1 j3 ha
    | im =>
      cases f with
      | dead => exact absurd h2 (by decide)
      | cr _ => exact absurd h2 (by simp [wkF])
      | cw _ => exact absurd h2 (by simp [wkF])
      | im => obtain ⟨v, e, r⟩ := e3; exact ⟨v, e, r.mono s1⟩
      | ow =>
        obtain ⟨p, o, e, q1, q2, r⟩ := e3
        subst e
        have : F' p = some o := by
          show (if Fz p then H p else F p) = some o
          rw [if_pos ⟨i, h1, h, e1⟩]; exact q2
        exact ⟨.ref p, rfl, (r.mono s1).rp this⟩
    | ow =>
      cases f with
      | dead => exact absurd h2 (by decide)
      | im => exact absurd h2 (by decide)
      | cr _ => exact absurd h2 (by simp [wkF])
      | cw _ => exact absurd h2 (by simp [wkF])
      | ow =>
        obtain ⟨p, o, e, q1, q2, r⟩ := e3
        subst e
        refine ⟨p, o, rfl, ?_, q2, r.mono s1⟩
        show (if Fz p then H p else F p) = none
        rw [if_neg]
        · exact q1
        · rintro ⟨j, j1, j2, j3⟩
          have := n.en.ap i j p h1 j1 e1 j3
          subst this
          rw [h] at j2; cases j2
  · show (if Fz p then H p else F p) = none
    rw [if_neg]
    · exact n.st.nw p h1 h2
    · rintro ⟨i, i1, i2, i3⟩
      exact h2 (n.on i p i1 i3)
  · show (if Fz a then H a else F a) = none
    rw [if_neg]
    · exact h2
    · rintro ⟨i, i1, i2, i3⟩
      exact h4 i a i1 i3 rfl
end
/-- how a statement ends -/
inductive SR where
  | nx (rho : Rw)
  | rt (d : PyData)
  | bk (rho : Rw)
  | ct (rho : Rw)
  | er (e : Er) (rho : Rw)
/-- what is known at a break, a continue, an exception -/
structure Ctl where
  b : List Fl
  c : List Fl
  e : List Fl
  /-- the thing whose content goes out with a return -/
  r : Option Nat := none
def RtOk [Tb] (K : PySem.W.Frag) (r : Option Nat) (F0 H0 : Hp) (D : Ends) (d : PyData) : Prop := match r with
  | none => ∀ v F H, Step F0 H0 F H → Rp K F v d → D.rt v H
  | some k => ∃ d0 c, d = .tuple [d0, c] ∧ ∀ v F H as, Step F0 H0 F H → Rp K F v d0 → CtAt Tb.cls K F H (Tb.root k) as c → (∀ a ∈ as, H0 a = none) → D.rt v H
theorem RtOk.to [Tb] {K : PySem.W.Frag} {r : Option Nat} {F0 H0 F1 H1 : Hp} {D D' : Ends} {d : PyData} (h : RtOk K r F0 H0 D d) (hs : ∀ F H, Step F1 H1 F H → Step F0 H0 F H) (hn : ∀ a, H1 a = none → H0 a = none) (hd : ∀ v H, D.rt v H → D'.rt v H) : RtOk K r F1 H1 D' d := by
  cases r with
  | none => exact fun v F H s r => hd _ _ (h v F H (hs _ _ s) r)
  | some k =>
    obtain ⟨d0, c, e, q⟩ := h
    exact ⟨d0, c, e, fun v F H as s r ct ha => hd _ _ (q v F H as (hs _ _ s) r ct fun a m => hn a (ha a m))⟩
theorem RtOk.none [Tb] {K : PySem.W.Frag} {r : Option Nat} {F0 H0 : Hp} {D : Ends} {d : PyData} (hr : r = Option.none) (h : RtOk K r F0 H0 D d) : ∀ v F H, Step F0 H0 F H → Rp K F v d → D.rt v H := by
  subst hr; exact h
def SAft [Tb] (K : PySem.W.Frag) (mg : Str → Option Value) (W : WX) (C : Ctl) (F0 H0 : Hp) (phn : List Fl) (D : Ends) : SR → Prop
  | .nx rho => ∀ σ F H, EnS K F0 H0 phn F H σ rho → D.nx σ H
  | .rt d => RtOk K C.r F0 H0 D d
  | .bk rho => ∀ σ F H, EnS K F0 H0 C.b F H σ rho → D.bk σ H
  | .ct rho => ∀ σ F H, EnS K F0 H0 C.c F H σ rho → D.ct σ H
  | .er (.exc n) rho => ∀ σ F H, EnS K F0 H0 C.e F H σ rho → W (clsOf mg n) none σ H
  | .er .bad _ => False
def rS [Tb] (K : PySem.W.Frag) (mg : Str → Option Value) (W : WX) (C : Ctl) (ph phn : List Fl) (g : Rw → SR) : TS := fun D σ H =>
  ∃ F0 H0 F rho, EnS K F0 H0 ph F H σ rho ∧ SAft K mg W C F0 H0 phn D (g rho)
abbrev DS [Tb] (X : Cx) (W : WX) (C : Ctl) (ph phn : List Fl) (s : Stmt) (g : Rw → SR) : Prop := PS X s (rS X.K X.mg W C ph phn g)
abbrev DB [Tb] (X : Cx) (W : WX) (C : Ctl) (ph phn : List Fl) (s : List Stmt) (g : Rw → SR) : Prop := PSs X s (rS X.K X.mg W C ph phn g)
/-- an expression's result, then the rest -/
def thenS {a : Type} (r : Rs a) (rho : Rw) (k : a → SR) : SR := match r with
  | .ok x => k x
  | .error e => .er e rho
section
variable {X : Cx} {W : WX} {C : Ctl} {ph ph1 ph2 phn : List Fl} {e : Expr} {s : Stmt} {rest : List Stmt} {pos : Pos} {g1 g2 : Rw → SR} {ge : Rw → Rs PyData}
/-- from the statement's wish to the expression's -/
theorem aft_then [Tb] {a : Type} {mg : Str → Option Value} {F0 H0 F H : Hp} {σ : L2.St} {rho : Rw} {r : Rs a} {k : a → SR} {D : Ends} {K : PySem.W.Frag} {Z : a → Hp → Hp → Prop} (n : EnS K F0 H0 ph F H σ rho) (w : wk ph C.e = true) (q : SAft K mg W C F0 H0 phn D (thenS r rho k))
    (hz : ∀ x F1 H1, Step F H F1 H1 → SAft K mg W C F0 H0 phn D (k x) → Z x F1 H1) : Aft mg W σ F H r Z := by
  cases r with
  | ok x => exact fun F1 H1 s => hz x F1 H1 s q
  | error er =>
    cases er with
    | bad => exact q
    | exc nm =>
      intro F1 H1 s
      obtain ⟨F2, _, n2⟩ := (n.step s).weak w
      exact q σ F2 H1 n2
theorem db_nil [Tb] : DB X W C ph ph [] SR.nx := pss_imp pss_nil fun D σ H ⟨F0, H0, F, rho, n, q⟩ => q σ F H n
def gSeq (g1 g2 : Rw → SR) : Rw → SR := fun rho => match g1 rho with
  | .nx r => g2 r
  | .rt d => .rt d
  | .bk r => .bk r
  | .ct r => .ct r
  | .er e r => .er e r
theorem db_cons [Tb] (h1 : DS X W C ph ph1 s g1) (h2 : DB X W C ph1 ph2 rest g2) : DB X W C ph ph2 (s :: rest) (gSeq g1 g2) :=
  pss_imp (pss_cons h1 h2) fun D σ H ⟨F0, H0, F, rho, n, q⟩ => ⟨F0, H0, F, rho, n, by
    unfold gSeq at q
    cases e : g1 rho with
    | nx r => rw [e] at q; exact fun σ' F' H' n' => ⟨F0, H0, F', r, n', q⟩
    | rt d => rw [e] at q; exact q
    | bk r => rw [e] at q; exact q
    | ct r => rw [e] at q; exact q
    | er er r => rw [e] at q; cases er <;> exact q⟩
theorem db_one [Tb] (h1 : DS X W C ph ph1 s g1) : DB X W C ph ph1 [s] g1 := pss_one h1
/-- less is known behind -/
theorem saft_post [Tb] {K : PySem.W.Frag} {mg : Str → Option Value} {F0 H0 : Hp} {D : Ends} (w : wk ph1 ph2 = true) : ∀ {r : SR}, SAft K mg W C F0 H0 ph2 D r → SAft K mg W C F0 H0 ph1 D r
  | .nx rho, q => fun σ F H n => by
    obtain ⟨F', _, n'⟩ := n.weak w
    exact q σ F' H n'
  | .rt d, q => q
  | .bk r, q => q
  | .ct r, q => q
  | .er (.exc _) r, q => q
  | .er .bad _, q => q
theorem db_post [Tb] {st : List Stmt} (h : DB X W C ph ph1 st g1) (w : wk ph1 ph2 = true) : DB X W C ph ph2 st g1 := pss_imp h fun D σ H ⟨F0, H0, F, rho, n, q⟩ => ⟨F0, H0, F, rho, n, saft_post w q⟩
theorem ds_post [Tb] (h : DS X W C ph ph1 s g1) (w : wk ph1 ph2 = true) : DS X W C ph ph2 s g1 := ps_imp h fun D σ H ⟨F0, H0, F, rho, n, q⟩ => ⟨F0, H0, F, rho, n, saft_post w q⟩
theorem db_pre [Tb] {st : List Stmt} (h : DB X W C ph1 ph2 st g1) (w : wk ph ph1 = true) : DB X W C ph ph2 st g1 := pss_imp h fun D σ H ⟨F0, H0, F, rho, n, q⟩ => by
  obtain ⟨F', _, n'⟩ := n.weak w
  exact ⟨F0, H0, F', rho, n', q⟩
theorem ds_pre [Tb] (h : DS X W C ph1 ph2 s g1) (w : wk ph ph1 = true) : DS X W C ph ph2 s g1 := ps_imp h fun D σ H ⟨F0, H0, F, rho, n, q⟩ => by
  obtain ⟨F', _, n'⟩ := n.weak w
  exact ⟨F0, H0, F', rho, n', q⟩
theorem ds_pass [Tb] : DS X W C ph ph (.Pass pos) SR.nx := ps_imp ps_pass fun D σ H ⟨F0, H0, F, rho, n, q⟩ => q σ F H n
theorem ds_break [Tb] (w : wk ph C.b = true) : DS X W C ph phn (.Break pos) SR.bk := ps_imp ps_break fun D σ H ⟨F0, H0, F, rho, n, q⟩ => by
  obtain ⟨F', _, n'⟩ := n.weak w
  exact q σ F' H n'
theorem ds_cont [Tb] (w : wk ph C.c = true) : DS X W C ph phn (.Continue pos) SR.ct := ps_imp ps_continue fun D σ H ⟨F0, H0, F, rho, n, q⟩ => by
  obtain ⟨F', _, n'⟩ := n.weak w
  exact q σ F' H n'
def gDrop (ge : Rw → Rs PyData) : Rw → SR := fun rho => thenS (ge rho) rho fun _ => .nx rho
theorem ds_expr [Tb] (he : DE X W ph e ge) (w : wk ph C.e = true := by rfl) (hs : swapsWith e none pos.line X.env = pure false := by rfl) : DS X W C ph ph (.Expr e pos) (gDrop ge) :=
  ps_imp (ps_expr he hs) fun D σ H ⟨F0, H0, F, rho, n, q⟩ => ⟨F, rho, n.en, aft_then n w q fun d F1 H1 s1 q1 v r => q1 σ F1 H1 (n.step s1)⟩
def gRet (ge : Rw → Rs PyData) : Rw → SR := fun rho => thenS (ge rho) rho fun d => .rt d
theorem ds_ret [Tb] (he : DE X W ph e ge) (w : wk ph C.e = true := by rfl) (hr : C.r = none := by rfl) : DS X W C ph phn (.Return (some e) pos) (gRet ge) :=
  ps_imp (ps_ret he) fun D σ H ⟨F0, H0, F, rho, n, q⟩ => ⟨F, rho, n.en, aft_then n w q fun d F1 H1 s1 q1 v r => RtOk.none hr q1 v F1 H1 (n.step s1).st r⟩
def gIfS (t : Rw → Rs Bool) (a b : Rw → SR) : Rw → SR := fun rho => thenS (t rho) rho fun k => if k = true then a rho else b rho
theorem ds_if [Tb] {c : Expr} {a b : List Stmt} {tc : Rw → Rs Bool} (hc : DT X W ph c tc) (ha : DB X W C ph phn a g1) (hb : DB X W C ph phn b g2) (w : wk ph C.e = true := by rfl) : DS X W C ph phn (.If c a b pos) (gIfS tc g1 g2) :=
  ps_imp (ps_if hc ha hb) fun D σ H ⟨F0, H0, F, rho, n, q⟩ => ⟨F, rho, n.en, aft_then n w q fun k F1 H1 s1 q1 => by
    cases k with
    | true => rw [if_pos rfl] at q1 ⊢; exact ⟨F0, H0, F1, rho, n.step s1, q1⟩
    | false => rw [if_neg Bool.false_ne_true] at q1 ⊢; exact ⟨F0, H0, F1, rho, n.step s1, q1⟩⟩
/-! ### stores to names -/
theorem EnS.setIm [Tb] {K : PySem.W.Frag} {F0 H0 F H : Hp} {σ : L2.St} {rho : Rw} {v : V} {d : PyData} (n : EnS K F0 H0 ph F H σ rho) (i : Nat) (r : Rp K F v d) : EnS K F0 H0 (ph.set i .im) F H (σ.set i (some v)) (rho.set i d) := by
  have ne : ∀ {j : Nat} {f : Fl}, f ≠ .im → (ph.set i Fl.im)[j]? = some f → i ≠ j := fun {j f} hf h1 z => by
    subst z
    have hi : i < ph.length := by
      have := (List.getElem?_eq_some_iff.mp h1).1
      simpa using this
    rw [List.getElem?_set_self hi] at h1; cases h1; exact hf rfl
  have lk : ∀ {j : Nat}, i ≠ j → look (rho.set i d) j = look rho j := fun {j} h => by unfold look; rw [List.getD_eq_getElem?_getD, List.getD_eq_getElem?_getD, List.getElem?_set_ne h]
  refine ⟨n.en.setIm i r, n.st, fun j p h1 h2 => ?_, n.cw.map n.on (Same.refl _) (fun _ _ h => h) (fun _ _ h => h) (fun j k h => ?_) (fun j k h => ?_) (fun j p h1 h2 => ?_) fun a o h1 h2 _ _ => ⟨h1, h2⟩⟩
  · have ne := ne (by simp) h1
    rw [List.getElem?_set_ne ne] at h1 h2
    exact n.on j p h1 h2
  · have ne := ne (by simp) h
    rw [List.getElem?_set_ne ne] at h
    exact ⟨h, lk ne⟩
  · have ne := ne (by simp) h
    rw [List.getElem?_set_ne ne] at h
    exact ⟨h, lk ne⟩
  · have ne := ne (by simp) h1
    rw [List.getElem?_set_ne ne] at h1 h2
    exact .inl ⟨h1, h2⟩
def gSet (i : Nat) (ge : Rw → Rs PyData) : Rw → SR := fun rho => thenS (ge rho) rho fun d => .nx (rho.set i d)
theorem ds_set [Tb] (i : Nat) {x : Str} {pos' : Pos} (he : DE X W ph e ge) (hN : X.N.Nodup) (hx : Loc X.env.scope x := by first | exact Or.inl rfl | exact Or.inr rfl) (w : wk ph C.e = true := by rfl) (hi : X.N[i]? = some x := by rfl) (hs : swapsWith e (some (.Name x pos')) pos.line X.env = pure false := by rfl)
    (hf : X.fn x = true ∨ X.env.scope.names.lookup x = some .local := by first | exact .inl rfl | exact .inr rfl) : DS X W C ph (ph.set i .im) (.Assign [.Name x pos'] e pos) (gSet i ge) :=
  ps_imp (ps_set hN hi hx he hs hf) fun D σ H ⟨F0, H0, F, rho, n, q⟩ => ⟨F, rho, n.en, aft_then n w q fun d F1 H1 s1 q1 v r => q1 _ F1 H1 ((n.step s1).setIm i r)⟩
theorem EnS.setOw [Tb] {K : PySem.W.Frag} {F0 H0 F H F1 H1 : Hp} {σ : L2.St} {rho : Rw} {p : Addr} {o : HO} {d : PyData} (n : EnS K F0 H0 ph F H σ rho) (i : Nat) (s : Step F H F1 H1) (h0 : H p = none) (h1 : F1 p = none) (h2 : H1 p = some o) (r : RepO K F1 o d) :
    EnS K F0 H0 (ph.set i .ow) F1 H1 (σ.set i (some (.ref p))) (rho.set i d) := by
  have hlt : ∀ {j : Nat} {f : Fl}, (ph.set i Fl.ow)[j]? = some f → j < ph.length := fun {j f} h1 => by
    have := (List.getElem?_eq_some_iff.mp h1).1
    simpa using this
  have lk : ∀ {j : Nat}, i ≠ j → look (rho.set i d) j = look rho j := fun {j} h => by unfold look; rw [List.getD_eq_getElem?_getD, List.getD_eq_getElem?_getD, List.getElem?_set_ne h]
  have ne : ∀ {j : Nat} {f : Fl}, f ≠ .ow → (ph.set i Fl.ow)[j]? = some f → i ≠ j := fun {j f} hf h1 z => by
    subst z
    rw [List.getElem?_set_self (hlt h1)] at h1; cases h1; exact hf rfl
  refine ⟨(n.en.step s).setOw i h1 h2 r fun j hj ho e => ?_, n.st.trans s, fun j q e1 e2 => ?_, n.cw.map n.on s.f (fun _ _ h => h) (fun _ _ h => h) (fun j k h => ?_) (fun j k h => ?_) (fun j q e1 e2 => ?_) fun a o e1 e2 e3 _ => ⟨s.h.k e1 e3.1, s.nw a e2 (by rw [e1]; simp)⟩⟩
  rotate_left 2
  · have ne := ne (by simp) h
    rw [List.getElem?_set_ne ne] at h
    exact ⟨h, lk ne⟩
  · have ne := ne (by simp) h
    rw [List.getElem?_set_ne ne] at h
    exact ⟨h, lk ne⟩
  · by_cases hj : i = j
    · subst hj
      rw [List.getElem?_set_self (Nat.lt_of_lt_of_le (hlt e1) n.en.ls)] at e2
      cases e2
      exact .inr h0
    · rw [List.getElem?_set_ne hj] at e1 e2
      exact .inl ⟨e1, e2⟩
  · obtain ⟨q, o', q1, q2, q3, q4⟩ := n.en.ow ho
    rw [q1] at e; cases e
    rw [h0] at q3; cases q3
  · by_cases hj : i = j
    · subst hj
      have hi : i < ph.length := by
        have := (List.getElem?_eq_some_iff.mp e1).1
        simpa using this
      rw [List.getElem?_set_self (Nat.lt_of_lt_of_le hi n.en.ls)] at e2
      cases e2
      exact n.st.h.free h0
    · rw [List.getElem?_set_ne hj] at e1 e2
      exact n.on j q e1 e2
theorem ds_setO [Tb] (i : Nat) {x : Str} {pos' : Pos} (he : DO X W ph e ge) (hN : X.N.Nodup) (hx : Loc X.env.scope x := by first | exact Or.inl rfl | exact Or.inr rfl) (w : wk ph C.e = true := by rfl) (hi : X.N[i]? = some x := by rfl) (hs : swapsWith e (some (.Name x pos')) pos.line X.env = pure false := by rfl)
    (hf : X.fn x = true ∨ X.env.scope.names.lookup x = some .local := by first | exact .inl rfl | exact .inr rfl) : DS X W C ph (ph.set i .ow) (.Assign [.Name x pos'] e pos) (gSet i ge) :=
  ps_imp (ps_set hN hi hx he hs hf) fun D σ H ⟨F0, H0, F, rho, n, q⟩ => ⟨F, rho, n.en, aft_then n w q fun d F1 H1 s1 q1 p o h0 h1 h2 r => q1 _ F1 H1 (n.setOw i s1 h0 h1 h2 r)⟩
/-! ### targets -/
def setIms (ts : List Nat) (ph : List Fl) : List Fl := ts.foldl (fun ph i => ph.set i .im) ph
/-- only the slots ts may have changed -/
def Oth (ts : List Nat) (σ σ2 : L2.St) (rho rho2 : Rw) : Prop := σ2.length = σ.length ∧ ∀ i, i ∉ ts → σ2[i]? = σ[i]? ∧ look rho2 i = look rho i
def rG [Tb] (K : PySem.W.Frag) (ph : List Fl) (ts : List Nat) (gt : PyData → Rw → Option Rw) : TG := fun v σ H Q => ∃ F rho d rho2, En K ph F H σ rho ∧ Rp K F v d ∧ gt d rho = some rho2 ∧ ∀ σ2, En K (setIms ts ph) F H σ2 rho2 → Oth ts σ σ2 rho rho2 → Q σ2 H
def rGs [Tb] (K : PySem.W.Frag) (ph : List Fl) (ts : List Nat) (gt : List PyData → Rw → Option Rw) : TGs := fun vs σ H Q => ∃ F rho ds rho2, En K ph F H σ rho ∧ RpL K F vs ds ∧ gt ds rho = some rho2 ∧ ∀ σ2, En K (setIms ts ph) F H σ2 rho2 → Oth ts σ σ2 rho rho2 → Q σ2 H
theorem pg_imp {tg : Expr} {t t' : TG} (h : PG X tg t) (hi : ∀ v σ H Q, t' v σ H Q → t v σ H Q) : PG X tg t' := ⟨fun pins s σ H v u Q I r q => h.run pins s σ H v u Q I r (hi v σ H Q q)⟩
theorem pgs_imp {tg : List Expr} {t t' : TGs} (h : PGs X tg t) (hi : ∀ v σ H Q, t' v σ H Q → t v σ H Q) : PGs X tg t' := ⟨fun pins s σ H v u Q I r q => h.run pins s σ H v u Q I r (hi v σ H Q q)⟩
def tName (i : Nat) : PyData → Rw → Option Rw := fun d rho => some (rho.set i d)
theorem dg_name [Tb] (i : Nat) {x : Str} (hN : X.N.Nodup) (hx : Loc X.env.scope x := by first | exact Or.inl rfl | exact Or.inr rfl) (hi : X.N[i]? = some x := by rfl) (hf : X.fn x = true ∨ X.env.scope.names.lookup x = some .local := by first | exact .inl rfl | exact .inr rfl) :
    PG X (.Name x pos) (rG X.K ph [i] (tName i)) :=
  pg_imp (pg_name hN hi hx hf) fun v σ H Q ⟨F, rho, d, rho2, n, r, e, q⟩ => by
    cases e
    exact q _ (n.setIm i r) ⟨by simp, fun j hj => ⟨List.getElem?_set_ne fun z => hj (by simp [z]), by unfold look; rw [List.getD_eq_getElem?_getD, List.getD_eq_getElem?_getD, List.getElem?_set_ne fun z => hj (by simp [z])]⟩⟩
def tNil : List PyData → Rw → Option Rw := fun ds rho => match ds with
  | [] => some rho
  | _ :: _ => none
def tCons (t : PyData → Rw → Option Rw) (u : List PyData → Rw → Option Rw) : List PyData → Rw → Option Rw := fun ds rho => match ds with
  | [] => none
  | d :: r => (t d rho).bind (u r)
theorem dgs_nil [Tb] : PGs X [] (rGs X.K ph [] tNil) := pgs_imp pgs_nil fun vs σ H Q ⟨F, rho, ds, rho2, n, r, e, q⟩ => by
  cases r with
  | nil => cases e; exact ⟨rfl, q _ n ⟨rfl, fun _ _ => ⟨rfl, rfl⟩⟩⟩
  | cons _ _ => cases e
theorem dgs_cons [Tb] {es : List Expr} {ts us : List Nat} {t : PyData → Rw → Option Rw} {u : List PyData → Rw → Option Rw} (h1 : PG X e (rG X.K ph ts t)) (h2 : PGs X es (rGs X.K (setIms ts ph) us u))
    (hs : (assignEach (e :: es) X.env).map (·.2) = assign e X.env :: (assignEach es X.env).map (·.2) := by rfl) : PGs X (e :: es) (rGs X.K ph (ts ++ us) (tCons t u)) :=
  pgs_imp (pgs_cons h1 h2 hs) fun vs σ H Q ⟨F, rho, ds, rho2, n, r, e, q⟩ => by
    cases r with
    | nil => cases e
    | cons r rs =>
      rename_i v vs d ds _
      cases e1 : t d rho with
      | none => simp [tCons, e1] at e
      | some rho1 =>
        have e : (t d rho).bind (u ds) = some rho2 := e
        rw [e1] at e
        have e : u ds rho1 = some rho2 := e
        refine ⟨v, vs, rfl, F, rho, d, rho1, n, r, e1, fun σ1 n1 o1 => ⟨F, rho1, ds, rho2, n1, rs, e, fun σ2 n2 o2 => q σ2 ?_ ?_⟩⟩
        · unfold setIms at n2 ⊢; rw [List.foldl_append]; exact n2
        · exact ⟨o2.1.trans o1.1, fun i hi => ⟨(o2.2 i fun z => hi (List.mem_append_right _ z)).1.trans (o1.2 i fun z => hi (List.mem_append_left _ z)).1, (o2.2 i fun z => hi (List.mem_append_right _ z)).2.trans (o1.2 i fun z => hi (List.mem_append_left _ z)).2⟩⟩
def tTup (k : Nat) (u : List PyData → Rw → Option Rw) : PyData → Rw → Option Rw := fun d rho => match d with
  | .tuple ds => if ds.length = k then u ds rho else none
  | _ => none
theorem dg_tup [Tb] {es : List Expr} {k n : Nat} {ts : List Nat} {u : List PyData → Rw → Option Rw} (hc : X.calm = true) (h : PGs X es (rGs X.K ph ts u)) (hn : (assignEach es X.env).length = n := by rfl) (hst : (assignEach es X.env).findIdx? (·.1) = none := by rfl) :
    PG X (.Tuple es k pos) (rG X.K ph ts (tTup n u)) :=
  pg_imp (pg_tup hc h hn hst) fun v σ H Q ⟨F, rho, d, rho2, nn, r, e, q⟩ => by
    cases r with
    | tup h1 _ h2 =>
      rename_i a xs ds _ _
      have e : (if ds.length = n then u ds rho else none) = some rho2 := e
      by_cases hl : ds.length = n
      · rw [if_pos hl] at e
        exact ⟨a, xs, rfl, .of (nn.fh _ _ h1), by rw [h2.length]; exact hl, F, rho, ds, rho2, nn, h2, e, q⟩
      · rw [if_neg hl] at e; cases e
    | _ => cases e
theorem setIms_get {ts : List Nat} {f : Fl} (hf : f ≠ .im) : ∀ {ph : List Fl} {i : Nat}, (setIms ts ph)[i]? = some f → i ∉ ts ∧ ph[i]? = some f := by
  induction ts with
  | nil => intro ph i h; exact ⟨by simp, h⟩
  | cons t ts ih =>
    intro ph i h
    have h : (setIms ts (ph.set t .im))[i]? = some f := h
    obtain ⟨h1, h2⟩ := ih h
    by_cases hi : t = i
    · subst hi
      have hl : t < ph.length := by
        have := (List.getElem?_eq_some_iff.mp h2).1
        simpa using this
      rw [List.getElem?_set_self hl] at h2; cases h2; exact absurd rfl hf
    · rw [List.getElem?_set_ne hi] at h2
      exact ⟨by simp only [List.mem_cons, not_or]; exact ⟨Ne.symm hi, h1⟩, h2⟩
theorem EnS.tgt [Tb] {K : PySem.W.Frag} {F0 H0 F H : Hp} {σ σ2 : L2.St} {rho rho2 : Rw} {ts : List Nat} (n : EnS K F0 H0 ph F H σ rho) (n2 : En K (setIms ts ph) F H σ2 rho2) (o : Oth ts σ σ2 rho rho2) : EnS K F0 H0 (setIms ts ph) F H σ2 rho2 :=
  ⟨n2, n.st, fun i p h1 h2 => by
    obtain ⟨a, b⟩ := setIms_get (by simp) h1
    rw [(o.2 i a).1] at h2
    exact n.on i p b h2, n.cw.map n.on (Same.refl _) (fun _ _ h => h) (fun _ _ h => h) (fun i k h => by
      obtain ⟨a, b⟩ := setIms_get (by simp) h
      exact ⟨b, (o.2 i a).2⟩) (fun i k h => by
      obtain ⟨a, b⟩ := setIms_get (by simp) h
      exact ⟨b, (o.2 i a).2⟩) (fun i p h1 h2 => by
      obtain ⟨a, b⟩ := setIms_get (by simp) h1
      rw [(o.2 i a).1] at h2
      exact .inl ⟨b, h2⟩) fun a o h1 h2 _ _ => ⟨h1, h2⟩⟩
def gAsg (gt : PyData → Rw → Option Rw) (ge : Rw → Rs PyData) : Rw → SR := fun rho => thenS (ge rho) rho fun d => match gt d rho with
  | some r => .nx r
  | none => .er .bad rho
theorem ds_asg [Tb] {tg : Expr} {ts : List Nat} {gt : PyData → Rw → Option Rw} (he : DE X W ph e ge) (hg : PG X tg (rG X.K ph ts gt)) (w : wk ph C.e = true := by rfl) (hs : swapsWithSole [tg] e pos.line X.env = pure false := by rfl) (hw : swappedStores [tg] e X.env = pure none := by rfl)
    (h1 : (assignEach [tg] X.env).map (·.2) = [assign tg X.env] := by rfl) : DS X W C ph (setIms ts ph) (.Assign [tg] e pos) (gAsg gt ge) :=
  ps_imp (ps_asg he hg hs hw h1) fun D σ H ⟨F0, H0, F, rho, n, q⟩ => ⟨F, rho, n.en, aft_then n w q fun d F1 H1 s1 q1 v r => by
    cases e : gt d rho with
    | none => rw [e] at q1; exact False.elim q1
    | some rho2 =>
      rw [e] at q1
      exact ⟨F1, rho, d, rho2, (n.step s1).en, r, e, fun σ2 n2 o => q1 σ2 F1 H1 ((n.step s1).tgt n2 o)⟩⟩
end
end PD
/-! PD3: loops, comprehensions, defs. -/
namespace PD
open PySem L2
/-- J yields the data ds, at the heaps F1, H1 -/
def Its [Tb] (K : PySem.W.Frag) (J : It) (F1 H1 : Hp) (ds : List PyData) : Prop :=
  ds.length ≤ sizeLine ∧ (∀ (i : Nat) (d : PyData), ds[i]? = some d → J.go i H1 ∧ ∀ x H2, J.yld i H1 x H2 → ∃ F2, Step F1 H1 F2 H2 ∧ Rp K F2 x d) ∧ J.stop ds.length H1
/-- whatever happens beyond F -/
def ItF [Tb] (K : PySem.W.Frag) (J : It) (F : Hp) (ds : List PyData) : Prop := ∀ F1 H1, Same F F1 → Same F1 H1 → Its K J F1 H1 ds
/-- while all of H stands -/
def ItH [Tb] (K : PySem.W.Frag) (J : It) (F H : Hp) (ds : List PyData) : Prop := ∀ F1 H1, Same F F1 → Same F1 H1 → Gro H H1 → Its K J F1 H1 ds
def rI [Tb] (K : PySem.W.Frag) (mg : Str → Option Value) (W : WX) (ph : List Fl) (gi : Rw → Rs (List PyData)) : TI := fun σ H R =>
  ∃ F rho, En K ph F H σ rho ∧ Aft mg W σ F H (gi rho) fun ds F' H' => ∀ J, ItF K J F' ds → R J H'
def rIh [Tb] (K : PySem.W.Frag) (mg : Str → Option Value) (W : WX) (ph : List Fl) (gi : Rw → Rs (List PyData)) : TI := fun σ H R =>
  ∃ F rho, En K ph F H σ rho ∧ Aft mg W σ F H (gi rho) fun ds F' H' => ∀ J, ItH K J F' H' ds → R J H'
theorem pi_imp {X : Cx} {tg e : Expr} {t t' : TI} (h : PI X tg e t) (hi : ∀ σ H R, t' σ H R → t σ H R) : PI X tg e t' := ⟨fun pins s σ H R I q => h.run pins s σ H R I (hi σ H R q)⟩
abbrev DI [Tb] (X : Cx) (W : WX) (ph : List Fl) (tg e : Expr) (gi : Rw → Rs (List PyData)) : Prop := PI X tg e (rI X.K X.mg W ph gi)
abbrev DIh [Tb] (X : Cx) (W : WX) (ph : List Fl) (tg e : Expr) (gi : Rw → Rs (List PyData)) : Prop := PI X tg e (rIh X.K X.mg W ph gi)
theorem dih_of [Tb] {X : Cx} {W : WX} {ph : List Fl} {tg e : Expr} {gi : Rw → Rs (List PyData)} (h : DI X W ph tg e gi) : DIh X W ph tg e gi := pi_imp h fun σ H R ⟨F, rho, n, q⟩ =>
  ⟨F, rho, n, q.imp fun ds F1 H1 s z J hJ => z J fun F2 H2 a b _ => hJ F2 H2 a b⟩
/-- what is not known is forgotten -/
def mask : List Fl → Rw → Rw
  | [], rho => rho
  | _ :: _, [] => []
  | f :: fs, d :: ds => (match f with | .dead => .none | _ => d) :: mask fs ds
theorem mask_get : ∀ {ph : List Fl} {rho : Rw} {i : Nat} {f : Fl} {d : PyData}, ph[i]? = some f → rho[i]? = some d → ∃ d', (mask ph rho)[i]? = some d' ∧ (f ≠ .dead → d' = d)
  | [], _, _, _, _, h, _ => by simp at h
  | _ :: _, [], _, _, _, _, h => by simp at h
  | f :: fs, d :: ds, 0, g, x, h1, h2 => by
    simp only [List.getElem?_cons_zero, Option.some.injEq] at h1 h2
    subst h1 h2
    refine ⟨_, rfl, fun h => ?_⟩
    cases f <;> first | rfl | exact absurd rfl h
  | f :: fs, d :: ds, i + 1, g, x, h1, h2 => by
    simp only [List.getElem?_cons_succ] at h1 h2
    exact mask_get (ph := fs) (rho := ds) h1 h2
theorem mask_len : ∀ (ph : List Fl) (rho : Rw), (mask ph rho).length = rho.length
  | [], _ => rfl
  | _ :: _, [] => rfl
  | _ :: fs, _ :: ds => congrArg Nat.succ (mask_len fs ds)
theorem En.mask [Tb] {K : PySem.W.Frag} {ph : List Fl} {F H : Hp} {σ : L2.St} {rho : Rw} (n : En K ph F H σ rho) : En K ph F H σ (PD.mask ph rho) :=
  ⟨n.fh, n.ls, by rw [mask_len]; exact n.lr, fun i f h => by
    obtain ⟨sv, d, h1, h2, h3⟩ := n.sl i f h
    obtain ⟨d', e1, e2⟩ := mask_get h h2
    refine ⟨sv, d', h1, e1, ?_⟩
    cases f with
    | dead => trivial
    | im => rw [e2 (by decide)]; exact h3
    | cr _ => rw [e2 (by simp)]; exact h3
    | cw _ => rw [e2 (by simp)]; exact h3
    | ow => rw [e2 (by decide)]; exact h3, n.ap, n.tb⟩
theorem look_mask {ph : List Fl} {rho : Rw} {i : Nat} {f : Fl} (h : ph[i]? = some f) (hf : f ≠ .dead) : look (mask ph rho) i = look rho i := by
  cases e : rho[i]? with
  | none =>
    have hl : rho.length ≤ i := List.getElem?_eq_none_iff.mp e
    unfold look
    rw [List.getD_eq_getElem?_getD, List.getD_eq_getElem?_getD, e, List.getElem?_eq_none (by rw [mask_len]; exact hl)]
  | some d =>
    obtain ⟨d', e1, e2⟩ := mask_get h e
    rw [look_of e1, look_of e, e2 hf]
theorem EnS.mask [Tb] {K : PySem.W.Frag} {ph : List Fl} {F0 H0 F H : Hp} {σ : L2.St} {rho : Rw} (n : EnS K F0 H0 ph F H σ rho) : EnS K F0 H0 ph F H σ (PD.mask ph rho) := ⟨n.en.mask, n.st, n.on, n.cw.map n.on (Same.refl _) (fun _ _ h => h) (fun _ _ h => h) (fun i k h => ⟨h, look_mask h (by simp)⟩) (fun i k h => ⟨h, look_mask h (by simp)⟩) (fun _ _ h1 h2 => .inl ⟨h1, h2⟩) fun a o h1 h2 _ _ => ⟨h1, h2⟩⟩
/-- the entry moved to here: what is frozen now, and what stood at the entry -/
theorem EnS.rebase [Tb] {K : PySem.W.Frag} {ph : List Fl} {F0 H0 F H : Hp} {σ : L2.St} {rho : Rw} (n : EnS K F0 H0 ph F H σ rho) : ∃ Hb, EnS K F Hb ph F H σ rho ∧ (∀ F2 H2, Step F Hb F2 H2 → Step F0 H0 F2 H2) ∧
    (∀ ph' F2 H2 σ2 rho2, EnS K F Hb ph' F2 H2 σ2 rho2 → EnS K F0 H0 ph' F2 H2 σ2 rho2) ∧ ∀ a, Hb a = none → H0 a = none := by
  let Hb : Hp := fun b => match F b with
    | some o => some o
    | none => H0 b
  have hF : ∀ b o, F b = some o → Hb b = some o := fun b o e => by show (match F b with | some o => some o | none => H0 b) = some o; rw [e]
  have hN : ∀ b, F b = none → Hb b = H0 b := fun b e => by show (match F b with | some o => some o | none => H0 b) = H0 b; rw [e]
  have hH : Gro Hb H := fun b o e => by
    cases q : F b with
    | some u => rw [hF b u q] at e; cases e; exact ⟨_, n.en.fh _ _ q, fun _ => rfl⟩
    | none => rw [hN b q] at e; exact n.st.h _ _ e
  have h0 : Gro H0 Hb := fun b o e => by
    cases q : F b with
    | some u =>
      obtain ⟨o', e1, e2⟩ := n.st.h _ _ e
      rw [n.en.fh _ _ q] at e1
      cases e1
      exact ⟨_, hF b _ q, e2⟩
    | none => exact ⟨_, by rw [hN b q]; exact e, fun _ => rfl⟩
  have stp : ∀ F2 H2, Step F Hb F2 H2 → Step F0 H0 F2 H2 := fun F2 H2 s => ⟨n.st.f.trans s.f, s.fh, h0.trans s.h, fun p h1 h2 => s.nw p (n.st.nw p h1 h2) (h0.has h2), fun t => s.t ⟨fun q hq => by
    obtain ⟨t1, _⟩ := n.en.tb.1 q hq
    obtain ⟨_, ps, p1, p2, p3⟩ := t.1 q hq
    refine ⟨t1, ps, by rw [hN _ t1]; exact p1, p2, fun pos cv hc => ?_⟩
    obtain ⟨c, c1, c2⟩ := p3 pos cv hc
    exact ⟨c, c1, h0.k c2 fun _ => LamX.codeO_ne _⟩, fun q xs e => n.en.tb.2 q xs (hH.k e fun _ z => by cases z)⟩⟩
  refine ⟨Hb, ⟨n.en, ⟨Same.refl _, n.en.fh, hH, fun _ h _ => h, fun _ => n.en.tb⟩, fun i p h1 h2 => ?_, n.cw.map n.on (Same.refl _) (fun a h1 h2 => by rw [hN a h1]; exact h2) (fun a h1 h2 => by rw [hN a h1]; exact h2) (fun _ _ h => ⟨h, rfl⟩) (fun _ _ h => ⟨h, rfl⟩) (fun _ _ h1 h2 => .inl ⟨h1, h2⟩) fun a o h1 h2 _ _ => ⟨h1, h2⟩⟩, stp, fun ph' F2 H2 σ2 rho2 m => ⟨m.en, stp _ _ m.st, fun i p h1 h2 => ?_, m.cw.map m.on (Same.refl _) (fun a _ h => h0.free h) (fun a h1 h2 z => h2 (by
      cases e : F a with
      | some o => rw [m.st.f _ _ e] at h1; cases h1
      | none => rw [hN a e]; exact z)) (fun _ _ h => ⟨h, rfl⟩) (fun _ _ h => ⟨h, rfl⟩) (fun _ _ h1 h2 => .inl ⟨h1, h2⟩) fun a o h1 h2 _ _ => ⟨h1, h2⟩⟩, fun a h => h0.free h⟩
  · obtain ⟨q, o, q1, q2, q3, q4⟩ := n.en.ow h1
    rw [q1] at h2; cases h2
    rw [hN _ q2]; exact n.on i _ h1 q1
  · exact h0.free (m.on i p h1 h2)
/-- the turns of a loop -/
def forD (ph : List Fl) (step : PyData → Rw → SR) : List PyData → Rw → SR
  | [], rho => .nx rho
  | d :: ds, rho => match step d rho with
    | .nx r => forD ph step ds (mask ph r)
    | .ct r => forD ph step ds (mask ph r)
    | .bk r => .nx (mask ph r)
    | .rt x => .rt x
    | .er e r => .er e r
def turnD (gt : PyData → Rw → Option Rw) (gb : Rw → SR) : PyData → Rw → SR := fun d rho => match gt d rho with
  | some r => gb r
  | none => .er .bad rho
def gFor (ph : List Fl) (gi : Rw → Rs (List PyData)) (gt : PyData → Rw → Option Rw) (gb : Rw → SR) : Rw → SR := fun rho => thenS (gi rho) rho fun ds => forD ph (turnD gt gb) ds (mask ph rho)
section
variable {X : Cx} {W : WX} {C : Ctl} {ph ph1 phn : List Fl} {tg iter : Expr} {body : List Stmt} {pos : Pos} {gi : Rw → Rs (List PyData)} {gt : PyData → Rw → Option Rw} {gb : Rw → SR} {ts : List Nat}
/-- phn: what is known between two turns -/
theorem ds_for [Tb] (hp : PassesOwn (model X.prog X.w) X.A X.env X.xe) (hc : X.calm = true) (hi : DI X W ph tg iter gi) (hg : PG X tg (rG X.K phn ts gt)) (hb : DB X W ⟨phn, phn, C.e, C.r⟩ (setIms ts phn) phn body gb)
    (w : wk ph C.e = true := by rfl) (w1 : wk ph phn = true := by rfl) (hs : ∀ x, foldedSetIterable iter X.env x = pure x := by intro _; rfl) : DS X W C ph phn (.For tg iter body [] pos) (gFor phn gi gt gb) :=
  ps_imp (ps_for hp hc hi hg hb hs) fun D σ H ⟨F0, H0, F, rho, n, q⟩ => ⟨F, rho, n.en, aft_then n w q fun ds F1 H1 s1 q1 J hJ => by
    obtain ⟨F2, sF, n2⟩ := (n.step s1).weak w1
    refine ⟨fun i m σ' H' => ∃ F' rho', m = ds.length - i ∧ i ≤ ds.length ∧ EnS X.K F0 H0 phn F' H' σ' rho' ∧ Same F1 F' ∧ SAft X.K X.mg W C F0 H0 phn D (forD phn (turnD gt gb) (ds.drop i) rho'),
      ⟨ds.length, F2, _, by simp, Nat.zero_le _, n2.mask, sF, q1⟩, ?_⟩
    rintro i m σ' H' ⟨F', rho', rfl, hi, n', sF', q'⟩
    have its := hJ F' H' sF' n'.en.fh
    by_cases hlt : i < ds.length
    · obtain ⟨go, yl⟩ := its.2.1 i ds[i] (by simp [hlt])
      have hd : ds.drop i = ds[i] :: ds.drop (i + 1) := List.drop_eq_getElem_cons hlt
      rw [hd] at q'
      refine .inr ⟨go, fun σ3 H3 => ∃ F3 rho3, EnS X.K F0 H0 phn F3 H3 σ3 rho3 ∧ Same F1 F3 ∧ SAft X.K X.mg W C F0 H0 phn D (forD phn (turnD gt gb) (ds.drop (i + 1)) rho3),
        fun σ3 H3 ⟨F3, rho3, a, b, c⟩ => ⟨ds.length - (i + 1), by omega, F3, rho3, rfl, hlt, a, b, c⟩, fun x H2 hy => ?_⟩
      obtain ⟨F3, s3, r3⟩ := yl x H2 hy
      cases e : gt ds[i] rho' with
      | none =>
        have : forD phn (turnD gt gb) (ds[i] :: ds.drop (i + 1)) rho' = .er .bad rho' := by simp only [forD, turnD, e]
        rw [this] at q'; exact False.elim q'
      | some r =>
        refine ⟨F3, rho', ds[i], r, (n'.step s3).en, r3, e, fun σ2 n2 o2 => ?_⟩
        obtain ⟨Hb, nb, sb, eb, zb⟩ := ((n'.step s3).tgt n2 o2).rebase
        refine ⟨F3, Hb, F3, r, nb, ?_⟩
        have q2 : SAft X.K X.mg W C F0 H0 phn D (match gb r with | .nx r => forD phn (turnD gt gb) (ds.drop (i + 1)) (mask phn r) | .ct r => forD phn (turnD gt gb) (ds.drop (i + 1)) (mask phn r) | .bk r => .nx (mask phn r) | .rt x => .rt x | .er e r => .er e r) := by
          have : forD phn (turnD gt gb) (ds[i] :: ds.drop (i + 1)) rho' = (match gb r with | .nx r => forD phn (turnD gt gb) (ds.drop (i + 1)) (mask phn r) | .ct r => forD phn (turnD gt gb) (ds.drop (i + 1)) (mask phn r) | .bk r => .nx (mask phn r) | .rt x => .rt x | .er e r => .er e r) := by
            simp only [forD, turnD, e]
          rw [← this]; exact q'
        cases eg : gb r with
        | nx r2 => rw [eg] at q2; exact fun σ4 F4 H4 n4 => ⟨F4, _, (eb _ _ _ _ _ n4).mask, (sF'.trans s3.f).trans n4.st.f, q2⟩
        | ct r2 => rw [eg] at q2; exact fun σ4 F4 H4 n4 => ⟨F4, _, (eb _ _ _ _ _ n4).mask, (sF'.trans s3.f).trans n4.st.f, q2⟩
        | bk r2 => rw [eg] at q2; exact fun σ4 F4 H4 n4 => q2 σ4 F4 H4 (eb _ _ _ _ _ n4).mask
        | rt x => rw [eg] at q2; exact RtOk.to q2 sb zb fun _ _ h => h
        | er er r2 =>
          rw [eg] at q2
          cases er with
          | bad => exact q2
          | exc nm => exact fun σ4 F4 H4 n4 => q2 σ4 F4 H4 (eb _ _ _ _ _ n4)
    · have e : i = ds.length := by omega
      subst e
      rw [List.drop_length] at q'
      exact .inl ⟨its.2.2, q' σ' F' H' n'⟩⟩
/-! ### while -/
def whileD (ph : List Fl) (gt : Rw → Rs Bool) (gb : Rw → SR) : Nat → Rw → SR
  | 0, rho => .er .bad rho
  | k + 1, rho => thenS (gt rho) rho fun b => if b = true then (match gb rho with
      | .nx r => whileD ph gt gb k (mask ph r)
      | .ct r => whileD ph gt gb k (mask ph r)
      | .bk r => .nx (mask ph r)
      | .rt x => .rt x
      | .er e r => .er e r) else .nx rho
def gWhile (ph : List Fl) (k : Nat) (gt : Rw → Rs Bool) (gb : Rw → SR) : Rw → SR := fun rho => whileD ph gt gb k (mask ph rho)
theorem ds_while [Tb] (k : Nat) {c : Expr} {gc : Rw → Rs Bool} (hp : PassesOwn (model X.prog X.w) X.A X.env X.xe) (hc : DT X W phn c gc) (hb : DB X W ⟨phn, phn, C.e, C.r⟩ phn phn body gb) (w : wk phn C.e = true := by rfl) (w1 : wk ph phn = true := by rfl) :
    DS X W C ph phn (.While c body [] pos) (gWhile phn k gc gb) :=
  ps_imp (ps_while hp hc hb) fun D σ H ⟨F0, H0, F, rho, n, q⟩ => by
    obtain ⟨F2, sF, n2⟩ := n.weak w1
    refine ⟨fun m σ' H' => ∃ F' rho', EnS X.K F0 H0 phn F' H' σ' rho' ∧ SAft X.K X.mg W C F0 H0 phn D (whileD phn gc gb m rho'), ⟨k, F2, _, n2.mask, q⟩, ?_⟩
    rintro m σ' H' ⟨F', rho', n', q'⟩
    cases m with
    | zero => exact False.elim q'
    | succ m =>
      refine ⟨F', rho', n'.en, aft_then n' w q' fun b F1 H1 s1 q1 => ?_⟩
      cases b with
      | false => rw [if_neg Bool.false_ne_true] at q1 ⊢; exact q1 σ' F1 H1 (n'.step s1)
      | true =>
        rw [if_pos rfl] at q1 ⊢
        refine ⟨fun σ3 H3 => ∃ F3 rho3, EnS X.K F0 H0 phn F3 H3 σ3 rho3 ∧ SAft X.K X.mg W C F0 H0 phn D (whileD phn gc gb m rho3), fun σ3 H3 h => ⟨m, Nat.lt_succ_self m, h⟩, ?_⟩
        refine ⟨F0, H0, F1, rho', n'.step s1, ?_⟩
        cases eg : gb rho' with
        | nx r2 => rw [eg] at q1; exact fun σ4 F4 H4 n4 => ⟨F4, _, n4.mask, q1⟩
        | ct r2 => rw [eg] at q1; exact fun σ4 F4 H4 n4 => ⟨F4, _, n4.mask, q1⟩
        | bk r2 => rw [eg] at q1; exact fun σ4 F4 H4 n4 => q1 σ4 F4 H4 n4.mask
        | rt x => rw [eg] at q1; exact q1
        | er er r2 =>
          rw [eg] at q1
          cases er with
          | bad => exact q1
          | exc nm => exact q1
/-! ### list comprehensions -/
def kill (vs : List Nat) (ph : List Fl) : List Fl := vs.foldr (fun i ph => ph.set i .dead) ph
theorem kill_len (vs : List Nat) (ph : List Fl) : (kill vs ph).length = ph.length := by
  induction vs with
  | nil => rfl
  | cons v vs ih => show ((kill vs ph).set v .dead).length = _; rw [List.length_set, ih]
theorem kill_get : ∀ {vs : List Nat} {ph : List Fl} {i : Nat} {f : Fl}, (kill vs ph)[i]? = some f → (f = .dead ∧ i < ph.length) ∨ (i ∉ vs ∧ ph[i]? = some f)
  | [], ph, i, f, h => .inr ⟨by simp, h⟩
  | v :: vs, ph, i, f, h => by
    have h : ((kill vs ph).set v .dead)[i]? = some f := h
    by_cases hv : v = i
    · subst hv
      have hl : v < (kill vs ph).length := by
        have := (List.getElem?_eq_some_iff.mp h).1
        simpa using this
      rw [List.getElem?_set_self hl] at h
      cases h
      exact .inl ⟨rfl, by rw [kill_len] at hl; exact hl⟩
    · rw [List.getElem?_set_ne hv] at h
      rcases kill_get h with h | ⟨h1, h2⟩
      · exact .inl h
      · exact .inr ⟨by simp only [List.mem_cons, not_or]; exact ⟨Ne.symm hv, h1⟩, h2⟩
theorem wipe_get {σ : L2.St} {i : Nat} : ∀ {vs : List Nat}, i ∉ vs → (wipe σ vs)[i]? = σ[i]?
  | [], _ => rfl
  | v :: vs, h => by
    simp only [List.mem_cons, not_or] at h
    show ((wipe σ vs).set v none)[i]? = _
    rw [List.getElem?_set_ne (Ne.symm h.1)]
    exact wipe_get h.2
theorem En.wipe [Tb] {K : PySem.W.Frag} {ph : List Fl} {F H : Hp} {σ : L2.St} {rho : Rw} (n : En K ph F H σ rho) (vs : List Nat) : En K (kill vs ph) F H (L2.wipe σ vs) rho := by
  refine ⟨n.fh, by rw [kill_len, wipe_length]; exact n.ls, by rw [kill_len]; exact n.lr, fun i f h => ?_, fun i j p h1 h2 h3 h4 => ?_, n.tb⟩
  · rcases kill_get h with ⟨rfl, hl⟩ | ⟨h1, h2⟩
    · have a : i < (L2.wipe σ vs).length := by rw [wipe_length]; exact Nat.lt_of_lt_of_le hl n.ls
      have b : i < rho.length := Nat.lt_of_lt_of_le hl n.lr
      exact ⟨_, _, List.getElem?_eq_getElem a, List.getElem?_eq_getElem b, trivial⟩
    · obtain ⟨sv, d, e1, e2, e3⟩ := n.sl i f h2
      exact ⟨sv, d, by rw [wipe_get h1]; exact e1, e2, e3⟩
  · rcases kill_get h1 with ⟨e, _⟩ | ⟨a1, a2⟩
    · cases e
    · rcases kill_get h2 with ⟨e, _⟩ | ⟨b1, b2⟩
      · cases e
      · rw [wipe_get a1] at h3
        rw [wipe_get b1] at h4
        exact n.ap i j p a2 b2 h3 h4
theorem wipe_self {σ : L2.St} : ∀ {vs : List Nat} {i : Nat}, i ∈ vs → i < σ.length → (wipe σ vs)[i]? = some none
  | [], i, h, _ => by simp at h
  | v :: vs, i, h, hl => by
    show ((wipe σ vs).set v none)[i]? = _
    by_cases hv : v = i
    · subst hv; rw [List.getElem?_set_self (by rw [wipe_length]; exact hl)]
    · rw [List.getElem?_set_ne hv]
      exact wipe_self ((List.mem_cons.mp h).resolve_left (Ne.symm hv)) hl
theorem wipe_oth {σ σ2 : L2.St} {ts vs : List Nat} {rho rho2 : Rw} (o : Oth ts (wipe σ vs) σ2 rho rho2) (h : ∀ i ∈ ts, i ∈ vs) : wipe σ2 vs = wipe σ vs := by
  apply List.ext_getElem?
  intro i
  by_cases hi : i ∈ vs
  · have hl : σ2.length = σ.length := by rw [o.1, wipe_length]
    by_cases hlt : i < σ.length
    · rw [wipe_self hi (by rw [hl]; exact hlt), wipe_self hi hlt]
    · rw [List.getElem?_eq_none (by rw [wipe_length]; omega), List.getElem?_eq_none (by rw [wipe_length]; omega)]
  · rw [wipe_get hi, wipe_get hi, (o.2 i (fun z => hi (h i z))).1, wipe_get hi]
def toO {a : Type} : Rs a → Option a
  | .ok x => some x
  | .error _ => none
def compD (f : PyData → Option (Option PyData)) : List PyData → Option (List PyData)
  | [] => some []
  | d :: ds => (f d).bind fun o => (compD f ds).bind fun r => some (o.toList ++ r)
def eltD (gt : PyData → Rw → Option Rw) (gc : Rw → Rs Bool) (ge : Rw → Rs PyData) (rho : Rw) : PyData → Option (Option PyData) := fun d => (gt d rho).bind fun r => (toO (gc r)).bind fun b => if b = true then (toO (ge r)).bind fun y => some (some y) else some none
def gLc (gi : Rw → Rs (List PyData)) (gt : PyData → Rw → Option Rw) (gc : Rw → Rs Bool) (ge : Rw → Rs PyData) : Rw → Rs PyData := fun rho => gi rho >>= fun ds => lift ((compD (eltD gt gc ge rho) ds).map PyData.list)
def gYes : Rw → Rs Bool := fun _ => .ok true
abbrev W0 : WX := fun _ _ _ _ => False
theorem pts_imp {ifs : List Expr} {t t' : TT} (h : PTs X ifs t) (hi : ∀ σ H Q, t' σ H Q → t σ H Q) : PTs X ifs t' := ⟨fun pins s σ H Q I q => h.run pins s σ H Q I (hi σ H Q q)⟩
theorem dts_nil [Tb] : PTs X [] (rT X.K X.mg W ph gYes) := pts_imp pts_nil fun σ H Q ⟨F, rho, n, q⟩ => q.now n.fh
theorem dts_one [Tb] {c : Expr} {gc : Rw → Rs Bool} (h : DT X W ph c gc) : PTs X [c] (rT X.K X.mg W ph gc) := pts_one h
theorem aft_toO [Tb] {a : Type} {mg : Str → Option Value} {σ : L2.St} {F H : Hp} {r : Rs a} {x : a} {Z : a → Hp → Hp → Prop} (h : toO r = some x) (q : ∀ F1 H1, Step F H F1 H1 → Z x F1 H1) : Aft mg W0 σ F H r Z := by
  cases r with
  | ok y => cases h; exact q
  | error e => cases h
/-- the reading of a comprehension, from the canonical one -/
theorem lc_run [Tb] {own : List (Str × Nat)} {gc : Rw → Rs Bool} {ge : Rw → Rs PyData} (hts : ∀ i ∈ ts, i ∈ own.map (·.2)) : ∀ σ H Q, rO X.K X.mg W ph (gLc gi gt gc ge) σ H Q →
    tLc (rIh X.K X.mg W ph gi) (rG X.K (kill (own.map (·.2)) ph) ts gt) (rT X.K X.mg W0 (setIms ts (kill (own.map (·.2)) ph)) gc) (rE X.K X.mg W0 (setIms ts (kill (own.map (·.2)) ph)) ge) (own.map (·.2)) σ H Q :=
  fun σ H Q ⟨F, rho, n, q⟩ => ⟨F, rho, n, q.bind fun ds F1 H1 s1 q1 J hJ L hL => by
    obtain ⟨d, e, q2⟩ := q1.lift
    cases er : compD (eltD gt gc ge rho) ds with
    | none => rw [er] at e; cases e
    | some r =>
      rw [er] at e
      cases e
      have its0 := hJ F1 H1 (Same.refl _) s1.fh (Gro.refl _)
      refine ⟨fun i m H' => ∃ F' accv accd rest, m = ds.length - i ∧ i ≤ ds.length ∧ Step F1 H1 F' H' ∧ F' L = none ∧ H' L = some (.lst accv) ∧ RpL X.K F' accv accd ∧ compD (eltD gt gc ge rho) (ds.drop i) = some rest ∧ accd ++ rest = r ∧ accd.length ≤ i,
        ⟨ds.length, F1, [], [], r, by simp, Nat.zero_le _, Step.hid s1.fh hL, same_none s1.fh hL, upd_same, .nil, er, rfl, Nat.le_refl _⟩, ?_⟩
      rintro i m H' ⟨F', accv, accd, rest, rfl, hi, s', f0, h0, ra, ec, ea, hl⟩
      have its := hJ F' H' s'.f s'.fh s'.h
      by_cases hlt : i < ds.length
      · obtain ⟨go, yl⟩ := its.2.1 i ds[i] (by simp [hlt])
        have hd : ds.drop i = ds[i] :: ds.drop (i + 1) := List.drop_eq_getElem_cons hlt
        rw [hd] at ec
        have ec : (eltD gt gc ge rho ds[i]).bind (fun o => (compD (eltD gt gc ge rho) (ds.drop (i + 1))).bind fun r => some (o.toList ++ r)) = some rest := ec
        refine .inr ⟨go, fun H3 => ∃ F' accv accd rest, Step F1 H1 F' H3 ∧ F' L = none ∧ H3 L = some (.lst accv) ∧ RpL X.K F' accv accd ∧ compD (eltD gt gc ge rho) (ds.drop (i + 1)) = some rest ∧ accd ++ rest = r ∧ accd.length ≤ i + 1,
          fun H3 ⟨F', accv, accd, rest, a⟩ => ⟨ds.length - (i + 1), by omega, F', accv, accd, rest, rfl, hlt, a⟩, fun x H2 hy => ?_⟩
        obtain ⟨F2, s2, r2⟩ := yl x H2 hy
        have sA : Step F1 H1 F2 H2 := s'.trans s2
        have f2 : F2 L = none := s2.nw L f0 (by rw [h0]; simp)
        have h2 : H2 L = some (.lst accv) := s2.h.lst h0
        cases e1 : gt ds[i] rho with
        | none => simp [eltD, e1] at ec
        | some rho2 =>
          refine ⟨F2, rho, ds[i], rho2, ((n.step s1).step sA).wipe _, r2, e1, fun σ2 n2 o2 => ⟨wipe_oth o2 hts, F2, rho2, n2, ?_⟩⟩
          cases e2 : toO (gc rho2) with
          | none => simp [eltD, e1, e2] at ec
          | some b =>
            refine aft_toO e2 fun F3 H3 s3 => ?_
            have sB := sA.trans s3
            have f3 : F3 L = none := s3.nw L f2 (by rw [h2]; simp)
            have h3 : H3 L = some (.lst accv) := s3.h.lst h2
            cases b with
            | false =>
              refine iteF ?_
              simp only [eltD, e1, e2, Option.bind_some, Bool.false_eq_true, if_false] at ec
              cases e3 : compD (eltD gt gc ge rho) (ds.drop (i + 1)) with
              | none =>
                rw [e3] at ec; cases ec
              | some r3 =>
                rw [e3] at ec
                cases ec
                exact ⟨F3, accv, accd, r3, sB, f3, h3, ra.mono (s2.f.trans s3.f), rfl, ea, by omega⟩
            | true =>
              refine iteT ?_
              refine ⟨F3, rho2, n2.step s3, ?_⟩
              cases e4 : toO (ge rho2) with
              | none => simp [eltD, e1, e2, e4] at ec
              | some y =>
                refine aft_toO e4 fun F4 H4 s4 v rv => ?_
                have sC := sB.trans s4
                have f4 : F4 L = none := s4.nw L f3 (by rw [h3]; simp)
                have h4 : H4 L = some (.lst accv) := s4.h.lst h3
                simp only [eltD, e1, e2, e4, Option.bind_some, if_true] at ec
                have hz : accv.length < sizeLine := by rw [ra.length]; exact Nat.lt_of_le_of_lt hl (Nat.lt_of_lt_of_le hlt its0.1)
                refine ⟨accv, h4, hz, ?_⟩
                cases e3 : compD (eltD gt gc ge rho) (ds.drop (i + 1)) with
                | none =>
                  rw [e3] at ec; cases ec
                | some r3 =>
                  rw [e3] at ec
                  cases ec
                  have ne : ∀ b u, F4 b = some u → b ≠ L := fun b u z => ne_of_none z f4
                  refine ⟨F4, accv ++ [v], accd ++ [y], r3, ⟨sC.f, fun b u z => ?_, fun b u z => ?_, sC.nw, fun t => ⟨fun q hq => ⟨((sC.t t).1 q hq).1, tabS_upd ((sC.t t).1 q hq).2 fun u e => by rw [h4] at e; cases e; exact ⟨fun _ z => (by cases z), fun _ _ z => (by unfold LamX.CodeO at z; cases z)⟩⟩, tupIn_hid (sC.t t).2 fun _ z => by cases z⟩⟩, f4, upd_same, (ra.mono ((s2.f.trans s3.f).trans s4.f)).append (.one rv), rfl, ?_, by simp; omega⟩
                  · rw [upd_ne (ne b u z)]; exact sC.fh _ _ z
                  · rw [upd_ne (ne_of_none z hL)]; exact sC.h _ _ z
                  · rw [← ea]; simp
      · have e : i = ds.length := by omega
        subst e
        rw [List.drop_length] at ec
        cases ec
        refine .inl ⟨its.2.2, ?_⟩
        rw [List.append_nil] at ea
        subst ea
        exact q2.ok s' L _ (s1.h.free hL) f0 h0 ⟨by rw [ra.length]; exact Nat.le_trans hl its0.1, ra⟩⟩
theorem do_lc [Tb] {elt : Expr} {ifs : List Expr} {scope : Scope} {own : List (Str × Nat)} {gc : Rw → Rs Bool} {ge : Rw → Rs PyData} (hc : X.calm = true) (hN : X.N.Nodup) (hi : DIh X W ph tg iter gi) (ok : BlkOk X.N X.env.scope scope own)
    (hg : ∀ (s : Shared) (H : Hp) (C : Addr) (cl : List (Str × Addr)) (fp : List Addr), PG (X.blk s H scope (compEnvC scope cl C X.env) fp) tg (rG X.K (kill (own.map (·.2)) ph) ts gt))
    (ht : ∀ (s : Shared) (H : Hp) (C : Addr) (cl : List (Str × Addr)) (fp : List Addr), PTs (X.blk s H scope (compEnvC scope cl C X.env) fp) ifs (rT X.K X.mg W0 (setIms ts (kill (own.map (·.2)) ph)) gc))
    (he : ∀ (s : Shared) (H : Hp) (C : Addr) (cl : List (Str × Addr)) (fp : List Addr), DE (X.blk s H scope (compEnvC scope cl C X.env) fp) W0 (setIms ts (kill (own.map (·.2)) ph)) elt ge)
    (hts : ∀ i ∈ ts, i ∈ own.map (·.2)) (hs : ∀ x, foldedSetIterable iter X.env x = pure x := by intro _; rfl) : DO X W ph (.ListComp elt [⟨tg, iter, ifs, 0⟩] scope pos) (gLc gi gt gc ge) :=
  pe_imp (pe_lc (te := rE X.K X.mg W0 (setIms ts (kill (own.map (·.2)) ph)) ge) hc hN hi ok hg ht he hs) (lc_run hts)
end
end PD
/-! PD4: defs. -/
namespace PD
open PySem L2
def endD : SR → Rs PyData
  | .nx _ => .ok .none
  | .rt d => .ok d
  | .er e _ => .error e
  | .bk _ => .error .bad
  | .ct _ => .error .bad
/-- a def of k parameters and nn names, by its body -/
def fnM (k nn : Nat) (g : Rw → SR) : List PyData → Rs PyData := fun ds => if ds.length = k then endD (g (ds ++ List.replicate (nn - k) .none)) else .error .bad
theorem fnM_len (k nn : Nat) (g : Rw → SR) : LenM k (fnM k nn g) := fun ds h => if_neg h
def ph0 (k nn : Nat) : List Fl := List.replicate k .im ++ List.replicate (nn - k) .dead
theorem rpl_get {K : PySem.W.Frag} {F : Hp} {vs : List V} {ds : List PyData} (r : RpL K F vs ds) {i : Nat} (h : i < ds.length) : ∃ v, vs[i]? = some v ∧ Rp K F v ds[i] := r.get (List.getElem?_eq_getElem h)
theorem en_start [Tb] {K : PySem.W.Frag} {F H : Hp} {vs : List V} {ds : List PyData} {N : List Str} (s : Same F H) (tb : TbOk F H) (r : RpL K F vs ds) (hn : ds.length ≤ N.length) : En K (ph0 ds.length N.length) F H (L2.start N vs) (ds ++ List.replicate (N.length - ds.length) .none) := by
  have el := r.length
  have ls : (L2.start N vs).length = N.length := by unfold L2.start; simp; omega
  refine ⟨s, by rw [ls]; simp [ph0]; omega, by simp [ph0], fun i f h => ?_, fun i j p h1 _ _ _ => ?_, tb⟩
  · unfold ph0 at h
    by_cases hi : i < ds.length
    · rw [List.getElem?_append_left (by simpa using hi), List.getElem?_replicate, if_pos hi] at h
      cases h
      obtain ⟨v, e, rv⟩ := rpl_get r hi
      refine ⟨some v, ds[i], ?_, ?_, v, rfl, rv⟩
      · unfold L2.start
        rw [List.getElem?_append_left (by simp; omega), List.getElem?_map, e]; rfl
      · rw [List.getElem?_append_left hi]; exact List.getElem?_eq_getElem hi
    · rw [List.getElem?_append_right (by simpa using hi), List.getElem?_replicate] at h
      split at h
      · rename_i hlt
        cases h
        simp at hlt
        have a : i < (L2.start N vs).length := by rw [ls]; omega
        have b : i < (ds ++ List.replicate (N.length - ds.length) PyData.none).length := by simp; omega
        exact ⟨_, _, List.getElem?_eq_getElem a, List.getElem?_eq_getElem b, trivial⟩
      · cases h
  · unfold ph0 at h1
    by_cases hi : i < ds.length
    · rw [List.getElem?_append_left (by simpa using hi), List.getElem?_replicate, if_pos hi] at h1; cases h1
    · rw [List.getElem?_append_right (by simpa using hi), List.getElem?_replicate] at h1
      split at h1 <;> cases h1
/-- THE RULE for a def -/
theorem fn_pure [Tb] {P : Program} {w : World} {K : PySem.W.Frag} {mg : Str → Option Value} {base : Heap} {x qual : Str} {st : Stmt} {f : Addr} {fd : FuncData} {N ps : List Str} {k : Nat} {g : Rw → SR} {phn : List Fl} (Fn : Fun K x qual st f fd) (S : FnScope N ps (defScope st))
    (hbody : ∀ (cdv : Value) (A : Around) (outer : List PySem.Env) (s : Shared) (H : Hp) (E : XK), fd.code = cdv → Room k (A.deeper (PyProof.Rows.envOfC qual (defScope st) s.heap.objs.size f cdv)) →
      DB (cxOf (L2.CX P w) P w K mg base N qual (defScope st) f cdv A outer s H E) (fun c d _ H' => E c d H') ⟨[], [], [], none⟩ (ph0 ps.length N.length) phn (defBody st) g) :
    FnOk P w K mg base (L2.CX P w) (k + 1) f fd ps (spP K mg ps.length (fnM ps.length N.length g)) := by
  have hpl : ps.length ≤ N.length := by have := congrArg List.length S.pre; rw [List.length_take] at this; omega
  obtain ⟨oc, od, kV, doc, pm, an, cdv, ct, osl, rfl, lk, hcd⟩ := Fn.ex
  refine fn_of lk hcd S (fun vs H Q E h => ?_) (fun A outer s H vs Q E hr h => ⟨_, hbody cdv A outer s H E rfl hr, ?_⟩)
  · obtain ⟨F, ds, e, _, _, r, _⟩ := h
    exact r.length.trans e
  · obtain ⟨F, ds, e, sm, tb, r, q⟩ := h
    rw [← e]
    have n : En K (ph0 ds.length N.length) F H (L2.start N vs) (ds ++ List.replicate (N.length - ds.length) .none) := en_start sm tb r (by omega)
    have q : Aft mg (fun c d _ H' => E c d H') [] F H (endD (g (ds ++ List.replicate (N.length - ds.length) .none))) fun d F' H' => ∀ v, Rp K F' v d → Q v H' := by
      have : fnM ps.length N.length g ds = endD (g (ds ++ List.replicate (N.length - ds.length) .none)) := by unfold fnM; rw [if_pos e, e]
      rw [← this]; exact q
    have nc : ∀ {i : Nat} {f : Fl}, (ph0 ds.length N.length)[i]? = some f → f = .im ∨ f = .dead := fun {i f} h1 => by
      unfold ph0 at h1
      by_cases hi : i < ds.length
      · rw [List.getElem?_append_left (by simpa using hi), List.getElem?_replicate, if_pos hi] at h1; cases h1; exact .inl rfl
      · rw [List.getElem?_append_right (by simpa using hi), List.getElem?_replicate] at h1
        split at h1 <;> cases h1
        exact .inr rfl
    refine ⟨F, H, F, _, ⟨n, .refl sm, fun i p h1 h2 => ?_, ⟨fun _ => [], fun i k h => ?_, fun i k h => ?_⟩⟩, ?_⟩
    rotate_left 1
    · rcases nc h with z | z <;> cases z
    · rcases nc h with z | z <;> cases z
    rotate_left 1
    · obtain ⟨p', o, _, _, q3, _⟩ := n.ow h1
      exfalso
      unfold ph0 at h1
      by_cases hi : i < ds.length
      · rw [List.getElem?_append_left (by simpa using hi), List.getElem?_replicate, if_pos hi] at h1; cases h1
      · rw [List.getElem?_append_right (by simpa using hi), List.getElem?_replicate] at h1
        split at h1 <;> cases h1
    · cases eg : g (ds ++ List.replicate (N.length - ds.length) PyData.none) with
      | nx r => rw [eg] at q; exact fun σ F' H' n' => q.ok n'.st _ .non
      | rt d => rw [eg] at q; exact fun v F' H' s' r' => q.ok s' v r'
      | bk r => rw [eg] at q; exact False.elim q
      | ct r => rw [eg] at q; exact False.elim q
      | er e r =>
        rw [eg] at q
        cases e with
        | bad => exact q
        | exc nm => exact fun σ F' H' n' => q F' H' n'.st
end PD
/-! PD5: operators by data. -/
namespace PD
open PySem L2
theorem opr_imp {X : Cx} {f : Value → Value → Sem Value} {r r' : R2} (h : OpR X f r) (hi : ∀ x y H Q, r' x y H Q → r x y H Q) : OpR X f r' := fun pins s σ H x y v u Q I rx ry q => h pins s σ H x y v u Q I rx ry (hi x y H Q q)
theorem unr_imp {X : Cx} {f : Value → Sem Value} {r r' : V → Hp → VK → Prop} (h : UnR X f r) (hi : ∀ x H Q, r' x H Q → r x H Q) : UnR X f r' := fun pins s σ H x v Q I rx q => h pins s σ H x v Q I rx (hi x H Q q)
theorem clr_imp {X : Cx} {f : Value} {r r' : List V → Hp → VK → Prop} (h : CallR X f r) (hi : ∀ xs H Q, r' xs H Q → r xs H Q) : CallR X f r' := fun pins s σ H xs us Q I rx q => h pins s σ H xs us Q I rx (hi xs H Q q)
theorem clr_or {X : Cx} {f : Value} {r r' : List V → Hp → VK → Prop} (h : CallR X f r) (h' : CallR X f r') : CallR X f (fun xs H Q => r xs H Q ∨ r' xs H Q) := fun pins s σ H xs us Q I rx q => by
  rcases q with q | q
  · exact h pins s σ H xs us Q I rx q
  · exact h' pins s σ H xs us Q I rx q
section
variable {X : Cx}
def dAdd : PyData → PyData → Option PyData
  | .int i, .int j => some (.int (i + j))
  | .str x, .str y => if x.length + y.length ≤ sizeLine then some (.str (x ++ y)) else none
  | .tuple xs, .tuple ys => if xs.length + ys.length ≤ sizeLine then some (.tuple (xs ++ ys)) else none
  | .list xs, .list ys => if xs.length + ys.length ≤ sizeLine then some (.list (xs ++ ys)) else none
  | _, _ => none
theorem op_addP [Tb] : OpR X (binaryOp .Add) (rOp X.K dAdd) := by
  refine opr_imp (OpR.or (OpR.or op_add op_add_str) (OpR.or op_catA op_cat)) fun x y H Q ⟨F, d1, d2, d, s, r1, r2, e, q⟩ => ?_
  cases r1 with
  | int i =>
    cases r2 <;> cases e
    exact .inl (.inl ⟨_, _, rfl, rfl, q _ F H (.refl s) (.int _)⟩)
  | str a =>
    cases r2 with
    | str b =>
      have e : (if a.length + b.length ≤ sizeLine then some (PyData.str (a ++ b)) else none) = some d := e
      split at e
      · rename_i hz; cases e; exact .inl (.inr ⟨_, _, rfl, rfl, hz, q _ F H (.refl s) (.str _)⟩)
      · cases e
    | _ => cases e
  | tup h1 z1 t1 =>
    rename_i a xs ds _
    cases r2 with
    | tup h2 z2 t2 =>
      rename_i b ys es _
      have e : (if ds.length + es.length ≤ sizeLine then some (PyData.tuple (ds ++ es)) else none) = some d := e
      split at e
      · rename_i hz
        cases e
        have hz' : xs.length + ys.length ≤ sizeLine := by rw [t1.length, t2.length]; exact hz
        refine .inr (.inl ⟨a, b, xs, ys, rfl, rfl, .of (s _ _ h1), .of (s _ _ h2), hz', fun en => ?_, fun _ en => ?_, fun _ _ p hp => ?_⟩)
        · subst en; cases t1; exact q _ F H (.refl s) (.tup h2 z2 t2)
        · subst en; cases t2; rw [List.append_nil] at q; exact q _ F H (.refl s) (.tup h1 z1 t1)
        · exact q _ _ _ (Step.new s hp) (.tup upd_same (by rw [List.length_append]; exact hz') ((t1.append t2).mono (same_upd (same_none s hp))))
      · cases e
    | _ => cases e
  | lst h1 z1 t1 =>
    rename_i a xs ds _
    cases r2 with
    | lst h2 z2 t2 =>
      rename_i b ys es _
      have e : (if ds.length + es.length ≤ sizeLine then some (PyData.list (ds ++ es)) else none) = some d := e
      split at e
      · rename_i hz
        cases e
        have hz' : xs.length + ys.length ≤ sizeLine := by rw [t1.length, t2.length]; exact hz
        refine .inr (.inr ⟨a, b, xs, ys, rfl, rfl, s _ _ h1, s _ _ h2, hz', fun p hp => ?_⟩)
        exact q _ _ _ (Step.new s hp) (.lst upd_same (by rw [List.length_append]; exact hz') ((t1.append t2).mono (same_upd (same_none s hp))))
      · cases e
    | _ => cases e
  | non => cases e
  | bl _ => cases e
  | dct _ _ _ => cases e
  | scr _ => cases e
/-- two whole numbers -/
def d2I (C : Int → Int → Bool) (g : Int → Int → PyData) : PyData → PyData → Option PyData
  | .int i, .int j => if C i j = true then some (g i j) else none
  | _, _ => none
theorem d2I_of {K : PySem.W.Frag} {F : Hp} {x y : V} {d1 d2 d : PyData} {C : Int → Int → Bool} {g : Int → Int → PyData} (r1 : Rp K F x d1) (r2 : Rp K F y d2) (e : d2I C g d1 d2 = some d) : ∃ i j, x = .int i ∧ y = .int j ∧ d1 = .int i ∧ d2 = .int j ∧ C i j = true ∧ d = g i j := by
  cases r1 with
  | int i =>
    cases r2 with
    | int j =>
      have e : (if C i j = true then some (g i j) else none) = some d := e
      split at e
      · rename_i h; cases e; exact ⟨i, j, rfl, rfl, rfl, rfl, h, rfl⟩
      · cases e
    | _ => cases e
  | _ => cases e
def yes2 : Int → Int → Bool := fun _ _ => true
abbrev dSub : PyData → PyData → Option PyData := d2I yes2 fun i j => .int (i - j)
theorem op_subP [Tb] : OpR X (binaryOp .Sub) (rOp X.K dSub) := opr_imp op_sub fun x y H Q ⟨F, d1, d2, d, s, r1, r2, e, q⟩ => by
  obtain ⟨i, j, rfl, rfl, _, _, _, rfl⟩ := d2I_of r1 r2 e
  exact ⟨i, j, rfl, rfl, q _ F H (.refl s) (.int _)⟩
abbrev dMulI : PyData → PyData → Option PyData := d2I (fun i j => decide ((-(2 ^ 64) < i ∧ i < 2 ^ 64) ∨ (-(2 ^ 64) < j ∧ j < 2 ^ 64))) fun i j => .int (i * j)
theorem op_mulP [Tb] : OpR X (binaryOp .Mult) (rOp X.K dMulI) := opr_imp op_mul fun x y H Q ⟨F, d1, d2, d, s, r1, r2, e, q⟩ => by
  obtain ⟨i, j, rfl, rfl, _, _, h, rfl⟩ := d2I_of r1 r2 e
  have h2 := of_decide_eq_true h
  exact ⟨i, j, rfl, rfl, h2, q _ F H (.refl s) (.int _)⟩
abbrev dFdiv : PyData → PyData → Option PyData := d2I (fun _ j => decide (0 < j ∧ j < 1073741824)) fun i j => .int (i / j)
theorem op_fdivP [Tb] : OpR X (binaryOp .FloorDiv) (rOp X.K dFdiv) := opr_imp op_fdiv fun x y H Q ⟨F, d1, d2, d, s, r1, r2, e, q⟩ => by
  obtain ⟨i, j, rfl, rfl, _, _, h, rfl⟩ := d2I_of r1 r2 e
  have h2 := of_decide_eq_true h
  exact ⟨i, j, rfl, rfl, h2, q _ F H (.refl s) (.int _)⟩
abbrev dMod : PyData → PyData → Option PyData := d2I (fun _ j => decide (0 < j)) fun i j => .int (i % j)
theorem op_modP [Tb] : OpR X (binaryOp .Mod) (rOp X.K dMod) := opr_imp op_mod fun x y H Q ⟨F, d1, d2, d, s, r1, r2, e, q⟩ => by
  obtain ⟨i, j, rfl, rfl, _, _, h, rfl⟩ := d2I_of r1 r2 e
  have h2 := of_decide_eq_true h
  exact ⟨i, j, rfl, rfl, h2, q _ F H (.refl s) (.int _)⟩
abbrev dPow : PyData → PyData → Option PyData := d2I (fun i j => decide (0 ≤ j ∧ j ≤ 1000000 ∧ i.natAbs < 2 ^ 64)) fun i j => .int (i ^ j.toNat)
theorem op_powP [Tb] : OpR X (binaryOp .Pow) (rOp X.K dPow) := opr_imp op_pow fun x y H Q ⟨F, d1, d2, d, s, r1, r2, e, q⟩ => by
  obtain ⟨i, j, rfl, rfl, _, _, h, rfl⟩ := d2I_of r1 r2 e
  have h2 := of_decide_eq_true h
  exact ⟨i, j, rfl, rfl, h2, q _ F H (.refl s) (.int _)⟩
abbrev dLtI : PyData → PyData → Option PyData := d2I yes2 fun i j => .bool (decide (i < j))
abbrev dLeI : PyData → PyData → Option PyData := d2I yes2 fun i j => .bool (decide (i ≤ j))
abbrev dGtI : PyData → PyData → Option PyData := d2I yes2 fun i j => .bool (decide (j < i))
abbrev dGeI : PyData → PyData → Option PyData := d2I yes2 fun i j => .bool (decide (j ≤ i))
theorem op_ltP [Tb] : OpR X (compareOp .Lt) (rOp X.K dLtI) := opr_imp op_lt fun x y H Q ⟨F, d1, d2, d, s, r1, r2, e, q⟩ => by
  obtain ⟨i, j, rfl, rfl, _, _, h, rfl⟩ := d2I_of r1 r2 e
  exact ⟨i, j, rfl, rfl, q _ F H (.refl s) (.bl _)⟩
theorem op_leP [Tb] : OpR X (compareOp .LtE) (rOp X.K dLeI) := opr_imp op_le fun x y H Q ⟨F, d1, d2, d, s, r1, r2, e, q⟩ => by
  obtain ⟨i, j, rfl, rfl, _, _, h, rfl⟩ := d2I_of r1 r2 e
  exact ⟨i, j, rfl, rfl, q _ F H (.refl s) (.bl _)⟩
theorem op_gtP [Tb] : OpR X (compareOp .Gt) (rOp X.K dGtI) := opr_imp op_gt fun x y H Q ⟨F, d1, d2, d, s, r1, r2, e, q⟩ => by
  obtain ⟨i, j, rfl, rfl, _, _, h, rfl⟩ := d2I_of r1 r2 e
  exact ⟨i, j, rfl, rfl, q _ F H (.refl s) (.bl _)⟩
theorem op_geP [Tb] : OpR X (compareOp .GtE) (rOp X.K dGeI) := opr_imp op_ge fun x y H Q ⟨F, d1, d2, d, s, r1, r2, e, q⟩ => by
  obtain ⟨i, j, rfl, rfl, _, _, h, rfl⟩ := d2I_of r1 r2 e
  exact ⟨i, j, rfl, rfl, q _ F H (.refl s) (.bl _)⟩
/-! ### equality at any depth -/
theorem canAll_cons {d : PyData} {ds : List PyData} (h : PyData.canLayAll0 (d :: ds) = true) : d.canLay0 = true ∧ PyData.canLayAll0 ds = true := by
  simpa [PyData.canLayAll0] using h
mutual
theorem Rp.dp {K : PySem.W.Frag} {F H : Hp} (s : Same F H) : ∀ (d : PyData) {v : V}, d.canLay0 = true → Rp K F v d → Dp K H v d
  | .none, _, _, h => by cases h; exact .non
  | .bool b, _, _, h => by cases h; exact .bl b
  | .int i, _, _, h => by cases h; exact .int i
  | .str x, _, _, h => by cases h; exact .str x
  | .list ds, _, hc, h => by
    cases h with
    | lst e _ t => exact .lst (.of (s _ _ e)) (RpL.dp s ds (by simpa [PyData.canLay0] using hc) t)
  | .tuple ds, _, hc, h => by
    cases h with
    | tup e _ t => exact .tup (.of (s _ _ e)) (RpL.dp s ds (by simpa [PyData.canLay0] using hc) t)
  | .dict _, _, hc, _ => by simp [PyData.canLay0] at hc
theorem RpL.dp {K : PySem.W.Frag} {F H : Hp} (s : Same F H) : ∀ (ds : List PyData) {vs : List V}, PyData.canLayAll0 ds = true → RpL K F vs ds → DpAll K H vs ds
  | [], _, _, h => by cases h; exact .nil
  | d :: ds, _, hc, h => by
    cases h with
    | cons h1 h2 => exact .cons (Rp.dp s d (canAll_cons hc).1 h1) (RpL.dp s ds (canAll_cons hc).2 h2)
end
def dEq : PyData → PyData → Option PyData := fun a b => if (SeqAt.shaped a && SeqAt.shaped b) = true then some (.bool (PyData.eqv a b)) else none
def dNe : PyData → PyData → Option PyData := fun a b => if (SeqAt.shaped a && SeqAt.shaped b) = true then some (.bool (!PyData.eqv a b)) else none
theorem op_eqP [Tb] (hu : X.A.units + 64 < cLine) : OpR X (compareOp .Eq) (rOp X.K dEq) := opr_imp (op_eqD hu) fun x y H Q ⟨F, d1, d2, d, s, r1, r2, e, q⟩ => by
  unfold dEq at e
  split at e
  · rename_i h
    cases e
    rw [Bool.and_eq_true] at h
    exact ⟨d1, d2, Rp.dp s d1 (SeqAt.canLay_of_shaped h.1) r1, Rp.dp s d2 (SeqAt.canLay_of_shaped h.2) r2, h.1, h.2, q _ F H (.refl s) (.bl _)⟩
  · cases e
theorem op_neP [Tb] (hu : X.A.units + 64 < cLine) : OpR X (compareOp .NotEq) (rOp X.K dNe) := opr_imp (op_neD hu) fun x y H Q ⟨F, d1, d2, d, s, r1, r2, e, q⟩ => by
  unfold dNe at e
  split at e
  · rename_i h
    cases e
    rw [Bool.and_eq_true] at h
    exact ⟨d1, d2, Rp.dp s d1 (SeqAt.canLay_of_shaped h.1) r1, Rp.dp s d2 (SeqAt.canLay_of_shaped h.2) r2, h.1, h.2, q _ F H (.refl s) (.bl _)⟩
  · cases e
/-! ### is None, is True -/
def isNoD : PyData → Bool
  | .none => true
  | _ => false
theorem isNo_of {K : PySem.W.Frag} {F : Hp} {v : V} {d : PyData} (r : Rp K F v d) : decide (v = V.non) = isNoD d := by
  cases r <;> first | rfl | exact decide_eq_false (fun z => nomatch z)
def dIs (neg : Bool) : PyData → PyData → Option PyData
  | a, .none => some (.bool (isNoD a != neg))
  | .bool a, .bool b => some (.bool (decide (a = b) != neg))
  | _, _ => none
theorem op_isP [Tb] : OpR X (compareOp .Is) (rOp X.K (dIs false)) := opr_imp (OpR.or op_isN op_is_bl) fun x y H Q ⟨F, d1, d2, d, s, r1, r2, e, q⟩ => by
  cases r2 with
  | non =>
    refine .inl ⟨rfl, ?_⟩
    rw [isNo_of r1]
    have e : some (PyData.bool (isNoD d1 != false)) = some d := by cases d1 <;> exact e
    cases e
    have := q _ F H (.refl s) (.bl _)
    rwa [Bool.bne_false] at this
  | bl b =>
    cases r1 <;> cases e
    refine .inr ⟨_, _, rfl, rfl, ?_⟩
    have := q _ F H (.refl s) (.bl _)
    rwa [Bool.bne_false] at this
  | _ => cases r1 <;> cases e
theorem op_isnotP [Tb] : OpR X (compareOp .IsNot) (rOp X.K (dIs true)) := opr_imp (OpR.or op_notN op_isnot_bl) fun x y H Q ⟨F, d1, d2, d, s, r1, r2, e, q⟩ => by
  cases r2 with
  | non =>
    refine .inl ⟨rfl, ?_⟩
    rw [isNo_of r1]
    have e : some (PyData.bool (isNoD d1 != true)) = some d := by cases d1 <;> exact e
    cases e
    have := q _ F H (.refl s) (.bl _)
    rwa [Bool.bne_true] at this
  | bl b =>
    cases r1 <;> cases e
    refine .inr ⟨_, _, rfl, rfl, ?_⟩
    have := q _ F H (.refl s) (.bl _)
    rwa [Bool.bne_true] at this
  | _ => cases r1 <;> cases e
/-! ### -x -/
def rUn [Tb] (K : PySem.W.Frag) (o : PyData → Option PyData) : V → Hp → VK → Prop := fun x H Q => ∃ F d1 d, Same F H ∧ Rp K F x d1 ∧ o d1 = some d ∧ ∀ v F' H', Step F H F' H' → Rp K F' v d → Q v H'
def gU (o : PyData → Option PyData) (ga : Rw → Rs PyData) : Rw → Rs PyData := fun rho => ga rho >>= fun x => lift (o x)
theorem de_un [Tb] {W : WX} {ph : List Fl} {a : Expr} {pos : Pos} {ga : Rw → Rs PyData} {op : UnaryOp} {o : PyData → Option PyData} (ho : UnR X (unaryOp op) (rUn X.K o)) (ha : DE X W ph a ga) : DE X W ph (.UnaryOp op a pos) (gU o ga) :=
  pe_imp (pe_un ho ha) fun σ H Q ⟨F, rho, n, q⟩ => ⟨F, rho, n, q.bind fun d1 F1 H1 s1 q1 v1 r1 => by
    obtain ⟨d, e, q3⟩ := q1.lift
    exact ⟨F1, d1, d, s1.fh, r1, e, fun v F' H' s3 r => q3.ok s3 v r⟩⟩
def dNeg : PyData → Option PyData
  | .int i => some (.int (-i))
  | _ => none
theorem un_negP [Tb] : UnR X (unaryOp .USub) (rUn X.K dNeg) := unr_imp un_neg fun x H Q ⟨F, d1, d, s, r1, e, q⟩ => by
  cases r1 <;> cases e
  exact ⟨_, rfl, q _ F H (.refl s) (.int _)⟩
end
end PD
/-! PD6: built-ins by data. -/
namespace PD
open PySem L2
section
variable {X : Cx}
/-! ### lists of whole numbers -/
def intsD : List PyData → Option (List Int)
  | [] => some []
  | .int i :: r => (intsD r).map (i :: ·)
  | _ :: _ => none
theorem intsD_eq : ∀ {ds : List PyData} {ns : List Int}, intsD ds = some ns → ds = ns.map PyData.int
  | [], ns, h => by cases h; rfl
  | d :: r, ns, h => by
    cases d with
    | int i =>
      have h : (intsD r).map (i :: ·) = some ns := h
      cases e : intsD r with
      | none => rw [e] at h; cases h
      | some ms => rw [e] at h; cases h; rw [intsD_eq e]; rfl
    | _ => cases h
theorem intsD_map (ns : List Int) : intsD (ns.map PyData.int) = some ns := by
  induction ns with
  | nil => rfl
  | cons n ns ih => show (intsD (ns.map PyData.int)).map (n :: ·) = _; rw [ih]; rfl
theorem rpl_ints {K : PySem.W.Frag} {F : Hp} : ∀ {vs : List V} {ns : List Int}, RpL K F vs (ns.map PyData.int) → vs = ns.map V.int
  | [], [], _ => rfl
  | [], _ :: _, h => by cases h
  | _ :: _, [], h => by cases h
  | v :: vs, n :: ns, h => by
    cases h with
    | cons h t => cases h; rw [rpl_ints t]; rfl
/-! ### len -/
def dLen : List PyData → Option PyData
  | [.str x] => if x.length ≤ sizeLine then some (.int x.length) else none
  | [.list xs] => some (.int xs.length)
  | [.tuple xs] => some (.int xs.length)
  | [.dict [(.none, .list xs)]] => some (.int xs.length)
  | _ => none
theorem cl_len [Tb] : CallR X (.builtin "len") (rCl X.K dLen) := clr_imp call_len fun vs H Q ⟨F, ds, d, s, r, e, q⟩ => by
  cases r with
  | nil => cases e
  | cons r1 t =>
    cases t with
    | cons _ _ => exact absurd e (by unfold dLen; intro z; split at z <;> simp_all)
    | nil =>
      cases r1 with
      | str x =>
        have e : (if x.length ≤ sizeLine then some (PyData.int x.length) else none) = some d := e
        split at e
        · rename_i hz; cases e; exact ⟨_, _, rfl, ⟨hz, rfl⟩, q _ F H (.refl s) (.int _)⟩
        · cases e
      | lst h _ t => cases e; refine ⟨_, _, rfl, .inl ⟨_, .of (s _ _ h), rfl⟩, ?_⟩; rw [t.length]; exact q _ F H (.refl s) (.int _)
      | tup h _ t => cases e; refine ⟨_, _, rfl, .inr ⟨_, .of (s _ _ h), rfl⟩, ?_⟩; rw [t.length]; exact q _ F H (.refl s) (.int _)
      | @scr a ns h =>
        have e : some (PyData.int (ns.map PyData.int).length) = some d := e
        cases e
        refine ⟨_, _, rfl, .inl ⟨_, s.seq h, rfl⟩, ?_⟩
        have := q _ F H (.refl s) (.int _)
        rw [List.length_map] at this ⊢; exact this
      | dct h z t =>
        cases t with
        | nil => cases e
        | cons _ _ => cases e
      | _ => cases e
/-! ### isinstance -/
def tyD : PyData → String
  | .none => "NoneType"
  | .bool _ => "bool"
  | .int _ => "int"
  | .str _ => "str"
  | .list _ => "list"
  | .tuple _ => "tuple"
  | .dict _ => "dict"
def notDict : PyData → Bool
  | .dict _ => false
  | _ => true
theorem ty_of {K : PySem.W.Frag} {F H : Hp} (s : Same F H) {v : V} {d : PyData} (r : Rp K F v d) (h : notDict d = true) : TyX K H v (.type (tyD d)) := by
  cases r with
  | non => exact .base .non
  | bl b => exact .base (.bl b)
  | int i => exact .base (.int i)
  | str x => exact .base (.str x)
  | lst e _ _ => exact .base (.lst (s _ _ e))
  | tup e _ _ => exact .base (.tup (s _ _ e))
  | dct _ _ _ => cases h
  | scr _ => cases h
def dIsi (T : String) : PyData → Option PyData := fun d => if notDict d = true then (kitB (tyD d) T).map PyData.bool else none
theorem de_isi [Tb] {W : WX} {ph : List Fl} {a : Expr} {p1 p2 pos : Pos} {ga : Rw → Rs PyData} {T : String} {x : Str} (ha : DE X W ph a ga) (hm : X.mg "isinstance" = none) (hmT : X.mg x = none) (hv : bootBuiltins x = some (.type T)) (hg : Gl X "isinstance" := by rfl) (hgT : Gl X x := by rfl) (hn : x ≠ "__name__" := by decide)
    (hd : (x == ("__debug__" : Str)) = false := by decide) (h1 : starEach [a, .Name x p2] X.env = (false, eval a X.env) :: starEach [.Name x p2] X.env := by rfl) (h2 : starEach [.Name x p2] X.env = (false, eval (.Name x p2) X.env) :: starEach [] X.env := by rfl) (hpl : (backTo pos (starEach [.Name x p2] X.env)).any (·.1) = false := by rfl) :
    DE X W ph (.Call (.Name "isinstance" p1) [a, .Name x p2] [] pos) (gU (dIsi T) ga) :=
  pe_imp (pe_callB call_isi hg hm (by decide +kernel) (L2.pa_cons ha (L2.pa_cons (pe_bltn (v := .ty T) hgT hmT hv rfl hn hd) L2.pa_nil h2) h1) (by decide) (by decide) h1 hpl) fun σ H Q ⟨F, rho, n, q⟩ => ⟨F, rho, n, q.bind fun d1 F1 H1 s1 q1 v1 r1 => by
    obtain ⟨d, e, q3⟩ := q1.lift
    unfold dIsi at e
    split at e
    · rename_i hz
      cases eb : kitB (tyD d1) T with
      | none => rw [eb] at e; cases e
      | some b =>
        rw [eb] at e; cases e
        exact ⟨v1, .ty T, .type (tyD d1), .type T, b, rfl, .ty T, ty_of s1.fh r1 hz, kit_ty eb, q3.now s1.fh _ (.bl b)⟩
    · cases e⟩
/-! ### list(..), tuple(..) -/
def dTuple : List PyData → Option PyData
  | [.list xs] => some (.tuple xs)
  | [.tuple xs] => some (.tuple xs)
  | _ => none
theorem cl_tuple [Tb] : CallR X (.type "tuple") (rCl X.K dTuple) := clr_imp call_tuple_of fun vs H Q ⟨F, ds, d, s, r, e, q⟩ => by
  cases r with
  | nil => cases e
  | cons r1 t =>
    cases t with
    | cons _ _ => exact absurd e (by unfold dTuple; intro z; split at z <;> simp_all)
    | nil =>
      cases r1 with
      | lst h z t => cases e; exact ⟨_, _, rfl, .inl ⟨.of (s _ _ h), fun p hp => q _ _ _ (Step.new s hp) (.tup upd_same z (t.mono (same_upd (same_none s hp))))⟩⟩
      | tup h z t => cases e; exact ⟨_, _, rfl, .inr ⟨.of (s _ _ h), q _ F H (.refl s) (.tup h z t)⟩⟩
      | _ => cases e
def dList : List PyData → Option PyData
  | [.list xs] => some (.list xs)
  | [.tuple xs] => some (.list xs)
  | _ => none
theorem cl_listO [Tb] : CallR X (.type "list") (rClO X.K dList) := clr_imp call_list_of fun vs H Q ⟨F, ds, d, s, r, e, q⟩ => by
  cases r with
  | nil => cases e
  | cons r1 t =>
    cases t with
    | cons _ _ => exact absurd e (by unfold dList; intro z; split at z <;> simp_all)
    | nil =>
      cases r1 with
      | lst h z t => cases e; exact ⟨_, _, rfl, .inl (.of (s _ _ h)), fun p hp => q p _ _ _ (Step.hid s hp) hp (same_none s hp) upd_same ⟨z, t⟩⟩
      | tup h z t => cases e; exact ⟨_, _, rfl, .inr (.of (s _ _ h)), fun p hp => q p _ _ _ (Step.hid s hp) hp (same_none s hp) upd_same ⟨z, t⟩⟩
      | _ => cases e
/-! ### int(..) of a number or a truth value; max, min of two numbers -/
def dInt : List PyData → Option PyData
  | [.int i] => some (.int i)
  | [.bool b] => some (.int (if b then 1 else 0))
  | _ => none
def dMax2 : List PyData → Option PyData
  | [.int i, .int j] => some (.int (if j > i then j else i))
  | _ => none
def dMin2 : List PyData → Option PyData
  | [.int i, .int j] => some (.int (if j < i then j else i))
  | _ => none
theorem cl_max2 [Tb] (hc : X.calm = true) : CallR X (.builtin "max") (rCl X.K dMax2) := clr_imp (call_max2 hc) fun vs H Q ⟨F, ds, d, s, r, e, q⟩ => by
  unfold dMax2 at e
  split at e
  · cases e
    cases r with | cons r1 t => cases t with | cons r2 t2 => cases t2; cases r1; cases r2; exact ⟨_, _, rfl, q _ F H (.refl s) (.int _)⟩
  · cases e
theorem cl_min2 [Tb] (hc : X.calm = true) : CallR X (.builtin "min") (rCl X.K dMin2) := clr_imp (call_min2 hc) fun vs H Q ⟨F, ds, d, s, r, e, q⟩ => by
  unfold dMin2 at e
  split at e
  · cases e
    cases r with | cons r1 t => cases t with | cons r2 t2 => cases t2; cases r1; cases r2; exact ⟨_, _, rfl, q _ F H (.refl s) (.int _)⟩
  · cases e
theorem cl_int [Tb] : CallR X (.type "int") (rCl X.K dInt) := clr_imp call_int1 fun vs H Q ⟨F, ds, d, s, r, e, q⟩ => by
  unfold dInt at e
  split at e
  · cases e; cases r with | cons r1 t => cases t; cases r1; exact .inl ⟨_, rfl, q _ F H (.refl s) (.int _)⟩
  · cases e; cases r with | cons r1 t => cases t; cases r1; exact .inr ⟨_, rfl, q _ F H (.refl s) (.int _)⟩
  · cases e
/-! ### sum -/
theorem preSum_take (ns : List Int) : ∀ j, preSum (fun i => ns.getD i 0) j = (ns.take j).sum
  | 0 => by simp [preSum]
  | j + 1 => by
    rw [preSum, preSum_take ns j]
    cases e : ns[j]? with
    | none =>
      have : ns.length ≤ j := List.getElem?_eq_none_iff.mp e
      rw [List.getD_eq_getElem?_getD, e, List.take_of_length_le this, List.take_of_length_le (by omega)]; simp
    | some x => rw [List.take_add_one, e, List.getD_eq_getElem?_getD, e]; simp
theorem vals_int_at : ∀ {ns : List Int} {its : List Value} {i : Nat} {v : Value}, Vals (ns.map V.int) its → its[i]? = some v → ∃ t, v = .int (ns.getD i 0) t
  | [], _, _, _, .nil, h => by simp at h
  | n :: ns, _, 0, v, .cons r _, h => by
    simp at h; subst h
    obtain ⟨t, rfl⟩ := r
    exact ⟨t, rfl⟩
  | n :: ns, _, i + 1, v, .cons _ t, h => by
    obtain ⟨t, e⟩ := vals_int_at (i := i) t (by simpa using h)
    exact ⟨t, by simpa using e⟩
theorem old_push {s : Shared} {h' : Heap} {o : Obj} (hk : ∀ b u, b ∉ [s.heap.objs.size] → (s.heap.push o).get? b = some u → h'.get? b = some u) : ∀ b u, s.heap.get? b = some u → h'.get? b = some u := fun b u e =>
  hk b u (fun hm => by
    have : b = s.heap.objs.size := by simpa using hm
    exact absurd (this ▸ Heap.lt_size e) (Nat.lt_irrefl _)) (Heap.get?_push_of_some _ e)
theorem cr_sumT (hc : X.calm = true) : CallR X (.builtin "sum") (fun vs H Q => ∃ (a : Addr) (ns : List Int), vs = [V.ref a] ∧ SqT X.K H a (ns.map V.int) ∧ Q (.int ns.sum) H) := by
  intro pins s σ H vs us Q I r h
  obtain ⟨a, ns, rfl, hs, q⟩ := h
  obtain ⟨its, rv, ht, _⟩ := I.tuple hs
  rw [Vals.ref1 r]
  have hlt : a < s.heap.objs.size := by obtain ⟨_, e, _⟩ := ht; exact Heap.lt_size e
  refine call_sum_walkG (wpAny_pyIter_tuple (show s.heap.IsTuple a its.toArray from ht) ?_)
  refine ⟨_, _, _, _, _, _, fun i => ns.getD i 0, rfl, Walks.tuple (A := X.A.in1) (I.ok.hd hc) s.heap.objs.size a (Nat.ne_of_lt hlt) its.toArray, ⟨⟨_, Heap.get?_push_size _ rfl, rfl, rfl⟩, ?_⟩, fun b hb => ?_, fun i v hv => vals_int_at rv (by simpa using hv), fun h' tk t' hk => ?_⟩
  · obtain ⟨o, e, c⟩ := ht; exact ⟨o, Heap.get?_push_of_some _ e, c⟩
  · show b < (s.heap.push _).objs.size
    rw [Heap.size_push]
    rcases List.mem_cons.mp hb with rfl | hb
    · exact Nat.lt_succ_self _
    · have : b = a := by simpa using hb
      subst this; exact Nat.lt_succ_of_lt hlt
  · have hl := rv.length
    rw [List.length_map] at hl
    refine ⟨.int _, H, I.kept (old_push hk), ⟨_, rfl⟩, ?_⟩
    rw [preSum_take, List.take_of_length_le (by simp; omega)]; exact q
def dSum : List PyData → Option PyData
  | [.list ds] => (intsD ds).map fun ns => .int ns.sum
  | [.tuple ds] => (intsD ds).map fun ns => .int ns.sum
  | _ => none
theorem cl_sum [Tb] (hc : X.calm = true) : CallR X (.builtin "sum") (rCl X.K dSum) := clr_imp (clr_or (cr_sum hc) (cr_sumT hc)) fun vs H Q ⟨F, ds, d, s, r, e, q⟩ => by
  unfold dSum at e
  split at e
  · rename_i ds
    cases ei : intsD ds with
    | none => rw [ei] at e; cases e
    | some ns =>
      rw [ei] at e; cases e
      cases r with
      | cons r1 t =>
        cases t
        cases r1 with
        | lst h z t =>
          rw [intsD_eq ei] at t
          have := rpl_ints t
          subst this
          exact .inl ⟨_, ns, rfl, .of (s _ _ h), q _ F H (.refl s) (.int _)⟩
  · rename_i ds
    cases ei : intsD ds with
    | none => rw [ei] at e; cases e
    | some ns =>
      rw [ei] at e; cases e
      cases r with
      | cons r1 t =>
        cases t
        cases r1 with
        | tup h z t =>
          rw [intsD_eq ei] at t
          have := rpl_ints t
          subst this
          exact .inr ⟨_, ns, rfl, .of (s _ _ h), q _ F H (.refl s) (.int _)⟩
  · cases e
/-! ### items -/
theorem atI_rp {K : PySem.W.Frag} {F : Hp} {vs : List V} {ds : List PyData} {i : Int} {d : PyData} (r : RpL K F vs ds) (e : atI ds i = some d) : ∃ v, atI vs i = some v ∧ Rp K F v d := by
  unfold atI at e ⊢
  rw [r.length]
  cases ej : ixN ds.length i with
  | none => rw [ej] at e; cases e
  | some j => rw [ej] at e; exact r.get e
def dIx : PyData → PyData → Option PyData
  | .list xs, .int i => atI xs i
  | .tuple xs, .int i => atI xs i
  | .str z, .int i => if z.length ≤ sizeLine then (atI z.cps.toList i).map fun c => .str ⟨#[c]⟩ else none
  | .dict [(.none, .list xs)], .int i => atI xs i
  | _, _ => none
theorem de_ix [Tb] {W : WX} {ph : List Fl} {a b : Expr} {pos : Pos} {ga gb : Rw → Rs PyData} (ha : DE X W ph a ga) (hb : DE X W ph b gb) (hs : PlainIx b := by exact fun _ _ => rfl) : DE X W ph (.Subscript a b pos) (gB dIx ga gb) :=
  pe_imp (pe_ix ix_seq ha hb hs) (op_run (t := fun _ _ _ => True) fun x y H Q ⟨F, d1, d2, d, s, r1, r2, e, q⟩ => by
    cases r1 with
    | lst h z t =>
      cases r2 with
      | int i =>
        obtain ⟨v, e1, rv⟩ := atI_rp t e
        exact .inl ⟨_, _, i, v, rfl, rfl, .of (s _ _ h), e1, q _ F H (.refl s) rv⟩
      | _ => cases e
    | tup h z t =>
      cases r2 with
      | int i =>
        obtain ⟨v, e1, rv⟩ := atI_rp t e
        exact .inr (.inl ⟨_, _, i, v, rfl, rfl, .of (s _ _ h), e1, q _ F H (.refl s) rv⟩)
      | _ => cases e
    | str z =>
      cases r2 with
      | int i =>
        have e : (if z.length ≤ sizeLine then (atI z.cps.toList i).map (fun c => PyData.str ⟨#[c]⟩) else none) = some d := e
        split at e
        · rename_i hz
          cases ec : atI z.cps.toList i with
          | none => rw [ec] at e; cases e
          | some c => rw [ec] at e; cases e; exact .inr (.inr ⟨z, i, c, rfl, rfl, hz, ec, q _ F H (.refl s) (.str _)⟩)
        · cases e
      | _ => cases e
    | @scr a ns h =>
      cases r2 with
      | int i =>
        have e : atI (ns.map PyData.int) i = some d := e
        obtain ⟨v, e1, rv⟩ := atI_rp (F := F) (K := X.K) (RpL.ints ns) e
        exact .inl ⟨_, _, i, v, rfl, rfl, s.seq h, e1, q _ F H (.refl s) rv⟩
      | _ => cases e
    | dct h z t =>
      cases t with
      | nil => cases r2 <;> cases e
      | cons _ _ => cases r2 <;> cases e
    | _ => cases r2 <;> cases e)
end
end PD
/-! PD7: slices, walks, own lists. -/
namespace PD
open PySem L2
section
variable {X : Cx} {W : WX} {C : Ctl} {ph phn : List Fl} {e a b : Expr} {pos : Pos} {ge ga gb : Rw → Rs PyData}
/-! ### slices -/
def rPt [Tb] (K : PySem.W.Frag) (mg : Str → Option Value) (W : WX) (ph : List Fl) (g : Rw → Rs (Option Int)) : TO := fun σ H Q => ∃ F rho, En K ph F H σ rho ∧ Aft mg W σ F H (g rho) fun o _ H' => Q o H'
theorem po_imp {e : Option Expr} {t t' : TO} (h : PO X e t) (hi : ∀ σ H Q, t' σ H Q → t σ H Q) : PO X e t' := ⟨fun pins s σ H Q I q => h.run pins s σ H Q I (hi σ H Q q)⟩
def gPn : Rw → Rs (Option Int) := fun _ => .ok none
def intD : PyData → Option Int
  | .int i => some i
  | _ => none
def gPs (g : Rw → Rs PyData) : Rw → Rs (Option Int) := fun rho => g rho >>= fun d => lift ((intD d).map some)
theorem dp_none [Tb] : PO X none (rPt X.K X.mg W ph gPn) := po_imp po_none fun σ H Q ⟨F, rho, n, q⟩ => q.now n.fh
theorem dp_some [Tb] (h : DE X W ph e ge) : PO X (some e) (rPt X.K X.mg W ph (gPs ge)) := po_imp (po_some h) fun σ H Q ⟨F, rho, n, q⟩ => ⟨F, rho, n, q.bind fun d F1 H1 s1 q1 v r => by
  obtain ⟨o, e, q2⟩ := q1.lift
  cases r <;> cases e
  exact ⟨_, rfl, q2.now s1.fh⟩⟩
def cutD {α : Type} (xs : List α) (lo hi : Option Int) : List α := (xs.drop (HT.sIx xs.length 0 lo)).take (HT.sIx xs.length xs.length hi - HT.sIx xs.length 0 lo)
theorem cut_rp {K : PySem.W.Frag} {F : Hp} {vs : List V} {ds : List PyData} (r : RpL K F vs ds) (lo hi : Option Int) : RpL K F (cutV vs lo hi) (cutD ds lo hi) := by
  unfold cutV cutD
  rw [r.length]
  exact (r.drop _).take _
def dSl (d : PyData) (lo hi : Option Int) : Option PyData := match d with
  | .list xs => some (.list (cutD xs lo hi))
  | .tuple xs => some (.tuple (cutD xs lo hi))
  | .str z => if z.length ≤ sizeLine then some (.str (cutS z lo hi)) else none
  | _ => none
def gSl (ge : Rw → Rs PyData) (gl gh : Rw → Rs (Option Int)) : Rw → Rs PyData := fun rho => ge rho >>= fun d => gl rho >>= fun lo => gh rho >>= fun hi => lift (dSl d lo hi)
theorem sIx_all {n : Nat} {lo hi : Option Int} (h : HT.sIx n 0 lo = 0 ∧ HT.sIx n n hi = n) {α : Type} {xs : List α} (hn : xs.length = n) : cutD xs lo hi = xs := by
  unfold cutD
  rw [hn, h.1, h.2, List.drop_zero, Nat.sub_zero, ← hn, List.take_length]
theorem de_slice [Tb] {lo hi : Option Expr} {gl gh : Rw → Rs (Option Int)} {p2 : Pos} (he : DE X W ph e ge) (hl : PO X lo (rPt X.K X.mg W ph gl)) (hh : PO X hi (rPt X.K X.mg W ph gh)) : DE X W ph (.Subscript e (.Slice lo hi none p2) pos) (gSl ge gl gh) :=
  pe_imp (pe_slice (SlR.or sl_list (SlR.or sl_tupA sl_str)) he hl hh) fun σ H Q ⟨F, rho, n, q⟩ => ⟨F, rho, n, q.bind fun d F1 H1 s1 q1 v r => ⟨F1, rho, n.step s1, q1.bind fun l F2 H2 s2 q2 => ⟨F2, rho, n.step (s1.trans s2), q2.bind fun u F3 H3 s3 q3 => by
    obtain ⟨z, e, q4⟩ := q3.lift
    have r := (r.mono s2.f).mono s3.f
    cases r with
    | lst h hz t => cases e; exact .inl ⟨_, _, rfl, .of (s3.fh _ _ h), fun p hp => q4.ok (Step.new s3.fh hp) _ (.lst upd_same (Nat.le_trans (cutV_length _ _ _) hz) ((cut_rp t l u).mono (same_upd (same_none s3.fh hp))))⟩
    | tup h hz t =>
      cases e
      refine .inr (.inl ⟨_, _, rfl, .of (s3.fh _ _ h), fun hf => ?_, fun _ p hp => q4.ok (Step.new s3.fh hp) _ (.tup upd_same (Nat.le_trans (cutV_length _ _ _) hz) ((cut_rp t l u).mono (same_upd (same_none s3.fh hp))))⟩)
      have := sIx_all (α := PyData) hf t.length.symm
      rw [this] at q4
      exact q4.now s3.fh _ (.tup h hz t)
    | str x =>
      have e : (if x.length ≤ sizeLine then some (PyData.str (cutS x l u)) else none) = some z := e
      split at e
      · rename_i hz; cases e; exact .inr (.inr ⟨x, rfl, hz, q4.now s3.fh _ (.str _)⟩)
      · cases e
    | _ => cases e⟩⟩⟩
/-! ### what is walked -/
theorem pi_or {tg : Expr} {t t' : TI} (h : PI X tg e t) (h' : PI X tg e t') : PI X tg e (fun σ H R => t σ H R ∨ t' σ H R) := ⟨fun pins s σ H R I q => by
  rcases q with q | q
  · exact h.run pins s σ H R I q
  · exact h'.run pins s σ H R I q⟩
/-- the items of a list, of a tuple, the signs of a text -/
def seqD : PyData → Option (List PyData)
  | .list ds => some ds
  | .tuple ds => some ds
  | .str x => if x.length ≤ sizeLine then some (x.cps.toList.map fun c => .str ⟨#[c]⟩) else none
  | _ => none
def gIt (o : PyData → Option (List PyData)) (ge : Rw → Rs PyData) : Rw → Rs (List PyData) := fun rho => ge rho >>= fun d => lift (o d)
theorem its_list [Tb] {K : PySem.W.Frag} {F1 H1 : Hp} {p : Addr} {vs : List V} {ds : List PyData} (s : Same F1 H1) (h : H1 p = some (.lst vs)) (z : vs.length ≤ sizeLine) (t : RpL K F1 vs ds) : Its K (Itl K p) F1 H1 ds := by
  refine ⟨by rw [← t.length]; exact z, fun i d hd => ?_, ⟨_, .of h, by rw [t.length]; exact Nat.le_refl _⟩⟩
  obtain ⟨v, e1, r⟩ := t.get hd
  refine ⟨⟨_, _, .of h, e1⟩, fun x H2 hy => ?_⟩
  obtain ⟨rfl, hx⟩ := hy
  have := hx _ (.of h)
  rw [e1] at this; cases this
  exact ⟨F1, .refl s, r⟩
theorem its_tup [Tb] {K : PySem.W.Frag} {F1 H1 : Hp} {p : Addr} {vs : List V} {ds : List PyData} (s : Same F1 H1) (h : H1 p = some (.tup vs)) (z : vs.length ≤ sizeLine) (t : RpL K F1 vs ds) : Its K (Itt K p) F1 H1 ds := by
  refine ⟨by rw [← t.length]; exact z, fun i d hd => ?_, ⟨_, .of h, by rw [t.length]; exact Nat.le_refl _⟩⟩
  obtain ⟨v, e1, r⟩ := t.get hd
  refine ⟨⟨_, _, .of h, e1⟩, fun x H2 hy => ?_⟩
  obtain ⟨rfl, hx⟩ := hy
  have := hx _ (.of h)
  rw [e1] at this; cases this
  exact ⟨F1, .refl s, r⟩
theorem its_str [Tb] {K : PySem.W.Frag} {F1 H1 : Hp} {x : Str} (s : Same F1 H1) (z : x.length ≤ sizeLine) : Its K (L2.Its x) F1 H1 (x.cps.toList.map fun c => .str ⟨#[c]⟩) := by
  have hl : (x.cps.toList.map fun c => PyData.str ⟨#[c]⟩).length = x.cps.size := by simp
  refine ⟨by rw [hl]; exact z, fun i d hd => ?_, by show x.cps.size ≤ _; rw [hl]; exact Nat.le_refl _⟩
  have hi : i < x.cps.size := by
    have := (List.getElem?_eq_some_iff.mp hd).1
    rw [hl] at this; exact this
  refine ⟨hi, fun v H2 hy => ?_⟩
  obtain ⟨rfl, c, hc, rfl⟩ := hy
  rw [List.getElem?_map] at hd
  have : x.cps.toList[i]? = some c := by simpa using hc
  rw [this] at hd
  cases hd
  exact ⟨F1, .refl s, .str _⟩
theorem di_seq [Tb] {tg : Expr} (he : DE X W ph e ge) : DI X W ph tg e (gIt seqD ge) := pi_imp (pi_or (pi_list he) (pi_or (pi_tup he) (pi_str he))) fun σ H R ⟨F, rho, n, q⟩ => by
  have key : ∀ (Z' : PyData → Hp → Hp → Prop), (∀ d F1 H1, ge rho = .ok d → Step F H F1 H1 → Aft X.mg W σ F1 H1 (lift (seqD d)) (fun ds F' H' => ∀ J, ItF X.K J F' ds → R J H') → Z' d F1 H1) → Aft X.mg W σ F H (ge rho) Z' := fun Z' hz => by
    have q : Aft X.mg W σ F H (ge rho >>= fun d => lift (seqD d)) (fun ds F' H' => ∀ J, ItF X.K J F' ds → R J H') := q
    revert q hz
    generalize ge rho = r
    intro hz q
    cases r with
    | ok d => exact fun F1 H1 s1 => hz d F1 H1 rfl s1 (Aft.step (r := lift (seqD d)) q s1)
    | error er => cases er <;> exact q
  have walk : ∀ {J : It} {ds : List PyData} {F1 H1 : Hp}, Aft X.mg W σ F1 H1 (.ok ds) (fun ds F' H' => ∀ J, ItF X.K J F' ds → R J H') → Same F1 H1 → ItF X.K J F1 ds → R J H1 := fun q s h => q.now s _ h
  cases eg : ge rho with
  | error er => exact .inl ⟨F, rho, n, key _ fun d F1 H1 ed => by rw [eg] at ed; cases ed⟩
  | ok d0 =>
    cases d0 with
    | tuple ds =>
      refine .inr (.inl ⟨F, rho, n, key _ fun d F1 H1 ed s1 q1 v r => ?_⟩)
      rw [eg] at ed; cases ed
      cases r with
      | tup h z t => exact ⟨_, rfl, ⟨_, .of (s1.fh _ _ h)⟩, walk q1 s1.fh fun F2 H2 a b => its_tup b (b _ _ (a _ _ h)) z (t.mono a)⟩
    | str x =>
      refine .inr (.inr ⟨F, rho, n, key _ fun d F1 H1 ed s1 q1 v r => ?_⟩)
      rw [eg] at ed; cases ed
      cases r
      by_cases hz : x.length ≤ sizeLine
      · rw [show seqD (.str x) = some (x.cps.toList.map fun c => .str ⟨#[c]⟩) from if_pos hz] at q1
        exact ⟨x, rfl, walk q1 s1.fh fun F2 H2 a b => its_str b hz⟩
      · rw [show seqD (.str x) = none from if_neg hz] at q1
        exact False.elim q1
    | list ds =>
      refine .inl ⟨F, rho, n, key _ fun d F1 H1 ed s1 q1 v r => ?_⟩
      rw [eg] at ed; cases ed
      cases r with
      | lst h z t => exact ⟨_, rfl, ⟨_, .of (s1.fh _ _ h)⟩, walk q1 s1.fh fun F2 H2 a b => its_list b (b _ _ (a _ _ h)) z (t.mono a)⟩
    | _ => exact .inl ⟨F, rho, n, key _ fun d F1 H1 ed s1 q1 v r => by rw [eg] at ed; cases ed; exact False.elim q1⟩
/-- a comprehension over an own list -/
def ownD : PyData → Option (List PyData)
  | .list ds => some ds
  | _ => none
theorem dih_own [Tb] (i : Nat) {tg : Expr} {x : Str} {pos' : Pos} (h : ph[i]? = some .ow := by rfl) (hN : X.N[i]? = some x := by rfl) (hv : Vis X.env.scope x := by first | exact Or.inl rfl | exact Or.inr (Or.inl rfl) | exact Or.inr (Or.inr rfl))
    (hd : (x == ("__debug__" : Str)) = false := by decide) (hcd : (x == ("__classdict__" : Str)) = false := by decide) : DIh X W ph tg (.Name x pos') (gIt ownD (gV i)) :=
  pi_imp (pi_list (pe_var hN hv hd hcd)) fun σ H R ⟨F, rho, n, q⟩ => by
    obtain ⟨p, o, e, h1, h2, r⟩ := n.ow h
    have q : Aft X.mg W σ F H (lift (ownD (look rho i))) _ := q
    cases ed : look rho i with
    | list ds =>
      rw [ed] at q r
      cases o with
      | lst vs =>
        obtain ⟨z, t⟩ := r
        refine ⟨.ref p, e, p, rfl, ⟨vs, .of h2⟩, ?_⟩
        exact q.now n.fh _ fun F1 H1 a b c => its_list b (c.lst h2) z (t.mono a)
      | _ => exact False.elim r
    | _ => rw [ed] at q; exact False.elim q
/-! ### range -/
def rangeD (lo : Int) (k : Nat) : List PyData := (List.range k).map fun (i : Nat) => PyData.int (lo + i)
theorem its_range [Tb] {K : PySem.W.Frag} {F1 H1 : Hp} (s : Same F1 H1) {lo : Int} {k : Nat} (z : k ≤ sizeLine) : Its K (Itr lo k) F1 H1 (rangeD lo k) := by
  have hl : (rangeD lo k).length = k := by simp [rangeD]
  refine ⟨by rw [hl]; exact z, fun i d hd => ?_, by show k ≤ _; rw [hl]; exact Nat.le_refl _⟩
  have hi : i < k := by
    have := (List.getElem?_eq_some_iff.mp hd).1
    rw [hl] at this; exact this
  refine ⟨hi, fun v H2 hy => ?_⟩
  obtain ⟨rfl, rfl⟩ := hy
  unfold rangeD at hd
  rw [List.getElem?_map, List.getElem?_range hi] at hd
  cases hd
  exact ⟨F1, .refl s, .int _⟩
def rng1 : PyData → Option (List PyData)
  | .int n => if -(2 ^ 62) ≤ n ∧ n < 2 ^ 62 ∧ n.toNat ≤ sizeLine then some (rangeD 0 n.toNat) else none
  | _ => none
theorem di_range1 [Tb] {tg : Expr} {p : Pos} (ha : DE X W ph a ga) (hm : X.mg "range" = none) (hg : Gl X "range" := by rfl) (hs : starEach [a] X.env = [(false, eval a X.env)] := by rfl) (hs2 : starEach [a] X.env = (false, eval a X.env) :: starEach [] X.env := by rfl) :
    DI X W ph tg (.Call (.Name "range" p) [a] [] pos) (gIt rng1 ga) :=
  pi_imp (pi_range1 hg hm (L2.pa_cons ha L2.pa_nil hs2) hs) fun σ H R ⟨F, rho, n, q⟩ => ⟨F, rho, n, q.bind fun d F1 H1 s1 q1 v r => by
    obtain ⟨ds, e, q2⟩ := q1.lift
    cases r with
    | int k =>
      have e : (if -(2 ^ 62) ≤ k ∧ k < 2 ^ 62 ∧ k.toNat ≤ sizeLine then some (rangeD 0 k.toNat) else none) = some ds := e
      split at e
      · rename_i hz; cases e; exact ⟨k, rfl, hz.1, hz.2.1, q2.now s1.fh _ fun F2 H2 _ b => its_range b hz.2.2⟩
      · cases e
    | _ => cases e⟩
def rng2 : PyData → PyData → Option (List PyData)
  | .int m, .int n => if (-(2 ^ 62) ≤ m ∧ m < 2 ^ 62 ∧ -(2 ^ 62) ≤ n ∧ n < 2 ^ 62) ∧ (n - m).toNat ≤ sizeLine then some (rangeD m (n - m).toNat) else none
  | _, _ => none
def gIt2 (o : PyData → PyData → Option (List PyData)) (ga gb : Rw → Rs PyData) : Rw → Rs (List PyData) := fun rho => ga rho >>= fun x => gb rho >>= fun y => lift (o x y)
theorem di_range2 [Tb] {tg : Expr} {p : Pos} (ha : DE X W ph a ga) (hb : DE X W ph b gb) (hm : X.mg "range" = none) (hg : Gl X "range" := by rfl) (hs : starEach [a, b] X.env = [(false, eval a X.env), (false, eval b X.env)] := by rfl) (hs2 : starEach [b] X.env = [(false, eval b X.env)] := by rfl)
    (h1 : starEach [a, b] X.env = (false, eval a X.env) :: starEach [b] X.env := by rfl) (h2 : starEach [b] X.env = (false, eval b X.env) :: starEach [] X.env := by rfl) : DI X W ph tg (.Call (.Name "range" p) [a, b] [] pos) (gIt2 rng2 ga gb) :=
  pi_imp (pi_range2 hg hm (L2.pa_cons ha (L2.pa_cons hb L2.pa_nil h2) h1) hs hs2) fun σ H R ⟨F, rho, n, q⟩ => ⟨F, rho, n, q.bind fun d F1 H1 s1 q1 v r => ⟨F1, rho, n.step s1, q1.bind fun d2 F2 H2 s2 q2 v2 r2 => by
    obtain ⟨ds, e, q3⟩ := q2.lift
    cases r with
    | int k =>
      cases r2 with
      | int l =>
        have e : (if (-(2 ^ 62) ≤ k ∧ k < 2 ^ 62 ∧ -(2 ^ 62) ≤ l ∧ l < 2 ^ 62) ∧ (l - k).toNat ≤ sizeLine then some (rangeD k (l - k).toNat) else none) = some ds := e
        split at e
        · rename_i hz; cases e; exact ⟨k, l, rfl, hz.1, q3.now s2.fh _ fun F3 H3 _ b => its_range b hz.2⟩
        · cases e
      | _ => cases e
    | _ => cases e⟩⟩
/-! ### own lists -/
theorem EnS.mut [Tb] {K : PySem.W.Frag} {F0 H0 F H : Hp} {σ : L2.St} {rho : Rw} {i : Nat} {p : Addr} {o : HO} {d : PyData} (n : EnS K F0 H0 ph F H σ rho) (hi : ph[i]? = some .ow) (hp : σ[i]? = some (some (.ref p))) (r : RepO K F o d) : EnS K F0 H0 ph F (upd H p o) σ (rho.set i d) := by
  have hF : F p = none := by
    obtain ⟨p', o', e, h1, _⟩ := n.en.ow hi
    rw [hp] at e; cases e; exact h1
  have h0 : H0 p = none := n.on i p hi hp
  have tb : TbOk F (upd H p o) := ⟨fun q hq => by
    obtain ⟨t1, t2⟩ := n.en.tb.1 q hq
    refine ⟨t1, tabS_upd t2 fun u e => ?_⟩
    obtain ⟨p', o', e1, _, e3, r'⟩ := n.en.ow hi
    rw [hp] at e1; cases e1
    rw [e3] at e; cases e
    exact r'.nt, tupIn_hid n.en.tb.2 fun xs z => by subst z; cases d <;> exact r⟩
  have sF : Same F (upd H p o) := fun b u z => by rw [upd_ne (ne_of_none z hF)]; exact n.en.fh _ _ z
  have lk : ∀ {j : Nat}, i ≠ j → look (rho.set i d) j = look rho j := fun {j} h => by unfold look; rw [List.getD_eq_getElem?_getD, List.getD_eq_getElem?_getD, List.getElem?_set_ne h]
  have nei : ∀ {j : Nat} {f : Fl}, f ≠ .ow → ph[j]? = some f → i ≠ j := fun {j f} hf h1 z => by subst z; rw [hi] at h1; cases h1; exact hf rfl
  have cwn : CwOk K H0 ph F (upd H p o) σ (rho.set i d) := n.cw.map n.on (Same.refl _) (fun _ _ h => h) (fun _ _ h => h) (fun j k h => ⟨h, lk (nei (by simp) h)⟩) (fun j k h => ⟨h, lk (nei (by simp) h)⟩) (fun _ _ h1 h2 => .inl ⟨h1, h2⟩) fun a u h1 h2 _ h4 => ⟨by rw [upd_ne (h4 i p hi hp)]; exact h1, h2⟩
  refine ⟨⟨sF, n.en.ls, by simpa using n.en.lr, fun j f hj => ?_, n.en.ap, tb⟩, ⟨n.st.f, sF, fun b u z => by rw [upd_ne (ne_of_none z h0)]; exact n.st.h _ _ z, n.st.nw, fun _ => tb⟩, n.on, cwn⟩
  by_cases hij : i = j
  · subst hij
    rw [hi] at hj; cases hj
    have hl : i < rho.length := Nat.lt_of_lt_of_le (List.getElem?_eq_some_iff.mp hi).1 n.en.lr
    exact ⟨_, d, hp, List.getElem?_set_self hl, p, o, rfl, hF, upd_same, r⟩
  · obtain ⟨sv, d', e1, e2, e3⟩ := n.en.sl j f hj
    refine ⟨sv, d', e1, by rw [List.getElem?_set_ne hij]; exact e2, ?_⟩
    cases f with
    | dead => trivial
    | im => exact e3
    | cr k =>
      obtain ⟨ad, _, c⟩ := cwn
      have := (c j k hj).1
      rw [lk hij, look_of e2] at this
      exact ⟨e3.1, _, this⟩
    | cw k =>
      obtain ⟨ad, c, _⟩ := cwn
      have := (c j k hj).1
      rw [lk hij, look_of e2] at this
      exact ⟨e3.1, _, this⟩
    | ow =>
      obtain ⟨q, u, e, q1, q2, q3⟩ := e3
      subst e
      have ne : q ≠ p := fun z => by subst z; exact hij (n.en.ap i j q hi hj hp e1)
      exact ⟨q, u, rfl, q1, by rw [upd_ne ne]; exact q2, q3⟩
def gApp (i : Nat) (ge : Rw → Rs PyData) : Rw → SR := fun rho => match look rho i with
  | .list xs => thenS (ge rho) rho fun d => if xs.length < sizeLine then .nx (rho.set i (.list (xs ++ [d]))) else .er .bad rho
  | _ => .er .bad rho
theorem own_list [Tb] {K : PySem.W.Frag} {F H : Hp} {σ : L2.St} {rho : Rw} {i : Nat} {xs : List PyData} (n : En K ph F H σ rho) (h : ph[i]? = some .ow) (e : look rho i = .list xs) : ∃ p vs, σ[i]? = some (some (.ref p)) ∧ F p = none ∧ H p = some (.lst vs) ∧ vs.length ≤ sizeLine ∧ RpL K F vs xs := by
  obtain ⟨p, o, e1, h1, h2, r⟩ := n.ow h
  rw [e] at r
  cases o with
  | lst vs => exact ⟨p, vs, e1, h1, h2, r.1, r.2⟩
  | _ => exact False.elim r
theorem ds_append [Tb] (i : Nat) {x : Str} {p1 p2 cpos : Pos} (he : DE X W ph e ge) (h : ph[i]? = some .ow := by rfl) (hN : X.N[i]? = some x := by rfl) (hv : Vis X.env.scope x := by first | exact Or.inl rfl | exact Or.inr (Or.inl rfl) | exact Or.inr (Or.inr rfl)) (w : wk ph C.e = true := by rfl)
    (hd : (x == ("__debug__" : Str)) = false := by decide) (hcd : (x == ("__classdict__" : Str)) = false := by decide) (hbase : attributeBase (.Name x p1) "append" X.env (eval (.Name x p1) X.env) = eval (.Name x p1) X.env := by rfl)
    (hfew : ((backTo cpos (starEach [e] X.env)).all (fun x => !x.1) && (backToKw cpos (keywordEach [] X.env)).all (fun x => x.1.isSome) && decide ([e].length + ([] : List Keyword).length + (if ([] : List Keyword).isEmpty then 0 else 1) < 30)) = true := by rfl)
    (hline : (p2.endLine == cpos.line) = true := by rfl) (hs : starEach [e] X.env = (false, eval e X.env) :: starEach [] X.env := by rfl) (hplain : (backTo cpos (starEach [] X.env)).any (·.1) = false := by rfl)
    (hsw : swapsWith (.Call (.Attribute (.Name x p1) "append" p2) [e] [] cpos) none pos.line X.env = pure false := by rfl) : DS X W C ph ph (.Expr (.Call (.Attribute (.Name x p1) "append" p2) [e] [] cpos) pos) (gApp i ge) :=
  ps_imp (ps_expr (pe_bm PySem.F.plainAttrs_list PySem.F.slot_list_append PySem.F.type_list_append mt_append (pe_var hN hv hd hcd) (L2.pa_cons he L2.pa_nil hs) hbase hfew hline hs hplain) hsw) fun D σ H ⟨F0, H0, F, rho, n, q⟩ => by
    unfold gApp at q
    cases ed : look rho i with
    | list xs =>
      rw [ed] at q
      have q : SAft X.K X.mg W C F0 H0 ph D (thenS (ge rho) rho fun d => if xs.length < sizeLine then .nx (rho.set i (.list (xs ++ [d]))) else .er .bad rho) := q
      obtain ⟨p, vs, e1, h1, h2, z, t⟩ := own_list n.en h ed
      refine ⟨.ref p, e1, .inl ⟨rfl, vs, .of h2⟩, F, rho, n.en, aft_then n w q fun d F1 H1 s1 q1 v rv => ?_⟩
      have h3 := s1.h.lst h2
      split at q1
      · rename_i hz
        have hz' : vs.length < sizeLine := by rw [t.length]; exact hz
        refine ⟨p, vs, v, rfl, rfl, h3, hz', ?_⟩
        exact q1 σ F1 _ ((n.step s1).mut h e1 ⟨by simp; omega, (t.mono s1.f).append (.one rv)⟩)
      · exact False.elim q1
    | _ => rw [ed] at q; exact False.elim q
def gExt (i : Nat) (ge : Rw → Rs PyData) : Rw → SR := fun rho => match look rho i with
  | .list xs => thenS (ge rho) rho fun d => match d with
    | .list ys => if xs.length + ys.length ≤ sizeLine then .nx (rho.set i (.list (xs ++ ys))) else .er .bad rho
    | _ => .er .bad rho
  | _ => .er .bad rho
theorem ds_extend [Tb] (i : Nat) {x : Str} {p1 p2 cpos : Pos} (he : DE X W ph e ge) (h : ph[i]? = some .ow := by rfl) (hN : X.N[i]? = some x := by rfl) (hv : Vis X.env.scope x := by first | exact Or.inl rfl | exact Or.inr (Or.inl rfl) | exact Or.inr (Or.inr rfl)) (w : wk ph C.e = true := by rfl)
    (hd : (x == ("__debug__" : Str)) = false := by decide) (hcd : (x == ("__classdict__" : Str)) = false := by decide) (hbase : attributeBase (.Name x p1) "extend" X.env (eval (.Name x p1) X.env) = eval (.Name x p1) X.env := by rfl)
    (hfew : ((backTo cpos (starEach [e] X.env)).all (fun x => !x.1) && (backToKw cpos (keywordEach [] X.env)).all (fun x => x.1.isSome) && decide ([e].length + ([] : List Keyword).length + (if ([] : List Keyword).isEmpty then 0 else 1) < 30)) = true := by rfl)
    (hline : (p2.endLine == cpos.line) = true := by rfl) (hs : starEach [e] X.env = (false, eval e X.env) :: starEach [] X.env := by rfl) (hplain : (backTo cpos (starEach [] X.env)).any (·.1) = false := by rfl)
    (hsw : swapsWith (.Call (.Attribute (.Name x p1) "extend" p2) [e] [] cpos) none pos.line X.env = pure false := by rfl) : DS X W C ph ph (.Expr (.Call (.Attribute (.Name x p1) "extend" p2) [e] [] cpos) pos) (gExt i ge) :=
  ps_imp (ps_expr (pe_bm PySem.F.plainAttrs_list PySem.F.slot_list_extend PySem.F.type_list_extend mt_extend (pe_var hN hv hd hcd) (L2.pa_cons he L2.pa_nil hs) hbase hfew hline hs hplain) hsw) fun D σ H ⟨F0, H0, F, rho, n, q⟩ => by
    unfold gExt at q
    cases ed : look rho i with
    | list xs =>
      rw [ed] at q
      have q : SAft X.K X.mg W C F0 H0 ph D (thenS (ge rho) rho fun d => match d with
        | .list ys => if xs.length + ys.length ≤ sizeLine then .nx (rho.set i (.list (xs ++ ys))) else .er .bad rho
        | _ => .er .bad rho) := q
      obtain ⟨p, vs, e1, h1, h2, z, t⟩ := own_list n.en h ed
      refine ⟨.ref p, e1, .inl ⟨rfl, vs, .of h2⟩, F, rho, n.en, aft_then n w q fun d F1 H1 s1 q1 v rv => ?_⟩
      have h3 := s1.h.lst h2
      cases rv with
      | @lst b ws ys hb zb tb =>
        have q1 : SAft X.K X.mg W C F0 H0 ph D (if xs.length + ys.length ≤ sizeLine then .nx (rho.set i (.list (xs ++ ys))) else .er .bad rho) := q1
        split at q1
        · rename_i hz
          have hz' : vs.length + ws.length ≤ sizeLine := by rw [t.length, tb.length]; exact hz
          refine ⟨p, b, vs, ws, rfl, rfl, h3, s1.fh _ _ hb, hz', ?_⟩
          exact q1 σ F1 _ ((n.step s1).mut h e1 ⟨by simp; omega, (t.mono s1.f).append tb⟩)
        · exact False.elim q1
      | _ => exact False.elim q1
    | _ => rw [ed] at q; exact False.elim q
/-- xs[k] = e -/
def gPutL (i : Nat) (gk ge : Rw → Rs PyData) : Rw → SR := fun rho => thenS (ge rho) rho fun d => thenS (gk rho) rho fun k => match look rho i, k with
  | .list xs, .int k => (match ixN xs.length k with
    | some j => .nx (rho.set i (.list (xs.set j d)))
    | none => .er .bad rho)
  | _, _ => .er .bad rho
theorem ds_putL [Tb] (i : Nat) {x : Str} {k : Expr} {gk : Rw → Rs PyData} {p1 p2 : Pos} (hk : DE X W ph k gk) (he : DE X W ph e ge) (h : ph[i]? = some .ow := by rfl) (hN : X.N[i]? = some x := by rfl) (hv : Vis X.env.scope x := by first | exact Or.inl rfl | exact Or.inr (Or.inl rfl) | exact Or.inr (Or.inr rfl)) (w : wk ph C.e = true := by rfl)
    (hd : (x == ("__debug__" : Str)) = false := by decide) (hcd : (x == ("__classdict__" : Str)) = false := by decide) (ha : ∀ v, assign (.Subscript (.Name x p1) k p2) X.env v = (do
      let ov ← holding [v] (eval (.Name x p1) X.env)
      let iv ← holding [v, ov] (eval k X.env)
      standAt p2
      holding [v, ov, iv] (setItem ov iv v)
      release [v, ov, iv] []) := by intro _; rfl) (hs : swapsWithSole [.Subscript (.Name x p1) k p2] e pos.line X.env = pure false := by rfl) (hw : swappedStores [.Subscript (.Name x p1) k p2] e X.env = pure none := by rfl)
    (h1 : (assignEach [.Subscript (.Name x p1) k p2] X.env).map (·.2) = [assign (.Subscript (.Name x p1) k p2) X.env] := by rfl) : DS X W C ph ph (.Assign [.Subscript (.Name x p1) k p2] e pos) (gPutL i gk ge) :=
  ps_imp (ps_asg he (pg_sub (pe_var hN hv hd hcd) hk set_list ha) hs hw h1) fun D σ H ⟨F0, H0, F, rho, n, q⟩ => ⟨F, rho, n.en, aft_then n w q fun d F1 H1 s1 q1 v rv => by
    obtain ⟨p, o, e1, f1, h2, r⟩ := n.en.ow h
    refine ⟨.ref p, e1, F1, rho, (n.step s1).en, aft_then (n.step s1) w q1 fun kd F2 H2 s2 q2 kv rk => ?_⟩
    have n2 := (n.step s1).step s2
    cases ed : look rho i with
    | list xs =>
      obtain ⟨p', vs, e1', f', h2', z, t⟩ := own_list n2.en h ed
      rw [e1] at e1'; cases e1'
      cases rk with
      | int kk =>
        have q2 : SAft X.K X.mg W C F0 H0 ph D (match look rho i, PyData.int kk with
          | .list xs, .int k => (match ixN xs.length k with
            | some j => .nx (rho.set i (.list (xs.set j d)))
            | none => .er .bad rho)
          | _, _ => .er .bad rho) := q2
        rw [ed] at q2
        cases ej : ixN xs.length kk with
        | none => simp only [ej] at q2; exact False.elim q2
        | some j =>
          simp only [ej] at q2
          refine ⟨p, vs, kk, j, rfl, rfl, h2', by rw [t.length]; exact ej, ?_⟩
          exact q2 σ F2 _ (n2.mut h e1 ⟨by simpa using z, t.set (rv.mono s2.f) j⟩)
      | _ => rw [ed] at q2; exact False.elim q2
    | _ => rw [ed] at q2; cases kd <;> exact False.elim q2⟩
end
end PD
/-! PD8: raise, try. -/
namespace PD
open PySem L2
abbrev veB : List Value := [.type "ValueError", .type "Exception", .type "BaseException", .type "object"]
/-- an own exception class -/
structure ExcT (K : PySem.W.Frag) (mg : Str → Option Value) (x : Str) (C : Addr) : Prop where
  g : mg x = some (.ref C)
  q : PySem.W.excIn K C veB "ValueError.__new__" = true
  k : PySem.W.keepIn K (.ref C) = true
  b : PySem.W.subIn K (.ref C) (.type "BaseException") = some true
  t : PySem.W.typeIn K (.ref C) = some (.type "type")
/-- exceptions of the classes xs are just what the clauses name -/
def ExcAll (K : PySem.W.Frag) (mg : Str → Option Value) (xs : List Str) : Prop := ∀ x ∈ xs, ∀ y ∈ xs, PySem.W.exmOne K (clsOf mg x) (clsOf mg y) = some (decide (x = y))
section
variable {X : Cx} {W : WX} {C : Ctl} {ph phn phe : List Fl} {pos : Pos}
def gRaise (x : Str) : Rw → SR := fun rho => .er (.exc x) rho
theorem ds_raise [Tb] {x m : Str} {A : Addr} {j : Nat} {p p2 pos2 : Pos} (hc : X.calm = true) (tk : Takes X W) (T : ExcT X.K X.mg x A) (hg : Gl X x := by rfl) (w : wk ph C.e = true := by rfl) (hdb : (x == ("__debug__" : Str)) = false := by decide) :
    DS X W C ph phn (.Raise (some (.Call (.Name x p) [.Constant (.str m) j p2] [] pos)) none pos2) (gRaise x) :=
  ps_imp (ps_raise hc tk (pmk_own PySem.F.excBase_ValueError T.q T.g T.k (raises_own T.b T.t) hg hdb)) fun D σ H ⟨F0, H0, F, rho, n, q⟩ => by
    obtain ⟨F', _, n'⟩ := n.weak w
    have := q σ F' H n'
    rwa [show clsOf X.mg x = .ref A by unfold clsOf; rw [T.g]; rfl] at this
/-- a clause's suite raises nothing -/
def noX : SR → SR
  | .er _ r => .er .bad r
  | r => r
def handD (x : Str) (rho : Rw) : List (Str × (Rw → SR)) → SR
  | [] => .er (.exc x) rho
  | (n, h) :: r => if x = n then noX (h rho) else handD x rho r
def gTry (xs : List Str) (gb : Rw → SR) (hs : List (Str × (Rw → SR))) : Rw → SR := fun rho => match gb rho with
  | .er (.exc x) r => if x ∈ xs then handD x r hs else .er .bad r
  | .er .bad r => .er .bad r
  | .nx r => .nx r
  | .rt d => .rt d
  | .bk r => .bk r
  | .ct r => .ct r
abbrev clD [Tb] (X : Cx) (C : Ctl) (phe phn : List Fl) (hs : List (Str × (Rw → SR))) : List (Value × (Addr → Value → Option Addr → TS)) := hs.map fun h => (clsOf X.mg h.1, fun _ _ _ => rS X.K X.mg (fun _ _ _ _ => False) C phe phn h.2)
theorem dh_nil [Tb] : HdsOk X [] (clD X C phe phn []) := .nil
theorem dh_cons [Tb] {x : Str} {A : Addr} {b0 : Stmt} {suite : List Stmt} {np pos' : Pos} {hds : List ExceptHandler} {gh : Rw → SR} {hs : List (Str × (Rw → SR))} (hm : X.mg x = some (.ref A))
    (hsu : ∀ (a : Addr) (oe : Obj) (pn : List (Addr × Obj)), DB (X.suite a ((a, oe) :: pn)) (fun _ _ _ _ => False) C phe phn (b0 :: suite) gh) (r : HdsOk X hds (clD X C phe phn hs)) (hg : Gl X x := by rfl) (hdb : (x == ("__debug__" : Str)) = false := by decide) :
    HdsOk X (.ExceptHandler (some (.Name x np)) none (b0 :: suite) pos' :: hds) (clD X C phe phn ((x, gh) :: hs)) :=
  .cons ⟨hg, hdb, .inl (by show X.mg x = some (clsOf X.mg x); unfold clsOf; rw [hm]; rfl)⟩ (fun a oe cls d pn _ _ => hsu a oe pn) r
theorem saft_noX [Tb] {K : PySem.W.Frag} {mg : Str → Option Value} {F0 H0 : Hp} {D : Ends} {W' : WX} : ∀ {r : SR}, SAft K mg W C F0 H0 phn D (noX r) → SAft K mg W' C F0 H0 phn D r
  | .nx _, q => q
  | .rt _, q => q
  | .bk _, q => q
  | .ct _, q => q
  | .er (.exc _) _, q => False.elim q
  | .er .bad _, q => q
theorem hand_w [Tb] {xs : List Str} {x : Str} {D : Ends} {F0 H0 F1 H1 : Hp} {σ1 : L2.St} {r : Rw} (EA : ExcAll X.K X.mg xs) (hx : x ∈ xs) (w : wk phe C.e = true) (n1 : EnS X.K F0 H0 phe F1 H1 σ1 r) : ∀ hs : List (Str × (Rw → SR)), (∀ h ∈ hs, h.1 ∈ xs) →
    SAft X.K X.mg W C F0 H0 phn D (handD x r hs) → wMany X.K W D (clD X C phe phn hs) (clsOf X.mg x) none σ1 H1
  | [], _, q => by
    obtain ⟨F2, _, n2⟩ := n1.weak w
    exact q σ1 F2 H1 n2
  | (nm, gh) :: hs, hn, q => by
    have q : SAft X.K X.mg W C F0 H0 phn D (if x = nm then noX (gh r) else handD x r hs) := q
    refine ⟨decide (x = nm), EA x hx nm (hn _ (List.mem_cons_self)), fun hb a ha => ?_, fun hb => ?_⟩
    · rw [if_pos (of_decide_eq_true hb)] at q
      exact ⟨F0, H0, F1, r, n1, saft_noX q⟩
    · rw [if_neg (of_decide_eq_false hb)] at q
      exact hand_w EA hx w n1 hs (fun h hm => hn h (List.mem_cons_of_mem _ hm)) q
theorem ds_try [Tb] {xs : List Str} {body : List Stmt} {h0 : ExceptHandler} {hds : List ExceptHandler} {gb : Rw → SR} {hs : List (Str × (Rw → SR))} (EA : ExcAll X.K X.mg xs) (tk : Takes X W)
    (hb : ∀ (W' : WX) (pn : List (Addr × Obj)) (xe : Value → Shared → Prop), Takes (X.tr pn xe) W' → DB (X.tr pn xe) W' ⟨C.b, C.c, phe, C.r⟩ ph phn body gb)
    (hh : HdsOk X (h0 :: hds) (clD X C phe phn hs)) (hn : ∀ h ∈ hs, h.1 ∈ xs) (w : wk phe C.e = true := by rfl) (hst : X.stack = X.env :: X.outer := by rfl) (hf : X.env.frame = some X.env.locals := by rfl) :
    DS X W C ph phn (.Try body (h0 :: hds) [] [] pos) (gTry xs gb hs) :=
  ps_imp (ps_try_many (tb := fun W' => rS X.K X.mg W' ⟨C.b, C.c, phe, C.r⟩ ph phn gb) hst hf tk (fun W' pn xe t _ => hb W' pn xe t) hh) fun D σ H ⟨F0, H0, F, rho, n, q⟩ => ⟨F0, H0, F, rho, n, by
    unfold gTry at q
    cases eg : gb rho with
    | nx r => rw [eg] at q; exact q
    | rt d => rw [eg] at q; exact q
    | bk r => rw [eg] at q; exact q
    | ct r => rw [eg] at q; exact q
    | er er r =>
      rw [eg] at q
      cases er with
      | bad => exact q
      | exc x =>
        have q : SAft X.K X.mg W C F0 H0 phn D (if x ∈ xs then handD x r hs else .er .bad r) := q
        split at q
        · rename_i hx
          exact fun σ1 F1 H1 n1 => hand_w EA hx w n1 hs hn q
        · exact False.elim q⟩
/-- x += e for numbers -/
def gAug (i : Nat) (o : PyData → PyData → Option PyData) (ge : Rw → Rs PyData) : Rw → SR := fun rho => thenS (ge rho) rho fun d => match o (look rho i) d with
  | some z => .nx (rho.set i z)
  | none => .er .bad rho
theorem ds_augI [Tb] (i : Nat) {x : Str} {e : Expr} {ge : Rw → Rs PyData} {pos' : Pos} (hN : X.N.Nodup) (he : DE X W ph e ge) (h : ph[i]? = some .im := by rfl) (hi : X.N[i]? = some x := by rfl) (hx : Loc X.env.scope x := by first | exact Or.inl rfl | exact Or.inr rfl) (w : wk ph C.e = true := by rfl)
    (hf : X.fn x = true ∨ X.env.scope.names.lookup x = some .local := by first | exact .inl rfl | exact .inr rfl) : DS X W C ph (ph.set i .im) (.AugAssign (.Name x pos') .Add e pos) (gAug i (d2I yes2 fun i j => .int (i + j)) ge) :=
  ps_imp (ps_aug hN hi hx he ip_add hf) fun D σ H ⟨F0, H0, F, rho, n, q⟩ => by
    obtain ⟨v, e1, r⟩ := n.en.im h
    refine ⟨v, e1, F, rho, n.en, aft_then n w q fun d F1 H1 s1 q1 u ru => ?_⟩
    cases ed : d2I yes2 (fun i j => .int (i + j)) (look rho i) d with
    | none => rw [ed] at q1; exact False.elim q1
    | some z =>
      rw [ed] at q1
      obtain ⟨a, b, rfl, rfl, _, _, _, rfl⟩ := d2I_of (r.mono s1.f) ru ed
      exact ⟨a, b, rfl, rfl, q1 _ F1 H1 ((n.step s1).setIm i (.int _))⟩
end
end PD
/-! PD9: more operators and built-ins by data. -/
namespace PD
open PySem L2
section
variable {X : Cx}
/-! ### in -/
def flatD : PyData → Bool
  | .none => true
  | .bool _ => true
  | .int _ => true
  | .str _ => true
  | _ => false
theorem flat_of {K : PySem.W.Frag} {F : Hp} {v : V} {d : PyData} (r : Rp K F v d) (h : flatD d = true) : flatV v = true := by cases r <;> (try rfl) <;> (simp [flatD] at h)
theorem flats_of {K : PySem.W.Frag} {F : Hp} : ∀ {vs : List V} {ds : List PyData}, RpL K F vs ds → ds.all flatD = true → vs.all flatV = true
  | _, _, .nil, _ => rfl
  | _, _, .cons h t, e => by
    simp only [List.all_cons, Bool.and_eq_true] at e ⊢
    exact ⟨flat_of h e.1, flats_of t e.2⟩
theorem eqv_flat {K : PySem.W.Frag} {F : Hp} {v u : V} {d e : PyData} (r : Rp K F v d) (q : Rp K F u e) (h : flatD d = true) (h' : flatD e = true) : eqV v u = PyData.eqv d e := by
  cases r <;> (try (simp [flatD] at h; done)) <;> cases q <;> (try (simp [flatD] at h'; done)) <;> simp only [eqV, PyData.eqv]
theorem inV_flat {K : PySem.W.Frag} {F : Hp} {u : V} {e : PyData} (q : Rp K F u e) (h' : flatD e = true) : ∀ {vs : List V} {ds : List PyData}, RpL K F vs ds → ds.all flatD = true → inV u vs = ds.any fun z => PyData.eqv z e
  | _, _, .nil, _ => rfl
  | _, _, .cons h t, f => by
    simp only [List.all_cons, Bool.and_eq_true] at f
    show (eqV _ u || inV u _) = (PyData.eqv _ e || _)
    rw [eqv_flat h q f.1 h', inV_flat q h' t f.2]
def dIn (neg : Bool) : PyData → PyData → Option PyData
  | x, .list ds => if (SeqAt.shaped x && SeqAt.shaped (.list ds)) = true then some (.bool ((ds.any fun z => PyData.eqv z x) != neg)) else none
  | x, .tuple ds => if (flatD x && ds.all flatD) = true then some (.bool ((ds.any fun z => PyData.eqv z x) != neg)) else none
  | .str x, .str z => match x.cps.toList with
    | [c] => some (.bool (decide (c ∈ z.cps.toList) != neg))
    | _ => none
  | _, _ => none
theorem str_one {x : Str} {c : Nat} (h : x.cps.toList = [c]) : x = ⟨#[c]⟩ := by
  obtain ⟨⟨l⟩⟩ := x
  simp at h
  subst h; rfl
theorem op_inP [Tb] (hu : X.A.units + 65 < cLine) : OpR X (compareOp .In) (rOp X.K (dIn false)) := opr_imp (OpR.or (op_inD hu) (OpR.or op_in_seq op_in_sign)) fun x y H Q ⟨F, d1, d2, d, s, r1, r2, e, q⟩ => by
  cases r2 with
  | @lst b ys es h2 z2 t2 =>
    have e : (if (SeqAt.shaped d1 && SeqAt.shaped (.list es)) = true then some (PyData.bool ((es.any fun z => PyData.eqv z d1) != false)) else none) = some d := by cases d1 <;> exact e
    split at e
    · rename_i h
      cases e
      rw [Bool.and_eq_true] at h
      refine .inl ⟨d1, es, Rp.dp s d1 (SeqAt.canLay_of_shaped h.1) r1, Rp.dp s _ (SeqAt.canLay_of_shaped h.2) (.lst h2 z2 t2), h.1, h.2, ?_⟩
      have := q _ F H (.refl s) (.bl _)
      rwa [Bool.bne_false] at this
    · cases e
  | @tup b ys es h2 z2 t2 =>
    have e : (if (flatD d1 && es.all flatD) = true then some (PyData.bool ((es.any fun z => PyData.eqv z d1) != false)) else none) = some d := by cases d1 <;> exact e
    split at e
    · rename_i h
      cases e
      rw [Bool.and_eq_true] at h
      refine .inr (.inl ⟨b, ys, rfl, .inr (.of (s _ _ h2)), flat_of r1 h.1, flats_of t2 h.2, ?_⟩)
      have := q _ F H (.refl s) (.bl _)
      rw [Bool.bne_false, ← inV_flat r1 h.1 t2 h.2] at this
      exact this
    · cases e
  | str z =>
    cases r1 with
    | str a =>
      have e : (match a.cps.toList with | [c] => some (PyData.bool (decide (c ∈ z.cps.toList) != false)) | _ => none) = some d := e
      split at e
      · rename_i c hc
        cases e
        have := str_one hc
        subst this
        refine .inr (.inr ⟨c, z, rfl, rfl, ?_⟩)
        have := q _ F H (.refl s) (.bl _)
        rwa [Bool.bne_false] at this
      · cases e
    | _ => cases e
  | _ => cases r1 <;> cases e
theorem op_notInP [Tb] (hu : X.A.units + 65 < cLine) : OpR X (compareOp .NotIn) (rOp X.K (dIn true)) := opr_imp (OpR.or (op_notInD hu) (OpR.or op_notIn_seq op_notIn_sign)) fun x y H Q ⟨F, d1, d2, d, s, r1, r2, e, q⟩ => by
  cases r2 with
  | @lst b ys es h2 z2 t2 =>
    have e : (if (SeqAt.shaped d1 && SeqAt.shaped (.list es)) = true then some (PyData.bool ((es.any fun z => PyData.eqv z d1) != true)) else none) = some d := by cases d1 <;> exact e
    split at e
    · rename_i h
      cases e
      rw [Bool.and_eq_true] at h
      refine .inl ⟨d1, es, Rp.dp s d1 (SeqAt.canLay_of_shaped h.1) r1, Rp.dp s _ (SeqAt.canLay_of_shaped h.2) (.lst h2 z2 t2), h.1, h.2, ?_⟩
      have := q _ F H (.refl s) (.bl _)
      rwa [Bool.bne_true] at this
    · cases e
  | @tup b ys es h2 z2 t2 =>
    have e : (if (flatD d1 && es.all flatD) = true then some (PyData.bool ((es.any fun z => PyData.eqv z d1) != true)) else none) = some d := by cases d1 <;> exact e
    split at e
    · rename_i h
      cases e
      rw [Bool.and_eq_true] at h
      refine .inr (.inl ⟨b, ys, rfl, .inr (.of (s _ _ h2)), flat_of r1 h.1, flats_of t2 h.2, ?_⟩)
      have := q _ F H (.refl s) (.bl _)
      rw [Bool.bne_true, ← inV_flat r1 h.1 t2 h.2] at this
      exact this
    · cases e
  | str z =>
    cases r1 with
    | str a =>
      have e : (match a.cps.toList with | [c] => some (PyData.bool (decide (c ∈ z.cps.toList) != true)) | _ => none) = some d := e
      split at e
      · rename_i c hc
        cases e
        have := str_one hc
        subst this
        refine .inr (.inr ⟨c, z, rfl, rfl, ?_⟩)
        have := q _ F H (.refl s) (.bl _)
        rwa [Bool.bne_true] at this
      · cases e
    | _ => cases e
  | _ => cases r1 <;> cases e
/-! ### tuple * number -/
theorem tup_mul0 (l : Addr) (items : Array Value) (n : Nat) (dd : Option Addr) (sl : Array (Option Value)) (x : Int) (u : Tok) (c0 : (decide (x < -(2 ^ 63)) || decide (x ≥ 2 ^ 63)) = false) (c1 : (items.isEmpty || x == 1) = false) (c2 : (decide (x ≤ 0) || items.isEmpty) = true) :
    Meets (Builtin.«tuple.__mul__» ⟨[.ref l, .int x u], []⟩) (fun _ R s => s.heap.get? l = some { cls := .type "tuple", dict := dd, data := .seq items n, slots := sl } ∧
      R (.ok (.ret (Value.ref s.heap.objs.size))) { s with heap := s.heap.push { cls := Value.type "tuple", data := Data.seq #[] }, toks := s.toks }) :=
  .of_wp fun prog w A R s h => by
    obtain ⟨hp, g, d, tk, os⟩ := s
    obtain ⟨hl, h⟩ := h
    have f1 := AutoSeq1.idx_int
    wp_walk using wpAny_loadPart' hl
    refine wpAny_ite_false (decide_eq_false (by rw [c0]; exact Bool.false_ne_true)) ?_
    wp_walk using wpAny_loadPart' hl
    exact ⟨_, rfl, h⟩
theorem tup_mul1 (l : Addr) (items : Array Value) (n : Nat) (dd : Option Addr) (sl : Array (Option Value)) (x : Int) (u : Tok) (c0 : (decide (x < -(2 ^ 63)) || decide (x ≥ 2 ^ 63)) = false) (c1 : (items.isEmpty || x == 1) = true) :
    Meets (Builtin.«tuple.__mul__» ⟨[.ref l, .int x u], []⟩) (fun _ R s => s.heap.get? l = some { cls := .type "tuple", dict := dd, data := .seq items n, slots := sl } ∧
      R (.ok (.ret (Value.ref l))) s) :=
  .of_wp fun prog w A R s h => by
    obtain ⟨hp, g, d, tk, os⟩ := s
    obtain ⟨hl, h⟩ := h
    have f1 := AutoSeq1.idx_int
    wp_walk using wpAny_loadPart' hl
    refine wpAny_ite_false (decide_eq_false (by rw [c0]; exact Bool.false_ne_true)) ?_
    wp_walk using wpAny_loadPart' hl
    exact ⟨_, rfl, h⟩
open PyProof.Rows in
theorem op_rep1 : OpR X (binaryOp .Mult) (fun x y H Q => ∃ l k xs, x = .ref l ∧ y = .int k ∧ SqT X.K H l xs ∧ (xs = [] ∨ k = 1) ∧ -1000 ≤ k ∧ k ≤ 1000 ∧ Q (.ref l) H) := by
  intro pins s σ H x y v u Q I rx ry h
  obtain ⟨l, k, xs, rfl, rfl, hT, hc1, h1, h2, q⟩ := h
  cases rx
  obtain ⟨t, rfl⟩ := ry
  obtain ⟨its, r, ⟨⟨cls, dd, data, sl⟩, ho, hc, n, hd⟩, hs⟩ := I.tuple hT
  simp only at hc hd
  subst hc hd
  have c0 : (decide (k < -(2 ^ 63)) || decide (k ≥ 2 ^ 63)) = false := by
    rw [decide_eq_false (by omega), decide_eq_false (by omega)]; rfl
  have c1 : (its.toArray.isEmpty || k == 1) = true := by
    rcases hc1 with e | e
    · subst e; cases r; rfl
    · subst e; simp
  exact wpAny_binaryOp_repeat_ref (T := "tuple") (U := "int") (by decide) ⟨_, ho, rfl⟩ (fun s' => typeIs_int s' k t) noFill_tuple_mul F.fills_int_mul F.slot_int_rmul repeat_tuple F.slot_int_index.lookup
    (call_meets F.slot_int_rmul (typeIs_int s k t) F.entry_int_rmul (F.args_int_rmul_2 _ _) (int_rmul_tuple k t l its.toArray n dd sl)
      ⟨ho, rfl, ⟨_, ho, rfl⟩, call_meets F.slot_tuple_mul ⟨_, ho, rfl⟩ F.entry_tuple_mul (F.args_tuple_mul_2 _ _) (tup_mul1 l its.toArray n dd sl k t c0 c1) ⟨ho, .ref l, H, I, rfl, q⟩⟩)
open PyProof.Rows in
theorem op_rep0 : OpR X (binaryOp .Mult) (fun x y H Q => ∃ l k xs, x = .ref l ∧ y = .int k ∧ SqT X.K H l xs ∧ xs ≠ [] ∧ k ≤ 0 ∧ -1000 ≤ k ∧ ∀ p, H p = none → Q (.ref p) (upd H p (.tup []))) := by
  intro pins s σ H x y v u Q I rx ry h
  obtain ⟨l, k, xs, rfl, rfl, hT, hne, h1, h2, q⟩ := h
  cases rx
  obtain ⟨t, rfl⟩ := ry
  obtain ⟨its, r, ⟨⟨cls, dd, data, sl⟩, ho, hc, n, hd⟩, hs⟩ := I.tuple hT
  simp only at hc hd
  subst hc hd
  have c0 : (decide (k < -(2 ^ 63)) || decide (k ≥ 2 ^ 63)) = false := by
    rw [decide_eq_false (by omega), decide_eq_false (by omega)]; rfl
  have hi : its.toArray.isEmpty = false := by
    cases r with
    | nil => exact absurd rfl hne
    | cons _ _ => rfl
  have c1 : (its.toArray.isEmpty || k == 1) = false := by
    rw [hi, Bool.false_or]; exact beq_eq_false_iff_ne.mpr (by omega)
  have c2 : (decide (k ≤ 0) || its.toArray.isEmpty) = true := by rw [decide_eq_true h1]; rfl
  refine wpAny_binaryOp_repeat_ref (T := "tuple") (U := "int") (by decide) ⟨_, ho, rfl⟩ (fun s' => typeIs_int s' k t) noFill_tuple_mul F.fills_int_mul F.slot_int_rmul repeat_tuple F.slot_int_index.lookup
    (call_meets F.slot_int_rmul (typeIs_int s k t) F.entry_int_rmul (F.args_int_rmul_2 _ _) (int_rmul_tuple k t l its.toArray n dd sl)
      ⟨ho, rfl, ⟨_, ho, rfl⟩, call_meets F.slot_tuple_mul ⟨_, ho, rfl⟩ F.entry_tuple_mul (F.args_tuple_mul_2 _ _) (tup_mul0 l its.toArray n dd sl k t c0 c1 c2) ⟨ho, ?_⟩⟩)
  refine ⟨.ref s.heap.objs.size, _, I.laid (t' := s.toks) (o := .tup []) (fun b ob q => Heap.get?_push_of_some _ q) (Nat.le_refl _) ?_, rfl, q _ (I.hok.fresh (Nat.le_refl _))⟩
  exact ⟨Nat.zero_le _, _, .nil, IsTup.new _ _⟩
/-- a sequence so many times -/
def repD {a : Type} (xs : List a) (k : Int) : List a := (List.replicate k.toNat xs).flatten
theorem rep_rp {K : PySem.W.Frag} {F : Hp} {vs : List V} {ds : List PyData} (r : RpL K F vs ds) : ∀ m : Nat, RpL K F (List.replicate m vs).flatten (List.replicate m ds).flatten
  | 0 => .nil
  | m + 1 => by rw [List.replicate_succ, List.replicate_succ, List.flatten_cons, List.flatten_cons]; exact r.append (rep_rp r m)
def dMul : PyData → PyData → Option PyData
  | .int i, .int j => if (-(2 ^ 64) < i ∧ i < 2 ^ 64) ∨ (-(2 ^ 64) < j ∧ j < 2 ^ 64) then some (.int (i * j)) else none
  | .tuple xs, .int k => if -1000 ≤ k ∧ k ≤ 1000 ∧ xs.length ≤ 1000 then some (.tuple (repD xs k)) else none
  | .list xs, .int k => if -1000 ≤ k ∧ k ≤ 1000 ∧ xs.length ≤ 1000 then some (.list (repD xs k)) else none
  | _, _ => none
theorem op_mulS [Tb] : OpR X (binaryOp .Mult) (rOp X.K dMul) := by
  refine opr_imp (OpR.or (OpR.or op_mul op_rep) (OpR.or op_rep1 (OpR.or op_rep0 op_repT))) fun x y H Q ⟨F, d1, d2, d, s, r1, r2, e, q⟩ => ?_
  have len : ∀ {vs : List V} {k : Int}, k ≤ 1000 → vs.length ≤ 1000 → (List.replicate k.toNat vs).flatten.length ≤ sizeLine := fun {vs k} h1 h2 => by
    rw [PyProof.Rows.lm_len_rep_flat, sizeLine_eq]
    have : k.toNat * vs.length ≤ 1000 * 1000 := Nat.mul_le_mul (by omega) h2
    omega
  cases r1 with
  | int i =>
    cases r2 with
    | int j =>
      have e : (if (-(2 ^ 64) < i ∧ i < 2 ^ 64) ∨ (-(2 ^ 64) < j ∧ j < 2 ^ 64) then some (PyData.int (i * j)) else none) = some d := e
      split at e
      · rename_i hz; cases e; exact .inl (.inl ⟨i, j, rfl, rfl, hz, q _ F H (.refl s) (.int _)⟩)
      · cases e
    | _ => cases e
  | @tup a vs ds h z t =>
    cases r2 with
    | int k =>
      have e : (if -1000 ≤ k ∧ k ≤ 1000 ∧ ds.length ≤ 1000 then some (PyData.tuple (repD ds k)) else none) = some d := e
      split at e
      · rename_i hz
        cases e
        have hl : vs.length ≤ 1000 := by rw [t.length]; exact hz.2.2
        by_cases c1 : vs = [] ∨ k = 1
        · refine .inr (.inl ⟨a, k, vs, rfl, rfl, .of (s _ _ h), c1, hz.1, hz.2.1, ?_⟩)
          have : repD ds k = ds := by
            rcases c1 with e | e
            · subst e; cases t; unfold repD; simp
            · subst e; unfold repD; simp
          rw [this] at q
          exact q _ F H (.refl s) (.tup h z t)
        · have c2 : vs ≠ [] := fun e => c1 (.inl e)
          by_cases c3 : k ≤ 0
          · refine .inr (.inr (.inl ⟨a, k, vs, rfl, rfl, .of (s _ _ h), c2, c3, hz.1, fun p hp => ?_⟩))
            have : repD ds k = [] := by unfold repD; rw [show k.toNat = 0 by omega]; rfl
            rw [this] at q
            exact q _ _ _ (Step.new s hp) (.tup upd_same (Nat.zero_le _) .nil)
          · have c4 : k ≠ 1 := fun e => c1 (.inr e)
            refine .inr (.inr (.inr ⟨a, k, vs, rfl, rfl, .of (s _ _ h), c2, by omega, hz.2.1, hl, fun p hp => ?_⟩))
            exact q _ _ _ (Step.new s hp) (.tup upd_same (len hz.2.1 hl) ((rep_rp t k.toNat).mono (same_upd (same_none s hp))))
      · cases e
    | _ => cases e
  | @lst a vs ds h z t =>
    cases r2 with
    | int k =>
      have e : (if -1000 ≤ k ∧ k ≤ 1000 ∧ ds.length ≤ 1000 then some (PyData.list (repD ds k)) else none) = some d := e
      split at e
      · rename_i hz
        cases e
        have hl : vs.length ≤ 1000 := by rw [t.length]; exact hz.2.2
        have hm : vs.length * k.toNat ≤ sizeLine := by
          rw [sizeLine_eq]
          have : vs.length * k.toNat ≤ 1000 * 1000 := Nat.mul_le_mul hl (by omega)
          omega
        refine .inl (.inr ⟨a, k, vs, rfl, rfl, s _ _ h, by omega, by omega, hm, fun p hp => ?_⟩)
        exact q _ _ _ (Step.new s hp) (.lst upd_same (len hz.2.1 hl) ((rep_rp t k.toNat).mono (same_upd (same_none s hp))))
      · cases e
    | _ => cases e
  | _ => cases e
/-! ### max, min of whole numbers in a list or a tuple -/
def maxZ : Int → List Int → Int
  | m, [] => m
  | m, n :: ns => maxZ (if n > m then n else m) ns
def minZ : Int → List Int → Int
  | m, [] => m
  | m, n :: ns => minZ (if n < m then n else m) ns
theorem maxZ_spec : ∀ (ns : List Int) (m : Int), (maxZ m ns = m ∨ maxZ m ns ∈ ns) ∧ m ≤ maxZ m ns ∧ ∀ y ∈ ns, y ≤ maxZ m ns
  | [], m => ⟨.inl rfl, Int.le_refl _, fun y h => by simp at h⟩
  | n :: ns, m => by
    obtain ⟨h1, h2, h3⟩ := maxZ_spec ns (if n > m then n else m)
    unfold maxZ
    refine ⟨?_, ?_, fun y hy => ?_⟩
    · rcases h1 with h1 | h1
      · rw [h1]; by_cases c : n > m
        · rw [if_pos c]; exact .inr List.mem_cons_self
        · rw [if_neg c]; exact .inl rfl
      · exact .inr (List.mem_cons_of_mem _ h1)
    · by_cases c : n > m
      · rw [if_pos c] at h2 ⊢; omega
      · rw [if_neg c] at h2 ⊢; exact h2
    · rcases List.mem_cons.mp hy with e | hy
      · subst e
        by_cases c : y > m
        · rw [if_pos c] at h2 ⊢; exact h2
        · rw [if_neg c] at h2 ⊢; omega
      · exact h3 y hy
theorem minZ_spec : ∀ (ns : List Int) (m : Int), (minZ m ns = m ∨ minZ m ns ∈ ns) ∧ minZ m ns ≤ m ∧ ∀ y ∈ ns, minZ m ns ≤ y
  | [], m => ⟨.inl rfl, Int.le_refl _, fun y h => by simp at h⟩
  | n :: ns, m => by
    obtain ⟨h1, h2, h3⟩ := minZ_spec ns (if n < m then n else m)
    unfold minZ
    refine ⟨?_, ?_, fun y hy => ?_⟩
    · rcases h1 with h1 | h1
      · rw [h1]; by_cases c : n < m
        · rw [if_pos c]; exact .inr List.mem_cons_self
        · rw [if_neg c]; exact .inl rfl
      · exact .inr (List.mem_cons_of_mem _ h1)
    · by_cases c : n < m
      · rw [if_pos c] at h2 ⊢; omega
      · rw [if_neg c] at h2 ⊢; exact h2
    · rcases List.mem_cons.mp hy with e | hy
      · subst e
        by_cases c : y < m
        · rw [if_pos c] at h2 ⊢; exact h2
        · rw [if_neg c] at h2 ⊢; omega
      · exact h3 y hy
end
end PD
/-! PDA: max, min of numbers; a written dict asked. -/
namespace PD
open PySem L2
section
variable {X : Cx}
theorem mem_getD0 {ns : List Int} {i : Nat} (h : i < ns.length) : ns.getD i 0 ∈ ns := by
  rw [List.getD_eq_getElem?_getD, List.getElem?_eq_getElem h]; exact List.getElem_mem h
theorem getD_of_mem {ns : List Int} {a : Int} (h : a ∈ ns) : ∃ j, j < ns.length ∧ ns.getD j 0 = a := by
  obtain ⟨j, hj, e⟩ := List.getElem_of_mem h
  exact ⟨j, hj, by rw [List.getD_eq_getElem?_getD, List.getElem?_eq_getElem hj]; exact e⟩
open PyProof.Rows in
theorem cr_maxT (hc : X.calm = true) : CallR X (.builtin "max") (fun vs H Q => ∃ (a : Addr) (ns : List Int), vs = [V.ref a] ∧ SqT X.K H a (ns.map V.int) ∧ 0 < ns.length ∧ ∀ m, m ∈ ns → (∀ y, y ∈ ns → y ≤ m) → Q (.int m) H) := by
  intro pins s σ H vs us Q I r h
  obtain ⟨a, ns, rfl, hs, hne, q⟩ := h
  obtain ⟨its, rv, ht, _⟩ := I.tuple hs
  rw [Vals.ref1 r]
  have hlt : a < s.heap.objs.size := by obtain ⟨_, e, _⟩ := ht; exact Heap.lt_size e
  have hl := rv.length
  rw [List.length_map] at hl
  refine call_max_walk (wpAny_pyIter_tuple (show s.heap.IsTuple a its.toArray from ht) ?_)
  refine ⟨_, _, _, _, _, _, fun i j => decide (ns.getD i 0 > ns.getD j 0), rfl, Walks.tuple (A := X.A.in1) (I.ok.hd hc) s.heap.objs.size a (Nat.ne_of_lt hlt) its.toArray, ⟨⟨_, Heap.get?_push_size _ rfl, rfl, rfl⟩, ?_⟩, fun b hb => ?_, by simp; omega, CmpOf.ints_gt (fun i => ns.getD i 0) (fun i v hv => vals_int_at rv (by simpa using hv)), fun v h' tk hP hk => ?_⟩
  · obtain ⟨o, e, c⟩ := ht; exact ⟨o, Heap.get?_push_of_some _ e, c⟩
  · show b < (s.heap.push _).objs.size
    rw [Heap.size_push]
    rcases List.mem_cons.mp hb with rfl | hb
    · exact Nat.lt_succ_self _
    · have : b = a := by simpa using hb
      subst this; exact Nat.lt_succ_of_lt hlt
  · obtain ⟨t, rfl⟩ := vals_int_at rv (by simpa only [List.getElem?_toArray] using hP)
    obtain ⟨h1, h2⟩ := argBest_gt (fun i => ns.getD i 0) (its.toArray.size - 1)
    have hz : its.toArray.size = ns.length := by simp; omega
    rw [hz] at h1 h2
    refine ⟨.int _, H, I.kept (old_push hk), ⟨_, rfl⟩, q _ ?_ fun y hy => ?_⟩
    · rw [hz]; exact mem_getD0 (by omega)
    · obtain ⟨j, hj, rfl⟩ := getD_of_mem hy
      rw [hz]; exact h2 j (by omega)
open PyProof.Rows in
theorem cr_minT (hc : X.calm = true) : CallR X (.builtin "min") (fun vs H Q => ∃ (a : Addr) (ns : List Int), vs = [V.ref a] ∧ SqT X.K H a (ns.map V.int) ∧ 0 < ns.length ∧ ∀ m, m ∈ ns → (∀ y, y ∈ ns → m ≤ y) → Q (.int m) H) := by
  intro pins s σ H vs us Q I r h
  obtain ⟨a, ns, rfl, hs, hne, q⟩ := h
  obtain ⟨its, rv, ht, _⟩ := I.tuple hs
  rw [Vals.ref1 r]
  have hlt : a < s.heap.objs.size := by obtain ⟨_, e, _⟩ := ht; exact Heap.lt_size e
  have hl := rv.length
  rw [List.length_map] at hl
  refine call_min_walk (wpAny_pyIter_tuple (show s.heap.IsTuple a its.toArray from ht) ?_)
  refine ⟨_, _, _, _, _, _, fun i j => decide (ns.getD i 0 < ns.getD j 0), rfl, Walks.tuple (A := X.A.in1) (I.ok.hd hc) s.heap.objs.size a (Nat.ne_of_lt hlt) its.toArray, ⟨⟨_, Heap.get?_push_size _ rfl, rfl, rfl⟩, ?_⟩, fun b hb => ?_, by simp; omega, CmpOf.ints_lt (fun i => ns.getD i 0) (fun i v hv => vals_int_at rv (by simpa using hv)), fun v h' tk hP hk => ?_⟩
  · obtain ⟨o, e, c⟩ := ht; exact ⟨o, Heap.get?_push_of_some _ e, c⟩
  · show b < (s.heap.push _).objs.size
    rw [Heap.size_push]
    rcases List.mem_cons.mp hb with rfl | hb
    · exact Nat.lt_succ_self _
    · have : b = a := by simpa using hb
      subst this; exact Nat.lt_succ_of_lt hlt
  · obtain ⟨t, rfl⟩ := vals_int_at rv (by simpa only [List.getElem?_toArray] using hP)
    obtain ⟨h1, h2⟩ := argBest_lt (fun i => ns.getD i 0) (its.toArray.size - 1)
    have hz : its.toArray.size = ns.length := by simp; omega
    rw [hz] at h1 h2
    refine ⟨.int _, H, I.kept (old_push hk), ⟨_, rfl⟩, q _ ?_ fun y hy => ?_⟩
    · rw [hz]; exact mem_getD0 (by omega)
    · obtain ⟨j, hj, rfl⟩ := getD_of_mem hy
      rw [hz]; exact h2 j (by omega)
def pickD (f : Int → List Int → Int) : List PyData → Option PyData
  | [.list ds] => (intsD ds).bind fun ns => match ns with
    | [] => none
    | n :: r => some (.int (f n r))
  | [.tuple ds] => (intsD ds).bind fun ns => match ns with
    | [] => none
    | n :: r => some (.int (f n r))
  | _ => none
theorem pick_of {K : PySem.W.Frag} {F H : Hp} {vs : List V} {ds : List PyData} {d : PyData} {f : Int → List Int → Int} (s : Same F H) (r : RpL K F vs ds) (e : pickD f ds = some d) : ∃ a n ns, vs = [.ref a] ∧ d = .int (f n ns) ∧ (SqL K H a ((n :: ns).map V.int) ∨ SqT K H a ((n :: ns).map V.int)) := by
  unfold pickD at e
  split at e
  · rename_i ds
    cases ei : intsD ds with
    | none => rw [ei] at e; cases e
    | some ns =>
      rw [ei] at e
      cases ns with
      | nil => cases e
      | cons n ns =>
        cases e
        cases r with
        | cons r1 t =>
          cases t
          cases r1 with
          | lst h z t =>
            rw [intsD_eq ei] at t
            have := rpl_ints t
            subst this
            exact ⟨_, n, ns, rfl, rfl, .inl (.of (s _ _ h))⟩
  · rename_i ds
    cases ei : intsD ds with
    | none => rw [ei] at e; cases e
    | some ns =>
      rw [ei] at e
      cases ns with
      | nil => cases e
      | cons n ns =>
        cases e
        cases r with
        | cons r1 t =>
          cases t
          cases r1 with
          | tup h z t =>
            rw [intsD_eq ei] at t
            have := rpl_ints t
            subst this
            exact ⟨_, n, ns, rfl, rfl, .inr (.of (s _ _ h))⟩
  · cases e
theorem maxZ_eq {n m : Int} {ns : List Int} (h1 : m ∈ n :: ns) (h2 : ∀ y ∈ n :: ns, y ≤ m) : m = maxZ n ns := by
  obtain ⟨a, b, c⟩ := maxZ_spec ns n
  have hm : maxZ n ns ∈ n :: ns := by
    rcases a with a | a
    · rw [a]; exact List.mem_cons_self
    · exact List.mem_cons_of_mem _ a
  have h3 := h2 _ hm
  rcases List.mem_cons.mp h1 with e | e
  · subst e; omega
  · have := c m e; omega
theorem minZ_eq {n m : Int} {ns : List Int} (h1 : m ∈ n :: ns) (h2 : ∀ y ∈ n :: ns, m ≤ y) : m = minZ n ns := by
  obtain ⟨a, b, c⟩ := minZ_spec ns n
  have hm : minZ n ns ∈ n :: ns := by
    rcases a with a | a
    · rw [a]; exact List.mem_cons_self
    · exact List.mem_cons_of_mem _ a
  have h3 := h2 _ hm
  rcases List.mem_cons.mp h1 with e | e
  · subst e; omega
  · have := c m e; omega
theorem cl_max1 [Tb] (hc : X.calm = true) : CallR X (.builtin "max") (rCl X.K (pickD maxZ)) := clr_imp (clr_or (cr_max hc) (cr_maxT hc)) fun vs H Q ⟨F, ds, d, s, r, e, q⟩ => by
  obtain ⟨a, n, ns, rfl, rfl, h | h⟩ := pick_of s r e
  · exact .inl ⟨a, n :: ns, rfl, h, by simp, fun m h1 h2 => by rw [maxZ_eq h1 h2]; exact q _ F H (.refl s) (.int _)⟩
  · exact .inr ⟨a, n :: ns, rfl, h, by simp, fun m h1 h2 => by rw [maxZ_eq h1 h2]; exact q _ F H (.refl s) (.int _)⟩
theorem cl_min1 [Tb] (hc : X.calm = true) : CallR X (.builtin "min") (rCl X.K (pickD minZ)) := clr_imp (clr_or (cr_min hc) (cr_minT hc)) fun vs H Q ⟨F, ds, d, s, r, e, q⟩ => by
  obtain ⟨a, n, ns, rfl, rfl, h | h⟩ := pick_of s r e
  · exact .inl ⟨a, n :: ns, rfl, h, by simp, fun m h1 h2 => by rw [minZ_eq h1 h2]; exact q _ F H (.refl s) (.int _)⟩
  · exact .inr ⟨a, n :: ns, rfl, h, by simp, fun m h1 h2 => by rw [minZ_eq h1 h2]; exact q _ F H (.refl s) (.int _)⟩
/-! ### {'a': 1, ..}.get(e, f) -/
def disp3 (k1 : Str) (i1 : Int) (k2 : Str) (i2 : Int) (k3 : Str) (i3 : Int) : PyData → PyData → Option PyData
  | .str k, z => some (if k = k3 then .int i3 else if k = k2 then .int i2 else if k = k1 then .int i1 else z)
  | _, _ => none
theorem de_disp3 [Tb] {W : WX} {ph : List Fl} {e f : Expr} {ge gf : Rw → Rs PyData} {k1 k2 k3 : Str} {i1 i2 i3 : Int} {c1 c2 c3 d1 d2 d3 : Nat} {p1 p2 p3 q1 q2 q3 dpos apos cpos : Pos} (hu : X.A.units + 1 < cLine) (he : DE X W ph e ge) (hf : DE X W ph f gf)
    (base : attributeBase (.Dict [some (.Constant (.str k1) c1 p1), some (.Constant (.str k2) c2 p2), some (.Constant (.str k3) c3 p3)] [.Constant (.int i1) d1 q1, .Constant (.int i2) d2 q2, .Constant (.int i3) d3 q3] dpos) "get" X.env (eval (.Dict [some (.Constant (.str k1) c1 p1), some (.Constant (.str k2) c2 p2), some (.Constant (.str k3) c3 p3)] [.Constant (.int i1) d1 q1, .Constant (.int i2) d2 q2, .Constant (.int i3) d3 q3] dpos) X.env) = eval (.Dict [some (.Constant (.str k1) c1 p1), some (.Constant (.str k2) c2 p2), some (.Constant (.str k3) c3 p3)] [.Constant (.int i1) d1 q1, .Constant (.int i2) d2 q2, .Constant (.int i3) d3 q3] dpos) X.env := by rfl)
    (few : ((backTo cpos (starEach [e, f] X.env)).all (fun x => !x.1) && (backToKw cpos (keywordEach [] X.env)).all (fun x => x.1.isSome) && decide (([e, f] : List Expr).length + ([] : List Keyword).length + (if ([] : List Keyword).isEmpty then 0 else 1) < 30)) = true := by rfl)
    (line : (apos.endLine == cpos.line) = true := by rfl) (trees : backTo cpos (starEach [e, f] X.env) = [(false, eval e X.env), (false, eval f X.env)] := by rfl) :
    DE X W ph (.Call (.Attribute (.Dict [some (.Constant (.str k1) c1 p1), some (.Constant (.str k2) c2 p2), some (.Constant (.str k3) c3 p3)] [.Constant (.int i1) d1 q1, .Constant (.int i2) d2 q2, .Constant (.int i3) d3 q3] dpos) "get" apos) [e, f] [] cpos) (gB (disp3 k1 i1 k2 i2 k3 i3) ge gf) :=
  pe_imp (pe_dget2 hu (pe_disp (pps_cons pe_str pe_int (pps_cons pe_str pe_int (pps_cons pe_str pe_int pps_nil))) rfl rfl (fun z => by cases z) (by simp)) he hf ⟨base, few, line, trees⟩) fun σ H Q ⟨F, rho, n, q⟩ => by
    intro p hp
    refine ⟨upd_same, [(Sum.inr k1, .int i1), (Sum.inr k2, .int i2), (Sum.inr k3, .int i3)], rfl, by simp, p, rfl, .inl ⟨_, .inl upd_same⟩, ?_⟩
    rw [upd_upd]
    have s0 : Step F H F (upd H p (.dK (mergeK [] [(Sum.inr k1, .int i1), (Sum.inr k2, .int i2), (Sum.inr k3, .int i3)]))) := Step.hid n.fh hp
    refine ⟨F, rho, n.step s0, (q.step s0).bind fun x F1 H1 s1 q1 v1 r1 => ⟨F1, rho, (n.step s0).step s1, q1.bind fun y F2 H2 s2 q2 v2 r2 => ?_⟩⟩
    obtain ⟨d, ed, q3⟩ := q2.lift
    cases r1 with
    | str k =>
      cases ed
      have hd : H2 p = some (.dK (mergeK [] [(Sum.inr k1, .int i1), (Sum.inr k2, .int i2), (Sum.inr k3, .int i3)])) := s2.h.k (s1.h.k upd_same fun _ z => (by cases z)) fun _ z => (by cases z)
      refine ⟨_, DGet.k (k := Sum.inr k) hd, ?_⟩
      have inj : ∀ a b : Str, ((Sum.inr a : Key) = Sum.inr b) ↔ a = b := fun a b => ⟨fun h => Sum.inr.inj h, fun h => by rw [h]⟩
      have ev : valV (mergeK [] [(Sum.inr k1, V.int i1), (Sum.inr k2, .int i2), (Sum.inr k3, .int i3)]) (Sum.inr k : Key) = if k = k3 then some (.int i3) else if k = k2 then some (.int i2) else if k = k1 then some (.int i1) else none := by
        show valV (putK (putK (putK [] (Sum.inr k1) (V.int i1)) (Sum.inr k2) (.int i2)) (Sum.inr k3) (.int i3)) (Sum.inr k) = _
        rw [valV_put, valV_put, valV_put]
        simp only [inj, valV_nil]
      rw [ev]
      by_cases h3 : k = k3
      · simp only [h3, if_true] at q3 ⊢; exact q3.now s2.fh _ (.int _)
      · by_cases h2 : k = k2
        · simp only [h3, h2, if_true, if_false] at q3 ⊢; rw [if_neg (by rw [← h2]; exact h3)] at q3 ⊢; exact q3.now s2.fh _ (.int _)
        · by_cases h1 : k = k1
          · rw [if_neg h3, if_neg h2, if_pos h1] at q3 ⊢; exact q3.now s2.fh _ (.int _)
          · rw [if_neg h3, if_neg h2, if_neg h1] at q3 ⊢; exact q3.now s2.fh _ r2
    | _ => cases ed
end
end PD
/-! PDB: comprehensions stored; own lists read. -/
namespace PD
open PySem L2
section
variable {X : Cx} {W : WX} {C : Ctl} {ph phn : List Fl} {tg iter : Expr} {pos spos : Pos} {gi : Rw → Rs (List PyData)} {gt : PyData → Rw → Option Rw} {ts : List Nat}
theorem ds_setLcO [Tb] (i : Nat) {y : Str} {py : Pos} {elt : Expr} {ifs : List Expr} {scope : Scope} {own : List (Str × Nat)} {gc : Rw → Rs Bool} {ge : Rw → Rs PyData} (hc : X.calm = true) (hN : X.N.Nodup) (hyl : X.env.scope.names.lookup y = some .local) (hsw : swapsWith (.ListComp elt [⟨tg, iter, ifs, 0⟩] scope pos) (some (.Name y py)) spos.line X.env = pure true)
    (hi : DIh X W ph tg iter gi) (ok : BlkOk X.N X.env.scope scope own)
    (hg : ∀ (s : Shared) (H : Hp) (C : Addr) (cl : List (Str × Addr)) (fp : List Addr), PG (X.blk s H scope (compEnvC scope cl C X.env) fp) tg (rG X.K (kill (own.map (·.2)) ph) ts gt))
    (ht : ∀ (s : Shared) (H : Hp) (C : Addr) (cl : List (Str × Addr)) (fp : List Addr), PTs (X.blk s H scope (compEnvC scope cl C X.env) fp) ifs (rT X.K X.mg W0 (setIms ts (kill (own.map (·.2)) ph)) gc))
    (he : ∀ (s : Shared) (H : Hp) (C : Addr) (cl : List (Str × Addr)) (fp : List Addr), DE (X.blk s H scope (compEnvC scope cl C X.env) fp) W0 (setIms ts (kill (own.map (·.2)) ph)) elt ge)
    (hts : ∀ i ∈ ts, i ∈ own.map (·.2)) (w : wk ph C.e = true := by rfl) (hy : X.N[i]? = some y := by rfl) (hs : ∀ x, foldedSetIterable iter X.env x = pure x := by intro _; rfl) :
    DS X W C ph (ph.set i .ow) (.Assign [.Name y py] (.ListComp elt [⟨tg, iter, ifs, 0⟩] scope pos) spos) (gSet i (gLc gi gt gc ge)) :=
  ps_imp (ps_setLc (te := rE X.K X.mg W0 (setIms ts (kill (own.map fun p : Str × Nat => p.2) ph)) ge) hc hN hy hyl hsw hi ok hg ht he hs) fun D σ H ⟨F0, H0, F, rho, n, q⟩ =>
    lc_run hts σ H (fun x H1 => gName i x σ H1 D.nx) ⟨F, rho, n.en, aft_then n w q fun d F1 H1 s1 q1 p o h0 h1 h2 r => q1 _ F1 H1 (n.setOw i s1 h0 h1 h2 r)⟩
/-- .. frozen at once -/
theorem ds_setLc [Tb] (i : Nat) {y : Str} {py : Pos} {elt : Expr} {ifs : List Expr} {scope : Scope} {own : List (Str × Nat)} {gc : Rw → Rs Bool} {ge : Rw → Rs PyData} (hc : X.calm = true) (hN : X.N.Nodup) (hyl : X.env.scope.names.lookup y = some .local) (hsw : swapsWith (.ListComp elt [⟨tg, iter, ifs, 0⟩] scope pos) (some (.Name y py)) spos.line X.env = pure true)
    (hi : DIh X W ph tg iter gi) (ok : BlkOk X.N X.env.scope scope own)
    (hg : ∀ (s : Shared) (H : Hp) (C : Addr) (cl : List (Str × Addr)) (fp : List Addr), PG (X.blk s H scope (compEnvC scope cl C X.env) fp) tg (rG X.K (kill (own.map (·.2)) ph) ts gt))
    (ht : ∀ (s : Shared) (H : Hp) (C : Addr) (cl : List (Str × Addr)) (fp : List Addr), PTs (X.blk s H scope (compEnvC scope cl C X.env) fp) ifs (rT X.K X.mg W0 (setIms ts (kill (own.map (·.2)) ph)) gc))
    (he : ∀ (s : Shared) (H : Hp) (C : Addr) (cl : List (Str × Addr)) (fp : List Addr), DE (X.blk s H scope (compEnvC scope cl C X.env) fp) W0 (setIms ts (kill (own.map (·.2)) ph)) elt ge)
    (hts : ∀ i ∈ ts, i ∈ own.map (·.2)) (w : wk ph C.e = true := by rfl) (hy : X.N[i]? = some y := by rfl) (hs : ∀ x, foldedSetIterable iter X.env x = pure x := by intro _; rfl) :
    DS X W C ph (ph.set i .im) (.Assign [.Name y py] (.ListComp elt [⟨tg, iter, ifs, 0⟩] scope pos) spos) (gSet i (gLc gi gt gc ge)) :=
  ps_imp (ps_setLc (te := rE X.K X.mg W0 (setIms ts (kill (own.map fun p : Str × Nat => p.2) ph)) ge) hc hN hy hyl hsw hi ok hg ht he hs) fun D σ H ⟨F0, H0, F, rho, n, q⟩ =>
    lc_run hts σ H (fun x H1 => gName i x σ H1 D.nx) ⟨F, rho, n.en, aft_then n w q fun d F1 H1 s1 q1 p o h0 h1 h2 r => q1 _ (upd F1 p o) H1 ((n.step (s1.freeze h0 h1 h2)).setIm i ((r.mono (same_upd h1)).rp upd_same))⟩
/-- an item of an own list -/
theorem de_ixO [Tb] (i : Nat) {x : Str} {b : Expr} {gb : Rw → Rs PyData} {p1 : Pos} (hb : DE X W ph b gb) (h : ph[i]? = some .ow := by rfl) (hN : X.N[i]? = some x := by rfl) (hv : Vis X.env.scope x := by first | exact Or.inl rfl | exact Or.inr (Or.inl rfl) | exact Or.inr (Or.inr rfl))
    (hd : (x == ("__debug__" : Str)) = false := by decide) (hcd : (x == ("__classdict__" : Str)) = false := by decide) (hs : PlainIx b := by exact fun _ _ => rfl) : DE X W ph (.Subscript (.Name x p1) b pos) (gB dIx (gV i) gb) :=
  pe_imp (pe_ix ix_seq (pe_var hN hv hd hcd) hb hs) fun σ H Q ⟨F, rho, n, q⟩ => by
    obtain ⟨p, o, e1, f1, h1, r⟩ := n.ow h
    have q : Aft X.mg W σ F H (gb rho >>= fun y => lift (dIx (look rho i) y)) _ := q
    refine ⟨.ref p, e1, F, rho, n, q.bind fun d2 F2 H2 s2 q2 v2 r2 => ?_⟩
    obtain ⟨d, e, q3⟩ := q2.lift
    cases ed : look rho i with
    | list xs =>
      rw [ed] at e
      obtain ⟨p', vs, e1', f', h1', z, t⟩ := own_list (n.step s2) h ed
      rw [e1] at e1'; cases e1'
      cases r2 with
      | int k =>
        obtain ⟨v, ev, rv⟩ := atI_rp t e
        exact .inl ⟨p, vs, k, v, rfl, rfl, .of h1', ev, q3.now s2.fh _ rv⟩
      | _ => cases e
    | str z =>
      rw [ed] at r
      cases o <;> exact False.elim r
    | tuple z =>
      rw [ed] at r
      cases o <;> exact False.elim r
    | dict kvs =>
      rw [ed] at r e
      cases o with
      | dT es =>
        obtain ⟨_, t⟩ := r
        cases t with
        | nil => cases r2 <;> cases e
        | cons _ _ => cases r2 <;> cases e
      | _ => exact False.elim r
    | _ => rw [ed] at e; cases r2 <;> cases e
/-- a module's number -/
theorem de_globE [Tb] {x : Str} {i : Int} (hm : ∃ t, X.mg x = some (.int i t)) (hg : Gl X x := by rfl) (hd : (x == ("__debug__" : Str)) = false := by decide) : DE X W ph (.Name x pos) (gC (.int i)) := let ⟨_, h⟩ := hm; de_glob h hg hd
end
theorem un65 {A : Around} {k : Nat} (hr : Room k A) : A.units + 65 < cLine := by have := hr.un; omega
/-- a def as it stands behind the top -/
structure DefT (K : PySem.W.Frag) (mg : Str → Option Value) (x : Str) (st : Stmt) (ps : List Str) (f : Addr) (fd : FuncData) : Prop where
  F : Fun K x x st f fd
  b : Binds K fd ps []
  g : mg x = some (.ref f)
/-- the built-ins are the built-ins -/
structure BnT (mg : Str → Option Value) : Prop where
  len_ : mg "len" = none
  isinstance_ : mg "isinstance" = none
  int_ : mg "int" = none
  bool_ : mg "bool" = none
  tuple_ : mg "tuple" = none
  list_ : mg "list" = none
  str_ : mg "str" = none
  range_ : mg "range" = none
  sum_ : mg "sum" = none
  max_ : mg "max" = none
  min_ : mg "min" = none
  sorted_ : mg "sorted" = none
  set_ : mg "set" = none
  zip_ : mg "zip" = none
  dict_ : mg "dict" = none
  enumerate_ : mg "enumerate" = none
end PD
/-! PDD: sorted. -/
namespace PD
open PySem L2
section
variable {X : Cx}
def tup1 : PyData → Bool
  | .tuple (_ :: _) => true
  | _ => false
def noTN : PyData → Bool
  | .tuple _ => false
  | .none => false
  | _ => true
/-- items that can be sorted -/
def sortOk (ds : List PyData) : Bool := SeqAt.shaped (.list ds) && ds.all (fun d => ds.all (PySem.W.alike d)) && (ds.all tup1 || ds.all noTN)
def leD (a b : PyData) : Bool := !PySem.W.dataLt b a
def dSort : List PyData → Option PyData
  | [.list ds] => if sortOk ds = true then some (.list (ds.mergeSort leD)) else none
  | _ => none
theorem sortOk_of {ds : List PyData} (h : sortOk ds = true) : SeqAt.shaped (.list ds) = true ∧ PySem.W.AllAlike ds ∧ PySem.W.Sortable ds := by
  unfold sortOk at h
  simp only [Bool.and_eq_true, Bool.or_eq_true] at h
  obtain ⟨⟨h1, h2⟩, h3⟩ := h
  refine ⟨h1, fun d hd d' hd' => List.all_eq_true.mp (List.all_eq_true.mp h2 d hd) d' hd', ?_⟩
  rcases h3 with h3 | h3
  · refine .inl fun d hd => ?_
    have := List.all_eq_true.mp h3 d hd
    unfold tup1 at this
    split at this
    · exact ⟨_, _, rfl⟩
    · cases this
  · refine .inr fun d hd => ?_
    have := List.all_eq_true.mp h3 d hd
    unfold noTN at this
    split at this
    · cases this
    · cases this
    · rename_i n1 n2; exact ⟨fun z => n2 z, fun xs z => n1 xs z⟩
theorem each_of {K : PySem.W.Frag} {F : Hp} : ∀ {xs : List V} {vs : List Value} {ds : List PyData}, RpL K F xs ds → Vals xs vs → PySem.W.EachIs (fun v d => ∃ x, RelV x v ∧ Rp K F x d) vs ds
  | _, _, _, .nil, .nil => .nil
  | _, _, _, .cons h t, .cons r u => .cons ⟨_, r, h⟩ (each_of t u)
theorem of_each {K : PySem.W.Frag} {F : Hp} {vs : List Value} {ds : List PyData} (h : PySem.W.EachIs (fun v d => ∃ x, RelV x v ∧ Rp K F x d) vs ds) : ∃ xs, RpL K F xs ds ∧ Vals xs vs := by
  induction h with
  | nil => exact ⟨[], .nil, .nil⟩
  | cons h _ ih =>
    obtain ⟨x, r, h⟩ := h
    obtain ⟨xs, t, u⟩ := ih
    exact ⟨x :: xs, .cons h t, .cons r u⟩
theorem each_mono {α β : Type} {R S : α → β → Prop} {as : List α} {bs : List β} (h : PySem.W.EachIs R as bs) (f : ∀ a b, b ∈ bs → R a b → S a b) : PySem.W.EachIs S as bs := by
  induction h with
  | nil => exact .nil
  | cons h t ih => exact .cons (f _ _ List.mem_cons_self h) (ih fun a b hb r => f a b (List.mem_cons_of_mem _ hb) r)
theorem shaped_item {ds : List PyData} (h : SeqAt.shaped (.list ds) = true) {d : PyData} (hd : d ∈ ds) : d.canLay0 = true ∧ d.depth ≤ 64 := by
  have h1 := SeqAt.canLay_of_shaped h
  have h2 := SeqAt.depth_of_shaped h
  refine ⟨PyData.canLay0_of_mem ds d h1 hd, ?_⟩
  have h3 := PyData.depth_le_depthAll ds d hd
  have h4 : PyData.depthAll ds + 1 ≤ 64 := h2
  omega
theorem cl_sorted [Tb] (hu : X.A.units + 67 < cLine) : CallR X (.builtin "sorted") (rClO X.K dSort) := by
  intro pins s σ H xs us Q I r h
  obtain ⟨F, ds, d, sF, rp, e, q⟩ := h
  unfold dSort at e
  split at e
  · rename_i es
    split at e
    · rename_i hs
      cases e
      obtain ⟨h1, h2, h3⟩ := sortOk_of hs
      cases rp with
      | cons rp t =>
        cases t
        cases rp with
        | @lst a ws _ hF hz ht =>
          obtain ⟨its, rv, pl, _⟩ := I.list (SqL.of (sF _ _ hF))
          rw [Vals.ref1 r]
          have il : s.heap.IsList a its.toArray := by obtain ⟨o, n, e1, e2, _, e4⟩ := pl; exact ⟨o, e1, e2, n, e4⟩
          have er := each_of ht rv
          have er2 : PySem.W.EachIs (fun v b => ∃ as, PySem.Reads s.heap v (id b) as) its es := each_mono er fun v b hb ⟨x, r1, r2⟩ => Dp.reads I b x v (Rp.dp sF b (shaped_item h1 hb).1 r2) r1
          refine PySem.W.sorted_data (enc := id) (R := fun v d => ∃ x, RelV x v ∧ Rp X.K F x d) il er er2 (by rw [List.map_id]; exact h2) (by rw [List.map_id]; exact h3) (by rw [← ht.length]; exact hz) (fun b hb => by have := (shaped_item h1 hb).2; show X.A.units + 2 + b.depth < cLine; omega) fun out hl ho => ?_
          obtain ⟨ys, ry, rz⟩ := of_each ho
          obtain ⟨ep, ea⟩ := PyProof.Rows.sortedAll_at s.heap its (List.toArray out)
          have hp : s.heap.objs.size ≤ s.heap.objs.size + 1 := Nat.le_succ _
          have hf : H (s.heap.objs.size + 1) = none := I.hok.fresh hp
          have hlen : ys.length ≤ sizeLine := by rw [ry.length, List.length_mergeSort, ← ht.length]; exact hz
          exact ⟨.ref _, _, I.laid (t' := s.toks) (o := .lst ys) (fun b u e => PyProof.Rows.sortedAll_old e) hp ⟨hlen, out, ep, rz, ea⟩, rfl, q _ _ F _ (Step.hid sF hf) hf (same_none sF hf) upd_same ⟨hlen, ry⟩⟩
    · cases e
  · cases e
end
end PD
/-! PDE: dicts with tuples as keys. -/
namespace PD
open PySem L2
/-! ### keys -/
def keysK : List PyData → Option (List Key)
  | [] => some []
  | .int i :: r => (keysK r).map (Sum.inl i :: ·)
  | .str x :: r => (keysK r).map (Sum.inr x :: ·)
  | _ :: _ => none
def keyK : PyData → Option (List Key)
  | .tuple ds => keysK ds
  | _ => none
theorem keysK_map : ∀ k : List Key, keysK (k.map keyD) = some k
  | [] => rfl
  | .inl i :: r => by show (keysK (r.map keyD)).map _ = _; rw [keysK_map r]; rfl
  | .inr x :: r => by show (keysK (r.map keyD)).map _ = _; rw [keysK_map r]; rfl
theorem keysK_eq : ∀ {ds : List PyData} {k : List Key}, keysK ds = some k → ds = k.map keyD
  | [], k, h => by cases h; rfl
  | d :: r, k, h => by
    cases d with
    | int i =>
      have h : (keysK r).map (Sum.inl i :: ·) = some k := h
      cases e : keysK r with
      | none => rw [e] at h; cases h
      | some ms => rw [e] at h; cases h; rw [keysK_eq e]; rfl
    | str i =>
      have h : (keysK r).map (Sum.inr i :: ·) = some k := h
      cases e : keysK r with
      | none => rw [e] at h; cases h
      | some ms => rw [e] at h; cases h; rw [keysK_eq e]; rfl
    | _ => cases h
theorem rpl_keys {K : PySem.W.Frag} {F : Hp} : ∀ {vs : List V} {k : List Key}, RpL K F vs (k.map keyD) → vs = k.map kV
  | [], [], _ => rfl
  | [], _ :: _, h => by cases h
  | _ :: _, [], h => by cases h
  | v :: vs, .inl n :: ns, h => by
    cases h with
    | cons h t => cases h; rw [rpl_keys t]; rfl
  | v :: vs, .inr n :: ns, h => by
    cases h with
    | cons h t => cases h; rw [rpl_keys t]; rfl
theorem key_rp {K : PySem.W.Frag} {F : Hp} {v : V} {d : PyData} {k : List Key} (r : Rp K F v d) (h : keyK d = some k) : ∃ b, v = .ref b ∧ F b = some (.tup (k.map kV)) ∧ d = .tuple (k.map keyD) := by
  cases d with
  | tuple ds =>
    have e := keysK_eq (show keysK ds = some k from h)
    subst e
    cases r with
    | tup hF hz t => rw [rpl_keys t] at hF; exact ⟨_, rfl, hF, rfl⟩
  | _ => cases h
/-! ### entries -/
def eqK (k : List Key) (d : PyData) : Bool := match keyK d with
  | some x => decide (x = k)
  | none => false
def getK (kvs : List (PyData × PyData)) (k : List Key) : Option PyData := (kvs.find? fun kv => eqK k kv.1).map (·.2)
def putKD (kvs : List (PyData × PyData)) (k : List Key) (d : PyData) : List (PyData × PyData) :=
  if (kvs.any fun kv => eqK k kv.1) = true then kvs.map (fun kv => if eqK k kv.1 = true then (kv.1, d) else kv) else kvs ++ [(.tuple (k.map keyD), d)]
theorem eqK_tup (k j : List Key) : eqK k (.tuple (j.map keyD)) = decide (j = k) := by
  unfold eqK
  rw [show keyK (.tuple (j.map keyD)) = some j from keysK_map j]
section
variable {K : PySem.W.Frag} {F : Hp}
theorem RpE.val {es : List (List Key × V)} {kvs : List (PyData × PyData)} (r : RpE K F es kvs) (k : List Key) : (valV es k = none ∧ getK kvs k = none) ∨ ∃ v d, valV es k = some v ∧ getK kvs k = some d ∧ Rp K F v d :=
  match r with
  | .nil => .inl ⟨rfl, rfl⟩
  | @RpE.cons _ _ j v es d kvs h t => by
    by_cases e : j = k
    · refine .inr ⟨v, d, valV_pos e, ?_, h⟩
      unfold getK; rw [List.find?_cons_of_pos]; rfl
      show eqK k (.tuple (j.map keyD)) = true
      rw [eqK_tup]; simpa using e
    · have e2 : getK ((.tuple (j.map keyD), d) :: kvs) k = getK kvs k := by
        unfold getK; rw [List.find?_cons_of_neg]
        show ¬ eqK k (.tuple (j.map keyD)) = true
        rw [eqK_tup]; simpa using e
      rw [valV_neg e, e2]
      exact RpE.val t k
theorem RpE.any {es : List (List Key × V)} {kvs : List (PyData × PyData)} (r : RpE K F es kvs) (k : List Key) : (es.any fun kv => decide (kv.1 = k)) = kvs.any fun kv => eqK k kv.1 :=
  match r with
  | .nil => rfl
  | .cons h t => by
    rw [List.any_cons, List.any_cons, RpE.any t k, eqK_tup]
theorem RpE.repl {es : List (List Key × V)} {kvs : List (PyData × PyData)} (r : RpE K F es kvs) (k : List Key) {v : V} {d : PyData} (h : Rp K F v d) : RpE K F (es.map fun kv => if kv.1 = k then (kv.1, v) else kv) (kvs.map fun kv => if eqK k kv.1 = true then (kv.1, d) else kv) :=
  match r with
  | .nil => .nil
  | @RpE.cons _ _ j v es d kvs h' t => by
    rw [List.map_cons, List.map_cons]
    by_cases e : j = k
    · rw [if_pos e, if_pos (show eqK k (PyData.tuple (j.map keyD)) = true by rw [eqK_tup]; simpa using e)]
      exact .cons h (RpE.repl t k h)
    · rw [if_neg e, if_neg (show ¬ eqK k (PyData.tuple (j.map keyD)) = true by rw [eqK_tup]; simpa using e)]
      exact .cons h' (RpE.repl t k h)
theorem RpE.snoc {es : List (List Key × V)} {kvs : List (PyData × PyData)} (r : RpE K F es kvs) (k : List Key) {v : V} {d : PyData} (h : Rp K F v d) : RpE K F (es ++ [(k, v)]) (kvs ++ [(.tuple (k.map keyD), d)]) :=
  match r with
  | .nil => .cons h .nil
  | .cons h' t => .cons h' (RpE.snoc t k h)
theorem RpE.put {es : List (List Key × V)} {kvs : List (PyData × PyData)} (r : RpE K F es kvs) (k : List Key) {v : V} {d : PyData} (h : Rp K F v d) : RpE K F (putK es k v) (putKD kvs k d) := by
  unfold putK putKD
  rw [r.any k]
  split
  · exact r.repl k h
  · exact r.snoc k h
end
/-! ### an object of one's own, or a frozen one, looked at -/
def Bo (K : PySem.W.Frag) (F H : Hp) (v : V) (d : PyData) : Prop := Rp K F v d ∨ ∃ p o, v = .ref p ∧ H p = some o ∧ RepO K F o d
theorem Bo.step [Tb] {K : PySem.W.Frag} {F H F' H' : Hp} {v : V} {d : PyData} (b : Bo K F H v d) (s : Step F H F' H') : Bo K F' H' v d := by
  rcases b with r | ⟨p, o, e, h, r⟩
  · exact .inl (r.mono s.f)
  · exact .inr ⟨p, o, e, s.h.k h r.nt.1, r.mono s.f⟩
def rB [Tb] (K : PySem.W.Frag) (mg : Str → Option Value) (W : WX) (ph : List Fl) (g : Rw → Rs PyData) : TE := fun σ H Q =>
  ∃ F rho, En K ph F H σ rho ∧ Aft mg W σ F H (g rho) fun d F' H' => ∀ v, Bo K F' H' v d → Q v H'
abbrev DBo [Tb] (X : Cx) (W : WX) (ph : List Fl) (e : Expr) (g : Rw → Rs PyData) : Prop := PE X e (rB X.K X.mg W ph g)
/-- a dict's entries, not the script's -/
def dictD : PyData → Option (List (PyData × PyData))
  | .dict ((.none, _) :: _) => none
  | .dict kvs => some kvs
  | _ => none
theorem bo_dict {K : PySem.W.Frag} {F H : Hp} {v : V} {d : PyData} {kvs : List (PyData × PyData)} (s : Same F H) (b : Bo K F H v d) (h : dictD d = some kvs) : ∃ a es, v = .ref a ∧ Rd H a (.dT es) ∧ RpE K F es kvs ∧ d = .dict kvs := by
  have hd : d = .dict kvs := by
    unfold dictD at h
    split at h
    · cases h
    · cases h; rfl
    · cases h
  subst hd
  rcases b with r | ⟨p, o, e, hp, r⟩
  · cases r with
    | dct hF hz t => exact ⟨_, _, rfl, rd_same s hF, t, rfl⟩
    | scr _ => cases h
  · cases o with
    | dT es => exact ⟨p, es, e, .inl hp, r.2, rfl⟩
    | _ => exact False.elim r
section
variable {X : Cx} {W : WX} {C : Ctl} {ph phn : List Fl} {e f a b : Expr} {pos : Pos} {ge gf ga gb : Rw → Rs PyData}
theorem dbo_of [Tb] (h : DE X W ph e ge) : DBo X W ph e ge := pe_imp h fun σ H Q ⟨F, rho, n, q⟩ => ⟨F, rho, n, q.imp fun d F1 H1 s z v r => z v (.inl r)⟩
theorem dbo_own [Tb] (i : Nat) {x : Str} (h : ph[i]? = some .ow := by rfl) (hN : X.N[i]? = some x := by rfl) (hv : Vis X.env.scope x := by first | exact Or.inl rfl | exact Or.inr (Or.inl rfl) | exact Or.inr (Or.inr rfl))
    (hd : (x == ("__debug__" : Str)) = false := by decide) (hcd : (x == ("__classdict__" : Str)) = false := by decide) : DBo X W ph (.Name x pos) (gV i) :=
  pe_imp (pe_var hN hv hd hcd) fun σ H Q ⟨F, rho, n, q⟩ => by
    obtain ⟨p, o, e, h1, h2, r⟩ := n.ow h
    exact ⟨.ref p, e, q.now n.fh _ (.inr ⟨p, o, rfl, h2, r⟩)⟩
/-- d[k] -/
def dDget : PyData → PyData → Option PyData := fun d k => (dictD d).bind fun kvs => (keyK k).bind fun k => getK kvs k
theorem de_dget [Tb] (hu : X.A.units + 65 < cLine) (ha : DBo X W ph a ga) (hb : DE X W ph b gb) (hs : NoSl b := by exact fun _ _ => rfl) : DE X W ph (.Subscript a b pos) (gB dDget ga gb) :=
  pe_imp (pe_dget (by omega) ha hb hs) fun σ H Q ⟨F, rho, n, q⟩ => ⟨F, rho, n, q.bind fun d1 F1 H1 s1 q1 v1 b1 => ⟨F1, rho, n.step s1, q1.bind fun d2 F2 H2 s2 q2 v2 r2 => by
    obtain ⟨d, e, q3⟩ := q2.lift
    unfold dDget at e
    cases e1 : dictD d1 with
    | none => rw [e1] at e; cases e
    | some kvs =>
      cases e2 : keyK d2 with
      | none => rw [e1, e2] at e; cases e
      | some k =>
        rw [e1, e2] at e
        have e : getK kvs k = some d := e
        obtain ⟨p, es, rfl, rd, t, _⟩ := bo_dict s2.fh (b1.step s2) e1
        obtain ⟨b, rfl, hb, _⟩ := key_rp r2 e2
        rcases t.val k with ⟨_, z⟩ | ⟨v, d', h1, h2, r⟩
        · rw [e] at z; cases z
        · rw [e] at h2; cases h2
          exact ⟨p, v, rfl, .inr ⟨es, k, b, rd, rfl, s2.fh _ _ hb, h1.symm⟩, q3.now s2.fh _ r⟩⟩⟩
/-- k in d -/
def dDin (neg : Bool) : PyData → PyData → Option PyData := fun k d => (dictD d).bind fun kvs => (keyK k).bind fun k => some (.bool ((getK kvs k).isSome != neg))
theorem din_run [Tb] {neg : Bool} {σ : L2.St} {H : Hp} {Q : VK} (h : rE X.K X.mg W ph (gB (dDin neg) ga gb) σ H Q) : rE X.K X.mg W ph ga σ H fun y H1 => rB X.K X.mg W ph gb σ H1 fun x H2 => ∃ a o, x = .ref a ∧ DGet H2 a y o ∧ Q (.bl (o.isSome != neg)) H2 := by
  obtain ⟨F, rho, n, q⟩ := h
  refine ⟨F, rho, n, q.bind fun d1 F1 H1 s1 q1 v1 r1 => ⟨F1, rho, n.step s1, q1.bind fun d2 F2 H2 s2 q2 v2 b2 => ?_⟩⟩
  obtain ⟨d, e, q3⟩ := q2.lift
  unfold dDin at e
  cases e1 : dictD d2 with
  | none => rw [e1] at e; cases e
  | some kvs =>
    cases e2 : keyK d1 with
    | none => rw [e1, e2] at e; cases e
    | some k =>
      rw [e1, e2] at e
      have e : some (PyData.bool ((getK kvs k).isSome != neg)) = some d := e
      cases e
      obtain ⟨p, es, rfl, rd, t, _⟩ := bo_dict s2.fh b2 e1
      obtain ⟨b, rfl, hb, _⟩ := key_rp (r1.mono s2.f) e2
      refine ⟨p, valV es k, rfl, .inr ⟨es, k, b, rd, rfl, s2.fh _ _ hb, rfl⟩, ?_⟩
      rcases t.val k with ⟨z1, z2⟩ | ⟨v, d', h1, h2, r⟩
      · rw [z1]; rw [z2] at q3; exact q3.now s2.fh _ (.bl _)
      · rw [h1]; rw [h2] at q3; exact q3.now s2.fh _ (.bl _)
theorem de_din [Tb] (hu : X.A.units + 65 < cLine) (ha : DE X W ph a ga) (hb : DBo X W ph b gb) (hm : behindInMarks .In b = false := by rfl) : DE X W ph (.Compare a [.In] [b] pos) (gB (dDin false) ga gb) :=
  pe_imp (pe_cmp (pc_din (by omega) ha hb) hm) fun σ H Q h => by
    have := din_run h
    simp only [Bool.bne_false] at this
    exact this
theorem de_dnotin [Tb] (hu : X.A.units + 65 < cLine) (ha : DE X W ph a ga) (hb : DBo X W ph b gb) (hm : behindInMarks .NotIn b = false := by rfl) : DE X W ph (.Compare a [.NotIn] [b] pos) (gB (dDin true) ga gb) :=
  pe_imp (pe_cmp (pc_dnotin (by omega) ha hb) hm) fun σ H Q h => by
    have := din_run h
    simp only [Bool.bne_true] at this
    exact this
theorem dt_din [Tb] (hu : X.A.units + 65 < cLine) (ha : DE X W ph a ga) (hb : DBo X W ph b gb) (hm : behindInMarks .In b = false := by rfl) : DT X W ph (.Compare a [.In] [b] pos) (gTb (gB (dDin false) ga gb)) :=
  pt_imp (pt_cmp (pc_din (by omega) ha hb) hm) fun σ H Q h => by
    have := din_run (tb_run σ H Q h)
    simp only [Bool.bne_false] at this
    exact this
theorem dt_dnotin [Tb] (hu : X.A.units + 65 < cLine) (ha : DE X W ph a ga) (hb : DBo X W ph b gb) (hm : behindInMarks .NotIn b = false := by rfl) : DT X W ph (.Compare a [.NotIn] [b] pos) (gTb (gB (dDin true) ga gb)) :=
  pt_imp (pt_cmp (pc_dnotin (by omega) ha hb) hm) fun σ H Q h => by
    have := din_run (tb_run σ H Q h)
    simp only [Bool.bne_true] at this
    exact this
/-- d.get(k, e) -/
def gGetm (ga gb gf : Rw → Rs PyData) : Rw → Rs PyData := fun rho => ga rho >>= fun x => lift (dictD x) >>= fun kvs => gb rho >>= fun y => gf rho >>= fun z => lift ((keyK y).map fun k => (getK kvs k).getD z)
theorem de_dgetm [Tb] {apos cpos : Pos} (hu : X.A.units + 65 < cLine) (ha : DBo X W ph a ga) (hb : DE X W ph b gb) (hf : DE X W ph f gf)
    (base : attributeBase a "get" X.env (eval a X.env) = eval a X.env := by rfl)
    (few : ((backTo cpos (starEach [b, f] X.env)).all (fun x => !x.1) && (backToKw cpos (keywordEach [] X.env)).all (fun x => x.1.isSome) && decide (([b, f] : List Expr).length + ([] : List Keyword).length + (if ([] : List Keyword).isEmpty then 0 else 1) < 30)) = true := by rfl)
    (line : (apos.endLine == cpos.line) = true := by rfl) (trees : backTo cpos (starEach [b, f] X.env) = [(false, eval b X.env), (false, eval f X.env)] := by rfl) : DE X W ph (.Call (.Attribute a "get" apos) [b, f] [] cpos) (gGetm ga gb gf) :=
  pe_imp (pe_dget2 (by omega) ha hb hf ⟨base, few, line, trees⟩) fun σ H Q ⟨F, rho, n, q⟩ => by
    refine ⟨F, rho, n, q.bind fun d1 F1 H1 s1 q1 v1 b1 => ?_⟩
    have q1 : Aft X.mg W σ F1 H1 (lift (dictD d1) >>= fun kvs => gb rho >>= fun y => gf rho >>= fun z => lift ((keyK y).map fun k => (getK kvs k).getD z)) _ := q1
    cases e1 : dictD d1 with
    | none => rw [e1] at q1; exact False.elim q1
    | some kvs =>
      rw [e1] at q1
      have q1 : Aft X.mg W σ F1 H1 (gb rho >>= fun y => gf rho >>= fun z => lift ((keyK y).map fun k => (getK kvs k).getD z)) _ := q1
      obtain ⟨a', es, rfl, rd, t, ed⟩ := bo_dict s1.fh b1 e1
      refine ⟨a', rfl, .inr ⟨es, rd⟩, F1, rho, n.step s1, q1.bind fun d2 F2 H2 s2 q2 v2 r2 => ⟨F2, rho, (n.step s1).step s2, q2.bind fun d3 F3 H3 s3 q3 v3 r3 => ?_⟩⟩
      obtain ⟨d, e, q4⟩ := q3.lift
      cases e2 : keyK d2 with
      | none => rw [e2] at e; cases e
      | some k =>
        rw [e2] at e
        cases e
        obtain ⟨b', rfl, hb', _⟩ := key_rp (r2.mono s3.f) e2
        have s23 := s2.trans s3
        have b3 := b1.step s23
        obtain ⟨a2, es2, ea, rd2, t2, _⟩ := bo_dict s23.fh b3 e1
        cases ea
        refine ⟨valV es2 k, .inr ⟨es2, k, b', rd2, rfl, s3.fh _ _ hb', rfl⟩, ?_⟩
        have q4 : Aft X.mg W σ F3 H3 (.ok ((getK kvs k).getD d3)) _ := q4
        rcases t2.val k with ⟨z1, z2⟩ | ⟨v, d', h1, h2, r⟩
        · rw [z1]; rw [z2] at q4; exact q4.now s3.fh _ r3
        · rw [h1]; rw [h2] at q4; exact q4.now s3.fh _ r
/-- {} -/
theorem do_dnew [Tb] : DO X W ph (.Dict [] [] pos) (gC (.dict [])) := pe_imp pe_dnewT fun σ H Q ⟨F, rho, n, q⟩ => by
  intro p hp
  exact q.ok (Step.hid n.fh hp) p _ hp (same_none n.fh hp) upd_same ⟨Nat.zero_le _, .nil⟩
/-- d[k] = e, d one's own -/
def gPutD (i : Nat) (gk ge : Rw → Rs PyData) : Rw → SR := fun rho => thenS (ge rho) rho fun d => thenS (gk rho) rho fun k => match look rho i, keyK k with
  | .dict kvs, some k => if kvs.length < sizeLine then .nx (rho.set i (.dict (putKD kvs k d))) else .er .bad rho
  | _, _ => .er .bad rho
theorem RpE.putLen {es : List (List Key × V)} (k : List Key) (v : V) (h : es.length < sizeLine) : (putK es k v).length ≤ sizeLine := Nat.le_trans (length_putK es k v) h
theorem ds_putD [Tb] (i : Nat) {x : Str} {k : Expr} {gk : Rw → Rs PyData} {p1 p2 : Pos} (hu : X.A.units + 65 < cLine) (hk : DE X W ph k gk) (he : DE X W ph e ge) (h : ph[i]? = some .ow := by rfl) (hN : X.N[i]? = some x := by rfl) (hv : Vis X.env.scope x := by first | exact Or.inl rfl | exact Or.inr (Or.inl rfl) | exact Or.inr (Or.inr rfl)) (w : wk ph C.e = true := by rfl)
    (hd : (x == ("__debug__" : Str)) = false := by decide) (hcd : (x == ("__classdict__" : Str)) = false := by decide) (hs : swapsWith e (some (.Subscript (.Name x p1) k p2)) pos.line X.env = pure false := by rfl) : DS X W C ph ph (.Assign [.Subscript (.Name x p1) k p2] e pos) (gPutD i gk ge) :=
  ps_imp (ps_dput (by omega) (pe_var hN hv hd hcd) hk he hs) fun D σ H ⟨F0, H0, F, rho, n, q⟩ => ⟨F, rho, n.en, aft_then n w q fun d F1 H1 s1 q1 v rv => by
    obtain ⟨p, o, e1, f1, h2, r⟩ := n.en.ow h
    refine ⟨.ref p, e1, F1, rho, (n.step s1).en, aft_then (n.step s1) w q1 fun kd F2 H2 s2 q2 kv rk => ?_⟩
    have n2 := (n.step s1).step s2
    cases ed : look rho i with
    | dict kvs =>
      cases ek : keyK kd with
      | none => simp only [ed, ek] at q2; exact False.elim q2
      | some kk =>
        simp only [ed, ek] at q2
        split at q2
        · rename_i hz
          obtain ⟨b, rfl, hb, _⟩ := key_rp rk ek
          obtain ⟨p', o', e1', f', h2', r'⟩ := n2.en.ow h
          rw [e1] at e1'; cases e1'
          rw [ed] at r'
          cases o' with
          | dT es =>
            obtain ⟨z, t⟩ := r'
            have hz' : es.length < sizeLine := by rw [t.length]; exact hz
            refine ⟨p, _, rfl, DPut.t h2' (s2.fh _ _ hb) hz', ?_⟩
            exact q2 σ F2 _ (n2.mut h e1 ⟨RpE.putLen kk v hz', t.put kk (rv.mono s2.f)⟩)
          | _ => exact False.elim r'
        · exact False.elim q2
    | _ => simp only [ed] at q2; exact False.elim q2⟩
end
end PD
/-! PDF: zip of two lists or two tuples. -/
namespace PD
open PySem L2
def pairsD (xs ys : List PyData) : List PyData := List.zipWith (fun a b => .tuple [a, b]) xs ys
def zip2 : PyData → PyData → Option (List PyData)
  | .tuple xs, .tuple ys => some (pairsD xs ys)
  | .list xs, .list ys => some (pairsD xs ys)
  | _, _ => none
theorem pairsD_get {xs ys : List PyData} {i : Nat} {d : PyData} (h : (pairsD xs ys)[i]? = some d) : ∃ a b, xs[i]? = some a ∧ ys[i]? = some b ∧ d = .tuple [a, b] := by
  unfold pairsD at h
  rw [List.getElem?_zipWith] at h
  cases e1 : xs[i]? with
  | none => rw [e1] at h; cases h
  | some a =>
    cases e2 : ys[i]? with
    | none => rw [e1, e2] at h; cases h
    | some b => rw [e1, e2] at h; cases h; exact ⟨a, b, rfl, rfl, rfl⟩
section
variable {X : Cx} {W : WX} {ph : List Fl} {e f a b : Expr} {pos : Pos} {ga gb : Rw → Rs PyData}
theorem pair_new [Tb] {K : PySem.W.Frag} {F1 H1 : Hp} {T : Addr} {x y : V} {a b : PyData} (s : Same F1 H1) (h : H1 T = none) (r1 : Rp K F1 x a) (r2 : Rp K F1 y b) : ∃ F2, Step F1 H1 F2 (upd H1 T (.tup [x, y])) ∧ Rp K F2 (.ref T) (.tuple [a, b]) :=
  ⟨_, Step.new s h, .tup upd_same (sl2 _ (by simp)) (.cons (r1.mono (same_upd (same_none s h))) (.cons (r2.mono (same_upd (same_none s h))) .nil))⟩
where sl2 (n : Nat) (h : n ≤ 2) : n ≤ sizeLine := by rw [sizeLine_eq]; omega
theorem its_zipT [Tb] {K : PySem.W.Frag} {F1 H1 : Hp} {p q : Addr} {vs ws : List V} {ds es : List PyData} (s : Same F1 H1) (h1 : H1 p = some (.tup vs)) (h2 : H1 q = some (.tup ws)) (z : vs.length ≤ sizeLine) (t1 : RpL K F1 vs ds) (t2 : RpL K F1 ws es) : Its K (RZ.ItzT K p q) F1 H1 (pairsD ds es) := by
  have hl : (pairsD ds es).length = min ds.length es.length := by unfold pairsD; exact List.length_zipWith
  refine ⟨by rw [hl, ← t1.length]; exact Nat.le_trans (Nat.min_le_left _ _) z, fun i d hd => ?_, ⟨_, _, .of h1, .of h2, by rw [hl, t1.length, t2.length]; omega⟩⟩
  obtain ⟨a, b, e1, e2, rfl⟩ := pairsD_get hd
  obtain ⟨v, ev, r1⟩ := t1.get e1
  obtain ⟨w, ew, r2⟩ := t2.get e2
  refine ⟨⟨_, _, _, _, .of h1, .of h2, ev, ew⟩, fun x H2 hy => ?_⟩
  obtain ⟨T, x1, x2, rfl, hT, rfl, k1, k2⟩ := hy
  have k1 := k1 _ (.of h1)
  have k2 := k2 _ (.of h2)
  rw [ev] at k1; cases k1
  rw [ew] at k2; cases k2
  exact pair_new s hT r1 r2
theorem its_zipL [Tb] {K : PySem.W.Frag} {F1 H1 : Hp} {p q : Addr} {vs ws : List V} {ds es : List PyData} (s : Same F1 H1) (h1 : H1 p = some (.lst vs)) (h2 : H1 q = some (.lst ws)) (z : vs.length ≤ sizeLine) (t1 : RpL K F1 vs ds) (t2 : RpL K F1 ws es) : Its K (Itz K p q) F1 H1 (pairsD ds es) := by
  have hl : (pairsD ds es).length = min ds.length es.length := by unfold pairsD; exact List.length_zipWith
  refine ⟨by rw [hl, ← t1.length]; exact Nat.le_trans (Nat.min_le_left _ _) z, fun i d hd => ?_, ⟨_, _, .of h1, .of h2, by rw [hl, t1.length, t2.length]; omega⟩⟩
  obtain ⟨a, b, e1, e2, rfl⟩ := pairsD_get hd
  obtain ⟨v, ev, r1⟩ := t1.get e1
  obtain ⟨w, ew, r2⟩ := t2.get e2
  refine ⟨⟨_, _, _, _, .of h1, .of h2, ev, ew⟩, fun x H2 hy => ?_⟩
  obtain ⟨T, x1, x2, rfl, hT, rfl, k1, k2⟩ := hy
  have k1 := k1 _ (.of h1)
  have k2 := k2 _ (.of h2)
  rw [ev] at k1; cases k1
  rw [ew] at k2; cases k2
  exact pair_new s hT r1 r2
theorem di_zip2 [Tb] {p tpos : Pos} {elts : List Expr} {kk : Nat} (ha : DE X W ph a ga) (hb : DE X W ph b gb) (hm : X.mg "zip" = none) (hg : Gl X "zip" := by rfl)
    (hs : starEach [a, b] X.env = (false, eval a X.env) :: starEach [b] X.env := by rfl) (hs2 : starEach [b] X.env = (false, eval b X.env) :: starEach [] X.env := by rfl) (hpl : (backTo pos (starEach [b] X.env)).any (·.1) = false := by rfl) :
    DI X W ph (.Tuple elts kk tpos) (.Call (.Name "zip" p) [a, b] [] pos) (gIt2 zip2 ga gb) :=
  pi_imp (RZ.pi_zipA hg hm (L2.pa_cons ha (L2.pa_cons hb L2.pa_nil hs2) hs) hs hpl) fun σ H R ⟨F, rho, n, q⟩ => ⟨F, rho, n, q.bind fun d F1 H1 s1 q1 v r => ⟨F1, rho, n.step s1, q1.bind fun d2 F2 H2 s2 q2 v2 r2 => by
    obtain ⟨ds, e, q3⟩ := q2.lift
    have r := r.mono s2.f
    cases r with
    | tup h1 z1 t1 =>
      cases r2 with
      | tup h2 z2 t2 => cases e; exact ⟨_, _, _, _, rfl, .inr ⟨.of (s2.fh _ _ h1), .of (s2.fh _ _ h2), q3.now s2.fh _ fun F3 H3 x y => its_zipT y (y _ _ (x _ _ h1)) (y _ _ (x _ _ h2)) z1 (t1.mono x) (t2.mono x)⟩⟩
      | _ => cases e
    | lst h1 z1 t1 =>
      cases r2 with
      | lst h2 z2 t2 => cases e; exact ⟨_, _, _, _, rfl, .inl ⟨.of (s2.fh _ _ h1), .of (s2.fh _ _ h2), q3.now s2.fh _ fun F3 H3 x y => its_zipL y (y _ _ (x _ _ h1)) (y _ _ (x _ _ h2)) z1 (t1.mono x) (t2.mono x)⟩⟩
      | _ => cases e
    | _ => cases r2 <;> cases e⟩⟩
end
end PD
/-! PDL: sorted by a key (sum(row), row). -/
namespace PD
open PySem PySem.Spec PyProof.Rows L2
/-- the lambda's own scope: one parameter, the name sum is the module's or a built-in -/
def lamSc (sc : Scope) : Bool := decide (sc.kind = .function) && !sc.isCoroutine && !sc.isGenerator && decide (sc.names = ([(Str.ofString "row", NameKind.local), (Str.ofString "sum", NameKind.globalImplicit)] : List (Str × NameKind)))
theorem reads_ints {h : Heap} : ∀ {ns : List Int} {its : List Value}, Vals (ns.map V.int) its → ReadsAll h its (ns.map PyData.int) []
  | [], _, .nil => .nil
  | n :: ns, _, .cons r t => by
    obtain ⟨u, rfl⟩ := r
    exact ReadsAll.cons (as := []) (bs := []) (.int n u) (reads_ints t)
section
variable {prog : Program} {w : World} {A : Around} {s : Shared}
theorem lam_turn {f c ta : Addr} {q : Str} {params : Arguments} {sc : Scope} {pm ctv : Value} {p1 p2 p3 p4 p5 : Pos} {x1} {ns : List Int} {its : List Value} {mg mb : Str → Option Value}
    (hf : s.heap.get? f = some (PySem.W.kla_obj "<lambda>" q params (.Tuple [.Call (.Name "sum" p1) [.Name "row" p2] [] p3, .Name "row" p4] x1 p5) sc [] pm c ctv))
    (hc : ∃ (oc : Obj) (vs : Array Value) (t : Tok), s.heap.get? c = some oc ∧ oc.data = .fields vs ∧ vs[1]? = some (.str q t))
    (hg : s.heap.Ns mainGlobals mg) (hm : mg "sum" = none) (hb : s.heap.Ns builtinsNs mb) (hbs : mb "sum" = some (.builtin "sum")) (lim : s.heap.NoLimit) (hd : A.depth < recursionLimit) (hh : A.handled = none)
    (ht : IsTup s.heap ta its.toArray) (rv : Vals (ns.map V.int) its) (hsc : lamSc sc = true)
    (hbind : ∀ v : Value, bindArgs (PySem.W.kla_fn "<lambda>" q params (.Tuple [.Call (.Name "sum" p1) [.Name "row" p2] [] p3, .Name "row" p4] x1 p5) sc [] pm (.ref c) ctv) ⟨[v], []⟩ = pure [((Str.ofString "row", v) : Str × Value)]) :
    wpAny (model prog w) A (call (.ref f) [.ref ta]) (PySem.W.KeyPure (.tuple [.int ns.sum, .tuple (ns.map PyData.int)]) s) (fun _ _ => False) s := by
  unfold lamSc at hsc
  simp only [Bool.and_eq_true, decide_eq_true_eq, Bool.not_eq_true'] at hsc
  obtain ⟨⟨⟨k1, k2⟩, k3⟩, k4⟩ := hsc
  obtain ⟨oc, vs, t, hoc, hdc, hvc⟩ := hc
  refine wpAny_call ?_
  refine PySem.W.kla_callFunE hd hf rfl k2 k3 rfl ⟨c, oc, vs, t, rfl, hoc, hdc, hvc⟩ ?_
  rw [hbind]
  refine wpAny_pure (wpAny_newFunctionEnv (fun y hy => ?_) (fun y hy => ?_) (fun h1 hns hsb => ⟨lim.fresh _ hsb, ?_⟩) k1)
  · have hy : y ∈ sc.names := hy
    rw [k4] at hy
    simp only [List.mem_cons, List.not_mem_nil, or_false] at hy
    rcases hy with rfl | rfl <;> decide
  · obtain rfl := List.mem_singleton.mp hy
    show sc.names.lookup (Str.ofString "row") = some NameKind.local
    rw [k4]; decide
  have kp : ∀ b o, s.heap.get? b = some o → h1.get? b = some o := fun b o e => hsb.extBut b o (Nat.ne_of_lt (Heap.lt_size e)) (Heap.get?_push_of_some _ e)
  refine PySem.W.kla_codeExpr ?_
  refine wpAny_Tuple_spliced ?_
  have ht1 : IsTup h1 ta its.toArray := by obtain ⟨o, e, r⟩ := ht; exact ⟨o, kp _ _ e, r⟩
  have kr : sc.names.lookup (Str.ofString "row") = some NameKind.local := by rw [k4]; decide
  have ks : sc.names.lookup (Str.ofString "sum") = some NameKind.globalImplicit := by rw [k4]; decide
  have hrow : ∀ (h2 : Heap) (tk : Nat) (Q : Value → Shared → Prop) (E : Value → Shared → Prop) (pos : Pos), (∀ b o, h1.get? b = some o → h2.get? b = some o) → Q (.ref ta) { s with heap := h2, toks := tk } →
      wpAny (model prog w) (A.deeper (newEnv sc s.heap.objs.size mainGlobals [] (q ++ ".<locals>.") (some f) (.ref c) none builtinsNs)) (eval (.Name "row" pos) (newEnv sc s.heap.objs.size mainGlobals [] (q ++ ".<locals>.") (some f) (.ref c) none builtinsNs)) Q E { s with heap := h2, toks := tk } := fun h2 tk Q E pos hk hq =>
    wpAny_Name (wpAny_loadName_local k1 kr (hns.keeps hk) rfl hq) (by decide)
  have hrow0 := hrow h1 (s.toks + 1)
  show wpAny (model prog w) (A.deeper (newEnv sc s.heap.objs.size mainGlobals [] (q ++ ".<locals>.") (some f) (.ref c) none builtinsNs)) (spliced ((false, eval (.Call (.Name "sum" p1) [.Name "row" p2] [] p3) (newEnv sc s.heap.objs.size mainGlobals [] (q ++ ".<locals>.") (some f) (.ref c) none builtinsNs)) :: [(false, eval (.Name "row" p4) (newEnv sc s.heap.objs.size mainGlobals [] (q ++ ".<locals>.") (some f) (.ref c) none builtinsNs))])) _ _ _
  refine Calls.spliced_cons ?_
  refine wpAny_Call_Name_kw (Calls.Name_function_global k1 ks (Calls.loadGlobal_builtin (hg.keeps kp) hm (hb.keeps kp) hbs ?_))
  refine PyProof.Rows.callWith_builtin1 (e := .Name "row" p2) (rest := []) ?_
  show wpAny _ _ (spliced [(false, eval (.Name "row" p2) (newEnv sc s.heap.objs.size mainGlobals [] (q ++ ".<locals>.") (some f) (.ref c) none builtinsNs))]) _ _ _
  refine Calls.spliced_cons (hrow h1 _ _ _ _ (fun _ _ e => e) (Calls.spliced_nil ?_))
  have hlt : ta < h1.objs.size := by obtain ⟨_, e, _⟩ := ht1; exact Heap.lt_size e
  refine call_sum_walkG (wpAny_pyIter_tuple (show h1.IsTuple ta its.toArray from ht1) ?_)
  refine ⟨_, _, _, _, _, _, fun i => ns.getD i 0, rfl, Walks.tuple (A := (A.deeper (newEnv sc s.heap.objs.size mainGlobals [] (q ++ ".<locals>.") (some f) (.ref c) none builtinsNs)).in1) hh h1.objs.size ta (Nat.ne_of_lt hlt) its.toArray, ⟨⟨_, Heap.get?_push_size _ rfl, rfl, rfl⟩, ?_⟩, fun b hb => ?_, fun i v hv => vals_int_at rv (by simpa using hv), fun h' tk t' hk => ?_⟩
  · obtain ⟨o, e, r⟩ := ht1; exact ⟨o, Heap.get?_push_of_some _ e, r⟩
  · show b < (h1.push _).objs.size
    rw [Heap.size_push]
    rcases List.mem_cons.mp hb with rfl | hb
    · exact Nat.lt_succ_self _
    · have : b = ta := by simpa using hb
      subst this; exact Nat.lt_succ_of_lt hlt
  have k2' : ∀ b o, h1.get? b = some o → h'.get? b = some o := fun b o e => hk b o (fun hm => by
    have : b = h1.objs.size := by simpa using hm
    exact absurd (this ▸ Heap.lt_size e) (Nat.lt_irrefl _)) (Heap.get?_push_of_some _ e)
  refine Calls.spliced_cons (hrow h' tk _ _ _ k2' (Calls.spliced_nil ?_))
  refine ⟨by rw [sizeLine_eq]; simp, ?_⟩
  refine ⟨_, _, rfl, fun b o e => Heap.get?_push_of_some _ (k2' _ _ (kp _ _ e)), ?_⟩
  have hl := rv.length
  rw [List.length_map] at hl
  have hsum : preSum (fun i => ns.getD i 0) its.toArray.size = ns.sum := by rw [preSum_take, List.take_of_length_le (by simp; omega)]
  rw [hsum]
  refine Reads.tuple (as := []) (Heap.get?_push_size _ rfl) rfl rfl ?_
  refine ReadsAll.cons (as := []) (bs := []) (.int _ _) (ReadsAll.cons (as := []) (bs := []) ?_ .nil)
  obtain ⟨o, e, r1, n, r2⟩ := ht1
  refine Reads.tuple (as := []) (Heap.get?_push_of_some _ (k2' _ _ e)) r1 r2 ?_
  exact reads_ints rv
end
section
variable {X : Cx} {pins : List (Addr × Obj)} {σ : L2.St} {F H : Hp} {s : Shared}
/-- the lambda is made: a step that at most lengthens the maker's table -/
theorem lam_new [Tb] {c P : Addr} {params : Arguments} {body : Expr} {sc : Scope} {pos : Pos} {E : Value → Shared → Prop} {Q : Value → Shared → Prop} (I : Inv X pins σ H s) (sF : Same F H) (T : TbOk F H) (B : LamX.TabB X.base X.mg c P) (hcode : X.env.code = .ref c)
    (hin : (P, X.env.qual ++ "<lambda>") ∈ Tb.tab) (one : ∀ p ∈ Tb.tab, p.1 = P → p.2 = X.env.qual ++ "<lambda>") (dflt : defaultsOf params X.env = ([], [])) (nofree : ∀ y ∈ sc.names, y.2 ≠ .free)
    (go : ∀ (f c' : Addr) (pm ctv : Value) (H1 : Hp) (s1 : Shared), Inv X pins σ H1 s1 → Step F H F H1 → s1.heap.get? f = some (PySem.W.kla_obj "<lambda>" (X.env.qual ++ "<lambda>") params body sc (cloFrom X.env.cells sc.names []) pm c' ctv) →
      (∃ (oc : Obj) (vs : Array Value) (t : Tok), s1.heap.get? c' = some oc ∧ oc.data = .fields vs ∧ vs[1]? = some (.str (X.env.qual ++ "<lambda>") t)) → Q (.ref f) s1) :
    wpAny (model X.prog X.w) X.A (eval (.Lambda params body sc pos) X.env) Q E s := by
  have clo := closure_ok (env := X.env) (scope := sc) fun y hy e => absurd e (nofree y hy)
  obtain ⟨fP, ps, hP, trip, known⟩ := T.1 _ hin
  have tabObj : s.heap.get? P = some { cls := .none, data := .fields ps } := I.hok P _ hP
  have bP : s.heap.BuiltinsAt X.mg P := B.bm.keeps I.bk
  refine PySem.W.kla_eval dflt ?_
  by_cases found : ∃ cv, codeAmong pos ps.toList = some cv
  · obtain ⟨cv, ef⟩ := found
    obtain ⟨c', rfl, eC⟩ := known pos cv ef
    refine PySem.W.kla_makeFunctionHit (ps := ps) (c := c) clo I.ok.glob (I.mod.glob.keeps I.bk) hcode (B.code.keeps I.bk) tabObj trip ef bP fun ctv h2 tk keep size => ?_
    refine go h2.objs.size c' _ ctv H _ (I.kept fun b o e => Heap.get?_push_of_some _ (keep b o e)) (.refl sF) (Heap.get?_push_size _ rfl) ?_
    obtain ⟨⟨oc, vs, t, g1, g2, g3⟩, _⟩ := I.hok c' _ eC
    exact ⟨oc, vs, t, Heap.get?_push_of_some _ (keep _ _ g1), g2, g3⟩
  · have ef : codeAmong pos ps.toList = none := by
      cases h : codeAmong pos ps.toList with
      | none => rfl
      | some cv => exact absurd ⟨cv, h⟩ found
    refine PySem.W.kla_makeFunction (ps := ps) (c := c) clo I.ok.glob (I.mod.glob.keeps I.bk) hcode (B.code.keeps I.bk) tabObj trip ef B.gP bP fun c' ctv h2 tk keep low high rec tabNow => ?_
    obtain ⟨c2, oc, vs, t, e2, g1, g2, g3⟩ := rec
    cases e2
    have newC : H c' = none := I.hok.fresh low
    have neP : P ≠ c' := ne_of_none hP newC
    have J := LamX.inv_table (t' := tk) (more := #[rawInt pos.line, rawInt pos.col, .ref c']) (h' := h2.push (PySem.W.kla_obj "<lambda>" (X.env.qual ++ "<lambda>") params body sc (cloFrom X.env.cells sc.names []) ((X.mg "__name__").getD .none) c' ctv)) I hP
      (fun b o nb e => Heap.get?_push_of_some _ (keep b o nb e)) (Heap.get?_push_of_some _ tabNow) low ⟨oc, vs, t, Heap.get?_push_of_some _ g1, g2, g3⟩
    refine go h2.objs.size c' _ ctv _ _ J ⟨Same.refl _, fun b o e => ?_, fun b o e => ?_, fun _ h _ => h, fun _ => ⟨fun p hp => ?_, tupIn_hid (tupIn_hid T.2 fun _ z => by cases z) fun _ z => by cases z⟩⟩ (Heap.get?_push_size _ rfl) ⟨oc, vs, t, Heap.get?_push_of_some _ g1, g2, g3⟩
    · rw [upd_ne (ne_of_none (sF _ _ e) newC), upd_ne (ne_of_none e fP)]; exact sF _ _ e
    · by_cases hb : b = P
      · subst hb
        rw [hP] at e; cases e
        exact ⟨_, by rw [upd_ne neP, upd_same], fun z => absurd rfl (z ps)⟩
      · exact ⟨o, by rw [upd_ne (ne_of_none e newC), upd_ne hb]; exact e, fun _ => rfl⟩
    · obtain ⟨f1, qs, q1, q2, q3⟩ := T.1 p hp
      refine ⟨f1, ?_⟩
      have codes : ∀ c0 q, H c0 = some (LamX.CodeO c0 q) → upd (upd H P (.tbl (ps ++ #[rawInt pos.line, rawInt pos.col, .ref c']))) c' (LamX.CodeO c' (X.env.qual ++ "<lambda>")) c0 = some (LamX.CodeO c0 q) := fun c0 q e => by
        rw [upd_ne (ne_of_none e newC), upd_ne (fun z => by subst z; rw [hP] at e; exact LamX.codeO_ne _ (Option.some.inj e).symm)]; exact e
      by_cases hb : p.1 = P
      · have eq := one p hp hb
        rw [hb, eq]
        have lst : (ps ++ #[rawInt pos.line, rawInt pos.col, .ref c']).toList = ps.toList ++ [rawInt pos.line, rawInt pos.col, .ref c'] := by simp
        refine ⟨_, by rw [upd_ne neP, upd_same], by rw [lst]; exact PySem.TriplesOk_snoc _ _ _ _ trip, fun p' cv hcv => ?_⟩
        rw [lst] at hcv
        rcases LamX.among_app _ trip hcv with z | z
        · obtain ⟨c0, e1, e2⟩ := known p' cv z
          exact ⟨c0, e1, codes _ _ e2⟩
        · exact ⟨c', z, upd_same⟩
      · refine ⟨qs, by rw [upd_ne (ne_of_none q1 newC), upd_ne hb]; exact q1, q2, fun p' cv hcv => ?_⟩
        obtain ⟨c0, e1, e2⟩ := q3 p' cv hcv
        exact ⟨c0, e1, codes _ _ e2⟩
end
/-- the key of a row of whole numbers -/
def keyRow (d : PyData) : PyData := match d with
  | .tuple ds => .tuple [.int (((intsD ds).getD []).sum), d]
  | d => d
def rowOk : PyData → Bool
  | .tuple ds => (intsD ds).isSome
  | _ => false
def dSortK : List PyData → Option PyData
  | [.list ds] => if (ds.all rowOk && sortOk (ds.map keyRow) && decide (ds.length ≤ sizeLine)) = true then some (.list (ds.mergeSort (fun a b => !PySem.W.dataLt (keyRow b) (keyRow a)))) else none
  | _ => none
section
variable {X : Cx} {W : WX} {ph : List Fl} {e : Expr} {ge : Rw → Rs PyData}
theorem do_sortKey [Tb] {c P : Addr} {params : Arguments} {sc : Scope} {p pos kpos lpos p1 p2 p3 p4 p5 : Pos} {x1} (hr : Room 3 X.A) (hc : X.calm = true) (he : DE X W ph e ge) (hm : X.mg "sorted" = none) (hms : X.mg "sum" = none) (B : LamX.TabB X.base X.mg c P) (hcode : X.env.code = .ref c)
    (hin : (P, X.env.qual ++ "<lambda>") ∈ Tb.tab) (one : ∀ q ∈ Tb.tab, q.1 = P → q.2 = X.env.qual ++ "<lambda>") (hsc : lamSc sc = true := by rfl) (dflt : defaultsOf params X.env = ([], []) := by rfl) (hg : Gl X "sorted" := by rfl)
    (hbind : ∀ (q : Str) (pm cv ctv v : Value), bindArgs (PySem.W.kla_fn "<lambda>" q params (.Tuple [.Call (.Name "sum" p1) [.Name "row" p2] [] p3, .Name "row" p4] x1 p5) sc [] pm cv ctv) ⟨[v], []⟩ = pure [((Str.ofString "row", v) : Str × Value)] := by intro _ _ _ _ _; rfl)
    (hs : backTo pos (starEach [e] X.env) = (false, eval e X.env) :: backTo pos (starEach [] X.env) := by rfl) (hpl : (backTo pos (starEach [e] X.env)).any (·.1) = false := by rfl) (hs2 : starEach [e] X.env = (false, eval e X.env) :: starEach [] X.env := by rfl) :
    DO X W ph (.Call (.Name "sorted" p) [e] [⟨some "key", .Lambda params (.Tuple [.Call (.Name "sum" p1) [.Name "row" p2] [] p3, .Name "row" p4] x1 p5) sc lpos, kpos⟩] pos) (gL dSortK (gCons ge gNil)) := by
  refine ⟨fun pins s σ H Q I h => ?_⟩
  obtain ⟨F, rho, n, q⟩ := h
  have q : Aft X.mg W σ F H (ge rho >>= fun x => lift (dSortK [x])) (fun d F' H' => ∀ (p : Addr) (o : HO), H p = none → F' p = none → H' p = some o → RepO X.K F' o d → Q (.ref p) H') := by
    have := q
    unfold gL gCons gNil at this
    cases eg : ge rho with
    | ok d => rw [eg] at this; exact this
    | error er => rw [eg] at this; exact this
  have nofree : ∀ y ∈ sc.names, y.2 ≠ .free := by
    unfold lamSc at hsc
    simp only [Bool.and_eq_true, decide_eq_true_eq] at hsc
    intro y hy
    rw [hsc.2] at hy
    simp only [List.mem_cons, List.not_mem_nil, or_false] at hy
    rcases hy with rfl | rfl <;> decide
  have clo : cloFrom X.env.cells sc.names [] = [] := by
    unfold lamSc at hsc
    simp only [Bool.and_eq_true, decide_eq_true_eq] at hsc
    rw [hsc.2]; rfl
  refine wpAny_Call_Name_kw (ld_blt I hg hm (show bootBuiltins "sorted" = some (.builtin "sorted") by decide +kernel) ?_ (by decide) (by decide))
  refine PyProof.Rows.callWith_kw ?_ hs hpl rfl rfl
  show wpAny _ _ (spliced (backTo pos (starEach [e] X.env))) _ _ s
  rw [hs]
  refine Calls.spliced_cons (thn (he.run pins s σ H (fun v H1 => ∃ F1 d, Step F H F1 H1 ∧ Rp X.K F1 v d ∧ Aft X.mg W σ F1 H1 (lift (dSortK [d])) (fun d F' H' => ∀ (p : Addr) (o : HO), H p = none → F' p = none → H' p = some o → RepO X.K F' o d → Q (.ref p) H')) I ⟨F, rho, n, q.bind fun d1 F1 H1 s1 q1 v1 r1 => ⟨F1, d1, s1, r1, q1⟩⟩) fun u s1 ⟨v, H1, I1, rv, F1, d, st1, rp, q1⟩ => ?_)
  refine Calls.spliced_nil ?_
  obtain ⟨z, ez, q2⟩ := q1.lift
  unfold dSortK at ez
  split at ez
  · rename_i _ ds ed
    cases ed
    split at ez
    · rename_i hok
      cases ez
      simp only [Bool.and_eq_true, decide_eq_true_eq] at hok
      obtain ⟨⟨ok1, ok2⟩, ok3⟩ := hok
      obtain ⟨sh, al, so⟩ := sortOk_of ok2
      show wpAny _ _ (evalAll [do let v ← eval (.Lambda params (.Tuple [.Call (.Name "sum" p1) [.Name "row" p2] [] p3, .Name "row" p4] x1 p5) sc lpos) X.env; standAt pos; pure v]) _ _ s1
      refine wpAny_evalAll_cons (wpAny_bind (lam_new I1 st1.fh (st1.t n.tb) B hcode hin one dflt nofree fun f c' pm ctv H2 s2 I2 st2 hf hco => wpAny_bind (wpAny_standAt (wpAny_pure (wpAny_evalAll_nil ?_)))))
      rw [clo] at hf
      show wpAny _ _ (call (.builtin "sorted") [u] [(Str.ofString "key", .ref f)]) _ _ s2
      have rp2 := rp.mono st2.f
      cases rp with
      | @lst a ws _ hF hz ht =>
        cases rv
        obtain ⟨its, vls, pl, _⟩ := I2.list (SqL.of (st2.fh _ _ hF))
        have il : s2.heap.IsList a its.toArray := by obtain ⟨o, m, e1, e2, _, e4⟩ := pl; exact ⟨o, e1, e2, m, e4⟩
        have er := each_of ht vls
        refine PySem.W.sorted_key_data (R := fun v d => ∃ x, RelV x v ∧ Rp X.K F1 x d) (bs := ds) (f := .ref f) (b := false) keyRow il er al so ok3 (fun x hx => ?_) (PyProof.Rows.ksk_s1 _ _) (fun _ => PyProof.Rows.ksk_l1 _ _) (fun _ => PyProof.Rows.ksk_t1 _ _) (fun v x ⟨y, ry, rx⟩ hx h3 tk keep => ?_) fun out cc h4 tk keep fresh hat hlen hout => ?_
        · have := (shaped_item sh (List.mem_map_of_mem (f := keyRow) hx)).2
          have := hr.un
          omega
        · have rowx := List.all_eq_true.mp ok1 x hx
          cases x with
          | tuple es =>
            cases ei : intsD es with
            | none => simp [rowOk, ei] at rowx
            | some ns =>
              have ee := intsD_eq ei
              subst ee
              cases rx with
              | @tup ta xs _ hT hzT tT =>
                rw [rpl_ints tT] at hT
                cases ry
                obtain ⟨ti, tv, tt, _⟩ := I2.tuple (SqT.of (st2.fh _ _ hT))
                obtain ⟨mb, hb1, hb2⟩ := I2.mod.blt
                have kr : keyRow (.tuple (ns.map PyData.int)) = .tuple [.int ns.sum, .tuple (ns.map PyData.int)] := by
                  show PyData.tuple [.int (((intsD (ns.map PyData.int)).getD []).sum), _] = _
                  rw [intsD_map]; rfl
                rw [kr]
                obtain ⟨oc, vs, t, g1, g2, g3⟩ := hco
                obtain ⟨to, te, tr⟩ := tt
                refine lam_turn (s := { s2 with heap := h3, toks := tk }) (mg := X.mg) (mb := mb) (keep _ _ hf) ⟨oc, vs, t, keep _ _ g1, g2, g3⟩ ((I2.mod.glob.keeps I2.bk).keeps keep) hms ((hb1.keeps I2.bk).keeps keep) ((hb2 "sum" (by decide)).trans (by decide +kernel)) (I2.nolimit.keeps keep) ?_ hr.hd ⟨to, keep _ _ te, tr⟩ tv hsc (hbind _ _ _ _)
                have := hr.dp
                show X.A.depth < recursionLimit
                omega
          | _ => cases rowx
        · obtain ⟨ys, ry, rz⟩ := of_each hout
          have hp : s2.heap.objs.size ≤ s2.heap.objs.size + 1 := Nat.le_succ _
          have hf2 : H2 (s2.heap.objs.size + 1) = none := I2.hok.fresh hp
          have hl2 : ys.length ≤ sizeLine := by rw [ry.length, List.length_mergeSort]; exact ok3
          have st3 : Step F1 H1 F1 (upd H2 (s2.heap.objs.size + 1) (.lst ys)) := st2.trans (Step.hid st2.fh hf2)
          exact ⟨.ref _, _, I2.laid (t' := tk) (o := .lst ys) keep hp ⟨hl2, out, cc, rz, hat⟩, rfl, q2.ok st3 _ _ (st1.h.free (st2.h.free hf2)) (same_none st2.fh hf2) upd_same ⟨hl2, ry⟩⟩
    · cases ez
  · cases ez
end
end PD
/-! PDSa: set tables of up to 512 slots. -/
namespace PD
open PySem PySem.Spec PyProof.Rows L2
def MaskB (m : Nat) : Prop := MaskOk m ∨ m = 511
theorem MaskB.odd {m : Nat} (h : MaskB m) : m % 2 = 1 := by
  rcases h with h | h
  · exact mask_odd h
  · rw [h]
theorem MaskB.four {m : Nat} (h : MaskB m) : m = 7 ∨ m = 31 ∨ m = 127 ∨ m = 511 := by
  rcases h with (h | h | h) | h <;> simp [h]
/-! ### the round of 512 -/
def orbB : Nat → Nat → List Nat
  | 0, _ => []
  | n + 1, x => x :: orbB n ((x * 5 + 1) % 512)
theorem lcgI_step (m x : Nat) : ∀ k, lcgI m x (k + 1) = lcgI m ((x * 5 + 1) % (m + 1)) k
  | 0 => rfl
  | k + 1 => by
    show (lcgI m x (k + 1) * 5 + 1) % (m + 1) = (lcgI m ((x * 5 + 1) % (m + 1)) k * 5 + 1) % (m + 1)
    rw [lcgI_step m x k]
theorem lcgI_add (m : Nat) : ∀ (a x k : Nat), lcgI m x (a + k) = lcgI m (lcgI m x a) k
  | 0, x, k => by rw [Nat.zero_add]; rfl
  | a + 1, x, k => by
    rw [show a + 1 + k = (a + k) + 1 by omega, lcgI_step, lcgI_add m a, ← lcgI_step]
theorem orb_mem : ∀ (n x y : Nat), y ∈ orbB n x → ∃ k, k < n ∧ lcgI 511 x k = y
  | 0, _, _, h => by simp [orbB] at h
  | n + 1, x, y, h => by
    rcases List.mem_cons.mp h with e | e
    · exact ⟨0, Nat.succ_pos n, e.symm⟩
    · obtain ⟨k, hk, ek⟩ := orb_mem n _ y e
      exact ⟨k + 1, Nat.succ_lt_succ hk, by rw [lcgI_step]; exact ek⟩
theorem orb_all : ((List.range 512).all fun j => (orbB 512 0).contains j) = true := by decide +kernel
theorem orb_back : lcgI 511 0 512 = 0 := by decide +kernel
theorem orb_at {j : Nat} (hj : j ≤ 511) : ∃ k, k < 512 ∧ lcgI 511 0 k = j := by
  have := List.all_eq_true.mp orb_all j (List.mem_range.mpr (by omega))
  exact orb_mem 512 0 j (by simpa using this)
theorem orb_from {i j : Nat} (hi : i ≤ 511) (hj : j ≤ 511) : ∃ k, k ≤ 511 ∧ lcgI 511 i k = j := by
  obtain ⟨a, la, ea⟩ := orb_at hi
  obtain ⟨b, lb, eb⟩ := orb_at hj
  by_cases c : a ≤ b
  · exact ⟨b - a, by omega, by rw [← ea, ← lcgI_add, show a + (b - a) = b by omega, eb]⟩
  · exact ⟨b + 512 - a, by omega, by rw [← ea, ← lcgI_add, show a + (b + 512 - a) = 512 + b by omega, lcgI_add, orb_back, eb]⟩
theorem runB {m : Nat} (hm : MaskB m) (h : Int) {j : Nat} (hj : j ≤ m) : ∃ n, n ≤ m + 12 ∧ runI m (SetTable.bits h) n = j := by
  rcases hm with hm | rfl
  · exact run_meets hm h hj
  · obtain ⟨k, hk, e⟩ := orb_from (runI_le 511 (SetTable.bits h) 12) hj
    exact ⟨12 + k, Nat.add_comm 12 k ▸ Nat.add_le_add_right hk 12, (runI_tail (bits_lt h) k).trans e⟩
theorem wayB {m : Nat} (hm : MaskB m) (h : Int) {j : Nat} (hj : j ≤ m) : ∃ k, k < 10 * SetTable.turns m ∧ way m h k = j := by
  obtain ⟨n, hn, e⟩ := runB hm h hj
  obtain ⟨k, hk, e2⟩ := run_nth m (SetTable.bits h) n
  refine ⟨k, ?_, (congrArg SetTable.Probe.j e2).trans e⟩
  unfold SetTable.turns
  omega
theorem way_in (m : Nat) (h : Int) (k : Nat) : way m h k ≤ m := by
  have hi : SetTable.bits h % (m + 1) ≤ m := Nat.le_of_lt_succ (Nat.mod_lt _ (Nat.succ_pos m))
  obtain ⟨r1, r2, _⟩ := runEnd_bd hi
  have := nth_in (m := m) k (runAt m (SetTable.bits h % (m + 1)) (SetTable.bits h)) (by
    unfold runAt
    dsimp only
    omega)
  exact Nat.le_trans (Nat.le_add_right _ _) this
/-! ### tables -/
structure TabB (t : SetTable) (hs : List Int) : Prop where
  ris : Ris t.place.toList
  dm : t.dummies = #[]
  sz : t.place.size = hs.length
  mok : MaskB t.mask
  bd : ∀ x ∈ t.place.toList, x ≤ t.mask
  reach : ∀ (i j : Nat) (h : Int), hs[i]? = some h → t.place.toList[i]? = some j → ∃ k, way t.mask h k = j ∧ ∀ c, c < k → way t.mask h c ∈ t.place.toList
theorem TabB.gap {t : SetTable} {hs : List Int} (T : TabB t hs) (hl : hs.length ≤ t.mask) (h : Int) : ∃ K, K < 10 * SetTable.turns t.mask ∧ way t.mask h K ∉ t.place.toList ∧ ∀ c, c < K → way t.mask h c ∈ t.place.toList := by
  have z : t.place.toList.length < t.mask + 1 := by have := T.sz; rw [Array.length_toList]; omega
  obtain ⟨j, hj, hn⟩ := st_missing _ _ z
  obtain ⟨k, hk, e⟩ := wayB T.mok h (Nat.le_of_lt_succ hj)
  obtain ⟨K, k1, k2, k3⟩ := st_least (p := fun c => ¬ way t.mask h c ∈ t.place.toList) k (by rw [e]; exact hn)
  exact ⟨K, Nat.lt_of_le_of_lt k1 hk, k2, fun c hc => Classical.byContradiction (k3 c hc)⟩
theorem TabB.ahead {t : SetTable} {hs : List Int} (T : TabB t hs) {h : Int} {K i j : Nat} (hK : way t.mask h K ∉ t.place.toList) (hi : hs[i]? = some h) (hj : t.place.toList[i]? = some j) : ∃ k, k < K ∧ way t.mask h k = j := by
  obtain ⟨k, e, hb⟩ := T.reach i j h hi hj
  by_cases c : k < K
  · exact ⟨k, c, e⟩
  · exfalso
    by_cases d : K = k
    · subst d; rw [e] at hK; exact hK (List.mem_of_getElem? hj)
    · exact hK (hb K (by omega))
theorem TabB.more {t : SetTable} {hs : List Int} (T : TabB t hs) {h : Int} {K j : Nat} (ej : way t.mask h K = j) (hK : j ∉ t.place.toList) (hb : ∀ c, c < K → way t.mask h c ∈ t.place.toList) :
    SetTable.below t.place j ≤ hs.length ∧ TabB (t.put j).1 (hs.take (SetTable.below t.place j) ++ h :: hs.drop (SetTable.below t.place j)) ∧ (t.put j).1.fill = hs.length + 1 := by
  have c1 := (below_cut T.ris j).1
  have pp := put_place t j
  have dm := put_dm T.dm j
  have sz := T.sz
  obtain ⟨p, hp⟩ : ∃ p, p = SetTable.below t.place j := ⟨_, rfl⟩
  rw [← hp] at c1 pp ⊢
  have lp : p ≤ t.place.toList.length := by rw [Array.length_toList]; exact c1
  have lh : p ≤ hs.length := by omega
  have one : t.place[SetTable.below t.place j]? ≠ some j := fun e => hK (List.mem_of_getElem? (by rw [Array.getElem?_toList]; exact e))
  have size : (t.put j).1.place.size = hs.length + 1 := by
    have := congrArg List.length pp
    rw [len_ins _ lp, Array.length_toList, Array.length_toList] at this
    omega
  have old : ∀ x, x ∈ t.place.toList → x ∈ (t.put j).1.place.toList := fun x hx => pp ▸ mem_ins.2 (Or.inr hx)
  have hop : ∀ i j' h', t.place.toList[i]? = some j' → hs[i]? = some h' → ∃ k, way t.mask h' k = j' ∧ ∀ c, c < k → way t.mask h' c ∈ (t.put j).1.place.toList := fun i j' h' a b => by
    obtain ⟨k, e, f⟩ := T.reach i j' h' b a
    exact ⟨k, e, fun c hc => old _ (f c hc)⟩
  refine ⟨lh, { ris := ris_insert T.ris one, dm := dm, sz := by rw [size, len_ins _ lh], mok := T.mok, bd := fun x hx => ?_, reach := fun i j' h' a b => ?_ }, ?_⟩
  · rw [pp, mem_ins] at hx
    exact hx.elim (fun e => by rw [e, ← ej]; exact way_in t.mask h K) (T.bd x)
  · rw [pp] at b
    rw [tins_get _ lp] at b
    rw [tins_get _ lh] at a
    split at a
    · rename_i q; rw [if_pos q] at b; exact hop i j' h' b a
    · rename_i q
      rw [if_neg q] at b
      split at a
      · rename_i q2
        rw [if_pos q2] at b
        cases a; cases b
        exact ⟨K, ej, fun c hc => old _ (hb c hc)⟩
      · rename_i q2; rw [if_neg q2] at b; exact hop (i - 1) j' h' b a
  · unfold SetTable.fill
    rw [size, dm]
    rfl
/-! ### laid anew -/
theorem freeB {m : Nat} (hm : MaskB m) (ow : Array (Option Nat)) (h : Int) {j : Nat} (hj : j ≤ m) (hf : oAt ow j = none) :
    ∃ K, SetTable.layClean.free m ow (SetTable.turns m) (SetTable.bits h % (m + 1)) (SetTable.bits h) = some (way m h K) ∧ oAt ow (way m h K) = none ∧ ∀ c, c < K → oAt ow (way m h c) ≠ none := by
  obtain ⟨n, hn, e⟩ := runB hm h hj
  obtain ⟨f, hf2⟩ : ∃ f, f = off m (SetTable.bits h % (m + 1)) (SetTable.bits h) n := ⟨_, rfl⟩
  have wf : way m h f = j := by
    have := congrArg SetTable.Probe.j (nth_off m n (SetTable.bits h % (m + 1)) (SetTable.bits h))
    rw [itL_run, ← hf2] at this
    exact this.trans e
  obtain ⟨K, k1, k2, k3⟩ := st_least (p := fun c => oAt ow (way m h c) = none) f (by rw [wf]; exact hf)
  refine ⟨K, free_spec m ow _ n _ _ K ?_ (hf2 ▸ k1) (fun c hc => ?_) ?_, k2, k3⟩
  · unfold SetTable.turns; omega
  · have := k3 c hc
    cases z : oAt ow (way m h c) with
    | none => exact absurd z this
    | some _ => rfl
  · have : oAt ow (way m h K) = none := k2
    rw [this]; rfl
theorem stepB {m : Nat} (hm : MaskB m) {done : List Int} {ow : Array (Option Nat)} (W : Own m done ow) (hl : done.length ≤ m) (h : Int) :
    ∃ j, SetTable.layClean.free m ow (SetTable.turns m) (SetTable.bits h % (m + 1)) (SetTable.bits h) = some j ∧ Own m (done ++ [h]) (ow.setIfInBounds j (some done.length)) := by
  obtain ⟨ps, lps, hin⟩ := W.ps
  obtain ⟨q, hq, nq⟩ := st_missing ps (m + 1) (lps ▸ Nat.lt_succ_of_le hl)
  have eq : oAt ow q = none := Classical.byContradiction fun z => nq (hin q (Nat.le_of_lt_succ hq) z)
  obtain ⟨K, f1, f2, f3⟩ := freeB hm ow h (Nat.le_of_lt_succ hq) eq
  obtain ⟨j, hj⟩ : ∃ j, j = way m h K := ⟨_, rfl⟩
  rw [← hj] at f1 f2
  have jm : j ≤ m := hj ▸ way_in m h K
  have js : j < ow.size := W.sz ▸ Nat.lt_succ_of_le jm
  have here := oAt_set_self (some done.length) js
  have away : ∀ i, i ≠ j → oAt (ow.setIfInBounds j (some done.length)) i = oAt ow i := fun i hi => oAt_set_ne _ hi
  have stay : ∀ i, oAt ow i ≠ none → oAt (ow.setIfInBounds j (some done.length)) i ≠ none := fun i hi => by
    by_cases c : i = j
    · subst c; exact absurd f2 hi
    · rw [away i c]; exact hi
  refine ⟨j, f1, { sz := (Array.size_setIfInBounds ..).trans W.sz, at_ := fun i k hi e => ?_, all := fun k hk => ?_, ps := ⟨j :: ps, by simp [lps], fun i hi e => ?_⟩ }⟩
  · by_cases c : i = j
    · subst c
      rw [here] at e
      cases e
      exact ⟨h, K, by simp, hj.symm, fun k' hk' => stay _ (f3 k' hk')⟩
    · rw [away i c] at e
      obtain ⟨h2, K2, a1, a2, a3⟩ := W.at_ i k hi e
      have lk := (List.getElem?_eq_some_iff.mp a1).1
      exact ⟨h2, K2, (List.getElem?_append_left lk).trans a1, a2, fun k' hk' => stay _ (a3 k' hk')⟩
  · by_cases c : k = done.length
    · exact ⟨j, jm, c ▸ here⟩
    · obtain ⟨i, hi, e⟩ := W.all k (by simp at hk; omega)
      refine ⟨i, hi, (away i fun z => ?_).trans e⟩
      rw [z, f2] at e; cases e
  · by_cases c : i = j
    · exact c ▸ List.mem_cons_self
    · rw [away i c] at e
      exact List.mem_cons_of_mem _ (hin i hi e)
theorem foldB {m : Nat} (hm : MaskB m) : ∀ (rest done : List Int) (ow : Array (Option Nat)), Own m done ow → done.length + rest.length ≤ m →
    ∃ ow', rest.foldl (stepF m) (some (ow, done.length)) = some (ow', done.length + rest.length) ∧ Own m (done ++ rest) ow'
  | [], done, ow, W, _ => ⟨ow, rfl, (List.append_nil done).symm ▸ W⟩
  | h :: rest, done, ow, W, hl => by
    simp only [List.length_cons] at hl ⊢
    obtain ⟨j, e, W1⟩ := stepB hm W (by omega) h
    have l1 : (done ++ [h]).length = done.length + 1 := by simp
    obtain ⟨ow', f, W2⟩ := foldB hm rest _ _ W1 (by omega)
    rw [l1] at f
    refine ⟨ow', ?_, by simpa using W2⟩
    rw [List.foldl_cons, stepF_some e, f]
    congr 2
    omega
theorem relaidB (t : SetTable) {hs : Array Int} {want M : Nat} (hw : SetTable.sizeAbove want - 1 = M) (hM : MaskB M) (hn : hs.size ≤ M) :
    ∃ t' order, t.relaid hs want = some (t', order) ∧ order.toList.Perm (List.range hs.size) ∧ TabB t' (order.toList.map fun i => hs.getD i 0) ∧ t'.mask = M ∧ t'.led = t.led ∧ t'.plain = t.plain := by
  obtain ⟨ow, f, W⟩ := foldB hM hs.toList [] _ (Own.init M) (by simpa using hn)
  rw [List.nil_append] at W
  have lay : SetTable.layClean M hs = some ow := by
    rw [layClean_eq, show (0 : Nat) = ([] : List Int).length from rfl, f]; rfl
  obtain ⟨V, hV⟩ : ∃ V, V = liveOf M ow := ⟨_, rfl⟩
  have mem : ∀ j k, (j, k) ∈ V ↔ j ≤ M ∧ oAt ow j = some k := fun j k => hV ▸ mem_live W.sz
  have two := ris_live (fun j => ow.getD j none) (List.range (M + 1)) (by unfold Ris; first | exact List.pairwise_lt_range | exact List.pairwise_lt_range _)
  have r1 : Ris (V.map (·.1)) := hV ▸ two.1
  have r2 : ∀ x ∈ V.map (·.1), x ≤ M := fun x hx => by
    obtain ⟨⟨y, k⟩, hq, rfl⟩ := List.mem_map.mp hx
    exact ((mem y k).mp hq).1
  have len : V.length = hs.size := by
    obtain ⟨ps, lps, hin⟩ := W.ps
    have nd : (V.map (·.1)).Nodup := List.Pairwise.imp Nat.ne_of_lt r1
    have x1 := nat_nodup_len (V.map (·.1)) ps nd fun x hx => by
      obtain ⟨⟨y, k⟩, hq, rfl⟩ := List.mem_map.mp hx
      obtain ⟨b1, b2⟩ := (mem y k).mp hq
      exact hin y b1 (by rw [b2]; nofun)
    have x2 := nat_nodup_len (List.range hs.size) (V.map (·.2)) List.nodup_range fun k hk => by
      obtain ⟨j, b1, b2⟩ := W.all k (by simpa using hk)
      exact List.mem_map.mpr ⟨(j, k), (mem j k).mpr ⟨b1, b2⟩, rfl⟩
    simp only [List.length_map, List.length_range] at x1 x2
    have : hs.toList.length = hs.size := rfl
    omega
  refine ⟨tabOf t M ow, (V.map (·.2)).toArray, by rw [relaid_eq, hw, lay, hV]; rfl, ?_, ?_, rfl, rfl, rfl⟩
  · refine perm_range _ _ (by simpa using len) fun k hk => ?_
    obtain ⟨j, b1, b2⟩ := W.all k (by simpa using hk)
    simp only [List.mem_map]
    exact ⟨(j, k), (mem j k).mpr ⟨b1, b2⟩, rfl⟩
  · have pl : (tabOf t M ow).place.toList = V.map (·.1) := by rw [hV]; rfl
    refine { ris := pl ▸ r1, dm := rfl, sz := ?_, mok := hM, bd := fun x hx => r2 x (pl ▸ hx), reach := fun i j h a b => ?_ }
    · rw [← Array.length_toList, pl]; simp
    · rw [pl] at b
      simp only [List.getElem?_map, Option.map_eq_some_iff] at a b
      obtain ⟨⟨y, k⟩, q1, rfl⟩ := b
      obtain ⟨k2, ⟨⟨y3, k3⟩, q3, e3⟩, eh⟩ := a
      rw [q1] at q3
      cases q3
      cases e3
      obtain ⟨b1, b2⟩ := (mem y k).mp (List.mem_of_getElem? q1)
      obtain ⟨h0, K, a1, a2, a3⟩ := W.at_ y k b1 b2
      have e0 : hs.getD k 0 = h0 := by
        rw [Array.getElem?_toList] at a1
        simp [Array.getD_eq_getD_getElem?, a1]
      have : h0 = h := e0.symm.trans eh
      subst this
      refine ⟨K, a2, fun c hc => ?_⟩
      show way M h0 c ∈ (tabOf t M ow).place.toList
      rw [pl]
      cases z : oAt ow (way M h0 c) with
      | none => exact absurd z (a3 c hc)
      | some q => exact List.mem_map.mpr ⟨(way M h0 c, q), (mem _ _).mpr ⟨way_in M h0 c, z⟩, rfl⟩
theorem size_308 : SetTable.sizeAbove (SetTable.grown 77) = 512 := by decide +kernel
end PD
/-! PDS: sets of nested tuples of numbers, sorted. -/
namespace PD
open PySem PySem.Spec PyProof.Rows L2
/-! ### what is asked of a key -/
structure SK (P : Program) (w : World) {κ : Type} [DecidableEq κ] (kd : HeapKind P w κ) (ok : κ → Prop) : Prop where
  stay : ∀ {h h' : Heap} {k : κ} {b : Addr}, (∀ d o vs n, h.get? d = some o → o.data = .seq vs n → h'.get? d = some o) → kd.is h k b → kd.is h' k b
  byv : ∀ {A : Around} {E : Value → Shared → Prop} {s : Shared} {k : κ} {b : Addr} {Q : Bool → Shared → Prop}, ok k → kd.is s.heap k b → Q true s → wpAny (model P w) A (hashByValue 8 (.ref b)) Q E s
  noc : ∀ {A : Around} {E : Value → Shared → Prop} {s : Shared} {k : κ} {b : Addr} {Q : Bool → Shared → Prop}, ok k → kd.is s.heap k b → Q false s → wpAny (model P w) A (ofAClassStatement 8 (.ref b)) Q E s
section
variable {P : Program} {w : World} {κ : Type} [DecidableEq κ] {kd : HeapKind P w κ} {ok : κ → Prop} {A : Around} {E : Value → Shared → Prop} {s : Shared}
abbrev rowN (kd : HeapKind P w κ) (q : Addr × κ) : Int × Value := (kd.hash q.2, Value.ref q.1)
structure SetN (kd : HeapKind P w κ) (ok : κ → Prop) (h : Heap) (a : Addr) (L : List (Addr × κ)) (es : Array (Int × Value)) (ep : Nat) (t : SetTable) : Prop where
  obj : ∃ o, h.get? a = some o ∧ o.ExactSet ∧ o.data = .set es ep t
  ent : es.toList = L.map (rowN kd)
  tab : TabB t (L.map fun q => kd.hash q.2)
  uni : (L.map (·.2)).Nodup
  key : ∀ q ∈ L, kd.is h q.2 q.1 ∧ ok q.2
  pln : t.plain = true
  led : w.params.followText "set-order" = true ∨ t.led = true
  rm : L.length * 5 < t.mask * 3
  few : L.length < 300
variable {a : Addr} {L : List (Addr × κ)} {es : Array (Int × Value)} {ep : Nat} {t : SetTable}
theorem ent_size (h : es.toList = L.map (rowN kd)) : es.size = L.length := by
  have := congrArg List.length h
  simpa using this
theorem SetN.fits {h : Heap} (R : SetN kd ok h a L es ep t) : t.fits es.size = true := by
  have z1 := R.tab.sz
  have z2 := ent_size R.ent
  have z3 := R.rm
  rw [List.length_map] at z1
  unfold SetTable.fits SetTable.fill
  rw [R.tab.dm]
  simp only [Bool.and_eq_true, beq_iff_eq, decide_eq_true_eq]
  constructor
  · omega
  · show t.place.size + 0 ≤ t.mask; omega
theorem ent_at (h : es.toList = L.map (rowN kd)) {i : Nat} {q : Addr × κ} (e : L[i]? = some q) : es[i]? = some (kd.hash q.2, Value.ref q.1) := by
  have : es.toList[i]? = some (rowN kd q) := by rw [h, List.getElem?_map, e]; rfl
  simpa using this
/-- two keys compared show nothing -/
theorem seen_none (S : SK P w kd ok) {x : Addr} {k : κ} (hx : kd.is s.heap k x) (ox : ok k) {Q : Bool → Shared → Prop} (hQ : Q false s) : ∀ ys : List Value, (∀ y ∈ ys, ∃ k' c, y = Value.ref c ∧ kd.is s.heap k' c ∧ ok k') → wpAny (model P w) A (searchCouldBeSeen (.ref x) ys) Q E s := by
  intro ys hys
  unfold searchCouldBeSeen
  refine wpAny_bind (wpAny_forIn_list _ (fun rest r s' => r.1 = none ∧ s' = s ∧ ∀ y ∈ rest, ∃ k' c, y = Value.ref c ∧ kd.is s.heap k' c ∧ ok k') _ ?turn ?last _ _ ⟨rfl, rfl, hys⟩)
  case turn =>
    rintro v rest r s' ⟨_, rfl, all⟩
    obtain ⟨k', c, rfl, hc, oc⟩ := all v List.mem_cons_self
    have more : ∀ y ∈ rest, ∃ k' c, y = Value.ref c ∧ kd.is s'.heap k' c ∧ ok k' := fun y hy => all y (List.mem_cons_of_mem _ hy)
    dsimp only
    by_cases same : (x == c || (carriedByValue (.ref x) && carriedByValue (.ref c))) = true
    · exact wp_if_pos same (wpAny_pure ⟨rfl, rfl, more⟩)
    · refine wp_if_neg same (wpAny_bind (kd.quiet hx ?_))
      simp only [Bool.not_true, Bool.false_eq_true, if_false]
      refine wpAny_bind (kd.quiet hc ?_)
      simp only [Bool.not_true, Bool.false_eq_true, if_false]
      refine wpAny_bind (S.noc ox hx ?_)
      simp only [Bool.false_eq_true, if_false]
      refine wpAny_bind (S.noc oc hc ?_)
      simp only [Bool.false_eq_true, if_false]
      exact wpAny_pure ⟨rfl, rfl, more⟩
  case last =>
    rintro ⟨r1, r2⟩ s' ⟨hr, rfl, _⟩
    simp only at hr
    subst hr
    exact wpAny_pure hQ
theorem nth_clean (m : Nat) : ∀ (n : Nat) (p : SetTable.Probe), p.dummy = none → (nth m p n).dummy = none
  | 0, _, h => h
  | n + 1, p, h => nth_clean m n (adv m p) (by unfold adv; split <;> exact h)
/-- the search of a key, from the c-th step on -/
theorem find_from (S : SK P w kd ok) (R : SetN kd ok s.heap a L es ep t) {x : Addr} {k : κ} (hx : kd.is s.heap k x) (ox : ok k) (room : kd.room A) {N : Nat} (far : N < 10 * SetTable.turns t.mask) (gap : way t.mask (kd.hash k) N ∉ t.place.toList)
    (run : ∀ c, c < N → way t.mask (kd.hash k) c ∈ t.place.toList) {Q : SetFound → Shared → Prop} (there : k ∈ L.map (·.2) → Q (.there none) s) (new : k ∉ L.map (·.2) → Q (.free (way t.mask (kd.hash k) N) false) s) :
    ∀ (f c : Nat) (st : Option SetTable.Probe), st.getD (t.probeStart (kd.hash k)) = nth t.mask (runAt t.mask (SetTable.bits (kd.hash k) % (t.mask + 1)) (SetTable.bits (kd.hash k))) c → c ≤ N → N - c < f →
      (∀ (i : Nat) q, L[i]? = some q → q.2 = k → ∃ d, c ≤ d ∧ d < N ∧ t.place.toList[i]? = some (way t.mask (kd.hash k) d)) → wpAny (model P w) A (setSearchFrom a (.ref x) (kd.hash k) true f st) Q E s
  | 0, c, st, _, _, hf, _ => absurd hf (Nat.not_lt_zero _)
  | f + 1, c, st, est, hc, hf, later => by
    obtain ⟨o, g1, g2, g3⟩ := R.obj
    have ft := R.fits
    rw [setSearchFrom_succ]
    refine wpAny_bind (wpAny_setState_of g1 g3 ft ?_)
    dsimp only
    refine wp_if_neg (by unfold SetTable.gaveWay; rw [R.tab.mok.odd]; decide) ?_
    try refine wpAny_bind (wpAny_pure ?_)
    have hop : ∀ d, (nth t.mask (nth t.mask (runAt t.mask (SetTable.bits (kd.hash k) % (t.mask + 1)) (SetTable.bits (kd.hash k))) c) d) = nth t.mask (runAt t.mask (SetTable.bits (kd.hash k) % (t.mask + 1)) (SetTable.bits (kd.hash k))) (c + d) := fun d => (nth_add t.mask c _ d).symm
    have hopj : ∀ d, (nth t.mask (nth t.mask (runAt t.mask (SetTable.bits (kd.hash k) % (t.mask + 1)) (SetTable.bits (kd.hash k))) c) d).j = way t.mask (kd.hash k) (c + d) := fun d => congrArg SetTable.Probe.j (hop d)
    have told := go_spec t R.tab.ris R.tab.dm (fun i => (es[i]?.map (·.1)).getD 0) (kd.hash k) (10 * SetTable.turns t.mask) (N - c) _ (nth_clean t.mask c (runAt t.mask (SetTable.bits (kd.hash k) % (t.mask + 1)) (SetTable.bits (kd.hash k))) rfl) (by omega)
      (fun d hd => by rw [hopj]; exact run (c + d) (by omega)) (by rw [hopj, show c + (N - c) = N by omega]; exact gap)
    have hashOf : ∀ (i : Nat) q, L[i]? = some q → (es[i]?.map (·.1)).getD 0 = kd.hash q.2 := fun i q e => by rw [ent_at R.ent e]; rfl
    rcases told with ⟨d, i, hd, hi, hh, before, ans⟩ | ⟨before, ans⟩
    · have ans' : t.probe (fun i => (es[i]?.map (·.1)).getD 0) (kd.hash k) (st.getD (t.probeStart (kd.hash k))) = some (.candidate (way t.mask (kd.hash k) (c + d)) i (nth t.mask (runAt t.mask (SetTable.bits (kd.hash k) % (t.mask + 1)) (SetTable.bits (kd.hash k))) (c + (d + 1)))) := by
        rw [est, ← hopj, ← hop]; exact ans
      rw [ans']
      dsimp only
      rw [hopj] at hi
      have il : i < L.length := by
        have z1 := (List.getElem?_eq_some_iff.mp hi).1
        have z2 := R.tab.sz
        rw [List.length_map] at z2
        rw [Array.length_toList] at z1
        omega
      obtain ⟨q, hq⟩ : ∃ q, L[i]? = some q := ⟨_, List.getElem?_eq_getElem il⟩
      have mq := List.mem_of_getElem? hq
      have kq := R.key q mq
      have goOn : wpAny (model P w) A (searchRest a (.ref x) (kd.hash k) true f es t (way t.mask (kd.hash k) (c + d)) i (nth t.mask (runAt t.mask (SetTable.bits (kd.hash k) % (t.mask + 1)) (SetTable.bits (kd.hash k))) (c + (d + 1)))) Q E s := by
        unfold searchRest
        rw [ent_at R.ent hq]
        dsimp only
        refine wpAny_bind (wpAny_holding (kd.eqBool room kq.1 hx ?_))
        refine wpAny_bind (wpAny_setState_of g1 g3 ft ?_)
        dsimp only
        by_cases eqk : q.2 = k
        · refine wp_if_pos (by simp [eqk]) (wpAny_pure (there (List.mem_map.mpr ⟨q, mq, eqk⟩)))
        · refine wp_if_neg (by simp [eqk]) ?_
          try refine wpAny_bind (wpAny_pure ?_)
          rw [sameMem]
          dsimp only
          have live : t.slot (way t.mask (kd.hash k) (c + d)) = .live i := slot_live R.tab.ris hi
          simp only [if_true, live, ent_at R.ent hq]
          refine wpAny_bind (wpAny_isSame_ref_self (wpAny_bind (wpAny_pure ?_)))
          simp only [if_true]
          refine wp_if_neg (by simp [eqk]) ?_
          refine find_from S R hx ox room far gap run there new f (c + (d + 1)) _ rfl (by omega) (by omega) fun i0 q0 e0 k0 => ?_
          obtain ⟨d', a1, a2, a3⟩ := later i0 q0 e0 k0
          refine ⟨d', ?_, a2, a3⟩
          rcases Nat.lt_trichotomy d' (c + d) with z | z | z
          · exact absurd ((hashOf i0 q0 e0).trans (by rw [k0])) (before (d' - c) i0 (by omega) (by rw [hopj, show c + (d' - c) = d' by omega]; exact a3))
          · rw [z] at a3
            have live0 := slot_live R.tab.ris a3
            rw [live] at live0
            injection live0 with live0
            rw [← live0, hq] at e0
            cases e0
            exact absurd k0 eqk
          · omega
      by_cases ld : t.led = true
      · refine wp_if_neg (by simp [ld]) ?_
        try refine wpAny_bind (wpAny_pure ?_)
        exact goOn
      · refine wp_if_pos (by simp [ld]) (wpAny_bind (seen_none S hx ox ?_ _ fun y hy => ?_))
        · refine wp_if_neg (by decide) ?_
          try refine wpAny_bind (wpAny_pure ?_)
          exact goOn
        · obtain ⟨en, hen, rfl⟩ := List.mem_map.mp hy
          have hen2 : en ∈ es.toList := by
            have : en ∈ es ∧ en.1 = kd.hash k := by simpa using hen
            simpa using this.1
          rw [R.ent] at hen2
          obtain ⟨q2, hq2, rfl⟩ := List.mem_map.mp hen2
          exact ⟨q2.2, q2.1, rfl, (R.key q2 hq2).1, (R.key q2 hq2).2⟩
    · have ans' : t.probe (fun i => (es[i]?.map (·.1)).getD 0) (kd.hash k) (st.getD (t.probeStart (kd.hash k))) = some (.empty (way t.mask (kd.hash k) N) none) := by
        have : way t.mask (kd.hash k) N = (nth t.mask (nth t.mask (runAt t.mask (SetTable.bits (kd.hash k) % (t.mask + 1)) (SetTable.bits (kd.hash k))) c) (N - c)).j := by rw [hopj, show c + (N - c) = N by omega]
        rw [est, this]; exact ans
      rw [ans']
      dsimp only
      refine wpAny_pure (new fun mem => ?_)
      obtain ⟨q0, h0, k0⟩ := List.mem_map.mp mem
      obtain ⟨i0, l0, e0⟩ := List.getElem_of_mem h0
      have e1 : L[i0]? = some q0 := by rw [List.getElem?_eq_getElem l0, e0]
      obtain ⟨d', a1, a2, a3⟩ := later i0 q0 e1 k0
      exact before (d' - c) i0 (by omega) (by rw [hopj, show c + (d' - c) = d' by omega]; exact a3) ((hashOf i0 q0 e1).trans (by rw [k0]))
theorem find_key (S : SK P w kd ok) (R : SetN kd ok s.heap a L es ep t) {x : Addr} {k : κ} (hx : kd.is s.heap k x) (ox : ok k) (room : kd.room A) {Q : SetFound → Shared → Prop} (there : k ∈ L.map (·.2) → Q (.there none) s)
    (new : ∀ N, k ∉ L.map (·.2) → way t.mask (kd.hash k) N ∉ t.place.toList → (∀ c, c < N → way t.mask (kd.hash k) c ∈ t.place.toList) → Q (.free (way t.mask (kd.hash k) N) false) s) : wpAny (model P w) A (setSearch a (.ref x) (kd.hash k) true) Q E s := by
  have rm := R.rm
  obtain ⟨N, far, gap, run⟩ := R.tab.gap (by rw [List.length_map]; omega) (kd.hash k)
  have small : 10 * SetTable.turns t.mask ≤ 5260 := by
    unfold SetTable.turns
    rcases R.tab.mok.four with e | e | e | e <;> omega
  unfold setSearch
  refine find_from S R hx ox room far gap run there (fun h => new N h gap run) 100000 0 none rfl (Nat.zero_le _) (by omega) fun i q e eq => ?_
  have h1 : (L.map fun q => kd.hash q.2)[i]? = some (kd.hash k) := by rw [List.getElem?_map, e, ← eq]; rfl
  have il : i < t.place.toList.length := by
    have z1 := (List.getElem?_eq_some_iff.mp e).1
    have z2 := R.tab.sz
    rw [List.length_map] at z2
    rw [Array.length_toList]; omega
  obtain ⟨d, hd, ed⟩ := R.tab.ahead gap h1 (List.getElem?_eq_getElem il)
  exact ⟨d, Nat.zero_le _, hd, by rw [List.getElem?_eq_getElem il, ed]⟩
end
end PD
/-! PDT: a set of such keys filled. -/
namespace PD
open PySem PySem.Spec PyProof.Rows L2
section
variable {P : Program} {w : World} {κ : Type} [DecidableEq κ] {kd : HeapKind P w κ} {ok : κ → Prop} {A : Around} {E : Value → Shared → Prop} {s : Shared}
variable {a : Addr} {L : List (Addr × κ)} {es : Array (Int × Value)} {ep : Nat} {t : SetTable}
/-- a key isn't the set -/
theorem SK.but (S : SK P w kd ok) {h h' : Heap} {k : κ} {b : Addr} {o : Obj} (hb : kd.is h k b) (g1 : h.get? a = some o) (g3 : o.data = .set es ep t) (sb : Heap.SameBut a h h') : kd.is h' k b :=
  S.stay (fun d od vs n e ed => (sb.2 d (fun z => by subst z; rw [g1] at e; cases e; rw [g3] at ed; cases ed)).trans e) hb
theorem SK.all (S : SK P w kd ok) {h h' : Heap} {k : κ} {b : Addr} (hb : kd.is h k b) (kp : ∀ d o, h.get? d = some o → h'.get? d = some o) : kd.is h' k b := S.stay (fun d o _ _ e _ => kp d o e) hb
theorem perm_mid (L : List (Addr × κ)) (p : Nat) (q : Addr × κ) : (L.take p ++ q :: L.drop p).Perm (q :: L) :=
  (List.perm_middle).trans (by rw [List.take_append_drop])
/-- entries in another order -/
theorem ent_order (order : Array Nat) (he : es.toList = L.map (rowN kd)) (hp : order.toList.Perm (List.range L.length)) :
    ∃ M : List (Addr × κ), (order.filterMap (es[·]?)).toList = M.map (rowN kd) ∧ M.Perm L ∧ (M.map fun q => kd.hash q.2) = order.toList.map fun i => (es.map (·.1)).getD i 0 := by
  have zs := ent_size he
  have gt : ∀ i (l : i < L.length), es[i]? = some (rowN kd L[i]) := fun i l => ent_at he (List.getElem?_eq_getElem l)
  have lst : ∀ l : List Nat, (∀ i ∈ l, i < L.length) → l.filterMap (fun i => es[i]?) = (l.filterMap fun i => L[i]?).map (rowN kd) ∧ ((l.filterMap fun i => L[i]?).map fun q => kd.hash q.2) = l.map fun i => (es.map (·.1)).getD i 0 := by
    intro l
    induction l with
    | nil => intro _; exact ⟨rfl, rfl⟩
    | cons i l ih =>
      intro hl
      have li := hl i List.mem_cons_self
      obtain ⟨e1, e2⟩ := ih fun j hj => hl j (List.mem_cons_of_mem _ hj)
      rw [List.filterMap_cons_some (gt i li), List.filterMap_cons_some (List.getElem?_eq_getElem li), e1]
      refine ⟨rfl, ?_⟩
      rw [List.map_cons, List.map_cons, e2]
      congr 1
      have : (es.map (·.1))[i]? = some (kd.hash (L[i]).2) := by rw [Array.getElem?_map, gt i li]; rfl
      simp [Array.getD_eq_getD_getElem?, this]
  obtain ⟨e1, e2⟩ := lst order.toList fun i hi => List.mem_range.mp (hp.mem_iff.mp hi)
  refine ⟨order.toList.filterMap fun i => L[i]?, by simpa using e1, ?_, e2⟩
  have same : (List.range L.length).filterMap (fun i => L[i]?) = L := by
    have go : ∀ n, n ≤ L.length → (List.range n).filterMap (fun i => L[i]?) = L.take n := by
      intro n
      induction n with
      | zero => intro _; simp
      | succ n ih =>
        intro hn
        have ln : n < L.length := by omega
        rw [List.range_succ, List.filterMap_append, ih (by omega), List.take_succ, List.filterMap_cons_some (List.getElem?_eq_getElem ln), List.getElem?_eq_getElem ln]
        rfl
    rw [go _ (Nat.le_refl _), List.take_length]
  have := hp.filterMap (fun i => L[i]?)
  rwa [same] at this
/-- the table laid anew -/
theorem relay_key (S : SK P w kd ok) {o : Obj} (g1 : s.heap.get? a = some o) (g2 : o.ExactSet) (g3 : o.data = .set es ep t) (he : es.toList = L.map (rowN kd)) (z1 : t.place.size = es.size) (z2 : t.dummies = #[]) (z3 : es.size ≤ t.mask) (uni : (L.map (·.2)).Nodup)
    (key : ∀ q ∈ L, kd.is s.heap q.2 q.1 ∧ ok q.2) (pln : t.plain = true) (led : w.params.followText "set-order" = true ∨ t.led = true) (few : L.length < 300) {want M : Nat} (m1 : SetTable.sizeAbove want - 1 = M) (m2 : MaskB M) (m3 : SetTable.sizeAbove want ≤ 512) (m4 : L.length * 5 < M * 3) {Q : Unit → Shared → Prop}
    (go : ∀ h' L' es' ep' t', Heap.SameBut a s.heap h' → SetN kd ok h' a L' es' ep' t' → L'.Perm L → Q () { s with heap := h' }) : wpAny (model P w) A (setRelay a want) Q E s := by
  have zs := ent_size he
  have ft : t.fits es.size = true := by
    unfold SetTable.fits SetTable.fill
    rw [z2]
    simp only [Bool.and_eq_true, beq_iff_eq, decide_eq_true_eq]
    exact ⟨z1, by show t.place.size + 0 ≤ t.mask; omega⟩
  obtain ⟨t', order, er, hp, T, f1, f2, f3⟩ := relaidB t (hs := es.map (·.1)) (want := want) m1 m2 (by rw [Array.size_map, zs]; omega)
  rw [Array.size_map, zs] at hp
  obtain ⟨M', r1, r2, r3⟩ := ent_order order he hp
  rw [← r3] at T
  have sz2 : (order.filterMap (es[·]?)).size = es.size := by rw [ent_size r1, r2.length_eq, zs]
  rw [setRelay_eq]
  refine wpAny_bind (wpAny_setState_of g1 g3 ft ?_)
  dsimp only
  refine wp_if_neg (by rw [sizeLine_eq]; omega) ?_
  try refine wpAny_bind (wpAny_pure ?_)
  rw [er]
  dsimp only
  refine wpAny_bind (wp_if_neg (by rw [sz2]; simp) ?_)
  try refine wpAny_bind (wpAny_pure ?_)
  refine wpAny_pure ?_
  dsimp only
  refine wpAny_storeSet_of g1 g3 ?_ (by rw [sz2, zs, sizeLine_eq]; omega)
  have sb : Heap.SameBut a s.heap (s.heap.update a (Obj.putSet (order.filterMap (es[·]?)) t')) := Heap.SameBut.update ..
  refine go _ M' _ (ep + 1) t' sb ⟨⟨_, store_at g1 g3, ⟨g2.1, g2.2.1, g2.2.2⟩, rfl⟩, r1, T, (r2.map (·.2)).nodup_iff.mpr uni, fun q hq => ?_, by rw [f3]; exact pln, by rw [f2]; exact led, by rw [r2.length_eq, f1]; exact m4, by rw [r2.length_eq]; exact few⟩ r2
  have := key q (r2.mem_iff.mp hq)
  exact ⟨S.but this.1 g1 g3 sb, this.2⟩
/-- a key put in -/
theorem put_key (S : SK P w kd ok) (R : SetN kd ok s.heap a L es ep t) {x : Addr} {k : κ} (hx : kd.is s.heap k x) (ox : ok k) (room : kd.room A) (few : L.length + 1 < 300) {Q : Bool → Shared → Prop}
    (go : ∀ b h' L' es' ep' t', Heap.SameBut a s.heap h' → SetN kd ok h' a L' es' ep' t' → (k ∈ L.map (·.2) → L' = L) → (k ∉ L.map (·.2) → L'.Perm ((x, k) :: L)) → Q b { s with heap := h' }) :
    wpAny (model P w) A (setAddHashed a (.ref x) (kd.hash k)) Q E s := by
  obtain ⟨o, g1, g2, g3⟩ := R.obj
  have zs := ent_size R.ent
  have rm := R.rm
  have ft := R.fits
  unfold setAddHashed
  refine wpAny_holding ?_
  rw [show (100000 : Nat) = 99999 + 1 from rfl, setAddHashedIn_succ]
  refine wpAny_bind (wpAny_setState_of g1 g3 ft ?_)
  dsimp only
  refine wp_if_neg (by simp [byScan, Value.scannable]) ?_
  try refine wpAny_bind (wpAny_pure ?_)
  refine wpAny_bind (find_key S R hx ox room (fun mem => ?_) fun N mem gap run => ?_)
  · dsimp only
    exact wpAny_pure (go false s.heap L es ep t (Heap.SameBut.refl a s.heap) R (fun _ => rfl) fun z => absurd mem z)
  · dsimp only
    refine wpAny_bind (wpAny_setState_of g1 g3 ft ?_)
    dsimp only
    obtain ⟨q2, q3, q9⟩ := R.tab.more rfl gap run
    have q1 : (t.put (way t.mask (kd.hash k) N)).2 = SetTable.below t.place (way t.mask (kd.hash k) N) := rfl
    have q4 : (t.put (way t.mask (kd.hash k) N)).1.mask = t.mask := rfl
    have q5 : (t.put (way t.mask (kd.hash k) N)).1.led = t.led := rfl
    have q6 : (t.put (way t.mask (kd.hash k) N)).1.plain = t.plain := rfl
    have pl : (t.put (way t.mask (kd.hash k) N)).1.plain = true := by rw [q6]; exact R.pln
    generalize t.put (way t.mask (kd.hash k) N) = pt at q1 q3 q4 q5 q6 q9 pl ⊢
    obtain ⟨t1, p⟩ := pt
    dsimp only at q1 q3 q4 q5 q6 q9 pl ⊢
    subst q1
    first
      | (refine wpAny_bind (wp_if_pos pl (S.byv ox hx ?_)))
      | refine wp_if_pos pl (wpAny_bind (S.byv ox hx ?_))
    simp only [if_true]
    generalize SetTable.below t.place (way t.mask (kd.hash k) N) = p at q2 q3 ⊢
    have en : (SetTable.insertAt es p (kd.hash k, Value.ref x)).toList = (L.take p ++ (x, k) :: L.drop p).map (rowN kd) := by
      rw [SetTable.toList_insertAt, R.ent, List.map_append, List.map_cons, List.map_take, List.map_drop]
    have pm := perm_mid L p (x, k)
    have ln : (L.take p ++ (x, k) :: L.drop p).length = L.length + 1 := pm.length_eq
    have hh : (L.take p ++ (x, k) :: L.drop p).map (fun q => kd.hash q.2) = (L.map fun q => kd.hash q.2).take p ++ kd.hash k :: (L.map fun q => kd.hash q.2).drop p := by
      rw [List.map_append, List.map_cons, List.map_take, List.map_drop]
    rw [← hh] at q3
    have un : ((L.take p ++ (x, k) :: L.drop p).map (·.2)).Nodup := (pm.map (·.2)).nodup_iff.mpr (List.nodup_cons.mpr ⟨mem, R.uni⟩)
    have z1 := ent_size en
    rw [ln] at z1
    generalize SetTable.insertAt es p (kd.hash k, Value.ref x) = es1 at en z1 ⊢
    generalize L.take p ++ (x, k) :: L.drop p = L1 at pm ln q3 un en
    refine wpAny_bind (wpAny_storeSet_of g1 g3 ?_ (by rw [z1, sizeLine_eq]; omega))
    have sb : Heap.SameBut a s.heap (s.heap.update a (Obj.putSet es1 t1)) := Heap.SameBut.update ..
    have o1 := store_at (es' := es1) (t' := t1) g1 g3
    generalize s.heap.update a (Obj.putSet es1 t1) = h1 at sb o1 ⊢
    have ks : ∀ q ∈ L1, kd.is h1 q.2 q.1 ∧ ok q.2 := fun q hq => by
      rcases List.mem_cons.mp (pm.mem_iff.mp hq) with e | e
      · rw [e]; exact ⟨S.but hx g1 g3 sb, ox⟩
      · exact ⟨S.but (R.key q e).1 g1 g3 sb, (R.key q e).2⟩
    have ld : w.params.followText "set-order" = true ∨ t1.led = true := by rw [q5]; exact R.led
    by_cases full : t1.tooFull = true
    · first
        | (refine wpAny_bind (wp_if_pos (by simp [full]) ?_))
        | (refine wp_if_pos (by simp [full]) (wpAny_bind ?_))
      have f5 : (L.length + 1) * 5 ≥ t1.mask * 3 := by
        have f := full
        unfold SetTable.tooFull at f
        rw [decide_eq_true_eq, q9, List.length_map] at f
        exact f
      rw [zs]
      have z2 : t1.place.size = es1.size := by
        have f := q3.sz
        rw [List.length_map, ln] at f
        rw [f, z1]
      have two : (t.mask = 7 ∧ L.length = 4) ∨ (t.mask = 31 ∧ L.length = 18) ∨ (t.mask = 127 ∧ L.length = 76) := by
        rcases R.tab.mok.four with e | e | e | e
        · rw [q4, e] at f5; rw [e] at rm; exact .inl ⟨e, by omega⟩
        · rw [q4, e] at f5; rw [e] at rm; exact .inr (.inl ⟨e, by omega⟩)
        · rw [q4, e] at f5; rw [e] at rm; exact .inr (.inr ⟨e, by omega⟩)
        · rw [q4, e] at f5; omega
      have anew : ∀ M, SetTable.sizeAbove (SetTable.grown (L.length + 1)) - 1 = M → MaskB M → SetTable.sizeAbove (SetTable.grown (L.length + 1)) ≤ 512 → (L.length + 1) * 5 < M * 3 →
          wpAny (model P w) A (setRelay a (SetTable.grown (L.length + 1))) (fun _ s' => wpAny (model P w) A (pure true) Q E s') E { s with heap := h1 } := fun M n1 n2 n3 n4 =>
        relay_key S (s := { s with heap := h1 }) o1 ⟨g2.1, g2.2.1, g2.2.2⟩ rfl en z2 q3.dm (by rw [z1, q4]; rcases two with ⟨e, e2⟩ | ⟨e, e2⟩ | ⟨e, e2⟩ <;> omega) un ks pl ld (by rw [ln]; exact few) n1 n2 n3 (by rw [ln]; exact n4)
          fun h2 L2 es2 ep2 t2 sb2 R2 pm2 => wpAny_pure (go true h2 L2 es2 ep2 t2 (sb.trans sb2) R2 (fun z => absurd z mem) fun _ => pm2.trans pm)
      rcases two with ⟨_, e2⟩ | ⟨_, e2⟩ | ⟨_, e2⟩
      · exact anew 31 (by rw [e2, size_20]) (.inl (.inr (.inl rfl))) (by rw [e2, size_20]; decide) (by omega)
      · exact anew 127 (by rw [e2, size_76]) (.inl (.inr (.inr rfl))) (by rw [e2, size_76]; decide) (by omega)
      · exact anew 511 (by rw [e2, size_308]) (.inr rfl) (by rw [e2, size_308]; decide) (by omega)
    · first
        | refine wp_if_neg (by simp [full]) ?_
        | (refine wpAny_bind (wp_if_neg (by simp [full]) (wpAny_pure ?_)))
      refine wpAny_pure (go true h1 L1 es1 (ep + 1) t1 sb ⟨⟨_, o1, ⟨g2.1, g2.2.1, g2.2.2⟩, rfl⟩, en, q3, un, ks, pl, ld, ?_, by rw [ln]; exact few⟩ (fun z => absurd z mem) fun _ => pm)
      have f := full
      unfold SetTable.tooFull at f
      rw [decide_eq_true_eq, q9, List.length_map] at f
      rw [ln]
      omega
end
end PD
/-! PDU: set(list) of such keys, sorted(set). -/
namespace PD
open PySem PySem.Spec PyProof.Rows L2
section
variable {P : Program} {w : World} {κ : Type} [DecidableEq κ] {kd : HeapKind P w κ} {ok : κ → Prop} {A : Around} {E : Value → Shared → Prop} {s : Shared}
/-- what came of the first i items -/
structure Met (ks : List (Addr × κ)) (i : Nat) (L : List (Addr × κ)) : Prop where
  sub : ∀ q ∈ L, q ∈ ks.take i
  all : ∀ q ∈ ks.take i, q.2 ∈ L.map (·.2)
  len : L.length ≤ i
theorem take_one {α : Type} {l : List α} {i : Nat} {x : α} (h : l[i]? = some x) : l.take (i + 1) = l.take i ++ [x] := by rw [List.take_succ, h]; rfl
theorem Met.old {ks L : List (Addr × κ)} {i : Nat} {x : Addr × κ} (g : Met ks i L) (h : ks[i]? = some x) (m : x.2 ∈ L.map (·.2)) : Met ks (i + 1) L := by
  have tk := take_one h
  refine ⟨fun q hq => by rw [tk]; exact List.mem_append_left _ (g.sub q hq), fun q hq => ?_, Nat.le_succ_of_le g.len⟩
  rw [tk] at hq
  rcases List.mem_append.mp hq with z | z
  · exact g.all q z
  · rw [List.mem_singleton.mp z]; exact m
theorem Met.new {ks L L' : List (Addr × κ)} {i : Nat} {x : Addr × κ} (g : Met ks i L) (h : ks[i]? = some x) (pm : L'.Perm (x :: L)) : Met ks (i + 1) L' := by
  have tk := take_one h
  refine ⟨fun q hq => ?_, fun q hq => ?_, by rw [pm.length_eq]; exact Nat.succ_le_succ g.len⟩
  · rw [tk]
    rcases List.mem_cons.mp (pm.mem_iff.mp hq) with rfl | z
    · exact List.mem_append_right _ (List.mem_singleton.mpr rfl)
    · exact List.mem_append_left _ (g.sub q z)
  · rw [(pm.map (·.2)).mem_iff, List.map_cons]
    rw [tk] at hq
    rcases List.mem_append.mp hq with z | z
    · exact List.mem_cons_of_mem _ (g.all q z)
    · rw [List.mem_singleton.mp z]; exact List.mem_cons_self
theorem SetN.still {h h' : Heap} {a : Addr} {L : List (Addr × κ)} {es : Array (Int × Value)} {ep : Nat} {t : SetTable} (R : SetN kd ok h a L es ep t) (ha : ∀ o, h.get? a = some o → h'.get? a = some o) (ht : ∀ q ∈ L, kd.is h' q.2 q.1) : SetN kd ok h' a L es ep t := by
  obtain ⟨o, g1, g⟩ := R.obj
  exact ⟨⟨o, ha o g1, g⟩, R.ent, R.tab, R.uni, fun q hq => ⟨ht q hq, (R.key q hq).2⟩, R.pln, R.led, R.rm, R.few⟩
theorem setN_empty {h : Heap} {a : Addr} (g : h.get? a = some { cls := .type "set", dict := none, data := .set #[] 0 (.fresh 0 0 (!w.params.followText "set-order")) }) : SetN kd ok h a [] #[] 0 (.fresh 0 0 (!w.params.followText "set-order")) where
  obj := ⟨_, g, ⟨rfl, rfl, rfl⟩, rfl⟩
  ent := rfl
  tab := ⟨List.Pairwise.nil, rfl, rfl, .inl (.inl rfl), fun _ z => (by cases z), fun i _ _ z => (by simp at z)⟩
  uni := List.nodup_nil
  key := fun _ z => (by cases z)
  pln := rfl
  led := by
    show _ ∨ (!w.params.followText "set-order") = true
    cases w.params.followText "set-order" <;> simp
  rm := by show 0 * 5 < 7 * 3; decide
  few := by show 0 < 300; decide
/-- the loop that fills it -/
theorem fill_loop (S : SK P w kd ok) {I : Addr} {fp wr : List Addr} {G : Array GenState → Array GenState → Prop} {n : Nat} {Pv : Nat → Value → Prop} {St : Nat → Shared → Prop} {R : Result → Shared → Prop}
    (W : WalksS P w A.in1 I fp wr G n Pv St) (T : Addr) (out : T ∉ fp) (ks : List (Addr × κ)) (hn : n = ks.length) (few : ks.length < 300) (val : ∀ i v, Pv i v → ∃ q, ks[i]? = some q ∧ v = .ref q.1)
    (h0 : Heap) (hk : ∀ q ∈ ks, kd.is h0 q.2 q.1 ∧ ok q.2) (hT : h0.get? T = none) (hw : ∀ b ∈ wr, h0.get? b = none) (room : kd.room A.in1) :
    ∀ (m i : Nat) (s : Shared), n - i = m → i ≤ n → St i s → (∀ b o, h0.get? b = some o → s.heap.get? b = some o) → (∃ L es ep t, SetN kd ok s.heap T L es ep t ∧ Met ks i L) →
      (∀ s' L es ep t, Moved (T :: wr) G s s' → SetN kd ok s'.heap T L es ep t → Met ks n L → (∀ b o, h0.get? b = some o → s'.heap.get? b = some o) → R (.ok (.ret .none)) s') →
      codeAny (model P w) A (.builtin "set.update.loop" ⟨[.ref T, .ref I], []⟩) R s := by
  have notW : T ∉ wr := fun z => out (W.sub _ z)
  have up : ∀ b ∈ wr, b ∈ T :: wr := fun b hb => List.mem_cons_of_mem _ hb
  have kept : ∀ {s s' : Shared}, Moved wr G s s' → (∀ b o, h0.get? b = some o → s.heap.get? b = some o) → ∀ b o, h0.get? b = some o → s'.heap.get? b = some o := fun mv k b o e =>
    mv.heap b o (fun z => by rw [hw b z] at e; cases e) (k b o e)
  intro m
  induction m with
  | zero =>
    intro i s em hi st k ⟨L, es, ep, t, RS, g⟩ done
    have : i = n := by omega
    subst this
    refine codeAny_builtin F.entry_set_update_loop ?_
    rw [Around.under_plainId F.plain_set_update_loop _]
    show wpAny _ A.in1 (pyNext (.ref I) >>= _) _ _ s
    refine wpAny_bind (W.done s _ _ st fun s' mv => ?_)
    show wpAny _ A.in1 (ret Value.none) _ _ s'
    have k' := kept mv k
    exact wpAny_pure (done s' L es ep t (mv.mono up) (RS.still (fun o e => mv.heap T o notW e) fun q hq => S.all (hk q (List.mem_of_mem_take (g.sub q hq))).1 k') g k')
  | succ m ih =>
    intro i s em hi st k ⟨L, es, ep, t, RS, g⟩ done
    have lt : i < n := by omega
    refine codeAny_builtin F.entry_set_update_loop ?_
    rw [Around.under_plainId F.plain_set_update_loop _]
    show wpAny _ A.in1 (pyNext (.ref I) >>= _) _ _ s
    refine wpAny_bind (W.item i s _ _ lt st fun v s' pv st' mv => ?_)
    obtain ⟨q, hq, rfl⟩ := val i v pv
    have k' := kept mv k
    have RS' : SetN kd ok s'.heap T L es ep t := RS.still (fun o e => mv.heap T o notW e) fun r hr => S.all (hk r (List.mem_of_mem_take (g.sub r hr))).1 k'
    have kq := hk q (List.mem_of_getElem? hq)
    have hx : kd.is s'.heap q.2 q.1 := S.all kq.1 k'
    show wpAny _ A.in1 (holding [Value.ref q.1] (setAdd T (.ref q.1)) >>= _) _ _ s'
    refine wpAny_bind (wpAny_holding ?_)
    unfold setAdd
    refine wpAny_holding (wpAny_bind (kd.pyHash room hx ?_))
    refine put_key S (s := { s' with toks := s'.toks + kd.draws q.2 }) RS' hx kq.2 room (by have := g.len; omega) fun b h' L' es' ep' t' sb RS2 c1 c2 => ?_
    have g' : Met ks (i + 1) L' := by
      by_cases c : q.2 ∈ L.map (·.2)
      · rw [c1 c]; exact g.old hq c
      · exact g.new hq (c2 c)
    have k2 : ∀ b o, h0.get? b = some o → h'.get? b = some o := fun b o e => (sb.2 b (fun z => by rw [z, hT] at e; cases e)).trans (k' b o e)
    refine wpAny_pure ⟨plainId_quiet F.plain_set_update_loop _, ih (i + 1) _ (by omega) lt (W.frame _ s' _ _ st' (Nat.le_add_right _ _) fun b hb o e => ?_) k2 ⟨L', es', ep', t', RS2, g'⟩ fun s2 L2 es2 ep2 t2 mv2 RS3 g3 k3 => ?_⟩
    · rw [sb.2 b (fun z : b = T => out (by rw [← z]; exact hb))]; exact e
    · refine done s2 L2 es2 ep2 t2 (Moved.trans W.gtrans ((mv.mono up).then_heap (Nat.le_add_right _ _) fun b o hb e => ?_) mv2) RS3 g3 k3
      rw [sb.2 b (fun z : b = T => hb (by rw [z]; exact List.mem_cons_self))]; exact e
abbrev newSet (w : World) : Obj := { cls := .type "set", dict := none, data := .set #[] 0 (.fresh 0 0 (!w.params.followText "set-order")) }
set_option maxHeartbeats 8000000 in
theorem call_setN (S : SK P w kd ok) {l : Addr} {items : Array Value} (ks : List (Addr × κ)) {Q : Value → Shared → Prop} (hh : A.handled = none) (hl : s.heap.IsList l items) (hit : items.toList = ks.map fun q => Value.ref q.1)
    (hk : ∀ q ∈ ks, kd.is s.heap q.2 q.1 ∧ ok q.2) (few : ks.length < 300) (room : kd.room A.in1.in1.in1)
    (go : ∀ (h' : Heap) (tk : Nat) L es ep t, SetN kd ok h' s.heap.objs.size L es ep t → Met ks ks.length L → (∀ b o, s.heap.get? b = some o → h'.get? b = some o) → Q (.ref s.heap.objs.size) { s with heap := h', toks := tk }) :
    wpAny (model P w) A (call (.type "set") [.ref l]) Q E s := by
  have zs : items.size = ks.length := by have := congrArg List.length hit; simpa using this
  obtain ⟨c, tl, hmro⟩ := F.called_set.mro
  have hmade := F.called_set.made
  have hsub := F.called_set.sub
  refine wpAny_call (codeAny_of_tree ?_)
  show wpAny _ _ (callAny (.type "set") _) _ _ _
  refine wpAny_pure ⟨Code.quiet_builtin _ (by decide +kernel), codeAny_builtin F.entry_type_call ?_⟩
  rw [Around.under_plain (weight_type_call_type "set" [.ref l] []) rfl]
  have h1 := F.called_set.notType
  have h2 := F.called_set.canCreate
  have hct := F.typeCall_set_1 (.ref l)
  repeat (any_goals (first | assumption | wp_step))
  refine codeAny_mono (code_set_led1 (.ref l) (E := E) (Q₁ := fun ob s₁ => ob = .ref s.heap.objs.size ∧ s₁ = { s with heap := s.heap.push (newSet w) }) ⟨rfl, rfl⟩) fun r s₁ hr => ?_
  cases r with
  | error e => exact hr
  | ok fl =>
    cases fl with
    | ret ob =>
      obtain ⟨rfl, rfl⟩ := hr
      have gS : (s.heap.push (newSet w)).get? s.heap.objs.size = some (newSet w) := Heap.get?_push_size _ rfl
      have hT : Shared.TypeIs { s with heap := s.heap.push (newSet w) } (.ref s.heap.objs.size) "set" := ⟨_, gS, rfl⟩
      have hli := F.called_set.init.lookup
      have hbi := F.called_set.init.bind (.ref s.heap.objs.size)
      repeat (any_goals (first | assumption | wp_step))
      refine codeAny_mono (codeAny_call_builtin (R := wants (fun r s₂ => r = .none ∧ ∃ h' tk L es ep t, s₂ = { s with heap := h', toks := tk } ∧ SetN kd ok h' s.heap.objs.size L es ep t ∧ Met ks ks.length L ∧ ∀ b o, s.heap.get? b = some o → h'.get? b = some o) E) F.called_set.init.plain F.entry_set_init (check_set_init_1 hT ?_)) fun r₂ s₂ hr₂ => ?_
      · obtain ⟨ol, e1, e2, nl, e3⟩ := hl
        obtain ⟨ocls, odict, odata, oslots⟩ := ol
        simp only at e2 e3
        subst e2; subst e3
        have e1' : (s.heap.push (newSet w)).get? l = some { cls := .type "list", dict := odict, data := .seq items nl, slots := oslots } := Heap.get?_push_of_some _ e1
        have hsls := F.sub_list_set
        have hslf := F.sub_list_frozenset
        have hne : (Value.type "list" == Value.type "dict") = false := by decide
        have hl1 : (s.heap.push (newSet w)).IsList l items := ⟨_, e1', rfl, nl, rfl⟩
        unfold Builtin.«set.__init__» noKeywords Builtin.Frozenset.updateFrom
        generalize hPI : pyIter = PI
        wp_walk
        subst hPI
        refine wpAny_pyIter_list hl1 (wpAny_bind (wpAny_runValue ?_))
        have ll : l < s.heap.objs.size := Heap.lt_size e1
        have h3 : A.in1.in1.in1.handled = none := by simp [hh]
        have sz : (s.heap.push (newSet w)).objs.size = s.heap.objs.size + 1 := Heap.size_push ..
        have nI : l ≠ (s.heap.push (newSet w)).objs.size := by rw [sz]; exact Nat.ne_of_lt (Nat.lt_succ_of_lt ll)
        have nf : s.heap.objs.size ∉ [(s.heap.push (newSet w)).objs.size, l] := by
          rw [sz]; simp only [List.mem_cons, List.not_mem_nil, or_false, not_or]
          exact ⟨Nat.ne_of_lt (Nat.lt_succ_self _), Nat.ne_of_gt ll⟩
        have val : ∀ (i : Nat) (v : Value), items[i]? = some v → ∃ q, ks[i]? = some q ∧ v = .ref q.1 := fun i v hv => by
          have z : items.toList[i]? = some v := by simpa using hv
          rw [hit, List.getElem?_map] at z
          cases hq : ks[i]? with
          | none => rw [hq] at z; cases z
          | some q => rw [hq] at z; exact ⟨q, rfl, (Option.some.inj z).symm⟩
        have gone : ∀ b, s.heap.objs.size ≤ b → s.heap.get? b = none := fun b hb => by
          cases z : s.heap.get? b with
          | none => rfl
          | some o => exact absurd (Nat.lt_of_lt_of_le (Heap.lt_size z) hb) (Nat.lt_irrefl _)
        refine fill_loop S ((Walks.list h3 _ l nI items).toS) s.heap.objs.size nf ks zs few val s.heap hk (gone _ (Nat.le_refl _)) (fun b hb => gone b (by rw [List.mem_singleton.mp hb, sz]; exact Nat.le_succ _)) room (items.size - 0) 0 _ (by omega) (Nat.zero_le _)
          ⟨⟨_, Heap.get?_push_size _ rfl, rfl, rfl⟩, (hl1.push _)⟩ (fun b o e => Heap.get?_push_of_some _ (Heap.get?_push_of_some _ e)) ⟨[], #[], 0, _, setN_empty (Heap.get?_push_of_some _ gS), ⟨fun _ z => (by cases z), fun _ z => (by simp at z), Nat.le_refl _⟩⟩ ?fin
        case fin =>
          intro s' L es ep t mv RS g k
          obtain ⟨h', g2, d', tk', os'⟩ := s'
          have eg : g2 = s.gens := mv.gens
          have ed : d' = s.drawn := mv.drawn
          have eo : os' = s.os := mv.os
          subst eg; subst ed; subst eo
          show wpAny _ _ _ _ _ _
          refine wpAny_pure ?_
          show wpAny _ _ (ret Value.none) _ _ _
          rw [zs] at g
          exact wpAny_pure ⟨rfl, h', tk', L, es, ep, t, rfl, RS, g, k⟩
      · cases r₂ with
        | error e => exact hr₂
        | ok fl₂ =>
          cases fl₂ with
          | ret r =>
            obtain ⟨rfl, h', tk, L, es, ep, t, rfl, RS, g, k⟩ := hr₂
            repeat (any_goals (first | assumption | wp_step))
            exact go _ _ _ _ _ _ RS g k
          | _ => exact hr₂.elim
    | _ => exact hr.elim
end
end PD
/-! PDV: sorted(set(xs)), xs a list of nested tuples of numbers. -/
namespace PD
open PySem PySem.Spec PyProof.Rows L2
mutual
def nkD : PyData → Option NestedKey
  | .int i => some (.num i)
  | .tuple ds => (nkL ds).map NestedKey.tup
  | _ => none
def nkL : List PyData → Option (List NestedKey)
  | [] => some []
  | d :: ds => (nkD d).bind fun k => (nkL ds).map (k :: ·)
end
mutual
def numK : NestedKey → Bool
  | .num _ => true
  | .tup ks => numKs ks
  | _ => false
def numKs : List NestedKey → Bool
  | [] => true
  | k :: ks => numK k && numKs ks
end
mutual
theorem nkD_data : ∀ (d : PyData) {k : NestedKey}, nkD d = some k → k.data = d ∧ numK k = true
  | .int i, k, h => by simp only [nkD, Option.some.injEq] at h; subst h; exact ⟨by simp [NestedKey.data], by simp [numK]⟩
  | .tuple ds, k, h => by
    simp only [nkD, Option.map_eq_some_iff] at h
    obtain ⟨ks, h1, rfl⟩ := h
    obtain ⟨e1, e2⟩ := nkL_data ds h1
    exact ⟨by simp [NestedKey.data, e1], by simpa [numK] using e2⟩
  | .none, k, h => by simp [nkD] at h
  | .bool _, k, h => by simp [nkD] at h
  | .str _, k, h => by simp [nkD] at h
  | .list _, k, h => by simp [nkD] at h
  | .dict _, k, h => by simp [nkD] at h
theorem nkL_data : ∀ (ds : List PyData) {ks : List NestedKey}, nkL ds = some ks → NestedKey.datas ks = ds ∧ numKs ks = true
  | [], ks, h => by simp only [nkL, Option.some.injEq] at h; subst h; exact ⟨by simp [NestedKey.datas], by simp [numKs]⟩
  | d :: ds, ks, h => by
    simp only [nkL, Option.bind_eq_some_iff, Option.map_eq_some_iff] at h
    obtain ⟨k, h1, ks', h2, rfl⟩ := h
    obtain ⟨a1, a2⟩ := nkD_data d h1
    obtain ⟨b1, b2⟩ := nkL_data ds h2
    exact ⟨by simp [NestedKey.datas, a1, b1], by simp [numKs, a2, b2]⟩
end
mutual
theorem nk_is {h : Heap} : ∀ (d : PyData) {v : Value} {as : List Addr} {k : NestedKey}, Reads h v d as → nkD d = some k → NestedIs h k v
  | .int i, v, as, k, r, e => by
    simp only [nkD, Option.some.injEq] at e; subst e
    cases r; exact .int _ _
  | .tuple ds, v, as, k, r, e => by
    simp only [nkD, Option.map_eq_some_iff] at e
    obtain ⟨ks, h1, rfl⟩ := e
    cases r with
    | tuple g1 g2 g3 ra => exact .tup g1 g2 g3 (nk_all ds ra h1)
  | .none, v, as, k, r, e => by simp [nkD] at e
  | .bool _, v, as, k, r, e => by simp [nkD] at e
  | .str _, v, as, k, r, e => by simp [nkD] at e
  | .list _, v, as, k, r, e => by simp [nkD] at e
  | .dict _, v, as, k, r, e => by simp [nkD] at e
theorem nk_all {h : Heap} : ∀ (ds : List PyData) {vs : List Value} {as : List Addr} {ks : List NestedKey}, ReadsAll h vs ds as → nkL ds = some ks → NestedAll h ks vs
  | [], vs, as, ks, r, e => by
    simp only [nkL, Option.some.injEq] at e; subst e
    cases r; exact .nil
  | d :: ds, vs, as, ks, r, e => by
    simp only [nkL, Option.bind_eq_some_iff, Option.map_eq_some_iff] at e
    obtain ⟨k, h1, ks', h2, rfl⟩ := e
    cases r with
    | cons r1 r2 => exact .cons (nk_is d r1 h1) (nk_all ds r2 h2)
end
section
variable {P : Program} {w : World}
def ByV (P : Program) (w : World) (n : Nat) (s : Shared) (v : Value) : Prop := ∀ (A : Around) (E : Value → Shared → Prop) (Q : Bool → Shared → Prop), Q true s → wpAny (model P w) A (hashByValue n v) Q E s
def NoC (P : Program) (w : World) (n : Nat) (s : Shared) (v : Value) : Prop := ∀ (A : Around) (E : Value → Shared → Prop) (Q : Bool → Shared → Prop), Q false s → wpAny (model P w) A (ofAClassStatement n v) Q E s
theorem byV_tup {n m : Nat} {s : Shared} {a : Addr} {o : Obj} {vs : Array Value} (g1 : s.heap.get? a = some o) (g2 : o.cls = .type "tuple") (g3 : o.data = .seq vs m) (all : ∀ v ∈ vs.toList, ByV P w n s v) : ByV P w (n + 1) s (.ref a) := fun A E Q hQ => by
  have ty : s.TypeIs (.ref a) "tuple" := ⟨o, g1, g2⟩
  unfold hashByValue
  refine wpAny_bind (wpAny_specialOf ty F.slot_tuple_hash.lookup ?_)
  show wpAny _ _ (seqItems? (.ref a) >>= fun x => _) _ _ s
  refine wpAny_bind (wpAny_seqItems g1 g3 (wpAny_bind ?_))
  show wpAny _ _ (forIn vs _ _) _ _ s
  rw [← Array.forIn_toList]
  refine wpAny_forIn_list _ (fun rest r s' => r.1 = none ∧ s' = s ∧ ∀ v ∈ rest, ByV P w n s v) _ ?turn ?last _ _ ⟨rfl, rfl, all⟩
  case turn =>
    rintro v rest r s' ⟨_, rfl, more⟩
    refine wpAny_bind (more v List.mem_cons_self A _ _ ?_)
    simp only [Bool.not_true, Bool.false_eq_true, if_false]
    exact wpAny_pure ⟨rfl, rfl, fun u hu => more u (List.mem_cons_of_mem _ hu)⟩
  case last =>
    rintro ⟨r1, r2⟩ s' ⟨hr, rfl, _⟩
    simp only at hr
    subst hr
    exact wpAny_pure hQ
theorem noC_tup {n m : Nat} {s : Shared} {a : Addr} {o : Obj} {vs : Array Value} (g1 : s.heap.get? a = some o) (g2 : o.cls = .type "tuple") (g3 : o.data = .seq vs m) (all : ∀ v ∈ vs.toList, NoC P w n s v) : NoC P w (n + 1) s (.ref a) := fun A E Q hQ => by
  have ty : s.TypeIs (.ref a) "tuple" := ⟨o, g1, g2⟩
  unfold ofAClassStatement
  refine wpAny_bind (wpAny_typeOf ty ?_)
  dsimp only
  have et : (("tuple" : String) == "tuple") = true := by decide
  simp only [et, if_true, Bool.not_true, Bool.false_eq_true, if_false]
  try refine wpAny_bind (wpAny_pure ?_)
  try simp only [Bool.not_true, Bool.false_eq_true, if_false]
  show wpAny _ _ (seqItems? (.ref a) >>= fun x => _) _ _ s
  refine wpAny_bind (wpAny_seqItems g1 g3 ?_)
  dsimp only
  refine wpAny_bind ?_
  show wpAny _ _ (forIn vs _ _) _ _ s
  rw [← Array.forIn_toList]
  refine wpAny_forIn_list _ (fun rest r s' => r.1 = none ∧ s' = s ∧ ∀ v ∈ rest, NoC P w n s v) _ ?turn ?last _ _ ⟨rfl, rfl, all⟩
  case turn =>
    rintro v rest r s' ⟨_, rfl, more⟩
    refine wpAny_bind (more v List.mem_cons_self A _ _ ?_)
    simp only [Bool.false_eq_true, if_false]
    exact wpAny_pure ⟨rfl, rfl, fun u hu => more u (List.mem_cons_of_mem _ hu)⟩
  case last =>
    rintro ⟨r1, r2⟩ s' ⟨hr, rfl, _⟩
    simp only at hr
    subst hr
    exact wpAny_pure hQ
mutual
theorem byV_key : ∀ (k : NestedKey) (v : Value) (n : Nat) (s : Shared), NestedIs s.heap k v → numK k = true → k.depth ≤ n → ByV P w n s v ∧ NoC P w n s v
  | .num i, v, n, s, h, _, _ => by
    cases h <;> exact ⟨fun A E Q q => by cases n <;> exact wpAny_pure q, fun A E Q q => by cases n <;> exact wpAny_pure q⟩
  | .tup ks, v, n, s, h, hn, hd => by
    cases h with
    | tup g1 g2 g3 ha =>
      simp only [NestedKey.depth] at hd
      simp only [numK] at hn
      obtain ⟨m, rfl⟩ : ∃ m, n = m + 1 := ⟨n - 1, by omega⟩
      have all := byV_keys ks _ m s ha hn (by omega)
      exact ⟨byV_tup g1 g2 g3 fun v hv => (all v hv).1, noC_tup g1 g2 g3 fun v hv => (all v hv).2⟩
  | .none, v, n, s, h, hn, _ => by simp [numK] at hn
  | .text _, v, n, s, h, hn, _ => by simp [numK] at hn
theorem byV_keys : ∀ (ks : List NestedKey) (vs : List Value) (n : Nat) (s : Shared), NestedAll s.heap ks vs → numKs ks = true → NestedKey.depthAll ks ≤ n → ∀ v ∈ vs, ByV P w n s v ∧ NoC P w n s v
  | [], vs, n, s, h, _, _, v, hv => by cases h; simp at hv
  | k :: ks, vs, n, s, h, hn, hd, v, hv => by
    cases h with
    | cons h1 h2 =>
      simp only [numKs, Bool.and_eq_true] at hn
      simp only [NestedKey.depthAll] at hd
      rcases List.mem_cons.mp hv with rfl | hv
      · exact byV_key k _ n s h1 hn.1 (by omega)
      · exact byV_keys ks _ n s h2 hn.2 (by omega) v hv
end
theorem sk_nested : SK P w (nestedKind P w) (fun k => numK k = true) where
  stay := fun hk x => ⟨NestedIs.at hk _ _ x.1, x.2⟩
  byv := fun ox hx q => (byV_key _ _ 8 _ hx.1 ox hx.2).1 _ _ _ q
  noc := fun ox hx q => (byV_key _ _ 8 _ hx.1 ox hx.2).2 _ _ _ q
end
end PD
/-! PDW: sorted(set(xs)) by data. -/
namespace PD
open PySem PySem.Spec PyProof.Rows L2
theorem perm_map_ex {α β : Type} {f : α → β} {vs ws : List β} (h : vs.Perm ws) : ∀ {L : List α}, ws = L.map f → ∃ M : List α, M.Perm L ∧ vs = M.map f := by
  induction h with
  | nil => intro L e; cases L with
    | nil => exact ⟨[], .nil, rfl⟩
    | cons _ _ => cases e
  | cons x _ ih =>
    intro L e
    cases L with
    | nil => cases e
    | cons a L =>
      rw [List.map_cons] at e
      injection e with e1 e2
      obtain ⟨M, p, rfl⟩ := ih e2
      exact ⟨a :: M, p.cons a, by rw [e1]; rfl⟩
  | swap x y l =>
    intro L e
    cases L with
    | nil => cases e
    | cons a L =>
      cases L with
      | nil => cases e
      | cons b L =>
        simp only [List.map_cons, List.cons.injEq] at e
        obtain ⟨e1, e2, e3⟩ := e
        exact ⟨b :: a :: L, .swap _ _ _, by simp [e1, e2, e3]⟩
  | trans _ _ ih1 ih2 =>
    intro L e
    obtain ⟨M, p, e2⟩ := ih2 e
    obtain ⟨M2, p2, e3⟩ := ih1 e2
    exact ⟨M2, p2.trans p, e3⟩
theorem perm_sorted {α : Type} {R : α → α → Prop} : ∀ {l m : List α}, l.Perm m → l.Pairwise R → m.Pairwise R → (∀ x ∈ l, ∀ y ∈ l, R x y → R y x → x = y) → l = m
  | [], m, p, _, _, _ => (List.Perm.eq_nil p.symm).symm
  | x :: l, [], p, _, _, _ => absurd p.length_eq (by simp)
  | x :: l, y :: m, p, hl, hm, anti => by
    have e : x = y := by
      rcases List.mem_cons.mp (p.mem_iff.mp List.mem_cons_self) with e | hx
      · exact e
      · rcases List.mem_cons.mp (p.mem_iff.mpr (List.mem_cons_self (a := y) (l := m))) with e | hy
        · exact e.symm
        · exact anti x List.mem_cons_self y (List.mem_cons_of_mem _ hy) ((List.pairwise_cons.mp hl).1 y hy) ((List.pairwise_cons.mp hm).1 x hx)
    subst e
    rw [perm_sorted (p.cons_inv) (List.pairwise_cons.mp hl).2 (List.pairwise_cons.mp hm).2 fun a ha b hb => anti a (List.mem_cons_of_mem _ ha) b (List.mem_cons_of_mem _ hb)]
theorem leD_total : PySem.W.TotalLe leD := PySem.W.sortLe_total (listOrd itemOrd) false fun b => PySem.W.keyToks b
/-- two lists of the same data without repetition, sorted -/
theorem sort_same {l m : List PyData} (p : l.Perm m) (anti : ∀ x ∈ l, ∀ y ∈ l, x = y ∨ PySem.W.dataLt x y = true ∨ PySem.W.dataLt y x = true) : l.mergeSort leD = m.mergeSort leD := by
  refine perm_sorted (R := fun a b => leD a b = true) ((List.mergeSort_perm l _).trans (p.trans (List.mergeSort_perm m _).symm)) (PySem.W.sort_pairwise leD_total l) (PySem.W.sort_pairwise leD_total m) fun x hx y hy h1 h2 => ?_
  have hx := (List.mergeSort_perm l leD).mem_iff.mp hx
  have hy := (List.mergeSort_perm l leD).mem_iff.mp hy
  unfold leD at h1 h2
  simp only [Bool.not_eq_true'] at h1 h2
  rcases anti x hx y hy with e | e | e
  · exact e
  · rw [e] at h2; cases h2
  · rw [e] at h1; cases h1
mutual
theorem nk_nolist {h : Heap} : ∀ (d : PyData) {v : Value} {as : List Addr} {k : NestedKey}, Reads h v d as → nkD d = some k → as = []
  | .int i, v, as, k, r, e => by cases r; rfl
  | .tuple ds, v, as, k, r, e => by
    simp only [nkD, Option.map_eq_some_iff] at e
    obtain ⟨ks, h1, rfl⟩ := e
    cases r with
    | tuple _ _ _ ra => exact nk_nolists ds ra h1
  | .none, v, as, k, r, e => by simp [nkD] at e
  | .bool _, v, as, k, r, e => by simp [nkD] at e
  | .str _, v, as, k, r, e => by simp [nkD] at e
  | .list _, v, as, k, r, e => by simp [nkD] at e
  | .dict _, v, as, k, r, e => by simp [nkD] at e
theorem nk_nolists {h : Heap} : ∀ (ds : List PyData) {vs : List Value} {as : List Addr} {ks : List NestedKey}, ReadsAll h vs ds as → nkL ds = some ks → as = []
  | [], vs, as, ks, r, e => by cases r; rfl
  | d :: ds, vs, as, ks, r, e => by
    simp only [nkL, Option.bind_eq_some_iff, Option.map_eq_some_iff] at e
    obtain ⟨k, h1, ks', h2, rfl⟩ := e
    cases r with
    | cons r1 r2 => rw [nk_nolist d r1 h1, nk_nolists ds r2 h2]; rfl
end
/-! ### the items of the list -/
structure ItK (K : PySem.W.Frag) (F : Hp) (q : Addr × NestedKey) : Prop where
  r : Rp K F (.ref q.1) q.2.data
  n : nkD q.2.data = some q.2
theorem items_k {K : PySem.W.Frag} {F : Hp} : ∀ {ws : List V} {ds : List PyData} {kz : List NestedKey}, RpL K F ws ds → nkL ds = some kz → (∀ k ∈ kz, ∃ l, k = .tup l) → ∃ ks : List (Addr × NestedKey), ws = ks.map (fun q => V.ref q.1) ∧ kz = ks.map (·.2) ∧ ∀ q ∈ ks, ItK K F q
  | _, _, kz, .nil, e, _ => by simp only [nkL, Option.some.injEq] at e; subst e; exact ⟨[], rfl, rfl, fun q hq => by simp at hq⟩
  | _, _, kz, @RpL.cons _ _ v vs d ds h t, e, hk => by
    simp only [nkL, Option.bind_eq_some_iff, Option.map_eq_some_iff] at e
    obtain ⟨k, h1, ks', h2, rfl⟩ := e
    obtain ⟨ks, e1, e2, e3⟩ := items_k t h2 fun k hk' => hk k (List.mem_cons_of_mem _ hk')
    obtain ⟨l, rfl⟩ := hk k List.mem_cons_self
    have hd := (nkD_data d h1).1
    have : ∃ b, v = .ref b := by
      rw [← hd] at h
      simp only [NestedKey.data] at h
      cases h; exact ⟨_, rfl⟩
    obtain ⟨b, rfl⟩ := this
    refine ⟨(b, .tup l) :: ks, by rw [e1]; rfl, by rw [e2]; rfl, fun q hq => ?_⟩
    rcases List.mem_cons.mp hq with rfl | hq
    · exact ⟨by rw [hd]; exact h, by rw [hd]; exact h1⟩
    · exact e3 q hq
def tupK8 : NestedKey → Bool
  | .tup l => decide ((NestedKey.tup l).depth ≤ 8)
  | _ => false
def antisK (kz : List NestedKey) : Bool := kz.all fun x => kz.all fun y => decide (x = y) || PySem.W.dataLt x.data y.data || PySem.W.dataLt y.data x.data
def dedupK : List NestedKey → List NestedKey
  | [] => []
  | k :: r => if k ∈ r then dedupK r else k :: dedupK r
theorem mem_dedupK {k : NestedKey} : ∀ {l : List NestedKey}, k ∈ dedupK l ↔ k ∈ l
  | [] => Iff.rfl
  | a :: l => by
    unfold dedupK
    by_cases h : a ∈ l
    · rw [if_pos h, mem_dedupK]
      exact ⟨fun z => List.mem_cons_of_mem _ z, fun z => (List.mem_cons.mp z).elim (fun e => e ▸ h) id⟩
    · rw [if_neg h, List.mem_cons, List.mem_cons, mem_dedupK]
theorem nodup_dedupK : ∀ l : List NestedKey, (dedupK l).Nodup
  | [] => List.nodup_nil
  | a :: l => by
    unfold dedupK
    by_cases h : a ∈ l
    · rw [if_pos h]; exact nodup_dedupK l
    · rw [if_neg h]; exact List.nodup_cons.mpr ⟨fun z => h (mem_dedupK.mp z), nodup_dedupK l⟩
def dSortSet : List PyData → Option PyData
  | [.list ds] => (nkL ds).bind fun kz => if (decide (kz.length < 300) && kz.all tupK8 && sortOk ds && antisK kz) = true then some (.list (((dedupK kz).map NestedKey.data).mergeSort leD)) else none
  | _ => none
theorem datas_map : ∀ ks : List NestedKey, NestedKey.datas ks = ks.map NestedKey.data
  | [] => by simp [NestedKey.datas]
  | k :: ks => by simp [NestedKey.datas, datas_map ks]
section
variable {P : Program} {w : World} {A : Around} {E : Value → Shared → Prop} {s : Shared}
/-- sorted(set) -/
theorem sorted_setN {a : Addr} {L : List (Addr × NestedKey)} {es : Array (Int × Value)} {ep : Nat} {t : SetTable} {Q : Value → Shared → Prop} (R : SetN (nestedKind P w) (fun k => numK k = true) s.heap a L es ep t) (hh : A.handled = none)
    (rd : ∀ q ∈ L, ∃ as, Reads s.heap (.ref q.1) q.2.data as) (nk : ∀ q ∈ L, nkD q.2.data = some q.2) (al : PySem.W.AllAlike (L.map fun q => q.2.data)) (so : PySem.W.Sortable (L.map fun q => q.2.data)) (hu : ∀ q ∈ L, A.units + 3 + q.2.data.depth < cLine)
    (go : ∀ s' p (out : List Value) (c : Nat) (M : List (Addr × NestedKey)), (∀ b o, s.heap.get? b = some o → s'.heap.get? b = some o) → s'.gens = s.gens → s'.os = s.os → s.heap.objs.size ≤ p →
      s'.heap.get? p = some (seqObj "list" out.toArray c) → out = M.map (fun q => Value.ref q.1) → M.Perm L → M.map (fun q => q.2.data) = (L.map fun q => q.2.data).mergeSort leD → Q (.ref p) s') (anti : ∀ x ∈ L, ∀ y ∈ L, x.2.data = y.2.data ∨ PySem.W.dataLt x.2.data y.2.data = true ∨ PySem.W.dataLt y.2.data x.2.data = true) :
    wpAny (model P w) A (call (.builtin "sorted") [.ref a]) Q E s := by
  obtain ⟨o, g1, g2, g3⟩ := R.obj
  have zs := ent_size R.ent
  have few := R.few
  refine Calls.call_function_entry kind_sorted plain_sorted entry_sorted (args_sorted1 _) ?_
  unfold Builtin.«sorted»
  refine wpAny_bind (m := checkCount "sorted" 1 1 _) (wpAny_pure (wpAny_bind (collect_set (A := A.in1) hh ⟨o, g1, g2.1, g3⟩ R.fits (by unfold scanBound; omega) R.tab.ris R.led fun s1 vs k1 hz eg eo pm => ?_)))
  have pm' : vs.Perm (L.map fun q => Value.ref q.1) := by rw [R.ent, List.map_map] at pm; exact pm
  obtain ⟨M, pM, rfl⟩ := perm_map_ex pm' rfl
  have lM : M.length < 300 := by rw [pM.length_eq]; exact few
  refine wpAny_bind (wpAny_newList ?_ (by rw [sizeLine_eq, List.length_map]; omega))
  have gL : (s1.heap.push (seqObj "list" (M.map fun q => Value.ref q.1).toArray 0)).get? s1.heap.objs.size = some (seqObj "list" (M.map fun q => Value.ref q.1).toArray 0) := Heap.get?_push_size _ rfl
  have each : ∀ M' : List (Addr × NestedKey), PySem.W.EachIs (fun v q => v = Value.ref q.1) (M'.map fun q => Value.ref q.1) M' := fun M' => by
    induction M' with
    | nil => exact .nil
    | cons q M' ih => exact .cons rfl ih
  have mL : ∀ q ∈ M, q ∈ L := fun q hq => pM.mem_iff.mp hq
  have er : PySem.W.EachIs (fun v q => ∃ as, Reads (s1.heap.push (seqObj "list" (M.map fun q => Value.ref q.1).toArray 0)) v ((fun q : Addr × NestedKey => q.2.data) q) as ∧ s1.heap.objs.size ∉ as) (M.map fun q => Value.ref q.1) M := each_mono (each M) fun v q hq e => by
    obtain ⟨as, r⟩ := rd q (mL q hq)
    have := nk_nolist _ r (nk q (mL q hq))
    subst this
    rw [e]
    exact ⟨[], PyProof.Rows.Reads.keeps (fun b u e => Heap.get?_push_of_some _ (k1 b u e)) r, by simp⟩
  have sub : ∀ d, d ∈ M.map (fun q => q.2.data) → d ∈ L.map fun q => q.2.data := fun d hd => (pM.map _).mem_iff.mp hd
  refine wpAny_bind (wpAny_holding (PySem.W.list_sort_data (s := { s1 with heap := s1.heap.push (seqObj "list" (M.map fun q => Value.ref q.1).toArray 0) }) (R := fun (v : Value) (q : Addr × NestedKey) => v = Value.ref q.1) (bs := M) (enc := fun (q : Addr × NestedKey) => q.2.data) gL (each M) er (fun d hd d' hd' => al d (sub d hd) d' (sub d' hd')) ?_ (by rw [sizeLine_eq]; omega) (fun q hq => by have := hu q (mL q hq); show A.units + 1 + 1 + q.2.data.depth < cLine; omega) fun out hl ho => ?_))
  · rcases so with so | so
    · exact .inl fun d hd => so d (sub d hd)
    · exact .inr fun d hd => so d (sub d hd)
  obtain ⟨c, hc⟩ := sortedHeap_at (vs := M.map fun q => Value.ref q.1) (out := out.toArray) gL
  have eo' : out = (M.mergeSort (PySem.W.dataLe false fun q => q.2.data)).map fun q => Value.ref q.1 := by
    have : ∀ {as : List Value} {bs : List (Addr × NestedKey)}, PySem.W.EachIs (fun v q => v = Value.ref q.1) as bs → as = bs.map fun q => Value.ref q.1 := fun h => by
      induction h with
      | nil => rfl
      | cons e _ ih => rw [e, ih]; rfl
    exact this ho
  refine wpAny_pure ⟨_, rfl, go _ s1.heap.objs.size out c (M.mergeSort (PySem.W.dataLe false fun q => q.2.data)) (fun b u e => ?_) eg eo hz hc eo' ((List.mergeSort_perm M _).trans pM) ?_⟩
  · have q := k1 b u e
    have lt := Heap.lt_size q
    show (sortedHeap (s1.heap.push (seqObj "list" (M.map fun q => Value.ref q.1).toArray 0)) s1.heap.objs.size _ _).get? b = some u
    rw [sortedHeap_old (Nat.ne_of_lt lt) (by rw [size_push']; exact Nat.lt_succ_of_lt lt)]
    exact Heap.get?_push_of_some _ q
  · rw [PySem.W.sort_maps (r := PySem.W.dataLe false fun q : Addr × NestedKey => q.2.data) (s := leD) (fun q : Addr × NestedKey => q.2.data) fun x _ y _ => rfl]
    refine sort_same (pM.map _) fun x hx y hy => ?_
    obtain ⟨q, hq, rfl⟩ := List.mem_map.mp hx
    obtain ⟨r, hr, rfl⟩ := List.mem_map.mp hy
    exact anti q (mL q hq) r (mL r hr)
end
section
variable {X : Cx} {W : WX} {ph : List Fl} {e : Expr} {ge : Rw → Rs PyData}
theorem rpl_of_keys {K : PySem.W.Frag} {F : Hp} : ∀ M : List (Addr × NestedKey), (∀ q ∈ M, ItK K F q) → RpL K F (M.map fun q => V.ref q.1) (M.map fun q => q.2.data)
  | [], _ => .nil
  | q :: M, h => .cons (h q List.mem_cons_self).r (rpl_of_keys M fun r hr => h r (List.mem_cons_of_mem _ hr))
theorem vals_refs : ∀ M : List (Addr × NestedKey), Vals (M.map fun q => V.ref q.1) (M.map fun q => Value.ref q.1)
  | [] => .nil
  | q :: M => .cons rfl (vals_refs M)
theorem refs_vals : ∀ {ks : List (Addr × NestedKey)} {us : List Value}, Vals (ks.map fun q => V.ref q.1) us → us = ks.map fun q => Value.ref q.1
  | [], _, .nil => rfl
  | q :: ks, _, .cons r t => by cases r; rw [refs_vals t]; rfl
theorem do_sortSet [Tb] {p p2 pos pos2 : Pos} (hr : Room 1 X.A) (hc : X.calm = true) (he : DE X W ph e ge) (hm : X.mg "sorted" = none) (hms : X.mg "set" = none) (hg : Gl X "sorted" := by rfl) (hgs : Gl X "set" := by rfl)
    (hs : starEach [.Call (.Name "set" p2) [e] [] pos2] X.env = [(false, eval (.Call (.Name "set" p2) [e] [] pos2) X.env)] := by rfl) (hs2 : starEach [e] X.env = [(false, eval e X.env)] := by rfl) :
    DO X W ph (.Call (.Name "sorted" p) [.Call (.Name "set" p2) [e] [] pos2] [] pos) (gL dSortSet (gCons ge gNil)) := by
  refine ⟨fun pins s σ H Q I h => ?_⟩
  obtain ⟨F, rho, n, q⟩ := h
  have q : Aft X.mg W σ F H (ge rho >>= fun x => lift (dSortSet [x])) (fun d F' H' => ∀ (p : Addr) (o : HO), H p = none → F' p = none → H' p = some o → RepO X.K F' o d → Q (.ref p) H') := by
    have := q
    unfold gL gCons gNil at this
    cases eg : ge rho with
    | ok d => rw [eg] at this; exact this
    | error er => rw [eg] at this; exact this
  refine wpAny_Call_Name_kw (ld_blt I hg hm (show bootBuiltins "sorted" = some (.builtin "sorted") by decide +kernel) ?_ (by decide) (by decide))
  refine PyProof.Rows.callWith_builtin1 (e := .Call (.Name "set" p2) [e] [] pos2) (rest := []) ?_ hs rfl
  rw [hs]
  show wpAny _ _ (spliced [(false, eval (.Call (.Name "set" p2) [e] [] pos2) X.env)]) _ _ s
  refine Calls.spliced_cons ?_
  refine wpAny_Call_Name_kw (ld_blt I hgs hms (show bootBuiltins "set" = some (.type "set") by decide +kernel) ?_ (by decide) (by decide))
  refine PyProof.Rows.callWith_type1 (e := e) (rest := []) ?_ hs2 rfl
  rw [hs2]
  show wpAny _ _ (spliced [(false, eval e X.env)]) _ _ s
  refine Calls.spliced_cons (thn (he.run pins s σ H (fun v H1 => ∃ F1 d, Step F H F1 H1 ∧ Rp X.K F1 v d ∧ Aft X.mg W σ F1 H1 (lift (dSortSet [d])) (fun d F' H' => ∀ (p : Addr) (o : HO), H p = none → F' p = none → H' p = some o → RepO X.K F' o d → Q (.ref p) H')) I ⟨F, rho, n, q.bind fun d1 F1 H1 s1 q1 v1 r1 => ⟨F1, d1, s1, r1, q1⟩⟩) fun u s1 ⟨v, H1, I1, rv, F1, d, st1, rp, q1⟩ => ?_)
  refine Calls.spliced_nil ?_
  obtain ⟨z, ez, q2⟩ := q1.lift
  unfold dSortSet at ez
  split at ez
  · rename_i _ ds ed
    cases ed
    obtain ⟨kz, ek, ez⟩ := Option.bind_eq_some_iff.mp ez
    split at ez
    · rename_i hok
      cases ez
      simp only [Bool.and_eq_true, decide_eq_true_eq] at hok
      obtain ⟨⟨⟨few, t8⟩, so⟩, an⟩ := hok
      obtain ⟨sh, al, srt⟩ := sortOk_of so
      have t8' : ∀ k ∈ kz, ∃ l, k = .tup l ∧ k.depth ≤ 8 := fun k hk => by
        have := List.all_eq_true.mp t8 k hk
        cases k with
        | tup l => exact ⟨l, rfl, by simpa [tupK8] using this⟩
        | _ => simp [tupK8] at this
      cases rp with
      | @lst la ws _ hF hz ht =>
        cases rv
        obtain ⟨ks, ew, ekz, hk⟩ := items_k ht ek fun k hk => by obtain ⟨l, e, _⟩ := t8' k hk; exact ⟨l, e⟩
        obtain ⟨its, vls, pl, _⟩ := I1.list (SqL.of (st1.fh _ _ hF))
        rw [ew] at vls
        have ei := refs_vals vls
        have il : s1.heap.IsList la its.toArray := by obtain ⟨o, m, e1, e2, _, e4⟩ := pl; exact ⟨o, e1, e2, m, e4⟩
        have edata : ds = ks.map fun q => q.2.data := by
          have := (nkL_data ds ek).1
          rw [datas_map, ekz, List.map_map] at this
          exact this.symm
        have lz : kz.length = ks.length := by rw [ekz, List.length_map]
        have rdk : ∀ q ∈ ks, ∃ as, Reads s1.heap (.ref q.1) q.2.data as := fun q hq => Dp.reads I1 _ _ _ (Rp.dp st1.fh _ (shaped_item sh (by rw [edata]; exact List.mem_map_of_mem hq)).1 (hk q hq).r) rfl
        have kis : ∀ q ∈ ks, (nestedKind X.prog X.w).is s1.heap q.2 q.1 ∧ numK q.2 = true := fun q hq => by
          obtain ⟨as, r⟩ := rdk q hq
          obtain ⟨l, e, d8⟩ := t8' q.2 (by rw [ekz]; exact List.mem_map_of_mem hq)
          exact ⟨⟨nk_is _ r (hk q hq).n, d8⟩, (nkD_data _ (hk q hq).n).2⟩
        have hun := hr.un
        refine call_setN sk_nested ks (I1.ok.hd hc) il (by rw [ei]) kis (by omega) (by show X.A.units + 1 + 1 + 1 + 8 < cLine; omega) fun h2 tk L es ep t RS met keep => ?_
        refine Calls.spliced_nil ?_
        have inks : ∀ q ∈ L, q ∈ ks := fun q hq => List.mem_of_mem_take (met.sub q hq)
        have inds : ∀ d, d ∈ L.map (fun q => q.2.data) → d ∈ ds := fun d hd => by
          obtain ⟨q, hq, rfl⟩ := List.mem_map.mp hd
          rw [edata]; exact List.mem_map_of_mem (inks q hq)
        have anti : ∀ x ∈ ks, ∀ y ∈ ks, x.2.data = y.2.data ∨ PySem.W.dataLt x.2.data y.2.data = true ∨ PySem.W.dataLt y.2.data x.2.data = true := fun x hx y hy => by
          have := List.all_eq_true.mp (List.all_eq_true.mp an x.2 (by rw [ekz]; exact List.mem_map_of_mem hx)) y.2 (by rw [ekz]; exact List.mem_map_of_mem hy)
          simp only [Bool.or_eq_true, decide_eq_true_eq] at this
          rcases this with (e | e) | e
          · exact .inl (by rw [e])
          · exact .inr (.inl e)
          · exact .inr (.inr e)
        refine sorted_setN (s := { s1 with heap := h2, toks := tk }) RS (I1.ok.hd hc) (fun q hq => ?_) (fun q hq => (hk q (inks q hq)).n) (fun d hd d' hd' => al d (inds d hd) d' (inds d' hd')) ?_ (fun q hq => ?_) (fun s3 pa out c M k3 eg eo hp hat eout pM eM => ?_) fun x hx y hy => anti x (inks x hx) y (inks y hy)
        · obtain ⟨as, r⟩ := rdk q (inks q hq)
          exact ⟨as, PyProof.Rows.Reads.keeps keep r⟩
        · rcases srt with srt | srt
          · exact .inl fun d hd => srt d (inds d hd)
          · exact .inr fun d hd => srt d (inds d hd)
        · have := (shaped_item sh (inds _ (List.mem_map_of_mem hq))).2
          show X.A.units + 3 + q.2.data.depth < cLine
          omega
        · have fresh1 : s1.heap.objs.size ≤ pa := by
            refine Nat.le_trans ?_ hp
            obtain ⟨o, g1, _⟩ := RS.obj
            exact Nat.le_of_lt (Heap.lt_size g1)
          have hf : H1 pa = none := I1.hok.fresh fresh1
          have lM : (M.map fun q => V.ref q.1).length ≤ sizeLine := by rw [List.length_map, pM.length_eq, sizeLine_eq]; have := RS.few; omega
          have rpM : RpL X.K F1 (M.map fun q => V.ref q.1) (M.map fun q => q.2.data) := rpl_of_keys M fun q hq => hk q (inks q (pM.mem_iff.mp hq))
          have eds : M.map (fun q => q.2.data) = ((dedupK kz).map NestedKey.data).mergeSort leD := by
            rw [eM]
            have pk : (L.map (·.2)).Perm (dedupK kz) := by
              refine (List.perm_ext_iff_of_nodup RS.uni (nodup_dedupK kz)).mpr fun k => ?_
              rw [mem_dedupK, ekz]
              refine ⟨fun hk' => ?_, fun hk' => ?_⟩
              · obtain ⟨q, hq, rfl⟩ := List.mem_map.mp hk'
                exact List.mem_map_of_mem (inks q hq)
              · obtain ⟨q, hq, rfl⟩ := List.mem_map.mp hk'
                exact met.all q (by rw [List.take_length]; exact hq)
            have pd : (L.map fun q => q.2.data).Perm ((dedupK kz).map NestedKey.data) := by
              have := pk.map NestedKey.data
              rw [List.map_map] at this
              exact this
            refine sort_same pd fun x hx y hy => ?_
            obtain ⟨a, ha, rfl⟩ := List.mem_map.mp hx
            obtain ⟨b, hb, rfl⟩ := List.mem_map.mp hy
            exact anti a (inks a ha) b (inks b hb)
          rw [← eds] at q2
          have up : ∀ b o, s1.heap.get? b = some o → s3.heap.get? b = some o := fun b o e => k3 b o (keep b o e)
          have J : Inv X pins σ (upd H1 pa (.lst (M.map fun q => V.ref q.1))) { s1 with heap := s3.heap, gens := s3.gens, drawn := s3.drawn, toks := s3.toks } :=
            I1.call (ch := []) (Un.laid up fresh1 hf) (I1.hok.laid up fresh1 ⟨lM, out, c, by rw [eout]; exact vals_refs M, hat⟩) (by rw [eg]; exact I1.bare) (fun _ z => nomatch z)
          have es3 : s3 = { s1 with heap := s3.heap, gens := s3.gens, drawn := s3.drawn, toks := s3.toks } := by
            obtain ⟨_, _, _, _, _⟩ := s3
            cases eo
            rfl
          rw [es3]
          exact ⟨.ref pa, _, J, rfl, q2.ok (Step.hid st1.fh hf) _ _ (st1.h.free hf) (same_none st1.fh hf) upd_same ⟨lM, rpM⟩⟩
    · cases ez
  · cases ez
end
end PD
/-! PDC: two names stored at once; the end of a law. -/
namespace PD
open PySem L2
theorem un67 {A : Around} {k : Nat} (hr : Room k A) : A.units + 67 < cLine := by have := hr.un; omega
section
variable {X : Cx} {W : WX} {C : Ctl} {ph : List Fl} {a b : Expr} {pos : Pos} {ga gb : Rw → Rs PyData}
/-- x, y = a, b -/
def gPar (i j : Nat) (ga gb : Rw → Rs PyData) : Rw → SR := fun rho => thenS (ga rho) rho fun x => thenS (gb rho) rho fun y => .nx ((rho.set i x).set j y)
theorem ds_par [Tb] (i j : Nat) {x y : Str} {px py pt : Pos} {kt k2 pt2} (hc : X.calm = true) (hN : X.N.Nodup) (ha : DE X W ph a ga) (hb : DE X W ph b gb) (hi : X.N[i]? = some x := by rfl) (hj : X.N[j]? = some y := by rfl) (hij : i ≠ j := by decide)
    (hx : X.env.scope.names.lookup x = some .local := by rfl) (hy : X.env.scope.names.lookup y = some .local := by rfl) (w : wk ph C.e = true := by rfl) (h1 : starEach [a, b] X.env = (false, eval a X.env) :: starEach [b] X.env := by rfl) (h2 : starEach [b] X.env = (false, eval b X.env) :: starEach [] X.env := by rfl)
    (hw : swappedStores [.Tuple [.Name x px, .Name y py] kt pt] (.Tuple [a, b] k2 pt2) X.env = pure (some [x, y]) := by rfl) (hs : swapsWithSole [.Tuple [.Name x px, .Name y py] kt pt] (.Tuple [a, b] k2 pt2) pos.line X.env = pure false := by rfl) :
    DS X W C ph ((ph.set i .im).set j .im) (.Assign [.Tuple [.Name x px, .Name y py] kt pt] (.Tuple [a, b] k2 pt2) pos) (gPar i j ga gb) :=
  ps_imp (ps_par hc hN hi hj hij hx hy (L2.pa_cons ha (L2.pa_cons hb L2.pa_nil h2) h1) hw hs) fun D σ H ⟨F0, H0, F, rho, n, q⟩ => ⟨F, rho, n.en, aft_then n w q fun d1 F1 H1 s1 q1 v1 r1 => ⟨F1, rho, (n.step s1).en, aft_then (n.step s1) w q1 fun d2 F2 H2 s2 q2 v2 r2 => by
    refine ⟨v1, v2, rfl, ?_⟩
    exact q2 _ F2 H2 ((((n.step s1).step s2).setIm i (r1.mono s2.f)).setIm j r2)⟩⟩
end
/-! ### the end -/
/-- law's promise: a list of at most 63 ints is handed in, the tables are empty; True comes out -/
def spLaw [Tb] (K : PySem.W.Frag) : Sp := fun vs H Q _ => ∃ (a : Addr) (ns : List Int), vs = [.ref a] ∧ SqL K H a (ns.map V.int) ∧ ns.length ≤ 63 ∧ (∀ p ∈ Tb.tab, H p.1 = some (.tbl #[])) ∧ ∀ H', Q (.bl true) H'
open Classical in
theorem law_end [Tb] {P : Program} {w : World} {K : PySem.W.Frag} {mg : Str → Option Value} {base : Heap} {k : Nat} {f : Addr} {fd : FuncData} {m : List PyData → Rs PyData} (O : FnOk P w K mg base (L2.CX P w) k f fd ["script"] (spP K mg 1 m))
    (h : ∀ ns : List Int, ns.length ≤ 63 → m [scrD ns] = .ok (.bool true)) : FnOk P w K mg base (L2.CX P w) k f fd ["script"] (spLaw K) :=
  O.imp fun vs H Q E ⟨a, ns, e, hS, hl, hT, q⟩ => by
    subst e
    let F : Hp := fun b => if b ∈ Tb.tab.map (·.1) then none else H b
    have sF : Same F H := fun b o e => by
      have e : (if b ∈ Tb.tab.map (·.1) then none else H b) = some o := e
      split at e
      · cases e
      · exact e
    have keep : ∀ b o, H b = some o → (∀ ps, o ≠ .tbl ps) → F b = some o := fun b o e n => by
      show (if b ∈ Tb.tab.map (·.1) then none else H b) = some o
      rw [if_neg]
      · exact e
      · intro z
        obtain ⟨p, hp, rfl⟩ := List.mem_map.mp z
        rw [hT p hp] at e
        exact n _ (Option.some.inj e).symm
    have hS' : SqL K F a (ns.map V.int) := by
      rcases hS with (z | ⟨o, z⟩) | z
      · exact .inl (.inl (keep _ _ z fun _ q => by cases q))
      · exact .inl (.inr ⟨o, keep _ _ z fun _ q => by cases q⟩)
      · exact .inr z
    refine ⟨F, [scrD ns], rfl, sF, ⟨fun p hp => ⟨?_, LamX.TabS.nil (hT p hp)⟩, fun p xs e => keep p _ e fun _ q => by cases q⟩, .cons (.scr hS') .nil, ?_⟩
    · show (if p.1 ∈ Tb.tab.map (·.1) then none else H p.1) = none
      rw [if_pos (List.mem_map.mpr ⟨p, hp, rfl⟩)]
    rw [h ns hl]
    intro F' H' s v r
    cases r
    exact q H'
theorem cx_false {P : Program} {w : World} {H : Hp} {s : Shared} {e : Value} {s' : Shared} (h : L2.CX P w [] H s (fun _ _ _ => False) e s') : False := by
  obtain ⟨_, _, _, _, _, _, _, _, _, _, _, _, z⟩ := h
  exact z.elim
section
variable {K : PySem.W.Frag} {h : Heap} {mg : Str → Option Value}
theorem defT_of {x : Str} {st : Stmt} {ps : List Str} {f : Addr} {fd : FuncData} (g : mg x = some (.ref f)) (D : FunD K x x (defArgs st) (defBody st) (defScope st) [] [] f fd)
    (hb : ∀ (kV doc pm : Value) (an : Option Addr) (cdv ct : Value) (us : List Value), us.length = ps.length → bindArgs (PySem.W.fnOf x x (defArgs st) (defBody st) (defScope st) .none kV doc pm an cdv ct) ⟨us, []⟩ = pure (ps.zip us)) : DefT K mg x st ps f fd := by
  have F : Fun K x x st f fd := by
    obtain ⟨oc, od, dV, kV, doc, pm, an, cdv, ct, osl, e, lk, hcd, hd, _⟩ := D.ex
    refine ⟨⟨oc, od, kV, doc, pm, an, cdv, ct, osl, ?_, lk, hcd⟩, D.kp⟩
    rcases hd with ⟨_, hd⟩ | ⟨hd, _⟩
    · rw [e, hd]
    · exact absurd rfl hd
  exact ⟨F, F.binds hb, g⟩
theorem excT_of {x : Str} (X : K.In h) (G : h.Ns mainGlobals mg) (c1 : (He.Fa.glo x).ok K = true) (c2 : (He.Fa.exc x).ok K = true) : ExcT K mg x (He.ga K x) := by
  obtain ⟨q, k, b, t⟩ := He.exc_ok c2
  exact ⟨He.glo_ok X G c1, q, k, b, t⟩
theorem exm_of {x y : Str} {b : Bool} (X : K.In h) (G : h.Ns mainGlobals mg) (c1 : (He.Fa.glo x).ok K = true) (c2 : (He.Fa.glo y).ok K = true) (c3 : (He.Fa.exm x y b).ok K = true) : PySem.W.exmOne K (clsOf mg x) (clsOf mg y) = some b := by
  rw [show clsOf mg x = .ref (He.ga K x) by unfold clsOf; rw [He.glo_ok X G c1]; rfl, show clsOf mg y = .ref (He.ga K y) by unfold clsOf; rw [He.glo_ok X G c2]; rfl]
  exact He.exm_ok c3
end
end PD
/-! PDX: what is never reached; the head's facts. -/
namespace PD
open PySem L2
def gBad : Rw → Rs PyData := fun _ => .error .bad
theorem de_bad [Tb] {X : Cx} {W : WX} {ph : List Fl} {e : Expr} : DE X W ph e gBad := ⟨fun _ _ _ _ _ _ ⟨_, _, _, q⟩ => False.elim q⟩
theorem ExcAll.sub {K : PySem.W.Frag} {mg : Str → Option Value} {xs ys : List Str} (h : ExcAll K mg xs) (s : ∀ y ∈ ys, y ∈ xs) : ExcAll K mg ys := fun x hx y hy => h x (s x hx) y (s y hy)
section
variable {K : PySem.W.Frag} {x : Str} {st : Stmt} {fd : FuncData}
theorem code_ref {f : Addr} (D : FunD K x x (defArgs st) (defBody st) (defScope st) [] [] f fd) : ∃ c, fd.code = .ref c := by
  obtain ⟨oc, od, dV, kV, doc, pm, an, cdv, ct, osl, e, lk, hcd, hd, _⟩ := D.ex
  obtain ⟨c, rfl⟩ := He.codeIn_ref hcd
  exact ⟨c, congrArg FuncData.code e⟩
theorem code_at {c : Addr} (D : FunD K x x (defArgs st) (defBody st) (defScope st) [] [] (He.fAd K (x, none)) fd) (h : fd.code = .ref c) : (He.cT K (x, none)).1 = c := by
  obtain ⟨oc, od, dV, kV, doc, pm, an, cdv, ct, osl, e, lk, hcd, hd, _⟩ := D.ex
  exact He.codeOf_eq lk h
end
end PD
/-! PDY: list(range), range downwards, enumerate, the least of data, order of data, lists turned round. -/
namespace PD
open PySem L2
section
variable {X : Cx} {W : WX} {ph : List Fl} {e f a b c : Expr} {pos : Pos} {ga gb gc ge : Rw → Rs PyData}
/-! ### list(range(..)) -/
theorem rpl_rg {K : PySem.W.Frag} {F : Hp} (a b : Int) : RpL K F (rgV a b) (rangeD a (b - a).toNat) := by
  unfold rgV rangeD
  induction List.range (b - a).toNat with
  | nil => exact .nil
  | cons i l ih => exact .cons (.int _) ih
def dListR1 : PyData → Option PyData := fun d => (rng1 d).map PyData.list
def dListR2 : PyData → PyData → Option PyData := fun d e => (rng2 d e).map PyData.list
theorem do_listR1 [Tb] {p p2 pos2 : Pos} (hc : X.calm = true) (ha : DE X W ph a ga) (hl : X.mg "list" = none) (hm : X.mg "range" = none) (hg : Gl X "list" := by rfl) (hg2 : Gl X "range" := by rfl)
    (na : starEach [a] X.env = (false, eval a X.env) :: starEach [] X.env := by rfl) (nb : starEach [(.Call (.Name "range" p2) [a] [] pos2 : Expr)] X.env = (false, eval (.Call (.Name "range" p2) [a] [] pos2) X.env) :: starEach [] X.env := by rfl) :
    DO X W ph (.Call (.Name "list" p) [.Call (.Name "range" p2) [a] [] pos2] [] pos) (gU dListR1 ga) :=
  pe_imp (pe_listRg hc hg hl (prg_1 hg2 hm ha na) nb) fun σ H Q ⟨F, rho, n, q⟩ => ⟨F, rho, n, q.bind fun d F1 H1 s1 q1 v r => by
    obtain ⟨d2, e, q2⟩ := q1.lift
    cases r with
    | int k =>
      have e : (if -(2 ^ 62) ≤ k ∧ k < 2 ^ 62 ∧ k.toNat ≤ sizeLine then some (rangeD 0 k.toNat) else none).map PyData.list = some d2 := e
      split at e
      · rename_i hz
        cases e
        have hz2 : k.toNat ≤ 2 ^ 24 := by have := hz.2.2; rw [sizeLine_eq] at this; omega
        refine ⟨k, rfl, ⟨by decide, by decide, hz.1, hz.2.1, by simpa using hz2⟩, fun p hp => ?_⟩
        refine q2.ok (Step.hid s1.fh hp) p _ (s1.h.free hp) (same_none s1.fh hp) upd_same ⟨by rw [rgV_length]; simpa using hz.2.2, ?_⟩
        have := rpl_rg (K := X.K) (F := F1) 0 k
        simpa using this
      · cases e
    | _ => cases e⟩
theorem do_listR2 [Tb] {p p2 pos2 : Pos} (hc : X.calm = true) (ha : DE X W ph a ga) (hb : DE X W ph b gb) (hl : X.mg "list" = none) (hm : X.mg "range" = none) (hg : Gl X "list" := by rfl) (hg2 : Gl X "range" := by rfl)
    (na : starEach [a, b] X.env = (false, eval a X.env) :: starEach [b] X.env := by rfl) (nb : starEach [b] X.env = (false, eval b X.env) :: starEach [] X.env := by rfl) (hp2 : (backTo pos2 (starEach [b] X.env)).any (·.1) = false := by rfl)
    (nc : starEach [(.Call (.Name "range" p2) [a, b] [] pos2 : Expr)] X.env = (false, eval (.Call (.Name "range" p2) [a, b] [] pos2) X.env) :: starEach [] X.env := by rfl) :
    DO X W ph (.Call (.Name "list" p) [.Call (.Name "range" p2) [a, b] [] pos2] [] pos) (gB dListR2 ga gb) :=
  pe_imp (pe_listRg hc hg hl (prg_2 hg2 hm ha hb na nb hp2) nc) fun σ H Q ⟨F, rho, n, q⟩ => ⟨F, rho, n, q.bind fun d F1 H1 s1 q1 v r => ⟨F1, rho, n.step s1, q1.bind fun d3 F2 H2 s2 q2 v2 r2 => by
    obtain ⟨d2, e, q3⟩ := q2.lift
    cases r with
    | int k =>
      cases r2 with
      | int l =>
        have e : (if (-(2 ^ 62) ≤ k ∧ k < 2 ^ 62 ∧ -(2 ^ 62) ≤ l ∧ l < 2 ^ 62) ∧ (l - k).toNat ≤ sizeLine then some (rangeD k (l - k).toNat) else none).map PyData.list = some d2 := e
        split at e
        · rename_i hz
          cases e
          have hz2 : (l - k).toNat ≤ 2 ^ 24 := by have := hz.2; rw [sizeLine_eq] at this; omega
          refine ⟨k, l, rfl, rfl, ⟨hz.1.1, hz.1.2.1, hz.1.2.2.1, hz.1.2.2.2, hz2⟩, fun p hp => ?_⟩
          exact q3.ok (Step.hid s2.fh hp) p _ (s1.h.free (s2.h.free hp)) (same_none s2.fh hp) upd_same ⟨by rw [rgV_length]; exact hz.2, rpl_rg _ _⟩
        · cases e
      | _ => cases e
    | _ => cases e⟩⟩
/-! ### range downwards -/
def downD (lo : Int) (k : Nat) : List PyData := (List.range k).map fun (i : Nat) => PyData.int (lo - i)
def rngDn : PyData → PyData → Option (List PyData)
  | .int m, .int n => if (-(2 ^ 62) ≤ m ∧ m < 2 ^ 62 ∧ -(2 ^ 62) ≤ n ∧ n < 2 ^ 62) ∧ (m - n).toNat ≤ sizeLine then some (downD m (m - n).toNat) else none
  | _, _ => none
theorem its_down [Tb] {K : PySem.W.Frag} {F1 H1 : Hp} (s : Same F1 H1) {lo : Int} {k : Nat} (z : k ≤ sizeLine) : Its K (Itc lo (-1) k) F1 H1 (downD lo k) := by
  have hl : (downD lo k).length = k := by simp [downD]
  refine ⟨by rw [hl]; exact z, fun i d hd => ?_, by show k ≤ _; rw [hl]; exact Nat.le_refl _⟩
  have hi : i < k := by
    have := (List.getElem?_eq_some_iff.mp hd).1
    rw [hl] at this; exact this
  refine ⟨hi, fun v H2 hy => ?_⟩
  obtain ⟨rfl, rfl⟩ := hy
  unfold downD at hd
  rw [List.getElem?_map, List.getElem?_range hi] at hd
  cases hd
  refine ⟨F1, .refl s, ?_⟩
  rw [show lo + ((i : Nat) : Int) * -1 = lo - i by omega]
  exact .int _
theorem di_rangeDn [Tb] {tg : Expr} {p p1 p2 : Pos} {j : Nat} (ha : DE X W ph a ga) (hb : DE X W ph b gb) (hm : X.mg "range" = none) (hg : Gl X "range" := by rfl)
    (hs : starEach [a, b, (.UnaryOp .USub (.Constant (.int 1) j p1) p2 : Expr)] X.env = (false, eval a X.env) :: starEach [b, (.UnaryOp .USub (.Constant (.int 1) j p1) p2 : Expr)] X.env := by rfl)
    (hs2 : starEach [b, (.UnaryOp .USub (.Constant (.int 1) j p1) p2 : Expr)] X.env = (false, eval b X.env) :: starEach [(.UnaryOp .USub (.Constant (.int 1) j p1) p2 : Expr)] X.env := by rfl)
    (hs3 : starEach [(.UnaryOp .USub (.Constant (.int 1) j p1) p2 : Expr)] X.env = (false, eval (.UnaryOp .USub (.Constant (.int 1) j p1) p2) X.env) :: starEach [] X.env := by rfl)
    (hpl : (backTo pos (starEach [b, (.UnaryOp .USub (.Constant (.int 1) j p1) p2 : Expr)] X.env)).any (·.1) = false := by rfl) :
    DI X W ph tg (.Call (.Name "range" p) [a, b, .UnaryOp .USub (.Constant (.int 1) j p1) p2] [] pos) (gIt2 rngDn ga gb) :=
  pi_imp (pi_range3 hg hm (L2.pa_cons ha (L2.pa_cons hb (L2.pa_cons (pe_un un_neg pe_int) L2.pa_nil hs3) hs2) hs) hs hpl) fun σ H R ⟨F, rho, n, q⟩ => ⟨F, rho, n, q.bind fun d F1 H1 s1 q1 v r => ⟨F1, rho, n.step s1, q1.bind fun d2 F2 H2 s2 q2 v2 r2 => by
    obtain ⟨ds, e, q3⟩ := q2.lift
    cases r with
    | int k =>
      cases r2 with
      | int l =>
        have e : (if (-(2 ^ 62) ≤ k ∧ k < 2 ^ 62 ∧ -(2 ^ 62) ≤ l ∧ l < 2 ^ 62) ∧ (k - l).toNat ≤ sizeLine then some (downD k (k - l).toNat) else none) = some ds := e
        split at e
        · rename_i hz
          cases e
          refine ⟨1, rfl, k, l, -1, (k - l).toNat, rfl, RgC.neg hz.1.1 hz.1.2.1 hz.1.2.2.1 hz.1.2.2.2, ?_⟩
          exact q3.now s2.fh _ fun F3 H3 _ b => its_down b hz.2
        · cases e
      | _ => cases e
    | _ => cases e⟩⟩
/-! ### enumerate -/
def enumD (k : Nat) : List PyData → List PyData
  | [] => []
  | d :: ds => .tuple [.int (k : Int), d] :: enumD (k + 1) ds
theorem enumD_len : ∀ (ds : List PyData) (k : Nat), (enumD k ds).length = ds.length
  | [], _ => rfl
  | _ :: ds, k => congrArg Nat.succ (enumD_len ds (k + 1))
theorem enumD_get : ∀ {ds : List PyData} {k i : Nat} {d : PyData}, (enumD k ds)[i]? = some d → ∃ x, ds[i]? = some x ∧ d = .tuple [.int ((k + i : Nat) : Int), x]
  | [], _, _, _, h => by simp [enumD] at h
  | x :: ds, k, 0, d, h => by simp [enumD] at h; exact ⟨x, rfl, h.symm⟩
  | x :: ds, k, i + 1, d, h => by
    obtain ⟨y, h1, h2⟩ := enumD_get (ds := ds) (k := k + 1) (i := i) (d := d) (by simpa [enumD] using h)
    exact ⟨y, by simpa using h1, by rw [h2, show k + 1 + i = k + (i + 1) by omega]⟩
def enumL : PyData → Option (List PyData)
  | .list ds => some (enumD 0 ds)
  | _ => none
theorem di_enum [Tb] {p tpos : Pos} {elts : List Expr} {kk : Nat} (ha : DE X W ph a ga) (hm : X.mg "enumerate" = none) (hg : Gl X "enumerate" := by rfl) (hs : starEach [a] X.env = [(false, eval a X.env)] := by rfl) (hs2 : starEach [a] X.env = (false, eval a X.env) :: starEach [] X.env := by rfl) :
    DI X W ph (.Tuple elts kk tpos) (.Call (.Name "enumerate" p) [a] [] pos) (gIt enumL ga) :=
  pi_imp (pi_enum hg hm (L2.pa_cons ha L2.pa_nil hs2) hs) fun σ H R ⟨F, rho, n, q⟩ => ⟨F, rho, n, q.bind fun d F1 H1 s1 q1 v r => by
    obtain ⟨ds, e, q2⟩ := q1.lift
    cases r with
    | @lst p vs es h1 z1 t1 =>
      cases e
      refine ⟨p, vs, rfl, .of (s1.fh _ _ h1), q2.now s1.fh _ fun F3 H3 x y => ?_⟩
      have hp := y _ _ (x _ _ h1)
      have t3 := t1.mono x
      refine ⟨by rw [enumD_len, ← t1.length]; exact z1, fun i d hd => ?_, ⟨vs, .of hp, by rw [enumD_len, ← t1.length]; exact Nat.le_refl _⟩⟩
      obtain ⟨u, e1, rfl⟩ := enumD_get hd
      obtain ⟨w, e2, r2⟩ := t3.get e1
      refine ⟨⟨vs, w, .of hp, e2⟩, fun v H2 hy => ?_⟩
      obtain ⟨T, x1, rfl, hT, rfl, k1⟩ := hy
      have k1 := k1 _ (.of hp)
      rw [e2] at k1; cases k1
      rw [Nat.zero_add]
      exact pair_new y hT (.int _) r2
    | _ => cases e⟩
/-! ### the order of data -/
def ordOk (a b : PyData) : Bool := SeqAt.shaped a && SeqAt.shaped b && PySem.W.alike a b && !isNoD a
def dLtA : PyData → PyData → Option PyData := fun a b => if ordOk a b = true then some (.bool (PySem.W.dataLt a b)) else none
def dGtA : PyData → PyData → Option PyData := fun a b => if ordOk a b = true then some (.bool (PySem.W.dataLt b a)) else none
theorem ordOk_of {a b : PyData} (h : ordOk a b = true) : SeqAt.shaped a = true ∧ SeqAt.shaped b = true ∧ PySem.W.alike a b = true ∧ a ≠ .none := by
  unfold ordOk at h
  simp only [Bool.and_eq_true] at h
  refine ⟨h.1.1.1, h.1.1.2, h.1.2, fun z => ?_⟩
  subst z; cases h.2
theorem op_ltA [Tb] (hu : X.A.units + 64 < cLine) : OpR X (compareOp .Lt) (rOp X.K dLtA) := by
  intro pins s σ H x y v u Q I rx ry h
  obtain ⟨F, d1, d2, d, sF, r1, r2, e, q⟩ := h
  unfold dLtA at e
  split at e
  · rename_i ho
    cases e
    obtain ⟨h1, h2, h3, h4⟩ := ordOk_of ho
    obtain ⟨as, w1⟩ := Dp.reads I d1 x v (Rp.dp sF d1 (SeqAt.canLay_of_shaped h1) r1) rx
    obtain ⟨bs, w2⟩ := Dp.reads I d2 y u (Rp.dp sF d2 (SeqAt.canLay_of_shaped h2) r2) ry
    exact PySem.W.rcLt_alike d1 d2 X.A s v u as bs w1 w2 h3 h4 (by have := SeqAt.depth_of_shaped h1; omega) _ _ _ _ ⟨.bl _, H, I, rfl, q _ F H (.refl sF) (.bl _)⟩
  · cases e
theorem op_gtA [Tb] (hu : X.A.units + 64 < cLine) : OpR X (compareOp .Gt) (rOp X.K dGtA) := by
  intro pins s σ H x y v u Q I rx ry h
  obtain ⟨F, d1, d2, d, sF, r1, r2, e, q⟩ := h
  unfold dGtA at e
  split at e
  · rename_i ho
    cases e
    obtain ⟨h1, h2, h3, h4⟩ := ordOk_of ho
    obtain ⟨as, w1⟩ := Dp.reads I d1 x v (Rp.dp sF d1 (SeqAt.canLay_of_shaped h1) r1) rx
    obtain ⟨bs, w2⟩ := Dp.reads I d2 y u (Rp.dp sF d2 (SeqAt.canLay_of_shaped h2) r2) ry
    exact PySem.W.rcGt_alike d1 d2 X.A s v u as bs w1 w2 h3 h4 (by have := SeqAt.depth_of_shaped h1; omega) _ _ _ _ ⟨.bl _, H, I, rfl, q _ F H (.refl sF) (.bl _)⟩
  · cases e
/-! ### the least of some data -/
def minOk (ds : List PyData) : Bool := SeqAt.shaped (.list ds) && ds.all (fun d => ds.all (PySem.W.alike d)) && ds.all (fun d => !isNoD d)
def dMinA : List PyData → Option PyData
  | [.list (d :: ds)] => if minOk (d :: ds) = true then some (PySem.W.minD d ds) else none
  | _ => none
theorem minD_mem : ∀ (ds : List PyData) (d : PyData), PySem.W.minD d ds = d ∨ PySem.W.minD d ds ∈ ds
  | [], d => .inl rfl
  | e :: ds, d => by
    have : PySem.W.minD d (e :: ds) = PySem.W.minD (if PySem.W.dataLt e d = true then e else d) ds := rfl
    rw [this]
    rcases minD_mem ds (if PySem.W.dataLt e d = true then e else d) with h | h
    · rw [h]; split
      · exact .inr List.mem_cons_self
      · exact .inl rfl
    · exact .inr (List.mem_cons_of_mem _ h)
theorem minOk_of {ds : List PyData} (h : minOk ds = true) : SeqAt.shaped (.list ds) = true ∧ PySem.W.AlikeAll ds := by
  unfold minOk at h
  simp only [Bool.and_eq_true] at h
  refine ⟨h.1.1, fun d hd d' hd' => List.all_eq_true.mp (List.all_eq_true.mp h.1.2 d hd) d' hd', fun d hd z => ?_⟩
  have := List.all_eq_true.mp h.2 d hd
  subst z; cases this
theorem cl_minA [Tb] (hc : X.calm = true) (hu : X.A.units + 67 < cLine) : CallR X (.builtin "min") (rCl X.K dMinA) := by
  intro pins s σ H xs us Q I r h
  obtain ⟨F, ds, d, sF, rp, e, q⟩ := h
  unfold dMinA at e
  split at e
  · rename_i y ys
    split at e
    · rename_i hs
      cases e
      obtain ⟨h1, h2⟩ := minOk_of hs
      cases rp with
      | cons rp t =>
        cases t
        cases rp with
        | @lst a ws _ hF hz ht =>
          obtain ⟨its, rv, pl, _⟩ := I.list (SqL.of (sF _ _ hF))
          rw [Vals.ref1 r]
          have il : s.heap.IsList a its.toArray := by obtain ⟨o, n, e1, e2, _, e4⟩ := pl; exact ⟨o, e1, e2, n, e4⟩
          have hcan : PyData.canLayAll0 (y :: ys) = true := by have := SeqAt.canLay_of_shaped h1; simpa [PyData.canLay0] using this
          have hdep : PyData.depthAll (y :: ys) + 1 ≤ 64 := SeqAt.depth_of_shaped h1
          obtain ⟨as, ra⟩ := Dp.readsAll I (y :: ys) ws its (RpL.dp sF (y :: ys) hcan ht) rv
          refine PySem.W.min_list_data (I.ok.hd hc) il (by simpa using ra) h2 (by omega) fun i v h' tk bs hv rd hk => ?_
          have hv' : its[i]? = some v := by simpa using hv
          obtain ⟨w, hw, rw_⟩ := vals_get rv hv'
          obtain ⟨di, hdi, rdi⟩ := ht.getV hw
          obtain ⟨cs, rc⟩ := Dp.reads I di w v (Rp.dp sF di (shaped_item h1 (List.mem_of_getElem? hdi)).1 rdi) rw_
          have hm : PySem.W.minD y ys ∈ y :: ys := by
            rcases minD_mem ys y with h | h
            · rw [h]; exact List.mem_cons_self
            · exact List.mem_cons_of_mem _ h
          have eq : di = PySem.W.minD y ys := PySem.W.alike_unique di _ v cs bs (h2.1 di (List.mem_of_getElem? hdi) _ hm) (PySem.W.reads_keeps hk rc) rd
          rw [eq] at rdi
          exact ⟨w, H, I.kept hk, rw_, q w F H (.refl sF) rdi⟩
    · cases e
  · cases e
where
  vals_get : ∀ {xs : List V} {vs : List Value} {i : Nat} {v : Value}, Vals xs vs → vs[i]? = some v → ∃ x, xs[i]? = some x ∧ RelV x v
    | _, _, _, _, .nil, h => by simp at h
    | _, _, 0, _, .cons r _, h => by simp at h; subst h; exact ⟨_, rfl, r⟩
    | _, _, i + 1, v, .cons _ t, h => by
      obtain ⟨x, h1, h2⟩ := vals_get (i := i) (v := v) t (by simpa using h)
      exact ⟨x, by simpa using h1, h2⟩
/-! ### lists turned round -/
def dRevL : PyData → Option PyData
  | .list xs => some (.list xs.reverse)
  | _ => none
theorem do_revL [Tb] {k : Nat} {p1 p2 p3 : Pos} (he : DE X W ph e ge) : DO X W ph (.Subscript e (.Slice none none (some (.UnaryOp .USub (.Constant (.int 1) k p1) p2)) p3) pos) (gU dRevL ge) :=
  pe_imp (pe_revL he) fun σ H Q ⟨F, rho, n, q⟩ => ⟨F, rho, n, q.bind fun d F1 H1 s1 q1 v r => by
    obtain ⟨d2, e, q2⟩ := q1.lift
    cases r with
    | @lst a xs ds h z t =>
      cases e
      refine ⟨a, xs, rfl, .of (s1.fh _ _ h), fun p hp => ?_⟩
      exact q2.ok (Step.hid s1.fh hp) p _ (s1.h.free hp) (same_none s1.fh hp) upd_same ⟨by rw [List.length_reverse]; exact z, t.reverse⟩
    | _ => cases e⟩
/-! ### a list, so many times -/
def dRepL : PyData → PyData → Option PyData
  | .list xs, .int k => if -1000 ≤ k ∧ k ≤ 1000 ∧ xs.length ≤ 1000 then some (.list (repD xs k)) else none
  | _, _ => none
theorem do_repL [Tb] (ha : DE X W ph a ga) (hb : DE X W ph b gb) : DO X W ph (.BinOp a .Mult b pos) (gB dRepL ga gb) :=
  pe_imp (pe_op op_rep ha hb) fun σ H Q ⟨F, rho, n, q⟩ => ⟨F, rho, n, q.bind fun d1 F1 H1 s1 q1 v1 r1 => ⟨F1, rho, n.step s1, q1.bind fun d2 F2 H2 s2 q2 v2 r2 => by
    obtain ⟨d, e, q3⟩ := q2.lift
    have r1 := r1.mono s2.f
    cases r1 with
    | @lst a vs ds h z t =>
      cases r2 with
      | int k =>
        have e : (if -1000 ≤ k ∧ k ≤ 1000 ∧ ds.length ≤ 1000 then some (PyData.list (repD ds k)) else none) = some d := e
        split at e
        · rename_i hz
          cases e
          have hl : vs.length ≤ 1000 := by rw [t.length]; exact hz.2.2
          have hm : vs.length * k.toNat ≤ 1000 * 1000 := Nat.mul_le_mul hl (by omega)
          refine ⟨a, k, vs, rfl, rfl, s2.fh _ _ h, by omega, by omega, by rw [sizeLine_eq]; omega, fun p hp => ?_⟩
          refine q3.ok (Step.hid s2.fh hp) p _ (s1.h.free (s2.h.free hp)) (same_none s2.fh hp) upd_same ⟨?_, rep_rp t k.toNat⟩
          rw [PyProof.Rows.lm_len_rep_flat, sizeLine_eq, Nat.mul_comm]; omega
        · cases e
      | _ => cases e
    | _ => cases r2 <;> cases e⟩⟩
end
end PD
namespace PD
open PySem L2
/-! GM: the mirrors of defs, printed by gen3.py -/
def g__law_seed : Rw → SR := (gRet (gB dMod (gB dPow (gB dMod (gB dAdd (gB dAdd (gB dMul (gV 0) (gC (.int 1103515245))) (gB dMul (gC (.int 7919)) (gV 1))) (gC (.int 12345))) (gC (.int 2147483647))) (gC (.int 5))) (gC (.int 2147483647))))
abbrev m__law_seed : List PyData → Rs PyData := fnM 2 2 g__law_seed
def g__law_cell : Rw → SR := (gSeq (gIfS (gTb (gB dLtI (gV 1) (gL dLen (gCons (gV 0) gNil)))) (gRet (gB dIx (gV 0) (gV 1))) SR.nx) (gRet (gC (.int 0))))
abbrev m__law_cell : List PyData → Rs PyData := fnM 2 2 g__law_cell
def g__law_pick : Rw → SR := (gRet (gB dMod (gB dFdiv (gV 0) (gC (.int 97))) (gV 1)))
abbrev m__law_pick : List PyData → Rs PyData := fnM 2 2 g__law_pick
def g__law_offer_e1 : Rw → Rs PyData := (gB dMod (gB dFdiv (gF m__law_seed (gCons (gV 0) (gCons (gV 8) gNil))) (gC (.int 7))) (gB dIx (gL lstD (gCons (gC (.int 6)) (gCons (gC (.int 3)) (gCons (gC (.int 2)) gNil)))) (gB dMod (gB dFdiv (gV 0) (gC (.int 19))) (gC (.int 3)))))
def g__law_offer : Rw → SR := (gSeq (gSet 2 (gB dMod (gB dFdiv (gV 0) (gC (.int 7))) (gV 1))) (gSeq (gSet 3 (gB dAdd (gC (.int 1)) (gB dMod (gB dFdiv (gV 0) (gC (.int 11))) (gB dIx (gL lstD (gCons (gC (.int 99)) (gCons (gC (.int 20)) (gCons (gC (.int 9)) gNil)))) (gB dMod (gB dFdiv (gV 0) (gC (.int 13))) (gC (.int 3))))))) (gSeq (gSet 4 (gB dAdd (gC (.int 2)) (gB dMod (gB dFdiv (gV 0) (gC (.int 17))) (gC (.int 4))))) (gSeq (gSet 5 (gLc (gIt rng1 (gV 1)) (tName 8) gYes g__law_offer_e1)) (gSeq (gPutL 5 (gV 2) (gL dMax2 (gCons (gC (.int 1)) (gCons (gB dIx (gV 5) (gV 2)) gNil)))) (gSeq (gSet 6 (gF m__law_pick (gCons (gV 0) (gCons (gC (.int 7)) gNil)))) (gSeq (gIfS (gTb (gB dLtI (gV 6) (gC (.int 3)))) (gRet (gL tupD (gCons (gC (.str "joined")) (gCons (gL dTuple (gCons (gV 5) gNil)) (gCons (gV 3) gNil))))) SR.nx) (gSeq (gSet 7 (gL tupD (gCons (gC (.str "each")) (gCons (gV 2) (gCons (gV 3) gNil))))) (gRet (gB dIx (gL lstD (gCons (gV 7) (gCons (gV 7) (gCons (gL tupD (gCons (gC (.str "pack")) (gCons (gV 2) (gCons (gV 4) (gCons (gV 3) gNil))))) (gCons (gL tupD (gCons (gC (.str "tier")) (gCons (gV 2) (gCons (gV 4) (gCons (gV 3) gNil))))) gNil))))) (gB dSub (gV 6) (gC (.int 3)))))))))))))
abbrev m__law_offer : List PyData → Rs PyData := fnM 2 9 g__law_offer
def g__law_list_b1 : Rw → SR := (gApp 4 (gF m__law_offer (gCons (gF m__law_seed (gCons (gB dAdd (gF m__law_cell (gCons (gV 0) (gCons (gB dAdd (gB dAdd (gV 1) (gC (.int 1))) (gB dMod (gV 5) (gC (.int 3)))) gNil))) (gB dMul (gC (.int 41)) (gV 5))) (gCons (gV 5) gNil))) (gCons (gV 3) gNil))))
def g__law_list : Rw → SR := (gSeq (gSet 2 (gF m__law_seed (gCons (gF m__law_cell (gCons (gV 0) (gCons (gV 1) gNil))) (gCons (gC (.int 0)) gNil)))) (gSeq (gSet 3 (gB dAdd (gC (.int 1)) (gB dMod (gB dFdiv (gV 2) (gC (.int 5))) (gC (.int 3))))) (gSeq (gSet 4 (gL lstD gNil)) (gSeq (gFor [.im, .im, .dead, .im, .ow, .dead] (gIt rng1 (gB dIx (gL lstD (gCons (gC (.int 6)) (gCons (gB dMod (gB dFdiv (gV 2) (gC (.int 7))) (gC (.int 7))) (gCons (gB dAdd (gC (.int 2)) (gB dMod (gB dFdiv (gV 2) (gC (.int 7))) (gC (.int 3)))) gNil)))) (gB dMod (gB dFdiv (gV 2) (gC (.int 11))) (gC (.int 3))))) (tName 5) g__law_list_b1) (gRet (gL tupD (gCons (gV 3) (gCons (gL dTuple (gCons (gV 4) gNil)) gNil))))))))
abbrev m__law_list : List PyData → Rs PyData := fnM 2 6 g__law_list
def g__law_packs_b1 : Rw → SR := (gSeq (gSet 7 (gB dRepL (gL lstD (gCons (gC (.int 0)) gNil)) (gV 1))) (gSeq (gIfS (gTb (gB dEq (gB dIx (gV 4) (gC (.int 0))) (gC (.str "joined")))) (gSet 7 (gB dIx (gV 4) (gC (.int 1)))) (gPutL 7 (gB dIx (gV 4) (gC (.int 1))) (gV 6))) (gApp 3 (gL tupD (gCons (gL dTuple (gCons (gV 7) gNil)) (gCons (gB dMul (gB dIx (gV 4) (gU dNeg (gC (.int 1)))) (gIf (gTb (gB dEq (gB dIx (gV 4) (gC (.int 0))) (gC (.str "tier")))) (gV 6) (gC (.int 1)))) gNil))))))
def g__law_packs_b2 : Rw → SR := (gSeq (gSet 5 (gL lstD (gCons (gC (.int 1)) gNil))) (gSeq (gIfS (gTb (gB dEq (gB dIx (gV 4) (gC (.int 0))) (gC (.str "pack")))) (gSet 5 (gL lstD (gCons (gB dIx (gV 4) (gC (.int 2))) gNil))) SR.nx) (gSeq (gIfS (gTb (gB dEq (gB dIx (gV 4) (gC (.int 0))) (gC (.str "tier")))) (gSet 5 (gB dListR2 (gB dIx (gV 4) (gC (.int 2))) (gB dMul (gC (.int 2)) (gB dIx (gV 4) (gC (.int 2)))))) SR.nx) (gFor [.dead, .im, .dead, .ow, .im, .dead, .dead, .dead] (gIt seqD (gV 5)) (tName 6) g__law_packs_b1))))
def g__law_packs : Rw → SR := (gSeq (gAsg (tTup 2 (tCons (tName 1) (tCons (tName 2) tNil))) (gV 0)) (gSeq (gSet 3 (gL lstD gNil)) (gSeq (gFor [.dead, .im, .dead, .ow, .dead, .dead, .dead, .dead] (gIt seqD (gV 2)) (tName 4) g__law_packs_b2) (gRet (gL dSortSet (gCons (gV 3) gNil))))))
abbrev m__law_packs : List PyData → Rs PyData := fnM 1 8 g__law_packs
def g__law_basket_e1 : Rw → Rs PyData := (gB dMod (gB dFdiv (gF m__law_seed (gCons (gV 0) (gCons (gV 2) gNil))) (gC (.int 7))) (gB dIx (gL lstD (gCons (gC (.int 10)) (gCons (gC (.int 4)) gNil))) (gB dMod (gB dFdiv (gV 0) (gC (.int 5))) (gC (.int 2)))))
def g__law_basket : Rw → SR := (gRet (gL dTuple (gCons (gLc (gIt rng1 (gV 1)) (tName 2) gYes g__law_basket_e1) gNil)))
abbrev m__law_basket : List PyData → Rs PyData := fnM 2 3 g__law_basket
def g_is_within : Rw → SR := (gRet (gAndV (gU (dIsi "int") (gV 0)) (gAndV (gNotV (gU (dIsi "bool") (gV 0))) (gChain dLeI dLeI (gV 1) (gV 0) (gV 2)))))
abbrev m_is_within : List PyData → Rs PyData := fnM 3 3 g_is_within
def g_is_offer_c1 : Rw → Rs Bool := (gNotT (gTr (gF m_is_within (gCons (gV 2) (gCons (gC (.int 0)) (gCons (gC (.int 5)) gNil))))))
def g_is_offer_e1 : Rw → Rs PyData := (gV 2)
def g_is_offer : Rw → SR := (gSeq (gIfS (gOrT (gNotT (gTr (gU (dIsi "tuple") (gV 1)))) (gOrT (gNotT (gTr (gV 1))) (gNotT (gTr (gU (dIsi "str") (gB dIx (gV 1) (gC (.int 0)))))))) (gRet (gC (.bool false))) SR.nx) (gSeq (gIfS (gTb (gB dEq (gB dIx (gV 1) (gC (.int 0))) (gC (.str "joined")))) (gSeq (gIfS (gOrT (gTb (gB dNe (gL dLen (gCons (gV 1) gNil)) (gC (.int 3)))) (gOrT (gNotT (gTr (gU (dIsi "tuple") (gB dIx (gV 1) (gC (.int 1)))))) (gTb (gB dNe (gL dLen (gCons (gB dIx (gV 1) (gC (.int 1))) gNil)) (gV 0))))) (gRet (gC (.bool false))) SR.nx) (gSeq (gIfS (gOrT (gTr (gLc (gIt seqD (gB dIx (gV 1) (gC (.int 1)))) (tName 2) g_is_offer_c1 g_is_offer_e1)) (gTb (gB dEq (gL dSum (gCons (gB dIx (gV 1) (gC (.int 1))) gNil)) (gC (.int 0))))) (gRet (gC (.bool false))) SR.nx) (gRet (gF m_is_within (gCons (gB dIx (gV 1) (gC (.int 2))) (gCons (gC (.int 1)) (gCons (gC (.int 99)) gNil))))))) SR.nx) (gSeq (gIfS (gOrT (gTb (gB dNe (gL dLen (gCons (gV 1) gNil)) (gB (disp3 "each" 3 "pack" 4 "tier" 4) (gB dIx (gV 1) (gC (.int 0))) (gC (.int 0))))) (gNotT (gTr (gF m_is_within (gCons (gB dIx (gV 1) (gC (.int 1))) (gCons (gC (.int 0)) (gCons (gB dSub (gV 0) (gC (.int 1))) gNil))))))) (gRet (gC (.bool false))) SR.nx) (gSeq (gIfS (gAndT (gTb (gB dNe (gB dIx (gV 1) (gC (.int 0))) (gC (.str "each")))) (gNotT (gTr (gF m_is_within (gCons (gB dIx (gV 1) (gC (.int 2))) (gCons (gC (.int 2)) (gCons (gC (.int 5)) gNil))))))) (gRet (gC (.bool false))) SR.nx) (gRet (gF m_is_within (gCons (gB dIx (gV 1) (gU dNeg (gC (.int 1)))) (gCons (gC (.int 1)) (gCons (gC (.int 99)) gNil)))))))))
abbrev m_is_offer : List PyData → Rs PyData := fnM 2 3 g_is_offer
def g_is_list_c1 : Rw → Rs Bool := (gNotT (gTr (gF m_is_offer (gCons (gB dIx (gV 0) (gC (.int 0))) (gCons (gV 1) gNil)))))
def g_is_list_e1 : Rw → Rs PyData := (gV 1)
def g_is_list : Rw → SR := (gSeq (gIfS (gOrT (gNotT (gTr (gU (dIsi "tuple") (gV 0)))) (gOrT (gTb (gB dNe (gL dLen (gCons (gV 0) gNil)) (gC (.int 2)))) (gNotT (gTr (gF m_is_within (gCons (gB dIx (gV 0) (gC (.int 0))) (gCons (gC (.int 1)) (gCons (gC (.int 3)) gNil)))))))) (gRet (gC (.bool false))) SR.nx) (gSeq (gIfS (gOrT (gNotT (gTr (gU (dIsi "tuple") (gB dIx (gV 0) (gC (.int 1)))))) (gTb (gB dGtI (gL dLen (gCons (gB dIx (gV 0) (gC (.int 1))) gNil)) (gC (.int 6))))) (gRet (gC (.bool false))) SR.nx) (gRet (gNotV (gLc (gIt seqD (gB dIx (gV 0) (gC (.int 1)))) (tName 1) g_is_list_c1 g_is_list_e1)))))
abbrev m_is_list : List PyData → Rs PyData := fnM 1 2 g_is_list
def g_look : Rw → SR := (gIfS (gNotT (gTr (gF m_is_list (gCons (gV 0) gNil)))) (gRaise "BadList") SR.nx)
abbrev m_look : List PyData → Rs PyData := fnM 1 1 g_look
def g_look_basket_c1 : Rw → Rs Bool := (gNotT (gTr (gF m_is_within (gCons (gV 2) (gCons (gC (.int 0)) (gCons (gC (.int 9)) gNil))))))
def g_look_basket_e1 : Rw → Rs PyData := (gV 2)
def g_look_basket : Rw → SR := (gSeq (gIfS (gOrT (gNotT (gTr (gU (dIsi "tuple") (gV 1)))) (gTb (gB dNe (gL dLen (gCons (gV 1) gNil)) (gB dIx (gV 0) (gC (.int 0)))))) (gRaise "BadBasket") SR.nx) (gIfS (gTr (gLc (gIt seqD (gV 1)) (tName 2) g_look_basket_c1 g_look_basket_e1)) (gRaise "BadBasket") SR.nx))
abbrev m_look_basket : List PyData → Rs PyData := fnM 2 3 g_look_basket
def g_baskets_below_e1 : Rw → Rs PyData := (gB dAdd (gV 4) (gL tupD (gCons (gV 5) gNil)))
def g_baskets_below_b1 : Rw → SR := (gExt 3 (gLc (gIt rng1 (gB dAdd (gV 2) (gC (.int 1)))) (tName 5) gYes g_baskets_below_e1))
def g_baskets_below_b2 : Rw → SR := (gSeq (gSet 3 (gL lstD gNil)) (gSeq (gFor [.dead, .dead, .im, .ow, .dead, .dead] (gIt seqD (gV 1)) (tName 4) g_baskets_below_b1) (gSet 1 (gV 3))))
def g_baskets_below : Rw → SR := (gSeq (gSet 1 (gL lstD (gCons (gL tupD gNil) gNil))) (gSeq (gFor [.dead, .im, .dead, .dead, .dead, .dead] (gIt seqD (gV 0)) (tName 2) g_baskets_below_b2) (gRet (gL dSortK (gCons (gV 1) gNil)))))
abbrev m_baskets_below : List PyData → Rs PyData := fnM 1 6 g_baskets_below
def g_left_e1 : Rw → Rs PyData := (gL dMax2 (gCons (gC (.int 0)) (gCons (gB dSub (gV 2) (gV 3)) gNil)))
def g_left : Rw → SR := (gRet (gL dTuple (gCons (gLc (gIt2 zip2 (gV 0) (gV 1)) (tTup 2 (tCons (tName 2) (tCons (tName 3) tNil))) gYes g_left_e1) gNil)))
abbrev m_left : List PyData → Rs PyData := fnM 2 4 g_left
def g_costs_below_b1 : Rw → SR := (gSeq (gSet 6 (gF m_left (gCons (gV 3) (gCons (gV 4) gNil)))) (gIfS (gAndT (gTb (gB dNe (gV 6) (gV 3))) (gTb (gB (dIs true) (gB dDget (gV 2) (gV 6)) (gC .none)))) (gIfS (gOrT (gTb (gB (dIs false) (gB dDget (gV 2) (gV 3)) (gC .none))) (gTb (gB dLtI (gB dAdd (gB dDget (gV 2) (gV 6)) (gV 5)) (gB dDget (gV 2) (gV 3))))) (gPutD 2 (gV 3) (gB dAdd (gB dDget (gV 2) (gV 6)) (gV 5))) SR.nx) SR.nx))
def g_costs_below_b2 : Rw → SR := (gIfS (gTb (gB dEq (gL dSum (gCons (gV 3) gNil)) (gC (.int 0)))) (gPutD 2 (gV 3) (gC (.int 0))) (gSeq (gPutD 2 (gV 3) (gC .none)) (gFor [.im, .dead, .ow, .im, .dead, .dead, .dead] (gIt seqD (gV 0)) (tTup 2 (tCons (tName 4) (tCons (tName 5) tNil))) g_costs_below_b1)))
def g_costs_below : Rw → SR := (gSeq (gSet 2 (gC (.dict []))) (gSeq (gFor [.im, .dead, .ow, .dead, .dead, .dead, .dead] (gIt seqD (gF m_baskets_below (gCons (gV 1) gNil))) (tName 3) g_costs_below_b2) (gRet (gV 2))))
abbrev m_costs_below : List PyData → Rs PyData := fnM 2 7 g_costs_below
def g_cost_by : Rw → SR := (gRet (gB dDget (gF m_costs_below (gCons (gV 0) (gCons (gV 1) gNil))) (gV 1)))
abbrev m_cost_by : List PyData → Rs PyData := fnM 2 2 g_cost_by
def g_alone_e1 : Rw → Rs PyData := (gIf (gTb (gB dEq (gV 3) (gV 1))) (gV 2) (gC (.int 0)))
def g_alone : Rw → SR := (gRet (gL dTuple (gCons (gLc (gIt rng1 (gV 0)) (tName 3) gYes g_alone_e1) gNil)))
abbrev m_alone : List PyData → Rs PyData := fnM 3 4 g_alone
def g_packs_of_e1 : Rw → Rs PyData := (gL tupD (gCons (gF m_alone (gCons (gV 0) (gCons (gB dIx (gV 1) (gC (.int 1))) (gCons (gV 2) gNil)))) (gCons (gB dMul (gV 2) (gB dIx (gV 1) (gC (.int 3)))) gNil)))
def g_packs_of : Rw → SR := (gSeq (gIfS (gTb (gB dEq (gB dIx (gV 1) (gC (.int 0))) (gC (.str "joined")))) (gRet (gL lstD (gCons (gL tupD (gCons (gB dIx (gV 1) (gC (.int 1))) (gCons (gB dIx (gV 1) (gC (.int 2))) gNil))) gNil))) SR.nx) (gSeq (gIfS (gTb (gB dEq (gB dIx (gV 1) (gC (.int 0))) (gC (.str "each")))) (gRet (gL lstD (gCons (gL tupD (gCons (gF m_alone (gCons (gV 0) (gCons (gB dIx (gV 1) (gC (.int 1))) (gCons (gC (.int 1)) gNil)))) (gCons (gB dIx (gV 1) (gC (.int 2))) gNil))) gNil))) SR.nx) (gSeq (gIfS (gTb (gB dEq (gB dIx (gV 1) (gC (.int 0))) (gC (.str "pack")))) (gRet (gL lstD (gCons (gL tupD (gCons (gF m_alone (gCons (gV 0) (gCons (gB dIx (gV 1) (gC (.int 1))) (gCons (gB dIx (gV 1) (gC (.int 2))) gNil)))) (gCons (gB dIx (gV 1) (gC (.int 3))) gNil))) gNil))) SR.nx) (gRet (gLc (gIt2 rng2 (gB dIx (gV 1) (gC (.int 2))) (gB dMul (gC (.int 2)) (gB dIx (gV 1) (gC (.int 2))))) (tName 2) gYes g_packs_of_e1)))))
abbrev m_packs_of : List PyData → Rs PyData := fnM 2 3 g_packs_of
def g_all_packs_b1 : Rw → SR := (gExt 3 (gF m_packs_of (gCons (gV 1) (gCons (gV 4) gNil))))
def g_all_packs : Rw → SR := (gSeq (gAsg (tTup 2 (tCons (tName 1) (tCons (tName 2) tNil))) (gV 0)) (gSeq (gSet 3 (gL lstD gNil)) (gSeq (gFor [.dead, .im, .dead, .ow, .dead] (gIt seqD (gV 2)) (tName 4) g_all_packs_b1) (gRet (gL dSortSet (gCons (gV 3) gNil))))))
abbrev m_all_packs : List PyData → Rs PyData := fnM 1 5 g_all_packs
def g_cost : Rw → SR := (gSeq (gDrop (gF m_look (gCons (gV 0) gNil))) (gSeq (gDrop (gF m_look_basket (gCons (gV 0) (gCons (gV 1) gNil)))) (gRet (gF m_cost_by (gCons (gF m_all_packs (gCons (gV 0) gNil)) (gCons (gV 1) gNil))))))
abbrev m_cost : List PyData → Rs PyData := fnM 2 2 g_cost
def g_packs : Rw → SR := (gSeq (gDrop (gF m_look (gCons (gV 0) gNil))) (gRet (gF m_all_packs (gCons (gV 0) gNil))))
abbrev m_packs : List PyData → Rs PyData := fnM 1 1 g_packs
def g__law_spoilt : Rw → SR := (gSeq (gSet 2 (gL lstD (gCons (gC .none) (gCons (gC (.bool true)) (gCons (gU dNeg (gC (.int 1))) (gCons (gC (.int 0)) (gCons (gC (.int 1)) (gCons (gC (.int 2)) (gCons (gC (.int 3)) (gCons (gC (.int 5)) (gCons (gC (.int 6)) (gCons (gC (.int 99)) (gCons (gC (.int 100)) (gCons (gC (.str "each")) (gCons (gC (.str "pack")) (gCons (gC (.str "tier")) (gCons (gC (.str "joined")) (gCons (gL tupD gNil) (gCons (gL tupD (gCons (gC (.int 0)) (gCons (gC (.int 0)) gNil))) (gCons (gL tupD (gCons (gC (.int 1)) gNil)) (gCons (gL tupD (gCons (gC (.int 6)) (gCons (gC (.int 0)) (gCons (gC (.int 0)) gNil)))) (gCons (gL lstD gNil) gNil)))))))))))))))))))))) (gSeq (gSet 3 (gB dIx (gV 2) (gB dMod (gF m__law_cell (gCons (gV 1) (gCons (gC (.int 4)) gNil))) (gC (.int 20))))) (gSeq (gAsg (tTup 2 (tCons (tName 4) (tCons (tName 5) tNil))) (gV 0)) (gSeq (gSet 6 (gB dMod (gF m__law_cell (gCons (gV 1) (gCons (gC (.int 5)) gNil))) (gC (.int 8)))) (gSeq (gIfS (gTb (gB dEq (gV 6) (gC (.int 0)))) (gSeq (gSet 7 (gL lstD (gCons (gL tupD (gCons (gV 3) (gCons (gV 5) gNil))) (gCons (gL tupD (gCons (gV 4) (gCons (gV 3) gNil))) (gCons (gL dList (gCons (gV 0) gNil)) (gCons (gB dAdd (gV 0) (gL tupD (gCons (gV 3) gNil))) (gCons (gL tupD (gCons (gV 4) (gCons (gL dList (gCons (gV 5) gNil)) gNil))) gNil))))))) (gRet (gB dIx (gV 7) (gB dMod (gF m__law_cell (gCons (gV 1) (gCons (gC (.int 6)) gNil))) (gC (.int 5)))))) SR.nx) (gSeq (gIfS (gOrT (gTb (gB dEq (gV 6) (gC (.int 1)))) (gTb (gB dEq (gV 5) (gL tupD gNil)))) (gRet (gL tupD (gCons (gV 4) (gCons (gB dAdd (gV 5) (gB dMul (gL tupD (gCons (gL tupD (gCons (gC (.str "each")) (gCons (gC (.int 0)) (gCons (gC (.int 5)) gNil)))) gNil)) (gB dMod (gF m__law_cell (gCons (gV 1) (gCons (gC (.int 6)) gNil))) (gC (.int 8))))) gNil)))) SR.nx) (gSeq (gSet 8 (gB dMod (gF m__law_cell (gCons (gV 1) (gCons (gC (.int 6)) gNil))) (gL dLen (gCons (gV 5) gNil)))) (gSeq (gSet 9 (gB dIx (gV 5) (gV 8))) (gSeq (gSet 10 (gB dMod (gF m__law_cell (gCons (gV 1) (gCons (gC (.int 7)) gNil))) (gL dLen (gCons (gV 9) gNil)))) (gSeq (gIfS (gTb (gB dEq (gV 6) (gC (.int 2)))) (gSet 9 (gB dIx (gL lstD (gCons (gB dAdd (gV 9) (gL tupD (gCons (gV 3) gNil))) (gCons (gSl (gV 9) gPn (gPs (gU dNeg (gC (.int 1))))) (gCons (gL dList (gCons (gV 9) gNil)) (gCons (gV 3) gNil))))) (gB dMod (gF m__law_cell (gCons (gV 1) (gCons (gC (.int 7)) gNil))) (gC (.int 4))))) (gIfS (gAndT (gTb (gB dLtI (gV 6) (gC (.int 5)))) (gTb (gB dEq (gB dIx (gV 9) (gC (.int 0))) (gC (.str "joined"))))) (gSeq (gSet 11 (gB dMod (gF m__law_cell (gCons (gV 1) (gCons (gC (.int 7)) gNil))) (gV 4))) (gSet 9 (gL tupD (gCons (gB dIx (gV 9) (gC (.int 0))) (gCons (gB dAdd (gB dAdd (gSl (gB dIx (gV 9) (gC (.int 1))) gPn (gPs (gV 11))) (gL tupD (gCons (gV 3) gNil))) (gSl (gB dIx (gV 9) (gC (.int 1))) (gPs (gB dAdd (gV 11) (gC (.int 1)))) gPn)) (gCons (gB dIx (gV 9) (gC (.int 2))) gNil)))))) (gSet 9 (gB dAdd (gB dAdd (gSl (gV 9) gPn (gPs (gV 10))) (gL tupD (gCons (gV 3) gNil))) (gSl (gV 9) (gPs (gB dAdd (gV 10) (gC (.int 1)))) gPn))))) (gRet (gL tupD (gCons (gV 4) (gCons (gB dAdd (gB dAdd (gSl (gV 5) gPn (gPs (gV 8))) (gL tupD (gCons (gV 9) gNil))) (gSl (gV 5) (gPs (gB dAdd (gV 8) (gC (.int 1)))) gPn)) gNil))))))))))))))
abbrev m__law_spoilt : List PyData → Rs PyData := fnM 2 12 g__law_spoilt
def g__law_mix : Rw → SR := (gRet (gB dMod (gB dMod (gB dMul (gV 0) (gC (.int 48271))) (gV 1)) (gV 2)))
abbrev m__law_mix : List PyData → Rs PyData := fnM 3 3 g__law_mix
def g__law_in : Rw → SR := (gRet (gAndV (gU (dIsi "int") (gV 0)) (gAndV (gNotV (gU (dIsi "bool") (gV 0))) (gChain dLeI dLeI (gV 1) (gV 0) (gV 2)))))
abbrev m__law_in : List PyData → Rs PyData := fnM 3 3 g__law_in
def g__law_is_offer_c1 : Rw → Rs Bool := (gNotT (gTr (gF m__law_in (gCons (gV 2) (gCons (gC (.int 0)) (gCons (gC (.int 5)) gNil))))))
def g__law_is_offer_e1 : Rw → Rs PyData := (gV 2)
def g__law_is_offer : Rw → SR := (gSeq (gIfS (gOrT (gNotT (gTr (gU (dIsi "tuple") (gV 0)))) (gOrT (gTb (gB dLtI (gL dLen (gCons (gV 0) gNil)) (gC (.int 3)))) (gOrT (gNotT (gTr (gU (dIsi "str") (gB dIx (gV 0) (gC (.int 0)))))) (gNotT (gTr (gF m__law_in (gCons (gB dIx (gV 0) (gU dNeg (gC (.int 1)))) (gCons (gC (.int 1)) (gCons (gC (.int 99)) gNil))))))))) (gRet (gC (.bool false))) SR.nx) (gSeq (gIfS (gTb (gB dEq (gB dIx (gV 0) (gC (.int 0))) (gC (.str "joined")))) (gSeq (gIfS (gOrT (gTb (gB dNe (gL dLen (gCons (gV 0) gNil)) (gC (.int 3)))) (gOrT (gNotT (gTr (gU (dIsi "tuple") (gB dIx (gV 0) (gC (.int 1)))))) (gTb (gB dNe (gL dLen (gCons (gB dIx (gV 0) (gC (.int 1))) gNil)) (gV 1))))) (gRet (gC (.bool false))) SR.nx) (gRet (gAndV (gB dEq (gLc (gIt seqD (gB dIx (gV 0) (gC (.int 1)))) (tName 2) g__law_is_offer_c1 g__law_is_offer_e1) (gL lstD gNil)) (gB dGtI (gL (pickD maxZ) (gCons (gB dIx (gV 0) (gC (.int 1))) gNil)) (gC (.int 0)))))) SR.nx) (gSeq (gIfS (gNotT (gTr (gF m__law_in (gCons (gB dIx (gV 0) (gC (.int 1))) (gCons (gC (.int 0)) (gCons (gB dSub (gV 1) (gC (.int 1))) gNil)))))) (gRet (gC (.bool false))) SR.nx) (gSeq (gIfS (gTb (gB dEq (gB dIx (gV 0) (gC (.int 0))) (gC (.str "each")))) (gRet (gB dEq (gL dLen (gCons (gV 0) gNil)) (gC (.int 3)))) SR.nx) (gRet (gAndV (gB (dIn false) (gB dIx (gV 0) (gC (.int 0))) (gL tupD (gCons (gC (.str "pack")) (gCons (gC (.str "tier")) gNil)))) (gAndV (gB dEq (gL dLen (gCons (gV 0) gNil)) (gC (.int 4))) (gF m__law_in (gCons (gB dIx (gV 0) (gC (.int 2))) (gCons (gC (.int 2)) (gCons (gC (.int 5)) gNil)))))))))))
abbrev m__law_is_offer : List PyData → Rs PyData := fnM 2 3 g__law_is_offer
def g__law_is_list_c1 : Rw → Rs Bool := (gNotT (gTr (gF m__law_is_offer (gCons (gV 1) (gCons (gB dIx (gV 0) (gC (.int 0))) gNil)))))
def g__law_is_list_e1 : Rw → Rs PyData := (gV 1)
def g__law_is_list : Rw → SR := (gSeq (gIfS (gOrT (gNotT (gTr (gU (dIsi "tuple") (gV 0)))) (gOrT (gTb (gB dNe (gL dLen (gCons (gV 0) gNil)) (gC (.int 2)))) (gNotT (gTr (gF m__law_in (gCons (gB dIx (gV 0) (gC (.int 0))) (gCons (gC (.int 1)) (gCons (gC (.int 3)) gNil)))))))) (gRet (gC (.bool false))) SR.nx) (gSeq (gIfS (gOrT (gNotT (gTr (gU (dIsi "tuple") (gB dIx (gV 0) (gC (.int 1)))))) (gTb (gB dGtI (gL dLen (gCons (gB dIx (gV 0) (gC (.int 1))) gNil)) (gC (.int 6))))) (gRet (gC (.bool false))) SR.nx) (gRet (gB dEq (gLc (gIt seqD (gB dIx (gV 0) (gC (.int 1)))) (tName 1) g__law_is_list_c1 g__law_is_list_e1) (gL lstD gNil)))))
abbrev m__law_is_list : List PyData → Rs PyData := fnM 1 2 g__law_is_list
def g__law_number_c1 : Rw → Rs Bool := (gTb (gB (dIn true) (gV 1) (gC (.str "0123456789"))))
def g__law_number_e1 : Rw → Rs PyData := (gV 1)
def g__law_number : Rw → SR := (gSeq (gIfS (gOrT (gTb (gB dEq (gV 0) (gC (.str "")))) (gOrT (gTb (gB dGtI (gL dLen (gCons (gV 0) gNil)) (gC (.int 2)))) (gTb (gB dNe (gLc (gIt seqD (gV 0)) (tName 1) g__law_number_c1 g__law_number_e1) (gL lstD gNil))))) (gRet (gC .none)) SR.nx) (gRet (gL dInt (gCons (gV 0) gNil))))
abbrev m__law_number : List PyData → Rs PyData := fnM 1 2 g__law_number
def g_way_by_b1 : Rw → SR := (gSeq (gSet 8 (gF m_left (gCons (gV 4) (gCons (gV 6) gNil)))) (gIfS (gAndT (gTb (gB dNe (gV 8) (gV 4))) (gAndT (gTb (gB (dIs true) (gB dDget (gV 2) (gV 8)) (gC .none))) (gTb (gB dEq (gB dAdd (gB dDget (gV 2) (gV 8)) (gV 7)) (gB dDget (gV 2) (gV 4)))))) (gApp 5 (gL tupD (gCons (gV 6) (gCons (gV 7) gNil)))) SR.nx))
def g_way_by_b2 : Rw → SR := (gSeq (gSet 5 (gL lstD gNil)) (gSeq (gFor [.im, .dead, .im, .ow, .im, .ow, .dead, .dead, .dead] (gIt seqD (gV 0)) (tTup 2 (tCons (tName 6) (tCons (tName 7) tNil))) g_way_by_b1) (gSeq (gApp 3 (gL dMinA (gCons (gV 5) gNil))) (gSet 4 (gF m_left (gCons (gV 4) (gCons (gB dIx (gL dMinA (gCons (gV 5) gNil)) (gC (.int 0))) gNil)))))))
def g_way_by_c1 : Rw → Rs Bool := (gTb (gB dGtI (gL dSum (gCons (gV 4) gNil)) (gC (.int 0))))
def g_way_by : Rw → SR := (gSeq (gSet 2 (gF m_costs_below (gCons (gV 0) (gCons (gV 1) gNil)))) (gSeq (gIfS (gTb (gB (dIs false) (gB dDget (gV 2) (gV 1)) (gC .none))) (gRet (gC .none)) SR.nx) (gSeq (gSet 3 (gL lstD gNil)) (gSeq (gSet 4 (gV 1)) (gSeq (gWhile [.im, .dead, .im, .ow, .im, .dead, .dead, .dead, .dead] 1000 g_way_by_c1 g_way_by_b2) (gRet (gL dSort (gCons (gV 3) gNil))))))))
abbrev m_way_by : List PyData → Rs PyData := fnM 2 9 g_way_by
def g_way_to : Rw → SR := (gSeq (gDrop (gF m_look (gCons (gV 0) gNil))) (gSeq (gDrop (gF m_look_basket (gCons (gV 0) (gCons (gV 1) gNil)))) (gSeq (gSet 2 (gF m_way_by (gCons (gF m_all_packs (gCons (gV 0) gNil)) (gCons (gV 1) gNil)))) (gSeq (gIfS (gTb (gB (dIs false) (gV 2) (gC .none))) (gRaise "NotSold") SR.nx) (gRet (gV 2))))))
abbrev m_way_to : List PyData → Rs PyData := fnM 2 3 g_way_to
def g__law_told_way : Rw → SR := (gSeq (gSet 2 (gC .none)) (gSeq (gTry ["BadList", "BadBasket", "NotSold"] (gSet 2 (gF m_way_to (gCons (gV 0) (gCons (gV 1) gNil)))) [("NotSold", (gSet 2 (gC .none)))]) (gRet (gV 2))))
abbrev m__law_told_way : List PyData → Rs PyData := fnM 2 3 g__law_told_way
def g_look_all : Rw → SR := (gSeq (gDrop (gF m_look (gCons (gV 0) gNil))) (gSeq (gDrop (gF m_look_basket (gCons (gV 0) (gCons (gV 1) gNil)))) (gIfS (gNotT (gTr (gF m_is_within (gCons (gV 2) (gCons (gC (.int 0)) (gCons (gC (.int 9999)) gNil)))))) (gRaise "BadPrice") SR.nx)))
abbrev m_look_all : List PyData → Rs PyData := fnM 3 3 g_look_all
def g_is_row_c1 : Rw → Rs Bool := (gNotT (gTr (gF m_is_within (gCons (gV 2) (gCons (gC (.int 0)) (gCons (gC (.int 9)) gNil))))))
def g_is_row_e1 : Rw → Rs PyData := (gV 2)
def g_is_row : Rw → SR := (gSeq (gIfS (gOrT (gNotT (gTr (gU (dIsi "tuple") (gV 1)))) (gOrT (gTb (gB dNe (gL dLen (gCons (gV 1) gNil)) (gC (.int 2)))) (gOrT (gNotT (gTr (gU (dIsi "tuple") (gB dIx (gV 1) (gC (.int 0)))))) (gTb (gB dNe (gL dLen (gCons (gB dIx (gV 1) (gC (.int 0))) gNil)) (gV 0)))))) (gRet (gC (.bool false))) SR.nx) (gRet (gAndV (gNotV (gLc (gIt seqD (gB dIx (gV 1) (gC (.int 0)))) (tName 2) g_is_row_c1 g_is_row_e1)) (gF m_is_within (gCons (gB dIx (gV 1) (gC (.int 1))) (gCons (gC (.int 0)) (gCons (gC (.int 9999)) gNil)))))))
abbrev m_is_row : List PyData → Rs PyData := fnM 2 3 g_is_row
def g__law_is_row_c1 : Rw → Rs Bool := (gNotT (gTr (gF m__law_in (gCons (gV 2) (gCons (gC (.int 0)) (gCons (gC (.int 9)) gNil))))))
def g__law_is_row_e1 : Rw → Rs PyData := (gV 2)
def g__law_is_row : Rw → SR := (gSeq (gIfS (gOrT (gNotT (gTr (gU (dIsi "tuple") (gV 0)))) (gOrT (gTb (gB dNe (gL dLen (gCons (gV 0) gNil)) (gC (.int 2)))) (gOrT (gNotT (gTr (gU (dIsi "tuple") (gB dIx (gV 0) (gC (.int 0)))))) (gTb (gB dNe (gL dLen (gCons (gB dIx (gV 0) (gC (.int 0))) gNil)) (gV 1)))))) (gRet (gC (.bool false))) SR.nx) (gRet (gAndV (gB dEq (gLc (gIt seqD (gB dIx (gV 0) (gC (.int 0)))) (tName 2) g__law_is_row_c1 g__law_is_row_e1) (gL lstD gNil)) (gF m__law_in (gCons (gB dIx (gV 0) (gC (.int 1))) (gCons (gC (.int 0)) (gCons (gC (.int 9999)) gNil)))))))
abbrev m__law_is_row : List PyData → Rs PyData := fnM 2 3 g__law_is_row
def g_is_needed_b1 : Rw → SR := (gSeq (gSet 7 (gF m_left (gCons (gV 3) (gCons (gV 5) gNil)))) (gIfS (gAndT (gTb (gB dNe (gL tupD (gCons (gV 5) (gCons (gV 6) gNil))) (gV 2))) (gAndT (gTb (gB dNe (gV 7) (gV 3))) (gAndT (gTb (gB (dIs true) (gB dDget (gV 1) (gV 7)) (gC .none))) (gTb (gB dLeI (gB dAdd (gV 6) (gB dDget (gV 1) (gV 7))) (gV 4)))))) (gRet (gC (.bool false))) SR.nx))
def g_is_needed : Rw → SR := (gSeq (gAsg (tTup 2 (tCons (tName 3) (tCons (tName 4) tNil))) (gV 2)) (gSeq (gFor [.dead, .im, .im, .im, .im, .dead, .dead, .dead] (gIt seqD (gV 0)) (tTup 2 (tCons (tName 5) (tCons (tName 6) tNil))) g_is_needed_b1) (gRet (gC (.bool true)))))
abbrev m_is_needed : List PyData → Rs PyData := fnM 3 8 g_is_needed
def g_needed_by_e1 : Rw → Rs PyData := (gB dIx (gV 5) (gV 3))
def g_needed_by_e2 : Rw → Rs PyData := (gL (pickD maxZ) (gCons (gLc (gIt seqD (gV 0)) (tTup 2 (tCons (tName 5) (tCons (tName 6) tNil))) gYes g_needed_by_e1) gNil))
def g_needed_by_c1 : Rw → Rs Bool := (gTr (gF m_is_needed (gCons (gV 0) (gCons (gV 2) (gCons (gV 4) gNil)))))
def g_needed_by_e3 : Rw → Rs PyData := (gV 4)
def g_needed_by : Rw → SR := (gSeq (gIfS (gNotT (gTr (gV 0))) (gRet (gL tupD gNil)) SR.nx) (gSeq (gSet 1 (gL dTuple (gCons (gLc (gIt rng1 (gL dLen (gCons (gB dIx (gB dIx (gV 0) (gC (.int 0))) (gC (.int 0))) gNil))) (tName 3) gYes g_needed_by_e2) gNil))) (gSeq (gSet 2 (gF m_costs_below (gCons (gV 0) (gCons (gV 1) gNil)))) (gRet (gL dTuple (gCons (gLc (gIt seqD (gV 0)) (tName 4) g_needed_by_c1 g_needed_by_e3) gNil))))))
abbrev m_needed_by : List PyData → Rs PyData := fnM 1 7 g_needed_by
def g_form : Rw → SR := (gSeq (gDrop (gF m_look (gCons (gV 0) gNil))) (gRet (gF m_needed_by (gCons (gF m_all_packs (gCons (gV 0) gNil)) gNil))))
abbrev m_form : List PyData → Rs PyData := fnM 1 1 g_form
def g__law_small : Rw → SR := (gSeq (gIfS (gAndT (gTb (gB dEq (gB dIx (gV 0) (gC (.int 0))) (gC (.int 3)))) (gTb (gB dGtI (gL dLen (gCons (gF m__law_packs (gCons (gV 0) gNil)) gNil)) (gC (.int 8))))) (gRet (gL tupD (gCons (gC (.int 3)) (gCons (gSl (gB dIx (gV 0) (gC (.int 1))) gPn (gPs (gC (.int 3)))) gNil)))) SR.nx) (gRet (gV 0)))
abbrev m__law_small : List PyData → Rs PyData := fnM 1 1 g__law_small
def g_look_two : Rw → SR := (gSeq (gDrop (gF m_look (gCons (gV 0) gNil))) (gSeq (gDrop (gF m_look (gCons (gV 1) gNil))) (gIfS (gTb (gB dNe (gB dIx (gV 0) (gC (.int 0))) (gB dIx (gV 1) (gC (.int 0))))) (gRaise "Unlike") SR.nx)))
abbrev m_look_two : List PyData → Rs PyData := fnM 2 2 g_look_two
def g_alike : Rw → SR := (gSeq (gDrop (gF m_look_two (gCons (gV 0) (gCons (gV 1) gNil)))) (gRet (gB dEq (gF m_form (gCons (gV 0) gNil)) (gF m_form (gCons (gV 1) gNil)))))
abbrev m_alike : List PyData → Rs PyData := fnM 2 2 g_alike
def g_table : Rw → SR := (gRet (gF m_costs_below (gCons (gF m_all_packs (gCons (gV 0) gNil)) (gCons (gB dMul (gL tupD (gCons (gC (.int 9)) gNil)) (gB dIx (gV 0) (gC (.int 0)))) gNil))))
abbrev m_table : List PyData → Rs PyData := fnM 1 1 g_table
def g_is_dearer_b1 : Rw → SR := (gSeq (gSet 4 (gF m_cost_by (gCons (gF m_all_packs (gCons (gV 0) gNil)) (gCons (gV 2) gNil)))) (gIfS (gOrT (gTb (gB (dIs false) (gV 4) (gC .none))) (gTb (gB dGtI (gV 4) (gV 3)))) (gRet (gC (.bool true))) SR.nx))
def g_is_dearer : Rw → SR := (gSeq (gFor [.im, .dead, .dead, .dead, .dead] (gIt seqD (gF m_all_packs (gCons (gV 1) gNil))) (tTup 2 (tCons (tName 2) (tCons (tName 3) tNil))) g_is_dearer_b1) (gRet (gC (.bool false))))
abbrev m_is_dearer : List PyData → Rs PyData := fnM 2 5 g_is_dearer
def g_never_dearer : Rw → SR := (gSeq (gDrop (gF m_look_two (gCons (gV 0) (gCons (gV 1) gNil)))) (gRet (gNotV (gF m_is_dearer (gCons (gV 0) (gCons (gV 1) gNil))))))
abbrev m_never_dearer : List PyData → Rs PyData := fnM 2 2 g_never_dearer
def g_is_less : Rw → SR := (gSeq (gIfS (gTb (gB (dIs false) (gV 0) (gC .none))) (gRet (gC (.bool false))) SR.nx) (gRet (gOrV (gB (dIs false) (gV 1) (gC .none)) (gB dLtI (gV 0) (gV 1)))))
abbrev m_is_less : List PyData → Rs PyData := fnM 2 2 g_is_less
def g_laid_over : Rw → SR := (gSeq (gDrop (gF m_look_two (gCons (gV 0) (gCons (gV 1) gNil)))) (gRet (gF m_needed_by (gCons (gL dSortSet (gCons (gB dAdd (gF m_all_packs (gCons (gV 0) gNil)) (gF m_all_packs (gCons (gV 1) gNil))) gNil)) gNil))))
abbrev m_laid_over : List PyData → Rs PyData := fnM 2 2 g_laid_over
def g_ways_e1 : Rw → Rs PyData := (gL tupD (gCons (gV 2) (gCons (gV 3) (gCons (gF m_way_by (gCons (gF m_all_packs (gCons (gV 0) gNil)) (gCons (gV 2) gNil))) gNil))))
def g_ways : Rw → SR := (gSeq (gDrop (gF m_look_two (gCons (gV 0) (gCons (gV 1) gNil)))) (gSeq (gIfS (gTr (gF m_is_dearer (gCons (gV 0) (gCons (gV 1) gNil)))) (gRaise "NotSold") SR.nx) (gRet (gLc (gIt seqD (gF m_all_packs (gCons (gV 1) gNil))) (tTup 2 (tCons (tName 2) (tCons (tName 3) tNil))) gYes g_ways_e1))))
abbrev m_ways : List PyData → Rs PyData := fnM 2 4 g_ways
def g_split_e1 : Rw → Rs PyData := (gB dSub (gV 9) (gV 10))
def g_split_b1 : Rw → SR := (gSeq (gSet 7 (gL dTuple (gCons (gLc (gIt2 zip2 (gV 2) (gV 6)) (tTup 2 (tCons (tName 9) (tCons (tName 10) tNil))) gYes g_split_e1) gNil))) (gIfS (gAndT (gTb (gB (dIs true) (gB dDget (gV 3) (gV 6)) (gC .none))) (gTb (gB (dIs true) (gB dDget (gV 4) (gV 7)) (gC .none)))) (gSeq (gSet 8 (gL tupD (gCons (gB dAdd (gB dDget (gV 3) (gV 6)) (gB dDget (gV 4) (gV 7))) (gCons (gL dSum (gCons (gV 6) gNil)) (gCons (gV 6) gNil))))) (gIfS (gOrT (gTb (gB (dIs false) (gV 5) (gC .none))) (gTb (gB dLtA (gV 8) (gV 5)))) (gSet 5 (gV 8)) SR.nx)) SR.nx))
def g_split : Rw → SR := (gSeq (gDrop (gF m_look_two (gCons (gV 0) (gCons (gV 1) gNil)))) (gSeq (gDrop (gF m_look_basket (gCons (gV 0) (gCons (gV 2) gNil)))) (gSeq (gSet 3 (gF m_costs_below (gCons (gF m_all_packs (gCons (gV 0) gNil)) (gCons (gV 2) gNil)))) (gSeq (gSet 4 (gF m_costs_below (gCons (gF m_all_packs (gCons (gV 1) gNil)) (gCons (gV 2) gNil)))) (gSeq (gSet 5 (gC .none)) (gSeq (gFor [.dead, .dead, .im, .im, .im, .im, .dead, .dead, .dead, .dead, .dead] (gIt seqD (gF m_baskets_below (gCons (gV 2) gNil))) (tName 6) g_split_b1) (gRet (gIf (gTb (gB (dIs false) (gV 5) (gC .none))) (gC .none) (gL tupD (gCons (gB dIx (gV 5) (gC (.int 0))) (gCons (gB dIx (gV 5) (gC (.int 2))) gNil)))))))))))
abbrev m_split : List PyData → Rs PyData := fnM 3 11 g_split
def g_without : Rw → SR := (gRet (gL tupD (gCons (gB dIx (gV 0) (gC (.int 0))) (gCons (gB dAdd (gSl (gB dIx (gV 0) (gC (.int 1))) gPn (gPs (gV 1))) (gSl (gB dIx (gV 0) (gC (.int 1))) (gPs (gB dAdd (gV 1) (gC (.int 1)))) gPn)) gNil))))
abbrev m_without : List PyData → Rs PyData := fnM 2 2 g_without
def g_needless_c1 : Rw → Rs Bool := (gTb (gB dEq (gF m_form (gCons (gF m_without (gCons (gV 0) (gCons (gV 2) gNil))) gNil)) (gV 1)))
def g_needless_e1 : Rw → Rs PyData := (gV 2)
def g_needless : Rw → SR := (gSeq (gDrop (gF m_look (gCons (gV 0) gNil))) (gSeq (gSet 1 (gF m_form (gCons (gV 0) gNil))) (gRet (gLc (gIt rng1 (gL dLen (gCons (gB dIx (gV 0) (gC (.int 1))) gNil))) (tName 2) g_needless_c1 g_needless_e1))))
abbrev m_needless : List PyData → Rs PyData := fnM 1 3 g_needless
def g_least_offers_c1 : Rw → Rs Bool := (gTb (gB dNe (gV 5) (gV 3)))
def g_least_offers_e1 : Rw → Rs PyData := (gV 5)
def g_least_offers_e2 : Rw → Rs PyData := (gB dIx (gB dIx (gV 0) (gC (.int 1))) (gV 5))
def g_least_offers_b1 : Rw → SR := (gSeq (gSet 4 (gLc (gIt seqD (gV 2)) (tName 5) g_least_offers_c1 g_least_offers_e1)) (gIfS (gTb (gB dEq (gF m_form (gCons (gL tupD (gCons (gB dIx (gV 0) (gC (.int 0))) (gCons (gL dTuple (gCons (gLc (gIt seqD (gV 4)) (tName 5) gYes g_least_offers_e2) gNil)) gNil))) gNil)) (gV 1))) (gSet 2 (gV 4)) SR.nx))
def g_least_offers : Rw → SR := (gSeq (gDrop (gF m_look (gCons (gV 0) gNil))) (gSeq (gSet 1 (gF m_form (gCons (gV 0) gNil))) (gSeq (gSet 2 (gU dListR1 (gL dLen (gCons (gB dIx (gV 0) (gC (.int 1))) gNil)))) (gSeq (gFor [.im, .im, .im, .dead, .dead, .dead] (gIt seqD (gU dRevL (gV 2))) (tName 3) g_least_offers_b1) (gRet (gV 2))))))
abbrev m_least_offers : List PyData → Rs PyData := fnM 1 6 g_least_offers
def g_look_money : Rw → SR := (gIfS (gNotT (gTr (gF m_is_within (gCons (gV 0) (gCons (gC (.int 0)) (gCons (gC (.int 9999)) gNil)))))) (gRaise "BadPrice") SR.nx)
abbrev m_look_money : List PyData → Rs PyData := fnM 1 1 g_look_money
def g__law_lies_below_c1 : Rw → Rs Bool := (gTb (gB dGtI (gV 3) (gV 4)))
def g__law_lies_below_e1 : Rw → Rs PyData := (gC (.int 1))
def g__law_lies_below_b1 : Rw → SR := (gIfS (gTb (gB dEq (gLc (gIt2 zip2 (gV 0) (gV 2)) (tTup 2 (tCons (tName 3) (tCons (tName 4) tNil))) g__law_lies_below_c1 g__law_lies_below_e1) (gL lstD gNil))) (gRet (gC (.bool true))) SR.nx)
def g__law_lies_below : Rw → SR := (gSeq (gFor [.im, .dead, .dead, .dead, .dead] (gIt seqD (gV 1)) (tName 2) g__law_lies_below_b1) (gRet (gC (.bool false))))
abbrev m__law_lies_below : List PyData → Rs PyData := fnM 2 5 g__law_lies_below
def g_rivals_b1 : Rw → SR := (gApp 3 (gL tupD (gCons (gV 4) (gCons (gV 5) (gCons (gB dDget (gF m_costs_below (gCons (gV 2) (gCons (gV 4) gNil))) (gV 4)) gNil)))))
def g_rivals : Rw → SR := (gSeq (gDrop (gF m_look (gCons (gV 0) gNil))) (gSeq (gIfS (gNotT (gTr (gF m_is_within (gCons (gV 1) (gCons (gC (.int 0)) (gCons (gB dSub (gL dLen (gCons (gB dIx (gV 0) (gC (.int 1))) gNil)) (gC (.int 1))) gNil)))))) (gRaise "BadOffer") SR.nx) (gSeq (gSet 2 (gF m_all_packs (gCons (gF m_without (gCons (gV 0) (gCons (gV 1) gNil))) gNil))) (gSeq (gSet 3 (gL lstD gNil)) (gSeq (gFor [.dead, .dead, .im, .ow, .dead, .dead] (gIt seqD (gF m_packs_of (gCons (gB dIx (gV 0) (gC (.int 0))) (gCons (gB dIx (gB dIx (gV 0) (gC (.int 1))) (gV 1)) gNil)))) (tTup 2 (tCons (tName 4) (tCons (tName 5) tNil))) g_rivals_b1) (gRet (gL dSort (gCons (gV 3) gNil))))))))
abbrev m_rivals : List PyData → Rs PyData := fnM 2 6 g_rivals
def g_with_offer : Rw → SR := (gSeq (gDrop (gF m_look (gCons (gV 0) gNil))) (gSeq (gIfS (gNotT (gTr (gF m_is_offer (gCons (gB dIx (gV 0) (gC (.int 0))) (gCons (gV 1) gNil))))) (gRaise "BadOffer") SR.nx) (gSeq (gIfS (gTb (gB dEq (gL dLen (gCons (gB dIx (gV 0) (gC (.int 1))) gNil)) (gC (.int 6)))) (gRaise "Full") SR.nx) (gRet (gL tupD (gCons (gB dIx (gV 0) (gC (.int 0))) (gCons (gB dAdd (gB dIx (gV 0) (gC (.int 1))) (gL tupD (gCons (gV 1) gNil))) gNil)))))))
abbrev m_with_offer : List PyData → Rs PyData := fnM 2 2 g_with_offer
def g_look_place : Rw → SR := (gIfS (gNotT (gTr (gF m_is_within (gCons (gV 1) (gCons (gC (.int 0)) (gCons (gB dSub (gL dLen (gCons (gB dIx (gV 0) (gC (.int 1))) gNil)) (gC (.int 1))) gNil)))))) (gRaise "BadOffer") SR.nx)
abbrev m_look_place : List PyData → Rs PyData := fnM 2 2 g_look_place
def g_struck : Rw → SR := (gSeq (gDrop (gF m_look (gCons (gV 0) gNil))) (gSeq (gDrop (gF m_look_place (gCons (gV 0) (gCons (gV 1) gNil)))) (gRet (gL tupD (gCons (gB dIx (gV 0) (gC (.int 0))) (gCons (gB dAdd (gSl (gB dIx (gV 0) (gC (.int 1))) gPn (gPs (gV 1))) (gSl (gB dIx (gV 0) (gC (.int 1))) (gPs (gB dAdd (gV 1) (gC (.int 1)))) gPn)) gNil))))))
abbrev m_struck : List PyData → Rs PyData := fnM 2 2 g_struck
def g_priced : Rw → SR := (gSeq (gDrop (gF m_look (gCons (gV 0) gNil))) (gSeq (gDrop (gF m_look_place (gCons (gV 0) (gCons (gV 1) gNil)))) (gSeq (gIfS (gNotT (gTr (gF m_is_within (gCons (gV 2) (gCons (gC (.int 1)) (gCons (gC (.int 99)) gNil)))))) (gRaise "BadPrice") SR.nx) (gSeq (gSet 3 (gB dAdd (gSl (gB dIx (gB dIx (gV 0) (gC (.int 1))) (gV 1)) gPn (gPs (gU dNeg (gC (.int 1))))) (gL tupD (gCons (gV 2) gNil)))) (gRet (gL tupD (gCons (gB dIx (gV 0) (gC (.int 0))) (gCons (gB dAdd (gB dAdd (gSl (gB dIx (gV 0) (gC (.int 1))) gPn (gPs (gV 1))) (gL tupD (gCons (gV 3) gNil))) (gSl (gB dIx (gV 0) (gC (.int 1))) (gPs (gB dAdd (gV 1) (gC (.int 1)))) gPn)) gNil))))))))
abbrev m_priced : List PyData → Rs PyData := fnM 3 4 g_priced
def g__law_done : Rw → SR := (gSeq (gIfS (gTb (gB dEq (gV 0) (gC (.int 0)))) (gRet (gF m_with_offer (gCons (gV 1) (gCons (gV 2) gNil)))) SR.nx) (gRet (gIf (gTb (gB dEq (gV 0) (gC (.int 1)))) (gF m_struck (gCons (gV 1) (gCons (gV 2) gNil))) (gF m_priced (gCons (gV 1) (gCons (gV 2) (gCons (gV 3) gNil)))))))
abbrev m__law_done : List PyData → Rs PyData := fnM 4 4 g__law_done
def g__law_told : Rw → SR := (gSeq (gSet 4 (gC .none)) (gSeq (gTry ["BadList", "BadOffer", "BadPrice", "Full"] (gSet 4 (gF m__law_done (gCons (gV 0) (gCons (gV 1) (gCons (gV 2) (gCons (gV 3) gNil)))))) [("BadList", (gSet 4 (gC (.str "list")))), ("BadOffer", (gSet 4 (gC (.str "offer")))), ("BadPrice", (gSet 4 (gC (.str "price")))), ("Full", (gSet 4 (gC (.str "full"))))]) (gRet (gV 4))))
abbrev m__law_told : List PyData → Rs PyData := fnM 4 5 g__law_told
def g__law_times_e1 : Rw → Rs PyData := (gB dAdd (gSl (gV 2) gPn (gPs (gU dNeg (gC (.int 1))))) (gL tupD (gCons (gB dMul (gB dAdd (gC (.int 1)) (gB dMod (gB dIx (gV 2) (gU dNeg (gC (.int 1)))) (gC (.int 24)))) (gV 1)) gNil)))
def g__law_times : Rw → SR := (gRet (gL tupD (gCons (gB dIx (gV 0) (gC (.int 0))) (gCons (gL dTuple (gCons (gLc (gIt seqD (gB dIx (gV 0) (gC (.int 1)))) (tName 2) gYes g__law_times_e1) gNil)) gNil))))
abbrev m__law_times : List PyData → Rs PyData := fnM 2 3 g__law_times
def g__law_in_order_e1 : Rw → Rs PyData := (gB dIx (gV 0) (gV 2))
def g__law_in_order : Rw → SR := (gRet (gL dTuple (gCons (gLc (gIt seqD (gV 1)) (tName 2) gYes g__law_in_order_e1) gNil)))
abbrev m__law_in_order : List PyData → Rs PyData := fnM 2 3 g__law_in_order
def g__law_two_list_b1 : Rw → SR := (gApp 2 (gF m__law_offer (gCons (gF m__law_seed (gCons (gV 0) (gCons (gV 3) gNil))) (gCons (gV 1) gNil))))
def g__law_two_list : Rw → SR := (gSeq (gSet 2 (gL lstD gNil)) (gSeq (gFor [.im, .im, .ow, .dead] (gIt rng1 (gB dAdd (gC (.int 1)) (gB dMod (gB dFdiv (gV 0) (gC (.int 7))) (gC (.int 5))))) (tName 3) g__law_two_list_b1) (gRet (gL tupD (gCons (gV 1) (gCons (gL dTuple (gCons (gV 2) gNil)) gNil))))))
abbrev m__law_two_list : List PyData → Rs PyData := fnM 2 4 g__law_two_list
def g__law_things_e1 : Rw → Rs PyData := (gB dMod (gB dFdiv (gF m__law_seed (gCons (gV 0) (gCons (gV 3) gNil))) (gC (.int 7))) (gB dAdd (gV 2) (gC (.int 1))))
def g__law_things : Rw → SR := (gRet (gL dTuple (gCons (gLc (gIt rng1 (gV 1)) (tName 3) gYes g__law_things_e1) gNil)))
abbrev m__law_things : List PyData → Rs PyData := fnM 3 4 g__law_things
def g__law_rest_of_e1 : Rw → Rs PyData := (gL dMax2 (gCons (gC (.int 0)) (gCons (gB dSub (gV 2) (gV 3)) gNil)))
def g__law_rest_of : Rw → SR := (gRet (gL dTuple (gCons (gLc (gIt2 zip2 (gV 0) (gV 1)) (tTup 2 (tCons (tName 2) (tCons (tName 3) tNil))) gYes g__law_rest_of_e1) gNil)))
abbrev m__law_rest_of : List PyData → Rs PyData := fnM 2 4 g__law_rest_of
def g__law_every_below_e1 : Rw → Rs PyData := (gB dAdd (gV 4) (gL tupD (gCons (gV 6) gNil)))
def g__law_every_below_b1 : Rw → SR := (gSet 3 (gB dAdd (gV 3) (gLc (gIt rng1 (gB dAdd (gV 2) (gC (.int 1)))) (tName 6) gYes g__law_every_below_e1)))
def g__law_every_below_b2 : Rw → SR := (gSeq (gSet 3 (gL lstD gNil)) (gSeq (gFor [.dead, .dead, .im, .im, .dead, .dead, .dead] (gIt seqD (gV 1)) (tName 4) g__law_every_below_b1) (gSet 1 (gV 3))))
def g__law_every_below_e2 : Rw → Rs PyData := (gL tupD (gCons (gL dSum (gCons (gV 4) gNil)) (gCons (gV 4) gNil)))
def g__law_every_below_e3 : Rw → Rs PyData := (gV 4)
def g__law_every_below : Rw → SR := (gSeq (gSet 1 (gL lstD (gCons (gL tupD gNil) gNil))) (gSeq (gFor [.dead, .im, .dead, .dead, .dead, .dead, .dead] (gIt seqD (gV 0)) (tName 2) g__law_every_below_b2) (gRet (gLc (gIt seqD (gL dSort (gCons (gLc (gIt seqD (gV 1)) (tName 4) gYes g__law_every_below_e2) gNil))) (tTup 2 (tCons (tName 5) (tCons (tName 4) tNil))) gYes g__law_every_below_e3))))
abbrev m__law_every_below : List PyData → Rs PyData := fnM 1 7 g__law_every_below
def g__law_asked_b1 : Rw → SR := (gSeq (gSet 6 (gF m__law_rest_of (gCons (gV 3) (gCons (gV 4) gNil)))) (gIfS (gAndT (gTb (gB dNe (gV 6) (gV 3))) (gTb (gB (dIs true) (gB dDget (gV 2) (gV 6)) (gC .none)))) (gIfS (gOrT (gTb (gB (dIs false) (gB dDget (gV 2) (gV 3)) (gC .none))) (gTb (gB dLtI (gB dAdd (gB dDget (gV 2) (gV 6)) (gV 5)) (gB dDget (gV 2) (gV 3))))) (gPutD 2 (gV 3) (gB dAdd (gB dDget (gV 2) (gV 6)) (gV 5))) SR.nx) SR.nx))
def g__law_asked_b2 : Rw → SR := (gSeq (gPutD 2 (gV 3) (gIf (gTb (gB dEq (gL dSum (gCons (gV 3) gNil)) (gC (.int 0)))) (gC (.int 0)) (gC .none))) (gFor [.im, .dead, .ow, .im, .dead, .dead, .dead] (gIt seqD (gV 0)) (tTup 2 (tCons (tName 4) (tCons (tName 5) tNil))) g__law_asked_b1))
def g__law_asked : Rw → SR := (gSeq (gSet 2 (gC (.dict []))) (gSeq (gFor [.im, .dead, .ow, .dead, .dead, .dead, .dead] (gIt seqD (gF m__law_every_below (gCons (gV 1) gNil))) (tName 3) g__law_asked_b2) (gRet (gV 2))))
abbrev m__law_asked : List PyData → Rs PyData := fnM 2 7 g__law_asked
def g_sold : Rw → SR := (gSeq (gSet 2 (gF m_cost_by (gCons (gF m_all_packs (gCons (gV 0) gNil)) (gCons (gV 1) gNil)))) (gSeq (gIfS (gTb (gB (dIs false) (gV 2) (gC .none))) (gRaise "NotSold") SR.nx) (gRet (gV 2))))
abbrev m_sold : List PyData → Rs PyData := fnM 2 3 g_sold
def g_keys_c1 : Rw → Rs Bool := (gTb (gB dNe (gF m_cost_by (gCons (gF m_all_packs (gCons (gF m_without (gCons (gV 0) (gCons (gV 3) gNil))) gNil)) (gCons (gV 1) gNil))) (gV 2)))
def g_keys_e1 : Rw → Rs PyData := (gV 3)
def g_keys : Rw → SR := (gSeq (gDrop (gF m_look (gCons (gV 0) gNil))) (gSeq (gDrop (gF m_look_basket (gCons (gV 0) (gCons (gV 1) gNil)))) (gSeq (gSet 2 (gF m_sold (gCons (gV 0) (gCons (gV 1) gNil)))) (gRet (gLc (gIt rng1 (gL dLen (gCons (gB dIx (gV 0) (gC (.int 1))) gNil))) (tName 3) g_keys_c1 g_keys_e1)))))
abbrev m_keys : List PyData → Rs PyData := fnM 2 4 g_keys
def g_idles_from_b1 : Rw → SR := (gSeq (gSet 7 (gF m_cost_by (gCons (gV 2) (gCons (gV 5) gNil)))) (gSeq (gIfS (gTb (gB (dIs false) (gV 7) (gC .none))) (gRet (gC .none)) SR.nx) (gSeq (gSet 8 (gB dFdiv (gV 6) (gB dIx (gV 3) (gU dNeg (gC (.int 1)))))) (gSet 4 (gL dMax2 (gCons (gV 4) (gCons (gB dFdiv (gB dSub (gB dAdd (gV 7) (gV 8)) (gC (.int 1))) (gV 8)) gNil)))))))
def g_idles_from : Rw → SR := (gSeq (gDrop (gF m_look (gCons (gV 0) gNil))) (gSeq (gDrop (gF m_look_place (gCons (gV 0) (gCons (gV 1) gNil)))) (gSeq (gSet 2 (gF m_all_packs (gCons (gF m_without (gCons (gV 0) (gCons (gV 1) gNil))) gNil))) (gSeq (gSet 3 (gB dIx (gB dIx (gV 0) (gC (.int 1))) (gV 1))) (gSeq (gSet 4 (gC (.int 1))) (gSeq (gFor [.dead, .dead, .im, .im, .im, .dead, .dead, .dead, .dead] (gIt seqD (gF m_packs_of (gCons (gB dIx (gV 0) (gC (.int 0))) (gCons (gV 3) gNil)))) (tTup 2 (tCons (tName 5) (tCons (tName 6) tNil))) g_idles_from_b1) (gRet (gIf (gTb (gB dLeI (gV 4) (gC (.int 99)))) (gV 4) (gC .none)))))))))
abbrev m_idles_from : List PyData → Rs PyData := fnM 2 9 g_idles_from
def g_look_shops_c1 : Rw → Rs Bool := (gNotT (gTr (gF m_is_list (gCons (gV 2) gNil))))
def g_look_shops_e1 : Rw → Rs PyData := (gV 2)
def g_look_shops_c2 : Rw → Rs Bool := (gTb (gB dNe (gB dIx (gV 2) (gC (.int 0))) (gB dIx (gB dIx (gV 0) (gC (.int 0))) (gC (.int 0)))))
def g_look_shops : Rw → SR := (gSeq (gIfS (gOrT (gNotT (gTr (gU (dIsi "list") (gV 0)))) (gOrT (gNotT (gTb (gChain dLeI dLeI (gC (.int 1)) (gL dLen (gCons (gV 0) gNil)) (gC (.int 5))))) (gTr (gLc (gIt seqD (gV 0)) (tName 2) g_look_shops_c1 g_look_shops_e1)))) (gRaise "BadShops") SR.nx) (gSeq (gIfS (gTr (gLc (gIt seqD (gV 0)) (tName 2) g_look_shops_c2 g_look_shops_e1)) (gRaise "Unlike") SR.nx) (gDrop (gF m_look_basket (gCons (gB dIx (gV 0) (gC (.int 0))) (gCons (gV 1) gNil))))))
abbrev m_look_shops : List PyData → Rs PyData := fnM 2 3 g_look_shops
def g_cheapest_e1 : Rw → Rs PyData := (gL tupD (gCons (gF m_cost_by (gCons (gF m_all_packs (gCons (gV 5) gNil)) (gCons (gV 1) gNil))) (gCons (gV 4) gNil)))
def g_cheapest_c1 : Rw → Rs Bool := (gTb (gB (dIs true) (gB dIx (gV 6) (gC (.int 0))) (gC .none)))
def g_cheapest_e2 : Rw → Rs PyData := (gV 6)
def g_cheapest : Rw → SR := (gSeq (gDrop (gF m_look_shops (gCons (gV 0) (gCons (gV 1) gNil)))) (gSeq (gSet 2 (gLc (gIt enumL (gV 0)) (tTup 2 (tCons (tName 4) (tCons (tName 5) tNil))) gYes g_cheapest_e1)) (gSeq (gSet 3 (gLc (gIt seqD (gV 2)) (tName 6) g_cheapest_c1 g_cheapest_e2)) (gRet (gIf (gTr (gV 3)) (gL tupD (gCons (gB dIx (gL dMinA (gCons (gV 3) gNil)) (gC (.int 1))) (gCons (gB dIx (gL dMinA (gCons (gV 3) gNil)) (gC (.int 0))) gNil))) (gC .none))))))
abbrev m_cheapest : List PyData → Rs PyData := fnM 2 7 g_cheapest
def g_round_cost_b1 : Rw → SR := (gExt 3 (gF m_all_packs (gCons (gB dIx (gV 0) (gV 4)) gNil)))
def g_round_cost : Rw → SR := (gSeq (gSet 3 (gL lstD gNil)) (gSeq (gFor [.im, .dead, .im, .ow, .dead] (gIt seqD (gV 1)) (tName 4) g_round_cost_b1) (gRet (gF m_cost_by (gCons (gL dSortSet (gCons (gV 3) gNil)) (gCons (gV 2) gNil))))))
abbrev m_round_cost : List PyData → Rs PyData := fnM 3 5 g_round_cost
def g_all_round : Rw → SR := (gSeq (gDrop (gF m_look_shops (gCons (gV 0) (gCons (gV 1) gNil)))) (gRet (gF m_round_cost (gCons (gV 0) (gCons (gU dListR1 (gL dLen (gCons (gV 0) gNil))) (gCons (gV 1) gNil))))))
abbrev m_all_round : List PyData → Rs PyData := fnM 2 2 g_all_round
def g_choices_e1 : Rw → Rs PyData := (gB dAdd (gV 5) (gL lstD (gCons (gV 7) gNil)))
def g_choices_b1 : Rw → SR := (gSeq (gSet 6 (gIf (gTr (gV 5)) (gB dAdd (gB dIx (gV 5) (gU dNeg (gC (.int 1)))) (gC (.int 1))) (gC (.int 0)))) (gExt 4 (gLc (gIt2 rng2 (gV 6) (gV 0)) (tName 7) gYes g_choices_e1)))
def g_choices_b2 : Rw → SR := (gSeq (gSet 4 (gL lstD gNil)) (gSeq (gFor [.im, .dead, .dead, .dead, .ow, .dead, .dead, .dead] (gIt seqD (gV 2)) (tName 5) g_choices_b1) (gSet 2 (gV 4))))
def g_choices : Rw → SR := (gSeq (gSet 2 (gL lstD (gCons (gL lstD gNil) gNil))) (gSeq (gFor [.im, .dead, .im, .dead, .dead, .dead, .dead, .dead] (gIt rng1 (gV 1)) (tName 3) g_choices_b2) (gRet (gV 2))))
abbrev m_choices : List PyData → Rs PyData := fnM 2 8 g_choices
def g_fewest_shops_c1 : Rw → Rs Bool := (gTb (gB dEq (gF m_round_cost (gCons (gV 0) (gCons (gV 5) (gCons (gV 1) gNil)))) (gV 2)))
def g_fewest_shops_e1 : Rw → Rs PyData := (gV 5)
def g_fewest_shops_b1 : Rw → SR := (gSeq (gSet 4 (gLc (gIt seqD (gF m_choices (gCons (gL dLen (gCons (gV 0) gNil)) (gCons (gV 3) gNil)))) (tName 5) g_fewest_shops_c1 g_fewest_shops_e1)) (gIfS (gTr (gV 4)) (gRet (gB dIx (gV 4) (gC (.int 0)))) SR.nx))
def g_fewest_shops : Rw → SR := (gSeq (gDrop (gF m_look_shops (gCons (gV 0) (gCons (gV 1) gNil)))) (gSeq (gSet 2 (gF m_round_cost (gCons (gV 0) (gCons (gU dListR1 (gL dLen (gCons (gV 0) gNil))) (gCons (gV 1) gNil))))) (gSeq (gIfS (gTb (gB (dIs false) (gV 2) (gC .none))) (gRet (gC .none)) SR.nx) (gSeq (gFor [.im, .im, .im, .dead, .dead, .dead] (gIt rng1 (gB dAdd (gL dLen (gCons (gV 0) gNil)) (gC (.int 1)))) (tName 3) g_fewest_shops_b1) (gRet (gC .none))))))
abbrev m_fewest_shops : List PyData → Rs PyData := fnM 2 6 g_fewest_shops
def g_is_pack_c1 : Rw → Rs Bool := (gOrT (gNotT (gTr (gU (dIsi "int") (gV 2)))) (gTr (gU (dIsi "bool") (gV 2))))
def g_is_pack_e1 : Rw → Rs PyData := (gV 2)
def g_is_pack : Rw → SR := (gSeq (gIfS (gOrT (gNotT (gTr (gU (dIsi "tuple") (gV 1)))) (gOrT (gTb (gB dNe (gL dLen (gCons (gV 1) gNil)) (gC (.int 2)))) (gNotT (gTr (gU (dIsi "tuple") (gB dIx (gV 1) (gC (.int 0)))))))) (gRet (gC (.bool false))) SR.nx) (gSeq (gIfS (gTr (gLc (gIt seqD (gB dAdd (gB dIx (gV 1) (gC (.int 0))) (gSl (gV 1) (gPs (gC (.int 1))) gPn))) (tName 2) g_is_pack_c1 g_is_pack_e1)) (gRet (gC (.bool false))) SR.nx) (gRet (gB (dIn false) (gV 1) (gV 0)))))
abbrev m_is_pack : List PyData → Rs PyData := fnM 2 3 g_is_pack
def g_is_way_of_c1 : Rw → Rs Bool := (gNotT (gTr (gF m_is_pack (gCons (gV 0) (gCons (gV 2) gNil)))))
def g_is_way_of_e1 : Rw → Rs PyData := (gV 2)
def g_is_way_of : Rw → SR := (gSeq (gIfS (gOrT (gNotT (gTr (gU (dIsi "list") (gV 1)))) (gOrT (gTb (gB dGtI (gL dLen (gCons (gV 1) gNil)) (gC (.int 99)))) (gTr (gLc (gIt seqD (gV 1)) (tName 2) g_is_way_of_c1 g_is_way_of_e1)))) (gRet (gC (.bool false))) SR.nx) (gRet (gB dEq (gV 1) (gL dSort (gCons (gV 1) gNil)))))
abbrev m_is_way_of : List PyData → Rs PyData := fnM 2 3 g_is_way_of
def g_look_ware : Rw → SR := (gIfS (gNotT (gTr (gF m_is_within (gCons (gV 1) (gCons (gC (.int 0)) (gCons (gB dSub (gB dIx (gV 0) (gC (.int 0))) (gC (.int 1))) gNil)))))) (gRaise "BadBasket") SR.nx)
abbrev m_look_ware : List PyData → Rs PyData := fnM 2 2 g_look_ware
def g_with_one : Rw → SR := (gRet (gB dAdd (gB dAdd (gSl (gV 0) gPn (gPs (gV 1))) (gL tupD (gCons (gB dAdd (gB dIx (gV 0) (gV 1)) (gC (.int 1))) gNil))) (gSl (gV 0) (gPs (gB dAdd (gV 1) (gC (.int 1)))) gPn)))
abbrev m_with_one : List PyData → Rs PyData := fnM 2 2 g_with_one
def g_one_more : Rw → SR := (gSeq (gDrop (gF m_look (gCons (gV 0) gNil))) (gSeq (gDrop (gF m_look_basket (gCons (gV 0) (gCons (gV 1) gNil)))) (gSeq (gDrop (gF m_look_ware (gCons (gV 0) (gCons (gV 2) gNil)))) (gSeq (gIfS (gTb (gB dEq (gB dIx (gV 1) (gV 2)) (gC (.int 9)))) (gRaise "BadBasket") SR.nx) (gSeq (gSet 3 (gF m_sold (gCons (gV 0) (gCons (gV 1) gNil)))) (gRet (gB dSub (gF m_sold (gCons (gV 0) (gCons (gF m_with_one (gCons (gV 1) (gCons (gV 2) gNil))) gNil))) (gV 3))))))))
abbrev m_one_more : List PyData → Rs PyData := fnM 3 4 g_one_more
def g_is_free : Rw → SR := (gSeq (gIfS (gTb (gB dEq (gB dIx (gV 1) (gV 2)) (gC (.int 9)))) (gRet (gC (.bool false))) SR.nx) (gRet (gB dEq (gF m_cost_by (gCons (gF m_all_packs (gCons (gV 0) gNil)) (gCons (gF m_with_one (gCons (gV 1) (gCons (gV 2) gNil))) gNil))) (gF m_cost_by (gCons (gF m_all_packs (gCons (gV 0) gNil)) (gCons (gV 1) gNil))))))
abbrev m_is_free : List PyData → Rs PyData := fnM 3 3 g_is_free
def g_free_wares_c1 : Rw → Rs Bool := (gTr (gF m_is_free (gCons (gV 0) (gCons (gV 1) (gCons (gV 2) gNil)))))
def g_free_wares_e1 : Rw → Rs PyData := (gV 2)
def g_free_wares : Rw → SR := (gSeq (gDrop (gF m_look (gCons (gV 0) gNil))) (gSeq (gDrop (gF m_look_basket (gCons (gV 0) (gCons (gV 1) gNil)))) (gSeq (gDrop (gF m_sold (gCons (gV 0) (gCons (gV 1) gNil)))) (gRet (gLc (gIt rng1 (gB dIx (gV 0) (gC (.int 0)))) (tName 2) g_free_wares_c1 g_free_wares_e1)))))
abbrev m_free_wares : List PyData → Rs PyData := fnM 2 3 g_free_wares
def g_stretched_b1 : Rw → SR := (gSet 1 (gF m_with_one (gCons (gV 1) (gCons (gV 2) gNil))))
def g_stretched_c1 : Rw → Rs Bool := (gTr (gF m_is_free (gCons (gV 0) (gCons (gV 1) (gCons (gV 2) gNil)))))
def g_stretched_b2 : Rw → SR := (gWhile [.im, .im, .im] 1000 g_stretched_c1 g_stretched_b1)
def g_stretched : Rw → SR := (gSeq (gDrop (gF m_look (gCons (gV 0) gNil))) (gSeq (gDrop (gF m_look_basket (gCons (gV 0) (gCons (gV 1) gNil)))) (gSeq (gDrop (gF m_sold (gCons (gV 0) (gCons (gV 1) gNil)))) (gSeq (gFor [.im, .im, .dead] (gIt rng1 (gB dIx (gV 0) (gC (.int 0)))) (tName 2) g_stretched_b2) (gRet (gV 1))))))
abbrev m_stretched : List PyData → Rs PyData := fnM 2 3 g_stretched
def g_price_row_e1 : Rw → Rs PyData := (gF m_cost_by (gCons (gF m_all_packs (gCons (gV 0) gNil)) (gCons (gF m_alone (gCons (gB dIx (gV 0) (gC (.int 0))) (gCons (gV 1) (gCons (gV 2) gNil)))) gNil)))
def g_price_row : Rw → SR := (gSeq (gDrop (gF m_look (gCons (gV 0) gNil))) (gSeq (gDrop (gF m_look_ware (gCons (gV 0) (gCons (gV 1) gNil)))) (gRet (gLc (gIt rng1 (gB dAdd (gC (.int 9)) (gC (.int 1)))) (tName 2) gYes g_price_row_e1))))
abbrev m_price_row : List PyData → Rs PyData := fnM 2 3 g_price_row
def g_worth : Rw → SR := (gSeq (gDrop (gF m_look (gCons (gV 0) gNil))) (gSeq (gDrop (gF m_look_place (gCons (gV 0) (gCons (gV 1) gNil)))) (gSeq (gDrop (gF m_look_basket (gCons (gV 0) (gCons (gV 2) gNil)))) (gSeq (gSet 3 (gF m_sold (gCons (gV 0) (gCons (gV 2) gNil)))) (gSeq (gSet 4 (gF m_cost_by (gCons (gF m_all_packs (gCons (gF m_without (gCons (gV 0) (gCons (gV 1) gNil))) gNil)) (gCons (gV 2) gNil)))) (gRet (gIf (gTb (gB (dIs false) (gV 4) (gC .none))) (gC .none) (gB dSub (gV 4) (gV 3)))))))))
abbrev m_worth : List PyData → Rs PyData := fnM 3 5 g_worth
def g__law_stretch_b1 : Rw → SR := (gSeq (gSet 4 (gB dAdd (gB dAdd (gSl (gV 1) gPn (gPs (gV 2))) (gL tupD (gCons (gV 3) gNil))) (gSl (gV 1) (gPs (gB dAdd (gV 2) (gC (.int 1)))) gPn))) (gIfS (gAndT (gTb (gB dGtI (gV 3) (gB dIx (gV 1) (gV 2)))) (gTb (gB dEq (gB dDget (gV 0) (gV 4)) (gB dDget (gV 0) (gV 1))))) (gSet 1 (gV 4)) SR.nx))
def g__law_stretch_b2 : Rw → SR := (gFor [.im, .im, .im, .dead, .dead] (gIt2 rngDn (gC (.int 9)) (gB dIx (gV 1) (gV 2))) (tName 3) g__law_stretch_b1)
def g__law_stretch : Rw → SR := (gSeq (gFor [.im, .im, .dead, .dead, .dead] (gIt rng1 (gL dLen (gCons (gV 1) gNil))) (tName 2) g__law_stretch_b2) (gRet (gV 1)))
abbrev m__law_stretch : List PyData → Rs PyData := fnM 2 5 g__law_stretch
def g__law_fewer_offers : Rw → SR := (gRet (gL tupD (gCons (gB dIx (gV 0) (gC (.int 0))) (gCons (gB dAdd (gSl (gB dIx (gV 0) (gC (.int 1))) gPn (gPs (gV 1))) (gSl (gB dIx (gV 0) (gC (.int 1))) (gPs (gB dAdd (gV 1) (gC (.int 1)))) gPn)) gNil))))
abbrev m__law_fewer_offers : List PyData → Rs PyData := fnM 2 2 g__law_fewer_offers
def g__law_stores_e1 : Rw → Rs PyData := (gF m__law_two_list (gCons (gF m__law_seed (gCons (gV 0) (gCons (gV 2) gNil))) (gCons (gV 1) gNil)))
def g__law_stores : Rw → SR := (gSeq (gSet 1 (gB dAdd (gC (.int 1)) (gB dMod (gB dFdiv (gV 0) (gC (.int 11))) (gC (.int 2))))) (gRet (gLc (gIt rng1 (gB dAdd (gC (.int 1)) (gB dMod (gB dFdiv (gV 0) (gC (.int 7))) (gC (.int 5))))) (tName 2) gYes g__law_stores_e1)))
abbrev m__law_stores : List PyData → Rs PyData := fnM 1 3 g__law_stores
def g__law_cart_drawn : Rw → SR := (gSeq (gSet 2 (gB dIx (gL lstD (gCons (gC (.str "put")) (gCons (gC (.str "put")) (gCons (gC (.str "take")) (gCons (gC (.str "put")) (gCons (gC (.str "undo")) (gCons (gC (.str "redo")) (gCons (gC (.str "take")) (gCons (gC (.str "put")) gNil))))))))) (gB dMod (gB dFdiv (gV 0) (gC (.int 5))) (gC (.int 8))))) (gSeq (gPar 3 4 (gB dMod (gB dFdiv (gV 0) (gC (.int 41))) (gV 1)) (gB dAdd (gC (.int 1)) (gB dMod (gB dFdiv (gF m__law_seed (gCons (gV 0) (gCons (gC (.int 1)) gNil))) (gC (.int 7))) (gB dIx (gL lstD (gCons (gC (.int 2)) (gCons (gC (.int 4)) (gCons (gC (.int 9)) gNil)))) (gB dMod (gB dFdiv (gV 0) (gC (.int 211))) (gC (.int 3))))))) (gSeq (gIfS (gTb (gB dEq (gB dMod (gB dFdiv (gV 0) (gC (.int 1009))) (gC (.int 9))) (gC (.int 0)))) (gSet 3 (gB dIx (gL lstD (gCons (gV 1) (gCons (gU dNeg (gC (.int 1))) (gCons (gC .none) (gCons (gC (.bool true)) (gCons (gC (.str "0")) gNil)))))) (gB dMod (gB dFdiv (gF m__law_seed (gCons (gV 0) (gCons (gC (.int 2)) gNil))) (gC (.int 7))) (gC (.int 5))))) SR.nx) (gSeq (gIfS (gTb (gB dEq (gB dMod (gB dFdiv (gV 0) (gC (.int 9973))) (gC (.int 9))) (gC (.int 0)))) (gSet 4 (gB dIx (gL lstD (gCons (gC (.int 0)) (gCons (gC (.int 10)) (gCons (gU dNeg (gC (.int 1))) (gCons (gC .none) (gCons (gC (.bool true)) gNil)))))) (gB dMod (gB dFdiv (gF m__law_seed (gCons (gV 0) (gCons (gC (.int 3)) gNil))) (gC (.int 7))) (gC (.int 5))))) SR.nx) (gRet (gL tupD (gCons (gV 2) (gCons (gV 3) (gCons (gV 4) gNil)))))))))
abbrev m__law_cart_drawn : List PyData → Rs PyData := fnM 2 5 g__law_cart_drawn
end PD
/-! CTA: things that are changed: attributes, defs that are handed such a thing. -/
namespace PD
open PySem L2
/-! ### attributes -/
def getC (f : Str) : List (PyData × PyData) → Option PyData
  | [] => none
  | (k, d) :: r => match k with
    | .str g => if f = g then some d else getC f r
    | _ => none
def putC (f : Str) (d : PyData) : List (PyData × PyData) → List (PyData × PyData)
  | [] => [(.str f, d)]
  | (k, e) :: r => match k with
    | .str g => if g = f then (.str g, d) :: r else (.str g, e) :: putC f d r
    | _ => (k, e) :: putC f d r
section
variable {K : PySem.W.Frag} {F H : Hp} {fs : List (Str × V)} {kvs : List (PyData × PyData)} {as : List Addr} {f : Str}
theorem lookup_step (f g : Str) (v : V) (r : List (Str × V)) : List.lookup f ((g, v) :: r) = if f = g then some v else List.lookup f r := by
  by_cases h : f = g
  · subst h; rw [if_pos rfl]; simp [List.lookup]
  · rw [if_neg h, List.lookup, beq_false_of_ne h]
theorem FldsOk.getIm (h : FldsOk K F H fs kvs as) {d : PyData} (e : getC f kvs = some (.tuple [d])) : ∃ v, fs.lookup f = some v ∧ Rp K F v d := by
  induction h with
  | nil => cases e
  | @im g v d' fs kvs as r _ ih =>
    have e : (if f = g then some (PyData.tuple [d']) else getC f kvs) = some (.tuple [d]) := e
    rw [lookup_step]
    by_cases hg : f = g
    · rw [if_pos hg] at e ⊢; cases e; exact ⟨v, rfl, r⟩
    · rw [if_neg hg] at e ⊢; exact ih e
  | @ow g p xs ds fs kvs as h1 h2 r h3 _ ih =>
    have e : (if f = g then some (PyData.list ds) else getC f kvs) = some (.tuple [d]) := e
    rw [lookup_step]
    by_cases hg : f = g
    · rw [if_pos hg] at e; cases e
    · rw [if_neg hg] at e ⊢; exact ih e
theorem FldsOk.getOw (h : FldsOk K F H fs kvs as) {ds : List PyData} (e : getC f kvs = some (.list ds)) : ∃ p xs, fs.lookup f = some (.ref p) ∧ p ∈ as ∧ H p = some (.lst xs) ∧ xs.length ≤ sizeLine ∧ RpL K F xs ds ∧ F p = none := by
  induction h with
  | nil => cases e
  | @im g v d' fs kvs as r _ ih =>
    have e : (if f = g then some (PyData.tuple [d']) else getC f kvs) = some (.list ds) := e
    rw [lookup_step]
    by_cases hg : f = g
    · rw [if_pos hg] at e; cases e
    · rw [if_neg hg] at e ⊢; exact ih e
  | @ow g p xs ds' fs kvs as h1 h2 r h3 _ ih =>
    have e : (if f = g then some (PyData.list ds') else getC f kvs) = some (.list ds) := e
    rw [lookup_step]
    by_cases hg : f = g
    · rw [if_pos hg] at e ⊢; cases e; exact ⟨p, xs, rfl, List.mem_cons_self, h1, h2, r, h3⟩
    · rw [if_neg hg] at e ⊢
      obtain ⟨q, ys, e1, e2, e3⟩ := ih e
      exact ⟨q, ys, e1, List.mem_cons_of_mem _ e2, e3⟩
/-- an attribute is given a frozen value -/
theorem FldsOk.putIm (h : FldsOk K F H fs kvs as) {v : V} {d : PyData} (r : Rp K F v d) : ∃ bs, FldsOk K F H (putF f v fs) (putC f (.tuple [d]) kvs) bs ∧ bs.Sublist as := by
  induction h with
  | nil => exact ⟨[], .im r .nil, .slnil⟩
  | @im g v' d' fs kvs as r' hr ih =>
    show ∃ bs, FldsOk K F H (if g = f then (g, v) :: fs else (g, v') :: putF f v fs) (if g = f then (.str g, .tuple [d]) :: kvs else (.str g, .tuple [d']) :: putC f (.tuple [d]) kvs) bs ∧ _
    by_cases hg : g = f
    · rw [if_pos hg, if_pos hg]; exact ⟨as, .im r hr, List.Sublist.refl _⟩
    · rw [if_neg hg, if_neg hg]
      obtain ⟨bs, h1, h2⟩ := ih
      exact ⟨bs, .im r' h1, h2⟩
  | @ow g p xs ds fs kvs as h1 h2 r' h3 hr ih =>
    show ∃ bs, FldsOk K F H (if g = f then (g, v) :: fs else (g, .ref p) :: putF f v fs) (if g = f then (.str g, .tuple [d]) :: kvs else (.str g, .list ds) :: putC f (.tuple [d]) kvs) bs ∧ _
    by_cases hg : g = f
    · rw [if_pos hg, if_pos hg]; exact ⟨as, .im r hr, List.sublist_cons_self _ _⟩
    · rw [if_neg hg, if_neg hg]
      obtain ⟨bs, q1, q2⟩ := ih
      exact ⟨p :: bs, .ow h1 h2 r' h3 q1, q2.cons_cons p⟩
/-- .. a list of its own -/
theorem FldsOk.putOw (h : FldsOk K F H fs kvs as) {q : Addr} {ys : List V} {es : List PyData} (hq : H q = some (.lst ys)) (hz : ys.length ≤ sizeLine) (r : RpL K F ys es) (hF : F q = none) : ∃ bs, FldsOk K F H (putF f (.ref q) fs) (putC f (.list es) kvs) bs ∧ ∃ l m, bs = l ++ q :: m ∧ (l ++ m).Sublist as := by
  induction h with
  | nil => exact ⟨[q], .ow hq hz r hF .nil, [], [], rfl, .slnil⟩
  | @im g v' d' fs kvs as r' hr ih =>
    show ∃ bs, FldsOk K F H (if g = f then (g, .ref q) :: fs else (g, v') :: putF f (.ref q) fs) (if g = f then (.str g, .list es) :: kvs else (.str g, .tuple [d']) :: putC f (.list es) kvs) bs ∧ _
    by_cases hg : g = f
    · rw [if_pos hg, if_pos hg]; exact ⟨q :: as, .ow hq hz r hF hr, [], as, rfl, List.Sublist.refl _⟩
    · rw [if_neg hg, if_neg hg]
      obtain ⟨bs, h1, h2⟩ := ih
      exact ⟨bs, .im r' h1, h2⟩
  | @ow g p xs ds fs kvs as h1 h2 r' h3 hr ih =>
    show ∃ bs, FldsOk K F H (if g = f then (g, .ref q) :: fs else (g, .ref p) :: putF f (.ref q) fs) (if g = f then (.str g, .list es) :: kvs else (.str g, .list ds) :: putC f (.list es) kvs) bs ∧ _
    by_cases hg : g = f
    · rw [if_pos hg, if_pos hg]; exact ⟨q :: as, .ow hq hz r hF hr, [], as, rfl, List.sublist_cons_self _ _⟩
    · rw [if_neg hg, if_neg hg]
      obtain ⟨bs, q1, l, m, q2, q3⟩ := ih
      exact ⟨p :: bs, .ow h1 h2 r' h3 q1, p :: l, m, by rw [q2]; rfl, q3.cons_cons p⟩
/-- the object at an own list's place is exchanged -/
theorem FldsOk.mutL (h : FldsOk K F H fs kvs as) {p : Addr} {ys : List V} {ds es : List PyData} (nd : as.Nodup) (e : getC f kvs = some (.list ds)) (hp : fs.lookup f = some (.ref p)) (hz : ys.length ≤ sizeLine) (r : RpL K F ys es) (ha : p ∈ as) : FldsOk K F (upd H p (.lst ys)) fs (putC f (.list es) kvs) as := by
  induction h with
  | nil => cases e
  | @im g v' d' fs kvs as r' hr ih =>
    have e : (if f = g then some (PyData.tuple [d']) else getC f kvs) = some (.list ds) := e
    rw [lookup_step] at hp
    show FldsOk K F (upd H p (.lst ys)) ((g, v') :: fs) (if g = f then (.str g, .list es) :: kvs else (.str g, .tuple [d']) :: putC f (.list es) kvs) as
    by_cases hg : f = g
    · rw [if_pos hg] at e; cases e
    · rw [if_neg hg] at e hp
      rw [if_neg (Ne.symm hg)]
      exact .im r' (ih nd e hp ha)
  | @ow g q xs ds' fs kvs as h1 h2 r' h3 hr ih =>
    have e : (if f = g then some (PyData.list ds') else getC f kvs) = some (.list ds) := e
    rw [lookup_step] at hp
    show FldsOk K F (upd H p (.lst ys)) ((g, .ref q) :: fs) (if g = f then (.str g, .list es) :: kvs else (.str g, .list ds') :: putC f (.list es) kvs) (q :: as)
    have nd' := List.nodup_cons.mp nd
    by_cases hg : f = g
    · rw [if_pos hg] at hp
      cases hp
      rw [if_pos hg.symm]
      refine .ow upd_same hz r h3 (hr.mono (Same.refl _) fun a hb => ⟨?_, (hr.has a hb).1⟩)
      rw [upd_ne]
      intro z; subst z; exact nd'.1 hb
    · rw [if_neg hg] at e hp
      rw [if_neg (Ne.symm hg)]
      have hpa : p ∈ as := by
        obtain ⟨p', _, e1, e2, _⟩ := hr.getOw e
        rw [hp] at e1; cases e1; exact e2
      refine .ow ?_ h2 r' h3 (ih nd'.2 e hp hpa)
      rw [upd_ne]
      · exact h1
      · intro z; subst z; exact nd'.1 hpa
end
/-! ### the heap without some objects -/
open Classical in
noncomputable def remA (as : List Addr) (H : Hp) : Hp := fun b => if b ∈ as then none else H b
theorem rem_in {as : List Addr} {H : Hp} {b : Addr} (h : b ∈ as) : remA as H b = none := if_pos h
theorem rem_out {as : List Addr} {H : Hp} {b : Addr} (h : b ∉ as) : remA as H b = H b := if_neg h
theorem rem_some {as : List Addr} {H : Hp} {b : Addr} {o : HO} (h : remA as H b = some o) : b ∉ as ∧ H b = some o := by
  by_cases hb : b ∈ as
  · rw [rem_in hb] at h; cases h
  · rw [rem_out hb] at h; exact ⟨hb, h⟩
theorem rem_none {as : List Addr} {H : Hp} {b : Addr} (h : remA as H b = none) : b ∈ as ∨ H b = none := by
  by_cases hb : b ∈ as
  · exact .inl hb
  · rw [rem_out hb] at h; exact .inr h
theorem tbOk_rem [Tb] {F H : Hp} {as : List Addr} (t : TbOk F H) (ha : ∀ a ∈ as, ∃ o, H a = some o ∧ Fresh o) : TbOk F (remA as H) := by
  refine ⟨fun q hq => ?_, fun q xs e => t.2 q xs (rem_some e).2⟩
  obtain ⟨t1, ps, p1, p2, p3⟩ := t.1 q hq
  have nq : ∀ {b : Addr} {o : HO}, H b = some o → ¬ Fresh o → b ∉ as := fun {b o} h1 h2 z => by
    obtain ⟨o', e1, e2⟩ := ha b z
    rw [h1] at e1; cases e1; exact h2 e2
  refine ⟨t1, ps, by rw [rem_out (nq p1 fun z => z.1 ps rfl)]; exact p1, p2, fun pos cv hc => ?_⟩
  obtain ⟨c, c1, c2⟩ := p3 pos cv hc
  exact ⟨c, c1, by rw [rem_out (nq c2 fun z => z.2.1 _ _ rfl)]; exact c2⟩
theorem step_rem [Tb] {F H : Hp} {as : List Addr} (s : Same F H) (t : TbOk F H) : Step F (remA as H) F H := ⟨Same.refl _, s, fun b o e => ⟨o, (rem_some e).2, fun _ => rfl⟩, fun _ h _ => h, fun _ => t⟩
end PD
/-! CTB: defs that are handed a thing that is changed. -/
namespace PD
open PySem L2
/-! ### the same tables, other roots -/
abbrev Tb.at [T : Tb] (r : Nat → Addr) : Tb := ⟨T.tab, T.cls, r⟩
theorem step_to [T : Tb] {r : Nat → Addr} {F H F' H' : Hp} (s : @Step T F H F' H') : @Step (Tb.at r) F H F' H' := @Step.mk (Tb.at r) _ _ _ _ s.f s.fh s.h s.nw s.t
theorem step_of [T : Tb] {r : Nat → Addr} {F H F' H' : Hp} (s : @Step (Tb.at r) F H F' H') : @Step T F H F' H' := @Step.mk T _ _ _ _ (@Step.f (Tb.at r) _ _ _ _ s) (@Step.fh (Tb.at r) _ _ _ _ s) (@Step.h (Tb.at r) _ _ _ _ s) (@Step.nw (Tb.at r) _ _ _ _ s) (@Step.t (Tb.at r) _ _ _ _ s)
theorem aft_of [T : Tb] {r : Nat → Addr} {a : Type} {mg : Str → Option Value} {W : WX} {σ : L2.St} {F H : Hp} {x : Rs a} {Z : a → Hp → Hp → Prop} (h : @Aft (Tb.at r) a mg W σ F H x Z) : @Aft T a mg W σ F H x Z := by
  cases x with
  | ok y => exact fun F' H' s => h F' H' (step_to s)
  | error e =>
    cases e with
    | bad => exact h
    | exc n => exact fun F' H' s => h F' H' (step_to s)
section
variable {P : Program} {w : World} {K : PySem.W.Frag} {mg : Str → Option Value} {base : Heap} {CX : CXT} {k kk : Nat} {f : Addr} {fd : FuncData} {ps : List Str}
theorem spP_at [T : Tb] {r : Nat → Addr} {m : List PyData → Rs PyData} (G : FnOk P w K mg base CX k f fd ps (@spP T K mg kk m)) : FnOk P w K mg base CX k f fd ps (@spP (Tb.at r) K mg kk m) :=
  G.imp fun vs H Q E ⟨F, ds, e, s, t, rp, q⟩ => ⟨F, ds, e, s, t, rp, aft_of q⟩
/-- a promise of a def that reads the thing -/
def spR [Tb] (K : PySem.W.Frag) (mg : Str → Option Value) (k : Nat) (m : List PyData → Rs PyData) : Sp := fun vs H Q E => ∃ x ws F ds c as, vs = .ref x :: ws ∧ ds.length = k ∧ Same F H ∧ TbOk F H ∧ CtAt Tb.cls K F H x as c ∧ RpL K F ws ds ∧ Aft mg (fun c d _ H' => E c d H') [] F H (m (c :: ds)) fun d F' H' => ∀ v, Rp K F' v d → Q v H'
abbrev RC := Except (Er × PyData) (PyData × PyData)
def CAft [Tb] (K : PySem.W.Frag) (mg : Str → Option Value) (E : XK) (F H : Hp) (x : Addr) (as : List Addr) (Q : VK) : RC → Prop
  | .ok (d, c) => ∀ v F' H' bs, Step F (remA as H) F' H' → Rp K F' v d → CtAt Tb.cls K F' H' x bs c → (∀ a ∈ bs, remA as H a = none) → Q v H'
  | .error (.exc n, c) => ∀ F' H' bs, Step F (remA as H) F' H' → CtAt Tb.cls K F' H' x bs c → (∀ a ∈ bs, remA as H a = none) → E (clsOf mg n) none H'
  | .error (.bad, _) => False
/-- .. that changes it -/
def spC [Tb] (K : PySem.W.Frag) (mg : Str → Option Value) (k : Nat) (m : List PyData → RC) : Sp := fun vs H Q E => ∃ x ws F ds c as, vs = .ref x :: ws ∧ ds.length = k ∧ Same F H ∧ TbOk F H ∧ CtAt Tb.cls K F H x as c ∧ RpL K F ws ds ∧ CAft K mg E F H x as Q (m (c :: ds))
theorem spR_at [T : Tb] {r : Nat → Addr} {m : List PyData → Rs PyData} (G : FnOk P w K mg base CX k f fd ps (@spR T K mg kk m)) : FnOk P w K mg base CX k f fd ps (@spR (Tb.at r) K mg kk m) :=
  G.imp fun vs H Q E ⟨x, ws, F, ds, c, as, e, e1, s, t, ct, rp, q⟩ => ⟨x, ws, F, ds, c, as, e, e1, s, t, ct, rp, aft_of q⟩
theorem cAft_of [T : Tb] {r : Nat → Addr} {E : XK} {F H : Hp} {x : Addr} {as : List Addr} {Q : VK} {z : RC} (h : @CAft (Tb.at r) K mg E F H x as Q z) : @CAft T K mg E F H x as Q z := by
  cases z with
  | ok y => obtain ⟨d, c⟩ := y; exact fun v F' H' bs s => h v F' H' bs (step_to s)
  | error y =>
    obtain ⟨e, c⟩ := y
    cases e with
    | bad => exact h
    | exc n => exact fun F' H' bs s => h F' H' bs (step_to s)
theorem spC_at [T : Tb] {r : Nat → Addr} {m : List PyData → RC} (G : FnOk P w K mg base CX k f fd ps (@spC T K mg kk m)) : FnOk P w K mg base CX k f fd ps (@spC (Tb.at r) K mg kk m) :=
  G.imp fun vs H Q E ⟨x, ws, F, ds, c, as, e, e1, s, t, ct, rp, q⟩ => ⟨x, ws, F, ds, c, as, e, e1, s, t, ct, rp, cAft_of q⟩
end
/-! ### the start of such a def -/
def phC (f0 : Fl) (k nn : Nat) : List Fl := f0 :: (List.replicate k .im ++ List.replicate (nn - (k + 1)) .dead)
theorem phC_get {f0 f : Fl} {k nn i : Nat} (h : (phC f0 k nn)[i + 1]? = some f) : f = .im ∨ f = .dead := by
  have h : (List.replicate k Fl.im ++ List.replicate (nn - (k + 1)) Fl.dead)[i]? = some f := h
  by_cases hi : i < k
  · rw [List.getElem?_append_left (by simpa using hi), List.getElem?_replicate, if_pos hi] at h; cases h; exact .inl rfl
  · rw [List.getElem?_append_right (by simpa using hi), List.getElem?_replicate] at h
    split at h <;> cases h
    exact .inr rfl
theorem en_startC [Tb] {K : PySem.W.Frag} {F H : Hp} {x : Addr} {ws : List V} {c : PyData} {ds : List PyData} {N : List Str} {f0 : Fl} (hf : SlotOk K F H f0 (some (.ref x)) c) (hw : f0 ≠ .ow) (s : Same F H) (tb : TbOk F H) (r : RpL K F ws ds) (hn : ds.length + 1 ≤ N.length) :
    En K (phC f0 ds.length N.length) F H (L2.start N (.ref x :: ws)) ((c :: ds) ++ List.replicate (N.length - (ds.length + 1)) .none) := by
  have el := r.length
  have ls : (L2.start N (.ref x :: ws)).length = N.length := by unfold L2.start; simp; omega
  refine ⟨s, by rw [ls]; simp [phC]; omega, by simp [phC], fun i f h => ?_, fun i j p h1 _ _ _ => ?_, tb⟩
  · match i, h with
    | 0, h => cases h; exact ⟨some (.ref x), c, rfl, rfl, hf⟩
    | i + 1, h =>
      have h : (List.replicate ds.length Fl.im ++ List.replicate (N.length - (ds.length + 1)) Fl.dead)[i]? = some f := h
      by_cases hi : i < ds.length
      · rw [List.getElem?_append_left (by simpa using hi), List.getElem?_replicate, if_pos hi] at h
        cases h
        obtain ⟨v, e, rv⟩ := rpl_get r hi
        refine ⟨some v, ds[i], ?_, ?_, v, rfl, rv⟩
        · unfold L2.start
          rw [List.getElem?_append_left (by simp; omega), List.getElem?_map, List.getElem?_cons_succ, e]; rfl
        · show (ds ++ List.replicate (N.length - (ds.length + 1)) PyData.none)[i]? = _
          rw [List.getElem?_append_left hi]; exact List.getElem?_eq_getElem hi
      · rw [List.getElem?_append_right (by simpa using hi), List.getElem?_replicate] at h
        split at h
        · rename_i hlt
          cases h
          simp at hlt
          have a : i + 1 < (L2.start N (.ref x :: ws)).length := by rw [ls]; omega
          have b : i + 1 < ((c :: ds) ++ List.replicate (N.length - (ds.length + 1)) PyData.none).length := by simp; omega
          exact ⟨_, _, List.getElem?_eq_getElem a, List.getElem?_eq_getElem b, trivial⟩
        · cases h
  · match i, h1 with
    | 0, h => cases h; exact absurd rfl hw
    | i + 1, h => rcases phC_get h with z | z <;> cases z
/-! ### THE RULES for such defs -/
section
variable {P : Program} {w : World} {K : PySem.W.Frag} {mg : Str → Option Value} {base : Heap} {x qual : Str} {st : Stmt} {f : Addr} {fd : FuncData} {N ps : List Str} {k kk : Nat} {g : Rw → SR} {phn : List Fl}
theorem fn_read [T : Tb] (Fn : Fun K x qual st f fd) (S : FnScope N ps (defScope st)) (hk : ps.length = kk + 1)
    (hbody : ∀ (y : Addr) (cdv : Value) (A : Around) (outer : List PySem.Env) (s : Shared) (H : Hp) (E : XK), fd.code = cdv → Room k (A.deeper (PyProof.Rows.envOfC qual (defScope st) s.heap.objs.size f cdv)) →
      @DB (Tb.at fun _ => y) (cxOf (L2.CX P w) P w K mg base N qual (defScope st) f cdv A outer s H E) (fun c d _ H' => E c d H') ⟨[], [], [], none⟩ (phC (.cr 0) kk N.length) phn (defBody st) g) :
    FnOk P w K mg base (L2.CX P w) (k + 1) f fd ps (spR K mg kk (fnM (kk + 1) N.length g)) := by
  have hpl : ps.length ≤ N.length := by have := congrArg List.length S.pre; rw [List.length_take] at this; omega
  obtain ⟨oc, od, kV, doc, pm, an, cdv, ct, osl, rfl, lk, hcd⟩ := Fn.ex
  refine fn_of lk hcd S (fun vs H Q E h => ?_) (fun A outer s H vs Q E hr h => ?_)
  · obtain ⟨y, ws, F, ds, c, as, e, e1, _, _, _, r, _⟩ := h
    rw [e, List.length_cons, r.length, e1, hk]
  · obtain ⟨y, ws, F, ds, c, as, e, e1, sm, tb, ca, r, q⟩ := h
    subst e
    refine ⟨_, hbody y cdv A outer s H E rfl hr, ?_⟩
    subst e1
    have tb1 : @TbOk (@Tb.at T fun _ => y) F H := tb
    have n := @en_startC (@Tb.at T fun _ => y) K F H y ws c ds N (.cr 0) ⟨rfl, as, ca⟩ (by simp) sm tb1 r (by omega)
    have q : @Aft T _ mg (fun c d _ H' => E c d H') [] F H (endD (g ((c :: ds) ++ List.replicate (N.length - (ds.length + 1)) .none))) fun d F' H' => ∀ v, Rp K F' v d → Q v H' := by
      have : fnM (ds.length + 1) N.length g (c :: ds) = endD (g ((c :: ds) ++ List.replicate (N.length - (ds.length + 1)) .none)) := if_pos rfl
      rw [← this]; exact q
    refine ⟨F, H, F, _, @EnS.mk (@Tb.at T fun _ => y) _ _ _ _ _ _ _ _ n (@Step.refl (@Tb.at T fun _ => y) _ _ sm) (fun i p h1 h2 => ?_) ⟨fun _ => as, fun i k h => ?_, fun i k h => ?_⟩, ?_⟩
    · match i, h1 with
      | 0, h => cases h
      | i + 1, h => rcases phC_get h with z | z <;> cases z
    · match i, h with
      | 0, h => cases h
      | i + 1, h => rcases phC_get h with z | z <;> cases z
    · match i, h with
      | 0, h =>
        cases h
        exact ⟨ca, fun a ha z => by obtain ⟨_, o, e, _⟩ := ca.has a ha; rw [z] at e; cases e⟩
      | i + 1, h => rcases phC_get h with z | z <;> cases z
    · cases eg : g ((c :: ds) ++ List.replicate (N.length - (ds.length + 1)) PyData.none) with
      | nx r => rw [eg] at q; exact fun σ F' H' n' => q.ok (step_of (@EnS.st (@Tb.at T fun _ => y) _ _ _ _ _ _ _ _ n')) _ .non
      | rt d => rw [eg] at q; exact fun v F' H' s' r' => q.ok (step_of s') v r'
      | bk r => rw [eg] at q; exact False.elim q
      | ct r => rw [eg] at q; exact False.elim q
      | er e r =>
        rw [eg] at q
        cases e with
        | bad => exact q
        | exc nm => exact fun σ F' H' n' => q F' H' (step_of (@EnS.st (@Tb.at T fun _ => y) _ _ _ _ _ _ _ _ n'))
def endC : SR → RC
  | .nx rho => .ok (.none, look rho 0)
  | .rt (.tuple [d, c]) => .ok (d, c)
  | .er e rho => .error (e, look rho 0)
  | _ => .error (.bad, .none)
def fnC (k nn : Nat) (g : Rw → SR) : List PyData → RC := fun ds => if ds.length = k then endC (g (ds ++ List.replicate (nn - k) .none)) else .error (.bad, .none)
theorem EnS.out [Tb] {K : PySem.W.Frag} {F0 H0 F H : Hp} {ph : List Fl} {σ : L2.St} {rho : Rw} {i k : Nat} (n : EnS K F0 H0 ph F H σ rho) (h : ph[i]? = some (.cw k)) : ∃ as, CtAt Tb.cls K F H (Tb.root k) as (look rho i) ∧ ∀ a ∈ as, H0 a = none := by
  obtain ⟨ad, c, _⟩ := n.cw
  obtain ⟨c1, c2, _⟩ := c i k h
  exact ⟨_, c1, c2⟩
theorem fn_cart [T : Tb] (Fn : Fun K x qual st f fd) (S : FnScope N ps (defScope st)) (hk : ps.length = kk + 1) (hp : phn[0]? = some (.cw 0))
    (hbody : ∀ (y : Addr) (cdv : Value) (A : Around) (outer : List PySem.Env) (s : Shared) (H : Hp) (E : XK), fd.code = cdv → Room k (A.deeper (PyProof.Rows.envOfC qual (defScope st) s.heap.objs.size f cdv)) →
      @DB (Tb.at fun _ => y) (cxOf (L2.CX P w) P w K mg base N qual (defScope st) f cdv A outer s H E) (fun c d _ H' => E c d H') ⟨[], [], [.cw 0], some 0⟩ (phC (.cw 0) kk N.length) phn (defBody st) g) :
    FnOk P w K mg base (L2.CX P w) (k + 1) f fd ps (spC K mg kk (fnC (kk + 1) N.length g)) := by
  have hpl : ps.length ≤ N.length := by have := congrArg List.length S.pre; rw [List.length_take] at this; omega
  obtain ⟨oc, od, kV, doc, pm, an, cdv, ct, osl, rfl, lk, hcd⟩ := Fn.ex
  refine fn_of lk hcd S (fun vs H Q E h => ?_) (fun A outer s H vs Q E hr h => ?_)
  · obtain ⟨y, ws, F, ds, c, as, e, e1, _, _, _, r, _⟩ := h
    rw [e, List.length_cons, r.length, e1, hk]
  · obtain ⟨y, ws, F, ds, c, as, e, e1, sm, tb, ca, r, q⟩ := h
    subst e
    refine ⟨_, hbody y cdv A outer s H E rfl hr, ?_⟩
    subst e1
    have tb1 : @TbOk (@Tb.at T fun _ => y) F H := tb
    have n := @en_startC (@Tb.at T fun _ => y) K F H y ws c ds N (.cw 0) ⟨rfl, as, ca⟩ (by simp) sm tb1 r (by omega)
    have q : @CAft T K mg E F H y as Q (endC (g ((c :: ds) ++ List.replicate (N.length - (ds.length + 1)) .none))) := by
      have : fnC (ds.length + 1) N.length g (c :: ds) = endC (g ((c :: ds) ++ List.replicate (N.length - (ds.length + 1)) .none)) := if_pos rfl
      rw [← this]; exact q
    refine ⟨F, remA as H, F, _, @EnS.mk (@Tb.at T fun _ => y) _ _ _ _ _ _ _ _ n (@step_rem (@Tb.at T fun _ => y) _ _ _ sm tb1) (fun i p h1 h2 => ?_) ⟨fun _ => as, fun i k h => ?_, fun i k h => ?_⟩, ?_⟩
    · match i, h1 with
      | 0, h => cases h
      | i + 1, h => rcases phC_get h with z | z <;> cases z
    · match i, h with
      | 0, h =>
        cases h
        refine ⟨ca, fun a ha => rem_in ha, fun j p h1 h2 => ?_, fun j l h1 hj => ?_⟩
        · match j, h1 with
          | 0, h => cases h
          | j + 1, h => rcases phC_get h with z | z <;> cases z
        · match j, h1 with
          | 0, h => exact absurd rfl hj
          | j + 1, h => rcases phC_get h with z | z <;> cases z
      | i + 1, h => rcases phC_get h with z | z <;> cases z
    · match i, h with
      | 0, h => cases h
      | i + 1, h => rcases phC_get h with z | z <;> cases z
    · cases eg : g ((c :: ds) ++ List.replicate (N.length - (ds.length + 1)) PyData.none) with
      | nx r =>
        rw [eg] at q
        intro σ F' H' n'
        obtain ⟨bs, c1, c2⟩ := @EnS.out (@Tb.at T fun _ => y) _ _ _ _ _ _ _ _ _ _ n' hp
        exact q .non F' H' bs (step_of (@EnS.st (@Tb.at T fun _ => y) _ _ _ _ _ _ _ _ n')) .non c1 c2
      | rt d =>
        rw [eg] at q
        match d, q with
        | .tuple [d0, c'], q => exact ⟨d0, c', rfl, fun v F' H' bs s' r' c1 c2 => q v F' H' bs (step_of s') r' c1 c2⟩
        | .none, q => exact False.elim q
        | .bool _, q => exact False.elim q
        | .int _, q => exact False.elim q
        | .str _, q => exact False.elim q
        | .list _, q => exact False.elim q
        | .dict _, q => exact False.elim q
        | .tuple [], q => exact False.elim q
        | .tuple [_], q => exact False.elim q
        | .tuple (_ :: _ :: _ :: _), q => exact False.elim q
      | bk r => rw [eg] at q; exact False.elim q
      | ct r => rw [eg] at q; exact False.elim q
      | er e r =>
        rw [eg] at q
        cases e with
        | bad => exact q
        | exc nm =>
          intro σ F' H' n'
          obtain ⟨bs, c1, c2⟩ := @EnS.out (@Tb.at T fun _ => y) _ _ _ _ _ [.cw 0] _ _ 0 0 n' rfl
          exact q F' H' bs (step_of (@EnS.st (@Tb.at T fun _ => y) _ _ _ _ _ _ _ _ n')) c1 c2
end
end PD
/-! CTC: the thing is handed to a def that changes it. -/
namespace PD
open PySem L2
theorem CtAt.self {C : Addr} {K : PySem.W.Frag} {F H : Hp} {x : Addr} {as : List Addr} {d : PyData} (h : CtAt C K F H x as d) : x ∈ as := by cases h <;> exact List.mem_cons_self
theorem look_set_self {rho : Rw} {j : Nat} {d : PyData} (h : j < rho.length) : look (rho.set j d) j = d := by
  unfold look; rw [List.getD_eq_getElem?_getD, List.getElem?_set_self h]; rfl
theorem look_set_ne {rho : Rw} {i j : Nat} {d : PyData} (h : i ≠ j) : look (rho.set i d) j = look rho j := by
  unfold look; rw [List.getD_eq_getElem?_getD, List.getD_eq_getElem?_getD, List.getElem?_set_ne h]
/-- the addresses of the things -/
def AdOk [Tb] (K : PySem.W.Frag) (H0 : Hp) (ph : List Fl) (F H : Hp) (σ : L2.St) (rho : Rw) (ad : Nat → List Addr) : Prop :=
  (∀ i k, ph[i]? = some (.cw k) → CtAt Tb.cls K F H (Tb.root k) (ad k) (look rho i) ∧ (∀ a ∈ ad k, H0 a = none) ∧ (∀ (j : Nat) (p : Addr), ph[j]? = some .ow → σ[j]? = some (some (.ref p)) → p ∉ ad k) ∧ ∀ j l, ph[j]? = some (.cw l) → j ≠ i → ∀ a ∈ ad k, a ∉ ad l) ∧
  (∀ i k, ph[i]? = some (.cr k) → CtAt Tb.cls K F H (Tb.root k) (ad k) (look rho i) ∧ ∀ a ∈ ad k, H0 a ≠ none)
open Classical in
theorem EnS.called [Tb] {K : PySem.W.Frag} {F0 H0 F H F' H' : Hp} {ph : List Fl} {σ : L2.St} {rho : Rw} {j k : Nat} {ad : Nat → List Addr} {bs : List Addr} {c : PyData} (n : EnS K F0 H0 ph F H σ rho) (hj : ph[j]? = some (.cw k)) (A : AdOk K H0 ph F H σ rho ad)
    (s : Step F (remA (ad k) H) F' H') (ct : CtAt Tb.cls K F' H' (Tb.root k) bs c) (hn : ∀ a ∈ bs, remA (ad k) H a = none) : EnS K F0 H0 ph F' H' σ (rho.set j c) := by
  obtain ⟨cw, cr⟩ := A
  obtain ⟨c1, c2, c3, c4⟩ := cw j k hj
  have hl : j < rho.length := Nat.lt_of_lt_of_le (List.getElem?_eq_some_iff.mp hj).1 n.en.lr
  have keep : ∀ b o, H b = some o → b ∉ ad k → (∀ ps, o ≠ .tbl ps) → H' b = some o := fun b o h1 h2 h3 => s.h.k (by rw [rem_out h2]; exact h1) h3
  have keepF : ∀ b, F b = none → H b ≠ none → b ∉ ad k → F' b = none := fun b h1 h2 h3 => s.nw b h1 (by rw [rem_out h3]; exact h2)
  have tbr : TbOk F (remA (ad k) H) := tbOk_rem n.en.tb fun a ha => (c1.has a ha).2
  have bsH : ∀ a ∈ bs, ∀ o, H a = some o → a ∈ ad k := fun a ha o e => by
    rcases rem_none (hn a ha) with z | z
    · exact z
    · rw [z] at e; cases e
  have bs0 : ∀ a ∈ bs, H0 a = none := fun a ha => by
    rcases rem_none (hn a ha) with z | z
    · exact c2 a z
    · exact n.st.h.free z
  -- other things
  have oth : ∀ (i l : Nat), i ≠ j → ph[i]? = some (Fl.cw l) → l ≠ k := fun i l hi h z => by
    subst z
    exact c4 i l h hi _ c1.self c1.self
  have othr : ∀ (i l : Nat), ph[i]? = some (Fl.cr l) → l ≠ k := fun i l h z => by
    subst z
    exact (cr i l h).2 _ c1.self (c2 _ c1.self)
  have dis : ∀ (i l : Nat), i ≠ j → ph[i]? = some (Fl.cw l) → ∀ a ∈ ad l, a ∉ ad k := fun i l hi h a ha z => c4 i l h hi a z ha
  have disr : ∀ (i l : Nat), ph[i]? = some (Fl.cr l) → ∀ a ∈ ad l, a ∉ ad k := fun i l h a ha z => (cr i l h).2 a ha (c2 a z)
  have mv : ∀ {x : Addr} {as : List Addr} {d : PyData}, CtAt Tb.cls K F H x as d → (∀ a ∈ as, a ∉ ad k) → CtAt Tb.cls K F' H' x as d := fun {x as d} h hd => h.mono s.f fun a ha => by
    obtain ⟨e1, o, e2, e3⟩ := h.has a ha
    exact ⟨by rw [e2]; exact keep a o e2 (hd a ha) e3.1, keepF a e1 (by rw [e2]; simp) (hd a ha)⟩
  have st : Step F0 H0 F' H' := by
    refine ⟨n.st.f.trans s.f, s.fh, fun b o e => ?_, fun p h1 h2 => ?_, fun t => s.t tbr⟩
    · obtain ⟨o1, e1, e2⟩ := n.st.h b o e
      have nb : b ∉ ad k := fun z => by rw [c2 b z] at e; cases e
      obtain ⟨o2, e3, e4⟩ := s.h b o1 (by rw [rem_out nb]; exact e1)
      exact ⟨o2, e3, fun h => by have e5 := e2 h; subst e5; exact e4 h⟩
    · exact keepF p (n.st.nw p h1 h2) (n.st.h.has h2) fun z => h2 (c2 p z)
  obtain ⟨ad', a1, a2⟩ : ∃ ad' : Nat → List Addr, ad' k = bs ∧ ∀ l, l ≠ k → ad' l = ad l := ⟨fun l => if l = k then bs else ad l, if_pos rfl, fun l h => if_neg h⟩
  refine ⟨⟨s.fh, n.en.ls, by simpa using n.en.lr, fun i f hi => ?_, n.en.ap, s.t tbr⟩, st, n.on, ⟨ad', fun i l h => ?_, fun i l h => ?_⟩⟩
  · obtain ⟨sv, d, e1, e2, e3⟩ := n.en.sl i f hi
    by_cases hij : j = i
    · subst hij
      rw [hj] at hi; cases hi
      exact ⟨sv, c, e1, List.getElem?_set_self hl, e3.1, bs, ct⟩
    · refine ⟨sv, d, e1, by rw [List.getElem?_set_ne hij]; exact e2, ?_⟩
      cases f with
      | dead => trivial
      | im => obtain ⟨v, q1, q2⟩ := e3; exact ⟨v, q1, q2.mono s.f⟩
      | ow =>
        obtain ⟨p, o, q1, q2, q3, q4⟩ := e3
        subst q1
        have np := c3 i p hi e1
        exact ⟨p, o, rfl, keepF p q2 (by rw [q3]; simp) np, keep p o q3 np q4.nt.1, q4.mono s.f⟩
      | cr l =>
        have := mv (cr i l hi).1 (disr i l hi)
        rw [look_of e2] at this
        exact ⟨e3.1, _, this⟩
      | cw l =>
        have := mv (cw i l hi).1 (dis i l (Ne.symm hij) hi)
        rw [look_of e2] at this
        exact ⟨e3.1, _, this⟩
  · by_cases hij : j = i
    · subst hij
      rw [hj] at h; cases h
      refine ⟨by rw [a1, look_set_self hl]; exact ct, fun a ha => bs0 a (by rwa [a1] at ha), fun i p h1 h2 z => ?_, fun i l h1 hi a ha z => ?_⟩
      · rw [a1] at z
        obtain ⟨p', o, q1, _, q3, _⟩ := n.en.ow h1
        rw [h2] at q1; cases q1
        exact c3 i p h1 h2 (bsH p z o q3)
      · rw [a1] at ha
        rw [a2 l (oth i l hi h1)] at z
        obtain ⟨_, o, q2, _⟩ := (cw i l h1).1.has a z
        exact dis i l hi h1 a z (bsH a ha o q2)
    · have lk := oth i l (Ne.symm hij) h
      obtain ⟨d1, d2, d3, d4⟩ := cw i l h
      refine ⟨by rw [a2 l lk, look_set_ne hij]; exact mv d1 (dis i l (Ne.symm hij) h), fun a ha => d2 a (by rwa [a2 l lk] at ha), fun i' p h1 h2 z => d3 i' p h1 h2 (by rwa [a2 l lk] at z), fun i' l' h1 hi a ha z => ?_⟩
      rw [a2 l lk] at ha
      by_cases hl' : l' = k
      · rw [hl', a1] at z
        obtain ⟨_, o, q2, _⟩ := d1.has a ha
        exact dis i l (Ne.symm hij) h a ha (bsH a z o q2)
      · rw [a2 l' hl'] at z
        exact d4 i' l' h1 hi a ha z
  · have lk := othr i l h
    obtain ⟨d1, d2⟩ := cr i l h
    have hij : j ≠ i := fun z => by subst z; rw [hj] at h; cases h
    exact ⟨by rw [a2 l lk, look_set_ne hij]; exact mv d1 (disr i l h), fun a ha => d2 a (by rwa [a2 l lk] at ha)⟩
end PD
/-! CTD: reads of attributes, calls of methods, expressions that change the thing. -/
namespace PD
open PySem L2
section
variable {X : Cx} {CX : CXT} {k : Nat} {f C : Addr} {fd : FuncData} {ps : List Str} {sp : Sp} {E : L2.St → XK} {x m : Str} {p pos apos : Pos} {e o : Expr} {es : List Expr} {ta : TE} {t : TA}
/-! ### methods, exceptions by the slots -/
def tMethS (C : Addr) (m : Str) (sp : Sp) (E : L2.St → XK) (ta : TE) (t : TA) : TE := fun σ H Q => ta σ H fun x H1 => ∃ a dx fs, x = .ref a ∧ H1 a = some (.ins C dx fs) ∧ fs.lookup m = none ∧ t σ H1 fun vs H2 => sp (x :: vs) H2 Q (E σ)
theorem pe_methE {pl : Sem Bool} (he : PE X o ta) (c : Cls X.K C) (hm : Meth X.K C m f) (F : FnOk X.prog X.w X.K X.mg X.base CX k f fd ps sp) (hr : Room k X.A) (hb : Binds X.K fd ps []) (hx : ∀ σ, PassesAt CX X σ (E σ)) (ha : PA X (e :: es) t)
    (hst : starEach (e :: es) X.env = (false, eval e X.env) :: starEach es X.env := by rfl) (hpl : (backTo pos (starEach es X.env)).any (·.1) = false := by rfl)
    (ht : eval (.Call (.Attribute o m apos) (e :: es) [] pos) X.env = (do
      let ov ← eval o X.env
      standAt apos.atName
      let (f, first) ← holding [ov] (getMethod ov m pl)
      callWith pos f first (backTo pos (starEach (e :: es) X.env)) (backToKw pos (keywordEach [] X.env))) := by rfl) :
    PE X (.Call (.Attribute o m apos) (e :: es) [] pos) (tMethS C m sp E ta t) := by
  refine ⟨fun pins s σ H Q I h => ?_⟩
  refine PySem.W.methodCall_KW (pl := pl) (thn (he.run pins s σ H _ I h) fun u s1 w1 => ?_) ht
  obtain ⟨x, H1, I1, rx, a, dx, fs, ex, ea, l, q⟩ := w1
  subst ex
  obtain rfl : u = Value.ref a := rx
  refine getmeth_ok I1 ea c hm l ?_
  refine PySem.W.callWith_K (first := [.ref a]) (h₀ := X.base) I.ok.mod.kin hm.kp (thn (ha.run pos pins s1 σ H1 _ I1 q) fun us s2 w2 => ?_) hst hpl
  obtain ⟨vs, H2, I2, r, q2⟩ := w2
  exact ⟨I2.kIn, run_fnS (us := .ref a :: us) (vs := .ref a :: vs) F hr hb (hx σ) I2 (.cons rfl r) q2⟩
theorem pe_methE0 {pl : Sem Bool} (he : PE X o ta) (c : Cls X.K C) (hm : Meth X.K C m f) (F : FnOk X.prog X.w X.K X.mg X.base CX k f fd ps sp) (hr : Room k X.A) (hb : Binds X.K fd ps []) (hx : ∀ σ, PassesAt CX X σ (E σ))
    (ht : eval (.Call (.Attribute o m apos) [] [] pos) X.env = (do
      let ov ← eval o X.env
      standAt apos.atName
      let (f, first) ← holding [ov] (getMethod ov m pl)
      callWith pos f first (backTo pos (starEach [] X.env)) (backToKw pos (keywordEach [] X.env))) := by rfl) :
    PE X (.Call (.Attribute o m apos) [] [] pos) (tMethS C m sp E ta L2.tNil) := by
  refine ⟨fun pins s σ H Q I h => ?_⟩
  refine PySem.W.methodCall_KW (pl := pl) (thn (he.run pins s σ H _ I h) fun u s1 w1 => ?_) ht
  obtain ⟨x, H1, I1, rx, a, dx, fs, ex, ea, l, q⟩ := w1
  subst ex
  obtain rfl : u = Value.ref a := rx
  refine getmeth_ok I1 ea c hm l ?_
  exact PySem.W.callWith_K0 (first := [.ref a]) I1.kIn hm.kp (run_fnS (us := [.ref a]) (vs := [.ref a]) F hr hb (hx σ) I1 (.cons rfl .nil) q)
end
theorem FldsOk.getNone {K : PySem.W.Frag} {F H : Hp} {fs : List (Str × V)} {kvs : List (PyData × PyData)} {as : List Addr} {f : Str} (h : FldsOk K F H fs kvs as) (e : getC f kvs = none) : fs.lookup f = none := by
  induction h with
  | nil => rfl
  | @im g v d' fs kvs as r _ ih =>
    have e : (if f = g then some (PyData.tuple [d']) else getC f kvs) = none := e
    rw [lookup_step]
    by_cases hg : f = g
    · rw [if_pos hg] at e; cases e
    · rw [if_neg hg] at e ⊢; exact ih e
  | @ow g p xs ds fs kvs as h1 h2 r h3 _ ih =>
    have e : (if f = g then some (PyData.list ds) else getC f kvs) = none := e
    rw [lookup_step]
    by_cases hg : f = g
    · rw [if_pos hg] at e; cases e
    · rw [if_neg hg] at e ⊢; exact ih e
/-- a slot with a thing, to read or to write -/
def isCt (f : Fl) : Bool := match f with
  | .cr _ => true
  | .cw _ => true
  | _ => false
theorem En.ct [Tb] {K : PySem.W.Frag} {ph : List Fl} {F H : Hp} {σ : L2.St} {rho : Rw} {j : Nat} {f : Fl} (n : En K ph F H σ rho) (h : ph[j]? = some f) (hf : isCt f = true) : ∃ x as, σ[j]? = some (some (.ref x)) ∧ CtAt Tb.cls K F H x as (look rho j) := by
  obtain ⟨sv, d, h1, h2, h3⟩ := n.sl j f h
  rw [look_of h2]
  cases f with
  | cr k => obtain ⟨rfl, as, c⟩ := h3; exact ⟨_, as, h1, c⟩
  | cw k => obtain ⟨rfl, as, c⟩ := h3; exact ⟨_, as, h1, c⟩
  | _ => cases hf
section
variable {X : Cx} {W : WX} {ph : List Fl} {e : Expr} {es : List Expr} {pos p1 p2 : Pos} {gs : Rw → Rs (List PyData)} {s m : Str} {k : Nat} {f : Addr} {fd : FuncData} {ps : List Str} {kk : Nat}
/-- s.f of frozen things -/
def gFld (j : Nat) (f : Str) : Rw → Rs PyData := fun rho => match look rho j with
  | .dict kvs => (match getC f kvs with
    | some (.tuple [d]) => .ok d
    | _ => .error .bad)
  | _ => .error .bad
theorem de_fld [Tb] (j : Nat) {fl : Fl} {fn : Str} (c : Cls X.K Tb.cls) (hn : NoAttr X.K Tb.cls fn) (h : ph[j]? = some fl := by rfl) (hf : isCt fl = true := by rfl) (hN : X.N[j]? = some s := by rfl) (hv : Vis X.env.scope s := by first | exact Or.inl rfl | exact Or.inr (Or.inl rfl) | exact Or.inr (Or.inr rfl))
    (hd : (s == ("__debug__" : Str)) = false := by decide) (hcd : (s == ("__classdict__" : Str)) = false := by decide) (hb : attributeBase (.Name s p1) fn X.env (eval (.Name s p1) X.env) = eval (.Name s p1) X.env := by rfl) : DE X W ph (.Attribute (.Name s p1) fn pos) (gFld j fn) :=
  pe_imp (pe_fld (pe_var hN hv hd hcd) hb) fun σ H Q ⟨F, rho, n, q⟩ => by
    obtain ⟨x, as, e1, ct⟩ := n.ct h hf
    unfold gFld at q
    generalize hd : look rho j = d at q ct
    cases ct with
    | ins h1 h2 h3 h4 =>
      rename_i dx fs kvs bs
      have q : Aft X.mg W σ F H (match getC fn kvs with | some (.tuple [d]) => .ok d | _ => .error .bad) (fun d F' H' => ∀ v, Rp X.K F' v d → Q v H') := q
      cases eg : getC fn kvs with
      | none => rw [eg] at q; exact False.elim q
      | some z =>
        rw [eg] at q
        match z, q, eg with
        | .tuple [d], q, eg =>
          obtain ⟨v, l, r⟩ := h2.getIm eg
          exact ⟨.ref x, e1, x, Tb.cls, dx, fs, v, rfl, h1, c, hn, l, q.now n.fh v r⟩
        | .none, q, _ => exact False.elim q
        | .bool _, q, _ => exact False.elim q
        | .int _, q, _ => exact False.elim q
        | .str _, q, _ => exact False.elim q
        | .list _, q, _ => exact False.elim q
        | .dict _, q, _ => exact False.elim q
        | .tuple [], q, _ => exact False.elim q
        | .tuple (_ :: _ :: _), q, _ => exact False.elim q
    | dct h1 h2 h4 => exact False.elim q
/-- s.f, a list of its own, as a truth value -/
def gTrF (j : Nat) (f : Str) : Rw → Rs Bool := fun rho => match look rho j with
  | .dict kvs => (match getC f kvs with
    | some (.list ds) => .ok (!ds.isEmpty)
    | _ => .error .bad)
  | _ => .error .bad
theorem dt_fld [Tb] (j : Nat) {fl : Fl} {fn : Str} (c : Cls X.K Tb.cls) (hn : NoAttr X.K Tb.cls fn) (h : ph[j]? = some fl := by rfl) (hf : isCt fl = true := by rfl) (hN : X.N[j]? = some s := by rfl) (hv : Vis X.env.scope s := by first | exact Or.inl rfl | exact Or.inr (Or.inl rfl) | exact Or.inr (Or.inr rfl))
    (hd : (s == ("__debug__" : Str)) = false := by decide) (hcd : (s == ("__classdict__" : Str)) = false := by decide) (hb : attributeBase (.Name s p1) fn X.env (eval (.Name s p1) X.env) = eval (.Name s p1) X.env := by rfl)
    (he : ∀ whole, isTrue (.Attribute (.Name s p1) fn pos) X.env whole = (do let v ← whole; standAt (Expr.Attribute (.Name s p1) fn pos).pos; holding [v] (truthy v)) := by intro _; rfl) : DT X W ph (.Attribute (.Name s p1) fn pos) (gTrF j fn) :=
  pt_imp (pt_truth (pe_fld (pe_var hN hv hd hcd) hb) he) fun σ H Q ⟨F, rho, n, q⟩ => by
    obtain ⟨x, as, e1, ct⟩ := n.ct h hf
    unfold gTrF at q
    generalize hd : look rho j = d at q ct
    cases ct with
    | ins h1 h2 h3 h4 =>
      rename_i dx fs kvs bs
      have q : Aft X.mg W σ F H (match getC fn kvs with | some (.list ds) => .ok (!ds.isEmpty) | _ => .error .bad) (fun b _ H' => Q b H') := q
      cases eg : getC fn kvs with
      | none => rw [eg] at q; exact False.elim q
      | some z =>
        rw [eg] at q
        match z, q, eg with
        | .list ds, q, eg =>
          obtain ⟨pp, xs, l, _, hp, _, r, _⟩ := h2.getOw eg
          refine ⟨.ref x, e1, x, Tb.cls, dx, fs, .ref pp, rfl, h1, c, hn, l, !ds.isEmpty, ?_, q.now n.fh⟩
          exact .inl ⟨_, .of hp, rpl_empty r⟩
        | .none, q, _ => exact False.elim q
        | .bool _, q, _ => exact False.elim q
        | .int _, q, _ => exact False.elim q
        | .str _, q, _ => exact False.elim q
        | .tuple _, q, _ => exact False.elim q
        | .dict _, q, _ => exact False.elim q
    | dct h1 h2 h4 => exact False.elim q
/-- s.m(..) where m reads -/
def gMR (j : Nat) (nm : Str) (mm : List PyData → Rs PyData) (gs : Rw → Rs (List PyData)) : Rw → Rs PyData := fun rho => match look rho j with
  | .dict kvs => (match getC nm kvs with
    | none => gs rho >>= fun ds => mm (.dict kvs :: ds)
    | some _ => .error .bad)
  | _ => .error .bad
theorem mR_run [Tb] {mm : List PyData → Rs PyData} (j : Nat) {fl : Fl} (lm : LenM (kk + 1) mm) (h : ph[j]? = some fl) (hf : isCt fl = true) {t : TA} (hA : ∀ σ H Q, rA X.K X.mg W ph gs σ H Q → t σ H Q) : ∀ σ H Q, rE X.K X.mg W ph (gMR j m mm gs) σ H Q → tMethS Tb.cls m (spR X.K X.mg kk mm) (WE W) (tVar j) t σ H Q := fun σ H Q ⟨F, rho, n, q⟩ => by
  obtain ⟨x, as, e1, ct⟩ := n.ct h hf
  unfold gMR at q
  generalize hd : look rho j = d at q ct
  cases ct with
  | ins h1 h2 h3 h4 =>
    rename_i dx fs kvs bs
    have q : Aft X.mg W σ F H (match getC m kvs with | none => gs rho >>= fun ds => mm (.dict kvs :: ds) | some _ => .error .bad) (fun d F' H' => ∀ v, Rp X.K F' v d → Q v H') := q
    cases eg : getC m kvs with
    | some z => rw [eg] at q; exact False.elim q
    | none =>
      rw [eg] at q
      refine ⟨.ref x, e1, x, dx, fs, rfl, h1, h2.getNone eg, hA _ _ _ ⟨F, rho, n, q.bind fun ds F1 H1 s1 q1 vs rs => ?_⟩⟩
      by_cases hl : ds.length = kk
      · exact ⟨x, vs, F1, ds, _, _, rfl, hl, s1.fh, s1.t n.tb, (CtAt.ins h1 h2 h3 h4).step s1, rs, aft_w q1⟩
      · rw [lm _ (by simpa using hl)] at q1; exact False.elim q1
  | dct h1 h2 h4 => exact False.elim q
theorem de_meth [Tb] (j : Nat) {fl : Fl} {mm : List PyData → Rs PyData} {pl : Sem Bool} (c : Cls X.K Tb.cls) (hm : Meth X.K Tb.cls m f) (G : FnOk X.prog X.w X.K X.mg X.base (L2.CX X.prog X.w) k f fd ps (spR X.K X.mg kk mm)) (hr : Room k X.A) (hb : Binds X.K fd ps []) (lm : LenM (kk + 1) mm) (tk : Takes X W) (ha : DA X W ph (e :: es) gs)
    (h : ph[j]? = some fl := by rfl) (hf : isCt fl = true := by rfl) (hN : X.N[j]? = some s := by rfl) (hv : Vis X.env.scope s := by first | exact Or.inl rfl | exact Or.inr (Or.inl rfl) | exact Or.inr (Or.inr rfl))
    (hd : (s == ("__debug__" : Str)) = false := by decide) (hcd : (s == ("__classdict__" : Str)) = false := by decide) (hst : starEach (e :: es) X.env = (false, eval e X.env) :: starEach es X.env := by rfl) (hpl : (backTo pos (starEach es X.env)).any (·.1) = false := by rfl)
    (ht : eval (.Call (.Attribute (.Name s p1) m p2) (e :: es) [] pos) X.env = (do
      let ov ← eval (.Name s p1) X.env
      standAt p2.atName
      let (f, first) ← holding [ov] (getMethod ov m pl)
      callWith pos f first (backTo pos (starEach (e :: es) X.env)) (backToKw pos (keywordEach [] X.env))) := by rfl) : DE X W ph (.Call (.Attribute (.Name s p1) m p2) (e :: es) [] pos) (gMR j m mm gs) :=
  pe_imp (pe_methE (pl := pl) (pe_var hN hv hd hcd) c hm G hr hb (fun σ => passAt tk σ) ha hst hpl ht) (mR_run j lm h hf fun _ _ _ z => z)
theorem de_meth0 [Tb] (j : Nat) {fl : Fl} {mm : List PyData → Rs PyData} {pl : Sem Bool} (c : Cls X.K Tb.cls) (hm : Meth X.K Tb.cls m f) (G : FnOk X.prog X.w X.K X.mg X.base (L2.CX X.prog X.w) k f fd ps (spR X.K X.mg 0 mm)) (hr : Room k X.A) (hb : Binds X.K fd ps []) (lm : LenM 1 mm) (tk : Takes X W)
    (h : ph[j]? = some fl := by rfl) (hf : isCt fl = true := by rfl) (hN : X.N[j]? = some s := by rfl) (hv : Vis X.env.scope s := by first | exact Or.inl rfl | exact Or.inr (Or.inl rfl) | exact Or.inr (Or.inr rfl))
    (hd : (s == ("__debug__" : Str)) = false := by decide) (hcd : (s == ("__classdict__" : Str)) = false := by decide)
    (ht : eval (.Call (.Attribute (.Name s p1) m p2) [] [] pos) X.env = (do
      let ov ← eval (.Name s p1) X.env
      standAt p2.atName
      let (f, first) ← holding [ov] (getMethod ov m pl)
      callWith pos f first (backTo pos (starEach [] X.env)) (backToKw pos (keywordEach [] X.env))) := by rfl) : DE X W ph (.Call (.Attribute (.Name s p1) m p2) [] [] pos) (gMR j m mm gNil) :=
  pe_imp (pe_methE0 (pl := pl) (pe_var hN hv hd hcd) c hm G hr hb (fun σ => passAt tk σ) ht) (mR_run j lm h hf fun σ H Q ⟨F, rho, n, q⟩ => q.now n.fh _ .nil)
end
end PD
/-! CTE: statements that change the thing. -/
namespace PD
open PySem L2
theorem step_hide [Tb] {F H F1 H1 : Hp} {as : List Addr} (s : Step F H F1 H1) (t : TbOk F1 H1) : Step F (remA as H) F1 H1 :=
  ⟨s.f, s.fh, fun b o e => s.h b o (rem_some e).2, fun p h1 h2 => s.nw p h1 (by
    cases e : remA as H p with
    | none => exact absurd e h2
    | some o => rw [(rem_some e).2]; simp), fun _ => t⟩
theorem step_put [Tb] {F H F1 H1 : Hp} {as : List Addr} {a : Addr} {o : HO} (s : Step F (remA as H) F1 H1) (ha : a ∈ as) (hF : F1 a = none) (t : TbOk F1 (upd H1 a o)) : Step F (remA as H) F1 (upd H1 a o) :=
  ⟨s.f, fun b u z => by rw [upd_ne (ne_of_none z hF)]; exact s.fh _ _ z, fun b u e => by
    have nb : b ≠ a := fun z => (rem_some e).1 (z ▸ ha)
    rw [upd_ne nb]; exact s.h b u e, s.nw, fun _ => t⟩
theorem tbOk_put [Tb] {F H : Hp} {a : Addr} {o u : HO} (t : TbOk F H) (hu : H a = some u) (fu : Fresh u) (fo : Fresh o) : TbOk F (upd H a o) :=
  ⟨fun q hq => ⟨(t.1 q hq).1, tabS_upd (t.1 q hq).2 fun v e => by rw [hu] at e; cases e; exact ⟨fu.1, fu.2.1⟩⟩, tupIn_hid t.2 fo.2.2⟩
/-- the thing at a slot that may be written -/
theorem EnS.ad [Tb] {K : PySem.W.Frag} {F0 H0 F H : Hp} {ph : List Fl} {σ : L2.St} {rho : Rw} (n : EnS K F0 H0 ph F H σ rho) : ∃ ad, AdOk K H0 ph F H σ rho ad := n.cw
section
variable {X : Cx} {W : WX} {C : Ctl} {ph : List Fl} {e : Expr} {pos p1 p2 p3 p4 cpos : Pos} {ge : Rw → Rs PyData} {s fn gn : Str}
theorem cw_slot [Tb] {K : PySem.W.Frag} {F H : Hp} {σ : L2.St} {rho : Rw} {j k : Nat} (n : En K ph F H σ rho) (h : ph[j]? = some (.cw k)) : σ[j]? = some (some (.ref (Tb.root k))) := by
  obtain ⟨sv, d, h1, h2, h3⟩ := n.sl j _ h
  rw [h1, h3.1]
/-- s.f = e -/
def gPutF (j : Nat) (f : Str) (ge : Rw → Rs PyData) : Rw → SR := fun rho => thenS (ge rho) rho fun d => match look rho j with
  | .dict kvs => if kvs.length < 900 then .nx (rho.set j (.dict (putC f (.tuple [d]) kvs))) else .er .bad rho
  | _ => .er .bad rho
theorem flds_len {K : PySem.W.Frag} {F H : Hp} {fs : List (Str × V)} {kvs : List (PyData × PyData)} {as : List Addr} (h : FldsOk K F H fs kvs as) : fs.length = kvs.length := by
  induction h with
  | nil => rfl
  | im _ _ ih => simp [ih]
  | ow _ _ _ _ _ ih => simp [ih]
theorem ds_fldI [Tb] (j : Nat) {k : Nat} (c : Cls X.K Tb.cls) (hn : NoAttr X.K Tb.cls fn) (he : DE X W ph e ge) (h : ph[j]? = some (.cw k) := by rfl) (hN : X.N[j]? = some s := by rfl) (hv : Vis X.env.scope s := by first | exact Or.inl rfl | exact Or.inr (Or.inl rfl) | exact Or.inr (Or.inr rfl)) (w : wk ph C.e = true := by rfl)
    (hd : (s == ("__debug__" : Str)) = false := by decide) (hcd : (s == ("__classdict__" : Str)) = false := by decide) (hs : swapsWith e (some (.Attribute (.Name s p1) fn p2)) pos.line X.env = pure false := by rfl) : DS X W C ph ph (.Assign [.Attribute (.Name s p1) fn p2] e pos) (gPutF j fn ge) :=
  ps_imp (ps_fld (pe_var hN hv hd hcd) he hs) fun D σ H ⟨F0, H0, F, rho, n, q⟩ => ⟨F, rho, n.en, aft_then n w q fun d F1 H1 s1 q1 v r => by
    have n1 := n.step s1
    obtain ⟨ad, A⟩ := n1.ad
    have ct := (A.1 j k h).1
    refine ⟨.ref (Tb.root k), cw_slot n1.en h, ?_⟩
    generalize hdd : look rho j = dd at q1 ct
    generalize hk : ad k = as at ct
    cases ct with
    | ins h1 h2 h3 h4 =>
      rename_i dx fs kvs bs
      have q1 : SAft X.K X.mg W C F0 H0 ph D (if kvs.length < 900 then .nx (rho.set j (.dict (putC fn (.tuple [d]) kvs))) else .er .bad rho) := q1
      split at q1
      · rename_i hl
        refine ⟨Tb.root k, Tb.cls, dx, fs, rfl, h1, c, hn, by rw [flds_len h2]; omega, ?_⟩
        obtain ⟨cs, g1, g2⟩ := h2.putIm (f := fn) r
        have nx : ∀ a ∈ cs, a ≠ Tb.root k := fun a ha z => (List.nodup_cons.mp h3).1 (z ▸ g2.subset ha)
        have tb := tbOk_put n1.en.tb h1 (fresh_ins _ _ _) (fresh_ins Tb.cls dx (putF fn v fs))
        have st : Step F1 (remA (ad k) H1) F1 (upd H1 (Tb.root k) (.ins Tb.cls dx (putF fn v fs))) := step_put (step_hide (Step.refl n1.en.fh) n1.en.tb) (by rw [hk]; exact List.mem_cons_self) h4 tb
        refine q1 σ F1 _ (n1.called h A st (bs := Tb.root k :: cs) (CtAt.ins upd_same (g1.mono (Same.refl _) fun a ha => ⟨by rw [upd_ne (nx a ha)], (g1.has a ha).1⟩) (List.nodup_cons.mpr ⟨fun z => nx _ z rfl, g2.nodup (List.nodup_cons.mp h3).2⟩) h4) fun a ha => rem_in ?_)
        rw [hk]
        rcases List.mem_cons.mp ha with rfl | z
        · exact List.mem_cons_self
        · exact List.mem_cons_of_mem _ (g2.subset z)
      · exact False.elim q1
    | dct h1 h2 h4 => exact False.elim q1⟩
end
end PD
/-! CTF: a new list as an attribute. -/
namespace PD
open PySem L2
section
variable {X : Cx} {W : WX} {C : Ctl} {ph : List Fl} {e : Expr} {pos p1 p2 p3 p4 cpos : Pos} {ge : Rw → Rs PyData} {s fn gn : Str}
/-- s.f = a new list of its own -/
def gPutO (j : Nat) (f : Str) (ge : Rw → Rs PyData) : Rw → SR := fun rho => thenS (ge rho) rho fun d => match d, look rho j with
  | .list ds, .dict kvs => if kvs.length < 900 then .nx (rho.set j (.dict (putC f (.list ds) kvs))) else .er .bad rho
  | _, _ => .er .bad rho
theorem ds_fldO [Tb] (j : Nat) {k : Nat} (c : Cls X.K Tb.cls) (hn : NoAttr X.K Tb.cls fn) (he : DO X W ph e ge) (h : ph[j]? = some (.cw k) := by rfl) (hN : X.N[j]? = some s := by rfl) (hv : Vis X.env.scope s := by first | exact Or.inl rfl | exact Or.inr (Or.inl rfl) | exact Or.inr (Or.inr rfl)) (w : wk ph C.e = true := by rfl)
    (hd : (s == ("__debug__" : Str)) = false := by decide) (hcd : (s == ("__classdict__" : Str)) = false := by decide) (hs : swapsWith e (some (.Attribute (.Name s p1) fn p2)) pos.line X.env = pure false := by rfl) : DS X W C ph ph (.Assign [.Attribute (.Name s p1) fn p2] e pos) (gPutO j fn ge) :=
  ps_imp (ps_fld (pe_var hN hv hd hcd) he hs) fun D σ H ⟨F0, H0, F, rho, n, q⟩ => ⟨F, rho, n.en, aft_then n w q fun d F1 H1 s1 q1 qa o e0 e1 e2 ro => by
    have n1 := n.step s1
    obtain ⟨ad, A⟩ := n.ad
    have ct0 := (A.1 j k h).1
    have ct := ct0.step s1
    refine ⟨.ref (Tb.root k), cw_slot n1.en h, ?_⟩
    have nq : qa ∉ ad k := fun z => by
      obtain ⟨_, o', e, _⟩ := ct0.has qa z
      rw [e0] at e; cases e
    generalize hdd : look rho j = dd at q1 ct
    generalize hk : ad k = as at ct
    cases ct with
    | ins h1 h2 h3 h4 =>
      rename_i dx fs kvs bs
      cases d with
      | list ds =>
        cases o with
        | lst ys =>
          have q1 : SAft X.K X.mg W C F0 H0 ph D (if kvs.length < 900 then .nx (rho.set j (.dict (putC fn (.list ds) kvs))) else .er .bad rho) := q1
          split at q1
          · rename_i hl
            refine ⟨Tb.root k, Tb.cls, dx, fs, rfl, h1, c, hn, by rw [flds_len h2]; omega, ?_⟩
            obtain ⟨cs, g1, l, m, g2, g3⟩ := h2.putOw (f := fn) e2 ro.1 ro.2 e1
            rw [hk] at nq
            have nr : qa ≠ Tb.root k := fun z => nq (z ▸ List.mem_cons_self)
            have sub : ∀ a ∈ cs, a = qa ∨ a ∈ bs := fun a ha => by
              rw [g2] at ha
              rcases List.mem_append.mp ha with z | z
              · exact .inr (g3.subset (List.mem_append_left _ z))
              · rcases List.mem_cons.mp z with z | z
                · exact .inl z
                · exact .inr (g3.subset (List.mem_append_right _ z))
            have nx : ∀ a ∈ cs, a ≠ Tb.root k := fun a ha z => by
              rcases sub a ha with y | y
              · exact nr (y.symm.trans z)
              · exact (List.nodup_cons.mp h3).1 (z ▸ y)
            have ndc : cs.Nodup := by
              rw [g2]
              have nlm := g3.nodup (List.nodup_cons.mp h3).2
              have nin : qa ∉ l ++ m := fun z => nq (List.mem_cons_of_mem _ (g3.subset z))
              have pm : (l ++ qa :: m).Perm (qa :: (l ++ m)) := List.perm_middle
              exact pm.nodup_iff.mpr (List.nodup_cons.mpr ⟨nin, nlm⟩)
            have tb := tbOk_put n1.en.tb h1 (fresh_ins _ _ _) (fresh_ins Tb.cls dx (putF fn (.ref qa) fs))
            have st : Step F (remA (ad k) H) F1 (upd H1 (Tb.root k) (.ins Tb.cls dx (putF fn (.ref qa) fs))) := step_put (step_hide s1 n1.en.tb) (by rw [hk]; exact List.mem_cons_self) h4 tb
            refine q1 σ F1 _ (n.called h A st (bs := Tb.root k :: cs) (CtAt.ins upd_same (g1.mono (Same.refl _) fun a ha => ⟨by rw [upd_ne (nx a ha)], (g1.has a ha).1⟩) (List.nodup_cons.mpr ⟨fun z => nx _ z rfl, ndc⟩) h4) fun a ha => ?_)
            rcases List.mem_cons.mp ha with rfl | z
            · exact rem_in (by rw [hk]; exact List.mem_cons_self)
            · rcases sub a z with y | y
              · subst y; rw [rem_out (by rw [hk]; exact nq)]; exact e0
              · exact rem_in (by rw [hk]; exact List.mem_cons_of_mem _ y)
          · exact False.elim q1
        | _ => exact False.elim ro
      | _ => exact False.elim q1
    | dct h1 h2 h4 => cases d <;> exact False.elim q1⟩
end
end PD
/-! CTG: append, pop at a list that is an attribute. -/
namespace PD
open PySem L2
section
variable {X : Cx} {W : WX} {C : Ctl} {ph : List Fl} {e : Expr} {pos p1 p2 p3 p4 p5 cpos : Pos} {ge : Rw → Rs PyData} {s fn gn : Str}
theorem FldsOk.step [Tb] {K : PySem.W.Frag} {F H F1 H1 : Hp} {fs : List (Str × V)} {kvs : List (PyData × PyData)} {as : List Addr} (h : FldsOk K F H fs kvs as) (s1 : Step F H F1 H1) : FldsOk K F1 H1 fs kvs as := h.mono s1.f fun a ha => by
  obtain ⟨e1, xs, e2⟩ := h.has a ha
  exact ⟨by rw [e2]; exact s1.h.lst e2, s1.nw a e1 (by rw [e2]; simp)⟩
/-- s.f.append(e) -/
def gAppF (j : Nat) (f : Str) (ge : Rw → Rs PyData) : Rw → SR := fun rho => match look rho j with
  | .dict kvs => (match getC f kvs with
    | some (.list ds) => thenS (ge rho) rho fun d => if ds.length < sizeLine then .nx (rho.set j (.dict (putC f (.list (ds ++ [d])) kvs))) else .er .bad rho
    | _ => .er .bad rho)
  | _ => .er .bad rho
theorem ds_fldA [Tb] (j : Nat) {k : Nat} (c : Cls X.K Tb.cls) (hn : NoAttr X.K Tb.cls fn) (he : DE X W ph e ge) (h : ph[j]? = some (.cw k) := by rfl) (hN : X.N[j]? = some s := by rfl) (hv : Vis X.env.scope s := by first | exact Or.inl rfl | exact Or.inr (Or.inl rfl) | exact Or.inr (Or.inr rfl)) (w : wk ph C.e = true := by rfl)
    (hd : (s == ("__debug__" : Str)) = false := by decide) (hcd : (s == ("__classdict__" : Str)) = false := by decide) (hb : attributeBase (.Name s p1) fn X.env (eval (.Name s p1) X.env) = eval (.Name s p1) X.env := by rfl)
    (hbase : attributeBase (.Attribute (.Name s p1) fn p2) "append" X.env (eval (.Attribute (.Name s p1) fn p2) X.env) = eval (.Attribute (.Name s p1) fn p2) X.env := by rfl)
    (hfew : ((backTo cpos (starEach [e] X.env)).all (fun x => !x.1) && (backToKw cpos (keywordEach [] X.env)).all (fun x => x.1.isSome) && decide ([e].length + ([] : List Keyword).length + (if ([] : List Keyword).isEmpty then 0 else 1) < 30)) = true := by rfl)
    (hline : (p3.endLine == cpos.line) = true := by rfl) (hs : starEach [e] X.env = (false, eval e X.env) :: starEach [] X.env := by rfl) (hplain : (backTo cpos (starEach [] X.env)).any (·.1) = false := by rfl)
    (hsw : swapsWith (.Call (.Attribute (.Attribute (.Name s p1) fn p2) "append" p3) [e] [] cpos) none pos.line X.env = pure false := by rfl) : DS X W C ph ph (.Expr (.Call (.Attribute (.Attribute (.Name s p1) fn p2) "append" p3) [e] [] cpos) pos) (gAppF j fn ge) :=
  ps_imp (ps_expr (pe_bm PySem.F.plainAttrs_list PySem.F.slot_list_append PySem.F.type_list_append mt_append (pe_fld (pe_var hN hv hd hcd) hb) (L2.pa_cons he L2.pa_nil hs) hbase hfew hline hs hplain) hsw) fun D σ H ⟨F0, H0, F, rho, n, q⟩ => by
    obtain ⟨ad, A⟩ := n.ad
    have ct := (A.1 j k h).1
    unfold gAppF at q
    generalize hdd : look rho j = dd at q ct
    generalize hk : ad k = as at ct
    cases ct with
    | ins h1 h2 h3 h4 =>
      rename_i dx fs kvs bs
      have q : SAft X.K X.mg W C F0 H0 ph D (match getC fn kvs with | some (.list ds) => thenS (ge rho) rho fun d => if ds.length < sizeLine then .nx (rho.set j (.dict (putC fn (.list (ds ++ [d])) kvs))) else .er .bad rho | _ => .er .bad rho) := q
      cases eg : getC fn kvs with
      | none => rw [eg] at q; exact False.elim q
      | some z =>
        rw [eg] at q
        cases z with
        | list ds =>
          have q : SAft X.K X.mg W C F0 H0 ph D (thenS (ge rho) rho fun d => if ds.length < sizeLine then .nx (rho.set j (.dict (putC fn (.list (ds ++ [d])) kvs))) else .er .bad rho) := q
          obtain ⟨pp, xs, l, pin, hp, hz, r, fp⟩ := h2.getOw eg
          refine ⟨.ref (Tb.root k), cw_slot n.en h, Tb.root k, Tb.cls, dx, fs, .ref pp, rfl, h1, c, hn, l, .inl ⟨rfl, xs, .of hp⟩, F, rho, n.en, aft_then n w q fun d F1 H1 s1 q1 v rv => ?_⟩
          have n1 := n.step s1
          have hp1 := s1.h.lst hp
          have q1 : SAft X.K X.mg W C F0 H0 ph D (if ds.length < sizeLine then .nx (rho.set j (.dict (putC fn (.list (ds ++ [d])) kvs))) else .er .bad rho) := q1
          split at q1
          · rename_i hlt
            refine ⟨pp, xs, v, rfl, rfl, hp1, by rw [r.length]; exact hlt, ?_⟩
            have g := (h2.step s1).mutL (f := fn) (p := pp) (ys := xs ++ [v]) (es := ds ++ [d]) (List.nodup_cons.mp h3).2 eg l (by simp; rw [r.length]; exact hlt) ((r.mono s1.f).append (.one rv)) pin
            have np : Tb.root k ≠ pp := fun z => (List.nodup_cons.mp h3).1 (z ▸ pin)
            have h11 : H1 (Tb.root k) = some (.ins Tb.cls dx fs) := s1.h.k h1 (fresh_ins _ _ _).1
            have fp1 : F1 pp = none := s1.nw pp fp (by rw [hp]; simp)
            have fr1 : F1 (Tb.root k) = none := s1.nw _ h4 (by rw [h1]; simp)
            have tb := tbOk_put n1.en.tb hp1 (fresh_lst _) (fresh_lst (xs ++ [v]))
            have st : Step F (remA (ad k) H) F1 (upd H1 pp (.lst (xs ++ [v]))) := step_put (step_hide s1 n1.en.tb) (by rw [hk]; exact List.mem_cons_of_mem _ pin) fp1 tb
            exact q1 σ F1 _ (n.called h A st (bs := Tb.root k :: bs) (CtAt.ins (by rw [upd_ne np]; exact h11) g h3 fr1) fun a ha => rem_in (by rw [hk]; exact ha))
          · exact False.elim q1
        | _ => exact False.elim q
    | dct h1 h2 h4 => exact False.elim q
/-- s.g = s.f.pop() -/
def gPopF (j : Nat) (f g : Str) : Rw → SR := fun rho => match look rho j with
  | .dict kvs => (match getC f kvs with
    | some (.list ds) => (match ds.getLast? with
      | some d => if kvs.length < 900 then .nx (rho.set j (.dict (putC g (.tuple [d]) (putC f (.list ds.dropLast) kvs)))) else .er .bad rho
      | none => .er .bad rho)
    | _ => .er .bad rho)
  | _ => .er .bad rho
theorem RpL.dropLast {K : PySem.W.Frag} {F : Hp} {vs : List V} {ds : List PyData} (h : RpL K F vs ds) : RpL K F vs.dropLast ds.dropLast := by
  rw [List.dropLast_eq_take, List.dropLast_eq_take, h.length]; exact h.take _
theorem putC_len (f : Str) (d : PyData) : ∀ kvs : List (PyData × PyData), (putC f d kvs).length ≤ kvs.length + 1
  | [] => Nat.le_refl _
  | (k, e) :: r => by
    have ih := putC_len f d r
    unfold putC
    split
    · split
      · simp
      · simp; exact ih
    · simp; exact ih
theorem ds_fldP [Tb] (j : Nat) {k : Nat} (c : Cls X.K Tb.cls) (hn : NoAttr X.K Tb.cls fn) (hng : NoAttr X.K Tb.cls gn) (h : ph[j]? = some (.cw k) := by rfl) (hN : X.N[j]? = some s := by rfl) (hv : Vis X.env.scope s := by first | exact Or.inl rfl | exact Or.inr (Or.inl rfl) | exact Or.inr (Or.inr rfl))
    (hd : (s == ("__debug__" : Str)) = false := by decide) (hcd : (s == ("__classdict__" : Str)) = false := by decide) (hb : attributeBase (.Name s p1) fn X.env (eval (.Name s p1) X.env) = eval (.Name s p1) X.env := by rfl)
    (hbase : attributeBase (.Attribute (.Name s p1) fn p2) "pop" X.env (eval (.Attribute (.Name s p1) fn p2) X.env) = eval (.Attribute (.Name s p1) fn p2) X.env := by rfl) (hline : (p3.endLine == cpos.line) = true := by rfl)
    (hs : swapsWith (.Call (.Attribute (.Attribute (.Name s p1) fn p2) "pop" p3) [] [] cpos) (some (.Attribute (.Name s p4) gn p5)) pos.line X.env = pure false := by rfl) : DS X W C ph ph (.Assign [.Attribute (.Name s p4) gn p5] (.Call (.Attribute (.Attribute (.Name s p1) fn p2) "pop" p3) [] [] cpos) pos) (gPopF j fn gn) :=
  ps_imp (ps_fld (pe_var hN hv hd hcd) (pe_bm0 PySem.F.plainAttrs_list PySem.F.slot_list_pop PySem.F.type_list_pop mt_pop (pe_fld (pe_var hN hv hd hcd) hb) hbase hline) hs) fun D σ H ⟨F0, H0, F, rho, n, q⟩ => by
    obtain ⟨ad, A⟩ := n.ad
    have ct := (A.1 j k h).1
    unfold gPopF at q
    generalize hdd : look rho j = dd at q ct
    generalize hk : ad k = as at ct
    cases ct with
    | ins h1 h2 h3 h4 =>
      rename_i dx fs kvs bs
      have q : SAft X.K X.mg W C F0 H0 ph D (match getC fn kvs with | some (.list ds) => (match ds.getLast? with | some d => if kvs.length < 900 then .nx (rho.set j (.dict (putC gn (.tuple [d]) (putC fn (.list ds.dropLast) kvs)))) else .er .bad rho | none => .er .bad rho) | _ => .er .bad rho) := q
      cases eg : getC fn kvs with
      | none => rw [eg] at q; exact False.elim q
      | some z =>
        rw [eg] at q
        cases z with
        | list ds =>
          have q : SAft X.K X.mg W C F0 H0 ph D (match ds.getLast? with | some d => if kvs.length < 900 then .nx (rho.set j (.dict (putC gn (.tuple [d]) (putC fn (.list ds.dropLast) kvs)))) else .er .bad rho | none => .er .bad rho) := q
          cases el : ds.getLast? with
          | none => rw [el] at q; exact False.elim q
          | some d =>
            rw [el] at q
            have q : SAft X.K X.mg W C F0 H0 ph D (if kvs.length < 900 then .nx (rho.set j (.dict (putC gn (.tuple [d]) (putC fn (.list ds.dropLast) kvs)))) else .er .bad rho) := q
            split at q
            · rename_i hlt
              obtain ⟨pp, xs, l, pin, hp, hz, r, fp⟩ := h2.getOw eg
              obtain ⟨y, hy, ry⟩ := r.get (i := ds.length - 1) (d := d) (by rw [← List.getLast?_eq_getElem?]; exact el)
              have np : Tb.root k ≠ pp := fun z => (List.nodup_cons.mp h3).1 (z ▸ pin)
              refine ⟨.ref (Tb.root k), cw_slot n.en h, Tb.root k, Tb.cls, dx, fs, .ref pp, rfl, h1, c, hn, l, .inl ⟨rfl, xs, .of hp⟩, pp, xs, y, rfl, rfl, hp, by rw [r.length]; exact hy, ?_⟩
              have h11 : upd H pp (.lst xs.dropLast) (Tb.root k) = some (.ins Tb.cls dx fs) := by rw [upd_ne np]; exact h1
              refine ⟨.ref (Tb.root k), cw_slot n.en h, Tb.root k, Tb.cls, dx, fs, rfl, h11, c, hng, by rw [flds_len h2]; omega, ?_⟩
              have g := h2.mutL (f := fn) (p := pp) (ys := xs.dropLast) (es := ds.dropLast) (List.nodup_cons.mp h3).2 eg l (by simp; omega) r.dropLast pin
              obtain ⟨cs, g1, g2⟩ := g.putIm (f := gn) ry
              have nx : ∀ a ∈ cs, a ≠ Tb.root k := fun a ha z => (List.nodup_cons.mp h3).1 (z ▸ g2.subset ha)
              have t1 := tbOk_put n.en.tb hp (fresh_lst _) (fresh_lst xs.dropLast)
              have t2 := tbOk_put t1 h11 (fresh_ins _ _ _) (fresh_ins Tb.cls dx (putF gn y fs))
              have s1 : Step F (remA (ad k) H) F (upd H pp (.lst xs.dropLast)) := step_put (step_hide (Step.refl n.en.fh) n.en.tb) (by rw [hk]; exact List.mem_cons_of_mem _ pin) fp t1
              have s2 : Step F (remA (ad k) H) F (upd (upd H pp (.lst xs.dropLast)) (Tb.root k) (.ins Tb.cls dx (putF gn y fs))) := step_put s1 (by rw [hk]; exact List.mem_cons_self) h4 t2
              refine q σ F _ (n.called h A s2 (bs := Tb.root k :: cs) (CtAt.ins upd_same (g1.mono (Same.refl _) fun a ha => ⟨by rw [upd_ne (nx a ha)], (g1.has a ha).1⟩) (List.nodup_cons.mpr ⟨fun z => nx _ z rfl, g2.nodup (List.nodup_cons.mp h3).2⟩) h4) fun a ha => rem_in ?_)
              rw [hk]
              rcases List.mem_cons.mp ha with rfl | z
              · exact List.mem_cons_self
              · exact List.mem_cons_of_mem _ (g2.subset z)
            · exact False.elim q
        | _ => exact False.elim q
    | dct h1 h2 h4 => exact False.elim q
end
end PD
/-! CTH: expressions that change the thing. -/
namespace PD
open PySem L2
inductive RX (a : Type) where
  | ok (d : a) (rho : Rw)
  | er (e : Er) (rho : Rw)
def XAft [Tb] {a : Type} (K : PySem.W.Frag) (mg : Str → Option Value) (W : WX) (ph : List Fl) (F0 H0 : Hp) (σ : L2.St) (Z : a → Hp → Hp → Prop) : RX a → Prop
  | .ok d r => ∀ F H, EnS K F0 H0 ph F H σ r → Z d F H
  | .er (.exc n) r => ∀ F H, EnS K F0 H0 ph F H σ r → W (clsOf mg n) none σ H
  | .er .bad _ => False
def rX [Tb] (K : PySem.W.Frag) (mg : Str → Option Value) (W : WX) (ph : List Fl) (g : Rw → RX PyData) : TE := fun σ H Q => ∃ F0 H0 F rho, EnS K F0 H0 ph F H σ rho ∧ XAft K mg W ph F0 H0 σ (fun d F' H' => ∀ v, Rp K F' v d → Q v H') (g rho)
def rXT [Tb] (K : PySem.W.Frag) (mg : Str → Option Value) (W : WX) (ph : List Fl) (g : Rw → RX Bool) : TT := fun σ H Q => ∃ F0 H0 F rho, EnS K F0 H0 ph F H σ rho ∧ XAft K mg W ph F0 H0 σ (fun b _ H' => Q b H') (g rho)
abbrev DX [Tb] (X : Cx) (W : WX) (ph : List Fl) (e : Expr) (g : Rw → RX PyData) : Prop := PE X e (rX X.K X.mg W ph g)
abbrev DXT [Tb] (X : Cx) (W : WX) (ph : List Fl) (e : Expr) (g : Rw → RX Bool) : Prop := PT X e (rXT X.K X.mg W ph g)
abbrev DXW [Tb] (X : Cx) (W : WX) (ph : List Fl) (e : Expr) (g : Rw → RX Bool) : Prop := PW X e (rXT X.K X.mg W ph g)
/-- a result, by the slots as they are -/
def xOf {a : Type} (rho : Rw) : Rs a → RX a
  | .ok d => .ok d rho
  | .error e => .er e rho
def xBind {a b : Type} : RX a → (a → Rw → RX b) → RX b
  | .ok d r, k => k d r
  | .er e r, _ => .er e r
section
variable {X : Cx} {W : WX} {C : Ctl} {ph phn : List Fl} {e a b : Expr} {es : List Expr} {pos p1 p2 p : Pos} {ge gb : Rw → Rs PyData} {gs : Rw → Rs (List PyData)} {gx gy : Rw → RX PyData} {s m x : Str} {k : Nat} {f : Addr} {fd : FuncData} {ps : List Str} {kk : Nat}
theorem xAft_of [Tb] {α : Type} {F0 H0 F H : Hp} {σ : L2.St} {rho : Rw} {r : Rs α} {Z : α → Hp → Hp → Prop} (n : EnS X.K F0 H0 ph F H σ rho) (q : XAft X.K X.mg W ph F0 H0 σ Z (xOf rho r)) : Aft X.mg W σ F H r Z := by
  cases r with
  | ok d => exact fun F' H' st => q F' H' (n.step st)
  | error er =>
    cases er with
    | bad => exact q
    | exc nm => exact fun F' H' st => q F' H' (n.step st)
/-- .. then what comes behind -/
theorem xAft_then [Tb] {α β : Type} {F0 H0 F H : Hp} {σ : L2.St} {rho : Rw} {r : Rs α} {kf : α → RX β} {Z : β → Hp → Hp → Prop} {Z' : α → Hp → Hp → Prop} (n : EnS X.K F0 H0 ph F H σ rho) (q : XAft X.K X.mg W ph F0 H0 σ Z (xBind (xOf rho r) fun d _ => kf d))
    (hz : ∀ d F1 H1, Step F H F1 H1 → XAft X.K X.mg W ph F0 H0 σ Z (kf d) → Z' d F1 H1) : Aft X.mg W σ F H r Z' := by
  cases r with
  | ok d => exact fun F' H' st => hz d F' H' st q
  | error er =>
    cases er with
    | bad => exact q
    | exc nm => exact fun F' H' st => q F' H' (n.step st)
theorem xAft_bind [Tb] {α β : Type} {F0 H0 : Hp} {σ : L2.St} {r : RX α} {kf : α → Rw → RX β} {Z : β → Hp → Hp → Prop} {Z' : α → Hp → Hp → Prop} (q : XAft X.K X.mg W ph F0 H0 σ Z (xBind r kf))
    (hz : ∀ d rho F1 H1, EnS X.K F0 H0 ph F1 H1 σ rho → XAft X.K X.mg W ph F0 H0 σ Z (kf d rho) → Z' d F1 H1) : XAft X.K X.mg W ph F0 H0 σ Z' r := by
  cases r with
  | ok d rho => exact fun F H n => hz d rho F H n q
  | er er rho =>
    cases er with
    | bad => exact q
    | exc nm => exact q
theorem dx_of [Tb] (h : DE X W ph e ge) : DX X W ph e (fun rho => xOf rho (ge rho)) := pe_imp h fun σ H Q ⟨F0, H0, F, rho, n, q⟩ => ⟨F, rho, n.en, xAft_of n q⟩
/-! ### calls -/
/-- the promise kept: the thing with its new content -/
def outC (j : Nat) (rho : Rw) : RC → RX PyData
  | .ok (d, c) => .ok d (rho.set j c)
  | .error (e, c) => .er e (rho.set j c)
theorem called_aft [Tb] {F0 H0 F H : Hp} {σ : L2.St} {rho : Rw} {j kr : Nat} {ad : Nat → List Addr} {Q : VK} {z : RC} (n : EnS X.K F0 H0 ph F H σ rho) (h : ph[j]? = some (.cw kr)) (A : AdOk X.K H0 ph F H σ rho ad) (q : XAft X.K X.mg W ph F0 H0 σ (fun d F' H' => ∀ v, Rp X.K F' v d → Q v H') (outC j rho z)) :
    CAft X.K X.mg (WE W σ) F H (Tb.root kr) (ad kr) Q z := by
  cases z with
  | ok y => obtain ⟨d, c⟩ := y; exact fun v F' H' bs st r ct hn => q F' H' (n.called h A st ct hn) v r
  | error y =>
    obtain ⟨er, c⟩ := y
    cases er with
    | bad => exact q
    | exc nm => exact fun F' H' bs st ct hn => q F' H' (n.called h A st ct hn)
def LenC (nn : Nat) (m : List PyData → RC) : Prop := ∀ ds, ds.length ≠ nn → m ds = .error (.bad, .none)
theorem fnC_len (k nn : Nat) (g : Rw → SR) : LenC k (fnC k nn g) := fun ds h => if_neg h
def gMC (j : Nat) (nm : Str) (mm : List PyData → RC) (gs : Rw → Rs (List PyData)) : Rw → RX PyData := fun rho => match look rho j with
  | .dict kvs => (match getC nm kvs with
    | none => xBind (xOf rho (gs rho)) fun ds _ => outC j rho (mm (.dict kvs :: ds))
    | some _ => .er .bad rho)
  | _ => .er .bad rho
theorem mC_run [Tb] {mm : List PyData → RC} (j : Nat) {kr : Nat} (lm : LenC (kk + 1) mm) (h : ph[j]? = some (.cw kr)) {t : TA} (hA : ∀ σ H Q, rA X.K X.mg W ph gs σ H Q → t σ H Q) : ∀ σ H Q, rX X.K X.mg W ph (gMC j m mm gs) σ H Q → tMethS Tb.cls m (spC X.K X.mg kk mm) (WE W) (tVar j) t σ H Q := fun σ H Q ⟨F0, H0, F, rho, n, q⟩ => by
  obtain ⟨ad0, A0⟩ := n.ad
  have ct := (A0.1 j kr h).1
  unfold gMC at q
  generalize hd : look rho j = d at q ct
  generalize hk : ad0 kr = as at ct
  cases ct with
  | ins h1 h2 h3 h4 =>
    rename_i dx fs kvs bs
    have q : XAft X.K X.mg W ph F0 H0 σ (fun d F' H' => ∀ v, Rp X.K F' v d → Q v H') (match getC m kvs with | none => xBind (xOf rho (gs rho)) fun ds _ => outC j rho (mm (.dict kvs :: ds)) | some _ => .er .bad rho) := q
    cases eg : getC m kvs with
    | some z => rw [eg] at q; exact False.elim q
    | none =>
      rw [eg] at q
      refine ⟨.ref (Tb.root kr), cw_slot n.en h, Tb.root kr, dx, fs, rfl, h1, h2.getNone eg, hA _ _ _ ⟨F, rho, n.en, xAft_then n q fun ds F1 H1 s1 q1 vs rs => ?_⟩⟩
      have n1 := n.step s1
      obtain ⟨ad, A⟩ := n1.ad
      have c1 := (A.1 j kr h).1
      rw [hd] at c1
      by_cases hl : ds.length = kk
      · exact ⟨Tb.root kr, vs, F1, ds, _, ad kr, rfl, hl, s1.fh, n1.en.tb, c1, rs, called_aft n1 h A q1⟩
      · rw [lm _ (by simpa using hl)] at q1; exact False.elim q1
  | dct h1 h2 h4 => exact False.elim q
theorem dx_meth [Tb] (j : Nat) {kr : Nat} {mm : List PyData → RC} {pl : Sem Bool} (c : Cls X.K Tb.cls) (hm : Meth X.K Tb.cls m f) (G : FnOk X.prog X.w X.K X.mg X.base (L2.CX X.prog X.w) k f fd ps (spC X.K X.mg kk mm)) (hr : Room k X.A) (hb : Binds X.K fd ps []) (lm : LenC (kk + 1) mm) (tk : Takes X W) (ha : DA X W ph (e :: es) gs)
    (h : ph[j]? = some (.cw kr) := by rfl) (hN : X.N[j]? = some s := by rfl) (hv : Vis X.env.scope s := by first | exact Or.inl rfl | exact Or.inr (Or.inl rfl) | exact Or.inr (Or.inr rfl))
    (hd : (s == ("__debug__" : Str)) = false := by decide) (hcd : (s == ("__classdict__" : Str)) = false := by decide) (hst : starEach (e :: es) X.env = (false, eval e X.env) :: starEach es X.env := by rfl) (hpl : (backTo pos (starEach es X.env)).any (·.1) = false := by rfl)
    (ht : eval (.Call (.Attribute (.Name s p1) m p2) (e :: es) [] pos) X.env = (do
      let ov ← eval (.Name s p1) X.env
      standAt p2.atName
      let (f, first) ← holding [ov] (getMethod ov m pl)
      callWith pos f first (backTo pos (starEach (e :: es) X.env)) (backToKw pos (keywordEach [] X.env))) := by rfl) : DX X W ph (.Call (.Attribute (.Name s p1) m p2) (e :: es) [] pos) (gMC j m mm gs) :=
  pe_imp (pe_methE (pl := pl) (pe_var hN hv hd hcd) c hm G hr hb (fun σ => passAt tk σ) ha hst hpl ht) (mC_run j lm h fun _ _ _ z => z)
theorem dx_meth0 [Tb] (j : Nat) {kr : Nat} {mm : List PyData → RC} {pl : Sem Bool} (c : Cls X.K Tb.cls) (hm : Meth X.K Tb.cls m f) (G : FnOk X.prog X.w X.K X.mg X.base (L2.CX X.prog X.w) k f fd ps (spC X.K X.mg 0 mm)) (hr : Room k X.A) (hb : Binds X.K fd ps []) (lm : LenC 1 mm) (tk : Takes X W)
    (h : ph[j]? = some (.cw kr) := by rfl) (hN : X.N[j]? = some s := by rfl) (hv : Vis X.env.scope s := by first | exact Or.inl rfl | exact Or.inr (Or.inl rfl) | exact Or.inr (Or.inr rfl))
    (hd : (s == ("__debug__" : Str)) = false := by decide) (hcd : (s == ("__classdict__" : Str)) = false := by decide)
    (ht : eval (.Call (.Attribute (.Name s p1) m p2) [] [] pos) X.env = (do
      let ov ← eval (.Name s p1) X.env
      standAt p2.atName
      let (f, first) ← holding [ov] (getMethod ov m pl)
      callWith pos f first (backTo pos (starEach [] X.env)) (backToKw pos (keywordEach [] X.env))) := by rfl) : DX X W ph (.Call (.Attribute (.Name s p1) m p2) [] [] pos) (gMC j m mm gNil) :=
  pe_imp (pe_methE0 (pl := pl) (pe_var hN hv hd hcd) c hm G hr hb (fun σ => passAt tk σ) ht) (mC_run j lm h fun σ H Q ⟨F, rho, n, q⟩ => q.now n.fh _ .nil)
/-- f(s, ..) -/
def gFC (j : Nat) (mm : List PyData → RC) (gs : Rw → Rs (List PyData)) : Rw → RX PyData := fun rho => xBind (xOf rho (gs rho)) fun ds _ => outC j rho (mm (look rho j :: ds))
theorem dx_fn [Tb] (j : Nat) {kr : Nat} {mm : List PyData → RC} (G : FnOk X.prog X.w X.K X.mg X.base (L2.CX X.prog X.w) k f fd ps (spC X.K X.mg kk mm)) (hr : Room k X.A) (hm : X.mg x = some (.ref f)) (hk : PySem.W.keepIn X.K (.ref f) = true) (hb : Binds X.K fd ps []) (lm : LenC (kk + 1) mm) (tk : Takes X W) (ha : DA X W ph es gs)
    (h : ph[j]? = some (.cw kr) := by rfl) (hN : X.N[j]? = some s := by rfl) (hv : Vis X.env.scope s := by first | exact Or.inl rfl | exact Or.inr (Or.inl rfl) | exact Or.inr (Or.inr rfl))
    (hd : (s == ("__debug__" : Str)) = false := by decide) (hcd : (s == ("__classdict__" : Str)) = false := by decide) (hg : Gl X x := by rfl) (hdb : (x == ("__debug__" : Str)) = false := by decide)
    (he : starEach (.Name s p1 :: es) X.env = (false, eval (.Name s p1) X.env) :: starEach es X.env := by rfl) (hpl : (backTo pos (starEach es X.env)).any (·.1) = false := by rfl) : DX X W ph (.Call (.Name x p) (.Name s p1 :: es) [] pos) (gFC j mm gs) :=
  pe_imp (pe_callS G hr hg hm hk hb (fun σ => passAt tk σ) (L2.pa_cons (pe_var hN hv hd hcd) ha he) hdb he hpl) fun σ H Q ⟨F0, H0, F, rho, n, q⟩ => by
    refine ⟨.ref (Tb.root kr), cw_slot n.en h, F, rho, n.en, xAft_then n q fun ds F1 H1 s1 q1 vs rs => ?_⟩
    have n1 := n.step s1
    obtain ⟨ad, A⟩ := n1.ad
    have c1 := (A.1 j kr h).1
    by_cases hl : ds.length = kk
    · exact ⟨Tb.root kr, vs, F1, ds, _, ad kr, rfl, hl, s1.fh, n1.en.tb, c1, rs, called_aft n1 h A q1⟩
    · rw [lm _ (by simpa using hl)] at q1; exact False.elim q1
end
end PD
/-! CTI: statements and tests with such expressions. -/
namespace PD
open PySem L2
def xS {a : Type} : RX a → (a → Rw → SR) → SR
  | .ok d r, k => k d r
  | .er e r, _ => .er e r
section
variable {X : Cx} {W : WX} {C : Ctl} {ph phn : List Fl} {e a b c : Expr} {rest : List Expr} {pos p1 p2 p : Pos} {ge gb : Rw → Rs PyData} {gx gy : Rw → RX PyData} {tx : Rw → RX Bool} {tb : Rw → Rs Bool} {g1 g2 : Rw → SR} {o : PyData → PyData → Option PyData}
theorem saft_x [Tb] {α : Type} {F0 H0 : Hp} {σ : L2.St} {D : Ends} {r : RX α} {kf : α → Rw → SR} {Z : α → Hp → Hp → Prop} (w : wk ph C.e = true) (q : SAft X.K X.mg W C F0 H0 phn D (xS r kf))
    (hz : ∀ d rho F1 H1, EnS X.K F0 H0 ph F1 H1 σ rho → SAft X.K X.mg W C F0 H0 phn D (kf d rho) → Z d F1 H1) : XAft X.K X.mg W ph F0 H0 σ Z r := by
  cases r with
  | ok d rho => exact fun F H n => hz d rho F H n q
  | er er rho =>
    cases er with
    | bad => exact q
    | exc nm =>
      intro F H n
      obtain ⟨F2, _, n2⟩ := n.weak w
      exact q σ F2 H n2
def gSetX (i : Nat) (gx : Rw → RX PyData) : Rw → SR := fun rho => xS (gx rho) fun d r => .nx (r.set i d)
theorem ds_setX [Tb] (i : Nat) {x : Str} {pos' : Pos} (he : DX X W ph e gx) (hN : X.N.Nodup) (hx : Loc X.env.scope x := by first | exact Or.inl rfl | exact Or.inr rfl) (w : wk ph C.e = true := by rfl) (hi : X.N[i]? = some x := by rfl) (hs : swapsWith e (some (.Name x pos')) pos.line X.env = pure false := by rfl)
    (hf : X.fn x = true ∨ X.env.scope.names.lookup x = some .local := by first | exact .inl rfl | exact .inr rfl) : DS X W C ph (ph.set i .im) (.Assign [.Name x pos'] e pos) (gSetX i gx) :=
  ps_imp (ps_set hN hi hx he hs hf) fun D σ H ⟨F0, H0, F, rho, n, q⟩ => ⟨F0, H0, F, rho, n, saft_x w q fun d r F1 H1 n1 q1 v rv => q1 _ F1 H1 (n1.setIm i rv)⟩
def gDropX (gx : Rw → RX PyData) : Rw → SR := fun rho => xS (gx rho) fun _ r => .nx r
theorem ds_exprX [Tb] (he : DX X W ph e gx) (w : wk ph C.e = true := by rfl) (hs : swapsWith e none pos.line X.env = pure false := by rfl) : DS X W C ph ph (.Expr e pos) (gDropX gx) :=
  ps_imp (ps_expr he hs) fun D σ H ⟨F0, H0, F, rho, n, q⟩ => ⟨F0, H0, F, rho, n, saft_x w q fun d r F1 H1 n1 q1 v rv => q1 σ F1 H1 n1⟩
def gRetX (gx : Rw → RX PyData) : Rw → SR := fun rho => xS (gx rho) fun d _ => .rt d
theorem ds_retX [Tb] (he : DX X W ph e gx) (w : wk ph C.e = true := by rfl) (hr : C.r = none := by rfl) : DS X W C ph phn (.Return (some e) pos) (gRetX gx) :=
  ps_imp (ps_ret he) fun D σ H ⟨F0, H0, F, rho, n, q⟩ => ⟨F0, H0, F, rho, n, saft_x w q fun d r F1 H1 n1 q1 v rv => RtOk.none hr q1 v F1 H1 n1.st rv⟩
/-- a return that gives the thing's content out -/
def gRetC (j : Nat) (gx : Rw → RX PyData) : Rw → SR := fun rho => xS (gx rho) fun d r => .rt (.tuple [d, look r j])
theorem ds_retC [Tb] (j : Nat) {k : Nat} (he : DX X W ph e gx) (h : ph[j]? = some (.cw k) := by rfl) (w : wk ph C.e = true := by rfl) (hr : C.r = some k := by rfl) : DS X W C ph phn (.Return (some e) pos) (gRetC j gx) :=
  ps_imp (ps_ret he) fun D σ H ⟨F0, H0, F, rho, n, q⟩ => ⟨F0, H0, F, rho, n, saft_x w q fun d r F1 H1 n1 q1 v rv => by
    have q1 : RtOk X.K C.r F0 H0 D (.tuple [d, look r j]) := q1
    rw [hr] at q1
    obtain ⟨d0, c, e, q2⟩ := q1
    cases e
    obtain ⟨as, c1, c2⟩ := n1.out h
    exact q2 v F1 H1 as n1.st rv c1 c2⟩
def gIfX (tx : Rw → RX Bool) (a b : Rw → SR) : Rw → SR := fun rho => xS (tx rho) fun k r => if k = true then a r else b r
theorem ds_ifX [Tb] {c : Expr} {a b : List Stmt} (hc : DXT X W ph c tx) (ha : DB X W C ph phn a g1) (hb : DB X W C ph phn b g2) (w : wk ph C.e = true := by rfl) : DS X W C ph phn (.If c a b pos) (gIfX tx g1 g2) :=
  ps_imp (ps_if hc ha hb) fun D σ H ⟨F0, H0, F, rho, n, q⟩ => ⟨F0, H0, F, rho, n, saft_x w q fun k r F1 H1 n1 q1 => by
    cases k with
    | true => rw [if_pos rfl] at q1 ⊢; exact ⟨F0, H0, F1, r, n1, q1⟩
    | false => rw [if_neg Bool.false_ne_true] at q1 ⊢; exact ⟨F0, H0, F1, r, n1, q1⟩⟩
/-! ### while -/
def whileX (ph : List Fl) (gt : Rw → RX Bool) (gb : Rw → SR) : Nat → Rw → SR
  | 0, rho => .er .bad rho
  | k + 1, rho => xS (gt rho) fun b r => if b = true then (match gb r with
      | .nx r => whileX ph gt gb k (mask ph r)
      | .ct r => whileX ph gt gb k (mask ph r)
      | .bk r => .nx (mask ph r)
      | .rt x => .rt x
      | .er e r => .er e r) else .nx r
def gWhileX (ph : List Fl) (k : Nat) (gt : Rw → RX Bool) (gb : Rw → SR) : Rw → SR := fun rho => whileX ph gt gb k (mask ph rho)
theorem ds_whileX [Tb] (k : Nat) {c : Expr} {body : List Stmt} {gb : Rw → SR} (hp : PassesOwn (model X.prog X.w) X.A X.env X.xe) (hc : DXT X W phn c tx) (hb : DB X W ⟨phn, phn, C.e, C.r⟩ phn phn body gb) (w : wk phn C.e = true := by rfl) (w1 : wk ph phn = true := by rfl) :
    DS X W C ph phn (.While c body [] pos) (gWhileX phn k tx gb) :=
  ps_imp (ps_while hp hc hb) fun D σ H ⟨F0, H0, F, rho, n, q⟩ => by
    obtain ⟨F2, sF, n2⟩ := n.weak w1
    refine ⟨fun m σ' H' => ∃ F' rho', EnS X.K F0 H0 phn F' H' σ' rho' ∧ SAft X.K X.mg W C F0 H0 phn D (whileX phn tx gb m rho'), ⟨k, F2, _, n2.mask, q⟩, ?_⟩
    rintro m σ' H' ⟨F', rho', n', q'⟩
    cases m with
    | zero => exact False.elim q'
    | succ m =>
      refine ⟨F0, H0, F', rho', n', saft_x w q' fun b r F1 H1 n1 q1 => ?_⟩
      cases b with
      | false => rw [if_neg Bool.false_ne_true] at q1 ⊢; exact q1 σ' F1 H1 n1
      | true =>
        rw [if_pos rfl] at q1 ⊢
        refine ⟨fun σ3 H3 => ∃ F3 rho3, EnS X.K F0 H0 phn F3 H3 σ3 rho3 ∧ SAft X.K X.mg W C F0 H0 phn D (whileX phn tx gb m rho3), fun σ3 H3 h => ⟨m, Nat.lt_succ_self m, h⟩, ?_⟩
        refine ⟨F0, H0, F1, r, n1, ?_⟩
        cases eg : gb r with
        | nx r2 => rw [eg] at q1; exact fun σ4 F4 H4 n4 => ⟨F4, _, n4.mask, q1⟩
        | ct r2 => rw [eg] at q1; exact fun σ4 F4 H4 n4 => ⟨F4, _, n4.mask, q1⟩
        | bk r2 => rw [eg] at q1; exact fun σ4 F4 H4 n4 => q1 σ4 F4 H4 n4.mask
        | rt x => rw [eg] at q1; exact q1
        | er er r2 =>
          rw [eg] at q1
          cases er with
          | bad => exact q1
          | exc nm => exact q1
/-! ### operators, tests -/
def gBX (o : PyData → PyData → Option PyData) (gx : Rw → RX PyData) (gb : Rw → Rs PyData) : Rw → RX PyData := fun rho => xBind (gx rho) fun d r => xBind (xOf r (gb r)) fun d2 _ => xOf r (lift (o d d2))
theorem opX_run [Tb] : ∀ σ H Q, rX X.K X.mg W ph (gBX o gx gb) σ H Q → tOp (rOp X.K o) (rX X.K X.mg W ph gx) (rE X.K X.mg W ph gb) σ H Q := fun σ H Q ⟨F0, H0, F, rho, n, q⟩ =>
  ⟨F0, H0, F, rho, n, xAft_bind q fun d r F1 H1 n1 q1 v1 r1 => ⟨F1, r, n1.en, xAft_then n1 q1 fun d2 F2 H2 s2 q2 v2 r2 => by
    cases eo : o d d2 with
    | none => rw [eo] at q2; exact False.elim q2
    | some z =>
      rw [eo] at q2
      exact ⟨F2, d, d2, z, s2.fh, r1.mono s2.f, r2, eo, fun v F' H' s3 rv => q2 F' H' ((n1.step s2).step s3) v rv⟩⟩⟩
theorem dx_cmp [Tb] {op : CmpOp} (ho : OpR X (compareOp op) (rOp X.K o)) (ha : DX X W ph a gx) (hb : DE X W ph b gb) (hm : behindInMarks op b = false := by first | exact nomark _ | rfl) : DX X W ph (.Compare a [op] [b] pos) (gBX o gx gb) :=
  pe_imp (pe_cmpR ho ha hb hm) opX_run
def gTbX (gx : Rw → RX PyData) : Rw → RX Bool := fun rho => xBind (gx rho) fun d r => xOf r (lift (boolD d))
theorem tbX_run [Tb] : ∀ σ H Q, rXT X.K X.mg W ph (gTbX gx) σ H Q → rX X.K X.mg W ph gx σ H fun x H' => ∃ k, x = .bl k ∧ Q k H' := fun σ H Q ⟨F0, H0, F, rho, n, q⟩ =>
  ⟨F0, H0, F, rho, n, xAft_bind q fun d r F1 H1 n1 q1 v rv => by
    cases d with
    | bool k => cases rv; exact ⟨k, rfl, q1 F1 H1 n1⟩
    | _ => exact False.elim q1⟩
theorem dxt_cmp [Tb] {op : CmpOp} (ho : OpR X (compareOp op) (rOp X.K o)) (ha : DX X W ph a gx) (hb : DE X W ph b gb) (hm : behindInMarks op b = false := by first | exact nomark _ | rfl) : DXT X W ph (.Compare a [op] [b] pos) (gTbX (gBX o gx gb)) :=
  pt_imp (pt_cmpR ho ha hb hm) fun σ H Q h => opX_run σ H _ (tbX_run σ H Q h)
def gOrX (tx : Rw → RX Bool) (tb : Rw → Rs Bool) : Rw → RX Bool := fun rho => xBind (tx rho) fun k r => if k = true then .ok true r else xOf r (tb r)
theorem dxw_or [Tb] (ha : DXT X W ph a tx) (hb : DW X W ph (.BoolOp .Or (b :: rest) pos) tb) : DXW X W ph (.BoolOp .Or (a :: b :: rest) pos) (gOrX tx tb) :=
  pw_imp (pw_or ha hb) fun σ H Q ⟨F0, H0, F, rho, n, q⟩ => ⟨F0, H0, F, rho, n, xAft_bind q fun k r F1 H1 n1 q1 => by
    cases k with
    | true => rw [if_pos rfl] at q1 ⊢; exact q1 F1 H1 n1
    | false => rw [if_neg Bool.false_ne_true] at q1 ⊢; exact ⟨F1, r, n1.en, xAft_of n1 q1⟩⟩
theorem dxt_w [Tb] (h : DXW X W ph e tx) : DXT X W ph e tx := h.pt
def gIfEX (t : Rw → Rs Bool) (a b : Rw → RX PyData) : Rw → RX PyData := fun rho => xBind (xOf rho (t rho)) fun k _ => if k = true then a rho else b rho
theorem dx_if [Tb] (hc : DT X W ph c tb) (ha : DX X W ph a gx) (hb : DX X W ph b gy) : DX X W ph (.IfExp c a b pos) (gIfEX tb gx gy) :=
  pe_imp (pe_ifExp hc ha hb) fun σ H Q ⟨F0, H0, F, rho, n, q⟩ => ⟨F, rho, n.en, xAft_then n q fun k F1 H1 s1 q1 => by
    cases k with
    | true => rw [if_pos rfl] at q1 ⊢; exact ⟨F0, H0, F1, rho, n.step s1, q1⟩
    | false => rw [if_neg Bool.false_ne_true] at q1 ⊢; exact ⟨F0, H0, F1, rho, n.step s1, q1⟩⟩
end
end PD
/-! CTJ: a thing is made. -/
namespace PD
open PySem L2
/-- another root -/
abbrev Tb.with [T : Tb] (kr : Nat) (y : Addr) : Tb := ⟨T.tab, T.cls, fun l => if l = kr then y else T.root l⟩
theorem step_w [T : Tb] {kr : Nat} {y : Addr} {F H F' H' : Hp} (s : @Step T F H F' H') : @Step (Tb.with kr y) F H F' H' := @Step.mk (Tb.with kr y) _ _ _ _ s.f s.fh s.h s.nw s.t
theorem step_u [T : Tb] {kr : Nat} {y : Addr} {F H F' H' : Hp} (s : @Step (Tb.with kr y) F H F' H') : @Step T F H F' H' := @Step.mk T _ _ _ _ (@Step.f (Tb.with kr y) _ _ _ _ s) (@Step.fh (Tb.with kr y) _ _ _ _ s) (@Step.h (Tb.with kr y) _ _ _ _ s) (@Step.nw (Tb.with kr y) _ _ _ _ s) (@Step.t (Tb.with kr y) _ _ _ _ s)
/-- no slot has the thing kr -/
def NoCt (kr : Nat) (ph : List Fl) : Prop := ∀ i : Nat, ph[i]? ≠ some (.cw kr) ∧ ph[i]? ≠ some (.cr kr)
theorem root_with [T : Tb] {kr l : Nat} {y : Addr} (h : l ≠ kr) : @Tb.root (Tb.with kr y) l = @Tb.root T l := if_neg h
theorem EnS.with [T : Tb] {K : PySem.W.Frag} {F0 H0 F H : Hp} {ph : List Fl} {σ : L2.St} {rho : Rw} {kr : Nat} {y : Addr} (n : EnS K F0 H0 ph F H σ rho) (hc : NoCt kr ph) : @EnS (Tb.with kr y) K F0 H0 ph F H σ rho := by
  refine @EnS.mk (Tb.with kr y) _ _ _ _ _ _ _ _ (@En.mk (Tb.with kr y) _ _ _ _ _ _ n.en.fh n.en.ls n.en.lr (fun i f h => ?_) n.en.ap n.en.tb) (step_w n.st) n.on ?_
  · obtain ⟨sv, d, e1, e2, e3⟩ := n.en.sl i f h
    refine ⟨sv, d, e1, e2, ?_⟩
    cases f with
    | dead => trivial
    | im => exact e3
    | ow => exact e3
    | cr l =>
      have : l ≠ kr := fun z => (hc i).2 (z ▸ h)
      show sv = some (.ref (@Tb.root (Tb.with kr y) l)) ∧ ∃ as, CtAt T.cls K F H (@Tb.root (Tb.with kr y) l) as d
      rw [root_with this]; exact e3
    | cw l =>
      have : l ≠ kr := fun z => (hc i).1 (z ▸ h)
      show sv = some (.ref (@Tb.root (Tb.with kr y) l)) ∧ ∃ as, CtAt T.cls K F H (@Tb.root (Tb.with kr y) l) as d
      rw [root_with this]; exact e3
  · obtain ⟨ad, cw, cr⟩ := n.cw
    refine ⟨ad, fun i l h => ?_, fun i l h => ?_⟩
    · have : l ≠ kr := fun z => (hc i).1 (z ▸ h)
      obtain ⟨c1, c2⟩ := cw i l h
      refine ⟨?_, c2⟩
      show CtAt T.cls K F H (@Tb.root (Tb.with kr y) l) (ad l) _
      rw [root_with this]; exact c1
    · have : l ≠ kr := fun z => (hc i).2 (z ▸ h)
      obtain ⟨c1, c2⟩ := cr i l h
      refine ⟨?_, c2⟩
      show CtAt T.cls K F H (@Tb.root (Tb.with kr y) l) (ad l) _
      rw [root_with this]; exact c1
end PD
/-! CTK: the slot of a thing that was just made. -/
namespace PD
open PySem L2
open Classical in
theorem EnS.made [T : Tb] {K : PySem.W.Frag} {F0 H0 F H F1 H1 : Hp} {ph : List Fl} {σ : L2.St} {rho : Rw} {kr i : Nat} {y : Addr} {bs : List Addr} {c : PyData} (n : EnS K F0 H0 ph F H σ rho) (hc : NoCt kr ph) (s : Step F H F1 H1) (ct : CtAt Tb.cls K F1 H1 y bs c) (hn : ∀ a ∈ bs, H a = none) :
    @EnS (Tb.with kr y) K F0 H0 (ph.set i (.cw kr)) F1 H1 (σ.set i (some (.ref y))) (rho.set i c) := by
  have n1 : @EnS (Tb.with kr y) K F0 H0 ph F1 H1 σ rho := EnS.with (n.step s) hc
  have ni : ∀ {j : Nat} {f : Fl}, f ≠ .cw kr → (ph.set i (Fl.cw kr))[j]? = some f → i ≠ j := fun {j f} hf h z => by
    subst z
    have hl : i < ph.length := by
      have := (List.getElem?_eq_some_iff.mp h).1
      simpa using this
    rw [List.getElem?_set_self hl] at h; cases h; exact hf rfl
  have hlt : ∀ {j : Nat} {f : Fl}, (ph.set i (Fl.cw kr))[j]? = some f → j < ph.length := fun {j f} h => by
    have := (List.getElem?_eq_some_iff.mp h).1
    simpa using this
  have rk : @Tb.root (Tb.with kr y) kr = y := if_pos rfl
  have hbs0 : ∀ a ∈ bs, H0 a = none := fun a ha => n.st.h.free (hn a ha)
  obtain ⟨ad, cw, cr⟩ := @EnS.cw (Tb.with kr y) _ _ _ _ _ _ _ _ n1
  obtain ⟨ad0, cw0, cr0⟩ := n.cw
  obtain ⟨ad', a1, a2⟩ : ∃ ad' : Nat → List Addr, ad' kr = bs ∧ ∀ l, l ≠ kr → ad' l = ad0 l := ⟨fun l => if l = kr then bs else ad0 l, if_pos rfl, fun l h => if_neg h⟩
  have old : ∀ {j l : Nat}, l ≠ kr → CtAt T.cls K F H (@Tb.root T l) (ad0 l) (look rho j) → CtAt T.cls K F1 H1 (@Tb.root (Tb.with kr y) l) (ad0 l) (look rho j) := fun {j l} hl h => by rw [root_with hl]; exact h.step s
  refine @EnS.mk (Tb.with kr y) _ _ _ _ _ _ _ _ (@En.mk (Tb.with kr y) _ _ _ _ _ _ s.fh (by simpa using n.en.ls) (by simpa using n.en.lr) (fun j f h => ?_) (fun j l p h1 h2 h3 h4 => ?_) (s.t n.en.tb)) (step_w (n.st.trans s)) (fun j p h1 h2 => ?_) ⟨ad', fun j l h => ?_, fun j l h => ?_⟩
  · by_cases hj : i = j
    · subst hj
      have hi := hlt h
      rw [List.getElem?_set_self hi] at h; cases h
      refine ⟨some (.ref y), c, List.getElem?_set_self (Nat.lt_of_lt_of_le hi n.en.ls), List.getElem?_set_self (Nat.lt_of_lt_of_le hi n.en.lr), ?_⟩
      · show some (V.ref y) = some (.ref (@Tb.root (Tb.with kr y) kr)) ∧ ∃ as, CtAt T.cls K F1 H1 (@Tb.root (Tb.with kr y) kr) as c
        rw [rk]; exact ⟨rfl, bs, ct⟩
    · rw [List.getElem?_set_ne hj] at h
      obtain ⟨sv, d, e1, e2, e3⟩ := @En.sl (Tb.with kr y) _ _ _ _ _ _ (@EnS.en (Tb.with kr y) _ _ _ _ _ _ _ _ n1) j f h
      exact ⟨sv, d, by rw [List.getElem?_set_ne hj]; exact e1, by rw [List.getElem?_set_ne hj]; exact e2, e3⟩
  · have x1 := ni (by simp) h1
    have x2 := ni (by simp) h2
    rw [List.getElem?_set_ne x1] at h1 h3
    rw [List.getElem?_set_ne x2] at h2 h4
    exact n.en.ap j l p h1 h2 h3 h4
  · have x1 := ni (by simp) h1
    rw [List.getElem?_set_ne x1] at h1 h2
    exact n.on j p h1 h2
  · by_cases hj : i = j
    · subst hj
      have hi := hlt h
      rw [List.getElem?_set_self hi] at h; cases h
      refine ⟨?_, fun a ha => hbs0 a (a1 ▸ ha), fun j p h1 h2 z => ?_, fun j l h1 hij a ha z => ?_⟩
      · rw [a1, look_set_self (Nat.lt_of_lt_of_le hi n.en.lr)]
        show CtAt T.cls K F1 H1 (@Tb.root (Tb.with kr y) kr) bs c
        rw [rk]; exact ct
      · have x1 := ni (by simp) h1
        rw [List.getElem?_set_ne x1] at h1 h2
        rw [a1] at z
        obtain ⟨q, o, q1, _, q3, _⟩ := n.en.ow h1
        rw [h2] at q1; cases q1
        rw [hn p z] at q3; cases q3
      · rw [List.getElem?_set_ne (Ne.symm hij)] at h1
        have hl : l ≠ kr := fun w => (hc j).1 (w ▸ h1)
        rw [a1] at ha
        rw [a2 l hl] at z
        obtain ⟨_, o, q2, _⟩ := (cw0 j l h1).1.has a z
        rw [hn a ha] at q2; cases q2
    · rw [List.getElem?_set_ne hj] at h
      have hl : l ≠ kr := fun w => (hc j).1 (w ▸ h)
      obtain ⟨c1, c2, c3, c4⟩ := cw0 j l h
      refine ⟨by rw [a2 l hl, look_set_ne hj]; exact old hl c1, fun a ha => c2 a (a2 l hl ▸ ha), fun j' p h1 h2 z => ?_, fun j' l' h1 hij a ha z => ?_⟩
      · have x1 := ni (by simp) h1
        rw [List.getElem?_set_ne x1] at h1 h2
        rw [a2 l hl] at z
        exact c3 j' p h1 h2 z
      · rw [a2 l hl] at ha
        by_cases hj' : i = j'
        · subst hj'
          rw [List.getElem?_set_self (hlt h1)] at h1; cases h1
          rw [a1] at z
          obtain ⟨_, o, q2, _⟩ := c1.has a ha
          rw [hn a z] at q2; cases q2
        · rw [List.getElem?_set_ne hj'] at h1
          have hl' : l' ≠ kr := fun w => (hc j').1 (w ▸ h1)
          rw [a2 l' hl'] at z
          exact c4 j' l' h1 hij a ha z
  · have x1 := ni (by simp) h
    rw [List.getElem?_set_ne x1] at h
    have hl : l ≠ kr := fun w => (hc j).2 (w ▸ h)
    obtain ⟨c1, c2⟩ := cr0 j l h
    exact ⟨by rw [a2 l hl, look_set_ne x1]; exact old hl c1, fun a ha => c2 a (a2 l hl ▸ ha)⟩
end PD
/-! CTL: x = C(e), and what comes behind. -/
namespace PD
open PySem L2
section
variable {X : Cx} {W : WX} {ph : List Fl} {e : Expr} {pos p : Pos} {ge : Rw → Rs PyData}
theorem run_mk [Tb] {CX : CXT} {ps : List Str} {ds us : List Value} {sp : Sp} {E : XK} {pins : List (Addr × Obj)} {σ : L2.St} {H : Hp} {s : Shared} {Q : VK} {vs dvs : List V} {C f : Addr} {fd : FuncData} {k : Nat} (M : Mk X.K C f) (G : FnOk X.prog X.w X.K X.mg X.base CX k f fd ps sp) (hr : Room (k + 1) X.A) (hb : Binds X.K fd ps ds)
    (hd : Vals dvs ds) (hx : PassesAt CX X σ E) (I : Inv X pins σ H s) (r : Vals vs us) (h : ∀ a dx, H a = none → H dx = none → dx ≠ a → sp (.ref a :: (vs ++ dvs)) (upd (upd H dx (.own a)) a (.ins C dx [])) (fun v H2 => v = .non ∧ Q (.ref a) H2) E) : wpAny (model X.prog X.w) X.A (call (.ref C) us) (EP X pins σ Q) X.xe s := by
  obtain ⟨z, hz⟩ : ∃ z, z = s.heap.objs.size := ⟨_, rfl⟩
  have J := Inv.made (C := C) I
  rw [← hz] at J
  have hq := h (z + 1) z (I.hok.fresh (hz ▸ Nat.le_succ _)) (I.hok.fresh (hz ▸ Nat.le_refl _)) (Nat.ne_of_lt (Nat.lt_succ_self z))
  have r2 : Vals (V.ref (z + 1) :: (vs ++ dvs)) (Value.ref (z + 1) :: (us ++ ds)) := .cons rfl (r.append hd)
  have hl : (Value.ref (z + 1) :: us ++ ds).length = ps.length := by
    have := r2.length
    rw [G.len _ _ _ _ hq] at this; exact this.symm
  have run := G.run _ X.stack _ _ ⟨Value.ref (z + 1) :: us, []⟩ (Value.ref (z + 1) :: (us ++ ds)) _ _ E (hr.make C us []) (J.env0.make C us []) (hb _ (Value.ref (z + 1) :: us) J.kIn hl) r2 hq
  subst hz
  refine wpAny_call (make_map (f := f) I.kIn M.makes M.init (beq_iff_eq.mp M.fn) (codeAny_mono run fun o s' ho => ?_))
  cases o with
  | error er => exact hx pins _ _ er s' J ho
  | ok fl =>
    cases fl with
    | ret u =>
      obtain ⟨v, H', I3, rv, ev, q3⟩ := J.after ho
      subst ev
      exact ⟨rv, ⟨V.ref _, H', I3, rfl, q3⟩⟩
    | _ => exact False.elim ho
/-- what a maker gives -/
def MkAft [Tb] (K : PySem.W.Frag) (mg : Str → Option Value) (W : WX) (σ : L2.St) (F H : Hp) (Q : VK) : RC → Prop
  | .ok (.none, c) => ∀ y bs F' H', Step F H F' H' → CtAt Tb.cls K F' H' y bs c → (∀ a ∈ bs, H a = none) → Q (.ref y) H'
  | .error (.exc n, _) => ∀ F' H', Step F H F' H' → W (clsOf mg n) none σ H'
  | _ => False
theorem MkAft.step [Tb] {K : PySem.W.Frag} {mg : Str → Option Value} {σ : L2.St} {F H F1 H1 : Hp} {Q : VK} {z : RC} (s : Step F H F1 H1) (h : MkAft K mg W σ F H Q z) : MkAft K mg W σ F1 H1 Q z := by
  cases z with
  | ok y =>
    obtain ⟨d, c⟩ := y
    cases d with
    | none => exact fun y bs F' H' s' ct hn => h y bs F' H' (s.trans s') ct fun a ha => s.h.free (hn a ha)
    | _ => exact h
  | error y =>
    obtain ⟨er, c⟩ := y
    cases er with
    | bad => exact h
    | exc n => exact fun F' H' s' => h F' H' (s.trans s')
def rMk [Tb] (K : PySem.W.Frag) (mg : Str → Option Value) (W : WX) (ph : List Fl) (mm : List PyData → RC) (ge : Rw → Rs PyData) : TE := fun σ H Q => ∃ F rho, En K ph F H σ rho ∧ Aft mg W σ F H (ge rho) fun d F1 H1 => MkAft K mg W σ F1 H1 Q (mm [.dict [], d])
theorem pe_mk [Tb] {x : Str} {f : Addr} {fd : FuncData} {ps : List Str} {k : Nat} {mm : List PyData → RC} (M : Mk X.K Tb.cls f) (G : FnOk X.prog X.w X.K X.mg X.base (L2.CX X.prog X.w) k f fd ps (spC X.K X.mg 1 mm)) (hr : Room (k + 1) X.A) (hm : X.mg x = some (.ref Tb.cls)) (hb : Binds X.K fd ps [])
    (tk : Takes X W) (ha : DE X W ph e ge) (hg : Gl X x := by rfl) (hdb : (x == ("__debug__" : Str)) = false := by decide) (he : starEach [e] X.env = (false, eval e X.env) :: starEach [] X.env := by rfl) (hpl : (backTo pos (starEach [] X.env)).any (·.1) = false := by rfl) :
    PE X (.Call (.Name x p) [e] [] pos) (rMk X.K X.mg W ph mm ge) := by
  refine ⟨fun pins s σ H Q I hh => ?_⟩
  obtain ⟨F, rho, n, q⟩ := hh
  have hA := L2.pa_cons ha L2.pa_nil he
  refine wpAny_Call_Name_kw (ld_glob I hg hm ?_ hdb)
  refine PySem.W.callWith_K (h₀ := X.base) I.ok.mod.kin M.kp (thn (hA.run pos pins s σ H (fun vs H1 => ∀ a dx, H1 a = none → H1 dx = none → dx ≠ a → spC X.K X.mg 1 mm (.ref a :: (vs ++ [])) (upd (upd H1 dx (.own a)) a (.ins Tb.cls dx [])) (fun v H2 => v = .non ∧ Q (.ref a) H2) (fun c d H' => W c d σ H')) I ?_) fun us s1 w1 => ?_) he hpl
  · refine ⟨F, rho, n, ?_⟩
    have tbH := n.tb
    have q' := q.all (Z' := fun d F1 H1 => ∀ v, Rp X.K F1 v d → TbOk F1 H1 ∧ Same F1 H1 ∧ MkAft X.K X.mg W σ F1 H1 Q (mm [.dict [], d])) fun d z F1 H1 st v _ => ⟨st.t tbH, st.fh, z F1 H1 st⟩
    refine q'.imp fun d F1 H1 st q1 v rv => ?_
    obtain ⟨tb1, sm1, q1⟩ := q1 v rv
    intro a dx h1 h2 h3
    have h4 : upd H1 dx (.own a) a = none := by rw [upd_ne (Ne.symm h3)]; exact h1
    have s1 : Step F1 H1 F1 (upd H1 dx (.own a)) := Step.hid sm1 h2
    have s2 : Step F1 (upd H1 dx (.own a)) F1 (upd (upd H1 dx (.own a)) a (.ins Tb.cls dx [])) := Step.hid s1.fh h4
    have s3 := s1.trans s2
    have fa : F1 a = none := same_none sm1 h1
    refine ⟨a, [v], F1, [d], .dict [], [a], rfl, rfl, s3.fh, s3.t tb1, CtAt.ins upd_same .nil (by simp) fa, .cons rv .nil, ?_⟩
    have back : ∀ {F' H'}, Step F1 (remA [a] (upd (upd H1 dx (.own a)) a (.ins Tb.cls dx []))) F' H' → Step F1 H1 F' H' := fun {F' H'} st' => by
      have out : ∀ b o, H1 b = some o → remA [a] (upd (upd H1 dx (.own a)) a (.ins Tb.cls dx [])) b = some o := fun b o eb => by
        have na : b ≠ a := fun z => by subst z; rw [h1] at eb; cases eb
        have nd : b ≠ dx := fun z => by subst z; rw [h2] at eb; cases eb
        rw [rem_out (by simpa using na), upd_ne na, upd_ne nd]; exact eb
      refine ⟨st'.f, st'.fh, fun b o eb => st'.h b o (out b o eb), fun b b1 b2 => st'.nw b b1 ?_, fun t => st'.t (tbOk_rem (s3.t t) fun b hb => ?_)⟩
      · cases eb : H1 b with
        | none => exact absurd eb b2
        | some o => rw [out b o eb]; simp
      · rw [List.mem_singleton.mp hb]; exact ⟨_, upd_same, fresh_ins _ _ _⟩
    cases em : mm [.dict [], d] with
    | ok w =>
      rw [em] at q1
      obtain ⟨d0, c⟩ := w
      cases d0 with
      | none =>
        intro v' F' H' bs st' rv' ct hn
        cases rv'
        refine ⟨rfl, q1 a bs F' H' (back st') ct fun b hb => ?_⟩
        rcases rem_none (hn b hb) with z | z
        · rw [List.mem_singleton.mp z]; exact h1
        · by_cases na : b = a
          · rw [na]; exact h1
          · rw [upd_ne na] at z
            by_cases nd : b = dx
            · rw [nd]; exact h2
            · rw [upd_ne nd] at z; exact z
      | _ => exact False.elim q1
    | error w =>
      rw [em] at q1
      obtain ⟨er, c⟩ := w
      cases er with
      | bad => exact False.elim q1
      | exc nm => exact fun F' H' bs st' ct hn => q1 F' H' (back st')
  · obtain ⟨vs, H1, I1, r, q1⟩ := w1
    exact ⟨I1.kIn, run_mk M G hr hb .nil (passAt tk σ) I1 r q1⟩
end
end PD
/-! CTM: the block behind x = C(e). -/
namespace PD
open PySem L2
theorem EnS.unwith [T : Tb] {K : PySem.W.Frag} {F0 H0 F H : Hp} {ph : List Fl} {σ : L2.St} {rho : Rw} {kr : Nat} {y : Addr} (n : @EnS (Tb.with kr y) K F0 H0 ph F H σ rho) (hc : NoCt kr ph) : @EnS T K F0 H0 ph F H σ rho := by
  obtain ⟨en, st, on, cw⟩ := n
  obtain ⟨fh, ls, lr, sl, ap, tb⟩ := en
  refine @EnS.mk T _ _ _ _ _ _ _ _ (@En.mk T _ _ _ _ _ _ fh ls lr (fun i f h => ?_) ap tb) (step_u st) on ?_
  · obtain ⟨sv, d, e1, e2, e3⟩ := sl i f h
    refine ⟨sv, d, e1, e2, ?_⟩
    cases f with
    | dead => trivial
    | im => exact e3
    | ow => exact e3
    | cr l =>
      have : l ≠ kr := fun z => (hc i).2 (z ▸ h)
      have e3 : sv = some (.ref (@Tb.root (Tb.with kr y) l)) ∧ ∃ as, CtAt T.cls K F H (@Tb.root (Tb.with kr y) l) as d := e3
      rw [root_with this] at e3; exact e3
    | cw l =>
      have : l ≠ kr := fun z => (hc i).1 (z ▸ h)
      have e3 : sv = some (.ref (@Tb.root (Tb.with kr y) l)) ∧ ∃ as, CtAt T.cls K F H (@Tb.root (Tb.with kr y) l) as d := e3
      rw [root_with this] at e3; exact e3
  · obtain ⟨ad, cw, cr⟩ := cw
    refine ⟨ad, fun i l h => ?_, fun i l h => ?_⟩
    · have : l ≠ kr := fun z => (hc i).1 (z ▸ h)
      obtain ⟨c1, c2⟩ := cw i l h
      have c1 : CtAt T.cls K F H (@Tb.root (Tb.with kr y) l) (ad l) (look rho i) := c1
      rw [root_with this] at c1
      exact ⟨c1, c2⟩
    · have : l ≠ kr := fun z => (hc i).2 (z ▸ h)
      obtain ⟨c1, c2⟩ := cr i l h
      have c1 : CtAt T.cls K F H (@Tb.root (Tb.with kr y) l) (ad l) (look rho i) := c1
      rw [root_with this] at c1
      exact ⟨c1, c2⟩
theorem saft_with [T : Tb] {K : PySem.W.Frag} {mg : Str → Option Value} {W : WX} {C : Ctl} {F0 H0 : Hp} {phn : List Fl} {D : Ends} {kr : Nat} {y : Addr} (h1 : NoCt kr phn) (h2 : NoCt kr C.b) (h3 : NoCt kr C.c) (h4 : NoCt kr C.e) (hr : C.r = none) : ∀ {r : SR}, @SAft T K mg W C F0 H0 phn D r → @SAft (Tb.with kr y) K mg W C F0 H0 phn D r
  | .nx rho, q => fun σ F H n => q σ F H (EnS.unwith n h1)
  | .rt d, q => by
    show @RtOk (Tb.with kr y) K C.r F0 H0 D d
    have q : @RtOk T K C.r F0 H0 D d := q
    rw [hr] at q ⊢
    exact fun v F H s r => q v F H (step_u s) r
  | .bk rho, q => fun σ F H n => q σ F H (EnS.unwith n h2)
  | .ct rho, q => fun σ F H n => q σ F H (EnS.unwith n h3)
  | .er (.exc _) rho, q => fun σ F H n => q σ F H (EnS.unwith n h4)
  | .er .bad _, q => q
def gMk (i : Nat) (mm : List PyData → RC) (ge : Rw → Rs PyData) : Rw → SR := fun rho => thenS (ge rho) rho fun d => match mm [.dict [], d] with
  | .ok (.none, c) => .nx (rho.set i c)
  | .error (e, _) => .er e rho
  | _ => .er .bad rho
section
variable {X : Cx} {W : WX} {C : Ctl} {ph phn : List Fl} {e : Expr} {pos p pos2 : Pos} {ge : Rw → Rs PyData} {rest : List Stmt} {g2 : Rw → SR}
theorem db_mk [T : Tb] (i kr : Nat) {x v : Str} {pos' : Pos} {f : Addr} {fd : FuncData} {ps : List Str} {k : Nat} {mm : List PyData → RC} (M : Mk X.K Tb.cls f) (G : FnOk X.prog X.w X.K X.mg X.base (L2.CX X.prog X.w) k f fd ps (spC X.K X.mg 1 mm)) (hr : Room (k + 1) X.A) (hm : X.mg x = some (.ref Tb.cls)) (hb : Binds X.K fd ps [])
    (tk : Takes X W) (ha : DE X W ph e ge) (hN : X.N.Nodup) (hrest : ∀ y, @DB (Tb.with kr y) X W C (ph.set i (.cw kr)) phn rest g2)
    (hc : NoCt kr ph) (h1 : NoCt kr phn) (h2 : NoCt kr C.b) (h3 : NoCt kr C.c) (h4 : NoCt kr C.e) (hcr : C.r = none := by rfl) (w : wk ph C.e = true := by rfl)
    (hg : Gl X x := by rfl) (hdb : (x == ("__debug__" : Str)) = false := by decide) (he : starEach [e] X.env = (false, eval e X.env) :: starEach [] X.env := by rfl) (hpl : (backTo pos2 (starEach [] X.env)).any (·.1) = false := by rfl)
    (hx : Loc X.env.scope v := by first | exact Or.inl rfl | exact Or.inr rfl) (hi : X.N[i]? = some v := by rfl) (hs : swapsWith (.Call (.Name x p) [e] [] pos2) (some (.Name v pos')) pos.line X.env = pure false := by rfl)
    (hf : X.fn v = true ∨ X.env.scope.names.lookup v = some .local := by first | exact .inl rfl | exact .inr rfl) :
    DB X W C ph phn (.Assign [.Name v pos'] (.Call (.Name x p) [e] [] pos2) pos :: rest) (gSeq (gMk i mm ge) g2) := by
  have h5 : PSs X rest (fun D σ H => ∃ y, @rS (Tb.with kr y) X.K X.mg W C (ph.set i (.cw kr)) phn g2 D σ H) := ⟨fun pins s σ H D I q => by
    obtain ⟨y, q⟩ := q
    exact (hrest y).run pins s σ H D I q⟩
  refine pss_imp (pss_cons (ps_set hN hi hx (pe_mk (pos := pos2) (p := p) M G hr hm hb tk ha hg hdb he hpl) hs hf) h5) fun D σ H ⟨F0, H0, F, rho, n, q⟩ => ⟨F, rho, n.en, ?_⟩
  have q : SAft X.K X.mg W C F0 H0 phn D (thenS (ge rho) rho fun d => match (match mm [.dict [], d] with | .ok (.none, c) => SR.nx (rho.set i c) | .error (e, _) => .er e rho | _ => .er .bad rho) with | .nx r => g2 r | .rt d => .rt d | .bk r => .bk r | .ct r => .ct r | .er e r => .er e r) := by
    unfold gSeq gMk at q
    cases eg : ge rho with
    | ok d => rw [eg] at q; exact q
    | error er => rw [eg] at q; exact q
  refine aft_then n w q fun d F1 H1 s1 q1 => ?_
  cases em : mm [.dict [], d] with
  | ok z =>
    rw [em] at q1
    obtain ⟨d0, c⟩ := z
    cases d0 with
    | none => exact fun y bs F' H' s' ct hn => ⟨y, F0, H0, F', rho.set i c, (n.step s1).made hc s' ct hn, saft_with h1 h2 h3 h4 hcr q1⟩
    | _ => exact False.elim q1
  | error z =>
    rw [em] at q1
    obtain ⟨er, c⟩ := z
    cases er with
    | bad => exact False.elim q1
    | exc nm =>
      intro F' H' s'
      obtain ⟨F2, _, n2⟩ := ((n.step s1).step s').weak w
      exact q1 σ F2 H' n2
end
end PD
/-! CTN: promises under another root; facts on the class. -/
namespace PD
open PySem L2
theorem aft_u [T : Tb] {kr : Nat} {y : Addr} {a : Type} {mg : Str → Option Value} {W : WX} {σ : L2.St} {F H : Hp} {x : Rs a} {Z : a → Hp → Hp → Prop} (h : @Aft (Tb.with kr y) a mg W σ F H x Z) : @Aft T a mg W σ F H x Z := by
  cases x with
  | ok z => exact fun F' H' s => h F' H' (step_w s)
  | error e =>
    cases e with
    | bad => exact h
    | exc n => exact fun F' H' s => h F' H' (step_w s)
section
variable {P : Program} {w : World} {K : PySem.W.Frag} {mg : Str → Option Value} {base : Heap} {CX : CXT} {k kk : Nat} {f : Addr} {fd : FuncData} {ps : List Str}
theorem spP_w [T : Tb] {kr : Nat} {y : Addr} {m : List PyData → Rs PyData} (G : FnOk P w K mg base CX k f fd ps (@spP T K mg kk m)) : FnOk P w K mg base CX k f fd ps (@spP (Tb.with kr y) K mg kk m) :=
  G.imp fun vs H Q E ⟨F, ds, e, s, t, rp, q⟩ => ⟨F, ds, e, s, t, rp, aft_u q⟩
theorem spR_w [T : Tb] {kr : Nat} {y : Addr} {m : List PyData → Rs PyData} (G : FnOk P w K mg base CX k f fd ps (@spR T K mg kk m)) : FnOk P w K mg base CX k f fd ps (@spR (Tb.with kr y) K mg kk m) :=
  G.imp fun vs H Q E ⟨x, ws, F, ds, c, as, e, e1, s, t, ct, rp, q⟩ => ⟨x, ws, F, ds, c, as, e, e1, s, t, ct, rp, aft_u q⟩
theorem cAft_u [T : Tb] {kr : Nat} {y : Addr} {E : XK} {F H : Hp} {x : Addr} {as : List Addr} {Q : VK} {z : RC} (h : @CAft (Tb.with kr y) K mg E F H x as Q z) : @CAft T K mg E F H x as Q z := by
  cases z with
  | ok v => obtain ⟨d, c⟩ := v; exact fun v F' H' bs s => h v F' H' bs (step_w s)
  | error v =>
    obtain ⟨e, c⟩ := v
    cases e with
    | bad => exact h
    | exc n => exact fun F' H' bs s => h F' H' bs (step_w s)
theorem spC_w [T : Tb] {kr : Nat} {y : Addr} {m : List PyData → RC} (G : FnOk P w K mg base CX k f fd ps (@spC T K mg kk m)) : FnOk P w K mg base CX k f fd ps (@spC (Tb.with kr y) K mg kk m) :=
  G.imp fun vs H Q E ⟨x, ws, F, ds, c, as, e, e1, s, t, ct, rp, q⟩ => ⟨x, ws, F, ds, c, as, e, e1, s, t, ct, rp, cAft_u q⟩
end
theorem noCt_of {kr : Nat} : ∀ {ph : List Fl}, (ph.all fun f => f != .cw kr && f != .cr kr) = true → NoCt kr ph := fun {ph} h i => by
  have key : ∀ f, ph[i]? = some f → f ≠ .cw kr ∧ f ≠ .cr kr := fun f e => by
    have := List.all_eq_true.mp h f (List.mem_of_getElem? e)
    simpa using this
  exact ⟨fun z => (key _ z).1 rfl, fun z => (key _ z).2 rfl⟩
/-- what the head tells of the class of carts -/
structure CtT (K : PySem.W.Frag) (C : Addr) : Prop where
  c : Cls K C
  prices : NoAttr K C "prices"
  now : NoAttr K C "now"
  past : NoAttr K C "past"
  later : NoAttr K C "later"
/-- .. of a method -/
structure MeT (K : PySem.W.Frag) (C : Addr) (m q : Str) (st : Stmt) (ps : List Str) (f : Addr) (fd : FuncData) : Prop where
  F : Fun K m q st f fd
  b : Binds K fd ps []
  m : Meth K C m f
theorem meT_of {K : PySem.W.Frag} {m q : Str} {st : Stmt} {ps : List Str} {C f : Addr} {fd : FuncData} (h : Meth K C m f) (D : FunD K m q (defArgs st) (defBody st) (defScope st) [] [] f fd)
    (hb : ∀ (kV doc pm : Value) (an : Option Addr) (cdv ct : Value) (us : List Value), us.length = ps.length → bindArgs (PySem.W.fnOf m q (defArgs st) (defBody st) (defScope st) .none kV doc pm an cdv ct) ⟨us, []⟩ = pure (ps.zip us)) : MeT K C m q st ps f fd := by
  have F : Fun K m q st f fd := by
    obtain ⟨oc, od, dV, kV, doc, pm, an, cdv, ct, osl, e, lk, hcd, hd, _⟩ := D.ex
    refine ⟨⟨oc, od, kV, doc, pm, an, cdv, ct, osl, ?_, lk, hcd⟩, D.kp⟩
    rcases hd with ⟨_, hd⟩ | ⟨hd, _⟩
    · rw [e, hd]
    · exact absurd rfl hd
  exact ⟨F, F.binds hb, h⟩
/-- .. of its maker -/
structure MkT (K : PySem.W.Frag) (mg : Str → Option Value) (x q : Str) (st : Stmt) (ps : List Str) (C f : Addr) (fd : FuncData) : Prop where
  F : Fun K "__init__" q st f fd
  b : Binds K fd ps []
  m : Mk K C f
  g : mg x = some (.ref C)
theorem mkT_of {K : PySem.W.Frag} {mg : Str → Option Value} {x q : Str} {st : Stmt} {ps : List Str} {C f : Addr} {fd : FuncData} (g : mg x = some (.ref C)) (m : Mk K C f) (D : FunD K "__init__" q (defArgs st) (defBody st) (defScope st) [] [] f fd)
    (hb : ∀ (kV doc pm : Value) (an : Option Addr) (cdv ct : Value) (us : List Value), us.length = ps.length → bindArgs (PySem.W.fnOf "__init__" q (defArgs st) (defBody st) (defScope st) .none kV doc pm an cdv ct) ⟨us, []⟩ = pure (ps.zip us)) : MkT K mg x q st ps C f fd := by
  have F : Fun K "__init__" q st f fd := by
    obtain ⟨oc, od, dV, kV, doc, pm, an, cdv, ct, osl, e, lk, hcd, hd, _⟩ := D.ex
    refine ⟨⟨oc, od, kV, doc, pm, an, cdv, ct, osl, ?_, lk, hcd⟩, D.kp⟩
    rcases hd with ⟨_, hd⟩ | ⟨hd, _⟩
    · rw [e, hd]
    · exact absurd rfl hd
  exact ⟨F, F.binds hb, m, g⟩
end PD
/-! CTO: xs[-2::-1]. -/
namespace PD
open PySem PySem.Spec PyProof.Rows L2
theorem bounds_2 (n : Nat) : sliceBounds (some (-2)) none (some (-1)) n = (((n - 1 : Nat) : Int) - 1, -1, -1) := by
  have : ∀ a : Int, a = ((n - 1 : Nat) : Int) - 1 → (a, (-1 : Int), (-1 : Int)) = (((n - 1 : Nat) : Int) - 1, -1, -1) := fun a h => by rw [h]
  unfold sliceBounds
  simp
  repeat' split
  all_goals omega
theorem pick_2 (items : Array Value) : slicePick items (some (-2)) none (some (-1)) = items.toList.dropLast.reverse.toArray := by
  unfold slicePick
  rw [bounds_2]
  show ((sliceRange (((items.size - 1 : Nat) : Int) - 1) (-1) (-1)).filterMap (items[·]?)).toArray = _
  rw [PySem.W.krv_sliceRange, PySem.W.krv_range, List.filterMap_reverse]
  have h := pick_run items 0 (items.size - 1)
  have e : (List.range (items.size - 1)).map (0 + ·) = List.range (items.size - 1) := by
    rw [show ((0 + ·) : Nat → Nat) = id from funext fun k => Nat.zero_add k, List.map_id]
  rw [e, List.drop_zero] at h
  rw [h, List.dropLast_eq_take, Array.length_toList]
section
variable {X : Cx} {W : WX} {ph : List Fl} {e : Expr} {ge : Rw → Rs PyData} {pos p1 p2 p3 p4 p5 : Pos}
def tRev2 (K : PySem.W.Frag) (te : TE) : TE := fun σ H Q => te σ H fun x H1 => ∃ a xs, x = .ref a ∧ SqL K H1 a xs ∧ ∀ p, H1 p = none → Q (.ref p) (upd H1 p (.lst xs.dropLast.reverse))
theorem vals_take : ∀ {xs : List V} {vs : List Value} (n : Nat), Vals xs vs → Vals (xs.take n) (vs.take n)
  | _, _, 0, _ => by simp; exact .nil
  | _, _, _ + 1, .nil => .nil
  | _, _, n + 1, .cons r t => .cons r (vals_take n t)
theorem vals_dropLast {xs : List V} {vs : List Value} (h : Vals xs vs) : Vals xs.dropLast vs.dropLast := by
  rw [List.dropLast_eq_take, List.dropLast_eq_take, h.length]; exact vals_take _ h
theorem pe_rev2 {te : TE} {k k2 : Nat} (he : PE X e te) : PE X (.Subscript e (.Slice (some (.UnaryOp .USub (.Constant (.int 2) k2 p4) p5)) none (some (.UnaryOp .USub (.Constant (.int 1) k p1) p2)) p3) pos) (tRev2 X.K te) := by
  refine ⟨fun pins s σ H Q I h => ?_⟩
  refine PyProof.Rows.Subscript_ (thn (he.run pins s σ H _ I h) fun v s1 w1 => ?_)
  obtain ⟨x, H1, I1, r1, q1⟩ := w1
  obtain ⟨a, xs, ex, hx, q⟩ := q1
  subst ex
  cases r1
  have hst : PO X (some (.UnaryOp .USub (.Constant (.int 1) k p1) p2)) (tPart (tUn (rU fun i => .int (-i)) (tC (.int 1)))) := po_some (pe_un un_neg pe_int)
  have hlo : PO X (some (.UnaryOp .USub (.Constant (.int 2) k2 p4) p5)) (tPart (tUn (rU fun i => .int (-i)) (tC (.int 2)))) := po_some (pe_un un_neg pe_int)
  refine wpAny_Slice (thn (hlo.run pins s1 σ H1 (fun o H2 => o = some (-2) ∧ H2 = H1) I1 ⟨2, rfl, -2, rfl, rfl, rfl⟩) fun vl s2 w2 => ?_)
  obtain ⟨l, H2, I2, pl, el, e2⟩ := w2
  subst el e2
  refine thn (po_none.run pins s2 σ H2 (fun o H3 => o = none ∧ H3 = H2) I2 ⟨rfl, rfl⟩) fun vu s3 w3 => ?_
  obtain ⟨u, H3, I3, pu, eu, e3⟩ := w3
  subst eu e3
  refine thn (hst.run pins s3 σ H3 (fun o H4 => o = some (-1) ∧ H4 = H3) I3 ⟨1, rfl, -1, rfl, rfl, rfl⟩) fun vs s4 w4 => ?_
  obtain ⟨o, H4, I4, ps, eo, e4⟩ := w4
  subst eo e4
  have I5 : Inv X pins σ H4 { s4 with heap := s4.heap.push { cls := .type "slice", data := .fields #[vl, vu, vs] } } := I4.kept (t' := s4.toks) fun b ob q => Heap.get?_push_of_some _ q
  obtain ⟨its, r, ht, hz⟩ := I5.list hx
  have hlen := r.length
  show wpAny (model X.prog X.w) X.A (subscriptTail e (.Slice (some (.UnaryOp .USub (.Constant (.int 2) k2 p4) p5)) none (some (.UnaryOp .USub (.Constant (.int 1) k p1) p2)) p3) (.ref a) (.ref s4.heap.objs.size)) (EP X pins σ Q) X.xe { s4 with heap := s4.heap.push { cls := .type "slice", data := .fields #[vl, vu, vs] } }
  refine tail_any (ops := [.ref a, .ref s4.heap.objs.size]) ht.isList.typeIs (PySem.slot_list_getitem.lookup) ?_ (by with_unfolding_all rfl)
  refine wpAny_getItem_list_slice ht.isList (Heap.IsSliceOf.new _ vl vu vs) pl pu ps (by decide) ?_ (by rw [List.size_toArray]; omega)
  rw [pick_2]
  refine ⟨.ref _, _, I5.laid (t' := s4.toks) (o := .lst xs.dropLast.reverse) (fun b ob q => Heap.get?_push_of_some _ q) (Nat.le_refl _) ?_, rfl, q _ (I5.hok.fresh (Nat.le_refl _))⟩
  exact ⟨by rw [List.length_reverse, List.length_dropLast]; omega, _, 0, (vals_dropLast r).reverse, Heap.get?_push_size _ rfl⟩
def dRev2 : PyData → Option PyData
  | .list xs => some (.list xs.dropLast.reverse)
  | _ => none
theorem do_rev2 [Tb] {k k2 : Nat} (he : DE X W ph e ge) : DO X W ph (.Subscript e (.Slice (some (.UnaryOp .USub (.Constant (.int 2) k2 p4) p5)) none (some (.UnaryOp .USub (.Constant (.int 1) k p1) p2)) p3) pos) (gU dRev2 ge) :=
  pe_imp (pe_rev2 he) fun σ H Q ⟨F, rho, n, q⟩ => ⟨F, rho, n, q.bind fun d F1 H1 s1 q1 v r => by
    obtain ⟨d2, e, q2⟩ := q1.lift
    cases r with
    | @lst a xs ds h z t =>
      cases e
      refine ⟨a, xs, rfl, .of (s1.fh _ _ h), fun p hp => ?_⟩
      exact q2.ok (Step.hid s1.fh hp) p _ (s1.h.free hp) (same_none s1.fh hp) upd_same ⟨by rw [List.length_reverse, List.length_dropLast]; omega, t.dropLast.reverse⟩
    | _ => cases e⟩
end
end PD
namespace PD
open PySem L2
def g_Cart : Rw → SR := (gSeq (gDrop (gF m_look (gCons (gV 1) gNil))) (gSeq (gPutF 0 "prices" (gV 1)) (gSeq (gPutF 0 "now" (gL tupD (gCons (gB dMul (gL tupD (gCons (gC (.int 0)) gNil)) (gB dIx (gV 1) (gC (.int 0)))) (gCons (gL tupD gNil) gNil)))) (gSeq (gPutO 0 "past" (gL lstD gNil)) (gPutO 0 "later" (gL lstD gNil))))))
abbrev m_Cart : List PyData → RC := fnC 2 2 g_Cart
def g_Cart_need : Rw → SR := (gIfS (gOrT (gNotT (gTr (gF m_is_within (gCons (gV 1) (gCons (gC (.int 0)) (gCons (gB dSub (gB dIx (gFld 0 "prices") (gC (.int 0))) (gC (.int 1))) gNil)))))) (gNotT (gTr (gF m_is_within (gCons (gV 2) (gCons (gC (.int 1)) (gCons (gC (.int 9)) gNil))))))) (gRaise "BadBasket") SR.nx)
abbrev m_Cart_need : List PyData → Rs PyData := fnM 3 3 g_Cart_need
def g_Cart_price : Rw → SR := (gRet (gF m_cost_by (gCons (gF m_all_packs (gCons (gFld 0 "prices") gNil)) (gCons (gB dIx (gFld 0 "now") (gC (.int 0))) gNil))))
abbrev m_Cart_price : List PyData → Rs PyData := fnM 1 1 g_Cart_price
def g_Cart_go : Rw → SR := (gSeq (gSet 4 (gB dIx (gFld 0 "now") (gC (.int 0)))) (gSeq (gAppF 0 "past" (gFld 0 "now")) (gSeq (gPutF 0 "now" (gL tupD (gCons (gB dAdd (gB dAdd (gSl (gV 4) gPn (gPs (gV 1))) (gL tupD (gCons (gB dAdd (gB dIx (gV 4) (gV 1)) (gV 2)) gNil))) (gSl (gV 4) (gPs (gB dAdd (gV 1) (gC (.int 1)))) gPn)) (gCons (gB dAdd (gB dIx (gFld 0 "now") (gC (.int 1))) (gL tupD (gCons (gV 3) gNil))) gNil)))) (gSeq (gPutO 0 "later" (gL lstD gNil)) (gRetC 0 (fun rho => xOf rho ((gMR 0 "price" m_Cart_price gNil) rho)))))))
abbrev m_Cart_go : List PyData → RC := fnC 4 5 g_Cart_go
def g_Cart_put : Rw → SR := (gSeq (gDrop (gMR 0 "need" m_Cart_need (gCons (gV 1) (gCons (gV 2) gNil)))) (gSeq (gIfS (gTb (gB dGtI (gB dAdd (gB dIx (gB dIx (gFld 0 "now") (gC (.int 0))) (gV 1)) (gV 2)) (gC (.int 9)))) (gRaise "Full") SR.nx) (gRetC 0 (gMC 0 "go" m_Cart_go (gCons (gV 1) (gCons (gV 2) (gCons (gL tupD (gCons (gC (.str "put")) (gCons (gV 1) (gCons (gV 2) gNil)))) gNil)))))))
abbrev m_Cart_put : List PyData → RC := fnC 3 3 g_Cart_put
def g_Cart_take : Rw → SR := (gSeq (gDrop (gMR 0 "need" m_Cart_need (gCons (gV 1) (gCons (gV 2) gNil)))) (gSeq (gIfS (gTb (gB dLtI (gB dIx (gB dIx (gFld 0 "now") (gC (.int 0))) (gV 1)) (gV 2))) (gRaise "BadBasket") SR.nx) (gRetC 0 (gMC 0 "go" m_Cart_go (gCons (gV 1) (gCons (gB dSub (gC (.int 0)) (gV 2)) (gCons (gL tupD (gCons (gC (.str "take")) (gCons (gV 1) (gCons (gV 2) gNil)))) gNil)))))))
abbrev m_Cart_take : List PyData → RC := fnC 3 3 g_Cart_take
def g_Cart_undo : Rw → SR := (gSeq (gIfS (gNotT (gTrF 0 "past")) (gRaise "NoDeed") SR.nx) (gSeq (gAppF 0 "later" (gFld 0 "now")) (gPopF 0 "past" "now")))
abbrev m_Cart_undo : List PyData → RC := fnC 1 1 g_Cart_undo
def g_Cart_redo : Rw → SR := (gSeq (gIfS (gNotT (gTrF 0 "later")) (gRaise "NoDeed") SR.nx) (gSeq (gAppF 0 "past" (gFld 0 "now")) (gPopF 0 "later" "now")))
abbrev m_Cart_redo : List PyData → RC := fnC 1 1 g_Cart_redo
def g__law_cart_deed : Rw → SR := (gSeq (gTry ["BadBasket", "Full", "NoDeed"] (gIfS (gTb (gB dEq (gB dIx (gV 1) (gC (.int 0))) (gC (.str "put")))) (gSetX 2 (gMC 0 "put" m_Cart_put (gCons (gB dIx (gV 1) (gC (.int 1))) (gCons (gB dIx (gV 1) (gC (.int 2))) gNil)))) (gIfS (gTb (gB dEq (gB dIx (gV 1) (gC (.int 0))) (gC (.str "take")))) (gSetX 2 (gMC 0 "take" m_Cart_take (gCons (gB dIx (gV 1) (gC (.int 1))) (gCons (gB dIx (gV 1) (gC (.int 2))) gNil)))) (gSetX 2 (gIfEX (gTb (gB dEq (gB dIx (gV 1) (gC (.int 0))) (gC (.str "undo")))) (gMC 0 "undo" m_Cart_undo gNil) (gMC 0 "redo" m_Cart_redo gNil))))) [("BadBasket", (gSet 2 (gC (.str "basket")))), ("Full", (gSet 2 (gC (.str "full")))), ("NoDeed", (gSet 2 (gC (.str "deed"))))]) (gRetC 0 (fun rho => xOf rho ((gV 2) rho))))
abbrev m__law_cart_deed : List PyData → RC := fnC 2 3 g__law_cart_deed
def g_Cart_log : Rw → SR := (gRet (gL dList (gCons (gB dIx (gFld 0 "now") (gC (.int 1))) gNil)))
abbrev m_Cart_log : List PyData → Rs PyData := fnM 1 1 g_Cart_log
def g_Cart_basket : Rw → SR := (gRet (gB dIx (gFld 0 "now") (gC (.int 0))))
abbrev m_Cart_basket : List PyData → Rs PyData := fnM 1 1 g_Cart_basket
end PD
namespace PD
open PySem L2
def g_law_s1 : Rw → SR := (gSet 1 (gF m__law_seed (gCons (gF m__law_cell (gCons (gV 0) (gCons (gC (.int 0)) gNil))) (gCons (gC (.int 1)) gNil))))
def g_law_s2 : Rw → SR := (gSet 2 (gB dAdd (gC (.int 1)) (gB dMod (gB dFdiv (gV 1) (gC (.int 11))) (gC (.int 2)))))
def g_law_s3 : Rw → SR := (gSet 3 (gF m__law_two_list (gCons (gF m__law_seed (gCons (gF m__law_cell (gCons (gV 0) (gCons (gC (.int 1)) gNil))) (gCons (gC (.int 2)) gNil))) (gCons (gV 2) gNil))))
def g_law_s4 : Rw → SR := (gDropX (gFC 4 m__law_cart_deed (gCons (gF m__law_cart_drawn (gCons (gF m__law_seed (gCons (gB dAdd (gF m__law_cell (gCons (gV 0) (gCons (gB dAdd (gC (.int 3)) (gB dMod (gV 5) (gC (.int 6)))) gNil))) (gB dMul (gC (.int 37)) (gV 5))) (gCons (gV 5) gNil))) (gCons (gV 2) gNil))) gNil)))
def g_law_s5 : Rw → SR := (gSet 6 (gB dRepL (gL lstD (gCons (gC (.int 0)) gNil)) (gV 2)))
def g_law_s6 : Rw → SR := (gPutL 6 (gV 8) (gB dAdd (gB dIx (gV 6) (gV 8)) (gIf (gTb (gB dEq (gV 7) (gC (.str "put")))) (gV 9) (gB dSub (gC (.int 0)) (gV 9)))))
def g_law_b1 : Rw → SR := g_law_s6
def g_law_s7 : Rw → SR := (gFor [.im, .dead, .im, .im, .cw 0, .dead, .ow, .dead, .dead, .dead, .dead, .dead, .dead, .dead] (gIt seqD (gMR 4 "log" m_Cart_log gNil)) (tTup 3 (tCons (tName 7) (tCons (tName 8) (tCons (tName 9) tNil)))) g_law_b1)
def g_law_s8 : Rw → SR := (gIfS (gTb (gB dNe (gMR 4 "basket" m_Cart_basket gNil) (gL dTuple (gCons (gV 6) gNil)))) (gRet (gC (.bool false))) SR.nx)
def g_law_b2 : Rw → SR := (gSeq g_law_s4 (gSeq g_law_s5 (gSeq g_law_s7 g_law_s8)))
def g_law_s9 : Rw → SR := (gFor [.im, .dead, .im, .im, .cw 0, .dead, .dead, .dead, .dead, .dead, .dead, .dead, .dead, .dead] (gIt rng1 (gF m__law_mix (gCons (gF m__law_cell (gCons (gV 0) (gCons (gC (.int 2)) gNil))) (gCons (gC (.int 9949)) (gCons (gC (.int 31)) gNil))))) (tName 5) g_law_b2)
def g_law_s10 : Rw → SR := (gIfS (gTb (gB dNe (gMR 4 "price" m_Cart_price gNil) (gF m_cost (gCons (gV 3) (gCons (gMR 4 "basket" m_Cart_basket gNil) gNil))))) (gRet (gC (.bool false))) SR.nx)
def g_law_s11 : Rw → SR := (gSet 10 (gL tupD (gCons (gMR 4 "basket" m_Cart_basket gNil) (gCons (gMR 4 "log" m_Cart_log gNil) gNil))))
def g_law_s12 : Rw → SR := (gApp 11 (gL tupD (gCons (gMR 4 "basket" m_Cart_basket gNil) (gCons (gMR 4 "log" m_Cart_log gNil) gNil))))
def g_law_b3 : Rw → SR := g_law_s12
def g_law_x1 : Rw → RX Bool := (gTbX (gBX dNe (gFC 4 m__law_cart_deed (gCons (gL tupD (gCons (gC (.str "undo")) (gCons (gC (.int 0)) (gCons (gC (.int 0)) gNil)))) gNil)) (gC (.str "deed"))))
def g_law_s13 : Rw → SR := (gWhileX [.dead, .dead, .im, .dead, .cw 0, .dead, .dead, .dead, .dead, .dead, .im, .ow, .dead, .dead] 1000 g_law_x1 g_law_b3)
def g_law_s14 : Rw → SR := (gIfS (gOrT (gTb (gB dNe (gMR 4 "basket" m_Cart_basket gNil) (gB dMul (gL tupD (gCons (gC (.int 0)) gNil)) (gV 2)))) (gOrT (gTb (gB dNe (gMR 4 "log" m_Cart_log gNil) (gL lstD gNil))) (gOrT (gTb (gB dNe (gMR 4 "price" m_Cart_price gNil) (gC (.int 0)))) (gTb (gB dNe (gL dLen (gCons (gV 11) gNil)) (gB dAdd (gL dLen (gCons (gB dIx (gV 10) (gC (.int 1))) gNil)) (gC (.int 1)))))))) (gRet (gC (.bool false))) SR.nx)
def g_law_s15 : Rw → SR := (gIfX (gOrX (gTbX (gBX (dIs true) (gFC 4 m__law_cart_deed (gCons (gL tupD (gCons (gC (.str "redo")) (gCons (gC (.int 0)) (gCons (gC (.int 0)) gNil)))) gNil)) (gC .none))) (gTb (gB dNe (gL tupD (gCons (gMR 4 "basket" m_Cart_basket gNil) (gCons (gMR 4 "log" m_Cart_log gNil) gNil))) (gV 12)))) (gRet (gC (.bool false))) SR.nx)
def g_law_b4 : Rw → SR := g_law_s15
def g_law_s16 : Rw → SR := (gFor [.dead, .dead, .im, .dead, .cw 0, .dead, .dead, .dead, .dead, .dead, .im, .im, .dead, .dead] (gIt seqD (gU dRev2 (gV 11))) (tName 12) g_law_b4)
def g_law_c1 : Rw → Rs Bool := (gTb (gB dLtI (gB dIx (gMR 4 "basket" m_Cart_basket gNil) (gV 13)) (gC (.int 9))))
def g_law_e1 : Rw → Rs PyData := (gV 13)
def g_law_s17 : Rw → SR := (gSet 8 (gLc (gIt rng1 (gV 2)) (tName 13) g_law_c1 g_law_e1))
def g_law_s18 : Rw → SR := (gIfS (gTb (gB dEq (gV 8) (gL lstD gNil))) (gRet (gC (.bool true))) SR.nx)
def g_law_s19 : Rw → SR := (gDropX (gMC 4 "put" m_Cart_put (gCons (gB dIx (gV 8) (gC (.int 0))) (gCons (gC (.int 1)) gNil))))
def g_law_s20 : Rw → SR := (gRetX (gBX dEq (gFC 4 m__law_cart_deed (gCons (gL tupD (gCons (gC (.str "redo")) (gCons (gC (.int 0)) (gCons (gC (.int 0)) gNil)))) gNil)) (gC (.str "deed"))))
def g_law_s21 : Rw → SR := (gIfS (gTb (gB dGtI (gL dLen (gCons (gV 11) gNil)) (gC (.int 1)))) (gSeq (gDropX (gMC 4 "undo" m_Cart_undo gNil)) (gSeq g_law_s17 (gSeq g_law_s18 (gSeq g_law_s19 g_law_s20)))) SR.nx)
def g_law_s22 : Rw → SR := (gRet (gB dEq (gL tupD (gCons (gMR 4 "basket" m_Cart_basket gNil) (gCons (gMR 4 "log" m_Cart_log gNil) gNil))) (gV 10)))
def g_law : Rw → SR := (gSeq g_law_s1 (gSeq g_law_s2 (gSeq g_law_s3 (gSeq (gMk 4 m_Cart (gV 3)) (gSeq g_law_s9 (gSeq g_law_s10 (gSeq g_law_s11 (gSeq (gSet 11 (gL lstD (gCons (gV 10) gNil))) (gSeq g_law_s13 (gSeq g_law_s14 (gSeq g_law_s16 (gSeq g_law_s21 g_law_s22))))))))))))
abbrev m_law : List PyData → Rs PyData := fnM 1 14 g_law
end PD
namespace PD
open PySem L2
/-! the text of the row, by places -/
def topS (i : Nat) : Stmt := PySem.Challenge.pw_pricerows_k31_whole_carts_back.main.body.getD i (.Pass ⟨0, 0, 0, 0⟩)
abbrev excN : List Str := ["BadList", "BadBasket", "Full", "NoDeed"]
structure GcT (mg : Str → Option Value) : Prop where
  one : True
  MOST_WARES : ∃ t, mg "MOST_WARES" = some (.int 3 t)
  MOST_OFFERS : ∃ t, mg "MOST_OFFERS" = some (.int 6 t)
  MOST_COUNT : ∃ t, mg "MOST_COUNT" = some (.int 5 t)
  MOST_PRICE : ∃ t, mg "MOST_PRICE" = some (.int 99 t)
  MOST_BASKET : ∃ t, mg "MOST_BASKET" = some (.int 9 t)
def inS (i j : Nat) : Stmt := match topS i with
  | .ClassDef _ _ _ b _ _ _ _ _ _ _ => b.getD j (.Pass ⟨0, 0, 0, 0⟩)
  | _ => .Pass ⟨0, 0, 0, 0⟩
section
variable {P : Program} {w : World} {K : PySem.W.Frag} {mg : Str → Option Value} {base : Heap}
abbrev s__law_seed : Stmt := topS 30
theorem sc__law_seed : FnScope ["seed", "k"] ["seed", "k"] (defScope s__law_seed) := ⟨rfl, rfl, rfl, by decide +kernel, rfl, by decide +kernel, by decide +kernel⟩
theorem ok__law_seed [iT : Tb] {f__law_seed : Addr} {fd__law_seed : FuncData} (T__law_seed : DefT K mg "_law_seed" s__law_seed ["seed", "k"] f__law_seed fd__law_seed) (B : BnT mg) (G : GcT mg) : FnOk P w K mg base (L2.CX P w) 1 f__law_seed fd__law_seed ["seed", "k"] (spP K mg 2 m__law_seed) := by
  have sc := sc__law_seed
  refine fn_pure (phn := []) T__law_seed.F sc (fun cdv A outer s H E ec hr => ?_)
  have tk : Takes (cxOf (L2.CX P w) P w K mg base ["seed", "k"] "_law_seed" (defScope s__law_seed) f__law_seed cdv A outer s H E) (fun c d _ H' => E c d H') := takes_of rfl rfl rfl rfl
  exact (db_one (ds_ret (de_op op_modP (de_op op_powP (de_op op_modP (de_op op_addP (de_op op_addP (de_op op_mulS (de_var 0) de_int) (de_op op_mulS de_int (de_var 1))) de_int) de_int) de_int) de_int)))
abbrev s__law_pick : Stmt := topS 31
theorem sc__law_pick : FnScope ["seed", "many"] ["seed", "many"] (defScope s__law_pick) := ⟨rfl, rfl, rfl, by decide +kernel, rfl, by decide +kernel, by decide +kernel⟩
theorem ok__law_pick [iT : Tb] {f__law_pick : Addr} {fd__law_pick : FuncData} (T__law_pick : DefT K mg "_law_pick" s__law_pick ["seed", "many"] f__law_pick fd__law_pick) (B : BnT mg) (G : GcT mg) : FnOk P w K mg base (L2.CX P w) 1 f__law_pick fd__law_pick ["seed", "many"] (spP K mg 2 m__law_pick) := by
  have sc := sc__law_pick
  refine fn_pure (phn := []) T__law_pick.F sc (fun cdv A outer s H E ec hr => ?_)
  have tk : Takes (cxOf (L2.CX P w) P w K mg base ["seed", "many"] "_law_pick" (defScope s__law_pick) f__law_pick cdv A outer s H E) (fun c d _ H' => E c d H') := takes_of rfl rfl rfl rfl
  exact (db_one (ds_ret (de_op op_modP (de_op op_fdivP (de_var 0) de_int) (de_var 1))))
abbrev s__law_offer : Stmt := topS 32
theorem sc__law_offer : FnScope ["seed", "wares", "ware", "price", "many", "counts", "pick", "single", "k"] ["seed", "wares"] (defScope s__law_offer) := ⟨rfl, rfl, rfl, by decide +kernel, rfl, by decide +kernel, by decide +kernel⟩
theorem ok__law_offer [iT : Tb] {f__law_offer : Addr} {fd__law_offer : FuncData} (T__law_offer : DefT K mg "_law_offer" s__law_offer ["seed", "wares"] f__law_offer fd__law_offer) {f__law_seed : Addr} {fd__law_seed : FuncData} (T__law_seed : DefT K mg "_law_seed" s__law_seed ["seed", "k"] f__law_seed fd__law_seed) (O__law_seed : FnOk P w K mg base (L2.CX P w) 1 f__law_seed fd__law_seed ["seed", "k"] (spP K mg 2 m__law_seed)) {f__law_pick : Addr} {fd__law_pick : FuncData} (T__law_pick : DefT K mg "_law_pick" s__law_pick ["seed", "many"] f__law_pick fd__law_pick) (O__law_pick : FnOk P w K mg base (L2.CX P w) 1 f__law_pick fd__law_pick ["seed", "many"] (spP K mg 2 m__law_pick)) (B : BnT mg) (G : GcT mg) : FnOk P w K mg base (L2.CX P w) 2 f__law_offer fd__law_offer ["seed", "wares"] (spP K mg 2 m__law_offer) := by
  have sc := sc__law_offer
  refine fn_pure (phn := []) T__law_offer.F sc (fun cdv A outer s H E ec hr => ?_)
  have tk : Takes (cxOf (L2.CX P w) P w K mg base ["seed", "wares", "ware", "price", "many", "counts", "pick", "single", "k"] "_law_offer" (defScope s__law_offer) f__law_offer cdv A outer s H E) (fun c d _ H' => E c d H') := takes_of rfl rfl rfl rfl
  exact (db_cons (ds_set 2 (de_op op_modP (de_op op_fdivP (de_var 0) de_int) (de_var 1)) sc.nd) (db_cons (ds_set 3 (de_op op_addP de_int (de_op op_modP (de_op op_fdivP (de_var 0) de_int) (de_ix (de_of (do_lst (da_cons de_int (da_cons de_int (da_cons de_int da_nil))))) (de_op op_modP (de_op op_fdivP (de_var 0) de_int) de_int)))) sc.nd) (db_cons (ds_set 4 (de_op op_addP de_int (de_op op_modP (de_op op_fdivP (de_var 0) de_int) de_int)) sc.nd) (db_cons (ds_setLcO 5 (own := [("k", 8)]) rfl sc.nd rfl (sw_true rfl rfl rfl (by kernel_rfl)) (dih_of (di_range1 (de_var 1) B.range_)) (blkOk_by (by kernel_rfl)) (fun _ _ _ _ _ => (dg_name 8 sc.nd)) (fun _ _ _ _ _ => dts_nil) (fun _ _ _ _ _ => (de_op op_modP (de_op op_fdivP (de_fn O__law_seed (hr.mono (by decide)) T__law_seed.g T__law_seed.F.kp T__law_seed.b (fnM_len _ _ _) takes0 (da_cons (de_var 0) (da_cons (de_var 8) da_nil))) de_int) (de_ix (de_of (do_lst (da_cons de_int (da_cons de_int (da_cons de_int da_nil))))) (de_op op_modP (de_op op_fdivP (de_var 0) de_int) de_int)))) (by decide)) (db_cons (ds_putL 5 (de_var 2) (de_callB (cl_max2 rfl) B.max_ (by decide +kernel) (da_cons de_int (da_cons (de_ixO 5 (de_var 2)) da_nil)))) (db_cons (ds_set 6 (de_fn O__law_pick (hr.mono (by decide)) T__law_pick.g T__law_pick.F.kp T__law_pick.b (fnM_len _ _ _) tk (da_cons (de_var 0) (da_cons de_int da_nil))) sc.nd) (db_cons (ds_if (dt_cmp op_ltP (de_var 6) de_int) (db_one (ds_pre (ph1 := [.im, .im, .im, .im, .im, .im, .im, .dead, .dead]) (ds_ret (de_tup (da_cons de_str (da_cons (de_callTy cl_tuple B.tuple_ (by decide +kernel) (da_cons (de_var 5) da_nil)) (da_cons (de_var 3) da_nil))))) rfl)) db_nil) (db_cons (ds_set 7 (de_tup (da_cons de_str (da_cons (de_var 2) (da_cons (de_var 3) da_nil)))) sc.nd) (db_one (ds_ret (de_ix (de_of (do_lst (da_cons (de_var 7) (da_cons (de_var 7) (da_cons (de_tup (da_cons de_str (da_cons (de_var 2) (da_cons (de_var 4) (da_cons (de_var 3) da_nil))))) (da_cons (de_tup (da_cons de_str (da_cons (de_var 2) (da_cons (de_var 4) (da_cons (de_var 3) da_nil))))) da_nil)))))) (de_op op_subP (de_var 6) de_int))))))))))))
abbrev s__law_two_list : Stmt := topS 34
theorem sc__law_two_list : FnScope ["seed", "wares", "found", "k"] ["seed", "wares"] (defScope s__law_two_list) := ⟨rfl, rfl, rfl, by decide +kernel, rfl, by decide +kernel, by decide +kernel⟩
theorem ok__law_two_list [iT : Tb] {f__law_two_list : Addr} {fd__law_two_list : FuncData} (T__law_two_list : DefT K mg "_law_two_list" s__law_two_list ["seed", "wares"] f__law_two_list fd__law_two_list) {f__law_seed : Addr} {fd__law_seed : FuncData} (T__law_seed : DefT K mg "_law_seed" s__law_seed ["seed", "k"] f__law_seed fd__law_seed) (O__law_seed : FnOk P w K mg base (L2.CX P w) 1 f__law_seed fd__law_seed ["seed", "k"] (spP K mg 2 m__law_seed)) {f__law_offer : Addr} {fd__law_offer : FuncData} (T__law_offer : DefT K mg "_law_offer" s__law_offer ["seed", "wares"] f__law_offer fd__law_offer) (O__law_offer : FnOk P w K mg base (L2.CX P w) 2 f__law_offer fd__law_offer ["seed", "wares"] (spP K mg 2 m__law_offer)) (B : BnT mg) (G : GcT mg) : FnOk P w K mg base (L2.CX P w) 3 f__law_two_list fd__law_two_list ["seed", "wares"] (spP K mg 2 m__law_two_list) := by
  have sc := sc__law_two_list
  refine fn_pure (phn := []) T__law_two_list.F sc (fun cdv A outer s H E ec hr => ?_)
  have tk : Takes (cxOf (L2.CX P w) P w K mg base ["seed", "wares", "found", "k"] "_law_two_list" (defScope s__law_two_list) f__law_two_list cdv A outer s H E) (fun c d _ H' => E c d H') := takes_of rfl rfl rfl rfl
  exact (db_cons (ds_setO 2 (do_lst da_nil) sc.nd) (db_cons (ds_for (phn := [.im, .im, .ow, .dead]) (passes_of rfl) rfl (di_range1 (de_op op_addP de_int (de_op op_modP (de_op op_fdivP (de_var 0) de_int) de_int)) B.range_) (dg_name 3 sc.nd) (db_post (db_one (ds_append 2 (de_fn O__law_offer (hr.mono (by decide)) T__law_offer.g T__law_offer.F.kp T__law_offer.b (fnM_len _ _ _) tk (da_cons (de_fn O__law_seed (hr.mono (by decide)) T__law_seed.g T__law_seed.F.kp T__law_seed.b (fnM_len _ _ _) tk (da_cons (de_var 0) (da_cons (de_var 3) da_nil))) (da_cons (de_var 1) da_nil))))) (ph2 := [.im, .im, .ow, .dead]) rfl)) (db_one (ds_pre (ph1 := [.im, .im, .im, .dead]) (ds_ret (de_tup (da_cons (de_var 1) (da_cons (de_callTy cl_tuple B.tuple_ (by decide +kernel) (da_cons (de_var 2) da_nil)) da_nil)))) rfl))))
abbrev s_is_within : Stmt := topS 12
theorem sc_is_within : FnScope ["thing", "low", "high"] ["thing", "low", "high"] (defScope s_is_within) := ⟨rfl, rfl, rfl, by decide +kernel, rfl, by decide +kernel, by decide +kernel⟩
theorem ok_is_within [iT : Tb] {f_is_within : Addr} {fd_is_within : FuncData} (T_is_within : DefT K mg "is_within" s_is_within ["thing", "low", "high"] f_is_within fd_is_within) (B : BnT mg) (G : GcT mg) : FnOk P w K mg base (L2.CX P w) 1 f_is_within fd_is_within ["thing", "low", "high"] (spP K mg 3 m_is_within) := by
  have sc := sc_is_within
  refine fn_pure (phn := []) T_is_within.F sc (fun cdv A outer s H E ec hr => ?_)
  have tk : Takes (cxOf (L2.CX P w) P w K mg base ["thing", "low", "high"] "is_within" (defScope s_is_within) f_is_within cdv A outer s H E) (fun c d _ H' => E c d H') := takes_of rfl rfl rfl rfl
  exact (db_one (ds_ret (de_and (de_isi (de_var 0) B.isinstance_ B.int_ (by decide +kernel)) (de_and (de_not (de_isi (de_var 0) B.isinstance_ B.bool_ (by decide +kernel))) (de_one (de_chain op_leP op_leP (de_var 1) (de_var 0) (de_var 2)))))))
abbrev s_is_offer : Stmt := topS 13
theorem sc_is_offer : FnScope ["wares", "thing", "one"] ["wares", "thing"] (defScope s_is_offer) := ⟨rfl, rfl, rfl, by decide +kernel, rfl, by decide +kernel, by decide +kernel⟩
theorem ok_is_offer [iT : Tb] {f_is_offer : Addr} {fd_is_offer : FuncData} (T_is_offer : DefT K mg "is_offer" s_is_offer ["wares", "thing"] f_is_offer fd_is_offer) {f_is_within : Addr} {fd_is_within : FuncData} (T_is_within : DefT K mg "is_within" s_is_within ["thing", "low", "high"] f_is_within fd_is_within) (O_is_within : FnOk P w K mg base (L2.CX P w) 1 f_is_within fd_is_within ["thing", "low", "high"] (spP K mg 3 m_is_within)) (B : BnT mg) (G : GcT mg) : FnOk P w K mg base (L2.CX P w) 2 f_is_offer fd_is_offer ["wares", "thing"] (spP K mg 2 m_is_offer) := by
  have sc := sc_is_offer
  refine fn_pure (phn := []) T_is_offer.F sc (fun cdv A outer s H E ec hr => ?_)
  have tk : Takes (cxOf (L2.CX P w) P w K mg base ["wares", "thing", "one"] "is_offer" (defScope s_is_offer) f_is_offer cdv A outer s H E) (fun c d _ H' => E c d H') := takes_of rfl rfl rfl rfl
  exact (db_cons (ds_if (dt_w (dw_or (dt_not (dt_truth (de_isi (de_var 1) B.isinstance_ B.tuple_ (by decide +kernel)))) (dw_or (dt_not (dt_truth (de_var 1))) (dw_or1 (dt_not (dt_truth (de_isi (de_ix (de_var 1) de_int) B.isinstance_ B.str_ (by decide +kernel)))))))) (db_one (ds_ret de_bl)) db_nil) (db_cons (ds_if (dt_cmp (op_eqP hr.units) (de_ix (de_var 1) de_int) de_str) (db_cons (ds_if (dt_w (dw_or (dt_cmp (op_neP hr.units) (de_callB cl_len B.len_ (by decide +kernel) (da_cons (de_var 1) da_nil)) de_int) (dw_or (dt_not (dt_truth (de_isi (de_ix (de_var 1) de_int) B.isinstance_ B.tuple_ (by decide +kernel)))) (dw_or1 (dt_cmp (op_neP hr.units) (de_callB cl_len B.len_ (by decide +kernel) (da_cons (de_ix (de_var 1) de_int) da_nil)) (de_var 0)))))) (db_one (ds_ret de_bl)) db_nil) (db_cons (ds_if (dt_w (dw_or (dt_truth (de_of (do_lc (own := [("one", 2)]) rfl sc.nd (dih_of (di_seq (de_ix (de_var 1) de_int))) (blkOk_by (by kernel_rfl)) (fun _ _ _ _ _ => (dg_name 2 sc.nd)) (fun _ _ _ _ _ => (dts_one (dt_not (dt_truth (de_fn O_is_within (hr.mono (by decide)) T_is_within.g T_is_within.F.kp T_is_within.b (fnM_len _ _ _) takes0 (da_cons (de_var 2) (da_cons de_int (da_cons (de_globE G.MOST_COUNT) da_nil)))))))) (fun _ _ _ _ _ => (de_var 2)) (by decide)))) (dw_or1 (dt_cmp (op_eqP hr.units) (de_callB (cl_sum rfl) B.sum_ (by decide +kernel) (da_cons (de_ix (de_var 1) de_int) da_nil)) de_int)))) (db_one (ds_ret de_bl)) db_nil) (db_one (ds_ret (de_fn O_is_within (hr.mono (by decide)) T_is_within.g T_is_within.F.kp T_is_within.b (fnM_len _ _ _) tk (da_cons (de_ix (de_var 1) de_int) (da_cons de_int (da_cons (de_globE G.MOST_PRICE) da_nil)))))))) db_nil) (db_cons (ds_if (dt_w (dw_or (dt_cmp (op_neP hr.units) (de_callB cl_len B.len_ (by decide +kernel) (da_cons (de_var 1) da_nil)) (de_disp3 (hu_of hr) (de_ix (de_var 1) de_int) de_int)) (dw_or1 (dt_not (dt_truth (de_fn O_is_within (hr.mono (by decide)) T_is_within.g T_is_within.F.kp T_is_within.b (fnM_len _ _ _) tk (da_cons (de_ix (de_var 1) de_int) (da_cons de_int (da_cons (de_op op_subP (de_var 0) de_int) da_nil))))))))) (db_one (ds_ret de_bl)) db_nil) (db_cons (ds_if (dt_w (dw_and (dt_cmp (op_neP hr.units) (de_ix (de_var 1) de_int) de_str) (dw_and1 (dt_not (dt_truth (de_fn O_is_within (hr.mono (by decide)) T_is_within.g T_is_within.F.kp T_is_within.b (fnM_len _ _ _) tk (da_cons (de_ix (de_var 1) de_int) (da_cons de_int (da_cons (de_globE G.MOST_COUNT) da_nil))))))))) (db_one (ds_ret de_bl)) db_nil) (db_one (ds_ret (de_fn O_is_within (hr.mono (by decide)) T_is_within.g T_is_within.F.kp T_is_within.b (fnM_len _ _ _) tk (da_cons (de_ix (de_var 1) (de_un un_negP de_int)) (da_cons de_int (da_cons (de_globE G.MOST_PRICE) da_nil))))))))))
abbrev s_is_list : Stmt := topS 14
theorem sc_is_list : FnScope ["thing", "one"] ["thing"] (defScope s_is_list) := ⟨rfl, rfl, rfl, by decide +kernel, rfl, by decide +kernel, by decide +kernel⟩
theorem ok_is_list [iT : Tb] {f_is_list : Addr} {fd_is_list : FuncData} (T_is_list : DefT K mg "is_list" s_is_list ["thing"] f_is_list fd_is_list) {f_is_within : Addr} {fd_is_within : FuncData} (T_is_within : DefT K mg "is_within" s_is_within ["thing", "low", "high"] f_is_within fd_is_within) (O_is_within : FnOk P w K mg base (L2.CX P w) 1 f_is_within fd_is_within ["thing", "low", "high"] (spP K mg 3 m_is_within)) {f_is_offer : Addr} {fd_is_offer : FuncData} (T_is_offer : DefT K mg "is_offer" s_is_offer ["wares", "thing"] f_is_offer fd_is_offer) (O_is_offer : FnOk P w K mg base (L2.CX P w) 2 f_is_offer fd_is_offer ["wares", "thing"] (spP K mg 2 m_is_offer)) (B : BnT mg) (G : GcT mg) : FnOk P w K mg base (L2.CX P w) 3 f_is_list fd_is_list ["thing"] (spP K mg 1 m_is_list) := by
  have sc := sc_is_list
  refine fn_pure (phn := []) T_is_list.F sc (fun cdv A outer s H E ec hr => ?_)
  have tk : Takes (cxOf (L2.CX P w) P w K mg base ["thing", "one"] "is_list" (defScope s_is_list) f_is_list cdv A outer s H E) (fun c d _ H' => E c d H') := takes_of rfl rfl rfl rfl
  exact (db_cons (ds_if (dt_w (dw_or (dt_not (dt_truth (de_isi (de_var 0) B.isinstance_ B.tuple_ (by decide +kernel)))) (dw_or (dt_cmp (op_neP hr.units) (de_callB cl_len B.len_ (by decide +kernel) (da_cons (de_var 0) da_nil)) de_int) (dw_or1 (dt_not (dt_truth (de_fn O_is_within (hr.mono (by decide)) T_is_within.g T_is_within.F.kp T_is_within.b (fnM_len _ _ _) tk (da_cons (de_ix (de_var 0) de_int) (da_cons de_int (da_cons (de_globE G.MOST_WARES) da_nil)))))))))) (db_one (ds_ret de_bl)) db_nil) (db_cons (ds_if (dt_w (dw_or (dt_not (dt_truth (de_isi (de_ix (de_var 0) de_int) B.isinstance_ B.tuple_ (by decide +kernel)))) (dw_or1 (dt_cmp op_gtP (de_callB cl_len B.len_ (by decide +kernel) (da_cons (de_ix (de_var 0) de_int) da_nil)) (de_globE G.MOST_OFFERS))))) (db_one (ds_ret de_bl)) db_nil) (db_one (ds_ret (de_not (de_of (do_lc (own := [("one", 1)]) rfl sc.nd (dih_of (di_seq (de_ix (de_var 0) de_int))) (blkOk_by (by kernel_rfl)) (fun _ _ _ _ _ => (dg_name 1 sc.nd)) (fun _ _ _ _ _ => (dts_one (dt_not (dt_truth (de_fn O_is_offer (hr.mono (by decide)) T_is_offer.g T_is_offer.F.kp T_is_offer.b (fnM_len _ _ _) takes0 (da_cons (de_ix (de_var 0) de_int) (da_cons (de_var 1) da_nil))))))) (fun _ _ _ _ _ => (de_var 1)) (by decide))))))))
abbrev s_look : Stmt := topS 15
theorem sc_look : FnScope ["thing"] ["thing"] (defScope s_look) := ⟨rfl, rfl, rfl, by decide +kernel, rfl, by decide +kernel, by decide +kernel⟩
theorem ok_look [iT : Tb] {f_look : Addr} {fd_look : FuncData} (T_look : DefT K mg "look" s_look ["thing"] f_look fd_look) {f_is_list : Addr} {fd_is_list : FuncData} (T_is_list : DefT K mg "is_list" s_is_list ["thing"] f_is_list fd_is_list) (O_is_list : FnOk P w K mg base (L2.CX P w) 3 f_is_list fd_is_list ["thing"] (spP K mg 1 m_is_list)) {a_BadList : Addr} (X_BadList : ExcT K mg "BadList" a_BadList) (B : BnT mg) (G : GcT mg) : FnOk P w K mg base (L2.CX P w) 4 f_look fd_look ["thing"] (spP K mg 1 m_look) := by
  have sc := sc_look
  refine fn_pure (phn := []) T_look.F sc (fun cdv A outer s H E ec hr => ?_)
  have tk : Takes (cxOf (L2.CX P w) P w K mg base ["thing"] "look" (defScope s_look) f_look cdv A outer s H E) (fun c d _ H' => E c d H') := takes_of rfl rfl rfl rfl
  exact (db_one (ds_if (dt_not (dt_truth (de_fn O_is_list (hr.mono (by decide)) T_is_list.g T_is_list.F.kp T_is_list.b (fnM_len _ _ _) tk (da_cons (de_var 0) da_nil)))) (db_one (ds_raise rfl tk X_BadList)) (db_post db_nil (ph2 := []) rfl)))
abbrev s_Cart : Stmt := inS 27 0
theorem sc_Cart : FnScope ["self", "prices"] ["self", "prices"] (defScope s_Cart) := ⟨rfl, rfl, rfl, by decide +kernel, rfl, by decide +kernel, by decide +kernel⟩
theorem ok_Cart [iT : Tb] {f_Cart : Addr} {fd_Cart : FuncData} (T_Cart : MkT K mg "Cart" "Cart.__init__" s_Cart ["self", "prices"] Tb.cls f_Cart fd_Cart) {f_look : Addr} {fd_look : FuncData} (T_look : DefT K mg "look" s_look ["thing"] f_look fd_look) (O_look : FnOk P w K mg base (L2.CX P w) 4 f_look fd_look ["thing"] (spP K mg 1 m_look)) (CT : CtT K Tb.cls) (B : BnT mg) (G : GcT mg) : FnOk P w K mg base (L2.CX P w) 5 f_Cart fd_Cart ["self", "prices"] (spC K mg 1 m_Cart) := by
  have sc := sc_Cart
  refine fn_cart (phn := [.cw 0]) T_Cart.F sc rfl rfl (fun y cdv A outer s H E ec hr => ?_)
  letI : Tb := Tb.at (T := iT) fun _ => y
  have tk : Takes (cxOf (L2.CX P w) P w K mg base ["self", "prices"] "Cart.__init__" (defScope s_Cart) f_Cart cdv A outer s H E) (fun c d _ H' => E c d H') := takes_of rfl rfl rfl rfl
  exact (db_cons (ds_expr (de_fn (spP_at (T := iT) O_look) (hr.mono (by decide)) T_look.g T_look.F.kp T_look.b (fnM_len _ _ _) tk (da_cons (de_var 1) da_nil))) (db_cons (ds_fldI 0 CT.c CT.prices (de_var 1)) (db_cons (ds_fldI 0 CT.c CT.now (de_tup (da_cons (de_op op_mulS (de_tup (da_cons de_int da_nil)) (de_ix (de_var 1) de_int)) (da_cons (de_tup da_nil) da_nil)))) (db_cons (ds_fldO 0 CT.c CT.past (do_lst da_nil)) (db_post (db_one (ds_fldO 0 CT.c CT.later (do_lst da_nil))) (ph2 := [.cw 0]) rfl)))))
abbrev s__law_cell : Stmt := topS 29
theorem sc__law_cell : FnScope ["script", "k"] ["script", "k"] (defScope s__law_cell) := ⟨rfl, rfl, rfl, by decide +kernel, rfl, by decide +kernel, by decide +kernel⟩
theorem ok__law_cell [iT : Tb] {f__law_cell : Addr} {fd__law_cell : FuncData} (T__law_cell : DefT K mg "_law_cell" s__law_cell ["script", "k"] f__law_cell fd__law_cell) (B : BnT mg) (G : GcT mg) : FnOk P w K mg base (L2.CX P w) 1 f__law_cell fd__law_cell ["script", "k"] (spP K mg 2 m__law_cell) := by
  have sc := sc__law_cell
  refine fn_pure (phn := []) T__law_cell.F sc (fun cdv A outer s H E ec hr => ?_)
  have tk : Takes (cxOf (L2.CX P w) P w K mg base ["script", "k"] "_law_cell" (defScope s__law_cell) f__law_cell cdv A outer s H E) (fun c d _ H' => E c d H') := takes_of rfl rfl rfl rfl
  exact (db_cons (ds_if (dt_cmp op_ltP (de_var 1) (de_callB cl_len B.len_ (by decide +kernel) (da_cons (de_var 0) da_nil))) (db_one (ds_ret (de_ix (de_var 0) (de_var 1)))) db_nil) (db_one (ds_ret de_int)))
abbrev s__law_mix : Stmt := topS 33
theorem sc__law_mix : FnScope ["cell", "prime", "many"] ["cell", "prime", "many"] (defScope s__law_mix) := ⟨rfl, rfl, rfl, by decide +kernel, rfl, by decide +kernel, by decide +kernel⟩
theorem ok__law_mix [iT : Tb] {f__law_mix : Addr} {fd__law_mix : FuncData} (T__law_mix : DefT K mg "_law_mix" s__law_mix ["cell", "prime", "many"] f__law_mix fd__law_mix) (B : BnT mg) (G : GcT mg) : FnOk P w K mg base (L2.CX P w) 1 f__law_mix fd__law_mix ["cell", "prime", "many"] (spP K mg 3 m__law_mix) := by
  have sc := sc__law_mix
  refine fn_pure (phn := []) T__law_mix.F sc (fun cdv A outer s H E ec hr => ?_)
  have tk : Takes (cxOf (L2.CX P w) P w K mg base ["cell", "prime", "many"] "_law_mix" (defScope s__law_mix) f__law_mix cdv A outer s H E) (fun c d _ H' => E c d H') := takes_of rfl rfl rfl rfl
  exact (db_one (ds_ret (de_op op_modP (de_op op_modP (de_op op_mulS (de_var 0) de_int) (de_var 1)) (de_var 2))))
abbrev s_Cart_need : Stmt := inS 27 1
theorem sc_Cart_need : FnScope ["self", "ware", "many"] ["self", "ware", "many"] (defScope s_Cart_need) := ⟨rfl, rfl, rfl, by decide +kernel, rfl, by decide +kernel, by decide +kernel⟩
theorem ok_Cart_need [iT : Tb] {f_Cart_need : Addr} {fd_Cart_need : FuncData} (T_Cart_need : MeT K Tb.cls "need" "Cart.need" s_Cart_need ["self", "ware", "many"] f_Cart_need fd_Cart_need) {f_is_within : Addr} {fd_is_within : FuncData} (T_is_within : DefT K mg "is_within" s_is_within ["thing", "low", "high"] f_is_within fd_is_within) (O_is_within : FnOk P w K mg base (L2.CX P w) 1 f_is_within fd_is_within ["thing", "low", "high"] (spP K mg 3 m_is_within)) (CT : CtT K Tb.cls) {a_BadBasket : Addr} (X_BadBasket : ExcT K mg "BadBasket" a_BadBasket) (B : BnT mg) (G : GcT mg) : FnOk P w K mg base (L2.CX P w) 2 f_Cart_need fd_Cart_need ["self", "ware", "many"] (spR K mg 2 m_Cart_need) := by
  have sc := sc_Cart_need
  refine fn_read (phn := []) T_Cart_need.F sc rfl (fun y cdv A outer s H E ec hr => ?_)
  letI : Tb := Tb.at (T := iT) fun _ => y
  have tk : Takes (cxOf (L2.CX P w) P w K mg base ["self", "ware", "many"] "Cart.need" (defScope s_Cart_need) f_Cart_need cdv A outer s H E) (fun c d _ H' => E c d H') := takes_of rfl rfl rfl rfl
  exact (db_one (ds_if (dt_w (dw_or (dt_not (dt_truth (de_fn (spP_at (T := iT) O_is_within) (hr.mono (by decide)) T_is_within.g T_is_within.F.kp T_is_within.b (fnM_len _ _ _) tk (da_cons (de_var 1) (da_cons de_int (da_cons (de_op op_subP (de_ix (de_fld 0 CT.c CT.prices) de_int) de_int) da_nil)))))) (dw_or1 (dt_not (dt_truth (de_fn (spP_at (T := iT) O_is_within) (hr.mono (by decide)) T_is_within.g T_is_within.F.kp T_is_within.b (fnM_len _ _ _) tk (da_cons (de_var 2) (da_cons de_int (da_cons (de_globE G.MOST_BASKET) da_nil))))))))) (db_one (ds_raise rfl tk X_BadBasket)) (db_post db_nil (ph2 := []) rfl)))
abbrev s_baskets_below : Stmt := topS 22
theorem sc_baskets_below : FnScope ["basket", "found", "many", "longer", "row", "one"] ["basket"] (defScope s_baskets_below) := ⟨rfl, rfl, rfl, by decide +kernel, rfl, by decide +kernel, by decide +kernel⟩
theorem ok_baskets_below [iT : Tb] {f_baskets_below : Addr} {fd_baskets_below : FuncData} (T_baskets_below : DefT K mg "baskets_below" s_baskets_below ["basket"] f_baskets_below fd_baskets_below) {cC cP : Addr} (TB : LamX.TabB base mg cC cP) (hfc : fd_baskets_below.code = .ref cC) (htab : Tb.tab = [(cP, (("baskets_below" ++ ".<locals>.") ++ "<lambda>" : Str))]) (B : BnT mg) (G : GcT mg) : FnOk P w K mg base (L2.CX P w) 4 f_baskets_below fd_baskets_below ["basket"] (spP K mg 1 m_baskets_below) := by
  have sc := sc_baskets_below
  refine fn_pure (phn := []) T_baskets_below.F sc (fun cdv A outer s H E ec hr => ?_)
  have tk : Takes (cxOf (L2.CX P w) P w K mg base ["basket", "found", "many", "longer", "row", "one"] "baskets_below" (defScope s_baskets_below) f_baskets_below cdv A outer s H E) (fun c d _ H' => E c d H') := takes_of rfl rfl rfl rfl
  have hcode : (cxOf (L2.CX P w) P w K mg base ["basket", "found", "many", "longer", "row", "one"] "baskets_below" (defScope s_baskets_below) f_baskets_below cdv A outer s H E).env.code = .ref cC := ec.symm.trans hfc
  have hin : (cP, (cxOf (L2.CX P w) P w K mg base ["basket", "found", "many", "longer", "row", "one"] "baskets_below" (defScope s_baskets_below) f_baskets_below cdv A outer s H E).env.qual ++ "<lambda>") ∈ Tb.tab := by rw [htab]; exact List.mem_singleton.mpr rfl
  have one : ∀ q ∈ Tb.tab, q.1 = cP → q.2 = (cxOf (L2.CX P w) P w K mg base ["basket", "found", "many", "longer", "row", "one"] "baskets_below" (defScope s_baskets_below) f_baskets_below cdv A outer s H E).env.qual ++ "<lambda>" := fun q hq _ => by rw [htab] at hq; rw [List.mem_singleton.mp hq]; rfl
  exact (db_cons (ds_set 1 (de_of (do_lst (da_cons (de_tup da_nil) da_nil))) sc.nd) (db_cons (ds_for (phn := [.dead, .im, .dead, .dead, .dead, .dead]) (passes_of rfl) rfl (di_seq (de_var 0)) (dg_name 2 sc.nd) (db_cons (ds_setO 3 (do_lst da_nil) sc.nd) (db_cons (ds_for (phn := [.dead, .dead, .im, .ow, .dead, .dead]) (passes_of rfl) rfl (di_seq (de_var 1)) (dg_name 4 sc.nd) (db_post (db_one (ds_extend 3 (de_of (do_lc (own := [("one", 5)]) rfl sc.nd (dih_of (di_range1 (de_op op_addP (de_var 2) de_int) B.range_)) (blkOk_by (by kernel_rfl)) (fun _ _ _ _ _ => (dg_name 5 sc.nd)) (fun _ _ _ _ _ => dts_nil) (fun _ _ _ _ _ => (de_op op_addP (de_var 4) (de_tup (da_cons (de_var 5) da_nil)))) (by decide))))) (ph2 := [.dead, .dead, .im, .ow, .dead, .dead]) rfl)) (db_post (db_one (ds_pre (ph1 := [.dead, .dead, .im, .im, .dead, .dead]) (ds_set 1 (de_var 3) sc.nd) rfl)) (ph2 := [.dead, .im, .dead, .dead, .dead, .dead]) rfl)))) (db_one (ds_ret (de_of (do_sortKey (hr.mono (by decide)) rfl (de_var 1) B.sorted_ B.sum_ TB hcode hin one))))))
abbrev s_left : Stmt := topS 21
theorem sc_left : FnScope ["basket", "pack", "one", "other"] ["basket", "pack"] (defScope s_left) := ⟨rfl, rfl, rfl, by decide +kernel, rfl, by decide +kernel, by decide +kernel⟩
theorem ok_left [iT : Tb] {f_left : Addr} {fd_left : FuncData} (T_left : DefT K mg "left" s_left ["basket", "pack"] f_left fd_left) (B : BnT mg) (G : GcT mg) : FnOk P w K mg base (L2.CX P w) 1 f_left fd_left ["basket", "pack"] (spP K mg 2 m_left) := by
  have sc := sc_left
  refine fn_pure (phn := []) T_left.F sc (fun cdv A outer s H E ec hr => ?_)
  have tk : Takes (cxOf (L2.CX P w) P w K mg base ["basket", "pack", "one", "other"] "left" (defScope s_left) f_left cdv A outer s H E) (fun c d _ H' => E c d H') := takes_of rfl rfl rfl rfl
  exact (db_one (ds_ret (de_callTy cl_tuple B.tuple_ (by decide +kernel) (da_cons (de_of (do_lc (own := [("one", 2), ("other", 3)]) rfl sc.nd (dih_of (di_zip2 (de_var 0) (de_var 1) B.zip_)) (blkOk_by (by kernel_rfl)) (fun _ _ _ _ _ => (dg_tup rfl (dgs_cons (dg_name 2 sc.nd) (dgs_cons (dg_name 3 sc.nd) dgs_nil)))) (fun _ _ _ _ _ => dts_nil) (fun _ _ _ _ _ => (de_callB (cl_max2 rfl) B.max_ (by decide +kernel) (da_cons de_int (da_cons (de_op op_subP (de_var 2) (de_var 3)) da_nil)))) (by decide))) da_nil))))
abbrev s_costs_below : Stmt := topS 23
theorem sc_costs_below : FnScope ["some", "basket", "found", "here", "pack", "price", "rest"] ["some", "basket"] (defScope s_costs_below) := ⟨rfl, rfl, rfl, by decide +kernel, rfl, by decide +kernel, by decide +kernel⟩
theorem ok_costs_below [iT : Tb] {f_costs_below : Addr} {fd_costs_below : FuncData} (T_costs_below : DefT K mg "costs_below" s_costs_below ["some", "basket"] f_costs_below fd_costs_below) {f_baskets_below : Addr} {fd_baskets_below : FuncData} (T_baskets_below : DefT K mg "baskets_below" s_baskets_below ["basket"] f_baskets_below fd_baskets_below) (O_baskets_below : FnOk P w K mg base (L2.CX P w) 4 f_baskets_below fd_baskets_below ["basket"] (spP K mg 1 m_baskets_below)) {f_left : Addr} {fd_left : FuncData} (T_left : DefT K mg "left" s_left ["basket", "pack"] f_left fd_left) (O_left : FnOk P w K mg base (L2.CX P w) 1 f_left fd_left ["basket", "pack"] (spP K mg 2 m_left)) (B : BnT mg) (G : GcT mg) : FnOk P w K mg base (L2.CX P w) 5 f_costs_below fd_costs_below ["some", "basket"] (spP K mg 2 m_costs_below) := by
  have sc := sc_costs_below
  refine fn_pure (phn := []) T_costs_below.F sc (fun cdv A outer s H E ec hr => ?_)
  have tk : Takes (cxOf (L2.CX P w) P w K mg base ["some", "basket", "found", "here", "pack", "price", "rest"] "costs_below" (defScope s_costs_below) f_costs_below cdv A outer s H E) (fun c d _ H' => E c d H') := takes_of rfl rfl rfl rfl
  exact (db_cons (ds_setO 2 do_dnew sc.nd) (db_cons (ds_for (phn := [.im, .dead, .ow, .dead, .dead, .dead, .dead]) (passes_of rfl) rfl (di_seq (de_fn O_baskets_below (hr.mono (by decide)) T_baskets_below.g T_baskets_below.F.kp T_baskets_below.b (fnM_len _ _ _) tk (da_cons (de_var 1) da_nil))) (dg_name 3 sc.nd) (db_one (ds_if (dt_cmp (op_eqP hr.units) (de_callB (cl_sum rfl) B.sum_ (by decide +kernel) (da_cons (de_var 3) da_nil)) de_int) (db_post (db_one (ds_putD 2 (un65 hr) (de_var 3) de_int)) (ph2 := [.im, .dead, .ow, .dead, .dead, .dead, .dead]) rfl) (db_cons (ds_putD 2 (un65 hr) (de_var 3) de_non) (db_post (db_one (ds_for (phn := [.im, .dead, .ow, .im, .dead, .dead, .dead]) (passes_of rfl) rfl (di_seq (de_var 0)) (dg_tup rfl (dgs_cons (dg_name 4 sc.nd) (dgs_cons (dg_name 5 sc.nd) dgs_nil))) (db_cons (ds_set 6 (de_fn O_left (hr.mono (by decide)) T_left.g T_left.F.kp T_left.b (fnM_len _ _ _) tk (da_cons (de_var 3) (da_cons (de_var 4) da_nil))) sc.nd) (db_one (ds_if (dt_w (dw_and (dt_cmp (op_neP hr.units) (de_var 6) (de_var 3)) (dw_and1 (dt_cmp op_isnotP (de_dget (un65 hr) (dbo_own 2) (de_var 6)) de_non)))) (db_one (ds_if (dt_w (dw_or (dt_cmp op_isP (de_dget (un65 hr) (dbo_own 2) (de_var 3)) de_non) (dw_or1 (dt_cmp op_ltP (de_op op_addP (de_dget (un65 hr) (dbo_own 2) (de_var 6)) (de_var 5)) (de_dget (un65 hr) (dbo_own 2) (de_var 3)))))) (db_post (db_one (ds_putD 2 (un65 hr) (de_var 3) (de_op op_addP (de_dget (un65 hr) (dbo_own 2) (de_var 6)) (de_var 5)))) (ph2 := [.im, .dead, .ow, .im, .dead, .dead, .dead]) rfl) (db_post db_nil (ph2 := [.im, .dead, .ow, .im, .dead, .dead, .dead]) rfl))) (db_post db_nil (ph2 := [.im, .dead, .ow, .im, .dead, .dead, .dead]) rfl)))))) (ph2 := [.im, .dead, .ow, .dead, .dead, .dead, .dead]) rfl))))) (db_one (ds_pre (ph1 := [.im, .dead, .im, .dead, .dead, .dead, .dead]) (ds_ret (de_var 2)) rfl))))
abbrev s_cost_by : Stmt := topS 24
theorem sc_cost_by : FnScope ["some", "basket"] ["some", "basket"] (defScope s_cost_by) := ⟨rfl, rfl, rfl, by decide +kernel, rfl, by decide +kernel, by decide +kernel⟩
theorem ok_cost_by [iT : Tb] {f_cost_by : Addr} {fd_cost_by : FuncData} (T_cost_by : DefT K mg "cost_by" s_cost_by ["some", "basket"] f_cost_by fd_cost_by) {f_costs_below : Addr} {fd_costs_below : FuncData} (T_costs_below : DefT K mg "costs_below" s_costs_below ["some", "basket"] f_costs_below fd_costs_below) (O_costs_below : FnOk P w K mg base (L2.CX P w) 5 f_costs_below fd_costs_below ["some", "basket"] (spP K mg 2 m_costs_below)) (B : BnT mg) (G : GcT mg) : FnOk P w K mg base (L2.CX P w) 6 f_cost_by fd_cost_by ["some", "basket"] (spP K mg 2 m_cost_by) := by
  have sc := sc_cost_by
  refine fn_pure (phn := []) T_cost_by.F sc (fun cdv A outer s H E ec hr => ?_)
  have tk : Takes (cxOf (L2.CX P w) P w K mg base ["some", "basket"] "cost_by" (defScope s_cost_by) f_cost_by cdv A outer s H E) (fun c d _ H' => E c d H') := takes_of rfl rfl rfl rfl
  exact (db_one (ds_ret (de_dget (un65 hr) (dbo_of (de_fn O_costs_below (hr.mono (by decide)) T_costs_below.g T_costs_below.F.kp T_costs_below.b (fnM_len _ _ _) tk (da_cons (de_var 0) (da_cons (de_var 1) da_nil)))) (de_var 1))))
abbrev s_alone : Stmt := topS 17
theorem sc_alone : FnScope ["wares", "ware", "many", "at"] ["wares", "ware", "many"] (defScope s_alone) := ⟨rfl, rfl, rfl, by decide +kernel, rfl, by decide +kernel, by decide +kernel⟩
theorem ok_alone [iT : Tb] {f_alone : Addr} {fd_alone : FuncData} (T_alone : DefT K mg "alone" s_alone ["wares", "ware", "many"] f_alone fd_alone) (B : BnT mg) (G : GcT mg) : FnOk P w K mg base (L2.CX P w) 1 f_alone fd_alone ["wares", "ware", "many"] (spP K mg 3 m_alone) := by
  have sc := sc_alone
  refine fn_pure (phn := []) T_alone.F sc (fun cdv A outer s H E ec hr => ?_)
  have tk : Takes (cxOf (L2.CX P w) P w K mg base ["wares", "ware", "many", "at"] "alone" (defScope s_alone) f_alone cdv A outer s H E) (fun c d _ H' => E c d H') := takes_of rfl rfl rfl rfl
  exact (db_one (ds_ret (de_callTy cl_tuple B.tuple_ (by decide +kernel) (da_cons (de_of (do_lc (own := [("at", 3)]) rfl sc.nd (dih_of (di_range1 (de_var 0) B.range_)) (blkOk_by (by kernel_rfl)) (fun _ _ _ _ _ => (dg_name 3 sc.nd)) (fun _ _ _ _ _ => dts_nil) (fun _ _ _ _ _ => (de_if (dt_cmp (op_eqP hr.units) (de_var 3) (de_var 1)) (de_var 2) de_int)) (by decide))) da_nil))))
abbrev s_packs_of : Stmt := topS 18
theorem sc_packs_of : FnScope ["wares", "offer", "many"] ["wares", "offer"] (defScope s_packs_of) := ⟨rfl, rfl, rfl, by decide +kernel, rfl, by decide +kernel, by decide +kernel⟩
theorem ok_packs_of [iT : Tb] {f_packs_of : Addr} {fd_packs_of : FuncData} (T_packs_of : DefT K mg "packs_of" s_packs_of ["wares", "offer"] f_packs_of fd_packs_of) {f_alone : Addr} {fd_alone : FuncData} (T_alone : DefT K mg "alone" s_alone ["wares", "ware", "many"] f_alone fd_alone) (O_alone : FnOk P w K mg base (L2.CX P w) 1 f_alone fd_alone ["wares", "ware", "many"] (spP K mg 3 m_alone)) (B : BnT mg) (G : GcT mg) : FnOk P w K mg base (L2.CX P w) 2 f_packs_of fd_packs_of ["wares", "offer"] (spP K mg 2 m_packs_of) := by
  have sc := sc_packs_of
  refine fn_pure (phn := []) T_packs_of.F sc (fun cdv A outer s H E ec hr => ?_)
  have tk : Takes (cxOf (L2.CX P w) P w K mg base ["wares", "offer", "many"] "packs_of" (defScope s_packs_of) f_packs_of cdv A outer s H E) (fun c d _ H' => E c d H') := takes_of rfl rfl rfl rfl
  exact (db_cons (ds_if (dt_cmp (op_eqP hr.units) (de_ix (de_var 1) de_int) de_str) (db_one (ds_ret (de_of (do_lst (da_cons (de_tup (da_cons (de_ix (de_var 1) de_int) (da_cons (de_ix (de_var 1) de_int) da_nil))) da_nil))))) db_nil) (db_cons (ds_if (dt_cmp (op_eqP hr.units) (de_ix (de_var 1) de_int) de_str) (db_one (ds_ret (de_of (do_lst (da_cons (de_tup (da_cons (de_fn O_alone (hr.mono (by decide)) T_alone.g T_alone.F.kp T_alone.b (fnM_len _ _ _) tk (da_cons (de_var 0) (da_cons (de_ix (de_var 1) de_int) (da_cons de_int da_nil)))) (da_cons (de_ix (de_var 1) de_int) da_nil))) da_nil))))) db_nil) (db_cons (ds_if (dt_cmp (op_eqP hr.units) (de_ix (de_var 1) de_int) de_str) (db_one (ds_ret (de_of (do_lst (da_cons (de_tup (da_cons (de_fn O_alone (hr.mono (by decide)) T_alone.g T_alone.F.kp T_alone.b (fnM_len _ _ _) tk (da_cons (de_var 0) (da_cons (de_ix (de_var 1) de_int) (da_cons (de_ix (de_var 1) de_int) da_nil)))) (da_cons (de_ix (de_var 1) de_int) da_nil))) da_nil))))) db_nil) (db_one (ds_ret (de_of (do_lc (own := [("many", 2)]) rfl sc.nd (dih_of (di_range2 (de_ix (de_var 1) de_int) (de_op op_mulS de_int (de_ix (de_var 1) de_int)) B.range_)) (blkOk_by (by kernel_rfl)) (fun _ _ _ _ _ => (dg_name 2 sc.nd)) (fun _ _ _ _ _ => dts_nil) (fun _ _ _ _ _ => (de_tup (da_cons (de_fn O_alone (hr.mono (by decide)) T_alone.g T_alone.F.kp T_alone.b (fnM_len _ _ _) takes0 (da_cons (de_var 0) (da_cons (de_ix (de_var 1) de_int) (da_cons (de_var 2) da_nil)))) (da_cons (de_op op_mulS (de_var 2) (de_ix (de_var 1) de_int)) da_nil)))) (by decide))))))))
abbrev s_all_packs : Stmt := topS 19
theorem sc_all_packs : FnScope ["prices", "wares", "offers", "found", "offer"] ["prices"] (defScope s_all_packs) := ⟨rfl, rfl, rfl, by decide +kernel, rfl, by decide +kernel, by decide +kernel⟩
theorem ok_all_packs [iT : Tb] {f_all_packs : Addr} {fd_all_packs : FuncData} (T_all_packs : DefT K mg "all_packs" s_all_packs ["prices"] f_all_packs fd_all_packs) {f_packs_of : Addr} {fd_packs_of : FuncData} (T_packs_of : DefT K mg "packs_of" s_packs_of ["wares", "offer"] f_packs_of fd_packs_of) (O_packs_of : FnOk P w K mg base (L2.CX P w) 2 f_packs_of fd_packs_of ["wares", "offer"] (spP K mg 2 m_packs_of)) (B : BnT mg) (G : GcT mg) : FnOk P w K mg base (L2.CX P w) 3 f_all_packs fd_all_packs ["prices"] (spP K mg 1 m_all_packs) := by
  have sc := sc_all_packs
  refine fn_pure (phn := []) T_all_packs.F sc (fun cdv A outer s H E ec hr => ?_)
  have tk : Takes (cxOf (L2.CX P w) P w K mg base ["prices", "wares", "offers", "found", "offer"] "all_packs" (defScope s_all_packs) f_all_packs cdv A outer s H E) (fun c d _ H' => E c d H') := takes_of rfl rfl rfl rfl
  exact (db_cons (ds_asg (de_var 0) (dg_tup rfl (dgs_cons (dg_name 1 sc.nd) (dgs_cons (dg_name 2 sc.nd) dgs_nil)))) (db_cons (ds_setO 3 (do_lst da_nil) sc.nd) (db_cons (ds_for (phn := [.dead, .im, .dead, .ow, .dead]) (passes_of rfl) rfl (di_seq (de_var 2)) (dg_name 4 sc.nd) (db_post (db_one (ds_extend 3 (de_fn O_packs_of (hr.mono (by decide)) T_packs_of.g T_packs_of.F.kp T_packs_of.b (fnM_len _ _ _) tk (da_cons (de_var 1) (da_cons (de_var 4) da_nil))))) (ph2 := [.dead, .im, .dead, .ow, .dead]) rfl)) (db_one (ds_pre (ph1 := [.dead, .im, .dead, .im, .dead]) (ds_ret (de_of (do_sortSet (hr.mono (by decide)) rfl (de_var 3) B.sorted_ B.set_))) rfl)))))
abbrev s_Cart_price : Stmt := inS 27 8
theorem sc_Cart_price : FnScope ["self"] ["self"] (defScope s_Cart_price) := ⟨rfl, rfl, rfl, by decide +kernel, rfl, by decide +kernel, by decide +kernel⟩
theorem ok_Cart_price [iT : Tb] {f_Cart_price : Addr} {fd_Cart_price : FuncData} (T_Cart_price : MeT K Tb.cls "price" "Cart.price" s_Cart_price ["self"] f_Cart_price fd_Cart_price) {f_all_packs : Addr} {fd_all_packs : FuncData} (T_all_packs : DefT K mg "all_packs" s_all_packs ["prices"] f_all_packs fd_all_packs) (O_all_packs : FnOk P w K mg base (L2.CX P w) 3 f_all_packs fd_all_packs ["prices"] (spP K mg 1 m_all_packs)) {f_cost_by : Addr} {fd_cost_by : FuncData} (T_cost_by : DefT K mg "cost_by" s_cost_by ["some", "basket"] f_cost_by fd_cost_by) (O_cost_by : FnOk P w K mg base (L2.CX P w) 6 f_cost_by fd_cost_by ["some", "basket"] (spP K mg 2 m_cost_by)) (CT : CtT K Tb.cls) (B : BnT mg) (G : GcT mg) : FnOk P w K mg base (L2.CX P w) 7 f_Cart_price fd_Cart_price ["self"] (spR K mg 0 m_Cart_price) := by
  have sc := sc_Cart_price
  refine fn_read (phn := []) T_Cart_price.F sc rfl (fun y cdv A outer s H E ec hr => ?_)
  letI : Tb := Tb.at (T := iT) fun _ => y
  have tk : Takes (cxOf (L2.CX P w) P w K mg base ["self"] "Cart.price" (defScope s_Cart_price) f_Cart_price cdv A outer s H E) (fun c d _ H' => E c d H') := takes_of rfl rfl rfl rfl
  exact (db_one (ds_ret (de_fn (spP_at (T := iT) O_cost_by) (hr.mono (by decide)) T_cost_by.g T_cost_by.F.kp T_cost_by.b (fnM_len _ _ _) tk (da_cons (de_fn (spP_at (T := iT) O_all_packs) (hr.mono (by decide)) T_all_packs.g T_all_packs.F.kp T_all_packs.b (fnM_len _ _ _) tk (da_cons (de_fld 0 CT.c CT.prices) da_nil)) (da_cons (de_ix (de_fld 0 CT.c CT.now) de_int) da_nil)))))
abbrev s_Cart_go : Stmt := inS 27 2
theorem sc_Cart_go : FnScope ["self", "ware", "change", "deed", "basket"] ["self", "ware", "change", "deed"] (defScope s_Cart_go) := ⟨rfl, rfl, rfl, by decide +kernel, rfl, by decide +kernel, by decide +kernel⟩
theorem ok_Cart_go [iT : Tb] {f_Cart_go : Addr} {fd_Cart_go : FuncData} (T_Cart_go : MeT K Tb.cls "go" "Cart.go" s_Cart_go ["self", "ware", "change", "deed"] f_Cart_go fd_Cart_go) {f_Cart_price : Addr} {fd_Cart_price : FuncData} (T_Cart_price : MeT K Tb.cls "price" "Cart.price" s_Cart_price ["self"] f_Cart_price fd_Cart_price) (O_Cart_price : FnOk P w K mg base (L2.CX P w) 7 f_Cart_price fd_Cart_price ["self"] (spR K mg 0 m_Cart_price)) (CT : CtT K Tb.cls) (B : BnT mg) (G : GcT mg) : FnOk P w K mg base (L2.CX P w) 8 f_Cart_go fd_Cart_go ["self", "ware", "change", "deed"] (spC K mg 3 m_Cart_go) := by
  have sc := sc_Cart_go
  refine fn_cart (phn := [.cw 0]) T_Cart_go.F sc rfl rfl (fun y cdv A outer s H E ec hr => ?_)
  letI : Tb := Tb.at (T := iT) fun _ => y
  have tk : Takes (cxOf (L2.CX P w) P w K mg base ["self", "ware", "change", "deed", "basket"] "Cart.go" (defScope s_Cart_go) f_Cart_go cdv A outer s H E) (fun c d _ H' => E c d H') := takes_of rfl rfl rfl rfl
  exact (db_cons (ds_set 4 (de_ix (de_fld 0 CT.c CT.now) de_int) sc.nd) (db_cons (ds_fldA 0 CT.c CT.past (de_fld 0 CT.c CT.now)) (db_cons (ds_fldI 0 CT.c CT.now (de_tup (da_cons (de_op op_addP (de_op op_addP (de_slice (de_var 4) dp_none (dp_some (de_var 1))) (de_tup (da_cons (de_op op_addP (de_ix (de_var 4) (de_var 1)) (de_var 2)) da_nil))) (de_slice (de_var 4) (dp_some (de_op op_addP (de_var 1) de_int)) dp_none)) (da_cons (de_op op_addP (de_ix (de_fld 0 CT.c CT.now) de_int) (de_tup (da_cons (de_var 3) da_nil))) da_nil)))) (db_cons (ds_fldO 0 CT.c CT.later (do_lst da_nil)) (db_one (ds_retC 0 (dx_of (de_meth0 0 CT.c T_Cart_price.m (spR_at (T := iT) O_Cart_price) (hr.mono (by decide)) T_Cart_price.b (fnM_len _ _ _) tk))))))))
abbrev s_Cart_put : Stmt := inS 27 3
theorem sc_Cart_put : FnScope ["self", "ware", "many"] ["self", "ware", "many"] (defScope s_Cart_put) := ⟨rfl, rfl, rfl, by decide +kernel, rfl, by decide +kernel, by decide +kernel⟩
theorem ok_Cart_put [iT : Tb] {f_Cart_put : Addr} {fd_Cart_put : FuncData} (T_Cart_put : MeT K Tb.cls "put" "Cart.put" s_Cart_put ["self", "ware", "many"] f_Cart_put fd_Cart_put) {f_Cart_need : Addr} {fd_Cart_need : FuncData} (T_Cart_need : MeT K Tb.cls "need" "Cart.need" s_Cart_need ["self", "ware", "many"] f_Cart_need fd_Cart_need) (O_Cart_need : FnOk P w K mg base (L2.CX P w) 2 f_Cart_need fd_Cart_need ["self", "ware", "many"] (spR K mg 2 m_Cart_need)) {f_Cart_go : Addr} {fd_Cart_go : FuncData} (T_Cart_go : MeT K Tb.cls "go" "Cart.go" s_Cart_go ["self", "ware", "change", "deed"] f_Cart_go fd_Cart_go) (O_Cart_go : FnOk P w K mg base (L2.CX P w) 8 f_Cart_go fd_Cart_go ["self", "ware", "change", "deed"] (spC K mg 3 m_Cart_go)) (CT : CtT K Tb.cls) {a_Full : Addr} (X_Full : ExcT K mg "Full" a_Full) (B : BnT mg) (G : GcT mg) : FnOk P w K mg base (L2.CX P w) 9 f_Cart_put fd_Cart_put ["self", "ware", "many"] (spC K mg 2 m_Cart_put) := by
  have sc := sc_Cart_put
  refine fn_cart (phn := [.cw 0]) T_Cart_put.F sc rfl rfl (fun y cdv A outer s H E ec hr => ?_)
  letI : Tb := Tb.at (T := iT) fun _ => y
  have tk : Takes (cxOf (L2.CX P w) P w K mg base ["self", "ware", "many"] "Cart.put" (defScope s_Cart_put) f_Cart_put cdv A outer s H E) (fun c d _ H' => E c d H') := takes_of rfl rfl rfl rfl
  exact (db_cons (ds_expr (de_meth 0 CT.c T_Cart_need.m (spR_at (T := iT) O_Cart_need) (hr.mono (by decide)) T_Cart_need.b (fnM_len _ _ _) tk (da_cons (de_var 1) (da_cons (de_var 2) da_nil)))) (db_cons (ds_if (dt_cmp op_gtP (de_op op_addP (de_ix (de_ix (de_fld 0 CT.c CT.now) de_int) (de_var 1)) (de_var 2)) (de_globE G.MOST_BASKET)) (db_one (ds_raise rfl tk X_Full)) db_nil) (db_one (ds_retC 0 (dx_meth 0 CT.c T_Cart_go.m (spC_at (T := iT) O_Cart_go) (hr.mono (by decide)) T_Cart_go.b (fnC_len _ _ _) tk (da_cons (de_var 1) (da_cons (de_var 2) (da_cons (de_tup (da_cons de_str (da_cons (de_var 1) (da_cons (de_var 2) da_nil)))) da_nil))))))))
abbrev s_Cart_take : Stmt := inS 27 4
theorem sc_Cart_take : FnScope ["self", "ware", "many"] ["self", "ware", "many"] (defScope s_Cart_take) := ⟨rfl, rfl, rfl, by decide +kernel, rfl, by decide +kernel, by decide +kernel⟩
theorem ok_Cart_take [iT : Tb] {f_Cart_take : Addr} {fd_Cart_take : FuncData} (T_Cart_take : MeT K Tb.cls "take" "Cart.take" s_Cart_take ["self", "ware", "many"] f_Cart_take fd_Cart_take) {f_Cart_need : Addr} {fd_Cart_need : FuncData} (T_Cart_need : MeT K Tb.cls "need" "Cart.need" s_Cart_need ["self", "ware", "many"] f_Cart_need fd_Cart_need) (O_Cart_need : FnOk P w K mg base (L2.CX P w) 2 f_Cart_need fd_Cart_need ["self", "ware", "many"] (spR K mg 2 m_Cart_need)) {f_Cart_go : Addr} {fd_Cart_go : FuncData} (T_Cart_go : MeT K Tb.cls "go" "Cart.go" s_Cart_go ["self", "ware", "change", "deed"] f_Cart_go fd_Cart_go) (O_Cart_go : FnOk P w K mg base (L2.CX P w) 8 f_Cart_go fd_Cart_go ["self", "ware", "change", "deed"] (spC K mg 3 m_Cart_go)) (CT : CtT K Tb.cls) {a_BadBasket : Addr} (X_BadBasket : ExcT K mg "BadBasket" a_BadBasket) (B : BnT mg) (G : GcT mg) : FnOk P w K mg base (L2.CX P w) 9 f_Cart_take fd_Cart_take ["self", "ware", "many"] (spC K mg 2 m_Cart_take) := by
  have sc := sc_Cart_take
  refine fn_cart (phn := [.cw 0]) T_Cart_take.F sc rfl rfl (fun y cdv A outer s H E ec hr => ?_)
  letI : Tb := Tb.at (T := iT) fun _ => y
  have tk : Takes (cxOf (L2.CX P w) P w K mg base ["self", "ware", "many"] "Cart.take" (defScope s_Cart_take) f_Cart_take cdv A outer s H E) (fun c d _ H' => E c d H') := takes_of rfl rfl rfl rfl
  exact (db_cons (ds_expr (de_meth 0 CT.c T_Cart_need.m (spR_at (T := iT) O_Cart_need) (hr.mono (by decide)) T_Cart_need.b (fnM_len _ _ _) tk (da_cons (de_var 1) (da_cons (de_var 2) da_nil)))) (db_cons (ds_if (dt_cmp op_ltP (de_ix (de_ix (de_fld 0 CT.c CT.now) de_int) (de_var 1)) (de_var 2)) (db_one (ds_raise rfl tk X_BadBasket)) db_nil) (db_one (ds_retC 0 (dx_meth 0 CT.c T_Cart_go.m (spC_at (T := iT) O_Cart_go) (hr.mono (by decide)) T_Cart_go.b (fnC_len _ _ _) tk (da_cons (de_var 1) (da_cons (de_op op_subP de_int (de_var 2)) (da_cons (de_tup (da_cons de_str (da_cons (de_var 1) (da_cons (de_var 2) da_nil)))) da_nil))))))))
abbrev s_Cart_undo : Stmt := inS 27 5
theorem sc_Cart_undo : FnScope ["self"] ["self"] (defScope s_Cart_undo) := ⟨rfl, rfl, rfl, by decide +kernel, rfl, by decide +kernel, by decide +kernel⟩
theorem ok_Cart_undo [iT : Tb] {f_Cart_undo : Addr} {fd_Cart_undo : FuncData} (T_Cart_undo : MeT K Tb.cls "undo" "Cart.undo" s_Cart_undo ["self"] f_Cart_undo fd_Cart_undo) (CT : CtT K Tb.cls) {a_NoDeed : Addr} (X_NoDeed : ExcT K mg "NoDeed" a_NoDeed) (B : BnT mg) (G : GcT mg) : FnOk P w K mg base (L2.CX P w) 1 f_Cart_undo fd_Cart_undo ["self"] (spC K mg 0 m_Cart_undo) := by
  have sc := sc_Cart_undo
  refine fn_cart (phn := [.cw 0]) T_Cart_undo.F sc rfl rfl (fun y cdv A outer s H E ec hr => ?_)
  letI : Tb := Tb.at (T := iT) fun _ => y
  have tk : Takes (cxOf (L2.CX P w) P w K mg base ["self"] "Cart.undo" (defScope s_Cart_undo) f_Cart_undo cdv A outer s H E) (fun c d _ H' => E c d H') := takes_of rfl rfl rfl rfl
  exact (db_cons (ds_if (dt_not (dt_fld 0 CT.c CT.past)) (db_one (ds_raise rfl tk X_NoDeed)) db_nil) (db_cons (ds_fldA 0 CT.c CT.later (de_fld 0 CT.c CT.now)) (db_one (ds_fldP 0 CT.c CT.past CT.now))))
abbrev s_Cart_redo : Stmt := inS 27 6
theorem sc_Cart_redo : FnScope ["self"] ["self"] (defScope s_Cart_redo) := ⟨rfl, rfl, rfl, by decide +kernel, rfl, by decide +kernel, by decide +kernel⟩
theorem ok_Cart_redo [iT : Tb] {f_Cart_redo : Addr} {fd_Cart_redo : FuncData} (T_Cart_redo : MeT K Tb.cls "redo" "Cart.redo" s_Cart_redo ["self"] f_Cart_redo fd_Cart_redo) (CT : CtT K Tb.cls) {a_NoDeed : Addr} (X_NoDeed : ExcT K mg "NoDeed" a_NoDeed) (B : BnT mg) (G : GcT mg) : FnOk P w K mg base (L2.CX P w) 1 f_Cart_redo fd_Cart_redo ["self"] (spC K mg 0 m_Cart_redo) := by
  have sc := sc_Cart_redo
  refine fn_cart (phn := [.cw 0]) T_Cart_redo.F sc rfl rfl (fun y cdv A outer s H E ec hr => ?_)
  letI : Tb := Tb.at (T := iT) fun _ => y
  have tk : Takes (cxOf (L2.CX P w) P w K mg base ["self"] "Cart.redo" (defScope s_Cart_redo) f_Cart_redo cdv A outer s H E) (fun c d _ H' => E c d H') := takes_of rfl rfl rfl rfl
  exact (db_cons (ds_if (dt_not (dt_fld 0 CT.c CT.later)) (db_one (ds_raise rfl tk X_NoDeed)) db_nil) (db_cons (ds_fldA 0 CT.c CT.past (de_fld 0 CT.c CT.now)) (db_one (ds_fldP 0 CT.c CT.later CT.now))))
abbrev s__law_cart_deed : Stmt := topS 35
theorem sc__law_cart_deed : FnScope ["cart", "deed", "found"] ["cart", "deed"] (defScope s__law_cart_deed) := ⟨rfl, rfl, rfl, by decide +kernel, rfl, by decide +kernel, by decide +kernel⟩
theorem ok__law_cart_deed [iT : Tb] {f__law_cart_deed : Addr} {fd__law_cart_deed : FuncData} (T__law_cart_deed : DefT K mg "_law_cart_deed" s__law_cart_deed ["cart", "deed"] f__law_cart_deed fd__law_cart_deed) {f_Cart_put : Addr} {fd_Cart_put : FuncData} (T_Cart_put : MeT K Tb.cls "put" "Cart.put" s_Cart_put ["self", "ware", "many"] f_Cart_put fd_Cart_put) (O_Cart_put : FnOk P w K mg base (L2.CX P w) 9 f_Cart_put fd_Cart_put ["self", "ware", "many"] (spC K mg 2 m_Cart_put)) {f_Cart_take : Addr} {fd_Cart_take : FuncData} (T_Cart_take : MeT K Tb.cls "take" "Cart.take" s_Cart_take ["self", "ware", "many"] f_Cart_take fd_Cart_take) (O_Cart_take : FnOk P w K mg base (L2.CX P w) 9 f_Cart_take fd_Cart_take ["self", "ware", "many"] (spC K mg 2 m_Cart_take)) {f_Cart_undo : Addr} {fd_Cart_undo : FuncData} (T_Cart_undo : MeT K Tb.cls "undo" "Cart.undo" s_Cart_undo ["self"] f_Cart_undo fd_Cart_undo) (O_Cart_undo : FnOk P w K mg base (L2.CX P w) 1 f_Cart_undo fd_Cart_undo ["self"] (spC K mg 0 m_Cart_undo)) {f_Cart_redo : Addr} {fd_Cart_redo : FuncData} (T_Cart_redo : MeT K Tb.cls "redo" "Cart.redo" s_Cart_redo ["self"] f_Cart_redo fd_Cart_redo) (O_Cart_redo : FnOk P w K mg base (L2.CX P w) 1 f_Cart_redo fd_Cart_redo ["self"] (spC K mg 0 m_Cart_redo)) (CT : CtT K Tb.cls) {a_BadBasket : Addr} (X_BadBasket : ExcT K mg "BadBasket" a_BadBasket) {a_Full : Addr} (X_Full : ExcT K mg "Full" a_Full) {a_NoDeed : Addr} (X_NoDeed : ExcT K mg "NoDeed" a_NoDeed) (EA : ExcAll K mg excN) (B : BnT mg) (G : GcT mg) : FnOk P w K mg base (L2.CX P w) 10 f__law_cart_deed fd__law_cart_deed ["cart", "deed"] (spC K mg 1 m__law_cart_deed) := by
  have sc := sc__law_cart_deed
  refine fn_cart (phn := [.cw 0]) T__law_cart_deed.F sc rfl rfl (fun y cdv A outer s H E ec hr => ?_)
  letI : Tb := Tb.at (T := iT) fun _ => y
  have tk : Takes (cxOf (L2.CX P w) P w K mg base ["cart", "deed", "found"] "_law_cart_deed" (defScope s__law_cart_deed) f__law_cart_deed cdv A outer s H E) (fun c d _ H' => E c d H') := takes_of rfl rfl rfl rfl
  exact (db_cons (ds_try (phe := [.cw 0, .im, .dead]) (EA.sub (by decide)) tk (fun _ _ _ tk => (db_one (ds_if (dt_cmp (op_eqP hr.units) (de_ix (de_var 1) de_int) de_str) (db_one (ds_setX 2 (dx_meth 0 CT.c T_Cart_put.m (spC_at (T := iT) O_Cart_put) (hr.mono (by decide)) T_Cart_put.b (fnC_len _ _ _) tk (da_cons (de_ix (de_var 1) de_int) (da_cons (de_ix (de_var 1) de_int) da_nil))) sc.nd)) (db_one (ds_if (dt_cmp (op_eqP hr.units) (de_ix (de_var 1) de_int) de_str) (db_one (ds_setX 2 (dx_meth 0 CT.c T_Cart_take.m (spC_at (T := iT) O_Cart_take) (hr.mono (by decide)) T_Cart_take.b (fnC_len _ _ _) tk (da_cons (de_ix (de_var 1) de_int) (da_cons (de_ix (de_var 1) de_int) da_nil))) sc.nd)) (db_one (ds_setX 2 (dx_if (dt_cmp (op_eqP hr.units) (de_ix (de_var 1) de_int) de_str) (dx_meth0 0 CT.c T_Cart_undo.m (spC_at (T := iT) O_Cart_undo) (hr.mono (by decide)) T_Cart_undo.b (fnC_len _ _ _) tk) (dx_meth0 0 CT.c T_Cart_redo.m (spC_at (T := iT) O_Cart_redo) (hr.mono (by decide)) T_Cart_redo.b (fnC_len _ _ _) tk)) sc.nd))))))) (dh_cons X_BadBasket.g (fun _ _ _ => (db_one (ds_set 2 de_str sc.nd))) (dh_cons X_Full.g (fun _ _ _ => (db_one (ds_set 2 de_str sc.nd))) (dh_cons X_NoDeed.g (fun _ _ _ => (db_one (ds_set 2 de_str sc.nd))) dh_nil))) (by decide)) (db_one (ds_retC 0 (dx_of (de_var 2)))))
abbrev s_Cart_log : Stmt := inS 27 9
theorem sc_Cart_log : FnScope ["self"] ["self"] (defScope s_Cart_log) := ⟨rfl, rfl, rfl, by decide +kernel, rfl, by decide +kernel, by decide +kernel⟩
theorem ok_Cart_log [iT : Tb] {f_Cart_log : Addr} {fd_Cart_log : FuncData} (T_Cart_log : MeT K Tb.cls "log" "Cart.log" s_Cart_log ["self"] f_Cart_log fd_Cart_log) (CT : CtT K Tb.cls) (B : BnT mg) (G : GcT mg) : FnOk P w K mg base (L2.CX P w) 1 f_Cart_log fd_Cart_log ["self"] (spR K mg 0 m_Cart_log) := by
  have sc := sc_Cart_log
  refine fn_read (phn := []) T_Cart_log.F sc rfl (fun y cdv A outer s H E ec hr => ?_)
  letI : Tb := Tb.at (T := iT) fun _ => y
  have tk : Takes (cxOf (L2.CX P w) P w K mg base ["self"] "Cart.log" (defScope s_Cart_log) f_Cart_log cdv A outer s H E) (fun c d _ H' => E c d H') := takes_of rfl rfl rfl rfl
  exact (db_one (ds_ret (de_of (do_callTy cl_listO B.list_ (by decide +kernel) (da_cons (de_ix (de_fld 0 CT.c CT.now) de_int) da_nil)))))
abbrev s_look_basket : Stmt := topS 16
theorem sc_look_basket : FnScope ["prices", "thing", "one"] ["prices", "thing"] (defScope s_look_basket) := ⟨rfl, rfl, rfl, by decide +kernel, rfl, by decide +kernel, by decide +kernel⟩
theorem ok_look_basket [iT : Tb] {f_look_basket : Addr} {fd_look_basket : FuncData} (T_look_basket : DefT K mg "look_basket" s_look_basket ["prices", "thing"] f_look_basket fd_look_basket) {f_is_within : Addr} {fd_is_within : FuncData} (T_is_within : DefT K mg "is_within" s_is_within ["thing", "low", "high"] f_is_within fd_is_within) (O_is_within : FnOk P w K mg base (L2.CX P w) 1 f_is_within fd_is_within ["thing", "low", "high"] (spP K mg 3 m_is_within)) {a_BadBasket : Addr} (X_BadBasket : ExcT K mg "BadBasket" a_BadBasket) (B : BnT mg) (G : GcT mg) : FnOk P w K mg base (L2.CX P w) 2 f_look_basket fd_look_basket ["prices", "thing"] (spP K mg 2 m_look_basket) := by
  have sc := sc_look_basket
  refine fn_pure (phn := []) T_look_basket.F sc (fun cdv A outer s H E ec hr => ?_)
  have tk : Takes (cxOf (L2.CX P w) P w K mg base ["prices", "thing", "one"] "look_basket" (defScope s_look_basket) f_look_basket cdv A outer s H E) (fun c d _ H' => E c d H') := takes_of rfl rfl rfl rfl
  exact (db_cons (ds_if (dt_w (dw_or (dt_not (dt_truth (de_isi (de_var 1) B.isinstance_ B.tuple_ (by decide +kernel)))) (dw_or1 (dt_cmp (op_neP hr.units) (de_callB cl_len B.len_ (by decide +kernel) (da_cons (de_var 1) da_nil)) (de_ix (de_var 0) de_int))))) (db_one (ds_raise rfl tk X_BadBasket)) db_nil) (db_one (ds_if (dt_truth (de_of (do_lc (own := [("one", 2)]) rfl sc.nd (dih_of (di_seq (de_var 1))) (blkOk_by (by kernel_rfl)) (fun _ _ _ _ _ => (dg_name 2 sc.nd)) (fun _ _ _ _ _ => (dts_one (dt_not (dt_truth (de_fn O_is_within (hr.mono (by decide)) T_is_within.g T_is_within.F.kp T_is_within.b (fnM_len _ _ _) takes0 (da_cons (de_var 2) (da_cons de_int (da_cons (de_globE G.MOST_BASKET) da_nil)))))))) (fun _ _ _ _ _ => (de_var 2)) (by decide)))) (db_one (ds_raise rfl tk X_BadBasket)) (db_post db_nil (ph2 := []) rfl))))
abbrev s_cost : Stmt := topS 25
theorem sc_cost : FnScope ["prices", "basket"] ["prices", "basket"] (defScope s_cost) := ⟨rfl, rfl, rfl, by decide +kernel, rfl, by decide +kernel, by decide +kernel⟩
theorem ok_cost [iT : Tb] {f_cost : Addr} {fd_cost : FuncData} (T_cost : DefT K mg "cost" s_cost ["prices", "basket"] f_cost fd_cost) {f_look : Addr} {fd_look : FuncData} (T_look : DefT K mg "look" s_look ["thing"] f_look fd_look) (O_look : FnOk P w K mg base (L2.CX P w) 4 f_look fd_look ["thing"] (spP K mg 1 m_look)) {f_look_basket : Addr} {fd_look_basket : FuncData} (T_look_basket : DefT K mg "look_basket" s_look_basket ["prices", "thing"] f_look_basket fd_look_basket) (O_look_basket : FnOk P w K mg base (L2.CX P w) 2 f_look_basket fd_look_basket ["prices", "thing"] (spP K mg 2 m_look_basket)) {f_all_packs : Addr} {fd_all_packs : FuncData} (T_all_packs : DefT K mg "all_packs" s_all_packs ["prices"] f_all_packs fd_all_packs) (O_all_packs : FnOk P w K mg base (L2.CX P w) 3 f_all_packs fd_all_packs ["prices"] (spP K mg 1 m_all_packs)) {f_cost_by : Addr} {fd_cost_by : FuncData} (T_cost_by : DefT K mg "cost_by" s_cost_by ["some", "basket"] f_cost_by fd_cost_by) (O_cost_by : FnOk P w K mg base (L2.CX P w) 6 f_cost_by fd_cost_by ["some", "basket"] (spP K mg 2 m_cost_by)) (B : BnT mg) (G : GcT mg) : FnOk P w K mg base (L2.CX P w) 7 f_cost fd_cost ["prices", "basket"] (spP K mg 2 m_cost) := by
  have sc := sc_cost
  refine fn_pure (phn := []) T_cost.F sc (fun cdv A outer s H E ec hr => ?_)
  have tk : Takes (cxOf (L2.CX P w) P w K mg base ["prices", "basket"] "cost" (defScope s_cost) f_cost cdv A outer s H E) (fun c d _ H' => E c d H') := takes_of rfl rfl rfl rfl
  exact (db_cons (ds_expr (de_fn O_look (hr.mono (by decide)) T_look.g T_look.F.kp T_look.b (fnM_len _ _ _) tk (da_cons (de_var 0) da_nil))) (db_cons (ds_expr (de_fn O_look_basket (hr.mono (by decide)) T_look_basket.g T_look_basket.F.kp T_look_basket.b (fnM_len _ _ _) tk (da_cons (de_var 0) (da_cons (de_var 1) da_nil)))) (db_one (ds_ret (de_fn O_cost_by (hr.mono (by decide)) T_cost_by.g T_cost_by.F.kp T_cost_by.b (fnM_len _ _ _) tk (da_cons (de_fn O_all_packs (hr.mono (by decide)) T_all_packs.g T_all_packs.F.kp T_all_packs.b (fnM_len _ _ _) tk (da_cons (de_var 0) da_nil)) (da_cons (de_var 1) da_nil)))))))
abbrev s_Cart_basket : Stmt := inS 27 7
theorem sc_Cart_basket : FnScope ["self"] ["self"] (defScope s_Cart_basket) := ⟨rfl, rfl, rfl, by decide +kernel, rfl, by decide +kernel, by decide +kernel⟩
theorem ok_Cart_basket [iT : Tb] {f_Cart_basket : Addr} {fd_Cart_basket : FuncData} (T_Cart_basket : MeT K Tb.cls "basket" "Cart.basket" s_Cart_basket ["self"] f_Cart_basket fd_Cart_basket) (CT : CtT K Tb.cls) (B : BnT mg) (G : GcT mg) : FnOk P w K mg base (L2.CX P w) 1 f_Cart_basket fd_Cart_basket ["self"] (spR K mg 0 m_Cart_basket) := by
  have sc := sc_Cart_basket
  refine fn_read (phn := []) T_Cart_basket.F sc rfl (fun y cdv A outer s H E ec hr => ?_)
  letI : Tb := Tb.at (T := iT) fun _ => y
  have tk : Takes (cxOf (L2.CX P w) P w K mg base ["self"] "Cart.basket" (defScope s_Cart_basket) f_Cart_basket cdv A outer s H E) (fun c d _ H' => E c d H') := takes_of rfl rfl rfl rfl
  exact (db_one (ds_ret (de_ix (de_fld 0 CT.c CT.now) de_int)))
abbrev s__law_cart_drawn : Stmt := topS 36
theorem sc__law_cart_drawn : FnScope ["seed", "wares", "word", "ware", "many"] ["seed", "wares"] (defScope s__law_cart_drawn) := ⟨rfl, rfl, rfl, by decide +kernel, rfl, by decide +kernel, by decide +kernel⟩
theorem ok__law_cart_drawn [iT : Tb] {f__law_cart_drawn : Addr} {fd__law_cart_drawn : FuncData} (T__law_cart_drawn : DefT K mg "_law_cart_drawn" s__law_cart_drawn ["seed", "wares"] f__law_cart_drawn fd__law_cart_drawn) {f__law_seed : Addr} {fd__law_seed : FuncData} (T__law_seed : DefT K mg "_law_seed" s__law_seed ["seed", "k"] f__law_seed fd__law_seed) (O__law_seed : FnOk P w K mg base (L2.CX P w) 1 f__law_seed fd__law_seed ["seed", "k"] (spP K mg 2 m__law_seed)) (B : BnT mg) (G : GcT mg) : FnOk P w K mg base (L2.CX P w) 2 f__law_cart_drawn fd__law_cart_drawn ["seed", "wares"] (spP K mg 2 m__law_cart_drawn) := by
  have sc := sc__law_cart_drawn
  refine fn_pure (phn := []) T__law_cart_drawn.F sc (fun cdv A outer s H E ec hr => ?_)
  have tk : Takes (cxOf (L2.CX P w) P w K mg base ["seed", "wares", "word", "ware", "many"] "_law_cart_drawn" (defScope s__law_cart_drawn) f__law_cart_drawn cdv A outer s H E) (fun c d _ H' => E c d H') := takes_of rfl rfl rfl rfl
  exact (db_cons (ds_set 2 (de_ix (de_of (do_lst (da_cons de_str (da_cons de_str (da_cons de_str (da_cons de_str (da_cons de_str (da_cons de_str (da_cons de_str (da_cons de_str da_nil)))))))))) (de_op op_modP (de_op op_fdivP (de_var 0) de_int) de_int)) sc.nd) (db_cons (ds_par 3 4 rfl sc.nd (de_op op_modP (de_op op_fdivP (de_var 0) de_int) (de_var 1)) (de_op op_addP de_int (de_op op_modP (de_op op_fdivP (de_fn O__law_seed (hr.mono (by decide)) T__law_seed.g T__law_seed.F.kp T__law_seed.b (fnM_len _ _ _) tk (da_cons (de_var 0) (da_cons de_int da_nil))) de_int) (de_ix (de_of (do_lst (da_cons de_int (da_cons de_int (da_cons de_int da_nil))))) (de_op op_modP (de_op op_fdivP (de_var 0) de_int) de_int))))) (db_cons (ds_if (dt_cmp (op_eqP hr.units) (de_op op_modP (de_op op_fdivP (de_var 0) de_int) de_int) de_int) (db_one (ds_set 3 (de_ix (de_of (do_lst (da_cons (de_var 1) (da_cons (de_un un_negP de_int) (da_cons de_non (da_cons de_bl (da_cons de_str da_nil))))))) (de_op op_modP (de_op op_fdivP (de_fn O__law_seed (hr.mono (by decide)) T__law_seed.g T__law_seed.F.kp T__law_seed.b (fnM_len _ _ _) tk (da_cons (de_var 0) (da_cons de_int da_nil))) de_int) de_int)) sc.nd)) db_nil) (db_cons (ds_if (dt_cmp (op_eqP hr.units) (de_op op_modP (de_op op_fdivP (de_var 0) de_int) de_int) de_int) (db_one (ds_set 4 (de_ix (de_of (do_lst (da_cons de_int (da_cons de_int (da_cons (de_un un_negP de_int) (da_cons de_non (da_cons de_bl da_nil))))))) (de_op op_modP (de_op op_fdivP (de_fn O__law_seed (hr.mono (by decide)) T__law_seed.g T__law_seed.F.kp T__law_seed.b (fnM_len _ _ _) tk (da_cons (de_var 0) (da_cons de_int da_nil))) de_int) de_int)) sc.nd)) db_nil) (db_one (ds_ret (de_tup (da_cons (de_var 2) (da_cons (de_var 3) (da_cons (de_var 4) da_nil))))))))))
abbrev s_law : Stmt := topS 37
theorem sc_law : FnScope ["script", "seed", "wares", "prices", "cart", "k", "have", "word", "ware", "many", "last", "rows", "one", "at"] ["script"] (defScope s_law) := ⟨rfl, rfl, rfl, by decide +kernel, rfl, by decide +kernel, by decide +kernel⟩
theorem ok_law [iT : Tb] {f_law : Addr} {fd_law : FuncData} (T_law : DefT K mg "law" s_law ["script"] f_law fd_law) {f__law_cell : Addr} {fd__law_cell : FuncData} (T__law_cell : DefT K mg "_law_cell" s__law_cell ["script", "k"] f__law_cell fd__law_cell) (O__law_cell : FnOk P w K mg base (L2.CX P w) 1 f__law_cell fd__law_cell ["script", "k"] (spP K mg 2 m__law_cell)) {f__law_seed : Addr} {fd__law_seed : FuncData} (T__law_seed : DefT K mg "_law_seed" s__law_seed ["seed", "k"] f__law_seed fd__law_seed) (O__law_seed : FnOk P w K mg base (L2.CX P w) 1 f__law_seed fd__law_seed ["seed", "k"] (spP K mg 2 m__law_seed)) {f__law_two_list : Addr} {fd__law_two_list : FuncData} (T__law_two_list : DefT K mg "_law_two_list" s__law_two_list ["seed", "wares"] f__law_two_list fd__law_two_list) (O__law_two_list : FnOk P w K mg base (L2.CX P w) 3 f__law_two_list fd__law_two_list ["seed", "wares"] (spP K mg 2 m__law_two_list)) {f_Cart : Addr} {fd_Cart : FuncData} (T_Cart : MkT K mg "Cart" "Cart.__init__" s_Cart ["self", "prices"] Tb.cls f_Cart fd_Cart) (O_Cart : FnOk P w K mg base (L2.CX P w) 5 f_Cart fd_Cart ["self", "prices"] (spC K mg 1 m_Cart)) {f__law_mix : Addr} {fd__law_mix : FuncData} (T__law_mix : DefT K mg "_law_mix" s__law_mix ["cell", "prime", "many"] f__law_mix fd__law_mix) (O__law_mix : FnOk P w K mg base (L2.CX P w) 1 f__law_mix fd__law_mix ["cell", "prime", "many"] (spP K mg 3 m__law_mix)) {f__law_cart_drawn : Addr} {fd__law_cart_drawn : FuncData} (T__law_cart_drawn : DefT K mg "_law_cart_drawn" s__law_cart_drawn ["seed", "wares"] f__law_cart_drawn fd__law_cart_drawn) (O__law_cart_drawn : FnOk P w K mg base (L2.CX P w) 2 f__law_cart_drawn fd__law_cart_drawn ["seed", "wares"] (spP K mg 2 m__law_cart_drawn)) {f__law_cart_deed : Addr} {fd__law_cart_deed : FuncData} (T__law_cart_deed : DefT K mg "_law_cart_deed" s__law_cart_deed ["cart", "deed"] f__law_cart_deed fd__law_cart_deed) (O__law_cart_deed : FnOk P w K mg base (L2.CX P w) 10 f__law_cart_deed fd__law_cart_deed ["cart", "deed"] (spC K mg 1 m__law_cart_deed)) {f_Cart_log : Addr} {fd_Cart_log : FuncData} (T_Cart_log : MeT K Tb.cls "log" "Cart.log" s_Cart_log ["self"] f_Cart_log fd_Cart_log) (O_Cart_log : FnOk P w K mg base (L2.CX P w) 1 f_Cart_log fd_Cart_log ["self"] (spR K mg 0 m_Cart_log)) {f_Cart_basket : Addr} {fd_Cart_basket : FuncData} (T_Cart_basket : MeT K Tb.cls "basket" "Cart.basket" s_Cart_basket ["self"] f_Cart_basket fd_Cart_basket) (O_Cart_basket : FnOk P w K mg base (L2.CX P w) 1 f_Cart_basket fd_Cart_basket ["self"] (spR K mg 0 m_Cart_basket)) {f_Cart_price : Addr} {fd_Cart_price : FuncData} (T_Cart_price : MeT K Tb.cls "price" "Cart.price" s_Cart_price ["self"] f_Cart_price fd_Cart_price) (O_Cart_price : FnOk P w K mg base (L2.CX P w) 7 f_Cart_price fd_Cart_price ["self"] (spR K mg 0 m_Cart_price)) {f_cost : Addr} {fd_cost : FuncData} (T_cost : DefT K mg "cost" s_cost ["prices", "basket"] f_cost fd_cost) (O_cost : FnOk P w K mg base (L2.CX P w) 7 f_cost fd_cost ["prices", "basket"] (spP K mg 2 m_cost)) {f_Cart_undo : Addr} {fd_Cart_undo : FuncData} (T_Cart_undo : MeT K Tb.cls "undo" "Cart.undo" s_Cart_undo ["self"] f_Cart_undo fd_Cart_undo) (O_Cart_undo : FnOk P w K mg base (L2.CX P w) 1 f_Cart_undo fd_Cart_undo ["self"] (spC K mg 0 m_Cart_undo)) {f_Cart_put : Addr} {fd_Cart_put : FuncData} (T_Cart_put : MeT K Tb.cls "put" "Cart.put" s_Cart_put ["self", "ware", "many"] f_Cart_put fd_Cart_put) (O_Cart_put : FnOk P w K mg base (L2.CX P w) 9 f_Cart_put fd_Cart_put ["self", "ware", "many"] (spC K mg 2 m_Cart_put)) (CT : CtT K Tb.cls) (B : BnT mg) (G : GcT mg) : FnOk P w K mg base (L2.CX P w) 11 f_law fd_law ["script"] (spP K mg 1 m_law) := by
  have sc := sc_law
  refine fn_pure (phn := []) T_law.F sc (fun cdv A outer s H E ec hr => ?_)
  have tk : Takes (cxOf (L2.CX P w) P w K mg base ["script", "seed", "wares", "prices", "cart", "k", "have", "word", "ware", "many", "last", "rows", "one", "at"] "law" (defScope s_law) f_law cdv A outer s H E) (fun c d _ H' => E c d H') := takes_of rfl rfl rfl rfl
  exact (db_cons (ds_set 1 (de_fn O__law_seed (hr.mono (by decide)) T__law_seed.g T__law_seed.F.kp T__law_seed.b (fnM_len _ _ _) tk (da_cons (de_fn O__law_cell (hr.mono (by decide)) T__law_cell.g T__law_cell.F.kp T__law_cell.b (fnM_len _ _ _) tk (da_cons (de_var 0) (da_cons de_int da_nil))) (da_cons de_int da_nil))) sc.nd) (db_cons (ds_set 2 (de_op op_addP de_int (de_op op_modP (de_op op_fdivP (de_var 1) de_int) de_int)) sc.nd) (db_cons (ds_set 3 (de_fn O__law_two_list (hr.mono (by decide)) T__law_two_list.g T__law_two_list.F.kp T__law_two_list.b (fnM_len _ _ _) tk (da_cons (de_fn O__law_seed (hr.mono (by decide)) T__law_seed.g T__law_seed.F.kp T__law_seed.b (fnM_len _ _ _) tk (da_cons (de_fn O__law_cell (hr.mono (by decide)) T__law_cell.g T__law_cell.F.kp T__law_cell.b (fnM_len _ _ _) tk (da_cons (de_var 0) (da_cons de_int da_nil))) (da_cons de_int da_nil))) (da_cons (de_var 2) da_nil))) sc.nd) (db_mk 4 0 T_Cart.m O_Cart (hr.mono (by decide)) T_Cart.g T_Cart.b tk (de_var 3) sc.nd (fun y => letI : Tb := Tb.with (T := iT) 0 y; (db_cons (ds_for (phn := [.im, .dead, .im, .im, .cw 0, .dead, .dead, .dead, .dead, .dead, .dead, .dead, .dead, .dead]) (passes_of rfl) rfl (di_range1 (de_fn (spP_w (T := iT) O__law_mix) (hr.mono (by decide)) T__law_mix.g T__law_mix.F.kp T__law_mix.b (fnM_len _ _ _) tk (da_cons (de_fn (spP_w (T := iT) O__law_cell) (hr.mono (by decide)) T__law_cell.g T__law_cell.F.kp T__law_cell.b (fnM_len _ _ _) tk (da_cons (de_var 0) (da_cons de_int da_nil))) (da_cons de_int (da_cons de_int da_nil)))) B.range_) (dg_name 5 sc.nd) (db_cons (ds_exprX (dx_fn 4 (spC_w (T := iT) O__law_cart_deed) (hr.mono (by decide)) T__law_cart_deed.g T__law_cart_deed.F.kp T__law_cart_deed.b (fnC_len _ _ _) tk (da_cons (de_fn (spP_w (T := iT) O__law_cart_drawn) (hr.mono (by decide)) T__law_cart_drawn.g T__law_cart_drawn.F.kp T__law_cart_drawn.b (fnM_len _ _ _) tk (da_cons (de_fn (spP_w (T := iT) O__law_seed) (hr.mono (by decide)) T__law_seed.g T__law_seed.F.kp T__law_seed.b (fnM_len _ _ _) tk (da_cons (de_op op_addP (de_fn (spP_w (T := iT) O__law_cell) (hr.mono (by decide)) T__law_cell.g T__law_cell.F.kp T__law_cell.b (fnM_len _ _ _) tk (da_cons (de_var 0) (da_cons (de_op op_addP de_int (de_op op_modP (de_var 5) de_int)) da_nil))) (de_op op_mulS de_int (de_var 5))) (da_cons (de_var 5) da_nil))) (da_cons (de_var 2) da_nil))) da_nil))) (db_cons (ds_setO 6 (do_repL (de_of (do_lst (da_cons de_int da_nil))) (de_var 2)) sc.nd) (db_cons (ds_for (phn := [.im, .dead, .im, .im, .cw 0, .dead, .ow, .dead, .dead, .dead, .dead, .dead, .dead, .dead]) (passes_of rfl) rfl (di_seq (de_meth0 4 CT.c T_Cart_log.m (spR_w (T := iT) O_Cart_log) (hr.mono (by decide)) T_Cart_log.b (fnM_len _ _ _) tk)) (dg_tup rfl (dgs_cons (dg_name 7 sc.nd) (dgs_cons (dg_name 8 sc.nd) (dgs_cons (dg_name 9 sc.nd) dgs_nil)))) (db_post (db_one (ds_putL 6 (de_var 8) (de_op op_addP (de_ixO 6 (de_var 8)) (de_if (dt_cmp (op_eqP hr.units) (de_var 7) de_str) (de_var 9) (de_op op_subP de_int (de_var 9)))))) (ph2 := [.im, .dead, .im, .im, .cw 0, .dead, .ow, .dead, .dead, .dead, .dead, .dead, .dead, .dead]) rfl)) (db_one (ds_pre (ph1 := [.im, .dead, .im, .im, .cw 0, .dead, .im, .dead, .dead, .dead, .dead, .dead, .dead, .dead]) (ds_if (dt_cmp (op_neP hr.units) (de_meth0 4 CT.c T_Cart_basket.m (spR_w (T := iT) O_Cart_basket) (hr.mono (by decide)) T_Cart_basket.b (fnM_len _ _ _) tk) (de_callTy cl_tuple B.tuple_ (by decide +kernel) (da_cons (de_var 6) da_nil))) (db_one (ds_ret de_bl)) (db_post db_nil (ph2 := [.im, .dead, .im, .im, .cw 0, .dead, .dead, .dead, .dead, .dead, .dead, .dead, .dead, .dead]) rfl)) rfl)))))) (db_cons (ds_if (dt_cmp (op_neP hr.units) (de_meth0 4 CT.c T_Cart_price.m (spR_w (T := iT) O_Cart_price) (hr.mono (by decide)) T_Cart_price.b (fnM_len _ _ _) tk) (de_fn (spP_w (T := iT) O_cost) (hr.mono (by decide)) T_cost.g T_cost.F.kp T_cost.b (fnM_len _ _ _) tk (da_cons (de_var 3) (da_cons (de_meth0 4 CT.c T_Cart_basket.m (spR_w (T := iT) O_Cart_basket) (hr.mono (by decide)) T_Cart_basket.b (fnM_len _ _ _) tk) da_nil)))) (db_one (ds_ret de_bl)) db_nil) (db_cons (ds_set 10 (de_tup (da_cons (de_meth0 4 CT.c T_Cart_basket.m (spR_w (T := iT) O_Cart_basket) (hr.mono (by decide)) T_Cart_basket.b (fnM_len _ _ _) tk) (da_cons (de_meth0 4 CT.c T_Cart_log.m (spR_w (T := iT) O_Cart_log) (hr.mono (by decide)) T_Cart_log.b (fnM_len _ _ _) tk) da_nil))) sc.nd) (db_cons (ds_setO 11 (do_lst (da_cons (de_var 10) da_nil)) sc.nd) (db_cons (ds_whileX (phn := [.dead, .dead, .im, .dead, .cw 0, .dead, .dead, .dead, .dead, .dead, .im, .ow, .dead, .dead]) 1000 (passes_of rfl) (dxt_cmp (op_neP hr.units) (dx_fn 4 (spC_w (T := iT) O__law_cart_deed) (hr.mono (by decide)) T__law_cart_deed.g T__law_cart_deed.F.kp T__law_cart_deed.b (fnC_len _ _ _) tk (da_cons (de_tup (da_cons de_str (da_cons de_int (da_cons de_int da_nil)))) da_nil)) de_str) (db_one (ds_append 11 (de_tup (da_cons (de_meth0 4 CT.c T_Cart_basket.m (spR_w (T := iT) O_Cart_basket) (hr.mono (by decide)) T_Cart_basket.b (fnM_len _ _ _) tk) (da_cons (de_meth0 4 CT.c T_Cart_log.m (spR_w (T := iT) O_Cart_log) (hr.mono (by decide)) T_Cart_log.b (fnM_len _ _ _) tk) da_nil)))))) (db_cons (ds_pre (ph1 := [.dead, .dead, .im, .dead, .cw 0, .dead, .dead, .dead, .dead, .dead, .im, .im, .dead, .dead]) (ds_if (dt_w (dw_or (dt_cmp (op_neP hr.units) (de_meth0 4 CT.c T_Cart_basket.m (spR_w (T := iT) O_Cart_basket) (hr.mono (by decide)) T_Cart_basket.b (fnM_len _ _ _) tk) (de_op op_mulS (de_tup (da_cons de_int da_nil)) (de_var 2))) (dw_or (dt_cmp (op_neP hr.units) (de_meth0 4 CT.c T_Cart_log.m (spR_w (T := iT) O_Cart_log) (hr.mono (by decide)) T_Cart_log.b (fnM_len _ _ _) tk) (de_of (do_lst da_nil))) (dw_or (dt_cmp (op_neP hr.units) (de_meth0 4 CT.c T_Cart_price.m (spR_w (T := iT) O_Cart_price) (hr.mono (by decide)) T_Cart_price.b (fnM_len _ _ _) tk) de_int) (dw_or1 (dt_cmp (op_neP hr.units) (de_callB cl_len B.len_ (by decide +kernel) (da_cons (de_var 11) da_nil)) (de_op op_addP (de_callB cl_len B.len_ (by decide +kernel) (da_cons (de_ix (de_var 10) de_int) da_nil)) de_int))))))) (db_one (ds_ret de_bl)) db_nil) rfl) (db_cons (ds_for (phn := [.dead, .dead, .im, .dead, .cw 0, .dead, .dead, .dead, .dead, .dead, .im, .im, .dead, .dead]) (passes_of rfl) rfl (di_seq (de_of (do_rev2 (de_var 11)))) (dg_name 12 sc.nd) (db_one (ds_ifX (dxt_w (dxw_or (dxt_cmp op_isnotP (dx_fn 4 (spC_w (T := iT) O__law_cart_deed) (hr.mono (by decide)) T__law_cart_deed.g T__law_cart_deed.F.kp T__law_cart_deed.b (fnC_len _ _ _) tk (da_cons (de_tup (da_cons de_str (da_cons de_int (da_cons de_int da_nil)))) da_nil)) de_non) (dw_or1 (dt_cmp (op_neP hr.units) (de_tup (da_cons (de_meth0 4 CT.c T_Cart_basket.m (spR_w (T := iT) O_Cart_basket) (hr.mono (by decide)) T_Cart_basket.b (fnM_len _ _ _) tk) (da_cons (de_meth0 4 CT.c T_Cart_log.m (spR_w (T := iT) O_Cart_log) (hr.mono (by decide)) T_Cart_log.b (fnM_len _ _ _) tk) da_nil))) (de_var 12))))) (db_one (ds_ret de_bl)) (db_post db_nil (ph2 := [.dead, .dead, .im, .dead, .cw 0, .dead, .dead, .dead, .dead, .dead, .im, .im, .dead, .dead]) rfl)))) (db_cons (ds_if (dt_cmp op_gtP (de_callB cl_len B.len_ (by decide +kernel) (da_cons (de_var 11) da_nil)) de_int) (db_cons (ds_exprX (dx_meth0 4 CT.c T_Cart_undo.m (spC_w (T := iT) O_Cart_undo) (hr.mono (by decide)) T_Cart_undo.b (fnC_len _ _ _) tk)) (db_cons (ds_setLc 8 (own := [("at", 13)]) rfl sc.nd rfl (sw_true rfl rfl rfl (by kernel_rfl)) (dih_of (di_range1 (de_var 2) B.range_)) (blkOk_by (by kernel_rfl)) (fun _ _ _ _ _ => (dg_name 13 sc.nd)) (fun _ _ _ _ _ => (dts_one (dt_cmp op_ltP (de_ix (de_meth0 4 CT.c T_Cart_basket.m (spR_w (T := iT) O_Cart_basket) (hr.mono (by decide)) T_Cart_basket.b (fnM_len _ _ _) takes0) (de_var 13)) de_int))) (fun _ _ _ _ _ => (de_var 13)) (by decide)) (db_cons (ds_if (dt_cmp (op_eqP hr.units) (de_var 8) (de_of (do_lst da_nil))) (db_one (ds_ret de_bl)) db_nil) (db_cons (ds_exprX (dx_meth 4 CT.c T_Cart_put.m (spC_w (T := iT) O_Cart_put) (hr.mono (by decide)) T_Cart_put.b (fnC_len _ _ _) tk (da_cons (de_ix (de_var 8) de_int) (da_cons de_int da_nil)))) (db_one (ds_retX (dx_cmp (op_eqP hr.units) (dx_fn 4 (spC_w (T := iT) O__law_cart_deed) (hr.mono (by decide)) T__law_cart_deed.g T__law_cart_deed.F.kp T__law_cart_deed.b (fnC_len _ _ _) tk (da_cons (de_tup (da_cons de_str (da_cons de_int (da_cons de_int da_nil)))) da_nil)) de_str))))))) db_nil) (db_one (ds_ret (de_cmp (op_eqP hr.units) (de_tup (da_cons (de_meth0 4 CT.c T_Cart_basket.m (spR_w (T := iT) O_Cart_basket) (hr.mono (by decide)) T_Cart_basket.b (fnM_len _ _ _) tk) (da_cons (de_meth0 4 CT.c T_Cart_log.m (spR_w (T := iT) O_Cart_log) (hr.mono (by decide)) T_Cart_log.b (fnM_len _ _ _) tk) da_nil))) (de_var 10))))))))))))) (noCt_of (by decide)) (noCt_of (by decide)) (noCt_of (by decide)) (noCt_of (by decide)) (noCt_of (by decide))))))
end
end PD
/-! PE: reckoning with mirrors. -/
namespace PD
open PySem L2
@[simp] theorem ev_look0 (d : PyData) (r : Rw) : look (d :: r) 0 = d := rfl
@[simp] theorem ev_lookS (d : PyData) (r : Rw) (n : Nat) : look (d :: r) (n + 1) = look r n := rfl
@[simp] theorem ev_gV (i : Nat) (r : Rw) : gV i r = .ok (look r i) := rfl
@[simp] theorem ev_gC (d : PyData) (r : Rw) : gC d r = .ok d := rfl
@[simp] theorem ev_bind {a b : Type} (x : a) (f : a → Rs b) : ((Except.ok x : Rs a) >>= f) = f x := rfl
@[simp] theorem ev_bindE {a b : Type} (x : Er) (f : a → Rs b) : ((Except.error x : Rs a) >>= f) = .error x := rfl
@[simp] theorem ev_lift {a : Type} (x : a) : lift (some x) = .ok x := rfl
@[simp] theorem ev_gB (o : PyData → PyData → Option PyData) (ga gb : Rw → Rs PyData) (r : Rw) : gB o ga gb r = ga r >>= fun x => gb r >>= fun y => lift (o x y) := rfl
@[simp] theorem ev_gU (o : PyData → Option PyData) (ga : Rw → Rs PyData) (r : Rw) : gU o ga r = ga r >>= fun x => lift (o x) := rfl
@[simp] theorem ev_gNil (r : Rw) : gNil r = .ok [] := rfl
@[simp] theorem ev_gCons (ga : Rw → Rs PyData) (gs : Rw → Rs (List PyData)) (r : Rw) : gCons ga gs r = ga r >>= fun x => gs r >>= fun xs => .ok (x :: xs) := rfl
@[simp] theorem ev_gL (o : List PyData → Option PyData) (gs : Rw → Rs (List PyData)) (r : Rw) : gL o gs r = gs r >>= fun ds => lift (o ds) := rfl
@[simp] theorem ev_gF (m : List PyData → Rs PyData) (gs : Rw → Rs (List PyData)) (r : Rw) : gF m gs r = gs r >>= m := rfl
@[simp] theorem ev_gTb (g : Rw → Rs PyData) (r : Rw) : gTb g r = g r >>= fun d => lift (boolD d) := rfl
@[simp] theorem ev_boolD (b : Bool) : boolD (.bool b) = some b := rfl
@[simp] theorem ev_gTr (g : Rw → Rs PyData) (r : Rw) : gTr g r = g r >>= fun d => lift (truD d) := rfl
@[simp] theorem ev_truB (b : Bool) : truD (.bool b) = some b := rfl
@[simp] theorem ev_gAndT (a b : Rw → Rs Bool) (r : Rw) : gAndT a b r = a r >>= fun x => if x = true then b r else .ok false := rfl
@[simp] theorem ev_gOrT (a b : Rw → Rs Bool) (r : Rw) : gOrT a b r = a r >>= fun x => if x = true then .ok true else b r := rfl
@[simp] theorem ev_gNotT (a : Rw → Rs Bool) (r : Rw) : gNotT a r = a r >>= fun x => .ok (!x) := rfl
@[simp] theorem ev_gAndV (a b : Rw → Rs PyData) (r : Rw) : gAndV a b r = a r >>= fun x => lift (boolD x) >>= fun k => if k = true then b r else .ok (.bool false) := rfl
@[simp] theorem ev_gOrV (a b : Rw → Rs PyData) (r : Rw) : gOrV a b r = a r >>= fun x => lift (boolD x) >>= fun k => if k = true then .ok (.bool true) else b r := rfl
@[simp] theorem ev_gNotV (a : Rw → Rs PyData) (r : Rw) : gNotV a r = a r >>= fun x => lift (truD x) >>= fun k => .ok (.bool (!k)) := rfl
@[simp] theorem ev_gIf (t : Rw → Rs Bool) (a b : Rw → Rs PyData) (r : Rw) : gIf t a b r = t r >>= fun k => if k = true then a r else b r := rfl
@[simp] theorem ev_gChain (o o' : PyData → PyData → Option PyData) (ga gb gc : Rw → Rs PyData) (r : Rw) : gChain o o' ga gb gc r = ga r >>= fun x => gb r >>= fun y => lift ((o x y).bind boolD) >>= fun k => if k = true then gc r >>= fun z => lift (o' y z) else .ok (.bool false) := rfl
@[simp] theorem ev_thenS {a : Type} (x : a) (rho : Rw) (k : a → SR) : thenS (.ok x : Rs a) rho k = k x := rfl
@[simp] theorem ev_thenE {a : Type} (x : Er) (rho : Rw) (k : a → SR) : thenS (.error x : Rs a) rho k = .er x rho := rfl
@[simp] theorem ev_gSet (i : Nat) (ge : Rw → Rs PyData) (r : Rw) : gSet i ge r = thenS (ge r) r fun d => .nx (r.set i d) := rfl
@[simp] theorem ev_gRet (ge : Rw → Rs PyData) (r : Rw) : gRet ge r = thenS (ge r) r fun d => .rt d := rfl
@[simp] theorem ev_gDrop (ge : Rw → Rs PyData) (r : Rw) : gDrop ge r = thenS (ge r) r fun _ => .nx r := rfl
@[simp] theorem ev_gIfS (t : Rw → Rs Bool) (a b : Rw → SR) (r : Rw) : gIfS t a b r = thenS (t r) r fun k => if k = true then a r else b r := rfl
@[simp] theorem ev_gRaise (x : Str) (r : Rw) : gRaise x r = .er (.exc x) r := rfl
theorem ev_seq {g1 g2 : Rw → SR} {r r' : Rw} (h : g1 r = .nx r') : gSeq g1 g2 r = g2 r' := by unfold gSeq; rw [h]
theorem ev_seqR {g1 g2 : Rw → SR} {r : Rw} {d : PyData} (h : g1 r = .rt d) : gSeq g1 g2 r = .rt d := by unfold gSeq; rw [h]
theorem ev_seqE {g1 g2 : Rw → SR} {r r' : Rw} {e : Er} (h : g1 r = .er e r') : gSeq g1 g2 r = .er e r' := by unfold gSeq; rw [h]
@[simp] theorem ev_gSeq (g1 g2 : Rw → SR) (r : Rw) : gSeq g1 g2 r = match g1 r with
  | .nx r' => g2 r'
  | o => o := by unfold gSeq; cases g1 r <;> rfl
@[simp] theorem ev_endR (d : PyData) : endD (.rt d) = .ok d := rfl
@[simp] theorem ev_endN (r : Rw) : endD (.nx r) = .ok .none := rfl
@[simp] theorem ev_endE (e : Er) (r : Rw) : endD (.er e r) = .error e := rfl
@[simp] theorem ev_addI (i j : Int) : dAdd (.int i) (.int j) = some (.int (i + j)) := rfl
theorem ev_d2I {C : Int → Int → Bool} {g : Int → Int → PyData} {i j : Int} (h : C i j = true) : d2I C g (.int i) (.int j) = some (g i j) := by show (if _ then _ else _) = _; rw [if_pos h]
@[simp] theorem ev_yes (g : Int → Int → PyData) (i j : Int) : d2I yes2 g (.int i) (.int j) = some (g i j) := rfl
@[simp] theorem ev_fdiv {i j : Int} (h : 0 < j ∧ j < 1073741824) : dFdiv (.int i) (.int j) = some (.int (i / j)) := ev_d2I (by simpa using h)
@[simp] theorem ev_mod {i j : Int} (h : 0 < j) : dMod (.int i) (.int j) = some (.int (i % j)) := ev_d2I (by simpa using h)
@[simp] theorem ev_pow {i j : Int} (h : 0 ≤ j ∧ j ≤ 1000000 ∧ i.natAbs < 2 ^ 64) : dPow (.int i) (.int j) = some (.int (i ^ j.toNat)) := ev_d2I (by simpa using h)
@[simp] theorem ev_mulI {i j : Int} (h : (-(2 ^ 64) < i ∧ i < 2 ^ 64) ∨ (-(2 ^ 64) < j ∧ j < 2 ^ 64)) : dMul (.int i) (.int j) = some (.int (i * j)) := by show (if _ then _ else _) = _; rw [if_pos h]
theorem sl_big {n : Nat} (h : n ≤ 1000) : n ≤ sizeLine := by rw [sizeLine_eq]; omega
theorem sl_lt {n : Nat} (h : n ≤ 1000) : n < sizeLine := by rw [sizeLine_eq]; omega
theorem ev_tupD {ds : List PyData} (h : ds.length ≤ 1000) : tupD ds = some (.tuple ds) := if_pos (sl_big h)
theorem ev_lstD {ds : List PyData} (h : ds.length ≤ 1000) : lstD ds = some (.list ds) := if_pos (sl_big h)
theorem ev_fnM {k nn : Nat} {g : Rw → SR} {ds : List PyData} (h : ds.length = k) : fnM k nn g ds = endD (g (ds ++ List.replicate (nn - k) .none)) := if_pos h
end PD
namespace PD
open PySem L2
/-! ### lists, items, comprehensions -/
theorem ixN_in {n : Nat} {i : Int} (h0 : 0 ≤ i) (h1 : i < n) : ixN n i = some i.toNat := by unfold ixN; rw [if_pos h0, if_pos h1]
theorem atI_nat {α : Type} {xs : List α} {i : Nat} {x : α} (h : xs[i]? = some x) : atI xs (i : Int) = some x := by
  unfold atI
  have hl := (List.getElem?_eq_some_iff.mp h).1
  rw [ixN_in (by omega) (by omega)]
  simpa using h
theorem atI_in {α : Type} {xs : List α} {i : Int} (h0 : 0 ≤ i) (h1 : i < xs.length) : ∃ x ∈ xs, xs[i.toNat]? = some x ∧ atI xs i = some x := by
  have hl : i.toNat < xs.length := by omega
  refine ⟨xs[i.toNat], List.getElem_mem _, List.getElem?_eq_getElem hl, ?_⟩
  unfold atI
  rw [ixN_in h0 h1]
  exact List.getElem?_eq_getElem hl
theorem atI_last {α : Type} {xs : List α} {x : α} : atI (xs ++ [x]) (-1) = some x := by
  unfold atI ixN
  rw [if_neg (by decide), if_pos (by simp; omega)]
  simp
  have : (-1 + ((xs.length : Int) + 1)).toNat = xs.length := by omega
  simp [this]
@[simp] theorem ev_ixL (xs : List PyData) (i : Int) : dIx (.list xs) (.int i) = atI xs i := rfl
@[simp] theorem ev_ixT (xs : List PyData) (i : Int) : dIx (.tuple xs) (.int i) = atI xs i := rfl
@[simp] theorem ev_ixS (xs : List PyData) (i : Int) : dIx (.dict [(.none, .list xs)]) (.int i) = atI xs i := rfl
@[simp] theorem ev_lenL (xs : List PyData) : dLen [.list xs] = some (.int xs.length) := rfl
@[simp] theorem ev_lenT (xs : List PyData) : dLen [.tuple xs] = some (.int xs.length) := rfl
@[simp] theorem ev_lenS (xs : List PyData) : dLen [.dict [(.none, .list xs)]] = some (.int xs.length) := rfl
theorem compD_of {f : PyData → Option (Option PyData)} {c : PyData → Bool} {h : PyData → PyData} : ∀ (ds : List PyData), (∀ d ∈ ds, f d = some (if c d then some (h d) else none)) → compD f ds = some ((ds.filter c).map h)
  | [], _ => rfl
  | d :: ds, H => by
    unfold compD
    rw [H d List.mem_cons_self, compD_of ds fun x hx => H x (List.mem_cons_of_mem _ hx)]
    by_cases e : c d = true
    · simp [e]
    · simp [e]
theorem compD_map {f : PyData → Option (Option PyData)} {h : PyData → PyData} (ds : List PyData) (H : ∀ d ∈ ds, f d = some (some (h d))) : compD f ds = some (ds.map h) := by
  have := compD_of (f := f) (c := fun _ => true) (h := h) ds (fun d hd => by rw [H d hd]; rfl)
  rw [this, List.filter_eq_self.mpr fun _ _ => rfl]
@[simp] theorem ev_rng1 {n : Int} (h : 0 ≤ n ∧ n ≤ 1000) : rng1 (.int n) = some (rangeD 0 n.toNat) := by
  show (if _ then _ else _) = _; rw [if_pos ⟨by omega, by omega, sl_big (by omega)⟩]
@[simp] theorem ev_rng2 {m n : Int} (h : -1000 ≤ m ∧ m ≤ 1000 ∧ -1000 ≤ n ∧ n ≤ 1000 ∧ n - m ≤ 1000) : rng2 (.int m) (.int n) = some (rangeD m (n - m).toNat) := by
  show (if _ then _ else _) = _; rw [if_pos ⟨⟨by omega, by omega, by omega, by omega⟩, sl_big (by omega)⟩]
@[simp] theorem ev_gIt (o : PyData → Option (List PyData)) (ge : Rw → Rs PyData) (r : Rw) : gIt o ge r = ge r >>= fun d => lift (o d) := rfl
@[simp] theorem ev_gIt2 (o : PyData → PyData → Option (List PyData)) (ga gb : Rw → Rs PyData) (r : Rw) : gIt2 o ga gb r = ga r >>= fun x => gb r >>= fun y => lift (o x y) := rfl
@[simp] theorem ev_gLc (gi : Rw → Rs (List PyData)) (gt : PyData → Rw → Option Rw) (gc : Rw → Rs Bool) (ge : Rw → Rs PyData) (r : Rw) : gLc gi gt gc ge r = gi r >>= fun ds => lift ((compD (eltD gt gc ge r) ds).map PyData.list) := rfl
@[simp] theorem ev_seqL (ds : List PyData) : seqD (.list ds) = some ds := rfl
@[simp] theorem ev_seqT (ds : List PyData) : seqD (.tuple ds) = some ds := rfl
theorem ev_elt1 {i : Nat} {ge : Rw → Rs PyData} {r : Rw} {d y : PyData} (h : ge (r.set i d) = .ok y) : eltD (tName i) gYes ge r d = some (some y) := by
  unfold eltD tName gYes
  simp [toO, h]
theorem ev_eltC {i : Nat} {gc : Rw → Rs Bool} {ge : Rw → Rs PyData} {r : Rw} {d y : PyData} {b : Bool} (hc : gc (r.set i d) = .ok b) (h : ge (r.set i d) = .ok y) : eltD (tName i) gc ge r d = some (if b then some y else none) := by
  unfold eltD tName
  cases b <;> simp [toO, h, hc]
/-- a loop, by what holds between two turns -/
theorem forD_inv0 {ph : List Fl} {step : PyData → Rw → SR} {I : List PyData → Rw → Prop} {all : List PyData} (H : ∀ done d rest rho, all = done ++ d :: rest → I done rho → ∃ r, step d rho = .nx r ∧ I (done ++ [d]) (mask ph r)) : ∀ (ds done : List PyData) (rho : Rw), all = done ++ ds → I done rho → ∃ r, forD ph step ds rho = .nx r ∧ I all r
  | [], done, rho, e, h => ⟨rho, rfl, by rw [List.append_nil] at e; rw [e]; exact h⟩
  | d :: ds, done, rho, e, h => by
    obtain ⟨r, e1, i⟩ := H done d ds rho e h
    obtain ⟨r2, e2, i2⟩ := forD_inv0 H ds (done ++ [d]) (mask ph r) (by rw [e, List.append_assoc]; rfl) i
    refine ⟨r2, ?_, i2⟩
    unfold forD; rw [e1]; exact e2
theorem forD_inv {ph : List Fl} {step : PyData → Rw → SR} (I : List PyData → Rw → Prop) {all : List PyData} {rho : Rw} (h : I [] rho) (H : ∀ done d rest rho, all = done ++ d :: rest → I done rho → ∃ r, step d rho = .nx r ∧ I (done ++ [d]) (mask ph r)) : ∃ r, forD ph step all rho = .nx r ∧ I all r := forD_inv0 H all [] rho rfl h
@[simp] theorem ev_gFor (ph : List Fl) (gi : Rw → Rs (List PyData)) (gt : PyData → Rw → Option Rw) (gb : Rw → SR) (r : Rw) : gFor ph gi gt gb r = thenS (gi r) r fun ds => forD ph (turnD gt gb) ds (mask ph r) := rfl
@[simp] theorem ev_turn1 (i : Nat) (gb : Rw → SR) (d : PyData) (r : Rw) : turnD (tName i) gb d r = gb (r.set i d) := rfl
theorem mem_rangeD {lo : Int} {k : Nat} {d : PyData} (h : d ∈ rangeD lo k) : ∃ i : Nat, i < k ∧ d = .int (lo + i) := by
  unfold rangeD at h
  obtain ⟨i, hi, rfl⟩ := List.mem_map.mp h
  exact ⟨i, List.mem_range.mp hi, rfl⟩
@[simp] theorem ev_rangeD_len (lo : Int) (k : Nat) : (rangeD lo k).length = k := by simp [rangeD]
/-! ### shapes -/
def Shp (n : Nat) (d : PyData) : Prop := d.canLay0 = true ∧ d.depth ≤ n
theorem Shp.shaped {n : Nat} {d : PyData} (h : Shp n d) (hn : n ≤ 64) : SeqAt.shaped d = true := by
  unfold SeqAt.shaped; rw [h.1]; simpa using Nat.le_trans h.2 hn
theorem Shp.mono {n m : Nat} {d : PyData} (h : Shp n d) (hn : n ≤ m) : Shp m d := ⟨h.1, Nat.le_trans h.2 hn⟩
theorem shp_int (i : Int) : Shp 0 (.int i) := ⟨rfl, Nat.le_refl _⟩
theorem shp_bool (i : Bool) : Shp 0 (.bool i) := ⟨rfl, Nat.le_refl _⟩
theorem shp_none : Shp 0 .none := ⟨rfl, Nat.le_refl _⟩
theorem shp_all {n : Nat} : ∀ {ds : List PyData}, (∀ d ∈ ds, Shp n d) → PyData.canLayAll0 ds = true ∧ PyData.depthAll ds ≤ n
  | [], _ => ⟨rfl, Nat.zero_le _⟩
  | d :: ds, H => by
    have h1 := H d List.mem_cons_self
    have h2 := shp_all fun x hx => H x (List.mem_cons_of_mem _ hx)
    refine ⟨?_, ?_⟩
    · show (PyData.canLay0 d && PyData.canLayAll0 ds) = true; rw [h1.1, h2.1]; rfl
    · show max _ _ ≤ n; exact Nat.max_le.mpr ⟨h1.2, h2.2⟩
theorem shp_tup {n : Nat} {ds : List PyData} (h : ∀ d ∈ ds, Shp n d) : Shp (n + 1) (.tuple ds) := ⟨(shp_all h).1, Nat.succ_le_succ (shp_all h).2⟩
theorem shp_lst {n : Nat} {ds : List PyData} (h : ∀ d ∈ ds, Shp n d) : Shp (n + 1) (.list ds) := ⟨(shp_all h).1, Nat.succ_le_succ (shp_all h).2⟩
theorem dEq_self {n : Nat} {d : PyData} (h : Shp n d) (hn : n ≤ 64) : dEq d d = some (.bool true) := by
  unfold dEq; rw [h.shaped hn]; simp [SeqAt.eqv_refl d h.1]
theorem dNe_self {n : Nat} {d : PyData} (h : Shp n d) (hn : n ≤ 64) : dNe d d = some (.bool false) := by
  unfold dNe; rw [h.shaped hn]; simp [SeqAt.eqv_refl d h.1]
@[simp] theorem ev_eqI (i j : Int) : dEq (.int i) (.int j) = some (.bool (i == j)) := rfl
@[simp] theorem ev_neI (i j : Int) : dNe (.int i) (.int j) = some (.bool (!(i == j))) := rfl
/-! ### isinstance -/
theorem isi_of {T : String} {d : PyData} {b : Bool} (h : notDict d = true) (k : kitB (tyD d) T = some b) : dIsi T d = some (.bool b) := by unfold dIsi; rw [if_pos h, k]; rfl
theorem kb_int_int : kitB "int" "int" = some true := by decide +kernel
@[simp] theorem isi_int_int (i : Int) : dIsi "int" (.int i) = some (.bool true) := isi_of rfl kb_int_int
theorem kb_int_bool : kitB "int" "bool" = some false := by decide +kernel
@[simp] theorem isi_int_bool (i : Int) : dIsi "bool" (.int i) = some (.bool false) := isi_of rfl kb_int_bool
theorem kb_int_tuple : kitB "int" "tuple" = some false := by decide +kernel
@[simp] theorem isi_int_tuple (i : Int) : dIsi "tuple" (.int i) = some (.bool false) := isi_of rfl kb_int_tuple
theorem kb_int_str : kitB "int" "str" = some false := by decide +kernel
@[simp] theorem isi_int_str (i : Int) : dIsi "str" (.int i) = some (.bool false) := isi_of rfl kb_int_str
theorem kb_bool_int : kitB "bool" "int" = some true := by decide +kernel
@[simp] theorem isi_bool_int (i : Bool) : dIsi "int" (.bool i) = some (.bool true) := isi_of rfl kb_bool_int
theorem kb_bool_bool : kitB "bool" "bool" = some true := by decide +kernel
@[simp] theorem isi_bool_bool (i : Bool) : dIsi "bool" (.bool i) = some (.bool true) := isi_of rfl kb_bool_bool
theorem kb_bool_tuple : kitB "bool" "tuple" = some false := by decide +kernel
@[simp] theorem isi_bool_tuple (i : Bool) : dIsi "tuple" (.bool i) = some (.bool false) := isi_of rfl kb_bool_tuple
theorem kb_bool_str : kitB "bool" "str" = some false := by decide +kernel
@[simp] theorem isi_bool_str (i : Bool) : dIsi "str" (.bool i) = some (.bool false) := isi_of rfl kb_bool_str
theorem kb_none_int : kitB "NoneType" "int" = some false := by decide +kernel
@[simp] theorem isi_none_int  : dIsi "int" (.none) = some (.bool false) := isi_of rfl kb_none_int
theorem kb_none_bool : kitB "NoneType" "bool" = some false := by decide +kernel
@[simp] theorem isi_none_bool  : dIsi "bool" (.none) = some (.bool false) := isi_of rfl kb_none_bool
theorem kb_none_tuple : kitB "NoneType" "tuple" = some false := by decide +kernel
@[simp] theorem isi_none_tuple  : dIsi "tuple" (.none) = some (.bool false) := isi_of rfl kb_none_tuple
theorem kb_none_str : kitB "NoneType" "str" = some false := by decide +kernel
@[simp] theorem isi_none_str  : dIsi "str" (.none) = some (.bool false) := isi_of rfl kb_none_str
theorem kb_str_int : kitB "str" "int" = some false := by decide +kernel
@[simp] theorem isi_str_int (x : Str) : dIsi "int" (.str x) = some (.bool false) := isi_of rfl kb_str_int
theorem kb_str_bool : kitB "str" "bool" = some false := by decide +kernel
@[simp] theorem isi_str_bool (x : Str) : dIsi "bool" (.str x) = some (.bool false) := isi_of rfl kb_str_bool
theorem kb_str_tuple : kitB "str" "tuple" = some false := by decide +kernel
@[simp] theorem isi_str_tuple (x : Str) : dIsi "tuple" (.str x) = some (.bool false) := isi_of rfl kb_str_tuple
theorem kb_str_str : kitB "str" "str" = some true := by decide +kernel
@[simp] theorem isi_str_str (x : Str) : dIsi "str" (.str x) = some (.bool true) := isi_of rfl kb_str_str
theorem kb_lst_int : kitB "list" "int" = some false := by decide +kernel
@[simp] theorem isi_lst_int (x : List PyData) : dIsi "int" (.list x) = some (.bool false) := isi_of rfl kb_lst_int
theorem kb_lst_bool : kitB "list" "bool" = some false := by decide +kernel
@[simp] theorem isi_lst_bool (x : List PyData) : dIsi "bool" (.list x) = some (.bool false) := isi_of rfl kb_lst_bool
theorem kb_lst_tuple : kitB "list" "tuple" = some false := by decide +kernel
@[simp] theorem isi_lst_tuple (x : List PyData) : dIsi "tuple" (.list x) = some (.bool false) := isi_of rfl kb_lst_tuple
theorem kb_lst_str : kitB "list" "str" = some false := by decide +kernel
@[simp] theorem isi_lst_str (x : List PyData) : dIsi "str" (.list x) = some (.bool false) := isi_of rfl kb_lst_str
theorem kb_tup_int : kitB "tuple" "int" = some false := by decide +kernel
@[simp] theorem isi_tup_int (x : List PyData) : dIsi "int" (.tuple x) = some (.bool false) := isi_of rfl kb_tup_int
theorem kb_tup_bool : kitB "tuple" "bool" = some false := by decide +kernel
@[simp] theorem isi_tup_bool (x : List PyData) : dIsi "bool" (.tuple x) = some (.bool false) := isi_of rfl kb_tup_bool
theorem kb_tup_tuple : kitB "tuple" "tuple" = some true := by decide +kernel
@[simp] theorem isi_tup_tuple (x : List PyData) : dIsi "tuple" (.tuple x) = some (.bool true) := isi_of rfl kb_tup_tuple
theorem kb_tup_str : kitB "tuple" "str" = some false := by decide +kernel
@[simp] theorem isi_tup_str (x : List PyData) : dIsi "str" (.tuple x) = some (.bool false) := isi_of rfl kb_tup_str
end PD
/-! PM: what a basket costs, in plain words. -/
namespace PD
abbrev Bk := List Int
abbrev Pk := List Int × Int
def leftZ (b p : Bk) : Bk := List.zipWith (fun x y => if x - y > 0 then x - y else 0) b p
def at0 (b : Bk) (i : Nat) : Int := b.getD i 0
def sumAt (qs : List Pk) (i : Nat) : Int := (qs.map fun q => at0 q.1 i).sum
def tot (qs : List Pk) : Int := (qs.map fun q => q.2).sum
/-- the packs together have the basket -/
def Cov (b : Bk) (qs : List Pk) : Prop := ∀ i, i < b.length → at0 b i ≤ sumAt qs i
def Of (ps qs : List Pk) : Prop := ∀ q ∈ qs, q ∈ ps
/-- the least price, or that it can not be bought -/
def IsC (ps : List Pk) (b : Bk) : Option Int → Prop
  | none => ∀ qs, Of ps qs → ¬ Cov b qs
  | some v => (∃ qs, Of ps qs ∧ Cov b qs ∧ tot qs = v) ∧ ∀ qs, Of ps qs → Cov b qs → v ≤ tot qs
theorem IsC.one {ps : List Pk} {b : Bk} {c d : Option Int} (h : IsC ps b c) (k : IsC ps b d) : c = d := by
  cases c with
  | none =>
    cases d with
    | none => rfl
    | some v => obtain ⟨⟨qs, h1, h2, _⟩, _⟩ := k; exact absurd h2 (h qs h1)
  | some v =>
    cases d with
    | none => obtain ⟨⟨qs, h1, h2, _⟩, _⟩ := h; exact absurd h2 (k qs h1)
    | some w =>
      obtain ⟨⟨qs, a1, a2, a3⟩, a4⟩ := h
      obtain ⟨⟨rs, b1, b2, b3⟩, b4⟩ := k
      have := a4 rs b1 b2
      have := b4 qs a1 a2
      congr 1; omega
/-- baskets of n counts, none negative -/
structure BkOk (n : Nat) (b : Bk) : Prop where
  len : b.length = n
  pos : ∀ x ∈ b, 0 ≤ x
structure PsOk (n : Nat) (ps : List Pk) : Prop where
  bk : ∀ p ∈ ps, BkOk n p.1
  pr : ∀ p ∈ ps, 0 ≤ p.2
theorem BkOk.at {n : Nat} {b : Bk} (h : BkOk n b) (i : Nat) : 0 ≤ at0 b i := by
  unfold at0
  rw [List.getD_eq_getElem?_getD]
  by_cases hi : i < b.length
  · rw [List.getElem?_eq_getElem hi]; exact h.pos _ (List.getElem_mem hi)
  · rw [List.getElem?_eq_none (by omega)]; simp
theorem at_left {b p : Bk} {i : Nat} (h1 : i < b.length) (h2 : i < p.length) : at0 (leftZ b p) i = if at0 b i - at0 p i > 0 then at0 b i - at0 p i else 0 := by
  unfold at0 leftZ
  simp only [List.getD_eq_getElem?_getD, List.getElem?_zipWith, List.getElem?_eq_getElem h1, List.getElem?_eq_getElem h2]
  rfl
theorem left_len {n : Nat} {b p : Bk} (h1 : b.length = n) (h2 : p.length = n) : (leftZ b p).length = n := by unfold leftZ; simp [h1, h2]
theorem left_ok {n : Nat} {b p : Bk} (h1 : b.length = n) (h2 : p.length = n) : BkOk n (leftZ b p) := by
  refine ⟨left_len h1 h2, fun x hx => ?_⟩
  unfold leftZ at hx
  obtain ⟨i, hi, rfl⟩ := List.getElem_of_mem hx
  rw [List.getElem_zipWith]
  split <;> omega
theorem sumAt_nonneg {n : Nat} {ps qs : List Pk} (h : PsOk n ps) (o : Of ps qs) (i : Nat) : 0 ≤ sumAt qs i := by
  induction qs with
  | nil => simp [sumAt]
  | cons q qs ih =>
    have h1 := (h.bk q (o q List.mem_cons_self)).at i
    have h2 := ih fun r hr => o r (List.mem_cons_of_mem _ hr)
    simp only [sumAt, List.map_cons, List.sum_cons] at h2 ⊢
    omega
theorem tot_nonneg {n : Nat} {ps qs : List Pk} (h : PsOk n ps) (o : Of ps qs) : 0 ≤ tot qs := by
  induction qs with
  | nil => simp [tot]
  | cons q qs ih =>
    have h1 := h.pr q (o q List.mem_cons_self)
    have h2 := ih fun r hr => o r (List.mem_cons_of_mem _ hr)
    simp only [tot, List.map_cons, List.sum_cons] at h2 ⊢
    omega
theorem cov_cons {n : Nat} {ps qs : List Pk} {b : Bk} {p : Pk} (h : PsOk n ps) (hb : b.length = n) (hp : p ∈ ps) (o : Of ps qs) : Cov b (p :: qs) ↔ Cov (leftZ b p.1) qs := by
  have hl := (h.bk p hp).len
  have h0 := (h.bk p hp).at
  unfold Cov
  rw [left_len hb hl, hb]
  refine forall_congr' fun i => forall_congr' fun hi => ?_
  rw [at_left (by omega) (by omega)]
  have := sumAt_nonneg h o i
  have e : sumAt (p :: qs) i = at0 p.1 i + sumAt qs i := by simp [sumAt]
  rw [e]
  split <;> omega
theorem perm_sumI {l m : List Int} (p : l.Perm m) : l.sum = m.sum := by
  induction p with
  | nil => rfl
  | cons x _ ih => rw [List.sum_cons, List.sum_cons, ih]
  | swap x y l => simp only [List.sum_cons]; omega
  | trans _ _ a b => exact a.trans b
theorem perm_tot {qs rs : List Pk} (p : qs.Perm rs) : tot qs = tot rs := by unfold tot; exact perm_sumI (p.map _)
theorem perm_cov {qs rs : List Pk} {b : Bk} (p : qs.Perm rs) (h : Cov b qs) : Cov b rs := fun i hi => by
  have : sumAt qs i = sumAt rs i := by unfold sumAt; exact perm_sumI (p.map _)
  rw [← this]; exact h i hi
theorem ext_at {b c : Bk} (hl : b.length = c.length) (h : ∀ i, i < b.length → at0 b i = at0 c i) : b = c := by
  refine List.ext_getElem hl fun i h1 h2 => ?_
  have := h i h1
  unfold at0 at this
  simpa [List.getD_eq_getElem?_getD, h1, h2] using this
/-- some pack of a cover takes something away -/
theorem some_takes {n : Nat} {ps : List Pk} {b : Bk} (h : PsOk n ps) (hb : BkOk n b) (nz : ∃ i, i < n ∧ 0 < at0 b i) : ∀ qs : List Pk, Of ps qs → Cov b qs → ∃ q ∈ qs, leftZ b q.1 ≠ b := by
  intro qs o c
  refine Classical.byContradiction fun no => ?_
  obtain ⟨i, hi, pos⟩ := nz
  have all : ∀ q ∈ qs, at0 q.1 i = 0 := fun q hq => by
    have e : leftZ b q.1 = b := Classical.byContradiction fun z => no ⟨q, hq, z⟩
    have l := (h.bk q (o q hq)).len
    have k := at_left (b := b) (p := q.1) (i := i) (by rw [hb.len]; exact hi) (by omega)
    rw [e] at k
    have := (h.bk q (o q hq)).at i
    split at k <;> omega
  have z : sumAt qs i = 0 := by
    unfold sumAt
    clear no c o
    induction qs with
    | nil => rfl
    | cons q qs ih => rw [List.map_cons, List.sum_cons, all q List.mem_cons_self, ih fun r hr => all r (List.mem_cons_of_mem _ hr)]; rfl
  have := c i (by rw [hb.len]; exact hi)
  omega
def take1 (D : Bk → Option Int) (b : Bk) (acc : Option Int) (p : Pk) : Option Int :=
  if leftZ b p.1 ≠ b then match D (leftZ b p.1) with
    | none => acc
    | some c => match acc with
      | none => some (c + p.2)
      | some a => if c + p.2 < a then some (c + p.2) else some a
  else acc
def best (D : Bk → Option Int) (b : Bk) (ps : List Pk) : Option Int := ps.foldl (take1 D b) none
/-- best is the least of what the packs give -/
theorem best_spec (D : Bk → Option Int) (b : Bk) (ps : List Pk) : (∀ p ∈ ps, leftZ b p.1 ≠ b → ∀ c, D (leftZ b p.1) = some c → ∃ v, best D b ps = some v ∧ v ≤ c + p.2) ∧ ∀ v, best D b ps = some v → ∃ p ∈ ps, leftZ b p.1 ≠ b ∧ ∃ c, D (leftZ b p.1) = some c ∧ v = c + p.2 := by
  have mono : ∀ (ps : List Pk) (a : Int), ∃ v, ps.foldl (take1 D b) (some a) = some v ∧ v ≤ a := by
    intro ps
    induction ps with
    | nil => intro a; exact ⟨a, rfl, Int.le_refl _⟩
    | cons p ps ih =>
      intro a
      have : ∃ a', take1 D b (some a) p = some a' ∧ a' ≤ a := by
        unfold take1
        split
        · split
          · exact ⟨a, rfl, Int.le_refl _⟩
          · dsimp only
            split
            · exact ⟨_, rfl, by omega⟩
            · exact ⟨_, rfl, Int.le_refl _⟩
        · exact ⟨a, rfl, Int.le_refl _⟩
      obtain ⟨a', e, l⟩ := this
      obtain ⟨v, e2, l2⟩ := ih a'
      exact ⟨v, by rw [List.foldl_cons, e]; exact e2, by omega⟩
  constructor
  · unfold best
    generalize (none : Option Int) = acc
    induction ps generalizing acc with
    | nil => intro p hp; cases hp
    | cons p ps ih =>
      intro q hq ne c hc
      rw [List.foldl_cons]
      rcases List.mem_cons.mp hq with rfl | hq
      · have : ∃ a', take1 D b acc q = some a' ∧ a' ≤ c + q.2 := by
          unfold take1
          rw [if_pos ne, hc]
          cases acc with
          | none => exact ⟨_, rfl, Int.le_refl _⟩
          | some a =>
            dsimp only
            split
            · exact ⟨_, rfl, Int.le_refl _⟩
            · exact ⟨_, rfl, by omega⟩
        obtain ⟨a', e, l⟩ := this
        rw [e]
        obtain ⟨v, e2, l2⟩ := mono ps a'
        exact ⟨v, e2, by omega⟩
      · exact ih _ q hq ne c hc
  · have key : ∀ (ps : List Pk) (acc : Option Int) (v : Int), ps.foldl (take1 D b) acc = some v → acc = some v ∨ ∃ p ∈ ps, leftZ b p.1 ≠ b ∧ ∃ c, D (leftZ b p.1) = some c ∧ v = c + p.2 := by
      intro ps
      induction ps with
      | nil => intro acc v h; exact .inl h
      | cons p ps ih =>
        intro acc v h
        rw [List.foldl_cons] at h
        rcases ih _ v h with e | ⟨q, hq, r⟩
        · unfold take1 at e
          split at e
          · rename_i ne
            split at e
            · exact .inl e
            · rename_i c hc
              cases acc with
              | none => cases e; exact .inr ⟨p, List.mem_cons_self, ne, c, hc, rfl⟩
              | some a =>
                dsimp only at e
                split at e
                · cases e; exact .inr ⟨p, List.mem_cons_self, ne, c, hc, rfl⟩
                · exact .inl e
          · exact .inl e
        · exact .inr ⟨q, List.mem_cons_of_mem _ hq, r⟩
    intro v h
    rcases key ps none v h with e | r
    · cases e
    · exact r
/-- Bellman -/
theorem best_is {n : Nat} {ps : List Pk} {b : Bk} {D : Bk → Option Int} (h : PsOk n ps) (hb : BkOk n b) (nz : ∃ i, i < n ∧ 0 < at0 b i) (hD : ∀ p ∈ ps, leftZ b p.1 ≠ b → IsC ps (leftZ b p.1) (D (leftZ b p.1))) : IsC ps b (best D b ps) := by
  obtain ⟨s1, s2⟩ := best_spec D b ps
  have low : ∀ qs, Of ps qs → Cov b qs → ∃ v, best D b ps = some v ∧ v ≤ tot qs := fun qs o c => by
    obtain ⟨q, hq, ne⟩ := some_takes h hb nz qs o c
    have pe : qs.Perm (q :: qs.erase q) := List.perm_cons_erase hq
    have o' : Of ps (qs.erase q) := fun r hr => o r (List.mem_of_mem_erase hr)
    have c' := (cov_cons h hb.len (o q hq) o').mp (perm_cov pe c)
    have hq' := hD q (o q hq) ne
    cases e : D (leftZ b q.1) with
    | none => rw [e] at hq'; exact absurd c' (hq' _ o')
    | some d =>
      rw [e] at hq'
      obtain ⟨v, e1, l1⟩ := s1 q (o q hq) ne d e
      have := hq'.2 _ o' c'
      have t := perm_tot pe
      have : tot (q :: qs.erase q) = q.2 + tot (qs.erase q) := by simp [tot]
      exact ⟨v, e1, by omega⟩
  cases e : best D b ps with
  | none => exact fun qs o c => by obtain ⟨v, e1, _⟩ := low qs o c; rw [e] at e1; cases e1
  | some v =>
    refine ⟨?_, fun qs o c => ?_⟩
    · obtain ⟨p, hp, ne, c, hc, rfl⟩ := s2 v e
      have hp' := hD p hp ne
      rw [hc] at hp'
      obtain ⟨⟨qs, o, cv, t⟩, _⟩ := hp'
      exact ⟨p :: qs, fun r hr => (List.mem_cons.mp hr).elim (fun z => z ▸ hp) (o r), (cov_cons h hb.len hp o).mpr cv, by simp [tot] at t ⊢; omega⟩
    · obtain ⟨w, e1, l⟩ := low qs o c
      rw [e] at e1; cases e1; exact l
/-- nothing costs nothing -/
theorem zero_is {n : Nat} {ps : List Pk} {b : Bk} (h : PsOk n ps) (hz : ∀ i, i < b.length → at0 b i ≤ 0) : IsC ps b (some 0) :=
  ⟨⟨[], fun q hq => by simp at hq, fun i hi => by have := hz i hi; simpa [sumAt] using this, rfl⟩, fun qs o _ => tot_nonneg h o⟩
open Classical in
/-- the one cost -/
noncomputable def costZ (ps : List Pk) (b : Bk) : Option Int := if h : ∃ c, IsC ps b c then h.choose else none
theorem sum_at (b : Bk) (hb : ∀ x ∈ b, 0 ≤ x) : 0 ≤ b.sum ∧ (b.sum = 0 → ∀ i, i < b.length → at0 b i ≤ 0) ∧ (b.sum ≠ 0 → ∃ i, i < b.length ∧ 0 < at0 b i) := by
  induction b with
  | nil => simp
  | cons x b ih =>
    have h1 := hb x List.mem_cons_self
    obtain ⟨a1, a2, a3⟩ := ih fun y hy => hb y (List.mem_cons_of_mem _ hy)
    rw [List.sum_cons]
    refine ⟨by omega, fun e i hi => ?_, fun e => ?_⟩
    · cases i with
      | zero => show x ≤ 0; omega
      | succ i => exact a2 (by omega) i (by simpa using hi)
    · by_cases hx : 0 < x
      · exact ⟨0, by simp, hx⟩
      · obtain ⟨i, h2, h3⟩ := a3 (by omega)
        exact ⟨i + 1, by simpa using h2, h3⟩
theorem left_sum {n : Nat} {b p : Bk} (hb : BkOk n b) (hp : BkOk n p) (ne : leftZ b p ≠ b) : (leftZ b p).sum < b.sum ∧ ∀ i, at0 (leftZ b p) i ≤ at0 b i := by
  have pw : ∀ (b p : Bk), b.length = p.length → (∀ x ∈ b, 0 ≤ x) → (∀ x ∈ p, 0 ≤ x) → ((leftZ b p).sum ≤ b.sum ∧ ((leftZ b p).sum = b.sum → leftZ b p = b)) ∧ ∀ i, at0 (leftZ b p) i ≤ at0 b i := by
    intro b
    induction b with
    | nil => intro p _ _ _; refine ⟨⟨by simp [leftZ], fun _ => by simp [leftZ]⟩, fun i => by simp [leftZ, at0]⟩
    | cons x b ih =>
      intro p hl h1 h2
      cases p with
      | nil => simp at hl
      | cons y p =>
        obtain ⟨⟨a1, a2⟩, a3⟩ := ih p (by simpa using hl) (fun z hz => h1 z (List.mem_cons_of_mem _ hz)) (fun z hz => h2 z (List.mem_cons_of_mem _ hz))
        have hx := h1 x List.mem_cons_self
        have hy := h2 y List.mem_cons_self
        have e : leftZ (x :: b) (y :: p) = (if x - y > 0 then x - y else 0) :: leftZ b p := rfl
        rw [e, List.sum_cons, List.sum_cons]
        have hd : (if x - y > 0 then x - y else 0) ≤ x := by split <;> omega
        refine ⟨⟨by omega, fun es => ?_⟩, fun i => ?_⟩
        · have e1 : (if x - y > 0 then x - y else 0) = x := by omega
          rw [e1, a2 (by omega)]
        · cases i with
          | zero => exact hd
          | succ i => exact a3 i
  obtain ⟨⟨a1, a2⟩, a3⟩ := pw b p (hb.len.trans hp.len.symm) hb.pos hp.pos
  refine ⟨?_, a3⟩
  rcases Int.lt_or_eq_of_le a1 with h | h
  · exact h
  · exact absurd (a2 h) ne
theorem cost_ex {n : Nat} {ps : List Pk} (h : PsOk n ps) : ∀ (k : Nat) (b : Bk), BkOk n b → b.sum.toNat ≤ k → ∃ c, IsC ps b c := by
  intro k
  induction k with
  | zero =>
    intro b hb hk
    have := sum_at b hb.pos
    exact ⟨_, zero_is h (this.2.1 (by omega))⟩
  | succ k ih =>
    intro b hb hk
    have s := sum_at b hb.pos
    by_cases e : b.sum = 0
    · exact ⟨_, zero_is h (s.2.1 e)⟩
    · refine ⟨_, best_is (D := costZ ps) h hb (by obtain ⟨i, h1, h2⟩ := s.2.2 e; exact ⟨i, by rw [← hb.len]; exact h1, h2⟩) fun p hp ne => ?_⟩
      have l := (left_sum hb (h.bk p hp) ne).1
      have := ih (leftZ b p.1) (left_ok hb.len (h.bk p hp).len) (by omega)
      unfold costZ
      rw [dif_pos this]
      exact this.choose_spec
theorem cost_is {n : Nat} {ps : List Pk} {b : Bk} (h : PsOk n ps) (hb : BkOk n b) : IsC ps b (costZ ps b) := by
  have := cost_ex h b.sum.toNat b hb (Nat.le_refl _)
  unfold costZ
  rw [dif_pos this]
  exact this.choose_spec
theorem cost_eq {n : Nat} {ps : List Pk} {b : Bk} {c : Option Int} (h : PsOk n ps) (hb : BkOk n b) (k : IsC ps b c) : costZ ps b = c := (cost_is h hb).one k
theorem cost_zero {n : Nat} {ps : List Pk} {b : Bk} (h : PsOk n ps) (hb : BkOk n b) (e : b.sum = 0) : costZ ps b = some 0 := cost_eq h hb (zero_is h ((sum_at b hb.pos).2.1 e))
theorem cost_best {n : Nat} {ps : List Pk} {b : Bk} (h : PsOk n ps) (hb : BkOk n b) (e : b.sum ≠ 0) : costZ ps b = best (costZ ps) b ps :=
  cost_eq h hb (best_is h hb (by obtain ⟨i, h1, h2⟩ := (sum_at b hb.pos).2.2 e; exact ⟨i, by rw [← hb.len]; exact h1, h2⟩) fun p hp _ => cost_is h (left_ok hb.len (h.bk p hp).len))
end PD
/-! PN: total orders, sorted lists, baskets below one; core Lean alone. -/
namespace PD
structure Ord1 {a : Type} (lt : a → a → Bool) : Prop where
  irr : ∀ x, lt x x = false
  tr : ∀ x y z, lt x y = true → lt y z = true → lt x z = true
  tot : ∀ x y, lt x y = false → lt y x = false → x = y
section
variable {a : Type} {lt : a → a → Bool}
def srt (lt : a → a → Bool) (l : List a) : List a := l.mergeSort fun x y => !lt y x
theorem Ord1.asym (o : Ord1 lt) {x y : a} (h : lt x y = true) : lt y x = false := by
  cases e : lt y x with
  | false => rfl
  | true => have := o.tr x y x h e; rw [o.irr] at this; cases this
theorem srt_perm (l : List a) : (srt lt l).Perm l := List.mergeSort_perm l _
theorem mem_srt {l : List a} {x : a} : x ∈ srt lt l ↔ x ∈ l := (srt_perm l).mem_iff
theorem srt_len (l : List a) : (srt lt l).length = l.length := (srt_perm l).length_eq
theorem srt_le (o : Ord1 lt) (l : List a) : (srt lt l).Pairwise fun x y => lt y x = false := by
  have := List.pairwise_mergeSort (le := fun x y => !lt y x) (fun x y z h1 h2 => by
    simp only [Bool.not_eq_true', Bool.not_eq_true] at h1 h2 ⊢
    cases e : lt z x with
    | false => rfl
    | true =>
      exfalso
      cases e2 : lt y x with
      | true => rw [e2] at h1; cases h1
      | false =>
        cases e3 : lt x y with
        | true =>
          have := o.tr z x y e e3
          rw [this] at h2; cases h2
        | false =>
          have := o.tot x y e3 e2
          subst this; rw [e] at h2; cases h2) (fun x y => by
    cases e : lt y x with
    | false => rfl
    | true => simp [o.asym e]) l
  exact this.imp fun h => by simpa using h
theorem srt_lt (o : Ord1 lt) {l : List a} (nd : l.Nodup) : (srt lt l).Pairwise fun x y => lt x y = true := by
  have h1 := srt_le o l
  have h2 : (srt lt l).Nodup := (srt_perm l).nodup_iff.mpr nd
  refine (h1.and h2).imp fun {x y} h => ?_
  cases e : lt x y with
  | true => rfl
  | false => exact absurd (o.tot x y e h.1) h.2
/-- rising lists of the same things are the same -/
theorem asc_uniq (o : Ord1 lt) : ∀ {l m : List a}, l.Pairwise (fun x y => lt x y = true) → m.Pairwise (fun x y => lt x y = true) → (∀ x, x ∈ l ↔ x ∈ m) → l = m
  | [], [], _, _, _ => rfl
  | [], y :: m, _, _, h => absurd ((h y).mpr List.mem_cons_self) (by simp)
  | x :: l, [], _, _, h => absurd ((h x).mp List.mem_cons_self) (by simp)
  | x :: l, y :: m, hl, hm, h => by
    rw [List.pairwise_cons] at hl hm
    have e : x = y := by
      rcases List.mem_cons.mp ((h x).mp List.mem_cons_self) with e | e
      · exact e
      · rcases List.mem_cons.mp ((h y).mpr List.mem_cons_self) with e' | e'
        · exact e'.symm
        · have a1 := hm.1 x e
          have a2 := hl.1 y e'
          rw [o.asym a1] at a2; cases a2
    subst e
    have nx : ∀ {k : List a}, (∀ z ∈ k, lt x z = true) → x ∉ k := fun hk hx => by
      have := hk x hx
      rw [o.irr] at this; cases this
    congr 1
    refine asc_uniq o hl.2 hm.2 fun z => ⟨fun hz => ?_, fun hz => ?_⟩
    · rcases List.mem_cons.mp ((h z).mp (List.mem_cons_of_mem _ hz)) with e | e
      · subst e; exact absurd hz (nx hl.1)
      · exact e
    · rcases List.mem_cons.mp ((h z).mpr (List.mem_cons_of_mem _ hz)) with e | e
      · subst e; exact absurd hz (nx hm.1)
      · exact e
theorem asc_nodup (o : Ord1 lt) {l : List a} (h : l.Pairwise fun x y => lt x y = true) : l.Nodup := h.imp fun {x y} e z => by subst z; rw [o.irr] at e; cases e
/-- a sorted list is its own sort -/
theorem srt_of (o : Ord1 lt) {l : List a} (h : l.Pairwise fun x y => lt y x = false) : srt lt l = l := by
  refine List.mergeSort_of_pairwise (h.imp fun {x y} e => ?_)
  simp [e]
variable [DecidableEq a]
def ddp : List a → List a
  | [] => []
  | x :: l => if x ∈ l then ddp l else x :: ddp l
theorem mem_ddp {x : a} : ∀ {l : List a}, x ∈ ddp l ↔ x ∈ l
  | [] => Iff.rfl
  | y :: l => by
    unfold ddp
    by_cases h : y ∈ l
    · rw [if_pos h, mem_ddp]
      exact ⟨fun z => List.mem_cons_of_mem _ z, fun z => (List.mem_cons.mp z).elim (fun e => e ▸ h) id⟩
    · rw [if_neg h, List.mem_cons, List.mem_cons, mem_ddp]
theorem ddp_nodup : ∀ l : List a, (ddp l).Nodup
  | [] => List.nodup_nil
  | y :: l => by
    unfold ddp
    by_cases h : y ∈ l
    · rw [if_pos h]; exact ddp_nodup l
    · rw [if_neg h]; exact List.nodup_cons.mpr ⟨fun z => h (mem_ddp.mp z), ddp_nodup l⟩
theorem ddp_len : ∀ l : List a, (ddp l).length ≤ l.length
  | [] => Nat.le_refl _
  | y :: l => by
    unfold ddp
    have := ddp_len l
    split <;> simp <;> omega
/-- sorted(set(..)) -/
def sset (lt : a → a → Bool) (l : List a) : List a := srt lt (ddp l)
theorem mem_sset {l : List a} {x : a} : x ∈ sset lt l ↔ x ∈ l := mem_srt.trans mem_ddp
theorem sset_asc (o : Ord1 lt) (l : List a) : (sset lt l).Pairwise fun x y => lt x y = true := srt_lt o (ddp_nodup l)
theorem sset_len (l : List a) : (sset lt l).length ≤ l.length := by unfold sset; rw [srt_len]; exact ddp_len l
theorem sset_eq (o : Ord1 lt) {l m : List a} (h : ∀ x, x ∈ l ↔ x ∈ m) : sset lt l = sset lt m := asc_uniq o (sset_asc o l) (sset_asc o m) fun x => by rw [mem_sset, mem_sset]; exact h x
theorem sset_of (o : Ord1 lt) {l : List a} (h : l.Pairwise fun x y => lt x y = true) : sset lt l = l := asc_uniq o (sset_asc o l) h fun x => mem_sset
end
/-! ### orders of baskets and packs -/
def ltB (x y : Bk) : Bool := decide (x < y)
theorem ordB : Ord1 ltB := by
  refine ⟨fun x => ?_, fun x y z h1 h2 => ?_, fun x y h1 h2 => ?_⟩
  · unfold ltB; exact decide_eq_false (List.lt_irrefl x)
  · unfold ltB at *; exact decide_eq_true (List.lt_trans (of_decide_eq_true h1) (of_decide_eq_true h2))
  · unfold ltB at *
    have a1 := of_decide_eq_false h1
    have a2 := of_decide_eq_false h2
    exact List.le_antisymm (List.not_lt.mp a2) (List.not_lt.mp a1)
/-- first this, then that -/
theorem ord_by {a b : Type} {lt : b → b → Bool} (f : a → b) (h : Ord1 lt) (inj : ∀ x y, f x = f y → x = y) : Ord1 fun x y => lt (f x) (f y) :=
  ⟨fun x => h.irr _, fun x y z => h.tr _ _ _, fun x y h1 h2 => inj x y (h.tot _ _ h1 h2)⟩
def ltI (x y : Int) : Bool := decide (x < y)
theorem ordI : Ord1 ltI := by
  refine ⟨fun x => ?_, fun x y z h1 h2 => ?_, fun x y h1 h2 => ?_⟩
  · simp [ltI]
  · simp [ltI] at *; omega
  · simp [ltI] at *; omega
def lt2 {a b : Type} [DecidableEq a] (l : a → a → Bool) (m : b → b → Bool) (x y : a × b) : Bool := if x.1 = y.1 then m x.2 y.2 else l x.1 y.1
theorem ord2 {a b : Type} [DecidableEq a] {l : a → a → Bool} {m : b → b → Bool} (h : Ord1 l) (k : Ord1 m) : Ord1 (lt2 l m) := by
  refine ⟨fun x => ?_, fun x y z h1 h2 => ?_, fun x y h1 h2 => ?_⟩
  · unfold lt2; rw [if_pos rfl]; exact k.irr _
  · unfold lt2 at *
    by_cases e1 : x.1 = y.1
    · rw [if_pos e1] at h1
      by_cases e2 : y.1 = z.1
      · rw [if_pos e2] at h2; rw [if_pos (e1.trans e2)]; exact k.tr _ _ _ h1 h2
      · rw [if_neg e2] at h2; rw [e1, if_neg e2]; exact h2
    · rw [if_neg e1] at h1
      by_cases e2 : y.1 = z.1
      · rw [← e2, if_neg e1]; exact h1
      · rw [if_neg e2] at h2
        by_cases e3 : x.1 = z.1
        · rw [← e3, h.asym h1] at h2; cases h2
        · rw [if_neg e3]; exact h.tr _ _ _ h1 h2
  · unfold lt2 at *
    by_cases e : x.1 = y.1
    · rw [if_pos e] at h1; rw [if_pos e.symm] at h2
      exact Prod.ext e (k.tot _ _ h1 h2)
    · rw [if_neg e] at h1; rw [if_neg (Ne.symm e)] at h2
      exact absurd (h.tot _ _ h1 h2) e
abbrev ltP : Pk → Pk → Bool := lt2 ltB ltI
theorem ordP : Ord1 ltP := ord2 ordB ordI
/-- by things in all, then as tuples -/
def ltK (x y : Bk) : Bool := lt2 ltI ltB (x.sum, x) (y.sum, y)
theorem ordK : Ord1 ltK := ord_by (fun x : Bk => (x.sum, x)) (ord2 ordI ordB) fun x y h => (Prod.mk.inj h).2
theorem ltK_sum {x y : Bk} (h : x.sum < y.sum) : ltK x y = true := by
  unfold ltK lt2
  dsimp only
  rw [if_neg (by omega)]
  simpa [ltI] using h
theorem sum_ltK {x y : Bk} (h : ltK y x = false) : x.sum ≤ y.sum := by
  refine Int.not_lt.mp fun z => ?_
  rw [ltK_sum z] at h; cases h
/-! ### baskets below one -/
structure Below (x b : Bk) : Prop where
  len : x.length = b.length
  le : ∀ i, i < b.length → 0 ≤ at0 x i ∧ at0 x i ≤ at0 b i
def upTo0 (n : Int) : List Int := (List.range (n + 1).toNat).map fun (i : Nat) => (i : Int)
theorem mem_upTo0 {n x : Int} : x ∈ upTo0 n ↔ 0 ≤ x ∧ x ≤ n := by
  unfold upTo0
  rw [List.mem_map]
  constructor
  · rintro ⟨i, hi, rfl⟩; have := List.mem_range.mp hi; omega
  · rintro ⟨h1, h2⟩; exact ⟨x.toNat, List.mem_range.mpr (by omega), by omega⟩
theorem nodup_map {a b : Type} {f : a → b} {l : List a} (inj : ∀ x y, f x = f y → x = y) (h : l.Nodup) : (l.map f).Nodup := by
  unfold List.Nodup at *
  rw [List.pairwise_map]
  exact h.imp fun {x y} n e => n (inj x y e)
theorem upTo0_nodup (n : Int) : (upTo0 n).Nodup := by
  unfold upTo0
  refine nodup_map ?_ List.nodup_range
  intro x y h
  exact Int.ofNat.inj h
def wide (rows : List Bk) (n : Int) : List Bk := rows.flatMap fun r => (upTo0 n).map fun x => r ++ [x]
def every (b : Bk) : List Bk := b.foldl wide [[]]
theorem mem_wide {rows : List Bk} {n : Int} {y : Bk} : y ∈ wide rows n ↔ ∃ r ∈ rows, ∃ x, 0 ≤ x ∧ x ≤ n ∧ y = r ++ [x] := by
  unfold wide
  simp only [List.mem_flatMap, List.mem_map, mem_upTo0]
  constructor
  · rintro ⟨r, hr, x, ⟨h1, h2⟩, rfl⟩; exact ⟨r, hr, x, h1, h2, rfl⟩
  · rintro ⟨r, hr, x, h1, h2, rfl⟩; exact ⟨r, hr, x, ⟨h1, h2⟩, rfl⟩
theorem wide_nodup {rows : List Bk} (h : rows.Nodup) (n : Int) : (wide rows n).Nodup := by
  unfold wide
  induction rows with
  | nil => simp
  | cons r rows ih =>
    rw [List.nodup_cons] at h
    rw [List.flatMap_cons, List.nodup_append]
    refine ⟨?_, ih h.2, ?_⟩
    · refine nodup_map ?_ (upTo0_nodup n)
      intro x y e
      simpa using e
    · intro x hx y hy e
      subst e
      obtain ⟨k, _, rfl⟩ := List.mem_map.mp hx
      obtain ⟨r2, h2, hm⟩ := List.mem_flatMap.mp hy
      obtain ⟨k2, _, e2⟩ := List.mem_map.mp hm
      have := List.append_inj_left e2 (by have := congrArg List.length e2; simpa using this)
      subst this
      exact h.1 h2
theorem below_snoc {y : Bk} {b : Bk} {n : Int} : Below y (b ++ [n]) ↔ ∃ r, Below r b ∧ ∃ x, 0 ≤ x ∧ x ≤ n ∧ y = r ++ [x] := by
  constructor
  · intro h
    have hl : y.length = b.length + 1 := by rw [h.len]; simp
    have hy : y ≠ [] := fun z => by subst z; simp at hl
    refine ⟨y.dropLast, ⟨by simp [hl], fun i hi => ?_⟩, y.getLast hy, ?_, ?_, (List.dropLast_concat_getLast hy).symm⟩
    · have := h.le i (by simp; omega)
      have e1 : at0 y.dropLast i = at0 y i := by
        unfold at0; simp [List.getD_eq_getElem?_getD, List.getElem?_dropLast]; rw [if_pos (by omega)]
      have e2 : at0 (b ++ [n]) i = at0 b i := by
        unfold at0; simp only [List.getD_eq_getElem?_getD]; rw [List.getElem?_append_left hi]
      rw [e1, ← e2]; exact this
    · have := (h.le b.length (by simp)).1
      have e1 : at0 y b.length = y.getLast hy := by
        unfold at0; simp [List.getD_eq_getElem?_getD, List.getLast_eq_getElem, hl]
      rw [e1] at this; exact this
    · have := (h.le b.length (by simp)).2
      have e1 : at0 y b.length = y.getLast hy := by
        unfold at0; simp [List.getD_eq_getElem?_getD, List.getLast_eq_getElem, hl]
      rw [e1] at this
      have e2 : at0 (b ++ [n]) b.length = n := by unfold at0; simp [List.getD_eq_getElem?_getD]
      rw [e2] at this; exact this
  · rintro ⟨r, hr, x, h1, h2, rfl⟩
    refine ⟨by simp [hr.len], fun i hi => ?_⟩
    by_cases hi' : i < b.length
    · have e1 : at0 (r ++ [x]) i = at0 r i := by unfold at0; simp only [List.getD_eq_getElem?_getD]; rw [List.getElem?_append_left (by rw [hr.len]; exact hi')]
      have e2 : at0 (b ++ [n]) i = at0 b i := by unfold at0; simp only [List.getD_eq_getElem?_getD]; rw [List.getElem?_append_left hi']
      rw [e1, e2]; exact hr.le i hi'
    · have : i = b.length := by simp at hi; omega
      subst this
      have e1 : at0 (r ++ [x]) b.length = x := by unfold at0; rw [← hr.len]; simp [List.getD_eq_getElem?_getD]
      have e2 : at0 (b ++ [n]) b.length = n := by unfold at0; simp [List.getD_eq_getElem?_getD]
      rw [e1, e2]; exact ⟨h1, h2⟩
theorem every_spec : ∀ (b done : Bk) (rows : List Bk), rows.Nodup → (∀ y, y ∈ rows ↔ Below y done) → (b.foldl wide rows).Nodup ∧ ∀ y, y ∈ b.foldl wide rows ↔ Below y (done ++ b)
  | [], done, rows, nd, h => by rw [List.append_nil]; exact ⟨nd, h⟩
  | n :: b, done, rows, nd, h => by
    have := every_spec b (done ++ [n]) (wide rows n) (wide_nodup nd n) fun y => by
      rw [mem_wide, below_snoc]
      constructor
      · rintro ⟨r, hr, z⟩; exact ⟨r, (h r).mp hr, z⟩
      · rintro ⟨r, hr, z⟩; exact ⟨r, (h r).mpr hr, z⟩
    rw [List.append_assoc] at this
    exact this
theorem mem_every {b y : Bk} : y ∈ every b ↔ Below y b := (every_spec b [] [[]] (by simp) fun y => by
  constructor
  · intro h; rw [List.mem_singleton] at h; subst h; exact ⟨rfl, fun i hi => absurd hi (by simp)⟩
  · intro h; rw [List.mem_singleton]; exact List.length_eq_zero_iff.mp h.len).2 y
theorem every_nodup (b : Bk) : (every b).Nodup := (every_spec b [] [[]] (by simp) fun y => by
  constructor
  · intro h; rw [List.mem_singleton] at h; subst h; exact ⟨rfl, fun i hi => absurd hi (by simp)⟩
  · intro h; rw [List.mem_singleton]; exact List.length_eq_zero_iff.mp h.len).1
theorem wide_len (n : Int) (rows : List Bk) : (wide rows n).length = rows.length * (n + 1).toNat := by
  unfold wide
  induction rows with
  | nil => simp
  | cons r rows ih => rw [List.flatMap_cons, List.length_append, ih]; simp [upTo0, Nat.add_mul]; omega
/-- baskets below one, those of fewer things first -/
def belowS (b : Bk) : List Bk := srt ltK (every b)
theorem mem_belowS {b y : Bk} : y ∈ belowS b ↔ Below y b := mem_srt.trans mem_every
theorem belowS_asc (b : Bk) : (belowS b).Pairwise fun x y => ltK x y = true := srt_lt ordK (every_nodup b)
theorem belowS_nodup (b : Bk) : (belowS b).Nodup := asc_nodup ordK (belowS_asc b)
theorem Below.ok {x b : Bk} (h : Below x b) : BkOk b.length x := ⟨h.len, fun y hy => by
  obtain ⟨i, hi, rfl⟩ := List.getElem_of_mem hy
  have := (h.le i (by rw [← h.len]; exact hi)).1
  unfold at0 at this
  simpa [List.getD_eq_getElem?_getD, hi] using this⟩
theorem below_self {n : Nat} {b : Bk} (h : BkOk n b) : Below b b := ⟨rfl, fun i _ => ⟨h.at i, Int.le_refl _⟩⟩
theorem below_left {n : Nat} {x b p : Bk} (h : Below x b) (hb : b.length = n) (hp : BkOk n p) : Below (leftZ x p) b := by
  have hl : (leftZ x p).length = n := left_len (h.len.trans hb) hp.len
  refine ⟨hl.trans hb.symm, fun i hi => ?_⟩
  have := h.le i hi
  have hp0 := hp.at i
  rw [at_left (by rw [h.len]; exact hi) (by rw [hp.len, ← hb]; exact hi)]
  split <;> omega
end PD
/-! PQ: reckoning with mirrors over typed things: comprehensions, loops, orders. -/
namespace PD
open PySem L2
@[simp] theorem ev_tTup (k : Nat) (u : List PyData → Rw → Option Rw) (ds : List PyData) (r : Rw) : tTup k u (.tuple ds) r = if ds.length = k then u ds r else none := rfl
@[simp] theorem ev_tCons (t : PyData → Rw → Option Rw) (u : List PyData → Rw → Option Rw) (d : PyData) (ds : List PyData) (r : Rw) : tCons t u (d :: ds) r = (t d r).bind (u ds) := rfl
@[simp] theorem ev_tNil (r : Rw) : tNil [] r = some r := rfl
@[simp] theorem ev_tName (i : Nat) (d : PyData) (r : Rw) : tName i d r = some (r.set i d) := rfl
@[simp] theorem ev_gYes (r : Rw) : gYes r = .ok true := rfl
@[simp] theorem ev_mask0 (r : Rw) : mask [] r = r := rfl
@[simp] theorem ev_maskD (fs : List Fl) (d : PyData) (r : Rw) : mask (.dead :: fs) (d :: r) = .none :: mask fs r := rfl
@[simp] theorem ev_maskI (fs : List Fl) (d : PyData) (r : Rw) : mask (.im :: fs) (d :: r) = d :: mask fs r := rfl
@[simp] theorem ev_maskO (fs : List Fl) (d : PyData) (r : Rw) : mask (.ow :: fs) (d :: r) = d :: mask fs r := rfl
theorem ev_turn {gt : PyData → Rw → Option Rw} {gb : Rw → SR} {d : PyData} {r r' : Rw} (h : gt d r = some r') : turnD gt gb d r = gb r' := by unfold turnD; rw [h]
theorem ev_asg {gt : PyData → Rw → Option Rw} {ge : Rw → Rs PyData} {d : PyData} {r r' : Rw} (he : ge r = .ok d) (h : gt d r = some r') : gAsg gt ge r = .nx r' := by unfold gAsg; rw [he, ev_thenS, h]
theorem elt_of {gt : PyData → Rw → Option Rw} {gc : Rw → Rs Bool} {ge : Rw → Rs PyData} {r r' : Rw} {d y : PyData} {b : Bool} (ht : gt d r = some r') (hc : gc r' = .ok b) (he : b = true → ge r' = .ok y) : eltD gt gc ge r d = some (if b = true then some y else none) := by
  unfold eltD
  rw [ht, Option.bind_some, hc]
  cases b with
  | false => rfl
  | true => rw [he rfl]; rfl
theorem comp_enc {a : Type} {f : PyData → Option (Option PyData)} (enc : a → PyData) (c : a → Bool) (h : a → PyData) : ∀ (xs : List a), (∀ x ∈ xs, f (enc x) = some (if c x = true then some (h x) else none)) → compD f (xs.map enc) = some ((xs.filter c).map h)
  | [], _ => rfl
  | x :: xs, H => by
    rw [List.map_cons]
    unfold compD
    rw [H x List.mem_cons_self, comp_enc enc c h xs fun y hy => H y (List.mem_cons_of_mem _ hy)]
    by_cases e : c x = true
    · simp [e]
    · simp [e]
theorem comp_all {a : Type} {f : PyData → Option (Option PyData)} (enc : a → PyData) (h : a → PyData) (xs : List a) (H : ∀ x ∈ xs, f (enc x) = some (some (h x))) : compD f (xs.map enc) = some (xs.map h) := by
  rw [comp_enc enc (fun _ => true) h xs fun x hx => by rw [H x hx]; rfl, List.filter_eq_self.mpr fun _ _ => rfl]
/-- a loop by what stands in the slots behind each turn -/
theorem forD_pre0 {a : Type} {ph : List Fl} {step : PyData → Rw → SR} (enc : a → PyData) (S : List a → Rw) (all : List a) (H : ∀ done x rest, all = done ++ x :: rest → ∃ r, (step (enc x) (S done) = .nx r ∨ step (enc x) (S done) = .ct r) ∧ mask ph r = S (done ++ [x])) :
    ∀ xs done, all = done ++ xs → forD ph step (xs.map enc) (S done) = .nx (S all)
  | [], done, e => by rw [List.append_nil] at e; rw [e]; rfl
  | x :: xs, done, e => by
    obtain ⟨r, h1, h2⟩ := H done x xs e
    have k := forD_pre0 enc S all H xs (done ++ [x]) (by rw [e, List.append_assoc]; rfl)
    rw [List.map_cons]
    unfold forD
    rcases h1 with h1 | h1 <;> rw [h1] <;> dsimp only <;> rw [h2] <;> exact k
theorem forD_pre {a : Type} {ph : List Fl} {step : PyData → Rw → SR} (enc : a → PyData) (S : List a → Rw) (all : List a) (H : ∀ done x rest, all = done ++ x :: rest → ∃ r, (step (enc x) (S done) = .nx r ∨ step (enc x) (S done) = .ct r) ∧ mask ph r = S (done ++ [x])) : forD ph step (all.map enc) (S []) = .nx (S all) := forD_pre0 enc S all H all [] rfl
/-- a loop that looks for the first thing of some kind -/
theorem forD_find {a : Type} {ph : List Fl} {step : PyData → Rw → SR} (enc : a → PyData) (S : Rw) (c : a → Bool) (ret : a → PyData) : ∀ (xs : List a), (∀ x ∈ xs, c x = true → step (enc x) S = .rt (ret x)) → (∀ x ∈ xs, c x = false → ∃ r, (step (enc x) S = .nx r ∨ step (enc x) S = .ct r) ∧ mask ph r = S) →
    forD ph step (xs.map enc) S = match xs.find? c with | some x => .rt (ret x) | none => .nx S
  | [], _, _ => rfl
  | x :: xs, H1, H2 => by
    rw [List.map_cons]
    unfold forD
    cases e : c x with
    | true => rw [H1 x List.mem_cons_self e, List.find?_cons_of_pos e]
    | false =>
      obtain ⟨r, h1, h2⟩ := H2 x List.mem_cons_self e
      have k := forD_find enc S c ret xs (fun y hy => H1 y (List.mem_cons_of_mem _ hy)) (fun y hy => H2 y (List.mem_cons_of_mem _ hy))
      rw [List.find?_cons_of_neg (by rw [e]; decide), ← k]
      rcases h1 with h1 | h1 <;> rw [h1] <;> dsimp only <;> rw [h2]
/-! ### typed things as data -/
def encB (b : Bk) : PyData := .tuple (b.map .int)
def encP (p : Pk) : PyData := .tuple [encB p.1, .int p.2]
def optI : Option Int → PyData
  | none => .none
  | some i => .int i
theorem intsD_map' (b : List Int) : intsD (b.map PyData.int) = some b := intsD_map b
theorem eqv_ints : ∀ a b : List Int, PyData.eqvAll (a.map .int) (b.map .int) = decide (a = b)
  | [], [] => rfl
  | [], _ :: _ => rfl
  | _ :: _, [] => rfl
  | x :: a, y :: b => by
    rw [List.map_cons, List.map_cons, PySem.W.eqv_all_cons, eqv_ints a b]
    simp only [PyData.eqv, List.cons.injEq, Bool.decide_and]; rfl
theorem eqv_encB (a b : Bk) : PyData.eqv (encB a) (encB b) = decide (a = b) := by
  unfold encB
  rw [PyData.eqv]
  exact eqv_ints a b
theorem eqv_encP (p q : Pk) : PyData.eqv (encP p) (encP q) = decide (p = q) := by
  unfold encP
  rw [PyData.eqv, PySem.W.eqv_all_cons, PySem.W.eqv_all_cons, eqv_encB]
  obtain ⟨a, b⟩ := p
  obtain ⟨c, d⟩ := q
  simp only [PyData.eqv, PyData.eqvAll, Prod.mk.injEq, Bool.decide_and, Bool.and_true]; rfl
theorem alike_encB (a b : Bk) : PySem.W.alike (encB a) (encB b) = true := by
  unfold encB
  rw [PySem.W.alike]
  exact PySem.W.alike_ints a b
theorem alike_encP (p q : Pk) : PySem.W.alike (encP p) (encP q) = true := by
  unfold encP
  simp [PySem.W.alike, PySem.W.alikeAll, alike_encB]
theorem dataLt_encB (a b : Bk) : PySem.W.dataLt (encB a) (encB b) = ltB a b := by
  unfold encB
  rw [PySem.W.dataLt_tuple]
  exact PySem.W.dataLt_ints a b
theorem dataLt_encP (p q : Pk) : PySem.W.dataLt (encP p) (encP q) = ltP p q := by
  unfold encP
  rw [PySem.W.dataLt_pair (alike_encB _ _) (by simp [PySem.W.alike]), eqv_encB, dataLt_encB, PySem.W.dataLt_int]
  unfold ltP lt2 ltI
  by_cases h : p.1 = q.1
  · by_cases k : p.2 = q.2
    · simp [h, k, PyData.eqv]
    · simp [h, k, PyData.eqv]
  · simp [h]
theorem shp_encB (b : Bk) : Shp 1 (encB b) := shp_tup fun d hd => by
  obtain ⟨c, _, rfl⟩ := List.mem_map.mp hd
  exact shp_int c
theorem shp_encP (p : Pk) : Shp 2 (encP p) := shp_tup fun d hd => by
  simp only [List.mem_cons, List.not_mem_nil, or_false] at hd
  rcases hd with rfl | rfl
  · exact shp_encB _
  · exact (shp_int _).mono (by decide)
theorem dEq_of {n m : Nat} {a b : PyData} (ha : Shp n a) (hb : Shp m b) (hn : n ≤ 64 := by decide) (hm : m ≤ 64 := by decide) : dEq a b = some (.bool (PyData.eqv a b)) := by
  unfold dEq; rw [ha.shaped hn, hb.shaped hm]; rfl
theorem dNe_of {n m : Nat} {a b : PyData} (ha : Shp n a) (hb : Shp m b) (hn : n ≤ 64 := by decide) (hm : m ≤ 64 := by decide) : dNe a b = some (.bool (!PyData.eqv a b)) := by
  unfold dNe; rw [ha.shaped hn, hb.shaped hm]; rfl
@[simp] theorem dEq_encB (a b : Bk) : dEq (encB a) (encB b) = some (.bool (decide (a = b))) := by rw [dEq_of (shp_encB a) (shp_encB b), eqv_encB]
@[simp] theorem dNe_encB (a b : Bk) : dNe (encB a) (encB b) = some (.bool (!decide (a = b))) := by rw [dNe_of (shp_encB a) (shp_encB b), eqv_encB]
@[simp] theorem dEq_encP (a b : Pk) : dEq (encP a) (encP b) = some (.bool (decide (a = b))) := by rw [dEq_of (shp_encP a) (shp_encP b), eqv_encP]
@[simp] theorem dNe_encP (a b : Pk) : dNe (encP a) (encP b) = some (.bool (!decide (a = b))) := by rw [dNe_of (shp_encP a) (shp_encP b), eqv_encP]
/-! ### sorting typed things -/
theorem sort_enc {a : Type} {lt : a → a → Bool} (enc : a → PyData) (le : PyData → PyData → Bool) (h : ∀ x y, le (enc x) (enc y) = !lt y x) (l : List a) : (l.map enc).mergeSort le = (srt lt l).map enc := by
  unfold srt
  rw [List.map_mergeSort]
  intro x _ y _
  exact (h x y).symm
theorem sort_encP (l : List Pk) : (l.map encP).mergeSort leD = (srt ltP l).map encP := sort_enc encP leD (fun x y => by unfold leD; rw [dataLt_encP]) l
theorem sort_encB (l : List Bk) : (l.map encB).mergeSort leD = (srt ltB l).map encB := sort_enc encB leD (fun x y => by unfold leD; rw [dataLt_encB]) l
theorem sortOk_of2 {n : Nat} {l : List PyData} (hs : ∀ d ∈ l, Shp n d) (hn : n + 1 ≤ 64) (ha : ∀ d ∈ l, ∀ e ∈ l, PySem.W.alike d e = true) (ht : ∀ d ∈ l, tup1 d = true) : sortOk l = true := by
  unfold sortOk
  rw [(shp_lst hs).shaped hn, List.all_eq_true.mpr fun d hd => List.all_eq_true.mpr fun e he => ha d hd e he, List.all_eq_true.mpr ht]
  rfl
theorem sortOk_encP (l : List Pk) : sortOk (l.map encP) = true := sortOk_of2 (n := 2) (fun d hd => by
  obtain ⟨p, _, rfl⟩ := List.mem_map.mp hd
  exact shp_encP p) (by decide) (fun d hd e he => by
  obtain ⟨p, _, rfl⟩ := List.mem_map.mp hd
  obtain ⟨q, _, rfl⟩ := List.mem_map.mp he
  exact alike_encP p q) fun d hd => by
  obtain ⟨p, _, rfl⟩ := List.mem_map.mp hd
  rfl
theorem sortOk_encB {l : List Bk} (h : ∀ b ∈ l, b ≠ []) : sortOk (l.map encB) = true := sortOk_of2 (n := 1) (fun d hd => by
  obtain ⟨p, _, rfl⟩ := List.mem_map.mp hd
  exact shp_encB p) (by decide) (fun d hd e he => by
  obtain ⟨p, _, rfl⟩ := List.mem_map.mp hd
  obtain ⟨q, _, rfl⟩ := List.mem_map.mp he
  exact alike_encB p q) fun d hd => by
  obtain ⟨p, hp, rfl⟩ := List.mem_map.mp hd
  have := h p hp
  cases p with
  | nil => exact absurd rfl this
  | cons x p => rfl
@[simp] theorem dSort_encP (l : List Pk) : dSort [.list (l.map encP)] = some (.list ((srt ltP l).map encP)) := by
  show (if _ then _ else _) = _; rw [if_pos (sortOk_encP l), sort_encP]
theorem dSort_encB {l : List Bk} (h : ∀ b ∈ l, b ≠ []) : dSort [.list (l.map encB)] = some (.list ((srt ltB l).map encB)) := by
  show (if _ then _ else _) = _; rw [if_pos (sortOk_encB h), sort_encB]
def nkB (b : Bk) : NestedKey := .tup (b.map .num)
def nkP (p : Pk) : NestedKey := .tup [nkB p.1, .num p.2]
theorem nkL_ints : ∀ b : List Int, nkL (b.map .int) = some (b.map .num)
  | [] => by simp [nkL]
  | x :: b => by simp [nkL, nkD, nkL_ints b]
theorem nkD_encP (p : Pk) : nkD (encP p) = some (nkP p) := by
  unfold encP encB nkP nkB
  simp [nkD, nkL, nkL_ints]
theorem nkL_encP : ∀ l : List Pk, nkL (l.map encP) = some (l.map nkP)
  | [] => by simp [nkL]
  | p :: l => by simp [nkL, nkD_encP, nkL_encP l]
theorem nkP_data (p : Pk) : (nkP p).data = encP p := (nkD_data (encP p) (nkD_encP p)).1
theorem encB_inj {a b : Bk} (h : encB a = encB b) : a = b := by
  have := eqv_encB a b
  rw [h, eqv_encB] at this
  simpa using this
theorem encP_inj {p q : Pk} (h : encP p = encP q) : p = q := by
  have := eqv_encP p q
  rw [h, eqv_encP] at this
  simpa using this
theorem nkP_inj {p q : Pk} (h : nkP p = nkP q) : p = q := encP_inj (by rw [← nkP_data, ← nkP_data, h])
theorem dedup_nkP : ∀ l : List Pk, dedupK (l.map nkP) = (ddp l).map nkP
  | [] => rfl
  | p :: l => by
    rw [List.map_cons]
    unfold dedupK ddp
    by_cases h : p ∈ l
    · rw [if_pos h, if_pos (List.mem_map.mpr ⟨p, h, rfl⟩), dedup_nkP l]
    · rw [if_neg h, if_neg (fun z => by obtain ⟨q, h1, h2⟩ := List.mem_map.mp z; exact h (nkP_inj h2 ▸ h1)), dedup_nkP l]; rfl
theorem tupK8_nkP (p : Pk) : tupK8 (nkP p) = true := by
  have hd : ∀ b : List Int, NestedKey.depthAll (b.map .num) ≤ 1 := fun b => by
    induction b with
    | nil => simp [NestedKey.depthAll]
    | cons x b ih => simp [NestedKey.depthAll, NestedKey.depth]; omega
  unfold tupK8 nkP nkB
  simp [NestedKey.depth, NestedKey.depthAll]
  have := hd p.1
  omega
theorem dSortSet_encPB {l : List Pk} (h : l.length < 300) : dSortSet [.list (l.map encP)] = some (.list ((sset ltP l).map encP)) := by
  show (nkL (l.map encP)).bind _ = _
  rw [nkL_encP, Option.bind_some, if_pos, dedup_nkP, List.map_map]
  · have e : (NestedKey.data ∘ nkP) = encP := funext nkP_data
    rw [e, sort_encP]; rfl
  · simp only [Bool.and_eq_true, decide_eq_true_eq]
    refine ⟨⟨⟨by simpa using h, ?_⟩, sortOk_encP l⟩, ?_⟩
    · rw [List.all_eq_true]
      intro k hk
      obtain ⟨p, _, rfl⟩ := List.mem_map.mp hk
      exact tupK8_nkP p
    · unfold antisK
      rw [List.all_eq_true]
      intro k hk
      obtain ⟨p, _, rfl⟩ := List.mem_map.mp hk
      rw [List.all_eq_true]
      intro j hj
      obtain ⟨q, _, rfl⟩ := List.mem_map.mp hj
      rw [nkP_data, nkP_data, dataLt_encP, dataLt_encP]
      cases e1 : ltP p q with
      | true => simp
      | false =>
        cases e2 : ltP q p with
        | true => simp
        | false => rw [ordP.tot p q e1 e2]; simp
theorem dSortSet_encP {l : List Pk} (h : l.length < 64) : dSortSet [.list (l.map encP)] = some (.list ((sset ltP l).map encP)) := dSortSet_encPB (by omega)
end PD
namespace PD
open PySem L2
/-! ### offers -/
inductive Off where
  | each (w p : Int)
  | pack (w m p : Int)
  | tier (w m p : Int)
  | joined (cs : List Int) (p : Int)
def encO : Off → PyData
  | .each w p => .tuple [.str "each", .int w, .int p]
  | .pack w m p => .tuple [.str "pack", .int w, .int m, .int p]
  | .tier w m p => .tuple [.str "tier", .int w, .int m, .int p]
  | .joined cs p => .tuple [.str "joined", .tuple (cs.map PyData.int), .int p]
def Off.Good (n : Int) : Off → Prop
  | .each w p => 0 ≤ w ∧ w < n ∧ 1 ≤ p ∧ p ≤ 99
  | .pack w m p => 0 ≤ w ∧ w < n ∧ 2 ≤ m ∧ m ≤ 5 ∧ 1 ≤ p ∧ p ≤ 99
  | .tier w m p => 0 ≤ w ∧ w < n ∧ 2 ≤ m ∧ m ≤ 5 ∧ 1 ≤ p ∧ p ≤ 99
  | .joined cs p => (cs.length : Int) = n ∧ (∀ c ∈ cs, 0 ≤ c ∧ c ≤ 5) ∧ (∃ c ∈ cs, 0 < c) ∧ 1 ≤ p ∧ p ≤ 99
/-- a good list of offers -/
structure GoodL (n : Int) (os : List Off) : Prop where
  n1 : 1 ≤ n
  n3 : n ≤ 3
  l6 : os.length ≤ 6
  g : ∀ o ∈ os, o.Good n
def encL (n : Int) (os : List Off) : PyData := .tuple [.int n, .tuple (os.map encO)]
theorem shp_str {x : Str} (h : (PyData.str x).canLay0 = true) : Shp 0 (.str x) := ⟨h, Nat.le_refl _⟩
theorem shp_ints (cs : List Int) : Shp 1 (.tuple (cs.map PyData.int)) := shp_tup fun d hd => by
  obtain ⟨c, _, rfl⟩ := List.mem_map.mp hd
  exact shp_int c
theorem shp_encO (o : Off) : Shp 2 (encO o) := by
  cases o with
  | each w p => exact (shp_tup (n := 0) (by simp [shp_int]; exact shp_str (by decide +kernel))).mono (by decide)
  | pack w m p => exact (shp_tup (n := 0) (by simp [shp_int]; exact shp_str (by decide +kernel))).mono (by decide)
  | tier w m p => exact (shp_tup (n := 0) (by simp [shp_int]; exact shp_str (by decide +kernel))).mono (by decide)
  | joined cs p => exact shp_tup (n := 1) (by simp; exact ⟨(shp_str (by decide +kernel)).mono (by decide), shp_ints cs, (shp_int p).mono (by decide)⟩)
/-! ### a script's numbers -/
def seedZ (s k : Int) : Int := ((s * 1103515245 + 7919 * k + 12345) % 2147483647) ^ 5 % 2147483647
theorem m_seed (s k : Int) : m__law_seed [.int s, .int k] = .ok (.int (seedZ s k)) := by
  have h : ((s * 1103515245 + 7919 * k + 12345) % 2147483647).natAbs < 2 ^ 64 := by omega
  show endD (g__law_seed [.int s, .int k]) = _
  simp [g__law_seed, h, seedZ]
def cellZ (ns : List Int) (k : Int) : Int := if k < ns.length then ns.getD k.toNat 0 else 0
theorem m_cell (ns : List Int) (k : Int) (hk : 0 ≤ k) : m__law_cell [scrD ns, .int k] = .ok (.int (cellZ ns k)) := by
  show endD (g__law_cell [scrD ns, .int k]) = _
  unfold cellZ
  by_cases h : k < ns.length
  · have : atI (ns.map PyData.int) k = some (.int (ns.getD k.toNat 0)) := by
      unfold atI
      rw [ixN_in hk (by simpa using h)]
      have : k.toNat < ns.length := by omega
      simp [this]
    simp [g__law_cell, h, this]
  · simp [g__law_cell, h]
theorem m_pick (s : Int) {n : Int} (h : 0 < n) : m__law_pick [.int s, .int n] = .ok (.int (s / 97 % n)) := by
  show endD (g__law_pick [.int s, .int n]) = _
  simp [g__law_pick, h]
theorem atI_pick3 {a b c i : Int} (h0 : 0 ≤ i) (h3 : i < 3) : atI [PyData.int a, .int b, .int c] i = some (.int (if i = 0 then a else if i = 1 then b else c)) := by
  have : i = 0 ∨ i = 1 ∨ i = 2 := by omega
  rcases this with rfl | rfl | rfl <;> rfl
theorem m_offer (s : Int) {n : Int} (h1 : 1 ≤ n) (h3 : n ≤ 3) : ∃ o : Off, o.Good n ∧ m__law_offer [.int s, .int n] = .ok (encO o) := by
  show ∃ o : Off, o.Good n ∧ endD (g__law_offer [.int s, .int n, .none, .none, .none, .none, .none, .none, .none]) = _
  obtain ⟨w, hw⟩ : ∃ w, w = s / 7 % n := ⟨_, rfl⟩
  obtain ⟨p, hp⟩ : ∃ p, p = 1 + s / 11 % (if s / 13 % 3 = 0 then 99 else if s / 13 % 3 = 1 then 20 else 9) := ⟨_, rfl⟩
  obtain ⟨b, hb⟩ : ∃ b : Int, b = (if s / 19 % 3 = 0 then 6 else if s / 19 % 3 = 1 then 3 else 2) := ⟨_, rfl⟩
  obtain ⟨m, hm⟩ : ∃ m, m = 2 + s / 17 % 4 := ⟨_, rfl⟩
  have w0 : 0 ≤ w := by rw [hw]; exact Int.emod_nonneg _ (by omega)
  have wn : w < n := by rw [hw]; exact Int.emod_lt_of_pos _ (by omega)
  have q1 : (0 : Int) < (if s / 13 % 3 = 0 then 99 else if s / 13 % 3 = 1 then 20 else 9) := by split <;> (try split) <;> omega
  have p1 : 1 ≤ p ∧ p ≤ 99 := by
    have := Int.emod_nonneg (s / 11) (show (if s / 13 % 3 = 0 then 99 else if s / 13 % 3 = 1 then 20 else 9 : Int) ≠ 0 by omega)
    have := Int.emod_lt_of_pos (s / 11) q1
    have : (if s / 13 % 3 = 0 then 99 else if s / 13 % 3 = 1 then 20 else 9 : Int) ≤ 99 := by split <;> (try split) <;> omega
    omega
  have b0 : 0 < b ∧ b ≤ 6 := by rw [hb]; split <;> (try split) <;> omega
  have hm' : 2 ≤ m ∧ m ≤ 5 := by omega
  have e1 : atI [PyData.int 99, .int 20, .int 9] (s / 13 % 3) = some (.int (if s / 13 % 3 = 0 then 99 else if s / 13 % 3 = 1 then 20 else 9)) := atI_pick3 (by omega) (by omega)
  have e2 : atI [PyData.int 6, .int 3, .int 2] (s / 19 % 3) = some (.int b) := by rw [hb]; exact atI_pick3 (by omega) (by omega)
  obtain ⟨cs0, hcs⟩ : ∃ cs : List Int, cs = (List.range n.toNat).map fun (i : Nat) => seedZ s i / 7 % b := ⟨_, rfl⟩
  have l0 : cs0.length = n.toNat := by rw [hcs]; simp
  have c0 : ∀ c ∈ cs0, 0 ≤ c ∧ c ≤ 5 := by
    intro c hc
    rw [hcs] at hc
    obtain ⟨i, _, rfl⟩ := List.mem_map.mp hc
    have h1 := Int.emod_nonneg (seedZ s i / 7) (show b ≠ 0 by omega)
    have h2 := Int.emod_lt_of_pos (seedZ s i / 7) b0.1
    omega
  have hwn : w.toNat < cs0.length := by omega
  have ix : ixN cs0.length w = some w.toNat := ixN_in w0 (by omega)
  have ea : atI (cs0.map PyData.int) w = some (.int cs0[w.toNat]) := by
    unfold atI
    rw [List.length_map, ix]
    simp [hwn]
  obtain ⟨cs, hcs2⟩ : ∃ cs : List Int, cs = cs0.set w.toNat (if cs0[w.toNat] > 1 then cs0[w.toNat] else 1) := ⟨_, rfl⟩
  have hj : (cs.length : Int) = n ∧ (∀ c ∈ cs, 0 ≤ c ∧ c ≤ 5) ∧ ∃ c ∈ cs, 0 < c := by
    have hq : 0 < (if cs0[w.toNat] > 1 then cs0[w.toNat] else 1) ∧ (if cs0[w.toNat] > 1 then cs0[w.toNat] else 1) ≤ 5 := by
      have := c0 _ (List.getElem_mem hwn)
      split <;> omega
    refine ⟨by rw [hcs2, List.length_set]; omega, fun c hc => ?_, ⟨_, ?_, hq.1⟩⟩
    · rw [hcs2] at hc
      rcases List.mem_or_eq_of_mem_set hc with h | h
      · exact c0 c h
      · rw [h]; omega
    · rw [hcs2]; exact List.mem_set hwn _
  have lc : ∀ r : Rw, r.length = 9 → look r 0 = .int s → compD (eltD (tName 8) gYes g__law_offer_e1 r) (rangeD 0 n.toNat) = some (cs0.map PyData.int) := by
    intro r hr h0
    rw [compD_map (h := fun d => match d with | .int i => .int (seedZ s i / 7 % b) | d => d)]
    · rw [hcs]; unfold rangeD; simp
    · intro d hd
      obtain ⟨i, hi, rfl⟩ := mem_rangeD hd
      refine ev_elt1 ?_
      have k0 : look (r.set 8 (.int (0 + (i : Int)))) 0 = .int s := by
        rw [← h0]; unfold look; rw [List.getD_eq_getElem?_getD, List.getElem?_set_ne (by decide), List.getD_eq_getElem?_getD]
      have k8 : look (r.set 8 (.int (0 + (i : Int)))) 8 = .int i := by
        unfold look; rw [List.getD_eq_getElem?_getD, List.getElem?_set_self (by omega)]; simp
      simp only [g__law_offer_e1, ev_gB, ev_gF, ev_gCons, ev_gNil, ev_gV, ev_gC, ev_gL, k0, k8, ev_bind, m_seed, ev_fdiv (show (0 : Int) < 7 ∧ (7 : Int) < 1073741824 by decide), ev_lift]
      simp [ev_lstD, e2, b0.1]
  refine ⟨?o, ?g, ?e⟩
  case o => exact if s / 97 % 7 < 3 then .joined cs p else if s / 97 % 7 = 3 ∨ s / 97 % 7 = 4 then .each w p else if s / 97 % 7 = 5 then .pack w m p else .tier w m p
  case g =>
    split
    · exact ⟨hj.1, hj.2.1, hj.2.2, p1.1, p1.2⟩
    · split
      · exact ⟨w0, wn, p1.1, p1.2⟩
      · split <;> exact ⟨w0, wn, hm'.1, hm'.2, p1.1, p1.2⟩
  unfold g__law_offer
  rw [ev_seq (r' := [.int s, .int n, .int w, .none, .none, .none, .none, .none, .none]) (by simp [show (0 : Int) < n by omega, hw])]
  rw [ev_seq (r' := [.int s, .int n, .int w, .int p, .none, .none, .none, .none, .none]) (by simp [ev_lstD, e1, hp, q1])]
  rw [ev_seq (r' := [.int s, .int n, .int w, .int p, .int m, .none, .none, .none, .none]) (by simp [hm])]
  rw [ev_seq (r' := [.int s, .int n, .int w, .int p, .int m, .list (cs0.map PyData.int), .none, .none, .none]) (by
    rw [ev_gSet, ev_gLc]
    simp only [ev_gIt, ev_gV, ev_bind, ev_look0, ev_lookS, ev_rng1 (show 0 ≤ n ∧ n ≤ 1000 by omega), ev_lift]
    rw [lc _ rfl rfl]; rfl)]
  rw [ev_seq (r' := [.int s, .int n, .int w, .int p, .int m, .list (cs.map PyData.int), .none, .none, .none]) (by
    unfold gPutL
    simp [ea, dMax2, ix, hcs2, List.map_set])]
  rw [ev_seq (r' := [.int s, .int n, .int w, .int p, .int m, .list (cs.map PyData.int), .int (s / 97 % 7), .none, .none]) (by simp [m_pick])]
  by_cases h : s / 97 % 7 < 3
  · simp [h, ev_tupD, dTuple, encO]
  · have h7 : s / 97 % 7 = 3 ∨ s / 97 % 7 = 4 ∨ s / 97 % 7 = 5 ∨ s / 97 % 7 = 6 := by omega
    rcases h7 with h | h | h | h <;> simp [h, ev_tupD, ev_lstD, encO] <;> rfl
theorem m_list (ns : List Int) {k : Int} (hk : 0 ≤ k) : ∃ (n : Int) (os : List Off), GoodL n os ∧ m__law_list [scrD ns, .int k] = .ok (encL n os) := by
  show ∃ (n : Int) (os : List Off), GoodL n os ∧ endD (g__law_list [scrD ns, .int k, .none, .none, .none, .none]) = _
  obtain ⟨f, hf⟩ : ∃ f, f = seedZ (cellZ ns k) 0 := ⟨_, rfl⟩
  obtain ⟨n, hn⟩ : ∃ n, n = 1 + f / 5 % 3 := ⟨_, rfl⟩
  obtain ⟨t, ht⟩ : ∃ t, t = (if f / 11 % 3 = 0 then 6 else if f / 11 % 3 = 1 then f / 7 % 7 else 2 + f / 7 % 3) := ⟨_, rfl⟩
  have n1 : 1 ≤ n := by omega
  have n3 : n ≤ 3 := by omega
  have t0 : 0 ≤ t ∧ t ≤ 6 := by rw [ht]; split <;> (try split) <;> omega
  have e1 : atI [PyData.int 6, .int (f / 7 % 7), .int (2 + f / 7 % 3)] (f / 11 % 3) = some (.int t) := by rw [ht]; exact atI_pick3 (by omega) (by omega)
  unfold g__law_list
  rw [ev_seq (r' := [scrD ns, .int k, .int f, .none, .none, .none]) (by simp [m_cell ns k hk, m_seed, hf])]
  rw [ev_seq (r' := [scrD ns, .int k, .int f, .int n, .none, .none]) (by simp [hn])]
  rw [ev_seq (r' := [scrD ns, .int k, .int f, .int n, .list [], .none]) (by simp [ev_lstD])]
  rw [ev_gSeq, ev_gFor]
  simp only [ev_gIt, ev_gB, ev_gL, ev_gCons, ev_gC, ev_gV, ev_gNil, ev_bind, ev_look0, ev_lookS, ev_fdiv (show (0 : Int) < 7 ∧ (7 : Int) < 1073741824 by decide), ev_fdiv (show (0 : Int) < 11 ∧ (11 : Int) < 1073741824 by decide), ev_mod (show (0 : Int) < 7 by decide), ev_mod (show (0 : Int) < 3 by decide), ev_lift, ev_addI, ev_lstD (show [PyData.int 6, .int (f / 7 % 7), .int (2 + f / 7 % 3)].length ≤ 1000 by simp), ev_ixL, e1, ev_rng1 (show 0 ≤ t ∧ t ≤ 1000 by omega), ev_thenS]
  obtain ⟨r, er, os, rfl, hl, hg⟩ := forD_inv (ph := [.im, .im, .dead, .im, .ow, .dead]) (step := turnD (tName 5) g__law_list_b1)
    (all := rangeD 0 t.toNat) (rho := mask [.im, .im, .dead, .im, .ow, .dead] [scrD ns, .int k, .int f, .int n, .list [], .none]) (fun done rho => ∃ os : List Off, rho = [scrD ns, .int k, .none, .int n, .list (os.map encO), .none] ∧ os.length = done.length ∧ ∀ o ∈ os, o.Good n)
    ⟨[], rfl, rfl, by simp⟩ (by
      rintro done d rest rho e ⟨os, rfl, hl, hg⟩
      have hd : d ∈ rangeD 0 t.toNat := by rw [e]; simp
      obtain ⟨i, hi, rfl⟩ := mem_rangeD hd
      have hlen : done.length + 1 ≤ t.toNat := by
        have := congrArg List.length e
        simp at this; omega
      obtain ⟨o, og, eo⟩ := m_offer (seedZ (cellZ ns (k + 1 + i % 3) + 41 * i) i) n1 n3
      have hm : (-(2 ^ 64) < (41 : Int) ∧ (41 : Int) < 2 ^ 64) ∨ (-(2 ^ 64) < (i : Int) ∧ (i : Int) < 2 ^ 64) := .inl (by decide)
      refine ⟨[scrD ns, .int k, .none, .int n, .list ((os ++ [o]).map encO), .int (0 + (i : Int))], ?_, os ++ [o], rfl, by simp [hl], fun x hx => ?_⟩
      · rw [ev_turn1]
        unfold g__law_list_b1 gApp
        simp only [List.set, ev_look0, ev_lookS, ev_gF, ev_gCons, ev_gB, ev_gV, ev_gC, ev_gNil, ev_bind, ev_lift, ev_addI, ev_mod (show (0 : Int) < 3 by decide), ev_mulI hm, Int.zero_add, m_cell ns (k + 1 + i % 3) (by omega), m_seed, eo, ev_thenS]
        rw [if_pos (sl_lt (by simp; omega))]
        simp
      · rcases List.mem_append.mp hx with h | h
        · exact hg x h
        · rw [List.mem_singleton.mp h]; exact og)
  rw [er]
  refine ⟨n, os, ⟨n1, n3, by simp at hl; omega, hg⟩, ?_⟩
  simp [dTuple, ev_tupD, encL]
/-! ### what is looked at -/
def withB (d : PyData) (lo hi : Int) : Bool := match d with
  | .int i => decide (lo ≤ i) && decide (i ≤ hi)
  | _ => false
theorem m_within {d : PyData} {lo hi : Int} (h : notDict d = true) : m_is_within [d, .int lo, .int hi] = .ok (.bool (withB d lo hi)) := by
  show endD (g_is_within [d, .int lo, .int hi]) = _
  cases d <;> (try cases h) <;> simp [g_is_within, withB]
  rename_i i
  by_cases c : lo ≤ i <;> simp [c]
theorem m_lawin {d : PyData} {lo hi : Int} (h : notDict d = true) : m__law_in [d, .int lo, .int hi] = .ok (.bool (withB d lo hi)) := by
  show endD (g__law_in [d, .int lo, .int hi]) = _
  cases d <;> (try cases h) <;> simp [g__law_in, withB]
  rename_i i
  by_cases c : lo ≤ i <;> simp [c]
@[simp] theorem m_withinI (i lo hi : Int) : m_is_within [.int i, .int lo, .int hi] = .ok (.bool (decide (lo ≤ i) && decide (i ≤ hi))) := m_within rfl
@[simp] theorem m_lawinI (i lo hi : Int) : m__law_in [.int i, .int lo, .int hi] = .ok (.bool (decide (lo ≤ i) && decide (i ≤ hi))) := m_lawin rfl
theorem dEq_str {x y : Str} (hx : (PyData.str x).canLay0 = true) (hy : (PyData.str y).canLay0 = true) : dEq (.str x) (.str y) = some (.bool (x == y)) := by
  unfold dEq
  rw [(shp_str hx).shaped (by decide), (shp_str hy).shaped (by decide)]; rfl
theorem dNe_str {x y : Str} (hx : (PyData.str x).canLay0 = true) (hy : (PyData.str y).canLay0 = true) : dNe (.str x) (.str y) = some (.bool (!(x == y))) := by
  unfold dNe
  rw [(shp_str hx).shaped (by decide), (shp_str hy).shaped (by decide)]; rfl
theorem atI_ofNat {α : Type} {xs : List α} {x : α} (i : Nat) (h : xs[i]? = some x) : atI xs (no_index (OfNat.ofNat i)) = some x := atI_nat (i := i) h
theorem sum_pos {cs : List Int} (h0 : ∀ c ∈ cs, 0 ≤ c) (h : ∃ c ∈ cs, 0 < c) : 0 < cs.sum := by
  have nn : ∀ ds : List Int, (∀ c ∈ ds, 0 ≤ c) → 0 ≤ ds.sum := by
    intro ds
    induction ds with
    | nil => intro _; simp
    | cons d ds ih => intro H; have h1 := H d List.mem_cons_self; have h2 := ih fun x hx => H x (List.mem_cons_of_mem _ hx); rw [List.sum_cons]; omega
  induction cs with
  | nil => obtain ⟨c, hc, _⟩ := h; simp at hc
  | cons d ds ih =>
    obtain ⟨c, hc, h⟩ := h
    have h1 := h0 d List.mem_cons_self
    have h2 := nn ds fun x hx => h0 x (List.mem_cons_of_mem _ hx)
    rw [List.sum_cons]
    rcases List.mem_cons.mp hc with e | e
    · omega
    · have := ih (fun x hx => h0 x (List.mem_cons_of_mem _ hx)) ⟨c, e, h⟩; omega
theorem good_none {cs : List Int} {r : Rw} (hr : 2 < r.length) (h : ∀ c ∈ cs, 0 ≤ c ∧ c ≤ 5) : compD (eltD (tName 2) g_is_offer_c1 g_is_offer_e1 r) (cs.map PyData.int) = some [] := by
  rw [comp_enc PyData.int (fun _ => false) PyData.int]
  · simp
  · intro c hc
    have hh := h c hc
    have k : look (r.set 2 (.int c)) 2 = .int c := by unfold look; rw [List.getD_eq_getElem?_getD, List.getElem?_set_self hr]; rfl
    exact elt_of (b := false) (r' := r.set 2 (.int c)) rfl (by simp [g_is_offer_c1, k, hh.1, hh.2]) (fun z => by cases z)
theorem lay_joined : (PyData.str "joined").canLay0 = true := by decide +kernel
theorem lay_each : (PyData.str "each").canLay0 = true := by decide +kernel
theorem lay_pack : (PyData.str "pack").canLay0 = true := by decide +kernel
theorem lay_tier : (PyData.str "tier").canLay0 = true := by decide +kernel
@[simp] theorem eq_joined_joined : dEq (.str "joined") (.str "joined") = some (.bool true) := (dEq_str lay_joined lay_joined).trans (by rw [show (("joined" : Str) == "joined") = true by decide +kernel])
@[simp] theorem ne_joined_joined : dNe (.str "joined") (.str "joined") = some (.bool false) := (dNe_str lay_joined lay_joined).trans (by rw [show (("joined" : Str) == "joined") = true by decide +kernel]; rfl)
@[simp] theorem eq_joined_each : dEq (.str "joined") (.str "each") = some (.bool false) := (dEq_str lay_joined lay_each).trans (by rw [show (("joined" : Str) == "each") = false by decide +kernel])
@[simp] theorem ne_joined_each : dNe (.str "joined") (.str "each") = some (.bool true) := (dNe_str lay_joined lay_each).trans (by rw [show (("joined" : Str) == "each") = false by decide +kernel]; rfl)
@[simp] theorem eq_each_joined : dEq (.str "each") (.str "joined") = some (.bool false) := (dEq_str lay_each lay_joined).trans (by rw [show (("each" : Str) == "joined") = false by decide +kernel])
@[simp] theorem ne_each_joined : dNe (.str "each") (.str "joined") = some (.bool true) := (dNe_str lay_each lay_joined).trans (by rw [show (("each" : Str) == "joined") = false by decide +kernel]; rfl)
@[simp] theorem eq_each_each : dEq (.str "each") (.str "each") = some (.bool true) := (dEq_str lay_each lay_each).trans (by rw [show (("each" : Str) == "each") = true by decide +kernel])
@[simp] theorem ne_each_each : dNe (.str "each") (.str "each") = some (.bool false) := (dNe_str lay_each lay_each).trans (by rw [show (("each" : Str) == "each") = true by decide +kernel]; rfl)
@[simp] theorem eq_pack_joined : dEq (.str "pack") (.str "joined") = some (.bool false) := (dEq_str lay_pack lay_joined).trans (by rw [show (("pack" : Str) == "joined") = false by decide +kernel])
@[simp] theorem ne_pack_joined : dNe (.str "pack") (.str "joined") = some (.bool true) := (dNe_str lay_pack lay_joined).trans (by rw [show (("pack" : Str) == "joined") = false by decide +kernel]; rfl)
@[simp] theorem eq_pack_each : dEq (.str "pack") (.str "each") = some (.bool false) := (dEq_str lay_pack lay_each).trans (by rw [show (("pack" : Str) == "each") = false by decide +kernel])
@[simp] theorem ne_pack_each : dNe (.str "pack") (.str "each") = some (.bool true) := (dNe_str lay_pack lay_each).trans (by rw [show (("pack" : Str) == "each") = false by decide +kernel]; rfl)
@[simp] theorem eq_tier_joined : dEq (.str "tier") (.str "joined") = some (.bool false) := (dEq_str lay_tier lay_joined).trans (by rw [show (("tier" : Str) == "joined") = false by decide +kernel])
@[simp] theorem ne_tier_joined : dNe (.str "tier") (.str "joined") = some (.bool true) := (dNe_str lay_tier lay_joined).trans (by rw [show (("tier" : Str) == "joined") = false by decide +kernel]; rfl)
@[simp] theorem eq_tier_each : dEq (.str "tier") (.str "each") = some (.bool false) := (dEq_str lay_tier lay_each).trans (by rw [show (("tier" : Str) == "each") = false by decide +kernel])
@[simp] theorem ne_tier_each : dNe (.str "tier") (.str "each") = some (.bool true) := (dNe_str lay_tier lay_each).trans (by rw [show (("tier" : Str) == "each") = false by decide +kernel]; rfl)
@[simp] theorem disp_each (z : PyData) : disp3 "each" 3 "pack" 4 "tier" 4 (.str "each") z = some (.int 3) := by unfold disp3; simp [show ¬ (("each" : Str) = "tier") by decide +kernel, show ¬ (("each" : Str) = "pack") by decide +kernel, show ¬ (("pack" : Str) = "tier") by decide +kernel]
@[simp] theorem disp_pack (z : PyData) : disp3 "each" 3 "pack" 4 "tier" 4 (.str "pack") z = some (.int 4) := by unfold disp3; simp [show ¬ (("each" : Str) = "tier") by decide +kernel, show ¬ (("each" : Str) = "pack") by decide +kernel, show ¬ (("pack" : Str) = "tier") by decide +kernel]
@[simp] theorem disp_tier (z : PyData) : disp3 "each" 3 "pack" 4 "tier" 4 (.str "tier") z = some (.int 4) := by unfold disp3; simp [show ¬ (("each" : Str) = "tier") by decide +kernel, show ¬ (("each" : Str) = "pack") by decide +kernel, show ¬ (("pack" : Str) = "tier") by decide +kernel]
@[simp] theorem at_0 (a : PyData) (l : List PyData) : atI (a :: l) 0 = some a := atI_nat (i := 0) rfl
@[simp] theorem at_1 (a b : PyData) (l : List PyData) : atI (a :: b :: l) 1 = some b := atI_nat (i := 1) rfl
@[simp] theorem at_2 (a b c : PyData) (l : List PyData) : atI (a :: b :: c :: l) 2 = some c := atI_nat (i := 2) rfl
@[simp] theorem at_3 (a b c d : PyData) (l : List PyData) : atI (a :: b :: c :: d :: l) 3 = some d := atI_nat (i := 3) rfl
@[simp] theorem at_m3 (a b c : PyData) : atI [a, b, c] (-1) = some c := rfl
@[simp] theorem at_m4 (a b c d : PyData) : atI [a, b, c, d] (-1) = some d := rfl
@[simp] theorem ev_neg (i : Int) : dNeg (.int i) = some (.int (-i)) := rfl
@[simp] theorem ev_truT (xs : List PyData) : truD (.tuple xs) = some (!xs.isEmpty) := rfl
@[simp] theorem ev_truL (xs : List PyData) : truD (.list xs) = some (!xs.isEmpty) := rfl
@[simp] theorem ev_truN : truD .none = some false := rfl
@[simp] theorem ev_sumT (cs : List Int) : dSum [.tuple (cs.map PyData.int)] = some (.int cs.sum) := by unfold dSum; simp [intsD_map]
@[simp] theorem ev_sumL (cs : List Int) : dSum [.list (cs.map PyData.int)] = some (.int cs.sum) := by unfold dSum; simp [intsD_map]
theorem m_isoffer {n : Int} {o : Off} (h : o.Good n) : m_is_offer [.int n, encO o] = .ok (.bool true) := by
  show endD (g_is_offer [.int n, encO o, .none]) = _
  cases o with
  | each w p =>
    obtain ⟨h1, h2, h3, h4⟩ := h
    have h2' : w ≤ n - 1 := by omega
    simp [g_is_offer, encO, h1, h2', h3, h4]
  | pack w m p =>
    obtain ⟨h1, h2, h3, h4, h5, h6⟩ := h
    have h2' : w ≤ n - 1 := by omega
    simp [g_is_offer, encO, h1, h2', h3, h4, h5, h6]
  | tier w m p =>
    obtain ⟨h1, h2, h3, h4, h5, h6⟩ := h
    have h2' : w ≤ n - 1 := by omega
    simp [g_is_offer, encO, h1, h2', h3, h4, h5, h6]
  | joined cs p =>
    obtain ⟨h1, h2, h3, h4, h5⟩ := h
    have h6 := sum_pos (fun c hc => (h2 c hc).1) h3
    have h7 : cs.sum ≠ 0 := by omega
    have h8 := good_none (r := [.int n, .tuple [.str "joined", .tuple (cs.map PyData.int), .int p], .none]) (by simp) h2
    simp [g_is_offer, encO, h1, h7, h4, h5, h8]
theorem m_islist {n : Int} {os : List Off} (h : GoodL n os) : m_is_list [encL n os] = .ok (.bool true) := by
  show endD (g_is_list [encL n os, .none]) = _
  have h1 := h.n1
  have h3 := h.n3
  have h6 : ¬ (6 < (os.length : Int)) := by have := h.l6; omega
  have hc : compD (eltD (tName 1) g_is_list_c1 g_is_list_e1 [encL n os, .none]) (os.map encO) = some [] := by
    rw [comp_enc encO (fun _ => false) encO]
    · simp
    · intro o ho
      exact elt_of (b := false) (r' := [encL n os, encO o]) rfl (by simp [g_is_list_c1, encL, m_isoffer (h.g o ho)]) (fun z => by cases z)
  unfold encL at hc
  simp [g_is_list, encL, h1, h3, h6, hc]
theorem m_looks {n : Int} {os : List Off} (h : GoodL n os) : m_look [encL n os] = .ok .none := by
  show endD (g_look [encL n os]) = _
  simp [g_look, m_islist h]
end PD
/-! PT: packs and what baskets cost, as the program reckons them. -/
namespace PD
open PySem L2
theorem sl_le {n : Nat} (h : n ≤ 16000000) : n ≤ sizeLine := by rw [sizeLine_eq]; omega
theorem sl_ltB {n : Nat} (h : n ≤ 16000000) : n < sizeLine := by rw [sizeLine_eq]; omega
theorem ev_tupB {ds : List PyData} (h : ds.length ≤ 16000000) : tupD ds = some (.tuple ds) := if_pos (sl_le h)
theorem ev_lstB {ds : List PyData} (h : ds.length ≤ 16000000) : lstD ds = some (.list ds) := if_pos (sl_le h)
theorem rangeD_eq (lo : Int) (k : Nat) : rangeD lo k = ((List.range k).map fun (i : Nat) => lo + (i : Int)).map PyData.int := by unfold rangeD; rw [List.map_map]; rfl
theorem ev_rngB {n : Int} (h0 : 0 ≤ n) (h : n ≤ 16000000) : rng1 (.int n) = some (((List.range n.toNat).map fun (i : Nat) => (i : Int)).map PyData.int) := by
  show (if _ then _ else _) = _
  rw [if_pos ⟨by omega, by omega, sl_le (by omega)⟩, rangeD_eq]
  simp
theorem ev_rng2B {m n : Int} (h0 : -1000 ≤ m) (h1 : m ≤ 1000) (h2 : -1000 ≤ n) (h3 : n ≤ 1000) : rng2 (.int m) (.int n) = some (((List.range (n - m).toNat).map fun (i : Nat) => m + (i : Int)).map PyData.int) := by
  show (if _ then _ else _) = _
  rw [if_pos ⟨⟨by omega, by omega, by omega, by omega⟩, sl_le (by omega)⟩, rangeD_eq]
@[simp] theorem ev_gIs (neg : Bool) (d : PyData) : dIs neg d .none = some (.bool (isNoD d != neg)) := by cases d <;> rfl
/-! ### left -/
theorem m_left_ (b p : Bk) : m_left [encB b, encB p] = .ok (encB (leftZ b p)) := by
  show endD (g_left [encB b, encB p, .none, .none]) = _
  have hz : zip2 (encB b) (encB p) = some ((b.zip p).map fun q => PyData.tuple [.int q.1, .int q.2]) := by
    show some (pairsD _ _) = _
    unfold pairsD
    rw [List.zip, List.map_zipWith, List.zipWith_map]
  have hc : compD (eltD (tTup 2 (tCons (tName 2) (tCons (tName 3) tNil))) gYes g_left_e1 [encB b, encB p, .none, .none]) ((b.zip p).map fun q => PyData.tuple [.int q.1, .int q.2]) = some ((b.zip p).map fun q => PyData.int (if q.1 - q.2 > 0 then q.1 - q.2 else 0)) := by
    refine comp_all _ _ _ fun q _ => ?_
    exact elt_of (b := true) (r' := [encB b, encB p, .int q.1, .int q.2]) (by simp) rfl (fun _ => by simp [g_left_e1, dMax2])
  simp only [g_left, ev_gRet, ev_gL, ev_gCons, ev_gNil, ev_gLc, ev_gIt2, ev_gV, ev_bind, ev_look0, ev_lookS, hz, ev_lift, hc, Option.map_some, ev_thenS, ev_endR, dTuple]
  unfold encB leftZ
  rw [List.map_zipWith, List.zip, List.map_zipWith]
/-! ### alone, packs -/
def aloneZ (n w k : Int) : Bk := (List.range n.toNat).map fun (i : Nat) => if (i : Int) = w then k else 0
theorem m_alone_ {n : Int} (w k : Int) (h0 : 0 ≤ n) (h : n ≤ 1000) : m_alone [.int n, .int w, .int k] = .ok (encB (aloneZ n w k)) := by
  show endD (g_alone [.int n, .int w, .int k, .none]) = _
  have hc : compD (eltD (tName 3) gYes g_alone_e1 [.int n, .int w, .int k, .none]) (((List.range n.toNat).map fun (i : Nat) => (i : Int)).map PyData.int) = some (((List.range n.toNat).map fun (i : Nat) => (i : Int)).map fun i => PyData.int (if i = w then k else 0)) := by
    refine comp_all _ _ _ fun q _ => ?_
    refine elt_of (b := true) (r' := [.int n, .int w, .int k, .int q]) (by simp) rfl (fun _ => ?_)
    by_cases e : q = w <;> simp [g_alone_e1, e]
  simp only [g_alone, ev_gRet, ev_gL, ev_gCons, ev_gNil, ev_gLc, ev_gIt, ev_gV, ev_bind, ev_look0, ev_lookS, ev_rngB h0 (show n ≤ 16000000 by omega), ev_lift, hc, Option.map_some, ev_thenS, ev_endR, dTuple]
  unfold encB aloneZ
  rw [List.map_map, List.map_map]; rfl
def offPk (n : Int) : Off → List Pk
  | .each w p => [(aloneZ n w 1, p)]
  | .pack w m p => [(aloneZ n w m, p)]
  | .tier w m p => ((List.range m.toNat).map fun (i : Nat) => m + (i : Int)).map fun k => (aloneZ n w k, k * p)
  | .joined cs p => [(cs, p)]
theorem m_packs_of_ {n : Int} {o : Off} (n1 : 1 ≤ n) (n3 : n ≤ 3) (h : o.Good n) : m_packs_of [.int n, encO o] = .ok (.list ((offPk n o).map encP)) := by
  show endD (g_packs_of [.int n, encO o, .none]) = _
  cases o with
  | each w p => simp [g_packs_of, encO, ev_lstB, ev_tupB, m_alone_ w 1 (show 0 ≤ n by omega) (show n ≤ 1000 by omega), offPk, encP]
  | pack w m p =>
    have e1 : dEq (.str "pack") (.str "pack") = some (.bool true) := (dEq_str lay_pack lay_pack).trans (by rw [show (("pack" : Str) == "pack") = true by decide +kernel])
    simp [g_packs_of, encO, ev_lstB, ev_tupB, m_alone_ w m (show 0 ≤ n by omega) (show n ≤ 1000 by omega), offPk, encP, e1]
  | tier w m p =>
    obtain ⟨h1, h2, h3, h4, h5, h6⟩ := h
    have e1 : dEq (.str "tier") (.str "pack") = some (.bool false) := (dEq_str lay_tier lay_pack).trans (by rw [show (("tier" : Str) == "pack") = false by decide +kernel])
    have hm : dMul (.int 2) (.int m) = some (.int (2 * m)) := ev_mulI (.inl (by decide))
    have hr : rng2 (.int m) (.int (2 * m)) = some (((List.range m.toNat).map fun (i : Nat) => m + (i : Int)).map PyData.int) := by
      rw [ev_rng2B (by omega) (by omega) (by omega) (by omega), show (2 * m - m).toNat = m.toNat by omega]
    have hc : compD (eltD (tName 2) gYes g_packs_of_e1 [.int n, encO (.tier w m p), .none]) (((List.range m.toNat).map fun (i : Nat) => m + (i : Int)).map PyData.int) = some (((List.range m.toNat).map fun (i : Nat) => m + (i : Int)).map fun k => encP (aloneZ n w k, k * p)) := by
      refine comp_all _ _ _ fun k _ => ?_
      refine elt_of (b := true) (r' := [.int n, encO (.tier w m p), .int k]) (by simp) rfl (fun _ => ?_)
      have hk : dMul (.int k) (.int p) = some (.int (k * p)) := ev_mulI (.inr (by omega))
      simp [g_packs_of_e1, encO, m_alone_ w k (show 0 ≤ n by omega) (show n ≤ 1000 by omega), hk, ev_tupB, encP]
    unfold encO at hc
    simp only [g_packs_of, encO, ev_gSeq, ev_gIfS, ev_gTb, ev_gB, ev_gV, ev_gC, ev_bind, ev_look0, ev_lookS, ev_ixT, at_0, at_2, ev_lift, eq_tier_joined, eq_tier_each, e1, ev_boolD, ev_thenS, Bool.false_eq_true, if_false, ev_gRet, ev_gLc, ev_gIt2, hm, hr, hc, Option.map_some, ev_endR]
    simp [offPk]
  | joined cs p => simp [g_packs_of, encO, ev_lstB, ev_tupB, offPk, encP, encB]
theorem offPk_len {n : Int} {o : Off} (h : o.Good n) : (offPk n o).length ≤ 5 := by
  cases o with
  | tier w m p => obtain ⟨_, _, _, h4, _, _⟩ := h; simp [offPk]; omega
  | _ => simp [offPk]
def foundZ (n : Int) (os : List Off) : List Pk := os.flatMap (offPk n)
def packsZ (n : Int) (os : List Off) : List Pk := sset ltP (foundZ n os)
theorem foundZ_len {n : Int} : ∀ {os : List Off}, (∀ o ∈ os, o.Good n) → (foundZ n os).length ≤ 5 * os.length
  | [], _ => by simp [foundZ]
  | o :: os, h => by
    have h1 := offPk_len (h o List.mem_cons_self)
    have h2 := foundZ_len fun x hx => h x (List.mem_cons_of_mem _ hx)
    unfold foundZ at h2 ⊢
    rw [List.flatMap_cons, List.length_append, List.length_cons]
    omega
theorem m_all_packs_ {n : Int} {os : List Off} (h : GoodL n os) : m_all_packs [encL n os] = .ok (.list ((packsZ n os).map encP)) := by
  show endD (g_all_packs [encL n os, .none, .none, .none, .none]) = _
  have h5 := foundZ_len h.g
  have h6 := h.l6
  have hf : forD [.dead, .im, .dead, .ow, .dead] (turnD (tName 4) g_all_packs_b1) (os.map encO) [.none, .int n, .none, .list [], .none] = .nx [.none, .int n, .none, .list ((foundZ n os).map encP), .none] := by
    refine forD_pre (ph := [.dead, .im, .dead, .ow, .dead]) encO (fun done => [.none, .int n, .none, .list ((foundZ n done).map encP), .none]) os fun done o rest e => ?_
    have ho : o ∈ os := by rw [e]; simp
    have hl : (foundZ n done).length + (offPk n o).length ≤ 100 := by
      have a1 := foundZ_len (n := n) (os := done) fun x hx => h.g x (by rw [e]; simp [hx])
      have a2 := offPk_len (h.g o ho)
      have a3 : done.length ≤ os.length := by rw [e]; simp
      omega
    refine ⟨[.none, .int n, .none, .list ((foundZ n (done ++ [o])).map encP), encO o], .inl ?_, rfl⟩
    rw [ev_turn1]
    unfold g_all_packs_b1 gExt
    simp only [List.set, ev_look0, ev_lookS, ev_gF, ev_gCons, ev_gV, ev_gNil, ev_bind, m_packs_of_ h.n1 h.n3 (h.g o ho), ev_thenS]
    rw [if_pos (sl_le (by simp; omega))]
    simp [foundZ]
  simp only [g_all_packs, encL, ev_gSeq, ev_asg (ge := gV 0) (gt := tTup 2 (tCons (tName 1) (tCons (tName 2) tNil))) (r := [.tuple [.int n, .tuple (os.map encO)], .none, .none, .none, .none]) (r' := [.tuple [.int n, .tuple (os.map encO)], .int n, .tuple (os.map encO), .none, .none]) rfl rfl, ev_gSet, ev_gL, ev_gNil, ev_bind, ev_lstB (show ([] : List PyData).length ≤ 16000000 by simp), ev_lift, ev_thenS, List.set, ev_gFor, ev_gIt, ev_gV, ev_look0, ev_lookS, ev_seqT, ev_maskD, ev_maskI, ev_maskO, ev_mask0, hf, ev_gRet, ev_gCons, dSortSet_encP (show (foundZ n os).length < 64 by omega), ev_endR]
  rfl
/-! ### baskets below -/
theorem encB_snoc (r : Bk) (x : Int) : dAdd (encB r) (.tuple [.int x]) = if r.length + 1 ≤ sizeLine then some (encB (r ++ [x])) else none := by
  unfold encB
  show (if _ then _ else _) = _
  simp
theorem dSortK_encB {l : List Bk} (h : l.length ≤ 16000000) : dSortK [.list (l.map encB)] = some (.list ((srt ltK l).map encB)) := by
  have hk : ∀ b : Bk, keyRow (encB b) = .tuple [.int b.sum, encB b] := fun b => by
    unfold keyRow encB
    dsimp only
    rw [intsD_map]; rfl
  have hlt : ∀ a b : Bk, PySem.W.dataLt (keyRow (encB a)) (keyRow (encB b)) = ltK a b := fun a b => by
    rw [hk, hk, PySem.W.dataLt_pair (by simp [PySem.W.alike]) (alike_encB _ _), eqv_encB, dataLt_encB, PySem.W.dataLt_int]
    unfold ltK lt2 ltI
    by_cases e : a.sum = b.sum
    · by_cases e2 : a = b
      · subst e2; simp [PyData.eqv, ordB.irr]
      · simp [e, e2, PyData.eqv]
    · simp [e, PyData.eqv]
  show (if _ then _ else _) = _
  rw [if_pos, sort_enc (lt := ltK) encB (fun a b => !PySem.W.dataLt (keyRow b) (keyRow a)) (fun x y => by rw [hlt])]
  simp only [Bool.and_eq_true, decide_eq_true_eq]
  refine ⟨⟨?_, ?_⟩, by rw [List.length_map]; exact sl_le h⟩
  · rw [List.all_eq_true]
    intro d hd
    obtain ⟨b, _, rfl⟩ := List.mem_map.mp hd
    unfold rowOk encB
    dsimp only
    rw [intsD_map]; rfl
  · refine sortOk_of2 (n := 2) (fun d hd => ?_) (by decide) (fun d hd e he => ?_) (fun d hd => ?_)
    · obtain ⟨d, hd', rfl⟩ := List.mem_map.mp hd
      obtain ⟨b, _, rfl⟩ := List.mem_map.mp hd'
      rw [hk]
      refine shp_tup fun d hd => ?_
      simp only [List.mem_cons, List.not_mem_nil, or_false] at hd
      rcases hd with rfl | rfl
      · exact (shp_int _).mono (by decide)
      · exact shp_encB b
    · obtain ⟨d, hd', rfl⟩ := List.mem_map.mp hd
      obtain ⟨b, _, rfl⟩ := List.mem_map.mp hd'
      obtain ⟨d, he', rfl⟩ := List.mem_map.mp he
      obtain ⟨c, _, rfl⟩ := List.mem_map.mp he'
      rw [hk, hk]
      simp [PySem.W.alike, PySem.W.alikeAll, alike_encB]
    · obtain ⟨d, hd', rfl⟩ := List.mem_map.mp hd
      obtain ⟨b, _, rfl⟩ := List.mem_map.mp hd'
      rw [hk]; rfl
/-- baskets of at most three wares, none beyond 99 -/
structure BkS (b : Bk) : Prop where
  len : b.length ≤ 3
  pos : ∀ x ∈ b, 0 ≤ x
  le : ∀ x ∈ b, x ≤ 99
theorem every_len : ∀ (b : Bk) (rows : List Bk), (∀ x ∈ b, 0 ≤ x ∧ x ≤ 99) → (b.foldl wide rows).length ≤ rows.length * 100 ^ b.length
  | [], rows, _ => by simp
  | x :: b, rows, h => by
    have h1 := every_len b (wide rows x) fun y hy => h y (List.mem_cons_of_mem _ hy)
    rw [wide_len] at h1
    rw [List.foldl_cons]
    refine Nat.le_trans h1 ?_
    have hx := h x List.mem_cons_self
    rw [List.length_cons, Nat.pow_succ, Nat.mul_assoc, Nat.mul_comm (100 ^ b.length) 100]
    exact Nat.mul_le_mul_left _ (Nat.mul_le_mul_right _ (by omega))
theorem every_lenS {b : Bk} (h : BkS b) (done rest : Bk) (e : b = done ++ rest) : (every done).length ≤ 1000000 := by
  have h1 := every_len done [[]] fun x hx => ⟨h.pos x (by rw [e]; simp [hx]), h.le x (by rw [e]; simp [hx])⟩
  have h2 : done.length ≤ 3 := by have := h.len; rw [e] at this; simp at this; omega
  have h3 : 100 ^ done.length ≤ 100 ^ 3 := Nat.pow_le_pow_right (by decide) h2
  unfold every
  simp at h1
  omega
theorem every_rowlen : ∀ (b : Bk) {y : Bk}, y ∈ every b → y.length = b.length := fun b y h => (mem_every.mp h).len
theorem m_baskets_below_ {b : Bk} (h : BkS b) : m_baskets_below [encB b] = .ok (.list ((belowS b).map encB)) := by
  show endD (g_baskets_below [encB b, .none, .none, .none, .none, .none]) = _
  have hf : forD [.dead, .im, .dead, .dead, .dead, .dead] (turnD (tName 2) g_baskets_below_b2) (b.map PyData.int) [.none, .list [encB []], .none, .none, .none, .none] = .nx [.none, .list ((every b).map encB), .none, .none, .none, .none] := by
    refine forD_pre (ph := [.dead, .im, .dead, .dead, .dead, .dead]) PyData.int (fun done => [.none, .list ((every done).map encB), .none, .none, .none, .none]) b fun done x rest e => ?_
    have hx0 := h.pos x (by rw [e]; simp)
    have hx1 := h.le x (by rw [e]; simp)
    have hlen : done.length ≤ 2 := by have := h.len; rw [e] at this; simp at this; omega
    have hw := every_lenS h (done ++ [x]) rest (by rw [e]; simp)
    have ew : every (done ++ [x]) = wide (every done) x := by unfold every; rw [List.foldl_append]; rfl
    rw [ew] at hw
    have hi : forD [.dead, .dead, .im, .ow, .dead, .dead] (turnD (tName 4) g_baskets_below_b1) ((every done).map encB) [.none, .none, .int x, .list [], .none, .none] = .nx [.none, .none, .int x, .list ((wide (every done) x).map encB), .none, .none] := by
      refine forD_pre (ph := [.dead, .dead, .im, .ow, .dead, .dead]) encB (fun rows => [.none, .none, .int x, .list ((wide rows x).map encB), .none, .none]) (every done) fun rows r more e2 => ?_
      have hr : r.length ≤ 2 := by rw [every_rowlen done (show r ∈ every done by rw [e2]; simp)]; exact hlen
      have hl : (wide rows x).length + (upTo0 x).length ≤ 1000000 := by
        have : (wide (every done) x).length = (wide rows x).length + (upTo0 x).length + (wide more x).length := by
          rw [e2]; unfold wide; simp; omega
        omega
      have hc : compD (eltD (tName 5) gYes g_baskets_below_e1 [.none, .none, .int x, .list ((wide rows x).map encB), encB r, .none]) (((List.range (x + 1).toNat).map fun (i : Nat) => (i : Int)).map PyData.int) = some (((List.range (x + 1).toNat).map fun (i : Nat) => (i : Int)).map fun y => encB (r ++ [y])) := by
        refine comp_all _ _ _ fun y _ => ?_
        refine elt_of (b := true) (r' := [.none, .none, .int x, .list ((wide rows x).map encB), encB r, .int y]) (by simp) rfl (fun _ => ?_)
        simp [g_baskets_below_e1, ev_tupB, encB_snoc, sl_le (show r.length + 1 ≤ 16000000 by omega)]
      refine ⟨[.none, .none, .int x, .list ((wide (rows ++ [r]) x).map encB), encB r, .none], .inl ?_, rfl⟩
      rw [ev_turn1]
      unfold g_baskets_below_b1 gExt
      simp only [List.set, ev_look0, ev_lookS, ev_gLc, ev_gIt, ev_gB, ev_gV, ev_gC, ev_bind, ev_addI, ev_lift, ev_rngB (show 0 ≤ x + 1 by omega) (show x + 1 ≤ 16000000 by omega), hc, Option.map_some, ev_thenS]
      rw [if_pos (sl_le (by simp [upTo0] at hl ⊢; omega))]
      simp [wide, upTo0]
    refine ⟨[.none, .list ((every (done ++ [x])).map encB), .int x, .list ((wide (every done) x).map encB), .none, .none], .inl ?_, rfl⟩
    rw [ev_turn1]
    unfold g_baskets_below_b2
    simp only [List.set, ev_gSeq, ev_gSet, ev_gL, ev_gNil, ev_bind, ev_lstB (show ([] : List PyData).length ≤ 16000000 by simp), ev_lift, ev_thenS, ev_gFor, ev_gIt, ev_gV, ev_look0, ev_lookS, ev_seqL, ev_maskD, ev_maskI, ev_maskO, ev_mask0, hi, ew]
  have hn := every_lenS h b [] (by simp)
  simp only [g_baskets_below, ev_gSeq, ev_gSet, ev_gL, ev_gCons, ev_gNil, ev_bind, ev_tupB (show ([] : List PyData).length ≤ 16000000 by simp), ev_lift, ev_lstB (show [encB []].length ≤ 16000000 by simp), ev_thenS, List.set, ev_gFor, ev_gIt, ev_gV, ev_look0, ev_lookS, ev_maskD, ev_maskI, ev_maskO, ev_mask0, show seqD (encB b) = some (b.map PyData.int) from rfl, show [PyData.tuple []] = [encB []] from rfl, hf, ev_gRet, dSortK_encB (show (every b).length ≤ 16000000 by omega), ev_endR]
  rfl
end PD
/-! PU: dicts of baskets; what the baskets below one cost. -/
namespace PD
open PySem L2
def keyB (b : Bk) : List Key := b.map Sum.inl
theorem keyB_inj {a b : Bk} (h : keyB a = keyB b) : a = b := by
  unfold keyB at h
  induction a generalizing b with
  | nil => cases b with
    | nil => rfl
    | cons y b => cases h
  | cons x a ih => cases b with
    | nil => cases h
    | cons y b => simp only [List.map_cons, List.cons.injEq, Sum.inl.injEq] at h; rw [h.1, ih h.2]
theorem keyB_data (b : Bk) : (keyB b).map keyD = b.map PyData.int := by unfold keyB; rw [List.map_map]; rfl
@[simp] theorem keyK_encB (b : Bk) : keyK (encB b) = some (keyB b) := by
  unfold encB
  show keysK _ = _
  rw [← keyB_data, keysK_map]
theorem eqK_encB (a b : Bk) : eqK (keyB a) (encB b) = decide (b = a) := by
  unfold eqK
  rw [keyK_encB]
  by_cases h : b = a
  · simp [h]
  · simp only [h, decide_false]; exact decide_eq_false fun z => h (keyB_inj z)
/-- a dict of baskets -/
def entB (l : List Bk) (v : Bk → PyData) : List (PyData × PyData) := l.map fun h => (encB h, v h)
def encD (l : List Bk) (v : Bk → PyData) : PyData := .dict (entB l v)
@[simp] theorem dictD_encD (l : List Bk) (v : Bk → PyData) : dictD (encD l v) = some (entB l v) := by
  cases l with
  | nil => rfl
  | cons x l => rfl
theorem getK_ent (v : Bk → PyData) (b : Bk) : ∀ l : List Bk, getK (entB l v) (keyB b) = if b ∈ l then some (v b) else none
  | [] => rfl
  | x :: l => by
    unfold getK entB
    rw [List.map_cons]
    by_cases h : x = b
    · subst h
      rw [List.find?_cons_of_pos (by rw [eqK_encB]; simp), if_pos List.mem_cons_self]; rfl
    · rw [List.find?_cons_of_neg (by rw [eqK_encB]; simpa using h)]
      have := getK_ent v b l
      unfold getK entB at this
      rw [this]
      by_cases k : b ∈ l
      · rw [if_pos k, if_pos (List.mem_cons_of_mem _ k)]
      · rw [if_neg k, if_neg (fun z => (List.mem_cons.mp z).elim (fun e => h e.symm) k)]
theorem dget_encD {l : List Bk} {v : Bk → PyData} {b : Bk} (h : b ∈ l) : dDget (encD l v) (encB b) = some (v b) := by
  unfold dDget
  rw [dictD_encD, Option.bind_some, keyK_encB, Option.bind_some, getK_ent, if_pos h]
@[simp] theorem din_encD (l : List Bk) (v : Bk → PyData) (b : Bk) (neg : Bool) : dDin neg (encB b) (encD l v) = some (.bool (decide (b ∈ l) != neg)) := by
  unfold dDin
  rw [dictD_encD, Option.bind_some, keyK_encB, Option.bind_some, getK_ent]
  by_cases h : b ∈ l <;> simp [h]
def updV (v : Bk → PyData) (b : Bk) (d : PyData) : Bk → PyData := fun h => if h = b then d else v h
@[simp] theorem updV_self (v : Bk → PyData) (b : Bk) (d : PyData) : updV v b d b = d := if_pos rfl
theorem updV_ne {v : Bk → PyData} {b c : Bk} {d : PyData} (h : c ≠ b) : updV v b d c = v c := if_neg h
theorem any_ent (v : Bk → PyData) (b : Bk) (l : List Bk) : ((entB l v).any fun kv => eqK (keyB b) kv.1) = decide (b ∈ l) := by
  unfold entB
  induction l with
  | nil => rfl
  | cons x l ih =>
    rw [List.map_cons, List.any_cons, ih, eqK_encB]
    by_cases h : x = b
    · simp [h]
    · simp [h, Ne.symm h]
theorem put_old {l : List Bk} {v : Bk → PyData} {b : Bk} {d : PyData} (h : b ∈ l) : putKD (entB l v) (keyB b) d = entB l (updV v b d) := by
  unfold putKD
  rw [any_ent, if_pos (by simpa using h)]
  unfold entB
  rw [List.map_map]
  refine List.map_congr_left fun x _ => ?_
  show (if eqK (keyB b) (encB x) = true then (encB x, d) else (encB x, v x)) = (encB x, updV v b d x)
  rw [eqK_encB]
  by_cases e : x = b
  · subst e; simp
  · simp [e, updV_ne e]
theorem put_new {l : List Bk} {v : Bk → PyData} {b : Bk} {d : PyData} (h : b ∉ l) : putKD (entB l v) (keyB b) d = entB (l ++ [b]) (updV v b d) := by
  unfold putKD
  rw [any_ent, if_neg (by simpa using h)]
  unfold entB
  rw [List.map_append]
  congr 1
  · refine List.map_congr_left fun x hx => ?_
    rw [updV_ne (fun z => h (by rw [← z]; exact hx))]
  · show [(PyData.tuple ((keyB b).map keyD), d)] = [(encB b, updV v b d b)]
    rw [keyB_data, updV_self]; rfl
theorem putD_old {i : Nat} {gk ge : Rw → Rs PyData} {r : Rw} {l : List Bk} {v : Bk → PyData} {b : Bk} {d : PyData} (he : ge r = .ok d) (hk : gk r = .ok (encB b)) (hi : look r i = encD l v) (hl : l.length ≤ 16000000) (h : b ∈ l) : gPutD i gk ge r = .nx (r.set i (encD l (updV v b d))) := by
  unfold gPutD
  rw [he, ev_thenS, hk, ev_thenS, hi, keyK_encB]
  show (if (entB l v).length < sizeLine then _ else _) = _
  rw [if_pos (sl_ltB (by unfold entB; simpa using hl)), put_old h]; rfl
theorem putD_new {i : Nat} {gk ge : Rw → Rs PyData} {r : Rw} {l : List Bk} {v : Bk → PyData} {b : Bk} {d : PyData} (he : ge r = .ok d) (hk : gk r = .ok (encB b)) (hi : look r i = encD l v) (hl : l.length ≤ 16000000) (h : b ∉ l) : gPutD i gk ge r = .nx (r.set i (encD (l ++ [b]) (updV v b d))) := by
  unfold gPutD
  rw [he, ev_thenS, hk, ev_thenS, hi, keyK_encB]
  show (if (entB l v).length < sizeLine then _ else _) = _
  rw [if_pos (sl_ltB (by unfold entB; simpa using hl)), put_new h]; rfl
theorem encD_congr {l : List Bk} {v w : Bk → PyData} (h : ∀ x ∈ l, v x = w x) : encD l v = encD l w := by
  unfold encD entB
  rw [List.map_congr_left fun x hx => by rw [h x hx]]
/-! ### costs -/
@[simp] theorem isNo_optI (o : Option Int) : isNoD (optI o) = o.isNone := by cases o <;> rfl
noncomputable def costV (ps : List Pk) : Bk → PyData := fun h => optI (costZ ps h)
@[simp] theorem isNo_none : isNoD .none = true := rfl
@[simp] theorem isNo_int (i : Int) : isNoD (.int i) = false := rfl
theorem belowS_split {b : Bk} {done rest : List Bk} {h : Bk} (e : belowS b = done ++ h :: rest) : h ∉ done ∧ ∀ x, Below x b → x.sum < h.sum → x ∈ done := by
  have asc := belowS_asc b
  rw [e, List.pairwise_append] at asc
  obtain ⟨_, a2, a3⟩ := asc
  rw [List.pairwise_cons] at a2
  refine ⟨fun z => ?_, fun x hx hs => ?_⟩
  · have := a3 h z h List.mem_cons_self
    rw [ordK.irr] at this; cases this
  · have hm : x ∈ belowS b := mem_belowS.mpr hx
    rw [e] at hm
    rcases List.mem_append.mp hm with hm | hm
    · exact hm
    · rcases List.mem_cons.mp hm with hm | hm
      · subst hm; omega
      · have := sum_ltK (ordK.asym (a2.1 x hm)); omega
theorem inner_costs {n : Nat} {ps : List Pk} {b here : Bk} {done : List Bk} (hp : PsOk n ps) (hb : b.length = n) (hbl : Below here b) (hlow : ∀ x, Below x b → x.sum < here.sum → x ∈ done) (hdl : done.length ≤ 1000000) (acc0 : Option Int) :
    forD [.im, .dead, .ow, .im, .dead, .dead, .dead] (turnD (tTup 2 (tCons (tName 4) (tCons (tName 5) tNil))) g_costs_below_b1) (ps.map encP) [.list (ps.map encP), .none, encD (done ++ [here]) (updV (costV ps) here (optI acc0)), encB here, .none, .none, .none] = .nx [.list (ps.map encP), .none, encD (done ++ [here]) (updV (costV ps) here (optI (ps.foldl (take1 (costZ ps) here) acc0))), encB here, .none, .none, .none] := by
  have hok : BkOk n here := by have := hbl.ok; rwa [hb] at this
  refine forD_pre (ph := [.im, .dead, .ow, .im, .dead, .dead, .dead]) encP (fun qs => [.list (ps.map encP), .none, encD (done ++ [here]) (updV (costV ps) here (optI (qs.foldl (take1 (costZ ps) here) acc0))), encB here, .none, .none, .none]) ps fun qs p more ep => ?_
  have hpm : p ∈ ps := by rw [ep]; simp
  generalize ha : qs.foldl (take1 (costZ ps) here) acc0 = acc
  have hacc : (qs ++ [p]).foldl (take1 (costZ ps) here) acc0 = take1 (costZ ps) here acc p := by rw [List.foldl_append, ha]; rfl
  have hmh : here ∈ done ++ [here] := by simp
  rw [ev_turn (r' := [.list (ps.map encP), .none, encD (done ++ [here]) (updV (costV ps) here (optI acc)), encB here, encB p.1, .int p.2, .none]) rfl]
  unfold g_costs_below_b1
  rw [ev_seq (r' := [.list (ps.map encP), .none, encD (done ++ [here]) (updV (costV ps) here (optI acc)), encB here, encB p.1, .int p.2, encB (leftZ here p.1)]) (by simp [m_left_])]
  by_cases el : leftZ here p.1 = here
  · refine ⟨[.list (ps.map encP), .none, encD (done ++ [here]) (updV (costV ps) here (optI acc)), encB here, encB p.1, .int p.2, encB (leftZ here p.1)], .inl (by simp [el]), ?_⟩
    simp only [hacc, take1, el, ne_eq, not_true, if_false]
    rfl
  · have hlt := (left_sum hok (hp.bk p hpm) el).1
    have hrd : leftZ here p.1 ∈ done := hlow _ (below_left hbl hb (hp.bk p hpm)) hlt
    have hrm : leftZ here p.1 ∈ done ++ [here] := List.mem_append_left _ hrd
    have g1 : dDget (encD (done ++ [here]) (updV (costV ps) here (optI acc))) (encB (leftZ here p.1)) = some (optI (costZ ps (leftZ here p.1))) := by rw [dget_encD hrm, updV_ne el]; rfl
    have g2 : dDget (encD (done ++ [here]) (updV (costV ps) here (optI acc))) (encB here) = some (optI acc) := by rw [dget_encD hmh, updV_self]
    cases ec : costZ ps (leftZ here p.1) with
    | none =>
      refine ⟨[.list (ps.map encP), .none, encD (done ++ [here]) (updV (costV ps) here (optI acc)), encB here, encB p.1, .int p.2, encB (leftZ here p.1)], .inl (by simp [el, g1, ec]), ?_⟩
      simp only [hacc, take1, el, ne_eq, not_false_iff, if_true, ec]
      rfl
    | some c =>
      rw [ec, show optI (some c) = .int c from rfl] at g1
      have keep : encD (done ++ [here]) (updV (updV (costV ps) here (optI acc)) here (.int (c + p.2))) = encD (done ++ [here]) (updV (costV ps) here (optI (some (c + p.2)))) := encD_congr fun x _ => by
        by_cases ex : x = here
        · subst ex; simp [optI]
        · rw [updV_ne ex, updV_ne ex, updV_ne ex]
      have hput : gPutD 2 (gV 3) (gB dAdd (gB dDget (gV 2) (gV 6)) (gV 5)) [.list (ps.map encP), .none, encD (done ++ [here]) (updV (costV ps) here (optI acc)), encB here, encB p.1, .int p.2, encB (leftZ here p.1)] = .nx [.list (ps.map encP), .none, encD (done ++ [here]) (updV (costV ps) here (optI (some (c + p.2)))), encB here, encB p.1, .int p.2, encB (leftZ here p.1)] := by
        rw [putD_old (d := .int (c + p.2)) (b := here) (l := done ++ [here]) (v := updV (costV ps) here (optI acc)) (by simp [g1]) rfl rfl (by simp; omega) hmh, ← keep]; rfl
      cases acc with
      | none =>
        rw [show optI none = .none from rfl] at g2
        have g2 : dDget (encD (done ++ [here]) (updV (costV ps) here (optI none))) (encB here) = some .none := g2
        refine ⟨_, .inl (by simp [el, g1, g2, hput]; exact rfl), ?_⟩
        simp only [hacc, take1, el, ne_eq, not_false_iff, if_true, ec]
        rfl
      | some a =>
        have g2 : dDget (encD (done ++ [here]) (updV (costV ps) here (optI (some a)))) (encB here) = some (.int a) := g2
        by_cases hlt2 : c + p.2 < a
        · refine ⟨_, .inl (by simp [el, g1, g2, hput, hlt2]; exact rfl), ?_⟩
          simp only [hacc, take1, el, ne_eq, not_false_iff, if_true, ec, hlt2]
          rfl
        · refine ⟨[.list (ps.map encP), .none, encD (done ++ [here]) (updV (costV ps) here (optI (some a))), encB here, encB p.1, .int p.2, encB (leftZ here p.1)], .inl (by simp [el, g1, g2, hlt2]), ?_⟩
          simp only [hacc, take1, el, ne_eq, not_false_iff, if_true, ec, hlt2, if_false]
          rfl
theorem m_costs_below_ {n : Nat} {ps : List Pk} {b : Bk} (hp : PsOk n ps) (hb : b.length = n) (h : BkS b) : m_costs_below [.list (ps.map encP), encB b] = .ok (encD (belowS b) (costV ps)) := by
  show endD (g_costs_below [.list (ps.map encP), encB b, .none, .none, .none, .none, .none]) = _
  have hsz : (belowS b).length ≤ 1000000 := by unfold belowS; rw [srt_len]; exact every_lenS h b [] (by simp)
  have hf : forD [.im, .dead, .ow, .dead, .dead, .dead, .dead] (turnD (tName 3) g_costs_below_b2) ((belowS b).map encB) [.list (ps.map encP), .none, encD [] (costV ps), .none, .none, .none, .none] = .nx [.list (ps.map encP), .none, encD (belowS b) (costV ps), .none, .none, .none, .none] := by
    refine forD_pre (ph := [.im, .dead, .ow, .dead, .dead, .dead, .dead]) encB (fun done => [.list (ps.map encP), .none, encD done (costV ps), .none, .none, .none, .none]) (belowS b) fun done here rest e => ?_
    obtain ⟨hnd, hlow⟩ := belowS_split e
    have hbl : Below here b := mem_belowS.mp (by rw [e]; simp)
    have hok : BkOk n here := by have := hbl.ok; rwa [hb] at this
    have hdl : done.length ≤ 1000000 := by have := congrArg List.length e; simp at this; omega
    by_cases hz : here.sum = 0
    · refine ⟨[.list (ps.map encP), .none, encD (done ++ [here]) (updV (costV ps) here (.int 0)), encB here, .none, .none, .none], .inl ?_, ?_⟩
      · rw [ev_turn1]
        unfold g_costs_below_b2
        have hs : dSum [encB here] = some (.int 0) := by unfold encB; rw [ev_sumT, hz]
        simp only [List.set, ev_gIfS, ev_gTb, ev_gB, ev_gL, ev_gCons, ev_gV, ev_gC, ev_gNil, ev_bind, ev_look0, ev_lookS, hs, ev_lift, ev_eqI, ev_boolD, ev_thenS, BEq.rfl, if_true]
        rw [putD_new (d := .int 0) (b := here) (l := done) (v := costV ps) rfl rfl rfl (by omega) hnd]
        rfl
      · simp only [ev_maskI, ev_maskD, ev_maskO, ev_mask0]
        rw [encD_congr (w := costV ps)]
        intro x _
        by_cases ex : x = here
        · subst ex; rw [updV_self]; unfold costV; rw [cost_zero hp hok hz]; rfl
        · exact updV_ne ex
    · have inner := inner_costs hp hb hbl hlow hdl none
      rw [show optI none = PyData.none from rfl, show ps.foldl (take1 (costZ ps) here) none = best (costZ ps) here ps from rfl] at inner
      refine ⟨[.list (ps.map encP), .none, encD (done ++ [here]) (updV (costV ps) here (optI (best (costZ ps) here ps))), encB here, .none, .none, .none], .inl ?_, ?_⟩
      · rw [ev_turn1]
        unfold g_costs_below_b2
        have hs : dSum [encB here] = some (.int here.sum) := by unfold encB; rw [ev_sumT]
        have hq : gPutD 2 (gV 3) (gC .none) [.list (ps.map encP), .none, encD done (costV ps), encB here, .none, .none, .none] = .nx [.list (ps.map encP), .none, encD (done ++ [here]) (updV (costV ps) here .none), encB here, .none, .none, .none] := putD_new (d := .none) (b := here) (l := done) (v := costV ps) rfl rfl rfl (by omega) hnd
        simp only [List.set, ev_gIfS, ev_gTb, ev_gB, ev_gL, ev_gCons, ev_gV, ev_gC, ev_gNil, ev_bind, ev_look0, ev_lookS, hs, ev_lift, ev_eqI, ev_boolD, ev_thenS, beq_false_of_ne hz, Bool.false_eq_true, if_false, ev_gSeq, hq, ev_gFor, ev_gIt, ev_seqL, ev_maskD, ev_maskI, ev_maskO, ev_mask0, inner]
      · simp only [ev_maskI, ev_maskD, ev_maskO, ev_mask0]
        rw [encD_congr (w := costV ps)]
        intro x _
        by_cases ex : x = here
        · subst ex; rw [updV_self]; unfold costV; rw [← cost_best hp hok hz]
        · exact updV_ne ex
  simp only [g_costs_below, ev_gSeq, ev_gSet, ev_gC, ev_thenS, List.set, ev_gFor, ev_gIt, ev_gF, ev_gCons, ev_gV, ev_gNil, ev_bind, ev_look0, ev_lookS, m_baskets_below_ h, ev_seqL, ev_lift, ev_maskD, ev_maskI, ev_maskO, ev_mask0, show PyData.dict [] = encD [] (costV ps) from rfl, hf, ev_gRet, ev_endR]
theorem m_cost_by_ {n : Nat} {ps : List Pk} {b : Bk} (hp : PsOk n ps) (hb : BkOk n b) (h : BkS b) : m_cost_by [.list (ps.map encP), encB b] = .ok (optI (costZ ps b)) := by
  show endD (g_cost_by [.list (ps.map encP), encB b]) = _
  have hm : b ∈ belowS b := mem_belowS.mpr (below_self hb)
  simp only [g_cost_by, ev_gRet, ev_gB, ev_gF, ev_gCons, ev_gV, ev_gNil, ev_bind, ev_look0, ev_lookS, m_costs_below_ hp hb.len h, dget_encD hm, ev_lift, ev_thenS, ev_endR]
  rfl
end PD
/-! PV: what a basket of a good list costs. -/
namespace PD
open PySem L2
theorem aloneZ_len (n w k : Int) : (aloneZ n w k).length = n.toNat := by unfold aloneZ; simp
theorem at_alone {n w k : Int} {i : Nat} (h : i < n.toNat) : at0 (aloneZ n w k) i = if (i : Int) = w then k else 0 := by
  unfold at0 aloneZ; simp [List.getD_eq_getElem?_getD, h]
theorem aloneZ_ok {n w k : Int} (h : 0 ≤ k) : BkOk n.toNat (aloneZ n w k) := ⟨aloneZ_len n w k, fun x hx => by
  unfold aloneZ at hx
  obtain ⟨i, _, rfl⟩ := List.mem_map.mp hx
  split <;> omega⟩
/-- packs of a good offer: counts to nine, not all none, prices from one on -/
structure PkG (n : Int) (p : Pk) : Prop where
  ok : BkOk n.toNat p.1
  le : ∀ x ∈ p.1, x ≤ 9
  nz : ∃ i, i < n.toNat ∧ 0 < at0 p.1 i
  pr : 1 ≤ p.2
  pm : p.2 ≤ 999
theorem alone_pkG {n w k p : Int} (w0 : 0 ≤ w) (wn : w < n) (k1 : 1 ≤ k) (k9 : k ≤ 9) (p1 : 1 ≤ p) (pm : p ≤ 999) : PkG n (aloneZ n w k, p) := by
  refine ⟨aloneZ_ok (by omega), fun x hx => ?_, ⟨w.toNat, by omega, ?_⟩, p1, pm⟩
  · have hx : x ∈ aloneZ n w k := hx
    unfold aloneZ at hx
    obtain ⟨i, _, rfl⟩ := List.mem_map.mp hx
    split <;> omega
  · show 0 < at0 (aloneZ n w k) _
    rw [at_alone (by omega), if_pos (by omega)]; omega
theorem offPk_good {n : Int} {o : Off} (h : o.Good n) (n1 : 1 ≤ n) : ∀ p ∈ offPk n o, PkG n p := by
  intro q hq
  cases o with
  | each w p => obtain ⟨a, b, c, d⟩ := h; rw [List.mem_singleton.mp hq]; exact alone_pkG a b (by omega) (by omega) c (by omega)
  | pack w m p => obtain ⟨a, b, c, d, e, f⟩ := h; rw [List.mem_singleton.mp hq]; exact alone_pkG a b (by omega) (by omega) e (by omega)
  | tier w m p =>
    obtain ⟨a, b, c, d, e, f⟩ := h
    have hq : q ∈ ((List.range m.toNat).map fun (i : Nat) => m + (i : Int)).map fun k => (aloneZ n w k, k * p) := hq
    rw [List.map_map] at hq
    obtain ⟨i, hi, rfl⟩ := List.mem_map.mp hq
    have hi := List.mem_range.mp hi
    show PkG n (aloneZ n w (m + i), (m + i) * p)
    have h1 : (m + (i : Int)) * p ≤ 9 * 99 := Int.mul_le_mul (by omega) f (by omega) (by omega)
    have h2 : 1 * 1 ≤ (m + (i : Int)) * p := Int.mul_le_mul (by omega) e (by omega) (by omega)
    exact alone_pkG a b (by omega) (by omega) (by omega) (by omega)
  | joined cs p =>
    obtain ⟨a, b, ⟨c, c1, c2⟩, d, e⟩ := h
    rw [List.mem_singleton.mp hq]
    refine ⟨⟨by show cs.length = _; omega, fun x hx => (b x hx).1⟩, fun x hx => by have := (b x hx).2; omega, ?_, d, by show p ≤ _; omega⟩
    obtain ⟨i, hi, rfl⟩ := List.getElem_of_mem c1
    exact ⟨i, by omega, by show 0 < at0 cs i; unfold at0; simpa [List.getD_eq_getElem?_getD, hi] using c2⟩
theorem mem_packsZ {n : Int} {os : List Off} {p : Pk} : p ∈ packsZ n os ↔ ∃ o ∈ os, p ∈ offPk n o := by
  unfold packsZ foundZ
  rw [mem_sset, List.mem_flatMap]
theorem packs_good {n : Int} {os : List Off} (h : GoodL n os) : ∀ p ∈ packsZ n os, PkG n p := fun p hp => by
  obtain ⟨o, ho, hp⟩ := mem_packsZ.mp hp
  exact offPk_good (h.g o ho) h.n1 p hp
theorem packs_ok {n : Int} {os : List Off} (h : GoodL n os) : PsOk n.toNat (packsZ n os) := ⟨fun p hp => (packs_good h p hp).ok, fun p hp => by have := (packs_good h p hp).pr; omega⟩
/-- a basket of a list of n wares -/
structure GoodB (n : Int) (b : Bk) : Prop where
  len : (b.length : Int) = n
  in9 : ∀ x ∈ b, 0 ≤ x ∧ x ≤ 9
theorem GoodB.ok {n : Int} {b : Bk} (h : GoodB n b) : BkOk n.toNat b := ⟨by have := h.len; omega, fun x hx => (h.in9 x hx).1⟩
theorem GoodB.s {n : Int} {b : Bk} (h : GoodB n b) (n3 : n ≤ 3) : BkS b := ⟨by have := h.len; omega, fun x hx => (h.in9 x hx).1, fun x hx => by have := (h.in9 x hx).2; omega⟩
theorem m_look_basket_ {n : Int} {os : List Off} {b : Bk} (hb : GoodB n b) : m_look_basket [encL n os, encB b] = .ok .none := by
  show endD (g_look_basket [encL n os, encB b, .none]) = _
  have hc : compD (eltD (tName 2) g_look_basket_c1 g_look_basket_e1 [encL n os, encB b, .none]) (b.map PyData.int) = some [] := by
    rw [comp_enc PyData.int (fun _ => false) PyData.int]
    · simp
    · intro c hc
      have hh := hb.in9 c hc
      exact elt_of (b := false) (r' := [encL n os, encB b, .int c]) rfl (by simp [g_look_basket_c1, hh.1, hh.2]) (fun z => by cases z)
  have hl := hb.len
  unfold encB encL at hc
  simp [g_look_basket, encL, encB, hl, hc]
theorem m_cost_ {n : Int} {os : List Off} {b : Bk} (h : GoodL n os) (hb : GoodB n b) : m_cost [encL n os, encB b] = .ok (optI (costZ (packsZ n os) b)) := by
  show endD (g_cost [encL n os, encB b]) = _
  simp only [g_cost, ev_gSeq, ev_gDrop, ev_gF, ev_gCons, ev_gV, ev_gNil, ev_bind, ev_look0, ev_lookS, m_looks h, ev_thenS, m_look_basket_ hb, ev_gRet, m_all_packs_ h, m_cost_by_ (packs_ok h) hb.ok (hb.s h.n3), ev_endR]
/-! ### least and greatest of some numbers -/
theorem min_list {l : List Int} {m : Int} (hm : m ∈ l) (hl : ∀ y ∈ l, m ≤ y) : pickD minZ [.list (l.map PyData.int)] = some (.int m) := by
  cases l with
  | nil => simp at hm
  | cons x l =>
    show (intsD _).bind _ = _
    rw [intsD_map, Option.bind_some, minZ_eq hm hl]
theorem max_list {l : List Int} {m : Int} (hm : m ∈ l) (hl : ∀ y ∈ l, y ≤ m) : pickD maxZ [.list (l.map PyData.int)] = some (.int m) := by
  cases l with
  | nil => simp at hm
  | cons x l =>
    show (intsD _).bind _ = _
    rw [intsD_map, Option.bind_some, maxZ_eq hm hl]
theorem shp_optI (o : Option Int) : Shp 0 (optI o) := by cases o with
  | none => exact shp_none
  | some i => exact shp_int i
theorem eqv_optI (a b : Option Int) : PyData.eqv (optI a) (optI b) = decide (a = b) := by
  cases a <;> cases b <;> simp [optI, PyData.eqv]; rfl
@[simp] theorem dEq_optI (a b : Option Int) : dEq (optI a) (optI b) = some (.bool (decide (a = b))) := by rw [dEq_of (shp_optI a) (shp_optI b), eqv_optI]
@[simp] theorem dNe_optI (a b : Option Int) : dNe (optI a) (optI b) = some (.bool (!decide (a = b))) := by rw [dNe_of (shp_optI a) (shp_optI b), eqv_optI]
end PD
/-! PW: the laws' own packs and costs (those by baskets below). -/
namespace PD
open PySem L2
theorem rest_of_eq : m__law_rest_of = m_left := rfl
theorem asked_b1_eq : g__law_asked_b1 = g_costs_below_b1 := rfl
/-! ### packs -/
theorem set_alone {n w k : Int} (w0 : 0 ≤ w) (wn : w < n) : ((List.replicate n.toNat (0 : Int)).set w.toNat k) = aloneZ n w k := by
  unfold aloneZ
  refine List.ext_getElem (by simp) fun i h1 h2 => ?_
  rw [List.getElem_set]
  simp only [List.getElem_map, List.getElem_range, List.getElem_replicate]
  by_cases e : w.toNat = i
  · rw [if_pos e, if_pos (by omega)]
  · rw [if_neg e, if_neg (by omega)]
theorem repD_zero {n : Int} : repD [PyData.int 0] n = (List.replicate n.toNat (0 : Int)).map PyData.int := by
  unfold repD
  induction n.toNat with
  | zero => rfl
  | succ m ih => rw [List.replicate_succ, List.flatten_cons, ih, List.replicate_succ]; rfl
/-- the numbers of packs of an offer -/
def manyZ : Off → List Int
  | .pack _ m _ => [m]
  | .tier _ m _ => (List.range m.toNat).map fun (i : Nat) => m + (i : Int)
  | _ => [1]
/-- one pack of an offer -/
def onePk (n : Int) (o : Off) (k : Int) : Pk := match o with
  | .each w p => (aloneZ n w k, p)
  | .pack w _ p => (aloneZ n w k, p)
  | .tier w _ p => (aloneZ n w k, k * p)
  | .joined cs p => (cs, p)
theorem many_off (n : Int) (o : Off) : (manyZ o).map (onePk n o) = offPk n o := by cases o <;> rfl
theorem eq_pack_pack : dEq (.str "pack") (.str "pack") = some (.bool true) := (dEq_str lay_pack lay_pack).trans (by rw [show (("pack" : Str) == "pack") = true by decide +kernel])
theorem eq_tier_pack : dEq (.str "tier") (.str "pack") = some (.bool false) := (dEq_str lay_tier lay_pack).trans (by rw [show (("tier" : Str) == "pack") = false by decide +kernel])
theorem eq_tier_tier : dEq (.str "tier") (.str "tier") = some (.bool true) := (dEq_str lay_tier lay_tier).trans (by rw [show (("tier" : Str) == "tier") = true by decide +kernel])
theorem eq_each_pack : dEq (.str "each") (.str "pack") = some (.bool false) := (dEq_str lay_each lay_pack).trans (by rw [show (("each" : Str) == "pack") = false by decide +kernel])
theorem eq_each_tier : dEq (.str "each") (.str "tier") = some (.bool false) := (dEq_str lay_each lay_tier).trans (by rw [show (("each" : Str) == "tier") = false by decide +kernel])
theorem eq_pack_tier : dEq (.str "pack") (.str "tier") = some (.bool false) := (dEq_str lay_pack lay_tier).trans (by rw [show (("pack" : Str) == "tier") = false by decide +kernel])
theorem eq_joined_pack : dEq (.str "joined") (.str "pack") = some (.bool false) := (dEq_str lay_joined lay_pack).trans (by rw [show (("joined" : Str) == "pack") = false by decide +kernel])
theorem eq_joined_tier : dEq (.str "joined") (.str "tier") = some (.bool false) := (dEq_str lay_joined lay_tier).trans (by rw [show (("joined" : Str) == "tier") = false by decide +kernel])
theorem lp_turn {n : Int} {o : Off} {k : Int} {acc : List Pk} {x7 : PyData} (n1 : 1 ≤ n) (n3 : n ≤ 3) (h : o.Good n) (hk : k ∈ manyZ o) (hl : acc.length ≤ 100) :
    ∃ r, g__law_packs_b1 [.none, .int n, .none, .list (acc.map encP), encO o, .none, .int k, .none] = .nx r ∧ mask [.dead, .im, .dead, .ow, .im, .dead, .dead, .dead] r = [.none, .int n, .none, .list ((acc ++ [onePk n o k]).map encP), encO o, .none, .none, .none] := by
  have hrep : dRepL (.list [.int 0]) (.int n) = some (.list ((List.replicate n.toNat (0 : Int)).map PyData.int)) := by
    show (if _ then _ else _) = _
    rw [if_pos ⟨by omega, by omega, by simp⟩, repD_zero]
  have happ : ∀ d : PyData, acc.map encP ++ [d] = acc.map encP ++ [d] := fun _ => rfl
  have hz : (acc.map encP).length < sizeLine := sl_ltB (by simp; omega)
  have go : ∀ (w p : Int) (T : PyData) (hT : T = encO o) (ix1 : dIx T (.int 1) = some (.int w)), 0 ≤ w → w < n →
      gPutL 7 (gB dIx (gV 4) (gC (.int 1))) (gV 6) [.none, .int n, .none, .list (acc.map encP), T, .none, .int k, .list ((List.replicate n.toNat (0 : Int)).map PyData.int)] = .nx [.none, .int n, .none, .list (acc.map encP), T, .none, .int k, .list ((aloneZ n w k).map PyData.int)] := fun w p T hT ix1 w0 wn => by
    have ix : ixN (List.map PyData.int (List.replicate n.toNat (0 : Int))).length w = some w.toNat := ixN_in w0 (by simp; omega)
    unfold gPutL
    simp only [ev_gV, ev_thenS, ev_gB, ev_gC, ev_bind, ev_look0, ev_lookS, ix1, ev_lift, ix, ← List.map_set, set_alone w0 wn, List.set]
  cases o with
  | each w p =>
    obtain ⟨h1, h2, h3, h4⟩ := h
    have hk1 : k = 1 := by simpa [manyZ] using hk
    refine ⟨[.none, .int n, .none, .list ((acc ++ [(aloneZ n w k, p)]).map encP), encO (.each w p), .none, .int k, .list ((aloneZ n w k).map PyData.int)], ?_, rfl⟩
    have hm : dMul (.int p) (.int 1) = some (.int p) := (ev_mulI (.inr (by decide))).trans (by rw [Int.mul_one])
    have gg := go w p (encO (.each w p)) rfl rfl h1 h2
    unfold encO at gg ⊢
    simp only [g__law_packs_b1, ev_gSeq, ev_gSet, ev_gB, ev_gL, ev_gCons, ev_gC, ev_gV, ev_gNil, ev_bind, ev_lstB (show [PyData.int 0].length ≤ 16000000 by simp), ev_lift, ev_look0, ev_lookS, hrep, ev_thenS, List.set, ev_gIfS, ev_gTb, ev_ixT, at_0, eq_each_joined, ev_boolD, Bool.false_eq_true, if_false, gg, gApp, dTuple, ev_gU, ev_neg, at_m3, ev_gIf, eq_each_tier, hm, ev_tupB (show [PyData.tuple ((aloneZ n w k).map PyData.int), .int p].length ≤ 16000000 by simp), if_pos hz, List.map_append, List.map_cons, List.map_nil]
    rfl
  | pack w m p =>
    obtain ⟨h1, h2, h3, h4, h5, h6⟩ := h
    refine ⟨[.none, .int n, .none, .list ((acc ++ [(aloneZ n w k, p)]).map encP), encO (.pack w m p), .none, .int k, .list ((aloneZ n w k).map PyData.int)], ?_, rfl⟩
    have hm : dMul (.int p) (.int 1) = some (.int p) := (ev_mulI (.inr (by decide))).trans (by rw [Int.mul_one])
    have gg := go w p (encO (.pack w m p)) rfl rfl h1 h2
    unfold encO at gg ⊢
    simp only [g__law_packs_b1, ev_gSeq, ev_gSet, ev_gB, ev_gL, ev_gCons, ev_gC, ev_gV, ev_gNil, ev_bind, ev_lstB (show [PyData.int 0].length ≤ 16000000 by simp), ev_lift, ev_look0, ev_lookS, hrep, ev_thenS, List.set, ev_gIfS, ev_gTb, ev_ixT, at_0, eq_pack_joined, ev_boolD, Bool.false_eq_true, if_false, gg, gApp, dTuple, ev_gU, ev_neg, at_m4, ev_gIf, eq_pack_tier, hm, ev_tupB (show [PyData.tuple ((aloneZ n w k).map PyData.int), .int p].length ≤ 16000000 by simp), if_pos hz, List.map_append, List.map_cons, List.map_nil]
    rfl
  | tier w m p =>
    obtain ⟨h1, h2, h3, h4, h5, h6⟩ := h
    refine ⟨[.none, .int n, .none, .list ((acc ++ [(aloneZ n w k, k * p)]).map encP), encO (.tier w m p), .none, .int k, .list ((aloneZ n w k).map PyData.int)], ?_, rfl⟩
    have hm : dMul (.int p) (.int k) = some (.int (k * p)) := (ev_mulI (.inl ⟨by omega, by omega⟩)).trans (by rw [Int.mul_comm])
    have gg := go w p (encO (.tier w m p)) rfl rfl h1 h2
    unfold encO at gg ⊢
    simp only [g__law_packs_b1, ev_gSeq, ev_gSet, ev_gB, ev_gL, ev_gCons, ev_gC, ev_gV, ev_gNil, ev_bind, ev_lstB (show [PyData.int 0].length ≤ 16000000 by simp), ev_lift, ev_look0, ev_lookS, hrep, ev_thenS, List.set, ev_gIfS, ev_gTb, ev_ixT, at_0, eq_tier_joined, ev_boolD, Bool.false_eq_true, if_false, if_true, gg, gApp, dTuple, ev_gU, ev_neg, at_m4, ev_gIf, eq_tier_tier, hm, ev_tupB (show [PyData.tuple ((aloneZ n w k).map PyData.int), .int (k * p)].length ≤ 16000000 by simp), if_pos hz, List.map_append, List.map_cons, List.map_nil]
    rfl
  | joined cs p =>
    refine ⟨[.none, .int n, .none, .list ((acc ++ [(cs, p)]).map encP), encO (.joined cs p), .none, .int k, .tuple (cs.map PyData.int)], ?_, rfl⟩
    have hm : dMul (.int p) (.int 1) = some (.int p) := (ev_mulI (.inr (by decide))).trans (by rw [Int.mul_one])
    unfold encO
    simp only [g__law_packs_b1, ev_gSeq, ev_gSet, ev_gB, ev_gL, ev_gCons, ev_gC, ev_gV, ev_gNil, ev_bind, ev_lstB (show [PyData.int 0].length ≤ 16000000 by simp), ev_lift, ev_look0, ev_lookS, hrep, ev_thenS, List.set, ev_gIfS, ev_gTb, ev_ixT, at_0, at_1, eq_joined_joined, ev_boolD, Bool.false_eq_true, if_false, if_true, gApp, dTuple, ev_gU, ev_neg, at_m3, ev_gIf, eq_joined_tier, hm, ev_tupB (show [PyData.tuple (cs.map PyData.int), .int p].length ≤ 16000000 by simp), if_pos hz, List.map_append, List.map_cons, List.map_nil]
    rfl
theorem m__law_packs_ {n : Int} {os : List Off} (h : GoodL n os) : m__law_packs [encL n os] = .ok (.list ((packsZ n os).map encP)) := by
  show endD (g__law_packs [encL n os, .none, .none, .none, .none, .none, .none, .none]) = _
  have h5 := foundZ_len h.g
  have h6 := h.l6
  have hf : forD [.dead, .im, .dead, .ow, .dead, .dead, .dead, .dead] (turnD (tName 4) g__law_packs_b2) (os.map encO) [.none, .int n, .none, .list [], .none, .none, .none, .none] = .nx [.none, .int n, .none, .list ((foundZ n os).map encP), .none, .none, .none, .none] := by
    refine forD_pre (ph := [.dead, .im, .dead, .ow, .dead, .dead, .dead, .dead]) encO (fun done => [.none, .int n, .none, .list ((foundZ n done).map encP), .none, .none, .none, .none]) os fun done o rest e => ?_
    have ho : o ∈ os := by rw [e]; simp
    have hg := h.g o ho
    have hl : (foundZ n done).length ≤ 50 := by
      have a1 := foundZ_len (n := n) (os := done) fun x hx => h.g x (by rw [e]; simp [hx])
      have a3 : done.length ≤ os.length := by rw [e]; simp
      omega
    have hml : (manyZ o).length ≤ 5 := by have := offPk_len hg; rw [← many_off] at this; simpa using this
    have hi : forD [.dead, .im, .dead, .ow, .im, .dead, .dead, .dead] (turnD (tName 6) g__law_packs_b1) ((manyZ o).map PyData.int) [.none, .int n, .none, .list ((foundZ n done).map encP), encO o, .none, .none, .none] = .nx [.none, .int n, .none, .list ((foundZ n done ++ (manyZ o).map (onePk n o)).map encP), encO o, .none, .none, .none] := by
      have := forD_pre (ph := [.dead, .im, .dead, .ow, .im, .dead, .dead, .dead]) (step := turnD (tName 6) g__law_packs_b1) PyData.int (fun ks => [.none, .int n, .none, .list ((foundZ n done ++ ks.map (onePk n o)).map encP), encO o, .none, .none, .none]) (manyZ o) fun ks k more e2 => by
        have hk : k ∈ manyZ o := by rw [e2]; simp
        have hks : ks.length ≤ 5 := by have := congrArg List.length e2; simp at this; omega
        obtain ⟨r, h1, h2⟩ := lp_turn (acc := foundZ n done ++ ks.map (onePk n o)) (x7 := .none) h.n1 h.n3 hg hk (by simp; omega)
        refine ⟨r, .inl (by rw [ev_turn1]; exact h1), ?_⟩
        rw [h2, List.map_append (l₁ := ks), List.append_assoc]; rfl
      simpa using this
    have hfin : foundZ n done ++ (manyZ o).map (onePk n o) = foundZ n (done ++ [o]) := by rw [many_off]; unfold foundZ; rw [List.flatMap_append]; simp
    rw [hfin] at hi
    have hcase : g__law_packs_b2 [.none, .int n, .none, .list ((foundZ n done).map encP), encO o, .none, .none, .none] = .nx [.none, .int n, .none, .list ((foundZ n (done ++ [o])).map encP), encO o, .none, .none, .none] := by
      have key : ∀ (T : PyData) (r5 : Rw), T = encO o → (gSeq (gIfS (gTb (gB dEq (gB dIx (gV 4) (gC (.int 0))) (gC (.str "pack")))) (gSet 5 (gL lstD (gCons (gB dIx (gV 4) (gC (.int 2))) gNil))) SR.nx) (gIfS (gTb (gB dEq (gB dIx (gV 4) (gC (.int 0))) (gC (.str "tier")))) (gSet 5 (gB dListR2 (gB dIx (gV 4) (gC (.int 2))) (gB dMul (gC (.int 2)) (gB dIx (gV 4) (gC (.int 2)))))) SR.nx)) [.none, .int n, .none, .list ((foundZ n done).map encP), encO o, .list [.int 1], .none, .none] = .nx [.none, .int n, .none, .list ((foundZ n done).map encP), encO o, .list ((manyZ o).map PyData.int), .none, .none] := fun _ _ _ => by
        cases o with
        | each w p => simp only [encO, ev_gSeq, ev_gIfS, ev_gTb, ev_gB, ev_gV, ev_gC, ev_bind, ev_look0, ev_lookS, ev_ixT, at_0, ev_lift, eq_each_pack, eq_each_tier, ev_boolD, ev_thenS, Bool.false_eq_true, if_false]; rfl
        | pack w m p => simp only [encO, ev_gSeq, ev_gIfS, ev_gTb, ev_gB, ev_gV, ev_gC, ev_bind, ev_look0, ev_lookS, ev_ixT, at_0, at_2, ev_lift, eq_pack_pack, eq_pack_tier, ev_boolD, ev_thenS, Bool.false_eq_true, if_false, if_true, ev_gSet, ev_gL, ev_gCons, ev_gNil, ev_lstB (show [PyData.int m].length ≤ 16000000 by simp), List.set]; rfl
        | tier w m p =>
          obtain ⟨h1, h2, h3, h4, h5, h6⟩ := hg
          have hm : dMul (.int 2) (.int m) = some (.int (2 * m)) := ev_mulI (.inl (by decide))
          have hr : dListR2 (.int m) (.int (2 * m)) = some (.list (((List.range m.toNat).map fun (i : Nat) => m + (i : Int)).map PyData.int)) := by
            unfold dListR2
            rw [ev_rng2B (by omega) (by omega) (by omega) (by omega), show (2 * m - m).toNat = m.toNat by omega]; rfl
          simp only [encO, ev_gSeq, ev_gIfS, ev_gTb, ev_gB, ev_gV, ev_gC, ev_bind, ev_look0, ev_lookS, ev_ixT, at_0, at_2, ev_lift, eq_tier_pack, eq_tier_tier, ev_boolD, ev_thenS, Bool.false_eq_true, if_false, if_true, ev_gSet, hm, hr, List.set]; rfl
        | joined cs p => simp only [encO, ev_gSeq, ev_gIfS, ev_gTb, ev_gB, ev_gV, ev_gC, ev_bind, ev_look0, ev_lookS, ev_ixT, at_0, ev_lift, eq_joined_pack, eq_joined_tier, ev_boolD, ev_thenS, Bool.false_eq_true, if_false]; rfl
      have k := key (encO o) [] rfl
      unfold g__law_packs_b2
      rw [ev_seq (r' := [.none, .int n, .none, .list ((foundZ n done).map encP), encO o, .list [.int 1], .none, .none]) (by simp only [ev_gSet, ev_gL, ev_gCons, ev_gC, ev_gNil, ev_bind, ev_lift, ev_lstB (show [PyData.int 1].length ≤ 16000000 by simp), ev_thenS, List.set])]
      rw [ev_gSeq] at k ⊢
      revert k
      cases (gIfS (gTb (gB dEq (gB dIx (gV 4) (gC (.int 0))) (gC (.str "pack")))) (gSet 5 (gL lstD (gCons (gB dIx (gV 4) (gC (.int 2))) gNil))) SR.nx) [.none, .int n, .none, .list ((foundZ n done).map encP), encO o, .list [.int 1], .none, .none] with
      | nx r =>
        intro k
        dsimp only at k ⊢
        rw [ev_seq k]
        simp only [ev_gFor, ev_gIt, ev_gV, ev_look0, ev_lookS, ev_bind, ev_seqL, ev_lift, ev_thenS, ev_maskD, ev_maskI, ev_maskO, ev_mask0, hi]
      | rt d => intro k; cases k
      | bk r => intro k; cases k
      | ct r => intro k; cases k
      | er a r => intro k; cases k
    exact ⟨_, .inl (by rw [ev_turn1]; exact hcase), rfl⟩
  simp only [g__law_packs, encL, ev_gSeq, ev_asg (ge := gV 0) (gt := tTup 2 (tCons (tName 1) (tCons (tName 2) tNil))) (r := [.tuple [.int n, .tuple (os.map encO)], .none, .none, .none, .none, .none, .none, .none]) (r' := [.tuple [.int n, .tuple (os.map encO)], .int n, .tuple (os.map encO), .none, .none, .none, .none, .none]) rfl rfl, ev_gSet, ev_gL, ev_gNil, ev_bind, ev_lstB (show ([] : List PyData).length ≤ 16000000 by simp), ev_lift, ev_thenS, List.set, ev_gFor, ev_gIt, ev_gV, ev_look0, ev_lookS, ev_seqT, ev_maskD, ev_maskI, ev_maskO, ev_mask0, hf, ev_gRet, ev_gCons, dSortSet_encP (show (foundZ n os).length < 64 by omega), ev_endR]
  rfl
end PD
/-! PX: what the laws ask for baskets below one. -/
namespace PD
open PySem L2
def encK (b : Bk) : PyData := .tuple [.int b.sum, encB b]
theorem dataLt_encK (a b : Bk) : PySem.W.dataLt (encK a) (encK b) = ltK a b := by
  unfold encK
  rw [PySem.W.dataLt_pair (by simp [PySem.W.alike]) (alike_encB _ _), eqv_encB, dataLt_encB, PySem.W.dataLt_int]
  unfold ltK lt2 ltI
  by_cases e : a.sum = b.sum
  · by_cases e2 : a = b
    · subst e2; simp [PyData.eqv, ordB.irr]
    · simp [e, e2, PyData.eqv]
  · simp [e, PyData.eqv]
theorem shp_encK (b : Bk) : Shp 2 (encK b) := shp_tup fun d hd => by
  simp only [List.mem_cons, List.not_mem_nil, or_false] at hd
  rcases hd with rfl | rfl
  · exact (shp_int _).mono (by decide)
  · exact shp_encB b
theorem dSort_encK (l : List Bk) : dSort [.list (l.map encK)] = some (.list ((srt ltK l).map encK)) := by
  show (if _ then _ else _) = _
  rw [if_pos (sortOk_of2 (n := 2) (fun d hd => by
    obtain ⟨b, _, rfl⟩ := List.mem_map.mp hd
    exact shp_encK b) (by decide) (fun d hd e he => by
    obtain ⟨b, _, rfl⟩ := List.mem_map.mp hd
    obtain ⟨c, _, rfl⟩ := List.mem_map.mp he
    unfold encK
    simp [PySem.W.alike, PySem.W.alikeAll, alike_encB]) fun d hd => by
    obtain ⟨b, _, rfl⟩ := List.mem_map.mp hd
    rfl), sort_enc (lt := ltK) encK leD (fun x y => by unfold leD; rw [dataLt_encK])]
theorem m__law_every_below_ {b : Bk} (h : BkS b) : m__law_every_below [encB b] = .ok (.list ((belowS b).map encB)) := by
  show endD (g__law_every_below [encB b, .none, .none, .none, .none, .none, .none]) = _
  have hf : forD [.dead, .im, .dead, .dead, .dead, .dead, .dead] (turnD (tName 2) g__law_every_below_b2) (b.map PyData.int) [.none, .list [encB []], .none, .none, .none, .none, .none] = .nx [.none, .list ((every b).map encB), .none, .none, .none, .none, .none] := by
    refine forD_pre (ph := [.dead, .im, .dead, .dead, .dead, .dead, .dead]) PyData.int (fun done => [.none, .list ((every done).map encB), .none, .none, .none, .none, .none]) b fun done x rest e => ?_
    have hx0 := h.pos x (by rw [e]; simp)
    have hx1 := h.le x (by rw [e]; simp)
    have hlen : done.length ≤ 2 := by have := h.len; rw [e] at this; simp at this; omega
    have hw := every_lenS h (done ++ [x]) rest (by rw [e]; simp)
    have ew : every (done ++ [x]) = wide (every done) x := by unfold every; rw [List.foldl_append]; rfl
    rw [ew] at hw
    have hi : forD [.dead, .dead, .im, .im, .dead, .dead, .dead] (turnD (tName 4) g__law_every_below_b1) ((every done).map encB) [.none, .none, .int x, .list [], .none, .none, .none] = .nx [.none, .none, .int x, .list ((wide (every done) x).map encB), .none, .none, .none] := by
      refine forD_pre (ph := [.dead, .dead, .im, .im, .dead, .dead, .dead]) encB (fun rows => [.none, .none, .int x, .list ((wide rows x).map encB), .none, .none, .none]) (every done) fun rows r more e2 => ?_
      have hr : r.length ≤ 2 := by rw [every_rowlen done (show r ∈ every done by rw [e2]; simp)]; exact hlen
      have hl : (wide rows x).length + (upTo0 x).length ≤ 1000000 := by
        have : (wide (every done) x).length = (wide rows x).length + (upTo0 x).length + (wide more x).length := by
          rw [e2]; unfold wide; simp; omega
        omega
      have hc : compD (eltD (tName 6) gYes g__law_every_below_e1 [.none, .none, .int x, .list ((wide rows x).map encB), encB r, .none, .none]) (((List.range (x + 1).toNat).map fun (i : Nat) => (i : Int)).map PyData.int) = some (((List.range (x + 1).toNat).map fun (i : Nat) => (i : Int)).map fun y => encB (r ++ [y])) := by
        refine comp_all _ _ _ fun y _ => ?_
        refine elt_of (b := true) (r' := [.none, .none, .int x, .list ((wide rows x).map encB), encB r, .none, .int y]) (by simp) rfl (fun _ => ?_)
        simp [g__law_every_below_e1, ev_tupB, encB_snoc, sl_le (show r.length + 1 ≤ 16000000 by omega)]
      have hcat : dAdd (.list ((wide rows x).map encB)) (.list (((List.range (x + 1).toNat).map fun (i : Nat) => (i : Int)).map fun y => encB (r ++ [y]))) = some (.list ((wide (rows ++ [r]) x).map encB)) := by
        show (if _ then _ else _) = _
        rw [if_pos (sl_le (by simp [upTo0] at hl ⊢; omega))]
        simp [wide, upTo0]
      refine ⟨[.none, .none, .int x, .list ((wide (rows ++ [r]) x).map encB), encB r, .none, .none], .inl ?_, rfl⟩
      rw [ev_turn1]
      unfold g__law_every_below_b1
      simp only [List.set, ev_gSet, ev_look0, ev_lookS, ev_gLc, ev_gIt, ev_gB, ev_gV, ev_gC, ev_bind, ev_addI, ev_lift, ev_rngB (show 0 ≤ x + 1 by omega) (show x + 1 ≤ 16000000 by omega), hc, Option.map_some, hcat, ev_thenS]
    refine ⟨[.none, .list ((every (done ++ [x])).map encB), .int x, .list ((wide (every done) x).map encB), .none, .none, .none], .inl ?_, rfl⟩
    rw [ev_turn1]
    unfold g__law_every_below_b2
    simp only [List.set, ev_gSeq, ev_gSet, ev_gL, ev_gNil, ev_bind, ev_lstB (show ([] : List PyData).length ≤ 16000000 by simp), ev_lift, ev_thenS, ev_gFor, ev_gIt, ev_gV, ev_look0, ev_lookS, ev_seqL, ev_maskD, ev_maskI, ev_maskO, ev_mask0, hi, ew]
  have c1 : compD (eltD (tName 4) gYes g__law_every_below_e2 [.none, .list ((every b).map encB), .none, .none, .none, .none, .none]) ((every b).map encB) = some ((every b).map encK) := by
    refine comp_all _ _ _ fun y _ => ?_
    refine elt_of (b := true) (r' := [.none, .list ((every b).map encB), .none, .none, encB y, .none, .none]) rfl rfl (fun _ => ?_)
    have hs : dSum [encB y] = some (.int y.sum) := by unfold encB; rw [ev_sumT]
    simp only [g__law_every_below_e2, ev_gL, ev_gCons, ev_gV, ev_gNil, ev_bind, ev_look0, ev_lookS, hs, ev_lift, ev_tupB (show [PyData.int y.sum, encB y].length ≤ 16000000 by simp)]
    rfl
  have c2 : compD (eltD (tTup 2 (tCons (tName 5) (tCons (tName 4) tNil))) gYes g__law_every_below_e3 [.none, .list ((every b).map encB), .none, .none, .none, .none, .none]) ((srt ltK (every b)).map encK) = some ((srt ltK (every b)).map encB) := by
    refine comp_all _ _ _ fun y _ => ?_
    exact elt_of (b := true) (r' := [.none, .list ((every b).map encB), .none, .none, encB y, .int y.sum, .none]) rfl rfl (fun _ => rfl)
  simp only [g__law_every_below, ev_gSeq, ev_gSet, ev_gL, ev_gCons, ev_gNil, ev_bind, ev_tupB (show ([] : List PyData).length ≤ 16000000 by simp), ev_lift, ev_lstB (show [encB []].length ≤ 16000000 by simp), ev_thenS, List.set, ev_gFor, ev_gIt, ev_gV, ev_look0, ev_lookS, ev_maskD, ev_maskI, ev_maskO, ev_mask0, show seqD (encB b) = some (b.map PyData.int) from rfl, show [PyData.tuple []] = [encB []] from rfl, hf, ev_gRet, ev_gLc, ev_seqL, c1, Option.map_some, dSort_encK, c2, ev_endR]
  rfl
theorem left_zero {n : Nat} {b p : Bk} (hb : BkOk n b) (hp : BkOk n p) (hz : b.sum = 0) : leftZ b p = b := Classical.byContradiction fun ne => by
  have h1 := (left_sum hb hp ne).1
  have h2 := (sum_at _ (left_ok hb.len hp.len).pos).1
  omega
theorem take_zero {n : Nat} {D : Bk → Option Int} {b : Bk} (hb : BkOk n b) (hz : b.sum = 0) : ∀ (ps : List Pk) (a : Option Int), (∀ p ∈ ps, BkOk n p.1) → ps.foldl (take1 D b) a = a
  | [], _, _ => rfl
  | p :: ps, a, h => by
    rw [List.foldl_cons, show take1 D b a p = a by unfold take1; rw [if_neg (by rw [left_zero hb (h p List.mem_cons_self) hz]; simp)]]
    exact take_zero hb hz ps a fun q hq => h q (List.mem_cons_of_mem _ hq)
theorem m__law_asked_ {n : Nat} {ps : List Pk} {b : Bk} (hp : PsOk n ps) (hb : b.length = n) (h : BkS b) : m__law_asked [.list (ps.map encP), encB b] = .ok (encD (belowS b) (costV ps)) := by
  show endD (g__law_asked [.list (ps.map encP), encB b, .none, .none, .none, .none, .none]) = _
  have hsz : (belowS b).length ≤ 1000000 := by unfold belowS; rw [srt_len]; exact every_lenS h b [] (by simp)
  have hf : forD [.im, .dead, .ow, .dead, .dead, .dead, .dead] (turnD (tName 3) g__law_asked_b2) ((belowS b).map encB) [.list (ps.map encP), .none, encD [] (costV ps), .none, .none, .none, .none] = .nx [.list (ps.map encP), .none, encD (belowS b) (costV ps), .none, .none, .none, .none] := by
    refine forD_pre (ph := [.im, .dead, .ow, .dead, .dead, .dead, .dead]) encB (fun done => [.list (ps.map encP), .none, encD done (costV ps), .none, .none, .none, .none]) (belowS b) fun done here rest e => ?_
    obtain ⟨hnd, hlow⟩ := belowS_split e
    have hbl : Below here b := mem_belowS.mp (by rw [e]; simp)
    have hok : BkOk n here := by have := hbl.ok; rwa [hb] at this
    have hdl : done.length ≤ 1000000 := by have := congrArg List.length e; simp at this; omega
    have inner := inner_costs hp hb hbl hlow hdl (if here.sum = 0 then some 0 else none)
    rw [← asked_b1_eq] at inner
    have fin : ps.foldl (take1 (costZ ps) here) (if here.sum = 0 then some 0 else none) = costZ ps here := by
      by_cases hz : here.sum = 0
      · rw [if_pos hz, take_zero hok hz ps _ hp.bk, cost_zero hp hok hz]
      · rw [if_neg hz, cost_best hp hok hz]; rfl
    rw [fin] at inner
    have hs : dSum [encB here] = some (.int here.sum) := by unfold encB; rw [ev_sumT]
    have hv : (gIf (gTb (gB dEq (gL dSum (gCons (gV 3) gNil)) (gC (.int 0)))) (gC (.int 0)) (gC .none)) [.list (ps.map encP), .none, encD done (costV ps), encB here, .none, .none, .none] = .ok (optI (if here.sum = 0 then some 0 else none)) := by
      by_cases hz : here.sum = 0
      · simp [hs, hz, optI]
      · simp [hs, hz, optI]
    refine ⟨[.list (ps.map encP), .none, encD (done ++ [here]) (updV (costV ps) here (optI (costZ ps here))), encB here, .none, .none, .none], .inl ?_, ?_⟩
    · rw [ev_turn1]
      unfold g__law_asked_b2
      simp only [List.set]
      rw [ev_seq (putD_new (i := 2) (gk := gV 3) (r := [.list (ps.map encP), .none, encD done (costV ps), encB here, .none, .none, .none]) (d := optI (if here.sum = 0 then some 0 else none)) (b := here) (l := done) (v := costV ps) hv rfl rfl (by omega) hnd)]
      simp only [List.set, ev_gFor, ev_gIt, ev_gV, ev_look0, ev_lookS, ev_bind, ev_seqL, ev_lift, ev_thenS, ev_maskD, ev_maskI, ev_maskO, ev_mask0, inner]
    · simp only [ev_maskI, ev_maskD, ev_maskO, ev_mask0]
      rw [encD_congr (w := costV ps)]
      intro x _
      by_cases ex : x = here
      · subst ex; rw [updV_self]; rfl
      · exact updV_ne ex
  simp only [g__law_asked, ev_gSeq, ev_gSet, ev_gC, ev_thenS, List.set, ev_gFor, ev_gIt, ev_gF, ev_gCons, ev_gV, ev_gNil, ev_bind, ev_look0, ev_lookS, m__law_every_below_ h, ev_seqL, ev_lift, ev_maskD, ev_maskI, ev_maskO, ev_mask0, show PyData.dict [] = encD [] (costV ps) from rfl, hf, ev_gRet, ev_endR]
end PD
/-! PY: one thing more. -/
namespace PD
open PySem L2
theorem cut_pre {α : Type} (xs : List α) {w : Int} (h0 : 0 ≤ w) (h1 : w ≤ xs.length) : cutD xs none (some w) = xs.take w.toNat := by
  have e : HT.sIx xs.length xs.length (some w) = w.toNat := by
    show (if w < 0 then _ else min w.toNat xs.length) = _
    rw [if_neg (by omega)]; omega
  unfold cutD; rw [e]; simp [HT.sIx]
theorem cut_suf {α : Type} (xs : List α) {w : Int} (h0 : 0 ≤ w) (h1 : w ≤ xs.length) : cutD xs (some w) none = xs.drop w.toNat := by
  have e : HT.sIx xs.length 0 (some w) = w.toNat := by
    show (if w < 0 then _ else min w.toNat xs.length) = _
    rw [if_neg (by omega)]; omega
  unfold cutD; rw [e]
  show (xs.drop w.toNat).take (xs.length - w.toNat) = _
  rw [List.take_of_length_le (by simp)]
theorem set_cut {α : Type} (xs : List α) (i : Nat) (v : α) (h : i < xs.length) : xs.take i ++ [v] ++ xs.drop (i + 1) = xs.set i v := by
  rw [List.set_eq_take_append_cons_drop, if_pos h]; simp
/-- the basket with so many of a ware -/
def putB (b : Bk) (w v : Int) : Bk := b.set w.toNat v
def hasB (b : Bk) (w : Int) : Int := at0 b w.toNat
/-- b[:w] + (v,) + b[w+1:] -/
theorem splice {b : Bk} {w v : Int} {r : Rw} {gb gw gw1 gv : Rw → Rs PyData} (w0 : 0 ≤ w) (wn : w < b.length) (bl : b.length ≤ 1000) (hb : gb r = .ok (encB b)) (hw : gw r = .ok (.int w)) (hv : gv r = .ok (.int v)) (hw1 : gw1 r = .ok (.int (w + 1))) :
    (gB dAdd (gB dAdd (gSl gb gPn (gPs gw)) (gL tupD (gCons gv gNil))) (gSl gb (gPs gw1) gPn)) r = .ok (encB (putB b w v)) := by
  have e1 : cutD (b.map PyData.int) none (some w) = (b.take w.toNat).map PyData.int := by rw [cut_pre _ w0 (by simp; omega), List.map_take]
  have e2 : cutD (b.map PyData.int) (some (w + 1)) none = (b.drop (w.toNat + 1)).map PyData.int := by rw [cut_suf _ (by omega) (by simp; omega), List.map_drop, show (w + 1).toNat = w.toNat + 1 by omega]
  have e3 : dAdd (.tuple ((b.take w.toNat).map PyData.int)) (.tuple [.int v]) = some (.tuple ((b.take w.toNat ++ [v]).map PyData.int)) := by
    show (if _ then _ else _) = _
    rw [if_pos (sl_le (by simp; omega)), List.map_append]; rfl
  have e4 : dAdd (.tuple ((b.take w.toNat ++ [v]).map PyData.int)) (.tuple ((b.drop (w.toNat + 1)).map PyData.int)) = some (encB (putB b w v)) := by
    show (if _ then _ else _) = _
    rw [if_pos (sl_le (by simp; omega)), ← List.map_append, set_cut _ _ _ (by omega)]; rfl
  simp only [ev_gB, gSl, gPs, gPn, hb, hw, hv, hw1, ev_gL, ev_gCons, ev_gNil, ev_bind, intD, Option.map_some, ev_lift, encB, dSl, e1, e2, ev_tupB (show [PyData.int v].length ≤ 16000000 by simp), e3, e4]
theorem ix_has {b : Bk} {w : Int} (w0 : 0 ≤ w) (wn : w < b.length) : dIx (encB b) (.int w) = some (.int (hasB b w)) := by
  unfold encB hasB at0
  show atI _ _ = _
  unfold atI
  rw [ixN_in w0 (by simpa using wn)]
  have : w.toNat < b.length := by omega
  simp [this]
theorem putB_len (b : Bk) (w v : Int) : (putB b w v).length = b.length := by unfold putB; simp
theorem at_putB {b : Bk} {w v : Int} {i : Nat} (w0 : 0 ≤ w) (wn : w < b.length) : at0 (putB b w v) i = if i = w.toNat then v else at0 b i := by
  unfold at0 putB
  simp only [List.getD_eq_getElem?_getD]
  by_cases h : i = w.toNat
  · subst h; rw [List.getElem?_set_self (by omega), if_pos rfl]; rfl
  · rw [List.getElem?_set_ne (Ne.symm h), if_neg h]
theorem has_putB {b : Bk} {w v : Int} (w0 : 0 ≤ w) (wn : w < b.length) : hasB (putB b w v) w = v := by unfold hasB; rw [at_putB w0 wn, if_pos rfl]
theorem put_put (b : Bk) (w u v : Int) : putB (putB b w u) w v = putB b w v := by unfold putB; rw [List.set_set]
theorem put_has {b : Bk} {w : Int} (w0 : 0 ≤ w) (wn : w < b.length) : putB b w (hasB b w) = b := by
  refine ext_at (by rw [putB_len]) fun i hi => ?_
  rw [at_putB w0 wn]
  by_cases h : i = w.toNat
  · rw [if_pos h, h]; rfl
  · rw [if_neg h]
theorem goodB_put {n : Int} {b : Bk} {w v : Int} (hb : GoodB n b) (v0 : 0 ≤ v) (v9 : v ≤ 9) : GoodB n (putB b w v) := ⟨by rw [putB_len]; exact hb.len, fun x hx => by
  rcases List.mem_or_eq_of_mem_set hx with h | h
  · exact hb.in9 x h
  · rw [h]; omega⟩
theorem has_in {n : Int} {b : Bk} {w : Int} (hb : GoodB n b) (w0 : 0 ≤ w) (wn : w < n) : 0 ≤ hasB b w ∧ hasB b w ≤ 9 := by
  have hl := hb.len
  have hi : w.toNat < b.length := by omega
  have := hb.in9 b[w.toNat] (List.getElem_mem hi)
  unfold hasB at0
  simpa [List.getD_eq_getElem?_getD, hi] using this
/-! ### more costs no less -/
/-- none is dearer than all -/
def leO : Option Int → Option Int → Prop
  | _, none => True
  | none, some _ => False
  | some a, some b => a ≤ b
theorem leO_trans {a b c : Option Int} (h : leO a b) (k : leO b c) : leO a c := by
  cases a <;> cases b <;> cases c <;> simp only [leO] at * <;> first | trivial | omega
theorem leO_anti {a b : Option Int} (h : leO a b) (k : leO b a) : a = b := by
  cases a <;> cases b <;> simp only [leO] at * <;> first | rfl | contradiction | (congr 1; omega)
theorem leO_refl (a : Option Int) : leO a a := by cases a <;> simp [leO]
theorem isC_le {ps : List Pk} {a b : Bk} {c d : Option Int} (h : IsC ps a c) (k : IsC ps b d) (hl : a.length ≤ b.length) (le : ∀ i, i < a.length → at0 a i ≤ at0 b i) : leO c d := by
  have cov : ∀ qs, Cov b qs → Cov a qs := fun qs q i hi => by have := q i (by omega); have := le i hi; omega
  cases d with
  | none => cases c <;> trivial
  | some d =>
    obtain ⟨⟨qs, q1, q2, q3⟩, _⟩ := k
    cases c with
    | none => exact h qs q1 (cov qs q2)
    | some c => have := h.2 qs q1 (cov qs q2); show c ≤ d; omega
theorem cost_mono {n : Nat} {ps : List Pk} {a b : Bk} (hp : PsOk n ps) (ha : BkOk n a) (hb : BkOk n b) (le : ∀ i, i < n → at0 a i ≤ at0 b i) : leO (costZ ps a) (costZ ps b) :=
  isC_le (cost_is hp ha) (cost_is hp hb) (by rw [ha.len, hb.len]; exact Nat.le_refl _) (by rw [ha.len]; exact le)
theorem cost_put {n : Int} {ps : List Pk} {b : Bk} {w u v : Int} (hp : PsOk n.toNat ps) (hb : GoodB n b) (w0 : 0 ≤ w) (wn : w < n) (u0 : 0 ≤ u) (uv : u ≤ v) (v9 : v ≤ 9) : leO (costZ ps (putB b w u)) (costZ ps (putB b w v)) := by
  have hl := hb.len
  refine cost_mono hp (goodB_put hb u0 (by omega)).ok (goodB_put hb (by omega) v9).ok fun i _ => ?_
  rw [at_putB w0 (by omega), at_putB w0 (by omega)]
  split <;> omega
/-! ### the program's steps -/
section
variable {n : Int} {os : List Off} {b : Bk} {w : Int}
theorem m_with_one_ (w0 : 0 ≤ w) (wn : w < b.length) (bl : b.length ≤ 1000) : m_with_one [encB b, .int w] = .ok (encB (putB b w (hasB b w + 1))) := by
  show endD (g_with_one [encB b, .int w]) = _
  unfold g_with_one
  rw [ev_gRet, splice (b := b) (w := w) (v := hasB b w + 1) w0 wn bl rfl rfl (by simp only [ev_gB, ev_gV, ev_gC, ev_bind, ev_look0, ev_lookS, ix_has w0 wn, ev_lift, ev_addI]) (by simp)]
  rfl
theorem m_look_ware_ (w0 : 0 ≤ w) (wn : w < n) : m_look_ware [encL n os, .int w] = .ok .none := by
  show endD (g_look_ware [encL n os, .int w]) = _
  have : w ≤ n - 1 := by omega
  simp [g_look_ware, encL, w0, this]
theorem m_cost2_ (h : GoodL n os) (hb : GoodB n b) : m_cost_by [.list ((packsZ n os).map encP), encB b] = .ok (optI (costZ (packsZ n os) b)) := m_cost_by_ (packs_ok h) hb.ok (hb.s h.n3)
theorem m_sold_ (h : GoodL n os) (hb : GoodB n b) : m_sold [encL n os, encB b] = match costZ (packsZ n os) b with | some v => .ok (.int v) | none => .error (.exc "NotSold") := by
  show endD (g_sold [encL n os, encB b, .none]) = _
  cases e : costZ (packsZ n os) b with
  | none => simp [g_sold, m_all_packs_ h, m_cost2_ h hb, e, optI]
  | some v => simp [g_sold, m_all_packs_ h, m_cost2_ h hb, e, optI]
/-- one more of the ware costs nothing -/
noncomputable def isFree (ps : List Pk) (b : Bk) (w : Int) : Bool := decide (hasB b w ≠ 9) && decide (costZ ps (putB b w (hasB b w + 1)) = costZ ps b)
theorem m_is_free_ (h : GoodL n os) (hb : GoodB n b) (w0 : 0 ≤ w) (wn : w < n) : m_is_free [encL n os, encB b, .int w] = .ok (.bool (isFree (packsZ n os) b w)) := by
  show endD (g_is_free [encL n os, encB b, .int w]) = _
  have hl := hb.len
  have wb : w < b.length := by omega
  have h9 := has_in hb w0 wn
  unfold isFree
  by_cases e : hasB b w = 9
  · simp [g_is_free, ix_has w0 wb, e]
  · simp [g_is_free, ix_has w0 wb, e, m_all_packs_ h, m_with_one_ w0 wb (show b.length ≤ 1000 by have := h.n3; omega), m_cost2_ h hb, m_cost2_ h (goodB_put (w := w) hb (show 0 ≤ hasB b w + 1 by omega) (by omega))]
theorem m_one_more_ (h : GoodL n os) (hb : GoodB n b) (w0 : 0 ≤ w) (wn : w < n) : m_one_more [encL n os, encB b, .int w] = if hasB b w = 9 then .error (.exc "BadBasket") else match costZ (packsZ n os) b, costZ (packsZ n os) (putB b w (hasB b w + 1)) with
    | some u, some v => .ok (.int (v - u))
    | _, _ => .error (.exc "NotSold") := by
  show endD (g_one_more [encL n os, encB b, .int w, .none]) = _
  have hl := hb.len
  have wb : w < b.length := by omega
  have h9 := has_in hb w0 wn
  by_cases e : hasB b w = 9
  · rw [if_pos e]
    simp [g_one_more, m_looks h, m_look_basket_ hb, m_look_ware_ w0 wn, ix_has w0 wb, e]
  · rw [if_neg e]
    have k1 := m_sold_ h hb
    have k2 := m_sold_ h (goodB_put (w := w) hb (show 0 ≤ hasB b w + 1 by omega) (show hasB b w + 1 ≤ 9 by omega))
    cases e1 : costZ (packsZ n os) b with
    | none =>
      rw [e1] at k1
      simp [g_one_more, m_looks h, m_look_basket_ hb, m_look_ware_ w0 wn, ix_has w0 wb, e, k1]
    | some u =>
      rw [e1] at k1
      cases e2 : costZ (packsZ n os) (putB b w (hasB b w + 1)) with
      | none =>
        rw [e2] at k2
        simp [g_one_more, m_looks h, m_look_basket_ hb, m_look_ware_ w0 wn, ix_has w0 wb, e, k1, k2, m_with_one_ w0 wb (show b.length ≤ 1000 by have := h.n3; omega)]
      | some v =>
        rw [e2] at k2
        simp [g_one_more, m_looks h, m_look_basket_ hb, m_look_ware_ w0 wn, ix_has w0 wb, e, k1, k2, m_with_one_ w0 wb (show b.length ≤ 1000 by have := h.n3; omega)]
theorem rg_in {x : Int} (n0 : 0 ≤ n) (hx : x ∈ (List.range n.toNat).map fun (i : Nat) => (i : Int)) : 0 ≤ x ∧ x < n := by
  obtain ⟨i, hi, rfl⟩ := List.mem_map.mp hx
  have := List.mem_range.mp hi
  omega
/-- the numbers from 0 on -/
abbrev rgZ (n : Int) : List Int := (List.range n.toNat).map fun (i : Nat) => (i : Int)
theorem m_free_wares_ (h : GoodL n os) (hb : GoodB n b) : m_free_wares [encL n os, encB b] = match costZ (packsZ n os) b with | some _ => .ok (.list (((rgZ n).filter (isFree (packsZ n os) b)).map PyData.int)) | none => .error (.exc "NotSold") := by
  show endD (g_free_wares [encL n os, encB b, .none]) = _
  have k1 := m_sold_ h hb
  cases e1 : costZ (packsZ n os) b with
  | none => rw [e1] at k1; simp [g_free_wares, m_looks h, m_look_basket_ hb, k1]
  | some u =>
    rw [e1] at k1
    have n1 := h.n1
    have n3 := h.n3
    have hc : compD (eltD (tName 2) g_free_wares_c1 g_free_wares_e1 [encL n os, encB b, .none]) ((rgZ n).map PyData.int) = some (((rgZ n).filter (isFree (packsZ n os) b)).map PyData.int) := by
      refine comp_enc PyData.int (isFree (packsZ n os) b) PyData.int _ fun x hx => ?_
      obtain ⟨x0, xn⟩ := rg_in (by omega) hx
      exact elt_of (r' := [encL n os, encB b, .int x]) rfl (by simp [g_free_wares_c1, m_is_free_ h hb x0 xn]) (fun _ => rfl)
    simp only [g_free_wares, ev_gSeq, ev_gDrop, ev_gF, ev_gCons, ev_gV, ev_gNil, ev_bind, ev_look0, ev_lookS, m_looks h, m_look_basket_ hb, k1, ev_thenS, ev_gRet, ev_gLc, ev_gIt, ev_gB, ev_gC, show dIx (encL n os) (.int 0) = some (.int n) from rfl, ev_lift, ev_rngB (show 0 ≤ n by omega) (show n ≤ 16000000 by omega), hc, Option.map_some, ev_endR]
theorem goodB_alone {v : Int} (n1 : 1 ≤ n) (v0 : 0 ≤ v) (v9 : v ≤ 9) : GoodB n (aloneZ n w v) := ⟨by rw [aloneZ_len]; omega, fun x hx => by
  unfold aloneZ at hx
  obtain ⟨i, _, rfl⟩ := List.mem_map.mp hx
  split <;> omega⟩
theorem m_price_row_ (h : GoodL n os) (w0 : 0 ≤ w) (wn : w < n) : m_price_row [encL n os, .int w] = .ok (.list ((rgZ 10).map fun k => optI (costZ (packsZ n os) (aloneZ n w k)))) := by
  show endD (g_price_row [encL n os, .int w, .none]) = _
  have n1 := h.n1
  have n3 := h.n3
  have hc : compD (eltD (tName 2) gYes g_price_row_e1 [encL n os, .int w, .none]) ((rgZ 10).map PyData.int) = some ((rgZ 10).map fun k => optI (costZ (packsZ n os) (aloneZ n w k))) := by
    refine comp_all _ _ _ fun k hk => ?_
    obtain ⟨k0, kn⟩ := rg_in (by decide) hk
    refine elt_of (b := true) (r' := [encL n os, .int w, .int k]) rfl rfl (fun _ => ?_)
    simp only [g_price_row_e1, ev_gF, ev_gCons, ev_gB, ev_gV, ev_gC, ev_gNil, ev_bind, ev_look0, ev_lookS, m_all_packs_ h, show dIx (encL n os) (.int 0) = some (.int n) from rfl, ev_lift, m_alone_ w k (show 0 ≤ n by omega) (show n ≤ 1000 by omega), m_cost2_ h (goodB_alone (w := w) n1 k0 (show k ≤ 9 by omega))]
  simp only [g_price_row, ev_gSeq, ev_gDrop, ev_gF, ev_gCons, ev_gV, ev_gNil, ev_bind, ev_look0, ev_lookS, m_looks h, m_look_ware_ w0 wn, ev_thenS, ev_gRet, ev_gLc, ev_gIt, ev_gB, ev_gC, ev_addI, ev_lift, show (9 : Int) + 1 = 10 from rfl, ev_rngB (show (0 : Int) ≤ 10 by decide) (show (10 : Int) ≤ 16000000 by decide), hc, Option.map_some, ev_endR]
end
end PD
/-! PZ: baskets stretched. -/
namespace PD
open PySem L2
section
variable {n : Int} {os : List Off} {ps : List Pk} {b : Bk} {w : Int}
noncomputable def upW (ps : List Pk) (w : Int) : Nat → Bk → Bk
  | 0, b => b
  | k + 1, b => if isFree ps b w = true then upW ps w k (putB b w (hasB b w + 1)) else b
noncomputable def strZ (ps : List Pk) (b : Bk) (w : Int) : Bk := upW ps w (9 - hasB b w).toNat b
/-- r is b with as many more of w as cost nothing -/
def StrP (ps : List Pk) (b : Bk) (w : Int) (r : Bk) : Prop := ∃ M, r = putB b w M ∧ hasB b w ≤ M ∧ M ≤ 9 ∧ costZ ps (putB b w M) = costZ ps b ∧ (M = 9 ∨ costZ ps (putB b w (M + 1)) ≠ costZ ps b)
theorem StrP.uniq (hp : PsOk n.toNat ps) (hb : GoodB n b) (w0 : 0 ≤ w) (wn : w < n) {r s : Bk} (h : StrP ps b w r) (k : StrP ps b w s) : r = s := by
  have h9 := has_in hb w0 wn
  have hl := hb.len
  have key : ∀ M N : Int, hasB b w ≤ M → M < N → N ≤ 9 → costZ ps (putB b w N) = costZ ps b → ¬ (M = 9 ∨ costZ ps (putB b w (M + 1)) ≠ costZ ps b) := fun M N a1 a2 a3 a4 z => by
    rcases z with z | z
    · omega
    · refine z (leO_anti ?_ ?_)
      · rw [← a4]; exact cost_put hp hb w0 wn (by omega) (by omega) a3
      · have := cost_put (ps := ps) (u := hasB b w) (v := M + 1) hp hb w0 wn (by omega) (by omega) (by omega)
        rwa [put_has w0 (by omega)] at this
  obtain ⟨M, rfl, m1, m2, m3, m4⟩ := h
  obtain ⟨N, rfl, n1, n2, n3, n4⟩ := k
  rcases Int.lt_trichotomy M N with z | z | z
  · exact absurd m4 (key M N m1 z n2 n3)
  · rw [z]
  · exact absurd n4 (key N M n1 z m2 m3)
theorem upW_str (w0 : 0 ≤ w) (wn : w < n) : ∀ (k : Nat) (b : Bk), GoodB n b → (9 - hasB b w).toNat = k → StrP ps b w (upW ps w k b)
  | 0, b, hb, hk => by
    have h9 := has_in hb w0 wn
    have hl := hb.len
    show StrP ps b w b
    exact ⟨hasB b w, (put_has w0 (by omega)).symm, Int.le_refl _, by omega, by rw [put_has w0 (by omega)], .inl (by omega)⟩
  | k + 1, b, hb, hk => by
    have h9 := has_in hb w0 wn
    have hl := hb.len
    unfold upW
    cases e : isFree ps b w with
    | false =>
      rw [if_neg (by simp)]
      refine ⟨hasB b w, (put_has w0 (by omega)).symm, Int.le_refl _, by omega, by rw [put_has w0 (by omega)], .inr fun z => ?_⟩
      unfold isFree at e
      rw [z] at e
      simp at e
      omega
    | true =>
      rw [if_pos rfl]
      unfold isFree at e
      simp only [Bool.and_eq_true, decide_eq_true_eq] at e
      have hh : hasB (putB b w (hasB b w + 1)) w = hasB b w + 1 := has_putB w0 (by omega)
      obtain ⟨M, h1, h2, h3, h4, h5⟩ := upW_str w0 wn k (putB b w (hasB b w + 1)) (goodB_put hb (by omega) (by omega)) (by rw [hh]; omega)
      rw [hh] at h2
      rw [put_put] at h1 h4 h5
      rw [e.2] at h4 h5
      exact ⟨M, h1, by omega, h3, h4, h5⟩
theorem strZ_str (hb : GoodB n b) (w0 : 0 ≤ w) (wn : w < n) : StrP ps b w (strZ ps b w) := upW_str w0 wn _ b hb rfl
theorem strZ_good (hb : GoodB n b) (w0 : 0 ≤ w) (wn : w < n) : GoodB n (strZ ps b w) := by
  obtain ⟨M, h1, h2, h3, _⟩ := strZ_str (ps := ps) hb w0 wn
  have := has_in hb w0 wn
  rw [h1]; exact goodB_put hb (by omega) h3
theorem strZ_cost (hb : GoodB n b) (w0 : 0 ≤ w) (wn : w < n) : costZ ps (strZ ps b w) = costZ ps b := by
  obtain ⟨M, h1, _, _, h4, _⟩ := strZ_str (ps := ps) hb w0 wn
  rw [h1]; exact h4
theorem fold_good : ∀ (ws : List Int) {b : Bk}, (∀ x ∈ ws, 0 ≤ x ∧ x < n) → GoodB n b → GoodB n (ws.foldl (strZ ps) b) ∧ costZ ps (ws.foldl (strZ ps) b) = costZ ps b
  | [], _, _, hb => ⟨hb, rfl⟩
  | x :: ws, b, h, hb => by
    obtain ⟨x0, xn⟩ := h x List.mem_cons_self
    obtain ⟨h1, h2⟩ := fold_good ws (b := strZ ps b x) (fun y hy => h y (List.mem_cons_of_mem _ hy)) (strZ_good hb x0 xn)
    exact ⟨h1, h2.trans (strZ_cost hb x0 xn)⟩
theorem while_str (h : GoodL n os) (w0 : 0 ≤ w) (wn : w < n) : ∀ (k K : Nat) (b : Bk), GoodB n b → (9 - hasB b w).toNat = k → k < K → whileD [.im, .im, .im] g_stretched_c1 g_stretched_b1 K [encL n os, encB b, .int w] = .nx [encL n os, encB (upW (packsZ n os) w k b), .int w]
  | k, 0, _, _, _, hK => absurd hK (by omega)
  | k, K + 1, b, hb, hk, hK => by
    have hl := hb.len
    have h9 := has_in hb w0 wn
    have hc : g_stretched_c1 [encL n os, encB b, .int w] = .ok (isFree (packsZ n os) b w) := by simp [g_stretched_c1, m_is_free_ h hb w0 wn]
    unfold whileD
    rw [hc, ev_thenS]
    cases e : isFree (packsZ n os) b w with
    | false =>
      rw [if_neg (by simp)]
      cases k with
      | zero => rfl
      | succ k => unfold upW; rw [e, if_neg (by simp)]
    | true =>
      rw [if_pos rfl]
      have e9 : hasB b w ≠ 9 := by
        unfold isFree at e
        simp only [Bool.and_eq_true, decide_eq_true_eq] at e
        exact e.1
      cases k with
      | zero => omega
      | succ k =>
        have hb1 : g_stretched_b1 [encL n os, encB b, .int w] = .nx [encL n os, encB (putB b w (hasB b w + 1)), .int w] := by
          simp only [g_stretched_b1, ev_gSet, ev_gF, ev_gCons, ev_gV, ev_gNil, ev_bind, ev_look0, ev_lookS, m_with_one_ (b := b) w0 (show w < b.length by omega) (show b.length ≤ 1000 by have := h.n3; omega), ev_thenS, List.set]
        have hh : hasB (putB b w (hasB b w + 1)) w = hasB b w + 1 := has_putB w0 (by omega)
        rw [hb1]
        show whileD _ _ _ K [encL n os, encB (putB b w (hasB b w + 1)), .int w] = _
        rw [while_str h w0 wn k K _ (goodB_put hb (by omega) (by omega)) (by rw [hh]; omega) (by omega)]
        conv => rhs; unfold upW
        rw [e, if_pos rfl]
theorem m_stretched_ (h : GoodL n os) (hb : GoodB n b) : m_stretched [encL n os, encB b] = match costZ (packsZ n os) b with | some _ => .ok (encB ((rgZ n).foldl (strZ (packsZ n os)) b)) | none => .error (.exc "NotSold") := by
  show endD (g_stretched [encL n os, encB b, .none]) = _
  have k1 := m_sold_ h hb
  cases e1 : costZ (packsZ n os) b with
  | none => rw [e1] at k1; simp [g_stretched, m_looks h, m_look_basket_ hb, k1]
  | some u =>
    rw [e1] at k1
    have n1 := h.n1
    have n3 := h.n3
    have hf : forD [.im, .im, .dead] (turnD (tName 2) g_stretched_b2) ((rgZ n).map PyData.int) [encL n os, encB b, .none] = .nx [encL n os, encB ((rgZ n).foldl (strZ (packsZ n os)) b), .none] := by
      refine forD_pre (ph := [.im, .im, .dead]) PyData.int (fun done => [encL n os, encB (done.foldl (strZ (packsZ n os)) b), .none]) (rgZ n) fun done x rest e => ?_
      have hin : ∀ y ∈ done, 0 ≤ y ∧ y < n := fun y hy => rg_in (by omega) (by show y ∈ rgZ n; rw [e]; simp [hy])
      obtain ⟨x0, xn⟩ := rg_in (n := n) (x := x) (by omega) (by show x ∈ rgZ n; rw [e]; simp)
      have hg := (fold_good (ps := packsZ n os) done hin hb).1
      have h9 := has_in hg x0 xn
      refine ⟨[encL n os, encB ((done ++ [x]).foldl (strZ (packsZ n os)) b), .int x], .inl ?_, rfl⟩
      rw [ev_turn1]
      show whileD [.im, .im, .im] g_stretched_c1 g_stretched_b1 1000 [encL n os, encB (done.foldl (strZ (packsZ n os)) b), .int x] = _
      rw [while_str h x0 xn _ 1000 _ hg rfl (by omega), List.foldl_append]
      rfl
    simp only [g_stretched, ev_gSeq, ev_gDrop, ev_gF, ev_gCons, ev_gV, ev_gNil, ev_bind, ev_look0, ev_lookS, m_looks h, m_look_basket_ hb, k1, ev_thenS, ev_gFor, ev_gIt, ev_gB, ev_gC, show dIx (encL n os) (.int 0) = some (.int n) from rfl, ev_lift, ev_rngB (show 0 ≤ n by omega) (show n ≤ 16000000 by omega), ev_maskI, ev_maskD, ev_mask0, hf, ev_gRet, ev_endR]
/-! ### the law's way -/
open Classical in
noncomputable def downS (ps : List Pk) (b : Bk) (w : Int) (ms : List Int) : Bk := match ms.find? fun x => decide (costZ ps (putB b w x) = costZ ps b) with
  | some x => putB b w x
  | none => b
abbrev dnZ (k : Nat) : List Int := (List.range k).map fun (i : Nat) => 9 - (i : Int)
theorem downD_eq (k : Nat) : downD 9 k = (dnZ k).map PyData.int := by unfold downD dnZ; rw [List.map_map]; rfl
theorem mem_dn {k : Nat} {x : Int} : x ∈ dnZ k ↔ 9 - (k : Int) < x ∧ x ≤ 9 := by
  unfold dnZ
  rw [List.mem_map]
  constructor
  · rintro ⟨i, hi, rfl⟩; have := List.mem_range.mp hi; omega
  · rintro ⟨h1, h2⟩; exact ⟨(9 - x).toNat, List.mem_range.mpr (by omega), by omega⟩
theorem dn_split {k : Nat} {done rest : List Int} {x : Int} (e : dnZ k = done ++ x :: rest) : (∀ y ∈ done, x < y) ∧ (∀ y, x < y → y ≤ 9 → y ∈ done) := by
  have pw : (dnZ k).Pairwise fun a b => b < a := by
    unfold dnZ
    rw [List.pairwise_map]
    exact List.pairwise_lt_range.imp fun h => by omega
  rw [e, List.pairwise_append] at pw
  obtain ⟨_, p2, p3⟩ := pw
  rw [List.pairwise_cons] at p2
  refine ⟨fun y hy => p3 y hy x List.mem_cons_self, fun y h1 h2 => ?_⟩
  have hx := mem_dn.mp (show x ∈ dnZ k by rw [e]; simp)
  have hy : y ∈ dnZ k := mem_dn.mpr ⟨by omega, h2⟩
  rw [e] at hy
  rcases List.mem_append.mp hy with z | z
  · exact z
  · rcases List.mem_cons.mp z with z | z
    · omega
    · have := p2.1 y z; omega
theorem down_str (hb : GoodB n b) (w0 : 0 ≤ w) (wn : w < n) : StrP ps b w (downS ps b w (dnZ (9 - hasB b w).toNat)) := by
  have h9 := has_in hb w0 wn
  have hl := hb.len
  unfold downS
  cases e : (dnZ (9 - hasB b w).toNat).find? fun x => decide (costZ ps (putB b w x) = costZ ps b) with
  | none =>
    have hn := List.find?_eq_none.mp e
    show StrP ps b w b
    refine ⟨hasB b w, (put_has w0 (by omega)).symm, Int.le_refl _, by omega, by rw [put_has w0 (by omega)], ?_⟩
    by_cases h : hasB b w = 9
    · exact .inl h
    · refine .inr fun z => ?_
      have := hn (hasB b w + 1) (mem_dn.mpr ⟨by omega, by omega⟩)
      simp [z] at this
  | some x =>
    obtain ⟨h1, done, rest, h2, h3⟩ := List.find?_eq_some_iff_append.mp e
    have hx := mem_dn.mp (show x ∈ dnZ (9 - hasB b w).toNat by rw [h2]; simp)
    refine ⟨x, rfl, by omega, hx.2, by simpa using h1, ?_⟩
    by_cases h : x = 9
    · exact .inl h
    · refine .inr fun z => ?_
      have := h3 (x + 1) ((dn_split h2).2 (x + 1) (by omega) (by omega))
      simp [z] at this
theorem rngDn_9 {v : Int} (h0 : 0 ≤ v) (h9 : v ≤ 9) : rngDn (.int 9) (.int v) = some ((dnZ (9 - v).toNat).map PyData.int) := by
  rw [← downD_eq]
  exact if_pos ⟨⟨by decide, by decide, by omega, by omega⟩, sl_le (by omega)⟩
theorem st_some {l : List Bk} {c : Bk} {x m y : Int} (x0 : 0 ≤ x) (hxl : x < c.length) (bl : c.length ≤ 1000) (hy : m < y) : g__law_stretch_b1 [encD l (costV ps), encB (putB c x y), .int x, .int m, .none] = .nx [encD l (costV ps), encB (putB c x y), .int x, .int m, encB (putB (putB c x y) x m)] := by
  have hyl : x < (putB c x y).length := by rw [putB_len]; omega
  unfold g__law_stretch_b1
  rw [ev_seq (r' := [encD l (costV ps), encB (putB c x y), .int x, .int m, encB (putB (putB c x y) x m)]) (by rw [ev_gSet, splice (b := putB c x y) (w := x) (v := m) x0 hyl (by rw [putB_len]; omega) rfl rfl rfl (by simp)]; rfl)]
  simp [ix_has x0 hyl, has_putB x0 hxl, show ¬ (y < m) by omega]
theorem st_none {l : List Bk} {c : Bk} {x m : Int} (x0 : 0 ≤ x) (hxl : x < c.length) (bl : c.length ≤ 1000) (hm : hasB c x < m) (h1 : putB c x m ∈ l) (h2 : c ∈ l) : g__law_stretch_b1 [encD l (costV ps), encB c, .int x, .int m, .none] = .nx [encD l (costV ps), encB (if costZ ps (putB c x m) = costZ ps c then putB c x m else c), .int x, .int m, encB (putB c x m)] := by
  have g1 : dDget (encD l (costV ps)) (encB (putB c x m)) = some (optI (costZ ps (putB c x m))) := dget_encD h1
  have g2 : dDget (encD l (costV ps)) (encB c) = some (optI (costZ ps c)) := dget_encD h2
  unfold g__law_stretch_b1
  rw [ev_seq (r' := [encD l (costV ps), encB c, .int x, .int m, encB (putB c x m)]) (by rw [ev_gSet, splice (b := c) (w := x) (v := m) x0 hxl bl rfl rfl rfl (by simp)]; rfl)]
  by_cases z : costZ ps (putB c x m) = costZ ps c
  · simp [ix_has x0 hxl, hm, g1, g2, z]
  · simp [ix_has x0 hxl, hm, g1, g2, z]
theorem st_down {c : Bk} {x m : Int} {done : List Int} : downS ps c x (done ++ [m]) = match done.find? fun y => decide (costZ ps (putB c x y) = costZ ps c) with | some y => putB c x y | none => if costZ ps (putB c x m) = costZ ps c then putB c x m else c := by
  unfold downS
  rw [List.find?_append]
  cases done.find? fun y => decide (costZ ps (putB c x y) = costZ ps c) with
  | some y => rfl
  | none =>
    by_cases z : costZ ps (putB c x m) = costZ ps c
    · simp [z]
    · simp [z]
theorem st_loop {l : List Bk} {c : Bk} {x : Int} (n3 : n ≤ 3) (hl : ∀ c, GoodB n c → c ∈ l) (hc : GoodB n c) (x0 : 0 ≤ x) (xn : x < n) : forD [.im, .im, .im, .dead, .dead] (turnD (tName 3) g__law_stretch_b1) ((dnZ (9 - hasB c x).toNat).map PyData.int) [encD l (costV ps), encB c, .int x, .none, .none] = .nx [encD l (costV ps), encB (downS ps c x (dnZ (9 - hasB c x).toNat)), .int x, .none, .none] := by
  have h9 := has_in hc x0 xn
  have hcl := hc.len
  refine forD_pre (ph := [.im, .im, .im, .dead, .dead]) PyData.int (fun done => [encD l (costV ps), encB (downS ps c x done), .int x, .none, .none]) _ fun done m rest e => ?_
  have hm := mem_dn.mp (show m ∈ dnZ (9 - hasB c x).toNat by rw [e]; simp)
  have hdn := (dn_split e).1
  have hS : downS ps c x done = match done.find? fun y => decide (costZ ps (putB c x y) = costZ ps c) with | some y => putB c x y | none => c := rfl
  have hxl : x < c.length := by omega
  rw [st_down, hS, ev_turn1]
  cases ef : done.find? fun y => decide (costZ ps (putB c x y) = costZ ps c) with
  | some y => exact ⟨_, .inl (st_some x0 hxl (by omega) (hdn y (List.mem_of_find?_eq_some ef))), rfl⟩
  | none => exact ⟨_, .inl (st_none (c := c) x0 hxl (by omega) (by omega) (hl _ (goodB_put hc (by omega) hm.2)) (hl _ hc)), rfl⟩
theorem st_turn {l : List Bk} {c : Bk} {x : Int} (hp : PsOk n.toNat ps) (n3 : n ≤ 3) (hl : ∀ c, GoodB n c → c ∈ l) (hc : GoodB n c) (x0 : 0 ≤ x) (xn : x < n) : g__law_stretch_b2 [encD l (costV ps), encB c, .int x, .none, .none] = .nx [encD l (costV ps), encB (strZ ps c x), .int x, .none, .none] := by
  have h9 := has_in hc x0 xn
  have hcl := hc.len
  have hi := st_loop (ps := ps) n3 hl hc x0 xn
  have hr := rngDn_9 h9.1 h9.2
  have hu : downS ps c x (dnZ (9 - hasB c x).toNat) = strZ ps c x := (down_str hc x0 xn).uniq hp hc x0 xn (strZ_str hc x0 xn)
  rw [hu] at hi
  unfold g__law_stretch_b2
  simp only [ev_gFor, ev_gIt2, ev_gC, ev_gB, ev_gV, ev_bind, ev_look0, ev_lookS, ix_has x0 (show x < c.length by omega), ev_lift, hr, ev_thenS, ev_maskI, ev_maskD, ev_mask0, hi]
/-- a walk, by what is walked -/
theorem ev_forI {ph : List Fl} {gi : Rw → Rs (List PyData)} {gt : PyData → Rw → Option Rw} {gb : Rw → SR} {r : Rw} {ds : List PyData} (h : gi r = .ok ds) : gFor ph gi gt gb r = forD ph (turnD gt gb) ds (mask ph r) := by unfold gFor; rw [h]; rfl
theorem rng_of {g : Rw → Rs PyData} {r : Rw} {n : Int} (h : g r = .ok (.int n)) (h0 : 0 ≤ n) (hn : n ≤ 16000000) : gIt rng1 g r = .ok ((rgZ n).map PyData.int) := by
  rw [ev_gIt, h, ev_bind, ev_rngB h0 hn]; rfl
theorem len_of {g : Rw → Rs PyData} {r : Rw} {b : Bk} {n : Int} (h : g r = .ok (encB b)) (hl : (b.length : Int) = n) : gL dLen (gCons g gNil) r = .ok (.int n) := by
  rw [ev_gL, ev_gCons, h, ev_bind, ev_gNil, ev_bind, ev_bind, show dLen [encB b] = some (.int ((b.map PyData.int).length : Int)) from rfl, List.length_map, hl]; rfl
theorem m__law_stretch_ {l : List Bk} (hp : PsOk n.toNat ps) (n1 : 1 ≤ n) (n3 : n ≤ 3) (hl : ∀ c, GoodB n c → c ∈ l) (hb : GoodB n b) : m__law_stretch [encD l (costV ps), encB b] = .ok (encB ((rgZ n).foldl (strZ ps) b)) := by
  show endD (g__law_stretch [encD l (costV ps), encB b, .none, .none, .none]) = _
  have hf : forD [.im, .im, .dead, .dead, .dead] (turnD (tName 2) g__law_stretch_b2) ((rgZ n).map PyData.int) [encD l (costV ps), encB b, .none, .none, .none] = .nx [encD l (costV ps), encB ((rgZ n).foldl (strZ ps) b), .none, .none, .none] := by
    refine forD_pre (ph := [.im, .im, .dead, .dead, .dead]) PyData.int (fun done => [encD l (costV ps), encB (done.foldl (strZ ps) b), .none, .none, .none]) (rgZ n) fun done x rest e => ?_
    have hin : ∀ y ∈ done, 0 ≤ y ∧ y < n := fun y hy => rg_in (by omega) (by show y ∈ rgZ n; rw [e]; simp [hy])
    obtain ⟨x0, xn⟩ := rg_in (n := n) (x := x) (by omega) (by show x ∈ rgZ n; rw [e]; simp)
    refine ⟨[encD l (costV ps), encB ((done ++ [x]).foldl (strZ ps) b), .int x, .none, .none], .inl ?_, rfl⟩
    rw [ev_turn1, List.foldl_append]
    exact st_turn hp n3 hl (fold_good (ps := ps) done hin hb).1 x0 xn
  have hF := ev_forI (ph := [.im, .im, .dead, .dead, .dead]) (gt := tName 2) (gb := g__law_stretch_b2) (rng_of (len_of (g := gV 1) (r := [encD l (costV ps), encB b, .none, .none, .none]) (b := b) (n := n) rfl hb.len) (show 0 ≤ n by omega) (show n ≤ 16000000 by omega))
  unfold g__law_stretch
  rw [ev_seq (hF.trans hf)]
  rfl
end
end PD
namespace PD
open PySem L2
/-! PB: drawn lists and baskets; loops that change nothing; refusals as words. -/
theorem forD_same {a : Type} {ph : List Fl} {step : PyData → Rw → SR} (enc : a → PyData) (S : Rw) (xs : List a) (H : ∀ x ∈ xs, ∃ r, (step (enc x) S = .nx r ∨ step (enc x) S = .ct r) ∧ mask ph r = S) : forD ph step (xs.map enc) S = .nx S := by
  have := forD_find (ph := ph) (step := step) enc S (fun _ => false) (fun _ => .none) xs (fun x hx z => by cases z) (fun x hx _ => H x hx)
  rw [this, List.find?_eq_none.mpr (by simp)]
theorem fd7 (i : Int) : dFdiv (.int i) (.int 7) = some (.int (i / 7)) := ev_fdiv ⟨by decide, by decide⟩
theorem fd5 (i : Int) : dFdiv (.int i) (.int 5) = some (.int (i / 5)) := ev_fdiv ⟨by decide, by decide⟩
theorem fd11 (i : Int) : dFdiv (.int i) (.int 11) = some (.int (i / 11)) := ev_fdiv ⟨by decide, by decide⟩
theorem fd13 (i : Int) : dFdiv (.int i) (.int 13) = some (.int (i / 13)) := ev_fdiv ⟨by decide, by decide⟩
theorem fd17 (i : Int) : dFdiv (.int i) (.int 17) = some (.int (i / 17)) := ev_fdiv ⟨by decide, by decide⟩
theorem fd19 (i : Int) : dFdiv (.int i) (.int 19) = some (.int (i / 19)) := ev_fdiv ⟨by decide, by decide⟩
theorem md2 (i : Int) : dMod (.int i) (.int 2) = some (.int (i % 2)) := ev_mod (by decide)
theorem md3 (i : Int) : dMod (.int i) (.int 3) = some (.int (i % 3)) := ev_mod (by decide)
theorem md4 (i : Int) : dMod (.int i) (.int 4) = some (.int (i % 4)) := ev_mod (by decide)
theorem md5 (i : Int) : dMod (.int i) (.int 5) = some (.int (i % 5)) := ev_mod (by decide)
theorem mem_rgZ {n x : Int} : x ∈ rgZ n ↔ 0 ≤ x ∧ x < n := by
  unfold rgZ
  rw [List.mem_map]
  constructor
  · rintro ⟨i, hi, rfl⟩; have := List.mem_range.mp hi; omega
  · rintro ⟨h1, h2⟩; exact ⟨x.toNat, List.mem_range.mpr (by omega), by omega⟩
theorem rgZ_len (n : Int) : (rgZ n).length = n.toNat := by simp [rgZ]
/-! ### baskets -/
def thingsZ (s n m : Int) : Bk := (rgZ n).map fun k => seedZ s k / 7 % (m + 1)
theorem m_things_ (s : Int) {n m : Int} (n0 : 0 ≤ n) (n3 : n ≤ 1000) (m0 : 0 ≤ m) : m__law_things [.int s, .int n, .int m] = .ok (encB (thingsZ s n m)) := by
  show endD (g__law_things [.int s, .int n, .int m, .none]) = _
  have hc : compD (eltD (tName 3) gYes g__law_things_e1 [.int s, .int n, .int m, .none]) ((rgZ n).map PyData.int) = some ((rgZ n).map fun k => PyData.int (seedZ s k / 7 % (m + 1))) := by
    refine comp_all _ _ _ fun k _ => ?_
    refine elt_of (b := true) (r' := [.int s, .int n, .int m, .int k]) rfl rfl fun _ => ?_
    simp (implicitDefEqProofs := false) only [g__law_things_e1, ev_gSeq, ev_gSet, ev_gIfS, ev_gTb, ev_gTr, ev_gB, ev_gU, ev_gL, ev_gCons, ev_gNil, ev_gV, ev_gC, ev_gF, ev_gRet, ev_gDrop, ev_gFor, ev_gIt, ev_gIt2, ev_gLc, ev_gIf, ev_gAndT, ev_gOrT, ev_gNotT, ev_gAndV, ev_gOrV, ev_gNotV, ev_gChain, ev_gRaise, ev_bind, ev_bindE, ev_lift, ev_thenS, ev_thenE, ev_look0, ev_lookS, ev_boolD, ev_truB, List.set_cons_zero, List.set_cons_succ, ev_maskD, ev_maskI, ev_maskO, ev_mask0, ev_seqL, ev_seqT, ev_ixL, ev_ixT, ev_addI, ev_eqI, ev_neI, ev_endR, ev_endN, ev_endE, Option.map_some, Bool.false_eq_true, if_false, if_true, reduceIte, Bool.not_true, Bool.not_false, m_seed, fd7, ev_mod (show 0 < m + 1 by omega)]
  simp (implicitDefEqProofs := false) only [g__law_things, ev_gSeq, ev_gSet, ev_gIfS, ev_gTb, ev_gTr, ev_gB, ev_gU, ev_gL, ev_gCons, ev_gNil, ev_gV, ev_gC, ev_gF, ev_gRet, ev_gDrop, ev_gFor, ev_gIt, ev_gIt2, ev_gLc, ev_gIf, ev_gAndT, ev_gOrT, ev_gNotT, ev_gAndV, ev_gOrV, ev_gNotV, ev_gChain, ev_gRaise, ev_bind, ev_bindE, ev_lift, ev_thenS, ev_thenE, ev_look0, ev_lookS, ev_boolD, ev_truB, List.set_cons_zero, List.set_cons_succ, ev_maskD, ev_maskI, ev_maskO, ev_mask0, ev_seqL, ev_seqT, ev_ixL, ev_ixT, ev_addI, ev_eqI, ev_neI, ev_endR, ev_endN, ev_endE, Option.map_some, Bool.false_eq_true, if_false, if_true, reduceIte, Bool.not_true, Bool.not_false, ev_rngB n0 (show n ≤ 16000000 by omega), hc, dTuple]
  simp (implicitDefEqProofs := false) only [encB, thingsZ, List.map_map]
  rfl
theorem things_good (s : Int) {n m : Int} (n0 : 0 ≤ n) (m0 : 0 ≤ m) (m9 : m ≤ 9) : GoodB n (thingsZ s n m) := by
  refine ⟨by unfold thingsZ; rw [List.length_map, rgZ_len]; omega, fun x hx => ?_⟩
  unfold thingsZ at hx
  obtain ⟨k, _, rfl⟩ := List.mem_map.mp hx
  have h1 := Int.emod_nonneg (seedZ s k / 7) (show m + 1 ≠ 0 by omega)
  have h2 := Int.emod_lt_of_pos (seedZ s k / 7) (show 0 < m + 1 by omega)
  omega
def basketZ (s n : Int) : Bk := (rgZ n).map fun k => seedZ s k / 7 % (if s / 5 % 2 = 0 then 10 else 4)
theorem atI_pick2 {a b i : Int} (h0 : 0 ≤ i) (h3 : i < 2) : atI [PyData.int a, .int b] i = some (.int (if i = 0 then a else b)) := by
  have : i = 0 ∨ i = 1 := by omega
  rcases this with rfl | rfl <;> rfl
theorem m_basket_ (s : Int) {n : Int} (n0 : 0 ≤ n) (n3 : n ≤ 1000) : m__law_basket [.int s, .int n] = .ok (encB (basketZ s n)) := by
  show endD (g__law_basket [.int s, .int n, .none]) = _
  have hp : (0 : Int) < (if s / 5 % 2 = 0 then 10 else 4) := by split <;> decide
  have hc : compD (eltD (tName 2) gYes g__law_basket_e1 [.int s, .int n, .none]) ((rgZ n).map PyData.int) = some ((rgZ n).map fun k => PyData.int (seedZ s k / 7 % (if s / 5 % 2 = 0 then 10 else 4))) := by
    refine comp_all _ _ _ fun k _ => ?_
    refine elt_of (b := true) (r' := [.int s, .int n, .int k]) rfl rfl fun _ => ?_
    simp (implicitDefEqProofs := false) only [g__law_basket_e1, ev_gSeq, ev_gSet, ev_gIfS, ev_gTb, ev_gTr, ev_gB, ev_gU, ev_gL, ev_gCons, ev_gNil, ev_gV, ev_gC, ev_gF, ev_gRet, ev_gDrop, ev_gFor, ev_gIt, ev_gIt2, ev_gLc, ev_gIf, ev_gAndT, ev_gOrT, ev_gNotT, ev_gAndV, ev_gOrV, ev_gNotV, ev_gChain, ev_gRaise, ev_bind, ev_bindE, ev_lift, ev_thenS, ev_thenE, ev_look0, ev_lookS, ev_boolD, ev_truB, List.set_cons_zero, List.set_cons_succ, ev_maskD, ev_maskI, ev_maskO, ev_mask0, ev_seqL, ev_seqT, ev_ixL, ev_ixT, ev_addI, ev_eqI, ev_neI, ev_endR, ev_endN, ev_endE, Option.map_some, Bool.false_eq_true, if_false, if_true, reduceIte, Bool.not_true, Bool.not_false, m_seed, fd7, fd5, md2, ev_lstB (show [PyData.int 10, .int 4].length ≤ 16000000 by simp), atI_pick2 (a := 10) (b := 4) (show 0 ≤ s / 5 % 2 by omega) (by omega), ev_mod hp]
  simp (implicitDefEqProofs := false) only [g__law_basket, ev_gSeq, ev_gSet, ev_gIfS, ev_gTb, ev_gTr, ev_gB, ev_gU, ev_gL, ev_gCons, ev_gNil, ev_gV, ev_gC, ev_gF, ev_gRet, ev_gDrop, ev_gFor, ev_gIt, ev_gIt2, ev_gLc, ev_gIf, ev_gAndT, ev_gOrT, ev_gNotT, ev_gAndV, ev_gOrV, ev_gNotV, ev_gChain, ev_gRaise, ev_bind, ev_bindE, ev_lift, ev_thenS, ev_thenE, ev_look0, ev_lookS, ev_boolD, ev_truB, List.set_cons_zero, List.set_cons_succ, ev_maskD, ev_maskI, ev_maskO, ev_mask0, ev_seqL, ev_seqT, ev_ixL, ev_ixT, ev_addI, ev_eqI, ev_neI, ev_endR, ev_endN, ev_endE, Option.map_some, Bool.false_eq_true, if_false, if_true, reduceIte, Bool.not_true, Bool.not_false, ev_rngB n0 (show n ≤ 16000000 by omega), hc, dTuple]
  simp (implicitDefEqProofs := false) only [encB, basketZ, List.map_map]
  rfl
theorem basket_good (s : Int) {n : Int} (n0 : 0 ≤ n) : GoodB n (basketZ s n) := by
  refine ⟨by unfold basketZ; rw [List.length_map, rgZ_len]; omega, fun x hx => ?_⟩
  unfold basketZ at hx
  obtain ⟨k, _, rfl⟩ := List.mem_map.mp hx
  have hp : (0 : Int) < (if s / 5 % 2 = 0 then 10 else 4) ∧ (if s / 5 % 2 = 0 then 10 else 4 : Int) ≤ 10 := by split <;> decide
  have h1 := Int.emod_nonneg (seedZ s k / 7) (show (if s / 5 % 2 = 0 then 10 else 4 : Int) ≠ 0 by omega)
  have h2 := Int.emod_lt_of_pos (seedZ s k / 7) hp.1
  omega
/-! ### lists of up to five offers -/
theorem m_two_list_ (s : Int) {n : Int} (n1 : 1 ≤ n) (n3 : n ≤ 3) : ∃ os : List Off, GoodL n os ∧ 1 ≤ os.length ∧ os.length ≤ 5 ∧ m__law_two_list [.int s, .int n] = .ok (encL n os) := by
  show ∃ os : List Off, GoodL n os ∧ 1 ≤ os.length ∧ os.length ≤ 5 ∧ endD (g__law_two_list [.int s, .int n, .none, .none]) = _
  obtain ⟨t, ht⟩ : ∃ t, t = 1 + s / 7 % 5 := ⟨_, rfl⟩
  have t0 : 1 ≤ t ∧ t ≤ 5 := by omega
  obtain ⟨r, er, os, rfl, hl, hg⟩ := forD_inv (ph := [.im, .im, .ow, .dead]) (step := turnD (tName 3) g__law_two_list_b1)
    (all := (rgZ t).map PyData.int) (rho := [.int s, .int n, .list [], .none]) (fun done rho => ∃ os : List Off, rho = [.int s, .int n, .list (os.map encO), .none] ∧ os.length = done.length ∧ ∀ o ∈ os, o.Good n)
    ⟨[], rfl, rfl, by simp⟩ (by
      rintro done d rest rho e ⟨os, rfl, hl, hg⟩
      have hd : d ∈ (rgZ t).map PyData.int := by rw [e]; simp
      obtain ⟨i, hi, rfl⟩ := List.mem_map.mp hd
      have hlen : done.length + 1 ≤ t.toNat := by
        have := congrArg List.length e
        simp at this; omega
      obtain ⟨o, og, eo⟩ := m_offer (seedZ s i) n1 n3
      refine ⟨[.int s, .int n, .list ((os ++ [o]).map encO), .int i], ?_, os ++ [o], rfl, by simp [hl], fun x hx => ?_⟩
      · rw [ev_turn1]
        unfold g__law_two_list_b1 gApp
        simp (implicitDefEqProofs := false) only [ev_gSeq, ev_gSet, ev_gIfS, ev_gTb, ev_gTr, ev_gB, ev_gU, ev_gL, ev_gCons, ev_gNil, ev_gV, ev_gC, ev_gF, ev_gRet, ev_gDrop, ev_gFor, ev_gIt, ev_gIt2, ev_gLc, ev_gIf, ev_gAndT, ev_gOrT, ev_gNotT, ev_gAndV, ev_gOrV, ev_gNotV, ev_gChain, ev_gRaise, ev_bind, ev_bindE, ev_lift, ev_thenS, ev_thenE, ev_look0, ev_lookS, ev_boolD, ev_truB, List.set_cons_zero, List.set_cons_succ, ev_maskD, ev_maskI, ev_maskO, ev_mask0, ev_seqL, ev_seqT, ev_ixL, ev_ixT, ev_addI, ev_eqI, ev_neI, ev_endR, ev_endN, ev_endE, Option.map_some, Bool.false_eq_true, if_false, if_true, reduceIte, Bool.not_true, Bool.not_false, m_seed, eo]
        rw [if_pos (sl_lt (by simp; omega))]
        simp
      · rcases List.mem_append.mp hx with h | h
        · exact hg x h
        · rw [List.mem_singleton.mp h]; exact og)
  have hl2 : os.length = t.toNat := by rw [hl, List.length_map, rgZ_len]
  refine ⟨os, ⟨n1, n3, by omega, hg⟩, by omega, by omega, ?_⟩
  simp (implicitDefEqProofs := false) only [g__law_two_list, ev_gSeq, ev_gSet, ev_gIfS, ev_gTb, ev_gTr, ev_gB, ev_gU, ev_gL, ev_gCons, ev_gNil, ev_gV, ev_gC, ev_gF, ev_gRet, ev_gDrop, ev_gFor, ev_gIt, ev_gIt2, ev_gLc, ev_gIf, ev_gAndT, ev_gOrT, ev_gNotT, ev_gAndV, ev_gOrV, ev_gNotV, ev_gChain, ev_gRaise, ev_bind, ev_bindE, ev_lift, ev_thenS, ev_thenE, ev_look0, ev_lookS, ev_boolD, ev_truB, List.set_cons_zero, List.set_cons_succ, ev_maskD, ev_maskI, ev_maskO, ev_mask0, ev_seqL, ev_seqT, ev_ixL, ev_ixT, ev_addI, ev_eqI, ev_neI, ev_endR, ev_endN, ev_endE, Option.map_some, Bool.false_eq_true, if_false, if_true, reduceIte, Bool.not_true, Bool.not_false, ev_lstB (show ([] : List PyData).length ≤ 16000000 by simp), fd7, md5, ← ht, ev_rngB (show 0 ≤ t by omega) (show t ≤ 16000000 by omega), er, dTuple, ev_tupB (show [PyData.int n, .tuple (os.map encO)].length ≤ 16000000 by simp)]
  rfl
/-! ### all counts the same -/
abbrev repB (n v : Int) : Bk := List.replicate n.toNat v
theorem repD_one (v : Int) : ∀ k : Nat, (List.replicate k [PyData.int v]).flatten = (List.replicate k v).map PyData.int
  | 0 => rfl
  | k + 1 => by rw [List.replicate_succ, List.flatten_cons, repD_one v k]; rfl
theorem dMul_rep {n : Int} (v : Int) (n0 : 0 ≤ n) (n3 : n ≤ 1000) : dMul (.tuple [.int v]) (.int n) = some (encB (repB n v)) := by
  show (if _ then _ else _) = _
  rw [if_pos ⟨by omega, n3, by simp⟩]
  unfold repD encB
  rw [repD_one]
theorem at_repB {n v : Int} {i : Nat} (h : i < n.toNat) : at0 (repB n v) i = v := by
  unfold at0; simp [List.getD_eq_getElem?_getD, h]
theorem goodB_rep {n v : Int} (n0 : 0 ≤ n) (v0 : 0 ≤ v) (v9 : v ≤ 9) : GoodB n (repB n v) := ⟨by simp; omega, fun x hx => by rw [List.eq_of_mem_replicate hx]; omega⟩
theorem mem_below9 {n : Int} {b : Bk} (hb : GoodB n b) : b ∈ belowS (repB n 9) := mem_belowS.mpr ⟨by simp [hb.len.symm], fun i hi => by
  have hl := hb.len
  have hi' : i < n.toNat := by simpa using hi
  rw [at_repB hi']
  have hib : i < b.length := by omega
  have := hb.in9 b[i] (List.getElem_mem hib)
  unfold at0; simp [List.getD_eq_getElem?_getD, hib]; omega⟩
end PD
namespace PD
open PySem L2
/-! CZA: carts, plainly: the rules that reckon with their mirrors. -/
theorem ev_maskC (k : Nat) (fs : List Fl) (d : PyData) (r : Rw) : mask (.cw k :: fs) (d :: r) = d :: mask fs r := rfl
def fldD (f : Str) : PyData → Rs PyData := fun d => match d with
  | .dict kvs => (match getC f kvs with
    | some (.tuple [d]) => .ok d
    | _ => .error .bad)
  | _ => .error .bad
theorem ev_gFld (j : Nat) (f : Str) (r : Rw) : gFld j f r = fldD f (look r j) := rfl
def trF (f : Str) : PyData → Rs Bool := fun d => match d with
  | .dict kvs => (match getC f kvs with
    | some (.list ds) => .ok (!ds.isEmpty)
    | _ => .error .bad)
  | _ => .error .bad
theorem ev_gTrF (j : Nat) (f : Str) (r : Rw) : gTrF j f r = trF f (look r j) := rfl
def noF (nm : Str) : PyData → Rs PyData := fun d => match d with
  | .dict kvs => (match getC nm kvs with
    | none => .ok (.dict kvs)
    | some _ => .error .bad)
  | _ => .error .bad
theorem ev_gMR (j : Nat) (nm : Str) (mm : List PyData → Rs PyData) (gs : Rw → Rs (List PyData)) (r : Rw) : gMR j nm mm gs r = noF nm (look r j) >>= fun c => gs r >>= fun ds => mm (c :: ds) := by
  unfold gMR noF
  cases look r j with
  | dict kvs => cases e : getC nm kvs <;> simp (implicitDefEqProofs := false) only [e] <;> rfl
  | _ => rfl
theorem ev_xOk {a : Type} (rho : Rw) (d : a) : xOf rho (.ok d) = .ok d rho := rfl
theorem ev_xEr {a : Type} (rho : Rw) (e : Er) : xOf rho (.error e : Rs a) = .er e rho := rfl
theorem ev_xBind {a b : Type} (d : a) (r : Rw) (k : a → Rw → RX b) : xBind (.ok d r) k = k d r := rfl
theorem ev_xBindE {a b : Type} (e : Er) (r : Rw) (k : a → Rw → RX b) : xBind (.er e r : RX a) k = .er e r := rfl
theorem ev_xS {a : Type} (d : a) (r : Rw) (k : a → Rw → SR) : xS (.ok d r) k = k d r := rfl
theorem ev_xSE {a : Type} (e : Er) (r : Rw) (k : a → Rw → SR) : xS (.er e r : RX a) k = .er e r := rfl
theorem ev_outOk (j : Nat) (r : Rw) (d c : PyData) : outC j r (.ok (d, c)) = .ok d (r.set j c) := rfl
theorem ev_outEr (j : Nat) (r : Rw) (e : Er) (c : PyData) : outC j r (.error (e, c)) = .er e (r.set j c) := rfl
theorem ev_gMC (j : Nat) (nm : Str) (mm : List PyData → RC) (gs : Rw → Rs (List PyData)) (r : Rw) : gMC j nm mm gs r = xBind (xOf r (noF nm (look r j) >>= fun c => gs r >>= fun ds => .ok (c :: ds))) fun ds _ => outC j r (mm ds) := by
  unfold gMC noF
  cases look r j with
  | dict kvs =>
    cases e : getC nm kvs with
    | none =>
      simp (implicitDefEqProofs := false) only [e]
      cases gs r <;> rfl
    | some z => simp (implicitDefEqProofs := false) only [e]; rfl
  | _ => rfl
theorem ev_gFC (j : Nat) (mm : List PyData → RC) (gs : Rw → Rs (List PyData)) (r : Rw) : gFC j mm gs r = xBind (xOf r (gs r)) fun ds _ => outC j r (mm (look r j :: ds)) := rfl
theorem ev_gSetX (i : Nat) (gx : Rw → RX PyData) (r : Rw) : gSetX i gx r = xS (gx r) fun d r => .nx (r.set i d) := rfl
theorem ev_gDropX (gx : Rw → RX PyData) (r : Rw) : gDropX gx r = xS (gx r) fun _ r => .nx r := rfl
theorem ev_gRetX (gx : Rw → RX PyData) (r : Rw) : gRetX gx r = xS (gx r) fun d _ => .rt d := rfl
theorem ev_gRetC (j : Nat) (gx : Rw → RX PyData) (r : Rw) : gRetC j gx r = xS (gx r) fun d r => .rt (.tuple [d, look r j]) := rfl
theorem ev_gIfX (tx : Rw → RX Bool) (a b : Rw → SR) (r : Rw) : gIfX tx a b r = xS (tx r) fun k r => if k = true then a r else b r := rfl
theorem ev_gIfEX (t : Rw → Rs Bool) (a b : Rw → RX PyData) (r : Rw) : gIfEX t a b r = xBind (xOf r (t r)) fun k _ => if k = true then a r else b r := rfl
theorem ev_gBX (o : PyData → PyData → Option PyData) (gx : Rw → RX PyData) (gb : Rw → Rs PyData) (r : Rw) : gBX o gx gb r = xBind (gx r) fun d r => xBind (xOf r (gb r)) fun d2 _ => xOf r (lift (o d d2)) := rfl
theorem ev_gTbX (gx : Rw → RX PyData) (r : Rw) : gTbX gx r = xBind (gx r) fun d r => xOf r (lift (boolD d)) := rfl
theorem ev_gOrX (tx : Rw → RX Bool) (tb : Rw → Rs Bool) (r : Rw) : gOrX tx tb r = xBind (tx r) fun k r => if k = true then .ok true r else xOf r (tb r) := rfl
theorem ev_endCN (r : Rw) : endC (.nx r) = .ok (.none, look r 0) := rfl
theorem ev_endCR (d c : PyData) : endC (.rt (.tuple [d, c])) = .ok (d, c) := rfl
theorem ev_endCE (e : Er) (r : Rw) : endC (.er e r) = .error (e, look r 0) := rfl
theorem m_mix (a : Int) {b c : Int} (hb : 0 < b) (hc : 0 < c) : m__law_mix [.int a, .int b, .int c] = .ok (.int (a * 48271 % b % c)) := by
  show endD (g__law_mix [.int a, .int b, .int c]) = _
  have hm : dMul (.int a) (.int 48271) = some (.int (a * 48271)) := ev_mulI (.inr (by decide))
  simp (implicitDefEqProofs := false) only [g__law_mix, ev_gSeq, ev_gSet, ev_gIfS, ev_gTb, ev_gTr, ev_gB, ev_gU, ev_gL, ev_gCons, ev_gNil, ev_gV, ev_gC, ev_gF, ev_gRet, ev_gDrop, ev_gFor, ev_gIt, ev_gIt2, ev_gLc, ev_gIf, ev_gAndT, ev_gOrT, ev_gNotT, ev_gAndV, ev_gOrV, ev_gNotV, ev_gChain, ev_gRaise, ev_bind, ev_bindE, ev_lift, ev_thenS, ev_thenE, ev_look0, ev_lookS, ev_boolD, ev_truB, List.set_cons_zero, List.set_cons_succ, ev_maskD, ev_maskI, ev_maskO, ev_mask0, ev_seqL, ev_seqT, ev_ixL, ev_ixT, ev_addI, ev_eqI, ev_neI, ev_endR, ev_endN, ev_endE, Option.map_some, Bool.false_eq_true, if_false, if_true, reduceIte, Bool.not_true, Bool.not_false, hm, ev_mod hb, ev_mod hc]
theorem ev_subI (i j : Int) : dSub (.int i) (.int j) = some (.int (i - j)) := rfl
/-! ### what a cart holds -/
def cartK (P N : PyData) (A L : List PyData) : List (PyData × PyData) := [(.str "prices", .tuple [P]), (.str "now", .tuple [N]), (.str "past", .list A), (.str "later", .list L)]
def cartD (P N : PyData) (A L : List PyData) : PyData := .dict (cartK P N A L)
theorem k_len (P N : PyData) (A L : List PyData) : (cartK P N A L).length < 900 := by show 4 < 900; decide
theorem getC_ne {f g : Str} (h : ¬ f = g) (d : PyData) (r : List (PyData × PyData)) : getC f ((.str g, d) :: r) = getC f r := by
  show (if f = g then _ else _) = _
  rw [if_neg h]
theorem getC_eq (f : Str) (d : PyData) (r : List (PyData × PyData)) : getC f ((.str f, d) :: r) = some d := by
  show (if f = f then _ else _) = _
  rw [if_pos rfl]
theorem putC_ne {f g : Str} (h : ¬ g = f) (v d : PyData) (r : List (PyData × PyData)) : putC f v ((.str g, d) :: r) = (.str g, d) :: putC f v r := by
  show (if g = f then _ else _) = _
  rw [if_neg h]
theorem putC_eq (f : Str) (v d : PyData) (r : List (PyData × PyData)) : putC f v ((.str f, d) :: r) = (.str f, v) :: r := by
  show (if f = f then _ else _) = _
  rw [if_pos rfl]
theorem n_np : ¬ ("now" : Str) = "prices" := by decide +kernel
theorem n_ap : ¬ ("past" : Str) = "prices" := by decide +kernel
theorem n_an : ¬ ("past" : Str) = "now" := by decide +kernel
theorem n_lp : ¬ ("later" : Str) = "prices" := by decide +kernel
theorem n_ln : ¬ ("later" : Str) = "now" := by decide +kernel
theorem n_la : ¬ ("later" : Str) = "past" := by decide +kernel
section
variable (P N d : PyData) (A L : List PyData)
theorem get_prices : getC "prices" (cartK P N A L) = some (.tuple [P]) := getC_eq _ _ _
theorem get_now : getC "now" (cartK P N A L) = some (.tuple [N]) := by unfold cartK; rw [getC_ne n_np, getC_eq]
theorem get_past : getC "past" (cartK P N A L) = some (.list A) := by unfold cartK; rw [getC_ne n_ap, getC_ne n_an, getC_eq]
theorem get_later : getC "later" (cartK P N A L) = some (.list L) := by unfold cartK; rw [getC_ne n_lp, getC_ne n_ln, getC_ne n_la, getC_eq]
theorem get_no {f : Str} (h : f ∉ (["prices", "now", "past", "later"] : List Str)) : getC f (cartK P N A L) = none := by
  simp (implicitDefEqProofs := false) only [List.mem_cons, List.not_mem_nil, or_false, not_or] at h
  obtain ⟨h1, h2, h3, h4⟩ := h
  unfold cartK
  rw [getC_ne h1, getC_ne h2, getC_ne h3, getC_ne h4]; rfl
theorem put_now : putC "now" (.tuple [d]) (cartK P N A L) = cartK P d A L := by
  unfold cartK
  rw [putC_ne (Ne.symm n_np), putC_eq]
theorem put_past (B : List PyData) : putC "past" (.list B) (cartK P N A L) = cartK P N B L := by
  unfold cartK
  rw [putC_ne (Ne.symm n_ap), putC_ne (Ne.symm n_an), putC_eq]
theorem put_later (B : List PyData) : putC "later" (.list B) (cartK P N A L) = cartK P N A B := by
  unfold cartK
  rw [putC_ne (Ne.symm n_lp), putC_ne (Ne.symm n_ln), putC_ne (Ne.symm n_la), putC_eq]
theorem fld_prices : fldD "prices" (cartD P N A L) = .ok P := by unfold fldD cartD; simp (implicitDefEqProofs := false) only [get_prices]
theorem fld_now : fldD "now" (cartD P N A L) = .ok N := by unfold fldD cartD; simp (implicitDefEqProofs := false) only [get_now]
theorem tr_past : trF "past" (cartD P N A L) = .ok (!A.isEmpty) := by unfold trF cartD; simp (implicitDefEqProofs := false) only [get_past]
theorem tr_later : trF "later" (cartD P N A L) = .ok (!L.isEmpty) := by unfold trF cartD; simp (implicitDefEqProofs := false) only [get_later]
theorem no_cart {f : Str} (h : f ∉ (["prices", "now", "past", "later"] : List Str)) : noF f (cartD P N A L) = .ok (cartD P N A L) := by unfold noF cartD; simp (implicitDefEqProofs := false) only [get_no P N A L h]
theorem no_price : noF "price" (cartD P N A L) = .ok (cartD P N A L) := no_cart _ _ _ _ (by decide +kernel)
theorem no_need : noF "need" (cartD P N A L) = .ok (cartD P N A L) := no_cart _ _ _ _ (by decide +kernel)
theorem no_go : noF "go" (cartD P N A L) = .ok (cartD P N A L) := no_cart _ _ _ _ (by decide +kernel)
theorem no_put : noF "put" (cartD P N A L) = .ok (cartD P N A L) := no_cart _ _ _ _ (by decide +kernel)
theorem no_take : noF "take" (cartD P N A L) = .ok (cartD P N A L) := no_cart _ _ _ _ (by decide +kernel)
theorem no_undo : noF "undo" (cartD P N A L) = .ok (cartD P N A L) := no_cart _ _ _ _ (by decide +kernel)
theorem no_redo : noF "redo" (cartD P N A L) = .ok (cartD P N A L) := no_cart _ _ _ _ (by decide +kernel)
theorem no_basket : noF "basket" (cartD P N A L) = .ok (cartD P N A L) := no_cart _ _ _ _ (by decide +kernel)
theorem no_log : noF "log" (cartD P N A L) = .ok (cartD P N A L) := no_cart _ _ _ _ (by decide +kernel)
end
section
variable {P N d : PyData} {A L : List PyData} {j : Nat} {r : Rw} {ge : Rw → Rs PyData}
theorem do_now (h : look r j = cartD P N A L) (hg : ge r = .ok d) : gPutF j "now" ge r = .nx (r.set j (cartD P d A L)) := by
  unfold gPutF
  rw [hg, h]
  show (if (cartK P N A L).length < 900 then SR.nx (r.set j (.dict (putC "now" (.tuple [d]) (cartK P N A L)))) else SR.er .bad r) = _
  rw [if_pos (k_len _ _ _ _), put_now]; rfl
theorem do_later (h : look r j = cartD P N A L) (hg : ge r = .ok (.list [])) : gPutO j "later" ge r = .nx (r.set j (cartD P N A [])) := by
  unfold gPutO
  rw [hg, h]
  show (if (cartK P N A L).length < 900 then SR.nx (r.set j (.dict (putC "later" (.list []) (cartK P N A L)))) else SR.er .bad r) = _
  rw [if_pos (k_len _ _ _ _), put_later]; rfl
theorem do_appPast (h : look r j = cartD P N A L) (hg : ge r = .ok d) (hl : A.length ≤ 1000) : gAppF j "past" ge r = .nx (r.set j (cartD P N (A ++ [d]) L)) := by
  unfold gAppF
  rw [h]
  show (match getC "past" (cartK P N A L) with
    | some (.list ds) => thenS (ge r) r fun d => if ds.length < sizeLine then .nx (r.set j (.dict (putC "past" (.list (ds ++ [d])) (cartK P N A L)))) else .er .bad r
    | _ => .er .bad r) = _
  rw [get_past]
  show thenS (ge r) r (fun d => if A.length < sizeLine then SR.nx (r.set j (.dict (putC "past" (.list (A ++ [d])) (cartK P N A L)))) else .er .bad r) = _
  rw [hg, ev_thenS, if_pos (sl_lt hl), put_past]; rfl
theorem do_appLater (h : look r j = cartD P N A L) (hg : ge r = .ok d) (hl : L.length ≤ 1000) : gAppF j "later" ge r = .nx (r.set j (cartD P N A (L ++ [d]))) := by
  unfold gAppF
  rw [h]
  show (match getC "later" (cartK P N A L) with
    | some (.list ds) => thenS (ge r) r fun d => if ds.length < sizeLine then .nx (r.set j (.dict (putC "later" (.list (ds ++ [d])) (cartK P N A L)))) else .er .bad r
    | _ => .er .bad r) = _
  rw [get_later]
  show thenS (ge r) r (fun d => if L.length < sizeLine then SR.nx (r.set j (.dict (putC "later" (.list (L ++ [d])) (cartK P N A L)))) else .er .bad r) = _
  rw [hg, ev_thenS, if_pos (sl_lt hl), put_later]; rfl
theorem do_popPast (h : look r j = cartD P N (A ++ [d]) L) : gPopF j "past" "now" r = .nx (r.set j (cartD P d A L)) := by
  unfold gPopF
  rw [h]
  show (match getC "past" (cartK P N (A ++ [d]) L) with
    | some (.list ds) => (match ds.getLast? with
      | some d => if (cartK P N (A ++ [d]) L).length < 900 then SR.nx (r.set j (.dict (putC "now" (.tuple [d]) (putC "past" (.list ds.dropLast) (cartK P N (A ++ [d]) L))))) else .er .bad r
      | none => .er .bad r)
    | _ => .er .bad r) = _
  rw [get_past]
  show (match (A ++ [d]).getLast? with
      | some e => if (cartK P N (A ++ [d]) L).length < 900 then SR.nx (r.set j (.dict (putC "now" (.tuple [e]) (putC "past" (.list (A ++ [d]).dropLast) (cartK P N (A ++ [d]) L))))) else .er .bad r
      | none => .er .bad r) = _
  rw [List.getLast?_concat, List.dropLast_concat]
  show (if (cartK P N (A ++ [d]) L).length < 900 then SR.nx (r.set j (.dict (putC "now" (.tuple [d]) (putC "past" (.list A) (cartK P N (A ++ [d]) L))))) else .er .bad r) = _
  rw [if_pos (k_len _ _ _ _), put_past, put_now]; rfl
theorem do_popLater (h : look r j = cartD P N A (L ++ [d])) : gPopF j "later" "now" r = .nx (r.set j (cartD P d A L)) := by
  unfold gPopF
  rw [h]
  show (match getC "later" (cartK P N A (L ++ [d])) with
    | some (.list ds) => (match ds.getLast? with
      | some d => if (cartK P N A (L ++ [d])).length < 900 then SR.nx (r.set j (.dict (putC "now" (.tuple [d]) (putC "later" (.list ds.dropLast) (cartK P N A (L ++ [d])))))) else .er .bad r
      | none => .er .bad r)
    | _ => .er .bad r) = _
  rw [get_later]
  show (match (L ++ [d]).getLast? with
      | some e => if (cartK P N A (L ++ [d])).length < 900 then SR.nx (r.set j (.dict (putC "now" (.tuple [e]) (putC "later" (.list (L ++ [d]).dropLast) (cartK P N A (L ++ [d])))))) else .er .bad r
      | none => .er .bad r) = _
  rw [List.getLast?_concat, List.dropLast_concat]
  show (if (cartK P N A (L ++ [d])).length < 900 then SR.nx (r.set j (.dict (putC "now" (.tuple [d]) (putC "later" (.list L) (cartK P N A (L ++ [d])))))) else .er .bad r) = _
  rw [if_pos (k_len _ _ _ _), put_later, put_now]; rfl
end
end PD
namespace PD
open PySem L2
/-! CZB: deeds at a cart. -/
structure De where
  p : Bool
  w : Int
  m : Int
structure Mo where
  b : Bk
  l : List De
structure Cz where
  N : Mo
  A : List Mo
  L : List Mo
def deS (p : Bool) : Str := if p = true then "put" else "take"
def encDe (d : De) : PyData := .tuple [.str (deS d.p), .int d.w, .int d.m]
def encM (m : Mo) : PyData := .tuple [encB m.b, .tuple (m.l.map encDe)]
def crt (n : Int) (os : List Off) (s : Cz) : PyData := cartD (encL n os) (encM s.N) (s.A.map encM) (s.L.map encM)
theorem ix_M0 (m : Mo) : dIx (encM m) (.int 0) = some (encB m.b) := at_0 _ _
theorem ix_M1 (m : Mo) : dIx (encM m) (.int 1) = some (.tuple (m.l.map encDe)) := at_1 _ _ _
theorem ix_L0 (n : Int) (os : List Off) : dIx (encL n os) (.int 0) = some (.int n) := at_0 _ _
section
variable {n : Int} {os : List Off} {s : Cz} {x y : PyData} {w ch : Int} {d : De}
theorem c_basket : m_Cart_basket [crt n os s] = .ok (encB s.N.b) := by
  show endD (g_Cart_basket [crt n os s]) = _
  simp (implicitDefEqProofs := false) only [g_Cart_basket, crt, ev_gFld, fld_now, ev_gSeq, ev_gSet, ev_gIfS, ev_gTb, ev_gTr, ev_gB, ev_gU, ev_gL, ev_gCons, ev_gNil, ev_gV, ev_gC, ev_gF, ev_gRet, ev_gDrop, ev_gFor, ev_gIt, ev_gIt2, ev_gLc, ev_gIf, ev_gAndT, ev_gOrT, ev_gNotT, ev_gAndV, ev_gOrV, ev_gNotV, ev_gChain, ev_gRaise, ev_bind, ev_bindE, ev_lift, ev_thenS, ev_thenE, ev_look0, ev_lookS, ev_boolD, ev_truB, List.set_cons_zero, List.set_cons_succ, ev_maskD, ev_maskI, ev_maskO, ev_mask0, ev_seqL, ev_seqT, ev_ixL, ev_ixT, ev_addI, ev_eqI, ev_neI, ev_endR, ev_endN, ev_endE, Option.map_some, Bool.false_eq_true, if_false, if_true, reduceIte, Bool.not_true, Bool.not_false, ix_M0]
theorem c_log : m_Cart_log [crt n os s] = .ok (.list (s.N.l.map encDe)) := by
  show endD (g_Cart_log [crt n os s]) = _
  simp (implicitDefEqProofs := false) only [g_Cart_log, crt, ev_gFld, fld_now, ev_gSeq, ev_gSet, ev_gIfS, ev_gTb, ev_gTr, ev_gB, ev_gU, ev_gL, ev_gCons, ev_gNil, ev_gV, ev_gC, ev_gF, ev_gRet, ev_gDrop, ev_gFor, ev_gIt, ev_gIt2, ev_gLc, ev_gIf, ev_gAndT, ev_gOrT, ev_gNotT, ev_gAndV, ev_gOrV, ev_gNotV, ev_gChain, ev_gRaise, ev_bind, ev_bindE, ev_lift, ev_thenS, ev_thenE, ev_look0, ev_lookS, ev_boolD, ev_truB, List.set_cons_zero, List.set_cons_succ, ev_maskD, ev_maskI, ev_maskO, ev_mask0, ev_seqL, ev_seqT, ev_ixL, ev_ixT, ev_addI, ev_eqI, ev_neI, ev_endR, ev_endN, ev_endE, Option.map_some, Bool.false_eq_true, if_false, if_true, reduceIte, Bool.not_true, Bool.not_false, ix_M1]
  rfl
theorem c_price (h : GoodL n os) (hb : GoodB n s.N.b) : m_Cart_price [crt n os s] = .ok (optI (costZ (packsZ n os) s.N.b)) := by
  show endD (g_Cart_price [crt n os s]) = _
  simp (implicitDefEqProofs := false) only [g_Cart_price, crt, ev_gFld, fld_now, fld_prices, ev_gSeq, ev_gSet, ev_gIfS, ev_gTb, ev_gTr, ev_gB, ev_gU, ev_gL, ev_gCons, ev_gNil, ev_gV, ev_gC, ev_gF, ev_gRet, ev_gDrop, ev_gFor, ev_gIt, ev_gIt2, ev_gLc, ev_gIf, ev_gAndT, ev_gOrT, ev_gNotT, ev_gAndV, ev_gOrV, ev_gNotV, ev_gChain, ev_gRaise, ev_bind, ev_bindE, ev_lift, ev_thenS, ev_thenE, ev_look0, ev_lookS, ev_boolD, ev_truB, List.set_cons_zero, List.set_cons_succ, ev_maskD, ev_maskI, ev_maskO, ev_mask0, ev_seqL, ev_seqT, ev_ixL, ev_ixT, ev_addI, ev_eqI, ev_neI, ev_endR, ev_endN, ev_endE, Option.map_some, Bool.false_eq_true, if_false, if_true, reduceIte, Bool.not_true, Bool.not_false, ix_M0, m_all_packs_ h, m_cost2_ h hb]
theorem c_need (hx : notDict x = true) (hy : notDict y = true) : m_Cart_need [crt n os s, x, y] = if (withB x 0 (n - 1) && withB y 1 9) = true then .ok .none else .error (.exc "BadBasket") := by
  show endD (g_Cart_need [crt n os s, x, y]) = _
  simp (implicitDefEqProofs := false) only [g_Cart_need, crt, ev_gFld, fld_prices, ev_gSeq, ev_gSet, ev_gIfS, ev_gTb, ev_gTr, ev_gB, ev_gU, ev_gL, ev_gCons, ev_gNil, ev_gV, ev_gC, ev_gF, ev_gRet, ev_gDrop, ev_gFor, ev_gIt, ev_gIt2, ev_gLc, ev_gIf, ev_gAndT, ev_gOrT, ev_gNotT, ev_gAndV, ev_gOrV, ev_gNotV, ev_gChain, ev_gRaise, ev_bind, ev_bindE, ev_lift, ev_thenS, ev_thenE, ev_look0, ev_lookS, ev_boolD, ev_truB, List.set_cons_zero, List.set_cons_succ, ev_maskD, ev_maskI, ev_maskO, ev_mask0, ev_seqL, ev_seqT, ev_ixL, ev_ixT, ev_addI, ev_eqI, ev_neI, ev_endR, ev_endN, ev_endE, Option.map_some, Bool.false_eq_true, if_false, if_true, reduceIte, Bool.not_true, Bool.not_false, ix_L0, ev_subI, m_within hx, m_within hy]
  cases withB x 0 (n - 1) <;> cases withB y 1 9 <;> rfl
def goZ (s : Cz) (w ch : Int) (d : De) : Cz := ⟨⟨putB s.N.b w (hasB s.N.b w + ch), s.N.l ++ [d]⟩, s.A ++ [s.N], []⟩
theorem c_go (h : GoodL n os) (hb : GoodB n s.N.b) (w0 : 0 ≤ w) (wn : w < n) (hg : GoodB n (putB s.N.b w (hasB s.N.b w + ch))) (hA : s.A.length ≤ 999) (hl : s.N.l.length ≤ 999) :
    m_Cart_go [crt n os s, .int w, .int ch, encDe d] = .ok (optI (costZ (packsZ n os) (goZ s w ch d).N.b), crt n os (goZ s w ch d)) := by
  have n3 := h.n3
  have hbl := hb.len
  show endC (g_Cart_go [crt n os s, .int w, .int ch, encDe d, .none]) = _
  have t1 : gSet 4 (gB dIx (gFld 0 "now") (gC (.int 0))) [crt n os s, .int w, .int ch, encDe d, .none] = .nx [crt n os s, .int w, .int ch, encDe d, encB s.N.b] := by
    simp (implicitDefEqProofs := false) only [crt, ev_gFld, fld_now, ev_gSeq, ev_gSet, ev_gIfS, ev_gTb, ev_gTr, ev_gB, ev_gU, ev_gL, ev_gCons, ev_gNil, ev_gV, ev_gC, ev_gF, ev_gRet, ev_gDrop, ev_gFor, ev_gIt, ev_gIt2, ev_gLc, ev_gIf, ev_gAndT, ev_gOrT, ev_gNotT, ev_gAndV, ev_gOrV, ev_gNotV, ev_gChain, ev_gRaise, ev_bind, ev_bindE, ev_lift, ev_thenS, ev_thenE, ev_look0, ev_lookS, ev_boolD, ev_truB, List.set_cons_zero, List.set_cons_succ, ev_maskD, ev_maskI, ev_maskO, ev_mask0, ev_seqL, ev_seqT, ev_ixL, ev_ixT, ev_addI, ev_eqI, ev_neI, ev_endR, ev_endN, ev_endE, Option.map_some, Bool.false_eq_true, if_false, if_true, reduceIte, Bool.not_true, Bool.not_false, ix_M0]
  have t2 : gAppF 0 "past" (gFld 0 "now") [crt n os s, .int w, .int ch, encDe d, encB s.N.b] = .nx [cartD (encL n os) (encM s.N) ((s.A ++ [s.N]).map encM) (s.L.map encM), .int w, .int ch, encDe d, encB s.N.b] := by
    rw [do_appPast (P := encL n os) (N := encM s.N) (A := s.A.map encM) (L := s.L.map encM) (d := encM s.N) rfl (by simp (implicitDefEqProofs := false) only [crt, ev_gFld, fld_now, ev_gSeq, ev_gSet, ev_gIfS, ev_gTb, ev_gTr, ev_gB, ev_gU, ev_gL, ev_gCons, ev_gNil, ev_gV, ev_gC, ev_gF, ev_gRet, ev_gDrop, ev_gFor, ev_gIt, ev_gIt2, ev_gLc, ev_gIf, ev_gAndT, ev_gOrT, ev_gNotT, ev_gAndV, ev_gOrV, ev_gNotV, ev_gChain, ev_gRaise, ev_bind, ev_bindE, ev_lift, ev_thenS, ev_thenE, ev_look0, ev_lookS, ev_boolD, ev_truB, List.set_cons_zero, List.set_cons_succ, ev_maskD, ev_maskI, ev_maskO, ev_mask0, ev_seqL, ev_seqT, ev_ixL, ev_ixT, ev_addI, ev_eqI, ev_neI, ev_endR, ev_endN, ev_endE, Option.map_some, Bool.false_eq_true, if_false, if_true, reduceIte, Bool.not_true, Bool.not_false]) (by simp; omega)]
    simp (implicitDefEqProofs := false) only [List.map_append, List.map_cons, List.map_nil, ev_gSeq, ev_gSet, ev_gIfS, ev_gTb, ev_gTr, ev_gB, ev_gU, ev_gL, ev_gCons, ev_gNil, ev_gV, ev_gC, ev_gF, ev_gRet, ev_gDrop, ev_gFor, ev_gIt, ev_gIt2, ev_gLc, ev_gIf, ev_gAndT, ev_gOrT, ev_gNotT, ev_gAndV, ev_gOrV, ev_gNotV, ev_gChain, ev_gRaise, ev_bind, ev_bindE, ev_lift, ev_thenS, ev_thenE, ev_look0, ev_lookS, ev_boolD, ev_truB, List.set_cons_zero, List.set_cons_succ, ev_maskD, ev_maskI, ev_maskO, ev_mask0, ev_seqL, ev_seqT, ev_ixL, ev_ixT, ev_addI, ev_eqI, ev_neI, ev_endR, ev_endN, ev_endE, Option.map_some, Bool.false_eq_true, if_false, if_true, reduceIte, Bool.not_true, Bool.not_false]
  have sp : (gB dAdd (gB dAdd (gSl (gV 4) gPn (gPs (gV 1))) (gL tupD (gCons (gB dAdd (gB dIx (gV 4) (gV 1)) (gV 2)) gNil))) (gSl (gV 4) (gPs (gB dAdd (gV 1) (gC (.int 1)))) gPn)) [cartD (encL n os) (encM s.N) ((s.A ++ [s.N]).map encM) (s.L.map encM), .int w, .int ch, encDe d, encB s.N.b] = .ok (encB (putB s.N.b w (hasB s.N.b w + ch))) :=
    splice (b := s.N.b) (w := w) (v := hasB s.N.b w + ch) w0 (by omega) (by omega) rfl rfl (by simp (implicitDefEqProofs := false) only [ev_gSeq, ev_gSet, ev_gIfS, ev_gTb, ev_gTr, ev_gB, ev_gU, ev_gL, ev_gCons, ev_gNil, ev_gV, ev_gC, ev_gF, ev_gRet, ev_gDrop, ev_gFor, ev_gIt, ev_gIt2, ev_gLc, ev_gIf, ev_gAndT, ev_gOrT, ev_gNotT, ev_gAndV, ev_gOrV, ev_gNotV, ev_gChain, ev_gRaise, ev_bind, ev_bindE, ev_lift, ev_thenS, ev_thenE, ev_look0, ev_lookS, ev_boolD, ev_truB, List.set_cons_zero, List.set_cons_succ, ev_maskD, ev_maskI, ev_maskO, ev_mask0, ev_seqL, ev_seqT, ev_ixL, ev_ixT, ev_addI, ev_eqI, ev_neI, ev_endR, ev_endN, ev_endE, Option.map_some, Bool.false_eq_true, if_false, if_true, reduceIte, Bool.not_true, Bool.not_false, ix_has w0 (show w < s.N.b.length by omega)]) (by simp (implicitDefEqProofs := false) only [ev_gSeq, ev_gSet, ev_gIfS, ev_gTb, ev_gTr, ev_gB, ev_gU, ev_gL, ev_gCons, ev_gNil, ev_gV, ev_gC, ev_gF, ev_gRet, ev_gDrop, ev_gFor, ev_gIt, ev_gIt2, ev_gLc, ev_gIf, ev_gAndT, ev_gOrT, ev_gNotT, ev_gAndV, ev_gOrV, ev_gNotV, ev_gChain, ev_gRaise, ev_bind, ev_bindE, ev_lift, ev_thenS, ev_thenE, ev_look0, ev_lookS, ev_boolD, ev_truB, List.set_cons_zero, List.set_cons_succ, ev_maskD, ev_maskI, ev_maskO, ev_mask0, ev_seqL, ev_seqT, ev_ixL, ev_ixT, ev_addI, ev_eqI, ev_neI, ev_endR, ev_endN, ev_endE, Option.map_some, Bool.false_eq_true, if_false, if_true, reduceIte, Bool.not_true, Bool.not_false])
  have ad : dAdd (.tuple (s.N.l.map encDe)) (.tuple [encDe d]) = some (.tuple ((s.N.l ++ [d]).map encDe)) := by
    show (if _ then _ else _) = _
    rw [if_pos (sl_big (by simp; omega)), List.map_append]; rfl
  have t3 : gPutF 0 "now" (gL tupD (gCons (gB dAdd (gB dAdd (gSl (gV 4) gPn (gPs (gV 1))) (gL tupD (gCons (gB dAdd (gB dIx (gV 4) (gV 1)) (gV 2)) gNil))) (gSl (gV 4) (gPs (gB dAdd (gV 1) (gC (.int 1)))) gPn)) (gCons (gB dAdd (gB dIx (gFld 0 "now") (gC (.int 1))) (gL tupD (gCons (gV 3) gNil))) gNil))) [cartD (encL n os) (encM s.N) ((s.A ++ [s.N]).map encM) (s.L.map encM), .int w, .int ch, encDe d, encB s.N.b] = .nx [cartD (encL n os) (encM (goZ s w ch d).N) ((s.A ++ [s.N]).map encM) (s.L.map encM), .int w, .int ch, encDe d, encB s.N.b] := by
    rw [do_now (P := encL n os) (N := encM s.N) (A := (s.A ++ [s.N]).map encM) (L := s.L.map encM) (d := encM (goZ s w ch d).N) rfl]
    · rfl
    · rw [ev_gL, ev_gCons, sp]
      simp (implicitDefEqProofs := false) only [ev_gFld, fld_now, ev_gSeq, ev_gSet, ev_gIfS, ev_gTb, ev_gTr, ev_gB, ev_gU, ev_gL, ev_gCons, ev_gNil, ev_gV, ev_gC, ev_gF, ev_gRet, ev_gDrop, ev_gFor, ev_gIt, ev_gIt2, ev_gLc, ev_gIf, ev_gAndT, ev_gOrT, ev_gNotT, ev_gAndV, ev_gOrV, ev_gNotV, ev_gChain, ev_gRaise, ev_bind, ev_bindE, ev_lift, ev_thenS, ev_thenE, ev_look0, ev_lookS, ev_boolD, ev_truB, List.set_cons_zero, List.set_cons_succ, ev_maskD, ev_maskI, ev_maskO, ev_mask0, ev_seqL, ev_seqT, ev_ixL, ev_ixT, ev_addI, ev_eqI, ev_neI, ev_endR, ev_endN, ev_endE, Option.map_some, Bool.false_eq_true, if_false, if_true, reduceIte, Bool.not_true, Bool.not_false, ix_M1, ev_tupB (show [encDe d].length ≤ 16000000 by simp), ad]
      rw [ev_tupB (by simp)]
      rfl
  have t4 : gPutO 0 "later" (gL lstD gNil) [cartD (encL n os) (encM (goZ s w ch d).N) ((s.A ++ [s.N]).map encM) (s.L.map encM), .int w, .int ch, encDe d, encB s.N.b] = .nx [crt n os (goZ s w ch d), .int w, .int ch, encDe d, encB s.N.b] := by
    rw [do_later (P := encL n os) (N := encM (goZ s w ch d).N) (A := (s.A ++ [s.N]).map encM) (L := s.L.map encM) rfl (by simp (implicitDefEqProofs := false) only [ev_gSeq, ev_gSet, ev_gIfS, ev_gTb, ev_gTr, ev_gB, ev_gU, ev_gL, ev_gCons, ev_gNil, ev_gV, ev_gC, ev_gF, ev_gRet, ev_gDrop, ev_gFor, ev_gIt, ev_gIt2, ev_gLc, ev_gIf, ev_gAndT, ev_gOrT, ev_gNotT, ev_gAndV, ev_gOrV, ev_gNotV, ev_gChain, ev_gRaise, ev_bind, ev_bindE, ev_lift, ev_thenS, ev_thenE, ev_look0, ev_lookS, ev_boolD, ev_truB, List.set_cons_zero, List.set_cons_succ, ev_maskD, ev_maskI, ev_maskO, ev_mask0, ev_seqL, ev_seqT, ev_ixL, ev_ixT, ev_addI, ev_eqI, ev_neI, ev_endR, ev_endN, ev_endE, Option.map_some, Bool.false_eq_true, if_false, if_true, reduceIte, Bool.not_true, Bool.not_false, ev_lstB (show ([] : List PyData).length ≤ 16000000 by simp)])]
    rfl
  have hp := c_price (s := goZ s w ch d) h hg
  unfold g_Cart_go
  rw [ev_seq t1, ev_seq t2, ev_seq t3, ev_seq t4, ev_gRetC, ev_gMR]
  have e : noF "price" (look [crt n os (goZ s w ch d), .int w, .int ch, encDe d, encB s.N.b] 0) = .ok (crt n os (goZ s w ch d)) := no_price _ _ _ _
  rw [e]
  simp (implicitDefEqProofs := false) only [ev_gSeq, ev_gSet, ev_gIfS, ev_gTb, ev_gTr, ev_gB, ev_gU, ev_gL, ev_gCons, ev_gNil, ev_gV, ev_gC, ev_gF, ev_gRet, ev_gDrop, ev_gFor, ev_gIt, ev_gIt2, ev_gLc, ev_gIf, ev_gAndT, ev_gOrT, ev_gNotT, ev_gAndV, ev_gOrV, ev_gNotV, ev_gChain, ev_gRaise, ev_bind, ev_bindE, ev_lift, ev_thenS, ev_thenE, ev_look0, ev_lookS, ev_boolD, ev_truB, List.set_cons_zero, List.set_cons_succ, ev_maskD, ev_maskI, ev_maskO, ev_mask0, ev_seqL, ev_seqT, ev_ixL, ev_ixT, ev_addI, ev_eqI, ev_neI, ev_endR, ev_endN, ev_endE, Option.map_some, Bool.false_eq_true, if_false, if_true, reduceIte, Bool.not_true, Bool.not_false, hp, ev_xOk, ev_xS, ev_endCR]
def wmZ (n : Int) (x y : PyData) : Option (Int × Int) := match x, y with
  | .int w, .int m => if (decide (0 ≤ w) && decide (w ≤ n - 1)) && (decide (1 ≤ m) && decide (m ≤ 9)) then some (w, m) else none
  | _, _ => none
theorem wmZ_none (h : wmZ n x y = none) : (withB x 0 (n - 1) && withB y 1 9) = false := by
  cases x with
  | int w =>
    cases y with
    | int m =>
      have h : (if (decide (0 ≤ w) && decide (w ≤ n - 1)) && (decide (1 ≤ m) && decide (m ≤ 9)) then some (w, m) else none) = none := h
      show ((decide (0 ≤ w) && decide (w ≤ n - 1)) && (decide (1 ≤ m) && decide (m ≤ 9))) = false
      split at h
      · cases h
      · rename_i e
        simpa using e
    | _ => simp [withB]
  | _ => simp [withB]
theorem wmZ_some {m : Int} (h : wmZ n x y = some (w, m)) : x = .int w ∧ y = .int m ∧ 0 ≤ w ∧ w < n ∧ 1 ≤ m ∧ m ≤ 9 := by
  cases x with
  | int v =>
    cases y with
    | int k =>
      have h : (if (decide (0 ≤ v) && decide (v ≤ n - 1)) && (decide (1 ≤ k) && decide (k ≤ 9)) then some (v, k) else none) = some (w, m) := h
      split at h
      · rename_i e
        cases h
        simp at e
        exact ⟨rfl, rfl, by omega, by omega, by omega, by omega⟩
      · cases h
    | _ => cases h
  | _ => cases h
theorem need_no (hx : notDict x = true) (hy : notDict y = true) (h : wmZ n x y = none) : m_Cart_need [crt n os s, x, y] = .error (.exc "BadBasket") := by
  rw [c_need hx hy, wmZ_none h]; rfl
theorem need_yes {m : Int} (w0 : 0 ≤ w) (wn : w < n) (m1 : 1 ≤ m) (m9 : m ≤ 9) : m_Cart_need [crt n os s, .int w, .int m] = .ok .none := by
  rw [c_need rfl rfl]
  have : (withB (.int w) 0 (n - 1) && withB (.int m) 1 9) = true := by
    show ((decide (0 ≤ w) && decide (w ≤ n - 1)) && (decide (1 ≤ m) && decide (m ≤ 9))) = true
    simp; omega
  rw [this]; rfl
theorem ltCI (i j : Int) : dLtI (.int i) (.int j) = some (.bool (decide (i < j))) := rfl
theorem gtCI (i j : Int) : dGtI (.int i) (.int j) = some (.bool (decide (i > j))) := rfl
theorem c_put_no (hx : notDict x = true) (hy : notDict y = true) (h : wmZ n x y = none) : m_Cart_put [crt n os s, x, y] = .error (.exc "BadBasket", crt n os s) := by
  show endC (g_Cart_put [crt n os s, x, y]) = _
  have e : noF "need" (crt n os s) = .ok (crt n os s) := no_need _ _ _ _
  have t1 : gDrop (gMR 0 "need" m_Cart_need (gCons (gV 1) (gCons (gV 2) gNil))) [crt n os s, x, y] = .er (.exc "BadBasket") [crt n os s, x, y] := by
    simp (implicitDefEqProofs := false) only [ev_gMR, ev_gSeq, ev_gSet, ev_gIfS, ev_gTb, ev_gTr, ev_gB, ev_gU, ev_gL, ev_gCons, ev_gNil, ev_gV, ev_gC, ev_gF, ev_gRet, ev_gDrop, ev_gFor, ev_gIt, ev_gIt2, ev_gLc, ev_gIf, ev_gAndT, ev_gOrT, ev_gNotT, ev_gAndV, ev_gOrV, ev_gNotV, ev_gChain, ev_gRaise, ev_bind, ev_bindE, ev_lift, ev_thenS, ev_thenE, ev_look0, ev_lookS, ev_boolD, ev_truB, List.set_cons_zero, List.set_cons_succ, ev_maskD, ev_maskI, ev_maskO, ev_mask0, ev_seqL, ev_seqT, ev_ixL, ev_ixT, ev_addI, ev_eqI, ev_neI, ev_endR, ev_endN, ev_endE, Option.map_some, Bool.false_eq_true, if_false, if_true, reduceIte, Bool.not_true, Bool.not_false, e, need_no hx hy h]
  unfold g_Cart_put
  rw [ev_seqE t1, ev_endCE]; rfl
theorem c_take_no (hx : notDict x = true) (hy : notDict y = true) (h : wmZ n x y = none) : m_Cart_take [crt n os s, x, y] = .error (.exc "BadBasket", crt n os s) := by
  show endC (g_Cart_take [crt n os s, x, y]) = _
  have e : noF "need" (crt n os s) = .ok (crt n os s) := no_need _ _ _ _
  have t1 : gDrop (gMR 0 "need" m_Cart_need (gCons (gV 1) (gCons (gV 2) gNil))) [crt n os s, x, y] = .er (.exc "BadBasket") [crt n os s, x, y] := by
    simp (implicitDefEqProofs := false) only [ev_gMR, ev_gSeq, ev_gSet, ev_gIfS, ev_gTb, ev_gTr, ev_gB, ev_gU, ev_gL, ev_gCons, ev_gNil, ev_gV, ev_gC, ev_gF, ev_gRet, ev_gDrop, ev_gFor, ev_gIt, ev_gIt2, ev_gLc, ev_gIf, ev_gAndT, ev_gOrT, ev_gNotT, ev_gAndV, ev_gOrV, ev_gNotV, ev_gChain, ev_gRaise, ev_bind, ev_bindE, ev_lift, ev_thenS, ev_thenE, ev_look0, ev_lookS, ev_boolD, ev_truB, List.set_cons_zero, List.set_cons_succ, ev_maskD, ev_maskI, ev_maskO, ev_mask0, ev_seqL, ev_seqT, ev_ixL, ev_ixT, ev_addI, ev_eqI, ev_neI, ev_endR, ev_endN, ev_endE, Option.map_some, Bool.false_eq_true, if_false, if_true, reduceIte, Bool.not_true, Bool.not_false, e, need_no hx hy h]
  unfold g_Cart_take
  rw [ev_seqE t1, ev_endCE]; rfl
variable {m : Int}
theorem c_put_full (hb : GoodB n s.N.b) (w0 : 0 ≤ w) (wn : w < n) (m1 : 1 ≤ m) (m9 : m ≤ 9) (hf : 9 < hasB s.N.b w + m) : m_Cart_put [crt n os s, .int w, .int m] = .error (.exc "Full", crt n os s) := by
  have hbl := hb.len
  show endC (g_Cart_put [crt n os s, .int w, .int m]) = _
  have e : noF "need" (crt n os s) = .ok (crt n os s) := no_need _ _ _ _
  have t1 : gDrop (gMR 0 "need" m_Cart_need (gCons (gV 1) (gCons (gV 2) gNil))) [crt n os s, .int w, .int m] = .nx [crt n os s, .int w, .int m] := by
    simp (implicitDefEqProofs := false) only [ev_gMR, ev_gSeq, ev_gSet, ev_gIfS, ev_gTb, ev_gTr, ev_gB, ev_gU, ev_gL, ev_gCons, ev_gNil, ev_gV, ev_gC, ev_gF, ev_gRet, ev_gDrop, ev_gFor, ev_gIt, ev_gIt2, ev_gLc, ev_gIf, ev_gAndT, ev_gOrT, ev_gNotT, ev_gAndV, ev_gOrV, ev_gNotV, ev_gChain, ev_gRaise, ev_bind, ev_bindE, ev_lift, ev_thenS, ev_thenE, ev_look0, ev_lookS, ev_boolD, ev_truB, List.set_cons_zero, List.set_cons_succ, ev_maskD, ev_maskI, ev_maskO, ev_mask0, ev_seqL, ev_seqT, ev_ixL, ev_ixT, ev_addI, ev_eqI, ev_neI, ev_endR, ev_endN, ev_endE, Option.map_some, Bool.false_eq_true, if_false, if_true, reduceIte, Bool.not_true, Bool.not_false, e, need_yes w0 wn m1 m9]
  have t2 : (gIfS (gTb (gB dGtI (gB dAdd (gB dIx (gB dIx (gFld 0 "now") (gC (.int 0))) (gV 1)) (gV 2)) (gC (.int 9)))) (gRaise "Full") SR.nx) [crt n os s, .int w, .int m] = .er (.exc "Full") [crt n os s, .int w, .int m] := by
    simp (implicitDefEqProofs := false) only [crt, ev_gFld, fld_now, ev_gSeq, ev_gSet, ev_gIfS, ev_gTb, ev_gTr, ev_gB, ev_gU, ev_gL, ev_gCons, ev_gNil, ev_gV, ev_gC, ev_gF, ev_gRet, ev_gDrop, ev_gFor, ev_gIt, ev_gIt2, ev_gLc, ev_gIf, ev_gAndT, ev_gOrT, ev_gNotT, ev_gAndV, ev_gOrV, ev_gNotV, ev_gChain, ev_gRaise, ev_bind, ev_bindE, ev_lift, ev_thenS, ev_thenE, ev_look0, ev_lookS, ev_boolD, ev_truB, List.set_cons_zero, List.set_cons_succ, ev_maskD, ev_maskI, ev_maskO, ev_mask0, ev_seqL, ev_seqT, ev_ixL, ev_ixT, ev_addI, ev_eqI, ev_neI, ev_endR, ev_endN, ev_endE, Option.map_some, Bool.false_eq_true, if_false, if_true, reduceIte, Bool.not_true, Bool.not_false, ix_M0, ix_has w0 (show w < s.N.b.length by omega), gtCI, show decide (hasB s.N.b w + m > 9) = true from decide_eq_true hf]
  unfold g_Cart_put
  rw [ev_seq t1, ev_seqE t2, ev_endCE]; rfl
theorem c_put (h : GoodL n os) (hb : GoodB n s.N.b) (w0 : 0 ≤ w) (wn : w < n) (m1 : 1 ≤ m) (m9 : m ≤ 9) (hf : ¬ 9 < hasB s.N.b w + m) (hA : s.A.length ≤ 999) (hl : s.N.l.length ≤ 999) :
    m_Cart_put [crt n os s, .int w, .int m] = .ok (optI (costZ (packsZ n os) (goZ s w m ⟨true, w, m⟩).N.b), crt n os (goZ s w m ⟨true, w, m⟩)) := by
  have hbl := hb.len
  have h9 := has_in hb w0 wn
  show endC (g_Cart_put [crt n os s, .int w, .int m]) = _
  have e : noF "need" (crt n os s) = .ok (crt n os s) := no_need _ _ _ _
  have e2 : noF "go" (crt n os s) = .ok (crt n os s) := no_go _ _ _ _
  have t1 : gDrop (gMR 0 "need" m_Cart_need (gCons (gV 1) (gCons (gV 2) gNil))) [crt n os s, .int w, .int m] = .nx [crt n os s, .int w, .int m] := by
    simp (implicitDefEqProofs := false) only [ev_gMR, ev_gSeq, ev_gSet, ev_gIfS, ev_gTb, ev_gTr, ev_gB, ev_gU, ev_gL, ev_gCons, ev_gNil, ev_gV, ev_gC, ev_gF, ev_gRet, ev_gDrop, ev_gFor, ev_gIt, ev_gIt2, ev_gLc, ev_gIf, ev_gAndT, ev_gOrT, ev_gNotT, ev_gAndV, ev_gOrV, ev_gNotV, ev_gChain, ev_gRaise, ev_bind, ev_bindE, ev_lift, ev_thenS, ev_thenE, ev_look0, ev_lookS, ev_boolD, ev_truB, List.set_cons_zero, List.set_cons_succ, ev_maskD, ev_maskI, ev_maskO, ev_mask0, ev_seqL, ev_seqT, ev_ixL, ev_ixT, ev_addI, ev_eqI, ev_neI, ev_endR, ev_endN, ev_endE, Option.map_some, Bool.false_eq_true, if_false, if_true, reduceIte, Bool.not_true, Bool.not_false, e, need_yes w0 wn m1 m9]
  have t2 : (gIfS (gTb (gB dGtI (gB dAdd (gB dIx (gB dIx (gFld 0 "now") (gC (.int 0))) (gV 1)) (gV 2)) (gC (.int 9)))) (gRaise "Full") SR.nx) [crt n os s, .int w, .int m] = .nx [crt n os s, .int w, .int m] := by
    simp (implicitDefEqProofs := false) only [crt, ev_gFld, fld_now, ev_gSeq, ev_gSet, ev_gIfS, ev_gTb, ev_gTr, ev_gB, ev_gU, ev_gL, ev_gCons, ev_gNil, ev_gV, ev_gC, ev_gF, ev_gRet, ev_gDrop, ev_gFor, ev_gIt, ev_gIt2, ev_gLc, ev_gIf, ev_gAndT, ev_gOrT, ev_gNotT, ev_gAndV, ev_gOrV, ev_gNotV, ev_gChain, ev_gRaise, ev_bind, ev_bindE, ev_lift, ev_thenS, ev_thenE, ev_look0, ev_lookS, ev_boolD, ev_truB, List.set_cons_zero, List.set_cons_succ, ev_maskD, ev_maskI, ev_maskO, ev_mask0, ev_seqL, ev_seqT, ev_ixL, ev_ixT, ev_addI, ev_eqI, ev_neI, ev_endR, ev_endN, ev_endE, Option.map_some, Bool.false_eq_true, if_false, if_true, reduceIte, Bool.not_true, Bool.not_false, ix_M0, ix_has w0 (show w < s.N.b.length by omega), gtCI, show decide (hasB s.N.b w + m > 9) = false from decide_eq_false hf]
  have eg := c_go (d := ⟨true, w, m⟩) h hb w0 wn (goodB_put (w := w) (v := hasB s.N.b w + m) hb (by omega) (by omega)) hA hl
  have eg : m_Cart_go [crt n os s, .int w, .int m, .tuple [.str "put", .int w, .int m]] = _ := eg
  unfold g_Cart_put
  rw [ev_seq t1, ev_seq t2, ev_gRetC, ev_gMC]
  simp (implicitDefEqProofs := false) only [ev_gSeq, ev_gSet, ev_gIfS, ev_gTb, ev_gTr, ev_gB, ev_gU, ev_gL, ev_gCons, ev_gNil, ev_gV, ev_gC, ev_gF, ev_gRet, ev_gDrop, ev_gFor, ev_gIt, ev_gIt2, ev_gLc, ev_gIf, ev_gAndT, ev_gOrT, ev_gNotT, ev_gAndV, ev_gOrV, ev_gNotV, ev_gChain, ev_gRaise, ev_bind, ev_bindE, ev_lift, ev_thenS, ev_thenE, ev_look0, ev_lookS, ev_boolD, ev_truB, List.set_cons_zero, List.set_cons_succ, ev_maskD, ev_maskI, ev_maskO, ev_mask0, ev_seqL, ev_seqT, ev_ixL, ev_ixT, ev_addI, ev_eqI, ev_neI, ev_endR, ev_endN, ev_endE, Option.map_some, Bool.false_eq_true, if_false, if_true, reduceIte, Bool.not_true, Bool.not_false, e2, ev_tupB (show [PyData.str "put", .int w, .int m].length ≤ 16000000 by simp), ev_xOk, ev_xBind, eg, ev_outOk, ev_xS, ev_endCR]
theorem c_take_few (hb : GoodB n s.N.b) (w0 : 0 ≤ w) (wn : w < n) (m1 : 1 ≤ m) (m9 : m ≤ 9) (hf : hasB s.N.b w < m) : m_Cart_take [crt n os s, .int w, .int m] = .error (.exc "BadBasket", crt n os s) := by
  have hbl := hb.len
  show endC (g_Cart_take [crt n os s, .int w, .int m]) = _
  have e : noF "need" (crt n os s) = .ok (crt n os s) := no_need _ _ _ _
  have t1 : gDrop (gMR 0 "need" m_Cart_need (gCons (gV 1) (gCons (gV 2) gNil))) [crt n os s, .int w, .int m] = .nx [crt n os s, .int w, .int m] := by
    simp (implicitDefEqProofs := false) only [ev_gMR, ev_gSeq, ev_gSet, ev_gIfS, ev_gTb, ev_gTr, ev_gB, ev_gU, ev_gL, ev_gCons, ev_gNil, ev_gV, ev_gC, ev_gF, ev_gRet, ev_gDrop, ev_gFor, ev_gIt, ev_gIt2, ev_gLc, ev_gIf, ev_gAndT, ev_gOrT, ev_gNotT, ev_gAndV, ev_gOrV, ev_gNotV, ev_gChain, ev_gRaise, ev_bind, ev_bindE, ev_lift, ev_thenS, ev_thenE, ev_look0, ev_lookS, ev_boolD, ev_truB, List.set_cons_zero, List.set_cons_succ, ev_maskD, ev_maskI, ev_maskO, ev_mask0, ev_seqL, ev_seqT, ev_ixL, ev_ixT, ev_addI, ev_eqI, ev_neI, ev_endR, ev_endN, ev_endE, Option.map_some, Bool.false_eq_true, if_false, if_true, reduceIte, Bool.not_true, Bool.not_false, e, need_yes w0 wn m1 m9]
  have t2 : (gIfS (gTb (gB dLtI (gB dIx (gB dIx (gFld 0 "now") (gC (.int 0))) (gV 1)) (gV 2))) (gRaise "BadBasket") SR.nx) [crt n os s, .int w, .int m] = .er (.exc "BadBasket") [crt n os s, .int w, .int m] := by
    simp (implicitDefEqProofs := false) only [crt, ev_gFld, fld_now, ev_gSeq, ev_gSet, ev_gIfS, ev_gTb, ev_gTr, ev_gB, ev_gU, ev_gL, ev_gCons, ev_gNil, ev_gV, ev_gC, ev_gF, ev_gRet, ev_gDrop, ev_gFor, ev_gIt, ev_gIt2, ev_gLc, ev_gIf, ev_gAndT, ev_gOrT, ev_gNotT, ev_gAndV, ev_gOrV, ev_gNotV, ev_gChain, ev_gRaise, ev_bind, ev_bindE, ev_lift, ev_thenS, ev_thenE, ev_look0, ev_lookS, ev_boolD, ev_truB, List.set_cons_zero, List.set_cons_succ, ev_maskD, ev_maskI, ev_maskO, ev_mask0, ev_seqL, ev_seqT, ev_ixL, ev_ixT, ev_addI, ev_eqI, ev_neI, ev_endR, ev_endN, ev_endE, Option.map_some, Bool.false_eq_true, if_false, if_true, reduceIte, Bool.not_true, Bool.not_false, ix_M0, ix_has w0 (show w < s.N.b.length by omega), ltCI, decide_eq_true hf]
  unfold g_Cart_take
  rw [ev_seq t1, ev_seqE t2, ev_endCE]; rfl
theorem c_take (h : GoodL n os) (hb : GoodB n s.N.b) (w0 : 0 ≤ w) (wn : w < n) (m1 : 1 ≤ m) (m9 : m ≤ 9) (hf : ¬ hasB s.N.b w < m) (hA : s.A.length ≤ 999) (hl : s.N.l.length ≤ 999) :
    m_Cart_take [crt n os s, .int w, .int m] = .ok (optI (costZ (packsZ n os) (goZ s w (0 - m) ⟨false, w, m⟩).N.b), crt n os (goZ s w (0 - m) ⟨false, w, m⟩)) := by
  have hbl := hb.len
  have h9 := has_in hb w0 wn
  show endC (g_Cart_take [crt n os s, .int w, .int m]) = _
  have e : noF "need" (crt n os s) = .ok (crt n os s) := no_need _ _ _ _
  have e2 : noF "go" (crt n os s) = .ok (crt n os s) := no_go _ _ _ _
  have t1 : gDrop (gMR 0 "need" m_Cart_need (gCons (gV 1) (gCons (gV 2) gNil))) [crt n os s, .int w, .int m] = .nx [crt n os s, .int w, .int m] := by
    simp (implicitDefEqProofs := false) only [ev_gMR, ev_gSeq, ev_gSet, ev_gIfS, ev_gTb, ev_gTr, ev_gB, ev_gU, ev_gL, ev_gCons, ev_gNil, ev_gV, ev_gC, ev_gF, ev_gRet, ev_gDrop, ev_gFor, ev_gIt, ev_gIt2, ev_gLc, ev_gIf, ev_gAndT, ev_gOrT, ev_gNotT, ev_gAndV, ev_gOrV, ev_gNotV, ev_gChain, ev_gRaise, ev_bind, ev_bindE, ev_lift, ev_thenS, ev_thenE, ev_look0, ev_lookS, ev_boolD, ev_truB, List.set_cons_zero, List.set_cons_succ, ev_maskD, ev_maskI, ev_maskO, ev_mask0, ev_seqL, ev_seqT, ev_ixL, ev_ixT, ev_addI, ev_eqI, ev_neI, ev_endR, ev_endN, ev_endE, Option.map_some, Bool.false_eq_true, if_false, if_true, reduceIte, Bool.not_true, Bool.not_false, e, need_yes w0 wn m1 m9]
  have t2 : (gIfS (gTb (gB dLtI (gB dIx (gB dIx (gFld 0 "now") (gC (.int 0))) (gV 1)) (gV 2))) (gRaise "BadBasket") SR.nx) [crt n os s, .int w, .int m] = .nx [crt n os s, .int w, .int m] := by
    simp (implicitDefEqProofs := false) only [crt, ev_gFld, fld_now, ev_gSeq, ev_gSet, ev_gIfS, ev_gTb, ev_gTr, ev_gB, ev_gU, ev_gL, ev_gCons, ev_gNil, ev_gV, ev_gC, ev_gF, ev_gRet, ev_gDrop, ev_gFor, ev_gIt, ev_gIt2, ev_gLc, ev_gIf, ev_gAndT, ev_gOrT, ev_gNotT, ev_gAndV, ev_gOrV, ev_gNotV, ev_gChain, ev_gRaise, ev_bind, ev_bindE, ev_lift, ev_thenS, ev_thenE, ev_look0, ev_lookS, ev_boolD, ev_truB, List.set_cons_zero, List.set_cons_succ, ev_maskD, ev_maskI, ev_maskO, ev_mask0, ev_seqL, ev_seqT, ev_ixL, ev_ixT, ev_addI, ev_eqI, ev_neI, ev_endR, ev_endN, ev_endE, Option.map_some, Bool.false_eq_true, if_false, if_true, reduceIte, Bool.not_true, Bool.not_false, ix_M0, ix_has w0 (show w < s.N.b.length by omega), ltCI, decide_eq_false hf]
  have eg := c_go (d := ⟨false, w, m⟩) (ch := 0 - m) h hb w0 wn (goodB_put (w := w) (v := hasB s.N.b w + (0 - m)) hb (by omega) (by omega)) hA hl
  have eg : m_Cart_go [crt n os s, .int w, .int (0 - m), .tuple [.str "take", .int w, .int m]] = _ := eg
  unfold g_Cart_take
  rw [ev_seq t1, ev_seq t2, ev_gRetC, ev_gMC]
  simp (implicitDefEqProofs := false) only [ev_gSeq, ev_gSet, ev_gIfS, ev_gTb, ev_gTr, ev_gB, ev_gU, ev_gL, ev_gCons, ev_gNil, ev_gV, ev_gC, ev_gF, ev_gRet, ev_gDrop, ev_gFor, ev_gIt, ev_gIt2, ev_gLc, ev_gIf, ev_gAndT, ev_gOrT, ev_gNotT, ev_gAndV, ev_gOrV, ev_gNotV, ev_gChain, ev_gRaise, ev_bind, ev_bindE, ev_lift, ev_thenS, ev_thenE, ev_look0, ev_lookS, ev_boolD, ev_truB, List.set_cons_zero, List.set_cons_succ, ev_maskD, ev_maskI, ev_maskO, ev_mask0, ev_seqL, ev_seqT, ev_ixL, ev_ixT, ev_addI, ev_eqI, ev_neI, ev_endR, ev_endN, ev_endE, Option.map_some, Bool.false_eq_true, if_false, if_true, reduceIte, Bool.not_true, Bool.not_false, e2, ev_subI, ev_tupB (show [PyData.str "take", .int w, .int m].length ≤ 16000000 by simp), ev_xOk, ev_xBind, eg, ev_outOk, ev_xS, ev_endCR]
theorem c_undo_no (e : s.A = []) : m_Cart_undo [crt n os s] = .error (.exc "NoDeed", crt n os s) := by
  show endC (g_Cart_undo [crt n os s]) = _
  have t1 : (gIfS (gNotT (gTrF 0 "past")) (gRaise "NoDeed") SR.nx) [crt n os s] = .er (.exc "NoDeed") [crt n os s] := by
    simp (implicitDefEqProofs := false) only [crt, ev_gTrF, tr_past, ev_gSeq, ev_gSet, ev_gIfS, ev_gTb, ev_gTr, ev_gB, ev_gU, ev_gL, ev_gCons, ev_gNil, ev_gV, ev_gC, ev_gF, ev_gRet, ev_gDrop, ev_gFor, ev_gIt, ev_gIt2, ev_gLc, ev_gIf, ev_gAndT, ev_gOrT, ev_gNotT, ev_gAndV, ev_gOrV, ev_gNotV, ev_gChain, ev_gRaise, ev_bind, ev_bindE, ev_lift, ev_thenS, ev_thenE, ev_look0, ev_lookS, ev_boolD, ev_truB, List.set_cons_zero, List.set_cons_succ, ev_maskD, ev_maskI, ev_maskO, ev_mask0, ev_seqL, ev_seqT, ev_ixL, ev_ixT, ev_addI, ev_eqI, ev_neI, ev_endR, ev_endN, ev_endE, Option.map_some, Bool.false_eq_true, if_false, if_true, reduceIte, Bool.not_true, Bool.not_false, e, List.map_nil, List.isEmpty_nil]
  unfold g_Cart_undo
  rw [ev_seqE t1, ev_endCE]; rfl
theorem c_undo {x : Mo} {A : List Mo} (e : s.A = A ++ [x]) (hL : s.L.length ≤ 999) : m_Cart_undo [crt n os s] = .ok (.none, crt n os ⟨x, A, s.L ++ [s.N]⟩) := by
  obtain ⟨N, B, L⟩ := s
  have e : B = A ++ [x] := e
  subst e
  show endC (g_Cart_undo [cartD (encL n os) (encM N) ((A ++ [x]).map encM) (L.map encM)]) = _
  have hem : ((A ++ [x]).map encM).isEmpty = false := by simp
  have t1 : (gIfS (gNotT (gTrF 0 "past")) (gRaise "NoDeed") SR.nx) [cartD (encL n os) (encM N) ((A ++ [x]).map encM) (L.map encM)] = .nx [cartD (encL n os) (encM N) ((A ++ [x]).map encM) (L.map encM)] := by
    simp (implicitDefEqProofs := false) only [ev_gTrF, tr_past, ev_gSeq, ev_gSet, ev_gIfS, ev_gTb, ev_gTr, ev_gB, ev_gU, ev_gL, ev_gCons, ev_gNil, ev_gV, ev_gC, ev_gF, ev_gRet, ev_gDrop, ev_gFor, ev_gIt, ev_gIt2, ev_gLc, ev_gIf, ev_gAndT, ev_gOrT, ev_gNotT, ev_gAndV, ev_gOrV, ev_gNotV, ev_gChain, ev_gRaise, ev_bind, ev_bindE, ev_lift, ev_thenS, ev_thenE, ev_look0, ev_lookS, ev_boolD, ev_truB, List.set_cons_zero, List.set_cons_succ, ev_maskD, ev_maskI, ev_maskO, ev_mask0, ev_seqL, ev_seqT, ev_ixL, ev_ixT, ev_addI, ev_eqI, ev_neI, ev_endR, ev_endN, ev_endE, Option.map_some, Bool.false_eq_true, if_false, if_true, reduceIte, Bool.not_true, Bool.not_false, hem]
  have t2 : gAppF 0 "later" (gFld 0 "now") [cartD (encL n os) (encM N) ((A ++ [x]).map encM) (L.map encM)] = .nx [cartD (encL n os) (encM N) (A.map encM ++ [encM x]) ((L ++ [N]).map encM)] := by
    rw [do_appLater (P := encL n os) (N := encM N) (A := (A ++ [x]).map encM) (L := L.map encM) (d := encM N) rfl (by simp (implicitDefEqProofs := false) only [ev_gFld, fld_now, ev_gSeq, ev_gSet, ev_gIfS, ev_gTb, ev_gTr, ev_gB, ev_gU, ev_gL, ev_gCons, ev_gNil, ev_gV, ev_gC, ev_gF, ev_gRet, ev_gDrop, ev_gFor, ev_gIt, ev_gIt2, ev_gLc, ev_gIf, ev_gAndT, ev_gOrT, ev_gNotT, ev_gAndV, ev_gOrV, ev_gNotV, ev_gChain, ev_gRaise, ev_bind, ev_bindE, ev_lift, ev_thenS, ev_thenE, ev_look0, ev_lookS, ev_boolD, ev_truB, List.set_cons_zero, List.set_cons_succ, ev_maskD, ev_maskI, ev_maskO, ev_mask0, ev_seqL, ev_seqT, ev_ixL, ev_ixT, ev_addI, ev_eqI, ev_neI, ev_endR, ev_endN, ev_endE, Option.map_some, Bool.false_eq_true, if_false, if_true, reduceIte, Bool.not_true, Bool.not_false]) (by simp; have : L.length ≤ 999 := hL; omega)]
    simp (implicitDefEqProofs := false) only [List.map_append, List.map_cons, List.map_nil, ev_gSeq, ev_gSet, ev_gIfS, ev_gTb, ev_gTr, ev_gB, ev_gU, ev_gL, ev_gCons, ev_gNil, ev_gV, ev_gC, ev_gF, ev_gRet, ev_gDrop, ev_gFor, ev_gIt, ev_gIt2, ev_gLc, ev_gIf, ev_gAndT, ev_gOrT, ev_gNotT, ev_gAndV, ev_gOrV, ev_gNotV, ev_gChain, ev_gRaise, ev_bind, ev_bindE, ev_lift, ev_thenS, ev_thenE, ev_look0, ev_lookS, ev_boolD, ev_truB, List.set_cons_zero, List.set_cons_succ, ev_maskD, ev_maskI, ev_maskO, ev_mask0, ev_seqL, ev_seqT, ev_ixL, ev_ixT, ev_addI, ev_eqI, ev_neI, ev_endR, ev_endN, ev_endE, Option.map_some, Bool.false_eq_true, if_false, if_true, reduceIte, Bool.not_true, Bool.not_false]
  unfold g_Cart_undo
  rw [ev_seq t1, ev_seq t2, do_popPast (P := encL n os) (N := encM N) (A := A.map encM) (L := (L ++ [N]).map encM) (d := encM x) rfl, ev_endCN]
  rfl
theorem c_redo_no (e : s.L = []) : m_Cart_redo [crt n os s] = .error (.exc "NoDeed", crt n os s) := by
  show endC (g_Cart_redo [crt n os s]) = _
  have t1 : (gIfS (gNotT (gTrF 0 "later")) (gRaise "NoDeed") SR.nx) [crt n os s] = .er (.exc "NoDeed") [crt n os s] := by
    simp (implicitDefEqProofs := false) only [crt, ev_gTrF, tr_later, ev_gSeq, ev_gSet, ev_gIfS, ev_gTb, ev_gTr, ev_gB, ev_gU, ev_gL, ev_gCons, ev_gNil, ev_gV, ev_gC, ev_gF, ev_gRet, ev_gDrop, ev_gFor, ev_gIt, ev_gIt2, ev_gLc, ev_gIf, ev_gAndT, ev_gOrT, ev_gNotT, ev_gAndV, ev_gOrV, ev_gNotV, ev_gChain, ev_gRaise, ev_bind, ev_bindE, ev_lift, ev_thenS, ev_thenE, ev_look0, ev_lookS, ev_boolD, ev_truB, List.set_cons_zero, List.set_cons_succ, ev_maskD, ev_maskI, ev_maskO, ev_mask0, ev_seqL, ev_seqT, ev_ixL, ev_ixT, ev_addI, ev_eqI, ev_neI, ev_endR, ev_endN, ev_endE, Option.map_some, Bool.false_eq_true, if_false, if_true, reduceIte, Bool.not_true, Bool.not_false, e, List.map_nil, List.isEmpty_nil]
  unfold g_Cart_redo
  rw [ev_seqE t1, ev_endCE]; rfl
theorem c_redo {x : Mo} {L : List Mo} (e : s.L = L ++ [x]) (hA : s.A.length ≤ 999) : m_Cart_redo [crt n os s] = .ok (.none, crt n os ⟨x, s.A ++ [s.N], L⟩) := by
  obtain ⟨N, A, B⟩ := s
  have e : B = L ++ [x] := e
  subst e
  show endC (g_Cart_redo [cartD (encL n os) (encM N) (A.map encM) ((L ++ [x]).map encM)]) = _
  have hem : ((L ++ [x]).map encM).isEmpty = false := by simp
  have t1 : (gIfS (gNotT (gTrF 0 "later")) (gRaise "NoDeed") SR.nx) [cartD (encL n os) (encM N) (A.map encM) ((L ++ [x]).map encM)] = .nx [cartD (encL n os) (encM N) (A.map encM) ((L ++ [x]).map encM)] := by
    simp (implicitDefEqProofs := false) only [ev_gTrF, tr_later, ev_gSeq, ev_gSet, ev_gIfS, ev_gTb, ev_gTr, ev_gB, ev_gU, ev_gL, ev_gCons, ev_gNil, ev_gV, ev_gC, ev_gF, ev_gRet, ev_gDrop, ev_gFor, ev_gIt, ev_gIt2, ev_gLc, ev_gIf, ev_gAndT, ev_gOrT, ev_gNotT, ev_gAndV, ev_gOrV, ev_gNotV, ev_gChain, ev_gRaise, ev_bind, ev_bindE, ev_lift, ev_thenS, ev_thenE, ev_look0, ev_lookS, ev_boolD, ev_truB, List.set_cons_zero, List.set_cons_succ, ev_maskD, ev_maskI, ev_maskO, ev_mask0, ev_seqL, ev_seqT, ev_ixL, ev_ixT, ev_addI, ev_eqI, ev_neI, ev_endR, ev_endN, ev_endE, Option.map_some, Bool.false_eq_true, if_false, if_true, reduceIte, Bool.not_true, Bool.not_false, hem]
  have t2 : gAppF 0 "past" (gFld 0 "now") [cartD (encL n os) (encM N) (A.map encM) ((L ++ [x]).map encM)] = .nx [cartD (encL n os) (encM N) ((A ++ [N]).map encM) (L.map encM ++ [encM x])] := by
    rw [do_appPast (P := encL n os) (N := encM N) (A := A.map encM) (L := (L ++ [x]).map encM) (d := encM N) rfl (by simp (implicitDefEqProofs := false) only [ev_gFld, fld_now, ev_gSeq, ev_gSet, ev_gIfS, ev_gTb, ev_gTr, ev_gB, ev_gU, ev_gL, ev_gCons, ev_gNil, ev_gV, ev_gC, ev_gF, ev_gRet, ev_gDrop, ev_gFor, ev_gIt, ev_gIt2, ev_gLc, ev_gIf, ev_gAndT, ev_gOrT, ev_gNotT, ev_gAndV, ev_gOrV, ev_gNotV, ev_gChain, ev_gRaise, ev_bind, ev_bindE, ev_lift, ev_thenS, ev_thenE, ev_look0, ev_lookS, ev_boolD, ev_truB, List.set_cons_zero, List.set_cons_succ, ev_maskD, ev_maskI, ev_maskO, ev_mask0, ev_seqL, ev_seqT, ev_ixL, ev_ixT, ev_addI, ev_eqI, ev_neI, ev_endR, ev_endN, ev_endE, Option.map_some, Bool.false_eq_true, if_false, if_true, reduceIte, Bool.not_true, Bool.not_false]) (by simp; have : A.length ≤ 999 := hA; omega)]
    simp (implicitDefEqProofs := false) only [List.map_append, List.map_cons, List.map_nil, ev_gSeq, ev_gSet, ev_gIfS, ev_gTb, ev_gTr, ev_gB, ev_gU, ev_gL, ev_gCons, ev_gNil, ev_gV, ev_gC, ev_gF, ev_gRet, ev_gDrop, ev_gFor, ev_gIt, ev_gIt2, ev_gLc, ev_gIf, ev_gAndT, ev_gOrT, ev_gNotT, ev_gAndV, ev_gOrV, ev_gNotV, ev_gChain, ev_gRaise, ev_bind, ev_bindE, ev_lift, ev_thenS, ev_thenE, ev_look0, ev_lookS, ev_boolD, ev_truB, List.set_cons_zero, List.set_cons_succ, ev_maskD, ev_maskI, ev_maskO, ev_mask0, ev_seqL, ev_seqT, ev_ixL, ev_ixT, ev_addI, ev_eqI, ev_neI, ev_endR, ev_endN, ev_endE, Option.map_some, Bool.false_eq_true, if_false, if_true, reduceIte, Bool.not_true, Bool.not_false]
  unfold g_Cart_redo
  rw [ev_seq t1, ev_seq t2, do_popLater (P := encL n os) (N := encM N) (A := (A ++ [N]).map encM) (L := L.map encM) (d := encM x) rfl, ev_endCN]
  rfl
end
end PD
namespace PD
open PySem L2
/-! CZC: what a cart tells of a deed; deeds drawn. -/
inductive Wd where
  | put | take | undo | redo
def wdS : Wd → Str
  | .put => "put"
  | .take => "take"
  | .undo => "undo"
  | .redo => "redo"
def isPut : Wd → Bool
  | .put => true
  | _ => false
def isTake : Wd → Bool
  | .take => true
  | _ => false
def isUndo : Wd → Bool
  | .undo => true
  | _ => false
theorem lay_put : (PyData.str "put").canLay0 = true := by decide +kernel
theorem lay_take : (PyData.str "take").canLay0 = true := by decide +kernel
theorem lay_undo : (PyData.str "undo").canLay0 = true := by decide +kernel
theorem lay_redo : (PyData.str "redo").canLay0 = true := by decide +kernel
theorem lay_deed : (PyData.str "deed").canLay0 = true := by decide +kernel
theorem lay_wd (a : Wd) : (PyData.str (wdS a)).canLay0 = true := by
  cases a
  · exact lay_put
  · exact lay_take
  · exact lay_undo
  · exact lay_redo
theorem wd_eq (a : Wd) {b : Str} {k : Bool} (hb : (PyData.str b).canLay0 = true) (h : (wdS a == b) = k) : dEq (.str (wdS a)) (.str b) = some (.bool k) := by rw [dEq_str (lay_wd a) hb, h]
theorem wd_put (a : Wd) : dEq (.str (wdS a)) (.str "put") = some (.bool (isPut a)) := wd_eq a lay_put (by cases a <;> decide +kernel)
theorem wd_take (a : Wd) : dEq (.str (wdS a)) (.str "take") = some (.bool (isTake a)) := wd_eq a lay_take (by cases a <;> decide +kernel)
theorem wd_undo (a : Wd) : dEq (.str (wdS a)) (.str "undo") = some (.bool (isUndo a)) := wd_eq a lay_undo (by cases a <;> decide +kernel)
/-! ### the deed, plainly -/
noncomputable def deedZ (n : Int) (ps : List Pk) (wd : Wd) (x y : PyData) (s : Cz) : PyData × Cz := match wd with
  | .put => (match wmZ n x y with
    | none => (.str "basket", s)
    | some (w, m) => if 9 < hasB s.N.b w + m then (.str "full", s) else (optI (costZ ps (goZ s w m ⟨true, w, m⟩).N.b), goZ s w m ⟨true, w, m⟩))
  | .take => (match wmZ n x y with
    | none => (.str "basket", s)
    | some (w, m) => if hasB s.N.b w < m then (.str "basket", s) else (optI (costZ ps (goZ s w (0 - m) ⟨false, w, m⟩).N.b), goZ s w (0 - m) ⟨false, w, m⟩))
  | .undo => (match s.A.getLast? with
    | none => (.str "deed", s)
    | some x => (.none, ⟨x, s.A.dropLast, s.L ++ [s.N]⟩))
  | .redo => (match s.L.getLast? with
    | none => (.str "deed", s)
    | some x => (.none, ⟨x, s.A ++ [s.N], s.L.dropLast⟩))
theorem try_ok {xs : List Str} {gb : Rw → SR} {hs : List (Str × (Rw → SR))} {r r' : Rw} (h : gb r = .nx r') : gTry xs gb hs r = .nx r' := by unfold gTry; rw [h]
theorem try_er {xs : List Str} {gb : Rw → SR} {hs : List (Str × (Rw → SR))} {r r1 r2 : Rw} {x : Str} (h : gb r = .er (.exc x) r1) (hx : x ∈ xs) (hh : handD x r1 hs = .nx r2) : gTry xs gb hs r = .nx r2 := by
  unfold gTry; rw [h]
  show (if x ∈ xs then handD x r1 hs else .er .bad r1) = _
  rw [if_pos hx, hh]
abbrev bodyD : Rw → SR := (gIfS (gTb (gB dEq (gB dIx (gV 1) (gC (.int 0))) (gC (.str "put")))) (gSetX 2 (gMC 0 "put" m_Cart_put (gCons (gB dIx (gV 1) (gC (.int 1))) (gCons (gB dIx (gV 1) (gC (.int 2))) gNil)))) (gIfS (gTb (gB dEq (gB dIx (gV 1) (gC (.int 0))) (gC (.str "take")))) (gSetX 2 (gMC 0 "take" m_Cart_take (gCons (gB dIx (gV 1) (gC (.int 1))) (gCons (gB dIx (gV 1) (gC (.int 2))) gNil)))) (gSetX 2 (gIfEX (gTb (gB dEq (gB dIx (gV 1) (gC (.int 0))) (gC (.str "undo")))) (gMC 0 "undo" m_Cart_undo gNil) (gMC 0 "redo" m_Cart_redo gNil)))))
section
variable {n : Int} {os : List Off} {s : Cz} {x y t c c' d : PyData} {wd : Wd}
theorem deed_ok (h : bodyD [c, t, .none] = .nx [c', t, d]) : m__law_cart_deed [c, t] = .ok (d, c') := by
  show endC (g__law_cart_deed [c, t, .none]) = _
  unfold g__law_cart_deed
  rw [ev_seq (try_ok h), ev_gRetC]
  simp (implicitDefEqProofs := false) only [ev_gSeq, ev_gSet, ev_gIfS, ev_gTb, ev_gTr, ev_gB, ev_gU, ev_gL, ev_gCons, ev_gNil, ev_gV, ev_gC, ev_gF, ev_gRet, ev_gDrop, ev_gFor, ev_gIt, ev_gIt2, ev_gLc, ev_gIf, ev_gAndT, ev_gOrT, ev_gNotT, ev_gAndV, ev_gOrV, ev_gNotV, ev_gChain, ev_gRaise, ev_bind, ev_bindE, ev_lift, ev_thenS, ev_thenE, ev_look0, ev_lookS, ev_boolD, ev_truB, List.set_cons_zero, List.set_cons_succ, ev_maskD, ev_maskI, ev_maskO, ev_mask0, ev_seqL, ev_seqT, ev_ixL, ev_ixT, ev_addI, ev_eqI, ev_neI, ev_endR, ev_endN, ev_endE, Option.map_some, Bool.false_eq_true, if_false, if_true, reduceIte, Bool.not_true, Bool.not_false, ev_xOk, ev_xS, ev_endCR]
theorem n_fb : ¬ ("Full" : Str) = "BadBasket" := by decide +kernel
theorem n_db : ¬ ("NoDeed" : Str) = "BadBasket" := by decide +kernel
theorem n_df : ¬ ("NoDeed" : Str) = "Full" := by decide +kernel
theorem deed_er {e w : Str} (h : bodyD [c, t, .none] = .er (.exc e) [c', t, .none]) (k : (e = "BadBasket" ∧ w = "basket") ∨ (e = "Full" ∧ w = "full") ∨ (e = "NoDeed" ∧ w = "deed")) : m__law_cart_deed [c, t] = .ok (.str w, c') := by
  show endC (g__law_cart_deed [c, t, .none]) = _
  unfold g__law_cart_deed
  rcases k with ⟨rfl, rfl⟩ | ⟨rfl, rfl⟩ | ⟨rfl, rfl⟩
  · rw [ev_seq (try_er (r2 := [c', t, .str "basket"]) h (by simp) (by unfold handD; rw [if_pos rfl]; rfl)), ev_gRetC]
    simp (implicitDefEqProofs := false) only [ev_gSeq, ev_gSet, ev_gIfS, ev_gTb, ev_gTr, ev_gB, ev_gU, ev_gL, ev_gCons, ev_gNil, ev_gV, ev_gC, ev_gF, ev_gRet, ev_gDrop, ev_gFor, ev_gIt, ev_gIt2, ev_gLc, ev_gIf, ev_gAndT, ev_gOrT, ev_gNotT, ev_gAndV, ev_gOrV, ev_gNotV, ev_gChain, ev_gRaise, ev_bind, ev_bindE, ev_lift, ev_thenS, ev_thenE, ev_look0, ev_lookS, ev_boolD, ev_truB, List.set_cons_zero, List.set_cons_succ, ev_maskD, ev_maskI, ev_maskO, ev_mask0, ev_seqL, ev_seqT, ev_ixL, ev_ixT, ev_addI, ev_eqI, ev_neI, ev_endR, ev_endN, ev_endE, Option.map_some, Bool.false_eq_true, if_false, if_true, reduceIte, Bool.not_true, Bool.not_false, ev_xOk, ev_xS, ev_endCR]
  · rw [ev_seq (try_er (r2 := [c', t, .str "full"]) h (by simp) (by unfold handD; rw [if_neg n_fb]; unfold handD; rw [if_pos rfl]; rfl)), ev_gRetC]
    simp (implicitDefEqProofs := false) only [ev_gSeq, ev_gSet, ev_gIfS, ev_gTb, ev_gTr, ev_gB, ev_gU, ev_gL, ev_gCons, ev_gNil, ev_gV, ev_gC, ev_gF, ev_gRet, ev_gDrop, ev_gFor, ev_gIt, ev_gIt2, ev_gLc, ev_gIf, ev_gAndT, ev_gOrT, ev_gNotT, ev_gAndV, ev_gOrV, ev_gNotV, ev_gChain, ev_gRaise, ev_bind, ev_bindE, ev_lift, ev_thenS, ev_thenE, ev_look0, ev_lookS, ev_boolD, ev_truB, List.set_cons_zero, List.set_cons_succ, ev_maskD, ev_maskI, ev_maskO, ev_mask0, ev_seqL, ev_seqT, ev_ixL, ev_ixT, ev_addI, ev_eqI, ev_neI, ev_endR, ev_endN, ev_endE, Option.map_some, Bool.false_eq_true, if_false, if_true, reduceIte, Bool.not_true, Bool.not_false, ev_xOk, ev_xS, ev_endCR]
  · rw [ev_seq (try_er (r2 := [c', t, .str "deed"]) h (by simp) (by unfold handD; rw [if_neg n_db]; unfold handD; rw [if_neg n_df]; unfold handD; rw [if_pos rfl]; rfl)), ev_gRetC]
    simp (implicitDefEqProofs := false) only [ev_gSeq, ev_gSet, ev_gIfS, ev_gTb, ev_gTr, ev_gB, ev_gU, ev_gL, ev_gCons, ev_gNil, ev_gV, ev_gC, ev_gF, ev_gRet, ev_gDrop, ev_gFor, ev_gIt, ev_gIt2, ev_gLc, ev_gIf, ev_gAndT, ev_gOrT, ev_gNotT, ev_gAndV, ev_gOrV, ev_gNotV, ev_gChain, ev_gRaise, ev_bind, ev_bindE, ev_lift, ev_thenS, ev_thenE, ev_look0, ev_lookS, ev_boolD, ev_truB, List.set_cons_zero, List.set_cons_succ, ev_maskD, ev_maskI, ev_maskO, ev_mask0, ev_seqL, ev_seqT, ev_ixL, ev_ixT, ev_addI, ev_eqI, ev_neI, ev_endR, ev_endN, ev_endE, Option.map_some, Bool.false_eq_true, if_false, if_true, reduceIte, Bool.not_true, Bool.not_false, ev_xOk, ev_xS, ev_endCR]
theorem c_deed (h : GoodL n os) (hb : GoodB n s.N.b) (hA : s.A.length ≤ 999) (hL : s.L.length ≤ 999) (hl : s.N.l.length ≤ 999) (hx : notDict x = true) (hy : notDict y = true) :
    m__law_cart_deed [crt n os s, .tuple [.str (wdS wd), x, y]] = .ok ((deedZ n (packsZ n os) wd x y s).1, crt n os (deedZ n (packsZ n os) wd x y s).2) := by
  have e1 : noF "put" (crt n os s) = .ok (crt n os s) := no_put _ _ _ _
  have e2 : noF "take" (crt n os s) = .ok (crt n os s) := no_take _ _ _ _
  have e3 : noF "undo" (crt n os s) = .ok (crt n os s) := no_undo _ _ _ _
  have e4 : noF "redo" (crt n os s) = .ok (crt n os s) := no_redo _ _ _ _
  cases wd with
  | put =>
    cases ew : wmZ n x y with
    | none =>
      have ez : deedZ n (packsZ n os) .put x y s = (.str "basket", s) := by unfold deedZ; rw [ew]
      rw [ez]
      refine deed_er (e := "BadBasket") ?_ (.inl ⟨rfl, rfl⟩)
      simp (implicitDefEqProofs := false) only [ev_gSeq, ev_gSet, ev_gIfS, ev_gTb, ev_gTr, ev_gB, ev_gU, ev_gL, ev_gCons, ev_gNil, ev_gV, ev_gC, ev_gF, ev_gRet, ev_gDrop, ev_gFor, ev_gIt, ev_gIt2, ev_gLc, ev_gIf, ev_gAndT, ev_gOrT, ev_gNotT, ev_gAndV, ev_gOrV, ev_gNotV, ev_gChain, ev_gRaise, ev_bind, ev_bindE, ev_lift, ev_thenS, ev_thenE, ev_look0, ev_lookS, ev_boolD, ev_truB, List.set_cons_zero, List.set_cons_succ, ev_maskD, ev_maskI, ev_maskO, ev_mask0, ev_seqL, ev_seqT, ev_ixL, ev_ixT, ev_addI, ev_eqI, ev_neI, ev_endR, ev_endN, ev_endE, Option.map_some, Bool.false_eq_true, if_false, if_true, reduceIte, Bool.not_true, Bool.not_false, at_0, at_1, at_2, wd_put, isPut, ev_gSetX, ev_gMC, e1, c_put_no hx hy ew, ev_xOk, ev_xBind, ev_outEr, ev_xSE]
    | some wm =>
      obtain ⟨w, m⟩ := wm
      obtain ⟨rfl, rfl, w0, wn, m1, m9⟩ := wmZ_some ew
      by_cases hf : 9 < hasB s.N.b w + m
      · have ez : deedZ n (packsZ n os) .put (.int w) (.int m) s = (.str "full", s) := by unfold deedZ; rw [ew]; exact if_pos hf
        rw [ez]
        refine deed_er (e := "Full") ?_ (.inr (.inl ⟨rfl, rfl⟩))
        simp (implicitDefEqProofs := false) only [ev_gSeq, ev_gSet, ev_gIfS, ev_gTb, ev_gTr, ev_gB, ev_gU, ev_gL, ev_gCons, ev_gNil, ev_gV, ev_gC, ev_gF, ev_gRet, ev_gDrop, ev_gFor, ev_gIt, ev_gIt2, ev_gLc, ev_gIf, ev_gAndT, ev_gOrT, ev_gNotT, ev_gAndV, ev_gOrV, ev_gNotV, ev_gChain, ev_gRaise, ev_bind, ev_bindE, ev_lift, ev_thenS, ev_thenE, ev_look0, ev_lookS, ev_boolD, ev_truB, List.set_cons_zero, List.set_cons_succ, ev_maskD, ev_maskI, ev_maskO, ev_mask0, ev_seqL, ev_seqT, ev_ixL, ev_ixT, ev_addI, ev_eqI, ev_neI, ev_endR, ev_endN, ev_endE, Option.map_some, Bool.false_eq_true, if_false, if_true, reduceIte, Bool.not_true, Bool.not_false, at_0, at_1, at_2, wd_put, isPut, ev_gSetX, ev_gMC, e1, c_put_full hb w0 wn m1 m9 hf, ev_xOk, ev_xBind, ev_outEr, ev_xSE]
      · have ez : deedZ n (packsZ n os) .put (.int w) (.int m) s = (optI (costZ (packsZ n os) (goZ s w m ⟨true, w, m⟩).N.b), goZ s w m ⟨true, w, m⟩) := by unfold deedZ; rw [ew]; exact if_neg hf
        rw [ez]
        refine deed_ok ?_
        simp (implicitDefEqProofs := false) only [ev_gSeq, ev_gSet, ev_gIfS, ev_gTb, ev_gTr, ev_gB, ev_gU, ev_gL, ev_gCons, ev_gNil, ev_gV, ev_gC, ev_gF, ev_gRet, ev_gDrop, ev_gFor, ev_gIt, ev_gIt2, ev_gLc, ev_gIf, ev_gAndT, ev_gOrT, ev_gNotT, ev_gAndV, ev_gOrV, ev_gNotV, ev_gChain, ev_gRaise, ev_bind, ev_bindE, ev_lift, ev_thenS, ev_thenE, ev_look0, ev_lookS, ev_boolD, ev_truB, List.set_cons_zero, List.set_cons_succ, ev_maskD, ev_maskI, ev_maskO, ev_mask0, ev_seqL, ev_seqT, ev_ixL, ev_ixT, ev_addI, ev_eqI, ev_neI, ev_endR, ev_endN, ev_endE, Option.map_some, Bool.false_eq_true, if_false, if_true, reduceIte, Bool.not_true, Bool.not_false, at_0, at_1, at_2, wd_put, isPut, ev_gSetX, ev_gMC, e1, c_put h hb w0 wn m1 m9 hf hA hl, ev_xOk, ev_xBind, ev_outOk, ev_xS]
  | take =>
    cases ew : wmZ n x y with
    | none =>
      have ez : deedZ n (packsZ n os) .take x y s = (.str "basket", s) := by unfold deedZ; rw [ew]
      rw [ez]
      refine deed_er (e := "BadBasket") ?_ (.inl ⟨rfl, rfl⟩)
      simp (implicitDefEqProofs := false) only [ev_gSeq, ev_gSet, ev_gIfS, ev_gTb, ev_gTr, ev_gB, ev_gU, ev_gL, ev_gCons, ev_gNil, ev_gV, ev_gC, ev_gF, ev_gRet, ev_gDrop, ev_gFor, ev_gIt, ev_gIt2, ev_gLc, ev_gIf, ev_gAndT, ev_gOrT, ev_gNotT, ev_gAndV, ev_gOrV, ev_gNotV, ev_gChain, ev_gRaise, ev_bind, ev_bindE, ev_lift, ev_thenS, ev_thenE, ev_look0, ev_lookS, ev_boolD, ev_truB, List.set_cons_zero, List.set_cons_succ, ev_maskD, ev_maskI, ev_maskO, ev_mask0, ev_seqL, ev_seqT, ev_ixL, ev_ixT, ev_addI, ev_eqI, ev_neI, ev_endR, ev_endN, ev_endE, Option.map_some, Bool.false_eq_true, if_false, if_true, reduceIte, Bool.not_true, Bool.not_false, at_0, at_1, at_2, wd_put, wd_take, isPut, isTake, ev_gSetX, ev_gMC, e2, c_take_no hx hy ew, ev_xOk, ev_xBind, ev_outEr, ev_xSE]
    | some wm =>
      obtain ⟨w, m⟩ := wm
      obtain ⟨rfl, rfl, w0, wn, m1, m9⟩ := wmZ_some ew
      by_cases hf : hasB s.N.b w < m
      · have ez : deedZ n (packsZ n os) .take (.int w) (.int m) s = (.str "basket", s) := by unfold deedZ; rw [ew]; exact if_pos hf
        rw [ez]
        refine deed_er (e := "BadBasket") ?_ (.inl ⟨rfl, rfl⟩)
        simp (implicitDefEqProofs := false) only [ev_gSeq, ev_gSet, ev_gIfS, ev_gTb, ev_gTr, ev_gB, ev_gU, ev_gL, ev_gCons, ev_gNil, ev_gV, ev_gC, ev_gF, ev_gRet, ev_gDrop, ev_gFor, ev_gIt, ev_gIt2, ev_gLc, ev_gIf, ev_gAndT, ev_gOrT, ev_gNotT, ev_gAndV, ev_gOrV, ev_gNotV, ev_gChain, ev_gRaise, ev_bind, ev_bindE, ev_lift, ev_thenS, ev_thenE, ev_look0, ev_lookS, ev_boolD, ev_truB, List.set_cons_zero, List.set_cons_succ, ev_maskD, ev_maskI, ev_maskO, ev_mask0, ev_seqL, ev_seqT, ev_ixL, ev_ixT, ev_addI, ev_eqI, ev_neI, ev_endR, ev_endN, ev_endE, Option.map_some, Bool.false_eq_true, if_false, if_true, reduceIte, Bool.not_true, Bool.not_false, at_0, at_1, at_2, wd_put, wd_take, isPut, isTake, ev_gSetX, ev_gMC, e2, c_take_few hb w0 wn m1 m9 hf, ev_xOk, ev_xBind, ev_outEr, ev_xSE]
      · have ez : deedZ n (packsZ n os) .take (.int w) (.int m) s = (optI (costZ (packsZ n os) (goZ s w (0 - m) ⟨false, w, m⟩).N.b), goZ s w (0 - m) ⟨false, w, m⟩) := by unfold deedZ; rw [ew]; exact if_neg hf
        rw [ez]
        refine deed_ok ?_
        simp (implicitDefEqProofs := false) only [ev_gSeq, ev_gSet, ev_gIfS, ev_gTb, ev_gTr, ev_gB, ev_gU, ev_gL, ev_gCons, ev_gNil, ev_gV, ev_gC, ev_gF, ev_gRet, ev_gDrop, ev_gFor, ev_gIt, ev_gIt2, ev_gLc, ev_gIf, ev_gAndT, ev_gOrT, ev_gNotT, ev_gAndV, ev_gOrV, ev_gNotV, ev_gChain, ev_gRaise, ev_bind, ev_bindE, ev_lift, ev_thenS, ev_thenE, ev_look0, ev_lookS, ev_boolD, ev_truB, List.set_cons_zero, List.set_cons_succ, ev_maskD, ev_maskI, ev_maskO, ev_mask0, ev_seqL, ev_seqT, ev_ixL, ev_ixT, ev_addI, ev_eqI, ev_neI, ev_endR, ev_endN, ev_endE, Option.map_some, Bool.false_eq_true, if_false, if_true, reduceIte, Bool.not_true, Bool.not_false, at_0, at_1, at_2, wd_put, wd_take, isPut, isTake, ev_gSetX, ev_gMC, e2, c_take h hb w0 wn m1 m9 hf hA hl, ev_xOk, ev_xBind, ev_outOk, ev_xS]
  | undo =>
    rcases List.eq_nil_or_concat s.A with e | ⟨A, z, e⟩
    · have ez : deedZ n (packsZ n os) .undo x y s = (.str "deed", s) := by unfold deedZ; rw [e]; rfl
      rw [ez]
      refine deed_er (e := "NoDeed") ?_ (.inr (.inr ⟨rfl, rfl⟩))
      simp (implicitDefEqProofs := false) only [ev_gSeq, ev_gSet, ev_gIfS, ev_gTb, ev_gTr, ev_gB, ev_gU, ev_gL, ev_gCons, ev_gNil, ev_gV, ev_gC, ev_gF, ev_gRet, ev_gDrop, ev_gFor, ev_gIt, ev_gIt2, ev_gLc, ev_gIf, ev_gAndT, ev_gOrT, ev_gNotT, ev_gAndV, ev_gOrV, ev_gNotV, ev_gChain, ev_gRaise, ev_bind, ev_bindE, ev_lift, ev_thenS, ev_thenE, ev_look0, ev_lookS, ev_boolD, ev_truB, List.set_cons_zero, List.set_cons_succ, ev_maskD, ev_maskI, ev_maskO, ev_mask0, ev_seqL, ev_seqT, ev_ixL, ev_ixT, ev_addI, ev_eqI, ev_neI, ev_endR, ev_endN, ev_endE, Option.map_some, Bool.false_eq_true, if_false, if_true, reduceIte, Bool.not_true, Bool.not_false, at_0, at_1, at_2, wd_put, wd_take, wd_undo, isPut, isTake, isUndo, ev_gSetX, ev_gIfEX, ev_gMC, e3, c_undo_no e, ev_xOk, ev_xBind, ev_outEr, ev_xSE]
    · rw [List.concat_eq_append] at e
      have ez : deedZ n (packsZ n os) .undo x y s = (.none, ⟨z, A, s.L ++ [s.N]⟩) := by unfold deedZ; rw [e, List.getLast?_concat, List.dropLast_concat]
      rw [ez]
      refine deed_ok ?_
      simp (implicitDefEqProofs := false) only [ev_gSeq, ev_gSet, ev_gIfS, ev_gTb, ev_gTr, ev_gB, ev_gU, ev_gL, ev_gCons, ev_gNil, ev_gV, ev_gC, ev_gF, ev_gRet, ev_gDrop, ev_gFor, ev_gIt, ev_gIt2, ev_gLc, ev_gIf, ev_gAndT, ev_gOrT, ev_gNotT, ev_gAndV, ev_gOrV, ev_gNotV, ev_gChain, ev_gRaise, ev_bind, ev_bindE, ev_lift, ev_thenS, ev_thenE, ev_look0, ev_lookS, ev_boolD, ev_truB, List.set_cons_zero, List.set_cons_succ, ev_maskD, ev_maskI, ev_maskO, ev_mask0, ev_seqL, ev_seqT, ev_ixL, ev_ixT, ev_addI, ev_eqI, ev_neI, ev_endR, ev_endN, ev_endE, Option.map_some, Bool.false_eq_true, if_false, if_true, reduceIte, Bool.not_true, Bool.not_false, at_0, at_1, at_2, wd_put, wd_take, wd_undo, isPut, isTake, isUndo, ev_gSetX, ev_gIfEX, ev_gMC, e3, c_undo e hL, ev_xOk, ev_xBind, ev_outOk, ev_xS]
  | redo =>
    rcases List.eq_nil_or_concat s.L with e | ⟨L, z, e⟩
    · have ez : deedZ n (packsZ n os) .redo x y s = (.str "deed", s) := by unfold deedZ; rw [e]; rfl
      rw [ez]
      refine deed_er (e := "NoDeed") ?_ (.inr (.inr ⟨rfl, rfl⟩))
      simp (implicitDefEqProofs := false) only [ev_gSeq, ev_gSet, ev_gIfS, ev_gTb, ev_gTr, ev_gB, ev_gU, ev_gL, ev_gCons, ev_gNil, ev_gV, ev_gC, ev_gF, ev_gRet, ev_gDrop, ev_gFor, ev_gIt, ev_gIt2, ev_gLc, ev_gIf, ev_gAndT, ev_gOrT, ev_gNotT, ev_gAndV, ev_gOrV, ev_gNotV, ev_gChain, ev_gRaise, ev_bind, ev_bindE, ev_lift, ev_thenS, ev_thenE, ev_look0, ev_lookS, ev_boolD, ev_truB, List.set_cons_zero, List.set_cons_succ, ev_maskD, ev_maskI, ev_maskO, ev_mask0, ev_seqL, ev_seqT, ev_ixL, ev_ixT, ev_addI, ev_eqI, ev_neI, ev_endR, ev_endN, ev_endE, Option.map_some, Bool.false_eq_true, if_false, if_true, reduceIte, Bool.not_true, Bool.not_false, at_0, at_1, at_2, wd_put, wd_take, wd_undo, isPut, isTake, isUndo, ev_gSetX, ev_gIfEX, ev_gMC, e4, c_redo_no e, ev_xOk, ev_xBind, ev_outEr, ev_xSE]
    · rw [List.concat_eq_append] at e
      have ez : deedZ n (packsZ n os) .redo x y s = (.none, ⟨z, s.A ++ [s.N], L⟩) := by unfold deedZ; rw [e, List.getLast?_concat, List.dropLast_concat]
      rw [ez]
      refine deed_ok ?_
      simp (implicitDefEqProofs := false) only [ev_gSeq, ev_gSet, ev_gIfS, ev_gTb, ev_gTr, ev_gB, ev_gU, ev_gL, ev_gCons, ev_gNil, ev_gV, ev_gC, ev_gF, ev_gRet, ev_gDrop, ev_gFor, ev_gIt, ev_gIt2, ev_gLc, ev_gIf, ev_gAndT, ev_gOrT, ev_gNotT, ev_gAndV, ev_gOrV, ev_gNotV, ev_gChain, ev_gRaise, ev_bind, ev_bindE, ev_lift, ev_thenS, ev_thenE, ev_look0, ev_lookS, ev_boolD, ev_truB, List.set_cons_zero, List.set_cons_succ, ev_maskD, ev_maskI, ev_maskO, ev_mask0, ev_seqL, ev_seqT, ev_ixL, ev_ixT, ev_addI, ev_eqI, ev_neI, ev_endR, ev_endN, ev_endE, Option.map_some, Bool.false_eq_true, if_false, if_true, reduceIte, Bool.not_true, Bool.not_false, at_0, at_1, at_2, wd_put, wd_take, wd_undo, isPut, isTake, isUndo, ev_gSetX, ev_gIfEX, ev_gMC, e4, c_redo e hA, ev_xOk, ev_xBind, ev_outOk, ev_xS]
end
/-! ### deeds drawn -/
theorem pos3 (i : Int) : (0 : Int) < (if i = 0 then 2 else if i = 1 then 4 else 9) := by
  by_cases h : i = 0
  · rw [if_pos h]; decide
  · rw [if_neg h]
    by_cases h1 : i = 1
    · rw [if_pos h1]; decide
    · rw [if_neg h1]; decide
theorem nd_if {c : Prop} [Decidable c] {x y : PyData} (hx : notDict x = true) (hy : notDict y = true) : notDict (if c then x else y) = true := by
  by_cases h : c
  · rw [if_pos h]; exact hx
  · rw [if_neg h]; exact hy
theorem c_drawn (sd : Int) {n : Int} (n1 : 1 ≤ n) : ∃ (wd : Wd) (x y : PyData), notDict x = true ∧ notDict y = true ∧ m__law_cart_drawn [.int sd, .int n] = .ok (.tuple [.str (wdS wd), x, y]) := by
  have words : ∀ i : Int, 0 ≤ i → i < 8 → ∃ wd : Wd, atI [PyData.str "put", .str "put", .str "take", .str "put", .str "undo", .str "redo", .str "take", .str "put"] i = some (.str (wdS wd)) := fun i h0 h8 => by
    have : i = 0 ∨ i = 1 ∨ i = 2 ∨ i = 3 ∨ i = 4 ∨ i = 5 ∨ i = 6 ∨ i = 7 := by omega
    rcases this with rfl | rfl | rfl | rfl | rfl | rfl | rfl | rfl
    · exact ⟨.put, rfl⟩
    · exact ⟨.put, rfl⟩
    · exact ⟨.take, rfl⟩
    · exact ⟨.put, rfl⟩
    · exact ⟨.undo, rfl⟩
    · exact ⟨.redo, rfl⟩
    · exact ⟨.take, rfl⟩
    · exact ⟨.put, rfl⟩
  have five : ∀ (a b c d e : PyData) (i : Int), notDict a = true → notDict b = true → notDict c = true → notDict d = true → notDict e = true → 0 ≤ i → i < 5 → ∃ x, notDict x = true ∧ atI [a, b, c, d, e] i = some x := fun a b c d e i ha hb hc hd he h0 h5 => by
    have : i = 0 ∨ i = 1 ∨ i = 2 ∨ i = 3 ∨ i = 4 := by omega
    rcases this with rfl | rfl | rfl | rfl | rfl
    · exact ⟨a, ha, rfl⟩
    · exact ⟨b, hb, rfl⟩
    · exact ⟨c, hc, rfl⟩
    · exact ⟨d, hd, rfl⟩
    · exact ⟨e, he, rfl⟩
  obtain ⟨wd, hw⟩ := words (sd / 5 % 8) (by omega) (by omega)
  obtain ⟨x5, nx5, ex5⟩ := five (.int n) (.int (-1)) .none (.bool true) (.str "0") (seedZ sd 2 / 7 % 5) rfl rfl rfl rfl rfl (by omega) (by omega)
  obtain ⟨y5, ny5, ey5⟩ := five (.int 0) (.int 10) (.int (-1)) .none (.bool true) (seedZ sd 3 / 7 % 5) rfl rfl rfl rfl rfl (by omega) (by omega)
  obtain ⟨q, hq⟩ : ∃ q : Int, q = (if sd / 211 % 3 = 0 then 2 else if sd / 211 % 3 = 1 then 4 else 9) := ⟨_, rfl⟩
  have q0 : 0 < q := hq ▸ pos3 _
  have p3 : atI [PyData.int 2, .int 4, .int 9] (sd / 211 % 3) = some (.int q) := by rw [hq]; exact atI_pick3 (by omega) (by omega)
  obtain ⟨w, hwe⟩ : ∃ w, w = sd / 41 % n := ⟨_, rfl⟩
  obtain ⟨m, hme⟩ : ∃ m, m = 1 + seedZ sd 1 / 7 % q := ⟨_, rfl⟩
  obtain ⟨x, hxn, hx⟩ : ∃ x : PyData, notDict x = true ∧ x = if sd / 1009 % 9 = 0 then x5 else .int w := ⟨_, nd_if nx5 rfl, rfl⟩
  obtain ⟨y, hyn, hy⟩ : ∃ y : PyData, notDict y = true ∧ y = if sd / 9973 % 9 = 0 then y5 else .int m := ⟨_, nd_if ny5 rfl, rfl⟩
  refine ⟨wd, x, y, hxn, hyn, ?_⟩
  show endD (g__law_cart_drawn [.int sd, .int n, .none, .none, .none]) = _
  have f5 : dFdiv (.int sd) (.int 5) = some (.int (sd / 5)) := ev_fdiv (by decide)
  have f41 : dFdiv (.int sd) (.int 41) = some (.int (sd / 41)) := ev_fdiv (by decide)
  have f211 : dFdiv (.int sd) (.int 211) = some (.int (sd / 211)) := ev_fdiv (by decide)
  have f1009 : dFdiv (.int sd) (.int 1009) = some (.int (sd / 1009)) := ev_fdiv (by decide)
  have f9973 : dFdiv (.int sd) (.int 9973) = some (.int (sd / 9973)) := ev_fdiv (by decide)
  have m8 : ∀ i : Int, dMod (.int i) (.int 8) = some (.int (i % 8)) := fun i => ev_mod (by decide)
  have m9 : ∀ i : Int, dMod (.int i) (.int 9) = some (.int (i % 9)) := fun i => ev_mod (by decide)
  have t1 : gSet 2 (gB dIx (gL lstD (gCons (gC (.str "put")) (gCons (gC (.str "put")) (gCons (gC (.str "take")) (gCons (gC (.str "put")) (gCons (gC (.str "undo")) (gCons (gC (.str "redo")) (gCons (gC (.str "take")) (gCons (gC (.str "put")) gNil))))))))) (gB dMod (gB dFdiv (gV 0) (gC (.int 5))) (gC (.int 8)))) [.int sd, .int n, .none, .none, .none] = .nx [.int sd, .int n, .str (wdS wd), .none, .none] := by
    simp (implicitDefEqProofs := false) only [ev_gSeq, ev_gSet, ev_gIfS, ev_gTb, ev_gTr, ev_gB, ev_gU, ev_gL, ev_gCons, ev_gNil, ev_gV, ev_gC, ev_gF, ev_gRet, ev_gDrop, ev_gFor, ev_gIt, ev_gIt2, ev_gLc, ev_gIf, ev_gAndT, ev_gOrT, ev_gNotT, ev_gAndV, ev_gOrV, ev_gNotV, ev_gChain, ev_gRaise, ev_bind, ev_bindE, ev_lift, ev_thenS, ev_thenE, ev_look0, ev_lookS, ev_boolD, ev_truB, List.set_cons_zero, List.set_cons_succ, ev_maskD, ev_maskI, ev_maskO, ev_mask0, ev_seqL, ev_seqT, ev_ixL, ev_ixT, ev_addI, ev_eqI, ev_neI, ev_endR, ev_endN, ev_endE, Option.map_some, Bool.false_eq_true, if_false, if_true, reduceIte, Bool.not_true, Bool.not_false, ev_lstB (show [PyData.str "put", .str "put", .str "take", .str "put", .str "undo", .str "redo", .str "take", .str "put"].length ≤ 16000000 by simp), f5, m8, hw]
  have t2 : gPar 3 4 (gB dMod (gB dFdiv (gV 0) (gC (.int 41))) (gV 1)) (gB dAdd (gC (.int 1)) (gB dMod (gB dFdiv (gF m__law_seed (gCons (gV 0) (gCons (gC (.int 1)) gNil))) (gC (.int 7))) (gB dIx (gL lstD (gCons (gC (.int 2)) (gCons (gC (.int 4)) (gCons (gC (.int 9)) gNil)))) (gB dMod (gB dFdiv (gV 0) (gC (.int 211))) (gC (.int 3)))))) [.int sd, .int n, .str (wdS wd), .none, .none] = .nx [.int sd, .int n, .str (wdS wd), .int w, .int m] := by
    simp (implicitDefEqProofs := false) only [gPar, ev_gSeq, ev_gSet, ev_gIfS, ev_gTb, ev_gTr, ev_gB, ev_gU, ev_gL, ev_gCons, ev_gNil, ev_gV, ev_gC, ev_gF, ev_gRet, ev_gDrop, ev_gFor, ev_gIt, ev_gIt2, ev_gLc, ev_gIf, ev_gAndT, ev_gOrT, ev_gNotT, ev_gAndV, ev_gOrV, ev_gNotV, ev_gChain, ev_gRaise, ev_bind, ev_bindE, ev_lift, ev_thenS, ev_thenE, ev_look0, ev_lookS, ev_boolD, ev_truB, List.set_cons_zero, List.set_cons_succ, ev_maskD, ev_maskI, ev_maskO, ev_mask0, ev_seqL, ev_seqT, ev_ixL, ev_ixT, ev_addI, ev_eqI, ev_neI, ev_endR, ev_endN, ev_endE, Option.map_some, Bool.false_eq_true, if_false, if_true, reduceIte, Bool.not_true, Bool.not_false, f41, ev_mod (show 0 < n by omega), m_seed, fd7, ev_lstB (show [PyData.int 2, .int 4, .int 9].length ≤ 16000000 by simp), f211, md3, p3, ev_mod q0, ← hwe, ← hme]
  have t3 : (gIfS (gTb (gB dEq (gB dMod (gB dFdiv (gV 0) (gC (.int 1009))) (gC (.int 9))) (gC (.int 0)))) (gSet 3 (gB dIx (gL lstD (gCons (gV 1) (gCons (gU dNeg (gC (.int 1))) (gCons (gC .none) (gCons (gC (.bool true)) (gCons (gC (.str "0")) gNil)))))) (gB dMod (gB dFdiv (gF m__law_seed (gCons (gV 0) (gCons (gC (.int 2)) gNil))) (gC (.int 7))) (gC (.int 5))))) SR.nx) [.int sd, .int n, .str (wdS wd), .int w, .int m] = .nx [.int sd, .int n, .str (wdS wd), x, .int m] := by
    by_cases e : sd / 1009 % 9 = 0
    · rw [if_pos e] at hx
      subst hx
      simp (implicitDefEqProofs := false) only [ev_gSeq, ev_gSet, ev_gIfS, ev_gTb, ev_gTr, ev_gB, ev_gU, ev_gL, ev_gCons, ev_gNil, ev_gV, ev_gC, ev_gF, ev_gRet, ev_gDrop, ev_gFor, ev_gIt, ev_gIt2, ev_gLc, ev_gIf, ev_gAndT, ev_gOrT, ev_gNotT, ev_gAndV, ev_gOrV, ev_gNotV, ev_gChain, ev_gRaise, ev_bind, ev_bindE, ev_lift, ev_thenS, ev_thenE, ev_look0, ev_lookS, ev_boolD, ev_truB, List.set_cons_zero, List.set_cons_succ, ev_maskD, ev_maskI, ev_maskO, ev_mask0, ev_seqL, ev_seqT, ev_ixL, ev_ixT, ev_addI, ev_eqI, ev_neI, ev_endR, ev_endN, ev_endE, Option.map_some, Bool.false_eq_true, if_false, if_true, reduceIte, Bool.not_true, Bool.not_false, f1009, m9, e, BEq.rfl, ev_neg, ev_lstB (show [PyData.int n, .int (-1), .none, .bool true, .str "0"].length ≤ 16000000 by simp), m_seed, fd7, md5, ex5]
    · rw [if_neg e] at hx
      subst hx
      simp (implicitDefEqProofs := false) only [ev_gSeq, ev_gSet, ev_gIfS, ev_gTb, ev_gTr, ev_gB, ev_gU, ev_gL, ev_gCons, ev_gNil, ev_gV, ev_gC, ev_gF, ev_gRet, ev_gDrop, ev_gFor, ev_gIt, ev_gIt2, ev_gLc, ev_gIf, ev_gAndT, ev_gOrT, ev_gNotT, ev_gAndV, ev_gOrV, ev_gNotV, ev_gChain, ev_gRaise, ev_bind, ev_bindE, ev_lift, ev_thenS, ev_thenE, ev_look0, ev_lookS, ev_boolD, ev_truB, List.set_cons_zero, List.set_cons_succ, ev_maskD, ev_maskI, ev_maskO, ev_mask0, ev_seqL, ev_seqT, ev_ixL, ev_ixT, ev_addI, ev_eqI, ev_neI, ev_endR, ev_endN, ev_endE, Option.map_some, Bool.false_eq_true, if_false, if_true, reduceIte, Bool.not_true, Bool.not_false, f1009, m9, beq_false_of_ne e]
  have t4 : (gIfS (gTb (gB dEq (gB dMod (gB dFdiv (gV 0) (gC (.int 9973))) (gC (.int 9))) (gC (.int 0)))) (gSet 4 (gB dIx (gL lstD (gCons (gC (.int 0)) (gCons (gC (.int 10)) (gCons (gU dNeg (gC (.int 1))) (gCons (gC .none) (gCons (gC (.bool true)) gNil)))))) (gB dMod (gB dFdiv (gF m__law_seed (gCons (gV 0) (gCons (gC (.int 3)) gNil))) (gC (.int 7))) (gC (.int 5))))) SR.nx) [.int sd, .int n, .str (wdS wd), x, .int m] = .nx [.int sd, .int n, .str (wdS wd), x, y] := by
    by_cases e : sd / 9973 % 9 = 0
    · rw [if_pos e] at hy
      subst hy
      simp (implicitDefEqProofs := false) only [ev_gSeq, ev_gSet, ev_gIfS, ev_gTb, ev_gTr, ev_gB, ev_gU, ev_gL, ev_gCons, ev_gNil, ev_gV, ev_gC, ev_gF, ev_gRet, ev_gDrop, ev_gFor, ev_gIt, ev_gIt2, ev_gLc, ev_gIf, ev_gAndT, ev_gOrT, ev_gNotT, ev_gAndV, ev_gOrV, ev_gNotV, ev_gChain, ev_gRaise, ev_bind, ev_bindE, ev_lift, ev_thenS, ev_thenE, ev_look0, ev_lookS, ev_boolD, ev_truB, List.set_cons_zero, List.set_cons_succ, ev_maskD, ev_maskI, ev_maskO, ev_mask0, ev_seqL, ev_seqT, ev_ixL, ev_ixT, ev_addI, ev_eqI, ev_neI, ev_endR, ev_endN, ev_endE, Option.map_some, Bool.false_eq_true, if_false, if_true, reduceIte, Bool.not_true, Bool.not_false, f9973, m9, e, BEq.rfl, ev_neg, ev_lstB (show [PyData.int 0, .int 10, .int (-1), .none, .bool true].length ≤ 16000000 by simp), m_seed, fd7, md5, ey5]
    · rw [if_neg e] at hy
      subst hy
      simp (implicitDefEqProofs := false) only [ev_gSeq, ev_gSet, ev_gIfS, ev_gTb, ev_gTr, ev_gB, ev_gU, ev_gL, ev_gCons, ev_gNil, ev_gV, ev_gC, ev_gF, ev_gRet, ev_gDrop, ev_gFor, ev_gIt, ev_gIt2, ev_gLc, ev_gIf, ev_gAndT, ev_gOrT, ev_gNotT, ev_gAndV, ev_gOrV, ev_gNotV, ev_gChain, ev_gRaise, ev_bind, ev_bindE, ev_lift, ev_thenS, ev_thenE, ev_look0, ev_lookS, ev_boolD, ev_truB, List.set_cons_zero, List.set_cons_succ, ev_maskD, ev_maskI, ev_maskO, ev_mask0, ev_seqL, ev_seqT, ev_ixL, ev_ixT, ev_addI, ev_eqI, ev_neI, ev_endR, ev_endN, ev_endE, Option.map_some, Bool.false_eq_true, if_false, if_true, reduceIte, Bool.not_true, Bool.not_false, f9973, m9, beq_false_of_ne e]
  unfold g__law_cart_drawn
  rw [ev_seq t1, ev_seq t2, ev_seq t3, ev_seq t4]
  simp (implicitDefEqProofs := false) only [ev_gSeq, ev_gSet, ev_gIfS, ev_gTb, ev_gTr, ev_gB, ev_gU, ev_gL, ev_gCons, ev_gNil, ev_gV, ev_gC, ev_gF, ev_gRet, ev_gDrop, ev_gFor, ev_gIt, ev_gIt2, ev_gLc, ev_gIf, ev_gAndT, ev_gOrT, ev_gNotT, ev_gAndV, ev_gOrV, ev_gNotV, ev_gChain, ev_gRaise, ev_bind, ev_bindE, ev_lift, ev_thenS, ev_thenE, ev_look0, ev_lookS, ev_boolD, ev_truB, List.set_cons_zero, List.set_cons_succ, ev_maskD, ev_maskI, ev_maskO, ev_mask0, ev_seqL, ev_seqT, ev_ixL, ev_ixT, ev_addI, ev_eqI, ev_neI, ev_endR, ev_endN, ev_endE, Option.map_some, Bool.false_eq_true, if_false, if_true, reduceIte, Bool.not_true, Bool.not_false, ev_tupB (show [PyData.str (wdS wd), x, y].length ≤ 16000000 by simp)]
/-! ### what always holds -/
def addZ (b : Bk) (d : De) : Bk := putB b d.w (hasB b d.w + if d.p = true then d.m else 0 - d.m)
def sumL (n : Int) (l : List De) : Bk := l.foldl addZ (repB n 0)
structure MoOk (n : Int) (m : Mo) : Prop where
  g : GoodB n m.b
  e : m.b = sumL n m.l
  v : ∀ d ∈ m.l, 0 ≤ d.w ∧ d.w < n
def momsZ (s : Cz) : List Mo := s.A ++ s.N :: s.L.reverse
def Inv (n : Int) (s : Cz) : Prop := ∀ (k : Nat) (m : Mo), (momsZ s)[k]? = some m → MoOk n m ∧ m.l.length = k
section
variable {n : Int} {s : Cz} {ps : List Pk} {wd : Wd} {x y : PyData}
theorem Inv.now (i : Inv n s) : MoOk n s.N ∧ s.N.l.length = s.A.length := i s.A.length s.N (by unfold momsZ; simp)
theorem moms_len (s : Cz) : (momsZ s).length = s.A.length + 1 + s.L.length := by unfold momsZ; simp; omega
theorem inv_back {z : Mo} {A : List Mo} (e : s.A = A ++ [z]) : momsZ ⟨z, A, s.L ++ [s.N]⟩ = momsZ s := by
  unfold momsZ; simp [e]
theorem inv_fore {z : Mo} {L : List Mo} (e : s.L = L ++ [z]) : momsZ ⟨z, s.A ++ [s.N], L⟩ = momsZ s := by
  unfold momsZ; simp [e]
theorem inv_go {w ch : Int} {d : De} (i : Inv n s) (hd : d.w = w ∧ (if d.p = true then d.m else 0 - d.m) = ch) (w0 : 0 ≤ w) (wn : w < n) (v0 : 0 ≤ hasB s.N.b w + ch) (v9 : hasB s.N.b w + ch ≤ 9) : Inv n (goZ s w ch d) := by
  obtain ⟨o, hl⟩ := i.now
  have em : momsZ (goZ s w ch d) = s.A ++ [s.N] ++ [⟨putB s.N.b w (hasB s.N.b w + ch), s.N.l ++ [d]⟩] := by unfold momsZ goZ; simp
  intro k m hk
  rw [em] at hk
  by_cases hlt : k < (s.A ++ [s.N]).length
  · rw [List.getElem?_append_left hlt] at hk
    refine i k m ?_
    unfold momsZ
    rw [show s.A ++ s.N :: s.L.reverse = (s.A ++ [s.N]) ++ s.L.reverse by simp, List.getElem?_append_left hlt]
    exact hk
  · rw [List.getElem?_append_right (by omega)] at hk
    have hk0 : k - (s.A ++ [s.N]).length = 0 := by
      have := (List.getElem?_eq_some_iff.mp hk).1
      simp at this ⊢; omega
    rw [hk0] at hk
    cases hk
    refine ⟨⟨goodB_put o.g v0 v9, ?_, fun e he => ?_⟩, ?_⟩
    · show putB s.N.b w (hasB s.N.b w + ch) = sumL n (s.N.l ++ [d])
      unfold sumL
      rw [List.foldl_append]
      show _ = addZ (sumL n s.N.l) d
      rw [← o.e]
      unfold addZ
      rw [hd.1, hd.2]
    · rcases List.mem_append.mp he with z | z
      · exact o.v e z
      · rw [List.mem_singleton.mp z, hd.1]; exact ⟨w0, wn⟩
    · simp at hlt hk0 ⊢; omega
theorem inv_deed (i : Inv n s) : Inv n (deedZ n ps wd x y s).2 ∧ (momsZ (deedZ n ps wd x y s).2).length ≤ (momsZ s).length + 1 := by
  have hgo : ∀ (w ch : Int) (d : De), (momsZ (goZ s w ch d)).length ≤ (momsZ s).length + 1 := fun w ch d => by
    rw [moms_len, moms_len]; simp [goZ] <;> omega
  cases wd with
  | put =>
    unfold deedZ
    cases ew : wmZ n x y with
    | none => exact ⟨i, Nat.le_succ _⟩
    | some wm =>
      obtain ⟨w, m⟩ := wm
      obtain ⟨_, _, w0, wn, m1, m9⟩ := wmZ_some ew
      have h9 := has_in i.now.1.g w0 wn
      show Inv n (if 9 < hasB s.N.b w + m then (_, s) else (_, goZ s w m ⟨true, w, m⟩) : PyData × Cz).2 ∧ (momsZ (if 9 < hasB s.N.b w + m then (_, s) else (_, goZ s w m ⟨true, w, m⟩) : PyData × Cz).2).length ≤ _
      by_cases hf : 9 < hasB s.N.b w + m
      · rw [if_pos hf]; exact ⟨i, Nat.le_succ _⟩
      · rw [if_neg hf]; exact ⟨inv_go i ⟨rfl, rfl⟩ w0 wn (by omega) (by omega), hgo _ _ _⟩
  | take =>
    unfold deedZ
    cases ew : wmZ n x y with
    | none => exact ⟨i, Nat.le_succ _⟩
    | some wm =>
      obtain ⟨w, m⟩ := wm
      obtain ⟨_, _, w0, wn, m1, m9⟩ := wmZ_some ew
      have h9 := has_in i.now.1.g w0 wn
      show Inv n (if hasB s.N.b w < m then (_, s) else (_, goZ s w (0 - m) ⟨false, w, m⟩) : PyData × Cz).2 ∧ (momsZ (if hasB s.N.b w < m then (_, s) else (_, goZ s w (0 - m) ⟨false, w, m⟩) : PyData × Cz).2).length ≤ _
      by_cases hf : hasB s.N.b w < m
      · rw [if_pos hf]; exact ⟨i, Nat.le_succ _⟩
      · rw [if_neg hf]; exact ⟨inv_go i ⟨rfl, rfl⟩ w0 wn (by omega) (by omega), hgo _ _ _⟩
  | undo =>
    rcases List.eq_nil_or_concat s.A with e | ⟨A, z, e⟩
    · have ez : deedZ n ps .undo x y s = (.str "deed", s) := by unfold deedZ; rw [e]; rfl
      rw [ez]; exact ⟨i, Nat.le_succ _⟩
    · rw [List.concat_eq_append] at e
      have ez : deedZ n ps .undo x y s = (.none, ⟨z, A, s.L ++ [s.N]⟩) := by unfold deedZ; rw [e, List.getLast?_concat, List.dropLast_concat]
      rw [ez]
      show Inv n ⟨z, A, s.L ++ [s.N]⟩ ∧ _
      unfold Inv
      rw [inv_back e]; exact ⟨i, Nat.le_succ _⟩
  | redo =>
    rcases List.eq_nil_or_concat s.L with e | ⟨L, z, e⟩
    · have ez : deedZ n ps .redo x y s = (.str "deed", s) := by unfold deedZ; rw [e]; rfl
      rw [ez]; exact ⟨i, Nat.le_succ _⟩
    · rw [List.concat_eq_append] at e
      have ez : deedZ n ps .redo x y s = (.none, ⟨z, s.A ++ [s.N], L⟩) := by unfold deedZ; rw [e, List.getLast?_concat, List.dropLast_concat]
      rw [ez]
      show Inv n ⟨z, s.A ++ [s.N], L⟩ ∧ _
      unfold Inv
      rw [inv_fore e]; exact ⟨i, Nat.le_succ _⟩
theorem inv_start (n0 : 0 ≤ n) : Inv n ⟨⟨repB n 0, []⟩, [], []⟩ := by
  intro k m hk
  have hk : [Mo.mk (repB n 0) []][k]? = some m := hk
  match k, hk with
  | 0, hk => cases hk; exact ⟨⟨goodB_rep n0 (by decide) (by decide), rfl, fun d hd => by cases hd⟩, rfl⟩
  | k + 1, hk => simp at hk
end
/-! ### a cart is made -/
theorem c_new {n : Int} {os : List Off} (h : GoodL n os) : m_Cart [.dict [], encL n os] = .ok (.none, crt n os ⟨⟨repB n 0, []⟩, [], []⟩) := by
  have n1 := h.n1
  have n3 := h.n3
  show endC (g_Cart [.dict [], encL n os]) = _
  have t1 : gDrop (gF m_look (gCons (gV 1) gNil)) [.dict [], encL n os] = .nx [.dict [], encL n os] := by
    simp (implicitDefEqProofs := false) only [ev_gSeq, ev_gSet, ev_gIfS, ev_gTb, ev_gTr, ev_gB, ev_gU, ev_gL, ev_gCons, ev_gNil, ev_gV, ev_gC, ev_gF, ev_gRet, ev_gDrop, ev_gFor, ev_gIt, ev_gIt2, ev_gLc, ev_gIf, ev_gAndT, ev_gOrT, ev_gNotT, ev_gAndV, ev_gOrV, ev_gNotV, ev_gChain, ev_gRaise, ev_bind, ev_bindE, ev_lift, ev_thenS, ev_thenE, ev_look0, ev_lookS, ev_boolD, ev_truB, List.set_cons_zero, List.set_cons_succ, ev_maskD, ev_maskI, ev_maskO, ev_mask0, ev_seqL, ev_seqT, ev_ixL, ev_ixT, ev_addI, ev_eqI, ev_neI, ev_endR, ev_endN, ev_endE, Option.map_some, Bool.false_eq_true, if_false, if_true, reduceIte, Bool.not_true, Bool.not_false, m_looks h]
  have t2 : gPutF 0 "prices" (gV 1) [.dict [], encL n os] = .nx [.dict [(.str "prices", .tuple [encL n os])], encL n os] := rfl
  have t3 : gPutF 0 "now" (gL tupD (gCons (gB dMul (gL tupD (gCons (gC (.int 0)) gNil)) (gB dIx (gV 1) (gC (.int 0)))) (gCons (gL tupD gNil) gNil))) [.dict [(.str "prices", .tuple [encL n os])], encL n os] = .nx [.dict [(.str "prices", .tuple [encL n os]), (.str "now", .tuple [encM ⟨repB n 0, []⟩])], encL n os] := by
    unfold gPutF
    simp (implicitDefEqProofs := false) only [ev_gSeq, ev_gSet, ev_gIfS, ev_gTb, ev_gTr, ev_gB, ev_gU, ev_gL, ev_gCons, ev_gNil, ev_gV, ev_gC, ev_gF, ev_gRet, ev_gDrop, ev_gFor, ev_gIt, ev_gIt2, ev_gLc, ev_gIf, ev_gAndT, ev_gOrT, ev_gNotT, ev_gAndV, ev_gOrV, ev_gNotV, ev_gChain, ev_gRaise, ev_bind, ev_bindE, ev_lift, ev_thenS, ev_thenE, ev_look0, ev_lookS, ev_boolD, ev_truB, List.set_cons_zero, List.set_cons_succ, ev_maskD, ev_maskI, ev_maskO, ev_mask0, ev_seqL, ev_seqT, ev_ixL, ev_ixT, ev_addI, ev_eqI, ev_neI, ev_endR, ev_endN, ev_endE, Option.map_some, Bool.false_eq_true, if_false, if_true, reduceIte, Bool.not_true, Bool.not_false, ev_tupB (show [PyData.int 0].length ≤ 16000000 by simp), ev_tupB (show ([] : List PyData).length ≤ 16000000 by simp), ix_L0, dMul_rep 0 (show 0 ≤ n by omega) (show n ≤ 1000 by omega)]
    rw [ev_tupB (by simp)]
    simp (implicitDefEqProofs := false) only [ev_gSeq, ev_gSet, ev_gIfS, ev_gTb, ev_gTr, ev_gB, ev_gU, ev_gL, ev_gCons, ev_gNil, ev_gV, ev_gC, ev_gF, ev_gRet, ev_gDrop, ev_gFor, ev_gIt, ev_gIt2, ev_gLc, ev_gIf, ev_gAndT, ev_gOrT, ev_gNotT, ev_gAndV, ev_gOrV, ev_gNotV, ev_gChain, ev_gRaise, ev_bind, ev_bindE, ev_lift, ev_thenS, ev_thenE, ev_look0, ev_lookS, ev_boolD, ev_truB, List.set_cons_zero, List.set_cons_succ, ev_maskD, ev_maskI, ev_maskO, ev_mask0, ev_seqL, ev_seqT, ev_ixL, ev_ixT, ev_addI, ev_eqI, ev_neI, ev_endR, ev_endN, ev_endE, Option.map_some, Bool.false_eq_true, if_false, if_true, reduceIte, Bool.not_true, Bool.not_false]
    show (if _ then _ else _) = _
    rw [if_pos (by simp), putC_ne (Ne.symm n_np)]; rfl
  have t4 : gPutO 0 "past" (gL lstD gNil) [.dict [(.str "prices", .tuple [encL n os]), (.str "now", .tuple [encM ⟨repB n 0, []⟩])], encL n os] = .nx [.dict [(.str "prices", .tuple [encL n os]), (.str "now", .tuple [encM ⟨repB n 0, []⟩]), (.str "past", .list [])], encL n os] := by
    unfold gPutO
    simp (implicitDefEqProofs := false) only [ev_gSeq, ev_gSet, ev_gIfS, ev_gTb, ev_gTr, ev_gB, ev_gU, ev_gL, ev_gCons, ev_gNil, ev_gV, ev_gC, ev_gF, ev_gRet, ev_gDrop, ev_gFor, ev_gIt, ev_gIt2, ev_gLc, ev_gIf, ev_gAndT, ev_gOrT, ev_gNotT, ev_gAndV, ev_gOrV, ev_gNotV, ev_gChain, ev_gRaise, ev_bind, ev_bindE, ev_lift, ev_thenS, ev_thenE, ev_look0, ev_lookS, ev_boolD, ev_truB, List.set_cons_zero, List.set_cons_succ, ev_maskD, ev_maskI, ev_maskO, ev_mask0, ev_seqL, ev_seqT, ev_ixL, ev_ixT, ev_addI, ev_eqI, ev_neI, ev_endR, ev_endN, ev_endE, Option.map_some, Bool.false_eq_true, if_false, if_true, reduceIte, Bool.not_true, Bool.not_false, ev_lstB (show ([] : List PyData).length ≤ 16000000 by simp)]
    show (if _ then _ else _) = _
    rw [if_pos (by simp), putC_ne (Ne.symm n_ap), putC_ne (Ne.symm n_an)]; rfl
  have t5 : gPutO 0 "later" (gL lstD gNil) [.dict [(.str "prices", .tuple [encL n os]), (.str "now", .tuple [encM ⟨repB n 0, []⟩]), (.str "past", .list [])], encL n os] = .nx [crt n os ⟨⟨repB n 0, []⟩, [], []⟩, encL n os] := by
    unfold gPutO
    simp (implicitDefEqProofs := false) only [ev_gSeq, ev_gSet, ev_gIfS, ev_gTb, ev_gTr, ev_gB, ev_gU, ev_gL, ev_gCons, ev_gNil, ev_gV, ev_gC, ev_gF, ev_gRet, ev_gDrop, ev_gFor, ev_gIt, ev_gIt2, ev_gLc, ev_gIf, ev_gAndT, ev_gOrT, ev_gNotT, ev_gAndV, ev_gOrV, ev_gNotV, ev_gChain, ev_gRaise, ev_bind, ev_bindE, ev_lift, ev_thenS, ev_thenE, ev_look0, ev_lookS, ev_boolD, ev_truB, List.set_cons_zero, List.set_cons_succ, ev_maskD, ev_maskI, ev_maskO, ev_mask0, ev_seqL, ev_seqT, ev_ixL, ev_ixT, ev_addI, ev_eqI, ev_neI, ev_endR, ev_endN, ev_endE, Option.map_some, Bool.false_eq_true, if_false, if_true, reduceIte, Bool.not_true, Bool.not_false, ev_lstB (show ([] : List PyData).length ≤ 16000000 by simp)]
    show (if _ then _ else _) = _
    rw [if_pos (by simp), putC_ne (Ne.symm n_lp), putC_ne (Ne.symm n_ln), putC_ne (Ne.symm n_la)]; rfl
  unfold g_Cart
  rw [ev_seq t1, ev_seq t2, ev_seq t3, ev_seq t4, t5, ev_endCN]; rfl
end PD
namespace PD
open PySem L2
/-! L31: the law, plainly. -/
theorem sum_rep0 (n : Int) : (repB n 0).sum = 0 := by
  unfold repB
  induction n.toNat with
  | zero => rfl
  | succ k ih => rw [List.replicate_succ, List.sum_cons, ih]; rfl
theorem dRepL_zero {n : Int} (n0 : 0 ≤ n) (n3 : n ≤ 1000) : dRepL (.list [.int 0]) (.int n) = some (.list ((repB n 0).map PyData.int)) := by
  show (if _ then _ else _) = _
  rw [if_pos ⟨by omega, n3, by simp⟩]
  unfold repD
  rw [repD_one]
def encRw (m : Mo) : PyData := .tuple [encB m.b, .list (m.l.map encDe)]
theorem lay_deS (p : Bool) : (PyData.str (deS p)).canLay0 = true := by cases p <;> decide +kernel
theorem shp_encDe (d : De) : Shp 1 (encDe d) := shp_tup fun e he => by
  simp (implicitDefEqProofs := false) only [List.mem_cons, List.not_mem_nil, or_false] at he
  rcases he with rfl | rfl | rfl
  · exact shp_str (lay_deS _)
  · exact shp_int _
  · exact shp_int _
theorem shp_log (l : List De) : Shp 2 (.list (l.map encDe)) := shp_lst fun d hd => by
  obtain ⟨e, _, rfl⟩ := List.mem_map.mp hd
  exact shp_encDe e
theorem shp_encRw (m : Mo) : Shp 3 (encRw m) := shp_tup fun d hd => by
  simp (implicitDefEqProofs := false) only [List.mem_cons, List.not_mem_nil, or_false] at hd
  rcases hd with rfl | rfl
  · exact (shp_encB _).mono (by decide)
  · exact shp_log _
theorem sumL_len (n : Int) : ∀ (l : List De) (b : Bk), (l.foldl addZ b).length = b.length
  | [], _ => rfl
  | d :: l, b => by
    rw [List.foldl_cons, sumL_len n l]
    unfold addZ; exact putB_len _ _ _
theorem sumL_len' (n : Int) (l : List De) : (sumL n l).length = n.toNat := by unfold sumL; rw [sumL_len n]; simp
theorem md6 (i : Int) : dMod (.int i) (.int 6) = some (.int (i % 6)) := ev_mod (by decide)
theorem mul37 (i : Int) : dMul (.int 37) (.int i) = some (.int (37 * i)) := ev_mulI (.inl (by decide))
theorem eq_deS (p : Bool) : dEq (.str (deS p)) (.str "put") = some (.bool p) := by
  cases p
  · exact (dEq_str lay_take lay_put).trans (by rw [show (("take" : Str) == "put") = false by decide +kernel])
  · exact (dEq_str lay_put lay_put).trans (by rw [show (("put" : Str) == "put") = true by decide +kernel])
section
variable {ns : List Int} {n : Int} {os : List Off} {s : Cz}
/-! ### the deeds done -/
abbrev R9 (ns : List Int) (n : Int) (os : List Off) (s : Cz) : Rw := [scrD ns, .none, .int n, encL n os, crt n os s, .none, .none, .none, .none, .none, .none, .none, .none, .none]
abbrev ph7 : List Fl := [.im, .dead, .im, .im, .cw 0, .dead, .ow, .dead, .dead, .dead, .dead, .dead, .dead, .dead]
abbrev ph9 : List Fl := [.im, .dead, .im, .im, .cw 0, .dead, .dead, .dead, .dead, .dead, .dead, .dead, .dead, .dead]
theorem have_loop (n1 : 1 ≤ n) (n3 : n ≤ 3) (hv : ∀ d ∈ s.N.l, 0 ≤ d.w ∧ d.w < n) : forD ph7 (turnD (tTup 3 (tCons (tName 7) (tCons (tName 8) (tCons (tName 9) tNil)))) g_law_b1) (s.N.l.map encDe) [scrD ns, .none, .int n, encL n os, crt n os s, .none, .list ((repB n 0).map PyData.int), .none, .none, .none, .none, .none, .none, .none] = .nx [scrD ns, .none, .int n, encL n os, crt n os s, .none, .list ((sumL n s.N.l).map PyData.int), .none, .none, .none, .none, .none, .none, .none] := by
  refine forD_pre (ph := ph7) encDe (fun done => [scrD ns, .none, .int n, encL n os, crt n os s, .none, .list ((sumL n done).map PyData.int), .none, .none, .none, .none, .none, .none, .none]) s.N.l fun done x rest e => ?_
  obtain ⟨w0, wn⟩ := hv x (by rw [e]; simp)
  have hl := sumL_len' n done
  have wl : x.w < (sumL n done).length := by omega
  obtain ⟨b, hb⟩ : ∃ b, b = sumL n done := ⟨_, rfl⟩
  have eb : sumL n (done ++ [x]) = addZ b x := by rw [hb]; unfold sumL; rw [List.foldl_append]; rfl
  show ∃ r, (turnD _ g_law_b1 (encDe x) [scrD ns, .none, .int n, encL n os, crt n os s, .none, .list ((sumL n done).map PyData.int), .none, .none, .none, .none, .none, .none, .none] = .nx r ∨ _) ∧ mask ph7 r = [scrD ns, .none, .int n, encL n os, crt n os s, .none, .list ((sumL n (done ++ [x])).map PyData.int), .none, .none, .none, .none, .none, .none, .none]
  rw [eb, ← hb]
  rw [← hb] at wl
  refine ⟨[scrD ns, .none, .int n, encL n os, crt n os s, .none, .list ((addZ b x).map PyData.int), .str (deS x.p), .int x.w, .int x.m, .none, .none, .none, .none], .inl ?_, rfl⟩
  rw [ev_turn (r' := [scrD ns, .none, .int n, encL n os, crt n os s, .none, .list (b.map PyData.int), .str (deS x.p), .int x.w, .int x.m, .none, .none, .none, .none]) rfl]
  have ix : atI (b.map PyData.int) x.w = some (.int (hasB b x.w)) := ix_has w0 wl
  have ixn : ixN (b.map PyData.int).length x.w = some x.w.toNat := ixN_in w0 (by simpa using wl)
  have hset : ∀ v : Int, (b.map PyData.int).set x.w.toNat (.int v) = (putB b x.w v).map PyData.int := fun v => by unfold putB; rw [List.map_set]
  unfold g_law_b1 g_law_s6 gPutL addZ
  cases hp : x.p with
  | true => simp (implicitDefEqProofs := false) only [ev_gSeq, ev_gSet, ev_gIfS, ev_gTb, ev_gTr, ev_gB, ev_gU, ev_gL, ev_gCons, ev_gNil, ev_gV, ev_gC, ev_gF, ev_gRet, ev_gDrop, ev_gFor, ev_gIt, ev_gIt2, ev_gLc, ev_gIf, ev_gAndT, ev_gOrT, ev_gNotT, ev_gAndV, ev_gOrV, ev_gNotV, ev_gChain, ev_gRaise, ev_bind, ev_bindE, ev_lift, ev_thenS, ev_thenE, ev_look0, ev_lookS, ev_boolD, ev_truB, List.set_cons_zero, List.set_cons_succ, ev_maskD, ev_maskI, ev_maskO, ev_mask0, ev_seqL, ev_seqT, ev_ixL, ev_ixT, ev_addI, ev_eqI, ev_neI, ev_endR, ev_endN, ev_endE, Option.map_some, Bool.false_eq_true, if_false, if_true, reduceIte, Bool.not_true, Bool.not_false, eq_deS, ix, ixn, hset, hp]
  | false => simp (implicitDefEqProofs := false) only [ev_gSeq, ev_gSet, ev_gIfS, ev_gTb, ev_gTr, ev_gB, ev_gU, ev_gL, ev_gCons, ev_gNil, ev_gV, ev_gC, ev_gF, ev_gRet, ev_gDrop, ev_gFor, ev_gIt, ev_gIt2, ev_gLc, ev_gIf, ev_gAndT, ev_gOrT, ev_gNotT, ev_gAndV, ev_gOrV, ev_gNotV, ev_gChain, ev_gRaise, ev_bind, ev_bindE, ev_lift, ev_thenS, ev_thenE, ev_look0, ev_lookS, ev_boolD, ev_truB, List.set_cons_zero, List.set_cons_succ, ev_maskD, ev_maskI, ev_maskO, ev_mask0, ev_seqL, ev_seqT, ev_ixL, ev_ixT, ev_addI, ev_eqI, ev_neI, ev_endR, ev_endN, ev_endE, Option.map_some, Bool.false_eq_true, if_false, if_true, reduceIte, Bool.not_true, Bool.not_false, eq_deS, ix, ixn, hset, hp, ev_subI]
theorem turn31 (h : GoodL n os) (iv : Inv n s) (hl : (momsZ s).length ≤ 900) {i : Int} (i0 : 0 ≤ i) : ∃ s' r, g_law_b2 [scrD ns, .none, .int n, encL n os, crt n os s, .int i, .none, .none, .none, .none, .none, .none, .none, .none] = .nx r ∧ mask ph9 r = R9 ns n os s' ∧ Inv n s' ∧ (momsZ s').length ≤ (momsZ s).length + 1 := by
  have n1 := h.n1
  have n3 := h.n3
  have ml := moms_len s
  obtain ⟨o, ol⟩ := iv.now
  obtain ⟨wd, x, y, hx, hy, ed⟩ := c_drawn (seedZ (cellZ ns (3 + i % 6) + 37 * i) i) n1
  have dd := c_deed (wd := wd) h o.g (by omega) (by omega) (by omega) hx hy
  obtain ⟨iv2, hl2⟩ := inv_deed (ps := packsZ n os) (wd := wd) (x := x) (y := y) iv
  obtain ⟨s', es⟩ : ∃ s', s' = (deedZ n (packsZ n os) wd x y s).2 := ⟨_, rfl⟩
  obtain ⟨res, er⟩ : ∃ res, res = (deedZ n (packsZ n os) wd x y s).1 := ⟨_, rfl⟩
  rw [← es] at iv2 hl2 dd
  rw [← er] at dd
  obtain ⟨o2, ol2⟩ := iv2.now
  refine ⟨s', [scrD ns, .none, .int n, encL n os, crt n os s', .none, .list ((sumL n s'.N.l).map PyData.int), .none, .none, .none, .none, .none, .none, .none], ?_, rfl, iv2, hl2⟩
  have t4 : g_law_s4 [scrD ns, .none, .int n, encL n os, crt n os s, .int i, .none, .none, .none, .none, .none, .none, .none, .none] = .nx [scrD ns, .none, .int n, encL n os, crt n os s', .int i, .none, .none, .none, .none, .none, .none, .none, .none] := by
    simp (implicitDefEqProofs := false) only [g_law_s4, ev_gDropX, ev_gFC, ev_gSeq, ev_gSet, ev_gIfS, ev_gTb, ev_gTr, ev_gB, ev_gU, ev_gL, ev_gCons, ev_gNil, ev_gV, ev_gC, ev_gF, ev_gRet, ev_gDrop, ev_gFor, ev_gIt, ev_gIt2, ev_gLc, ev_gIf, ev_gAndT, ev_gOrT, ev_gNotT, ev_gAndV, ev_gOrV, ev_gNotV, ev_gChain, ev_gRaise, ev_bind, ev_bindE, ev_lift, ev_thenS, ev_thenE, ev_look0, ev_lookS, ev_boolD, ev_truB, List.set_cons_zero, List.set_cons_succ, ev_maskD, ev_maskI, ev_maskO, ev_mask0, ev_seqL, ev_seqT, ev_ixL, ev_ixT, ev_addI, ev_eqI, ev_neI, ev_endR, ev_endN, ev_endE, Option.map_some, Bool.false_eq_true, if_false, if_true, reduceIte, Bool.not_true, Bool.not_false, md6, mul37, m_cell ns (3 + i % 6) (by omega), m_seed, ed, ev_xOk, ev_xBind, dd, ev_outOk, ev_xS]
  have t5 : g_law_s5 [scrD ns, .none, .int n, encL n os, crt n os s', .int i, .none, .none, .none, .none, .none, .none, .none, .none] = .nx [scrD ns, .none, .int n, encL n os, crt n os s', .int i, .list ((repB n 0).map PyData.int), .none, .none, .none, .none, .none, .none, .none] := by
    simp (implicitDefEqProofs := false) only [g_law_s5, ev_gSeq, ev_gSet, ev_gIfS, ev_gTb, ev_gTr, ev_gB, ev_gU, ev_gL, ev_gCons, ev_gNil, ev_gV, ev_gC, ev_gF, ev_gRet, ev_gDrop, ev_gFor, ev_gIt, ev_gIt2, ev_gLc, ev_gIf, ev_gAndT, ev_gOrT, ev_gNotT, ev_gAndV, ev_gOrV, ev_gNotV, ev_gChain, ev_gRaise, ev_bind, ev_bindE, ev_lift, ev_thenS, ev_thenE, ev_look0, ev_lookS, ev_boolD, ev_truB, List.set_cons_zero, List.set_cons_succ, ev_maskD, ev_maskI, ev_maskO, ev_mask0, ev_seqL, ev_seqT, ev_ixL, ev_ixT, ev_addI, ev_eqI, ev_neI, ev_endR, ev_endN, ev_endE, Option.map_some, Bool.false_eq_true, if_false, if_true, reduceIte, Bool.not_true, Bool.not_false, ev_lstB (show [PyData.int 0].length ≤ 16000000 by simp), dRepL_zero (show 0 ≤ n by omega) (show n ≤ 1000 by omega)]
  have e1 : noF "log" (crt n os s') = .ok (crt n os s') := no_log _ _ _ _
  have e2 : noF "basket" (crt n os s') = .ok (crt n os s') := no_basket _ _ _ _
  have t7 : g_law_s7 [scrD ns, .none, .int n, encL n os, crt n os s', .int i, .list ((repB n 0).map PyData.int), .none, .none, .none, .none, .none, .none, .none] = .nx [scrD ns, .none, .int n, encL n os, crt n os s', .none, .list ((sumL n s'.N.l).map PyData.int), .none, .none, .none, .none, .none, .none, .none] := by
    unfold g_law_s7
    simp (implicitDefEqProofs := false) only [ev_gMR, ev_gSeq, ev_gSet, ev_gIfS, ev_gTb, ev_gTr, ev_gB, ev_gU, ev_gL, ev_gCons, ev_gNil, ev_gV, ev_gC, ev_gF, ev_gRet, ev_gDrop, ev_gFor, ev_gIt, ev_gIt2, ev_gLc, ev_gIf, ev_gAndT, ev_gOrT, ev_gNotT, ev_gAndV, ev_gOrV, ev_gNotV, ev_gChain, ev_gRaise, ev_bind, ev_bindE, ev_lift, ev_thenS, ev_thenE, ev_look0, ev_lookS, ev_boolD, ev_truB, List.set_cons_zero, List.set_cons_succ, ev_maskD, ev_maskI, ev_maskO, ev_mask0, ev_seqL, ev_seqT, ev_ixL, ev_ixT, ev_addI, ev_eqI, ev_neI, ev_endR, ev_endN, ev_endE, Option.map_some, Bool.false_eq_true, if_false, if_true, reduceIte, Bool.not_true, Bool.not_false, ev_maskC, e1, c_log, have_loop n1 n3 o2.v]
  have t8 : g_law_s8 [scrD ns, .none, .int n, encL n os, crt n os s', .none, .list ((sumL n s'.N.l).map PyData.int), .none, .none, .none, .none, .none, .none, .none] = .nx [scrD ns, .none, .int n, encL n os, crt n os s', .none, .list ((sumL n s'.N.l).map PyData.int), .none, .none, .none, .none, .none, .none, .none] := by
    have et : dTuple [.list ((sumL n s'.N.l).map PyData.int)] = some (encB s'.N.b) := by rw [o2.e]; rfl
    simp (implicitDefEqProofs := false) only [g_law_s8, ev_gMR, ev_gSeq, ev_gSet, ev_gIfS, ev_gTb, ev_gTr, ev_gB, ev_gU, ev_gL, ev_gCons, ev_gNil, ev_gV, ev_gC, ev_gF, ev_gRet, ev_gDrop, ev_gFor, ev_gIt, ev_gIt2, ev_gLc, ev_gIf, ev_gAndT, ev_gOrT, ev_gNotT, ev_gAndV, ev_gOrV, ev_gNotV, ev_gChain, ev_gRaise, ev_bind, ev_bindE, ev_lift, ev_thenS, ev_thenE, ev_look0, ev_lookS, ev_boolD, ev_truB, List.set_cons_zero, List.set_cons_succ, ev_maskD, ev_maskI, ev_maskO, ev_mask0, ev_seqL, ev_seqT, ev_ixL, ev_ixT, ev_addI, ev_eqI, ev_neI, ev_endR, ev_endN, ev_endE, Option.map_some, Bool.false_eq_true, if_false, if_true, reduceIte, Bool.not_true, Bool.not_false, e2, c_basket, et, dNe_self (shp_encB _) (show 1 ≤ 64 by decide)]
  unfold g_law_b2
  rw [ev_seq t4, ev_seq t5, ev_seq t7, t8]
/-! ### all taken back -/
abbrev ph13 : List Fl := [.dead, .dead, .im, .dead, .cw 0, .dead, .dead, .dead, .dead, .dead, .im, .ow, .dead, .dead]
abbrev R13 (n : Int) (os : List Off) (s : Cz) (D : PyData) (rows : List Mo) : Rw := [.none, .none, .int n, .none, crt n os s, .none, .none, .none, .none, .none, D, .list (rows.map encRw), .none, .none]
theorem ne_none_deed : dNe .none (.str "deed") = some (.bool true) := (dNe_of shp_none (shp_str lay_deed)).trans rfl
theorem ne_deed_deed : dNe (.str "deed") (.str "deed") = some (.bool false) := dNe_self (shp_str lay_deed) (by decide)
theorem undo_no (h : GoodL n os) (iv : Inv n s) (hl : (momsZ s).length ≤ 900) (e : s.A = []) (w : PyData) : m__law_cart_deed [crt n os s, .tuple [.str "undo", .int 0, .int 0]] = .ok (.str "deed", crt n os s) := by
  have ml := moms_len s
  obtain ⟨o, ol⟩ := iv.now
  have := c_deed (wd := .undo) (x := .int 0) (y := .int 0) h o.g (by omega) (by omega) (by omega) rfl rfl
  have ez : deedZ n (packsZ n os) .undo (.int 0) (.int 0) s = (.str "deed", s) := by unfold deedZ; rw [e]; rfl
  rw [ez] at this; exact this
theorem undo_yes (h : GoodL n os) (iv : Inv n s) (hl : (momsZ s).length ≤ 900) {A : List Mo} {z : Mo} (e : s.A = A ++ [z]) : m__law_cart_deed [crt n os s, .tuple [.str "undo", .int 0, .int 0]] = .ok (.none, crt n os ⟨z, A, s.L ++ [s.N]⟩) := by
  have ml := moms_len s
  obtain ⟨o, ol⟩ := iv.now
  have := c_deed (wd := .undo) (x := .int 0) (y := .int 0) h o.g (by omega) (by omega) (by omega) rfl rfl
  have ez : deedZ n (packsZ n os) .undo (.int 0) (.int 0) s = (.none, ⟨z, A, s.L ++ [s.N]⟩) := by unfold deedZ; rw [e, List.getLast?_concat, List.dropLast_concat]
  rw [ez] at this; exact this
theorem redo_no (h : GoodL n os) (iv : Inv n s) (hl : (momsZ s).length ≤ 900) (e : s.L = []) : m__law_cart_deed [crt n os s, .tuple [.str "redo", .int 0, .int 0]] = .ok (.str "deed", crt n os s) := by
  have ml := moms_len s
  obtain ⟨o, ol⟩ := iv.now
  have := c_deed (wd := .redo) (x := .int 0) (y := .int 0) h o.g (by omega) (by omega) (by omega) rfl rfl
  have ez : deedZ n (packsZ n os) .redo (.int 0) (.int 0) s = (.str "deed", s) := by unfold deedZ; rw [e]; rfl
  rw [ez] at this; exact this
theorem redo_yes (h : GoodL n os) (iv : Inv n s) (hl : (momsZ s).length ≤ 900) {L : List Mo} {z : Mo} (e : s.L = L ++ [z]) : m__law_cart_deed [crt n os s, .tuple [.str "redo", .int 0, .int 0]] = .ok (.none, crt n os ⟨z, s.A ++ [s.N], L⟩) := by
  have ml := moms_len s
  obtain ⟨o, ol⟩ := iv.now
  have := c_deed (wd := .redo) (x := .int 0) (y := .int 0) h o.g (by omega) (by omega) (by omega) rfl rfl
  have ez : deedZ n (packsZ n os) .redo (.int 0) (.int 0) s = (.none, ⟨z, s.A ++ [s.N], L⟩) := by unfold deedZ; rw [e, List.getLast?_concat, List.dropLast_concat]
  rw [ez] at this; exact this
theorem t3 (a b c : PyData) : tupD [a, b, c] = some (.tuple [a, b, c]) := ev_tupB (by simp)
theorem t2 (a b : PyData) : tupD [a, b] = some (.tuple [a, b]) := ev_tupB (by simp)
theorem row_of : gL tupD (gCons (gMR 4 "basket" m_Cart_basket gNil) (gCons (gMR 4 "log" m_Cart_log gNil) gNil)) = fun r => (noF "basket" (look r 4) >>= fun c => m_Cart_basket [c]) >>= fun a => (noF "log" (look r 4) >>= fun c => m_Cart_log [c]) >>= fun b => lift (tupD [a, b]) := by
  funext r
  rw [ev_gL, ev_gCons, ev_gMR]
  cases noF "basket" (look r 4) with
  | error e => rfl
  | ok c =>
    simp (implicitDefEqProofs := false) only [ev_gNil, ev_bind]
    cases m_Cart_basket [c] with
    | error e => rfl
    | ok a =>
      simp (implicitDefEqProofs := false) only [ev_bind, ev_gCons, ev_gMR, ev_gNil]
      cases noF "log" (look r 4) with
      | error e => rfl
      | ok c2 =>
        simp (implicitDefEqProofs := false) only [ev_bind]
        cases m_Cart_log [c2] <;> rfl
theorem row_is {r : Rw} (e : look r 4 = crt n os s) : gL tupD (gCons (gMR 4 "basket" m_Cart_basket gNil) (gCons (gMR 4 "log" m_Cart_log gNil) gNil)) r = .ok (encRw s.N) := by
  have e1 : noF "log" (crt n os s) = .ok (crt n os s) := no_log _ _ _ _
  have e2 : noF "basket" (crt n os s) = .ok (crt n os s) := no_basket _ _ _ _
  rw [row_of]
  simp (implicitDefEqProofs := false) only [e, e1, e2, ev_bind, c_basket, c_log, t2, ev_lift]
  rfl
theorem app_is {i : Nat} {ge : Rw → Rs PyData} {r : Rw} {xs : List PyData} {d : PyData} (e : look r i = .list xs) (hg : ge r = .ok d) (hl : xs.length < sizeLine) : gApp i ge r = .nx (r.set i (.list (xs ++ [d]))) := by
  unfold gApp
  rw [e]
  show thenS (ge r) r (fun d => if xs.length < sizeLine then .nx (r.set i (.list (xs ++ [d]))) else .er .bad r) = _
  rw [hg, ev_thenS, if_pos hl]
theorem back_all (h : GoodL n os) (D : PyData) : ∀ (k : Nat) (A : List Mo) (N : Mo) (L rows : List Mo), A.length < k → Inv n ⟨N, A, L⟩ → (momsZ ⟨N, A, L⟩).length ≤ 900 → rows.length + A.length ≤ 900 →
    whileX ph13 g_law_x1 g_law_b3 k (R13 n os ⟨N, A, L⟩ D rows) = .nx (R13 n os ⟨(A ++ [N]).headD N, [], L ++ (A ++ [N]).tail.reverse⟩ D (rows ++ A.reverse))
  | 0, _, _, _, _, hk, _, _, _ => absurd hk (Nat.not_lt_zero _)
  | k + 1, A, N, L, rows, hk, iv, hl, hr => by
    rcases List.eq_nil_or_concat A with e | ⟨B, z, e⟩
    · subst e
      have ed := undo_no h iv hl rfl .none
      have et : g_law_x1 (R13 n os ⟨N, [], L⟩ D rows) = .ok false (R13 n os ⟨N, [], L⟩ D rows) := by
        simp (implicitDefEqProofs := false) only [g_law_x1, ev_gTbX, ev_gBX, ev_gFC, ev_gSeq, ev_gSet, ev_gIfS, ev_gTb, ev_gTr, ev_gB, ev_gU, ev_gL, ev_gCons, ev_gNil, ev_gV, ev_gC, ev_gF, ev_gRet, ev_gDrop, ev_gFor, ev_gIt, ev_gIt2, ev_gLc, ev_gIf, ev_gAndT, ev_gOrT, ev_gNotT, ev_gAndV, ev_gOrV, ev_gNotV, ev_gChain, ev_gRaise, ev_bind, ev_bindE, ev_lift, ev_thenS, ev_thenE, ev_look0, ev_lookS, ev_boolD, ev_truB, List.set_cons_zero, List.set_cons_succ, ev_maskD, ev_maskI, ev_maskO, ev_mask0, ev_seqL, ev_seqT, ev_ixL, ev_ixT, ev_addI, ev_eqI, ev_neI, ev_endR, ev_endN, ev_endE, Option.map_some, Bool.false_eq_true, if_false, if_true, reduceIte, Bool.not_true, Bool.not_false, t3, ev_xOk, ev_xBind, ed, ev_outOk, ne_deed_deed]
      show xS (g_law_x1 (R13 n os ⟨N, [], L⟩ D rows)) _ = _
      rw [et, ev_xS, if_neg Bool.false_ne_true]
      simp
    · rw [List.concat_eq_append] at e
      subst e
      have ed := undo_yes h iv hl (A := B) (z := z) rfl
      have et : g_law_x1 (R13 n os ⟨N, B ++ [z], L⟩ D rows) = .ok true (R13 n os ⟨z, B, L ++ [N]⟩ D rows) := by
        simp (implicitDefEqProofs := false) only [g_law_x1, ev_gTbX, ev_gBX, ev_gFC, ev_gSeq, ev_gSet, ev_gIfS, ev_gTb, ev_gTr, ev_gB, ev_gU, ev_gL, ev_gCons, ev_gNil, ev_gV, ev_gC, ev_gF, ev_gRet, ev_gDrop, ev_gFor, ev_gIt, ev_gIt2, ev_gLc, ev_gIf, ev_gAndT, ev_gOrT, ev_gNotT, ev_gAndV, ev_gOrV, ev_gNotV, ev_gChain, ev_gRaise, ev_bind, ev_bindE, ev_lift, ev_thenS, ev_thenE, ev_look0, ev_lookS, ev_boolD, ev_truB, List.set_cons_zero, List.set_cons_succ, ev_maskD, ev_maskI, ev_maskO, ev_mask0, ev_seqL, ev_seqT, ev_ixL, ev_ixT, ev_addI, ev_eqI, ev_neI, ev_endR, ev_endN, ev_endE, Option.map_some, Bool.false_eq_true, if_false, if_true, reduceIte, Bool.not_true, Bool.not_false, t3, ev_xOk, ev_xBind, ed, ev_outOk, ne_none_deed]
      have eb : g_law_b3 (R13 n os ⟨z, B, L ++ [N]⟩ D rows) = .nx (R13 n os ⟨z, B, L ++ [N]⟩ D (rows ++ [z])) := by
        unfold g_law_b3 g_law_s12
        rw [app_is (xs := rows.map encRw) rfl (row_is (s := ⟨z, B, L ++ [N]⟩) rfl) (sl_lt (by simp at hr ⊢; omega))]
        show SR.nx [.none, .none, .int n, .none, crt n os ⟨z, B, L ++ [N]⟩, .none, .none, .none, .none, .none, D, .list (rows.map encRw ++ [encRw z]), .none, .none] = .nx [.none, .none, .int n, .none, crt n os ⟨z, B, L ++ [N]⟩, .none, .none, .none, .none, .none, D, .list ((rows ++ [z]).map encRw), .none, .none]
        rw [List.map_append]; rfl
      have hm : momsZ ⟨z, B, L ++ [N]⟩ = momsZ ⟨N, B ++ [z], L⟩ := inv_back (s := ⟨N, B ++ [z], L⟩) rfl
      have ih := back_all h D k B z (L ++ [N]) (rows ++ [z]) (by simp at hk; omega) (by unfold Inv; rw [hm]; exact iv) (by rw [hm]; exact hl) (by simp at hr ⊢; omega)
      show xS (g_law_x1 (R13 n os ⟨N, B ++ [z], L⟩ D rows)) _ = _
      rw [et, ev_xS, if_pos rfl, eb]
      show whileX ph13 g_law_x1 g_law_b3 k (mask ph13 (R13 n os ⟨z, B, L ++ [N]⟩ D (rows ++ [z]))) = _
      have em : mask ph13 (R13 n os ⟨z, B, L ++ [N]⟩ D (rows ++ [z])) = R13 n os ⟨z, B, L ++ [N]⟩ D (rows ++ [z]) := rfl
      rw [em, ih]
      have h1 : (B ++ [z]).headD z = (B ++ [z] ++ [N]).headD N := by cases B <;> rfl
      have h2 : L ++ [N] ++ (B ++ [z]).tail.reverse = L ++ (B ++ [z] ++ [N]).tail.reverse := by cases B <;> simp
      have h3 : rows ++ [z] ++ B.reverse = rows ++ (B ++ [z]).reverse := by simp
      rw [h1, h2, h3]
/-! ### all done again -/
abbrev ph16 : List Fl := [.dead, .dead, .im, .dead, .cw 0, .dead, .dead, .dead, .dead, .dead, .im, .im, .dead, .dead]
abbrev Zat (hd : Mo) (L all done : List Mo) : Cz := ⟨(hd :: done).getLastD hd, (hd :: done).dropLast, L ++ (all.drop done.length).reverse⟩
theorem fore_all (h : GoodL n os) (D : PyData) (hd : Mo) (L all rows : List Mo) (iv : Inv n ⟨hd, [], L ++ all.reverse⟩) (hl : (momsZ ⟨hd, [], L ++ all.reverse⟩).length ≤ 900) :
    forD ph16 (turnD (tName 12) g_law_b4) (all.map encRw) (R13 n os (Zat hd L all []) D rows) = .nx (R13 n os (Zat hd L all all) D rows) := by
  have hm : ∀ done rest : List Mo, all = done ++ rest → momsZ (Zat hd L all done) = momsZ ⟨hd, [], L ++ all.reverse⟩ := fun done rest e => by
    subst e
    unfold momsZ
    simp (implicitDefEqProofs := false) only [Zat, List.drop_left, List.reverse_append, List.reverse_reverse, List.append_assoc, List.nil_append]
    rcases List.eq_nil_or_concat done with z | ⟨B, x, z⟩
    · subst z; simp
    · rw [List.concat_eq_append] at z; subst z
      have : (hd :: (B ++ [x])).dropLast = hd :: B := by rw [show hd :: (B ++ [x]) = (hd :: B) ++ [x] from rfl, List.dropLast_concat]
      rw [this]
      have : (hd :: (B ++ [x])).getLastD hd = x := by rw [List.getLastD_cons]; simp
      rw [this]
      simp
  refine forD_pre (ph := ph16) encRw (fun done => R13 n os (Zat hd L all done) D rows) all fun done x rest e => ?_
  have h1 := hm done (x :: rest) e
  have iv1 : Inv n (Zat hd L all done) := by unfold Inv; rw [h1]; exact iv
  have hl1 : (momsZ (Zat hd L all done)).length ≤ 900 := by rw [h1]; exact hl
  have eL : (Zat hd L all done).L = (L ++ rest.reverse) ++ [x] := by
    show L ++ (all.drop done.length).reverse = _
    rw [e, List.drop_left]; simp
  have er := redo_yes h iv1 hl1 eL
  have ez : (⟨x, (Zat hd L all done).A ++ [(Zat hd L all done).N], L ++ rest.reverse⟩ : Cz) = Zat hd L all (done ++ [x]) := by
    show Cz.mk x ((hd :: done).dropLast ++ [(hd :: done).getLastD hd]) (L ++ rest.reverse) = Cz.mk ((hd :: (done ++ [x])).getLastD hd) ((hd :: (done ++ [x])).dropLast) (L ++ (all.drop (done ++ [x]).length).reverse)
    have a1 : (hd :: (done ++ [x])).getLastD hd = x := by rw [List.getLastD_cons]; simp
    have a2 : (hd :: (done ++ [x])).dropLast = hd :: done := by rw [show hd :: (done ++ [x]) = (hd :: done) ++ [x] from rfl, List.dropLast_concat]
    have a3 : all.drop (done ++ [x]).length = rest := by rw [e, show done ++ x :: rest = (done ++ [x]) ++ rest by simp, List.drop_left]
    have a4 : (hd :: done).dropLast ++ [(hd :: done).getLastD hd] = hd :: done := by
      have : (hd :: done).getLastD hd = (hd :: done).getLast (by simp) := by rw [List.getLastD_eq_getLast?, List.getLast?_eq_some_getLast (by simp)]; rfl
      rw [this, List.dropLast_concat_getLast]
    rw [a1, a2, a3, a4]
  rw [ez] at er
  refine ⟨[.none, .none, .int n, .none, crt n os (Zat hd L all (done ++ [x])), .none, .none, .none, .none, .none, D, .list (rows.map encRw), encRw x, .none], .inl ?_, rfl⟩
  rw [ev_turn1]
  have eN : (Zat hd L all (done ++ [x])).N = x := by
    show (hd :: (done ++ [x])).getLastD hd = x
    rw [List.getLastD_cons]; simp
  have erow : ∀ o : PyData, gL tupD (gCons (gMR 4 "basket" m_Cart_basket gNil) (gCons (gMR 4 "log" m_Cart_log gNil) gNil)) [.none, .none, .int n, .none, crt n os (Zat hd L all (done ++ [x])), .none, .none, .none, .none, .none, D, .list (rows.map encRw), o, .none] = .ok (encRw x) := fun o => by
    rw [row_is (s := Zat hd L all (done ++ [x])) rfl, eN]
  show g_law_b4 [.none, .none, .int n, .none, crt n os (Zat hd L all done), .none, .none, .none, .none, .none, D, .list (rows.map encRw), encRw x, .none] = _
  have ex : gTbX (gBX (dIs true) (gFC 4 m__law_cart_deed (gCons (gL tupD (gCons (gC (.str "redo")) (gCons (gC (.int 0)) (gCons (gC (.int 0)) gNil)))) gNil)) (gC .none)) [.none, .none, .int n, .none, crt n os (Zat hd L all done), .none, .none, .none, .none, .none, D, .list (rows.map encRw), encRw x, .none] = .ok false [.none, .none, .int n, .none, crt n os (Zat hd L all (done ++ [x])), .none, .none, .none, .none, .none, D, .list (rows.map encRw), encRw x, .none] := by
    simp (implicitDefEqProofs := false) only [ev_gTbX, ev_gBX, ev_gFC, ev_gSeq, ev_gSet, ev_gIfS, ev_gTb, ev_gTr, ev_gB, ev_gU, ev_gL, ev_gCons, ev_gNil, ev_gV, ev_gC, ev_gF, ev_gRet, ev_gDrop, ev_gFor, ev_gIt, ev_gIt2, ev_gLc, ev_gIf, ev_gAndT, ev_gOrT, ev_gNotT, ev_gAndV, ev_gOrV, ev_gNotV, ev_gChain, ev_gRaise, ev_bind, ev_bindE, ev_lift, ev_thenS, ev_thenE, ev_look0, ev_lookS, ev_boolD, ev_truB, List.set_cons_zero, List.set_cons_succ, ev_maskD, ev_maskI, ev_maskO, ev_mask0, ev_seqL, ev_seqT, ev_ixL, ev_ixT, ev_addI, ev_eqI, ev_neI, ev_endR, ev_endN, ev_endE, Option.map_some, Bool.false_eq_true, if_false, if_true, reduceIte, Bool.not_true, Bool.not_false, t3, ev_xOk, ev_xBind, er, ev_outOk, ev_gIs, isNo_none, show (true != true) = false from rfl]
  unfold g_law_b4 g_law_s15
  rw [ev_gIfX, ev_gOrX, ex]
  have ey : gTb (gB dNe (gL tupD (gCons (gMR 4 "basket" m_Cart_basket gNil) (gCons (gMR 4 "log" m_Cart_log gNil) gNil))) (gV 12)) [.none, .none, .int n, .none, crt n os (Zat hd L all (done ++ [x])), .none, .none, .none, .none, .none, D, .list (rows.map encRw), encRw x, .none] = .ok false := by
    rw [ev_gTb, ev_gB, erow]
    simp (implicitDefEqProofs := false) only [ev_gSeq, ev_gSet, ev_gIfS, ev_gTb, ev_gTr, ev_gB, ev_gU, ev_gL, ev_gCons, ev_gNil, ev_gV, ev_gC, ev_gF, ev_gRet, ev_gDrop, ev_gFor, ev_gIt, ev_gIt2, ev_gLc, ev_gIf, ev_gAndT, ev_gOrT, ev_gNotT, ev_gAndV, ev_gOrV, ev_gNotV, ev_gChain, ev_gRaise, ev_bind, ev_bindE, ev_lift, ev_thenS, ev_thenE, ev_look0, ev_lookS, ev_boolD, ev_truB, List.set_cons_zero, List.set_cons_succ, ev_maskD, ev_maskI, ev_maskO, ev_mask0, ev_seqL, ev_seqT, ev_ixL, ev_ixT, ev_addI, ev_eqI, ev_neI, ev_endR, ev_endN, ev_endE, Option.map_some, Bool.false_eq_true, if_false, if_true, reduceIte, Bool.not_true, Bool.not_false, dNe_self (shp_encRw x) (show 3 ≤ 64 by decide)]
  rw [ev_xBind, if_neg Bool.false_ne_true, ey, ev_xOk, ev_xS, if_neg Bool.false_ne_true]
/-! ### one deed more -/
theorem end31 (h : GoodL n os) (iv : Inv n s) (hl : (momsZ s).length ≤ 900) {D : PyData} {A : List Mo} {z : Mo} (e : s.A = A ++ [z]) (R : PyData) :
    gSeq (gDropX (gMC 4 "undo" m_Cart_undo gNil)) (gSeq g_law_s17 (gSeq g_law_s18 (gSeq g_law_s19 g_law_s20))) [.none, .none, .int n, .none, crt n os s, .none, .none, .none, .none, .none, D, R, .none, .none] = .rt (.bool true) := by
  have n1 := h.n1
  have n3 := h.n3
  have ml := moms_len s
  obtain ⟨s1, es1⟩ : ∃ s1 : Cz, s1 = ⟨z, A, s.L ++ [s.N]⟩ := ⟨_, rfl⟩
  have hm : momsZ s1 = momsZ s := by rw [es1]; exact inv_back e
  have iv1 : Inv n s1 := by unfold Inv; rw [hm]; exact iv
  have ml1 := moms_len s1
  rw [hm] at ml1
  obtain ⟨o, ol⟩ := iv1.now
  have hbl := o.g.len
  have e0 : noF "undo" (crt n os s) = .ok (crt n os s) := no_undo _ _ _ _
  have e2 : noF "basket" (crt n os s1) = .ok (crt n os s1) := no_basket _ _ _ _
  have e3 : noF "put" (crt n os s1) = .ok (crt n os s1) := no_put _ _ _ _
  have eu := c_undo (n := n) (os := os) e (by omega)
  rw [← es1] at eu
  have t1 : gDropX (gMC 4 "undo" m_Cart_undo gNil) [.none, .none, .int n, .none, crt n os s, .none, .none, .none, .none, .none, D, R, .none, .none] = .nx [.none, .none, .int n, .none, crt n os s1, .none, .none, .none, .none, .none, D, R, .none, .none] := by
    simp (implicitDefEqProofs := false) only [ev_gDropX, ev_gMC, ev_gSeq, ev_gSet, ev_gIfS, ev_gTb, ev_gTr, ev_gB, ev_gU, ev_gL, ev_gCons, ev_gNil, ev_gV, ev_gC, ev_gF, ev_gRet, ev_gDrop, ev_gFor, ev_gIt, ev_gIt2, ev_gLc, ev_gIf, ev_gAndT, ev_gOrT, ev_gNotT, ev_gAndV, ev_gOrV, ev_gNotV, ev_gChain, ev_gRaise, ev_bind, ev_bindE, ev_lift, ev_thenS, ev_thenE, ev_look0, ev_lookS, ev_boolD, ev_truB, List.set_cons_zero, List.set_cons_succ, ev_maskD, ev_maskI, ev_maskO, ev_mask0, ev_seqL, ev_seqT, ev_ixL, ev_ixT, ev_addI, ev_eqI, ev_neI, ev_endR, ev_endN, ev_endE, Option.map_some, Bool.false_eq_true, if_false, if_true, reduceIte, Bool.not_true, Bool.not_false, e0, ev_xOk, ev_xBind, eu, ev_outOk, ev_xS]
  have kc : compD (eltD (tName 13) g_law_c1 g_law_e1 [.none, .none, .int n, .none, crt n os s1, .none, .none, .none, .none, .none, D, R, .none, .none]) ((rgZ n).map PyData.int) = some (((rgZ n).filter fun i => decide (hasB s1.N.b i < 9)).map PyData.int) := by
    refine comp_enc PyData.int (fun i => decide (hasB s1.N.b i < 9)) PyData.int _ fun i hi => ?_
    have hi := mem_rgZ.mp hi
    refine elt_of (r' := [.none, .none, .int n, .none, crt n os s1, .none, .none, .none, .none, .none, D, R, .none, .int i]) rfl ?_ (fun _ => rfl)
    simp (implicitDefEqProofs := false) only [g_law_c1, ev_gMR, ev_gSeq, ev_gSet, ev_gIfS, ev_gTb, ev_gTr, ev_gB, ev_gU, ev_gL, ev_gCons, ev_gNil, ev_gV, ev_gC, ev_gF, ev_gRet, ev_gDrop, ev_gFor, ev_gIt, ev_gIt2, ev_gLc, ev_gIf, ev_gAndT, ev_gOrT, ev_gNotT, ev_gAndV, ev_gOrV, ev_gNotV, ev_gChain, ev_gRaise, ev_bind, ev_bindE, ev_lift, ev_thenS, ev_thenE, ev_look0, ev_lookS, ev_boolD, ev_truB, List.set_cons_zero, List.set_cons_succ, ev_maskD, ev_maskI, ev_maskO, ev_mask0, ev_seqL, ev_seqT, ev_ixL, ev_ixT, ev_addI, ev_eqI, ev_neI, ev_endR, ev_endN, ev_endE, Option.map_some, Bool.false_eq_true, if_false, if_true, reduceIte, Bool.not_true, Bool.not_false, e2, c_basket, ix_has hi.1 (show i < s1.N.b.length by omega), ltCI]
  have t17 : g_law_s17 [.none, .none, .int n, .none, crt n os s1, .none, .none, .none, .none, .none, D, R, .none, .none] = .nx [.none, .none, .int n, .none, crt n os s1, .none, .none, .none, .list (((rgZ n).filter fun i => decide (hasB s1.N.b i < 9)).map PyData.int), .none, D, R, .none, .none] := by
    simp (implicitDefEqProofs := false) only [g_law_s17, ev_gSeq, ev_gSet, ev_gIfS, ev_gTb, ev_gTr, ev_gB, ev_gU, ev_gL, ev_gCons, ev_gNil, ev_gV, ev_gC, ev_gF, ev_gRet, ev_gDrop, ev_gFor, ev_gIt, ev_gIt2, ev_gLc, ev_gIf, ev_gAndT, ev_gOrT, ev_gNotT, ev_gAndV, ev_gOrV, ev_gNotV, ev_gChain, ev_gRaise, ev_bind, ev_bindE, ev_lift, ev_thenS, ev_thenE, ev_look0, ev_lookS, ev_boolD, ev_truB, List.set_cons_zero, List.set_cons_succ, ev_maskD, ev_maskI, ev_maskO, ev_mask0, ev_seqL, ev_seqT, ev_ixL, ev_ixT, ev_addI, ev_eqI, ev_neI, ev_endR, ev_endN, ev_endE, Option.map_some, Bool.false_eq_true, if_false, if_true, reduceIte, Bool.not_true, Bool.not_false, ev_rngB (show 0 ≤ n by omega) (show n ≤ 16000000 by omega), kc]
  rw [ev_seq t1, ev_seq t17]
  have hsh : ∀ l : List Int, Shp 1 (.list (l.map PyData.int)) := fun l => shp_lst fun d hd => by
    obtain ⟨i, _, rfl⟩ := List.mem_map.mp hd
    exact shp_int i
  have hsh0 : Shp 1 (.list ([] : List PyData)) := hsh []
  cases ef : (rgZ n).filter (fun i => decide (hasB s1.N.b i < 9)) with
  | nil =>
    have t18 : g_law_s18 [.none, .none, .int n, .none, crt n os s1, .none, .none, .none, .list (([] : List Int).map PyData.int), .none, D, R, .none, .none] = .rt (.bool true) := by
      simp (implicitDefEqProofs := false) only [g_law_s18, ev_gSeq, ev_gSet, ev_gIfS, ev_gTb, ev_gTr, ev_gB, ev_gU, ev_gL, ev_gCons, ev_gNil, ev_gV, ev_gC, ev_gF, ev_gRet, ev_gDrop, ev_gFor, ev_gIt, ev_gIt2, ev_gLc, ev_gIf, ev_gAndT, ev_gOrT, ev_gNotT, ev_gAndV, ev_gOrV, ev_gNotV, ev_gChain, ev_gRaise, ev_bind, ev_bindE, ev_lift, ev_thenS, ev_thenE, ev_look0, ev_lookS, ev_boolD, ev_truB, List.set_cons_zero, List.set_cons_succ, ev_maskD, ev_maskI, ev_maskO, ev_mask0, ev_seqL, ev_seqT, ev_ixL, ev_ixT, ev_addI, ev_eqI, ev_neI, ev_endR, ev_endN, ev_endE, Option.map_some, Bool.false_eq_true, if_false, if_true, reduceIte, Bool.not_true, Bool.not_false, List.map_nil, ev_lstB (show ([] : List PyData).length ≤ 16000000 by simp), dEq_self hsh0 (show 1 ≤ 64 by decide)]
    rw [ev_seqR t18]
  | cons f fr =>
    have hf : f ∈ (rgZ n).filter (fun i => decide (hasB s1.N.b i < 9)) := by rw [ef]; simp
    obtain ⟨f1, f2⟩ := List.mem_filter.mp hf
    have f1 := mem_rgZ.mp f1
    have f2 : hasB s1.N.b f < 9 := of_decide_eq_true f2
    have h9 := has_in o.g f1.1 f1.2
    have hne : dEq (.list ((f :: fr).map PyData.int)) (.list []) = some (.bool false) := (dEq_of (hsh (f :: fr)) hsh0).trans rfl
    have t18 : g_law_s18 [.none, .none, .int n, .none, crt n os s1, .none, .none, .none, .list ((f :: fr).map PyData.int), .none, D, R, .none, .none] = .nx [.none, .none, .int n, .none, crt n os s1, .none, .none, .none, .list ((f :: fr).map PyData.int), .none, D, R, .none, .none] := by
      simp (implicitDefEqProofs := false) only [g_law_s18, ev_gSeq, ev_gSet, ev_gIfS, ev_gTb, ev_gTr, ev_gB, ev_gU, ev_gL, ev_gCons, ev_gNil, ev_gV, ev_gC, ev_gF, ev_gRet, ev_gDrop, ev_gFor, ev_gIt, ev_gIt2, ev_gLc, ev_gIf, ev_gAndT, ev_gOrT, ev_gNotT, ev_gAndV, ev_gOrV, ev_gNotV, ev_gChain, ev_gRaise, ev_bind, ev_bindE, ev_lift, ev_thenS, ev_thenE, ev_look0, ev_lookS, ev_boolD, ev_truB, List.set_cons_zero, List.set_cons_succ, ev_maskD, ev_maskI, ev_maskO, ev_mask0, ev_seqL, ev_seqT, ev_ixL, ev_ixT, ev_addI, ev_eqI, ev_neI, ev_endR, ev_endN, ev_endE, Option.map_some, Bool.false_eq_true, if_false, if_true, reduceIte, Bool.not_true, Bool.not_false, ev_lstB (show ([] : List PyData).length ≤ 16000000 by simp), hne]
    have ep := c_put (os := os) (m := 1) h o.g f1.1 f1.2 (by decide) (by decide) (by omega) (by omega) (by omega)
    obtain ⟨s2, es2⟩ : ∃ s2 : Cz, s2 = goZ s1 f 1 ⟨true, f, 1⟩ := ⟨_, rfl⟩
    rw [← es2] at ep
    have iv2 : Inv n s2 := by rw [es2]; exact inv_go iv1 ⟨rfl, rfl⟩ f1.1 f1.2 (by omega) (by omega)
    have hl2 : (momsZ s2).length ≤ 900 ∨ 900 < (momsZ s2).length := by omega
    have at0' : atI ((f :: fr).map PyData.int) 0 = some (.int f) := at_0 _ _
    have t19 : g_law_s19 [.none, .none, .int n, .none, crt n os s1, .none, .none, .none, .list ((f :: fr).map PyData.int), .none, D, R, .none, .none] = .nx [.none, .none, .int n, .none, crt n os s2, .none, .none, .none, .list ((f :: fr).map PyData.int), .none, D, R, .none, .none] := by
      simp (implicitDefEqProofs := false) only [g_law_s19, ev_gDropX, ev_gMC, ev_gSeq, ev_gSet, ev_gIfS, ev_gTb, ev_gTr, ev_gB, ev_gU, ev_gL, ev_gCons, ev_gNil, ev_gV, ev_gC, ev_gF, ev_gRet, ev_gDrop, ev_gFor, ev_gIt, ev_gIt2, ev_gLc, ev_gIf, ev_gAndT, ev_gOrT, ev_gNotT, ev_gAndV, ev_gOrV, ev_gNotV, ev_gChain, ev_gRaise, ev_bind, ev_bindE, ev_lift, ev_thenS, ev_thenE, ev_look0, ev_lookS, ev_boolD, ev_truB, List.set_cons_zero, List.set_cons_succ, ev_maskD, ev_maskI, ev_maskO, ev_mask0, ev_seqL, ev_seqT, ev_ixL, ev_ixT, ev_addI, ev_eqI, ev_neI, ev_endR, ev_endN, ev_endE, Option.map_some, Bool.false_eq_true, if_false, if_true, reduceIte, Bool.not_true, Bool.not_false, e3, at0', ev_xOk, ev_xBind, ep, ev_outOk, ev_xS]
    obtain ⟨o2, ol2⟩ := iv2.now
    have ed := c_deed (os := os) (s := s2) (wd := .redo) (x := .int 0) (y := .int 0) h o2.g (by rw [es2]; show (s1.A ++ [s1.N]).length ≤ 999; simp; omega) (by rw [es2]; show ([] : List Mo).length ≤ 999; simp) (by rw [ol2, es2]; show (s1.A ++ [s1.N]).length ≤ 999; simp; omega) rfl rfl
    have ez : deedZ n (packsZ n os) .redo (.int 0) (.int 0) s2 = (.str "deed", s2) := by unfold deedZ; rw [es2]; rfl
    rw [ez] at ed
    have ed : m__law_cart_deed [crt n os s2, .tuple [.str "redo", .int 0, .int 0]] = .ok (.str "deed", crt n os s2) := ed
    rw [ev_seq t18, ev_seq t19]
    simp (implicitDefEqProofs := false) only [g_law_s20, ev_gRetX, ev_gBX, ev_gFC, ev_gSeq, ev_gSet, ev_gIfS, ev_gTb, ev_gTr, ev_gB, ev_gU, ev_gL, ev_gCons, ev_gNil, ev_gV, ev_gC, ev_gF, ev_gRet, ev_gDrop, ev_gFor, ev_gIt, ev_gIt2, ev_gLc, ev_gIf, ev_gAndT, ev_gOrT, ev_gNotT, ev_gAndV, ev_gOrV, ev_gNotV, ev_gChain, ev_gRaise, ev_bind, ev_bindE, ev_lift, ev_thenS, ev_thenE, ev_look0, ev_lookS, ev_boolD, ev_truB, List.set_cons_zero, List.set_cons_succ, ev_maskD, ev_maskI, ev_maskO, ev_mask0, ev_seqL, ev_seqT, ev_ixL, ev_ixT, ev_addI, ev_eqI, ev_neI, ev_endR, ev_endN, ev_endE, Option.map_some, Bool.false_eq_true, if_false, if_true, reduceIte, Bool.not_true, Bool.not_false, t3, ev_xOk, ev_xBind, ed, ev_outOk, dEq_self (shp_str lay_deed) (show 0 ≤ 64 by decide), ev_xS]
end
theorem law_plain : ∀ ns : List Int, ns.length ≤ 63 → m_law [scrD ns] = .ok (.bool true) := by
  intro ns _
  show endD (g_law [scrD ns, .none, .none, .none, .none, .none, .none, .none, .none, .none, .none, .none, .none, .none]) = _
  obtain ⟨sd, hs⟩ : ∃ sd, sd = seedZ (cellZ ns 0) 1 := ⟨_, rfl⟩
  obtain ⟨n, hn⟩ : ∃ n, n = 1 + sd / 11 % 2 := ⟨_, rfl⟩
  have n1 : 1 ≤ n := by omega
  have n3 : n ≤ 3 := by omega
  obtain ⟨os, h, _, _, eo⟩ := m_two_list_ (seedZ (cellZ ns 1) 2) n1 n3
  have u1 : g_law_s1 [scrD ns, .none, .none, .none, .none, .none, .none, .none, .none, .none, .none, .none, .none, .none] = .nx [scrD ns, .int sd, .none, .none, .none, .none, .none, .none, .none, .none, .none, .none, .none, .none] := by simp (implicitDefEqProofs := false) only [g_law_s1, ev_gSeq, ev_gSet, ev_gIfS, ev_gTb, ev_gTr, ev_gB, ev_gU, ev_gL, ev_gCons, ev_gNil, ev_gV, ev_gC, ev_gF, ev_gRet, ev_gDrop, ev_gFor, ev_gIt, ev_gIt2, ev_gLc, ev_gIf, ev_gAndT, ev_gOrT, ev_gNotT, ev_gAndV, ev_gOrV, ev_gNotV, ev_gChain, ev_gRaise, ev_bind, ev_bindE, ev_lift, ev_thenS, ev_thenE, ev_look0, ev_lookS, ev_boolD, ev_truB, List.set_cons_zero, List.set_cons_succ, ev_maskD, ev_maskI, ev_maskO, ev_mask0, ev_seqL, ev_seqT, ev_ixL, ev_ixT, ev_addI, ev_eqI, ev_neI, ev_endR, ev_endN, ev_endE, Option.map_some, Bool.false_eq_true, if_false, if_true, reduceIte, Bool.not_true, Bool.not_false, m_cell ns 0 (by decide), m_seed, ← hs]
  have u2 : g_law_s2 [scrD ns, .int sd, .none, .none, .none, .none, .none, .none, .none, .none, .none, .none, .none, .none] = .nx [scrD ns, .int sd, .int n, .none, .none, .none, .none, .none, .none, .none, .none, .none, .none, .none] := by simp (implicitDefEqProofs := false) only [g_law_s2, ev_gSeq, ev_gSet, ev_gIfS, ev_gTb, ev_gTr, ev_gB, ev_gU, ev_gL, ev_gCons, ev_gNil, ev_gV, ev_gC, ev_gF, ev_gRet, ev_gDrop, ev_gFor, ev_gIt, ev_gIt2, ev_gLc, ev_gIf, ev_gAndT, ev_gOrT, ev_gNotT, ev_gAndV, ev_gOrV, ev_gNotV, ev_gChain, ev_gRaise, ev_bind, ev_bindE, ev_lift, ev_thenS, ev_thenE, ev_look0, ev_lookS, ev_boolD, ev_truB, List.set_cons_zero, List.set_cons_succ, ev_maskD, ev_maskI, ev_maskO, ev_mask0, ev_seqL, ev_seqT, ev_ixL, ev_ixT, ev_addI, ev_eqI, ev_neI, ev_endR, ev_endN, ev_endE, Option.map_some, Bool.false_eq_true, if_false, if_true, reduceIte, Bool.not_true, Bool.not_false, fd11, md2, ← hn]
  have u3 : g_law_s3 [scrD ns, .int sd, .int n, .none, .none, .none, .none, .none, .none, .none, .none, .none, .none, .none] = .nx [scrD ns, .int sd, .int n, encL n os, .none, .none, .none, .none, .none, .none, .none, .none, .none, .none] := by simp (implicitDefEqProofs := false) only [g_law_s3, ev_gSeq, ev_gSet, ev_gIfS, ev_gTb, ev_gTr, ev_gB, ev_gU, ev_gL, ev_gCons, ev_gNil, ev_gV, ev_gC, ev_gF, ev_gRet, ev_gDrop, ev_gFor, ev_gIt, ev_gIt2, ev_gLc, ev_gIf, ev_gAndT, ev_gOrT, ev_gNotT, ev_gAndV, ev_gOrV, ev_gNotV, ev_gChain, ev_gRaise, ev_bind, ev_bindE, ev_lift, ev_thenS, ev_thenE, ev_look0, ev_lookS, ev_boolD, ev_truB, List.set_cons_zero, List.set_cons_succ, ev_maskD, ev_maskI, ev_maskO, ev_mask0, ev_seqL, ev_seqT, ev_ixL, ev_ixT, ev_addI, ev_eqI, ev_neI, ev_endR, ev_endN, ev_endE, Option.map_some, Bool.false_eq_true, if_false, if_true, reduceIte, Bool.not_true, Bool.not_false, m_cell ns 1 (by decide), m_seed, eo]
  have u4 : gMk 4 m_Cart (gV 3) [scrD ns, .int sd, .int n, encL n os, .none, .none, .none, .none, .none, .none, .none, .none, .none, .none] = .nx [scrD ns, .int sd, .int n, encL n os, crt n os ⟨⟨repB n 0, []⟩, [], []⟩, .none, .none, .none, .none, .none, .none, .none, .none, .none] := by
    unfold gMk
    simp (implicitDefEqProofs := false) only [ev_gSeq, ev_gSet, ev_gIfS, ev_gTb, ev_gTr, ev_gB, ev_gU, ev_gL, ev_gCons, ev_gNil, ev_gV, ev_gC, ev_gF, ev_gRet, ev_gDrop, ev_gFor, ev_gIt, ev_gIt2, ev_gLc, ev_gIf, ev_gAndT, ev_gOrT, ev_gNotT, ev_gAndV, ev_gOrV, ev_gNotV, ev_gChain, ev_gRaise, ev_bind, ev_bindE, ev_lift, ev_thenS, ev_thenE, ev_look0, ev_lookS, ev_boolD, ev_truB, List.set_cons_zero, List.set_cons_succ, ev_maskD, ev_maskI, ev_maskO, ev_mask0, ev_seqL, ev_seqT, ev_ixL, ev_ixT, ev_addI, ev_eqI, ev_neI, ev_endR, ev_endN, ev_endE, Option.map_some, Bool.false_eq_true, if_false, if_true, reduceIte, Bool.not_true, Bool.not_false, c_new h]
  obtain ⟨t, ht⟩ : ∃ t, t = cellZ ns 2 * 48271 % 9949 % 31 := ⟨_, rfl⟩
  have t0 : 0 ≤ t ∧ t ≤ 30 := by omega
  obtain ⟨r, er, s, rfl, iv, hl⟩ := forD_inv (ph := ph9) (step := turnD (tName 5) g_law_b2) (all := (rgZ t).map PyData.int) (rho := R9 ns n os ⟨⟨repB n 0, []⟩, [], []⟩)
    (fun done rho => ∃ s, rho = R9 ns n os s ∧ Inv n s ∧ (momsZ s).length ≤ done.length + 1) ⟨_, rfl, inv_start (by omega), by rw [moms_len]; simp⟩ (by
      rintro done d rest rho e ⟨s, rfl, iv, hl⟩
      have hd : d ∈ (rgZ t).map PyData.int := by rw [e]; simp
      obtain ⟨i, hi, rfl⟩ := List.mem_map.mp hd
      have hi := mem_rgZ.mp hi
      have hlen : done.length + 1 ≤ t.toNat := by
        have := congrArg List.length e
        simp at this; omega
      obtain ⟨s', r, h1, h2, h3, h4⟩ := turn31 (ns := ns) h iv (by omega) hi.1
      refine ⟨r, by rw [ev_turn1]; exact h1, s', h2, h3, by simp; omega⟩)
  have hl : (momsZ s).length ≤ 31 := by
    rw [List.length_map, rgZ_len] at hl; omega
  have ml := moms_len s
  obtain ⟨o, ol⟩ := iv.now
  have u9 : g_law_s9 [scrD ns, .int sd, .int n, encL n os, crt n os ⟨⟨repB n 0, []⟩, [], []⟩, .none, .none, .none, .none, .none, .none, .none, .none, .none] = .nx (R9 ns n os s) := by
    unfold g_law_s9
    simp (implicitDefEqProofs := false) only [ev_gSeq, ev_gSet, ev_gIfS, ev_gTb, ev_gTr, ev_gB, ev_gU, ev_gL, ev_gCons, ev_gNil, ev_gV, ev_gC, ev_gF, ev_gRet, ev_gDrop, ev_gFor, ev_gIt, ev_gIt2, ev_gLc, ev_gIf, ev_gAndT, ev_gOrT, ev_gNotT, ev_gAndV, ev_gOrV, ev_gNotV, ev_gChain, ev_gRaise, ev_bind, ev_bindE, ev_lift, ev_thenS, ev_thenE, ev_look0, ev_lookS, ev_boolD, ev_truB, List.set_cons_zero, List.set_cons_succ, ev_maskD, ev_maskI, ev_maskO, ev_mask0, ev_seqL, ev_seqT, ev_ixL, ev_ixT, ev_addI, ev_eqI, ev_neI, ev_endR, ev_endN, ev_endE, Option.map_some, Bool.false_eq_true, if_false, if_true, reduceIte, Bool.not_true, Bool.not_false, ev_maskC, m_cell ns 2 (by decide), m_mix _ (show (0 : Int) < 9949 by decide) (show (0 : Int) < 31 by decide), ← ht, ev_rngB t0.1 (show t ≤ 16000000 by omega)]
    exact er
  have e1 : noF "log" (crt n os s) = .ok (crt n os s) := no_log _ _ _ _
  have e2 : noF "basket" (crt n os s) = .ok (crt n os s) := no_basket _ _ _ _
  have e3 : noF "price" (crt n os s) = .ok (crt n os s) := no_price _ _ _ _
  have u10 : g_law_s10 (R9 ns n os s) = .nx (R9 ns n os s) := by
    simp (implicitDefEqProofs := false) only [g_law_s10, ev_gMR, ev_gSeq, ev_gSet, ev_gIfS, ev_gTb, ev_gTr, ev_gB, ev_gU, ev_gL, ev_gCons, ev_gNil, ev_gV, ev_gC, ev_gF, ev_gRet, ev_gDrop, ev_gFor, ev_gIt, ev_gIt2, ev_gLc, ev_gIf, ev_gAndT, ev_gOrT, ev_gNotT, ev_gAndV, ev_gOrV, ev_gNotV, ev_gChain, ev_gRaise, ev_bind, ev_bindE, ev_lift, ev_thenS, ev_thenE, ev_look0, ev_lookS, ev_boolD, ev_truB, List.set_cons_zero, List.set_cons_succ, ev_maskD, ev_maskI, ev_maskO, ev_mask0, ev_seqL, ev_seqT, ev_ixL, ev_ixT, ev_addI, ev_eqI, ev_neI, ev_endR, ev_endN, ev_endE, Option.map_some, Bool.false_eq_true, if_false, if_true, reduceIte, Bool.not_true, Bool.not_false, e2, e3, c_price h o.g, c_basket, m_cost_ h o.g, dNe_self (shp_optI _) (show 0 ≤ 64 by decide)]
  have u11 : g_law_s11 (R9 ns n os s) = .nx [scrD ns, .none, .int n, encL n os, crt n os s, .none, .none, .none, .none, .none, encRw s.N, .none, .none, .none] := by
    unfold g_law_s11
    rw [ev_gSet, row_is (s := s) rfl]; rfl
  have u12 : gSet 11 (gL lstD (gCons (gV 10) gNil)) [scrD ns, .none, .int n, encL n os, crt n os s, .none, .none, .none, .none, .none, encRw s.N, .none, .none, .none] = .nx [scrD ns, .none, .int n, encL n os, crt n os s, .none, .none, .none, .none, .none, encRw s.N, .list ([s.N].map encRw), .none, .none] := by
    simp (implicitDefEqProofs := false) only [ev_gSeq, ev_gSet, ev_gIfS, ev_gTb, ev_gTr, ev_gB, ev_gU, ev_gL, ev_gCons, ev_gNil, ev_gV, ev_gC, ev_gF, ev_gRet, ev_gDrop, ev_gFor, ev_gIt, ev_gIt2, ev_gLc, ev_gIf, ev_gAndT, ev_gOrT, ev_gNotT, ev_gAndV, ev_gOrV, ev_gNotV, ev_gChain, ev_gRaise, ev_bind, ev_bindE, ev_lift, ev_thenS, ev_thenE, ev_look0, ev_lookS, ev_boolD, ev_truB, List.set_cons_zero, List.set_cons_succ, ev_maskD, ev_maskI, ev_maskO, ev_mask0, ev_seqL, ev_seqT, ev_ixL, ev_ixT, ev_addI, ev_eqI, ev_neI, ev_endR, ev_endN, ev_endE, Option.map_some, Bool.false_eq_true, if_false, if_true, reduceIte, Bool.not_true, Bool.not_false, ev_lstB (show [encRw s.N].length ≤ 16000000 by simp), List.map_cons, List.map_nil]
  have u13 : g_law_s13 [scrD ns, .none, .int n, encL n os, crt n os s, .none, .none, .none, .none, .none, encRw s.N, .list ([s.N].map encRw), .none, .none] = .nx (R13 n os ⟨(s.A ++ [s.N]).headD s.N, [], s.L ++ (s.A ++ [s.N]).tail.reverse⟩ (encRw s.N) ([s.N] ++ s.A.reverse)) :=
    back_all h (encRw s.N) 1000 s.A s.N s.L [s.N] (by omega) iv (show (momsZ s).length ≤ 900 by omega) (by simp; omega)
  obtain ⟨hd, tl, eq⟩ : ∃ hd tl, s.A ++ [s.N] = hd :: tl := by
    cases ea : s.A with
    | nil => exact ⟨s.N, [], rfl⟩
    | cons a b => exact ⟨a, b ++ [s.N], rfl⟩
  have eh : (s.A ++ [s.N]).headD s.N = hd := by rw [eq]; rfl
  have etl : (s.A ++ [s.N]).tail = tl := by rw [eq]; rfl
  have erev : [s.N] ++ s.A.reverse = (hd :: tl).reverse := by rw [← eq]; simp
  rw [eh, etl] at u13
  obtain ⟨s0, es0⟩ : ∃ s0 : Cz, s0 = ⟨hd, [], s.L ++ tl.reverse⟩ := ⟨_, rfl⟩
  have hm0 : momsZ s0 = momsZ s := by
    rw [es0]; unfold momsZ
    rw [show s.A ++ s.N :: s.L.reverse = (s.A ++ [s.N]) ++ s.L.reverse by simp, eq]
    simp
  have iv0 : Inv n s0 := by unfold Inv; rw [hm0]; exact iv
  obtain ⟨o0, ol0⟩ := iv0.now
  have hd0 : s0.N.l = [] := List.length_eq_zero_iff.mp (by rw [ol0, es0]; rfl)
  have hb0 : s0.N.b = repB n 0 := by rw [o0.e, hd0]; rfl
  rw [← es0] at u13
  have tll : tl.length = s.A.length := by
    have := congrArg List.length eq
    simp at this; omega
  have hlr : dLen [.list (([s.N] ++ s.A.reverse).map encRw)] = some (.int ((s.A.length : Int) + 1)) := by
    show some (PyData.int ((([s.N] ++ s.A.reverse).map encRw).length : Int)) = _
    simp
  have hll : dLen [.list (s.N.l.map encDe)] = some (.int (s.A.length : Int)) := by
    show some (PyData.int ((s.N.l.map encDe).length : Int)) = _
    rw [List.length_map, ol]
  have ixl : dIx (encRw s.N) (.int 1) = some (.list (s.N.l.map encDe)) := at_1 _ _ _
  have f1 : noF "log" (crt n os s0) = .ok (crt n os s0) := no_log _ _ _ _
  have f2 : noF "basket" (crt n os s0) = .ok (crt n os s0) := no_basket _ _ _ _
  have f3 : noF "price" (crt n os s0) = .ok (crt n os s0) := no_price _ _ _ _
  have cz : m_Cart_price [crt n os s0] = .ok (.int 0) := by
    rw [c_price h o0.g, hb0, cost_zero (packs_ok h) (goodB_rep (by omega) (by decide) (by decide)).ok (sum_rep0 n)]; rfl
  have cb0 : m_Cart_basket [crt n os s0] = .ok (encB (repB n 0)) := by rw [c_basket, hb0]
  have cl0 : m_Cart_log [crt n os s0] = .ok (.list []) := by rw [c_log, hd0]; rfl
  have hsh0 : Shp 1 (.list ([] : List PyData)) := shp_lst fun d hd => by cases hd
  have u14 : g_law_s14 (R13 n os s0 (encRw s.N) ([s.N] ++ s.A.reverse)) = .nx (R13 n os s0 (encRw s.N) ([s.N] ++ s.A.reverse)) := by
    simp (implicitDefEqProofs := false) only [g_law_s14, ev_gMR, ev_gSeq, ev_gSet, ev_gIfS, ev_gTb, ev_gTr, ev_gB, ev_gU, ev_gL, ev_gCons, ev_gNil, ev_gV, ev_gC, ev_gF, ev_gRet, ev_gDrop, ev_gFor, ev_gIt, ev_gIt2, ev_gLc, ev_gIf, ev_gAndT, ev_gOrT, ev_gNotT, ev_gAndV, ev_gOrV, ev_gNotV, ev_gChain, ev_gRaise, ev_bind, ev_bindE, ev_lift, ev_thenS, ev_thenE, ev_look0, ev_lookS, ev_boolD, ev_truB, List.set_cons_zero, List.set_cons_succ, ev_maskD, ev_maskI, ev_maskO, ev_mask0, ev_seqL, ev_seqT, ev_ixL, ev_ixT, ev_addI, ev_eqI, ev_neI, ev_endR, ev_endN, ev_endE, Option.map_some, Bool.false_eq_true, if_false, if_true, reduceIte, Bool.not_true, Bool.not_false, f1, f2, f3, cb0, cl0, cz, ev_tupB (show [PyData.int 0].length ≤ 16000000 by simp), ev_lstB (show ([] : List PyData).length ≤ 16000000 by simp), dMul_rep 0 (show 0 ≤ n by omega) (show n ≤ 1000 by omega), dNe_self (shp_encB _) (show 1 ≤ 64 by decide), dNe_self hsh0 (show 1 ≤ 64 by decide), BEq.rfl, hlr, ixl, hll]
  have hrv : dRev2 (.list (([s.N] ++ s.A.reverse).map encRw)) = some (.list (tl.map encRw)) := by
    show some (PyData.list (([s.N] ++ s.A.reverse).map encRw).dropLast.reverse) = _
    rw [erev, ← List.map_dropLast, ← List.map_reverse]
    simp
  have hl0 : (momsZ s0).length ≤ 900 := by rw [hm0]; omega
  have fa := fore_all h (encRw s.N) hd s.L tl ([s.N] ++ s.A.reverse) (by rw [← es0]; exact iv0) (by rw [← es0]; exact hl0)
  have z0 : Zat hd s.L tl [] = s0 := by rw [es0]; rfl
  have z1 : Zat hd s.L tl tl = s := by
    have a1 : (hd :: tl).dropLast = s.A := by rw [← eq, List.dropLast_concat]
    have a2 : (hd :: tl).getLastD hd = s.N := by rw [← eq]; simp
    show Cz.mk ((hd :: tl).getLastD hd) ((hd :: tl).dropLast) (s.L ++ (tl.drop tl.length).reverse) = s
    rw [a1, a2, List.drop_length]
    simp
  rw [z0, z1] at fa
  have u16 : g_law_s16 (R13 n os s0 (encRw s.N) ([s.N] ++ s.A.reverse)) = .nx (R13 n os s (encRw s.N) ([s.N] ++ s.A.reverse)) := by
    unfold g_law_s16
    simp (implicitDefEqProofs := false) only [ev_gSeq, ev_gSet, ev_gIfS, ev_gTb, ev_gTr, ev_gB, ev_gU, ev_gL, ev_gCons, ev_gNil, ev_gV, ev_gC, ev_gF, ev_gRet, ev_gDrop, ev_gFor, ev_gIt, ev_gIt2, ev_gLc, ev_gIf, ev_gAndT, ev_gOrT, ev_gNotT, ev_gAndV, ev_gOrV, ev_gNotV, ev_gChain, ev_gRaise, ev_bind, ev_bindE, ev_lift, ev_thenS, ev_thenE, ev_look0, ev_lookS, ev_boolD, ev_truB, List.set_cons_zero, List.set_cons_succ, ev_maskD, ev_maskI, ev_maskO, ev_mask0, ev_seqL, ev_seqT, ev_ixL, ev_ixT, ev_addI, ev_eqI, ev_neI, ev_endR, ev_endN, ev_endE, Option.map_some, Bool.false_eq_true, if_false, if_true, reduceIte, Bool.not_true, Bool.not_false, ev_maskC, hrv]
    exact fa
  unfold g_law
  rw [ev_seq u1, ev_seq u2, ev_seq u3, ev_seq u4, ev_seq u9, ev_seq u10, ev_seq u11, ev_seq u12, ev_seq u13, ev_seq u14, ev_seq u16]
  have hgt : dGtI (.int ((s.A.length : Int) + 1)) (.int 1) = some (.bool (decide ((s.A.length : Int) + 1 > 1))) := gtCI _ _
  rcases List.eq_nil_or_concat s.A with e | ⟨A, z, e⟩
  · have hd1 : decide ((s.A.length : Int) + 1 > 1) = false := decide_eq_false (by rw [e]; simp)
    have u21 : g_law_s21 (R13 n os s (encRw s.N) ([s.N] ++ s.A.reverse)) = .nx (R13 n os s (encRw s.N) ([s.N] ++ s.A.reverse)) := by
      unfold g_law_s21
      rw [ev_gIfS]
      simp (implicitDefEqProofs := false) only [ev_gSeq, ev_gSet, ev_gIfS, ev_gTb, ev_gTr, ev_gB, ev_gU, ev_gL, ev_gCons, ev_gNil, ev_gV, ev_gC, ev_gF, ev_gRet, ev_gDrop, ev_gFor, ev_gIt, ev_gIt2, ev_gLc, ev_gIf, ev_gAndT, ev_gOrT, ev_gNotT, ev_gAndV, ev_gOrV, ev_gNotV, ev_gChain, ev_gRaise, ev_bind, ev_bindE, ev_lift, ev_thenS, ev_thenE, ev_look0, ev_lookS, ev_boolD, ev_truB, List.set_cons_zero, List.set_cons_succ, ev_maskD, ev_maskI, ev_maskO, ev_mask0, ev_seqL, ev_seqT, ev_ixL, ev_ixT, ev_addI, ev_eqI, ev_neI, ev_endR, ev_endN, ev_endE, Option.map_some, Bool.false_eq_true, if_false, if_true, reduceIte, Bool.not_true, Bool.not_false, hlr, hgt, hd1]
    rw [ev_seq u21]
    unfold g_law_s22
    rw [ev_gRet, ev_gB, row_is (s := s) rfl]
    simp (implicitDefEqProofs := false) only [ev_gSeq, ev_gSet, ev_gIfS, ev_gTb, ev_gTr, ev_gB, ev_gU, ev_gL, ev_gCons, ev_gNil, ev_gV, ev_gC, ev_gF, ev_gRet, ev_gDrop, ev_gFor, ev_gIt, ev_gIt2, ev_gLc, ev_gIf, ev_gAndT, ev_gOrT, ev_gNotT, ev_gAndV, ev_gOrV, ev_gNotV, ev_gChain, ev_gRaise, ev_bind, ev_bindE, ev_lift, ev_thenS, ev_thenE, ev_look0, ev_lookS, ev_boolD, ev_truB, List.set_cons_zero, List.set_cons_succ, ev_maskD, ev_maskI, ev_maskO, ev_mask0, ev_seqL, ev_seqT, ev_ixL, ev_ixT, ev_addI, ev_eqI, ev_neI, ev_endR, ev_endN, ev_endE, Option.map_some, Bool.false_eq_true, if_false, if_true, reduceIte, Bool.not_true, Bool.not_false, dEq_self (shp_encRw s.N) (show 3 ≤ 64 by decide)]
  · rw [List.concat_eq_append] at e
    have hd1 : decide ((s.A.length : Int) + 1 > 1) = true := decide_eq_true (by rw [e]; simp; omega)
    have u21 : g_law_s21 (R13 n os s (encRw s.N) ([s.N] ++ s.A.reverse)) = .rt (.bool true) := by
      unfold g_law_s21
      rw [ev_gIfS]
      have et : gTb (gB dGtI (gL dLen (gCons (gV 11) gNil)) (gC (.int 1))) (R13 n os s (encRw s.N) ([s.N] ++ s.A.reverse)) = .ok true := by
        simp (implicitDefEqProofs := false) only [ev_gSeq, ev_gSet, ev_gIfS, ev_gTb, ev_gTr, ev_gB, ev_gU, ev_gL, ev_gCons, ev_gNil, ev_gV, ev_gC, ev_gF, ev_gRet, ev_gDrop, ev_gFor, ev_gIt, ev_gIt2, ev_gLc, ev_gIf, ev_gAndT, ev_gOrT, ev_gNotT, ev_gAndV, ev_gOrV, ev_gNotV, ev_gChain, ev_gRaise, ev_bind, ev_bindE, ev_lift, ev_thenS, ev_thenE, ev_look0, ev_lookS, ev_boolD, ev_truB, List.set_cons_zero, List.set_cons_succ, ev_maskD, ev_maskI, ev_maskO, ev_mask0, ev_seqL, ev_seqT, ev_ixL, ev_ixT, ev_addI, ev_eqI, ev_neI, ev_endR, ev_endN, ev_endE, Option.map_some, Bool.false_eq_true, if_false, if_true, reduceIte, Bool.not_true, Bool.not_false, hlr, hgt, hd1]
      rw [et, ev_thenS, if_pos rfl]
      exact end31 h iv (by omega) e _
    rw [ev_seqR u21, ev_endR]
end PD
namespace PD
open PySem L2
def d__law_seed : He.DefD := ⟨("_law_seed", none), "_law_seed", "_law_seed", defArgs s__law_seed, defBody s__law_seed, defScope s__law_seed, [], []⟩
def d__law_pick : He.DefD := ⟨("_law_pick", none), "_law_pick", "_law_pick", defArgs s__law_pick, defBody s__law_pick, defScope s__law_pick, [], []⟩
def d__law_offer : He.DefD := ⟨("_law_offer", none), "_law_offer", "_law_offer", defArgs s__law_offer, defBody s__law_offer, defScope s__law_offer, [], []⟩
def d__law_two_list : He.DefD := ⟨("_law_two_list", none), "_law_two_list", "_law_two_list", defArgs s__law_two_list, defBody s__law_two_list, defScope s__law_two_list, [], []⟩
def d_is_within : He.DefD := ⟨("is_within", none), "is_within", "is_within", defArgs s_is_within, defBody s_is_within, defScope s_is_within, [], []⟩
def d_is_offer : He.DefD := ⟨("is_offer", none), "is_offer", "is_offer", defArgs s_is_offer, defBody s_is_offer, defScope s_is_offer, [], []⟩
def d_is_list : He.DefD := ⟨("is_list", none), "is_list", "is_list", defArgs s_is_list, defBody s_is_list, defScope s_is_list, [], []⟩
def d_look : He.DefD := ⟨("look", none), "look", "look", defArgs s_look, defBody s_look, defScope s_look, [], []⟩
def d_Cart : He.DefD := ⟨("Cart", some "__init__"), "__init__", "Cart.__init__", defArgs s_Cart, defBody s_Cart, defScope s_Cart, [], []⟩
def d__law_cell : He.DefD := ⟨("_law_cell", none), "_law_cell", "_law_cell", defArgs s__law_cell, defBody s__law_cell, defScope s__law_cell, [], []⟩
def d__law_mix : He.DefD := ⟨("_law_mix", none), "_law_mix", "_law_mix", defArgs s__law_mix, defBody s__law_mix, defScope s__law_mix, [], []⟩
def d_Cart_need : He.DefD := ⟨("Cart", some "need"), "need", "Cart.need", defArgs s_Cart_need, defBody s_Cart_need, defScope s_Cart_need, [], []⟩
def d_baskets_below : He.DefD := ⟨("baskets_below", none), "baskets_below", "baskets_below", defArgs s_baskets_below, defBody s_baskets_below, defScope s_baskets_below, [], []⟩
def d_left : He.DefD := ⟨("left", none), "left", "left", defArgs s_left, defBody s_left, defScope s_left, [], []⟩
def d_costs_below : He.DefD := ⟨("costs_below", none), "costs_below", "costs_below", defArgs s_costs_below, defBody s_costs_below, defScope s_costs_below, [], []⟩
def d_cost_by : He.DefD := ⟨("cost_by", none), "cost_by", "cost_by", defArgs s_cost_by, defBody s_cost_by, defScope s_cost_by, [], []⟩
def d_alone : He.DefD := ⟨("alone", none), "alone", "alone", defArgs s_alone, defBody s_alone, defScope s_alone, [], []⟩
def d_packs_of : He.DefD := ⟨("packs_of", none), "packs_of", "packs_of", defArgs s_packs_of, defBody s_packs_of, defScope s_packs_of, [], []⟩
def d_all_packs : He.DefD := ⟨("all_packs", none), "all_packs", "all_packs", defArgs s_all_packs, defBody s_all_packs, defScope s_all_packs, [], []⟩
def d_Cart_price : He.DefD := ⟨("Cart", some "price"), "price", "Cart.price", defArgs s_Cart_price, defBody s_Cart_price, defScope s_Cart_price, [], []⟩
def d_Cart_go : He.DefD := ⟨("Cart", some "go"), "go", "Cart.go", defArgs s_Cart_go, defBody s_Cart_go, defScope s_Cart_go, [], []⟩
def d_Cart_put : He.DefD := ⟨("Cart", some "put"), "put", "Cart.put", defArgs s_Cart_put, defBody s_Cart_put, defScope s_Cart_put, [], []⟩
def d_Cart_take : He.DefD := ⟨("Cart", some "take"), "take", "Cart.take", defArgs s_Cart_take, defBody s_Cart_take, defScope s_Cart_take, [], []⟩
def d_Cart_undo : He.DefD := ⟨("Cart", some "undo"), "undo", "Cart.undo", defArgs s_Cart_undo, defBody s_Cart_undo, defScope s_Cart_undo, [], []⟩
def d_Cart_redo : He.DefD := ⟨("Cart", some "redo"), "redo", "Cart.redo", defArgs s_Cart_redo, defBody s_Cart_redo, defScope s_Cart_redo, [], []⟩
def d__law_cart_deed : He.DefD := ⟨("_law_cart_deed", none), "_law_cart_deed", "_law_cart_deed", defArgs s__law_cart_deed, defBody s__law_cart_deed, defScope s__law_cart_deed, [], []⟩
def d_Cart_log : He.DefD := ⟨("Cart", some "log"), "log", "Cart.log", defArgs s_Cart_log, defBody s_Cart_log, defScope s_Cart_log, [], []⟩
def d_look_basket : He.DefD := ⟨("look_basket", none), "look_basket", "look_basket", defArgs s_look_basket, defBody s_look_basket, defScope s_look_basket, [], []⟩
def d_cost : He.DefD := ⟨("cost", none), "cost", "cost", defArgs s_cost, defBody s_cost, defScope s_cost, [], []⟩
def d_Cart_basket : He.DefD := ⟨("Cart", some "basket"), "basket", "Cart.basket", defArgs s_Cart_basket, defBody s_Cart_basket, defScope s_Cart_basket, [], []⟩
def d__law_cart_drawn : He.DefD := ⟨("_law_cart_drawn", none), "_law_cart_drawn", "_law_cart_drawn", defArgs s__law_cart_drawn, defBody s__law_cart_drawn, defScope s__law_cart_drawn, [], []⟩
def d_law : He.DefD := ⟨("law", none), "law", "law", defArgs s_law, defBody s_law, defScope s_law, [], []⟩
def fnL : List He.DefD := [d__law_seed, d__law_pick, d__law_offer, d__law_two_list, d_is_within, d_is_offer, d_is_list, d_look, d_Cart, d__law_cell, d__law_mix, d_Cart_need, d_baskets_below, d_left, d_costs_below, d_cost_by, d_alone, d_packs_of, d_all_packs, d_Cart_price, d_Cart_go, d_Cart_put, d_Cart_take, d_Cart_undo, d_Cart_redo, d__law_cart_deed, d_Cart_log, d_look_basket, d_cost, d_Cart_basket, d__law_cart_drawn, d_law]
def faL0 : List He.Fa := [.glo "_law_seed", .glo "_law_pick", .glo "_law_offer", .glo "_law_two_list", .glo "is_within", .glo "is_offer", .glo "is_list", .glo "look", .glo "Cart", .glo "_law_cell", .glo "_law_mix", .glo "Cart", .glo "baskets_below", .glo "left", .glo "costs_below", .glo "cost_by", .glo "alone", .glo "packs_of", .glo "all_packs", .glo "Cart", .glo "Cart", .glo "Cart", .glo "Cart", .glo "Cart", .glo "Cart", .glo "_law_cart_deed", .glo "Cart", .glo "look_basket", .glo "cost", .glo "Cart"]
def faL1 : List He.Fa := [.glo "_law_cart_drawn", .glo "law", .glo "BadList", .glo "BadBasket", .glo "Full", .glo "NoDeed", .exc "BadList", .exc "BadBasket", .exc "Full", .exc "NoDeed", .exm "BadList" "BadList" true, .exm "BadList" "BadBasket" false, .exm "BadList" "Full" false, .exm "BadList" "NoDeed" false, .exm "BadBasket" "BadList" false, .exm "BadBasket" "BadBasket" true, .exm "BadBasket" "Full" false, .exm "BadBasket" "NoDeed" false, .exm "Full" "BadList" false, .exm "Full" "BadBasket" false, .exm "Full" "Full" true, .exm "Full" "NoDeed" false, .exm "NoDeed" "BadList" false, .exm "NoDeed" "BadBasket" false, .exm "NoDeed" "Full" false, .exm "NoDeed" "NoDeed" true, .free "len", .free "isinstance", .free "int", .free "bool"]
def faL2 : List He.Fa := [.free "tuple", .free "list", .free "str", .free "range", .free "sum", .free "max", .free "min", .free "sorted", .free "set", .free "zip", .free "dict", .free "enumerate", .int "MOST_WARES" 3, .int "MOST_OFFERS" 6, .int "MOST_COUNT" 5, .int "MOST_PRICE" 99, .int "MOST_BASKET" 9]
def faLX : List He.Fa := [.mkr "Cart", .cls "Cart", .noat "Cart" "prices", .noat "Cart" "now", .noat "Cart" "past", .noat "Cart" "later", .meth "Cart" "need", .meth "Cart" "price", .meth "Cart" "go", .meth "Cart" "put", .meth "Cart" "take", .meth "Cart" "undo", .meth "Cart" "redo", .meth "Cart" "log", .meth "Cart" "basket"]
def faL : List He.Fa := faL0 ++ faL1 ++ faL2 ++ faLX
abbrev tfL : List He.Defn := [("baskets_below", none)]
abbrev RW : PySem.W.OpenRow := PySem.W.OpenLaw.row PySem.Challenge.rw_pricerows_k31_whole_carts_back
abbrev hkX : PySem.W.Hook := He.hookX 4 faL fnL [] tfL (fun _ => true)
def obX (s : PySem.W.SharedT) : He.AlX := He.obsX 4 faL fnL [] tfL (fun _ => true) (HandSHeadRun.getT s)
theorem obX_eq (s : PySem.W.SharedT) : obX s = hkX.obs s.abs := He.obsX_eq (HandSHeadRun.getT_eq s)
def loL0 : List PySem.Str := ["PriceError", "BadList", "BadBasket", "Full", "NoDeed", "MOST_WARES", "MOST_OFFERS", "MOST_COUNT", "MOST_PRICE", "MOST_BASKET", "is_within", "is_offer", "is_list", "look", "look_basket", "alone", "packs_of", "all_packs", "left", "baskets_below", "costs_below", "cost_by", "cost", "Cart", "_law_cell", "_law_seed", "_law_pick", "_law_offer", "_law_mix", "_law_two_list"]
def loL1 : List PySem.Str := ["_law_cart_deed", "_law_cart_drawn"]
def loL : List PySem.Str := loL0 ++ loL1
theorem runX (w : World) : HandSHeadRun.RunEq RW (PySem.W.view RW.prog [37]) hkX obX 6000 loL w := by
  intro os
  kernel_rfl
theorem law_facts {w : World} {K : PySem.W.Frag} {h : Heap} {mg : Str → Option Value} {fa : Addr} (X : K.In h) (G : h.Ns mainGlobals mg) (hfa : mg ("law" : Str) = some (.ref fa)) (c : He.SaysX faL fnL [] tfL (fun _ => true) w h K) : LamX.LawAtS PySem.Challenge.rw_pricerows_k31_whole_carts_back w K (L2.CX PySem.Challenge.pw_pricerows_k31_whole_carts_back w) 11 63 "script" mg fa h := by
  have cd : He.SaysD faL fnL K := congrArg (fun z : He.AlT => z.1) c.t
  obtain ⟨fd__law_seed, D__law_seed⟩ := cd.def_ 0 (d := d__law_seed) rfl
  have T__law_seed : DefT K mg "_law_seed" s__law_seed ["seed", "k"] (He.ga K "_law_seed") fd__law_seed := defT_of (He.glo_ok X G (cd.fact 0 (f := .glo "_law_seed") rfl)) D__law_seed fun _ _ _ _ _ _ us hl => match us, hl with | [_, _], _ => rfl
  obtain ⟨fd__law_pick, D__law_pick⟩ := cd.def_ 1 (d := d__law_pick) rfl
  have T__law_pick : DefT K mg "_law_pick" s__law_pick ["seed", "many"] (He.ga K "_law_pick") fd__law_pick := defT_of (He.glo_ok X G (cd.fact 1 (f := .glo "_law_pick") rfl)) D__law_pick fun _ _ _ _ _ _ us hl => match us, hl with | [_, _], _ => rfl
  obtain ⟨fd__law_offer, D__law_offer⟩ := cd.def_ 2 (d := d__law_offer) rfl
  have T__law_offer : DefT K mg "_law_offer" s__law_offer ["seed", "wares"] (He.ga K "_law_offer") fd__law_offer := defT_of (He.glo_ok X G (cd.fact 2 (f := .glo "_law_offer") rfl)) D__law_offer fun _ _ _ _ _ _ us hl => match us, hl with | [_, _], _ => rfl
  obtain ⟨fd__law_two_list, D__law_two_list⟩ := cd.def_ 3 (d := d__law_two_list) rfl
  have T__law_two_list : DefT K mg "_law_two_list" s__law_two_list ["seed", "wares"] (He.ga K "_law_two_list") fd__law_two_list := defT_of (He.glo_ok X G (cd.fact 3 (f := .glo "_law_two_list") rfl)) D__law_two_list fun _ _ _ _ _ _ us hl => match us, hl with | [_, _], _ => rfl
  obtain ⟨fd_is_within, D_is_within⟩ := cd.def_ 4 (d := d_is_within) rfl
  have T_is_within : DefT K mg "is_within" s_is_within ["thing", "low", "high"] (He.ga K "is_within") fd_is_within := defT_of (He.glo_ok X G (cd.fact 4 (f := .glo "is_within") rfl)) D_is_within fun _ _ _ _ _ _ us hl => match us, hl with | [_, _, _], _ => rfl
  obtain ⟨fd_is_offer, D_is_offer⟩ := cd.def_ 5 (d := d_is_offer) rfl
  have T_is_offer : DefT K mg "is_offer" s_is_offer ["wares", "thing"] (He.ga K "is_offer") fd_is_offer := defT_of (He.glo_ok X G (cd.fact 5 (f := .glo "is_offer") rfl)) D_is_offer fun _ _ _ _ _ _ us hl => match us, hl with | [_, _], _ => rfl
  obtain ⟨fd_is_list, D_is_list⟩ := cd.def_ 6 (d := d_is_list) rfl
  have T_is_list : DefT K mg "is_list" s_is_list ["thing"] (He.ga K "is_list") fd_is_list := defT_of (He.glo_ok X G (cd.fact 6 (f := .glo "is_list") rfl)) D_is_list fun _ _ _ _ _ _ us hl => match us, hl with | [_], _ => rfl
  obtain ⟨fd_look, D_look⟩ := cd.def_ 7 (d := d_look) rfl
  have T_look : DefT K mg "look" s_look ["thing"] (He.ga K "look") fd_look := defT_of (He.glo_ok X G (cd.fact 7 (f := .glo "look") rfl)) D_look fun _ _ _ _ _ _ us hl => match us, hl with | [_], _ => rfl
  obtain ⟨fd_Cart, D_Cart⟩ := cd.def_ 8 (d := d_Cart) rfl
  have T_Cart : MkT K mg "Cart" "Cart.__init__" s_Cart ["self", "prices"] (He.ga K "Cart") (He.ma K (He.ga K "Cart") "__init__") fd_Cart := mkT_of (He.glo_ok X G (cd.fact 8 (f := .glo "Cart") rfl)) (He.mkr_ok (cd.fact 77 (f := .mkr "Cart") rfl)) D_Cart fun _ _ _ _ _ _ us hl => match us, hl with | [_, _], _ => rfl
  obtain ⟨fd__law_cell, D__law_cell⟩ := cd.def_ 9 (d := d__law_cell) rfl
  have T__law_cell : DefT K mg "_law_cell" s__law_cell ["script", "k"] (He.ga K "_law_cell") fd__law_cell := defT_of (He.glo_ok X G (cd.fact 9 (f := .glo "_law_cell") rfl)) D__law_cell fun _ _ _ _ _ _ us hl => match us, hl with | [_, _], _ => rfl
  obtain ⟨fd__law_mix, D__law_mix⟩ := cd.def_ 10 (d := d__law_mix) rfl
  have T__law_mix : DefT K mg "_law_mix" s__law_mix ["cell", "prime", "many"] (He.ga K "_law_mix") fd__law_mix := defT_of (He.glo_ok X G (cd.fact 10 (f := .glo "_law_mix") rfl)) D__law_mix fun _ _ _ _ _ _ us hl => match us, hl with | [_, _, _], _ => rfl
  obtain ⟨fd_Cart_need, D_Cart_need⟩ := cd.def_ 11 (d := d_Cart_need) rfl
  have T_Cart_need : MeT K (He.ga K "Cart") "need" "Cart.need" s_Cart_need ["self", "ware", "many"] (He.ma K (He.ga K "Cart") "need") fd_Cart_need := meT_of (He.meth_ok (cd.fact 83 (f := .meth "Cart" "need") rfl)) D_Cart_need fun _ _ _ _ _ _ us hl => match us, hl with | [_, _, _], _ => rfl
  obtain ⟨fd_baskets_below, D_baskets_below⟩ := cd.def_ 12 (d := d_baskets_below) rfl
  have T_baskets_below : DefT K mg "baskets_below" s_baskets_below ["basket"] (He.ga K "baskets_below") fd_baskets_below := defT_of (He.glo_ok X G (cd.fact 12 (f := .glo "baskets_below") rfl)) D_baskets_below fun _ _ _ _ _ _ us hl => match us, hl with | [_], _ => rfl
  obtain ⟨fd_left, D_left⟩ := cd.def_ 13 (d := d_left) rfl
  have T_left : DefT K mg "left" s_left ["basket", "pack"] (He.ga K "left") fd_left := defT_of (He.glo_ok X G (cd.fact 13 (f := .glo "left") rfl)) D_left fun _ _ _ _ _ _ us hl => match us, hl with | [_, _], _ => rfl
  obtain ⟨fd_costs_below, D_costs_below⟩ := cd.def_ 14 (d := d_costs_below) rfl
  have T_costs_below : DefT K mg "costs_below" s_costs_below ["some", "basket"] (He.ga K "costs_below") fd_costs_below := defT_of (He.glo_ok X G (cd.fact 14 (f := .glo "costs_below") rfl)) D_costs_below fun _ _ _ _ _ _ us hl => match us, hl with | [_, _], _ => rfl
  obtain ⟨fd_cost_by, D_cost_by⟩ := cd.def_ 15 (d := d_cost_by) rfl
  have T_cost_by : DefT K mg "cost_by" s_cost_by ["some", "basket"] (He.ga K "cost_by") fd_cost_by := defT_of (He.glo_ok X G (cd.fact 15 (f := .glo "cost_by") rfl)) D_cost_by fun _ _ _ _ _ _ us hl => match us, hl with | [_, _], _ => rfl
  obtain ⟨fd_alone, D_alone⟩ := cd.def_ 16 (d := d_alone) rfl
  have T_alone : DefT K mg "alone" s_alone ["wares", "ware", "many"] (He.ga K "alone") fd_alone := defT_of (He.glo_ok X G (cd.fact 16 (f := .glo "alone") rfl)) D_alone fun _ _ _ _ _ _ us hl => match us, hl with | [_, _, _], _ => rfl
  obtain ⟨fd_packs_of, D_packs_of⟩ := cd.def_ 17 (d := d_packs_of) rfl
  have T_packs_of : DefT K mg "packs_of" s_packs_of ["wares", "offer"] (He.ga K "packs_of") fd_packs_of := defT_of (He.glo_ok X G (cd.fact 17 (f := .glo "packs_of") rfl)) D_packs_of fun _ _ _ _ _ _ us hl => match us, hl with | [_, _], _ => rfl
  obtain ⟨fd_all_packs, D_all_packs⟩ := cd.def_ 18 (d := d_all_packs) rfl
  have T_all_packs : DefT K mg "all_packs" s_all_packs ["prices"] (He.ga K "all_packs") fd_all_packs := defT_of (He.glo_ok X G (cd.fact 18 (f := .glo "all_packs") rfl)) D_all_packs fun _ _ _ _ _ _ us hl => match us, hl with | [_], _ => rfl
  obtain ⟨fd_Cart_price, D_Cart_price⟩ := cd.def_ 19 (d := d_Cart_price) rfl
  have T_Cart_price : MeT K (He.ga K "Cart") "price" "Cart.price" s_Cart_price ["self"] (He.ma K (He.ga K "Cart") "price") fd_Cart_price := meT_of (He.meth_ok (cd.fact 84 (f := .meth "Cart" "price") rfl)) D_Cart_price fun _ _ _ _ _ _ us hl => match us, hl with | [_], _ => rfl
  obtain ⟨fd_Cart_go, D_Cart_go⟩ := cd.def_ 20 (d := d_Cart_go) rfl
  have T_Cart_go : MeT K (He.ga K "Cart") "go" "Cart.go" s_Cart_go ["self", "ware", "change", "deed"] (He.ma K (He.ga K "Cart") "go") fd_Cart_go := meT_of (He.meth_ok (cd.fact 85 (f := .meth "Cart" "go") rfl)) D_Cart_go fun _ _ _ _ _ _ us hl => match us, hl with | [_, _, _, _], _ => rfl
  obtain ⟨fd_Cart_put, D_Cart_put⟩ := cd.def_ 21 (d := d_Cart_put) rfl
  have T_Cart_put : MeT K (He.ga K "Cart") "put" "Cart.put" s_Cart_put ["self", "ware", "many"] (He.ma K (He.ga K "Cart") "put") fd_Cart_put := meT_of (He.meth_ok (cd.fact 86 (f := .meth "Cart" "put") rfl)) D_Cart_put fun _ _ _ _ _ _ us hl => match us, hl with | [_, _, _], _ => rfl
  obtain ⟨fd_Cart_take, D_Cart_take⟩ := cd.def_ 22 (d := d_Cart_take) rfl
  have T_Cart_take : MeT K (He.ga K "Cart") "take" "Cart.take" s_Cart_take ["self", "ware", "many"] (He.ma K (He.ga K "Cart") "take") fd_Cart_take := meT_of (He.meth_ok (cd.fact 87 (f := .meth "Cart" "take") rfl)) D_Cart_take fun _ _ _ _ _ _ us hl => match us, hl with | [_, _, _], _ => rfl
  obtain ⟨fd_Cart_undo, D_Cart_undo⟩ := cd.def_ 23 (d := d_Cart_undo) rfl
  have T_Cart_undo : MeT K (He.ga K "Cart") "undo" "Cart.undo" s_Cart_undo ["self"] (He.ma K (He.ga K "Cart") "undo") fd_Cart_undo := meT_of (He.meth_ok (cd.fact 88 (f := .meth "Cart" "undo") rfl)) D_Cart_undo fun _ _ _ _ _ _ us hl => match us, hl with | [_], _ => rfl
  obtain ⟨fd_Cart_redo, D_Cart_redo⟩ := cd.def_ 24 (d := d_Cart_redo) rfl
  have T_Cart_redo : MeT K (He.ga K "Cart") "redo" "Cart.redo" s_Cart_redo ["self"] (He.ma K (He.ga K "Cart") "redo") fd_Cart_redo := meT_of (He.meth_ok (cd.fact 89 (f := .meth "Cart" "redo") rfl)) D_Cart_redo fun _ _ _ _ _ _ us hl => match us, hl with | [_], _ => rfl
  obtain ⟨fd__law_cart_deed, D__law_cart_deed⟩ := cd.def_ 25 (d := d__law_cart_deed) rfl
  have T__law_cart_deed : DefT K mg "_law_cart_deed" s__law_cart_deed ["cart", "deed"] (He.ga K "_law_cart_deed") fd__law_cart_deed := defT_of (He.glo_ok X G (cd.fact 25 (f := .glo "_law_cart_deed") rfl)) D__law_cart_deed fun _ _ _ _ _ _ us hl => match us, hl with | [_, _], _ => rfl
  obtain ⟨fd_Cart_log, D_Cart_log⟩ := cd.def_ 26 (d := d_Cart_log) rfl
  have T_Cart_log : MeT K (He.ga K "Cart") "log" "Cart.log" s_Cart_log ["self"] (He.ma K (He.ga K "Cart") "log") fd_Cart_log := meT_of (He.meth_ok (cd.fact 90 (f := .meth "Cart" "log") rfl)) D_Cart_log fun _ _ _ _ _ _ us hl => match us, hl with | [_], _ => rfl
  obtain ⟨fd_look_basket, D_look_basket⟩ := cd.def_ 27 (d := d_look_basket) rfl
  have T_look_basket : DefT K mg "look_basket" s_look_basket ["prices", "thing"] (He.ga K "look_basket") fd_look_basket := defT_of (He.glo_ok X G (cd.fact 27 (f := .glo "look_basket") rfl)) D_look_basket fun _ _ _ _ _ _ us hl => match us, hl with | [_, _], _ => rfl
  obtain ⟨fd_cost, D_cost⟩ := cd.def_ 28 (d := d_cost) rfl
  have T_cost : DefT K mg "cost" s_cost ["prices", "basket"] (He.ga K "cost") fd_cost := defT_of (He.glo_ok X G (cd.fact 28 (f := .glo "cost") rfl)) D_cost fun _ _ _ _ _ _ us hl => match us, hl with | [_, _], _ => rfl
  obtain ⟨fd_Cart_basket, D_Cart_basket⟩ := cd.def_ 29 (d := d_Cart_basket) rfl
  have T_Cart_basket : MeT K (He.ga K "Cart") "basket" "Cart.basket" s_Cart_basket ["self"] (He.ma K (He.ga K "Cart") "basket") fd_Cart_basket := meT_of (He.meth_ok (cd.fact 91 (f := .meth "Cart" "basket") rfl)) D_Cart_basket fun _ _ _ _ _ _ us hl => match us, hl with | [_], _ => rfl
  obtain ⟨fd__law_cart_drawn, D__law_cart_drawn⟩ := cd.def_ 30 (d := d__law_cart_drawn) rfl
  have T__law_cart_drawn : DefT K mg "_law_cart_drawn" s__law_cart_drawn ["seed", "wares"] (He.ga K "_law_cart_drawn") fd__law_cart_drawn := defT_of (He.glo_ok X G (cd.fact 30 (f := .glo "_law_cart_drawn") rfl)) D__law_cart_drawn fun _ _ _ _ _ _ us hl => match us, hl with | [_, _], _ => rfl
  obtain ⟨fd_law, D_law⟩ := cd.def_ 31 (d := d_law) rfl
  have T_law : DefT K mg "law" s_law ["script"] (He.ga K "law") fd_law := defT_of (He.glo_ok X G (cd.fact 31 (f := .glo "law") rfl)) D_law fun _ _ _ _ _ _ us hl => match us, hl with | [_], _ => rfl
  have X_BadList := excT_of (x := "BadList") X G (cd.fact 32 (f := .glo "BadList") rfl) (cd.fact 36 (f := .exc "BadList") rfl)
  have X_BadBasket := excT_of (x := "BadBasket") X G (cd.fact 33 (f := .glo "BadBasket") rfl) (cd.fact 37 (f := .exc "BadBasket") rfl)
  have X_Full := excT_of (x := "Full") X G (cd.fact 34 (f := .glo "Full") rfl) (cd.fact 38 (f := .exc "Full") rfl)
  have X_NoDeed := excT_of (x := "NoDeed") X G (cd.fact 35 (f := .glo "NoDeed") rfl) (cd.fact 39 (f := .exc "NoDeed") rfl)
  have EA : ExcAll K mg excN := by
    intro x hx y hy
    simp only [excN, List.mem_cons, List.not_mem_nil, or_false] at hx hy
    rcases hx with rfl | rfl | rfl | rfl <;> rcases hy with rfl | rfl | rfl | rfl
    · exact (exm_of (b := true) X G (cd.fact 32 (f := .glo "BadList") rfl) (cd.fact 32 (f := .glo "BadList") rfl) (cd.fact 40 (f := .exm "BadList" "BadList" true) rfl)).trans (by decide)
    · exact (exm_of (b := false) X G (cd.fact 32 (f := .glo "BadList") rfl) (cd.fact 33 (f := .glo "BadBasket") rfl) (cd.fact 41 (f := .exm "BadList" "BadBasket" false) rfl)).trans (by decide)
    · exact (exm_of (b := false) X G (cd.fact 32 (f := .glo "BadList") rfl) (cd.fact 34 (f := .glo "Full") rfl) (cd.fact 42 (f := .exm "BadList" "Full" false) rfl)).trans (by decide)
    · exact (exm_of (b := false) X G (cd.fact 32 (f := .glo "BadList") rfl) (cd.fact 35 (f := .glo "NoDeed") rfl) (cd.fact 43 (f := .exm "BadList" "NoDeed" false) rfl)).trans (by decide)
    · exact (exm_of (b := false) X G (cd.fact 33 (f := .glo "BadBasket") rfl) (cd.fact 32 (f := .glo "BadList") rfl) (cd.fact 44 (f := .exm "BadBasket" "BadList" false) rfl)).trans (by decide)
    · exact (exm_of (b := true) X G (cd.fact 33 (f := .glo "BadBasket") rfl) (cd.fact 33 (f := .glo "BadBasket") rfl) (cd.fact 45 (f := .exm "BadBasket" "BadBasket" true) rfl)).trans (by decide)
    · exact (exm_of (b := false) X G (cd.fact 33 (f := .glo "BadBasket") rfl) (cd.fact 34 (f := .glo "Full") rfl) (cd.fact 46 (f := .exm "BadBasket" "Full" false) rfl)).trans (by decide)
    · exact (exm_of (b := false) X G (cd.fact 33 (f := .glo "BadBasket") rfl) (cd.fact 35 (f := .glo "NoDeed") rfl) (cd.fact 47 (f := .exm "BadBasket" "NoDeed" false) rfl)).trans (by decide)
    · exact (exm_of (b := false) X G (cd.fact 34 (f := .glo "Full") rfl) (cd.fact 32 (f := .glo "BadList") rfl) (cd.fact 48 (f := .exm "Full" "BadList" false) rfl)).trans (by decide)
    · exact (exm_of (b := false) X G (cd.fact 34 (f := .glo "Full") rfl) (cd.fact 33 (f := .glo "BadBasket") rfl) (cd.fact 49 (f := .exm "Full" "BadBasket" false) rfl)).trans (by decide)
    · exact (exm_of (b := true) X G (cd.fact 34 (f := .glo "Full") rfl) (cd.fact 34 (f := .glo "Full") rfl) (cd.fact 50 (f := .exm "Full" "Full" true) rfl)).trans (by decide)
    · exact (exm_of (b := false) X G (cd.fact 34 (f := .glo "Full") rfl) (cd.fact 35 (f := .glo "NoDeed") rfl) (cd.fact 51 (f := .exm "Full" "NoDeed" false) rfl)).trans (by decide)
    · exact (exm_of (b := false) X G (cd.fact 35 (f := .glo "NoDeed") rfl) (cd.fact 32 (f := .glo "BadList") rfl) (cd.fact 52 (f := .exm "NoDeed" "BadList" false) rfl)).trans (by decide)
    · exact (exm_of (b := false) X G (cd.fact 35 (f := .glo "NoDeed") rfl) (cd.fact 33 (f := .glo "BadBasket") rfl) (cd.fact 53 (f := .exm "NoDeed" "BadBasket" false) rfl)).trans (by decide)
    · exact (exm_of (b := false) X G (cd.fact 35 (f := .glo "NoDeed") rfl) (cd.fact 34 (f := .glo "Full") rfl) (cd.fact 54 (f := .exm "NoDeed" "Full" false) rfl)).trans (by decide)
    · exact (exm_of (b := true) X G (cd.fact 35 (f := .glo "NoDeed") rfl) (cd.fact 35 (f := .glo "NoDeed") rfl) (cd.fact 55 (f := .exm "NoDeed" "NoDeed" true) rfl)).trans (by decide)
  have CT : CtT K (He.ga K "Cart") := ⟨He.cls_ok (cd.fact 78 (f := .cls "Cart") rfl), He.noat_ok (cd.fact 79 (f := .noat "Cart" "prices") rfl), He.noat_ok (cd.fact 80 (f := .noat "Cart" "now") rfl), He.noat_ok (cd.fact 81 (f := .noat "Cart" "past") rfl), He.noat_ok (cd.fact 82 (f := .noat "Cart" "later") rfl)⟩
  have B : BnT mg := ⟨He.free_ok X G (cd.fact 56 (f := .free "len") rfl), He.free_ok X G (cd.fact 57 (f := .free "isinstance") rfl), He.free_ok X G (cd.fact 58 (f := .free "int") rfl), He.free_ok X G (cd.fact 59 (f := .free "bool") rfl), He.free_ok X G (cd.fact 60 (f := .free "tuple") rfl), He.free_ok X G (cd.fact 61 (f := .free "list") rfl), He.free_ok X G (cd.fact 62 (f := .free "str") rfl), He.free_ok X G (cd.fact 63 (f := .free "range") rfl), He.free_ok X G (cd.fact 64 (f := .free "sum") rfl), He.free_ok X G (cd.fact 65 (f := .free "max") rfl), He.free_ok X G (cd.fact 66 (f := .free "min") rfl), He.free_ok X G (cd.fact 67 (f := .free "sorted") rfl), He.free_ok X G (cd.fact 68 (f := .free "set") rfl), He.free_ok X G (cd.fact 69 (f := .free "zip") rfl), He.free_ok X G (cd.fact 70 (f := .free "dict") rfl), He.free_ok X G (cd.fact 71 (f := .free "enumerate") rfl)⟩
  have Gc : GcT mg := ⟨trivial, He.int_ok X G (cd.fact 72 (f := .int "MOST_WARES" 3) rfl), He.int_ok X G (cd.fact 73 (f := .int "MOST_OFFERS" 6) rfl), He.int_ok X G (cd.fact 74 (f := .int "MOST_COUNT" 5) rfl), He.int_ok X G (cd.fact 75 (f := .int "MOST_PRICE" 99) rfl), He.int_ok X G (cd.fact 76 (f := .int "MOST_BASKET" 9) rfl)⟩
  have e := hfa.symm.trans T_law.g
  cases e
  obtain ⟨cC, hfc⟩ := code_ref (x := "baskets_below") (st := s_baskets_below) D_baskets_below
  have ecc := code_at (x := "baskets_below") (st := s_baskets_below) D_baskets_below hfc
  letI : Tb := ⟨[((He.cT K ("baskets_below", none)).2, (("baskets_below" ++ ".<locals>.") ++ "<lambda>" : Str))], He.ga K "Cart", fun _ => He.ga K "Cart"⟩
  have bA := FunD.bindsA (ps := ["script"]) D_law fun _ _ _ _ _ _ us hl => match us, hl with | [_], _ => rfl
  refine ⟨fd_law, [He.cT K ("baskets_below", none)], spLaw K, ?_, ?_, ?_, fun s v => bA s [v] rfl, ?_, ?_⟩
  · intro p hp; rw [List.mem_singleton.mp hp]; exact c.empty _ (by simp)
  · intro p hp; rw [List.mem_singleton.mp hp]; exact c.out _ (by simp)
  · intro p hp; rw [List.mem_singleton.mp hp]; exact PySem.W.codeHd_of_K X (c.hd _ (by simp))
  · intro H a ns hl _ hT hS
    refine ⟨a, ns, rfl, hS, hl, fun p hp => ?_, fun _ => rfl⟩
    rw [List.mem_singleton.mp hp]; exact hT _ (List.mem_singleton.mpr rfl)
  · intro base _ _ hTB
    have TB := hTB _ (List.mem_singleton.mpr rfl)
    rw [show (He.cT K ("baskets_below", none)).1 = cC from ecc] at TB
    have O__law_seed := ok__law_seed (P := PySem.Challenge.pw_pricerows_k31_whole_carts_back) (w := w) (base := base) T__law_seed B Gc
    have O__law_pick := ok__law_pick (P := PySem.Challenge.pw_pricerows_k31_whole_carts_back) (w := w) (base := base) T__law_pick B Gc
    have O__law_offer := ok__law_offer (P := PySem.Challenge.pw_pricerows_k31_whole_carts_back) (w := w) (base := base) T__law_offer T__law_seed O__law_seed T__law_pick O__law_pick B Gc
    have O__law_two_list := ok__law_two_list (P := PySem.Challenge.pw_pricerows_k31_whole_carts_back) (w := w) (base := base) T__law_two_list T__law_seed O__law_seed T__law_offer O__law_offer B Gc
    have O_is_within := ok_is_within (P := PySem.Challenge.pw_pricerows_k31_whole_carts_back) (w := w) (base := base) T_is_within B Gc
    have O_is_offer := ok_is_offer (P := PySem.Challenge.pw_pricerows_k31_whole_carts_back) (w := w) (base := base) T_is_offer T_is_within O_is_within B Gc
    have O_is_list := ok_is_list (P := PySem.Challenge.pw_pricerows_k31_whole_carts_back) (w := w) (base := base) T_is_list T_is_within O_is_within T_is_offer O_is_offer B Gc
    have O_look := ok_look (P := PySem.Challenge.pw_pricerows_k31_whole_carts_back) (w := w) (base := base) T_look T_is_list O_is_list X_BadList B Gc
    have O_Cart := ok_Cart (P := PySem.Challenge.pw_pricerows_k31_whole_carts_back) (w := w) (base := base) T_Cart T_look O_look CT B Gc
    have O__law_cell := ok__law_cell (P := PySem.Challenge.pw_pricerows_k31_whole_carts_back) (w := w) (base := base) T__law_cell B Gc
    have O__law_mix := ok__law_mix (P := PySem.Challenge.pw_pricerows_k31_whole_carts_back) (w := w) (base := base) T__law_mix B Gc
    have O_Cart_need := ok_Cart_need (P := PySem.Challenge.pw_pricerows_k31_whole_carts_back) (w := w) (base := base) T_Cart_need T_is_within O_is_within CT X_BadBasket B Gc
    have O_baskets_below := ok_baskets_below (P := PySem.Challenge.pw_pricerows_k31_whole_carts_back) (w := w) (base := base) T_baskets_below TB hfc rfl B Gc
    have O_left := ok_left (P := PySem.Challenge.pw_pricerows_k31_whole_carts_back) (w := w) (base := base) T_left B Gc
    have O_costs_below := ok_costs_below (P := PySem.Challenge.pw_pricerows_k31_whole_carts_back) (w := w) (base := base) T_costs_below T_baskets_below O_baskets_below T_left O_left B Gc
    have O_cost_by := ok_cost_by (P := PySem.Challenge.pw_pricerows_k31_whole_carts_back) (w := w) (base := base) T_cost_by T_costs_below O_costs_below B Gc
    have O_alone := ok_alone (P := PySem.Challenge.pw_pricerows_k31_whole_carts_back) (w := w) (base := base) T_alone B Gc
    have O_packs_of := ok_packs_of (P := PySem.Challenge.pw_pricerows_k31_whole_carts_back) (w := w) (base := base) T_packs_of T_alone O_alone B Gc
    have O_all_packs := ok_all_packs (P := PySem.Challenge.pw_pricerows_k31_whole_carts_back) (w := w) (base := base) T_all_packs T_packs_of O_packs_of B Gc
    have O_Cart_price := ok_Cart_price (P := PySem.Challenge.pw_pricerows_k31_whole_carts_back) (w := w) (base := base) T_Cart_price T_all_packs O_all_packs T_cost_by O_cost_by CT B Gc
    have O_Cart_go := ok_Cart_go (P := PySem.Challenge.pw_pricerows_k31_whole_carts_back) (w := w) (base := base) T_Cart_go T_Cart_price O_Cart_price CT B Gc
    have O_Cart_put := ok_Cart_put (P := PySem.Challenge.pw_pricerows_k31_whole_carts_back) (w := w) (base := base) T_Cart_put T_Cart_need O_Cart_need T_Cart_go O_Cart_go CT X_Full B Gc
    have O_Cart_take := ok_Cart_take (P := PySem.Challenge.pw_pricerows_k31_whole_carts_back) (w := w) (base := base) T_Cart_take T_Cart_need O_Cart_need T_Cart_go O_Cart_go CT X_BadBasket B Gc
    have O_Cart_undo := ok_Cart_undo (P := PySem.Challenge.pw_pricerows_k31_whole_carts_back) (w := w) (base := base) T_Cart_undo CT X_NoDeed B Gc
    have O_Cart_redo := ok_Cart_redo (P := PySem.Challenge.pw_pricerows_k31_whole_carts_back) (w := w) (base := base) T_Cart_redo CT X_NoDeed B Gc
    have O__law_cart_deed := ok__law_cart_deed (P := PySem.Challenge.pw_pricerows_k31_whole_carts_back) (w := w) (base := base) T__law_cart_deed T_Cart_put O_Cart_put T_Cart_take O_Cart_take T_Cart_undo O_Cart_undo T_Cart_redo O_Cart_redo CT X_BadBasket X_Full X_NoDeed EA B Gc
    have O_Cart_log := ok_Cart_log (P := PySem.Challenge.pw_pricerows_k31_whole_carts_back) (w := w) (base := base) T_Cart_log CT B Gc
    have O_look_basket := ok_look_basket (P := PySem.Challenge.pw_pricerows_k31_whole_carts_back) (w := w) (base := base) T_look_basket T_is_within O_is_within X_BadBasket B Gc
    have O_cost := ok_cost (P := PySem.Challenge.pw_pricerows_k31_whole_carts_back) (w := w) (base := base) T_cost T_look O_look T_look_basket O_look_basket T_all_packs O_all_packs T_cost_by O_cost_by B Gc
    have O_Cart_basket := ok_Cart_basket (P := PySem.Challenge.pw_pricerows_k31_whole_carts_back) (w := w) (base := base) T_Cart_basket CT B Gc
    have O__law_cart_drawn := ok__law_cart_drawn (P := PySem.Challenge.pw_pricerows_k31_whole_carts_back) (w := w) (base := base) T__law_cart_drawn T__law_seed O__law_seed B Gc
    have O_law := ok_law (P := PySem.Challenge.pw_pricerows_k31_whole_carts_back) (w := w) (base := base) T_law T__law_cell O__law_cell T__law_seed O__law_seed T__law_two_list O__law_two_list T_Cart O_Cart T__law_mix O__law_mix T__law_cart_drawn O__law_cart_drawn T__law_cart_deed O__law_cart_deed T_Cart_log O_Cart_log T_Cart_basket O_Cart_basket T_Cart_price O_Cart_price T_cost O_cost T_Cart_undo O_Cart_undo T_Cart_put O_Cart_put CT B Gc
    exact law_end O_law law_plain
end PD
open PySem PySem.W PySem.Calls PyProof.Rows
set_option maxRecDepth 100000 in
set_option maxHeartbeats 0 in
theorem PySem.Challenge.cw_pricerows_k31_whole_carts_back_holds : PySem.Challenge.rw_pricerows_k31_whole_carts_back.Holds := by
  w_on; o_law
  refine HandSHeadRun.head_any (r := OpenLaw.row PySem.Challenge.rw_pricerows_k31_whole_carts_back) (q := view (OpenLaw.row PySem.Challenge.rw_pricerows_k31_whole_carts_back).prog [37]) (H := PD.hkX) (ob := PD.obX) (M := 6000) (loose := PD.loL) (d := HandSHeadRun.topDef (OpenLaw.row PySem.Challenge.rw_pricerows_k31_whole_carts_back).prog 37) (kwd := []) PD.obX_eq
    (by kernel_rfl) (fun s => by kernel_rfl) PD.runX (by kernel_rfl) (by kernel_rfl) (by kernel_rfl) (by rfl) (by first | assumption | decide +kernel) (by decide +kernel) ⟨rfl, rfl, rfl, rfl, rfl, by decide +kernel⟩ ?hw ?hc
  case hw => w_witness2
  case hc =>
    refine LamX.walk_ofTsE (l := PySem.Challenge.rw_pricerows_k31_whole_carts_back) (n := 63) (k := 11) (x := "script") (CX := fun w => L2.CX PySem.Challenge.pw_pricerows_k31_whole_carts_back w) rfl (by decide) (by kernel_rfl) ⟨rfl, by decide, by decide⟩ ?F (fun _ _ _ _ _ h => PD.cx_false h)
    intro w mg fa h Y G hmg0
    obtain ⟨K, KX, c⟩ := Y
    have hmg : mg ("law" : PySem.Str) = some (.ref fa) := by
      have e : (HandSHeadRun.topDef (OpenLaw.row PySem.Challenge.rw_pricerows_k31_whole_carts_back).prog 37).name = ("law" : PySem.Str) := by kernel_rfl
      rw [← e]
      exact hmg0
    exact ⟨K, KX, PD.law_facts KX G hmg c⟩
