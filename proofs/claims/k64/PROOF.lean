import PyProof.Rows.All
import Wide.All
import OpenK.AllK
import Wide.FinOn
import HandS.ForMost
import HandS.ForExc
import HandS.Deep
import HandS.DictComp
import HandS.TupAny
import HandS.SetKeys
import HandS.Style
import HandS.FStr
import HandS.Flow
import KE.SortData
import KE.LtData
import HandS.IsInst
import HandS.Defaults
import PySem.Challenge.RW_canalworks_k64_great_canals
import KE.KStateDown
import HandS.Ends
import HandS.More
import HandS.WordsExc
import HandS.Head0
import HandS.Head1
import HandS.Head2
import HandS.HeadEnd
import HandS.HeadHook1
import HandS.HeadHook2
set_option Elab.async false
set_option linter.all false
set_option maxRecDepth 100000
set_option maxHeartbeats 4000000
/-! A data layer: the slots of a def hold plain data, or containers that the def alone holds. -/
namespace DL
open PySem L2

/-! ### a value that reads as data -/
def kD : Key → PyData
  | .inl i => .int i
  | .inr x => .str x
mutual
inductive Rp (K : PySem.W.Frag) (H : Hp) : V → PyData → Prop
  | non : Rp K H .non .none
  | bl (b : Bool) : Rp K H (.bl b) (.bool b)
  | int (i : Int) : Rp K H (.int i) (.int i)
  | str (x : Str) : Rp K H (.str x) (.str x)
  | lst {a : Addr} {xs : List V} {ds : List PyData} (h : SqL K H a xs) (r : RpAll K H xs ds) : Rp K H (.ref a) (.list ds)
  | tup {a : Addr} {xs : List V} {ds : List PyData} (h : SqT K H a xs) (r : RpAll K H xs ds) : Rp K H (.ref a) (.tuple ds)
  | dic {a : Addr} {kvs : List (Key × V)} {ds : List (Key × PyData)} (h : Rd H a (.dK kvs)) (r : RpKV K H kvs ds) : Rp K H (.ref a) (.dict (ds.map fun p => (kD p.1, p.2)))
inductive RpAll (K : PySem.W.Frag) (H : Hp) : List V → List PyData → Prop
  | nil : RpAll K H [] []
  | cons {v : V} {vs : List V} {d : PyData} {ds : List PyData} (h : Rp K H v d) (t : RpAll K H vs ds) : RpAll K H (v :: vs) (d :: ds)
inductive RpKV (K : PySem.W.Frag) (H : Hp) : List (Key × V) → List (Key × PyData) → Prop
  | nil : RpKV K H [] []
  | cons {k : Key} {v : V} {vs : List (Key × V)} {d : PyData} {ds : List (Key × PyData)} (h : Rp K H v d) (t : RpKV K H vs ds) : RpKV K H ((k, v) :: vs) ((k, d) :: ds)
end

theorem same_rd {H H' : Hp} {a : Addr} {u : HO} (e : Same H H') (h : Rd H a u) : Rd H' a u := by
  rcases h with h | ⟨o, h⟩
  · exact .inl (e _ _ h)
  · exact .inr ⟨o, e _ _ h⟩
theorem same_l {K : PySem.W.Frag} {H H' : Hp} {a : Addr} {xs : List V} (e : Same H H') (h : SqL K H a xs) : SqL K H' a xs := e.seq h
theorem same_t {K : PySem.W.Frag} {H H' : Hp} {a : Addr} {xs : List V} (e : Same H H') (h : SqT K H a xs) : SqT K H' a xs := by
  rcases h with h | h
  · exact .inl (same_rd e h)
  · exact .inr h
theorem same_new {H : Hp} {p : Addr} {o : HO} (h : H p = none) : Same H (upd H p o) := fun b x e => by
  rw [upd_ne (ne_of_none e h)]
  exact e
section
variable {K : PySem.W.Frag} {H H' : Hp}
mutual
theorem Rp.mono (e : Same H H') : ∀ {v : V} {d : PyData}, Rp K H v d → Rp K H' v d
  | _, _, .non => .non
  | _, _, .bl b => .bl b
  | _, _, .int i => .int i
  | _, _, .str x => .str x
  | _, _, .lst h r => .lst (same_l e h) (RpAll.mono e r)
  | _, _, .tup h r => .tup (same_t e h) (RpAll.mono e r)
  | _, _, .dic h r => .dic (same_rd e h) (RpKV.mono e r)
theorem RpAll.mono (e : Same H H') : ∀ {vs : List V} {ds : List PyData}, RpAll K H vs ds → RpAll K H' vs ds
  | _, _, .nil => .nil
  | _, _, .cons h t => .cons (Rp.mono e h) (RpAll.mono e t)
theorem RpKV.mono (e : Same H H') : ∀ {vs : List (Key × V)} {ds : List (Key × PyData)}, RpKV K H vs ds → RpKV K H' vs ds
  | _, _, .nil => .nil
  | _, _, .cons h t => .cons (Rp.mono e h) (RpKV.mono e t)
end
/-- data that speak of no object -/
def flat : PyData → Bool
  | .none => true
  | .bool _ => true
  | .int _ => true
  | .str _ => true
  | _ => false
theorem Rp.flat {H2 : Hp} {v : V} {d : PyData} (f : flat d = true) (h : Rp K H v d) : Rp K H2 v d := by
  cases h with
  | non => exact .non
  | bl b => exact .bl b
  | int i => exact .int i
  | str x => exact .str x
  | lst _ _ => exact absurd f Bool.false_ne_true
  | tup _ _ => exact absurd f Bool.false_ne_true
  | dic _ _ => exact absurd f Bool.false_ne_true
theorem RpAll.length {vs : List V} {ds : List PyData} (h : RpAll K H vs ds) : vs.length = ds.length := by
  induction vs generalizing ds with
  | nil => cases h; rfl
  | cons v vs ih =>
    cases h with
    | cons h t => rw [List.length_cons, List.length_cons, ih t]
theorem RpAll.get {vs : List V} {ds : List PyData} (h : RpAll K H vs ds) {i : Nat} {d : PyData} (e : ds[i]? = some d) : ∃ v, vs[i]? = some v ∧ Rp K H v d := by
  induction vs generalizing ds i with
  | nil => cases h; simp at e
  | cons v vs ih =>
    cases h with
    | cons h t =>
      cases i with
      | zero => simp at e; subst e; exact ⟨v, rfl, h⟩
      | succ i => simpa using ih t (by simpa using e)
theorem RpAll.getV {vs : List V} {ds : List PyData} (h : RpAll K H vs ds) {i : Nat} {v : V} (e : vs[i]? = some v) : ∃ d, ds[i]? = some d ∧ Rp K H v d := by
  induction vs generalizing ds i with
  | nil => simp at e
  | cons w vs ih =>
    cases h with
    | cons h t =>
      cases i with
      | zero => simp at e; subst e; exact ⟨_, rfl, h⟩
      | succ i => simpa using ih t (by simpa using e)
theorem RpAll.append {vs ws : List V} {ds es : List PyData} (h : RpAll K H vs ds) (h2 : RpAll K H ws es) : RpAll K H (vs ++ ws) (ds ++ es) := by
  induction vs generalizing ds with
  | nil => cases h; exact h2
  | cons v vs ih =>
    cases h with
    | cons h t => exact .cons h (ih t)
theorem RpAll.set {vs : List V} {ds : List PyData} (h : RpAll K H vs ds) {v : V} {d : PyData} (r : Rp K H v d) (i : Nat) : RpAll K H (vs.set i v) (ds.set i d) := by
  induction vs generalizing ds i with
  | nil => cases h; exact .nil
  | cons w vs ih =>
    cases h with
    | cons h t =>
      cases i with
      | zero => exact .cons r t
      | succ i => exact .cons h (ih t i)
theorem RpAll.take {vs : List V} {ds : List PyData} (h : RpAll K H vs ds) (n : Nat) : RpAll K H (vs.take n) (ds.take n) := by
  induction vs generalizing ds n with
  | nil => cases h; simpa using RpAll.nil
  | cons w vs ih =>
    cases h with
    | cons h t =>
      cases n with
      | zero => exact .nil
      | succ n => exact .cons h (ih t n)
theorem RpAll.drop {vs : List V} {ds : List PyData} (h : RpAll K H vs ds) (n : Nat) : RpAll K H (vs.drop n) (ds.drop n) := by
  induction vs generalizing ds n with
  | nil => cases h; simpa using RpAll.nil
  | cons w vs ih =>
    cases h with
    | cons h t =>
      cases n with
      | zero => exact .cons h t
      | succ n => exact ih t n
theorem rpAll_strs : ∀ (xs : List Str), RpAll K H (xs.map V.str) (xs.map PyData.str)
  | [] => .nil
  | x :: xs => .cons (.str x) (rpAll_strs xs)
theorem rpAll_ints : ∀ (xs : List Int), RpAll K H (xs.map V.int) (xs.map PyData.int)
  | [] => .nil
  | x :: xs => .cons (.int x) (rpAll_ints xs)
theorem strs_of : ∀ {xs : List Str} {vs : List V}, RpAll K H vs (xs.map PyData.str) → vs = xs.map V.str
  | [], _, h => by cases h; rfl
  | x :: xs, _, h => by
    cases h with
    | cons h t => cases h; rw [strs_of t]; rfl
theorem ints_of : ∀ {xs : List Int} {vs : List V}, RpAll K H vs (xs.map PyData.int) → vs = xs.map V.int
  | [], _, h => by cases h; rfl
  | x :: xs, _, h => by
    cases h with
    | cons h t => cases h; rw [ints_of t]; rfl
/-- the value of a flat datum -/
def fV : PyData → V
  | .none => .non
  | .bool b => .bl b
  | .int i => .int i
  | .str x => .str x
  | _ => .non
theorem Rp.val {v : V} {d : PyData} (f : DL.flat d = true) (h : Rp K H v d) : v = fV d := by
  cases h with
  | non => rfl
  | bl b => rfl
  | int i => rfl
  | str x => rfl
  | lst _ _ => exact absurd f Bool.false_ne_true
  | tup _ _ => exact absurd f Bool.false_ne_true
  | dic _ _ => exact absurd f Bool.false_ne_true
theorem RpAll.vals : ∀ {ds : List PyData} {vs : List V}, (∀ d ∈ ds, DL.flat d = true) → RpAll K H vs ds → vs = ds.map fV
  | [], _, _, h => by cases h; rfl
  | d :: ds, _, f, h => by
    cases h with
    | cons h t => rw [h.val (f d List.mem_cons_self), RpAll.vals (fun e he => f e (List.mem_cons_of_mem _ he)) t]; rfl
mutual
/-- without dicts it is the layer's own reading -/
def noDict : PyData → Bool
  | .list xs => noDictAll xs
  | .tuple xs => noDictAll xs
  | .dict _ => false
  | _ => true
def noDictAll : List PyData → Bool
  | [] => true
  | x :: xs => noDict x && noDictAll xs
end
mutual
theorem Rp.dp : ∀ {v : V} {d : PyData}, noDict d = true → Rp K H v d → Dp K H v d
  | _, _, _, .non => .non
  | _, _, _, .bl b => .bl b
  | _, _, _, .int i => .int i
  | _, _, _, .str x => .str x
  | _, _, n, .lst h r => .lst h (RpAll.dp (by simpa [noDict] using n) r)
  | _, _, n, .tup h r => .tup h (RpAll.dp (by simpa [noDict] using n) r)
  | _, _, n, .dic _ _ => absurd n (by simp [noDict])
theorem RpAll.dp : ∀ {vs : List V} {ds : List PyData}, noDictAll ds = true → RpAll K H vs ds → DpAll K H vs ds
  | _, _, _, .nil => .nil
  | _, d :: ds, n, .cons h t =>
    have n' : noDict d = true ∧ noDictAll ds = true := by simpa [noDictAll] using n
    .cons (Rp.dp n'.1 h) (RpAll.dp n'.2 t)
end
end

/-! ### growth: F the part that does not change any more, H all that is tracked -/
structure Gr (F H F' H' : Hp) : Prop where
  ff : Same F F'
  hh : Same H H'
  fh : Same F' H'
  old : ∀ p o, H p = some o → F' p = F p
theorem Gr.refl {F H : Hp} (s : Same F H) : Gr F H F H := ⟨Same.refl _, Same.refl _, s, fun _ _ _ => rfl⟩
theorem Gr.trans {F H F1 H1 F2 H2 : Hp} (a : Gr F H F1 H1) (b : Gr F1 H1 F2 H2) : Gr F H F2 H2 :=
  ⟨a.ff.trans b.ff, a.hh.trans b.hh, b.fh, fun p o e => (b.old p o (a.hh p o e)).trans (a.old p o e)⟩
/-- a new object that belongs to the unchanging part -/
theorem Gr.laid {F H : Hp} {p : Addr} {o : HO} (s : Same F H) (n : H p = none) : Gr F H (upd F p o) (upd H p o) := by
  have nf : F p = none := by
    cases q : F p with
    | none => rfl
    | some u => rw [s p u q] at n; cases n
  refine ⟨same_new nf, same_new n, fun b u e => ?_, fun b u e => upd_ne (ne_of_none e n)⟩
  by_cases hb : b = p
  · subst hb; rw [upd_same] at e ⊢; exact e
  · rw [upd_ne hb] at e ⊢; exact s b u e
/-- a new object that does not (yet) -/
theorem Gr.own {F H : Hp} {p : Addr} {o : HO} (s : Same F H) (n : H p = none) : Gr F H F (upd H p o) :=
  ⟨Same.refl _, same_new n, s.trans (same_new n), fun _ _ _ => rfl⟩
theorem Gr.free {F H F' H' : Hp} (g : Gr F H F' H') {p : Addr} (n : H' p = none) : H p = none := g.hh.free n
theorem same_free {F H : Hp} (s : Same F H) {p : Addr} (n : H p = none) : F p = none := s.free n

/-! ### slots -/
inductive Sl where
  | un
  | fz (d : PyData)
  | ol (ds : List PyData)
  | od (kvs : List (Key × PyData))
  | os (S : Key → Bool) (n : Nat)
def Sl.own : Sl → Bool
  | .ol _ => true
  | .od _ => true
  | .os _ _ => true
  | _ => false
section
variable (P : Program) (w : World) (K : PySem.W.Frag)
/-- what an owned object is, its parts read in F -/
def OwnIs (F : Hp) (p : Addr) (o : HO) : Sl → Prop
  | .ol ds => ∃ xs, o = .lst xs ∧ RpAll K F xs ds
  | .od kvs => ∃ ks, o = .dK ks ∧ RpKV K F ks kvs
  | .os S n => o = SetK P w p S n
  | _ => False
structure Good (B F0 H0 F H : Hp) (σ : L2.St) (ρ : List Sl) : Prop where
  an : Same B F
  sm : Same F H
  gr : Gr F0 H0 F H
  len : σ.length = ρ.length
  fz : ∀ (i : Nat) (d : PyData), ρ[i]? = some (Sl.fz d) → ∃ v, σ[i]? = some (some v) ∧ Rp K F v d
  ow : ∀ (i : Nat) (s : Sl), ρ[i]? = some s → s.own = true → ∃ p o, σ[i]? = some (some (.ref p)) ∧ H0 p = none ∧ F p = none ∧ H p = some o ∧ OwnIs P w K F p o s
  ap : ∀ (i j : Nat) (s t : Sl) (p : Addr), i ≠ j → ρ[i]? = some s → s.own = true → ρ[j]? = some t → t.own = true → σ[i]? = some (some (.ref p)) → σ[j]? = some (some (.ref p)) → False
end
section
variable {P : Program} {w : World} {K : PySem.W.Frag} {B F0 H0 F H F' H' : Hp} {σ : L2.St} {ρ : List Sl}
theorem rpKV_mono {F F' : Hp} (e : Same F F') {ks : List (Key × V)} {kvs : List (Key × PyData)} (h : RpKV K F ks kvs) : RpKV K F' ks kvs := RpKV.mono e h
theorem OwnIs.mono {p : Addr} {o : HO} {s : Sl} (e : Same F F') (h : OwnIs P w K F p o s) : OwnIs P w K F' p o s := by
  cases s with
  | ol ds => obtain ⟨xs, rfl, r⟩ := h; exact ⟨xs, rfl, r.mono e⟩
  | od kvs => obtain ⟨xs, rfl, r⟩ := h; exact ⟨xs, rfl, RpKV.mono e r⟩
  | os S n => exact h
  | un => exact h
  | fz d => exact h
theorem Good.grow (g : Good P w K B F0 H0 F H σ ρ) (e : Gr F H F' H') : Good P w K B F0 H0 F' H' σ ρ where
  an := g.an.trans e.ff
  sm := e.fh
  gr := g.gr.trans e
  len := g.len
  fz := fun i d h => by
    obtain ⟨v, a, b⟩ := g.fz i d h
    exact ⟨v, a, b.mono e.ff⟩
  ow := fun i s h ho => by
    obtain ⟨p, o, a, b, c, d, q⟩ := g.ow i s h ho
    exact ⟨p, o, a, b, (e.old p o d).trans c, e.hh p o d, q.mono e.ff⟩
  ap := g.ap
theorem set_some {α : Type} {l : List α} {i j : Nat} {a b : α} (h : (l.set i a)[j]? = some b) : (j = i ∧ b = a ∧ i < l.length) ∨ (j ≠ i ∧ l[j]? = some b) := by
  by_cases e : j = i
  · subst e
    by_cases hl : j < l.length
    · rw [List.getElem?_set_self hl] at h
      exact .inl ⟨rfl, (Option.some.inj h).symm, hl⟩
    · rw [List.getElem?_eq_none (by rw [List.length_set]; omega)] at h
      cases h
  · rw [List.getElem?_set_ne (fun z => e z.symm)] at h
    exact .inr ⟨e, h⟩
theorem Good.setFz {i : Nat} {v : V} {d : PyData} (g : Good P w K B F0 H0 F H σ ρ) (r : Rp K F v d) : Good P w K B F0 H0 F H (σ.set i (some v)) (ρ.set i (.fz d)) where
  an := g.an
  sm := g.sm
  gr := g.gr
  len := by rw [List.length_set, List.length_set]; exact g.len
  fz := fun j d' h => by
    rcases set_some h with ⟨rfl, e, hl⟩ | ⟨ne, h⟩
    · cases e
      exact ⟨v, List.getElem?_set_self (by rw [g.len]; exact hl), r⟩
    · obtain ⟨v', a, b⟩ := g.fz j d' h
      exact ⟨v', by rw [List.getElem?_set_ne (fun z => ne z.symm)]; exact a, b⟩
  ow := fun j s h ho => by
    rcases set_some h with ⟨rfl, e, hl⟩ | ⟨ne, h⟩
    · subst e; cases ho
    · obtain ⟨p, o, a, b⟩ := g.ow j s h ho
      exact ⟨p, o, by rw [List.getElem?_set_ne (fun z => ne z.symm)]; exact a, b⟩
  ap := fun j k s t p hjk h1 o1 h2 o2 e1 e2 => by
    rcases set_some h1 with ⟨_, e, _⟩ | ⟨n1, h1⟩
    · subst e; cases o1
    rcases set_some h2 with ⟨_, e, _⟩ | ⟨n2, h2⟩
    · subst e; cases o2
    rw [List.getElem?_set_ne (fun z => n1 z.symm)] at e1
    rw [List.getElem?_set_ne (fun z => n2 z.symm)] at e2
    exact g.ap j k s t p hjk h1 o1 h2 o2 e1 e2
/-- a slot forgotten, its value whatever -/
theorem Good.setUn {i : Nat} {x : Option V} (g : Good P w K B F0 H0 F H σ ρ) : Good P w K B F0 H0 F H (σ.set i x) (ρ.set i .un) where
  an := g.an
  sm := g.sm
  gr := g.gr
  len := by rw [List.length_set, List.length_set]; exact g.len
  fz := fun j d' h => by
    rcases set_some h with ⟨rfl, e, hl⟩ | ⟨ne, h⟩
    · cases e
    · obtain ⟨v', a, b⟩ := g.fz j d' h
      exact ⟨v', by rw [List.getElem?_set_ne (fun z => ne z.symm)]; exact a, b⟩
  ow := fun j s h ho => by
    rcases set_some h with ⟨rfl, e, hl⟩ | ⟨ne, h⟩
    · subst e; cases ho
    · obtain ⟨p, o, a, b⟩ := g.ow j s h ho
      exact ⟨p, o, by rw [List.getElem?_set_ne (fun z => ne z.symm)]; exact a, b⟩
  ap := fun j k s t p hjk h1 o1 h2 o2 e1 e2 => by
    rcases set_some h1 with ⟨_, e, _⟩ | ⟨n1, h1⟩
    · subst e; cases o1
    rcases set_some h2 with ⟨_, e, _⟩ | ⟨n2, h2⟩
    · subst e; cases o2
    rw [List.getElem?_set_ne (fun z => n1 z.symm)] at e1
    rw [List.getElem?_set_ne (fun z => n2 z.symm)] at e2
    exact g.ap j k s t p hjk h1 o1 h2 o2 e1 e2
/-- a slot takes a new object that the def holds alone -/
theorem Good.setOw {i : Nat} {p : Addr} {o : HO} {s : Sl} (g : Good P w K B F0 H0 F H σ ρ) (hs : s.own = true) (np : H p = none) (e : Gr F H F' H') (nf : F' p = none) (hp : H' p = some o) (r : OwnIs P w K F' p o s) :
    Good P w K B F0 H0 F' H' (σ.set i (some (.ref p))) (ρ.set i s) := by
  have g' := g.grow e
  have n0 : H0 p = none := g.gr.free np
  have apart : ∀ (j : Nat) (t : Sl) (q : Addr), ρ[j]? = some t → t.own = true → σ[j]? = some (some (.ref q)) → q ≠ p := fun j t q h1 h2 h3 z => by
    obtain ⟨q', o', a, _, _, d, _⟩ := g.ow j t h1 h2
    rw [h3] at a
    cases a
    subst z
    rw [np] at d
    cases d
  refine ⟨g'.an, g'.sm, g'.gr, by rw [List.length_set, List.length_set]; exact g'.len, fun j d' h => ?_, fun j t h ho => ?_, fun j k t1 t2 q hjk h1 o1 h2 o2 e1 e2 => ?_⟩
  · rcases set_some h with ⟨_, z, _⟩ | ⟨ne, h⟩
    · subst z; cases hs
    · obtain ⟨v', a, b⟩ := g'.fz j d' h
      exact ⟨v', by rw [List.getElem?_set_ne (fun z => ne z.symm)]; exact a, b⟩
  · rcases set_some h with ⟨rfl, z, hl⟩ | ⟨ne, h⟩
    · subst z
      exact ⟨p, o, List.getElem?_set_self (by rw [g.len]; exact hl), n0, nf, hp, r⟩
    · obtain ⟨q, o', a, b⟩ := g'.ow j t h ho
      exact ⟨q, o', by rw [List.getElem?_set_ne (fun z => ne z.symm)]; exact a, b⟩
  · rcases set_some h1 with ⟨c1, z1, l1⟩ | ⟨n1, k1⟩
    · rcases set_some h2 with ⟨c2, _, _⟩ | ⟨n2, k2⟩
      · exact hjk (c1.trans c2.symm)
      · rw [c1, List.getElem?_set_self (by rw [g.len]; exact l1)] at e1
        rw [List.getElem?_set_ne (fun z => n2 z.symm)] at e2
        cases e1
        exact apart k t2 _ k2 o2 e2 rfl
    · rcases set_some h2 with ⟨c2, z2, l2⟩ | ⟨n2, k2⟩
      · rw [c2, List.getElem?_set_self (by rw [g.len]; exact l2)] at e2
        rw [List.getElem?_set_ne (fun z => n1 z.symm)] at e1
        cases e2
        exact apart j t1 _ k1 o1 e1 rfl
      · rw [List.getElem?_set_ne (fun z => n1 z.symm)] at e1
        rw [List.getElem?_set_ne (fun z => n2 z.symm)] at e2
        exact g.ap j k t1 t2 q hjk k1 o1 k2 o2 e1 e2
/-- an owned object is changed -/
theorem Good.change {i : Nat} {p : Addr} {o o' : HO} {s s' : Sl} (g : Good P w K B F0 H0 F H σ ρ) (hi : ρ[i]? = some s) (hs : s.own = true) (hs' : s'.own = true) (hσ : σ[i]? = some (some (.ref p))) (hp : H p = some o) (r : OwnIs P w K F p o' s') :
    Good P w K B F0 H0 F (upd H p o') σ (ρ.set i s') := by
  obtain ⟨p', o1, a, n0, nf, hp', _⟩ := g.ow i s hi hs
  rw [hσ] at a
  cases a
  have hl : i < ρ.length := (List.getElem?_eq_some_iff.mp hi).1
  have sm : Same F (upd H p o') := fun b u e => by
    rw [upd_ne (ne_of_none e nf)]
    exact g.sm b u e
  have gr : Gr F0 H0 F (upd H p o') := ⟨g.gr.ff, fun b u e => by rw [upd_ne (ne_of_none e n0)]; exact g.gr.hh b u e, sm, g.gr.old⟩
  refine ⟨g.an, sm, gr, by rw [List.length_set]; exact g.len, fun j d' h => ?_, fun j t h ho => ?_, fun j k t1 t2 q hjk h1 o1 h2 o2 e1 e2 => ?_⟩
  · rcases set_some h with ⟨_, z, _⟩ | ⟨ne, h⟩
    · subst z; cases hs'
    · exact g.fz j d' h
  · rcases set_some h with ⟨rfl, z, _⟩ | ⟨ne, h⟩
    · subst z
      exact ⟨p, o', hσ, n0, nf, upd_same, r⟩
    · obtain ⟨q, o2, a, b, c, d, e⟩ := g.ow j t h ho
      have hq : q ≠ p := fun z => by
        subst z
        exact g.ap j i t s q ne h ho hi hs a hσ
      exact ⟨q, o2, a, b, c, by rw [upd_ne hq]; exact d, e⟩
  · have f : ∀ (m : Nat) (t : Sl), (ρ.set i s')[m]? = some t → t.own = true → ∃ t', ρ[m]? = some t' ∧ t'.own = true := fun m t h ho => by
      rcases set_some h with ⟨rfl, z, _⟩ | ⟨ne, h⟩
      · exact ⟨s, hi, hs⟩
      · exact ⟨t, h, ho⟩
    obtain ⟨t1', h1', o1'⟩ := f j t1 h1 o1
    obtain ⟨t2', h2', o2'⟩ := f k t2 h2 o2
    exact g.ap j k t1' t2' q hjk h1' o1' h2' o2' e1 e2
/-- an owned list, an owned dict becomes data like all other: it will not change any more -/
def Sl.data : Sl → Option PyData
  | .ol ds => some (.list ds)
  | .od kvs => some (.dict (kvs.map fun p => (kD p.1, p.2)))
  | _ => none
theorem Good.freeze {i : Nat} {s : Sl} {d : PyData} (g : Good P w K B F0 H0 F H σ ρ) (hi : ρ[i]? = some s) (hd : s.data = some d) : ∃ F1, Same F F1 ∧ Good P w K B F0 H0 F1 H σ (ρ.set i (.fz d)) ∧ (∀ q, F q = none → H q = none → F1 q = none) ∧
    (∀ q, F1 q ≠ F q → σ[i]? = some (some (.ref q))) := by
  have hs : s.own = true := by
    cases s with
    | ol _ => rfl
    | od _ => rfl
    | _ => cases hd
  obtain ⟨p, o, hσ, n0, nf, hp, r⟩ := g.ow i s hi hs
  have hl : i < ρ.length := (List.getElem?_eq_some_iff.mp hi).1
  have ff : Same F (upd F p o) := same_new nf
  have rp : Rp K (upd F p o) (.ref p) d := by
    cases s with
    | ol ds =>
      cases hd
      obtain ⟨xs, rfl, r⟩ := r
      exact .lst (.inl (.inl upd_same)) (r.mono ff)
    | od kvs =>
      cases hd
      obtain ⟨xs, rfl, r⟩ := r
      exact .dic (.inl upd_same) (RpKV.mono ff r)
    | _ => cases hd
  have sm : Same (upd F p o) H := fun b u e => by
    by_cases hb : b = p
    · subst hb; rw [upd_same] at e; cases e; exact hp
    · rw [upd_ne hb] at e; exact g.sm b u e
  refine ⟨upd F p o, ff, ⟨g.an.trans ff, sm, ⟨g.gr.ff.trans ff, g.gr.hh, sm, fun b u e => ?_⟩, by rw [List.length_set]; exact g.len, fun j d' h => ?_, fun j t h ho => ?_, fun j k t1 t2 q hjk h1 o1 h2 o2 e1 e2 => ?_⟩, fun q h1 h2 => ?_, fun q h => ?_⟩
  · rw [upd_ne (ne_of_none e n0)]
    exact g.gr.old b u e
  · rcases set_some h with ⟨rfl, z, _⟩ | ⟨ne, h⟩
    · cases z
      exact ⟨.ref p, hσ, rp⟩
    · obtain ⟨v, a, b⟩ := g.fz j d' h
      exact ⟨v, a, b.mono ff⟩
  · rcases set_some h with ⟨_, z, _⟩ | ⟨ne, h⟩
    · subst z; cases ho
    · obtain ⟨q, o2, a, b, c, d2, e⟩ := g.ow j t h ho
      have hq : q ≠ p := fun z => by
        subst z
        exact g.ap j i t s q ne h ho hi hs a hσ
      exact ⟨q, o2, a, b, by rw [upd_ne hq]; exact c, d2, e.mono ff⟩
  · rcases set_some h1 with ⟨_, e, _⟩ | ⟨n1, h1⟩
    · subst e; cases o1
    rcases set_some h2 with ⟨_, e, _⟩ | ⟨n2, h2⟩
    · subst e; cases o2
    exact g.ap j k t1 t2 q hjk h1 o1 h2 o2 e1 e2
  · have : q ≠ p := fun z => by subst z; rw [h2] at hp; cases hp
    rw [upd_ne this]; exact h1
  · by_cases hq : q = p
    · subst hq; exact hσ
    · rw [upd_ne hq] at h; exact absurd rfl h
end
end DL

set_option maxHeartbeats 4000000
namespace DL
open PySem L2

structure Wd where
  P : Program
  w : World
  K : PySem.W.Frag
  B : Hp
/-- the same, with more that is known not to change -/
abbrev Wd.at (c : Wd) (B : Hp) : Wd := { c with B := B }

/-- the expression hands back data, at any state whose slots are as told -/
def EV (c : Wd) (te : TE) (ρ : List Sl) (d : PyData) : Prop := ∀ (F0 H0 F H : Hp) (σ : L2.St), Good c.P c.w c.K c.B F0 H0 F H σ ρ → ∀ Q : VK, (∀ v F' H', Gr F H F' H' → Rp c.K F' v d → Q v H') → te σ H Q
/-- .. a new list | a new dict -/
def EL (c : Wd) (te : TE) (ρ : List Sl) (ds : List PyData) : Prop := ∀ (F0 H0 F H : Hp) (σ : L2.St), Good c.P c.w c.K c.B F0 H0 F H σ ρ → ∀ Q : VK,
  (∀ p xs F' H', Gr F H F' H' → H p = none → F' p = none → H' p = some (.lst xs) → RpAll c.K F' xs ds → Q (.ref p) H') → te σ H Q
def ED (c : Wd) (te : TE) (ρ : List Sl) (ds : List (Key × PyData)) : Prop := ∀ (F0 H0 F H : Hp) (σ : L2.St), Good c.P c.w c.K c.B F0 H0 F H σ ρ → ∀ Q : VK,
  (∀ p xs F' H', Gr F H F' H' → H p = none → F' p = none → H' p = some (.dK xs) → RpKV c.K F' xs ds → Q (.ref p) H') → te σ H Q
def EA (c : Wd) (ta : TA) (ρ : List Sl) (ds : List PyData) : Prop := ∀ (F0 H0 F H : Hp) (σ : L2.St), Good c.P c.w c.K c.B F0 H0 F H σ ρ → ∀ Q : List V → Hp → Prop, (∀ vs F' H', Gr F H F' H' → RpAll c.K F' vs ds → Q vs H') → ta σ H Q
def ET (c : Wd) (tt : TT) (ρ : List Sl) (b : Bool) : Prop := ∀ (F0 H0 F H : Hp) (σ : L2.St), Good c.P c.w c.K c.B F0 H0 F H σ ρ → ∀ Q : Bool → Hp → Prop, (∀ F' H', Gr F H F' H' → Q b H') → tt σ H Q
/-- operators on values that read as data -/
def OV (c : Wd) (r : R2) (x y d : PyData) : Prop := ∀ (F H : Hp) (v u : V), Same F H → Rp c.K F v x → Rp c.K F u y → ∀ Q : VK, (∀ z F' H', Gr F H F' H' → Rp c.K F' z d → Q z H') → r v u H Q
def OL (c : Wd) (r : R2) (x y : PyData) (ds : List PyData) : Prop := ∀ (F H : Hp) (v u : V), Same F H → Rp c.K F v x → Rp c.K F u y → ∀ Q : VK,
  (∀ p xs F' H', Gr F H F' H' → H p = none → F' p = none → H' p = some (.lst xs) → RpAll c.K F' xs ds → Q (.ref p) H') → r v u H Q
def CV (c : Wd) (r : List V → Hp → VK → Prop) (xs : List PyData) (d : PyData) : Prop := ∀ (F H : Hp) (vs : List V), Same F H → RpAll c.K F vs xs → ∀ Q : VK, (∀ z F' H', Gr F H F' H' → Rp c.K F' z d → Q z H') → r vs H Q
def CL (c : Wd) (r : List V → Hp → VK → Prop) (xs : List PyData) (ds : List PyData) : Prop := ∀ (F H : Hp) (vs : List V), Same F H → RpAll c.K F vs xs → ∀ Q : VK,
  (∀ p zs F' H', Gr F H F' H' → H p = none → F' p = none → H' p = some (.lst zs) → RpAll c.K F' zs ds → Q (.ref p) H') → r vs H Q

section
variable {c : Wd} {te ta tb tx : TE} {tt tu : TT} {tas : TA} {ρ : List Sl} {d x y : PyData} {ds xs ys : List PyData} {r : R2}

theorem EL.ev (h : EL c te ρ ds) : EV c te ρ (.list ds) := fun F0 H0 F H σ g Q q => h F0 H0 F H σ g Q fun p xs F' H' gr np nf hp rp => by
  have ff : Same F' (upd F' p (.lst xs)) := same_new nf
  refine q (.ref p) (upd F' p (.lst xs)) H' ⟨gr.ff.trans ff, gr.hh, fun b u e => ?_, fun b u e => ?_⟩ (.lst (.inl (.inl upd_same)) (rp.mono ff))
  · by_cases hb : b = p
    · subst hb; rw [upd_same] at e; cases e; exact hp
    · rw [upd_ne hb] at e; exact gr.fh b u e
  · rw [upd_ne (ne_of_none e np)]; exact gr.old b u e
theorem ED.ev {kvs : List (Key × PyData)} (h : ED c te ρ kvs) : EV c te ρ (.dict (kvs.map fun p => (kD p.1, p.2))) := fun F0 H0 F H σ g Q q => h F0 H0 F H σ g Q fun p xs F' H' gr np nf hp rp => by
  have ff : Same F' (upd F' p (.dK xs)) := same_new nf
  refine q (.ref p) (upd F' p (.dK xs)) H' ⟨gr.ff.trans ff, gr.hh, fun b u e => ?_, fun b u e => ?_⟩ (.dic (.inl upd_same) (RpKV.mono ff rp))
  · by_cases hb : b = p
    · subst hb; rw [upd_same] at e; cases e; exact hp
    · rw [upd_ne hb] at e; exact gr.fh b u e
  · rw [upd_ne (ne_of_none e np)]; exact gr.old b u e
theorem EV.eq {e : PyData} (h : EV c te ρ d) (q : d = e) : EV c te ρ e := q ▸ h
theorem EL.eq {es : List PyData} (h : EL c te ρ ds) (q : ds = es) : EL c te ρ es := q ▸ h
theorem ET.eq {b b' : Bool} (h : ET c tt ρ b) (q : b = b') : ET c tt ρ b' := q ▸ h

/-! ### expressions -/
theorem ev_var {i : Nat} (h : ρ[i]? = some (.fz d)) : EV c (tVar i) ρ d := fun F0 H0 F H σ g Q q => by
  obtain ⟨v, a, b⟩ := g.fz i d h
  exact ⟨v, a, q v F H (Gr.refl g.sm) b⟩
theorem ev_int {i : Int} : EV c (tC (.int i)) ρ (.int i) := fun F0 H0 F H σ g Q q => q _ F H (Gr.refl g.sm) (.int i)
theorem ev_str {x : Str} : EV c (tC (.str x)) ρ (.str x) := fun F0 H0 F H σ g Q q => q _ F H (Gr.refl g.sm) (.str x)
theorem ev_bl {b : Bool} : EV c (tC (.bl b)) ρ (.bool b) := fun F0 H0 F H σ g Q q => q _ F H (Gr.refl g.sm) (.bl b)
theorem ev_non : EV c (tC .non) ρ .none := fun F0 H0 F H σ g Q q => q _ F H (Gr.refl g.sm) .non
theorem ev_op (ha : EV c ta ρ x) (hb : EV c tb ρ y) (hr : OV c r x y d) : EV c (tOp r ta tb) ρ d := fun F0 H0 F H σ g Q q =>
  ha F0 H0 F H σ g _ fun v F1 H1 g1 r1 => hb F0 H0 F1 H1 σ (g.grow g1) _ fun u F2 H2 g2 r2 => hr F2 H2 v u g2.fh (r1.mono g2.ff) r2 Q fun z F3 H3 g3 r3 => q z F3 H3 ((g1.trans g2).trans g3) r3
theorem el_op (ha : EV c ta ρ x) (hb : EV c tb ρ y) (hr : OL c r x y ds) : EL c (tOp r ta tb) ρ ds := fun F0 H0 F H σ g Q q =>
  ha F0 H0 F H σ g _ fun v F1 H1 g1 r1 => hb F0 H0 F1 H1 σ (g.grow g1) _ fun u F2 H2 g2 r2 => hr F2 H2 v u g2.fh (r1.mono g2.ff) r2 Q fun p xs F3 H3 g3 np nf hp r3 =>
    q p xs F3 H3 ((g1.trans g2).trans g3) ((g1.trans g2).free np) nf hp r3
theorem ev_un {r : V → Hp → VK → Prop} (ha : EV c ta ρ x) (hr : ∀ (F H : Hp) (v : V), Same F H → Rp c.K F v x → ∀ Q : VK, (∀ z F' H', Gr F H F' H' → Rp c.K F' z d → Q z H') → r v H Q) : EV c (tUn r ta) ρ d := fun F0 H0 F H σ g Q q =>
  ha F0 H0 F H σ g _ fun v F1 H1 g1 r1 => hr F1 H1 v g1.fh r1 Q fun z F3 H3 g3 r3 => q z F3 H3 (g1.trans g3) r3
theorem ea_nil : EA c tNil ρ [] := fun F0 H0 F H σ g Q q => q _ F H (Gr.refl g.sm) .nil
theorem ea_cons (h : EV c te ρ d) (t : EA c tas ρ ds) : EA c (tCons te tas) ρ (d :: ds) := fun F0 H0 F H σ g Q q =>
  h F0 H0 F H σ g _ fun v F1 H1 g1 r1 => t F0 H0 F1 H1 σ (g.grow g1) _ fun vs F2 H2 g2 r2 => q (v :: vs) F2 H2 (g1.trans g2) (.cons (r1.mono g2.ff) r2)
theorem small {n : Nat} (h : n ≤ 100000) : n ≤ sizeLine := Nat.le_trans h (by decide)
theorem smallL {n : Nat} (h : n < 100000) : n < sizeLine := Nat.lt_of_lt_of_le h (by decide)
theorem ev_tup (h : EA c tas ρ ds) (hl : ds.length ≤ 100000 := by first | decide | exact Nat.le_of_ble_eq_true rfl) : EV c (tTup tas) ρ (.tuple ds) := fun F0 H0 F H σ g Q q =>
  h F0 H0 F H σ g _ fun vs F1 H1 g1 r1 => ⟨small (by rw [r1.length]; exact hl), fun p np =>
    have gl := Gr.laid (o := .tup vs) g1.fh np
    q (.ref p) _ _ (g1.trans gl) (.tup (.inl (.inl upd_same)) (r1.mono gl.ff))⟩
theorem el_lst (h : EA c tas ρ ds) (hl : ds.length ≤ 100000 := by first | decide | exact Nat.le_of_ble_eq_true rfl) : EL c (tLst tas) ρ ds := fun F0 H0 F H σ g Q q =>
  h F0 H0 F H σ g _ fun vs F1 H1 g1 r1 => ⟨small (by rw [r1.length]; exact hl), fun p np =>
    have gl := Gr.own (o := .lst vs) g1.fh np
    q p vs _ _ (g1.trans gl) (g1.free np) (same_free g1.fh np) upd_same r1⟩
theorem ev_cb {r : List V → Hp → VK → Prop} (h : EA c tas ρ ds) (hr : CV c r ds d) : EV c (tCB r tas) ρ d := fun F0 H0 F H σ g Q q =>
  h F0 H0 F H σ g _ fun vs F1 H1 g1 r1 => hr F1 H1 vs g1.fh r1 Q fun z F3 H3 g3 r3 => q z F3 H3 (g1.trans g3) r3
theorem el_cb {r : List V → Hp → VK → Prop} (h : EA c tas ρ ds) (hr : CL c r ds xs) : EL c (tCB r tas) ρ xs := fun F0 H0 F H σ g Q q =>
  h F0 H0 F H σ g _ fun vs F1 H1 g1 r1 => hr F1 H1 vs g1.fh r1 Q fun p zs F3 H3 g3 np nf hp r3 => q p zs F3 H3 (g1.trans g3) (g1.free np) nf hp r3
theorem ev_if {b : Bool} (h : ET c tt ρ b) (h1 : b = true → EV c ta ρ d) (h2 : b = false → EV c tb ρ d) : EV c (tIf tt ta tb) ρ d := fun F0 H0 F H σ g Q q => h F0 H0 F H σ g _ fun F1 H1 g1 => by
  cases b with
  | true => exact h1 rfl F0 H0 F1 H1 σ (g.grow g1) Q fun v F2 H2 g2 r2 => q v F2 H2 (g1.trans g2) r2
  | false => exact h2 rfl F0 H0 F1 H1 σ (g.grow g1) Q fun v F2 H2 g2 r2 => q v F2 H2 (g1.trans g2) r2
/-! ### tests -/
theorem et_test {b : Bool} (h : EV c te ρ (.bool b)) : ET c (tTest te) ρ b := fun F0 H0 F H σ g Q q => h F0 H0 F H σ g _ fun v F1 H1 g1 r1 => by
  cases r1
  exact ⟨b, rfl, q F1 H1 g1⟩
theorem et_B {b : Bool} (h : EV c te ρ (.bool b)) : ET c (tB te) ρ b := fun F0 H0 F H σ g Q q => h F0 H0 F H σ g _ fun v F1 H1 g1 r1 => by
  cases r1
  exact ⟨b, rfl, q F1 H1 g1⟩
theorem et_not {b : Bool} (h : ET c tt ρ b) : ET c (tNot tt) ρ (!b) := fun F0 H0 F H σ g Q q => h F0 H0 F H σ g _ fun F1 H1 g1 => q F1 H1 g1
theorem et_and {a b : Bool} (h : ET c tt ρ a) (h2 : a = true → ET c tu ρ b) : ET c (tAnd tt tu) ρ (a && b) := fun F0 H0 F H σ g Q q => h F0 H0 F H σ g _ fun F1 H1 g1 => by
  cases a with
  | true => exact h2 rfl F0 H0 F1 H1 σ (g.grow g1) Q fun F2 H2 g2 => q F2 H2 (g1.trans g2)
  | false => exact q F1 H1 g1
theorem et_or {a b : Bool} (h : ET c tt ρ a) (h2 : a = false → ET c tu ρ b) : ET c (tOr tt tu) ρ (a || b) := fun F0 H0 F H σ g Q q => h F0 H0 F H σ g _ fun F1 H1 g1 => by
  cases a with
  | true => exact q F1 H1 g1
  | false => exact h2 rfl F0 H0 F1 H1 σ (g.grow g1) Q fun F2 H2 g2 => q F2 H2 (g1.trans g2)
theorem ev_and {a b : Bool} (h : EV c ta ρ (.bool a)) (h2 : a = true → EV c tb ρ (.bool b)) : EV c (tAndV ta tb) ρ (.bool (a && b)) := fun F0 H0 F H σ g Q q => h F0 H0 F H σ g _ fun v F1 H1 g1 r1 => by
  cases r1
  refine ⟨a, rfl, ?_⟩
  cases a with
  | true => exact h2 rfl F0 H0 F1 H1 σ (g.grow g1) Q fun v F2 H2 g2 => q v F2 H2 (g1.trans g2)
  | false => exact q _ F1 H1 g1 (.bl _)
theorem ev_or {a b : Bool} (h : EV c ta ρ (.bool a)) (h2 : a = false → EV c tb ρ (.bool b)) : EV c (tOrV ta tb) ρ (.bool (a || b)) := fun F0 H0 F H σ g Q q => h F0 H0 F H σ g _ fun v F1 H1 g1 r1 => by
  cases r1
  refine ⟨a, rfl, ?_⟩
  cases a with
  | true => exact q _ F1 H1 g1 (.bl _)
  | false => exact h2 rfl F0 H0 F1 H1 σ (g.grow g1) Q fun v F2 H2 g2 => q v F2 H2 (g1.trans g2)
theorem ev_not {a : Bool} (h : EV c ta ρ (.bool a)) : EV c (tNotV ta) ρ (.bool (!a)) := fun F0 H0 F H σ g Q q => h F0 H0 F H σ g _ fun v F1 H1 g1 r1 => by
  cases r1
  exact ⟨a, rfl, q _ F1 H1 g1 (.bl _)⟩
/-! ### an owned container, looked at for a moment -/
theorem lend {F0 H0 F H : Hp} {σ : L2.St} {i : Nat} {s : Sl} {d0 : PyData} (g : Good c.P c.w c.K c.B F0 H0 F H σ ρ) (hi : ρ[i]? = some s) (hd : s.data = some d0) :
    ∃ F1, Good c.P c.w c.K c.B F0 H0 F1 H σ (ρ.set i (.fz d0)) ∧ Same F F1 ∧ ∀ F2 H2, Gr F1 H F2 H2 → Gr F H (fun q => match H q with | none => F2 q | some _ => F q) H2 := by
  obtain ⟨F1, ff, g1, _, _⟩ := g.freeze hi hd
  refine ⟨F1, g1, ff, fun F2 H2 g2 => ⟨fun q u e => ?_, g2.hh, fun q u e => ?_, fun q u e => ?_⟩⟩
  · have : H q = some u := g.sm q u e
    simp only [this]; exact e
  · cases hq : H q with
    | none => simp only [hq] at e; exact g2.fh q u e
    | some z => simp only [hq] at e; exact g2.hh q u (g.sm q u e)
  · simp only [e]
theorem ev_lend {i : Nat} {s : Sl} {d0 : PyData} (hi : ρ[i]? = some s) (hd : s.data = some d0) (h : EV c te (ρ.set i (.fz d0)) d) (f : flat d = true := by rfl) : EV c te ρ d := fun F0 H0 F H σ g Q q => by
  obtain ⟨F1, g1, _, k⟩ := lend g hi hd
  exact h F0 H0 F1 H σ g1 Q fun v F2 H2 g2 r2 => q v _ H2 (k F2 H2 g2) (r2.flat f)
theorem et_lend {i : Nat} {s : Sl} {d0 : PyData} {b : Bool} (hi : ρ[i]? = some s) (hd : s.data = some d0) (h : ET c tt (ρ.set i (.fz d0)) b) : ET c tt ρ b := fun F0 H0 F H σ g Q q => by
  obtain ⟨F1, g1, _, k⟩ := lend g hi hd
  exact h F0 H0 F1 H σ g1 Q fun F2 H2 g2 => q _ H2 (k F2 H2 g2)
end
end DL

set_option maxHeartbeats 4000000
namespace DL
open PySem L2

section
variable {c : Wd} {te ta tb tx : TE} {tt tu : TT} {tas : TA} {ρ : List Sl} {d x y : PyData} {ds xs ys : List PyData} {r : R2}

/-! ### operators -/
theorem ov_i {g : Int → Int → Int} {i j : Int} : OV c (rI0 fun i j => .int (g i j)) (.int i) (.int j) (.int (g i j)) := fun F H v u s r1 r2 Q q => by
  cases r1; cases r2
  exact ⟨i, j, rfl, rfl, q _ F H (Gr.refl s) (.int _)⟩
theorem ov_ic {C : Int → Int → Prop} {g : Int → Int → Int} {i j : Int} (h : C i j) : OV c (rI C fun i j => .int (g i j)) (.int i) (.int j) (.int (g i j)) := fun F H v u s r1 r2 Q q => by
  cases r1; cases r2
  exact ⟨i, j, rfl, rfl, h, q _ F H (Gr.refl s) (.int _)⟩
theorem ov_b {g : Int → Int → Bool} {i j : Int} : OV c (rI0 fun i j => .bl (g i j)) (.int i) (.int j) (.bool (g i j)) := fun F H v u s r1 r2 Q q => by
  cases r1; cases r2
  exact ⟨i, j, rfl, rfl, q _ F H (Gr.refl s) (.bl _)⟩
theorem eu_neg {i : Int} (ha : EV c ta ρ (.int i)) : EV c (tUn (rU fun i => .int (-i)) ta) ρ (.int (-i)) := ev_un ha fun F H v s r1 Q q => by
  cases r1
  exact ⟨i, rfl, q _ F H (Gr.refl s) (.int _)⟩
theorem ov_eqi {i j : Int} : OV c rEq (.int i) (.int j) (.bool (decide (i = j))) := fun F H v u s r1 r2 Q q => by
  cases r1; cases r2
  refine ⟨rfl, ?_⟩
  have e : decide (V.int i = V.int j) = decide (i = j) := by simp
  rw [e]
  exact q _ F H (Gr.refl s) (.bl _)
theorem ov_eqs {i j : Str} : OV c rEq (.str i) (.str j) (.bool (decide (i = j))) := fun F H v u s r1 r2 Q q => by
  cases r1; cases r2
  refine ⟨rfl, ?_⟩
  have e : decide (V.str i = V.str j) = decide (i = j) := by simp
  rw [e]
  exact q _ F H (Gr.refl s) (.bl _)
theorem ov_nei {i j : Int} : OV c rNe (.int i) (.int j) (.bool (!decide (i = j))) := fun F H v u s r1 r2 Q q => by
  cases r1; cases r2
  refine ⟨rfl, ?_⟩
  have e : decide (V.int i = V.int j) = decide (i = j) := by simp
  rw [e]
  exact q _ F H (Gr.refl s) (.bl _)
theorem ov_nes {i j : Str} : OV c rNe (.str i) (.str j) (.bool (!decide (i = j))) := fun F H v u s r1 r2 Q q => by
  cases r1; cases r2
  refine ⟨rfl, ?_⟩
  have e : decide (V.str i = V.str j) = decide (i = j) := by simp
  rw [e]
  exact q _ F H (Gr.refl s) (.bl _)
/-- == and != of data -/
theorem ov_eqD (nx : noDict x = true) (ny : noDict y = true) (sx : SeqAt.shaped x = true) (sy : SeqAt.shaped y = true) : OV c (rEqD c.K) x y (.bool (PyData.eqv x y)) := fun F H v u s r1 r2 Q q =>
  ⟨x, y, (r1.mono s).dp nx, (r2.mono s).dp ny, sx, sy, q _ F H (Gr.refl s) (.bl _)⟩
theorem ov_neD (nx : noDict x = true) (ny : noDict y = true) (sx : SeqAt.shaped x = true) (sy : SeqAt.shaped y = true) : OV c (rNeD c.K) x y (.bool (!PyData.eqv x y)) := fun F H v u s r1 r2 Q q =>
  ⟨x, y, (r1.mono s).dp nx, (r2.mono s).dp ny, sx, sy, q _ F H (Gr.refl s) (.bl _)⟩
def isNone : PyData → Bool
  | .none => true
  | _ => false
theorem ov_isN : OV c (fun x y H Q => y = .non ∧ Q (.bl (decide (x = .non))) H) x .none (.bool (isNone x)) := fun F H v u s r1 r2 Q q => by
  cases r2
  refine ⟨rfl, ?_⟩
  have e : decide (v = .non) = isNone x := by
    cases r1 <;> first | rfl | exact decide_eq_false (fun z => nomatch z)
  rw [e]
  exact q _ F H (Gr.refl s) (.bl _)
theorem ov_notN : OV c (fun x y H Q => y = .non ∧ Q (.bl (!decide (x = .non))) H) x .none (.bool (!isNone x)) := fun F H v u s r1 r2 Q q => by
  cases r2
  refine ⟨rfl, ?_⟩
  have e : decide (v = .non) = isNone x := by
    cases r1 <;> first | rfl | exact decide_eq_false (fun z => nomatch z)
  rw [e]
  exact q _ F H (Gr.refl s) (.bl _)
theorem ov_isB {a b : Bool} : OV c rIsB (.bool a) (.bool b) (.bool (decide (a = b))) := fun F H v u s r1 r2 Q q => by
  cases r1; cases r2
  exact ⟨a, b, rfl, rfl, q _ F H (Gr.refl s) (.bl _)⟩
/-! subscripts -/
theorem atI_all {K : PySem.W.Frag} {F : Hp} {vs : List V} (h : RpAll K F vs ds) {i : Int} (e : atI ds i = some d) : ∃ v, atI vs i = some v ∧ Rp K F v d := by
  unfold atI at e ⊢
  rw [h.length]
  cases hx : ixN ds.length i with
  | none => rw [hx] at e; cases e
  | some j =>
    rw [hx] at e
    exact h.get (i := j) e
theorem ov_ixT {i : Int} (e : atI ds i = some d) : OV c (rIxT c.K) (.tuple ds) (.int i) d := fun F H v u s r1 r2 Q q => by
  cases r2
  cases r1 with
  | tup h r =>
    obtain ⟨z, e1, rz⟩ := atI_all r e
    exact ⟨_, _, i, z, rfl, rfl, same_t s h, e1, q z F H (Gr.refl s) rz⟩
theorem ov_ixL {i : Int} (e : atI ds i = some d) : OV c (rIxL c.K) (.list ds) (.int i) d := fun F H v u s r1 r2 Q q => by
  cases r2
  cases r1 with
  | lst h r =>
    obtain ⟨z, e1, rz⟩ := atI_all r e
    exact ⟨_, _, i, z, rfl, rfl, same_l s h, e1, q z F H (Gr.refl s) rz⟩
theorem ov_ixS {z : Str} {i : Int} {n : Nat} (hz : z.length ≤ 100000) (e : atI z.cps.toList i = some n) : OV c rIxS (.str z) (.int i) (.str ⟨#[n]⟩) := fun F H v u s r1 r2 Q q => by
  cases r1; cases r2
  exact ⟨z, i, n, rfl, rfl, small hz, e, q _ F H (Gr.refl s) (.str _)⟩
/-! slices of a tuple -/
def cutD (ds : List PyData) (lo hi : Option Int) : List PyData := (ds.drop (HT.sIx ds.length 0 lo)).take (HT.sIx ds.length ds.length hi - HT.sIx ds.length 0 lo)
def EO (c : Wd) (to : TO) (ρ : List Sl) (o : Option Int) : Prop := ∀ (F0 H0 F H : Hp) (σ : L2.St), Good c.P c.w c.K c.B F0 H0 F H σ ρ → ∀ Q : Option Int → Hp → Prop, (∀ F' H', Gr F H F' H' → Q o H') → to σ H Q
theorem eo_none : EO c tNoPart ρ none := fun F0 H0 F H σ g Q q => q F H (Gr.refl g.sm)
theorem eo_some {i : Int} (h : EV c te ρ (.int i)) : EO c (tPart te) ρ (some i) := fun F0 H0 F H σ g Q q => h F0 H0 F H σ g _ fun v F1 H1 g1 r1 => by
  cases r1
  exact ⟨i, rfl, q F1 H1 g1⟩
theorem cut_all {K : PySem.W.Frag} {F : Hp} {vs : List V} (h : RpAll K F vs ds) (lo hi : Option Int) : RpAll K F (cutV vs lo hi) (cutD ds lo hi) := by
  unfold cutV cutD
  rw [h.length]
  exact (h.drop _).take _
theorem ev_slT {tl th : TO} {lo hi : Option Int} (h : EV c te ρ (.tuple ds)) (hl : EO c tl ρ lo) (hh : EO c th ρ hi) : EV c (tSl (rSlA c.K) te tl th) ρ (.tuple (cutD ds lo hi)) := fun F0 H0 F H σ g Q q =>
  h F0 H0 F H σ g _ fun v F1 H1 g1 r1 => hl F0 H0 F1 H1 σ (g.grow g1) _ fun F2 H2 g2 => hh F0 H0 F2 H2 σ ((g.grow g1).grow g2) _ fun F3 H3 g3 => by
    have G := (g1.trans g2).trans g3
    cases r1 with
    | @tup a xs _ hr r =>
      have r3 := r.mono (g2.ff.trans g3.ff)
      have h3 : SqT c.K F3 a xs := same_t (g2.ff.trans g3.ff) hr
      refine ⟨a, xs, rfl, same_t g3.fh h3, fun hw => ?_, fun _ p np => ?_⟩
      · have e : cutD ds lo hi = ds := by
          unfold cutD
          rw [r.length] at hw
          rw [hw.1, hw.2, List.drop_zero, Nat.sub_zero, List.take_length]
        exact q _ F3 H3 G (by rw [e]; exact .tup h3 r3)
      · have gl := Gr.laid (o := .tup (cutV xs lo hi)) g3.fh np
        exact q _ _ _ (G.trans gl) (.tup (.inl (.inl upd_same)) ((cut_all r3 lo hi).mono gl.ff))
theorem ov_catT (hz : xs.length + ys.length ≤ 100000) : OV c (rCatA c.K) (.tuple xs) (.tuple ys) (.tuple (xs ++ ys)) := fun F H v u s r1 r2 Q q => by
  cases r1 with
  | @tup a vs _ h1 q1 =>
    cases r2 with
    | @tup b us _ h2 q2 =>
      refine ⟨a, b, vs, us, rfl, rfl, same_t s h1, same_t s h2, small (by rw [q1.length, q2.length]; exact hz), fun e => ?_, fun _ e => ?_, fun _ _ p np => ?_⟩
      · subst e; cases q1; exact q _ F H (Gr.refl s) (.tup h2 q2)
      · subst e; cases q2; exact q _ F H (Gr.refl s) (by rw [List.append_nil]; exact .tup h1 q1)
      · have gl := Gr.laid (o := .tup (vs ++ us)) s np
        exact q _ _ _ gl (.tup (.inl (.inl upd_same)) ((q1.append q2).mono gl.ff))
theorem ov_adds {i j : Str} (hz : i.length + j.length ≤ 100000) : OV c (fun x y H Q => ∃ i j, x = .str i ∧ y = .str j ∧ i.length + j.length ≤ sizeLine ∧ Q (.str (i ++ j)) H) (.str i) (.str j) (.str (i ++ j)) := fun F H v u s r1 r2 Q q => by
  cases r1; cases r2
  exact ⟨i, j, rfl, rfl, small hz, q _ F H (Gr.refl s) (.str _)⟩
/-- two new lists joined -/
theorem el_cat (ha : EL c ta ρ xs) (hb : EL c tb ρ ys) (hz : xs.length + ys.length ≤ 100000) : EL c (tOp rCat ta tb) ρ (xs ++ ys) := fun F0 H0 F H σ g Q q =>
  ha F0 H0 F H σ g _ fun p vs F1 H1 g1 np nf hp r1 => hb F0 H0 F1 H1 σ (g.grow g1) _ fun p2 us F2 H2 g2 np2 nf2 hp2 r2 =>
    ⟨p, p2, vs, us, rfl, rfl, g2.hh p _ hp, hp2, small (by rw [r1.length, r2.length]; exact hz), fun l nl =>
      have gl := Gr.own (o := .lst (vs ++ us)) g2.fh nl
      q l _ _ _ ((g1.trans g2).trans gl) ((g1.trans g2).free nl) (same_free g2.fh nl) upd_same ((r1.mono g2.ff).append r2)⟩
/-! in -/
def hasS (ss : List Str) (a : Str) : Bool := ss.any fun s => decide (s = a)
theorem hasS_iff {ss : List Str} {a : Str} : hasS ss a = true ↔ a ∈ ss := by
  unfold hasS
  rw [List.any_eq_true]
  constructor
  · rintro ⟨s, h, e⟩
    rw [← of_decide_eq_true e]; exact h
  · intro h
    exact ⟨a, h, decide_eq_true rfl⟩
theorem hasS_not {ss : List Str} {a : Str} : hasS ss a = false ↔ a ∉ ss := by
  rw [← Bool.not_eq_true, hasS_iff]
theorem eqV_str (a b : Str) : eqV (.str a) (.str b) = decide (a = b) := by
  show (a == b) = decide (a = b)
  rw [Bool.eq_iff_iff]
  simp
theorem inV_strs (a : Str) : ∀ ss : List Str, inV (.str a) (ss.map V.str) = hasS ss a
  | [] => rfl
  | s :: ss => by
    have ih := inV_strs a ss
    unfold inV hasS at ih ⊢
    rw [List.map_cons, List.any_cons, List.any_cons, ih, eqV_str]
theorem flat_strs (ss : List Str) : (ss.map V.str).all flatV = true := by
  rw [List.all_eq_true]
  intro v hv
  obtain ⟨s, _, rfl⟩ := List.mem_map.mp hv
  rfl
theorem ov_inL {neg : Bool} {a : Str} {ss : List Str} : OV c (rIn c.K neg) (.str a) (.list (ss.map .str)) (.bool (if neg then !hasS ss a else hasS ss a)) := fun F H v u s r1 r2 Q q => by
  cases r1
  cases r2 with
  | @lst b vs _ h r =>
    have e := strs_of r
    subst e
    refine ⟨b, _, rfl, .inl (same_l s h), rfl, flat_strs ss, ?_⟩
    rw [inV_strs]
    exact q _ F H (Gr.refl s) (.bl _)
theorem ov_inT {neg : Bool} {a : Str} {ss : List Str} : OV c (rIn c.K neg) (.str a) (.tuple (ss.map .str)) (.bool (if neg then !hasS ss a else hasS ss a)) := fun F H v u s r1 r2 Q q => by
  cases r1
  cases r2 with
  | @tup b vs _ h r =>
    have e := strs_of r
    subst e
    refine ⟨b, _, rfl, .inr (same_t s h), rfl, flat_strs ss, ?_⟩
    rw [inV_strs]
    exact q _ F H (Gr.refl s) (.bl _)
/-! ### built-ins -/
theorem rpAll1 {K : PySem.W.Frag} {F : Hp} {vs : List V} (h : RpAll K F vs [x]) : ∃ v, vs = [v] ∧ Rp K F v x := by
  cases h with
  | cons h t => cases t; exact ⟨_, rfl, h⟩
theorem rpAll2 {K : PySem.W.Frag} {F : Hp} {vs : List V} (h : RpAll K F vs [x, y]) : ∃ v u, vs = [v, u] ∧ Rp K F v x ∧ Rp K F u y := by
  cases h with
  | cons h t =>
    obtain ⟨u, rfl, r⟩ := rpAll1 t
    exact ⟨_, _, rfl, h, r⟩
theorem cv_lenL : CV c (fun xs H Q => ∃ p ys, xs = [.ref p] ∧ (SqL c.K H p ys ∨ SqT c.K H p ys) ∧ Q (.int ys.length) H) [.list ds] (.int ds.length) := fun F H vs s r Q q => by
  obtain ⟨v, rfl, r1⟩ := rpAll1 r
  cases r1 with
  | @lst a xs _ h r => exact ⟨a, xs, rfl, .inl (same_l s h), by rw [r.length]; exact q _ F H (Gr.refl s) (.int _)⟩
theorem cv_lenT : CV c (fun xs H Q => ∃ p ys, xs = [.ref p] ∧ (SqL c.K H p ys ∨ SqT c.K H p ys) ∧ Q (.int ys.length) H) [.tuple ds] (.int ds.length) := fun F H vs s r Q q => by
  obtain ⟨v, rfl, r1⟩ := rpAll1 r
  cases r1 with
  | @tup a xs _ h r => exact ⟨a, xs, rfl, .inr (same_t s h), by rw [r.length]; exact q _ F H (Gr.refl s) (.int _)⟩
theorem cl_listL : CL c (fun xs H Q => ∃ p ys, xs = [.ref p] ∧ (SqL c.K H p ys ∨ SqT c.K H p ys) ∧ ∀ l, H l = none → Q (.ref l) (upd H l (.lst ys))) [.list ds] ds := fun F H vs s r Q q => by
  obtain ⟨v, rfl, r1⟩ := rpAll1 r
  cases r1 with
  | @lst a xs _ h r => exact ⟨a, xs, rfl, .inl (same_l s h), fun l nl => q l xs _ _ (Gr.own s nl) nl (same_free s nl) upd_same r⟩
theorem cl_listT : CL c (fun xs H Q => ∃ p ys, xs = [.ref p] ∧ (SqL c.K H p ys ∨ SqT c.K H p ys) ∧ ∀ l, H l = none → Q (.ref l) (upd H l (.lst ys))) [.tuple ds] ds := fun F H vs s r Q q => by
  obtain ⟨v, rfl, r1⟩ := rpAll1 r
  cases r1 with
  | @tup a xs _ h r => exact ⟨a, xs, rfl, .inr (same_t s h), fun l nl => q l xs _ _ (Gr.own s nl) nl (same_free s nl) upd_same r⟩
theorem cv_tupleL : CV c (fun xs H Q => ∃ p ys, xs = [.ref p] ∧ ((SqL c.K H p ys ∧ ∀ l, H l = none → Q (.ref l) (upd H l (.tup ys))) ∨ (SqT c.K H p ys ∧ Q (.ref p) H))) [.list ds] (.tuple ds) := fun F H vs s r Q q => by
  obtain ⟨v, rfl, r1⟩ := rpAll1 r
  cases r1 with
  | @lst a xs _ h r => exact ⟨a, xs, rfl, .inl ⟨same_l s h, fun l nl => by
      have gl := Gr.laid (o := .tup xs) s nl
      exact q _ _ _ gl (.tup (.inl (.inl upd_same)) (r.mono gl.ff))⟩⟩
theorem cv_min2 {i j : Int} : CV c (fun xs H Q => ∃ i j, xs = [.int i, .int j] ∧ Q (.int (if j < i then j else i)) H) [.int i, .int j] (.int (if j < i then j else i)) := fun F H vs s r Q q => by
  obtain ⟨v, u, rfl, r1, r2⟩ := rpAll2 r
  cases r1; cases r2
  exact ⟨i, j, rfl, q _ F H (Gr.refl s) (.int _)⟩
theorem cv_str {i : Int} (h : i.natAbs.log2 < 1920) : CV c (fun xs H Q => ∃ i, xs = [.int i] ∧ i.natAbs.log2 < 1920 ∧ Q (.str (toString i)) H) [.int i] (.str (toString i)) := fun F H vs s r Q q => by
  obtain ⟨v, rfl, r1⟩ := rpAll1 r
  cases r1
  exact ⟨i, rfl, h, q _ F H (Gr.refl s) (.str _)⟩
/-- isinstance(x, T), T written -/
def tyD : PyData → String
  | .none => "NoneType"
  | .bool _ => "bool"
  | .int _ => "int"
  | .str _ => "str"
  | .list _ => "list"
  | .tuple _ => "tuple"
  | .dict _ => "dict"
theorem rp_ty {K : PySem.W.Frag} {H : Hp} {v : V} (r : Rp K H v x) : TyX K H v (.type (tyD x)) := by
  cases r with
  | non => exact .base .non
  | bl b => exact .base (.bl b)
  | int i => exact .base (.int i)
  | str s => exact .base (.str s)
  | lst h r =>
    rcases h with (h | ⟨o, h⟩) | ⟨o, _, _, h, k, _⟩
    · exact .base (.lst h)
    · exact .base (.frz h)
    · exact .kList h k
  | tup h r =>
    rcases h with (h | ⟨o, h⟩) | ⟨o, _, _, h, k, _⟩
    · exact .base (.tup h)
    · exact .fTuple h
    · exact .kTuple h k
  | dic h r =>
    rcases h with h | ⟨o, h⟩
    · exact .base (.dK h)
    · exact .fDict h
theorem ev_isi {T : String} {b : Bool} (h : EV c te ρ x) (hb : kitB (tyD x) T = some b) : EV c (tCB (rIsi c.K) (tCons te (tCons (tC (.ty T)) tNil))) ρ (.bool b) := fun F0 H0 F H σ g Q q =>
  h F0 H0 F H σ g _ fun v F1 H1 g1 r1 => ⟨v, .ty T, .type (tyD x), .type T, b, rfl, .ty T, rp_ty (r1.mono g1.fh), kit_ty hb, q _ F1 H1 g1 (.bl _)⟩
end
end DL

set_option maxHeartbeats 4000000
namespace DL
open PySem L2

/-! ### sorted -/
def sortD (ds : List PyData) : List PyData := ds.mergeSort (PySem.W.dataLe false id)
def rSortD (K : PySem.W.Frag) : List V → Hp → VK → Prop := fun vs H Q => ∃ (a : Addr) (xs : List V) (ds : List PyData), vs = [V.ref a] ∧ SqL K H a xs ∧ DpAll K H xs ds ∧ PySem.W.AllAlike ds ∧ PySem.W.Sortable ds ∧ ds.length ≤ sizeLine ∧ (∀ d ∈ ds, d.depth ≤ 60) ∧
  ∀ (zs : List (V × PyData)) (p : Addr), zs.Perm (xs.zip ds) → zs.map (·.2) = sortD ds → H p = none → Q (.ref p) (upd H p (.lst (zs.map (·.1))))
theorem dpAll_length {K : PySem.W.Frag} {H : Hp} : ∀ {xs : List V} {ds : List PyData}, DpAll K H xs ds → xs.length = ds.length
  | [], _, h => by cases h; rfl
  | x :: xs, _, h => by
    cases h with
    | cons h t => rw [List.length_cons, List.length_cons, dpAll_length t]
theorem each_rel {K : PySem.W.Frag} {H : Hp} : ∀ {xs : List V} {us : List Value} {ds : List PyData}, Vals xs us → DpAll K H xs ds → PySem.W.EachIs (fun (u : Value) (b : V × PyData) => RelV b.1 u) us (xs.zip ds)
  | _, _, _, .nil, h => by cases h; exact .nil
  | _, _, _, .cons r t, h => by
    cases h with
    | cons h q => exact .cons r (each_rel t q)
theorem each_reads {X : Cx} {pins : List (Addr × Obj)} {σ : L2.St} {H : Hp} {s : Shared} (I : Inv X pins σ H s) : ∀ {xs : List V} {us : List Value} {ds : List PyData}, Vals xs us → DpAll X.K H xs ds →
    PySem.W.EachIs (fun (u : Value) (b : V × PyData) => ∃ as, Reads s.heap u b.2 as) us (xs.zip ds)
  | _, _, _, .nil, h => by cases h; exact .nil
  | _, _, _, .cons r t, h => by
    cases h with
    | cons h q => exact .cons (Dp.reads I _ _ _ h r) (each_reads I t q)
theorem vals_each : ∀ {us : List Value} {zs : List (V × PyData)}, PySem.W.EachIs (fun (u : Value) (b : V × PyData) => RelV b.1 u) us zs → Vals (zs.map (·.1)) us
  | _, _, .nil => .nil
  | _, _, .cons r t => .cons r (vals_each t)
theorem zip_snd {xs : List V} {ds : List PyData} (h : xs.length = ds.length) : (xs.zip ds).map (·.2) = ds := List.map_snd_zip (by omega)
theorem cr_sortD {X : Cx} {k : Nat} (hr : Room k X.A) : CallR X (.builtin "sorted") (rSortD X.K) := by
  intro pins s σ H vs us Q I r h
  obtain ⟨a, xs, ds, rfl, hs, hd, hal, hk, hL, hu, q⟩ := h
  obtain ⟨its, rv, hl, _⟩ := I.list hs
  rw [Vals.ref1 r]
  have hlen := dpAll_length hd
  have esnd : (xs.zip ds).map (·.2) = ds := zip_snd hlen
  refine PySem.W.sorted_data (bs := xs.zip ds) (enc := fun b => b.2) (R := fun u b => RelV b.1 u) hl.isList (each_rel rv hd) (each_reads I rv hd) (by rw [esnd]; exact hal) (by rw [esnd]; exact hk) (by rw [List.length_zip]; omega) (fun b hb => ?_) fun out ho eo => ?_
  · have h1 := hu b.2 (by rw [← esnd]; exact List.mem_map.mpr ⟨b, hb, rfl⟩)
    have h2 := hr.units
    omega
  · obtain ⟨ep, he'⟩ := PyProof.Rows.sortedAll_at s.heap its out.toArray
    have hv := vals_each eo
    have hz : ((xs.zip ds).mergeSort (PySem.W.dataLe false fun b => b.2)).length ≤ sizeLine := by rw [List.length_mergeSort, List.length_zip]; omega
    have em : ((xs.zip ds).mergeSort (PySem.W.dataLe false fun b => b.2)).map (·.2) = sortD ds := by
      have z := PySem.W.sort_maps (r := PySem.W.dataLe false fun b : V × PyData => b.2) (s := PySem.W.dataLe false id) (fun b : V × PyData => b.2) (l := xs.zip ds) (fun a _ b _ => rfl)
      rw [esnd] at z
      exact z
    exact ⟨.ref _, upd H (s.heap.objs.size + 1) (.lst (((xs.zip ds).mergeSort (PySem.W.dataLe false fun b => b.2)).map (·.1))),
      I.laid (t' := s.toks) (fun _ _ => PyProof.Rows.sortedAll_old) (Nat.le_succ _) ⟨by rw [List.length_map]; exact hz, out, ep, hv, he'⟩, rfl, q _ _ (List.mergeSort_perm _ _) em (I.hok.fresh (Nat.le_succ _))⟩
/-- < of data that are alike -/
def rLtD (K : PySem.W.Frag) : R2 := fun x y H Q => ∃ d e, Dp K H x d ∧ Dp K H y e ∧ PySem.W.alike d e = true ∧ d ≠ .none ∧ d.depth ≤ 60 ∧ Q (.bl (PySem.W.dataLt d e)) H
theorem op_ltD {X : Cx} {k : Nat} (hr : Room k X.A) : OpR X (compareOp .Lt) (rLtD X.K) := by
  intro pins s σ H x y v u Q I rx ry h
  obtain ⟨d, e, hd, he, hal, hn, hz, q⟩ := h
  obtain ⟨as, r1⟩ := Dp.reads I d x v hd rx
  obtain ⟨bs, r2⟩ := Dp.reads I e y u he ry
  have h2 := hr.units
  exact PySem.W.rcLt_alike d e X.A s v u as bs r1 r2 hal hn (by omega) X.prog X.w _ _ ⟨.bl _, H, I, rfl, q⟩

section
variable {c : Wd} {te ta tb tx td tk tl : TE} {tt tu : TT} {tas : TA} {ρ : List Sl} {d x y : PyData} {ds xs ys : List PyData} {r : R2}
theorem ov_ltD (nx : noDict x = true) (ny : noDict y = true) (hal : PySem.W.alike x y = true) (hn : x ≠ .none) (hz : x.depth ≤ 60) : OV c (rLtD c.K) x y (.bool (PySem.W.dataLt x y)) := fun F H v u s r1 r2 Q q =>
  ⟨x, y, (r1.mono s).dp nx, (r2.mono s).dp ny, hal, hn, hz, q _ F H (Gr.refl s) (.bl _)⟩
theorem zip_rp {K : PySem.W.Frag} {F : Hp} {vs : List V} (r : RpAll K F vs ds) : ∀ p ∈ vs.zip ds, Rp K F p.1 p.2 := fun p hp => by
  obtain ⟨i, hi⟩ := List.getElem?_of_mem hp
  rw [List.getElem?_zip_eq_some] at hi
  obtain ⟨dd, e, rr⟩ := r.getV hi.1
  rw [hi.2] at e
  cases e
  exact rr
theorem rp_map {K : PySem.W.Frag} {F : Hp} : ∀ {zs : List (V × PyData)}, (∀ p ∈ zs, Rp K F p.1 p.2) → RpAll K F (zs.map (·.1)) (zs.map (·.2))
  | [], _ => .nil
  | z :: zs, h => .cons (h z List.mem_cons_self) (rp_map fun p hp => h p (List.mem_cons_of_mem _ hp))
theorem cl_sort (nx : noDictAll ds = true) (hal : PySem.W.AllAlike ds) (hk : PySem.W.Sortable ds) (hL : ds.length ≤ 100000) (hu : ∀ d ∈ ds, d.depth ≤ 60) : CL c (rSortD c.K) [.list ds] (sortD ds) := fun F H vs s r Q q => by
  obtain ⟨v, rfl, r1⟩ := rpAll1 r
  cases r1 with
  | @lst a xs _ h r =>
    refine ⟨a, xs, ds, rfl, same_l s h, RpAll.dp nx (r.mono s), hal, hk, small hL, hu, fun zs p hp em np => ?_⟩
    refine q p _ F _ (Gr.own s np) np (same_free s np) upd_same ?_
    rw [← em]
    exact rp_map fun z hz => zip_rp r z (hp.mem_iff.mp hz)
/-- the sorted of texts -/
theorem strs_noDict : ∀ ss : List Str, noDictAll (ss.map PyData.str) = true
  | [] => rfl
  | s :: ss => by
    rw [List.map_cons]
    show (noDict (.str s) && noDictAll (ss.map PyData.str)) = true
    rw [strs_noDict ss]
    rfl
theorem cl_sortS {ss : List Str} (hL : ss.length ≤ 100000) : CL c (rSortD c.K) [.list (ss.map .str)] (sortD (ss.map .str)) :=
  cl_sort (strs_noDict ss) (PySem.W.AllAlike.of fun _ _ => rfl) (PySem.W.Sortable.others fun b => ⟨(fun z => nomatch z), (fun _ z => nomatch z)⟩) (by rw [List.length_map]; exact hL) (fun d hd => by
    obtain ⟨s, _, rfl⟩ := List.mem_map.mp hd
    simp [PyData.depth])

/-! ### dicts -/
def gV {α : Type} (kvs : List (Key × α)) (k : Key) : Option α := (kvs.find? fun kv => decide (kv.1 = k)).map (·.2)
def putD {α : Type} (kvs : List (Key × α)) (k : Key) (v : α) : List (Key × α) :=
  if (kvs.any fun kv => decide (kv.1 = k)) = true then kvs.map (fun kv => if kv.1 = k then (kv.1, v) else kv) else kvs ++ [(k, v)]
theorem gV_nil {α : Type} {k : Key} : gV ([] : List (Key × α)) k = none := rfl
theorem gV_cons {α : Type} (p : Key × α) (r : List (Key × α)) (k : Key) : gV (p :: r) k = if p.1 = k then some p.2 else gV r k := by
  unfold gV
  rw [List.find?_cons]
  by_cases e : p.1 = k
  · rw [if_pos e, decide_eq_true e]; rfl
  · rw [if_neg e, decide_eq_false e]
theorem kv_get {K : PySem.W.Frag} {F : Hp} {k : Key} : ∀ {ks : List (Key × V)} {kvs : List (Key × PyData)}, RpKV K F ks kvs → (∃ v d, valV ks k = some v ∧ gV kvs k = some d ∧ Rp K F v d) ∨ (valV ks k = none ∧ gV kvs k = none)
  | _, _, .nil => .inr ⟨rfl, rfl⟩
  | _, _, .cons (k := j) (v := v) (d := d) h t => by
    rw [gV_cons]
    by_cases e : j = k
    · rw [valV_pos (show (j, v).1 = k from e), if_pos (show (j, d).1 = k from e)]
      exact .inl ⟨_, _, rfl, rfl, h⟩
    · rw [valV_neg (show ¬ (j, v).1 = k from e), if_neg (show ¬ (j, d).1 = k from e)]
      exact kv_get t
theorem kv_any {K : PySem.W.Frag} {F : Hp} {k : Key} : ∀ {ks : List (Key × V)} {kvs : List (Key × PyData)}, RpKV K F ks kvs → (ks.any fun kv => decide (kv.1 = k)) = kvs.any fun kv => decide (kv.1 = k)
  | _, _, .nil => rfl
  | _, _, .cons h t => by rw [List.any_cons, List.any_cons, kv_any t]
theorem kv_repl {K : PySem.W.Frag} {F : Hp} {k : Key} {v : V} {d : PyData} (r : Rp K F v d) : ∀ {ks : List (Key × V)} {kvs : List (Key × PyData)}, RpKV K F ks kvs → RpKV K F (ks.map fun kv => if kv.1 = k then (kv.1, v) else kv) (kvs.map fun kv => if kv.1 = k then (kv.1, d) else kv)
  | _, _, .nil => .nil
  | _, _, .cons (k := j) (v := w) (d := e) h t => by
    rw [List.map_cons, List.map_cons]
    by_cases q : j = k
    · rw [if_pos (show (j, w).1 = k from q), if_pos (show (j, e).1 = k from q)]
      exact .cons r (kv_repl r t)
    · rw [if_neg (show ¬ (j, w).1 = k from q), if_neg (show ¬ (j, e).1 = k from q)]
      exact .cons h (kv_repl r t)
theorem kv_snoc {K : PySem.W.Frag} {F : Hp} {k : Key} {v : V} {d : PyData} (r : Rp K F v d) : ∀ {ks : List (Key × V)} {kvs : List (Key × PyData)}, RpKV K F ks kvs → RpKV K F (ks ++ [(k, v)]) (kvs ++ [(k, d)])
  | _, _, .nil => .cons r .nil
  | _, _, .cons h t => .cons h (kv_snoc r t)
theorem kv_put {K : PySem.W.Frag} {F : Hp} {k : Key} {v : V} {d : PyData} {ks : List (Key × V)} {kvs : List (Key × PyData)} (h : RpKV K F ks kvs) (r : Rp K F v d) : RpKV K F (putK ks k v) (putD kvs k d) := by
  unfold putK putD
  rw [kv_any h]
  by_cases e : (kvs.any fun kv => decide (kv.1 = k)) = true
  · rw [if_pos e, if_pos e]; exact kv_repl r h
  · rw [if_neg e, if_neg e]; exact kv_snoc r h
theorem kv_length {K : PySem.W.Frag} {F : Hp} : ∀ {ks : List (Key × V)} {kvs : List (Key × PyData)}, RpKV K F ks kvs → ks.length = kvs.length
  | _, _, .nil => rfl
  | _, _, .cons h t => by rw [List.length_cons, List.length_cons, kv_length t]
theorem dg_of {H : Hp} {a : Addr} {ks : List (Key × V)} {k : Key} (h : Rd H a (.dK ks)) : DGet H a (kV k) (valV ks k) := .inl ⟨ks, k, h, rfl, rfl⟩
theorem key_val {K : PySem.W.Frag} {F : Hp} {v : V} {k : Key} (h : Rp K F v (kD k)) : v = kV k := by
  cases k with
  | inl i => exact h.val rfl
  | inr s => exact h.val rfl
abbrev dicD (kvs : List (Key × PyData)) : PyData := .dict (kvs.map fun p => (kD p.1, p.2))
/-- the reading of a dict gives its pairs back -/
theorem dic_inv {K : PySem.W.Frag} {F : Hp} {v : V} {kvs : List (Key × PyData)} (h : Rp K F v (dicD kvs)) : ∃ a ks, v = .ref a ∧ Rd F a (.dK ks) ∧ RpKV K F ks kvs := by
  generalize e : dicD kvs = dd at h
  cases h with
  | @dic a ks es hr r =>
    have e2 : kvs.map (fun p => (kD p.1, p.2)) = es.map (fun p => (kD p.1, p.2)) := PyData.dict.inj e
    have kinj : ∀ {a b : Key}, kD a = kD b → a = b := fun {a b} q => by
      cases a <;> cases b <;> first | (cases q; rfl) | cases q
    have e3 : kvs = es := by
      clear r hr e
      induction kvs generalizing es with
      | nil => cases es with
        | nil => rfl
        | cons _ _ => cases e2
      | cons p kvs ih =>
        cases es with
        | nil => cases e2
        | cons q es =>
          obtain ⟨h1, h2⟩ := List.cons.inj e2
          obtain ⟨p1, p2⟩ := p
          obtain ⟨q1, q2⟩ := q
          obtain ⟨h3, h4⟩ := Prod.mk.inj h1
          rw [show p1 = q1 from kinj h3, show p2 = q2 from h4, ih h2]
    subst e3
    exact ⟨a, ks, rfl, hr, r⟩
  | _ => cases e
theorem ev_dget {kvs : List (Key × PyData)} {k : Key} (h : EV c td ρ (dicD kvs)) (hk : EV c tk ρ (kD k)) (e : gV kvs k = some d) : EV c (tDGet td tk) ρ d := fun F0 H0 F H σ g Q q =>
  h F0 H0 F H σ g _ fun v F1 H1 g1 r1 => hk F0 H0 F1 H1 σ (g.grow g1) _ fun u F2 H2 g2 r2 => by
    obtain ⟨a, ks, rfl, hr, r⟩ := dic_inv r1
    rcases kv_get (k := k) r with ⟨z, d', e1, e2, rz⟩ | ⟨_, e2⟩
    · rw [e] at e2; cases e2
      rw [key_val r2]
      exact ⟨a, z, rfl, by rw [← e1]; exact dg_of (same_rd g2.fh (same_rd g2.ff hr)), q z F2 H2 (g1.trans g2) (rz.mono g2.ff)⟩
    · rw [e] at e2; cases e2
theorem ev_dgetO {i : Nat} {kvs : List (Key × PyData)} {k : Key} (hi : ρ[i]? = some (.od kvs)) (hk : EV c tk ρ (kD k)) (e : gV kvs k = some d) : EV c (tDGet (tVar i) tk) ρ d := fun F0 H0 F H σ g Q q => by
  obtain ⟨p, o, hσ, n0, nf, hp, ks, rfl, r⟩ := g.ow i _ hi rfl
  refine ⟨_, hσ, hk F0 H0 F H σ g _ fun u F2 H2 g2 r2 => ?_⟩
  rcases kv_get (k := k) r with ⟨z, d', e1, e2, rz⟩ | ⟨_, e2⟩
  · rw [e] at e2; cases e2
    rw [key_val r2]
    exact ⟨p, z, rfl, by rw [← e1]; exact dg_of (.inl (g2.hh p _ hp)), q z F2 H2 g2 (rz.mono g2.ff)⟩
  · rw [e] at e2; cases e2
theorem ev_din {kvs : List (Key × PyData)} {k : Key} (hk : EV c tk ρ (kD k)) (h : EV c td ρ (dicD kvs)) : EV c (tDIn tk td) ρ (.bool (gV kvs k).isSome) := fun F0 H0 F H σ g Q q =>
  hk F0 H0 F H σ g _ fun u F1 H1 g1 r1 => h F0 H0 F1 H1 σ (g.grow g1) _ fun v F2 H2 g2 r2 => by
    obtain ⟨a, ks, rfl, hr, r⟩ := dic_inv r2
    rw [key_val r1]
    refine ⟨a, valV ks k, rfl, dg_of (same_rd g2.fh hr), ?_⟩
    have e : (valV ks k).isSome = (gV kvs k).isSome := by
      rcases kv_get (k := k) r with ⟨z, d', e1, e2, rz⟩ | ⟨e1, e2⟩
      · rw [e1, e2]; rfl
      · rw [e1, e2]; rfl
    rw [e]
    exact q _ F2 H2 (g1.trans g2) (.bl _)
theorem ev_dnotin {kvs : List (Key × PyData)} {k : Key} (hk : EV c tk ρ (kD k)) (h : EV c td ρ (dicD kvs)) : EV c (tDNotIn tk td) ρ (.bool (!(gV kvs k).isSome)) := fun F0 H0 F H σ g Q q =>
  hk F0 H0 F H σ g _ fun u F1 H1 g1 r1 => h F0 H0 F1 H1 σ (g.grow g1) _ fun v F2 H2 g2 r2 => by
    obtain ⟨a, ks, rfl, hr, r⟩ := dic_inv r2
    rw [key_val r1]
    refine ⟨a, valV ks k, rfl, dg_of (same_rd g2.fh hr), ?_⟩
    have e : (valV ks k).isSome = (gV kvs k).isSome := by
      rcases kv_get (k := k) r with ⟨z, d', e1, e2, rz⟩ | ⟨e1, e2⟩
      · rw [e1, e2]; rfl
      · rw [e1, e2]; rfl
    rw [e]
    exact q _ F2 H2 (g1.trans g2) (.bl _)
/-- d.get(k, x), a flat answer -/
theorem ev_dget2 {kvs : List (Key × PyData)} {k : Key} (h : EV c td ρ (dicD kvs)) (hk : EV c tk ρ (kD k)) (hx : EV c tx ρ x) : EV c (tDGet2 td tk tx) ρ ((gV kvs k).getD x) := fun F0 H0 F H σ g Q q =>
  h F0 H0 F H σ g _ fun v F1 H1 g1 r1 => by
    obtain ⟨a, ks, rfl, hr, r⟩ := dic_inv r1
    refine ⟨a, rfl, .inl ⟨ks, same_rd g1.fh hr⟩, hk F0 H0 F1 H1 σ (g.grow g1) _ fun u F2 H2 g2 r2 => hx F0 H0 F2 H2 σ ((g.grow g1).grow g2) _ fun z F3 H3 g3 r3 => ?_⟩
    rw [key_val r2]
    refine ⟨valV ks k, dg_of (same_rd g3.fh (same_rd (g2.ff.trans g3.ff) hr)), ?_⟩
    refine q _ F3 H3 ((g1.trans g2).trans g3) ?_
    rcases kv_get (k := k) r with ⟨w, d', e1, e2, rz⟩ | ⟨e1, e2⟩
    · rw [e1, e2]; exact rz.mono (g2.ff.trans g3.ff)
    · rw [e1, e2]; exact r3
end
end DL

set_option maxHeartbeats 4000000
namespace DL
open PySem L2

/-- k follows from each state whose slots are as told; F0, H0: the def's entry -/
def W (c : Wd) (F0 H0 : Hp) (k : L2.St → Hp → Prop) (ρ : List Sl) : Prop := ∀ (F H : Hp) (σ : L2.St), Good c.P c.w c.K c.B F0 H0 F H σ ρ → k σ H
/-- some such state -/
def Kp (c : Wd) (F0 H0 : Hp) (P : List Sl → Prop) (σ : L2.St) (H : Hp) : Prop := ∃ F ρ, P ρ ∧ Good c.P c.w c.K c.B F0 H0 F H σ ρ
/-- targets -/
def TGt (c : Wd) (g : TG) (d : PyData) (ρ ρ' : List Sl) : Prop := ∀ (F0 H0 F H : Hp) (σ : L2.St) (v : V), Good c.P c.w c.K c.B F0 H0 F H σ ρ → Rp c.K F v d → ∀ k : L2.St → Hp → Prop, (∀ σ', Good c.P c.w c.K c.B F0 H0 F H σ' ρ' → k σ' H) → g v σ H k
def TGs' (c : Wd) (g : TGs) (ds : List PyData) (ρ ρ' : List Sl) : Prop := ∀ (F0 H0 F H : Hp) (σ : L2.St) (vs : List V), Good c.P c.w c.K c.B F0 H0 F H σ ρ → RpAll c.K F vs ds → ∀ k : L2.St → Hp → Prop, (∀ σ', Good c.P c.w c.K c.B F0 H0 F H σ' ρ' → k σ' H) → g vs σ H k

section
variable {c : Wd} {F0 H0 : Hp} {te ta tb tx td tk tl : TE} {tt tu : TT} {tas : TA} {ρ ρ' ρ'' : List Sl} {d x y : PyData} {ds xs ys : List PyData} {D : Ends} {t u : TS} {k k' : L2.St → Hp → Prop} {g : TG} {gs : TGs}

theorem W.eq {ρ1 : List Sl} (h : W c F0 H0 k ρ) (e : ρ1 = ρ) : W c F0 H0 k ρ1 := e ▸ h
theorem w_K {P : List Sl → Prop} (h : P ρ) : W c F0 H0 (Kp c F0 H0 P) ρ := fun F H σ g => ⟨F, ρ, h, g⟩
theorem tg_name {i : Nat} : TGt c (gName i) d ρ (ρ.set i (.fz d)) := fun F0 H0 F H σ v g r k h => h _ (g.setFz r)
theorem tgs_nil : TGs' c gNil [] ρ ρ := fun F0 H0 F H σ v g r k h => by
  cases r
  exact ⟨rfl, h σ g⟩
theorem tgs_cons (h1 : TGt c g d ρ ρ') (h2 : TGs' c gs ds ρ' ρ'') : TGs' c (gCons g gs) (d :: ds) ρ ρ'' := fun F0 H0 F H σ vs gg r k h => by
  cases r with
  | cons r t => exact ⟨_, _, rfl, h1 F0 H0 F H σ _ gg r _ fun σ' g' => h2 F0 H0 F H σ' _ g' t k h⟩
theorem tg_tup {n : Nat} (h : TGs' c gs ds ρ ρ') (hn : ds.length = n) : TGt c (gTup c.K n gs) (.tuple ds) ρ ρ' := fun F0 H0 F H σ v g r k hk => by
  cases r with
  | tup h1 r1 => exact ⟨_, _, rfl, same_t g.sm h1, by rw [r1.length]; exact hn, h F0 H0 F H σ _ g r1 k hk⟩
theorem tg_tup2 {i j : Nat} {a b : PyData} : TGt c (gTup c.K 2 (gCons (gName i) (gCons (gName j) gNil))) (.tuple [a, b]) ρ ((ρ.set i (.fz a)).set j (.fz b)) := tg_tup (tgs_cons tg_name (tgs_cons tg_name tgs_nil)) rfl
theorem tg_tup3 {i j l : Nat} {a b e : PyData} : TGt c (gTup c.K 3 (gCons (gName i) (gCons (gName j) (gCons (gName l) gNil)))) (.tuple [a, b, e]) ρ (((ρ.set i (.fz a)).set j (.fz b)).set l (.fz e)) := tg_tup (tgs_cons tg_name (tgs_cons tg_name (tgs_cons tg_name tgs_nil))) rfl

/-! ### statements -/
theorem w_asgT (h : EV c te ρ d) (ht : TGt c g d ρ ρ') (hk : W c F0 H0 D.nx ρ') : W c F0 H0 (tAsg te g D) ρ := fun F H σ gd => h F0 H0 F H σ gd _ fun v F1 H1 g1 r1 => ht F0 H0 F1 H1 σ v (gd.grow g1) r1 D.nx fun σ' g' => hk F1 H1 σ' g'
theorem w_asg {i : Nat} (h : EV c te ρ d) (hk : W c F0 H0 D.nx (ρ.set i (.fz d))) : W c F0 H0 (tAsg te (gName i) D) ρ := w_asgT h tg_name hk
theorem w_asgL {i : Nat} (h : EL c te ρ ds) (hk : W c F0 H0 D.nx (ρ.set i (.ol ds))) : W c F0 H0 (tAsg te (gName i) D) ρ := fun F H σ gd => h F0 H0 F H σ gd _ fun p xs F1 H1 g1 np nf hp r => hk F1 H1 _ (gd.setOw rfl np g1 nf hp ⟨xs, rfl, r⟩)
theorem w_asgD {i : Nat} {kvs : List (Key × PyData)} (h : ED c te ρ kvs) (hk : W c F0 H0 D.nx (ρ.set i (.od kvs))) : W c F0 H0 (tAsg te (gName i) D) ρ := fun F H σ gd => h F0 H0 F H σ gd _ fun p xs F1 H1 g1 np nf hp r => hk F1 H1 _ (gd.setOw rfl np g1 nf hp ⟨xs, rfl, r⟩)
theorem w_asgS {i : Nat} (hk : W c F0 H0 D.nx (ρ.set i (.os (fun _ => false) 0))) : W c F0 H0 (tAsg (tCB (rSet0K c.P c.w) tNil) (gName i) D) ρ := fun F H σ gd =>
  ⟨rfl, fun p np => hk F _ _ (gd.setOw rfl np (Gr.own gd.sm np) (same_free gd.sm np) upd_same rfl)⟩
theorem w_if {b : Bool} (h : ET c tt ρ b) (h1 : b = true → W c F0 H0 (t D) ρ) (h2 : b = false → W c F0 H0 (u D) ρ) : W c F0 H0 (tIfS tt t u D) ρ := fun F H σ gd => h F0 H0 F H σ gd _ fun F1 H1 g1 => by
  cases b with
  | true => exact h1 rfl F1 H1 σ (gd.grow g1)
  | false => exact h2 rfl F1 H1 σ (gd.grow g1)
theorem w_next (hk : W c F0 H0 D.nx ρ) : W c F0 H0 (tNext D) ρ := hk
/-- an if whose two ways come to the same slots -/
theorem w_ifK {b : Bool} (ρ' : List Sl) (h : ET c tt ρ b) (h1 : b = true → W c F0 H0 D.nx ρ' → W c F0 H0 (t D) ρ) (h2 : b = false → W c F0 H0 D.nx ρ' → W c F0 H0 (u D) ρ) (hk : W c F0 H0 D.nx ρ') : W c F0 H0 (tIfS tt t u D) ρ :=
  w_if h (fun e => h1 e hk) (fun e => h2 e hk)
theorem w_ret (h : EV c te ρ d) (hk : ∀ v F' H', Gr F0 H0 F' H' → Rp c.K F' v d → D.rt v H') : W c F0 H0 (tRet te D) ρ := fun F H σ gd => h F0 H0 F H σ gd _ fun v F1 H1 g1 r1 => hk v F1 H1 (gd.gr.trans g1) r1
theorem w_retL (h : EL c te ρ ds) (hk : ∀ p xs F' H', Gr F0 H0 F' H' → H0 p = none → F' p = none → H' p = some (.lst xs) → RpAll c.K F' xs ds → D.rt (.ref p) H') : W c F0 H0 (tRet te D) ρ := fun F H σ gd =>
  h F0 H0 F H σ gd _ fun p xs F1 H1 g1 np nf hp r => hk p xs F1 H1 (gd.gr.trans g1) (gd.gr.free np) nf hp r
theorem w_retOL {i : Nat} (hi : ρ[i]? = some (.ol ds)) (hk : ∀ p xs F' H', Gr F0 H0 F' H' → H0 p = none → F' p = none → H' p = some (.lst xs) → RpAll c.K F' xs ds → D.rt (.ref p) H') : W c F0 H0 (tRet (tVar i) D) ρ := fun F H σ gd => by
  obtain ⟨p, o, hσ, n0, nf, hp, xs, rfl, r⟩ := gd.ow i _ hi rfl
  exact ⟨_, hσ, hk p xs F H gd.gr n0 nf hp r⟩
theorem w_retOD {i : Nat} {kvs : List (Key × PyData)} (hi : ρ[i]? = some (.od kvs)) (hk : ∀ p xs F' H', Gr F0 H0 F' H' → H0 p = none → F' p = none → H' p = some (.dK xs) → RpKV c.K F' xs kvs → D.rt (.ref p) H') : W c F0 H0 (tRet (tVar i) D) ρ := fun F H σ gd => by
  obtain ⟨p, o, hσ, n0, nf, hp, xs, rfl, r⟩ := gd.ow i _ hi rfl
  exact ⟨_, hσ, hk p xs F H gd.gr n0 nf hp r⟩
theorem w_drop (h : EV c te ρ d) (hk : W c F0 H0 D.nx ρ) : W c F0 H0 (tDrop te D) ρ := fun F H σ gd => h F0 H0 F H σ gd _ fun v F1 H1 g1 r1 => hk F1 H1 σ (gd.grow g1)
theorem w_aug {i : Nat} {f : Int → Int → Int} {a b : Int} (hi : ρ[i]? = some (.fz (.int a))) (h : EV c te ρ (.int b)) (hk : W c F0 H0 D.nx (ρ.set i (.fz (.int (f a b))))) : W c F0 H0 (tAug i te (ipI f) D) ρ := fun F H σ gd => by
  obtain ⟨v, hσ, r⟩ := gd.fz i _ hi
  cases r
  refine ⟨_, hσ, h F0 H0 F H σ gd _ fun v F1 H1 g1 r1 => ?_⟩
  cases r1
  exact ⟨a, b, rfl, rfl, hk F1 H1 _ ((gd.grow g1).setFz (.int _))⟩
/-- xs.append(e), xs the def's own -/
theorem w_app {i : Nat} (hi : ρ[i]? = some (.ol ds)) (h : EV c te ρ d) (hz : ds.length < 100000) (hk : W c F0 H0 D.nx (ρ.set i (.ol (ds ++ [d])))) : W c F0 H0 (tDrop (tBM c.K "list" rAppend (tVar i) (tCons te tNil)) D) ρ := fun F H σ gd => by
  obtain ⟨p, o, hσ, n0, nf, hp, xs, rfl, r⟩ := gd.ow i _ hi rfl
  refine ⟨_, hσ, .inl ⟨rfl, xs, .inl (.inl hp)⟩, h F0 H0 F H σ gd _ fun v F1 H1 g1 r1 => ?_⟩
  refine ⟨p, xs, v, rfl, rfl, g1.hh p _ hp, smallL (by rw [r.length]; exact hz), ?_⟩
  exact hk F1 _ σ ((gd.grow g1).change hi rfl rfl hσ (g1.hh p _ hp) ⟨_, rfl, (r.mono g1.ff).append (.cons r1 .nil)⟩)
/-- s.add(e) -/
theorem w_add {i : Nat} {S : Key → Bool} {n : Nat} {j : Key} (hi : ρ[i]? = some (.os S n)) (h : EV c te ρ (kD j)) (hz : n < 1000) (hk : W c F0 H0 D.nx (ρ.set i (.os (fun m => S m || decide (m = j)) (if S j = true then n else n + 1)))) :
    W c F0 H0 (tDrop (tSAddK c.P c.w (tVar i) (tCons te tNil)) D) ρ := fun F H σ gd => by
  obtain ⟨p, o, hσ, n0, nf, hp, ho⟩ := gd.ow i _ hi rfl
  have ho' : o = SetK c.P c.w p S n := ho
  subst ho'
  refine ⟨_, hσ, ⟨p, S, n, rfl, hp⟩, h F0 H0 F H σ gd _ fun v F1 H1 g1 r1 => ?_⟩
  rw [key_val r1]
  refine ⟨p, j, S, n, rfl, rfl, g1.hh p _ hp, Nat.lt_of_lt_of_le (Nat.succ_lt_succ hz) (by decide), ?_⟩
  exact hk F1 _ σ ((gd.grow g1).change hi rfl rfl hσ (g1.hh p _ hp) rfl)
theorem ev_notinS {i : Nat} {S : Key → Bool} {n : Nat} {j : Key} (hi : ρ[i]? = some (.os S n)) (h : EV c te ρ (kD j)) : EV c (tOp (rSInK c.P c.w true) te (tVar i)) ρ (.bool (!S j)) := fun F0 H0 F H σ gd Q q => h F0 H0 F H σ gd _ fun v F1 H1 g1 r1 => by
  obtain ⟨p, o, hσ, n0, nf, hp, ho⟩ := gd.ow i _ hi rfl
  have ho' : o = SetK c.P c.w p S n := ho
  subst ho'
  rw [key_val r1]
  exact ⟨_, hσ, j, p, S, n, rfl, rfl, g1.hh p _ hp, q _ F1 H1 g1 (.bl _)⟩
theorem ev_inS {i : Nat} {S : Key → Bool} {n : Nat} {j : Key} (hi : ρ[i]? = some (.os S n)) (h : EV c te ρ (kD j)) : EV c (tOp (rSInK c.P c.w false) te (tVar i)) ρ (.bool (S j)) := fun F0 H0 F H σ gd Q q => h F0 H0 F H σ gd _ fun v F1 H1 g1 r1 => by
  obtain ⟨p, o, hσ, n0, nf, hp, ho⟩ := gd.ow i _ hi rfl
  have ho' : o = SetK c.P c.w p S n := ho
  subst ho'
  rw [key_val r1]
  exact ⟨_, hσ, j, p, S, n, rfl, rfl, g1.hh p _ hp, q _ F1 H1 g1 (.bl _)⟩
/-- d[k] = v, d the def's own -/
theorem w_dput {i : Nat} {kvs : List (Key × PyData)} {j : Key} (hi : ρ[i]? = some (.od kvs)) (hv : EV c te ρ d) (hj : EV c tk ρ (kD j)) (hz : kvs.length < 100000) (hk : W c F0 H0 D.nx (ρ.set i (.od (putD kvs j d)))) :
    W c F0 H0 (sDPut (tVar i) tk te D) ρ := fun F H σ gd => hv F0 H0 F H σ gd _ fun v F1 H1 g1 r1 => by
  obtain ⟨p, o, hσ, n0, nf, hp, ks, rfl, r⟩ := gd.ow i _ hi rfl
  refine ⟨_, hσ, hj F0 H0 F1 H1 σ (gd.grow g1) _ fun u F2 H2 g2 r2 => ?_⟩
  rw [key_val r2]
  have hp2 := g2.hh p _ (g1.hh p _ hp)
  refine ⟨p, _, rfl, DPut.k hp2 (smallL (by rw [kv_length r]; exact hz)), ?_⟩
  exact hk F2 _ σ (((gd.grow g1).grow g2).change hi rfl rfl hσ hp2 ⟨_, rfl, kv_put (RpKV.mono (g1.ff.trans g2.ff) r) (r1.mono g2.ff)⟩)
/-- xs[k] = v, xs the def's own list -/
theorem w_setL {i : Nat} {j : Nat} {z : Int} (hi : ρ[i]? = some (.ol ds)) (hv : EV c te ρ d) (hj : EV c tk ρ (.int z)) (e : ixN ds.length z = some j) (hk : W c F0 H0 D.nx (ρ.set i (.ol (ds.set j d)))) :
    W c F0 H0 (tAsg te (gSub (tVar i) tk rSetL) D) ρ := fun F H σ gd => hv F0 H0 F H σ gd _ fun v F1 H1 g1 r1 => by
  obtain ⟨p, o, hσ, n0, nf, hp, xs, rfl, r⟩ := gd.ow i _ hi rfl
  refine ⟨_, hσ, hj F0 H0 F1 H1 σ (gd.grow g1) _ fun u F2 H2 g2 r2 => ?_⟩
  cases r2
  have hp2 := g2.hh p _ (g1.hh p _ hp)
  refine ⟨p, xs, z, j, rfl, rfl, hp2, by rw [r.length]; exact e, ?_⟩
  exact hk F2 _ σ (((gd.grow g1).grow g2).change hi rfl rfl hσ hp2 ⟨_, rfl, (r.mono (g1.ff.trans g2.ff)).set (r1.mono g2.ff) j⟩)
/-- a container that will not be changed any more -/
theorem w_freeze (i : Nat) {s : Sl} (hi : ρ[i]? = some s) (hd : s.data = some d) (hk : W c F0 H0 k (ρ.set i (.fz d))) : W c F0 H0 k ρ := fun F H σ gd => by
  obtain ⟨F1, _, g1, _⟩ := gd.freeze hi hd
  exact hk F1 H σ g1
/-- a slot that is not asked any more -/
theorem w_forget (i : Nat) (hk : W c F0 H0 k (ρ.set i .un)) : W c F0 H0 k ρ := fun F H σ gd => by
  by_cases hl : i < σ.length
  · have e : σ.set i σ[i] = σ := List.set_getElem_self hl
    have := gd.setUn (i := i) (x := σ[i])
    rw [e] at this
    exact hk F H σ this
  · have e : ρ.set i .un = ρ := List.set_eq_of_length_le (by rw [← gd.len]; omega)
    rw [e] at hk
    exact hk F H σ gd
theorem w_mono (h : W c F0 H0 k ρ) (hk : ∀ σ H, k σ H → k' σ H) : W c F0 H0 k' ρ := fun F H σ gd => hk σ H (h F H σ gd)

theorem W.at {B : Hp} (h : W c F0 H0 k ρ) (hB : Same c.B B) : W (c.at B) F0 H0 k ρ := fun F H σ g => h F H σ ⟨hB.trans g.an, g.sm, g.gr, g.len, g.fz, g.ow, g.ap⟩
theorem good_at {B F H : Hp} {σ : L2.St} (g : Good c.P c.w c.K c.B F0 H0 F H σ ρ) (hB : Same B F) : Good (c.at B).P (c.at B).w (c.at B).K (c.at B).B F0 H0 F H σ ρ := ⟨hB, g.sm, g.gr, g.len, g.fz, g.ow, g.ap⟩
theorem good_un {B F H : Hp} {σ : L2.St} (g : Good (c.at B).P (c.at B).w (c.at B).K (c.at B).B F0 H0 F H σ ρ) (hB : Same c.B B) : Good c.P c.w c.K c.B F0 H0 F H σ ρ := ⟨hB.trans g.an, g.sm, g.gr, g.len, g.fz, g.ow, g.ap⟩

/-! ### loops -/
/-- over a list that does not change: P i ρ: the slots behind i turns -/
theorem w_forL (P : Nat → List Sl → Prop) (h : EV c tl ρ (.list ds)) (h0 : P 0 ρ)
    (hs : ∀ (B : Hp) (i : Nat) (d : PyData) (ρ1 : List Sl), Same c.B B → ds[i]? = some d → P i ρ1 → ∃ ρ2, TGt (c.at B) g d ρ1 ρ2 ∧ W (c.at B) F0 H0 (t { D with nx := Kp (c.at B) F0 H0 (P (i + 1)), ct := Kp (c.at B) F0 H0 (P (i + 1)), bk := D.nx }) ρ2)
    (hd : ∀ ρ1, P ds.length ρ1 → W c F0 H0 D.nx ρ1) : W c F0 H0 (tFor (iList c.K tl) g t D) ρ := fun F H σ gd => h F0 H0 F H σ gd _ fun v F1 H1 g1 r1 => by
  have gd1 := gd.grow g1
  cases r1 with
  | @lst a xs _ hr r =>
    refine ⟨a, rfl, ⟨xs, same_l g1.fh hr⟩, for_list (fun i => Kp (c.at F1) F0 H0 (P i)) ⟨F1, ρ, h0, good_at gd1 (Same.refl _)⟩ (fun i σ' H' _ ⟨F', ρ1, _, g'⟩ => same_l g'.sm (same_l g'.an hr)) ?_ ?_⟩
    · rintro i x σ' H' hx ⟨F', ρ1, p, g'⟩
      obtain ⟨d, hd', rd⟩ := r.getV hx
      obtain ⟨ρ2, tg, w⟩ := hs F1 i d ρ1 gd1.an hd' p
      exact tg F0 H0 F' H' σ' x g' (rd.mono g'.an) _ fun σ2 g2 => w F' H' σ2 g2
    · rintro σ' H' ⟨F', ρ1, p, g'⟩
      rw [r.length] at p
      exact hd ρ1 p F' H' σ' (good_un g' gd1.an)
theorem w_forT (P : Nat → List Sl → Prop) (h : EV c tl ρ (.tuple ds)) (h0 : P 0 ρ)
    (hs : ∀ (B : Hp) (i : Nat) (d : PyData) (ρ1 : List Sl), Same c.B B → ds[i]? = some d → P i ρ1 → ∃ ρ2, TGt (c.at B) g d ρ1 ρ2 ∧ W (c.at B) F0 H0 (t { D with nx := Kp (c.at B) F0 H0 (P (i + 1)), ct := Kp (c.at B) F0 H0 (P (i + 1)), bk := D.nx }) ρ2)
    (hd : ∀ ρ1, P ds.length ρ1 → W c F0 H0 D.nx ρ1) : W c F0 H0 (tFor (iTup c.K tl) g t D) ρ := fun F H σ gd => h F0 H0 F H σ gd _ fun v F1 H1 g1 r1 => by
  have gd1 := gd.grow g1
  cases r1 with
  | @tup a xs _ hr r =>
    refine ⟨a, rfl, ⟨xs, same_t g1.fh hr⟩, for_tup (fun i => Kp (c.at F1) F0 H0 (P i)) ⟨F1, ρ, h0, good_at gd1 (Same.refl _)⟩ (fun i σ' H' _ ⟨F', ρ1, _, g'⟩ => same_t g'.sm (same_t g'.an hr)) ?_ ?_⟩
    · rintro i x σ' H' hx ⟨F', ρ1, p, g'⟩
      obtain ⟨d, hd', rd⟩ := r.getV hx
      obtain ⟨ρ2, tg, w⟩ := hs F1 i d ρ1 gd1.an hd' p
      exact tg F0 H0 F' H' σ' x g' (rd.mono g'.an) _ fun σ2 g2 => w F' H' σ2 g2
    · rintro σ' H' ⟨F', ρ1, p, g'⟩
      rw [r.length] at p
      exact hd ρ1 p F' H' σ' (good_un g' gd1.an)
/-- over range(n) -/
theorem w_forR {n : Int} (P : Nat → List Sl → Prop) (h : EA c tas ρ [.int n]) (hn : 0 ≤ n ∧ n ≤ 100000) (h0 : P 0 ρ)
    (hs : ∀ (i : Nat) (ρ1 : List Sl), (i : Int) < n → P i ρ1 → ∃ ρ2, TGt c g (.int (i : Int)) ρ1 ρ2 ∧ W c F0 H0 (t { D with nx := Kp c F0 H0 (P (i + 1)), ct := Kp c F0 H0 (P (i + 1)), bk := D.nx }) ρ2)
    (hd : ∀ ρ1, P n.toNat ρ1 → W c F0 H0 D.nx ρ1) : W c F0 H0 (tFor (iRng1 tas) g t D) ρ := fun F H σ gd => h F0 H0 F H σ gd _ fun vs F1 H1 g1 r1 => by
  have gd1 := gd.grow g1
  obtain ⟨v, rfl, r⟩ := rpAll1 r1
  cases r
  refine ⟨n, rfl, by omega, by omega, for_range (lo := 0) (n := n.toNat) (fun i => Kp c F0 H0 (P i)) ⟨F1, ρ, h0, gd1⟩ ?_ ?_⟩
  · rintro i σ' H' hi ⟨F', ρ1, p, g'⟩
    obtain ⟨ρ2, tg, w⟩ := hs i ρ1 (by omega) p
    have e0 : (0 : Int) + (i : Int) = (i : Int) := Int.zero_add _
    rw [e0]
    exact tg F0 H0 F' H' σ' _ g' (.int _) _ fun σ2 g2 => w F' H' σ2 g2
  · rintro σ' H' ⟨F', ρ1, p, g'⟩
    exact hd ρ1 p F' H' σ' g'
/-- while: P m ρ, m a number that falls -/
theorem w_while (P : Nat → List Sl → Prop) (m0 : Nat) (h0 : P m0 ρ)
    (hs : ∀ (m : Nat) (ρ1 : List Sl), P m ρ1 → ∃ b, ET c tt ρ1 b ∧ (b = true → W c F0 H0 (t { D with nx := Kp c F0 H0 (fun ρ2 => ∃ m', m' < m ∧ P m' ρ2), ct := Kp c F0 H0 (fun ρ2 => ∃ m', m' < m ∧ P m' ρ2), bk := D.nx }) ρ1) ∧ (b = false → W c F0 H0 D.nx ρ1)) :
    W c F0 H0 (tWhile tt t D) ρ := fun F H σ gd => by
  refine ⟨fun m => Kp c F0 H0 (P m), ⟨m0, F, ρ, h0, gd⟩, ?_⟩
  rintro m σ' H' ⟨F', ρ1, p, g'⟩
  obtain ⟨b, hb, h1, h2⟩ := hs m ρ1 p
  refine hb F0 H0 F' H' σ' g' _ fun F2 H2 g2 => ?_
  cases b with
  | true => exact ⟨Kp c F0 H0 (fun ρ2 => ∃ m', m' < m ∧ P m' ρ2), fun σ3 H3 ⟨F3, ρ3, ⟨m', l, p'⟩, g3⟩ => ⟨m', l, F3, ρ3, p', g3⟩, h1 rfl F2 H2 σ' (g'.grow g2)⟩
  | false => exact h2 rfl F2 H2 σ' (g'.grow g2)
end

/-! ### comprehensions with one name of their own -/
section
variable {c : Wd} {te ta tb tx td tk tl : TE} {tt tu : TT} {ρ : List Sl} {d x y : PyData} {ds xs ys : List PyData} {α : Type}
theorem wipe1 (σ : L2.St) (j : Nat) : wipe σ [j] = σ.set j none := rfl
theorem wipe_set1 (σ : L2.St) (j : Nat) (v : Option V) : wipe ((wipe σ [j]).set j v) [j] = wipe σ [j] := by
  rw [wipe1, wipe1, List.set_set, List.set_set]
/-- the list under way -/
structure Lcw (c : Wd) (F1 H1 : Hp) (p : Addr) (ds : List PyData) (H' : Hp) : Prop where
  ex : ∃ F' xs, Gr F1 H1 F' H' ∧ F' p = none ∧ H' p = some (.lst xs) ∧ RpAll c.K F' xs ds
theorem lc_turn {F0 H0 F1 H1 H' : Hp} {σ : L2.St} {p : Addr} {j : Nat} {x : V} {acc : List PyData} {b : Bool} {val : PyData} (gd : Good c.P c.w c.K c.B F0 H0 F1 H1 σ ρ) (np : H1 p = none) (L : Lcw c F1 H1 p acc H') (rx : Rp c.K F1 x d)
    (hz : acc.length < 100000) (ht : ET c tt (ρ.set j (.fz d)) b) (he : b = true → EV c te (ρ.set j (.fz d)) val) {N : Hp → Prop} (hN : ∀ H2, Lcw c F1 H1 p (if b = true then acc ++ [val] else acc) H2 → N H2) :
    wipe ((wipe σ [j]).set j (some x)) [j] = wipe σ [j] ∧ tt ((wipe σ [j]).set j (some x)) H' fun b H3 => if b = true then te ((wipe σ [j]).set j (some x)) H3 fun y H4 => ∃ acc, H4 p = some (.lst acc) ∧ acc.length < sizeLine ∧ N (upd H4 p (.lst (acc ++ [y]))) else N H3 := by
  obtain ⟨F', xs, g1, nf, hp, r⟩ := L.ex
  refine ⟨wipe_set1 σ j _, ?_⟩
  have eσ : (wipe σ [j]).set j (some x) = σ.set j (some x) := by rw [wipe1, List.set_set]
  rw [eσ]
  have gd1 := (gd.grow g1).setFz (i := j) (rx.mono g1.ff)
  refine ht F0 H0 F' H' _ gd1 _ fun F2 H2 g2 => ?_
  cases b with
  | false =>
    refine hN H2 ⟨F2, xs, g1.trans g2, (g2.old p _ hp).trans nf, g2.hh p _ hp, r.mono g2.ff⟩
  | true =>
    refine he rfl F0 H0 F2 H2 _ (gd1.grow g2) _ fun v F3 H3 g3 r3 => ?_
    have G := g2.trans g3
    have hp3 := G.hh p _ hp
    have nf3 : F3 p = none := (G.old p _ hp).trans nf
    refine ⟨xs, hp3, smallL (by rw [r.length]; exact hz), hN _ ⟨F3, xs ++ [v], ⟨g1.ff.trans G.ff, fun q u e => ?_, fun q u e => ?_, fun q u e => ?_⟩, nf3, upd_same, (r.mono G.ff).append (.cons r3 .nil)⟩⟩
    · rw [upd_ne (ne_of_none e np)]; exact (g1.trans G).hh q u e
    · rw [upd_ne (ne_of_none e nf3)]; exact G.fh q u e
    · exact (g1.trans G).old q u e
theorem take_map {enc : α → PyData} {xs : List α} {i : Nat} {d : PyData} (h : (xs.map enc)[i]? = some d) : ∃ a, xs[i]? = some a ∧ d = enc a ∧ a ∈ xs := by
  rw [List.getElem?_map] at h
  cases e : xs[i]? with
  | none => rw [e] at h; cases h
  | some a =>
    rw [e] at h
    exact ⟨a, rfl, (Option.some.inj h).symm, List.mem_of_getElem? e⟩
theorem filter_step (b : α → Bool) (v : α → PyData) {xs : List α} {i : Nat} {a : α} (h : xs[i]? = some a) : ((xs.take (i + 1)).filter b).map v = if b a = true then ((xs.take i).filter b).map v ++ [v a] else ((xs.take i).filter b).map v := by
  rw [List.take_add_one, h]
  show (((xs.take i) ++ [a]).filter b).map v = _
  rw [List.filter_append, List.map_append, List.filter_cons]
  by_cases e : b a = true
  · rw [if_pos e, if_pos e]; rfl
  · rw [if_neg e, if_neg e]
    show _ ++ [] = _
    rw [List.append_nil]
theorem el_lcL {j : Nat} (enc : α → PyData) (xs : List α) (b : α → Bool) (v : α → PyData) (h : EV c tl ρ (.list (xs.map enc))) (hz : xs.length ≤ 50000)
    (ht : ∀ a ∈ xs, ET c tt (ρ.set j (.fz (enc a))) (b a)) (he : ∀ a ∈ xs, b a = true → EV c te (ρ.set j (.fz (enc a))) (v a)) : EL c (tLc (iList c.K tl) (gName j) tt te [j]) ρ ((xs.filter b).map v) := fun F0 H0 F H σ gd Q q => h F0 H0 F H σ gd _ fun z F1 H1 g1 r1 => by
  have gd1 := gd.grow g1
  cases r1 with
  | @lst a vs _ hr r =>
    refine ⟨a, rfl, ⟨vs, same_l g1.fh hr⟩, fun p np => ?_⟩
    have hl : vs.length = xs.length := by rw [r.length, List.length_map]
    refine lc_list (xs := vs) (fun i H' => Lcw c F1 H1 p (((xs.take i).filter b).map v) H') ⟨F1, [], Gr.own gd1.sm np, same_free gd1.sm np, upd_same, .nil⟩ (fun i H' _ L => by
      obtain ⟨F', _, g', _⟩ := L.ex
      exact same_l g'.fh (same_l g'.ff hr)) ?_ ?_
    · rintro i x H' hx L
      obtain ⟨d, hd, rd⟩ := r.getV hx
      obtain ⟨a', ha, rfl, hm⟩ := take_map hd
      have hi : i < vs.length := (List.getElem?_eq_some_iff.mp hx).1
      refine lc_turn gd1 np L rd (by rw [List.length_map]; have := List.length_filter_le b (xs.take i); have := List.length_take_le i xs; omega) (ht a' hm) (he a' hm) fun H2 L2 => ?_
      rw [filter_step b v ha]
      exact L2
    · rintro H' L
      obtain ⟨F', ws, g', nf, hp, rr⟩ := L.ex
      rw [hl, List.take_length] at rr
      exact q p ws F' H' (g1.trans g') (g1.free np) nf hp rr
theorem el_lcT {j : Nat} (enc : α → PyData) (xs : List α) (b : α → Bool) (v : α → PyData) (h : EV c tl ρ (.tuple (xs.map enc))) (hz : xs.length ≤ 50000)
    (ht : ∀ a ∈ xs, ET c tt (ρ.set j (.fz (enc a))) (b a)) (he : ∀ a ∈ xs, b a = true → EV c te (ρ.set j (.fz (enc a))) (v a)) : EL c (tLc (iTup c.K tl) (gName j) tt te [j]) ρ ((xs.filter b).map v) := fun F0 H0 F H σ gd Q q => h F0 H0 F H σ gd _ fun z F1 H1 g1 r1 => by
  have gd1 := gd.grow g1
  cases r1 with
  | @tup a vs _ hr r =>
    refine ⟨a, rfl, ⟨vs, same_t g1.fh hr⟩, fun p np => ?_⟩
    have hl : vs.length = xs.length := by rw [r.length, List.length_map]
    refine lc_tup (xs := vs) (fun i H' => Lcw c F1 H1 p (((xs.take i).filter b).map v) H') ⟨F1, [], Gr.own gd1.sm np, same_free gd1.sm np, upd_same, .nil⟩ (fun i H' _ L => by
      obtain ⟨F', _, g', _⟩ := L.ex
      exact same_t g'.fh (same_t g'.ff hr)) ?_ ?_
    · rintro i x H' hx L
      obtain ⟨d, hd, rd⟩ := r.getV hx
      obtain ⟨a', ha, rfl, hm⟩ := take_map hd
      have hi : i < vs.length := (List.getElem?_eq_some_iff.mp hx).1
      refine lc_turn gd1 np L rd (by rw [List.length_map]; have := List.length_filter_le b (xs.take i); have := List.length_take_le i xs; omega) (ht a' hm) (he a' hm) fun H2 L2 => ?_
      rw [filter_step b v ha]
      exact L2
    · rintro H' L
      obtain ⟨F', ws, g', nf, hp, rr⟩ := L.ex
      rw [hl, List.take_length] at rr
      exact q p ws F' H' (g1.trans g') (g1.free np) nf hp rr
/-- over range(n) -/
theorem el_lcR {j : Nat} {n : Int} {tas : TA} (b : Nat → Bool) (v : Nat → PyData) (h : EA c tas ρ [.int n]) (hz : 0 ≤ n ∧ n ≤ 50000)
    (ht : ∀ i : Nat, (i : Int) < n → ET c tt (ρ.set j (.fz (.int (i : Int)))) (b i)) (he : ∀ i : Nat, (i : Int) < n → b i = true → EV c te (ρ.set j (.fz (.int (i : Int)))) (v i)) :
    EL c (tLc (iRng1 tas) (gName j) tt te [j]) ρ (((List.range n.toNat).filter b).map v) := fun F0 H0 F H σ gd Q q => h F0 H0 F H σ gd _ fun zs F1 H1 g1 r1 => by
  have gd1 := gd.grow g1
  obtain ⟨z, rfl, r⟩ := rpAll1 r1
  cases r
  refine ⟨n, rfl, by omega, by omega, fun p np => ?_⟩
  refine lc_range (lo := 0) (n := n.toNat) (fun i H' => Lcw c F1 H1 p ((((List.range n.toNat).take i).filter b).map v) H') ⟨F1, [], Gr.own gd1.sm np, same_free gd1.sm np, upd_same, .nil⟩ ?_ ?_
  · rintro i H' hi L
    have e0 : (0 : Int) + (i : Int) = (i : Int) := Int.zero_add _
    have ha : (List.range n.toNat)[i]? = some i := List.getElem?_range hi
    rw [e0]
    refine lc_turn gd1 np L (.int _) (by rw [List.length_map]; have := List.length_filter_le b ((List.range n.toNat).take i); have := List.length_take_le i (List.range n.toNat); omega) (ht i (by omega)) (he i (by omega)) fun H2 L2 => ?_
    rw [filter_step b v ha]
    exact L2
  · rintro H' L
    obtain ⟨F', ws, g', nf, hp, rr⟩ := L.ex
    rw [show (List.range n.toNat).take n.toNat = List.range n.toNat from List.take_of_length_le (by rw [List.length_range]; exact Nat.le_refl _)] at rr
    exact q p ws F' H' (g1.trans g') (g1.free np) nf hp rr
theorem et_yes : ET c tYes ρ true := fun F0 H0 F H σ gd Q q => q F H (Gr.refl gd.sm)
end
end DL

set_option maxHeartbeats 4000000
namespace DL
open PySem L2

/-! ### what a def is worth -/
section
variable {α : Type}
def spV (K : PySem.W.Frag) (enc : α → List PyData) (pre : α → Prop) (f : α → PyData) : Sp := fun vs H Q _ => ∃ F a, Same F H ∧ RpAll K F vs (enc a) ∧ pre a ∧ ∀ v F' H', Gr F H F' H' → Rp K F' v (f a) → Q v H'
def spL (K : PySem.W.Frag) (enc : α → List PyData) (pre : α → Prop) (f : α → List PyData) : Sp := fun vs H Q _ => ∃ F a, Same F H ∧ RpAll K F vs (enc a) ∧ pre a ∧
  ∀ p xs F' H', Gr F H F' H' → H p = none → F' p = none → H' p = some (.lst xs) → RpAll K F' xs (f a) → Q (.ref p) H'
def spD (K : PySem.W.Frag) (enc : α → List PyData) (pre : α → Prop) (f : α → List (Key × PyData)) : Sp := fun vs H Q _ => ∃ F a, Same F H ∧ RpAll K F vs (enc a) ∧ pre a ∧
  ∀ p xs F' H', Gr F H F' H' → H p = none → F' p = none → H' p = some (.dK xs) → RpKV K F' xs (f a) → Q (.ref p) H'
variable {c : Wd} {ρ : List Sl} {tas : TA} {enc : α → List PyData} {pre : α → Prop}
theorem ev_call {f : α → PyData} {E : XK} (a : α) (h : EA c tas ρ (enc a)) (hp : pre a) : EV c (tCall (spV c.K enc pre f) [] E tas) ρ (f a) := fun F0 H0 F H σ g Q q => h F0 H0 F H σ g _ fun vs F1 H1 g1 r1 =>
  ⟨F1, a, g1.fh, by rw [List.append_nil]; exact r1, hp, fun v F2 H2 g2 r2 => q v F2 H2 (g1.trans g2) r2⟩
theorem el_call {f : α → List PyData} {E : XK} (a : α) (h : EA c tas ρ (enc a)) (hp : pre a) : EL c (tCall (spL c.K enc pre f) [] E tas) ρ (f a) := fun F0 H0 F H σ g Q q => h F0 H0 F H σ g _ fun vs F1 H1 g1 r1 =>
  ⟨F1, a, g1.fh, by rw [List.append_nil]; exact r1, hp, fun p xs F2 H2 g2 np nf hp r2 => q p xs F2 H2 (g1.trans g2) (g1.free np) nf hp r2⟩
theorem ed_call {f : α → List (Key × PyData)} {E : XK} (a : α) (h : EA c tas ρ (enc a)) (hp : pre a) : ED c (tCall (spD c.K enc pre f) [] E tas) ρ (f a) := fun F0 H0 F H σ g Q q => h F0 H0 F H σ g _ fun vs F1 H1 g1 r1 =>
  ⟨F1, a, g1.fh, by rw [List.append_nil]; exact r1, hp, fun p xs F2 H2 g2 np nf hp r2 => q p xs F2 H2 (g1.trans g2) (g1.free np) nf hp r2⟩
end

/-- a def that may be called by its name -/
def Use (P : Program) (w : World) (K : PySem.W.Frag) (mg : Str → Option Value) (base : Heap) (CX : CXT) (k : Nat) (x : Str) (ps : List Str) (sp : Sp) : Prop :=
  ∃ (f : Addr) (fd : FuncData), FnOk P w K mg base CX k f fd ps sp ∧ mg x = some (.ref f) ∧ PySem.W.keepIn K (.ref f) = true ∧ Binds K fd ps []
section
variable {X : Cx} {CX : CXT} {x : Str} {p pos : Pos} {e : Expr} {es : List Expr} {t : TA} {k j : Nat} {ps : List Str} {sp : Sp}
theorem pe_use (U : Use X.prog X.w X.K X.mg X.base CX0 k x ps sp) (hr : Room j X.A) (ha : PA X (e :: es) t) (hk : k ≤ j := by first | decide | omega) (hg : Gl X x := by rfl) (hdb : (x == ("__debug__" : Str)) = false := by decide)
    (he : starEach (e :: es) X.env = (false, eval e X.env) :: starEach es X.env := by rfl) (hpl : (backTo pos (starEach es X.env)).any (·.1) = false := by rfl) : PE X (.Call (.Name x p) (e :: es) [] pos) (tCall sp [] E0 t) := by
  obtain ⟨f, fd, F, hm, kp, hb⟩ := U
  exact pe_call F (hr.mono hk) hg hm kp hb .nil pass0 ha hdb he hpl
end

/-- the slots at a def's start -/
def slots (N : List Str) (ds : List PyData) : List Sl := ds.map Sl.fz ++ List.replicate (N.length - ds.length) .un
theorem rpAll_ix {K : PySem.W.Frag} {F : Hp} {vs : List V} {ds : List PyData} (h : RpAll K F vs ds) {i : Nat} {d : PyData} (e : ds[i]? = some d) : ∃ v, vs[i]? = some v ∧ Rp K F v d := h.get e
theorem good_start {P : Program} {w : World} {K : PySem.W.Frag} {F H : Hp} {N : List Str} {vs : List V} {ds : List PyData} (s : Same F H) (r : RpAll K F vs ds) : Good P w K (fun _ => none) F H F H (L2.start N vs) (slots N ds) := by
  have hl := r.length
  have at_ : ∀ (i : Nat) (sl : Sl), (slots N ds)[i]? = some sl → (∃ d, ds[i]? = some d ∧ sl = .fz d) ∨ sl = .un := fun i sl h => by
    unfold slots at h
    by_cases hi : i < ds.length
    · rw [List.getElem?_append_left (by rw [List.length_map]; exact hi), List.getElem?_map, List.getElem?_eq_getElem hi] at h
      exact .inl ⟨_, List.getElem?_eq_getElem hi, (Option.some.inj h).symm⟩
    · rw [List.getElem?_append_right (by rw [List.length_map]; omega)] at h
      exact .inr (List.eq_of_mem_replicate (List.mem_of_getElem? h))
  refine ⟨fun _ _ e => (nomatch e), s, Gr.refl s, ?_, fun i d h => ?_, fun i sl h ho => ?_, fun i j s1 t1 p _ h1 o1 _ _ _ _ => ?_⟩
  · unfold L2.start slots
    rw [List.length_append, List.length_append, List.length_map, List.length_map, List.length_replicate, List.length_replicate, hl]
  · rcases at_ i _ h with ⟨d', e, q⟩ | q
    · cases q
      obtain ⟨v, ev, rv⟩ := r.get e
      refine ⟨v, ?_, rv⟩
      have hi : i < vs.length := (List.getElem?_eq_some_iff.mp ev).1
      unfold L2.start
      rw [List.getElem?_append_left (by rw [List.length_map]; exact hi), List.getElem?_map, ev]
      rfl
    · cases q
  · rcases at_ i _ h with ⟨d', e, q⟩ | q
    · subst q; cases ho
    · subst q; cases ho
  · rcases at_ i _ h1 with ⟨d', e, q⟩ | q
    · subst q; cases o1
    · subst q; cases o1
abbrev ends (Q : VK) : Ends := { nx := fun _ H' => Q .non H', rt := Q }
abbrev wd (P : Program) (w : World) (K : PySem.W.Frag) : Wd := ⟨P, w, K, fun _ => none⟩
section
variable {P : Program} {w : World} {K : PySem.W.Frag} {mg : Str → Option Value} {base : Heap} {x qual : Str} {pa : Arguments} {bd : List Stmt} {sc : Scope} {f : Addr} {fd : FuncData} {α : Type} {enc : α → List PyData} {pre : α → Prop} {N ps : List Str} {k : Nat}
theorem fn_V {g : α → PyData} (F : FunD K x qual pa bd sc [] [] f fd) (S : FnScope N ps sc) (hl : ∀ a, (enc a).length = ps.length)
    (hb : ∀ (cdv : Value) (A : Around) (outer : List Env) (s : Shared) (H : Hp) (E : XK), Room k (A.deeper (PyProof.Rows.envOfC qual sc s.heap.objs.size f cdv)) → ∃ t, PSs (cxOf CX0 P w K mg base N qual sc f cdv A outer s H E).nox bd t ∧
      ∀ (F0 H0 : Hp) (a : α) (Q : VK), pre a → (∀ v F' H', Gr F0 H0 F' H' → Rp K F' v (g a) → Q v H') → W (wd P w K) F0 H0 (t (ends Q)) (slots N (enc a))) : FnOk P w K mg base CX0 (k + 1) f fd ps (spV K enc pre g) := by
  refine F.ok S (fun vs H Q E h => ?_) (fun cdv A outer s H vs Q E hr h => ?_)
  · obtain ⟨F, a, _, r, _, _⟩ := h
    rw [r.length, hl]
  · obtain ⟨t, ht, hw⟩ := hb cdv A outer s H E hr
    obtain ⟨F, a, sm, r, hp, q⟩ := h
    exact ⟨t, ht.nox, hw F H a Q hp q F H _ (good_start sm r)⟩
theorem fn_L {g : α → List PyData} (F : FunD K x qual pa bd sc [] [] f fd) (S : FnScope N ps sc) (hl : ∀ a, (enc a).length = ps.length)
    (hb : ∀ (cdv : Value) (A : Around) (outer : List Env) (s : Shared) (H : Hp) (E : XK), Room k (A.deeper (PyProof.Rows.envOfC qual sc s.heap.objs.size f cdv)) → ∃ t, PSs (cxOf CX0 P w K mg base N qual sc f cdv A outer s H E).nox bd t ∧
      ∀ (F0 H0 : Hp) (a : α) (Q : VK), pre a → (∀ p xs F' H', Gr F0 H0 F' H' → H0 p = none → F' p = none → H' p = some (.lst xs) → RpAll K F' xs (g a) → Q (.ref p) H') → W (wd P w K) F0 H0 (t (ends Q)) (slots N (enc a))) : FnOk P w K mg base CX0 (k + 1) f fd ps (spL K enc pre g) := by
  refine F.ok S (fun vs H Q E h => ?_) (fun cdv A outer s H vs Q E hr h => ?_)
  · obtain ⟨F, a, _, r, _, _⟩ := h
    rw [r.length, hl]
  · obtain ⟨t, ht, hw⟩ := hb cdv A outer s H E hr
    obtain ⟨F, a, sm, r, hp, q⟩ := h
    exact ⟨t, ht.nox, hw F H a Q hp q F H _ (good_start sm r)⟩
theorem fn_D {g : α → List (Key × PyData)} (F : FunD K x qual pa bd sc [] [] f fd) (S : FnScope N ps sc) (hl : ∀ a, (enc a).length = ps.length)
    (hb : ∀ (cdv : Value) (A : Around) (outer : List Env) (s : Shared) (H : Hp) (E : XK), Room k (A.deeper (PyProof.Rows.envOfC qual sc s.heap.objs.size f cdv)) → ∃ t, PSs (cxOf CX0 P w K mg base N qual sc f cdv A outer s H E).nox bd t ∧
      ∀ (F0 H0 : Hp) (a : α) (Q : VK), pre a → (∀ p xs F' H', Gr F0 H0 F' H' → H0 p = none → F' p = none → H' p = some (.dK xs) → RpKV K F' xs (g a) → Q (.ref p) H') → W (wd P w K) F0 H0 (t (ends Q)) (slots N (enc a))) : FnOk P w K mg base CX0 (k + 1) f fd ps (spD K enc pre g) := by
  refine F.ok S (fun vs H Q E h => ?_) (fun cdv A outer s H vs Q E hr h => ?_)
  · obtain ⟨F, a, _, r, _, _⟩ := h
    rw [r.length, hl]
  · obtain ⟨t, ht, hw⟩ := hb cdv A outer s H E hr
    obtain ⟨F, a, sm, r, hp, q⟩ := h
    exact ⟨t, ht.nox, hw F H a Q hp q F H _ (good_start sm r)⟩
end

/-! ### dict comprehensions -/
section
variable {X : Cx}
/-- name = {..: .. for ..} on one line, the name a local -/
theorem ps_setDc {i : Nat} {y : Str} {py : Pos} {kx vx tg iter : Expr} {ifs : List Expr} {scope : Scope} {own : List (Str × Nat)} {pos spos : Pos} {wi : TI} {g : TG} {tt : TT} {tk tv : TE} (hc : X.calm = true) (hN : X.N.Nodup) (hy : X.N[i]? = some y) (hyl : X.env.scope.names.lookup y = some .local)
    (hsw : swapsWith (.DictComp kx vx [⟨tg, iter, ifs, 0⟩] scope pos) (some (.Name y py)) spos.line X.env = pure true) (hi : PI X tg iter wi) (ok : BlkOk X.N X.env.scope scope own)
    (hg : ∀ (s : Shared) (H : Hp) (C : Addr) (cl : List (Str × Addr)) (fp : List Addr), PG (X.blk s H scope (compEnvC scope cl C X.env) fp) tg g) (ht : ∀ (s : Shared) (H : Hp) (C : Addr) (cl : List (Str × Addr)) (fp : List Addr), PTs (X.blk s H scope (compEnvC scope cl C X.env) fp) ifs tt)
    (hk : ∀ (s : Shared) (H : Hp) (C : Addr) (cl : List (Str × Addr)) (fp : List Addr), PE (X.blk s H scope (compEnvC scope cl C X.env) fp) kx tk)
    (he : ∀ (s : Shared) (H : Hp) (C : Addr) (cl : List (Str × Addr)) (fp : List Addr), PE (X.blk s H scope (compEnvC scope cl C X.env) fp) vx tv) (hs : ∀ x, foldedSetIterable iter X.env x = pure x := by intro _; rfl) :
    PS X (.Assign [.Name y py] (.DictComp kx vx [⟨tg, iter, ifs, 0⟩] scope pos) spos) (tAsg (tDc wi g tt tk tv (own.map (·.2))) (gName i)) := by
  refine ⟨fun pins s σ H D I h => ?_⟩
  rw [exec_Assign_Name_used _ _ _ _ hsw]
  refine wpAny_bind (wpAny_standAt (wpAny_bind ?_))
  show wpAny _ X.A (do let _ ← comprehension (.DictComp kx vx [⟨tg, iter, ifs, 0⟩] scope pos) scope X.env (firstIterPos [⟨tg, iter, ifs, 0⟩] pos) newDict false (eval iter X.env) (some (assign (.Name y py) X.env))) _ _ s
  have h : tDc wi g tt tk tv (own.map (·.2)) σ H (fun x H1 => gName i x σ H1 D.nx) := h
  refine wpAny_bind (thn (dc_core (Qf := fun _ s' => SP X pins D .next s') hc hN I hi ok hg ht hk he hs h fun L C s' m H' I' q hn f => ?_) fun _ s' hq => wpAny_pure (wpAny_pure hq))
  show wpAny _ _ (assign (.Name y py) X.env (.ref L)) _ _ _
  refine wpAny_assign_Name (store_ok2 (v := V.ref L) I' hN hy (.inl hyl) rfl (fun s2 I2 ⟨a, sb, ha⟩ => ?_) (.inr hyl))
  obtain ⟨f0, f1, f2, f3, f4, f5⟩ := f
  have haC : C ≠ a := by
    rcases ha with z | z
    · rw [z]; exact f1
    · exact fun e => f4 y a z e.symm
  refine ⟨m, hn.sameBut sb haC, fun h3 sb3 => ?_⟩
  exact ⟨_, H', I2.turned (t' := s2.toks) (fun b o hb e => (sb3.2 b hb).trans e) f0 f1 f3 f4 f5, q⟩
theorem sw_dc {kx vx : Expr} {gs : List Comprehension} {scope : Scope} {pos py : Pos} {y : Str} {l : Nat} {env : Env} (hk : env.scope.kind = .function) (hy : env.scope.names.lookup y = some .local) (hl : (py.line == pos.line) = true)
    (ha : (scope.names.any fun (n, k) => n == y && (k == .local || k == .cell)) = false) : swapsWith (.DictComp kx vx gs scope pos) (some (.Name y py)) l env = pure true := by
  have ky : env.kindOf y = some .local := hy
  have hb : env.blockKind = .function := by unfold Env.blockKind; rw [hk]; rfl
  unfold swapsWith
  simp only [hb, ky, ha, Expr.pos, hl]
  rfl
end
section
variable {c : Wd} {te ta tb tx td tk tl : TE} {tt tu : TT} {ρ : List Sl} {d x y : PyData} {α : Type}
structure Dcw (c : Wd) (F1 H1 : Hp) (p : Addr) (ds : List (Key × PyData)) (H' : Hp) : Prop where
  ex : ∃ F' xs, Gr F1 H1 F' H' ∧ F' p = none ∧ H' p = some (.dK xs) ∧ RpKV c.K F' xs ds
theorem putD_len {β : Type} (kvs : List (Key × β)) (k : Key) (v : β) : (putD kvs k v).length ≤ kvs.length + 1 := by
  unfold putD
  split
  · rw [List.length_map]; omega
  · rw [List.length_append]; exact Nat.le_refl _
def foldD (k : α → Key) (v : α → PyData) (xs : List α) : List (Key × PyData) := xs.foldl (fun acc a => putD acc (k a) (v a)) []
theorem foldD_len (k : α → Key) (v : α → PyData) (xs : List α) : (foldD k v xs).length ≤ xs.length := by
  unfold foldD
  have h : ∀ (xs : List α) (acc : List (Key × PyData)), (xs.foldl (fun acc a => putD acc (k a) (v a)) acc).length ≤ acc.length + xs.length := by
    intro xs
    induction xs with
    | nil => intro acc; exact Nat.le_refl _
    | cons a xs ih =>
      intro acc
      have h1 := ih (putD acc (k a) (v a))
      have h2 := putD_len acc (k a) (v a)
      rw [List.foldl_cons, List.length_cons]
      omega
  have := h xs []
  simpa using this
theorem foldD_step (k : α → Key) (v : α → PyData) {xs : List α} {i : Nat} {a : α} (h : xs[i]? = some a) : foldD k v (xs.take (i + 1)) = putD (foldD k v (xs.take i)) (k a) (v a) := by
  unfold foldD
  rw [List.take_add_one, h]
  show List.foldl _ _ ((xs.take i) ++ [a]) = _
  rw [List.foldl_append]
  rfl
theorem ed_dcT {j : Nat} (enc : α → PyData) (xs : List α) (k : α → Key) (v : α → PyData) (h : EV c tl ρ (.tuple (xs.map enc))) (hz : xs.length ≤ 50000)
    (hk : ∀ a ∈ xs, EV c tk (ρ.set j (.fz (enc a))) (kD (k a))) (he : ∀ a ∈ xs, EV c te (ρ.set j (.fz (enc a))) (v a)) : ED c (tDc (iTup c.K tl) (gName j) tYes tk te [j]) ρ (foldD k v xs) := fun F0 H0 F H σ gd Q q => h F0 H0 F H σ gd _ fun z F1 H1 g1 r1 => by
  have gd1 := gd.grow g1
  cases r1 with
  | @tup a vs _ hr r =>
    refine ⟨a, rfl, ⟨vs, same_t g1.fh hr⟩, fun p np => ?_⟩
    have hl : vs.length = xs.length := by rw [r.length, List.length_map]
    refine dc_tup (xs := vs) (fun i H' => Dcw c F1 H1 p (foldD k v (xs.take i)) H') ⟨F1, [], Gr.own gd1.sm np, same_free gd1.sm np, upd_same, .nil⟩ (fun i H' _ L => by
      obtain ⟨F', _, g', _⟩ := L.ex
      exact same_t g'.fh (same_t g'.ff hr)) ?_ ?_
    · rintro i x H' hx L
      obtain ⟨d, hd, rd⟩ := r.getV hx
      obtain ⟨a', ha, rfl, hm⟩ := take_map hd
      obtain ⟨F', ks, g', nf, hp, rr⟩ := L.ex
      refine ⟨wipe_set1 σ j _, ?_⟩
      have eσ : (wipe σ [j]).set j (some x) = σ.set j (some x) := by rw [wipe1, List.set_set]
      have gd2 := (gd1.grow g').setFz (i := j) (rd.mono g'.ff)
      show tk ((wipe σ [j]).set j (some x)) H' _
      rw [eσ]
      refine hk a' hm F0 H0 F' H' _ gd2 _ fun y F2 H2 g2 r2 => he a' hm F0 H0 F2 H2 _ (gd2.grow g2) _ fun z F3 H3 g3 r3 => ?_
      have G := g2.trans g3
      have hp3 := G.hh p _ hp
      have nf3 : F3 p = none := (G.old p _ hp).trans nf
      have hlen : ks.length ≤ 50000 := by
        rw [kv_length rr]
        have := foldD_len k v (xs.take i)
        have hi : i < vs.length := (List.getElem?_eq_some_iff.mp hx).1
        have := List.length_take_le i xs
        omega
      refine ⟨ks, k a', key_val r2, hp3, smallL (by omega), F3, _, ⟨g'.ff.trans G.ff, fun q u e => ?_, fun q u e => ?_, fun q u e => ?_⟩, nf3, upd_same, ?_⟩
      · rw [upd_ne (ne_of_none e np)]; exact (g'.trans G).hh q u e
      · rw [upd_ne (ne_of_none e nf3)]; exact G.fh q u e
      · exact (g'.trans G).old q u e
      · rw [foldD_step k v ha]
        exact kv_put (RpKV.mono G.ff rr) r3
    · rintro H' L
      obtain ⟨F', ws, g', nf, hp, rr⟩ := L.ex
      rw [hl, List.take_length] at rr
      exact q p ws F' H' (g1.trans g') (g1.free np) nf hp rr
end
end DL

set_option maxHeartbeats 4000000
namespace DL
open PySem L2
/-- a module's int -/
theorem pe_globI {X : Cx} {x : Str} {i : Int} {pos : Pos} (hg : Gl X x) (hm : ∃ t, X.mg x = some (.int i t)) (hd : (x == ("__debug__" : Str)) = false := by decide) : PE X (.Name x pos) (tC (.int i)) := by
  obtain ⟨t, h⟩ := hm
  exact pe_glob hg h ⟨t, rfl⟩ hd
/-- the def of this name stands in the program as the text says -/
def Dn (K : PySem.W.Frag) (mg : Str → Option Value) (x : Str) (st : Stmt) : Prop := ∃ (f : Addr) (fd : FuncData), FunD K x x (defArgs st) (defBody st) (defScope st) [] [] f fd ∧ mg x = some (.ref f)
section
variable {P : Program} {w : World} {K : PySem.W.Frag} {mg : Str → Option Value} {base : Heap} {CX : CXT} {x : Str} {st : Stmt} {k : Nat} {ps : List Str} {sp : Sp}
theorem use_of (h : Dn K mg x st) (hb : ∀ (kV doc pm : Value) (an : Option Addr) (cdv ct : Value) (us : List Value), us.length = ps.length → bindArgs (PySem.W.fnOf x x (defArgs st) (defBody st) (defScope st) .none kV doc pm an cdv ct) ⟨us, []⟩ = pure (ps.zip us))
    (ok : ∀ f fd, FunD K x x (defArgs st) (defBody st) (defScope st) [] [] f fd → FnOk P w K mg base CX k f fd ps sp) : Use P w K mg base CX k x ps sp := by
  obtain ⟨f, fd, F, g⟩ := h
  exact ⟨f, fd, ok f fd F, g, F.kp, F.bindsN hb⟩
end
theorem sort_map {β : Type} (enc : β → PyData) (l : List β) : sortD (l.map enc) = (l.mergeSort (PySem.W.dataLe false enc)).map enc :=
  (PySem.W.sort_maps (r := PySem.W.dataLe false enc) (s := PySem.W.dataLe false id) enc (fun a _ b _ => rfl)).symm
theorem kb_bool_bool : kitB "bool" "bool" = some true := by decide +kernel
theorem kb_bool_int : kitB "bool" "int" = some true := by decide +kernel
theorem kb_bool_str : kitB "bool" "str" = some false := by decide +kernel
theorem kb_bool_tuple : kitB "bool" "tuple" = some false := by decide +kernel
theorem kb_bool_list : kitB "bool" "list" = some false := by decide +kernel
theorem kb_int_bool : kitB "int" "bool" = some false := by decide +kernel
theorem kb_int_int : kitB "int" "int" = some true := by decide +kernel
theorem kb_int_str : kitB "int" "str" = some false := by decide +kernel
theorem kb_int_tuple : kitB "int" "tuple" = some false := by decide +kernel
theorem kb_int_list : kitB "int" "list" = some false := by decide +kernel
theorem kb_str_bool : kitB "str" "bool" = some false := by decide +kernel
theorem kb_str_int : kitB "str" "int" = some false := by decide +kernel
theorem kb_str_str : kitB "str" "str" = some true := by decide +kernel
theorem kb_str_tuple : kitB "str" "tuple" = some false := by decide +kernel
theorem kb_str_list : kitB "str" "list" = some false := by decide +kernel
theorem kb_tuple_bool : kitB "tuple" "bool" = some false := by decide +kernel
theorem kb_tuple_int : kitB "tuple" "int" = some false := by decide +kernel
theorem kb_tuple_str : kitB "tuple" "str" = some false := by decide +kernel
theorem kb_tuple_tuple : kitB "tuple" "tuple" = some true := by decide +kernel
theorem kb_tuple_list : kitB "tuple" "list" = some false := by decide +kernel
theorem kb_list_bool : kitB "list" "bool" = some false := by decide +kernel
theorem kb_list_int : kitB "list" "int" = some false := by decide +kernel
theorem kb_list_str : kitB "list" "str" = some false := by decide +kernel
theorem kb_list_tuple : kitB "list" "tuple" = some false := by decide +kernel
theorem kb_list_list : kitB "list" "list" = some true := by decide +kernel
section
variable {c : Wd} {x y d : PyData} {r r' : R2}
theorem ov_or1 (h : OV c r x y d) : OV c (fun x y H Q => r x y H Q ∨ r' x y H Q) x y d := fun F H v u s r1 r2 Q q => .inl (h F H v u s r1 r2 Q q)
theorem ov_or2 (h : OV c r' x y d) : OV c (fun x y H Q => r x y H Q ∨ r' x y H Q) x y d := fun F H v u s r1 r2 Q q => .inr (h F H v u s r1 r2 Q q)
theorem ov_eqb {i j : Bool} : OV c rEq (.bool i) (.bool j) (.bool (decide (i = j))) := fun F H v u s r1 r2 Q q => by
  cases r1; cases r2
  refine ⟨rfl, ?_⟩
  have e : decide (V.bl i = V.bl j) = decide (i = j) := by simp
  rw [e]
  exact q _ F H (Gr.refl s) (.bl _)
end
end DL
namespace DL
open PySem L2
/-! ### rules with the written part named (within a comprehension the context is another one) -/
section
variable (K : PySem.W.Frag) {X : Cx} {k : Nat}
theorem ixT (h : X.K = K := by rfl) : IxR X (rIxT K) := by subst h; exact ix_tup
theorem ixL (h : X.K = K := by rfl) : IxR X (rIxL K) := by subst h; exact ix_list
theorem ixA (h : X.K = K := by rfl) : IxR X (rIx K) := by subst h; exact ix_seq
theorem slTA (h : X.K = K := by rfl) : SlR X (rSlA K) := by subst h; exact sl_tupA
theorem inSq (h : X.K = K := by rfl) : OpR X (compareOp .In) (rIn K false) := by subst h; exact op_in_seq
theorem notInSq (h : X.K = K := by rfl) : OpR X (compareOp .NotIn) (rIn K true) := by subst h; exact op_notIn_seq
theorem catA (h : X.K = K := by rfl) : OpR X (binaryOp .Add) (rCatA K) := by subst h; exact op_catA
theorem lenSq (h : X.K = K := by rfl) : CallR X (.builtin "len") (fun xs H Q => ∃ p ys, xs = [.ref p] ∧ (SqL K H p ys ∨ SqT K H p ys) ∧ Q (.int ys.length) H) := by subst h; exact call_len_seq
theorem listOf (h : X.K = K := by rfl) : CallR X (.type "list") (fun xs H Q => ∃ p ys, xs = [.ref p] ∧ (SqL K H p ys ∨ SqT K H p ys) ∧ ∀ l, H l = none → Q (.ref l) (upd H l (.lst ys))) := by subst h; exact call_list_of
theorem tupleOf (h : X.K = K := by rfl) : CallR X (.type "tuple") (fun xs H Q => ∃ p ys, xs = [.ref p] ∧ ((SqL K H p ys ∧ ∀ l, H l = none → Q (.ref l) (upd H l (.tup ys))) ∨ (SqT K H p ys ∧ Q (.ref p) H))) := by subst h; exact call_tuple_of
theorem sortDK (hr : Room k X.A) (h : X.K = K := by rfl) : CallR X (.builtin "sorted") (rSortD K) := by subst h; exact cr_sortD hr
theorem eqDK (hr : Room k X.A) (h : X.K = K := by rfl) : OpR X (compareOp .Eq) (rEqD K) := by subst h; exact op_eqD hr.units
theorem neDK (hr : Room k X.A) (h : X.K = K := by rfl) : OpR X (compareOp .NotEq) (rNeD K) := by subst h; exact op_neD hr.units
theorem ltDK (hr : Room k X.A) (h : X.K = K := by rfl) : OpR X (compareOp .Lt) (rLtD K) := by subst h; exact op_ltD hr
theorem isiK (h : X.K = K := by rfl) : CallR X (.builtin "isinstance") (rIsi K) := by subst h; exact call_isi
end
end DL

set_option maxHeartbeats 4000000
namespace DL
open PySem L2
/-! ### results that are told by what holds of them -/
def EVR (c : Wd) (te : TE) (ρ : List Sl) (R : PyData → Prop) : Prop := ∀ (F0 H0 F H : Hp) (σ : L2.St), Good c.P c.w c.K c.B F0 H0 F H σ ρ → ∀ Q : VK, (∀ d v F' H', R d → Gr F H F' H' → Rp c.K F' v d → Q v H') → te σ H Q
def EDR (c : Wd) (te : TE) (ρ : List Sl) (R : List (Key × PyData) → Prop) : Prop := ∀ (F0 H0 F H : Hp) (σ : L2.St), Good c.P c.w c.K c.B F0 H0 F H σ ρ → ∀ Q : VK,
  (∀ kvs p xs F' H', R kvs → Gr F H F' H' → H p = none → F' p = none → H' p = some (.dK xs) → RpKV c.K F' xs kvs → Q (.ref p) H') → te σ H Q
section
variable {α : Type}
def spRV (K : PySem.W.Frag) (enc : α → List PyData) (pre : α → Prop) (R : α → PyData → Prop) : Sp := fun vs H Q _ => ∃ F a, Same F H ∧ RpAll K F vs (enc a) ∧ pre a ∧ ∀ d v F' H', R a d → Gr F H F' H' → Rp K F' v d → Q v H'
def spRD (K : PySem.W.Frag) (enc : α → List PyData) (pre : α → Prop) (R : α → List (Key × PyData) → Prop) : Sp := fun vs H Q _ => ∃ F a, Same F H ∧ RpAll K F vs (enc a) ∧ pre a ∧
  ∀ kvs p xs F' H', R a kvs → Gr F H F' H' → H p = none → F' p = none → H' p = some (.dK xs) → RpKV K F' xs kvs → Q (.ref p) H'
variable {c : Wd} {ρ : List Sl} {tas : TA} {te td tk : TE} {enc : α → List PyData} {pre : α → Prop} {F0 H0 : Hp} {D : Ends}
theorem evr_call {R : α → PyData → Prop} {E : XK} (a : α) (h : EA c tas ρ (enc a)) (hp : pre a) : EVR c (tCall (spRV c.K enc pre R) [] E tas) ρ (R a) := fun F0 H0 F H σ g Q q => h F0 H0 F H σ g _ fun vs F1 H1 g1 r1 =>
  ⟨F1, a, g1.fh, by rw [List.append_nil]; exact r1, hp, fun d v F2 H2 hR g2 r2 => q d v F2 H2 hR (g1.trans g2) r2⟩
theorem edr_call {R : α → List (Key × PyData) → Prop} {E : XK} (a : α) (h : EA c tas ρ (enc a)) (hp : pre a) : EDR c (tCall (spRD c.K enc pre R) [] E tas) ρ (R a) := fun F0 H0 F H σ g Q q => h F0 H0 F H σ g _ fun vs F1 H1 g1 r1 =>
  ⟨F1, a, g1.fh, by rw [List.append_nil]; exact r1, hp, fun kvs p xs F2 H2 hR g2 np nf hp r2 => q kvs p xs F2 H2 hR (g1.trans g2) (g1.free np) nf hp r2⟩
theorem EDR.evr {R : List (Key × PyData) → Prop} (h : EDR c te ρ R) : EVR c te ρ (fun d => ∃ kvs, R kvs ∧ d = dicD kvs) := fun F0 H0 F H σ g Q q => h F0 H0 F H σ g Q fun kvs p xs F' H' hR gr np nf hp rp => by
  have ff : Same F' (upd F' p (.dK xs)) := same_new nf
  refine q _ (.ref p) (upd F' p (.dK xs)) H' ⟨kvs, hR, rfl⟩ ⟨gr.ff.trans ff, gr.hh, fun b u e => ?_, fun b u e => ?_⟩ (.dic (.inl upd_same) (RpKV.mono ff rp))
  · by_cases hb : b = p
    · subst hb; rw [upd_same] at e; cases e; exact hp
    · rw [upd_ne hb] at e; exact gr.fh b u e
  · rw [upd_ne (ne_of_none e np)]; exact gr.old b u e
theorem w_asgR {R : PyData → Prop} {i : Nat} (h : EVR c te ρ R) (hk : ∀ d, R d → W c F0 H0 D.nx (ρ.set i (.fz d))) : W c F0 H0 (tAsg te (gName i) D) ρ := fun F H σ gd => h F0 H0 F H σ gd _ fun d v F1 H1 hR g1 r1 => hk d hR F1 H1 _ ((gd.grow g1).setFz r1)
theorem w_asgRT {R : PyData → Prop} {g : TG} (h : EVR c te ρ R) (hk : ∀ d, R d → ∃ ρ', TGt c g d ρ ρ' ∧ W c F0 H0 D.nx ρ') : W c F0 H0 (tAsg te g D) ρ := fun F H σ gd => h F0 H0 F H σ gd _ fun d v F1 H1 hR g1 r1 => by
  obtain ⟨ρ', tg, w⟩ := hk d hR
  exact tg F0 H0 F1 H1 σ v (gd.grow g1) r1 D.nx fun σ' g' => w F1 H1 σ' g'
theorem w_dropR {R : PyData → Prop} (h : EVR c te ρ R) (hk : W c F0 H0 D.nx ρ) : W c F0 H0 (tDrop te D) ρ := fun F H σ gd => h F0 H0 F H σ gd _ fun d v F1 H1 hR g1 r1 => hk F1 H1 σ (gd.grow g1)
theorem w_retR {R : PyData → Prop} (h : EVR c te ρ R) (hk : ∀ d v F' H', R d → Gr F0 H0 F' H' → Rp c.K F' v d → D.rt v H') : W c F0 H0 (tRet te D) ρ := fun F H σ gd => h F0 H0 F H σ gd _ fun d v F1 H1 hR g1 r1 => hk d v F1 H1 hR (gd.gr.trans g1) r1
theorem EVR.imp {R R' : PyData → Prop} (h : EVR c te ρ R) (i : ∀ d, R d → R' d) : EVR c te ρ R' := fun F0 H0 F H σ g Q q => h F0 H0 F H σ g Q fun d v F' H' hR gr r => q d v F' H' (i d hR) gr r
theorem EVR.ev {R : PyData → Prop} {d : PyData} (h : EVR c te ρ R) (i : ∀ e, R e → e = d) : EV c te ρ d := fun F0 H0 F H σ g Q q => h F0 H0 F H σ g Q fun e v F' H' hR gr r => q v F' H' gr (i e hR ▸ r)
theorem EV.evr {R : PyData → Prop} {d : PyData} (h : EV c te ρ d) (i : R d) : EVR c te ρ R := fun F0 H0 F H σ g Q q => h F0 H0 F H σ g Q fun v F' H' gr r => q d v F' H' i gr r
/-- an operator's first operand told by what holds of it -/
theorem evr_op1 {ta tb : TE} {r : R2} {R R' : PyData → Prop} {y : PyData} (ha : EVR c ta ρ R) (hb : EV c tb ρ y) (hr : ∀ x, R x → ∃ z, R' z ∧ OV c r x y z) : EVR c (tOp r ta tb) ρ R' := fun F0 H0 F H σ g Q q =>
  ha F0 H0 F H σ g _ fun x v F1 H1 hR g1 r1 => hb F0 H0 F1 H1 σ (g.grow g1) _ fun u F2 H2 g2 r2 => by
    obtain ⟨z, hz, ov⟩ := hr x hR
    exact ov F2 H2 v u g2.fh (r1.mono g2.ff) r2 Q fun w F3 H3 g3 r3 => q z w F3 H3 hz ((g1.trans g2).trans g3) r3
theorem evr_dget {R : List (Key × PyData) → Prop} {R' : PyData → Prop} {k : Key} (h : EVR c td ρ (fun d => ∃ kvs, R kvs ∧ d = dicD kvs)) (hk : EV c tk ρ (kD k)) (e : ∀ kvs, R kvs → ∃ d, gV kvs k = some d ∧ R' d) : EVR c (tDGet td tk) ρ R' := fun F0 H0 F H σ g Q q =>
  h F0 H0 F H σ g _ fun dd v F1 H1 hR g1 r1 => hk F0 H0 F1 H1 σ (g.grow g1) _ fun u F2 H2 g2 r2 => by
    obtain ⟨kvs, hK, rfl⟩ := hR
    obtain ⟨d, e0, hd⟩ := e kvs hK
    obtain ⟨a, ks, rfl, hr, r⟩ := dic_inv r1
    rcases kv_get (k := k) r with ⟨z, d', e1, e2, rz⟩ | ⟨_, e2⟩
    · rw [e0] at e2; cases e2
      rw [key_val r2]
      exact ⟨a, z, rfl, by rw [← e1]; exact dg_of (same_rd g2.fh (same_rd g2.ff hr)), q _ z F2 H2 hd (g1.trans g2) (rz.mono g2.ff)⟩
    · rw [e0] at e2; cases e2
end
section
variable {P : Program} {w : World} {K : PySem.W.Frag} {mg : Str → Option Value} {base : Heap} {x qual : Str} {pa : Arguments} {bd : List Stmt} {sc : Scope} {f : Addr} {fd : FuncData} {α : Type} {enc : α → List PyData} {pre : α → Prop} {N ps : List Str} {k : Nat}
theorem fn_RV {R : α → PyData → Prop} (F : FunD K x qual pa bd sc [] [] f fd) (S : FnScope N ps sc) (hl : ∀ a, (enc a).length = ps.length)
    (hb : ∀ (cdv : Value) (A : Around) (outer : List Env) (s : Shared) (H : Hp) (E : XK), Room k (A.deeper (PyProof.Rows.envOfC qual sc s.heap.objs.size f cdv)) → ∃ t, PSs (cxOf CX0 P w K mg base N qual sc f cdv A outer s H E).nox bd t ∧
      ∀ (F0 H0 : Hp) (a : α) (Q : VK), pre a → (∀ d v F' H', R a d → Gr F0 H0 F' H' → Rp K F' v d → Q v H') → W (wd P w K) F0 H0 (t (ends Q)) (slots N (enc a))) : FnOk P w K mg base CX0 (k + 1) f fd ps (spRV K enc pre R) := by
  refine F.ok S (fun vs H Q E h => ?_) (fun cdv A outer s H vs Q E hr h => ?_)
  · obtain ⟨F, a, _, r, _, _⟩ := h
    rw [r.length, hl]
  · obtain ⟨t, ht, hw⟩ := hb cdv A outer s H E hr
    obtain ⟨F, a, sm, r, hp, q⟩ := h
    exact ⟨t, ht.nox, hw F H a Q hp q F H _ (good_start sm r)⟩
theorem fn_RD {R : α → List (Key × PyData) → Prop} (F : FunD K x qual pa bd sc [] [] f fd) (S : FnScope N ps sc) (hl : ∀ a, (enc a).length = ps.length)
    (hb : ∀ (cdv : Value) (A : Around) (outer : List Env) (s : Shared) (H : Hp) (E : XK), Room k (A.deeper (PyProof.Rows.envOfC qual sc s.heap.objs.size f cdv)) → ∃ t, PSs (cxOf CX0 P w K mg base N qual sc f cdv A outer s H E).nox bd t ∧
      ∀ (F0 H0 : Hp) (a : α) (Q : VK), pre a → (∀ kvs p xs F' H', R a kvs → Gr F0 H0 F' H' → H0 p = none → F' p = none → H' p = some (.dK xs) → RpKV K F' xs kvs → Q (.ref p) H') → W (wd P w K) F0 H0 (t (ends Q)) (slots N (enc a))) : FnOk P w K mg base CX0 (k + 1) f fd ps (spRD K enc pre R) := by
  refine F.ok S (fun vs H Q E h => ?_) (fun cdv A outer s H vs Q E hr h => ?_)
  · obtain ⟨F, a, _, r, _, _⟩ := h
    rw [r.length, hl]
  · obtain ⟨t, ht, hw⟩ := hb cdv A outer s H E hr
    obtain ⟨F, a, sm, r, hp, q⟩ := h
    exact ⟨t, ht.nox, hw F H a Q hp q F H _ (good_start sm r)⟩
end
end DL

set_option maxHeartbeats 4000000
namespace DL
open PySem L2
/-! ### the sorted texts -/
def sortS (ss : List Str) : List Str := ss.mergeSort (PySem.W.dataLe false PyData.str)
theorem sortS_perm (ss : List Str) : (sortS ss).Perm ss := List.mergeSort_perm _ _
theorem sortS_up (ss : List Str) : (sortS ss).Pairwise (fun a b => a.cps.toList ≤ b.cps.toList) := by
  have h := PySem.W.sort_pairwise (le := PySem.W.dataLe false PyData.str) (PySem.W.sortLe_total _ _ _) ss
  have e : PySem.W.dataLe false PyData.str = fun a b : Str => decide (a.cps.toList ≤ b.cps.toList) := PySem.W.dataLe_str id
  exact h.imp fun {a b} h => by
    rw [e] at h
    exact of_decide_eq_true h
theorem up_unique {a b : List Str} (p : a.Perm b) (ha : a.Pairwise (fun a b => a.cps.toList ≤ b.cps.toList)) (hb : b.Pairwise (fun a b => a.cps.toList ≤ b.cps.toList)) : a = b :=
  List.Perm.eq_of_pairwise (fun x y _ _ h1 h2 => PySem.W.str_of_cps (List.le_antisymm h1 h2)) ha hb p
theorem sortS_eq {a b : List Str} (p : a.Perm b) : sortS a = sortS b := up_unique ((sortS_perm a).trans (p.trans (sortS_perm b).symm)) (sortS_up a) (sortS_up b)
theorem sortS_id {a : List Str} (h : a.Pairwise (fun a b => a.cps.toList ≤ b.cps.toList)) : sortS a = a := up_unique (sortS_perm a) (sortS_up a) h
theorem mem_sortS {a : List Str} {x : Str} : x ∈ sortS a ↔ x ∈ a := (sortS_perm a).mem_iff
theorem cl_sortSS {c : Wd} {ss : List Str} (hL : ss.length ≤ 100000) : CL c (rSortD c.K) [.list (ss.map .str)] ((sortS ss).map .str) := by
  have h := cl_sortS (c := c) hL
  rw [sort_map] at h
  exact h
/-- two lists without repeats and with the same members -/
theorem perm_of {a b : List Str} (ha : a.Nodup) (hb : b.Nodup) (h : ∀ x, x ∈ a ↔ x ∈ b) : a.Perm b := (List.perm_ext_iff_of_nodup ha hb).mpr h
end DL

set_option maxHeartbeats 4000000
namespace DL
open PySem L2
/-! ### for k in d: the dict is locked while the loop runs -/
def tLk (t : TS) : TS := fun D σ H => tLock t D σ H ∨ t D σ H
theorem ps_lk {X : Cx} {st : Stmt} {t : TS} (h : PS X st t) : PS X st (tLk t) :=
  ⟨fun pins s σ H D I hw => hw.elim (fun q => (ps_lock h).run pins s σ H D I q) (fun q => h.run pins s σ H D I q)⟩
theorem for_keys {d : Addr} {o : Obj} {xs : List (Key × V)} {g : TG} {tb : TS} {D : Ends} {σ : L2.St} {H : Hp} (Pv : Nat → L2.St → Hp → Prop) (h0 : Pv 0 σ H) (hl : ∀ i σ H, i ≤ xs.length → Pv i σ H → H d = some (.frz o (.dK xs)))
    (hs : ∀ i k v σ H, xs[i]? = some (k, v) → Pv i σ H → g (kV k) σ H fun σ2 H2 => tb { D with nx := Pv (i + 1), ct := Pv (i + 1), bk := D.nx } σ2 H2) (hd : ∀ σ H, Pv xs.length σ H → D.nx σ H) :
    ∃ W : Nat → Nat → L2.St → Hp → Prop, (∃ m, W 0 m σ H) ∧ ∀ i m σ H, W i m σ H →
      ((Itk d o xs).stop i H ∧ D.nx σ H) ∨ ((Itk d o xs).go i H ∧ ∃ N : L2.St → Hp → Prop, (∀ σ' H', N σ' H' → ∃ m', m' < m ∧ W (i + 1) m' σ' H') ∧ ∀ x H', (Itk d o xs).yld i H x H' → g x σ H' fun σ2 H2 => tb { D with nx := N, ct := N, bk := D.nx } σ2 H2) := by
  refine ⟨fun i m σ H => m = xs.length - i ∧ i ≤ xs.length ∧ Pv i σ H, ⟨xs.length, by simp, Nat.zero_le _, h0⟩, ?_⟩
  rintro i m σ H ⟨rfl, hi, p⟩
  have q := hl i σ H hi p
  by_cases hlt : i < xs.length
  · refine .inr ⟨⟨q, hlt⟩, Pv (i + 1), fun σ' H' p' => ⟨xs.length - (i + 1), by omega, rfl, hlt, p'⟩, fun x H' y => ?_⟩
    obtain ⟨e, k, v, ek, ex⟩ := y
    subst e; subst ex
    exact hs i k v σ _ ek p
  · have e : i = xs.length := by omega
    subst e
    exact .inl ⟨⟨q, Nat.le_refl _⟩, hd σ H p⟩
section
variable {a : Addr} {od : Obj} {ks : List (Key × V)} {K : PySem.W.Frag}
/-- the thing at a locked, where it stands -/
def lk (a : Addr) (od : Obj) (u : HO) (X : Hp) : Hp := fun p => if p = a then (X a).map fun _ => .frz od u else X p
theorem lk_ne {u : HO} {X : Hp} {p : Addr} (h : p ≠ a) : lk a od u X p = X p := by unfold lk; rw [if_neg h]
theorem lk_at {u x : HO} {X : Hp} (h : X a = some x) : lk a od u X a = some (.frz od u) := by unfold lk; rw [if_pos rfl, h]; rfl
theorem lk_none {u : HO} {X : Hp} (h : X a = none) : lk a od u X a = none := by unfold lk; rw [if_pos rfl, h]; rfl
theorem lk_upd {u x : HO} {X : Hp} (h : X a = some x) : lk a od u X = upd X a (.frz od u) := by
  funext p
  by_cases e : p = a
  · subst e; rw [lk_at h, upd_same]
  · rw [lk_ne e, upd_ne e]
theorem lk_same {u : HO} {X Y : Hp} (h : Same X Y) : Same (lk a od u X) (lk a od u Y) := fun p o e => by
  by_cases q : p = a
  · subst q
    cases z : X p with
    | none => rw [lk_none z] at e; cases e
    | some x => rw [lk_at z] at e; rw [lk_at (h _ _ z)]; exact e
  · rw [lk_ne q] at e ⊢; exact h _ _ e
/-- readings carry over where each record may be read as before -/
def SameR (X Y : Hp) : Prop := ∀ b u, (∀ o v, u ≠ .frz o v) → Rd X b u → Rd Y b u
theorem sr_l {X Y : Hp} (e : SameR X Y) {b : Addr} {xs : List V} (h : SqL K X b xs) : SqL K Y b xs := by
  rcases h with h | h
  · exact .inl (e _ _ (fun _ _ z => nomatch z) h)
  · exact .inr h
theorem sr_t {X Y : Hp} (e : SameR X Y) {b : Addr} {xs : List V} (h : SqT K X b xs) : SqT K Y b xs := by
  rcases h with h | h
  · exact .inl (e _ _ (fun _ _ z => nomatch z) h)
  · exact .inr h
end
section
variable {K : PySem.W.Frag} {X Y : Hp}
theorem sr_d (e : SameR X Y) {b : Addr} {ks : List (Key × V)} (h : Rd X b (.dK ks)) : Rd Y b (.dK ks) := e _ _ (fun _ _ z => nomatch z) h
mutual
theorem Rp.sr (e : SameR X Y) : ∀ {v : V} {d : PyData}, Rp K X v d → Rp K Y v d
  | _, _, .non => .non
  | _, _, .bl b => .bl b
  | _, _, .int i => .int i
  | _, _, .str x => .str x
  | _, _, .lst h r => .lst (sr_l e h) (RpAll.sr e r)
  | _, _, .tup h r => .tup (sr_t e h) (RpAll.sr e r)
  | _, _, .dic h r => .dic (sr_d e h) (RpKV.sr e r)
theorem RpAll.sr (e : SameR X Y) : ∀ {vs : List V} {ds : List PyData}, RpAll K X vs ds → RpAll K Y vs ds
  | _, _, .nil => .nil
  | _, _, .cons h t => .cons (Rp.sr e h) (RpAll.sr e t)
theorem RpKV.sr (e : SameR X Y) : ∀ {vs : List (Key × V)} {ds : List (Key × PyData)}, RpKV K X vs ds → RpKV K Y vs ds
  | _, _, .nil => .nil
  | _, _, .cons h t => .cons (Rp.sr e h) (RpKV.sr e t)
end
end
section
variable {a : Addr} {od : Obj} {ks : List (Key × V)} {K : PySem.W.Frag}
theorem sr_lock {X : Hp} (h : X a = some (.dK ks)) : SameR X (lk a od (.dK ks) X) := fun b u nf r => by
  by_cases e : b = a
  · subst e
    rcases r with r | ⟨o, r⟩
    · rw [h] at r; cases r; exact .inr ⟨od, lk_at h⟩
    · rw [h] at r; cases r
  · rcases r with r | ⟨o, r⟩
    · exact .inl (by rw [lk_ne e]; exact r)
    · exact .inr ⟨o, by rw [lk_ne e]; exact r⟩
theorem sr_unlock {X : Hp} (h : X a = some (.frz od (.dK ks))) : SameR X (upd X a (.dK ks)) := fun b u nf r => by
  by_cases e : b = a
  · subst e
    rcases r with r | ⟨o, r⟩
    · rw [h] at r; cases r; exact absurd rfl (nf _ _)
    · rw [h] at r; cases r; exact .inl upd_same
  · rcases r with r | ⟨o, r⟩
    · exact .inl (by rw [upd_ne e]; exact r)
    · exact .inr ⟨o, by rw [upd_ne e]; exact r⟩
variable {P : Program} {w : World}
theorem own_sr {X Y : Hp} (e : SameR X Y) {p : Addr} {o : HO} {s : Sl} (h : OwnIs P w K X p o s) : OwnIs P w K Y p o s := by
  cases s with
  | ol ds => obtain ⟨xs, rfl, r⟩ := h; exact ⟨xs, rfl, r.sr e⟩
  | od kvs => obtain ⟨xs, rfl, r⟩ := h; exact ⟨xs, rfl, RpKV.sr e r⟩
  | os S n => exact h
  | un => exact h
  | fz d => exact h
theorem good_lock {B F0 H0 F H : Hp} {σ : L2.St} {ρ : List Sl} (g : Good P w K B F0 H0 F H σ ρ) (hF : F a = some (.dK ks)) : Good P w K (lk a od (.dK ks) F) (lk a od (.dK ks) F0) (lk a od (.dK ks) H0) (lk a od (.dK ks) F) (lk a od (.dK ks) H) σ ρ where
  an := Same.refl _
  sm := lk_same g.sm
  gr := ⟨lk_same g.gr.ff, lk_same g.gr.hh, lk_same g.gr.fh, fun p o e => by
    by_cases q : p = a
    · subst q
      cases z : H0 p with
      | none => rw [lk_none z] at e; cases e
      | some x =>
        have := g.gr.old _ _ z
        rw [hF] at this
        rw [lk_at hF, lk_at this.symm]
    · rw [lk_ne q] at e ⊢; rw [lk_ne q]; exact g.gr.old _ _ e⟩
  len := g.len
  fz := fun i d h => by
    obtain ⟨v, e, r⟩ := g.fz i d h
    exact ⟨v, e, r.sr (sr_lock hF)⟩
  ow := fun i s h ho => by
    obtain ⟨p, o, e, n0, nf, hp, x⟩ := g.ow i s h ho
    have ne : p ≠ a := fun z => by rw [z, hF] at nf; cases nf
    exact ⟨p, o, e, by rw [lk_ne ne]; exact n0, by rw [lk_ne ne]; exact nf, by rw [lk_ne ne]; exact hp, own_sr (sr_lock hF) x⟩
  ap := g.ap
theorem good_unlock {B F0 H0 F H F' H' : Hp} {σ σ' : L2.St} {ρ ρ' : List Sl} (g : Good P w K B F0 H0 F H σ ρ) (hF : F a = some (.dK ks)) (g' : Good P w K (lk a od (.dK ks) F) (lk a od (.dK ks) F0) (lk a od (.dK ks) H0) F' H' σ' ρ') :
    H' a = some (.frz od (.dK ks)) ∧ Good P w K B F0 H0 (upd F' a (.dK ks)) (upd H' a (.dK ks)) σ' ρ' := by
  have fa : F' a = some (.frz od (.dK ks)) := g'.an _ _ (lk_at hF)
  have ha : H' a = some (.frz od (.dK ks)) := g'.sm _ _ fa
  have up : ∀ {X Y : Hp}, (∀ o, X a = some o → o = .dK ks) → Same (lk a od (.dK ks) X) Y → Same X (upd Y a (.dK ks)) := fun {X Y} h1 h2 p o e => by
    by_cases q : p = a
    · subst q; rw [upd_same, h1 o e]
    · rw [upd_ne q]; exact h2 _ _ (by rw [lk_ne q]; exact e)
  have hH : H a = some (.dK ks) := g.sm _ _ hF
  refine ⟨ha, ⟨?_, ?_, ⟨?_, ?_, ?_, ?_⟩, g'.len, ?_, ?_, g'.ap⟩⟩
  · intro p o e
    have e2 := g.an _ _ e
    by_cases q : p = a
    · subst q; rw [hF] at e2; rw [upd_same]; exact e2
    · rw [upd_ne q]; exact g'.an _ _ (by rw [lk_ne q]; exact e2)
  · intro p o e
    by_cases q : p = a
    · subst q; rw [upd_same] at e ⊢; exact e
    · rw [upd_ne q] at e ⊢; exact g'.sm _ _ e
  · exact up (fun o e => by have := g.gr.ff _ _ e; rw [hF] at this; cases this; rfl) g'.gr.ff
  · exact up (fun o e => by have := g.gr.hh _ _ e; rw [hH] at this; cases this; rfl) g'.gr.hh
  · intro p o e
    by_cases q : p = a
    · subst q; rw [upd_same] at e ⊢; exact e
    · rw [upd_ne q] at e ⊢; exact g'.gr.fh _ _ e
  · intro p o e
    by_cases q : p = a
    · subst q; rw [upd_same, ← g.gr.old _ _ e, hF]
    · rw [upd_ne q, g'.gr.old p o (by rw [lk_ne q]; exact e), lk_ne q]
  · intro i d h
    obtain ⟨v, e, r⟩ := g'.fz i d h
    exact ⟨v, e, r.sr (sr_unlock fa)⟩
  · intro i s h ho
    obtain ⟨p, o, e, n0, nf, hp, x⟩ := g'.ow i s h ho
    have ne : p ≠ a := fun z => by rw [z, fa] at nf; cases nf
    exact ⟨p, o, e, by rw [lk_ne ne] at n0; exact n0, by rw [upd_ne ne]; exact nf, by rw [upd_ne ne]; exact hp, own_sr (sr_unlock fa) x⟩
end
theorem rpKV_get {K : PySem.W.Frag} {F : Hp} : ∀ {ks : List (Key × V)} {kvs : List (Key × PyData)} {i : Nat} {k : Key} {v : V}, RpKV K F ks kvs → ks[i]? = some (k, v) → ∃ d, kvs[i]? = some (k, d)
  | _, _, 0, k, v, .cons h t, e => by
    have e' := Option.some.inj e
    cases e'
    exact ⟨_, rfl⟩
  | _, _, i + 1, k, v, .cons h t, e => rpKV_get t (i := i) e
  | _, _, i, k, v, .nil, e => by cases i <;> cases e
theorem rp_key {K : PySem.W.Frag} {F : Hp} (k : Key) : Rp K F (kV k) (kD k) := by
  cases k with
  | inl i => exact .int i
  | inr s => exact .str s
section
variable {c : Wd} {F0 H0 : Hp} {ρ : List Sl} {D : Ends} {t : TS} {g : TG}
theorem w_forK (P : Nat → List Sl → Prop) {i : Nat} {kvs : List (Key × PyData)} (hi : ρ[i]? = some (.fz (dicD kvs))) (h0 : P 0 ρ)
    (hs : ∀ (B F0' H0' : Hp) (D' : Ends) (j : Nat) (k : Key) (d : PyData) (ρ1 : List Sl), kvs[j]? = some (k, d) → P j ρ1 → ∃ ρ2, TGt (c.at B) g (kD k) ρ1 ρ2 ∧ W (c.at B) F0' H0' (t { D' with nx := Kp (c.at B) F0' H0' (P (j + 1)), ct := Kp (c.at B) F0' H0' (P (j + 1)), bk := D'.nx }) ρ2)
    (hd : ∀ ρ1, P kvs.length ρ1 → W c F0 H0 D.nx ρ1) : W c F0 H0 (tLk (tFor (iKeys (tVar i)) g t) D) ρ := fun F H σ gd => by
  obtain ⟨v, hσ, rp⟩ := gd.fz i _ hi
  obtain ⟨a, ks, rfl, hr, r⟩ := dic_inv rp
  have hlen := kv_length r
  rcases hr with hF | ⟨o, hF⟩
  · refine .inl ⟨a, .dK ks, gd.sm _ _ hF, trivial, fun od => ?_⟩
    have g1 := good_lock (od := od) gd hF
    rw [← lk_upd (gd.sm _ _ hF)]
    refine ⟨_, hσ, a, od, rfl, .inl ⟨ks, lk_at (gd.sm _ _ hF), for_keys (fun j => Kp (c.at (lk a od (.dK ks) F)) (lk a od (.dK ks) F0) (lk a od (.dK ks) H0) (P j)) ⟨_, ρ, h0, g1⟩ ?_ ?_ ?_⟩⟩
    · rintro j σ' H' _ ⟨F', ρ1, _, g'⟩
      exact g'.sm _ _ (g'.an _ _ (lk_at hF))
    · rintro j k v σ' H' hk ⟨F', ρ1, p, g'⟩
      obtain ⟨d, hd'⟩ := rpKV_get r hk
      obtain ⟨ρ2, tg, w⟩ := hs (lk a od (.dK ks) F) (lk a od (.dK ks) F0) (lk a od (.dK ks) H0) _ j k d ρ1 hd' p
      exact tg _ _ F' H' σ' _ g' (rp_key k) _ fun σ2 g2 => w F' H' σ2 g2
    · rintro σ' H' ⟨F', ρ1, p, g'⟩
      obtain ⟨e, g2⟩ := good_unlock gd hF g'
      rw [hlen] at p
      exact ⟨e, hd ρ1 p _ _ σ' g2⟩
  · refine .inr ⟨_, hσ, a, o, rfl, .inl ⟨ks, gd.sm _ _ hF, for_keys (fun j => Kp (c.at F) F0 H0 (P j)) ⟨F, ρ, h0, good_at gd (Same.refl _)⟩ ?_ ?_ ?_⟩⟩
    · rintro j σ' H' _ ⟨F', ρ1, _, g'⟩
      exact g'.sm _ _ (g'.an _ _ hF)
    · rintro j k v σ' H' hk ⟨F', ρ1, p, g'⟩
      obtain ⟨d, hd'⟩ := rpKV_get r hk
      obtain ⟨ρ2, tg, w⟩ := hs F F0 H0 D j k d ρ1 hd' p
      exact tg _ _ F' H' σ' _ g' (rp_key k) _ fun σ2 g2 => w F' H' σ2 g2
    · rintro σ' H' ⟨F', ρ1, p, g'⟩
      rw [hlen] at p
      exact hd ρ1 p F' H' σ' (good_un g' gd.an)
/-- look at an owned container while an expression told by what holds of it is read -/
theorem evr_lend {te : TE} {R : PyData → Prop} {i : Nat} {s : Sl} {d0 : PyData} (hi : ρ[i]? = some s) (hd : s.data = some d0) (h : EVR c te (ρ.set i (.fz d0)) R) (f : ∀ d, R d → flat d = true) : EVR c te ρ R := fun F0 H0 F H σ g Q q => by
  obtain ⟨F1, g1, _, k⟩ := lend g hi hd
  exact h F0 H0 F1 H σ g1 Q fun d v F2 H2 hR g2 r2 => q d v _ H2 hR (k F2 H2 g2) (r2.flat (f d hR))
theorem ed_one {tk tv : TE} {k : Key} {d : PyData} (hk : EV c tk ρ (kD k)) (hv : EV c tv ρ d) : ED c (tDisp [(tk, tv)]) ρ [(k, d)] := fun F0 H0 F H σ g Q q => fun p np => by
  have nf : F p = none := same_free g.sm np
  have g0 : Gr F H F (upd H p (.dK [])) := Gr.own g.sm np
  refine hk F0 H0 F _ σ (g.grow g0) _ fun u F1 H1 g1 r1 => hv F0 H0 F1 H1 σ ((g.grow g0).grow g1) _ fun v F2 H2 g2 r2 => ?_
  have G := g1.trans g2
  have hp2 : H2 p = some (.dK []) := G.hh _ _ upd_same
  have nf2 : F2 p = none := (G.old _ _ upd_same).trans nf
  refine ⟨hp2, [(k, v)], by rw [key_val r1]; rfl, Nat.le_of_ble_eq_true rfl, ?_⟩
  show Q (.ref p) (upd H2 p (.dK [(k, v)]))
  refine q p _ F2 _ ⟨G.ff, fun b o e => ?_, fun b o e => ?_, fun b o e => ?_⟩ np nf2 upd_same (.cons r2 .nil)
  · rw [upd_ne (ne_of_none e np)]
    exact (g0.trans G).hh b o e
  · rw [upd_ne (ne_of_none e nf2)]
    exact G.fh b o e
  · exact (g0.trans G).old b o e
theorem tg_lst {g : TGs} {ds : List PyData} {ρ' : List Sl} {n : Nat} (h : TGs' c g ds ρ ρ') (hn : ds.length = n) : TGt c (gLst c.K n g) (.list ds) ρ ρ' := fun F0 H0 F H σ v gd r k hk => by
  cases r with
  | lst h1 r1 => exact ⟨_, _, rfl, same_l gd.sm h1, by rw [r1.length]; exact hn, h F0 H0 F H σ _ gd r1 k hk⟩
theorem rpAll_rep {K : PySem.W.Frag} {F : Hp} {vs : List V} {ds : List PyData} (r : RpAll K F vs ds) : ∀ n : Nat, RpAll K F (List.replicate n vs).flatten (List.replicate n ds).flatten
  | 0 => .nil
  | n + 1 => by
    rw [List.replicate_succ, List.replicate_succ, List.flatten_cons, List.flatten_cons]
    exact r.append (rpAll_rep r n)
theorem el_rep {ta tk : TE} {xs : List PyData} {k : Int} (ha : EL c ta ρ xs) (hk : EV c tk ρ (.int k)) (hz : 0 ≤ k ∧ k ≤ 1000 ∧ xs.length ≤ 100) : EL c (tOp rRep ta tk) ρ (List.replicate k.toNat xs).flatten := fun F0 H0 F H σ g Q q =>
  ha F0 H0 F H σ g _ fun p vs F1 H1 g1 np nf hp r1 => hk F0 H0 F1 H1 σ (g.grow g1) _ fun u F2 H2 g2 r2 => by
    cases r2
    have hl : vs.length * k.toNat ≤ 100 * 1000 := Nat.mul_le_mul (by rw [r1.length]; exact hz.2.2) (by omega)
    exact ⟨p, k, vs, rfl, rfl, g2.hh p _ hp, by omega, by omega, small hl, fun l nl =>
      have gl := Gr.own (o := .lst (List.replicate k.toNat vs).flatten) g2.fh nl
      q l _ _ _ ((g1.trans g2).trans gl) ((g1.trans g2).free nl) (same_free g2.fh nl) upd_same (rpAll_rep (r1.mono g2.ff) _)⟩
end
end DL

set_option maxHeartbeats 4000000
namespace Kx
open PySem L2 DL
def top (i : Nat) : Stmt := PySem.Challenge.pw_canalworks_k64_great_canals.main.body.getD i (.Pass ⟨0, 0, 0, 0⟩)
abbrev stLawStrictly : Stmt := top 29
abbrev NLawStrictly : List Str := ["expected", "actual", "place"]
theorem scLawStrictly : FnScope NLawStrictly ["expected", "actual"] (defScope stLawStrictly) := ⟨rfl, rfl, rfl, by decide +kernel, rfl, by decide +kernel, by decide +kernel⟩
abbrev stLawCell : Stmt := top 30
abbrev NLawCell : List Str := ["script", "k"]
theorem scLawCell : FnScope NLawCell ["script", "k"] (defScope stLawCell) := ⟨rfl, rfl, rfl, by decide +kernel, rfl, by decide +kernel, by decide +kernel⟩
abbrev stLawDraw : Stmt := top 31
abbrev NLawDraw : List Str := ["script", "k", "sizes", "cell", "drawn", "size", "mixed", "j"]
theorem scLawDraw : FnScope NLawDraw ["script", "k", "sizes"] (defScope stLawDraw) := ⟨rfl, rfl, rfl, by decide +kernel, rfl, by decide +kernel, by decide +kernel⟩
structure Tl (K : PySem.W.Frag) (mg : Str → Option Value) : Prop where
  m_isinstance : mg "isinstance" = none
  m_bool : mg "bool" = none
  m_int : mg "int" = none
  m_str : mg "str" = none
  m_tuple : mg "tuple" = none
  m_list : mg "list" = none
  m_len : mg "len" = none
  m_range : mg "range" = none
  f_strictly : Dn K mg "_law_strictly" stLawStrictly
  f_cell : Dn K mg "_law_cell" stLawCell
  f_draw : Dn K mg "_law_draw" stLawDraw
section
variable {c : Wd} {ta tb : TE} {ρ : List Sl} {ds : List PyData}
theorem ov_neb {a b : Bool} : OV c rNe (.bool a) (.bool b) (.bool (!decide (a = b))) := fun F H v u s r1 r2 Q q => by
  cases r1; cases r2
  refine ⟨rfl, ?_⟩
  have e : decide (V.bl a = V.bl b) = decide (a = b) := by simp
  rw [e]
  exact q _ F H (Gr.refl s) (.bl _)
theorem ov_ixAL {i : Int} {d : PyData} (e : atI ds i = some d) : OV c (rIx c.K) (.list ds) (.int i) d := fun F H v u s r1 r2 Q q => .inl (ov_ixL e F H v u s r1 r2 Q q)
theorem ov_ixAT {i : Int} {d : PyData} (e : atI ds i = some d) : OV c (rIx c.K) (.tuple ds) (.int i) d := fun F H v u s r1 r2 Q q => .inr (.inl (ov_ixT e F H v u s r1 r2 Q q))
end
theorem at_nat {α : Type} {xs : List α} {i : Nat} {d : α} (h : xs[i]? = some d) : atI xs (i : Int) = some d := by
  have hi : i < xs.length := (List.getElem?_eq_some_iff.mp h).1
  unfold atI ixN
  rw [if_pos (by omega), if_pos (by omega)]
  simpa using h
/-! ### _law_strictly: of equal data -/
mutual
def okD : PyData → Bool
  | .list xs => decide (xs.length ≤ 50000) && okAll xs
  | .tuple xs => decide (xs.length ≤ 50000) && okAll xs
  | .dict _ => false
  | _ => true
def okAll : List PyData → Bool
  | [] => true
  | x :: xs => okD x && okAll xs
end
theorem okAll_mem : ∀ {xs : List PyData}, okAll xs = true → ∀ x ∈ xs, okD x = true
  | [], _, x, h => by cases h
  | y :: ys, h, x, hx => by
    have h' : okD y = true ∧ okAll ys = true := by simpa [okAll] using h
    rcases List.mem_cons.mp hx with rfl | hx
    · exact h'.1
    · exact okAll_mem h'.2 x hx
theorem depth_mem : ∀ {xs : List PyData} {x : PyData}, x ∈ xs → x.depth ≤ PyData.depthAll xs
  | [], _, h => by cases h
  | y :: ys, x, h => by
    have e : PyData.depthAll (y :: ys) = max y.depth (PyData.depthAll ys) := by simp [PyData.depthAll]
    rw [e]
    rcases List.mem_cons.mp h with rfl | h
    · exact Nat.le_max_left _ _
    · exact Nat.le_trans (depth_mem h) (Nat.le_max_right _ _)
section
variable {P : Program} {w : World} {K : PySem.W.Frag} {mg : Str → Option Value} {base : Heap}
abbrev spStrict (K : PySem.W.Frag) (n : Nat) : Sp := spV K (fun d : PyData => [d, d]) (fun d => okD d = true ∧ d.depth < n) fun _ => .bool true
theorem U_strictly (T : Tl K mg) : ∀ n : Nat, Use P w K mg base CX0 (n + 1) "_law_strictly" ["expected", "actual"] (spStrict K n)
  | 0 => use_of T.f_strictly (fun _ _ _ _ _ _ us hl => match us, hl with | [_, _], _ => rfl) fun f fd F => fn_V F scLawStrictly (fun _ => rfl) fun cdv A outer s H E hr => ⟨_, pss_never, fun F0 H0 d Q hp hQ => absurd hp.2 (Nat.not_lt_zero _)⟩
  | n + 1 => by
    have ULawStrictly := U_strictly T n
    refine use_of T.f_strictly (fun _ _ _ _ _ _ us hl => match us, hl with | [_, _], _ => rfl) fun f fd F => ?_
    have nd := scLawStrictly.nd
    refine fn_V F scLawStrictly (fun _ => rfl) fun cdv A outer s H E hr => ⟨_,
      (pss_cons (ps_if (pt_cmpR op_isN (pv 0) pe_non (nomark _)) (pss_one (ps_ret (pe_cmpR op_isN (pv 1) pe_non (nomark _)))) pss_nil)
      (pss_cons (ps_if (pt_val (pe_callB (isiK K) (by rfl) T.m_isinstance (by decide +kernel) (pa_cons (pv 0) (pa_cons (pe_bltn (v := .ty "bool") (by rfl) T.m_bool (by decide +kernel) rfl) pa_nil)))) (pss_one (ps_ret (pe_and (pe_callB (isiK K) (by rfl) T.m_isinstance (by decide +kernel) (pa_cons (pv 1) (pa_cons (pe_bltn (v := .ty "int") (by rfl) T.m_int (by decide +kernel) rfl) pa_nil))) (pe_one (pe_cmpR (op_eq.or (eqDK K hr)) (pv 1) (pv 0) (nomark _)))))) pss_nil)
      (pss_cons (ps_if (pt_val (pe_callB (isiK K) (by rfl) T.m_isinstance (by decide +kernel) (pa_cons (pv 0) (pa_cons (pe_bltn (v := .ty "int") (by rfl) T.m_int (by decide +kernel) rfl) pa_nil)))) (pss_one (ps_ret (pe_and (pe_callB (isiK K) (by rfl) T.m_isinstance (by decide +kernel) (pa_cons (pv 1) (pa_cons (pe_bltn (v := .ty "int") (by rfl) T.m_int (by decide +kernel) rfl) pa_nil))) (pe_and (pe_not (pe_callB (isiK K) (by rfl) T.m_isinstance (by decide +kernel) (pa_cons (pv 1) (pa_cons (pe_bltn (v := .ty "bool") (by rfl) T.m_bool (by decide +kernel) rfl) pa_nil)))) (pe_one (pe_cmpR (op_eq.or (eqDK K hr)) (pv 1) (pv 0) (nomark _))))))) pss_nil)
      (pss_cons (ps_if (pt_val (pe_callB (isiK K) (by rfl) T.m_isinstance (by decide +kernel) (pa_cons (pv 0) (pa_cons (pe_bltn (v := .ty "str") (by rfl) T.m_str (by decide +kernel) rfl) pa_nil)))) (pss_one (ps_ret (pe_and (pe_callB (isiK K) (by rfl) T.m_isinstance (by decide +kernel) (pa_cons (pv 1) (pa_cons (pe_bltn (v := .ty "str") (by rfl) T.m_str (by decide +kernel) rfl) pa_nil))) (pe_one (pe_cmpR (op_eq.or (eqDK K hr)) (pv 1) (pv 0) (nomark _)))))) pss_nil)
      (pss_cons (ps_if (PW.pt (pw_or (pt_cmpR op_ne (pe_callB (isiK K) (by rfl) T.m_isinstance (by decide +kernel) (pa_cons (pv 0) (pa_cons (pe_bltn (v := .ty "tuple") (by rfl) T.m_tuple (by decide +kernel) rfl) pa_nil))) (pe_callB (isiK K) (by rfl) T.m_isinstance (by decide +kernel) (pa_cons (pv 1) (pa_cons (pe_bltn (v := .ty "tuple") (by rfl) T.m_tuple (by decide +kernel) rfl) pa_nil))) (nomark _)) (pw_or1 (pt_cmpR op_ne (pe_callB (isiK K) (by rfl) T.m_isinstance (by decide +kernel) (pa_cons (pv 0) (pa_cons (pe_bltn (v := .ty "list") (by rfl) T.m_list (by decide +kernel) rfl) pa_nil))) (pe_callB (isiK K) (by rfl) T.m_isinstance (by decide +kernel) (pa_cons (pv 1) (pa_cons (pe_bltn (v := .ty "list") (by rfl) T.m_list (by decide +kernel) rfl) pa_nil))) (nomark _))))) (pss_one (ps_ret pe_bl)) pss_nil)
      (pss_cons (ps_if (PW.pt (pw_or (pt_val (pe_callB (isiK K) (by rfl) T.m_isinstance (by decide +kernel) (pa_cons (pv 0) (pa_cons (pe_bltn (v := .ty "tuple") (by rfl) T.m_tuple (by decide +kernel) rfl) pa_nil)))) (pw_or1 (pt_val (pe_callB (isiK K) (by rfl) T.m_isinstance (by decide +kernel) (pa_cons (pv 0) (pa_cons (pe_bltn (v := .ty "list") (by rfl) T.m_list (by decide +kernel) rfl) pa_nil))))))) (pss_cons (ps_if (pt_cmpR op_ne (pe_callB (lenSq K) (by rfl) T.m_len (by decide +kernel) (pa_cons (pv 1) pa_nil)) (pe_callB (lenSq K) (by rfl) T.m_len (by decide +kernel) (pa_cons (pv 0) pa_nil)) (nomark _)) (pss_one (ps_ret pe_bl)) pss_nil)
      (pss_cons (ps_for PassesOwn.never rfl (pi_range1 (by rfl) T.m_range (pa_cons (pe_callB (lenSq K) (by rfl) T.m_len (by decide +kernel) (pa_cons (pv 0) pa_nil)) pa_nil)) (pg_name (i := 2) nd rfl (.inl rfl)) (pss_one (ps_if (pt_not (pt_val (pe_use ULawStrictly hr (pa_cons (pe_ix (ixA K) (pv 0) (pv 2) (fun _ _ => rfl)) (pa_cons (pe_ix (ixA K) (pv 1) (pv 2) (fun _ _ => rfl)) pa_nil))))) (pss_one (ps_ret pe_bl)) pss_nil)))
      (pss_one (ps_ret pe_bl)))) pss_nil)
      (pss_one (ps_ret (pe_cmpR (op_eq.or (eqDK K hr)) (pv 1) (pv 0) (nomark _))))))))))
      , fun F0 H0 d Q hp hQ => ?_⟩
    show W _ F0 H0 _ [.fz d, .fz d, .un]
    have e0 : EV (wd P w K) (tVar 0) [.fz d, .fz d, .un] d := ev_var rfl
    have e1 : EV (wd P w K) (tVar 1) [.fz d, .fz d, .un] d := ev_var rfl
    cases d with
    | none => exact w_if (et_test (ev_op e0 ev_non ov_isN)) (fun _ => w_ret (ev_op e1 ev_non ov_isN) hQ) (fun e => nomatch e)
    | bool b =>
      refine w_if (et_test (ev_op e0 ev_non ov_isN)) (fun e => nomatch e) fun _ => ?_
      refine w_if (et_B (ev_isi e0 kb_bool_bool)) (fun _ => ?_) (fun e => nomatch e)
      refine w_ret ((ev_and (ev_isi e1 kb_bool_int) fun _ => ev_op e1 e0 (ov_or1 ov_eqb)).eq ?_) hQ
      simp
    | int i =>
      refine w_if (et_test (ev_op e0 ev_non ov_isN)) (fun e => nomatch e) fun _ => ?_
      refine w_if (et_B (ev_isi e0 kb_int_bool)) (fun e => nomatch e) fun _ => ?_
      refine w_if (et_B (ev_isi e0 kb_int_int)) (fun _ => ?_) (fun e => nomatch e)
      refine w_ret ((ev_and (ev_isi e1 kb_int_int) fun _ => ev_and (ev_not (ev_isi e1 kb_int_bool)) fun _ => ev_op e1 e0 (ov_or1 ov_eqi)).eq ?_) hQ
      simp
    | str x =>
      refine w_if (et_test (ev_op e0 ev_non ov_isN)) (fun e => nomatch e) fun _ => ?_
      refine w_if (et_B (ev_isi e0 kb_str_bool)) (fun e => nomatch e) fun _ => ?_
      refine w_if (et_B (ev_isi e0 kb_str_int)) (fun e => nomatch e) fun _ => ?_
      refine w_if (et_B (ev_isi e0 kb_str_str)) (fun _ => ?_) (fun e => nomatch e)
      refine w_ret ((ev_and (ev_isi e1 kb_str_str) fun _ => ev_op e1 e0 (ov_or1 ov_eqs)).eq ?_) hQ
      simp
    | dict kvs => exact absurd hp.1 (by simp [okD])
    | list xs =>
      have hx : xs.length ≤ 50000 ∧ okAll xs = true := by simpa [okD] using hp.1
      have hdp : PyData.depthAll xs < n := by
        have h := hp.2
        simp only [PyData.depth] at h
        omega
      refine w_if (et_test (ev_op e0 ev_non ov_isN)) (fun e => nomatch e) fun _ => ?_
      refine w_if (et_B (ev_isi e0 kb_list_bool)) (fun e => nomatch e) fun _ => ?_
      refine w_if (et_B (ev_isi e0 kb_list_int)) (fun e => nomatch e) fun _ => ?_
      refine w_if (et_B (ev_isi e0 kb_list_str)) (fun e => nomatch e) fun _ => ?_
      refine w_if (b := false) (et_or (a := false) (b := false) (et_test (ev_op (ev_isi e0 kb_list_tuple) (ev_isi e1 kb_list_tuple) ov_neb)) fun _ => et_test (ev_op (ev_isi e0 kb_list_list) (ev_isi e1 kb_list_list) ov_neb)) (fun e => nomatch e) fun _ => ?_
      refine w_if (b := true) (et_or (a := false) (b := true) (et_B (ev_isi e0 kb_list_tuple)) fun _ => et_B (ev_isi e0 kb_list_list)) (fun _ => ?_) (fun e => nomatch e)
      refine w_if (et_test (ev_op (ev_cb (ea_cons e1 ea_nil) cv_lenL) (ev_cb (ea_cons e0 ea_nil) cv_lenL) ov_nei)) (fun e => ?_) fun _ => ?_
      · simp at e
      refine w_forR (fun _ ρ => ∃ y, ρ = [.fz (.list xs), .fz (.list xs), y]) (ea_cons (ev_cb (ea_cons e0 ea_nil) cv_lenL) ea_nil) (by omega) ⟨.un, rfl⟩ ?_ ?_
      · rintro i ρ hi ⟨y, rfl⟩
        refine ⟨_, tg_name, ?_⟩
        show W _ F0 H0 _ [.fz (.list xs), .fz (.list xs), .fz (.int i)]
        have hil : i < xs.length := by omega
        have ha : atI xs (i : Int) = some xs[i] := at_nat (List.getElem?_eq_getElem hil)
        have hm : xs[i] ∈ xs := List.getElem_mem hil
        refine w_if (et_not (et_B (ev_call (α := PyData) xs[i] (ea_cons (ev_op (ev_var rfl) (ev_var rfl) (ov_ixAL ha)) (ea_cons (ev_op (ev_var rfl) (ev_var rfl) (ov_ixAL ha)) ea_nil)) ⟨okAll_mem hx.2 _ hm, Nat.lt_of_le_of_lt (depth_mem hm) hdp⟩))) (fun e => nomatch e) fun _ => ?_
        exact w_K ⟨_, rfl⟩
      · rintro ρ ⟨y, rfl⟩
        dsimp only
        refine w_ret ev_bl ?_
        exact hQ
    | tuple xs =>
      have hx : xs.length ≤ 50000 ∧ okAll xs = true := by simpa [okD] using hp.1
      have hdp : PyData.depthAll xs < n := by
        have h := hp.2
        simp only [PyData.depth] at h
        omega
      refine w_if (et_test (ev_op e0 ev_non ov_isN)) (fun e => nomatch e) fun _ => ?_
      refine w_if (et_B (ev_isi e0 kb_tuple_bool)) (fun e => nomatch e) fun _ => ?_
      refine w_if (et_B (ev_isi e0 kb_tuple_int)) (fun e => nomatch e) fun _ => ?_
      refine w_if (et_B (ev_isi e0 kb_tuple_str)) (fun e => nomatch e) fun _ => ?_
      refine w_if (b := false) (et_or (a := false) (b := false) (et_test (ev_op (ev_isi e0 kb_tuple_tuple) (ev_isi e1 kb_tuple_tuple) ov_neb)) fun _ => et_test (ev_op (ev_isi e0 kb_tuple_list) (ev_isi e1 kb_tuple_list) ov_neb)) (fun e => nomatch e) fun _ => ?_
      refine w_if (b := true) (et_or (a := true) (b := true) (et_B (ev_isi e0 kb_tuple_tuple)) fun e => nomatch e) (fun _ => ?_) (fun e => nomatch e)
      refine w_if (et_test (ev_op (ev_cb (ea_cons e1 ea_nil) cv_lenT) (ev_cb (ea_cons e0 ea_nil) cv_lenT) ov_nei)) (fun e => ?_) fun _ => ?_
      · simp at e
      refine w_forR (fun _ ρ => ∃ y, ρ = [.fz (.tuple xs), .fz (.tuple xs), y]) (ea_cons (ev_cb (ea_cons e0 ea_nil) cv_lenT) ea_nil) (by omega) ⟨.un, rfl⟩ ?_ ?_
      · rintro i ρ hi ⟨y, rfl⟩
        refine ⟨_, tg_name, ?_⟩
        show W _ F0 H0 _ [.fz (.tuple xs), .fz (.tuple xs), .fz (.int i)]
        have hil : i < xs.length := by omega
        have ha : atI xs (i : Int) = some xs[i] := at_nat (List.getElem?_eq_getElem hil)
        have hm : xs[i] ∈ xs := List.getElem_mem hil
        refine w_if (et_not (et_B (ev_call (α := PyData) xs[i] (ea_cons (ev_op (ev_var rfl) (ev_var rfl) (ov_ixAT ha)) (ea_cons (ev_op (ev_var rfl) (ev_var rfl) (ov_ixAT ha)) ea_nil)) ⟨okAll_mem hx.2 _ hm, Nat.lt_of_le_of_lt (depth_mem hm) hdp⟩))) (fun e => nomatch e) fun _ => ?_
        exact w_K ⟨_, rfl⟩
      · rintro ρ ⟨y, rfl⟩
        dsimp only
        refine w_ret ev_bl ?_
        exact hQ
/-! ### _law_cell, _law_draw -/
theorem U_cell (T : Tl K mg) : Use P w K mg base CX0 1 "_law_cell" ["script", "k"] (spV K (fun a : List Int × Nat => [.list (a.1.map .int), .int a.2]) (fun _ => True) fun a => .int (a.1.getD a.2 0)) := by
  refine use_of T.f_cell (fun _ _ _ _ _ _ us hl => match us, hl with | [_, _], _ => rfl) fun f fd F => ?_
  have nd := scLawCell.nd
  refine fn_V F scLawCell (fun _ => rfl) fun cdv A outer s H E hr => ⟨_,
    (pss_cons (ps_if (pt_cmpR op_lt (pv 1) (pe_callB (lenSq K) (by rfl) T.m_len (by decide +kernel) (pa_cons (pv 0) pa_nil)) (nomark _)) (pss_one (ps_ret (pe_ix (ixL K) (pv 0) (pv 1) (fun _ _ => rfl)))) pss_nil)
      (pss_one (ps_ret pe_int)))
    , fun F0 H0 a Q hp hQ => ?_⟩
  obtain ⟨ns, k⟩ := a
  refine w_if (et_test (ev_op (ev_var rfl) (ev_cb (ea_cons (ev_var rfl) ea_nil) cv_lenL) ov_b)) (fun e => ?_) (fun e => ?_)
  · have hk : k < ns.length := by
      have := of_decide_eq_true e
      rw [List.length_map] at this
      dsimp only at this
      omega
    refine w_ret (ev_op (ev_var rfl) (ev_var rfl) (ov_ixL (at_nat (d := .int (ns.getD k 0)) ?_))) hQ
    rw [List.getElem?_map, List.getElem?_eq_getElem hk, List.getD_eq_getElem?_getD, List.getElem?_eq_getElem hk]
    rfl
  · have hk : ns.length ≤ k := by
      have := of_decide_eq_false e
      rw [List.length_map] at this
      dsimp only at this
      omega
    refine w_next ?_
    dsimp only
    refine w_ret (d := .int (ns.getD k 0)) (ev_int.eq ?_) hQ
    rw [List.getD_eq_getElem?_getD, List.getElem?_eq_none hk]
    rfl
end
def bigC : Int → List Int → Int
  | c, [] => c
  | c, s :: r => bigC (c / s) r
def bigM : Int → List Int → List Int
  | _, [] => []
  | c, s :: r => c % s :: bigM (c / s) r
theorem big_snoc : ∀ (c : Int) (xs : List Int) (s : Int), bigM c (xs ++ [s]) = bigM c xs ++ [bigC c xs % s] ∧ bigC c (xs ++ [s]) = bigC c xs / s
  | _, [], _ => ⟨rfl, rfl⟩
  | c, x :: xs, s => by
    obtain ⟨h1, h2⟩ := big_snoc (c / x) xs s
    refine ⟨?_, h2⟩
    show c % x :: bigM (c / x) (xs ++ [s]) = c % x :: bigM (c / x) xs ++ [bigC (c / x) xs % s]
    rw [h1]
    rfl
def mixM (m : Int) (j : Nat) : Int := ((m * 48271 + 11 + j) % 2147483647 * 69621 + 3) % 2147483647
def smC : Int → Nat → List Int → Int
  | m, _, [] => m
  | m, j, _ :: r => smC (mixM m j) (j + 1) r
def smM : Int → Nat → List Int → List Int
  | _, _, [] => []
  | m, j, s :: r => mixM m j / 7 % s :: smM (mixM m j) (j + 1) r
theorem sm_snoc : ∀ (m : Int) (j : Nat) (xs : List Int) (s : Int), smM m j (xs ++ [s]) = smM m j xs ++ [mixM (smC m j xs) (j + xs.length) / 7 % s] ∧ smC m j (xs ++ [s]) = mixM (smC m j xs) (j + xs.length)
  | _, _, [], _ => ⟨rfl, rfl⟩
  | m, j, x :: xs, s => by
    obtain ⟨h1, h2⟩ := sm_snoc (mixM m j) (j + 1) xs s
    have e : j + 1 + xs.length = j + (x :: xs).length := by rw [List.length_cons]; omega
    rw [e] at h1 h2
    refine ⟨?_, h2⟩
    show mixM m j / 7 % x :: smM (mixM m j) (j + 1) (xs ++ [s]) = mixM m j / 7 % x :: smM (mixM m j) (j + 1) xs ++ _
    rw [h1]
    rfl
/-- what _law_draw hands back -/
def drawM (ns : List Int) (k : Nat) (sizes : List Int) : List Int :=
  let c := ns.getD k 0
  let c := if c < 0 then -c else c
  if 1000000000000000000 ≤ c then bigM (c - 1000000000000000000) sizes else smM ((c + 1 + 31 * k) % 2147483647) 0 sizes
theorem bigM_len : ∀ (c : Int) (xs : List Int), (bigM c xs).length = xs.length
  | _, [] => rfl
  | c, x :: xs => congrArg Nat.succ (bigM_len (c / x) xs)
theorem smM_len : ∀ (m : Int) (j : Nat) (xs : List Int), (smM m j xs).length = xs.length
  | _, _, [] => rfl
  | m, j, x :: xs => congrArg Nat.succ (smM_len (mixM m j) (j + 1) xs)
theorem drawM_len (ns : List Int) (k : Nat) (sizes : List Int) : (drawM ns k sizes).length = sizes.length := by
  unfold drawM
  simp only
  generalize (if ns.getD k 0 < 0 then -ns.getD k 0 else ns.getD k 0) = c
  split
  · exact bigM_len _ _
  · exact smM_len _ _ _
/-- each drawn number lies below its size -/
def Below : List Int → List Int → Prop
  | [], [] => True
  | d :: ds, s :: ss => (0 ≤ d ∧ d < s) ∧ Below ds ss
  | _, _ => False
theorem big_below : ∀ (c : Int) (xs : List Int), (∀ s ∈ xs, 0 < s) → Below (bigM c xs) xs
  | _, [], _ => trivial
  | c, x :: xs, h => ⟨⟨Int.emod_nonneg _ (by have := h x List.mem_cons_self; omega), Int.emod_lt_of_pos _ (h x List.mem_cons_self)⟩, big_below _ xs fun s hs => h s (List.mem_cons_of_mem _ hs)⟩
theorem sm_below : ∀ (m : Int) (j : Nat) (xs : List Int), (∀ s ∈ xs, 0 < s) → Below (smM m j xs) xs
  | _, _, [], _ => trivial
  | m, j, x :: xs, h => ⟨⟨Int.emod_nonneg _ (by have := h x List.mem_cons_self; omega), Int.emod_lt_of_pos _ (h x List.mem_cons_self)⟩, sm_below _ _ xs fun s hs => h s (List.mem_cons_of_mem _ hs)⟩
theorem drawM_below (ns : List Int) (k : Nat) (sizes : List Int) (h : ∀ s ∈ sizes, 0 < s) : Below (drawM ns k sizes) sizes := by
  unfold drawM
  simp only
  generalize (if ns.getD k 0 < 0 then -ns.getD k 0 else ns.getD k 0) = c
  split
  · exact big_below _ _ h
  · exact sm_below _ _ _ h
section
variable {P : Program} {w : World} {K : PySem.W.Frag} {mg : Str → Option Value} {base : Heap}
theorem cmul_r {i j : Int} (h : -(2 ^ 64) < j ∧ j < 2 ^ 64) : CMul i j := .inr h
theorem cmul_l {i j : Int} (h : -(2 ^ 64) < i ∧ i < 2 ^ 64) : CMul i j := .inl h
theorem take_ints {sizes : List Int} {i : Nat} {d : PyData} (h : (sizes.map PyData.int)[i]? = some d) : ∃ z, d = .int z ∧ z ∈ sizes ∧ sizes.take (i + 1) = sizes.take i ++ [z] := by
  obtain ⟨a, ha, rfl, hm⟩ := take_map h
  exact ⟨a, rfl, hm, by rw [List.take_add_one, ha]; rfl⟩
theorem map_snoc (xs : List Int) (z : Int) : (xs ++ [z]).map PyData.int = xs.map PyData.int ++ [.int z] := by rw [List.map_append]; rfl
theorem U_draw (T : Tl K mg) : Use P w K mg base CX0 2 "_law_draw" ["script", "k", "sizes"] (spL K (fun a : List Int × Nat × List Int => [.list (a.1.map .int), .int a.2.1, .list (a.2.2.map .int)]) (fun a => (∀ s ∈ a.2.2, 0 < s ∧ s < 1000000) ∧ a.2.2.length ≤ 1000) fun a => (drawM a.1 a.2.1 a.2.2).map .int) := by
  have ULawCell := U_cell (P := P) (w := w) (base := base) T
  refine use_of T.f_draw (fun _ _ _ _ _ _ us hl => match us, hl with | [_, _, _], _ => rfl) fun f fd F => ?_
  have nd := scLawDraw.nd
  refine fn_L F scLawDraw (fun _ => rfl) fun cdv A outer s H E hr => ⟨_,
    (pss_cons (ps_set (i := 3) nd rfl (.inl rfl) (pe_use ULawCell hr (pa_cons (pv 0) (pa_cons (pv 1) pa_nil))))
      (pss_cons (ps_if (pt_cmpR op_lt (pv 3) pe_int (nomark _)) (pss_one (ps_set (i := 3) nd rfl (.inl rfl) (pe_un un_neg (pv 3)))) pss_nil)
      (pss_cons (ps_set (i := 4) nd rfl (.inl rfl) (pe_lst pa_nil))
      (pss_cons (ps_if (pt_cmpR op_ge (pv 3) (pe_op op_pow pe_int pe_int) (nomark _)) (pss_cons (ps_set (i := 3) nd rfl (.inl rfl) (pe_op op_sub (pv 3) (pe_op op_pow pe_int pe_int)))
      (pss_cons (ps_for PassesOwn.never rfl (pi_list (pv 2)) (pg_name (i := 5) nd rfl (.inl rfl)) (pss_cons (ps_expr (pe_bm PySem.F.plainAttrs_list PySem.F.slot_list_append PySem.F.type_list_append mt_append (pv 4) (pa_cons (pe_op op_mod (pv 3) (pv 5)) pa_nil)))
      (pss_one (ps_set (i := 3) nd rfl (.inl rfl) (pe_op op_fdiv (pv 3) (pv 5))))))
      (pss_one (ps_ret (pv 4))))) pss_nil)
      (pss_cons (ps_set (i := 6) nd rfl (.inl rfl) (pe_op op_mod (pe_op op_add (pe_op op_add (pv 3) pe_int) (pe_op op_mul pe_int (pv 1))) pe_int))
      (pss_cons (ps_for PassesOwn.never rfl (pi_range1 (by rfl) T.m_range (pa_cons (pe_callB (lenSq K) (by rfl) T.m_len (by decide +kernel) (pa_cons (pv 2) pa_nil)) pa_nil)) (pg_name (i := 7) nd rfl (.inl rfl)) (pss_cons (ps_set (i := 6) nd rfl (.inl rfl) (pe_op op_mod (pe_op op_add (pe_op op_add (pe_op op_mul (pv 6) pe_int) pe_int) (pv 7)) pe_int))
      (pss_cons (ps_set (i := 6) nd rfl (.inl rfl) (pe_op op_mod (pe_op op_add (pe_op op_mul (pv 6) pe_int) pe_int) pe_int))
      (pss_one (ps_expr (pe_bm PySem.F.plainAttrs_list PySem.F.slot_list_append PySem.F.type_list_append mt_append (pv 4) (pa_cons (pe_op op_mod (pe_op op_fdiv (pv 6) pe_int) (pe_ix (ixL K) (pv 2) (pv 7) (fun _ _ => rfl))) pa_nil)))))))
      (pss_one (ps_ret (pv 4)))))))))
    , fun F0 H0 a Q hp hQ => ?_⟩
  obtain ⟨ns, k, sizes⟩ := a
  obtain ⟨hs, hl⟩ := hp
  dsimp only at hs hl
  refine w_asg (ev_call (α := List Int × Nat) (ns, k) (ea_cons (ev_var rfl) (ea_cons (ev_var rfl) ea_nil)) trivial) ?_
  show W _ F0 H0 _ [.fz (.list (ns.map .int)), .fz (.int k), .fz (.list (sizes.map .int)), .fz (.int (ns.getD k 0)), .un, .un, .un, .un]
  refine w_ifK [.fz (.list (ns.map .int)), .fz (.int k), .fz (.list (sizes.map .int)), .fz (.int (if ns.getD k 0 < 0 then -(ns.getD k 0) else ns.getD k 0)), .un, .un, .un, .un] (et_test (ev_op (ev_var rfl) ev_int ov_b)) (fun e hk => ?_) (fun e hk => ?_) ?_
  · rw [if_pos (of_decide_eq_true e)] at hk
    exact w_asg (eu_neg (ev_var rfl)) hk
  · rw [if_neg (of_decide_eq_false e)] at hk
    exact hk
  generalize hc : (if ns.getD k 0 < 0 then -(ns.getD k 0) else ns.getD k 0) = c
  have hD : drawM ns k sizes = if 1000000000000000000 ≤ c then bigM (c - 1000000000000000000) sizes else smM ((c + 1 + 31 * k) % 2147483647) 0 sizes := by
    unfold drawM
    simp only
    rw [hc]
  refine w_asgL (el_lst ea_nil) ?_
  have pw : ∀ {ρ : List Sl}, EV (wd P w K) (tOp (rI CPow fun i j => V.int (i ^ j.toNat)) (tC (.int 10)) (tC (.int 18))) ρ (.int 1000000000000000000) := fun {ρ} => (ev_op ev_int ev_int (ov_ic (g := fun i j => i ^ j.toNat) ⟨by decide, by decide, by decide⟩)).eq (congrArg PyData.int (by decide))
  refine w_if (et_test (ev_op (ev_var rfl) pw ov_b)) (fun e => ?_) (fun e => ?_)
  · have hb : 1000000000000000000 ≤ c := of_decide_eq_true e
    rw [if_pos hb] at hD
    refine w_asg (ev_op (ev_var rfl) pw (ov_i (g := fun i j => i - j))) ?_
    generalize hc2 : c - 1000000000000000000 = b at hD ⊢
    refine w_forL (fun i ρ => ∃ y, ρ = [.fz (.list (ns.map .int)), .fz (.int k), .fz (.list (sizes.map .int)), .fz (.int (bigC b (sizes.take i))), .ol ((bigM b (sizes.take i)).map .int), y, .un, .un]) (ev_var rfl) ⟨.un, rfl⟩ ?_ ?_
    · rintro B i d ρ hB hd ⟨y, rfl⟩
      obtain ⟨z, rfl, hz, ht⟩ := take_ints hd
      obtain ⟨z0, z1⟩ := hs z hz
      obtain ⟨q1, q2⟩ := big_snoc b (sizes.take i) z
      refine ⟨_, tg_name, ?_⟩
      refine w_app rfl (ev_op (ev_var rfl) (ev_var rfl) (ov_ic (C := fun _ j => 0 < j) (g := fun i j => i % j) z0)) ?_ ?_
      · rw [List.length_map, bigM_len, List.length_take]; omega
      refine w_asg (ev_op (ev_var rfl) (ev_var rfl) (ov_ic (C := CDiv) (g := fun i j => i / j) ⟨z0, by omega⟩)) (w_K ⟨.fz (.int z), ?_⟩)
      rw [ht, q1, q2, map_snoc]
      rfl
    · rintro ρ ⟨y, rfl⟩
      rw [List.length_map, List.take_length, ← hD]
      exact w_retOL rfl hQ
  · have hb : ¬ 1000000000000000000 ≤ c := of_decide_eq_false e
    rw [if_neg hb] at hD
    have e31 : ∀ {ρ : List Sl}, ρ[3]? = some (.fz (.int c)) → ρ[1]? = some (.fz (.int k)) → EV (wd P w K) (tOp (rI (fun _ j => 0 < j) fun i j => V.int (i % j)) (tOp (rI0 fun i j => V.int (i + j)) (tOp (rI0 fun i j => V.int (i + j)) (tVar 3) (tC (.int 1))) (tOp (rI CMul fun i j => V.int (i * j)) (tC (.int 31)) (tVar 1))) (tC (.int 2147483647))) ρ (.int ((c + 1 + 31 * k) % 2147483647)) := fun h1 h2 =>
      ev_op (ev_op (ev_op (ev_var h1) ev_int (ov_i (g := fun i j => i + j))) (ev_op ev_int (ev_var h2) (ov_ic (g := fun i j => i * j) (cmul_l (by decide)))) (ov_i (g := fun i j => i + j))) ev_int (ov_ic (C := fun _ j => 0 < j) (g := fun i j => i % j) (by decide))
    refine w_asg (e31 rfl rfl) ?_
    generalize hc2 : (c + 1 + 31 * (k : Int)) % 2147483647 = m at hD ⊢
    refine w_forR (fun i ρ => ∃ y, ρ = [.fz (.list (ns.map .int)), .fz (.int k), .fz (.list (sizes.map .int)), .fz (.int c), .ol ((smM m 0 (sizes.take i)).map .int), .un, .fz (.int (smC m 0 (sizes.take i))), y]) (ea_cons (ev_cb (ea_cons (ev_var rfl) ea_nil) cv_lenL) ea_nil) (by rw [List.length_map]; omega) ⟨.un, rfl⟩ ?_ ?_
    · rintro i ρ hi ⟨y, rfl⟩
      rw [List.length_map] at hi
      have hil : i < sizes.length := by omega
      have hg : (sizes.map PyData.int)[i]? = some (.int sizes[i]) := by rw [List.getElem?_map, List.getElem?_eq_getElem hil]; rfl
      obtain ⟨z, ez, hz, ht⟩ := take_ints hg
      obtain ⟨z0, z1⟩ := hs z hz
      obtain ⟨q1, q2⟩ := sm_snoc m 0 (sizes.take i) z
      have el : 0 + (sizes.take i).length = i := by rw [List.length_take]; omega
      rw [el] at q1 q2
      refine ⟨_, tg_name, ?_⟩
      refine w_asg (ev_op (ev_op (ev_op (ev_op (ev_var rfl) ev_int (ov_ic (g := fun i j => i * j) (cmul_r (by decide)))) ev_int (ov_i (g := fun i j => i + j))) (ev_var rfl) (ov_i (g := fun i j => i + j))) ev_int (ov_ic (C := fun _ j => 0 < j) (g := fun i j => i % j) (by decide))) ?_
      refine w_asg (ev_op (ev_op (ev_op (ev_var rfl) ev_int (ov_ic (g := fun i j => i * j) (cmul_r (by decide)))) ev_int (ov_i (g := fun i j => i + j))) ev_int (ov_ic (C := fun _ j => 0 < j) (g := fun i j => i % j) (by decide))) ?_
      refine w_app rfl (ev_op (ev_op (ev_var rfl) ev_int (ov_ic (C := CDiv) (g := fun i j => i / j) ⟨by decide, by decide⟩)) (ev_op (ev_var rfl) (ev_var rfl) (ov_ixL (at_nat (hg.trans (by rw [ez]))))) (ov_ic (C := fun _ j => 0 < j) (g := fun i j => i % j) z0)) ?_ (w_K ⟨.fz (.int i), ?_⟩)
      · rw [List.length_map, smM_len, List.length_take]; omega
      · rw [ht, q1, q2, map_snoc]
        rfl
    · rintro ρ ⟨y, rfl⟩
      have e2 : ((sizes.map PyData.int).length : Int).toNat = sizes.length := by rw [List.length_map]; omega
      rw [e2, List.take_length, ← hD]
      exact w_retOL rfl hQ
end

abbrev stLinks : Stmt := top 5
abbrev NLinks : List Str := ["canal"]
theorem scLinks : FnScope NLinks ["canal"] (defScope stLinks) := ⟨rfl, rfl, rfl, by decide +kernel, rfl, by decide +kernel, by decide +kernel⟩
abbrev stCheckBasin : Stmt := top 6
abbrev NCheckBasin : List Str := ["canal", "name"]
theorem scCheckBasin : FnScope NCheckBasin ["canal", "name"] (defScope stCheckBasin) := ⟨rfl, rfl, rfl, by decide +kernel, rfl, by decide +kernel, by decide +kernel⟩
abbrev stLinkOf : Stmt := top 7
abbrev NLinkOf : List Str := ["canal", "label", "link"]
theorem scLinkOf : FnScope NLinkOf ["canal", "label"] (defScope stLinkOf) := ⟨rfl, rfl, rfl, by decide +kernel, rfl, by decide +kernel, by decide +kernel⟩
abbrev stCheckLinks : Stmt := top 8
abbrev NCheckLinks : List Str := ["canal", "labels", "label"]
theorem scCheckLinks : FnScope NCheckLinks ["canal", "labels"] (defScope stCheckLinks) := ⟨rfl, rfl, rfl, by decide +kernel, rfl, by decide +kernel, by decide +kernel⟩
abbrev stOtherEnd : Stmt := top 9
abbrev NOtherEnd : List Str := ["link", "basin"]
theorem scOtherEnd : FnScope NOtherEnd ["link", "basin"] (defScope stOtherEnd) := ⟨rfl, rfl, rfl, by decide +kernel, rfl, by decide +kernel, by decide +kernel⟩
abbrev stNeighbours : Stmt := top 10
abbrev NNeighbours : List Str := ["canal", "basin", "found", "link"]
theorem scNeighbours : FnScope NNeighbours ["canal", "basin"] (defScope stNeighbours) := ⟨rfl, rfl, rfl, by decide +kernel, rfl, by decide +kernel, by decide +kernel⟩
abbrev stKeptLinks : Stmt := top 11
abbrev NKeptLinks : List Str := ["canal", "labels", "reach", "reaches", "lock"]
theorem scKeptLinks : FnScope NKeptLinks ["canal", "labels"] (defScope stKeptLinks) := ⟨rfl, rfl, rfl, by decide +kernel, rfl, by decide +kernel, by decide +kernel⟩
abbrev stWithoutLinks : Stmt := top 12
abbrev NWithoutLinks : List Str := ["canal", "labels", "link"]
theorem scWithoutLinks : FnScope NWithoutLinks ["canal", "labels"] (defScope stWithoutLinks) := ⟨rfl, rfl, rfl, by decide +kernel, rfl, by decide +kernel, by decide +kernel⟩
abbrev stNearest : Stmt := top 14
abbrev NNearest : List Str := ["keys", "done", "best", "name"]
theorem scNearest : FnScope NNearest ["keys", "done"] (defScope stNearest) := ⟨rfl, rfl, rfl, by decide +kernel, rfl, by decide +kernel, by decide +kernel⟩
abbrev stLeastKeys : Stmt := top 15
abbrev NLeastKeys : List Str := ["canal", "source", "name", "keys", "done", "here", "minutes", "many", "labels", "link", "there", "key"]
theorem scLeastKeys : FnScope NLeastKeys ["canal", "source"] (defScope stLeastKeys) := ⟨rfl, rfl, rfl, by decide +kernel, rfl, by decide +kernel, by decide +kernel⟩
abbrev stMinutesFrom : Stmt := top 16
abbrev NMinutesFrom : List Str := ["canal", "source", "keys", "name"]
theorem scMinutesFrom : FnScope NMinutesFrom ["canal", "source"] (defScope stMinutesFrom) := ⟨rfl, rfl, rfl, by decide +kernel, rfl, by decide +kernel, by decide +kernel⟩
abbrev stLeastRoute : Stmt := top 17
abbrev NLeastRoute : List Str := ["canal", "source", "target", "key"]
theorem scLeastRoute : FnScope NLeastRoute ["canal", "source", "target"] (defScope stLeastRoute) := ⟨rfl, rfl, rfl, by decide +kernel, rfl, by decide +kernel, by decide +kernel⟩
abbrev stReached : Stmt := top 19
abbrev NReached : List Str := ["canal", "source", "found", "at", "name"]
theorem scReached : FnScope NReached ["canal", "source"] (defScope stReached) := ⟨rfl, rfl, rfl, by decide +kernel, rfl, by decide +kernel, by decide +kernel⟩
abbrev stPieces : Stmt := top 20
abbrev NPieces : List Str := ["canal", "rows", "seen", "name", "row", "other"]
theorem scPieces : FnScope NPieces ["canal"] (defScope stPieces) := ⟨rfl, rfl, rfl, by decide +kernel, rfl, by decide +kernel, by decide +kernel⟩
abbrev stIsJoined : Stmt := top 21
abbrev NIsJoined : List Str := ["canal", "first", "second"]
theorem scIsJoined : FnScope NIsJoined ["canal", "first", "second"] (defScope stIsJoined) := ⟨rfl, rfl, rfl, by decide +kernel, rfl, by decide +kernel, by decide +kernel⟩
abbrev stSplitBy : Stmt := top 22
abbrev NSplitBy : List Str := ["canal", "labels"]
theorem scSplitBy : FnScope NSplitBy ["canal", "labels"] (defScope stSplitBy) := ⟨rfl, rfl, rfl, by decide +kernel, rfl, by decide +kernel, by decide +kernel⟩
abbrev stDeepestFrom : Stmt := top 24
abbrev NDeepestFrom : List Str := ["canal", "source", "name", "best", "done", "here", "link", "there", "depth"]
theorem scDeepestFrom : FnScope NDeepestFrom ["canal", "source"] (defScope stDeepestFrom) := ⟨rfl, rfl, rfl, by decide +kernel, rfl, by decide +kernel, by decide +kernel⟩
abbrev stGreatestDepth : Stmt := top 25
abbrev NGreatestDepth : List Str := ["canal", "source", "target"]
theorem scGreatestDepth : FnScope NGreatestDepth ["canal", "source", "target"] (defScope stGreatestDepth) := ⟨rfl, rfl, rfl, by decide +kernel, rfl, by decide +kernel, by decide +kernel⟩
abbrev stDeepLinks : Stmt := top 26
abbrev NDeepLinks : List Str := ["canal", "depth", "link"]
theorem scDeepLinks : FnScope NDeepLinks ["canal", "depth"] (defScope stDeepLinks) := ⟨rfl, rfl, rfl, by decide +kernel, rfl, by decide +kernel, by decide +kernel⟩
abbrev stDeepSide : Stmt := top 27
abbrev NDeepSide : List Str := ["canal", "source", "depth", "keep", "reach", "reaches", "lock", "locks"]
theorem scDeepSide : FnScope NDeepSide ["canal", "source", "depth"] (defScope stDeepSide) := ⟨rfl, rfl, rfl, by decide +kernel, rfl, by decide +kernel, by decide +kernel⟩
abbrev stLawLinks : Stmt := top 32
abbrev NLawLinks : List Str := ["canal"]
theorem scLawLinks : FnScope NLawLinks ["canal"] (defScope stLawLinks) := ⟨rfl, rfl, rfl, by decide +kernel, rfl, by decide +kernel, by decide +kernel⟩
abbrev stLawFar : Stmt := top 33
abbrev NLawFar : List Str := ["link", "basin"]
theorem scLawFar : FnScope NLawFar ["link", "basin"] (defScope stLawFar) := ⟨rfl, rfl, rfl, by decide +kernel, rfl, by decide +kernel, by decide +kernel⟩
abbrev stLawNear : Stmt := top 34
abbrev NLawNear : List Str := ["links_v", "source", "found", "turn", "link", "there"]
theorem scLawNear : FnScope NLawNear ["links_v", "source"] (defScope stLawNear) := ⟨rfl, rfl, rfl, by decide +kernel, rfl, by decide +kernel, by decide +kernel⟩
abbrev stLawGreat : Stmt := top 35
abbrev NLawGreat : List Str := ["script", "basins", "at", "ends", "row", "column", "more", "reaches", "locks", "minutes", "depth", "kind"]
theorem scLawGreat : FnScope NLawGreat ["script"] (defScope stLawGreat) := ⟨rfl, rfl, rfl, by decide +kernel, rfl, by decide +kernel, by decide +kernel⟩
abbrev stLawLeast : Stmt := top 36
abbrev NLawLeast : List Str := ["due", "source", "keys", "turn", "changed", "link", "here", "there", "key"]
theorem scLawLeast : FnScope NLawLeast ["due", "source"] (defScope stLawLeast) := ⟨rfl, rfl, rfl, by decide +kernel, rfl, by decide +kernel, by decide +kernel⟩
abbrev stLawDeepest : Stmt := top 37
abbrev NLawDeepest : List Str := ["due", "source", "depths", "turn", "changed", "link", "here", "there", "depth"]
theorem scLawDeepest : FnScope NLawDeepest ["due", "source"] (defScope stLawDeepest) := ⟨rfl, rfl, rfl, by decide +kernel, rfl, by decide +kernel, by decide +kernel⟩
abbrev stLaw : Stmt := top 38
abbrev NLaw : List Str := ["script", "which", "first", "second", "mask", "canal", "due", "source", "target", "keys", "name", "labels", "here", "minutes", "label", "row", "link", "at", "out", "left", "parts", "part", "depths"]
theorem scLaw : FnScope NLaw ["script"] (defScope stLaw) := ⟨rfl, rfl, rfl, by decide +kernel, rfl, by decide +kernel, by decide +kernel⟩
structure Tx (K : PySem.W.Frag) (mg : Str → Option Value) : Prop extends Tl K mg where
  m_sorted : mg "sorted" = none
  m_set : mg "set" = none
  m_min : mg "min" = none
  m_SIZE : ∃ t, mg "SIZE" = some (.int 99 t)
  f_links : Dn K mg "links" stLinks
  f_check_basin : Dn K mg "_check_basin" stCheckBasin
  f_link_of : Dn K mg "link_of" stLinkOf
  f_check_links : Dn K mg "_check_links" stCheckLinks
  f_other_end : Dn K mg "other_end" stOtherEnd
  f_neighbours : Dn K mg "neighbours" stNeighbours
  f_kept_links : Dn K mg "_kept_links" stKeptLinks
  f_without_links : Dn K mg "without_links" stWithoutLinks
  f_nearest : Dn K mg "_nearest" stNearest
  f_least_keys : Dn K mg "_least_keys" stLeastKeys
  f_minutes_from : Dn K mg "minutes_from" stMinutesFrom
  f_least_route : Dn K mg "least_route" stLeastRoute
  f_reached : Dn K mg "reached" stReached
  f_pieces : Dn K mg "pieces" stPieces
  f_is_joined : Dn K mg "is_joined" stIsJoined
  f_split_by : Dn K mg "split_by" stSplitBy
  f_deepest_from : Dn K mg "_deepest_from" stDeepestFrom
  f_greatest_depth : Dn K mg "greatest_depth" stGreatestDepth
  f_deep_links : Dn K mg "deep_links" stDeepLinks
  f_deep_side : Dn K mg "deep_side" stDeepSide
  f_law_links : Dn K mg "_law_links" stLawLinks
  f_law_far : Dn K mg "_law_far" stLawFar
  f_law_near : Dn K mg "_law_near" stLawNear
  f_law_great : Dn K mg "_law_great" stLawGreat
  f_law_least : Dn K mg "_law_least" stLawLeast
  f_law_deepest : Dn K mg "_law_deepest" stLawDeepest
  f_law : Dn K mg "law" stLaw
end Kx


set_option maxHeartbeats 4000000
namespace Kx
open PySem L2 DL
structure Lk where
  lab : Str
  a : Str
  b : Str
  m : Int
  d : Int
  w : Int
  h : Int
  z : Int
abbrev lkD (L : Lk) : PyData := .tuple [.str L.lab, .str L.a, .str L.b, .int L.m, .int L.d, .int L.w, .int L.h, .int L.z]
structure Cn where
  bs : List Str
  rs : List Lk
  ls : List Lk
abbrev cnD (C : Cn) : PyData := .tuple [.tuple (C.bs.map .str), .tuple (C.rs.map lkD), .tuple (C.ls.map lkD)]
def Cn.lks (C : Cn) : List Lk := (C.rs ++ C.ls).mergeSort (PySem.W.dataLe false lkD)
structure Cn.Ok (C : Cn) : Prop where
  nb : C.bs.length ≤ 30
  nl : C.rs.length + C.ls.length ≤ 100
theorem lks_perm (C : Cn) : C.lks.Perm (C.rs ++ C.ls) := List.mergeSort_perm _ _
section
variable {P : Program} {w : World} {K : PySem.W.Frag} {mg : Str → Option Value} {base : Heap}
theorem lk_noDict : ∀ ls : List Lk, noDictAll (ls.map lkD) = true
  | [] => rfl
  | l :: ls => by
    rw [List.map_cons]
    show (noDict (lkD l) && noDictAll (ls.map lkD)) = true
    rw [lk_noDict ls]
    rfl
theorem lk_depth (l : Lk) : (lkD l).depth = 1 := by simp [PyData.depth, PyData.depthAll]
theorem lk_alike (a b : Lk) : PySem.W.alike (lkD a) (lkD b) = true := by simp [PySem.W.alike, PySem.W.alikeAll]
theorem cl_sortLk {c : Wd} {ls : List Lk} (h : ls.length ≤ 1000) : CL c (rSortD c.K) [.list (ls.map lkD)] ((ls.mergeSort (PySem.W.dataLe false lkD)).map lkD) := by
  rw [← sort_map]
  exact cl_sort (lk_noDict ls) (PySem.W.AllAlike.of lk_alike) (PySem.W.Sortable.tuples fun b => ⟨_, _, rfl⟩) (by rw [List.length_map]; omega) (fun d hd => by
    obtain ⟨l, _, rfl⟩ := List.mem_map.mp hd
    rw [lk_depth]; decide)
theorem U_links (T : Tx K mg) : Use P w K mg base CX0 1 "links" ["canal"] (spL K (fun C : Cn => [cnD C]) (fun C => C.Ok) fun C => C.lks.map lkD) := by
  refine use_of T.f_links (fun _ _ _ _ _ _ us hl => match us, hl with | [_], _ => rfl) fun f fd F => ?_
  have nd := scLinks.nd
  refine fn_L F scLinks (fun _ => rfl) fun cdv A outer s H E hr => ⟨_,
    (pss_one (ps_ret (pe_callB (sortDK K hr) (by rfl) T.m_sorted (by decide +kernel) (pa_cons (pe_op op_cat (pe_callTy (listOf K) (by rfl) T.m_list (by decide +kernel) (pa_cons (pe_ix (ixT K) (pv 0) pe_int (fun _ _ => rfl)) pa_nil)) (pe_callTy (listOf K) (by rfl) T.m_list (by decide +kernel) (pa_cons (pe_ix (ixT K) (pv 0) pe_int (fun _ _ => rfl)) pa_nil))) pa_nil))))
    , fun F0 H0 C Q hp hQ => ?_⟩
  refine w_retL (el_cb (ea_cons (EL.ev (el_cat (el_cb (ea_cons (ev_op (ev_var rfl) ev_int (ov_ixT rfl)) ea_nil) cl_listT) (el_cb (ea_cons (ev_op (ev_var rfl) ev_int (ov_ixT rfl)) ea_nil) cl_listT) ?_)) ea_nil) ?_) hQ
  · have := hp.nl
    rw [List.length_map, List.length_map]; omega
  · rw [← List.map_append]
    exact cl_sortLk (by have := hp.nl; rw [List.length_append]; omega)
theorem U_other_end (T : Tx K mg) : Use P w K mg base CX0 1 "other_end" ["link", "basin"] (spV K (fun a : Lk × Str => [lkD a.1, .str a.2]) (fun _ => True) fun a => .str (if a.1.a = a.2 then a.1.b else a.1.a)) := by
  refine use_of T.f_other_end (fun _ _ _ _ _ _ us hl => match us, hl with | [_, _], _ => rfl) fun f fd F => ?_
  have nd := scOtherEnd.nd
  refine fn_V F scOtherEnd (fun _ => rfl) fun cdv A outer s H E hr => ⟨_,
    (pss_one (ps_ret (pe_ifExp (pt_cmpR op_eq (pe_ix (ixT K) (pv 0) pe_int (fun _ _ => rfl)) (pv 1) (nomark _)) (pe_ix (ixT K) (pv 0) pe_int (fun _ _ => rfl)) (pe_ix (ixT K) (pv 0) pe_int (fun _ _ => rfl)))))
    , fun F0 H0 a Q hp hQ => ?_⟩
  obtain ⟨L, b⟩ := a
  refine w_ret (ev_if (et_test (ev_op (ev_op (ev_var rfl) ev_int (ov_ixT rfl)) (ev_var rfl) ov_eqs)) (fun e => ?_) (fun e => ?_)) hQ
  · rw [if_pos (of_decide_eq_true e)]
    exact ev_op (ev_var rfl) ev_int (ov_ixT rfl)
  · rw [if_neg (of_decide_eq_false e)]
    exact ev_op (ev_var rfl) ev_int (ov_ixT rfl)
theorem U_check_basin (T : Tx K mg) : Use P w K mg base CX0 1 "_check_basin" ["canal", "name"] (spV K (fun a : Cn × Str => [cnD a.1, .str a.2]) (fun a => a.2 ∈ a.1.bs) fun a => .none) := by
  refine use_of T.f_check_basin (fun _ _ _ _ _ _ us hl => match us, hl with | [_, _], _ => rfl) fun f fd F => ?_
  have nd := scCheckBasin.nd
  refine fn_V F scCheckBasin (fun _ => rfl) fun cdv A outer s H E hr => ⟨_,
    (pss_one (ps_if (pt_cmpR (notInSq K) (pv 1) (pe_ix (ixT K) (pv 0) pe_int (fun _ _ => rfl)) rfl) pss_never pss_nil))
    , fun F0 H0 a Q hp hQ => ?_⟩
  obtain ⟨C, b⟩ := a
  refine w_if (et_test (ev_op (ev_var rfl) (ev_op (ev_var rfl) ev_int (ov_ixT rfl)) ov_inT)) (fun e => ?_) (fun e => ?_)
  · have h : hasS C.bs b = true := hasS_iff.mpr hp
    rw [h] at e
    cases e
  · exact fun F H σ g => hQ .non F H g.gr .non
end
end Kx


set_option maxHeartbeats 4000000
namespace Kx
open PySem L2 DL

/-! ### links of a canal -/
def touch (L : Lk) (x : Str) : Bool := hasS [L.a, L.b] x
def far (L : Lk) (x : Str) : Str := if L.a = x then L.b else L.a
inductive Reach (ls : List Lk) (s : Str) : Str → Prop
  | refl : Reach ls s s
  | step {x : Str} {L : Lk} (h : Reach ls s x) (m : L ∈ ls) (t : touch L x = true) : Reach ls s (far L x)
structure Cn.Good (C : Cn) : Prop extends C.Ok where
  nd : C.bs.Nodup
  ea : ∀ L ∈ C.rs ++ C.ls, L.a ∈ C.bs
  eb : ∀ L ∈ C.rs ++ C.ls, L.b ∈ C.bs
theorem mem_lks {C : Cn} {L : Lk} : L ∈ C.lks ↔ L ∈ C.rs ++ C.ls := (lks_perm C).mem_iff
theorem lks_len {C : Cn} (h : C.Ok) : C.lks.length ≤ 100 := by
  rw [(lks_perm C).length_eq, List.length_append]; exact h.nl
theorem far_in {C : Cn} (g : C.Good) {L : Lk} (m : L ∈ C.lks) (x : Str) : far L x ∈ C.bs := by
  unfold far
  split
  · exact g.eb L (mem_lks.mp m)
  · exact g.ea L (mem_lks.mp m)
section
variable {c : Wd} {ρ : List Sl}
theorem ev_ends {i : Nat} {L : Lk} (hi : ρ[i]? = some (.fz (lkD L))) : EV c (tSl (rSlA c.K) (tVar i) (tPart (tC (.int 1))) (tPart (tC (.int 3)))) ρ (.tuple ([L.a, L.b].map .str)) :=
  (ev_slT (ev_var hi) (eo_some ev_int) (eo_some ev_int)).eq rfl
theorem et_touch {i j : Nat} {L : Lk} {x : Str} (hj : ρ[j]? = some (.fz (.str x))) (hi : ρ[i]? = some (.fz (lkD L))) : ET c (tTest (tOp (rIn c.K false) (tVar j) (tSl (rSlA c.K) (tVar i) (tPart (tC (.int 1))) (tPart (tC (.int 3)))))) ρ (touch L x) :=
  et_test (ev_op (ev_var hj) (ev_ends hi) ov_inT)
end
/-- the basins beside one, as the program finds them -/
def nbM (ls : List Lk) (x : Str) : List Str := ls.foldl (fun acc L => if touch L x && !hasS acc (far L x) then acc ++ [far L x] else acc) []
theorem nbM_step (ls : List Lk) (x : Str) {i : Nat} {L : Lk} (h : ls[i]? = some L) : nbM (ls.take (i + 1)) x = if touch L x && !hasS (nbM (ls.take i) x) (far L x) then nbM (ls.take i) x ++ [far L x] else nbM (ls.take i) x := by
  unfold nbM
  rw [List.take_add_one, h]
  show List.foldl _ _ ((ls.take i) ++ [L]) = _
  rw [List.foldl_append]
  rfl
theorem nb_fold (x : Str) : ∀ (ls : List Lk) (acc : List Str), acc.Nodup → (ls.foldl (fun acc L => if touch L x && !hasS acc (far L x) then acc ++ [far L x] else acc) acc).Nodup ∧
    (∀ y, y ∈ ls.foldl (fun acc L => if touch L x && !hasS acc (far L x) then acc ++ [far L x] else acc) acc ↔ y ∈ acc ∨ ∃ L ∈ ls, touch L x = true ∧ y = far L x) ∧
    (ls.foldl (fun acc L => if touch L x && !hasS acc (far L x) then acc ++ [far L x] else acc) acc).length ≤ acc.length + ls.length
  | [], acc, h => ⟨h, fun y => ⟨.inl, fun q => q.elim id fun ⟨_, m, _⟩ => (nomatch m)⟩, Nat.le_refl _⟩
  | L :: ls, acc, h => by
    rw [List.foldl_cons]
    by_cases e : (touch L x && !hasS acc (far L x)) = true
    · rw [if_pos e]
      have e' : touch L x = true ∧ hasS acc (far L x) = false := by simpa using e
      have hn : far L x ∉ acc := hasS_not.mp e'.2
      have nd : (acc ++ [far L x]).Nodup := by
        rw [List.nodup_append]
        exact ⟨h, by simp, fun a ha b hb z => by
          rw [List.mem_singleton] at hb
          subst hb
          exact hn (z ▸ ha)⟩
      obtain ⟨h1, h2, h3⟩ := nb_fold x ls _ nd
      refine ⟨h1, fun y => ?_, by rw [List.length_append] at h3; simp only [List.length_cons, List.length_nil] at h3 ⊢; omega⟩
      rw [h2, List.mem_append, List.mem_singleton]
      constructor
      · rintro ((q | q) | ⟨M, m, t, q⟩)
        · exact .inl q
        · exact .inr ⟨L, List.mem_cons_self, e'.1, q⟩
        · exact .inr ⟨M, List.mem_cons_of_mem _ m, t, q⟩
      · rintro (q | ⟨M, m, t, q⟩)
        · exact .inl (.inl q)
        · rcases List.mem_cons.mp m with rfl | m
          · exact .inl (.inr q)
          · exact .inr ⟨M, m, t, q⟩
    · rw [if_neg e]
      obtain ⟨h1, h2, h3⟩ := nb_fold x ls _ h
      refine ⟨h1, fun y => ?_, by simp only [List.length_cons]; omega⟩
      rw [h2]
      constructor
      · rintro (q | ⟨M, m, t, q⟩)
        · exact .inl q
        · exact .inr ⟨M, List.mem_cons_of_mem _ m, t, q⟩
      · rintro (q | ⟨M, m, t, q⟩)
        · exact .inl q
        · rcases List.mem_cons.mp m with rfl | m
          · left
            have : hasS acc (far M x) = true := by
              cases z : hasS acc (far M x) with
              | true => rfl
              | false => exact absurd (by rw [t, z]; rfl) e
            rw [q]
            exact hasS_iff.mp this
          · exact .inr ⟨M, m, t, q⟩
theorem nb_mem {ls : List Lk} {x y : Str} : y ∈ nbM ls x ↔ ∃ L ∈ ls, touch L x = true ∧ y = far L x := by
  have h := (nb_fold x ls [] List.nodup_nil).2.1 y
  unfold nbM
  rw [h]
  simp
theorem nb_len (ls : List Lk) (x : Str) : (nbM ls x).length ≤ ls.length := by
  have h := (nb_fold x ls [] List.nodup_nil).2.2
  rw [List.length_nil, Nat.zero_add] at h
  exact h
theorem map_snocS (xs : List Str) (z : Str) : (xs ++ [z]).map PyData.str = xs.map PyData.str ++ [.str z] := by rw [List.map_append]; rfl
theorem set_or {a b : Bool} : (if b then !a else a) = (b != a) := by cases a <;> cases b <;> rfl
section
variable {P : Program} {w : World} {K : PySem.W.Frag} {mg : Str → Option Value} {base : Heap}
theorem U_link_of (T : Tx K mg) : Use P w K mg base CX0 2 "link_of" ["canal", "label"] (spRV K (fun a : Cn × Str => [cnD a.1, .str a.2]) (fun a => a.1.Ok ∧ ∃ L ∈ a.1.lks, L.lab = a.2) fun a d => ∃ L ∈ a.1.lks, L.lab = a.2 ∧ d = lkD L) := by
  have ULinks := U_links (P := P) (w := w) (base := base) T
  refine use_of T.f_link_of (fun _ _ _ _ _ _ us hl => match us, hl with | [_, _], _ => rfl) fun f fd F => ?_
  have nd := scLinkOf.nd
  refine fn_RV F scLinkOf (fun _ => rfl) fun cdv A outer s H E hr => ⟨_,
    (pss_cons (ps_for PassesOwn.never rfl (pi_list (pe_use ULinks hr (pa_cons (pv 0) pa_nil))) (pg_name (i := 2) nd rfl (.inl rfl)) (pss_one (ps_if (pt_cmpR op_eq (pe_ix (ixT K) (pv 2) pe_int (fun _ _ => rfl)) (pv 1) (nomark _)) (pss_one (ps_ret (pv 2))) pss_nil)))
      pss_never)
    , fun F0 H0 a Q hp hQ => ?_⟩
  obtain ⟨C, l⟩ := a
  obtain ⟨ok, L0, hL0, e0⟩ := hp
  dsimp only at ok hL0 e0
  refine w_forL (fun i ρ => ∃ y, ρ = [.fz (cnD C), .fz (.str l), y] ∧ ∀ L ∈ C.lks.take i, L.lab ≠ l) (EL.ev (el_call (α := Cn) C (ea_cons (ev_var rfl) ea_nil) ok)) ⟨.un, rfl, by simp⟩ ?_ ?_
  · rintro B i d ρ hB hd ⟨y, rfl, hn⟩
    obtain ⟨L, hL, rfl, hm⟩ := take_map hd
    refine ⟨_, tg_name, ?_⟩
    refine w_if (et_test (ev_op (ev_op (ev_var rfl) ev_int (ov_ixT rfl)) (ev_var rfl) ov_eqs)) (fun e => ?_) (fun e => ?_)
    · refine w_ret (ev_var rfl) fun v F' H' g r => hQ (lkD L) v F' H' ⟨L, hm, of_decide_eq_true e, rfl⟩ g r
    · refine w_next (w_K ⟨.fz (lkD L), rfl, fun M hM => ?_⟩)
      rw [List.take_add_one, hL, List.mem_append] at hM
      rcases hM with hM | hM
      · exact hn M hM
      · have : M = L := by simpa using hM
        rw [this]
        exact of_decide_eq_false e
  · rintro ρ ⟨y, rfl, hn⟩
    rw [List.length_map, List.take_length] at hn
    exact absurd e0 (hn L0 hL0)
theorem U_check_links (T : Tx K mg) : Use P w K mg base CX0 3 "_check_links" ["canal", "labels"] (spV K (fun a : Cn × List Str => [cnD a.1, .list (a.2.map .str)]) (fun a => a.1.Ok ∧ ∀ l ∈ a.2, ∃ L ∈ a.1.lks, L.lab = l) fun a => .none) := by
  have ULinkOf := U_link_of (P := P) (w := w) (base := base) T
  refine use_of T.f_check_links (fun _ _ _ _ _ _ us hl => match us, hl with | [_, _], _ => rfl) fun f fd F => ?_
  have nd := scCheckLinks.nd
  refine fn_V F scCheckLinks (fun _ => rfl) fun cdv A outer s H E hr => ⟨_,
    (pss_one (ps_for PassesOwn.never rfl (pi_list (pv 1)) (pg_name (i := 2) nd rfl (.inl rfl)) (pss_one (ps_expr (pe_use ULinkOf hr (pa_cons (pv 0) (pa_cons (pv 2) pa_nil)))))))
    , fun F0 H0 a Q hp hQ => ?_⟩
  obtain ⟨C, ls⟩ := a
  obtain ⟨ok, hl⟩ := hp
  dsimp only at ok hl
  refine w_forL (fun i ρ => ∃ y, ρ = [.fz (cnD C), .fz (.list (ls.map .str)), y]) (ev_var rfl) ⟨.un, rfl⟩ ?_ ?_
  · rintro B i d ρ hB hd ⟨y, rfl⟩
    obtain ⟨l, _, rfl, hm⟩ := take_map hd
    refine ⟨_, tg_name, ?_⟩
    refine w_dropR (evr_call (α := Cn × Str) (C, l) (ea_cons (ev_var rfl) (ea_cons (ev_var rfl) ea_nil)) ⟨ok, hl l hm⟩) (w_K ⟨_, rfl⟩)
  · rintro ρ ⟨y, rfl⟩
    exact fun F H σ g => hQ .non F H g.gr .non
theorem U_neighbours (T : Tx K mg) : Use P w K mg base CX0 2 "neighbours" ["canal", "basin"] (spL K (fun a : Cn × Str => [cnD a.1, .str a.2]) (fun a => a.1.Ok ∧ a.2 ∈ a.1.bs) fun a => (sortS (nbM a.1.lks a.2)).map .str) := by
  have ULinks := U_links (P := P) (w := w) (base := base) T
  have UCheckBasin := U_check_basin (P := P) (w := w) (base := base) T
  have UOtherEnd := U_other_end (P := P) (w := w) (base := base) T
  refine use_of T.f_neighbours (fun _ _ _ _ _ _ us hl => match us, hl with | [_, _], _ => rfl) fun f fd F => ?_
  have nd := scNeighbours.nd
  refine fn_L F scNeighbours (fun _ => rfl) fun cdv A outer s H E hr => ⟨_,
    (pss_cons (ps_expr (pe_use UCheckBasin hr (pa_cons (pv 0) (pa_cons (pv 1) pa_nil))))
      (pss_cons (ps_set (i := 2) nd rfl (.inl rfl) (pe_lst pa_nil))
      (pss_cons (ps_for PassesOwn.never rfl (pi_list (pe_use ULinks hr (pa_cons (pv 0) pa_nil))) (pg_name (i := 3) nd rfl (.inl rfl)) (pss_one (ps_if (PW.pt (pw_and (pt_cmpR (inSq K) (pv 1) (pe_slice (slTA K) (pv 3) (po_some pe_int) (po_some pe_int)) rfl) (pw_and1 (pt_cmpR (notInSq K) (pe_use UOtherEnd hr (pa_cons (pv 3) (pa_cons (pv 1) pa_nil))) (pv 2) rfl)))) (pss_one (ps_expr (pe_bm PySem.F.plainAttrs_list PySem.F.slot_list_append PySem.F.type_list_append mt_append (pv 2) (pa_cons (pe_use UOtherEnd hr (pa_cons (pv 3) (pa_cons (pv 1) pa_nil))) pa_nil)))) pss_nil)))
      (pss_one (ps_ret (pe_callB (sortDK K hr) (by rfl) T.m_sorted (by decide +kernel) (pa_cons (pv 2) pa_nil)))))))
    , fun F0 H0 a Q hp hQ => ?_⟩
  obtain ⟨C, x⟩ := a
  obtain ⟨ok, hx⟩ := hp
  dsimp only at ok hx
  refine w_drop (ev_call (α := Cn × Str) (C, x) (ea_cons (ev_var rfl) (ea_cons (ev_var rfl) ea_nil)) hx) ?_
  refine w_asgL (el_lst ea_nil) ?_
  dsimp only
  refine w_forL (fun i ρ => ∃ y, ρ = [.fz (cnD C), .fz (.str x), .ol ((nbM (C.lks.take i) x).map .str), y]) (EL.ev (el_call (α := Cn) C (ea_cons (ev_var rfl) ea_nil) ok)) ⟨.un, rfl⟩ ?_ ?_
  · rintro B i d ρ hB hd ⟨y, rfl⟩
    obtain ⟨L, hL, rfl, hm⟩ := take_map hd
    refine ⟨_, tg_name, ?_⟩
    have st := nbM_step C.lks x hL
    have oe : ∀ {ρ : List Sl} {c : Wd}, c.K = K → ρ[1]? = some (.fz (.str x)) → ρ[3]? = some (.fz (lkD L)) → EV c (tCall (spV c.K (fun a : Lk × Str => [lkD a.1, .str a.2]) (fun _ => True) fun a => .str (if a.1.a = a.2 then a.1.b else a.1.a)) [] E0 (tCons (tVar 3) (tCons (tVar 1) tNil))) ρ (.str (far L x)) := fun _ h1 h3 =>
      ev_call (α := Lk × Str) (L, x) (ea_cons (ev_var h3) (ea_cons (ev_var h1) ea_nil)) trivial
    refine w_if (b := touch L x && !hasS (nbM (C.lks.take i) x) (far L x)) (et_and (et_touch rfl rfl) fun _ => et_lend (i := 2) rfl rfl (et_test (ev_op (oe rfl rfl rfl) (ev_var rfl) ov_inL))) (fun e => ?_) (fun e => ?_)
    · refine w_app rfl (oe rfl rfl rfl) ?_ (w_K ⟨.fz (lkD L), ?_⟩)
      · have := nb_len (C.lks.take i) x
        have := List.length_take_le i C.lks
        have := lks_len ok
        rw [List.length_map]
        have h3 : (C.lks.take i).length ≤ C.lks.length := by rw [List.length_take]; omega
        omega
      · rw [st, if_pos e, map_snocS]
        rfl
    · refine w_next (w_K ⟨.fz (lkD L), ?_⟩)
      rw [st, if_neg (by rw [e]; exact Bool.false_ne_true)]
      rfl
  · rintro ρ ⟨y, rfl⟩
    rw [List.length_map, List.take_length]
    refine w_freeze 2 rfl rfl ?_
    refine w_retL (el_cb (ea_cons (ev_var rfl) ea_nil) (cl_sortSS ?_)) hQ
    have := nb_len C.lks x
    have := lks_len ok
    show (nbM C.lks x).length ≤ 100000
    omega
end
end Kx


set_option maxHeartbeats 4000000
namespace Kx
open PySem L2 DL

/-- a canal with the links whose labels are told alone -/
def Cn.keep (C : Cn) (ls : List Str) : Cn := ⟨C.bs, C.rs.filter (fun L => hasS ls L.lab), C.ls.filter (fun L => hasS ls L.lab)⟩
theorem keep_ok {C : Cn} {ls : List Str} (h : C.Ok) : (C.keep ls).Ok := ⟨h.nb, by
  have h1 := List.length_filter_le (fun L : Lk => hasS ls L.lab) C.rs
  have h2 := List.length_filter_le (fun L : Lk => hasS ls L.lab) C.ls
  have := h.nl
  show (C.rs.filter _).length + (C.ls.filter _).length ≤ 100
  omega⟩
theorem keep_mem {C : Cn} {ls : List Str} {L : Lk} : L ∈ (C.keep ls).lks ↔ L ∈ C.lks ∧ L.lab ∈ ls := by
  rw [mem_lks, mem_lks]
  show L ∈ C.rs.filter (fun L => hasS ls L.lab) ++ C.ls.filter (fun L => hasS ls L.lab) ↔ _
  rw [← List.filter_append, List.mem_filter, hasS_iff]
theorem keep_good {C : Cn} {ls : List Str} (h : C.Good) : (C.keep ls).Good := ⟨keep_ok h.toOk, h.nd, fun L m => h.ea L (mem_lks.mp (keep_mem.mp (mem_lks.mpr m)).1), fun L m => h.eb L (mem_lks.mp (keep_mem.mp (mem_lks.mpr m)).1)⟩
/-- without the links whose labels are told -/
def Cn.less (C : Cn) (ls : List Str) : Cn := C.keep ((C.lks.filter (fun L : Lk => !hasS ls L.lab)).map (fun L : Lk => L.lab))
theorem less_good {C : Cn} {ls : List Str} (h : C.Good) : (C.less ls).Good := keep_good h
noncomputable def reachB (ls : List Lk) (s x : Str) : Bool := @decide (Reach ls s x) (Classical.propDecidable _)
theorem reachB_iff {ls : List Lk} {s x : Str} : reachB ls s x = true ↔ Reach ls s x := @decide_eq_true_iff _ (Classical.propDecidable _)
/-- the basins that are reached, in the order of the canal -/
noncomputable def reachL (bs : List Str) (ls : List Lk) (s : Str) : List Str := bs.filter (reachB ls s)
theorem mem_reachL {bs : List Str} {ls : List Lk} {s x : Str} : x ∈ reachL bs ls s ↔ x ∈ bs ∧ Reach ls s x := by
  unfold reachL
  rw [List.mem_filter, reachB_iff]
section
variable {P : Program} {w : World} {K : PySem.W.Frag} {mg : Str → Option Value} {base : Heap}
theorem filter_congr' {α : Type} {p q : α → Bool} {l : List α} (h : ∀ x, p x = q x) : l.filter p = l.filter q := by
  rw [show p = q from funext h]
theorem map_id' {α β : Type} (f : α → β) (l : List α) : l.map f = l.map f := rfl
theorem U_kept_links (T : Tx K mg) : Use P w K mg base CX0 1 "_kept_links" ["canal", "labels"] (spV K (fun a : Cn × List Str => [cnD a.1, .list (a.2.map .str)]) (fun a => a.1.Ok) fun a => cnD (a.1.keep a.2)) := by
  refine use_of T.f_kept_links (fun _ _ _ _ _ _ us hl => match us, hl with | [_, _], _ => rfl) fun f fd F => ?_
  have nd := scKeptLinks.nd
  refine fn_V F scKeptLinks (fun _ => rfl) fun cdv A outer s H E hr => ⟨_,
    (pss_cons (ps_set (i := 3) nd rfl (.inl rfl) (pe_callTy (tupleOf K) (by rfl) T.m_tuple (by decide +kernel) (pa_cons (pe_lc (g := gName 2) (own := [("reach", 2)]) rfl nd (pi_tup (pe_ix (ixT K) (pv 0) pe_int (fun _ _ => rfl))) (blkOk_by (N := NKeptLinks) (sc := defScope stKeptLinks) (by decide +kernel)) (fun _ _ _ _ _ => (pg_name (i := 2) nd rfl (.inl rfl))) (fun _ _ _ _ _ => (pts_one (pt_cmpR (inSq K) (pe_ix (ixT K) (pv 2) pe_int (fun _ _ => rfl)) (pv 1) rfl))) (fun _ _ _ _ _ => (pv 2))) pa_nil)))
      (pss_one (ps_ret (pe_tup (pa_cons (pe_ix (ixT K) (pv 0) pe_int (fun _ _ => rfl)) (pa_cons (pv 3) (pa_cons (pe_callTy (tupleOf K) (by rfl) T.m_tuple (by decide +kernel) (pa_cons (pe_lc (g := gName 4) (own := [("lock", 4)]) rfl nd (pi_tup (pe_ix (ixT K) (pv 0) pe_int (fun _ _ => rfl))) (blkOk_by (N := NKeptLinks) (sc := defScope stKeptLinks) (by decide +kernel)) (fun _ _ _ _ _ => (pg_name (i := 4) nd rfl (.inl rfl))) (fun _ _ _ _ _ => (pts_one (pt_cmpR (inSq K) (pe_ix (ixT K) (pv 4) pe_int (fun _ _ => rfl)) (pv 1) rfl))) (fun _ _ _ _ _ => (pv 4))) pa_nil)) pa_nil)))))))
    , fun F0 H0 a Q hp hQ => ?_⟩
  obtain ⟨C, ls⟩ := a
  dsimp only at hp
  have h1 : C.rs.length ≤ 50000 := by have := hp.nl; omega
  have h2 : C.ls.length ≤ 50000 := by have := hp.nl; omega
  show W _ F0 H0 _ [.fz (cnD C), .fz (.list (ls.map .str)), .un, .un, .un]
  have et : ∀ (j : Nat) (L : Lk) (ρ : List Sl), ρ[1]? = some (.fz (.list (ls.map .str))) → ρ[j]? = some (.fz (lkD L)) → ET (wd P w K) (tTest (tOp (rIn K false) (tOp (rIxT K) (tVar j) (tC (.int 0))) (tVar 1))) ρ (hasS ls L.lab) := fun j L ρ h1 hj =>
    et_test (ev_op (ev_op (ev_var hj) ev_int (ov_ixT rfl)) (ev_var h1) ov_inL)
  refine w_asg (ev_cb (ea_cons (EL.ev (el_lcT (j := 2) lkD C.rs (fun L => hasS ls L.lab) lkD (ev_op (ev_var rfl) ev_int (ov_ixT rfl)) h1 (fun L _ => et 2 L _ rfl rfl) (fun L _ _ => ev_var rfl))) ea_nil) cv_tupleL) ?_
  dsimp only
  exact w_ret (ev_tup (ea_cons (ev_op (ev_var rfl) ev_int (ov_ixT rfl)) (ea_cons (ev_var rfl) (ea_cons (ev_cb (ea_cons (EL.ev (el_lcT (j := 4) lkD C.ls (fun L => hasS ls L.lab) lkD (ev_op (ev_var rfl) ev_int (ov_ixT rfl)) h2 (fun L _ => et 4 L _ rfl rfl) (fun L _ _ => ev_var rfl))) ea_nil) cv_tupleL) ea_nil)))) hQ
theorem U_without_links (T : Tx K mg) : Use P w K mg base CX0 4 "without_links" ["canal", "labels"] (spV K (fun a : Cn × List Str => [cnD a.1, .list (a.2.map .str)]) (fun a => a.1.Ok ∧ ∀ l ∈ a.2, ∃ L ∈ a.1.lks, L.lab = l) fun a => cnD (a.1.less a.2)) := by
  have ULinks := U_links (P := P) (w := w) (base := base) T
  have UCheckLinks := U_check_links (P := P) (w := w) (base := base) T
  have UKeptLinks := U_kept_links (P := P) (w := w) (base := base) T
  refine use_of T.f_without_links (fun _ _ _ _ _ _ us hl => match us, hl with | [_, _], _ => rfl) fun f fd F => ?_
  have nd := scWithoutLinks.nd
  refine fn_V F scWithoutLinks (fun _ => rfl) fun cdv A outer s H E hr => ⟨_,
    (pss_cons (ps_expr (pe_use UCheckLinks hr (pa_cons (pv 0) (pa_cons (pv 1) pa_nil))))
      (pss_one (ps_ret (pe_use UKeptLinks hr (pa_cons (pv 0) (pa_cons (pe_lc (g := gName 2) (own := [("link", 2)]) rfl nd (pi_list (pe_use ULinks hr (pa_cons (pv 0) pa_nil))) (blkOk_by (N := NWithoutLinks) (sc := defScope stWithoutLinks) (by decide +kernel)) (fun _ _ _ _ _ => (pg_name (i := 2) nd rfl (.inl rfl))) (fun _ _ _ _ _ => (pts_one (pt_cmpR (notInSq K) (pe_ix (ixT K) (pv 2) pe_int (fun _ _ => rfl)) (pv 1) rfl))) (fun _ _ _ _ _ => (pe_ix (ixT K) (pv 2) pe_int (fun _ _ => rfl)))) pa_nil))))))
    , fun F0 H0 a Q hp hQ => ?_⟩
  obtain ⟨C, ls⟩ := a
  obtain ⟨ok, hl⟩ := hp
  dsimp only at ok hl
  refine w_drop (ev_call (α := Cn × List Str) (C, ls) (ea_cons (ev_var rfl) (ea_cons (ev_var rfl) ea_nil)) ⟨ok, hl⟩) ?_
  dsimp only
  have et : ∀ (L : Lk) (ρ : List Sl), ρ[1]? = some (.fz (.list (ls.map .str))) → ρ[2]? = some (.fz (lkD L)) → ET (wd P w K) (tTest (tOp (rIn K true) (tOp (rIxT K) (tVar 2) (tC (.int 0))) (tVar 1))) ρ (!hasS ls L.lab) := fun L ρ h1 hj =>
    et_test (ev_op (ev_op (ev_var hj) ev_int (ov_ixT rfl)) (ev_var h1) ov_inL)
  have hlen := lks_len ok
  refine w_ret (ev_call (α := Cn × List Str) (C, (C.lks.filter (fun L : Lk => !hasS ls L.lab)).map (fun L : Lk => L.lab)) (ea_cons (ev_var rfl) (ea_cons ((EL.ev (el_lcL (j := 2) lkD C.lks (fun L => !hasS ls L.lab) (fun L => .str L.lab) (EL.ev (el_call (α := Cn) C (ea_cons (ev_var rfl) ea_nil) ok)) (by omega) (fun L _ => et L _ rfl rfl) (fun L _ _ => ev_op (ev_var rfl) ev_int (ov_ixT rfl)))).eq ?_) ea_nil)) ok) hQ
  rw [List.map_map]
  rfl
theorem nodup_snoc {xs : List Str} {y : Str} (h : xs.Nodup) (hy : y ∉ xs) : (xs ++ [y]).Nodup := by
  rw [List.nodup_append]
  exact ⟨h, by simp, fun a ha b hb z => by
    rw [List.mem_singleton] at hb
    subst hb
    exact hy (z ▸ ha)⟩
/-- what holds between two turns of the search -/
structure RI (C : Cn) (s : Str) (found : List Str) (at_ : Nat) : Prop where
  nd : found.Nodup
  src : s ∈ found
  inb : ∀ x ∈ found, x ∈ C.bs ∧ Reach C.lks s x
  le : at_ ≤ found.length
  cl : ∀ i < at_, ∀ x, found[i]? = some x → ∀ L ∈ C.lks, touch L x = true → far L x ∈ found
theorem nodup_len : ∀ {a b : List Str}, a.Nodup → (∀ x ∈ a, x ∈ b) → a.length ≤ b.length
  | [], _, _, _ => Nat.zero_le _
  | x :: a, b, h, hs => by
    obtain ⟨h1, h2⟩ := List.nodup_cons.mp h
    have h3 := nodup_len (a := a) (b := b.filter fun y => !decide (y = x)) h2 fun y hy => by
      rw [List.mem_filter]
      refine ⟨hs y (List.mem_cons_of_mem _ hy), ?_⟩
      have : y ≠ x := fun z => h1 (z ▸ hy)
      simp [this]
    have h4 : (b.filter fun y => !decide (y = x)).length < b.length := List.length_filter_lt_length_iff_exists.mpr ⟨x, hs x List.mem_cons_self, by simp⟩
    rw [List.length_cons]
    omega
theorem RI.all {C : Cn} {s : Str} {found : List Str} (h : RI C s found found.length) {x : Str} (r : Reach C.lks s x) : x ∈ found := by
  induction r with
  | refl => exact h.src
  | step hr m t ih =>
    obtain ⟨i, hi⟩ := List.getElem?_of_mem ih
    exact h.cl i (List.getElem?_eq_some_iff.mp hi).1 _ hi _ m t
theorem RI.done {C : Cn} (g : C.Good) {s : Str} {found : List Str} (h : RI C s found found.length) : sortS found = sortS (reachL C.bs C.lks s) := by
  refine sortS_eq (perm_of h.nd (List.Pairwise.filter _ g.nd) fun x => ?_)
  rw [mem_reachL]
  exact ⟨fun hx => h.inb x hx, fun ⟨_, r⟩ => h.all r⟩
theorem U_reached (T : Tx K mg) : Use P w K mg base CX0 3 "reached" ["canal", "source"] (spL K (fun a : Cn × Str => [cnD a.1, .str a.2]) (fun a => a.1.Good ∧ a.2 ∈ a.1.bs) fun a => (sortS (reachL a.1.bs a.1.lks a.2)).map .str) := by
  have UCheckBasin := U_check_basin (P := P) (w := w) (base := base) T
  have UNeighbours := U_neighbours (P := P) (w := w) (base := base) T
  refine use_of T.f_reached (fun _ _ _ _ _ _ us hl => match us, hl with | [_, _], _ => rfl) fun f fd F => ?_
  have nd := scReached.nd
  refine fn_L F scReached (fun _ => rfl) fun cdv A outer s H E hr => ⟨_,
    (pss_cons (ps_expr (pe_use UCheckBasin hr (pa_cons (pv 0) (pa_cons (pv 1) pa_nil))))
      (pss_cons (ps_set (i := 2) nd rfl (.inl rfl) (pe_lst (pa_cons (pv 1) pa_nil)))
      (pss_cons (ps_set (i := 3) nd rfl (.inl rfl) pe_int)
      (pss_cons (ps_while PassesOwn.never (pt_cmpR op_lt (pv 3) (pe_callB (lenSq K) (by rfl) T.m_len (by decide +kernel) (pa_cons (pv 2) pa_nil)) (nomark _)) (pss_cons (ps_for PassesOwn.never rfl (pi_list (pe_use UNeighbours hr (pa_cons (pv 0) (pa_cons (pe_ix (ixL K) (pv 2) (pv 3) (fun _ _ => rfl)) pa_nil)))) (pg_name (i := 4) nd rfl (.inl rfl)) (pss_one (ps_if (pt_cmpR (notInSq K) (pv 4) (pv 2) rfl) (pss_one (ps_expr (pe_bm PySem.F.plainAttrs_list PySem.F.slot_list_append PySem.F.type_list_append mt_append (pv 2) (pa_cons (pv 4) pa_nil)))) pss_nil)))
      (pss_one (ps_aug (i := 3) nd rfl (.inl rfl) pe_int ip_add))))
      (pss_one (ps_ret (pe_callB (sortDK K hr) (by rfl) T.m_sorted (by decide +kernel) (pa_cons (pv 2) pa_nil))))))))
    , fun F0 H0 a Q hp hQ => ?_⟩
  obtain ⟨C, s⟩ := a
  obtain ⟨g, hs⟩ := hp
  dsimp only at g hs hQ
  refine w_drop (ev_call (α := Cn × Str) (C, s) (ea_cons (ev_var rfl) (ea_cons (ev_var rfl) ea_nil)) hs) ?_
  refine w_asgL (el_lst (ea_cons (ev_var rfl) ea_nil)) ?_
  dsimp only
  refine w_asg ev_int ?_
  dsimp only
  have hnb := g.nb
  have flen : ∀ {found : List Str} {at_ : Nat}, RI C s found at_ → found.length ≤ C.bs.length := fun h => nodup_len h.nd fun x hx => (h.inb x hx).1
  refine w_while (fun m ρ => ∃ (found : List Str) (at_ : Nat) (y : Sl), ρ = [.fz (cnD C), .fz (.str s), .ol (found.map .str), .fz (.int at_), y] ∧ RI C s found at_ ∧ m = C.bs.length + 1 - at_) (C.bs.length + 1) ⟨[s], 0, .un, rfl, ⟨by simp, by simp, fun x hx => by
      have : x = s := by simpa using hx
      subst this
      exact ⟨hs, .refl⟩, Nat.zero_le _, fun i hi => absurd hi (Nat.not_lt_zero _)⟩, rfl⟩ ?_
  rintro m ρ ⟨found, at_, y, rfl, ri, rfl⟩
  have fl := flen ri
  refine ⟨decide ((at_ : Int) < ((found.map PyData.str).length : Nat)), et_lend (i := 2) rfl rfl (et_test (ev_op (ev_var rfl) (ev_cb (ea_cons (ev_var rfl) ea_nil) cv_lenL) ov_b)), fun e => ?_, fun e => ?_⟩
  · have hat : at_ < found.length := by
      have := of_decide_eq_true e
      rw [List.length_map] at this
      omega
    have hx : found[at_]? = some found[at_] := List.getElem?_eq_getElem hat
    obtain ⟨hxb, hxr⟩ := ri.inb _ (List.getElem_mem hat)
    generalize found[at_] = x at hx hxb hxr
    have hxa : atI (found.map PyData.str) (at_ : Int) = some (.str x) := at_nat (by rw [List.getElem?_map, hx]; rfl)
    refine w_forL (fun i ρ => ∃ (more : List Str) (y : Sl), ρ = [.fz (cnD C), .fz (.str s), .ol ((found ++ more).map .str), .fz (.int at_), y] ∧ (found ++ more).Nodup ∧ (∀ z ∈ found ++ more, z ∈ C.bs ∧ Reach C.lks s z) ∧ ∀ z ∈ (sortS (nbM C.lks x)).take i, z ∈ found ++ more)
      (EL.ev (el_call (α := Cn × Str) (C, x) (ea_cons (ev_var rfl) (ea_cons (ev_lend (i := 2) rfl rfl (ev_op (ev_var rfl) (ev_var rfl) (ov_ixL hxa))) ea_nil)) ⟨g.toOk, hxb⟩)) ⟨[], y, by rw [List.append_nil], by rw [List.append_nil]; exact ri.nd, by rw [List.append_nil]; exact ri.inb, by simp⟩ ?_ ?_
    · rintro B i d ρ hB hd ⟨more, y, rfl, nd', inb, had⟩
      obtain ⟨z, hz, rfl, hm⟩ := take_map hd
      obtain ⟨L, mL, tL, eL⟩ := nb_mem.mp (mem_sortS.mp hm)
      refine ⟨_, tg_name, ?_⟩
      have tk : ∀ u, u ∈ (sortS (nbM C.lks x)).take (i + 1) → u ∈ (sortS (nbM C.lks x)).take i ∨ u = z := fun u hu => by
        rw [List.take_add_one, hz, List.mem_append] at hu
        rcases hu with hu | hu
        · exact .inl hu
        · exact .inr (by simpa using hu)
      refine w_if (et_lend (i := 2) rfl rfl (et_test (ev_op (ev_var rfl) (ev_var rfl) ov_inL))) (fun e => ?_) (fun e => ?_)
      · have hn : z ∉ found ++ more := by
          have : hasS (found ++ more) z = false := by simpa using e
          exact hasS_not.mp this
        have nd2 : (found ++ (more ++ [z])).Nodup := by
          rw [← List.append_assoc]
          exact nodup_snoc nd' hn
        have inb2 : ∀ u ∈ found ++ (more ++ [z]), u ∈ C.bs ∧ Reach C.lks s u := fun u hu => by
          rw [← List.append_assoc, List.mem_append, List.mem_singleton] at hu
          rcases hu with hu | rfl
          · exact inb u hu
          · exact ⟨eL ▸ far_in g mL x, eL ▸ Reach.step hxr mL tL⟩
        refine w_app rfl (ev_var rfl) ?_ (w_K ⟨more ++ [z], .fz (.str z), ?_, nd2, inb2, fun u hu => ?_⟩)
        · have := nodup_len nd' (b := C.bs) fun u hu => (inb u hu).1
          rw [List.length_map]
          omega
        · rw [← List.append_assoc, map_snocS]
          rfl
        · rw [← List.append_assoc, List.mem_append, List.mem_singleton]
          rcases tk u hu with hu | rfl
          · exact .inl (had u hu)
          · exact .inr rfl
      · have hn : z ∈ found ++ more := by
          have : hasS (found ++ more) z = true := by simpa using e
          exact hasS_iff.mp this
        refine w_next (w_K ⟨more, .fz (.str z), rfl, nd', inb, fun u hu => ?_⟩)
        rcases tk u hu with hu | rfl
        · exact had u hu
        · exact hn
    · rintro ρ ⟨more, y, rfl, nd', inb, had⟩
      rw [List.length_map, List.take_length] at had
      refine w_aug (f := fun i j => i + j) (a := at_) (b := 1) rfl ev_int (w_K ⟨C.bs.length + 1 - (at_ + 1), by omega, found ++ more, at_ + 1, y, rfl, ⟨nd', List.mem_append_left _ ri.src, inb, by rw [List.length_append]; omega, fun i hi u hu L mL tL => ?_⟩, rfl⟩)
      by_cases hia : i = at_
      · subst hia
        rw [List.getElem?_append_left hat, hx] at hu
        cases hu
        exact had _ (mem_sortS.mpr (nb_mem.mpr ⟨L, mL, tL, rfl⟩))
      · have hi2 : i < at_ := by omega
        rw [List.getElem?_append_left (by omega)] at hu
        exact List.mem_append_left _ (ri.cl i hi2 u hu L mL tL)
  · have hat : at_ = found.length := by
      have := of_decide_eq_false e
      rw [List.length_map] at this
      have := ri.le
      omega
    subst hat
    dsimp only
    refine w_freeze 2 rfl rfl ?_
    refine w_retL (el_cb (ea_cons (ev_var rfl) ea_nil) (cl_sortSS (by omega))) fun p xs F' H' gr a b c' d => hQ p xs F' H' gr a b c' ?_
    rw [← ri.done g]
    exact d
end
end Kx


set_option maxHeartbeats 4000000
namespace Kx
open PySem L2 DL

/-- the pieces, in the order of their first basins; rf: the piece of a basin -/
def piecesM (rf : Str → List Str) (names : List Str) : List (List Str) := names.foldl (fun rows n => if rows.any (fun r => hasS r n) then rows else rows ++ [rf n]) []
theorem piecesM_step (rf : Str → List Str) {names : List Str} {i : Nat} {n : Str} (h : names[i]? = some n) : piecesM rf (names.take (i + 1)) = if (piecesM rf (names.take i)).any (fun r => hasS r n) then piecesM rf (names.take i) else piecesM rf (names.take i) ++ [rf n] := by
  unfold piecesM
  rw [List.take_add_one, h]
  show List.foldl _ _ ((names.take i) ++ [n]) = _
  rw [List.foldl_append]
  rfl
theorem piecesM_len (rf : Str → List Str) (names : List Str) : (piecesM rf names).length ≤ names.length := by
  unfold piecesM
  have h : ∀ (names : List Str) (acc : List (List Str)), (names.foldl (fun rows n => if rows.any (fun r => hasS r n) then rows else rows ++ [rf n]) acc).length ≤ acc.length + names.length := by
    intro names
    induction names with
    | nil => intro acc; exact Nat.le_refl _
    | cons a xs ih =>
      intro acc
      rw [List.foldl_cons, List.length_cons]
      have h1 := ih (if acc.any (fun r => hasS r a) then acc else acc ++ [rf a])
      have h2 : (if acc.any (fun r => hasS r a) then acc else acc ++ [rf a]).length ≤ acc.length + 1 := by
        split
        · omega
        · rw [List.length_append]; exact Nat.le_refl _
      omega
  have := h names []
  simpa using this
theorem piecesM_congr {rf rf' : Str → List Str} {names : List Str} (h : ∀ n ∈ names, rf n = rf' n) : piecesM rf names = piecesM rf' names := by
  unfold piecesM
  have h2 : ∀ (names : List Str) (acc : List (List Str)), (∀ n ∈ names, rf n = rf' n) → names.foldl (fun rows n => if rows.any (fun r => hasS r n) then rows else rows ++ [rf n]) acc = names.foldl (fun rows n => if rows.any (fun r => hasS r n) then rows else rows ++ [rf' n]) acc := by
    intro names
    induction names with
    | nil => intro acc _; rfl
    | cons a xs ih =>
      intro acc hh
      rw [List.foldl_cons, List.foldl_cons, hh a List.mem_cons_self]
      exact ih _ fun n hn => hh n (List.mem_cons_of_mem _ hn)
  exact h2 names [] h
abbrev rowD (r : List Str) : PyData := .list (r.map .str)
noncomputable abbrev Cn.reach (C : Cn) (s : Str) : List Str := sortS (reachL C.bs C.lks s)
theorem reach_len (C : Cn) (s : Str) : (C.reach s).length ≤ C.bs.length := by
  rw [(sortS_perm _).length_eq]
  exact List.length_filter_le _ _
theorem hasS_snoc (xs : List Str) (z x : Str) : hasS (xs ++ [z]) x = (hasS xs x || decide (z = x)) := by
  unfold hasS
  rw [List.any_append]
  simp
theorem any_snoc (rows : List (List Str)) (r : List Str) (x : Str) : (rows ++ [r]).any (fun r => hasS r x) = (rows.any (fun r => hasS r x) || hasS r x) := by
  rw [List.any_append]
  simp
/-- labels of links of some depth at least -/
def deepL (ls : List Lk) (dep : Int) : List Str := (ls.filter (fun L : Lk => decide (dep ≤ L.d))).map (fun L : Lk => L.lab)
section
variable {P : Program} {w : World} {K : PySem.W.Frag} {mg : Str → Option Value} {base : Heap}
theorem U_pieces (T : Tx K mg) : Use P w K mg base CX0 4 "pieces" ["canal"] (spL K (fun C : Cn => [cnD C]) (fun C => C.Good) fun C => (piecesM C.reach C.bs).map rowD) := by
  have UReached := U_reached (P := P) (w := w) (base := base) T
  refine use_of T.f_pieces (fun _ _ _ _ _ _ us hl => match us, hl with | [_], _ => rfl) fun f fd F => ?_
  have nd := scPieces.nd
  refine fn_L F scPieces (fun _ => rfl) fun cdv A outer s H E hr => ⟨_,
    (pss_cons (ps_set (i := 1) nd rfl (.inl rfl) (pe_lst pa_nil))
      (pss_cons (ps_set (i := 2) nd rfl (.inl rfl) (pe_callTy0 cr_set0K (by rfl) T.m_set (by decide +kernel)))
      (pss_cons (ps_for PassesOwn.never rfl (pi_tup (pe_ix (ixT K) (pv 0) pe_int (fun _ _ => rfl))) (pg_name (i := 3) nd rfl (.inl rfl)) (pss_one (ps_if (pt_cmpR or_snotinK (pv 3) (pv 2) rfl) (pss_cons (ps_set (i := 4) nd rfl (.inl rfl) (pe_use UReached hr (pa_cons (pv 0) (pa_cons (pv 3) pa_nil))))
      (pss_cons (ps_expr (pe_bm PySem.F.plainAttrs_list PySem.F.slot_list_append PySem.F.type_list_append mt_append (pv 1) (pa_cons (pv 4) pa_nil)))
      (pss_one (ps_for PassesOwn.never rfl (pi_list (pv 4)) (pg_name (i := 5) nd rfl (.inl rfl)) (pss_one (ps_expr (pe_saddK (pv 2) (pa_cons (pv 5) pa_nil)))))))) pss_nil)))
      (pss_one (ps_ret (pv 1))))))
    , fun F0 H0 C Q g hQ => ?_⟩
  have hnb := g.nb
  refine w_asgL (el_lst ea_nil) ?_
  dsimp only
  refine w_asgS ?_
  dsimp only
  refine w_forT (fun i ρ => ∃ (S : Key → Bool) (n : Nat) (y3 y4 y5 : Sl), ρ = [.fz (cnD C), .ol ((piecesM C.reach (C.bs.take i)).map rowD), .os S n, y3, y4, y5] ∧ (∀ x : Str, S (.inr x) = (piecesM C.reach (C.bs.take i)).any (fun r => hasS r x)) ∧ n ≤ 30 * i)
    (ev_op (ev_var rfl) ev_int (ov_ixT rfl)) ⟨fun _ => false, 0, .un, .un, .un, rfl, fun x => rfl, Nat.le_refl _⟩ ?_ ?_
  · rintro B i d ρ hB hd ⟨S, n, y3, y4, y5, rfl, hS, hn⟩
    obtain ⟨a, ha, rfl, hm⟩ := take_map hd
    have hi : i < C.bs.length := (List.getElem?_eq_some_iff.mp ha).1
    have st := piecesM_step C.reach ha
    refine ⟨_, tg_name, ?_⟩
    refine w_if (et_test (ev_notinS (j := .inr a) rfl (ev_var rfl))) (fun e => ?_) (fun e => ?_)
    · have hf : (piecesM C.reach (C.bs.take i)).any (fun r => hasS r a) = false := by
        rw [← hS]; simpa using e
      rw [if_neg (by rw [hf]; exact Bool.false_ne_true)] at st
      refine w_asg (EL.ev (el_call (α := Cn × Str) (C, a) (ea_cons (ev_var rfl) (ea_cons (ev_var rfl) ea_nil)) ⟨g, hm⟩)) ?_
      dsimp only
      refine w_app rfl (ev_var rfl) ?_ ?_
      · have := piecesM_len C.reach (C.bs.take i)
        have : (C.bs.take i).length ≤ C.bs.length := by rw [List.length_take]; omega
        rw [List.length_map]; omega
      dsimp only
      refine w_forL (fun j ρ => ∃ (S' : Key → Bool) (n' : Nat) (y5 : Sl), ρ = [.fz (cnD C), .ol ((piecesM C.reach (C.bs.take (i + 1))).map rowD), .os S' n', .fz (.str a), .fz (rowD (C.reach a)), y5] ∧ (∀ x : Str, S' (.inr x) = ((piecesM C.reach (C.bs.take i)).any (fun r => hasS r x) || hasS ((C.reach a).take j) x)) ∧ n' ≤ 30 * i + j)
        (ev_var rfl) ⟨S, n, y5, by rw [st, List.map_append]; rfl, fun x => by rw [hS, List.take_zero]; simp [hasS], by omega⟩ ?_ ?_
      · rintro B2 j d ρ hB2 hd2 ⟨S', n', y5, rfl, hS', hn'⟩
        obtain ⟨o, ho, rfl, hmo⟩ := take_map hd2
        have hj : j < (C.reach a).length := (List.getElem?_eq_some_iff.mp ho).1
        have := reach_len C a
        refine ⟨_, tg_name, ?_⟩
        refine w_add (j := .inr o) rfl (ev_var rfl) (by omega) (w_K ⟨_, _, .fz (.str o), rfl, fun x => ?_, ?_⟩)
        · rw [hS', List.take_add_one, ho]
          show _ = (_ || hasS (((C.reach a).take j) ++ [o]) x)
          rw [hasS_snoc, Bool.or_assoc]
          congr 2
          by_cases q : o = x
          · subst q; simp
          · have q2 : ¬ x = o := fun z => q z.symm
            simp [q, q2]
        · split <;> omega
      · rintro ρ ⟨S', n', y5, rfl, hS', hn'⟩
        have hl : (List.map PyData.str (sortS (reachL C.bs C.lks a))).length ≤ 30 := by rw [List.length_map]; exact Nat.le_trans (reach_len C a) hnb
        refine w_K ⟨S', n', _, _, _, rfl, fun x => ?_, ?_⟩
        · rw [hS', List.length_map, List.take_length, st, any_snoc]
        · omega
    · have hf : (piecesM C.reach (C.bs.take i)).any (fun r => hasS r a) = true := by
        rw [← hS]; simpa using e
      rw [if_pos hf] at st
      refine w_next (w_K ⟨S, n, .fz (.str a), y4, y5, by rw [st]; rfl, fun x => by rw [hS, st], by omega⟩)
  · rintro ρ ⟨S, n, y3, y4, y5, rfl, hS, hn⟩
    rw [List.length_map, List.take_length]
    exact w_retOL rfl hQ
theorem U_is_joined (T : Tx K mg) : Use P w K mg base CX0 4 "is_joined" ["canal", "first", "second"] (spV K (fun a : Cn × Str × Str => [cnD a.1, .str a.2.1, .str a.2.2]) (fun a => a.1.Good ∧ a.2.1 ∈ a.1.bs ∧ a.2.2 ∈ a.1.bs) fun a => .bool (reachB a.1.lks a.2.1 a.2.2)) := by
  have UCheckBasin := U_check_basin (P := P) (w := w) (base := base) T
  have UReached := U_reached (P := P) (w := w) (base := base) T
  refine use_of T.f_is_joined (fun _ _ _ _ _ _ us hl => match us, hl with | [_, _, _], _ => rfl) fun f fd F => ?_
  have nd := scIsJoined.nd
  refine fn_V F scIsJoined (fun _ => rfl) fun cdv A outer s H E hr => ⟨_,
    (pss_cons (ps_expr (pe_use UCheckBasin hr (pa_cons (pv 0) (pa_cons (pv 1) pa_nil))))
      (pss_cons (ps_expr (pe_use UCheckBasin hr (pa_cons (pv 0) (pa_cons (pv 2) pa_nil))))
      (pss_one (ps_ret (pe_cmpR (inSq K) (pv 2) (pe_use UReached hr (pa_cons (pv 0) (pa_cons (pv 1) pa_nil))) rfl)))))
    , fun F0 H0 a Q hp hQ => ?_⟩
  obtain ⟨C, x, y⟩ := a
  obtain ⟨g, hx, hy⟩ := hp
  dsimp only at g hx hy hQ
  refine w_drop (ev_call (α := Cn × Str) (C, x) (ea_cons (ev_var rfl) (ea_cons (ev_var rfl) ea_nil)) hx) ?_
  dsimp only
  refine w_drop (ev_call (α := Cn × Str) (C, y) (ea_cons (ev_var rfl) (ea_cons (ev_var rfl) ea_nil)) hy) ?_
  dsimp only
  refine w_ret ((ev_op (ev_var rfl) (EL.ev (el_call (α := Cn × Str) (C, x) (ea_cons (ev_var rfl) (ea_cons (ev_var rfl) ea_nil)) ⟨g, hx⟩)) ov_inL).eq ?_) hQ
  show PyData.bool (hasS (C.reach x) y) = _
  congr 1
  rw [Bool.eq_iff_iff, hasS_iff, mem_sortS, mem_reachL, reachB_iff]
  exact ⟨fun h => h.2, fun h => ⟨hy, h⟩⟩
theorem U_split_by (T : Tx K mg) : Use P w K mg base CX0 5 "split_by" ["canal", "labels"] (spL K (fun a : Cn × List Str => [cnD a.1, .list (a.2.map .str)]) (fun a => a.1.Good ∧ ∀ l ∈ a.2, ∃ L ∈ a.1.lks, L.lab = l) fun a => (piecesM (a.1.less a.2).reach a.1.bs).map rowD) := by
  have UCheckLinks := U_check_links (P := P) (w := w) (base := base) T
  have UPieces := U_pieces (P := P) (w := w) (base := base) T
  have UWithoutLinks := U_without_links (P := P) (w := w) (base := base) T
  refine use_of T.f_split_by (fun _ _ _ _ _ _ us hl => match us, hl with | [_, _], _ => rfl) fun f fd F => ?_
  have nd := scSplitBy.nd
  refine fn_L F scSplitBy (fun _ => rfl) fun cdv A outer s H E hr => ⟨_,
    (pss_cons (ps_expr (pe_use UCheckLinks hr (pa_cons (pv 0) (pa_cons (pv 1) pa_nil))))
      (pss_one (ps_ret (pe_use UPieces hr (pa_cons (pe_use UWithoutLinks hr (pa_cons (pv 0) (pa_cons (pv 1) pa_nil))) pa_nil)))))
    , fun F0 H0 a Q hp hQ => ?_⟩
  obtain ⟨C, ls⟩ := a
  obtain ⟨g, hl⟩ := hp
  dsimp only at g hl hQ
  refine w_drop (ev_call (α := Cn × List Str) (C, ls) (ea_cons (ev_var rfl) (ea_cons (ev_var rfl) ea_nil)) ⟨g.toOk, hl⟩) ?_
  dsimp only
  exact w_retL (el_call (α := Cn) (C.less ls) (ea_cons (ev_call (α := Cn × List Str) (C, ls) (ea_cons (ev_var rfl) (ea_cons (ev_var rfl) ea_nil)) ⟨g.toOk, hl⟩) ea_nil) (less_good g)) hQ
theorem U_deep_links (T : Tx K mg) : Use P w K mg base CX0 2 "deep_links" ["canal", "depth"] (spL K (fun a : Cn × Int => [cnD a.1, .int a.2]) (fun a => a.1.Ok) fun a => (deepL a.1.lks a.2).map .str) := by
  have ULinks := U_links (P := P) (w := w) (base := base) T
  refine use_of T.f_deep_links (fun _ _ _ _ _ _ us hl => match us, hl with | [_, _], _ => rfl) fun f fd F => ?_
  have nd := scDeepLinks.nd
  refine fn_L F scDeepLinks (fun _ => rfl) fun cdv A outer s H E hr => ⟨_,
    (pss_one (ps_ret (pe_lc (g := gName 2) (own := [("link", 2)]) rfl nd (pi_list (pe_use ULinks hr (pa_cons (pv 0) pa_nil))) (blkOk_by (N := NDeepLinks) (sc := defScope stDeepLinks) (by decide +kernel)) (fun _ _ _ _ _ => (pg_name (i := 2) nd rfl (.inl rfl))) (fun _ _ _ _ _ => (pts_one (pt_cmpR op_ge (pe_ix (ixT K) (pv 2) pe_int (fun _ _ => rfl)) (pv 1) (nomark _)))) (fun _ _ _ _ _ => (pe_ix (ixT K) (pv 2) pe_int (fun _ _ => rfl))))))
    , fun F0 H0 a Q ok hQ => ?_⟩
  obtain ⟨C, dep⟩ := a
  dsimp only at ok hQ
  have hlen := lks_len ok
  refine w_retL ((el_lcL (j := 2) lkD C.lks (fun L : Lk => decide (dep ≤ L.d)) (fun L : Lk => .str L.lab) (EL.ev (el_call (α := Cn) C (ea_cons (ev_var rfl) ea_nil) ok)) (by omega) (fun L _ => et_test (ev_op (ev_op (ev_var rfl) ev_int (ov_ixT rfl)) (ev_var rfl) ov_b)) (fun L _ _ => ev_op (ev_var rfl) ev_int (ov_ixT rfl))).eq ?_) hQ
  show _ = ((C.lks.filter _).map _).map _
  rw [List.map_map]
  rfl
theorem U_deep_side (T : Tx K mg) : Use P w K mg base CX0 4 "deep_side" ["canal", "source", "depth"] (spL K (fun a : Cn × Str × Int => [cnD a.1, .str a.2.1, .int a.2.2]) (fun a => a.1.Good ∧ a.2.1 ∈ a.1.bs) fun a => ((a.1.keep (deepL a.1.lks a.2.2)).reach a.2.1).map .str) := by
  have UCheckBasin := U_check_basin (P := P) (w := w) (base := base) T
  have UDeepLinks := U_deep_links (P := P) (w := w) (base := base) T
  have UReached := U_reached (P := P) (w := w) (base := base) T
  refine use_of T.f_deep_side (fun _ _ _ _ _ _ us hl => match us, hl with | [_, _, _], _ => rfl) fun f fd F => ?_
  have nd := scDeepSide.nd
  refine fn_L F scDeepSide (fun _ => rfl) fun cdv A outer s H E hr => ⟨_,
    (pss_cons (ps_expr (pe_use UCheckBasin hr (pa_cons (pv 0) (pa_cons (pv 1) pa_nil))))
      (pss_cons (ps_set (i := 3) nd rfl (.inr rfl) (pe_use UDeepLinks hr (pa_cons (pv 0) (pa_cons (pv 2) pa_nil))))
      (pss_cons (ps_set (i := 5) nd rfl (.inl rfl) (pe_callTy (tupleOf K) (by rfl) T.m_tuple (by decide +kernel) (pa_cons (pe_lc (g := gName 4) (own := [("reach", 4)]) rfl nd (pi_tup (pe_ix (ixT K) (pv 0) pe_int (fun _ _ => rfl))) (blkOk_by (N := NDeepSide) (sc := defScope stDeepSide) (by decide +kernel)) (fun _ _ _ _ _ => (pg_name (i := 4) nd rfl (.inl rfl))) (fun _ _ _ _ _ => (pts_one (pt_cmpR (inSq K) (pe_ix (ixT K) (pv 4) pe_int (fun _ _ => rfl)) (pv 3) rfl))) (fun _ _ _ _ _ => (pv 4))) pa_nil)))
      (pss_cons (ps_set (i := 7) nd rfl (.inl rfl) (pe_callTy (tupleOf K) (by rfl) T.m_tuple (by decide +kernel) (pa_cons (pe_lc (g := gName 6) (own := [("lock", 6)]) rfl nd (pi_tup (pe_ix (ixT K) (pv 0) pe_int (fun _ _ => rfl))) (blkOk_by (N := NDeepSide) (sc := defScope stDeepSide) (by decide +kernel)) (fun _ _ _ _ _ => (pg_name (i := 6) nd rfl (.inl rfl))) (fun _ _ _ _ _ => (pts_one (pt_cmpR (inSq K) (pe_ix (ixT K) (pv 6) pe_int (fun _ _ => rfl)) (pv 3) rfl))) (fun _ _ _ _ _ => (pv 6))) pa_nil)))
      (pss_one (ps_ret (pe_use UReached hr (pa_cons (pe_tup (pa_cons (pe_ix (ixT K) (pv 0) pe_int (fun _ _ => rfl)) (pa_cons (pv 5) (pa_cons (pv 7) pa_nil)))) (pa_cons (pv 1) pa_nil)))))))))
    , fun F0 H0 a Q hp hQ => ?_⟩
  obtain ⟨C, x, dep⟩ := a
  obtain ⟨g, hx⟩ := hp
  dsimp only at g hx hQ
  refine w_drop (ev_call (α := Cn × Str) (C, x) (ea_cons (ev_var rfl) (ea_cons (ev_var rfl) ea_nil)) hx) ?_
  dsimp only
  refine w_asg (EL.ev (el_call (α := Cn × Int) (C, dep) (ea_cons (ev_var rfl) (ea_cons (ev_var rfl) ea_nil)) g.toOk)) ?_
  show W _ F0 H0 _ [.fz (cnD C), .fz (.str x), .fz (.int dep), .fz (.list ((deepL C.lks dep).map .str)), .un, .un, .un, .un]
  generalize hk : deepL C.lks dep = ks at hQ ⊢
  have h1 : C.rs.length ≤ 50000 := by have := g.nl; omega
  have h2 : C.ls.length ≤ 50000 := by have := g.nl; omega
  have et : ∀ (j : Nat) (L : Lk) (ρ : List Sl), ρ[3]? = some (.fz (.list (ks.map .str))) → ρ[j]? = some (.fz (lkD L)) → ET (wd P w K) (tTest (tOp (rIn K false) (tOp (rIxT K) (tVar j) (tC (.int 0))) (tVar 3))) ρ (hasS ks L.lab) := fun j L ρ h1 hj =>
    et_test (ev_op (ev_op (ev_var hj) ev_int (ov_ixT rfl)) (ev_var h1) ov_inL)
  dsimp only
  refine w_asg (ev_cb (ea_cons (EL.ev (el_lcT (j := 4) lkD C.rs (fun L => hasS ks L.lab) lkD (ev_op (ev_var rfl) ev_int (ov_ixT rfl)) h1 (fun L _ => et 4 L _ rfl rfl) (fun L _ _ => ev_var rfl))) ea_nil) cv_tupleL) ?_
  dsimp only
  refine w_asg (ev_cb (ea_cons (EL.ev (el_lcT (j := 6) lkD C.ls (fun L => hasS ks L.lab) lkD (ev_op (ev_var rfl) ev_int (ov_ixT rfl)) h2 (fun L _ => et 6 L _ rfl rfl) (fun L _ _ => ev_var rfl))) ea_nil) cv_tupleL) ?_
  dsimp only
  exact w_retL (el_call (α := Cn × Str) (C.keep ks, x) (ea_cons (ev_tup (ea_cons (ev_op (ev_var rfl) ev_int (ov_ixT rfl)) (ea_cons (ev_var rfl) (ea_cons (ev_var rfl) ea_nil)))) (ea_cons (ev_var rfl) ea_nil)) ⟨keep_good g, hx⟩) hQ
end
end Kx


set_option maxHeartbeats 4000000
namespace Kx
open PySem L2 DL

/-! ### ways and their keys -/
def mins (r : List Lk) : Int := (r.map fun L : Lk => L.m).sum
theorem mins_snoc (r : List Lk) (L : Lk) : mins (r ++ [L]) = mins r + L.m := by
  unfold mins
  rw [List.map_append, List.sum_append]
  simp
abbrev keyD : Option (List Lk) → PyData
  | none => .none
  | some r => .tuple [.int (mins r), .int (r.length : Int), .tuple (r.map fun L => .str L.lab)]
def kle (r r' : List Lk) : Prop := mins r < mins r' ∨ (mins r = mins r' ∧ r.length ≤ r'.length)
theorem kle_refl (r : List Lk) : kle r r := .inr ⟨rfl, Nat.le_refl _⟩
theorem kle_trans {a b c : List Lk} (h : kle a b) (h2 : kle b c) : kle a c := by
  unfold kle at *
  omega
theorem kle_snoc {a b : List Lk} (h : kle a b) (L : Lk) : kle (a ++ [L]) (b ++ [L]) := by
  unfold kle at *
  rw [mins_snoc, mins_snoc, List.length_append, List.length_append]
  omega
theorem not_back {a b : List Lk} {L : Lk} (hm : 0 < L.m) (h : kle a b) (h2 : kle (b ++ [L]) a) : False := by
  unfold kle at *
  rw [mins_snoc] at h2
  omega
theorem labs_alike : ∀ a b : List Lk, PySem.W.alikeAll (a.map fun L => PyData.str L.lab) (b.map fun L => PyData.str L.lab) = true
  | [], [] => by simp [PySem.W.alikeAll]
  | [], _ :: _ => by simp [PySem.W.alikeAll]
  | _ :: _, [] => by simp [PySem.W.alikeAll]
  | x :: a, y :: b => by
    rw [List.map_cons, List.map_cons]
    simp only [PySem.W.alikeAll, labs_alike a b]
    simp [PySem.W.alike]
theorem labs_noDict : ∀ a : List Lk, noDictAll (a.map fun L => PyData.str L.lab) = true
  | [] => rfl
  | x :: a => by
    rw [List.map_cons]
    show (noDict (.str x.lab) && noDictAll (a.map fun L => PyData.str L.lab)) = true
    rw [labs_noDict a]
    rfl
theorem labs_depth : ∀ a : List Lk, PyData.depthAll (a.map fun L => PyData.str L.lab) = 0
  | [] => by simp [PyData.depthAll]
  | x :: a => by
    rw [List.map_cons]
    simp only [PyData.depthAll, labs_depth a, PyData.depth]
    rfl
theorem key_alike (r r' : List Lk) : PySem.W.alike (keyD (some r)) (keyD (some r')) = true := by
  simp only [keyD, PySem.W.alike, PySem.W.alikeAll, labs_alike]
  rfl
theorem key_noDict (r : List Lk) : noDict (keyD (some r)) = true := by
  simp only [keyD, noDict, noDictAll, labs_noDict]
  rfl
theorem key_depth (r : List Lk) : (keyD (some r)).depth ≤ 60 := by
  simp only [keyD, PyData.depth, PyData.depthAll, labs_depth]
  decide
theorem key_lt (r r' : List Lk) : PySem.W.dataLt (keyD (some r)) (keyD (some r')) = if mins r = mins r' then (if (r.length : Int) = r'.length then PyProof.Rows.lexLt PyProof.Rows.itemOrd (PySem.W.keyToksAll [.tuple (r.map fun L => .str L.lab)]) (PySem.W.keyToksAll [.tuple (r'.map fun L => .str L.lab)]) else decide ((r.length : Int) < r'.length)) else decide (mins r < mins r') := by
  show PySem.W.dataLt (.tuple _) (.tuple _) = _
  rw [PySem.W.dataLt_tuple, PySem.W.dataLt_cons (by simp [PySem.W.alike]), PySem.W.dataLt_cons (by simp [PySem.W.alike]), PySem.W.dataLt_int, PySem.W.dataLt_int]
  simp only [PyData.eqv, beq_iff_eq]
theorem lt_kle {r r' : List Lk} (h : PySem.W.dataLt (keyD (some r)) (keyD (some r')) = true) : kle r r' := by
  rw [key_lt] at h
  unfold kle
  split at h
  · rename_i e
    split at h
    · omega
    · have := of_decide_eq_true h; omega
  · have := of_decide_eq_true h; omega
theorem nlt_kle {r r' : List Lk} (h : PySem.W.dataLt (keyD (some r)) (keyD (some r')) = false) : kle r' r := by
  rw [key_lt] at h
  unfold kle
  split at h
  · rename_i e
    split at h
    · omega
    · have := of_decide_eq_false h; omega
  · have := of_decide_eq_false h; omega
/-- a way from s -/
inductive Walk (ls : List Lk) (s : Str) : List Lk → Str → Prop
  | nil : Walk ls s [] s
  | snoc {r : List Lk} {x : Str} {L : Lk} (h : Walk ls s r x) (m : L ∈ ls) (t : touch L x = true) : Walk ls s (r ++ [L]) (far L x)
structure Least (ls : List Lk) (s : Str) (K : Str → Option (List Lk)) : Prop where
  src : K s = some []
  wk : ∀ x r, K x = some r → Walk ls s r x
  cl : ∀ x r, K x = some r → ∀ L ∈ ls, touch L x = true → ∃ r', K (far L x) = some r' ∧ kle r' (r ++ [L])
theorem Least.le {ls : List Lk} {s : Str} {K : Str → Option (List Lk)} (h : Least ls s K) {r : List Lk} {x : Str} (w : Walk ls s r x) : ∃ r', K x = some r' ∧ kle r' r := by
  induction w with
  | nil => exact ⟨_, h.src, kle_refl _⟩
  | snoc w m t ih =>
    obtain ⟨r', e, l⟩ := ih
    obtain ⟨r2, e2, l2⟩ := h.cl _ _ e _ m t
    exact ⟨r2, e2, kle_trans l2 (kle_snoc l _)⟩

/-! ### a dict over the basins -/
abbrev kvM (bs : List Str) (f : Str → PyData) : List (Key × PyData) := bs.map fun x => ((.inr x : Key), f x)
theorem gV_kvM {f : Str → PyData} {x : Str} : ∀ {bs : List Str}, x ∈ bs → gV (kvM bs f) (.inr x) = some (f x)
  | [], h => nomatch h
  | b :: bs, h => by
    show gV ((Sum.inr b, f b) :: kvM bs f) _ = _
    rw [gV_cons]
    by_cases e : b = x
    · subst e; rw [if_pos rfl]
    · rw [if_neg (fun z => e (by cases z; rfl))]
      rcases List.mem_cons.mp h with q | q
      · exact absurd q.symm e
      · exact gV_kvM q
theorem put_kvM {f : Str → PyData} {y : Str} {d : PyData} {bs : List Str} (h : y ∈ bs) : putD (kvM bs f) (.inr y) d = kvM bs fun x => if x = y then d else f x := by
  unfold putD
  rw [if_pos (by
    rw [List.any_eq_true]
    exact ⟨(.inr y, f y), List.mem_map.mpr ⟨y, h, rfl⟩, decide_eq_true rfl⟩)]
  show List.map _ (List.map _ bs) = _
  rw [List.map_map]
  refine List.map_congr_left fun x _ => ?_
  show (if (Sum.inr x : Key) = Sum.inr y then _ else _) = _
  by_cases e : x = y
  · subst e; rw [if_pos rfl]; show _ = (Sum.inr x, if x = x then d else f x); rw [if_pos rfl]
  · rw [if_neg (fun z => e (by cases z; rfl))]; show _ = (Sum.inr x, if x = y then d else f x); rw [if_neg e]
theorem put_none : ∀ {kvs : List (Key × PyData)} {k : Key} {d : PyData}, (∀ p ∈ kvs, p.1 ≠ k) → putD kvs k d = kvs ++ [(k, d)] := fun {kvs k d} h => by
  unfold putD
  rw [if_neg]
  intro z
  obtain ⟨p, hp, e⟩ := List.any_eq_true.mp z
  exact h p hp (of_decide_eq_true e)
theorem fold_kvM {d : PyData} {bs : List Str} (nd : bs.Nodup) : foldD (fun x : Str => (.inr x : Key)) (fun _ => d) bs = kvM bs fun _ => d := by
  unfold foldD
  have h : ∀ (bs pre : List Str), (pre ++ bs).Nodup → bs.foldl (fun acc a => putD acc (.inr a : Key) d) (kvM pre fun _ => d) = kvM (pre ++ bs) fun _ => d := by
    intro bs
    induction bs with
    | nil => intro pre _; rw [List.append_nil]; rfl
    | cons b bs ih =>
      intro pre hn
      rw [List.foldl_cons, put_none]
      · have := ih (pre ++ [b]) (by rw [List.append_assoc]; exact hn)
        rw [List.append_assoc] at this
        have e : kvM pre (fun _ => d) ++ [(Sum.inr b, d)] = kvM (pre ++ [b]) fun _ => d := by
          unfold kvM
          rw [List.map_append]; rfl
        rw [e]
        exact this
      · intro p hp z
        obtain ⟨x, hx, rfl⟩ := List.mem_map.mp hp
        cases z
        rw [List.nodup_append] at hn
        exact hn.2.2 _ hx _ List.mem_cons_self rfl
  exact h bs [] nd
abbrev strO : Option Str → PyData
  | none => .none
  | some x => .str x
theorem take_memS {xs : List Str} {i : Nat} {a : Str} (h : xs[i]? = some a) {y : Str} (hy : y ∈ xs.take (i + 1)) : y ∈ xs.take i ∨ y = a := by
  rw [List.take_add_one, h, List.mem_append] at hy
  rcases hy with hy | hy
  · exact .inl hy
  · exact .inr (by simpa using hy)
/-- the nearest, among those that are told -/
def Next (K : Str → Option (List Lk)) (bs done : List Str) : Option Str → Prop
  | none => ∀ y ∈ bs, y ∉ done → K y = none
  | some x => x ∉ done ∧ ∃ r, K x = some r ∧ ∀ y ∈ bs, y ∉ done → ∀ r', K y = some r' → kle r r'
section
variable {P : Program} {w : World} {K : PySem.W.Frag} {mg : Str → Option Value} {base : Heap}
theorem U_nearest (T : Tx K mg) : Use P w K mg base CX0 1 "_nearest" ["keys", "done"] (spRV K (fun a : List Str × (Str → Option (List Lk)) × List Str => [dicD (kvM a.1 fun x => keyD (a.2.1 x)), .list (a.2.2.map .str)]) (fun a => True) fun a d => ∃ o, d = strO o ∧ Next a.2.1 a.1 a.2.2 o ∧ ∀ x, o = some x → x ∈ a.1) := by
  refine use_of T.f_nearest (fun _ _ _ _ _ _ us hl => match us, hl with | [_, _], _ => rfl) fun f fd F => ?_
  have nd := scNearest.nd
  refine fn_RV F scNearest (fun _ => rfl) fun cdv A outer s H E hr => ⟨_,
    (pss_cons (ps_set (i := 2) nd rfl (.inl rfl) pe_non)
      (pss_cons (ps_lk (ps_for PassesOwn.never rfl (pi_keys (pv 0)) (pg_name (i := 3) nd rfl (.inl rfl)) (pss_one (ps_if (PW.pt (pw_and (pt_cmpR (notInSq K) (pv 3) (pv 1) rfl) (pw_and1 (pt_cmpR op_notN (pe_dget (hu_of hr) (pv 0) (pv 3) (fun _ _ => rfl)) pe_non (nomark _))))) (pss_one (ps_if (PW.pt (pw_or (pt_cmpR op_isN (pv 2) pe_non (nomark _)) (pw_or1 (pt_cmpR (ltDK K hr) (pe_dget (hu_of hr) (pv 0) (pv 3) (fun _ _ => rfl)) (pe_dget (hu_of hr) (pv 0) (pv 2) (fun _ _ => rfl)) (nomark _))))) (pss_one (ps_set (i := 2) nd rfl (.inl rfl) (pv 3))) pss_nil)) pss_nil))))
      (pss_one (ps_ret (pv 2)))))
    , fun F0 H0 a Q hp hQ => ?_⟩
  obtain ⟨bs, ky, done⟩ := a
  dsimp only at hQ
  refine w_asg ev_non ?_
  refine w_forK (fun j ρ => ∃ (o : Option Str) (y : Sl), ρ = [.fz (dicD (kvM bs fun x => keyD (ky x))), .fz (.list (done.map .str)), .fz (strO o), y] ∧ Next ky (bs.take j) done o ∧ ∀ x, o = some x → x ∈ bs) rfl ⟨none, .un, rfl, by simp [Next], fun x e => by cases e⟩ ?_ ?_
  · rintro B F0' H0' D' j k d ρ1 hk ⟨o, y, rfl, hn, ho⟩
    obtain ⟨x, hx, e⟩ : ∃ x, bs[j]? = some x ∧ (k, d) = ((.inr x : Key), keyD (ky x)) := by
      rw [List.getElem?_map] at hk
      cases z : bs[j]? with
      | none => rw [z] at hk; cases hk
      | some x => rw [z] at hk; exact ⟨x, rfl, (Option.some.inj hk).symm⟩
    cases e
    have hm : x ∈ bs := List.mem_of_getElem? hx
    refine ⟨_, tg_name, ?_⟩
    show W _ F0' H0' _ [.fz (dicD (kvM bs fun x => keyD (ky x))), .fz (.list (done.map .str)), .fz (strO o), .fz (.str x)]
    have dg : ∀ {c : Wd} {i : Nat} {z : Str} {y2 y3 : Sl}, z ∈ bs → [Sl.fz (dicD (kvM bs fun x => keyD (ky x))), .fz (.list (done.map .str)), y2, y3][i]? = some (.fz (.str z)) → EV c (tDGet (tVar 0) (tVar i)) [.fz (dicD (kvM bs fun x => keyD (ky x))), .fz (.list (done.map .str)), y2, y3] (keyD (ky z)) := fun {c i z y2 y3} hz hi =>
      ev_dget (k := .inr z) (ev_var rfl) (ev_var hi) (gV_kvM (f := fun x => keyD (ky x)) hz)
    refine w_if (b := !hasS done x && !isNone (keyD (ky x))) (et_and (et_test (ev_op (ev_var rfl) (ev_var rfl) ov_inL)) fun _ => et_test (ev_op (dg hm rfl) ev_non ov_notN)) (fun e => ?_) (fun e => ?_)
    · obtain ⟨e1, e2⟩ : hasS done x = false ∧ isNone (keyD (ky x)) = false := by simpa using e
      have hd : x ∉ done := hasS_not.mp e1
      cases hr' : ky x with
      | none => rw [hr'] at e2; cases e2
      | some r =>
        cases o with
        | none =>
          refine w_if (b := true) (et_or (a := true) (b := true) (et_test (ev_op (ev_var rfl) ev_non ov_isN)) fun e => nomatch e) (fun _ => ?_) (fun e => nomatch e)
          refine w_asg (ev_var rfl) (w_K ⟨some x, _, rfl, ⟨hd, r, hr', fun y hy hyd r' hr2 => ?_⟩, fun z hz => by cases hz; exact hm⟩)
          rcases take_memS hx hy with hy | rfl
          · rw [hn y hy hyd] at hr2; cases hr2
          · rw [hr'] at hr2; cases hr2; exact kle_refl _
        | some b =>
          obtain ⟨hbd, rb, hrb, hmin⟩ := hn
          have hb := ho b rfl
          have lt : ∀ {c : Wd} {y2 y3 : Sl}, ET c (tTest (tOp (rLtD c.K) (tDGet (tVar 0) (tVar 3)) (tDGet (tVar 0) (tVar 2)))) [.fz (dicD (kvM bs fun x => keyD (ky x))), .fz (.list (done.map .str)), .fz (.str b), .fz (.str x)] (PySem.W.dataLt (keyD (some r)) (keyD (some rb))) := fun {c y2 y3} =>
            et_test (ev_op ((dg hm rfl).eq (congrArg keyD hr')) ((dg hb rfl).eq (congrArg keyD hrb)) (ov_ltD (key_noDict r) (key_noDict rb) (key_alike r rb) (fun z => nomatch z) (key_depth r)))
          cases hlt : PySem.W.dataLt (keyD (some r)) (keyD (some rb)) with
          | true =>
            refine w_if (b := true) (et_or (a := false) (b := true) (et_test (ev_op (ev_var rfl) ev_non ov_isN)) fun _ => (by rw [← hlt]; exact lt (y2 := .un) (y3 := .un))) (fun _ => ?_) (fun e => nomatch e)
            refine w_asg (ev_var rfl) (w_K ⟨some x, _, rfl, ⟨hd, r, hr', fun y hy hyd r' hr2 => ?_⟩, fun z hz => by cases hz; exact hm⟩)
            rcases take_memS hx hy with hy | rfl
            · exact kle_trans (lt_kle hlt) (hmin y hy hyd r' hr2)
            · rw [hr'] at hr2; cases hr2; exact kle_refl _
          | false =>
            refine w_if (b := false) (et_or (a := false) (b := false) (et_test (ev_op (ev_var rfl) ev_non ov_isN)) fun _ => (by rw [← hlt]; exact lt (y2 := .un) (y3 := .un))) (fun e => nomatch e) (fun _ => ?_)
            refine w_next (w_K ⟨some b, _, rfl, ⟨hbd, rb, hrb, fun y hy hyd r' hr2 => ?_⟩, ho⟩)
            rcases take_memS hx hy with hy | rfl
            · exact hmin y hy hyd r' hr2
            · rw [hr'] at hr2; cases hr2; exact nlt_kle hlt
    · refine w_next (w_K ⟨o, _, rfl, ?_, ho⟩)
      have hskip : x ∉ done → ky x = none := fun hd => by
        have h1 : hasS done x = false := hasS_not.mpr hd
        rw [h1] at e
        cases hr' : ky x with
        | none => rfl
        | some r => rw [hr'] at e; cases e
      cases o with
      | none =>
        intro y hy hyd
        rcases take_memS hx hy with hy | rfl
        · exact hn y hy hyd
        · exact hskip hyd
      | some b =>
        obtain ⟨hbd, rb, hrb, hmin⟩ := hn
        refine ⟨hbd, rb, hrb, fun y hy hyd r' hr2 => ?_⟩
        rcases take_memS hx hy with hy | rfl
        · exact hmin y hy hyd r' hr2
        · rw [hskip hyd] at hr2; cases hr2
  · rintro ρ ⟨o, y, rfl, hn, ho⟩
    rw [List.length_map, List.take_length] at hn
    exact w_ret (ev_var rfl) fun v F' H' g r => hQ (strO o) v F' H' ⟨o, rfl, hn, ho⟩ g r
end
end Kx


set_option maxHeartbeats 4000000
namespace Kx
open PySem L2 DL

/-- what holds between two turns of the search for ways -/
structure DI (C : Cn) (s : Str) (K : Str → Option (List Lk)) (done : List Str) : Prop where
  src : K s = some []
  wk : ∀ x r, K x = some r → Walk C.lks s r x ∧ x ∈ C.bs ∧ r.length ≤ done.length
  nd : done.Nodup
  dk : ∀ x ∈ done, ∃ r, K x = some r
  cl : ∀ x ∈ done, ∀ r, K x = some r → ∀ L ∈ C.lks, touch L x = true → ∃ r', K (far L x) = some r' ∧ kle r' (r ++ [L])
  or : ∀ x ∈ done, ∀ r, K x = some r → ∀ y, y ∉ done → ∀ r', K y = some r' → kle r r'
theorem DI.len {C : Cn} {s : Str} {K : Str → Option (List Lk)} {done : List Str} (h : DI C s K done) : done.length ≤ C.bs.length :=
  nodup_len h.nd fun x hx => by
    obtain ⟨r, e⟩ := h.dk x hx
    exact (h.wk x r e).2.1
theorem DI.done {C : Cn} {s : Str} {K : Str → Option (List Lk)} {done : List Str} (h : DI C s K done) (hn : Next K C.bs done none) : Least C.lks s K := by
  have ad : ∀ x r, K x = some r → x ∈ done := fun x r e => by
    by_cases hx : x ∈ done
    · exact hx
    · rw [hn x (h.wk x r e).2.1 hx] at e; cases e
  exact ⟨h.src, fun x r e => (h.wk x r e).1, fun x r e L m t => h.cl x (ad x r e) r e L m t⟩
theorem walk_ge {ls : List Lk} {s x : Str} {r : List Lk} (hp : ∀ L ∈ ls, 0 < L.m) (w : Walk ls s r x) : kle [] r := by
  induction w with
  | nil => exact kle_refl _
  | snoc w m t ih =>
    have := hp _ m
    unfold kle at *
    rw [mins_snoc, List.length_append]
    simp only [List.length_cons, List.length_nil] at *
    omega
/-- .. within a turn, the links before i looked at -/
structure DJ (C : Cn) (s : Str) (K : Str → Option (List Lk)) (done : List Str) (x0 : Str) (r0 : List Lk) (i : Nat) (K' : Str → Option (List Lk)) : Prop where
  src : K' s = some []
  wk : ∀ x r, K' x = some r → Walk C.lks s r x ∧ x ∈ C.bs ∧ r.length ≤ done.length + 1
  fx : ∀ x ∈ done ++ [x0], K' x = K x
  dn : ∀ x r, K x = some r → ∃ r', K' x = some r' ∧ kle r' r
  lo : ∀ y r', K' y = some r' → y ∉ done ++ [x0] → kle r0 r'
  cl : ∀ L ∈ C.lks.take i, touch L x0 = true → ∃ r', K' (far L x0) = some r' ∧ kle r' (r0 ++ [L])
section
variable {C : Cn} {s : Str} {K K' : Str → Option (List Lk)} {done : List Str} {x0 : Str} {r0 : List Lk}
theorem DJ.start (h : DI C s K done) (hx : x0 ∉ done) (h0 : K x0 = some r0) (hmin : ∀ y ∈ C.bs, y ∉ done → ∀ r', K y = some r' → kle r0 r') : DJ C s K done x0 r0 0 K where
  src := h.src
  wk := fun x r e => ⟨(h.wk x r e).1, (h.wk x r e).2.1, by have := (h.wk x r e).2.2; omega⟩
  fx := fun _ _ => rfl
  dn := fun x r e => ⟨r, e, kle_refl r⟩
  lo := fun y r' e hy => hmin y (h.wk y r' e).2.1 (fun z => hy (List.mem_append_left _ z)) r' e
  cl := fun L m => by simp at m
theorem mem_take_one {α : Type} {xs : List α} {i : Nat} {a : α} (h : xs[i]? = some a) {y : α} (hy : y ∈ xs.take (i + 1)) : y ∈ xs.take i ∨ y = a := by
  rw [List.take_add_one, h, List.mem_append] at hy
  rcases hy with hy | hy
  · exact .inl hy
  · exact .inr (by simpa using hy)
theorem DJ.skip {i : Nat} {L : Lk} (g : DJ C s K done x0 r0 i K') (hL : C.lks[i]? = some L) (h : touch L x0 = true → ∃ r', K' (far L x0) = some r' ∧ kle r' (r0 ++ [L])) : DJ C s K done x0 r0 (i + 1) K' where
  src := g.src
  wk := g.wk
  fx := g.fx
  dn := g.dn
  lo := g.lo
  cl := fun M m t => by
    rcases mem_take_one hL m with m | rfl
    · exact g.cl M m t
    · exact h t
theorem DJ.put {i : Nat} {L : Lk} (hg : C.Good) (h : DI C s K done) (hx : x0 ∉ done) (h0 : K x0 = some r0) (hpos : ∀ L ∈ C.lks, 0 < L.m) (g : DJ C s K done x0 r0 i K') (hL : C.lks[i]? = some L) (t : touch L x0 = true) (hnew : ∀ r', K' (far L x0) = some r' → kle (r0 ++ [L]) r') :
    DJ C s K done x0 r0 (i + 1) (fun x => if x = far L x0 then some (r0 ++ [L]) else K' x) := by
  have hm : L ∈ C.lks := List.mem_of_getElem? hL
  have hp0 := hpos
  have hpos := hpos L hm
  have hd : far L x0 ∉ done ++ [x0] := fun hin => by
    have e := g.fx _ hin
    rcases List.mem_append.mp hin with hin | hin
    · obtain ⟨r, er⟩ := h.dk _ hin
      exact not_back hpos (h.or _ hin r er x0 hx r0 h0) (hnew r (e.trans er))
    · rw [List.mem_singleton] at hin
      rw [hin] at e
      exact not_back hpos (kle_refl r0) (hnew r0 (by rw [hin]; exact e.trans h0))
  have h00 := h.wk x0 r0 h0
  have ne : ∀ x ∈ done ++ [x0], x ≠ far L x0 := fun x hx z => hd (z ▸ hx)
  exact {
    src := by
      by_cases e : s = far L x0
      · exfalso
        have h1 := hnew [] (by rw [← e]; exact g.src)
        exact not_back hpos (walk_ge hp0 h00.1) h1
      · rw [if_neg e]; exact g.src
    wk := fun x r e => by
      by_cases q : x = far L x0
      · subst q
        rw [if_pos rfl] at e
        cases e
        exact ⟨.snoc h00.1 hm t, far_in hg hm x0, by rw [List.length_append, List.length_singleton]; have := h00.2.2; omega⟩
      · rw [if_neg q] at e; exact g.wk x r e
    fx := fun x hx => by rw [if_neg (ne x hx)]; exact g.fx x hx
    dn := fun x r e => by
      obtain ⟨r', e', l⟩ := g.dn x r e
      by_cases q : x = far L x0
      · subst q
        rw [if_pos rfl]
        exact ⟨_, rfl, kle_trans (hnew r' e') l⟩
      · rw [if_neg q]; exact ⟨r', e', l⟩
    lo := fun y r' e hy => by
      by_cases q : y = far L x0
      · subst q
        rw [if_pos rfl] at e
        cases e
        unfold kle; rw [mins_snoc]; omega
      · rw [if_neg q] at e; exact g.lo y r' e hy
    cl := fun M m tM => by
      rcases mem_take_one hL m with m | rfl
      · obtain ⟨r', e', l⟩ := g.cl M m tM
        by_cases q : far M x0 = far L x0
        · rw [if_pos q]
          exact ⟨_, rfl, kle_trans (hnew r' (by rw [← q]; exact e')) l⟩
        · rw [if_neg q]; exact ⟨r', e', l⟩
      · rw [if_pos rfl]; exact ⟨_, rfl, kle_refl _⟩ }
theorem DJ.fin (h : DI C s K done) (hx : x0 ∉ done) (h0 : K x0 = some r0) (g : DJ C s K done x0 r0 C.lks.length K') : DI C s K' (done ++ [x0]) where
  src := g.src
  wk := fun x r e => ⟨(g.wk x r e).1, (g.wk x r e).2.1, by rw [List.length_append, List.length_singleton]; exact (g.wk x r e).2.2⟩
  nd := nodup_snoc h.nd hx
  dk := fun x hx => by
    rw [g.fx x hx]
    rcases List.mem_append.mp hx with hx | hx
    · exact h.dk x hx
    · rw [List.mem_singleton] at hx; subst hx; exact ⟨r0, h0⟩
  cl := fun x hx r e L m t => by
    rw [g.fx x hx] at e
    rcases List.mem_append.mp hx with hx | hx
    · obtain ⟨r1, e1, l1⟩ := h.cl x hx r e L m t
      obtain ⟨r2, e2, l2⟩ := g.dn _ r1 e1
      exact ⟨r2, e2, kle_trans l2 l1⟩
    · rw [List.mem_singleton] at hx; subst hx
      rw [h0] at e; cases e
      exact g.cl L (by rw [List.take_length]; exact m) t
  or := fun x hx1 r e y hy r' e' => by
    rw [g.fx x hx1] at e
    refine kle_trans ?_ (g.lo y r' e' hy)
    rcases List.mem_append.mp hx1 with hx2 | hx2
    · exact h.or x hx2 r e x0 hx r0 h0
    · rw [List.mem_singleton] at hx2; subst hx2
      rw [h0] at e; cases e; exact kle_refl _
end
def Cn.Pos (C : Cn) : Prop := ∀ L ∈ C.lks, 0 < L.m
section
variable {P : Program} {w : World} {K : PySem.W.Frag} {mg : Str → Option Value} {base : Heap}
theorem U_least_keys (T : Tx K mg) : Use P w K mg base CX0 2 "_least_keys" ["canal", "source"] (spRD K (fun a : Cn × Str => [cnD a.1, .str a.2]) (fun a => a.1.Good ∧ a.1.Pos ∧ a.2 ∈ a.1.bs) fun a kvs => ∃ ky, Least a.1.lks a.2 ky ∧ kvs = kvM a.1.bs fun x => keyD (ky x)) := by
  have ULinks := U_links (P := P) (w := w) (base := base) T
  have UNearest := U_nearest (P := P) (w := w) (base := base) T
  have UOtherEnd := U_other_end (P := P) (w := w) (base := base) T
  refine use_of T.f_least_keys (fun _ _ _ _ _ _ us hl => match us, hl with | [_, _], _ => rfl) fun f fd F => ?_
  have nd := scLeastKeys.nd
  refine fn_RD F scLeastKeys (fun _ => rfl) fun cdv A outer s H E hr => ⟨_,
    (pss_cons (ps_setDc (i := 3) (tt := tYes) (g := gName 2) (own := [("name", 2)]) rfl nd rfl rfl (sw_dc rfl rfl rfl (by decide +kernel)) (pi_tup (pe_ix (ixT K) (pv 0) pe_int (fun _ _ => rfl))) (blkOk_by (N := NLeastKeys) (sc := defScope stLeastKeys) (by decide +kernel)) (fun _ _ _ _ _ => (pg_name (i := 2) nd rfl (.inl rfl))) (fun _ _ _ _ _ => pts_nil) (fun _ _ _ _ _ => (pv 2)) (fun _ _ _ _ _ => pe_non))
      (pss_cons (ps_dput (hu_of hr) (pv 3) (pv 1) (pe_tup (pa_cons pe_int (pa_cons pe_int (pa_cons (pe_tup pa_nil) pa_nil)))) rfl)
      (pss_cons (ps_set (i := 4) nd rfl (.inl rfl) (pe_lst pa_nil))
      (pss_cons (ps_set (i := 5) nd rfl (.inl rfl) (pv 1))
      (pss_cons (ps_while PassesOwn.never (pt_cmpR op_notN (pv 5) pe_non (nomark _)) (pss_cons (ps_expr (pe_bm PySem.F.plainAttrs_list PySem.F.slot_list_append PySem.F.type_list_append mt_append (pv 4) (pa_cons (pv 5) pa_nil)))
      (pss_cons (ps_asg (pe_dget (hu_of hr) (pv 3) (pv 5) (fun _ _ => rfl)) (pg_tup rfl (pgs_cons (pg_name (i := 6) nd rfl (.inl rfl)) (pgs_cons (pg_name (i := 7) nd rfl (.inl rfl)) (pgs_cons (pg_name (i := 8) nd rfl (.inl rfl)) pgs_nil)))))
      (pss_cons (ps_for PassesOwn.never rfl (pi_list (pe_use ULinks hr (pa_cons (pv 0) pa_nil))) (pg_name (i := 9) nd rfl (.inl rfl)) (pss_one (ps_if (pt_cmpR (inSq K) (pv 5) (pe_slice (slTA K) (pv 9) (po_some pe_int) (po_some pe_int)) rfl) (pss_cons (ps_set (i := 10) nd rfl (.inl rfl) (pe_use UOtherEnd hr (pa_cons (pv 9) (pa_cons (pv 5) pa_nil))))
      (pss_cons (ps_set (i := 11) nd rfl (.inl rfl) (pe_tup (pa_cons (pe_op op_add (pv 6) (pe_ix (ixT K) (pv 9) pe_int (fun _ _ => rfl))) (pa_cons (pe_op op_add (pv 7) pe_int) (pa_cons (pe_op (catA K) (pv 8) (pe_tup (pa_cons (pe_ix (ixT K) (pv 9) pe_int (fun _ _ => rfl)) pa_nil))) pa_nil)))))
      (pss_one (ps_if (PW.pt (pw_or (pt_cmpR op_isN (pe_dget (hu_of hr) (pv 3) (pv 10) (fun _ _ => rfl)) pe_non (nomark _)) (pw_or1 (pt_cmpR (ltDK K hr) (pv 11) (pe_dget (hu_of hr) (pv 3) (pv 10) (fun _ _ => rfl)) (nomark _))))) (pss_one (ps_dput (hu_of hr) (pv 3) (pv 10) (pv 11) rfl)) pss_nil)))) pss_nil)))
      (pss_one (ps_set (i := 5) nd rfl (.inl rfl) (pe_use UNearest hr (pa_cons (pv 3) (pa_cons (pv 4) pa_nil)))))))))
      (pss_one (ps_ret (pv 3))))))))
    , fun F0 H0 a Q hp hQ => ?_⟩
  obtain ⟨C, s⟩ := a
  obtain ⟨g, hpos, hs⟩ := hp
  dsimp only at g hpos hs hQ
  have hnb := g.nb
  have hnl := lks_len g.toOk
  refine w_asgD (kvs := kvM C.bs fun _ => .none) (by rw [← fold_kvM g.nd]; exact ed_dcT (j := 2) PyData.str C.bs (fun x => .inr x) (fun _ => .none) (ev_op (ev_var rfl) ev_int (ov_ixT rfl)) (by omega) (fun x _ => ev_var rfl) (fun x _ => ev_non)) ?_
  dsimp only
  refine w_dput (j := .inr s) rfl (ev_tup (ea_cons ev_int (ea_cons ev_int (ea_cons (ev_tup ea_nil) ea_nil)))) (ev_var rfl) (by rw [List.length_map]; omega) ?_
  rw [put_kvM hs]
  have e0 : kvM C.bs (fun x => if x = s then (PyData.tuple [.int 0, .int 0, .tuple []]) else .none) = kvM C.bs fun x => keyD ((fun x => if x = s then some [] else none : Str → Option (List Lk)) x) := by
    refine List.map_congr_left fun x _ => ?_
    show (_, _) = (_, _)
    by_cases e : x = s
    · simp only [if_pos e]; rfl
    · simp only [if_neg e]
  rw [e0]
  dsimp only
  refine w_asgL (el_lst ea_nil) ?_
  dsimp only
  refine w_asg (ev_var rfl) ?_
  dsimp only
  show W _ F0 H0 _ [.fz (cnD C), .fz (.str s), .un, .od (kvM C.bs fun x => keyD ((fun x => if x = s then some [] else none : Str → Option (List Lk)) x)), .ol [], .fz (.str s), .un, .un, .un, .un, .un, .un]
  refine w_while (fun m ρ => ∃ (ky : Str → Option (List Lk)) (done : List Str) (o : Option Str) (y2 y6 y7 y8 y9 y10 y11 : Sl), ρ = [.fz (cnD C), .fz (.str s), y2, .od (kvM C.bs fun x => keyD (ky x)), .ol (done.map .str), .fz (strO o), y6, y7, y8, y9, y10, y11] ∧ DI C s ky done ∧ Next ky C.bs done o ∧ (∀ x, o = some x → x ∈ C.bs) ∧ m = C.bs.length + 1 - done.length)
    (C.bs.length + 1) ⟨_, [], some s, _, _, _, _, _, _, _, rfl, ⟨by simp, fun x r e => ?_, List.nodup_nil, (fun x h => nomatch h), (fun x h => nomatch h), (fun x h => nomatch h)⟩, ⟨(fun h => nomatch h), [], by simp, fun y _ _ r' e => ?_⟩, fun x e => by cases e; exact hs, rfl⟩ ?_
  · split at e
    · rename_i q
      subst q
      cases e
      exact ⟨.nil, hs, Nat.le_refl _⟩
    · cases e
  · dsimp only at e
    split at e
    · cases e; exact kle_refl _
    · cases e
  rintro m ρ ⟨ky, done, o, y2, y6, y7, y8, y9, y10, y11, rfl, di, hn, ho, rfl⟩
  have hdl := di.len
  refine ⟨!isNone (strO o), et_test (ev_op (ev_var rfl) ev_non ov_notN), fun e => ?_, fun e => ?_⟩
  · cases o with
    | none => cases e
    | some x0 =>
      obtain ⟨hx, r0, h0, hmin⟩ := hn
      have hxb := ho x0 rfl
      have hlt : done.length < C.bs.length := by
        have := nodup_len (a := done ++ [x0]) (b := C.bs) (nodup_snoc di.nd hx) fun z hz => by
          rcases List.mem_append.mp hz with hz | hz
          · obtain ⟨r, e⟩ := di.dk z hz
            exact (di.wk z r e).2.1
          · rw [List.mem_singleton] at hz; rw [hz]; exact hxb
        rw [List.length_append, List.length_singleton] at this
        omega
      have hr0 := (di.wk x0 r0 h0).2.2
      refine w_app rfl (ev_var rfl) (by rw [List.length_map]; omega) ?_
      dsimp only
      refine w_asgT ((ev_dgetO (k := .inr x0) rfl (ev_var rfl) (gV_kvM (f := fun x => keyD (ky x)) hxb)).eq (congrArg keyD h0)) tg_tup3 ?_
      dsimp only
      show W _ F0 H0 _ [.fz (cnD C), .fz (.str s), y2, .od (kvM C.bs fun x => keyD (ky x)), .ol (done.map .str ++ [.str x0]), .fz (.str x0), .fz (.int (mins r0)), .fz (.int (r0.length : Int)), .fz (.tuple (r0.map fun L => .str L.lab)), y9, y10, y11]
      rw [← map_snocS]
      refine w_forL (fun i ρ => ∃ (ky' : Str → Option (List Lk)) (y9 y10 y11 : Sl), ρ = [.fz (cnD C), .fz (.str s), y2, .od (kvM C.bs fun x => keyD (ky' x)), .ol ((done ++ [x0]).map .str), .fz (.str x0), .fz (.int (mins r0)), .fz (.int (r0.length : Int)), .fz (.tuple (r0.map fun L => .str L.lab)), y9, y10, y11] ∧ DJ C s ky done x0 r0 i ky')
        (EL.ev (el_call (α := Cn) C (ea_cons (ev_var rfl) ea_nil) g.toOk)) ⟨ky, y9, y10, y11, rfl, DJ.start di hx h0 hmin⟩ ?_ ?_
      · rintro B i d ρ hB hd ⟨ky', y9, y10, y11, rfl, dj⟩
        obtain ⟨L, hL, rfl, hm⟩ := take_map hd
        have hfb := far_in g hm x0
        refine ⟨_, tg_name, ?_⟩
        refine w_if (et_touch rfl rfl) (fun tL => ?_) (fun tL => ?_)
        · refine w_asg (d := .str (far L x0)) (ev_call (α := Lk × Str) (L, x0) (ea_cons (ev_var rfl) (ea_cons (ev_var rfl) ea_nil)) trivial) ?_
          dsimp only
          refine w_asg (d := keyD (some (r0 ++ [L]))) ((ev_tup (ea_cons (ev_op (ev_var rfl) (ev_op (ev_var rfl) ev_int (ov_ixT rfl)) (ov_i (g := fun i j => i + j))) (ea_cons (ev_op (ev_var rfl) ev_int (ov_i (g := fun i j => i + j))) (ea_cons (ev_op (ev_var rfl) (ev_tup (ea_cons (ev_op (ev_var rfl) ev_int (ov_ixT rfl)) ea_nil)) (ov_catT ?_)) ea_nil)))).eq ?_) ?_
          · rw [List.length_map]
            simp only [List.length_cons, List.length_nil]
            omega
          · show PyData.tuple _ = PyData.tuple _
            rw [mins_snoc, List.length_append, List.map_append]
            rfl
          dsimp only
          show W _ F0 H0 _ [.fz (cnD C), .fz (.str s), y2, .od (kvM C.bs fun x => keyD (ky' x)), .ol ((done ++ [x0]).map .str), .fz (.str x0), .fz (.int (mins r0)), .fz (.int (r0.length : Int)), .fz (.tuple (r0.map fun L => .str L.lab)), .fz (lkD L), .fz (.str (far L x0)), .fz (keyD (some (r0 ++ [L])))]
          have dg : ∀ {c : Wd} {ρ : List Sl}, ρ[3]? = some (.od (kvM C.bs fun x => keyD (ky' x))) → ρ[10]? = some (.fz (.str (far L x0))) → EV c (tDGet (tVar 3) (tVar 10)) ρ (keyD (ky' (far L x0))) := fun h3 h10 =>
            ev_dgetO (k := .inr (far L x0)) h3 (ev_var h10) (gV_kvM (f := fun x => keyD (ky' x)) hfb)
          have e1 : kvM C.bs (fun x => if x = far L x0 then keyD (some (r0 ++ [L])) else keyD (ky' x)) = kvM C.bs fun x => keyD ((fun x => if x = far L x0 then some (r0 ++ [L]) else ky' x) x) := by
            refine List.map_congr_left fun x _ => ?_
            show (_, _) = (_, _)
            by_cases e : x = far L x0
            · simp only [if_pos e]
            · simp only [if_neg e]
          cases hk : ky' (far L x0) with
          | none =>
            refine w_if (b := true) (et_or (a := true) (b := true) (et_test (ev_op ((dg rfl rfl).eq (congrArg keyD hk)) ev_non ov_isN)) fun e => nomatch e) (fun _ => ?_) (fun e => nomatch e)
            refine w_dput (j := .inr (far L x0)) rfl (ev_var rfl) (ev_var rfl) (by rw [List.length_map]; omega) ?_
            rw [put_kvM hfb, e1]
            exact w_K ⟨_, _, _, _, rfl, DJ.put g di hx h0 hpos dj hL tL (fun r' e => by rw [hk] at e; cases e)⟩
          | some r1 =>
            have lt : ∀ {c : Wd} {ρ : List Sl}, ρ[3]? = some (.od (kvM C.bs fun x => keyD (ky' x))) → ρ[10]? = some (.fz (.str (far L x0))) → ρ[11]? = some (.fz (keyD (some (r0 ++ [L])))) → ET c (tTest (tOp (rLtD c.K) (tVar 11) (tDGet (tVar 3) (tVar 10)))) ρ (PySem.W.dataLt (keyD (some (r0 ++ [L]))) (keyD (some r1))) := fun h3 h10 h11 =>
              et_test (ev_op (ev_var h11) ((dg h3 h10).eq (congrArg keyD hk)) (ov_ltD (key_noDict _) (key_noDict _) (key_alike _ _) (fun z => nomatch z) (key_depth _)))
            cases hlt : PySem.W.dataLt (keyD (some (r0 ++ [L]))) (keyD (some r1)) with
            | true =>
              refine w_if (b := true) (et_or (a := false) (b := true) (et_test (ev_op ((dg rfl rfl).eq (congrArg keyD hk)) ev_non ov_isN)) fun _ => (by rw [← hlt]; exact lt rfl rfl rfl)) (fun _ => ?_) (fun e => nomatch e)
              refine w_dput (j := .inr (far L x0)) rfl (ev_var rfl) (ev_var rfl) (by rw [List.length_map]; omega) ?_
              rw [put_kvM hfb, e1]
              exact w_K ⟨_, _, _, _, rfl, DJ.put g di hx h0 hpos dj hL tL (fun r' e => by rw [hk] at e; cases e; exact lt_kle hlt)⟩
            | false =>
              refine w_if (b := false) (et_or (a := false) (b := false) (et_test (ev_op ((dg rfl rfl).eq (congrArg keyD hk)) ev_non ov_isN)) fun _ => (by rw [← hlt]; exact lt rfl rfl rfl)) (fun e => nomatch e) (fun _ => ?_)
              exact w_next (w_K ⟨ky', _, _, _, rfl, DJ.skip dj hL fun _ => ⟨r1, hk, nlt_kle hlt⟩⟩)
        · exact w_next (w_K ⟨ky', _, _, _, rfl, DJ.skip dj hL fun e => by rw [tL] at e; cases e⟩)
      · rintro ρ ⟨ky', y9, y10, y11, rfl, dj⟩
        rw [List.length_map] at dj
        have di' := DJ.fin di hx h0 dj
        dsimp only
        refine w_asgR (evr_lend (i := 3) rfl rfl (evr_lend (i := 4) rfl rfl (evr_call (α := List Str × (Str → Option (List Lk)) × List Str) (C.bs, ky', done ++ [x0]) (ea_cons (ev_var rfl) (ea_cons (ev_var rfl) ea_nil)) (by exact trivial)) ?_) ?_) ?_
        · rintro d ⟨o, rfl, _⟩; cases o <;> rfl
        · rintro d ⟨o, rfl, _⟩; cases o <;> rfl
        rintro d ⟨o, rfl, hn', ho'⟩
        dsimp only
        refine w_K ⟨C.bs.length + 1 - (done ++ [x0]).length, by rw [List.length_append, List.length_singleton]; omega, ky', done ++ [x0], o, _, _, _, _, _, _, _, rfl, di', hn', ho', rfl⟩
  · cases o with
    | some x => cases e
    | none =>
      dsimp only
      exact w_retOD rfl fun p xs F' H' gr a b c' d => hQ _ p xs F' H' ⟨ky, di.done hn, rfl⟩ gr a b c' d
end
end Kx


set_option maxHeartbeats 4000000
namespace Kx
open PySem L2 DL

/-- the best ways, of some order -/
structure Best (le : List Lk → List Lk → Prop) (ls : List Lk) (s : Str) (K : Str → Option (List Lk)) : Prop where
  wk : ∀ x r, K x = some r → Walk ls s r x
  bt : ∀ x r, Walk ls s r x → ∃ r', K x = some r' ∧ le r' r
theorem Least.best {ls : List Lk} {s : Str} {K : Str → Option (List Lk)} (h : Least ls s K) : Best kle ls s K := ⟨h.wk, fun _ _ w => h.le w⟩
/-- the minutes and the links of a least way -/
noncomputable def leastM (ls : List Lk) (s x : Str) : Option (Int × Nat) :=
  open Classical in if h : ∃ K, Best kle ls s K then (Classical.choose h x).map fun r => (mins r, r.length) else none
theorem kle_eq {a b : List Lk} (h : kle a b) (h2 : kle b a) : mins a = mins b ∧ a.length = b.length := by
  unfold kle at *
  omega
theorem Best.eq {ls : List Lk} {s : Str} {K K' : Str → Option (List Lk)} (h : Best kle ls s K) (h' : Best kle ls s K') (x : Str) : (K x).map (fun r => (mins r, r.length)) = (K' x).map fun r => (mins r, r.length) := by
  cases e : K x with
  | none =>
    cases e' : K' x with
    | none => rfl
    | some r' =>
      obtain ⟨r, e2, _⟩ := h.bt x r' (h'.wk x r' e')
      rw [e] at e2; cases e2
  | some r =>
    obtain ⟨r', e', l1⟩ := h'.bt x r (h.wk x r e)
    obtain ⟨r2, e2, l2⟩ := h.bt x r' (h'.wk x r' e')
    rw [e] at e2; cases e2
    rw [e']
    obtain ⟨q1, q2⟩ := kle_eq l2 l1
    show some (mins r, r.length) = some (mins r', r'.length)
    rw [q1, q2]
theorem Best.is {ls : List Lk} {s : Str} {K : Str → Option (List Lk)} (h : Best kle ls s K) (x : Str) : (K x).map (fun r => (mins r, r.length)) = leastM ls s x := by
  unfold leastM
  rw [dif_pos ⟨K, h⟩]
  exact h.eq (Classical.choose_spec (⟨K, h⟩ : ∃ K, Best kle ls s K)) x
abbrev pairD (x : Str) (m : Int) : PyData := .tuple [.str x, .int m]
section
variable {P : Program} {w : World} {K : PySem.W.Frag} {mg : Str → Option Value} {base : Heap}
theorem U_minutes_from (T : Tx K mg) : Use P w K mg base CX0 3 "minutes_from" ["canal", "source"] (spL K (fun a : Cn × Str => [cnD a.1, .str a.2]) (fun a => a.1.Good ∧ a.1.Pos ∧ a.2 ∈ a.1.bs) fun a => (a.1.bs.filter fun x => (leastM a.1.lks a.2 x).isSome).map fun x => pairD x ((leastM a.1.lks a.2 x).getD (0, 0)).1) := by
  have UCheckBasin := U_check_basin (P := P) (w := w) (base := base) T
  have ULeastKeys := U_least_keys (P := P) (w := w) (base := base) T
  refine use_of T.f_minutes_from (fun _ _ _ _ _ _ us hl => match us, hl with | [_, _], _ => rfl) fun f fd F => ?_
  have nd := scMinutesFrom.nd
  refine fn_L F scMinutesFrom (fun _ => rfl) fun cdv A outer s H E hr => ⟨_,
    (pss_cons (ps_expr (pe_use UCheckBasin hr (pa_cons (pv 0) (pa_cons (pv 1) pa_nil))))
      (pss_cons (ps_set (i := 2) nd rfl (.inr rfl) (pe_use ULeastKeys hr (pa_cons (pv 0) (pa_cons (pv 1) pa_nil))))
      (pss_one (ps_ret (pe_lc (g := gName 3) (own := [("name", 3)]) rfl nd (pi_tup (pe_ix (ixT K) (pv 0) pe_int (fun _ _ => rfl))) (blkOk_by (N := NMinutesFrom) (sc := defScope stMinutesFrom) (by decide +kernel)) (fun _ _ _ _ _ => (pg_name (i := 3) nd rfl (.inl rfl))) (fun _ _ _ _ _ => (pts_one (pt_cmpR op_notN (pe_dget (hu_of hr) (pv 2) (pv 3) (fun _ _ => rfl)) pe_non (nomark _)))) (fun _ _ _ _ _ => (pe_tup (pa_cons (pv 3) (pa_cons (pe_ix (ixT K) (pe_dget (hu_of hr) (pv 2) (pv 3) (fun _ _ => rfl)) pe_int (fun _ _ => rfl)) pa_nil)))))))))
    , fun F0 H0 a Q hp hQ => ?_⟩
  obtain ⟨C, s⟩ := a
  obtain ⟨g, hpos, hs⟩ := hp
  dsimp only at g hpos hs hQ
  have hnb := g.nb
  refine w_drop (ev_call (α := Cn × Str) (C, s) (ea_cons (ev_var rfl) (ea_cons (ev_var rfl) ea_nil)) hs) ?_
  dsimp only
  refine w_asgR (EDR.evr (edr_call (α := Cn × Str) (C, s) (ea_cons (ev_var rfl) (ea_cons (ev_var rfl) ea_nil)) ⟨g, hpos, hs⟩)) ?_
  rintro d ⟨kvs, ⟨ky, hL, rfl⟩, rfl⟩
  dsimp only at hL
  dsimp only
  show W _ F0 H0 _ [.fz (cnD C), .fz (.str s), .fz (dicD (kvM C.bs fun x => keyD (ky x))), .un]
  have dg : ∀ {c : Wd} {ρ : List Sl} {x : Str}, x ∈ C.bs → ρ[2]? = some (.fz (dicD (kvM C.bs fun x => keyD (ky x)))) → ρ[3]? = some (.fz (.str x)) → EV c (tDGet (tVar 2) (tVar 3)) ρ (keyD (ky x)) := fun {c ρ x} hx h2 h3 =>
    ev_dget (k := .inr x) (ev_var h2) (ev_var h3) (gV_kvM (f := fun x => keyD (ky x)) hx)
  have is : ∀ x, (ky x).isSome = (leastM C.lks s x).isSome := fun x => by rw [← hL.best.is x]; cases ky x <;> rfl
  refine w_retL ((el_lcT (j := 3) PyData.str C.bs (fun x => (leastM C.lks s x).isSome) (fun x => pairD x ((leastM C.lks s x).getD (0, 0)).1) (ev_op (ev_var rfl) ev_int (ov_ixT rfl)) (by omega) (fun x hx => ?_) (fun x hx hb => ?_))) hQ
  · refine ET.eq (et_test (ev_op (dg hx rfl rfl) ev_non ov_notN)) ?_
    rw [← is x]
    cases ky x <;> rfl
  · rw [← is x] at hb
    have e := hL.best.is x
    cases hk : ky x with
    | none => rw [hk] at hb; cases hb
    | some r =>
      rw [hk] at e
      refine ev_tup (ea_cons (ev_var rfl) (ea_cons ((ev_op ((dg hx rfl rfl).eq (congrArg keyD hk)) ev_int (ov_ixT rfl)).eq ?_) ea_nil))
      rw [← e]
      rfl
theorem U_least_route (T : Tx K mg) : Use P w K mg base CX0 3 "least_route" ["canal", "source", "target"] (spRV K (fun a : Cn × Str × Str => [cnD a.1, .str a.2.1, .str a.2.2]) (fun a => a.1.Good ∧ a.1.Pos ∧ a.2.1 ∈ a.1.bs ∧ a.2.2 ∈ a.1.bs) fun a d => ∃ ky, Least a.1.lks a.2.1 ky ∧ d = (match ky a.2.2 with | none => .none | some r => .list (r.map fun L => .str L.lab))) := by
  have UCheckBasin := U_check_basin (P := P) (w := w) (base := base) T
  have ULeastKeys := U_least_keys (P := P) (w := w) (base := base) T
  refine use_of T.f_least_route (fun _ _ _ _ _ _ us hl => match us, hl with | [_, _, _], _ => rfl) fun f fd F => ?_
  have nd := scLeastRoute.nd
  refine fn_RV F scLeastRoute (fun _ => rfl) fun cdv A outer s H E hr => ⟨_,
    (pss_cons (ps_expr (pe_use UCheckBasin hr (pa_cons (pv 0) (pa_cons (pv 1) pa_nil))))
      (pss_cons (ps_expr (pe_use UCheckBasin hr (pa_cons (pv 0) (pa_cons (pv 2) pa_nil))))
      (pss_cons (ps_set (i := 3) nd rfl (.inl rfl) (pe_dget (hu_of hr) (pe_use ULeastKeys hr (pa_cons (pv 0) (pa_cons (pv 1) pa_nil))) (pv 2) (fun _ _ => rfl)))
      (pss_one (ps_ret (pe_ifExp (pt_cmpR op_isN (pv 3) pe_non (nomark _)) pe_non (pe_callTy (listOf K) (by rfl) T.m_list (by decide +kernel) (pa_cons (pe_ix (ixT K) (pv 3) pe_int (fun _ _ => rfl)) pa_nil))))))))
    , fun F0 H0 a Q hp hQ => ?_⟩
  obtain ⟨C, s, t⟩ := a
  obtain ⟨g, hpos, hs, ht⟩ := hp
  dsimp only at g hpos hs ht hQ
  have hnb := g.nb
  refine w_drop (ev_call (α := Cn × Str) (C, s) (ea_cons (ev_var rfl) (ea_cons (ev_var rfl) ea_nil)) hs) ?_
  dsimp only
  refine w_drop (ev_call (α := Cn × Str) (C, t) (ea_cons (ev_var rfl) (ea_cons (ev_var rfl) ea_nil)) ht) ?_
  dsimp only
  refine w_asgR (evr_dget (k := .inr t) (R' := fun d => ∃ ky, Least C.lks s ky ∧ d = keyD (ky t)) (EDR.evr (edr_call (α := Cn × Str) (C, s) (ea_cons (ev_var rfl) (ea_cons (ev_var rfl) ea_nil)) ⟨g, hpos, hs⟩)) (ev_var rfl) ?_) ?_
  · rintro kvs ⟨ky, hL, rfl⟩
    exact ⟨_, gV_kvM (f := fun x => keyD (ky x)) ht, ky, hL, rfl⟩
  rintro d ⟨ky, hL, rfl⟩
  dsimp only
  show W _ F0 H0 _ [.fz (cnD C), .fz (.str s), .fz (.str t), .fz (keyD (ky t))]
  cases hk : ky t with
  | none =>
    exact w_ret (ev_if (et_test (ev_op (ev_var rfl) ev_non ov_isN)) (fun _ => ev_non) (fun e => nomatch e)) fun v F' H' gr r => hQ .none v F' H' ⟨ky, hL, by rw [hk]⟩ gr r
  | some r =>
    exact w_ret (ev_if (et_test (ev_op (ev_var rfl) ev_non ov_isN)) (fun e => nomatch e) (fun _ => EL.ev (el_cb (ea_cons (ev_op (ev_var rfl) ev_int (ov_ixT rfl)) ea_nil) cl_listT))) fun v F' H' gr rr => hQ _ v F' H' ⟨ky, hL, by rw [hk]⟩ gr rr
end
end Kx


set_option maxHeartbeats 4000000
namespace Kx
open PySem L2 DL

/-! ### the deepest ways -/
def mn (a b : Int) : Int := if b < a then b else a
theorem mn_l (a b : Int) : mn a b ≤ a := by unfold mn; split <;> omega
theorem mn_r (a b : Int) : mn a b ≤ b := by unfold mn; split <;> omega
theorem mn_mono {a a' : Int} (h : a ≤ a') (b : Int) : mn a b ≤ mn a' b := by unfold mn; split <;> split <;> omega
theorem le_mn {a b c : Int} (h : c ≤ a) (h2 : c ≤ b) : c ≤ mn a b := by unfold mn; split <;> omega
inductive WP (ls : List Lk) (s : Str) : Int → Str → Prop
  | nil : WP ls s 99 s
  | snoc {d : Int} {x : Str} {L : Lk} (h : WP ls s d x) (m : L ∈ ls) (t : touch L x = true) : WP ls s (mn d L.d) (far L x)
theorem WP.le {ls : List Lk} {s x : Str} {d : Int} (h : WP ls s d x) : d ≤ 99 := by
  induction h with
  | nil => exact Int.le_refl _
  | snoc h m t ih => exact Int.le_trans (mn_l _ _) ih
structure Wide (ls : List Lk) (s : Str) (K : Str → Option Int) : Prop where
  src : K s = some 99
  wk : ∀ x d, K x = some d → WP ls s d x
  cl : ∀ x d, K x = some d → ∀ L ∈ ls, touch L x = true → ∃ d', K (far L x) = some d' ∧ mn d L.d ≤ d'
theorem Wide.le {ls : List Lk} {s : Str} {K : Str → Option Int} (h : Wide ls s K) {d : Int} {x : Str} (w : WP ls s d x) : ∃ d', K x = some d' ∧ d ≤ d' := by
  induction w with
  | nil => exact ⟨_, h.src, Int.le_refl _⟩
  | snoc w m t ih =>
    obtain ⟨d', e, l⟩ := ih
    obtain ⟨d2, e2, l2⟩ := h.cl _ _ e _ m t
    exact ⟨d2, e2, Int.le_trans (mn_mono l _) l2⟩
structure WBest (ls : List Lk) (s : Str) (K : Str → Option Int) : Prop where
  wk : ∀ x d, K x = some d → WP ls s d x
  bt : ∀ x d, WP ls s d x → ∃ d', K x = some d' ∧ d ≤ d'
theorem Wide.best {ls : List Lk} {s : Str} {K : Str → Option Int} (h : Wide ls s K) : WBest ls s K := ⟨h.wk, fun _ _ w => h.le w⟩
theorem WBest.eq {ls : List Lk} {s : Str} {K K' : Str → Option Int} (h : WBest ls s K) (h' : WBest ls s K') (x : Str) : K x = K' x := by
  cases e : K x with
  | none =>
    cases e' : K' x with
    | none => rfl
    | some r' =>
      obtain ⟨r, e2, _⟩ := h.bt x r' (h'.wk x r' e')
      rw [e] at e2; cases e2
  | some r =>
    obtain ⟨r', e', l1⟩ := h'.bt x r (h.wk x r e)
    obtain ⟨r2, e2, l2⟩ := h.bt x r' (h'.wk x r' e')
    rw [e] at e2; cases e2
    rw [e', Int.le_antisymm l1 l2]
noncomputable def wideM (ls : List Lk) (s x : Str) : Option Int :=
  open Classical in if h : ∃ K, WBest ls s K then Classical.choose h x else none
theorem WBest.is {ls : List Lk} {s : Str} {K : Str → Option Int} (h : WBest ls s K) (x : Str) : K x = wideM ls s x := by
  unfold wideM
  rw [dif_pos ⟨K, h⟩]
  exact h.eq (Classical.choose_spec (⟨K, h⟩ : ∃ K, WBest ls s K)) x
structure EI (C : Cn) (s : Str) (K : Str → Option Int) (done : List Str) : Prop where
  src : K s = some 99
  wk : ∀ x r, K x = some r → WP C.lks s r x ∧ x ∈ C.bs
  nd : done.Nodup
  dk : ∀ x ∈ done, ∃ r, K x = some r
  cl : ∀ x ∈ done, ∀ r, K x = some r → ∀ L ∈ C.lks, touch L x = true → ∃ r', K (far L x) = some r' ∧ mn r L.d ≤ r'
  or : ∀ x ∈ done, ∀ r, K x = some r → ∀ y, y ∉ done → ∀ r', K y = some r' → r' ≤ r
def NextW (K : Str → Option Int) (bs done : List Str) : Option Str → Prop
  | none => ∀ y ∈ bs, y ∉ done → K y = none
  | some x => x ∉ done ∧ ∃ r, K x = some r ∧ ∀ y ∈ bs, y ∉ done → ∀ r', K y = some r' → r' ≤ r
theorem EI.len {C : Cn} {s : Str} {K : Str → Option Int} {done : List Str} (h : EI C s K done) : done.length ≤ C.bs.length :=
  nodup_len h.nd fun x hx => by
    obtain ⟨r, e⟩ := h.dk x hx
    exact (h.wk x r e).2
theorem EI.done {C : Cn} {s : Str} {K : Str → Option Int} {done : List Str} (h : EI C s K done) (hn : NextW K C.bs done none) : Wide C.lks s K := by
  have ad : ∀ x r, K x = some r → x ∈ done := fun x r e => by
    by_cases hx : x ∈ done
    · exact hx
    · rw [hn x (h.wk x r e).2 hx] at e; cases e
  exact ⟨h.src, fun x r e => (h.wk x r e).1, fun x r e L m t => h.cl x (ad x r e) r e L m t⟩
structure EJ (C : Cn) (s : Str) (K : Str → Option Int) (done : List Str) (x0 : Str) (r0 : Int) (i : Nat) (K' : Str → Option Int) : Prop where
  src : K' s = some 99
  wk : ∀ x r, K' x = some r → WP C.lks s r x ∧ x ∈ C.bs
  fx : ∀ x ∈ done ++ [x0], K' x = K x
  dn : ∀ x r, K x = some r → ∃ r', K' x = some r' ∧ r ≤ r'
  lo : ∀ y r', K' y = some r' → y ∉ done ++ [x0] → r' ≤ r0
  cl : ∀ L ∈ C.lks.take i, touch L x0 = true → ∃ r', K' (far L x0) = some r' ∧ mn r0 L.d ≤ r'
section
variable {C : Cn} {s : Str} {K K' : Str → Option Int} {done : List Str} {x0 : Str} {r0 : Int}
theorem EJ.start (h : EI C s K done) (hx : x0 ∉ done) (h0 : K x0 = some r0) (hmin : ∀ y ∈ C.bs, y ∉ done → ∀ r', K y = some r' → r' ≤ r0) : EJ C s K done x0 r0 0 K where
  src := h.src
  wk := h.wk
  fx := fun _ _ => rfl
  dn := fun x r e => ⟨r, e, Int.le_refl r⟩
  lo := fun y r' e hy => hmin y (h.wk y r' e).2 (fun z => hy (List.mem_append_left _ z)) r' e
  cl := fun L m => by simp at m
theorem EJ.skip {i : Nat} {L : Lk} (g : EJ C s K done x0 r0 i K') (hL : C.lks[i]? = some L) (h : touch L x0 = true → ∃ r', K' (far L x0) = some r' ∧ mn r0 L.d ≤ r') : EJ C s K done x0 r0 (i + 1) K' where
  src := g.src
  wk := g.wk
  fx := g.fx
  dn := g.dn
  lo := g.lo
  cl := fun M m t => by
    rcases mem_take_one hL m with m | rfl
    · exact g.cl M m t
    · exact h t
theorem EJ.put {i : Nat} {L : Lk} (hg : C.Good) (h : EI C s K done) (hx : x0 ∉ done) (h0 : K x0 = some r0) (g : EJ C s K done x0 r0 i K') (hL : C.lks[i]? = some L) (t : touch L x0 = true) (hnew : ∀ r', K' (far L x0) = some r' → r' < mn r0 L.d) :
    EJ C s K done x0 r0 (i + 1) (fun x => if x = far L x0 then some (mn r0 L.d) else K' x) := by
  have hm : L ∈ C.lks := List.mem_of_getElem? hL
  have h00 := h.wk x0 r0 h0
  have ml := mn_l r0 L.d
  have hd : far L x0 ∉ done ++ [x0] := fun hin => by
    have e := g.fx _ hin
    rcases List.mem_append.mp hin with hin | hin
    · obtain ⟨r, er⟩ := h.dk _ hin
      have h1 := h.or _ hin r er x0 hx r0 h0
      have h2 := hnew r (e.trans er)
      omega
    · rw [List.mem_singleton] at hin
      rw [hin] at e
      have h2 := hnew r0 (by rw [hin]; exact e.trans h0)
      omega
  have ne : ∀ x ∈ done ++ [x0], x ≠ far L x0 := fun x hx z => hd (z ▸ hx)
  exact {
    src := by
      by_cases e : s = far L x0
      · exfalso
        have h1 := hnew 99 (by rw [← e]; exact g.src)
        have := h00.1.le
        omega
      · rw [if_neg e]; exact g.src
    wk := fun x r e => by
      by_cases q : x = far L x0
      · subst q
        rw [if_pos rfl] at e
        cases e
        exact ⟨.snoc h00.1 hm t, far_in hg hm x0⟩
      · rw [if_neg q] at e; exact g.wk x r e
    fx := fun x hx => by rw [if_neg (ne x hx)]; exact g.fx x hx
    dn := fun x r e => by
      obtain ⟨r', e', l⟩ := g.dn x r e
      by_cases q : x = far L x0
      · subst q
        rw [if_pos rfl]
        exact ⟨_, rfl, by have := hnew r' e'; omega⟩
      · rw [if_neg q]; exact ⟨r', e', l⟩
    lo := fun y r' e hy => by
      by_cases q : y = far L x0
      · subst q
        rw [if_pos rfl] at e
        cases e
        exact ml
      · rw [if_neg q] at e; exact g.lo y r' e hy
    cl := fun M m tM => by
      rcases mem_take_one hL m with m | rfl
      · obtain ⟨r', e', l⟩ := g.cl M m tM
        by_cases q : far M x0 = far L x0
        · rw [if_pos q]
          exact ⟨_, rfl, by have := hnew r' (by rw [← q]; exact e'); omega⟩
        · rw [if_neg q]; exact ⟨r', e', l⟩
      · rw [if_pos rfl]; exact ⟨_, rfl, Int.le_refl _⟩ }
theorem EJ.fin (h : EI C s K done) (hx : x0 ∉ done) (h0 : K x0 = some r0) (g : EJ C s K done x0 r0 C.lks.length K') : EI C s K' (done ++ [x0]) where
  src := g.src
  wk := g.wk
  nd := nodup_snoc h.nd hx
  dk := fun x hx => by
    rw [g.fx x hx]
    rcases List.mem_append.mp hx with hx | hx
    · exact h.dk x hx
    · rw [List.mem_singleton] at hx; subst hx; exact ⟨r0, h0⟩
  cl := fun x hx r e L m t => by
    rw [g.fx x hx] at e
    rcases List.mem_append.mp hx with hx | hx
    · obtain ⟨r1, e1, l1⟩ := h.cl x hx r e L m t
      obtain ⟨r2, e2, l2⟩ := g.dn _ r1 e1
      exact ⟨r2, e2, Int.le_trans l1 l2⟩
    · rw [List.mem_singleton] at hx; subst hx
      rw [h0] at e; cases e
      exact g.cl L (by rw [List.take_length]; exact m) t
  or := fun x hx1 r e y hy r' e' => by
    rw [g.fx x hx1] at e
    have h2 := g.lo y r' e' hy
    rcases List.mem_append.mp hx1 with hx2 | hx2
    · have := h.or x hx2 r e x0 hx r0 h0
      omega
    · rw [List.mem_singleton] at hx2; subst hx2
      rw [h0] at e; cases e; exact h2
end
abbrev intO : Option Int → PyData
  | none => .none
  | some i => .int i
section
variable {P : Program} {w : World} {K : PySem.W.Frag} {mg : Str → Option Value} {base : Heap}
theorem U_deepest_from (T : Tx K mg) : Use P w K mg base CX0 2 "_deepest_from" ["canal", "source"] (spRD K (fun a : Cn × Str => [cnD a.1, .str a.2]) (fun a => a.1.Good ∧ a.2 ∈ a.1.bs) fun a kvs => ∃ ky, Wide a.1.lks a.2 ky ∧ kvs = kvM a.1.bs fun x => intO (ky x)) := by
  have ULinks := U_links (P := P) (w := w) (base := base) T
  have UOtherEnd := U_other_end (P := P) (w := w) (base := base) T
  refine use_of T.f_deepest_from (fun _ _ _ _ _ _ us hl => match us, hl with | [_, _], _ => rfl) fun f fd F => ?_
  have nd := scDeepestFrom.nd
  refine fn_RD F scDeepestFrom (fun _ => rfl) fun cdv A outer s H E hr => ⟨_,
    (pss_cons (ps_setDc (i := 3) (tt := tYes) (g := gName 2) (own := [("name", 2)]) rfl nd rfl rfl (sw_dc rfl rfl rfl (by decide +kernel)) (pi_tup (pe_ix (ixT K) (pv 0) pe_int (fun _ _ => rfl))) (blkOk_by (N := NDeepestFrom) (sc := defScope stDeepestFrom) (by decide +kernel)) (fun _ _ _ _ _ => (pg_name (i := 2) nd rfl (.inl rfl))) (fun _ _ _ _ _ => pts_nil) (fun _ _ _ _ _ => (pv 2)) (fun _ _ _ _ _ => pe_non))
      (pss_cons (ps_dput (hu_of hr) (pv 3) (pv 1) (pe_globI rfl T.m_SIZE) rfl)
      (pss_cons (ps_set (i := 4) nd rfl (.inl rfl) (pe_lst pa_nil))
      (pss_one (ps_while PassesOwn.never (pt_val pe_bl) (pss_cons (ps_set (i := 5) nd rfl (.inl rfl) pe_non)
      (pss_cons (ps_for PassesOwn.never rfl (pi_tup (pe_ix (ixT K) (pv 0) pe_int (fun _ _ => rfl))) (pg_name (i := 2) nd rfl (.inl rfl)) (pss_one (ps_if (PW.pt (pw_and (pt_cmpR (notInSq K) (pv 2) (pv 4) rfl) (pw_and1 (pt_cmpR op_notN (pe_dget (hu_of hr) (pv 3) (pv 2) (fun _ _ => rfl)) pe_non (nomark _))))) (pss_one (ps_if (PW.pt (pw_or (pt_cmpR op_isN (pv 5) pe_non (nomark _)) (pw_or1 (pt_cmpR op_gt (pe_dget (hu_of hr) (pv 3) (pv 2) (fun _ _ => rfl)) (pe_dget (hu_of hr) (pv 3) (pv 5) (fun _ _ => rfl)) (nomark _))))) (pss_one (ps_set (i := 5) nd rfl (.inl rfl) (pv 2))) pss_nil)) pss_nil)))
      (pss_cons (ps_if (pt_cmpR op_isN (pv 5) pe_non (nomark _)) (pss_one (ps_ret (pv 3))) pss_nil)
      (pss_cons (ps_expr (pe_bm PySem.F.plainAttrs_list PySem.F.slot_list_append PySem.F.type_list_append mt_append (pv 4) (pa_cons (pv 5) pa_nil)))
      (pss_one (ps_for PassesOwn.never rfl (pi_list (pe_use ULinks hr (pa_cons (pv 0) pa_nil))) (pg_name (i := 6) nd rfl (.inl rfl)) (pss_one (ps_if (pt_cmpR (inSq K) (pv 5) (pe_slice (slTA K) (pv 6) (po_some pe_int) (po_some pe_int)) rfl) (pss_cons (ps_set (i := 7) nd rfl (.inl rfl) (pe_use UOtherEnd hr (pa_cons (pv 6) (pa_cons (pv 5) pa_nil))))
      (pss_cons (ps_set (i := 8) nd rfl (.inl rfl) (pe_callB (call_min2 rfl) (by rfl) T.m_min (by decide +kernel) (pa_cons (pe_dget (hu_of hr) (pv 3) (pv 5) (fun _ _ => rfl)) (pa_cons (pe_ix (ixT K) (pv 6) pe_int (fun _ _ => rfl)) pa_nil))))
      (pss_one (ps_if (PW.pt (pw_or (pt_cmpR op_isN (pe_dget (hu_of hr) (pv 3) (pv 7) (fun _ _ => rfl)) pe_non (nomark _)) (pw_or1 (pt_cmpR op_gt (pv 8) (pe_dget (hu_of hr) (pv 3) (pv 7) (fun _ _ => rfl)) (nomark _))))) (pss_one (ps_dput (hu_of hr) (pv 3) (pv 7) (pv 8) rfl)) pss_nil)))) pss_nil)))))))))))))
    , fun F0 H0 a Q hp hQ => ?_⟩
  obtain ⟨C, s⟩ := a
  obtain ⟨g, hs⟩ := hp
  dsimp only at g hs hQ
  have hnb := g.nb
  have hnl := lks_len g.toOk
  refine w_asgD (kvs := kvM C.bs fun _ => .none) (by rw [← fold_kvM g.nd]; exact ed_dcT (j := 2) PyData.str C.bs (fun x => .inr x) (fun _ => .none) (ev_op (ev_var rfl) ev_int (ov_ixT rfl)) (by omega) (fun x _ => ev_var rfl) (fun x _ => ev_non)) ?_
  dsimp only
  refine w_dput (j := .inr s) rfl ev_int (ev_var rfl) (by rw [List.length_map]; omega) ?_
  rw [put_kvM hs]
  have e0 : kvM C.bs (fun x => if x = s then (PyData.int 99) else .none) = kvM C.bs fun x => intO ((fun x => if x = s then some 99 else none : Str → Option Int) x) := by
    refine List.map_congr_left fun x _ => ?_
    show (_, _) = (_, _)
    by_cases e : x = s
    · simp only [if_pos e]
    · simp only [if_neg e]
  rw [e0]
  dsimp only
  refine w_asgL (el_lst ea_nil) ?_
  dsimp only
  show W _ F0 H0 _ [.fz (cnD C), .fz (.str s), .un, .od (kvM C.bs fun x => intO ((fun x => if x = s then some 99 else none : Str → Option Int) x)), .ol [], .un, .un, .un, .un]
  refine w_while (fun m ρ => ∃ (ky : Str → Option Int) (done : List Str) (y2 y5 y6 y7 y8 : Sl), ρ = [.fz (cnD C), .fz (.str s), y2, .od (kvM C.bs fun x => intO (ky x)), .ol (done.map .str), y5, y6, y7, y8] ∧ EI C s ky done ∧ m = C.bs.length + 1 - done.length)
    (C.bs.length + 1) ⟨_, [], _, _, _, _, _, rfl, ⟨by simp, fun x r e => ?_, List.nodup_nil, (fun x h => nomatch h), (fun x h => nomatch h), (fun x h => nomatch h)⟩, rfl⟩ ?_
  · split at e
    · rename_i q
      subst q
      cases e
      exact ⟨.nil, hs⟩
    · cases e
  rintro m ρ ⟨ky, done, y2, y5, y6, y7, y8, rfl, di, rfl⟩
  have hdl := di.len
  refine ⟨true, et_B ev_bl, fun _ => ?_, fun e => nomatch e⟩
  refine w_asg ev_non ?_
  dsimp only
  refine w_forT (fun i ρ => ∃ (o : Option Str) (y2 : Sl), ρ = [.fz (cnD C), .fz (.str s), y2, .od (kvM C.bs fun x => intO (ky x)), .ol (done.map .str), .fz (strO o), y6, y7, y8] ∧ NextW ky (C.bs.take i) done o ∧ ∀ x, o = some x → x ∈ C.bs)
    (ev_op (ev_var rfl) ev_int (ov_ixT rfl)) ⟨none, y2, rfl, by simp [NextW], fun x e => by cases e⟩ ?_ ?_
  · rintro B i d ρ hB hd ⟨o, y2, rfl, hn, ho⟩
    obtain ⟨x, hx, rfl, hm⟩ := take_map hd
    refine ⟨_, tg_name, ?_⟩
    show W _ F0 H0 _ [.fz (cnD C), .fz (.str s), .fz (.str x), .od (kvM C.bs fun x => intO (ky x)), .ol (done.map .str), .fz (strO o), y6, y7, y8]
    have dg : ∀ {c : Wd} {ρ : List Sl} {i : Nat} {z : Str}, z ∈ C.bs → ρ[3]? = some (.od (kvM C.bs fun x => intO (ky x))) → ρ[i]? = some (.fz (.str z)) → EV c (tDGet (tVar 3) (tVar i)) ρ (intO (ky z)) := fun hz h3 hi =>
      ev_dgetO (k := .inr _) h3 (ev_var hi) (gV_kvM (f := fun x => intO (ky x)) hz)
    refine w_if (b := !hasS done x && !isNone (intO (ky x))) (et_and (et_lend (i := 4) rfl rfl (et_test (ev_op (ev_var rfl) (ev_var rfl) ov_inL))) fun _ => et_test (ev_op (dg hm rfl rfl) ev_non ov_notN)) (fun e => ?_) (fun e => ?_)
    · obtain ⟨e1, e2⟩ : hasS done x = false ∧ isNone (intO (ky x)) = false := by simpa using e
      have hd : x ∉ done := hasS_not.mp e1
      cases hr' : ky x with
      | none => rw [hr'] at e2; cases e2
      | some r =>
        cases o with
        | none =>
          refine w_if (b := true) (et_or (a := true) (b := true) (et_test (ev_op (ev_var rfl) ev_non ov_isN)) fun e => nomatch e) (fun _ => ?_) (fun e => nomatch e)
          refine w_asg (ev_var rfl) (w_K ⟨some x, _, rfl, ⟨hd, r, hr', fun y hy hyd r' hr2 => ?_⟩, fun z hz => by cases hz; exact hm⟩)
          rcases take_memS hx hy with hy | rfl
          · rw [hn y hy hyd] at hr2; cases hr2
          · rw [hr'] at hr2; cases hr2; exact Int.le_refl _
        | some b =>
          obtain ⟨hbd, rb, hrb, hmin⟩ := hn
          have hb := ho b rfl
          refine w_if (b := decide (rb < r)) (et_or (a := false) (b := decide (rb < r)) (et_test (ev_op (ev_var rfl) ev_non ov_isN)) fun _ => et_test (ev_op ((dg hm rfl rfl).eq (congrArg intO hr')) ((dg hb rfl rfl).eq (congrArg intO hrb)) ov_b)) (fun e => ?_) (fun e => ?_)
          · have hlt := of_decide_eq_true e
            refine w_asg (ev_var rfl) (w_K ⟨some x, _, rfl, ⟨hd, r, hr', fun y hy hyd r' hr2 => ?_⟩, fun z hz => by cases hz; exact hm⟩)
            rcases take_memS hx hy with hy | rfl
            · have := hmin y hy hyd r' hr2
              omega
            · rw [hr'] at hr2; cases hr2; exact Int.le_refl _
          · have hlt := of_decide_eq_false e
            refine w_next (w_K ⟨some b, _, rfl, ⟨hbd, rb, hrb, fun y hy hyd r' hr2 => ?_⟩, ho⟩)
            rcases take_memS hx hy with hy | rfl
            · exact hmin y hy hyd r' hr2
            · rw [hr'] at hr2; cases hr2; omega
    · refine w_next (w_K ⟨o, _, rfl, ?_, ho⟩)
      have hskip : x ∉ done → ky x = none := fun hd => by
        have h1 : hasS done x = false := hasS_not.mpr hd
        rw [h1] at e
        cases hr' : ky x with
        | none => rfl
        | some r => rw [hr'] at e; cases e
      cases o with
      | none =>
        intro y hy hyd
        rcases take_memS hx hy with hy | rfl
        · exact hn y hy hyd
        · exact hskip hyd
      | some b =>
        obtain ⟨hbd, rb, hrb, hmin⟩ := hn
        refine ⟨hbd, rb, hrb, fun y hy hyd r' hr2 => ?_⟩
        rcases take_memS hx hy with hy | rfl
        · exact hmin y hy hyd r' hr2
        · rw [hskip hyd] at hr2; cases hr2
  rintro ρ ⟨o, y2, rfl, hn, ho⟩
  rw [List.length_map, List.take_length] at hn
  dsimp only
  cases o with
  | none =>
    refine w_if (et_test (ev_op (ev_var rfl) ev_non ov_isN)) (fun _ => ?_) (fun e => nomatch e)
    exact w_retOD rfl fun p xs F' H' gr a b c' d => hQ _ p xs F' H' ⟨ky, di.done hn, rfl⟩ gr a b c' d
  | some x0 =>
    refine w_if (et_test (ev_op (ev_var rfl) ev_non ov_isN)) (fun e => nomatch e) (fun _ => ?_)
    refine w_next ?_
    dsimp only
    obtain ⟨hx, r0, h0, hmin⟩ := hn
    have hxb := ho x0 rfl
    have hlt : done.length < C.bs.length := by
      have := nodup_len (a := done ++ [x0]) (b := C.bs) (nodup_snoc di.nd hx) fun z hz => by
        rcases List.mem_append.mp hz with hz | hz
        · obtain ⟨r, e⟩ := di.dk z hz
          exact (di.wk z r e).2
        · rw [List.mem_singleton] at hz; rw [hz]; exact hxb
      rw [List.length_append, List.length_singleton] at this
      omega
    refine w_app rfl (ev_var rfl) (by rw [List.length_map]; omega) ?_
    dsimp only
    show W _ F0 H0 _ [.fz (cnD C), .fz (.str s), y2, .od (kvM C.bs fun x => intO (ky x)), .ol (done.map .str ++ [.str x0]), .fz (.str x0), y6, y7, y8]
    rw [← map_snocS]
    refine w_forL (fun i ρ => ∃ (ky' : Str → Option Int) (y6 y7 y8 : Sl), ρ = [.fz (cnD C), .fz (.str s), y2, .od (kvM C.bs fun x => intO (ky' x)), .ol ((done ++ [x0]).map .str), .fz (.str x0), y6, y7, y8] ∧ EJ C s ky done x0 r0 i ky')
      (EL.ev (el_call (α := Cn) C (ea_cons (ev_var rfl) ea_nil) g.toOk)) ⟨ky, y6, y7, y8, rfl, EJ.start di hx h0 hmin⟩ ?_ ?_
    · rintro B i d ρ hB hd ⟨ky', y6, y7, y8, rfl, dj⟩
      obtain ⟨L, hL, rfl, hm⟩ := take_map hd
      have hfb := far_in g hm x0
      have hk0 : ky' x0 = some r0 := (dj.fx x0 (by simp)).trans h0
      refine ⟨_, tg_name, ?_⟩
      refine w_if (et_touch rfl rfl) (fun tL => ?_) (fun tL => ?_)
      · have dg : ∀ {c : Wd} {ρ : List Sl} {i : Nat} {z : Str}, z ∈ C.bs → ρ[3]? = some (.od (kvM C.bs fun x => intO (ky' x))) → ρ[i]? = some (.fz (.str z)) → EV c (tDGet (tVar 3) (tVar i)) ρ (intO (ky' z)) := fun hz h3 hi =>
          ev_dgetO (k := .inr _) h3 (ev_var hi) (gV_kvM (f := fun x => intO (ky' x)) hz)
        refine w_asg (d := .str (far L x0)) (ev_call (α := Lk × Str) (L, x0) (ea_cons (ev_var rfl) (ea_cons (ev_var rfl) ea_nil)) trivial) ?_
        dsimp only
        refine w_asg (d := .int (mn r0 L.d)) (ev_cb (ea_cons ((dg hxb rfl rfl).eq (congrArg intO hk0)) (ea_cons (ev_op (ev_var rfl) ev_int (ov_ixT rfl)) ea_nil)) cv_min2) ?_
        dsimp only
        show W _ F0 H0 _ [.fz (cnD C), .fz (.str s), y2, .od (kvM C.bs fun x => intO (ky' x)), .ol ((done ++ [x0]).map .str), .fz (.str x0), .fz (lkD L), .fz (.str (far L x0)), .fz (.int (mn r0 L.d))]
        have e1 : kvM C.bs (fun x => if x = far L x0 then PyData.int (mn r0 L.d) else intO (ky' x)) = kvM C.bs fun x => intO ((fun x => if x = far L x0 then some (mn r0 L.d) else ky' x) x) := by
          refine List.map_congr_left fun x _ => ?_
          show (_, _) = (_, _)
          by_cases e : x = far L x0
          · simp only [if_pos e]
          · simp only [if_neg e]
        cases hk : ky' (far L x0) with
        | none =>
          refine w_if (b := true) (et_or (a := true) (b := true) (et_test (ev_op ((dg hfb rfl rfl).eq (congrArg intO hk)) ev_non ov_isN)) fun e => nomatch e) (fun _ => ?_) (fun e => nomatch e)
          refine w_dput (j := .inr (far L x0)) rfl (ev_var rfl) (ev_var rfl) (by rw [List.length_map]; omega) ?_
          rw [put_kvM hfb, e1]
          exact w_K ⟨_, _, _, _, rfl, EJ.put g di hx h0 dj hL tL (fun r' e => by rw [hk] at e; cases e)⟩
        | some r1 =>
          refine w_if (b := decide (r1 < mn r0 L.d)) (et_or (a := false) (b := decide (r1 < mn r0 L.d)) (et_test (ev_op ((dg hfb rfl rfl).eq (congrArg intO hk)) ev_non ov_isN)) fun _ => et_test (ev_op (ev_var rfl) ((dg hfb rfl rfl).eq (congrArg intO hk)) ov_b)) (fun e => ?_) (fun e => ?_)
          · have hlt := of_decide_eq_true e
            refine w_dput (j := .inr (far L x0)) rfl (ev_var rfl) (ev_var rfl) (by rw [List.length_map]; omega) ?_
            rw [put_kvM hfb, e1]
            exact w_K ⟨_, _, _, _, rfl, EJ.put g di hx h0 dj hL tL (fun r' e => by rw [hk] at e; cases e; exact hlt)⟩
          · have hlt := of_decide_eq_false e
            exact w_next (w_K ⟨ky', _, _, _, rfl, EJ.skip dj hL fun _ => ⟨r1, hk, by omega⟩⟩)
      · exact w_next (w_K ⟨ky', _, _, _, rfl, EJ.skip dj hL fun e => by rw [tL] at e; cases e⟩)
    · rintro ρ ⟨ky', y6, y7, y8, rfl, dj⟩
      rw [List.length_map] at dj
      have di' := EJ.fin di hx h0 dj
      exact w_K ⟨C.bs.length + 1 - (done ++ [x0]).length, by rw [List.length_append, List.length_singleton]; omega, ky', done ++ [x0], _, _, _, _, _, rfl, di', rfl⟩
theorem U_greatest_depth (T : Tx K mg) : Use P w K mg base CX0 3 "greatest_depth" ["canal", "source", "target"] (spV K (fun a : Cn × Str × Str => [cnD a.1, .str a.2.1, .str a.2.2]) (fun a => a.1.Good ∧ a.2.1 ∈ a.1.bs ∧ a.2.2 ∈ a.1.bs) fun a => intO (wideM a.1.lks a.2.1 a.2.2)) := by
  have UCheckBasin := U_check_basin (P := P) (w := w) (base := base) T
  have UDeepestFrom := U_deepest_from (P := P) (w := w) (base := base) T
  refine use_of T.f_greatest_depth (fun _ _ _ _ _ _ us hl => match us, hl with | [_, _, _], _ => rfl) fun f fd F => ?_
  have nd := scGreatestDepth.nd
  refine fn_V F scGreatestDepth (fun _ => rfl) fun cdv A outer s H E hr => ⟨_,
    (pss_cons (ps_expr (pe_use UCheckBasin hr (pa_cons (pv 0) (pa_cons (pv 1) pa_nil))))
      (pss_cons (ps_expr (pe_use UCheckBasin hr (pa_cons (pv 0) (pa_cons (pv 2) pa_nil))))
      (pss_one (ps_ret (pe_dget (hu_of hr) (pe_use UDeepestFrom hr (pa_cons (pv 0) (pa_cons (pv 1) pa_nil))) (pv 2) (fun _ _ => rfl))))))
    , fun F0 H0 a Q hp hQ => ?_⟩
  obtain ⟨C, s, t⟩ := a
  obtain ⟨g, hs, ht⟩ := hp
  dsimp only at g hs ht hQ
  refine w_drop (ev_call (α := Cn × Str) (C, s) (ea_cons (ev_var rfl) (ea_cons (ev_var rfl) ea_nil)) hs) ?_
  dsimp only
  refine w_drop (ev_call (α := Cn × Str) (C, t) (ea_cons (ev_var rfl) (ea_cons (ev_var rfl) ea_nil)) ht) ?_
  dsimp only
  refine w_ret (EVR.ev (d := intO (wideM C.lks s t)) (evr_dget (k := .inr t) (R' := fun d => d = intO (wideM C.lks s t)) (EDR.evr (edr_call (α := Cn × Str) (C, s) (ea_cons (ev_var rfl) (ea_cons (ev_var rfl) ea_nil)) ⟨g, hs⟩)) (ev_var rfl) ?_) fun e he => he) hQ
  rintro kvs ⟨ky, hL, rfl⟩
  refine ⟨_, gV_kvM (f := fun x => intO (ky x)) ht, ?_⟩
  rw [hL.best.is t]
end
end Kx


set_option maxHeartbeats 4000000
namespace Kx
open PySem L2 DL

/-! ### short ways -/
inductive Path (ls : List Lk) (s : Str) : List Lk → List Str → Str → Prop
  | nil : Path ls s [] [s] s
  | snoc {r : List Lk} {vs : List Str} {x : Str} {L : Lk} (h : Path ls s r vs x) (m : L ∈ ls) (t : touch L x = true) (n : far L x ∉ vs) : Path ls s (r ++ [L]) (vs ++ [far L x]) (far L x)
section
variable {ls : List Lk} {s : Str}
theorem Path.walk {r : List Lk} {vs : List Str} {x : Str} (h : Path ls s r vs x) : Walk ls s r x := by
  induction h with
  | nil => exact .nil
  | snoc h m t n ih => exact .snoc ih m t
theorem Path.pre {r : List Lk} {vs : List Str} {x y : Str} (h : Path ls s r vs x) (hy : y ∈ vs) : ∃ r' vs', Path ls s r' vs' y ∧ r'.Sublist r := by
  induction h with
  | nil =>
    rw [List.mem_singleton] at hy
    subst hy
    exact ⟨_, _, .nil, List.Sublist.refl _⟩
  | @snoc r vs x L h m t n ih =>
    rcases List.mem_append.mp hy with hy | hy
    · obtain ⟨r', vs', p, q⟩ := ih hy
      exact ⟨r', vs', p, q.trans (List.sublist_append_left _ _)⟩
    · rw [List.mem_singleton] at hy
      subst hy
      exact ⟨_, _, .snoc h m t n, List.Sublist.refl _⟩
theorem Walk.path {r : List Lk} {x : Str} (h : Walk ls s r x) : ∃ r' vs, Path ls s r' vs x ∧ r'.Sublist r := by
  induction h with
  | nil => exact ⟨_, _, .nil, List.Sublist.refl _⟩
  | @snoc r x L h m t ih =>
    obtain ⟨r', vs, p, q⟩ := ih
    by_cases hz : far L x ∈ vs
    · obtain ⟨r2, vs2, p2, q2⟩ := p.pre hz
      exact ⟨r2, vs2, p2, (q2.trans q).trans (List.sublist_append_left _ _)⟩
    · exact ⟨_, _, .snoc p m t hz, q.append (List.Sublist.refl _)⟩
theorem Path.facts {bs : List Str} (hs : s ∈ bs) (hf : ∀ L ∈ ls, ∀ x, far L x ∈ bs) {r : List Lk} {vs : List Str} {x : Str} (h : Path ls s r vs x) : vs.Nodup ∧ (∀ y ∈ vs, y ∈ bs) ∧ vs.length = r.length + 1 := by
  induction h with
  | nil => exact ⟨by simp, fun y hy => by rw [List.mem_singleton] at hy; rw [hy]; exact hs, rfl⟩
  | @snoc r vs x L h m t n ih =>
    obtain ⟨h1, h2, h3⟩ := ih
    refine ⟨nodup_snoc h1 n, fun y hy => ?_, by rw [List.length_append, List.length_append, h3]; rfl⟩
    rcases List.mem_append.mp hy with hy | hy
    · exact h2 y hy
    · rw [List.mem_singleton] at hy; rw [hy]; exact hf L m x
theorem Walk.short {bs : List Str} (hs : s ∈ bs) (hf : ∀ L ∈ ls, ∀ x, far L x ∈ bs) {r : List Lk} {x : Str} (h : Walk ls s r x) : ∃ r', Walk ls s r' x ∧ r'.Sublist r ∧ r'.length + 1 ≤ bs.length := by
  obtain ⟨r', vs, p, q⟩ := h.path
  obtain ⟨h1, h2, h3⟩ := p.facts hs hf
  exact ⟨r', p.walk, q, by rw [← h3]; exact nodup_len h1 h2⟩
theorem Reach.walk {x : Str} (h : Reach ls s x) : ∃ r, Walk ls s r x := by
  induction h with
  | refl => exact ⟨_, .nil⟩
  | step h m t ih =>
    obtain ⟨r, w⟩ := ih
    exact ⟨_, .snoc w m t⟩
theorem Walk.reach {x : Str} {r : List Lk} (h : Walk ls s r x) : Reach ls s x := by
  induction h with
  | nil => exact .refl
  | snoc h m t ih => exact .step ih m t
theorem Reach.mono {ls' : List Lk} (hm : ∀ L ∈ ls, L ∈ ls') {x : Str} (h : Reach ls s x) : Reach ls' s x := by
  induction h with
  | refl => exact .refl
  | step h m t ih => exact .step ih (hm _ m) t
end
theorem filter_lt {α : Type} {p q : α → Bool} {l : List α} (h : ∀ x, p x = true → q x = true) {x : α} (hx : x ∈ l) (hq : q x = true) (hp : p x = false) : (l.filter p).length < (l.filter q).length := by
  have e : l.filter p = (l.filter q).filter p := by
    rw [List.filter_filter]
    congr 1
    funext y
    cases hy : p y with
    | true => rw [h y hy]; rfl
    | false => rfl
  rw [e]
  exact List.length_filter_lt_length_iff_exists.mpr ⟨x, List.mem_filter.mpr ⟨hx, hq⟩, by rw [hp]; exact Bool.false_ne_true⟩
theorem touch_iff {L : Lk} {x : Str} : touch L x = true ↔ x = L.a ∨ x = L.b := by
  unfold touch
  rw [hasS_iff]
  simp
theorem ends_in {L : Lk} {x : Str} {S : List Str} (t : touch L x = true) (hx : x ∈ S) (hf : far L x ∈ S) : L.a ∈ S ∧ L.b ∈ S := by
  unfold far at hf
  by_cases e : L.a = x
  · rw [if_pos e] at hf
    exact ⟨e ▸ hx, hf⟩
  · rw [if_neg e] at hf
    rcases touch_iff.mp t with q | q
    · exact absurd q.symm e
    · exact ⟨hf, q ▸ hx⟩
/-- both ends found -/
def both (found : List Str) (L : Lk) : Bool := hasS found L.a && hasS found L.b
theorem both_iff {found : List Str} {L : Lk} : both found L = true ↔ L.a ∈ found ∧ L.b ∈ found := by
  unfold both
  rw [Bool.and_eq_true, hasS_iff, hasS_iff]
section
variable {P : Program} {w : World} {K : PySem.W.Frag} {mg : Str → Option Value} {base : Heap}
theorem U_law_links (T : Tx K mg) : Use P w K mg base CX0 1 "_law_links" ["canal"] (spL K (fun C : Cn => [cnD C]) (fun C => C.Ok) fun C => C.lks.map lkD) := by
  refine use_of T.f_law_links (fun _ _ _ _ _ _ us hl => match us, hl with | [_], _ => rfl) fun f fd F => ?_
  have nd := scLawLinks.nd
  refine fn_L F scLawLinks (fun _ => rfl) fun cdv A outer s H E hr => ⟨_,
    (pss_one (ps_ret (pe_callB (sortDK K hr) (by rfl) T.m_sorted (by decide +kernel) (pa_cons (pe_op op_cat (pe_callTy (listOf K) (by rfl) T.m_list (by decide +kernel) (pa_cons (pe_ix (ixT K) (pv 0) pe_int (fun _ _ => rfl)) pa_nil)) (pe_callTy (listOf K) (by rfl) T.m_list (by decide +kernel) (pa_cons (pe_ix (ixT K) (pv 0) pe_int (fun _ _ => rfl)) pa_nil))) pa_nil))))
    , fun F0 H0 C Q hp hQ => ?_⟩
  refine w_retL (el_cb (ea_cons (EL.ev (el_cat (el_cb (ea_cons (ev_op (ev_var rfl) ev_int (ov_ixT rfl)) ea_nil) cl_listT) (el_cb (ea_cons (ev_op (ev_var rfl) ev_int (ov_ixT rfl)) ea_nil) cl_listT) ?_)) ea_nil) ?_) hQ
  · have := hp.nl
    rw [List.length_map, List.length_map]; omega
  · rw [← List.map_append]
    exact cl_sortLk (by have := hp.nl; rw [List.length_append]; omega)
theorem U_law_far (T : Tx K mg) : Use P w K mg base CX0 1 "_law_far" ["link", "basin"] (spV K (fun a : Lk × Str => [lkD a.1, .str a.2]) (fun _ => True) fun a => .str (far a.1 a.2)) := by
  refine use_of T.f_law_far (fun _ _ _ _ _ _ us hl => match us, hl with | [_, _], _ => rfl) fun f fd F => ?_
  have nd := scLawFar.nd
  refine fn_V F scLawFar (fun _ => rfl) fun cdv A outer s H E hr => ⟨_,
    (pss_one (ps_ret (pe_ifExp (pt_cmpR op_eq (pe_ix (ixT K) (pv 0) pe_int (fun _ _ => rfl)) (pv 1) (nomark _)) (pe_ix (ixT K) (pv 0) pe_int (fun _ _ => rfl)) (pe_ix (ixT K) (pv 0) pe_int (fun _ _ => rfl)))))
    , fun F0 H0 a Q hp hQ => ?_⟩
  obtain ⟨L, b⟩ := a
  refine w_ret (d := .str (far L b)) (ev_if (et_test (ev_op (ev_op (ev_var rfl) ev_int (ov_ixT rfl)) (ev_var rfl) ov_eqs)) (fun e => ?_) (fun e => ?_)) hQ
  · unfold far
    rw [if_pos (of_decide_eq_true e)]
    exact ev_op (ev_var rfl) ev_int (ov_ixT rfl)
  · unfold far
    rw [if_neg (of_decide_eq_false e)]
    exact ev_op (ev_var rfl) ev_int (ov_ixT rfl)
theorem U_law_near (T : Tx K mg) : Use P w K mg base CX0 2 "_law_near" ["links_v", "source"] (spL K (fun a : List Lk × Str × Cn => [.list (a.1.map lkD), .str a.2.1]) (fun a => a.2.2.Good ∧ a.2.1 ∈ a.2.2.bs ∧ (∀ L, L ∈ a.1 ↔ L ∈ a.2.2.lks) ∧ a.1.length ≤ 100) fun a => (a.2.2.reach a.2.1).map .str) := by
  have ULawFar := U_law_far (P := P) (w := w) (base := base) T
  refine use_of T.f_law_near (fun _ _ _ _ _ _ us hl => match us, hl with | [_, _], _ => rfl) fun f fd F => ?_
  have nd := scLawNear.nd
  refine fn_L F scLawNear (fun _ => rfl) fun cdv A outer st H E hr => ⟨_,
    (pss_cons (ps_set (i := 2) nd rfl (.inl rfl) (pe_lst (pa_cons (pv 1) pa_nil)))
      (pss_cons (ps_for PassesOwn.never rfl (pi_range1 (by rfl) T.m_range (pa_cons (pe_op op_add (pe_callB (lenSq K) (by rfl) T.m_len (by decide +kernel) (pa_cons (pv 0) pa_nil)) pe_int) pa_nil)) (pg_name (i := 3) nd rfl (.inl rfl)) (pss_one (ps_if (pt_cmpR op_lt (pv 3) (pe_callB (lenSq K) (by rfl) T.m_len (by decide +kernel) (pa_cons (pv 2) pa_nil)) (nomark _)) (pss_one (ps_for PassesOwn.never rfl (pi_list (pv 0)) (pg_name (i := 4) nd rfl (.inl rfl)) (pss_one (ps_if (pt_cmpR (inSq K) (pe_ix (ixL K) (pv 2) (pv 3) (fun _ _ => rfl)) (pe_slice (slTA K) (pv 4) (po_some pe_int) (po_some pe_int)) rfl) (pss_cons (ps_set (i := 5) nd rfl (.inl rfl) (pe_use ULawFar hr (pa_cons (pv 4) (pa_cons (pe_ix (ixL K) (pv 2) (pv 3) (fun _ _ => rfl)) pa_nil))))
      (pss_one (ps_if (pt_cmpR (notInSq K) (pv 5) (pv 2) rfl) (pss_one (ps_expr (pe_bm PySem.F.plainAttrs_list PySem.F.slot_list_append PySem.F.type_list_append mt_append (pv 2) (pa_cons (pv 5) pa_nil)))) pss_nil))) pss_nil)))) pss_nil)))
      (pss_one (ps_ret (pe_callB (sortDK K hr) (by rfl) T.m_sorted (by decide +kernel) (pa_cons (pv 2) pa_nil))))))
    , fun F0 H0 a Q hp hQ => ?_⟩
  obtain ⟨ls, s, C⟩ := a
  obtain ⟨g, hs, hls, hll⟩ := hp
  dsimp only at g hs hls hll hQ
  have hnb := g.nb
  refine w_asgL (el_lst (ea_cons (ev_var rfl) ea_nil)) ?_
  dsimp only
  show W _ F0 H0 _ [.fz (.list (ls.map lkD)), .fz (.str s), .ol ([s].map .str), .un, .un, .un]
  have flen : ∀ {found : List Str} {at_ : Nat}, RI C s found at_ → found.length ≤ C.bs.length := fun h => nodup_len h.nd fun x hx => (h.inb x hx).1
  refine w_forR (n := ((ls.map lkD).length : Int) + 1) (fun t ρ => ∃ (found : List Str) (y3 y4 y5 : Sl), ρ = [.fz (.list (ls.map lkD)), .fz (.str s), .ol (found.map .str), y3, y4, y5] ∧ RI C s found (min t found.length) ∧ found.length ≤ 1 + (ls.filter (both found)).length)
    (ea_cons (ev_op (ev_cb (ea_cons (ev_var rfl) ea_nil) cv_lenL) ev_int (ov_i (g := fun i j => i + j))) ea_nil) (by rw [List.length_map]; omega) ⟨[s], .un, .un, .un, rfl, ⟨by simp, by simp, fun x hx => by
      have : x = s := by simpa using hx
      subst this
      exact ⟨hs, .refl⟩, Nat.zero_le _, fun i hi => absurd hi (by omega)⟩, by simp⟩ ?_ ?_
  · rintro t ρ ht ⟨found, y3, y4, y5, rfl, ri, hc⟩
    have fl := flen ri
    refine ⟨_, tg_name, ?_⟩
    refine w_if (b := decide ((t : Int) < ((found.map PyData.str).length : Nat))) (et_lend (i := 2) rfl rfl (et_test (ev_op (ev_var rfl) (ev_cb (ea_cons (ev_var rfl) ea_nil) cv_lenL) ov_b))) (fun e => ?_) (fun e => ?_)
    · have hat : t < found.length := by
        have := of_decide_eq_true e
        rw [List.length_map] at this
        omega
      have hx : found[t]? = some found[t] := List.getElem?_eq_getElem hat
      obtain ⟨hxb, hxr⟩ := ri.inb _ (List.getElem_mem hat)
      generalize found[t] = x at hx hxb hxr
      have mt : min t found.length = t := Nat.min_eq_left (Nat.le_of_lt hat)
      rw [mt] at ri
      refine w_forL (fun i ρ => ∃ (more : List Str) (y4 y5 : Sl), ρ = [.fz (.list (ls.map lkD)), .fz (.str s), .ol ((found ++ more).map .str), .fz (.int t), y4, y5] ∧ (found ++ more).Nodup ∧ (∀ z ∈ found ++ more, z ∈ C.bs ∧ Reach C.lks s z) ∧ (∀ L ∈ ls.take i, touch L x = true → far L x ∈ found ++ more) ∧ (found ++ more).length ≤ 1 + (ls.filter (both (found ++ more))).length)
        (ev_var rfl) ⟨[], y4, y5, by rw [List.append_nil]; rfl, by rw [List.append_nil]; exact ri.nd, by rw [List.append_nil]; exact ri.inb, by simp, by rw [List.append_nil]; exact hc⟩ ?_ ?_
      · rintro B i d ρ hB hd ⟨more, y4, y5, rfl, nd', inb, had, hc'⟩
        obtain ⟨L, hL, rfl, hm⟩ := take_map hd
        have hml := (hls L).mp hm
        refine ⟨_, tg_name, ?_⟩
        have hxm : (found ++ more)[t]? = some x := by rw [List.getElem?_append_left hat]; exact hx
        have hxin : x ∈ found ++ more := List.mem_of_getElem? hxm
        have hxa : atI ((found ++ more).map PyData.str) (t : Int) = some (.str x) := at_nat (by rw [List.getElem?_map, hxm]; rfl)
        refine w_if (b := touch L x) (et_lend (i := 2) rfl rfl (et_test (ev_op (ev_op (ev_var rfl) (ev_var rfl) (ov_ixL hxa)) (ev_ends rfl) ov_inT))) (fun e => ?_) (fun e => ?_)
        · refine w_asg (d := .str (far L x)) (ev_call (α := Lk × Str) (L, x) (ea_cons (ev_var rfl) (ea_cons (ev_lend (i := 2) rfl rfl (ev_op (ev_var rfl) (ev_var rfl) (ov_ixL hxa))) ea_nil)) trivial) ?_
          dsimp only
          show W _ F0 H0 _ [.fz (.list (ls.map lkD)), .fz (.str s), .ol ((found ++ more).map .str), .fz (.int t), .fz (lkD L), .fz (.str (far L x))]
          have hfb := far_in g hml x
          refine w_if (b := !hasS (found ++ more) (far L x)) (et_lend (i := 2) rfl rfl (et_test (ev_op (ev_var rfl) (ev_var rfl) ov_inL))) (fun e2 => ?_) (fun e2 => ?_)
          · have hn : far L x ∉ found ++ more := hasS_not.mp (by simpa using e2)
            have nd2 : (found ++ (more ++ [far L x])).Nodup := by
              rw [← List.append_assoc]
              exact nodup_snoc nd' hn
            have hlen := nodup_len nd' (b := C.bs) fun u hu => (inb u hu).1
            refine w_app rfl (ev_var rfl) (by rw [List.length_map]; omega) (w_K ⟨more ++ [far L x], .fz (lkD L), .fz (.str (far L x)), ?_, nd2, fun u hu => ?_, fun M mM tM => ?_, ?_⟩)
            · rw [← List.append_assoc, map_snocS]
              rfl
            · rw [← List.append_assoc, List.mem_append, List.mem_singleton] at hu
              rcases hu with hu | rfl
              · exact inb u hu
              · exact ⟨hfb, .step hxr hml e⟩
            · rw [← List.append_assoc]
              rcases mem_take_one hL mM with mM | rfl
              · exact List.mem_append_left _ (had M mM tM)
              · exact List.mem_append_right _ (List.mem_singleton.mpr rfl)
            · rw [← List.append_assoc, List.length_append]
              have hlt := filter_lt (p := both (found ++ more)) (q := both (found ++ more ++ [far L x])) (l := ls) (fun M hM => by
                obtain ⟨h1, h2⟩ := both_iff.mp hM
                exact both_iff.mpr ⟨List.mem_append_left _ h1, List.mem_append_left _ h2⟩) (x := L) hm (by
                refine both_iff.mpr ?_
                exact ends_in e (List.mem_append_left _ hxin) (List.mem_append_right _ (List.mem_singleton.mpr rfl))) (by
                cases hb : both (found ++ more) L with
                | false => rfl
                | true =>
                  obtain ⟨h1, h2⟩ := both_iff.mp hb
                  exfalso
                  refine hn ?_
                  unfold far
                  split
                  · exact h2
                  · exact h1)
              simp only [List.length_cons, List.length_nil]
              omega
          · have hn : far L x ∈ found ++ more := hasS_iff.mp (by simpa using e2)
            refine w_next (w_K ⟨more, _, _, rfl, nd', inb, fun M mM tM => ?_, hc'⟩)
            rcases mem_take_one hL mM with mM | rfl
            · exact had M mM tM
            · exact hn
        · refine w_next (w_K ⟨more, _, _, rfl, nd', inb, fun M mM tM => ?_, hc'⟩)
          rcases mem_take_one hL mM with mM | rfl
          · exact had M mM tM
          · rw [tM] at e; cases e
      · rintro ρ ⟨more, y4, y5, rfl, nd', inb, had, hc'⟩
        rw [List.length_map, List.take_length] at had
        have h1 : min (t + 1) (found ++ more).length = t + 1 := Nat.min_eq_left (by rw [List.length_append]; omega)
        refine w_K ⟨found ++ more, _, _, _, rfl, ?_, hc'⟩
        rw [h1]
        refine ⟨nd', List.mem_append_left _ ri.src, inb, by rw [List.length_append]; omega, fun i hi u hu L mL tL => ?_⟩
        by_cases hia : i = t
        · subst hia
          rw [List.getElem?_append_left hat, hx] at hu
          cases hu
          exact had L ((hls L).mpr mL) tL
        · have hi2 : i < t := by omega
          rw [List.getElem?_append_left (by omega)] at hu
          exact List.mem_append_left _ (ri.cl i hi2 u hu L mL tL)
    · have hat : found.length ≤ t := by
        have := of_decide_eq_false e
        rw [List.length_map] at this
        omega
      refine w_next (w_K ⟨found, _, _, _, rfl, ?_, hc⟩)
      rw [Nat.min_eq_right hat] at ri
      rw [Nat.min_eq_right (by omega)]
      exact ri
  · rintro ρ ⟨found, y3, y4, y5, rfl, ri, hc⟩
    have fl := flen ri
    have h1 := List.length_filter_le (both found) ls
    have e : ((((ls.map lkD).length : Int) + 1).toNat) = ls.length + 1 := by rw [List.length_map]; omega
    rw [e, Nat.min_eq_right (by omega)] at ri
    dsimp only
    refine w_freeze 2 rfl rfl ?_
    refine w_retL (el_cb (ea_cons (ev_var rfl) ea_nil) (cl_sortSS (by omega))) fun p xs F' H' gr a b c' d => hQ p xs F' H' gr a b c' ?_
    show RpAll K F' xs ((sortS (reachL C.bs C.lks s)).map .str)
    rw [← ri.done g]
    exact d
end
end Kx


set_option maxHeartbeats 4000000
namespace Kx
open PySem L2 DL

/-! ### rounds over all links, in place -/
structure BF (le : List Lk → List Lk → Prop) (ls : List Lk) (s : Str) (K0 K : Str → Option (List Lk)) (dn : Lk → Str → Prop) (ch : Bool) : Prop where
  wk : ∀ x r, K x = some r → Walk ls s r x
  mo : ∀ x r, K0 x = some r → ∃ r', K x = some r' ∧ le r' r
  cl : ∀ L x, dn L x → ∀ r, K0 x = some r → ∃ r', K (far L x) = some r' ∧ le r' (r ++ [L])
  un : ch = false → K = K0
structure Ord (le : List Lk → List Lk → Prop) (ls : List Lk) : Prop where
  refl : ∀ r, le r r
  trans : ∀ {a b c}, le a b → le b c → le a c
  snoc : ∀ {a b} L, le a b → le (a ++ [L]) (b ++ [L])
  sub : ∀ {a b : List Lk}, a.Sublist b → (∀ L ∈ b, L ∈ ls) → le a b
def Bt (le : List Lk → List Lk → Prop) (ls : List Lk) (s : Str) (K : Str → Option (List Lk)) (t : Nat) : Prop := ∀ x r, Walk ls s r x → r.length ≤ t → ∃ r', K x = some r' ∧ le r' r
section
variable {le : List Lk → List Lk → Prop} {ls : List Lk} {s : Str} {K0 K : Str → Option (List Lk)} {dn dn' : Lk → Str → Prop} {ch : Bool}
theorem BF.start (o : Ord le ls) (hw : ∀ x r, K0 x = some r → Walk ls s r x) : BF le ls s K0 K0 (fun _ _ => False) false := ⟨hw, fun x r e => ⟨r, e, o.refl r⟩, fun _ _ h => h.elim, fun _ => rfl⟩
theorem BF.weaken (g : BF le ls s K0 K dn ch) (h : ∀ L x, dn' L x → dn L x) : BF le ls s K0 K dn' ch := ⟨g.wk, g.mo, fun L x d => g.cl L x (h L x d), g.un⟩
theorem BF.skip (o : Ord le ls) (g : BF le ls s K0 K dn ch) (L : Lk) (x : Str) (h : ∀ r1, K x = some r1 → ∃ r', K (far L x) = some r' ∧ le r' (r1 ++ [L])) : BF le ls s K0 K (fun M y => dn M y ∨ (M = L ∧ y = x)) ch where
  wk := g.wk
  mo := g.mo
  cl := fun M y d r e => by
    rcases d with d | ⟨rfl, rfl⟩
    · exact g.cl M y d r e
    · obtain ⟨r1, e1, l1⟩ := g.mo y r e
      obtain ⟨r', e', l'⟩ := h r1 e1
      exact ⟨r', e', o.trans l' (o.snoc M l1)⟩
  un := g.un
theorem BF.put (o : Ord le ls) (g : BF le ls s K0 K dn ch) {L : Lk} {x : Str} {r1 : List Lk} (m : L ∈ ls) (t : touch L x = true) (h : K x = some r1) (hn : ∀ r', K (far L x) = some r' → le (r1 ++ [L]) r') :
    BF le ls s K0 (fun y => if y = far L x then some (r1 ++ [L]) else K y) (fun M y => dn M y ∨ (M = L ∧ y = x)) true where
  wk := fun y r e => by
    by_cases q : y = far L x
    · subst q
      rw [if_pos rfl] at e; cases e
      exact .snoc (g.wk x r1 h) m t
    · rw [if_neg q] at e; exact g.wk y r e
  mo := fun y r e => by
    obtain ⟨r', e', l'⟩ := g.mo y r e
    by_cases q : y = far L x
    · subst q
      rw [if_pos rfl]
      exact ⟨_, rfl, o.trans (hn r' e') l'⟩
    · rw [if_neg q]; exact ⟨r', e', l'⟩
  cl := fun M y d r e => by
    rcases d with d | ⟨rfl, rfl⟩
    · obtain ⟨r', e', l'⟩ := g.cl M y d r e
      by_cases q : far M y = far L x
      · rw [if_pos q]
        exact ⟨_, rfl, o.trans (hn r' (by rw [← q]; exact e')) l'⟩
      · rw [if_neg q]; exact ⟨r', e', l'⟩
    · rw [if_pos rfl]
      obtain ⟨r2, e2, l2⟩ := g.mo y r e
      rw [h] at e2; cases e2
      exact ⟨_, rfl, o.snoc M l2⟩
  un := fun e => nomatch e
theorem BF.next (o : Ord le ls) (g : BF le ls s K0 K dn ch) (ha : ∀ L ∈ ls, ∀ x, touch L x = true → dn L x) {t : Nat} (hb : Bt le ls s K0 t) : Bt le ls s K (t + 1) := fun x r w hl => by
  cases w with
  | nil =>
    obtain ⟨r', e', l'⟩ := hb s [] .nil (Nat.zero_le _)
    obtain ⟨r2, e2, l2⟩ := g.mo _ _ e'
    exact ⟨r2, e2, o.trans l2 l'⟩
  | @snoc r x L w m tt =>
    rw [List.length_append, List.length_singleton] at hl
    obtain ⟨r', e', l'⟩ := hb x r w (by omega)
    obtain ⟨r2, e2, l2⟩ := g.cl L x (ha L m x tt) r' e'
    exact ⟨r2, e2, o.trans l2 (o.snoc L l')⟩
theorem BF.stop (o : Ord le ls) (g : BF le ls s K0 K dn ch) (ha : ∀ L ∈ ls, ∀ x, touch L x = true → dn L x) {t : Nat} (hb : Bt le ls s K0 t) (hc : ch = false) : Best le ls s K := by
  refine ⟨g.wk, fun x r w => ?_⟩
  have e := g.un hc
  induction w with
  | nil =>
    obtain ⟨r', e', l'⟩ := hb s [] .nil (Nat.zero_le _)
    exact ⟨r', by rw [e]; exact e', l'⟩
  | @snoc r x L w m tt ih =>
    obtain ⟨r', e', l'⟩ := ih
    obtain ⟨r2, e2, l2⟩ := g.cl L x (ha L m x tt) r' (by rw [← e]; exact e')
    exact ⟨r2, e2, o.trans l2 (o.snoc L l')⟩
theorem Walk.mem {r : List Lk} {x : Str} (h : Walk ls s r x) : ∀ L ∈ r, L ∈ ls := by
  induction h with
  | nil => exact fun _ h => nomatch h
  | snoc h m t ih =>
    intro M hM
    rcases List.mem_append.mp hM with hM | hM
    · exact ih M hM
    · rw [List.mem_singleton] at hM; rw [hM]; exact m
theorem Bt.best (o : Ord le ls) {bs : List Str} (hs : s ∈ bs) (hf : ∀ L ∈ ls, ∀ x, far L x ∈ bs) (hw : ∀ x r, K x = some r → Walk ls s r x) {t : Nat} (hb : Bt le ls s K t) (ht : bs.length ≤ t) : Best le ls s K := by
  refine ⟨hw, fun x r w => ?_⟩
  obtain ⟨r', w', sb, hl⟩ := w.short hs hf
  obtain ⟨r2, e2, l2⟩ := hb x r' w' (by omega)
  exact ⟨r2, e2, o.trans l2 (o.sub sb w.mem)⟩
end
theorem mins_sub {a b : List Lk} (h : a.Sublist b) (hp : ∀ L ∈ b, 0 < L.m) : mins a ≤ mins b ∧ a.length ≤ b.length := by
  induction h with
  | slnil => exact ⟨Int.le_refl _, Nat.le_refl _⟩
  | @cons l1 l2 L h ih =>
    obtain ⟨h1, h2⟩ := ih fun M hM => hp M (List.mem_cons_of_mem _ hM)
    have := hp L List.mem_cons_self
    have e : mins (L :: l2) = L.m + mins l2 := by unfold mins; simp
    rw [e, List.length_cons]
    omega
  | @cons_cons l1 l2 L h ih =>
    obtain ⟨h1, h2⟩ := ih fun M hM => hp M (List.mem_cons_of_mem _ hM)
    have e : mins (L :: l2) = L.m + mins l2 := by unfold mins; simp
    have e' : mins (L :: l1) = L.m + mins l1 := by unfold mins; simp
    rw [e, e', List.length_cons, List.length_cons]
    omega
theorem kle_ord {ls : List Lk} (hp : ∀ L ∈ ls, 0 < L.m) : Ord kle ls where
  refl := kle_refl
  trans := kle_trans
  snoc := fun L h => kle_snoc h L
  sub := fun h hm => by
    have := mins_sub h fun L hL => hp L (hm L hL)
    unfold kle
    omega
/-- how deep a way is -/
def wid (r : List Lk) : Int := r.foldl (fun d L => mn d L.d) 99
theorem wid_snoc (r : List Lk) (L : Lk) : wid (r ++ [L]) = mn (wid r) L.d := by
  unfold wid
  rw [List.foldl_append]
  rfl
theorem le_wid {c : Int} : ∀ {r : List Lk} {d : Int}, c ≤ r.foldl (fun d L => mn d L.d) d ↔ c ≤ d ∧ ∀ L ∈ r, c ≤ L.d
  | [], d => by simp
  | L :: r, d => by
    rw [List.foldl_cons, le_wid]
    constructor
    · rintro ⟨h1, h2⟩
      refine ⟨Int.le_trans h1 (mn_l _ _), fun M hM => ?_⟩
      rcases List.mem_cons.mp hM with rfl | hM
      · exact Int.le_trans h1 (mn_r _ _)
      · exact h2 M hM
    · rintro ⟨h1, h2⟩
      exact ⟨le_mn h1 (h2 L List.mem_cons_self), fun M hM => h2 M (List.mem_cons_of_mem _ hM)⟩
def wle (a b : List Lk) : Prop := wid b ≤ wid a
theorem wle_ord {ls : List Lk} : Ord wle ls where
  refl := fun r => Int.le_refl _
  trans := fun h h2 => Int.le_trans h2 h
  snoc := fun {a b} L h => by
    unfold wle
    rw [wid_snoc, wid_snoc]
    exact mn_mono h _
  sub := fun {a b} h hm => by
    have h1 : wid b ≤ wid b := Int.le_refl _
    obtain ⟨h2, h3⟩ := le_wid.mp h1
    exact le_wid.mpr ⟨h2, fun L hL => h3 L (h.subset hL)⟩
theorem wp_walk {ls : List Lk} {s x : Str} {d : Int} : WP ls s d x ↔ ∃ r, Walk ls s r x ∧ wid r = d := by
  constructor
  · intro h
    induction h with
    | nil => exact ⟨[], .nil, rfl⟩
    | @snoc d x L h m t ih =>
      obtain ⟨r, w, e⟩ := ih
      exact ⟨r ++ [L], .snoc w m t, by rw [wid_snoc, e]⟩
  · rintro ⟨r, w, rfl⟩
    induction w with
    | nil => exact .nil
    | snoc w m t ih => rw [wid_snoc]; exact .snoc ih m t
theorem Best.wide {ls : List Lk} {s : Str} {K : Str → Option (List Lk)} (h : Best wle ls s K) (x : Str) : (K x).map wid = wideM ls s x := by
  refine WBest.is (K := fun x => (K x).map wid) ⟨fun x d e => ?_, fun x d w => ?_⟩ x
  · cases hk : K x with
    | none => rw [hk] at e; cases e
    | some r =>
      rw [hk] at e
      cases e
      exact wp_walk.mpr ⟨r, h.wk x r hk, rfl⟩
  · obtain ⟨r, wk, rfl⟩ := wp_walk.mp w
    obtain ⟨r', e', l'⟩ := h.bt x r wk
    exact ⟨wid r', by rw [e']; rfl, l'⟩
theorem gV_put {kvs : List (Key × PyData)} {k k' : Key} {d : PyData} : gV (putD kvs k d) k' = if k' = k then some d else gV kvs k' := by
  unfold putD
  by_cases h : (kvs.any fun kv => decide (kv.1 = k)) = true
  · rw [if_pos h]
    induction kvs with
    | nil => cases h
    | cons p kvs ih =>
      rw [List.map_cons, gV_cons, gV_cons]
      by_cases q : p.1 = k
      · rw [if_pos q]
        by_cases e : p.1 = k'
        · rw [if_pos (show (p.1, d).1 = k' from e), if_pos (e.symm.trans q)]
        · rw [if_neg (show ¬ (p.1, d).1 = k' from e), if_neg e]
          by_cases z : (kvs.any fun kv => decide (kv.1 = k)) = true
          · exact ih z
          · have hne : ¬ k' = k := fun y => e (q.trans y.symm)
            rw [if_neg hne]
            have hm : kvs.map (fun kv => if kv.1 = k then (kv.1, d) else kv) = kvs := by
              conv => rhs; rw [← List.map_id kvs]
              refine List.map_congr_left fun kv hkv => ?_
              rw [if_neg (fun y => z (List.any_eq_true.mpr ⟨kv, hkv, decide_eq_true y⟩))]
              rfl
            rw [hm]
      · rw [if_neg q]
        have h' : (kvs.any fun kv => decide (kv.1 = k)) = true := by
          rw [List.any_cons, decide_eq_false q, Bool.false_or] at h
          exact h
        by_cases e : p.1 = k'
        · rw [if_pos e, if_neg (fun y => q (e.trans y)), if_pos e]
        · rw [if_neg e, if_neg e]; exact ih h'
  · rw [if_neg h]
    have app : ∀ kvs : List (Key × PyData), ¬ (kvs.any fun kv => decide (kv.1 = k)) = true → gV (kvs ++ [(k, d)]) k' = if k' = k then some d else gV kvs k' := by
      intro kvs
      induction kvs with
      | nil =>
        intro _
        rw [List.nil_append, gV_cons]
        by_cases e : k' = k
        · rw [if_pos e, if_pos e.symm]
        · rw [if_neg e, if_neg (fun y => e y.symm)]
      | cons p kvs ih =>
        intro h
        rw [List.any_cons, Bool.or_eq_true] at h
        rw [List.cons_append, gV_cons, gV_cons]
        by_cases e : p.1 = k'
        · rw [if_pos e, if_pos e, if_neg (fun y => h (.inl (decide_eq_true (e.trans y))))]
        · rw [if_neg e, if_neg e]; exact ih fun y => h (.inr y)
    exact app kvs h
/-- a dict that tells of some of the basins -/
def Rep (val : List Lk → PyData) (kvs : List (Key × PyData)) (K : Str → Option (List Lk)) : Prop := ∀ x : Str, gV kvs (.inr x) = (K x).map val
theorem Rep.put {val : List Lk → PyData} {kvs : List (Key × PyData)} {K : Str → Option (List Lk)} (h : Rep val kvs K) (y : Str) (r : List Lk) : Rep val (putD kvs (.inr y) (val r)) fun x => if x = y then some r else K x := fun x => by
  rw [gV_put]
  by_cases e : x = y
  · subst e; rw [if_pos rfl]; show _ = Option.map val (if x = x then some r else K x); rw [if_pos rfl]; rfl
  · rw [if_neg (fun z => e (by cases z; rfl))]; show _ = Option.map val (if x = y then some r else K x); rw [if_neg e]; exact h x
def k0 (s : Str) : Str → Option (List Lk) := fun x => if x = s then some [] else none
theorem k0_self (s : Str) : k0 s s = some [] := if_pos rfl
theorem k0_ne {s x : Str} (h : x ≠ s) : k0 s x = none := if_neg h
theorem k0_rep (val : List Lk → PyData) (s : Str) : Rep val [(.inr s, val [])] (k0 s) := fun x => by
  rw [gV_cons]
  by_cases e : x = s
  · subst e; rw [if_pos rfl, k0_self]; rfl
  · rw [if_neg (fun z => e (by cases z; rfl)), k0_ne e]; rfl
theorem k0_walk {ls : List Lk} {s x : Str} {r : List Lk} (h : k0 s x = some r) : Walk ls s r x := by
  by_cases e : x = s
  · subst e; rw [k0_self] at h; cases h; exact .nil
  · rw [k0_ne e] at h; cases h
theorem k0_bt {le : List Lk → List Lk → Prop} {ls : List Lk} (o : Ord le ls) (s : Str) : Bt le ls s (k0 s) 0 := fun x r w hl => by
  cases w with
  | nil => exact ⟨_, k0_self s, o.refl _⟩
  | snoc w m t => rw [List.length_append, List.length_singleton] at hl; omega
abbrev pE (r : List Lk) : PyData := .tuple [.int (mins r), .int (r.length : Int)]
def Dn (ls : List Lk) (i : Nat) (L : Lk) (x : Str) : Prop := L ∈ ls.take i ∧ touch L x = true
theorem two_ends {L : Lk} {j : Nat} {d : PyData} (h : [PyData.tuple [.str L.a, .str L.b], .tuple [.str L.b, .str L.a]][j]? = some d) : ∃ x, d = .tuple [.str x, .str (far L x)] ∧ touch L x = true ∧ ((j = 0 ∧ x = L.a) ∨ (j = 1 ∧ x = L.b)) := by
  match j, h with
  | 0, h =>
    cases h
    refine ⟨L.a, ?_, touch_iff.mpr (.inl rfl), .inl ⟨rfl, rfl⟩⟩
    unfold far
    rw [if_pos rfl]
  | 1, h =>
    cases h
    refine ⟨L.b, ?_, touch_iff.mpr (.inr rfl), .inr ⟨rfl, rfl⟩⟩
    unfold far
    split
    · rename_i q; rw [q]
    · rfl
  | j + 2, h => simp at h
def Dj (ls : List Lk) (i : Nat) (M : Lk) (j : Nat) (L : Lk) (x : Str) : Prop := Dn ls i L x ∨ (L = M ∧ ((1 ≤ j ∧ x = M.a) ∨ (2 ≤ j ∧ x = M.b)))
theorem dj_step {ls : List Lk} {i : Nat} {M : Lk} {j : Nat} {y : Str} (h : (j = 0 ∧ y = M.a) ∨ (j = 1 ∧ y = M.b)) {L : Lk} {x : Str} (d : Dj ls i M (j + 1) L x) : Dj ls i M j L x ∨ (L = M ∧ x = y) := by
  rcases d with d | ⟨rfl, ⟨d, rfl⟩ | ⟨d, rfl⟩⟩
  · exact .inl (.inl d)
  · rcases h with ⟨rfl, rfl⟩ | ⟨rfl, rfl⟩
    · exact .inr ⟨rfl, rfl⟩
    · exact .inl (.inr ⟨rfl, .inl ⟨Nat.le_refl _, rfl⟩⟩)
  · rcases h with ⟨rfl, rfl⟩ | ⟨rfl, rfl⟩
    · omega
    · exact .inr ⟨rfl, rfl⟩
theorem dj_end {ls : List Lk} {i : Nat} {M : Lk} (hM : ls[i]? = some M) {L : Lk} {x : Str} (d : Dn ls (i + 1) L x) : Dj ls i M 2 L x := by
  obtain ⟨h1, h2⟩ := d
  rcases mem_take_one hM h1 with h1 | rfl
  · exact .inl ⟨h1, h2⟩
  · refine .inr ⟨rfl, ?_⟩
    rcases touch_iff.mp h2 with q | q
    · exact .inl ⟨by omega, q⟩
    · exact .inr ⟨by omega, q⟩
section
variable {P : Program} {w : World} {K : PySem.W.Frag} {mg : Str → Option Value} {base : Heap}
theorem U_law_least (T : Tx K mg) : Use P w K mg base CX0 1 "_law_least" ["due", "source"] (spRD K (fun a : Cn × Str => [.list (a.1.lks.map lkD), .str a.2]) (fun a => a.1.Good ∧ a.1.Pos ∧ a.2 ∈ a.1.bs) fun a kvs => ∃ ky, Best kle a.1.lks a.2 ky ∧ Rep pE kvs ky) := by
  refine use_of T.f_law_least (fun _ _ _ _ _ _ us hl => match us, hl with | [_, _], _ => rfl) fun f fd F => ?_
  have nd := scLawLeast.nd
  refine fn_RD F scLawLeast (fun _ => rfl) fun cdv A outer st H E hr => ⟨_,
    (pss_cons (ps_set (i := 2) nd rfl (.inl rfl) (pe_disp (pps_cons (pv 1) (pe_tup (pa_cons pe_int (pa_cons pe_int pa_nil))) pps_nil) (by rfl) (by rfl) (fun z => by cases z) (by decide)))
      (pss_cons (ps_for PassesOwn.never rfl (pi_range1 (by rfl) T.m_range (pa_cons pe_int pa_nil)) (pg_name (i := 3) nd rfl (.inl rfl)) (pss_cons (ps_set (i := 4) nd rfl (.inl rfl) pe_bl)
      (pss_cons (ps_for PassesOwn.never rfl (pi_list (pv 0)) (pg_name (i := 5) nd rfl (.inl rfl)) (pss_one (ps_for PassesOwn.never rfl (pi_list (pe_lst (pa_cons (pe_tup (pa_cons (pe_ix (ixT K) (pv 5) pe_int (fun _ _ => rfl)) (pa_cons (pe_ix (ixT K) (pv 5) pe_int (fun _ _ => rfl)) pa_nil))) (pa_cons (pe_tup (pa_cons (pe_ix (ixT K) (pv 5) pe_int (fun _ _ => rfl)) (pa_cons (pe_ix (ixT K) (pv 5) pe_int (fun _ _ => rfl)) pa_nil))) pa_nil)))) (pg_tup rfl (pgs_cons (pg_name (i := 6) nd rfl (.inl rfl)) (pgs_cons (pg_name (i := 7) nd rfl (.inl rfl)) pgs_nil))) (pss_one (ps_if (pt_cmp (pc_din (hu_of hr) (pv 6) (pv 2))) (pss_cons (ps_set (i := 8) nd rfl (.inl rfl) (pe_tup (pa_cons (pe_op op_add (pe_ix (ixT K) (pe_dget (hu_of hr) (pv 2) (pv 6) (fun _ _ => rfl)) pe_int (fun _ _ => rfl)) (pe_ix (ixT K) (pv 5) pe_int (fun _ _ => rfl))) (pa_cons (pe_op op_add (pe_ix (ixT K) (pe_dget (hu_of hr) (pv 2) (pv 6) (fun _ _ => rfl)) pe_int (fun _ _ => rfl)) pe_int) pa_nil))))
      (pss_one (ps_if (PW.pt (pw_or (pt_cmp (pc_dnotin (hu_of hr) (pv 7) (pv 2))) (pw_or1 (pt_cmpR (ltDK K hr) (pv 8) (pe_dget (hu_of hr) (pv 2) (pv 7) (fun _ _ => rfl)) (nomark _))))) (pss_cons (ps_dput (hu_of hr) (pv 2) (pv 7) (pv 8) rfl)
      (pss_one (ps_set (i := 4) nd rfl (.inl rfl) pe_bl))) pss_nil))) pss_nil)))))
      (pss_one (ps_if (pt_not (pt_val (pv 4))) (pss_one (ps_ret (pv 2))) pss_nil)))))
      (pss_one (ps_ret (pv 2)))))
    , fun F0 H0 a Q hp hQ => ?_⟩
  obtain ⟨C, s⟩ := a
  obtain ⟨g, hpos, hs⟩ := hp
  dsimp only at g hpos hs hQ
  have hnb := g.nb
  have hnl := lks_len g.toOk
  have o := kle_ord hpos
  refine w_asgD (ed_one (k := .inr s) (ev_var rfl) (ev_tup (ea_cons ev_int (ea_cons ev_int ea_nil)))) ?_
  dsimp only
  show W _ F0 H0 _ [.fz (.list (C.lks.map lkD)), .fz (.str s), .od [(.inr s, pE [])], .un, .un, .un, .un, .un, .un]
  refine w_forR (fun t ρ => ∃ (ky : Str → Option (List Lk)) (kvs : List (Key × PyData)) (y3 y4 y5 y6 y7 y8 : Sl), ρ = [.fz (.list (C.lks.map lkD)), .fz (.str s), .od kvs, y3, y4, y5, y6, y7, y8] ∧ Rep pE kvs ky ∧ kvs.length ≤ 1 + 200 * t ∧ (∀ x r, ky x = some r → Walk C.lks s r x) ∧ Bt kle C.lks s ky t)
    (ea_cons ev_int ea_nil) (by omega) ⟨k0 s, _, _, _, _, _, _, _, rfl, k0_rep pE s, by simp, fun x r e => k0_walk e, k0_bt o s⟩ ?_ ?_
  · rintro t ρ ht ⟨ky, kvs, y3, y4, y5, y6, y7, y8, rfl, rep, hkl, hw, hb⟩
    refine ⟨_, tg_name, ?_⟩
    refine w_asg ev_bl ?_
    dsimp only
    show W _ F0 H0 _ [.fz (.list (C.lks.map lkD)), .fz (.str s), .od kvs, .fz (.int t), .fz (.bool false), y5, y6, y7, y8]
    refine w_forL (fun i ρ => ∃ (ky' : Str → Option (List Lk)) (kvs' : List (Key × PyData)) (ch : Bool) (y5 y6 y7 y8 : Sl), ρ = [.fz (.list (C.lks.map lkD)), .fz (.str s), .od kvs', .fz (.int t), .fz (.bool ch), y5, y6, y7, y8] ∧ Rep pE kvs' ky' ∧ kvs'.length ≤ 1 + 200 * t + 2 * i ∧ BF kle C.lks s ky ky' (Dn C.lks i) ch)
      (ev_var rfl) ⟨ky, kvs, false, _, _, _, _, rfl, rep, by omega, (BF.start o hw).weaken fun L x d => by simp [Dn] at d⟩ ?_ ?_
    · rintro B i d ρ hB hd ⟨ky', kvs', ch, y5, y6, y7, y8, rfl, rep', hkl', bf⟩
      obtain ⟨L, hL, rfl, hm⟩ := take_map hd
      have hil : i < C.lks.length := (List.getElem?_eq_some_iff.mp hL).1
      refine ⟨_, tg_name, ?_⟩
      refine w_forL (ds := [.tuple [.str L.a, .str L.b], .tuple [.str L.b, .str L.a]]) (fun j ρ => ∃ (ky' : Str → Option (List Lk)) (kvs' : List (Key × PyData)) (ch : Bool) (y6 y7 y8 : Sl), ρ = [.fz (.list (C.lks.map lkD)), .fz (.str s), .od kvs', .fz (.int t), .fz (.bool ch), .fz (lkD L), y6, y7, y8] ∧ Rep pE kvs' ky' ∧ kvs'.length ≤ 1 + 200 * t + 2 * i + j ∧ BF kle C.lks s ky ky' (Dj C.lks i L j) ch)
        (EL.ev (el_lst (ea_cons (ev_tup (ea_cons (ev_op (ev_var rfl) ev_int (ov_ixT rfl)) (ea_cons (ev_op (ev_var rfl) ev_int (ov_ixT rfl)) ea_nil))) (ea_cons (ev_tup (ea_cons (ev_op (ev_var rfl) ev_int (ov_ixT rfl)) (ea_cons (ev_op (ev_var rfl) ev_int (ov_ixT rfl)) ea_nil))) ea_nil))))
        ⟨ky', kvs', ch, _, _, _, rfl, rep', by omega, bf.weaken fun M x d => by
          rcases d with d | ⟨_, ⟨d, _⟩ | ⟨d, _⟩⟩
          · exact d
          · omega
          · omega⟩ ?_ ?_
      · rintro B2 j d ρ hB2 hd2 ⟨ky', kvs', ch, y6, y7, y8, rfl, rep', hkl', bf⟩
        have hj : j < 2 := (List.getElem?_eq_some_iff.mp hd2).1
        obtain ⟨x, rfl, tL, hx⟩ := two_ends hd2
        refine ⟨_, tg_tup2, ?_⟩
        show W _ F0 H0 _ [.fz (.list (C.lks.map lkD)), .fz (.str s), .od kvs', .fz (.int t), .fz (.bool ch), .fz (lkD L), .fz (.str x), .fz (.str (far L x)), y8]
        have rx := rep' x
        have rf := rep' (far L x)
        refine w_if (b := (gV kvs' (.inr x)).isSome) (et_lend (i := 2) rfl rfl (et_test (ev_din (k := .inr x) (ev_var rfl) (ev_var rfl)))) (fun e => ?_) (fun e => ?_)
        · cases hk : ky' x with
          | none => rw [rx, hk] at e; cases e
          | some r1 =>
            rw [hk] at rx
            refine w_asg (d := pE (r1 ++ [L])) ((ev_tup (ea_cons (ev_op (ev_op (ev_dgetO (k := .inr x) rfl (ev_var rfl) rx) ev_int (ov_ixT rfl)) (ev_op (ev_var rfl) ev_int (ov_ixT rfl)) (ov_i (g := fun i j => i + j))) (ea_cons (ev_op (ev_op (ev_dgetO (k := .inr x) rfl (ev_var rfl) rx) ev_int (ov_ixT rfl)) ev_int (ov_i (g := fun i j => i + j))) ea_nil))).eq ?_) ?_
            · show PyData.tuple _ = PyData.tuple _
              rw [mins_snoc, List.length_append]
              rfl
            dsimp only
            show W _ F0 H0 _ [.fz (.list (C.lks.map lkD)), .fz (.str s), .od kvs', .fz (.int t), .fz (.bool ch), .fz (lkD L), .fz (.str x), .fz (.str (far L x)), .fz (pE (r1 ++ [L]))]
            cases hf : ky' (far L x) with
            | none =>
              rw [hf] at rf
              have nf : gV kvs' (.inr (far L x)) = none := rf
              refine w_if (b := true) (et_or (a := true) (b := true) (et_lend (i := 2) rfl rfl (ET.eq (et_test (ev_dnotin (k := .inr (far L x)) (ev_var rfl) (ev_var rfl))) (by rw [nf]; rfl))) fun e => nomatch e) (fun _ => ?_) (fun e => nomatch e)
              refine w_dput (j := .inr (far L x)) rfl (ev_var rfl) (ev_var rfl) (by omega) ?_
              dsimp only
              refine w_asg ev_bl (w_K ⟨_, _, true, _, _, _, rfl, rep'.put (far L x) (r1 ++ [L]), ?_, (bf.put o hm tL hk fun r' e => by rw [hf] at e; cases e).weaken fun M y d => dj_step hx d⟩)
              have := putD_len kvs' (.inr (far L x)) (pE (r1 ++ [L]))
              omega
            | some r2 =>
              rw [hf] at rf
              have nf : gV kvs' (.inr (far L x)) = some (pE r2) := rf
              have hlt : PySem.W.dataLt (pE (r1 ++ [L])) (pE r2) = decide (mins (r1 ++ [L]) < mins r2 ∨ (mins (r1 ++ [L]) = mins r2 ∧ ((r1 ++ [L]).length : Int) < (r2.length : Int))) := PySem.W.dataLt_ii _ _ _ _
              refine w_if (b := decide (mins (r1 ++ [L]) < mins r2 ∨ (mins (r1 ++ [L]) = mins r2 ∧ ((r1 ++ [L]).length : Int) < (r2.length : Int)))) (et_or (a := false) (b := decide (mins (r1 ++ [L]) < mins r2 ∨ (mins (r1 ++ [L]) = mins r2 ∧ ((r1 ++ [L]).length : Int) < (r2.length : Int)))) (et_lend (i := 2) rfl rfl (ET.eq (et_test (ev_dnotin (k := .inr (far L x)) (ev_var rfl) (ev_var rfl))) (by rw [nf]; rfl))) fun _ => ?_) (fun e => ?_) (fun e => ?_)
              · rw [← hlt]
                exact et_test (ev_op (ev_var rfl) (ev_dgetO (k := .inr (far L x)) rfl (ev_var rfl) nf) (ov_ltD rfl rfl (by simp [PySem.W.alike, PySem.W.alikeAll]) (fun z => nomatch z) (by simp [PyData.depth, PyData.depthAll])))
              · have hlt := of_decide_eq_true e
                refine w_dput (j := .inr (far L x)) rfl (ev_var rfl) (ev_var rfl) (by omega) ?_
                dsimp only
                refine w_asg ev_bl (w_K ⟨_, _, true, _, _, _, rfl, rep'.put (far L x) (r1 ++ [L]), ?_, (bf.put o hm tL hk fun r' e => by rw [hf] at e; cases e; unfold kle; omega).weaken fun M y d => dj_step hx d⟩)
                have := putD_len kvs' (.inr (far L x)) (pE (r1 ++ [L]))
                omega
              · have hlt := of_decide_eq_false e
                refine w_next (w_K ⟨ky', kvs', ch, _, _, _, rfl, rep', by omega, (bf.skip o L x fun r e => ?_).weaken fun M y d => dj_step hx d⟩)
                rw [hk] at e; cases e
                exact ⟨r2, hf, by unfold kle; omega⟩
        · refine w_next (w_K ⟨ky', kvs', ch, _, _, _, rfl, rep', by omega, (bf.skip o L x fun r e2 => ?_).weaken fun M y d => dj_step hx d⟩)
          rw [rx, e2] at e; cases e
      · rintro ρ ⟨ky', kvs', ch, y6, y7, y8, rfl, rep', hkl', bf⟩
        have hkl2 : kvs'.length ≤ 1 + 200 * t + 2 * i + 2 := hkl'
        exact w_K ⟨ky', kvs', ch, _, _, _, _, rfl, rep', by omega, bf.weaken fun M y d => dj_end hL d⟩
    · rintro ρ ⟨ky', kvs', ch, y5, y6, y7, y8, rfl, rep', hkl', bf⟩
      rw [List.length_map] at hkl' bf
      have ha : ∀ L ∈ C.lks, ∀ x, touch L x = true → Dn C.lks C.lks.length L x := fun L m x t => ⟨by rw [List.take_length]; exact m, t⟩
      dsimp only
      refine w_if (b := !ch) (et_not (et_B (ev_var rfl))) (fun e => ?_) (fun e => ?_)
      · exact w_retOD rfl fun p xs F' H' gr a b c' d => hQ _ p xs F' H' ⟨ky', bf.stop o ha hb (by simpa using e), rep'⟩ gr a b c' d
      · exact w_next (w_K ⟨ky', kvs', _, _, _, _, _, _, rfl, rep', by omega, bf.wk, bf.next o ha hb⟩)
  · rintro ρ ⟨ky, kvs, y3, y4, y5, y6, y7, y8, rfl, rep, hkl, hw, hb⟩
    dsimp only
    exact w_retOD rfl fun p xs F' H' gr a b c' d => hQ _ p xs F' H' ⟨ky, hb.best o hs (fun L m x => far_in g m x) hw hnb, rep⟩ gr a b c' d
theorem U_law_deepest (T : Tx K mg) : Use P w K mg base CX0 1 "_law_deepest" ["due", "source"] (spRD K (fun a : Cn × Str => [.list (a.1.lks.map lkD), .str a.2]) (fun a => a.1.Good ∧ (∀ L ∈ a.1.lks, 0 < L.d) ∧ a.2 ∈ a.1.bs) fun a kvs => ∃ ky, Best wle a.1.lks a.2 ky ∧ Rep (fun r => .int (wid r)) kvs ky) := by
  refine use_of T.f_law_deepest (fun _ _ _ _ _ _ us hl => match us, hl with | [_, _], _ => rfl) fun f fd F => ?_
  have nd := scLawDeepest.nd
  refine fn_RD F scLawDeepest (fun _ => rfl) fun cdv A outer st H E hr => ⟨_,
    (pss_cons (ps_set (i := 2) nd rfl (.inl rfl) (pe_disp (pps_cons (pv 1) pe_int pps_nil) (by rfl) (by rfl) (fun z => by cases z) (by decide)))
      (pss_cons (ps_for PassesOwn.never rfl (pi_range1 (by rfl) T.m_range (pa_cons pe_int pa_nil)) (pg_name (i := 3) nd rfl (.inl rfl)) (pss_cons (ps_set (i := 4) nd rfl (.inl rfl) pe_bl)
      (pss_cons (ps_for PassesOwn.never rfl (pi_list (pv 0)) (pg_name (i := 5) nd rfl (.inl rfl)) (pss_one (ps_for PassesOwn.never rfl (pi_list (pe_lst (pa_cons (pe_tup (pa_cons (pe_ix (ixT K) (pv 5) pe_int (fun _ _ => rfl)) (pa_cons (pe_ix (ixT K) (pv 5) pe_int (fun _ _ => rfl)) pa_nil))) (pa_cons (pe_tup (pa_cons (pe_ix (ixT K) (pv 5) pe_int (fun _ _ => rfl)) (pa_cons (pe_ix (ixT K) (pv 5) pe_int (fun _ _ => rfl)) pa_nil))) pa_nil)))) (pg_tup rfl (pgs_cons (pg_name (i := 6) nd rfl (.inl rfl)) (pgs_cons (pg_name (i := 7) nd rfl (.inl rfl)) pgs_nil))) (pss_cons (ps_set (i := 8) nd rfl (.inl rfl) (pe_callB (call_min2 rfl) (by rfl) T.m_min (by decide +kernel) (pa_cons (pe_dget2 (hu_of hr) (pv 2) (pv 6) pe_int ⟨by rfl, by rfl, by rfl, by rfl⟩) (pa_cons (pe_ix (ixT K) (pv 5) pe_int (fun _ _ => rfl)) pa_nil))))
      (pss_one (ps_if (pt_cmpR op_gt (pv 8) (pe_dget2 (hu_of hr) (pv 2) (pv 7) pe_int ⟨by rfl, by rfl, by rfl, by rfl⟩) (nomark _)) (pss_cons (ps_dput (hu_of hr) (pv 2) (pv 7) (pv 8) rfl)
      (pss_one (ps_set (i := 4) nd rfl (.inl rfl) pe_bl))) pss_nil))))))
      (pss_one (ps_if (pt_not (pt_val (pv 4))) (pss_one (ps_ret (pv 2))) pss_nil)))))
      (pss_one (ps_ret (pv 2)))))
    , fun F0 H0 a Q hp hQ => ?_⟩
  obtain ⟨C, s⟩ := a
  obtain ⟨g, hpos, hs⟩ := hp
  dsimp only at g hpos hs hQ
  have hnb := g.nb
  have hnl := lks_len g.toOk
  have o : Ord wle C.lks := wle_ord
  have wpos : ∀ {r : List Lk} {x : Str}, Walk C.lks s r x → 1 ≤ wid r := fun w => le_wid.mpr ⟨by decide, fun L m => hpos L (w.mem L m)⟩
  refine w_asgD (ed_one (k := .inr s) (ev_var rfl) ev_int) ?_
  dsimp only
  show W _ F0 H0 _ [.fz (.list (C.lks.map lkD)), .fz (.str s), .od [(.inr s, .int (wid []))], .un, .un, .un, .un, .un, .un]
  refine w_forR (fun t ρ => ∃ (ky : Str → Option (List Lk)) (kvs : List (Key × PyData)) (y3 y4 y5 y6 y7 y8 : Sl), ρ = [.fz (.list (C.lks.map lkD)), .fz (.str s), .od kvs, y3, y4, y5, y6, y7, y8] ∧ Rep (fun r => .int (wid r)) kvs ky ∧ kvs.length ≤ 1 + 200 * t ∧ (∀ x r, ky x = some r → Walk C.lks s r x) ∧ Bt wle C.lks s ky t)
    (ea_cons ev_int ea_nil) (by omega) ⟨k0 s, _, _, _, _, _, _, _, rfl, k0_rep (fun r => .int (wid r)) s, by simp, fun x r e => k0_walk e, k0_bt o s⟩ ?_ ?_
  · rintro t ρ ht ⟨ky, kvs, y3, y4, y5, y6, y7, y8, rfl, rep, hkl, hw, hb⟩
    refine ⟨_, tg_name, ?_⟩
    refine w_asg ev_bl ?_
    dsimp only
    show W _ F0 H0 _ [.fz (.list (C.lks.map lkD)), .fz (.str s), .od kvs, .fz (.int t), .fz (.bool false), y5, y6, y7, y8]
    refine w_forL (fun i ρ => ∃ (ky' : Str → Option (List Lk)) (kvs' : List (Key × PyData)) (ch : Bool) (y5 y6 y7 y8 : Sl), ρ = [.fz (.list (C.lks.map lkD)), .fz (.str s), .od kvs', .fz (.int t), .fz (.bool ch), y5, y6, y7, y8] ∧ Rep (fun r => .int (wid r)) kvs' ky' ∧ kvs'.length ≤ 1 + 200 * t + 2 * i ∧ BF wle C.lks s ky ky' (Dn C.lks i) ch)
      (ev_var rfl) ⟨ky, kvs, false, _, _, _, _, rfl, rep, by omega, (BF.start o hw).weaken fun L x d => by simp [Dn] at d⟩ ?_ ?_
    · rintro B i d ρ hB hd ⟨ky', kvs', ch, y5, y6, y7, y8, rfl, rep', hkl', bf⟩
      obtain ⟨L, hL, rfl, hm⟩ := take_map hd
      have hil : i < C.lks.length := (List.getElem?_eq_some_iff.mp hL).1
      refine ⟨_, tg_name, ?_⟩
      refine w_forL (ds := [.tuple [.str L.a, .str L.b], .tuple [.str L.b, .str L.a]]) (fun j ρ => ∃ (ky' : Str → Option (List Lk)) (kvs' : List (Key × PyData)) (ch : Bool) (y6 y7 y8 : Sl), ρ = [.fz (.list (C.lks.map lkD)), .fz (.str s), .od kvs', .fz (.int t), .fz (.bool ch), .fz (lkD L), y6, y7, y8] ∧ Rep (fun r => .int (wid r)) kvs' ky' ∧ kvs'.length ≤ 1 + 200 * t + 2 * i + j ∧ BF wle C.lks s ky ky' (Dj C.lks i L j) ch)
        (EL.ev (el_lst (ea_cons (ev_tup (ea_cons (ev_op (ev_var rfl) ev_int (ov_ixT rfl)) (ea_cons (ev_op (ev_var rfl) ev_int (ov_ixT rfl)) ea_nil))) (ea_cons (ev_tup (ea_cons (ev_op (ev_var rfl) ev_int (ov_ixT rfl)) (ea_cons (ev_op (ev_var rfl) ev_int (ov_ixT rfl)) ea_nil))) ea_nil))))
        ⟨ky', kvs', ch, _, _, _, rfl, rep', by omega, bf.weaken fun M x d => by
          rcases d with d | ⟨_, ⟨d, _⟩ | ⟨d, _⟩⟩
          · exact d
          · omega
          · omega⟩ ?_ ?_
      · rintro B2 j d ρ hB2 hd2 ⟨ky', kvs', ch, y6, y7, y8, rfl, rep', hkl', bf⟩
        have hj : j < 2 := (List.getElem?_eq_some_iff.mp hd2).1
        obtain ⟨x, rfl, tL, hx⟩ := two_ends hd2
        refine ⟨_, tg_tup2, ?_⟩
        show W _ F0 H0 _ [.fz (.list (C.lks.map lkD)), .fz (.str s), .od kvs', .fz (.int t), .fz (.bool ch), .fz (lkD L), .fz (.str x), .fz (.str (far L x)), y8]
        have get0 : ∀ z : Str, (gV kvs' (.inr z)).getD (.int 0) = .int (((ky' z).map wid).getD 0) := fun z => by
          rw [rep' z]
          cases ky' z <;> rfl
        refine w_asg (d := .int (mn (((ky' x).map wid).getD 0) L.d)) (ev_cb (ea_cons ((ev_lend (i := 2) rfl rfl (ev_dget2 (k := .inr x) (ev_var rfl) (ev_var rfl) ev_int) (by rw [get0]; rfl)).eq (get0 x)) (ea_cons (ev_op (ev_var rfl) ev_int (ov_ixT rfl)) ea_nil)) cv_min2) ?_
        dsimp only
        show W _ F0 H0 _ [.fz (.list (C.lks.map lkD)), .fz (.str s), .od kvs', .fz (.int t), .fz (.bool ch), .fz (lkD L), .fz (.str x), .fz (.str (far L x)), .fz (.int (mn (((ky' x).map wid).getD 0) L.d))]
        have hpL := hpos L hm
        refine w_if (b := decide (((ky' (far L x)).map wid).getD 0 < mn (((ky' x).map wid).getD 0) L.d)) (et_test (ev_op (ev_var rfl) ((ev_lend (i := 2) rfl rfl (ev_dget2 (k := .inr (far L x)) (ev_var rfl) (ev_var rfl) ev_int) (by rw [get0]; rfl)).eq (get0 (far L x))) ov_b)) (fun e => ?_) (fun e => ?_)
        · have hlt := of_decide_eq_true e
          cases hk : ky' x with
          | none =>
            exfalso
            rw [hk] at hlt
            have h1 := mn_l 0 L.d
            have h2 : 0 ≤ ((ky' (far L x)).map wid).getD 0 := by
              cases hf : ky' (far L x) with
              | none => exact Int.le_refl _
              | some r2 => have := wpos (bf.wk _ _ hf); show 0 ≤ wid r2; omega
            have h3 : ((ky' (far L x)).map wid).getD 0 < mn 0 L.d := hlt
            omega
          | some r1 =>
            rw [hk] at hlt
            have hd : mn (((some r1 : Option (List Lk)).map wid).getD 0) L.d = wid (r1 ++ [L]) := (wid_snoc r1 L).symm
            rw [hd] at hlt
            rw [hd]
            refine w_dput (j := .inr (far L x)) rfl (ev_var rfl) (ev_var rfl) (by omega) ?_
            dsimp only
            refine w_asg ev_bl (w_K ⟨_, _, true, _, _, _, rfl, rep'.put (far L x) (r1 ++ [L]), ?_, (bf.put o hm tL hk fun r' e => ?_).weaken fun M y d => dj_step hx d⟩)
            · have := putD_len kvs' (.inr (far L x)) (.int (wid (r1 ++ [L])))
              omega
            · rw [e] at hlt
              have h3 : wid r' < wid (r1 ++ [L]) := hlt
              unfold wle
              omega
        · have hlt := of_decide_eq_false e
          refine w_next (w_K ⟨ky', kvs', ch, _, _, _, rfl, rep', by omega, (bf.skip o L x fun r1 hk => ?_).weaken fun M y d => dj_step hx d⟩)
          rw [hk] at hlt
          have hd : mn (((some r1 : Option (List Lk)).map wid).getD 0) L.d = wid (r1 ++ [L]) := (wid_snoc r1 L).symm
          rw [hd] at hlt
          have h1 := wpos (Walk.snoc (bf.wk _ _ hk) hm tL)
          cases hf : ky' (far L x) with
          | none =>
            rw [hf] at hlt
            exact absurd (show (0 : Int) < wid (r1 ++ [L]) by omega) hlt
          | some r2 =>
            rw [hf] at hlt
            have h3 : ¬ wid r2 < wid (r1 ++ [L]) := hlt
            exact ⟨r2, rfl, by unfold wle; omega⟩
      · rintro ρ ⟨ky', kvs', ch, y6, y7, y8, rfl, rep', hkl', bf⟩
        have hkl2 : kvs'.length ≤ 1 + 200 * t + 2 * i + 2 := hkl'
        exact w_K ⟨ky', kvs', ch, _, _, _, _, rfl, rep', by omega, bf.weaken fun M y d => dj_end hL d⟩
    · rintro ρ ⟨ky', kvs', ch, y5, y6, y7, y8, rfl, rep', hkl', bf⟩
      rw [List.length_map] at hkl' bf
      have ha : ∀ L ∈ C.lks, ∀ x, touch L x = true → Dn C.lks C.lks.length L x := fun L m x t => ⟨by rw [List.take_length]; exact m, t⟩
      dsimp only
      refine w_if (b := !ch) (et_not (et_B (ev_var rfl))) (fun e => ?_) (fun e => ?_)
      · exact w_retOD rfl fun p xs F' H' gr a b c' d => hQ _ p xs F' H' ⟨ky', bf.stop o ha hb (by simpa using e), rep'⟩ gr a b c' d
      · exact w_next (w_K ⟨ky', kvs', _, _, _, _, _, _, rfl, rep', by omega, bf.wk, bf.next o ha hb⟩)
  · rintro ρ ⟨ky, kvs, y3, y4, y5, y6, y7, y8, rfl, rep, hkl, hw, hb⟩
    dsimp only
    exact w_retOD rfl fun p xs F' H' gr a b c' d => hQ _ p xs F' H' ⟨ky, hb.best o hs (fun L m x => far_in g m x) hw hnb, rep⟩ gr a b c' d
end
end Kx


set_option maxHeartbeats 4000000
namespace Kx
open PySem L2 DL

/-! ### the great canal -/
def nb (k : Nat) : Str := ("b" : Str) ++ ⟨#[97 + k]⟩
def lb (k : Nat) : Str := ("l" : Str) ++ (toString ((10 : Int) + (k : Int)) : Str)
theorem nb_nodup : ((List.range 24).map nb).Nodup := by decide +kernel
theorem lb_nodup : ((List.range 50).map lb).Nodup := by decide +kernel
theorem letters : ∀ i < 24, ("abcdefghijklmnopqrstuvwx" : Str).cps.toList[i]? = some (97 + i) := by decide +kernel
theorem lb_small : ∀ i : Nat, i < 50 → (toString ((10 : Int) + (i : Int)) : Str).length ≤ 2 := by decide +kernel
theorem lb_log : ∀ i < 50, ((10 : Int) + ((i : Nat) : Int)).natAbs.log2 < 1920 := by decide +kernel
theorem nb_inj' : ∀ i < 24, ∀ j < 24, nb i = nb j → i = j := by decide +kernel
theorem nb_inj {i j : Nat} (hi : i < 24) (hj : j < 24) (h : nb i = nb j) : i = j := nb_inj' i hi j hj h
theorem lb_inj' : ∀ i < 50, ∀ j < 50, lb i = lb j → i = j := by decide +kernel
theorem lb_inj {i j : Nat} (hi : i < 50) (hj : j < 50) (h : lb i = lb j) : i = j := lb_inj' i hi j hj h
def cellE (r c : Nat) : List (Nat × Nat) := (if c < 5 then [(6 * r + c, 6 * r + c + 1)] else []) ++ (if r < 3 then [(6 * r + c, 6 * r + c + 6)] else [])
def rowE (r j : Nat) : List (Nat × Nat) := (List.range j).flatMap (cellE r)
def gridE (i : Nat) : List (Nat × Nat) := (List.range i).flatMap fun r => rowE r 6
theorem rowE_succ (r j : Nat) : rowE r (j + 1) = rowE r j ++ cellE r j := by
  unfold rowE
  rw [List.range_succ, List.flatMap_append]
  simp
theorem gridE_succ (i : Nat) : gridE (i + 1) = gridE i ++ rowE i 6 := by
  unfold gridE
  rw [List.range_succ, List.flatMap_append]
  simp
abbrev pairI (p : Nat × Nat) : PyData := .tuple [.int (p.1 : Int), .int (p.2 : Int)]
theorem grid_len : (gridE 4).length = 38 := by decide +kernel
theorem grid_in : ∀ p ∈ gridE 4, p.1 < 24 ∧ p.2 < 24 := by decide +kernel
theorem grid_h1 : ∀ k < 24, k % 6 ≠ 0 → (k - 1, k) ∈ gridE 4 := by decide +kernel
theorem grid_h2 : ∀ k < 24, 6 ≤ k → (k - 6, k) ∈ gridE 4 := by decide +kernel
theorem cellE_len (r c : Nat) : (cellE r c).length ≤ 2 := by
  unfold cellE
  rw [List.length_append]
  split <;> split <;> simp
theorem rowE_len (r j : Nat) : (rowE r j).length ≤ 2 * j := by
  induction j with
  | zero => simp [rowE]
  | succ j ih =>
    rw [rowE_succ, List.length_append]
    have := cellE_len r j
    omega
theorem gridE_len (i : Nat) : (gridE i).length ≤ 12 * i := by
  induction i with
  | zero => simp [gridE]
  | succ i ih =>
    rw [gridE_succ, List.length_append]
    have := rowE_len i 6
    omega
structure GreatOk (C : Cn) : Prop where
  good : C.Good
  pos : C.Pos
  dep : ∀ L ∈ C.lks, 0 < L.d
  bs : C.bs = (List.range 24).map nb
  lab : ((C.rs ++ C.ls).map fun L : Lk => L.lab).Nodup
  h1 : ∀ k < 24, k % 6 ≠ 0 → ∃ L ∈ C.lks, L.a = nb (k - 1) ∧ L.b = nb k
  h2 : ∀ k < 24, 6 ≤ k → ∃ L ∈ C.lks, L.a = nb (k - 6) ∧ L.b = nb k
/-- the links made of the ends before i -/
structure GI (ends : List (Nat × Nat)) (i : Nat) (rs ls : List Lk) : Prop where
  len : rs.length + ls.length = i
  of : ∀ L ∈ rs ++ ls, ∃ k, k < i ∧ L.lab = lb k ∧ ∃ p, ends[k]? = some p ∧ L.a = nb p.1 ∧ L.b = nb p.2 ∧ 0 < L.m ∧ 0 < L.d
  has : ∀ k < i, ∀ p, ends[k]? = some p → ∃ L ∈ rs ++ ls, L.a = nb p.1 ∧ L.b = nb p.2
  lab : ((rs ++ ls).map fun L : Lk => L.lab).Nodup
theorem GI.add {ends : List (Nat × Nat)} {i : Nat} {rs ls rs' ls' : List Lk} {L : Lk} {p : Nat × Nat} (g : GI ends i rs ls) (hi : i < 50) (he : ends[i]? = some p) (e0 : L.lab = lb i) (e1 : L.a = nb p.1) (e2 : L.b = nb p.2) (e3 : 0 < L.m) (e4 : 0 < L.d)
    (hp : (rs' ++ ls').Perm (L :: (rs ++ ls))) : GI ends (i + 1) rs' ls' where
  len := by
    have := hp.length_eq
    rw [List.length_append, List.length_cons, List.length_append, g.len] at this
    exact this
  of := fun M hM => by
    rcases List.mem_cons.mp (hp.mem_iff.mp hM) with rfl | hM
    · exact ⟨i, Nat.lt_succ_self _, e0, p, he, e1, e2, e3, e4⟩
    · obtain ⟨k, hk, r⟩ := g.of M hM
      exact ⟨k, Nat.lt_succ_of_lt hk, r⟩
  has := fun k hk q hq => by
    by_cases e : k = i
    · subst e
      rw [he] at hq; cases hq
      exact ⟨L, hp.mem_iff.mpr List.mem_cons_self, e1, e2⟩
    · obtain ⟨M, hM, r⟩ := g.has k (by omega) q hq
      exact ⟨M, hp.mem_iff.mpr (List.mem_cons_of_mem _ hM), r⟩
  lab := by
    have h2 := hp.map fun L : Lk => L.lab
    refine h2.nodup_iff.mpr ?_
    rw [List.map_cons, List.nodup_cons]
    refine ⟨fun hm => ?_, g.lab⟩
    obtain ⟨M, hM, e⟩ := List.mem_map.mp hm
    obtain ⟨k, hk, e', _⟩ := g.of M hM
    have := lb_inj (by omega) hi (e'.symm.trans (e.trans e0))
    omega
theorem GI.great {ends ex : List (Nat × Nat)} {rs ls : List Lk} (he : ends = gridE 4 ++ ex) (hx : ∀ p ∈ ex, p.1 < 24 ∧ p.2 < 24) (hl : ends.length ≤ 50) (g : GI ends ends.length rs ls) : GreatOk ⟨(List.range 24).map nb, rs, ls⟩ := by
  have hin : ∀ p ∈ ends, p.1 < 24 ∧ p.2 < 24 := fun p hp => by
    rw [he] at hp
    rcases List.mem_append.mp hp with hp | hp
    · exact grid_in p hp
    · exact hx p hp
  have hnb : ∀ k < 24, nb k ∈ (List.range 24).map nb := fun k hk => List.mem_map.mpr ⟨k, List.mem_range.mpr hk, rfl⟩
  have has : ∀ p ∈ gridE 4, ∃ L ∈ rs ++ ls, L.a = nb p.1 ∧ L.b = nb p.2 := fun p hp => by
    have : p ∈ ends := by rw [he]; exact List.mem_append_left _ hp
    obtain ⟨k, hk⟩ := List.getElem?_of_mem this
    exact g.has k (List.getElem?_eq_some_iff.mp hk).1 p hk
  have hlk : ∀ {L : Lk}, L ∈ (⟨(List.range 24).map nb, rs, ls⟩ : Cn).lks ↔ L ∈ rs ++ ls := fun {L} => mem_lks
  exact {
    good := ⟨⟨by simp, by have := g.len; show rs.length + ls.length ≤ 100; omega⟩, nb_nodup, fun L hL => by
        obtain ⟨k, _, _, p, hp, e1, _⟩ := g.of L hL
        rw [e1]; exact hnb _ (hin p (List.mem_of_getElem? hp)).1, fun L hL => by
        obtain ⟨k, _, _, p, hp, _, e2, _⟩ := g.of L hL
        rw [e2]; exact hnb _ (hin p (List.mem_of_getElem? hp)).2⟩
    pos := fun L hL => by
      obtain ⟨k, _, _, p, hp, _, _, e3, _⟩ := g.of L (hlk.mp hL)
      exact e3
    dep := fun L hL => by
      obtain ⟨k, _, _, p, hp, _, _, _, e4⟩ := g.of L (hlk.mp hL)
      exact e4
    bs := rfl
    lab := g.lab
    h1 := fun k hk h6 => by
      obtain ⟨L, hL, e⟩ := has _ (grid_h1 k hk h6)
      exact ⟨L, hlk.mpr hL, e⟩
    h2 := fun k hk h6 => by
      obtain ⟨L, hL, e⟩ := has _ (grid_h2 k hk h6)
      exact ⟨L, hlk.mpr hL, e⟩ }
theorem below_nat : ∀ {ds ss : List Int}, Below ds ss → (∀ s ∈ ss, s = 24) → ∃ mn : List Nat, ds = mn.map (fun n : Nat => (n : Int)) ∧ ∀ n ∈ mn, n < 24
  | [], [], _, _ => ⟨[], rfl, fun _ h => nomatch h⟩
  | d :: ds, s :: ss, ⟨⟨h0, h1⟩, h⟩, hs => by
    obtain ⟨mn, e, hm⟩ := below_nat h fun s hs' => hs s (List.mem_cons_of_mem _ hs')
    have h24 := hs s List.mem_cons_self
    refine ⟨d.toNat :: mn, ?_, fun n hn => ?_⟩
    · rw [List.map_cons, ← e, Int.toNat_of_nonneg h0]
    · rcases List.mem_cons.mp hn with rfl | hn
      · omega
      · exact hm n hn
theorem below3 {ds : List Int} {a b c : Int} (h : Below ds [a, b, c]) : ∃ x y z, ds = [x, y, z] ∧ 0 ≤ x ∧ 0 ≤ y ∧ 0 ≤ z := by
  match ds, h with
  | [x, y, z], ⟨h1, h2, h3, _⟩ => exact ⟨x, y, z, rfl, h1.1, h2.1, h3.1⟩
end Kx


set_option maxHeartbeats 4000000
namespace Kx
open PySem L2 DL
theorem b_small (i : Nat) : ("b" : Str).length + (⟨#[97 + i]⟩ : Str).length ≤ 100000 := by
  have h1 : ("b" : Str).length = 1 := by decide +kernel
  rw [h1]
  exact Nat.le_of_ble_eq_true rfl
theorem map_snocP (xs : List (Nat × Nat)) (z : Nat × Nat) : (xs ++ [z]).map pairI = xs.map pairI ++ [pairI z] := by rw [List.map_append]; rfl
theorem map_snocLk (xs : List Lk) (z : Lk) : (xs ++ [z]).map lkD = xs.map lkD ++ [lkD z] := by rw [List.map_append]; rfl
theorem sz3 : ∀ s ∈ [(9 : Int), 30, 2], 0 < s ∧ s < 1000000 := by decide
theorem int_eq {a b : Int} (h : a = b) : PyData.int a = PyData.int b := h ▸ rfl
section
variable {P : Program} {w : World} {K : PySem.W.Frag} {mg : Str → Option Value} {base : Heap}
theorem U_law_great (T : Tx K mg) : Use P w K mg base CX0 3 "_law_great" ["script"] (spRV K (fun ns : List Int => [.list (ns.map .int)]) (fun _ => True) fun _ d => ∃ C, GreatOk C ∧ d = cnD C) := by
  have ULawDraw := U_draw (P := P) (w := w) (base := base) T.toTl
  refine use_of T.f_law_great (fun _ _ _ _ _ _ us hl => match us, hl with | [_], _ => rfl) fun f fd F => ?_
  have nd := scLawGreat.nd
  refine fn_RV F scLawGreat (fun _ => rfl) fun cdv A outer st H E hr => ⟨_,
    (pss_cons (ps_set (i := 1) nd rfl (.inl rfl) (pe_lst pa_nil))
      (pss_cons (ps_for PassesOwn.never rfl (pi_range1 (by rfl) T.m_range (pa_cons pe_int pa_nil)) (pg_name (i := 2) nd rfl (.inl rfl)) (pss_one (ps_expr (pe_bm PySem.F.plainAttrs_list PySem.F.slot_list_append PySem.F.type_list_append mt_append (pv 1) (pa_cons (pe_op op_add_str pe_str (pe_ix ix_str pe_str (pv 2) (fun _ _ => rfl))) pa_nil)))))
      (pss_cons (ps_set (i := 3) nd rfl (.inl rfl) (pe_lst pa_nil))
      (pss_cons (ps_for PassesOwn.never rfl (pi_range1 (by rfl) T.m_range (pa_cons pe_int pa_nil)) (pg_name (i := 4) nd rfl (.inl rfl)) (pss_one (ps_for PassesOwn.never rfl (pi_range1 (by rfl) T.m_range (pa_cons pe_int pa_nil)) (pg_name (i := 5) nd rfl (.inl rfl)) (pss_cons (ps_if (pt_cmpR op_lt (pv 5) pe_int (nomark _)) (pss_one (ps_expr (pe_bm PySem.F.plainAttrs_list PySem.F.slot_list_append PySem.F.type_list_append mt_append (pv 3) (pa_cons (pe_tup (pa_cons (pe_op op_add (pe_op op_mul pe_int (pv 4)) (pv 5)) (pa_cons (pe_op op_add (pe_op op_add (pe_op op_mul pe_int (pv 4)) (pv 5)) pe_int) pa_nil))) pa_nil)))) pss_nil)
      (pss_one (ps_if (pt_cmpR op_lt (pv 4) pe_int (nomark _)) (pss_one (ps_expr (pe_bm PySem.F.plainAttrs_list PySem.F.slot_list_append PySem.F.type_list_append mt_append (pv 3) (pa_cons (pe_tup (pa_cons (pe_op op_add (pe_op op_mul pe_int (pv 4)) (pv 5)) (pa_cons (pe_op op_add (pe_op op_add (pe_op op_mul pe_int (pv 4)) (pv 5)) pe_int) pa_nil))) pa_nil)))) pss_nil))))))
      (pss_cons (ps_set (i := 6) nd rfl (.inl rfl) (pe_use ULawDraw hr (pa_cons (pv 0) (pa_cons pe_int (pa_cons (pe_op op_rep (pe_lst (pa_cons pe_int pa_nil)) pe_int) pa_nil)))))
      (pss_cons (ps_for PassesOwn.never rfl (pi_range1 (by rfl) T.m_range (pa_cons pe_int pa_nil)) (pg_name (i := 2) nd rfl (.inl rfl)) (pss_one (ps_if (pt_cmpR op_ne (pe_ix (ixL K) (pv 6) (pe_op op_mul pe_int (pv 2)) (fun _ _ => rfl)) (pe_ix (ixL K) (pv 6) (pe_op op_add (pe_op op_mul pe_int (pv 2)) pe_int) (fun _ _ => rfl)) (nomark _)) (pss_one (ps_expr (pe_bm PySem.F.plainAttrs_list PySem.F.slot_list_append PySem.F.type_list_append mt_append (pv 3) (pa_cons (pe_tup (pa_cons (pe_ix (ixL K) (pv 6) (pe_op op_mul pe_int (pv 2)) (fun _ _ => rfl)) (pa_cons (pe_ix (ixL K) (pv 6) (pe_op op_add (pe_op op_mul pe_int (pv 2)) pe_int) (fun _ _ => rfl)) pa_nil))) pa_nil)))) pss_nil)))
      (pss_cons (ps_set (i := 7) nd rfl (.inl rfl) (pe_lst pa_nil))
      (pss_cons (ps_set (i := 8) nd rfl (.inl rfl) (pe_lst pa_nil))
      (pss_cons (ps_for PassesOwn.never rfl (pi_range1 (by rfl) T.m_range (pa_cons (pe_callB (lenSq K) (by rfl) T.m_len (by decide +kernel) (pa_cons (pv 3) pa_nil)) pa_nil)) (pg_name (i := 2) nd rfl (.inl rfl)) (pss_cons (ps_asg (pe_use ULawDraw hr (pa_cons (pv 0) (pa_cons (pe_op op_add pe_int (pe_op op_mod (pv 2) pe_int)) (pa_cons (pe_lst (pa_cons pe_int (pa_cons pe_int (pa_cons pe_int pa_nil)))) pa_nil)))) (pg_lst rfl (pgs_cons (pg_name (i := 9) nd rfl (.inl rfl)) (pgs_cons (pg_name (i := 10) nd rfl (.inl rfl)) (pgs_cons (pg_name (i := 11) nd rfl (.inl rfl)) pgs_nil)))))
      (pss_cons (ps_set (i := 9) nd rfl (.inl rfl) (pe_op op_add (pe_op op_mod (pe_op op_add (pv 9) (pv 2)) pe_int) pe_int))
      (pss_cons (ps_set (i := 10) nd rfl (.inl rfl) (pe_op op_add (pe_op op_mod (pe_op op_add (pv 10) (pe_op op_mul pe_int (pv 2))) pe_int) pe_int))
      (pss_cons (ps_set (i := 4) nd rfl (.inl rfl) (pe_tup (pa_cons (pe_op op_add_str pe_str (pe_callTy call_str_int (by rfl) T.m_str (by decide +kernel) (pa_cons (pe_op op_add pe_int (pv 2)) pa_nil))) (pa_cons (pe_ix (ixL K) (pv 1) (pe_ix (ixT K) (pe_ix (ixL K) (pv 3) (pv 2) (fun _ _ => rfl)) pe_int (fun _ _ => rfl)) (fun _ _ => rfl)) (pa_cons (pe_ix (ixL K) (pv 1) (pe_ix (ixT K) (pe_ix (ixL K) (pv 3) (pv 2) (fun _ _ => rfl)) pe_int (fun _ _ => rfl)) (fun _ _ => rfl)) (pa_cons (pv 9) (pa_cons (pv 10) (pa_cons pe_int (pa_cons pe_int (pa_cons pe_int pa_nil))))))))))
      (pss_one (ps_if (pt_cmpR op_eq (pv 11) pe_int (nomark _)) (pss_one (ps_expr (pe_bm PySem.F.plainAttrs_list PySem.F.slot_list_append PySem.F.type_list_append mt_append (pv 7) (pa_cons (pv 4) pa_nil)))) (pss_one (ps_expr (pe_bm PySem.F.plainAttrs_list PySem.F.slot_list_append PySem.F.type_list_append mt_append (pv 8) (pa_cons (pv 4) pa_nil)))))))))))
      (pss_one (ps_ret (pe_tup (pa_cons (pe_callTy (tupleOf K) (by rfl) T.m_tuple (by decide +kernel) (pa_cons (pv 1) pa_nil)) (pa_cons (pe_callTy (tupleOf K) (by rfl) T.m_tuple (by decide +kernel) (pa_cons (pv 7) pa_nil)) (pa_cons (pe_callTy (tupleOf K) (by rfl) T.m_tuple (by decide +kernel) (pa_cons (pv 8) pa_nil)) pa_nil)))))))))))))))
    , fun F0 H0 ns Q hp hQ => ?_⟩
  refine w_asgL (el_lst ea_nil) ?_
  dsimp only
  refine w_forR (fun i ρ => ∃ y2, ρ = [.fz (.list (ns.map .int)), .ol (((List.range i).map nb).map .str), y2, .un, .un, .un, .un, .un, .un, .un, .un, .un]) (ea_cons ev_int ea_nil) (by omega) ⟨.un, rfl⟩ ?_ ?_
  · rintro i ρ hi ⟨y2, rfl⟩
    have hi' : i < 24 := by omega
    refine ⟨_, tg_name, ?_⟩
    refine w_app rfl (d := .str (nb i)) (ev_op ev_str (ev_op ev_str (ev_var rfl) (ov_ixS (n := 97 + i) (by decide +kernel) (at_nat (letters i hi')))) (ov_adds (b_small i))) (by rw [List.length_map, List.length_map, List.length_range]; omega) (w_K ⟨.fz (.int i), ?_⟩)
    rw [List.range_succ, List.map_append, List.map_append]
    rfl
  rintro ρ ⟨y2, rfl⟩
  dsimp only
  refine w_freeze 1 rfl rfl ?_
  refine w_asgL (el_lst ea_nil) ?_
  dsimp only
  show W _ F0 H0 _ [.fz (.list (ns.map .int)), .fz (.list (((List.range 24).map nb).map .str)), y2, .ol [], .un, .un, .un, .un, .un, .un, .un, .un]
  refine w_forR (fun i ρ => ∃ y4 y5, ρ = [.fz (.list (ns.map .int)), .fz (.list (((List.range 24).map nb).map .str)), y2, .ol ((gridE i).map pairI), y4, y5, .un, .un, .un, .un, .un, .un]) (ea_cons ev_int ea_nil) (by omega) ⟨.un, .un, rfl⟩ ?_ ?_
  · rintro i ρ hi ⟨y4, y5, rfl⟩
    have hi' : i < 4 := by omega
    refine ⟨_, tg_name, ?_⟩
    refine w_forR (fun j ρ => ∃ y5, ρ = [.fz (.list (ns.map .int)), .fz (.list (((List.range 24).map nb).map .str)), y2, .ol ((gridE i ++ rowE i j).map pairI), .fz (.int i), y5, .un, .un, .un, .un, .un, .un]) (ea_cons ev_int ea_nil) (by omega) ⟨y5, by simp [rowE]⟩ ?_ ?_
    · rintro j ρ hj ⟨y5, rfl⟩
      have hj' : j < 6 := by omega
      refine ⟨_, tg_name, ?_⟩
      have hg := gridE_len i
      have hrw := rowE_len i j
      have cellv : ∀ {c : Wd} {ρ : List Sl}, ρ[4]? = some (.fz (.int i)) → ρ[5]? = some (.fz (.int j)) → EV c (tOp (rI0 fun i j => V.int (i + j)) (tOp (rI CMul fun i j => V.int (i * j)) (tC (.int 6)) (tVar 4)) (tVar 5)) ρ (.int ((6 * i + j : Nat) : Int)) := fun h4 h5 =>
        (ev_op (ev_op ev_int (ev_var h4) (ov_ic (C := CMul) (g := fun i j => i * j) (cmul_l (by decide)))) (ev_var h5) (ov_i (g := fun i j => i + j))).eq (int_eq (by show (6 : Int) * (i : Int) + (j : Int) = _; omega))
      refine w_ifK [.fz (.list (ns.map .int)), .fz (.list (((List.range 24).map nb).map .str)), y2, .ol ((gridE i ++ rowE i j ++ if j < 5 then [(6 * i + j, 6 * i + j + 1)] else []).map pairI), .fz (.int i), .fz (.int j), .un, .un, .un, .un, .un, .un] (et_test (ev_op (ev_var rfl) ev_int ov_b)) (fun e hk => ?_) (fun e hk => ?_) ?_
      · have h5 : j < 5 := by have := of_decide_eq_true e; omega
        rw [if_pos h5, map_snocP] at hk
        refine w_app rfl (d := pairI (6 * i + j, 6 * i + j + 1)) (ev_tup (ea_cons (cellv rfl rfl) (ea_cons ((ev_op (cellv rfl rfl) ev_int (ov_i (g := fun i j => i + j))).eq (int_eq (by show ((6 * i + j : Nat) : Int) + _ = _; omega))) ea_nil))) (by rw [List.length_map, List.length_append]; omega) hk
      · have h5 : ¬ j < 5 := by have := of_decide_eq_false e; omega
        rw [if_neg h5, List.append_nil] at hk
        exact hk
      dsimp only
      refine w_ifK [.fz (.list (ns.map .int)), .fz (.list (((List.range 24).map nb).map .str)), y2, .ol ((gridE i ++ rowE i (j + 1)).map pairI), .fz (.int i), .fz (.int j), .un, .un, .un, .un, .un, .un] (et_test (ev_op (ev_var rfl) ev_int ov_b)) (fun e hk => ?_) (fun e hk => ?_) ?_
      · have h3 : i < 3 := by have := of_decide_eq_true e; omega
        refine w_app rfl (d := pairI (6 * i + j, 6 * i + j + 6)) (ev_tup (ea_cons (cellv rfl rfl) (ea_cons ((ev_op (cellv rfl rfl) ev_int (ov_i (g := fun i j => i + j))).eq (int_eq (by show ((6 * i + j : Nat) : Int) + _ = _; omega))) ea_nil))) (by rw [List.length_map, List.length_append, List.length_append]; split <;> simp <;> omega) (hk.eq ?_)
        rw [rowE_succ, cellE, if_pos h3, ← List.append_assoc, ← List.append_assoc, map_snocP]
        rfl
      · have h3 : ¬ i < 3 := by have := of_decide_eq_false e; omega
        refine w_next (hk.eq ?_)
        rw [rowE_succ, cellE, if_neg h3, List.append_nil, ← List.append_assoc]
      exact w_K ⟨.fz (.int j), rfl⟩
    · rintro ρ ⟨y5, rfl⟩
      refine w_K ⟨.fz (.int i), y5, ?_⟩
      rw [gridE_succ]
      rfl
  rintro ρ ⟨y4, y5, rfl⟩
  dsimp only
  show W _ F0 H0 _ [.fz (.list (ns.map .int)), .fz (.list (((List.range 24).map nb).map .str)), y2, .ol ((gridE 4).map pairI), y4, y5, .un, .un, .un, .un, .un, .un]
  have hsz : ∀ s ∈ List.replicate 24 (24 : Int), s = 24 := fun s hs => (List.mem_replicate.mp hs).2
  obtain ⟨mn, emn, hmn⟩ := below_nat (drawM_below ns 1 (List.replicate 24 24) fun s hs => by rw [hsz s hs]; decide) hsz
  have hml : mn.length = 24 := by
    have h := drawM_len ns 1 (List.replicate 24 24)
    rw [emn, List.length_map, List.length_replicate] at h
    exact h
  refine w_asg (d := .list (mn.map fun n : Nat => .int (n : Int))) ((EL.ev (el_call (α := List Int × Nat × List Int) (ns, 1, List.replicate 24 24) (ea_cons (ev_var rfl) (ea_cons ev_int (ea_cons ((EL.ev (el_rep (el_lst (ea_cons ev_int ea_nil)) ev_int (by decide))).eq (show PyData.list (List.replicate (Int.toNat 24) [PyData.int 24]).flatten = PyData.list (List.map PyData.int (List.replicate 24 24)) from rfl)) ea_nil))) ⟨fun s hs => by rw [hsz s hs]; decide, by simp⟩)).eq ?_) ?_
  · show PyData.list ((drawM ns 1 (List.replicate 24 24)).map .int) = _
    rw [emn, List.map_map]
    rfl
  dsimp only
  show W _ F0 H0 _ [.fz (.list (ns.map .int)), .fz (.list (((List.range 24).map nb).map .str)), y2, .ol ((gridE 4).map pairI), y4, y5, .fz (.list (mn.map fun n : Nat => .int (n : Int))), .un, .un, .un, .un, .un]
  refine w_forR (fun i ρ => ∃ (y2 : Sl) (ex : List (Nat × Nat)), ρ = [.fz (.list (ns.map .int)), .fz (.list (((List.range 24).map nb).map .str)), y2, .ol ((gridE 4 ++ ex).map pairI), y4, y5, .fz (.list (mn.map fun n : Nat => .int (n : Int))), .un, .un, .un, .un, .un] ∧ ex.length ≤ i ∧ ∀ p ∈ ex, p.1 < 24 ∧ p.2 < 24) (ea_cons ev_int ea_nil) (by omega) ⟨y2, [], by rw [List.append_nil], Nat.le_refl _, fun _ h => nomatch h⟩ ?_ ?_
  · rintro i ρ hi ⟨y2, ex, rfl, hxl, hx⟩
    have hi' : i < 12 := by omega
    refine ⟨_, tg_name, ?_⟩
    have l1 : 2 * i < mn.length := by omega
    have l2 : 2 * i + 1 < mn.length := by omega
    have a1 : atI (mn.map fun n : Nat => PyData.int (n : Int)) ((2 * i : Nat) : Int) = some (.int (mn[2 * i] : Int)) := at_nat (by rw [List.getElem?_map, List.getElem?_eq_getElem l1]; rfl)
    have a2 : atI (mn.map fun n : Nat => PyData.int (n : Int)) ((2 * i + 1 : Nat) : Int) = some (.int (mn[2 * i + 1] : Int)) := at_nat (by rw [List.getElem?_map, List.getElem?_eq_getElem l2]; rfl)
    have v1 : ∀ {c : Wd} {ρ : List Sl}, ρ[6]? = some (.fz (.list (mn.map fun n : Nat => .int (n : Int)))) → ρ[2]? = some (.fz (.int i)) → EV c (tOp (rIxL c.K) (tVar 6) (tOp (rI CMul fun i j => V.int (i * j)) (tC (.int 2)) (tVar 2))) ρ (.int (mn[2 * i] : Int)) := fun h6 h2 =>
      ev_op (ev_var h6) ((ev_op ev_int (ev_var h2) (ov_ic (C := CMul) (g := fun i j => i * j) (cmul_l (by decide)))).eq (int_eq (by show (2 : Int) * (i : Int) = _; omega))) (ov_ixL a1)
    have v2 : ∀ {c : Wd} {ρ : List Sl}, ρ[6]? = some (.fz (.list (mn.map fun n : Nat => .int (n : Int)))) → ρ[2]? = some (.fz (.int i)) → EV c (tOp (rIxL c.K) (tVar 6) (tOp (rI0 fun i j => V.int (i + j)) (tOp (rI CMul fun i j => V.int (i * j)) (tC (.int 2)) (tVar 2)) (tC (.int 1)))) ρ (.int (mn[2 * i + 1] : Int)) := fun h6 h2 =>
      ev_op (ev_var h6) ((ev_op (ev_op ev_int (ev_var h2) (ov_ic (C := CMul) (g := fun i j => i * j) (cmul_l (by decide)))) ev_int (ov_i (g := fun i j => i + j))).eq (int_eq (by show (2 : Int) * (i : Int) + 1 = _; omega))) (ov_ixL a2)
    refine w_if (et_test (ev_op (v1 rfl rfl) (v2 rfl rfl) ov_nei)) (fun e => ?_) (fun e => ?_)
    · refine w_app rfl (d := pairI (mn[2 * i], mn[2 * i + 1])) (ev_tup (ea_cons (v1 rfl rfl) (ea_cons (v2 rfl rfl) ea_nil))) (by rw [List.length_map, List.length_append, grid_len]; omega) (w_K ⟨.fz (.int i), ex ++ [(mn[2 * i], mn[2 * i + 1])], ?_, ?_, fun p hp => ?_⟩)
      · rw [← List.append_assoc, map_snocP]
        rfl
      · rw [List.length_append, List.length_singleton]; omega
      · rcases List.mem_append.mp hp with hp | hp
        · exact hx p hp
        · rw [List.mem_singleton] at hp
          subst hp
          exact ⟨hmn _ (List.getElem_mem l1), hmn _ (List.getElem_mem l2)⟩
    · exact w_next (w_K ⟨.fz (.int i), ex, rfl, by omega, hx⟩)
  rintro ρ ⟨y2, ex, rfl, hxl, hx⟩
  have hel : (gridE 4 ++ ex).length ≤ 50 := by
    rw [List.length_append, grid_len]
    have : ex.length ≤ 12 := hxl
    omega
  generalize he : gridE 4 ++ ex = ends at hel
  dsimp only
  refine w_freeze 3 rfl rfl ?_
  refine w_asgL (el_lst ea_nil) ?_
  dsimp only
  refine w_asgL (el_lst ea_nil) ?_
  dsimp only
  show W _ F0 H0 _ [.fz (.list (ns.map .int)), .fz (.list (((List.range 24).map nb).map .str)), y2, .fz (.list (ends.map pairI)), y4, y5, .fz (.list (mn.map fun n : Nat => .int (n : Int))), .ol [], .ol [], .un, .un, .un]
  refine w_forR (fun i ρ => ∃ (rs ls : List Lk) (y2 y4 y9 y10 y11 : Sl), ρ = [.fz (.list (ns.map .int)), .fz (.list (((List.range 24).map nb).map .str)), y2, .fz (.list (ends.map pairI)), y4, y5, .fz (.list (mn.map fun n : Nat => .int (n : Int))), .ol (rs.map lkD), .ol (ls.map lkD), y9, y10, y11] ∧ GI ends i rs ls)
    (ea_cons (ev_cb (ea_cons (ev_var rfl) ea_nil) cv_lenL) ea_nil) (by rw [List.length_map]; omega) ⟨[], [], _, _, _, _, _, rfl, rfl, (fun L h => nomatch h), (fun k h => absurd h (Nat.not_lt_zero _)), List.nodup_nil⟩ ?_ ?_
  · rintro i ρ hi ⟨rs, ls, y2, y4, y9, y10, y11, rfl, gi⟩
    rw [List.length_map] at hi
    have hil : i < ends.length := by omega
    have hi50 : i < 50 := by omega
    have hee : ends[i]? = some ends[i] := List.getElem?_eq_getElem hil
    have hina : ∀ p ∈ ends, p.1 < 24 ∧ p.2 < 24 := fun p hm => by
      rw [← he] at hm
      rcases List.mem_append.mp hm with hm | hm
      · exact grid_in _ hm
      · exact hx _ hm
    have hin : ends[i].1 < 24 ∧ ends[i].2 < 24 := hina _ (List.getElem_mem hil)
    generalize ends[i] = p at hee hin
    obtain ⟨pa, pb⟩ := p
    refine ⟨_, tg_name, ?_⟩
    obtain ⟨x, y, z, ed, hx0, hy0, hz0⟩ := below3 (drawM_below ns (2 + i % 20) [9, 30, 2] (by decide))
    refine w_asgT (d := .list [.int x, .int y, .int z]) ((EL.ev (el_call (α := List Int × Nat × List Int) (ns, 2 + i % 20, [9, 30, 2]) (ea_cons (ev_var rfl) (ea_cons ((ev_op ev_int (ev_op (ev_var rfl) ev_int (ov_ic (C := fun _ j => 0 < j) (g := fun i j => i % j) (by decide))) (ov_i (g := fun i j => i + j))).eq (int_eq (by show (2 : Int) + (i : Int) % 20 = ((2 + i % 20 : Nat) : Int); omega))) (ea_cons (EL.ev (el_lst (ea_cons ev_int (ea_cons ev_int (ea_cons ev_int ea_nil))))) ea_nil))) ⟨sz3, Nat.le_of_ble_eq_true rfl⟩)).eq ?_) (tg_lst (tgs_cons tg_name (tgs_cons tg_name (tgs_cons tg_name tgs_nil))) rfl) ?_
    · show PyData.list ((drawM ns (2 + i % 20) [9, 30, 2]).map .int) = _
      rw [ed]
      rfl
    dsimp only
    refine w_asg (ev_op (ev_op (ev_op (ev_var rfl) (ev_var rfl) (ov_i (g := fun i j => i + j))) ev_int (ov_ic (C := fun _ j => 0 < j) (g := fun i j => i % j) (by decide))) ev_int (ov_i (g := fun i j => i + j))) ?_
    dsimp only
    refine w_asg (ev_op (ev_op (ev_op (ev_var rfl) (ev_op ev_int (ev_var rfl) (ov_ic (C := CMul) (g := fun i j => i * j) (cmul_l (by decide)))) (ov_i (g := fun i j => i + j))) ev_int (ov_ic (C := fun _ j => 0 < j) (g := fun i j => i % j) (by decide))) ev_int (ov_i (g := fun i j => i + j))) ?_
    dsimp only
    generalize hM : (x + (i : Int)) % 9 + 1 = M
    generalize hD : (y + 7 * (i : Int)) % 30 + 1 = Dd
    have hM1 : 0 < M := by omega
    have hD1 : 0 < Dd := by omega
    show W _ F0 H0 _ [.fz (.list (ns.map .int)), .fz (.list (((List.range 24).map nb).map .str)), .fz (.int i), .fz (.list (ends.map pairI)), y4, y5, .fz (.list (mn.map fun n : Nat => .int (n : Int))), .ol (rs.map lkD), .ol (ls.map lkD), .fz (.int M), .fz (.int Dd), .fz (.int z)]
    have ae : atI (ends.map pairI) (i : Int) = some (pairI (pa, pb)) := at_nat (by rw [List.getElem?_map, hee]; rfl)
    have ab : ∀ {q : Nat}, q < 24 → atI (((List.range 24).map nb).map PyData.str) (q : Int) = some (.str (nb q)) := fun {q} hq => at_nat (by rw [List.getElem?_map, List.getElem?_map, List.getElem?_range hq]; rfl)
    refine w_asg (d := lkD ⟨lb i, nb pa, nb pb, M, Dd, 5, 5, 1⟩) (ev_tup (ea_cons (ev_op ev_str (ev_cb (ea_cons (ev_op ev_int (ev_var rfl) (ov_i (g := fun i j => i + j))) ea_nil) (cv_str (lb_log i hi50))) (ov_adds ?_))
      (ea_cons (ev_op (ev_var rfl) (ev_op (ev_op (ev_var rfl) (ev_var rfl) (ov_ixL ae)) ev_int (ov_ixT rfl)) (ov_ixL (ab hin.1))) (ea_cons (ev_op (ev_var rfl) (ev_op (ev_op (ev_var rfl) (ev_var rfl) (ov_ixL ae)) ev_int (ov_ixT rfl)) (ov_ixL (ab hin.2))) (ea_cons (ev_var rfl) (ea_cons (ev_var rfl) (ea_cons ev_int (ea_cons ev_int (ea_cons ev_int ea_nil))))))))) ?_
    · have := lb_small i hi50
      have h1 : ("l" : Str).length = 1 := by decide +kernel
      rw [h1]
      omega
    dsimp only
    have glen := gi.len
    refine w_if (et_test (ev_op (ev_var rfl) ev_int ov_eqi)) (fun _ => ?_) (fun _ => ?_)
    · refine w_app rfl (ev_var rfl) (by rw [List.length_map]; omega) (w_K ⟨rs ++ [⟨lb i, nb pa, nb pb, M, Dd, 5, 5, 1⟩], ls, .fz (.int i), .fz (lkD ⟨lb i, nb pa, nb pb, M, Dd, 5, 5, 1⟩), .fz (.int M), .fz (.int Dd), .fz (.int z), ?_, gi.add (L := ⟨lb i, nb pa, nb pb, M, Dd, 5, 5, 1⟩) (p := (pa, pb)) hi50 hee rfl rfl rfl hM1 hD1 ?_⟩)
      · rw [map_snocLk]
        rfl
      · rw [List.append_assoc]
        exact List.perm_middle
    · refine w_app rfl (ev_var rfl) (by rw [List.length_map]; omega) (w_K ⟨rs, ls ++ [⟨lb i, nb pa, nb pb, M, Dd, 5, 5, 1⟩], .fz (.int i), .fz (lkD ⟨lb i, nb pa, nb pb, M, Dd, 5, 5, 1⟩), .fz (.int M), .fz (.int Dd), .fz (.int z), ?_, gi.add (L := ⟨lb i, nb pa, nb pb, M, Dd, 5, 5, 1⟩) (p := (pa, pb)) hi50 hee rfl rfl rfl hM1 hD1 ?_⟩)
      · rw [map_snocLk]
        rfl
      · rw [← List.append_assoc]
        exact List.perm_append_comm
  · rintro ρ ⟨rs, ls, y2, y4, y9, y10, y11, rfl, gi⟩
    have e2 : (((ends.map pairI).length : Int)).toNat = ends.length := by rw [List.length_map]; omega
    rw [e2] at gi
    dsimp only
    refine w_freeze 7 rfl rfl ?_
    refine w_freeze 8 rfl rfl ?_
    exact w_ret (d := cnD ⟨(List.range 24).map nb, rs, ls⟩) (ev_tup (ea_cons (ev_cb (ea_cons (ev_var rfl) ea_nil) cv_tupleL) (ea_cons (ev_cb (ea_cons (ev_var rfl) ea_nil) cv_tupleL) (ea_cons (ev_cb (ea_cons (ev_var rfl) ea_nil) cv_tupleL) ea_nil)))) fun v F' H' g r => hQ _ v F' H' ⟨_, GI.great he.symm hx hel gi, rfl⟩ g r
end
end Kx


set_option maxHeartbeats 4000000
namespace Kx
open PySem L2 DL
/-! ### the great canal is one piece -/
section
variable {C : Cn} (g : GreatOk C)
theorem GreatOk.back {k j : Nat} {L : Lk} {s : Str} (hk : k < 24) (hj : j < 24) (ne : j ≠ k) (hL : L ∈ C.lks) (ha : L.a = nb j) (hb : L.b = nb k) (r : Reach C.lks s (nb k)) : Reach C.lks s (nb j) := by
  have e : far L (nb k) = nb j := by
    unfold far
    rw [if_neg (fun z => ne (nb_inj hj hk (ha.symm.trans z))), ha]
  exact e ▸ Reach.step r hL (touch_iff.mpr (.inr hb.symm))
theorem GreatOk.forth {k j : Nat} {L : Lk} {s : Str} (hL : L ∈ C.lks) (ha : L.a = nb j) (hb : L.b = nb k) (r : Reach C.lks s (nb j)) : Reach C.lks s (nb k) := by
  have e : far L (nb j) = nb k := by
    unfold far
    rw [if_pos ha, hb]
  exact e ▸ Reach.step r hL (touch_iff.mpr (.inl ha.symm))
include g
theorem GreatOk.to0 {s : Str} (k : Nat) : k < 24 → Reach C.lks s (nb k) → Reach C.lks s (nb 0) := by
  induction k using Nat.strongRecOn with
  | _ k ih =>
    intro hk r
    by_cases h0 : k = 0
    · subst h0; exact r
    · by_cases h6 : k % 6 = 0
      · obtain ⟨L, hL, ha, hb⟩ := g.h2 k hk (by omega)
        exact ih (k - 6) (by omega) (by omega) (GreatOk.back hk (by omega) (by omega) hL ha hb r)
      · obtain ⟨L, hL, ha, hb⟩ := g.h1 k hk h6
        exact ih (k - 1) (by omega) (by omega) (GreatOk.back hk (by omega) (by omega) hL ha hb r)
theorem GreatOk.of0 {s : Str} (h0 : Reach C.lks s (nb 0)) (k : Nat) : k < 24 → Reach C.lks s (nb k) := by
  induction k using Nat.strongRecOn with
  | _ k ih =>
    intro hk
    by_cases h0' : k = 0
    · subst h0'; exact h0
    · by_cases h6 : k % 6 = 0
      · obtain ⟨L, hL, ha, hb⟩ := g.h2 k hk (by omega)
        exact GreatOk.forth hL ha hb (ih (k - 6) (by omega) (by omega))
      · obtain ⟨L, hL, ha, hb⟩ := g.h1 k hk h6
        exact GreatOk.forth hL ha hb (ih (k - 1) (by omega) (by omega))
theorem GreatOk.mem {x : Str} : x ∈ C.bs ↔ ∃ k < 24, x = nb k := by
  rw [g.bs, List.mem_map]
  constructor
  · rintro ⟨k, hk, rfl⟩; exact ⟨k, List.mem_range.mp hk, rfl⟩
  · rintro ⟨k, hk, rfl⟩; exact ⟨k, List.mem_range.mpr hk, rfl⟩
theorem GreatOk.conn {s x : Str} (hs : s ∈ C.bs) (hx : x ∈ C.bs) : Reach C.lks s x := by
  obtain ⟨i, hi, rfl⟩ := g.mem.mp hs
  obtain ⟨j, hj, rfl⟩ := g.mem.mp hx
  exact g.of0 (g.to0 i hi .refl) j hj
theorem GreatOk.up : C.bs.Pairwise (fun a b => a.cps.toList ≤ b.cps.toList) := by
  rw [g.bs]
  decide +kernel
theorem GreatOk.reach {s : Str} (hs : s ∈ C.bs) : C.reach s = C.bs := by
  unfold Cn.reach reachL
  have e : C.bs.filter (reachB C.lks s) = C.bs := List.filter_eq_self.mpr fun x hx => reachB_iff.mpr (g.conn hs hx)
  rw [e]
  exact sortS_id g.up
theorem GreatOk.pieces : piecesM C.reach C.bs = [C.bs] := by
  have h : ∀ names : List Str, (∀ n ∈ names, n ∈ C.bs) → names.foldl (fun rows n => if rows.any (fun r => hasS r n) then rows else rows ++ [C.reach n]) [C.bs] = [C.bs] := by
    intro names
    induction names with
    | nil => intro _; rfl
    | cons a xs ih =>
      intro hh
      rw [List.foldl_cons, if_pos]
      · exact ih fun n hn => hh n (List.mem_cons_of_mem _ hn)
      · simp only [List.any_cons, List.any_nil, Bool.or_false]
        exact hasS_iff.mpr (hh a List.mem_cons_self)
  unfold piecesM
  obtain ⟨b, bs, e⟩ : ∃ b bs, C.bs = b :: bs := by
    rw [g.bs]
    exact ⟨_, _, rfl⟩
  have hb : C.reach b = C.bs := g.reach (by rw [e]; exact List.mem_cons_self)
  have e2 : List.foldl (fun rows n => if (rows.any fun r => hasS r n) = true then rows else rows ++ [C.reach n]) [] C.bs = List.foldl (fun rows n => if (rows.any fun r => hasS r n) = true then rows else rows ++ [C.reach n]) [] (b :: bs) := by rw [← e]
  rw [e2, List.foldl_cons, if_neg (by simp), hb]
  exact h bs fun n hn => by rw [e]; exact List.mem_cons_of_mem _ hn
theorem GreatOk.lab_inj {L M : Lk} (hL : L ∈ C.lks) (hM : M ∈ C.lks) (e : L.lab = M.lab) : L = M := by
  have h := g.lab
  have hL := mem_lks.mp hL
  have hM := mem_lks.mp hM
  generalize C.rs ++ C.ls = ls at h hL hM
  induction ls with
  | nil => cases hL
  | cons N ls ih =>
    rw [List.map_cons, List.nodup_cons] at h
    rcases List.mem_cons.mp hL with e1 | h1
    · rcases List.mem_cons.mp hM with e2 | h2
      · rw [e1, e2]
      · exact absurd (List.mem_map.mpr ⟨M, h2, by rw [← e, e1]⟩) h.1
    · rcases List.mem_cons.mp hM with e2 | h2
      · exact absurd (List.mem_map.mpr ⟨L, h1, by rw [e, e2]⟩) h.1
      · exact ih h.2 h1 h2
theorem GreatOk.one {L : Lk} (hL : L ∈ C.lks) : C.lks.filter (fun M : Lk => decide (M.lab = L.lab)) = [L] := by
  have hn : (C.lks.map fun L : Lk => L.lab).Nodup := ((lks_perm C).map _).nodup_iff.mpr g.lab
  have key : ∀ ls : List Lk, (ls.map fun L : Lk => L.lab).Nodup → L ∈ ls → ls.filter (fun M : Lk => decide (M.lab = L.lab)) = [L] := by
    intro ls
    induction ls with
    | nil => intro _ h; cases h
    | cons N ls ih =>
      intro hnd hm
      rw [List.map_cons, List.nodup_cons] at hnd
      rw [List.filter_cons]
      rcases List.mem_cons.mp hm with rfl | hm
      · rw [if_pos (decide_eq_true rfl)]
        congr 1
        refine List.filter_eq_nil_iff.mpr fun M hM => ?_
        intro z
        exact hnd.1 (List.mem_map.mpr ⟨M, hM, of_decide_eq_true z⟩)
      · rw [if_neg]
        · exact ih hnd.2 hm
        · intro z
          exact hnd.1 (List.mem_map.mpr ⟨L, hm, (of_decide_eq_true z).symm⟩)
  exact key _ hn hL
/-- the deep side -/
theorem GreatOk.side {s : Str} (hs : s ∈ C.bs) {ky : Str → Option (List Lk)} (hb : Best wle C.lks s ky) : (C.keep (deepL C.lks 12)).reach s = C.bs.filter fun x => decide (12 ≤ ((ky x).map wid).getD 0) := by
  have hm : ∀ L, L ∈ (C.keep (deepL C.lks 12)).lks ↔ L ∈ C.lks ∧ 12 ≤ L.d := fun L => by
    rw [keep_mem]
    constructor
    · rintro ⟨h1, h2⟩
      refine ⟨h1, ?_⟩
      obtain ⟨M, hM, e⟩ := List.mem_map.mp h2
      obtain ⟨hM, hd⟩ := List.mem_filter.mp hM
      rw [g.lab_inj h1 hM e.symm]
      exact of_decide_eq_true hd
    · rintro ⟨h1, h2⟩
      exact ⟨h1, List.mem_map.mpr ⟨L, List.mem_filter.mpr ⟨h1, decide_eq_true h2⟩, rfl⟩⟩
  have wo : ∀ {ls ls' : List Lk} {r : List Lk} {x : Str}, Walk ls s r x → (∀ L ∈ r, L ∈ ls') → Walk ls' s r x := by
    intro ls ls' r x w
    induction w with
    | nil => intro _; exact .nil
    | snoc w m t ih => intro h; exact .snoc (ih fun L hL => h L (List.mem_append_left _ hL)) (h _ (List.mem_append_right _ (List.mem_singleton.mpr rfl))) t
  have e : reachL C.bs (C.keep (deepL C.lks 12)).lks s = C.bs.filter fun x => decide (12 ≤ ((ky x).map wid).getD 0) := by
    unfold reachL
    refine List.filter_congr fun x hx => ?_
    rw [Bool.eq_iff_iff, reachB_iff, decide_eq_true_iff]
    constructor
    · intro r
      obtain ⟨r, w⟩ := r.walk
      obtain ⟨r', e', l'⟩ := hb.bt x r (wo w fun L hL => ((hm L).mp (w.mem L hL)).1)
      rw [e']
      have h12 : 12 ≤ wid r := le_wid.mpr ⟨by decide, fun L hL => ((hm L).mp (w.mem L hL)).2⟩
      exact Int.le_trans h12 l'
    · intro h
      cases hk : ky x with
      | none => rw [hk] at h; exact absurd h (by decide)
      | some r =>
        rw [hk] at h
        have h12 : 12 ≤ wid r := h
        have w := hb.wk x r hk
        exact (wo w fun L hL => (hm L).mpr ⟨w.mem L hL, (le_wid.mp h12).2 L hL⟩).reach
  show sortS (reachL C.bs (C.keep (deepL C.lks 12)).lks s) = _
  rw [e]
  exact sortS_id (g.up.sublist List.filter_sublist)
end
/-- where a way leads -/
def pos (s : Str) (r : List Lk) : Str := r.foldl (fun x L => far L x) s
theorem pos_snoc (s : Str) (r : List Lk) (L : Lk) : pos s (r ++ [L]) = far L (pos s r) := by
  unfold pos
  rw [List.foldl_append]
  rfl
theorem Walk.at {ls : List Lk} {s x : Str} {r : List Lk} (h : Walk ls s r x) : x = pos s r ∧ ∀ i L, r[i]? = some L → L ∈ ls ∧ touch L (pos s (r.take i)) = true := by
  induction h with
  | nil => exact ⟨rfl, fun i L h => by simp at h⟩
  | @snoc r x L h m t ih =>
    obtain ⟨e, ih⟩ := ih
    refine ⟨by rw [pos_snoc, ← e], fun i M hM => ?_⟩
    by_cases hi : i < r.length
    · rw [List.getElem?_append_left hi] at hM
      rw [List.take_append_of_le_length (Nat.le_of_lt hi)]
      exact ih i M hM
    · have hl := (List.getElem?_eq_some_iff.mp hM).1
      rw [List.length_append, List.length_singleton] at hl
      have : i = r.length := by omega
      subst this
      rw [List.getElem?_concat_length] at hM
      cases hM
      rw [List.take_left', ← e]
      · exact ⟨m, t⟩
      · rfl
theorem okD_strs : ∀ ss : List Str, okAll (ss.map PyData.str) = true
  | [] => rfl
  | s :: ss => by
    rw [List.map_cons]
    show (okD (.str s) && okAll (ss.map PyData.str)) = true
    rw [okD_strs ss]
    rfl
theorem depth_strs : ∀ ss : List Str, PyData.depthAll (ss.map PyData.str) = 0
  | [] => by simp [PyData.depthAll]
  | s :: ss => by
    rw [List.map_cons]
    simp only [PyData.depthAll, PyData.depth, depth_strs ss]
    rfl
theorem okD_row {r : List Str} (h : r.length ≤ 50000) : okD (rowD r) = true := by
  show (decide ((r.map PyData.str).length ≤ 50000) && okAll (r.map PyData.str)) = true
  rw [okD_strs, List.length_map, decide_eq_true h]
  rfl
theorem depth_row (r : List Str) : (rowD r).depth = 1 := by
  show (PyData.list _).depth = 1
  simp only [PyData.depth, depth_strs]
theorem okD_rows {α : Type} (f : α → PyData) : ∀ {rs : List α}, (∀ r ∈ rs, okD (f r) = true) → okAll (rs.map f) = true
  | [], _ => rfl
  | r :: rs, h => by
    rw [List.map_cons]
    show (okD (f r) && okAll (rs.map f)) = true
    rw [h r List.mem_cons_self, okD_rows f fun x hx => h x (List.mem_cons_of_mem _ hx)]
    rfl
theorem depth_rows {α : Type} (f : α → PyData) (n : Nat) : ∀ {rs : List α}, (∀ r ∈ rs, (f r).depth ≤ n) → PyData.depthAll (rs.map f) ≤ n
  | [], _ => by simp [PyData.depthAll]
  | r :: rs, h => by
    rw [List.map_cons]
    simp only [PyData.depthAll]
    exact Nat.max_le.mpr ⟨h r List.mem_cons_self, depth_rows f n fun x hx => h x (List.mem_cons_of_mem _ hx)⟩
theorem okD_list {α : Type} (f : α → PyData) {rs : List α} (hl : rs.length ≤ 50000) (h : ∀ r ∈ rs, okD (f r) = true) (hd : ∀ r ∈ rs, (f r).depth ≤ 1) : okD (.list (rs.map f)) = true ∧ (PyData.list (rs.map f)).depth < 3 := by
  refine ⟨?_, ?_⟩
  · show (decide ((rs.map f).length ≤ 50000) && okAll (rs.map f)) = true
    rw [okD_rows f h, List.length_map, decide_eq_true hl]
    rfl
  · have := depth_rows f 1 hd
    simp only [PyData.depth]
    omega
theorem piecesM_mem {rf : Str → List Str} {r : List Str} : ∀ {names : List Str}, r ∈ piecesM rf names → ∃ n ∈ names, r = rf n := by
  have h : ∀ (names : List Str) (acc : List (List Str)), r ∈ names.foldl (fun rows n => if rows.any (fun r => hasS r n) then rows else rows ++ [rf n]) acc → r ∈ acc ∨ ∃ n ∈ names, r = rf n := by
    intro names
    induction names with
    | nil => intro acc h; exact .inl h
    | cons a xs ih =>
      intro acc h
      rw [List.foldl_cons] at h
      rcases ih _ h with h | ⟨n, hn, e⟩
      · split at h
        · exact .inl h
        · rcases List.mem_append.mp h with h | h
          · exact .inl h
          · exact .inr ⟨a, List.mem_cons_self, List.mem_singleton.mp h⟩
      · exact .inr ⟨n, List.mem_cons_of_mem _ hn, e⟩
  intro names hr
  rcases h names [] hr with h | h
  · cases h
  · exact h
theorem strs_exist {ds : List PyData} {p : Str → Prop} (h : ∀ d ∈ ds, ∃ s, d = .str s ∧ p s) : ∃ ss : List Str, ds = ss.map .str ∧ ∀ s ∈ ss, p s := by
  induction ds with
  | nil => exact ⟨[], rfl, fun _ h => nomatch h⟩
  | cons d ds ih =>
    obtain ⟨s, rfl, hp⟩ := h d List.mem_cons_self
    obtain ⟨ss, rfl, hs⟩ := ih fun d hd => h d (List.mem_cons_of_mem _ hd)
    refine ⟨s :: ss, rfl, fun t ht => ?_⟩
    rcases List.mem_cons.mp ht with rfl | ht
    · exact hp
    · exact hs t ht
theorem less_mem {C : Cn} {out : List Str} {L : Lk} : L ∈ (C.less out).lks ↔ L ∈ C.lks ∧ L.lab ∉ out := by
  unfold Cn.less
  rw [keep_mem]
  constructor
  · rintro ⟨h1, h2⟩
    obtain ⟨M, hM, e⟩ := List.mem_map.mp h2
    obtain ⟨hM, hd⟩ := List.mem_filter.mp hM
    refine ⟨h1, ?_⟩
    rw [← e]
    exact hasS_not.mp (by simpa using hd)
  · rintro ⟨h1, h2⟩
    refine ⟨h1, List.mem_map.mpr ⟨L, List.mem_filter.mpr ⟨h1, ?_⟩, rfl⟩⟩
    rw [hasS_not.mpr h2]
    rfl
end Kx


set_option maxHeartbeats 4000000
namespace Kx
open PySem L2 DL
theorem below4 {ds : List Int} {a b c e : Int} (h : Below ds [a, b, c, e]) : ∃ x y z u, ds = [x, y, z, u] ∧ (0 ≤ x ∧ x < a) ∧ (0 ≤ y ∧ y < b) ∧ (0 ≤ z ∧ z < c) ∧ 0 ≤ u := by
  match ds, h with
  | [x, y, z, u], ⟨h1, h2, h3, h4, _⟩ => exact ⟨x, y, z, u, rfl, h1, h2, h3, h4.1⟩
theorem sz4 : ∀ s ∈ [(3 : Int), 24, 24, 7], 0 < s ∧ s < 1000000 := by decide
theorem eqv_ints (m n : Int) : PyData.eqv (.tuple [.int m, .int n]) (.tuple [.int m, .int n]) = true := by simp [PyData.eqv, PyData.eqvAll]
theorem filt_all {α : Type} (l : List α) : l.filter (fun _ => true) = l := List.filter_eq_self.mpr fun _ _ => rfl
section
variable {P : Program} {w : World} {K : PySem.W.Frag} {mg : Str → Option Value} {base : Heap}
theorem U_lawF (T : Tx K mg) {f : Addr} {fd : FuncData} (F : FunD K "law" "law" (defArgs stLaw) (defBody stLaw) (defScope stLaw) [] [] f fd) : FnOk P w K mg base CX0 6 f fd ["script"] (spV K (fun ns : List Int => [.list (ns.map .int)]) (fun _ => True) fun _ => .bool true) := by
  have ULawDraw := U_draw (P := P) (w := w) (base := base) T.toTl
  have ULawGreat := U_law_great (P := P) (w := w) (base := base) T
  have ULawLinks := U_law_links (P := P) (w := w) (base := base) T
  have ULawFar := U_law_far (P := P) (w := w) (base := base) T
  have ULawNear := U_law_near (P := P) (w := w) (base := base) T
  have ULawLeast := U_law_least (P := P) (w := w) (base := base) T
  have ULawDeepest := U_law_deepest (P := P) (w := w) (base := base) T
  have ULawStrictly := U_strictly (P := P) (w := w) (base := base) T.toTl 3
  have UMinutesFrom := U_minutes_from (P := P) (w := w) (base := base) T
  have ULeastRoute := U_least_route (P := P) (w := w) (base := base) T
  have USplitBy := U_split_by (P := P) (w := w) (base := base) T
  have UPieces := U_pieces (P := P) (w := w) (base := base) T
  have UIsJoined := U_is_joined (P := P) (w := w) (base := base) T
  have UGreatestDepth := U_greatest_depth (P := P) (w := w) (base := base) T
  have UDeepSide := U_deep_side (P := P) (w := w) (base := base) T
  have nd := scLaw.nd
  refine fn_V F scLaw (fun _ => rfl) fun cdv A outer st H E hr => ⟨_,
    (pss_cons (ps_asg (pe_use ULawDraw hr (pa_cons (pv 0) (pa_cons pe_int (pa_cons (pe_lst (pa_cons pe_int (pa_cons pe_int (pa_cons pe_int (pa_cons pe_int pa_nil))))) pa_nil)))) (pg_lst rfl (pgs_cons (pg_name (i := 1) nd rfl (.inl rfl)) (pgs_cons (pg_name (i := 2) nd rfl (.inl rfl)) (pgs_cons (pg_name (i := 3) nd rfl (.inl rfl)) (pgs_cons (pg_name (i := 4) nd rfl (.inr rfl)) pgs_nil))))))
      (pss_cons (ps_set (i := 5) nd rfl (.inl rfl) (pe_use ULawGreat hr (pa_cons (pv 0) pa_nil)))
      (pss_cons (ps_set (i := 6) nd rfl (.inr rfl) (pe_use ULawLinks hr (pa_cons (pv 5) pa_nil)))
      (pss_cons (ps_set (i := 7) nd rfl (.inl rfl) (pe_ix (ixT K) (pe_ix (ixT K) (pv 5) pe_int (fun _ _ => rfl)) (pv 2) (fun _ _ => rfl)))
      (pss_cons (ps_set (i := 8) nd rfl (.inl rfl) (pe_ix (ixT K) (pe_ix (ixT K) (pv 5) pe_int (fun _ _ => rfl)) (pv 3) (fun _ _ => rfl)))
      (pss_cons (ps_if (pt_cmpR op_eq (pv 1) pe_int (nomark _)) (pss_cons (ps_set (i := 9) nd rfl (.inr rfl) (pe_use ULawLeast hr (pa_cons (pv 6) (pa_cons (pv 7) pa_nil))))
      (pss_cons (ps_if (pt_not (pt_val (pe_use ULawStrictly hr (pa_cons (pe_lc (tt := tYes) (g := gName 10) (own := [("name", 10)]) rfl nd (pi_tup (pe_ix (ixT K) (pv 5) pe_int (fun _ _ => rfl))) (blkOk_by (N := NLaw) (sc := defScope stLaw) (by decide +kernel)) (fun _ _ _ _ _ => (pg_name (i := 10) nd rfl (.inl rfl))) (fun _ _ _ _ _ => pts_nil) (fun _ _ _ _ _ => (pe_tup (pa_cons (pv 10) (pa_cons (pe_ix (ixT K) (pe_dget (hu_of hr) (pv 9) (pv 10) (fun _ _ => rfl)) pe_int (fun _ _ => rfl)) pa_nil))))) (pa_cons (pe_use UMinutesFrom hr (pa_cons (pv 5) (pa_cons (pv 7) pa_nil))) pa_nil))))) (pss_one (ps_ret pe_bl)) pss_nil)
      (pss_cons (ps_set (i := 11) nd rfl (.inl rfl) (pe_use ULeastRoute hr (pa_cons (pv 5) (pa_cons (pv 7) (pa_cons (pv 8) pa_nil)))))
      (pss_cons (ps_set (i := 12) nd rfl (.inl rfl) (pv 7))
      (pss_cons (ps_set (i := 13) nd rfl (.inl rfl) pe_int)
      (pss_cons (ps_for PassesOwn.never rfl (pi_list (pv 11)) (pg_name (i := 14) nd rfl (.inr rfl)) (pss_cons (ps_set (i := 16) nd rfl (.inl rfl) (pe_ix (ixL K) (pe_lc (g := gName 15) (own := [("row", 15)]) rfl nd (pi_list (pv 6)) (blkOk_by (N := NLaw) (sc := defScope stLaw) (by decide +kernel)) (fun _ _ _ _ _ => (pg_name (i := 15) nd rfl (.inl rfl))) (fun _ _ _ _ _ => (pts_one (pt_cmpR op_eq (pe_ix (ixT K) (pv 15) pe_int (fun _ _ => rfl)) (pv 14) (nomark _)))) (fun _ _ _ _ _ => (pv 15))) pe_int (fun _ _ => rfl)))
      (pss_cons (ps_if (pt_cmpR (notInSq K) (pv 12) (pe_slice (slTA K) (pv 16) (po_some pe_int) (po_some pe_int)) rfl) (pss_one (ps_ret pe_bl)) pss_nil)
      (pss_cons (ps_set (i := 13) nd rfl (.inl rfl) (pe_op op_add (pv 13) (pe_ix (ixT K) (pv 16) pe_int (fun _ _ => rfl))))
      (pss_one (ps_set (i := 12) nd rfl (.inl rfl) (pe_use ULawFar hr (pa_cons (pv 16) (pa_cons (pv 12) pa_nil)))))))))
      (pss_one (ps_ret (pe_and (pe_cmpR op_eq (pv 12) (pv 8) (nomark _)) (pe_one (pe_cmpR (eqDK K hr) (pe_tup (pa_cons (pv 13) (pa_cons (pe_callB (lenSq K) (by rfl) T.m_len (by decide +kernel) (pa_cons (pv 11) pa_nil)) pa_nil))) (pe_dget (hu_of hr) (pv 9) (pv 8) (fun _ _ => rfl)) (nomark _)))))))))))) pss_nil)
      (pss_cons (ps_if (pt_cmpR op_eq (pv 1) pe_int (nomark _)) (pss_cons (ps_set (i := 18) nd rfl (.inr rfl) (pe_lc (g := gName 17) (own := [("at", 17)]) rfl nd (pi_range1 (by rfl) T.m_range (pa_cons (pe_callB (lenSq K) (by rfl) T.m_len (by decide +kernel) (pa_cons (pv 6) pa_nil)) pa_nil)) (blkOk_by (N := NLaw) (sc := defScope stLaw) (by decide +kernel)) (fun _ _ _ _ _ => (pg_name (i := 17) nd rfl (.inl rfl))) (fun _ _ _ _ _ => (pts_one (PW.pt (pw_and (pt_cmpR op_ne (pe_op op_mod (pv 17) pe_int) (pv 4) (nomark _)) (pw_and1 (pt_cmpR op_ne (pe_op op_mod (pv 17) pe_int) pe_int (nomark _))))))) (fun _ _ _ _ _ => (pe_ix (ixT K) (pe_ix (ixL K) (pv 6) (pv 17) (fun _ _ => rfl)) pe_int (fun _ _ => rfl)))))
      (pss_cons (ps_setLc (i := 19) (g := gName 16) (own := [("link", 16)]) rfl nd rfl rfl (sw_true rfl rfl rfl (by decide +kernel)) (pi_list (pv 6)) (blkOk_by (N := NLaw) (sc := defScope stLaw) (by decide +kernel)) (fun _ _ _ _ _ => (pg_name (i := 16) nd rfl (.inl rfl))) (fun _ _ _ _ _ => (pts_one (pt_cmpR (notInSq K) (pe_ix (ixT K) (pv 16) pe_int (fun _ _ => rfl)) (pv 18) rfl))) (fun _ _ _ _ _ => (pv 16)))
      (pss_cons (ps_set (i := 20) nd rfl (.inl rfl) (pe_lst pa_nil))
      (pss_cons (ps_for PassesOwn.never rfl (pi_tup (pe_ix (ixT K) (pv 5) pe_int (fun _ _ => rfl))) (pg_name (i := 10) nd rfl (.inr rfl)) (pss_one (ps_if (pt_cmpR op_eq (pe_callB (lenSq K) (by rfl) T.m_len (by decide +kernel) (pa_cons (pe_lc (g := gName 21) (own := [("part", 21)]) rfl nd (pi_list (pv 20)) (blkOk_by (N := NLaw) (sc := defScope stLaw) (by decide +kernel)) (fun _ _ _ _ _ => (pg_name (i := 21) nd rfl (.inl rfl))) (fun _ _ _ _ _ => (pts_one (pt_cmpR (inSq K) (pv 10) (pv 21) rfl))) (fun _ _ _ _ _ => (pv 21))) pa_nil)) pe_int (nomark _)) (pss_one (ps_expr (pe_bm PySem.F.plainAttrs_list PySem.F.slot_list_append PySem.F.type_list_append mt_append (pv 20) (pa_cons (pe_use ULawNear hr (pa_cons (pv 19) (pa_cons (pv 10) pa_nil))) pa_nil)))) pss_nil)))
      (pss_cons (ps_if (PW.pt (pw_or (pt_not (pt_val (pe_use ULawStrictly hr (pa_cons (pv 20) (pa_cons (pe_use USplitBy hr (pa_cons (pv 5) (pa_cons (pv 18) pa_nil))) pa_nil))))) (pw_or1 (pt_not (pt_val (pe_use ULawStrictly hr (pa_cons (pe_lst (pa_cons (pe_callTy (listOf K) (by rfl) T.m_list (by decide +kernel) (pa_cons (pe_ix (ixT K) (pv 5) pe_int (fun _ _ => rfl)) pa_nil)) pa_nil)) (pa_cons (pe_use UPieces hr (pa_cons (pv 5) pa_nil)) pa_nil)))))))) (pss_one (ps_ret pe_bl)) pss_nil)
      (pss_one (ps_ret (pe_cmpR op_isBl (pe_use UIsJoined hr (pa_cons (pv 5) (pa_cons (pv 7) (pa_cons (pv 8) pa_nil)))) pe_bl (nomark _))))))))) pss_nil)
      (pss_cons (ps_set (i := 22) nd rfl (.inr rfl) (pe_use ULawDeepest hr (pa_cons (pv 6) (pa_cons (pv 7) pa_nil))))
      (pss_cons (ps_if (pt_not (pt_val (pe_use ULawStrictly hr (pa_cons (pe_dget (hu_of hr) (pv 22) (pv 8) (fun _ _ => rfl)) (pa_cons (pe_use UGreatestDepth hr (pa_cons (pv 5) (pa_cons (pv 7) (pa_cons (pv 8) pa_nil)))) pa_nil))))) (pss_one (ps_ret pe_bl)) pss_nil)
      (pss_one (ps_ret (pe_use ULawStrictly hr (pa_cons (pe_lc (g := gName 10) (own := [("name", 10)]) rfl nd (pi_tup (pe_ix (ixT K) (pv 5) pe_int (fun _ _ => rfl))) (blkOk_by (N := NLaw) (sc := defScope stLaw) (by decide +kernel)) (fun _ _ _ _ _ => (pg_name (i := 10) nd rfl (.inl rfl))) (fun _ _ _ _ _ => (pts_one (pt_cmpR op_ge (pe_dget (hu_of hr) (pv 22) (pv 10) (fun _ _ => rfl)) pe_int (nomark _)))) (fun _ _ _ _ _ => (pv 10))) (pa_cons (pe_use UDeepSide hr (pa_cons (pv 5) (pa_cons (pv 7) (pa_cons pe_int pa_nil)))) pa_nil))))))))))))))
    , fun F0 H0 ns Q hp hQ => ?_⟩
  obtain ⟨wh, fi, se, ma, ed, hwh, hfi, hse, hma⟩ := below4 (drawM_below ns 0 [3, 24, 24, 7] (by decide))
  refine w_asgT (d := .list [.int wh, .int fi, .int se, .int ma]) ((EL.ev (el_call (α := List Int × Nat × List Int) (ns, 0, [3, 24, 24, 7]) (ea_cons (ev_var rfl) (ea_cons ev_int (ea_cons (EL.ev (el_lst (ea_cons ev_int (ea_cons ev_int (ea_cons ev_int (ea_cons ev_int ea_nil)))))) ea_nil))) ⟨sz4, Nat.le_of_ble_eq_true rfl⟩)).eq ?_) (tg_lst (tgs_cons tg_name (tgs_cons tg_name (tgs_cons tg_name (tgs_cons tg_name tgs_nil)))) rfl) ?_
  · show PyData.list ((drawM ns 0 [3, 24, 24, 7]).map .int) = _
    rw [ed]
    rfl
  dsimp only
  refine w_asgR (evr_call (α := List Int) ns (ea_cons (ev_var rfl) ea_nil) trivial) ?_
  rintro d ⟨C, gr, rfl⟩
  dsimp only
  have g := gr.good
  have hnb := g.nb
  have hnl := lks_len g.toOk
  refine w_asg (EL.ev (el_call (α := Cn) C (ea_cons (ev_var rfl) ea_nil) g.toOk)) ?_
  dsimp only
  have ab : ∀ {q : Int}, 0 ≤ q → q < 24 → ∃ s, s ∈ C.bs ∧ atI (C.bs.map PyData.str) q = some (.str s) := fun {q} h0 h1 => by
    refine ⟨nb q.toNat, gr.mem.mpr ⟨q.toNat, by omega, rfl⟩, ?_⟩
    have e : q = (q.toNat : Int) := by omega
    rw [e]
    refine at_nat ?_
    rw [gr.bs, List.getElem?_map, List.getElem?_map, List.getElem?_range (by omega)]
    rfl
  obtain ⟨s, hs, es⟩ := ab hfi.1 hfi.2
  obtain ⟨t, ht, et⟩ := ab hse.1 hse.2
  refine w_asg (ev_op (ev_op (ev_var rfl) ev_int (ov_ixT rfl)) (ev_var rfl) (ov_ixT es)) ?_
  dsimp only
  refine w_asg (ev_op (ev_op (ev_var rfl) ev_int (ov_ixT rfl)) (ev_var rfl) (ov_ixT et)) ?_
  dsimp only
  show W _ F0 H0 _ [.fz (.list (ns.map .int)), .fz (.int wh), .fz (.int fi), .fz (.int se), .fz (.int ma), .fz (cnD C), .fz (.list (C.lks.map lkD)), .fz (.str s), .fz (.str t), .un, .un, .un, .un, .un, .un, .un, .un, .un, .un, .un, .un, .un, .un]
  refine w_if (et_test (ev_op (ev_var rfl) ev_int ov_eqi)) (fun _ => ?_) (fun _ => w_next ?_)
  · /- the least ways -/
    refine w_asgR (EDR.evr (edr_call (α := Cn × Str) (C, s) (ea_cons (ev_var rfl) (ea_cons (ev_var rfl) ea_nil)) ⟨g, gr.pos, hs⟩)) ?_
    rintro d ⟨kvs, ⟨ky, hb, rep⟩, rfl⟩
    dsimp only at hb
    dsimp only
    have hall : ∀ x ∈ C.bs, ∃ r, ky x = some r ∧ leastM C.lks s x = some (mins r, r.length) := fun x hx => by
      obtain ⟨r, wr⟩ := (gr.conn hs hx).walk
      obtain ⟨r', e', _⟩ := hb.bt x r wr
      exact ⟨r', e', by rw [← hb.is x, e']; rfl⟩
    have okE := okD_list (fun x : Str => pairD x ((leastM C.lks s x).getD (0, 0)).1) (rs := C.bs) (by omega) (fun _ _ => by simp [okD, okAll]) (fun _ _ => by simp [PyData.depth, PyData.depthAll])
    refine w_if (b := false) (et_not (b := true) (et_B (ev_call (α := PyData) (.list (C.bs.map fun x => pairD x ((leastM C.lks s x).getD (0, 0)).1)) (ea_cons ((EL.ev (el_lcT (j := 10) PyData.str C.bs (fun _ => true) (fun x => pairD x ((leastM C.lks s x).getD (0, 0)).1) (ev_op (ev_var rfl) ev_int (ov_ixT rfl)) (by omega) (fun _ _ => et_yes) (fun x hx _ => ?_))).eq ?_) (ea_cons ((EL.ev (el_call (α := Cn × Str) (C, s) (ea_cons (ev_var rfl) (ea_cons (ev_var rfl) ea_nil)) ⟨g, gr.pos, hs⟩)).eq ?_) ea_nil)) okE))) (fun e => nomatch e) (fun _ => w_next ?_)
    · obtain ⟨r, e1, e2⟩ := hall x hx
      refine ev_tup (ea_cons (ev_var rfl) (ea_cons ((ev_op (ev_dget (k := .inr x) (ev_var rfl) (ev_var rfl) ((rep x).trans (congrArg (Option.map pE) e1))) ev_int (ov_ixT rfl)).eq ?_) ea_nil))
      rw [e2]
      rfl
    · rw [filt_all]
    · show PyData.list _ = _
      congr 1
      show (C.bs.filter fun x => (leastM C.lks s x).isSome).map _ = _
      rw [List.filter_eq_self.mpr fun x hx => by
        obtain ⟨r, _, e2⟩ := hall x hx
        rw [e2]
        rfl]
    dsimp only
    refine w_asgR (evr_call (α := Cn × Str × Str) (C, s, t) (ea_cons (ev_var rfl) (ea_cons (ev_var rfl) (ea_cons (ev_var rfl) ea_nil))) ⟨g, gr.pos, hs, ht⟩) ?_
    rintro d ⟨ky', hL, rfl⟩
    dsimp only at hL
    dsimp only
    obtain ⟨r0, wr0⟩ := (gr.conn hs ht).walk
    obtain ⟨r, er, _⟩ := hL.le wr0
    rw [er]
    have wr := hL.wk t r er
    obtain ⟨ep, hat⟩ := wr.at
    dsimp only
    refine w_asg (ev_var rfl) ?_
    dsimp only
    refine w_asg ev_int ?_
    dsimp only
    show W _ F0 H0 _ [.fz (.list (ns.map .int)), .fz (.int wh), .fz (.int fi), .fz (.int se), .fz (.int ma), .fz (cnD C), .fz (.list (C.lks.map lkD)), .fz (.str s), .fz (.str t), .fz (dicD kvs), .un, .fz (.list (r.map fun L => .str L.lab)), .fz (.str s), .fz (.int 0), .un, .un, .un, .un, .un, .un, .un, .un, .un]
    refine w_forL (fun i ρ => ∃ y14 y16 : Sl, ρ = [.fz (.list (ns.map .int)), .fz (.int wh), .fz (.int fi), .fz (.int se), .fz (.int ma), .fz (cnD C), .fz (.list (C.lks.map lkD)), .fz (.str s), .fz (.str t), .fz (dicD kvs), .un, .fz (.list (r.map fun L => .str L.lab)), .fz (.str (pos s (r.take i))), .fz (.int (mins (r.take i))), y14, .un, y16, .un, .un, .un, .un, .un, .un])
      (ev_var rfl) ⟨.un, .un, rfl⟩ ?_ ?_
    · rintro B i d ρ hB hd ⟨y14, y16, rfl⟩
      obtain ⟨L, hLi, rfl, _⟩ := take_map (enc := fun L : Lk => PyData.str L.lab) hd
      obtain ⟨hm, htc⟩ := hat i L hLi
      have htk : r.take (i + 1) = r.take i ++ [L] := by rw [List.take_add_one, hLi]; rfl
      refine ⟨_, tg_name, ?_⟩
      dsimp only
      refine w_asg (d := lkD L) (ev_op ((EL.ev (el_lcL (j := 15) lkD C.lks (fun M : Lk => decide (M.lab = L.lab)) lkD (ev_var rfl) (by omega) (fun M _ => et_test (ev_op (ev_op (ev_var rfl) ev_int (ov_ixT rfl)) (ev_var rfl) ov_eqs)) (fun M _ _ => ev_var rfl))).eq (show _ = PyData.list [lkD L] by rw [gr.one hm]; rfl)) ev_int (ov_ixL rfl)) ?_
      dsimp only
      refine w_if (b := false) (ET.eq (et_test (ev_op (ev_var rfl) (ev_ends rfl) ov_inT)) ?_) (fun e => nomatch e) (fun _ => w_next ?_)
      · show (!hasS [L.a, L.b] (pos s (r.take i))) = false
        have : hasS [L.a, L.b] (pos s (r.take i)) = true := htc
        rw [this]
        rfl
      dsimp only
      refine w_asg (ev_op (ev_var rfl) (ev_op (ev_var rfl) ev_int (ov_ixT rfl)) (ov_i (g := fun i j => i + j))) ?_
      dsimp only
      refine w_asg (d := .str (far L (pos s (r.take i)))) (ev_call (α := Lk × Str) (L, pos s (r.take i)) (ea_cons (ev_var rfl) (ea_cons (ev_var rfl) ea_nil)) trivial) (w_K ⟨.fz (.str L.lab), .fz (lkD L), ?_⟩)
      rw [htk, pos_snoc, mins_snoc]
      rfl
    · rintro ρ ⟨y14, y16, rfl⟩
      rw [List.length_map, List.take_length, ← ep]
      dsimp only
      obtain ⟨r1, e1, e2⟩ := hall t ht
      have e3 := hL.best.is t
      rw [er, e2] at e3
      have e4 : mins r = mins r1 ∧ r.length = r1.length := by
        have := Option.some.inj e3
        exact ⟨(Prod.mk.inj this).1, (Prod.mk.inj this).2⟩
      refine w_ret ((ev_and (a := true) (b := true) ((ev_op (ev_var rfl) (ev_var rfl) ov_eqs).eq (by rw [decide_eq_true rfl])) fun _ => (ev_op (ev_tup (ea_cons (ev_var rfl) (ea_cons (ev_cb (ea_cons (ev_var rfl) ea_nil) cv_lenL) ea_nil))) (ev_dget (k := .inr t) (ev_var rfl) (ev_var rfl) ((rep t).trans (congrArg (Option.map pE) e1))) (ov_eqD rfl rfl rfl rfl)).eq ?_)) hQ
      rw [List.length_map, e4.1, e4.2]
      exact congrArg PyData.bool (eqv_ints _ _)
  dsimp only
  refine w_if (et_test (ev_op (ev_var rfl) ev_int ov_eqi)) (fun _ => ?_) (fun _ => w_next ?_)
  · /- the pieces -/
    refine w_asgL (el_lcR (j := 17) (n := ((C.lks.map lkD).length : Int)) (fun i => !decide ((i : Int) % 7 = ma) && !decide ((i : Int) % 3 = 1)) (fun i => (C.lks[i]?).elim .none fun L => .str L.lab) (ea_cons (ev_cb (ea_cons (ev_var rfl) ea_nil) cv_lenL) ea_nil) (by rw [List.length_map]; omega)
      (fun i hi => et_and (et_test (ev_op (ev_op (ev_var rfl) ev_int (ov_ic (C := fun _ j => 0 < j) (g := fun i j => i % j) (by decide))) (ev_var rfl) ov_nei)) fun _ => et_test (ev_op (ev_op (ev_var rfl) ev_int (ov_ic (C := fun _ j => 0 < j) (g := fun i j => i % j) (by decide))) ev_int ov_nei)) (fun i hi _ => ?_)) ?_
    · rw [List.length_map] at hi
      have hil : i < C.lks.length := by omega
      rw [List.getElem?_eq_getElem hil]
      exact ev_op (ev_op (ev_var rfl) (ev_var rfl) (ov_ixL (d := lkD C.lks[i]) (at_nat (by rw [List.getElem?_map, List.getElem?_eq_getElem hil]; rfl)))) ev_int (ov_ixT rfl)
    obtain ⟨out, eo, ho⟩ := strs_exist (ds := ((List.range (((C.lks.map lkD).length : Int)).toNat).filter fun i : Nat => !decide ((i : Int) % 7 = ma) && !decide ((i : Int) % 3 = 1)).map fun i => (C.lks[i]?).elim PyData.none fun L => .str L.lab) (p := fun l => ∃ L ∈ C.lks, L.lab = l) fun d hd => by
      obtain ⟨i, hi, rfl⟩ := List.mem_map.mp hd
      have hi := List.mem_range.mp (List.mem_filter.mp hi).1
      rw [List.length_map] at hi
      have hil : i < C.lks.length := by omega
      rw [List.getElem?_eq_getElem hil]
      exact ⟨_, rfl, _, List.getElem_mem hil, rfl⟩
    rw [eo]
    dsimp only
    refine w_freeze 18 rfl rfl ?_
    refine w_asgL (el_lcL (j := 16) lkD C.lks (fun L => !hasS out L.lab) lkD (ev_var rfl) (by omega) (fun L _ => et_test (ev_op (ev_op (ev_var rfl) ev_int (ov_ixT rfl)) (ev_var rfl) ov_inL)) (fun L _ _ => ev_var rfl)) ?_
    dsimp only
    refine w_freeze 19 rfl rfl ?_
    refine w_asgL (el_lst ea_nil) ?_
    dsimp only
    show W _ F0 H0 _ [.fz (.list (ns.map .int)), .fz (.int wh), .fz (.int fi), .fz (.int se), .fz (.int ma), .fz (cnD C), .fz (.list (C.lks.map lkD)), .fz (.str s), .fz (.str t), .un, .un, .un, .un, .un, .un, .un, .un, .un, .fz (.list (out.map .str)), .fz (.list ((C.lks.filter fun L : Lk => !hasS out L.lab).map lkD)), .ol [], .un, .un]
    have g' := less_good (ls := out) g
    have hlm : ∀ L, L ∈ (C.lks.filter fun L : Lk => !hasS out L.lab) ↔ L ∈ (C.less out).lks := fun L => by
      rw [less_mem, List.mem_filter, ← hasS_not]
      simp
    have hll := List.length_filter_le (fun L : Lk => !hasS out L.lab) C.lks
    refine w_forT (fun i ρ => ∃ y10 : Sl, ρ = [.fz (.list (ns.map .int)), .fz (.int wh), .fz (.int fi), .fz (.int se), .fz (.int ma), .fz (cnD C), .fz (.list (C.lks.map lkD)), .fz (.str s), .fz (.str t), .un, y10, .un, .un, .un, .un, .un, .un, .un, .fz (.list (out.map .str)), .fz (.list ((C.lks.filter fun L : Lk => !hasS out L.lab).map lkD)), .ol ((piecesM (C.less out).reach (C.bs.take i)).map rowD), .un, .un])
      (ev_op (ev_var rfl) ev_int (ov_ixT rfl)) ⟨.un, rfl⟩ ?_ ?_
    · rintro B i d ρ hB hd ⟨y10, rfl⟩
      obtain ⟨n, hn, rfl, hm⟩ := take_map hd
      have st := piecesM_step (C.less out).reach hn
      have hpl := piecesM_len (C.less out).reach (C.bs.take i)
      have htl : (C.bs.take i).length ≤ C.bs.length := by rw [List.length_take]; omega
      refine ⟨_, tg_name, ?_⟩
      dsimp only
      refine w_if (et_lend (i := 20) rfl rfl (et_test (ev_op (ev_cb (ea_cons (EL.ev (el_lcL (j := 21) rowD (piecesM (C.less out).reach (C.bs.take i)) (fun r => hasS r n) rowD (ev_var rfl) (by omega) (fun r _ => et_test (ev_op (ev_var rfl) (ev_var rfl) ov_inL)) (fun r _ _ => ev_var rfl))) ea_nil) cv_lenL) ev_int ov_eqi))) (fun e => ?_) (fun e => ?_)
      · have e := of_decide_eq_true e
        rw [List.length_map] at e
        have hf : ((piecesM (C.less out).reach (C.bs.take i)).any fun r => hasS r n) = false := by
          rw [List.any_eq_false]
          have h0 : (piecesM (C.less out).reach (C.bs.take i)).filter (fun r => hasS r n) = [] := List.eq_nil_of_length_eq_zero (by omega)
          exact List.filter_eq_nil_iff.mp h0
        rw [if_neg (by rw [hf]; exact Bool.false_ne_true)] at st
        refine w_app rfl (d := rowD ((C.less out).reach n)) (EL.ev (el_call (α := List Lk × Str × Cn) (C.lks.filter fun L : Lk => !hasS out L.lab, n, C.less out) (ea_cons (ev_var rfl) (ea_cons (ev_var rfl) ea_nil)) ⟨g', hm, hlm, by show (List.filter (fun L : Lk => !hasS out L.lab) C.lks).length ≤ 100; omega⟩)) (by rw [List.length_map]; omega) (w_K ⟨.fz (.str n), ?_⟩)
        rw [st, List.map_append, List.map_cons, List.map_nil]
        rfl
      · have e := of_decide_eq_false e
        rw [List.length_map] at e
        have hf : ((piecesM (C.less out).reach (C.bs.take i)).any fun r => hasS r n) = true := by
          cases hz : ((piecesM (C.less out).reach (C.bs.take i)).any fun r => hasS r n) with
          | true => rfl
          | false =>
            rw [List.any_eq_false] at hz
            rw [List.filter_eq_nil_iff.mpr hz] at e
            exact absurd rfl e
        rw [if_pos hf] at st
        exact w_next (w_K ⟨.fz (.str n), by rw [st]; rfl⟩)
    · rintro ρ ⟨y10, rfl⟩
      rw [List.length_map, List.take_length]
      dsimp only
      refine w_freeze 20 rfl rfl ?_
      have hpl := piecesM_len (C.less out).reach C.bs
      have rl : ∀ r ∈ piecesM (C.less out).reach C.bs, r.length ≤ 50000 := fun r hr => by
        obtain ⟨n, _, rfl⟩ := piecesM_mem hr
        have := reach_len (C.less out) n
        have h30 : (C.less out).bs.length ≤ 30 := hnb
        omega
      have ok1 := okD_list rowD (rs := piecesM (C.less out).reach C.bs) (by omega) (fun r hr => okD_row (rl r hr)) (fun r _ => Nat.le_of_eq (depth_row r))
      have ok2 := okD_list rowD (rs := [C.bs]) (by simp) (fun r hr => okD_row (by rw [List.mem_singleton] at hr; rw [hr]; omega)) (fun r _ => Nat.le_of_eq (depth_row r))
      refine w_if (b := false) (et_or (a := false) (b := false) (et_not (b := true) (et_B (ev_call (α := PyData) (.list ((piecesM (C.less out).reach C.bs).map rowD)) (ea_cons (ev_var rfl) (ea_cons (EL.ev (el_call (α := Cn × List Str) (C, out) (ea_cons (ev_var rfl) (ea_cons (ev_var rfl) ea_nil)) ⟨g, ho⟩)) ea_nil)) ok1))) fun _ => et_not (b := true) (et_B (ev_call (α := PyData) (.list ([C.bs].map rowD)) (ea_cons (EL.ev (el_lst (ea_cons (EL.ev (el_cb (ea_cons (ev_op (ev_var rfl) ev_int (ov_ixT rfl)) ea_nil) cl_listT)) ea_nil))) (ea_cons ((EL.ev (el_call (α := Cn) C (ea_cons (ev_var rfl) ea_nil) g)).eq ?_) ea_nil)) ok2))) (fun e => nomatch e) (fun _ => w_next ?_)
      · show PyData.list ((piecesM C.reach C.bs).map rowD) = _
        rw [gr.pieces]
      dsimp only
      refine w_ret ((ev_op (ev_call (α := Cn × Str × Str) (C, s, t) (ea_cons (ev_var rfl) (ea_cons (ev_var rfl) (ea_cons (ev_var rfl) ea_nil))) ⟨g, hs, ht⟩) ev_bl ov_isB).eq ?_) hQ
      have h : reachB C.lks s t = true := reachB_iff.mpr (gr.conn hs ht)
      show PyData.bool (decide (reachB C.lks s t = true)) = _
      rw [h]
      rfl
  /- the depths -/
  dsimp only
  refine w_asgR (EDR.evr (edr_call (α := Cn × Str) (C, s) (ea_cons (ev_var rfl) (ea_cons (ev_var rfl) ea_nil)) ⟨g, gr.dep, hs⟩)) ?_
  rintro d ⟨kvs, ⟨ky, hb, rep⟩, rfl⟩
  dsimp only at hb
  dsimp only
  have hall : ∀ x ∈ C.bs, ∃ r, ky x = some r := fun x hx => by
    obtain ⟨r, wr⟩ := (gr.conn hs hx).walk
    obtain ⟨r', e', _⟩ := hb.bt x r wr
    exact ⟨r', e'⟩
  obtain ⟨rt, ert⟩ := hall t ht
  refine w_if (b := false) (et_not (b := true) (et_B (ev_call (α := PyData) (.int (wid rt)) (ea_cons (ev_dget (k := .inr t) (ev_var rfl) (ev_var rfl) ((rep t).trans (congrArg (Option.map fun r => PyData.int (wid r)) ert))) (ea_cons ((ev_call (α := Cn × Str × Str) (C, s, t) (ea_cons (ev_var rfl) (ea_cons (ev_var rfl) (ea_cons (ev_var rfl) ea_nil))) ⟨g, hs, ht⟩).eq ?_) ea_nil)) ⟨rfl, by simp [PyData.depth]⟩))) (fun e => nomatch e) (fun _ => w_next ?_)
  · show intO (wideM C.lks s t) = _
    rw [← hb.wide t, ert]
    rfl
  dsimp only
  have hsd := gr.side hs hb
  have hfl := List.length_filter_le (fun x => decide (12 ≤ ((ky x).map wid).getD 0)) C.bs
  refine w_ret (ev_call (α := PyData) (.list ((C.bs.filter fun x => decide (12 ≤ ((ky x).map wid).getD 0)).map .str)) (ea_cons (EL.ev (el_lcT (j := 10) PyData.str C.bs (fun x => decide (12 ≤ ((ky x).map wid).getD 0)) PyData.str (ev_op (ev_var rfl) ev_int (ov_ixT rfl)) (by omega) (fun x hx => ?_) (fun x _ _ => ev_var rfl))) (ea_cons ((EL.ev (el_call (α := Cn × Str × Int) (C, s, 12) (ea_cons (ev_var rfl) (ea_cons (ev_var rfl) (ea_cons ev_int ea_nil))) ⟨g, hs⟩)).eq ?_) ea_nil)) ⟨okD_row (by omega), ?_⟩) hQ
  · obtain ⟨r, er⟩ := hall x hx
    refine ET.eq (et_test (ev_op (ev_dget (k := .inr x) (ev_var rfl) (ev_var rfl) ((rep x).trans (congrArg (Option.map fun r => PyData.int (wid r)) er))) ev_int ov_b)) ?_
    rw [er]
    rfl
  · show PyData.list (((C.keep (deepL C.lks 12)).reach s).map .str) = _
    rw [hsd]
  · have := depth_row (C.bs.filter fun x => decide (12 ≤ ((ky x).map wid).getD 0))
    show (rowD (C.bs.filter fun x => decide (12 ≤ ((ky x).map wid).getD 0))).depth < 3
    omega
end
end Kx


set_option maxHeartbeats 0
namespace Kx
open PySem PySem.Spec PyProof.Rows L2 DL
def d0 : He.DefD := ⟨("_law_strictly", none), "_law_strictly", "_law_strictly", defArgs stLawStrictly, defBody stLawStrictly, defScope stLawStrictly, [], []⟩
def d1 : He.DefD := ⟨("_law_cell", none), "_law_cell", "_law_cell", defArgs stLawCell, defBody stLawCell, defScope stLawCell, [], []⟩
def d2 : He.DefD := ⟨("_law_draw", none), "_law_draw", "_law_draw", defArgs stLawDraw, defBody stLawDraw, defScope stLawDraw, [], []⟩
def d3 : He.DefD := ⟨("links", none), "links", "links", defArgs stLinks, defBody stLinks, defScope stLinks, [], []⟩
def d4 : He.DefD := ⟨("_check_basin", none), "_check_basin", "_check_basin", defArgs stCheckBasin, defBody stCheckBasin, defScope stCheckBasin, [], []⟩
def d5 : He.DefD := ⟨("link_of", none), "link_of", "link_of", defArgs stLinkOf, defBody stLinkOf, defScope stLinkOf, [], []⟩
def d6 : He.DefD := ⟨("_check_links", none), "_check_links", "_check_links", defArgs stCheckLinks, defBody stCheckLinks, defScope stCheckLinks, [], []⟩
def d7 : He.DefD := ⟨("other_end", none), "other_end", "other_end", defArgs stOtherEnd, defBody stOtherEnd, defScope stOtherEnd, [], []⟩
def d8 : He.DefD := ⟨("neighbours", none), "neighbours", "neighbours", defArgs stNeighbours, defBody stNeighbours, defScope stNeighbours, [], []⟩
def d9 : He.DefD := ⟨("_kept_links", none), "_kept_links", "_kept_links", defArgs stKeptLinks, defBody stKeptLinks, defScope stKeptLinks, [], []⟩
def d10 : He.DefD := ⟨("without_links", none), "without_links", "without_links", defArgs stWithoutLinks, defBody stWithoutLinks, defScope stWithoutLinks, [], []⟩
def d11 : He.DefD := ⟨("_nearest", none), "_nearest", "_nearest", defArgs stNearest, defBody stNearest, defScope stNearest, [], []⟩
def d12 : He.DefD := ⟨("_least_keys", none), "_least_keys", "_least_keys", defArgs stLeastKeys, defBody stLeastKeys, defScope stLeastKeys, [], []⟩
def d13 : He.DefD := ⟨("minutes_from", none), "minutes_from", "minutes_from", defArgs stMinutesFrom, defBody stMinutesFrom, defScope stMinutesFrom, [], []⟩
def d14 : He.DefD := ⟨("least_route", none), "least_route", "least_route", defArgs stLeastRoute, defBody stLeastRoute, defScope stLeastRoute, [], []⟩
def d15 : He.DefD := ⟨("reached", none), "reached", "reached", defArgs stReached, defBody stReached, defScope stReached, [], []⟩
def d16 : He.DefD := ⟨("pieces", none), "pieces", "pieces", defArgs stPieces, defBody stPieces, defScope stPieces, [], []⟩
def d17 : He.DefD := ⟨("is_joined", none), "is_joined", "is_joined", defArgs stIsJoined, defBody stIsJoined, defScope stIsJoined, [], []⟩
def d18 : He.DefD := ⟨("split_by", none), "split_by", "split_by", defArgs stSplitBy, defBody stSplitBy, defScope stSplitBy, [], []⟩
def d19 : He.DefD := ⟨("_deepest_from", none), "_deepest_from", "_deepest_from", defArgs stDeepestFrom, defBody stDeepestFrom, defScope stDeepestFrom, [], []⟩
def d20 : He.DefD := ⟨("greatest_depth", none), "greatest_depth", "greatest_depth", defArgs stGreatestDepth, defBody stGreatestDepth, defScope stGreatestDepth, [], []⟩
def d21 : He.DefD := ⟨("deep_links", none), "deep_links", "deep_links", defArgs stDeepLinks, defBody stDeepLinks, defScope stDeepLinks, [], []⟩
def d22 : He.DefD := ⟨("deep_side", none), "deep_side", "deep_side", defArgs stDeepSide, defBody stDeepSide, defScope stDeepSide, [], []⟩
def d23 : He.DefD := ⟨("_law_links", none), "_law_links", "_law_links", defArgs stLawLinks, defBody stLawLinks, defScope stLawLinks, [], []⟩
def d24 : He.DefD := ⟨("_law_far", none), "_law_far", "_law_far", defArgs stLawFar, defBody stLawFar, defScope stLawFar, [], []⟩
def d25 : He.DefD := ⟨("_law_near", none), "_law_near", "_law_near", defArgs stLawNear, defBody stLawNear, defScope stLawNear, [], []⟩
def d26 : He.DefD := ⟨("_law_great", none), "_law_great", "_law_great", defArgs stLawGreat, defBody stLawGreat, defScope stLawGreat, [], []⟩
def d27 : He.DefD := ⟨("_law_least", none), "_law_least", "_law_least", defArgs stLawLeast, defBody stLawLeast, defScope stLawLeast, [], []⟩
def d28 : He.DefD := ⟨("_law_deepest", none), "_law_deepest", "_law_deepest", defArgs stLawDeepest, defBody stLawDeepest, defScope stLawDeepest, [], []⟩
def d29 : He.DefD := ⟨("law", none), "law", "law", defArgs stLaw, defBody stLaw, defScope stLaw, [], []⟩
def fn : List He.DefD := [d0, d1, d2, d3, d4, d5, d6, d7, d8, d9, d10, d11, d12, d13, d14, d15, d16, d17, d18, d19, d20, d21, d22, d23, d24, d25, d26, d27, d28, d29]
def fa : List He.Fa := [.glo "_law_strictly", .glo "_law_cell", .glo "_law_draw", .glo "links", .glo "_check_basin", .glo "link_of", .glo "_check_links", .glo "other_end", .glo "neighbours", .glo "_kept_links", .glo "without_links", .glo "_nearest", .glo "_least_keys", .glo "minutes_from", .glo "least_route", .glo "reached", .glo "pieces", .glo "is_joined", .glo "split_by", .glo "_deepest_from", .glo "greatest_depth", .glo "deep_links", .glo "deep_side", .glo "_law_links", .glo "_law_far", .glo "_law_near", .glo "_law_great", .glo "_law_least", .glo "_law_deepest", .glo "law", .free "isinstance", .free "bool", .free "int", .free "str", .free "tuple", .free "list", .free "len", .free "range", .free "sorted", .free "set", .free "min", .int "SIZE" 99]
abbrev R : PySem.W.OpenRow := PySem.W.OpenLaw.row PySem.Challenge.rw_canalworks_k64_great_canals
abbrev hk : PySem.W.Hook := He.hookD 4 fa fn
def ob (s : PySem.W.SharedT) : He.AlD := He.obsDG 4 fa fn (HandSHeadRun.getT s)
theorem ob_eq (s : PySem.W.SharedT) : ob s = hk.obs s.abs := He.obsDG_eq (HandSHeadRun.getT_eq s)
abbrev lo : List Str := ["CanalError", "UnknownError", "SIZE", "links", "_check_basin", "link_of", "_check_links", "other_end", "neighbours", "_kept_links", "without_links", "_nearest", "_least_keys", "minutes_from", "least_route", "reached", "pieces", "is_joined", "split_by", "_deepest_from", "greatest_depth", "deep_links", "deep_side", "_law_strictly", "_law_cell", "_law_draw", "_law_links", "_law_far", "_law_near", "_law_great", "_law_least", "_law_deepest"]
theorem run (w : World) : HandSHeadRun.RunEq R (PySem.W.view R.prog [38]) hk ob 4000 lo w := by
  intro os
  kernel_rfl
section
variable {K : PySem.W.Frag} {h : Heap} {mg : Str → Option Value}
theorem tlOf (X : K.In h) (G : h.Ns mainGlobals mg) (c : He.SaysD fa fn K) : Tl K mg where
  f_strictly := by
    obtain ⟨fd, F⟩ := c.def_ 0 (d := d0) rfl
    exact ⟨_, fd, F, He.glo_ok X G (c.fact 0 (f := .glo "_law_strictly") rfl)⟩
  f_cell := by
    obtain ⟨fd, F⟩ := c.def_ 1 (d := d1) rfl
    exact ⟨_, fd, F, He.glo_ok X G (c.fact 1 (f := .glo "_law_cell") rfl)⟩
  f_draw := by
    obtain ⟨fd, F⟩ := c.def_ 2 (d := d2) rfl
    exact ⟨_, fd, F, He.glo_ok X G (c.fact 2 (f := .glo "_law_draw") rfl)⟩
  m_isinstance := He.free_ok X G (c.fact 30 (f := .free "isinstance") rfl)
  m_bool := He.free_ok X G (c.fact 31 (f := .free "bool") rfl)
  m_int := He.free_ok X G (c.fact 32 (f := .free "int") rfl)
  m_str := He.free_ok X G (c.fact 33 (f := .free "str") rfl)
  m_tuple := He.free_ok X G (c.fact 34 (f := .free "tuple") rfl)
  m_list := He.free_ok X G (c.fact 35 (f := .free "list") rfl)
  m_len := He.free_ok X G (c.fact 36 (f := .free "len") rfl)
  m_range := He.free_ok X G (c.fact 37 (f := .free "range") rfl)
theorem txOf (X : K.In h) (G : h.Ns mainGlobals mg) (c : He.SaysD fa fn K) : Tx K mg where
  toTl := tlOf X G c
  f_links := by
    obtain ⟨fd, F⟩ := c.def_ 3 (d := d3) rfl
    exact ⟨_, fd, F, He.glo_ok X G (c.fact 3 (f := .glo "links") rfl)⟩
  f_check_basin := by
    obtain ⟨fd, F⟩ := c.def_ 4 (d := d4) rfl
    exact ⟨_, fd, F, He.glo_ok X G (c.fact 4 (f := .glo "_check_basin") rfl)⟩
  f_link_of := by
    obtain ⟨fd, F⟩ := c.def_ 5 (d := d5) rfl
    exact ⟨_, fd, F, He.glo_ok X G (c.fact 5 (f := .glo "link_of") rfl)⟩
  f_check_links := by
    obtain ⟨fd, F⟩ := c.def_ 6 (d := d6) rfl
    exact ⟨_, fd, F, He.glo_ok X G (c.fact 6 (f := .glo "_check_links") rfl)⟩
  f_other_end := by
    obtain ⟨fd, F⟩ := c.def_ 7 (d := d7) rfl
    exact ⟨_, fd, F, He.glo_ok X G (c.fact 7 (f := .glo "other_end") rfl)⟩
  f_neighbours := by
    obtain ⟨fd, F⟩ := c.def_ 8 (d := d8) rfl
    exact ⟨_, fd, F, He.glo_ok X G (c.fact 8 (f := .glo "neighbours") rfl)⟩
  f_kept_links := by
    obtain ⟨fd, F⟩ := c.def_ 9 (d := d9) rfl
    exact ⟨_, fd, F, He.glo_ok X G (c.fact 9 (f := .glo "_kept_links") rfl)⟩
  f_without_links := by
    obtain ⟨fd, F⟩ := c.def_ 10 (d := d10) rfl
    exact ⟨_, fd, F, He.glo_ok X G (c.fact 10 (f := .glo "without_links") rfl)⟩
  f_nearest := by
    obtain ⟨fd, F⟩ := c.def_ 11 (d := d11) rfl
    exact ⟨_, fd, F, He.glo_ok X G (c.fact 11 (f := .glo "_nearest") rfl)⟩
  f_least_keys := by
    obtain ⟨fd, F⟩ := c.def_ 12 (d := d12) rfl
    exact ⟨_, fd, F, He.glo_ok X G (c.fact 12 (f := .glo "_least_keys") rfl)⟩
  f_minutes_from := by
    obtain ⟨fd, F⟩ := c.def_ 13 (d := d13) rfl
    exact ⟨_, fd, F, He.glo_ok X G (c.fact 13 (f := .glo "minutes_from") rfl)⟩
  f_least_route := by
    obtain ⟨fd, F⟩ := c.def_ 14 (d := d14) rfl
    exact ⟨_, fd, F, He.glo_ok X G (c.fact 14 (f := .glo "least_route") rfl)⟩
  f_reached := by
    obtain ⟨fd, F⟩ := c.def_ 15 (d := d15) rfl
    exact ⟨_, fd, F, He.glo_ok X G (c.fact 15 (f := .glo "reached") rfl)⟩
  f_pieces := by
    obtain ⟨fd, F⟩ := c.def_ 16 (d := d16) rfl
    exact ⟨_, fd, F, He.glo_ok X G (c.fact 16 (f := .glo "pieces") rfl)⟩
  f_is_joined := by
    obtain ⟨fd, F⟩ := c.def_ 17 (d := d17) rfl
    exact ⟨_, fd, F, He.glo_ok X G (c.fact 17 (f := .glo "is_joined") rfl)⟩
  f_split_by := by
    obtain ⟨fd, F⟩ := c.def_ 18 (d := d18) rfl
    exact ⟨_, fd, F, He.glo_ok X G (c.fact 18 (f := .glo "split_by") rfl)⟩
  f_deepest_from := by
    obtain ⟨fd, F⟩ := c.def_ 19 (d := d19) rfl
    exact ⟨_, fd, F, He.glo_ok X G (c.fact 19 (f := .glo "_deepest_from") rfl)⟩
  f_greatest_depth := by
    obtain ⟨fd, F⟩ := c.def_ 20 (d := d20) rfl
    exact ⟨_, fd, F, He.glo_ok X G (c.fact 20 (f := .glo "greatest_depth") rfl)⟩
  f_deep_links := by
    obtain ⟨fd, F⟩ := c.def_ 21 (d := d21) rfl
    exact ⟨_, fd, F, He.glo_ok X G (c.fact 21 (f := .glo "deep_links") rfl)⟩
  f_deep_side := by
    obtain ⟨fd, F⟩ := c.def_ 22 (d := d22) rfl
    exact ⟨_, fd, F, He.glo_ok X G (c.fact 22 (f := .glo "deep_side") rfl)⟩
  f_law_links := by
    obtain ⟨fd, F⟩ := c.def_ 23 (d := d23) rfl
    exact ⟨_, fd, F, He.glo_ok X G (c.fact 23 (f := .glo "_law_links") rfl)⟩
  f_law_far := by
    obtain ⟨fd, F⟩ := c.def_ 24 (d := d24) rfl
    exact ⟨_, fd, F, He.glo_ok X G (c.fact 24 (f := .glo "_law_far") rfl)⟩
  f_law_near := by
    obtain ⟨fd, F⟩ := c.def_ 25 (d := d25) rfl
    exact ⟨_, fd, F, He.glo_ok X G (c.fact 25 (f := .glo "_law_near") rfl)⟩
  f_law_great := by
    obtain ⟨fd, F⟩ := c.def_ 26 (d := d26) rfl
    exact ⟨_, fd, F, He.glo_ok X G (c.fact 26 (f := .glo "_law_great") rfl)⟩
  f_law_least := by
    obtain ⟨fd, F⟩ := c.def_ 27 (d := d27) rfl
    exact ⟨_, fd, F, He.glo_ok X G (c.fact 27 (f := .glo "_law_least") rfl)⟩
  f_law_deepest := by
    obtain ⟨fd, F⟩ := c.def_ 28 (d := d28) rfl
    exact ⟨_, fd, F, He.glo_ok X G (c.fact 28 (f := .glo "_law_deepest") rfl)⟩
  f_law := by
    obtain ⟨fd, F⟩ := c.def_ 29 (d := d29) rfl
    exact ⟨_, fd, F, He.glo_ok X G (c.fact 29 (f := .glo "law") rfl)⟩
  m_sorted := He.free_ok X G (c.fact 38 (f := .free "sorted") rfl)
  m_set := He.free_ok X G (c.fact 39 (f := .free "set") rfl)
  m_min := He.free_ok X G (c.fact 40 (f := .free "min") rfl)
  m_SIZE := He.int_ok X G (c.fact 41 (f := .int "SIZE" 99) rfl)
end
end Kx
open PySem PySem.W PySem.Calls PyProof.Rows
theorem PySem.Challenge.cw_canalworks_k64_great_canals_holds : PySem.Challenge.rw_canalworks_k64_great_canals.Holds := by
  w_on; o_law
  refine HandSHeadRun.head_any (r := OpenLaw.row PySem.Challenge.rw_canalworks_k64_great_canals) (q := view (OpenLaw.row PySem.Challenge.rw_canalworks_k64_great_canals).prog [38]) (H := Kx.hk) (ob := Kx.ob) (M := 4000) (loose := Kx.lo) (d := HandSHeadRun.topDef (OpenLaw.row PySem.Challenge.rw_canalworks_k64_great_canals).prog 38) (kwd := []) Kx.ob_eq
    (by kernel_rfl) (fun s => by kernel_rfl) Kx.run (by kernel_rfl) (by kernel_rfl) (by kernel_rfl) (by rfl) (by first | assumption | decide +kernel) (by decide +kernel) ⟨rfl, rfl, rfl, rfl, rfl, by decide +kernel⟩ ?hw ?hc
  case hw => w_witness2
  case hc =>
    refine L2.walk_ofE (l := PySem.Challenge.rw_canalworks_k64_great_canals) (n := 63) (k := 6) (x := "script") (CX := L2.CX0) rfl (by decide) (by kernel_rfl) ⟨rfl, by decide, by decide⟩ ?F (fun _ _ _ _ z => z)
    intro w mg fa h Y G hmg0
    obtain ⟨K, KX, c⟩ := Y
    have hmg : mg ("law" : PySem.Str) = some (.ref fa) := by
      have e : (HandSHeadRun.topDef (OpenLaw.row PySem.Challenge.rw_canalworks_k64_great_canals).prog 38).name = ("law" : PySem.Str) := by kernel_rfl
      rw [← e]
      exact hmg0
    obtain ⟨fd2, F2⟩ := c.def_ 29 (d := Kx.d29) rfl
    have e3 := hmg.symm.trans (He.glo_ok KX G (c.fact 29 (f := .glo "law") rfl))
    cases e3
    have b := L2.FunD.bindsA (ps := ["script"]) F2 fun _ _ _ _ _ _ us hl => match us, hl with | [_], _ => rfl
    refine ⟨K, fd2, DL.spV K (fun ns : List Int => [.list (ns.map .int)]) (fun _ => True) (fun _ => .bool true), KX, fun s v => b s [v] rfl, fun H a ns hl _ hS => ⟨H, ns, L2.Same.refl _, .cons (.lst hS (DL.rpAll_ints ns)) .nil, trivial, fun v F' H' _ r => by cases r; rfl⟩, fun base hK hN => ?_⟩
    exact Kx.U_lawF (Kx.txOf KX G c) F2

