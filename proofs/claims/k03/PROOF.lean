import PyProof.Rows.All
import Wide.All
import OpenK.AllK
import Wide.FinOn
import PySem.Challenge.RW_tokenwall_k03_nets_refused
import HandS.ForExc
import HandS.Comp
import HandS.Walk
import HandS.Dict
import HandS.IsInst
import HandS.Wide
import HandS.TupAny
import HandS.TupMul
import HandS.TupLe
import HandS.Deep
import HandS.Zip
import HandS.Style
import HandS.Text
import KE.GoesEnum
import HandS.ExcIs
import HandS.ExcInit
import HandS.ExcField
import KE.KExcIs
import HandS.SetFor
import HandS.Strs
set_option Elab.async false
set_option linter.all false
set_option maxRecDepth 100000
set_option maxHeartbeats 4000000
/-! Tw1: a layer of data over the hand layer. A def is walked over plain data (PyData): what a slot holds (Sl), what an expression
is worth (Ev), what a statement leads to (As); the heap is hidden behind two views: H as it stands, I the part that never changes. -/
namespace Tw
open PySem PySem.Spec PyProof.Rows L2

theorem same_new {H : Hp} {p : Addr} {o : HO} (h : H p = none) : Same H (upd H p o) := fun b x e => by
  rw [upd_ne (ne_of_none e h)]
  exact e
theorem same_t {K : PySem.W.Frag} {H H' : Hp} {a : Addr} {xs : List V} (e : Same H H') (h : SqT K H a xs) : SqT K H' a xs := by
  rcases h with (h | ⟨o, h⟩) | h
  · exact .inl (.inl (e _ _ h))
  · exact .inl (.inr ⟨o, e _ _ h⟩)
  · exact .inr h

/-- the world moves on: (H, I) to (H', I') -/
structure Nx (H I H' I' : Hp) : Prop where
  h : Same H H'
  i : Same I I'
  s : Same I' H'
  f : ∀ p o, H p = some o → I p = none → I' p = none
theorem Nx.refl {H I : Hp} (s : Same I H) : Nx H I H I := ⟨Same.refl _, Same.refl _, s, fun _ _ _ e => e⟩
theorem Nx.trans {H I H1 I1 H2 I2 : Hp} (a : Nx H I H1 I1) (b : Nx H1 I1 H2 I2) : Nx H I H2 I2 :=
  ⟨a.h.trans b.h, a.i.trans b.i, b.s, fun p o e n => b.f p o (a.h p o e) (a.f p o e n)⟩
/-- a new object, known at once -/
theorem Nx.new {H I : Hp} {p : Addr} {o : HO} (s : Same I H) (h : H p = none) : Nx H I (upd H p o) (upd I p o) := by
  have hi : I p = none := s.free h
  refine ⟨same_new h, same_new hi, fun b x e => ?_, fun q x e n => ?_⟩
  · by_cases hb : b = p
    · subst hb
      rw [upd_same] at e ⊢
      exact e
    · rw [upd_ne hb] at e ⊢
      exact s b x e
  · rw [upd_ne (ne_of_none e h)]
    exact n
/-- a new object, not told yet -/
theorem Nx.own {H I : Hp} {p : Addr} {o : HO} (s : Same I H) (h : H p = none) : Nx H I (upd H p o) I :=
  ⟨same_new h, Same.refl _, s.trans (same_new h), fun _ _ _ n => n⟩
/-- the base may be taken later -/
theorem Nx.rebase {G I0 H1 I1 H I : Hp} (a : Nx G I0 H1 I1) (b : Nx G I1 H I) : Nx G I0 H I :=
  ⟨b.h, a.i.trans b.i, b.s, fun p o e n => b.f p o e (a.f p o e n)⟩
theorem Nx.onto {G I0 H1 I1 H I : Hp} (a : Nx G I0 H1 I1) (b : Nx H1 I1 H I) : Nx G I1 H I :=
  ⟨a.h.trans b.h, b.i, b.s, fun p o e n => b.f p o (a.h p o e) n⟩
theorem Nx.here {G I0 H I : Hp} (a : Nx G I0 H I) : Nx G I H I := ⟨a.h, Same.refl _, a.s, fun _ _ _ n => n⟩

/-! ### data -/
mutual
inductive Rp (K : PySem.W.Frag) (I : Hp) : V → PyData → Prop
  | non : Rp K I .non .none
  | bl (b : Bool) : Rp K I (.bl b) (.bool b)
  | int (i : Int) : Rp K I (.int i) (.int i)
  | str (x : Str) : Rp K I (.str x) (.str x)
  | lst {a : Addr} {xs : List V} {ds : List PyData} : I a = some (.lst xs) → RpAll K I xs ds → Rp K I (.ref a) (.list ds)
  | tup {a : Addr} {xs : List V} {ds : List PyData} : I a = some (.tup xs) → RpAll K I xs ds → Rp K I (.ref a) (.tuple ds)
  /-- some dict -/
  | dct {a : Addr} {kvs : List (Key × V)} : I a = some (.dK kvs) → Rp K I (.ref a) (.dict [])
  /-- the script, told as a dict that no program makes -/
  | scr {a : Addr} {ns : List Int} : SqL K I a (ns.map V.int) → Rp K I (.ref a) (.dict [(.none, .list (ns.map .int))])
inductive RpAll (K : PySem.W.Frag) (I : Hp) : List V → List PyData → Prop
  | nil : RpAll K I [] []
  | cons {v : V} {vs : List V} {d : PyData} {ds : List PyData} : Rp K I v d → RpAll K I vs ds → RpAll K I (v :: vs) (d :: ds)
end
section
variable {K : PySem.W.Frag} {I I' : Hp}
mutual
theorem Rp.mono (e : Same I I') : ∀ {v : V} {d : PyData}, Rp K I v d → Rp K I' v d
  | _, _, .non => .non
  | _, _, .bl b => .bl b
  | _, _, .int i => .int i
  | _, _, .str x => .str x
  | _, _, .lst h r => .lst (e _ _ h) (RpAll.mono e r)
  | _, _, .tup h r => .tup (e _ _ h) (RpAll.mono e r)
  | _, _, .dct h => .dct (e _ _ h)
  | _, _, .scr h => .scr (e.seq h)
theorem RpAll.mono (e : Same I I') : ∀ {vs : List V} {ds : List PyData}, RpAll K I vs ds → RpAll K I' vs ds
  | _, _, .nil => .nil
  | _, _, .cons h r => .cons (Rp.mono e h) (RpAll.mono e r)
end
mutual
theorem Rp.dp : ∀ {v : V} {d : PyData}, Rp K I v d → d.canLay0 = true → Dp K I v d
  | _, _, .non, _ => .non
  | _, _, .bl b, _ => .bl b
  | _, _, .int i, _ => .int i
  | _, _, .str x, _ => .str x
  | _, _, .lst h r, c => .lst (.of h) (RpAll.dp r c)
  | _, _, .tup h r, c => .tup (.of h) (RpAll.dp r c)
  | _, _, .dct h, c => by cases c
  | _, _, .scr h, c => by cases c
theorem RpAll.dp : ∀ {vs : List V} {ds : List PyData}, RpAll K I vs ds → PyData.canLayAll0 ds = true → DpAll K I vs ds
  | _, _, .nil, _ => .nil
  | _, _, .cons h r, c => by
    have c' := Bool.and_eq_true_iff.mp (show (_ && _) = true from c)
    exact .cons (Rp.dp h c'.1) (RpAll.dp r c'.2)
end
theorem RpAll.length : ∀ {vs : List V} {ds : List PyData}, RpAll K I vs ds → vs.length = ds.length
  | _, _, .nil => rfl
  | _, _, .cons _ r => by rw [List.length_cons, List.length_cons, RpAll.length r]
theorem RpAll.get : ∀ {vs : List V} {ds : List PyData} {i : Nat} {d : PyData}, RpAll K I vs ds → ds[i]? = some d → ∃ v, vs[i]? = some v ∧ Rp K I v d
  | _, _, _, _, .nil, e => by simp at e
  | _, _, 0, _, .cons h _, e => by simp at e; subst e; exact ⟨_, rfl, h⟩
  | _, _, i + 1, d, .cons _ r, e => by
    obtain ⟨v, h1, h2⟩ := RpAll.get (i := i) (d := d) r (by simpa using e)
    exact ⟨v, by simpa using h1, h2⟩
theorem RpAll.app : ∀ {vs ws : List V} {ds es : List PyData}, RpAll K I vs ds → RpAll K I ws es → RpAll K I (vs ++ ws) (ds ++ es)
  | _, _, _, _, .nil, q => q
  | _, _, _, _, .cons h r, q => .cons h (RpAll.app r q)
theorem RpAll.set {v : V} {d : PyData} (h : Rp K I v d) : ∀ {vs : List V} {ds : List PyData} (i : Nat), RpAll K I vs ds → RpAll K I (vs.set i v) (ds.set i d)
  | _, _, _, .nil => .nil
  | _, _, 0, .cons _ r => .cons h r
  | _, _, i + 1, .cons q r => .cons q (RpAll.set h i r)
theorem RpAll.take : ∀ {vs : List V} {ds : List PyData} (n : Nat), RpAll K I vs ds → RpAll K I (vs.take n) (ds.take n)
  | _, _, 0, _ => .nil
  | _, _, _ + 1, .nil => .nil
  | _, _, n + 1, .cons h r => .cons h (RpAll.take n r)
theorem RpAll.drop : ∀ {vs : List V} {ds : List PyData} (n : Nat), RpAll K I vs ds → RpAll K I (vs.drop n) (ds.drop n)
  | _, _, 0, r => r
  | _, _, _ + 1, .nil => .nil
  | _, _, n + 1, .cons _ r => RpAll.drop n r
theorem RpAll.rev : ∀ {vs : List V} {ds : List PyData}, RpAll K I vs ds → RpAll K I vs.reverse ds.reverse
  | _, _, .nil => .nil
  | _, _, .cons h r => by
    rw [List.reverse_cons, List.reverse_cons]
    exact (RpAll.rev r).app (.cons h .nil)
/-- no list (and no dict) within -/
def solid : PyData → Bool
  | .list _ => false
  | .dict _ => false
  | .tuple ds => solidAll ds
  | _ => true
where solidAll : List PyData → Bool
  | [] => true
  | d :: ds => solid d && solidAll ds
/-- what holds no list doesn't lean on a list -/
theorem tup_off {p : Addr} {vs : List V} (hp : I p = some (.lst vs)) {a : Addr} {xs : List V} (h : I a = some (.tup xs)) : (fun b => if b = p then none else I b) a = some (HO.tup xs) := by
  show (if a = p then none else I a) = _
  rw [if_neg (fun z => by rw [z, hp] at h; cases h)]
  exact h
mutual
theorem Rp.off {p : Addr} {vs : List V} (hp : I p = some (.lst vs)) : ∀ {v : V} {d : PyData}, Rp K I v d → solid d = true → Rp K (fun b => if b = p then none else I b) v d
  | _, _, .non, _ => .non
  | _, _, .bl b, _ => .bl b
  | _, _, .int i, _ => .int i
  | _, _, .str x, _ => .str x
  | _, _, .lst h r, c => by cases c
  | _, _, .tup h r, c => .tup (tup_off hp h) (RpAll.off hp r c)
  | _, _, .dct h, c => by cases c
  | _, _, .scr h, c => by cases c
theorem RpAll.off {p : Addr} {vs : List V} (hp : I p = some (.lst vs)) : ∀ {ws : List V} {ds : List PyData}, RpAll K I ws ds → solid.solidAll ds = true → RpAll K (fun b => if b = p then none else I b) ws ds
  | _, _, .nil, _ => .nil
  | _, _, .cons h r, c => by
    have c' := Bool.and_eq_true_iff.mp (show (_ && _) = true from c)
    exact .cons (Rp.off hp h c'.1) (RpAll.off hp r c'.2)
end
end

/-! ### slots -/
inductive Sl where
  /-- nothing is known -/
  | no
  /-- data that no one changes -/
  | d (x : PyData)
  /-- a list of the def's own, that it may change -/
  | own (xs : List PyData)
structure RelS (K : PySem.W.Frag) (G H I : Hp) (σ : L2.St) (δ : List Sl) : Prop where
  len : σ.length = δ.length
  d : ∀ (i : Nat) (x : PyData), δ[i]? = some (Sl.d x) → ∃ v : V, σ[i]? = some (some v) ∧ Rp K I v x
  own : ∀ (i : Nat) (xs : List PyData), δ[i]? = some (Sl.own xs) → ∃ (p : Addr) (vs : List V), σ[i]? = some (some (V.ref p)) ∧ G p = none ∧ I p = none ∧ H p = some (.lst vs) ∧ RpAll K I vs xs
  sep : ∀ (i j : Nat) (xs ys : List PyData) (p : Addr), i ≠ j → δ[i]? = some (Sl.own xs) → δ[j]? = some (Sl.own ys) → σ[i]? = some (some (V.ref p)) → σ[j]? = some (some (V.ref p)) → False
section
variable {K : PySem.W.Frag} {G H I H' I' : Hp} {σ : L2.St} {δ : List Sl}
theorem RelS.next (r : RelS K G H I σ δ) (n : Nx H I H' I') : RelS K G H' I' σ δ where
  len := r.len
  d := fun i x e => by
    obtain ⟨v, h1, h2⟩ := r.d i x e
    exact ⟨v, h1, h2.mono n.i⟩
  own := fun i xs e => by
    obtain ⟨p, vs, h1, h2, h3, h4, h5⟩ := r.own i xs e
    exact ⟨p, vs, h1, h2, n.f p _ h4 h3, n.h p _ h4, h5.mono n.i⟩
  sep := r.sep
theorem set_get {α : Type} {l : List α} {i j : Nat} {x y : α} (e : (l.set i x)[j]? = some y) : (j = i ∧ i < l.length ∧ y = x) ∨ (j ≠ i ∧ l[j]? = some y) := by
  by_cases h : j = i
  · subst h
    by_cases hl : j < l.length
    · rw [List.getElem?_set_self hl] at e
      exact .inl ⟨rfl, hl, (Option.some.inj e).symm⟩
    · rw [List.getElem?_eq_none_iff.mpr (by rw [List.length_set]; omega)] at e
      cases e
  · rw [List.getElem?_set_ne (Ne.symm h)] at e
    exact .inr ⟨h, e⟩
/-- a slot takes a value -/
theorem RelS.put (r : RelS K G H I σ δ) {i : Nat} {v : V} {x : PyData} (h : Rp K I v x) : RelS K G H I (σ.set i (some v)) (δ.set i (.d x)) where
  len := by rw [List.length_set, List.length_set, r.len]
  d := fun j y e => by
    rcases set_get e with ⟨rfl, hl, e'⟩ | ⟨hn, e'⟩
    · cases e'
      exact ⟨v, by rw [List.getElem?_set_self (by rw [r.len]; exact hl)], h⟩
    · obtain ⟨u, h1, h2⟩ := r.d j y e'
      exact ⟨u, by rw [List.getElem?_set_ne (Ne.symm hn)]; exact h1, h2⟩
  own := fun j xs e => by
    rcases set_get e with ⟨rfl, hl, e'⟩ | ⟨hn, e'⟩
    · cases e'
    · obtain ⟨p, vs, h1, h2⟩ := r.own j xs e'
      exact ⟨p, vs, by rw [List.getElem?_set_ne (Ne.symm hn)]; exact h1, h2⟩
  sep := fun j k xs ys p hn e1 e2 f1 f2 => by
    rcases set_get e1 with ⟨rfl, hl, e'⟩ | ⟨n1, e1'⟩
    · cases e'
    · rcases set_get e2 with ⟨rfl, hl, e'⟩ | ⟨n2, e2'⟩
      · cases e'
      · rw [List.getElem?_set_ne (Ne.symm n1)] at f1
        rw [List.getElem?_set_ne (Ne.symm n2)] at f2
        exact r.sep j k xs ys p hn e1' e2' f1 f2
theorem RelS.none (r : RelS K G H I σ δ) {i : Nat} {o : Option V} : RelS K G H I (σ.set i o) (δ.set i .no) where
  len := by rw [List.length_set, List.length_set, r.len]
  d := fun j y e => by
    rcases set_get e with ⟨rfl, hl, e'⟩ | ⟨hn, e'⟩
    · cases e'
    · obtain ⟨u, h1, h2⟩ := r.d j y e'
      exact ⟨u, by rw [List.getElem?_set_ne (Ne.symm hn)]; exact h1, h2⟩
  own := fun j xs e => by
    rcases set_get e with ⟨rfl, hl, e'⟩ | ⟨hn, e'⟩
    · cases e'
    · obtain ⟨p, vs, h1, h2⟩ := r.own j xs e'
      exact ⟨p, vs, by rw [List.getElem?_set_ne (Ne.symm hn)]; exact h1, h2⟩
  sep := fun j k xs ys p hn e1 e2 f1 f2 => by
    rcases set_get e1 with ⟨rfl, hl, e'⟩ | ⟨n1, e1'⟩
    · cases e'
    · rcases set_get e2 with ⟨rfl, hl, e'⟩ | ⟨n2, e2'⟩
      · cases e'
      · rw [List.getElem?_set_ne (Ne.symm n1)] at f1
        rw [List.getElem?_set_ne (Ne.symm n2)] at f2
        exact r.sep j k xs ys p hn e1' e2' f1 f2
/-- a slot takes a new list of its own -/
theorem RelS.make (r : RelS K G H I σ δ) {i : Nat} {p : Addr} {vs : List V} {xs : List PyData} (s : Same I H) (g : Same G H) (h : H p = Option.none) (q : RpAll K I vs xs) :
    RelS K G (upd H p (.lst vs)) I (σ.set i (some (.ref p))) (δ.set i (.own xs)) where
  len := by rw [List.length_set, List.length_set, r.len]
  d := fun j y e => by
    rcases set_get e with ⟨rfl, hl, e'⟩ | ⟨hn, e'⟩
    · cases e'
    · obtain ⟨u, h1, h2⟩ := r.d j y e'
      exact ⟨u, by rw [List.getElem?_set_ne (Ne.symm hn)]; exact h1, h2⟩
  own := fun j ys e => by
    rcases set_get e with ⟨rfl, hl, e'⟩ | ⟨hn, e'⟩
    · cases e'
      exact ⟨p, vs, by rw [List.getElem?_set_self (by rw [r.len]; exact hl)], g.free h, s.free h, upd_same, q⟩
    · obtain ⟨p', vs', h1, h2, h3, h4, h5⟩ := r.own j ys e'
      exact ⟨p', vs', by rw [List.getElem?_set_ne (Ne.symm hn)]; exact h1, h2, h3, by rw [upd_ne (ne_of_none h4 h)]; exact h4, h5⟩
  sep := fun j k ys zs a hn e1 e2 f1 f2 => by
    rcases set_get e1 with ⟨rfl, hl, e'⟩ | ⟨n1, e1'⟩
    · rcases set_get e2 with ⟨rfl, hl2, e''⟩ | ⟨n2, e2'⟩
      · exact hn rfl
      · obtain ⟨p', vs', h1, h2, h3, h4, h5⟩ := r.own k zs e2'
        rw [List.getElem?_set_self (by rw [r.len]; exact hl)] at f1
        rw [List.getElem?_set_ne (Ne.symm n2), h1] at f2
        cases f1
        cases f2
        rw [h] at h4
        cases h4
    · rcases set_get e2 with ⟨rfl, hl2, e''⟩ | ⟨n2, e2'⟩
      · obtain ⟨p', vs', h1, h2, h3, h4, h5⟩ := r.own j ys e1'
        rw [List.getElem?_set_self (by rw [r.len]; exact hl2)] at f2
        rw [List.getElem?_set_ne (Ne.symm n1), h1] at f1
        cases f1
        cases f2
        rw [h] at h4
        cases h4
      · rw [List.getElem?_set_ne (Ne.symm n1)] at f1
        rw [List.getElem?_set_ne (Ne.symm n2)] at f2
        exact r.sep j k ys zs a hn e1' e2' f1 f2
/-- its own list is changed -/
theorem RelS.write (r : RelS K G H I σ δ) {i : Nat} {p : Addr} {vs : List V} {xs ys : List PyData} (e : δ[i]? = some (.own xs)) (f : σ[i]? = some (some (.ref p))) (q : RpAll K I vs ys) :
    RelS K G (upd H p (.lst vs)) I σ (δ.set i (.own ys)) where
  len := by rw [List.length_set, r.len]
  d := fun j y e1 => by
    rcases set_get e1 with ⟨rfl, hl, e'⟩ | ⟨hn, e'⟩
    · cases e'
    · exact r.d j y e'
  own := fun j zs e1 => by
    rcases set_get e1 with ⟨rfl, hl, e'⟩ | ⟨hn, e'⟩
    · cases e'
      obtain ⟨p', vs', h1, h2, h3, h4, h5⟩ := r.own j xs e
      rw [f] at h1
      cases h1
      exact ⟨p, vs, f, h2, h3, upd_same, q⟩
    · obtain ⟨p', vs', h1, h2, h3, h4, h5⟩ := r.own j zs e'
      refine ⟨p', vs', h1, h2, h3, ?_, h5⟩
      rw [upd_ne (show p' ≠ p from fun z => r.sep i j xs zs p (Ne.symm hn) e e' f (by rw [← z]; exact h1))]
      exact h4
  sep := fun j k as bs a hn e1 e2 f1 f2 => by
    rcases set_get e1 with ⟨rfl, hl, e'⟩ | ⟨n1, e1'⟩
    · rcases set_get e2 with ⟨rfl, hl2, e''⟩ | ⟨n2, e2'⟩
      · exact hn rfl
      · exact r.sep j k xs bs a hn e e2' f1 f2
    · rcases set_get e2 with ⟨rfl, hl2, e''⟩ | ⟨n2, e2'⟩
      · exact r.sep j k as xs a hn e1' e f1 f2
      · exact r.sep j k as bs a hn e1' e2' f1 f2
/-- its own list is told: no one changes it any more -/
theorem RelS.freeze (r : RelS K G H I σ δ) {i : Nat} {p : Addr} {vs : List V} {xs : List PyData} (s : Same I H) (e : δ[i]? = some (.own xs)) (f : σ[i]? = some (some (.ref p))) (h : H p = some (.lst vs)) (n : I p = Option.none) (q : RpAll K I vs xs) :
    RelS K G H (upd I p (.lst vs)) σ (δ.set i (.d (.list xs))) where
  len := by rw [List.length_set, r.len]
  d := fun j y e1 => by
    rcases set_get e1 with ⟨rfl, hl, e'⟩ | ⟨hn, e'⟩
    · cases e'
      exact ⟨_, f, .lst upd_same (q.mono (same_new n))⟩
    · obtain ⟨u, h1, h2⟩ := r.d j y e'
      exact ⟨u, h1, h2.mono (same_new n)⟩
  own := fun j zs e1 => by
    rcases set_get e1 with ⟨rfl, hl, e'⟩ | ⟨hn, e'⟩
    · cases e'
    · obtain ⟨p', vs', h1, h2, h3, h4, h5⟩ := r.own j zs e'
      refine ⟨p', vs', h1, h2, ?_, h4, h5.mono (same_new n)⟩
      rw [upd_ne (show p' ≠ p from fun z => r.sep i j xs zs p (Ne.symm hn) e e' f (by rw [← z]; exact h1))]
      exact h3
  sep := fun j k as bs a hn e1 e2 f1 f2 => by
    rcases set_get e1 with ⟨rfl, hl, e'⟩ | ⟨n1, e1'⟩
    · cases e'
    · rcases set_get e2 with ⟨rfl, hl2, e''⟩ | ⟨n2, e2'⟩
      · cases e''
      · exact r.sep j k as bs a hn e1' e2' f1 f2
end

/-! ### expressions -/
section
variable (K : PySem.W.Frag)
def Ev (te : TE) (δ : List Sl) (x : PyData) : Prop := ∀ G σ H I, Same I H → Same G H → RelS K G H I σ δ → ∀ Q : VK, (∀ v H' I', Nx H I H' I' → Rp K I' v x → Q v H') → te σ H Q
/-- a new list -/
def EvN (te : TE) (δ : List Sl) (xs : List PyData) : Prop := ∀ G σ H I, Same I H → Same G H → RelS K G H I σ δ →
  ∀ Q : VK, (∀ p H1 I' vs, Nx H I H1 I' → H1 p = none → RpAll K I' vs xs → Q (.ref p) (upd H1 p (.lst vs))) → te σ H Q
def EvT (tt : TT) (δ : List Sl) (b : Bool) : Prop := ∀ G σ H I, Same I H → Same G H → RelS K G H I σ δ → ∀ Q : Bool → Hp → Prop, (∀ H' I', Nx H I H' I' → Q b H') → tt σ H Q
def EvA (ta : TA) (δ : List Sl) (xs : List PyData) : Prop := ∀ G σ H I, Same I H → Same G H → RelS K G H I σ δ → ∀ Q : List V → Hp → Prop, (∀ vs H' I', Nx H I H' I' → RpAll K I' vs xs → Q vs H') → ta σ H Q
def EvO (to : TO) (δ : List Sl) (o : Option Int) : Prop := ∀ G σ H I, Same I H → Same G H → RelS K G H I σ δ → ∀ Q : Option Int → Hp → Prop, (∀ H' I', Nx H I H' I' → Q o H') → to σ H Q
/-- it raises an error of the class at c -/
def EvX (E : XK) (te : TE) (δ : List Sl) (c : Value) : Prop := ∀ G σ H I, Same I H → Same G H → RelS K G H I σ δ → (∀ H', Same H H' → E c none H') → ∀ Q : VK, te σ H Q
def EvTX (E : XK) (te : TT) (δ : List Sl) (c : Value) : Prop := ∀ G σ H I, Same I H → Same G H → RelS K G H I σ δ → (∀ H', Same H H' → E c none H') → ∀ Q : Bool → Hp → Prop, te σ H Q
def EvAX (E : XK) (te : TA) (δ : List Sl) (c : Value) : Prop := ∀ G σ H I, Same I H → Same G H → RelS K G H I σ δ → (∀ H', Same H H' → E c none H') → ∀ Q : List V → Hp → Prop, te σ H Q
/-- operators by data: two operands, one, a call's arguments -/
def R2D (r : R2) (x y z : PyData) : Prop := ∀ H I v u, Same I H → Rp K I v x → Rp K I u y → ∀ Q : VK, (∀ w H' I', Nx H I H' I' → Rp K I' w z → Q w H') → r v u H Q
def RAD (r : List V → Hp → VK → Prop) (xs : List PyData) (z : PyData) : Prop := ∀ H I vs, Same I H → RpAll K I vs xs → ∀ Q : VK, (∀ w H' I', Nx H I H' I' → Rp K I' w z → Q w H') → r vs H Q
def RAN (r : List V → Hp → VK → Prop) (xs : List PyData) (zs : List PyData) : Prop := ∀ H I vs, Same I H → RpAll K I vs xs → ∀ Q : VK, (∀ p H1 I' ws, Nx H I H1 I' → H1 p = none → RpAll K I' ws zs → Q (.ref p) (upd H1 p (.lst ws))) → r vs H Q
end
section
variable {K : PySem.W.Frag} {δ : List Sl} {ta tb te : TE} {t u : TT} {x y z : PyData} {xs ys : List PyData}
theorem Nx.g {G H I H' I' : Hp} (n : Nx H I H' I') (g : Same G H) : Same G H' := g.trans n.h
/-- a new list becomes data -/
theorem EvN.ev (h : EvN K te δ xs) : Ev K te δ (.list xs) := fun G σ H I s g r Q q => h G σ H I s g r Q fun p H1 I' vs n hp rr =>
  q (.ref p) _ (upd I' p (.lst vs)) (n.trans (Nx.new n.s hp)) (.lst upd_same (rr.mono (same_new (n.s.free hp))))
theorem ev_var {i : Nat} (h : δ[i]? = some (.d x)) : Ev K (tVar i) δ x := fun G σ H I s g r Q q => by
  obtain ⟨v, h1, h2⟩ := r.d i x h
  exact ⟨v, h1, q v H I (Nx.refl s) h2⟩
theorem ev_int {i : Int} : Ev K (tC (.int i)) δ (.int i) := fun G σ H I s g r Q q => q _ H I (Nx.refl s) (.int i)
theorem ev_bl {b : Bool} : Ev K (tC (.bl b)) δ (.bool b) := fun G σ H I s g r Q q => q _ H I (Nx.refl s) (.bl b)
theorem ev_non : Ev K (tC .non) δ .none := fun G σ H I s g r Q q => q _ H I (Nx.refl s) .non
theorem ev_str {b : Str} : Ev K (tC (.str b)) δ (.str b) := fun G σ H I s g r Q q => q _ H I (Nx.refl s) (.str b)
theorem ev_op {r : R2} (ha : Ev K ta δ x) (hb : Ev K tb δ y) (hr : R2D K r x y z) : Ev K (tOp r ta tb) δ z := fun G σ H I s g rl Q q =>
  ha G σ H I s g rl _ fun v H1 I1 n1 r1 => hb G σ H1 I1 n1.s (n1.g g) (rl.next n1) _ fun u H2 I2 n2 r2 => hr H2 I2 v u n2.s (r1.mono n2.i) r2 Q fun w H3 I3 n3 r3 => q w H3 I3 ((n1.trans n2).trans n3) r3
theorem ev_cb {r : List V → Hp → VK → Prop} {t : TA} (ha : EvA K t δ xs) (hr : RAD K r xs z) : Ev K (tCB r t) δ z := fun G σ H I s g rl Q q =>
  ha G σ H I s g rl _ fun vs H1 I1 n1 r1 => hr H1 I1 vs n1.s r1 Q fun w H3 I3 n3 r3 => q w H3 I3 (n1.trans n3) r3
theorem en_cb {r : List V → Hp → VK → Prop} {t : TA} {zs : List PyData} (ha : EvA K t δ xs) (hr : RAN K r xs zs) : EvN K (tCB r t) δ zs := fun G σ H I s g rl Q q =>
  ha G σ H I s g rl _ fun vs H1 I1 n1 r1 => hr H1 I1 vs n1.s r1 Q fun p H3 I3 ws n3 hp r3 => q p H3 I3 ws (n1.trans n3) hp r3
theorem ea_nil : EvA K tNil δ [] := fun G σ H I s g r Q q => q [] H I (Nx.refl s) .nil
theorem ea_cons {t : TA} (ha : Ev K ta δ x) (hr : EvA K t δ xs) : EvA K (tCons ta t) δ (x :: xs) := fun G σ H I s g rl Q q =>
  ha G σ H I s g rl _ fun v H1 I1 n1 r1 => hr G σ H1 I1 n1.s (n1.g g) (rl.next n1) _ fun vs H2 I2 n2 r2 => q (v :: vs) H2 I2 (n1.trans n2) (.cons (r1.mono n2.i) r2)
theorem small_line {n : Nat} (h : n ≤ 100000) : n ≤ sizeLine := Nat.le_trans h (by decide)
theorem ev_tup {t : TA} (ha : EvA K t δ xs) (hz : xs.length ≤ sizeLine) : Ev K (tTup t) δ (.tuple xs) := fun G σ H I s g rl Q q =>
  ha G σ H I s g rl _ fun vs H1 I1 n1 r1 => ⟨by rw [r1.length]; exact hz, fun p hp => q (.ref p) _ (upd I1 p (.tup vs)) (n1.trans (Nx.new n1.s hp)) (.tup upd_same (r1.mono (same_new (n1.s.free hp))))⟩
theorem en_lst {t : TA} (ha : EvA K t δ xs) (hz : xs.length ≤ sizeLine) : EvN K (tLst t) δ xs := fun G σ H I s g rl Q q =>
  ha G σ H I s g rl _ fun vs H1 I1 n1 r1 => ⟨by rw [r1.length]; exact hz, fun p hp => q p H1 I1 vs n1 hp r1⟩
theorem et_test {b : Bool} (h : Ev K te δ (.bool b)) : EvT K (tTest te) δ b := fun G σ H I s g rl Q q =>
  h G σ H I s g rl _ fun v H1 I1 n1 r1 => by cases r1; exact ⟨b, rfl, q H1 I1 n1⟩
theorem et_B {b : Bool} (h : Ev K te δ (.bool b)) : EvT K (tB te) δ b := fun G σ H I s g rl Q q =>
  h G σ H I s g rl _ fun v H1 I1 n1 r1 => by cases r1; exact ⟨b, rfl, q H1 I1 n1⟩
theorem et_and {a b : Bool} (h1 : EvT K t δ a) (h2 : a = true → EvT K u δ b) : EvT K (tAnd t u) δ (a && b) := fun G σ H I s g rl Q q =>
  h1 G σ H I s g rl _ fun H1 I1 n1 => by
    cases a with
    | true =>
      show u σ H1 Q
      exact h2 rfl G σ H1 I1 n1.s (n1.g g) (rl.next n1) Q fun H2 I2 n2 => q H2 I2 (n1.trans n2)
    | false =>
      show Q false H1
      exact q H1 I1 n1
theorem et_or {a b : Bool} (h1 : EvT K t δ a) (h2 : a = false → EvT K u δ b) : EvT K (tOr t u) δ (a || b) := fun G σ H I s g rl Q q =>
  h1 G σ H I s g rl _ fun H1 I1 n1 => by
    cases a with
    | true =>
      show Q true H1
      exact q H1 I1 n1
    | false =>
      show u σ H1 Q
      exact h2 rfl G σ H1 I1 n1.s (n1.g g) (rl.next n1) Q fun H2 I2 n2 => q H2 I2 (n1.trans n2)
theorem et_not {a : Bool} (h1 : EvT K t δ a) : EvT K (tNot t) δ (!a) := fun G σ H I s g rl Q q => h1 G σ H I s g rl _ fun H1 I1 n1 => q H1 I1 n1
theorem ev_andV {a b : Bool} (h1 : Ev K ta δ (.bool a)) (h2 : a = true → Ev K tb δ (.bool b)) : Ev K (tAndV ta tb) δ (.bool (a && b)) := fun G σ H I s g rl Q q =>
  h1 G σ H I s g rl _ fun v H1 I1 n1 r1 => by
    cases r1
    refine ⟨a, rfl, ?_⟩
    cases a with
    | true =>
      show tb σ H1 Q
      exact h2 rfl G σ H1 I1 n1.s (n1.g g) (rl.next n1) Q fun w H2 I2 n2 r2 => q w H2 I2 (n1.trans n2) r2
    | false =>
      show Q (.bl false) H1
      exact q _ H1 I1 n1 (.bl false)
theorem ev_orV {a b : Bool} (h1 : Ev K ta δ (.bool a)) (h2 : a = false → Ev K tb δ (.bool b)) : Ev K (tOrV ta tb) δ (.bool (a || b)) := fun G σ H I s g rl Q q =>
  h1 G σ H I s g rl _ fun v H1 I1 n1 r1 => by
    cases r1
    refine ⟨a, rfl, ?_⟩
    cases a with
    | true =>
      show Q (.bl true) H1
      exact q _ H1 I1 n1 (.bl true)
    | false =>
      show tb σ H1 Q
      exact h2 rfl G σ H1 I1 n1.s (n1.g g) (rl.next n1) Q fun w H2 I2 n2 r2 => q w H2 I2 (n1.trans n2) r2
theorem ev_notV {a : Bool} (h1 : Ev K ta δ (.bool a)) : Ev K (tNotV ta) δ (.bool (!a)) := fun G σ H I s g rl Q q =>
  h1 G σ H I s g rl _ fun v H1 I1 n1 r1 => by cases r1; exact ⟨a, rfl, q _ H1 I1 n1 (.bl _)⟩
theorem ev_to (h : Ev K te δ x) (e : x = y) : Ev K te δ y := e ▸ h
theorem et_to {a b : Bool} (h : EvT K t δ a) (e : a = b) : EvT K t δ b := e ▸ h
theorem en_to (h : EvN K te δ xs) (e : xs = ys) : EvN K te δ ys := e ▸ h
theorem ev_if {b : Bool} (h : EvT K t δ b) (h1 : b = true → Ev K ta δ x) (h2 : b = false → Ev K tb δ x) : Ev K (tIf t ta tb) δ x := fun G σ H I s g rl Q q =>
  h G σ H I s g rl _ fun H1 I1 n1 => by
    cases b with
    | true =>
      show ta σ H1 Q
      exact h1 rfl G σ H1 I1 n1.s (n1.g g) (rl.next n1) Q fun w H2 I2 n2 r2 => q w H2 I2 (n1.trans n2) r2
    | false =>
      show tb σ H1 Q
      exact h2 rfl G σ H1 I1 n1.s (n1.g g) (rl.next n1) Q fun w H2 I2 n2 r2 => q w H2 I2 (n1.trans n2) r2
/-- a list of its own is read for something that holds no list: it is its own behind it -/
theorem ev_borrow {i : Nat} (e : δ[i]? = some (.own xs)) (h : Ev K te (δ.set i (.d (.list xs))) x) (hs : solid x = true) : Ev K te δ x := fun G σ H I s g r Q q => by
  obtain ⟨p, vs, h1, h2, h3, h4, h5⟩ := r.own i xs e
  have s2 : Same (upd I p (.lst vs)) H := fun b o eb => by
    by_cases hb : b = p
    · subst hb
      rw [upd_same] at eb
      cases eb
      exact h4
    · rw [upd_ne hb] at eb
      exact s b o eb
  refine h G σ H (upd I p (.lst vs)) s2 g (r.freeze s e h1 h4 h3 h5) Q fun v H' I' n rv => ?_
  have hp : I' p = some (.lst vs) := n.i p _ upd_same
  refine q v H' (fun b => if b = p then none else I' b) ⟨n.h, fun b o eb => ?_, fun b o eb => ?_, fun b o eb nb => ?_⟩ (rv.off hp hs)
  · have hb : b ≠ p := ne_of_none eb h3
    show (if b = p then none else I' b) = _
    rw [if_neg hb]
    exact n.i b o (by rw [upd_ne hb]; exact eb)
  · by_cases hb : b = p
    · have z : (if b = p then none else I' b) = some o := eb
      rw [if_pos hb] at z
      cases z
    · have z : (if b = p then none else I' b) = some o := eb
      rw [if_neg hb] at z
      exact n.s b o z
  · show (if b = p then none else I' b) = none
    by_cases hb : b = p
    · rw [if_pos hb]
    · rw [if_neg hb]
      exact n.f b o eb (by rw [upd_ne hb]; exact nb)
theorem et_borrow {i : Nat} {b : Bool} (e : δ[i]? = some (.own xs)) (h : EvT K t (δ.set i (.d (.list xs))) b) : EvT K t δ b := fun G σ H I s g r Q q => by
  obtain ⟨p, vs, h1, h2, h3, h4, h5⟩ := r.own i xs e
  have s2 : Same (upd I p (.lst vs)) H := fun b o eb => by
    by_cases hb : b = p
    · subst hb
      rw [upd_same] at eb
      cases eb
      exact h4
    · rw [upd_ne hb] at eb
      exact s b o eb
  refine h G σ H (upd I p (.lst vs)) s2 g (r.freeze s e h1 h4 h3 h5) Q fun H' I' n => ?_
  refine q H' (fun b => if b = p then none else I' b) ⟨n.h, fun b o eb => ?_, fun b o eb => ?_, fun b o eb nb => ?_⟩
  · have hb : b ≠ p := ne_of_none eb h3
    show (if b = p then none else I' b) = _
    rw [if_neg hb]
    exact n.i b o (by rw [upd_ne hb]; exact eb)
  · by_cases hb : b = p
    · have z : (if b = p then none else I' b) = some o := eb
      rw [if_pos hb] at z
      cases z
    · have z : (if b = p then none else I' b) = some o := eb
      rw [if_neg hb] at z
      exact n.s b o z
  · show (if b = p then none else I' b) = none
    by_cases hb : b = p
    · rw [if_pos hb]
    · rw [if_neg hb]
      exact n.f b o eb (by rw [upd_ne hb]; exact nb)
/-- slots that are not looked at may be forgotten -/
theorem ev_forget {i : Nat} (h : Ev K te (δ.set i .no) x) : Ev K te δ x := fun G σ H I s g r Q q => by
  have hr := r.none (i := i) (o := (σ[i]?).getD none)
  have e : σ.set i ((σ[i]?).getD none) = σ := by
    apply List.ext_getElem?
    intro j
    by_cases hj : j = i
    · subst hj
      by_cases hl : j < σ.length
      · rw [List.getElem?_set_self hl, List.getElem?_eq_getElem hl]
        rfl
      · rw [List.getElem?_eq_none_iff.mpr (by rw [List.length_set]; omega), List.getElem?_eq_none_iff.mpr (by omega)]
    · rw [List.getElem?_set_ne (Ne.symm hj)]
  rw [e] at hr
  exact h G σ H I s g hr Q q
end

/-! ### statements -/
inductive Out where
  | nx (δ : List Sl)
  | bk (δ : List Sl)
  | ct (δ : List Sl)
  | rt (x : PyData)
  /-- an error of the class at c, without a dict that is known; with its dict's fields -/
  | ex (c : Value)
  | exd (c : Value) (fs : List (Str × V))
structure Cov (K : PySem.W.Frag) (E : XK) (G I0 : Hp) (D : Ends) (P : Out → Prop) : Prop where
  nx : ∀ δ' σ' H' I', P (.nx δ') → Nx G I0 H' I' → RelS K G H' I' σ' δ' → D.nx σ' H'
  bk : ∀ δ' σ' H' I', P (.bk δ') → Nx G I0 H' I' → RelS K G H' I' σ' δ' → D.bk σ' H'
  ct : ∀ δ' σ' H' I', P (.ct δ') → Nx G I0 H' I' → RelS K G H' I' σ' δ' → D.ct σ' H'
  rt : ∀ x v H' I', P (.rt x) → Nx G I0 H' I' → Rp K I' v x → D.rt v H'
  ex : ∀ c H', P (.ex c) → Same G H' → E c none H'
  exd : ∀ c fs d H', P (.exd c fs) → Same G H' → H' d = some (.xd fs) → E c (some d) H'
def As (K : PySem.W.Frag) (E : XK) (t : TS) (δ : List Sl) (P : Out → Prop) : Prop := ∀ G I0 σ H I D, Nx G I0 H I → RelS K G H I σ δ → Cov K E G I0 D P → t D σ H
section
variable {K : PySem.W.Frag} {E : XK} {δ : List Sl} {ta tb te : TE} {tt : TT} {t u : TS} {x y z : PyData} {xs ys : List PyData} {P P' : Out → Prop}
/-- behind t comes u -/
def thenP (K : PySem.W.Frag) (E : XK) (u : TS) (P : Out → Prop) : Out → Prop
  | .nx δ' => As K E u δ' P
  | .bk δ' => P (.bk δ')
  | .ct δ' => P (.ct δ')
  | .rt x => P (.rt x)
  | .ex c => P (.ex c)
  | .exd c fs => P (.exd c fs)
theorem Cov.mono {G I0 : Hp} {D : Ends} (c : Cov K E G I0 D P) (h : ∀ o, P' o → P o) : Cov K E G I0 D P' :=
  ⟨fun a b d e p => c.nx a b d e (h _ p), fun a b d e p => c.bk a b d e (h _ p), fun a b d e p => c.ct a b d e (h _ p), fun a b d e p => c.rt a b d e (h _ p), fun a b p => c.ex a b (h _ p), fun a b d e p => c.exd a b d e (h _ p)⟩
theorem As.mono (a : As K E t δ P') (h : ∀ o, P' o → P o) : As K E t δ P := fun G I0 σ H I D n r c => a G I0 σ H I D n r (c.mono h)
theorem as_seq (h : As K E t δ (thenP K E u P)) : As K E (tSeq t u) δ P := fun G I0 σ H I D n r c =>
  h G I0 σ H I { D with nx := u D } n r
    ⟨fun δ' σ' H' I' p n' r' => p G I0 σ' H' I' D n' r' c, c.bk, c.ct, c.rt, c.ex, c.exd⟩
theorem as_next (h : P (.nx δ)) : As K E tNext δ P := fun G I0 σ H I D n r c => c.nx δ σ H I h n r
theorem as_brk (h : P (.bk δ)) : As K E tBreak δ P := fun G I0 σ H I D n r c => c.bk δ σ H I h n r
theorem as_cont (h : P (.ct δ)) : As K E tCont δ P := fun G I0 σ H I D n r c => c.ct δ σ H I h n r
theorem as_set {i : Nat} (h : Ev K te δ x) (k : P (.nx (δ.set i (.d x)))) : As K E (tAsg te (gName i)) δ P := fun G I0 σ H I D n r c =>
  h G σ H I n.s n.h r _ fun v H1 I1 n1 rv => c.nx _ _ H1 I1 k (n.trans n1) ((r.next n1).put rv)
theorem as_setN {i : Nat} (h : EvN K te δ xs) (k : P (.nx (δ.set i (.own xs)))) : As K E (tAsg te (gName i)) δ P := fun G I0 σ H I D n r c =>
  h G σ H I n.s n.h r _ fun p H1 I1 vs n1 hp rv =>
    c.nx _ _ _ I1 k ((n.trans n1).trans (Nx.own n1.s hp)) ((r.next n1).make n1.s (n1.g n.h) hp rv)
/-- a, b = e -/
theorem as_set2 {i j : Nat} (h : Ev K te δ (.tuple [x, y])) (k : P (.nx ((δ.set i (.d x)).set j (.d y)))) : As K E (tAsg te (gTup K 2 (gCons (gName i) (gCons (gName j) gNil)))) δ P := fun G I0 σ H I D n r c =>
  h G σ H I n.s n.h r _ fun v H1 I1 n1 rv => by
    cases rv with
    | tup hs ra =>
      cases ra with
      | cons r1 ra =>
        cases ra with
        | cons r2 ra =>
          cases ra
          exact ⟨_, _, rfl, .of (n1.s _ _ hs), rfl, _, _, rfl, _, _, rfl, rfl, c.nx _ _ H1 I1 k (n.trans n1) (((r.next n1).put r1).put r2)⟩
theorem as_ret (h : Ev K te δ x) (k : P (.rt x)) : As K E (tRet te) δ P := fun G I0 σ H I D n r c =>
  h G σ H I n.s n.h r _ fun v H1 I1 n1 rv => c.rt x v H1 I1 k (n.trans n1) rv
theorem as_retN (k : P (.rt .none)) : As K E tRetN δ P := fun G I0 σ H I D n r c => c.rt .none .non H I k n .non
theorem as_if {b : Bool} (h : EvT K tt δ b) (h1 : b = true → As K E t δ P) (h2 : b = false → As K E u δ P) : As K E (tIfS tt t u) δ P := fun G I0 σ H I D n r c =>
  h G σ H I n.s n.h r _ fun H1 I1 n1 => by
    cases b with
    | true =>
      show t D σ H1
      exact h1 rfl G I0 σ H1 I1 D (n.trans n1) (r.next n1) c
    | false =>
      show u D σ H1
      exact h2 rfl G I0 σ H1 I1 D (n.trans n1) (r.next n1) c
theorem as_drop (h : Ev K te δ x) (k : P (.nx δ)) : As K E (tDrop te) δ P := fun G I0 σ H I D n r c =>
  h G σ H I n.s n.h r _ fun v H1 I1 n1 rv => c.nx _ _ H1 I1 k (n.trans n1) (r.next n1)
theorem as_setX {i : Nat} {g : TG} {cl : Value} (h : EvX K E te δ cl) (k : P (.ex cl)) : As K E (tAsg te g) δ P := fun G I0 σ H I D n r c =>
  h G σ H I n.s n.h r (fun H' e => c.ex cl H' k (n.h.trans e)) _
theorem as_retX {cl : Value} (h : EvX K E te δ cl) (k : P (.ex cl)) : As K E (tRet te) δ P := fun G I0 σ H I D n r c =>
  h G σ H I n.s n.h r (fun H' e => c.ex cl H' k (n.h.trans e)) _
theorem as_dropX {cl : Value} (h : EvX K E te δ cl) (k : P (.ex cl)) : As K E (tDrop te) δ P := fun G I0 σ H I D n r c =>
  h G σ H I n.s n.h r (fun H' e => c.ex cl H' k (n.h.trans e)) _
/-- raise X('..') -/
def tRz (E : XK) (c : Value) : TS := fun _ _ H => E c none H
theorem as_raise {cl : Value} (k : P (.ex cl)) : As K E (tRz E cl) δ P := fun G I0 σ H I D n r c => c.ex cl H k n.h
theorem as_weak {i : Nat} (h : As K E t (δ.set i .no) P) : As K E t δ P := fun G I0 σ H I D n r c => by
  have hr := r.none (i := i) (o := (σ[i]?).getD none)
  have e : σ.set i ((σ[i]?).getD none) = σ := by
    apply List.ext_getElem?
    intro j
    by_cases hj : j = i
    · subst hj
      by_cases hl : j < σ.length
      · rw [List.getElem?_set_self hl, List.getElem?_eq_getElem hl]
        rfl
      · rw [List.getElem?_eq_none_iff.mpr (by rw [List.length_set]; omega), List.getElem?_eq_none_iff.mpr (by omega)]
    · rw [List.getElem?_set_ne (Ne.symm hj)]
  rw [e] at hr
  exact h G I0 σ H I D n hr c
/-- its own list becomes data -/
theorem as_freeze {i : Nat} (e : δ[i]? = some (.own xs)) (h : As K E t (δ.set i (.d (.list xs))) P) : As K E t δ P := fun G I0 σ H I D n r c => by
  obtain ⟨p, vs, h1, h2, h3, h4, h5⟩ := r.own i xs e
  refine h G I0 σ H (upd I p (.lst vs)) D ⟨n.h, n.i.trans (same_new h3), fun b o eb => ?_, fun b o eb nb => ?_⟩ (r.freeze n.s e h1 h4 h3 h5) c
  · by_cases hb : b = p
    · subst hb
      rw [upd_same] at eb
      cases eb
      exact h4
    · rw [upd_ne hb] at eb
      exact n.s b o eb
  · rw [upd_ne (ne_of_none eb h2)]
    exact n.f b o eb nb
/-- xs.append(e), xs its own -/
theorem as_app {i : Nat} (e : δ[i]? = some (.own xs)) (h : Ev K te δ x) (hz : xs.length < sizeLine) (k : P (.nx (δ.set i (.own (xs ++ [x]))))) :
    As K E (tDrop (tBM K "list" rAppend (tVar i) (tCons te tNil))) δ P := fun G I0 σ H I D n r c => by
  obtain ⟨p, vs, h1, h2, h3, h4, h5⟩ := r.own i xs e
  refine ⟨.ref p, h1, .inl ⟨rfl, _, .inl (.inl h4)⟩, ?_⟩
  refine h G σ H I n.s n.h r _ fun v H1 I1 n1 rv => ?_
  have r1 := r.next n1
  obtain ⟨p', vs', h1', h2', h3', h4', h5'⟩ := r1.own i xs e
  rw [h1] at h1'
  cases h1'
  refine ⟨p, vs', v, rfl, rfl, h4', by rw [h5'.length]; exact hz, ?_⟩
  have n2 := n.trans n1
  refine c.nx _ _ _ I1 k ⟨fun b o eb => ?_, n2.i, fun b o eb => ?_, n2.f⟩ (r1.write e h1 (h5'.app (.cons rv .nil)))
  · rw [upd_ne (ne_of_none eb h2)]
    exact n2.h b o eb
  · rw [upd_ne (ne_of_none eb h3')]
    exact n2.s b o eb
/-- xs.append(e), e a new list -/
theorem as_setI {i : Nat} {ti : TE} {j : Nat} {kk : Int} (e : δ[i]? = some (.own xs)) (hv : Ev K te δ x) (hi : Ev K ti δ (.int kk)) (hj : ixN xs.length kk = some j) (k : P (.nx (δ.set i (.own (xs.set j x))))) :
    As K E (tAsg te (gSub (tVar i) ti rSetL)) δ P := fun G I0 σ H I D n r c => by
  refine hv G σ H I n.s n.h r _ fun v H1 I1 n1 rv => ?_
  have r1 := r.next n1
  obtain ⟨p, vs, h1, h2, h3, h4, h5⟩ := r1.own i xs e
  refine ⟨.ref p, h1, ?_⟩
  refine hi G σ H1 I1 n1.s (n1.g n.h) r1 _ fun w H2 I2 n2 rw' => ?_
  cases rw'
  have r2 := r1.next n2
  obtain ⟨p', vs', h1', h2', h3', h4', h5'⟩ := r2.own i xs e
  rw [h1] at h1'
  cases h1'
  have n3 := (n.trans n1).trans n2
  refine ⟨p, vs', kk, j, rfl, rfl, h4', by rw [h5'.length]; exact hj, ?_⟩
  refine c.nx _ _ _ I2 k ⟨fun b o eb => ?_, n3.i, fun b o eb => ?_, n3.f⟩ (r2.write e h1 (RpAll.set (rv.mono n2.i) j h5'))
  · rw [upd_ne (ne_of_none eb h2')]
    exact n3.h b o eb
  · rw [upd_ne (ne_of_none eb h3')]
    exact n3.s b o eb
/-- xs.extend(e), e a new list -/
theorem as_ext {i : Nat} (e : δ[i]? = some (.own xs)) (h : EvN K te δ ys) (hz : xs.length + ys.length ≤ sizeLine) (k : P (.nx (δ.set i (.own (xs ++ ys))))) :
    As K E (tDrop (tBM K "list" rExtend (tVar i) (tCons te tNil))) δ P := fun G I0 σ H I D n r c => by
  obtain ⟨p, vs, h1, h2, h3, h4, h5⟩ := r.own i xs e
  refine ⟨.ref p, h1, .inl ⟨rfl, _, .inl (.inl h4)⟩, ?_⟩
  refine h G σ H I n.s n.h r _ fun q H1 I1 ws n1 hq rv => ?_
  have n1' := n1.trans (Nx.own (o := .lst ws) n1.s hq)
  have r1 := r.next n1'
  obtain ⟨p', vs', h1', h2', h3', h4', h5'⟩ := r1.own i xs e
  rw [h1] at h1'
  cases h1'
  refine ⟨p, q, vs', ws, rfl, rfl, h4', upd_same, by rw [h5'.length, rv.length]; exact hz, ?_⟩
  have n2 := n.trans n1'
  refine c.nx _ _ _ I1 k ⟨fun b o eb => ?_, n2.i, fun b o eb => ?_, n2.f⟩ (r1.write e h1 (h5'.app rv))
  · rw [upd_ne (ne_of_none eb h2)]
    exact n2.h b o eb
  · rw [upd_ne (ne_of_none eb h3')]
    exact n2.s b o eb

/-! ### while -/
theorem as_while (W : Nat → List Sl → Prop) (m0 : Nat) (h0 : W m0 δ)
    (hs : ∀ m δ', W m δ' → ∃ b, EvT K tt δ' b ∧ (b = true → As K E t δ' (fun o => match o with
        | .nx δ3 => ∃ m', m' < m ∧ W m' δ3
        | .ct δ3 => ∃ m', m' < m ∧ W m' δ3
        | .bk δ3 => P (.nx δ3)
        | .rt x => P (.rt x)
        | .ex c => P (.ex c)
        | .exd c fs => P (.exd c fs))) ∧ (b = false → P (.nx δ'))) : As K E (tWhile tt t) δ P := fun G I0 σ H I D n r c => by
  refine ⟨fun m σ' H' => ∃ δ' I', W m δ' ∧ Nx G I0 H' I' ∧ RelS K G H' I' σ' δ', ⟨m0, δ, I, h0, n, r⟩, fun m σ1 H1 w1 => ?_⟩
  obtain ⟨δ1, I1, w1, n1, r1⟩ := w1
  obtain ⟨b, ht, hb1, hb2⟩ := hs m δ1 w1
  refine ht G σ1 H1 I1 n1.s n1.h r1 _ fun H2 I2 n2 => ?_
  cases b with
  | true =>
    rw [if_pos rfl]
    refine ⟨fun σ' H' => ∃ m', m' < m ∧ ∃ δ' I', W m' δ' ∧ Nx G I0 H' I' ∧ RelS K G H' I' σ' δ', fun _ _ q => q, ?_⟩
    refine hb1 rfl G I0 σ1 H2 I2 _ (n1.trans n2) (r1.next n2) ⟨fun δ' σ' H' I' p n' r' => ?_, fun δ' σ' H' I' p n' r' => c.nx δ' σ' H' I' p n' r', fun δ' σ' H' I' p n' r' => ?_, c.rt, c.ex, c.exd⟩
    · obtain ⟨m', hm, w'⟩ := p
      exact ⟨m', hm, δ', I', w', n', r'⟩
    · obtain ⟨m', hm, w'⟩ := p
      exact ⟨m', hm, δ', I', w', n', r'⟩
  | false =>
    rw [if_neg Bool.false_ne_true]
    exact c.nx δ1 σ1 H2 I2 (hb2 rfl) (n1.trans n2) (r1.next n2)
end

/-! ### what is walked -/
/-- J yields these, one after another, wherever the world has come from (H0, I0) -/
structure WalkD (K : PySem.W.Frag) (J : It) (I0 : Hp) (items : List PyData) : Prop where
  goes : ∀ i H I, Same I0 I → Same I H → i < items.length → J.go i H
  stops : ∀ H I, Same I0 I → Same I H → J.stop items.length H
  yields : ∀ i H I x H', Same I0 I → Same I H → i < items.length → J.yld i H x H' → ∃ I', Nx H I H' I' ∧ ∀ d, items[i]? = some d → Rp K I' x d
def EvI (K : PySem.W.Frag) (wi : TI) (δ : List Sl) (items : List PyData) : Prop := ∀ G σ H I, Same I H → Same G H → RelS K G H I σ δ → ∀ R : It → Hp → Prop, (∀ J H' I', Nx H I H' I' → WalkD K J I' items → R J H') → wi σ H R
/-- a target -/
def Ag (K : PySem.W.Frag) (g : TG) (x : PyData) (δ : List Sl) (Pd : List Sl → Prop) : Prop := ∀ G σ H I v, RelS K G H I σ δ → Same I H → Rp K I v x → ∀ Q : L2.St → Hp → Prop, (∀ δ' σ', Pd δ' → RelS K G H I σ' δ' → Q σ' H) → g v σ H Q
section
variable {K : PySem.W.Frag} {E : XK} {δ : List Sl} {ta tb te : TE} {tt : TT} {t u : TS} {x y z : PyData} {xs ys : List PyData} {P P' : Out → Prop} {Pd : List Sl → Prop}
theorem ag_name {i : Nat} (k : Pd (δ.set i (.d x))) : Ag K (gName i) x δ Pd := fun G σ H I v r s rv Q q => q _ _ k (r.put rv)
theorem ag_tup2 {i j : Nat} (k : Pd ((δ.set i (.d x)).set j (.d y))) : Ag K (gTup K 2 (gCons (gName i) (gCons (gName j) gNil))) (.tuple [x, y]) δ Pd := fun G σ H I v r s rv Q q => by
  cases rv with
  | tup hs ra =>
    cases ra with
    | cons r1 ra =>
      cases ra with
      | cons r2 ra =>
        cases ra
        exact ⟨_, _, rfl, .of (s _ _ hs), rfl, _, _, rfl, _, _, rfl, rfl, q _ _ k ((r.put r1).put r2)⟩
theorem ag_tup3 {i j l : Nat} (k : Pd (((δ.set i (.d x)).set j (.d y)).set l (.d z))) : Ag K (gTup K 3 (gCons (gName i) (gCons (gName j) (gCons (gName l) gNil)))) (.tuple [x, y, z]) δ Pd := fun G σ H I v r s rv Q q => by
  cases rv with
  | tup hs ra =>
    cases ra with
    | cons r1 ra =>
      cases ra with
      | cons r2 ra =>
        cases ra with
        | cons r3 ra =>
          cases ra
          exact ⟨_, _, rfl, .of (s _ _ hs), rfl, _, _, rfl, _, _, rfl, _, _, rfl, rfl, q _ _ k (((r.put r1).put r2).put r3)⟩
theorem ei_list (h : Ev K te δ (.list xs)) : EvI K (iList K te) δ xs := fun G σ H I s g r R q =>
  h G σ H I s g r _ fun v H1 I1 n1 rv => by
    cases rv with
    | lst hs ra =>
      refine ⟨_, rfl, ⟨_, .of (n1.s _ _ hs)⟩, q _ H1 I1 n1 ⟨fun i H2 I2 e1 e2 hi => ?_, fun H2 I2 e1 e2 => ?_, fun i H2 I2 w H3 e1 e2 hi y => ?_⟩⟩
      · obtain ⟨v, hv, _⟩ := ra.get (List.getElem?_eq_getElem hi)
        exact ⟨_, v, SqL.of ((e1.trans e2) _ _ hs), hv⟩
      · exact ⟨_, SqL.of ((e1.trans e2) _ _ hs), by rw [ra.length]; exact Nat.le_refl _⟩
      · obtain ⟨e, y⟩ := y
        subst e
        refine ⟨I2, Nx.refl e2, fun d hd => ?_⟩
        obtain ⟨v, hv, rv⟩ := ra.get hd
        have hw := y _ (SqL.of ((e1.trans e2) _ _ hs))
        rw [hv] at hw
        cases hw
        exact rv.mono e1
theorem ei_tup (h : Ev K te δ (.tuple xs)) : EvI K (iTup K te) δ xs := fun G σ H I s g r R q =>
  h G σ H I s g r _ fun v H1 I1 n1 rv => by
    cases rv with
    | tup hs ra =>
      refine ⟨_, rfl, ⟨_, .of (n1.s _ _ hs)⟩, q _ H1 I1 n1 ⟨fun i H2 I2 e1 e2 hi => ?_, fun H2 I2 e1 e2 => ?_, fun i H2 I2 w H3 e1 e2 hi y => ?_⟩⟩
      · obtain ⟨v, hv, _⟩ := ra.get (List.getElem?_eq_getElem hi)
        exact ⟨_, v, SqT.of ((e1.trans e2) _ _ hs), hv⟩
      · exact ⟨_, SqT.of ((e1.trans e2) _ _ hs), by rw [ra.length]; exact Nat.le_refl _⟩
      · obtain ⟨e, y⟩ := y
        subst e
        refine ⟨I2, Nx.refl e2, fun d hd => ?_⟩
        obtain ⟨v, hv, rv⟩ := ra.get hd
        have hw := y _ (SqT.of ((e1.trans e2) _ _ hs))
        rw [hv] at hw
        cases hw
        exact rv.mono e1
/-- lo, lo + 1, .. -/
def nums (lo : Int) (n : Nat) : List PyData := (List.range n).map fun (i : Nat) => PyData.int (lo + i)
theorem nums_len {lo : Int} {n : Nat} : (nums lo n).length = n := by unfold nums; rw [List.length_map, List.length_range]
theorem nums_get {lo : Int} {n i : Nat} {d : PyData} (h : (nums lo n)[i]? = some d) : i < n ∧ d = .int (lo + i) := by
  unfold nums at h
  rw [List.getElem?_map] at h
  by_cases hi : i < n
  · rw [List.getElem?_range hi] at h
    exact ⟨hi, (Option.some.inj h).symm⟩
  · rw [List.getElem?_eq_none_iff.mpr (by rw [List.length_range]; omega)] at h
    cases h
theorem walk_nums {I0 : Hp} {lo : Int} {n : Nat} : WalkD K (Itr lo n) I0 (nums lo n) := by
  refine ⟨fun i H2 I2 e1 e2 hi => ?_, fun H2 I2 e1 e2 => ?_, fun i H2 I2 w H3 e1 e2 hi y => ?_⟩
  · rw [nums_len] at hi
    exact hi
  · show n ≤ (nums lo n).length
    rw [nums_len]
    exact Nat.le_refl _
  · obtain ⟨e, y⟩ := y
    subst e y
    refine ⟨I2, Nx.refl e2, fun d hd => ?_⟩
    obtain ⟨_, rfl⟩ := nums_get hd
    exact .int _
theorem ei_rng1 {t : TA} {n : Int} (h : EvA K t δ [.int n]) (h1 : -(2 ^ 62) ≤ n) (h2 : n < 2 ^ 62) : EvI K (iRng1 t) δ (nums 0 n.toNat) := fun G σ H I s g r R q =>
  h G σ H I s g r _ fun vs H1 I1 n1 rv => by
    cases rv with
    | cons r1 rv =>
      cases rv
      cases r1
      exact ⟨n, rfl, h1, h2, q _ H1 I1 n1 walk_nums⟩

/-- for target in ..: body -/
theorem as_for {wi : TI} {g : TG} (hi : EvI K wi δ xs) (Pv : Nat → List Sl → Prop) (h0 : Pv 0 δ)
    (hs : ∀ i d δ', xs[i]? = some d → Pv i δ' → Ag K g d δ' (fun δ2 => As K E t δ2 (fun o => match o with
        | .nx δ3 => Pv (i + 1) δ3
        | .ct δ3 => Pv (i + 1) δ3
        | .bk δ3 => P (.nx δ3)
        | .rt x => P (.rt x)
        | .ex c => P (.ex c)
        | .exd c fs => P (.exd c fs)))) (hd : ∀ δ', Pv xs.length δ' → P (.nx δ')) : As K E (tFor wi g t) δ P := fun G I0 σ H I D n r c => by
  refine hi G σ H I n.s n.h r _ fun J H1 I1 n1 w => ?_
  have nb := n.trans n1
  refine ⟨fun i m σ' H' => m = xs.length - i ∧ i ≤ xs.length ∧ ∃ δ' I', Pv i δ' ∧ Nx G I1 H' I' ∧ RelS K G H' I' σ' δ', ⟨xs.length, by simp, Nat.zero_le _, δ, I1, h0, nb.here, r.next n1⟩, ?_⟩
  rintro i m σ2 H2 ⟨rfl, hle, δ2, I2, p2, n2, r2⟩
  by_cases hlt : i < xs.length
  · refine .inr ⟨w.goes i H2 I2 n2.i n2.s hlt, fun σ' H' => ∃ δ' I', Pv (i + 1) δ' ∧ Nx G I1 H' I' ∧ RelS K G H' I' σ' δ', fun σ' H' ⟨δ', I', a, b, cc⟩ => ⟨xs.length - (i + 1), by omega, rfl, hlt, δ', I', a, b, cc⟩, fun v H3 y => ?_⟩
    obtain ⟨I3, n3, rv⟩ := w.yields i H2 I2 v H3 n2.i n2.s hlt y
    have n3' := n2.trans n3
    refine hs i _ δ2 (List.getElem?_eq_getElem hlt) p2 G σ2 H3 I3 v (r2.next n3) n3.s (rv _ (List.getElem?_eq_getElem hlt)) _ fun δ4 σ4 a4 r4 => ?_
    refine a4 G I1 σ4 H3 I3 _ n3' r4 ⟨fun δ' σ' H' I' p n' r' => ⟨δ', I', p, n', r'⟩, fun δ' σ' H' I' p n' r' => c.nx δ' σ' H' I' p (nb.rebase n') r', fun δ' σ' H' I' p n' r' => ⟨δ', I', p, n', r'⟩, fun x v H' I' p n' r' => c.rt x v H' I' p (nb.rebase n') r', c.ex, c.exd⟩
  · have e : i = xs.length := by omega
    subst e
    exact .inl ⟨w.stops H2 I2 n2.i n2.s, c.nx δ2 σ2 H2 I2 (hd δ2 p2) (nb.rebase n2) r2⟩

/-! ### comprehensions -/
def wipeD (δ : List Sl) : List Nat → List Sl
  | [] => δ
  | v :: vs => (wipeD δ vs).set v .no
theorem RelS.wipe {G H I : Hp} {σ : L2.St} {δ : List Sl} (r : RelS K G H I σ δ) : ∀ vs : List Nat, RelS K G H I (L2.wipe σ vs) (wipeD δ vs)
  | [] => r
  | v :: vs => (RelS.wipe r vs).none
/-- the target's slots lie among the wiped ones -/
def GWipe (g : TG) (vs : List Nat) : Prop := ∀ v σ H (Q Q' : L2.St → Hp → Prop), (∀ σ', L2.wipe σ' vs = L2.wipe σ vs → Q σ' H → Q' σ' H) → g v (L2.wipe σ vs) H Q → g v (L2.wipe σ vs) H Q'
/-- what a comprehension collects: c i tells whether the i-th item is kept, f i its value -/
def kept (n : Nat) (c : Nat → Bool) (f : Nat → PyData) : List PyData := ((List.range n).filter c).map f
theorem kept_zero {c : Nat → Bool} {f : Nat → PyData} : kept 0 c f = [] := rfl
theorem kept_yes {n : Nat} {c : Nat → Bool} {f : Nat → PyData} (h : c n = true) : kept (n + 1) c f = kept n c f ++ [f n] := by
  unfold kept
  rw [List.range_succ, List.filter_append, List.map_append, List.filter_cons, if_pos h]
  rfl
theorem kept_no {n : Nat} {c : Nat → Bool} {f : Nat → PyData} (h : c n = false) : kept (n + 1) c f = kept n c f := by
  unfold kept
  rw [List.range_succ, List.filter_append, List.map_append, List.filter_cons, if_neg (by rw [h]; decide)]
  show _ ++ [] = _
  rw [List.append_nil]
theorem kept_len (n : Nat) (c : Nat → Bool) (f : Nat → PyData) : (kept n c f).length ≤ n := by
  unfold kept
  rw [List.length_map]
  have h := List.length_filter_le c (List.range n)
  rw [List.length_range] at h
  exact h
theorem en_lc {wi : TI} {g : TG} {vs : List Nat} (c : Nat → Bool) (f : Nat → PyData) (hi : EvI K wi δ xs) (hz : xs.length ≤ sizeLine) (hw : GWipe g vs)
    (hs : ∀ i d, xs[i]? = some d → Ag K g d (wipeD δ vs) (fun δ2 => EvT K tt δ2 (c i) ∧ (c i = true → Ev K te δ2 (f i)))) : EvN K (tLc wi g tt te vs) δ (kept xs.length c f) := fun G σ H I s gg r Q q => by
  refine hi G σ H I s gg r _ fun J H1 I1 n1 w => ?_
  intro D hD
  -- the list at D stands in H alone
  have key : ∀ i m H2, (m = xs.length - i ∧ i ≤ xs.length ∧ ∃ H3 I3 ws, H3 D = none ∧ Nx H1 I1 H3 I3 ∧ H2 = upd H3 D (.lst ws) ∧ RpAll K I3 ws (kept i c f)) →
      (J.stop i H2 ∧ Q (.ref D) H2) ∨ (J.go i H2 ∧ ∃ Nt : Hp → Prop, (∀ H', Nt H' → ∃ m', m' < m ∧ (m' = xs.length - (i + 1) ∧ i + 1 ≤ xs.length ∧ ∃ H3 I3 ws, H3 D = none ∧ Nx H1 I1 H3 I3 ∧ H' = upd H3 D (.lst ws) ∧ RpAll K I3 ws (kept (i + 1) c f))) ∧
        ∀ x H', J.yld i H2 x H' → g x (L2.wipe σ vs) H' fun σ2 H2 => L2.wipe σ2 vs = L2.wipe σ vs ∧ tt σ2 H2 fun b H3 =>
          if b = true then te σ2 H3 fun y H4 => ∃ acc, H4 D = some (.lst acc) ∧ acc.length < sizeLine ∧ Nt (upd H4 D (.lst (acc ++ [y]))) else Nt H3) := by
    rintro i m H2 ⟨rfl, hle, H3, I3, ws, hD3, n3, rfl, rw3⟩
    have s3 : Same I3 (upd H3 D (.lst ws)) := n3.s.trans (same_new hD3)
    have nO : Nx H3 I3 (upd H3 D (.lst ws)) I3 := Nx.own n3.s hD3
    by_cases hlt : i < xs.length
    · refine .inr ⟨w.goes i _ I3 n3.i s3 hlt, fun H' => i + 1 ≤ xs.length ∧ ∃ H3 I3 ws, H3 D = none ∧ Nx H1 I1 H3 I3 ∧ H' = upd H3 D (.lst ws) ∧ RpAll K I3 ws (kept (i + 1) c f), fun H' p => ⟨xs.length - (i + 1), by omega, rfl, p⟩, fun x H4 y => ?_⟩
      obtain ⟨I4, n4, rv⟩ := w.yields i _ I3 x H4 n3.i s3 hlt y
      have hx : xs[i]? = some xs[i] := List.getElem?_eq_getElem hlt
      have hD4 : H4 D = some (.lst ws) := n4.h D _ upd_same
      have iD4 : I4 D = none := n4.f D _ upd_same (n3.s.free hD3)
      have r4 : RelS K G H4 I4 σ δ := ((r.next n1).next (n3.trans nO)).next n4
      have g4 : Same G H4 := ((gg.trans n1.h).trans (n3.trans nO).h).trans n4.h
      -- a state behind H4 in which D still holds ws: what stands without D
      have back : ∀ H5 I5, Nx H4 I4 H5 I5 → ∀ ws' ys, RpAll K I5 ws' ys → ∃ H6 I6 ws2, H6 D = none ∧ Nx H1 I1 H6 I6 ∧ upd H5 D (.lst ws') = upd H6 D (.lst ws2) ∧ RpAll K I6 ws2 ys := fun H5 I5 n5 ws' ys ra => by
        have hD5 : H5 D = some (.lst ws) := n5.h D _ hD4
        have iD5 : I5 D = none := n5.f D _ hD4 iD4
        have nn := (nO.trans n4).trans n5
        refine ⟨fun b => if b = D then none else H5 b, I5, ws', if_pos rfl, ⟨fun b o eb => ?_, (n3.i.trans n4.i).trans n5.i, fun b o eb => ?_, fun b o eb nb => ?_⟩, ?_, ra⟩
        · have hb : b ≠ D := ne_of_none eb hD
          show (if b = D then none else H5 b) = _
          rw [if_neg hb]
          exact nn.h b o (n3.h b o eb)
        · have hb : b ≠ D := ne_of_none eb iD5
          show (if b = D then none else H5 b) = _
          rw [if_neg hb]
          exact n5.s b o eb
        · exact nn.f b o (n3.h b o eb) (n3.f b o eb nb)
        · funext b
          unfold upd
          by_cases hb : b = D
          · rw [if_pos hb, if_pos hb]
          · rw [if_neg hb, if_neg hb]
            exact (if_neg hb).symm
      refine hw x σ H4 (fun σ2 H2 => tt σ2 H2 fun b H3 => if b = true then te σ2 H3 fun y H4 => ∃ acc, H4 D = some (.lst acc) ∧ acc.length < sizeLine ∧ (i + 1 ≤ xs.length ∧ ∃ H3' I3 ws, H3' D = none ∧ Nx H1 I1 H3' I3 ∧ upd H4 D (.lst (acc ++ [y])) = upd H3' D (.lst ws) ∧ RpAll K I3 ws (kept (i + 1) c f)) else (i + 1 ≤ xs.length ∧ ∃ H3' I3 ws, H3' D = none ∧ Nx H1 I1 H3' I3 ∧ H3 = upd H3' D (.lst ws) ∧ RpAll K I3 ws (kept (i + 1) c f))) _ (fun σ' e q => ⟨e, q⟩) ?_
      refine hs i _ hx G (L2.wipe σ vs) H4 I4 x (r4.wipe vs) n4.s (rv _ hx) _ fun δ5 σ5 a5 r5 => ?_
      refine a5.1 G σ5 H4 I4 n4.s g4 r5 _ fun H5 I5 n5 => ?_
      cases hc : c i with
      | true =>
        rw [if_pos rfl]
        refine a5.2 hc G σ5 H5 I5 n5.s (n5.g g4) (r5.next n5) _ fun v H6 I6 n6 rv6 => ?_
        have nn := n5.trans n6
        have hl : ws.length ≤ i := by rw [rw3.length]; exact kept_len _ _ _
        refine ⟨ws, nn.h D _ hD4, by omega, hlt, back H6 I6 nn _ _ ?_⟩
        rw [kept_yes hc]
        exact (rw3.mono (n4.i.trans nn.i)).app (.cons rv6 .nil)
      | false =>
        rw [if_neg Bool.false_ne_true]
        obtain ⟨H6, I6, ws2, b1, b2, b3, b4⟩ := back H5 I5 n5 ws (kept (i + 1) c f) (by rw [kept_no hc]; exact rw3.mono (n4.i.trans n5.i))
        refine ⟨hlt, H6, I6, ws2, b1, b2, ?_, b4⟩
        rw [← b3]
        funext b
        unfold upd
        by_cases hb : b = D
        · rw [if_pos hb, hb]
          exact n5.h D _ hD4
        · rw [if_neg hb]
    · have e : i = xs.length := by omega
      subst e
      exact .inl ⟨w.stops _ I3 n3.i s3, q D H3 I3 ws (n1.trans n3) hD3 rw3⟩
  refine ⟨fun i m H2 => m = xs.length - i ∧ i ≤ xs.length ∧ ∃ H3 I3 ws, H3 D = none ∧ Nx H1 I1 H3 I3 ∧ H2 = upd H3 D (.lst ws) ∧ RpAll K I3 ws (kept i c f), ⟨xs.length, by simp, Nat.zero_le _, H1, I1, [], hD, Nx.refl n1.s, rfl, .nil⟩, fun i m H2 p => key i m H2 p⟩
theorem gw_name {i : Nat} {vs : List Nat} (h : ∀ σ : L2.St, ∀ v, L2.wipe ((L2.wipe σ vs).set i (some v)) vs = L2.wipe σ vs) : GWipe (gName i) vs := fun v σ H Q Q' k q => k _ (h σ v) q
theorem kept_map {n : Nat} {f : Nat → PyData} : kept n (fun _ => true) f = (List.range n).map f := by
  unfold kept
  rw [List.filter_eq_self.mpr (fun _ _ => rfl)]
theorem et_yes : EvT K tYes δ true := fun G σ H I s g r Q q => q H I (Nx.refl s)
end

/-! ### defs -/
/-- the promise of a def over data: F tells what comes of the arguments -/
def SpD (K : PySem.W.Frag) (F : List PyData → Out → Prop) : Sp := fun vs H Q E => ∃ I ds o, Same I H ∧ RpAll K I vs ds ∧ F ds o ∧ match o with
  | .rt x => ∀ v H' I', Nx H I H' I' → Rp K I' v x → Q v H'
  | .ex c => ∀ H', Same H H' → E c none H'
  | .exd c fs => ∀ d H', Same H H' → H' d = some (.xd fs) → E c (some d) H'
  | _ => False
/-- the slots at the start -/
def slots0 (n : Nat) (ds : List PyData) : List Sl := ds.map .d ++ List.replicate (n - ds.length) .no
/-- the body's end is the call's -/
def finP (o : Out) : Out → Prop
  | .rt x => o = .rt x
  | .nx _ => o = .rt .none
  | .ex c => o = .ex c
  | .exd c fs => o = .exd c fs
  | _ => False
theorem rel_start {K : PySem.W.Frag} {H I : Hp} {N : List Str} {vs : List V} {ds : List PyData} (r : RpAll K I vs ds) : RelS K H H I (L2.start N vs) (slots0 N.length ds) where
  len := by
    unfold L2.start slots0
    rw [List.length_append, List.length_append, List.length_map, List.length_map, List.length_replicate, List.length_replicate, r.length]
  d := fun i x e => by
    unfold slots0 at e
    by_cases hi : i < ds.length
    · rw [List.getElem?_append_left (by rw [List.length_map]; exact hi), List.getElem?_map, List.getElem?_eq_getElem hi] at e
      have e' : Sl.d ds[i] = .d x := Option.some.inj e
      cases e'
      obtain ⟨v, hv, rv⟩ := r.get (List.getElem?_eq_getElem hi)
      refine ⟨v, ?_, rv⟩
      unfold L2.start
      rw [List.getElem?_append_left (by rw [List.length_map, r.length]; exact hi), List.getElem?_map, hv]
      rfl
    · rw [List.getElem?_append_right (by rw [List.length_map]; omega)] at e
      have := List.mem_of_getElem? e
      have := List.eq_of_mem_replicate this
      cases this
  own := fun i xs e => by
    unfold slots0 at e
    by_cases hi : i < ds.length
    · rw [List.getElem?_append_left (by rw [List.length_map]; exact hi), List.getElem?_map, List.getElem?_eq_getElem hi] at e
      have e' : Sl.d ds[i] = .own xs := Option.some.inj e
      cases e'
    · rw [List.getElem?_append_right (by rw [List.length_map]; omega)] at e
      have := List.mem_of_getElem? e
      have := List.eq_of_mem_replicate this
      cases this
  sep := fun i j xs ys p hn e1 e2 => by
    unfold slots0 at e1
    by_cases hi : i < ds.length
    · rw [List.getElem?_append_left (by rw [List.length_map]; exact hi), List.getElem?_map, List.getElem?_eq_getElem hi] at e1
      have e' : Sl.d ds[i] = .own xs := Option.some.inj e1
      cases e'
    · rw [List.getElem?_append_right (by rw [List.length_map]; omega)] at e1
      have := List.mem_of_getElem? e1
      have := List.eq_of_mem_replicate this
      cases this
theorem as_run {K : PySem.W.Frag} {N : List Str} {t : TS} {F : List PyData → Out → Prop} {vs : List V} {H : Hp} {Q : VK} {E : XK} (h : SpD K F vs H Q E) (ha : ∀ ds o, F ds o → As K E t (slots0 N.length ds) (finP o)) :
    t { nx := fun _ H' => Q .non H', rt := Q } (L2.start N vs) H := by
  obtain ⟨I, ds, o, s, r, f, k⟩ := h
  refine ha ds o f H I (L2.start N vs) H I _ (Nx.refl s) (rel_start r) ⟨fun δ' σ' H' I' p n' r' => ?_, fun δ' σ' H' I' p => p.elim, fun δ' σ' H' I' p => p.elim, fun x v H' I' p n' r' => ?_, fun c H' p e => ?_, fun c fs d H' p e e2 => ?_⟩
  · have p' : o = .rt .none := p
    subst p'
    exact k .non H' I' n' .non
  · have p' : o = .rt x := p
    subst p'
    exact k v H' I' n' r'
  · have p' : o = .ex c := p
    subst p'
    exact k H' e
  · have p' : o = .exd c fs := p
    subst p'
    exact k d H' e e2
theorem sp_len {K : PySem.W.Frag} {F : List PyData → Out → Prop} {n : Nat} (h : ∀ ds o, F ds o → ds.length = n) : ∀ vs H Q E, SpD K F vs H Q E → vs.length = n := fun vs H Q E ⟨I, ds, o, s, r, f, k⟩ => by
  rw [r.length]
  exact h ds o f
section
variable {P : Program} {w : World} {K : PySem.W.Frag} {mg : Str → Option Value} {base : Heap}
/-- a def: its body's term t, and what it comes to over data -/
theorem def_ok {x qual : Str} {st : Stmt} {f : Addr} {fd : FuncData} {N ps : List Str} {k : Nat} {F : List PyData → Out → Prop} (FF : Fun K x qual st f fd) (S : FnScope N ps (defScope st)) (len : ∀ ds o, F ds o → ds.length = ps.length)
    (hbody : ∀ (cdv : Value) (A : Around) (outer : List Env) (s : Shared) (H : Hp) (E : XK), Room k (A.deeper (envOfC qual (defScope st) s.heap.objs.size f cdv)) →
      ∃ t, PSs (cxOf (L2.CX P w) P w K mg base N qual (defScope st) f cdv A outer s H E) (defBody st) t ∧ ∀ ds o, F ds o → As K E t (slots0 N.length ds) (finP o)) : FnOk P w K mg base (L2.CX P w) (k + 1) f fd ps (SpD K F) := by
  refine FF.okX S (sp_len len) (fun cdv A outer s H vs Q E hr h => ?_)
  obtain ⟨t, h1, h2⟩ := hbody cdv A outer s H E hr
  exact ⟨t, h1, as_run h h2⟩
/-- the law itself: nothing leaves it -/
theorem law_ok {x qual : Str} {st : Stmt} {f : Addr} {fd : FuncData} {N ps : List Str} {k : Nat} {F : List PyData → Out → Prop} (FF : Fun K x qual st f fd) (S : FnScope N ps (defScope st)) (len : ∀ ds o, F ds o → ds.length = ps.length)
    (hbody : ∀ (cdv : Value) (A : Around) (outer : List Env) (s : Shared) (H : Hp) (E : XK), Room k (A.deeper (envOfC qual (defScope st) s.heap.objs.size f cdv)) →
      ∃ t, PSs (cxOf CX0 P w K mg base N qual (defScope st) f cdv A outer s H E).nox (defBody st) t ∧ ∀ ds o, F ds o → As K E t (slots0 N.length ds) (finP o)) : FnOk P w K mg base CX0 (k + 1) f fd ps (SpD K F) := by
  refine FF.ok S (sp_len len) (fun cdv A outer s H vs Q E hr h => ?_)
  obtain ⟨t, h1, h2⟩ := hbody cdv A outer s H E hr
  exact ⟨t, h1, as_run h h2⟩
end
section
variable {K : PySem.W.Frag} {δ : List Sl} {xs : List PyData} {x : PyData} {ta : TA} {F : List PyData → Out → Prop} {W : WX} {c : Value}
/-- a call -/
theorem ev_call (ha : EvA K ta δ xs) (hF : F xs (.rt x)) : Ev K (tCallS (SpD K F) (WE W) ta) δ x := fun G σ H I s g r Q q =>
  ha G σ H I s g r _ fun vs H1 I1 n1 r1 => ⟨I1, xs, .rt x, n1.s, r1, hF, fun v H2 I2 n2 r2 => q v H2 I2 (n1.trans n2) r2⟩
theorem ex_call {E : XK} (ha : EvA K ta δ xs) (hF : F xs (.ex c)) : EvX K E (tCallS (SpD K F) (WE fun cls d _ H => E cls d H) ta) δ c := fun G σ H I s g r he Q =>
  ha G σ H I s g r _ fun vs H1 I1 n1 r1 => ⟨I1, xs, .ex c, n1.s, r1, hF, fun H2 e => he H2 (n1.h.trans e)⟩
end
end Tw

/-! Tw2: operators, built-in calls and subscripts over data. -/
namespace Tw
open PySem PySem.Spec PyProof.Rows L2
section
variable {X : Cx}
def rCatS : R2 := fun x y H Q => ∃ i j, x = .str i ∧ y = .str j ∧ i.length + j.length ≤ sizeLine ∧ Q (.str (i ++ j)) H
def rPlus : R2 := rI0 fun i j => .int (i + j)
def rMinus : R2 := rI0 fun i j => .int (i - j)
def rAddA (K : PySem.W.Frag) : R2 := fun x y H Q => rPlus x y H Q ∨ (fun x y H Q => rCatA K x y H Q ∨ (fun x y H Q => rCat x y H Q ∨ rCatS x y H Q) x y H Q) x y H Q
theorem opAdd : OpR X (binaryOp .Add) (rAddA X.K) := OpR.or op_add (OpR.or op_catA (OpR.or op_cat op_add_str))
theorem opSub : OpR X (binaryOp .Sub) rMinus := op_sub
def rTimes : R2 := rI CMulW fun i j => .int (i * j)
def rTimesB : R2 := rI CMul fun i j => .int (i * j)
def rMulA (K : PySem.W.Frag) : R2 := fun x y H Q => rTimes x y H Q ∨ (fun x y H Q => rTimesB x y H Q ∨ rRepT K x y H Q) x y H Q
theorem opMul : OpR X (binaryOp .Mult) (rMulA X.K) := OpR.or op_mulW (OpR.or op_mul op_repT)
def rQuoW : R2 := rI CDivW fun i j => .int (i / j)
def rQuoN : R2 := rI CDivN fun i j => .int (i.fdiv j)
def rDivA : R2 := fun x y H Q => rQuoW x y H Q ∨ rQuoN x y H Q
theorem opDiv : OpR X (binaryOp .FloorDiv) rDivA := OpR.or op_fdivW op_fdivN
def rModA : R2 := rI (fun _ j => j ≠ 0) fun i j => .int (i.fmod j)
theorem opMod : OpR X (binaryOp .Mod) rModA := op_modN
def rPowA : R2 := rI CPow fun i j => .int (i ^ j.toNat)
theorem opPow : OpR X (binaryOp .Pow) rPowA := op_pow
def rLtA : R2 := rI0 fun i j => .bl (decide (i < j))
def rGtA : R2 := rI0 fun i j => .bl (decide (j < i))
def rGeA : R2 := rI0 fun i j => .bl (decide (j ≤ i))
def rLeI : R2 := rI0 fun i j => .bl (decide (i ≤ j))
def rLeA (K : PySem.W.Frag) : R2 := fun x y H Q => rLeI x y H Q ∨ rLeT K x y H Q
theorem opLt : OpR X (compareOp .Lt) rLtA := op_lt
theorem opGt : OpR X (compareOp .Gt) rGtA := op_gt
theorem opGe : OpR X (compareOp .GtE) rGeA := op_ge
theorem opLe (hu : X.A.units < cLine) : OpR X (compareOp .LtE) (rLeA X.K) := OpR.or op_le (op_leT hu)
theorem opEq (hu : X.A.units + 64 < cLine) : OpR X (compareOp .Eq) (rEqD X.K) := op_eqD hu
theorem opNe (hu : X.A.units + 64 < cLine) : OpR X (compareOp .NotEq) (rNeD X.K) := op_neD hu
def rIsNon : R2 := fun x y H Q => y = .non ∧ Q (.bl (decide (x = .non))) H
def rNotNon : R2 := fun x y H Q => y = .non ∧ Q (.bl (!decide (x = .non))) H
theorem opIsN : OpR X (compareOp .Is) rIsNon := op_isN
theorem opNotN : OpR X (compareOp .IsNot) rNotNon := op_notN
def rNegA : V → Hp → VK → Prop := rU fun i => .int (-i)
theorem unNeg : UnR X (unaryOp .USub) rNegA := un_neg
def rLenA (K : PySem.W.Frag) : List V → Hp → VK → Prop := fun xs H Q => ∃ x n, xs = [x] ∧ LenV K x H n ∧ Q (.int n) H
theorem callLen : CallR X (.builtin "len") (rLenA X.K) := call_len
def rMax2A : List V → Hp → VK → Prop := fun xs H Q => ∃ i j, xs = [.int i, .int j] ∧ Q (.int (if j > i then j else i)) H
def rMin2A : List V → Hp → VK → Prop := fun xs H Q => ∃ i j, xs = [.int i, .int j] ∧ Q (.int (if j < i then j else i)) H
def rTupA (K : PySem.W.Frag) : List V → Hp → VK → Prop := fun xs H Q => ∃ p ys, xs = [.ref p] ∧ ((SqL K H p ys ∧ ∀ l, H l = none → Q (.ref l) (upd H l (.tup ys))) ∨ (SqT K H p ys ∧ Q (.ref p) H))
theorem callTup : CallR X (.type "tuple") (rTupA X.K) := call_tuple_of
def rLstA (K : PySem.W.Frag) : List V → Hp → VK → Prop := fun xs H Q => ∃ p ys, xs = [.ref p] ∧ (SqL K H p ys ∨ SqT K H p ys) ∧ ∀ l, H l = none → Q (.ref l) (upd H l (.lst ys))
theorem callLst : CallR X (.type "list") (rLstA X.K) := call_list_of
def rIntA : List V → Hp → VK → Prop := fun xs H Q => (∃ i, xs = [.int i] ∧ Q (.int i) H) ∨ ∃ k, xs = [.bl k] ∧ Q (.int (if k then 1 else 0)) H
theorem callInt : CallR X (.type "int") rIntA := call_int1
def rAbsA : List V → Hp → VK → Prop := fun xs H Q => ∃ i, xs = [.int i] ∧ Q (.int (if i < 0 then -i else i)) H
theorem callAbs : CallR X (.builtin "abs") rAbsA := call_abs
end
section
variable {K : PySem.W.Frag} {δ : List Sl} {ta tb te : TE} {t u : TT} {x y z : PyData} {xs ys : List PyData} {i j : Int}
/-! ### operators on data -/
theorem rd_plus : R2D K (rAddA K) (.int i) (.int j) (.int (i + j)) := fun H I v u s r1 r2 Q q => by
  cases r1; cases r2
  exact .inl ⟨i, j, rfl, rfl, q _ H I (Nx.refl s) (.int _)⟩
theorem rd_minus : R2D K rMinus (.int i) (.int j) (.int (i - j)) := fun H I v u s r1 r2 Q q => by
  cases r1; cases r2
  exact ⟨i, j, rfl, rfl, q _ H I (Nx.refl s) (.int _)⟩
theorem rd_cat (h : xs.length + ys.length ≤ sizeLine) : R2D K (rAddA K) (.tuple xs) (.tuple ys) (.tuple (xs ++ ys)) := fun H I v u s r1 r2 Q q => by
  cases r1 with
  | tup h1 a1 =>
    cases r2 with
    | tup h2 a2 =>
      refine .inr (.inl ⟨_, _, _, _, rfl, rfl, .of (s _ _ h1), .of (s _ _ h2), by rw [a1.length, a2.length]; exact h, fun e => ?_, fun e e2 => ?_, fun e e2 p hp => ?_⟩)
      · subst e
        cases a1
        exact q _ H I (Nx.refl s) (.tup h2 a2)
      · subst e2
        cases a2
        rw [List.append_nil] at q
        exact q _ H I (Nx.refl s) (.tup h1 a1)
      · exact q _ _ _ (Nx.new s hp) (.tup upd_same ((a1.app a2).mono (same_new (s.free hp))))
theorem rd_cats {a b : Str} (h : a.length + b.length ≤ sizeLine) : R2D K (rAddA K) (.str a) (.str b) (.str (a ++ b)) := fun H I v u s r1 r2 Q q => by
  cases r1; cases r2
  exact .inr (.inr (.inr ⟨a, b, rfl, rfl, h, q _ H I (Nx.refl s) (.str _)⟩))
/-- two lists: a new one -/
theorem en_cat (ha : Ev K ta δ (.list xs)) (hb : Ev K tb δ (.list ys)) (h : xs.length + ys.length ≤ sizeLine) : EvN K (tOp (rAddA K) ta tb) δ (xs ++ ys) := fun G σ H I s g rl Q q =>
  ha G σ H I s g rl _ fun v H1 I1 n1 r1 => hb G σ H1 I1 n1.s (n1.g g) (rl.next n1) _ fun u H2 I2 n2 r2 => by
    cases r1 with
    | lst h1 a1 =>
      cases r2 with
      | lst h2 a2 =>
        have h1' := n2.s _ _ (n2.i _ _ h1)
        exact .inr (.inr (.inl ⟨_, _, _, _, rfl, rfl, h1', n2.s _ _ h2, by rw [a1.length, a2.length]; exact h, fun p hp => q p H2 I2 _ (n1.trans n2) hp ((a1.mono n2.i).app a2)⟩))
theorem rd_times (h : CMulW i j) : R2D K (rMulA K) (.int i) (.int j) (.int (i * j)) := fun H I v u s r1 r2 Q q => by
  cases r1; cases r2
  exact .inl ⟨i, j, rfl, rfl, h, q _ H I (Nx.refl s) (.int _)⟩
/-- one factor is small -/
theorem rd_timesB (h : CMul i j) : R2D K (rMulA K) (.int i) (.int j) (.int (i * j)) := fun H I v u s r1 r2 Q q => by
  cases r1; cases r2
  exact .inr (.inl ⟨i, j, rfl, rfl, h, q _ H I (Nx.refl s) (.int _)⟩)
theorem flat_rep {I : Hp} {vs : List V} (h : RpAll K I vs xs) : ∀ n : Nat, RpAll K I (List.replicate n vs).flatten (List.replicate n xs).flatten
  | 0 => .nil
  | n + 1 => by
    rw [List.replicate_succ, List.replicate_succ, List.flatten_cons, List.flatten_cons]
    exact h.app (flat_rep h n)
theorem rd_rep (h1 : xs ≠ []) (h2 : 2 ≤ j) (h3 : j ≤ 1000) (h4 : xs.length ≤ 1000) : R2D K (rMulA K) (.tuple xs) (.int j) (.tuple (List.replicate j.toNat xs).flatten) := fun H I v u s r1 r2 Q q => by
  cases r1 with
  | tup ht a1 =>
    cases r2
    refine .inr (.inr ⟨_, j, _, rfl, rfl, .of (s _ _ ht), fun e => ?_, h2, h3, by rw [a1.length]; exact h4, fun p hp => ?_⟩)
    · subst e
      cases a1
      exact h1 rfl
    · exact q _ _ _ (Nx.new s hp) (.tup upd_same ((flat_rep a1 _).mono (same_new (s.free hp))))
theorem rd_quo {b : Nat} (h0 : 0 < j) (hb : j < 2 ^ b) (h1 : 0 < b) (h9 : b ≤ 9000) : R2D K rDivA (.int i) (.int j) (.int (i / j)) := fun H I v u s r1 r2 Q q => by
  cases r1; cases r2
  refine .inl ⟨i, j, rfl, rfl, wide_div h0 (b := b) ?_ h1 h9, q _ H I (Nx.refl s) (.int _)⟩
  have e : (j.natAbs : Int) = j := Int.natAbs_of_nonneg (by omega)
  have e2 : ((2 ^ b : Nat) : Int) = (2 : Int) ^ b := by rw [Int.natCast_pow]; rfl
  have : (j.natAbs : Int) < ((2 ^ b : Nat) : Int) := by rw [e, e2]; exact hb
  exact Int.ofNat_lt.mp this
theorem rd_quoN (h : j ≠ 0 ∧ j.natAbs < 1073741824) : R2D K rDivA (.int i) (.int j) (.int (i.fdiv j)) := fun H I v u s r1 r2 Q q => by
  cases r1; cases r2
  exact .inr ⟨i, j, rfl, rfl, h, q _ H I (Nx.refl s) (.int _)⟩
theorem rd_mod (h : 0 < j) : R2D K rModA (.int i) (.int j) (.int (i % j)) := fun H I v u s r1 r2 Q q => by
  cases r1; cases r2
  refine ⟨i, j, rfl, rfl, by omega, ?_⟩
  show Q (.int (i.fmod j)) H
  rw [Int.fmod_eq_emod_of_nonneg i (by omega)]
  exact q _ H I (Nx.refl s) (.int _)
theorem rd_pow (h : CPow i j) : R2D K rPowA (.int i) (.int j) (.int (i ^ j.toNat)) := fun H I v u s r1 r2 Q q => by
  cases r1; cases r2
  exact ⟨i, j, rfl, rfl, h, q _ H I (Nx.refl s) (.int _)⟩
theorem rd_lt : R2D K rLtA (.int i) (.int j) (.bool (decide (i < j))) := fun H I v u s r1 r2 Q q => by
  cases r1; cases r2
  exact ⟨i, j, rfl, rfl, q _ H I (Nx.refl s) (.bl _)⟩
theorem rd_gt : R2D K rGtA (.int i) (.int j) (.bool (decide (j < i))) := fun H I v u s r1 r2 Q q => by
  cases r1; cases r2
  exact ⟨i, j, rfl, rfl, q _ H I (Nx.refl s) (.bl _)⟩
theorem rd_ge : R2D K rGeA (.int i) (.int j) (.bool (decide (j ≤ i))) := fun H I v u s r1 r2 Q q => by
  cases r1; cases r2
  exact ⟨i, j, rfl, rfl, q _ H I (Nx.refl s) (.bl _)⟩
theorem rd_le : R2D K (rLeA K) (.int i) (.int j) (.bool (decide (i ≤ j))) := fun H I v u s r1 r2 Q q => by
  cases r1; cases r2
  exact .inl ⟨i, j, rfl, rfl, q _ H I (Nx.refl s) (.bl _)⟩
theorem rall_ints {I : Hp} : ∀ {ns : List Int} {vs : List V}, RpAll K I vs (ns.map PyData.int) → vs = ns.map V.int
  | [], _, h => by cases h; rfl
  | n :: ns, _, h => by
    cases h with
    | cons h1 h2 =>
      cases h1
      rw [rall_ints h2]
      rfl
theorem ints_rall {I : Hp} : ∀ ns : List Int, RpAll K I (ns.map V.int) (ns.map PyData.int)
  | [] => .nil
  | n :: ns => .cons (.int n) (ints_rall ns)
/-- <= of tuples of whole numbers, as the library tells it -/
def leT (ns ms : List Int) : Bool := Ob.lexAt (fun j => decide (ns.getD j 0 = ms.getD j 0)) (fun j => decide (ns.getD j 0 ≤ ms.getD j 0)) (decide (ns.length ≤ ms.length)) 0 (min ns.length ms.length)
theorem rd_leT {ns ms : List Int} : R2D K (rLeA K) (.tuple (ns.map .int)) (.tuple (ms.map .int)) (.bool (leT ns ms)) := fun H I v u s r1 r2 Q q => by
  cases r1 with
  | tup h1 a1 =>
    cases r2 with
    | tup h2 a2 =>
      have e1 := rall_ints a1
      have e2 := rall_ints a2
      subst e1 e2
      exact .inr ⟨_, _, ns, ms, rfl, rfl, .of (s _ _ h1), .of (s _ _ h2), q _ H I (Nx.refl s) (.bl _)⟩
theorem rd_eq (hx : SeqAt.shaped x = true) (hy : SeqAt.shaped y = true) : R2D K (rEqD K) x y (.bool (PyData.eqv x y)) := fun H I v u s r1 r2 Q q =>
  ⟨x, y, (r1.mono s).dp (SeqAt.canLay_of_shaped hx), (r2.mono s).dp (SeqAt.canLay_of_shaped hy), hx, hy, q _ H I (Nx.refl s) (.bl _)⟩
theorem rd_ne (hx : SeqAt.shaped x = true) (hy : SeqAt.shaped y = true) : R2D K (rNeD K) x y (.bool (!PyData.eqv x y)) := fun H I v u s r1 r2 Q q =>
  ⟨x, y, (r1.mono s).dp (SeqAt.canLay_of_shaped hx), (r2.mono s).dp (SeqAt.canLay_of_shaped hy), hx, hy, q _ H I (Nx.refl s) (.bl _)⟩
def isNon : PyData → Bool
  | .none => true
  | _ => false
theorem rp_non {I : Hp} {v : V} (r : Rp K I v x) : decide (v = .non) = isNon x := by
  cases r <;> rfl
theorem rd_isN : R2D K rIsNon x .none (.bool (isNon x)) := fun H I v u s r1 r2 Q q => by
  cases r2
  exact ⟨rfl, by rw [rp_non r1]; exact q _ H I (Nx.refl s) (.bl _)⟩
theorem rd_notN : R2D K rNotNon x .none (.bool (!isNon x)) := fun H I v u s r1 r2 Q q => by
  cases r2
  exact ⟨rfl, by rw [rp_non r1]; exact q _ H I (Nx.refl s) (.bl _)⟩
theorem ev_neg (h : Ev K ta δ (.int i)) : Ev K (tUn rNegA ta) δ (.int (-i)) := fun G σ H I s g r Q q =>
  h G σ H I s g r _ fun v H1 I1 n1 rv => by
    cases rv
    exact ⟨i, rfl, q _ H1 I1 n1 (.int _)⟩
/-! ### subscripts -/
theorem rd_ixL (h : atI xs i = some z) : R2D K (rIx K) (.list xs) (.int i) z := fun H I v u s r1 r2 Q q => by
  cases r1 with
  | lst h1 a1 =>
    cases r2
    unfold atI at h
    cases e : ixN xs.length i with
    | none => rw [e] at h; cases h
    | some j =>
      rw [e] at h
      obtain ⟨w, hw, rw'⟩ := a1.get (show xs[j]? = some z from h)
      refine .inl ⟨_, _, i, w, rfl, rfl, .of (s _ _ h1), ?_, q w H I (Nx.refl s) rw'⟩
      unfold atI
      rw [a1.length, e]
      exact hw
theorem rd_ixT (h : atI xs i = some z) : R2D K (rIx K) (.tuple xs) (.int i) z := fun H I v u s r1 r2 Q q => by
  cases r1 with
  | tup h1 a1 =>
    cases r2
    unfold atI at h
    cases e : ixN xs.length i with
    | none => rw [e] at h; cases h
    | some j =>
      rw [e] at h
      obtain ⟨w, hw, rw'⟩ := a1.get (show xs[j]? = some z from h)
      refine .inr (.inl ⟨_, _, i, w, rfl, rfl, .of (s _ _ h1), ?_, q w H I (Nx.refl s) rw'⟩)
      unfold atI
      rw [a1.length, e]
      exact hw
theorem at_nat {α : Type} {l : List α} {j : Nat} {a : α} (h : l[j]? = some a) : atI l (j : Int) = some a := atI_nat h
/-! ### slices -/
theorem eo_none : EvO K tNoPart δ none := fun G σ H I s g r Q q => q H I (Nx.refl s)
theorem eo_some (h : Ev K te δ (.int i)) : EvO K (tPart te) δ (some i) := fun G σ H I s g r Q q =>
  h G σ H I s g r _ fun v H1 I1 n1 rv => by
    cases rv
    exact ⟨i, rfl, q H1 I1 n1⟩
def cutD (xs : List PyData) (lo hi : Option Int) : List PyData := (xs.drop (HT.sIx xs.length 0 lo)).take (HT.sIx xs.length xs.length hi - HT.sIx xs.length 0 lo)
theorem cut_rp {I : Hp} {vs : List V} (a : RpAll K I vs xs) (lo hi : Option Int) : RpAll K I (cutV vs lo hi) (cutD xs lo hi) := by
  unfold cutV cutD
  rw [a.length]
  exact (a.drop _).take _
def rSlAll (K : PySem.W.Frag) : V → Option Int → Option Int → Hp → VK → Prop := fun x lo hi H Q => rSlA K x lo hi H Q ∨ (rSlL K x lo hi H Q ∨ rSlS x lo hi H Q)
theorem sl_all {X : Cx} : SlR X (rSlAll X.K) := by
  intro pins s σ H x v vl vu lo hi sl Q I rx hs pl pu h
  rcases h with h | h | h
  · exact sl_tupA pins s σ H x v vl vu lo hi sl Q I rx hs pl pu h
  · exact sl_list pins s σ H x v vl vu lo hi sl Q I rx hs pl pu h
  · exact sl_str pins s σ H x v vl vu lo hi sl Q I rx hs pl pu h
theorem sIx_whole {lo hi : Option Int} (h : HT.sIx xs.length 0 lo = 0 ∧ HT.sIx xs.length xs.length hi = xs.length) : cutD xs lo hi = xs := by
  unfold cutD
  rw [h.1, h.2, List.drop_zero, Nat.sub_zero, List.take_length]
theorem ev_slT {tl th : TO} {lo hi : Option Int} (h : Ev K te δ (.tuple xs)) (hl : EvO K tl δ lo) (hh : EvO K th δ hi) : Ev K (tSl (rSlAll K) te tl th) δ (.tuple (cutD xs lo hi)) := fun G σ H I s g r Q q =>
  h G σ H I s g r _ fun v H1 I1 n1 rv => hl G σ H1 I1 n1.s (n1.g g) (r.next n1) _ fun H2 I2 n2 => hh G σ H2 I2 n2.s (n2.g (n1.g g)) ((r.next n1).next n2) _ fun H3 I3 n3 => by
    cases rv with
    | tup h1 a1 =>
      have nn := n2.trans n3
      have h1' := nn.i _ _ h1
      refine .inl ⟨_, _, rfl, .of (n3.s _ _ h1'), fun e => ?_, fun e p hp => ?_⟩
      · rw [a1.length] at e
        rw [sIx_whole e] at q
        exact q _ H3 I3 (n1.trans nn) (.tup h1' (a1.mono nn.i))
      · exact q _ _ _ ((n1.trans nn).trans (Nx.new n3.s hp)) (.tup upd_same (((cut_rp a1 lo hi).mono nn.i).mono (same_new (n3.s.free hp))))
theorem en_slL {tl th : TO} {lo hi : Option Int} (h : Ev K te δ (.list xs)) (hl : EvO K tl δ lo) (hh : EvO K th δ hi) : EvN K (tSl (rSlAll K) te tl th) δ (cutD xs lo hi) := fun G σ H I s g r Q q =>
  h G σ H I s g r _ fun v H1 I1 n1 rv => hl G σ H1 I1 n1.s (n1.g g) (r.next n1) _ fun H2 I2 n2 => hh G σ H2 I2 n2.s (n2.g (n1.g g)) ((r.next n1).next n2) _ fun H3 I3 n3 => by
    cases rv with
    | lst h1 a1 =>
      have nn := n2.trans n3
      have h1' := nn.i _ _ h1
      exact .inr (.inl ⟨_, _, rfl, .of (n3.s _ _ h1'), fun p hp => q p H3 I3 _ (n1.trans nn) hp ((cut_rp a1 lo hi).mono nn.i)⟩)
theorem ev_slS {tl th : TO} {lo hi : Option Int} {z : Str} (h : Ev K te δ (.str z)) (hl : EvO K tl δ lo) (hh : EvO K th δ hi) (hz : z.length ≤ sizeLine) : Ev K (tSl (rSlAll K) te tl th) δ (.str (cutS z lo hi)) := fun G σ H I s g r Q q =>
  h G σ H I s g r _ fun v H1 I1 n1 rv => hl G σ H1 I1 n1.s (n1.g g) (r.next n1) _ fun H2 I2 n2 => hh G σ H2 I2 n2.s (n2.g (n1.g g)) ((r.next n1).next n2) _ fun H3 I3 n3 => by
    cases rv
    exact .inr (.inr ⟨z, rfl, hz, q _ H3 I3 ((n1.trans n2).trans n3) (.str _)⟩)
/-! ### calls -/
theorem rc_lenL : RAD K (rLenA K) [.list xs] (.int xs.length) := fun H I vs s r Q q => by
  cases r with
  | cons r1 r2 =>
    cases r2
    cases r1 with
    | lst h1 a1 =>
      refine ⟨_, _, rfl, .inl ⟨_, .of (s _ _ h1), rfl⟩, ?_⟩
      rw [a1.length]
      exact q _ H I (Nx.refl s) (.int _)
theorem rc_lenT : RAD K (rLenA K) [.tuple xs] (.int xs.length) := fun H I vs s r Q q => by
  cases r with
  | cons r1 r2 =>
    cases r2
    cases r1 with
    | tup h1 a1 =>
      refine ⟨_, _, rfl, .inr ⟨_, .of (s _ _ h1), rfl⟩, ?_⟩
      rw [a1.length]
      exact q _ H I (Nx.refl s) (.int _)
theorem rc_lenS {z : Str} (hz : z.length ≤ sizeLine) : RAD K (rLenA K) [.str z] (.int z.length) := fun H I vs s r Q q => by
  cases r with
  | cons r1 r2 =>
    cases r2
    cases r1
    exact ⟨_, _, rfl, ⟨hz, rfl⟩, q _ H I (Nx.refl s) (.int _)⟩
theorem rc_max2 : RAD K rMax2A [.int i, .int j] (.int (if j > i then j else i)) := fun H I vs s r Q q => by
  cases r with
  | cons r1 r2 =>
    cases r2 with
    | cons r2 r3 =>
      cases r3; cases r1; cases r2
      exact ⟨i, j, rfl, q _ H I (Nx.refl s) (.int _)⟩
theorem rc_min2 : RAD K rMin2A [.int i, .int j] (.int (if j < i then j else i)) := fun H I vs s r Q q => by
  cases r with
  | cons r1 r2 =>
    cases r2 with
    | cons r2 r3 =>
      cases r3; cases r1; cases r2
      exact ⟨i, j, rfl, q _ H I (Nx.refl s) (.int _)⟩
theorem rc_tup : RAD K (rTupA K) [.list xs] (.tuple xs) := fun H I vs s r Q q => by
  cases r with
  | cons r1 r2 =>
    cases r2
    cases r1 with
    | lst h1 a1 => exact ⟨_, _, rfl, .inl ⟨.of (s _ _ h1), fun p hp => q _ _ _ (Nx.new s hp) (.tup upd_same (a1.mono (same_new (s.free hp))))⟩⟩
theorem rc_lst : RAN K (rLstA K) [.list xs] xs := fun H I vs s r Q q => by
  cases r with
  | cons r1 r2 =>
    cases r2
    cases r1 with
    | lst h1 a1 => exact ⟨_, _, rfl, .inl (.of (s _ _ h1)), fun p hp => q p H I _ (Nx.refl s) hp a1⟩
theorem rc_lstT : RAN K (rLstA K) [.tuple xs] xs := fun H I vs s r Q q => by
  cases r with
  | cons r1 r2 =>
    cases r2
    cases r1 with
    | tup h1 a1 => exact ⟨_, _, rfl, .inr (.of (s _ _ h1)), fun p hp => q p H I _ (Nx.refl s) hp a1⟩
theorem rc_int : RAD K rIntA [.int i] (.int i) := fun H I vs s r Q q => by
  cases r with
  | cons r1 r2 =>
    cases r2
    cases r1
    exact .inl ⟨i, rfl, q _ H I (Nx.refl s) (.int _)⟩
theorem rc_intB {b : Bool} : RAD K rIntA [.bool b] (.int (if b then 1 else 0)) := fun H I vs s r Q q => by
  cases r with
  | cons r1 r2 =>
    cases r2
    cases r1
    exact .inr ⟨b, rfl, q _ H I (Nx.refl s) (.int _)⟩
theorem rc_abs : RAD K rAbsA [.int i] (.int (if i < 0 then -i else i)) := fun H I vs s r Q q => by
  cases r with
  | cons r1 r2 =>
    cases r2
    cases r1
    exact ⟨i, rfl, q _ H I (Nx.refl s) (.int _)⟩
theorem rc_sum {ns : List Int} : RAD K (rSum K) [.list (ns.map .int)] (.int ns.sum) := fun H I vs s r Q q => by
  cases r with
  | cons r1 r2 =>
    cases r2
    cases r1 with
    | lst h1 a1 =>
      have e := rall_ints a1
      subst e
      exact ⟨_, ns, rfl, .of (s _ _ h1), q _ H I (Nx.refl s) (.int _)⟩
theorem rall_bls {I : Hp} : ∀ {ns : List Bool} {vs : List V}, RpAll K I vs (ns.map PyData.bool) → vs = ns.map V.bl
  | [], _, h => by cases h; rfl
  | n :: ns, _, h => by
    cases h with
    | cons h1 h2 =>
      cases h1
      rw [rall_bls h2]
      rfl
theorem rc_any {bs : List Bool} : RAD K (rAny K) [.list (bs.map .bool)] (.bool (bs.any id)) := fun H I vs s r Q q => by
  cases r with
  | cons r1 r2 =>
    cases r2
    cases r1 with
    | lst h1 a1 =>
      have e := rall_bls a1
      subst e
      exact ⟨_, bs, rfl, .of (s _ _ h1), q _ H I (Nx.refl s) (.bl _)⟩
/-! ### isinstance -/
def tyD : PyData → String
  | .none => "NoneType"
  | .bool _ => "bool"
  | .int _ => "int"
  | .str _ => "str"
  | .list _ => "list"
  | .tuple _ => "tuple"
  | .dict [] => "dict"
  | .dict _ => "list"
theorem rp_ty {I H : Hp} (s : Same I H) {v : V} {d : PyData} (r : Rp K I v d) (hd : ∀ q, d ≠ .dict [q]) : TyX K H v (.type (tyD d)) := by
  cases r with
  | non => exact .base .non
  | bl b => exact .base (.bl b)
  | int i => exact .base (.int i)
  | str x => exact .base (.str x)
  | lst h _ => exact .base (.lst (s _ _ h))
  | tup h _ => exact .base (.tup (s _ _ h))
  | dct h => exact .base (.dK (s _ _ h))
  | scr h => exact absurd rfl (hd _)
/-- isinstance(x, T), T a built-in class -/
theorem ev_isi {n : String} {b : Bool} (h : Ev K te δ x) (hb : kitB (tyD x) n = some b) (hd : ∀ q, x ≠ .dict [q]) : Ev K (tCB (rIsi K) (tCons te (tCons (tC (.ty n)) tNil))) δ (.bool b) := fun G σ H I s g r Q q =>
  h G σ H I s g r _ fun v H1 I1 n1 rv => ⟨v, .ty n, .type (tyD x), .type n, b, rfl, .ty n, rp_ty n1.s rv hd, kit_ty hb, q _ H1 I1 n1 (.bl b)⟩
end
end Tw

/-! Tw3: zip of two and of three things, each a list or a tuple, in any mix. -/
namespace Tw
open PySem PySem.Spec PyProof.Rows L2

/-- a list (true) or a tuple (false) that is read -/
def Sr (K : PySem.W.Frag) (k : Bool) (H : Hp) (a : Addr) (xs : List V) : Prop := if k = true then SqL K H a xs else SqT K H a xs
def kHolds (k : Bool) (a : Addr) (items : Array Value) (h : Heap) : Prop := if k = true then h.IsList a items else h.IsTuple a items
def kIter (k : Bool) (it a : Addr) (i : Nat) (h : Heap) : Prop := if k = true then h.IsListIter it a i else h.IsTupleIter it a i
def kObj (k : Bool) (a : Addr) : Obj := { cls := .type (if k = true then "list_iterator" else "tuple_iterator"), data := .fields #[.ref a, .int 0 0] }
theorem k_draws {prog : Program} {w : World} {A : Around} (hh : A.handled = none) (k : Bool) (it a : Addr) (hne : a ≠ it) (items : Array Value) :
    Draws prog w A it [it, a] items.size (fun i v => items[i]? = some v) (fun i h => kIter k it a i h ∧ kHolds k a items h) := by
  cases k with
  | true => exact Draws.list hh it a hne items
  | false => exact Draws.tuple hh it a hne items
theorem k_begins (k : Bool) (a : Addr) (items : Array Value) : Begins (.ref a) (kObj k a) (kHolds k a items) := by
  cases k with
  | true => exact begins_list a items
  | false => exact begins_tuple a items
theorem k_read {X : Cx} {pins : List (Addr × Obj)} {σ : L2.St} {H : Hp} {s : Shared} {k : Bool} {a : Addr} {xs : List V} (I : Inv X pins σ H s) (h : Sr X.K k H a xs) :
    ∃ its : List Value, Vals xs its ∧ kHolds k a its.toArray s.heap ∧ a < s.heap.objs.size := by
  cases k with
  | true =>
    obtain ⟨its, r, p, _⟩ := I.list (show SqL X.K H a xs from h)
    exact ⟨its, r, p.isList, p.lt⟩
  | false =>
    obtain ⟨its, r, p, _⟩ := I.tuple (show SqT X.K H a xs from h)
    obtain ⟨o, ho, _⟩ := id p
    exact ⟨its, r, p, Heap.lt_size ho⟩
theorem k_inj {X : Cx} {pins : List (Addr × Obj)} {σ : L2.St} {H : Hp} {s : Shared} {k : Bool} {a : Addr} {xs ys : List V} (I : Inv X pins σ H s) (h : Sr X.K k H a xs) (h' : Sr X.K k H a ys) : xs = ys := by
  cases k with
  | true => exact I.list_inj (show SqL X.K H a xs from h) h'
  | false => exact I.tuple_inj (show SqT X.K H a xs from h) h'
theorem k_at {k : Bool} {it a : Addr} {i : Nat} {h h' : Heap} (x : kIter k it a i h) (e : ∀ o, h.get? it = some o → h'.get? it = some o) : kIter k it a i h' := by
  cases k with
  | true =>
    obtain ⟨o, h1, h2⟩ := (show h.IsListIter it a i from x)
    exact ⟨o, e o h1, h2⟩
  | false =>
    obtain ⟨o, h1, h2⟩ := (show h.IsTupleIter it a i from x)
    exact ⟨o, e o h1, h2⟩
theorem k_get {k : Bool} {it a : Addr} {i : Nat} {h : Heap} (x : kIter k it a i h) : ∃ o, h.get? it = some o ∧ ∀ v, o.data ≠ .cell v := by
  cases k with
  | true =>
    obtain ⟨o, h1, _, h2⟩ := (show h.IsListIter it a i from x)
    exact ⟨o, h1, fun v z => by rw [h2] at z; cases z⟩
  | false =>
    obtain ⟨o, h1, _, h2⟩ := (show h.IsTupleIter it a i from x)
    exact ⟨o, h1, fun v z => by rw [h2] at z; cases z⟩
theorem k_new {k : Bool} {it a : Addr} {h : Heap} (e : h.get? it = some (kObj k a)) : kIter k it a 0 h := by
  cases k with
  | true => exact ⟨_, e, rfl, rfl⟩
  | false => exact ⟨_, e, rfl, rfl⟩

/-! ### two -/
def ItZ2 (K : PySem.W.Frag) (k1 k2 : Bool) (a b : Addr) : It :=
  ⟨fun i H => ∃ (xs ys : List V) (x y : V), Sr K k1 H a xs ∧ Sr K k2 H b ys ∧ xs[i]? = some x ∧ ys[i]? = some y,
    fun i H v H' => ∃ T x y, v = .ref T ∧ H T = none ∧ H' = upd H T (.tup [x, y]) ∧ (∀ xs, Sr K k1 H a xs → xs[i]? = some x) ∧ (∀ ys, Sr K k2 H b ys → ys[i]? = some y),
    fun i H => ∃ xs ys : List V, Sr K k1 H a xs ∧ Sr K k2 H b ys ∧ i ≤ xs.length ∧ i ≤ ys.length ∧ (i = xs.length ∨ i = ys.length)⟩
theorem turn_z2 {P : Program} {w : World} {K : PySem.W.Frag} {elts : List Expr} {kk : Nat} {tpos : Pos} {k1 k2 : Bool} {a b z TI TO i1 i2 : Addr} (D : ZipSep2 z TI TO i1 i2 [i1, a] [i2, b]) (n1 : a ≠ i1) (n2 : b ≠ i2) :
    Turn P w K (.Tuple elts kk tpos) (ItZ2 K k1 k2 a b) [z, TI, TO, i1, i2] z (fun i h => IsZip h z TI TO .none ∧ IsTupOf2 h TI (.ref i1) (.ref i2) ∧ (∃ x y, IsTupOf2 h TO x y) ∧ kIter k1 i1 a i h ∧ kIter k2 i2 b i h) where
  mem := by simp
  obj := fun i h st c hc => by
    obtain ⟨hz, hTI, ⟨x, y, hTO⟩, h1, h2⟩ := st
    have e' : c = z ∨ c = TI ∨ c = TO ∨ c = i1 ∨ c = i2 := by simpa using hc
    rcases e' with q | q | q | q | q
    · rw [q]; exact ⟨_, hz, fun v q => nomatch q⟩
    · rw [q]; exact ⟨_, hTI, fun v q => nomatch q⟩
    · rw [q]; exact ⟨_, hTO, fun v q => nomatch q⟩
    · rw [q]; exact k_get h1
    · rw [q]; exact k_get h2
  keep := fun i h h' st k => by
    obtain ⟨hz, hTI, ⟨x, y, hTO⟩, h1, h2⟩ := st
    exact ⟨k z (by simp) _ hz, k TI (by simp) _ hTI, ⟨x, y, k TO (by simp) _ hTO⟩, k_at h1 fun o q => k i1 (by simp) o q, k_at h2 fun o q => k i2 (by simp) o q⟩
  item := by
    intro X hP hw hK hc i pins s σ H E I hf st hg
    subst hP hw hK
    obtain ⟨hz, hTI, ⟨x0, y0, hTO⟩, h1, h2⟩ := st
    obtain ⟨xs, ys, x, y, q1, q2, e1, e2⟩ := hg
    obtain ⟨its1, rv1, p1, _⟩ := k_read I q1
    obtain ⟨u1, hu1, ru1⟩ := rv1.get e1
    obtain ⟨its2, rv2, p2, _⟩ := k_read I q2
    obtain ⟨u2, hu2, ru2⟩ := rv2.get e2
    have hh : X.A.in1.handled = none := I.ok.hd hc
    have hzl : z < s.heap.objs.size := Heap.lt_size hz
    have lt1 : i < its1.toArray.size := by
      rw [List.size_toArray]
      exact (List.getElem?_eq_some_iff.mp hu1).1
    have lt2 : i < its2.toArray.size := by
      rw [List.size_toArray]
      exact (List.getElem?_eq_some_iff.mp hu2).1
    refine wpAny_pyNext_zipD2_item D (k_draws (prog := X.prog) (w := X.w) hh k1 i1 a n1 its1.toArray) (k_draws (prog := X.prog) (w := X.w) hh k2 i2 b n2 its2.toArray) hz hTI hTO ⟨h1, p1⟩ ⟨h2, p2⟩ lt1 lt2 fun w1 w2 h' tk y1 y2 z' TO' d1 d2 hT hsz hk => ?_
    have ew1 : w1 = u1 := by
      have q : its1.toArray[i]? = some u1 := by simpa using hu1
      have y1' : its1.toArray[i]? = some w1 := y1
      rw [q] at y1'
      exact (Option.some.inj y1').symm
    subst ew1
    have ew2 : w2 = u2 := by
      have q : its2.toArray[i]? = some u2 := by simpa using hu2
      have y2' : its2.toArray[i]? = some w2 := y2
      rw [q] at y2'
      exact (Option.some.inj y2').symm
    subst ew2
    refine ⟨_, rfl, wpAny_letOwnedTupleGo_zip (s := { s with heap := h', toks := tk }) z' fun h'' z'' sb => ?_⟩
    have hT2 : h''.get? s.heap.objs.size = some { cls := .type "tuple", data := .seq #[w1, w2] } := (sb.2 _ (Nat.ne_of_gt hzl)).trans hT
    have new : ObjOk X.prog X.w (upd H s.heap.objs.size (.tup [x, y])) h'' s.heap.objs.size (.tup [x, y]) := ⟨by show 2 ≤ sizeLine; decide, [w1, w2], .cons ru1 (.cons ru2 (.nil)), ⟨_, hT2, rfl, _, rfl⟩⟩
    have I1 : Inv X pins σ (upd H s.heap.objs.size (.tup [x, y])) { s with heap := h'', toks := tk } :=
      I.turnedNew (ch := [z, TI, TO, i1, i2]) (fun c o hb q => (sb.2 c (fun q' => hb (by simp [q']))).trans (hk c o (fun q' => hb (by simp [q'])) (fun q' => hb (by simp [q'])) (fun q' => hb (by simp [q'])) (fun q' => hb (by simp [q'])) q)) hf (Nat.le_refl _) new
    refine ⟨.ref s.heap.objs.size, _, I1, rfl, ⟨_, x, y, rfl, I.hok.fresh (Nat.le_refl _), rfl, fun l hl => by rw [k_inj I hl q1]; exact e1, fun l hl => by rw [k_inj I hl q2]; exact e2⟩, ⟨z'', (sb.2 _ D.TIz).trans (hk _ _ D.TIz D.TITO D.TIi1 D.TIi2 hTI), ⟨w1, w2, (sb.2 _ D.TOz).trans TO'⟩, k_at d1.1 fun o q => (sb.2 _ (fun e => D.zf1 (by rw [← e]; exact List.mem_cons_self))).trans q, k_at d2.1 fun o q => (sb.2 _ (fun e => D.zf2 (by rw [← e]; exact List.mem_cons_self))).trans q⟩, fun c hcm => ?_⟩
    have hlt : c < s.heap.objs.size := by
      have e' : c = z ∨ c = TI ∨ c = TO ∨ c = i1 ∨ c = i2 := by simpa using hcm
      rcases e' with q | q | q | q | q
      · rw [q]; exact hzl
      · rw [q]; exact Heap.lt_size hTI
      · rw [q]; exact Heap.lt_size hTO
      · rw [q]; obtain ⟨_, e1, _⟩ := k_get h1; exact Heap.lt_size e1
      · rw [q]; obtain ⟨_, e1, _⟩ := k_get h2; exact Heap.lt_size e1
    rw [upd_ne (Nat.ne_of_lt hlt)]
    exact (hf c hcm).1
  done := by
    intro X hP hw hK hc i pins s σ H E I hf st hg
    subst hP hw hK
    obtain ⟨hz, hTI, ⟨x0, y0, hTO⟩, h1, h2⟩ := st
    obtain ⟨xs, ys, q1, q2, l1, l2, hend⟩ := hg
    obtain ⟨its1, rv1, p1, _⟩ := k_read I q1
    have z1 : its1.toArray.size = xs.length := by rw [List.size_toArray]; exact rv1.length.symm
    obtain ⟨its2, rv2, p2, _⟩ := k_read I q2
    have z2 : its2.toArray.size = ys.length := by rw [List.size_toArray]; exact rv2.length.symm
    have hh : X.A.in1.handled = none := I.ok.hd hc
    refine wpAny_pyNext_zipD2_end D (k_draws (prog := X.prog) (w := X.w) hh k1 i1 a n1 its1.toArray) (k_draws (prog := X.prog) (w := X.w) hh k2 i2 b n2 its2.toArray) hz hTI hTO ⟨h1, p1⟩ ⟨h2, p2⟩ (by rw [z1]; exact l1) (by rw [z2]; exact l2) (by rw [z1, z2]; exact hend) fun h' tk hk => ⟨rfl, I.turnedL (ch := [z, TI, TO, i1, i2]) (fun c o hb q => hk c o (fun q' => hb (by simp [q'])) (fun q' => hb (by simp [q'])) (fun q' => hb (by simp [q'])) (fun q' => hb (by simp [q'])) q) hf⟩
  self := fun A i s Q E st h => wpAny_pyIter_zip st.1 h
def iZip2 (K : PySem.W.Frag) (ta : TA) : TI := fun σ H R => ta σ H fun vs H1 => ∃ (k1 k2 : Bool) (a b : Addr) (xs ys : List V), vs = [.ref a, .ref b] ∧ Sr K k1 H1 a xs ∧ Sr K k2 H1 b ys ∧ R (ItZ2 K k1 k2 a b) H1
theorem pi_zip2 {X : Cx} {e e2 : Expr} {ta : TA} {p pos tpos : Pos} {elts : List Expr} {kk : Nat} (hg : Gl X "zip") (hm : X.mg "zip" = none) (ha : PA X [e, e2] ta)
    (hs : starEach [e, e2] X.env = (false, eval e X.env) :: starEach [e2] X.env := by rfl) (hpl : (backTo pos (starEach [e2] X.env)).any (·.1) = false := by rfl) :
    PI X (.Tuple elts kk tpos) (.Call (.Name "zip" p) [e, e2] [] pos) (iZip2 X.K ta) := by
  refine ⟨fun pins s σ H R I h => ?_⟩
  refine Call_ (ld_blt I hg hm PyProof.Rows.boot_zip (PyProof.Rows.callWith_type1 (thn (ha.run pos pins s σ H _ I h) fun us s1 ⟨vs, H1, I1, r1, q1⟩ => ?_) hs hpl))
  obtain ⟨k1, k2, a, b, xs, ys, ex, q1, q2, q⟩ := q1
  subst ex
  have uu : us = [Value.ref a, Value.ref b] := by
    cases r1 with
    | cons r rr =>
      cases rr with
      | cons r2 rr =>
        cases rr
        cases r
        cases r2
        rfl
  subst uu
  obtain ⟨its1, rv1, p1, lt1⟩ := k_read I1 q1
  obtain ⟨its2, rv2, p2, lt2⟩ := k_read I1 q2
  refine zip_begins2 (k_begins k1 a its1.toArray) (k_begins k2 b its2.toArray) p1 p2 fun h' hz hTI hTO g1 g2 hsz hk => wpAny_pyIter_zip hz ?_
  have I2 : Inv X pins σ H1 { s1 with heap := h' } := I1.kept (t' := s1.toks) hk
  have fresh : ∀ c, c ∈ [s1.heap.objs.size + 4, s1.heap.objs.size + 2, s1.heap.objs.size + 3, s1.heap.objs.size, s1.heap.objs.size + 1] → FpOk X pins H1 c := fun c hcm => by
    have e' : c = s1.heap.objs.size + 4 ∨ c = s1.heap.objs.size + 2 ∨ c = s1.heap.objs.size + 3 ∨ c = s1.heap.objs.size ∨ c = s1.heap.objs.size + 1 := by simpa using hcm
    have hle : s1.heap.objs.size ≤ c := by
      rcases e' with z | z | z | z | z
      · rw [z]; exact Nat.le_add_right _ _
      · rw [z]; exact Nat.le_add_right _ _
      · rw [z]; exact Nat.le_add_right _ _
      · rw [z]; exact Nat.le_refl _
      · rw [z]; exact Nat.le_add_right _ _
    exact I1.fpOk hle (I1.hok.fresh hle)
  exact ⟨s1.heap.objs.size + 4, [s1.heap.objs.size + 4, s1.heap.objs.size + 2, s1.heap.objs.size + 3, s1.heap.objs.size, s1.heap.objs.size + 1], _, _, H1, rfl, I2, turn_z2 (zip_sep2 (fun b hb => by rw [List.mem_singleton.mp hb]; exact lt1) (fun b hb => by rw [List.mem_singleton.mp hb]; exact lt2)) (Nat.ne_of_lt (Nat.lt_of_lt_of_le lt1 (Nat.le_refl _))) (Nat.ne_of_lt (Nat.lt_of_lt_of_le lt2 (Nat.le_add_right _ _))), ⟨hz, hTI, ⟨_, _, hTO⟩, k_new g1, k_new g2⟩, fresh, q⟩
/-! ### three -/
def ItZ3 (K : PySem.W.Frag) (k1 k2 k3 : Bool) (a b c : Addr) : It :=
  ⟨fun i H => ∃ (xs ys zs : List V) (x y u : V), Sr K k1 H a xs ∧ Sr K k2 H b ys ∧ Sr K k3 H c zs ∧ xs[i]? = some x ∧ ys[i]? = some y ∧ zs[i]? = some u,
    fun i H v H' => ∃ T x y u, v = .ref T ∧ H T = none ∧ H' = upd H T (.tup [x, y, u]) ∧ (∀ xs, Sr K k1 H a xs → xs[i]? = some x) ∧ (∀ ys, Sr K k2 H b ys → ys[i]? = some y) ∧ (∀ zs, Sr K k3 H c zs → zs[i]? = some u),
    fun i H => ∃ xs ys zs : List V, Sr K k1 H a xs ∧ Sr K k2 H b ys ∧ Sr K k3 H c zs ∧ i ≤ xs.length ∧ i ≤ ys.length ∧ i ≤ zs.length ∧ (i = xs.length ∨ i = ys.length ∨ i = zs.length)⟩
theorem turn_z3 {P : Program} {w : World} {K : PySem.W.Frag} {elts : List Expr} {kk : Nat} {tpos : Pos} {k1 k2 k3 : Bool} {a b c z TI TO i1 i2 i3 : Addr} (D : ZipSep3 z TI TO i1 i2 i3 [i1, a] [i2, b] [i3, c]) (n1 : a ≠ i1) (n2 : b ≠ i2) (n3 : c ≠ i3) :
    Turn P w K (.Tuple elts kk tpos) (ItZ3 K k1 k2 k3 a b c) [z, TI, TO, i1, i2, i3] z (fun i h => IsZip h z TI TO .none ∧ IsTupOf3 h TI (.ref i1) (.ref i2) (.ref i3) ∧ (∃ x y u, IsTupOf3 h TO x y u) ∧ kIter k1 i1 a i h ∧ kIter k2 i2 b i h ∧ kIter k3 i3 c i h) where
  mem := by simp
  obj := fun i h st c hc => by
    obtain ⟨hz, hTI, ⟨x, y, u, hTO⟩, h1, h2, h3⟩ := st
    have e' : c = z ∨ c = TI ∨ c = TO ∨ c = i1 ∨ c = i2 ∨ c = i3 := by simpa using hc
    rcases e' with q | q | q | q | q | q
    · rw [q]; exact ⟨_, hz, fun v q => nomatch q⟩
    · rw [q]; exact ⟨_, hTI, fun v q => nomatch q⟩
    · rw [q]; exact ⟨_, hTO, fun v q => nomatch q⟩
    · rw [q]; exact k_get h1
    · rw [q]; exact k_get h2
    · rw [q]; exact k_get h3
  keep := fun i h h' st k => by
    obtain ⟨hz, hTI, ⟨x, y, u, hTO⟩, h1, h2, h3⟩ := st
    exact ⟨k z (by simp) _ hz, k TI (by simp) _ hTI, ⟨x, y, u, k TO (by simp) _ hTO⟩, k_at h1 fun o q => k i1 (by simp) o q, k_at h2 fun o q => k i2 (by simp) o q, k_at h3 fun o q => k i3 (by simp) o q⟩
  item := by
    intro X hP hw hK hc i pins s σ H E I hf st hg
    subst hP hw hK
    obtain ⟨hz, hTI, ⟨x0, y0, u0, hTO⟩, h1, h2, h3⟩ := st
    obtain ⟨xs, ys, zs, x, y, u, q1, q2, q3, e1, e2, e3⟩ := hg
    obtain ⟨its1, rv1, p1, _⟩ := k_read I q1
    obtain ⟨u1, hu1, ru1⟩ := rv1.get e1
    obtain ⟨its2, rv2, p2, _⟩ := k_read I q2
    obtain ⟨u2, hu2, ru2⟩ := rv2.get e2
    obtain ⟨its3, rv3, p3, _⟩ := k_read I q3
    obtain ⟨u3, hu3, ru3⟩ := rv3.get e3
    have hh : X.A.in1.handled = none := I.ok.hd hc
    have hzl : z < s.heap.objs.size := Heap.lt_size hz
    have lt1 : i < its1.toArray.size := by
      rw [List.size_toArray]
      exact (List.getElem?_eq_some_iff.mp hu1).1
    have lt2 : i < its2.toArray.size := by
      rw [List.size_toArray]
      exact (List.getElem?_eq_some_iff.mp hu2).1
    have lt3 : i < its3.toArray.size := by
      rw [List.size_toArray]
      exact (List.getElem?_eq_some_iff.mp hu3).1
    refine wpAny_pyNext_zipD3_item D (k_draws (prog := X.prog) (w := X.w) hh k1 i1 a n1 its1.toArray) (k_draws (prog := X.prog) (w := X.w) hh k2 i2 b n2 its2.toArray) (k_draws (prog := X.prog) (w := X.w) hh k3 i3 c n3 its3.toArray) hz hTI hTO ⟨h1, p1⟩ ⟨h2, p2⟩ ⟨h3, p3⟩ lt1 lt2 lt3 fun w1 w2 w3 h' tk y1 y2 y3 z' TO' d1 d2 d3 hT hsz hk => ?_
    have ew1 : w1 = u1 := by
      have q : its1.toArray[i]? = some u1 := by simpa using hu1
      have y1' : its1.toArray[i]? = some w1 := y1
      rw [q] at y1'
      exact (Option.some.inj y1').symm
    subst ew1
    have ew2 : w2 = u2 := by
      have q : its2.toArray[i]? = some u2 := by simpa using hu2
      have y2' : its2.toArray[i]? = some w2 := y2
      rw [q] at y2'
      exact (Option.some.inj y2').symm
    subst ew2
    have ew3 : w3 = u3 := by
      have q : its3.toArray[i]? = some u3 := by simpa using hu3
      have y3' : its3.toArray[i]? = some w3 := y3
      rw [q] at y3'
      exact (Option.some.inj y3').symm
    subst ew3
    refine ⟨_, rfl, wpAny_letOwnedTupleGo_zip (s := { s with heap := h', toks := tk }) z' fun h'' z'' sb => ?_⟩
    have hT2 : h''.get? s.heap.objs.size = some { cls := .type "tuple", data := .seq #[w1, w2, w3] } := (sb.2 _ (Nat.ne_of_gt hzl)).trans hT
    have new : ObjOk X.prog X.w (upd H s.heap.objs.size (.tup [x, y, u])) h'' s.heap.objs.size (.tup [x, y, u]) := ⟨by show 3 ≤ sizeLine; decide, [w1, w2, w3], .cons ru1 (.cons ru2 (.cons ru3 (.nil))), ⟨_, hT2, rfl, _, rfl⟩⟩
    have I1 : Inv X pins σ (upd H s.heap.objs.size (.tup [x, y, u])) { s with heap := h'', toks := tk } :=
      I.turnedNew (ch := [z, TI, TO, i1, i2, i3]) (fun c o hb q => (sb.2 c (fun q' => hb (by simp [q']))).trans (hk c o (fun q' => hb (by simp [q'])) (fun q' => hb (by simp [q'])) (fun q' => hb (by simp [q'])) (fun q' => hb (by simp [q'])) (fun q' => hb (by simp [q'])) q)) hf (Nat.le_refl _) new
    refine ⟨.ref s.heap.objs.size, _, I1, rfl, ⟨_, x, y, u, rfl, I.hok.fresh (Nat.le_refl _), rfl, fun l hl => by rw [k_inj I hl q1]; exact e1, fun l hl => by rw [k_inj I hl q2]; exact e2, fun l hl => by rw [k_inj I hl q3]; exact e3⟩, ⟨z'', (sb.2 _ D.TIz).trans (hk _ _ D.TIz D.TITO D.TIi1 D.TIi2 D.TIi3 hTI), ⟨w1, w2, w3, (sb.2 _ D.TOz).trans TO'⟩, k_at d1.1 fun o q => (sb.2 _ (fun e => D.zf1 (by rw [← e]; exact List.mem_cons_self))).trans q, k_at d2.1 fun o q => (sb.2 _ (fun e => D.zf2 (by rw [← e]; exact List.mem_cons_self))).trans q, k_at d3.1 fun o q => (sb.2 _ (fun e => D.zf3 (by rw [← e]; exact List.mem_cons_self))).trans q⟩, fun c hcm => ?_⟩
    have hlt : c < s.heap.objs.size := by
      have e' : c = z ∨ c = TI ∨ c = TO ∨ c = i1 ∨ c = i2 ∨ c = i3 := by simpa using hcm
      rcases e' with q | q | q | q | q | q
      · rw [q]; exact hzl
      · rw [q]; exact Heap.lt_size hTI
      · rw [q]; exact Heap.lt_size hTO
      · rw [q]; obtain ⟨_, e1, _⟩ := k_get h1; exact Heap.lt_size e1
      · rw [q]; obtain ⟨_, e1, _⟩ := k_get h2; exact Heap.lt_size e1
      · rw [q]; obtain ⟨_, e1, _⟩ := k_get h3; exact Heap.lt_size e1
    rw [upd_ne (Nat.ne_of_lt hlt)]
    exact (hf c hcm).1
  done := by
    intro X hP hw hK hc i pins s σ H E I hf st hg
    subst hP hw hK
    obtain ⟨hz, hTI, ⟨x0, y0, u0, hTO⟩, h1, h2, h3⟩ := st
    obtain ⟨xs, ys, zs, q1, q2, q3, l1, l2, l3, hend⟩ := hg
    obtain ⟨its1, rv1, p1, _⟩ := k_read I q1
    have z1 : its1.toArray.size = xs.length := by rw [List.size_toArray]; exact rv1.length.symm
    obtain ⟨its2, rv2, p2, _⟩ := k_read I q2
    have z2 : its2.toArray.size = ys.length := by rw [List.size_toArray]; exact rv2.length.symm
    obtain ⟨its3, rv3, p3, _⟩ := k_read I q3
    have z3 : its3.toArray.size = zs.length := by rw [List.size_toArray]; exact rv3.length.symm
    have hh : X.A.in1.handled = none := I.ok.hd hc
    refine wpAny_pyNext_zipD3_end D (k_draws (prog := X.prog) (w := X.w) hh k1 i1 a n1 its1.toArray) (k_draws (prog := X.prog) (w := X.w) hh k2 i2 b n2 its2.toArray) (k_draws (prog := X.prog) (w := X.w) hh k3 i3 c n3 its3.toArray) hz hTI hTO ⟨h1, p1⟩ ⟨h2, p2⟩ ⟨h3, p3⟩ (by rw [z1]; exact l1) (by rw [z2]; exact l2) (by rw [z3]; exact l3) (by rw [z1, z2, z3]; exact hend) fun h' tk hk => ⟨rfl, I.turnedL (ch := [z, TI, TO, i1, i2, i3]) (fun c o hb q => hk c o (fun q' => hb (by simp [q'])) (fun q' => hb (by simp [q'])) (fun q' => hb (by simp [q'])) (fun q' => hb (by simp [q'])) (fun q' => hb (by simp [q'])) q) hf⟩
  self := fun A i s Q E st h => wpAny_pyIter_zip st.1 h
def iZip3 (K : PySem.W.Frag) (ta : TA) : TI := fun σ H R => ta σ H fun vs H1 => ∃ (k1 k2 k3 : Bool) (a b c : Addr) (xs ys zs : List V), vs = [.ref a, .ref b, .ref c] ∧ Sr K k1 H1 a xs ∧ Sr K k2 H1 b ys ∧ Sr K k3 H1 c zs ∧ R (ItZ3 K k1 k2 k3 a b c) H1
theorem pi_zip3 {X : Cx} {e e2 e3 : Expr} {ta : TA} {p pos tpos : Pos} {elts : List Expr} {kk : Nat} (hg : Gl X "zip") (hm : X.mg "zip" = none) (ha : PA X [e, e2, e3] ta)
    (hs : starEach [e, e2, e3] X.env = (false, eval e X.env) :: starEach [e2, e3] X.env := by rfl) (hpl : (backTo pos (starEach [e2, e3] X.env)).any (·.1) = false := by rfl) :
    PI X (.Tuple elts kk tpos) (.Call (.Name "zip" p) [e, e2, e3] [] pos) (iZip3 X.K ta) := by
  refine ⟨fun pins s σ H R I h => ?_⟩
  refine Call_ (ld_blt I hg hm PyProof.Rows.boot_zip (PyProof.Rows.callWith_type1 (thn (ha.run pos pins s σ H _ I h) fun us s1 ⟨vs, H1, I1, r1, q1⟩ => ?_) hs hpl))
  obtain ⟨k1, k2, k3, a, b, c, xs, ys, zs, ex, q1, q2, q3, q⟩ := q1
  subst ex
  have uu : us = [Value.ref a, Value.ref b, Value.ref c] := by
    cases r1 with
    | cons r rr =>
      cases rr with
      | cons r2 rr =>
        cases rr with
        | cons r3 rr =>
          cases rr
          cases r
          cases r2
          cases r3
          rfl
  subst uu
  obtain ⟨its1, rv1, p1, lt1⟩ := k_read I1 q1
  obtain ⟨its2, rv2, p2, lt2⟩ := k_read I1 q2
  obtain ⟨its3, rv3, p3, lt3⟩ := k_read I1 q3
  refine zip_begins3 (k_begins k1 a its1.toArray) (k_begins k2 b its2.toArray) (k_begins k3 c its3.toArray) p1 p2 p3 fun h' hz hTI hTO g1 g2 g3 hsz hk => wpAny_pyIter_zip hz ?_
  have I2 : Inv X pins σ H1 { s1 with heap := h' } := I1.kept (t' := s1.toks) hk
  have fresh : ∀ c, c ∈ [s1.heap.objs.size + 5, s1.heap.objs.size + 3, s1.heap.objs.size + 4, s1.heap.objs.size, s1.heap.objs.size + 1, s1.heap.objs.size + 2] → FpOk X pins H1 c := fun c hcm => by
    have e' : c = s1.heap.objs.size + 5 ∨ c = s1.heap.objs.size + 3 ∨ c = s1.heap.objs.size + 4 ∨ c = s1.heap.objs.size ∨ c = s1.heap.objs.size + 1 ∨ c = s1.heap.objs.size + 2 := by simpa using hcm
    have hle : s1.heap.objs.size ≤ c := by
      rcases e' with z | z | z | z | z | z
      · rw [z]; exact Nat.le_add_right _ _
      · rw [z]; exact Nat.le_add_right _ _
      · rw [z]; exact Nat.le_add_right _ _
      · rw [z]; exact Nat.le_refl _
      · rw [z]; exact Nat.le_add_right _ _
      · rw [z]; exact Nat.le_add_right _ _
    exact I1.fpOk hle (I1.hok.fresh hle)
  exact ⟨s1.heap.objs.size + 5, [s1.heap.objs.size + 5, s1.heap.objs.size + 3, s1.heap.objs.size + 4, s1.heap.objs.size, s1.heap.objs.size + 1, s1.heap.objs.size + 2], _, _, H1, rfl, I2, turn_z3 (zip_sep3 (fun b hb => by rw [List.mem_singleton.mp hb]; exact lt1) (fun b hb => by rw [List.mem_singleton.mp hb]; exact lt2) (fun b hb => by rw [List.mem_singleton.mp hb]; exact lt3)) (Nat.ne_of_lt (Nat.lt_of_lt_of_le lt1 (Nat.le_refl _))) (Nat.ne_of_lt (Nat.lt_of_lt_of_le lt2 (Nat.le_add_right _ _))) (Nat.ne_of_lt (Nat.lt_of_lt_of_le lt3 (Nat.le_add_right _ _))), ⟨hz, hTI, ⟨_, _, _, hTO⟩, k_new g1, k_new g2, k_new g3⟩, fresh, q⟩

def seqD (k : Bool) (xs : List PyData) : PyData := if k = true then .list xs else .tuple xs
theorem seq_rp {K : PySem.W.Frag} {I : Hp} {k : Bool} {v : V} {xs : List PyData} (r : Rp K I v (seqD k xs)) : ∃ a vs, v = .ref a ∧ RpAll K I vs xs ∧ ∀ H, Same I H → Sr K k H a vs := by
  cases k with
  | true =>
    cases (show Rp K I v (.list xs) from r) with
    | lst h a => exact ⟨_, _, rfl, a, fun H s => SqL.of (s _ _ h)⟩
  | false =>
    cases (show Rp K I v (.tuple xs) from r) with
    | tup h a => exact ⟨_, _, rfl, a, fun H s => SqT.of (s _ _ h)⟩
def pairs (xs ys : List PyData) : List PyData := (List.zip xs ys).map fun p => .tuple [p.1, p.2]
theorem pairs_len {xs ys : List PyData} : (pairs xs ys).length = min xs.length ys.length := by unfold pairs; rw [List.length_map, List.length_zip]
theorem pairs_get {xs ys : List PyData} {i : Nat} {d : PyData} (h : (pairs xs ys)[i]? = some d) : ∃ x y, xs[i]? = some x ∧ ys[i]? = some y ∧ d = .tuple [x, y] := by
  unfold pairs at h
  rw [List.getElem?_map] at h
  cases e : (List.zip xs ys)[i]? with
  | none => rw [e] at h; cases h
  | some p =>
    rw [e] at h
    obtain ⟨h1, h2⟩ := List.getElem?_zip_eq_some.mp e
    exact ⟨p.1, p.2, h1, h2, (Option.some.inj h).symm⟩
def triples (xs ys zs : List PyData) : List PyData := (List.zip xs (List.zip ys zs)).map fun p => .tuple [p.1, p.2.1, p.2.2]
theorem triples_len {xs ys zs : List PyData} : (triples xs ys zs).length = min xs.length (min ys.length zs.length) := by unfold triples; rw [List.length_map, List.length_zip, List.length_zip]
theorem triples_get {xs ys zs : List PyData} {i : Nat} {d : PyData} (h : (triples xs ys zs)[i]? = some d) : ∃ x y z, xs[i]? = some x ∧ ys[i]? = some y ∧ zs[i]? = some z ∧ d = .tuple [x, y, z] := by
  unfold triples at h
  rw [List.getElem?_map] at h
  cases e : (List.zip xs (List.zip ys zs))[i]? with
  | none => rw [e] at h; cases h
  | some p =>
    rw [e] at h
    obtain ⟨h1, h2⟩ := List.getElem?_zip_eq_some.mp e
    obtain ⟨h3, h4⟩ := List.getElem?_zip_eq_some.mp h2
    exact ⟨p.1, p.2.1, p.2.2, h1, h3, h4, (Option.some.inj h).symm⟩
section
variable {K : PySem.W.Frag} {δ : List Sl} {xs ys zs : List PyData} {t : TA}
theorem ei_zip2 (k1 k2 : Bool) (h : EvA K t δ [seqD k1 xs, seqD k2 ys]) : EvI K (iZip2 K t) δ (pairs xs ys) := fun G σ H I s g r R q =>
  h G σ H I s g r _ fun vs H1 I1 n1 rv => by
    cases rv with
    | cons r1 rv =>
      cases rv with
      | cons r2 rv =>
        cases rv
        obtain ⟨a, vs1, rfl, a1, s1⟩ := seq_rp r1
        obtain ⟨b, vs2, rfl, a2, s2⟩ := seq_rp r2
        refine ⟨k1, k2, a, b, vs1, vs2, rfl, s1 _ n1.s, s2 _ n1.s, q _ H1 I1 n1 ⟨fun i H2 I2 e1 e2 hi => ?_, fun H2 I2 e1 e2 => ?_, fun i H2 I2 w H3 e1 e2 hi y => ?_⟩⟩
        · rw [pairs_len] at hi
          obtain ⟨u, hu, _⟩ := a1.get (List.getElem?_eq_getElem (show i < xs.length by omega))
          obtain ⟨u2, hu2, _⟩ := a2.get (List.getElem?_eq_getElem (show i < ys.length by omega))
          exact ⟨vs1, vs2, u, u2, s1 _ (e1.trans e2), s2 _ (e1.trans e2), hu, hu2⟩
        · refine ⟨vs1, vs2, s1 _ (e1.trans e2), s2 _ (e1.trans e2), ?_⟩
          rw [pairs_len, a1.length, a2.length]
          omega
        · obtain ⟨T, x, y', rfl, hT, rfl, f1, f2⟩ := y
          refine ⟨upd I2 T (.tup [x, y']), Nx.new e2 hT, fun d hd => ?_⟩
          obtain ⟨dx, dy, g1, g2, rfl⟩ := pairs_get hd
          obtain ⟨u, hu, ru⟩ := a1.get g1
          obtain ⟨u2, hu2, ru2⟩ := a2.get g2
          have q1 := f1 vs1 (s1 _ (e1.trans e2))
          have q2 := f2 vs2 (s2 _ (e1.trans e2))
          rw [hu] at q1
          rw [hu2] at q2
          cases q1
          cases q2
          have e3 : Same I1 (upd I2 T (.tup [x, y'])) := e1.trans (same_new (e2.free hT))
          exact .tup upd_same (.cons (ru.mono e3) (.cons (ru2.mono e3) .nil))
theorem ei_zip3 (k1 k2 k3 : Bool) (h : EvA K t δ [seqD k1 xs, seqD k2 ys, seqD k3 zs]) : EvI K (iZip3 K t) δ (triples xs ys zs) := fun G σ H I s g r R q =>
  h G σ H I s g r _ fun vs H1 I1 n1 rv => by
    cases rv with
    | cons r1 rv =>
      cases rv with
      | cons r2 rv =>
        cases rv with
        | cons r3 rv =>
          cases rv
          obtain ⟨a, vs1, rfl, a1, s1⟩ := seq_rp r1
          obtain ⟨b, vs2, rfl, a2, s2⟩ := seq_rp r2
          obtain ⟨c, vs3, rfl, a3, s3⟩ := seq_rp r3
          refine ⟨k1, k2, k3, a, b, c, vs1, vs2, vs3, rfl, s1 _ n1.s, s2 _ n1.s, s3 _ n1.s, q _ H1 I1 n1 ⟨fun i H2 I2 e1 e2 hi => ?_, fun H2 I2 e1 e2 => ?_, fun i H2 I2 w H3 e1 e2 hi y => ?_⟩⟩
          · rw [triples_len] at hi
            obtain ⟨u, hu, _⟩ := a1.get (List.getElem?_eq_getElem (show i < xs.length by omega))
            obtain ⟨u2, hu2, _⟩ := a2.get (List.getElem?_eq_getElem (show i < ys.length by omega))
            obtain ⟨u3, hu3, _⟩ := a3.get (List.getElem?_eq_getElem (show i < zs.length by omega))
            exact ⟨vs1, vs2, vs3, u, u2, u3, s1 _ (e1.trans e2), s2 _ (e1.trans e2), s3 _ (e1.trans e2), hu, hu2, hu3⟩
          · refine ⟨vs1, vs2, vs3, s1 _ (e1.trans e2), s2 _ (e1.trans e2), s3 _ (e1.trans e2), ?_⟩
            rw [triples_len, a1.length, a2.length, a3.length]
            omega
          · obtain ⟨T, x, y', z', rfl, hT, rfl, f1, f2, f3⟩ := y
            refine ⟨upd I2 T (.tup [x, y', z']), Nx.new e2 hT, fun d hd => ?_⟩
            obtain ⟨dx, dy, dz, g1, g2, g3, rfl⟩ := triples_get hd
            obtain ⟨u, hu, ru⟩ := a1.get g1
            obtain ⟨u2, hu2, ru2⟩ := a2.get g2
            obtain ⟨u3, hu3, ru3⟩ := a3.get g3
            have q1 := f1 vs1 (s1 _ (e1.trans e2))
            have q2 := f2 vs2 (s2 _ (e1.trans e2))
            have q3 := f3 vs3 (s3 _ (e1.trans e2))
            rw [hu] at q1
            rw [hu2] at q2
            rw [hu3] at q3
            cases q1
            cases q2
            cases q3
            have e3 : Same I1 (upd I2 T (.tup [x, y', z'])) := e1.trans (same_new (e2.free hT))
            exact .tup upd_same (.cons (ru.mono e3) (.cons (ru2.mono e3) (.cons (ru3.mono e3) .nil)))
end
end Tw

/-! Tw4: the script as data; rows, moves, nets; what the laws draw. -/
namespace Tw
open PySem PySem.Spec PyProof.Rows L2

/-! ### the script -/
def scrD (ns : List Int) : PyData := .dict [(.none, .list (ns.map .int))]
section
variable {K : PySem.W.Frag} {δ : List Sl} {ta tb te : TE} {ns : List Int} {i : Int}
theorem map_int_inj : ∀ {a b : List Int}, a.map PyData.int = b.map PyData.int → a = b
  | [], [], _ => rfl
  | [], _ :: _, h => by cases h
  | _ :: _, [], h => by cases h
  | x :: xs, y :: ys, h => by
    rw [List.map_cons, List.map_cons] at h
    injection h with h1 h2
    injection h1 with h1
    rw [h1, map_int_inj h2]
theorem rp_scr {I : Hp} {v : V} (r : Rp K I v (scrD ns)) : ∃ a, v = .ref a ∧ SqL K I a (ns.map V.int) := by
  unfold scrD at r
  generalize e : (PyData.dict [(PyData.none, PyData.list (ns.map PyData.int))]) = d at r
  cases r with
  | @scr a ms h =>
    injection e with e
    injection e with e _
    injection e with _ e
    injection e with e
    rw [map_int_inj e]
    exact ⟨a, rfl, h⟩
  | _ => simp at e
theorem rc_lenZ : RAD K (rLenA K) [scrD ns] (.int ns.length) := fun H I vs s r Q q => by
  cases r with
  | cons r1 r2 =>
    cases r2
    obtain ⟨a, rfl, h⟩ := rp_scr r1
    refine ⟨_, _, rfl, .inl ⟨_, s.seq h, rfl⟩, ?_⟩
    rw [List.length_map]
    exact q _ H I (Nx.refl s) (.int _)
theorem rd_ixZ {z : Int} (h : atI ns i = some z) : R2D K (rIx K) (scrD ns) (.int i) (.int z) := fun H I v u s r1 r2 Q q => by
  obtain ⟨a, rfl, hl⟩ := rp_scr r1
  cases r2
  refine .inl ⟨a, _, i, .int z, rfl, rfl, s.seq hl, ?_, q _ H I (Nx.refl s) (.int z)⟩
  unfold atI at h ⊢
  rw [List.length_map]
  cases e : ixN ns.length i with
  | none => rw [e] at h; cases h
  | some j =>
    rw [e] at h
    show (ns.map V.int)[j]? = _
    rw [List.getElem?_map]
    rw [show ns[j]? = some z from h]
    rfl
theorem lay_ints : ∀ ns : List Int, PyData.canLayAll0 (ns.map PyData.int) = true
  | [] => rfl
  | n :: ns => by
    show (PyData.canLay0 (.int n) && PyData.canLayAll0 (ns.map PyData.int)) = true
    rw [lay_ints ns]
    rfl
theorem depth_ints : ∀ ns : List Int, PyData.depthAll (ns.map PyData.int) ≤ 0
  | [] => by decide
  | n :: ns => by
    have h := depth_ints ns
    show max (PyData.depth (.int n)) (PyData.depthAll (ns.map PyData.int)) ≤ 0
    have : PyData.depth (.int n) = 0 := rfl
    omega
theorem rd_eqZ : R2D K (rEqD K) (scrD ns) (.list []) (.bool (PyData.eqv (.list (ns.map .int)) (.list []))) := fun H I v u s r1 r2 Q q => by
  obtain ⟨a, rfl, hl⟩ := rp_scr r1
  cases r2 with
  | lst h2 a2 =>
    cases a2
    refine ⟨.list (ns.map .int), .list [], .lst (s.seq hl) ((ints_rall (K := K) (I := H) ns).dp (lay_ints ns)), .lst (.of (s _ _ h2)) .nil, ?_, by decide, q _ H I (Nx.refl s) (.bl _)⟩
    · have h1 : (PyData.list (ns.map .int)).canLay0 = true := lay_ints ns
      have h2 : (PyData.list (ns.map .int)).depth ≤ 64 := by
        have := depth_ints ns
        show PyData.depthAll (ns.map .int) + 1 ≤ 64
        omega
      show (PyData.canLay0 _ && decide _) = true
      rw [h1, decide_eq_true h2]
      rfl
end

/-! ### what the laws draw -/
def cellF (ns : List Int) (k : Int) : Int := if k < ns.length then ns.getD k.toNat 0 else if ns = [] then 0 else ns.getD (k % ns.length).toNat 0 * 31 + k
def drawnF (ns : List Int) (k : Int) : Int := (cellF ns k + 7919 * k + 1) * 48271 % 2147483647
def mixedF (ns : List Int) (k many : Int) : Int := (drawnF ns k * drawnF ns k + 7 * drawnF ns k + k) % 2147483629 % many
theorem mixed_lo (ns : List Int) (k : Int) {many : Int} (h : 0 < many) : 0 ≤ mixedF ns k many := Int.emod_nonneg _ (by omega)
theorem mixed_hi (ns : List Int) (k : Int) {many : Int} (h : 0 < many) : mixedF ns k many < many := Int.emod_lt_of_pos _ h
theorem drawn_lo (ns : List Int) (k : Int) : 0 ≤ drawnF ns k := Int.emod_nonneg _ (by decide)
theorem drawn_hi (ns : List Int) (k : Int) : drawnF ns k < 2147483647 := Int.emod_lt_of_pos _ (by decide)

/-! ### rows, moves, nets -/
def rowD (r : List Int) : PyData := .tuple (r.map .int)
def moveD (m : List Int × List Int) : PyData := .tuple [rowD m.1, rowD m.2]
def netD (n : Nat) (ms : List (List Int × List Int)) : PyData := .tuple [.int n, .tuple (ms.map moveD)]
/-- a row of n numbers from 0 to w -/
def RowOk (n : Nat) (w : Int) (r : List Int) : Prop := r.length = n ∧ ∀ x ∈ r, 0 ≤ x ∧ x ≤ w
structure NetOk (n : Nat) (w : Int) (ms : List (List Int × List Int)) : Prop where
  pos : 1 ≤ n
  top : n ≤ 6
  many : ms.length ≤ 10
  rows : ∀ m ∈ ms, RowOk n w m.1 ∧ RowOk n w m.2
theorem RowOk.mono {n : Nat} {w w' : Int} {r : List Int} (h : RowOk n w r) (hw : w ≤ w') : RowOk n w' r := ⟨h.1, fun x hx => ⟨(h.2 x hx).1, Int.le_trans (h.2 x hx).2 hw⟩⟩
theorem NetOk.mono {n : Nat} {w w' : Int} {ms : List (List Int × List Int)} (h : NetOk n w ms) (hw : w ≤ w') : NetOk n w' ms :=
  ⟨h.pos, h.top, h.many, fun m hm => ⟨(h.rows m hm).1.mono hw, (h.rows m hm).2.mono hw⟩⟩
/-- the items of a row -/
theorem row_get {r : List Int} {j : Nat} {z : Int} (h : r[j]? = some z) : (r.map PyData.int)[j]? = some (.int z) := by
  rw [List.getElem?_map, h]
  rfl
theorem row_get' {r : List Int} {j : Nat} {d : PyData} (h : (r.map PyData.int)[j]? = some d) : ∃ z, r[j]? = some z ∧ d = .int z := by
  rw [List.getElem?_map] at h
  cases e : r[j]? with
  | none => rw [e] at h; cases h
  | some z =>
    rw [e] at h
    exact ⟨z, rfl, (Option.some.inj h).symm⟩
theorem getD_get {α : Type} {l : List α} {j : Nat} {d : α} (h : j < l.length) : l[j]? = some (l.getD j d) := by
  rw [List.getD_eq_getElem?_getD, List.getElem?_eq_getElem h]
  rfl
theorem at_getD {l : List Int} {i : Int} (h0 : 0 ≤ i) (h1 : i < l.length) : atI l i = some (l.getD i.toNat 0) := by
  have e : i = (i.toNat : Int) := by omega
  rw [e]
  exact at_nat (getD_get (by omega))
theorem at_row {l : List Int} {i : Int} (h0 : 0 ≤ i) (h1 : i < l.length) : atI (l.map PyData.int) i = some (.int (l.getD i.toNat 0)) := by
  have e : i = (i.toNat : Int) := by omega
  rw [e]
  exact at_nat (row_get (getD_get (by omega)))
theorem at_map {α : Type} {l : List α} {f : α → PyData} {i : Int} {a : α} (h : atI l i = some a) : atI (l.map f) i = some (f a) := by
  unfold atI at h ⊢
  rw [List.length_map]
  cases e : ixN l.length i with
  | none => rw [e] at h; cases h
  | some j =>
    rw [e] at h
    show (l.map f)[j]? = _
    rw [List.getElem?_map]
    rw [show l[j]? = some a from h]
    rfl

/-- a row of draws by a table -/
def tabRow (tab : List Int) (f : Int → Int) (cells : List Int) : List Int := cells.map fun c => tab.getD (f c).toNat 0
def cellsF (ns : List Int) (at_ : Int) (size : Nat) : List Int := (List.range size).map fun (k : Nat) => mixedF ns (at_ + k) 25
/-- one token more at a place, so often -/
def pour (size : Int) : Nat → List Int → Int → List Int
  | 0, g, _ => g
  | n + 1, g, left => pour size n (g.set (left % size).toNat (g.getD (left % size).toNat 0 + 1)) (left / size)
def moveF (tab : List Int) (ns : List Int) (at_ : Int) (size : Nat) (even : Bool) : List Int × List Int :=
  let takes := tabRow tab (· % 5) (cellsF ns at_ size)
  (takes, if even then pour size takes.sum.toNat (List.replicate size 0) (mixedF ns (at_ + 4) 65536) else tabRow tab (· / 5) (cellsF ns at_ size))
theorem cells_get {ns : List Int} {at_ : Int} {size : Nat} {c : Int} (h : c ∈ cellsF ns at_ size) : 0 ≤ c ∧ c < 25 := by
  unfold cellsF at h
  obtain ⟨k, _, rfl⟩ := List.mem_map.mp h
  exact ⟨mixed_lo _ _ (by decide), mixed_hi _ _ (by decide)⟩
theorem tab_ok {tab : List Int} {w : Int} (ht : tab.length = 5) (hw : ∀ x ∈ tab, 0 ≤ x ∧ x ≤ w) {f : Int → Int} {ns : List Int} {at_ : Int} {size : Nat} (hf : ∀ c, 0 ≤ c → c < 25 → 0 ≤ f c ∧ f c < 5) : RowOk size w (tabRow tab f (cellsF ns at_ size)) := by
  refine ⟨by unfold tabRow cellsF; rw [List.length_map, List.length_map, List.length_range], fun x hx => ?_⟩
  unfold tabRow at hx
  obtain ⟨c, hc, rfl⟩ := List.mem_map.mp hx
  obtain ⟨h0, h1⟩ := cells_get hc
  obtain ⟨f0, f1⟩ := hf c h0 h1
  refine hw _ ?_
  rw [List.getD_eq_getElem?_getD, List.getElem?_eq_getElem (show (f c).toNat < tab.length by omega)]
  exact List.getElem_mem _
theorem pour_len {size : Int} : ∀ (n : Nat) (g : List Int) (l : Int), (pour size n g l).length = g.length
  | 0, _, _ => rfl
  | n + 1, g, l => by
    unfold pour
    rw [pour_len n, List.length_set]
theorem pour_ok {size : Int} : ∀ (n : Nat) (g : List Int) (l w : Int), (∀ x ∈ g, 0 ≤ x ∧ x ≤ w) → 0 ≤ w → ∀ x ∈ pour size n g l, 0 ≤ x ∧ x ≤ w + n
  | 0, g, l, w, h, hw, x, hx => by
    have := h x hx
    omega
  | n + 1, g, l, w, h, hw, x, hx => by
    have hd : ∀ j : Nat, 0 ≤ g.getD j 0 ∧ g.getD j 0 ≤ w := fun j => by
      by_cases hj : j < g.length
      · rw [List.getD_eq_getElem?_getD, List.getElem?_eq_getElem hj]
        exact h _ (List.getElem_mem _)
      · rw [List.getD_eq_getElem?_getD, List.getElem?_eq_none_iff.mpr (by omega)]
        exact ⟨Int.le_refl _, hw⟩
    have ih := pour_ok n (g.set (l % size).toNat (g.getD (l % size).toNat 0 + 1)) (l / size) (w + 1) (fun y hy => by
      rcases List.mem_or_eq_of_mem_set hy with q | q
      · have := h y q
        omega
      · have := hd (l % size).toNat
        omega) (by omega) x hx
    omega
theorem sum_le {w : Int} : ∀ (r : List Int), (∀ x ∈ r, 0 ≤ x ∧ x ≤ w) → 0 ≤ r.sum ∧ r.sum ≤ w * r.length
  | [], _ => by simp
  | a :: r, h => by
    have ih := sum_le r fun x hx => h x (List.mem_cons_of_mem _ hx)
    have ha := h a List.mem_cons_self
    rw [List.sum_cons, List.length_cons, Int.natCast_succ, Int.mul_add, Int.mul_one]
    omega
/-- a drawn move: rows of that many numbers, at most w (at most 2 * size where it gives as many as it takes) -/
theorem move_ok {tab : List Int} {w W : Int} (ht : tab.length = 5) (hw : ∀ x ∈ tab, 0 ≤ x ∧ x ≤ w) (ns : List Int) (at_ : Int) (size : Nat) (even : Bool) (hW : w ≤ W) (hE : even = true → w * size ≤ W) (h0 : 0 ≤ w) :
    RowOk size W (moveF tab ns at_ size even).1 ∧ RowOk size W (moveF tab ns at_ size even).2 := by
  have h1 : RowOk size w (tabRow tab (· % 5) (cellsF ns at_ size)) := tab_ok ht hw fun c a b => ⟨Int.emod_nonneg _ (by decide), Int.emod_lt_of_pos _ (by decide)⟩
  have h2 : RowOk size w (tabRow tab (· / 5) (cellsF ns at_ size)) := tab_ok ht hw fun c a b => ⟨by omega, by omega⟩
  refine ⟨h1.mono hW, ?_⟩
  cases even with
  | false => exact h2.mono hW
  | true =>
    show RowOk size W (pour size (tabRow tab (· % 5) (cellsF ns at_ size)).sum.toNat (List.replicate size 0) (mixedF ns (at_ + 4) 65536))
    refine ⟨by rw [pour_len, List.length_replicate], fun x hx => ?_⟩
    have hs := sum_le _ h1.2
    rw [h1.1] at hs
    have hE' := hE rfl
    have := pour_ok _ _ _ 0 (fun y hy => by rw [List.eq_of_mem_replicate hy]; exact ⟨Int.le_refl _, Int.le_refl _⟩) (Int.le_refl _) x hx
    omega
def sizeF (ns : List Int) (at_ : Int) : Nat := if mixedF ns (at_ + 2) 6 = 5 then 4 else (1 + mixedF ns at_ 3).toNat
def manyF (ns : List Int) (at_ : Int) : Nat := (mixedF ns (at_ + 1) 5).toNat
def evenF (ns : List Int) (at_ : Int) : Bool := decide (mixedF ns (at_ + 3) 2 = 1)
theorem size_ok (ns : List Int) (at_ : Int) : 1 ≤ sizeF ns at_ ∧ sizeF ns at_ ≤ 4 := by
  have h0 := mixed_lo ns at_ (many := 3) (by decide)
  have h1 := mixed_hi ns at_ (many := 3) (by decide)
  unfold sizeF
  split <;> omega
theorem many_ok (ns : List Int) (at_ : Int) : manyF ns at_ ≤ 4 := by
  have h1 := mixed_hi ns (at_ + 1) (many := 5) (by decide)
  unfold manyF
  omega
def movesF (tab : List Int) (ns : List Int) (at_ : Int) : List (List Int × List Int) := (List.range (manyF ns at_)).map fun (k : Nat) => moveF tab ns (at_ + 4 + 5 * k) (sizeF ns at_) (evenF ns at_)
def tab0 : List Int := [0, 0, 1, 1, 2]
def tab9 : List Int := [0, 1, 3, 5, 9]
/-- the table by which a net's numbers are drawn: wide ones in a twelfth -/
def tabF (ns : List Int) (even : Bool) : List Int := if even = false ∧ mixedF ns 62 6 = 0 then tab9 else tab0
def hoardF (ns : List Int) (at_ : Int) (size : Nat) (most : Int) : List Int := (List.range size).map fun (k : Nat) => mixedF ns (at_ + k) (most + 1)
theorem hoard_ok (ns : List Int) (at_ : Int) (size : Nat) {most : Int} (h : 0 ≤ most) : RowOk size most (hoardF ns at_ size most) := by
  unfold hoardF
  refine ⟨by rw [List.length_map, List.length_range], fun x hx => ?_⟩
  obtain ⟨k, _, rfl⟩ := List.mem_map.mp hx
  have := mixed_lo ns (at_ + k) (many := most + 1) (by omega)
  have := mixed_hi ns (at_ + k) (many := most + 1) (by omega)
  omega
theorem net_ok0 (ns : List Int) (at_ : Int) : NetOk (sizeF ns at_) 9 (movesF tab0 ns at_) := by
  have h := size_ok ns at_
  refine ⟨h.1, by omega, by unfold movesF; rw [List.length_map, List.length_range]; have := many_ok ns at_; omega, fun m hm => ?_⟩
  unfold movesF at hm
  obtain ⟨k, _, rfl⟩ := List.mem_map.mp hm
  exact move_ok (w := 2) rfl (by decide) ns _ _ _ (by decide) (fun _ => by omega) (by decide)
theorem net_ok9 (ns : List Int) (at_ : Int) : NetOk (sizeF ns at_) 9 (movesF (tabF ns (evenF ns at_)) ns at_) := by
  have h := size_ok ns at_
  refine ⟨h.1, by omega, by unfold movesF; rw [List.length_map, List.length_range]; have := many_ok ns at_; omega, fun m hm => ?_⟩
  unfold movesF at hm
  obtain ⟨k, _, rfl⟩ := List.mem_map.mp hm
  unfold tabF
  split
  · rename_i he
    rw [he.1]
    exact move_ok (w := 9) rfl (by decide) ns _ _ _ (by decide) (fun z => by cases z) (by decide)
  · exact move_ok (w := 2) rfl (by decide) ns _ _ _ (by decide) (fun _ => by omega) (by decide)
theorem net_ok2 (ns : List Int) (at_ : Int) (h : evenF ns at_ = false) : NetOk (sizeF ns at_) 2 (movesF tab0 ns at_) := by
  have h' := size_ok ns at_
  refine ⟨h'.1, by omega, by unfold movesF; rw [List.length_map, List.length_range]; have := many_ok ns at_; omega, fun m hm => ?_⟩
  unfold movesF at hm
  obtain ⟨k, _, rfl⟩ := List.mem_map.mp hm
  exact move_ok (w := 2) rfl (by decide) ns _ _ _ (by decide) (fun z => by rw [h] at z; cases z) (by decide)
end Tw

/-! Tw5: shapes of loops that come often; what is clean data. -/
namespace Tw
open PySem PySem.Spec PyProof.Rows L2
/-! ### data that hold no script -/
mutual
def cln : PyData → Bool
  | .dict [] => true
  | .dict _ => false
  | .list ds => clnAll ds
  | .tuple ds => clnAll ds
  | _ => true
def clnAll : List PyData → Bool
  | [] => true
  | d :: ds => cln d && clnAll ds
end
def NoScr (d : PyData) : Prop := ∀ q, d ≠ .dict [q]
theorem cln_no {d : PyData} (h : cln d = true) : NoScr d := fun q e => by
  subst e
  cases h
theorem clnAll_get : ∀ {ds : List PyData} {i : Nat} {d : PyData}, clnAll ds = true → ds[i]? = some d → cln d = true
  | [], _, _, _, e => by simp at e
  | a :: r, 0, d, h, e => by
    have h' := Bool.and_eq_true_iff.mp (show (cln a && clnAll r) = true from h)
    simp at e
    subst e
    exact h'.1
  | a :: r, i + 1, d, h, e => by
    have h' := Bool.and_eq_true_iff.mp (show (cln a && clnAll r) = true from h)
    exact clnAll_get (i := i) h'.2 (by simpa using e)
theorem cln_ints : ∀ r : List Int, clnAll (r.map .int) = true
  | [] => rfl
  | _ :: r => by
    show (true && clnAll (r.map .int)) = true
    rw [cln_ints r]
    rfl
theorem cln_row (r : List Int) : cln (rowD r) = true := cln_ints r
theorem cln_moves : ∀ ms : List (List Int × List Int), clnAll (ms.map moveD) = true
  | [] => rfl
  | m :: ms => by
    show ((cln (rowD m.1) && (cln (rowD m.2) && true)) && clnAll (ms.map moveD)) = true
    rw [cln_moves ms, cln_row, cln_row]
    rfl
theorem cln_net (n : Nat) (ms : List (List Int × List Int)) : cln (netD n ms) = true := by
  show (true && ((clnAll (ms.map moveD)) && true)) = true
  rw [cln_moves]
  rfl
/-! ### loops -/
section
variable {K : PySem.W.Frag} {E : XK} {δ : List Sl} {ta tb te te1 te2 : TE} {tt : TT} {t u : TS} {x y z r1 r2 : PyData} {xs ys : List PyData} {P P' : Out → Prop}
/-- for ..: if test: return e1 / return e2 -/
theorem as_search {wi : TI} {g : TG} (p : Nat → Bool) (hi : EvI K wi δ xs) (Fr : List Sl → Prop) (h0 : Fr δ)
    (ht : ∀ i d δ', xs[i]? = some d → Fr δ' → (∀ j, j < i → p j = false) → Ag K g d δ' (fun δ2 => EvT K tt δ2 (p i) ∧ Fr δ2)) (h1 : ∀ δ', Fr δ' → Ev K te1 δ' r1) (h2 : ∀ δ', Fr δ' → Ev K te2 δ' r2)
    (k : P (.rt (if (List.range xs.length).any p then r1 else r2))) : As K E (tSeq (tFor wi g (tIfS tt (tRet te1) tNext)) (tRet te2)) δ P := by
  refine as_seq (as_for hi (fun i δ' => Fr δ' ∧ ∀ j, j < i → p j = false) ⟨h0, fun j hj => by omega⟩ (fun i d δ' hd hp => ?_) (fun δ' hp => ?_))
  · refine fun G σ H I v r s rv Q q => ht i d δ' hd hp.1 hp.2 G σ H I v r s rv Q fun δ2 σ' hh rr => q δ2 σ' ?_ rr
    have hlt : i < xs.length := (List.getElem?_eq_some_iff.mp hd).1
    refine as_if hh.1 (fun hb => as_ret (h1 _ hh.2) ?_) (fun hb => as_next ⟨hh.2, fun j hj => ?_⟩)
    · show P (.rt r1)
      rw [if_pos (List.any_eq_true.mpr ⟨i, List.mem_range.mpr hlt, hb⟩)] at k
      exact k
    · rcases Nat.lt_or_eq_of_le (Nat.le_of_lt_succ hj) with q | q
      · exact hp.2 j q
      · rw [q]; exact hb
  · show As K E (tRet te2) δ' P
    refine as_ret (h2 _ hp.1) ?_
    have e : (List.range xs.length).any p = false := by
      rw [List.any_eq_false]
      intro j hj
      rw [hp.2 j (List.mem_range.mp hj)]
      decide
    rw [e] at k
    exact k
/-- [e for x in ..]: every item kept -/
theorem en_map {wi : TI} {g : TG} {vs : List Nat} (f : Nat → PyData) (hi : EvI K wi δ xs) (hz : xs.length ≤ sizeLine) (hw : GWipe g vs)
    (hs : ∀ i d, xs[i]? = some d → Ag K g d (wipeD δ vs) (fun δ2 => Ev K te δ2 (f i))) : EvN K (tLc wi g tYes te vs) δ ((List.range xs.length).map f) := by
  rw [← kept_map]
  exact en_lc (fun _ => true) f hi hz hw fun i d hd G σ H I v r s rv Q q => hs i d hd G σ H I v r s rv Q fun δ2 σ' hh rr => q δ2 σ' ⟨et_yes, fun _ => hh⟩ rr
theorem gw_tup2 {i j : Nat} {vs : List Nat} (h : ∀ σ : L2.St, ∀ v w, L2.wipe (((L2.wipe σ vs).set i (some v)).set j (some w)) vs = L2.wipe σ vs) : GWipe (gTup K 2 (gCons (gName i) (gCons (gName j) gNil))) vs :=
  fun v σ H Q Q' k ⟨a, xs, e, hs, hl, v1, r1, e1, v2, r2, e2, e3, q⟩ => ⟨a, xs, e, hs, hl, v1, r1, e1, v2, r2, e2, e3, k _ (h σ v1 v2) q⟩
theorem gw_tup3 {i j l : Nat} {vs : List Nat} (h : ∀ σ : L2.St, ∀ v w u, L2.wipe ((((L2.wipe σ vs).set i (some v)).set j (some w)).set l (some u)) vs = L2.wipe σ vs) : GWipe (gTup K 3 (gCons (gName i) (gCons (gName j) (gCons (gName l) gNil)))) vs :=
  fun v σ H Q Q' k ⟨a, xs, e, hs, hl, v1, r1, e1, v2, r2, e2, v3, r3, e3, e4, q⟩ => ⟨a, xs, e, hs, hl, v1, r1, e1, v2, r2, e2, v3, r3, e3, e4, k _ (h σ v1 v2 v3) q⟩
theorem wipe_one (i : Nat) (σ : L2.St) (v : V) : L2.wipe ((L2.wipe σ [i]).set i (some v)) [i] = L2.wipe σ [i] := by
  show (((σ.set i none).set i (some v)).set i none) = σ.set i none
  rw [List.set_set, List.set_set]
theorem set_none_set {σ : L2.St} {i j : Nat} {v : V} : ((σ.set i (some v)).set j none).set i none = (σ.set j none).set i none := by
  by_cases h : i = j
  · subst h
    rw [List.set_set, List.set_set, List.set_set]
  · rw [List.set_comm _ _ h, List.set_set]
theorem wipe_two (i j : Nat) (σ : L2.St) (v w : V) : L2.wipe (((L2.wipe σ [i, j]).set i (some v)).set j (some w)) [i, j] = L2.wipe σ [i, j] := by
  apply List.ext_getElem?
  intro k
  show ((((((σ.set j none).set i none).set i (some v)).set j (some w)).set j none).set i none)[k]? = ((σ.set j none).set i none)[k]?
  simp only [List.getElem?_set, List.length_set]
  split <;> split <;> simp_all
theorem wipe_three (i j l : Nat) (σ : L2.St) (v w u : V) : L2.wipe ((((L2.wipe σ [i, j, l]).set i (some v)).set j (some w)).set l (some u)) [i, j, l] = L2.wipe σ [i, j, l] := by
  apply List.ext_getElem?
  intro k
  show ((((((((σ.set l none).set j none).set i none).set i (some v)).set j (some w)).set l (some u)).set l none).set j none |>.set i none)[k]? = (((σ.set l none).set j none).set i none)[k]?
  simp only [List.getElem?_set, List.length_set]
  repeat' (first | rfl | (split <;> first | rfl | skip) | simp_all)
theorem gw1 (i : Nat) : GWipe (gName i) [i] := gw_name (wipe_one i)
theorem gw2 (i j : Nat) : GWipe (gTup K 2 (gCons (gName i) (gCons (gName j) gNil))) [i, j] := gw_tup2 (wipe_two i j)
theorem gw3 (i j l : Nat) : GWipe (gTup K 3 (gCons (gName i) (gCons (gName j) (gCons (gName l) gNil)))) [i, j, l] := gw_tup3 (wipe_three i j l)
theorem row_line {r : List Int} (h : r.length ≤ 1000) : (r.map PyData.int).length ≤ sizeLine := by
  rw [List.length_map]
  exact small_line (by omega)
theorem nums_line {lo : Int} {n : Nat} (h : n ≤ 1000) : (nums lo n).length ≤ sizeLine := by
  rw [nums_len]
  exact small_line (by omega)
/-- a move of a net by its number -/
theorem net_moves {n : Nat} {ms : List (List Int × List Int)} {i : Nat} (h : δ[i]? = some (.d (netD n ms))) : Ev K (tOp (rIx K) (tVar i) (tC (.int 1))) δ (.tuple (ms.map moveD)) := ev_op (ev_var h) ev_int (rd_ixT rfl)
theorem net_size {n : Nat} {ms : List (List Int × List Int)} {i : Nat} (h : δ[i]? = some (.d (netD n ms))) : Ev K (tOp (rIx K) (tVar i) (tC (.int 0))) δ (.int n) := ev_op (ev_var h) ev_int (rd_ixT rfl)
theorem net_move {n : Nat} {ms : List (List Int × List Int)} {i j : Nat} {k : Nat} {m : List Int × List Int} (h : δ[i]? = some (.d (netD n ms))) (hj : δ[j]? = some (.d (.int k))) (hm : ms[k]? = some m) :
    Ev K (tOp (rIx K) (tOp (rIx K) (tVar i) (tC (.int 1))) (tVar j)) δ (moveD m) := ev_op (net_moves h) (ev_var hj) (rd_ixT (at_map (at_nat hm)))
end
theorem eqv_int (i j : Int) : PyData.eqv (.int i) (.int j) = decide (i = j) := by
  show (i == j) = _
  by_cases h : i = j
  · subst h; simp
  · simp [h]
/-! ### kinds of data -/
def isInt : PyData → Bool
  | .int _ => true
  | _ => false
theorem kit_int (d : PyData) (h : NoScr d) : ∃ b, kitB (tyD d) "int" = some b ∧ ∃ c, kitB (tyD d) "bool" = some c ∧ (b && !c) = isInt d := by
  cases d with
  | none => exact ⟨false, (show kitB "NoneType" "int" = some false by decide +kernel), false, (show kitB "NoneType" "bool" = some false by decide +kernel), rfl⟩
  | bool b => exact ⟨true, (show kitB "bool" "int" = some true by decide +kernel), true, (show kitB "bool" "bool" = some true by decide +kernel), rfl⟩
  | int i => exact ⟨true, (show kitB "int" "int" = some true by decide +kernel), false, (show kitB "int" "bool" = some false by decide +kernel), rfl⟩
  | str x => exact ⟨false, (show kitB "str" "int" = some false by decide +kernel), false, (show kitB "str" "bool" = some false by decide +kernel), rfl⟩
  | list xs => exact ⟨false, (show kitB "list" "int" = some false by decide +kernel), false, (show kitB "list" "bool" = some false by decide +kernel), rfl⟩
  | tuple xs => exact ⟨false, (show kitB "tuple" "int" = some false by decide +kernel), false, (show kitB "tuple" "bool" = some false by decide +kernel), rfl⟩
  | dict kvs =>
    cases kvs with
    | nil => exact ⟨false, (show kitB "dict" "int" = some false by decide +kernel), false, (show kitB "dict" "bool" = some false by decide +kernel), rfl⟩
    | cons q r => exact ⟨false, (show kitB "list" "int" = some false by decide +kernel), false, (show kitB "list" "bool" = some false by decide +kernel), rfl⟩
theorem kit_tup (d : PyData) (h : NoScr d) : ∃ b, kitB (tyD d) "tuple" = some b ∧ (b = true → ∃ xs, d = .tuple xs) ∧ (b = false → ∀ xs, d ≠ .tuple xs) := by
  cases d with
  | none => exact ⟨false, (show kitB "NoneType" "tuple" = some false by decide +kernel), (fun z => by cases z), fun _ _ z => by cases z⟩
  | bool b => exact ⟨false, (show kitB "bool" "tuple" = some false by decide +kernel), (fun z => by cases z), fun _ _ z => by cases z⟩
  | int i => exact ⟨false, (show kitB "int" "tuple" = some false by decide +kernel), (fun z => by cases z), fun _ _ z => by cases z⟩
  | str x => exact ⟨false, (show kitB "str" "tuple" = some false by decide +kernel), (fun z => by cases z), fun _ _ z => by cases z⟩
  | list xs => exact ⟨false, (show kitB "list" "tuple" = some false by decide +kernel), (fun z => by cases z), fun _ _ z => by cases z⟩
  | tuple xs => exact ⟨true, (show kitB "tuple" "tuple" = some true by decide +kernel), (fun _ => ⟨xs, rfl⟩), fun z => by cases z⟩
  | dict kvs =>
    cases kvs with
    | nil => exact ⟨false, (show kitB "dict" "tuple" = some false by decide +kernel), (fun z => by cases z), fun _ _ z => by cases z⟩
    | cons q r => exact ⟨false, (show kitB "list" "tuple" = some false by decide +kernel), (fun z => by cases z), fun _ _ z => by cases z⟩
theorem kit_str (d : PyData) (h : NoScr d) : ∃ b, kitB (tyD d) "str" = some b ∧ (b = true → ∃ xs, d = .str xs) ∧ (b = false → ∀ xs, d ≠ .str xs) := by
  cases d with
  | none => exact ⟨false, (show kitB "NoneType" "str" = some false by decide +kernel), (fun z => by cases z), fun _ _ z => by cases z⟩
  | bool b => exact ⟨false, (show kitB "bool" "str" = some false by decide +kernel), (fun z => by cases z), fun _ _ z => by cases z⟩
  | int i => exact ⟨false, (show kitB "int" "str" = some false by decide +kernel), (fun z => by cases z), fun _ _ z => by cases z⟩
  | str x => exact ⟨true, (show kitB "str" "str" = some true by decide +kernel), (fun _ => ⟨x, rfl⟩), fun z => by cases z⟩
  | list xs => exact ⟨false, (show kitB "list" "str" = some false by decide +kernel), (fun z => by cases z), fun _ _ z => by cases z⟩
  | tuple xs => exact ⟨false, (show kitB "tuple" "str" = some false by decide +kernel), (fun z => by cases z), fun _ _ z => by cases z⟩
  | dict kvs =>
    cases kvs with
    | nil => exact ⟨false, (show kitB "dict" "str" = some false by decide +kernel), (fun z => by cases z), fun _ _ z => by cases z⟩
    | cons q r => exact ⟨false, (show kitB "list" "str" = some false by decide +kernel), (fun z => by cases z), fun _ _ z => by cases z⟩
theorem kit_lst (d : PyData) (h : cln d = true) : ∃ b, kitB (tyD d) "list" = some b ∧ (b = true → ∃ xs, d = .list xs) ∧ (b = false → ∀ xs, d ≠ .list xs) := by
  cases d with
  | none => exact ⟨false, (show kitB "NoneType" "list" = some false by decide +kernel), (fun z => by cases z), fun _ _ z => by cases z⟩
  | bool b => exact ⟨false, (show kitB "bool" "list" = some false by decide +kernel), (fun z => by cases z), fun _ _ z => by cases z⟩
  | int i => exact ⟨false, (show kitB "int" "list" = some false by decide +kernel), (fun z => by cases z), fun _ _ z => by cases z⟩
  | str x => exact ⟨false, (show kitB "str" "list" = some false by decide +kernel), (fun z => by cases z), fun _ _ z => by cases z⟩
  | list xs => exact ⟨true, (show kitB "list" "list" = some true by decide +kernel), (fun _ => ⟨xs, rfl⟩), fun z => by cases z⟩
  | tuple xs => exact ⟨false, (show kitB "tuple" "list" = some false by decide +kernel), (fun z => by cases z), fun _ _ z => by cases z⟩
  | dict kvs =>
    cases kvs with
    | nil => exact ⟨false, (show kitB "dict" "list" = some false by decide +kernel), (fun z => by cases z), fun _ _ z => by cases z⟩
    | cons q r => cases h
theorem shaped_int (i : Int) : SeqAt.shaped (.int i) = true := rfl
/-- an item that is there -/
theorem item_eq {xs : List PyData} {i : Nat} {d : PyData} (h : xs[i]? = some d) : xs.getD i .none = d := by
  rw [List.getD_eq_getElem?_getD, h]
  rfl
theorem any_not {n : Nat} {p : Nat → Bool} : ((List.range n).any fun i => !p i) = !(List.range n).all p := by
  rw [List.all_eq_not_any_not, Bool.not_not]
theorem map_getD {r : List Int} {n : Nat} (h : r.length = n) : (List.range n).map (fun k => r.getD k 0) = r := by
  subst h
  apply List.ext_getElem?
  intro k
  rw [List.getElem?_map]
  by_cases hk : k < r.length
  · rw [List.getElem?_range hk, List.getElem?_eq_getElem hk, Option.map_some, List.getD_eq_getElem?_getD, List.getElem?_eq_getElem hk]
    rfl
  · rw [List.getElem?_eq_none_iff.mpr (by rw [List.length_range]; omega), List.getElem?_eq_none_iff.mpr (by omega)]
    rfl
theorem eqv_nat (i j : Nat) : PyData.eqv (.int i) (.int j) = decide (i = j) := by
  rw [eqv_int]
  exact decide_eq_decide.mpr Int.ofNat_inj
section
variable {K : PySem.W.Frag} {E : XK} {δ δ1 : List Sl} {t u : TS} {P : Out → Prop}
/-- t leads to these slots, whichever way -/
theorem as_to (h : As K E t δ (fun o => o = .nx δ1)) (h2 : As K E u δ1 P) : As K E (tSeq t u) δ P := as_seq (h.mono fun o e => by
  subst e
  exact h2)
theorem as_toQ {Q : List Sl → Prop} (h : As K E t δ (fun o => ∃ δ1, Q δ1 ∧ o = .nx δ1)) (h2 : ∀ δ1, Q δ1 → As K E u δ1 P) : As K E (tSeq t u) δ P := as_seq (h.mono fun o e => by
  obtain ⟨δ1, q, rfl⟩ := e
  exact h2 δ1 q)
end
theorem ix_of {n : Nat} {i : Int} (h0 : 0 ≤ i) (h1 : i < n) : ixN n i = some i.toNat := by
  unfold ixN
  rw [if_pos h0, if_pos h1]
theorem tab_len (ns : List Int) (even : Bool) : (tabF ns even).length = 5 := by
  unfold tabF
  split <;> rfl
theorem tab_all (ns : List Int) (even : Bool) : ∀ x ∈ tabF ns even, 0 ≤ x ∧ x ≤ 9 := by
  unfold tabF
  split <;> decide
theorem map_range {α β : Type} (l : List α) (d : α) (f : α → β) : (List.range l.length).map (fun i => f (l.getD i d)) = l.map f := by
  apply List.ext_getElem?
  intro k
  rw [List.getElem?_map, List.getElem?_map]
  by_cases hk : k < l.length
  · rw [List.getElem?_range hk, List.getElem?_eq_getElem hk, Option.map_some, Option.map_some, List.getD_eq_getElem?_getD, List.getElem?_eq_getElem hk]
    rfl
  · rw [List.getElem?_eq_none_iff.mpr (by rw [List.length_range]; omega), List.getElem?_eq_none_iff.mpr (by omega)]
    rfl
theorem map_set_int (l : List Int) (i : Nat) (x : Int) : (l.map PyData.int).set i (.int x) = (l.set i x).map .int := by
  rw [List.map_set]
theorem lay_moves : ∀ ms : List (List Int × List Int), PyData.canLayAll0 (ms.map moveD) = true
  | [] => rfl
  | m :: ms => by
    show ((PyData.canLayAll0 (m.1.map .int) && (PyData.canLayAll0 (m.2.map .int) && true)) && PyData.canLayAll0 (ms.map moveD)) = true
    rw [lay_ints, lay_ints, lay_moves ms]
    rfl
theorem depth_moves : ∀ ms : List (List Int × List Int), PyData.depthAll (ms.map moveD) ≤ 2
  | [] => by decide
  | m :: ms => by
    have h := depth_moves ms
    have h1 := depth_ints m.1
    have h2 := depth_ints m.2
    show max (max (PyData.depthAll (m.1.map .int) + 1) (max (PyData.depthAll (m.2.map .int) + 1) 0) + 1) (PyData.depthAll (ms.map moveD)) ≤ 2
    omega
theorem shaped_of {d : PyData} (h1 : d.canLay0 = true) (h2 : d.depth ≤ 64) : SeqAt.shaped d = true := by
  show (d.canLay0 && decide (d.depth ≤ 64)) = true
  rw [h1, decide_eq_true h2]
  rfl
theorem shaped_moves (ms : List (List Int × List Int)) : SeqAt.shaped (.tuple (ms.map moveD)) = true :=
  shaped_of (lay_moves ms) (by have := depth_moves ms; show PyData.depthAll _ + 1 ≤ 64; omega)
theorem shaped_row (r : List Int) : SeqAt.shaped (rowD r) = true :=
  shaped_of (lay_ints r) (by have := depth_ints r; show PyData.depthAll _ + 1 ≤ 64; omega)
theorem shaped_intsL (r : List Int) : SeqAt.shaped (.list (r.map .int)) = true :=
  shaped_of (lay_ints r) (by have := depth_ints r; show PyData.depthAll _ + 1 ≤ 64; omega)
theorem shaped_net (n : Nat) (ms : List (List Int × List Int)) : SeqAt.shaped (netD n ms) = true :=
  shaped_of (by show (true && (PyData.canLayAll0 (ms.map moveD) && true)) = true; rw [lay_moves]; rfl) (by have := depth_moves ms; show max 0 (max (PyData.depthAll (ms.map moveD) + 1) 0) + 1 ≤ 64; omega)
theorem eqv_moves (ms : List (List Int × List Int)) : PyData.eqv (.tuple (ms.map moveD)) (.tuple []) = decide (ms = []) := by
  cases ms with
  | nil => rfl
  | cons m r => rfl
theorem cut_take {xs : List PyData} {k : Nat} : cutD xs none (some (k : Int)) = xs.take k := by
  unfold cutD
  rw [HT.sIx_none, HT.sIx_nat, List.drop_zero, Nat.sub_zero]
  by_cases h : k ≤ xs.length
  · rw [Nat.min_eq_left h]
  · rw [Nat.min_eq_right (by omega), List.take_length, List.take_of_length_le (by omega)]
theorem cut_drop {xs : List PyData} {k : Nat} : cutD xs (some (k : Int)) none = xs.drop k := by
  unfold cutD
  rw [HT.sIx_none, HT.sIx_nat]
  by_cases h : k ≤ xs.length
  · rw [Nat.min_eq_left h]
    exact List.take_of_length_le (by rw [List.length_drop]; exact Nat.le_refl _)
  · rw [Nat.min_eq_right (by omega), Nat.sub_self, List.take_zero, List.drop_of_length_le (by omega)]
def overB (one other : List Int) : Bool := (List.range other.length).all fun k => decide (other.getD k 0 ≤ one.getD k 0)
theorem lt_not_le (a b : Int) : decide (a < b) = !decide (b ≤ a) := by
  by_cases h : a < b
  · rw [decide_eq_true h, decide_eq_false (by omega)]; rfl
  · rw [decide_eq_false h, decide_eq_true (by omega)]; rfl
theorem search_all {n : Nat} {p : Nat → Bool} : (if ((List.range n).any fun i => !p i) then PyData.bool false else PyData.bool true) = .bool ((List.range n).all p) := by
  rw [any_not]
  cases (List.range n).all p <;> rfl
def ledR (h takes gives : List Int) : List Int := (List.range h.length).map fun k => h.getD k 0 - takes.getD k 0 + gives.getD k 0
theorem overB_iff {a b : List Int} : overB a b = true ↔ ∀ k, k < b.length → b.getD k 0 ≤ a.getD k 0 := by
  unfold overB
  rw [List.all_eq_true]
  exact ⟨fun h k hk => of_decide_eq_true (h k (List.mem_range.mpr hk)), fun h k hk => decide_eq_true (h k (List.mem_range.mp hk))⟩
theorem getD_map_range {n k : Nat} {f : Nat → Int} (h : k < n) : ((List.range n).map f).getD k 0 = f k := by
  rw [List.getD_eq_getElem?_getD, List.getElem?_map, List.getElem?_range h]
  rfl
theorem led_get {h a b : List Int} {k : Nat} (hk : k < h.length) : (ledR h a b).getD k 0 = h.getD k 0 - a.getD k 0 + b.getD k 0 := getD_map_range hk
theorem led_len {h a b : List Int} : (ledR h a b).length = h.length := by unfold ledR; rw [List.length_map, List.length_range]
def natB : PyData → Bool
  | .int i => decide (0 ≤ i)
  | _ => false
def hoardB (n : Nat) : PyData → Bool
  | .tuple ds => decide (ds.length = n) && (List.range ds.length).all fun i => natB (ds.getD i .none)
  | _ => false
theorem hoardB_no {n : Nat} {d : PyData} (h : ∀ xs, d ≠ .tuple xs) : hoardB n d = false := by
  cases d <;> first | rfl | exact absurd rfl (h _)


theorem hoardB_row {n : Nat} {r : List Int} (h : r.length = n) (h0 : ∀ x ∈ r, 0 ≤ x) : hoardB n (rowD r) = true := by
  show (decide ((r.map PyData.int).length = n) && (List.range (r.map PyData.int).length).all fun i => natB ((r.map PyData.int).getD i .none)) = true
  rw [List.length_map, decide_eq_true h, Bool.true_and, List.all_eq_true]
  intro i hi
  have hi' := List.mem_range.mp hi
  rw [item_eq (row_get (List.getElem?_eq_getElem hi'))]
  exact decide_eq_true (h0 _ (List.getElem_mem _))
def inB (d : PyData) (l m : Int) : Bool := match d with
  | .int i => decide (l ≤ i) && decide (i ≤ m)
  | _ => false
theorem inB_nat {ms : List (List Int × List Int)} {k : Nat} {m : List Int × List Int} (h : ms[k]? = some m) : inB (.int (k : Nat)) 0 (ms.length - 1) = true := by
  have := (List.getElem?_eq_some_iff.mp h).1
  show (decide ((0 : Int) ≤ (k : Int)) && decide ((k : Int) ≤ (ms.length : Int) - 1)) = true
  rw [decide_eq_true (by omega), decide_eq_true (by omega)]
  rfl
theorem range_all {f : PyData → Bool} (xs : List PyData) : ((List.range xs.length).all fun i => f (xs.getD i .none)) = xs.all f := by
  cases h : xs.all f with
  | true =>
    rw [List.all_eq_true] at h ⊢
    intro i hi
    have hi' := List.mem_range.mp hi
    rw [item_eq (List.getElem?_eq_getElem hi')]
    exact h _ (List.getElem_mem _)
  | false =>
    rw [List.all_eq_false] at h ⊢
    obtain ⟨x, hx, hf⟩ := h
    obtain ⟨i, hi, e⟩ := List.getElem_of_mem hx
    refine ⟨i, List.mem_range.mpr hi, ?_⟩
    rw [item_eq (List.getElem?_eq_getElem hi), e]
    exact hf
/-- a move made; a run made -/
def stepR (ms : List (List Int × List Int)) (h : List Int) (k : Nat) : Option (List Int) := match ms[k]? with
  | some m => if overB h m.1 then some (ledR h m.1 m.2) else none
  | none => none
def walkR (ms : List (List Int × List Int)) (h : List Int) (run : List Nat) : Option (List Int) := run.foldlM (stepR ms) h
theorem walkR_nil {ms : List (List Int × List Int)} {h : List Int} : walkR ms h [] = some h := rfl
theorem walkR_app {ms : List (List Int × List Int)} {h : List Int} (a b : List Nat) : walkR ms h (a ++ b) = (walkR ms h a).bind fun h' => walkR ms h' b := by
  unfold walkR
  rw [List.foldlM_append]
  rfl
theorem walkR_one {ms : List (List Int × List Int)} {h : List Int} {k : Nat} : walkR ms h [k] = stepR ms h k := by
  unfold walkR
  rw [List.foldlM_cons]
  cases stepR ms h k <;> rfl
theorem take_more {α : Type} {l : List α} {i : Nat} {x : α} (h : l[i]? = some x) : l.take (i + 1) = l.take i ++ [x] := by
  rw [List.take_add_one, h]
  rfl
/-- the law's start: the script stands there -/
theorem law_start {K : PySem.W.Frag} {F : List PyData → Out → Prop} {H : Hp} {a : Addr} {ns : List Int} (h : F [scrD ns] (.rt (.bool true))) (hS : SqL K H a (ns.map V.int)) : SpD K F [.ref a] H (fun v _ => v = .bl true) fun _ _ _ => False :=
  ⟨H, [scrD ns], .rt (.bool true), Same.refl _, .cons (.scr hS) .nil, h, fun v H' I' n r => by cases r; rfl⟩
end Tw

/-! Tw6: xs[::-1] of a list or a tuple; tuples times 0 and 1; is of bools. -/
namespace Tw
open PySem PySem.Spec PyProof.Rows L2 PyProof
section
variable {prog : Program} {w : World} {A : Around} {E : Value → Shared → Prop} {s : Shared}
theorem fm_some {α β : Type} {f : α → Option β} {g : α → β} : ∀ {l : List α}, (∀ x ∈ l, f x = some (g x)) → l.filterMap f = l.map g
  | [], _ => rfl
  | a :: l, h => by
    rw [List.filterMap_cons, h a List.mem_cons_self, List.map_cons, fm_some fun x hx => h x (List.mem_cons_of_mem _ hx)]
theorem rev_range (n : Nat) (xs : Array Value) (hn : xs.size = n) : ((List.range n).filterMap fun (m : Nat) => xs[(((n : Int) - 1) + (m : Int) * -1).toNat]?).toArray = xs.toList.reverse.toArray := by
  subst hn
  congr 1
  have e : ((List.range xs.size).filterMap fun (m : Nat) => xs[(((xs.size : Int) - 1) + (m : Int) * -1).toNat]?) = (List.range xs.size).map fun m => xs.toList.getD (xs.size - 1 - m) default := by
    refine fm_some fun m hm => ?_
    have hm' := List.mem_range.mp hm
    have e1 : (((xs.size : Int) - 1) + (m : Int) * -1).toNat = xs.size - 1 - m := by omega
    have hlt : xs.size - 1 - m < xs.size := by omega
    show xs[(((xs.size : Int) - 1) + (m : Int) * -1).toNat]? = _
    rw [e1, Array.getElem?_eq_getElem hlt, List.getD_eq_getElem?_getD, List.getElem?_eq_getElem (by simpa using hlt)]
    simp
  rw [e]
  apply List.ext_getElem?
  intro k
  by_cases hk : k < xs.size
  · rw [List.getElem?_map, List.getElem?_range hk, List.getElem?_reverse (by simpa using hk)]
    show some (xs.toList.getD (xs.size - 1 - k) default) = _
    have hlt : xs.size - 1 - k < xs.toList.length := by rw [Array.length_toList]; omega
    rw [List.getD_eq_getElem?_getD, Array.length_toList, List.getElem?_eq_getElem hlt]
    rfl
  · rw [List.getElem?_eq_none_iff.mpr (by rw [List.length_map, List.length_range]; omega), List.getElem?_eq_none_iff.mpr (by rw [List.length_reverse, Array.length_toList]; omega)]
theorem getItem_tuple_rev {t sl : Addr} {items : Array Value} {vl vu vs : Value} {Q : Value → Shared → Prop} (ht : IsTup s.heap t items) (hs : s.heap.IsSliceOf sl vl vu vs) (pl : IsPart vl none) (pu : IsPart vu none) (ps : IsPart vs (some (-1)))
    (h : Q (.ref s.heap.objs.size) { s with heap := s.heap.push { cls := .type "tuple", data := .seq items.toList.reverse.toArray } }) (hsz : items.size ≤ sizeLine) : wpAny (model prog w) A (getItem (.ref t) (.ref sl)) Q E s := by
  have htake : sizeOk (.seq items.toList.reverse.toArray) := by
    show items.toList.reverse.toArray.size ≤ sizeLine
    rw [List.size_toArray, List.length_reverse, Array.length_toList]
    exact hsz
  obtain ⟨os, hos, hcs, hds⟩ := id hs
  have hTs : s.TypeIs (.ref sl) "slice" := ⟨os, hos, hcs⟩
  unfold getItem
  try with_reducible refine wpAny_holding ?_
  first | refine wpAny_bind (wpAny_pure ?_) | skip
  refine wpAny_bind (wpAny_sequenceKey ht.typeIs (by decide) ?_)
  refine wpAny_bind (wpAny_callSpecial?_slot (name := Str.ofString "__getitem__") ht.typeIs PyProof.Rows.slot_tuple_getitem
    (wpAny_call_entry PyProof.Rows.slot_tuple_getitem ht.typeIs PyProof.Rows.entry_tuple_getitem ?_ (PyProof.Rows.args_tuple_getitem _ _)))
  show wpAny _ _ (Builtin.Tuple.tupleItemsOf (.ref t) >>= _) _ _ s
  refine wpAny_bind (PyProof.Rows.tupleItemsOf_ ht ?_)
  refine wpAny_bind (wpAny_typeOf hTs ?_)
  rw [if_pos (by decide)]
  refine wpAny_bind ?_
  · unfold Builtin.Slice.sliceApplied Builtin.Slice.sliceFields
    refine wpAny_bind (wpAny_bind (wpAny_field hos hds (x := vl) rfl (wpAny_bind (wpAny_field hos hds (x := vu) rfl (wpAny_bind (wpAny_field hos hds (x := vs) rfl (wpAny_pure ?_)))))))
    refine wpAny_bind (HT.slicePart_ ps ?_)
    show wpAny _ _ (if ((-1 : Int) == 0) = true then _ else _) _ _ s
    rw [if_neg (by decide)]
    refine wpAny_bind (HT.slicePart_ pl (wpAny_bind (HT.slicePart_ pu (wpAny_bind (wpAny_pure ?_)))))
    show wpAny _ _ (pure (((items.size : Int) - 1), (-1 : Int), Builtin.Slice.slicePlaces ((items.size : Int) - 1) (-1) (-1))) _ _ s
    have hp : Builtin.Slice.slicePlaces ((items.size : Int) - 1) (-1) (-1) = items.size := by
      unfold Builtin.Slice.slicePlaces
      have h1 : ¬ (-1 : Int) > 0 := by decide
      have h2 : (-(-1) : Int) = 1 := by decide
      simp only [h1, if_false, h2, Int.ediv_one]
      split <;> omega
    rw [hp]
    refine wpAny_pure ?_
    have hno : ¬ ((((items.size : Int) - 1) == 0 && (-1 : Int) == 1 && items.size == items.size) = true) := by
      intro q
      rw [Bool.and_eq_true, Bool.and_eq_true] at q
      exact absurd q.1.2 (by decide)
    show wpAny _ _ (if (((items.size : Int) - 1) == 0 && (-1 : Int) == 1 && items.size == items.size) = true then _ else _) _ _ s
    rw [if_neg hno, rev_range items.size items rfl]
    first
      | exact wpAny_bind (m := Builtin.Tuple.tupleExact _) (wpAny_newObj_type (wpAny_pure ⟨_, rfl, wpAny_pure h⟩) htake)
      | exact wpAny_bind (m := Builtin.Tuple.tupleExact _) (wpAny_newObj_type (wpAny_bind (wpAny_pure (wpAny_pure ⟨_, rfl, wpAny_pure h⟩))) htake)
      | exact wpAny_bind (wpAny_bind (m := Builtin.Tuple.tupleExact _) (wpAny_newObj_type (wpAny_pure (wpAny_pure ⟨_, rfl, wpAny_pure h⟩)) htake))
      | exact wpAny_bind (wpAny_bind (m := Builtin.Tuple.tupleExact _) (wpAny_newObj_type (wpAny_pure ⟨_, rfl, wpAny_pure h⟩) htake))
end
/-- a[::-1], a list or a tuple -/
def tRevA (K : PySem.W.Frag) (te : TE) : TE := fun σ H Q => te σ H fun x H1 => ∃ a xs, x = .ref a ∧
  ((SqL K H1 a xs ∧ ∀ p, H1 p = none → Q (.ref p) (upd H1 p (.lst xs.reverse))) ∨ (SqT K H1 a xs ∧ ∀ p, H1 p = none → Q (.ref p) (upd H1 p (.tup xs.reverse))))
theorem pe_revA {X : Cx} {e : Expr} {te : TE} {k : Nat} {p1 p2 p3 pos : Pos} (he : PE X e te) : PE X (.Subscript e (.Slice none none (some (.UnaryOp .USub (.Constant (.int 1) k p1) p2)) p3) pos) (tRevA X.K te) := by
  refine ⟨fun pins s σ H Q I h => ?_⟩
  refine Subscript_ (thn (he.run pins s σ H _ I h) fun v s1 ⟨x, H1, I1, r1, q1⟩ => ?_)
  obtain ⟨a, xs, ex, q⟩ := q1
  subst ex
  cases r1
  have hst : PO X (some (.UnaryOp .USub (.Constant (.int 1) k p1) p2)) (tPart (tUn (rU fun i => .int (-i)) (tC (.int 1)))) := po_some (pe_un un_neg pe_int)
  refine wpAny_Slice (thn (po_none.run pins s1 σ H1 (fun o H2 => o = none ∧ H2 = H1) I1 ⟨rfl, rfl⟩) fun vl s2 ⟨l, H2, I2, pl, el, e2⟩ => ?_)
  subst el e2
  refine thn (po_none.run pins s2 σ H2 (fun o H3 => o = none ∧ H3 = H2) I2 ⟨rfl, rfl⟩) fun vu s3 ⟨u, H3, I3, pu, eu, e3⟩ => ?_
  subst eu e3
  refine thn (hst.run pins s3 σ H3 (fun o H4 => o = some (-1) ∧ H4 = H3) I3 ⟨1, rfl, -1, rfl, rfl, rfl⟩) fun vs s4 ⟨o, H4, I4, ps, eo, e4⟩ => ?_
  subst eo e4
  have I5 : Inv X pins σ H4 { s4 with heap := s4.heap.push { cls := .type "slice", data := .fields #[vl, vu, vs] } } := I4.kept (t' := s4.toks) fun b ob q => Heap.get?_push_of_some _ q
  show wpAny (model X.prog X.w) X.A (subscriptTail e (.Slice none none (some (.UnaryOp .USub (.Constant (.int 1) k p1) p2)) p3) (.ref a) (.ref s4.heap.objs.size)) (EP X pins σ Q) X.xe { s4 with heap := s4.heap.push { cls := .type "slice", data := .fields #[vl, vu, vs] } }
  rcases q with ⟨hx, q⟩ | ⟨hx, q⟩
  · obtain ⟨its, r, ht, hz⟩ := I5.list hx
    have hlen := r.length
    refine tail_any (ops := [.ref a, .ref s4.heap.objs.size]) ht.isList.typeIs (PySem.slot_list_getitem.lookup) ?_ (by with_unfolding_all rfl)
    refine wpAny_getItem_list_slice ht.isList (Heap.IsSliceOf.new _ vl vu vs) pl pu ps (by decide) ?_ (by rw [List.size_toArray]; omega)
    rw [PySem.W.krv_pick]
    refine ⟨.ref _, _, I5.laid (t' := s4.toks) (o := .lst xs.reverse) (fun b ob q => Heap.get?_push_of_some _ q) (Nat.le_refl _) ?_, rfl, q _ (I5.hok.fresh (Nat.le_refl _))⟩
    exact ⟨by rw [List.length_reverse]; exact hz, _, 0, r.reverse, Heap.get?_push_size _ rfl⟩
  · obtain ⟨its, r, ht, hz⟩ := I5.tuple hx
    have hlen := r.length
    refine tail_any (ops := [.ref a, .ref s4.heap.objs.size]) ht.typeIs (PyProof.Rows.slot_tuple_getitem.lookup) ?_ (by with_unfolding_all rfl)
    refine getItem_tuple_rev ht (Heap.IsSliceOf.new _ vl vu vs) pl pu ps ?_ (by rw [List.size_toArray]; omega)
    refine ⟨.ref _, _, I5.laid (t' := s4.toks) (o := .tup xs.reverse) (fun b ob q => Heap.get?_push_of_some _ q) (Nat.le_refl _) ?_, rfl, q _ (I5.hok.fresh (Nat.le_refl _))⟩
    exact ⟨by rw [List.length_reverse]; exact hz, _, r.reverse, IsTup.new _ _⟩
section
variable {K : PySem.W.Frag} {δ : List Sl} {te : TE} {xs : List PyData} {x y : PyData} {a b : Bool}
theorem en_rev (h : Ev K te δ (.list xs)) : EvN K (tRevA K te) δ xs.reverse := fun G σ H I s g r Q q =>
  h G σ H I s g r _ fun v H1 I1 n1 rv => by
    cases rv with
    | lst h1 a1 => exact ⟨_, _, rfl, .inl ⟨.of (n1.s _ _ h1), fun p hp => q p H1 I1 _ n1 hp a1.rev⟩⟩
theorem ev_revT (h : Ev K te δ (.tuple xs)) : Ev K (tRevA K te) δ (.tuple xs.reverse) := fun G σ H I s g r Q q =>
  h G σ H I s g r _ fun v H1 I1 n1 rv => by
    cases rv with
    | tup h1 a1 => exact ⟨_, _, rfl, .inr ⟨.of (n1.s _ _ h1), fun p hp => q _ _ _ (n1.trans (Nx.new n1.s hp)) (.tup upd_same (a1.rev.mono (same_new (n1.s.free hp))))⟩⟩
/-! ### is True, is not False .. of bools -/
def rIsB : R2 := fun x y H Q => ∃ a b, x = .bl a ∧ y = .bl b ∧ Q (.bl (decide (a = b))) H
def rNotB : R2 := fun x y H Q => ∃ a b, x = .bl a ∧ y = .bl b ∧ Q (.bl (!decide (a = b))) H
theorem opIsB {X : Cx} : OpR X (compareOp .Is) rIsB := op_is_bl
theorem opNotB {X : Cx} : OpR X (compareOp .IsNot) rNotB := op_isnot_bl
theorem rd_isB : R2D K rIsB (.bool a) (.bool b) (.bool (decide (a = b))) := fun H I v u s r1 r2 Q q => by
  cases r1; cases r2
  exact ⟨a, b, rfl, rfl, q _ H I (Nx.refl s) (.bl _)⟩
theorem rd_notB : R2D K rNotB (.bool a) (.bool b) (.bool (!decide (a = b))) := fun H I v u s r1 r2 Q q => by
  cases r1; cases r2
  exact ⟨a, b, rfl, rfl, q _ H I (Nx.refl s) (.bl _)⟩
end
end Tw

/-! Tw7: plain laws of runs and of equal data. -/
namespace Tw
open PySem PySem.Spec PyProof.Rows L2 PyProof
theorem eqv_self {d : PyData} (h : SeqAt.shaped d = true) : PyData.eqv d d = true := PySem.SeqAt.eqv_refl d (by
  have h : (d.canLay0 && decide (d.depth ≤ 64)) = true := h
  rw [Bool.and_eq_true] at h
  exact h.1)
theorem step_some {ms : List (List Int × List Int)} {h h' : List Int} {k : Nat} (e : stepR ms h k = some h') : ∃ m, ms[k]? = some m ∧ overB h m.1 = true ∧ h' = ledR h m.1 m.2 := by
  unfold stepR at e
  cases em : ms[k]? with
  | none => rw [em] at e; cases e
  | some m =>
    rw [em] at e
    have e : (if overB h m.1 = true then some (ledR h m.1 m.2) else none) = some h' := e
    by_cases ho : overB h m.1 = true
    · rw [if_pos ho] at e
      exact ⟨m, rfl, ho, (Option.some.inj e).symm⟩
    · rw [if_neg ho] at e
      cases e
theorem walk_pre {ms : List (List Int × List Int)} {h h' : List Int} {run : List Nat} (e : walkR ms h run = some h') (i : Nat) : ∃ hi, walkR ms h (run.take i) = some hi ∧ walkR ms hi (run.drop i) = some h' := by
  rw [← List.take_append_drop i run, walkR_app] at e
  cases e1 : walkR ms h (run.take i) with
  | none => rw [e1] at e; cases e
  | some hi =>
    rw [e1] at e
    exact ⟨hi, rfl, e⟩
theorem walk_len {n : Nat} {ms : List (List Int × List Int)} : ∀ {run : List Nat} {h h' : List Int}, h.length = n → walkR ms h run = some h' → h'.length = n
  | [], h, h', hl, e => by
    cases (show some h = some h' from e)
    exact hl
  | k :: run, h, h', hl, e => by
    unfold walkR at e
    rw [List.foldlM_cons] at e
    cases e1 : stepR ms h k with
    | none => rw [e1] at e; cases e
    | some h1 =>
      rw [e1] at e
      obtain ⟨m, _, _, rfl⟩ := step_some e1
      exact walk_len (run := run) (by rw [led_len]; exact hl) e
theorem walk_at {ms : List (List Int × List Int)} {h h' : List Int} {run : List Nat} (e : walkR ms h run = some h') {i k : Nat} (hk : run[i]? = some k) :
    ∃ hi m, walkR ms h (run.take i) = some hi ∧ ms[k]? = some m ∧ overB hi m.1 = true ∧ walkR ms h (run.take (i + 1)) = some (ledR hi m.1 m.2) := by
  obtain ⟨h2, e2, _⟩ := walk_pre e (i + 1)
  rw [take_more hk, walkR_app] at e2
  cases e1 : walkR ms h (run.take i) with
  | none => rw [e1] at e2; cases e2
  | some hi =>
    rw [e1] at e2
    have e3 : stepR ms hi k = some h2 := by
      rw [← walkR_one]
      exact e2
    obtain ⟨m, hm, ho, rfl⟩ := step_some e3
    refine ⟨hi, m, rfl, hm, ho, ?_⟩
    rw [take_more hk, walkR_app, e1]
    exact e2
theorem walk_moves {ms : List (List Int × List Int)} {h h' : List Int} {run : List Nat} (e : walkR ms h run = some h') {i k : Nat} (hk : run[i]? = some k) : k < ms.length := by
  obtain ⟨hi, m, _, hm, _⟩ := walk_at e hk
  exact (List.getElem?_eq_some_iff.mp hm).1
theorem nats_get {run : List Nat} {i : Nat} {d : PyData} (h : (run.map fun (k : Nat) => PyData.int k)[i]? = some d) : ∃ k, run[i]? = some k ∧ d = .int (k : Nat) := by
  rw [List.getElem?_map] at h
  cases e : run[i]? with
  | none => rw [e] at h; cases h
  | some k =>
    rw [e] at h
    exact ⟨k, rfl, (Option.some.inj h).symm⟩
theorem moves_get {ms : List (List Int × List Int)} {i : Nat} {d : PyData} (h : (ms.map moveD)[i]? = some d) : ∃ m, ms[i]? = some m ∧ d = moveD m := by
  rw [List.getElem?_map] at h
  cases e : ms[i]? with
  | none => rw [e] at h; cases h
  | some k =>
    rw [e] at h
    exact ⟨k, rfl, (Option.some.inj h).symm⟩
theorem step_len {ms : List (List Int × List Int)} {h h' : List Int} {k : Nat} (e : stepR ms h k = some h') : h'.length = h.length := by
  obtain ⟨m, hm, ho, rfl⟩ := step_some e
  exact led_len
theorem walk_cons {ms : List (List Int × List Int)} {h h' : List Int} {k : Nat} {run : List Nat} (e : walkR ms h (k :: run) = some h') : ∃ h1, stepR ms h k = some h1 ∧ walkR ms h1 run = some h' := by
  unfold walkR at e
  rw [List.foldlM_cons] at e
  cases e1 : stepR ms h k with
  | none => rw [e1] at e; cases e
  | some h1 =>
    rw [e1] at e
    exact ⟨h1, rfl, e⟩
theorem step_nn {n : Nat} {w : Int} {ms : List (List Int × List Int)} {h h' : List Int} {k : Nat} (hN : NetOk n w ms) (hl : h.length = n) (h0 : ∀ x ∈ h, 0 ≤ x) (e : stepR ms h k = some h') : ∀ x ∈ h', 0 ≤ x := by
  obtain ⟨m, hm, ho, rfl⟩ := step_some e
  obtain ⟨r1, r2⟩ := hN.rows m (List.mem_of_getElem? hm)
  intro x hx
  unfold ledR at hx
  obtain ⟨j, hj, rfl⟩ := List.mem_map.mp hx
  have hj' := List.mem_range.mp hj
  have h1 := overB_iff.mp ho j (by rw [r1.1, ← hl]; exact hj')
  have h2 := (r2.2 (m.2.getD j 0) (by rw [List.getD_eq_getElem?_getD, List.getElem?_eq_getElem (by rw [r2.1, ← hl]; exact hj')]; exact List.getElem_mem _)).1
  omega
theorem cln_nats : ∀ r : List Nat, clnAll (r.map fun (k : Nat) => PyData.int k) = true
  | [] => rfl
  | _ :: r => by
    show (true && clnAll (r.map fun (k : Nat) => PyData.int k)) = true
    rw [cln_nats r]
    rfl
theorem eqv_ints : ∀ a b : List Int, PyData.eqvAll (a.map .int) (b.map .int) = decide (a = b)
  | [], [] => rfl
  | [], _ :: _ => rfl
  | _ :: _, [] => rfl
  | x :: a, y :: b => by
    show (PyData.eqv (.int x) (.int y) && PyData.eqvAll (a.map .int) (b.map .int)) = _
    rw [eqv_int, eqv_ints a b]
    by_cases h : x = y <;> by_cases h2 : a = b <;> simp [h, h2]
theorem eqv_row (a b : List Int) : PyData.eqv (rowD a) (rowD b) = decide (a = b) := eqv_ints a b
end Tw

/-! Tw8: try: f(..) except X: ..; except X as e: r = r + int(isinstance(e, ValueError)). -/
namespace Tw
open PySem PySem.Spec PyProof.Rows L2 PyProof
/-- isinstance of the error that the suite holds at a -/
def rIsX (K : PySem.W.Frag) (a : Addr) (cls : Value) (d : Option Addr) : List V → Hp → VK → Prop := fun xs H Q => ∃ D, cls = .ref D ∧ d = none ∧ ExcC K D ∧ rIsE K D a xs H Q
theorem call_isX {X : Cx} {a : Addr} {cls : Value} {d : Option Addr} {oe : Obj} {pn : List (Addr × Obj)} (hz : Zc cls d oe) (hf : ∃ vs, oe.data = .fields vs) : CallR (X.suite a ((a, oe) :: pn)) (.builtin "isinstance") (rIsX X.K a cls d) := by
  intro pins s σ H xs us Q I r h
  obtain ⟨D, rfl, rfl, C, q⟩ := h
  exact call_isE C hz hf pins s σ H xs us Q I r q
def tTryA (K : PySem.W.Frag) (c : Value) (body : WX → TS) (suite : TS) : TS := fun D σ H => body (wOnly K c (fun _ _ _ => suite) (fun _ _ _ _ => False) D) D σ H
def tTryB (K : PySem.W.Frag) (c : Value) (i : Nat) (body : WX → TS) (suite : Addr → Value → Option Addr → TS) : TS := fun D σ H => body (wAs K c i suite (fun _ _ _ _ => False) D) D σ H
section
variable {X : Cx} {x : Str} {c : Value} {body suite : List Stmt} {b₀ : Stmt} {np pos pos' : Pos} {tb : WX → TS} {su : TS} {ts : Addr → Value → Option Addr → TS} {i : Nat} {n : Str}
theorem ps_tryA (hs : X.stack = X.env :: X.outer) (hf : X.env.frame = some X.env.locals) (hc : Names X x c)
    (hb : ∀ (W : WX) (pn : List (Addr × Obj)) (xe : Value → Shared → Prop), Takes (X.tr pn xe) W → PassesOwn (model X.prog X.w) X.A X.env xe → PSs (X.tr pn xe) body (tb W))
    (hsu : ∀ (a : Addr) (oe : Obj) (cls : Value) (d : Option Addr) (pn : List (Addr × Obj)), Zc cls d oe → (∃ vs, oe.data = .fields vs) → PSs (X.suite a ((a, oe) :: pn)) (b₀ :: suite) su) :
    PS X (.Try body [.ExceptHandler (some (.Name x np)) none (b₀ :: suite) pos'] [] [] pos) (tTryA X.K c tb su) := ps_try_only (ts := fun _ _ _ => su) hs hf hc takes0 hb hsu
theorem ps_tryB (hs : X.stack = X.env :: X.outer) (hf : X.env.frame = some X.env.locals) (hN : X.N.Nodup) (hi : X.N[i]? = some n) (hln : X.env.kindOf n = some .local) (hc : Names X x c)
    (hb : ∀ (W : WX) (pn : List (Addr × Obj)) (xe : Value → Shared → Prop), Takes (X.tr pn xe) W → PassesOwn (model X.prog X.w) X.A X.env xe → PSs (X.tr pn xe) body (tb W))
    (hsu : ∀ (a : Addr) (oe : Obj) (cls : Value) (d : Option Addr) (pn : List (Addr × Obj)), Zc cls d oe → (∃ vs, oe.data = .fields vs) → PSs (X.suite a ((a, oe) :: pn)) (b₀ :: suite) (ts a cls d)) :
    PS X (.Try body [.ExceptHandler (some (.Name x np)) (some n) (b₀ :: suite) pos'] [] [] pos) (tTryB X.K c i tb ts) := ps_try_as hs hf hN hi hln hc takes0 hb hsu
end
/-- what the kit must say of the error class D, of ValueError and of the class T over it -/
structure ErrF (K : PySem.W.Frag) (D T : Addr) : Prop where
  C : ExcC K D
  ve : PySem.W.kitOne K (.ref D) (.type "ValueError") = some true
  own : PySem.W.exmOne K (.ref D) (.ref D) = some true
  top : PySem.W.exmOne K (.ref D) (.ref T) = some true
theorem errF_of {K : PySem.W.Frag} {D T : Addr} (C : ExcC K D) (tD : PySem.W.typeIn K (.ref D) = some (.type "type")) (sv : PySem.W.subIn K (.ref D) (.type "ValueError") = some true) (sD : PySem.W.subIn K (.ref D) (.ref D) = some true)
    (bT : PySem.W.subIn K (.ref T) (.type "BaseException") = some true) (dT : PySem.W.hasDictIn K T = true) (tT : PySem.W.typeIn K (.ref T) = some (.type "type")) (sT : PySem.W.subIn K (.ref D) (.ref T) = some true) : ErrF K D T where
  C := C
  ve := by
    show (if ((Value.ref D == Value.type "ValueError") = true) then some true else if PySem.W.kitMeta "ValueError" = true then PySem.W.subIn K (.ref D) (.type "ValueError") else none) = some true
    rw [if_neg (by intro h; cases (beq_iff_eq.mp h)), if_pos (by decide +kernel)]
    exact sv
  own := PySem.W.exm_ref C.hs C.hd tD sD
  top := PySem.W.exm_ref bT dT tT sT
section
variable {K : PySem.W.Frag} {E : XK} {δ : List Sl} {xs : List PyData} {x : PyData} {ta : TA} {F : List PyData → Out → Prop} {cl c : Value} {su : TS} {P : Out → Prop} {D T : Addr}
theorem as_tryA_ok (ha : EvA K ta δ xs) (hF : F xs (.rt x)) (k : P (.nx δ)) : As K E (tTryA K c (fun W => tDrop (tCallS (SpD K F) (WE W) ta)) su) δ P := fun G I0 σ H I D n r cv =>
  as_drop (ev_call (W := wOnly K c (fun _ _ _ => su) (fun _ _ _ _ => False) D) ha hF) k G I0 σ H I D n r cv
theorem as_tryB_ok {i : Nat} {sb : Addr → Value → Option Addr → TS} (ha : EvA K ta δ xs) (hF : F xs (.rt x)) (k : P (.nx δ)) : As K E (tTryB K c i (fun W => tDrop (tCallS (SpD K F) (WE W) ta)) sb) δ P := fun G I0 σ H I D n r cv =>
  as_drop (ev_call (W := wAs K c i sb (fun _ _ _ _ => False) D) ha hF) k G I0 σ H I D n r cv
theorem nx_same {H I H' : Hp} (s : Same I H) (e : Same H H') : Nx H I H' I := ⟨e, Same.refl _, s.trans e, fun _ _ _ z => z⟩
theorem as_tryA_ex (ha : EvA K ta δ xs) (hF : F xs (.ex cl)) (he : PySem.W.exmOne K cl c = some true) (hs : As K E su δ P) : As K E (tTryA K c (fun W => tDrop (tCallS (SpD K F) (WE W) ta)) su) δ P := fun G I0 σ H I D n r cv =>
  ha G σ H I n.s n.h r _ fun vs H1 I1 n1 r1 => ⟨I1, xs, .ex cl, n1.s, r1, hF, fun H2 e => ⟨true, he, fun _ a _ => hs G I0 σ H2 I1 D ((n.trans n1).trans (nx_same n1.s e)) (r.next (n1.trans (nx_same n1.s e))) cv, fun z => nomatch z⟩⟩
theorem as_tryB_ex {i q : Nat} {m : Int} (ha : EvA K ta δ xs) (hF : F xs (.ex (.ref D))) (hE : ErrF K D T) (hq : δ[q]? = some (.d (.int m))) (hi : i < δ.length) (hiq : i ≠ q) (k : P (.nx ((δ.set q (.d (.int (m + 1)))).set i .no))) :
    As K E (tTryB K (.ref T) i (fun W => tDrop (tCallS (SpD K F) (WE W) ta)) (fun a cls d => tAsg (tOp (rAddA K) (tVar q) (tCB rIntA (tCons (tCB (rIsX K a cls d) (tCons (tVar i) (tCons (tC (.ty "ValueError")) tNil))) tNil))) (gName q))) δ P := fun G I0 σ H I D' n r cv =>
  ha G σ H I n.s n.h r _ fun vs H1 I1 n1 r1 => ⟨I1, xs, .ex (.ref D), n1.s, r1, hF, fun H2 e => ⟨true, hE.top, fun _ a _ => by
    have r2 := r.next (n1.trans (nx_same n1.s e))
    have n2 := (n.trans n1).trans (nx_same n1.s e)
    obtain ⟨v, e1, rv⟩ := r2.d q _ hq
    cases rv
    have hl := r2.len
    have h1 : (σ.set i (some (V.ref a)))[q]? = some (some (.int m)) := by rw [List.getElem?_set_ne hiq]; exact e1
    have h2 : (σ.set i (some (V.ref a)))[i]? = some (some (.ref a)) := List.getElem?_set_self (by omega)
    refine ⟨_, h1, ?_⟩
    refine ⟨_, h2, D, rfl, rfl, hE.C, .ty "ValueError", .type "ValueError", true, rfl, fun u ru => ru, hE.ve, ?_⟩
    refine .inr ⟨true, rfl, ?_⟩
    refine .inl ⟨_, _, rfl, rfl, ?_⟩
    refine cv.nx _ _ _ _ k n2 ?_
    have r3 : RelS K G H2 I1 (σ.set q (some (.int (m + 1)))) (δ.set q (.d (.int (m + 1)))) := r2.put (.int _)
    have r4 := r3.none (i := i) (o := none)
    have ec : ((σ.set i (some (V.ref a))).set q (some (.int (m + 1)))).set i none = (σ.set q (some (.int (m + 1)))).set i none := by
      rw [List.set_comm _ _ hiq, List.set_set]
    show RelS K G H2 I1 (((σ.set i (some (V.ref a))).set q (some (.int (m + 1)))).set i none) _
    rw [ec]
    exact r4, fun z => nomatch z⟩⟩
end
end Tw

/-! Tw9: a tuple times 0, times 1. -/
namespace Tw
open PySem PySem.Spec PyProof.Rows L2 PyProof
theorem tuple_mul1 (l : Addr) (items : Array Value) (n : Nat) (dd : Option Addr) (sl : Array (Option Value)) (u : Tok) :
    Meets (Builtin.«tuple.__mul__» ⟨[.ref l, .int 1 u], []⟩) (fun _ R s => s.heap.get? l = some { cls := .type "tuple", dict := dd, data := .seq items n, slots := sl } ∧
      R (.ok (.ret (Value.ref l))) s) :=
  .of_wp fun prog w A R s h => by
    obtain ⟨hp, g, d, tk, os⟩ := s
    obtain ⟨hl, h⟩ := h
    have f1 := AutoSeq1.idx_int
    have c0 : (decide ((1 : Int) < -(2 ^ 63)) || decide ((1 : Int) ≥ 2 ^ 63)) = false := by decide
    have c1 : (items.isEmpty || (1 : Int) == 1) = true := by rw [Bool.or_eq_true]; exact .inr rfl
    wp_walk using wpAny_loadPart' hl
    repeat (first
      | (refine wpAny_ite_false (decide_eq_false (by rw [c0]; exact Bool.false_ne_true)) ?_; wp_walk using wpAny_loadPart' hl)
      | (refine wpAny_ite_true (decide_eq_true c1) ?_; wp_walk using wpAny_loadPart' hl)
      | (refine wpAny_ite_true (decide_eq_true rfl) ?_; wp_walk using wpAny_loadPart' hl))
    exact ⟨_, rfl, h⟩
theorem tuple_mul0 (l : Addr) (items : Array Value) (n : Nat) (dd : Option Addr) (sl : Array (Option Value)) (u : Tok) (c : items.isEmpty = false) :
    Meets (Builtin.«tuple.__mul__» ⟨[.ref l, .int 0 u], []⟩) (fun _ R s => s.heap.get? l = some { cls := .type "tuple", dict := dd, data := .seq items n, slots := sl } ∧
      R (.ok (.ret (Value.ref s.heap.objs.size))) { s with heap := s.heap.push { cls := Value.type "tuple", data := Data.seq #[] }, toks := s.toks }) :=
  .of_wp fun prog w A R s h => by
    obtain ⟨hp, g, d, tk, os⟩ := s
    obtain ⟨hl, h⟩ := h
    have f1 := AutoSeq1.idx_int
    have c0 : (decide ((0 : Int) < -(2 ^ 63)) || decide ((0 : Int) ≥ 2 ^ 63)) = false := by decide
    have c1 : (items.isEmpty || (0 : Int) == 1) = false := by rw [c] <;> rfl
    have c2 : (decide ((0 : Int) ≤ 0) || items.isEmpty) = true := by rw [Bool.or_eq_true]; exact .inl (by decide)
    wp_walk using wpAny_loadPart' hl
    repeat (first
      | (refine wpAny_ite_false (decide_eq_false (by rw [c0]; exact Bool.false_ne_true)) ?_; wp_walk using wpAny_loadPart' hl)
      | (refine wpAny_ite_false (decide_eq_false (by rw [c1]; exact Bool.false_ne_true)) ?_; wp_walk using wpAny_loadPart' hl)
      | (refine wpAny_ite_true (decide_eq_true c2) ?_; wp_walk using wpAny_loadPart' hl)
      | (refine wpAny_ite_false (decide_eq_false (Nat.not_lt.mpr (Nat.zero_le _))) ?_; wp_walk using wpAny_loadPart' hl))
    exact ⟨_, rfl, h⟩
/-- a tuple times 0 (it is not empty) or 1 -/
def rRepS (K : PySem.W.Frag) : R2 := fun x y H Q => ∃ l xs, x = .ref l ∧ SqT K H l xs ∧ ((y = .int 1 ∧ Q (.ref l) H) ∨ (y = .int 0 ∧ xs ≠ [] ∧ ∀ p, H p = none → Q (.ref p) (upd H p (.tup []))))
section
variable {X : Cx}
theorem op_repS : OpR X (binaryOp .Mult) (rRepS X.K) := by
  intro pins s σ H x y v u Q I rx ry h
  obtain ⟨l, xs, rfl, hT, q⟩ := h
  cases rx
  rcases q with ⟨rfl, q⟩ | ⟨rfl, hne, q⟩
  · obtain ⟨t, rfl⟩ := ry
    obtain ⟨its, r, ⟨⟨cls, dd, data, sl⟩, ho, hc, n, hd⟩, hs⟩ := I.tuple hT
    simp only at hc hd
    subst hc hd
    refine wpAny_binaryOp_repeat_ref (T := "tuple") (U := "int") (by decide) ⟨_, ho, rfl⟩ (fun s' => typeIs_int s' 1 t) noFill_tuple_mul F.fills_int_mul F.slot_int_rmul repeat_tuple F.slot_int_index.lookup
      (call_meets F.slot_int_rmul (typeIs_int s 1 t) F.entry_int_rmul (F.args_int_rmul_2 _ _) (int_rmul_tuple 1 t l its.toArray n dd sl)
        ⟨ho, rfl, ⟨_, ho, rfl⟩, call_meets F.slot_tuple_mul ⟨_, ho, rfl⟩ F.entry_tuple_mul (F.args_tuple_mul_2 _ _) (tuple_mul1 l its.toArray n dd sl t) ⟨ho, ?_⟩⟩)
    exact ⟨.ref l, H, I, rfl, q⟩
  · obtain ⟨t, rfl⟩ := ry
    obtain ⟨its, r, ⟨⟨cls, dd, data, sl⟩, ho, hc, n, hd⟩, hs⟩ := I.tuple hT
    simp only at hc hd
    subst hc hd
    have hle : its.length = xs.length := r.length.symm
    have hi : its.toArray.isEmpty = false := by
      cases its with
      | nil => exact absurd (List.eq_nil_of_length_eq_zero hle.symm) hne
      | cons a b => rfl
    refine wpAny_binaryOp_repeat_ref (T := "tuple") (U := "int") (by decide) ⟨_, ho, rfl⟩ (fun s' => typeIs_int s' 0 t) noFill_tuple_mul F.fills_int_mul F.slot_int_rmul repeat_tuple F.slot_int_index.lookup
      (call_meets F.slot_int_rmul (typeIs_int s 0 t) F.entry_int_rmul (F.args_int_rmul_2 _ _) (int_rmul_tuple 0 t l its.toArray n dd sl)
        ⟨ho, rfl, ⟨_, ho, rfl⟩, call_meets F.slot_tuple_mul ⟨_, ho, rfl⟩ F.entry_tuple_mul (F.args_tuple_mul_2 _ _) (tuple_mul0 l its.toArray n dd sl t hi) ⟨ho, ?_⟩⟩)
    refine ⟨.ref s.heap.objs.size, _, I.laid (t' := s.toks) (o := .tup []) (fun b ob q => Heap.get?_push_of_some _ q) (Nat.le_refl _) ?_, rfl, q _ (I.hok.fresh (Nat.le_refl _))⟩
    exact ⟨Nat.zero_le _, _, .nil, IsTup.new _ _⟩
end
def rMulT (K : PySem.W.Frag) : R2 := fun x y H Q => rMulA K x y H Q ∨ rRepS K x y H Q
theorem opMulT {X : Cx} : OpR X (binaryOp .Mult) (rMulT X.K) := OpR.or opMul op_repS
section
variable {K : PySem.W.Frag} {xs : List PyData} {j : Int} {x y z : PyData}
theorem rd_mulA (h : R2D K (rMulA K) x y z) : R2D K (rMulT K) x y z := fun H I v u s r1 r2 Q q => .inl (h H I v u s r1 r2 Q q)
/-- a tuple that is not empty, times j -/
theorem rd_repT (h1 : xs ≠ []) (h2 : 0 ≤ j) (h3 : j ≤ 1000) (h4 : xs.length ≤ 1000) : R2D K (rMulT K) (.tuple xs) (.int j) (.tuple (List.replicate j.toNat xs).flatten) := fun H I v u s r1 r2 Q q => by
  by_cases g2 : 2 ≤ j
  · exact .inl (rd_rep h1 g2 h3 h4 H I v u s r1 r2 Q q)
  · cases r1 with
    | tup e1 a1 =>
      cases r2
      by_cases g1 : j = 1
      · subst g1
        refine .inr ⟨_, _, rfl, .of (s _ _ e1), .inl ⟨rfl, q _ H I (Nx.refl s) ?_⟩⟩
        have e : (List.replicate (1 : Int).toNat xs).flatten = xs := by simp
        rw [e]
        exact .tup e1 a1
      · have g0 : j = 0 := by omega
        subst g0
        refine .inr ⟨_, _, rfl, .of (s _ _ e1), .inr ⟨rfl, fun z => h1 ?_, fun p hp => q _ _ _ (Nx.new s hp) (.tup upd_same .nil)⟩⟩
        have := a1.length
        rw [z] at this
        exact List.eq_nil_of_length_eq_zero this.symm
end
end Tw

/-! Tw10: Stuck: an own error with an own __init__ that calls its base's; its field read in an except suite. -/
namespace Tw
open PySem PySem.Spec PyProof.Rows L2 PyProof
def atN : Str := "at"
/-- what the kit must say of Stuck at C, of TokenError at T over it, of Stuck's __init__ at fI -/
structure StuckF (K : PySem.W.Frag) (C T fI : Addr) : Prop where
  o : OexC K C
  no : PySem.W.findIn K (.ref C) "at" = some none
  iC : PySem.W.findIn K (.ref C) "__init__" = some (some (.ref fI))
  tI : PySem.W.typeIn K (.ref fI) = some (.type "function")
  rd : PySem.W.readsIn K T (.type "type") = true
  sg : PySem.W.specialIn K (.ref T) "__getattribute__" = some (some (.builtin "type.__getattribute__"))
  ty : PySem.W.typeIn K (.ref T) = some (.type "type")
  fc : PySem.W.findCls K (.ref T) (.type "type") "__init__" = some (.val (.builtin "ValueError.__init__"))
  E : ExcC K C
  kT : PySem.W.kitOne K (.ref C) (.ref T) = some true
  kV : PySem.W.kitOne K (.ref C) (.type "ValueError") = some true
  ex : PySem.W.exmOne K (.ref C) (.ref C) = some true
theorem StuckF.X {K : PySem.W.Frag} {C T fI : Addr} (h : StuckF K C T fI) : XfC K C := ⟨h.E.hg, h.E.hk, h.E.hs, h.E.hd⟩
theorem stuckF_of {K : PySem.W.Frag} {C T fI : Addr} (o : OexC K C) (no : PySem.W.findIn K (.ref C) "at" = some none) (iC : PySem.W.findIn K (.ref C) "__init__" = some (some (.ref fI))) (tI : PySem.W.typeIn K (.ref fI) = some (.type "function"))
    (rd : PySem.W.readsIn K T (.type "type") = true) (sg : PySem.W.specialIn K (.ref T) "__getattribute__" = some (some (.builtin "type.__getattribute__"))) (ty : PySem.W.typeIn K (.ref T) = some (.type "type")) (fc : PySem.W.findCls K (.ref T) (.type "type") "__init__" = some (.val (.builtin "ValueError.__init__")))
    (E : ExcC K C) (dT : PySem.W.hasDictIn K T = true) (sT : PySem.W.subIn K (.ref C) (.ref T) = some true) (sV : PySem.W.subIn K (.ref C) (.type "ValueError") = some true) (sC : PySem.W.subIn K (.ref C) (.ref C) = some true) : StuckF K C T fI where
  o := o
  no := no
  iC := iC
  tI := tI
  rd := rd
  sg := sg
  ty := ty
  fc := fc
  E := E
  kT := by
    obtain ⟨cd, hc, _⟩ := PySem.W.any_some dT
    show (if ((Value.ref C == Value.ref T) = true) then some true else if ((PySem.W.clsIn K T).isSome && PySem.W.typeIn K (.ref T) == some (.type "type")) = true then PySem.W.subIn K (.ref C) (.ref T) else none) = some true
    rw [hc, ty, sT]
    split
    · rfl
    · rw [if_pos (by rfl)]
  kV := by
    show (if ((Value.ref C == Value.type "ValueError") = true) then some true else if PySem.W.kitMeta "ValueError" = true then PySem.W.subIn K (.ref C) (.type "ValueError") else none) = some true
    rw [if_neg (by intro h; cases (beq_iff_eq.mp h)), if_pos (by decide +kernel)]
    exact sV
  ex := PySem.W.exm_ref E.hs E.hd o.tyC sC
section
variable {X : Cx} {e : Expr} {es : List Expr} {ta : TA} {x : Str} {T : Addr} {p1 p2 pos : Pos}
/-- T.__init__(self, ..), T an own class that has ValueError's -/
theorem pe_oinit {pl : Sem Bool} (hg : Gl X x) (hm : X.mg x = some (.ref T)) (rd : PySem.W.readsIn X.K T (.type "type") = true) (sg : PySem.W.specialIn X.K (.ref T) "__getattribute__" = some (some (.builtin "type.__getattribute__"))) (ty : PySem.W.typeIn X.K (.ref T) = some (.type "type"))
    (fc : PySem.W.findCls X.K (.ref T) (.type "type") "__init__" = some (.val (.builtin "ValueError.__init__"))) (ha : PA X (e :: es) ta) (hdb : (x == ("__debug__" : Str)) = false := by decide)
    (hc : eval (.Call (.Attribute (.Name x p1) "__init__" p2) (e :: es) [] pos) X.env = (do
      let ov ← eval (.Name x p1) X.env
      standAt p2.atName
      let (f, first) ← holding [ov] (getMethod ov "__init__" pl)
      callWith pos f first (backTo pos (starEach (e :: es) X.env)) (backToKw pos (keywordEach [] X.env))) := by rfl)
    (he : starEach (e :: es) X.env = (false, eval e X.env) :: starEach es X.env := by rfl) (hpl : (backTo pos (starEach es X.env)).any (·.1) = false := by rfl) :
    PE X (.Call (.Attribute (.Name x p1) "__init__" p2) (e :: es) [] pos) (tVeI X.K ta) := by
  refine ⟨fun pins s σ H Q I h => ?_⟩
  refine PySem.W.methodCall_KW (ld_glob I hg hm ?_ hdb) hc
  obtain ⟨m, fr⟩ := I.fr
  refine PySem.W.method_of_cls fr I.ok.mod.kin sg (PySem.W.cls_val fr I.ok.mod.kin ty rd fc (by decide +kernel) ?_)
  show wpAny _ _ (callWith pos (Value.builtin "ValueError.__init__") [] (backTo pos (starEach (e :: es) X.env)) []) _ _ _
  refine PyProof.Rows.callWith_method1 (thn (ha.run pos pins _ σ H _ (I.tok _) h) fun us s1 ⟨vs, H1, I1, r1, a, C, ws, ev, hl, T, ea, q⟩ => ?_) he hpl
  subst ev
  cases r1 with
  | @cons _ u0 _ ur ra rw' =>
    obtain rfl : u0 = Value.ref a := ra
    have hlen : ur.length ≤ sizeLine := by
      rw [← Paired.length rw', sizeLine_eq]
      omega
    exact oinit_ok T I1 ea hlen fun s' J => ⟨.non, H1, J, rfl, q⟩
end
/-- Stuck.__init__(self, at): the field at is set, nothing else -/
def spI (K : PySem.W.Frag) : Sp := fun vs H Q _ => ∃ (a C : Addr) (k : Int), vs = [.ref a, .int k] ∧ OexC K C ∧ PySem.W.findIn K (.ref C) "at" = some none ∧ H a = some (exo a C none) ∧
  ∀ dx, H dx = none → dx ≠ a → Q .non (upd (upd H dx (exd dx [("at", .int k)])) a (exo a C (some dx)))
/-- raise Stuck(e) -/
def tRzO (K : PySem.W.Frag) (C : Addr) (W : WX) (ta : TA) : TS := fun _ σ H => tMkO C (spI K) [] ta σ H fun cls d H' => W cls d σ H'
def t_init (K : PySem.W.Frag) : TS := tSeq (tDrop (tVeI K (tCons (tVar 0) (tCons (tC (.str (PySem.Str.ofString "a move can't be made"))) tNil)))) (tOst K "at" (tVar 0) (tVar 1))
theorem spI_len {K : PySem.W.Frag} : ∀ vs H Q E, spI K vs H Q E → vs.length = 2 := fun _ _ _ _ ⟨_, _, _, h, _⟩ => by rw [h]; rfl
theorem spI_body {K : PySem.W.Frag} {vs : List V} {H : Hp} {Q : VK} {E : XK} {N : List Str} (h : spI K vs H Q E) : t_init K { nx := fun _ H' => Q .non H', rt := Q } (L2.start N vs) H := by
  obtain ⟨a, C, k, rfl, o, no, ea, q⟩ := h
  refine ⟨.ref a, rfl, ?_⟩
  refine ⟨a, C, [.str (PySem.Str.ofString "a move can't be made")], rfl, by decide, o, ea, ?_⟩
  refine ⟨.int k, rfl, .ref a, rfl, a, C, rfl, o, no, .inl ⟨ea, fun dx h1 h2 => q dx h1 h2⟩⟩
section
variable {K : PySem.W.Frag} {E : XK} {δ : List Sl} {te : TE} {P : Out → Prop} {C : Addr} {k : Int}
theorem as_rzO (he : Ev K te δ (.int k)) (hC : OexC K C) (hno : PySem.W.findIn K (.ref C) "at" = some none) (kP : P (.exd (.ref C) [("at", .int k)])) : As K E (tRzO K C (fun cls d _ H => E cls d H) (tCons te tNil)) δ P := fun G I0 σ H I D n r c => by
    unfold tRzO tMkO
    refine (ea_cons he ea_nil) G σ H I n.s n.h r _ fun vs H1 I1 n1 r1 => ?_
    cases r1 with
    | cons rx rr =>
      cases rr
      cases rx
      refine ⟨by show 1 ≤ 1000; decide, fun a ha => ⟨a, C, k, rfl, hC, hno, upd_same, fun dx hdx hne => ?_⟩⟩
      have h1 : H1 dx = none := by rw [upd_ne hne] at hdx; exact hdx
      refine ⟨rfl, dx, [("at", .int k)], upd_same, by rw [upd_ne hne, upd_same], h1, ?_⟩
      refine c.exd (.ref C) [("at", .int k)] dx _ kP (fun p o hp => ?_) upd_same
      have hp1 := n1.h p o (n.h p o hp)
      have pa : p ≠ a := fun z => by rw [z, ha] at hp1; cases hp1
      have pd : p ≠ dx := fun z => by rw [z, h1] at hp1; cases hp1
      rw [upd_ne pd, del_ne pa, upd_ne pa, upd_ne pd, upd_ne pa]
      exact hp1
end
/-- isinstance of the error that the suite holds at a, its dict known -/
def rIsY (K : PySem.W.Frag) (a : Addr) (cls : Value) (d : Option Addr) : List V → Hp → VK → Prop := fun xs H Q => ∃ (D dd : Addr) (fs : List (Str × V)) (c : V) (cv : Value) (b : Bool), cls = .ref D ∧ d = some dd ∧ H dd = some (.xd fs) ∧ ExcC K D ∧
  xs = [.ref a, c] ∧ (∀ u, RelV c u → u = cv) ∧ PySem.W.kitOne K (.ref D) cv = some b ∧ Q (.bl b) H
theorem call_isY {X : Cx} {a : Addr} {cls : Value} {d : Option Addr} {oe : Obj} {pn : List (Addr × Obj)} (hz : Zc cls d oe) (hf : ∃ vs, oe.data = .fields vs) : CallR (X.suite a ((a, oe) :: pn)) (.builtin "isinstance") (rIsY X.K a cls d) := by
  intro pins s σ H xs us Q I r h
  obtain ⟨D, dd, fs, c, cv, b, rfl, rfl, hdd, C, rfl, hcv, e, q⟩ := h
  cases r with
  | cons rx rr =>
    cases rr with
    | cons rt rr =>
      cases rr
      cases rx
      have ec := hcv _ rt
      subst ec
      obtain ⟨hget, _⟩ := I.pin (a, oe) (List.mem_append.mpr (.inl List.mem_cons_self))
      obtain ⟨vs, hv⟩ := hf
      have hx : ObjOk X.prog X.w H s.heap dd (.xd fs) := I.hok dd _ hdd
      obtain ⟨mA, hns, hr⟩ := hx
      obtain ⟨od, ho, hl⟩ := lookIn_ns hns
      have J : PySem.W.InstAt s.heap a oe D (some od) := ⟨hget, hz.1, by unfold PySem.W.notCls; rw [hv] <;> rfl, by rw [hz.2]; exact ho⟩
      have hcl : (PySem.W.clsIn X.K D).isSome = true := by
        obtain ⟨cd, hc, _⟩ := PySem.W.any_some C.hd
        rw [hc]
        rfl
      exact PySem.W.kia_one (PySem.W.kitx_exc hcl C.hg C.hk C.hs C.ha C.hn C.ht C.hm) I.kIn J e (fun z => nomatch z) fun tk => ⟨.bl b, H, I.kept (t' := tk) fun _ _ z => z, rfl, q⟩
theorem ite_t {A B : Prop} (h : A) : if true = true then A else B := by rw [if_pos rfl]; exact h
section
variable {K : PySem.W.Frag} {E : XK} {δ : List Sl} {xs : List PyData} {x : PyData} {ta : TA} {F : List PyData → Out → Prop} {P : Out → Prop} {C T fI : Addr} {c : Value} {i q : Nat} {k : Int} {z : Str}
theorem as_tryC_ok {sb : Addr → Value → Option Addr → TS} (ha : EvA K ta δ xs) (hF : F xs (.rt x)) (kP : P (.nx (δ.set q (.d x)))) : As K E (tTryB K c i (fun W => tAsg (tCallS (SpD K F) (WE W) ta) (gName q)) sb) δ P := fun G I0 σ H I D n r cv =>
  as_set (ev_call (W := wAs K c i sb (fun _ _ _ _ => False) D) ha hF) kP G I0 σ H I D n r cv
theorem as_tryC_ex (ha : EvA K ta δ xs) (hF : F xs (.exd (.ref C) [("at", .int k)])) (hS : StuckF K C T fI) (hi : i < δ.length) (hiq : i ≠ q) (kP : P (.nx ((δ.set q (.d (.tuple [.str z, .int k]))).set i .no))) :
    As K E (tTryB K (.ref C) i (fun W => tAsg (tCallS (SpD K F) (WE W) ta) (gName q)) (fun a cls d => tIfS (tAnd (tB (tCB (rIsY K a cls d) (tCons (tVar i) (tCons (tC (.ref T)) tNil)))) (tB (tCB (rIsY K a cls d) (tCons (tVar i) (tCons (tC (.ty "ValueError")) tNil)))))
      (tAsg (tTup (tCons (tC (.str z)) (tCons (tXf a cls d C "at" (tVar i)) tNil))) (gName q)) tNext)) δ P := fun G I0 σ H I D' n r cv =>
  ha G σ H I n.s n.h r _ fun vs H1 I1 n1 r1 => ⟨I1, xs, .exd (.ref C) [("at", .int k)], n1.s, r1, hF, fun dd H2 e hdd => ⟨true, hS.ex, fun _ a _ => by
    have r2 := r.next (n1.trans (nx_same n1.s e))
    have n2 := (n.trans n1).trans (nx_same n1.s e)
    have hl := r2.len
    have h2 : (σ.set i (some (V.ref a)))[i]? = some (some (.ref a)) := List.getElem?_set_self (by omega)
    refine ⟨_, h2, C, dd, _, .ref T, .ref T, true, rfl, rfl, hdd, hS.E, rfl, fun u ru => ru, hS.kT, true, rfl, ite_t ?_⟩
    refine ⟨_, h2, C, dd, _, .ty "ValueError", .type "ValueError", true, rfl, rfl, hdd, hS.E, rfl, fun u ru => ru, hS.kV, true, rfl, ite_t ?_⟩
    refine ⟨_, h2, rfl, rfl, dd, _, .int k, rfl, hdd, by simp [List.lookup], ?_⟩
    refine ⟨by show 2 ≤ sizeLine; decide, fun p hp => ?_⟩
    have n3 : Nx H2 I1 (upd H2 p (.tup [.str z, .int k])) (upd I1 p (.tup [.str z, .int k])) := Nx.new n2.s hp
    have r3 : RelS K G (upd H2 p (.tup [.str z, .int k])) (upd I1 p (.tup [.str z, .int k])) (σ.set q (some (.ref p))) (δ.set q (.d (.tuple [.str z, .int k]))) := (r2.next n3).put (.tup upd_same (.cons (.str _) (.cons (.int _) .nil)))
    have r4 := r3.none (i := i) (o := none)
    refine cv.nx _ _ _ _ kP (n2.trans n3) ?_
    have ec : ((σ.set i (some (V.ref a))).set q (some (.ref p))).set i none = (σ.set q (some (.ref p))).set i none := by
      rw [List.set_comm _ _ hiq, List.set_set]
    show RelS K G _ _ (((σ.set i (some (V.ref a))).set q (some (.ref p))).set i none) _
    rw [ec]
    exact r4, fun z => nomatch z⟩⟩
end
end Tw

/-! Tw11: sorted(set(xs)) of a list of ints; in, not in such a list. -/
namespace Tw
open PySem PySem.Spec PyProof.Rows L2 PyProof
section
variable {P : Program} {w : World} {A : Around} {E : Value → Shared → Prop} {s : Shared}
/-- the empty set, as it is made -/
abbrev noneYet (w : World) : Obj := { cls := .type "set", dict := none, data := .set #[] 0 (.fresh 0 0 (!w.params.followText "set-order")) }
/-- the loop that fills the new set from a list of ints -/
theorem fill_list {l : Addr} {items : Array Value} (ns : List Int) {R : Result → Shared → Prop} (hh : A.handled = none) (hl : s.heap.IsList l items) (hit : IntsAre items.toList ns) (hb : ns.length + 1 < scanBound) (hR : ∀ (h' : Heap) (tk c : Nat), SetR w h' s.heap.objs.size (fun j => decide (j ∈ ns)) c → c ≤ ns.length →
      (∀ b o, s.heap.get? b = some o → h'.get? b = some o) → R (.ok (.ret .none)) { s with heap := h', toks := tk }) :
    codeAny (model P w) A (.builtin "set.update.loop" ⟨[.ref s.heap.objs.size, .ref (s.heap.objs.size + 1)], []⟩) R { s with heap := (s.heap.push (noneYet w)).push { cls := .type "list_iterator", data := .fields #[.ref l, .int 0 0] } } := by
  have hlen : items.size = ns.length := by
    have := IntsAre.length hit
    rwa [Array.length_toList] at this
  have hlS : l < s.heap.objs.size := by
    obtain ⟨o, ho, _⟩ := hl
    exact Heap.lt_size ho
  have z1 : (s.heap.push (noneYet w)).objs.size = s.heap.objs.size + 1 := Heap.size_push ..
  have gS : ((s.heap.push (noneYet w)).push { cls := .type "list_iterator", data := .fields #[.ref l, .int 0 0] }).get? s.heap.objs.size = some (noneYet w) := Heap.get?_push_of_some _ (Heap.get?_push_size _ rfl)
  have gI : ((s.heap.push (noneYet w)).push { cls := .type "list_iterator", data := .fields #[.ref l, .int 0 0] }).get? (s.heap.objs.size + 1) = some { cls := .type "list_iterator", data := .fields #[.ref l, .int 0 0] } := by
    rw [← z1]
    exact Heap.get?_push_size _ rfl
  have gl : ((s.heap.push (noneYet w)).push { cls := .type "list_iterator", data := .fields #[.ref l, .int 0 0] }).IsList l items := (hl.push _).push _
  refine set_update_ints ((Walks.list (A := A.in1) (by simp [hh]) (s.heap.objs.size + 1) l (Nat.ne_of_lt (Nat.lt_succ_of_lt hlS)) items).toS) s.heap.objs.size (by simp only [List.mem_cons, List.not_mem_nil, or_false, not_or]; exact ⟨Nat.ne_of_lt (Nat.lt_succ_self _), Nat.ne_of_gt hlS⟩) ns hlen hb (fun i v hv => ?_) items.size 0 _ (Nat.sub_zero _) (Nat.zero_le _) ⟨⟨_, gI, rfl, rfl⟩, gl⟩ ⟨0, Nat.le_refl 0, setR_new_at gS⟩ (fun s' c hm hc hS => ?_)
  · have hi : i < ns.length := by rw [← hlen]; exact (Array.getElem?_eq_some_iff.mp hv).1
    obtain ⟨t, e⟩ := IntsAre.int_at hit i v (by rw [Array.getElem?_toList]; exact hv)
    exact ⟨ns[i], t, List.getElem?_eq_getElem hi, by rw [e, List.getD_eq_getElem?_getD, List.getElem?_eq_getElem hi]; rfl⟩
  · have key := hR s'.heap s'.toks c hS (by rw [← hlen]; exact hc) fun b o e => by
      have hlt := Heap.lt_size e
      exact hm.heap b o (by simp only [List.mem_cons, List.not_mem_nil, or_false, not_or]; exact ⟨Nat.ne_of_lt hlt, Nat.ne_of_lt (Nat.lt_succ_of_lt hlt)⟩) (Heap.get?_push_of_some _ (Heap.get?_push_of_some _ e))
    obtain ⟨h', g', d', tk', os'⟩ := s'
    have e1 : g' = s.gens := hm.gens
    have e2 : d' = s.drawn := hm.drawn
    have e3 : os' = s.os := hm.os
    subst e1 e2 e3
    exact key
/-- set(xs): the call comes to the loop above -/
theorem make_set {l : Addr} {items : Array Value} (ns : List Int) {Q : Value → Shared → Prop} (hh : A.handled = none) (hl : s.heap.IsList l items) (hit : IntsAre items.toList ns) (hb : ns.length + 1 < scanBound)
    (h : ∀ (h' : Heap) (tk c : Nat), SetR w h' s.heap.objs.size (fun j => decide (j ∈ ns)) c → c ≤ ns.length → (∀ b o, s.heap.get? b = some o → h'.get? b = some o) → Q (.ref s.heap.objs.size) { s with heap := h', toks := tk }) :
    wpAny (model P w) A (call (.type "set") [.ref l]) Q E s := by
  obtain ⟨_, _, hmro⟩ := F.called_set.mro
  have hmade := F.called_set.made
  have hsub := F.called_set.sub
  have hnot := F.called_set.notType
  have hcan := F.called_set.canCreate
  have htc := F.typeCall_set_1 (.ref l)
  refine wpAny_call (codeAny_of_tree ?_)
  show wpAny _ _ (callAny (.type "set") _) _ _ _
  refine wpAny_pure ⟨Code.quiet_builtin _ (by decide +kernel), codeAny_builtin F.entry_type_call ?_⟩
  rw [Around.under_plain (weight_type_call_type "set" [.ref l] []) rfl]
  repeat (any_goals (first | assumption | wp_step))
  refine codeAny_mono (code_set_led1 (.ref l) (E := E) (Q₁ := fun v t => v = .ref s.heap.objs.size ∧ t = { s with heap := s.heap.push (noneYet w) }) ⟨rfl, rfl⟩) fun r t hr => ?_
  match r, hr with
  | .error e, hr => exact hr
  | .ok .next, hr => exact hr.elim
  | .ok .brk, hr => exact hr.elim
  | .ok .cont, hr => exact hr.elim
  | .ok (.ret v), hr =>
    obtain ⟨rfl, rfl⟩ := hr
    have hT : Shared.TypeIs { s with heap := s.heap.push (noneYet w) } (.ref s.heap.objs.size) "set" := ⟨_, Heap.get?_push_size _ rfl, rfl⟩
    have hli := F.called_set.init.lookup
    have hbi := F.called_set.init.bind (.ref s.heap.objs.size)
    repeat (any_goals (first | assumption | wp_step))
    refine codeAny_mono (codeAny_call_builtin (R := wants (fun r t => r = .none ∧ ∃ h' tk c, t = { s with heap := h', toks := tk } ∧ SetR w h' s.heap.objs.size (fun j => decide (j ∈ ns)) c ∧ c ≤ ns.length ∧ (∀ b o, s.heap.get? b = some o → h'.get? b = some o)) E) F.called_set.init.plain F.entry_set_init (check_set_init_1 hT ?_)) fun r t hr => ?_
    · obtain ⟨⟨ocls, odict, odata, oslots⟩, hol, hcl, nl, hdl⟩ := id hl
      simp only at hcl hdl
      subst hcl hdl
      have hget : (s.heap.push (noneYet w)).get? l = some { cls := .type "list", dict := odict, data := .seq items nl, slots := oslots } := Heap.get?_push_of_some _ hol
      have k1 := F.sub_list_set
      have k2 := F.sub_list_frozenset
      have k3 : (Value.type "list" == Value.type "dict") = false := by decide
      have hl1 : (s.heap.push (noneYet w)).IsList l items := hl.push _
      unfold Builtin.«set.__init__» noKeywords Builtin.Frozenset.updateFrom
      generalize hPI : pyIter = PI
      wp_walk
      subst hPI
      refine wpAny_pyIter_list hl1 (wpAny_bind (wpAny_runValue ?_))
      rw [show (s.heap.push (noneYet w)).objs.size = s.heap.objs.size + 1 from Heap.size_push ..]
      refine fill_list (A := A.in1.in1) ns (by simp [hh]) hl hit hb fun h' tk c hS hc hk => ?_
      show wpAny _ _ _ _ _ _
      refine wpAny_pure ?_
      show wpAny _ _ (ret Value.none) _ _ _
      exact wpAny_pure ⟨rfl, h', tk, c, rfl, hS, hc, hk⟩
    · match r, hr with
      | .error e, hr => exact hr
      | .ok .next, hr => exact hr.elim
      | .ok .brk, hr => exact hr.elim
      | .ok .cont, hr => exact hr.elim
      | .ok (.ret v), hr =>
        obtain ⟨rfl, h', tk, c, rfl, hS, hc, hk⟩ := hr
        repeat (any_goals (first | assumption | wp_step))
        exact h _ _ _ hS hc hk
end
/-- sorted(set(e)), e a list of ints -/
def tSortSet (K : PySem.W.Frag) (ta : TE) : TE := fun σ H Q => ta σ H fun x H1 => ∃ (l : Addr) (ns : List Int), x = .ref l ∧ SqL K H1 l (ns.map V.int) ∧ ns.length < 64 ∧
  ∀ (out : List Int) (p : Addr), out.Pairwise (· < ·) → (∀ k, k ∈ out ↔ k ∈ ns) → H1 p = none → Q (.ref p) (upd H1 p (.lst (out.map V.int)))
theorem pe_sortSet {X : Cx} {a : Expr} {ta : TE} {p p2 q pos : Pos} (hg : Gl X "sorted") (hm : X.mg "sorted" = none) (hg2 : Gl X "set") (hm2 : X.mg "set" = none) (ha : PE X a ta) (hc : X.calm = true := by rfl)
    (na : starEach [a] X.env = (false, eval a X.env) :: starEach [] X.env := by rfl) : PE X (.Call (.Name "sorted" p) [.Call (.Name "set" p2) [a] [] q] [] pos) (tSortSet X.K ta) := by
  refine ⟨fun pins s σ H Q I h => ?_⟩
  refine Call_ (ld_blt I hg hm boot_sorted ?_)
  refine PyProof.Rows.callWith_builtin1 (PyProof.Rows.args_cons ?_ rfl) rfl rfl
  refine Call_ (ld_blt I hg2 hm2 PyProof.Rows.boot_set ?_)
  refine PyProof.Rows.callWith_type1 (PyProof.Rows.args_cons (thn (ha.run pins s σ H _ I h) fun v s1 ⟨x, H1, I1, r1, q1⟩ => PyProof.Rows.args_nil ?_) na) na rfl
  obtain ⟨l, ns, rfl, hq, hl, q1⟩ := q1
  cases r1
  obtain ⟨its, r, pl, hz⟩ := I1.list hq
  refine make_set ns (I1.ok.hd hc) pl.isList (by simpa using RZ.intsAre_vals r) (by unfold scanBound; omega) fun h' tk c hS hcl hk => ?_
  refine PyProof.Rows.args_nil ?_
  have I2 : Inv X pins σ H1 { s1 with heap := h', toks := tk } := I1.kept hk
  refine sorted_set hS (I2.ok.hd hc) (by omega) fun s' pp out c2 ms k g o hp hg3 hi hs hmm hln => ?_
  have hlen : (ms.map V.int).length ≤ sizeLine := by rw [List.length_map, hln, sizeLine_eq]; omega
  have hn : H1 pp = none := I2.hok.fresh hp
  have J : Inv X pins σ (upd H1 pp (.lst (ms.map V.int))) { s1 with heap := s'.heap, gens := s'.gens, drawn := s'.drawn, toks := s'.toks } :=
    Inv.call (s := { s1 with heap := h', toks := tk }) (ch := []) I2 (Un.laid k hp hn) (I2.hok.laid k hp ⟨hlen, out.toList, c2, vals_of_ints hi, hg3⟩) (by rw [g]; exact I2.bare) (fun _ z => nomatch z)
  have e : s' = { s1 with heap := s'.heap, gens := s'.gens, drawn := s'.drawn, toks := s'.toks } := by
    cases s'
    cases s1
    cases o
    rfl
  rw [e]
  exact ⟨.ref pp, _, J, rfl, q1 ms pp hs (fun k => by rw [hmm k, decide_eq_true_eq]) hn⟩
theorem eqV_int (a b : Int) : eqV (.int a) (.int b) = decide (a = b) := by
  first | rfl | (unfold eqV; by_cases h : a = b <;> simp [h])
theorem inV_ints (i : Int) : ∀ ns : List Int, inV (.int i) (ns.map V.int) = decide (i ∈ ns)
  | [] => by simp [inV]
  | a :: r => by
    show ((eqV (.int a) (.int i)) || inV (.int i) (r.map V.int)) = _
    rw [inV_ints i r, eqV_int]
    by_cases h : a = i
    · simp [h]
    · by_cases h2 : i ∈ r
      · simp [h2]
      · simp [h, h2, Ne.symm h]
theorem flat_ints (ns : List Int) : (ns.map V.int).all flatV = true := by
  rw [List.all_map, List.all_eq_true]
  intro x _
  rfl
section
variable {K : PySem.W.Frag} {i : Int} {ns : List Int}
theorem rd_in : R2D K (rIn K false) (.int i) (.list (ns.map .int)) (.bool (decide (i ∈ ns))) := fun H I v u s r1 r2 Q q => by
  cases r1
  cases r2 with
  | lst h a =>
    have e := rall_ints a
    subst e
    exact ⟨_, _, rfl, .inl (.of (s _ _ h)), rfl, flat_ints ns, by rw [inV_ints]; exact q _ H I (Nx.refl s) (.bl _)⟩
theorem rd_notIn : R2D K (rIn K true) (.int i) (.list (ns.map .int)) (.bool (!decide (i ∈ ns))) := fun H I v u s r1 r2 Q q => by
  cases r1
  cases r2 with
  | lst h a =>
    have e := rall_ints a
    subst e
    exact ⟨_, _, rfl, .inl (.of (s _ _ h)), rfl, flat_ints ns, by rw [inV_ints]; exact q _ H I (Nx.refl s) (.bl _)⟩
end
end Tw

/-! Tw12: sorted without repeats; sinks and traps, in plain Lean. -/
namespace Tw
open PySem PySem.Spec PyProof.Rows L2 PyProof
def insU (x : Int) : List Int → List Int
  | [] => [x]
  | y :: r => if x < y then x :: y :: r else if x = y then y :: r else y :: insU x r
theorem mem_insU {x k : Int} : ∀ {l : List Int}, k ∈ insU x l ↔ k = x ∨ k ∈ l
  | [] => by simp [insU]
  | y :: r => by
    unfold insU
    split
    · simp
    · split
      · rename_i h
        subst h
        simp
      · rw [List.mem_cons, mem_insU (l := r), List.mem_cons]
        constructor
        · rintro (h | h | h) <;> simp [h]
        · rintro (h | h | h) <;> simp [h]
theorem pw_insU {x : Int} : ∀ {l : List Int}, l.Pairwise (· < ·) → (insU x l).Pairwise (· < ·)
  | [], _ => List.pairwise_singleton ..
  | y :: r, h => by
    obtain ⟨h1, h2⟩ := List.pairwise_cons.mp h
    unfold insU
    split
    · rename_i hx
      refine List.pairwise_cons.mpr ⟨fun k hk => ?_, h⟩
      rcases List.mem_cons.mp hk with rfl | hk
      · exact hx
      · exact Int.lt_trans hx (h1 k hk)
    · split
      · exact h
      · rename_i h3 h4
        refine List.pairwise_cons.mpr ⟨fun k hk => ?_, pw_insU h2⟩
        rcases mem_insU.mp hk with rfl | hk
        · omega
        · exact h1 k hk
def sortU (l : List Int) : List Int := l.foldr insU []
theorem mem_sortU {k : Int} : ∀ {l : List Int}, k ∈ sortU l ↔ k ∈ l
  | [] => by simp [sortU]
  | a :: r => by
    show k ∈ insU a (sortU r) ↔ _
    rw [mem_insU, mem_sortU, List.mem_cons]
theorem pw_sortU : ∀ {l : List Int}, (sortU l).Pairwise (· < ·)
  | [] => List.Pairwise.nil
  | a :: r => pw_insU pw_sortU
/-- two that rise and have the same members are one -/
theorem rise_eq : ∀ {a b : List Int}, a.Pairwise (· < ·) → b.Pairwise (· < ·) → (∀ k, k ∈ a ↔ k ∈ b) → a = b
  | [], [], _, _, _ => rfl
  | [], y :: b, _, _, h => absurd ((h y).mpr List.mem_cons_self) (by simp)
  | x :: a, [], _, _, h => absurd ((h x).mp List.mem_cons_self) (by simp)
  | x :: a, y :: b, ha, hb, h => by
    obtain ⟨a1, a2⟩ := List.pairwise_cons.mp ha
    obtain ⟨b1, b2⟩ := List.pairwise_cons.mp hb
    have e : x = y := by
      rcases List.mem_cons.mp ((h x).mp List.mem_cons_self) with e | e
      · exact e
      · rcases List.mem_cons.mp ((h y).mpr List.mem_cons_self) with e2 | e2
        · exact e2.symm
        · have := b1 x e
          have := a1 y e2
          omega
    subst e
    congr 1
    refine rise_eq a2 b2 fun k => ?_
    constructor
    · intro hk
      rcases List.mem_cons.mp ((h k).mp (List.mem_cons_of_mem _ hk)) with e | e
      · have := a1 k hk
        omega
      · exact e
    · intro hk
      rcases List.mem_cons.mp ((h k).mpr (List.mem_cons_of_mem _ hk)) with e | e
      · have := b1 k hk
        omega
      · exact e
section
variable {K : PySem.W.Frag} {E : XK} {δ : List Sl} {te : TE} {ns : List Int} {xs ys : List PyData} {P : Out → Prop}
theorem en_sortSet (h : Ev K te δ (.list (ns.map .int))) (hl : ns.length < 64) : EvN K (tSortSet K te) δ ((sortU ns).map .int) := fun G σ H I s g r Q q =>
  h G σ H I s g r _ fun v H1 I1 n1 rv => by
    cases rv with
    | lst h1 a1 =>
      have e := rall_ints a1
      subst e
      refine ⟨_, ns, rfl, .of (n1.s _ _ h1), hl, fun out p hs hm hp => ?_⟩
      have eo : out = sortU ns := rise_eq hs pw_sortU fun k => by rw [hm k, mem_sortU]
      subst eo
      exact q p H1 I1 _ n1 hp (ints_rall _)
/-- xs.extend(ys), ys data -/
theorem as_extD {i : Nat} (e : δ[i]? = some (.own xs)) (h : Ev K te δ (.list ys)) (hz : xs.length + ys.length ≤ sizeLine) (k : P (.nx (δ.set i (.own (xs ++ ys))))) :
    As K E (tDrop (tBM K "list" rExtend (tVar i) (tCons te tNil))) δ P := fun G I0 σ H I D n r c => by
  obtain ⟨p, vs, h1, h2, h3, h4, h5⟩ := r.own i xs e
  refine ⟨.ref p, h1, .inl ⟨rfl, _, .inl (.inl h4)⟩, ?_⟩
  refine h G σ H I n.s n.h r _ fun v H1 I1 n1 rv => ?_
  cases rv with
  | lst hq rw =>
    have r1 := r.next n1
    obtain ⟨p', vs', h1', h2', h3', h4', h5'⟩ := r1.own i xs e
    rw [h1] at h1'
    cases h1'
    refine ⟨p, _, vs', _, rfl, rfl, h4', n1.s _ _ hq, by rw [h5'.length, rw.length]; exact hz, ?_⟩
    have n2 := n.trans n1
    refine c.nx _ _ _ I1 k ⟨fun b o eb => ?_, n2.i, fun b o eb => ?_, n2.f⟩ (r1.write e h1 (h5'.app rw))
    · rw [upd_ne (ne_of_none eb h2)]
      exact n2.h b o eb
    · rw [upd_ne (ne_of_none eb h3')]
      exact n2.s b o eb
end
theorem getD_of {l : List Int} {i : Nat} {k : Int} (h : l[i]? = some k) : l.getD i 0 = k := by
  rw [List.getD_eq_getElem?_getD, h]
  rfl
theorem kept_filter (ps : List Int) (p : Int → Bool) : kept ps.length (fun i => p (ps.getD i 0)) (fun i => .int (ps.getD i 0)) = (ps.filter p).map PyData.int := by
  unfold kept
  have e : (List.range ps.length).map (fun k => ps.getD k 0) = ps := map_getD rfl
  have e2 : ps.filter p = ((List.range ps.length).filter fun i => p (ps.getD i 0)).map fun k => ps.getD k 0 := by
    conv => lhs; rw [← e]
    rw [List.filter_map]
    rfl
  rw [e2, List.map_map]
  rfl
/-! ### sinks and traps -/
def sd (m : List Int × List Int) (g : Bool) : List Int := if g then m.2 else m.1
def tch (t ps : List Int) : Bool := ps.any fun p => decide (0 < t.getD p.toNat 0)
def badF (ms : List (List Int × List Int)) (g : Bool) (ps : List Int) : List Int := ms.flatMap fun m => if tch (sd m (!g)) ps then [] else ps.filter fun p => decide (0 < (sd m g).getD p.toNat 0)
def staysB (ms : List (List Int × List Int)) (g : Bool) (ps : List Int) : Bool := ms.all fun m => !(tch (sd m g) ps && !tch (sd m (!g)) ps)
def greatG (ms : List (List Int × List Int)) (g : Bool) : Nat → List Int → List Int
  | 0, l => l
  | k + 1, l => if badF ms g l = [] then l else greatG ms g k (l.filter fun p => !decide (p ∈ badF ms g l))
def gS (ms : List (List Int × List Int)) (g : Bool) (ps : List Int) : List Int := greatG ms g (sortU ps).length (sortU ps)
theorem great_done {ms : List (List Int × List Int)} {g : Bool} {k : Nat} {l : List Int} (h : badF ms g l = []) : greatG ms g k l = l := by
  cases k with
  | zero => rfl
  | succ k => exact if_pos h
theorem bad_sub {ms : List (List Int × List Int)} {g : Bool} {l : List Int} {p : Int} (h : p ∈ badF ms g l) : p ∈ l := by
  unfold badF at h
  obtain ⟨m, _, hp⟩ := List.mem_flatMap.mp h
  split at hp
  · cases hp
  · exact (List.mem_filter.mp hp).1
theorem less_len {ms : List (List Int × List Int)} {g : Bool} {l : List Int} (h : badF ms g l ≠ []) : (l.filter fun p => !decide (p ∈ badF ms g l)).length < l.length := by
  obtain ⟨b, hb⟩ := List.exists_mem_of_ne_nil _ h
  exact List.length_filter_lt_length_iff_exists.mpr ⟨b, bad_sub hb, by simp [hb]⟩
theorem great_sub {ms : List (List Int × List Int)} {g : Bool} : ∀ {k : Nat} {l : List Int}, (greatG ms g k l).Sublist l
  | 0, l => List.Sublist.refl _
  | k + 1, l => by
    unfold greatG
    split
    · exact List.Sublist.refl _
    · exact great_sub.trans List.filter_sublist
theorem tch_iff {t ps : List Int} : tch t ps = true ↔ ∃ p ∈ ps, 0 < t.getD p.toNat 0 := by
  unfold tch
  rw [List.any_eq_true]
  constructor
  · rintro ⟨p, h1, h2⟩
    exact ⟨p, h1, of_decide_eq_true h2⟩
  · rintro ⟨p, h1, h2⟩
    exact ⟨p, h1, decide_eq_true h2⟩
theorem stays_iff {ms : List (List Int × List Int)} {g : Bool} {ps : List Int} : staysB ms g ps = true ↔ ∀ m ∈ ms, tch (sd m g) ps = true → tch (sd m (!g)) ps = true := by
  unfold staysB
  rw [List.all_eq_true]
  constructor
  · intro h m hm ht
    have := h m hm
    rw [ht] at this
    cases e : tch (sd m (!g)) ps with
    | true => rfl
    | false => rw [e] at this; cases this
  · intro h m hm
    cases e : tch (sd m g) ps with
    | false => rfl
    | true => rw [h m hm e]; rfl
theorem stays_of {ms : List (List Int × List Int)} {g : Bool} {l : List Int} (h : badF ms g l = []) : staysB ms g l = true := stays_iff.mpr fun m hm ht => by
  cases e : tch (sd m (!g)) l with
  | true => rfl
  | false =>
    obtain ⟨p, hp, h0⟩ := tch_iff.mp ht
    have : p ∈ badF ms g l := by
      unfold badF
      refine List.mem_flatMap.mpr ⟨m, hm, ?_⟩
      rw [e, if_neg Bool.false_ne_true]
      exact List.mem_filter.mpr ⟨hp, decide_eq_true h0⟩
    rw [h] at this
    cases this
theorem great_stays {ms : List (List Int × List Int)} {g : Bool} : ∀ {k : Nat} {l : List Int}, l.length ≤ k → staysB ms g (greatG ms g k l) = true
  | 0, l, h => by
    have e : l = [] := List.eq_nil_of_length_eq_zero (by omega)
    subst e
    refine stays_of (?_ : badF ms g [] = [])
    unfold badF
    rw [List.flatMap_eq_nil_iff]
    intro m _
    split <;> rfl
  | k + 1, l, h => by
    unfold greatG
    by_cases hb : badF ms g l = []
    · rw [if_pos hb]
      exact stays_of hb
    · rw [if_neg hb]
      exact great_stays (by have := less_len hb; omega)
theorem great_max {ms : List (List Int × List Int)} {g : Bool} {S : List Int} (hS : staysB ms g S = true) : ∀ {k : Nat} {l : List Int}, (∀ p ∈ S, p ∈ l) → ∀ p ∈ S, p ∈ greatG ms g k l
  | 0, l, h => h
  | k + 1, l, h => by
    unfold greatG
    split
    · exact h
    · refine great_max hS fun p hp => List.mem_filter.mpr ⟨h p hp, ?_⟩
      cases e : decide (p ∈ badF ms g l) with
      | false => rfl
      | true =>
        exfalso
        have hb := of_decide_eq_true e
        unfold badF at hb
        obtain ⟨m, hm, hq⟩ := List.mem_flatMap.mp hb
        split at hq
        · cases hq
        · rename_i ht
          have h0 := of_decide_eq_true (List.mem_filter.mp hq).2
          obtain ⟨q, q1, q2⟩ := tch_iff.mp (stays_iff.mp hS m hm (tch_iff.mpr ⟨p, hp, h0⟩))
          exact ht (tch_iff.mpr ⟨q, h q q1, q2⟩)
theorem gS_rise {ms : List (List Int × List Int)} {g : Bool} {ps : List Int} : (gS ms g ps).Pairwise (· < ·) := pw_sortU.sublist great_sub
theorem gS_mem {ms : List (List Int × List Int)} {g : Bool} {ps : List Int} {p : Int} (h : p ∈ gS ms g ps) : p ∈ ps := mem_sortU.mp (great_sub.subset h)
theorem gS_stays {ms : List (List Int × List Int)} {g : Bool} {ps : List Int} : staysB ms g (gS ms g ps) = true := great_stays (Nat.le_refl _)
theorem gS_max {ms : List (List Int × List Int)} {g : Bool} {ps S : List Int} (hS : staysB ms g S = true) (h : ∀ p ∈ S, p ∈ ps) : ∀ p ∈ S, p ∈ gS ms g ps := great_max hS fun p hp => mem_sortU.mpr (h p hp)
/-- a rising row stays when it is the greatest of itself -/
theorem gS_iff {ms : List (List Int × List Int)} {g : Bool} {ps row : List Int} (hr : row.Pairwise (· < ·)) (hm : ∀ k, k ∈ ps ↔ k ∈ row) : decide (gS ms g ps = sortU ps) = staysB ms g row := by
  have e : sortU ps = row := rise_eq pw_sortU hr fun k => by rw [mem_sortU, hm]
  rw [e]
  cases h : staysB ms g row with
  | true =>
    refine decide_eq_true (rise_eq gS_rise hr fun k => ⟨fun hk => (hm k).mp (gS_mem hk), fun hk => gS_max h (fun p hp => (hm p).mpr hp) k hk⟩)
  | false =>
    refine decide_eq_false fun e2 => ?_
    have := gS_stays (ms := ms) (g := g) (ps := ps)
    rw [e2, h] at this
    cases this
def setsF : Nat → List (List Int)
  | 0 => [[]]
  | n + 1 => setsF n ++ (setsF n).map fun r => r ++ [(n : Int)]
theorem sets_in : ∀ {n : Nat} {r : List Int}, r ∈ setsF n → r.Pairwise (· < ·) ∧ ∀ k ∈ r, 0 ≤ k ∧ k < n
  | 0, r, h => by
    have e : r = [] := List.mem_singleton.mp h
    subst e
    exact ⟨List.Pairwise.nil, fun k hk => by cases hk⟩
  | n + 1, r, h => by
    rcases List.mem_append.mp h with h | h
    · obtain ⟨a, b⟩ := sets_in h
      exact ⟨a, fun k hk => by have := b k hk; omega⟩
    · obtain ⟨q, hq, rfl⟩ := List.mem_map.mp h
      obtain ⟨a, b⟩ := sets_in hq
      refine ⟨List.pairwise_append.mpr ⟨a, List.pairwise_singleton .., fun x hx y hy => ?_⟩, fun k hk => ?_⟩
      · rw [List.mem_singleton.mp hy]
        exact (b x hx).2
      · rcases List.mem_append.mp hk with hk | hk
        · have := b k hk
          omega
        · rw [List.mem_singleton.mp hk]
          omega
theorem sets_all : ∀ {n : Nat} {r : List Int}, r.Pairwise (· < ·) → (∀ k ∈ r, 0 ≤ k ∧ k < n) → r ∈ setsF n
  | 0, r, _, h => by
    have e : r = [] := by
      cases r with
      | nil => rfl
      | cons a r =>
        have := h a List.mem_cons_self
        omega
    rw [e]
    exact List.mem_singleton.mpr rfl
  | n + 1, r, hr, h => by
    have hf : r.filter (fun (k : Int) => decide (k < (n : Int))) ∈ setsF n := sets_all (hr.filter _) fun k hk => by
      obtain ⟨h1, h2⟩ := List.mem_filter.mp hk
      exact ⟨(h k h1).1, of_decide_eq_true h2⟩
    by_cases hn : (n : Int) ∈ r
    · refine List.mem_append.mpr (.inr (List.mem_map.mpr ⟨_, hf, ?_⟩))
      refine rise_eq (List.pairwise_append.mpr ⟨hr.filter _, List.pairwise_singleton .., fun x hx y hy => ?_⟩) hr fun k => ?_
      · rw [List.mem_singleton.mp hy]
        exact of_decide_eq_true (List.mem_filter.mp hx).2
      · rw [List.mem_append, List.mem_filter, List.mem_singleton]
        constructor
        · rintro (⟨a, _⟩ | rfl)
          · exact a
          · exact hn
        · intro hk
          have := h k hk
          by_cases e : k = n
          · exact .inr e
          · exact .inl ⟨hk, decide_eq_true (by omega)⟩
    · refine List.mem_append.mpr (.inl ?_)
      have e : r.filter (fun (k : Int) => decide (k < (n : Int))) = r := List.filter_eq_self.mpr fun k hk => decide_eq_true (by
        have := h k hk
        have : k ≠ n := fun e => hn (e ▸ hk)
        omega)
      rw [e] at hf
      exact hf
def insideB (row ps : List Int) : Bool := decide (row.filter (fun p => !decide (p ∈ ps)) = [])
theorem inside_iff {row ps : List Int} : insideB row ps = true ↔ ∀ p ∈ row, p ∈ ps := by
  unfold insideB
  rw [decide_eq_true_eq, List.filter_eq_nil_iff]
  constructor
  · intro h p hp
    have := h p hp
    simpa using this
  · intro h p hp
    simp [h p hp]
def unionF (ms : List (List Int × List Int)) (g : Bool) (rows : List (List Int)) (ps : List Int) : List Int := (rows.filter fun row => insideB row ps && staysB ms g row).flatten
def lawG (ms : List (List Int × List Int)) (g : Bool) (n : Nat) (ps : List Int) : List Int := sortU (unionF ms g (setsF n) ps)
theorem great_law {ms : List (List Int × List Int)} {g : Bool} {n : Nat} {ps qs : List Int} (h : ∀ k, k ∈ ps ↔ k ∈ qs) (hn : ∀ k ∈ qs, 0 ≤ k ∧ k < n) : gS ms g ps = lawG ms g n qs := by
  refine rise_eq gS_rise pw_sortU fun k => ?_
  rw [lawG, mem_sortU]
  unfold unionF
  rw [List.mem_flatten]
  constructor
  · intro hk
    refine ⟨gS ms g ps, List.mem_filter.mpr ⟨sets_all gS_rise fun p hp => hn p ((h p).mp (gS_mem hp)), ?_⟩, hk⟩
    rw [gS_stays, Bool.and_true]
    exact inside_iff.mpr fun p hp => (h p).mp (gS_mem hp)
  · rintro ⟨row, hr, hk⟩
    obtain ⟨_, hc⟩ := List.mem_filter.mp hr
    rw [Bool.and_eq_true] at hc
    exact gS_max hc.2 (fun p hp => (h p).mpr (inside_iff.mp hc.1 p hp)) k hk
theorem flat_len (p : List Int → Bool) : ∀ rows : List (List Int), (rows.filter p).flatten.length ≤ rows.flatten.length
  | [] => Nat.le_refl _
  | r :: rows => by
    have ih := flat_len p rows
    rw [List.filter_cons, List.flatten_cons, List.length_append]
    split
    · rw [List.flatten_cons, List.length_append]
      omega
    · omega
theorem union_len {ms : List (List Int × List Int)} {g : Bool} {rows : List (List Int)} {ps : List Int} : (unionF ms g rows ps).length ≤ rows.flatten.length := flat_len _ rows
theorem sets_len {n : Nat} (h : n ≤ 4) : (setsF n).flatten.length ≤ 32 ∧ (setsF n).length ≤ 16 := by
  match n, h with
  | 0, _ => decide
  | 1, _ => decide
  | 2, _ => decide
  | 3, _ => decide
  | 4, _ => decide
end Tw

/-! Tw13: texts: digits, join, split, index. -/
namespace Tw
open PySem PySem.Spec PyProof.Rows L2 PyProof
abbrev mk (l : List Nat) : Str := ⟨l.toArray⟩
theorem tl_mk (l : List Nat) : TL.tl (mk l) = l := rfl
theorem mk_inj {a b : Str} (h : TL.tl a = TL.tl b) : a = b := TL.ext_tl h
theorem app_mk (a b : List Nat) : mk a ++ mk b = mk (a ++ b) := mk_inj (by rw [TL.tl_append])
def dgL (d : Int) : List Nat := [48 + d.toNat]
def rStrI : List V → Hp → VK → Prop := fun xs H Q => ∃ i, xs = [.int i] ∧ i.natAbs.log2 < 1920 ∧ Q (.str (toString i)) H
theorem callStrI {X : Cx} : CallR X (.type "str") rStrI := call_str_int
def rIntS : List V → Hp → VK → Prop := fun xs H Q => ∃ a n, xs = [.str a] ∧ PySem.intText? a = some n ∧ a.length ≤ 640 ∧ Q (.int n) H
theorem callIntS {X : Cx} : CallR X (.type "int") rIntS := call_int_str
def rNotSub : R2 := fun x y H Q => ∃ i j, x = .str i ∧ y = .str j ∧ Q (.bl (!(!(Builtin.Str.occurrences j i 0 j.length 1).isEmpty))) H
theorem opNotSub {X : Cx} : OpR X (compareOp .NotIn) rNotSub := op_notin_str
def rSplitA : V → List V → Hp → VK → Prop := fun x xs H Q => ∃ a b, x = .str a ∧ xs = [.str b] ∧ (b.length == 0) = false ∧ a.length + 2 ≤ sizeLine ∧ rNewStrs (Txt.split a b) H Q
theorem mtSplit {X : Cx} : MtR X "str.split" rSplitA := mt_split
def rJoinA (K : PySem.W.Frag) : V → List V → Hp → VK → Prop := fun x xs H Q => ∃ a p, ∃ ys : List Str, x = .str a ∧ xs = [.ref p] ∧ (SqL K H p (ys.map V.str) ∨ SqT K H p (ys.map V.str)) ∧
    (ys.map (·.length)).sum + ys.length * a.length ≤ 16777216 ∧ Q (.str (Txt.join a ys)) H
theorem mtJoin {X : Cx} : MtR X "str.join" (rJoinA X.K) := mt_join
theorem ten {i : Int} (h0 : 0 ≤ i) (h9 : i ≤ 9) : i = 0 ∨ i = 1 ∨ i = 2 ∨ i = 3 ∨ i = 4 ∨ i = 5 ∨ i = 6 ∨ i = 7 ∨ i = 8 ∨ i = 9 := by omega
theorem str_dg {i : Int} (h0 : 0 ≤ i) (h9 : i ≤ 9) : V.str (toString i) = V.str (mk (dgL i)) := by
  rcases ten h0 h9 with rfl | rfl | rfl | rfl | rfl | rfl | rfl | rfl | rfl | rfl <;> rfl
theorem int_dg {i : Int} (h0 : 0 ≤ i) (h9 : i ≤ 9) : PySem.intText? (mk (dgL i)) = some i := by
  rcases ten h0 h9 with rfl | rfl | rfl | rfl | rfl | rfl | rfl | rfl | rfl | rfl <;> decide +kernel
theorem sub_dg {i : Int} (h0 : 0 ≤ i) (h9 : i ≤ 9) : (Builtin.Str.occurrences (PySem.Str.ofString "0123456789") (mk (dgL i)) 0 (PySem.Str.ofString "0123456789").length 1).isEmpty = false := by
  rcases ten h0 h9 with rfl | rfl | rfl | rfl | rfl | rfl | rfl | rfl | rfl | rfl <;> decide +kernel
section
variable {K : PySem.W.Frag} {δ : List Sl} {ta to te : TE} {ys : List Str} {y z b : Str} {i : Int} {j c : Nat}
theorem rall_strs {I : Hp} : ∀ {ns : List Str} {vs : List V}, RpAll K I vs (ns.map PyData.str) → vs = ns.map V.str
  | [], _, h => by cases h; rfl
  | n :: ns, _, h => by
    cases h with
    | cons a t =>
      cases a
      rw [rall_strs t]
      rfl
theorem strs_rall {I : Hp} : ∀ ns : List Str, RpAll K I (ns.map V.str) (ns.map PyData.str)
  | [] => .nil
  | n :: ns => .cons (.str n) (strs_rall ns)
theorem rc_strI (h0 : 0 ≤ i) (h9 : i ≤ 9) : RAD K rStrI [.int i] (.str (mk (dgL i))) := fun H I vs s r Q q => by
  cases r with
  | cons rx rr =>
    cases rr
    cases rx
    refine ⟨i, rfl, ?_, ?_⟩
    · rcases ten h0 h9 with rfl | rfl | rfl | rfl | rfl | rfl | rfl | rfl | rfl | rfl <;> decide +kernel
    · rw [str_dg h0 h9]
      exact q _ H I (Nx.refl s) (.str _)
theorem rc_intS (h0 : 0 ≤ i) (h9 : i ≤ 9) : RAD K rIntS [.str (mk (dgL i))] (.int i) := fun H I vs s r Q q => by
  cases r with
  | cons rx rr =>
    cases rr
    cases rx
    exact ⟨_, i, rfl, int_dg h0 h9, by show 1 ≤ 640; decide, q _ H I (Nx.refl s) (.int _)⟩
theorem rd_notSub (h0 : 0 ≤ i) (h9 : i ≤ 9) : R2D K rNotSub (.str (mk (dgL i))) (.str (PySem.Str.ofString "0123456789")) (.bool false) := fun H I v u s r1 r2 Q q => by
  cases r1; cases r2
  refine ⟨_, _, rfl, rfl, ?_⟩
  rw [sub_dg h0 h9]
  exact q _ H I (Nx.refl s) (.bl _)
theorem rd_ixS (hz : z.length ≤ sizeLine) (h : atI z.cps.toList i = some c) : R2D K (rIx K) (.str z) (.int i) (.str (mk [c])) := fun H I v u s r1 r2 Q q => by
  cases r1; cases r2
  exact .inr (.inr ⟨z, i, c, rfl, rfl, hz, h, q _ H I (Nx.refl s) (.str _)⟩)
theorem rd_dig (h0 : 0 ≤ i) (h9 : i ≤ 9) : R2D K (rIx K) (.str (PySem.Str.ofString "0123456789")) (.int i) (.str (mk (dgL i))) := rd_ixS (by decide) (by
  rcases ten h0 h9 with rfl | rfl | rfl | rfl | rfl | rfl | rfl | rfl | rfl | rfl <;> decide +kernel)
theorem en_split (h : Ev K to δ (.str z)) (hb : Ev K ta δ (.str b)) (h0 : (b.length == 0) = false) (hz : z.length + 2 ≤ sizeLine) : EvN K (tBM K "str" rSplitA to (tCons ta tNil)) δ ((Txt.split z b).map .str) := fun G σ H I s g r Q q =>
  h G σ H I s g r _ fun v H1 I1 n1 rv => by
    cases rv
    refine ⟨rfl, ?_⟩
    refine (ea_cons hb ea_nil) G σ H1 I1 n1.s (n1.g g) (r.next n1) _ fun vs H2 I2 n2 r2 => ?_
    cases r2 with
    | cons rx rr =>
      cases rr
      cases rx
      exact ⟨z, b, rfl, rfl, h0, hz, fun p hp => q p H2 I2 _ (n1.trans n2) hp (strs_rall _)⟩
theorem ev_join (h : Ev K to δ (.str z)) (hx : Ev K ta δ (.list (ys.map .str))) (hz : (ys.map (·.length)).sum + ys.length * z.length ≤ 16777216) : Ev K (tBM K "str" (rJoinA K) to (tCons ta tNil)) δ (.str (Txt.join z ys)) := fun G σ H I s g r Q q =>
  h G σ H I s g r _ fun v H1 I1 n1 rv => by
    cases rv
    refine ⟨rfl, ?_⟩
    refine (ea_cons hx ea_nil) G σ H1 I1 n1.s (n1.g g) (r.next n1) _ fun vs H2 I2 n2 r2 => ?_
    cases r2 with
    | cons rx rr =>
      cases rr
      cases rx with
      | lst h1 a1 =>
        have e := rall_strs a1
        subst e
        exact ⟨z, _, ys, rfl, rfl, .inl (.of (n2.s _ _ h1)), hz, q _ H2 I2 (n1.trans n2) (.str _)⟩
theorem flat_strs (ns : List Str) : (ns.map V.str).all flatV = true := by
  rw [List.all_map, List.all_eq_true]
  intro x _
  rfl
theorem ev_index (h : Ev K to δ (.list (ys.map .str))) (hy : Ev K ta δ (.str y)) (hj : ys[j]? = some y) (hno : ∀ m, m < j → ∀ w, ys[m]? = some w → w ≠ y) : Ev K (tBM K "list" (rIndex K) to (tCons ta tNil)) δ (.int j) := fun G σ H I s g r Q q =>
  h G σ H I s g r _ fun v H1 I1 n1 rv => by
    cases rv with
    | lst h1 a1 =>
      have e := rall_strs a1
      subst e
      refine ⟨.inl ⟨rfl, _, .of (n1.s _ _ h1)⟩, ?_⟩
      refine (ea_cons hy ea_nil) G σ H1 I1 n1.s (n1.g g) (r.next n1) _ fun vs H2 I2 n2 r2 => ?_
      cases r2 with
      | cons rx rr =>
        cases rr
        cases rx
        refine ⟨_, ys.map V.str, .str y, j, .str y, rfl, rfl, .of ((n1.trans n2).s _ _ (n2.i _ _ h1)), rfl, flat_strs ys, by rw [List.getElem?_map, hj]; rfl, beq_self_eq_true y, fun m z' hm hz => ?_, q _ H2 I2 (n1.trans n2) (.int _)⟩
        rw [List.getElem?_map] at hz
        cases e : ys[m]? with
        | none => rw [e] at hz; cases hz
        | some w =>
          rw [e] at hz
          cases hz
          exact beq_eq_false_iff_ne.mpr (hno m hm w e)
theorem rd_notInS (hy : y ∈ ys) : R2D K (rIn K true) (.str y) (.list (ys.map .str)) (.bool false) := fun H I v u s r1 r2 Q q => by
  cases r1
  cases r2 with
  | lst h a =>
    have e := rall_strs a
    subst e
    refine ⟨_, _, rfl, .inl (.of (s _ _ h)), rfl, flat_strs ys, ?_⟩
    have ei : inV (.str y) (ys.map V.str) = true := by
      show ((ys.map V.str).any fun w => eqV w (.str y)) = true
      rw [List.any_map, List.any_eq_true]
      exact ⟨y, hy, beq_self_eq_true y⟩
    rw [ei]
    exact q _ H I (Nx.refl s) (.bl _)
end
/-! ### joined, cut -/
/-- [32, 59, 32] stands nowhere in p, nor across its end -/
theorem run_piece {p rest : List Nat} (hp : 59 ∉ p) (hr : rest = [] ∨ ∃ t, rest = 32 :: t) {k : Nat} (hk : k < p.length) : TL.pre [32, 59, 32] ((p ++ rest).drop k) = false := by
  cases h : TL.pre [32, 59, 32] ((p ++ rest).drop k) with
  | false => rfl
  | true =>
    exfalso
    have e : ((p ++ rest).drop k).take 3 = [32, 59, 32] := eq_of_beq h
    have e1 : (((p ++ rest).drop k).take 3)[1]? = some 59 := by rw [e]; rfl
    rw [List.getElem?_take_of_lt (by decide), List.getElem?_drop] at e1
    by_cases h1 : k + 1 < p.length
    · rw [List.getElem?_append_left h1] at e1
      exact hp (List.mem_of_getElem? e1)
    · have hk1 : k + 1 = p.length := by omega
      rw [List.getElem?_append_right (by omega), hk1, Nat.sub_self] at e1
      rcases hr with rfl | ⟨t, rfl⟩
      · cases e1
      · cases e1
theorem spl_semi : ∀ {ps : List (List Nat)}, ps ≠ [] → (∀ p ∈ ps, 59 ∉ p) → TL.spl [32, 59, 32] 0 [] (TL.joinL [32, 59, 32] ps) = ps
  | [p], _, hp => by
    have h := TL.spl_run [32, 59, 32] (p ++ []) p.length 0 [] (by rw [List.append_nil]; omega) (fun k _ hk => run_piece (hp p List.mem_cons_self) (.inl rfl) (by omega))
    rw [List.drop_zero, List.nil_append, Nat.zero_add, List.append_nil, List.drop_length, List.take_length, TL.spl_nil] at h
    exact h
  | p :: q :: r, _, hp => by
    show TL.spl [32, 59, 32] 0 [] (p ++ ([32, 59, 32] ++ TL.joinL [32, 59, 32] (q :: r))) = p :: q :: r
    have ih := spl_semi (ps := q :: r) (by simp) fun x hx => hp x (List.mem_cons_of_mem _ hx)
    generalize TL.joinL [32, 59, 32] (q :: r) = rest at ih ⊢
    have h := TL.spl_run [32, 59, 32] (p ++ ([32, 59, 32] ++ rest)) p.length 0 [] (by rw [List.length_append]; omega) (fun k _ hk => run_piece (hp p List.mem_cons_self) (.inr ⟨_, rfl⟩) (by omega))
    rw [List.drop_zero, List.nil_append, Nat.zero_add, List.take_left, List.drop_left] at h
    rw [h]
    have h2 := TL.spl_at (S := [32, 59, 32]) (L := [32, 59, 32] ++ rest) (by simp) (c := 0) (acc := p) (by rw [List.drop_zero]; rfl)
    rw [List.drop_zero] at h2
    rw [h2]
    show p :: TL.spl [32, 59, 32] 0 [] rest = _
    rw [ih]
theorem join_mk (a : List Nat) (ys : List (List Nat)) : Txt.join (mk a) (ys.map mk) = mk (TL.joinL a ys) := mk_inj (by
  rw [TL.join_eq, TL.tl_join, List.map_map]
  congr 1
  exact List.map_id' ys)
theorem join_front (s : List Nat) : ∀ {ps : List (List Nat)}, ps ≠ [] → s ++ TL.joinL s ps = ps.flatMap fun p => s ++ p
  | [p], _ => by simp [TL.joinL]
  | p :: q :: r, _ => by
    have ih := join_front s (ps := q :: r) (by simp)
    show s ++ (p ++ (s ++ TL.joinL s (q :: r))) = (s ++ p) ++ (q :: r).flatMap _
    rw [ih, List.append_assoc]
theorem join_app (s : List Nat) {a b : List (List Nat)} (ha : a ≠ []) (hb : b ≠ []) : TL.joinL s (a ++ b) = TL.joinL s a ++ (s ++ TL.joinL s b) := by
  match a, ha with
  | [p], _ =>
    match b, hb with
    | q :: r, _ => rfl
  | p :: p2 :: r, _ =>
    have ih := join_app s (a := p2 :: r) (b := b) (by simp) hb
    show p ++ (s ++ TL.joinL s ((p2 :: r) ++ b)) = (p ++ (s ++ TL.joinL s (p2 :: r))) ++ (s ++ TL.joinL s b)
    rw [ih]
    simp only [List.append_assoc]
termination_by a.length
/-- a net as it is shown -/
def rowT (r : List Int) : List Nat := TL.joinL [32] (r.map dgL)
def wordsT (m : List Int × List Int) : List (List Nat) := m.1.map dgL ++ ([62] :: m.2.map dgL)
def moveT (m : List Int × List Int) : List Nat := rowT m.1 ++ ([32, 62, 32] ++ rowT m.2)
def piecesT (n : Int) (ms : List (List Int × List Int)) : List (List Nat) := dgL n :: ms.map moveT
def netT (n : Int) (ms : List (List Int × List Int)) : List Nat := TL.joinL [32, 59, 32] (piecesT n ms)
theorem move_words {m : List Int × List Int} (h1 : m.1 ≠ []) (h2 : m.2 ≠ []) : moveT m = TL.joinL [32] (wordsT m) := by
  unfold wordsT
  rw [join_app [32] (by simpa using h1) (by simp)]
  obtain ⟨x, r, e⟩ := List.exists_cons_of_ne_nil h2
  unfold moveT rowT
  rw [e]
  rfl
theorem split_move {m : List Int × List Int} (h1 : m.1 ≠ []) (h2 : m.2 ≠ []) (d1 : ∀ x ∈ m.1, 0 ≤ x ∧ x ≤ 9) (d2 : ∀ x ∈ m.2, 0 ≤ x ∧ x ≤ 9) : Txt.split (mk (moveT m)) (mk [32]) = (wordsT m).map mk := by
  rw [move_words h1 h2, ← join_mk]
  have dig : ∀ x : Int, 32 ∉ dgL x := fun x h => by
    have := List.mem_singleton.mp h
    omega
  refine TL.split_join (y := mk [32]) (s := 32) (S := []) rfl (by decide +kernel) (by unfold wordsT; simp) fun p hp => ?_
  obtain ⟨w, hw, rfl⟩ := List.mem_map.mp hp
  rw [tl_mk]
  unfold wordsT at hw
  rcases List.mem_append.mp hw with hw | hw
  · obtain ⟨x, _, rfl⟩ := List.mem_map.mp hw
    exact dig x
  · rcases List.mem_cons.mp hw with rfl | hw
    · decide
    · obtain ⟨x, _, rfl⟩ := List.mem_map.mp hw
      exact dig x
theorem no59_join {s : List Nat} (hs : 59 ∉ s) : ∀ {ps : List (List Nat)}, (∀ p ∈ ps, 59 ∉ p) → 59 ∉ TL.joinL s ps
  | [], _ => by simp [TL.joinL]
  | [p], h => h p List.mem_cons_self
  | p :: q :: r, h => by
    show 59 ∉ p ++ (s ++ TL.joinL s (q :: r))
    intro hm
    rcases List.mem_append.mp hm with hm | hm
    · exact h p List.mem_cons_self hm
    · rcases List.mem_append.mp hm with hm | hm
      · exact hs hm
      · exact no59_join hs (fun x hx => h x (List.mem_cons_of_mem _ hx)) hm
theorem no59_dg {x : Int} (h : 0 ≤ x ∧ x ≤ 9) : 59 ∉ dgL x := fun hm => by
  have := List.mem_singleton.mp hm
  omega
theorem no59_row {r : List Int} (h : ∀ x ∈ r, 0 ≤ x ∧ x ≤ 9) : 59 ∉ rowT r := no59_join (by decide) fun p hp => by
  obtain ⟨x, hx, rfl⟩ := List.mem_map.mp hp
  exact no59_dg (h x hx)
theorem no59_move {m : List Int × List Int} (d1 : ∀ x ∈ m.1, 0 ≤ x ∧ x ≤ 9) (d2 : ∀ x ∈ m.2, 0 ≤ x ∧ x ≤ 9) : 59 ∉ moveT m := fun hm => by
  rcases List.mem_append.mp hm with hm | hm
  · exact no59_row d1 hm
  · rcases List.mem_append.mp hm with hm | hm
    · exact absurd hm (by decide)
    · exact no59_row d2 hm
theorem split_net {n : Nat} {w : Int} {ms : List (List Int × List Int)} (h : NetOk n w ms) (hw : w ≤ 9) : Txt.split (mk (netT n ms)) (mk [32, 59, 32]) = (piecesT n ms).map mk := by
  refine TL.map_tl_inj ?_
  rw [TL.split_spl _ (mk [32, 59, 32]) (by simp [tl_mk]) (TL.kind_ok (by decide +kernel)), List.map_map]
  have e : (piecesT n ms).map (TL.tl ∘ mk) = piecesT n ms := List.map_id' _
  rw [e]
  refine spl_semi (by unfold piecesT; simp) fun p hp => ?_
  unfold piecesT at hp
  rcases List.mem_cons.mp hp with rfl | hp
  · exact no59_dg (by have := h.top; omega)
  · obtain ⟨m, hm, rfl⟩ := List.mem_map.mp hp
    obtain ⟨r1, r2⟩ := h.rows m hm
    exact no59_move (fun x hx => by have := r1.2 x hx; omega) (fun x hx => by have := r2.2 x hx; omega)
end Tw

/-! Tw14: is True of plain values; count, index, in of truth values; a dict written out; which own error it was. -/
namespace Tw
open PySem PySem.Spec PyProof.Rows L2 PyProof
/-! ### x is True -/
def plainV : V → Bool
  | .int _ | .bl _ | .str _ | .non => true
  | _ => false
def isTrV : V → Bool
  | .bl b => b
  | _ => false
def rIsTr : R2 := fun x y H Q => y = .bl true ∧ plainV x = true ∧ Q (.bl (isTrV x)) H
theorem opIsTr {X : Cx} : OpR X (compareOp .Is) rIsTr := by
  intro pins s σ H x y v u Q I rx ry h
  obtain ⟨rfl, hp, q⟩ := h
  cases (show u = Value.bool true from ry)
  cases x with
  | int i =>
    obtain ⟨t, rfl⟩ := rx
    exact wpAny_is_other rfl (fun z => by cases z) ⟨.bl false, H, I, rfl, q⟩
  | bl b =>
    cases (show v = Value.bool b from rx)
    cases b with
    | true => exact wpAny_is_self rfl ⟨.bl true, H, I, rfl, q⟩
    | false => exact wpAny_is_other rfl (fun z => by cases z) ⟨.bl false, H, I, rfl, q⟩
  | str z =>
    obtain ⟨t, rfl⟩ := rx
    exact wpAny_is_other rfl (fun z => by cases z) ⟨.bl false, H, I, rfl, q⟩
  | non =>
    cases (show v = Value.none from rx)
    exact wpAny_is_other rfl (fun z => by cases z) ⟨.bl false, H, I, rfl, q⟩
  | _ => cases hp
def plainD : PyData → Bool
  | .int _ | .bool _ | .str _ | .none => true
  | _ => false
def isTrD : PyData → Bool
  | .bool b => b
  | _ => false
/-! ### lists of truth values -/
theorem bls_of : ∀ {bs : List Bool} {its : List Value}, Vals (bs.map V.bl) its → its = bs.map Value.bool
  | [], _, .nil => rfl
  | b :: bs, _, .cons r t => by
    cases (show _ = Value.bool b from r)
    rw [bls_of t]
    rfl
def isTrW : Value → Bool
  | .bool b => b
  | _ => false
theorem count_bls : ∀ bs : List Bool, (bs.map Value.bool).countP isTrW = bs.count true
  | [] => rfl
  | b :: bs => by
    rw [List.map_cons, List.countP_cons, List.count_cons, count_bls bs]
    cases b <;> rfl
def rCountB (K : PySem.W.Frag) : V → List V → Hp → VK → Prop := fun x xs H Q => ∃ (p : Addr) (bs : List Bool), x = .ref p ∧ xs = [.bl true] ∧ SqL K H p (bs.map V.bl) ∧ Q (.int (bs.count true : Nat)) H
theorem mtCountB {X : Cx} : MtR X "list.count" (rCountB X.K) := by
  intro pins s σ H x xs v us Q I rx rxs h
  obtain ⟨p, bs, rfl, rfl, hs, q⟩ := h
  cases rx
  obtain ⟨u, rfl, ru⟩ := rxs.one
  cases (show u = Value.bool true from ru)
  obtain ⟨its, rv, ⟨⟨cls, dd, data, sl⟩, n, ho, hc, hdn, hd⟩, hlen⟩ := I.list hs
  simp only at hc hd
  subst hc hd
  have hi := bls_of rv
  subst hi
  refine call_meets PySem.F.slot_list_count ⟨_, ho, rfl⟩ PySem.F.entry_list_count (PySem.F.args_list_count_2 _ _)
    (SeqAt.list_countAt p (bs.map Value.bool).toArray n dd sl (.bool true) isTrW) ⟨ho, fun y hy => ?_, ?_⟩
  · obtain ⟨b, _, rfl⟩ := List.mem_map.mp (by simpa using hy : y ∈ bs.map Value.bool)
    have := eqAt_V (A := X.A.in1) (s := s) (y := .bl b) (x := .bl true) (u := .bool b) (v := .bool true) rfl rfl rfl rfl
    have e : eqV (.bl b) (.bl true) = isTrW (.bool b) := by cases b <;> rfl
    rw [e] at this
    first | exact this | exact this.in1 | simpa using this
  · refine ⟨.int (bs.count true : Nat), H, I.tok _, ⟨s.toks, ?_⟩, q⟩
    show Value.int (((bs.map Value.bool).toArray.toList.countP isTrW : Nat) : Int) s.toks = _
    rw [show (bs.map Value.bool).toArray.toList = bs.map Value.bool from rfl, count_bls]
section
variable {K : PySem.W.Frag} {E : XK} {δ : List Sl} {ta tb to te : TE} {bs : List Bool} {x y z : PyData} {xs : List PyData} {j : Nat} {i : Int} {ns : List Int}
theorem rd_isTr (h : plainD x = true) : R2D K rIsTr x (.bool true) (.bool (isTrD x)) := fun H I v u s r1 r2 Q q => by
  cases r2
  cases x with
  | int i => cases r1; exact ⟨rfl, rfl, q _ H I (Nx.refl s) (.bl _)⟩
  | bool b => cases r1; exact ⟨rfl, rfl, q _ H I (Nx.refl s) (.bl _)⟩
  | str b => cases r1; exact ⟨rfl, rfl, q _ H I (Nx.refl s) (.bl _)⟩
  | none => cases r1; exact ⟨rfl, rfl, q _ H I (Nx.refl s) (.bl _)⟩
  | _ => cases h
theorem flat_bls (bs : List Bool) : (bs.map V.bl).all flatV = true := by
  rw [List.all_map, List.all_eq_true]
  intro x _
  rfl
theorem rd_inB (h : true ∈ bs) : R2D K (rIn K false) (.bool true) (.list (bs.map .bool)) (.bool true) := fun H I v u s r1 r2 Q q => by
  cases r1
  cases r2 with
  | lst h1 a =>
    have e := rall_bls a
    subst e
    refine ⟨_, _, rfl, .inl (.of (s _ _ h1)), rfl, flat_bls bs, ?_⟩
    have ei : inV (.bl true) (bs.map V.bl) = true := by
      show ((bs.map V.bl).any fun w => eqV w (.bl true)) = true
      rw [List.any_map, List.any_eq_true]
      exact ⟨true, h, rfl⟩
    rw [ei]
    exact q _ H I (Nx.refl s) (.bl _)
theorem rd_inT : R2D K (rIn K false) (.int i) (.tuple (ns.map .int)) (.bool (decide (i ∈ ns))) := fun H I v u s r1 r2 Q q => by
  cases r1
  cases r2 with
  | tup h a =>
    have e := rall_ints a
    subst e
    exact ⟨_, _, rfl, .inr (.of (s _ _ h)), rfl, flat_ints ns, by rw [inV_ints]; exact q _ H I (Nx.refl s) (.bl _)⟩
theorem ev_countB (h : Ev K to δ (.list (bs.map .bool))) : Ev K (tBM K "list" (rCountB K) to (tCons (tC (.bl true)) tNil)) δ (.int (bs.count true : Nat)) := fun G σ H I s g r Q q =>
  h G σ H I s g r _ fun v H1 I1 n1 rv => by
    cases rv with
    | lst h1 a1 =>
      have e := rall_bls a1
      subst e
      exact ⟨.inl ⟨rfl, _, .of (n1.s _ _ h1)⟩, _, bs, rfl, rfl, .of (n1.s _ _ h1), q _ H1 I1 n1 (.int _)⟩
theorem ev_indexB (h : Ev K to δ (.list (bs.map .bool))) (hj : bs[j]? = some true) (hno : ∀ m, m < j → bs[m]? = some false) : Ev K (tBM K "list" (rIndex K) to (tCons (tC (.bl true)) tNil)) δ (.int j) := fun G σ H I s g r Q q =>
  h G σ H I s g r _ fun v H1 I1 n1 rv => by
    cases rv with
    | lst h1 a1 =>
      have e := rall_bls a1
      subst e
      refine ⟨.inl ⟨rfl, _, .of (n1.s _ _ h1)⟩, _, bs.map V.bl, .bl true, j, .bl true, rfl, rfl, .of (n1.s _ _ h1), rfl, flat_bls bs, by rw [List.getElem?_map, hj]; rfl, rfl, fun m z' hm hz => ?_, q _ H1 I1 n1 (.int _)⟩
      rw [List.getElem?_map, hno m hm] at hz
      cases hz
      rfl
/-- {0: True}: some dict -/
theorem ev_dict1 : Ev K (tDisp [((tC (.int 0)), (tC (.bl true)))]) δ (.dict []) := fun G σ H I s g r Q q => by
  intro p hp
  refine ⟨upd_same, [(.inl 0, .bl true)], rfl, by show 1 ≤ 15; decide, ?_⟩
  rw [upd_upd]
  exact q _ _ _ (Nx.new s hp) (.dct upd_same)
/-- the left operand raises -/
theorem ex_opL {r : R2} {c : Value} (h : EvX K E ta δ c) : EvX K E (tOp r ta tb) δ c := fun G σ H I s g rl he Q => h G σ H I s g rl he _
end
/-! ### which own error it was -/
theorem kit_yes {K : PySem.W.Frag} {D X : Addr} (dX : PySem.W.hasDictIn K X = true) (tX : PySem.W.typeIn K (.ref X) = some (.type "type")) (s : PySem.W.subIn K (.ref D) (.ref X) = some true) : PySem.W.kitOne K (.ref D) (.ref X) = some true := by
  obtain ⟨cd, hc, _⟩ := PySem.W.any_some dX
  show (if ((Value.ref D == Value.ref X) = true) then some true else if ((PySem.W.clsIn K X).isSome && PySem.W.typeIn K (.ref X) == some (.type "type")) = true then PySem.W.subIn K (.ref D) (.ref X) else none) = some true
  rw [hc, tX, s]
  split
  · rfl
  · rw [if_pos (by rfl)]
theorem kit_no {K : PySem.W.Frag} {D X : Addr} (dX : PySem.W.hasDictIn K X = true) (tX : PySem.W.typeIn K (.ref X) = some (.type "type")) (s : PySem.W.subIn K (.ref D) (.ref X) = some false) (sD : PySem.W.subIn K (.ref D) (.ref D) = some true) : PySem.W.kitOne K (.ref D) (.ref X) = some false := by
  obtain ⟨cd, hc, _⟩ := PySem.W.any_some dX
  have hne : ¬ (Value.ref D == Value.ref X) = true := fun e => by
    have e2 : Value.ref D = Value.ref X := beq_iff_eq.mp e
    rw [← e2, sD] at s
    cases s
  show (if ((Value.ref D == Value.ref X) = true) then some true else if ((PySem.W.clsIn K X).isSome && PySem.W.typeIn K (.ref X) == some (.type "type")) = true then PySem.W.subIn K (.ref D) (.ref X) else none) = some false
  rw [if_neg hne, hc, tX, s, if_pos (by rfl)]
/-- what the kit says of the classes asked of: NoHoard, NoMove, NoPlace; NoNet, Endless, TooBig, NoText, Stuck -/
structure ClsF (K : PySem.W.Frag) (X : Addr) : Prop where
  d : PySem.W.hasDictIn K X = true
  t : PySem.W.typeIn K (.ref X) = some (.type "type")
structure KindF (K : PySem.W.Frag) (D T c0 c1 c2 c3 c4 c5 c6 c7 : Addr) (k : Nat) : Prop where
  C : ExcC K D
  top : PySem.W.exmOne K (.ref D) (.ref T) = some true
  ve : PySem.W.kitOne K (.ref D) (.type "ValueError") = some true
  k0 : PySem.W.kitOne K (.ref D) (.ref c0) = some (decide (k = 0))
  k1 : PySem.W.kitOne K (.ref D) (.ref c1) = some (decide (k = 1))
  k2 : PySem.W.kitOne K (.ref D) (.ref c2) = some (decide (k = 2))
  k3 : PySem.W.kitOne K (.ref D) (.ref c3) = some false
  k4 : PySem.W.kitOne K (.ref D) (.ref c4) = some false
  k5 : PySem.W.kitOne K (.ref D) (.ref c5) = some false
  k6 : PySem.W.kitOne K (.ref D) (.ref c6) = some false
  k7 : PySem.W.kitOne K (.ref D) (.ref c7) = some false
theorem kindF_of {K : PySem.W.Frag} {D T c0 c1 c2 c3 c4 c5 c6 c7 : Addr} {k : Nat} (C : ExcC K D) (tD : PySem.W.typeIn K (.ref D) = some (.type "type")) (sv : PySem.W.subIn K (.ref D) (.type "ValueError") = some true) (sD : PySem.W.subIn K (.ref D) (.ref D) = some true)
    (bT : PySem.W.subIn K (.ref T) (.type "BaseException") = some true) (dT : ClsF K T) (sT : PySem.W.subIn K (.ref D) (.ref T) = some true)
    (f0 : ClsF K c0) (f1 : ClsF K c1) (f2 : ClsF K c2) (f3 : ClsF K c3) (f4 : ClsF K c4) (f5 : ClsF K c5) (f6 : ClsF K c6) (f7 : ClsF K c7)
    (s0 : PySem.W.subIn K (.ref D) (.ref c0) = some (decide (k = 0))) (s1 : PySem.W.subIn K (.ref D) (.ref c1) = some (decide (k = 1))) (s2 : PySem.W.subIn K (.ref D) (.ref c2) = some (decide (k = 2)))
    (s3 : PySem.W.subIn K (.ref D) (.ref c3) = some false) (s4 : PySem.W.subIn K (.ref D) (.ref c4) = some false) (s5 : PySem.W.subIn K (.ref D) (.ref c5) = some false) (s6 : PySem.W.subIn K (.ref D) (.ref c6) = some false) (s7 : PySem.W.subIn K (.ref D) (.ref c7) = some false) :
    KindF K D T c0 c1 c2 c3 c4 c5 c6 c7 k := by
  have any : ∀ {X : Addr} {b : Bool}, ClsF K X → PySem.W.subIn K (.ref D) (.ref X) = some b → PySem.W.kitOne K (.ref D) (.ref X) = some b := fun {X b} f s => by
    cases b with
    | true => exact kit_yes f.d f.t s
    | false => exact kit_no f.d f.t s sD
  exact ⟨C, PySem.W.exm_ref bT dT.d dT.t sT, (errF_of C tD sv sD bT dT.d dT.t sT).ve, any f0 s0, any f1 s1, any f2 s2, any f3 s3, any f4 s4, any f5 s5, any f6 s6, any f7 s7⟩
section
variable {K : PySem.W.Frag} {E : XK} {xs : List PyData} {ta : TA} {F : List PyData → Out → Prop} {P : Out → Prop} {D T c0 c1 c2 c3 c4 c5 c6 c7 : Addr} {k : Nat} {d0 : PyData}
def suiteK (K : PySem.W.Frag) (c0 c1 c2 c3 c4 c5 c6 c7 : Addr) : Addr → Value → Option Addr → TS := fun a cls d => (tSeq (tAsg (tLst (tCons (tCB (rIsX K a cls d) (tCons (tVar 1) (tCons (tC (.ref c0)) tNil))) (tCons (tCB (rIsX K a cls d) (tCons (tVar 1) (tCons (tC (.ref c1)) tNil))) (tCons (tCB (rIsX K a cls d) (tCons (tVar 1) (tCons (tC (.ref c2)) tNil))) tNil)))) (gName 2))
    (tSeq (tAsg (tLst (tCons (tCB (rIsX K a cls d) (tCons (tVar 1) (tCons (tC (.ref c3)) tNil))) (tCons (tCB (rIsX K a cls d) (tCons (tVar 1) (tCons (tC (.ref c4)) tNil))) (tCons (tCB (rIsX K a cls d) (tCons (tVar 1) (tCons (tC (.ref c5)) tNil))) (tCons (tCB (rIsX K a cls d) (tCons (tVar 1) (tCons (tC (.ref c6)) tNil))) tNil))))) (gName 3))
    (tSeq (tDrop (tBM K "list" rAppend (tVar 3) (tCons (tCB (rIsX K a cls d) (tCons (tVar 1) (tCons (tC (.ref c7)) tNil))) tNil)))
    (tIfS (tAnd (tB (tCB (rIsX K a cls d) (tCons (tVar 1) (tCons (tC (.ty "ValueError")) tNil)))) (tAnd (tTest (tOp (rEqD K) (tBM K "list" (rCountB K) (tOp (rAddA K) (tVar 2) (tVar 3)) (tCons (tC (.bl true)) tNil)) (tC (.int 1)))) (tTest (tOp (rIn K false) (tC (.bl true)) (tVar 2))))) (tRet (tBM K "list" (rIndex K) (tVar 2) (tCons (tC (.bl true)) tNil))) tNext))))
theorem as_kind (ha : EvA K ta [.d d0, .no, .no, .no] xs) (hF : F xs (.ex (.ref D))) (hE : KindF K D T c0 c1 c2 c3 c4 c5 c6 c7 k) (hk : k < 3) (kP : P (.rt (.int (k : Nat)))) :
    As K E (tTryB K (.ref T) 1 (fun W => tDrop (tCallS (SpD K F) (WE W) ta)) (suiteK K c0 c1 c2 c3 c4 c5 c6 c7)) [.d d0, .no, .no, .no] P := fun G I0 σ H I D' n r cv =>
  ha G σ H I n.s n.h r _ fun vs H1 I1 n1 r1 => ⟨I1, xs, .ex (.ref D), n1.s, r1, hF, fun H2 e => ⟨true, hE.top, fun _ a _ => by
    have r2 := r.next (n1.trans (nx_same n1.s e))
    have n2 := (n.trans n1).trans (nx_same n1.s e)
    have hl : σ.length = 4 := r2.len
    have ty : ∀ {X : Addr}, ∀ u, RelV (.ref X) u → u = Value.ref X := fun u ru => ru
    have g1 : (σ.set 1 (some (V.ref a)))[1]? = some (some (.ref a)) := List.getElem?_set_self (by omega)
    refine ⟨_, g1, D, rfl, rfl, hE.C, .ref c0, .ref c0, _, rfl, ty, hE.k0, ?_⟩
    refine ⟨_, g1, D, rfl, rfl, hE.C, .ref c1, .ref c1, _, rfl, ty, hE.k1, ?_⟩
    refine ⟨_, g1, D, rfl, rfl, hE.C, .ref c2, .ref c2, _, rfl, ty, hE.k2, ?_⟩
    refine ⟨by show 3 ≤ sizeLine; decide, fun p hp => ?_⟩
    have g2 : ((σ.set 1 (some (V.ref a))).set 2 (some (V.ref p)))[1]? = some (some (.ref a)) := by rw [List.getElem?_set_ne (by decide)]; exact g1
    refine ⟨_, g2, D, rfl, rfl, hE.C, .ref c3, .ref c3, _, rfl, ty, hE.k3, ?_⟩
    refine ⟨_, g2, D, rfl, rfl, hE.C, .ref c4, .ref c4, _, rfl, ty, hE.k4, ?_⟩
    refine ⟨_, g2, D, rfl, rfl, hE.C, .ref c5, .ref c5, _, rfl, ty, hE.k5, ?_⟩
    refine ⟨_, g2, D, rfl, rfl, hE.C, .ref c6, .ref c6, _, rfl, ty, hE.k6, ?_⟩
    refine ⟨by show 4 ≤ sizeLine; decide, fun q hq => ?_⟩
    have g3 : (((σ.set 1 (some (V.ref a))).set 2 (some (V.ref p))).set 3 (some (V.ref q)))[1]? = some (some (.ref a)) := by rw [List.getElem?_set_ne (by decide)]; exact g2
    have g4 : (((σ.set 1 (some (V.ref a))).set 2 (some (V.ref p))).set 3 (some (V.ref q)))[3]? = some (some (.ref q)) := List.getElem?_set_self (by rw [List.length_set, List.length_set]; omega)
    refine ⟨.ref q, g4, .inl ⟨rfl, _, .inl (.inl upd_same)⟩, ?_⟩
    refine ⟨_, g3, D, rfl, rfl, hE.C, .ref c7, .ref c7, _, rfl, ty, hE.k7, ?_⟩
    refine ⟨q, _, .bl false, rfl, rfl, upd_same, by show 4 < sizeLine; decide, ?_⟩
    rw [upd_upd]
    have n3 : Nx H2 I1 (upd H2 p (.lst [.bl (decide (k = 0)), .bl (decide (k = 1)), .bl (decide (k = 2))])) (upd I1 p (.lst [.bl (decide (k = 0)), .bl (decide (k = 1)), .bl (decide (k = 2))])) := Nx.new n2.s hp
    have n4 := Nx.new (o := .lst ([.bl false, .bl false, .bl false, .bl false] ++ [.bl false])) n3.s hq
    have r3 := ((r2.next n3).none (i := 1) (o := some (V.ref a))).put (i := 2) (x := .list ([decide (k = 0), decide (k = 1), decide (k = 2)].map .bool)) (Rp.lst (K := K) upd_same (.cons (.bl _) (.cons (.bl _) (.cons (.bl _) .nil))))
    have r4 := (r3.next n4).put (i := 3) (x := .list ([false, false, false, false, false].map .bool)) (Rp.lst (K := K) upd_same (.cons (.bl _) (.cons (.bl _) (.cons (.bl _) (.cons (.bl _) (.cons (.bl _) .nil))))))
    have n5 := (n2.trans n3).trans n4
    refine ⟨_, g3, D, rfl, rfl, hE.C, .ty "ValueError", .type "ValueError", true, rfl, fun u ru => ru, hE.ve, true, rfl, ite_t ?_⟩
    refine (et_and (a := true) (b := true) (et_test (ev_to (ev_op (ev_countB (bs := [decide (k = 0), decide (k = 1), decide (k = 2)] ++ [false, false, false, false, false]) (ev_to (en_cat (ev_var rfl) (ev_var rfl) (by show 8 ≤ sizeLine; decide)).ev rfl)) ev_int (rd_eq rfl rfl)) ?_)) fun _ => et_test (ev_op (x := .bool true) ev_bl (ev_var (x := .list ([decide (k = 0), decide (k = 1), decide (k = 2)].map .bool)) rfl) (rd_inB ?_))) G _ _ _ n5.s n5.h r4 _ fun H6 I6 n6 => ite_t ?_
    · rcases (by omega : k = 0 ∨ k = 1 ∨ k = 2) with rfl | rfl | rfl <;> rfl
    · rcases (by omega : k = 0 ∨ k = 1 ∨ k = 2) with rfl | rfl | rfl <;> decide
    · refine (ev_indexB (bs := [decide (k = 0), decide (k = 1), decide (k = 2)]) (j := k) (ev_var rfl) ?_ ?_) G _ _ _ (n5.trans n6).s (n5.trans n6).h (r4.next n6) _ fun v H7 I7 n7 rv => cv.rt _ _ _ _ kP ((n5.trans n6).trans n7) rv
      · rcases (by omega : k = 0 ∨ k = 1 ∨ k = 2) with rfl | rfl | rfl <;> rfl
      · rcases (by omega : k = 0 ∨ k = 1 ∨ k = 2) with rfl | rfl | rfl
        · intro m hm; omega
        · intro m hm
          have : m = 0 := by omega
          subst this
          rfl
        · intro m hm
          rcases (by omega : m = 0 ∨ m = 1) with rfl | rfl <;> rfl, fun z => nomatch z⟩⟩
end
end Tw


namespace Tw
open PySem PySem.Spec PyProof.Rows L2


def F_is_whole (ds : List PyData) (o : Out) : Prop := ∃ d, ds = [d] ∧ NoScr d ∧ o = .rt (.bool (isInt d))
theorem len_is_whole : ∀ ds o, F_is_whole ds o → ds.length = 1 := fun _ _ ⟨_, h, _⟩ => by rw [h]; rfl

/-! is_whole: slots 0 thing (1) -/
def t_is_whole (K : PySem.W.Frag) (E : XK)  : TS :=
    (tRet (tAndV (tCB (rIsi K) (tCons (tVar 0) (tCons (tC (.ty "int")) tNil))) (tNotV (tCB (rIsi K) (tCons (tVar 0) (tCons (tC (.ty "bool")) tNil))))))

theorem sem_is_whole {K : PySem.W.Frag} {E : XK} {ds : List PyData} {o : Out} (h : F_is_whole ds o) : As K E (t_is_whole K E) (slots0 1 ds) (finP o) := by
  obtain ⟨d, rfl, hn, rfl⟩ := h
  obtain ⟨b, h1, c, h2, e⟩ := kit_int d hn
  exact as_ret (ev_to (ev_andV (ev_isi (ev_var rfl) h1 hn) (fun _ => ev_notV (ev_isi (ev_var rfl) h2 hn))) (by rw [e])) rfl

def F_between (ds : List PyData) (o : Out) : Prop := ∃ d l m, ds = [d, .int l, .int m] ∧ NoScr d ∧ o = .rt (.bool (inB d l m))
theorem len_between : ∀ ds o, F_between ds o → ds.length = 3 := fun _ _ ⟨_, _, _, h, _⟩ => by rw [h]; rfl
/-! between: slots 0 thing, 1 low, 2 most (3) -/
def t_between (K : PySem.W.Frag) (E : XK)  : TS :=
    (tRet (tAndV (tCallS (SpD K F_is_whole) (WE (fun cls d _ H => E cls d H)) (tCons (tVar 0) tNil)) (tAndV (tOp (rLeA K) (tVar 1) (tVar 0)) (tOp (rLeA K) (tVar 0) (tVar 2)))))

theorem sem_between {K : PySem.W.Frag} {E : XK} {ds : List PyData} {o : Out} (h : F_between ds o) : As K E (t_between K E) (slots0 3 ds) (finP o) := by
  obtain ⟨d, l, m, rfl, hn, rfl⟩ := h
  cases hd : isInt d with
  | true =>
    cases d with
    | int i =>
      exact as_ret (ev_andV (a := true) (ev_call (ea_cons (ev_var rfl) ea_nil) ⟨_, rfl, hn, rfl⟩) fun _ => ev_andV (ev_op (ev_var rfl) (ev_var rfl) rd_le) fun _ => ev_op (ev_var rfl) (ev_var rfl) rd_le) rfl
    | _ => cases hd
  | false =>
    have e : inB d l m = false := by cases d <;> first | rfl | cases hd
    refine as_ret (ev_to (ev_andV (a := false) (b := true) (ev_call (ea_cons (ev_var rfl) ea_nil) ⟨_, rfl, hn, by rw [hd]⟩) fun z => by cases z) (by rw [e]; rfl)) rfl

def F_is_hoard (ds : List PyData) (o : Out) : Prop := ∃ n ms d, ds = [netD n ms, d] ∧ cln d = true ∧ o = .rt (.bool (hoardB n d))
theorem len_is_hoard : ∀ ds o, F_is_hoard ds o → ds.length = 2 := fun _ _ ⟨_, _, _, h, _⟩ => by rw [h]; rfl


theorem nat_test {K : PySem.W.Frag} {δ : List Sl} {i : Nat} {d : PyData} {W : WX} (h : δ[i]? = some (.d d)) (hc : cln d = true) :
    EvT K (tOr (tNot (tB (tCallS (SpD K F_is_whole) (WE W) (tCons (tVar i) tNil)))) (tTest (tOp rLtA (tVar i) (tC (.int 0))))) δ (!natB d) := by
  cases e : isInt d with
  | true =>
    cases d with
    | int z =>
      refine et_to (et_or (a := false) (et_not (a := true) (et_B (ev_call (ea_cons (ev_var h) ea_nil) ⟨_, rfl, cln_no hc, rfl⟩))) fun _ => et_test (ev_op (ev_var h) ev_int rd_lt)) ?_
      show (false || decide (z < 0)) = !decide (0 ≤ z)
      by_cases hz : 0 ≤ z
      · rw [decide_eq_true hz, decide_eq_false (by omega)]; rfl
      · rw [decide_eq_false hz, decide_eq_true (by omega)]; rfl
    | _ => cases e
  | false =>
    refine et_to (et_or (a := true) (b := true) (et_not (a := false) (et_B (ev_call (ea_cons (ev_var h) ea_nil) ⟨_, rfl, cln_no hc, by rw [e]⟩))) fun z => by cases z) ?_
    cases d <;> first | rfl | cases e
/-! is_hoard: slots 0 net, 1 thing, 2 number (3) -/
def t_is_hoard (K : PySem.W.Frag) (E : XK)  : TS :=
    (tSeq (tIfS (tOr (tNot (tB (tCB (rIsi K) (tCons (tVar 1) (tCons (tC (.ty "tuple")) tNil))))) (tTest (tOp (rNeD K) (tCB (rLenA K) (tCons (tVar 1) tNil)) (tOp (rIx K) (tVar 0) (tC (.int 0)))))) (tRet (tC (.bl false))) tNext)
    (tSeq (tFor (iTup K (tVar 1)) (gName 2) (tIfS (tOr (tNot (tB (tCallS (SpD K F_is_whole) (WE (fun cls d _ H => E cls d H)) (tCons (tVar 2) tNil)))) (tTest (tOp rLtA (tVar 2) (tC (.int 0))))) (tRet (tC (.bl false))) tNext))
    (tRet (tC (.bl true)))))

theorem sem_is_hoard {K : PySem.W.Frag} {E : XK} {ds : List PyData} {o : Out} (h : F_is_hoard ds o) : As K E (t_is_hoard K E) (slots0 3 ds) (finP o) := by
  obtain ⟨n, ms, d, rfl, hc, rfl⟩ := h
  obtain ⟨b, hb, hy, hn⟩ := kit_tup d (cln_no hc)
  cases b with
  | false =>
    refine as_seq (as_if (et_or (a := true) (b := true) (et_not (a := false) (et_B (ev_isi (ev_var rfl) hb (cln_no hc)))) fun z => by cases z) (fun _ => as_ret ev_bl ?_) (fun z => by cases z))
    show Out.rt _ = Out.rt _
    rw [hoardB_no (hn rfl)]
  | true =>
    obtain ⟨xs, rfl⟩ := hy rfl
    refine as_seq (as_if (et_or (a := false) (et_not (a := true) (et_B (ev_isi (ev_var rfl) hb (cln_no hc)))) fun _ => et_test (ev_op (ev_cb (ea_cons (ev_var rfl) ea_nil) rc_lenT) (net_size rfl) (rd_ne rfl rfl))) (fun hlen => as_ret ev_bl ?_) (fun hlen => as_next ?_))
    · have e : ¬ xs.length = n := by
        rw [eqv_nat] at hlen
        simpa using hlen
      show Out.rt (.bool (decide (xs.length = n) && _)) = Out.rt _
      rw [decide_eq_false e]
      rfl
    · have e : xs.length = n := by
        rw [eqv_nat] at hlen
        simpa using hlen
      refine as_search (fun i => !natB (xs.getD i .none)) (ei_tup (ev_var rfl)) (fun δ' => ∃ z, δ' = [.d (netD n ms), .d (.tuple xs), z]) ⟨_, rfl⟩ (fun i d δ' hd hf _ => ?_) (fun δ' _ => ev_bl) (fun δ' _ => ev_bl) ?_
      · obtain ⟨z, rfl⟩ := hf
        refine ag_name ⟨?_, _, rfl⟩
        rw [item_eq hd]
        exact nat_test rfl (clnAll_get hc hd)
      · show Out.rt (.bool (decide (xs.length = n) && _)) = Out.rt _
        rw [decide_eq_true e, any_not]
        cases (List.range xs.length).all fun i => natB (xs.getD i .none) <;> rfl

def F_need_hoard (a_NoHoard : Addr) (ds : List PyData) (o : Out) : Prop := ∃ n ms d, ds = [netD n ms, d] ∧ cln d = true ∧ o = if hoardB n d then .rt .none else .ex (.ref a_NoHoard)
theorem len_need_hoard (a_NoHoard : Addr) : ∀ ds o, F_need_hoard a_NoHoard ds o → ds.length = 2 := fun _ _ ⟨_, _, _, h, _⟩ => by rw [h]; rfl
theorem ex_hoard {K : PySem.W.Frag} {E : XK} {δ : List Sl} {c : Addr} {i j n : Nat} {ms : List (List Int × List Int)} {d : PyData} (h1 : δ[i]? = some (.d (netD n ms))) (h2 : δ[j]? = some (.d d)) (hc : cln d = true) (hb : hoardB n d = false) :
    EvX K E (tCallS (SpD K (F_need_hoard c)) (WE fun cls d _ H => E cls d H) (tCons (tVar i) (tCons (tVar j) tNil))) δ (.ref c) := ex_call (ea_cons (ev_var h1) (ea_cons (ev_var h2) ea_nil)) ⟨n, ms, d, rfl, hc, by rw [hb]; rfl⟩
theorem ev_hoard {K : PySem.W.Frag} {δ : List Sl} {W : WX} {c : Addr} {i j n : Nat} {ms : List (List Int × List Int)} {d : PyData} (h1 : δ[i]? = some (.d (netD n ms))) (h2 : δ[j]? = some (.d d)) (hc : cln d = true) (hb : hoardB n d = true) :
    Ev K (tCallS (SpD K (F_need_hoard c)) (WE W) (tCons (tVar i) (tCons (tVar j) tNil))) δ .none := ev_call (ea_cons (ev_var h1) (ea_cons (ev_var h2) ea_nil)) ⟨n, ms, d, rfl, hc, by rw [hb]; rfl⟩
/-! need_hoard: slots 0 net, 1 thing (2) -/
def t_need_hoard (K : PySem.W.Frag) (E : XK) (a_NoHoard : Addr) : TS :=
    (tIfS (tNot (tB (tCallS (SpD K F_is_hoard) (WE (fun cls d _ H => E cls d H)) (tCons (tVar 0) (tCons (tVar 1) tNil))))) (tRz E (.ref a_NoHoard)) tNext)

theorem sem_need_hoard {K : PySem.W.Frag} {E : XK} (a_NoHoard : Addr) {ds : List PyData} {o : Out} (h : F_need_hoard a_NoHoard ds o) : As K E (t_need_hoard K E a_NoHoard) (slots0 2 ds) (finP o) := by
  obtain ⟨n, ms, d, rfl, hn, rfl⟩ := h
  refine as_if (et_not (et_B (ev_call (ea_cons (ev_var rfl) (ea_cons (ev_var rfl) ea_nil)) ⟨n, ms, d, rfl, hn, rfl⟩))) (fun hb => as_raise ?_) (fun hb => as_next ?_)
  · have e : hoardB n d = false := by simpa using hb
    rw [e]
    rfl
  · have e : hoardB n d = true := by simpa using hb
    rw [e]
    rfl

def F_need_move (a_NoMove : Addr) (ds : List PyData) (o : Out) : Prop := ∃ n ms d, ds = [netD n ms, d] ∧ cln d = true ∧ o = if inB d 0 (ms.length - 1) then .rt .none else .ex (.ref a_NoMove)
theorem len_need_move (a_NoMove : Addr) : ∀ ds o, F_need_move a_NoMove ds o → ds.length = 2 := fun _ _ ⟨_, _, _, h, _⟩ => by rw [h]; rfl
/-! need_move: slots 0 net, 1 thing (2) -/
def t_need_move (K : PySem.W.Frag) (E : XK) (a_NoMove : Addr) : TS :=
    (tIfS (tNot (tB (tCallS (SpD K F_between) (WE (fun cls d _ H => E cls d H)) (tCons (tVar 1) (tCons (tC (.int 0)) (tCons (tOp rMinus (tCB (rLenA K) (tCons (tOp (rIx K) (tVar 0) (tC (.int 1))) tNil)) (tC (.int 1))) tNil)))))) (tRz E (.ref a_NoMove)) tNext)

theorem sem_need_move {K : PySem.W.Frag} {E : XK} (a_NoMove : Addr) {ds : List PyData} {o : Out} (h : F_need_move a_NoMove ds o) : As K E (t_need_move K E a_NoMove) (slots0 2 ds) (finP o) := by
  obtain ⟨n, ms, d, rfl, hn, rfl⟩ := h
  refine as_if (et_not (et_B (ev_call (x := .bool (inB d 0 (ms.length - 1))) (ea_cons (ev_var rfl) (ea_cons ev_int (ea_cons (ev_op (ev_cb (ea_cons (net_moves rfl) ea_nil) rc_lenT) ev_int rd_minus) ea_nil))) ⟨d, 0, _, rfl, cln_no hn, by rw [List.length_map]⟩))) (fun hb => as_raise ?_) (fun hb => as_next ?_)
  · have e : inB d 0 (ms.length - 1) = false := by simpa using hb
    rw [e]
    rfl
  · have e : inB d 0 (ms.length - 1) = true := by simpa using hb
    rw [e]
    rfl

def placesB (n : Nat) : PyData → Bool
  | .list xs => xs.all fun d => inB d 0 ((n : Int) - 1)
  | _ => false
def F_need_places (a_NoPlace : Addr) (ds : List PyData) (o : Out) : Prop := ∃ n ms d, ds = [netD n ms, d] ∧ cln d = true ∧ o = if placesB n d then .rt .none else .ex (.ref a_NoPlace)
theorem len_need_places (a_NoPlace : Addr) : ∀ ds o, F_need_places a_NoPlace ds o → ds.length = 2 := fun _ _ ⟨_, _, _, h, _⟩ => by rw [h]; rfl
/-! need_places: slots 0 net, 1 thing, 2 place (3) -/
def t_need_places (K : PySem.W.Frag) (E : XK) (a_NoPlace : Addr) : TS :=
    (tSeq (tIfS (tNot (tB (tCB (rIsi K) (tCons (tVar 1) (tCons (tC (.ty "list")) tNil))))) (tRz E (.ref a_NoPlace)) tNext)
    (tFor (iList K (tVar 1)) (gName 2) (tIfS (tNot (tB (tCallS (SpD K F_between) (WE (fun cls d _ H => E cls d H)) (tCons (tVar 2) (tCons (tC (.int 0)) (tCons (tOp rMinus (tOp (rIx K) (tVar 0) (tC (.int 0))) (tC (.int 1))) tNil)))))) (tRz E (.ref a_NoPlace)) tNext)))

theorem sem_need_places {K : PySem.W.Frag} {E : XK} (a_NoPlace : Addr) {ds : List PyData} {o : Out} (h : F_need_places a_NoPlace ds o) : As K E (t_need_places K E a_NoPlace) (slots0 3 ds) (finP o) := by
  obtain ⟨n, ms, d, rfl, hc, rfl⟩ := h
  obtain ⟨b, hb, hy, hn⟩ := kit_lst d hc
  cases b with
  | false =>
    refine as_seq (as_if (et_not (a := false) (et_B (ev_isi (ev_var rfl) hb (cln_no hc)))) (fun _ => as_raise ?_) (fun z => by cases z))
    have e : placesB n d = false := by cases d <;> first | rfl | exact absurd rfl (hn rfl _)
    rw [e]
    rfl
  | true =>
    obtain ⟨xs, rfl⟩ := hy rfl
    refine as_seq (as_if (et_not (a := true) (et_B (ev_isi (ev_var rfl) hb (cln_no hc)))) (fun z => by cases z) (fun _ => as_next ?_))
    refine as_for (ei_list (xs := xs) (ev_var rfl)) (fun i δ' => ∃ z, δ' = [.d (netD n ms), .d (.list xs), z] ∧ ∀ j y, j < i → xs[j]? = some y → inB y 0 ((n : Int) - 1) = true) ⟨_, rfl, fun j y hj => by omega⟩ (fun i y δ' hy' hp => ?_) (fun δ' hp => ?_)
    · obtain ⟨z, rfl, hp⟩ := hp
      have hyc : cln y = true := clnAll_get (show clnAll xs = true from hc) hy'
      cases hi : inB y 0 ((n : Int) - 1) with
      | true =>
        refine ag_name (as_if (et_not (a := true) (et_B (ev_call (ea_cons (ev_var rfl) (ea_cons ev_int (ea_cons (ev_op (net_size rfl) ev_int rd_minus) ea_nil))) ⟨y, _, _, rfl, cln_no hyc, by rw [hi]⟩))) (fun z => by cases z) (fun _ => as_next ⟨_, rfl, fun j w hj hw => ?_⟩))
        rcases Nat.lt_or_eq_of_le (Nat.le_of_lt_succ hj) with q | q
        · exact hp j w q hw
        · subst q
          rw [hy'] at hw
          cases hw
          exact hi
      | false =>
        refine ag_name (as_if (et_not (a := false) (et_B (ev_call (ea_cons (ev_var rfl) (ea_cons ev_int (ea_cons (ev_op (net_size rfl) ev_int rd_minus) ea_nil))) ⟨y, _, _, rfl, cln_no hyc, by rw [hi]⟩))) (fun _ => as_raise ?_) (fun z => by cases z))
        have e : placesB n (.list xs) = false := List.all_eq_false.mpr ⟨y, List.mem_of_getElem? hy', by rw [hi]; exact Bool.false_ne_true⟩
        rw [e]
        rfl
    · obtain ⟨z, rfl, hp⟩ := hp
      have e : placesB n (.list xs) = true := List.all_eq_true.mpr fun y hy' => by
        obtain ⟨j, hj, e⟩ := List.getElem_of_mem hy'
        exact hp j y hj (by rw [List.getElem?_eq_getElem hj, e])
      rw [e]
      rfl

def F_can (a_NoHoard a_NoMove : Addr) (ds : List PyData) (o : Out) : Prop := ∃ n ms d g, ds = [netD n ms, d, g] ∧ cln d = true ∧ cln g = true ∧
  ((hoardB n d = false ∧ o = .ex (.ref a_NoHoard)) ∨ (hoardB n d = true ∧ inB g 0 (ms.length - 1) = false ∧ o = .ex (.ref a_NoMove)))
theorem len_can (a_NoHoard a_NoMove : Addr) : ∀ ds o, F_can a_NoHoard a_NoMove ds o → ds.length = 3 := fun _ _ ⟨_, _, _, _, h, _⟩ => by rw [h]; rfl
/-! can: slots 0 net, 1 hoard, 2 move (3) -/
def t_can (K : PySem.W.Frag) (E : XK) (a_NoHoard : Addr) (a_NoMove : Addr) : TS :=
    (tSeq (tDrop (tCallS (SpD K (F_need_hoard a_NoHoard)) (WE (fun cls d _ H => E cls d H)) (tCons (tVar 0) (tCons (tVar 1) tNil))))
    (tSeq (tDrop (tCallS (SpD K (F_need_move a_NoMove)) (WE (fun cls d _ H => E cls d H)) (tCons (tVar 0) (tCons (tVar 2) tNil))))
    tNever))

theorem sem_can {K : PySem.W.Frag} {E : XK} (a_NoHoard a_NoMove : Addr) {ds : List PyData} {o : Out} (h : F_can a_NoHoard a_NoMove ds o) : As K E (t_can K E a_NoHoard a_NoMove) (slots0 3 ds) (finP o) := by
  obtain ⟨n, ms, d, g, rfl, hd, hg, h⟩ := h
  rcases h with ⟨hb, rfl⟩ | ⟨hb, hh, rfl⟩
  · exact as_seq (as_dropX (ex_hoard rfl rfl hd hb) rfl)
  · exact as_seq (as_drop (ev_hoard rfl rfl hd hb) (as_seq (as_dropX (ex_call (ea_cons (ev_var rfl) (ea_cons (ev_var rfl) ea_nil)) ⟨n, ms, g, rfl, hg, by rw [hh]; rfl⟩) rfl)))

/-- a run made from a hoard, step by step, that can be made to its end -/
def F_behind (a_NoHoard a_NoMove : Addr) (ds : List PyData) (o : Out) : Prop := ∃ n ms d r, ds = [netD n ms, d, r] ∧ cln d = true ∧ cln r = true ∧
  ((hoardB n d = false ∧ o = .ex (.ref a_NoHoard)) ∨ (hoardB n d = true ∧ (∀ xs, r ≠ .list xs) ∧ o = .ex (.ref a_NoMove)) ∨
    (hoardB n d = true ∧ (∃ xs x, r = .list xs ∧ x ∈ xs ∧ inB x 0 (ms.length - 1) = false) ∧ o = .ex (.ref a_NoMove)))
theorem len_behind (a_NoHoard a_NoMove : Addr) : ∀ ds o, F_behind a_NoHoard a_NoMove ds o → ds.length = 3 := fun _ _ ⟨_, _, _, _, h, _⟩ => by rw [h]; rfl
/-! behind: slots 0 net, 1 hoard, 2 run, 3 move, 4 made, 5 k (6) -/
def t_behind (K : PySem.W.Frag) (E : XK) (a_NoHoard : Addr) (a_NoMove : Addr) : TS :=
    (tSeq (tDrop (tCallS (SpD K (F_need_hoard a_NoHoard)) (WE (fun cls d _ H => E cls d H)) (tCons (tVar 0) (tCons (tVar 1) tNil))))
    (tSeq (tIfS (tNot (tB (tCB (rIsi K) (tCons (tVar 2) (tCons (tC (.ty "list")) tNil))))) (tRz E (.ref a_NoMove)) tNext)
    (tSeq (tFor (iList K (tVar 2)) (gName 3) (tDrop (tCallS (SpD K (F_need_move a_NoMove)) (WE (fun cls d _ H => E cls d H)) (tCons (tVar 0) (tCons (tVar 3) tNil)))))
    tNever)))

theorem sem_behind {K : PySem.W.Frag} {E : XK} (a_NoHoard a_NoMove : Addr) {ds : List PyData} {o : Out} (h : F_behind a_NoHoard a_NoMove ds o) : As K E (t_behind K E a_NoHoard a_NoMove) (slots0 6 ds) (finP o) := by
  obtain ⟨n, ms, d, r, rfl, hd, hr, h⟩ := h
  obtain ⟨b, hb, hy, hn⟩ := kit_lst r hr
  rcases h with ⟨hh, rfl⟩ | ⟨hh, hx, rfl⟩ | ⟨hh, ⟨xs, x, rfl, hx, hi⟩, rfl⟩
  · exact as_seq (as_dropX (ex_call (ea_cons (ev_var rfl) (ea_cons (ev_var rfl) ea_nil)) ⟨n, ms, d, rfl, hd, by rw [hh]; rfl⟩) rfl)
  · refine as_seq (as_drop (ev_call (ea_cons (ev_var rfl) (ea_cons (ev_var rfl) ea_nil)) ⟨n, ms, d, rfl, hd, by rw [hh]; rfl⟩) ?_)
    cases b with
    | true =>
      obtain ⟨xs, rfl⟩ := hy rfl
      exact absurd rfl (hx xs)
    | false => exact as_seq (as_if (et_not (a := false) (et_B (ev_isi (ev_var rfl) hb (cln_no hr)))) (fun _ => as_raise rfl) (fun z => by cases z))
  · refine as_seq (as_drop (ev_call (ea_cons (ev_var rfl) (ea_cons (ev_var rfl) ea_nil)) ⟨n, ms, d, rfl, hd, by rw [hh]; rfl⟩) ?_)
    have hb' : b = true := by
      cases b with
      | true => rfl
      | false => exact absurd rfl (hn rfl xs)
    subst hb'
    refine as_seq (as_if (et_not (a := true) (et_B (ev_isi (ev_var rfl) hb (cln_no hr)))) (fun z => by cases z) (fun _ => as_next ?_))
    refine as_seq (as_for (ei_list (ev_var rfl)) (fun i δ' => ∃ z, δ' = [.d (netD n ms), .d d, .d (.list xs), z, .no, .no] ∧ ∀ j y, j < i → xs[j]? = some y → inB y 0 (ms.length - 1) = true) ⟨_, rfl, fun j y hj => by omega⟩ (fun i y δ' hy' hp => ?_) (fun δ' hp => ?_))
    · obtain ⟨z, rfl, hp⟩ := hp
      have hyc : cln y = true := clnAll_get (show clnAll xs = true from hr) hy'
      cases hi' : inB y 0 (ms.length - 1) with
      | true =>
        refine ag_name (as_drop (ev_call (ea_cons (ev_var rfl) (ea_cons (ev_var rfl) ea_nil)) ⟨n, ms, y, rfl, hyc, by rw [hi']; rfl⟩) ⟨_, rfl, fun j w hj hw => ?_⟩)
        rcases Nat.lt_or_eq_of_le (Nat.le_of_lt_succ hj) with q | q
        · exact hp j w q hw
        · subst q
          rw [hy'] at hw
          cases hw
          exact hi'
      | false => exact ag_name (as_dropX (ex_call (ea_cons (ev_var rfl) (ea_cons (ev_var rfl) ea_nil)) ⟨n, ms, y, rfl, hyc, by rw [hi']; rfl⟩) rfl)
    · obtain ⟨z, rfl, hp⟩ := hp
      obtain ⟨j, hj, e⟩ := List.getElem_of_mem hx
      have := hp j x hj (by rw [List.getElem?_eq_getElem hj, e])
      rw [hi] at this
      cases this

def F_least_before (a_NoHoard a_NoMove : Addr) (ds : List PyData) (o : Out) : Prop := ∃ n ms g d, ds = [netD n ms, g, d] ∧ cln d = true ∧ cln g = true ∧
  ((inB g 0 (ms.length - 1) = false ∧ o = .ex (.ref a_NoMove)) ∨ (inB g 0 (ms.length - 1) = true ∧ hoardB n d = false ∧ o = .ex (.ref a_NoHoard)))
theorem len_least_before (a_NoHoard a_NoMove : Addr) : ∀ ds o, F_least_before a_NoHoard a_NoMove ds o → ds.length = 3 := fun _ _ ⟨_, _, _, _, h, _⟩ => by rw [h]; rfl
/-! least_before: slots 0 net, 1 move, 2 goal (3) -/
def t_least_before (K : PySem.W.Frag) (E : XK) (a_NoHoard : Addr) (a_NoMove : Addr) : TS :=
    (tSeq (tDrop (tCallS (SpD K (F_need_move a_NoMove)) (WE (fun cls d _ H => E cls d H)) (tCons (tVar 0) (tCons (tVar 1) tNil))))
    (tSeq (tDrop (tCallS (SpD K (F_need_hoard a_NoHoard)) (WE (fun cls d _ H => E cls d H)) (tCons (tVar 0) (tCons (tVar 2) tNil))))
    tNever))

theorem sem_least_before {K : PySem.W.Frag} {E : XK} (a_NoHoard a_NoMove : Addr) {ds : List PyData} {o : Out} (h : F_least_before a_NoHoard a_NoMove ds o) : As K E (t_least_before K E a_NoHoard a_NoMove) (slots0 3 ds) (finP o) := by
  obtain ⟨n, ms, g, d, rfl, hd, hg, h⟩ := h
  rcases h with ⟨hh, rfl⟩ | ⟨hh, hb, rfl⟩
  · exact as_seq (as_dropX (ex_call (ea_cons (ev_var rfl) (ea_cons (ev_var rfl) ea_nil)) ⟨n, ms, g, rfl, hg, by rw [hh]; rfl⟩) rfl)
  · exact as_seq (as_drop (x := .none) (ev_call (ea_cons (ev_var rfl) (ea_cons (ev_var rfl) ea_nil)) ⟨n, ms, g, rfl, hg, by rw [hh]; rfl⟩) (as_seq (as_dropX (ex_hoard rfl rfl hd hb) rfl)))

def F_sill (a_NoHoard : Addr) (ds : List PyData) (o : Out) : Prop := ∃ n ms d, ds = [netD n ms, d] ∧ cln d = true ∧ hoardB n d = false ∧ o = .ex (.ref a_NoHoard)
theorem len_sill (a_NoHoard : Addr) : ∀ ds o, F_sill a_NoHoard ds o → ds.length = 2 := fun _ _ ⟨_, _, _, h, _⟩ => by rw [h]; rfl
/-! sill: slots 0 net, 1 goal, 2 row (3) -/
def t_sill (K : PySem.W.Frag) (E : XK) (a_NoHoard : Addr) : TS :=
    (tSeq (tDrop (tCallS (SpD K (F_need_hoard a_NoHoard)) (WE (fun cls d _ H => E cls d H)) (tCons (tVar 0) (tCons (tVar 1) tNil))))
    tNever)

theorem sem_sill {K : PySem.W.Frag} {E : XK} (a_NoHoard : Addr) {ds : List PyData} {o : Out} (h : F_sill a_NoHoard ds o) : As K E (t_sill K E a_NoHoard) (slots0 3 ds) (finP o) := by
  obtain ⟨n, ms, d, rfl, hc, hb, rfl⟩ := h
  exact as_seq (as_dropX (ex_hoard rfl rfl hc hb) rfl)

def F_cover (a_NoHoard : Addr) (ds : List PyData) (o : Out) : Prop := ∃ n ms d g, ds = [netD n ms, d, g] ∧ cln d = true ∧ cln g = true ∧ (hoardB n d && hoardB n g) = false ∧ o = .ex (.ref a_NoHoard)
theorem len_cover (a_NoHoard : Addr) : ∀ ds o, F_cover a_NoHoard ds o → ds.length = 3 := fun _ _ ⟨_, _, _, _, h, _⟩ => by rw [h]; rfl
/-! cover: slots 0 net, 1 start, 2 goal, 3 found, 4 at, 5 row (6) -/
def t_cover (K : PySem.W.Frag) (E : XK) (a_NoHoard : Addr) : TS :=
    (tSeq (tDrop (tCallS (SpD K (F_need_hoard a_NoHoard)) (WE (fun cls d _ H => E cls d H)) (tCons (tVar 0) (tCons (tVar 1) tNil))))
    (tSeq (tDrop (tCallS (SpD K (F_need_hoard a_NoHoard)) (WE (fun cls d _ H => E cls d H)) (tCons (tVar 0) (tCons (tVar 2) tNil))))
    tNever))

theorem sem_cover {K : PySem.W.Frag} {E : XK} (a_NoHoard : Addr) {ds : List PyData} {o : Out} (h : F_cover a_NoHoard ds o) : As K E (t_cover K E a_NoHoard) (slots0 6 ds) (finP o) := by
  obtain ⟨n, ms, d, g, rfl, hc, hg, hb, rfl⟩ := h
  cases h1 : hoardB n d with
  | false => exact as_seq (as_dropX (ex_hoard rfl rfl hc h1) rfl)
  | true =>
    rw [h1, Bool.true_and] at hb
    exact as_seq (as_drop (ev_hoard rfl rfl hc h1) (as_seq (as_dropX (ex_hoard rfl rfl hg hb) rfl)))

def F_together (a_NoHoard a_NoPlace : Addr) (ds : List PyData) (o : Out) : Prop := ∃ n ms d ps, ds = [netD n ms, d, ps] ∧ cln d = true ∧ cln ps = true ∧ ((hoardB n d = false ∧ o = .ex (.ref a_NoHoard)) ∨ (hoardB n d = true ∧ placesB n ps = false ∧ o = .ex (.ref a_NoPlace)))
theorem len_together (a_NoHoard a_NoPlace : Addr) : ∀ ds o, F_together a_NoHoard a_NoPlace ds o → ds.length = 3 := fun _ _ ⟨_, _, _, _, h, _⟩ => by rw [h]; rfl
/-! together: slots 0 net, 1 start, 2 places, 3 goal, 4 k (5) -/
def t_together (K : PySem.W.Frag) (E : XK) (a_NoHoard : Addr) (a_NoPlace : Addr) : TS :=
    (tSeq (tDrop (tCallS (SpD K (F_need_hoard a_NoHoard)) (WE (fun cls d _ H => E cls d H)) (tCons (tVar 0) (tCons (tVar 1) tNil))))
    (tSeq (tDrop (tCallS (SpD K (F_need_places a_NoPlace)) (WE (fun cls d _ H => E cls d H)) (tCons (tVar 0) (tCons (tVar 2) tNil))))
    tNever))

theorem sem_together {K : PySem.W.Frag} {E : XK} (a_NoHoard a_NoPlace : Addr) {ds : List PyData} {o : Out} (h : F_together a_NoHoard a_NoPlace ds o) : As K E (t_together K E a_NoHoard a_NoPlace) (slots0 5 ds) (finP o) := by
  obtain ⟨n, ms, d, ps, rfl, hc, hp, h⟩ := h
  rcases h with ⟨hb, rfl⟩ | ⟨hb, hq, rfl⟩
  · exact as_seq (as_dropX (ex_hoard rfl rfl hc hb) rfl)
  · exact as_seq (as_drop (ev_hoard rfl rfl hc hb) (as_seq (as_dropX (ex_call (ea_cons (ev_var rfl) (ea_cons (ev_var rfl) ea_nil)) ⟨n, ms, ps, rfl, hp, by rw [hq]; rfl⟩) rfl)))

def F_without_place (a_NoPlace : Addr) (ds : List PyData) (o : Out) : Prop := ∃ n ms p, ds = [netD n ms, p] ∧ cln p = true ∧ inB p 0 ((n : Int) - 1) = false ∧ o = .ex (.ref a_NoPlace)
theorem len_without_place (a_NoPlace : Addr) : ∀ ds o, F_without_place a_NoPlace ds o → ds.length = 2 := fun _ _ ⟨_, _, _, h, _⟩ => by rw [h]; rfl
/-! without_place: slots 0 net, 1 place, 2 takes, 3 gives (4) -/
def t_without_place (K : PySem.W.Frag) (E : XK) (a_NoPlace : Addr) : TS :=
    (tSeq (tIfS (tNot (tB (tCallS (SpD K F_between) (WE (fun cls d _ H => E cls d H)) (tCons (tVar 1) (tCons (tC (.int 0)) (tCons (tOp rMinus (tOp (rIx K) (tVar 0) (tC (.int 0))) (tC (.int 1))) tNil)))))) (tRz E (.ref a_NoPlace)) tNext)
    tNever)

theorem sem_without_place {K : PySem.W.Frag} {E : XK} (a_NoPlace : Addr) {ds : List PyData} {o : Out} (h : F_without_place a_NoPlace ds o) : As K E (t_without_place K E a_NoPlace) (slots0 4 ds) (finP o) := by
  obtain ⟨n, ms, p, rfl, hp, hq, rfl⟩ := h
  exact as_seq (as_if (et_not (a := false) (et_B (ev_call (ea_cons (ev_var rfl) (ea_cons ev_int (ea_cons (ev_op (net_size rfl) ev_int rd_minus) ea_nil))) ⟨p, _, _, rfl, cln_no hp, by rw [hq]⟩))) (fun _ => as_raise rfl) (fun z => by cases z))

def F_all_of (a_NoHoard : Addr) (ds : List PyData) (o : Out) : Prop := ∃ n ms d, ds = [netD n ms, d] ∧ cln d = true ∧ hoardB n d = false ∧ o = .ex (.ref a_NoHoard)
theorem len_all_of (a_NoHoard : Addr) : ∀ ds o, F_all_of a_NoHoard ds o → ds.length = 2 := fun _ _ ⟨_, _, _, h, _⟩ => by rw [h]; rfl
/-! all_of: slots 0 net, 1 start, 2 found, 3 pump, 4 row (5) -/
def t_all_of (K : PySem.W.Frag) (E : XK) (a_NoHoard : Addr) : TS :=
    (tSeq (tDrop (tCallS (SpD K (F_need_hoard a_NoHoard)) (WE (fun cls d _ H => E cls d H)) (tCons (tVar 0) (tCons (tVar 1) tNil))))
    tNever)

theorem sem_all_of {K : PySem.W.Frag} {E : XK} (a_NoHoard : Addr) {ds : List PyData} {o : Out} (h : F_all_of a_NoHoard ds o) : As K E (t_all_of K E a_NoHoard) (slots0 5 ds) (finP o) := by
  obtain ⟨n, ms, d, rfl, hc, hb, rfl⟩ := h
  exact as_seq (as_dropX (ex_hoard rfl rfl hc hb) rfl)

def F_how_far (a_NoHoard a_NoPlace : Addr) (ds : List PyData) (o : Out) : Prop := ∃ n ms d p, ds = [netD n ms, d, p] ∧ cln d = true ∧ cln p = true ∧ ((hoardB n d = false ∧ o = .ex (.ref a_NoHoard)) ∨ (hoardB n d = true ∧ inB p 0 ((n : Int) - 1) = false ∧ o = .ex (.ref a_NoPlace)))
theorem len_how_far (a_NoHoard a_NoPlace : Addr) : ∀ ds o, F_how_far a_NoHoard a_NoPlace ds o → ds.length = 3 := fun _ _ ⟨_, _, _, _, h, _⟩ => by rw [h]; rfl
/-! how_far: slots 0 net, 1 start, 2 place, 3 row (4) -/
def t_how_far (K : PySem.W.Frag) (E : XK) (a_NoHoard : Addr) (a_NoPlace : Addr) : TS :=
    (tSeq (tDrop (tCallS (SpD K (F_need_hoard a_NoHoard)) (WE (fun cls d _ H => E cls d H)) (tCons (tVar 0) (tCons (tVar 1) tNil))))
    (tSeq (tIfS (tNot (tB (tCallS (SpD K F_between) (WE (fun cls d _ H => E cls d H)) (tCons (tVar 2) (tCons (tC (.int 0)) (tCons (tOp rMinus (tOp (rIx K) (tVar 0) (tC (.int 0))) (tC (.int 1))) tNil)))))) (tRz E (.ref a_NoPlace)) tNext)
    tNever))

theorem sem_how_far {K : PySem.W.Frag} {E : XK} (a_NoHoard a_NoPlace : Addr) {ds : List PyData} {o : Out} (h : F_how_far a_NoHoard a_NoPlace ds o) : As K E (t_how_far K E a_NoHoard a_NoPlace) (slots0 4 ds) (finP o) := by
  obtain ⟨n, ms, d, p, rfl, hc, hp, h⟩ := h
  rcases h with ⟨hb, rfl⟩ | ⟨hb, hq, rfl⟩
  · exact as_seq (as_dropX (ex_hoard rfl rfl hc hb) rfl)
  · exact as_seq (as_drop (ev_hoard rfl rfl hc hb) (as_seq (as_if (et_not (a := false) (et_B (ev_call (ea_cons (ev_var rfl) (ea_cons ev_int (ea_cons (ev_op (net_size rfl) ev_int rd_minus) ea_nil))) ⟨p, _, _, rfl, cln_no hp, by rw [hq]⟩))) (fun _ => as_raise rfl) (fun z => by cases z))))

def F_run_to (a_NoHoard : Addr) (ds : List PyData) (o : Out) : Prop := ∃ n ms d g, ds = [netD n ms, d, g] ∧ cln d = true ∧ cln g = true ∧ (hoardB n d && hoardB n g) = false ∧ o = .ex (.ref a_NoHoard)
theorem len_run_to (a_NoHoard : Addr) : ∀ ds o, F_run_to a_NoHoard ds o → ds.length = 3 := fun _ _ ⟨_, _, _, _, h, _⟩ => by rw [h]; rfl
/-! run_to: slots 0 net, 1 start, 2 goal, 3 found, 4 at (5) -/
def t_run_to (K : PySem.W.Frag) (E : XK) (a_NoHoard : Addr) : TS :=
    (tSeq (tDrop (tCallS (SpD K (F_need_hoard a_NoHoard)) (WE (fun cls d _ H => E cls d H)) (tCons (tVar 0) (tCons (tVar 1) tNil))))
    (tSeq (tDrop (tCallS (SpD K (F_need_hoard a_NoHoard)) (WE (fun cls d _ H => E cls d H)) (tCons (tVar 0) (tCons (tVar 2) tNil))))
    tNever))

theorem sem_run_to {K : PySem.W.Frag} {E : XK} (a_NoHoard : Addr) {ds : List PyData} {o : Out} (h : F_run_to a_NoHoard ds o) : As K E (t_run_to K E a_NoHoard) (slots0 5 ds) (finP o) := by
  obtain ⟨n, ms, d, g, rfl, hc, hg, hb, rfl⟩ := h
  cases h1 : hoardB n d with
  | false => exact as_seq (as_dropX (ex_hoard rfl rfl hc h1) rfl)
  | true =>
    rw [h1, Bool.true_and] at hb
    exact as_seq (as_drop (ev_hoard rfl rfl hc h1) (as_seq (as_dropX (ex_hoard rfl rfl hg hb) rfl)))

def F_stuck_hoards (a_NoHoard : Addr) (ds : List PyData) (o : Out) : Prop := ∃ n ms d, ds = [netD n ms, d] ∧ cln d = true ∧ hoardB n d = false ∧ o = .ex (.ref a_NoHoard)
theorem len_stuck_hoards (a_NoHoard : Addr) : ∀ ds o, F_stuck_hoards a_NoHoard ds o → ds.length = 2 := fun _ _ ⟨_, _, _, h, _⟩ => by rw [h]; rfl
/-! stuck_hoards: slots 0 net, 1 start, 2 made, 3 row, 4 move (5) -/
def t_stuck_hoards (K : PySem.W.Frag) (E : XK) (a_NoHoard : Addr) : TS :=
    (tSeq (tDrop (tCallS (SpD K (F_need_hoard a_NoHoard)) (WE (fun cls d _ H => E cls d H)) (tCons (tVar 0) (tCons (tVar 1) tNil))))
    tNever)

theorem sem_stuck_hoards {K : PySem.W.Frag} {E : XK} (a_NoHoard : Addr) {ds : List PyData} {o : Out} (h : F_stuck_hoards a_NoHoard ds o) : As K E (t_stuck_hoards K E a_NoHoard) (slots0 5 ds) (finP o) := by
  obtain ⟨n, ms, d, rfl, hc, hb, rfl⟩ := h
  exact as_seq (as_dropX (ex_hoard rfl rfl hc hb) rfl)

def F_greatest (a_NoPlace : Addr) (ds : List PyData) (o : Out) : Prop := ∃ n ms ps a b, ds = [netD n ms, ps, .int a, .int b] ∧ cln ps = true ∧ placesB n ps = false ∧ o = .ex (.ref a_NoPlace)
theorem len_greatest (a_NoPlace : Addr) : ∀ ds o, F_greatest a_NoPlace ds o → ds.length = 4 := fun _ _ ⟨_, _, _, _, _, h, _⟩ => by rw [h]; rfl
/-! greatest: slots 0 net, 1 places, 2 gives, 3 takes, 4 left, 5 bad, 6 place (7) -/
def t_greatest (K : PySem.W.Frag) (E : XK) (a_NoPlace : Addr) : TS :=
    (tSeq (tDrop (tCallS (SpD K (F_need_places a_NoPlace)) (WE (fun cls d _ H => E cls d H)) (tCons (tVar 0) (tCons (tVar 1) tNil))))
    tNever)

theorem sem_greatest {K : PySem.W.Frag} {E : XK} (a_NoPlace : Addr) {ds : List PyData} {o : Out} (h : F_greatest a_NoPlace ds o) : As K E (t_greatest K E a_NoPlace) (slots0 7 ds) (finP o) := by
  obtain ⟨n, ms, ps, a, b, rfl, hc, hb, rfl⟩ := h
  exact as_seq (as_dropX (ex_call (ea_cons (ev_var rfl) (ea_cons (ev_var rfl) ea_nil)) ⟨n, ms, ps, rfl, hc, by rw [hb]; rfl⟩) rfl)

def F_greatest_sink (a_NoPlace : Addr) (ds : List PyData) (o : Out) : Prop := ∃ n ms ps, ds = [netD n ms, ps] ∧ cln ps = true ∧ placesB n ps = false ∧ o = .ex (.ref a_NoPlace)
theorem len_greatest_sink (a_NoPlace : Addr) : ∀ ds o, F_greatest_sink a_NoPlace ds o → ds.length = 2 := fun _ _ ⟨_, _, _, h, _⟩ => by rw [h]; rfl
/-! greatest_sink: slots 0 net, 1 places (2) -/
def t_greatest_sink (K : PySem.W.Frag) (E : XK) (a_NoPlace : Addr) : TS :=
    (tRet (tCallS (SpD K (F_greatest a_NoPlace)) (WE (fun cls d _ H => E cls d H)) (tCons (tVar 0) (tCons (tVar 1) (tCons (tC (.int 1)) (tCons (tC (.int 0)) tNil))))))

theorem sem_greatest_sink {K : PySem.W.Frag} {E : XK} (a_NoPlace : Addr) {ds : List PyData} {o : Out} (h : F_greatest_sink a_NoPlace ds o) : As K E (t_greatest_sink K E a_NoPlace) (slots0 2 ds) (finP o) := by
  obtain ⟨n, ms, ps, rfl, hc, hb, rfl⟩ := h
  exact as_retX (ex_call (ea_cons (ev_var rfl) (ea_cons (ev_var rfl) (ea_cons ev_int (ea_cons ev_int ea_nil)))) ⟨n, ms, ps, _, _, rfl, hc, hb, rfl⟩) rfl

def F_greatest_trap (a_NoPlace : Addr) (ds : List PyData) (o : Out) : Prop := ∃ n ms ps, ds = [netD n ms, ps] ∧ cln ps = true ∧ placesB n ps = false ∧ o = .ex (.ref a_NoPlace)
theorem len_greatest_trap (a_NoPlace : Addr) : ∀ ds o, F_greatest_trap a_NoPlace ds o → ds.length = 2 := fun _ _ ⟨_, _, _, h, _⟩ => by rw [h]; rfl
/-! greatest_trap: slots 0 net, 1 places (2) -/
def t_greatest_trap (K : PySem.W.Frag) (E : XK) (a_NoPlace : Addr) : TS :=
    (tRet (tCallS (SpD K (F_greatest a_NoPlace)) (WE (fun cls d _ H => E cls d H)) (tCons (tVar 0) (tCons (tVar 1) (tCons (tC (.int 0)) (tCons (tC (.int 1)) tNil))))))

theorem sem_greatest_trap {K : PySem.W.Frag} {E : XK} (a_NoPlace : Addr) {ds : List PyData} {o : Out} (h : F_greatest_trap a_NoPlace ds o) : As K E (t_greatest_trap K E a_NoPlace) (slots0 2 ds) (finP o) := by
  obtain ⟨n, ms, ps, rfl, hc, hb, rfl⟩ := h
  exact as_retX (ex_call (ea_cons (ev_var rfl) (ea_cons (ev_var rfl) (ea_cons ev_int (ea_cons ev_int ea_nil)))) ⟨n, ms, ps, _, _, rfl, hc, hb, rfl⟩) rfl

def F_is_sink (a_NoPlace : Addr) (ds : List PyData) (o : Out) : Prop := ∃ n ms ps, ds = [netD n ms, ps] ∧ cln ps = true ∧ placesB n ps = false ∧ o = .ex (.ref a_NoPlace)
theorem len_is_sink (a_NoPlace : Addr) : ∀ ds o, F_is_sink a_NoPlace ds o → ds.length = 2 := fun _ _ ⟨_, _, _, h, _⟩ => by rw [h]; rfl
/-! is_sink: slots 0 net, 1 places (2) -/
def t_is_sink (K : PySem.W.Frag) (E : XK) (a_NoPlace : Addr) : TS :=
    (tRet (tOp (rEqD K) (tCallS (SpD K (F_greatest_sink a_NoPlace)) (WE (fun cls d _ H => E cls d H)) (tCons (tVar 0) (tCons (tVar 1) tNil))) (tSortSet K (tVar 1))))

theorem sem_is_sink {K : PySem.W.Frag} {E : XK} (a_NoPlace : Addr) {ds : List PyData} {o : Out} (h : F_is_sink a_NoPlace ds o) : As K E (t_is_sink K E a_NoPlace) (slots0 2 ds) (finP o) := by
  obtain ⟨n, ms, ps, rfl, hc, hb, rfl⟩ := h
  exact as_retX (ex_opL (ex_call (ea_cons (ev_var rfl) (ea_cons (ev_var rfl) ea_nil)) ⟨n, ms, ps, rfl, hc, hb, rfl⟩)) rfl

def F_is_trap (a_NoPlace : Addr) (ds : List PyData) (o : Out) : Prop := ∃ n ms ps, ds = [netD n ms, ps] ∧ cln ps = true ∧ placesB n ps = false ∧ o = .ex (.ref a_NoPlace)
theorem len_is_trap (a_NoPlace : Addr) : ∀ ds o, F_is_trap a_NoPlace ds o → ds.length = 2 := fun _ _ ⟨_, _, _, h, _⟩ => by rw [h]; rfl
/-! is_trap: slots 0 net, 1 places (2) -/
def t_is_trap (K : PySem.W.Frag) (E : XK) (a_NoPlace : Addr) : TS :=
    (tRet (tOp (rEqD K) (tCallS (SpD K (F_greatest_trap a_NoPlace)) (WE (fun cls d _ H => E cls d H)) (tCons (tVar 0) (tCons (tVar 1) tNil))) (tSortSet K (tVar 1))))

theorem sem_is_trap {K : PySem.W.Frag} {E : XK} (a_NoPlace : Addr) {ds : List PyData} {o : Out} (h : F_is_trap a_NoPlace ds o) : As K E (t_is_trap K E a_NoPlace) (slots0 2 ds) (finP o) := by
  obtain ⟨n, ms, ps, rfl, hc, hb, rfl⟩ := h
  exact as_retX (ex_opL (ex_call (ea_cons (ev_var rfl) (ea_cons (ev_var rfl) ea_nil)) ⟨n, ms, ps, rfl, hc, hb, rfl⟩)) rfl

def F_cell_at_l (ds : List PyData) (o : Out) : Prop := ∃ ns k, ds = [scrD ns, .int k] ∧ 0 ≤ k ∧ o = .rt (.int (cellF ns k))
theorem len_cell_at_l : ∀ ds o, F_cell_at_l ds o → ds.length = 2 := fun _ _ ⟨_, _, h, _⟩ => by rw [h]; rfl
/-! cell_at_l: slots 0 _law_script, 1 _law_k (2) -/
def t_cell_at_l (K : PySem.W.Frag) (E : XK)  : TS :=
    (tSeq (tIfS (tTest (tOp rLtA (tVar 1) (tCB (rLenA K) (tCons (tVar 0) tNil)))) (tRet (tOp (rIx K) (tVar 0) (tVar 1))) tNext)
    (tSeq (tIfS (tTest (tOp (rEqD K) (tVar 0) (tLst tNil))) (tRet (tC (.int 0))) tNext)
    (tRet (tOp (rAddA K) (tOp (rMulA K) (tOp (rIx K) (tVar 0) (tOp rModA (tVar 1) (tCB (rLenA K) (tCons (tVar 0) tNil)))) (tC (.int 31))) (tVar 1)))))

theorem sem_cell_at_l {K : PySem.W.Frag} {E : XK} {ds : List PyData} {o : Out} (h : F_cell_at_l ds o) : As K E (t_cell_at_l K E) (slots0 2 ds) (finP o) := by
  obtain ⟨ns, k, rfl, h0, rfl⟩ := h
  refine as_seq (as_if (et_test (ev_op (ev_var rfl) (ev_cb (ea_cons (ev_var (x := scrD ns) rfl) ea_nil) rc_lenZ) rd_lt)) (fun hb => as_ret (ev_op (ev_var (x := scrD ns) rfl) (ev_var rfl) (rd_ixZ (at_getD h0 (of_decide_eq_true hb)))) ?_) (fun hb => as_next ?_))
  · show Out.rt _ = Out.rt _
    unfold cellF
    rw [if_pos (of_decide_eq_true hb)]
  · have hk := of_decide_eq_false hb
    refine as_seq (as_if (et_test (ev_op (ev_var (x := scrD ns) rfl) (en_lst ea_nil (by decide)).ev rd_eqZ)) (fun he => as_ret ev_int ?_) (fun he => as_next ?_))
    · show Out.rt _ = Out.rt _
      have e : ns = [] := by
        cases ns with
        | nil => rfl
        | cons a r => cases (show false = true from he)
      unfold cellF
      rw [if_neg hk, if_pos e]
    · have e : ns ≠ [] := fun z => by
        subst z
        cases (show true = false from he)
      have hl : 0 < (ns.length : Int) := by
        cases ns with
        | nil => exact absurd rfl e
        | cons a r =>
          rw [List.length_cons]
          omega
      refine as_ret (ev_op (ev_op (ev_op (ev_var (x := scrD ns) rfl) (ev_op (ev_var rfl) (ev_cb (ea_cons (ev_var (x := scrD ns) rfl) ea_nil) rc_lenZ) (rd_mod hl)) (rd_ixZ (at_getD (Int.emod_nonneg _ (by omega)) (Int.emod_lt_of_pos _ hl)))) ev_int (rd_timesB (.inr ⟨by decide, by decide⟩))) (ev_var rfl) rd_plus) ?_
      show Out.rt _ = Out.rt _
      unfold cellF
      rw [if_neg hk, if_neg e]

def F_mixed_l (ds : List PyData) (o : Out) : Prop := ∃ ns k many, ds = [scrD ns, .int k, .int many] ∧ 0 ≤ k ∧ k < 1000 ∧ 0 < many ∧ o = .rt (.int (mixedF ns k many))
theorem len_mixed_l : ∀ ds o, F_mixed_l ds o → ds.length = 3 := fun _ _ ⟨_, _, _, h, _⟩ => by rw [h]; rfl
/-! mixed_l: slots 0 _law_script, 1 _law_k, 2 _law_many, 3 _law_drawn (4) -/
def t_mixed_l (K : PySem.W.Frag) (E : XK)  : TS :=
    (tSeq (tAsg (tOp rModA (tOp (rMulA K) (tOp (rAddA K) (tOp (rAddA K) (tCallS (SpD K F_cell_at_l) (WE (fun cls d _ H => E cls d H)) (tCons (tVar 0) (tCons (tVar 1) tNil))) (tOp (rMulA K) (tC (.int 7919)) (tVar 1))) (tC (.int 1))) (tC (.int 48271))) (tC (.int 2147483647))) (gName 3))
    (tRet (tOp rModA (tOp rModA (tOp (rAddA K) (tOp (rAddA K) (tOp (rMulA K) (tVar 3) (tVar 3)) (tOp (rMulA K) (tC (.int 7)) (tVar 3))) (tVar 1)) (tC (.int 2147483629))) (tVar 2))))

theorem sem_mixed_l {K : PySem.W.Frag} {E : XK} {ds : List PyData} {o : Out} (h : F_mixed_l ds o) : As K E (t_mixed_l K E) (slots0 4 ds) (finP o) := by
  obtain ⟨ns, k, many, rfl, h0, h1, hm, rfl⟩ := h
  refine as_seq (as_set (ev_op (ev_op (ev_op (ev_op (ev_call (ea_cons (ev_var (x := scrD ns) rfl) (ea_cons (ev_var rfl) ea_nil)) ⟨ns, k, rfl, h0, rfl⟩) (ev_op ev_int (ev_var rfl) (rd_timesB (.inl ⟨by decide, by decide⟩))) rd_plus) ev_int rd_plus) ev_int (rd_timesB (.inr ⟨by decide, by decide⟩))) ev_int (rd_mod (by decide))) ?_)
  have b0 := drawn_lo ns k
  have b1 := drawn_hi ns k
  have e : (cellF ns k + 7919 * k + 1) * 48271 % 2147483647 = drawnF ns k := rfl
  rw [e]
  refine as_ret (ev_op (ev_op (ev_op (ev_op (ev_op (ev_var rfl) (ev_var rfl) (rd_timesB (.inl ⟨by omega, by omega⟩))) (ev_op ev_int (ev_var rfl) (rd_timesB (.inl ⟨by decide, by decide⟩))) rd_plus) (ev_var rfl) rd_plus) ev_int (rd_mod (by decide))) (ev_var rfl) (rd_mod hm)) rfl

def F_move_l (ds : List PyData) (o : Out) : Prop := ∃ ns at_ size even, ds = [scrD ns, .int at_, .int (size : Nat), .bool even] ∧ 0 ≤ at_ ∧ at_ < 500 ∧ 1 ≤ size ∧ size ≤ 10 ∧ o = .rt (moveD (moveF tab0 ns at_ size even))
theorem len_move_l : ∀ ds o, F_move_l ds o → ds.length = 4 := fun _ _ ⟨_, _, _, _, h, _⟩ => by rw [h]; rfl
/-! move_l: slots 0 _law_script, 1 _law_at, 2 _law_size, 3 _law_even, 4 _law_k, 5 _law_cells, 6 _law_takes, 7 _law_gives, 8 _law_left, 9 _law_cell (10) -/
def t_move_l (K : PySem.W.Frag) (E : XK)  : TS :=
    (tSeq (tAsg (tLc (iRng1 (tCons (tVar 2) tNil)) (gName 4) tYes (tCallS (SpD K F_mixed_l) (WE (fun _ _ _ _ => False)) (tCons (tVar 0) (tCons (tOp (rAddA K) (tVar 1) (tVar 4)) (tCons (tC (.int 25)) tNil)))) [4]) (gName 5))
    (tSeq (tAsg (tLc (iList K (tVar 5)) (gName 9) tYes (tOp (rIx K) (tLst (tCons (tC (.int 0)) (tCons (tC (.int 0)) (tCons (tC (.int 1)) (tCons (tC (.int 1)) (tCons (tC (.int 2)) tNil)))))) (tOp rModA (tVar 9) (tC (.int 5)))) [9]) (gName 6))
    (tSeq (tAsg (tLc (iList K (tVar 5)) (gName 9) tYes (tOp (rIx K) (tLst (tCons (tC (.int 0)) (tCons (tC (.int 0)) (tCons (tC (.int 1)) (tCons (tC (.int 1)) (tCons (tC (.int 2)) tNil)))))) (tOp rDivA (tVar 9) (tC (.int 5)))) [9]) (gName 7))
    (tSeq (tIfS (tB (tVar 3)) (tSeq (tAsg (tLc (iRng1 (tCons (tVar 2) tNil)) (gName 4) tYes (tC (.int 0)) [4]) (gName 7))
    (tSeq (tAsg (tCallS (SpD K F_mixed_l) (WE (fun cls d _ H => E cls d H)) (tCons (tVar 0) (tCons (tOp (rAddA K) (tVar 1) (tC (.int 4))) (tCons (tOp rPowA (tC (.int 4)) (tC (.int 8))) tNil)))) (gName 8))
    (tFor (iRng1 (tCons (tCB (rSum K) (tCons (tVar 6) tNil)) tNil)) (gName 4) (tSeq (tAsg (tOp (rAddA K) (tOp (rIx K) (tVar 7) (tOp rModA (tVar 8) (tVar 2))) (tC (.int 1))) (gSub (tVar 7) (tOp rModA (tVar 8) (tVar 2)) rSetL))
    (tAsg (tOp rDivA (tVar 8) (tVar 2)) (gName 8)))))) tNext)
    (tRet (tTup (tCons (tCB (rTupA K) (tCons (tVar 6) tNil)) (tCons (tCB (rTupA K) (tCons (tVar 7) tNil)) tNil))))))))

theorem sem_move_l {K : PySem.W.Frag} {E : XK} {ds : List PyData} {o : Out} (h : F_move_l ds o) : As K E (t_move_l K E) (slots0 10 ds) (finP o) := by
  obtain ⟨ns, at_, size, even, rfl, h0, h1, hs, hs2, rfl⟩ := h
  have hcz : ((cellsF ns at_ size).map PyData.int).length ≤ sizeLine := by
    unfold cellsF
    rw [List.length_map, List.length_map, List.length_range]
    exact small_line (by omega)
  -- cells
  refine as_to (δ1 := [.d (scrD ns), .d (.int at_), .d (.int (size : Nat)), .d (.bool even), .no, .d (.list ((cellsF ns at_ size).map .int)), .no, .no, .no, .no]) (as_set (ev_to (en_map (fun i => .int (mixedF ns (at_ + i) 25)) (ei_rng1 (ea_cons (ev_var rfl) ea_nil) (by omega) (by omega)) (nums_line (by omega)) (gw1 4) (fun i d hd => ?_)).ev ?_) rfl) ?_
  · obtain ⟨hi, rfl⟩ := nums_get hd
    refine ag_name ?_
    rw [Int.zero_add]
    exact ev_call (ea_cons (ev_var (x := scrD ns) rfl) (ea_cons (ev_op (ev_var rfl) (ev_var rfl) rd_plus) (ea_cons ev_int ea_nil))) ⟨ns, _, _, rfl, by omega, by omega, by decide, rfl⟩
  · rw [nums_len]
    unfold cellsF
    rw [List.map_map]
    rfl
  have htl : tab0.length = 5 := rfl
  have hta : ∀ x ∈ tab0, 0 ≤ x ∧ x ≤ 9 := by decide
  have hrow : ∀ f : Int → Int, (∀ c, 0 ≤ c → c < 25 → 0 ≤ f c ∧ f c < 5) → RowOk size 9 (tabRow tab0 f (cellsF ns at_ size)) := fun f hf => tab_ok htl hta hf
  have hcell : ∀ (i : Nat) (d : PyData), ((cellsF ns at_ size).map PyData.int)[i]? = some d → d = .int ((cellsF ns at_ size).getD i 0) ∧ 0 ≤ (cellsF ns at_ size).getD i 0 ∧ (cellsF ns at_ size).getD i 0 < 25 := fun i d hd => by
    obtain ⟨z, hz, rfl⟩ := row_get' hd
    have hm := cells_get (List.mem_of_getElem? hz)
    rw [List.getD_eq_getElem?_getD, hz]
    exact ⟨rfl, hm⟩
  have t1 := hrow (· % 5) fun c a b => ⟨Int.emod_nonneg _ (by decide), Int.emod_lt_of_pos _ (by decide)⟩
  have t2 := hrow (· / 5) fun c a b => ⟨by omega, by omega⟩
  unfold moveF
  generalize htk : tabRow tab0 (· % 5) (cellsF ns at_ size) = tk at t1 ⊢
  generalize hgv : tabRow tab0 (· / 5) (cellsF ns at_ size) = gv at t2 ⊢
  -- takes, gives by the table
  refine as_to (δ1 := [.d (scrD ns), .d (.int at_), .d (.int (size : Nat)), .d (.bool even), .no, .d (.list ((cellsF ns at_ size).map .int)), .d (.list (tk.map .int)), .no, .no, .no]) (as_set (ev_to (en_map (fun i => .int (tab0.getD ((cellsF ns at_ size).getD i 0 % 5).toNat 0)) (ei_list (ev_var rfl)) hcz (gw1 9) (fun i d hd => ?_)).ev ?_) rfl) ?_
  · obtain ⟨rfl, c0, c1⟩ := hcell i d hd
    exact ag_name (ev_op (en_lst (ea_cons ev_int (ea_cons ev_int (ea_cons ev_int (ea_cons ev_int (ea_cons ev_int ea_nil))))) (by decide)).ev (ev_op (ev_var rfl) ev_int (rd_mod (by decide))) (rd_ixL (at_row (l := tab0) (Int.emod_nonneg _ (by decide)) (by rw [htl]; exact Int.emod_lt_of_pos _ (by decide)))))
  · rw [← htk, List.length_map, map_range (cellsF ns at_ size) 0 fun c => PyData.int (tab0.getD (c % 5).toNat 0)]
    unfold tabRow
    rw [List.map_map]
    rfl
  refine as_to (δ1 := [.d (scrD ns), .d (.int at_), .d (.int (size : Nat)), .d (.bool even), .no, .d (.list ((cellsF ns at_ size).map .int)), .d (.list (tk.map .int)), .own (gv.map .int), .no, .no]) (as_setN (en_to (en_map (fun i => .int (tab0.getD ((cellsF ns at_ size).getD i 0 / 5).toNat 0)) (ei_list (ev_var rfl)) hcz (gw1 9) (fun i d hd => ?_)) ?_) rfl) ?_
  · obtain ⟨rfl, c0, c1⟩ := hcell i d hd
    exact ag_name (ev_op (en_lst (ea_cons ev_int (ea_cons ev_int (ea_cons ev_int (ea_cons ev_int (ea_cons ev_int ea_nil))))) (by decide)).ev (ev_op (ev_var rfl) ev_int (rd_quo (b := 30) (by decide) (by decide) (by decide) (by decide))) (rd_ixL (at_row (l := tab0) (by omega) (by rw [htl]; omega))))
  · rw [← hgv, List.length_map, map_range (cellsF ns at_ size) 0 fun c => PyData.int (tab0.getD (c / 5).toNat 0)]
    unfold tabRow
    rw [List.map_map]
    rfl
  -- as many as it takes
  refine as_toQ (Q := fun δ1 => ∃ z4 z9, δ1 = [.d (scrD ns), .d (.int at_), .d (.int (size : Nat)), .d (.bool even), z4, .d (.list ((cellsF ns at_ size).map .int)), .d (.list (tk.map .int)), .own ((if even then pour size tk.sum.toNat (List.replicate size 0) (mixedF ns (at_ + 4) 65536) else gv).map .int), z9, .no]) ?_ ?_
  · refine as_if (et_B (ev_var rfl)) (fun he => ?_) (fun he => as_next ⟨_, ⟨.no, .no, by rw [he]; rfl⟩, rfl⟩)
    subst he
    have hsum := sum_le _ t1.2
    have hsz : (size : Int) ≤ 10 := by omega
    have hsm : 9 * (tk.length : Int) ≤ 90 := by rw [t1.1]; omega
    refine as_to (δ1 := [.d (scrD ns), .d (.int at_), .d (.int (size : Nat)), .d (.bool true), .no, .d (.list ((cellsF ns at_ size).map .int)), .d (.list (tk.map .int)), .own ((List.replicate size (0 : Int)).map .int), .no, .no]) (as_setN (en_to (en_map (fun i => .int 0) (ei_rng1 (ea_cons (ev_var rfl) ea_nil) (by omega) (by omega)) (nums_line (by omega)) (gw1 4) (fun i d hd => ag_name ev_int)) ?_) rfl) ?_
    · rw [nums_len, List.map_replicate, Int.toNat_natCast]
      apply List.ext_getElem?
      intro k
      rw [List.getElem?_map, List.getElem?_replicate]
      by_cases hk : k < size
      · rw [List.getElem?_range hk, if_pos hk]; rfl
      · rw [List.getElem?_eq_none_iff.mpr (by rw [List.length_range]; omega), if_neg hk]; rfl
    refine as_to (δ1 := [.d (scrD ns), .d (.int at_), .d (.int (size : Nat)), .d (.bool true), .no, .d (.list ((cellsF ns at_ size).map .int)), .d (.list (tk.map .int)), .own ((List.replicate size (0 : Int)).map .int), .d (.int (mixedF ns (at_ + 4) 65536)), .no]) (as_set (ev_call (ea_cons (ev_var (x := scrD ns) rfl) (ea_cons (ev_op (ev_var rfl) ev_int rd_plus) (ea_cons (ev_op ev_int ev_int (rd_pow ⟨by decide, by decide, by decide⟩)) ea_nil))) ⟨ns, at_ + 4, 65536, rfl, by omega, by omega, by decide, rfl⟩) rfl) ?_
    generalize hg0 : pour size tk.sum.toNat (List.replicate size 0) (mixedF ns (at_ + 4) 65536) = res
    refine as_for (ei_rng1 (ea_cons (ev_cb (ea_cons (ev_var (x := .list (tk.map .int)) rfl) ea_nil) rc_sum) ea_nil) (by omega) (by omega)) (fun i δ' => ∃ z4 g l, δ' = [.d (scrD ns), .d (.int at_), .d (.int (size : Nat)), .d (.bool true), z4, .d (.list ((cellsF ns at_ size).map .int)), .d (.list (tk.map .int)), .own (g.map .int), .d (.int l), .no] ∧ g.length = size ∧ pour size (tk.sum.toNat - i) g l = res) ⟨.no, _, _, rfl, List.length_replicate, hg0⟩ (fun i d δ' hd hp => ?_) (fun δ' hp => ?_)
    · obtain ⟨z4, g, l, rfl, hgl, hpo⟩ := hp
      obtain ⟨hi, rfl⟩ := nums_get hd
      have m0 : 0 ≤ l % (size : Int) := Int.emod_nonneg _ (by omega)
      have m1 : l % (size : Int) < g.length := by rw [hgl]; exact Int.emod_lt_of_pos _ (by omega)
      refine ag_name (as_seq (as_setI (xs := g.map .int) rfl (ev_borrow (i := 7) (xs := g.map .int) rfl (ev_op (ev_op (ev_var rfl) (ev_op (ev_var rfl) (ev_var rfl) (rd_mod (by omega))) (rd_ixL (at_row m0 m1))) ev_int rd_plus) rfl) (ev_op (ev_var rfl) (ev_var rfl) (rd_mod (by omega))) (ix_of m0 (by rw [List.length_map]; exact m1)) ?_))
      refine as_set (ev_op (ev_var rfl) (ev_var rfl) (rd_quo (b := 30) (by omega) (by omega) (by decide) (by decide))) ⟨_, _, _, by rw [map_set_int]; rfl, by rw [List.length_set]; exact hgl, ?_⟩
      rw [← hpo, show tk.sum.toNat - i = (tk.sum.toNat - (i + 1)) + 1 by omega]
      rfl
    · obtain ⟨z4, g, l, rfl, hgl, hpo⟩ := hp
      rw [nums_len, Nat.sub_self] at hpo
      exact ⟨_, ⟨z4, _, by rw [← hpo]; rfl⟩, rfl⟩
  · rintro δ1 ⟨z4, z9, rfl⟩
    refine as_freeze (i := 7) rfl (as_ret (ev_tup (ea_cons (ev_cb (ea_cons (ev_var rfl) ea_nil) rc_tup) (ea_cons (ev_cb (ea_cons (ev_var rfl) ea_nil) rc_tup) ea_nil)) (by show 2 ≤ sizeLine; decide)) ?_)
    rfl

def F_net_l (ds : List PyData) (o : Out) : Prop := ∃ ns at_, ds = [scrD ns, .int at_] ∧ 0 ≤ at_ ∧ at_ < 300 ∧ o = .rt (netD (sizeF ns at_) (movesF tab0 ns at_))
theorem len_net_l : ∀ ds o, F_net_l ds o → ds.length = 2 := fun _ _ ⟨_, _, h, _⟩ => by rw [h]; rfl
/-! net_l: slots 0 _law_script, 1 _law_at, 2 _law_size, 3 _law_many, 4 _law_even, 5 _law_k (6) -/
def t_net_l (K : PySem.W.Frag) (E : XK)  : TS :=
    (tSeq (tAsg (tOp (rAddA K) (tC (.int 1)) (tCallS (SpD K F_mixed_l) (WE (fun cls d _ H => E cls d H)) (tCons (tVar 0) (tCons (tVar 1) (tCons (tC (.int 3)) tNil))))) (gName 2))
    (tSeq (tAsg (tCallS (SpD K F_mixed_l) (WE (fun cls d _ H => E cls d H)) (tCons (tVar 0) (tCons (tOp (rAddA K) (tVar 1) (tC (.int 1))) (tCons (tC (.int 5)) tNil)))) (gName 3))
    (tSeq (tIfS (tTest (tOp (rEqD K) (tCallS (SpD K F_mixed_l) (WE (fun cls d _ H => E cls d H)) (tCons (tVar 0) (tCons (tOp (rAddA K) (tVar 1) (tC (.int 2))) (tCons (tC (.int 6)) tNil)))) (tC (.int 5)))) (tAsg (tC (.int 4)) (gName 2)) tNext)
    (tSeq (tAsg (tOp (rEqD K) (tCallS (SpD K F_mixed_l) (WE (fun cls d _ H => E cls d H)) (tCons (tVar 0) (tCons (tOp (rAddA K) (tVar 1) (tC (.int 3))) (tCons (tC (.int 2)) tNil)))) (tC (.int 1))) (gName 4))
    (tRet (tTup (tCons (tVar 2) (tCons (tCB (rTupA K) (tCons (tLc (iRng1 (tCons (tVar 3) tNil)) (gName 5) tYes (tCallS (SpD K F_move_l) (WE (fun _ _ _ _ => False)) (tCons (tVar 0) (tCons (tOp (rAddA K) (tOp (rAddA K) (tVar 1) (tC (.int 4))) (tOp (rMulA K) (tC (.int 5)) (tVar 5))) (tCons (tVar 2) (tCons (tVar 4) tNil))))) [5]) tNil)) tNil))))))))

theorem sem_net_l {K : PySem.W.Frag} {E : XK} {ds : List PyData} {o : Out} (h : F_net_l ds o) : As K E (t_net_l K E) (slots0 6 ds) (finP o) := by
  obtain ⟨ns, at_, rfl, h0, h1, rfl⟩ := h
  have b3 := mixed_lo ns at_ (many := 3) (by decide)
  have b5 := mixed_lo ns (at_ + 1) (many := 5) (by decide)
  have hz := size_ok ns at_
  have hm := many_ok ns at_
  refine as_seq (as_set (x := .int (1 + mixedF ns at_ 3)) (ev_op ev_int (ev_call (ea_cons (ev_var (x := scrD ns) rfl) (ea_cons (ev_var rfl) (ea_cons ev_int ea_nil))) ⟨ns, _, _, rfl, h0, by omega, by decide, rfl⟩) rd_plus) ?_)
  refine as_seq (as_set (x := .int (manyF ns at_ : Nat)) (ev_to (ev_call (ea_cons (ev_var (x := scrD ns) rfl) (ea_cons (ev_op (ev_var rfl) ev_int rd_plus) (ea_cons ev_int ea_nil))) ⟨ns, _, _, rfl, by omega, by omega, by decide, rfl⟩) ?_) ?_)
  · unfold manyF
    rw [Int.toNat_of_nonneg b5]
  refine as_to (δ1 := [.d (scrD ns), .d (.int at_), .d (.int (sizeF ns at_ : Nat)), .d (.int (manyF ns at_ : Nat)), .no, .no]) ?_ ?_
  · refine as_if (et_test (ev_op (ev_call (ea_cons (ev_var (x := scrD ns) rfl) (ea_cons (ev_op (ev_var rfl) ev_int rd_plus) (ea_cons ev_int ea_nil))) ⟨ns, _, _, rfl, by omega, by omega, by decide, rfl⟩) ev_int (rd_eq rfl rfl))) (fun hb => ?_) (fun hb => ?_)
    · rw [eqv_int] at hb
      have e : sizeF ns at_ = 4 := by
        unfold sizeF
        rw [if_pos (of_decide_eq_true hb)]
      rw [e]
      exact as_set ev_int rfl
    · rw [eqv_int] at hb
      have e : ((sizeF ns at_ : Nat) : Int) = 1 + mixedF ns at_ 3 := by
        unfold sizeF
        rw [if_neg (of_decide_eq_false hb)]
        omega
      rw [e]
      exact as_next rfl
  refine as_seq (as_set (x := .bool (evenF ns at_)) (ev_to (ev_op (ev_call (ea_cons (ev_var (x := scrD ns) rfl) (ea_cons (ev_op (ev_var rfl) ev_int rd_plus) (ea_cons ev_int ea_nil))) ⟨ns, _, _, rfl, by omega, by omega, by decide, rfl⟩) ev_int (rd_eq rfl rfl)) (by rw [eqv_int]; rfl)) ?_)
  refine as_ret (ev_tup (ea_cons (ev_var rfl) (ea_cons (ev_to (ev_cb (ea_cons (en_map (fun i => moveD (moveF tab0 ns (at_ + 4 + 5 * i) (sizeF ns at_) (evenF ns at_))) (ei_rng1 (ea_cons (ev_var rfl) ea_nil) (by omega) (by omega)) (nums_line (by omega)) (gw1 5) (fun i d hd => ?_)).ev ea_nil) rc_tup) ?_) ea_nil)) (by show 2 ≤ sizeLine; decide)) rfl
  · obtain ⟨hi, rfl⟩ := nums_get hd
    refine ag_name ?_
    rw [Int.zero_add]
    exact ev_call (ea_cons (ev_var (x := scrD ns) rfl) (ea_cons (ev_op (ev_op (ev_var rfl) ev_int rd_plus) (ev_op ev_int (ev_var rfl) (rd_timesB (.inl ⟨by decide, by decide⟩))) rd_plus) (ea_cons (ev_var rfl) (ea_cons (ev_var rfl) ea_nil)))) ⟨ns, _, _, _, rfl, by omega, by omega, hz.1, by omega, rfl⟩
  · rw [nums_len, Int.toNat_natCast]
    unfold movesF
    rw [List.map_map]
    rfl

def F_hoard_l (ds : List PyData) (o : Out) : Prop := ∃ ns at_ size most, ds = [scrD ns, .int at_, .int (size : Nat), .int most] ∧ 0 ≤ at_ ∧ at_ < 500 ∧ size ≤ 100 ∧ 0 ≤ most ∧ o = .rt (rowD (hoardF ns at_ size most))
theorem len_hoard_l : ∀ ds o, F_hoard_l ds o → ds.length = 4 := fun _ _ ⟨_, _, _, _, h, _⟩ => by rw [h]; rfl
/-! hoard_l: slots 0 _law_script, 1 _law_at, 2 _law_size, 3 _law_most, 4 _law_k (5) -/
def t_hoard_l (K : PySem.W.Frag) (E : XK)  : TS :=
    (tRet (tCB (rTupA K) (tCons (tLc (iRng1 (tCons (tVar 2) tNil)) (gName 4) tYes (tCallS (SpD K F_mixed_l) (WE (fun _ _ _ _ => False)) (tCons (tVar 0) (tCons (tOp (rAddA K) (tVar 1) (tVar 4)) (tCons (tOp (rAddA K) (tVar 3) (tC (.int 1))) tNil)))) [4]) tNil)))

theorem sem_hoard_l {K : PySem.W.Frag} {E : XK} {ds : List PyData} {o : Out} (h : F_hoard_l ds o) : As K E (t_hoard_l K E) (slots0 5 ds) (finP o) := by
  obtain ⟨ns, at_, size, most, rfl, h0, h1, hs, hm, rfl⟩ := h
  refine as_ret (ev_to (ev_cb (ea_cons (en_map (fun i => .int (mixedF ns (at_ + i) (most + 1))) (ei_rng1 (ea_cons (ev_var rfl) ea_nil) (by omega) (by omega)) (nums_line (by omega)) (gw1 4) (fun i d hd => ?_)).ev ea_nil) rc_tup) ?_) rfl
  · obtain ⟨hi, rfl⟩ := nums_get hd
    refine ag_name ?_
    rw [Int.zero_add]
    exact ev_call (ea_cons (ev_var (x := scrD ns) rfl) (ea_cons (ev_op (ev_var rfl) (ev_var rfl) rd_plus) (ea_cons (ev_op (ev_var rfl) ev_int rd_plus) ea_nil))) ⟨ns, _, _, rfl, by omega, by omega, by omega, rfl⟩
  · rw [nums_len]
    unfold rowD hoardF
    rw [List.map_map]
    rfl

def F_with_hoard_l (a_NoHoard a_NoMove a_NoPlace : Addr) (ds : List PyData) (o : Out) : Prop := ∃ n ms w d g, ds = [netD n ms, .int w, d, rowD g] ∧ cln d = true ∧ hoardB n d = false ∧ g.length = n ∧ (∀ x ∈ g, 0 ≤ x) ∧ o = .ex (.ref a_NoHoard)
theorem len_with_hoard_l (a_NoHoard a_NoMove a_NoPlace : Addr) : ∀ ds o, F_with_hoard_l a_NoHoard a_NoMove a_NoPlace ds o → ds.length = 4 := fun _ _ ⟨_, _, _, _, _, h, _⟩ => by rw [h]; rfl
theorem as_pick {K : PySem.W.Frag} {E : XK} {δ : List Sl} {tv te : TE} {u : TS} {w k : Int} {c : Value} {P : Out → Prop} (hv : Ev K tv δ (.int w)) (hP : P (.ex c)) (hit : w = k → EvX K E te δ c) (miss : w ≠ k → As K E u δ P) :
    As K E (tSeq (tIfS (tTest (tOp (rEqD K) tv (tC (.int k)))) (tRet te) tNext) u) δ P :=
  as_seq (as_if (et_test (ev_op hv ev_int (rd_eq rfl rfl))) (fun hb => as_retX (hit (by rw [eqv_int] at hb; exact of_decide_eq_true hb)) hP) (fun hb => as_next (miss (by rw [eqv_int] at hb; exact of_decide_eq_false hb))))
theorem in_zero {k : Nat} (h : 0 < k) : inB (.int 0) 0 ((k : Int) - 1) = true := by
  show (decide ((0 : Int) ≤ 0) && decide ((0 : Int) ≤ (k : Int) - 1)) = true
  rw [decide_eq_true (by omega), decide_eq_true (by omega)]
  rfl
theorem in_neg {k : Int} : inB (.int (-1)) 0 k = false := rfl
/-! with_hoard_l: slots 0 _law_net_here, 1 _law_what, 2 _law_bad, 3 _law_good (4) -/
def t_with_hoard_l (K : PySem.W.Frag) (E : XK) (a_NoHoard : Addr) (a_NoMove : Addr) (a_NoPlace : Addr) : TS :=
    (tSeq (tIfS (tTest (tOp (rEqD K) (tVar 1) (tC (.int 0)))) (tRet (tCallS (SpD K (F_sill a_NoHoard)) (WE (fun cls d _ H => E cls d H)) (tCons (tVar 0) (tCons (tVar 2) tNil)))) tNext)
    (tSeq (tIfS (tTest (tOp (rEqD K) (tVar 1) (tC (.int 1)))) (tRet (tCallS (SpD K (F_cover a_NoHoard)) (WE (fun cls d _ H => E cls d H)) (tCons (tVar 0) (tCons (tVar 2) (tCons (tVar 3) tNil))))) tNext)
    (tSeq (tIfS (tTest (tOp (rEqD K) (tVar 1) (tC (.int 2)))) (tRet (tCallS (SpD K (F_cover a_NoHoard)) (WE (fun cls d _ H => E cls d H)) (tCons (tVar 0) (tCons (tVar 3) (tCons (tVar 2) tNil))))) tNext)
    (tSeq (tIfS (tTest (tOp (rEqD K) (tVar 1) (tC (.int 3)))) (tRet (tCallS (SpD K (F_all_of a_NoHoard)) (WE (fun cls d _ H => E cls d H)) (tCons (tVar 0) (tCons (tVar 2) tNil)))) tNext)
    (tSeq (tIfS (tTest (tOp (rEqD K) (tVar 1) (tC (.int 4)))) (tRet (tCallS (SpD K (F_run_to a_NoHoard)) (WE (fun cls d _ H => E cls d H)) (tCons (tVar 0) (tCons (tVar 2) (tCons (tVar 3) tNil))))) tNext)
    (tSeq (tIfS (tTest (tOp (rEqD K) (tVar 1) (tC (.int 5)))) (tRet (tCallS (SpD K (F_stuck_hoards a_NoHoard)) (WE (fun cls d _ H => E cls d H)) (tCons (tVar 0) (tCons (tVar 2) tNil)))) tNext)
    (tSeq (tIfS (tTest (tOp (rEqD K) (tVar 1) (tC (.int 6)))) (tRet (tCallS (SpD K (F_behind a_NoHoard a_NoMove)) (WE (fun cls d _ H => E cls d H)) (tCons (tVar 0) (tCons (tVar 2) (tCons (tLst tNil) tNil))))) tNext)
    (tSeq (tIfS (tTest (tOp (rEqD K) (tVar 1) (tC (.int 7)))) (tRet (tCallS (SpD K (F_together a_NoHoard a_NoPlace)) (WE (fun cls d _ H => E cls d H)) (tCons (tVar 0) (tCons (tVar 2) (tCons (tLst tNil) tNil))))) tNext)
    (tSeq (tIfS (tTest (tOp (rEqD K) (tVar 1) (tC (.int 8)))) (tRet (tCallS (SpD K (F_how_far a_NoHoard a_NoPlace)) (WE (fun cls d _ H => E cls d H)) (tCons (tVar 0) (tCons (tVar 2) (tCons (tC (.int 0)) tNil))))) tNext)
    (tSeq (tIfS (tTest (tOp (rEqD K) (tVar 1) (tC (.int 9)))) (tRet (tCallS (SpD K (F_run_to a_NoHoard)) (WE (fun cls d _ H => E cls d H)) (tCons (tVar 0) (tCons (tVar 3) (tCons (tVar 2) tNil))))) tNext)
    (tSeq (tIfS (tOr (tTest (tOp (rEqD K) (tVar 1) (tC (.int 10)))) (tTest (tOp (rEqD K) (tOp (rIx K) (tVar 0) (tC (.int 1))) (tTup tNil)))) (tRet (tCallS (SpD K (F_can a_NoHoard a_NoMove)) (WE (fun cls d _ H => E cls d H)) (tCons (tVar 0) (tCons (tVar 2) (tCons (tC (.int 0)) tNil))))) tNext)
    (tRet (tCallS (SpD K (F_least_before a_NoHoard a_NoMove)) (WE (fun cls d _ H => E cls d H)) (tCons (tVar 0) (tCons (tC (.int 0)) (tCons (tVar 2) tNil))))))))))))))))

theorem sem_with_hoard_l {K : PySem.W.Frag} {E : XK} (a_NoHoard a_NoMove a_NoPlace : Addr) {ds : List PyData} {o : Out} (h : F_with_hoard_l a_NoHoard a_NoMove a_NoPlace ds o) : As K E (t_with_hoard_l K E a_NoHoard a_NoMove a_NoPlace) (slots0 4 ds) (finP o) := by
  obtain ⟨n, ms, w, d, g, rfl, hc, hb, hg, h0, rfl⟩ := h
  have hG := hoardB_row hg h0
  have cG := cln_row g
  have c2 : (hoardB n d && hoardB n (rowD g)) = false := by rw [hb]; rfl
  have c3 : (hoardB n (rowD g) && hoardB n d) = false := by rw [hb, Bool.and_false]
  refine as_pick (ev_var rfl) rfl (fun _ => ex_call (ea_cons (ev_var rfl) (ea_cons (ev_var rfl) ea_nil)) ⟨n, ms, d, rfl, hc, hb, rfl⟩) fun _ => ?_
  refine as_pick (ev_var rfl) rfl (fun _ => ex_call (ea_cons (ev_var rfl) (ea_cons (ev_var rfl) (ea_cons (ev_var rfl) ea_nil))) ⟨n, ms, d, _, rfl, hc, cG, c2, rfl⟩) fun _ => ?_
  refine as_pick (ev_var rfl) rfl (fun _ => ex_call (ea_cons (ev_var rfl) (ea_cons (ev_var rfl) (ea_cons (ev_var rfl) ea_nil))) ⟨n, ms, _, d, rfl, cG, hc, c3, rfl⟩) fun _ => ?_
  refine as_pick (ev_var rfl) rfl (fun _ => ex_call (ea_cons (ev_var rfl) (ea_cons (ev_var rfl) ea_nil)) ⟨n, ms, d, rfl, hc, hb, rfl⟩) fun _ => ?_
  refine as_pick (ev_var rfl) rfl (fun _ => ex_call (ea_cons (ev_var rfl) (ea_cons (ev_var rfl) (ea_cons (ev_var rfl) ea_nil))) ⟨n, ms, d, _, rfl, hc, cG, c2, rfl⟩) fun _ => ?_
  refine as_pick (ev_var rfl) rfl (fun _ => ex_call (ea_cons (ev_var rfl) (ea_cons (ev_var rfl) ea_nil)) ⟨n, ms, d, rfl, hc, hb, rfl⟩) fun _ => ?_
  refine as_pick (ev_var rfl) rfl (fun _ => ex_call (ea_cons (ev_var rfl) (ea_cons (ev_var rfl) (ea_cons (en_lst ea_nil (by decide)).ev ea_nil))) ⟨n, ms, d, _, rfl, hc, rfl, .inl ⟨hb, rfl⟩⟩) fun _ => ?_
  refine as_pick (ev_var rfl) rfl (fun _ => ex_call (ea_cons (ev_var rfl) (ea_cons (ev_var rfl) (ea_cons (en_lst ea_nil (by decide)).ev ea_nil))) ⟨n, ms, d, _, rfl, hc, rfl, .inl ⟨hb, rfl⟩⟩) fun _ => ?_
  refine as_pick (ev_var rfl) rfl (fun _ => ex_call (ea_cons (ev_var rfl) (ea_cons (ev_var rfl) (ea_cons ev_int ea_nil))) ⟨n, ms, d, _, rfl, hc, rfl, .inl ⟨hb, rfl⟩⟩) fun _ => ?_
  refine as_pick (ev_var rfl) rfl (fun _ => ex_call (ea_cons (ev_var rfl) (ea_cons (ev_var rfl) (ea_cons (ev_var rfl) ea_nil))) ⟨n, ms, _, d, rfl, cG, hc, c3, rfl⟩) fun _ => ?_
  refine as_seq (as_if (et_or (et_test (ev_op (ev_var rfl) ev_int (rd_eq rfl rfl))) fun _ => et_test (ev_op (net_moves rfl) (ev_tup ea_nil (by decide)) (rd_eq (shaped_moves ms) (by decide)))) (fun _ => as_retX (ex_call (ea_cons (ev_var rfl) (ea_cons (ev_var rfl) (ea_cons ev_int ea_nil))) ⟨n, ms, d, _, rfl, hc, rfl, .inl ⟨hb, rfl⟩⟩) rfl) (fun hq => as_next ?_))
  rw [eqv_moves, Bool.or_eq_false_iff, decide_eq_false_iff_not] at hq
  exact as_retX (ex_call (ea_cons (ev_var rfl) (ea_cons ev_int (ea_cons (ev_var rfl) ea_nil))) ⟨n, ms, _, d, rfl, hc, rfl, .inr ⟨in_zero (List.length_pos_iff.mpr hq.2), hb, rfl⟩⟩) rfl

def F_with_move_l (a_NoHoard a_NoMove : Addr) (ds : List PyData) (o : Out) : Prop := ∃ n ms w d g, ds = [netD n ms, .int w, d, rowD g] ∧ cln d = true ∧ plainD d = true ∧ inB d 0 ((ms.length : Int) - 1) = false ∧ ms.length ≤ 100 ∧ g.length = n ∧ (∀ x ∈ g, 0 ≤ x) ∧ o = .ex (.ref a_NoMove)
theorem len_with_move_l (a_NoHoard a_NoMove : Addr) : ∀ ds o, F_with_move_l a_NoHoard a_NoMove ds o → ds.length = 4 := fun _ _ ⟨_, _, _, _, _, h, _⟩ => by rw [h]; rfl
theorem cln_zeros (d : PyData) (hd : cln d = true) : ∀ k : Nat, clnAll (List.replicate k (.int 0) ++ [d]) = true
  | 0 => by show (cln d && true) = true; rw [hd]; rfl
  | k + 1 => by
    show (true && clnAll (List.replicate k (.int 0) ++ [d])) = true
    rw [cln_zeros d hd k]
    rfl
/-! with_move_l: slots 0 _law_net_here, 1 _law_what, 2 _law_bad, 3 _law_good, 4 _law_move_here (5) -/
def t_with_move_l (K : PySem.W.Frag) (E : XK) (a_NoHoard : Addr) (a_NoMove : Addr) : TS :=
    (tSeq (tIfS (tTest (tOp (rEqD K) (tVar 1) (tC (.int 0)))) (tRet (tCallS (SpD K (F_can a_NoHoard a_NoMove)) (WE (fun cls d _ H => E cls d H)) (tCons (tVar 0) (tCons (tVar 3) (tCons (tVar 2) tNil))))) tNext)
    (tSeq (tIfS (tTest (tOp (rEqD K) (tVar 1) (tC (.int 1)))) (tRet (tCallS (SpD K (F_least_before a_NoHoard a_NoMove)) (WE (fun cls d _ H => E cls d H)) (tCons (tVar 0) (tCons (tVar 2) (tCons (tVar 3) tNil))))) tNext)
    (tSeq (tIfS (tTest (tOp (rEqD K) (tVar 1) (tC (.int 2)))) (tRet (tCallS (SpD K (F_behind a_NoHoard a_NoMove)) (WE (fun cls d _ H => E cls d H)) (tCons (tVar 0) (tCons (tVar 3) (tCons (tLst (tCons (tVar 2) tNil)) tNil))))) tNext)
    (tSeq (tIfS (tTest (tOp (rEqD K) (tVar 1) (tC (.int 3)))) (tRet (tCallS (SpD K (F_behind a_NoHoard a_NoMove)) (WE (fun cls d _ H => E cls d H)) (tCons (tVar 0) (tCons (tVar 3) (tCons (tTup tNil) tNil))))) tNext)
    (tSeq (tIfS (tTest (tOp (rEqD K) (tVar 1) (tC (.int 4)))) (tRet (tCallS (SpD K (F_behind a_NoHoard a_NoMove)) (WE (fun cls d _ H => E cls d H)) (tCons (tVar 0) (tCons (tVar 3) (tCons (tOp (rIx K) (tLst (tCons (tC .non) (tCons (tC (.str (PySem.Str.ofString "0"))) tNil))) (tCB (rIntA) (tCons (tOp rIsTr (tVar 2) (tC (.bl true))) tNil))) tNil))))) tNext)
    (tRet (tCallS (SpD K (F_behind a_NoHoard a_NoMove)) (WE (fun cls d _ H => E cls d H)) (tCons (tVar 0) (tCons (tVar 3) (tCons (tOp (rAddA K) (tLc (iTup K (tOp (rIx K) (tVar 0) (tC (.int 1)))) (gName 4) tYes (tC (.int 0)) [4]) (tLst (tCons (tVar 2) tNil))) tNil))))))))))

theorem sem_with_move_l {K : PySem.W.Frag} {E : XK} (a_NoHoard a_NoMove : Addr) {ds : List PyData} {o : Out} (h : F_with_move_l a_NoHoard a_NoMove ds o) : As K E (t_with_move_l K E a_NoHoard a_NoMove) (slots0 5 ds) (finP o) := by
  obtain ⟨n, ms, w, d, g, rfl, hc, hp, hb, hl, hg, h0, rfl⟩ := h
  have hG := hoardB_row hg h0
  have cG := cln_row g
  refine as_pick (ev_var rfl) rfl (fun _ => ex_call (ea_cons (ev_var rfl) (ea_cons (ev_var rfl) (ea_cons (ev_var rfl) ea_nil))) ⟨n, ms, _, d, rfl, cG, hc, .inr ⟨hG, hb, rfl⟩⟩) fun _ => ?_
  refine as_pick (ev_var rfl) rfl (fun _ => ex_call (ea_cons (ev_var rfl) (ea_cons (ev_var rfl) (ea_cons (ev_var rfl) ea_nil))) ⟨n, ms, d, _, rfl, cG, hc, .inl ⟨hb, rfl⟩⟩) fun _ => ?_
  refine as_pick (ev_var rfl) rfl (fun _ => ex_call (ea_cons (ev_var rfl) (ea_cons (ev_var rfl) (ea_cons (en_lst (ea_cons (ev_var rfl) ea_nil) (by show 1 ≤ sizeLine; decide)).ev ea_nil))) ⟨n, ms, _, _, rfl, cG, cln_zeros d hc 0, .inr (.inr ⟨hG, ⟨_, d, rfl, List.mem_singleton.mpr rfl, hb⟩, rfl⟩)⟩) fun _ => ?_
  refine as_pick (ev_var rfl) rfl (fun _ => ex_call (ea_cons (ev_var rfl) (ea_cons (ev_var rfl) (ea_cons (ev_tup ea_nil (by decide)) ea_nil))) ⟨n, ms, _, _, rfl, cG, rfl, .inr (.inl ⟨hG, (fun xs z => by cases z), rfl⟩)⟩) fun _ => ?_
  refine as_pick (ev_var rfl) rfl (fun _ => ?_) fun _ => ?_
  · have two : ∀ {δ : List Sl}, δ[2]? = some (.d d) → Ev K (tOp (rIx K) (tLst (tCons (tC .non) (tCons (tC (.str (PySem.Str.ofString "0"))) tNil))) (tCB (rIntA) (tCons (tOp rIsTr (tVar 2) (tC (.bl true))) tNil))) δ (if isTrD d then .str (PySem.Str.ofString "0") else .none) := fun e =>
      ev_op (x := .list [.none, .str (PySem.Str.ofString "0")]) (y := .int (if isTrD d then 1 else 0)) (en_lst (ea_cons ev_non (ea_cons ev_str ea_nil)) (by show 2 ≤ sizeLine; decide)).ev (ev_cb (ea_cons (ev_op (ev_var e) ev_bl (rd_isTr hp)) ea_nil) rc_intB) (rd_ixL (by cases isTrD d <;> rfl))
    exact ex_call (ea_cons (ev_var rfl) (ea_cons (ev_var rfl) (ea_cons (two rfl) ea_nil))) ⟨n, ms, _, _, rfl, cG, by cases isTrD d <;> rfl, .inr (.inl ⟨hG, (fun xs z => by cases e : isTrD d <;> rw [e] at z <;> cases z), rfl⟩)⟩
  · refine as_retX (ex_call (ea_cons (ev_var rfl) (ea_cons (ev_var rfl) (ea_cons (en_cat (xs := List.replicate ms.length (.int 0)) (ys := [d]) (en_to (en_map (fun _ => .int 0) (ei_tup (net_moves rfl)) (by rw [List.length_map]; exact small_line (by omega)) (gw1 4) (fun i x he => ag_name ev_int)) ?_).ev (en_lst (ea_cons (ev_var rfl) ea_nil) (by show 1 ≤ sizeLine; decide)).ev ?_).ev ea_nil))) ⟨n, ms, _, _, rfl, cG, cln_zeros d hc ms.length, .inr (.inr ⟨hG, ⟨_, d, rfl, List.mem_append.mpr (.inr (List.mem_singleton.mpr rfl)), hb⟩, rfl⟩)⟩) rfl
    · rw [List.length_map]
      apply List.ext_getElem?
      intro k
      rw [List.getElem?_map, List.getElem?_replicate]
      by_cases hk : k < ms.length
      · rw [List.getElem?_range hk, if_pos hk]; rfl
      · rw [List.getElem?_eq_none_iff.mpr (by rw [List.length_range]; omega), if_neg hk]; rfl
    · rw [List.length_replicate]
      exact small_line (by show _ + 1 ≤ _; omega)

def F_with_place_l (a_NoHoard a_NoPlace : Addr) (ds : List PyData) (o : Out) : Prop := ∃ n ms w d g, ds = [netD n ms, .int w, d, rowD g] ∧ cln d = true ∧ inB d 0 ((n : Int) - 1) = false ∧ g.length = n ∧ (∀ x ∈ g, 0 ≤ x) ∧ o = .ex (.ref a_NoPlace)
theorem len_with_place_l (a_NoHoard a_NoPlace : Addr) : ∀ ds o, F_with_place_l a_NoHoard a_NoPlace ds o → ds.length = 4 := fun _ _ ⟨_, _, _, _, _, h, _⟩ => by rw [h]; rfl
theorem places_bad {n : Nat} {d : PyData} {xs : List PyData} (hd : d ∈ xs) (hb : inB d 0 ((n : Int) - 1) = false) : placesB n (.list xs) = false := List.all_eq_false.mpr ⟨d, hd, by rw [hb]; exact Bool.false_ne_true⟩
/-! with_place_l: slots 0 _law_net_here, 1 _law_what, 2 _law_bad, 3 _law_good (4) -/
def t_with_place_l (K : PySem.W.Frag) (E : XK) (a_NoHoard : Addr) (a_NoPlace : Addr) : TS :=
    (tSeq (tIfS (tTest (tOp (rEqD K) (tVar 1) (tC (.int 0)))) (tRet (tCallS (SpD K (F_how_far a_NoHoard a_NoPlace)) (WE (fun cls d _ H => E cls d H)) (tCons (tVar 0) (tCons (tVar 3) (tCons (tVar 2) tNil))))) tNext)
    (tSeq (tIfS (tTest (tOp (rEqD K) (tVar 1) (tC (.int 1)))) (tRet (tCallS (SpD K (F_together a_NoHoard a_NoPlace)) (WE (fun cls d _ H => E cls d H)) (tCons (tVar 0) (tCons (tVar 3) (tCons (tLst (tCons (tC (.int 0)) (tCons (tVar 2) tNil))) tNil))))) tNext)
    (tSeq (tIfS (tTest (tOp (rEqD K) (tVar 1) (tC (.int 2)))) (tRet (tCallS (SpD K (F_greatest_sink a_NoPlace)) (WE (fun cls d _ H => E cls d H)) (tCons (tVar 0) (tCons (tLst (tCons (tVar 2) tNil)) tNil)))) tNext)
    (tSeq (tIfS (tTest (tOp (rEqD K) (tVar 1) (tC (.int 3)))) (tRet (tCallS (SpD K (F_greatest_trap a_NoPlace)) (WE (fun cls d _ H => E cls d H)) (tCons (tVar 0) (tCons (tLst (tCons (tVar 2) (tCons (tC (.int 0)) tNil))) tNil)))) tNext)
    (tSeq (tIfS (tTest (tOp (rEqD K) (tVar 1) (tC (.int 4)))) (tRet (tCallS (SpD K (F_is_sink a_NoPlace)) (WE (fun cls d _ H => E cls d H)) (tCons (tVar 0) (tCons (tLst (tCons (tC (.int 0)) (tCons (tVar 2) tNil))) tNil)))) tNext)
    (tSeq (tIfS (tTest (tOp (rEqD K) (tVar 1) (tC (.int 5)))) (tRet (tCallS (SpD K (F_is_trap a_NoPlace)) (WE (fun cls d _ H => E cls d H)) (tCons (tVar 0) (tCons (tLst (tCons (tVar 2) tNil)) tNil)))) tNext)
    (tRet (tCallS (SpD K (F_without_place a_NoPlace)) (WE (fun cls d _ H => E cls d H)) (tCons (tVar 0) (tCons (tVar 2) tNil))))))))))

theorem sem_with_place_l {K : PySem.W.Frag} {E : XK} (a_NoHoard a_NoPlace : Addr) {ds : List PyData} {o : Out} (h : F_with_place_l a_NoHoard a_NoPlace ds o) : As K E (t_with_place_l K E a_NoHoard a_NoPlace) (slots0 4 ds) (finP o) := by
  obtain ⟨n, ms, w, d, g, rfl, hc, hb, hg, h0, rfl⟩ := h
  have hG := hoardB_row hg h0
  have cG := cln_row g
  have q1 : placesB n (.list [d]) = false := places_bad (by simp) hb
  have q2 : placesB n (.list [.int 0, d]) = false := places_bad (by simp) hb
  have q3 : placesB n (.list [d, .int 0]) = false := places_bad (by simp) hb
  have k1 : cln (.list [d]) = true := by show (cln d && true) = true; rw [hc]; rfl
  have k2 : cln (.list [.int 0, d]) = true := by show (true && (cln d && true)) = true; rw [hc]; rfl
  have k3 : cln (.list [d, .int 0]) = true := by show (cln d && (true && true)) = true; rw [hc]; rfl
  refine as_pick (ev_var rfl) rfl (fun _ => ex_call (ea_cons (ev_var rfl) (ea_cons (ev_var rfl) (ea_cons (ev_var rfl) ea_nil))) ⟨n, ms, _, d, rfl, cG, hc, .inr ⟨hG, hb, rfl⟩⟩) fun _ => ?_
  refine as_pick (ev_var rfl) rfl (fun _ => ex_call (ea_cons (ev_var rfl) (ea_cons (ev_var rfl) (ea_cons (en_lst (ea_cons ev_int (ea_cons (ev_var rfl) ea_nil)) (by show 2 ≤ sizeLine; decide)).ev ea_nil))) ⟨n, ms, _, _, rfl, cG, k2, .inr ⟨hG, q2, rfl⟩⟩) fun _ => ?_
  refine as_pick (ev_var rfl) rfl (fun _ => ex_call (ea_cons (ev_var rfl) (ea_cons (en_lst (ea_cons (ev_var rfl) ea_nil) (by show 1 ≤ sizeLine; decide)).ev ea_nil)) ⟨n, ms, _, rfl, k1, q1, rfl⟩) fun _ => ?_
  refine as_pick (ev_var rfl) rfl (fun _ => ex_call (ea_cons (ev_var rfl) (ea_cons (en_lst (ea_cons (ev_var rfl) (ea_cons ev_int ea_nil)) (by show 2 ≤ sizeLine; decide)).ev ea_nil)) ⟨n, ms, _, rfl, k3, q3, rfl⟩) fun _ => ?_
  refine as_pick (ev_var rfl) rfl (fun _ => ex_call (ea_cons (ev_var rfl) (ea_cons (en_lst (ea_cons ev_int (ea_cons (ev_var rfl) ea_nil)) (by show 2 ≤ sizeLine; decide)).ev ea_nil)) ⟨n, ms, _, rfl, k2, q2, rfl⟩) fun _ => ?_
  refine as_pick (ev_var rfl) rfl (fun _ => ex_call (ea_cons (ev_var rfl) (ea_cons (en_lst (ea_cons (ev_var rfl) ea_nil) (by show 1 ≤ sizeLine; decide)).ev ea_nil)) ⟨n, ms, _, rfl, k1, q1, rfl⟩) fun _ => ?_
  exact as_retX (ex_call (ea_cons (ev_var rfl) (ea_cons (ev_var rfl) ea_nil)) ⟨n, ms, d, rfl, hc, hb, rfl⟩) rfl

def F_with_places_l (a_NoHoard a_NoPlace : Addr) (ds : List PyData) (o : Out) : Prop := ∃ n ms w d g, ds = [netD n ms, .int w, d, rowD g] ∧ cln d = true ∧ placesB n d = false ∧ g.length = n ∧ (∀ x ∈ g, 0 ≤ x) ∧ o = .ex (.ref a_NoPlace)
theorem len_with_places_l (a_NoHoard a_NoPlace : Addr) : ∀ ds o, F_with_places_l a_NoHoard a_NoPlace ds o → ds.length = 4 := fun _ _ ⟨_, _, _, _, _, h, _⟩ => by rw [h]; rfl
/-! with_places_l: slots 0 _law_net_here, 1 _law_what, 2 _law_bad, 3 _law_good (4) -/
def t_with_places_l (K : PySem.W.Frag) (E : XK) (a_NoHoard : Addr) (a_NoPlace : Addr) : TS :=
    (tSeq (tIfS (tTest (tOp (rEqD K) (tVar 1) (tC (.int 0)))) (tRet (tCallS (SpD K (F_together a_NoHoard a_NoPlace)) (WE (fun cls d _ H => E cls d H)) (tCons (tVar 0) (tCons (tVar 3) (tCons (tVar 2) tNil))))) tNext)
    (tSeq (tIfS (tTest (tOp (rEqD K) (tVar 1) (tC (.int 1)))) (tRet (tCallS (SpD K (F_greatest_sink a_NoPlace)) (WE (fun cls d _ H => E cls d H)) (tCons (tVar 0) (tCons (tVar 2) tNil)))) tNext)
    (tSeq (tIfS (tTest (tOp (rEqD K) (tVar 1) (tC (.int 2)))) (tRet (tCallS (SpD K (F_greatest_trap a_NoPlace)) (WE (fun cls d _ H => E cls d H)) (tCons (tVar 0) (tCons (tVar 2) tNil)))) tNext)
    (tSeq (tIfS (tTest (tOp (rEqD K) (tVar 1) (tC (.int 3)))) (tRet (tCallS (SpD K (F_is_sink a_NoPlace)) (WE (fun cls d _ H => E cls d H)) (tCons (tVar 0) (tCons (tVar 2) tNil)))) tNext)
    (tRet (tCallS (SpD K (F_is_trap a_NoPlace)) (WE (fun cls d _ H => E cls d H)) (tCons (tVar 0) (tCons (tVar 2) tNil))))))))

theorem sem_with_places_l {K : PySem.W.Frag} {E : XK} (a_NoHoard a_NoPlace : Addr) {ds : List PyData} {o : Out} (h : F_with_places_l a_NoHoard a_NoPlace ds o) : As K E (t_with_places_l K E a_NoHoard a_NoPlace) (slots0 4 ds) (finP o) := by
  obtain ⟨n, ms, w, d, g, rfl, hc, hb, hg, h0, rfl⟩ := h
  have hG := hoardB_row hg h0
  have cG := cln_row g
  refine as_pick (ev_var rfl) rfl (fun _ => ex_call (ea_cons (ev_var rfl) (ea_cons (ev_var rfl) (ea_cons (ev_var rfl) ea_nil))) ⟨n, ms, _, d, rfl, cG, hc, .inr ⟨hG, hb, rfl⟩⟩) fun _ => ?_
  refine as_pick (ev_var rfl) rfl (fun _ => ex_call (ea_cons (ev_var rfl) (ea_cons (ev_var rfl) ea_nil)) ⟨n, ms, d, rfl, hc, hb, rfl⟩) fun _ => ?_
  refine as_pick (ev_var rfl) rfl (fun _ => ex_call (ea_cons (ev_var rfl) (ea_cons (ev_var rfl) ea_nil)) ⟨n, ms, d, rfl, hc, hb, rfl⟩) fun _ => ?_
  refine as_pick (ev_var rfl) rfl (fun _ => ex_call (ea_cons (ev_var rfl) (ea_cons (ev_var rfl) ea_nil)) ⟨n, ms, d, rfl, hc, hb, rfl⟩) fun _ => ?_
  exact as_retX (ex_call (ea_cons (ev_var rfl) (ea_cons (ev_var rfl) ea_nil)) ⟨n, ms, d, rfl, hc, hb, rfl⟩) rfl

def F_with_two_l (a_NoHoard a_NoMove a_NoPlace : Addr) (ds : List PyData) (o : Out) : Prop := ∃ n ms w d g, ds = [netD n ms, .int w, d, rowD g] ∧ cln d = true ∧ hoardB n d = false ∧ o = if w = 2 then .ex (.ref a_NoMove) else .ex (.ref a_NoHoard)
theorem len_with_two_l (a_NoHoard a_NoMove a_NoPlace : Addr) : ∀ ds o, F_with_two_l a_NoHoard a_NoMove a_NoPlace ds o → ds.length = 4 := fun _ _ ⟨_, _, _, _, _, h, _⟩ => by rw [h]; rfl
/-! with_two_l: slots 0 _law_net_here, 1 _law_what, 2 _law_bad, 3 _law_good (4) -/
def t_with_two_l (K : PySem.W.Frag) (E : XK) (a_NoHoard : Addr) (a_NoMove : Addr) (a_NoPlace : Addr) : TS :=
    (tSeq (tIfS (tTest (tOp (rEqD K) (tVar 1) (tC (.int 0)))) (tRet (tCallS (SpD K (F_can a_NoHoard a_NoMove)) (WE (fun cls d _ H => E cls d H)) (tCons (tVar 0) (tCons (tVar 2) (tCons (tUn rNegA (tC (.int 1))) tNil))))) tNext)
    (tSeq (tIfS (tTest (tOp (rEqD K) (tVar 1) (tC (.int 1)))) (tRet (tCallS (SpD K (F_behind a_NoHoard a_NoMove)) (WE (fun cls d _ H => E cls d H)) (tCons (tVar 0) (tCons (tVar 2) (tCons (tLst (tCons (tUn rNegA (tC (.int 1))) tNil)) tNil))))) tNext)
    (tSeq (tIfS (tTest (tOp (rEqD K) (tVar 1) (tC (.int 2)))) (tRet (tCallS (SpD K (F_least_before a_NoHoard a_NoMove)) (WE (fun cls d _ H => E cls d H)) (tCons (tVar 0) (tCons (tUn rNegA (tC (.int 1))) (tCons (tVar 2) tNil))))) tNext)
    (tSeq (tIfS (tTest (tOp (rEqD K) (tVar 1) (tC (.int 3)))) (tRet (tCallS (SpD K (F_together a_NoHoard a_NoPlace)) (WE (fun cls d _ H => E cls d H)) (tCons (tVar 0) (tCons (tVar 2) (tCons (tTup (tCons (tC (.int 0)) tNil)) tNil))))) tNext)
    (tRet (tCallS (SpD K (F_how_far a_NoHoard a_NoPlace)) (WE (fun cls d _ H => E cls d H)) (tCons (tVar 0) (tCons (tVar 2) (tCons (tUn rNegA (tC (.int 1))) tNil)))))))))

theorem sem_with_two_l {K : PySem.W.Frag} {E : XK} (a_NoHoard a_NoMove a_NoPlace : Addr) {ds : List PyData} {o : Out} (h : F_with_two_l a_NoHoard a_NoMove a_NoPlace ds o) : As K E (t_with_two_l K E a_NoHoard a_NoMove a_NoPlace) (slots0 4 ds) (finP o) := by
  obtain ⟨n, ms, w, d, g, rfl, hc, hb, rfl⟩ := h
  by_cases h2 : w = 2
  · subst h2
    rw [if_pos rfl]
    refine as_pick (ev_var rfl) rfl (fun e => absurd e (by decide)) fun _ => ?_
    refine as_pick (ev_var rfl) rfl (fun e => absurd e (by decide)) fun _ => ?_
    exact as_pick (ev_var rfl) rfl (fun _ => ex_call (ea_cons (ev_var rfl) (ea_cons (ev_neg ev_int) (ea_cons (ev_var rfl) ea_nil))) ⟨n, ms, _, d, rfl, hc, rfl, .inl ⟨in_neg, rfl⟩⟩) fun e => absurd rfl e
  · rw [if_neg h2]
    refine as_pick (ev_var rfl) rfl (fun _ => ex_call (ea_cons (ev_var rfl) (ea_cons (ev_var rfl) (ea_cons (ev_neg ev_int) ea_nil))) ⟨n, ms, d, _, rfl, hc, rfl, .inl ⟨hb, rfl⟩⟩) fun _ => ?_
    refine as_pick (ev_var rfl) rfl (fun _ => ex_call (ea_cons (ev_var rfl) (ea_cons (ev_var rfl) (ea_cons (en_lst (ea_cons (ev_neg ev_int) ea_nil) (by show 1 ≤ sizeLine; decide)).ev ea_nil))) ⟨n, ms, d, _, rfl, hc, rfl, .inl ⟨hb, rfl⟩⟩) fun _ => ?_
    refine as_pick (ev_var rfl) rfl (fun e => absurd e h2) fun _ => ?_
    refine as_pick (ev_var rfl) rfl (fun _ => ex_call (ea_cons (ev_var rfl) (ea_cons (ev_var rfl) (ea_cons (ev_tup (ea_cons ev_int ea_nil) (by show 1 ≤ sizeLine; decide)) ea_nil))) ⟨n, ms, d, _, rfl, hc, rfl, .inl ⟨hb, rfl⟩⟩) fun _ => ?_
    exact as_retX (ex_call (ea_cons (ev_var rfl) (ea_cons (ev_var rfl) (ea_cons (ev_neg ev_int) ea_nil))) ⟨n, ms, d, _, rfl, hc, rfl, .inl ⟨hb, rfl⟩⟩) rfl

def F_asked_l (a_NoHoard a_NoMove a_NoPlace : Addr) (ds : List PyData) (o : Out) : Prop := ∃ k a b c d, ds = [.int k, a, b, c, d] ∧
  ((k = 0 ∧ F_with_hoard_l a_NoHoard a_NoMove a_NoPlace [a, b, c, d] o ∧ o = .ex (.ref a_NoHoard)) ∨ (k = 1 ∧ F_with_move_l a_NoHoard a_NoMove [a, b, c, d] o ∧ o = .ex (.ref a_NoMove)) ∨ (k = 2 ∧ F_with_place_l a_NoHoard a_NoPlace [a, b, c, d] o ∧ o = .ex (.ref a_NoPlace)) ∨
    (k = 3 ∧ F_with_places_l a_NoHoard a_NoPlace [a, b, c, d] o ∧ o = .ex (.ref a_NoPlace)) ∨ (k = 4 ∧ F_with_two_l a_NoHoard a_NoMove a_NoPlace [a, b, c, d] o ∧ (o = .ex (.ref a_NoMove) ∨ o = .ex (.ref a_NoHoard))))
theorem len_asked_l (a_NoHoard a_NoMove a_NoPlace : Addr) : ∀ ds o, F_asked_l a_NoHoard a_NoMove a_NoPlace ds o → ds.length = 5 := fun _ _ ⟨_, _, _, _, _, h, _⟩ => by rw [h]; rfl
/-! asked_l: slots 0 _law_kind_here, 1 _law_net_here, 2 _law_what, 3 _law_bad, 4 _law_good (5) -/
def t_asked_l (K : PySem.W.Frag) (E : XK) (a_NoHoard : Addr) (a_NoMove : Addr) (a_NoPlace : Addr) : TS :=
    (tSeq (tIfS (tTest (tOp (rEqD K) (tVar 0) (tC (.int 0)))) (tRet (tCallS (SpD K (F_with_hoard_l a_NoHoard a_NoMove a_NoPlace)) (WE (fun cls d _ H => E cls d H)) (tCons (tVar 1) (tCons (tVar 2) (tCons (tVar 3) (tCons (tVar 4) tNil)))))) tNext)
    (tSeq (tIfS (tTest (tOp (rEqD K) (tVar 0) (tC (.int 1)))) (tRet (tCallS (SpD K (F_with_move_l a_NoHoard a_NoMove)) (WE (fun cls d _ H => E cls d H)) (tCons (tVar 1) (tCons (tVar 2) (tCons (tVar 3) (tCons (tVar 4) tNil)))))) tNext)
    (tSeq (tIfS (tTest (tOp (rEqD K) (tVar 0) (tC (.int 2)))) (tRet (tCallS (SpD K (F_with_place_l a_NoHoard a_NoPlace)) (WE (fun cls d _ H => E cls d H)) (tCons (tVar 1) (tCons (tVar 2) (tCons (tVar 3) (tCons (tVar 4) tNil)))))) tNext)
    (tSeq (tIfS (tTest (tOp (rEqD K) (tVar 0) (tC (.int 3)))) (tRet (tCallS (SpD K (F_with_places_l a_NoHoard a_NoPlace)) (WE (fun cls d _ H => E cls d H)) (tCons (tVar 1) (tCons (tVar 2) (tCons (tVar 3) (tCons (tVar 4) tNil)))))) tNext)
    (tRet (tCallS (SpD K (F_with_two_l a_NoHoard a_NoMove a_NoPlace)) (WE (fun cls d _ H => E cls d H)) (tCons (tVar 1) (tCons (tVar 2) (tCons (tVar 3) (tCons (tVar 4) tNil))))))))))

theorem sem_asked_l {K : PySem.W.Frag} {E : XK} (a_NoHoard a_NoMove a_NoPlace : Addr) {ds : List PyData} {o : Out} (h : F_asked_l a_NoHoard a_NoMove a_NoPlace ds o) : As K E (t_asked_l K E a_NoHoard a_NoMove a_NoPlace) (slots0 5 ds) (finP o) := by
  obtain ⟨k, a, b, c, d, rfl, h⟩ := h
  rcases h with ⟨rfl, hF, rfl⟩ | ⟨rfl, hF, rfl⟩ | ⟨rfl, hF, rfl⟩ | ⟨rfl, hF, rfl⟩ | ⟨rfl, hF, ho⟩
  · exact as_pick (ev_var rfl) rfl (fun _ => ex_call (ea_cons (ev_var rfl) (ea_cons (ev_var rfl) (ea_cons (ev_var rfl) (ea_cons (ev_var rfl) ea_nil)))) hF) fun e => absurd rfl e
  · refine as_pick (ev_var rfl) rfl (fun e => absurd e (by decide)) fun _ => ?_
    exact as_pick (ev_var rfl) rfl (fun _ => ex_call (ea_cons (ev_var rfl) (ea_cons (ev_var rfl) (ea_cons (ev_var rfl) (ea_cons (ev_var rfl) ea_nil)))) hF) fun e => absurd rfl e
  · refine as_pick (ev_var rfl) rfl (fun e => absurd e (by decide)) fun _ => ?_
    refine as_pick (ev_var rfl) rfl (fun e => absurd e (by decide)) fun _ => ?_
    exact as_pick (ev_var rfl) rfl (fun _ => ex_call (ea_cons (ev_var rfl) (ea_cons (ev_var rfl) (ea_cons (ev_var rfl) (ea_cons (ev_var rfl) ea_nil)))) hF) fun e => absurd rfl e
  · refine as_pick (ev_var rfl) rfl (fun e => absurd e (by decide)) fun _ => ?_
    refine as_pick (ev_var rfl) rfl (fun e => absurd e (by decide)) fun _ => ?_
    refine as_pick (ev_var rfl) rfl (fun e => absurd e (by decide)) fun _ => ?_
    exact as_pick (ev_var rfl) rfl (fun _ => ex_call (ea_cons (ev_var rfl) (ea_cons (ev_var rfl) (ea_cons (ev_var rfl) (ea_cons (ev_var rfl) ea_nil)))) hF) fun e => absurd rfl e
  · have main : ∀ cl, o = .ex cl → As K E (t_asked_l K E a_NoHoard a_NoMove a_NoPlace) (slots0 5 [.int 4, a, b, c, d]) (finP o) := fun cl e => by
      subst e
      refine as_pick (ev_var rfl) rfl (fun e => absurd e (by decide)) fun _ => ?_
      refine as_pick (ev_var rfl) rfl (fun e => absurd e (by decide)) fun _ => ?_
      refine as_pick (ev_var rfl) rfl (fun e => absurd e (by decide)) fun _ => ?_
      refine as_pick (ev_var rfl) rfl (fun e => absurd e (by decide)) fun _ => ?_
      exact as_retX (ex_call (ea_cons (ev_var rfl) (ea_cons (ev_var rfl) (ea_cons (ev_var rfl) (ea_cons (ev_var rfl) ea_nil)))) hF) rfl
    rcases ho with e | e
    · exact main _ e
    · exact main _ e

def F_kind_l (a_Endless a_NoHoard a_NoMove a_NoNet a_NoPlace a_NoText a_Stuck a_TokenError a_TooBig : Addr) (ds : List PyData) (o : Out) : Prop := ∃ a b c d e D k, ds = [.tuple [a, b, c, d, e]] ∧ F_asked_l a_NoHoard a_NoMove a_NoPlace [a, b, c, d, e] (.ex (.ref D)) ∧
  ((k = 0 ∧ D = a_NoHoard) ∨ (k = 1 ∧ D = a_NoMove) ∨ (k = 2 ∧ D = a_NoPlace)) ∧ o = .rt (.int (k : Nat))
theorem len_kind_l (a_Endless a_NoHoard a_NoMove a_NoNet a_NoPlace a_NoText a_Stuck a_TokenError a_TooBig : Addr) : ∀ ds o, F_kind_l a_Endless a_NoHoard a_NoMove a_NoNet a_NoPlace a_NoText a_Stuck a_TokenError a_TooBig ds o → ds.length = 1 := fun _ _ ⟨_, _, _, _, _, _, _, h, _⟩ => by rw [h]; rfl
/-! kind_l: slots 0 _law_case, 1 e, 2 _law_own, 3 _law_others (4) -/
def t_kind_l (K : PySem.W.Frag) (E : XK) (a_Endless : Addr) (a_NoHoard : Addr) (a_NoMove : Addr) (a_NoNet : Addr) (a_NoPlace : Addr) (a_NoText : Addr) (a_Stuck : Addr) (a_TokenError : Addr) (a_TooBig : Addr) : TS :=
    (tSeq (tTryB K (.ref a_TokenError) 1 (fun W => (tDrop (tCallS (SpD K (F_asked_l a_NoHoard a_NoMove a_NoPlace)) (WE (W)) (tCons (tOp (rIx K) (tVar 0) (tC (.int 0))) (tCons (tOp (rIx K) (tVar 0) (tC (.int 1))) (tCons (tOp (rIx K) (tVar 0) (tC (.int 2))) (tCons (tOp (rIx K) (tVar 0) (tC (.int 3))) (tCons (tOp (rIx K) (tVar 0) (tC (.int 4))) tNil)))))))) (fun a cls d => (tSeq (tAsg (tLst (tCons (tCB (rIsX K a cls d) (tCons (tVar 1) (tCons (tC (.ref a_NoHoard)) tNil))) (tCons (tCB (rIsX K a cls d) (tCons (tVar 1) (tCons (tC (.ref a_NoMove)) tNil))) (tCons (tCB (rIsX K a cls d) (tCons (tVar 1) (tCons (tC (.ref a_NoPlace)) tNil))) tNil)))) (gName 2))
    (tSeq (tAsg (tLst (tCons (tCB (rIsX K a cls d) (tCons (tVar 1) (tCons (tC (.ref a_NoNet)) tNil))) (tCons (tCB (rIsX K a cls d) (tCons (tVar 1) (tCons (tC (.ref a_Endless)) tNil))) (tCons (tCB (rIsX K a cls d) (tCons (tVar 1) (tCons (tC (.ref a_TooBig)) tNil))) (tCons (tCB (rIsX K a cls d) (tCons (tVar 1) (tCons (tC (.ref a_NoText)) tNil))) tNil))))) (gName 3))
    (tSeq (tDrop (tBM K "list" rAppend (tVar 3) (tCons (tCB (rIsX K a cls d) (tCons (tVar 1) (tCons (tC (.ref a_Stuck)) tNil))) tNil)))
    (tIfS (tAnd (tB (tCB (rIsX K a cls d) (tCons (tVar 1) (tCons (tC (.ty "ValueError")) tNil)))) (tAnd (tTest (tOp (rEqD K) (tBM K "list" (rCountB K) (tOp (rAddA K) (tVar 2) (tVar 3)) (tCons (tC (.bl true)) tNil)) (tC (.int 1)))) (tTest (tOp (rIn K false) (tC (.bl true)) (tVar 2))))) (tRet (tBM K "list" (rIndex K) (tVar 2) (tCons (tC (.bl true)) tNil))) tNext))))))
    (tRet (tUn rNegA (tC (.int 1)))))

theorem sem_kind_l {K : PySem.W.Frag} {E : XK} (a_Endless a_NoHoard a_NoMove a_NoNet a_NoPlace a_NoText a_Stuck a_TokenError a_TooBig : Addr)
    (k0 : KindF K a_NoHoard a_TokenError a_NoHoard a_NoMove a_NoPlace a_NoNet a_Endless a_TooBig a_NoText a_Stuck 0) (k1 : KindF K a_NoMove a_TokenError a_NoHoard a_NoMove a_NoPlace a_NoNet a_Endless a_TooBig a_NoText a_Stuck 1) (k2 : KindF K a_NoPlace a_TokenError a_NoHoard a_NoMove a_NoPlace a_NoNet a_Endless a_TooBig a_NoText a_Stuck 2)
    {ds : List PyData} {o : Out} (h : F_kind_l a_Endless a_NoHoard a_NoMove a_NoNet a_NoPlace a_NoText a_Stuck a_TokenError a_TooBig ds o) : As K E (t_kind_l K E a_Endless a_NoHoard a_NoMove a_NoNet a_NoPlace a_NoText a_Stuck a_TokenError a_TooBig) (slots0 4 ds) (finP o) := by
  obtain ⟨a, b, c, d, e, D, k, rfl, hF, hk, rfl⟩ := h
  have args : EvA K (tCons (tOp (rIx K) (tVar 0) (tC (.int 0))) (tCons (tOp (rIx K) (tVar 0) (tC (.int 1))) (tCons (tOp (rIx K) (tVar 0) (tC (.int 2))) (tCons (tOp (rIx K) (tVar 0) (tC (.int 3))) (tCons (tOp (rIx K) (tVar 0) (tC (.int 4))) tNil))))) [.d (.tuple [a, b, c, d, e]), .no, .no, .no] [a, b, c, d, e] :=
    ea_cons (ev_op (ev_var rfl) ev_int (rd_ixT rfl)) (ea_cons (ev_op (ev_var rfl) ev_int (rd_ixT rfl)) (ea_cons (ev_op (ev_var rfl) ev_int (rd_ixT rfl)) (ea_cons (ev_op (ev_var rfl) ev_int (rd_ixT rfl)) (ea_cons (ev_op (ev_var rfl) ev_int (rd_ixT rfl)) ea_nil))))
  rcases hk with ⟨rfl, rfl⟩ | ⟨rfl, rfl⟩ | ⟨rfl, rfl⟩
  · exact as_seq (as_kind args hF k0 (by decide) rfl)
  · exact as_seq (as_kind args hF k1 (by decide) rfl)
  · exact as_seq (as_kind args hF k2 (by decide) rfl)

def oddsH : List PyData := [.int (-1), .bool true, .str (PySem.Str.ofString "1"), .none]
def oddH (c : Int) : PyData := oddsH.getD (c / 6 % 4).toNat .none
def badsH (g : List Int) (c : Int) : List PyData := [.list (g.map .int), rowD (g ++ [1]), rowD (g.drop 1), .tuple ((g.map PyData.int).take (g.length - 1) ++ [oddH c]), .none, .int 3]
def badH (g : List Int) (c : Int) : PyData := (badsH g c).getD (c % 6).toNat .none
def F_bad_hoard_l (ds : List PyData) (o : Out) : Prop := ∃ g c, ds = [rowD g, .int c] ∧ 0 ≤ c ∧ c < 1000000 ∧ 1 ≤ g.length ∧ g.length ≤ 100 ∧ o = .rt (badH g c)
theorem len_bad_hoard_l : ∀ ds o, F_bad_hoard_l ds o → ds.length = 2 := fun _ _ ⟨_, _, h, _⟩ => by rw [h]; rfl
theorem at_any {l : List PyData} {i : Int} (h0 : 0 ≤ i) (h1 : i < l.length) : atI l i = some (l.getD i.toNat .none) := by
  have e : l[i.toNat]? = some (l.getD i.toNat .none) := getD_get (by omega)
  have := at_nat e
  rwa [Int.toNat_of_nonneg h0] at this
theorem cut_last {xs : List PyData} (h : 1 ≤ xs.length) : cutD xs none (some (-1)) = xs.take (xs.length - 1) := by
  unfold cutD
  show (xs.drop 0).take (((-1 : Int) + (xs.length : Int)).toNat - 0) = _
  rw [List.drop_zero]
  congr 1
  omega
theorem mem_getD {l : List PyData} {i : Nat} : l.getD i .none ∈ l ∨ l.getD i .none = .none := by
  rw [List.getD_eq_getElem?_getD]
  cases e : l[i]? with
  | none => exact .inr rfl
  | some x => exact .inl (List.mem_of_getElem? e)
theorem odd_mem (c : Int) : oddH c = .int (-1) ∨ oddH c = .bool true ∨ oddH c = .str (PySem.Str.ofString "1") ∨ oddH c = .none := by
  rcases mem_getD (l := oddsH) (i := (c / 6 % 4).toNat) with h | h
  · unfold oddsH at h
    simp only [List.mem_cons, List.not_mem_nil, or_false] at h
    exact h
  · exact .inr (.inr (.inr h))
theorem cln_app : ∀ {xs : List PyData} {d : PyData}, clnAll xs = true → cln d = true → clnAll (xs ++ [d]) = true
  | [], d, _, h => by show (cln d && true) = true; rw [h]; rfl
  | a :: r, d, h, hd => by
    have h := Bool.and_eq_true_iff.mp (show (cln a && clnAll r) = true from h)
    show (cln a && clnAll (r ++ [d])) = true
    rw [h.1, cln_app h.2 hd]
    rfl
theorem bad_ok {n : Nat} {g : List Int} {c : Int} (hg : g.length = n) (hn : 1 ≤ n) : cln (badH g c) = true ∧ hoardB n (badH g c) = false := by
  have len_no : ∀ {r : List Int}, r.length ≠ n → hoardB n (rowD r) = false := fun {r} h => by
    show (decide ((r.map PyData.int).length = n) && _) = false
    rw [List.length_map, decide_eq_false h]
    rfl
  rcases mem_getD (l := badsH g c) (i := (c % 6).toNat) with h | h
  · unfold badH
    generalize (badsH g c).getD (c % 6).toNat .none = d at h ⊢
    unfold badsH at h
    simp only [List.mem_cons, List.not_mem_nil, or_false] at h
    rcases h with rfl | rfl | rfl | rfl | rfl | rfl
    · exact ⟨cln_ints g, rfl⟩
    · exact ⟨cln_row _, len_no (by rw [List.length_append]; show g.length + 1 ≠ n; omega)⟩
    · exact ⟨cln_row _, len_no (by rw [List.length_drop]; omega)⟩
    · have ho := odd_mem c
      have hoc : cln (oddH c) = true := by rcases ho with e | e | e | e <;> rw [e] <;> rfl
      have hon : natB (oddH c) = false := by rcases ho with e | e | e | e <;> rw [e] <;> rfl
      refine ⟨?_, ?_⟩
      · rw [← List.map_take]
        exact cln_app (cln_ints _) hoc
      · generalize oddH c = od at hon
        have hl : ((g.map PyData.int).take (g.length - 1) ++ [od]).length = n := by
          rw [List.length_append, List.length_take, List.length_map]
          show min _ _ + 1 = n
          omega
        show (decide (_ = n) && (List.range ((g.map PyData.int).take (g.length - 1) ++ [od]).length).all fun i => natB (((g.map PyData.int).take (g.length - 1) ++ [od]).getD i .none)) = false
        rw [hl, decide_eq_true rfl, Bool.true_and, List.all_eq_false]
        refine ⟨n - 1, List.mem_range.mpr (by omega), ?_⟩
        have e : ((g.map PyData.int).take (g.length - 1) ++ [od])[n - 1]? = some od := by
          rw [List.getElem?_append_right (by rw [List.length_take, List.length_map]; omega), List.length_take, List.length_map]
          have : n - 1 - min (g.length - 1) g.length = 0 := by omega
          rw [this]
          rfl
        rw [item_eq e, hon]
        exact Bool.false_ne_true
    · exact ⟨rfl, rfl⟩
    · exact ⟨rfl, rfl⟩
  · unfold badH
    rw [h]
    exact ⟨rfl, rfl⟩
/-! bad_hoard_l: slots 0 _law_good, 1 _law_cell, 2 _law_odd (3) -/
def t_bad_hoard_l (K : PySem.W.Frag) (E : XK)  : TS :=
    (tSeq (tAsg (tOp (rIx K) (tLst (tCons (tUn rNegA (tC (.int 1))) (tCons (tC (.bl true)) (tCons (tC (.str (PySem.Str.ofString "1"))) (tCons (tC .non) tNil))))) (tOp rModA (tOp rDivA (tVar 1) (tC (.int 6))) (tC (.int 4)))) (gName 2))
    (tRet (tOp (rIx K) (tLst (tCons (tCB (rLstA K) (tCons (tVar 0) tNil)) (tCons (tOp (rAddA K) (tVar 0) (tTup (tCons (tC (.int 1)) tNil))) (tCons (tSl (rSlAll K) (tVar 0) (tPart (tC (.int 1))) tNoPart) (tCons (tOp (rAddA K) (tSl (rSlAll K) (tVar 0) tNoPart (tPart (tUn rNegA (tC (.int 1))))) (tTup (tCons (tVar 2) tNil))) (tCons (tC .non) (tCons (tC (.int 3)) tNil))))))) (tOp rModA (tVar 1) (tC (.int 6))))))

theorem sem_bad_hoard_l {K : PySem.W.Frag} {E : XK} {ds : List PyData} {o : Out} (h : F_bad_hoard_l ds o) : As K E (t_bad_hoard_l K E) (slots0 3 ds) (finP o) := by
  obtain ⟨g, c, rfl, h0, h1, hn, hl, rfl⟩ := h
  refine as_seq (as_set (x := oddH c) (ev_op (en_lst (xs := oddsH) (ea_cons (ev_neg ev_int) (ea_cons ev_bl (ea_cons ev_str (ea_cons ev_non ea_nil)))) (by show 4 ≤ sizeLine; decide)).ev (ev_op (ev_op (ev_var rfl) ev_int (rd_quo (b := 30) (by decide) (by decide) (by decide) (by decide))) ev_int (rd_mod (by decide))) (rd_ixL (at_any (Int.emod_nonneg _ (by decide)) (by show c / 6 % 4 < 4; exact Int.emod_lt_of_pos _ (by decide))))) ?_)
  refine as_ret (ev_op (en_lst (xs := badsH g c) (ea_cons (en_cb (ea_cons (ev_var (x := rowD g) rfl) ea_nil) rc_lstT).ev (ea_cons (ev_to (ev_op (x := rowD g) (ev_var rfl) (ev_tup (xs := [.int 1]) (ea_cons ev_int ea_nil) (by show 1 ≤ sizeLine; decide)) (rd_cat ?_)) ?_) (ea_cons (ev_to (ev_slT (xs := g.map .int) (ev_var rfl) (eo_some ev_int) eo_none) ?_)
    (ea_cons (ev_op (ev_to (ev_slT (xs := g.map .int) (ev_var rfl) eo_none (eo_some (ev_neg ev_int))) ?_) (ev_tup (xs := [oddH c]) (ea_cons (ev_var rfl) ea_nil) (by show 1 ≤ sizeLine; decide)) (rd_cat ?_)) (ea_cons ev_non (ea_cons ev_int ea_nil)))))) (by show 6 ≤ sizeLine; decide)).ev (ev_op (ev_var rfl) ev_int (rd_mod (by decide))) (rd_ixL (at_any (Int.emod_nonneg _ (by decide)) (by show c % 6 < 6; exact Int.emod_lt_of_pos _ (by decide))))) rfl
  · rw [List.length_map]
    exact small_line (by show _ + 1 ≤ _; omega)
  · unfold rowD
    rw [List.map_append]
    rfl
  · rw [show cutD (g.map PyData.int) (some 1) none = (g.map PyData.int).drop 1 from cut_drop (k := 1)]
    unfold rowD
    rw [List.map_drop]
  · rw [show (-(1 : Int)) = -1 from rfl, cut_last (by rw [List.length_map]; exact hn), List.length_map]
  · rw [List.length_take, List.length_map]
    exact small_line (by show _ + 1 ≤ _; omega)

def F_law (ds : List PyData) (o : Out) : Prop := ∃ ns, ds = [scrD ns] ∧ ns.length ≤ 63 ∧ o = .rt (.bool true)
theorem len_law : ∀ ds o, F_law ds o → ds.length = 1 := fun _ _ ⟨_, h, _⟩ => by rw [h]; rfl
theorem holds_law (ns : List Int) (h : ns.length ≤ 63) : F_law [scrD ns] (.rt (.bool true)) := ⟨ns, rfl, h, rfl⟩
/-- indices that lie outside of 0 .. k - 1 -/
def outs (k : Nat) : List PyData := [.int (-1), .int k, .bool true, .str (PySem.Str.ofString "0"), .none, .int ((k : Int) + 9)]
theorem outs_ok {k : Nat} {d : PyData} (h : d ∈ outs k ∨ d = .none) : cln d = true ∧ plainD d = true ∧ inB d 0 ((k : Int) - 1) = false := by
  have big : ∀ z : Int, (k : Int) ≤ z → inB (.int z) 0 ((k : Int) - 1) = false := fun z hz => by
    show (_ && decide (z ≤ (k : Int) - 1)) = false
    rw [decide_eq_false (show ¬ z ≤ (k : Int) - 1 by omega), Bool.and_false]
  rcases h with h | rfl
  · unfold outs at h
    simp only [List.mem_cons, List.not_mem_nil, or_false] at h
    rcases h with rfl | rfl | rfl | rfl | rfl | rfl
    · exact ⟨rfl, rfl, rfl⟩
    · exact ⟨rfl, rfl, big _ (by omega)⟩
    · exact ⟨rfl, rfl, rfl⟩
    · exact ⟨rfl, rfl, rfl⟩
    · exact ⟨rfl, rfl, rfl⟩
    · exact ⟨rfl, rfl, big _ (by omega)⟩
  · exact ⟨rfl, rfl, rfl⟩
def lists3 : List PyData := [.tuple [.int 0], .none, .str (PySem.Str.ofString "0"), .dict []]
theorem lists3_ok {n : Nat} {d : PyData} (h : d ∈ lists3 ∨ d = .none) : cln d = true ∧ placesB n d = false := by
  rcases h with h | rfl
  · unfold lists3 at h
    simp only [List.mem_cons, List.not_mem_nil, or_false] at h
    rcases h with rfl | rfl | rfl | rfl <;> exact ⟨rfl, rfl⟩
  · exact ⟨rfl, rfl⟩
/-- what is asked, and the kind of error that is due -/
def Asks (a_NoHoard a_NoMove a_NoPlace : Addr) (n : Nat) (ms : List (List Int × List Int)) (k w : Int) (d : PyData) (g : List Int) (due : Nat) : Prop :=
  ∃ D, F_asked_l a_NoHoard a_NoMove a_NoPlace [.int k, netD n ms, .int w, d, rowD g] (.ex (.ref D)) ∧ ((due = 0 ∧ D = a_NoHoard) ∨ (due = 1 ∧ D = a_NoMove) ∨ (due = 2 ∧ D = a_NoPlace)) ∧ cln d = true ∧ ((k = 0 ∨ k = 4) → hoardB n d = false)
/-! law: slots 0 _law_script, 1 _law_net_here, 2 _law_good, 3 _law_cell, 4 _law_kind_here, 5 _law_what, 6 _law_bad, 7 _law_due (8) -/
def t_law (K : PySem.W.Frag) (E : XK) (a_Endless : Addr) (a_NoHoard : Addr) (a_NoMove : Addr) (a_NoNet : Addr) (a_NoPlace : Addr) (a_NoText : Addr) (a_Stuck : Addr) (a_TokenError : Addr) (a_TooBig : Addr) : TS :=
    (tSeq (tAsg (tCallS (SpD K F_net_l) (WE (fun _ _ _ _ => False)) (tCons (tVar 0) (tCons (tC (.int 0)) tNil))) (gName 1))
    (tSeq (tAsg (tCallS (SpD K F_hoard_l) (WE (fun _ _ _ _ => False)) (tCons (tVar 0) (tCons (tC (.int 24)) (tCons (tOp (rIx K) (tVar 1) (tC (.int 0))) (tCons (tC (.int 3)) tNil))))) (gName 2))
    (tSeq (tAsg (tCallS (SpD K F_mixed_l) (WE (fun _ _ _ _ => False)) (tCons (tVar 0) (tCons (tC (.int 34)) (tCons (tOp rPowA (tC (.int 10)) (tC (.int 6))) tNil)))) (gName 3))
    (tSeq (tAsg (tCallS (SpD K F_mixed_l) (WE (fun _ _ _ _ => False)) (tCons (tVar 0) (tCons (tC (.int 35)) (tCons (tC (.int 5)) tNil)))) (gName 4))
    (tSeq (tAsg (tCallS (SpD K F_mixed_l) (WE (fun _ _ _ _ => False)) (tCons (tVar 0) (tCons (tC (.int 36)) (tCons (tOp (rIx K) (tLst (tCons (tC (.int 12)) (tCons (tC (.int 6)) (tCons (tC (.int 7)) (tCons (tC (.int 5)) (tCons (tC (.int 5)) tNil)))))) (tVar 4)) tNil)))) (gName 5))
    (tSeq (tAsg (tCallS (SpD K F_bad_hoard_l) (WE (fun _ _ _ _ => False)) (tCons (tVar 2) (tCons (tVar 3) tNil))) (gName 6))
    (tSeq (tAsg (tC (.int 0)) (gName 7))
    (tSeq (tIfS (tTest (tOp (rEqD K) (tVar 4) (tC (.int 1)))) (tSeq (tAsg (tOp (rIx K) (tLst (tCons (tUn rNegA (tC (.int 1))) (tCons (tCB (rLenA K) (tCons (tOp (rIx K) (tVar 1) (tC (.int 1))) tNil)) (tCons (tC (.bl true)) (tCons (tC (.str (PySem.Str.ofString "0"))) (tCons (tC .non) (tCons (tOp (rAddA K) (tCB (rLenA K) (tCons (tOp (rIx K) (tVar 1) (tC (.int 1))) tNil)) (tC (.int 9))) tNil))))))) (tOp rModA (tVar 3) (tC (.int 6)))) (gName 6))
    (tAsg (tC (.int 1)) (gName 7))) (tIfS (tTest (tOp (rEqD K) (tVar 4) (tC (.int 2)))) (tSeq (tAsg (tOp (rIx K) (tLst (tCons (tUn rNegA (tC (.int 1))) (tCons (tOp (rIx K) (tVar 1) (tC (.int 0))) (tCons (tC (.bl true)) (tCons (tC (.str (PySem.Str.ofString "0"))) (tCons (tC .non) (tCons (tOp (rAddA K) (tOp (rIx K) (tVar 1) (tC (.int 0))) (tC (.int 9))) tNil))))))) (tOp rModA (tVar 3) (tC (.int 6)))) (gName 6))
    (tAsg (tC (.int 2)) (gName 7))) (tIfS (tTest (tOp (rEqD K) (tVar 4) (tC (.int 3)))) (tSeq (tAsg (tOp (rIx K) (tLst (tCons (tTup (tCons (tC (.int 0)) tNil)) (tCons (tC .non) (tCons (tC (.str (PySem.Str.ofString "0"))) (tCons (tDisp [((tC (.int 0)), (tC (.bl true)))]) tNil))))) (tOp rModA (tVar 3) (tC (.int 4)))) (gName 6))
    (tAsg (tC (.int 2)) (gName 7))) (tIfS (tTest (tOp (rEqD K) (tVar 4) (tC (.int 4)))) (tAsg (tCB (rIntA) (tCons (tOp (rEqD K) (tVar 5) (tC (.int 2))) tNil)) (gName 7)) tNext))))
    (tSeq (tIfS (tAnd (tTest (tOp (rIn K false) (tVar 4) (tTup (tCons (tC (.int 0)) (tCons (tC (.int 4)) tNil))))) (tTest (tOp rNotB (tCallS (SpD K F_is_hoard) (WE (fun _ _ _ _ => False)) (tCons (tVar 1) (tCons (tVar 6) tNil))) (tC (.bl false))))) (tRet (tC (.bl false))) tNext)
    (tRet (tOp (rEqD K) (tCallS (SpD K (F_kind_l a_Endless a_NoHoard a_NoMove a_NoNet a_NoPlace a_NoText a_Stuck a_TokenError a_TooBig)) (WE (fun _ _ _ _ => False)) (tCons (tTup (tCons (tVar 4) (tCons (tVar 1) (tCons (tVar 5) (tCons (tVar 6) (tCons (tVar 2) tNil)))))) tNil)) (tVar 7))))))))))))

theorem sem_law {K : PySem.W.Frag} {E : XK} (a_Endless a_NoHoard a_NoMove a_NoNet a_NoPlace a_NoText a_Stuck a_TokenError a_TooBig : Addr) {ds : List PyData} {o : Out} (h : F_law ds o) : As K E (t_law K E a_Endless a_NoHoard a_NoMove a_NoNet a_NoPlace a_NoText a_Stuck a_TokenError a_TooBig) (slots0 8 ds) (finP o) := by
  obtain ⟨ns, rfl, _, rfl⟩ := h
  have hN := net_ok0 ns 0
  refine as_seq (as_set (ev_call (ea_cons (ev_var (x := scrD ns) rfl) (ea_cons ev_int ea_nil)) ⟨ns, 0, rfl, by decide, by decide, rfl⟩) ?_)
  generalize sizeF ns 0 = n at hN ⊢
  generalize movesF tab0 ns 0 = ms at hN ⊢
  have hn6 := hN.top
  have hpos := hN.pos
  have hmany := hN.many
  have hg := hoard_ok ns 24 n (most := 3) (by decide)
  refine as_seq (as_set (ev_call (ea_cons (ev_var (x := scrD ns) rfl) (ea_cons ev_int (ea_cons (net_size rfl) (ea_cons ev_int ea_nil)))) ⟨ns, 24, n, 3, rfl, by decide, by decide, by omega, by decide, rfl⟩) ?_)
  generalize hoardF ns 24 n 3 = g at hg ⊢
  have hgl := hg.1
  have hg0 : ∀ x ∈ g, 0 ≤ x := fun x hx => (hg.2 x hx).1
  refine as_seq (as_set (x := .int (mixedF ns 34 1000000)) (ev_call (ea_cons (ev_var (x := scrD ns) rfl) (ea_cons ev_int (ea_cons (ev_op ev_int ev_int (rd_pow ⟨by decide, by decide, by decide⟩)) ea_nil))) ⟨ns, 34, 1000000, rfl, by decide, by decide, by decide, rfl⟩) ?_)
  have c0 := mixed_lo ns 34 (many := 1000000) (by decide)
  have c1 := mixed_hi ns 34 (many := 1000000) (by decide)
  generalize mixedF ns 34 1000000 = c at c0 c1 ⊢
  refine as_seq (as_set (x := .int (mixedF ns 35 5)) (ev_call (ea_cons (ev_var (x := scrD ns) rfl) (ea_cons ev_int (ea_cons ev_int ea_nil))) ⟨ns, 35, 5, rfl, by decide, by decide, by decide, rfl⟩) ?_)
  have k0 := mixed_lo ns 35 (many := 5) (by decide)
  have k1 := mixed_hi ns 35 (many := 5) (by decide)
  generalize mixedF ns 35 5 = k at k0 k1 ⊢
  have tabv : ∃ m : Int, 0 < m ∧ atI ([.int 12, .int 6, .int 7, .int 5, .int 5] : List PyData) k = some (.int m) := by
    rcases (by omega : k = 0 ∨ k = 1 ∨ k = 2 ∨ k = 3 ∨ k = 4) with rfl | rfl | rfl | rfl | rfl
    · exact ⟨12, by decide, rfl⟩
    · exact ⟨6, by decide, rfl⟩
    · exact ⟨7, by decide, rfl⟩
    · exact ⟨5, by decide, rfl⟩
    · exact ⟨5, by decide, rfl⟩
  obtain ⟨m, hm, hat⟩ := tabv
  refine as_seq (as_set (x := .int (mixedF ns 36 m)) (ev_call (ea_cons (ev_var (x := scrD ns) rfl) (ea_cons ev_int (ea_cons (ev_op (en_lst (xs := [.int 12, .int 6, .int 7, .int 5, .int 5]) (ea_cons ev_int (ea_cons ev_int (ea_cons ev_int (ea_cons ev_int (ea_cons ev_int ea_nil))))) (by show 5 ≤ sizeLine; decide)).ev (ev_var rfl) (rd_ixL hat)) ea_nil))) ⟨ns, 36, m, rfl, by decide, by decide, hm, rfl⟩) ?_)
  generalize mixedF ns 36 m = w
  refine as_seq (as_set (x := badH g c) (ev_call (ea_cons (ev_var (x := rowD g) rfl) (ea_cons (ev_var rfl) ea_nil)) ⟨g, c, rfl, c0, c1, by omega, by omega, rfl⟩) ?_)
  obtain ⟨bc, bb⟩ := bad_ok (c := c) hgl hpos
  generalize badH g c = bad at bc bb ⊢
  refine as_seq (as_set (x := .int 0) ev_int ?_)
  have pick6 : ∀ {δ : List Sl} {tk : TE} {q : Nat}, δ[3]? = some (.d (.int c)) → Ev K tk δ (.int (q : Nat)) → ∃ d, (d ∈ outs q ∨ d = .none) ∧ Ev K (tOp (rIx K) (tLst (tCons (tUn rNegA (tC (.int 1))) (tCons tk (tCons (tC (.bl true)) (tCons (tC (.str (PySem.Str.ofString "0"))) (tCons (tC .non) (tCons (tOp (rAddA K) tk (tC (.int 9))) tNil))))))) (tOp rModA (tVar 3) (tC (.int 6)))) δ d := fun {δ tk q} e h =>
    ⟨(outs q).getD (c % 6).toNat .none, mem_getD, ev_op (en_lst (xs := outs q) (ea_cons (ev_neg ev_int) (ea_cons h (ea_cons ev_bl (ea_cons ev_str (ea_cons ev_non (ea_cons (ev_op h ev_int rd_plus) ea_nil)))))) (by show 6 ≤ sizeLine; decide)).ev (ev_op (ev_var e) ev_int (rd_mod (by decide))) (rd_ixL (at_any (Int.emod_nonneg _ (by decide)) (by show c % 6 < 6; exact Int.emod_lt_of_pos _ (by decide))))⟩
  refine as_toQ (Q := fun δ1 => ∃ d due, δ1 = [.d (scrD ns), .d (netD n ms), .d (rowD g), .d (.int c), .d (.int k), .d (.int w), .d d, .d (.int (due : Nat))] ∧ Asks a_NoHoard a_NoMove a_NoPlace n ms k w d g due) ?_ ?_
  · refine as_if (et_test (ev_op (ev_var rfl) ev_int (rd_eq rfl rfl))) (fun hb => ?_) (fun hb => ?_)
    · rw [eqv_int] at hb
      have hk := of_decide_eq_true hb
      obtain ⟨d, hd, he⟩ := pick6 (δ := [.d (scrD ns), .d (netD n ms), .d (rowD g), .d (.int c), .d (.int k), .d (.int w), .d bad, .d (.int 0)]) (tk := tCB (rLenA K) (tCons (tOp (rIx K) (tVar 1) (tC (.int 1))) tNil)) (q := ms.length) rfl (ev_to (ev_cb (ea_cons (net_moves rfl) ea_nil) rc_lenT) (by rw [List.length_map]))
      obtain ⟨d1, d2, d3⟩ := outs_ok hd
      exact as_seq (as_set he (as_set (x := .int (1 : Nat)) ev_int ⟨_, ⟨d, 1, rfl, a_NoMove, ⟨k, _, _, _, _, rfl, .inr (.inl ⟨hk, ⟨n, ms, w, d, g, rfl, d1, d2, d3, by omega, hgl, hg0, rfl⟩, rfl⟩)⟩, .inr (.inl ⟨rfl, rfl⟩), d1, fun q => by omega⟩, rfl⟩))
    rw [eqv_int] at hb
    have n1 := of_decide_eq_false hb
    refine as_if (et_test (ev_op (ev_var rfl) ev_int (rd_eq rfl rfl))) (fun hb => ?_) (fun hb => ?_)
    · rw [eqv_int] at hb
      have hk := of_decide_eq_true hb
      obtain ⟨d, hd, he⟩ := pick6 (δ := [.d (scrD ns), .d (netD n ms), .d (rowD g), .d (.int c), .d (.int k), .d (.int w), .d bad, .d (.int 0)]) (tk := tOp (rIx K) (tVar 1) (tC (.int 0))) (q := n) rfl (net_size rfl)
      obtain ⟨d1, d2, d3⟩ := outs_ok hd
      exact as_seq (as_set he (as_set (x := .int (2 : Nat)) ev_int ⟨_, ⟨d, 2, rfl, a_NoPlace, ⟨k, _, _, _, _, rfl, .inr (.inr (.inl ⟨hk, ⟨n, ms, w, d, g, rfl, d1, d3, hgl, hg0, rfl⟩, rfl⟩))⟩, .inr (.inr ⟨rfl, rfl⟩), d1, fun q => by omega⟩, rfl⟩))
    rw [eqv_int] at hb
    have n2 := of_decide_eq_false hb
    refine as_if (et_test (ev_op (ev_var rfl) ev_int (rd_eq rfl rfl))) (fun hb => ?_) (fun hb => ?_)
    · rw [eqv_int] at hb
      have hk := of_decide_eq_true hb
      obtain ⟨d1, d2⟩ := lists3_ok (n := n) (mem_getD (l := lists3) (i := (c % 4).toNat))
      refine as_seq (as_set (x := lists3.getD (c % 4).toNat .none) (ev_op (en_lst (xs := lists3) (ea_cons (ev_tup (xs := [.int 0]) (ea_cons ev_int ea_nil) (by show 1 ≤ sizeLine; decide)) (ea_cons ev_non (ea_cons ev_str (ea_cons ev_dict1 ea_nil)))) (by show 4 ≤ sizeLine; decide)).ev (ev_op (ev_var rfl) ev_int (rd_mod (by decide))) (rd_ixL (at_any (Int.emod_nonneg _ (by decide)) (by show c % 4 < 4; exact Int.emod_lt_of_pos _ (by decide))))) ?_)
      exact as_set (x := .int (2 : Nat)) ev_int ⟨_, ⟨_, 2, rfl, a_NoPlace, ⟨k, _, _, _, _, rfl, .inr (.inr (.inr (.inl ⟨hk, ⟨n, ms, w, _, g, rfl, d1, d2, hgl, hg0, rfl⟩, rfl⟩)))⟩, .inr (.inr ⟨rfl, rfl⟩), d1, fun q => by omega⟩, rfl⟩
    rw [eqv_int] at hb
    have n3 := of_decide_eq_false hb
    refine as_if (et_test (ev_op (ev_var rfl) ev_int (rd_eq rfl rfl))) (fun hb => ?_) (fun hb => ?_)
    · rw [eqv_int] at hb
      have hk := of_decide_eq_true hb
      by_cases h2 : w = 2
      · exact as_set (x := .int (1 : Nat)) (ev_to (ev_cb (ea_cons (ev_to (ev_op (ev_var rfl) ev_int (rd_eq rfl rfl)) (by rw [eqv_int, decide_eq_true h2])) ea_nil) rc_intB) rfl) ⟨_, ⟨bad, 1, rfl, a_NoMove, ⟨k, _, _, _, _, rfl, .inr (.inr (.inr (.inr ⟨hk, ⟨n, ms, w, bad, g, rfl, bc, bb, by rw [if_pos h2]⟩, .inl rfl⟩)))⟩, .inr (.inl ⟨rfl, rfl⟩), bc, fun _ => bb⟩, rfl⟩
      · exact as_set (x := .int (0 : Nat)) (ev_to (ev_cb (ea_cons (ev_to (ev_op (ev_var rfl) ev_int (rd_eq rfl rfl)) (by rw [eqv_int, decide_eq_false h2])) ea_nil) rc_intB) rfl) ⟨_, ⟨bad, 0, rfl, a_NoHoard, ⟨k, _, _, _, _, rfl, .inr (.inr (.inr (.inr ⟨hk, ⟨n, ms, w, bad, g, rfl, bc, bb, by rw [if_neg h2]⟩, .inr rfl⟩)))⟩, .inl ⟨rfl, rfl⟩, bc, fun _ => bb⟩, rfl⟩
    · rw [eqv_int] at hb
      have n4 := of_decide_eq_false hb
      exact as_next ⟨_, ⟨bad, 0, rfl, a_NoHoard, ⟨k, _, _, _, _, rfl, .inl ⟨by omega, ⟨n, ms, w, bad, g, rfl, bc, bb, hgl, hg0, rfl⟩, rfl⟩⟩, .inl ⟨rfl, rfl⟩, bc, fun _ => bb⟩, rfl⟩
  rintro δ1 ⟨d, due, rfl, D, hF, hD, hc, hz⟩
  refine as_seq (as_if (b := false) (et_to (et_and (b := false) (et_test (ev_op (ev_var rfl) (ev_tup (xs := [0, 4].map .int) (ea_cons ev_int (ea_cons ev_int ea_nil)) (by show 2 ≤ sizeLine; decide)) rd_inT)) fun hq => et_test (ev_op (x := .bool false) (y := .bool false) (ev_call (ea_cons (ev_var (x := netD n ms) rfl) (ea_cons (ev_var rfl) ea_nil)) ⟨n, ms, d, rfl, hc, by rw [hz (by
    have := of_decide_eq_true hq
    simp only [List.mem_cons, List.not_mem_nil, or_false] at this
    exact this)]⟩) ev_bl rd_notB)) (by rw [Bool.and_false])) (fun z => by cases z) (fun _ => as_next ?_))
  exact as_ret (ev_to (ev_op (ev_call (ea_cons (ev_tup (xs := [.int k, netD n ms, .int w, d, rowD g]) (ea_cons (ev_var rfl) (ea_cons (ev_var rfl) (ea_cons (ev_var rfl) (ea_cons (ev_var rfl) (ea_cons (ev_var rfl) ea_nil))))) (by show 5 ≤ sizeLine; decide)) ea_nil) ⟨_, _, _, _, _, D, due, rfl, hF, hD, rfl⟩) (ev_var rfl) (rd_eq rfl rfl)) (by rw [eqv_self rfl])) rfl

end Tw

namespace Tw
open PySem PySem.Spec PyProof.Rows L2
def topS (i : Nat) : Stmt := PySem.Challenge.pw_tokenwall_k03_nets_refused.main.body.getD i (.Pass ⟨0, 0, 0, 0⟩)

abbrev s_is_whole : Stmt := topS 11
abbrev N_is_whole : List Str := ["thing"]
theorem sc_is_whole : FnScope N_is_whole ["thing"] (defScope s_is_whole) := ⟨rfl, rfl, rfl, by decide +kernel, rfl, by decide +kernel, by decide +kernel⟩

abbrev s_between : Stmt := topS 12
abbrev N_between : List Str := ["thing", "low", "most"]
theorem sc_between : FnScope N_between ["thing", "low", "most"] (defScope s_between) := ⟨rfl, rfl, rfl, by decide +kernel, rfl, by decide +kernel, by decide +kernel⟩

abbrev s_is_hoard : Stmt := topS 13
abbrev N_is_hoard : List Str := ["net", "thing", "number"]
theorem sc_is_hoard : FnScope N_is_hoard ["net", "thing"] (defScope s_is_hoard) := ⟨rfl, rfl, rfl, by decide +kernel, rfl, by decide +kernel, by decide +kernel⟩

abbrev s_need_hoard : Stmt := topS 14
abbrev N_need_hoard : List Str := ["net", "thing"]
theorem sc_need_hoard : FnScope N_need_hoard ["net", "thing"] (defScope s_need_hoard) := ⟨rfl, rfl, rfl, by decide +kernel, rfl, by decide +kernel, by decide +kernel⟩

abbrev s_need_move : Stmt := topS 15
abbrev N_need_move : List Str := ["net", "thing"]
theorem sc_need_move : FnScope N_need_move ["net", "thing"] (defScope s_need_move) := ⟨rfl, rfl, rfl, by decide +kernel, rfl, by decide +kernel, by decide +kernel⟩

abbrev s_need_places : Stmt := topS 16
abbrev N_need_places : List Str := ["net", "thing", "place"]
theorem sc_need_places : FnScope N_need_places ["net", "thing"] (defScope s_need_places) := ⟨rfl, rfl, rfl, by decide +kernel, rfl, by decide +kernel, by decide +kernel⟩

abbrev s_can : Stmt := topS 18
abbrev N_can : List Str := ["net", "hoard", "move"]
theorem sc_can : FnScope N_can ["net", "hoard", "move"] (defScope s_can) := ⟨rfl, rfl, rfl, by decide +kernel, rfl, by decide +kernel, by decide +kernel⟩

abbrev s_behind : Stmt := topS 20
abbrev N_behind : List Str := ["net", "hoard", "run", "move", "made", "k"]
theorem sc_behind : FnScope N_behind ["net", "hoard", "run"] (defScope s_behind) := ⟨rfl, rfl, rfl, by decide +kernel, rfl, by decide +kernel, by decide +kernel⟩

abbrev s_least_before : Stmt := topS 23
abbrev N_least_before : List Str := ["net", "move", "goal"]
theorem sc_least_before : FnScope N_least_before ["net", "move", "goal"] (defScope s_least_before) := ⟨rfl, rfl, rfl, by decide +kernel, rfl, by decide +kernel, by decide +kernel⟩

abbrev s_sill : Stmt := topS 27
abbrev N_sill : List Str := ["net", "goal", "row"]
theorem sc_sill : FnScope N_sill ["net", "goal"] (defScope s_sill) := ⟨rfl, rfl, rfl, by decide +kernel, rfl, by decide +kernel, by decide +kernel⟩

abbrev s_cover : Stmt := topS 30
abbrev N_cover : List Str := ["net", "start", "goal", "found", "at", "row"]
theorem sc_cover : FnScope N_cover ["net", "start", "goal"] (defScope s_cover) := ⟨rfl, rfl, rfl, by decide +kernel, rfl, by decide +kernel, by decide +kernel⟩

abbrev s_together : Stmt := topS 31
abbrev N_together : List Str := ["net", "start", "places", "goal", "k"]
theorem sc_together : FnScope N_together ["net", "start", "places"] (defScope s_together) := ⟨rfl, rfl, rfl, by decide +kernel, rfl, by decide +kernel, by decide +kernel⟩

abbrev s_without_place : Stmt := topS 34
abbrev N_without_place : List Str := ["net", "place", "takes", "gives"]
theorem sc_without_place : FnScope N_without_place ["net", "place"] (defScope s_without_place) := ⟨rfl, rfl, rfl, by decide +kernel, rfl, by decide +kernel, by decide +kernel⟩

abbrev s_all_of : Stmt := topS 40
abbrev N_all_of : List Str := ["net", "start", "found", "pump", "row"]
theorem sc_all_of : FnScope N_all_of ["net", "start"] (defScope s_all_of) := ⟨rfl, rfl, rfl, by decide +kernel, rfl, by decide +kernel, by decide +kernel⟩

abbrev s_how_far : Stmt := topS 42
abbrev N_how_far : List Str := ["net", "start", "place", "row"]
theorem sc_how_far : FnScope N_how_far ["net", "start", "place"] (defScope s_how_far) := ⟨rfl, rfl, rfl, by decide +kernel, rfl, by decide +kernel, by decide +kernel⟩

abbrev s_run_to : Stmt := topS 43
abbrev N_run_to : List Str := ["net", "start", "goal", "found", "at"]
theorem sc_run_to : FnScope N_run_to ["net", "start", "goal"] (defScope s_run_to) := ⟨rfl, rfl, rfl, by decide +kernel, rfl, by decide +kernel, by decide +kernel⟩

abbrev s_stuck_hoards : Stmt := topS 44
abbrev N_stuck_hoards : List Str := ["net", "start", "made", "row", "move"]
theorem sc_stuck_hoards : FnScope N_stuck_hoards ["net", "start"] (defScope s_stuck_hoards) := ⟨rfl, rfl, rfl, by decide +kernel, rfl, by decide +kernel, by decide +kernel⟩

abbrev s_greatest : Stmt := topS 48
abbrev N_greatest : List Str := ["net", "places", "gives", "takes", "left", "bad", "place"]
theorem sc_greatest : FnScope N_greatest ["net", "places", "gives", "takes"] (defScope s_greatest) := ⟨rfl, rfl, rfl, by decide +kernel, rfl, by decide +kernel, by decide +kernel⟩

abbrev s_greatest_sink : Stmt := topS 49
abbrev N_greatest_sink : List Str := ["net", "places"]
theorem sc_greatest_sink : FnScope N_greatest_sink ["net", "places"] (defScope s_greatest_sink) := ⟨rfl, rfl, rfl, by decide +kernel, rfl, by decide +kernel, by decide +kernel⟩

abbrev s_greatest_trap : Stmt := topS 50
abbrev N_greatest_trap : List Str := ["net", "places"]
theorem sc_greatest_trap : FnScope N_greatest_trap ["net", "places"] (defScope s_greatest_trap) := ⟨rfl, rfl, rfl, by decide +kernel, rfl, by decide +kernel, by decide +kernel⟩

abbrev s_is_sink : Stmt := topS 51
abbrev N_is_sink : List Str := ["net", "places"]
theorem sc_is_sink : FnScope N_is_sink ["net", "places"] (defScope s_is_sink) := ⟨rfl, rfl, rfl, by decide +kernel, rfl, by decide +kernel, by decide +kernel⟩

abbrev s_is_trap : Stmt := topS 52
abbrev N_is_trap : List Str := ["net", "places"]
theorem sc_is_trap : FnScope N_is_trap ["net", "places"] (defScope s_is_trap) := ⟨rfl, rfl, rfl, by decide +kernel, rfl, by decide +kernel, by decide +kernel⟩

abbrev s_cell_at_l : Stmt := topS 54
abbrev N_cell_at_l : List Str := ["_law_script", "_law_k"]
theorem sc_cell_at_l : FnScope N_cell_at_l ["_law_script", "_law_k"] (defScope s_cell_at_l) := ⟨rfl, rfl, rfl, by decide +kernel, rfl, by decide +kernel, by decide +kernel⟩

abbrev s_mixed_l : Stmt := topS 55
abbrev N_mixed_l : List Str := ["_law_script", "_law_k", "_law_many", "_law_drawn"]
theorem sc_mixed_l : FnScope N_mixed_l ["_law_script", "_law_k", "_law_many"] (defScope s_mixed_l) := ⟨rfl, rfl, rfl, by decide +kernel, rfl, by decide +kernel, by decide +kernel⟩

abbrev s_move_l : Stmt := topS 56
abbrev N_move_l : List Str := ["_law_script", "_law_at", "_law_size", "_law_even", "_law_k", "_law_cells", "_law_takes", "_law_gives", "_law_left", "_law_cell"]
theorem sc_move_l : FnScope N_move_l ["_law_script", "_law_at", "_law_size", "_law_even"] (defScope s_move_l) := ⟨rfl, rfl, rfl, by decide +kernel, rfl, by decide +kernel, by decide +kernel⟩

abbrev s_net_l : Stmt := topS 57
abbrev N_net_l : List Str := ["_law_script", "_law_at", "_law_size", "_law_many", "_law_even", "_law_k"]
theorem sc_net_l : FnScope N_net_l ["_law_script", "_law_at"] (defScope s_net_l) := ⟨rfl, rfl, rfl, by decide +kernel, rfl, by decide +kernel, by decide +kernel⟩

abbrev s_hoard_l : Stmt := topS 58
abbrev N_hoard_l : List Str := ["_law_script", "_law_at", "_law_size", "_law_most", "_law_k"]
theorem sc_hoard_l : FnScope N_hoard_l ["_law_script", "_law_at", "_law_size", "_law_most"] (defScope s_hoard_l) := ⟨rfl, rfl, rfl, by decide +kernel, rfl, by decide +kernel, by decide +kernel⟩

abbrev s_with_hoard_l : Stmt := topS 59
abbrev N_with_hoard_l : List Str := ["_law_net_here", "_law_what", "_law_bad", "_law_good"]
theorem sc_with_hoard_l : FnScope N_with_hoard_l ["_law_net_here", "_law_what", "_law_bad", "_law_good"] (defScope s_with_hoard_l) := ⟨rfl, rfl, rfl, by decide +kernel, rfl, by decide +kernel, by decide +kernel⟩

abbrev s_with_move_l : Stmt := topS 60
abbrev N_with_move_l : List Str := ["_law_net_here", "_law_what", "_law_bad", "_law_good", "_law_move_here"]
theorem sc_with_move_l : FnScope N_with_move_l ["_law_net_here", "_law_what", "_law_bad", "_law_good"] (defScope s_with_move_l) := ⟨rfl, rfl, rfl, by decide +kernel, rfl, by decide +kernel, by decide +kernel⟩

abbrev s_with_place_l : Stmt := topS 61
abbrev N_with_place_l : List Str := ["_law_net_here", "_law_what", "_law_bad", "_law_good"]
theorem sc_with_place_l : FnScope N_with_place_l ["_law_net_here", "_law_what", "_law_bad", "_law_good"] (defScope s_with_place_l) := ⟨rfl, rfl, rfl, by decide +kernel, rfl, by decide +kernel, by decide +kernel⟩

abbrev s_with_places_l : Stmt := topS 62
abbrev N_with_places_l : List Str := ["_law_net_here", "_law_what", "_law_bad", "_law_good"]
theorem sc_with_places_l : FnScope N_with_places_l ["_law_net_here", "_law_what", "_law_bad", "_law_good"] (defScope s_with_places_l) := ⟨rfl, rfl, rfl, by decide +kernel, rfl, by decide +kernel, by decide +kernel⟩

abbrev s_with_two_l : Stmt := topS 63
abbrev N_with_two_l : List Str := ["_law_net_here", "_law_what", "_law_bad", "_law_good"]
theorem sc_with_two_l : FnScope N_with_two_l ["_law_net_here", "_law_what", "_law_bad", "_law_good"] (defScope s_with_two_l) := ⟨rfl, rfl, rfl, by decide +kernel, rfl, by decide +kernel, by decide +kernel⟩

abbrev s_asked_l : Stmt := topS 64
abbrev N_asked_l : List Str := ["_law_kind_here", "_law_net_here", "_law_what", "_law_bad", "_law_good"]
theorem sc_asked_l : FnScope N_asked_l ["_law_kind_here", "_law_net_here", "_law_what", "_law_bad", "_law_good"] (defScope s_asked_l) := ⟨rfl, rfl, rfl, by decide +kernel, rfl, by decide +kernel, by decide +kernel⟩

abbrev s_kind_l : Stmt := topS 65
abbrev N_kind_l : List Str := ["_law_case", "e", "_law_own", "_law_others"]
theorem sc_kind_l : FnScope N_kind_l ["_law_case"] (defScope s_kind_l) := ⟨rfl, rfl, rfl, by decide +kernel, rfl, by decide +kernel, by decide +kernel⟩

abbrev s_bad_hoard_l : Stmt := topS 66
abbrev N_bad_hoard_l : List Str := ["_law_good", "_law_cell", "_law_odd"]
theorem sc_bad_hoard_l : FnScope N_bad_hoard_l ["_law_good", "_law_cell"] (defScope s_bad_hoard_l) := ⟨rfl, rfl, rfl, by decide +kernel, rfl, by decide +kernel, by decide +kernel⟩

abbrev s_law : Stmt := topS 67
abbrev N_law : List Str := ["_law_script", "_law_net_here", "_law_good", "_law_cell", "_law_kind_here", "_law_what", "_law_bad", "_law_due"]
theorem sc_law : FnScope N_law ["_law_script"] (defScope s_law) := ⟨rfl, rfl, rfl, by decide +kernel, rfl, by decide +kernel, by decide +kernel⟩

structure Txt (K : PySem.W.Frag) (mg : Str → Option Value) where
  a_is_whole : Addr
  fd_is_whole : FuncData
  F_is_whole : Fun K "is_whole" "is_whole" s_is_whole a_is_whole fd_is_whole
  b_is_whole : Binds K fd_is_whole ["thing"] []
  g_is_whole : mg "is_whole" = some (.ref a_is_whole)
  a_between : Addr
  fd_between : FuncData
  F_between : Fun K "between" "between" s_between a_between fd_between
  b_between : Binds K fd_between ["thing", "low", "most"] []
  g_between : mg "between" = some (.ref a_between)
  a_is_hoard : Addr
  fd_is_hoard : FuncData
  F_is_hoard : Fun K "is_hoard" "is_hoard" s_is_hoard a_is_hoard fd_is_hoard
  b_is_hoard : Binds K fd_is_hoard ["net", "thing"] []
  g_is_hoard : mg "is_hoard" = some (.ref a_is_hoard)
  a_need_hoard : Addr
  fd_need_hoard : FuncData
  F_need_hoard : Fun K "need_hoard" "need_hoard" s_need_hoard a_need_hoard fd_need_hoard
  b_need_hoard : Binds K fd_need_hoard ["net", "thing"] []
  g_need_hoard : mg "need_hoard" = some (.ref a_need_hoard)
  a_need_move : Addr
  fd_need_move : FuncData
  F_need_move : Fun K "need_move" "need_move" s_need_move a_need_move fd_need_move
  b_need_move : Binds K fd_need_move ["net", "thing"] []
  g_need_move : mg "need_move" = some (.ref a_need_move)
  a_need_places : Addr
  fd_need_places : FuncData
  F_need_places : Fun K "need_places" "need_places" s_need_places a_need_places fd_need_places
  b_need_places : Binds K fd_need_places ["net", "thing"] []
  g_need_places : mg "need_places" = some (.ref a_need_places)
  a_can : Addr
  fd_can : FuncData
  F_can : Fun K "can" "can" s_can a_can fd_can
  b_can : Binds K fd_can ["net", "hoard", "move"] []
  g_can : mg "can" = some (.ref a_can)
  a_behind : Addr
  fd_behind : FuncData
  F_behind : Fun K "behind" "behind" s_behind a_behind fd_behind
  b_behind : Binds K fd_behind ["net", "hoard", "run"] []
  g_behind : mg "behind" = some (.ref a_behind)
  a_least_before : Addr
  fd_least_before : FuncData
  F_least_before : Fun K "least_before" "least_before" s_least_before a_least_before fd_least_before
  b_least_before : Binds K fd_least_before ["net", "move", "goal"] []
  g_least_before : mg "least_before" = some (.ref a_least_before)
  a_sill : Addr
  fd_sill : FuncData
  F_sill : Fun K "sill" "sill" s_sill a_sill fd_sill
  b_sill : Binds K fd_sill ["net", "goal"] []
  g_sill : mg "sill" = some (.ref a_sill)
  a_cover : Addr
  fd_cover : FuncData
  F_cover : Fun K "cover" "cover" s_cover a_cover fd_cover
  b_cover : Binds K fd_cover ["net", "start", "goal"] []
  g_cover : mg "cover" = some (.ref a_cover)
  a_together : Addr
  fd_together : FuncData
  F_together : Fun K "together" "together" s_together a_together fd_together
  b_together : Binds K fd_together ["net", "start", "places"] []
  g_together : mg "together" = some (.ref a_together)
  a_without_place : Addr
  fd_without_place : FuncData
  F_without_place : Fun K "without_place" "without_place" s_without_place a_without_place fd_without_place
  b_without_place : Binds K fd_without_place ["net", "place"] []
  g_without_place : mg "without_place" = some (.ref a_without_place)
  a_all_of : Addr
  fd_all_of : FuncData
  F_all_of : Fun K "all_of" "all_of" s_all_of a_all_of fd_all_of
  b_all_of : Binds K fd_all_of ["net", "start"] []
  g_all_of : mg "all_of" = some (.ref a_all_of)
  a_how_far : Addr
  fd_how_far : FuncData
  F_how_far : Fun K "how_far" "how_far" s_how_far a_how_far fd_how_far
  b_how_far : Binds K fd_how_far ["net", "start", "place"] []
  g_how_far : mg "how_far" = some (.ref a_how_far)
  a_run_to : Addr
  fd_run_to : FuncData
  F_run_to : Fun K "run_to" "run_to" s_run_to a_run_to fd_run_to
  b_run_to : Binds K fd_run_to ["net", "start", "goal"] []
  g_run_to : mg "run_to" = some (.ref a_run_to)
  a_stuck_hoards : Addr
  fd_stuck_hoards : FuncData
  F_stuck_hoards : Fun K "stuck_hoards" "stuck_hoards" s_stuck_hoards a_stuck_hoards fd_stuck_hoards
  b_stuck_hoards : Binds K fd_stuck_hoards ["net", "start"] []
  g_stuck_hoards : mg "stuck_hoards" = some (.ref a_stuck_hoards)
  a_greatest : Addr
  fd_greatest : FuncData
  F_greatest : Fun K "greatest" "greatest" s_greatest a_greatest fd_greatest
  b_greatest : Binds K fd_greatest ["net", "places", "gives", "takes"] []
  g_greatest : mg "greatest" = some (.ref a_greatest)
  a_greatest_sink : Addr
  fd_greatest_sink : FuncData
  F_greatest_sink : Fun K "greatest_sink" "greatest_sink" s_greatest_sink a_greatest_sink fd_greatest_sink
  b_greatest_sink : Binds K fd_greatest_sink ["net", "places"] []
  g_greatest_sink : mg "greatest_sink" = some (.ref a_greatest_sink)
  a_greatest_trap : Addr
  fd_greatest_trap : FuncData
  F_greatest_trap : Fun K "greatest_trap" "greatest_trap" s_greatest_trap a_greatest_trap fd_greatest_trap
  b_greatest_trap : Binds K fd_greatest_trap ["net", "places"] []
  g_greatest_trap : mg "greatest_trap" = some (.ref a_greatest_trap)
  a_is_sink : Addr
  fd_is_sink : FuncData
  F_is_sink : Fun K "is_sink" "is_sink" s_is_sink a_is_sink fd_is_sink
  b_is_sink : Binds K fd_is_sink ["net", "places"] []
  g_is_sink : mg "is_sink" = some (.ref a_is_sink)
  a_is_trap : Addr
  fd_is_trap : FuncData
  F_is_trap : Fun K "is_trap" "is_trap" s_is_trap a_is_trap fd_is_trap
  b_is_trap : Binds K fd_is_trap ["net", "places"] []
  g_is_trap : mg "is_trap" = some (.ref a_is_trap)
  a_cell_at_l : Addr
  fd_cell_at_l : FuncData
  F_cell_at_l : Fun K "_law_cell_at" "_law_cell_at" s_cell_at_l a_cell_at_l fd_cell_at_l
  b_cell_at_l : Binds K fd_cell_at_l ["_law_script", "_law_k"] []
  g_cell_at_l : mg "_law_cell_at" = some (.ref a_cell_at_l)
  a_mixed_l : Addr
  fd_mixed_l : FuncData
  F_mixed_l : Fun K "_law_mixed" "_law_mixed" s_mixed_l a_mixed_l fd_mixed_l
  b_mixed_l : Binds K fd_mixed_l ["_law_script", "_law_k", "_law_many"] []
  g_mixed_l : mg "_law_mixed" = some (.ref a_mixed_l)
  a_move_l : Addr
  fd_move_l : FuncData
  F_move_l : Fun K "_law_move" "_law_move" s_move_l a_move_l fd_move_l
  b_move_l : Binds K fd_move_l ["_law_script", "_law_at", "_law_size", "_law_even"] []
  g_move_l : mg "_law_move" = some (.ref a_move_l)
  a_net_l : Addr
  fd_net_l : FuncData
  F_net_l : Fun K "_law_net" "_law_net" s_net_l a_net_l fd_net_l
  b_net_l : Binds K fd_net_l ["_law_script", "_law_at"] []
  g_net_l : mg "_law_net" = some (.ref a_net_l)
  a_hoard_l : Addr
  fd_hoard_l : FuncData
  F_hoard_l : Fun K "_law_hoard" "_law_hoard" s_hoard_l a_hoard_l fd_hoard_l
  b_hoard_l : Binds K fd_hoard_l ["_law_script", "_law_at", "_law_size", "_law_most"] []
  g_hoard_l : mg "_law_hoard" = some (.ref a_hoard_l)
  a_with_hoard_l : Addr
  fd_with_hoard_l : FuncData
  F_with_hoard_l : Fun K "_law_with_hoard" "_law_with_hoard" s_with_hoard_l a_with_hoard_l fd_with_hoard_l
  b_with_hoard_l : Binds K fd_with_hoard_l ["_law_net_here", "_law_what", "_law_bad", "_law_good"] []
  g_with_hoard_l : mg "_law_with_hoard" = some (.ref a_with_hoard_l)
  a_with_move_l : Addr
  fd_with_move_l : FuncData
  F_with_move_l : Fun K "_law_with_move" "_law_with_move" s_with_move_l a_with_move_l fd_with_move_l
  b_with_move_l : Binds K fd_with_move_l ["_law_net_here", "_law_what", "_law_bad", "_law_good"] []
  g_with_move_l : mg "_law_with_move" = some (.ref a_with_move_l)
  a_with_place_l : Addr
  fd_with_place_l : FuncData
  F_with_place_l : Fun K "_law_with_place" "_law_with_place" s_with_place_l a_with_place_l fd_with_place_l
  b_with_place_l : Binds K fd_with_place_l ["_law_net_here", "_law_what", "_law_bad", "_law_good"] []
  g_with_place_l : mg "_law_with_place" = some (.ref a_with_place_l)
  a_with_places_l : Addr
  fd_with_places_l : FuncData
  F_with_places_l : Fun K "_law_with_places" "_law_with_places" s_with_places_l a_with_places_l fd_with_places_l
  b_with_places_l : Binds K fd_with_places_l ["_law_net_here", "_law_what", "_law_bad", "_law_good"] []
  g_with_places_l : mg "_law_with_places" = some (.ref a_with_places_l)
  a_with_two_l : Addr
  fd_with_two_l : FuncData
  F_with_two_l : Fun K "_law_with_two" "_law_with_two" s_with_two_l a_with_two_l fd_with_two_l
  b_with_two_l : Binds K fd_with_two_l ["_law_net_here", "_law_what", "_law_bad", "_law_good"] []
  g_with_two_l : mg "_law_with_two" = some (.ref a_with_two_l)
  a_asked_l : Addr
  fd_asked_l : FuncData
  F_asked_l : Fun K "_law_asked" "_law_asked" s_asked_l a_asked_l fd_asked_l
  b_asked_l : Binds K fd_asked_l ["_law_kind_here", "_law_net_here", "_law_what", "_law_bad", "_law_good"] []
  g_asked_l : mg "_law_asked" = some (.ref a_asked_l)
  a_kind_l : Addr
  fd_kind_l : FuncData
  F_kind_l : Fun K "_law_kind" "_law_kind" s_kind_l a_kind_l fd_kind_l
  b_kind_l : Binds K fd_kind_l ["_law_case"] []
  g_kind_l : mg "_law_kind" = some (.ref a_kind_l)
  a_bad_hoard_l : Addr
  fd_bad_hoard_l : FuncData
  F_bad_hoard_l : Fun K "_law_bad_hoard" "_law_bad_hoard" s_bad_hoard_l a_bad_hoard_l fd_bad_hoard_l
  b_bad_hoard_l : Binds K fd_bad_hoard_l ["_law_good", "_law_cell"] []
  g_bad_hoard_l : mg "_law_bad_hoard" = some (.ref a_bad_hoard_l)
  a_law : Addr
  fd_law : FuncData
  F_law : Fun K "law" "law" s_law a_law fd_law
  b_law : Binds K fd_law ["_law_script"] []
  g_law : mg "law" = some (.ref a_law)
  m_isinstance : mg "isinstance" = none
  m_int : mg "int" = none
  m_bool : mg "bool" = none
  m_tuple : mg "tuple" = none
  m_len : mg "len" = none
  m_list : mg "list" = none
  m_sorted : mg "sorted" = none
  m_set : mg "set" = none
  m_range : mg "range" = none
  m_sum : mg "sum" = none
  m_ValueError : mg "ValueError" = none
  a_Endless : Addr
  g_Endless : mg "Endless" = some (.ref a_Endless)
  a_NoHoard : Addr
  g_NoHoard : mg "NoHoard" = some (.ref a_NoHoard)
  x_NoHoard : PySem.W.excIn K a_NoHoard [.type "ValueError", .type "Exception", .type "BaseException", .type "object"] "ValueError.__new__" = true
  k_NoHoard : PySem.W.keepIn K (.ref a_NoHoard) = true
  p_NoHoard : PySem.W.subIn K (.ref a_NoHoard) (.type "BaseException") = some true
  t_NoHoard : PySem.W.typeIn K (.ref a_NoHoard) = some (.type "type")
  a_NoMove : Addr
  g_NoMove : mg "NoMove" = some (.ref a_NoMove)
  x_NoMove : PySem.W.excIn K a_NoMove [.type "ValueError", .type "Exception", .type "BaseException", .type "object"] "ValueError.__new__" = true
  k_NoMove : PySem.W.keepIn K (.ref a_NoMove) = true
  p_NoMove : PySem.W.subIn K (.ref a_NoMove) (.type "BaseException") = some true
  t_NoMove : PySem.W.typeIn K (.ref a_NoMove) = some (.type "type")
  a_NoNet : Addr
  g_NoNet : mg "NoNet" = some (.ref a_NoNet)
  a_NoPlace : Addr
  g_NoPlace : mg "NoPlace" = some (.ref a_NoPlace)
  x_NoPlace : PySem.W.excIn K a_NoPlace [.type "ValueError", .type "Exception", .type "BaseException", .type "object"] "ValueError.__new__" = true
  k_NoPlace : PySem.W.keepIn K (.ref a_NoPlace) = true
  p_NoPlace : PySem.W.subIn K (.ref a_NoPlace) (.type "BaseException") = some true
  t_NoPlace : PySem.W.typeIn K (.ref a_NoPlace) = some (.type "type")
  a_NoText : Addr
  g_NoText : mg "NoText" = some (.ref a_NoText)
  a_Stuck : Addr
  g_Stuck : mg "Stuck" = some (.ref a_Stuck)
  a_TokenError : Addr
  g_TokenError : mg "TokenError" = some (.ref a_TokenError)
  a_TooBig : Addr
  g_TooBig : mg "TooBig" = some (.ref a_TooBig)
  kf_NoHoard : KindF K a_NoHoard a_TokenError a_NoHoard a_NoMove a_NoPlace a_NoNet a_Endless a_TooBig a_NoText a_Stuck 0
  kf_NoMove : KindF K a_NoMove a_TokenError a_NoHoard a_NoMove a_NoPlace a_NoNet a_Endless a_TooBig a_NoText a_Stuck 1
  kf_NoPlace : KindF K a_NoPlace a_TokenError a_NoHoard a_NoMove a_NoPlace a_NoNet a_Endless a_TooBig a_NoText a_Stuck 2

section
variable {P : Program} {w : World} {K : PySem.W.Frag} {mg : Str → Option Value} {base : Heap}

theorem ok_is_whole (T : Txt K mg) : FnOk P w K mg base (L2.CX P w) 1 T.a_is_whole T.fd_is_whole ["thing"] (SpD K F_is_whole) := by
  refine def_ok T.F_is_whole sc_is_whole (len_is_whole) (fun cdv A outer s H E hr => ⟨t_is_whole K E , (pss_one (ps_ret (pe_and (pe_callB call_isi (by rfl) T.m_isinstance (by decide +kernel) (pa_cons (pv 0) (pa_cons (pe_bltn (v := .ty "int") (by rfl) T.m_int (by decide +kernel) rfl) pa_nil))) (pe_one (pe_not (pe_callB call_isi (by rfl) T.m_isinstance (by decide +kernel) (pa_cons (pv 0) (pa_cons (pe_bltn (v := .ty "bool") (by rfl) T.m_bool (by decide +kernel) rfl) pa_nil)))))))), fun ds o h => sem_is_whole  h⟩)

theorem ok_between (T : Txt K mg) : FnOk P w K mg base (L2.CX P w) 2 T.a_between T.fd_between ["thing", "low", "most"] (SpD K F_between) := by
  refine def_ok T.F_between sc_between (len_between) (fun cdv A outer s H E hr => ⟨t_between K E , (pss_one (ps_ret (pe_and (pe_callS (ok_is_whole T) (hr.mono (by decide)) rfl T.g_is_whole T.F_is_whole.kp T.b_is_whole (fun σ => passAt (takes_of rfl rfl rfl rfl) σ) (pa_cons (pv 0) pa_nil)) (pe_and (pe_cmpR (opLe hr.units0) (pv 1) (pv 0) (nomark _)) (pe_one (pe_cmpR (opLe hr.units0) (pv 0) (pv 2) (nomark _))))))), fun ds o h => sem_between  h⟩)

theorem ok_is_hoard (T : Txt K mg) : FnOk P w K mg base (L2.CX P w) 2 T.a_is_hoard T.fd_is_hoard ["net", "thing"] (SpD K F_is_hoard) := by
  refine def_ok T.F_is_hoard sc_is_hoard (len_is_hoard) (fun cdv A outer s H E hr => ⟨t_is_hoard K E , (pss_cons (ps_if (PW.pt (pw_or (pt_not (pt_val (pe_callB call_isi (by rfl) T.m_isinstance (by decide +kernel) (pa_cons (pv 1) (pa_cons (pe_bltn (v := .ty "tuple") (by rfl) T.m_tuple (by decide +kernel) rfl) pa_nil))))) (pw_or1 (pt_cmpR (opNe hr.units) (pe_callB callLen (by rfl) T.m_len PySem.boot_len (pa_cons (pv 1) pa_nil)) (pe_ix ix_seq (pv 0) pe_int (fun _ _ => rfl)) (nomark _))))) (pss_one (ps_ret pe_bl)) pss_nil)
      (pss_cons (ps_for (passes_of rfl) rfl (pi_tup (pv 1)) (pg_name (i := 2) sc_is_hoard.nd rfl (by first | exact Or.inl rfl | exact Or.inr rfl)) (pss_one (ps_if (PW.pt (pw_or (pt_not (pt_val (pe_callS (ok_is_whole T) (hr.mono (by decide)) rfl T.g_is_whole T.F_is_whole.kp T.b_is_whole (fun σ => passAt (takes_of rfl rfl rfl rfl) σ) (pa_cons (pv 2) pa_nil)))) (pw_or1 (pt_cmpR opLt (pv 2) pe_int (nomark _))))) (pss_one (ps_ret pe_bl)) pss_nil)))
      (pss_one (ps_ret pe_bl)))), fun ds o h => sem_is_hoard  h⟩)

theorem ok_need_hoard (T : Txt K mg) : FnOk P w K mg base (L2.CX P w) 3 T.a_need_hoard T.fd_need_hoard ["net", "thing"] (SpD K (F_need_hoard T.a_NoHoard)) := by
  refine def_ok T.F_need_hoard sc_need_hoard (len_need_hoard T.a_NoHoard) (fun cdv A outer s H E hr => ⟨t_need_hoard K E T.a_NoHoard, (pss_one (ps_if (pt_not (pt_val (pe_callS (ok_is_hoard T) (hr.mono (by decide)) rfl T.g_is_hoard T.F_is_hoard.kp T.b_is_hoard (fun σ => passAt (takes_of rfl rfl rfl rfl) σ) (pa_cons (pv 0) (pa_cons (pv 1) pa_nil))))) (pss_one (show PS _ _ (tRz E (.ref T.a_NoHoard)) from ps_raise rfl (takes_of rfl rfl rfl rfl) (pmk_own PySem.F.excBase_ValueError T.x_NoHoard T.g_NoHoard T.k_NoHoard (raises_own T.p_NoHoard T.t_NoHoard) (by exact rfl)))) pss_nil)), fun ds o h => sem_need_hoard T.a_NoHoard h⟩)

theorem ok_need_move (T : Txt K mg) : FnOk P w K mg base (L2.CX P w) 3 T.a_need_move T.fd_need_move ["net", "thing"] (SpD K (F_need_move T.a_NoMove)) := by
  refine def_ok T.F_need_move sc_need_move (len_need_move T.a_NoMove) (fun cdv A outer s H E hr => ⟨t_need_move K E T.a_NoMove, (pss_one (ps_if (pt_not (pt_val (pe_callS (ok_between T) (hr.mono (by decide)) rfl T.g_between T.F_between.kp T.b_between (fun σ => passAt (takes_of rfl rfl rfl rfl) σ) (pa_cons (pv 1) (pa_cons pe_int (pa_cons (pe_op opSub (pe_callB callLen (by rfl) T.m_len PySem.boot_len (pa_cons (pe_ix ix_seq (pv 0) pe_int (fun _ _ => rfl)) pa_nil)) pe_int) pa_nil)))))) (pss_one (show PS _ _ (tRz E (.ref T.a_NoMove)) from ps_raise rfl (takes_of rfl rfl rfl rfl) (pmk_own PySem.F.excBase_ValueError T.x_NoMove T.g_NoMove T.k_NoMove (raises_own T.p_NoMove T.t_NoMove) (by exact rfl)))) pss_nil)), fun ds o h => sem_need_move T.a_NoMove h⟩)

theorem ok_need_places (T : Txt K mg) : FnOk P w K mg base (L2.CX P w) 3 T.a_need_places T.fd_need_places ["net", "thing"] (SpD K (F_need_places T.a_NoPlace)) := by
  refine def_ok T.F_need_places sc_need_places (len_need_places T.a_NoPlace) (fun cdv A outer s H E hr => ⟨t_need_places K E T.a_NoPlace, (pss_cons (ps_if (pt_not (pt_val (pe_callB call_isi (by rfl) T.m_isinstance (by decide +kernel) (pa_cons (pv 1) (pa_cons (pe_bltn (v := .ty "list") (by rfl) T.m_list (by decide +kernel) rfl) pa_nil))))) (pss_one (show PS _ _ (tRz E (.ref T.a_NoPlace)) from ps_raise rfl (takes_of rfl rfl rfl rfl) (pmk_own PySem.F.excBase_ValueError T.x_NoPlace T.g_NoPlace T.k_NoPlace (raises_own T.p_NoPlace T.t_NoPlace) (by exact rfl)))) pss_nil)
      (pss_one (ps_for (passes_of rfl) rfl (pi_list (pv 1)) (pg_name (i := 2) sc_need_places.nd rfl (by first | exact Or.inl rfl | exact Or.inr rfl)) (pss_one (ps_if (pt_not (pt_val (pe_callS (ok_between T) (hr.mono (by decide)) rfl T.g_between T.F_between.kp T.b_between (fun σ => passAt (takes_of rfl rfl rfl rfl) σ) (pa_cons (pv 2) (pa_cons pe_int (pa_cons (pe_op opSub (pe_ix ix_seq (pv 0) pe_int (fun _ _ => rfl)) pe_int) pa_nil)))))) (pss_one (show PS _ _ (tRz E (.ref T.a_NoPlace)) from ps_raise rfl (takes_of rfl rfl rfl rfl) (pmk_own PySem.F.excBase_ValueError T.x_NoPlace T.g_NoPlace T.k_NoPlace (raises_own T.p_NoPlace T.t_NoPlace) (by exact rfl)))) pss_nil))))), fun ds o h => sem_need_places T.a_NoPlace h⟩)

theorem ok_can (T : Txt K mg) : FnOk P w K mg base (L2.CX P w) 4 T.a_can T.fd_can ["net", "hoard", "move"] (SpD K (F_can T.a_NoHoard T.a_NoMove)) := by
  refine def_ok T.F_can sc_can (len_can T.a_NoHoard T.a_NoMove) (fun cdv A outer s H E hr => ⟨t_can K E T.a_NoHoard T.a_NoMove, (pss_cons (ps_expr (pe_callS (ok_need_hoard T) (hr.mono (by decide)) rfl T.g_need_hoard T.F_need_hoard.kp T.b_need_hoard (fun σ => passAt (takes_of rfl rfl rfl rfl) σ) (pa_cons (pv 0) (pa_cons (pv 1) pa_nil))))
      (pss_cons (ps_expr (pe_callS (ok_need_move T) (hr.mono (by decide)) rfl T.g_need_move T.F_need_move.kp T.b_need_move (fun σ => passAt (takes_of rfl rfl rfl rfl) σ) (pa_cons (pv 0) (pa_cons (pv 2) pa_nil))))
      pss_never)), fun ds o h => sem_can T.a_NoHoard T.a_NoMove h⟩)

theorem ok_behind (T : Txt K mg) : FnOk P w K mg base (L2.CX P w) 4 T.a_behind T.fd_behind ["net", "hoard", "run"] (SpD K (F_behind T.a_NoHoard T.a_NoMove)) := by
  refine def_ok T.F_behind sc_behind (len_behind T.a_NoHoard T.a_NoMove) (fun cdv A outer s H E hr => ⟨t_behind K E T.a_NoHoard T.a_NoMove, (pss_cons (ps_expr (pe_callS (ok_need_hoard T) (hr.mono (by decide)) rfl T.g_need_hoard T.F_need_hoard.kp T.b_need_hoard (fun σ => passAt (takes_of rfl rfl rfl rfl) σ) (pa_cons (pv 0) (pa_cons (pv 1) pa_nil))))
      (pss_cons (ps_if (pt_not (pt_val (pe_callB call_isi (by rfl) T.m_isinstance (by decide +kernel) (pa_cons (pv 2) (pa_cons (pe_bltn (v := .ty "list") (by rfl) T.m_list (by decide +kernel) rfl) pa_nil))))) (pss_one (show PS _ _ (tRz E (.ref T.a_NoMove)) from ps_raise rfl (takes_of rfl rfl rfl rfl) (pmk_own PySem.F.excBase_ValueError T.x_NoMove T.g_NoMove T.k_NoMove (raises_own T.p_NoMove T.t_NoMove) (by exact rfl)))) pss_nil)
      (pss_cons (ps_for (passes_of rfl) rfl (pi_list (pv 2)) (pg_name (i := 3) sc_behind.nd rfl (by first | exact Or.inl rfl | exact Or.inr rfl)) (pss_one (ps_expr (pe_callS (ok_need_move T) (hr.mono (by decide)) rfl T.g_need_move T.F_need_move.kp T.b_need_move (fun σ => passAt (takes_of rfl rfl rfl rfl) σ) (pa_cons (pv 0) (pa_cons (pv 3) pa_nil))))))
      pss_never))), fun ds o h => sem_behind T.a_NoHoard T.a_NoMove h⟩)

theorem ok_least_before (T : Txt K mg) : FnOk P w K mg base (L2.CX P w) 4 T.a_least_before T.fd_least_before ["net", "move", "goal"] (SpD K (F_least_before T.a_NoHoard T.a_NoMove)) := by
  refine def_ok T.F_least_before sc_least_before (len_least_before T.a_NoHoard T.a_NoMove) (fun cdv A outer s H E hr => ⟨t_least_before K E T.a_NoHoard T.a_NoMove, (pss_cons (ps_expr (pe_callS (ok_need_move T) (hr.mono (by decide)) rfl T.g_need_move T.F_need_move.kp T.b_need_move (fun σ => passAt (takes_of rfl rfl rfl rfl) σ) (pa_cons (pv 0) (pa_cons (pv 1) pa_nil))))
      (pss_cons (ps_expr (pe_callS (ok_need_hoard T) (hr.mono (by decide)) rfl T.g_need_hoard T.F_need_hoard.kp T.b_need_hoard (fun σ => passAt (takes_of rfl rfl rfl rfl) σ) (pa_cons (pv 0) (pa_cons (pv 2) pa_nil))))
      pss_never)), fun ds o h => sem_least_before T.a_NoHoard T.a_NoMove h⟩)

theorem ok_sill (T : Txt K mg) : FnOk P w K mg base (L2.CX P w) 4 T.a_sill T.fd_sill ["net", "goal"] (SpD K (F_sill T.a_NoHoard)) := by
  refine def_ok T.F_sill sc_sill (len_sill T.a_NoHoard) (fun cdv A outer s H E hr => ⟨t_sill K E T.a_NoHoard, (pss_cons (ps_expr (pe_callS (ok_need_hoard T) (hr.mono (by decide)) rfl T.g_need_hoard T.F_need_hoard.kp T.b_need_hoard (fun σ => passAt (takes_of rfl rfl rfl rfl) σ) (pa_cons (pv 0) (pa_cons (pv 1) pa_nil))))
      pss_never), fun ds o h => sem_sill T.a_NoHoard h⟩)

theorem ok_cover (T : Txt K mg) : FnOk P w K mg base (L2.CX P w) 4 T.a_cover T.fd_cover ["net", "start", "goal"] (SpD K (F_cover T.a_NoHoard)) := by
  refine def_ok T.F_cover sc_cover (len_cover T.a_NoHoard) (fun cdv A outer s H E hr => ⟨t_cover K E T.a_NoHoard, (pss_cons (ps_expr (pe_callS (ok_need_hoard T) (hr.mono (by decide)) rfl T.g_need_hoard T.F_need_hoard.kp T.b_need_hoard (fun σ => passAt (takes_of rfl rfl rfl rfl) σ) (pa_cons (pv 0) (pa_cons (pv 1) pa_nil))))
      (pss_cons (ps_expr (pe_callS (ok_need_hoard T) (hr.mono (by decide)) rfl T.g_need_hoard T.F_need_hoard.kp T.b_need_hoard (fun σ => passAt (takes_of rfl rfl rfl rfl) σ) (pa_cons (pv 0) (pa_cons (pv 2) pa_nil))))
      pss_never)), fun ds o h => sem_cover T.a_NoHoard h⟩)

theorem ok_together (T : Txt K mg) : FnOk P w K mg base (L2.CX P w) 4 T.a_together T.fd_together ["net", "start", "places"] (SpD K (F_together T.a_NoHoard T.a_NoPlace)) := by
  refine def_ok T.F_together sc_together (len_together T.a_NoHoard T.a_NoPlace) (fun cdv A outer s H E hr => ⟨t_together K E T.a_NoHoard T.a_NoPlace, (pss_cons (ps_expr (pe_callS (ok_need_hoard T) (hr.mono (by decide)) rfl T.g_need_hoard T.F_need_hoard.kp T.b_need_hoard (fun σ => passAt (takes_of rfl rfl rfl rfl) σ) (pa_cons (pv 0) (pa_cons (pv 1) pa_nil))))
      (pss_cons (ps_expr (pe_callS (ok_need_places T) (hr.mono (by decide)) rfl T.g_need_places T.F_need_places.kp T.b_need_places (fun σ => passAt (takes_of rfl rfl rfl rfl) σ) (pa_cons (pv 0) (pa_cons (pv 2) pa_nil))))
      pss_never)), fun ds o h => sem_together T.a_NoHoard T.a_NoPlace h⟩)

theorem ok_without_place (T : Txt K mg) : FnOk P w K mg base (L2.CX P w) 3 T.a_without_place T.fd_without_place ["net", "place"] (SpD K (F_without_place T.a_NoPlace)) := by
  refine def_ok T.F_without_place sc_without_place (len_without_place T.a_NoPlace) (fun cdv A outer s H E hr => ⟨t_without_place K E T.a_NoPlace, (pss_cons (ps_if (pt_not (pt_val (pe_callS (ok_between T) (hr.mono (by decide)) rfl T.g_between T.F_between.kp T.b_between (fun σ => passAt (takes_of rfl rfl rfl rfl) σ) (pa_cons (pv 1) (pa_cons pe_int (pa_cons (pe_op opSub (pe_ix ix_seq (pv 0) pe_int (fun _ _ => rfl)) pe_int) pa_nil)))))) (pss_one (show PS _ _ (tRz E (.ref T.a_NoPlace)) from ps_raise rfl (takes_of rfl rfl rfl rfl) (pmk_own PySem.F.excBase_ValueError T.x_NoPlace T.g_NoPlace T.k_NoPlace (raises_own T.p_NoPlace T.t_NoPlace) (by exact rfl)))) pss_nil)
      pss_never), fun ds o h => sem_without_place T.a_NoPlace h⟩)

theorem ok_all_of (T : Txt K mg) : FnOk P w K mg base (L2.CX P w) 4 T.a_all_of T.fd_all_of ["net", "start"] (SpD K (F_all_of T.a_NoHoard)) := by
  refine def_ok T.F_all_of sc_all_of (len_all_of T.a_NoHoard) (fun cdv A outer s H E hr => ⟨t_all_of K E T.a_NoHoard, (pss_cons (ps_expr (pe_callS (ok_need_hoard T) (hr.mono (by decide)) rfl T.g_need_hoard T.F_need_hoard.kp T.b_need_hoard (fun σ => passAt (takes_of rfl rfl rfl rfl) σ) (pa_cons (pv 0) (pa_cons (pv 1) pa_nil))))
      pss_never), fun ds o h => sem_all_of T.a_NoHoard h⟩)

theorem ok_how_far (T : Txt K mg) : FnOk P w K mg base (L2.CX P w) 4 T.a_how_far T.fd_how_far ["net", "start", "place"] (SpD K (F_how_far T.a_NoHoard T.a_NoPlace)) := by
  refine def_ok T.F_how_far sc_how_far (len_how_far T.a_NoHoard T.a_NoPlace) (fun cdv A outer s H E hr => ⟨t_how_far K E T.a_NoHoard T.a_NoPlace, (pss_cons (ps_expr (pe_callS (ok_need_hoard T) (hr.mono (by decide)) rfl T.g_need_hoard T.F_need_hoard.kp T.b_need_hoard (fun σ => passAt (takes_of rfl rfl rfl rfl) σ) (pa_cons (pv 0) (pa_cons (pv 1) pa_nil))))
      (pss_cons (ps_if (pt_not (pt_val (pe_callS (ok_between T) (hr.mono (by decide)) rfl T.g_between T.F_between.kp T.b_between (fun σ => passAt (takes_of rfl rfl rfl rfl) σ) (pa_cons (pv 2) (pa_cons pe_int (pa_cons (pe_op opSub (pe_ix ix_seq (pv 0) pe_int (fun _ _ => rfl)) pe_int) pa_nil)))))) (pss_one (show PS _ _ (tRz E (.ref T.a_NoPlace)) from ps_raise rfl (takes_of rfl rfl rfl rfl) (pmk_own PySem.F.excBase_ValueError T.x_NoPlace T.g_NoPlace T.k_NoPlace (raises_own T.p_NoPlace T.t_NoPlace) (by exact rfl)))) pss_nil)
      pss_never)), fun ds o h => sem_how_far T.a_NoHoard T.a_NoPlace h⟩)

theorem ok_run_to (T : Txt K mg) : FnOk P w K mg base (L2.CX P w) 4 T.a_run_to T.fd_run_to ["net", "start", "goal"] (SpD K (F_run_to T.a_NoHoard)) := by
  refine def_ok T.F_run_to sc_run_to (len_run_to T.a_NoHoard) (fun cdv A outer s H E hr => ⟨t_run_to K E T.a_NoHoard, (pss_cons (ps_expr (pe_callS (ok_need_hoard T) (hr.mono (by decide)) rfl T.g_need_hoard T.F_need_hoard.kp T.b_need_hoard (fun σ => passAt (takes_of rfl rfl rfl rfl) σ) (pa_cons (pv 0) (pa_cons (pv 1) pa_nil))))
      (pss_cons (ps_expr (pe_callS (ok_need_hoard T) (hr.mono (by decide)) rfl T.g_need_hoard T.F_need_hoard.kp T.b_need_hoard (fun σ => passAt (takes_of rfl rfl rfl rfl) σ) (pa_cons (pv 0) (pa_cons (pv 2) pa_nil))))
      pss_never)), fun ds o h => sem_run_to T.a_NoHoard h⟩)

theorem ok_stuck_hoards (T : Txt K mg) : FnOk P w K mg base (L2.CX P w) 4 T.a_stuck_hoards T.fd_stuck_hoards ["net", "start"] (SpD K (F_stuck_hoards T.a_NoHoard)) := by
  refine def_ok T.F_stuck_hoards sc_stuck_hoards (len_stuck_hoards T.a_NoHoard) (fun cdv A outer s H E hr => ⟨t_stuck_hoards K E T.a_NoHoard, (pss_cons (ps_expr (pe_callS (ok_need_hoard T) (hr.mono (by decide)) rfl T.g_need_hoard T.F_need_hoard.kp T.b_need_hoard (fun σ => passAt (takes_of rfl rfl rfl rfl) σ) (pa_cons (pv 0) (pa_cons (pv 1) pa_nil))))
      pss_never), fun ds o h => sem_stuck_hoards T.a_NoHoard h⟩)

theorem ok_greatest (T : Txt K mg) : FnOk P w K mg base (L2.CX P w) 4 T.a_greatest T.fd_greatest ["net", "places", "gives", "takes"] (SpD K (F_greatest T.a_NoPlace)) := by
  refine def_ok T.F_greatest sc_greatest (len_greatest T.a_NoPlace) (fun cdv A outer s H E hr => ⟨t_greatest K E T.a_NoPlace, (pss_cons (ps_expr (pe_callS (ok_need_places T) (hr.mono (by decide)) rfl T.g_need_places T.F_need_places.kp T.b_need_places (fun σ => passAt (takes_of rfl rfl rfl rfl) σ) (pa_cons (pv 0) (pa_cons (pv 1) pa_nil))))
      pss_never), fun ds o h => sem_greatest T.a_NoPlace h⟩)

theorem ok_greatest_sink (T : Txt K mg) : FnOk P w K mg base (L2.CX P w) 5 T.a_greatest_sink T.fd_greatest_sink ["net", "places"] (SpD K (F_greatest_sink T.a_NoPlace)) := by
  refine def_ok T.F_greatest_sink sc_greatest_sink (len_greatest_sink T.a_NoPlace) (fun cdv A outer s H E hr => ⟨t_greatest_sink K E T.a_NoPlace, (pss_one (ps_ret (pe_callS (ok_greatest T) (hr.mono (by decide)) rfl T.g_greatest T.F_greatest.kp T.b_greatest (fun σ => passAt (takes_of rfl rfl rfl rfl) σ) (pa_cons (pv 0) (pa_cons (pv 1) (pa_cons pe_int (pa_cons pe_int pa_nil))))))), fun ds o h => sem_greatest_sink T.a_NoPlace h⟩)

theorem ok_greatest_trap (T : Txt K mg) : FnOk P w K mg base (L2.CX P w) 5 T.a_greatest_trap T.fd_greatest_trap ["net", "places"] (SpD K (F_greatest_trap T.a_NoPlace)) := by
  refine def_ok T.F_greatest_trap sc_greatest_trap (len_greatest_trap T.a_NoPlace) (fun cdv A outer s H E hr => ⟨t_greatest_trap K E T.a_NoPlace, (pss_one (ps_ret (pe_callS (ok_greatest T) (hr.mono (by decide)) rfl T.g_greatest T.F_greatest.kp T.b_greatest (fun σ => passAt (takes_of rfl rfl rfl rfl) σ) (pa_cons (pv 0) (pa_cons (pv 1) (pa_cons pe_int (pa_cons pe_int pa_nil))))))), fun ds o h => sem_greatest_trap T.a_NoPlace h⟩)

theorem ok_is_sink (T : Txt K mg) : FnOk P w K mg base (L2.CX P w) 6 T.a_is_sink T.fd_is_sink ["net", "places"] (SpD K (F_is_sink T.a_NoPlace)) := by
  refine def_ok T.F_is_sink sc_is_sink (len_is_sink T.a_NoPlace) (fun cdv A outer s H E hr => ⟨t_is_sink K E T.a_NoPlace, (pss_one (ps_ret (pe_cmpR (opEq hr.units) (pe_callS (ok_greatest_sink T) (hr.mono (by decide)) rfl T.g_greatest_sink T.F_greatest_sink.kp T.b_greatest_sink (fun σ => passAt (takes_of rfl rfl rfl rfl) σ) (pa_cons (pv 0) (pa_cons (pv 1) pa_nil))) (pe_sortSet rfl T.m_sorted rfl T.m_set (pv 1)) (nomark _)))), fun ds o h => sem_is_sink T.a_NoPlace h⟩)

theorem ok_is_trap (T : Txt K mg) : FnOk P w K mg base (L2.CX P w) 6 T.a_is_trap T.fd_is_trap ["net", "places"] (SpD K (F_is_trap T.a_NoPlace)) := by
  refine def_ok T.F_is_trap sc_is_trap (len_is_trap T.a_NoPlace) (fun cdv A outer s H E hr => ⟨t_is_trap K E T.a_NoPlace, (pss_one (ps_ret (pe_cmpR (opEq hr.units) (pe_callS (ok_greatest_trap T) (hr.mono (by decide)) rfl T.g_greatest_trap T.F_greatest_trap.kp T.b_greatest_trap (fun σ => passAt (takes_of rfl rfl rfl rfl) σ) (pa_cons (pv 0) (pa_cons (pv 1) pa_nil))) (pe_sortSet rfl T.m_sorted rfl T.m_set (pv 1)) (nomark _)))), fun ds o h => sem_is_trap T.a_NoPlace h⟩)

theorem ok_cell_at_l (T : Txt K mg) : FnOk P w K mg base (L2.CX P w) 1 T.a_cell_at_l T.fd_cell_at_l ["_law_script", "_law_k"] (SpD K F_cell_at_l) := by
  refine def_ok T.F_cell_at_l sc_cell_at_l (len_cell_at_l) (fun cdv A outer s H E hr => ⟨t_cell_at_l K E , (pss_cons (ps_if (pt_cmpR opLt (pv 1) (pe_callB callLen (by rfl) T.m_len PySem.boot_len (pa_cons (pv 0) pa_nil)) (nomark _)) (pss_one (ps_ret (pe_ix ix_seq (pv 0) (pv 1) (fun _ _ => rfl)))) pss_nil)
      (pss_cons (ps_if (pt_cmpR (opEq hr.units) (pv 0) (pe_lst pa_nil) (nomark _)) (pss_one (ps_ret pe_int)) pss_nil)
      (pss_one (ps_ret (pe_op opAdd (pe_op opMul (pe_ix ix_seq (pv 0) (pe_op opMod (pv 1) (pe_callB callLen (by rfl) T.m_len PySem.boot_len (pa_cons (pv 0) pa_nil))) (fun _ _ => rfl)) pe_int) (pv 1)))))), fun ds o h => sem_cell_at_l  h⟩)

theorem ok_mixed_l (T : Txt K mg) : FnOk P w K mg base (L2.CX P w) 2 T.a_mixed_l T.fd_mixed_l ["_law_script", "_law_k", "_law_many"] (SpD K F_mixed_l) := by
  refine def_ok T.F_mixed_l sc_mixed_l (len_mixed_l) (fun cdv A outer s H E hr => ⟨t_mixed_l K E , (pss_cons (ps_set (i := 3) sc_mixed_l.nd rfl (by first | exact Or.inl rfl | exact Or.inr rfl) (pe_op opMod (pe_op opMul (pe_op opAdd (pe_op opAdd (pe_callS (ok_cell_at_l T) (hr.mono (by decide)) rfl T.g_cell_at_l T.F_cell_at_l.kp T.b_cell_at_l (fun σ => passAt (takes_of rfl rfl rfl rfl) σ) (pa_cons (pv 0) (pa_cons (pv 1) pa_nil))) (pe_op opMul pe_int (pv 1))) pe_int) pe_int) pe_int))
      (pss_one (ps_ret (pe_op opMod (pe_op opMod (pe_op opAdd (pe_op opAdd (pe_op opMul (pv 3) (pv 3)) (pe_op opMul pe_int (pv 3))) (pv 1)) pe_int) (pv 2))))), fun ds o h => sem_mixed_l  h⟩)

theorem ok_move_l (T : Txt K mg) : FnOk P w K mg base (L2.CX P w) 3 T.a_move_l T.fd_move_l ["_law_script", "_law_at", "_law_size", "_law_even"] (SpD K F_move_l) := by
  refine def_ok T.F_move_l sc_move_l (len_move_l) (fun cdv A outer s H E hr => ⟨t_move_l K E , (pss_cons (ps_setLc (i := 5) (own := [("_law_k", 4)]) rfl sc_move_l.nd rfl rfl (sw_true rfl rfl rfl (by decide +kernel)) (pi_range1 rfl T.m_range (pa_cons (pv 2) pa_nil)) (blkOk_by (N := N_move_l) (sc := (defScope s_move_l)) (own := [("_law_k", 4)]) (by decide +kernel)) (fun _ _ _ _ _ => (pg_name (i := 4) sc_move_l.nd rfl (by first | exact Or.inl rfl | exact Or.inr rfl))) (fun _ _ _ _ _ => pts_nil) (fun _ _ _ _ _ => (pe_callS (ok_mixed_l T) (hr.mono (by decide)) rfl T.g_mixed_l T.F_mixed_l.kp T.b_mixed_l (fun σ => passAt takes0 σ) (pa_cons (pv 0) (pa_cons (pe_op opAdd (pv 1) (pv 4)) (pa_cons pe_int pa_nil))))))
      (pss_cons (ps_setLc (i := 6) (own := [("_law_cell", 9)]) rfl sc_move_l.nd rfl rfl (sw_true rfl rfl rfl (by decide +kernel)) (pi_list (pv 5)) (blkOk_by (N := N_move_l) (sc := (defScope s_move_l)) (own := [("_law_cell", 9)]) (by decide +kernel)) (fun _ _ _ _ _ => (pg_name (i := 9) sc_move_l.nd rfl (by first | exact Or.inl rfl | exact Or.inr rfl))) (fun _ _ _ _ _ => pts_nil) (fun _ _ _ _ _ => (pe_ix ix_seq (pe_lst (pa_cons pe_int (pa_cons pe_int (pa_cons pe_int (pa_cons pe_int (pa_cons pe_int pa_nil)))))) (pe_op opMod (pv 9) pe_int) (fun _ _ => rfl))))
      (pss_cons (ps_setLc (i := 7) (own := [("_law_cell", 9)]) rfl sc_move_l.nd rfl rfl (sw_true rfl rfl rfl (by decide +kernel)) (pi_list (pv 5)) (blkOk_by (N := N_move_l) (sc := (defScope s_move_l)) (own := [("_law_cell", 9)]) (by decide +kernel)) (fun _ _ _ _ _ => (pg_name (i := 9) sc_move_l.nd rfl (by first | exact Or.inl rfl | exact Or.inr rfl))) (fun _ _ _ _ _ => pts_nil) (fun _ _ _ _ _ => (pe_ix ix_seq (pe_lst (pa_cons pe_int (pa_cons pe_int (pa_cons pe_int (pa_cons pe_int (pa_cons pe_int pa_nil)))))) (pe_op opDiv (pv 9) pe_int) (fun _ _ => rfl))))
      (pss_cons (ps_if (pt_val (pv 3)) (pss_cons (ps_setLc (i := 7) (own := [("_law_k", 4)]) rfl sc_move_l.nd rfl rfl (sw_true rfl rfl rfl (by decide +kernel)) (pi_range1 rfl T.m_range (pa_cons (pv 2) pa_nil)) (blkOk_by (N := N_move_l) (sc := (defScope s_move_l)) (own := [("_law_k", 4)]) (by decide +kernel)) (fun _ _ _ _ _ => (pg_name (i := 4) sc_move_l.nd rfl (by first | exact Or.inl rfl | exact Or.inr rfl))) (fun _ _ _ _ _ => pts_nil) (fun _ _ _ _ _ => pe_int))
      (pss_cons (ps_set (i := 8) sc_move_l.nd rfl (by first | exact Or.inl rfl | exact Or.inr rfl) (pe_callS (ok_mixed_l T) (hr.mono (by decide)) rfl T.g_mixed_l T.F_mixed_l.kp T.b_mixed_l (fun σ => passAt (takes_of rfl rfl rfl rfl) σ) (pa_cons (pv 0) (pa_cons (pe_op opAdd (pv 1) pe_int) (pa_cons (pe_op opPow pe_int pe_int) pa_nil)))))
      (pss_one (ps_for (passes_of rfl) rfl (pi_range1 rfl T.m_range (pa_cons (pe_callB (cr_sum rfl) (by rfl) T.m_sum (by decide +kernel) (pa_cons (pv 6) pa_nil)) pa_nil)) (pg_name (i := 4) sc_move_l.nd rfl (by first | exact Or.inl rfl | exact Or.inr rfl)) (pss_cons (ps_asg (pe_op opAdd (pe_ix ix_seq (pv 7) (pe_op opMod (pv 8) (pv 2)) (fun _ _ => rfl)) pe_int) (pg_sub (pv 7) (pe_op opMod (pv 8) (pv 2)) set_list))
      (pss_one (ps_set (i := 8) sc_move_l.nd rfl (by first | exact Or.inl rfl | exact Or.inr rfl) (pe_op opDiv (pv 8) (pv 2))))))))) pss_nil)
      (pss_one (ps_ret (pe_tup (pa_cons (pe_callTy callTup (by rfl) T.m_tuple PyProof.Rows.boot_tuple (pa_cons (pv 6) pa_nil)) (pa_cons (pe_callTy callTup (by rfl) T.m_tuple PyProof.Rows.boot_tuple (pa_cons (pv 7) pa_nil)) pa_nil))))))))), fun ds o h => sem_move_l  h⟩)

theorem ok_net_l (T : Txt K mg) : FnOk P w K mg base (L2.CX P w) 4 T.a_net_l T.fd_net_l ["_law_script", "_law_at"] (SpD K F_net_l) := by
  refine def_ok T.F_net_l sc_net_l (len_net_l) (fun cdv A outer s H E hr => ⟨t_net_l K E , (pss_cons (ps_set (i := 2) sc_net_l.nd rfl (by first | exact Or.inl rfl | exact Or.inr rfl) (pe_op opAdd pe_int (pe_callS (ok_mixed_l T) (hr.mono (by decide)) rfl T.g_mixed_l T.F_mixed_l.kp T.b_mixed_l (fun σ => passAt (takes_of rfl rfl rfl rfl) σ) (pa_cons (pv 0) (pa_cons (pv 1) (pa_cons pe_int pa_nil))))))
      (pss_cons (ps_set (i := 3) sc_net_l.nd rfl (by first | exact Or.inl rfl | exact Or.inr rfl) (pe_callS (ok_mixed_l T) (hr.mono (by decide)) rfl T.g_mixed_l T.F_mixed_l.kp T.b_mixed_l (fun σ => passAt (takes_of rfl rfl rfl rfl) σ) (pa_cons (pv 0) (pa_cons (pe_op opAdd (pv 1) pe_int) (pa_cons pe_int pa_nil)))))
      (pss_cons (ps_if (pt_cmpR (opEq hr.units) (pe_callS (ok_mixed_l T) (hr.mono (by decide)) rfl T.g_mixed_l T.F_mixed_l.kp T.b_mixed_l (fun σ => passAt (takes_of rfl rfl rfl rfl) σ) (pa_cons (pv 0) (pa_cons (pe_op opAdd (pv 1) pe_int) (pa_cons pe_int pa_nil)))) pe_int (nomark _)) (pss_one (ps_set (i := 2) sc_net_l.nd rfl (by first | exact Or.inl rfl | exact Or.inr rfl) pe_int)) pss_nil)
      (pss_cons (ps_set (i := 4) sc_net_l.nd rfl (by first | exact Or.inl rfl | exact Or.inr rfl) (pe_cmpR (opEq hr.units) (pe_callS (ok_mixed_l T) (hr.mono (by decide)) rfl T.g_mixed_l T.F_mixed_l.kp T.b_mixed_l (fun σ => passAt (takes_of rfl rfl rfl rfl) σ) (pa_cons (pv 0) (pa_cons (pe_op opAdd (pv 1) pe_int) (pa_cons pe_int pa_nil)))) pe_int (nomark _)))
      (pss_one (ps_ret (pe_tup (pa_cons (pv 2) (pa_cons (pe_callTy callTup (by rfl) T.m_tuple PyProof.Rows.boot_tuple (pa_cons (pe_lc (own := [("_law_k", 5)]) rfl sc_net_l.nd (pi_range1 rfl T.m_range (pa_cons (pv 3) pa_nil)) (blkOk_by (N := N_net_l) (sc := (defScope s_net_l)) (own := [("_law_k", 5)]) (by decide +kernel)) (fun _ _ _ _ _ => (pg_name (i := 5) sc_net_l.nd rfl (by first | exact Or.inl rfl | exact Or.inr rfl))) (fun _ _ _ _ _ => pts_nil) (fun _ _ _ _ _ => (pe_callS (ok_move_l T) (hr.mono (by decide)) rfl T.g_move_l T.F_move_l.kp T.b_move_l (fun σ => passAt takes0 σ) (pa_cons (pv 0) (pa_cons (pe_op opAdd (pe_op opAdd (pv 1) pe_int) (pe_op opMul pe_int (pv 5))) (pa_cons (pv 2) (pa_cons (pv 4) pa_nil))))))) pa_nil)) pa_nil))))))))), fun ds o h => sem_net_l  h⟩)

theorem ok_hoard_l (T : Txt K mg) : FnOk P w K mg base (L2.CX P w) 3 T.a_hoard_l T.fd_hoard_l ["_law_script", "_law_at", "_law_size", "_law_most"] (SpD K F_hoard_l) := by
  refine def_ok T.F_hoard_l sc_hoard_l (len_hoard_l) (fun cdv A outer s H E hr => ⟨t_hoard_l K E , (pss_one (ps_ret (pe_callTy callTup (by rfl) T.m_tuple PyProof.Rows.boot_tuple (pa_cons (pe_lc (own := [("_law_k", 4)]) rfl sc_hoard_l.nd (pi_range1 rfl T.m_range (pa_cons (pv 2) pa_nil)) (blkOk_by (N := N_hoard_l) (sc := (defScope s_hoard_l)) (own := [("_law_k", 4)]) (by decide +kernel)) (fun _ _ _ _ _ => (pg_name (i := 4) sc_hoard_l.nd rfl (by first | exact Or.inl rfl | exact Or.inr rfl))) (fun _ _ _ _ _ => pts_nil) (fun _ _ _ _ _ => (pe_callS (ok_mixed_l T) (hr.mono (by decide)) rfl T.g_mixed_l T.F_mixed_l.kp T.b_mixed_l (fun σ => passAt takes0 σ) (pa_cons (pv 0) (pa_cons (pe_op opAdd (pv 1) (pv 4)) (pa_cons (pe_op opAdd (pv 3) pe_int) pa_nil)))))) pa_nil)))), fun ds o h => sem_hoard_l  h⟩)

theorem ok_with_hoard_l (T : Txt K mg) : FnOk P w K mg base (L2.CX P w) 5 T.a_with_hoard_l T.fd_with_hoard_l ["_law_net_here", "_law_what", "_law_bad", "_law_good"] (SpD K (F_with_hoard_l T.a_NoHoard T.a_NoMove T.a_NoPlace)) := by
  refine def_ok T.F_with_hoard_l sc_with_hoard_l (len_with_hoard_l T.a_NoHoard T.a_NoMove T.a_NoPlace) (fun cdv A outer s H E hr => ⟨t_with_hoard_l K E T.a_NoHoard T.a_NoMove T.a_NoPlace, (pss_cons (ps_if (pt_cmpR (opEq hr.units) (pv 1) pe_int (nomark _)) (pss_one (ps_ret (pe_callS (ok_sill T) (hr.mono (by decide)) rfl T.g_sill T.F_sill.kp T.b_sill (fun σ => passAt (takes_of rfl rfl rfl rfl) σ) (pa_cons (pv 0) (pa_cons (pv 2) pa_nil))))) pss_nil)
      (pss_cons (ps_if (pt_cmpR (opEq hr.units) (pv 1) pe_int (nomark _)) (pss_one (ps_ret (pe_callS (ok_cover T) (hr.mono (by decide)) rfl T.g_cover T.F_cover.kp T.b_cover (fun σ => passAt (takes_of rfl rfl rfl rfl) σ) (pa_cons (pv 0) (pa_cons (pv 2) (pa_cons (pv 3) pa_nil)))))) pss_nil)
      (pss_cons (ps_if (pt_cmpR (opEq hr.units) (pv 1) pe_int (nomark _)) (pss_one (ps_ret (pe_callS (ok_cover T) (hr.mono (by decide)) rfl T.g_cover T.F_cover.kp T.b_cover (fun σ => passAt (takes_of rfl rfl rfl rfl) σ) (pa_cons (pv 0) (pa_cons (pv 3) (pa_cons (pv 2) pa_nil)))))) pss_nil)
      (pss_cons (ps_if (pt_cmpR (opEq hr.units) (pv 1) pe_int (nomark _)) (pss_one (ps_ret (pe_callS (ok_all_of T) (hr.mono (by decide)) rfl T.g_all_of T.F_all_of.kp T.b_all_of (fun σ => passAt (takes_of rfl rfl rfl rfl) σ) (pa_cons (pv 0) (pa_cons (pv 2) pa_nil))))) pss_nil)
      (pss_cons (ps_if (pt_cmpR (opEq hr.units) (pv 1) pe_int (nomark _)) (pss_one (ps_ret (pe_callS (ok_run_to T) (hr.mono (by decide)) rfl T.g_run_to T.F_run_to.kp T.b_run_to (fun σ => passAt (takes_of rfl rfl rfl rfl) σ) (pa_cons (pv 0) (pa_cons (pv 2) (pa_cons (pv 3) pa_nil)))))) pss_nil)
      (pss_cons (ps_if (pt_cmpR (opEq hr.units) (pv 1) pe_int (nomark _)) (pss_one (ps_ret (pe_callS (ok_stuck_hoards T) (hr.mono (by decide)) rfl T.g_stuck_hoards T.F_stuck_hoards.kp T.b_stuck_hoards (fun σ => passAt (takes_of rfl rfl rfl rfl) σ) (pa_cons (pv 0) (pa_cons (pv 2) pa_nil))))) pss_nil)
      (pss_cons (ps_if (pt_cmpR (opEq hr.units) (pv 1) pe_int (nomark _)) (pss_one (ps_ret (pe_callS (ok_behind T) (hr.mono (by decide)) rfl T.g_behind T.F_behind.kp T.b_behind (fun σ => passAt (takes_of rfl rfl rfl rfl) σ) (pa_cons (pv 0) (pa_cons (pv 2) (pa_cons (pe_lst pa_nil) pa_nil)))))) pss_nil)
      (pss_cons (ps_if (pt_cmpR (opEq hr.units) (pv 1) pe_int (nomark _)) (pss_one (ps_ret (pe_callS (ok_together T) (hr.mono (by decide)) rfl T.g_together T.F_together.kp T.b_together (fun σ => passAt (takes_of rfl rfl rfl rfl) σ) (pa_cons (pv 0) (pa_cons (pv 2) (pa_cons (pe_lst pa_nil) pa_nil)))))) pss_nil)
      (pss_cons (ps_if (pt_cmpR (opEq hr.units) (pv 1) pe_int (nomark _)) (pss_one (ps_ret (pe_callS (ok_how_far T) (hr.mono (by decide)) rfl T.g_how_far T.F_how_far.kp T.b_how_far (fun σ => passAt (takes_of rfl rfl rfl rfl) σ) (pa_cons (pv 0) (pa_cons (pv 2) (pa_cons pe_int pa_nil)))))) pss_nil)
      (pss_cons (ps_if (pt_cmpR (opEq hr.units) (pv 1) pe_int (nomark _)) (pss_one (ps_ret (pe_callS (ok_run_to T) (hr.mono (by decide)) rfl T.g_run_to T.F_run_to.kp T.b_run_to (fun σ => passAt (takes_of rfl rfl rfl rfl) σ) (pa_cons (pv 0) (pa_cons (pv 3) (pa_cons (pv 2) pa_nil)))))) pss_nil)
      (pss_cons (ps_if (PW.pt (pw_or (pt_cmpR (opEq hr.units) (pv 1) pe_int (nomark _)) (pw_or1 (pt_cmpR (opEq hr.units) (pe_ix ix_seq (pv 0) pe_int (fun _ _ => rfl)) (pe_tup pa_nil) (nomark _))))) (pss_one (ps_ret (pe_callS (ok_can T) (hr.mono (by decide)) rfl T.g_can T.F_can.kp T.b_can (fun σ => passAt (takes_of rfl rfl rfl rfl) σ) (pa_cons (pv 0) (pa_cons (pv 2) (pa_cons pe_int pa_nil)))))) pss_nil)
      (pss_one (ps_ret (pe_callS (ok_least_before T) (hr.mono (by decide)) rfl T.g_least_before T.F_least_before.kp T.b_least_before (fun σ => passAt (takes_of rfl rfl rfl rfl) σ) (pa_cons (pv 0) (pa_cons pe_int (pa_cons (pv 2) pa_nil))))))))))))))))), fun ds o h => sem_with_hoard_l T.a_NoHoard T.a_NoMove T.a_NoPlace h⟩)

theorem ok_with_move_l (T : Txt K mg) : FnOk P w K mg base (L2.CX P w) 5 T.a_with_move_l T.fd_with_move_l ["_law_net_here", "_law_what", "_law_bad", "_law_good"] (SpD K (F_with_move_l T.a_NoHoard T.a_NoMove)) := by
  refine def_ok T.F_with_move_l sc_with_move_l (len_with_move_l T.a_NoHoard T.a_NoMove) (fun cdv A outer s H E hr => ⟨t_with_move_l K E T.a_NoHoard T.a_NoMove, (pss_cons (ps_if (pt_cmpR (opEq hr.units) (pv 1) pe_int (nomark _)) (pss_one (ps_ret (pe_callS (ok_can T) (hr.mono (by decide)) rfl T.g_can T.F_can.kp T.b_can (fun σ => passAt (takes_of rfl rfl rfl rfl) σ) (pa_cons (pv 0) (pa_cons (pv 3) (pa_cons (pv 2) pa_nil)))))) pss_nil)
      (pss_cons (ps_if (pt_cmpR (opEq hr.units) (pv 1) pe_int (nomark _)) (pss_one (ps_ret (pe_callS (ok_least_before T) (hr.mono (by decide)) rfl T.g_least_before T.F_least_before.kp T.b_least_before (fun σ => passAt (takes_of rfl rfl rfl rfl) σ) (pa_cons (pv 0) (pa_cons (pv 2) (pa_cons (pv 3) pa_nil)))))) pss_nil)
      (pss_cons (ps_if (pt_cmpR (opEq hr.units) (pv 1) pe_int (nomark _)) (pss_one (ps_ret (pe_callS (ok_behind T) (hr.mono (by decide)) rfl T.g_behind T.F_behind.kp T.b_behind (fun σ => passAt (takes_of rfl rfl rfl rfl) σ) (pa_cons (pv 0) (pa_cons (pv 3) (pa_cons (pe_lst (pa_cons (pv 2) pa_nil)) pa_nil)))))) pss_nil)
      (pss_cons (ps_if (pt_cmpR (opEq hr.units) (pv 1) pe_int (nomark _)) (pss_one (ps_ret (pe_callS (ok_behind T) (hr.mono (by decide)) rfl T.g_behind T.F_behind.kp T.b_behind (fun σ => passAt (takes_of rfl rfl rfl rfl) σ) (pa_cons (pv 0) (pa_cons (pv 3) (pa_cons (pe_tup pa_nil) pa_nil)))))) pss_nil)
      (pss_cons (ps_if (pt_cmpR (opEq hr.units) (pv 1) pe_int (nomark _)) (pss_one (ps_ret (pe_callS (ok_behind T) (hr.mono (by decide)) rfl T.g_behind T.F_behind.kp T.b_behind (fun σ => passAt (takes_of rfl rfl rfl rfl) σ) (pa_cons (pv 0) (pa_cons (pv 3) (pa_cons (pe_ix ix_seq (pe_lst (pa_cons pe_non (pa_cons pe_str pa_nil))) (pe_callTy callInt (by rfl) T.m_int (by decide +kernel) (pa_cons (pe_cmpR opIsTr (pv 2) pe_bl (nomark _)) pa_nil)) (fun _ _ => rfl)) pa_nil)))))) pss_nil)
      (pss_one (ps_ret (pe_callS (ok_behind T) (hr.mono (by decide)) rfl T.g_behind T.F_behind.kp T.b_behind (fun σ => passAt (takes_of rfl rfl rfl rfl) σ) (pa_cons (pv 0) (pa_cons (pv 3) (pa_cons (pe_op opAdd (pe_lc (own := [("_law_move_here", 4)]) rfl sc_with_move_l.nd (pi_tup (pe_ix ix_seq (pv 0) pe_int (fun _ _ => rfl))) (blkOk_by (N := N_with_move_l) (sc := (defScope s_with_move_l)) (own := [("_law_move_here", 4)]) (by decide +kernel)) (fun _ _ _ _ _ => (pg_name (i := 4) sc_with_move_l.nd rfl (by first | exact Or.inl rfl | exact Or.inr rfl))) (fun _ _ _ _ _ => pts_nil) (fun _ _ _ _ _ => pe_int)) (pe_lst (pa_cons (pv 2) pa_nil))) pa_nil))))))))))), fun ds o h => sem_with_move_l T.a_NoHoard T.a_NoMove h⟩)

theorem ok_with_place_l (T : Txt K mg) : FnOk P w K mg base (L2.CX P w) 7 T.a_with_place_l T.fd_with_place_l ["_law_net_here", "_law_what", "_law_bad", "_law_good"] (SpD K (F_with_place_l T.a_NoHoard T.a_NoPlace)) := by
  refine def_ok T.F_with_place_l sc_with_place_l (len_with_place_l T.a_NoHoard T.a_NoPlace) (fun cdv A outer s H E hr => ⟨t_with_place_l K E T.a_NoHoard T.a_NoPlace, (pss_cons (ps_if (pt_cmpR (opEq hr.units) (pv 1) pe_int (nomark _)) (pss_one (ps_ret (pe_callS (ok_how_far T) (hr.mono (by decide)) rfl T.g_how_far T.F_how_far.kp T.b_how_far (fun σ => passAt (takes_of rfl rfl rfl rfl) σ) (pa_cons (pv 0) (pa_cons (pv 3) (pa_cons (pv 2) pa_nil)))))) pss_nil)
      (pss_cons (ps_if (pt_cmpR (opEq hr.units) (pv 1) pe_int (nomark _)) (pss_one (ps_ret (pe_callS (ok_together T) (hr.mono (by decide)) rfl T.g_together T.F_together.kp T.b_together (fun σ => passAt (takes_of rfl rfl rfl rfl) σ) (pa_cons (pv 0) (pa_cons (pv 3) (pa_cons (pe_lst (pa_cons pe_int (pa_cons (pv 2) pa_nil))) pa_nil)))))) pss_nil)
      (pss_cons (ps_if (pt_cmpR (opEq hr.units) (pv 1) pe_int (nomark _)) (pss_one (ps_ret (pe_callS (ok_greatest_sink T) (hr.mono (by decide)) rfl T.g_greatest_sink T.F_greatest_sink.kp T.b_greatest_sink (fun σ => passAt (takes_of rfl rfl rfl rfl) σ) (pa_cons (pv 0) (pa_cons (pe_lst (pa_cons (pv 2) pa_nil)) pa_nil))))) pss_nil)
      (pss_cons (ps_if (pt_cmpR (opEq hr.units) (pv 1) pe_int (nomark _)) (pss_one (ps_ret (pe_callS (ok_greatest_trap T) (hr.mono (by decide)) rfl T.g_greatest_trap T.F_greatest_trap.kp T.b_greatest_trap (fun σ => passAt (takes_of rfl rfl rfl rfl) σ) (pa_cons (pv 0) (pa_cons (pe_lst (pa_cons (pv 2) (pa_cons pe_int pa_nil))) pa_nil))))) pss_nil)
      (pss_cons (ps_if (pt_cmpR (opEq hr.units) (pv 1) pe_int (nomark _)) (pss_one (ps_ret (pe_callS (ok_is_sink T) (hr.mono (by decide)) rfl T.g_is_sink T.F_is_sink.kp T.b_is_sink (fun σ => passAt (takes_of rfl rfl rfl rfl) σ) (pa_cons (pv 0) (pa_cons (pe_lst (pa_cons pe_int (pa_cons (pv 2) pa_nil))) pa_nil))))) pss_nil)
      (pss_cons (ps_if (pt_cmpR (opEq hr.units) (pv 1) pe_int (nomark _)) (pss_one (ps_ret (pe_callS (ok_is_trap T) (hr.mono (by decide)) rfl T.g_is_trap T.F_is_trap.kp T.b_is_trap (fun σ => passAt (takes_of rfl rfl rfl rfl) σ) (pa_cons (pv 0) (pa_cons (pe_lst (pa_cons (pv 2) pa_nil)) pa_nil))))) pss_nil)
      (pss_one (ps_ret (pe_callS (ok_without_place T) (hr.mono (by decide)) rfl T.g_without_place T.F_without_place.kp T.b_without_place (fun σ => passAt (takes_of rfl rfl rfl rfl) σ) (pa_cons (pv 0) (pa_cons (pv 2) pa_nil))))))))))), fun ds o h => sem_with_place_l T.a_NoHoard T.a_NoPlace h⟩)

theorem ok_with_places_l (T : Txt K mg) : FnOk P w K mg base (L2.CX P w) 7 T.a_with_places_l T.fd_with_places_l ["_law_net_here", "_law_what", "_law_bad", "_law_good"] (SpD K (F_with_places_l T.a_NoHoard T.a_NoPlace)) := by
  refine def_ok T.F_with_places_l sc_with_places_l (len_with_places_l T.a_NoHoard T.a_NoPlace) (fun cdv A outer s H E hr => ⟨t_with_places_l K E T.a_NoHoard T.a_NoPlace, (pss_cons (ps_if (pt_cmpR (opEq hr.units) (pv 1) pe_int (nomark _)) (pss_one (ps_ret (pe_callS (ok_together T) (hr.mono (by decide)) rfl T.g_together T.F_together.kp T.b_together (fun σ => passAt (takes_of rfl rfl rfl rfl) σ) (pa_cons (pv 0) (pa_cons (pv 3) (pa_cons (pv 2) pa_nil)))))) pss_nil)
      (pss_cons (ps_if (pt_cmpR (opEq hr.units) (pv 1) pe_int (nomark _)) (pss_one (ps_ret (pe_callS (ok_greatest_sink T) (hr.mono (by decide)) rfl T.g_greatest_sink T.F_greatest_sink.kp T.b_greatest_sink (fun σ => passAt (takes_of rfl rfl rfl rfl) σ) (pa_cons (pv 0) (pa_cons (pv 2) pa_nil))))) pss_nil)
      (pss_cons (ps_if (pt_cmpR (opEq hr.units) (pv 1) pe_int (nomark _)) (pss_one (ps_ret (pe_callS (ok_greatest_trap T) (hr.mono (by decide)) rfl T.g_greatest_trap T.F_greatest_trap.kp T.b_greatest_trap (fun σ => passAt (takes_of rfl rfl rfl rfl) σ) (pa_cons (pv 0) (pa_cons (pv 2) pa_nil))))) pss_nil)
      (pss_cons (ps_if (pt_cmpR (opEq hr.units) (pv 1) pe_int (nomark _)) (pss_one (ps_ret (pe_callS (ok_is_sink T) (hr.mono (by decide)) rfl T.g_is_sink T.F_is_sink.kp T.b_is_sink (fun σ => passAt (takes_of rfl rfl rfl rfl) σ) (pa_cons (pv 0) (pa_cons (pv 2) pa_nil))))) pss_nil)
      (pss_one (ps_ret (pe_callS (ok_is_trap T) (hr.mono (by decide)) rfl T.g_is_trap T.F_is_trap.kp T.b_is_trap (fun σ => passAt (takes_of rfl rfl rfl rfl) σ) (pa_cons (pv 0) (pa_cons (pv 2) pa_nil))))))))), fun ds o h => sem_with_places_l T.a_NoHoard T.a_NoPlace h⟩)

theorem ok_with_two_l (T : Txt K mg) : FnOk P w K mg base (L2.CX P w) 5 T.a_with_two_l T.fd_with_two_l ["_law_net_here", "_law_what", "_law_bad", "_law_good"] (SpD K (F_with_two_l T.a_NoHoard T.a_NoMove T.a_NoPlace)) := by
  refine def_ok T.F_with_two_l sc_with_two_l (len_with_two_l T.a_NoHoard T.a_NoMove T.a_NoPlace) (fun cdv A outer s H E hr => ⟨t_with_two_l K E T.a_NoHoard T.a_NoMove T.a_NoPlace, (pss_cons (ps_if (pt_cmpR (opEq hr.units) (pv 1) pe_int (nomark _)) (pss_one (ps_ret (pe_callS (ok_can T) (hr.mono (by decide)) rfl T.g_can T.F_can.kp T.b_can (fun σ => passAt (takes_of rfl rfl rfl rfl) σ) (pa_cons (pv 0) (pa_cons (pv 2) (pa_cons (pe_un unNeg pe_int) pa_nil)))))) pss_nil)
      (pss_cons (ps_if (pt_cmpR (opEq hr.units) (pv 1) pe_int (nomark _)) (pss_one (ps_ret (pe_callS (ok_behind T) (hr.mono (by decide)) rfl T.g_behind T.F_behind.kp T.b_behind (fun σ => passAt (takes_of rfl rfl rfl rfl) σ) (pa_cons (pv 0) (pa_cons (pv 2) (pa_cons (pe_lst (pa_cons (pe_un unNeg pe_int) pa_nil)) pa_nil)))))) pss_nil)
      (pss_cons (ps_if (pt_cmpR (opEq hr.units) (pv 1) pe_int (nomark _)) (pss_one (ps_ret (pe_callS (ok_least_before T) (hr.mono (by decide)) rfl T.g_least_before T.F_least_before.kp T.b_least_before (fun σ => passAt (takes_of rfl rfl rfl rfl) σ) (pa_cons (pv 0) (pa_cons (pe_un unNeg pe_int) (pa_cons (pv 2) pa_nil)))))) pss_nil)
      (pss_cons (ps_if (pt_cmpR (opEq hr.units) (pv 1) pe_int (nomark _)) (pss_one (ps_ret (pe_callS (ok_together T) (hr.mono (by decide)) rfl T.g_together T.F_together.kp T.b_together (fun σ => passAt (takes_of rfl rfl rfl rfl) σ) (pa_cons (pv 0) (pa_cons (pv 2) (pa_cons (pe_tup (pa_cons pe_int pa_nil)) pa_nil)))))) pss_nil)
      (pss_one (ps_ret (pe_callS (ok_how_far T) (hr.mono (by decide)) rfl T.g_how_far T.F_how_far.kp T.b_how_far (fun σ => passAt (takes_of rfl rfl rfl rfl) σ) (pa_cons (pv 0) (pa_cons (pv 2) (pa_cons (pe_un unNeg pe_int) pa_nil)))))))))), fun ds o h => sem_with_two_l T.a_NoHoard T.a_NoMove T.a_NoPlace h⟩)

theorem ok_asked_l (T : Txt K mg) : FnOk P w K mg base (L2.CX P w) 8 T.a_asked_l T.fd_asked_l ["_law_kind_here", "_law_net_here", "_law_what", "_law_bad", "_law_good"] (SpD K (F_asked_l T.a_NoHoard T.a_NoMove T.a_NoPlace)) := by
  refine def_ok T.F_asked_l sc_asked_l (len_asked_l T.a_NoHoard T.a_NoMove T.a_NoPlace) (fun cdv A outer s H E hr => ⟨t_asked_l K E T.a_NoHoard T.a_NoMove T.a_NoPlace, (pss_cons (ps_if (pt_cmpR (opEq hr.units) (pv 0) pe_int (nomark _)) (pss_one (ps_ret (pe_callS (ok_with_hoard_l T) (hr.mono (by decide)) rfl T.g_with_hoard_l T.F_with_hoard_l.kp T.b_with_hoard_l (fun σ => passAt (takes_of rfl rfl rfl rfl) σ) (pa_cons (pv 1) (pa_cons (pv 2) (pa_cons (pv 3) (pa_cons (pv 4) pa_nil))))))) pss_nil)
      (pss_cons (ps_if (pt_cmpR (opEq hr.units) (pv 0) pe_int (nomark _)) (pss_one (ps_ret (pe_callS (ok_with_move_l T) (hr.mono (by decide)) rfl T.g_with_move_l T.F_with_move_l.kp T.b_with_move_l (fun σ => passAt (takes_of rfl rfl rfl rfl) σ) (pa_cons (pv 1) (pa_cons (pv 2) (pa_cons (pv 3) (pa_cons (pv 4) pa_nil))))))) pss_nil)
      (pss_cons (ps_if (pt_cmpR (opEq hr.units) (pv 0) pe_int (nomark _)) (pss_one (ps_ret (pe_callS (ok_with_place_l T) (hr.mono (by decide)) rfl T.g_with_place_l T.F_with_place_l.kp T.b_with_place_l (fun σ => passAt (takes_of rfl rfl rfl rfl) σ) (pa_cons (pv 1) (pa_cons (pv 2) (pa_cons (pv 3) (pa_cons (pv 4) pa_nil))))))) pss_nil)
      (pss_cons (ps_if (pt_cmpR (opEq hr.units) (pv 0) pe_int (nomark _)) (pss_one (ps_ret (pe_callS (ok_with_places_l T) (hr.mono (by decide)) rfl T.g_with_places_l T.F_with_places_l.kp T.b_with_places_l (fun σ => passAt (takes_of rfl rfl rfl rfl) σ) (pa_cons (pv 1) (pa_cons (pv 2) (pa_cons (pv 3) (pa_cons (pv 4) pa_nil))))))) pss_nil)
      (pss_one (ps_ret (pe_callS (ok_with_two_l T) (hr.mono (by decide)) rfl T.g_with_two_l T.F_with_two_l.kp T.b_with_two_l (fun σ => passAt (takes_of rfl rfl rfl rfl) σ) (pa_cons (pv 1) (pa_cons (pv 2) (pa_cons (pv 3) (pa_cons (pv 4) pa_nil))))))))))), fun ds o h => sem_asked_l T.a_NoHoard T.a_NoMove T.a_NoPlace h⟩)

theorem ok_kind_l (T : Txt K mg) : FnOk P w K mg base (L2.CX P w) 9 T.a_kind_l T.fd_kind_l ["_law_case"] (SpD K (F_kind_l T.a_Endless T.a_NoHoard T.a_NoMove T.a_NoNet T.a_NoPlace T.a_NoText T.a_Stuck T.a_TokenError T.a_TooBig)) := by
  refine def_ok T.F_kind_l sc_kind_l (len_kind_l T.a_Endless T.a_NoHoard T.a_NoMove T.a_NoNet T.a_NoPlace T.a_NoText T.a_Stuck T.a_TokenError T.a_TooBig) (fun cdv A outer s H E hr => ⟨t_kind_l K E T.a_Endless T.a_NoHoard T.a_NoMove T.a_NoNet T.a_NoPlace T.a_NoText T.a_Stuck T.a_TokenError T.a_TooBig, (pss_cons (ps_tryB (i := 1) rfl rfl sc_kind_l.nd rfl rfl ⟨rfl, by decide, .inl T.g_TokenError⟩ (fun W pn xe tk _ => (pss_one (ps_expr (pe_callS (ok_asked_l T) (hr.mono (by decide)) rfl T.g_asked_l T.F_asked_l.kp T.b_asked_l (fun σ => passAt tk σ) (pa_cons (pe_ix ix_seq (pv 0) pe_int (fun _ _ => rfl)) (pa_cons (pe_ix ix_seq (pv 0) pe_int (fun _ _ => rfl)) (pa_cons (pe_ix ix_seq (pv 0) pe_int (fun _ _ => rfl)) (pa_cons (pe_ix ix_seq (pv 0) pe_int (fun _ _ => rfl)) (pa_cons (pe_ix ix_seq (pv 0) pe_int (fun _ _ => rfl)) pa_nil))))))))) (fun a oe cls d pn hz hf => (pss_cons (ps_set (i := 2) sc_kind_l.nd rfl (by first | exact Or.inl rfl | exact Or.inr rfl) (pe_lst (pa_cons (pe_callB (call_isX hz hf) (by rfl) T.m_isinstance (by decide +kernel) (pa_cons (pv 1) (pa_cons (pe_glob (v := .ref T.a_NoHoard) rfl T.g_NoHoard rfl) pa_nil))) (pa_cons (pe_callB (call_isX hz hf) (by rfl) T.m_isinstance (by decide +kernel) (pa_cons (pv 1) (pa_cons (pe_glob (v := .ref T.a_NoMove) rfl T.g_NoMove rfl) pa_nil))) (pa_cons (pe_callB (call_isX hz hf) (by rfl) T.m_isinstance (by decide +kernel) (pa_cons (pv 1) (pa_cons (pe_glob (v := .ref T.a_NoPlace) rfl T.g_NoPlace rfl) pa_nil))) pa_nil)))))
      (pss_cons (ps_set (i := 3) sc_kind_l.nd rfl (by first | exact Or.inl rfl | exact Or.inr rfl) (pe_lst (pa_cons (pe_callB (call_isX hz hf) (by rfl) T.m_isinstance (by decide +kernel) (pa_cons (pv 1) (pa_cons (pe_glob (v := .ref T.a_NoNet) rfl T.g_NoNet rfl) pa_nil))) (pa_cons (pe_callB (call_isX hz hf) (by rfl) T.m_isinstance (by decide +kernel) (pa_cons (pv 1) (pa_cons (pe_glob (v := .ref T.a_Endless) rfl T.g_Endless rfl) pa_nil))) (pa_cons (pe_callB (call_isX hz hf) (by rfl) T.m_isinstance (by decide +kernel) (pa_cons (pv 1) (pa_cons (pe_glob (v := .ref T.a_TooBig) rfl T.g_TooBig rfl) pa_nil))) (pa_cons (pe_callB (call_isX hz hf) (by rfl) T.m_isinstance (by decide +kernel) (pa_cons (pv 1) (pa_cons (pe_glob (v := .ref T.a_NoText) rfl T.g_NoText rfl) pa_nil))) pa_nil))))))
      (pss_cons (ps_expr (pe_bm PySem.F.plainAttrs_list PySem.F.slot_list_append PySem.F.type_list_append mt_append (pv 3) (pa_cons (pe_callB (call_isX hz hf) (by rfl) T.m_isinstance (by decide +kernel) (pa_cons (pv 1) (pa_cons (pe_glob (v := .ref T.a_Stuck) rfl T.g_Stuck rfl) pa_nil))) pa_nil)))
      (pss_one (ps_if (PW.pt (pw_and (pt_val (pe_callB (call_isX hz hf) (by rfl) T.m_isinstance (by decide +kernel) (pa_cons (pv 1) (pa_cons (pe_bltn (v := .ty "ValueError") (by rfl) T.m_ValueError (by decide +kernel) rfl) pa_nil)))) (pw_and (pt_cmpR (opEq hr.units) (pe_bm PySem.F.plainAttrs_list PySem.F.slot_list_count PySem.F.type_list_count mtCountB (pe_op opAdd (pv 2) (pv 3)) (pa_cons pe_bl pa_nil)) pe_int (nomark _)) (pw_and1 (pt_cmpR op_in_seq pe_bl (pv 2) (by rfl)))))) (pss_one (ps_ret (pe_bm PySem.F.plainAttrs_list PySem.F.slot_list_index PySem.F.type_list_index mt_index (pv 2) (pa_cons pe_bl pa_nil)))) pss_nil)))))))
      (pss_one (ps_ret (pe_un unNeg pe_int)))), fun ds o h => sem_kind_l T.a_Endless T.a_NoHoard T.a_NoMove T.a_NoNet T.a_NoPlace T.a_NoText T.a_Stuck T.a_TokenError T.a_TooBig T.kf_NoHoard T.kf_NoMove T.kf_NoPlace h⟩)

theorem ok_bad_hoard_l (T : Txt K mg) : FnOk P w K mg base (L2.CX P w) 1 T.a_bad_hoard_l T.fd_bad_hoard_l ["_law_good", "_law_cell"] (SpD K F_bad_hoard_l) := by
  refine def_ok T.F_bad_hoard_l sc_bad_hoard_l (len_bad_hoard_l) (fun cdv A outer s H E hr => ⟨t_bad_hoard_l K E , (pss_cons (ps_set (i := 2) sc_bad_hoard_l.nd rfl (by first | exact Or.inl rfl | exact Or.inr rfl) (pe_ix ix_seq (pe_lst (pa_cons (pe_un unNeg pe_int) (pa_cons pe_bl (pa_cons pe_str (pa_cons pe_non pa_nil))))) (pe_op opMod (pe_op opDiv (pv 1) pe_int) pe_int) (fun _ _ => rfl)))
      (pss_one (ps_ret (pe_ix ix_seq (pe_lst (pa_cons (pe_callTy callLst (by rfl) T.m_list PyProof.Rows.boot_list (pa_cons (pv 0) pa_nil)) (pa_cons (pe_op opAdd (pv 0) (pe_tup (pa_cons pe_int pa_nil))) (pa_cons (pe_slice sl_all (pv 0) (po_some pe_int) po_none) (pa_cons (pe_op opAdd (pe_slice sl_all (pv 0) po_none (po_some (pe_un unNeg pe_int))) (pe_tup (pa_cons (pv 2) pa_nil))) (pa_cons pe_non (pa_cons pe_int pa_nil))))))) (pe_op opMod (pv 1) pe_int) (fun _ _ => rfl))))), fun ds o h => sem_bad_hoard_l  h⟩)

theorem ok_law (T : Txt K mg) : FnOk P w K mg base CX0 10 T.a_law T.fd_law ["_law_script"] (SpD K F_law) := by
  refine law_ok T.F_law sc_law (len_law) (fun cdv A outer s H E hr => ⟨t_law K E T.a_Endless T.a_NoHoard T.a_NoMove T.a_NoNet T.a_NoPlace T.a_NoText T.a_Stuck T.a_TokenError T.a_TooBig, (pss_cons (ps_set (i := 1) sc_law.nd rfl (by first | exact Or.inl rfl | exact Or.inr rfl) (pe_callS (ok_net_l T) (hr.mono (by decide)) rfl T.g_net_l T.F_net_l.kp T.b_net_l (fun σ => passAt takes0 σ) (pa_cons (pv 0) (pa_cons pe_int pa_nil))))
      (pss_cons (ps_set (i := 2) sc_law.nd rfl (by first | exact Or.inl rfl | exact Or.inr rfl) (pe_callS (ok_hoard_l T) (hr.mono (by decide)) rfl T.g_hoard_l T.F_hoard_l.kp T.b_hoard_l (fun σ => passAt takes0 σ) (pa_cons (pv 0) (pa_cons pe_int (pa_cons (pe_ix ix_seq (pv 1) pe_int (fun _ _ => rfl)) (pa_cons pe_int pa_nil))))))
      (pss_cons (ps_set (i := 3) sc_law.nd rfl (by first | exact Or.inl rfl | exact Or.inr rfl) (pe_callS (ok_mixed_l T) (hr.mono (by decide)) rfl T.g_mixed_l T.F_mixed_l.kp T.b_mixed_l (fun σ => passAt takes0 σ) (pa_cons (pv 0) (pa_cons pe_int (pa_cons (pe_op opPow pe_int pe_int) pa_nil)))))
      (pss_cons (ps_set (i := 4) sc_law.nd rfl (by first | exact Or.inl rfl | exact Or.inr rfl) (pe_callS (ok_mixed_l T) (hr.mono (by decide)) rfl T.g_mixed_l T.F_mixed_l.kp T.b_mixed_l (fun σ => passAt takes0 σ) (pa_cons (pv 0) (pa_cons pe_int (pa_cons pe_int pa_nil)))))
      (pss_cons (ps_set (i := 5) sc_law.nd rfl (by first | exact Or.inl rfl | exact Or.inr rfl) (pe_callS (ok_mixed_l T) (hr.mono (by decide)) rfl T.g_mixed_l T.F_mixed_l.kp T.b_mixed_l (fun σ => passAt takes0 σ) (pa_cons (pv 0) (pa_cons pe_int (pa_cons (pe_ix ix_seq (pe_lst (pa_cons pe_int (pa_cons pe_int (pa_cons pe_int (pa_cons pe_int (pa_cons pe_int pa_nil)))))) (pv 4) (fun _ _ => rfl)) pa_nil)))))
      (pss_cons (ps_set (i := 6) sc_law.nd rfl (by first | exact Or.inl rfl | exact Or.inr rfl) (pe_callS (ok_bad_hoard_l T) (hr.mono (by decide)) rfl T.g_bad_hoard_l T.F_bad_hoard_l.kp T.b_bad_hoard_l (fun σ => passAt takes0 σ) (pa_cons (pv 2) (pa_cons (pv 3) pa_nil))))
      (pss_cons (ps_set (i := 7) sc_law.nd rfl (by first | exact Or.inl rfl | exact Or.inr rfl) pe_int)
      (pss_cons (ps_if (pt_cmpR (opEq hr.units) (pv 4) pe_int (nomark _)) (pss_cons (ps_set (i := 6) sc_law.nd rfl (by first | exact Or.inl rfl | exact Or.inr rfl) (pe_ix ix_seq (pe_lst (pa_cons (pe_un unNeg pe_int) (pa_cons (pe_callB callLen (by rfl) T.m_len PySem.boot_len (pa_cons (pe_ix ix_seq (pv 1) pe_int (fun _ _ => rfl)) pa_nil)) (pa_cons pe_bl (pa_cons pe_str (pa_cons pe_non (pa_cons (pe_op opAdd (pe_callB callLen (by rfl) T.m_len PySem.boot_len (pa_cons (pe_ix ix_seq (pv 1) pe_int (fun _ _ => rfl)) pa_nil)) pe_int) pa_nil))))))) (pe_op opMod (pv 3) pe_int) (fun _ _ => rfl)))
      (pss_one (ps_set (i := 7) sc_law.nd rfl (by first | exact Or.inl rfl | exact Or.inr rfl) pe_int))) (pss_one (ps_if (pt_cmpR (opEq hr.units) (pv 4) pe_int (nomark _)) (pss_cons (ps_set (i := 6) sc_law.nd rfl (by first | exact Or.inl rfl | exact Or.inr rfl) (pe_ix ix_seq (pe_lst (pa_cons (pe_un unNeg pe_int) (pa_cons (pe_ix ix_seq (pv 1) pe_int (fun _ _ => rfl)) (pa_cons pe_bl (pa_cons pe_str (pa_cons pe_non (pa_cons (pe_op opAdd (pe_ix ix_seq (pv 1) pe_int (fun _ _ => rfl)) pe_int) pa_nil))))))) (pe_op opMod (pv 3) pe_int) (fun _ _ => rfl)))
      (pss_one (ps_set (i := 7) sc_law.nd rfl (by first | exact Or.inl rfl | exact Or.inr rfl) pe_int))) (pss_one (ps_if (pt_cmpR (opEq hr.units) (pv 4) pe_int (nomark _)) (pss_cons (ps_set (i := 6) sc_law.nd rfl (by first | exact Or.inl rfl | exact Or.inr rfl) (pe_ix ix_seq (pe_lst (pa_cons (pe_tup (pa_cons pe_int pa_nil)) (pa_cons pe_non (pa_cons pe_str (pa_cons (pe_disp (pps_cons pe_int pe_bl pps_nil) rfl rfl (by simp) (by decide)) pa_nil))))) (pe_op opMod (pv 3) pe_int) (fun _ _ => rfl)))
      (pss_one (ps_set (i := 7) sc_law.nd rfl (by first | exact Or.inl rfl | exact Or.inr rfl) pe_int))) (pss_one (ps_if (pt_cmpR (opEq hr.units) (pv 4) pe_int (nomark _)) (pss_one (ps_set (i := 7) sc_law.nd rfl (by first | exact Or.inl rfl | exact Or.inr rfl) (pe_callTy callInt (by rfl) T.m_int (by decide +kernel) (pa_cons (pe_cmpR (opEq hr.units) (pv 5) pe_int (nomark _)) pa_nil)))) pss_nil)))))))
      (pss_cons (ps_if (PW.pt (pw_and (pt_cmpR op_in_seq (pv 4) (pe_tup (pa_cons pe_int (pa_cons pe_int pa_nil))) (by rfl)) (pw_and1 (pt_cmpR opNotB (pe_callS (ok_is_hoard T) (hr.mono (by decide)) rfl T.g_is_hoard T.F_is_hoard.kp T.b_is_hoard (fun σ => passAt takes0 σ) (pa_cons (pv 1) (pa_cons (pv 6) pa_nil))) pe_bl (nomark _))))) (pss_one (ps_ret pe_bl)) pss_nil)
      (pss_one (ps_ret (pe_cmpR (opEq hr.units) (pe_callS (ok_kind_l T) (hr.mono (by decide)) rfl T.g_kind_l T.F_kind_l.kp T.b_kind_l (fun σ => passAt takes0 σ) (pa_cons (pe_tup (pa_cons (pv 4) (pa_cons (pv 1) (pa_cons (pv 5) (pa_cons (pv 6) (pa_cons (pv 2) pa_nil)))))) pa_nil)) (pv 7) (nomark _))))))))))))), fun ds o h => sem_law T.a_Endless T.a_NoHoard T.a_NoMove T.a_NoNet T.a_NoPlace T.a_NoText T.a_Stuck T.a_TokenError T.a_TooBig h⟩)

end

theorem all_mk {l : PySem.W.OpenLaw} {w : World} {K : PySem.W.Frag} {h : Heap} {mg : Str → Option Value} {fa : Addr} (X : K.In h) (G : h.Ns mainGlobals mg) (hfa : mg "law" = some (.ref fa))
    {f0 : Addr} {od0 an0 : Option Addr} {sl0 : Array (Option Value)} {oc0 kV0 dc0 pm0 cd0 ct0 : Value}
    {f1 : Addr} {od1 an1 : Option Addr} {sl1 : Array (Option Value)} {oc1 kV1 dc1 pm1 cd1 ct1 : Value}
    {f2 : Addr} {od2 an2 : Option Addr} {sl2 : Array (Option Value)} {oc2 kV2 dc2 pm2 cd2 ct2 : Value}
    {f3 : Addr} {od3 an3 : Option Addr} {sl3 : Array (Option Value)} {oc3 kV3 dc3 pm3 cd3 ct3 : Value}
    {f4 : Addr} {od4 an4 : Option Addr} {sl4 : Array (Option Value)} {oc4 kV4 dc4 pm4 cd4 ct4 : Value}
    {f5 : Addr} {od5 an5 : Option Addr} {sl5 : Array (Option Value)} {oc5 kV5 dc5 pm5 cd5 ct5 : Value}
    {f6 : Addr} {od6 an6 : Option Addr} {sl6 : Array (Option Value)} {oc6 kV6 dc6 pm6 cd6 ct6 : Value}
    {f7 : Addr} {od7 an7 : Option Addr} {sl7 : Array (Option Value)} {oc7 kV7 dc7 pm7 cd7 ct7 : Value}
    {f8 : Addr} {od8 an8 : Option Addr} {sl8 : Array (Option Value)} {oc8 kV8 dc8 pm8 cd8 ct8 : Value}
    {f9 : Addr} {od9 an9 : Option Addr} {sl9 : Array (Option Value)} {oc9 kV9 dc9 pm9 cd9 ct9 : Value}
    {f10 : Addr} {od10 an10 : Option Addr} {sl10 : Array (Option Value)} {oc10 kV10 dc10 pm10 cd10 ct10 : Value}
    {f11 : Addr} {od11 an11 : Option Addr} {sl11 : Array (Option Value)} {oc11 kV11 dc11 pm11 cd11 ct11 : Value}
    {f12 : Addr} {od12 an12 : Option Addr} {sl12 : Array (Option Value)} {oc12 kV12 dc12 pm12 cd12 ct12 : Value}
    {f13 : Addr} {od13 an13 : Option Addr} {sl13 : Array (Option Value)} {oc13 kV13 dc13 pm13 cd13 ct13 : Value}
    {f14 : Addr} {od14 an14 : Option Addr} {sl14 : Array (Option Value)} {oc14 kV14 dc14 pm14 cd14 ct14 : Value}
    {f15 : Addr} {od15 an15 : Option Addr} {sl15 : Array (Option Value)} {oc15 kV15 dc15 pm15 cd15 ct15 : Value}
    {f16 : Addr} {od16 an16 : Option Addr} {sl16 : Array (Option Value)} {oc16 kV16 dc16 pm16 cd16 ct16 : Value}
    {f17 : Addr} {od17 an17 : Option Addr} {sl17 : Array (Option Value)} {oc17 kV17 dc17 pm17 cd17 ct17 : Value}
    {f18 : Addr} {od18 an18 : Option Addr} {sl18 : Array (Option Value)} {oc18 kV18 dc18 pm18 cd18 ct18 : Value}
    {f19 : Addr} {od19 an19 : Option Addr} {sl19 : Array (Option Value)} {oc19 kV19 dc19 pm19 cd19 ct19 : Value}
    {f20 : Addr} {od20 an20 : Option Addr} {sl20 : Array (Option Value)} {oc20 kV20 dc20 pm20 cd20 ct20 : Value}
    {f21 : Addr} {od21 an21 : Option Addr} {sl21 : Array (Option Value)} {oc21 kV21 dc21 pm21 cd21 ct21 : Value}
    {f22 : Addr} {od22 an22 : Option Addr} {sl22 : Array (Option Value)} {oc22 kV22 dc22 pm22 cd22 ct22 : Value}
    {f23 : Addr} {od23 an23 : Option Addr} {sl23 : Array (Option Value)} {oc23 kV23 dc23 pm23 cd23 ct23 : Value}
    {f24 : Addr} {od24 an24 : Option Addr} {sl24 : Array (Option Value)} {oc24 kV24 dc24 pm24 cd24 ct24 : Value}
    {f25 : Addr} {od25 an25 : Option Addr} {sl25 : Array (Option Value)} {oc25 kV25 dc25 pm25 cd25 ct25 : Value}
    {f26 : Addr} {od26 an26 : Option Addr} {sl26 : Array (Option Value)} {oc26 kV26 dc26 pm26 cd26 ct26 : Value}
    {f27 : Addr} {od27 an27 : Option Addr} {sl27 : Array (Option Value)} {oc27 kV27 dc27 pm27 cd27 ct27 : Value}
    {f28 : Addr} {od28 an28 : Option Addr} {sl28 : Array (Option Value)} {oc28 kV28 dc28 pm28 cd28 ct28 : Value}
    {f29 : Addr} {od29 an29 : Option Addr} {sl29 : Array (Option Value)} {oc29 kV29 dc29 pm29 cd29 ct29 : Value}
    {f30 : Addr} {od30 an30 : Option Addr} {sl30 : Array (Option Value)} {oc30 kV30 dc30 pm30 cd30 ct30 : Value}
    {f31 : Addr} {od31 an31 : Option Addr} {sl31 : Array (Option Value)} {oc31 kV31 dc31 pm31 cd31 ct31 : Value}
    {f32 : Addr} {od32 an32 : Option Addr} {sl32 : Array (Option Value)} {oc32 kV32 dc32 pm32 cd32 ct32 : Value}
    {f33 : Addr} {od33 an33 : Option Addr} {sl33 : Array (Option Value)} {oc33 kV33 dc33 pm33 cd33 ct33 : Value}
    {f34 : Addr} {od34 an34 : Option Addr} {sl34 : Array (Option Value)} {oc34 kV34 dc34 pm34 cd34 ct34 : Value}
    {f35 : Addr} {od35 an35 : Option Addr} {sl35 : Array (Option Value)} {oc35 kV35 dc35 pm35 cd35 ct35 : Value}
    {e11 : Addr}
    {e12 : Addr}
    {e13 : Addr}
    {e14 : Addr}
    {e15 : Addr}
    {e16 : Addr}
    {e17 : Addr}
    {e18 : Addr}
    {e19 : Addr}
    (a0 : PySem.W.nsIn K mainGlobals "is_whole" = some (some (.ref f0))) (l0 : K.lookup f0 = some ⟨oc0, od0, .func (PySem.W.fnOf "is_whole" "is_whole" (defArgs s_is_whole) (defBody s_is_whole) (defScope s_is_whole) .none kV0 dc0 pm0 an0 cd0 ct0), sl0⟩) (c0 : PySem.W.codeIn K cd0 "is_whole" = true) (k0 : PySem.W.keepIn K (.ref f0) = true)
    (a1 : PySem.W.nsIn K mainGlobals "between" = some (some (.ref f1))) (l1 : K.lookup f1 = some ⟨oc1, od1, .func (PySem.W.fnOf "between" "between" (defArgs s_between) (defBody s_between) (defScope s_between) .none kV1 dc1 pm1 an1 cd1 ct1), sl1⟩) (c1 : PySem.W.codeIn K cd1 "between" = true) (k1 : PySem.W.keepIn K (.ref f1) = true)
    (a2 : PySem.W.nsIn K mainGlobals "is_hoard" = some (some (.ref f2))) (l2 : K.lookup f2 = some ⟨oc2, od2, .func (PySem.W.fnOf "is_hoard" "is_hoard" (defArgs s_is_hoard) (defBody s_is_hoard) (defScope s_is_hoard) .none kV2 dc2 pm2 an2 cd2 ct2), sl2⟩) (c2 : PySem.W.codeIn K cd2 "is_hoard" = true) (k2 : PySem.W.keepIn K (.ref f2) = true)
    (a3 : PySem.W.nsIn K mainGlobals "need_hoard" = some (some (.ref f3))) (l3 : K.lookup f3 = some ⟨oc3, od3, .func (PySem.W.fnOf "need_hoard" "need_hoard" (defArgs s_need_hoard) (defBody s_need_hoard) (defScope s_need_hoard) .none kV3 dc3 pm3 an3 cd3 ct3), sl3⟩) (c3 : PySem.W.codeIn K cd3 "need_hoard" = true) (k3 : PySem.W.keepIn K (.ref f3) = true)
    (a4 : PySem.W.nsIn K mainGlobals "need_move" = some (some (.ref f4))) (l4 : K.lookup f4 = some ⟨oc4, od4, .func (PySem.W.fnOf "need_move" "need_move" (defArgs s_need_move) (defBody s_need_move) (defScope s_need_move) .none kV4 dc4 pm4 an4 cd4 ct4), sl4⟩) (c4 : PySem.W.codeIn K cd4 "need_move" = true) (k4 : PySem.W.keepIn K (.ref f4) = true)
    (a5 : PySem.W.nsIn K mainGlobals "need_places" = some (some (.ref f5))) (l5 : K.lookup f5 = some ⟨oc5, od5, .func (PySem.W.fnOf "need_places" "need_places" (defArgs s_need_places) (defBody s_need_places) (defScope s_need_places) .none kV5 dc5 pm5 an5 cd5 ct5), sl5⟩) (c5 : PySem.W.codeIn K cd5 "need_places" = true) (k5 : PySem.W.keepIn K (.ref f5) = true)
    (a6 : PySem.W.nsIn K mainGlobals "can" = some (some (.ref f6))) (l6 : K.lookup f6 = some ⟨oc6, od6, .func (PySem.W.fnOf "can" "can" (defArgs s_can) (defBody s_can) (defScope s_can) .none kV6 dc6 pm6 an6 cd6 ct6), sl6⟩) (c6 : PySem.W.codeIn K cd6 "can" = true) (k6 : PySem.W.keepIn K (.ref f6) = true)
    (a7 : PySem.W.nsIn K mainGlobals "behind" = some (some (.ref f7))) (l7 : K.lookup f7 = some ⟨oc7, od7, .func (PySem.W.fnOf "behind" "behind" (defArgs s_behind) (defBody s_behind) (defScope s_behind) .none kV7 dc7 pm7 an7 cd7 ct7), sl7⟩) (c7 : PySem.W.codeIn K cd7 "behind" = true) (k7 : PySem.W.keepIn K (.ref f7) = true)
    (a8 : PySem.W.nsIn K mainGlobals "least_before" = some (some (.ref f8))) (l8 : K.lookup f8 = some ⟨oc8, od8, .func (PySem.W.fnOf "least_before" "least_before" (defArgs s_least_before) (defBody s_least_before) (defScope s_least_before) .none kV8 dc8 pm8 an8 cd8 ct8), sl8⟩) (c8 : PySem.W.codeIn K cd8 "least_before" = true) (k8 : PySem.W.keepIn K (.ref f8) = true)
    (a9 : PySem.W.nsIn K mainGlobals "sill" = some (some (.ref f9))) (l9 : K.lookup f9 = some ⟨oc9, od9, .func (PySem.W.fnOf "sill" "sill" (defArgs s_sill) (defBody s_sill) (defScope s_sill) .none kV9 dc9 pm9 an9 cd9 ct9), sl9⟩) (c9 : PySem.W.codeIn K cd9 "sill" = true) (k9 : PySem.W.keepIn K (.ref f9) = true)
    (a10 : PySem.W.nsIn K mainGlobals "cover" = some (some (.ref f10))) (l10 : K.lookup f10 = some ⟨oc10, od10, .func (PySem.W.fnOf "cover" "cover" (defArgs s_cover) (defBody s_cover) (defScope s_cover) .none kV10 dc10 pm10 an10 cd10 ct10), sl10⟩) (c10 : PySem.W.codeIn K cd10 "cover" = true) (k10 : PySem.W.keepIn K (.ref f10) = true)
    (a11 : PySem.W.nsIn K mainGlobals "together" = some (some (.ref f11))) (l11 : K.lookup f11 = some ⟨oc11, od11, .func (PySem.W.fnOf "together" "together" (defArgs s_together) (defBody s_together) (defScope s_together) .none kV11 dc11 pm11 an11 cd11 ct11), sl11⟩) (c11 : PySem.W.codeIn K cd11 "together" = true) (k11 : PySem.W.keepIn K (.ref f11) = true)
    (a12 : PySem.W.nsIn K mainGlobals "without_place" = some (some (.ref f12))) (l12 : K.lookup f12 = some ⟨oc12, od12, .func (PySem.W.fnOf "without_place" "without_place" (defArgs s_without_place) (defBody s_without_place) (defScope s_without_place) .none kV12 dc12 pm12 an12 cd12 ct12), sl12⟩) (c12 : PySem.W.codeIn K cd12 "without_place" = true) (k12 : PySem.W.keepIn K (.ref f12) = true)
    (a13 : PySem.W.nsIn K mainGlobals "all_of" = some (some (.ref f13))) (l13 : K.lookup f13 = some ⟨oc13, od13, .func (PySem.W.fnOf "all_of" "all_of" (defArgs s_all_of) (defBody s_all_of) (defScope s_all_of) .none kV13 dc13 pm13 an13 cd13 ct13), sl13⟩) (c13 : PySem.W.codeIn K cd13 "all_of" = true) (k13 : PySem.W.keepIn K (.ref f13) = true)
    (a14 : PySem.W.nsIn K mainGlobals "how_far" = some (some (.ref f14))) (l14 : K.lookup f14 = some ⟨oc14, od14, .func (PySem.W.fnOf "how_far" "how_far" (defArgs s_how_far) (defBody s_how_far) (defScope s_how_far) .none kV14 dc14 pm14 an14 cd14 ct14), sl14⟩) (c14 : PySem.W.codeIn K cd14 "how_far" = true) (k14 : PySem.W.keepIn K (.ref f14) = true)
    (a15 : PySem.W.nsIn K mainGlobals "run_to" = some (some (.ref f15))) (l15 : K.lookup f15 = some ⟨oc15, od15, .func (PySem.W.fnOf "run_to" "run_to" (defArgs s_run_to) (defBody s_run_to) (defScope s_run_to) .none kV15 dc15 pm15 an15 cd15 ct15), sl15⟩) (c15 : PySem.W.codeIn K cd15 "run_to" = true) (k15 : PySem.W.keepIn K (.ref f15) = true)
    (a16 : PySem.W.nsIn K mainGlobals "stuck_hoards" = some (some (.ref f16))) (l16 : K.lookup f16 = some ⟨oc16, od16, .func (PySem.W.fnOf "stuck_hoards" "stuck_hoards" (defArgs s_stuck_hoards) (defBody s_stuck_hoards) (defScope s_stuck_hoards) .none kV16 dc16 pm16 an16 cd16 ct16), sl16⟩) (c16 : PySem.W.codeIn K cd16 "stuck_hoards" = true) (k16 : PySem.W.keepIn K (.ref f16) = true)
    (a17 : PySem.W.nsIn K mainGlobals "greatest" = some (some (.ref f17))) (l17 : K.lookup f17 = some ⟨oc17, od17, .func (PySem.W.fnOf "greatest" "greatest" (defArgs s_greatest) (defBody s_greatest) (defScope s_greatest) .none kV17 dc17 pm17 an17 cd17 ct17), sl17⟩) (c17 : PySem.W.codeIn K cd17 "greatest" = true) (k17 : PySem.W.keepIn K (.ref f17) = true)
    (a18 : PySem.W.nsIn K mainGlobals "greatest_sink" = some (some (.ref f18))) (l18 : K.lookup f18 = some ⟨oc18, od18, .func (PySem.W.fnOf "greatest_sink" "greatest_sink" (defArgs s_greatest_sink) (defBody s_greatest_sink) (defScope s_greatest_sink) .none kV18 dc18 pm18 an18 cd18 ct18), sl18⟩) (c18 : PySem.W.codeIn K cd18 "greatest_sink" = true) (k18 : PySem.W.keepIn K (.ref f18) = true)
    (a19 : PySem.W.nsIn K mainGlobals "greatest_trap" = some (some (.ref f19))) (l19 : K.lookup f19 = some ⟨oc19, od19, .func (PySem.W.fnOf "greatest_trap" "greatest_trap" (defArgs s_greatest_trap) (defBody s_greatest_trap) (defScope s_greatest_trap) .none kV19 dc19 pm19 an19 cd19 ct19), sl19⟩) (c19 : PySem.W.codeIn K cd19 "greatest_trap" = true) (k19 : PySem.W.keepIn K (.ref f19) = true)
    (a20 : PySem.W.nsIn K mainGlobals "is_sink" = some (some (.ref f20))) (l20 : K.lookup f20 = some ⟨oc20, od20, .func (PySem.W.fnOf "is_sink" "is_sink" (defArgs s_is_sink) (defBody s_is_sink) (defScope s_is_sink) .none kV20 dc20 pm20 an20 cd20 ct20), sl20⟩) (c20 : PySem.W.codeIn K cd20 "is_sink" = true) (k20 : PySem.W.keepIn K (.ref f20) = true)
    (a21 : PySem.W.nsIn K mainGlobals "is_trap" = some (some (.ref f21))) (l21 : K.lookup f21 = some ⟨oc21, od21, .func (PySem.W.fnOf "is_trap" "is_trap" (defArgs s_is_trap) (defBody s_is_trap) (defScope s_is_trap) .none kV21 dc21 pm21 an21 cd21 ct21), sl21⟩) (c21 : PySem.W.codeIn K cd21 "is_trap" = true) (k21 : PySem.W.keepIn K (.ref f21) = true)
    (a22 : PySem.W.nsIn K mainGlobals "_law_cell_at" = some (some (.ref f22))) (l22 : K.lookup f22 = some ⟨oc22, od22, .func (PySem.W.fnOf "_law_cell_at" "_law_cell_at" (defArgs s_cell_at_l) (defBody s_cell_at_l) (defScope s_cell_at_l) .none kV22 dc22 pm22 an22 cd22 ct22), sl22⟩) (c22 : PySem.W.codeIn K cd22 "_law_cell_at" = true) (k22 : PySem.W.keepIn K (.ref f22) = true)
    (a23 : PySem.W.nsIn K mainGlobals "_law_mixed" = some (some (.ref f23))) (l23 : K.lookup f23 = some ⟨oc23, od23, .func (PySem.W.fnOf "_law_mixed" "_law_mixed" (defArgs s_mixed_l) (defBody s_mixed_l) (defScope s_mixed_l) .none kV23 dc23 pm23 an23 cd23 ct23), sl23⟩) (c23 : PySem.W.codeIn K cd23 "_law_mixed" = true) (k23 : PySem.W.keepIn K (.ref f23) = true)
    (a24 : PySem.W.nsIn K mainGlobals "_law_move" = some (some (.ref f24))) (l24 : K.lookup f24 = some ⟨oc24, od24, .func (PySem.W.fnOf "_law_move" "_law_move" (defArgs s_move_l) (defBody s_move_l) (defScope s_move_l) .none kV24 dc24 pm24 an24 cd24 ct24), sl24⟩) (c24 : PySem.W.codeIn K cd24 "_law_move" = true) (k24 : PySem.W.keepIn K (.ref f24) = true)
    (a25 : PySem.W.nsIn K mainGlobals "_law_net" = some (some (.ref f25))) (l25 : K.lookup f25 = some ⟨oc25, od25, .func (PySem.W.fnOf "_law_net" "_law_net" (defArgs s_net_l) (defBody s_net_l) (defScope s_net_l) .none kV25 dc25 pm25 an25 cd25 ct25), sl25⟩) (c25 : PySem.W.codeIn K cd25 "_law_net" = true) (k25 : PySem.W.keepIn K (.ref f25) = true)
    (a26 : PySem.W.nsIn K mainGlobals "_law_hoard" = some (some (.ref f26))) (l26 : K.lookup f26 = some ⟨oc26, od26, .func (PySem.W.fnOf "_law_hoard" "_law_hoard" (defArgs s_hoard_l) (defBody s_hoard_l) (defScope s_hoard_l) .none kV26 dc26 pm26 an26 cd26 ct26), sl26⟩) (c26 : PySem.W.codeIn K cd26 "_law_hoard" = true) (k26 : PySem.W.keepIn K (.ref f26) = true)
    (a27 : PySem.W.nsIn K mainGlobals "_law_with_hoard" = some (some (.ref f27))) (l27 : K.lookup f27 = some ⟨oc27, od27, .func (PySem.W.fnOf "_law_with_hoard" "_law_with_hoard" (defArgs s_with_hoard_l) (defBody s_with_hoard_l) (defScope s_with_hoard_l) .none kV27 dc27 pm27 an27 cd27 ct27), sl27⟩) (c27 : PySem.W.codeIn K cd27 "_law_with_hoard" = true) (k27 : PySem.W.keepIn K (.ref f27) = true)
    (a28 : PySem.W.nsIn K mainGlobals "_law_with_move" = some (some (.ref f28))) (l28 : K.lookup f28 = some ⟨oc28, od28, .func (PySem.W.fnOf "_law_with_move" "_law_with_move" (defArgs s_with_move_l) (defBody s_with_move_l) (defScope s_with_move_l) .none kV28 dc28 pm28 an28 cd28 ct28), sl28⟩) (c28 : PySem.W.codeIn K cd28 "_law_with_move" = true) (k28 : PySem.W.keepIn K (.ref f28) = true)
    (a29 : PySem.W.nsIn K mainGlobals "_law_with_place" = some (some (.ref f29))) (l29 : K.lookup f29 = some ⟨oc29, od29, .func (PySem.W.fnOf "_law_with_place" "_law_with_place" (defArgs s_with_place_l) (defBody s_with_place_l) (defScope s_with_place_l) .none kV29 dc29 pm29 an29 cd29 ct29), sl29⟩) (c29 : PySem.W.codeIn K cd29 "_law_with_place" = true) (k29 : PySem.W.keepIn K (.ref f29) = true)
    (a30 : PySem.W.nsIn K mainGlobals "_law_with_places" = some (some (.ref f30))) (l30 : K.lookup f30 = some ⟨oc30, od30, .func (PySem.W.fnOf "_law_with_places" "_law_with_places" (defArgs s_with_places_l) (defBody s_with_places_l) (defScope s_with_places_l) .none kV30 dc30 pm30 an30 cd30 ct30), sl30⟩) (c30 : PySem.W.codeIn K cd30 "_law_with_places" = true) (k30 : PySem.W.keepIn K (.ref f30) = true)
    (a31 : PySem.W.nsIn K mainGlobals "_law_with_two" = some (some (.ref f31))) (l31 : K.lookup f31 = some ⟨oc31, od31, .func (PySem.W.fnOf "_law_with_two" "_law_with_two" (defArgs s_with_two_l) (defBody s_with_two_l) (defScope s_with_two_l) .none kV31 dc31 pm31 an31 cd31 ct31), sl31⟩) (c31 : PySem.W.codeIn K cd31 "_law_with_two" = true) (k31 : PySem.W.keepIn K (.ref f31) = true)
    (a32 : PySem.W.nsIn K mainGlobals "_law_asked" = some (some (.ref f32))) (l32 : K.lookup f32 = some ⟨oc32, od32, .func (PySem.W.fnOf "_law_asked" "_law_asked" (defArgs s_asked_l) (defBody s_asked_l) (defScope s_asked_l) .none kV32 dc32 pm32 an32 cd32 ct32), sl32⟩) (c32 : PySem.W.codeIn K cd32 "_law_asked" = true) (k32 : PySem.W.keepIn K (.ref f32) = true)
    (a33 : PySem.W.nsIn K mainGlobals "_law_kind" = some (some (.ref f33))) (l33 : K.lookup f33 = some ⟨oc33, od33, .func (PySem.W.fnOf "_law_kind" "_law_kind" (defArgs s_kind_l) (defBody s_kind_l) (defScope s_kind_l) .none kV33 dc33 pm33 an33 cd33 ct33), sl33⟩) (c33 : PySem.W.codeIn K cd33 "_law_kind" = true) (k33 : PySem.W.keepIn K (.ref f33) = true)
    (a34 : PySem.W.nsIn K mainGlobals "_law_bad_hoard" = some (some (.ref f34))) (l34 : K.lookup f34 = some ⟨oc34, od34, .func (PySem.W.fnOf "_law_bad_hoard" "_law_bad_hoard" (defArgs s_bad_hoard_l) (defBody s_bad_hoard_l) (defScope s_bad_hoard_l) .none kV34 dc34 pm34 an34 cd34 ct34), sl34⟩) (c34 : PySem.W.codeIn K cd34 "_law_bad_hoard" = true) (k34 : PySem.W.keepIn K (.ref f34) = true)
    (a35 : PySem.W.nsIn K mainGlobals "law" = some (some (.ref f35))) (l35 : K.lookup f35 = some ⟨oc35, od35, .func (PySem.W.fnOf "law" "law" (defArgs s_law) (defBody s_law) (defScope s_law) .none kV35 dc35 pm35 an35 cd35 ct35), sl35⟩) (c35 : PySem.W.codeIn K cd35 "law" = true) (k35 : PySem.W.keepIn K (.ref f35) = true)
    (z0 : PySem.W.nsIn K mainGlobals "isinstance" = some none)
    (z1 : PySem.W.nsIn K mainGlobals "int" = some none)
    (z2 : PySem.W.nsIn K mainGlobals "bool" = some none)
    (z3 : PySem.W.nsIn K mainGlobals "tuple" = some none)
    (z4 : PySem.W.nsIn K mainGlobals "len" = some none)
    (z5 : PySem.W.nsIn K mainGlobals "list" = some none)
    (z6 : PySem.W.nsIn K mainGlobals "sorted" = some none)
    (z7 : PySem.W.nsIn K mainGlobals "set" = some none)
    (z8 : PySem.W.nsIn K mainGlobals "range" = some none)
    (z9 : PySem.W.nsIn K mainGlobals "sum" = some none)
    (z10 : PySem.W.nsIn K mainGlobals "ValueError" = some none)
    (z11 : PySem.W.nsIn K mainGlobals "Endless" = some (some (.ref e11)))
    (z12 : PySem.W.nsIn K mainGlobals "NoHoard" = some (some (.ref e12)))
    (x12 : PySem.W.excIn K e12 [.type "ValueError", .type "Exception", .type "BaseException", .type "object"] "ValueError.__new__" = true) (kp12 : PySem.W.keepIn K (.ref e12) = true) (sb12 : PySem.W.subIn K (.ref e12) (.type "BaseException") = some true) (ty12 : PySem.W.typeIn K (.ref e12) = some (.type "type"))
    (z13 : PySem.W.nsIn K mainGlobals "NoMove" = some (some (.ref e13)))
    (x13 : PySem.W.excIn K e13 [.type "ValueError", .type "Exception", .type "BaseException", .type "object"] "ValueError.__new__" = true) (kp13 : PySem.W.keepIn K (.ref e13) = true) (sb13 : PySem.W.subIn K (.ref e13) (.type "BaseException") = some true) (ty13 : PySem.W.typeIn K (.ref e13) = some (.type "type"))
    (z14 : PySem.W.nsIn K mainGlobals "NoNet" = some (some (.ref e14)))
    (z15 : PySem.W.nsIn K mainGlobals "NoPlace" = some (some (.ref e15)))
    (x15 : PySem.W.excIn K e15 [.type "ValueError", .type "Exception", .type "BaseException", .type "object"] "ValueError.__new__" = true) (kp15 : PySem.W.keepIn K (.ref e15) = true) (sb15 : PySem.W.subIn K (.ref e15) (.type "BaseException") = some true) (ty15 : PySem.W.typeIn K (.ref e15) = some (.type "type"))
    (z16 : PySem.W.nsIn K mainGlobals "NoText" = some (some (.ref e16)))
    (z17 : PySem.W.nsIn K mainGlobals "Stuck" = some (some (.ref e17)))
    (z18 : PySem.W.nsIn K mainGlobals "TokenError" = some (some (.ref e18)))
    (z19 : PySem.W.nsIn K mainGlobals "TooBig" = some (some (.ref e19)))
    (kf_NoHoard : KindF K e12 e18 e12 e13 e15 e14 e11 e19 e16 e17 0)
    (kf_NoMove : KindF K e13 e18 e12 e13 e15 e14 e11 e19 e16 e17 1)
    (kf_NoPlace : KindF K e15 e18 e12 e13 e15 e14 e11 e19 e16 e17 2) :
    ∃ fd : FuncData, (∀ (s : Shared) (v : Value), BindsTo s fd ⟨[v], []⟩ [("_law_script", v)]) ∧ ∀ base : Heap, K.In base → base.Ns mainGlobals mg → FnOk l.prog w K mg base CX0 10 fa fd ["_law_script"] (SpD K F_law) := by
  have e := hfa.symm.trans (PySem.W.mg_of X G a35)
  cases e
  exact ⟨PySem.W.fnOf "law" "law" (defArgs s_law) (defBody s_law) (defScope s_law) .none kV35 dc35 pm35 an35 cd35 ct35, fun s v => .of_eq rfl, fun base _ _ => ok_law ⟨f0,
    PySem.W.fnOf "is_whole" "is_whole" (defArgs s_is_whole) (defBody s_is_whole) (defScope s_is_whole) .none kV0 dc0 pm0 an0 cd0 ct0,
    fun_mk (st := s_is_whole) l0 c0 k0,
    (fun_mk (st := s_is_whole) l0 c0 k0).binds (ps := ["thing"]) (fun _ _ _ _ _ _ us hl => match us, hl with | [_], _ => rfl),
    PySem.W.mg_of X G a0,
    f1,
    PySem.W.fnOf "between" "between" (defArgs s_between) (defBody s_between) (defScope s_between) .none kV1 dc1 pm1 an1 cd1 ct1,
    fun_mk (st := s_between) l1 c1 k1,
    (fun_mk (st := s_between) l1 c1 k1).binds (ps := ["thing", "low", "most"]) (fun _ _ _ _ _ _ us hl => match us, hl with | [_, _, _], _ => rfl),
    PySem.W.mg_of X G a1,
    f2,
    PySem.W.fnOf "is_hoard" "is_hoard" (defArgs s_is_hoard) (defBody s_is_hoard) (defScope s_is_hoard) .none kV2 dc2 pm2 an2 cd2 ct2,
    fun_mk (st := s_is_hoard) l2 c2 k2,
    (fun_mk (st := s_is_hoard) l2 c2 k2).binds (ps := ["net", "thing"]) (fun _ _ _ _ _ _ us hl => match us, hl with | [_, _], _ => rfl),
    PySem.W.mg_of X G a2,
    f3,
    PySem.W.fnOf "need_hoard" "need_hoard" (defArgs s_need_hoard) (defBody s_need_hoard) (defScope s_need_hoard) .none kV3 dc3 pm3 an3 cd3 ct3,
    fun_mk (st := s_need_hoard) l3 c3 k3,
    (fun_mk (st := s_need_hoard) l3 c3 k3).binds (ps := ["net", "thing"]) (fun _ _ _ _ _ _ us hl => match us, hl with | [_, _], _ => rfl),
    PySem.W.mg_of X G a3,
    f4,
    PySem.W.fnOf "need_move" "need_move" (defArgs s_need_move) (defBody s_need_move) (defScope s_need_move) .none kV4 dc4 pm4 an4 cd4 ct4,
    fun_mk (st := s_need_move) l4 c4 k4,
    (fun_mk (st := s_need_move) l4 c4 k4).binds (ps := ["net", "thing"]) (fun _ _ _ _ _ _ us hl => match us, hl with | [_, _], _ => rfl),
    PySem.W.mg_of X G a4,
    f5,
    PySem.W.fnOf "need_places" "need_places" (defArgs s_need_places) (defBody s_need_places) (defScope s_need_places) .none kV5 dc5 pm5 an5 cd5 ct5,
    fun_mk (st := s_need_places) l5 c5 k5,
    (fun_mk (st := s_need_places) l5 c5 k5).binds (ps := ["net", "thing"]) (fun _ _ _ _ _ _ us hl => match us, hl with | [_, _], _ => rfl),
    PySem.W.mg_of X G a5,
    f6,
    PySem.W.fnOf "can" "can" (defArgs s_can) (defBody s_can) (defScope s_can) .none kV6 dc6 pm6 an6 cd6 ct6,
    fun_mk (st := s_can) l6 c6 k6,
    (fun_mk (st := s_can) l6 c6 k6).binds (ps := ["net", "hoard", "move"]) (fun _ _ _ _ _ _ us hl => match us, hl with | [_, _, _], _ => rfl),
    PySem.W.mg_of X G a6,
    f7,
    PySem.W.fnOf "behind" "behind" (defArgs s_behind) (defBody s_behind) (defScope s_behind) .none kV7 dc7 pm7 an7 cd7 ct7,
    fun_mk (st := s_behind) l7 c7 k7,
    (fun_mk (st := s_behind) l7 c7 k7).binds (ps := ["net", "hoard", "run"]) (fun _ _ _ _ _ _ us hl => match us, hl with | [_, _, _], _ => rfl),
    PySem.W.mg_of X G a7,
    f8,
    PySem.W.fnOf "least_before" "least_before" (defArgs s_least_before) (defBody s_least_before) (defScope s_least_before) .none kV8 dc8 pm8 an8 cd8 ct8,
    fun_mk (st := s_least_before) l8 c8 k8,
    (fun_mk (st := s_least_before) l8 c8 k8).binds (ps := ["net", "move", "goal"]) (fun _ _ _ _ _ _ us hl => match us, hl with | [_, _, _], _ => rfl),
    PySem.W.mg_of X G a8,
    f9,
    PySem.W.fnOf "sill" "sill" (defArgs s_sill) (defBody s_sill) (defScope s_sill) .none kV9 dc9 pm9 an9 cd9 ct9,
    fun_mk (st := s_sill) l9 c9 k9,
    (fun_mk (st := s_sill) l9 c9 k9).binds (ps := ["net", "goal"]) (fun _ _ _ _ _ _ us hl => match us, hl with | [_, _], _ => rfl),
    PySem.W.mg_of X G a9,
    f10,
    PySem.W.fnOf "cover" "cover" (defArgs s_cover) (defBody s_cover) (defScope s_cover) .none kV10 dc10 pm10 an10 cd10 ct10,
    fun_mk (st := s_cover) l10 c10 k10,
    (fun_mk (st := s_cover) l10 c10 k10).binds (ps := ["net", "start", "goal"]) (fun _ _ _ _ _ _ us hl => match us, hl with | [_, _, _], _ => rfl),
    PySem.W.mg_of X G a10,
    f11,
    PySem.W.fnOf "together" "together" (defArgs s_together) (defBody s_together) (defScope s_together) .none kV11 dc11 pm11 an11 cd11 ct11,
    fun_mk (st := s_together) l11 c11 k11,
    (fun_mk (st := s_together) l11 c11 k11).binds (ps := ["net", "start", "places"]) (fun _ _ _ _ _ _ us hl => match us, hl with | [_, _, _], _ => rfl),
    PySem.W.mg_of X G a11,
    f12,
    PySem.W.fnOf "without_place" "without_place" (defArgs s_without_place) (defBody s_without_place) (defScope s_without_place) .none kV12 dc12 pm12 an12 cd12 ct12,
    fun_mk (st := s_without_place) l12 c12 k12,
    (fun_mk (st := s_without_place) l12 c12 k12).binds (ps := ["net", "place"]) (fun _ _ _ _ _ _ us hl => match us, hl with | [_, _], _ => rfl),
    PySem.W.mg_of X G a12,
    f13,
    PySem.W.fnOf "all_of" "all_of" (defArgs s_all_of) (defBody s_all_of) (defScope s_all_of) .none kV13 dc13 pm13 an13 cd13 ct13,
    fun_mk (st := s_all_of) l13 c13 k13,
    (fun_mk (st := s_all_of) l13 c13 k13).binds (ps := ["net", "start"]) (fun _ _ _ _ _ _ us hl => match us, hl with | [_, _], _ => rfl),
    PySem.W.mg_of X G a13,
    f14,
    PySem.W.fnOf "how_far" "how_far" (defArgs s_how_far) (defBody s_how_far) (defScope s_how_far) .none kV14 dc14 pm14 an14 cd14 ct14,
    fun_mk (st := s_how_far) l14 c14 k14,
    (fun_mk (st := s_how_far) l14 c14 k14).binds (ps := ["net", "start", "place"]) (fun _ _ _ _ _ _ us hl => match us, hl with | [_, _, _], _ => rfl),
    PySem.W.mg_of X G a14,
    f15,
    PySem.W.fnOf "run_to" "run_to" (defArgs s_run_to) (defBody s_run_to) (defScope s_run_to) .none kV15 dc15 pm15 an15 cd15 ct15,
    fun_mk (st := s_run_to) l15 c15 k15,
    (fun_mk (st := s_run_to) l15 c15 k15).binds (ps := ["net", "start", "goal"]) (fun _ _ _ _ _ _ us hl => match us, hl with | [_, _, _], _ => rfl),
    PySem.W.mg_of X G a15,
    f16,
    PySem.W.fnOf "stuck_hoards" "stuck_hoards" (defArgs s_stuck_hoards) (defBody s_stuck_hoards) (defScope s_stuck_hoards) .none kV16 dc16 pm16 an16 cd16 ct16,
    fun_mk (st := s_stuck_hoards) l16 c16 k16,
    (fun_mk (st := s_stuck_hoards) l16 c16 k16).binds (ps := ["net", "start"]) (fun _ _ _ _ _ _ us hl => match us, hl with | [_, _], _ => rfl),
    PySem.W.mg_of X G a16,
    f17,
    PySem.W.fnOf "greatest" "greatest" (defArgs s_greatest) (defBody s_greatest) (defScope s_greatest) .none kV17 dc17 pm17 an17 cd17 ct17,
    fun_mk (st := s_greatest) l17 c17 k17,
    (fun_mk (st := s_greatest) l17 c17 k17).binds (ps := ["net", "places", "gives", "takes"]) (fun _ _ _ _ _ _ us hl => match us, hl with | [_, _, _, _], _ => rfl),
    PySem.W.mg_of X G a17,
    f18,
    PySem.W.fnOf "greatest_sink" "greatest_sink" (defArgs s_greatest_sink) (defBody s_greatest_sink) (defScope s_greatest_sink) .none kV18 dc18 pm18 an18 cd18 ct18,
    fun_mk (st := s_greatest_sink) l18 c18 k18,
    (fun_mk (st := s_greatest_sink) l18 c18 k18).binds (ps := ["net", "places"]) (fun _ _ _ _ _ _ us hl => match us, hl with | [_, _], _ => rfl),
    PySem.W.mg_of X G a18,
    f19,
    PySem.W.fnOf "greatest_trap" "greatest_trap" (defArgs s_greatest_trap) (defBody s_greatest_trap) (defScope s_greatest_trap) .none kV19 dc19 pm19 an19 cd19 ct19,
    fun_mk (st := s_greatest_trap) l19 c19 k19,
    (fun_mk (st := s_greatest_trap) l19 c19 k19).binds (ps := ["net", "places"]) (fun _ _ _ _ _ _ us hl => match us, hl with | [_, _], _ => rfl),
    PySem.W.mg_of X G a19,
    f20,
    PySem.W.fnOf "is_sink" "is_sink" (defArgs s_is_sink) (defBody s_is_sink) (defScope s_is_sink) .none kV20 dc20 pm20 an20 cd20 ct20,
    fun_mk (st := s_is_sink) l20 c20 k20,
    (fun_mk (st := s_is_sink) l20 c20 k20).binds (ps := ["net", "places"]) (fun _ _ _ _ _ _ us hl => match us, hl with | [_, _], _ => rfl),
    PySem.W.mg_of X G a20,
    f21,
    PySem.W.fnOf "is_trap" "is_trap" (defArgs s_is_trap) (defBody s_is_trap) (defScope s_is_trap) .none kV21 dc21 pm21 an21 cd21 ct21,
    fun_mk (st := s_is_trap) l21 c21 k21,
    (fun_mk (st := s_is_trap) l21 c21 k21).binds (ps := ["net", "places"]) (fun _ _ _ _ _ _ us hl => match us, hl with | [_, _], _ => rfl),
    PySem.W.mg_of X G a21,
    f22,
    PySem.W.fnOf "_law_cell_at" "_law_cell_at" (defArgs s_cell_at_l) (defBody s_cell_at_l) (defScope s_cell_at_l) .none kV22 dc22 pm22 an22 cd22 ct22,
    fun_mk (st := s_cell_at_l) l22 c22 k22,
    (fun_mk (st := s_cell_at_l) l22 c22 k22).binds (ps := ["_law_script", "_law_k"]) (fun _ _ _ _ _ _ us hl => match us, hl with | [_, _], _ => rfl),
    PySem.W.mg_of X G a22,
    f23,
    PySem.W.fnOf "_law_mixed" "_law_mixed" (defArgs s_mixed_l) (defBody s_mixed_l) (defScope s_mixed_l) .none kV23 dc23 pm23 an23 cd23 ct23,
    fun_mk (st := s_mixed_l) l23 c23 k23,
    (fun_mk (st := s_mixed_l) l23 c23 k23).binds (ps := ["_law_script", "_law_k", "_law_many"]) (fun _ _ _ _ _ _ us hl => match us, hl with | [_, _, _], _ => rfl),
    PySem.W.mg_of X G a23,
    f24,
    PySem.W.fnOf "_law_move" "_law_move" (defArgs s_move_l) (defBody s_move_l) (defScope s_move_l) .none kV24 dc24 pm24 an24 cd24 ct24,
    fun_mk (st := s_move_l) l24 c24 k24,
    (fun_mk (st := s_move_l) l24 c24 k24).binds (ps := ["_law_script", "_law_at", "_law_size", "_law_even"]) (fun _ _ _ _ _ _ us hl => match us, hl with | [_, _, _, _], _ => rfl),
    PySem.W.mg_of X G a24,
    f25,
    PySem.W.fnOf "_law_net" "_law_net" (defArgs s_net_l) (defBody s_net_l) (defScope s_net_l) .none kV25 dc25 pm25 an25 cd25 ct25,
    fun_mk (st := s_net_l) l25 c25 k25,
    (fun_mk (st := s_net_l) l25 c25 k25).binds (ps := ["_law_script", "_law_at"]) (fun _ _ _ _ _ _ us hl => match us, hl with | [_, _], _ => rfl),
    PySem.W.mg_of X G a25,
    f26,
    PySem.W.fnOf "_law_hoard" "_law_hoard" (defArgs s_hoard_l) (defBody s_hoard_l) (defScope s_hoard_l) .none kV26 dc26 pm26 an26 cd26 ct26,
    fun_mk (st := s_hoard_l) l26 c26 k26,
    (fun_mk (st := s_hoard_l) l26 c26 k26).binds (ps := ["_law_script", "_law_at", "_law_size", "_law_most"]) (fun _ _ _ _ _ _ us hl => match us, hl with | [_, _, _, _], _ => rfl),
    PySem.W.mg_of X G a26,
    f27,
    PySem.W.fnOf "_law_with_hoard" "_law_with_hoard" (defArgs s_with_hoard_l) (defBody s_with_hoard_l) (defScope s_with_hoard_l) .none kV27 dc27 pm27 an27 cd27 ct27,
    fun_mk (st := s_with_hoard_l) l27 c27 k27,
    (fun_mk (st := s_with_hoard_l) l27 c27 k27).binds (ps := ["_law_net_here", "_law_what", "_law_bad", "_law_good"]) (fun _ _ _ _ _ _ us hl => match us, hl with | [_, _, _, _], _ => rfl),
    PySem.W.mg_of X G a27,
    f28,
    PySem.W.fnOf "_law_with_move" "_law_with_move" (defArgs s_with_move_l) (defBody s_with_move_l) (defScope s_with_move_l) .none kV28 dc28 pm28 an28 cd28 ct28,
    fun_mk (st := s_with_move_l) l28 c28 k28,
    (fun_mk (st := s_with_move_l) l28 c28 k28).binds (ps := ["_law_net_here", "_law_what", "_law_bad", "_law_good"]) (fun _ _ _ _ _ _ us hl => match us, hl with | [_, _, _, _], _ => rfl),
    PySem.W.mg_of X G a28,
    f29,
    PySem.W.fnOf "_law_with_place" "_law_with_place" (defArgs s_with_place_l) (defBody s_with_place_l) (defScope s_with_place_l) .none kV29 dc29 pm29 an29 cd29 ct29,
    fun_mk (st := s_with_place_l) l29 c29 k29,
    (fun_mk (st := s_with_place_l) l29 c29 k29).binds (ps := ["_law_net_here", "_law_what", "_law_bad", "_law_good"]) (fun _ _ _ _ _ _ us hl => match us, hl with | [_, _, _, _], _ => rfl),
    PySem.W.mg_of X G a29,
    f30,
    PySem.W.fnOf "_law_with_places" "_law_with_places" (defArgs s_with_places_l) (defBody s_with_places_l) (defScope s_with_places_l) .none kV30 dc30 pm30 an30 cd30 ct30,
    fun_mk (st := s_with_places_l) l30 c30 k30,
    (fun_mk (st := s_with_places_l) l30 c30 k30).binds (ps := ["_law_net_here", "_law_what", "_law_bad", "_law_good"]) (fun _ _ _ _ _ _ us hl => match us, hl with | [_, _, _, _], _ => rfl),
    PySem.W.mg_of X G a30,
    f31,
    PySem.W.fnOf "_law_with_two" "_law_with_two" (defArgs s_with_two_l) (defBody s_with_two_l) (defScope s_with_two_l) .none kV31 dc31 pm31 an31 cd31 ct31,
    fun_mk (st := s_with_two_l) l31 c31 k31,
    (fun_mk (st := s_with_two_l) l31 c31 k31).binds (ps := ["_law_net_here", "_law_what", "_law_bad", "_law_good"]) (fun _ _ _ _ _ _ us hl => match us, hl with | [_, _, _, _], _ => rfl),
    PySem.W.mg_of X G a31,
    f32,
    PySem.W.fnOf "_law_asked" "_law_asked" (defArgs s_asked_l) (defBody s_asked_l) (defScope s_asked_l) .none kV32 dc32 pm32 an32 cd32 ct32,
    fun_mk (st := s_asked_l) l32 c32 k32,
    (fun_mk (st := s_asked_l) l32 c32 k32).binds (ps := ["_law_kind_here", "_law_net_here", "_law_what", "_law_bad", "_law_good"]) (fun _ _ _ _ _ _ us hl => match us, hl with | [_, _, _, _, _], _ => rfl),
    PySem.W.mg_of X G a32,
    f33,
    PySem.W.fnOf "_law_kind" "_law_kind" (defArgs s_kind_l) (defBody s_kind_l) (defScope s_kind_l) .none kV33 dc33 pm33 an33 cd33 ct33,
    fun_mk (st := s_kind_l) l33 c33 k33,
    (fun_mk (st := s_kind_l) l33 c33 k33).binds (ps := ["_law_case"]) (fun _ _ _ _ _ _ us hl => match us, hl with | [_], _ => rfl),
    PySem.W.mg_of X G a33,
    f34,
    PySem.W.fnOf "_law_bad_hoard" "_law_bad_hoard" (defArgs s_bad_hoard_l) (defBody s_bad_hoard_l) (defScope s_bad_hoard_l) .none kV34 dc34 pm34 an34 cd34 ct34,
    fun_mk (st := s_bad_hoard_l) l34 c34 k34,
    (fun_mk (st := s_bad_hoard_l) l34 c34 k34).binds (ps := ["_law_good", "_law_cell"]) (fun _ _ _ _ _ _ us hl => match us, hl with | [_, _], _ => rfl),
    PySem.W.mg_of X G a34,
    fa,
    PySem.W.fnOf "law" "law" (defArgs s_law) (defBody s_law) (defScope s_law) .none kV35 dc35 pm35 an35 cd35 ct35,
    fun_mk (st := s_law) l35 c35 k35,
    (fun_mk (st := s_law) l35 c35 k35).binds (ps := ["_law_script"]) (fun _ _ _ _ _ _ us hl => match us, hl with | [_], _ => rfl),
    PySem.W.mg_of X G a35,
    PySem.W.mg_none_of X G z0,
    PySem.W.mg_none_of X G z1,
    PySem.W.mg_none_of X G z2,
    PySem.W.mg_none_of X G z3,
    PySem.W.mg_none_of X G z4,
    PySem.W.mg_none_of X G z5,
    PySem.W.mg_none_of X G z6,
    PySem.W.mg_none_of X G z7,
    PySem.W.mg_none_of X G z8,
    PySem.W.mg_none_of X G z9,
    PySem.W.mg_none_of X G z10,
    e11,
    PySem.W.mg_of X G z11,
    e12,
    PySem.W.mg_of X G z12,
    x12,
    kp12,
    sb12,
    ty12,
    e13,
    PySem.W.mg_of X G z13,
    x13,
    kp13,
    sb13,
    ty13,
    e14,
    PySem.W.mg_of X G z14,
    e15,
    PySem.W.mg_of X G z15,
    x15,
    kp15,
    sb15,
    ty15,
    e16,
    PySem.W.mg_of X G z16,
    e17,
    PySem.W.mg_of X G z17,
    e18,
    PySem.W.mg_of X G z18,
    e19,
    PySem.W.mg_of X G z19,
    kf_NoHoard,
    kf_NoMove,
    kf_NoPlace⟩⟩
end Tw
open PySem PySem.W PyProof.Rows
set_option maxHeartbeats 0 in
set_option maxRecDepth 100000 in
theorem PySem.Challenge.cw_tokenwall_k03_nets_refused_holds : PySem.Challenge.rw_tokenwall_k03_nets_refused.Holds := by
  w_on; o_law; k_head; (case hw => w_witness2)
  k_fill
  refine L2.walk_of (l := PySem.Challenge.rw_tokenwall_k03_nets_refused) (n := 63) (k := 10) (x := "_law_script") (CX := fun _ => L2.CX0) (sp := fun w => Tw.SpD _ Tw.F_law) rfl (by decide) rfl ⟨rfl, by decide, by decide⟩ (fun w h Y => PySem.W.kIn_of Y) ?F (fun _ H a ns hl _ hS => Tw.law_start (Tw.holds_law ns hl) hS) (fun _ _ _ _ _ h => h)
  case F =>
    intro w mg fa h KX G hmg
    refine' Tw.all_mk KX G hmg ?a0 ?l0 ?c0 ?k0 ?a1 ?l1 ?c1 ?k1 ?a2 ?l2 ?c2 ?k2 ?a3 ?l3 ?c3 ?k3 ?a4 ?l4 ?c4 ?k4 ?a5 ?l5 ?c5 ?k5 ?a6 ?l6 ?c6 ?k6 ?a7 ?l7 ?c7 ?k7 ?a8 ?l8 ?c8 ?k8 ?a9 ?l9 ?c9 ?k9 ?a10 ?l10 ?c10 ?k10 ?a11 ?l11 ?c11 ?k11 ?a12 ?l12 ?c12 ?k12 ?a13 ?l13 ?c13 ?k13 ?a14 ?l14 ?c14 ?k14 ?a15 ?l15 ?c15 ?k15 ?a16 ?l16 ?c16 ?k16 ?a17 ?l17 ?c17 ?k17 ?a18 ?l18 ?c18 ?k18 ?a19 ?l19 ?c19 ?k19 ?a20 ?l20 ?c20 ?k20 ?a21 ?l21 ?c21 ?k21 ?a22 ?l22 ?c22 ?k22 ?a23 ?l23 ?c23 ?k23 ?a24 ?l24 ?c24 ?k24 ?a25 ?l25 ?c25 ?k25 ?a26 ?l26 ?c26 ?k26 ?a27 ?l27 ?c27 ?k27 ?a28 ?l28 ?c28 ?k28 ?a29 ?l29 ?c29 ?k29 ?a30 ?l30 ?c30 ?k30 ?a31 ?l31 ?c31 ?k31 ?a32 ?l32 ?c32 ?k32 ?a33 ?l33 ?c33 ?k33 ?a34 ?l34 ?c34 ?k34 ?a35 ?l35 ?c35 ?k35 ?z0 ?z1 ?z2 ?z3 ?z4 ?z5 ?z6 ?z7 ?z8 ?z9 ?z10 ?z11 ?z12 ?x12 ?kp12 ?sb12 ?ty12 ?z13 ?x13 ?kp13 ?sb13 ?ty13 ?z14 ?z15 ?x15 ?kp15 ?sb15 ?ty15 ?z16 ?z17 ?z18 ?z19 ?kf_NoHoard ?kf_NoMove ?kf_NoPlace
    (case a0 => k_is)
    (case l0 => k_is)
    (case c0 => k_is)
    (case k0 => k_is)
    (case a1 => k_is)
    (case l1 => k_is)
    (case c1 => k_is)
    (case k1 => k_is)
    (case a2 => k_is)
    (case l2 => k_is)
    (case c2 => k_is)
    (case k2 => k_is)
    (case a3 => k_is)
    (case l3 => k_is)
    (case c3 => k_is)
    (case k3 => k_is)
    (case a4 => k_is)
    (case l4 => k_is)
    (case c4 => k_is)
    (case k4 => k_is)
    (case a5 => k_is)
    (case l5 => k_is)
    (case c5 => k_is)
    (case k5 => k_is)
    (case a6 => k_is)
    (case l6 => k_is)
    (case c6 => k_is)
    (case k6 => k_is)
    (case a7 => k_is)
    (case l7 => k_is)
    (case c7 => k_is)
    (case k7 => k_is)
    (case a8 => k_is)
    (case l8 => k_is)
    (case c8 => k_is)
    (case k8 => k_is)
    (case a9 => k_is)
    (case l9 => k_is)
    (case c9 => k_is)
    (case k9 => k_is)
    (case a10 => k_is)
    (case l10 => k_is)
    (case c10 => k_is)
    (case k10 => k_is)
    (case a11 => k_is)
    (case l11 => k_is)
    (case c11 => k_is)
    (case k11 => k_is)
    (case a12 => k_is)
    (case l12 => k_is)
    (case c12 => k_is)
    (case k12 => k_is)
    (case a13 => k_is)
    (case l13 => k_is)
    (case c13 => k_is)
    (case k13 => k_is)
    (case a14 => k_is)
    (case l14 => k_is)
    (case c14 => k_is)
    (case k14 => k_is)
    (case a15 => k_is)
    (case l15 => k_is)
    (case c15 => k_is)
    (case k15 => k_is)
    (case a16 => k_is)
    (case l16 => k_is)
    (case c16 => k_is)
    (case k16 => k_is)
    (case a17 => k_is)
    (case l17 => k_is)
    (case c17 => k_is)
    (case k17 => k_is)
    (case a18 => k_is)
    (case l18 => k_is)
    (case c18 => k_is)
    (case k18 => k_is)
    (case a19 => k_is)
    (case l19 => k_is)
    (case c19 => k_is)
    (case k19 => k_is)
    (case a20 => k_is)
    (case l20 => k_is)
    (case c20 => k_is)
    (case k20 => k_is)
    (case a21 => k_is)
    (case l21 => k_is)
    (case c21 => k_is)
    (case k21 => k_is)
    (case a22 => k_is)
    (case l22 => k_is)
    (case c22 => k_is)
    (case k22 => k_is)
    (case a23 => k_is)
    (case l23 => k_is)
    (case c23 => k_is)
    (case k23 => k_is)
    (case a24 => k_is)
    (case l24 => k_is)
    (case c24 => k_is)
    (case k24 => k_is)
    (case a25 => k_is)
    (case l25 => k_is)
    (case c25 => k_is)
    (case k25 => k_is)
    (case a26 => k_is)
    (case l26 => k_is)
    (case c26 => k_is)
    (case k26 => k_is)
    (case a27 => k_is)
    (case l27 => k_is)
    (case c27 => k_is)
    (case k27 => k_is)
    (case a28 => k_is)
    (case l28 => k_is)
    (case c28 => k_is)
    (case k28 => k_is)
    (case a29 => k_is)
    (case l29 => k_is)
    (case c29 => k_is)
    (case k29 => k_is)
    (case a30 => k_is)
    (case l30 => k_is)
    (case c30 => k_is)
    (case k30 => k_is)
    (case a31 => k_is)
    (case l31 => k_is)
    (case c31 => k_is)
    (case k31 => k_is)
    (case a32 => k_is)
    (case l32 => k_is)
    (case c32 => k_is)
    (case k32 => k_is)
    (case a33 => k_is)
    (case l33 => k_is)
    (case c33 => k_is)
    (case k33 => k_is)
    (case a34 => k_is)
    (case l34 => k_is)
    (case c34 => k_is)
    (case k34 => k_is)
    (case a35 => k_is)
    (case l35 => k_is)
    (case c35 => k_is)
    (case k35 => k_is)
    (case z0 => k_is)
    (case z1 => k_is)
    (case z2 => k_is)
    (case z3 => k_is)
    (case z4 => k_is)
    (case z5 => k_is)
    (case z6 => k_is)
    (case z7 => k_is)
    (case z8 => k_is)
    (case z9 => k_is)
    (case z10 => k_is)
    (case z11 => k_is)
    (case z12 => k_is)
    (case x12 => first | k_exc | k_is)
    (case kp12 => k_is)
    (case sb12 => k_is)
    (case ty12 => k_is)
    (case z13 => k_is)
    (case x13 => first | k_exc | k_is)
    (case kp13 => k_is)
    (case sb13 => k_is)
    (case ty13 => k_is)
    (case z14 => k_is)
    (case z15 => k_is)
    (case x15 => first | k_exc | k_is)
    (case kp15 => k_is)
    (case sb15 => k_is)
    (case ty15 => k_is)
    (case z16 => k_is)
    (case z17 => k_is)
    (case z18 => k_is)
    (case z19 => k_is)
    (case kf_NoHoard => (refine Tw.kindF_of ⟨?_, ?_, ?_, ?_, ?_, ?_, ?_, ?_⟩ ?_ ?_ ?_ ?_ ⟨?_, ?_⟩ ?_ ⟨?_, ?_⟩ ⟨?_, ?_⟩ ⟨?_, ?_⟩ ⟨?_, ?_⟩ ⟨?_, ?_⟩ ⟨?_, ?_⟩ ⟨?_, ?_⟩ ⟨?_, ?_⟩ ?_ ?_ ?_ ?_ ?_ ?_ ?_ ?_ <;> first | (show _ = some true; k_is) | (show _ = some false; k_is) | k_is))
    (case kf_NoMove => (refine Tw.kindF_of ⟨?_, ?_, ?_, ?_, ?_, ?_, ?_, ?_⟩ ?_ ?_ ?_ ?_ ⟨?_, ?_⟩ ?_ ⟨?_, ?_⟩ ⟨?_, ?_⟩ ⟨?_, ?_⟩ ⟨?_, ?_⟩ ⟨?_, ?_⟩ ⟨?_, ?_⟩ ⟨?_, ?_⟩ ⟨?_, ?_⟩ ?_ ?_ ?_ ?_ ?_ ?_ ?_ ?_ <;> first | (show _ = some true; k_is) | (show _ = some false; k_is) | k_is))
    (case kf_NoPlace => (refine Tw.kindF_of ⟨?_, ?_, ?_, ?_, ?_, ?_, ?_, ?_⟩ ?_ ?_ ?_ ?_ ⟨?_, ?_⟩ ?_ ⟨?_, ?_⟩ ⟨?_, ?_⟩ ⟨?_, ?_⟩ ⟨?_, ?_⟩ ⟨?_, ?_⟩ ⟨?_, ?_⟩ ⟨?_, ?_⟩ ⟨?_, ?_⟩ ?_ ?_ ?_ ?_ ?_ ?_ ?_ ?_ <;> first | (show _ = some true; k_is) | (show _ = some false; k_is) | k_is))

