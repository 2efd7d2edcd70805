import PyProof.Rows.All
import Wide.All
import OpenK.AllK
import Wide.FinOn
import PySem.Challenge.RW_tokenwall_k19_texts_refused
import HandS.ForExc
import HandS.Comp
import HandS.Walk
import HandS.Dict
import HandS.IsInst
import HandS.Wide
import HandS.TupAny
import HandS.TupMul
import HandS.TupLe
import HandS.Deep
import HandS.Zip
import HandS.Style
import HandS.Text
import KE.GoesEnum
import HandS.ExcIs
import HandS.ExcInit
import HandS.ExcField
import KE.KExcIs
import HandS.SetFor
import HandS.Strs
import KE.GoesRaise
import HandS.ExcOwn
set_option Elab.async false
set_option linter.all false
set_option maxRecDepth 100000
set_option maxHeartbeats 4000000
/-! Tw1: a layer of data over the hand layer. A def is walked over plain data (PyData): what a slot holds (Sl), what an expression
is worth (Ev), what a statement leads to (As); the heap is hidden behind two views: H as it stands, I the part that never changes. -/
namespace Tw
open PySem PySem.Spec PyProof.Rows L2

theorem same_new {H : Hp} {p : Addr} {o : HO} (h : H p = none) : Same H (upd H p o) := fun b x e => by
  rw [upd_ne (ne_of_none e h)]
  exact e
theorem same_t {K : PySem.W.Frag} {H H' : Hp} {a : Addr} {xs : List V} (e : Same H H') (h : SqT K H a xs) : SqT K H' a xs := by
  rcases h with (h | ⟨o, h⟩) | h
  · exact .inl (.inl (e _ _ h))
  · exact .inl (.inr ⟨o, e _ _ h⟩)
  · exact .inr h

/-- the world moves on: (H, I) to (H', I') -/
structure Nx (H I H' I' : Hp) : Prop where
  h : Same H H'
  i : Same I I'
  s : Same I' H'
  f : ∀ p o, H p = some o → I p = none → I' p = none
theorem Nx.refl {H I : Hp} (s : Same I H) : Nx H I H I := ⟨Same.refl _, Same.refl _, s, fun _ _ _ e => e⟩
theorem Nx.trans {H I H1 I1 H2 I2 : Hp} (a : Nx H I H1 I1) (b : Nx H1 I1 H2 I2) : Nx H I H2 I2 :=
  ⟨a.h.trans b.h, a.i.trans b.i, b.s, fun p o e n => b.f p o (a.h p o e) (a.f p o e n)⟩
/-- a new object, known at once -/
theorem Nx.new {H I : Hp} {p : Addr} {o : HO} (s : Same I H) (h : H p = none) : Nx H I (upd H p o) (upd I p o) := by
  have hi : I p = none := s.free h
  refine ⟨same_new h, same_new hi, fun b x e => ?_, fun q x e n => ?_⟩
  · by_cases hb : b = p
    · subst hb
      rw [upd_same] at e ⊢
      exact e
    · rw [upd_ne hb] at e ⊢
      exact s b x e
  · rw [upd_ne (ne_of_none e h)]
    exact n
/-- a new object, not told yet -/
theorem Nx.own {H I : Hp} {p : Addr} {o : HO} (s : Same I H) (h : H p = none) : Nx H I (upd H p o) I :=
  ⟨same_new h, Same.refl _, s.trans (same_new h), fun _ _ _ n => n⟩
/-- the base may be taken later -/
theorem Nx.rebase {G I0 H1 I1 H I : Hp} (a : Nx G I0 H1 I1) (b : Nx G I1 H I) : Nx G I0 H I :=
  ⟨b.h, a.i.trans b.i, b.s, fun p o e n => b.f p o e (a.f p o e n)⟩
theorem Nx.onto {G I0 H1 I1 H I : Hp} (a : Nx G I0 H1 I1) (b : Nx H1 I1 H I) : Nx G I1 H I :=
  ⟨a.h.trans b.h, b.i, b.s, fun p o e n => b.f p o (a.h p o e) n⟩
theorem Nx.here {G I0 H I : Hp} (a : Nx G I0 H I) : Nx G I H I := ⟨a.h, Same.refl _, a.s, fun _ _ _ n => n⟩

/-! ### data -/
mutual
inductive Rp (K : PySem.W.Frag) (I : Hp) : V → PyData → Prop
  | non : Rp K I .non .none
  | bl (b : Bool) : Rp K I (.bl b) (.bool b)
  | int (i : Int) : Rp K I (.int i) (.int i)
  | str (x : Str) : Rp K I (.str x) (.str x)
  | lst {a : Addr} {xs : List V} {ds : List PyData} : I a = some (.lst xs) → RpAll K I xs ds → Rp K I (.ref a) (.list ds)
  | tup {a : Addr} {xs : List V} {ds : List PyData} : I a = some (.tup xs) → RpAll K I xs ds → Rp K I (.ref a) (.tuple ds)
  /-- some dict -/
  | dct {a : Addr} {kvs : List (Key × V)} : I a = some (.dK kvs) → Rp K I (.ref a) (.dict [])
  /-- the script, told as a dict that no program makes -/
  | scr {a : Addr} {ns : List Int} : SqL K I a (ns.map V.int) → Rp K I (.ref a) (.dict [(.none, .list (ns.map .int))])
inductive RpAll (K : PySem.W.Frag) (I : Hp) : List V → List PyData → Prop
  | nil : RpAll K I [] []
  | cons {v : V} {vs : List V} {d : PyData} {ds : List PyData} : Rp K I v d → RpAll K I vs ds → RpAll K I (v :: vs) (d :: ds)
end
section
variable {K : PySem.W.Frag} {I I' : Hp}
mutual
theorem Rp.mono (e : Same I I') : ∀ {v : V} {d : PyData}, Rp K I v d → Rp K I' v d
  | _, _, .non => .non
  | _, _, .bl b => .bl b
  | _, _, .int i => .int i
  | _, _, .str x => .str x
  | _, _, .lst h r => .lst (e _ _ h) (RpAll.mono e r)
  | _, _, .tup h r => .tup (e _ _ h) (RpAll.mono e r)
  | _, _, .dct h => .dct (e _ _ h)
  | _, _, .scr h => .scr (e.seq h)
theorem RpAll.mono (e : Same I I') : ∀ {vs : List V} {ds : List PyData}, RpAll K I vs ds → RpAll K I' vs ds
  | _, _, .nil => .nil
  | _, _, .cons h r => .cons (Rp.mono e h) (RpAll.mono e r)
end
mutual
theorem Rp.dp : ∀ {v : V} {d : PyData}, Rp K I v d → d.canLay0 = true → Dp K I v d
  | _, _, .non, _ => .non
  | _, _, .bl b, _ => .bl b
  | _, _, .int i, _ => .int i
  | _, _, .str x, _ => .str x
  | _, _, .lst h r, c => .lst (.of h) (RpAll.dp r c)
  | _, _, .tup h r, c => .tup (.of h) (RpAll.dp r c)
  | _, _, .dct h, c => by cases c
  | _, _, .scr h, c => by cases c
theorem RpAll.dp : ∀ {vs : List V} {ds : List PyData}, RpAll K I vs ds → PyData.canLayAll0 ds = true → DpAll K I vs ds
  | _, _, .nil, _ => .nil
  | _, _, .cons h r, c => by
    have c' := Bool.and_eq_true_iff.mp (show (_ && _) = true from c)
    exact .cons (Rp.dp h c'.1) (RpAll.dp r c'.2)
end
theorem RpAll.length : ∀ {vs : List V} {ds : List PyData}, RpAll K I vs ds → vs.length = ds.length
  | _, _, .nil => rfl
  | _, _, .cons _ r => by rw [List.length_cons, List.length_cons, RpAll.length r]
theorem RpAll.get : ∀ {vs : List V} {ds : List PyData} {i : Nat} {d : PyData}, RpAll K I vs ds → ds[i]? = some d → ∃ v, vs[i]? = some v ∧ Rp K I v d
  | _, _, _, _, .nil, e => by simp at e
  | _, _, 0, _, .cons h _, e => by simp at e; subst e; exact ⟨_, rfl, h⟩
  | _, _, i + 1, d, .cons _ r, e => by
    obtain ⟨v, h1, h2⟩ := RpAll.get (i := i) (d := d) r (by simpa using e)
    exact ⟨v, by simpa using h1, h2⟩
theorem RpAll.app : ∀ {vs ws : List V} {ds es : List PyData}, RpAll K I vs ds → RpAll K I ws es → RpAll K I (vs ++ ws) (ds ++ es)
  | _, _, _, _, .nil, q => q
  | _, _, _, _, .cons h r, q => .cons h (RpAll.app r q)
theorem RpAll.set {v : V} {d : PyData} (h : Rp K I v d) : ∀ {vs : List V} {ds : List PyData} (i : Nat), RpAll K I vs ds → RpAll K I (vs.set i v) (ds.set i d)
  | _, _, _, .nil => .nil
  | _, _, 0, .cons _ r => .cons h r
  | _, _, i + 1, .cons q r => .cons q (RpAll.set h i r)
theorem RpAll.take : ∀ {vs : List V} {ds : List PyData} (n : Nat), RpAll K I vs ds → RpAll K I (vs.take n) (ds.take n)
  | _, _, 0, _ => .nil
  | _, _, _ + 1, .nil => .nil
  | _, _, n + 1, .cons h r => .cons h (RpAll.take n r)
theorem RpAll.drop : ∀ {vs : List V} {ds : List PyData} (n : Nat), RpAll K I vs ds → RpAll K I (vs.drop n) (ds.drop n)
  | _, _, 0, r => r
  | _, _, _ + 1, .nil => .nil
  | _, _, n + 1, .cons _ r => RpAll.drop n r
theorem RpAll.rev : ∀ {vs : List V} {ds : List PyData}, RpAll K I vs ds → RpAll K I vs.reverse ds.reverse
  | _, _, .nil => .nil
  | _, _, .cons h r => by
    rw [List.reverse_cons, List.reverse_cons]
    exact (RpAll.rev r).app (.cons h .nil)
/-- no list (and no dict) within -/
def solid : PyData → Bool
  | .list _ => false
  | .dict _ => false
  | .tuple ds => solidAll ds
  | _ => true
where solidAll : List PyData → Bool
  | [] => true
  | d :: ds => solid d && solidAll ds
/-- what holds no list doesn't lean on a list -/
theorem tup_off {p : Addr} {vs : List V} (hp : I p = some (.lst vs)) {a : Addr} {xs : List V} (h : I a = some (.tup xs)) : (fun b => if b = p then none else I b) a = some (HO.tup xs) := by
  show (if a = p then none else I a) = _
  rw [if_neg (fun z => by rw [z, hp] at h; cases h)]
  exact h
mutual
theorem Rp.off {p : Addr} {vs : List V} (hp : I p = some (.lst vs)) : ∀ {v : V} {d : PyData}, Rp K I v d → solid d = true → Rp K (fun b => if b = p then none else I b) v d
  | _, _, .non, _ => .non
  | _, _, .bl b, _ => .bl b
  | _, _, .int i, _ => .int i
  | _, _, .str x, _ => .str x
  | _, _, .lst h r, c => by cases c
  | _, _, .tup h r, c => .tup (tup_off hp h) (RpAll.off hp r c)
  | _, _, .dct h, c => by cases c
  | _, _, .scr h, c => by cases c
theorem RpAll.off {p : Addr} {vs : List V} (hp : I p = some (.lst vs)) : ∀ {ws : List V} {ds : List PyData}, RpAll K I ws ds → solid.solidAll ds = true → RpAll K (fun b => if b = p then none else I b) ws ds
  | _, _, .nil, _ => .nil
  | _, _, .cons h r, c => by
    have c' := Bool.and_eq_true_iff.mp (show (_ && _) = true from c)
    exact .cons (Rp.off hp h c'.1) (RpAll.off hp r c'.2)
end
end

/-! ### slots -/
inductive Sl where
  /-- nothing is known -/
  | no
  /-- data that no one changes -/
  | d (x : PyData)
  /-- a list of the def's own, that it may change -/
  | own (xs : List PyData)
structure RelS (K : PySem.W.Frag) (G H I : Hp) (σ : L2.St) (δ : List Sl) : Prop where
  len : σ.length = δ.length
  d : ∀ (i : Nat) (x : PyData), δ[i]? = some (Sl.d x) → ∃ v : V, σ[i]? = some (some v) ∧ Rp K I v x
  own : ∀ (i : Nat) (xs : List PyData), δ[i]? = some (Sl.own xs) → ∃ (p : Addr) (vs : List V), σ[i]? = some (some (V.ref p)) ∧ G p = none ∧ I p = none ∧ H p = some (.lst vs) ∧ RpAll K I vs xs
  sep : ∀ (i j : Nat) (xs ys : List PyData) (p : Addr), i ≠ j → δ[i]? = some (Sl.own xs) → δ[j]? = some (Sl.own ys) → σ[i]? = some (some (V.ref p)) → σ[j]? = some (some (V.ref p)) → False
section
variable {K : PySem.W.Frag} {G H I H' I' : Hp} {σ : L2.St} {δ : List Sl}
theorem RelS.next (r : RelS K G H I σ δ) (n : Nx H I H' I') : RelS K G H' I' σ δ where
  len := r.len
  d := fun i x e => by
    obtain ⟨v, h1, h2⟩ := r.d i x e
    exact ⟨v, h1, h2.mono n.i⟩
  own := fun i xs e => by
    obtain ⟨p, vs, h1, h2, h3, h4, h5⟩ := r.own i xs e
    exact ⟨p, vs, h1, h2, n.f p _ h4 h3, n.h p _ h4, h5.mono n.i⟩
  sep := r.sep
theorem set_get {α : Type} {l : List α} {i j : Nat} {x y : α} (e : (l.set i x)[j]? = some y) : (j = i ∧ i < l.length ∧ y = x) ∨ (j ≠ i ∧ l[j]? = some y) := by
  by_cases h : j = i
  · subst h
    by_cases hl : j < l.length
    · rw [List.getElem?_set_self hl] at e
      exact .inl ⟨rfl, hl, (Option.some.inj e).symm⟩
    · rw [List.getElem?_eq_none_iff.mpr (by rw [List.length_set]; omega)] at e
      cases e
  · rw [List.getElem?_set_ne (Ne.symm h)] at e
    exact .inr ⟨h, e⟩
/-- a slot takes a value -/
theorem RelS.put (r : RelS K G H I σ δ) {i : Nat} {v : V} {x : PyData} (h : Rp K I v x) : RelS K G H I (σ.set i (some v)) (δ.set i (.d x)) where
  len := by rw [List.length_set, List.length_set, r.len]
  d := fun j y e => by
    rcases set_get e with ⟨rfl, hl, e'⟩ | ⟨hn, e'⟩
    · cases e'
      exact ⟨v, by rw [List.getElem?_set_self (by rw [r.len]; exact hl)], h⟩
    · obtain ⟨u, h1, h2⟩ := r.d j y e'
      exact ⟨u, by rw [List.getElem?_set_ne (Ne.symm hn)]; exact h1, h2⟩
  own := fun j xs e => by
    rcases set_get e with ⟨rfl, hl, e'⟩ | ⟨hn, e'⟩
    · cases e'
    · obtain ⟨p, vs, h1, h2⟩ := r.own j xs e'
      exact ⟨p, vs, by rw [List.getElem?_set_ne (Ne.symm hn)]; exact h1, h2⟩
  sep := fun j k xs ys p hn e1 e2 f1 f2 => by
    rcases set_get e1 with ⟨rfl, hl, e'⟩ | ⟨n1, e1'⟩
    · cases e'
    · rcases set_get e2 with ⟨rfl, hl, e'⟩ | ⟨n2, e2'⟩
      · cases e'
      · rw [List.getElem?_set_ne (Ne.symm n1)] at f1
        rw [List.getElem?_set_ne (Ne.symm n2)] at f2
        exact r.sep j k xs ys p hn e1' e2' f1 f2
theorem RelS.none (r : RelS K G H I σ δ) {i : Nat} {o : Option V} : RelS K G H I (σ.set i o) (δ.set i .no) where
  len := by rw [List.length_set, List.length_set, r.len]
  d := fun j y e => by
    rcases set_get e with ⟨rfl, hl, e'⟩ | ⟨hn, e'⟩
    · cases e'
    · obtain ⟨u, h1, h2⟩ := r.d j y e'
      exact ⟨u, by rw [List.getElem?_set_ne (Ne.symm hn)]; exact h1, h2⟩
  own := fun j xs e => by
    rcases set_get e with ⟨rfl, hl, e'⟩ | ⟨hn, e'⟩
    · cases e'
    · obtain ⟨p, vs, h1, h2⟩ := r.own j xs e'
      exact ⟨p, vs, by rw [List.getElem?_set_ne (Ne.symm hn)]; exact h1, h2⟩
  sep := fun j k xs ys p hn e1 e2 f1 f2 => by
    rcases set_get e1 with ⟨rfl, hl, e'⟩ | ⟨n1, e1'⟩
    · cases e'
    · rcases set_get e2 with ⟨rfl, hl, e'⟩ | ⟨n2, e2'⟩
      · cases e'
      · rw [List.getElem?_set_ne (Ne.symm n1)] at f1
        rw [List.getElem?_set_ne (Ne.symm n2)] at f2
        exact r.sep j k xs ys p hn e1' e2' f1 f2
/-- a slot takes a new list of its own -/
theorem RelS.make (r : RelS K G H I σ δ) {i : Nat} {p : Addr} {vs : List V} {xs : List PyData} (s : Same I H) (g : Same G H) (h : H p = Option.none) (q : RpAll K I vs xs) :
    RelS K G (upd H p (.lst vs)) I (σ.set i (some (.ref p))) (δ.set i (.own xs)) where
  len := by rw [List.length_set, List.length_set, r.len]
  d := fun j y e => by
    rcases set_get e with ⟨rfl, hl, e'⟩ | ⟨hn, e'⟩
    · cases e'
    · obtain ⟨u, h1, h2⟩ := r.d j y e'
      exact ⟨u, by rw [List.getElem?_set_ne (Ne.symm hn)]; exact h1, h2⟩
  own := fun j ys e => by
    rcases set_get e with ⟨rfl, hl, e'⟩ | ⟨hn, e'⟩
    · cases e'
      exact ⟨p, vs, by rw [List.getElem?_set_self (by rw [r.len]; exact hl)], g.free h, s.free h, upd_same, q⟩
    · obtain ⟨p', vs', h1, h2, h3, h4, h5⟩ := r.own j ys e'
      exact ⟨p', vs', by rw [List.getElem?_set_ne (Ne.symm hn)]; exact h1, h2, h3, by rw [upd_ne (ne_of_none h4 h)]; exact h4, h5⟩
  sep := fun j k ys zs a hn e1 e2 f1 f2 => by
    rcases set_get e1 with ⟨rfl, hl, e'⟩ | ⟨n1, e1'⟩
    · rcases set_get e2 with ⟨rfl, hl2, e''⟩ | ⟨n2, e2'⟩
      · exact hn rfl
      · obtain ⟨p', vs', h1, h2, h3, h4, h5⟩ := r.own k zs e2'
        rw [List.getElem?_set_self (by rw [r.len]; exact hl)] at f1
        rw [List.getElem?_set_ne (Ne.symm n2), h1] at f2
        cases f1
        cases f2
        rw [h] at h4
        cases h4
    · rcases set_get e2 with ⟨rfl, hl2, e''⟩ | ⟨n2, e2'⟩
      · obtain ⟨p', vs', h1, h2, h3, h4, h5⟩ := r.own j ys e1'
        rw [List.getElem?_set_self (by rw [r.len]; exact hl2)] at f2
        rw [List.getElem?_set_ne (Ne.symm n1), h1] at f1
        cases f1
        cases f2
        rw [h] at h4
        cases h4
      · rw [List.getElem?_set_ne (Ne.symm n1)] at f1
        rw [List.getElem?_set_ne (Ne.symm n2)] at f2
        exact r.sep j k ys zs a hn e1' e2' f1 f2
/-- its own list is changed -/
theorem RelS.write (r : RelS K G H I σ δ) {i : Nat} {p : Addr} {vs : List V} {xs ys : List PyData} (e : δ[i]? = some (.own xs)) (f : σ[i]? = some (some (.ref p))) (q : RpAll K I vs ys) :
    RelS K G (upd H p (.lst vs)) I σ (δ.set i (.own ys)) where
  len := by rw [List.length_set, r.len]
  d := fun j y e1 => by
    rcases set_get e1 with ⟨rfl, hl, e'⟩ | ⟨hn, e'⟩
    · cases e'
    · exact r.d j y e'
  own := fun j zs e1 => by
    rcases set_get e1 with ⟨rfl, hl, e'⟩ | ⟨hn, e'⟩
    · cases e'
      obtain ⟨p', vs', h1, h2, h3, h4, h5⟩ := r.own j xs e
      rw [f] at h1
      cases h1
      exact ⟨p, vs, f, h2, h3, upd_same, q⟩
    · obtain ⟨p', vs', h1, h2, h3, h4, h5⟩ := r.own j zs e'
      refine ⟨p', vs', h1, h2, h3, ?_, h5⟩
      rw [upd_ne (show p' ≠ p from fun z => r.sep i j xs zs p (Ne.symm hn) e e' f (by rw [← z]; exact h1))]
      exact h4
  sep := fun j k as bs a hn e1 e2 f1 f2 => by
    rcases set_get e1 with ⟨rfl, hl, e'⟩ | ⟨n1, e1'⟩
    · rcases set_get e2 with ⟨rfl, hl2, e''⟩ | ⟨n2, e2'⟩
      · exact hn rfl
      · exact r.sep j k xs bs a hn e e2' f1 f2
    · rcases set_get e2 with ⟨rfl, hl2, e''⟩ | ⟨n2, e2'⟩
      · exact r.sep j k as xs a hn e1' e f1 f2
      · exact r.sep j k as bs a hn e1' e2' f1 f2
/-- its own list is told: no one changes it any more -/
theorem RelS.freeze (r : RelS K G H I σ δ) {i : Nat} {p : Addr} {vs : List V} {xs : List PyData} (s : Same I H) (e : δ[i]? = some (.own xs)) (f : σ[i]? = some (some (.ref p))) (h : H p = some (.lst vs)) (n : I p = Option.none) (q : RpAll K I vs xs) :
    RelS K G H (upd I p (.lst vs)) σ (δ.set i (.d (.list xs))) where
  len := by rw [List.length_set, r.len]
  d := fun j y e1 => by
    rcases set_get e1 with ⟨rfl, hl, e'⟩ | ⟨hn, e'⟩
    · cases e'
      exact ⟨_, f, .lst upd_same (q.mono (same_new n))⟩
    · obtain ⟨u, h1, h2⟩ := r.d j y e'
      exact ⟨u, h1, h2.mono (same_new n)⟩
  own := fun j zs e1 => by
    rcases set_get e1 with ⟨rfl, hl, e'⟩ | ⟨hn, e'⟩
    · cases e'
    · obtain ⟨p', vs', h1, h2, h3, h4, h5⟩ := r.own j zs e'
      refine ⟨p', vs', h1, h2, ?_, h4, h5.mono (same_new n)⟩
      rw [upd_ne (show p' ≠ p from fun z => r.sep i j xs zs p (Ne.symm hn) e e' f (by rw [← z]; exact h1))]
      exact h3
  sep := fun j k as bs a hn e1 e2 f1 f2 => by
    rcases set_get e1 with ⟨rfl, hl, e'⟩ | ⟨n1, e1'⟩
    · cases e'
    · rcases set_get e2 with ⟨rfl, hl2, e''⟩ | ⟨n2, e2'⟩
      · cases e''
      · exact r.sep j k as bs a hn e1' e2' f1 f2
end

/-! ### expressions -/
section
variable (K : PySem.W.Frag)
def Ev (te : TE) (δ : List Sl) (x : PyData) : Prop := ∀ G σ H I, Same I H → Same G H → RelS K G H I σ δ → ∀ Q : VK, (∀ v H' I', Nx H I H' I' → Rp K I' v x → Q v H') → te σ H Q
/-- a new list -/
def EvN (te : TE) (δ : List Sl) (xs : List PyData) : Prop := ∀ G σ H I, Same I H → Same G H → RelS K G H I σ δ →
  ∀ Q : VK, (∀ p H1 I' vs, Nx H I H1 I' → H1 p = none → RpAll K I' vs xs → Q (.ref p) (upd H1 p (.lst vs))) → te σ H Q
def EvT (tt : TT) (δ : List Sl) (b : Bool) : Prop := ∀ G σ H I, Same I H → Same G H → RelS K G H I σ δ → ∀ Q : Bool → Hp → Prop, (∀ H' I', Nx H I H' I' → Q b H') → tt σ H Q
def EvA (ta : TA) (δ : List Sl) (xs : List PyData) : Prop := ∀ G σ H I, Same I H → Same G H → RelS K G H I σ δ → ∀ Q : List V → Hp → Prop, (∀ vs H' I', Nx H I H' I' → RpAll K I' vs xs → Q vs H') → ta σ H Q
def EvO (to : TO) (δ : List Sl) (o : Option Int) : Prop := ∀ G σ H I, Same I H → Same G H → RelS K G H I σ δ → ∀ Q : Option Int → Hp → Prop, (∀ H' I', Nx H I H' I' → Q o H') → to σ H Q
/-- it raises an error of the class at c -/
def EvX (E : XK) (te : TE) (δ : List Sl) (c : Value) : Prop := ∀ G σ H I, Same I H → Same G H → RelS K G H I σ δ → (∀ H', Same H H' → E c none H') → ∀ Q : VK, te σ H Q
def EvTX (E : XK) (te : TT) (δ : List Sl) (c : Value) : Prop := ∀ G σ H I, Same I H → Same G H → RelS K G H I σ δ → (∀ H', Same H H' → E c none H') → ∀ Q : Bool → Hp → Prop, te σ H Q
def EvAX (E : XK) (te : TA) (δ : List Sl) (c : Value) : Prop := ∀ G σ H I, Same I H → Same G H → RelS K G H I σ δ → (∀ H', Same H H' → E c none H') → ∀ Q : List V → Hp → Prop, te σ H Q
/-- operators by data: two operands, one, a call's arguments -/
def R2D (r : R2) (x y z : PyData) : Prop := ∀ H I v u, Same I H → Rp K I v x → Rp K I u y → ∀ Q : VK, (∀ w H' I', Nx H I H' I' → Rp K I' w z → Q w H') → r v u H Q
def RAD (r : List V → Hp → VK → Prop) (xs : List PyData) (z : PyData) : Prop := ∀ H I vs, Same I H → RpAll K I vs xs → ∀ Q : VK, (∀ w H' I', Nx H I H' I' → Rp K I' w z → Q w H') → r vs H Q
def RAN (r : List V → Hp → VK → Prop) (xs : List PyData) (zs : List PyData) : Prop := ∀ H I vs, Same I H → RpAll K I vs xs → ∀ Q : VK, (∀ p H1 I' ws, Nx H I H1 I' → H1 p = none → RpAll K I' ws zs → Q (.ref p) (upd H1 p (.lst ws))) → r vs H Q
end
section
variable {K : PySem.W.Frag} {δ : List Sl} {ta tb te : TE} {t u : TT} {x y z : PyData} {xs ys : List PyData}
theorem Nx.g {G H I H' I' : Hp} (n : Nx H I H' I') (g : Same G H) : Same G H' := g.trans n.h
/-- a new list becomes data -/
theorem EvN.ev (h : EvN K te δ xs) : Ev K te δ (.list xs) := fun G σ H I s g r Q q => h G σ H I s g r Q fun p H1 I' vs n hp rr =>
  q (.ref p) _ (upd I' p (.lst vs)) (n.trans (Nx.new n.s hp)) (.lst upd_same (rr.mono (same_new (n.s.free hp))))
theorem ev_var {i : Nat} (h : δ[i]? = some (.d x)) : Ev K (tVar i) δ x := fun G σ H I s g r Q q => by
  obtain ⟨v, h1, h2⟩ := r.d i x h
  exact ⟨v, h1, q v H I (Nx.refl s) h2⟩
theorem ev_int {i : Int} : Ev K (tC (.int i)) δ (.int i) := fun G σ H I s g r Q q => q _ H I (Nx.refl s) (.int i)
theorem ev_bl {b : Bool} : Ev K (tC (.bl b)) δ (.bool b) := fun G σ H I s g r Q q => q _ H I (Nx.refl s) (.bl b)
theorem ev_non : Ev K (tC .non) δ .none := fun G σ H I s g r Q q => q _ H I (Nx.refl s) .non
theorem ev_str {b : Str} : Ev K (tC (.str b)) δ (.str b) := fun G σ H I s g r Q q => q _ H I (Nx.refl s) (.str b)
theorem ev_op {r : R2} (ha : Ev K ta δ x) (hb : Ev K tb δ y) (hr : R2D K r x y z) : Ev K (tOp r ta tb) δ z := fun G σ H I s g rl Q q =>
  ha G σ H I s g rl _ fun v H1 I1 n1 r1 => hb G σ H1 I1 n1.s (n1.g g) (rl.next n1) _ fun u H2 I2 n2 r2 => hr H2 I2 v u n2.s (r1.mono n2.i) r2 Q fun w H3 I3 n3 r3 => q w H3 I3 ((n1.trans n2).trans n3) r3
theorem ev_cb {r : List V → Hp → VK → Prop} {t : TA} (ha : EvA K t δ xs) (hr : RAD K r xs z) : Ev K (tCB r t) δ z := fun G σ H I s g rl Q q =>
  ha G σ H I s g rl _ fun vs H1 I1 n1 r1 => hr H1 I1 vs n1.s r1 Q fun w H3 I3 n3 r3 => q w H3 I3 (n1.trans n3) r3
theorem en_cb {r : List V → Hp → VK → Prop} {t : TA} {zs : List PyData} (ha : EvA K t δ xs) (hr : RAN K r xs zs) : EvN K (tCB r t) δ zs := fun G σ H I s g rl Q q =>
  ha G σ H I s g rl _ fun vs H1 I1 n1 r1 => hr H1 I1 vs n1.s r1 Q fun p H3 I3 ws n3 hp r3 => q p H3 I3 ws (n1.trans n3) hp r3
theorem ea_nil : EvA K tNil δ [] := fun G σ H I s g r Q q => q [] H I (Nx.refl s) .nil
theorem ea_cons {t : TA} (ha : Ev K ta δ x) (hr : EvA K t δ xs) : EvA K (tCons ta t) δ (x :: xs) := fun G σ H I s g rl Q q =>
  ha G σ H I s g rl _ fun v H1 I1 n1 r1 => hr G σ H1 I1 n1.s (n1.g g) (rl.next n1) _ fun vs H2 I2 n2 r2 => q (v :: vs) H2 I2 (n1.trans n2) (.cons (r1.mono n2.i) r2)
theorem small_line {n : Nat} (h : n ≤ 100000) : n ≤ sizeLine := Nat.le_trans h (by decide)
theorem ev_tup {t : TA} (ha : EvA K t δ xs) (hz : xs.length ≤ sizeLine) : Ev K (tTup t) δ (.tuple xs) := fun G σ H I s g rl Q q =>
  ha G σ H I s g rl _ fun vs H1 I1 n1 r1 => ⟨by rw [r1.length]; exact hz, fun p hp => q (.ref p) _ (upd I1 p (.tup vs)) (n1.trans (Nx.new n1.s hp)) (.tup upd_same (r1.mono (same_new (n1.s.free hp))))⟩
theorem en_lst {t : TA} (ha : EvA K t δ xs) (hz : xs.length ≤ sizeLine) : EvN K (tLst t) δ xs := fun G σ H I s g rl Q q =>
  ha G σ H I s g rl _ fun vs H1 I1 n1 r1 => ⟨by rw [r1.length]; exact hz, fun p hp => q p H1 I1 vs n1 hp r1⟩
theorem et_test {b : Bool} (h : Ev K te δ (.bool b)) : EvT K (tTest te) δ b := fun G σ H I s g rl Q q =>
  h G σ H I s g rl _ fun v H1 I1 n1 r1 => by cases r1; exact ⟨b, rfl, q H1 I1 n1⟩
theorem et_B {b : Bool} (h : Ev K te δ (.bool b)) : EvT K (tB te) δ b := fun G σ H I s g rl Q q =>
  h G σ H I s g rl _ fun v H1 I1 n1 r1 => by cases r1; exact ⟨b, rfl, q H1 I1 n1⟩
theorem et_and {a b : Bool} (h1 : EvT K t δ a) (h2 : a = true → EvT K u δ b) : EvT K (tAnd t u) δ (a && b) := fun G σ H I s g rl Q q =>
  h1 G σ H I s g rl _ fun H1 I1 n1 => by
    cases a with
    | true =>
      show u σ H1 Q
      exact h2 rfl G σ H1 I1 n1.s (n1.g g) (rl.next n1) Q fun H2 I2 n2 => q H2 I2 (n1.trans n2)
    | false =>
      show Q false H1
      exact q H1 I1 n1
theorem et_or {a b : Bool} (h1 : EvT K t δ a) (h2 : a = false → EvT K u δ b) : EvT K (tOr t u) δ (a || b) := fun G σ H I s g rl Q q =>
  h1 G σ H I s g rl _ fun H1 I1 n1 => by
    cases a with
    | true =>
      show Q true H1
      exact q H1 I1 n1
    | false =>
      show u σ H1 Q
      exact h2 rfl G σ H1 I1 n1.s (n1.g g) (rl.next n1) Q fun H2 I2 n2 => q H2 I2 (n1.trans n2)
theorem et_not {a : Bool} (h1 : EvT K t δ a) : EvT K (tNot t) δ (!a) := fun G σ H I s g rl Q q => h1 G σ H I s g rl _ fun H1 I1 n1 => q H1 I1 n1
theorem ev_andV {a b : Bool} (h1 : Ev K ta δ (.bool a)) (h2 : a = true → Ev K tb δ (.bool b)) : Ev K (tAndV ta tb) δ (.bool (a && b)) := fun G σ H I s g rl Q q =>
  h1 G σ H I s g rl _ fun v H1 I1 n1 r1 => by
    cases r1
    refine ⟨a, rfl, ?_⟩
    cases a with
    | true =>
      show tb σ H1 Q
      exact h2 rfl G σ H1 I1 n1.s (n1.g g) (rl.next n1) Q fun w H2 I2 n2 r2 => q w H2 I2 (n1.trans n2) r2
    | false =>
      show Q (.bl false) H1
      exact q _ H1 I1 n1 (.bl false)
theorem ev_orV {a b : Bool} (h1 : Ev K ta δ (.bool a)) (h2 : a = false → Ev K tb δ (.bool b)) : Ev K (tOrV ta tb) δ (.bool (a || b)) := fun G σ H I s g rl Q q =>
  h1 G σ H I s g rl _ fun v H1 I1 n1 r1 => by
    cases r1
    refine ⟨a, rfl, ?_⟩
    cases a with
    | true =>
      show Q (.bl true) H1
      exact q _ H1 I1 n1 (.bl true)
    | false =>
      show tb σ H1 Q
      exact h2 rfl G σ H1 I1 n1.s (n1.g g) (rl.next n1) Q fun w H2 I2 n2 r2 => q w H2 I2 (n1.trans n2) r2
theorem ev_notV {a : Bool} (h1 : Ev K ta δ (.bool a)) : Ev K (tNotV ta) δ (.bool (!a)) := fun G σ H I s g rl Q q =>
  h1 G σ H I s g rl _ fun v H1 I1 n1 r1 => by cases r1; exact ⟨a, rfl, q _ H1 I1 n1 (.bl _)⟩
theorem ev_to (h : Ev K te δ x) (e : x = y) : Ev K te δ y := e ▸ h
theorem et_to {a b : Bool} (h : EvT K t δ a) (e : a = b) : EvT K t δ b := e ▸ h
theorem en_to (h : EvN K te δ xs) (e : xs = ys) : EvN K te δ ys := e ▸ h
theorem ev_if {b : Bool} (h : EvT K t δ b) (h1 : b = true → Ev K ta δ x) (h2 : b = false → Ev K tb δ x) : Ev K (tIf t ta tb) δ x := fun G σ H I s g rl Q q =>
  h G σ H I s g rl _ fun H1 I1 n1 => by
    cases b with
    | true =>
      show ta σ H1 Q
      exact h1 rfl G σ H1 I1 n1.s (n1.g g) (rl.next n1) Q fun w H2 I2 n2 r2 => q w H2 I2 (n1.trans n2) r2
    | false =>
      show tb σ H1 Q
      exact h2 rfl G σ H1 I1 n1.s (n1.g g) (rl.next n1) Q fun w H2 I2 n2 r2 => q w H2 I2 (n1.trans n2) r2
/-- a list of its own is read for something that holds no list: it is its own behind it -/
theorem ev_borrow {i : Nat} (e : δ[i]? = some (.own xs)) (h : Ev K te (δ.set i (.d (.list xs))) x) (hs : solid x = true) : Ev K te δ x := fun G σ H I s g r Q q => by
  obtain ⟨p, vs, h1, h2, h3, h4, h5⟩ := r.own i xs e
  have s2 : Same (upd I p (.lst vs)) H := fun b o eb => by
    by_cases hb : b = p
    · subst hb
      rw [upd_same] at eb
      cases eb
      exact h4
    · rw [upd_ne hb] at eb
      exact s b o eb
  refine h G σ H (upd I p (.lst vs)) s2 g (r.freeze s e h1 h4 h3 h5) Q fun v H' I' n rv => ?_
  have hp : I' p = some (.lst vs) := n.i p _ upd_same
  refine q v H' (fun b => if b = p then none else I' b) ⟨n.h, fun b o eb => ?_, fun b o eb => ?_, fun b o eb nb => ?_⟩ (rv.off hp hs)
  · have hb : b ≠ p := ne_of_none eb h3
    show (if b = p then none else I' b) = _
    rw [if_neg hb]
    exact n.i b o (by rw [upd_ne hb]; exact eb)
  · by_cases hb : b = p
    · have z : (if b = p then none else I' b) = some o := eb
      rw [if_pos hb] at z
      cases z
    · have z : (if b = p then none else I' b) = some o := eb
      rw [if_neg hb] at z
      exact n.s b o z
  · show (if b = p then none else I' b) = none
    by_cases hb : b = p
    · rw [if_pos hb]
    · rw [if_neg hb]
      exact n.f b o eb (by rw [upd_ne hb]; exact nb)
theorem et_borrow {i : Nat} {b : Bool} (e : δ[i]? = some (.own xs)) (h : EvT K t (δ.set i (.d (.list xs))) b) : EvT K t δ b := fun G σ H I s g r Q q => by
  obtain ⟨p, vs, h1, h2, h3, h4, h5⟩ := r.own i xs e
  have s2 : Same (upd I p (.lst vs)) H := fun b o eb => by
    by_cases hb : b = p
    · subst hb
      rw [upd_same] at eb
      cases eb
      exact h4
    · rw [upd_ne hb] at eb
      exact s b o eb
  refine h G σ H (upd I p (.lst vs)) s2 g (r.freeze s e h1 h4 h3 h5) Q fun H' I' n => ?_
  refine q H' (fun b => if b = p then none else I' b) ⟨n.h, fun b o eb => ?_, fun b o eb => ?_, fun b o eb nb => ?_⟩
  · have hb : b ≠ p := ne_of_none eb h3
    show (if b = p then none else I' b) = _
    rw [if_neg hb]
    exact n.i b o (by rw [upd_ne hb]; exact eb)
  · by_cases hb : b = p
    · have z : (if b = p then none else I' b) = some o := eb
      rw [if_pos hb] at z
      cases z
    · have z : (if b = p then none else I' b) = some o := eb
      rw [if_neg hb] at z
      exact n.s b o z
  · show (if b = p then none else I' b) = none
    by_cases hb : b = p
    · rw [if_pos hb]
    · rw [if_neg hb]
      exact n.f b o eb (by rw [upd_ne hb]; exact nb)
/-- slots that are not looked at may be forgotten -/
theorem ev_forget {i : Nat} (h : Ev K te (δ.set i .no) x) : Ev K te δ x := fun G σ H I s g r Q q => by
  have hr := r.none (i := i) (o := (σ[i]?).getD none)
  have e : σ.set i ((σ[i]?).getD none) = σ := by
    apply List.ext_getElem?
    intro j
    by_cases hj : j = i
    · subst hj
      by_cases hl : j < σ.length
      · rw [List.getElem?_set_self hl, List.getElem?_eq_getElem hl]
        rfl
      · rw [List.getElem?_eq_none_iff.mpr (by rw [List.length_set]; omega), List.getElem?_eq_none_iff.mpr (by omega)]
    · rw [List.getElem?_set_ne (Ne.symm hj)]
  rw [e] at hr
  exact h G σ H I s g hr Q q
end

/-! ### statements -/
inductive Out where
  | nx (δ : List Sl)
  | bk (δ : List Sl)
  | ct (δ : List Sl)
  | rt (x : PyData)
  /-- an error of the class at c, without a dict that is known; with its dict's fields -/
  | ex (c : Value)
  | exd (c : Value) (fs : List (Str × V))
structure Cov (K : PySem.W.Frag) (E : XK) (G I0 : Hp) (D : Ends) (P : Out → Prop) : Prop where
  nx : ∀ δ' σ' H' I', P (.nx δ') → Nx G I0 H' I' → RelS K G H' I' σ' δ' → D.nx σ' H'
  bk : ∀ δ' σ' H' I', P (.bk δ') → Nx G I0 H' I' → RelS K G H' I' σ' δ' → D.bk σ' H'
  ct : ∀ δ' σ' H' I', P (.ct δ') → Nx G I0 H' I' → RelS K G H' I' σ' δ' → D.ct σ' H'
  rt : ∀ x v H' I', P (.rt x) → Nx G I0 H' I' → Rp K I' v x → D.rt v H'
  ex : ∀ c H', P (.ex c) → Same G H' → E c none H'
  exd : ∀ c fs d H', P (.exd c fs) → Same G H' → H' d = some (.xd fs) → E c (some d) H'
def As (K : PySem.W.Frag) (E : XK) (t : TS) (δ : List Sl) (P : Out → Prop) : Prop := ∀ G I0 σ H I D, Nx G I0 H I → RelS K G H I σ δ → Cov K E G I0 D P → t D σ H
section
variable {K : PySem.W.Frag} {E : XK} {δ : List Sl} {ta tb te : TE} {tt : TT} {t u : TS} {x y z : PyData} {xs ys : List PyData} {P P' : Out → Prop}
/-- behind t comes u -/
def thenP (K : PySem.W.Frag) (E : XK) (u : TS) (P : Out → Prop) : Out → Prop
  | .nx δ' => As K E u δ' P
  | .bk δ' => P (.bk δ')
  | .ct δ' => P (.ct δ')
  | .rt x => P (.rt x)
  | .ex c => P (.ex c)
  | .exd c fs => P (.exd c fs)
theorem Cov.mono {G I0 : Hp} {D : Ends} (c : Cov K E G I0 D P) (h : ∀ o, P' o → P o) : Cov K E G I0 D P' :=
  ⟨fun a b d e p => c.nx a b d e (h _ p), fun a b d e p => c.bk a b d e (h _ p), fun a b d e p => c.ct a b d e (h _ p), fun a b d e p => c.rt a b d e (h _ p), fun a b p => c.ex a b (h _ p), fun a b d e p => c.exd a b d e (h _ p)⟩
theorem As.mono (a : As K E t δ P') (h : ∀ o, P' o → P o) : As K E t δ P := fun G I0 σ H I D n r c => a G I0 σ H I D n r (c.mono h)
theorem as_seq (h : As K E t δ (thenP K E u P)) : As K E (tSeq t u) δ P := fun G I0 σ H I D n r c =>
  h G I0 σ H I { D with nx := u D } n r
    ⟨fun δ' σ' H' I' p n' r' => p G I0 σ' H' I' D n' r' c, c.bk, c.ct, c.rt, c.ex, c.exd⟩
theorem as_next (h : P (.nx δ)) : As K E tNext δ P := fun G I0 σ H I D n r c => c.nx δ σ H I h n r
theorem as_brk (h : P (.bk δ)) : As K E tBreak δ P := fun G I0 σ H I D n r c => c.bk δ σ H I h n r
theorem as_cont (h : P (.ct δ)) : As K E tCont δ P := fun G I0 σ H I D n r c => c.ct δ σ H I h n r
theorem as_set {i : Nat} (h : Ev K te δ x) (k : P (.nx (δ.set i (.d x)))) : As K E (tAsg te (gName i)) δ P := fun G I0 σ H I D n r c =>
  h G σ H I n.s n.h r _ fun v H1 I1 n1 rv => c.nx _ _ H1 I1 k (n.trans n1) ((r.next n1).put rv)
theorem as_setN {i : Nat} (h : EvN K te δ xs) (k : P (.nx (δ.set i (.own xs)))) : As K E (tAsg te (gName i)) δ P := fun G I0 σ H I D n r c =>
  h G σ H I n.s n.h r _ fun p H1 I1 vs n1 hp rv =>
    c.nx _ _ _ I1 k ((n.trans n1).trans (Nx.own n1.s hp)) ((r.next n1).make n1.s (n1.g n.h) hp rv)
/-- a, b = e -/
theorem as_set2 {i j : Nat} (h : Ev K te δ (.tuple [x, y])) (k : P (.nx ((δ.set i (.d x)).set j (.d y)))) : As K E (tAsg te (gTup K 2 (gCons (gName i) (gCons (gName j) gNil)))) δ P := fun G I0 σ H I D n r c =>
  h G σ H I n.s n.h r _ fun v H1 I1 n1 rv => by
    cases rv with
    | tup hs ra =>
      cases ra with
      | cons r1 ra =>
        cases ra with
        | cons r2 ra =>
          cases ra
          exact ⟨_, _, rfl, .of (n1.s _ _ hs), rfl, _, _, rfl, _, _, rfl, rfl, c.nx _ _ H1 I1 k (n.trans n1) (((r.next n1).put r1).put r2)⟩
theorem as_ret (h : Ev K te δ x) (k : P (.rt x)) : As K E (tRet te) δ P := fun G I0 σ H I D n r c =>
  h G σ H I n.s n.h r _ fun v H1 I1 n1 rv => c.rt x v H1 I1 k (n.trans n1) rv
theorem as_retN (k : P (.rt .none)) : As K E tRetN δ P := fun G I0 σ H I D n r c => c.rt .none .non H I k n .non
theorem as_if {b : Bool} (h : EvT K tt δ b) (h1 : b = true → As K E t δ P) (h2 : b = false → As K E u δ P) : As K E (tIfS tt t u) δ P := fun G I0 σ H I D n r c =>
  h G σ H I n.s n.h r _ fun H1 I1 n1 => by
    cases b with
    | true =>
      show t D σ H1
      exact h1 rfl G I0 σ H1 I1 D (n.trans n1) (r.next n1) c
    | false =>
      show u D σ H1
      exact h2 rfl G I0 σ H1 I1 D (n.trans n1) (r.next n1) c
theorem as_drop (h : Ev K te δ x) (k : P (.nx δ)) : As K E (tDrop te) δ P := fun G I0 σ H I D n r c =>
  h G σ H I n.s n.h r _ fun v H1 I1 n1 rv => c.nx _ _ H1 I1 k (n.trans n1) (r.next n1)
theorem as_setX {i : Nat} {g : TG} {cl : Value} (h : EvX K E te δ cl) (k : P (.ex cl)) : As K E (tAsg te g) δ P := fun G I0 σ H I D n r c =>
  h G σ H I n.s n.h r (fun H' e => c.ex cl H' k (n.h.trans e)) _
theorem as_retX {cl : Value} (h : EvX K E te δ cl) (k : P (.ex cl)) : As K E (tRet te) δ P := fun G I0 σ H I D n r c =>
  h G σ H I n.s n.h r (fun H' e => c.ex cl H' k (n.h.trans e)) _
theorem as_dropX {cl : Value} (h : EvX K E te δ cl) (k : P (.ex cl)) : As K E (tDrop te) δ P := fun G I0 σ H I D n r c =>
  h G σ H I n.s n.h r (fun H' e => c.ex cl H' k (n.h.trans e)) _
/-- raise X('..') -/
def tRz (E : XK) (c : Value) : TS := fun _ _ H => E c none H
theorem as_raise {cl : Value} (k : P (.ex cl)) : As K E (tRz E cl) δ P := fun G I0 σ H I D n r c => c.ex cl H k n.h
theorem as_weak {i : Nat} (h : As K E t (δ.set i .no) P) : As K E t δ P := fun G I0 σ H I D n r c => by
  have hr := r.none (i := i) (o := (σ[i]?).getD none)
  have e : σ.set i ((σ[i]?).getD none) = σ := by
    apply List.ext_getElem?
    intro j
    by_cases hj : j = i
    · subst hj
      by_cases hl : j < σ.length
      · rw [List.getElem?_set_self hl, List.getElem?_eq_getElem hl]
        rfl
      · rw [List.getElem?_eq_none_iff.mpr (by rw [List.length_set]; omega), List.getElem?_eq_none_iff.mpr (by omega)]
    · rw [List.getElem?_set_ne (Ne.symm hj)]
  rw [e] at hr
  exact h G I0 σ H I D n hr c
/-- its own list becomes data -/
theorem as_freeze {i : Nat} (e : δ[i]? = some (.own xs)) (h : As K E t (δ.set i (.d (.list xs))) P) : As K E t δ P := fun G I0 σ H I D n r c => by
  obtain ⟨p, vs, h1, h2, h3, h4, h5⟩ := r.own i xs e
  refine h G I0 σ H (upd I p (.lst vs)) D ⟨n.h, n.i.trans (same_new h3), fun b o eb => ?_, fun b o eb nb => ?_⟩ (r.freeze n.s e h1 h4 h3 h5) c
  · by_cases hb : b = p
    · subst hb
      rw [upd_same] at eb
      cases eb
      exact h4
    · rw [upd_ne hb] at eb
      exact n.s b o eb
  · rw [upd_ne (ne_of_none eb h2)]
    exact n.f b o eb nb
/-- xs.append(e), xs its own -/
theorem as_app {i : Nat} (e : δ[i]? = some (.own xs)) (h : Ev K te δ x) (hz : xs.length < sizeLine) (k : P (.nx (δ.set i (.own (xs ++ [x]))))) :
    As K E (tDrop (tBM K "list" rAppend (tVar i) (tCons te tNil))) δ P := fun G I0 σ H I D n r c => by
  obtain ⟨p, vs, h1, h2, h3, h4, h5⟩ := r.own i xs e
  refine ⟨.ref p, h1, .inl ⟨rfl, _, .inl (.inl h4)⟩, ?_⟩
  refine h G σ H I n.s n.h r _ fun v H1 I1 n1 rv => ?_
  have r1 := r.next n1
  obtain ⟨p', vs', h1', h2', h3', h4', h5'⟩ := r1.own i xs e
  rw [h1] at h1'
  cases h1'
  refine ⟨p, vs', v, rfl, rfl, h4', by rw [h5'.length]; exact hz, ?_⟩
  have n2 := n.trans n1
  refine c.nx _ _ _ I1 k ⟨fun b o eb => ?_, n2.i, fun b o eb => ?_, n2.f⟩ (r1.write e h1 (h5'.app (.cons rv .nil)))
  · rw [upd_ne (ne_of_none eb h2)]
    exact n2.h b o eb
  · rw [upd_ne (ne_of_none eb h3')]
    exact n2.s b o eb
/-- xs.append(e), e a new list -/
theorem as_setI {i : Nat} {ti : TE} {j : Nat} {kk : Int} (e : δ[i]? = some (.own xs)) (hv : Ev K te δ x) (hi : Ev K ti δ (.int kk)) (hj : ixN xs.length kk = some j) (k : P (.nx (δ.set i (.own (xs.set j x))))) :
    As K E (tAsg te (gSub (tVar i) ti rSetL)) δ P := fun G I0 σ H I D n r c => by
  refine hv G σ H I n.s n.h r _ fun v H1 I1 n1 rv => ?_
  have r1 := r.next n1
  obtain ⟨p, vs, h1, h2, h3, h4, h5⟩ := r1.own i xs e
  refine ⟨.ref p, h1, ?_⟩
  refine hi G σ H1 I1 n1.s (n1.g n.h) r1 _ fun w H2 I2 n2 rw' => ?_
  cases rw'
  have r2 := r1.next n2
  obtain ⟨p', vs', h1', h2', h3', h4', h5'⟩ := r2.own i xs e
  rw [h1] at h1'
  cases h1'
  have n3 := (n.trans n1).trans n2
  refine ⟨p, vs', kk, j, rfl, rfl, h4', by rw [h5'.length]; exact hj, ?_⟩
  refine c.nx _ _ _ I2 k ⟨fun b o eb => ?_, n3.i, fun b o eb => ?_, n3.f⟩ (r2.write e h1 (RpAll.set (rv.mono n2.i) j h5'))
  · rw [upd_ne (ne_of_none eb h2')]
    exact n3.h b o eb
  · rw [upd_ne (ne_of_none eb h3')]
    exact n3.s b o eb
/-- xs.extend(e), e a new list -/
theorem as_ext {i : Nat} (e : δ[i]? = some (.own xs)) (h : EvN K te δ ys) (hz : xs.length + ys.length ≤ sizeLine) (k : P (.nx (δ.set i (.own (xs ++ ys))))) :
    As K E (tDrop (tBM K "list" rExtend (tVar i) (tCons te tNil))) δ P := fun G I0 σ H I D n r c => by
  obtain ⟨p, vs, h1, h2, h3, h4, h5⟩ := r.own i xs e
  refine ⟨.ref p, h1, .inl ⟨rfl, _, .inl (.inl h4)⟩, ?_⟩
  refine h G σ H I n.s n.h r _ fun q H1 I1 ws n1 hq rv => ?_
  have n1' := n1.trans (Nx.own (o := .lst ws) n1.s hq)
  have r1 := r.next n1'
  obtain ⟨p', vs', h1', h2', h3', h4', h5'⟩ := r1.own i xs e
  rw [h1] at h1'
  cases h1'
  refine ⟨p, q, vs', ws, rfl, rfl, h4', upd_same, by rw [h5'.length, rv.length]; exact hz, ?_⟩
  have n2 := n.trans n1'
  refine c.nx _ _ _ I1 k ⟨fun b o eb => ?_, n2.i, fun b o eb => ?_, n2.f⟩ (r1.write e h1 (h5'.app rv))
  · rw [upd_ne (ne_of_none eb h2)]
    exact n2.h b o eb
  · rw [upd_ne (ne_of_none eb h3')]
    exact n2.s b o eb

/-! ### while -/
theorem as_while (W : Nat → List Sl → Prop) (m0 : Nat) (h0 : W m0 δ)
    (hs : ∀ m δ', W m δ' → ∃ b, EvT K tt δ' b ∧ (b = true → As K E t δ' (fun o => match o with
        | .nx δ3 => ∃ m', m' < m ∧ W m' δ3
        | .ct δ3 => ∃ m', m' < m ∧ W m' δ3
        | .bk δ3 => P (.nx δ3)
        | .rt x => P (.rt x)
        | .ex c => P (.ex c)
        | .exd c fs => P (.exd c fs))) ∧ (b = false → P (.nx δ'))) : As K E (tWhile tt t) δ P := fun G I0 σ H I D n r c => by
  refine ⟨fun m σ' H' => ∃ δ' I', W m δ' ∧ Nx G I0 H' I' ∧ RelS K G H' I' σ' δ', ⟨m0, δ, I, h0, n, r⟩, fun m σ1 H1 w1 => ?_⟩
  obtain ⟨δ1, I1, w1, n1, r1⟩ := w1
  obtain ⟨b, ht, hb1, hb2⟩ := hs m δ1 w1
  refine ht G σ1 H1 I1 n1.s n1.h r1 _ fun H2 I2 n2 => ?_
  cases b with
  | true =>
    rw [if_pos rfl]
    refine ⟨fun σ' H' => ∃ m', m' < m ∧ ∃ δ' I', W m' δ' ∧ Nx G I0 H' I' ∧ RelS K G H' I' σ' δ', fun _ _ q => q, ?_⟩
    refine hb1 rfl G I0 σ1 H2 I2 _ (n1.trans n2) (r1.next n2) ⟨fun δ' σ' H' I' p n' r' => ?_, fun δ' σ' H' I' p n' r' => c.nx δ' σ' H' I' p n' r', fun δ' σ' H' I' p n' r' => ?_, c.rt, c.ex, c.exd⟩
    · obtain ⟨m', hm, w'⟩ := p
      exact ⟨m', hm, δ', I', w', n', r'⟩
    · obtain ⟨m', hm, w'⟩ := p
      exact ⟨m', hm, δ', I', w', n', r'⟩
  | false =>
    rw [if_neg Bool.false_ne_true]
    exact c.nx δ1 σ1 H2 I2 (hb2 rfl) (n1.trans n2) (r1.next n2)
end

/-! ### what is walked -/
/-- J yields these, one after another, wherever the world has come from (H0, I0) -/
structure WalkD (K : PySem.W.Frag) (J : It) (I0 : Hp) (items : List PyData) : Prop where
  goes : ∀ i H I, Same I0 I → Same I H → i < items.length → J.go i H
  stops : ∀ H I, Same I0 I → Same I H → J.stop items.length H
  yields : ∀ i H I x H', Same I0 I → Same I H → i < items.length → J.yld i H x H' → ∃ I', Nx H I H' I' ∧ ∀ d, items[i]? = some d → Rp K I' x d
def EvI (K : PySem.W.Frag) (wi : TI) (δ : List Sl) (items : List PyData) : Prop := ∀ G σ H I, Same I H → Same G H → RelS K G H I σ δ → ∀ R : It → Hp → Prop, (∀ J H' I', Nx H I H' I' → WalkD K J I' items → R J H') → wi σ H R
/-- a target -/
def Ag (K : PySem.W.Frag) (g : TG) (x : PyData) (δ : List Sl) (Pd : List Sl → Prop) : Prop := ∀ G σ H I v, RelS K G H I σ δ → Same I H → Rp K I v x → ∀ Q : L2.St → Hp → Prop, (∀ δ' σ', Pd δ' → RelS K G H I σ' δ' → Q σ' H) → g v σ H Q
section
variable {K : PySem.W.Frag} {E : XK} {δ : List Sl} {ta tb te : TE} {tt : TT} {t u : TS} {x y z : PyData} {xs ys : List PyData} {P P' : Out → Prop} {Pd : List Sl → Prop}
theorem ag_name {i : Nat} (k : Pd (δ.set i (.d x))) : Ag K (gName i) x δ Pd := fun G σ H I v r s rv Q q => q _ _ k (r.put rv)
theorem ag_tup2 {i j : Nat} (k : Pd ((δ.set i (.d x)).set j (.d y))) : Ag K (gTup K 2 (gCons (gName i) (gCons (gName j) gNil))) (.tuple [x, y]) δ Pd := fun G σ H I v r s rv Q q => by
  cases rv with
  | tup hs ra =>
    cases ra with
    | cons r1 ra =>
      cases ra with
      | cons r2 ra =>
        cases ra
        exact ⟨_, _, rfl, .of (s _ _ hs), rfl, _, _, rfl, _, _, rfl, rfl, q _ _ k ((r.put r1).put r2)⟩
theorem ag_tup3 {i j l : Nat} (k : Pd (((δ.set i (.d x)).set j (.d y)).set l (.d z))) : Ag K (gTup K 3 (gCons (gName i) (gCons (gName j) (gCons (gName l) gNil)))) (.tuple [x, y, z]) δ Pd := fun G σ H I v r s rv Q q => by
  cases rv with
  | tup hs ra =>
    cases ra with
    | cons r1 ra =>
      cases ra with
      | cons r2 ra =>
        cases ra with
        | cons r3 ra =>
          cases ra
          exact ⟨_, _, rfl, .of (s _ _ hs), rfl, _, _, rfl, _, _, rfl, _, _, rfl, rfl, q _ _ k (((r.put r1).put r2).put r3)⟩
theorem ei_list (h : Ev K te δ (.list xs)) : EvI K (iList K te) δ xs := fun G σ H I s g r R q =>
  h G σ H I s g r _ fun v H1 I1 n1 rv => by
    cases rv with
    | lst hs ra =>
      refine ⟨_, rfl, ⟨_, .of (n1.s _ _ hs)⟩, q _ H1 I1 n1 ⟨fun i H2 I2 e1 e2 hi => ?_, fun H2 I2 e1 e2 => ?_, fun i H2 I2 w H3 e1 e2 hi y => ?_⟩⟩
      · obtain ⟨v, hv, _⟩ := ra.get (List.getElem?_eq_getElem hi)
        exact ⟨_, v, SqL.of ((e1.trans e2) _ _ hs), hv⟩
      · exact ⟨_, SqL.of ((e1.trans e2) _ _ hs), by rw [ra.length]; exact Nat.le_refl _⟩
      · obtain ⟨e, y⟩ := y
        subst e
        refine ⟨I2, Nx.refl e2, fun d hd => ?_⟩
        obtain ⟨v, hv, rv⟩ := ra.get hd
        have hw := y _ (SqL.of ((e1.trans e2) _ _ hs))
        rw [hv] at hw
        cases hw
        exact rv.mono e1
theorem ei_tup (h : Ev K te δ (.tuple xs)) : EvI K (iTup K te) δ xs := fun G σ H I s g r R q =>
  h G σ H I s g r _ fun v H1 I1 n1 rv => by
    cases rv with
    | tup hs ra =>
      refine ⟨_, rfl, ⟨_, .of (n1.s _ _ hs)⟩, q _ H1 I1 n1 ⟨fun i H2 I2 e1 e2 hi => ?_, fun H2 I2 e1 e2 => ?_, fun i H2 I2 w H3 e1 e2 hi y => ?_⟩⟩
      · obtain ⟨v, hv, _⟩ := ra.get (List.getElem?_eq_getElem hi)
        exact ⟨_, v, SqT.of ((e1.trans e2) _ _ hs), hv⟩
      · exact ⟨_, SqT.of ((e1.trans e2) _ _ hs), by rw [ra.length]; exact Nat.le_refl _⟩
      · obtain ⟨e, y⟩ := y
        subst e
        refine ⟨I2, Nx.refl e2, fun d hd => ?_⟩
        obtain ⟨v, hv, rv⟩ := ra.get hd
        have hw := y _ (SqT.of ((e1.trans e2) _ _ hs))
        rw [hv] at hw
        cases hw
        exact rv.mono e1
/-- lo, lo + 1, .. -/
def nums (lo : Int) (n : Nat) : List PyData := (List.range n).map fun (i : Nat) => PyData.int (lo + i)
theorem nums_len {lo : Int} {n : Nat} : (nums lo n).length = n := by unfold nums; rw [List.length_map, List.length_range]
theorem nums_get {lo : Int} {n i : Nat} {d : PyData} (h : (nums lo n)[i]? = some d) : i < n ∧ d = .int (lo + i) := by
  unfold nums at h
  rw [List.getElem?_map] at h
  by_cases hi : i < n
  · rw [List.getElem?_range hi] at h
    exact ⟨hi, (Option.some.inj h).symm⟩
  · rw [List.getElem?_eq_none_iff.mpr (by rw [List.length_range]; omega)] at h
    cases h
theorem walk_nums {I0 : Hp} {lo : Int} {n : Nat} : WalkD K (Itr lo n) I0 (nums lo n) := by
  refine ⟨fun i H2 I2 e1 e2 hi => ?_, fun H2 I2 e1 e2 => ?_, fun i H2 I2 w H3 e1 e2 hi y => ?_⟩
  · rw [nums_len] at hi
    exact hi
  · show n ≤ (nums lo n).length
    rw [nums_len]
    exact Nat.le_refl _
  · obtain ⟨e, y⟩ := y
    subst e y
    refine ⟨I2, Nx.refl e2, fun d hd => ?_⟩
    obtain ⟨_, rfl⟩ := nums_get hd
    exact .int _
theorem ei_rng1 {t : TA} {n : Int} (h : EvA K t δ [.int n]) (h1 : -(2 ^ 62) ≤ n) (h2 : n < 2 ^ 62) : EvI K (iRng1 t) δ (nums 0 n.toNat) := fun G σ H I s g r R q =>
  h G σ H I s g r _ fun vs H1 I1 n1 rv => by
    cases rv with
    | cons r1 rv =>
      cases rv
      cases r1
      exact ⟨n, rfl, h1, h2, q _ H1 I1 n1 walk_nums⟩

/-- for target in ..: body -/
theorem as_for {wi : TI} {g : TG} (hi : EvI K wi δ xs) (Pv : Nat → List Sl → Prop) (h0 : Pv 0 δ)
    (hs : ∀ i d δ', xs[i]? = some d → Pv i δ' → Ag K g d δ' (fun δ2 => As K E t δ2 (fun o => match o with
        | .nx δ3 => Pv (i + 1) δ3
        | .ct δ3 => Pv (i + 1) δ3
        | .bk δ3 => P (.nx δ3)
        | .rt x => P (.rt x)
        | .ex c => P (.ex c)
        | .exd c fs => P (.exd c fs)))) (hd : ∀ δ', Pv xs.length δ' → P (.nx δ')) : As K E (tFor wi g t) δ P := fun G I0 σ H I D n r c => by
  refine hi G σ H I n.s n.h r _ fun J H1 I1 n1 w => ?_
  have nb := n.trans n1
  refine ⟨fun i m σ' H' => m = xs.length - i ∧ i ≤ xs.length ∧ ∃ δ' I', Pv i δ' ∧ Nx G I1 H' I' ∧ RelS K G H' I' σ' δ', ⟨xs.length, by simp, Nat.zero_le _, δ, I1, h0, nb.here, r.next n1⟩, ?_⟩
  rintro i m σ2 H2 ⟨rfl, hle, δ2, I2, p2, n2, r2⟩
  by_cases hlt : i < xs.length
  · refine .inr ⟨w.goes i H2 I2 n2.i n2.s hlt, fun σ' H' => ∃ δ' I', Pv (i + 1) δ' ∧ Nx G I1 H' I' ∧ RelS K G H' I' σ' δ', fun σ' H' ⟨δ', I', a, b, cc⟩ => ⟨xs.length - (i + 1), by omega, rfl, hlt, δ', I', a, b, cc⟩, fun v H3 y => ?_⟩
    obtain ⟨I3, n3, rv⟩ := w.yields i H2 I2 v H3 n2.i n2.s hlt y
    have n3' := n2.trans n3
    refine hs i _ δ2 (List.getElem?_eq_getElem hlt) p2 G σ2 H3 I3 v (r2.next n3) n3.s (rv _ (List.getElem?_eq_getElem hlt)) _ fun δ4 σ4 a4 r4 => ?_
    refine a4 G I1 σ4 H3 I3 _ n3' r4 ⟨fun δ' σ' H' I' p n' r' => ⟨δ', I', p, n', r'⟩, fun δ' σ' H' I' p n' r' => c.nx δ' σ' H' I' p (nb.rebase n') r', fun δ' σ' H' I' p n' r' => ⟨δ', I', p, n', r'⟩, fun x v H' I' p n' r' => c.rt x v H' I' p (nb.rebase n') r', c.ex, c.exd⟩
  · have e : i = xs.length := by omega
    subst e
    exact .inl ⟨w.stops H2 I2 n2.i n2.s, c.nx δ2 σ2 H2 I2 (hd δ2 p2) (nb.rebase n2) r2⟩

/-! ### comprehensions -/
def wipeD (δ : List Sl) : List Nat → List Sl
  | [] => δ
  | v :: vs => (wipeD δ vs).set v .no
theorem RelS.wipe {G H I : Hp} {σ : L2.St} {δ : List Sl} (r : RelS K G H I σ δ) : ∀ vs : List Nat, RelS K G H I (L2.wipe σ vs) (wipeD δ vs)
  | [] => r
  | v :: vs => (RelS.wipe r vs).none
/-- the target's slots lie among the wiped ones -/
def GWipe (g : TG) (vs : List Nat) : Prop := ∀ v σ H (Q Q' : L2.St → Hp → Prop), (∀ σ', L2.wipe σ' vs = L2.wipe σ vs → Q σ' H → Q' σ' H) → g v (L2.wipe σ vs) H Q → g v (L2.wipe σ vs) H Q'
/-- what a comprehension collects: c i tells whether the i-th item is kept, f i its value -/
def kept (n : Nat) (c : Nat → Bool) (f : Nat → PyData) : List PyData := ((List.range n).filter c).map f
theorem kept_zero {c : Nat → Bool} {f : Nat → PyData} : kept 0 c f = [] := rfl
theorem kept_yes {n : Nat} {c : Nat → Bool} {f : Nat → PyData} (h : c n = true) : kept (n + 1) c f = kept n c f ++ [f n] := by
  unfold kept
  rw [List.range_succ, List.filter_append, List.map_append, List.filter_cons, if_pos h]
  rfl
theorem kept_no {n : Nat} {c : Nat → Bool} {f : Nat → PyData} (h : c n = false) : kept (n + 1) c f = kept n c f := by
  unfold kept
  rw [List.range_succ, List.filter_append, List.map_append, List.filter_cons, if_neg (by rw [h]; decide)]
  show _ ++ [] = _
  rw [List.append_nil]
theorem kept_len (n : Nat) (c : Nat → Bool) (f : Nat → PyData) : (kept n c f).length ≤ n := by
  unfold kept
  rw [List.length_map]
  have h := List.length_filter_le c (List.range n)
  rw [List.length_range] at h
  exact h
theorem en_lc {wi : TI} {g : TG} {vs : List Nat} (c : Nat → Bool) (f : Nat → PyData) (hi : EvI K wi δ xs) (hz : xs.length ≤ sizeLine) (hw : GWipe g vs)
    (hs : ∀ i d, xs[i]? = some d → Ag K g d (wipeD δ vs) (fun δ2 => EvT K tt δ2 (c i) ∧ (c i = true → Ev K te δ2 (f i)))) : EvN K (tLc wi g tt te vs) δ (kept xs.length c f) := fun G σ H I s gg r Q q => by
  refine hi G σ H I s gg r _ fun J H1 I1 n1 w => ?_
  intro D hD
  -- the list at D stands in H alone
  have key : ∀ i m H2, (m = xs.length - i ∧ i ≤ xs.length ∧ ∃ H3 I3 ws, H3 D = none ∧ Nx H1 I1 H3 I3 ∧ H2 = upd H3 D (.lst ws) ∧ RpAll K I3 ws (kept i c f)) →
      (J.stop i H2 ∧ Q (.ref D) H2) ∨ (J.go i H2 ∧ ∃ Nt : Hp → Prop, (∀ H', Nt H' → ∃ m', m' < m ∧ (m' = xs.length - (i + 1) ∧ i + 1 ≤ xs.length ∧ ∃ H3 I3 ws, H3 D = none ∧ Nx H1 I1 H3 I3 ∧ H' = upd H3 D (.lst ws) ∧ RpAll K I3 ws (kept (i + 1) c f))) ∧
        ∀ x H', J.yld i H2 x H' → g x (L2.wipe σ vs) H' fun σ2 H2 => L2.wipe σ2 vs = L2.wipe σ vs ∧ tt σ2 H2 fun b H3 =>
          if b = true then te σ2 H3 fun y H4 => ∃ acc, H4 D = some (.lst acc) ∧ acc.length < sizeLine ∧ Nt (upd H4 D (.lst (acc ++ [y]))) else Nt H3) := by
    rintro i m H2 ⟨rfl, hle, H3, I3, ws, hD3, n3, rfl, rw3⟩
    have s3 : Same I3 (upd H3 D (.lst ws)) := n3.s.trans (same_new hD3)
    have nO : Nx H3 I3 (upd H3 D (.lst ws)) I3 := Nx.own n3.s hD3
    by_cases hlt : i < xs.length
    · refine .inr ⟨w.goes i _ I3 n3.i s3 hlt, fun H' => i + 1 ≤ xs.length ∧ ∃ H3 I3 ws, H3 D = none ∧ Nx H1 I1 H3 I3 ∧ H' = upd H3 D (.lst ws) ∧ RpAll K I3 ws (kept (i + 1) c f), fun H' p => ⟨xs.length - (i + 1), by omega, rfl, p⟩, fun x H4 y => ?_⟩
      obtain ⟨I4, n4, rv⟩ := w.yields i _ I3 x H4 n3.i s3 hlt y
      have hx : xs[i]? = some xs[i] := List.getElem?_eq_getElem hlt
      have hD4 : H4 D = some (.lst ws) := n4.h D _ upd_same
      have iD4 : I4 D = none := n4.f D _ upd_same (n3.s.free hD3)
      have r4 : RelS K G H4 I4 σ δ := ((r.next n1).next (n3.trans nO)).next n4
      have g4 : Same G H4 := ((gg.trans n1.h).trans (n3.trans nO).h).trans n4.h
      -- a state behind H4 in which D still holds ws: what stands without D
      have back : ∀ H5 I5, Nx H4 I4 H5 I5 → ∀ ws' ys, RpAll K I5 ws' ys → ∃ H6 I6 ws2, H6 D = none ∧ Nx H1 I1 H6 I6 ∧ upd H5 D (.lst ws') = upd H6 D (.lst ws2) ∧ RpAll K I6 ws2 ys := fun H5 I5 n5 ws' ys ra => by
        have hD5 : H5 D = some (.lst ws) := n5.h D _ hD4
        have iD5 : I5 D = none := n5.f D _ hD4 iD4
        have nn := (nO.trans n4).trans n5
        refine ⟨fun b => if b = D then none else H5 b, I5, ws', if_pos rfl, ⟨fun b o eb => ?_, (n3.i.trans n4.i).trans n5.i, fun b o eb => ?_, fun b o eb nb => ?_⟩, ?_, ra⟩
        · have hb : b ≠ D := ne_of_none eb hD
          show (if b = D then none else H5 b) = _
          rw [if_neg hb]
          exact nn.h b o (n3.h b o eb)
        · have hb : b ≠ D := ne_of_none eb iD5
          show (if b = D then none else H5 b) = _
          rw [if_neg hb]
          exact n5.s b o eb
        · exact nn.f b o (n3.h b o eb) (n3.f b o eb nb)
        · funext b
          unfold upd
          by_cases hb : b = D
          · rw [if_pos hb, if_pos hb]
          · rw [if_neg hb, if_neg hb]
            exact (if_neg hb).symm
      refine hw x σ H4 (fun σ2 H2 => tt σ2 H2 fun b H3 => if b = true then te σ2 H3 fun y H4 => ∃ acc, H4 D = some (.lst acc) ∧ acc.length < sizeLine ∧ (i + 1 ≤ xs.length ∧ ∃ H3' I3 ws, H3' D = none ∧ Nx H1 I1 H3' I3 ∧ upd H4 D (.lst (acc ++ [y])) = upd H3' D (.lst ws) ∧ RpAll K I3 ws (kept (i + 1) c f)) else (i + 1 ≤ xs.length ∧ ∃ H3' I3 ws, H3' D = none ∧ Nx H1 I1 H3' I3 ∧ H3 = upd H3' D (.lst ws) ∧ RpAll K I3 ws (kept (i + 1) c f))) _ (fun σ' e q => ⟨e, q⟩) ?_
      refine hs i _ hx G (L2.wipe σ vs) H4 I4 x (r4.wipe vs) n4.s (rv _ hx) _ fun δ5 σ5 a5 r5 => ?_
      refine a5.1 G σ5 H4 I4 n4.s g4 r5 _ fun H5 I5 n5 => ?_
      cases hc : c i with
      | true =>
        rw [if_pos rfl]
        refine a5.2 hc G σ5 H5 I5 n5.s (n5.g g4) (r5.next n5) _ fun v H6 I6 n6 rv6 => ?_
        have nn := n5.trans n6
        have hl : ws.length ≤ i := by rw [rw3.length]; exact kept_len _ _ _
        refine ⟨ws, nn.h D _ hD4, by omega, hlt, back H6 I6 nn _ _ ?_⟩
        rw [kept_yes hc]
        exact (rw3.mono (n4.i.trans nn.i)).app (.cons rv6 .nil)
      | false =>
        rw [if_neg Bool.false_ne_true]
        obtain ⟨H6, I6, ws2, b1, b2, b3, b4⟩ := back H5 I5 n5 ws (kept (i + 1) c f) (by rw [kept_no hc]; exact rw3.mono (n4.i.trans n5.i))
        refine ⟨hlt, H6, I6, ws2, b1, b2, ?_, b4⟩
        rw [← b3]
        funext b
        unfold upd
        by_cases hb : b = D
        · rw [if_pos hb, hb]
          exact n5.h D _ hD4
        · rw [if_neg hb]
    · have e : i = xs.length := by omega
      subst e
      exact .inl ⟨w.stops _ I3 n3.i s3, q D H3 I3 ws (n1.trans n3) hD3 rw3⟩
  refine ⟨fun i m H2 => m = xs.length - i ∧ i ≤ xs.length ∧ ∃ H3 I3 ws, H3 D = none ∧ Nx H1 I1 H3 I3 ∧ H2 = upd H3 D (.lst ws) ∧ RpAll K I3 ws (kept i c f), ⟨xs.length, by simp, Nat.zero_le _, H1, I1, [], hD, Nx.refl n1.s, rfl, .nil⟩, fun i m H2 p => key i m H2 p⟩
theorem gw_name {i : Nat} {vs : List Nat} (h : ∀ σ : L2.St, ∀ v, L2.wipe ((L2.wipe σ vs).set i (some v)) vs = L2.wipe σ vs) : GWipe (gName i) vs := fun v σ H Q Q' k q => k _ (h σ v) q
theorem kept_map {n : Nat} {f : Nat → PyData} : kept n (fun _ => true) f = (List.range n).map f := by
  unfold kept
  rw [List.filter_eq_self.mpr (fun _ _ => rfl)]
theorem et_yes : EvT K tYes δ true := fun G σ H I s g r Q q => q H I (Nx.refl s)
end

/-! ### defs -/
/-- the promise of a def over data: F tells what comes of the arguments -/
def SpD (K : PySem.W.Frag) (F : List PyData → Out → Prop) : Sp := fun vs H Q E => ∃ I ds o, Same I H ∧ RpAll K I vs ds ∧ F ds o ∧ match o with
  | .rt x => ∀ v H' I', Nx H I H' I' → Rp K I' v x → Q v H'
  | .ex c => ∀ H', Same H H' → E c none H'
  | .exd c fs => ∀ d H', Same H H' → H' d = some (.xd fs) → E c (some d) H'
  | _ => False
/-- the slots at the start -/
def slots0 (n : Nat) (ds : List PyData) : List Sl := ds.map .d ++ List.replicate (n - ds.length) .no
/-- the body's end is the call's -/
def finP (o : Out) : Out → Prop
  | .rt x => o = .rt x
  | .nx _ => o = .rt .none
  | .ex c => o = .ex c
  | .exd c fs => o = .exd c fs
  | _ => False
theorem rel_start {K : PySem.W.Frag} {H I : Hp} {N : List Str} {vs : List V} {ds : List PyData} (r : RpAll K I vs ds) : RelS K H H I (L2.start N vs) (slots0 N.length ds) where
  len := by
    unfold L2.start slots0
    rw [List.length_append, List.length_append, List.length_map, List.length_map, List.length_replicate, List.length_replicate, r.length]
  d := fun i x e => by
    unfold slots0 at e
    by_cases hi : i < ds.length
    · rw [List.getElem?_append_left (by rw [List.length_map]; exact hi), List.getElem?_map, List.getElem?_eq_getElem hi] at e
      have e' : Sl.d ds[i] = .d x := Option.some.inj e
      cases e'
      obtain ⟨v, hv, rv⟩ := r.get (List.getElem?_eq_getElem hi)
      refine ⟨v, ?_, rv⟩
      unfold L2.start
      rw [List.getElem?_append_left (by rw [List.length_map, r.length]; exact hi), List.getElem?_map, hv]
      rfl
    · rw [List.getElem?_append_right (by rw [List.length_map]; omega)] at e
      have := List.mem_of_getElem? e
      have := List.eq_of_mem_replicate this
      cases this
  own := fun i xs e => by
    unfold slots0 at e
    by_cases hi : i < ds.length
    · rw [List.getElem?_append_left (by rw [List.length_map]; exact hi), List.getElem?_map, List.getElem?_eq_getElem hi] at e
      have e' : Sl.d ds[i] = .own xs := Option.some.inj e
      cases e'
    · rw [List.getElem?_append_right (by rw [List.length_map]; omega)] at e
      have := List.mem_of_getElem? e
      have := List.eq_of_mem_replicate this
      cases this
  sep := fun i j xs ys p hn e1 e2 => by
    unfold slots0 at e1
    by_cases hi : i < ds.length
    · rw [List.getElem?_append_left (by rw [List.length_map]; exact hi), List.getElem?_map, List.getElem?_eq_getElem hi] at e1
      have e' : Sl.d ds[i] = .own xs := Option.some.inj e1
      cases e'
    · rw [List.getElem?_append_right (by rw [List.length_map]; omega)] at e1
      have := List.mem_of_getElem? e1
      have := List.eq_of_mem_replicate this
      cases this
theorem as_run {K : PySem.W.Frag} {N : List Str} {t : TS} {F : List PyData → Out → Prop} {vs : List V} {H : Hp} {Q : VK} {E : XK} (h : SpD K F vs H Q E) (ha : ∀ ds o, F ds o → As K E t (slots0 N.length ds) (finP o)) :
    t { nx := fun _ H' => Q .non H', rt := Q } (L2.start N vs) H := by
  obtain ⟨I, ds, o, s, r, f, k⟩ := h
  refine ha ds o f H I (L2.start N vs) H I _ (Nx.refl s) (rel_start r) ⟨fun δ' σ' H' I' p n' r' => ?_, fun δ' σ' H' I' p => p.elim, fun δ' σ' H' I' p => p.elim, fun x v H' I' p n' r' => ?_, fun c H' p e => ?_, fun c fs d H' p e e2 => ?_⟩
  · have p' : o = .rt .none := p
    subst p'
    exact k .non H' I' n' .non
  · have p' : o = .rt x := p
    subst p'
    exact k v H' I' n' r'
  · have p' : o = .ex c := p
    subst p'
    exact k H' e
  · have p' : o = .exd c fs := p
    subst p'
    exact k d H' e e2
theorem sp_len {K : PySem.W.Frag} {F : List PyData → Out → Prop} {n : Nat} (h : ∀ ds o, F ds o → ds.length = n) : ∀ vs H Q E, SpD K F vs H Q E → vs.length = n := fun vs H Q E ⟨I, ds, o, s, r, f, k⟩ => by
  rw [r.length]
  exact h ds o f
section
variable {P : Program} {w : World} {K : PySem.W.Frag} {mg : Str → Option Value} {base : Heap}
/-- a def: its body's term t, and what it comes to over data -/
theorem def_ok {x qual : Str} {st : Stmt} {f : Addr} {fd : FuncData} {N ps : List Str} {k : Nat} {F : List PyData → Out → Prop} (FF : Fun K x qual st f fd) (S : FnScope N ps (defScope st)) (len : ∀ ds o, F ds o → ds.length = ps.length)
    (hbody : ∀ (cdv : Value) (A : Around) (outer : List Env) (s : Shared) (H : Hp) (E : XK), Room k (A.deeper (envOfC qual (defScope st) s.heap.objs.size f cdv)) →
      ∃ t, PSs (cxOf (L2.CX P w) P w K mg base N qual (defScope st) f cdv A outer s H E) (defBody st) t ∧ ∀ ds o, F ds o → As K E t (slots0 N.length ds) (finP o)) : FnOk P w K mg base (L2.CX P w) (k + 1) f fd ps (SpD K F) := by
  refine FF.okX S (sp_len len) (fun cdv A outer s H vs Q E hr h => ?_)
  obtain ⟨t, h1, h2⟩ := hbody cdv A outer s H E hr
  exact ⟨t, h1, as_run h h2⟩
/-- the law itself: nothing leaves it -/
theorem law_ok {x qual : Str} {st : Stmt} {f : Addr} {fd : FuncData} {N ps : List Str} {k : Nat} {F : List PyData → Out → Prop} (FF : Fun K x qual st f fd) (S : FnScope N ps (defScope st)) (len : ∀ ds o, F ds o → ds.length = ps.length)
    (hbody : ∀ (cdv : Value) (A : Around) (outer : List Env) (s : Shared) (H : Hp) (E : XK), Room k (A.deeper (envOfC qual (defScope st) s.heap.objs.size f cdv)) →
      ∃ t, PSs (cxOf CX0 P w K mg base N qual (defScope st) f cdv A outer s H E).nox (defBody st) t ∧ ∀ ds o, F ds o → As K E t (slots0 N.length ds) (finP o)) : FnOk P w K mg base CX0 (k + 1) f fd ps (SpD K F) := by
  refine FF.ok S (sp_len len) (fun cdv A outer s H vs Q E hr h => ?_)
  obtain ⟨t, h1, h2⟩ := hbody cdv A outer s H E hr
  exact ⟨t, h1, as_run h h2⟩
end
section
variable {K : PySem.W.Frag} {δ : List Sl} {xs : List PyData} {x : PyData} {ta : TA} {F : List PyData → Out → Prop} {W : WX} {c : Value}
/-- a call -/
theorem ev_call (ha : EvA K ta δ xs) (hF : F xs (.rt x)) : Ev K (tCallS (SpD K F) (WE W) ta) δ x := fun G σ H I s g r Q q =>
  ha G σ H I s g r _ fun vs H1 I1 n1 r1 => ⟨I1, xs, .rt x, n1.s, r1, hF, fun v H2 I2 n2 r2 => q v H2 I2 (n1.trans n2) r2⟩
theorem ex_call {E : XK} (ha : EvA K ta δ xs) (hF : F xs (.ex c)) : EvX K E (tCallS (SpD K F) (WE fun cls d _ H => E cls d H) ta) δ c := fun G σ H I s g r he Q =>
  ha G σ H I s g r _ fun vs H1 I1 n1 r1 => ⟨I1, xs, .ex c, n1.s, r1, hF, fun H2 e => he H2 (n1.h.trans e)⟩
end
end Tw

/-! Tw2: operators, built-in calls and subscripts over data. -/
namespace Tw
open PySem PySem.Spec PyProof.Rows L2
section
variable {X : Cx}
def rCatS : R2 := fun x y H Q => ∃ i j, x = .str i ∧ y = .str j ∧ i.length + j.length ≤ sizeLine ∧ Q (.str (i ++ j)) H
def rPlus : R2 := rI0 fun i j => .int (i + j)
def rMinus : R2 := rI0 fun i j => .int (i - j)
def rAddA (K : PySem.W.Frag) : R2 := fun x y H Q => rPlus x y H Q ∨ (fun x y H Q => rCatA K x y H Q ∨ (fun x y H Q => rCat x y H Q ∨ rCatS x y H Q) x y H Q) x y H Q
theorem opAdd : OpR X (binaryOp .Add) (rAddA X.K) := OpR.or op_add (OpR.or op_catA (OpR.or op_cat op_add_str))
theorem opSub : OpR X (binaryOp .Sub) rMinus := op_sub
def rTimes : R2 := rI CMulW fun i j => .int (i * j)
def rTimesB : R2 := rI CMul fun i j => .int (i * j)
def rMulA (K : PySem.W.Frag) : R2 := fun x y H Q => rTimes x y H Q ∨ (fun x y H Q => rTimesB x y H Q ∨ rRepT K x y H Q) x y H Q
theorem opMul : OpR X (binaryOp .Mult) (rMulA X.K) := OpR.or op_mulW (OpR.or op_mul op_repT)
def rQuoW : R2 := rI CDivW fun i j => .int (i / j)
def rQuoN : R2 := rI CDivN fun i j => .int (i.fdiv j)
def rDivA : R2 := fun x y H Q => rQuoW x y H Q ∨ rQuoN x y H Q
theorem opDiv : OpR X (binaryOp .FloorDiv) rDivA := OpR.or op_fdivW op_fdivN
def rModA : R2 := rI (fun _ j => j ≠ 0) fun i j => .int (i.fmod j)
theorem opMod : OpR X (binaryOp .Mod) rModA := op_modN
def rPowA : R2 := rI CPow fun i j => .int (i ^ j.toNat)
theorem opPow : OpR X (binaryOp .Pow) rPowA := op_pow
def rLtA : R2 := rI0 fun i j => .bl (decide (i < j))
def rGtA : R2 := rI0 fun i j => .bl (decide (j < i))
def rGeA : R2 := rI0 fun i j => .bl (decide (j ≤ i))
def rLeI : R2 := rI0 fun i j => .bl (decide (i ≤ j))
def rLeA (K : PySem.W.Frag) : R2 := fun x y H Q => rLeI x y H Q ∨ rLeT K x y H Q
theorem opLt : OpR X (compareOp .Lt) rLtA := op_lt
theorem opGt : OpR X (compareOp .Gt) rGtA := op_gt
theorem opGe : OpR X (compareOp .GtE) rGeA := op_ge
theorem opLe (hu : X.A.units < cLine) : OpR X (compareOp .LtE) (rLeA X.K) := OpR.or op_le (op_leT hu)
theorem opEq (hu : X.A.units + 64 < cLine) : OpR X (compareOp .Eq) (rEqD X.K) := op_eqD hu
theorem opNe (hu : X.A.units + 64 < cLine) : OpR X (compareOp .NotEq) (rNeD X.K) := op_neD hu
def rIsNon : R2 := fun x y H Q => y = .non ∧ Q (.bl (decide (x = .non))) H
def rNotNon : R2 := fun x y H Q => y = .non ∧ Q (.bl (!decide (x = .non))) H
theorem opIsN : OpR X (compareOp .Is) rIsNon := op_isN
theorem opNotN : OpR X (compareOp .IsNot) rNotNon := op_notN
def rNegA : V → Hp → VK → Prop := rU fun i => .int (-i)
theorem unNeg : UnR X (unaryOp .USub) rNegA := un_neg
def rLenA (K : PySem.W.Frag) : List V → Hp → VK → Prop := fun xs H Q => ∃ x n, xs = [x] ∧ LenV K x H n ∧ Q (.int n) H
theorem callLen : CallR X (.builtin "len") (rLenA X.K) := call_len
def rMax2A : List V → Hp → VK → Prop := fun xs H Q => ∃ i j, xs = [.int i, .int j] ∧ Q (.int (if j > i then j else i)) H
def rMin2A : List V → Hp → VK → Prop := fun xs H Q => ∃ i j, xs = [.int i, .int j] ∧ Q (.int (if j < i then j else i)) H
def rTupA (K : PySem.W.Frag) : List V → Hp → VK → Prop := fun xs H Q => ∃ p ys, xs = [.ref p] ∧ ((SqL K H p ys ∧ ∀ l, H l = none → Q (.ref l) (upd H l (.tup ys))) ∨ (SqT K H p ys ∧ Q (.ref p) H))
theorem callTup : CallR X (.type "tuple") (rTupA X.K) := call_tuple_of
def rLstA (K : PySem.W.Frag) : List V → Hp → VK → Prop := fun xs H Q => ∃ p ys, xs = [.ref p] ∧ (SqL K H p ys ∨ SqT K H p ys) ∧ ∀ l, H l = none → Q (.ref l) (upd H l (.lst ys))
theorem callLst : CallR X (.type "list") (rLstA X.K) := call_list_of
def rIntA : List V → Hp → VK → Prop := fun xs H Q => (∃ i, xs = [.int i] ∧ Q (.int i) H) ∨ ∃ k, xs = [.bl k] ∧ Q (.int (if k then 1 else 0)) H
theorem callInt : CallR X (.type "int") rIntA := call_int1
def rAbsA : List V → Hp → VK → Prop := fun xs H Q => ∃ i, xs = [.int i] ∧ Q (.int (if i < 0 then -i else i)) H
theorem callAbs : CallR X (.builtin "abs") rAbsA := call_abs
end
section
variable {K : PySem.W.Frag} {δ : List Sl} {ta tb te : TE} {t u : TT} {x y z : PyData} {xs ys : List PyData} {i j : Int}
/-! ### operators on data -/
theorem rd_plus : R2D K (rAddA K) (.int i) (.int j) (.int (i + j)) := fun H I v u s r1 r2 Q q => by
  cases r1; cases r2
  exact .inl ⟨i, j, rfl, rfl, q _ H I (Nx.refl s) (.int _)⟩
theorem rd_minus : R2D K rMinus (.int i) (.int j) (.int (i - j)) := fun H I v u s r1 r2 Q q => by
  cases r1; cases r2
  exact ⟨i, j, rfl, rfl, q _ H I (Nx.refl s) (.int _)⟩
theorem rd_cat (h : xs.length + ys.length ≤ sizeLine) : R2D K (rAddA K) (.tuple xs) (.tuple ys) (.tuple (xs ++ ys)) := fun H I v u s r1 r2 Q q => by
  cases r1 with
  | tup h1 a1 =>
    cases r2 with
    | tup h2 a2 =>
      refine .inr (.inl ⟨_, _, _, _, rfl, rfl, .of (s _ _ h1), .of (s _ _ h2), by rw [a1.length, a2.length]; exact h, fun e => ?_, fun e e2 => ?_, fun e e2 p hp => ?_⟩)
      · subst e
        cases a1
        exact q _ H I (Nx.refl s) (.tup h2 a2)
      · subst e2
        cases a2
        rw [List.append_nil] at q
        exact q _ H I (Nx.refl s) (.tup h1 a1)
      · exact q _ _ _ (Nx.new s hp) (.tup upd_same ((a1.app a2).mono (same_new (s.free hp))))
theorem rd_cats {a b : Str} (h : a.length + b.length ≤ sizeLine) : R2D K (rAddA K) (.str a) (.str b) (.str (a ++ b)) := fun H I v u s r1 r2 Q q => by
  cases r1; cases r2
  exact .inr (.inr (.inr ⟨a, b, rfl, rfl, h, q _ H I (Nx.refl s) (.str _)⟩))
/-- two lists: a new one -/
theorem en_cat (ha : Ev K ta δ (.list xs)) (hb : Ev K tb δ (.list ys)) (h : xs.length + ys.length ≤ sizeLine) : EvN K (tOp (rAddA K) ta tb) δ (xs ++ ys) := fun G σ H I s g rl Q q =>
  ha G σ H I s g rl _ fun v H1 I1 n1 r1 => hb G σ H1 I1 n1.s (n1.g g) (rl.next n1) _ fun u H2 I2 n2 r2 => by
    cases r1 with
    | lst h1 a1 =>
      cases r2 with
      | lst h2 a2 =>
        have h1' := n2.s _ _ (n2.i _ _ h1)
        exact .inr (.inr (.inl ⟨_, _, _, _, rfl, rfl, h1', n2.s _ _ h2, by rw [a1.length, a2.length]; exact h, fun p hp => q p H2 I2 _ (n1.trans n2) hp ((a1.mono n2.i).app a2)⟩))
theorem rd_times (h : CMulW i j) : R2D K (rMulA K) (.int i) (.int j) (.int (i * j)) := fun H I v u s r1 r2 Q q => by
  cases r1; cases r2
  exact .inl ⟨i, j, rfl, rfl, h, q _ H I (Nx.refl s) (.int _)⟩
/-- one factor is small -/
theorem rd_timesB (h : CMul i j) : R2D K (rMulA K) (.int i) (.int j) (.int (i * j)) := fun H I v u s r1 r2 Q q => by
  cases r1; cases r2
  exact .inr (.inl ⟨i, j, rfl, rfl, h, q _ H I (Nx.refl s) (.int _)⟩)
theorem flat_rep {I : Hp} {vs : List V} (h : RpAll K I vs xs) : ∀ n : Nat, RpAll K I (List.replicate n vs).flatten (List.replicate n xs).flatten
  | 0 => .nil
  | n + 1 => by
    rw [List.replicate_succ, List.replicate_succ, List.flatten_cons, List.flatten_cons]
    exact h.app (flat_rep h n)
theorem rd_rep (h1 : xs ≠ []) (h2 : 2 ≤ j) (h3 : j ≤ 1000) (h4 : xs.length ≤ 1000) : R2D K (rMulA K) (.tuple xs) (.int j) (.tuple (List.replicate j.toNat xs).flatten) := fun H I v u s r1 r2 Q q => by
  cases r1 with
  | tup ht a1 =>
    cases r2
    refine .inr (.inr ⟨_, j, _, rfl, rfl, .of (s _ _ ht), fun e => ?_, h2, h3, by rw [a1.length]; exact h4, fun p hp => ?_⟩)
    · subst e
      cases a1
      exact h1 rfl
    · exact q _ _ _ (Nx.new s hp) (.tup upd_same ((flat_rep a1 _).mono (same_new (s.free hp))))
theorem rd_quo {b : Nat} (h0 : 0 < j) (hb : j < 2 ^ b) (h1 : 0 < b) (h9 : b ≤ 9000) : R2D K rDivA (.int i) (.int j) (.int (i / j)) := fun H I v u s r1 r2 Q q => by
  cases r1; cases r2
  refine .inl ⟨i, j, rfl, rfl, wide_div h0 (b := b) ?_ h1 h9, q _ H I (Nx.refl s) (.int _)⟩
  have e : (j.natAbs : Int) = j := Int.natAbs_of_nonneg (by omega)
  have e2 : ((2 ^ b : Nat) : Int) = (2 : Int) ^ b := by rw [Int.natCast_pow]; rfl
  have : (j.natAbs : Int) < ((2 ^ b : Nat) : Int) := by rw [e, e2]; exact hb
  exact Int.ofNat_lt.mp this
theorem rd_quoN (h : j ≠ 0 ∧ j.natAbs < 1073741824) : R2D K rDivA (.int i) (.int j) (.int (i.fdiv j)) := fun H I v u s r1 r2 Q q => by
  cases r1; cases r2
  exact .inr ⟨i, j, rfl, rfl, h, q _ H I (Nx.refl s) (.int _)⟩
theorem rd_mod (h : 0 < j) : R2D K rModA (.int i) (.int j) (.int (i % j)) := fun H I v u s r1 r2 Q q => by
  cases r1; cases r2
  refine ⟨i, j, rfl, rfl, by omega, ?_⟩
  show Q (.int (i.fmod j)) H
  rw [Int.fmod_eq_emod_of_nonneg i (by omega)]
  exact q _ H I (Nx.refl s) (.int _)
theorem rd_pow (h : CPow i j) : R2D K rPowA (.int i) (.int j) (.int (i ^ j.toNat)) := fun H I v u s r1 r2 Q q => by
  cases r1; cases r2
  exact ⟨i, j, rfl, rfl, h, q _ H I (Nx.refl s) (.int _)⟩
theorem rd_lt : R2D K rLtA (.int i) (.int j) (.bool (decide (i < j))) := fun H I v u s r1 r2 Q q => by
  cases r1; cases r2
  exact ⟨i, j, rfl, rfl, q _ H I (Nx.refl s) (.bl _)⟩
theorem rd_gt : R2D K rGtA (.int i) (.int j) (.bool (decide (j < i))) := fun H I v u s r1 r2 Q q => by
  cases r1; cases r2
  exact ⟨i, j, rfl, rfl, q _ H I (Nx.refl s) (.bl _)⟩
theorem rd_ge : R2D K rGeA (.int i) (.int j) (.bool (decide (j ≤ i))) := fun H I v u s r1 r2 Q q => by
  cases r1; cases r2
  exact ⟨i, j, rfl, rfl, q _ H I (Nx.refl s) (.bl _)⟩
theorem rd_le : R2D K (rLeA K) (.int i) (.int j) (.bool (decide (i ≤ j))) := fun H I v u s r1 r2 Q q => by
  cases r1; cases r2
  exact .inl ⟨i, j, rfl, rfl, q _ H I (Nx.refl s) (.bl _)⟩
theorem rall_ints {I : Hp} : ∀ {ns : List Int} {vs : List V}, RpAll K I vs (ns.map PyData.int) → vs = ns.map V.int
  | [], _, h => by cases h; rfl
  | n :: ns, _, h => by
    cases h with
    | cons h1 h2 =>
      cases h1
      rw [rall_ints h2]
      rfl
theorem ints_rall {I : Hp} : ∀ ns : List Int, RpAll K I (ns.map V.int) (ns.map PyData.int)
  | [] => .nil
  | n :: ns => .cons (.int n) (ints_rall ns)
/-- <= of tuples of whole numbers, as the library tells it -/
def leT (ns ms : List Int) : Bool := Ob.lexAt (fun j => decide (ns.getD j 0 = ms.getD j 0)) (fun j => decide (ns.getD j 0 ≤ ms.getD j 0)) (decide (ns.length ≤ ms.length)) 0 (min ns.length ms.length)
theorem rd_leT {ns ms : List Int} : R2D K (rLeA K) (.tuple (ns.map .int)) (.tuple (ms.map .int)) (.bool (leT ns ms)) := fun H I v u s r1 r2 Q q => by
  cases r1 with
  | tup h1 a1 =>
    cases r2 with
    | tup h2 a2 =>
      have e1 := rall_ints a1
      have e2 := rall_ints a2
      subst e1 e2
      exact .inr ⟨_, _, ns, ms, rfl, rfl, .of (s _ _ h1), .of (s _ _ h2), q _ H I (Nx.refl s) (.bl _)⟩
theorem rd_eq (hx : SeqAt.shaped x = true) (hy : SeqAt.shaped y = true) : R2D K (rEqD K) x y (.bool (PyData.eqv x y)) := fun H I v u s r1 r2 Q q =>
  ⟨x, y, (r1.mono s).dp (SeqAt.canLay_of_shaped hx), (r2.mono s).dp (SeqAt.canLay_of_shaped hy), hx, hy, q _ H I (Nx.refl s) (.bl _)⟩
theorem rd_ne (hx : SeqAt.shaped x = true) (hy : SeqAt.shaped y = true) : R2D K (rNeD K) x y (.bool (!PyData.eqv x y)) := fun H I v u s r1 r2 Q q =>
  ⟨x, y, (r1.mono s).dp (SeqAt.canLay_of_shaped hx), (r2.mono s).dp (SeqAt.canLay_of_shaped hy), hx, hy, q _ H I (Nx.refl s) (.bl _)⟩
def isNon : PyData → Bool
  | .none => true
  | _ => false
theorem rp_non {I : Hp} {v : V} (r : Rp K I v x) : decide (v = .non) = isNon x := by
  cases r <;> rfl
theorem rd_isN : R2D K rIsNon x .none (.bool (isNon x)) := fun H I v u s r1 r2 Q q => by
  cases r2
  exact ⟨rfl, by rw [rp_non r1]; exact q _ H I (Nx.refl s) (.bl _)⟩
theorem rd_notN : R2D K rNotNon x .none (.bool (!isNon x)) := fun H I v u s r1 r2 Q q => by
  cases r2
  exact ⟨rfl, by rw [rp_non r1]; exact q _ H I (Nx.refl s) (.bl _)⟩
theorem ev_neg (h : Ev K ta δ (.int i)) : Ev K (tUn rNegA ta) δ (.int (-i)) := fun G σ H I s g r Q q =>
  h G σ H I s g r _ fun v H1 I1 n1 rv => by
    cases rv
    exact ⟨i, rfl, q _ H1 I1 n1 (.int _)⟩
/-! ### subscripts -/
theorem rd_ixL (h : atI xs i = some z) : R2D K (rIx K) (.list xs) (.int i) z := fun H I v u s r1 r2 Q q => by
  cases r1 with
  | lst h1 a1 =>
    cases r2
    unfold atI at h
    cases e : ixN xs.length i with
    | none => rw [e] at h; cases h
    | some j =>
      rw [e] at h
      obtain ⟨w, hw, rw'⟩ := a1.get (show xs[j]? = some z from h)
      refine .inl ⟨_, _, i, w, rfl, rfl, .of (s _ _ h1), ?_, q w H I (Nx.refl s) rw'⟩
      unfold atI
      rw [a1.length, e]
      exact hw
theorem rd_ixT (h : atI xs i = some z) : R2D K (rIx K) (.tuple xs) (.int i) z := fun H I v u s r1 r2 Q q => by
  cases r1 with
  | tup h1 a1 =>
    cases r2
    unfold atI at h
    cases e : ixN xs.length i with
    | none => rw [e] at h; cases h
    | some j =>
      rw [e] at h
      obtain ⟨w, hw, rw'⟩ := a1.get (show xs[j]? = some z from h)
      refine .inr (.inl ⟨_, _, i, w, rfl, rfl, .of (s _ _ h1), ?_, q w H I (Nx.refl s) rw'⟩)
      unfold atI
      rw [a1.length, e]
      exact hw
theorem at_nat {α : Type} {l : List α} {j : Nat} {a : α} (h : l[j]? = some a) : atI l (j : Int) = some a := atI_nat h
/-! ### slices -/
theorem eo_none : EvO K tNoPart δ none := fun G σ H I s g r Q q => q H I (Nx.refl s)
theorem eo_some (h : Ev K te δ (.int i)) : EvO K (tPart te) δ (some i) := fun G σ H I s g r Q q =>
  h G σ H I s g r _ fun v H1 I1 n1 rv => by
    cases rv
    exact ⟨i, rfl, q H1 I1 n1⟩
def cutD (xs : List PyData) (lo hi : Option Int) : List PyData := (xs.drop (HT.sIx xs.length 0 lo)).take (HT.sIx xs.length xs.length hi - HT.sIx xs.length 0 lo)
theorem cut_rp {I : Hp} {vs : List V} (a : RpAll K I vs xs) (lo hi : Option Int) : RpAll K I (cutV vs lo hi) (cutD xs lo hi) := by
  unfold cutV cutD
  rw [a.length]
  exact (a.drop _).take _
def rSlAll (K : PySem.W.Frag) : V → Option Int → Option Int → Hp → VK → Prop := fun x lo hi H Q => rSlA K x lo hi H Q ∨ (rSlL K x lo hi H Q ∨ rSlS x lo hi H Q)
theorem sl_all {X : Cx} : SlR X (rSlAll X.K) := by
  intro pins s σ H x v vl vu lo hi sl Q I rx hs pl pu h
  rcases h with h | h | h
  · exact sl_tupA pins s σ H x v vl vu lo hi sl Q I rx hs pl pu h
  · exact sl_list pins s σ H x v vl vu lo hi sl Q I rx hs pl pu h
  · exact sl_str pins s σ H x v vl vu lo hi sl Q I rx hs pl pu h
theorem sIx_whole {lo hi : Option Int} (h : HT.sIx xs.length 0 lo = 0 ∧ HT.sIx xs.length xs.length hi = xs.length) : cutD xs lo hi = xs := by
  unfold cutD
  rw [h.1, h.2, List.drop_zero, Nat.sub_zero, List.take_length]
theorem ev_slT {tl th : TO} {lo hi : Option Int} (h : Ev K te δ (.tuple xs)) (hl : EvO K tl δ lo) (hh : EvO K th δ hi) : Ev K (tSl (rSlAll K) te tl th) δ (.tuple (cutD xs lo hi)) := fun G σ H I s g r Q q =>
  h G σ H I s g r _ fun v H1 I1 n1 rv => hl G σ H1 I1 n1.s (n1.g g) (r.next n1) _ fun H2 I2 n2 => hh G σ H2 I2 n2.s (n2.g (n1.g g)) ((r.next n1).next n2) _ fun H3 I3 n3 => by
    cases rv with
    | tup h1 a1 =>
      have nn := n2.trans n3
      have h1' := nn.i _ _ h1
      refine .inl ⟨_, _, rfl, .of (n3.s _ _ h1'), fun e => ?_, fun e p hp => ?_⟩
      · rw [a1.length] at e
        rw [sIx_whole e] at q
        exact q _ H3 I3 (n1.trans nn) (.tup h1' (a1.mono nn.i))
      · exact q _ _ _ ((n1.trans nn).trans (Nx.new n3.s hp)) (.tup upd_same (((cut_rp a1 lo hi).mono nn.i).mono (same_new (n3.s.free hp))))
theorem en_slL {tl th : TO} {lo hi : Option Int} (h : Ev K te δ (.list xs)) (hl : EvO K tl δ lo) (hh : EvO K th δ hi) : EvN K (tSl (rSlAll K) te tl th) δ (cutD xs lo hi) := fun G σ H I s g r Q q =>
  h G σ H I s g r _ fun v H1 I1 n1 rv => hl G σ H1 I1 n1.s (n1.g g) (r.next n1) _ fun H2 I2 n2 => hh G σ H2 I2 n2.s (n2.g (n1.g g)) ((r.next n1).next n2) _ fun H3 I3 n3 => by
    cases rv with
    | lst h1 a1 =>
      have nn := n2.trans n3
      have h1' := nn.i _ _ h1
      exact .inr (.inl ⟨_, _, rfl, .of (n3.s _ _ h1'), fun p hp => q p H3 I3 _ (n1.trans nn) hp ((cut_rp a1 lo hi).mono nn.i)⟩)
theorem ev_slS {tl th : TO} {lo hi : Option Int} {z : Str} (h : Ev K te δ (.str z)) (hl : EvO K tl δ lo) (hh : EvO K th δ hi) (hz : z.length ≤ sizeLine) : Ev K (tSl (rSlAll K) te tl th) δ (.str (cutS z lo hi)) := fun G σ H I s g r Q q =>
  h G σ H I s g r _ fun v H1 I1 n1 rv => hl G σ H1 I1 n1.s (n1.g g) (r.next n1) _ fun H2 I2 n2 => hh G σ H2 I2 n2.s (n2.g (n1.g g)) ((r.next n1).next n2) _ fun H3 I3 n3 => by
    cases rv
    exact .inr (.inr ⟨z, rfl, hz, q _ H3 I3 ((n1.trans n2).trans n3) (.str _)⟩)
/-! ### calls -/
theorem rc_lenL : RAD K (rLenA K) [.list xs] (.int xs.length) := fun H I vs s r Q q => by
  cases r with
  | cons r1 r2 =>
    cases r2
    cases r1 with
    | lst h1 a1 =>
      refine ⟨_, _, rfl, .inl ⟨_, .of (s _ _ h1), rfl⟩, ?_⟩
      rw [a1.length]
      exact q _ H I (Nx.refl s) (.int _)
theorem rc_lenT : RAD K (rLenA K) [.tuple xs] (.int xs.length) := fun H I vs s r Q q => by
  cases r with
  | cons r1 r2 =>
    cases r2
    cases r1 with
    | tup h1 a1 =>
      refine ⟨_, _, rfl, .inr ⟨_, .of (s _ _ h1), rfl⟩, ?_⟩
      rw [a1.length]
      exact q _ H I (Nx.refl s) (.int _)
theorem rc_lenS {z : Str} (hz : z.length ≤ sizeLine) : RAD K (rLenA K) [.str z] (.int z.length) := fun H I vs s r Q q => by
  cases r with
  | cons r1 r2 =>
    cases r2
    cases r1
    exact ⟨_, _, rfl, ⟨hz, rfl⟩, q _ H I (Nx.refl s) (.int _)⟩
theorem rc_max2 : RAD K rMax2A [.int i, .int j] (.int (if j > i then j else i)) := fun H I vs s r Q q => by
  cases r with
  | cons r1 r2 =>
    cases r2 with
    | cons r2 r3 =>
      cases r3; cases r1; cases r2
      exact ⟨i, j, rfl, q _ H I (Nx.refl s) (.int _)⟩
theorem rc_min2 : RAD K rMin2A [.int i, .int j] (.int (if j < i then j else i)) := fun H I vs s r Q q => by
  cases r with
  | cons r1 r2 =>
    cases r2 with
    | cons r2 r3 =>
      cases r3; cases r1; cases r2
      exact ⟨i, j, rfl, q _ H I (Nx.refl s) (.int _)⟩
theorem rc_tup : RAD K (rTupA K) [.list xs] (.tuple xs) := fun H I vs s r Q q => by
  cases r with
  | cons r1 r2 =>
    cases r2
    cases r1 with
    | lst h1 a1 => exact ⟨_, _, rfl, .inl ⟨.of (s _ _ h1), fun p hp => q _ _ _ (Nx.new s hp) (.tup upd_same (a1.mono (same_new (s.free hp))))⟩⟩
theorem rc_lst : RAN K (rLstA K) [.list xs] xs := fun H I vs s r Q q => by
  cases r with
  | cons r1 r2 =>
    cases r2
    cases r1 with
    | lst h1 a1 => exact ⟨_, _, rfl, .inl (.of (s _ _ h1)), fun p hp => q p H I _ (Nx.refl s) hp a1⟩
theorem rc_lstT : RAN K (rLstA K) [.tuple xs] xs := fun H I vs s r Q q => by
  cases r with
  | cons r1 r2 =>
    cases r2
    cases r1 with
    | tup h1 a1 => exact ⟨_, _, rfl, .inr (.of (s _ _ h1)), fun p hp => q p H I _ (Nx.refl s) hp a1⟩
theorem rc_int : RAD K rIntA [.int i] (.int i) := fun H I vs s r Q q => by
  cases r with
  | cons r1 r2 =>
    cases r2
    cases r1
    exact .inl ⟨i, rfl, q _ H I (Nx.refl s) (.int _)⟩
theorem rc_intB {b : Bool} : RAD K rIntA [.bool b] (.int (if b then 1 else 0)) := fun H I vs s r Q q => by
  cases r with
  | cons r1 r2 =>
    cases r2
    cases r1
    exact .inr ⟨b, rfl, q _ H I (Nx.refl s) (.int _)⟩
theorem rc_abs : RAD K rAbsA [.int i] (.int (if i < 0 then -i else i)) := fun H I vs s r Q q => by
  cases r with
  | cons r1 r2 =>
    cases r2
    cases r1
    exact ⟨i, rfl, q _ H I (Nx.refl s) (.int _)⟩
theorem rc_sum {ns : List Int} : RAD K (rSum K) [.list (ns.map .int)] (.int ns.sum) := fun H I vs s r Q q => by
  cases r with
  | cons r1 r2 =>
    cases r2
    cases r1 with
    | lst h1 a1 =>
      have e := rall_ints a1
      subst e
      exact ⟨_, ns, rfl, .of (s _ _ h1), q _ H I (Nx.refl s) (.int _)⟩
theorem rall_bls {I : Hp} : ∀ {ns : List Bool} {vs : List V}, RpAll K I vs (ns.map PyData.bool) → vs = ns.map V.bl
  | [], _, h => by cases h; rfl
  | n :: ns, _, h => by
    cases h with
    | cons h1 h2 =>
      cases h1
      rw [rall_bls h2]
      rfl
theorem rc_any {bs : List Bool} : RAD K (rAny K) [.list (bs.map .bool)] (.bool (bs.any id)) := fun H I vs s r Q q => by
  cases r with
  | cons r1 r2 =>
    cases r2
    cases r1 with
    | lst h1 a1 =>
      have e := rall_bls a1
      subst e
      exact ⟨_, bs, rfl, .of (s _ _ h1), q _ H I (Nx.refl s) (.bl _)⟩
/-! ### isinstance -/
def tyD : PyData → String
  | .none => "NoneType"
  | .bool _ => "bool"
  | .int _ => "int"
  | .str _ => "str"
  | .list _ => "list"
  | .tuple _ => "tuple"
  | .dict [] => "dict"
  | .dict _ => "list"
theorem rp_ty {I H : Hp} (s : Same I H) {v : V} {d : PyData} (r : Rp K I v d) (hd : ∀ q, d ≠ .dict [q]) : TyX K H v (.type (tyD d)) := by
  cases r with
  | non => exact .base .non
  | bl b => exact .base (.bl b)
  | int i => exact .base (.int i)
  | str x => exact .base (.str x)
  | lst h _ => exact .base (.lst (s _ _ h))
  | tup h _ => exact .base (.tup (s _ _ h))
  | dct h => exact .base (.dK (s _ _ h))
  | scr h => exact absurd rfl (hd _)
/-- isinstance(x, T), T a built-in class -/
theorem ev_isi {n : String} {b : Bool} (h : Ev K te δ x) (hb : kitB (tyD x) n = some b) (hd : ∀ q, x ≠ .dict [q]) : Ev K (tCB (rIsi K) (tCons te (tCons (tC (.ty n)) tNil))) δ (.bool b) := fun G σ H I s g r Q q =>
  h G σ H I s g r _ fun v H1 I1 n1 rv => ⟨v, .ty n, .type (tyD x), .type n, b, rfl, .ty n, rp_ty n1.s rv hd, kit_ty hb, q _ H1 I1 n1 (.bl b)⟩
end
end Tw

/-! Tw3: zip of two and of three things, each a list or a tuple, in any mix. -/
namespace Tw
open PySem PySem.Spec PyProof.Rows L2

/-- a list (true) or a tuple (false) that is read -/
def Sr (K : PySem.W.Frag) (k : Bool) (H : Hp) (a : Addr) (xs : List V) : Prop := if k = true then SqL K H a xs else SqT K H a xs
def kHolds (k : Bool) (a : Addr) (items : Array Value) (h : Heap) : Prop := if k = true then h.IsList a items else h.IsTuple a items
def kIter (k : Bool) (it a : Addr) (i : Nat) (h : Heap) : Prop := if k = true then h.IsListIter it a i else h.IsTupleIter it a i
def kObj (k : Bool) (a : Addr) : Obj := { cls := .type (if k = true then "list_iterator" else "tuple_iterator"), data := .fields #[.ref a, .int 0 0] }
theorem k_draws {prog : Program} {w : World} {A : Around} (hh : A.handled = none) (k : Bool) (it a : Addr) (hne : a ≠ it) (items : Array Value) :
    Draws prog w A it [it, a] items.size (fun i v => items[i]? = some v) (fun i h => kIter k it a i h ∧ kHolds k a items h) := by
  cases k with
  | true => exact Draws.list hh it a hne items
  | false => exact Draws.tuple hh it a hne items
theorem k_begins (k : Bool) (a : Addr) (items : Array Value) : Begins (.ref a) (kObj k a) (kHolds k a items) := by
  cases k with
  | true => exact begins_list a items
  | false => exact begins_tuple a items
theorem k_read {X : Cx} {pins : List (Addr × Obj)} {σ : L2.St} {H : Hp} {s : Shared} {k : Bool} {a : Addr} {xs : List V} (I : Inv X pins σ H s) (h : Sr X.K k H a xs) :
    ∃ its : List Value, Vals xs its ∧ kHolds k a its.toArray s.heap ∧ a < s.heap.objs.size := by
  cases k with
  | true =>
    obtain ⟨its, r, p, _⟩ := I.list (show SqL X.K H a xs from h)
    exact ⟨its, r, p.isList, p.lt⟩
  | false =>
    obtain ⟨its, r, p, _⟩ := I.tuple (show SqT X.K H a xs from h)
    obtain ⟨o, ho, _⟩ := id p
    exact ⟨its, r, p, Heap.lt_size ho⟩
theorem k_inj {X : Cx} {pins : List (Addr × Obj)} {σ : L2.St} {H : Hp} {s : Shared} {k : Bool} {a : Addr} {xs ys : List V} (I : Inv X pins σ H s) (h : Sr X.K k H a xs) (h' : Sr X.K k H a ys) : xs = ys := by
  cases k with
  | true => exact I.list_inj (show SqL X.K H a xs from h) h'
  | false => exact I.tuple_inj (show SqT X.K H a xs from h) h'
theorem k_at {k : Bool} {it a : Addr} {i : Nat} {h h' : Heap} (x : kIter k it a i h) (e : ∀ o, h.get? it = some o → h'.get? it = some o) : kIter k it a i h' := by
  cases k with
  | true =>
    obtain ⟨o, h1, h2⟩ := (show h.IsListIter it a i from x)
    exact ⟨o, e o h1, h2⟩
  | false =>
    obtain ⟨o, h1, h2⟩ := (show h.IsTupleIter it a i from x)
    exact ⟨o, e o h1, h2⟩
theorem k_get {k : Bool} {it a : Addr} {i : Nat} {h : Heap} (x : kIter k it a i h) : ∃ o, h.get? it = some o ∧ ∀ v, o.data ≠ .cell v := by
  cases k with
  | true =>
    obtain ⟨o, h1, _, h2⟩ := (show h.IsListIter it a i from x)
    exact ⟨o, h1, fun v z => by rw [h2] at z; cases z⟩
  | false =>
    obtain ⟨o, h1, _, h2⟩ := (show h.IsTupleIter it a i from x)
    exact ⟨o, h1, fun v z => by rw [h2] at z; cases z⟩
theorem k_new {k : Bool} {it a : Addr} {h : Heap} (e : h.get? it = some (kObj k a)) : kIter k it a 0 h := by
  cases k with
  | true => exact ⟨_, e, rfl, rfl⟩
  | false => exact ⟨_, e, rfl, rfl⟩

/-! ### two -/
def ItZ2 (K : PySem.W.Frag) (k1 k2 : Bool) (a b : Addr) : It :=
  ⟨fun i H => ∃ (xs ys : List V) (x y : V), Sr K k1 H a xs ∧ Sr K k2 H b ys ∧ xs[i]? = some x ∧ ys[i]? = some y,
    fun i H v H' => ∃ T x y, v = .ref T ∧ H T = none ∧ H' = upd H T (.tup [x, y]) ∧ (∀ xs, Sr K k1 H a xs → xs[i]? = some x) ∧ (∀ ys, Sr K k2 H b ys → ys[i]? = some y),
    fun i H => ∃ xs ys : List V, Sr K k1 H a xs ∧ Sr K k2 H b ys ∧ i ≤ xs.length ∧ i ≤ ys.length ∧ (i = xs.length ∨ i = ys.length)⟩
theorem turn_z2 {P : Program} {w : World} {K : PySem.W.Frag} {elts : List Expr} {kk : Nat} {tpos : Pos} {k1 k2 : Bool} {a b z TI TO i1 i2 : Addr} (D : ZipSep2 z TI TO i1 i2 [i1, a] [i2, b]) (n1 : a ≠ i1) (n2 : b ≠ i2) :
    Turn P w K (.Tuple elts kk tpos) (ItZ2 K k1 k2 a b) [z, TI, TO, i1, i2] z (fun i h => IsZip h z TI TO .none ∧ IsTupOf2 h TI (.ref i1) (.ref i2) ∧ (∃ x y, IsTupOf2 h TO x y) ∧ kIter k1 i1 a i h ∧ kIter k2 i2 b i h) where
  mem := by simp
  obj := fun i h st c hc => by
    obtain ⟨hz, hTI, ⟨x, y, hTO⟩, h1, h2⟩ := st
    have e' : c = z ∨ c = TI ∨ c = TO ∨ c = i1 ∨ c = i2 := by simpa using hc
    rcases e' with q | q | q | q | q
    · rw [q]; exact ⟨_, hz, fun v q => nomatch q⟩
    · rw [q]; exact ⟨_, hTI, fun v q => nomatch q⟩
    · rw [q]; exact ⟨_, hTO, fun v q => nomatch q⟩
    · rw [q]; exact k_get h1
    · rw [q]; exact k_get h2
  keep := fun i h h' st k => by
    obtain ⟨hz, hTI, ⟨x, y, hTO⟩, h1, h2⟩ := st
    exact ⟨k z (by simp) _ hz, k TI (by simp) _ hTI, ⟨x, y, k TO (by simp) _ hTO⟩, k_at h1 fun o q => k i1 (by simp) o q, k_at h2 fun o q => k i2 (by simp) o q⟩
  item := by
    intro X hP hw hK hc i pins s σ H E I hf st hg
    subst hP hw hK
    obtain ⟨hz, hTI, ⟨x0, y0, hTO⟩, h1, h2⟩ := st
    obtain ⟨xs, ys, x, y, q1, q2, e1, e2⟩ := hg
    obtain ⟨its1, rv1, p1, _⟩ := k_read I q1
    obtain ⟨u1, hu1, ru1⟩ := rv1.get e1
    obtain ⟨its2, rv2, p2, _⟩ := k_read I q2
    obtain ⟨u2, hu2, ru2⟩ := rv2.get e2
    have hh : X.A.in1.handled = none := I.ok.hd hc
    have hzl : z < s.heap.objs.size := Heap.lt_size hz
    have lt1 : i < its1.toArray.size := by
      rw [List.size_toArray]
      exact (List.getElem?_eq_some_iff.mp hu1).1
    have lt2 : i < its2.toArray.size := by
      rw [List.size_toArray]
      exact (List.getElem?_eq_some_iff.mp hu2).1
    refine wpAny_pyNext_zipD2_item D (k_draws (prog := X.prog) (w := X.w) hh k1 i1 a n1 its1.toArray) (k_draws (prog := X.prog) (w := X.w) hh k2 i2 b n2 its2.toArray) hz hTI hTO ⟨h1, p1⟩ ⟨h2, p2⟩ lt1 lt2 fun w1 w2 h' tk y1 y2 z' TO' d1 d2 hT hsz hk => ?_
    have ew1 : w1 = u1 := by
      have q : its1.toArray[i]? = some u1 := by simpa using hu1
      have y1' : its1.toArray[i]? = some w1 := y1
      rw [q] at y1'
      exact (Option.some.inj y1').symm
    subst ew1
    have ew2 : w2 = u2 := by
      have q : its2.toArray[i]? = some u2 := by simpa using hu2
      have y2' : its2.toArray[i]? = some w2 := y2
      rw [q] at y2'
      exact (Option.some.inj y2').symm
    subst ew2
    refine ⟨_, rfl, wpAny_letOwnedTupleGo_zip (s := { s with heap := h', toks := tk }) z' fun h'' z'' sb => ?_⟩
    have hT2 : h''.get? s.heap.objs.size = some { cls := .type "tuple", data := .seq #[w1, w2] } := (sb.2 _ (Nat.ne_of_gt hzl)).trans hT
    have new : ObjOk X.prog X.w (upd H s.heap.objs.size (.tup [x, y])) h'' s.heap.objs.size (.tup [x, y]) := ⟨by show 2 ≤ sizeLine; decide, [w1, w2], .cons ru1 (.cons ru2 (.nil)), ⟨_, hT2, rfl, _, rfl⟩⟩
    have I1 : Inv X pins σ (upd H s.heap.objs.size (.tup [x, y])) { s with heap := h'', toks := tk } :=
      I.turnedNew (ch := [z, TI, TO, i1, i2]) (fun c o hb q => (sb.2 c (fun q' => hb (by simp [q']))).trans (hk c o (fun q' => hb (by simp [q'])) (fun q' => hb (by simp [q'])) (fun q' => hb (by simp [q'])) (fun q' => hb (by simp [q'])) q)) hf (Nat.le_refl _) new
    refine ⟨.ref s.heap.objs.size, _, I1, rfl, ⟨_, x, y, rfl, I.hok.fresh (Nat.le_refl _), rfl, fun l hl => by rw [k_inj I hl q1]; exact e1, fun l hl => by rw [k_inj I hl q2]; exact e2⟩, ⟨z'', (sb.2 _ D.TIz).trans (hk _ _ D.TIz D.TITO D.TIi1 D.TIi2 hTI), ⟨w1, w2, (sb.2 _ D.TOz).trans TO'⟩, k_at d1.1 fun o q => (sb.2 _ (fun e => D.zf1 (by rw [← e]; exact List.mem_cons_self))).trans q, k_at d2.1 fun o q => (sb.2 _ (fun e => D.zf2 (by rw [← e]; exact List.mem_cons_self))).trans q⟩, fun c hcm => ?_⟩
    have hlt : c < s.heap.objs.size := by
      have e' : c = z ∨ c = TI ∨ c = TO ∨ c = i1 ∨ c = i2 := by simpa using hcm
      rcases e' with q | q | q | q | q
      · rw [q]; exact hzl
      · rw [q]; exact Heap.lt_size hTI
      · rw [q]; exact Heap.lt_size hTO
      · rw [q]; obtain ⟨_, e1, _⟩ := k_get h1; exact Heap.lt_size e1
      · rw [q]; obtain ⟨_, e1, _⟩ := k_get h2; exact Heap.lt_size e1
    rw [upd_ne (Nat.ne_of_lt hlt)]
    exact (hf c hcm).1
  done := by
    intro X hP hw hK hc i pins s σ H E I hf st hg
    subst hP hw hK
    obtain ⟨hz, hTI, ⟨x0, y0, hTO⟩, h1, h2⟩ := st
    obtain ⟨xs, ys, q1, q2, l1, l2, hend⟩ := hg
    obtain ⟨its1, rv1, p1, _⟩ := k_read I q1
    have z1 : its1.toArray.size = xs.length := by rw [List.size_toArray]; exact rv1.length.symm
    obtain ⟨its2, rv2, p2, _⟩ := k_read I q2
    have z2 : its2.toArray.size = ys.length := by rw [List.size_toArray]; exact rv2.length.symm
    have hh : X.A.in1.handled = none := I.ok.hd hc
    refine wpAny_pyNext_zipD2_end D (k_draws (prog := X.prog) (w := X.w) hh k1 i1 a n1 its1.toArray) (k_draws (prog := X.prog) (w := X.w) hh k2 i2 b n2 its2.toArray) hz hTI hTO ⟨h1, p1⟩ ⟨h2, p2⟩ (by rw [z1]; exact l1) (by rw [z2]; exact l2) (by rw [z1, z2]; exact hend) fun h' tk hk => ⟨rfl, I.turnedL (ch := [z, TI, TO, i1, i2]) (fun c o hb q => hk c o (fun q' => hb (by simp [q'])) (fun q' => hb (by simp [q'])) (fun q' => hb (by simp [q'])) (fun q' => hb (by simp [q'])) q) hf⟩
  self := fun A i s Q E st h => wpAny_pyIter_zip st.1 h
def iZip2 (K : PySem.W.Frag) (ta : TA) : TI := fun σ H R => ta σ H fun vs H1 => ∃ (k1 k2 : Bool) (a b : Addr) (xs ys : List V), vs = [.ref a, .ref b] ∧ Sr K k1 H1 a xs ∧ Sr K k2 H1 b ys ∧ R (ItZ2 K k1 k2 a b) H1
theorem pi_zip2 {X : Cx} {e e2 : Expr} {ta : TA} {p pos tpos : Pos} {elts : List Expr} {kk : Nat} (hg : Gl X "zip") (hm : X.mg "zip" = none) (ha : PA X [e, e2] ta)
    (hs : starEach [e, e2] X.env = (false, eval e X.env) :: starEach [e2] X.env := by rfl) (hpl : (backTo pos (starEach [e2] X.env)).any (·.1) = false := by rfl) :
    PI X (.Tuple elts kk tpos) (.Call (.Name "zip" p) [e, e2] [] pos) (iZip2 X.K ta) := by
  refine ⟨fun pins s σ H R I h => ?_⟩
  refine Call_ (ld_blt I hg hm PyProof.Rows.boot_zip (PyProof.Rows.callWith_type1 (thn (ha.run pos pins s σ H _ I h) fun us s1 ⟨vs, H1, I1, r1, q1⟩ => ?_) hs hpl))
  obtain ⟨k1, k2, a, b, xs, ys, ex, q1, q2, q⟩ := q1
  subst ex
  have uu : us = [Value.ref a, Value.ref b] := by
    cases r1 with
    | cons r rr =>
      cases rr with
      | cons r2 rr =>
        cases rr
        cases r
        cases r2
        rfl
  subst uu
  obtain ⟨its1, rv1, p1, lt1⟩ := k_read I1 q1
  obtain ⟨its2, rv2, p2, lt2⟩ := k_read I1 q2
  refine zip_begins2 (k_begins k1 a its1.toArray) (k_begins k2 b its2.toArray) p1 p2 fun h' hz hTI hTO g1 g2 hsz hk => wpAny_pyIter_zip hz ?_
  have I2 : Inv X pins σ H1 { s1 with heap := h' } := I1.kept (t' := s1.toks) hk
  have fresh : ∀ c, c ∈ [s1.heap.objs.size + 4, s1.heap.objs.size + 2, s1.heap.objs.size + 3, s1.heap.objs.size, s1.heap.objs.size + 1] → FpOk X pins H1 c := fun c hcm => by
    have e' : c = s1.heap.objs.size + 4 ∨ c = s1.heap.objs.size + 2 ∨ c = s1.heap.objs.size + 3 ∨ c = s1.heap.objs.size ∨ c = s1.heap.objs.size + 1 := by simpa using hcm
    have hle : s1.heap.objs.size ≤ c := by
      rcases e' with z | z | z | z | z
      · rw [z]; exact Nat.le_add_right _ _
      · rw [z]; exact Nat.le_add_right _ _
      · rw [z]; exact Nat.le_add_right _ _
      · rw [z]; exact Nat.le_refl _
      · rw [z]; exact Nat.le_add_right _ _
    exact I1.fpOk hle (I1.hok.fresh hle)
  exact ⟨s1.heap.objs.size + 4, [s1.heap.objs.size + 4, s1.heap.objs.size + 2, s1.heap.objs.size + 3, s1.heap.objs.size, s1.heap.objs.size + 1], _, _, H1, rfl, I2, turn_z2 (zip_sep2 (fun b hb => by rw [List.mem_singleton.mp hb]; exact lt1) (fun b hb => by rw [List.mem_singleton.mp hb]; exact lt2)) (Nat.ne_of_lt (Nat.lt_of_lt_of_le lt1 (Nat.le_refl _))) (Nat.ne_of_lt (Nat.lt_of_lt_of_le lt2 (Nat.le_add_right _ _))), ⟨hz, hTI, ⟨_, _, hTO⟩, k_new g1, k_new g2⟩, fresh, q⟩
/-! ### three -/
def ItZ3 (K : PySem.W.Frag) (k1 k2 k3 : Bool) (a b c : Addr) : It :=
  ⟨fun i H => ∃ (xs ys zs : List V) (x y u : V), Sr K k1 H a xs ∧ Sr K k2 H b ys ∧ Sr K k3 H c zs ∧ xs[i]? = some x ∧ ys[i]? = some y ∧ zs[i]? = some u,
    fun i H v H' => ∃ T x y u, v = .ref T ∧ H T = none ∧ H' = upd H T (.tup [x, y, u]) ∧ (∀ xs, Sr K k1 H a xs → xs[i]? = some x) ∧ (∀ ys, Sr K k2 H b ys → ys[i]? = some y) ∧ (∀ zs, Sr K k3 H c zs → zs[i]? = some u),
    fun i H => ∃ xs ys zs : List V, Sr K k1 H a xs ∧ Sr K k2 H b ys ∧ Sr K k3 H c zs ∧ i ≤ xs.length ∧ i ≤ ys.length ∧ i ≤ zs.length ∧ (i = xs.length ∨ i = ys.length ∨ i = zs.length)⟩
theorem turn_z3 {P : Program} {w : World} {K : PySem.W.Frag} {elts : List Expr} {kk : Nat} {tpos : Pos} {k1 k2 k3 : Bool} {a b c z TI TO i1 i2 i3 : Addr} (D : ZipSep3 z TI TO i1 i2 i3 [i1, a] [i2, b] [i3, c]) (n1 : a ≠ i1) (n2 : b ≠ i2) (n3 : c ≠ i3) :
    Turn P w K (.Tuple elts kk tpos) (ItZ3 K k1 k2 k3 a b c) [z, TI, TO, i1, i2, i3] z (fun i h => IsZip h z TI TO .none ∧ IsTupOf3 h TI (.ref i1) (.ref i2) (.ref i3) ∧ (∃ x y u, IsTupOf3 h TO x y u) ∧ kIter k1 i1 a i h ∧ kIter k2 i2 b i h ∧ kIter k3 i3 c i h) where
  mem := by simp
  obj := fun i h st c hc => by
    obtain ⟨hz, hTI, ⟨x, y, u, hTO⟩, h1, h2, h3⟩ := st
    have e' : c = z ∨ c = TI ∨ c = TO ∨ c = i1 ∨ c = i2 ∨ c = i3 := by simpa using hc
    rcases e' with q | q | q | q | q | q
    · rw [q]; exact ⟨_, hz, fun v q => nomatch q⟩
    · rw [q]; exact ⟨_, hTI, fun v q => nomatch q⟩
    · rw [q]; exact ⟨_, hTO, fun v q => nomatch q⟩
    · rw [q]; exact k_get h1
    · rw [q]; exact k_get h2
    · rw [q]; exact k_get h3
  keep := fun i h h' st k => by
    obtain ⟨hz, hTI, ⟨x, y, u, hTO⟩, h1, h2, h3⟩ := st
    exact ⟨k z (by simp) _ hz, k TI (by simp) _ hTI, ⟨x, y, u, k TO (by simp) _ hTO⟩, k_at h1 fun o q => k i1 (by simp) o q, k_at h2 fun o q => k i2 (by simp) o q, k_at h3 fun o q => k i3 (by simp) o q⟩
  item := by
    intro X hP hw hK hc i pins s σ H E I hf st hg
    subst hP hw hK
    obtain ⟨hz, hTI, ⟨x0, y0, u0, hTO⟩, h1, h2, h3⟩ := st
    obtain ⟨xs, ys, zs, x, y, u, q1, q2, q3, e1, e2, e3⟩ := hg
    obtain ⟨its1, rv1, p1, _⟩ := k_read I q1
    obtain ⟨u1, hu1, ru1⟩ := rv1.get e1
    obtain ⟨its2, rv2, p2, _⟩ := k_read I q2
    obtain ⟨u2, hu2, ru2⟩ := rv2.get e2
    obtain ⟨its3, rv3, p3, _⟩ := k_read I q3
    obtain ⟨u3, hu3, ru3⟩ := rv3.get e3
    have hh : X.A.in1.handled = none := I.ok.hd hc
    have hzl : z < s.heap.objs.size := Heap.lt_size hz
    have lt1 : i < its1.toArray.size := by
      rw [List.size_toArray]
      exact (List.getElem?_eq_some_iff.mp hu1).1
    have lt2 : i < its2.toArray.size := by
      rw [List.size_toArray]
      exact (List.getElem?_eq_some_iff.mp hu2).1
    have lt3 : i < its3.toArray.size := by
      rw [List.size_toArray]
      exact (List.getElem?_eq_some_iff.mp hu3).1
    refine wpAny_pyNext_zipD3_item D (k_draws (prog := X.prog) (w := X.w) hh k1 i1 a n1 its1.toArray) (k_draws (prog := X.prog) (w := X.w) hh k2 i2 b n2 its2.toArray) (k_draws (prog := X.prog) (w := X.w) hh k3 i3 c n3 its3.toArray) hz hTI hTO ⟨h1, p1⟩ ⟨h2, p2⟩ ⟨h3, p3⟩ lt1 lt2 lt3 fun w1 w2 w3 h' tk y1 y2 y3 z' TO' d1 d2 d3 hT hsz hk => ?_
    have ew1 : w1 = u1 := by
      have q : its1.toArray[i]? = some u1 := by simpa using hu1
      have y1' : its1.toArray[i]? = some w1 := y1
      rw [q] at y1'
      exact (Option.some.inj y1').symm
    subst ew1
    have ew2 : w2 = u2 := by
      have q : its2.toArray[i]? = some u2 := by simpa using hu2
      have y2' : its2.toArray[i]? = some w2 := y2
      rw [q] at y2'
      exact (Option.some.inj y2').symm
    subst ew2
    have ew3 : w3 = u3 := by
      have q : its3.toArray[i]? = some u3 := by simpa using hu3
      have y3' : its3.toArray[i]? = some w3 := y3
      rw [q] at y3'
      exact (Option.some.inj y3').symm
    subst ew3
    refine ⟨_, rfl, wpAny_letOwnedTupleGo_zip (s := { s with heap := h', toks := tk }) z' fun h'' z'' sb => ?_⟩
    have hT2 : h''.get? s.heap.objs.size = some { cls := .type "tuple", data := .seq #[w1, w2, w3] } := (sb.2 _ (Nat.ne_of_gt hzl)).trans hT
    have new : ObjOk X.prog X.w (upd H s.heap.objs.size (.tup [x, y, u])) h'' s.heap.objs.size (.tup [x, y, u]) := ⟨by show 3 ≤ sizeLine; decide, [w1, w2, w3], .cons ru1 (.cons ru2 (.cons ru3 (.nil))), ⟨_, hT2, rfl, _, rfl⟩⟩
    have I1 : Inv X pins σ (upd H s.heap.objs.size (.tup [x, y, u])) { s with heap := h'', toks := tk } :=
      I.turnedNew (ch := [z, TI, TO, i1, i2, i3]) (fun c o hb q => (sb.2 c (fun q' => hb (by simp [q']))).trans (hk c o (fun q' => hb (by simp [q'])) (fun q' => hb (by simp [q'])) (fun q' => hb (by simp [q'])) (fun q' => hb (by simp [q'])) (fun q' => hb (by simp [q'])) q)) hf (Nat.le_refl _) new
    refine ⟨.ref s.heap.objs.size, _, I1, rfl, ⟨_, x, y, u, rfl, I.hok.fresh (Nat.le_refl _), rfl, fun l hl => by rw [k_inj I hl q1]; exact e1, fun l hl => by rw [k_inj I hl q2]; exact e2, fun l hl => by rw [k_inj I hl q3]; exact e3⟩, ⟨z'', (sb.2 _ D.TIz).trans (hk _ _ D.TIz D.TITO D.TIi1 D.TIi2 D.TIi3 hTI), ⟨w1, w2, w3, (sb.2 _ D.TOz).trans TO'⟩, k_at d1.1 fun o q => (sb.2 _ (fun e => D.zf1 (by rw [← e]; exact List.mem_cons_self))).trans q, k_at d2.1 fun o q => (sb.2 _ (fun e => D.zf2 (by rw [← e]; exact List.mem_cons_self))).trans q, k_at d3.1 fun o q => (sb.2 _ (fun e => D.zf3 (by rw [← e]; exact List.mem_cons_self))).trans q⟩, fun c hcm => ?_⟩
    have hlt : c < s.heap.objs.size := by
      have e' : c = z ∨ c = TI ∨ c = TO ∨ c = i1 ∨ c = i2 ∨ c = i3 := by simpa using hcm
      rcases e' with q | q | q | q | q | q
      · rw [q]; exact hzl
      · rw [q]; exact Heap.lt_size hTI
      · rw [q]; exact Heap.lt_size hTO
      · rw [q]; obtain ⟨_, e1, _⟩ := k_get h1; exact Heap.lt_size e1
      · rw [q]; obtain ⟨_, e1, _⟩ := k_get h2; exact Heap.lt_size e1
      · rw [q]; obtain ⟨_, e1, _⟩ := k_get h3; exact Heap.lt_size e1
    rw [upd_ne (Nat.ne_of_lt hlt)]
    exact (hf c hcm).1
  done := by
    intro X hP hw hK hc i pins s σ H E I hf st hg
    subst hP hw hK
    obtain ⟨hz, hTI, ⟨x0, y0, u0, hTO⟩, h1, h2, h3⟩ := st
    obtain ⟨xs, ys, zs, q1, q2, q3, l1, l2, l3, hend⟩ := hg
    obtain ⟨its1, rv1, p1, _⟩ := k_read I q1
    have z1 : its1.toArray.size = xs.length := by rw [List.size_toArray]; exact rv1.length.symm
    obtain ⟨its2, rv2, p2, _⟩ := k_read I q2
    have z2 : its2.toArray.size = ys.length := by rw [List.size_toArray]; exact rv2.length.symm
    obtain ⟨its3, rv3, p3, _⟩ := k_read I q3
    have z3 : its3.toArray.size = zs.length := by rw [List.size_toArray]; exact rv3.length.symm
    have hh : X.A.in1.handled = none := I.ok.hd hc
    refine wpAny_pyNext_zipD3_end D (k_draws (prog := X.prog) (w := X.w) hh k1 i1 a n1 its1.toArray) (k_draws (prog := X.prog) (w := X.w) hh k2 i2 b n2 its2.toArray) (k_draws (prog := X.prog) (w := X.w) hh k3 i3 c n3 its3.toArray) hz hTI hTO ⟨h1, p1⟩ ⟨h2, p2⟩ ⟨h3, p3⟩ (by rw [z1]; exact l1) (by rw [z2]; exact l2) (by rw [z3]; exact l3) (by rw [z1, z2, z3]; exact hend) fun h' tk hk => ⟨rfl, I.turnedL (ch := [z, TI, TO, i1, i2, i3]) (fun c o hb q => hk c o (fun q' => hb (by simp [q'])) (fun q' => hb (by simp [q'])) (fun q' => hb (by simp [q'])) (fun q' => hb (by simp [q'])) (fun q' => hb (by simp [q'])) q) hf⟩
  self := fun A i s Q E st h => wpAny_pyIter_zip st.1 h
def iZip3 (K : PySem.W.Frag) (ta : TA) : TI := fun σ H R => ta σ H fun vs H1 => ∃ (k1 k2 k3 : Bool) (a b c : Addr) (xs ys zs : List V), vs = [.ref a, .ref b, .ref c] ∧ Sr K k1 H1 a xs ∧ Sr K k2 H1 b ys ∧ Sr K k3 H1 c zs ∧ R (ItZ3 K k1 k2 k3 a b c) H1
theorem pi_zip3 {X : Cx} {e e2 e3 : Expr} {ta : TA} {p pos tpos : Pos} {elts : List Expr} {kk : Nat} (hg : Gl X "zip") (hm : X.mg "zip" = none) (ha : PA X [e, e2, e3] ta)
    (hs : starEach [e, e2, e3] X.env = (false, eval e X.env) :: starEach [e2, e3] X.env := by rfl) (hpl : (backTo pos (starEach [e2, e3] X.env)).any (·.1) = false := by rfl) :
    PI X (.Tuple elts kk tpos) (.Call (.Name "zip" p) [e, e2, e3] [] pos) (iZip3 X.K ta) := by
  refine ⟨fun pins s σ H R I h => ?_⟩
  refine Call_ (ld_blt I hg hm PyProof.Rows.boot_zip (PyProof.Rows.callWith_type1 (thn (ha.run pos pins s σ H _ I h) fun us s1 ⟨vs, H1, I1, r1, q1⟩ => ?_) hs hpl))
  obtain ⟨k1, k2, k3, a, b, c, xs, ys, zs, ex, q1, q2, q3, q⟩ := q1
  subst ex
  have uu : us = [Value.ref a, Value.ref b, Value.ref c] := by
    cases r1 with
    | cons r rr =>
      cases rr with
      | cons r2 rr =>
        cases rr with
        | cons r3 rr =>
          cases rr
          cases r
          cases r2
          cases r3
          rfl
  subst uu
  obtain ⟨its1, rv1, p1, lt1⟩ := k_read I1 q1
  obtain ⟨its2, rv2, p2, lt2⟩ := k_read I1 q2
  obtain ⟨its3, rv3, p3, lt3⟩ := k_read I1 q3
  refine zip_begins3 (k_begins k1 a its1.toArray) (k_begins k2 b its2.toArray) (k_begins k3 c its3.toArray) p1 p2 p3 fun h' hz hTI hTO g1 g2 g3 hsz hk => wpAny_pyIter_zip hz ?_
  have I2 : Inv X pins σ H1 { s1 with heap := h' } := I1.kept (t' := s1.toks) hk
  have fresh : ∀ c, c ∈ [s1.heap.objs.size + 5, s1.heap.objs.size + 3, s1.heap.objs.size + 4, s1.heap.objs.size, s1.heap.objs.size + 1, s1.heap.objs.size + 2] → FpOk X pins H1 c := fun c hcm => by
    have e' : c = s1.heap.objs.size + 5 ∨ c = s1.heap.objs.size + 3 ∨ c = s1.heap.objs.size + 4 ∨ c = s1.heap.objs.size ∨ c = s1.heap.objs.size + 1 ∨ c = s1.heap.objs.size + 2 := by simpa using hcm
    have hle : s1.heap.objs.size ≤ c := by
      rcases e' with z | z | z | z | z | z
      · rw [z]; exact Nat.le_add_right _ _
      · rw [z]; exact Nat.le_add_right _ _
      · rw [z]; exact Nat.le_add_right _ _
      · rw [z]; exact Nat.le_refl _
      · rw [z]; exact Nat.le_add_right _ _
      · rw [z]; exact Nat.le_add_right _ _
    exact I1.fpOk hle (I1.hok.fresh hle)
  exact ⟨s1.heap.objs.size + 5, [s1.heap.objs.size + 5, s1.heap.objs.size + 3, s1.heap.objs.size + 4, s1.heap.objs.size, s1.heap.objs.size + 1, s1.heap.objs.size + 2], _, _, H1, rfl, I2, turn_z3 (zip_sep3 (fun b hb => by rw [List.mem_singleton.mp hb]; exact lt1) (fun b hb => by rw [List.mem_singleton.mp hb]; exact lt2) (fun b hb => by rw [List.mem_singleton.mp hb]; exact lt3)) (Nat.ne_of_lt (Nat.lt_of_lt_of_le lt1 (Nat.le_refl _))) (Nat.ne_of_lt (Nat.lt_of_lt_of_le lt2 (Nat.le_add_right _ _))) (Nat.ne_of_lt (Nat.lt_of_lt_of_le lt3 (Nat.le_add_right _ _))), ⟨hz, hTI, ⟨_, _, _, hTO⟩, k_new g1, k_new g2, k_new g3⟩, fresh, q⟩

def seqD (k : Bool) (xs : List PyData) : PyData := if k = true then .list xs else .tuple xs
theorem seq_rp {K : PySem.W.Frag} {I : Hp} {k : Bool} {v : V} {xs : List PyData} (r : Rp K I v (seqD k xs)) : ∃ a vs, v = .ref a ∧ RpAll K I vs xs ∧ ∀ H, Same I H → Sr K k H a vs := by
  cases k with
  | true =>
    cases (show Rp K I v (.list xs) from r) with
    | lst h a => exact ⟨_, _, rfl, a, fun H s => SqL.of (s _ _ h)⟩
  | false =>
    cases (show Rp K I v (.tuple xs) from r) with
    | tup h a => exact ⟨_, _, rfl, a, fun H s => SqT.of (s _ _ h)⟩
def pairs (xs ys : List PyData) : List PyData := (List.zip xs ys).map fun p => .tuple [p.1, p.2]
theorem pairs_len {xs ys : List PyData} : (pairs xs ys).length = min xs.length ys.length := by unfold pairs; rw [List.length_map, List.length_zip]
theorem pairs_get {xs ys : List PyData} {i : Nat} {d : PyData} (h : (pairs xs ys)[i]? = some d) : ∃ x y, xs[i]? = some x ∧ ys[i]? = some y ∧ d = .tuple [x, y] := by
  unfold pairs at h
  rw [List.getElem?_map] at h
  cases e : (List.zip xs ys)[i]? with
  | none => rw [e] at h; cases h
  | some p =>
    rw [e] at h
    obtain ⟨h1, h2⟩ := List.getElem?_zip_eq_some.mp e
    exact ⟨p.1, p.2, h1, h2, (Option.some.inj h).symm⟩
def triples (xs ys zs : List PyData) : List PyData := (List.zip xs (List.zip ys zs)).map fun p => .tuple [p.1, p.2.1, p.2.2]
theorem triples_len {xs ys zs : List PyData} : (triples xs ys zs).length = min xs.length (min ys.length zs.length) := by unfold triples; rw [List.length_map, List.length_zip, List.length_zip]
theorem triples_get {xs ys zs : List PyData} {i : Nat} {d : PyData} (h : (triples xs ys zs)[i]? = some d) : ∃ x y z, xs[i]? = some x ∧ ys[i]? = some y ∧ zs[i]? = some z ∧ d = .tuple [x, y, z] := by
  unfold triples at h
  rw [List.getElem?_map] at h
  cases e : (List.zip xs (List.zip ys zs))[i]? with
  | none => rw [e] at h; cases h
  | some p =>
    rw [e] at h
    obtain ⟨h1, h2⟩ := List.getElem?_zip_eq_some.mp e
    obtain ⟨h3, h4⟩ := List.getElem?_zip_eq_some.mp h2
    exact ⟨p.1, p.2.1, p.2.2, h1, h3, h4, (Option.some.inj h).symm⟩
section
variable {K : PySem.W.Frag} {δ : List Sl} {xs ys zs : List PyData} {t : TA}
theorem ei_zip2 (k1 k2 : Bool) (h : EvA K t δ [seqD k1 xs, seqD k2 ys]) : EvI K (iZip2 K t) δ (pairs xs ys) := fun G σ H I s g r R q =>
  h G σ H I s g r _ fun vs H1 I1 n1 rv => by
    cases rv with
    | cons r1 rv =>
      cases rv with
      | cons r2 rv =>
        cases rv
        obtain ⟨a, vs1, rfl, a1, s1⟩ := seq_rp r1
        obtain ⟨b, vs2, rfl, a2, s2⟩ := seq_rp r2
        refine ⟨k1, k2, a, b, vs1, vs2, rfl, s1 _ n1.s, s2 _ n1.s, q _ H1 I1 n1 ⟨fun i H2 I2 e1 e2 hi => ?_, fun H2 I2 e1 e2 => ?_, fun i H2 I2 w H3 e1 e2 hi y => ?_⟩⟩
        · rw [pairs_len] at hi
          obtain ⟨u, hu, _⟩ := a1.get (List.getElem?_eq_getElem (show i < xs.length by omega))
          obtain ⟨u2, hu2, _⟩ := a2.get (List.getElem?_eq_getElem (show i < ys.length by omega))
          exact ⟨vs1, vs2, u, u2, s1 _ (e1.trans e2), s2 _ (e1.trans e2), hu, hu2⟩
        · refine ⟨vs1, vs2, s1 _ (e1.trans e2), s2 _ (e1.trans e2), ?_⟩
          rw [pairs_len, a1.length, a2.length]
          omega
        · obtain ⟨T, x, y', rfl, hT, rfl, f1, f2⟩ := y
          refine ⟨upd I2 T (.tup [x, y']), Nx.new e2 hT, fun d hd => ?_⟩
          obtain ⟨dx, dy, g1, g2, rfl⟩ := pairs_get hd
          obtain ⟨u, hu, ru⟩ := a1.get g1
          obtain ⟨u2, hu2, ru2⟩ := a2.get g2
          have q1 := f1 vs1 (s1 _ (e1.trans e2))
          have q2 := f2 vs2 (s2 _ (e1.trans e2))
          rw [hu] at q1
          rw [hu2] at q2
          cases q1
          cases q2
          have e3 : Same I1 (upd I2 T (.tup [x, y'])) := e1.trans (same_new (e2.free hT))
          exact .tup upd_same (.cons (ru.mono e3) (.cons (ru2.mono e3) .nil))
theorem ei_zip3 (k1 k2 k3 : Bool) (h : EvA K t δ [seqD k1 xs, seqD k2 ys, seqD k3 zs]) : EvI K (iZip3 K t) δ (triples xs ys zs) := fun G σ H I s g r R q =>
  h G σ H I s g r _ fun vs H1 I1 n1 rv => by
    cases rv with
    | cons r1 rv =>
      cases rv with
      | cons r2 rv =>
        cases rv with
        | cons r3 rv =>
          cases rv
          obtain ⟨a, vs1, rfl, a1, s1⟩ := seq_rp r1
          obtain ⟨b, vs2, rfl, a2, s2⟩ := seq_rp r2
          obtain ⟨c, vs3, rfl, a3, s3⟩ := seq_rp r3
          refine ⟨k1, k2, k3, a, b, c, vs1, vs2, vs3, rfl, s1 _ n1.s, s2 _ n1.s, s3 _ n1.s, q _ H1 I1 n1 ⟨fun i H2 I2 e1 e2 hi => ?_, fun H2 I2 e1 e2 => ?_, fun i H2 I2 w H3 e1 e2 hi y => ?_⟩⟩
          · rw [triples_len] at hi
            obtain ⟨u, hu, _⟩ := a1.get (List.getElem?_eq_getElem (show i < xs.length by omega))
            obtain ⟨u2, hu2, _⟩ := a2.get (List.getElem?_eq_getElem (show i < ys.length by omega))
            obtain ⟨u3, hu3, _⟩ := a3.get (List.getElem?_eq_getElem (show i < zs.length by omega))
            exact ⟨vs1, vs2, vs3, u, u2, u3, s1 _ (e1.trans e2), s2 _ (e1.trans e2), s3 _ (e1.trans e2), hu, hu2, hu3⟩
          · refine ⟨vs1, vs2, vs3, s1 _ (e1.trans e2), s2 _ (e1.trans e2), s3 _ (e1.trans e2), ?_⟩
            rw [triples_len, a1.length, a2.length, a3.length]
            omega
          · obtain ⟨T, x, y', z', rfl, hT, rfl, f1, f2, f3⟩ := y
            refine ⟨upd I2 T (.tup [x, y', z']), Nx.new e2 hT, fun d hd => ?_⟩
            obtain ⟨dx, dy, dz, g1, g2, g3, rfl⟩ := triples_get hd
            obtain ⟨u, hu, ru⟩ := a1.get g1
            obtain ⟨u2, hu2, ru2⟩ := a2.get g2
            obtain ⟨u3, hu3, ru3⟩ := a3.get g3
            have q1 := f1 vs1 (s1 _ (e1.trans e2))
            have q2 := f2 vs2 (s2 _ (e1.trans e2))
            have q3 := f3 vs3 (s3 _ (e1.trans e2))
            rw [hu] at q1
            rw [hu2] at q2
            rw [hu3] at q3
            cases q1
            cases q2
            cases q3
            have e3 : Same I1 (upd I2 T (.tup [x, y', z'])) := e1.trans (same_new (e2.free hT))
            exact .tup upd_same (.cons (ru.mono e3) (.cons (ru2.mono e3) (.cons (ru3.mono e3) .nil)))
end
end Tw

/-! Tw4: the script as data; rows, moves, nets; what the laws draw. -/
namespace Tw
open PySem PySem.Spec PyProof.Rows L2

/-! ### the script -/
def scrD (ns : List Int) : PyData := .dict [(.none, .list (ns.map .int))]
section
variable {K : PySem.W.Frag} {δ : List Sl} {ta tb te : TE} {ns : List Int} {i : Int}
theorem map_int_inj : ∀ {a b : List Int}, a.map PyData.int = b.map PyData.int → a = b
  | [], [], _ => rfl
  | [], _ :: _, h => by cases h
  | _ :: _, [], h => by cases h
  | x :: xs, y :: ys, h => by
    rw [List.map_cons, List.map_cons] at h
    injection h with h1 h2
    injection h1 with h1
    rw [h1, map_int_inj h2]
theorem rp_scr {I : Hp} {v : V} (r : Rp K I v (scrD ns)) : ∃ a, v = .ref a ∧ SqL K I a (ns.map V.int) := by
  unfold scrD at r
  generalize e : (PyData.dict [(PyData.none, PyData.list (ns.map PyData.int))]) = d at r
  cases r with
  | @scr a ms h =>
    injection e with e
    injection e with e _
    injection e with _ e
    injection e with e
    rw [map_int_inj e]
    exact ⟨a, rfl, h⟩
  | _ => simp at e
theorem rc_lenZ : RAD K (rLenA K) [scrD ns] (.int ns.length) := fun H I vs s r Q q => by
  cases r with
  | cons r1 r2 =>
    cases r2
    obtain ⟨a, rfl, h⟩ := rp_scr r1
    refine ⟨_, _, rfl, .inl ⟨_, s.seq h, rfl⟩, ?_⟩
    rw [List.length_map]
    exact q _ H I (Nx.refl s) (.int _)
theorem rd_ixZ {z : Int} (h : atI ns i = some z) : R2D K (rIx K) (scrD ns) (.int i) (.int z) := fun H I v u s r1 r2 Q q => by
  obtain ⟨a, rfl, hl⟩ := rp_scr r1
  cases r2
  refine .inl ⟨a, _, i, .int z, rfl, rfl, s.seq hl, ?_, q _ H I (Nx.refl s) (.int z)⟩
  unfold atI at h ⊢
  rw [List.length_map]
  cases e : ixN ns.length i with
  | none => rw [e] at h; cases h
  | some j =>
    rw [e] at h
    show (ns.map V.int)[j]? = _
    rw [List.getElem?_map]
    rw [show ns[j]? = some z from h]
    rfl
theorem lay_ints : ∀ ns : List Int, PyData.canLayAll0 (ns.map PyData.int) = true
  | [] => rfl
  | n :: ns => by
    show (PyData.canLay0 (.int n) && PyData.canLayAll0 (ns.map PyData.int)) = true
    rw [lay_ints ns]
    rfl
theorem depth_ints : ∀ ns : List Int, PyData.depthAll (ns.map PyData.int) ≤ 0
  | [] => by decide
  | n :: ns => by
    have h := depth_ints ns
    show max (PyData.depth (.int n)) (PyData.depthAll (ns.map PyData.int)) ≤ 0
    have : PyData.depth (.int n) = 0 := rfl
    omega
theorem rd_eqZ : R2D K (rEqD K) (scrD ns) (.list []) (.bool (PyData.eqv (.list (ns.map .int)) (.list []))) := fun H I v u s r1 r2 Q q => by
  obtain ⟨a, rfl, hl⟩ := rp_scr r1
  cases r2 with
  | lst h2 a2 =>
    cases a2
    refine ⟨.list (ns.map .int), .list [], .lst (s.seq hl) ((ints_rall (K := K) (I := H) ns).dp (lay_ints ns)), .lst (.of (s _ _ h2)) .nil, ?_, by decide, q _ H I (Nx.refl s) (.bl _)⟩
    · have h1 : (PyData.list (ns.map .int)).canLay0 = true := lay_ints ns
      have h2 : (PyData.list (ns.map .int)).depth ≤ 64 := by
        have := depth_ints ns
        show PyData.depthAll (ns.map .int) + 1 ≤ 64
        omega
      show (PyData.canLay0 _ && decide _) = true
      rw [h1, decide_eq_true h2]
      rfl
end

/-! ### what the laws draw -/
def cellF (ns : List Int) (k : Int) : Int := if k < ns.length then ns.getD k.toNat 0 else if ns = [] then 0 else ns.getD (k % ns.length).toNat 0 * 31 + k
def drawnF (ns : List Int) (k : Int) : Int := (cellF ns k + 7919 * k + 1) * 48271 % 2147483647
def mixedF (ns : List Int) (k many : Int) : Int := (drawnF ns k * drawnF ns k + 7 * drawnF ns k + k) % 2147483629 % many
theorem mixed_lo (ns : List Int) (k : Int) {many : Int} (h : 0 < many) : 0 ≤ mixedF ns k many := Int.emod_nonneg _ (by omega)
theorem mixed_hi (ns : List Int) (k : Int) {many : Int} (h : 0 < many) : mixedF ns k many < many := Int.emod_lt_of_pos _ h
theorem drawn_lo (ns : List Int) (k : Int) : 0 ≤ drawnF ns k := Int.emod_nonneg _ (by decide)
theorem drawn_hi (ns : List Int) (k : Int) : drawnF ns k < 2147483647 := Int.emod_lt_of_pos _ (by decide)

/-! ### rows, moves, nets -/
def rowD (r : List Int) : PyData := .tuple (r.map .int)
def moveD (m : List Int × List Int) : PyData := .tuple [rowD m.1, rowD m.2]
def netD (n : Nat) (ms : List (List Int × List Int)) : PyData := .tuple [.int n, .tuple (ms.map moveD)]
/-- a row of n numbers from 0 to w -/
def RowOk (n : Nat) (w : Int) (r : List Int) : Prop := r.length = n ∧ ∀ x ∈ r, 0 ≤ x ∧ x ≤ w
structure NetOk (n : Nat) (w : Int) (ms : List (List Int × List Int)) : Prop where
  pos : 1 ≤ n
  top : n ≤ 6
  many : ms.length ≤ 10
  rows : ∀ m ∈ ms, RowOk n w m.1 ∧ RowOk n w m.2
theorem RowOk.mono {n : Nat} {w w' : Int} {r : List Int} (h : RowOk n w r) (hw : w ≤ w') : RowOk n w' r := ⟨h.1, fun x hx => ⟨(h.2 x hx).1, Int.le_trans (h.2 x hx).2 hw⟩⟩
theorem NetOk.mono {n : Nat} {w w' : Int} {ms : List (List Int × List Int)} (h : NetOk n w ms) (hw : w ≤ w') : NetOk n w' ms :=
  ⟨h.pos, h.top, h.many, fun m hm => ⟨(h.rows m hm).1.mono hw, (h.rows m hm).2.mono hw⟩⟩
/-- the items of a row -/
theorem row_get {r : List Int} {j : Nat} {z : Int} (h : r[j]? = some z) : (r.map PyData.int)[j]? = some (.int z) := by
  rw [List.getElem?_map, h]
  rfl
theorem row_get' {r : List Int} {j : Nat} {d : PyData} (h : (r.map PyData.int)[j]? = some d) : ∃ z, r[j]? = some z ∧ d = .int z := by
  rw [List.getElem?_map] at h
  cases e : r[j]? with
  | none => rw [e] at h; cases h
  | some z =>
    rw [e] at h
    exact ⟨z, rfl, (Option.some.inj h).symm⟩
theorem getD_get {α : Type} {l : List α} {j : Nat} {d : α} (h : j < l.length) : l[j]? = some (l.getD j d) := by
  rw [List.getD_eq_getElem?_getD, List.getElem?_eq_getElem h]
  rfl
theorem at_getD {l : List Int} {i : Int} (h0 : 0 ≤ i) (h1 : i < l.length) : atI l i = some (l.getD i.toNat 0) := by
  have e : i = (i.toNat : Int) := by omega
  rw [e]
  exact at_nat (getD_get (by omega))
theorem at_row {l : List Int} {i : Int} (h0 : 0 ≤ i) (h1 : i < l.length) : atI (l.map PyData.int) i = some (.int (l.getD i.toNat 0)) := by
  have e : i = (i.toNat : Int) := by omega
  rw [e]
  exact at_nat (row_get (getD_get (by omega)))
theorem at_map {α : Type} {l : List α} {f : α → PyData} {i : Int} {a : α} (h : atI l i = some a) : atI (l.map f) i = some (f a) := by
  unfold atI at h ⊢
  rw [List.length_map]
  cases e : ixN l.length i with
  | none => rw [e] at h; cases h
  | some j =>
    rw [e] at h
    show (l.map f)[j]? = _
    rw [List.getElem?_map]
    rw [show l[j]? = some a from h]
    rfl

/-- a row of draws by a table -/
def tabRow (tab : List Int) (f : Int → Int) (cells : List Int) : List Int := cells.map fun c => tab.getD (f c).toNat 0
def cellsF (ns : List Int) (at_ : Int) (size : Nat) : List Int := (List.range size).map fun (k : Nat) => mixedF ns (at_ + k) 25
/-- one token more at a place, so often -/
def pour (size : Int) : Nat → List Int → Int → List Int
  | 0, g, _ => g
  | n + 1, g, left => pour size n (g.set (left % size).toNat (g.getD (left % size).toNat 0 + 1)) (left / size)
def moveF (tab : List Int) (ns : List Int) (at_ : Int) (size : Nat) (even : Bool) : List Int × List Int :=
  let takes := tabRow tab (· % 5) (cellsF ns at_ size)
  (takes, if even then pour size takes.sum.toNat (List.replicate size 0) (mixedF ns (at_ + 4) 65536) else tabRow tab (· / 5) (cellsF ns at_ size))
theorem cells_get {ns : List Int} {at_ : Int} {size : Nat} {c : Int} (h : c ∈ cellsF ns at_ size) : 0 ≤ c ∧ c < 25 := by
  unfold cellsF at h
  obtain ⟨k, _, rfl⟩ := List.mem_map.mp h
  exact ⟨mixed_lo _ _ (by decide), mixed_hi _ _ (by decide)⟩
theorem tab_ok {tab : List Int} {w : Int} (ht : tab.length = 5) (hw : ∀ x ∈ tab, 0 ≤ x ∧ x ≤ w) {f : Int → Int} {ns : List Int} {at_ : Int} {size : Nat} (hf : ∀ c, 0 ≤ c → c < 25 → 0 ≤ f c ∧ f c < 5) : RowOk size w (tabRow tab f (cellsF ns at_ size)) := by
  refine ⟨by unfold tabRow cellsF; rw [List.length_map, List.length_map, List.length_range], fun x hx => ?_⟩
  unfold tabRow at hx
  obtain ⟨c, hc, rfl⟩ := List.mem_map.mp hx
  obtain ⟨h0, h1⟩ := cells_get hc
  obtain ⟨f0, f1⟩ := hf c h0 h1
  refine hw _ ?_
  rw [List.getD_eq_getElem?_getD, List.getElem?_eq_getElem (show (f c).toNat < tab.length by omega)]
  exact List.getElem_mem _
theorem pour_len {size : Int} : ∀ (n : Nat) (g : List Int) (l : Int), (pour size n g l).length = g.length
  | 0, _, _ => rfl
  | n + 1, g, l => by
    unfold pour
    rw [pour_len n, List.length_set]
theorem pour_ok {size : Int} : ∀ (n : Nat) (g : List Int) (l w : Int), (∀ x ∈ g, 0 ≤ x ∧ x ≤ w) → 0 ≤ w → ∀ x ∈ pour size n g l, 0 ≤ x ∧ x ≤ w + n
  | 0, g, l, w, h, hw, x, hx => by
    have := h x hx
    omega
  | n + 1, g, l, w, h, hw, x, hx => by
    have hd : ∀ j : Nat, 0 ≤ g.getD j 0 ∧ g.getD j 0 ≤ w := fun j => by
      by_cases hj : j < g.length
      · rw [List.getD_eq_getElem?_getD, List.getElem?_eq_getElem hj]
        exact h _ (List.getElem_mem _)
      · rw [List.getD_eq_getElem?_getD, List.getElem?_eq_none_iff.mpr (by omega)]
        exact ⟨Int.le_refl _, hw⟩
    have ih := pour_ok n (g.set (l % size).toNat (g.getD (l % size).toNat 0 + 1)) (l / size) (w + 1) (fun y hy => by
      rcases List.mem_or_eq_of_mem_set hy with q | q
      · have := h y q
        omega
      · have := hd (l % size).toNat
        omega) (by omega) x hx
    omega
theorem sum_le {w : Int} : ∀ (r : List Int), (∀ x ∈ r, 0 ≤ x ∧ x ≤ w) → 0 ≤ r.sum ∧ r.sum ≤ w * r.length
  | [], _ => by simp
  | a :: r, h => by
    have ih := sum_le r fun x hx => h x (List.mem_cons_of_mem _ hx)
    have ha := h a List.mem_cons_self
    rw [List.sum_cons, List.length_cons, Int.natCast_succ, Int.mul_add, Int.mul_one]
    omega
/-- a drawn move: rows of that many numbers, at most w (at most 2 * size where it gives as many as it takes) -/
theorem move_ok {tab : List Int} {w W : Int} (ht : tab.length = 5) (hw : ∀ x ∈ tab, 0 ≤ x ∧ x ≤ w) (ns : List Int) (at_ : Int) (size : Nat) (even : Bool) (hW : w ≤ W) (hE : even = true → w * size ≤ W) (h0 : 0 ≤ w) :
    RowOk size W (moveF tab ns at_ size even).1 ∧ RowOk size W (moveF tab ns at_ size even).2 := by
  have h1 : RowOk size w (tabRow tab (· % 5) (cellsF ns at_ size)) := tab_ok ht hw fun c a b => ⟨Int.emod_nonneg _ (by decide), Int.emod_lt_of_pos _ (by decide)⟩
  have h2 : RowOk size w (tabRow tab (· / 5) (cellsF ns at_ size)) := tab_ok ht hw fun c a b => ⟨by omega, by omega⟩
  refine ⟨h1.mono hW, ?_⟩
  cases even with
  | false => exact h2.mono hW
  | true =>
    show RowOk size W (pour size (tabRow tab (· % 5) (cellsF ns at_ size)).sum.toNat (List.replicate size 0) (mixedF ns (at_ + 4) 65536))
    refine ⟨by rw [pour_len, List.length_replicate], fun x hx => ?_⟩
    have hs := sum_le _ h1.2
    rw [h1.1] at hs
    have hE' := hE rfl
    have := pour_ok _ _ _ 0 (fun y hy => by rw [List.eq_of_mem_replicate hy]; exact ⟨Int.le_refl _, Int.le_refl _⟩) (Int.le_refl _) x hx
    omega
def sizeF (ns : List Int) (at_ : Int) : Nat := if mixedF ns (at_ + 2) 6 = 5 then 4 else (1 + mixedF ns at_ 3).toNat
def manyF (ns : List Int) (at_ : Int) : Nat := (mixedF ns (at_ + 1) 5).toNat
def evenF (ns : List Int) (at_ : Int) : Bool := decide (mixedF ns (at_ + 3) 2 = 1)
theorem size_ok (ns : List Int) (at_ : Int) : 1 ≤ sizeF ns at_ ∧ sizeF ns at_ ≤ 4 := by
  have h0 := mixed_lo ns at_ (many := 3) (by decide)
  have h1 := mixed_hi ns at_ (many := 3) (by decide)
  unfold sizeF
  split <;> omega
theorem many_ok (ns : List Int) (at_ : Int) : manyF ns at_ ≤ 4 := by
  have h1 := mixed_hi ns (at_ + 1) (many := 5) (by decide)
  unfold manyF
  omega
def movesF (tab : List Int) (ns : List Int) (at_ : Int) : List (List Int × List Int) := (List.range (manyF ns at_)).map fun (k : Nat) => moveF tab ns (at_ + 4 + 5 * k) (sizeF ns at_) (evenF ns at_)
def tab0 : List Int := [0, 0, 1, 1, 2]
def tab9 : List Int := [0, 1, 3, 5, 9]
/-- the table by which a net's numbers are drawn: wide ones in a twelfth -/
def tabF (ns : List Int) (even : Bool) : List Int := if even = false ∧ mixedF ns 62 6 = 0 then tab9 else tab0
def hoardF (ns : List Int) (at_ : Int) (size : Nat) (most : Int) : List Int := (List.range size).map fun (k : Nat) => mixedF ns (at_ + k) (most + 1)
theorem hoard_ok (ns : List Int) (at_ : Int) (size : Nat) {most : Int} (h : 0 ≤ most) : RowOk size most (hoardF ns at_ size most) := by
  unfold hoardF
  refine ⟨by rw [List.length_map, List.length_range], fun x hx => ?_⟩
  obtain ⟨k, _, rfl⟩ := List.mem_map.mp hx
  have := mixed_lo ns (at_ + k) (many := most + 1) (by omega)
  have := mixed_hi ns (at_ + k) (many := most + 1) (by omega)
  omega
theorem net_ok0 (ns : List Int) (at_ : Int) : NetOk (sizeF ns at_) 9 (movesF tab0 ns at_) := by
  have h := size_ok ns at_
  refine ⟨h.1, by omega, by unfold movesF; rw [List.length_map, List.length_range]; have := many_ok ns at_; omega, fun m hm => ?_⟩
  unfold movesF at hm
  obtain ⟨k, _, rfl⟩ := List.mem_map.mp hm
  exact move_ok (w := 2) rfl (by decide) ns _ _ _ (by decide) (fun _ => by omega) (by decide)
theorem net_ok9 (ns : List Int) (at_ : Int) : NetOk (sizeF ns at_) 9 (movesF (tabF ns (evenF ns at_)) ns at_) := by
  have h := size_ok ns at_
  refine ⟨h.1, by omega, by unfold movesF; rw [List.length_map, List.length_range]; have := many_ok ns at_; omega, fun m hm => ?_⟩
  unfold movesF at hm
  obtain ⟨k, _, rfl⟩ := List.mem_map.mp hm
  unfold tabF
  split
  · rename_i he
    rw [he.1]
    exact move_ok (w := 9) rfl (by decide) ns _ _ _ (by decide) (fun z => by cases z) (by decide)
  · exact move_ok (w := 2) rfl (by decide) ns _ _ _ (by decide) (fun _ => by omega) (by decide)
theorem net_ok2 (ns : List Int) (at_ : Int) (h : evenF ns at_ = false) : NetOk (sizeF ns at_) 2 (movesF tab0 ns at_) := by
  have h' := size_ok ns at_
  refine ⟨h'.1, by omega, by unfold movesF; rw [List.length_map, List.length_range]; have := many_ok ns at_; omega, fun m hm => ?_⟩
  unfold movesF at hm
  obtain ⟨k, _, rfl⟩ := List.mem_map.mp hm
  exact move_ok (w := 2) rfl (by decide) ns _ _ _ (by decide) (fun z => by rw [h] at z; cases z) (by decide)
end Tw

/-! Tw5: shapes of loops that come often; what is clean data. -/
namespace Tw
open PySem PySem.Spec PyProof.Rows L2
/-! ### data that hold no script -/
mutual
def cln : PyData → Bool
  | .dict [] => true
  | .dict _ => false
  | .list ds => clnAll ds
  | .tuple ds => clnAll ds
  | _ => true
def clnAll : List PyData → Bool
  | [] => true
  | d :: ds => cln d && clnAll ds
end
def NoScr (d : PyData) : Prop := ∀ q, d ≠ .dict [q]
theorem cln_no {d : PyData} (h : cln d = true) : NoScr d := fun q e => by
  subst e
  cases h
theorem clnAll_get : ∀ {ds : List PyData} {i : Nat} {d : PyData}, clnAll ds = true → ds[i]? = some d → cln d = true
  | [], _, _, _, e => by simp at e
  | a :: r, 0, d, h, e => by
    have h' := Bool.and_eq_true_iff.mp (show (cln a && clnAll r) = true from h)
    simp at e
    subst e
    exact h'.1
  | a :: r, i + 1, d, h, e => by
    have h' := Bool.and_eq_true_iff.mp (show (cln a && clnAll r) = true from h)
    exact clnAll_get (i := i) h'.2 (by simpa using e)
theorem cln_ints : ∀ r : List Int, clnAll (r.map .int) = true
  | [] => rfl
  | _ :: r => by
    show (true && clnAll (r.map .int)) = true
    rw [cln_ints r]
    rfl
theorem cln_row (r : List Int) : cln (rowD r) = true := cln_ints r
theorem cln_moves : ∀ ms : List (List Int × List Int), clnAll (ms.map moveD) = true
  | [] => rfl
  | m :: ms => by
    show ((cln (rowD m.1) && (cln (rowD m.2) && true)) && clnAll (ms.map moveD)) = true
    rw [cln_moves ms, cln_row, cln_row]
    rfl
theorem cln_net (n : Nat) (ms : List (List Int × List Int)) : cln (netD n ms) = true := by
  show (true && ((clnAll (ms.map moveD)) && true)) = true
  rw [cln_moves]
  rfl
/-! ### loops -/
section
variable {K : PySem.W.Frag} {E : XK} {δ : List Sl} {ta tb te te1 te2 : TE} {tt : TT} {t u : TS} {x y z r1 r2 : PyData} {xs ys : List PyData} {P P' : Out → Prop}
/-- for ..: if test: return e1 / return e2 -/
theorem as_search {wi : TI} {g : TG} (p : Nat → Bool) (hi : EvI K wi δ xs) (Fr : List Sl → Prop) (h0 : Fr δ)
    (ht : ∀ i d δ', xs[i]? = some d → Fr δ' → (∀ j, j < i → p j = false) → Ag K g d δ' (fun δ2 => EvT K tt δ2 (p i) ∧ Fr δ2)) (h1 : ∀ δ', Fr δ' → Ev K te1 δ' r1) (h2 : ∀ δ', Fr δ' → Ev K te2 δ' r2)
    (k : P (.rt (if (List.range xs.length).any p then r1 else r2))) : As K E (tSeq (tFor wi g (tIfS tt (tRet te1) tNext)) (tRet te2)) δ P := by
  refine as_seq (as_for hi (fun i δ' => Fr δ' ∧ ∀ j, j < i → p j = false) ⟨h0, fun j hj => by omega⟩ (fun i d δ' hd hp => ?_) (fun δ' hp => ?_))
  · refine fun G σ H I v r s rv Q q => ht i d δ' hd hp.1 hp.2 G σ H I v r s rv Q fun δ2 σ' hh rr => q δ2 σ' ?_ rr
    have hlt : i < xs.length := (List.getElem?_eq_some_iff.mp hd).1
    refine as_if hh.1 (fun hb => as_ret (h1 _ hh.2) ?_) (fun hb => as_next ⟨hh.2, fun j hj => ?_⟩)
    · show P (.rt r1)
      rw [if_pos (List.any_eq_true.mpr ⟨i, List.mem_range.mpr hlt, hb⟩)] at k
      exact k
    · rcases Nat.lt_or_eq_of_le (Nat.le_of_lt_succ hj) with q | q
      · exact hp.2 j q
      · rw [q]; exact hb
  · show As K E (tRet te2) δ' P
    refine as_ret (h2 _ hp.1) ?_
    have e : (List.range xs.length).any p = false := by
      rw [List.any_eq_false]
      intro j hj
      rw [hp.2 j (List.mem_range.mp hj)]
      decide
    rw [e] at k
    exact k
/-- [e for x in ..]: every item kept -/
theorem en_map {wi : TI} {g : TG} {vs : List Nat} (f : Nat → PyData) (hi : EvI K wi δ xs) (hz : xs.length ≤ sizeLine) (hw : GWipe g vs)
    (hs : ∀ i d, xs[i]? = some d → Ag K g d (wipeD δ vs) (fun δ2 => Ev K te δ2 (f i))) : EvN K (tLc wi g tYes te vs) δ ((List.range xs.length).map f) := by
  rw [← kept_map]
  exact en_lc (fun _ => true) f hi hz hw fun i d hd G σ H I v r s rv Q q => hs i d hd G σ H I v r s rv Q fun δ2 σ' hh rr => q δ2 σ' ⟨et_yes, fun _ => hh⟩ rr
theorem gw_tup2 {i j : Nat} {vs : List Nat} (h : ∀ σ : L2.St, ∀ v w, L2.wipe (((L2.wipe σ vs).set i (some v)).set j (some w)) vs = L2.wipe σ vs) : GWipe (gTup K 2 (gCons (gName i) (gCons (gName j) gNil))) vs :=
  fun v σ H Q Q' k ⟨a, xs, e, hs, hl, v1, r1, e1, v2, r2, e2, e3, q⟩ => ⟨a, xs, e, hs, hl, v1, r1, e1, v2, r2, e2, e3, k _ (h σ v1 v2) q⟩
theorem gw_tup3 {i j l : Nat} {vs : List Nat} (h : ∀ σ : L2.St, ∀ v w u, L2.wipe ((((L2.wipe σ vs).set i (some v)).set j (some w)).set l (some u)) vs = L2.wipe σ vs) : GWipe (gTup K 3 (gCons (gName i) (gCons (gName j) (gCons (gName l) gNil)))) vs :=
  fun v σ H Q Q' k ⟨a, xs, e, hs, hl, v1, r1, e1, v2, r2, e2, v3, r3, e3, e4, q⟩ => ⟨a, xs, e, hs, hl, v1, r1, e1, v2, r2, e2, v3, r3, e3, e4, k _ (h σ v1 v2 v3) q⟩
theorem wipe_one (i : Nat) (σ : L2.St) (v : V) : L2.wipe ((L2.wipe σ [i]).set i (some v)) [i] = L2.wipe σ [i] := by
  show (((σ.set i none).set i (some v)).set i none) = σ.set i none
  rw [List.set_set, List.set_set]
theorem set_none_set {σ : L2.St} {i j : Nat} {v : V} : ((σ.set i (some v)).set j none).set i none = (σ.set j none).set i none := by
  by_cases h : i = j
  · subst h
    rw [List.set_set, List.set_set, List.set_set]
  · rw [List.set_comm _ _ h, List.set_set]
theorem wipe_two (i j : Nat) (σ : L2.St) (v w : V) : L2.wipe (((L2.wipe σ [i, j]).set i (some v)).set j (some w)) [i, j] = L2.wipe σ [i, j] := by
  apply List.ext_getElem?
  intro k
  show ((((((σ.set j none).set i none).set i (some v)).set j (some w)).set j none).set i none)[k]? = ((σ.set j none).set i none)[k]?
  simp only [List.getElem?_set, List.length_set]
  split <;> split <;> simp_all
theorem wipe_three (i j l : Nat) (σ : L2.St) (v w u : V) : L2.wipe ((((L2.wipe σ [i, j, l]).set i (some v)).set j (some w)).set l (some u)) [i, j, l] = L2.wipe σ [i, j, l] := by
  apply List.ext_getElem?
  intro k
  show ((((((((σ.set l none).set j none).set i none).set i (some v)).set j (some w)).set l (some u)).set l none).set j none |>.set i none)[k]? = (((σ.set l none).set j none).set i none)[k]?
  simp only [List.getElem?_set, List.length_set]
  repeat' (first | rfl | (split <;> first | rfl | skip) | simp_all)
theorem gw1 (i : Nat) : GWipe (gName i) [i] := gw_name (wipe_one i)
theorem gw2 (i j : Nat) : GWipe (gTup K 2 (gCons (gName i) (gCons (gName j) gNil))) [i, j] := gw_tup2 (wipe_two i j)
theorem gw3 (i j l : Nat) : GWipe (gTup K 3 (gCons (gName i) (gCons (gName j) (gCons (gName l) gNil)))) [i, j, l] := gw_tup3 (wipe_three i j l)
theorem row_line {r : List Int} (h : r.length ≤ 1000) : (r.map PyData.int).length ≤ sizeLine := by
  rw [List.length_map]
  exact small_line (by omega)
theorem nums_line {lo : Int} {n : Nat} (h : n ≤ 1000) : (nums lo n).length ≤ sizeLine := by
  rw [nums_len]
  exact small_line (by omega)
/-- a move of a net by its number -/
theorem net_moves {n : Nat} {ms : List (List Int × List Int)} {i : Nat} (h : δ[i]? = some (.d (netD n ms))) : Ev K (tOp (rIx K) (tVar i) (tC (.int 1))) δ (.tuple (ms.map moveD)) := ev_op (ev_var h) ev_int (rd_ixT rfl)
theorem net_size {n : Nat} {ms : List (List Int × List Int)} {i : Nat} (h : δ[i]? = some (.d (netD n ms))) : Ev K (tOp (rIx K) (tVar i) (tC (.int 0))) δ (.int n) := ev_op (ev_var h) ev_int (rd_ixT rfl)
theorem net_move {n : Nat} {ms : List (List Int × List Int)} {i j : Nat} {k : Nat} {m : List Int × List Int} (h : δ[i]? = some (.d (netD n ms))) (hj : δ[j]? = some (.d (.int k))) (hm : ms[k]? = some m) :
    Ev K (tOp (rIx K) (tOp (rIx K) (tVar i) (tC (.int 1))) (tVar j)) δ (moveD m) := ev_op (net_moves h) (ev_var hj) (rd_ixT (at_map (at_nat hm)))
end
theorem eqv_int (i j : Int) : PyData.eqv (.int i) (.int j) = decide (i = j) := by
  show (i == j) = _
  by_cases h : i = j
  · subst h; simp
  · simp [h]
/-! ### kinds of data -/
def isInt : PyData → Bool
  | .int _ => true
  | _ => false
theorem kit_int (d : PyData) (h : NoScr d) : ∃ b, kitB (tyD d) "int" = some b ∧ ∃ c, kitB (tyD d) "bool" = some c ∧ (b && !c) = isInt d := by
  cases d with
  | none => exact ⟨false, (show kitB "NoneType" "int" = some false by decide +kernel), false, (show kitB "NoneType" "bool" = some false by decide +kernel), rfl⟩
  | bool b => exact ⟨true, (show kitB "bool" "int" = some true by decide +kernel), true, (show kitB "bool" "bool" = some true by decide +kernel), rfl⟩
  | int i => exact ⟨true, (show kitB "int" "int" = some true by decide +kernel), false, (show kitB "int" "bool" = some false by decide +kernel), rfl⟩
  | str x => exact ⟨false, (show kitB "str" "int" = some false by decide +kernel), false, (show kitB "str" "bool" = some false by decide +kernel), rfl⟩
  | list xs => exact ⟨false, (show kitB "list" "int" = some false by decide +kernel), false, (show kitB "list" "bool" = some false by decide +kernel), rfl⟩
  | tuple xs => exact ⟨false, (show kitB "tuple" "int" = some false by decide +kernel), false, (show kitB "tuple" "bool" = some false by decide +kernel), rfl⟩
  | dict kvs =>
    cases kvs with
    | nil => exact ⟨false, (show kitB "dict" "int" = some false by decide +kernel), false, (show kitB "dict" "bool" = some false by decide +kernel), rfl⟩
    | cons q r => exact ⟨false, (show kitB "list" "int" = some false by decide +kernel), false, (show kitB "list" "bool" = some false by decide +kernel), rfl⟩
theorem kit_tup (d : PyData) (h : NoScr d) : ∃ b, kitB (tyD d) "tuple" = some b ∧ (b = true → ∃ xs, d = .tuple xs) ∧ (b = false → ∀ xs, d ≠ .tuple xs) := by
  cases d with
  | none => exact ⟨false, (show kitB "NoneType" "tuple" = some false by decide +kernel), (fun z => by cases z), fun _ _ z => by cases z⟩
  | bool b => exact ⟨false, (show kitB "bool" "tuple" = some false by decide +kernel), (fun z => by cases z), fun _ _ z => by cases z⟩
  | int i => exact ⟨false, (show kitB "int" "tuple" = some false by decide +kernel), (fun z => by cases z), fun _ _ z => by cases z⟩
  | str x => exact ⟨false, (show kitB "str" "tuple" = some false by decide +kernel), (fun z => by cases z), fun _ _ z => by cases z⟩
  | list xs => exact ⟨false, (show kitB "list" "tuple" = some false by decide +kernel), (fun z => by cases z), fun _ _ z => by cases z⟩
  | tuple xs => exact ⟨true, (show kitB "tuple" "tuple" = some true by decide +kernel), (fun _ => ⟨xs, rfl⟩), fun z => by cases z⟩
  | dict kvs =>
    cases kvs with
    | nil => exact ⟨false, (show kitB "dict" "tuple" = some false by decide +kernel), (fun z => by cases z), fun _ _ z => by cases z⟩
    | cons q r => exact ⟨false, (show kitB "list" "tuple" = some false by decide +kernel), (fun z => by cases z), fun _ _ z => by cases z⟩
theorem kit_str (d : PyData) (h : NoScr d) : ∃ b, kitB (tyD d) "str" = some b ∧ (b = true → ∃ xs, d = .str xs) ∧ (b = false → ∀ xs, d ≠ .str xs) := by
  cases d with
  | none => exact ⟨false, (show kitB "NoneType" "str" = some false by decide +kernel), (fun z => by cases z), fun _ _ z => by cases z⟩
  | bool b => exact ⟨false, (show kitB "bool" "str" = some false by decide +kernel), (fun z => by cases z), fun _ _ z => by cases z⟩
  | int i => exact ⟨false, (show kitB "int" "str" = some false by decide +kernel), (fun z => by cases z), fun _ _ z => by cases z⟩
  | str x => exact ⟨true, (show kitB "str" "str" = some true by decide +kernel), (fun _ => ⟨x, rfl⟩), fun z => by cases z⟩
  | list xs => exact ⟨false, (show kitB "list" "str" = some false by decide +kernel), (fun z => by cases z), fun _ _ z => by cases z⟩
  | tuple xs => exact ⟨false, (show kitB "tuple" "str" = some false by decide +kernel), (fun z => by cases z), fun _ _ z => by cases z⟩
  | dict kvs =>
    cases kvs with
    | nil => exact ⟨false, (show kitB "dict" "str" = some false by decide +kernel), (fun z => by cases z), fun _ _ z => by cases z⟩
    | cons q r => exact ⟨false, (show kitB "list" "str" = some false by decide +kernel), (fun z => by cases z), fun _ _ z => by cases z⟩
theorem kit_lst (d : PyData) (h : cln d = true) : ∃ b, kitB (tyD d) "list" = some b ∧ (b = true → ∃ xs, d = .list xs) ∧ (b = false → ∀ xs, d ≠ .list xs) := by
  cases d with
  | none => exact ⟨false, (show kitB "NoneType" "list" = some false by decide +kernel), (fun z => by cases z), fun _ _ z => by cases z⟩
  | bool b => exact ⟨false, (show kitB "bool" "list" = some false by decide +kernel), (fun z => by cases z), fun _ _ z => by cases z⟩
  | int i => exact ⟨false, (show kitB "int" "list" = some false by decide +kernel), (fun z => by cases z), fun _ _ z => by cases z⟩
  | str x => exact ⟨false, (show kitB "str" "list" = some false by decide +kernel), (fun z => by cases z), fun _ _ z => by cases z⟩
  | list xs => exact ⟨true, (show kitB "list" "list" = some true by decide +kernel), (fun _ => ⟨xs, rfl⟩), fun z => by cases z⟩
  | tuple xs => exact ⟨false, (show kitB "tuple" "list" = some false by decide +kernel), (fun z => by cases z), fun _ _ z => by cases z⟩
  | dict kvs =>
    cases kvs with
    | nil => exact ⟨false, (show kitB "dict" "list" = some false by decide +kernel), (fun z => by cases z), fun _ _ z => by cases z⟩
    | cons q r => cases h
theorem shaped_int (i : Int) : SeqAt.shaped (.int i) = true := rfl
/-- an item that is there -/
theorem item_eq {xs : List PyData} {i : Nat} {d : PyData} (h : xs[i]? = some d) : xs.getD i .none = d := by
  rw [List.getD_eq_getElem?_getD, h]
  rfl
theorem any_not {n : Nat} {p : Nat → Bool} : ((List.range n).any fun i => !p i) = !(List.range n).all p := by
  rw [List.all_eq_not_any_not, Bool.not_not]
theorem map_getD {r : List Int} {n : Nat} (h : r.length = n) : (List.range n).map (fun k => r.getD k 0) = r := by
  subst h
  apply List.ext_getElem?
  intro k
  rw [List.getElem?_map]
  by_cases hk : k < r.length
  · rw [List.getElem?_range hk, List.getElem?_eq_getElem hk, Option.map_some, List.getD_eq_getElem?_getD, List.getElem?_eq_getElem hk]
    rfl
  · rw [List.getElem?_eq_none_iff.mpr (by rw [List.length_range]; omega), List.getElem?_eq_none_iff.mpr (by omega)]
    rfl
theorem eqv_nat (i j : Nat) : PyData.eqv (.int i) (.int j) = decide (i = j) := by
  rw [eqv_int]
  exact decide_eq_decide.mpr Int.ofNat_inj
section
variable {K : PySem.W.Frag} {E : XK} {δ δ1 : List Sl} {t u : TS} {P : Out → Prop}
/-- t leads to these slots, whichever way -/
theorem as_to (h : As K E t δ (fun o => o = .nx δ1)) (h2 : As K E u δ1 P) : As K E (tSeq t u) δ P := as_seq (h.mono fun o e => by
  subst e
  exact h2)
theorem as_toQ {Q : List Sl → Prop} (h : As K E t δ (fun o => ∃ δ1, Q δ1 ∧ o = .nx δ1)) (h2 : ∀ δ1, Q δ1 → As K E u δ1 P) : As K E (tSeq t u) δ P := as_seq (h.mono fun o e => by
  obtain ⟨δ1, q, rfl⟩ := e
  exact h2 δ1 q)
end
theorem ix_of {n : Nat} {i : Int} (h0 : 0 ≤ i) (h1 : i < n) : ixN n i = some i.toNat := by
  unfold ixN
  rw [if_pos h0, if_pos h1]
theorem tab_len (ns : List Int) (even : Bool) : (tabF ns even).length = 5 := by
  unfold tabF
  split <;> rfl
theorem tab_all (ns : List Int) (even : Bool) : ∀ x ∈ tabF ns even, 0 ≤ x ∧ x ≤ 9 := by
  unfold tabF
  split <;> decide
theorem map_range {α β : Type} (l : List α) (d : α) (f : α → β) : (List.range l.length).map (fun i => f (l.getD i d)) = l.map f := by
  apply List.ext_getElem?
  intro k
  rw [List.getElem?_map, List.getElem?_map]
  by_cases hk : k < l.length
  · rw [List.getElem?_range hk, List.getElem?_eq_getElem hk, Option.map_some, Option.map_some, List.getD_eq_getElem?_getD, List.getElem?_eq_getElem hk]
    rfl
  · rw [List.getElem?_eq_none_iff.mpr (by rw [List.length_range]; omega), List.getElem?_eq_none_iff.mpr (by omega)]
    rfl
theorem map_set_int (l : List Int) (i : Nat) (x : Int) : (l.map PyData.int).set i (.int x) = (l.set i x).map .int := by
  rw [List.map_set]
theorem lay_moves : ∀ ms : List (List Int × List Int), PyData.canLayAll0 (ms.map moveD) = true
  | [] => rfl
  | m :: ms => by
    show ((PyData.canLayAll0 (m.1.map .int) && (PyData.canLayAll0 (m.2.map .int) && true)) && PyData.canLayAll0 (ms.map moveD)) = true
    rw [lay_ints, lay_ints, lay_moves ms]
    rfl
theorem depth_moves : ∀ ms : List (List Int × List Int), PyData.depthAll (ms.map moveD) ≤ 2
  | [] => by decide
  | m :: ms => by
    have h := depth_moves ms
    have h1 := depth_ints m.1
    have h2 := depth_ints m.2
    show max (max (PyData.depthAll (m.1.map .int) + 1) (max (PyData.depthAll (m.2.map .int) + 1) 0) + 1) (PyData.depthAll (ms.map moveD)) ≤ 2
    omega
theorem shaped_of {d : PyData} (h1 : d.canLay0 = true) (h2 : d.depth ≤ 64) : SeqAt.shaped d = true := by
  show (d.canLay0 && decide (d.depth ≤ 64)) = true
  rw [h1, decide_eq_true h2]
  rfl
theorem shaped_moves (ms : List (List Int × List Int)) : SeqAt.shaped (.tuple (ms.map moveD)) = true :=
  shaped_of (lay_moves ms) (by have := depth_moves ms; show PyData.depthAll _ + 1 ≤ 64; omega)
theorem shaped_row (r : List Int) : SeqAt.shaped (rowD r) = true :=
  shaped_of (lay_ints r) (by have := depth_ints r; show PyData.depthAll _ + 1 ≤ 64; omega)
theorem shaped_intsL (r : List Int) : SeqAt.shaped (.list (r.map .int)) = true :=
  shaped_of (lay_ints r) (by have := depth_ints r; show PyData.depthAll _ + 1 ≤ 64; omega)
theorem shaped_net (n : Nat) (ms : List (List Int × List Int)) : SeqAt.shaped (netD n ms) = true :=
  shaped_of (by show (true && (PyData.canLayAll0 (ms.map moveD) && true)) = true; rw [lay_moves]; rfl) (by have := depth_moves ms; show max 0 (max (PyData.depthAll (ms.map moveD) + 1) 0) + 1 ≤ 64; omega)
theorem eqv_moves (ms : List (List Int × List Int)) : PyData.eqv (.tuple (ms.map moveD)) (.tuple []) = decide (ms = []) := by
  cases ms with
  | nil => rfl
  | cons m r => rfl
theorem cut_take {xs : List PyData} {k : Nat} : cutD xs none (some (k : Int)) = xs.take k := by
  unfold cutD
  rw [HT.sIx_none, HT.sIx_nat, List.drop_zero, Nat.sub_zero]
  by_cases h : k ≤ xs.length
  · rw [Nat.min_eq_left h]
  · rw [Nat.min_eq_right (by omega), List.take_length, List.take_of_length_le (by omega)]
theorem cut_drop {xs : List PyData} {k : Nat} : cutD xs (some (k : Int)) none = xs.drop k := by
  unfold cutD
  rw [HT.sIx_none, HT.sIx_nat]
  by_cases h : k ≤ xs.length
  · rw [Nat.min_eq_left h]
    exact List.take_of_length_le (by rw [List.length_drop]; exact Nat.le_refl _)
  · rw [Nat.min_eq_right (by omega), Nat.sub_self, List.take_zero, List.drop_of_length_le (by omega)]
def overB (one other : List Int) : Bool := (List.range other.length).all fun k => decide (other.getD k 0 ≤ one.getD k 0)
theorem lt_not_le (a b : Int) : decide (a < b) = !decide (b ≤ a) := by
  by_cases h : a < b
  · rw [decide_eq_true h, decide_eq_false (by omega)]; rfl
  · rw [decide_eq_false h, decide_eq_true (by omega)]; rfl
theorem search_all {n : Nat} {p : Nat → Bool} : (if ((List.range n).any fun i => !p i) then PyData.bool false else PyData.bool true) = .bool ((List.range n).all p) := by
  rw [any_not]
  cases (List.range n).all p <;> rfl
def ledR (h takes gives : List Int) : List Int := (List.range h.length).map fun k => h.getD k 0 - takes.getD k 0 + gives.getD k 0
theorem overB_iff {a b : List Int} : overB a b = true ↔ ∀ k, k < b.length → b.getD k 0 ≤ a.getD k 0 := by
  unfold overB
  rw [List.all_eq_true]
  exact ⟨fun h k hk => of_decide_eq_true (h k (List.mem_range.mpr hk)), fun h k hk => decide_eq_true (h k (List.mem_range.mp hk))⟩
theorem getD_map_range {n k : Nat} {f : Nat → Int} (h : k < n) : ((List.range n).map f).getD k 0 = f k := by
  rw [List.getD_eq_getElem?_getD, List.getElem?_map, List.getElem?_range h]
  rfl
theorem led_get {h a b : List Int} {k : Nat} (hk : k < h.length) : (ledR h a b).getD k 0 = h.getD k 0 - a.getD k 0 + b.getD k 0 := getD_map_range hk
theorem led_len {h a b : List Int} : (ledR h a b).length = h.length := by unfold ledR; rw [List.length_map, List.length_range]
def natB : PyData → Bool
  | .int i => decide (0 ≤ i)
  | _ => false
def hoardB (n : Nat) : PyData → Bool
  | .tuple ds => decide (ds.length = n) && (List.range ds.length).all fun i => natB (ds.getD i .none)
  | _ => false
theorem hoardB_no {n : Nat} {d : PyData} (h : ∀ xs, d ≠ .tuple xs) : hoardB n d = false := by
  cases d <;> first | rfl | exact absurd rfl (h _)


theorem hoardB_row {n : Nat} {r : List Int} (h : r.length = n) (h0 : ∀ x ∈ r, 0 ≤ x) : hoardB n (rowD r) = true := by
  show (decide ((r.map PyData.int).length = n) && (List.range (r.map PyData.int).length).all fun i => natB ((r.map PyData.int).getD i .none)) = true
  rw [List.length_map, decide_eq_true h, Bool.true_and, List.all_eq_true]
  intro i hi
  have hi' := List.mem_range.mp hi
  rw [item_eq (row_get (List.getElem?_eq_getElem hi'))]
  exact decide_eq_true (h0 _ (List.getElem_mem _))
def inB (d : PyData) (l m : Int) : Bool := match d with
  | .int i => decide (l ≤ i) && decide (i ≤ m)
  | _ => false
theorem inB_nat {ms : List (List Int × List Int)} {k : Nat} {m : List Int × List Int} (h : ms[k]? = some m) : inB (.int (k : Nat)) 0 (ms.length - 1) = true := by
  have := (List.getElem?_eq_some_iff.mp h).1
  show (decide ((0 : Int) ≤ (k : Int)) && decide ((k : Int) ≤ (ms.length : Int) - 1)) = true
  rw [decide_eq_true (by omega), decide_eq_true (by omega)]
  rfl
theorem range_all {f : PyData → Bool} (xs : List PyData) : ((List.range xs.length).all fun i => f (xs.getD i .none)) = xs.all f := by
  cases h : xs.all f with
  | true =>
    rw [List.all_eq_true] at h ⊢
    intro i hi
    have hi' := List.mem_range.mp hi
    rw [item_eq (List.getElem?_eq_getElem hi')]
    exact h _ (List.getElem_mem _)
  | false =>
    rw [List.all_eq_false] at h ⊢
    obtain ⟨x, hx, hf⟩ := h
    obtain ⟨i, hi, e⟩ := List.getElem_of_mem hx
    refine ⟨i, List.mem_range.mpr hi, ?_⟩
    rw [item_eq (List.getElem?_eq_getElem hi), e]
    exact hf
/-- a move made; a run made -/
def stepR (ms : List (List Int × List Int)) (h : List Int) (k : Nat) : Option (List Int) := match ms[k]? with
  | some m => if overB h m.1 then some (ledR h m.1 m.2) else none
  | none => none
def walkR (ms : List (List Int × List Int)) (h : List Int) (run : List Nat) : Option (List Int) := run.foldlM (stepR ms) h
theorem walkR_nil {ms : List (List Int × List Int)} {h : List Int} : walkR ms h [] = some h := rfl
theorem walkR_app {ms : List (List Int × List Int)} {h : List Int} (a b : List Nat) : walkR ms h (a ++ b) = (walkR ms h a).bind fun h' => walkR ms h' b := by
  unfold walkR
  rw [List.foldlM_append]
  rfl
theorem walkR_one {ms : List (List Int × List Int)} {h : List Int} {k : Nat} : walkR ms h [k] = stepR ms h k := by
  unfold walkR
  rw [List.foldlM_cons]
  cases stepR ms h k <;> rfl
theorem take_more {α : Type} {l : List α} {i : Nat} {x : α} (h : l[i]? = some x) : l.take (i + 1) = l.take i ++ [x] := by
  rw [List.take_add_one, h]
  rfl
/-- the law's start: the script stands there -/
theorem law_start {K : PySem.W.Frag} {F : List PyData → Out → Prop} {H : Hp} {a : Addr} {ns : List Int} (h : F [scrD ns] (.rt (.bool true))) (hS : SqL K H a (ns.map V.int)) : SpD K F [.ref a] H (fun v _ => v = .bl true) fun _ _ _ => False :=
  ⟨H, [scrD ns], .rt (.bool true), Same.refl _, .cons (.scr hS) .nil, h, fun v H' I' n r => by cases r; rfl⟩
end Tw

/-! Tw6: xs[::-1] of a list or a tuple; tuples times 0 and 1; is of bools. -/
namespace Tw
open PySem PySem.Spec PyProof.Rows L2 PyProof
section
variable {prog : Program} {w : World} {A : Around} {E : Value → Shared → Prop} {s : Shared}
theorem fm_some {α β : Type} {f : α → Option β} {g : α → β} : ∀ {l : List α}, (∀ x ∈ l, f x = some (g x)) → l.filterMap f = l.map g
  | [], _ => rfl
  | a :: l, h => by
    rw [List.filterMap_cons, h a List.mem_cons_self, List.map_cons, fm_some fun x hx => h x (List.mem_cons_of_mem _ hx)]
theorem rev_range (n : Nat) (xs : Array Value) (hn : xs.size = n) : ((List.range n).filterMap fun (m : Nat) => xs[(((n : Int) - 1) + (m : Int) * -1).toNat]?).toArray = xs.toList.reverse.toArray := by
  subst hn
  congr 1
  have e : ((List.range xs.size).filterMap fun (m : Nat) => xs[(((xs.size : Int) - 1) + (m : Int) * -1).toNat]?) = (List.range xs.size).map fun m => xs.toList.getD (xs.size - 1 - m) default := by
    refine fm_some fun m hm => ?_
    have hm' := List.mem_range.mp hm
    have e1 : (((xs.size : Int) - 1) + (m : Int) * -1).toNat = xs.size - 1 - m := by omega
    have hlt : xs.size - 1 - m < xs.size := by omega
    show xs[(((xs.size : Int) - 1) + (m : Int) * -1).toNat]? = _
    rw [e1, Array.getElem?_eq_getElem hlt, List.getD_eq_getElem?_getD, List.getElem?_eq_getElem (by simpa using hlt)]
    simp
  rw [e]
  apply List.ext_getElem?
  intro k
  by_cases hk : k < xs.size
  · rw [List.getElem?_map, List.getElem?_range hk, List.getElem?_reverse (by simpa using hk)]
    show some (xs.toList.getD (xs.size - 1 - k) default) = _
    have hlt : xs.size - 1 - k < xs.toList.length := by rw [Array.length_toList]; omega
    rw [List.getD_eq_getElem?_getD, Array.length_toList, List.getElem?_eq_getElem hlt]
    rfl
  · rw [List.getElem?_eq_none_iff.mpr (by rw [List.length_map, List.length_range]; omega), List.getElem?_eq_none_iff.mpr (by rw [List.length_reverse, Array.length_toList]; omega)]
theorem getItem_tuple_rev {t sl : Addr} {items : Array Value} {vl vu vs : Value} {Q : Value → Shared → Prop} (ht : IsTup s.heap t items) (hs : s.heap.IsSliceOf sl vl vu vs) (pl : IsPart vl none) (pu : IsPart vu none) (ps : IsPart vs (some (-1)))
    (h : Q (.ref s.heap.objs.size) { s with heap := s.heap.push { cls := .type "tuple", data := .seq items.toList.reverse.toArray } }) (hsz : items.size ≤ sizeLine) : wpAny (model prog w) A (getItem (.ref t) (.ref sl)) Q E s := by
  have htake : sizeOk (.seq items.toList.reverse.toArray) := by
    show items.toList.reverse.toArray.size ≤ sizeLine
    rw [List.size_toArray, List.length_reverse, Array.length_toList]
    exact hsz
  obtain ⟨os, hos, hcs, hds⟩ := id hs
  have hTs : s.TypeIs (.ref sl) "slice" := ⟨os, hos, hcs⟩
  unfold getItem
  try with_reducible refine wpAny_holding ?_
  first | refine wpAny_bind (wpAny_pure ?_) | skip
  refine wpAny_bind (wpAny_sequenceKey ht.typeIs (by decide) ?_)
  refine wpAny_bind (wpAny_callSpecial?_slot (name := Str.ofString "__getitem__") ht.typeIs PyProof.Rows.slot_tuple_getitem
    (wpAny_call_entry PyProof.Rows.slot_tuple_getitem ht.typeIs PyProof.Rows.entry_tuple_getitem ?_ (PyProof.Rows.args_tuple_getitem _ _)))
  show wpAny _ _ (Builtin.Tuple.tupleItemsOf (.ref t) >>= _) _ _ s
  refine wpAny_bind (PyProof.Rows.tupleItemsOf_ ht ?_)
  refine wpAny_bind (wpAny_typeOf hTs ?_)
  rw [if_pos (by decide)]
  refine wpAny_bind ?_
  · unfold Builtin.Slice.sliceApplied Builtin.Slice.sliceFields
    refine wpAny_bind (wpAny_bind (wpAny_field hos hds (x := vl) rfl (wpAny_bind (wpAny_field hos hds (x := vu) rfl (wpAny_bind (wpAny_field hos hds (x := vs) rfl (wpAny_pure ?_)))))))
    refine wpAny_bind (HT.slicePart_ ps ?_)
    show wpAny _ _ (if ((-1 : Int) == 0) = true then _ else _) _ _ s
    rw [if_neg (by decide)]
    refine wpAny_bind (HT.slicePart_ pl (wpAny_bind (HT.slicePart_ pu (wpAny_bind (wpAny_pure ?_)))))
    show wpAny _ _ (pure (((items.size : Int) - 1), (-1 : Int), Builtin.Slice.slicePlaces ((items.size : Int) - 1) (-1) (-1))) _ _ s
    have hp : Builtin.Slice.slicePlaces ((items.size : Int) - 1) (-1) (-1) = items.size := by
      unfold Builtin.Slice.slicePlaces
      have h1 : ¬ (-1 : Int) > 0 := by decide
      have h2 : (-(-1) : Int) = 1 := by decide
      simp only [h1, if_false, h2, Int.ediv_one]
      split <;> omega
    rw [hp]
    refine wpAny_pure ?_
    have hno : ¬ ((((items.size : Int) - 1) == 0 && (-1 : Int) == 1 && items.size == items.size) = true) := by
      intro q
      rw [Bool.and_eq_true, Bool.and_eq_true] at q
      exact absurd q.1.2 (by decide)
    show wpAny _ _ (if (((items.size : Int) - 1) == 0 && (-1 : Int) == 1 && items.size == items.size) = true then _ else _) _ _ s
    rw [if_neg hno, rev_range items.size items rfl]
    first
      | exact wpAny_bind (m := Builtin.Tuple.tupleExact _) (wpAny_newObj_type (wpAny_pure ⟨_, rfl, wpAny_pure h⟩) htake)
      | exact wpAny_bind (m := Builtin.Tuple.tupleExact _) (wpAny_newObj_type (wpAny_bind (wpAny_pure (wpAny_pure ⟨_, rfl, wpAny_pure h⟩))) htake)
      | exact wpAny_bind (wpAny_bind (m := Builtin.Tuple.tupleExact _) (wpAny_newObj_type (wpAny_pure (wpAny_pure ⟨_, rfl, wpAny_pure h⟩)) htake))
      | exact wpAny_bind (wpAny_bind (m := Builtin.Tuple.tupleExact _) (wpAny_newObj_type (wpAny_pure ⟨_, rfl, wpAny_pure h⟩) htake))
end
/-- a[::-1], a list or a tuple -/
def tRevA (K : PySem.W.Frag) (te : TE) : TE := fun σ H Q => te σ H fun x H1 => ∃ a xs, x = .ref a ∧
  ((SqL K H1 a xs ∧ ∀ p, H1 p = none → Q (.ref p) (upd H1 p (.lst xs.reverse))) ∨ (SqT K H1 a xs ∧ ∀ p, H1 p = none → Q (.ref p) (upd H1 p (.tup xs.reverse))))
theorem pe_revA {X : Cx} {e : Expr} {te : TE} {k : Nat} {p1 p2 p3 pos : Pos} (he : PE X e te) : PE X (.Subscript e (.Slice none none (some (.UnaryOp .USub (.Constant (.int 1) k p1) p2)) p3) pos) (tRevA X.K te) := by
  refine ⟨fun pins s σ H Q I h => ?_⟩
  refine Subscript_ (thn (he.run pins s σ H _ I h) fun v s1 ⟨x, H1, I1, r1, q1⟩ => ?_)
  obtain ⟨a, xs, ex, q⟩ := q1
  subst ex
  cases r1
  have hst : PO X (some (.UnaryOp .USub (.Constant (.int 1) k p1) p2)) (tPart (tUn (rU fun i => .int (-i)) (tC (.int 1)))) := po_some (pe_un un_neg pe_int)
  refine wpAny_Slice (thn (po_none.run pins s1 σ H1 (fun o H2 => o = none ∧ H2 = H1) I1 ⟨rfl, rfl⟩) fun vl s2 ⟨l, H2, I2, pl, el, e2⟩ => ?_)
  subst el e2
  refine thn (po_none.run pins s2 σ H2 (fun o H3 => o = none ∧ H3 = H2) I2 ⟨rfl, rfl⟩) fun vu s3 ⟨u, H3, I3, pu, eu, e3⟩ => ?_
  subst eu e3
  refine thn (hst.run pins s3 σ H3 (fun o H4 => o = some (-1) ∧ H4 = H3) I3 ⟨1, rfl, -1, rfl, rfl, rfl⟩) fun vs s4 ⟨o, H4, I4, ps, eo, e4⟩ => ?_
  subst eo e4
  have I5 : Inv X pins σ H4 { s4 with heap := s4.heap.push { cls := .type "slice", data := .fields #[vl, vu, vs] } } := I4.kept (t' := s4.toks) fun b ob q => Heap.get?_push_of_some _ q
  show wpAny (model X.prog X.w) X.A (subscriptTail e (.Slice none none (some (.UnaryOp .USub (.Constant (.int 1) k p1) p2)) p3) (.ref a) (.ref s4.heap.objs.size)) (EP X pins σ Q) X.xe { s4 with heap := s4.heap.push { cls := .type "slice", data := .fields #[vl, vu, vs] } }
  rcases q with ⟨hx, q⟩ | ⟨hx, q⟩
  · obtain ⟨its, r, ht, hz⟩ := I5.list hx
    have hlen := r.length
    refine tail_any (ops := [.ref a, .ref s4.heap.objs.size]) ht.isList.typeIs (PySem.slot_list_getitem.lookup) ?_ (by with_unfolding_all rfl)
    refine wpAny_getItem_list_slice ht.isList (Heap.IsSliceOf.new _ vl vu vs) pl pu ps (by decide) ?_ (by rw [List.size_toArray]; omega)
    rw [PySem.W.krv_pick]
    refine ⟨.ref _, _, I5.laid (t' := s4.toks) (o := .lst xs.reverse) (fun b ob q => Heap.get?_push_of_some _ q) (Nat.le_refl _) ?_, rfl, q _ (I5.hok.fresh (Nat.le_refl _))⟩
    exact ⟨by rw [List.length_reverse]; exact hz, _, 0, r.reverse, Heap.get?_push_size _ rfl⟩
  · obtain ⟨its, r, ht, hz⟩ := I5.tuple hx
    have hlen := r.length
    refine tail_any (ops := [.ref a, .ref s4.heap.objs.size]) ht.typeIs (PyProof.Rows.slot_tuple_getitem.lookup) ?_ (by with_unfolding_all rfl)
    refine getItem_tuple_rev ht (Heap.IsSliceOf.new _ vl vu vs) pl pu ps ?_ (by rw [List.size_toArray]; omega)
    refine ⟨.ref _, _, I5.laid (t' := s4.toks) (o := .tup xs.reverse) (fun b ob q => Heap.get?_push_of_some _ q) (Nat.le_refl _) ?_, rfl, q _ (I5.hok.fresh (Nat.le_refl _))⟩
    exact ⟨by rw [List.length_reverse]; exact hz, _, r.reverse, IsTup.new _ _⟩
section
variable {K : PySem.W.Frag} {δ : List Sl} {te : TE} {xs : List PyData} {x y : PyData} {a b : Bool}
theorem en_rev (h : Ev K te δ (.list xs)) : EvN K (tRevA K te) δ xs.reverse := fun G σ H I s g r Q q =>
  h G σ H I s g r _ fun v H1 I1 n1 rv => by
    cases rv with
    | lst h1 a1 => exact ⟨_, _, rfl, .inl ⟨.of (n1.s _ _ h1), fun p hp => q p H1 I1 _ n1 hp a1.rev⟩⟩
theorem ev_revT (h : Ev K te δ (.tuple xs)) : Ev K (tRevA K te) δ (.tuple xs.reverse) := fun G σ H I s g r Q q =>
  h G σ H I s g r _ fun v H1 I1 n1 rv => by
    cases rv with
    | tup h1 a1 => exact ⟨_, _, rfl, .inr ⟨.of (n1.s _ _ h1), fun p hp => q _ _ _ (n1.trans (Nx.new n1.s hp)) (.tup upd_same (a1.rev.mono (same_new (n1.s.free hp))))⟩⟩
/-! ### is True, is not False .. of bools -/
def rIsB : R2 := fun x y H Q => ∃ a b, x = .bl a ∧ y = .bl b ∧ Q (.bl (decide (a = b))) H
def rNotB : R2 := fun x y H Q => ∃ a b, x = .bl a ∧ y = .bl b ∧ Q (.bl (!decide (a = b))) H
theorem opIsB {X : Cx} : OpR X (compareOp .Is) rIsB := op_is_bl
theorem opNotB {X : Cx} : OpR X (compareOp .IsNot) rNotB := op_isnot_bl
theorem rd_isB : R2D K rIsB (.bool a) (.bool b) (.bool (decide (a = b))) := fun H I v u s r1 r2 Q q => by
  cases r1; cases r2
  exact ⟨a, b, rfl, rfl, q _ H I (Nx.refl s) (.bl _)⟩
theorem rd_notB : R2D K rNotB (.bool a) (.bool b) (.bool (!decide (a = b))) := fun H I v u s r1 r2 Q q => by
  cases r1; cases r2
  exact ⟨a, b, rfl, rfl, q _ H I (Nx.refl s) (.bl _)⟩
end
end Tw

/-! Tw7: plain laws of runs and of equal data. -/
namespace Tw
open PySem PySem.Spec PyProof.Rows L2 PyProof
theorem eqv_self {d : PyData} (h : SeqAt.shaped d = true) : PyData.eqv d d = true := PySem.SeqAt.eqv_refl d (by
  have h : (d.canLay0 && decide (d.depth ≤ 64)) = true := h
  rw [Bool.and_eq_true] at h
  exact h.1)
theorem step_some {ms : List (List Int × List Int)} {h h' : List Int} {k : Nat} (e : stepR ms h k = some h') : ∃ m, ms[k]? = some m ∧ overB h m.1 = true ∧ h' = ledR h m.1 m.2 := by
  unfold stepR at e
  cases em : ms[k]? with
  | none => rw [em] at e; cases e
  | some m =>
    rw [em] at e
    have e : (if overB h m.1 = true then some (ledR h m.1 m.2) else none) = some h' := e
    by_cases ho : overB h m.1 = true
    · rw [if_pos ho] at e
      exact ⟨m, rfl, ho, (Option.some.inj e).symm⟩
    · rw [if_neg ho] at e
      cases e
theorem walk_pre {ms : List (List Int × List Int)} {h h' : List Int} {run : List Nat} (e : walkR ms h run = some h') (i : Nat) : ∃ hi, walkR ms h (run.take i) = some hi ∧ walkR ms hi (run.drop i) = some h' := by
  rw [← List.take_append_drop i run, walkR_app] at e
  cases e1 : walkR ms h (run.take i) with
  | none => rw [e1] at e; cases e
  | some hi =>
    rw [e1] at e
    exact ⟨hi, rfl, e⟩
theorem walk_len {n : Nat} {ms : List (List Int × List Int)} : ∀ {run : List Nat} {h h' : List Int}, h.length = n → walkR ms h run = some h' → h'.length = n
  | [], h, h', hl, e => by
    cases (show some h = some h' from e)
    exact hl
  | k :: run, h, h', hl, e => by
    unfold walkR at e
    rw [List.foldlM_cons] at e
    cases e1 : stepR ms h k with
    | none => rw [e1] at e; cases e
    | some h1 =>
      rw [e1] at e
      obtain ⟨m, _, _, rfl⟩ := step_some e1
      exact walk_len (run := run) (by rw [led_len]; exact hl) e
theorem walk_at {ms : List (List Int × List Int)} {h h' : List Int} {run : List Nat} (e : walkR ms h run = some h') {i k : Nat} (hk : run[i]? = some k) :
    ∃ hi m, walkR ms h (run.take i) = some hi ∧ ms[k]? = some m ∧ overB hi m.1 = true ∧ walkR ms h (run.take (i + 1)) = some (ledR hi m.1 m.2) := by
  obtain ⟨h2, e2, _⟩ := walk_pre e (i + 1)
  rw [take_more hk, walkR_app] at e2
  cases e1 : walkR ms h (run.take i) with
  | none => rw [e1] at e2; cases e2
  | some hi =>
    rw [e1] at e2
    have e3 : stepR ms hi k = some h2 := by
      rw [← walkR_one]
      exact e2
    obtain ⟨m, hm, ho, rfl⟩ := step_some e3
    refine ⟨hi, m, rfl, hm, ho, ?_⟩
    rw [take_more hk, walkR_app, e1]
    exact e2
theorem walk_moves {ms : List (List Int × List Int)} {h h' : List Int} {run : List Nat} (e : walkR ms h run = some h') {i k : Nat} (hk : run[i]? = some k) : k < ms.length := by
  obtain ⟨hi, m, _, hm, _⟩ := walk_at e hk
  exact (List.getElem?_eq_some_iff.mp hm).1
theorem nats_get {run : List Nat} {i : Nat} {d : PyData} (h : (run.map fun (k : Nat) => PyData.int k)[i]? = some d) : ∃ k, run[i]? = some k ∧ d = .int (k : Nat) := by
  rw [List.getElem?_map] at h
  cases e : run[i]? with
  | none => rw [e] at h; cases h
  | some k =>
    rw [e] at h
    exact ⟨k, rfl, (Option.some.inj h).symm⟩
theorem moves_get {ms : List (List Int × List Int)} {i : Nat} {d : PyData} (h : (ms.map moveD)[i]? = some d) : ∃ m, ms[i]? = some m ∧ d = moveD m := by
  rw [List.getElem?_map] at h
  cases e : ms[i]? with
  | none => rw [e] at h; cases h
  | some k =>
    rw [e] at h
    exact ⟨k, rfl, (Option.some.inj h).symm⟩
theorem step_len {ms : List (List Int × List Int)} {h h' : List Int} {k : Nat} (e : stepR ms h k = some h') : h'.length = h.length := by
  obtain ⟨m, hm, ho, rfl⟩ := step_some e
  exact led_len
theorem walk_cons {ms : List (List Int × List Int)} {h h' : List Int} {k : Nat} {run : List Nat} (e : walkR ms h (k :: run) = some h') : ∃ h1, stepR ms h k = some h1 ∧ walkR ms h1 run = some h' := by
  unfold walkR at e
  rw [List.foldlM_cons] at e
  cases e1 : stepR ms h k with
  | none => rw [e1] at e; cases e
  | some h1 =>
    rw [e1] at e
    exact ⟨h1, rfl, e⟩
theorem step_nn {n : Nat} {w : Int} {ms : List (List Int × List Int)} {h h' : List Int} {k : Nat} (hN : NetOk n w ms) (hl : h.length = n) (h0 : ∀ x ∈ h, 0 ≤ x) (e : stepR ms h k = some h') : ∀ x ∈ h', 0 ≤ x := by
  obtain ⟨m, hm, ho, rfl⟩ := step_some e
  obtain ⟨r1, r2⟩ := hN.rows m (List.mem_of_getElem? hm)
  intro x hx
  unfold ledR at hx
  obtain ⟨j, hj, rfl⟩ := List.mem_map.mp hx
  have hj' := List.mem_range.mp hj
  have h1 := overB_iff.mp ho j (by rw [r1.1, ← hl]; exact hj')
  have h2 := (r2.2 (m.2.getD j 0) (by rw [List.getD_eq_getElem?_getD, List.getElem?_eq_getElem (by rw [r2.1, ← hl]; exact hj')]; exact List.getElem_mem _)).1
  omega
theorem cln_nats : ∀ r : List Nat, clnAll (r.map fun (k : Nat) => PyData.int k) = true
  | [] => rfl
  | _ :: r => by
    show (true && clnAll (r.map fun (k : Nat) => PyData.int k)) = true
    rw [cln_nats r]
    rfl
theorem eqv_ints : ∀ a b : List Int, PyData.eqvAll (a.map .int) (b.map .int) = decide (a = b)
  | [], [] => rfl
  | [], _ :: _ => rfl
  | _ :: _, [] => rfl
  | x :: a, y :: b => by
    show (PyData.eqv (.int x) (.int y) && PyData.eqvAll (a.map .int) (b.map .int)) = _
    rw [eqv_int, eqv_ints a b]
    by_cases h : x = y <;> by_cases h2 : a = b <;> simp [h, h2]
theorem eqv_row (a b : List Int) : PyData.eqv (rowD a) (rowD b) = decide (a = b) := eqv_ints a b
end Tw

/-! Tw8: try: f(..) except X: ..; except X as e: r = r + int(isinstance(e, ValueError)). -/
namespace Tw
open PySem PySem.Spec PyProof.Rows L2 PyProof
/-- isinstance of the error that the suite holds at a -/
def rIsX (K : PySem.W.Frag) (a : Addr) (cls : Value) (d : Option Addr) : List V → Hp → VK → Prop := fun xs H Q => ∃ D, cls = .ref D ∧ d = none ∧ ExcC K D ∧ rIsE K D a xs H Q
theorem call_isX {X : Cx} {a : Addr} {cls : Value} {d : Option Addr} {oe : Obj} {pn : List (Addr × Obj)} (hz : Zc cls d oe) (hf : ∃ vs, oe.data = .fields vs) : CallR (X.suite a ((a, oe) :: pn)) (.builtin "isinstance") (rIsX X.K a cls d) := by
  intro pins s σ H xs us Q I r h
  obtain ⟨D, rfl, rfl, C, q⟩ := h
  exact call_isE C hz hf pins s σ H xs us Q I r q
def tTryA (K : PySem.W.Frag) (c : Value) (body : WX → TS) (suite : TS) : TS := fun D σ H => body (wOnly K c (fun _ _ _ => suite) (fun _ _ _ _ => False) D) D σ H
def tTryB (K : PySem.W.Frag) (c : Value) (i : Nat) (body : WX → TS) (suite : Addr → Value → Option Addr → TS) : TS := fun D σ H => body (wAs K c i suite (fun _ _ _ _ => False) D) D σ H
section
variable {X : Cx} {x : Str} {c : Value} {body suite : List Stmt} {b₀ : Stmt} {np pos pos' : Pos} {tb : WX → TS} {su : TS} {ts : Addr → Value → Option Addr → TS} {i : Nat} {n : Str}
theorem ps_tryA (hs : X.stack = X.env :: X.outer) (hf : X.env.frame = some X.env.locals) (hc : Names X x c)
    (hb : ∀ (W : WX) (pn : List (Addr × Obj)) (xe : Value → Shared → Prop), Takes (X.tr pn xe) W → PassesOwn (model X.prog X.w) X.A X.env xe → PSs (X.tr pn xe) body (tb W))
    (hsu : ∀ (a : Addr) (oe : Obj) (cls : Value) (d : Option Addr) (pn : List (Addr × Obj)), Zc cls d oe → (∃ vs, oe.data = .fields vs) → PSs (X.suite a ((a, oe) :: pn)) (b₀ :: suite) su) :
    PS X (.Try body [.ExceptHandler (some (.Name x np)) none (b₀ :: suite) pos'] [] [] pos) (tTryA X.K c tb su) := ps_try_only (ts := fun _ _ _ => su) hs hf hc takes0 hb hsu
theorem ps_tryB (hs : X.stack = X.env :: X.outer) (hf : X.env.frame = some X.env.locals) (hN : X.N.Nodup) (hi : X.N[i]? = some n) (hln : X.env.kindOf n = some .local) (hc : Names X x c)
    (hb : ∀ (W : WX) (pn : List (Addr × Obj)) (xe : Value → Shared → Prop), Takes (X.tr pn xe) W → PassesOwn (model X.prog X.w) X.A X.env xe → PSs (X.tr pn xe) body (tb W))
    (hsu : ∀ (a : Addr) (oe : Obj) (cls : Value) (d : Option Addr) (pn : List (Addr × Obj)), Zc cls d oe → (∃ vs, oe.data = .fields vs) → PSs (X.suite a ((a, oe) :: pn)) (b₀ :: suite) (ts a cls d)) :
    PS X (.Try body [.ExceptHandler (some (.Name x np)) (some n) (b₀ :: suite) pos'] [] [] pos) (tTryB X.K c i tb ts) := ps_try_as hs hf hN hi hln hc takes0 hb hsu
end
/-- what the kit must say of the error class D, of ValueError and of the class T over it -/
structure ErrF (K : PySem.W.Frag) (D T : Addr) : Prop where
  C : ExcC K D
  ve : PySem.W.kitOne K (.ref D) (.type "ValueError") = some true
  own : PySem.W.exmOne K (.ref D) (.ref D) = some true
  top : PySem.W.exmOne K (.ref D) (.ref T) = some true
theorem errF_of {K : PySem.W.Frag} {D T : Addr} (C : ExcC K D) (tD : PySem.W.typeIn K (.ref D) = some (.type "type")) (sv : PySem.W.subIn K (.ref D) (.type "ValueError") = some true) (sD : PySem.W.subIn K (.ref D) (.ref D) = some true)
    (bT : PySem.W.subIn K (.ref T) (.type "BaseException") = some true) (dT : PySem.W.hasDictIn K T = true) (tT : PySem.W.typeIn K (.ref T) = some (.type "type")) (sT : PySem.W.subIn K (.ref D) (.ref T) = some true) : ErrF K D T where
  C := C
  ve := by
    show (if ((Value.ref D == Value.type "ValueError") = true) then some true else if PySem.W.kitMeta "ValueError" = true then PySem.W.subIn K (.ref D) (.type "ValueError") else none) = some true
    rw [if_neg (by intro h; cases (beq_iff_eq.mp h)), if_pos (by decide +kernel)]
    exact sv
  own := PySem.W.exm_ref C.hs C.hd tD sD
  top := PySem.W.exm_ref bT dT tT sT
section
variable {K : PySem.W.Frag} {E : XK} {δ : List Sl} {xs : List PyData} {x : PyData} {ta : TA} {F : List PyData → Out → Prop} {cl c : Value} {su : TS} {P : Out → Prop} {D T : Addr}
theorem as_tryA_ok (ha : EvA K ta δ xs) (hF : F xs (.rt x)) (k : P (.nx δ)) : As K E (tTryA K c (fun W => tDrop (tCallS (SpD K F) (WE W) ta)) su) δ P := fun G I0 σ H I D n r cv =>
  as_drop (ev_call (W := wOnly K c (fun _ _ _ => su) (fun _ _ _ _ => False) D) ha hF) k G I0 σ H I D n r cv
theorem as_tryB_ok {i : Nat} {sb : Addr → Value → Option Addr → TS} (ha : EvA K ta δ xs) (hF : F xs (.rt x)) (k : P (.nx δ)) : As K E (tTryB K c i (fun W => tDrop (tCallS (SpD K F) (WE W) ta)) sb) δ P := fun G I0 σ H I D n r cv =>
  as_drop (ev_call (W := wAs K c i sb (fun _ _ _ _ => False) D) ha hF) k G I0 σ H I D n r cv
theorem nx_same {H I H' : Hp} (s : Same I H) (e : Same H H') : Nx H I H' I := ⟨e, Same.refl _, s.trans e, fun _ _ _ z => z⟩
theorem as_tryA_ex (ha : EvA K ta δ xs) (hF : F xs (.ex cl)) (he : PySem.W.exmOne K cl c = some true) (hs : As K E su δ P) : As K E (tTryA K c (fun W => tDrop (tCallS (SpD K F) (WE W) ta)) su) δ P := fun G I0 σ H I D n r cv =>
  ha G σ H I n.s n.h r _ fun vs H1 I1 n1 r1 => ⟨I1, xs, .ex cl, n1.s, r1, hF, fun H2 e => ⟨true, he, fun _ a _ => hs G I0 σ H2 I1 D ((n.trans n1).trans (nx_same n1.s e)) (r.next (n1.trans (nx_same n1.s e))) cv, fun z => nomatch z⟩⟩
theorem as_tryB_ex {i q : Nat} {m : Int} (ha : EvA K ta δ xs) (hF : F xs (.ex (.ref D))) (hE : ErrF K D T) (hq : δ[q]? = some (.d (.int m))) (hi : i < δ.length) (hiq : i ≠ q) (k : P (.nx ((δ.set q (.d (.int (m + 1)))).set i .no))) :
    As K E (tTryB K (.ref T) i (fun W => tDrop (tCallS (SpD K F) (WE W) ta)) (fun a cls d => tAsg (tOp (rAddA K) (tVar q) (tCB rIntA (tCons (tCB (rIsX K a cls d) (tCons (tVar i) (tCons (tC (.ty "ValueError")) tNil))) tNil))) (gName q))) δ P := fun G I0 σ H I D' n r cv =>
  ha G σ H I n.s n.h r _ fun vs H1 I1 n1 r1 => ⟨I1, xs, .ex (.ref D), n1.s, r1, hF, fun H2 e => ⟨true, hE.top, fun _ a _ => by
    have r2 := r.next (n1.trans (nx_same n1.s e))
    have n2 := (n.trans n1).trans (nx_same n1.s e)
    obtain ⟨v, e1, rv⟩ := r2.d q _ hq
    cases rv
    have hl := r2.len
    have h1 : (σ.set i (some (V.ref a)))[q]? = some (some (.int m)) := by rw [List.getElem?_set_ne hiq]; exact e1
    have h2 : (σ.set i (some (V.ref a)))[i]? = some (some (.ref a)) := List.getElem?_set_self (by omega)
    refine ⟨_, h1, ?_⟩
    refine ⟨_, h2, D, rfl, rfl, hE.C, .ty "ValueError", .type "ValueError", true, rfl, fun u ru => ru, hE.ve, ?_⟩
    refine .inr ⟨true, rfl, ?_⟩
    refine .inl ⟨_, _, rfl, rfl, ?_⟩
    refine cv.nx _ _ _ _ k n2 ?_
    have r3 : RelS K G H2 I1 (σ.set q (some (.int (m + 1)))) (δ.set q (.d (.int (m + 1)))) := r2.put (.int _)
    have r4 := r3.none (i := i) (o := none)
    have ec : ((σ.set i (some (V.ref a))).set q (some (.int (m + 1)))).set i none = (σ.set q (some (.int (m + 1)))).set i none := by
      rw [List.set_comm _ _ hiq, List.set_set]
    show RelS K G H2 I1 (((σ.set i (some (V.ref a))).set q (some (.int (m + 1)))).set i none) _
    rw [ec]
    exact r4, fun z => nomatch z⟩⟩
end
end Tw

/-! Tw9: a tuple times 0, times 1. -/
namespace Tw
open PySem PySem.Spec PyProof.Rows L2 PyProof
theorem tuple_mul1 (l : Addr) (items : Array Value) (n : Nat) (dd : Option Addr) (sl : Array (Option Value)) (u : Tok) :
    Meets (Builtin.«tuple.__mul__» ⟨[.ref l, .int 1 u], []⟩) (fun _ R s => s.heap.get? l = some { cls := .type "tuple", dict := dd, data := .seq items n, slots := sl } ∧
      R (.ok (.ret (Value.ref l))) s) :=
  .of_wp fun prog w A R s h => by
    obtain ⟨hp, g, d, tk, os⟩ := s
    obtain ⟨hl, h⟩ := h
    have f1 := AutoSeq1.idx_int
    have c0 : (decide ((1 : Int) < -(2 ^ 63)) || decide ((1 : Int) ≥ 2 ^ 63)) = false := by decide
    have c1 : (items.isEmpty || (1 : Int) == 1) = true := by rw [Bool.or_eq_true]; exact .inr rfl
    wp_walk using wpAny_loadPart' hl
    repeat (first
      | (refine wpAny_ite_false (decide_eq_false (by rw [c0]; exact Bool.false_ne_true)) ?_; wp_walk using wpAny_loadPart' hl)
      | (refine wpAny_ite_true (decide_eq_true c1) ?_; wp_walk using wpAny_loadPart' hl)
      | (refine wpAny_ite_true (decide_eq_true rfl) ?_; wp_walk using wpAny_loadPart' hl))
    exact ⟨_, rfl, h⟩
theorem tuple_mul0 (l : Addr) (items : Array Value) (n : Nat) (dd : Option Addr) (sl : Array (Option Value)) (u : Tok) (c : items.isEmpty = false) :
    Meets (Builtin.«tuple.__mul__» ⟨[.ref l, .int 0 u], []⟩) (fun _ R s => s.heap.get? l = some { cls := .type "tuple", dict := dd, data := .seq items n, slots := sl } ∧
      R (.ok (.ret (Value.ref s.heap.objs.size))) { s with heap := s.heap.push { cls := Value.type "tuple", data := Data.seq #[] }, toks := s.toks }) :=
  .of_wp fun prog w A R s h => by
    obtain ⟨hp, g, d, tk, os⟩ := s
    obtain ⟨hl, h⟩ := h
    have f1 := AutoSeq1.idx_int
    have c0 : (decide ((0 : Int) < -(2 ^ 63)) || decide ((0 : Int) ≥ 2 ^ 63)) = false := by decide
    have c1 : (items.isEmpty || (0 : Int) == 1) = false := by rw [c] <;> rfl
    have c2 : (decide ((0 : Int) ≤ 0) || items.isEmpty) = true := by rw [Bool.or_eq_true]; exact .inl (by decide)
    wp_walk using wpAny_loadPart' hl
    repeat (first
      | (refine wpAny_ite_false (decide_eq_false (by rw [c0]; exact Bool.false_ne_true)) ?_; wp_walk using wpAny_loadPart' hl)
      | (refine wpAny_ite_false (decide_eq_false (by rw [c1]; exact Bool.false_ne_true)) ?_; wp_walk using wpAny_loadPart' hl)
      | (refine wpAny_ite_true (decide_eq_true c2) ?_; wp_walk using wpAny_loadPart' hl)
      | (refine wpAny_ite_false (decide_eq_false (Nat.not_lt.mpr (Nat.zero_le _))) ?_; wp_walk using wpAny_loadPart' hl))
    exact ⟨_, rfl, h⟩
/-- a tuple times 0 (it is not empty) or 1 -/
def rRepS (K : PySem.W.Frag) : R2 := fun x y H Q => ∃ l xs, x = .ref l ∧ SqT K H l xs ∧ ((y = .int 1 ∧ Q (.ref l) H) ∨ (y = .int 0 ∧ xs ≠ [] ∧ ∀ p, H p = none → Q (.ref p) (upd H p (.tup []))))
section
variable {X : Cx}
theorem op_repS : OpR X (binaryOp .Mult) (rRepS X.K) := by
  intro pins s σ H x y v u Q I rx ry h
  obtain ⟨l, xs, rfl, hT, q⟩ := h
  cases rx
  rcases q with ⟨rfl, q⟩ | ⟨rfl, hne, q⟩
  · obtain ⟨t, rfl⟩ := ry
    obtain ⟨its, r, ⟨⟨cls, dd, data, sl⟩, ho, hc, n, hd⟩, hs⟩ := I.tuple hT
    simp only at hc hd
    subst hc hd
    refine wpAny_binaryOp_repeat_ref (T := "tuple") (U := "int") (by decide) ⟨_, ho, rfl⟩ (fun s' => typeIs_int s' 1 t) noFill_tuple_mul F.fills_int_mul F.slot_int_rmul repeat_tuple F.slot_int_index.lookup
      (call_meets F.slot_int_rmul (typeIs_int s 1 t) F.entry_int_rmul (F.args_int_rmul_2 _ _) (int_rmul_tuple 1 t l its.toArray n dd sl)
        ⟨ho, rfl, ⟨_, ho, rfl⟩, call_meets F.slot_tuple_mul ⟨_, ho, rfl⟩ F.entry_tuple_mul (F.args_tuple_mul_2 _ _) (tuple_mul1 l its.toArray n dd sl t) ⟨ho, ?_⟩⟩)
    exact ⟨.ref l, H, I, rfl, q⟩
  · obtain ⟨t, rfl⟩ := ry
    obtain ⟨its, r, ⟨⟨cls, dd, data, sl⟩, ho, hc, n, hd⟩, hs⟩ := I.tuple hT
    simp only at hc hd
    subst hc hd
    have hle : its.length = xs.length := r.length.symm
    have hi : its.toArray.isEmpty = false := by
      cases its with
      | nil => exact absurd (List.eq_nil_of_length_eq_zero hle.symm) hne
      | cons a b => rfl
    refine wpAny_binaryOp_repeat_ref (T := "tuple") (U := "int") (by decide) ⟨_, ho, rfl⟩ (fun s' => typeIs_int s' 0 t) noFill_tuple_mul F.fills_int_mul F.slot_int_rmul repeat_tuple F.slot_int_index.lookup
      (call_meets F.slot_int_rmul (typeIs_int s 0 t) F.entry_int_rmul (F.args_int_rmul_2 _ _) (int_rmul_tuple 0 t l its.toArray n dd sl)
        ⟨ho, rfl, ⟨_, ho, rfl⟩, call_meets F.slot_tuple_mul ⟨_, ho, rfl⟩ F.entry_tuple_mul (F.args_tuple_mul_2 _ _) (tuple_mul0 l its.toArray n dd sl t hi) ⟨ho, ?_⟩⟩)
    refine ⟨.ref s.heap.objs.size, _, I.laid (t' := s.toks) (o := .tup []) (fun b ob q => Heap.get?_push_of_some _ q) (Nat.le_refl _) ?_, rfl, q _ (I.hok.fresh (Nat.le_refl _))⟩
    exact ⟨Nat.zero_le _, _, .nil, IsTup.new _ _⟩
end
def rMulT (K : PySem.W.Frag) : R2 := fun x y H Q => rMulA K x y H Q ∨ rRepS K x y H Q
theorem opMulT {X : Cx} : OpR X (binaryOp .Mult) (rMulT X.K) := OpR.or opMul op_repS
section
variable {K : PySem.W.Frag} {xs : List PyData} {j : Int} {x y z : PyData}
theorem rd_mulA (h : R2D K (rMulA K) x y z) : R2D K (rMulT K) x y z := fun H I v u s r1 r2 Q q => .inl (h H I v u s r1 r2 Q q)
/-- a tuple that is not empty, times j -/
theorem rd_repT (h1 : xs ≠ []) (h2 : 0 ≤ j) (h3 : j ≤ 1000) (h4 : xs.length ≤ 1000) : R2D K (rMulT K) (.tuple xs) (.int j) (.tuple (List.replicate j.toNat xs).flatten) := fun H I v u s r1 r2 Q q => by
  by_cases g2 : 2 ≤ j
  · exact .inl (rd_rep h1 g2 h3 h4 H I v u s r1 r2 Q q)
  · cases r1 with
    | tup e1 a1 =>
      cases r2
      by_cases g1 : j = 1
      · subst g1
        refine .inr ⟨_, _, rfl, .of (s _ _ e1), .inl ⟨rfl, q _ H I (Nx.refl s) ?_⟩⟩
        have e : (List.replicate (1 : Int).toNat xs).flatten = xs := by simp
        rw [e]
        exact .tup e1 a1
      · have g0 : j = 0 := by omega
        subst g0
        refine .inr ⟨_, _, rfl, .of (s _ _ e1), .inr ⟨rfl, fun z => h1 ?_, fun p hp => q _ _ _ (Nx.new s hp) (.tup upd_same .nil)⟩⟩
        have := a1.length
        rw [z] at this
        exact List.eq_nil_of_length_eq_zero this.symm
end
end Tw

/-! Tw10: Stuck: an own error with an own __init__ that calls its base's; its field read in an except suite. -/
namespace Tw
open PySem PySem.Spec PyProof.Rows L2 PyProof
def atN : Str := "at"
/-- what the kit must say of Stuck at C, of TokenError at T over it, of Stuck's __init__ at fI -/
structure StuckF (K : PySem.W.Frag) (C T fI : Addr) : Prop where
  o : OexC K C
  no : PySem.W.findIn K (.ref C) "at" = some none
  iC : PySem.W.findIn K (.ref C) "__init__" = some (some (.ref fI))
  tI : PySem.W.typeIn K (.ref fI) = some (.type "function")
  rd : PySem.W.readsIn K T (.type "type") = true
  sg : PySem.W.specialIn K (.ref T) "__getattribute__" = some (some (.builtin "type.__getattribute__"))
  ty : PySem.W.typeIn K (.ref T) = some (.type "type")
  fc : PySem.W.findCls K (.ref T) (.type "type") "__init__" = some (.val (.builtin "ValueError.__init__"))
  E : ExcC K C
  kT : PySem.W.kitOne K (.ref C) (.ref T) = some true
  kV : PySem.W.kitOne K (.ref C) (.type "ValueError") = some true
  ex : PySem.W.exmOne K (.ref C) (.ref C) = some true
theorem StuckF.X {K : PySem.W.Frag} {C T fI : Addr} (h : StuckF K C T fI) : XfC K C := ⟨h.E.hg, h.E.hk, h.E.hs, h.E.hd⟩
theorem stuckF_of {K : PySem.W.Frag} {C T fI : Addr} (o : OexC K C) (no : PySem.W.findIn K (.ref C) "at" = some none) (iC : PySem.W.findIn K (.ref C) "__init__" = some (some (.ref fI))) (tI : PySem.W.typeIn K (.ref fI) = some (.type "function"))
    (rd : PySem.W.readsIn K T (.type "type") = true) (sg : PySem.W.specialIn K (.ref T) "__getattribute__" = some (some (.builtin "type.__getattribute__"))) (ty : PySem.W.typeIn K (.ref T) = some (.type "type")) (fc : PySem.W.findCls K (.ref T) (.type "type") "__init__" = some (.val (.builtin "ValueError.__init__")))
    (E : ExcC K C) (dT : PySem.W.hasDictIn K T = true) (sT : PySem.W.subIn K (.ref C) (.ref T) = some true) (sV : PySem.W.subIn K (.ref C) (.type "ValueError") = some true) (sC : PySem.W.subIn K (.ref C) (.ref C) = some true) : StuckF K C T fI where
  o := o
  no := no
  iC := iC
  tI := tI
  rd := rd
  sg := sg
  ty := ty
  fc := fc
  E := E
  kT := by
    obtain ⟨cd, hc, _⟩ := PySem.W.any_some dT
    show (if ((Value.ref C == Value.ref T) = true) then some true else if ((PySem.W.clsIn K T).isSome && PySem.W.typeIn K (.ref T) == some (.type "type")) = true then PySem.W.subIn K (.ref C) (.ref T) else none) = some true
    rw [hc, ty, sT]
    split
    · rfl
    · rw [if_pos (by rfl)]
  kV := by
    show (if ((Value.ref C == Value.type "ValueError") = true) then some true else if PySem.W.kitMeta "ValueError" = true then PySem.W.subIn K (.ref C) (.type "ValueError") else none) = some true
    rw [if_neg (by intro h; cases (beq_iff_eq.mp h)), if_pos (by decide +kernel)]
    exact sV
  ex := PySem.W.exm_ref E.hs E.hd o.tyC sC
section
variable {X : Cx} {e : Expr} {es : List Expr} {ta : TA} {x : Str} {T : Addr} {p1 p2 pos : Pos}
/-- T.__init__(self, ..), T an own class that has ValueError's -/
theorem pe_oinit {pl : Sem Bool} (hg : Gl X x) (hm : X.mg x = some (.ref T)) (rd : PySem.W.readsIn X.K T (.type "type") = true) (sg : PySem.W.specialIn X.K (.ref T) "__getattribute__" = some (some (.builtin "type.__getattribute__"))) (ty : PySem.W.typeIn X.K (.ref T) = some (.type "type"))
    (fc : PySem.W.findCls X.K (.ref T) (.type "type") "__init__" = some (.val (.builtin "ValueError.__init__"))) (ha : PA X (e :: es) ta) (hdb : (x == ("__debug__" : Str)) = false := by decide)
    (hc : eval (.Call (.Attribute (.Name x p1) "__init__" p2) (e :: es) [] pos) X.env = (do
      let ov ← eval (.Name x p1) X.env
      standAt p2.atName
      let (f, first) ← holding [ov] (getMethod ov "__init__" pl)
      callWith pos f first (backTo pos (starEach (e :: es) X.env)) (backToKw pos (keywordEach [] X.env))) := by rfl)
    (he : starEach (e :: es) X.env = (false, eval e X.env) :: starEach es X.env := by rfl) (hpl : (backTo pos (starEach es X.env)).any (·.1) = false := by rfl) :
    PE X (.Call (.Attribute (.Name x p1) "__init__" p2) (e :: es) [] pos) (tVeI X.K ta) := by
  refine ⟨fun pins s σ H Q I h => ?_⟩
  refine PySem.W.methodCall_KW (ld_glob I hg hm ?_ hdb) hc
  obtain ⟨m, fr⟩ := I.fr
  refine PySem.W.method_of_cls fr I.ok.mod.kin sg (PySem.W.cls_val fr I.ok.mod.kin ty rd fc (by decide +kernel) ?_)
  show wpAny _ _ (callWith pos (Value.builtin "ValueError.__init__") [] (backTo pos (starEach (e :: es) X.env)) []) _ _ _
  refine PyProof.Rows.callWith_method1 (thn (ha.run pos pins _ σ H _ (I.tok _) h) fun us s1 ⟨vs, H1, I1, r1, a, C, ws, ev, hl, T, ea, q⟩ => ?_) he hpl
  subst ev
  cases r1 with
  | @cons _ u0 _ ur ra rw' =>
    obtain rfl : u0 = Value.ref a := ra
    have hlen : ur.length ≤ sizeLine := by
      rw [← Paired.length rw', sizeLine_eq]
      omega
    exact oinit_ok T I1 ea hlen fun s' J => ⟨.non, H1, J, rfl, q⟩
end
/-- Stuck.__init__(self, at): the field at is set, nothing else -/
def spI (K : PySem.W.Frag) : Sp := fun vs H Q _ => ∃ (a C : Addr) (k : Int), vs = [.ref a, .int k] ∧ OexC K C ∧ PySem.W.findIn K (.ref C) "at" = some none ∧ H a = some (exo a C none) ∧
  ∀ dx, H dx = none → dx ≠ a → Q .non (upd (upd H dx (exd dx [("at", .int k)])) a (exo a C (some dx)))
/-- raise Stuck(e) -/
def tRzO (K : PySem.W.Frag) (C : Addr) (W : WX) (ta : TA) : TS := fun _ σ H => tMkO C (spI K) [] ta σ H fun cls d H' => W cls d σ H'
def t_init (K : PySem.W.Frag) : TS := tSeq (tDrop (tVeI K (tCons (tVar 0) (tCons (tC (.str (PySem.Str.ofString "a move can't be made"))) tNil)))) (tOst K "at" (tVar 0) (tVar 1))
theorem spI_len {K : PySem.W.Frag} : ∀ vs H Q E, spI K vs H Q E → vs.length = 2 := fun _ _ _ _ ⟨_, _, _, h, _⟩ => by rw [h]; rfl
theorem spI_body {K : PySem.W.Frag} {vs : List V} {H : Hp} {Q : VK} {E : XK} {N : List Str} (h : spI K vs H Q E) : t_init K { nx := fun _ H' => Q .non H', rt := Q } (L2.start N vs) H := by
  obtain ⟨a, C, k, rfl, o, no, ea, q⟩ := h
  refine ⟨.ref a, rfl, ?_⟩
  refine ⟨a, C, [.str (PySem.Str.ofString "a move can't be made")], rfl, by decide, o, ea, ?_⟩
  refine ⟨.int k, rfl, .ref a, rfl, a, C, rfl, o, no, .inl ⟨ea, fun dx h1 h2 => q dx h1 h2⟩⟩
section
variable {K : PySem.W.Frag} {E : XK} {δ : List Sl} {te : TE} {P : Out → Prop} {C : Addr} {k : Int}
theorem as_rzO (he : Ev K te δ (.int k)) (hC : OexC K C) (hno : PySem.W.findIn K (.ref C) "at" = some none) (kP : P (.exd (.ref C) [("at", .int k)])) : As K E (tRzO K C (fun cls d _ H => E cls d H) (tCons te tNil)) δ P := fun G I0 σ H I D n r c => by
    unfold tRzO tMkO
    refine (ea_cons he ea_nil) G σ H I n.s n.h r _ fun vs H1 I1 n1 r1 => ?_
    cases r1 with
    | cons rx rr =>
      cases rr
      cases rx
      refine ⟨by show 1 ≤ 1000; decide, fun a ha => ⟨a, C, k, rfl, hC, hno, upd_same, fun dx hdx hne => ?_⟩⟩
      have h1 : H1 dx = none := by rw [upd_ne hne] at hdx; exact hdx
      refine ⟨rfl, dx, [("at", .int k)], upd_same, by rw [upd_ne hne, upd_same], h1, ?_⟩
      refine c.exd (.ref C) [("at", .int k)] dx _ kP (fun p o hp => ?_) upd_same
      have hp1 := n1.h p o (n.h p o hp)
      have pa : p ≠ a := fun z => by rw [z, ha] at hp1; cases hp1
      have pd : p ≠ dx := fun z => by rw [z, h1] at hp1; cases hp1
      rw [upd_ne pd, del_ne pa, upd_ne pa, upd_ne pd, upd_ne pa]
      exact hp1
end
/-- isinstance of the error that the suite holds at a, its dict known -/
def rIsY (K : PySem.W.Frag) (a : Addr) (cls : Value) (d : Option Addr) : List V → Hp → VK → Prop := fun xs H Q => ∃ (D dd : Addr) (fs : List (Str × V)) (c : V) (cv : Value) (b : Bool), cls = .ref D ∧ d = some dd ∧ H dd = some (.xd fs) ∧ ExcC K D ∧
  xs = [.ref a, c] ∧ (∀ u, RelV c u → u = cv) ∧ PySem.W.kitOne K (.ref D) cv = some b ∧ Q (.bl b) H
theorem call_isY {X : Cx} {a : Addr} {cls : Value} {d : Option Addr} {oe : Obj} {pn : List (Addr × Obj)} (hz : Zc cls d oe) (hf : ∃ vs, oe.data = .fields vs) : CallR (X.suite a ((a, oe) :: pn)) (.builtin "isinstance") (rIsY X.K a cls d) := by
  intro pins s σ H xs us Q I r h
  obtain ⟨D, dd, fs, c, cv, b, rfl, rfl, hdd, C, rfl, hcv, e, q⟩ := h
  cases r with
  | cons rx rr =>
    cases rr with
    | cons rt rr =>
      cases rr
      cases rx
      have ec := hcv _ rt
      subst ec
      obtain ⟨hget, _⟩ := I.pin (a, oe) (List.mem_append.mpr (.inl List.mem_cons_self))
      obtain ⟨vs, hv⟩ := hf
      have hx : ObjOk X.prog X.w H s.heap dd (.xd fs) := I.hok dd _ hdd
      obtain ⟨mA, hns, hr⟩ := hx
      obtain ⟨od, ho, hl⟩ := lookIn_ns hns
      have J : PySem.W.InstAt s.heap a oe D (some od) := ⟨hget, hz.1, by unfold PySem.W.notCls; rw [hv] <;> rfl, by rw [hz.2]; exact ho⟩
      have hcl : (PySem.W.clsIn X.K D).isSome = true := by
        obtain ⟨cd, hc, _⟩ := PySem.W.any_some C.hd
        rw [hc]
        rfl
      exact PySem.W.kia_one (PySem.W.kitx_exc hcl C.hg C.hk C.hs C.ha C.hn C.ht C.hm) I.kIn J e (fun z => nomatch z) fun tk => ⟨.bl b, H, I.kept (t' := tk) fun _ _ z => z, rfl, q⟩
theorem ite_t {A B : Prop} (h : A) : if true = true then A else B := by rw [if_pos rfl]; exact h
section
variable {K : PySem.W.Frag} {E : XK} {δ : List Sl} {xs : List PyData} {x : PyData} {ta : TA} {F : List PyData → Out → Prop} {P : Out → Prop} {C T fI : Addr} {c : Value} {i q : Nat} {k : Int} {z : Str}
theorem as_tryC_ok {sb : Addr → Value → Option Addr → TS} (ha : EvA K ta δ xs) (hF : F xs (.rt x)) (kP : P (.nx (δ.set q (.d x)))) : As K E (tTryB K c i (fun W => tAsg (tCallS (SpD K F) (WE W) ta) (gName q)) sb) δ P := fun G I0 σ H I D n r cv =>
  as_set (ev_call (W := wAs K c i sb (fun _ _ _ _ => False) D) ha hF) kP G I0 σ H I D n r cv
theorem as_tryC_ex (ha : EvA K ta δ xs) (hF : F xs (.exd (.ref C) [("at", .int k)])) (hS : StuckF K C T fI) (hi : i < δ.length) (hiq : i ≠ q) (kP : P (.nx ((δ.set q (.d (.tuple [.str z, .int k]))).set i .no))) :
    As K E (tTryB K (.ref C) i (fun W => tAsg (tCallS (SpD K F) (WE W) ta) (gName q)) (fun a cls d => tIfS (tAnd (tB (tCB (rIsY K a cls d) (tCons (tVar i) (tCons (tC (.ref T)) tNil)))) (tB (tCB (rIsY K a cls d) (tCons (tVar i) (tCons (tC (.ty "ValueError")) tNil)))))
      (tAsg (tTup (tCons (tC (.str z)) (tCons (tXf a cls d C "at" (tVar i)) tNil))) (gName q)) tNext)) δ P := fun G I0 σ H I D' n r cv =>
  ha G σ H I n.s n.h r _ fun vs H1 I1 n1 r1 => ⟨I1, xs, .exd (.ref C) [("at", .int k)], n1.s, r1, hF, fun dd H2 e hdd => ⟨true, hS.ex, fun _ a _ => by
    have r2 := r.next (n1.trans (nx_same n1.s e))
    have n2 := (n.trans n1).trans (nx_same n1.s e)
    have hl := r2.len
    have h2 : (σ.set i (some (V.ref a)))[i]? = some (some (.ref a)) := List.getElem?_set_self (by omega)
    refine ⟨_, h2, C, dd, _, .ref T, .ref T, true, rfl, rfl, hdd, hS.E, rfl, fun u ru => ru, hS.kT, true, rfl, ite_t ?_⟩
    refine ⟨_, h2, C, dd, _, .ty "ValueError", .type "ValueError", true, rfl, rfl, hdd, hS.E, rfl, fun u ru => ru, hS.kV, true, rfl, ite_t ?_⟩
    refine ⟨_, h2, rfl, rfl, dd, _, .int k, rfl, hdd, by simp [List.lookup], ?_⟩
    refine ⟨by show 2 ≤ sizeLine; decide, fun p hp => ?_⟩
    have n3 : Nx H2 I1 (upd H2 p (.tup [.str z, .int k])) (upd I1 p (.tup [.str z, .int k])) := Nx.new n2.s hp
    have r3 : RelS K G (upd H2 p (.tup [.str z, .int k])) (upd I1 p (.tup [.str z, .int k])) (σ.set q (some (.ref p))) (δ.set q (.d (.tuple [.str z, .int k]))) := (r2.next n3).put (.tup upd_same (.cons (.str _) (.cons (.int _) .nil)))
    have r4 := r3.none (i := i) (o := none)
    refine cv.nx _ _ _ _ kP (n2.trans n3) ?_
    have ec : ((σ.set i (some (V.ref a))).set q (some (.ref p))).set i none = (σ.set q (some (.ref p))).set i none := by
      rw [List.set_comm _ _ hiq, List.set_set]
    show RelS K G _ _ (((σ.set i (some (V.ref a))).set q (some (.ref p))).set i none) _
    rw [ec]
    exact r4, fun z => nomatch z⟩⟩
end
end Tw

/-! Tw11: sorted(set(xs)) of a list of ints; in, not in such a list. -/
namespace Tw
open PySem PySem.Spec PyProof.Rows L2 PyProof
section
variable {P : Program} {w : World} {A : Around} {E : Value → Shared → Prop} {s : Shared}
/-- the empty set, as it is made -/
abbrev noneYet (w : World) : Obj := { cls := .type "set", dict := none, data := .set #[] 0 (.fresh 0 0 (!w.params.followText "set-order")) }
/-- the loop that fills the new set from a list of ints -/
theorem fill_list {l : Addr} {items : Array Value} (ns : List Int) {R : Result → Shared → Prop} (hh : A.handled = none) (hl : s.heap.IsList l items) (hit : IntsAre items.toList ns) (hb : ns.length + 1 < scanBound) (hR : ∀ (h' : Heap) (tk c : Nat), SetR w h' s.heap.objs.size (fun j => decide (j ∈ ns)) c → c ≤ ns.length →
      (∀ b o, s.heap.get? b = some o → h'.get? b = some o) → R (.ok (.ret .none)) { s with heap := h', toks := tk }) :
    codeAny (model P w) A (.builtin "set.update.loop" ⟨[.ref s.heap.objs.size, .ref (s.heap.objs.size + 1)], []⟩) R { s with heap := (s.heap.push (noneYet w)).push { cls := .type "list_iterator", data := .fields #[.ref l, .int 0 0] } } := by
  have hlen : items.size = ns.length := by
    have := IntsAre.length hit
    rwa [Array.length_toList] at this
  have hlS : l < s.heap.objs.size := by
    obtain ⟨o, ho, _⟩ := hl
    exact Heap.lt_size ho
  have z1 : (s.heap.push (noneYet w)).objs.size = s.heap.objs.size + 1 := Heap.size_push ..
  have gS : ((s.heap.push (noneYet w)).push { cls := .type "list_iterator", data := .fields #[.ref l, .int 0 0] }).get? s.heap.objs.size = some (noneYet w) := Heap.get?_push_of_some _ (Heap.get?_push_size _ rfl)
  have gI : ((s.heap.push (noneYet w)).push { cls := .type "list_iterator", data := .fields #[.ref l, .int 0 0] }).get? (s.heap.objs.size + 1) = some { cls := .type "list_iterator", data := .fields #[.ref l, .int 0 0] } := by
    rw [← z1]
    exact Heap.get?_push_size _ rfl
  have gl : ((s.heap.push (noneYet w)).push { cls := .type "list_iterator", data := .fields #[.ref l, .int 0 0] }).IsList l items := (hl.push _).push _
  refine set_update_ints ((Walks.list (A := A.in1) (by simp [hh]) (s.heap.objs.size + 1) l (Nat.ne_of_lt (Nat.lt_succ_of_lt hlS)) items).toS) s.heap.objs.size (by simp only [List.mem_cons, List.not_mem_nil, or_false, not_or]; exact ⟨Nat.ne_of_lt (Nat.lt_succ_self _), Nat.ne_of_gt hlS⟩) ns hlen hb (fun i v hv => ?_) items.size 0 _ (Nat.sub_zero _) (Nat.zero_le _) ⟨⟨_, gI, rfl, rfl⟩, gl⟩ ⟨0, Nat.le_refl 0, setR_new_at gS⟩ (fun s' c hm hc hS => ?_)
  · have hi : i < ns.length := by rw [← hlen]; exact (Array.getElem?_eq_some_iff.mp hv).1
    obtain ⟨t, e⟩ := IntsAre.int_at hit i v (by rw [Array.getElem?_toList]; exact hv)
    exact ⟨ns[i], t, List.getElem?_eq_getElem hi, by rw [e, List.getD_eq_getElem?_getD, List.getElem?_eq_getElem hi]; rfl⟩
  · have key := hR s'.heap s'.toks c hS (by rw [← hlen]; exact hc) fun b o e => by
      have hlt := Heap.lt_size e
      exact hm.heap b o (by simp only [List.mem_cons, List.not_mem_nil, or_false, not_or]; exact ⟨Nat.ne_of_lt hlt, Nat.ne_of_lt (Nat.lt_succ_of_lt hlt)⟩) (Heap.get?_push_of_some _ (Heap.get?_push_of_some _ e))
    obtain ⟨h', g', d', tk', os'⟩ := s'
    have e1 : g' = s.gens := hm.gens
    have e2 : d' = s.drawn := hm.drawn
    have e3 : os' = s.os := hm.os
    subst e1 e2 e3
    exact key
/-- set(xs): the call comes to the loop above -/
theorem make_set {l : Addr} {items : Array Value} (ns : List Int) {Q : Value → Shared → Prop} (hh : A.handled = none) (hl : s.heap.IsList l items) (hit : IntsAre items.toList ns) (hb : ns.length + 1 < scanBound)
    (h : ∀ (h' : Heap) (tk c : Nat), SetR w h' s.heap.objs.size (fun j => decide (j ∈ ns)) c → c ≤ ns.length → (∀ b o, s.heap.get? b = some o → h'.get? b = some o) → Q (.ref s.heap.objs.size) { s with heap := h', toks := tk }) :
    wpAny (model P w) A (call (.type "set") [.ref l]) Q E s := by
  obtain ⟨_, _, hmro⟩ := F.called_set.mro
  have hmade := F.called_set.made
  have hsub := F.called_set.sub
  have hnot := F.called_set.notType
  have hcan := F.called_set.canCreate
  have htc := F.typeCall_set_1 (.ref l)
  refine wpAny_call (codeAny_of_tree ?_)
  show wpAny _ _ (callAny (.type "set") _) _ _ _
  refine wpAny_pure ⟨Code.quiet_builtin _ (by decide +kernel), codeAny_builtin F.entry_type_call ?_⟩
  rw [Around.under_plain (weight_type_call_type "set" [.ref l] []) rfl]
  repeat (any_goals (first | assumption | wp_step))
  refine codeAny_mono (code_set_led1 (.ref l) (E := E) (Q₁ := fun v t => v = .ref s.heap.objs.size ∧ t = { s with heap := s.heap.push (noneYet w) }) ⟨rfl, rfl⟩) fun r t hr => ?_
  match r, hr with
  | .error e, hr => exact hr
  | .ok .next, hr => exact hr.elim
  | .ok .brk, hr => exact hr.elim
  | .ok .cont, hr => exact hr.elim
  | .ok (.ret v), hr =>
    obtain ⟨rfl, rfl⟩ := hr
    have hT : Shared.TypeIs { s with heap := s.heap.push (noneYet w) } (.ref s.heap.objs.size) "set" := ⟨_, Heap.get?_push_size _ rfl, rfl⟩
    have hli := F.called_set.init.lookup
    have hbi := F.called_set.init.bind (.ref s.heap.objs.size)
    repeat (any_goals (first | assumption | wp_step))
    refine codeAny_mono (codeAny_call_builtin (R := wants (fun r t => r = .none ∧ ∃ h' tk c, t = { s with heap := h', toks := tk } ∧ SetR w h' s.heap.objs.size (fun j => decide (j ∈ ns)) c ∧ c ≤ ns.length ∧ (∀ b o, s.heap.get? b = some o → h'.get? b = some o)) E) F.called_set.init.plain F.entry_set_init (check_set_init_1 hT ?_)) fun r t hr => ?_
    · obtain ⟨⟨ocls, odict, odata, oslots⟩, hol, hcl, nl, hdl⟩ := id hl
      simp only at hcl hdl
      subst hcl hdl
      have hget : (s.heap.push (noneYet w)).get? l = some { cls := .type "list", dict := odict, data := .seq items nl, slots := oslots } := Heap.get?_push_of_some _ hol
      have k1 := F.sub_list_set
      have k2 := F.sub_list_frozenset
      have k3 : (Value.type "list" == Value.type "dict") = false := by decide
      have hl1 : (s.heap.push (noneYet w)).IsList l items := hl.push _
      unfold Builtin.«set.__init__» noKeywords Builtin.Frozenset.updateFrom
      generalize hPI : pyIter = PI
      wp_walk
      subst hPI
      refine wpAny_pyIter_list hl1 (wpAny_bind (wpAny_runValue ?_))
      rw [show (s.heap.push (noneYet w)).objs.size = s.heap.objs.size + 1 from Heap.size_push ..]
      refine fill_list (A := A.in1.in1) ns (by simp [hh]) hl hit hb fun h' tk c hS hc hk => ?_
      show wpAny _ _ _ _ _ _
      refine wpAny_pure ?_
      show wpAny _ _ (ret Value.none) _ _ _
      exact wpAny_pure ⟨rfl, h', tk, c, rfl, hS, hc, hk⟩
    · match r, hr with
      | .error e, hr => exact hr
      | .ok .next, hr => exact hr.elim
      | .ok .brk, hr => exact hr.elim
      | .ok .cont, hr => exact hr.elim
      | .ok (.ret v), hr =>
        obtain ⟨rfl, h', tk, c, rfl, hS, hc, hk⟩ := hr
        repeat (any_goals (first | assumption | wp_step))
        exact h _ _ _ hS hc hk
end
/-- sorted(set(e)), e a list of ints -/
def tSortSet (K : PySem.W.Frag) (ta : TE) : TE := fun σ H Q => ta σ H fun x H1 => ∃ (l : Addr) (ns : List Int), x = .ref l ∧ SqL K H1 l (ns.map V.int) ∧ ns.length < 64 ∧
  ∀ (out : List Int) (p : Addr), out.Pairwise (· < ·) → (∀ k, k ∈ out ↔ k ∈ ns) → H1 p = none → Q (.ref p) (upd H1 p (.lst (out.map V.int)))
theorem pe_sortSet {X : Cx} {a : Expr} {ta : TE} {p p2 q pos : Pos} (hg : Gl X "sorted") (hm : X.mg "sorted" = none) (hg2 : Gl X "set") (hm2 : X.mg "set" = none) (ha : PE X a ta) (hc : X.calm = true := by rfl)
    (na : starEach [a] X.env = (false, eval a X.env) :: starEach [] X.env := by rfl) : PE X (.Call (.Name "sorted" p) [.Call (.Name "set" p2) [a] [] q] [] pos) (tSortSet X.K ta) := by
  refine ⟨fun pins s σ H Q I h => ?_⟩
  refine Call_ (ld_blt I hg hm boot_sorted ?_)
  refine PyProof.Rows.callWith_builtin1 (PyProof.Rows.args_cons ?_ rfl) rfl rfl
  refine Call_ (ld_blt I hg2 hm2 PyProof.Rows.boot_set ?_)
  refine PyProof.Rows.callWith_type1 (PyProof.Rows.args_cons (thn (ha.run pins s σ H _ I h) fun v s1 ⟨x, H1, I1, r1, q1⟩ => PyProof.Rows.args_nil ?_) na) na rfl
  obtain ⟨l, ns, rfl, hq, hl, q1⟩ := q1
  cases r1
  obtain ⟨its, r, pl, hz⟩ := I1.list hq
  refine make_set ns (I1.ok.hd hc) pl.isList (by simpa using RZ.intsAre_vals r) (by unfold scanBound; omega) fun h' tk c hS hcl hk => ?_
  refine PyProof.Rows.args_nil ?_
  have I2 : Inv X pins σ H1 { s1 with heap := h', toks := tk } := I1.kept hk
  refine sorted_set hS (I2.ok.hd hc) (by omega) fun s' pp out c2 ms k g o hp hg3 hi hs hmm hln => ?_
  have hlen : (ms.map V.int).length ≤ sizeLine := by rw [List.length_map, hln, sizeLine_eq]; omega
  have hn : H1 pp = none := I2.hok.fresh hp
  have J : Inv X pins σ (upd H1 pp (.lst (ms.map V.int))) { s1 with heap := s'.heap, gens := s'.gens, drawn := s'.drawn, toks := s'.toks } :=
    Inv.call (s := { s1 with heap := h', toks := tk }) (ch := []) I2 (Un.laid k hp hn) (I2.hok.laid k hp ⟨hlen, out.toList, c2, vals_of_ints hi, hg3⟩) (by rw [g]; exact I2.bare) (fun _ z => nomatch z)
  have e : s' = { s1 with heap := s'.heap, gens := s'.gens, drawn := s'.drawn, toks := s'.toks } := by
    cases s'
    cases s1
    cases o
    rfl
  rw [e]
  exact ⟨.ref pp, _, J, rfl, q1 ms pp hs (fun k => by rw [hmm k, decide_eq_true_eq]) hn⟩
theorem eqV_int (a b : Int) : eqV (.int a) (.int b) = decide (a = b) := by
  first | rfl | (unfold eqV; by_cases h : a = b <;> simp [h])
theorem inV_ints (i : Int) : ∀ ns : List Int, inV (.int i) (ns.map V.int) = decide (i ∈ ns)
  | [] => by simp [inV]
  | a :: r => by
    show ((eqV (.int a) (.int i)) || inV (.int i) (r.map V.int)) = _
    rw [inV_ints i r, eqV_int]
    by_cases h : a = i
    · simp [h]
    · by_cases h2 : i ∈ r
      · simp [h2]
      · simp [h, h2, Ne.symm h]
theorem flat_ints (ns : List Int) : (ns.map V.int).all flatV = true := by
  rw [List.all_map, List.all_eq_true]
  intro x _
  rfl
section
variable {K : PySem.W.Frag} {i : Int} {ns : List Int}
theorem rd_in : R2D K (rIn K false) (.int i) (.list (ns.map .int)) (.bool (decide (i ∈ ns))) := fun H I v u s r1 r2 Q q => by
  cases r1
  cases r2 with
  | lst h a =>
    have e := rall_ints a
    subst e
    exact ⟨_, _, rfl, .inl (.of (s _ _ h)), rfl, flat_ints ns, by rw [inV_ints]; exact q _ H I (Nx.refl s) (.bl _)⟩
theorem rd_notIn : R2D K (rIn K true) (.int i) (.list (ns.map .int)) (.bool (!decide (i ∈ ns))) := fun H I v u s r1 r2 Q q => by
  cases r1
  cases r2 with
  | lst h a =>
    have e := rall_ints a
    subst e
    exact ⟨_, _, rfl, .inl (.of (s _ _ h)), rfl, flat_ints ns, by rw [inV_ints]; exact q _ H I (Nx.refl s) (.bl _)⟩
end
end Tw

/-! Tw12: sorted without repeats; sinks and traps, in plain Lean. -/
namespace Tw
open PySem PySem.Spec PyProof.Rows L2 PyProof
def insU (x : Int) : List Int → List Int
  | [] => [x]
  | y :: r => if x < y then x :: y :: r else if x = y then y :: r else y :: insU x r
theorem mem_insU {x k : Int} : ∀ {l : List Int}, k ∈ insU x l ↔ k = x ∨ k ∈ l
  | [] => by simp [insU]
  | y :: r => by
    unfold insU
    split
    · simp
    · split
      · rename_i h
        subst h
        simp
      · rw [List.mem_cons, mem_insU (l := r), List.mem_cons]
        constructor
        · rintro (h | h | h) <;> simp [h]
        · rintro (h | h | h) <;> simp [h]
theorem pw_insU {x : Int} : ∀ {l : List Int}, l.Pairwise (· < ·) → (insU x l).Pairwise (· < ·)
  | [], _ => List.pairwise_singleton ..
  | y :: r, h => by
    obtain ⟨h1, h2⟩ := List.pairwise_cons.mp h
    unfold insU
    split
    · rename_i hx
      refine List.pairwise_cons.mpr ⟨fun k hk => ?_, h⟩
      rcases List.mem_cons.mp hk with rfl | hk
      · exact hx
      · exact Int.lt_trans hx (h1 k hk)
    · split
      · exact h
      · rename_i h3 h4
        refine List.pairwise_cons.mpr ⟨fun k hk => ?_, pw_insU h2⟩
        rcases mem_insU.mp hk with rfl | hk
        · omega
        · exact h1 k hk
def sortU (l : List Int) : List Int := l.foldr insU []
theorem mem_sortU {k : Int} : ∀ {l : List Int}, k ∈ sortU l ↔ k ∈ l
  | [] => by simp [sortU]
  | a :: r => by
    show k ∈ insU a (sortU r) ↔ _
    rw [mem_insU, mem_sortU, List.mem_cons]
theorem pw_sortU : ∀ {l : List Int}, (sortU l).Pairwise (· < ·)
  | [] => List.Pairwise.nil
  | a :: r => pw_insU pw_sortU
/-- two that rise and have the same members are one -/
theorem rise_eq : ∀ {a b : List Int}, a.Pairwise (· < ·) → b.Pairwise (· < ·) → (∀ k, k ∈ a ↔ k ∈ b) → a = b
  | [], [], _, _, _ => rfl
  | [], y :: b, _, _, h => absurd ((h y).mpr List.mem_cons_self) (by simp)
  | x :: a, [], _, _, h => absurd ((h x).mp List.mem_cons_self) (by simp)
  | x :: a, y :: b, ha, hb, h => by
    obtain ⟨a1, a2⟩ := List.pairwise_cons.mp ha
    obtain ⟨b1, b2⟩ := List.pairwise_cons.mp hb
    have e : x = y := by
      rcases List.mem_cons.mp ((h x).mp List.mem_cons_self) with e | e
      · exact e
      · rcases List.mem_cons.mp ((h y).mpr List.mem_cons_self) with e2 | e2
        · exact e2.symm
        · have := b1 x e
          have := a1 y e2
          omega
    subst e
    congr 1
    refine rise_eq a2 b2 fun k => ?_
    constructor
    · intro hk
      rcases List.mem_cons.mp ((h k).mp (List.mem_cons_of_mem _ hk)) with e | e
      · have := a1 k hk
        omega
      · exact e
    · intro hk
      rcases List.mem_cons.mp ((h k).mpr (List.mem_cons_of_mem _ hk)) with e | e
      · have := b1 k hk
        omega
      · exact e
section
variable {K : PySem.W.Frag} {E : XK} {δ : List Sl} {te : TE} {ns : List Int} {xs ys : List PyData} {P : Out → Prop}
theorem en_sortSet (h : Ev K te δ (.list (ns.map .int))) (hl : ns.length < 64) : EvN K (tSortSet K te) δ ((sortU ns).map .int) := fun G σ H I s g r Q q =>
  h G σ H I s g r _ fun v H1 I1 n1 rv => by
    cases rv with
    | lst h1 a1 =>
      have e := rall_ints a1
      subst e
      refine ⟨_, ns, rfl, .of (n1.s _ _ h1), hl, fun out p hs hm hp => ?_⟩
      have eo : out = sortU ns := rise_eq hs pw_sortU fun k => by rw [hm k, mem_sortU]
      subst eo
      exact q p H1 I1 _ n1 hp (ints_rall _)
/-- xs.extend(ys), ys data -/
theorem as_extD {i : Nat} (e : δ[i]? = some (.own xs)) (h : Ev K te δ (.list ys)) (hz : xs.length + ys.length ≤ sizeLine) (k : P (.nx (δ.set i (.own (xs ++ ys))))) :
    As K E (tDrop (tBM K "list" rExtend (tVar i) (tCons te tNil))) δ P := fun G I0 σ H I D n r c => by
  obtain ⟨p, vs, h1, h2, h3, h4, h5⟩ := r.own i xs e
  refine ⟨.ref p, h1, .inl ⟨rfl, _, .inl (.inl h4)⟩, ?_⟩
  refine h G σ H I n.s n.h r _ fun v H1 I1 n1 rv => ?_
  cases rv with
  | lst hq rw =>
    have r1 := r.next n1
    obtain ⟨p', vs', h1', h2', h3', h4', h5'⟩ := r1.own i xs e
    rw [h1] at h1'
    cases h1'
    refine ⟨p, _, vs', _, rfl, rfl, h4', n1.s _ _ hq, by rw [h5'.length, rw.length]; exact hz, ?_⟩
    have n2 := n.trans n1
    refine c.nx _ _ _ I1 k ⟨fun b o eb => ?_, n2.i, fun b o eb => ?_, n2.f⟩ (r1.write e h1 (h5'.app rw))
    · rw [upd_ne (ne_of_none eb h2)]
      exact n2.h b o eb
    · rw [upd_ne (ne_of_none eb h3')]
      exact n2.s b o eb
end
theorem getD_of {l : List Int} {i : Nat} {k : Int} (h : l[i]? = some k) : l.getD i 0 = k := by
  rw [List.getD_eq_getElem?_getD, h]
  rfl
theorem kept_filter (ps : List Int) (p : Int → Bool) : kept ps.length (fun i => p (ps.getD i 0)) (fun i => .int (ps.getD i 0)) = (ps.filter p).map PyData.int := by
  unfold kept
  have e : (List.range ps.length).map (fun k => ps.getD k 0) = ps := map_getD rfl
  have e2 : ps.filter p = ((List.range ps.length).filter fun i => p (ps.getD i 0)).map fun k => ps.getD k 0 := by
    conv => lhs; rw [← e]
    rw [List.filter_map]
    rfl
  rw [e2, List.map_map]
  rfl
/-! ### sinks and traps -/
def sd (m : List Int × List Int) (g : Bool) : List Int := if g then m.2 else m.1
def tch (t ps : List Int) : Bool := ps.any fun p => decide (0 < t.getD p.toNat 0)
def badF (ms : List (List Int × List Int)) (g : Bool) (ps : List Int) : List Int := ms.flatMap fun m => if tch (sd m (!g)) ps then [] else ps.filter fun p => decide (0 < (sd m g).getD p.toNat 0)
def staysB (ms : List (List Int × List Int)) (g : Bool) (ps : List Int) : Bool := ms.all fun m => !(tch (sd m g) ps && !tch (sd m (!g)) ps)
def greatG (ms : List (List Int × List Int)) (g : Bool) : Nat → List Int → List Int
  | 0, l => l
  | k + 1, l => if badF ms g l = [] then l else greatG ms g k (l.filter fun p => !decide (p ∈ badF ms g l))
def gS (ms : List (List Int × List Int)) (g : Bool) (ps : List Int) : List Int := greatG ms g (sortU ps).length (sortU ps)
theorem great_done {ms : List (List Int × List Int)} {g : Bool} {k : Nat} {l : List Int} (h : badF ms g l = []) : greatG ms g k l = l := by
  cases k with
  | zero => rfl
  | succ k => exact if_pos h
theorem bad_sub {ms : List (List Int × List Int)} {g : Bool} {l : List Int} {p : Int} (h : p ∈ badF ms g l) : p ∈ l := by
  unfold badF at h
  obtain ⟨m, _, hp⟩ := List.mem_flatMap.mp h
  split at hp
  · cases hp
  · exact (List.mem_filter.mp hp).1
theorem less_len {ms : List (List Int × List Int)} {g : Bool} {l : List Int} (h : badF ms g l ≠ []) : (l.filter fun p => !decide (p ∈ badF ms g l)).length < l.length := by
  obtain ⟨b, hb⟩ := List.exists_mem_of_ne_nil _ h
  exact List.length_filter_lt_length_iff_exists.mpr ⟨b, bad_sub hb, by simp [hb]⟩
theorem great_sub {ms : List (List Int × List Int)} {g : Bool} : ∀ {k : Nat} {l : List Int}, (greatG ms g k l).Sublist l
  | 0, l => List.Sublist.refl _
  | k + 1, l => by
    unfold greatG
    split
    · exact List.Sublist.refl _
    · exact great_sub.trans List.filter_sublist
theorem tch_iff {t ps : List Int} : tch t ps = true ↔ ∃ p ∈ ps, 0 < t.getD p.toNat 0 := by
  unfold tch
  rw [List.any_eq_true]
  constructor
  · rintro ⟨p, h1, h2⟩
    exact ⟨p, h1, of_decide_eq_true h2⟩
  · rintro ⟨p, h1, h2⟩
    exact ⟨p, h1, decide_eq_true h2⟩
theorem stays_iff {ms : List (List Int × List Int)} {g : Bool} {ps : List Int} : staysB ms g ps = true ↔ ∀ m ∈ ms, tch (sd m g) ps = true → tch (sd m (!g)) ps = true := by
  unfold staysB
  rw [List.all_eq_true]
  constructor
  · intro h m hm ht
    have := h m hm
    rw [ht] at this
    cases e : tch (sd m (!g)) ps with
    | true => rfl
    | false => rw [e] at this; cases this
  · intro h m hm
    cases e : tch (sd m g) ps with
    | false => rfl
    | true => rw [h m hm e]; rfl
theorem stays_of {ms : List (List Int × List Int)} {g : Bool} {l : List Int} (h : badF ms g l = []) : staysB ms g l = true := stays_iff.mpr fun m hm ht => by
  cases e : tch (sd m (!g)) l with
  | true => rfl
  | false =>
    obtain ⟨p, hp, h0⟩ := tch_iff.mp ht
    have : p ∈ badF ms g l := by
      unfold badF
      refine List.mem_flatMap.mpr ⟨m, hm, ?_⟩
      rw [e, if_neg Bool.false_ne_true]
      exact List.mem_filter.mpr ⟨hp, decide_eq_true h0⟩
    rw [h] at this
    cases this
theorem great_stays {ms : List (List Int × List Int)} {g : Bool} : ∀ {k : Nat} {l : List Int}, l.length ≤ k → staysB ms g (greatG ms g k l) = true
  | 0, l, h => by
    have e : l = [] := List.eq_nil_of_length_eq_zero (by omega)
    subst e
    refine stays_of (?_ : badF ms g [] = [])
    unfold badF
    rw [List.flatMap_eq_nil_iff]
    intro m _
    split <;> rfl
  | k + 1, l, h => by
    unfold greatG
    by_cases hb : badF ms g l = []
    · rw [if_pos hb]
      exact stays_of hb
    · rw [if_neg hb]
      exact great_stays (by have := less_len hb; omega)
theorem great_max {ms : List (List Int × List Int)} {g : Bool} {S : List Int} (hS : staysB ms g S = true) : ∀ {k : Nat} {l : List Int}, (∀ p ∈ S, p ∈ l) → ∀ p ∈ S, p ∈ greatG ms g k l
  | 0, l, h => h
  | k + 1, l, h => by
    unfold greatG
    split
    · exact h
    · refine great_max hS fun p hp => List.mem_filter.mpr ⟨h p hp, ?_⟩
      cases e : decide (p ∈ badF ms g l) with
      | false => rfl
      | true =>
        exfalso
        have hb := of_decide_eq_true e
        unfold badF at hb
        obtain ⟨m, hm, hq⟩ := List.mem_flatMap.mp hb
        split at hq
        · cases hq
        · rename_i ht
          have h0 := of_decide_eq_true (List.mem_filter.mp hq).2
          obtain ⟨q, q1, q2⟩ := tch_iff.mp (stays_iff.mp hS m hm (tch_iff.mpr ⟨p, hp, h0⟩))
          exact ht (tch_iff.mpr ⟨q, h q q1, q2⟩)
theorem gS_rise {ms : List (List Int × List Int)} {g : Bool} {ps : List Int} : (gS ms g ps).Pairwise (· < ·) := pw_sortU.sublist great_sub
theorem gS_mem {ms : List (List Int × List Int)} {g : Bool} {ps : List Int} {p : Int} (h : p ∈ gS ms g ps) : p ∈ ps := mem_sortU.mp (great_sub.subset h)
theorem gS_stays {ms : List (List Int × List Int)} {g : Bool} {ps : List Int} : staysB ms g (gS ms g ps) = true := great_stays (Nat.le_refl _)
theorem gS_max {ms : List (List Int × List Int)} {g : Bool} {ps S : List Int} (hS : staysB ms g S = true) (h : ∀ p ∈ S, p ∈ ps) : ∀ p ∈ S, p ∈ gS ms g ps := great_max hS fun p hp => mem_sortU.mpr (h p hp)
/-- a rising row stays when it is the greatest of itself -/
theorem gS_iff {ms : List (List Int × List Int)} {g : Bool} {ps row : List Int} (hr : row.Pairwise (· < ·)) (hm : ∀ k, k ∈ ps ↔ k ∈ row) : decide (gS ms g ps = sortU ps) = staysB ms g row := by
  have e : sortU ps = row := rise_eq pw_sortU hr fun k => by rw [mem_sortU, hm]
  rw [e]
  cases h : staysB ms g row with
  | true =>
    refine decide_eq_true (rise_eq gS_rise hr fun k => ⟨fun hk => (hm k).mp (gS_mem hk), fun hk => gS_max h (fun p hp => (hm p).mpr hp) k hk⟩)
  | false =>
    refine decide_eq_false fun e2 => ?_
    have := gS_stays (ms := ms) (g := g) (ps := ps)
    rw [e2, h] at this
    cases this
def setsF : Nat → List (List Int)
  | 0 => [[]]
  | n + 1 => setsF n ++ (setsF n).map fun r => r ++ [(n : Int)]
theorem sets_in : ∀ {n : Nat} {r : List Int}, r ∈ setsF n → r.Pairwise (· < ·) ∧ ∀ k ∈ r, 0 ≤ k ∧ k < n
  | 0, r, h => by
    have e : r = [] := List.mem_singleton.mp h
    subst e
    exact ⟨List.Pairwise.nil, fun k hk => by cases hk⟩
  | n + 1, r, h => by
    rcases List.mem_append.mp h with h | h
    · obtain ⟨a, b⟩ := sets_in h
      exact ⟨a, fun k hk => by have := b k hk; omega⟩
    · obtain ⟨q, hq, rfl⟩ := List.mem_map.mp h
      obtain ⟨a, b⟩ := sets_in hq
      refine ⟨List.pairwise_append.mpr ⟨a, List.pairwise_singleton .., fun x hx y hy => ?_⟩, fun k hk => ?_⟩
      · rw [List.mem_singleton.mp hy]
        exact (b x hx).2
      · rcases List.mem_append.mp hk with hk | hk
        · have := b k hk
          omega
        · rw [List.mem_singleton.mp hk]
          omega
theorem sets_all : ∀ {n : Nat} {r : List Int}, r.Pairwise (· < ·) → (∀ k ∈ r, 0 ≤ k ∧ k < n) → r ∈ setsF n
  | 0, r, _, h => by
    have e : r = [] := by
      cases r with
      | nil => rfl
      | cons a r =>
        have := h a List.mem_cons_self
        omega
    rw [e]
    exact List.mem_singleton.mpr rfl
  | n + 1, r, hr, h => by
    have hf : r.filter (fun (k : Int) => decide (k < (n : Int))) ∈ setsF n := sets_all (hr.filter _) fun k hk => by
      obtain ⟨h1, h2⟩ := List.mem_filter.mp hk
      exact ⟨(h k h1).1, of_decide_eq_true h2⟩
    by_cases hn : (n : Int) ∈ r
    · refine List.mem_append.mpr (.inr (List.mem_map.mpr ⟨_, hf, ?_⟩))
      refine rise_eq (List.pairwise_append.mpr ⟨hr.filter _, List.pairwise_singleton .., fun x hx y hy => ?_⟩) hr fun k => ?_
      · rw [List.mem_singleton.mp hy]
        exact of_decide_eq_true (List.mem_filter.mp hx).2
      · rw [List.mem_append, List.mem_filter, List.mem_singleton]
        constructor
        · rintro (⟨a, _⟩ | rfl)
          · exact a
          · exact hn
        · intro hk
          have := h k hk
          by_cases e : k = n
          · exact .inr e
          · exact .inl ⟨hk, decide_eq_true (by omega)⟩
    · refine List.mem_append.mpr (.inl ?_)
      have e : r.filter (fun (k : Int) => decide (k < (n : Int))) = r := List.filter_eq_self.mpr fun k hk => decide_eq_true (by
        have := h k hk
        have : k ≠ n := fun e => hn (e ▸ hk)
        omega)
      rw [e] at hf
      exact hf
def insideB (row ps : List Int) : Bool := decide (row.filter (fun p => !decide (p ∈ ps)) = [])
theorem inside_iff {row ps : List Int} : insideB row ps = true ↔ ∀ p ∈ row, p ∈ ps := by
  unfold insideB
  rw [decide_eq_true_eq, List.filter_eq_nil_iff]
  constructor
  · intro h p hp
    have := h p hp
    simpa using this
  · intro h p hp
    simp [h p hp]
def unionF (ms : List (List Int × List Int)) (g : Bool) (rows : List (List Int)) (ps : List Int) : List Int := (rows.filter fun row => insideB row ps && staysB ms g row).flatten
def lawG (ms : List (List Int × List Int)) (g : Bool) (n : Nat) (ps : List Int) : List Int := sortU (unionF ms g (setsF n) ps)
theorem great_law {ms : List (List Int × List Int)} {g : Bool} {n : Nat} {ps qs : List Int} (h : ∀ k, k ∈ ps ↔ k ∈ qs) (hn : ∀ k ∈ qs, 0 ≤ k ∧ k < n) : gS ms g ps = lawG ms g n qs := by
  refine rise_eq gS_rise pw_sortU fun k => ?_
  rw [lawG, mem_sortU]
  unfold unionF
  rw [List.mem_flatten]
  constructor
  · intro hk
    refine ⟨gS ms g ps, List.mem_filter.mpr ⟨sets_all gS_rise fun p hp => hn p ((h p).mp (gS_mem hp)), ?_⟩, hk⟩
    rw [gS_stays, Bool.and_true]
    exact inside_iff.mpr fun p hp => (h p).mp (gS_mem hp)
  · rintro ⟨row, hr, hk⟩
    obtain ⟨_, hc⟩ := List.mem_filter.mp hr
    rw [Bool.and_eq_true] at hc
    exact gS_max hc.2 (fun p hp => (h p).mpr (inside_iff.mp hc.1 p hp)) k hk
theorem flat_len (p : List Int → Bool) : ∀ rows : List (List Int), (rows.filter p).flatten.length ≤ rows.flatten.length
  | [] => Nat.le_refl _
  | r :: rows => by
    have ih := flat_len p rows
    rw [List.filter_cons, List.flatten_cons, List.length_append]
    split
    · rw [List.flatten_cons, List.length_append]
      omega
    · omega
theorem union_len {ms : List (List Int × List Int)} {g : Bool} {rows : List (List Int)} {ps : List Int} : (unionF ms g rows ps).length ≤ rows.flatten.length := flat_len _ rows
theorem sets_len {n : Nat} (h : n ≤ 4) : (setsF n).flatten.length ≤ 32 ∧ (setsF n).length ≤ 16 := by
  match n, h with
  | 0, _ => decide
  | 1, _ => decide
  | 2, _ => decide
  | 3, _ => decide
  | 4, _ => decide
end Tw

/-! Tw13: texts: digits, join, split, index. -/
namespace Tw
open PySem PySem.Spec PyProof.Rows L2 PyProof
abbrev mk (l : List Nat) : Str := ⟨l.toArray⟩
theorem tl_mk (l : List Nat) : TL.tl (mk l) = l := rfl
theorem mk_inj {a b : Str} (h : TL.tl a = TL.tl b) : a = b := TL.ext_tl h
theorem app_mk (a b : List Nat) : mk a ++ mk b = mk (a ++ b) := mk_inj (by rw [TL.tl_append])
def dgL (d : Int) : List Nat := [48 + d.toNat]
def rStrI : List V → Hp → VK → Prop := fun xs H Q => ∃ i, xs = [.int i] ∧ i.natAbs.log2 < 1920 ∧ Q (.str (toString i)) H
theorem callStrI {X : Cx} : CallR X (.type "str") rStrI := call_str_int
def rIntS : List V → Hp → VK → Prop := fun xs H Q => ∃ a n, xs = [.str a] ∧ PySem.intText? a = some n ∧ a.length ≤ 640 ∧ Q (.int n) H
theorem callIntS {X : Cx} : CallR X (.type "int") rIntS := call_int_str
def rNotSub : R2 := fun x y H Q => ∃ i j, x = .str i ∧ y = .str j ∧ Q (.bl (!(!(Builtin.Str.occurrences j i 0 j.length 1).isEmpty))) H
theorem opNotSub {X : Cx} : OpR X (compareOp .NotIn) rNotSub := op_notin_str
def rSplitA : V → List V → Hp → VK → Prop := fun x xs H Q => ∃ a b, x = .str a ∧ xs = [.str b] ∧ (b.length == 0) = false ∧ a.length + 2 ≤ sizeLine ∧ rNewStrs (Txt.split a b) H Q
theorem mtSplit {X : Cx} : MtR X "str.split" rSplitA := mt_split
def rJoinA (K : PySem.W.Frag) : V → List V → Hp → VK → Prop := fun x xs H Q => ∃ a p, ∃ ys : List Str, x = .str a ∧ xs = [.ref p] ∧ (SqL K H p (ys.map V.str) ∨ SqT K H p (ys.map V.str)) ∧
    (ys.map (·.length)).sum + ys.length * a.length ≤ 16777216 ∧ Q (.str (Txt.join a ys)) H
theorem mtJoin {X : Cx} : MtR X "str.join" (rJoinA X.K) := mt_join
theorem ten {i : Int} (h0 : 0 ≤ i) (h9 : i ≤ 9) : i = 0 ∨ i = 1 ∨ i = 2 ∨ i = 3 ∨ i = 4 ∨ i = 5 ∨ i = 6 ∨ i = 7 ∨ i = 8 ∨ i = 9 := by omega
theorem str_dg {i : Int} (h0 : 0 ≤ i) (h9 : i ≤ 9) : V.str (toString i) = V.str (mk (dgL i)) := by
  rcases ten h0 h9 with rfl | rfl | rfl | rfl | rfl | rfl | rfl | rfl | rfl | rfl <;> rfl
theorem int_dg {i : Int} (h0 : 0 ≤ i) (h9 : i ≤ 9) : PySem.intText? (mk (dgL i)) = some i := by
  rcases ten h0 h9 with rfl | rfl | rfl | rfl | rfl | rfl | rfl | rfl | rfl | rfl <;> decide +kernel
theorem sub_dg {i : Int} (h0 : 0 ≤ i) (h9 : i ≤ 9) : (Builtin.Str.occurrences (PySem.Str.ofString "0123456789") (mk (dgL i)) 0 (PySem.Str.ofString "0123456789").length 1).isEmpty = false := by
  rcases ten h0 h9 with rfl | rfl | rfl | rfl | rfl | rfl | rfl | rfl | rfl | rfl <;> decide +kernel
section
variable {K : PySem.W.Frag} {δ : List Sl} {ta to te : TE} {ys : List Str} {y z b : Str} {i : Int} {j c : Nat}
theorem rall_strs {I : Hp} : ∀ {ns : List Str} {vs : List V}, RpAll K I vs (ns.map PyData.str) → vs = ns.map V.str
  | [], _, h => by cases h; rfl
  | n :: ns, _, h => by
    cases h with
    | cons a t =>
      cases a
      rw [rall_strs t]
      rfl
theorem strs_rall {I : Hp} : ∀ ns : List Str, RpAll K I (ns.map V.str) (ns.map PyData.str)
  | [] => .nil
  | n :: ns => .cons (.str n) (strs_rall ns)
theorem rc_strI (h0 : 0 ≤ i) (h9 : i ≤ 9) : RAD K rStrI [.int i] (.str (mk (dgL i))) := fun H I vs s r Q q => by
  cases r with
  | cons rx rr =>
    cases rr
    cases rx
    refine ⟨i, rfl, ?_, ?_⟩
    · rcases ten h0 h9 with rfl | rfl | rfl | rfl | rfl | rfl | rfl | rfl | rfl | rfl <;> decide +kernel
    · rw [str_dg h0 h9]
      exact q _ H I (Nx.refl s) (.str _)
theorem rc_intS (h0 : 0 ≤ i) (h9 : i ≤ 9) : RAD K rIntS [.str (mk (dgL i))] (.int i) := fun H I vs s r Q q => by
  cases r with
  | cons rx rr =>
    cases rr
    cases rx
    exact ⟨_, i, rfl, int_dg h0 h9, by show 1 ≤ 640; decide, q _ H I (Nx.refl s) (.int _)⟩
theorem rd_notSub (h0 : 0 ≤ i) (h9 : i ≤ 9) : R2D K rNotSub (.str (mk (dgL i))) (.str (PySem.Str.ofString "0123456789")) (.bool false) := fun H I v u s r1 r2 Q q => by
  cases r1; cases r2
  refine ⟨_, _, rfl, rfl, ?_⟩
  rw [sub_dg h0 h9]
  exact q _ H I (Nx.refl s) (.bl _)
theorem rd_ixS (hz : z.length ≤ sizeLine) (h : atI z.cps.toList i = some c) : R2D K (rIx K) (.str z) (.int i) (.str (mk [c])) := fun H I v u s r1 r2 Q q => by
  cases r1; cases r2
  exact .inr (.inr ⟨z, i, c, rfl, rfl, hz, h, q _ H I (Nx.refl s) (.str _)⟩)
theorem rd_dig (h0 : 0 ≤ i) (h9 : i ≤ 9) : R2D K (rIx K) (.str (PySem.Str.ofString "0123456789")) (.int i) (.str (mk (dgL i))) := rd_ixS (by decide) (by
  rcases ten h0 h9 with rfl | rfl | rfl | rfl | rfl | rfl | rfl | rfl | rfl | rfl <;> decide +kernel)
theorem en_split (h : Ev K to δ (.str z)) (hb : Ev K ta δ (.str b)) (h0 : (b.length == 0) = false) (hz : z.length + 2 ≤ sizeLine) : EvN K (tBM K "str" rSplitA to (tCons ta tNil)) δ ((Txt.split z b).map .str) := fun G σ H I s g r Q q =>
  h G σ H I s g r _ fun v H1 I1 n1 rv => by
    cases rv
    refine ⟨rfl, ?_⟩
    refine (ea_cons hb ea_nil) G σ H1 I1 n1.s (n1.g g) (r.next n1) _ fun vs H2 I2 n2 r2 => ?_
    cases r2 with
    | cons rx rr =>
      cases rr
      cases rx
      exact ⟨z, b, rfl, rfl, h0, hz, fun p hp => q p H2 I2 _ (n1.trans n2) hp (strs_rall _)⟩
theorem ev_join (h : Ev K to δ (.str z)) (hx : Ev K ta δ (.list (ys.map .str))) (hz : (ys.map (·.length)).sum + ys.length * z.length ≤ 16777216) : Ev K (tBM K "str" (rJoinA K) to (tCons ta tNil)) δ (.str (Txt.join z ys)) := fun G σ H I s g r Q q =>
  h G σ H I s g r _ fun v H1 I1 n1 rv => by
    cases rv
    refine ⟨rfl, ?_⟩
    refine (ea_cons hx ea_nil) G σ H1 I1 n1.s (n1.g g) (r.next n1) _ fun vs H2 I2 n2 r2 => ?_
    cases r2 with
    | cons rx rr =>
      cases rr
      cases rx with
      | lst h1 a1 =>
        have e := rall_strs a1
        subst e
        exact ⟨z, _, ys, rfl, rfl, .inl (.of (n2.s _ _ h1)), hz, q _ H2 I2 (n1.trans n2) (.str _)⟩
theorem flat_strs (ns : List Str) : (ns.map V.str).all flatV = true := by
  rw [List.all_map, List.all_eq_true]
  intro x _
  rfl
theorem ev_index (h : Ev K to δ (.list (ys.map .str))) (hy : Ev K ta δ (.str y)) (hj : ys[j]? = some y) (hno : ∀ m, m < j → ∀ w, ys[m]? = some w → w ≠ y) : Ev K (tBM K "list" (rIndex K) to (tCons ta tNil)) δ (.int j) := fun G σ H I s g r Q q =>
  h G σ H I s g r _ fun v H1 I1 n1 rv => by
    cases rv with
    | lst h1 a1 =>
      have e := rall_strs a1
      subst e
      refine ⟨.inl ⟨rfl, _, .of (n1.s _ _ h1)⟩, ?_⟩
      refine (ea_cons hy ea_nil) G σ H1 I1 n1.s (n1.g g) (r.next n1) _ fun vs H2 I2 n2 r2 => ?_
      cases r2 with
      | cons rx rr =>
        cases rr
        cases rx
        refine ⟨_, ys.map V.str, .str y, j, .str y, rfl, rfl, .of ((n1.trans n2).s _ _ (n2.i _ _ h1)), rfl, flat_strs ys, by rw [List.getElem?_map, hj]; rfl, beq_self_eq_true y, fun m z' hm hz => ?_, q _ H2 I2 (n1.trans n2) (.int _)⟩
        rw [List.getElem?_map] at hz
        cases e : ys[m]? with
        | none => rw [e] at hz; cases hz
        | some w =>
          rw [e] at hz
          cases hz
          exact beq_eq_false_iff_ne.mpr (hno m hm w e)
theorem rd_notInS (hy : y ∈ ys) : R2D K (rIn K true) (.str y) (.list (ys.map .str)) (.bool false) := fun H I v u s r1 r2 Q q => by
  cases r1
  cases r2 with
  | lst h a =>
    have e := rall_strs a
    subst e
    refine ⟨_, _, rfl, .inl (.of (s _ _ h)), rfl, flat_strs ys, ?_⟩
    have ei : inV (.str y) (ys.map V.str) = true := by
      show ((ys.map V.str).any fun w => eqV w (.str y)) = true
      rw [List.any_map, List.any_eq_true]
      exact ⟨y, hy, beq_self_eq_true y⟩
    rw [ei]
    exact q _ H I (Nx.refl s) (.bl _)
end
/-! ### joined, cut -/
/-- [32, 59, 32] stands nowhere in p, nor across its end -/
theorem run_piece {p rest : List Nat} (hp : 59 ∉ p) (hr : rest = [] ∨ ∃ t, rest = 32 :: t) {k : Nat} (hk : k < p.length) : TL.pre [32, 59, 32] ((p ++ rest).drop k) = false := by
  cases h : TL.pre [32, 59, 32] ((p ++ rest).drop k) with
  | false => rfl
  | true =>
    exfalso
    have e : ((p ++ rest).drop k).take 3 = [32, 59, 32] := eq_of_beq h
    have e1 : (((p ++ rest).drop k).take 3)[1]? = some 59 := by rw [e]; rfl
    rw [List.getElem?_take_of_lt (by decide), List.getElem?_drop] at e1
    by_cases h1 : k + 1 < p.length
    · rw [List.getElem?_append_left h1] at e1
      exact hp (List.mem_of_getElem? e1)
    · have hk1 : k + 1 = p.length := by omega
      rw [List.getElem?_append_right (by omega), hk1, Nat.sub_self] at e1
      rcases hr with rfl | ⟨t, rfl⟩
      · cases e1
      · cases e1
theorem spl_semi : ∀ {ps : List (List Nat)}, ps ≠ [] → (∀ p ∈ ps, 59 ∉ p) → TL.spl [32, 59, 32] 0 [] (TL.joinL [32, 59, 32] ps) = ps
  | [p], _, hp => by
    have h := TL.spl_run [32, 59, 32] (p ++ []) p.length 0 [] (by rw [List.append_nil]; omega) (fun k _ hk => run_piece (hp p List.mem_cons_self) (.inl rfl) (by omega))
    rw [List.drop_zero, List.nil_append, Nat.zero_add, List.append_nil, List.drop_length, List.take_length, TL.spl_nil] at h
    exact h
  | p :: q :: r, _, hp => by
    show TL.spl [32, 59, 32] 0 [] (p ++ ([32, 59, 32] ++ TL.joinL [32, 59, 32] (q :: r))) = p :: q :: r
    have ih := spl_semi (ps := q :: r) (by simp) fun x hx => hp x (List.mem_cons_of_mem _ hx)
    generalize TL.joinL [32, 59, 32] (q :: r) = rest at ih ⊢
    have h := TL.spl_run [32, 59, 32] (p ++ ([32, 59, 32] ++ rest)) p.length 0 [] (by rw [List.length_append]; omega) (fun k _ hk => run_piece (hp p List.mem_cons_self) (.inr ⟨_, rfl⟩) (by omega))
    rw [List.drop_zero, List.nil_append, Nat.zero_add, List.take_left, List.drop_left] at h
    rw [h]
    have h2 := TL.spl_at (S := [32, 59, 32]) (L := [32, 59, 32] ++ rest) (by simp) (c := 0) (acc := p) (by rw [List.drop_zero]; rfl)
    rw [List.drop_zero] at h2
    rw [h2]
    show p :: TL.spl [32, 59, 32] 0 [] rest = _
    rw [ih]
theorem join_mk (a : List Nat) (ys : List (List Nat)) : Txt.join (mk a) (ys.map mk) = mk (TL.joinL a ys) := mk_inj (by
  rw [TL.join_eq, TL.tl_join, List.map_map]
  congr 1
  exact List.map_id' ys)
theorem join_front (s : List Nat) : ∀ {ps : List (List Nat)}, ps ≠ [] → s ++ TL.joinL s ps = ps.flatMap fun p => s ++ p
  | [p], _ => by simp [TL.joinL]
  | p :: q :: r, _ => by
    have ih := join_front s (ps := q :: r) (by simp)
    show s ++ (p ++ (s ++ TL.joinL s (q :: r))) = (s ++ p) ++ (q :: r).flatMap _
    rw [ih, List.append_assoc]
theorem join_app (s : List Nat) {a b : List (List Nat)} (ha : a ≠ []) (hb : b ≠ []) : TL.joinL s (a ++ b) = TL.joinL s a ++ (s ++ TL.joinL s b) := by
  match a, ha with
  | [p], _ =>
    match b, hb with
    | q :: r, _ => rfl
  | p :: p2 :: r, _ =>
    have ih := join_app s (a := p2 :: r) (b := b) (by simp) hb
    show p ++ (s ++ TL.joinL s ((p2 :: r) ++ b)) = (p ++ (s ++ TL.joinL s (p2 :: r))) ++ (s ++ TL.joinL s b)
    rw [ih]
    simp only [List.append_assoc]
termination_by a.length
/-- a net as it is shown -/
def rowT (r : List Int) : List Nat := TL.joinL [32] (r.map dgL)
def wordsT (m : List Int × List Int) : List (List Nat) := m.1.map dgL ++ ([62] :: m.2.map dgL)
def moveT (m : List Int × List Int) : List Nat := rowT m.1 ++ ([32, 62, 32] ++ rowT m.2)
def piecesT (n : Int) (ms : List (List Int × List Int)) : List (List Nat) := dgL n :: ms.map moveT
def netT (n : Int) (ms : List (List Int × List Int)) : List Nat := TL.joinL [32, 59, 32] (piecesT n ms)
theorem move_words {m : List Int × List Int} (h1 : m.1 ≠ []) (h2 : m.2 ≠ []) : moveT m = TL.joinL [32] (wordsT m) := by
  unfold wordsT
  rw [join_app [32] (by simpa using h1) (by simp)]
  obtain ⟨x, r, e⟩ := List.exists_cons_of_ne_nil h2
  unfold moveT rowT
  rw [e]
  rfl
theorem split_move {m : List Int × List Int} (h1 : m.1 ≠ []) (h2 : m.2 ≠ []) (d1 : ∀ x ∈ m.1, 0 ≤ x ∧ x ≤ 9) (d2 : ∀ x ∈ m.2, 0 ≤ x ∧ x ≤ 9) : Txt.split (mk (moveT m)) (mk [32]) = (wordsT m).map mk := by
  rw [move_words h1 h2, ← join_mk]
  have dig : ∀ x : Int, 32 ∉ dgL x := fun x h => by
    have := List.mem_singleton.mp h
    omega
  refine TL.split_join (y := mk [32]) (s := 32) (S := []) rfl (by decide +kernel) (by unfold wordsT; simp) fun p hp => ?_
  obtain ⟨w, hw, rfl⟩ := List.mem_map.mp hp
  rw [tl_mk]
  unfold wordsT at hw
  rcases List.mem_append.mp hw with hw | hw
  · obtain ⟨x, _, rfl⟩ := List.mem_map.mp hw
    exact dig x
  · rcases List.mem_cons.mp hw with rfl | hw
    · decide
    · obtain ⟨x, _, rfl⟩ := List.mem_map.mp hw
      exact dig x
theorem no59_join {s : List Nat} (hs : 59 ∉ s) : ∀ {ps : List (List Nat)}, (∀ p ∈ ps, 59 ∉ p) → 59 ∉ TL.joinL s ps
  | [], _ => by simp [TL.joinL]
  | [p], h => h p List.mem_cons_self
  | p :: q :: r, h => by
    show 59 ∉ p ++ (s ++ TL.joinL s (q :: r))
    intro hm
    rcases List.mem_append.mp hm with hm | hm
    · exact h p List.mem_cons_self hm
    · rcases List.mem_append.mp hm with hm | hm
      · exact hs hm
      · exact no59_join hs (fun x hx => h x (List.mem_cons_of_mem _ hx)) hm
theorem no59_dg {x : Int} (h : 0 ≤ x ∧ x ≤ 9) : 59 ∉ dgL x := fun hm => by
  have := List.mem_singleton.mp hm
  omega
theorem no59_row {r : List Int} (h : ∀ x ∈ r, 0 ≤ x ∧ x ≤ 9) : 59 ∉ rowT r := no59_join (by decide) fun p hp => by
  obtain ⟨x, hx, rfl⟩ := List.mem_map.mp hp
  exact no59_dg (h x hx)
theorem no59_move {m : List Int × List Int} (d1 : ∀ x ∈ m.1, 0 ≤ x ∧ x ≤ 9) (d2 : ∀ x ∈ m.2, 0 ≤ x ∧ x ≤ 9) : 59 ∉ moveT m := fun hm => by
  rcases List.mem_append.mp hm with hm | hm
  · exact no59_row d1 hm
  · rcases List.mem_append.mp hm with hm | hm
    · exact absurd hm (by decide)
    · exact no59_row d2 hm
theorem split_net {n : Nat} {w : Int} {ms : List (List Int × List Int)} (h : NetOk n w ms) (hw : w ≤ 9) : Txt.split (mk (netT n ms)) (mk [32, 59, 32]) = (piecesT n ms).map mk := by
  refine TL.map_tl_inj ?_
  rw [TL.split_spl _ (mk [32, 59, 32]) (by simp [tl_mk]) (TL.kind_ok (by decide +kernel)), List.map_map]
  have e : (piecesT n ms).map (TL.tl ∘ mk) = piecesT n ms := List.map_id' _
  rw [e]
  refine spl_semi (by unfold piecesT; simp) fun p hp => ?_
  unfold piecesT at hp
  rcases List.mem_cons.mp hp with rfl | hp
  · exact no59_dg (by have := h.top; omega)
  · obtain ⟨m, hm, rfl⟩ := List.mem_map.mp hp
    obtain ⟨r1, r2⟩ := h.rows m hm
    exact no59_move (fun x hx => by have := r1.2 x hx; omega) (fun x hx => by have := r2.2 x hx; omega)
end Tw

/-! Tw14: is True of plain values; count, index, in of truth values; a dict written out; which own error it was. -/
namespace Tw
open PySem PySem.Spec PyProof.Rows L2 PyProof
/-! ### x is True -/
def plainV : V → Bool
  | .int _ | .bl _ | .str _ | .non => true
  | _ => false
def isTrV : V → Bool
  | .bl b => b
  | _ => false
def rIsTr : R2 := fun x y H Q => y = .bl true ∧ plainV x = true ∧ Q (.bl (isTrV x)) H
theorem opIsTr {X : Cx} : OpR X (compareOp .Is) rIsTr := by
  intro pins s σ H x y v u Q I rx ry h
  obtain ⟨rfl, hp, q⟩ := h
  cases (show u = Value.bool true from ry)
  cases x with
  | int i =>
    obtain ⟨t, rfl⟩ := rx
    exact wpAny_is_other rfl (fun z => by cases z) ⟨.bl false, H, I, rfl, q⟩
  | bl b =>
    cases (show v = Value.bool b from rx)
    cases b with
    | true => exact wpAny_is_self rfl ⟨.bl true, H, I, rfl, q⟩
    | false => exact wpAny_is_other rfl (fun z => by cases z) ⟨.bl false, H, I, rfl, q⟩
  | str z =>
    obtain ⟨t, rfl⟩ := rx
    exact wpAny_is_other rfl (fun z => by cases z) ⟨.bl false, H, I, rfl, q⟩
  | non =>
    cases (show v = Value.none from rx)
    exact wpAny_is_other rfl (fun z => by cases z) ⟨.bl false, H, I, rfl, q⟩
  | _ => cases hp
def plainD : PyData → Bool
  | .int _ | .bool _ | .str _ | .none => true
  | _ => false
def isTrD : PyData → Bool
  | .bool b => b
  | _ => false
/-! ### lists of truth values -/
theorem bls_of : ∀ {bs : List Bool} {its : List Value}, Vals (bs.map V.bl) its → its = bs.map Value.bool
  | [], _, .nil => rfl
  | b :: bs, _, .cons r t => by
    cases (show _ = Value.bool b from r)
    rw [bls_of t]
    rfl
def isTrW : Value → Bool
  | .bool b => b
  | _ => false
theorem count_bls : ∀ bs : List Bool, (bs.map Value.bool).countP isTrW = bs.count true
  | [] => rfl
  | b :: bs => by
    rw [List.map_cons, List.countP_cons, List.count_cons, count_bls bs]
    cases b <;> rfl
def rCountB (K : PySem.W.Frag) : V → List V → Hp → VK → Prop := fun x xs H Q => ∃ (p : Addr) (bs : List Bool), x = .ref p ∧ xs = [.bl true] ∧ SqL K H p (bs.map V.bl) ∧ Q (.int (bs.count true : Nat)) H
theorem mtCountB {X : Cx} : MtR X "list.count" (rCountB X.K) := by
  intro pins s σ H x xs v us Q I rx rxs h
  obtain ⟨p, bs, rfl, rfl, hs, q⟩ := h
  cases rx
  obtain ⟨u, rfl, ru⟩ := rxs.one
  cases (show u = Value.bool true from ru)
  obtain ⟨its, rv, ⟨⟨cls, dd, data, sl⟩, n, ho, hc, hdn, hd⟩, hlen⟩ := I.list hs
  simp only at hc hd
  subst hc hd
  have hi := bls_of rv
  subst hi
  refine call_meets PySem.F.slot_list_count ⟨_, ho, rfl⟩ PySem.F.entry_list_count (PySem.F.args_list_count_2 _ _)
    (SeqAt.list_countAt p (bs.map Value.bool).toArray n dd sl (.bool true) isTrW) ⟨ho, fun y hy => ?_, ?_⟩
  · obtain ⟨b, _, rfl⟩ := List.mem_map.mp (by simpa using hy : y ∈ bs.map Value.bool)
    have := eqAt_V (A := X.A.in1) (s := s) (y := .bl b) (x := .bl true) (u := .bool b) (v := .bool true) rfl rfl rfl rfl
    have e : eqV (.bl b) (.bl true) = isTrW (.bool b) := by cases b <;> rfl
    rw [e] at this
    first | exact this | exact this.in1 | simpa using this
  · refine ⟨.int (bs.count true : Nat), H, I.tok _, ⟨s.toks, ?_⟩, q⟩
    show Value.int (((bs.map Value.bool).toArray.toList.countP isTrW : Nat) : Int) s.toks = _
    rw [show (bs.map Value.bool).toArray.toList = bs.map Value.bool from rfl, count_bls]
section
variable {K : PySem.W.Frag} {E : XK} {δ : List Sl} {ta tb to te : TE} {bs : List Bool} {x y z : PyData} {xs : List PyData} {j : Nat} {i : Int} {ns : List Int}
theorem rd_isTr (h : plainD x = true) : R2D K rIsTr x (.bool true) (.bool (isTrD x)) := fun H I v u s r1 r2 Q q => by
  cases r2
  cases x with
  | int i => cases r1; exact ⟨rfl, rfl, q _ H I (Nx.refl s) (.bl _)⟩
  | bool b => cases r1; exact ⟨rfl, rfl, q _ H I (Nx.refl s) (.bl _)⟩
  | str b => cases r1; exact ⟨rfl, rfl, q _ H I (Nx.refl s) (.bl _)⟩
  | none => cases r1; exact ⟨rfl, rfl, q _ H I (Nx.refl s) (.bl _)⟩
  | _ => cases h
theorem flat_bls (bs : List Bool) : (bs.map V.bl).all flatV = true := by
  rw [List.all_map, List.all_eq_true]
  intro x _
  rfl
theorem rd_inB (h : true ∈ bs) : R2D K (rIn K false) (.bool true) (.list (bs.map .bool)) (.bool true) := fun H I v u s r1 r2 Q q => by
  cases r1
  cases r2 with
  | lst h1 a =>
    have e := rall_bls a
    subst e
    refine ⟨_, _, rfl, .inl (.of (s _ _ h1)), rfl, flat_bls bs, ?_⟩
    have ei : inV (.bl true) (bs.map V.bl) = true := by
      show ((bs.map V.bl).any fun w => eqV w (.bl true)) = true
      rw [List.any_map, List.any_eq_true]
      exact ⟨true, h, rfl⟩
    rw [ei]
    exact q _ H I (Nx.refl s) (.bl _)
theorem rd_inT : R2D K (rIn K false) (.int i) (.tuple (ns.map .int)) (.bool (decide (i ∈ ns))) := fun H I v u s r1 r2 Q q => by
  cases r1
  cases r2 with
  | tup h a =>
    have e := rall_ints a
    subst e
    exact ⟨_, _, rfl, .inr (.of (s _ _ h)), rfl, flat_ints ns, by rw [inV_ints]; exact q _ H I (Nx.refl s) (.bl _)⟩
theorem ev_countB (h : Ev K to δ (.list (bs.map .bool))) : Ev K (tBM K "list" (rCountB K) to (tCons (tC (.bl true)) tNil)) δ (.int (bs.count true : Nat)) := fun G σ H I s g r Q q =>
  h G σ H I s g r _ fun v H1 I1 n1 rv => by
    cases rv with
    | lst h1 a1 =>
      have e := rall_bls a1
      subst e
      exact ⟨.inl ⟨rfl, _, .of (n1.s _ _ h1)⟩, _, bs, rfl, rfl, .of (n1.s _ _ h1), q _ H1 I1 n1 (.int _)⟩
theorem ev_indexB (h : Ev K to δ (.list (bs.map .bool))) (hj : bs[j]? = some true) (hno : ∀ m, m < j → bs[m]? = some false) : Ev K (tBM K "list" (rIndex K) to (tCons (tC (.bl true)) tNil)) δ (.int j) := fun G σ H I s g r Q q =>
  h G σ H I s g r _ fun v H1 I1 n1 rv => by
    cases rv with
    | lst h1 a1 =>
      have e := rall_bls a1
      subst e
      refine ⟨.inl ⟨rfl, _, .of (n1.s _ _ h1)⟩, _, bs.map V.bl, .bl true, j, .bl true, rfl, rfl, .of (n1.s _ _ h1), rfl, flat_bls bs, by rw [List.getElem?_map, hj]; rfl, rfl, fun m z' hm hz => ?_, q _ H1 I1 n1 (.int _)⟩
      rw [List.getElem?_map, hno m hm] at hz
      cases hz
      rfl
/-- {0: True}: some dict -/
theorem ev_dict1 : Ev K (tDisp [((tC (.int 0)), (tC (.bl true)))]) δ (.dict []) := fun G σ H I s g r Q q => by
  intro p hp
  refine ⟨upd_same, [(.inl 0, .bl true)], rfl, by show 1 ≤ 15; decide, ?_⟩
  rw [upd_upd]
  exact q _ _ _ (Nx.new s hp) (.dct upd_same)
/-- the left operand raises -/
theorem ex_opL {r : R2} {c : Value} (h : EvX K E ta δ c) : EvX K E (tOp r ta tb) δ c := fun G σ H I s g rl he Q => h G σ H I s g rl he _
end
/-! ### which own error it was -/
theorem kit_yes {K : PySem.W.Frag} {D X : Addr} (dX : PySem.W.hasDictIn K X = true) (tX : PySem.W.typeIn K (.ref X) = some (.type "type")) (s : PySem.W.subIn K (.ref D) (.ref X) = some true) : PySem.W.kitOne K (.ref D) (.ref X) = some true := by
  obtain ⟨cd, hc, _⟩ := PySem.W.any_some dX
  show (if ((Value.ref D == Value.ref X) = true) then some true else if ((PySem.W.clsIn K X).isSome && PySem.W.typeIn K (.ref X) == some (.type "type")) = true then PySem.W.subIn K (.ref D) (.ref X) else none) = some true
  rw [hc, tX, s]
  split
  · rfl
  · rw [if_pos (by rfl)]
theorem kit_no {K : PySem.W.Frag} {D X : Addr} (dX : PySem.W.hasDictIn K X = true) (tX : PySem.W.typeIn K (.ref X) = some (.type "type")) (s : PySem.W.subIn K (.ref D) (.ref X) = some false) (sD : PySem.W.subIn K (.ref D) (.ref D) = some true) : PySem.W.kitOne K (.ref D) (.ref X) = some false := by
  obtain ⟨cd, hc, _⟩ := PySem.W.any_some dX
  have hne : ¬ (Value.ref D == Value.ref X) = true := fun e => by
    have e2 : Value.ref D = Value.ref X := beq_iff_eq.mp e
    rw [← e2, sD] at s
    cases s
  show (if ((Value.ref D == Value.ref X) = true) then some true else if ((PySem.W.clsIn K X).isSome && PySem.W.typeIn K (.ref X) == some (.type "type")) = true then PySem.W.subIn K (.ref D) (.ref X) else none) = some false
  rw [if_neg hne, hc, tX, s, if_pos (by rfl)]
/-- what the kit says of the classes asked of: NoHoard, NoMove, NoPlace; NoNet, Endless, TooBig, NoText, Stuck -/
structure ClsF (K : PySem.W.Frag) (X : Addr) : Prop where
  d : PySem.W.hasDictIn K X = true
  t : PySem.W.typeIn K (.ref X) = some (.type "type")
structure KindF (K : PySem.W.Frag) (D T c0 c1 c2 c3 c4 c5 c6 c7 : Addr) (k : Nat) : Prop where
  C : ExcC K D
  top : PySem.W.exmOne K (.ref D) (.ref T) = some true
  ve : PySem.W.kitOne K (.ref D) (.type "ValueError") = some true
  k0 : PySem.W.kitOne K (.ref D) (.ref c0) = some (decide (k = 0))
  k1 : PySem.W.kitOne K (.ref D) (.ref c1) = some (decide (k = 1))
  k2 : PySem.W.kitOne K (.ref D) (.ref c2) = some (decide (k = 2))
  k3 : PySem.W.kitOne K (.ref D) (.ref c3) = some false
  k4 : PySem.W.kitOne K (.ref D) (.ref c4) = some false
  k5 : PySem.W.kitOne K (.ref D) (.ref c5) = some false
  k6 : PySem.W.kitOne K (.ref D) (.ref c6) = some false
  k7 : PySem.W.kitOne K (.ref D) (.ref c7) = some false
theorem kindF_of {K : PySem.W.Frag} {D T c0 c1 c2 c3 c4 c5 c6 c7 : Addr} {k : Nat} (C : ExcC K D) (tD : PySem.W.typeIn K (.ref D) = some (.type "type")) (sv : PySem.W.subIn K (.ref D) (.type "ValueError") = some true) (sD : PySem.W.subIn K (.ref D) (.ref D) = some true)
    (bT : PySem.W.subIn K (.ref T) (.type "BaseException") = some true) (dT : ClsF K T) (sT : PySem.W.subIn K (.ref D) (.ref T) = some true)
    (f0 : ClsF K c0) (f1 : ClsF K c1) (f2 : ClsF K c2) (f3 : ClsF K c3) (f4 : ClsF K c4) (f5 : ClsF K c5) (f6 : ClsF K c6) (f7 : ClsF K c7)
    (s0 : PySem.W.subIn K (.ref D) (.ref c0) = some (decide (k = 0))) (s1 : PySem.W.subIn K (.ref D) (.ref c1) = some (decide (k = 1))) (s2 : PySem.W.subIn K (.ref D) (.ref c2) = some (decide (k = 2)))
    (s3 : PySem.W.subIn K (.ref D) (.ref c3) = some false) (s4 : PySem.W.subIn K (.ref D) (.ref c4) = some false) (s5 : PySem.W.subIn K (.ref D) (.ref c5) = some false) (s6 : PySem.W.subIn K (.ref D) (.ref c6) = some false) (s7 : PySem.W.subIn K (.ref D) (.ref c7) = some false) :
    KindF K D T c0 c1 c2 c3 c4 c5 c6 c7 k := by
  have any : ∀ {X : Addr} {b : Bool}, ClsF K X → PySem.W.subIn K (.ref D) (.ref X) = some b → PySem.W.kitOne K (.ref D) (.ref X) = some b := fun {X b} f s => by
    cases b with
    | true => exact kit_yes f.d f.t s
    | false => exact kit_no f.d f.t s sD
  exact ⟨C, PySem.W.exm_ref bT dT.d dT.t sT, (errF_of C tD sv sD bT dT.d dT.t sT).ve, any f0 s0, any f1 s1, any f2 s2, any f3 s3, any f4 s4, any f5 s5, any f6 s6, any f7 s7⟩
section
variable {K : PySem.W.Frag} {E : XK} {xs : List PyData} {ta : TA} {F : List PyData → Out → Prop} {P : Out → Prop} {D T c0 c1 c2 c3 c4 c5 c6 c7 : Addr} {k : Nat} {d0 : PyData}
def suiteK (K : PySem.W.Frag) (c0 c1 c2 c3 c4 c5 c6 c7 : Addr) : Addr → Value → Option Addr → TS := fun a cls d => (tSeq (tAsg (tLst (tCons (tCB (rIsX K a cls d) (tCons (tVar 1) (tCons (tC (.ref c0)) tNil))) (tCons (tCB (rIsX K a cls d) (tCons (tVar 1) (tCons (tC (.ref c1)) tNil))) (tCons (tCB (rIsX K a cls d) (tCons (tVar 1) (tCons (tC (.ref c2)) tNil))) tNil)))) (gName 2))
    (tSeq (tAsg (tLst (tCons (tCB (rIsX K a cls d) (tCons (tVar 1) (tCons (tC (.ref c3)) tNil))) (tCons (tCB (rIsX K a cls d) (tCons (tVar 1) (tCons (tC (.ref c4)) tNil))) (tCons (tCB (rIsX K a cls d) (tCons (tVar 1) (tCons (tC (.ref c5)) tNil))) (tCons (tCB (rIsX K a cls d) (tCons (tVar 1) (tCons (tC (.ref c6)) tNil))) tNil))))) (gName 3))
    (tSeq (tDrop (tBM K "list" rAppend (tVar 3) (tCons (tCB (rIsX K a cls d) (tCons (tVar 1) (tCons (tC (.ref c7)) tNil))) tNil)))
    (tIfS (tAnd (tB (tCB (rIsX K a cls d) (tCons (tVar 1) (tCons (tC (.ty "ValueError")) tNil)))) (tAnd (tTest (tOp (rEqD K) (tBM K "list" (rCountB K) (tOp (rAddA K) (tVar 2) (tVar 3)) (tCons (tC (.bl true)) tNil)) (tC (.int 1)))) (tTest (tOp (rIn K false) (tC (.bl true)) (tVar 2))))) (tRet (tBM K "list" (rIndex K) (tVar 2) (tCons (tC (.bl true)) tNil))) tNext))))
theorem as_kind (ha : EvA K ta [.d d0, .no, .no, .no] xs) (hF : F xs (.ex (.ref D))) (hE : KindF K D T c0 c1 c2 c3 c4 c5 c6 c7 k) (hk : k < 3) (kP : P (.rt (.int (k : Nat)))) :
    As K E (tTryB K (.ref T) 1 (fun W => tDrop (tCallS (SpD K F) (WE W) ta)) (suiteK K c0 c1 c2 c3 c4 c5 c6 c7)) [.d d0, .no, .no, .no] P := fun G I0 σ H I D' n r cv =>
  ha G σ H I n.s n.h r _ fun vs H1 I1 n1 r1 => ⟨I1, xs, .ex (.ref D), n1.s, r1, hF, fun H2 e => ⟨true, hE.top, fun _ a _ => by
    have r2 := r.next (n1.trans (nx_same n1.s e))
    have n2 := (n.trans n1).trans (nx_same n1.s e)
    have hl : σ.length = 4 := r2.len
    have ty : ∀ {X : Addr}, ∀ u, RelV (.ref X) u → u = Value.ref X := fun u ru => ru
    have g1 : (σ.set 1 (some (V.ref a)))[1]? = some (some (.ref a)) := List.getElem?_set_self (by omega)
    refine ⟨_, g1, D, rfl, rfl, hE.C, .ref c0, .ref c0, _, rfl, ty, hE.k0, ?_⟩
    refine ⟨_, g1, D, rfl, rfl, hE.C, .ref c1, .ref c1, _, rfl, ty, hE.k1, ?_⟩
    refine ⟨_, g1, D, rfl, rfl, hE.C, .ref c2, .ref c2, _, rfl, ty, hE.k2, ?_⟩
    refine ⟨by show 3 ≤ sizeLine; decide, fun p hp => ?_⟩
    have g2 : ((σ.set 1 (some (V.ref a))).set 2 (some (V.ref p)))[1]? = some (some (.ref a)) := by rw [List.getElem?_set_ne (by decide)]; exact g1
    refine ⟨_, g2, D, rfl, rfl, hE.C, .ref c3, .ref c3, _, rfl, ty, hE.k3, ?_⟩
    refine ⟨_, g2, D, rfl, rfl, hE.C, .ref c4, .ref c4, _, rfl, ty, hE.k4, ?_⟩
    refine ⟨_, g2, D, rfl, rfl, hE.C, .ref c5, .ref c5, _, rfl, ty, hE.k5, ?_⟩
    refine ⟨_, g2, D, rfl, rfl, hE.C, .ref c6, .ref c6, _, rfl, ty, hE.k6, ?_⟩
    refine ⟨by show 4 ≤ sizeLine; decide, fun q hq => ?_⟩
    have g3 : (((σ.set 1 (some (V.ref a))).set 2 (some (V.ref p))).set 3 (some (V.ref q)))[1]? = some (some (.ref a)) := by rw [List.getElem?_set_ne (by decide)]; exact g2
    have g4 : (((σ.set 1 (some (V.ref a))).set 2 (some (V.ref p))).set 3 (some (V.ref q)))[3]? = some (some (.ref q)) := List.getElem?_set_self (by rw [List.length_set, List.length_set]; omega)
    refine ⟨.ref q, g4, .inl ⟨rfl, _, .inl (.inl upd_same)⟩, ?_⟩
    refine ⟨_, g3, D, rfl, rfl, hE.C, .ref c7, .ref c7, _, rfl, ty, hE.k7, ?_⟩
    refine ⟨q, _, .bl false, rfl, rfl, upd_same, by show 4 < sizeLine; decide, ?_⟩
    rw [upd_upd]
    have n3 : Nx H2 I1 (upd H2 p (.lst [.bl (decide (k = 0)), .bl (decide (k = 1)), .bl (decide (k = 2))])) (upd I1 p (.lst [.bl (decide (k = 0)), .bl (decide (k = 1)), .bl (decide (k = 2))])) := Nx.new n2.s hp
    have n4 := Nx.new (o := .lst ([.bl false, .bl false, .bl false, .bl false] ++ [.bl false])) n3.s hq
    have r3 := ((r2.next n3).none (i := 1) (o := some (V.ref a))).put (i := 2) (x := .list ([decide (k = 0), decide (k = 1), decide (k = 2)].map .bool)) (Rp.lst (K := K) upd_same (.cons (.bl _) (.cons (.bl _) (.cons (.bl _) .nil))))
    have r4 := (r3.next n4).put (i := 3) (x := .list ([false, false, false, false, false].map .bool)) (Rp.lst (K := K) upd_same (.cons (.bl _) (.cons (.bl _) (.cons (.bl _) (.cons (.bl _) (.cons (.bl _) .nil))))))
    have n5 := (n2.trans n3).trans n4
    refine ⟨_, g3, D, rfl, rfl, hE.C, .ty "ValueError", .type "ValueError", true, rfl, fun u ru => ru, hE.ve, true, rfl, ite_t ?_⟩
    refine (et_and (a := true) (b := true) (et_test (ev_to (ev_op (ev_countB (bs := [decide (k = 0), decide (k = 1), decide (k = 2)] ++ [false, false, false, false, false]) (ev_to (en_cat (ev_var rfl) (ev_var rfl) (by show 8 ≤ sizeLine; decide)).ev rfl)) ev_int (rd_eq rfl rfl)) ?_)) fun _ => et_test (ev_op (x := .bool true) ev_bl (ev_var (x := .list ([decide (k = 0), decide (k = 1), decide (k = 2)].map .bool)) rfl) (rd_inB ?_))) G _ _ _ n5.s n5.h r4 _ fun H6 I6 n6 => ite_t ?_
    · rcases (by omega : k = 0 ∨ k = 1 ∨ k = 2) with rfl | rfl | rfl <;> rfl
    · rcases (by omega : k = 0 ∨ k = 1 ∨ k = 2) with rfl | rfl | rfl <;> decide
    · refine (ev_indexB (bs := [decide (k = 0), decide (k = 1), decide (k = 2)]) (j := k) (ev_var rfl) ?_ ?_) G _ _ _ (n5.trans n6).s (n5.trans n6).h (r4.next n6) _ fun v H7 I7 n7 rv => cv.rt _ _ _ _ kP ((n5.trans n6).trans n7) rv
      · rcases (by omega : k = 0 ∨ k = 1 ∨ k = 2) with rfl | rfl | rfl <;> rfl
      · rcases (by omega : k = 0 ∨ k = 1 ∨ k = 2) with rfl | rfl | rfl
        · intro m hm; omega
        · intro m hm
          have : m = 0 := by omega
          subst this
          rfl
        · intro m hm
          rcases (by omega : m = 0 ∨ m = 1) with rfl | rfl <;> rfl, fun z => nomatch z⟩⟩
end
end Tw

/-! Tw15 (for k19): two readers of a cut line come to the same, in plain Lean. sp cuts a piece into words. -/
namespace Tw
open PySem PySem.Spec PyProof.Rows L2 PyProof
def digS (w : Str) : Option Int := match w.cps.toList with
  | [c] => if 48 ≤ c ∧ c ≤ 57 then some ((c : Int) - 48) else none
  | _ => none
def gtS : Str := mk [62]
theorem dig_gt : digS gtS = none := rfl
theorem dig_range {w : Str} {d : Int} (h : digS w = some d) : 0 ≤ d ∧ d ≤ 9 := by
  unfold digS at h
  split at h
  · split at h
    · cases h
      omega
    · cases h
  · cases h
def rowS : List Str → Option (List Int)
  | [] => some []
  | w :: r => match digS w, rowS r with
    | some d, some ds => some (d :: ds)
    | _, _ => none
theorem rowS_cons {w : Str} {r : List Str} {ds : List Int} (h : rowS (w :: r) = some ds) : ∃ d es, digS w = some d ∧ rowS r = some es ∧ ds = d :: es := by
  unfold rowS at h
  split at h
  · rename_i d es h1 h2
    exact ⟨d, es, h1, h2, (Option.some.inj h).symm⟩
  · cases h
theorem rowS_len : ∀ {ws : List Str} {ds : List Int}, rowS ws = some ds → ds.length = ws.length
  | [], ds, h => by cases h; rfl
  | w :: r, ds, h => by
    obtain ⟨d, es, _, h2, rfl⟩ := rowS_cons h
    show es.length + 1 = r.length + 1
    rw [rowS_len h2]
theorem rowS_gt : ∀ {ws : List Str} {ds : List Int}, rowS ws = some ds → gtS ∉ ws
  | [], ds, _ => by simp
  | w :: r, ds, h => by
    obtain ⟨d, es, h1, h2, rfl⟩ := rowS_cons h
    intro hm
    rcases List.mem_cons.mp hm with e | hm
    · rw [← e, dig_gt] at h1
      cases h1
    · exact rowS_gt h2 hm
theorem rowS_dig : ∀ {ws : List Str} {ds : List Int}, rowS ws = some ds → ∀ x ∈ ds, 0 ≤ x ∧ x ≤ 9
  | [], ds, h => by cases h; intro x hx; cases hx
  | w :: r, ds, h => by
    obtain ⟨d, es, h1, h2, rfl⟩ := rowS_cons h
    intro x hx
    rcases List.mem_cons.mp hx with rfl | hx
    · exact dig_range h1
    · exact rowS_dig h2 x hx
/-- words with a first '>' at place at_: what stands before it and behind it -/
def readWords (ws : List Str) : Option (List Int × List Int) := match ws.findIdx? (fun w => decide (w = gtS)) with
  | none => none
  | some k => match rowS (ws.take k), rowS (ws.drop (k + 1)) with
    | some a, some b => some (a, b)
    | _, _ => none
def lawWords (s : Nat) (ws : List Str) : Option (List Int × List Int) := if ws.length = 2 * s + 1 ∧ ws[s]? = some gtS then
    match rowS (ws.take s), rowS (ws.drop (s + 1)) with
    | some a, some b => some (a, b)
    | _, _ => none
  else none
theorem first_at {ws : List Str} {k : Nat} (h1 : ws[k]? = some gtS) (h2 : gtS ∉ ws.take k) : ws.findIdx? (fun w => decide (w = gtS)) = some k := by
  obtain ⟨hk, e⟩ := List.getElem?_eq_some_iff.mp h1
  rw [List.findIdx?_eq_some_iff_getElem]
  refine ⟨hk, by rw [e]; exact decide_eq_true rfl, fun j hj => ?_⟩
  have hne : ws[j] ≠ gtS := fun q => h2 (by
    rw [← q]
    have : (ws.take k)[j]? = some ws[j] := by rw [List.getElem?_take_of_lt hj, List.getElem?_eq_getElem]
    exact List.mem_of_getElem? this)
  simp [hne]
theorem both_rows {ws : List Str} {k : Nat} {m : List Int × List Int} : (match rowS (ws.take k), rowS (ws.drop (k + 1)) with | some a, some b => some (a, b) | _, _ => none) = some m ↔ rowS (ws.take k) = some m.1 ∧ rowS (ws.drop (k + 1)) = some m.2 := by
  constructor
  · intro h
    split at h
    · rename_i a b h1 h2
      cases h
      exact ⟨h1, h2⟩
    · cases h
  · rintro ⟨h1, h2⟩
    rw [h1, h2]
theorem words_same {s : Nat} {ws : List Str} {m : List Int × List Int} : lawWords s ws = some m ↔ readWords ws = some m ∧ m.1.length = s ∧ m.2.length = s := by
  constructor
  · intro h
    unfold lawWords at h
    split at h
    · rename_i hc
      obtain ⟨h1, h2⟩ := both_rows.mp h
      have l1 := rowS_len h1
      have l2 := rowS_len h2
      rw [List.length_take] at l1
      rw [List.length_drop] at l2
      have hf := first_at hc.2 (rowS_gt h1)
      refine ⟨?_, by omega, by omega⟩
      unfold readWords
      rw [hf]
      exact both_rows.mpr ⟨h1, h2⟩
    · cases h
  · rintro ⟨h, e1, e2⟩
    unfold readWords at h
    split at h
    · cases h
    · rename_i k hk
      obtain ⟨h1, h2⟩ := both_rows.mp h
      have l1 := rowS_len h1
      have l2 := rowS_len h2
      rw [List.length_take] at l1
      rw [List.length_drop] at l2
      rw [List.findIdx?_eq_some_iff_getElem] at hk
      obtain ⟨hlt, hg, _⟩ := hk
      have hks : k = s := by omega
      subst hks
      unfold lawWords
      rw [if_pos ⟨by omega, by rw [List.getElem?_eq_getElem hlt, of_decide_eq_true hg]⟩]
      exact both_rows.mpr ⟨h1, h2⟩
/-- all the pieces, each by f -/
def allS {α : Type} (f : Str → Option α) : List Str → Option (List α)
  | [] => some []
  | p :: r => match f p, allS f r with
    | some a, some as => some (a :: as)
    | _, _ => none
theorem allS_cons {α : Type} {f : Str → Option α} {p : Str} {r : List Str} {xs : List α} : allS f (p :: r) = some xs ↔ ∃ a as, f p = some a ∧ allS f r = some as ∧ xs = a :: as := by
  constructor
  · intro h
    unfold allS at h
    split at h
    · rename_i a as h1 h2
      exact ⟨a, as, h1, h2, (Option.some.inj h).symm⟩
    · cases h
  · rintro ⟨a, as, h1, h2, rfl⟩
    unfold allS
    rw [h1, h2]
theorem all_same {s : Nat} {sp : Str → List Str} : ∀ {ps : List Str} {ms : List (List Int × List Int)}, allS (fun p => lawWords s (sp p)) ps = some ms ↔ allS (fun p => readWords (sp p)) ps = some ms ∧ ∀ m ∈ ms, m.1.length = s ∧ m.2.length = s
  | [], ms => by
    constructor
    · intro h
      cases h
      exact ⟨rfl, fun m hm => by cases hm⟩
    · exact fun h => h.1
  | p :: r, ms => by
    constructor
    · intro h
      obtain ⟨a, as, h1, h2, rfl⟩ := allS_cons.mp h
      obtain ⟨q1, q2⟩ := words_same.mp h1
      obtain ⟨r1, r2⟩ := all_same.mp h2
      refine ⟨allS_cons.mpr ⟨a, as, q1, r1, rfl⟩, fun m hm => ?_⟩
      rcases List.mem_cons.mp hm with rfl | hm
      · exact q2
      · exact r2 m hm
    · rintro ⟨h, hl⟩
      obtain ⟨a, as, h1, h2, rfl⟩ := allS_cons.mp h
      exact allS_cons.mpr ⟨a, as, words_same.mpr ⟨h1, hl a List.mem_cons_self⟩, all_same.mpr ⟨h2, fun m hm => hl m (List.mem_cons_of_mem _ hm)⟩, rfl⟩
end Tw

/-! Tw16 (for k19): an error of a call in a comprehension's block, on its way out of the block. -/
namespace Tw
open PySem PySem.Spec PyProof.Rows L2 PyProof
theorem traced_but {h h2 : Heap} {base : Heap} {e C : Addr} {Z : Obj → Prop} {fl : Value} {m : Str → Option Value} (hn : h.Ns C m) (hs : Heap.SameBut C h h2) (t : HandSPX.TracedZ h base e Z fl) : HandSPX.TracedZ h2 base e Z fl := by
  obtain ⟨oC, es, ep, hoC, hdC, r⟩ := hn
  have ne : ∀ {b : Addr} {o : Obj} {vs : Array Value}, h.get? b = some o → o.data = .fields vs → b ≠ C := fun {b o vs} hb hd z => by
    rw [z, hoC] at hb
    cases hb
    rw [hdC] at hd
    cases hd
  obtain ⟨oe, vs, T, oT, ts, he, hz, hd, h1, hnT, hTe, hT, hdT, h3⟩ := t
  exact ⟨oe, vs, T, oT, ts, (hs.2 e (ne he hd)).trans he, hz, hd, h1, hnT, hTe, (hs.2 T (ne hT hdT)).trans hT, hdT, h3⟩
theorem blk_fails {X : Cx} {ce : Env} {a : Addr} {B : Heap} {cls : Value} {d : Option Addr} {s' : Shared} {m : Str → Option Value} (hs : X.stack = X.env :: X.outer) (hfr : X.A.frames = some (X.env :: X.outer)) (hf : X.env.frame = some X.env.locals) (hcf : ce.frame = X.env.frame)
    (fl : HandSPX.FlyingZ B X.stack a (Zc cls d) s'.heap) (nsC : s'.heap.Ns ce.locals m) (nC : B.get? ce.locals = none)
    (out : ∀ h', HandSPX.HeldZ B X.stack a (Zc cls d) X.env.locals h' → (∃ h1 h2, s'.heap.UpToSlots h1 ∧ Heap.SameBut ce.locals h1 h2 ∧ h2.UpToSlots h') → X.xe (.ref a) { s' with heap := h' }) :
    notedBy (model X.prog X.w) X.A ce (CompFails (model X.prog X.w) X.A X.xe ce) (.ref a) s' := by
  show wpAny (model X.prog X.w) X.A (noteFrame (.ref a) ce) _ _ s'
  rw [noteFrame_env _ hcf]
  rw [hs] at fl
  refine HandSPX.looks_onZ Zc.steady hfr hf fl fun h1 hh up1 => ?_
  have hn1 : h1.Ns ce.locals m := nsC.upToSlots fun b o hb hnf => up1 b o hb hnf
  refine ⟨m, hn1, fun h2 m2 hn2 hs2 => ?_⟩
  obtain ⟨b1, b0, f1, t1⟩ := hh
  have b2 : B.StaysIn h2 := fun b o hb => (hs2.2 b fun q => by rw [q, nC] at hb; cases hb).trans (b1 b o hb)
  have f2 : h2.FunFrames B (X.env :: X.outer) := Heap.FunFrames.sameBut hs2 hn2 f1
  have t2 := traced_but hn1 hs2 t1
  obtain ⟨oe, vs, T, oT, ts, he, hz, hd, h1', r⟩ := id t2
  unfold PySem.passOn
  refine wpAny_bind (wpAny_field he hd h1' ?_)
  rw [if_neg (show ¬ ((Value.ref T == Value.none) = true) from by simp)]
  rw [hcf, hf]
  refine wpAny_bind (HandSPX.setFlight_anyZ (fr := some X.env.locals) b2 f2 t2 fun h3 b3 f3 t3 up3 => ?_)
  refine wpAny_throw (out h3 ?_ ⟨h1, h2, up1, hs2, up3⟩)
  rw [hs]
  exact ⟨b3, b0, f3, t3⟩
end Tw

/-! Tw17 (for k19): a comprehension whose element's call may raise. -/
namespace Tw
open PySem PySem.Spec PyProof.Rows L2 PyProof
section
variable {X : Cx} {pins : List (Addr × Obj)} {σ : L2.St} {H3 : Hp} {s3 : Shared}
/-- what leaves a call in the block is taken by the def around -/
theorem passes_blk {We : XK} (tk : Takes X (fun cls d _ H => We cls d H)) (hs : X.stack = X.env :: X.outer) (hf : X.env.frame = some X.env.locals) {scope : Scope} {ce : Env} {fp : List Addr} {pn : List (Addr × Obj)} {xb : Value → Shared → Prop}
    (I3 : Inv X pins σ H3 s3) (hcf : ce.frame = X.env.frame) (hcL : ce.locals = s3.heap.objs.size) (f3 : ∀ b ∈ fp, FpOk X pins H3 b ∧ b < s3.heap.objs.size)
    {E : XK} (hW : ∀ cls d H', E cls d H' → We cls d H') {pins' : List (Addr × Obj)} {σ' : L2.St} {H : Hp} {s : Shared} {u : Value} {s' : Shared}
    (IT : Inv ((X.blk s3 H3 scope ce fp).tr pn xb) pins' σ' H s) (c : L2.CX X.prog X.w X.stack H s E u s') :
    notedBy (model X.prog X.w) X.A ce (CompFails (model X.prog X.w) X.A X.xe ce) u s' := by
  obtain ⟨a, B, H', cls, d, rfl, fl, hok, ub, na, os, ag, hE⟩ := c
  have hC0 : H ce.locals = none := IT.free
  obtain ⟨m, ⟨oL, es, ep, hoL, hdL, hr⟩, _⟩ := IT.loc
  have hoL : s.heap.get? ce.locals = some oL := hoL
  have hCf : ce.locals ∉ frs X.stack := fun hm => by
    obtain ⟨_, o, e, _⟩ := I3.stack.mem hm
    have := Heap.lt_size e
    rw [hcL] at this
    exact absurd this (Nat.lt_irrefl _)
  have hBC : B.get? ce.locals = some oL := ub.keep _ _ hoL hC0 hCf
  have hsC : s'.heap.get? ce.locals = some oL := fl.1 _ _ hBC
  have hC1 : H' ce.locals = none := ub.free _ _ hoL hC0
  obtain ⟨B', b1, b2⟩ := restrict B fun b => decide (b ≠ ce.locals)
  have gB : ∀ b o, b ≠ ce.locals → B.get? b = some o → B'.get? b = some o := fun b o n e => by rw [b1 b (by simp [n])]; exact e
  have nB : B'.get? ce.locals = none := b2 _ (by simp)
  have oB : ∀ b o, B'.get? b = some o → b ≠ ce.locals ∧ B.get? b = some o := fun b o e => by
    have n : b ≠ ce.locals := fun q => by rw [q, nB] at e; cases e
    exact ⟨n, by rw [b1 b (by simp [n])] at e; exact e⟩
  have nn : ∀ b, B.get? b = none → B'.get? b = none := fun b e => by
    cases q : B'.get? b with
    | none => rfl
    | some o => rw [(oB b o q).2] at e; cases e
  obtain ⟨st, na', ff, tr⟩ := fl
  have fl' : HandSPX.FlyingZ B' X.stack a (Zc cls d) s'.heap := by
    refine ⟨fun b o e => st b o (oB b o e).2, nn _ na', ?_, ?_⟩
    · refine funFrames_none ff fun L hL => ?_
      obtain ⟨hn, o, e, hd⟩ := ff.mem hL
      exact nn _ hn
    · obtain ⟨oe, vs, T, oT, ts, he, hz, hd, h1, hnT, r⟩ := tr
      exact ⟨oe, vs, T, oT, ts, he, hz, hd, h1, nn _ hnT, r⟩
  obtain ⟨G, g1, g2⟩ := restrict s'.heap fun b => (B'.get? b).isSome || decide (b ∈ frs X.stack)
  have gG : ∀ b o, B'.get? b = some o → G.get? b = some o := fun b o e => by
    rw [g1 b (by simp [e])]
    exact fl'.1 b o e
  have gF : ∀ b, b ∈ frs X.stack → G.get? b = s'.heap.get? b := fun b hb => g1 b (by simp [hb])
  have og : ∀ b o, G.get? b = some o → s'.heap.get? b = some o ∧ ((B'.get? b).isSome = true ∨ b ∈ frs X.stack) := fun b o e => by
    cases q : ((B'.get? b).isSome || decide (b ∈ frs X.stack)) with
    | false => rw [g2 b q] at e; cases e
    | true =>
      rw [g1 b q] at e
      exact ⟨e, by simpa [Bool.or_eq_true] using q⟩
  have low : ∀ b o, s3.heap.get? b = some o → b ≠ ce.locals := fun b o e q => by
    have := Heap.lt_size e
    rw [q, hcL] at this
    exact absurd this (Nat.lt_irrefl _)
  have bs := IT.base
  have U : Un (frs X.stack) fp H3 H' s3.heap G := by
    refine ⟨fun b o e n hb hp => ?_, fun b o e n hb hp => ?_, fun b o e n hp => ?_, fun b o e hp => ?_, fun b xs e => ub.tups b xs (bs.tups b xs e), fun b o xs e => ub.frzs b o xs (bs.frzs b o xs e), fun b ps e => ?_⟩
    · exact gG b o (gB b o (low b o e) (ub.keep b o (bs.keep b o e n hb hp) (bs.free b o e n hp) hb))
    · obtain ⟨sl, q⟩ := bs.slot b o e n hb hp
      obtain ⟨sl2, q2⟩ := ub.slot b _ q hb
      exact ⟨sl2, by rw [gF b hb]; exact q2⟩
    · obtain ⟨o', q⟩ := bs.there b o e hp
      exact ub.free b o' q (bs.free b o e n hp)
    · obtain ⟨o', q⟩ := bs.there b o e hp
      by_cases hb : b ∈ frs X.stack
      · obtain ⟨sl2, q2⟩ := ub.slot b _ q hb
        exact ⟨_, by rw [gF b hb]; exact q2⟩
      · obtain ⟨o2, q2⟩ := ub.there b o' q hb
        exact ⟨o2, gG b o2 (gB b o2 (low b o e) q2)⟩
    · obtain ⟨m1, q1⟩ := bs.tbls b ps e
      obtain ⟨m2, q2⟩ := ub.tbls b _ q1
      exact ⟨m1 ++ m2, by rw [q2, Array.append_assoc]⟩
  have hokG : HOk X.prog X.w H' G := fun b o q => (hok b o q).stay (fun c u hc r => gG c u (gB c u (fun hq => by
      rcases hc with hc | hc
      · rw [← hc, hq, hC1] at q; cases q
      · rw [hq, hC1] at hc; cases hc) r)) (fun _ r => r) fun _ _ r => r
  have I7 : Inv X pins σ H' { s' with heap := G } := I3.call' (ch := fp) (os.trans IT.os) U hokG ag fun b hb => ⟨(f3 b hb).1.2.2.2.1, (f3 b hb).1.2.1, (f3 b hb).1.2.2.2.2.1, (f3 b hb).1.2.2.2.2.2⟩
  have hns : s'.heap.Ns ce.locals m := ⟨oL, es, ep, hsC, hdL, hr⟩
  have hfr : X.A.frames = some (X.env :: X.outer) := by rw [I3.ok.frames, hs]
  refine blk_fails hs hfr hf hcf fl' hns nB fun h' hh ⟨h1, h2, up1, sb, up3⟩ => ?_
  refine tk _ _ ⟨a, B', { s' with heap := G }, pins, σ, H', cls, d, rfl, I7, fun b o e hb => ?_, fun b o e hnf => ?_, .inr (.inr hh), na, rfl, ag, hW _ _ _ hE⟩
  · obtain ⟨e', h⟩ := og b o e
    rcases h with h | h
    · obtain ⟨o', q⟩ := Option.isSome_iff_exists.mp h
      have z := fl'.1 b o' q
      rw [e'] at z; cases z
      exact q
    · exact absurd h hb
  · obtain ⟨e', h⟩ := og b o e
    have n : b ≠ ce.locals := fun q => by
      rcases h with h | h
      · obtain ⟨o', q'⟩ := Option.isSome_iff_exists.mp h
        exact (oB b o' q').1 q
      · exact hCf (by rw [← q]; exact h)
    obtain ⟨sl, q⟩ := up1 b o e' hnf
    obtain ⟨sl2, q2⟩ := up3 b _ ((sb.2 b n).trans q) hnf
    exact ⟨sl2, q2⟩
end
section
variable {X : Cx}
/-- the block's context while its element is reckoned -/
abbrev Cx.elt (X : Cx) (s : Shared) (H : Hp) (scope : Scope) (ce : Env) (fp : List Addr) (pn : List (Addr × Obj)) (xb : Value → Shared → Prop) : Cx := (X.blk s H scope ce fp).tr pn xb
/-- [elt for target in iter if ..], the element's calls may raise what We tells -/
theorem pe_lcX {We : XK} {elt tg iter : Expr} {ifs : List Expr} {scope : Scope} {own : List (Str × Nat)} {pos : Pos} {wi : TI} {g : TG} {tt : TT} {te : TE} (hc : X.calm = true) (hst : X.stack = X.env :: X.outer) (hf : X.env.frame = some X.env.locals) (tk : Takes X (fun cls d _ H => We cls d H))
    (hN : X.N.Nodup) (hi : PI X tg iter wi) (ok : BlkOk X.N X.env.scope scope own)
    (hg : ∀ (s : Shared) (H : Hp) (C : Addr) (cl : List (Str × Addr)) (fp : List Addr), PG (X.blk s H scope (compEnvC scope cl C X.env) fp) tg g) (ht : ∀ (s : Shared) (H : Hp) (C : Addr) (cl : List (Str × Addr)) (fp : List Addr), PTs (X.blk s H scope (compEnvC scope cl C X.env) fp) ifs tt)
    (he : ∀ (s : Shared) (H : Hp) (C : Addr) (cl : List (Str × Addr)) (fp : List Addr) (pn : List (Addr × Obj)) (xb : Value → Shared → Prop),
      (∀ σ (E : XK), (∀ cls d H', E cls d H' → We cls d H') → PassesAt (L2.CX X.prog X.w) (Cx.elt X s H scope (compEnvC scope cl C X.env) fp pn xb) σ E) → PE (Cx.elt X s H scope (compEnvC scope cl C X.env) fp pn xb) elt te)
    (hs : ∀ x, foldedSetIterable iter X.env x = pure x := by intro _; rfl) :
    PE X (.ListComp elt [⟨tg, iter, ifs, 0⟩] scope pos) (tLc wi g tt te (own.map (·.2))) := by
  refine ⟨fun pins s σ H Q I h => ?_⟩
  rw [eval_ListComp]
  have hfree : ∀ y ∈ scope.names, y.2 = .free → ∃ c, X.env.cells.lookup y.1 = some c := fun y hy e => by
    rcases ok.free y hy e with k | k
    · exact I.ok.has _ (.inl k)
    · exact I.ok.has _ (.inr k)
  refine comprehension_at (use := none) rfl hs (closure_ok hfree) ok.kind (fun y hy e => by rw [ok.uniq y hy, e])
    (thn (hi.run pins s σ H _ I h) fun xv s1 hx => thn hx fun itv s2 h2 => ?_)
  obtain ⟨it, fp, tn, J, H2, e, I2, T, st2, f2, q⟩ := h2
  subst e
  refine wpAny_newObj_type (newEnv_comp ?_) (by show 0 ≤ sizeLine; decide)
  generalize hD : s2.heap.objs.size = D
  have hDn : H2 D = none := I2.hok.fresh (Nat.le_of_eq hD)
  obtain ⟨W, ⟨m0, w0⟩, turn⟩ := q D hDn
  generalize hs3 : ({ s2 with heap := s2.heap.push { cls := .type "list", data := .seq ([] : List Value).toArray } } : Shared) = s3
  have I3 : Inv X pins σ (upd H2 D (.lst [])) s3 := by
    rw [← hs3]
    refine I2.laid (t' := s2.toks) (fun b o e => Heap.get?_push_of_some _ e) (Nat.le_of_eq hD) ⟨Nat.zero_le _, [], 0, .nil, ?_⟩
    rw [← hD]
    exact Heap.get?_push_size _ rfl
  have h3 : s3.heap = s2.heap.push { cls := .type "list", data := .seq ([] : List Value).toArray } := by rw [← hs3]
  have sz : ∀ b ∈ fp, b < s2.heap.objs.size := fun b hb => by
    obtain ⟨o, e, _⟩ := T.obj _ _ st2 b hb
    exact Heap.lt_size e
  have f3 : ∀ b ∈ fp, FpOk X pins (upd H2 D (.lst [])) b ∧ b < s3.heap.objs.size := fun b hb => by
    have hlt := sz b hb
    refine ⟨⟨?_, (f2 b hb).2⟩, by rw [h3, Heap.size_push]; exact Nat.lt_succ_of_lt hlt⟩
    rw [upd_ne (by rw [← hD]; exact Nat.ne_of_lt hlt)]
    exact (f2 b hb).1
  have st3 : tn 0 s3.heap := T.keep _ _ _ st2 fun b _ o e => by rw [h3]; exact Heap.get?_push_of_some _ e
  have I4 := block_start I3 ok hN f3
  have pg := hg s3 (upd H2 D (.lst [])) s3.heap.objs.size (cellsFrom (s3.heap.objs.size + 1) scope.names (cloFrom X.env.cells scope.names [])) fp
  have pt := ht s3 (upd H2 D (.lst [])) s3.heap.objs.size (cellsFrom (s3.heap.objs.size + 1) scope.names (cloFrom X.env.cells scope.names [])) fp
  have pe := he s3 (upd H2 D (.lst [])) s3.heap.objs.size (cellsFrom (s3.heap.objs.size + 1) scope.names (cloFrom X.env.cells scope.names [])) fp
  show codeAny _ _ (.compStart (.ListComp elt [⟨tg, iter, ifs, 0⟩] scope pos) 0 (.ref it) (.ref D) (compEnvC scope (cellsFrom (s3.heap.objs.size + 1) scope.names (cloFrom X.env.cells scope.names [])) s3.heap.objs.size X.env)) (compEnds (model X.prog X.w) X.A X.xe none _ (.ref D) (compEnvC scope (cellsFrom (s3.heap.objs.size + 1) scope.names (cloFrom X.env.cells scope.names [])) s3.heap.objs.size X.env)) { s3 with heap := pushCells (s3.heap.push { cls := .type "dict", data := .dict #[] }) scope.names }
  have nfp : ∀ b ∈ fp, (upd H2 D (.lst [])) b = none := fun b hb => (f3 b hb).1.1
  generalize hce : compEnvC scope (cellsFrom (s3.heap.objs.size + 1) scope.names (cloFrom X.env.cells scope.names [])) s3.heap.objs.size X.env = ce at I4 pg pt pe ⊢
  have cL : ce.locals = s3.heap.objs.size := by subst hce; rfl
  have cF : ce.frame = X.env.frame := by subst hce; rfl
  generalize hH3 : upd H2 D (.lst []) = H3 at I3 I4 pg pt pe w0 nfp f3
  generalize hs4 : ({ s3 with heap := pushCells (s3.heap.push { cls := .type "dict", data := .dict #[] }) scope.names } : Shared) = s4 at I4 ⊢
  have st4 : tn 0 s4.heap := T.keep _ _ _ st3 fun b _ o e => by rw [← hs4]; exact pushCells_keeps _ _ _ _ (Heap.get?_push_of_some _ e)
  have stat : ∀ {σ' : L2.St} {H' : Hp} {s' : Shared}, Inv (X.blk s3 H3 scope ce fp) [] σ' H' s' → (∀ b ∈ fp, H' b = none) → ∀ b ∈ fp, FpOk (X.blk s3 H3 scope ce fp) [] H' b := fun {σ' H' s'} I' hn b hb =>
    ⟨hn b hb, (I'.ok.exf b hb).1, I'.ok.exfs b hb, .inl hb, fun x c e => (I'.ok.exf b hb).2 x c e, fun p hp => absurd (show p ∈ ([] : List (Addr × Obj)) ++ [] from hp) (by simp)⟩
  have loop : codeAny (model X.prog X.w) X.A (.compLoop (.ListComp elt [⟨tg, iter, ifs, 0⟩] scope pos) 0 (.ref it) (.ref D) ce) (compEnds (model X.prog X.w) X.A X.xe none (EP X pins σ Q) (.ref D) ce) s4 := by
    refine compLoop_any (fun n s' => ∃ i H', Inv (X.blk s3 H3 scope ce fp) [] (wipe σ (own.map (·.2))) H' s' ∧ tn i s'.heap ∧ (∀ b ∈ fp, H' b = none) ∧ W i n H') ?_ m0 ⟨0, H3, I4, st4, nfp, w0⟩
    rintro n s5 ⟨i, H5, I5, st5, n5, w5⟩
    rcases turn i n H5 w5 with ⟨stop, qq⟩ | ⟨go, Nt, hNt, step⟩
    · have td := T.done (X.blk s3 H3 scope ce fp) rfl rfl rfl hc i [] s5 _ H5 (fun _ _ => False) I5 (stat I5 n5) st5 stop
      refine thnF td fun r s6 ⟨hr, I6⟩ => ?_
      subst hr
      -- back in the def's context
      have I7 : Inv X pins σ H5 s6 := I3.call' (ch := fp) I6.os I6.base I6.hok I6.bare fun b hb => ⟨(f3 b hb).1.2.2.2.1, (f3 b hb).1.2.1, (f3 b hb).1.2.2.2.2.1, (f3 b hb).1.2.2.2.2.2⟩
      have nC : H5 s3.heap.objs.size = none := by
        have z : H5 ce.locals = none := I6.free
        rw [cL] at z
        exact z
      obtain ⟨m, hn, _⟩ := I6.loc
      have hn : s6.heap.Ns ce.locals m := hn
      obtain ⟨f0, f1, f2, f3, f4, f5⟩ := I3.fpOk (Nat.le_refl _) nC
      rw [← cL] at f0 f1 f2 f3 f5
      exact ⟨m, hn, fun h'' sb => ⟨.ref D, H5, I7.turned (t' := s6.toks) (fun b o hb e => (sb.2 b hb).trans e) f0 f1 f3 (fun x c e => by rw [cL]; exact f4 x c e) f5, rfl, qq⟩⟩
    · have ti := T.item (X.blk s3 H3 scope ce fp) rfl rfl rfl hc i [] s5 _ H5 (fun _ _ => False) I5 (stat I5 n5) st5 go
      refine thnF ti fun r s6 ⟨u, hr, h6⟩ => ?_
      subst hr
      refine thnF h6 fun _ s7 ⟨x, H7, I7, r7, y7, st7, n7⟩ => ?_
      have I7' := I7.pinned (stat I7 n7) (T.obj _ _ st7)
      refine thnF (pg.run _ s7 _ H7 x u _ I7' r7 (step x H7 y7)) fun _ s8 ⟨σ8, H8, I8, hw8, q8⟩ => ?_
      refine thnF (pt.run _ s8 σ8 H8 _ I8 q8) fun b s9 ⟨H9, I9, q9⟩ => ?_
      -- the turn's end
      have fin : ∀ {s' : Shared} {H' : Hp}, Inv (X.blk s3 H3 scope ce fp) ([] ++ pinsAt fp s7.heap) σ8 H' s' → Nt H' → ∃ m, m < n ∧ ∃ i H', Inv (X.blk s3 H3 scope ce fp) [] (wipe σ (own.map (·.2))) H' s' ∧ tn i s'.heap ∧ (∀ b ∈ fp, H' b = none) ∧ W i m H' := fun {s' H'} I' nx => by
        obtain ⟨m', hm, w'⟩ := hNt H' nx
        have pin' : ∀ b ∈ fp, ∀ o, s7.heap.get? b = some o → s'.heap.get? b = some o ∧ H' b = none := fun b hb o e =>
          let z := I'.pin (b, o) (List.mem_append_right _ (List.mem_append_right _ (mem_pinsAt hb e)))
          ⟨z.1, z.2.1⟩
        have hl : (wipe σ (own.map (·.2))).length = σ8.length := by rw [← hw8, wipe_length]
        refine ⟨m', hm, i + 1, H', (I'.unpinned (pins := [])).weak hl (fun j v e => ?_), T.keep _ _ _ st7 fun b hb o e => (pin' b hb o e).1, fun b hb => ?_, w'⟩
        · rw [← hw8] at e
          exact (wipe_some e).1
        · obtain ⟨o, e, _⟩ := T.obj _ _ st7 b hb
          exact (pin' b hb o e).2
      cases b with
      | false =>
        simp only [Bool.false_eq_true, if_false] at q9 ⊢
        exact fin I9 q9
      | true =>
        simp only [if_true] at q9 ⊢
        have pe' := pe ([] ++ ([] ++ pinsAt fp s7.heap)) (notedBy (model X.prog X.w) X.A ce (CompFails (model X.prog X.w) X.A X.xe ce)) fun σ' E hW pins' H' s'' u' z' IT c => passes_blk tk hst hf I3 cF cL f3 hW IT c
        refine wpAny_mono (pe'.run _ s9 σ8 H9 _ (I9.toTry _) q9) (fun z s10 ⟨yv, H10, I10', r10, acc, hD10, hz10, nx⟩ => ?_) (fun _ _ h => h)
        have I10 : Inv (X.blk s3 H3 scope ce fp) ([] ++ pinsAt fp s7.heap) σ8 H10 s10 := I10'.ofTry I9.ok
        exact app_ok (X := X.blk s3 H3 scope ce fp) I10 hD10 hz10 r10 fun s11 I11 => fin I11 nx
  exact codeAny_compStart_list loop (T.self X.A 0 _ _ _ st4 loop)
end

/-! ### over data -/
section
variable {K : PySem.W.Frag} {E : XK} {δ : List Sl} {te : TE} {xs : List PyData} {cl : Value}
/-- the items before the k-th pass, the k-th raises -/
theorem ex_lc {wi : TI} {g : TG} {vs : List Nat} {k : Nat} (hk : k < xs.length) (f : Nat → PyData) (hi : EvI K wi δ xs) (hz : xs.length ≤ sizeLine) (hw : GWipe g vs)
    (hs : ∀ i d, xs[i]? = some d → i ≤ k → Ag K g d (wipeD δ vs) (fun δ2 => (i < k → Ev K te δ2 (f i)) ∧ (i = k → EvX K E te δ2 cl))) : EvX K E (tLc wi g tYes te vs) δ cl := fun G σ H I s gg r he Q => by
  refine hi G σ H I s gg r _ fun J H1 I1 n1 w => ?_
  intro D hD
  refine ⟨fun i m H2 => m = xs.length - i ∧ i ≤ k ∧ ∃ H3 I3 ws, H3 D = none ∧ Nx H1 I1 H3 I3 ∧ H2 = upd H3 D (.lst ws) ∧ ws.length = i, ⟨xs.length, by simp, Nat.zero_le _, H1, I1, [], hD, Nx.refl n1.s, rfl, rfl⟩, ?_⟩
  rintro i m H2 ⟨rfl, hle, H3, I3, ws, hD3, n3, rfl, rw3⟩
  have s3 : Same I3 (upd H3 D (.lst ws)) := n3.s.trans (same_new hD3)
  have nO : Nx H3 I3 (upd H3 D (.lst ws)) I3 := Nx.own n3.s hD3
  have hlt : i < xs.length := Nat.lt_of_le_of_lt hle hk
  refine .inr ⟨w.goes i _ I3 n3.i s3 hlt, fun H' => i + 1 ≤ k ∧ ∃ H3 I3 ws, H3 D = none ∧ Nx H1 I1 H3 I3 ∧ H' = upd H3 D (.lst ws) ∧ ws.length = i + 1, fun H' p => ⟨xs.length - (i + 1), by omega, rfl, p⟩, fun x H4 y => ?_⟩
  obtain ⟨I4, n4, rv⟩ := w.yields i _ I3 x H4 n3.i s3 hlt y
  have hx : xs[i]? = some xs[i] := List.getElem?_eq_getElem hlt
  have hD4 : H4 D = some (.lst ws) := n4.h D _ upd_same
  have iD4 : I4 D = none := n4.f D _ upd_same (n3.s.free hD3)
  have r4 : RelS K G H4 I4 σ δ := ((r.next n1).next (n3.trans nO)).next n4
  have e4 : Same H H4 := ((n1.h).trans (n3.trans nO).h).trans n4.h
  refine hw x σ H4 (fun σ2 H2 => tYes σ2 H2 fun b H3 => if b = true then te σ2 H3 fun y H4 => ∃ acc, H4 D = some (.lst acc) ∧ acc.length < sizeLine ∧ (i + 1 ≤ k ∧ ∃ H3' I3 ws, H3' D = none ∧ Nx H1 I1 H3' I3 ∧ upd H4 D (.lst (acc ++ [y])) = upd H3' D (.lst ws) ∧ ws.length = i + 1) else (i + 1 ≤ k ∧ ∃ H3' I3 ws, H3' D = none ∧ Nx H1 I1 H3' I3 ∧ H3 = upd H3' D (.lst ws) ∧ ws.length = i + 1)) _ (fun σ' e q => ⟨e, q⟩) ?_
  refine hs i _ hx hle G (L2.wipe σ vs) H4 I4 x (r4.wipe vs) n4.s (rv _ hx) _ fun δ5 σ5 a5 r5 => ?_
  unfold tYes
  dsimp only
  rw [if_pos rfl]
  rcases Nat.lt_or_eq_of_le hle with hik | hik
  · refine a5.1 hik G σ5 H4 I4 n4.s (gg.trans e4) r5 _ fun v H6 I6 n6 rv6 => ?_
    have hD6 : H6 D = some (.lst ws) := n6.h D _ hD4
    have iD6 : I6 D = none := n6.f D _ hD4 iD4
    have nn := (nO.trans n4).trans n6
    refine ⟨ws, hD6, by omega, hik, fun b => if b = D then none else H6 b, I6, ws ++ [v], if_pos rfl, ⟨fun b o eb => ?_, (n3.i.trans n4.i).trans n6.i, fun b o eb => ?_, fun b o eb nb => ?_⟩, ?_, by rw [List.length_append, rw3]; rfl⟩
    · have hb : b ≠ D := ne_of_none eb hD
      show (if b = D then none else H6 b) = _
      rw [if_neg hb]
      exact nn.h b o (n3.h b o eb)
    · have hb : b ≠ D := ne_of_none eb iD6
      show (if b = D then none else H6 b) = _
      rw [if_neg hb]
      exact n6.s b o eb
    · exact nn.f b o (n3.h b o eb) (n3.f b o eb nb)
    · funext b
      unfold upd
      by_cases hb : b = D
      · rw [if_pos hb, if_pos hb]
      · rw [if_neg hb, if_neg hb]
        exact (if_neg hb).symm
  · exact a5.2 hik G σ5 H4 I4 n4.s (gg.trans e4) r5 (fun H' e => he H' (e4.trans e)) _
theorem ex_cb {r : List V → Hp → VK → Prop} {t : TA} (h : EvAX K E t δ cl) : EvX K E (tCB r t) δ cl := fun G σ H I s g rl he Q => h G σ H I s g rl he _
theorem eax_head {t : TA} (h : EvX K E te δ cl) : EvAX K E (tCons te t) δ cl := fun G σ H I s g rl he Q => h G σ H I s g rl he _
theorem eax_tail {t : TA} {x : PyData} (ha : Ev K te δ x) (h : EvAX K E t δ cl) : EvAX K E (tCons te t) δ cl := fun G σ H I s g rl he Q =>
  ha G σ H I s g rl _ fun v H1 I1 n1 r1 => h G σ H1 I1 n1.s (n1.g g) (rl.next n1) (fun H' e => he H' (n1.h.trans e)) _
theorem ex_tup {t : TA} (h : EvAX K E t δ cl) : EvX K E (tTup t) δ cl := fun G σ H I s g rl he Q => h G σ H I s g rl he _
end
end Tw

/-! Tw19 (for k19): figures, words, pieces; rules for any text. -/
namespace Tw
open PySem PySem.Spec PyProof.Rows L2 PyProof
def rFindA : V → List V → Hp → VK → Prop := fun x xs H Q => ∃ a b, x = .str a ∧ xs = [.str b] ∧ Q (.int (Txt.find a b)) H
theorem mtFind {X : Cx} : MtR X "str.find" rFindA := mt_find
abbrev digitsS : Str := PySem.Str.ofString "0123456789"
abbrev spS : Str := PySem.Str.ofString " "
abbrev sp3S : Str := PySem.Str.ofString " ; "
theorem digits_list : digitsS.cps.toList = [48, 49, 50, 51, 52, 53, 54, 55, 56, 57] := by decide +kernel
theorem one_sign {w : Str} (h : w.length = 1) : ∃ c, w = mk [c] := by
  have h2 : w.cps.toList.length = 1 := by rw [Array.length_toList]; exact h
  obtain ⟨c, hc⟩ := List.length_eq_one_iff.mp h2
  exact ⟨c, mk_inj hc⟩
theorem dig_one {c : Nat} : digS (mk [c]) = if 48 ≤ c ∧ c ≤ 57 then some ((c : Int) - 48) else none := rfl
theorem dig_len {w : Str} {d : Int} (h : digS w = some d) : w.length = 1 := by
  unfold digS at h
  split at h
  · rename_i c hc
    show w.cps.size = 1
    rw [← Array.length_toList, hc]
    rfl
  · cases h
theorem dig_mk {w : Str} {d : Int} (h : digS w = some d) : w = mk (dgL d) ∧ 0 ≤ d ∧ d ≤ 9 := by
  obtain ⟨c, rfl⟩ := one_sign (dig_len h)
  rw [dig_one] at h
  split at h
  · cases h
    refine ⟨?_, by omega, by omega⟩
    show mk [c] = mk [48 + ((c : Int) - 48).toNat]
    have : 48 + ((c : Int) - 48).toNat = c := by omega
    rw [this]
  · cases h
section
variable {K : PySem.W.Frag} {E : XK} {δ : List Sl} {ta to te : TE} {ys ws : List Str} {w y z : Str}
theorem rd_notSub1 {c : Nat} : R2D K rNotSub (.str (mk [c])) (.str digitsS) (.bool (digS (mk [c])).isNone) := fun H I v u s r1 r2 Q q => by
  cases r1; cases r2
  refine ⟨_, _, rfl, rfl, ?_⟩
  have e : (!(!(Builtin.Str.occurrences digitsS (mk [c]) 0 digitsS.length 1).isEmpty)) = (digS (mk [c])).isNone := by
    have := StrLaws.found_one digitsS c
    rw [show (!(Builtin.Str.occurrences digitsS (mk [c]) 0 digitsS.length 1).isEmpty) = decide (c ∈ digitsS.cps.toList) from this, digits_list, dig_one]
    by_cases h : 48 ≤ c ∧ c ≤ 57
    · rw [if_pos h, decide_eq_true (by
        have : c = 48 ∨ c = 49 ∨ c = 50 ∨ c = 51 ∨ c = 52 ∨ c = 53 ∨ c = 54 ∨ c = 55 ∨ c = 56 ∨ c = 57 := by omega
        simp only [List.mem_cons, List.not_mem_nil, or_false]
        omega)]
      rfl
    · rw [if_neg h, decide_eq_false (by
        simp only [List.mem_cons, List.not_mem_nil, or_false]
        omega)]
      rfl
  rw [e]
  exact q _ H I (Nx.refl s) (.bl _)
theorem eqv_ne_nat (n m : Nat) : (!PyData.eqv (.int (n : Int)) (.int (m : Int))) = decide (n ≠ m) := by
  rw [eqv_nat]
  by_cases h : n = m
  · subst h; simp
  · simp [h]
/-- len(word) != 1 or word not in '0123456789' -/
theorem et_bad (h : ∀ {δ : List Sl}, δ = δ → Ev K ta δ (.str w) → True) (ha : Ev K ta δ (.str w)) (hz : w.length ≤ 100000) :
    EvT K (tOr (tTest (tOp (rNeD K) (tCB (rLenA K) (tCons ta tNil)) (tC (.int 1)))) (tTest (tOp rNotSub ta (tC (.str digitsS))))) δ (digS w).isNone := by
  have h1 : EvT K (tTest (tOp (rNeD K) (tCB (rLenA K) (tCons ta tNil)) (tC (.int 1)))) δ (decide (w.length ≠ 1)) := et_to (et_test (ev_op (ev_cb (ea_cons ha ea_nil) (rc_lenS (small_line hz))) (ev_int (i := 1)) (rd_ne rfl rfl))) (eqv_ne_nat w.length 1)
  by_cases hl : w.length = 1
  · obtain ⟨c, rfl⟩ := one_sign hl
    refine et_to (et_or (b := (digS (mk [c])).isNone) h1 fun _ => et_test (ev_op ha ev_str rd_notSub1)) ?_
    rw [decide_eq_false (by rw [hl]; simp), Bool.false_or]
  · have e : digS w = none := by
      cases q : digS w with
      | none => rfl
      | some d => exact absurd (dig_len q) hl
    rw [e]
    exact et_to (et_or (b := true) h1 fun z => by rw [decide_eq_true hl] at z; cases z) (by rw [decide_eq_true hl]; rfl)
theorem ev_find (ha : Ev K ta δ (.str w)) {d : Int} (h : digS w = some d) : Ev K (tBM K "str" rFindA (tC (.str digitsS)) (tCons ta tNil)) δ (.int d) := fun G σ H I s g r Q q => by
  obtain ⟨e, h0, h9⟩ := dig_mk h
  refine ⟨rfl, ?_⟩
  refine (ea_cons ha ea_nil) G σ H I s g r _ fun vs H2 I2 n2 r2 => ?_
  cases r2 with
  | cons rx rr =>
    cases rr
    cases rx
    refine ⟨_, _, rfl, rfl, ?_⟩
    have e2 : Txt.find digitsS w = d := by
      rw [e]
      rcases ten h0 h9 with rfl | rfl | rfl | rfl | rfl | rfl | rfl | rfl | rfl | rfl <;> decide +kernel
    rw [e2]
    exact q _ H2 I2 n2 (.int _)
theorem rc_intD {d : Int} (h : digS w = some d) : RAD K rIntS [.str w] (.int d) := by
  obtain ⟨e, h0, h9⟩ := dig_mk h
  rw [e]
  exact rc_intS h0 h9
theorem rd_notInS2 : R2D K (rIn K true) (.str y) (.list (ys.map .str)) (.bool (decide (y ∉ ys))) := fun H I v u s r1 r2 Q q => by
  cases r1
  cases r2 with
  | lst h a =>
    have e := rall_strs a
    subst e
    refine ⟨_, _, rfl, .inl (.of (s _ _ h)), rfl, flat_strs ys, ?_⟩
    have ei : (if true = true then !inV (.str y) (ys.map V.str) else inV (.str y) (ys.map V.str)) = decide (y ∉ ys) := by
      rw [if_pos rfl]
      have e2 : inV (.str y) (ys.map V.str) = decide (y ∈ ys) := by
        show ((ys.map V.str).any fun w => eqV w (.str y)) = _
        rw [List.any_map]
        by_cases hy : y ∈ ys
        · rw [decide_eq_true hy, List.any_eq_true]
          exact ⟨y, hy, beq_self_eq_true y⟩
        · rw [decide_eq_false hy, List.any_eq_false]
          intro x hx hb
          have : x = y := eq_of_beq hb
          exact hy (this ▸ hx)
      rw [e2]
      by_cases hy : y ∈ ys
      · simp [hy]
      · simp [hy]
    rw [show (_ : Bool) = decide (y ∉ ys) from ei]
    exact q _ H I (Nx.refl s) (.bl _)
end

/-! ### all of some -/
theorem rowS_all : ∀ ws : List Str, rowS ws = allS digS ws
  | [] => rfl
  | w :: r => by
    unfold rowS allS
    rw [rowS_all r]
    cases digS w <;> cases allS digS r <;> rfl
theorem allS_len {α : Type} {f : Str → Option α} : ∀ {ws : List Str} {as : List α}, allS f ws = some as → as.length = ws.length
  | [], as, h => by cases h; rfl
  | w :: r, as, h => by
    obtain ⟨a, bs, h1, h2, rfl⟩ := allS_cons.mp h
    rw [List.length_cons, List.length_cons, allS_len h2]
theorem allS_get {α : Type} {f : Str → Option α} : ∀ {ws : List Str} {as : List α} {i : Nat} {w : Str}, allS f ws = some as → ws[i]? = some w → ∃ a, f w = some a ∧ as[i]? = some a
  | [], as, i, w, h, e => by simp at e
  | x :: r, as, 0, w, h, e => by
    obtain ⟨a, bs, h1, h2, rfl⟩ := allS_cons.mp h
    simp at e
    subst e
    exact ⟨a, h1, rfl⟩
  | x :: r, as, i + 1, w, h, e => by
    obtain ⟨a, bs, h1, h2, rfl⟩ := allS_cons.mp h
    obtain ⟨b, q1, q2⟩ := allS_get h2 (by simpa using e)
    exact ⟨b, q1, by simpa using q2⟩
/-- the first that is none -/
theorem allS_no {α : Type} {f : Str → Option α} : ∀ {ws : List Str}, allS f ws = none → ∃ k : Nat, ∃ w, ws[k]? = some w ∧ f w = none ∧ ∀ (i : Nat) v, i < k → ws[i]? = some v → ∃ a, f v = some a
  | [], h => by cases h
  | x :: r, h => by
    cases hx : f x with
    | none => exact ⟨0, x, rfl, hx, fun i v hi => by omega⟩
    | some a =>
      cases hr : allS f r with
      | none =>
        obtain ⟨k, w, h1, h2, h3⟩ := allS_no hr
        refine ⟨k + 1, w, by simpa using h1, h2, fun i v hi hv => ?_⟩
        cases i with
        | zero =>
          simp at hv
          subst hv
          exact ⟨a, hx⟩
        | succ i => exact h3 i v (by omega) (by simpa using hv)
      | some as =>
        unfold allS at h
        rw [hx, hr] at h
        cases h
theorem allS_none {α : Type} {f : Str → Option α} {ws : List Str} {i : Nat} {w : Str} (h1 : ws[i]? = some w) (h2 : f w = none) : allS f ws = none := by
  cases h : allS f ws with
  | none => rfl
  | some as =>
    obtain ⟨a, q, _⟩ := allS_get h h1
    rw [h2] at q
    cases q
theorem allS_snoc {α : Type} {f : Str → Option α} {w : Str} {a : α} (h2 : f w = some a) : ∀ {ws : List Str} {as : List α}, allS f ws = some as → allS f (ws ++ [w]) = some (as ++ [a])
  | [], as, h => by
    cases h
    exact allS_cons.mpr ⟨a, [], h2, rfl, rfl⟩
  | x :: r, as, h => by
    obtain ⟨b, bs, h1, h3, rfl⟩ := allS_cons.mp h
    exact allS_cons.mpr ⟨b, bs ++ [a], h1, allS_snoc h2 h3, rfl⟩
theorem take_snoc {α : Type} {l : List α} {i : Nat} {x : α} (h : l[i]? = some x) : l.take (i + 1) = l.take i ++ [x] := by
  rw [List.take_add_one, h]
  rfl

/-! ### how long the pieces are -/
theorem spl_len {S : List Nat} : ∀ {l : List Nat} {k : Nat} {acc : List Nat}, ∀ p ∈ TL.spl S k acc l, p.length ≤ acc.length + l.length
  | [], k, acc, p, h => by
    rw [TL.spl_nil] at h
    rw [List.mem_singleton.mp h]
    exact Nat.le_add_right _ _
  | c :: r, 0, acc, p, h => by
    by_cases hp : TL.pre S (c :: r) = true
    · rw [TL.spl_hit hp] at h
      rcases List.mem_cons.mp h with rfl | h
      · exact Nat.le_add_right _ _
      · have := spl_len p h
        rw [List.length_cons]
        simp at this
        omega
    · rw [TL.spl_miss (by simpa using hp)] at h
      have := spl_len p h
      rw [List.length_append, List.length_singleton] at this
      rw [List.length_cons]
      omega
  | c :: r, k + 1, acc, p, h => by
    have := spl_len (k := k) p h
    rw [List.length_cons]
    omega
theorem split_word {x y w : Str} (hy : TL.tl y ≠ []) (hk : ¬ Builtin.Str.strKind x < Builtin.Str.strKind y) (h : w ∈ Txt.split x y) : w.length ≤ x.length := by
  have e := TL.split_spl x y hy hk
  have hm : TL.tl w ∈ (Txt.split x y).map TL.tl := List.mem_map.mpr ⟨w, h, rfl⟩
  rw [e] at hm
  have := spl_len _ hm
  rw [TL.len_tl, TL.len_tl]
  simpa using this
theorem split_sp {x w : Str} (h : w ∈ Txt.split x spS) : w.length ≤ x.length := split_word (by decide +kernel) (TL.kind_ok (by decide +kernel)) h
theorem split_sp3 {x w : Str} (h : w ∈ Txt.split x sp3S) : w.length ≤ x.length := split_word (by decide +kernel) (TL.kind_ok (by decide +kernel)) h
theorem spl_ne {S : List Nat} : ∀ {l : List Nat} {k : Nat} {acc : List Nat}, TL.spl S k acc l ≠ []
  | [], k, acc => by rw [TL.spl_nil]; simp
  | c :: r, 0, acc => by
    by_cases hp : TL.pre S (c :: r) = true
    · rw [TL.spl_hit hp]; simp
    · rw [TL.spl_miss (by simpa using hp)]
      exact spl_ne
  | c :: r, k + 1, acc => spl_ne (k := k) (l := r)
theorem split_ne {x y : Str} (hy : TL.tl y ≠ []) (hk : ¬ Builtin.Str.strKind x < Builtin.Str.strKind y) : Txt.split x y ≠ [] := fun e => by
  have := TL.split_spl x y hy hk
  rw [e] at this
  exact spl_ne this.symm
theorem join_len {S : List Nat} {b : Nat} : ∀ {ps : List (List Nat)}, (∀ p ∈ ps, p.length ≤ b) → (TL.joinL S ps).length ≤ ps.length * (b + S.length)
  | [], _ => Nat.zero_le _
  | [p], h => by
    have := h p List.mem_cons_self
    show p.length ≤ _
    simp
    omega
  | p :: q :: r, h => by
    have h1 := h p List.mem_cons_self
    have ih := join_len (S := S) (ps := q :: r) fun x hx => h x (List.mem_cons_of_mem _ hx)
    show (p ++ (S ++ TL.joinL S (q :: r))).length ≤ _
    rw [List.length_append, List.length_append, List.length_cons, Nat.succ_mul]
    omega
theorem cutS_len (z : Str) (lo hi : Option Int) : (cutS z lo hi).length ≤ z.length := by
  show (((z.cps.toList.drop (HT.sIx z.length 0 lo)).take (HT.sIx z.length z.length hi - HT.sIx z.length 0 lo)).toArray).size ≤ z.cps.size
  rw [List.size_toArray, List.length_take, List.length_drop, Array.length_toList]
  omega
theorem sum_len {b : Nat} : ∀ {ys : List Str}, (∀ y ∈ ys, y.length ≤ b) → (ys.map (·.length)).sum ≤ ys.length * b
  | [], _ => by simp
  | y :: r, h => by
    have h1 := h y List.mem_cons_self
    have ih := sum_len (ys := r) fun x hx => h x (List.mem_cons_of_mem _ hx)
    rw [List.map_cons, List.sum_cons, List.length_cons, Nat.succ_mul]
    omega

def sp1 (x : Str) : List Str := Txt.split x spS
theorem allS_app {α : Type} {f : Str → Option α} {ws : List Str} {w : Str} {i : Nat} {as : List α} (h : allS f (ws.take i) = some as) (hw : ws[i]? = some w) {a : α} (ha : f w = some a) : allS f (ws.take (i + 1)) = some (as ++ [a]) := by
  rw [take_snoc hw]
  exact allS_snoc ha h
end Tw


namespace Tw
open PySem PySem.Spec PyProof.Rows L2


def F_is_whole (ds : List PyData) (o : Out) : Prop := ∃ d, ds = [d] ∧ NoScr d ∧ o = .rt (.bool (isInt d))
theorem len_is_whole : ∀ ds o, F_is_whole ds o → ds.length = 1 := fun _ _ ⟨_, h, _⟩ => by rw [h]; rfl

/-! is_whole: slots 0 thing (1) -/
def t_is_whole (K : PySem.W.Frag) (E : XK)  : TS :=
    (tRet (tAndV (tCB (rIsi K) (tCons (tVar 0) (tCons (tC (.ty "int")) tNil))) (tNotV (tCB (rIsi K) (tCons (tVar 0) (tCons (tC (.ty "bool")) tNil))))))

theorem sem_is_whole {K : PySem.W.Frag} {E : XK} {ds : List PyData} {o : Out} (h : F_is_whole ds o) : As K E (t_is_whole K E) (slots0 1 ds) (finP o) := by
  obtain ⟨d, rfl, hn, rfl⟩ := h
  obtain ⟨b, h1, c, h2, e⟩ := kit_int d hn
  exact as_ret (ev_to (ev_andV (ev_isi (ev_var rfl) h1 hn) (fun _ => ev_notV (ev_isi (ev_var rfl) h2 hn))) (by rw [e])) rfl

def F_between (ds : List PyData) (o : Out) : Prop := ∃ d l m, ds = [d, .int l, .int m] ∧ NoScr d ∧ o = .rt (.bool (inB d l m))
theorem len_between : ∀ ds o, F_between ds o → ds.length = 3 := fun _ _ ⟨_, _, _, h, _⟩ => by rw [h]; rfl
/-! between: slots 0 thing, 1 low, 2 most (3) -/
def t_between (K : PySem.W.Frag) (E : XK)  : TS :=
    (tRet (tAndV (tCallS (SpD K F_is_whole) (WE (fun cls d _ H => E cls d H)) (tCons (tVar 0) tNil)) (tAndV (tOp (rLeA K) (tVar 1) (tVar 0)) (tOp (rLeA K) (tVar 0) (tVar 2)))))

theorem sem_between {K : PySem.W.Frag} {E : XK} {ds : List PyData} {o : Out} (h : F_between ds o) : As K E (t_between K E) (slots0 3 ds) (finP o) := by
  obtain ⟨d, l, m, rfl, hn, rfl⟩ := h
  cases hd : isInt d with
  | true =>
    cases d with
    | int i =>
      exact as_ret (ev_andV (a := true) (ev_call (ea_cons (ev_var rfl) ea_nil) ⟨_, rfl, hn, rfl⟩) fun _ => ev_andV (ev_op (ev_var rfl) (ev_var rfl) rd_le) fun _ => ev_op (ev_var rfl) (ev_var rfl) rd_le) rfl
    | _ => cases hd
  | false =>
    have e : inB d l m = false := by cases d <;> first | rfl | cases hd
    refine as_ret (ev_to (ev_andV (a := false) (b := true) (ev_call (ea_cons (ev_var rfl) ea_nil) ⟨_, rfl, hn, by rw [hd]⟩) fun z => by cases z) (by rw [e]; rfl)) rfl

def tokB (s : Int) : PyData → Bool
  | .tuple ds => decide ((ds.length : Int) = s) && ds.all fun d => inB d 0 9
  | _ => false
def F_are_tokens (ds : List PyData) (o : Out) : Prop := ∃ d s, ds = [d, .int s] ∧ cln d = true ∧ o = .rt (.bool (tokB s d))
theorem len_are_tokens : ∀ ds o, F_are_tokens ds o → ds.length = 2 := fun _ _ ⟨_, _, h, _⟩ => by rw [h]; rfl
/-! are_tokens: slots 0 thing, 1 size, 2 number (3) -/
def t_are_tokens (K : PySem.W.Frag) (E : XK)  : TS :=
    (tSeq (tIfS (tOr (tNot (tB (tCB (rIsi K) (tCons (tVar 0) (tCons (tC (.ty "tuple")) tNil))))) (tTest (tOp (rNeD K) (tCB (rLenA K) (tCons (tVar 0) tNil)) (tVar 1)))) (tRet (tC (.bl false))) tNext)
    (tSeq (tFor (iTup K (tVar 0)) (gName 2) (tIfS (tNot (tB (tCallS (SpD K F_between) (WE (fun cls d _ H => E cls d H)) (tCons (tVar 2) (tCons (tC (.int 0)) (tCons (tC (.int 9)) tNil)))))) (tRet (tC (.bl false))) tNext))
    (tRet (tC (.bl true)))))

theorem sem_are_tokens {K : PySem.W.Frag} {E : XK} {ds : List PyData} {o : Out} (h : F_are_tokens ds o) : As K E (t_are_tokens K E) (slots0 3 ds) (finP o) := by
  obtain ⟨d, s, rfl, hc, rfl⟩ := h
  obtain ⟨b, hb, hy, hn⟩ := kit_tup d (cln_no hc)
  cases b with
  | false =>
    refine as_seq (as_if (et_or (a := true) (b := true) (et_not (a := false) (et_B (ev_isi (ev_var rfl) hb (cln_no hc)))) fun z => by cases z) (fun _ => as_ret ev_bl ?_) (fun z => by cases z))
    show Out.rt _ = Out.rt _
    have : tokB s d = false := by cases d <;> first | rfl | exact absurd rfl (hn rfl _)
    rw [this]
  | true =>
    obtain ⟨xs, rfl⟩ := hy rfl
    refine as_seq (as_if (et_or (a := false) (et_not (a := true) (et_B (ev_isi (ev_var rfl) hb (cln_no hc)))) fun _ => et_test (ev_op (ev_cb (ea_cons (ev_var rfl) ea_nil) rc_lenT) (ev_var rfl) (rd_ne rfl rfl))) (fun hlen => as_ret ev_bl ?_) (fun hlen => as_next ?_))
    · rw [eqv_int] at hlen
      have e : ¬ (xs.length : Int) = s := by simpa using hlen
      show Out.rt (.bool (decide ((xs.length : Int) = s) && _)) = Out.rt _
      rw [decide_eq_false e]
      rfl
    · rw [eqv_int] at hlen
      have e : (xs.length : Int) = s := by simpa using hlen
      refine as_search (fun i => !inB (xs.getD i .none) 0 9) (ei_tup (ev_var rfl)) (fun δ' => ∃ z, δ' = [.d (.tuple xs), .d (.int s), z]) ⟨_, rfl⟩ (fun i d δ' hd hf _ => ?_) (fun δ' _ => ev_bl) (fun δ' _ => ev_bl) ?_
      · obtain ⟨z, rfl⟩ := hf
        refine ag_name ⟨?_, _, rfl⟩
        rw [item_eq hd]
        exact et_not (et_B (ev_call (ea_cons (ev_var rfl) (ea_cons ev_int (ea_cons ev_int ea_nil))) ⟨d, 0, 9, rfl, cln_no (clnAll_get (show clnAll xs = true from hc) hd), rfl⟩))
      · show Out.rt (.bool (decide ((xs.length : Int) = s) && _)) = Out.rt _
        rw [decide_eq_true e, search_all, range_all (f := fun d => inB d 0 9)]
        rfl

def mvB (s : Int) : PyData → Bool
  | .tuple [t, g] => tokB s t && tokB s g
  | _ => false
def mvsB (s : Int) : PyData → Bool
  | .tuple ms => decide (ms.length ≤ 10) && ms.all (mvB s)
  | _ => false
def netB : PyData → Bool
  | .tuple [.int s, b] => inB (.int s) 1 6 && mvsB s b
  | _ => false
def F_is_net (ds : List PyData) (o : Out) : Prop := ∃ d, ds = [d] ∧ cln d = true ∧ o = .rt (.bool (netB d))
theorem len_is_net : ∀ ds o, F_is_net ds o → ds.length = 1 := fun _ _ ⟨_, h, _⟩ => by rw [h]; rfl
/-- two items, or another number -/
theorem two_or (xs : List PyData) : (∃ a b, xs = [a, b]) ∨ xs.length ≠ 2 := by
  match xs with
  | [] => exact .inr (by decide)
  | [_] => exact .inr (by simp)
  | [a, b] => exact .inl ⟨a, b, rfl⟩
  | _ :: _ :: _ :: _ => exact .inr (by simp)
theorem mvB_no {s : Int} {d : PyData} (h : ∀ a b, d ≠ .tuple [a, b]) : mvB s d = false := by
  cases d with
  | tuple xs =>
    rcases two_or xs with ⟨a, b, rfl⟩ | h2
    · exact absurd rfl (h a b)
    · match xs with
      | [] => rfl
      | [_] => rfl
      | [a, b] => exact absurd rfl h2
      | _ :: _ :: _ :: _ => rfl
  | _ => rfl
theorem netB_no {d : PyData} (h : ∀ a b, d ≠ .tuple [a, b]) : netB d = false := by
  cases d with
  | tuple xs =>
    match xs with
    | [] => rfl
    | [a] => cases a <;> rfl
    | [a, b] => exact absurd rfl (h a b)
    | a :: _ :: _ :: _ => cases a <;> rfl
  | _ => rfl
theorem netB_two {a b : PyData} (h : inB a 1 6 = false) : netB (.tuple [a, b]) = false := by
  cases a <;> first | rfl | (show (_ && _) = false; rw [h]; rfl)
theorem eqv_two (n : Nat) : PyData.eqv (.int n) (.int 2) = decide (n = 2) := eqv_nat n 2
/-! is_net: slots 0 thing, 1 move (2) -/
def t_is_net (K : PySem.W.Frag) (E : XK)  : TS :=
    (tSeq (tIfS (tOr (tNot (tB (tCB (rIsi K) (tCons (tVar 0) (tCons (tC (.ty "tuple")) tNil))))) (tOr (tTest (tOp (rNeD K) (tCB (rLenA K) (tCons (tVar 0) tNil)) (tC (.int 2)))) (tNot (tB (tCallS (SpD K F_between) (WE (fun cls d _ H => E cls d H)) (tCons (tOp (rIx K) (tVar 0) (tC (.int 0))) (tCons (tC (.int 1)) (tCons (tC (.int 6)) tNil)))))))) (tRet (tC (.bl false))) tNext)
    (tSeq (tIfS (tOr (tNot (tB (tCB (rIsi K) (tCons (tOp (rIx K) (tVar 0) (tC (.int 1))) (tCons (tC (.ty "tuple")) tNil))))) (tTest (tOp rGtA (tCB (rLenA K) (tCons (tOp (rIx K) (tVar 0) (tC (.int 1))) tNil)) (tC (.int 10))))) (tRet (tC (.bl false))) tNext)
    (tSeq (tFor (iTup K (tOp (rIx K) (tVar 0) (tC (.int 1)))) (gName 1) (tSeq (tIfS (tOr (tNot (tB (tCB (rIsi K) (tCons (tVar 1) (tCons (tC (.ty "tuple")) tNil))))) (tTest (tOp (rNeD K) (tCB (rLenA K) (tCons (tVar 1) tNil)) (tC (.int 2))))) (tRet (tC (.bl false))) tNext)
    (tIfS (tOr (tNot (tB (tCallS (SpD K F_are_tokens) (WE (fun cls d _ H => E cls d H)) (tCons (tOp (rIx K) (tVar 1) (tC (.int 0))) (tCons (tOp (rIx K) (tVar 0) (tC (.int 0))) tNil))))) (tNot (tB (tCallS (SpD K F_are_tokens) (WE (fun cls d _ H => E cls d H)) (tCons (tOp (rIx K) (tVar 1) (tC (.int 1))) (tCons (tOp (rIx K) (tVar 0) (tC (.int 0))) tNil)))))) (tRet (tC (.bl false))) tNext)))
    (tRet (tC (.bl true))))))

theorem sem_is_net {K : PySem.W.Frag} {E : XK} {ds : List PyData} {o : Out} (h : F_is_net ds o) : As K E (t_is_net K E) (slots0 2 ds) (finP o) := by
  obtain ⟨d, rfl, hc, rfl⟩ := h
  obtain ⟨b, hb, hy, hn⟩ := kit_tup d (cln_no hc)
  cases b with
  | false =>
    refine as_seq (as_if (et_or (a := true) (b := true) (et_not (a := false) (et_B (ev_isi (ev_var rfl) hb (cln_no hc)))) fun z => by cases z) (fun _ => as_ret ev_bl ?_) (fun z => by cases z))
    show Out.rt _ = Out.rt _
    rw [netB_no fun a b => hn rfl _]
  | true =>
    obtain ⟨xs, rfl⟩ := hy rfl
    rcases two_or xs with ⟨a, b, rfl⟩ | h2
    · have hca : cln a = true := clnAll_get (ds := [a, b]) (i := 0) hc rfl
      have hcb : cln b = true := clnAll_get (ds := [a, b]) (i := 1) hc rfl
      cases hin : inB a 1 6 with
      | false =>
        refine as_seq (as_if (et_or (a := false) (b := true) (et_not (a := true) (et_B (ev_isi (ev_var rfl) hb (cln_no hc)))) fun _ => et_or (a := false) (b := true) (et_test (ev_op (ev_cb (ea_cons (ev_var rfl) ea_nil) rc_lenT) ev_int (rd_ne rfl rfl))) fun _ => et_not (a := false) (et_B (ev_call (ea_cons (ev_op (ev_var rfl) ev_int (rd_ixT rfl)) (ea_cons ev_int (ea_cons ev_int ea_nil))) ⟨a, 1, 6, rfl, cln_no hca, by rw [hin]⟩))) (fun _ => as_ret ev_bl ?_) (fun z => by cases z))
        show Out.rt _ = Out.rt _
        rw [netB_two hin]
      | true =>
        obtain ⟨s, rfl⟩ : ∃ s, a = .int s := by cases a <;> first | exact ⟨_, rfl⟩ | cases hin
        refine as_seq (as_if (b := false) (et_or (a := false) (b := false) (et_not (a := true) (et_B (ev_isi (ev_var rfl) hb (cln_no hc)))) fun _ => et_or (a := false) (b := false) (et_test (ev_op (ev_cb (ea_cons (ev_var rfl) ea_nil) rc_lenT) ev_int (rd_ne rfl rfl))) fun _ => et_not (a := true) (et_B (ev_call (ea_cons (ev_op (ev_var rfl) ev_int (rd_ixT rfl)) (ea_cons ev_int (ea_cons ev_int ea_nil))) ⟨_, 1, 6, rfl, cln_no hca, by rw [hin]⟩))) (fun z => by cases z) (fun _ => as_next ?_))
        have eN : netB (.tuple [.int s, b]) = mvsB s b := by
          show (_ && _) = _
          rw [hin, Bool.true_and]
        rw [eN]
        obtain ⟨b2, hb2, hy2, hn2⟩ := kit_tup b (cln_no hcb)
        have hmv : ∀ {δ : List Sl}, δ[0]? = some (.d (.tuple [.int s, b])) → Ev K (tOp (rIx K) (tVar 0) (tC (.int 1))) δ b := fun q => ev_op (ev_var q) ev_int (rd_ixT rfl)
        cases b2 with
        | false =>
          refine as_seq (as_if (et_or (a := true) (b := true) (et_not (a := false) (et_B (ev_isi (hmv rfl) hb2 (cln_no hcb)))) fun z => by cases z) (fun _ => as_ret ev_bl ?_) (fun z => by cases z))
          show Out.rt _ = Out.rt _
          have : mvsB s b = false := by cases b <;> first | rfl | exact absurd rfl (hn2 rfl _)
          rw [this]
        | true =>
          obtain ⟨ms, rfl⟩ := hy2 rfl
          refine as_seq (as_if (et_or (a := false) (et_not (a := true) (et_B (ev_isi (hmv rfl) hb2 (cln_no hcb)))) fun _ => et_test (ev_op (ev_cb (ea_cons (hmv rfl) ea_nil) rc_lenT) ev_int rd_gt)) (fun hlen => as_ret ev_bl ?_) (fun hlen => as_next ?_))
          · have e : (10 : Int) < ms.length := by simpa using hlen
            show Out.rt (.bool (decide (ms.length ≤ 10) && _)) = Out.rt _
            rw [decide_eq_false (by omega)]
            rfl
          · have e : ¬ (10 : Int) < ms.length := by simpa using hlen
            have eM : mvsB s (.tuple ms) = ms.all (mvB s) := by
              show (decide (ms.length ≤ 10) && _) = _
              rw [decide_eq_true (by omega), Bool.true_and]
            rw [eM]
            refine as_seq (as_for (ei_tup (hmv rfl)) (fun i δ' => ∃ z, δ' = [.d (.tuple [.int s, .tuple ms]), z] ∧ ∀ j y, j < i → ms[j]? = some y → mvB s y = true) ⟨_, rfl, fun j y hj => by omega⟩ (fun i y δ' hy' hp => ?_) (fun δ' hp => ?_))
            · obtain ⟨z, rfl, hp⟩ := hp
              have hyc : cln y = true := clnAll_get (show clnAll ms = true from hcb) hy'
              have hym : y ∈ ms := List.mem_of_getElem? hy'
              have bad : mvB s y = false → ms.all (mvB s) = false := fun q => by
                rw [List.all_eq_false]
                exact ⟨y, hym, by rw [q]; decide⟩
              obtain ⟨b3, hb3, hy3, hn3⟩ := kit_tup y (cln_no hyc)
              cases b3 with
              | false =>
                refine ag_name (as_seq (as_if (et_or (a := true) (b := true) (et_not (a := false) (et_B (ev_isi (ev_var rfl) hb3 (cln_no hyc)))) fun z => by cases z) (fun _ => as_ret ev_bl ?_) (fun z => by cases z)))
                show Out.rt _ = Out.rt _
                rw [bad (mvB_no fun a b => hn3 rfl _)]
              | true =>
                obtain ⟨ys, rfl⟩ := hy3 rfl
                rcases two_or ys with ⟨t, g, rfl⟩ | h3
                · have hct : cln t = true := clnAll_get (ds := [t, g]) (i := 0) hyc rfl
                  have hcg : cln g = true := clnAll_get (ds := [t, g]) (i := 1) hyc rfl
                  refine ag_name (as_seq (as_if (b := false) (et_or (a := false) (b := false) (et_not (a := true) (et_B (ev_isi (ev_var rfl) hb3 (cln_no hyc)))) fun _ => et_test (ev_op (ev_cb (ea_cons (ev_var rfl) ea_nil) rc_lenT) ev_int (rd_ne rfl rfl))) (fun z => by cases z) (fun _ => as_next ?_)))
                  refine as_if (et_or (et_not (et_B (ev_call (ea_cons (ev_op (ev_var rfl) ev_int (rd_ixT rfl)) (ea_cons (ev_op (ev_var rfl) ev_int (rd_ixT rfl)) ea_nil)) ⟨t, s, rfl, hct, rfl⟩))) fun _ => et_not (et_B (ev_call (ea_cons (ev_op (ev_var rfl) ev_int (rd_ixT rfl)) (ea_cons (ev_op (ev_var rfl) ev_int (rd_ixT rfl)) ea_nil)) ⟨g, s, rfl, hcg, rfl⟩))) (fun hq => as_ret ev_bl ?_) (fun hq => as_next ⟨_, rfl, fun j w hj hw => ?_⟩)
                  · show Out.rt _ = Out.rt _
                    rw [bad]
                    show (tokB s t && tokB s g) = false
                    revert hq
                    cases tokB s t <;> cases tokB s g <;> simp
                  · rcases Nat.lt_or_eq_of_le (Nat.le_of_lt_succ hj) with q | q
                    · exact hp j w q hw
                    · subst q
                      rw [hy'] at hw
                      cases hw
                      show (tokB s t && tokB s g) = true
                      revert hq
                      cases tokB s t <;> cases tokB s g <;> simp
                · refine ag_name (as_seq (as_if (b := true) (et_to (et_or (a := false) (et_not (a := true) (et_B (ev_isi (ev_var rfl) hb3 (cln_no hyc)))) fun _ => et_test (ev_op (ev_cb (ea_cons (ev_var rfl) ea_nil) rc_lenT) ev_int (rd_ne rfl rfl))) (by rw [eqv_two, decide_eq_false h3]; rfl)) (fun _ => as_ret ev_bl ?_) (fun z => by cases z)))
                  show Out.rt _ = Out.rt _
                  rw [bad (mvB_no fun a b e => h3 (by cases e; rfl))]
            · obtain ⟨z, rfl, hp⟩ := hp
              refine as_ret ev_bl ?_
              show Out.rt _ = Out.rt _
              have : ms.all (mvB s) = true := by
                rw [List.all_eq_true]
                intro y hy'
                obtain ⟨j, hj, e⟩ := List.getElem_of_mem hy'
                exact hp j y hj (by rw [List.getElem?_eq_getElem hj, e])
              rw [this]
    · refine as_seq (as_if (b := true) (et_to (et_or (a := false) (b := true) (et_not (a := true) (et_B (ev_isi (ev_var rfl) hb (cln_no hc)))) fun _ => et_or (a := true) (b := true) (et_to (et_test (ev_op (ev_cb (ea_cons (ev_var rfl) ea_nil) rc_lenT) ev_int (rd_ne rfl rfl))) (by rw [eqv_two, decide_eq_false h2]; rfl)) fun z => by cases z) rfl) (fun _ => as_ret ev_bl ?_) (fun z => by cases z))
      show Out.rt _ = Out.rt _
      rw [netB_no fun a b e => h2 (by cases e; rfl)]

def digO (a : Addr) (w : Str) : Out := match digS w with
  | some d => .rt (.int d)
  | none => .ex (.ref a)
def F_number_of (a_NoText : Addr) (ds : List PyData) (o : Out) : Prop := ∃ w, ds = [.str w] ∧ w.length ≤ 100000 ∧ o = digO a_NoText w
theorem len_number_of (a_NoText : Addr) : ∀ ds o, F_number_of a_NoText ds o → ds.length = 1 := fun _ _ ⟨_, h, _⟩ => by rw [h]; rfl
/-! number_of: slots 0 word (1) -/
def t_number_of (K : PySem.W.Frag) (E : XK) (a_NoText : Addr) : TS :=
    (tSeq (tIfS (tOr (tTest (tOp (rNeD K) (tCB (rLenA K) (tCons (tVar 0) tNil)) (tC (.int 1)))) (tTest (tOp rNotSub (tVar 0) (tC (.str (PySem.Str.ofString "0123456789")))))) (tRz E (.ref a_NoText)) tNext)
    (tRet (tCB (rIntS) (tCons (tVar 0) tNil))))

theorem sem_number_of {K : PySem.W.Frag} {E : XK} (a_NoText : Addr) {ds : List PyData} {o : Out} (h : F_number_of a_NoText ds o) : As K E (t_number_of K E a_NoText) (slots0 1 ds) (finP o) := by
  obtain ⟨w, rfl, hl, rfl⟩ := h
  unfold digO
  refine as_seq (as_if (et_bad (w := w) (fun _ _ => trivial) (ev_var rfl) hl) (fun z => ?_) (fun z => as_next ?_))
  · cases e : digS w with
    | none => exact as_raise rfl
    | some d => rw [e] at z; cases z
  · cases e : digS w with
    | none => rw [e] at z; cases z
    | some d => exact as_ret (ev_cb (ea_cons (ev_var (x := .str w) rfl) ea_nil) (rc_intD e)) rfl

def rowO (a : Addr) (ws : List Str) : Out := match rowS ws with
  | some r => .rt (rowD r)
  | none => .ex (.ref a)
def F_row_of (a_NoText : Addr) (ds : List PyData) (o : Out) : Prop := ∃ ws : List Str, ds = [.list (ws.map .str)] ∧ ws.length ≤ 100000 ∧ (∀ w ∈ ws, w.length ≤ 100000) ∧ o = rowO a_NoText ws
theorem len_row_of (a_NoText : Addr) : ∀ ds o, F_row_of a_NoText ds o → ds.length = 1 := fun _ _ ⟨_, h, _⟩ => by rw [h]; rfl
theorem strs_get {ws : List Str} {i : Nat} {d : PyData} (h : (ws.map PyData.str)[i]? = some d) : ∃ w, ws[i]? = some w ∧ d = .str w := by
  rw [List.getElem?_map] at h
  cases e : ws[i]? with
  | none => rw [e] at h; cases h
  | some w =>
    rw [e] at h
    exact ⟨w, rfl, (Option.some.inj h).symm⟩
/-! row_of: slots 0 words, 1 word (2) -/
def t_row_of (K : PySem.W.Frag) (E : XK) (a_NoText : Addr) : TS :=
    (tRet (tCB (rTupA K) (tCons (tLc (iList K (tVar 0)) (gName 1) tYes (tCallS (SpD K (F_number_of a_NoText)) (WE (fun cls d _ H => E cls d H)) (tCons (tVar 1) tNil)) [1]) tNil)))

theorem sem_row_of {K : PySem.W.Frag} {E : XK} (a_NoText : Addr) {ds : List PyData} {o : Out} (h : F_row_of a_NoText ds o) : As K E (t_row_of K E a_NoText) (slots0 2 ds) (finP o) := by
  obtain ⟨ws, rfl, hl, hw, rfl⟩ := h
  unfold rowO
  have call : ∀ {δ : List Sl} {w : Str}, w ∈ ws → δ[1]? = some (.d (.str w)) → ∀ {d : Int}, digS w = some d → Ev K (tCallS (SpD K (F_number_of a_NoText)) (WE (fun cls d _ H => E cls d H)) (tCons (tVar 1) tNil)) δ (.int d) := fun {δ w} hm e {d} hd =>
    ev_call (ea_cons (ev_var e) ea_nil) ⟨_, rfl, hw _ hm, by unfold digO; rw [hd]⟩
  have callX : ∀ {δ : List Sl} {w : Str}, w ∈ ws → δ[1]? = some (.d (.str w)) → digS w = none → EvX K E (tCallS (SpD K (F_number_of a_NoText)) (WE (fun cls d _ H => E cls d H)) (tCons (tVar 1) tNil)) δ (.ref a_NoText) := fun {δ w} hm e hd =>
    ex_call (ea_cons (ev_var e) ea_nil) ⟨_, rfl, hw _ hm, by unfold digO; rw [hd]⟩
  cases hr : rowS ws with
  | some r =>
    rw [rowS_all] at hr
    have hrl := allS_len hr
    refine as_ret (ev_to (ev_cb (ea_cons (en_map (fun i => .int (r.getD i 0)) (ei_list (xs := ws.map .str) (ev_var rfl)) (by rw [List.length_map]; exact small_line hl) (gw1 1) (fun i d he => ?_)).ev ea_nil) rc_tup) ?_) rfl
    · obtain ⟨w, hi, rfl⟩ := strs_get he
      obtain ⟨d, h1, h2⟩ := allS_get hr hi
      rw [getD_of h2]
      exact ag_name (call (List.mem_of_getElem? hi) rfl h1)
    · rw [List.length_map, ← hrl, map_range r 0 fun x => PyData.int x]
      rfl
  | none =>
    rw [rowS_all] at hr
    obtain ⟨k, w, h1, h2, h3⟩ := allS_no hr
    have hk : k < ws.length := (List.getElem?_eq_some_iff.mp h1).1
    refine as_retX (ex_cb (eax_head (ex_lc (k := k) (by rw [List.length_map]; exact hk) (fun i => .int ((digS (ws.getD i spS)).getD 0)) (ei_list (xs := ws.map .str) (ev_var rfl)) (by rw [List.length_map]; exact small_line hl) (gw1 1) (fun i d he hik => ?_)))) rfl
    obtain ⟨v, hi, rfl⟩ := strs_get he
    refine ag_name ⟨fun hlt => ?_, fun heq => ?_⟩
    · obtain ⟨a, ha⟩ := h3 i v hlt hi
      rw [List.getD_eq_getElem?_getD, hi, Option.getD_some, ha]
      exact call (List.mem_of_getElem? hi) rfl ha
    · subst heq
      rw [hi] at h1
      cases h1
      exact callX (List.mem_of_getElem? hi) rfl h2

def moveO (a : Addr) (x : Str) : Out := match readWords (sp1 x) with
  | some m => .rt (moveD m)
  | none => .ex (.ref a)
def F_move_of (a_NoText : Addr) (ds : List PyData) (o : Out) : Prop := ∃ x, ds = [.str x] ∧ x.length ≤ 90000 ∧ o = moveO a_NoText x
theorem len_move_of (a_NoText : Addr) : ∀ ds o, F_move_of a_NoText ds o → ds.length = 1 := fun _ _ ⟨_, h, _⟩ => by rw [h]; rfl
theorem strs_take (ws : List Str) (k : Nat) : (ws.map PyData.str).take k = (ws.take k).map .str := by rw [List.map_take]
theorem strs_drop (ws : List Str) (k : Nat) : (ws.map PyData.str).drop k = (ws.drop k).map .str := by rw [List.map_drop]
/-! move_of: slots 0 piece, 1 words, 2 at (3) -/
def t_move_of (K : PySem.W.Frag) (E : XK) (a_NoText : Addr) : TS :=
    (tSeq (tAsg (tBM K "str" rSplitA (tVar 0) (tCons (tC (.str (PySem.Str.ofString " "))) tNil)) (gName 1))
    (tSeq (tIfS (tTest (tOp (rIn K true) (tC (.str (PySem.Str.ofString ">"))) (tVar 1))) (tRz E (.ref a_NoText)) tNext)
    (tSeq (tAsg (tBM K "list" (rIndex K) (tVar 1) (tCons (tC (.str (PySem.Str.ofString ">"))) tNil)) (gName 2))
    (tRet (tTup (tCons (tCallS (SpD K (F_row_of a_NoText)) (WE (fun cls d _ H => E cls d H)) (tCons (tSl (rSlAll K) (tVar 1) tNoPart (tPart (tVar 2))) tNil)) (tCons (tCallS (SpD K (F_row_of a_NoText)) (WE (fun cls d _ H => E cls d H)) (tCons (tSl (rSlAll K) (tVar 1) (tPart (tOp (rAddA K) (tVar 2) (tC (.int 1)))) tNoPart) tNil)) tNil)))))))

theorem sem_move_of {K : PySem.W.Frag} {E : XK} (a_NoText : Addr) {ds : List PyData} {o : Out} (h : F_move_of a_NoText ds o) : As K E (t_move_of K E a_NoText) (slots0 3 ds) (finP o) := by
  obtain ⟨x, rfl, hl, rfl⟩ := h
  unfold moveO
  refine as_seq (as_set (x := .list ((sp1 x).map .str)) (en_split (z := x) (b := spS) (ev_var rfl) ev_str (by decide) (small_line (by omega))).ev ?_)
  have hww : ∀ w ∈ sp1 x, w.length ≤ 100000 := fun w hw => by
    have := split_sp hw
    omega
  have hwl : (sp1 x).length ≤ 100000 := by
    have := PyProof.Rows.split_le x spS
    unfold sp1
    omega
  generalize hws : sp1 x = ws at hww hwl
  refine as_seq (as_if (et_test (ev_op (x := .str gtS) ev_str (ev_var (x := .list (ws.map .str)) rfl) rd_notInS2)) (fun z => ?_) (fun z => as_next ?_))
  · have hn : gtS ∉ ws := of_decide_eq_true z
    have e : readWords ws = none := by
      unfold readWords
      rw [List.findIdx?_eq_none_iff.mpr (fun w hw => by simp; exact fun q => hn (q ▸ hw))]
    rw [e]
    exact as_raise rfl
  · have hm : gtS ∈ ws := by
      apply Classical.byContradiction
      intro q
      rw [decide_eq_true q] at z
      cases z
    cases hk : ws.findIdx? (fun w => decide (w = gtS)) with
    | none =>
      have := List.findIdx?_eq_none_iff.mp hk gtS hm
      simp at this
    | some k =>
      have hk' := List.findIdx?_eq_some_iff_getElem.mp hk
      obtain ⟨hlt, hg, hno⟩ := hk'
      have hgk : ws[k]? = some gtS := by rw [List.getElem?_eq_getElem hlt, of_decide_eq_true hg]
      refine as_seq (as_set (x := .int (k : Nat)) (ev_index (ys := ws) (ev_var rfl) (y := gtS) ev_str hgk (fun m hmk w hw q => ?_)) ?_)
      · obtain ⟨hml, e⟩ := List.getElem?_eq_some_iff.mp hw
        have := hno m hmk
        rw [e, decide_eq_true q] at this
        exact this rfl
      have s1 : ∀ {δ : List Sl}, δ[1]? = some (.d (.list (ws.map .str))) → δ[2]? = some (.d (.int (k : Nat))) → EvA K (tCons (tSl (rSlAll K) (tVar 1) tNoPart (tPart (tVar 2))) tNil) δ [.list ((ws.take k).map .str)] := fun a b =>
        ea_cons (ev_to (en_slL (ev_var a) eo_none (eo_some (ev_var b))).ev (by rw [cut_take, strs_take])) ea_nil
      have s2 : ∀ {δ : List Sl}, δ[1]? = some (.d (.list (ws.map .str))) → δ[2]? = some (.d (.int (k : Nat))) → EvA K (tCons (tSl (rSlAll K) (tVar 1) (tPart (tOp (rAddA K) (tVar 2) (tC (.int 1)))) tNoPart) tNil) δ [.list ((ws.drop (k + 1)).map .str)] := fun a b =>
        ea_cons (ev_to (en_slL (ev_var a) (eo_some (ev_op (ev_var b) ev_int rd_plus)) eo_none).ev (by
          rw [show cutD (ws.map PyData.str) (some ((k : Int) + 1)) none = (ws.map PyData.str).drop (k + 1) from cut_drop (k := k + 1), strs_drop])) ea_nil
      have b1 : (ws.take k).length ≤ 100000 := by rw [List.length_take]; omega
      have b2 : (ws.drop (k + 1)).length ≤ 100000 := by rw [List.length_drop]; omega
      have w1 : ∀ w ∈ ws.take k, w.length ≤ 100000 := fun w h => hww w (List.mem_of_mem_take h)
      have w2 : ∀ w ∈ ws.drop (k + 1), w.length ≤ 100000 := fun w h => hww w (List.mem_of_mem_drop h)
      have hR : readWords ws = match rowS (ws.take k), rowS (ws.drop (k + 1)) with | some a, some b => some (a, b) | _, _ => none := by
        unfold readWords
        rw [hk]
        try rfl
      rw [hR]
      cases r1 : rowS (ws.take k) with
      | none => exact as_retX (ex_tup (eax_head (ex_call (s1 rfl rfl) ⟨_, rfl, b1, w1, by unfold rowO; rw [r1]⟩))) rfl
      | some a =>
        have c1 : ∀ {δ : List Sl}, δ[1]? = some (.d (.list (ws.map .str))) → δ[2]? = some (.d (.int (k : Nat))) → Ev K (tCallS (SpD K (F_row_of a_NoText)) (WE (fun cls d _ H => E cls d H)) (tCons (tSl (rSlAll K) (tVar 1) tNoPart (tPart (tVar 2))) tNil)) δ (rowD a) := fun p q =>
          ev_call (s1 p q) ⟨_, rfl, b1, w1, by unfold rowO; rw [r1]⟩
        cases r2 : rowS (ws.drop (k + 1)) with
        | none => exact as_retX (ex_tup (eax_tail (c1 rfl rfl) (eax_head (ex_call (s2 rfl rfl) ⟨_, rfl, b2, w2, by unfold rowO; rw [r2]⟩)))) rfl
        | some b => exact as_ret (ev_tup (ea_cons (c1 rfl rfl) (ea_cons (ev_call (s2 rfl rfl) ⟨_, rfl, b2, w2, by unfold rowO; rw [r2]⟩) ea_nil)) (by show 2 ≤ sizeLine; decide)) rfl

/-! ### the two readers -/
def readNet (x : Str) : Option (Nat × List (List Int × List Int)) := match Txt.split x sp3S with
  | [] => none
  | p :: ps => match digS p, allS (fun q => readWords (sp1 q)) ps with
    | some n, some ms => if netB (netD n.toNat ms) then some (n.toNat, ms) else none
    | _, _ => none
def lawNet (x : Str) : Option (Nat × List (List Int × List Int)) := match Txt.split x sp3S with
  | [] => none
  | p :: ps => match digS p with
    | none => none
    | some n => if n < 1 ∨ 6 < n ∨ 11 < ps.length + 1 then none else match allS (fun q => lawWords n.toNat (sp1 q)) ps with
      | none => none
      | some ms => some (n.toNat, ms)
theorem readW_dig {ws : List Str} {m : List Int × List Int} (h : readWords ws = some m) : (∀ x ∈ m.1, 0 ≤ x ∧ x ≤ 9) ∧ ∀ x ∈ m.2, 0 ≤ x ∧ x ≤ 9 := by
  unfold readWords at h
  split at h
  · cases h
  · obtain ⟨h1, h2⟩ := both_rows.mp h
    exact ⟨rowS_dig h1, rowS_dig h2⟩
theorem tokB_iff {n : Nat} {r : List Int} (h : ∀ x ∈ r, 0 ≤ x ∧ x ≤ 9) : tokB n (rowD r) = decide (r.length = n) := by
  show (decide (((r.map PyData.int).length : Int) = n) && (r.map PyData.int).all fun d => inB d 0 9) = _
  have e : ((r.map PyData.int).all fun d => inB d 0 9) = true := by
    rw [List.all_map, List.all_eq_true]
    intro x hx
    have := h x hx
    show (decide ((0 : Int) ≤ x) && decide (x ≤ 9)) = true
    rw [decide_eq_true this.1, decide_eq_true this.2]
    rfl
  rw [e, Bool.and_true, List.length_map]
  by_cases h : r.length = n
  · rw [decide_eq_true h, decide_eq_true (by omega)]
  · rw [decide_eq_false h, decide_eq_false (by omega)]
theorem netB_iff {n : Nat} {ms : List (List Int × List Int)} (h : ∀ m ∈ ms, (∀ x ∈ m.1, 0 ≤ x ∧ x ≤ 9) ∧ ∀ x ∈ m.2, 0 ≤ x ∧ x ≤ 9) : netB (netD n ms) = true ↔ (1 ≤ n ∧ n ≤ 6 ∧ ms.length ≤ 10) ∧ ∀ m ∈ ms, m.1.length = n ∧ m.2.length = n := by
  have e : netB (netD n ms) = ((decide ((1 : Int) ≤ (n : Int)) && decide ((n : Int) ≤ 6)) && (decide ((ms.map moveD).length ≤ 10) && (ms.map moveD).all (mvB n))) := rfl
  have e2 : (ms.map moveD).all (mvB n) = true ↔ ∀ m ∈ ms, m.1.length = n ∧ m.2.length = n := by
    rw [List.all_map, List.all_eq_true]
    refine forall_congr' fun m => forall_congr' fun hm => ?_
    show (tokB n (rowD m.1) && tokB n (rowD m.2)) = true ↔ _
    rw [tokB_iff (h m hm).1, tokB_iff (h m hm).2, Bool.and_eq_true, decide_eq_true_eq, decide_eq_true_eq]
  rw [e, Bool.and_eq_true, Bool.and_eq_true, Bool.and_eq_true, e2, decide_eq_true_eq, decide_eq_true_eq, decide_eq_true_eq, List.length_map]
  constructor
  · rintro ⟨⟨a, b⟩, c, d⟩
    exact ⟨⟨by omega, by omega, c⟩, d⟩
  · rintro ⟨⟨a, b, c⟩, d⟩
    exact ⟨⟨by omega, by omega⟩, c, d⟩
theorem readers_same (x : Str) : lawNet x = readNet x := by
  unfold lawNet readNet
  split
  · rfl
  · rename_i p ps hp
    cases hd : digS p with
    | none => rfl
    | some n =>
      have hr := dig_range hd
      dsimp only
      cases hR : allS (fun q => readWords (sp1 q)) ps with
      | none =>
        dsimp only
        split
        · rfl
        · cases hL : allS (fun q => lawWords n.toNat (sp1 q)) ps with
          | none => rfl
          | some ms =>
            have := (all_same.mp hL).1
            rw [hR] at this
            cases this
      | some ms =>
        have hdig : ∀ m ∈ ms, (∀ x ∈ m.1, 0 ≤ x ∧ x ≤ 9) ∧ ∀ x ∈ m.2, 0 ≤ x ∧ x ≤ 9 := fun m hm => by
          obtain ⟨i, hi, rfl⟩ := List.getElem_of_mem hm
          have hl := allS_len hR
          obtain ⟨a, q1, q2⟩ := allS_get hR (List.getElem?_eq_getElem (by omega : i < ps.length))
          rw [List.getElem?_eq_getElem hi] at q2
          cases q2
          exact readW_dig q1
        have hN := netB_iff (n := n.toNat) hdig
        have hl := allS_len hR
        dsimp only
        by_cases hc : n < 1 ∨ 6 < n ∨ 11 < ps.length + 1
        · rw [if_pos hc, if_neg (fun z => by
            have := (hN.mp z).1
            omega)]
        · rw [if_neg hc]
          cases hL : allS (fun q => lawWords n.toNat (sp1 q)) ps with
          | none =>
            dsimp only
            rw [if_neg (fun z => by
              have := all_same.mpr ⟨hR, (hN.mp z).2⟩
              rw [hL] at this
              cases this)]
          | some ms' =>
            obtain ⟨q1, q2⟩ := all_same.mp hL
            rw [hR] at q1
            cases q1
            dsimp only
            rw [if_pos (hN.mpr ⟨⟨by omega, by omega, by omega⟩, q2⟩)]
def readO (a : Addr) : PyData → Out
  | .str x => match readNet x with
    | some (n, ms) => .rt (netD n ms)
    | none => .ex (.ref a)
  | _ => .ex (.ref a)
def F_read (a_NoText : Addr) (ds : List PyData) (o : Out) : Prop := ∃ d, ds = [d] ∧ cln d = true ∧ (∀ x, d = .str x → x.length ≤ 50000) ∧ o = readO a_NoText d
theorem len_read (a_NoText : Addr) : ∀ ds o, F_read a_NoText ds o → ds.length = 1 := fun _ _ ⟨_, h, _⟩ => by rw [h]; rfl
theorem readO_no {a : Addr} {d : PyData} (h : ∀ x, d ≠ .str x) : readO a d = .ex (.ref a) := by
  cases d with
  | str x => exact absurd rfl (h x)
  | _ => rfl
/-! read: slots 0 text, 1 pieces, 2 net, 3 piece (4) -/
def t_read (K : PySem.W.Frag) (E : XK) (a_NoText : Addr) : TS :=
    (tSeq (tIfS (tNot (tB (tCB (rIsi K) (tCons (tVar 0) (tCons (tC (.ty "str")) tNil))))) (tRz E (.ref a_NoText)) tNext)
    (tSeq (tAsg (tBM K "str" rSplitA (tVar 0) (tCons (tC (.str (PySem.Str.ofString " ; "))) tNil)) (gName 1))
    (tSeq (tAsg (tTup (tCons (tCallS (SpD K (F_number_of a_NoText)) (WE (fun cls d _ H => E cls d H)) (tCons (tOp (rIx K) (tVar 1) (tC (.int 0))) tNil)) (tCons (tCB (rTupA K) (tCons (tLc (iList K (tSl (rSlAll K) (tVar 1) (tPart (tC (.int 1))) tNoPart)) (gName 3) tYes (tCallS (SpD K (F_move_of a_NoText)) (WE (fun cls d _ H => E cls d H)) (tCons (tVar 3) tNil)) [3]) tNil)) tNil))) (gName 2))
    (tSeq (tIfS (tNot (tB (tCallS (SpD K F_is_net) (WE (fun cls d _ H => E cls d H)) (tCons (tVar 2) tNil)))) (tRz E (.ref a_NoText)) tNext)
    (tRet (tVar 2))))))

theorem sem_read {K : PySem.W.Frag} {E : XK} (a_NoText : Addr) {ds : List PyData} {o : Out} (h : F_read a_NoText ds o) : As K E (t_read K E a_NoText) (slots0 4 ds) (finP o) := by
  obtain ⟨d, rfl, hc, hl, rfl⟩ := h
  obtain ⟨b, hb, h1, h2⟩ := kit_str d (cln_no hc)
  refine as_seq (as_if (et_not (et_B (ev_isi (x := d) (ev_var rfl) hb (cln_no hc)))) (fun z => ?_) (fun z => as_next ?_))
  · cases b with
    | true => cases z
    | false =>
      rw [readO_no (h2 rfl)]
      exact as_raise rfl
  · cases b with
    | false => cases z
    | true =>
      obtain ⟨x, rfl⟩ := h1 rfl
      have hxl := hl x rfl
      show As K E _ _ (finP (match readNet x with | some (n, ms) => .rt (netD n ms) | none => .ex (.ref a_NoText)))
      refine as_seq (as_set (x := .list ((Txt.split x sp3S).map .str)) (en_split (z := x) (b := sp3S) (ev_var rfl) ev_str (by decide) (small_line (by omega))).ev ?_)
      have hne : Txt.split x sp3S ≠ [] := split_ne (by decide +kernel) (TL.kind_ok (by decide +kernel))
      have hww : ∀ w ∈ Txt.split x sp3S, w.length ≤ 50000 := fun w hw => by
        have := split_sp3 hw
        omega
      have hwl : (Txt.split x sp3S).length ≤ 100000 := by
        have := PyProof.Rows.split_le x sp3S
        omega
      unfold readNet
      generalize hws : Txt.split x sp3S = ws at hww hwl hne
      cases ws with
      | nil => exact absurd rfl hne
      | cons p ps =>
        dsimp only
        have hp := hww p List.mem_cons_self
        have e0 : ∀ {δ : List Sl}, δ[1]? = some (.d (.list ((p :: ps).map .str))) → EvA K (tCons (tOp (rIx K) (tVar 1) (tC (.int 0))) tNil) δ [.str p] := fun a => ea_cons (ev_op (x := .list ((p :: ps).map .str)) (z := .str p) (ev_var a) ev_int (rd_ixL (at_nat (j := 0) rfl))) ea_nil
        cases hd : digS p with
        | none => exact as_seq (as_setX (i := 0) (ex_tup (eax_head (ex_call (e0 rfl) ⟨_, rfl, by omega, by unfold digO; rw [hd]⟩))) rfl)
        | some n =>
          have hr := dig_range hd
          have cn : ∀ {δ : List Sl}, δ[1]? = some (.d (.list ((p :: ps).map .str))) → Ev K (tCallS (SpD K (F_number_of a_NoText)) (WE (fun cls d _ H => E cls d H)) (tCons (tOp (rIx K) (tVar 1) (tC (.int 0))) tNil)) δ (.int n) := fun a => ev_call (e0 a) ⟨_, rfl, by omega, by unfold digO; rw [hd]⟩
          have it : ∀ {δ : List Sl}, δ[1]? = some (.d (.list ((p :: ps).map .str))) → EvI K (iList K (tSl (rSlAll K) (tVar 1) (tPart (tC (.int 1))) tNoPart)) δ (ps.map .str) := fun a => ei_list (ev_to (en_slL (xs := (p :: ps).map .str) (ev_var a) (eo_some ev_int) eo_none).ev (by
            rw [show cutD ((p :: ps).map PyData.str) (some 1) none = ((p :: ps).map PyData.str).drop 1 from cut_drop (k := 1)]
            rfl))
          have hpl : ps.length ≤ 100000 := by rw [List.length_cons] at hwl; omega
          have call : ∀ {δ : List Sl} {w : Str}, w ∈ ps → δ[3]? = some (.d (.str w)) → ∀ {m : List Int × List Int}, readWords (sp1 w) = some m → Ev K (tCallS (SpD K (F_move_of a_NoText)) (WE (fun cls d _ H => E cls d H)) (tCons (tVar 3) tNil)) δ (moveD m) := fun {δ w} hm e {m} hd =>
            ev_call (ea_cons (ev_var e) ea_nil) ⟨_, rfl, by have := hww w (List.mem_cons_of_mem _ hm); omega, by unfold moveO; rw [hd]⟩
          have callX : ∀ {δ : List Sl} {w : Str}, w ∈ ps → δ[3]? = some (.d (.str w)) → readWords (sp1 w) = none → EvX K E (tCallS (SpD K (F_move_of a_NoText)) (WE (fun cls d _ H => E cls d H)) (tCons (tVar 3) tNil)) δ (.ref a_NoText) := fun {δ w} hm e hd =>
            ex_call (ea_cons (ev_var e) ea_nil) ⟨_, rfl, by have := hww w (List.mem_cons_of_mem _ hm); omega, by unfold moveO; rw [hd]⟩
          cases hm : allS (fun q => readWords (sp1 q)) ps with
          | none =>
            obtain ⟨k, w, h1, h2, h3⟩ := allS_no hm
            have hk : k < ps.length := (List.getElem?_eq_some_iff.mp h1).1
            refine as_seq (as_setX (i := 0) (ex_tup (eax_tail (cn rfl) (eax_head (ex_cb (eax_head (ex_lc (k := k) (by rw [List.length_map]; exact hk) (fun i => moveD ((readWords (sp1 (ps.getD i spS))).getD ([], []))) (it rfl) (by rw [List.length_map]; exact small_line hpl) (gw1 3) (fun i d he hik => ?_))))))) rfl)
            obtain ⟨v, hi, rfl⟩ := strs_get he
            refine ag_name ⟨fun hlt => ?_, fun heq => ?_⟩
            · obtain ⟨a, ha⟩ := h3 i v hlt hi
              rw [List.getD_eq_getElem?_getD, hi, Option.getD_some, ha]
              exact call (List.mem_of_getElem? hi) rfl ha
            · subst heq
              rw [hi] at h1
              cases h1
              exact callX (List.mem_of_getElem? hi) rfl h2
          | some ms =>
            have hml := allS_len hm
            have en : (n.toNat : Int) = n := by omega
            refine as_seq (as_set (x := netD n.toNat ms) (ev_to (x := .tuple [.int n, .tuple (ms.map moveD)]) (ev_tup (ea_cons (cn rfl) (ea_cons (ev_to (y := .tuple (ms.map moveD)) (ev_cb (ea_cons (en_map (fun i => moveD (ms.getD i ([], []))) (it rfl) (by rw [List.length_map]; exact small_line hpl) (gw1 3) (fun i d he => ?_)).ev ea_nil) rc_tup) ?_) ea_nil)) (by show 2 ≤ sizeLine; decide)) (y := netD n.toNat ms) ?_) ?_)
            · obtain ⟨w, hi, rfl⟩ := strs_get he
              obtain ⟨m, q1, q2⟩ := allS_get hm hi
              rw [List.getD_eq_getElem?_getD, q2, Option.getD_some]
              exact ag_name (call (List.mem_of_getElem? hi) rfl q1)
            · rw [List.length_map, ← hml, map_range ms ([], []) moveD]
            · unfold netD
              rw [en]
            dsimp only
            refine as_seq (as_if (et_not (et_B (ev_call (ea_cons (ev_var (x := netD n.toNat ms) rfl) ea_nil) ⟨_, rfl, cln_net _ _, rfl⟩))) (fun z => ?_) (fun z => as_next ?_))
            · cases hN : netB (netD n.toNat ms) with
              | true => rw [hN] at z; cases z
              | false =>
                rw [if_neg (by decide)]
                exact as_raise rfl
            · cases hN : netB (netD n.toNat ms) with
              | false => rw [hN] at z; cases z
              | true =>
                rw [if_pos rfl]
                exact as_ret (ev_var rfl) rfl

def F_cell_at_l (ds : List PyData) (o : Out) : Prop := ∃ ns k, ds = [scrD ns, .int k] ∧ 0 ≤ k ∧ o = .rt (.int (cellF ns k))
theorem len_cell_at_l : ∀ ds o, F_cell_at_l ds o → ds.length = 2 := fun _ _ ⟨_, _, h, _⟩ => by rw [h]; rfl
/-! cell_at_l: slots 0 _law_script, 1 _law_k (2) -/
def t_cell_at_l (K : PySem.W.Frag) (E : XK)  : TS :=
    (tSeq (tIfS (tTest (tOp rLtA (tVar 1) (tCB (rLenA K) (tCons (tVar 0) tNil)))) (tRet (tOp (rIx K) (tVar 0) (tVar 1))) tNext)
    (tSeq (tIfS (tTest (tOp (rEqD K) (tVar 0) (tLst tNil))) (tRet (tC (.int 0))) tNext)
    (tRet (tOp (rAddA K) (tOp (rMulA K) (tOp (rIx K) (tVar 0) (tOp rModA (tVar 1) (tCB (rLenA K) (tCons (tVar 0) tNil)))) (tC (.int 31))) (tVar 1)))))

theorem sem_cell_at_l {K : PySem.W.Frag} {E : XK} {ds : List PyData} {o : Out} (h : F_cell_at_l ds o) : As K E (t_cell_at_l K E) (slots0 2 ds) (finP o) := by
  obtain ⟨ns, k, rfl, h0, rfl⟩ := h
  refine as_seq (as_if (et_test (ev_op (ev_var rfl) (ev_cb (ea_cons (ev_var (x := scrD ns) rfl) ea_nil) rc_lenZ) rd_lt)) (fun hb => as_ret (ev_op (ev_var (x := scrD ns) rfl) (ev_var rfl) (rd_ixZ (at_getD h0 (of_decide_eq_true hb)))) ?_) (fun hb => as_next ?_))
  · show Out.rt _ = Out.rt _
    unfold cellF
    rw [if_pos (of_decide_eq_true hb)]
  · have hk := of_decide_eq_false hb
    refine as_seq (as_if (et_test (ev_op (ev_var (x := scrD ns) rfl) (en_lst ea_nil (by decide)).ev rd_eqZ)) (fun he => as_ret ev_int ?_) (fun he => as_next ?_))
    · show Out.rt _ = Out.rt _
      have e : ns = [] := by
        cases ns with
        | nil => rfl
        | cons a r => cases (show false = true from he)
      unfold cellF
      rw [if_neg hk, if_pos e]
    · have e : ns ≠ [] := fun z => by
        subst z
        cases (show true = false from he)
      have hl : 0 < (ns.length : Int) := by
        cases ns with
        | nil => exact absurd rfl e
        | cons a r =>
          rw [List.length_cons]
          omega
      refine as_ret (ev_op (ev_op (ev_op (ev_var (x := scrD ns) rfl) (ev_op (ev_var rfl) (ev_cb (ea_cons (ev_var (x := scrD ns) rfl) ea_nil) rc_lenZ) (rd_mod hl)) (rd_ixZ (at_getD (Int.emod_nonneg _ (by omega)) (Int.emod_lt_of_pos _ hl)))) ev_int (rd_timesB (.inr ⟨by decide, by decide⟩))) (ev_var rfl) rd_plus) ?_
      show Out.rt _ = Out.rt _
      unfold cellF
      rw [if_neg hk, if_neg e]

def F_mixed_l (ds : List PyData) (o : Out) : Prop := ∃ ns k many, ds = [scrD ns, .int k, .int many] ∧ 0 ≤ k ∧ k < 1000 ∧ 0 < many ∧ o = .rt (.int (mixedF ns k many))
theorem len_mixed_l : ∀ ds o, F_mixed_l ds o → ds.length = 3 := fun _ _ ⟨_, _, _, h, _⟩ => by rw [h]; rfl
/-! mixed_l: slots 0 _law_script, 1 _law_k, 2 _law_many, 3 _law_drawn (4) -/
def t_mixed_l (K : PySem.W.Frag) (E : XK)  : TS :=
    (tSeq (tAsg (tOp rModA (tOp (rMulA K) (tOp (rAddA K) (tOp (rAddA K) (tCallS (SpD K F_cell_at_l) (WE (fun cls d _ H => E cls d H)) (tCons (tVar 0) (tCons (tVar 1) tNil))) (tOp (rMulA K) (tC (.int 7919)) (tVar 1))) (tC (.int 1))) (tC (.int 48271))) (tC (.int 2147483647))) (gName 3))
    (tRet (tOp rModA (tOp rModA (tOp (rAddA K) (tOp (rAddA K) (tOp (rMulA K) (tVar 3) (tVar 3)) (tOp (rMulA K) (tC (.int 7)) (tVar 3))) (tVar 1)) (tC (.int 2147483629))) (tVar 2))))

theorem sem_mixed_l {K : PySem.W.Frag} {E : XK} {ds : List PyData} {o : Out} (h : F_mixed_l ds o) : As K E (t_mixed_l K E) (slots0 4 ds) (finP o) := by
  obtain ⟨ns, k, many, rfl, h0, h1, hm, rfl⟩ := h
  refine as_seq (as_set (ev_op (ev_op (ev_op (ev_op (ev_call (ea_cons (ev_var (x := scrD ns) rfl) (ea_cons (ev_var rfl) ea_nil)) ⟨ns, k, rfl, h0, rfl⟩) (ev_op ev_int (ev_var rfl) (rd_timesB (.inl ⟨by decide, by decide⟩))) rd_plus) ev_int rd_plus) ev_int (rd_timesB (.inr ⟨by decide, by decide⟩))) ev_int (rd_mod (by decide))) ?_)
  have b0 := drawn_lo ns k
  have b1 := drawn_hi ns k
  have e : (cellF ns k + 7919 * k + 1) * 48271 % 2147483647 = drawnF ns k := rfl
  rw [e]
  refine as_ret (ev_op (ev_op (ev_op (ev_op (ev_op (ev_var rfl) (ev_var rfl) (rd_timesB (.inl ⟨by omega, by omega⟩))) (ev_op ev_int (ev_var rfl) (rd_timesB (.inl ⟨by decide, by decide⟩))) rd_plus) (ev_var rfl) rd_plus) ev_int (rd_mod (by decide))) (ev_var rfl) (rd_mod hm)) rfl

def F_move_l (ds : List PyData) (o : Out) : Prop := ∃ ns at_ size even, ds = [scrD ns, .int at_, .int (size : Nat), .bool even] ∧ 0 ≤ at_ ∧ at_ < 500 ∧ 1 ≤ size ∧ size ≤ 10 ∧ o = .rt (moveD (moveF tab0 ns at_ size even))
theorem len_move_l : ∀ ds o, F_move_l ds o → ds.length = 4 := fun _ _ ⟨_, _, _, _, h, _⟩ => by rw [h]; rfl
/-! move_l: slots 0 _law_script, 1 _law_at, 2 _law_size, 3 _law_even, 4 _law_k, 5 _law_cells, 6 _law_takes, 7 _law_gives, 8 _law_left, 9 _law_cell (10) -/
def t_move_l (K : PySem.W.Frag) (E : XK)  : TS :=
    (tSeq (tAsg (tLc (iRng1 (tCons (tVar 2) tNil)) (gName 4) tYes (tCallS (SpD K F_mixed_l) (WE (fun _ _ _ _ => False)) (tCons (tVar 0) (tCons (tOp (rAddA K) (tVar 1) (tVar 4)) (tCons (tC (.int 25)) tNil)))) [4]) (gName 5))
    (tSeq (tAsg (tLc (iList K (tVar 5)) (gName 9) tYes (tOp (rIx K) (tLst (tCons (tC (.int 0)) (tCons (tC (.int 0)) (tCons (tC (.int 1)) (tCons (tC (.int 1)) (tCons (tC (.int 2)) tNil)))))) (tOp rModA (tVar 9) (tC (.int 5)))) [9]) (gName 6))
    (tSeq (tAsg (tLc (iList K (tVar 5)) (gName 9) tYes (tOp (rIx K) (tLst (tCons (tC (.int 0)) (tCons (tC (.int 0)) (tCons (tC (.int 1)) (tCons (tC (.int 1)) (tCons (tC (.int 2)) tNil)))))) (tOp rDivA (tVar 9) (tC (.int 5)))) [9]) (gName 7))
    (tSeq (tIfS (tB (tVar 3)) (tSeq (tAsg (tLc (iRng1 (tCons (tVar 2) tNil)) (gName 4) tYes (tC (.int 0)) [4]) (gName 7))
    (tSeq (tAsg (tCallS (SpD K F_mixed_l) (WE (fun cls d _ H => E cls d H)) (tCons (tVar 0) (tCons (tOp (rAddA K) (tVar 1) (tC (.int 4))) (tCons (tOp rPowA (tC (.int 4)) (tC (.int 8))) tNil)))) (gName 8))
    (tFor (iRng1 (tCons (tCB (rSum K) (tCons (tVar 6) tNil)) tNil)) (gName 4) (tSeq (tAsg (tOp (rAddA K) (tOp (rIx K) (tVar 7) (tOp rModA (tVar 8) (tVar 2))) (tC (.int 1))) (gSub (tVar 7) (tOp rModA (tVar 8) (tVar 2)) rSetL))
    (tAsg (tOp rDivA (tVar 8) (tVar 2)) (gName 8)))))) tNext)
    (tRet (tTup (tCons (tCB (rTupA K) (tCons (tVar 6) tNil)) (tCons (tCB (rTupA K) (tCons (tVar 7) tNil)) tNil))))))))

theorem sem_move_l {K : PySem.W.Frag} {E : XK} {ds : List PyData} {o : Out} (h : F_move_l ds o) : As K E (t_move_l K E) (slots0 10 ds) (finP o) := by
  obtain ⟨ns, at_, size, even, rfl, h0, h1, hs, hs2, rfl⟩ := h
  have hcz : ((cellsF ns at_ size).map PyData.int).length ≤ sizeLine := by
    unfold cellsF
    rw [List.length_map, List.length_map, List.length_range]
    exact small_line (by omega)
  -- cells
  refine as_to (δ1 := [.d (scrD ns), .d (.int at_), .d (.int (size : Nat)), .d (.bool even), .no, .d (.list ((cellsF ns at_ size).map .int)), .no, .no, .no, .no]) (as_set (ev_to (en_map (fun i => .int (mixedF ns (at_ + i) 25)) (ei_rng1 (ea_cons (ev_var rfl) ea_nil) (by omega) (by omega)) (nums_line (by omega)) (gw1 4) (fun i d hd => ?_)).ev ?_) rfl) ?_
  · obtain ⟨hi, rfl⟩ := nums_get hd
    refine ag_name ?_
    rw [Int.zero_add]
    exact ev_call (ea_cons (ev_var (x := scrD ns) rfl) (ea_cons (ev_op (ev_var rfl) (ev_var rfl) rd_plus) (ea_cons ev_int ea_nil))) ⟨ns, _, _, rfl, by omega, by omega, by decide, rfl⟩
  · rw [nums_len]
    unfold cellsF
    rw [List.map_map]
    rfl
  have htl : tab0.length = 5 := rfl
  have hta : ∀ x ∈ tab0, 0 ≤ x ∧ x ≤ 9 := by decide
  have hrow : ∀ f : Int → Int, (∀ c, 0 ≤ c → c < 25 → 0 ≤ f c ∧ f c < 5) → RowOk size 9 (tabRow tab0 f (cellsF ns at_ size)) := fun f hf => tab_ok htl hta hf
  have hcell : ∀ (i : Nat) (d : PyData), ((cellsF ns at_ size).map PyData.int)[i]? = some d → d = .int ((cellsF ns at_ size).getD i 0) ∧ 0 ≤ (cellsF ns at_ size).getD i 0 ∧ (cellsF ns at_ size).getD i 0 < 25 := fun i d hd => by
    obtain ⟨z, hz, rfl⟩ := row_get' hd
    have hm := cells_get (List.mem_of_getElem? hz)
    rw [List.getD_eq_getElem?_getD, hz]
    exact ⟨rfl, hm⟩
  have t1 := hrow (· % 5) fun c a b => ⟨Int.emod_nonneg _ (by decide), Int.emod_lt_of_pos _ (by decide)⟩
  have t2 := hrow (· / 5) fun c a b => ⟨by omega, by omega⟩
  unfold moveF
  generalize htk : tabRow tab0 (· % 5) (cellsF ns at_ size) = tk at t1 ⊢
  generalize hgv : tabRow tab0 (· / 5) (cellsF ns at_ size) = gv at t2 ⊢
  -- takes, gives by the table
  refine as_to (δ1 := [.d (scrD ns), .d (.int at_), .d (.int (size : Nat)), .d (.bool even), .no, .d (.list ((cellsF ns at_ size).map .int)), .d (.list (tk.map .int)), .no, .no, .no]) (as_set (ev_to (en_map (fun i => .int (tab0.getD ((cellsF ns at_ size).getD i 0 % 5).toNat 0)) (ei_list (ev_var rfl)) hcz (gw1 9) (fun i d hd => ?_)).ev ?_) rfl) ?_
  · obtain ⟨rfl, c0, c1⟩ := hcell i d hd
    exact ag_name (ev_op (en_lst (ea_cons ev_int (ea_cons ev_int (ea_cons ev_int (ea_cons ev_int (ea_cons ev_int ea_nil))))) (by decide)).ev (ev_op (ev_var rfl) ev_int (rd_mod (by decide))) (rd_ixL (at_row (l := tab0) (Int.emod_nonneg _ (by decide)) (by rw [htl]; exact Int.emod_lt_of_pos _ (by decide)))))
  · rw [← htk, List.length_map, map_range (cellsF ns at_ size) 0 fun c => PyData.int (tab0.getD (c % 5).toNat 0)]
    unfold tabRow
    rw [List.map_map]
    rfl
  refine as_to (δ1 := [.d (scrD ns), .d (.int at_), .d (.int (size : Nat)), .d (.bool even), .no, .d (.list ((cellsF ns at_ size).map .int)), .d (.list (tk.map .int)), .own (gv.map .int), .no, .no]) (as_setN (en_to (en_map (fun i => .int (tab0.getD ((cellsF ns at_ size).getD i 0 / 5).toNat 0)) (ei_list (ev_var rfl)) hcz (gw1 9) (fun i d hd => ?_)) ?_) rfl) ?_
  · obtain ⟨rfl, c0, c1⟩ := hcell i d hd
    exact ag_name (ev_op (en_lst (ea_cons ev_int (ea_cons ev_int (ea_cons ev_int (ea_cons ev_int (ea_cons ev_int ea_nil))))) (by decide)).ev (ev_op (ev_var rfl) ev_int (rd_quo (b := 30) (by decide) (by decide) (by decide) (by decide))) (rd_ixL (at_row (l := tab0) (by omega) (by rw [htl]; omega))))
  · rw [← hgv, List.length_map, map_range (cellsF ns at_ size) 0 fun c => PyData.int (tab0.getD (c / 5).toNat 0)]
    unfold tabRow
    rw [List.map_map]
    rfl
  -- as many as it takes
  refine as_toQ (Q := fun δ1 => ∃ z4 z9, δ1 = [.d (scrD ns), .d (.int at_), .d (.int (size : Nat)), .d (.bool even), z4, .d (.list ((cellsF ns at_ size).map .int)), .d (.list (tk.map .int)), .own ((if even then pour size tk.sum.toNat (List.replicate size 0) (mixedF ns (at_ + 4) 65536) else gv).map .int), z9, .no]) ?_ ?_
  · refine as_if (et_B (ev_var rfl)) (fun he => ?_) (fun he => as_next ⟨_, ⟨.no, .no, by rw [he]; rfl⟩, rfl⟩)
    subst he
    have hsum := sum_le _ t1.2
    have hsz : (size : Int) ≤ 10 := by omega
    have hsm : 9 * (tk.length : Int) ≤ 90 := by rw [t1.1]; omega
    refine as_to (δ1 := [.d (scrD ns), .d (.int at_), .d (.int (size : Nat)), .d (.bool true), .no, .d (.list ((cellsF ns at_ size).map .int)), .d (.list (tk.map .int)), .own ((List.replicate size (0 : Int)).map .int), .no, .no]) (as_setN (en_to (en_map (fun i => .int 0) (ei_rng1 (ea_cons (ev_var rfl) ea_nil) (by omega) (by omega)) (nums_line (by omega)) (gw1 4) (fun i d hd => ag_name ev_int)) ?_) rfl) ?_
    · rw [nums_len, List.map_replicate, Int.toNat_natCast]
      apply List.ext_getElem?
      intro k
      rw [List.getElem?_map, List.getElem?_replicate]
      by_cases hk : k < size
      · rw [List.getElem?_range hk, if_pos hk]; rfl
      · rw [List.getElem?_eq_none_iff.mpr (by rw [List.length_range]; omega), if_neg hk]; rfl
    refine as_to (δ1 := [.d (scrD ns), .d (.int at_), .d (.int (size : Nat)), .d (.bool true), .no, .d (.list ((cellsF ns at_ size).map .int)), .d (.list (tk.map .int)), .own ((List.replicate size (0 : Int)).map .int), .d (.int (mixedF ns (at_ + 4) 65536)), .no]) (as_set (ev_call (ea_cons (ev_var (x := scrD ns) rfl) (ea_cons (ev_op (ev_var rfl) ev_int rd_plus) (ea_cons (ev_op ev_int ev_int (rd_pow ⟨by decide, by decide, by decide⟩)) ea_nil))) ⟨ns, at_ + 4, 65536, rfl, by omega, by omega, by decide, rfl⟩) rfl) ?_
    generalize hg0 : pour size tk.sum.toNat (List.replicate size 0) (mixedF ns (at_ + 4) 65536) = res
    refine as_for (ei_rng1 (ea_cons (ev_cb (ea_cons (ev_var (x := .list (tk.map .int)) rfl) ea_nil) rc_sum) ea_nil) (by omega) (by omega)) (fun i δ' => ∃ z4 g l, δ' = [.d (scrD ns), .d (.int at_), .d (.int (size : Nat)), .d (.bool true), z4, .d (.list ((cellsF ns at_ size).map .int)), .d (.list (tk.map .int)), .own (g.map .int), .d (.int l), .no] ∧ g.length = size ∧ pour size (tk.sum.toNat - i) g l = res) ⟨.no, _, _, rfl, List.length_replicate, hg0⟩ (fun i d δ' hd hp => ?_) (fun δ' hp => ?_)
    · obtain ⟨z4, g, l, rfl, hgl, hpo⟩ := hp
      obtain ⟨hi, rfl⟩ := nums_get hd
      have m0 : 0 ≤ l % (size : Int) := Int.emod_nonneg _ (by omega)
      have m1 : l % (size : Int) < g.length := by rw [hgl]; exact Int.emod_lt_of_pos _ (by omega)
      refine ag_name (as_seq (as_setI (xs := g.map .int) rfl (ev_borrow (i := 7) (xs := g.map .int) rfl (ev_op (ev_op (ev_var rfl) (ev_op (ev_var rfl) (ev_var rfl) (rd_mod (by omega))) (rd_ixL (at_row m0 m1))) ev_int rd_plus) rfl) (ev_op (ev_var rfl) (ev_var rfl) (rd_mod (by omega))) (ix_of m0 (by rw [List.length_map]; exact m1)) ?_))
      refine as_set (ev_op (ev_var rfl) (ev_var rfl) (rd_quo (b := 30) (by omega) (by omega) (by decide) (by decide))) ⟨_, _, _, by rw [map_set_int]; rfl, by rw [List.length_set]; exact hgl, ?_⟩
      rw [← hpo, show tk.sum.toNat - i = (tk.sum.toNat - (i + 1)) + 1 by omega]
      rfl
    · obtain ⟨z4, g, l, rfl, hgl, hpo⟩ := hp
      rw [nums_len, Nat.sub_self] at hpo
      exact ⟨_, ⟨z4, _, by rw [← hpo]; rfl⟩, rfl⟩
  · rintro δ1 ⟨z4, z9, rfl⟩
    refine as_freeze (i := 7) rfl (as_ret (ev_tup (ea_cons (ev_cb (ea_cons (ev_var rfl) ea_nil) rc_tup) (ea_cons (ev_cb (ea_cons (ev_var rfl) ea_nil) rc_tup) ea_nil)) (by show 2 ≤ sizeLine; decide)) ?_)
    rfl

def F_net_l (ds : List PyData) (o : Out) : Prop := ∃ ns at_, ds = [scrD ns, .int at_] ∧ 0 ≤ at_ ∧ at_ < 300 ∧ o = .rt (netD (sizeF ns at_) (movesF tab0 ns at_))
theorem len_net_l : ∀ ds o, F_net_l ds o → ds.length = 2 := fun _ _ ⟨_, _, h, _⟩ => by rw [h]; rfl
/-! net_l: slots 0 _law_script, 1 _law_at, 2 _law_size, 3 _law_many, 4 _law_even, 5 _law_k (6) -/
def t_net_l (K : PySem.W.Frag) (E : XK)  : TS :=
    (tSeq (tAsg (tOp (rAddA K) (tC (.int 1)) (tCallS (SpD K F_mixed_l) (WE (fun cls d _ H => E cls d H)) (tCons (tVar 0) (tCons (tVar 1) (tCons (tC (.int 3)) tNil))))) (gName 2))
    (tSeq (tAsg (tCallS (SpD K F_mixed_l) (WE (fun cls d _ H => E cls d H)) (tCons (tVar 0) (tCons (tOp (rAddA K) (tVar 1) (tC (.int 1))) (tCons (tC (.int 5)) tNil)))) (gName 3))
    (tSeq (tIfS (tTest (tOp (rEqD K) (tCallS (SpD K F_mixed_l) (WE (fun cls d _ H => E cls d H)) (tCons (tVar 0) (tCons (tOp (rAddA K) (tVar 1) (tC (.int 2))) (tCons (tC (.int 6)) tNil)))) (tC (.int 5)))) (tAsg (tC (.int 4)) (gName 2)) tNext)
    (tSeq (tAsg (tOp (rEqD K) (tCallS (SpD K F_mixed_l) (WE (fun cls d _ H => E cls d H)) (tCons (tVar 0) (tCons (tOp (rAddA K) (tVar 1) (tC (.int 3))) (tCons (tC (.int 2)) tNil)))) (tC (.int 1))) (gName 4))
    (tRet (tTup (tCons (tVar 2) (tCons (tCB (rTupA K) (tCons (tLc (iRng1 (tCons (tVar 3) tNil)) (gName 5) tYes (tCallS (SpD K F_move_l) (WE (fun _ _ _ _ => False)) (tCons (tVar 0) (tCons (tOp (rAddA K) (tOp (rAddA K) (tVar 1) (tC (.int 4))) (tOp (rMulA K) (tC (.int 5)) (tVar 5))) (tCons (tVar 2) (tCons (tVar 4) tNil))))) [5]) tNil)) tNil))))))))

theorem sem_net_l {K : PySem.W.Frag} {E : XK} {ds : List PyData} {o : Out} (h : F_net_l ds o) : As K E (t_net_l K E) (slots0 6 ds) (finP o) := by
  obtain ⟨ns, at_, rfl, h0, h1, rfl⟩ := h
  have b3 := mixed_lo ns at_ (many := 3) (by decide)
  have b5 := mixed_lo ns (at_ + 1) (many := 5) (by decide)
  have hz := size_ok ns at_
  have hm := many_ok ns at_
  refine as_seq (as_set (x := .int (1 + mixedF ns at_ 3)) (ev_op ev_int (ev_call (ea_cons (ev_var (x := scrD ns) rfl) (ea_cons (ev_var rfl) (ea_cons ev_int ea_nil))) ⟨ns, _, _, rfl, h0, by omega, by decide, rfl⟩) rd_plus) ?_)
  refine as_seq (as_set (x := .int (manyF ns at_ : Nat)) (ev_to (ev_call (ea_cons (ev_var (x := scrD ns) rfl) (ea_cons (ev_op (ev_var rfl) ev_int rd_plus) (ea_cons ev_int ea_nil))) ⟨ns, _, _, rfl, by omega, by omega, by decide, rfl⟩) ?_) ?_)
  · unfold manyF
    rw [Int.toNat_of_nonneg b5]
  refine as_to (δ1 := [.d (scrD ns), .d (.int at_), .d (.int (sizeF ns at_ : Nat)), .d (.int (manyF ns at_ : Nat)), .no, .no]) ?_ ?_
  · refine as_if (et_test (ev_op (ev_call (ea_cons (ev_var (x := scrD ns) rfl) (ea_cons (ev_op (ev_var rfl) ev_int rd_plus) (ea_cons ev_int ea_nil))) ⟨ns, _, _, rfl, by omega, by omega, by decide, rfl⟩) ev_int (rd_eq rfl rfl))) (fun hb => ?_) (fun hb => ?_)
    · rw [eqv_int] at hb
      have e : sizeF ns at_ = 4 := by
        unfold sizeF
        rw [if_pos (of_decide_eq_true hb)]
      rw [e]
      exact as_set ev_int rfl
    · rw [eqv_int] at hb
      have e : ((sizeF ns at_ : Nat) : Int) = 1 + mixedF ns at_ 3 := by
        unfold sizeF
        rw [if_neg (of_decide_eq_false hb)]
        omega
      rw [e]
      exact as_next rfl
  refine as_seq (as_set (x := .bool (evenF ns at_)) (ev_to (ev_op (ev_call (ea_cons (ev_var (x := scrD ns) rfl) (ea_cons (ev_op (ev_var rfl) ev_int rd_plus) (ea_cons ev_int ea_nil))) ⟨ns, _, _, rfl, by omega, by omega, by decide, rfl⟩) ev_int (rd_eq rfl rfl)) (by rw [eqv_int]; rfl)) ?_)
  refine as_ret (ev_tup (ea_cons (ev_var rfl) (ea_cons (ev_to (ev_cb (ea_cons (en_map (fun i => moveD (moveF tab0 ns (at_ + 4 + 5 * i) (sizeF ns at_) (evenF ns at_))) (ei_rng1 (ea_cons (ev_var rfl) ea_nil) (by omega) (by omega)) (nums_line (by omega)) (gw1 5) (fun i d hd => ?_)).ev ea_nil) rc_tup) ?_) ea_nil)) (by show 2 ≤ sizeLine; decide)) rfl
  · obtain ⟨hi, rfl⟩ := nums_get hd
    refine ag_name ?_
    rw [Int.zero_add]
    exact ev_call (ea_cons (ev_var (x := scrD ns) rfl) (ea_cons (ev_op (ev_op (ev_var rfl) ev_int rd_plus) (ev_op ev_int (ev_var rfl) (rd_timesB (.inl ⟨by decide, by decide⟩))) rd_plus) (ea_cons (ev_var rfl) (ea_cons (ev_var rfl) ea_nil)))) ⟨ns, _, _, _, rfl, by omega, by omega, hz.1, by omega, rfl⟩
  · rw [nums_len, Int.toNat_natCast]
    unfold movesF
    rw [List.map_map]
    rfl

def numD (ws : List Str) (s : Int) : PyData := if (ws.length : Int) = s then (match rowS ws with
  | some r => rowD r
  | none => .none) else .none
def F_numbers_l (ds : List PyData) (o : Out) : Prop := ∃ (ws : List Str) (s : Nat), ds = [.list (ws.map .str), .int (s : Nat)] ∧ ws.length ≤ 100000 ∧ (∀ w ∈ ws, w.length ≤ 100000) ∧ o = .rt (numD ws s)
theorem len_numbers_l : ∀ ds o, F_numbers_l ds o → ds.length = 2 := fun _ _ ⟨_, _, h, _⟩ => by rw [h]; rfl
/-! numbers_l: slots 0 _law_words, 1 _law_size, 2 _law_made, 3 _law_word (4) -/
def t_numbers_l (K : PySem.W.Frag) (E : XK)  : TS :=
    (tSeq (tIfS (tTest (tOp (rNeD K) (tCB (rLenA K) (tCons (tVar 0) tNil)) (tVar 1))) (tRet (tC .non)) tNext)
    (tSeq (tAsg (tLst tNil) (gName 2))
    (tSeq (tFor (iList K (tVar 0)) (gName 3) (tSeq (tIfS (tOr (tTest (tOp (rNeD K) (tCB (rLenA K) (tCons (tVar 3) tNil)) (tC (.int 1)))) (tTest (tOp rNotSub (tVar 3) (tC (.str (PySem.Str.ofString "0123456789")))))) (tRet (tC .non)) tNext)
    (tDrop (tBM K "list" rAppend (tVar 2) (tCons (tBM K "str" rFindA (tC (.str (PySem.Str.ofString "0123456789"))) (tCons (tVar 3) tNil)) tNil)))))
    (tRet (tCB (rTupA K) (tCons (tVar 2) tNil))))))

theorem sem_numbers_l {K : PySem.W.Frag} {E : XK} {ds : List PyData} {o : Out} (h : F_numbers_l ds o) : As K E (t_numbers_l K E) (slots0 4 ds) (finP o) := by
  obtain ⟨ws, s, rfl, hl, hw, rfl⟩ := h
  have hlen : ((ws.map PyData.str).length : Int) = (ws.length : Nat) := by rw [List.length_map]
  refine as_seq (as_if (b := decide (ws.length ≠ s)) (et_to (et_test (ev_op (ev_cb (ea_cons (ev_var (x := .list (ws.map .str)) rfl) ea_nil) rc_lenL) (ev_var (x := .int (s : Nat)) rfl) (rd_ne rfl rfl))) (by rw [hlen, eqv_ne_nat])) (fun z => ?_) (fun z => as_next ?_))
  · have hne : ws.length ≠ s := of_decide_eq_true z
    refine as_ret ev_non ?_
    unfold numD
    rw [if_neg (by omega)]
    rfl
  have he : ws.length = s := by
    apply Classical.byContradiction
    intro q
    rw [decide_eq_true q] at z
    cases z
  have hN : numD ws s = match allS digS ws with | some r => rowD r | none => .none := by
    unfold numD
    rw [if_pos (by omega), rowS_all]
  rw [hN]
  refine as_seq (as_setN (xs := []) (en_lst ea_nil (Nat.zero_le _)) ?_)
  refine as_seq (as_for (ei_list (xs := ws.map .str) (ev_var rfl)) (fun i δ' => ∃ r z, allS digS (ws.take i) = some r ∧ δ' = [.d (.list (ws.map .str)), .d (.int (s : Nat)), .own (r.map .int), z]) ⟨[], .no, rfl, rfl⟩ (fun i d δ' hd hp => ?_) (fun δ' hp => ?_))
  · obtain ⟨r, z, hr, rfl⟩ := hp
    obtain ⟨w, hi, rfl⟩ := strs_get hd
    have hwl := hw w (List.mem_of_getElem? hi)
    have hil : i < ws.length := (List.getElem?_eq_some_iff.mp hi).1
    have hrl := allS_len hr
    rw [List.length_take] at hrl
    refine ag_name (as_seq (as_if (et_bad (w := w) (fun _ _ => trivial) (ev_var rfl) hwl) (fun z => ?_) (fun z => as_next ?_)))
    · cases e : digS w with
      | some d => rw [e] at z; cases z
      | none =>
        refine as_ret ev_non ?_
        rw [allS_none hi e]
        rfl
    · cases e : digS w with
      | none => rw [e] at z; cases z
      | some d =>
        refine as_app (xs := r.map .int) rfl (ev_find (w := w) (ev_var rfl) e) (Nat.lt_of_le_of_lt (m := 100000) (by rw [List.length_map]; omega) (by decide)) ⟨r ++ [d], .d (.str w), allS_app hr hi e, ?_⟩
        rw [List.map_append]
        rfl
  · obtain ⟨r, z, hr, rfl⟩ := hp
    rw [List.take_of_length_le (by rw [List.length_map]; exact Nat.le_refl _)] at hr
    rw [hr]
    exact as_freeze (i := 2) (xs := r.map .int) rfl (as_ret (ev_cb (ea_cons (ev_var rfl) ea_nil) rc_tup) rfl)

def dueD (x : Str) : PyData := match lawNet x with
  | some (n, ms) => netD n ms
  | none => .none
def F_net_of_l (ds : List PyData) (o : Out) : Prop := ∃ x, ds = [.str x] ∧ x.length ≤ 50000 ∧ o = .rt (dueD x)
theorem len_net_of_l : ∀ ds o, F_net_of_l ds o → ds.length = 1 := fun _ _ ⟨_, h, _⟩ => by rw [h]; rfl
theorem rowS_one {p : Str} : rowS [p] = (digS p).map fun d => [d] := by
  unfold rowS rowS
  cases digS p <;> rfl
theorem numD_non {ws : List Str} {s : Nat} (h : ws.length = s) : isNon (numD ws s) = (rowS ws).isNone := by
  unfold numD
  rw [if_pos (by omega)]
  cases rowS ws <;> rfl
theorem rd_neS {K : PySem.W.Frag} {a b : Str} : R2D K rNe (.str a) (.str b) (.bool (!decide (a = b))) := fun H I v u s r1 r2 Q q => by
  cases r1; cases r2
  refine ⟨rfl, ?_⟩
  have e : decide (V.str a = V.str b) = decide (a = b) := decide_eq_decide.mpr ⟨fun h => V.str.inj h, fun h => by rw [h]⟩
  rw [e]
  exact q _ H I (Nx.refl s) (.bl _)
/-! net_of_l: slots 0 _law_line, 1 _law_pieces, 2 _law_size, 3 _law_moves, 4 _law_piece, 5 _law_words, 6 _law_move_here (7) -/
def t_net_of_l (K : PySem.W.Frag) (E : XK)  : TS :=
    (tSeq (tAsg (tBM K "str" rSplitA (tVar 0) (tCons (tC (.str (PySem.Str.ofString " ; "))) tNil)) (gName 1))
    (tSeq (tAsg (tCallS (SpD K F_numbers_l) (WE (fun cls d _ H => E cls d H)) (tCons (tSl (rSlAll K) (tVar 1) tNoPart (tPart (tC (.int 1)))) (tCons (tC (.int 1)) tNil))) (gName 2))
    (tSeq (tIfS (tOr (tTest (tOp rIsNon (tVar 2) (tC .non))) (tOr (tTest (tOp rLtA (tOp (rIx K) (tVar 2) (tC (.int 0))) (tC (.int 1)))) (tOr (tTest (tOp rGtA (tOp (rIx K) (tVar 2) (tC (.int 0))) (tC (.int 6)))) (tTest (tOp rGtA (tCB (rLenA K) (tCons (tVar 1) tNil)) (tC (.int 11))))))) (tRet (tC .non)) tNext)
    (tSeq (tAsg (tLst tNil) (gName 3))
    (tSeq (tFor (iList K (tSl (rSlAll K) (tVar 1) (tPart (tC (.int 1))) tNoPart)) (gName 4) (tSeq (tAsg (tBM K "str" rSplitA (tVar 4) (tCons (tC (.str (PySem.Str.ofString " "))) tNil)) (gName 5))
    (tSeq (tIfS (tOr (tTest (tOp (rNeD K) (tCB (rLenA K) (tCons (tVar 5) tNil)) (tOp (rAddA K) (tOp (rMulA K) (tC (.int 2)) (tOp (rIx K) (tVar 2) (tC (.int 0)))) (tC (.int 1))))) (tTest (tOp rNe (tOp (rIx K) (tVar 5) (tOp (rIx K) (tVar 2) (tC (.int 0)))) (tC (.str (PySem.Str.ofString ">")))))) (tRet (tC .non)) tNext)
    (tSeq (tAsg (tTup (tCons (tCallS (SpD K F_numbers_l) (WE (fun cls d _ H => E cls d H)) (tCons (tSl (rSlAll K) (tVar 5) tNoPart (tPart (tOp (rIx K) (tVar 2) (tC (.int 0))))) (tCons (tOp (rIx K) (tVar 2) (tC (.int 0))) tNil))) (tCons (tCallS (SpD K F_numbers_l) (WE (fun cls d _ H => E cls d H)) (tCons (tSl (rSlAll K) (tVar 5) (tPart (tOp (rAddA K) (tOp (rIx K) (tVar 2) (tC (.int 0))) (tC (.int 1)))) tNoPart) (tCons (tOp (rIx K) (tVar 2) (tC (.int 0))) tNil))) tNil))) (gName 6))
    (tSeq (tIfS (tOr (tTest (tOp rIsNon (tOp (rIx K) (tVar 6) (tC (.int 0))) (tC .non))) (tTest (tOp rIsNon (tOp (rIx K) (tVar 6) (tC (.int 1))) (tC .non)))) (tRet (tC .non)) tNext)
    (tDrop (tBM K "list" rAppend (tVar 3) (tCons (tVar 6) tNil))))))))
    (tRet (tTup (tCons (tOp (rIx K) (tVar 2) (tC (.int 0))) (tCons (tCB (rTupA K) (tCons (tVar 3) tNil)) tNil)))))))))

theorem sem_net_of_l {K : PySem.W.Frag} {E : XK} {ds : List PyData} {o : Out} (h : F_net_of_l ds o) : As K E (t_net_of_l K E) (slots0 7 ds) (finP o) := by
  obtain ⟨x, rfl, hxl, rfl⟩ := h
  refine as_seq (as_set (x := .list ((Txt.split x sp3S).map .str)) (en_split (z := x) (b := sp3S) (ev_var rfl) ev_str (by decide) (small_line (by omega))).ev ?_)
  have hne : Txt.split x sp3S ≠ [] := split_ne (by decide +kernel) (TL.kind_ok (by decide +kernel))
  have hww : ∀ w ∈ Txt.split x sp3S, w.length ≤ 50000 := fun w hw => by
    have := split_sp3 hw
    omega
  have hwl : (Txt.split x sp3S).length ≤ 100000 := by
    have := PyProof.Rows.split_le x sp3S
    omega
  unfold dueD lawNet
  generalize hws : Txt.split x sp3S = ws at hww hwl hne
  cases ws with
  | nil => exact absurd rfl hne
  | cons p ps =>
    dsimp only
    have hp := hww p List.mem_cons_self
    have hpl : ps.length ≤ 100000 := by rw [List.length_cons] at hwl; omega
    refine as_seq (as_set (x := numD [p] (1 : Nat)) (ev_call (xs := [.list ([p].map .str), .int ((1 : Nat) : Int)]) (ea_cons (ev_to (en_slL (xs := (p :: ps).map .str) (ev_var rfl) eo_none (eo_some ev_int)).ev (by
      rw [show cutD ((p :: ps).map PyData.str) none (some 1) = ((p :: ps).map PyData.str).take 1 from cut_take (k := 1)]
      rfl)) (ea_cons ev_int ea_nil)) ⟨[p], 1, rfl, by show 1 ≤ 100000; decide, fun w hw => by rw [List.mem_singleton.mp hw]; omega, rfl⟩) ?_)
    have hnum : numD [p] (1 : Nat) = match digS p with | some d => rowD [d] | none => .none := by
      unfold numD
      rw [if_pos (show (([p].length : Nat) : Int) = ((1 : Nat) : Int) from rfl), rowS_one]
      cases digS p <;> rfl
    rw [hnum]
    cases hd : digS p with
    | none =>
      refine as_seq (as_if (b := true) (et_to (et_or (a := true) (b := true) (et_test (ev_op (x := .none) (ev_var rfl) ev_non rd_isN)) (fun z => by cases z)) rfl) (fun _ => as_ret ev_non rfl) (fun z => by cases z))
    | some n =>
      have hr := dig_range hd
      have ix0 : ∀ {δ : List Sl}, δ[2]? = some (.d (rowD [n])) → Ev K (tOp (rIx K) (tVar 2) (tC (.int 0))) δ (.int n) := fun e => ev_op (x := rowD [n]) (ev_var e) ev_int (rd_ixT rfl)
      have hlen : (((p :: ps).map PyData.str).length : Int) = ((ps.length + 1 : Nat) : Int) := by rw [List.length_map, List.length_cons]
      refine as_seq (as_if (b := decide (n < 1 ∨ 6 < n ∨ 11 < ps.length + 1)) (et_to (et_or (a := false) (et_test (ev_op (x := rowD [n]) (ev_var rfl) ev_non rd_isN)) fun _ => et_or (et_test (ev_op (ix0 rfl) ev_int rd_lt)) fun _ => et_or (et_test (ev_op (ix0 rfl) ev_int rd_gt)) fun _ => et_test (ev_op (ev_cb (ea_cons (ev_var (x := .list ((p :: ps).map .str)) rfl) ea_nil) rc_lenL) ev_int rd_gt)) ?_) (fun z => ?_) (fun z => as_next ?_))
      · rw [hlen]
        by_cases h1 : n < 1
        · simp [h1]
        · by_cases h2 : 6 < n
          · simp [h1, h2]
          · by_cases h3 : 11 < ps.length + 1
            · rw [decide_eq_true (show (11 : Int) < ((ps.length + 1 : Nat) : Int) by omega)]
              simp [h1, h2, h3]
            · rw [decide_eq_false (show ¬ (11 : Int) < ((ps.length + 1 : Nat) : Int) by omega)]
              simp [h1, h2, h3]
      · have hc : n < 1 ∨ 6 < n ∨ 11 < ps.length + 1 := of_decide_eq_true z
        dsimp only
        rw [if_pos hc]
        exact as_ret ev_non rfl
      · have hc : ¬ (n < 1 ∨ 6 < n ∨ 11 < ps.length + 1) := fun q => by rw [decide_eq_true q] at z; cases z
        dsimp only
        rw [if_neg hc]
        obtain ⟨s, rfl⟩ : ∃ s : Nat, n = s := ⟨n.toNat, by omega⟩
        have hsn : ((s : Int)).toNat = s := by omega
        rw [hsn]
        refine as_seq (as_setN (xs := []) (en_lst ea_nil (Nat.zero_le _)) ?_)
        have it : ∀ {δ : List Sl}, δ[1]? = some (.d (.list ((p :: ps).map .str))) → EvI K (iList K (tSl (rSlAll K) (tVar 1) (tPart (tC (.int 1))) tNoPart)) δ (ps.map .str) := fun a => ei_list (ev_to (en_slL (xs := (p :: ps).map .str) (ev_var a) (eo_some ev_int) eo_none).ev (by
          rw [show cutD ((p :: ps).map PyData.str) (some 1) none = ((p :: ps).map PyData.str).drop 1 from cut_drop (k := 1)]
          rfl))
        refine as_seq (as_for (it rfl) (fun i δ' => ∃ ms a b c, allS (fun q => lawWords s (sp1 q)) (ps.take i) = some ms ∧ δ' = [.d (.str x), .d (.list ((p :: ps).map .str)), .d (rowD [(s : Int)]), .own (ms.map moveD), a, b, c]) ⟨[], .no, .no, .no, rfl, rfl⟩ (fun i d δ' hd' hpv => ?_) (fun δ' hpv => ?_))
        · obtain ⟨ms, a, b, c, hms, rfl⟩ := hpv
          obtain ⟨w, hi, rfl⟩ := strs_get hd'
          have hwl' := hww w (List.mem_cons_of_mem _ (List.mem_of_getElem? hi))
          have hil : i < ps.length := (List.getElem?_eq_some_iff.mp hi).1
          have hmsl := allS_len hms
          rw [List.length_take] at hmsl
          refine ag_name (as_seq (as_set (x := .list ((sp1 w).map .str)) (en_split (z := w) (b := spS) (ev_var rfl) ev_str (by decide) (small_line (by omega))).ev ?_))
          have hvw : ∀ v ∈ sp1 w, v.length ≤ 100000 := fun v hv => by
            have := split_sp hv
            omega
          have hvl : (sp1 w).length ≤ 100000 := by
            have := PyProof.Rows.split_le w spS
            unfold sp1
            omega
          have stop : ∀ {P : Prop}, lawWords s (sp1 w) = none → finP (Out.rt (match (match allS (fun q => lawWords s (sp1 q)) ps with | none => none | some ms => some (s, ms)) with | some (n, ms) => netD n ms | none => .none)) (.rt .none) := fun {P} e => by
            rw [allS_none (f := fun q => lawWords s (sp1 q)) hi e]
            rfl
          have keep : ∀ {m}, lawWords s (sp1 w) = some m → allS (fun q => lawWords s (sp1 q)) (ps.take (i + 1)) = some (ms ++ [m]) := fun {m} e => allS_app (f := fun q => lawWords s (sp1 q)) hms hi e
          unfold lawWords at stop keep
          generalize sp1 w = vs at hvw hvl stop keep
          have hvlen : ((vs.map PyData.str).length : Int) = (vs.length : Nat) := by rw [List.length_map]
          have ix1 : ∀ {δ : List Sl}, δ[2]? = some (.d (rowD [(s : Int)])) → Ev K (tOp (rIx K) (tVar 2) (tC (.int 0))) δ (.int (s : Nat)) := fun e => ev_op (x := rowD [(s : Int)]) (ev_var e) ev_int (rd_ixT rfl)
          have c1 : EvT K (tTest (tOp (rNeD K) (tCB (rLenA K) (tCons (tVar 5) tNil)) (tOp (rAddA K) (tOp (rMulA K) (tC (.int 2)) (tOp (rIx K) (tVar 2) (tC (.int 0)))) (tC (.int 1))))) ([Sl.d (.str x), .d (.list ((p :: ps).map .str)), .d (rowD [(s : Int)]), .own (ms.map moveD), .d (.str w), .d (.list (vs.map .str)), c]) (decide (vs.length ≠ 2 * s + 1)) := by
            refine et_to (et_test (ev_op (ev_cb (ea_cons (ev_var (x := .list (vs.map .str)) rfl) ea_nil) rc_lenL) (ev_op (ev_op ev_int (ix1 rfl) (rd_timesB (.inl ⟨by decide, by decide⟩))) ev_int rd_plus) (rd_ne rfl rfl))) ?_
            · rw [hvlen, show (2 * (s : Int) + 1) = ((2 * s + 1 : Nat) : Int) by omega, eqv_ne_nat]
          by_cases hn : vs.length = 2 * s + 1
          · have hs : s < vs.length := by omega
            have hg : vs[s]? = some vs[s] := List.getElem?_eq_getElem hs
            refine as_seq (as_if (b := decide (vs[s] ≠ gtS)) (et_to (et_or (a := false) (b := decide (vs[s] ≠ gtS)) (et_to c1 (by rw [hn]; simp)) fun _ => et_to (et_test (ev_op (ev_op (x := .list (vs.map .str)) (z := .str vs[s]) (ev_var rfl) (ix1 rfl) (rd_ixL (at_map (at_nat hg)))) ev_str rd_neS)) ?_) (Bool.false_or _)) (fun z => ?_) (fun z => as_next ?_))
            · show (!decide (vs[s] = gtS)) = _
              by_cases q : vs[s] = gtS <;> simp [q]
            · have hng : vs[s] ≠ gtS := of_decide_eq_true z
              exact as_ret ev_non (stop (P := True) (if_neg fun q => hng (by rw [hg] at q; exact Option.some.inj q.2)))
            · have hgt : vs[s] = gtS := by
                apply Classical.byContradiction
                intro q
                rw [decide_eq_true q] at z
                cases z
              have hcond : vs.length = 2 * s + 1 ∧ vs[s]? = some gtS := ⟨hn, by rw [hg, hgt]⟩
              rw [if_pos hcond] at stop
              have keep' : ∀ {m}, (match rowS (vs.take s), rowS (vs.drop (s + 1)) with | some a, some b => some (a, b) | _, _ => none) = some m → allS (fun q => lawWords s (sp1 q)) (ps.take (i + 1)) = some (ms ++ [m]) := fun {m} e => keep (by rw [if_pos hcond]; exact e)
              have l1 : (vs.take s).length = s := by rw [List.length_take]; omega
              have l2 : (vs.drop (s + 1)).length = s := by rw [List.length_drop]; omega
              refine as_seq (as_set (x := .tuple [numD (vs.take s) s, numD (vs.drop (s + 1)) s]) (ev_tup (ea_cons (ev_call (xs := [.list ((vs.take s).map .str), .int (s : Nat)]) (ea_cons (ev_to (en_slL (xs := vs.map .str) (ev_var rfl) eo_none (eo_some (ix1 rfl))).ev (by rw [cut_take, strs_take])) (ea_cons (ix1 rfl) ea_nil)) ⟨_, s, rfl, by omega, fun v hv => hvw v (List.mem_of_mem_take hv), rfl⟩)
                (ea_cons (ev_call (xs := [.list ((vs.drop (s + 1)).map .str), .int (s : Nat)]) (ea_cons (ev_to (en_slL (xs := vs.map .str) (ev_var rfl) (eo_some (ev_op (ix1 rfl) ev_int rd_plus)) eo_none).ev (by
                  rw [show cutD (vs.map PyData.str) (some ((s : Int) + 1)) none = (vs.map PyData.str).drop (s + 1) from cut_drop (k := s + 1), strs_drop])) (ea_cons (ix1 rfl) ea_nil)) ⟨_, s, rfl, by omega, fun v hv => hvw v (List.mem_of_mem_drop hv), rfl⟩) ea_nil)) (by show 2 ≤ sizeLine; decide)) ?_)
              refine as_seq (as_if (b := (rowS (vs.take s)).isNone || (rowS (vs.drop (s + 1))).isNone) (et_or (et_to (et_test (ev_op (ev_op (x := .tuple [numD (vs.take s) s, numD (vs.drop (s + 1)) s]) (z := numD (vs.take s) s) (ev_var rfl) ev_int (rd_ixT rfl)) ev_non rd_isN)) (numD_non l1)) fun _ => et_to (et_test (ev_op (ev_op (x := .tuple [numD (vs.take s) s, numD (vs.drop (s + 1)) s]) (z := numD (vs.drop (s + 1)) s) (ev_var rfl) ev_int (rd_ixT rfl)) ev_non rd_isN)) (numD_non l2)) (fun z => ?_) (fun z => as_next ?_))
              · refine as_ret ev_non (stop (P := True) ?_)
                cases q1 : rowS (vs.take s) with
                | none => rfl
                | some r1 =>
                  cases q2 : rowS (vs.drop (s + 1)) with
                  | none => rfl
                  | some r2 => rw [q1, q2] at z; cases z
              · cases q1 : rowS (vs.take s) with
                | none => rw [q1] at z; cases z
                | some r1 =>
                  cases q2 : rowS (vs.drop (s + 1)) with
                  | none => rw [q1, q2] at z; cases z
                  | some r2 =>
                    have n1 : numD (vs.take s) s = rowD r1 := by unfold numD; rw [if_pos (by omega), q1]
                    have n2 : numD (vs.drop (s + 1)) s = rowD r2 := by unfold numD; rw [if_pos (by omega), q2]
                    rw [n1, n2]
                    refine as_app (xs := ms.map moveD) (x := moveD (r1, r2)) rfl (ev_var rfl) (Nat.lt_of_le_of_lt (m := 100000) (by rw [List.length_map]; omega) (by decide)) ⟨ms ++ [(r1, r2)], .d (.str w), .d (.list (vs.map .str)), .d (moveD (r1, r2)), keep' (by rw [q1, q2]), ?_⟩
                    rw [List.map_append]
                    rfl
          · refine as_seq (as_if (b := true) (et_to (et_or (a := true) (b := true) (et_to c1 (decide_eq_true hn)) (fun z => by cases z)) rfl) (fun _ => as_ret ev_non (stop (P := True) (if_neg fun q => hn q.1))) (fun z => by cases z))
        · obtain ⟨ms, a, b, c, hms, rfl⟩ := hpv
          rw [List.take_of_length_le (by rw [List.length_map]; exact Nat.le_refl _)] at hms
          rw [hms]
          exact as_freeze (i := 3) (xs := ms.map moveD) rfl (as_ret (ev_tup (ea_cons (ev_op (x := rowD [(s : Int)]) (ev_var rfl) ev_int (rd_ixT rfl)) (ea_cons (ev_cb (ea_cons (ev_var (x := .list (ms.map moveD)) rfl) ea_nil) rc_tup) ea_nil)) (by show 2 ≤ sizeLine; decide)) rfl)

theorem rowT_len (r : List Int) : (rowT r).length ≤ r.length * 2 := by
  unfold rowT
  have := join_len (S := [32]) (b := 1) (ps := r.map dgL) fun p hp => by
    obtain ⟨x, _, rfl⟩ := List.mem_map.mp hp
    exact Nat.le_refl 1
  rw [List.length_map] at this
  exact this
theorem ev_catS {K : PySem.W.Frag} {δ : List Sl} {ta tb : TE} {a b : List Nat} (ha : Ev K ta δ (.str (mk a))) (hb : Ev K tb δ (.str (mk b))) (h : a.length + b.length ≤ 100000) : Ev K (tOp (rAddA K) ta tb) δ (.str (mk (a ++ b))) :=
  ev_to (ev_op ha hb (rd_cats (small_line (by show a.toArray.size + b.toArray.size ≤ 100000; rw [List.size_toArray, List.size_toArray]; exact h)))) (by rw [app_mk])
theorem moveT_len {n : Nat} {m : List Int × List Int} (h1 : m.1.length = n) (h2 : m.2.length = n) : (moveT m).length ≤ 4 * n + 3 := by
  have a := rowT_len m.1
  have b := rowT_len m.2
  unfold moveT
  rw [List.length_append, List.length_append]
  show _ + (3 + _) ≤ _
  omega
theorem fm_len {α : Type} {f : α → List Nat} {b : Nat} : ∀ {l : List α}, (∀ x ∈ l, (f x).length ≤ b) → (l.flatMap f).length ≤ l.length * b
  | [], _ => Nat.zero_le _
  | x :: r, h => by
    have ih := fm_len (l := r) fun z hz => h z (List.mem_cons_of_mem _ hz)
    have hx := h x List.mem_cons_self
    rw [List.flatMap_cons, List.length_append, List.length_cons, Nat.succ_mul]
    omega
theorem net_flat (n : Int) (ms : List (List Int × List Int)) : netT n ms = dgL n ++ (ms.map moveT).flatMap fun p => [32, 59, 32] ++ p := by
  cases ms with
  | nil => rfl
  | cons m r =>
    rw [← join_front [32, 59, 32] (by simp)]
    rfl
theorem net_len {n : Nat} {ms : List (List Int × List Int)} (h : NetOk n 9 ms) : (netT n ms).length ≤ 400 := by
  have h6 := h.top
  have h10 := h.many
  rw [net_flat, List.length_append]
  have := fm_len (f := fun p => [32, 59, 32] ++ p) (b := 30) (l := ms.map moveT) fun p hp => by
    obtain ⟨m, hm, rfl⟩ := List.mem_map.mp hp
    obtain ⟨r1, r2⟩ := h.rows m hm
    have := moveT_len r1.1 r2.1
    rw [List.length_append]
    show 3 + _ ≤ 30
    omega
  rw [List.length_map] at this
  show 1 + _ ≤ 400
  omega
def wrR (r : List Int) : List Nat := r.flatMap fun x => 32 :: dgL x
def wrM (m : List Int × List Int) : List Nat := [32, 59] ++ wrR m.1 ++ [32, 62] ++ wrR m.2
def F_written_l (ds : List PyData) (o : Out) : Prop := ∃ (n : Nat) (ms : List (List Int × List Int)), ds = [netD n ms] ∧ NetOk n 9 ms ∧ o = .rt (.str (mk (netT n ms)))
theorem len_written_l : ∀ ds o, F_written_l ds o → ds.length = 1 := fun _ _ ⟨_, _, h, _⟩ => by rw [h]; rfl
theorem row_front {r : List Int} (h : r ≠ []) : [32] ++ rowT r = wrR r := by
  unfold rowT
  rw [join_front [32] (by simpa using h), List.flatMap_map]
  rfl
theorem wr_move {m : List Int × List Int} (h1 : m.1 ≠ []) (h2 : m.2 ≠ []) : wrM m = [32, 59, 32] ++ moveT m := by
  unfold wrM moveT
  rw [← row_front h1, ← row_front h2]
  simp
theorem wrR_len (r : List Int) : (wrR r).length ≤ r.length * 2 := fm_len fun x _ => Nat.le_refl 2
theorem wr_net {n : Nat} {ms : List (List Int × List Int)} (h : NetOk n 9 ms) : netT n ms = dgL n ++ ms.flatMap wrM := by
  have hp := h.pos
  rw [net_flat, List.flatMap_map]
  congr 1
  have e : ∀ l : List (List Int × List Int), (∀ m ∈ l, m ∈ ms) → (l.flatMap fun a => [32, 59, 32] ++ moveT a) = l.flatMap wrM := by
    intro l
    induction l with
    | nil => intro _; rfl
    | cons m l ih =>
      intro hl
      obtain ⟨r1, r2⟩ := h.rows m (hl m List.mem_cons_self)
      rw [List.flatMap_cons, List.flatMap_cons, ih fun x hx => hl x (List.mem_cons_of_mem _ hx), wr_move (fun e => by have := r1.1; rw [e] at this; simp at this; omega) (fun e => by have := r2.1; rw [e] at this; simp at this; omega)]
  exact e ms fun m hm => hm
/-! written_l: slots 0 _law_net_here, 1 _law_made, 2 _law_move_here, 3 _law_number (4) -/
def t_written_l (K : PySem.W.Frag) (E : XK)  : TS :=
    (tSeq (tAsg (tCB (rStrI) (tCons (tOp (rIx K) (tVar 0) (tC (.int 0))) tNil)) (gName 1))
    (tSeq (tFor (iTup K (tOp (rIx K) (tVar 0) (tC (.int 1)))) (gName 2) (tSeq (tAsg (tOp (rAddA K) (tOp (rAddA K) (tVar 1) (tC (.str (PySem.Str.ofString " ; ")))) (tBM K "str" (rJoinA K) (tC (.str (PySem.Str.ofString " "))) (tCons (tLc (iTup K (tOp (rIx K) (tVar 2) (tC (.int 0)))) (gName 3) tYes (tCB (rStrI) (tCons (tVar 3) tNil)) [3]) tNil))) (gName 1))
    (tAsg (tOp (rAddA K) (tOp (rAddA K) (tVar 1) (tC (.str (PySem.Str.ofString " > ")))) (tBM K "str" (rJoinA K) (tC (.str (PySem.Str.ofString " "))) (tCons (tLc (iTup K (tOp (rIx K) (tVar 2) (tC (.int 1)))) (gName 3) tYes (tCB (rStrI) (tCons (tVar 3) tNil)) [3]) tNil))) (gName 1))))
    (tRet (tVar 1))))

theorem sem_written_l {K : PySem.W.Frag} {E : XK} {ds : List PyData} {o : Out} (h : F_written_l ds o) : As K E (t_written_l K E) (slots0 4 ds) (finP o) := by
  obtain ⟨n, ms, rfl, hN, rfl⟩ := h
  have h6 := hN.top
  have h1 := hN.pos
  have h10 := hN.many
  have hnl := net_len hN
  rw [net_flat]
  rw [net_flat] at hnl
  refine as_seq (as_set (x := .str (mk (dgL n))) (ev_cb (ea_cons (net_size rfl) ea_nil) (rc_strI (by omega) (by omega))) ?_)
  have row : ∀ {δ : List Sl} {r : List Int} {j : Nat}, j = 0 ∨ j = 1 → ∀ {m : List Int × List Int}, RowOk n 9 m.1 → RowOk n 9 m.2 → r = (if j = 0 then m.1 else m.2) → δ[2]? = some (.d (moveD m)) → δ.length = 4 →
      Ev K (tBM K "str" (rJoinA K) (tC (.str (PySem.Str.ofString " "))) (tCons (tLc (iTup K (tOp (rIx K) (tVar 2) (tC (.int (j : Nat))))) (gName 3) tYes (tCB (rStrI) (tCons (tVar 3) tNil)) [3]) tNil)) δ (.str (mk (rowT r))) := by
    intro δ r j hj m o1 o2 hr hδ hlen
    have hro : RowOk n 9 r := by rcases hj with rfl | rfl <;> rw [hr] <;> assumption
    have hl := hro.1
    have hit : Ev K (tOp (rIx K) (tVar 2) (tC (.int (j : Nat)))) δ (rowD r) := by
      rcases hj with rfl | rfl
      · rw [hr]; exact ev_op (x := moveD m) (ev_var hδ) ev_int (rd_ixT rfl)
      · rw [hr]; exact ev_op (x := moveD m) (ev_var hδ) ev_int (rd_ixT rfl)
    refine ev_to (ev_join (z := spS) (ys := (r.map dgL).map mk) ev_str (ev_to (en_map (fun i => .str (mk (dgL (r.getD i 0)))) (ei_tup (xs := r.map .int) hit) (by rw [List.length_map]; exact small_line (by omega)) (gw1 3) (fun i d he => ?_)).ev ?_) ?_) ?_
    · obtain ⟨x, hx, rfl⟩ := row_get' he
      have hx9 := hro.2 x (List.mem_of_getElem? hx)
      rw [getD_of hx]
      refine ag_name (ev_cb (ea_cons (ev_var ?_) ea_nil) (rc_strI hx9.1 hx9.2))
      rw [List.getElem?_set_self]
      show 3 < ((δ.set 3 .no)).length
      rw [List.length_set, hlen]
      decide
    · rw [List.length_map, map_range r 0 fun x => PyData.str (mk (dgL x)), List.map_map, List.map_map]
      rfl
    · have hs := sum_len (b := 1) (ys := (r.map dgL).map mk) fun y hy => by
        obtain ⟨v, hv, rfl⟩ := List.mem_map.mp hy
        obtain ⟨x, _, rfl⟩ := List.mem_map.mp hv
        exact Nat.le_refl 1
      rw [List.length_map, List.length_map] at hs ⊢
      show _ + _ * 1 ≤ 16777216
      omega
    · rw [show spS = mk [32] from by decide +kernel, join_mk]
      rfl
  refine as_seq (as_for (ei_tup (net_moves rfl)) (fun i δ' => ∃ z2 z3, δ' = [.d (netD n ms), .d (.str (mk (dgL n ++ ((ms.take i).map moveT).flatMap fun p => [32, 59, 32] ++ p))), z2, z3]) ⟨_, _, rfl⟩ (fun i d δ' hd hp => ?_) (fun δ' hp => ?_))
  · obtain ⟨z2, z3, rfl⟩ := hp
    obtain ⟨m, hm, rfl⟩ := moves_get hd
    obtain ⟨r1, r2⟩ := hN.rows m (List.mem_of_getElem? hm)
    obtain ⟨pre, hpre⟩ : ∃ pre, pre = dgL n ++ ((ms.take i).map moveT).flatMap fun p => [32, 59, 32] ++ p := ⟨_, rfl⟩
    have hpl : pre.length ≤ 1000 := by
      rw [hpre, List.length_append]
      have := fm_len (f := fun p => [32, 59, 32] ++ p) (b := 40) (l := (ms.take i).map moveT) fun x hx => by
        obtain ⟨y, hy, rfl⟩ := List.mem_map.mp hx
        obtain ⟨q1, q2⟩ := hN.rows y (List.mem_of_mem_take hy)
        have := moveT_len q1.1 q2.1
        rw [List.length_append]
        show 3 + _ ≤ 40
        omega
      rw [List.length_map, List.length_take] at this
      show 1 + _ ≤ 1000
      omega
    have l1 := rowT_len m.1
    have l2 := rowT_len m.2
    have q1 := r1.1
    have q2 := r2.1
    rw [← hpre]
    refine ag_name (as_seq (as_set (x := .str (mk (pre ++ [32, 59, 32] ++ rowT m.1))) (ev_catS (a := pre ++ [32, 59, 32]) (b := rowT m.1) (ev_catS (a := pre) (b := [32, 59, 32]) (ev_var rfl) ev_str (by show _ + 3 ≤ _; omega)) (row (j := 0) (.inl rfl) r1 r2 rfl rfl rfl) ?_) ?_))
    · rw [List.length_append]
      show _ + 3 + _ ≤ _
      omega
    refine as_set (x := .str (mk (pre ++ [32, 59, 32] ++ rowT m.1 ++ [32, 62, 32] ++ rowT m.2))) (ev_catS (a := pre ++ [32, 59, 32] ++ rowT m.1 ++ [32, 62, 32]) (b := rowT m.2) (ev_catS (a := pre ++ [32, 59, 32] ++ rowT m.1) (b := [32, 62, 32]) (ev_var rfl) ev_str ?_) (row (j := 1) (.inr rfl) r1 r2 rfl rfl rfl) ?_) ⟨.d (moveD m), z3, ?_⟩
    · rw [List.length_append, List.length_append]
      show _ + 3 + _ + 3 ≤ _
      omega
    · rw [List.length_append, List.length_append, List.length_append]
      show _ + 3 + _ + 3 + _ ≤ _
      omega
    · have e : ((ms.take (i + 1)).map moveT).flatMap (fun p => [32, 59, 32] ++ p) = ((ms.take i).map moveT).flatMap (fun p => [32, 59, 32] ++ p) ++ ([32, 59, 32] ++ moveT m) := by
        rw [take_more hm, List.map_append, List.flatMap_append]
        show _ ++ List.flatMap _ [moveT m] = _
        rw [List.flatMap_singleton]
      rw [e, ← List.append_assoc, ← hpre]
      unfold moveT
      simp only [List.append_assoc]
      rfl
  · obtain ⟨z2, z3, rfl⟩ := hp
    have e : ms.take (ms.map moveD).length = ms := List.take_of_length_le (by rw [List.length_map]; exact Nat.le_refl _)
    rw [e]
    exact as_ret (ev_var rfl) rfl

def signsS : List Str := [" ", ";", ">", "-", "0", "9", "a", "+", "_", "\n", "\t"].map PySem.Str.ofString
def wordsS : List Str := ["00", "-1", "10", "", ">", ";", "x", "7", "0", "3"].map PySem.Str.ofString
def spoilS (x : Str) (way cell : Int) : Str :=
  let at_ := cell % ((x.length : Int) + 1)
  if way < 2 then cutS x none (some at_) ++ signsS.getD (cell / 7 % 11).toNat spS ++ cutS x (some at_) none
  else if way < 4 then cutS x none (some at_) ++ cutS x (some (at_ + 1)) none
  else Txt.join spS ((sp1 x).set (cell / 13 % (sp1 x).length).toNat (wordsS.getD (cell % 10).toNat spS))
def F_spoilt_l (ds : List PyData) (o : Out) : Prop := ∃ x way cell, ds = [.str x, .int way, .int cell] ∧ 0 ≤ cell ∧ cell < 1000000 ∧ x.length ≤ 150 ∧ o = .rt (.str (spoilS x way cell))
theorem len_spoilt_l : ∀ ds o, F_spoilt_l ds o → ds.length = 3 := fun _ _ ⟨_, _, _, h, _⟩ => by rw [h]; rfl
theorem getD_small {l : List Str} {b : Nat} (h : ∀ w ∈ l, w.length ≤ b) (hb : 1 ≤ b) (i : Nat) : (l.getD i spS).length ≤ b := by
  rw [List.getD_eq_getElem?_getD]
  cases e : l[i]? with
  | none => exact hb
  | some w => exact h w (List.mem_of_getElem? e)
theorem signs_small (i : Nat) : (signsS.getD i spS).length ≤ 2 := getD_small (by decide +kernel) (by decide) i
theorem words_small (i : Nat) : (wordsS.getD i spS).length ≤ 2 := getD_small (by decide +kernel) (by decide) i
theorem app_len (a b : Str) : (a ++ b).length = a.length + b.length := by
  rw [TL.len_tl, TL.len_tl, TL.len_tl, TL.tl_append, List.length_append]
theorem spoil_len {x : Str} {way cell : Int} (h : x.length ≤ 150) : (spoilS x way cell).length ≤ 50000 := by
  unfold spoilS
  dsimp only
  have s1 := signs_small (cell / 7 % 11).toNat
  split
  · rw [app_len, app_len]
    have a := cutS_len x none (some (cell % ((x.length : Int) + 1)))
    have b := cutS_len x (some (cell % ((x.length : Int) + 1))) none
    omega
  · split
    · rw [app_len]
      have a := cutS_len x none (some (cell % ((x.length : Int) + 1)))
      have b := cutS_len x (some (cell % ((x.length : Int) + 1) + 1)) none
      omega
    · rw [TL.len_tl, TL.join_eq, TL.tl_join]
      have hl := PyProof.Rows.split_le x spS
      have hj := join_len (S := TL.tl spS) (b := 152) (ps := ((sp1 x).set (cell / 13 % (sp1 x).length).toNat (wordsS.getD (cell % 10).toNat spS)).map TL.tl) fun p hp => by
        obtain ⟨w, hw, rfl⟩ := List.mem_map.mp hp
        rw [← TL.len_tl]
        rcases List.mem_or_eq_of_mem_set hw with q | rfl
        · have := split_sp q
          omega
        · have := words_small (cell % 10).toNat
          omega
      rw [List.length_map, List.length_set, show (TL.tl spS).length = 1 from by decide +kernel] at hj
      have h1 : (sp1 x).length ≤ 152 := by unfold sp1; omega
      have h2 : (sp1 x).length * (152 + 1) ≤ 152 * 153 := Nat.mul_le_mul h1 (Nat.le_refl _)
      omega
theorem at_strs {l : List Str} {i : Int} (h0 : 0 ≤ i) (h1 : i < l.length) : atI (l.map PyData.str) i = some (.str (l.getD i.toNat spS)) := by
  have e : i = (i.toNat : Int) := by omega
  rw [e]
  refine at_nat ?_
  rw [List.getElem?_map, getD_get (d := spS) (by omega)]
  rfl
/-! spoilt_l: slots 0 _law_line, 1 _law_way, 2 _law_cell, 3 _law_at, 4 _law_words (5) -/
def t_spoilt_l (K : PySem.W.Frag) (E : XK)  : TS :=
    (tSeq (tAsg (tOp rModA (tVar 2) (tOp (rAddA K) (tCB (rLenA K) (tCons (tVar 0) tNil)) (tC (.int 1)))) (gName 3))
    (tSeq (tIfS (tTest (tOp rLtA (tVar 1) (tC (.int 2)))) (tRet (tOp (rAddA K) (tOp (rAddA K) (tSl (rSlAll K) (tVar 0) tNoPart (tPart (tVar 3))) (tOp (rIx K) (tLst (tCons (tC (.str (PySem.Str.ofString " "))) (tCons (tC (.str (PySem.Str.ofString ";"))) (tCons (tC (.str (PySem.Str.ofString ">"))) (tCons (tC (.str (PySem.Str.ofString "-"))) (tCons (tC (.str (PySem.Str.ofString "0"))) (tCons (tC (.str (PySem.Str.ofString "9"))) (tCons (tC (.str (PySem.Str.ofString "a"))) (tCons (tC (.str (PySem.Str.ofString "+"))) (tCons (tC (.str (PySem.Str.ofString "_"))) (tCons (tC (.str (PySem.Str.ofString "\n"))) (tCons (tC (.str (PySem.Str.ofString "\t"))) tNil)))))))))))) (tOp rModA (tOp rDivA (tVar 2) (tC (.int 7))) (tC (.int 11))))) (tSl (rSlAll K) (tVar 0) (tPart (tVar 3)) tNoPart))) tNext)
    (tSeq (tIfS (tTest (tOp rLtA (tVar 1) (tC (.int 4)))) (tRet (tOp (rAddA K) (tSl (rSlAll K) (tVar 0) tNoPart (tPart (tVar 3))) (tSl (rSlAll K) (tVar 0) (tPart (tOp (rAddA K) (tVar 3) (tC (.int 1)))) tNoPart))) tNext)
    (tSeq (tAsg (tBM K "str" rSplitA (tVar 0) (tCons (tC (.str (PySem.Str.ofString " "))) tNil)) (gName 4))
    (tSeq (tAsg (tOp (rIx K) (tLst (tCons (tC (.str (PySem.Str.ofString "00"))) (tCons (tC (.str (PySem.Str.ofString "-1"))) (tCons (tC (.str (PySem.Str.ofString "10"))) (tCons (tC (.str (PySem.Str.ofString ""))) (tCons (tC (.str (PySem.Str.ofString ">"))) (tCons (tC (.str (PySem.Str.ofString ";"))) (tCons (tC (.str (PySem.Str.ofString "x"))) (tCons (tC (.str (PySem.Str.ofString "7"))) (tCons (tC (.str (PySem.Str.ofString "0"))) (tCons (tC (.str (PySem.Str.ofString "3"))) tNil))))))))))) (tOp rModA (tVar 2) (tC (.int 10)))) (gSub (tVar 4) (tOp rModA (tOp rDivA (tVar 2) (tC (.int 13))) (tCB (rLenA K) (tCons (tVar 4) tNil))) rSetL))
    (tRet (tBM K "str" (rJoinA K) (tC (.str (PySem.Str.ofString " "))) (tCons (tVar 4) tNil))))))))

theorem sem_spoilt_l {K : PySem.W.Frag} {E : XK} {ds : List PyData} {o : Out} (h : F_spoilt_l ds o) : As K E (t_spoilt_l K E) (slots0 5 ds) (finP o) := by
  obtain ⟨x, way, cell, rfl, h0, h1, hx, rfl⟩ := h
  have hxz : x.length ≤ sizeLine := small_line (by omega)
  refine as_seq (as_set (x := .int (cell % ((x.length : Int) + 1))) (ev_op (ev_var rfl) (ev_op (ev_cb (ea_cons (ev_var rfl) ea_nil) (rc_lenS hxz)) ev_int rd_plus) (rd_mod (by omega))) ?_)
  unfold spoilS
  dsimp only
  generalize hat : cell % ((x.length : Int) + 1) = at_
  have s1 := signs_small (cell / 7 % 11).toNat
  have sl : ∀ {lo hi : Option Int}, (cutS x lo hi).length ≤ 150 := fun {lo hi} => by
    have := cutS_len x lo hi
    omega
  refine as_seq (as_if (et_test (ev_op (ev_var rfl) ev_int rd_lt)) (fun z => ?_) (fun z => as_next ?_))
  · rw [if_pos (of_decide_eq_true z)]
    refine as_ret (ev_op (ev_op (ev_slS (ev_var rfl) eo_none (eo_some (ev_var rfl)) hxz) (ev_op (en_lst (xs := signsS.map .str) (ea_cons ev_str (ea_cons ev_str (ea_cons ev_str (ea_cons ev_str (ea_cons ev_str (ea_cons ev_str (ea_cons ev_str (ea_cons ev_str (ea_cons ev_str (ea_cons ev_str (ea_cons ev_str ea_nil))))))))))) (by decide)).ev
      (ev_op (ev_op (ev_var rfl) ev_int (rd_quo (b := 30) (by decide) (by decide) (by decide) (by decide))) ev_int (rd_mod (by decide))) (rd_ixL (at_strs (Int.emod_nonneg _ (by decide)) (by show cell / 7 % 11 < 11; exact Int.emod_lt_of_pos _ (by decide))))) (rd_cats (small_line ?_))) (ev_slS (ev_var rfl) (eo_some (ev_var rfl)) eo_none hxz) (rd_cats (small_line ?_))) rfl
    · have := sl (lo := none) (hi := some at_)
      omega
    · rw [app_len]
      have := sl (lo := none) (hi := some at_)
      have := sl (lo := some at_) (hi := none)
      omega
  · rw [if_neg (fun q => by rw [decide_eq_true q] at z; cases z)]
    refine as_seq (as_if (et_test (ev_op (ev_var rfl) ev_int rd_lt)) (fun z2 => ?_) (fun z2 => as_next ?_))
    · rw [if_pos (of_decide_eq_true z2)]
      refine as_ret (ev_op (ev_slS (ev_var rfl) eo_none (eo_some (ev_var rfl)) hxz) (ev_slS (ev_var rfl) (eo_some (ev_op (ev_var rfl) ev_int rd_plus)) eo_none hxz) (rd_cats (small_line ?_))) rfl
      have := sl (lo := none) (hi := some at_)
      have := sl (lo := some (at_ + 1)) (hi := none)
      omega
    · rw [if_neg (fun q => by rw [decide_eq_true q] at z2; cases z2)]
      refine as_seq (as_setN (xs := (sp1 x).map .str) (en_split (z := x) (b := spS) (ev_var rfl) ev_str (by decide) (small_line (by omega))) ?_)
      have hww : ∀ w ∈ sp1 x, w.length ≤ 150 := fun w hw => by
        have := split_sp hw
        omega
      have hne : sp1 x ≠ [] := split_ne (by decide +kernel) (TL.kind_ok (by decide +kernel))
      have hwl : (sp1 x).length ≤ 152 := by
        have := PyProof.Rows.split_le x spS
        unfold sp1
        omega
      generalize sp1 x = ws at hww hne hwl
      have hpos : (0 : Int) < ws.length := by
        have := List.length_pos_iff.mpr hne
        omega
      have hlen : ((ws.map PyData.str).length : Int) = (ws.length : Nat) := by rw [List.length_map]
      have hi0 : 0 ≤ cell / 13 % (ws.length : Int) := Int.emod_nonneg _ (by omega)
      have hi1 : cell / 13 % (ws.length : Int) < ws.length := Int.emod_lt_of_pos _ hpos
      refine as_seq (as_setI (xs := ws.map .str) (x := .str (wordsS.getD (cell % 10).toNat spS)) (kk := cell / 13 % (ws.length : Int)) (j := (cell / 13 % (ws.length : Int)).toNat) rfl (ev_op (en_lst (xs := wordsS.map .str) (ea_cons ev_str (ea_cons ev_str (ea_cons ev_str (ea_cons ev_str (ea_cons ev_str (ea_cons ev_str (ea_cons ev_str (ea_cons ev_str (ea_cons ev_str (ea_cons ev_str ea_nil)))))))))) (by decide)).ev
        (ev_op (ev_var rfl) ev_int (rd_mod (by decide))) (rd_ixL (at_strs (Int.emod_nonneg _ (by decide)) (by show cell % 10 < 10; exact Int.emod_lt_of_pos _ (by decide)))))
        (ev_op (ev_op (ev_var rfl) ev_int (rd_quo (b := 30) (by decide) (by decide) (by decide) (by decide))) (ev_borrow (i := 4) (xs := ws.map .str) rfl (ev_to (ev_cb (ea_cons (ev_var (x := .list (ws.map .str)) rfl) ea_nil) rc_lenL) (by rw [hlen])) rfl) (rd_mod hpos)) (ix_of hi0 (by rw [List.length_map]; exact hi1)) ?_)
      refine as_freeze (i := 4) rfl (as_ret (ev_join (z := spS) (ys := ws.set (cell / 13 % (ws.length : Int)).toNat (wordsS.getD (cell % 10).toNat spS)) ev_str (ev_to (ev_var rfl) ?_) ?_) rfl)
      · rw [List.map_set]
      · have hs := sum_len (b := 150) (ys := ws.set (cell / 13 % (ws.length : Int)).toNat (wordsS.getD (cell % 10).toNat spS)) fun y hy => by
          rcases List.mem_or_eq_of_mem_set hy with q | rfl
          · exact hww y q
          · have := words_small (cell % 10).toNat
            omega
        rw [List.length_set] at hs ⊢
        show _ + _ * 1 ≤ 16777216
        omega

def F_refused_l (a_NoText a_TokenError : Addr) (ds : List PyData) (o : Out) : Prop := ∃ d, ds = [d] ∧ cln d = true ∧ (∀ x, d = .str x → x.length ≤ 50000) ∧ readO a_NoText d = .ex (.ref a_NoText) ∧ o = .rt (.bool true)
theorem len_refused_l (a_NoText a_TokenError : Addr) : ∀ ds o, F_refused_l a_NoText a_TokenError ds o → ds.length = 1 := fun _ _ ⟨_, h, _⟩ => by rw [h]; rfl
/-! refused_l: slots 0 _law_line, 1 _law_refused_here, 2 e (3) -/
def t_refused_l (K : PySem.W.Frag) (E : XK) (a_NoText : Addr) (a_TokenError : Addr) : TS :=
    (tSeq (tAsg (tC (.int 0)) (gName 1))
    (tSeq (tTryA K (.ref a_NoText) (fun W => (tDrop (tCallS (SpD K (F_read a_NoText)) (WE (W)) (tCons (tVar 0) tNil)))) (tAsg (tOp (rAddA K) (tVar 1) (tC (.int 1))) (gName 1)))
    (tSeq (tTryB K (.ref a_TokenError) 2 (fun W => (tDrop (tCallS (SpD K (F_read a_NoText)) (WE (W)) (tCons (tVar 0) tNil)))) (fun a cls d => (tAsg (tOp (rAddA K) (tVar 1) (tCB (rIntA) (tCons (tCB (rIsX K a cls d) (tCons (tVar 2) (tCons (tC (.ty "ValueError")) tNil))) tNil))) (gName 1))))
    (tRet (tOp (rEqD K) (tVar 1) (tC (.int 2)))))))

theorem sem_refused_l {K : PySem.W.Frag} {E : XK} (a_NoText a_TokenError : Addr) (hE : ErrF K a_NoText a_TokenError) {ds : List PyData} {o : Out} (h : F_refused_l a_NoText a_TokenError ds o) : As K E (t_refused_l K E a_NoText a_TokenError) (slots0 3 ds) (finP o) := by
  obtain ⟨d, rfl, hc, hl, hn, rfl⟩ := h
  have hx : F_read a_NoText [d] (.ex (.ref a_NoText)) := ⟨d, rfl, hc, hl, hn.symm⟩
  refine as_seq (as_set (ev_int (i := 0)) (as_seq (as_tryA_ex (ea_cons (ev_var rfl) ea_nil) hx hE.own (as_set (ev_op (ev_var rfl) ev_int rd_plus) (as_seq (as_tryB_ex (m := 0 + 1) (ea_cons (ev_var rfl) ea_nil) hx hE rfl (by show 2 < 3; decide) (by decide) ?_))))))
  exact as_ret (ev_op (ev_var rfl) ev_int (rd_eq rfl rfl)) rfl

def F_law (ds : List PyData) (o : Out) : Prop := ∃ ns, ds = [scrD ns] ∧ ns.length ≤ 63 ∧ o = .rt (.bool true)
theorem len_law : ∀ ds o, F_law ds o → ds.length = 1 := fun _ _ ⟨_, h, _⟩ => by rw [h]; rfl
theorem holds_law (ns : List Int) (h : ns.length ≤ 63) : F_law [scrD ns] (.rt (.bool true)) := ⟨ns, rfl, h, rfl⟩
theorem at_any {l : List PyData} {i : Int} (h0 : 0 ≤ i) (h1 : i < l.length) : atI l i = some (l.getD i.toNat .none) := by
  have e : l[i.toNat]? = some (l.getD i.toNat .none) := getD_get (by omega)
  have := at_nat e
  rwa [Int.toNat_of_nonneg h0] at this
def menuD : List PyData := [.none, .int 2, .list [.str (PySem.Str.ofString "2")], .tuple [.int 2, .tuple []], .bool true]
theorem net_len4 {n : Nat} {ms : List (List Int × List Int)} (h : NetOk n 9 ms) (h4 : n ≤ 4) (hm : ms.length ≤ 4) : (netT n ms).length ≤ 150 := by
  rw [net_flat, List.length_append]
  have := fm_len (f := fun p => [32, 59, 32] ++ p) (b := 30) (l := ms.map moveT) fun p hp => by
    obtain ⟨m, hm, rfl⟩ := List.mem_map.mp hp
    obtain ⟨r1, r2⟩ := h.rows m hm
    have := moveT_len r1.1 r2.1
    rw [List.length_append]
    show 3 + _ ≤ 30
    omega
  rw [List.length_map] at this
  show 1 + _ ≤ 150
  omega
theorem non_due (x : Str) : isNon (dueD x) = (readNet x).isNone := by
  unfold dueD
  rw [readers_same]
  cases readNet x <;> rfl
/-! law: slots 0 _law_script, 1 _law_way, 2 _law_cell, 3 _law_line, 4 _law_due (5) -/
def t_law (K : PySem.W.Frag) (E : XK) (a_NoText : Addr) (a_TokenError : Addr) : TS :=
    (tSeq (tAsg (tCallS (SpD K F_mixed_l) (WE (fun _ _ _ _ => False)) (tCons (tVar 0) (tCons (tC (.int 24)) (tCons (tC (.int 7)) tNil)))) (gName 1))
    (tSeq (tAsg (tCallS (SpD K F_mixed_l) (WE (fun _ _ _ _ => False)) (tCons (tVar 0) (tCons (tC (.int 25)) (tCons (tOp rPowA (tC (.int 10)) (tC (.int 6))) tNil)))) (gName 2))
    (tSeq (tIfS (tTest (tOp (rEqD K) (tVar 1) (tC (.int 6)))) (tRet (tCallS (SpD K (F_refused_l a_NoText a_TokenError)) (WE (fun _ _ _ _ => False)) (tCons (tOp (rIx K) (tLst (tCons (tC .non) (tCons (tC (.int 2)) (tCons (tLst (tCons (tC (.str (PySem.Str.ofString "2"))) tNil)) (tCons (tTup (tCons (tC (.int 2)) (tCons (tTup tNil) tNil))) (tCons (tC (.bl true)) tNil)))))) (tOp rModA (tVar 2) (tC (.int 5)))) tNil))) tNext)
    (tSeq (tAsg (tCallS (SpD K F_spoilt_l) (WE (fun _ _ _ _ => False)) (tCons (tCallS (SpD K F_written_l) (WE (fun _ _ _ _ => False)) (tCons (tCallS (SpD K F_net_l) (WE (fun _ _ _ _ => False)) (tCons (tVar 0) (tCons (tC (.int 0)) tNil))) tNil)) (tCons (tVar 1) (tCons (tVar 2) tNil)))) (gName 3))
    (tSeq (tAsg (tCallS (SpD K F_net_of_l) (WE (fun _ _ _ _ => False)) (tCons (tVar 3) tNil)) (gName 4))
    (tSeq (tIfS (tTest (tOp rIsNon (tVar 4) (tC .non))) (tRet (tCallS (SpD K (F_refused_l a_NoText a_TokenError)) (WE (fun _ _ _ _ => False)) (tCons (tVar 3) tNil))) tNext)
    (tRet (tOp (rEqD K) (tCallS (SpD K (F_read a_NoText)) (WE (fun _ _ _ _ => False)) (tCons (tVar 3) tNil)) (tVar 4)))))))))

theorem sem_law {K : PySem.W.Frag} {E : XK} (a_NoText a_TokenError : Addr) {ds : List PyData} {o : Out} (h : F_law ds o) : As K E (t_law K E a_NoText a_TokenError) (slots0 5 ds) (finP o) := by
  obtain ⟨ns, rfl, hl, rfl⟩ := h
  have c0 := mixed_lo ns 25 (many := 1000000) (by decide)
  have c1 := mixed_hi ns 25 (many := 1000000) (by decide)
  refine as_seq (as_set (x := .int (mixedF ns 24 7)) (ev_call (ea_cons (ev_var (x := scrD ns) rfl) (ea_cons ev_int (ea_cons ev_int ea_nil))) ⟨ns, 24, 7, rfl, by decide, by decide, by decide, rfl⟩) ?_)
  refine as_seq (as_set (x := .int (mixedF ns 25 1000000)) (ev_call (ea_cons (ev_var (x := scrD ns) rfl) (ea_cons ev_int (ea_cons (ev_op ev_int ev_int (rd_pow ⟨by decide, by decide, by decide⟩)) ea_nil))) ⟨ns, 25, 1000000, rfl, by decide, by decide, by decide, rfl⟩) ?_)
  generalize mixedF ns 24 7 = way
  generalize mixedF ns 25 1000000 = cell at c0 c1
  refine as_seq (as_if (et_test (ev_op (ev_var rfl) ev_int (rd_eq rfl rfl))) (fun z => ?_) (fun z => as_next ?_))
  · have hi0 : 0 ≤ cell % 5 := Int.emod_nonneg _ (by decide)
    have hi1 : cell % 5 < 5 := Int.emod_lt_of_pos _ (by decide)
    refine as_ret (ev_call (xs := [menuD.getD (cell % 5).toNat .none]) (ea_cons (ev_op (en_lst (xs := menuD) (ea_cons ev_non (ea_cons ev_int (ea_cons (en_lst (ea_cons ev_str ea_nil) (by decide)).ev (ea_cons (ev_tup (ea_cons ev_int (ea_cons (ev_tup ea_nil (by decide)) ea_nil)) (by show 2 ≤ sizeLine; decide)) (ea_cons ev_bl ea_nil))))) (by show 5 ≤ sizeLine; decide)).ev (ev_op (ev_var rfl) ev_int (rd_mod (by decide))) (rd_ixL (at_any hi0 (by show cell % 5 < 5; exact hi1)))) ea_nil) ?_) rfl
    have five : (cell % 5).toNat = 0 ∨ (cell % 5).toNat = 1 ∨ (cell % 5).toNat = 2 ∨ (cell % 5).toNat = 3 ∨ (cell % 5).toNat = 4 := by omega
    rcases five with e | e | e | e | e <;> rw [e] <;> exact ⟨_, rfl, rfl, (fun x q => by cases q), rfl, rfl⟩
  · have hN := net_ok0 ns 0
    have h4 := (size_ok ns 0).2
    have hm4 : (movesF tab0 ns 0).length ≤ 4 := by
      unfold movesF
      rw [List.length_map, List.length_range]
      exact many_ok ns 0
    have hln := net_len4 hN h4 hm4
    refine as_seq (as_set (x := .str (spoilS (mk (netT (sizeF ns 0) (movesF tab0 ns 0))) way cell)) (ev_call (ea_cons (ev_call (ea_cons (ev_call (ea_cons (ev_var (x := scrD ns) rfl) (ea_cons ev_int ea_nil)) ⟨ns, 0, rfl, by decide, by decide, rfl⟩) ea_nil) ⟨_, _, rfl, hN, rfl⟩) (ea_cons (ev_var rfl) (ea_cons (ev_var rfl) ea_nil))) ⟨_, way, cell, rfl, c0, c1, by show (netT _ _).toArray.size ≤ 150; rw [List.size_toArray]; exact hln, rfl⟩) ?_)
    have hsl : (spoilS (mk (netT (sizeF ns 0) (movesF tab0 ns 0))) way cell).length ≤ 50000 := spoil_len (by show (netT _ _).toArray.size ≤ 150; rw [List.size_toArray]; exact hln)
    generalize spoilS (mk (netT (sizeF ns 0) (movesF tab0 ns 0))) way cell = x at hsl
    refine as_seq (as_set (x := dueD x) (ev_call (ea_cons (ev_var (x := .str x) rfl) ea_nil) ⟨x, rfl, hsl, rfl⟩) ?_)
    refine as_seq (as_if (et_to (et_test (ev_op (x := dueD x) (ev_var rfl) ev_non rd_isN)) (non_due x)) (fun z => ?_) (fun z => as_next ?_))
    · refine as_ret (ev_call (xs := [.str x]) (ea_cons (ev_var rfl) ea_nil) ⟨.str x, rfl, rfl, fun y q => by cases q; exact hsl, ?_, rfl⟩) rfl
      show (match readNet x with | some (n, ms) => Out.rt (netD n ms) | none => .ex (.ref a_NoText)) = _
      cases e : readNet x with
      | none => rfl
      | some q => rw [e] at z; cases z
    · cases e : readNet x with
      | none => rw [e] at z; cases z
      | some q =>
        obtain ⟨n, ms⟩ := q
        have hd : dueD x = netD n ms := by
          unfold dueD
          rw [readers_same, e]
        have ho : readO a_NoText (.str x) = .rt (netD n ms) := by
          show (match readNet x with | some (n, ms) => Out.rt (netD n ms) | none => .ex (.ref a_NoText)) = _
          rw [e]
        rw [hd]
        refine as_ret (ev_to (ev_op (ev_call (xs := [.str x]) (ea_cons (ev_var rfl) ea_nil) ⟨.str x, rfl, rfl, fun y q => by cases q; exact hsl, ho.symm⟩) (ev_var (x := netD n ms) rfl) (rd_eq (shaped_net n ms) (shaped_net n ms))) ?_) rfl
        rw [eqv_self (shaped_net n ms)]

end Tw

namespace Tw
open PySem PySem.Spec PyProof.Rows L2
def topS (i : Nat) : Stmt := PySem.Challenge.pw_tokenwall_k19_texts_refused.main.body.getD i (.Pass ⟨0, 0, 0, 0⟩)

abbrev s_is_whole : Stmt := topS 7
abbrev N_is_whole : List Str := ["thing"]
theorem sc_is_whole : FnScope N_is_whole ["thing"] (defScope s_is_whole) := ⟨rfl, rfl, rfl, by decide +kernel, rfl, by decide +kernel, by decide +kernel⟩

abbrev s_between : Stmt := topS 8
abbrev N_between : List Str := ["thing", "low", "most"]
theorem sc_between : FnScope N_between ["thing", "low", "most"] (defScope s_between) := ⟨rfl, rfl, rfl, by decide +kernel, rfl, by decide +kernel, by decide +kernel⟩

abbrev s_are_tokens : Stmt := topS 9
abbrev N_are_tokens : List Str := ["thing", "size", "number"]
theorem sc_are_tokens : FnScope N_are_tokens ["thing", "size"] (defScope s_are_tokens) := ⟨rfl, rfl, rfl, by decide +kernel, rfl, by decide +kernel, by decide +kernel⟩

abbrev s_is_net : Stmt := topS 10
abbrev N_is_net : List Str := ["thing", "move"]
theorem sc_is_net : FnScope N_is_net ["thing"] (defScope s_is_net) := ⟨rfl, rfl, rfl, by decide +kernel, rfl, by decide +kernel, by decide +kernel⟩

abbrev s_number_of : Stmt := topS 12
abbrev N_number_of : List Str := ["word"]
theorem sc_number_of : FnScope N_number_of ["word"] (defScope s_number_of) := ⟨rfl, rfl, rfl, by decide +kernel, rfl, by decide +kernel, by decide +kernel⟩

abbrev s_row_of : Stmt := topS 13
abbrev N_row_of : List Str := ["words", "word"]
theorem sc_row_of : FnScope N_row_of ["words"] (defScope s_row_of) := ⟨rfl, rfl, rfl, by decide +kernel, rfl, by decide +kernel, by decide +kernel⟩

abbrev s_move_of : Stmt := topS 14
abbrev N_move_of : List Str := ["piece", "words", "at"]
theorem sc_move_of : FnScope N_move_of ["piece"] (defScope s_move_of) := ⟨rfl, rfl, rfl, by decide +kernel, rfl, by decide +kernel, by decide +kernel⟩

abbrev s_read : Stmt := topS 15
abbrev N_read : List Str := ["text", "pieces", "net", "piece"]
theorem sc_read : FnScope N_read ["text"] (defScope s_read) := ⟨rfl, rfl, rfl, by decide +kernel, rfl, by decide +kernel, by decide +kernel⟩

abbrev s_cell_at_l : Stmt := topS 17
abbrev N_cell_at_l : List Str := ["_law_script", "_law_k"]
theorem sc_cell_at_l : FnScope N_cell_at_l ["_law_script", "_law_k"] (defScope s_cell_at_l) := ⟨rfl, rfl, rfl, by decide +kernel, rfl, by decide +kernel, by decide +kernel⟩

abbrev s_mixed_l : Stmt := topS 18
abbrev N_mixed_l : List Str := ["_law_script", "_law_k", "_law_many", "_law_drawn"]
theorem sc_mixed_l : FnScope N_mixed_l ["_law_script", "_law_k", "_law_many"] (defScope s_mixed_l) := ⟨rfl, rfl, rfl, by decide +kernel, rfl, by decide +kernel, by decide +kernel⟩

abbrev s_move_l : Stmt := topS 19
abbrev N_move_l : List Str := ["_law_script", "_law_at", "_law_size", "_law_even", "_law_k", "_law_cells", "_law_takes", "_law_gives", "_law_left", "_law_cell"]
theorem sc_move_l : FnScope N_move_l ["_law_script", "_law_at", "_law_size", "_law_even"] (defScope s_move_l) := ⟨rfl, rfl, rfl, by decide +kernel, rfl, by decide +kernel, by decide +kernel⟩

abbrev s_net_l : Stmt := topS 20
abbrev N_net_l : List Str := ["_law_script", "_law_at", "_law_size", "_law_many", "_law_even", "_law_k"]
theorem sc_net_l : FnScope N_net_l ["_law_script", "_law_at"] (defScope s_net_l) := ⟨rfl, rfl, rfl, by decide +kernel, rfl, by decide +kernel, by decide +kernel⟩

abbrev s_numbers_l : Stmt := topS 21
abbrev N_numbers_l : List Str := ["_law_words", "_law_size", "_law_made", "_law_word"]
theorem sc_numbers_l : FnScope N_numbers_l ["_law_words", "_law_size"] (defScope s_numbers_l) := ⟨rfl, rfl, rfl, by decide +kernel, rfl, by decide +kernel, by decide +kernel⟩

abbrev s_net_of_l : Stmt := topS 22
abbrev N_net_of_l : List Str := ["_law_line", "_law_pieces", "_law_size", "_law_moves", "_law_piece", "_law_words", "_law_move_here"]
theorem sc_net_of_l : FnScope N_net_of_l ["_law_line"] (defScope s_net_of_l) := ⟨rfl, rfl, rfl, by decide +kernel, rfl, by decide +kernel, by decide +kernel⟩

abbrev s_written_l : Stmt := topS 23
abbrev N_written_l : List Str := ["_law_net_here", "_law_made", "_law_move_here", "_law_number"]
theorem sc_written_l : FnScope N_written_l ["_law_net_here"] (defScope s_written_l) := ⟨rfl, rfl, rfl, by decide +kernel, rfl, by decide +kernel, by decide +kernel⟩

abbrev s_spoilt_l : Stmt := topS 24
abbrev N_spoilt_l : List Str := ["_law_line", "_law_way", "_law_cell", "_law_at", "_law_words"]
theorem sc_spoilt_l : FnScope N_spoilt_l ["_law_line", "_law_way", "_law_cell"] (defScope s_spoilt_l) := ⟨rfl, rfl, rfl, by decide +kernel, rfl, by decide +kernel, by decide +kernel⟩

abbrev s_refused_l : Stmt := topS 25
abbrev N_refused_l : List Str := ["_law_line", "_law_refused_here", "e"]
theorem sc_refused_l : FnScope N_refused_l ["_law_line"] (defScope s_refused_l) := ⟨rfl, rfl, rfl, by decide +kernel, rfl, by decide +kernel, by decide +kernel⟩

abbrev s_law : Stmt := topS 26
abbrev N_law : List Str := ["_law_script", "_law_way", "_law_cell", "_law_line", "_law_due"]
theorem sc_law : FnScope N_law ["_law_script"] (defScope s_law) := ⟨rfl, rfl, rfl, by decide +kernel, rfl, by decide +kernel, by decide +kernel⟩

structure Txt (K : PySem.W.Frag) (mg : Str → Option Value) where
  a_is_whole : Addr
  fd_is_whole : FuncData
  F_is_whole : Fun K "is_whole" "is_whole" s_is_whole a_is_whole fd_is_whole
  b_is_whole : Binds K fd_is_whole ["thing"] []
  g_is_whole : mg "is_whole" = some (.ref a_is_whole)
  a_between : Addr
  fd_between : FuncData
  F_between : Fun K "between" "between" s_between a_between fd_between
  b_between : Binds K fd_between ["thing", "low", "most"] []
  g_between : mg "between" = some (.ref a_between)
  a_are_tokens : Addr
  fd_are_tokens : FuncData
  F_are_tokens : Fun K "are_tokens" "are_tokens" s_are_tokens a_are_tokens fd_are_tokens
  b_are_tokens : Binds K fd_are_tokens ["thing", "size"] []
  g_are_tokens : mg "are_tokens" = some (.ref a_are_tokens)
  a_is_net : Addr
  fd_is_net : FuncData
  F_is_net : Fun K "is_net" "is_net" s_is_net a_is_net fd_is_net
  b_is_net : Binds K fd_is_net ["thing"] []
  g_is_net : mg "is_net" = some (.ref a_is_net)
  a_number_of : Addr
  fd_number_of : FuncData
  F_number_of : Fun K "number_of" "number_of" s_number_of a_number_of fd_number_of
  b_number_of : Binds K fd_number_of ["word"] []
  g_number_of : mg "number_of" = some (.ref a_number_of)
  a_row_of : Addr
  fd_row_of : FuncData
  F_row_of : Fun K "row_of" "row_of" s_row_of a_row_of fd_row_of
  b_row_of : Binds K fd_row_of ["words"] []
  g_row_of : mg "row_of" = some (.ref a_row_of)
  a_move_of : Addr
  fd_move_of : FuncData
  F_move_of : Fun K "move_of" "move_of" s_move_of a_move_of fd_move_of
  b_move_of : Binds K fd_move_of ["piece"] []
  g_move_of : mg "move_of" = some (.ref a_move_of)
  a_read : Addr
  fd_read : FuncData
  F_read : Fun K "read" "read" s_read a_read fd_read
  b_read : Binds K fd_read ["text"] []
  g_read : mg "read" = some (.ref a_read)
  a_cell_at_l : Addr
  fd_cell_at_l : FuncData
  F_cell_at_l : Fun K "_law_cell_at" "_law_cell_at" s_cell_at_l a_cell_at_l fd_cell_at_l
  b_cell_at_l : Binds K fd_cell_at_l ["_law_script", "_law_k"] []
  g_cell_at_l : mg "_law_cell_at" = some (.ref a_cell_at_l)
  a_mixed_l : Addr
  fd_mixed_l : FuncData
  F_mixed_l : Fun K "_law_mixed" "_law_mixed" s_mixed_l a_mixed_l fd_mixed_l
  b_mixed_l : Binds K fd_mixed_l ["_law_script", "_law_k", "_law_many"] []
  g_mixed_l : mg "_law_mixed" = some (.ref a_mixed_l)
  a_move_l : Addr
  fd_move_l : FuncData
  F_move_l : Fun K "_law_move" "_law_move" s_move_l a_move_l fd_move_l
  b_move_l : Binds K fd_move_l ["_law_script", "_law_at", "_law_size", "_law_even"] []
  g_move_l : mg "_law_move" = some (.ref a_move_l)
  a_net_l : Addr
  fd_net_l : FuncData
  F_net_l : Fun K "_law_net" "_law_net" s_net_l a_net_l fd_net_l
  b_net_l : Binds K fd_net_l ["_law_script", "_law_at"] []
  g_net_l : mg "_law_net" = some (.ref a_net_l)
  a_numbers_l : Addr
  fd_numbers_l : FuncData
  F_numbers_l : Fun K "_law_numbers" "_law_numbers" s_numbers_l a_numbers_l fd_numbers_l
  b_numbers_l : Binds K fd_numbers_l ["_law_words", "_law_size"] []
  g_numbers_l : mg "_law_numbers" = some (.ref a_numbers_l)
  a_net_of_l : Addr
  fd_net_of_l : FuncData
  F_net_of_l : Fun K "_law_net_of" "_law_net_of" s_net_of_l a_net_of_l fd_net_of_l
  b_net_of_l : Binds K fd_net_of_l ["_law_line"] []
  g_net_of_l : mg "_law_net_of" = some (.ref a_net_of_l)
  a_written_l : Addr
  fd_written_l : FuncData
  F_written_l : Fun K "_law_written" "_law_written" s_written_l a_written_l fd_written_l
  b_written_l : Binds K fd_written_l ["_law_net_here"] []
  g_written_l : mg "_law_written" = some (.ref a_written_l)
  a_spoilt_l : Addr
  fd_spoilt_l : FuncData
  F_spoilt_l : Fun K "_law_spoilt" "_law_spoilt" s_spoilt_l a_spoilt_l fd_spoilt_l
  b_spoilt_l : Binds K fd_spoilt_l ["_law_line", "_law_way", "_law_cell"] []
  g_spoilt_l : mg "_law_spoilt" = some (.ref a_spoilt_l)
  a_refused_l : Addr
  fd_refused_l : FuncData
  F_refused_l : Fun K "_law_refused" "_law_refused" s_refused_l a_refused_l fd_refused_l
  b_refused_l : Binds K fd_refused_l ["_law_line"] []
  g_refused_l : mg "_law_refused" = some (.ref a_refused_l)
  a_law : Addr
  fd_law : FuncData
  F_law : Fun K "law" "law" s_law a_law fd_law
  b_law : Binds K fd_law ["_law_script"] []
  g_law : mg "law" = some (.ref a_law)
  m_isinstance : mg "isinstance" = none
  m_int : mg "int" = none
  m_bool : mg "bool" = none
  c_TOKENSt : Tok
  c_TOKENS : mg "TOKENS" = some (.int 9 c_TOKENSt)
  m_tuple : mg "tuple" = none
  m_len : mg "len" = none
  c_MOVESt : Tok
  c_MOVES : mg "MOVES" = some (.int 10 c_MOVESt)
  c_PLACESt : Tok
  c_PLACES : mg "PLACES" = some (.int 6 c_PLACESt)
  m_str : mg "str" = none
  m_range : mg "range" = none
  m_sum : mg "sum" = none
  m_ValueError : mg "ValueError" = none
  a_NoText : Addr
  g_NoText : mg "NoText" = some (.ref a_NoText)
  x_NoText : PySem.W.excIn K a_NoText [.type "ValueError", .type "Exception", .type "BaseException", .type "object"] "ValueError.__new__" = true
  k_NoText : PySem.W.keepIn K (.ref a_NoText) = true
  p_NoText : PySem.W.subIn K (.ref a_NoText) (.type "BaseException") = some true
  t_NoText : PySem.W.typeIn K (.ref a_NoText) = some (.type "type")
  a_TokenError : Addr
  g_TokenError : mg "TokenError" = some (.ref a_TokenError)
  ef_NoText : ErrF K a_NoText a_TokenError

section
variable {P : Program} {w : World} {K : PySem.W.Frag} {mg : Str → Option Value} {base : Heap}

theorem ok_is_whole (T : Txt K mg) : FnOk P w K mg base (L2.CX P w) 1 T.a_is_whole T.fd_is_whole ["thing"] (SpD K F_is_whole) := by
  refine def_ok T.F_is_whole sc_is_whole (len_is_whole) (fun cdv A outer s H E hr => ⟨t_is_whole K E , (pss_one (ps_ret (pe_and (pe_callB call_isi (by rfl) T.m_isinstance (by decide +kernel) (pa_cons (pv 0) (pa_cons (pe_bltn (v := .ty "int") (by rfl) T.m_int (by decide +kernel) rfl) pa_nil))) (pe_one (pe_not (pe_callB call_isi (by rfl) T.m_isinstance (by decide +kernel) (pa_cons (pv 0) (pa_cons (pe_bltn (v := .ty "bool") (by rfl) T.m_bool (by decide +kernel) rfl) pa_nil)))))))), fun ds o h => sem_is_whole  h⟩)

theorem ok_between (T : Txt K mg) : FnOk P w K mg base (L2.CX P w) 2 T.a_between T.fd_between ["thing", "low", "most"] (SpD K F_between) := by
  refine def_ok T.F_between sc_between (len_between) (fun cdv A outer s H E hr => ⟨t_between K E , (pss_one (ps_ret (pe_and (pe_callS (ok_is_whole T) (hr.mono (by decide)) rfl T.g_is_whole T.F_is_whole.kp T.b_is_whole (fun σ => passAt (takes_of rfl rfl rfl rfl) σ) (pa_cons (pv 0) pa_nil)) (pe_and (pe_cmpR (opLe hr.units0) (pv 1) (pv 0) (nomark _)) (pe_one (pe_cmpR (opLe hr.units0) (pv 0) (pv 2) (nomark _))))))), fun ds o h => sem_between  h⟩)

theorem ok_are_tokens (T : Txt K mg) : FnOk P w K mg base (L2.CX P w) 3 T.a_are_tokens T.fd_are_tokens ["thing", "size"] (SpD K F_are_tokens) := by
  refine def_ok T.F_are_tokens sc_are_tokens (len_are_tokens) (fun cdv A outer s H E hr => ⟨t_are_tokens K E , (pss_cons (ps_if (PW.pt (pw_or (pt_not (pt_val (pe_callB call_isi (by rfl) T.m_isinstance (by decide +kernel) (pa_cons (pv 0) (pa_cons (pe_bltn (v := .ty "tuple") (by rfl) T.m_tuple (by decide +kernel) rfl) pa_nil))))) (pw_or1 (pt_cmpR (opNe hr.units) (pe_callB callLen (by rfl) T.m_len PySem.boot_len (pa_cons (pv 0) pa_nil)) (pv 1) (nomark _))))) (pss_one (ps_ret pe_bl)) pss_nil)
      (pss_cons (ps_for (passes_of rfl) rfl (pi_tup (pv 0)) (pg_name (i := 2) sc_are_tokens.nd rfl (by first | exact Or.inl rfl | exact Or.inr rfl)) (pss_one (ps_if (pt_not (pt_val (pe_callS (ok_between T) (hr.mono (by decide)) rfl T.g_between T.F_between.kp T.b_between (fun σ => passAt (takes_of rfl rfl rfl rfl) σ) (pa_cons (pv 2) (pa_cons pe_int (pa_cons (pe_glob rfl T.c_TOKENS ⟨_, rfl⟩) pa_nil)))))) (pss_one (ps_ret pe_bl)) pss_nil)))
      (pss_one (ps_ret pe_bl)))), fun ds o h => sem_are_tokens  h⟩)

theorem ok_is_net (T : Txt K mg) : FnOk P w K mg base (L2.CX P w) 4 T.a_is_net T.fd_is_net ["thing"] (SpD K F_is_net) := by
  refine def_ok T.F_is_net sc_is_net (len_is_net) (fun cdv A outer s H E hr => ⟨t_is_net K E , (pss_cons (ps_if (PW.pt (pw_or (pt_not (pt_val (pe_callB call_isi (by rfl) T.m_isinstance (by decide +kernel) (pa_cons (pv 0) (pa_cons (pe_bltn (v := .ty "tuple") (by rfl) T.m_tuple (by decide +kernel) rfl) pa_nil))))) (pw_or (pt_cmpR (opNe hr.units) (pe_callB callLen (by rfl) T.m_len PySem.boot_len (pa_cons (pv 0) pa_nil)) pe_int (nomark _)) (pw_or1 (pt_not (pt_val (pe_callS (ok_between T) (hr.mono (by decide)) rfl T.g_between T.F_between.kp T.b_between (fun σ => passAt (takes_of rfl rfl rfl rfl) σ) (pa_cons (pe_ix ix_seq (pv 0) pe_int (fun _ _ => rfl)) (pa_cons pe_int (pa_cons (pe_glob rfl T.c_PLACES ⟨_, rfl⟩) pa_nil)))))))))) (pss_one (ps_ret pe_bl)) pss_nil)
      (pss_cons (ps_if (PW.pt (pw_or (pt_not (pt_val (pe_callB call_isi (by rfl) T.m_isinstance (by decide +kernel) (pa_cons (pe_ix ix_seq (pv 0) pe_int (fun _ _ => rfl)) (pa_cons (pe_bltn (v := .ty "tuple") (by rfl) T.m_tuple (by decide +kernel) rfl) pa_nil))))) (pw_or1 (pt_cmpR opGt (pe_callB callLen (by rfl) T.m_len PySem.boot_len (pa_cons (pe_ix ix_seq (pv 0) pe_int (fun _ _ => rfl)) pa_nil)) (pe_glob rfl T.c_MOVES ⟨_, rfl⟩) (nomark _))))) (pss_one (ps_ret pe_bl)) pss_nil)
      (pss_cons (ps_for (passes_of rfl) rfl (pi_tup (pe_ix ix_seq (pv 0) pe_int (fun _ _ => rfl))) (pg_name (i := 1) sc_is_net.nd rfl (by first | exact Or.inl rfl | exact Or.inr rfl)) (pss_cons (ps_if (PW.pt (pw_or (pt_not (pt_val (pe_callB call_isi (by rfl) T.m_isinstance (by decide +kernel) (pa_cons (pv 1) (pa_cons (pe_bltn (v := .ty "tuple") (by rfl) T.m_tuple (by decide +kernel) rfl) pa_nil))))) (pw_or1 (pt_cmpR (opNe hr.units) (pe_callB callLen (by rfl) T.m_len PySem.boot_len (pa_cons (pv 1) pa_nil)) pe_int (nomark _))))) (pss_one (ps_ret pe_bl)) pss_nil)
      (pss_one (ps_if (PW.pt (pw_or (pt_not (pt_val (pe_callS (ok_are_tokens T) (hr.mono (by decide)) rfl T.g_are_tokens T.F_are_tokens.kp T.b_are_tokens (fun σ => passAt (takes_of rfl rfl rfl rfl) σ) (pa_cons (pe_ix ix_seq (pv 1) pe_int (fun _ _ => rfl)) (pa_cons (pe_ix ix_seq (pv 0) pe_int (fun _ _ => rfl)) pa_nil))))) (pw_or1 (pt_not (pt_val (pe_callS (ok_are_tokens T) (hr.mono (by decide)) rfl T.g_are_tokens T.F_are_tokens.kp T.b_are_tokens (fun σ => passAt (takes_of rfl rfl rfl rfl) σ) (pa_cons (pe_ix ix_seq (pv 1) pe_int (fun _ _ => rfl)) (pa_cons (pe_ix ix_seq (pv 0) pe_int (fun _ _ => rfl)) pa_nil)))))))) (pss_one (ps_ret pe_bl)) pss_nil))))
      (pss_one (ps_ret pe_bl))))), fun ds o h => sem_is_net  h⟩)

theorem ok_number_of (T : Txt K mg) : FnOk P w K mg base (L2.CX P w) 1 T.a_number_of T.fd_number_of ["word"] (SpD K (F_number_of T.a_NoText)) := by
  refine def_ok T.F_number_of sc_number_of (len_number_of T.a_NoText) (fun cdv A outer s H E hr => ⟨t_number_of K E T.a_NoText, (pss_cons (ps_if (PW.pt (pw_or (pt_cmpR (opNe hr.units) (pe_callB callLen (by rfl) T.m_len PySem.boot_len (pa_cons (pv 0) pa_nil)) pe_int (nomark _)) (pw_or1 (pt_cmpR opNotSub (pv 0) pe_str (by rfl))))) (pss_one (show PS _ _ (tRz E (.ref T.a_NoText)) from ps_raise rfl (takes_of rfl rfl rfl rfl) (pmk_own PySem.F.excBase_ValueError T.x_NoText T.g_NoText T.k_NoText (raises_own T.p_NoText T.t_NoText) (by exact rfl)))) pss_nil)
      (pss_one (ps_ret (pe_callTy callIntS (by rfl) T.m_int (by decide +kernel) (pa_cons (pv 0) pa_nil))))), fun ds o h => sem_number_of T.a_NoText h⟩)

theorem ok_row_of (T : Txt K mg) : FnOk P w K mg base (L2.CX P w) 2 T.a_row_of T.fd_row_of ["words"] (SpD K (F_row_of T.a_NoText)) := by
  refine def_ok T.F_row_of sc_row_of (len_row_of T.a_NoText) (fun cdv A outer s H E hr => ⟨t_row_of K E T.a_NoText, (pss_one (ps_ret (pe_callTy callTup (by rfl) T.m_tuple PyProof.Rows.boot_tuple (pa_cons (pe_lcX (own := [("word", 1)]) rfl rfl rfl (takes_of rfl rfl rfl rfl) sc_row_of.nd (pi_list (pv 0)) (blkOk_by (N := N_row_of) (sc := (defScope s_row_of)) (own := [("word", 1)]) (by decide +kernel)) (fun _ _ _ _ _ => (pg_name (i := 1) sc_row_of.nd rfl (by first | exact Or.inl rfl | exact Or.inr rfl))) (fun _ _ _ _ _ => pts_nil) (fun _ _ _ _ _ _ _ ps => (pe_callS (ok_number_of T) (hr.mono (by decide)) rfl T.g_number_of T.F_number_of.kp T.b_number_of (fun σ => ps σ _ (fun _ _ _ h => h)) (pa_cons (pv 1) pa_nil)))) pa_nil)))), fun ds o h => sem_row_of T.a_NoText h⟩)

theorem ok_move_of (T : Txt K mg) : FnOk P w K mg base (L2.CX P w) 3 T.a_move_of T.fd_move_of ["piece"] (SpD K (F_move_of T.a_NoText)) := by
  refine def_ok T.F_move_of sc_move_of (len_move_of T.a_NoText) (fun cdv A outer s H E hr => ⟨t_move_of K E T.a_NoText, (pss_cons (ps_set (i := 1) sc_move_of.nd rfl (by first | exact Or.inl rfl | exact Or.inr rfl) (pe_bm PySem.F.plainAttrs_str PySem.F.slot_str_split PySem.F.type_str_split mtSplit (pv 0) (pa_cons pe_str pa_nil)))
      (pss_cons (ps_if (pt_cmpR op_notIn_seq pe_str (pv 1) (by rfl)) (pss_one (show PS _ _ (tRz E (.ref T.a_NoText)) from ps_raise rfl (takes_of rfl rfl rfl rfl) (pmk_own PySem.F.excBase_ValueError T.x_NoText T.g_NoText T.k_NoText (raises_own T.p_NoText T.t_NoText) (by exact rfl)))) pss_nil)
      (pss_cons (ps_set (i := 2) sc_move_of.nd rfl (by first | exact Or.inl rfl | exact Or.inr rfl) (pe_bm PySem.F.plainAttrs_list PySem.F.slot_list_index PySem.F.type_list_index mt_index (pv 1) (pa_cons pe_str pa_nil)))
      (pss_one (ps_ret (pe_tup (pa_cons (pe_callS (ok_row_of T) (hr.mono (by decide)) rfl T.g_row_of T.F_row_of.kp T.b_row_of (fun σ => passAt (takes_of rfl rfl rfl rfl) σ) (pa_cons (pe_slice sl_all (pv 1) po_none (po_some (pv 2))) pa_nil)) (pa_cons (pe_callS (ok_row_of T) (hr.mono (by decide)) rfl T.g_row_of T.F_row_of.kp T.b_row_of (fun σ => passAt (takes_of rfl rfl rfl rfl) σ) (pa_cons (pe_slice sl_all (pv 1) (po_some (pe_op opAdd (pv 2) pe_int)) po_none) pa_nil)) pa_nil)))))))), fun ds o h => sem_move_of T.a_NoText h⟩)

theorem ok_read (T : Txt K mg) : FnOk P w K mg base (L2.CX P w) 5 T.a_read T.fd_read ["text"] (SpD K (F_read T.a_NoText)) := by
  refine def_ok T.F_read sc_read (len_read T.a_NoText) (fun cdv A outer s H E hr => ⟨t_read K E T.a_NoText, (pss_cons (ps_if (pt_not (pt_val (pe_callB call_isi (by rfl) T.m_isinstance (by decide +kernel) (pa_cons (pv 0) (pa_cons (pe_bltn (v := .ty "str") (by rfl) T.m_str (by decide +kernel) rfl) pa_nil))))) (pss_one (show PS _ _ (tRz E (.ref T.a_NoText)) from ps_raise rfl (takes_of rfl rfl rfl rfl) (pmk_own PySem.F.excBase_ValueError T.x_NoText T.g_NoText T.k_NoText (raises_own T.p_NoText T.t_NoText) (by exact rfl)))) pss_nil)
      (pss_cons (ps_set (i := 1) sc_read.nd rfl (by first | exact Or.inl rfl | exact Or.inr rfl) (pe_bm PySem.F.plainAttrs_str PySem.F.slot_str_split PySem.F.type_str_split mtSplit (pv 0) (pa_cons pe_str pa_nil)))
      (pss_cons (ps_set (i := 2) sc_read.nd rfl (by first | exact Or.inl rfl | exact Or.inr rfl) (pe_tup (pa_cons (pe_callS (ok_number_of T) (hr.mono (by decide)) rfl T.g_number_of T.F_number_of.kp T.b_number_of (fun σ => passAt (takes_of rfl rfl rfl rfl) σ) (pa_cons (pe_ix ix_seq (pv 1) pe_int (fun _ _ => rfl)) pa_nil)) (pa_cons (pe_callTy callTup (by rfl) T.m_tuple PyProof.Rows.boot_tuple (pa_cons (pe_lcX (own := [("piece", 3)]) rfl rfl rfl (takes_of rfl rfl rfl rfl) sc_read.nd (pi_list (pe_slice sl_all (pv 1) (po_some pe_int) po_none)) (blkOk_by (N := N_read) (sc := (defScope s_read)) (own := [("piece", 3)]) (by decide +kernel)) (fun _ _ _ _ _ => (pg_name (i := 3) sc_read.nd rfl (by first | exact Or.inl rfl | exact Or.inr rfl))) (fun _ _ _ _ _ => pts_nil) (fun _ _ _ _ _ _ _ ps => (pe_callS (ok_move_of T) (hr.mono (by decide)) rfl T.g_move_of T.F_move_of.kp T.b_move_of (fun σ => ps σ _ (fun _ _ _ h => h)) (pa_cons (pv 3) pa_nil)))) pa_nil)) pa_nil))))
      (pss_cons (ps_if (pt_not (pt_val (pe_callS (ok_is_net T) (hr.mono (by decide)) rfl T.g_is_net T.F_is_net.kp T.b_is_net (fun σ => passAt (takes_of rfl rfl rfl rfl) σ) (pa_cons (pv 2) pa_nil)))) (pss_one (show PS _ _ (tRz E (.ref T.a_NoText)) from ps_raise rfl (takes_of rfl rfl rfl rfl) (pmk_own PySem.F.excBase_ValueError T.x_NoText T.g_NoText T.k_NoText (raises_own T.p_NoText T.t_NoText) (by exact rfl)))) pss_nil)
      (pss_one (ps_ret (pv 2))))))), fun ds o h => sem_read T.a_NoText h⟩)

theorem ok_cell_at_l (T : Txt K mg) : FnOk P w K mg base (L2.CX P w) 1 T.a_cell_at_l T.fd_cell_at_l ["_law_script", "_law_k"] (SpD K F_cell_at_l) := by
  refine def_ok T.F_cell_at_l sc_cell_at_l (len_cell_at_l) (fun cdv A outer s H E hr => ⟨t_cell_at_l K E , (pss_cons (ps_if (pt_cmpR opLt (pv 1) (pe_callB callLen (by rfl) T.m_len PySem.boot_len (pa_cons (pv 0) pa_nil)) (nomark _)) (pss_one (ps_ret (pe_ix ix_seq (pv 0) (pv 1) (fun _ _ => rfl)))) pss_nil)
      (pss_cons (ps_if (pt_cmpR (opEq hr.units) (pv 0) (pe_lst pa_nil) (nomark _)) (pss_one (ps_ret pe_int)) pss_nil)
      (pss_one (ps_ret (pe_op opAdd (pe_op opMul (pe_ix ix_seq (pv 0) (pe_op opMod (pv 1) (pe_callB callLen (by rfl) T.m_len PySem.boot_len (pa_cons (pv 0) pa_nil))) (fun _ _ => rfl)) pe_int) (pv 1)))))), fun ds o h => sem_cell_at_l  h⟩)

theorem ok_mixed_l (T : Txt K mg) : FnOk P w K mg base (L2.CX P w) 2 T.a_mixed_l T.fd_mixed_l ["_law_script", "_law_k", "_law_many"] (SpD K F_mixed_l) := by
  refine def_ok T.F_mixed_l sc_mixed_l (len_mixed_l) (fun cdv A outer s H E hr => ⟨t_mixed_l K E , (pss_cons (ps_set (i := 3) sc_mixed_l.nd rfl (by first | exact Or.inl rfl | exact Or.inr rfl) (pe_op opMod (pe_op opMul (pe_op opAdd (pe_op opAdd (pe_callS (ok_cell_at_l T) (hr.mono (by decide)) rfl T.g_cell_at_l T.F_cell_at_l.kp T.b_cell_at_l (fun σ => passAt (takes_of rfl rfl rfl rfl) σ) (pa_cons (pv 0) (pa_cons (pv 1) pa_nil))) (pe_op opMul pe_int (pv 1))) pe_int) pe_int) pe_int))
      (pss_one (ps_ret (pe_op opMod (pe_op opMod (pe_op opAdd (pe_op opAdd (pe_op opMul (pv 3) (pv 3)) (pe_op opMul pe_int (pv 3))) (pv 1)) pe_int) (pv 2))))), fun ds o h => sem_mixed_l  h⟩)

theorem ok_move_l (T : Txt K mg) : FnOk P w K mg base (L2.CX P w) 3 T.a_move_l T.fd_move_l ["_law_script", "_law_at", "_law_size", "_law_even"] (SpD K F_move_l) := by
  refine def_ok T.F_move_l sc_move_l (len_move_l) (fun cdv A outer s H E hr => ⟨t_move_l K E , (pss_cons (ps_setLc (i := 5) (own := [("_law_k", 4)]) rfl sc_move_l.nd rfl rfl (sw_true rfl rfl rfl (by decide +kernel)) (pi_range1 rfl T.m_range (pa_cons (pv 2) pa_nil)) (blkOk_by (N := N_move_l) (sc := (defScope s_move_l)) (own := [("_law_k", 4)]) (by decide +kernel)) (fun _ _ _ _ _ => (pg_name (i := 4) sc_move_l.nd rfl (by first | exact Or.inl rfl | exact Or.inr rfl))) (fun _ _ _ _ _ => pts_nil) (fun _ _ _ _ _ => (pe_callS (ok_mixed_l T) (hr.mono (by decide)) rfl T.g_mixed_l T.F_mixed_l.kp T.b_mixed_l (fun σ => passAt takes0 σ) (pa_cons (pv 0) (pa_cons (pe_op opAdd (pv 1) (pv 4)) (pa_cons pe_int pa_nil))))))
      (pss_cons (ps_setLc (i := 6) (own := [("_law_cell", 9)]) rfl sc_move_l.nd rfl rfl (sw_true rfl rfl rfl (by decide +kernel)) (pi_list (pv 5)) (blkOk_by (N := N_move_l) (sc := (defScope s_move_l)) (own := [("_law_cell", 9)]) (by decide +kernel)) (fun _ _ _ _ _ => (pg_name (i := 9) sc_move_l.nd rfl (by first | exact Or.inl rfl | exact Or.inr rfl))) (fun _ _ _ _ _ => pts_nil) (fun _ _ _ _ _ => (pe_ix ix_seq (pe_lst (pa_cons pe_int (pa_cons pe_int (pa_cons pe_int (pa_cons pe_int (pa_cons pe_int pa_nil)))))) (pe_op opMod (pv 9) pe_int) (fun _ _ => rfl))))
      (pss_cons (ps_setLc (i := 7) (own := [("_law_cell", 9)]) rfl sc_move_l.nd rfl rfl (sw_true rfl rfl rfl (by decide +kernel)) (pi_list (pv 5)) (blkOk_by (N := N_move_l) (sc := (defScope s_move_l)) (own := [("_law_cell", 9)]) (by decide +kernel)) (fun _ _ _ _ _ => (pg_name (i := 9) sc_move_l.nd rfl (by first | exact Or.inl rfl | exact Or.inr rfl))) (fun _ _ _ _ _ => pts_nil) (fun _ _ _ _ _ => (pe_ix ix_seq (pe_lst (pa_cons pe_int (pa_cons pe_int (pa_cons pe_int (pa_cons pe_int (pa_cons pe_int pa_nil)))))) (pe_op opDiv (pv 9) pe_int) (fun _ _ => rfl))))
      (pss_cons (ps_if (pt_val (pv 3)) (pss_cons (ps_setLc (i := 7) (own := [("_law_k", 4)]) rfl sc_move_l.nd rfl rfl (sw_true rfl rfl rfl (by decide +kernel)) (pi_range1 rfl T.m_range (pa_cons (pv 2) pa_nil)) (blkOk_by (N := N_move_l) (sc := (defScope s_move_l)) (own := [("_law_k", 4)]) (by decide +kernel)) (fun _ _ _ _ _ => (pg_name (i := 4) sc_move_l.nd rfl (by first | exact Or.inl rfl | exact Or.inr rfl))) (fun _ _ _ _ _ => pts_nil) (fun _ _ _ _ _ => pe_int))
      (pss_cons (ps_set (i := 8) sc_move_l.nd rfl (by first | exact Or.inl rfl | exact Or.inr rfl) (pe_callS (ok_mixed_l T) (hr.mono (by decide)) rfl T.g_mixed_l T.F_mixed_l.kp T.b_mixed_l (fun σ => passAt (takes_of rfl rfl rfl rfl) σ) (pa_cons (pv 0) (pa_cons (pe_op opAdd (pv 1) pe_int) (pa_cons (pe_op opPow pe_int pe_int) pa_nil)))))
      (pss_one (ps_for (passes_of rfl) rfl (pi_range1 rfl T.m_range (pa_cons (pe_callB (cr_sum rfl) (by rfl) T.m_sum (by decide +kernel) (pa_cons (pv 6) pa_nil)) pa_nil)) (pg_name (i := 4) sc_move_l.nd rfl (by first | exact Or.inl rfl | exact Or.inr rfl)) (pss_cons (ps_asg (pe_op opAdd (pe_ix ix_seq (pv 7) (pe_op opMod (pv 8) (pv 2)) (fun _ _ => rfl)) pe_int) (pg_sub (pv 7) (pe_op opMod (pv 8) (pv 2)) set_list))
      (pss_one (ps_set (i := 8) sc_move_l.nd rfl (by first | exact Or.inl rfl | exact Or.inr rfl) (pe_op opDiv (pv 8) (pv 2))))))))) pss_nil)
      (pss_one (ps_ret (pe_tup (pa_cons (pe_callTy callTup (by rfl) T.m_tuple PyProof.Rows.boot_tuple (pa_cons (pv 6) pa_nil)) (pa_cons (pe_callTy callTup (by rfl) T.m_tuple PyProof.Rows.boot_tuple (pa_cons (pv 7) pa_nil)) pa_nil))))))))), fun ds o h => sem_move_l  h⟩)

theorem ok_net_l (T : Txt K mg) : FnOk P w K mg base (L2.CX P w) 4 T.a_net_l T.fd_net_l ["_law_script", "_law_at"] (SpD K F_net_l) := by
  refine def_ok T.F_net_l sc_net_l (len_net_l) (fun cdv A outer s H E hr => ⟨t_net_l K E , (pss_cons (ps_set (i := 2) sc_net_l.nd rfl (by first | exact Or.inl rfl | exact Or.inr rfl) (pe_op opAdd pe_int (pe_callS (ok_mixed_l T) (hr.mono (by decide)) rfl T.g_mixed_l T.F_mixed_l.kp T.b_mixed_l (fun σ => passAt (takes_of rfl rfl rfl rfl) σ) (pa_cons (pv 0) (pa_cons (pv 1) (pa_cons pe_int pa_nil))))))
      (pss_cons (ps_set (i := 3) sc_net_l.nd rfl (by first | exact Or.inl rfl | exact Or.inr rfl) (pe_callS (ok_mixed_l T) (hr.mono (by decide)) rfl T.g_mixed_l T.F_mixed_l.kp T.b_mixed_l (fun σ => passAt (takes_of rfl rfl rfl rfl) σ) (pa_cons (pv 0) (pa_cons (pe_op opAdd (pv 1) pe_int) (pa_cons pe_int pa_nil)))))
      (pss_cons (ps_if (pt_cmpR (opEq hr.units) (pe_callS (ok_mixed_l T) (hr.mono (by decide)) rfl T.g_mixed_l T.F_mixed_l.kp T.b_mixed_l (fun σ => passAt (takes_of rfl rfl rfl rfl) σ) (pa_cons (pv 0) (pa_cons (pe_op opAdd (pv 1) pe_int) (pa_cons pe_int pa_nil)))) pe_int (nomark _)) (pss_one (ps_set (i := 2) sc_net_l.nd rfl (by first | exact Or.inl rfl | exact Or.inr rfl) pe_int)) pss_nil)
      (pss_cons (ps_set (i := 4) sc_net_l.nd rfl (by first | exact Or.inl rfl | exact Or.inr rfl) (pe_cmpR (opEq hr.units) (pe_callS (ok_mixed_l T) (hr.mono (by decide)) rfl T.g_mixed_l T.F_mixed_l.kp T.b_mixed_l (fun σ => passAt (takes_of rfl rfl rfl rfl) σ) (pa_cons (pv 0) (pa_cons (pe_op opAdd (pv 1) pe_int) (pa_cons pe_int pa_nil)))) pe_int (nomark _)))
      (pss_one (ps_ret (pe_tup (pa_cons (pv 2) (pa_cons (pe_callTy callTup (by rfl) T.m_tuple PyProof.Rows.boot_tuple (pa_cons (pe_lc (own := [("_law_k", 5)]) rfl sc_net_l.nd (pi_range1 rfl T.m_range (pa_cons (pv 3) pa_nil)) (blkOk_by (N := N_net_l) (sc := (defScope s_net_l)) (own := [("_law_k", 5)]) (by decide +kernel)) (fun _ _ _ _ _ => (pg_name (i := 5) sc_net_l.nd rfl (by first | exact Or.inl rfl | exact Or.inr rfl))) (fun _ _ _ _ _ => pts_nil) (fun _ _ _ _ _ => (pe_callS (ok_move_l T) (hr.mono (by decide)) rfl T.g_move_l T.F_move_l.kp T.b_move_l (fun σ => passAt takes0 σ) (pa_cons (pv 0) (pa_cons (pe_op opAdd (pe_op opAdd (pv 1) pe_int) (pe_op opMul pe_int (pv 5))) (pa_cons (pv 2) (pa_cons (pv 4) pa_nil))))))) pa_nil)) pa_nil))))))))), fun ds o h => sem_net_l  h⟩)

theorem ok_numbers_l (T : Txt K mg) : FnOk P w K mg base (L2.CX P w) 1 T.a_numbers_l T.fd_numbers_l ["_law_words", "_law_size"] (SpD K F_numbers_l) := by
  refine def_ok T.F_numbers_l sc_numbers_l (len_numbers_l) (fun cdv A outer s H E hr => ⟨t_numbers_l K E , (pss_cons (ps_if (pt_cmpR (opNe hr.units) (pe_callB callLen (by rfl) T.m_len PySem.boot_len (pa_cons (pv 0) pa_nil)) (pv 1) (nomark _)) (pss_one (ps_ret pe_non)) pss_nil)
      (pss_cons (ps_set (i := 2) sc_numbers_l.nd rfl (by first | exact Or.inl rfl | exact Or.inr rfl) (pe_lst pa_nil))
      (pss_cons (ps_for (passes_of rfl) rfl (pi_list (pv 0)) (pg_name (i := 3) sc_numbers_l.nd rfl (by first | exact Or.inl rfl | exact Or.inr rfl)) (pss_cons (ps_if (PW.pt (pw_or (pt_cmpR (opNe hr.units) (pe_callB callLen (by rfl) T.m_len PySem.boot_len (pa_cons (pv 3) pa_nil)) pe_int (nomark _)) (pw_or1 (pt_cmpR opNotSub (pv 3) pe_str (by rfl))))) (pss_one (ps_ret pe_non)) pss_nil)
      (pss_one (ps_expr (pe_bm PySem.F.plainAttrs_list PySem.F.slot_list_append PySem.F.type_list_append mt_append (pv 2) (pa_cons (pe_bm PySem.F.plainAttrs_str PySem.F.slot_str_find PySem.F.type_str_find mtFind pe_str (pa_cons (pv 3) pa_nil)) pa_nil))))))
      (pss_one (ps_ret (pe_callTy callTup (by rfl) T.m_tuple PyProof.Rows.boot_tuple (pa_cons (pv 2) pa_nil))))))), fun ds o h => sem_numbers_l  h⟩)

theorem ok_net_of_l (T : Txt K mg) : FnOk P w K mg base (L2.CX P w) 2 T.a_net_of_l T.fd_net_of_l ["_law_line"] (SpD K F_net_of_l) := by
  refine def_ok T.F_net_of_l sc_net_of_l (len_net_of_l) (fun cdv A outer s H E hr => ⟨t_net_of_l K E , (pss_cons (ps_set (i := 1) sc_net_of_l.nd rfl (by first | exact Or.inl rfl | exact Or.inr rfl) (pe_bm PySem.F.plainAttrs_str PySem.F.slot_str_split PySem.F.type_str_split mtSplit (pv 0) (pa_cons pe_str pa_nil)))
      (pss_cons (ps_set (i := 2) sc_net_of_l.nd rfl (by first | exact Or.inl rfl | exact Or.inr rfl) (pe_callS (ok_numbers_l T) (hr.mono (by decide)) rfl T.g_numbers_l T.F_numbers_l.kp T.b_numbers_l (fun σ => passAt (takes_of rfl rfl rfl rfl) σ) (pa_cons (pe_slice sl_all (pv 1) po_none (po_some pe_int)) (pa_cons pe_int pa_nil))))
      (pss_cons (ps_if (PW.pt (pw_or (pt_cmpR opIsN (pv 2) pe_non (nomark _)) (pw_or (pt_cmpR opLt (pe_ix ix_seq (pv 2) pe_int (fun _ _ => rfl)) pe_int (nomark _)) (pw_or (pt_cmpR opGt (pe_ix ix_seq (pv 2) pe_int (fun _ _ => rfl)) pe_int (nomark _)) (pw_or1 (pt_cmpR opGt (pe_callB callLen (by rfl) T.m_len PySem.boot_len (pa_cons (pv 1) pa_nil)) pe_int (nomark _))))))) (pss_one (ps_ret pe_non)) pss_nil)
      (pss_cons (ps_set (i := 3) sc_net_of_l.nd rfl (by first | exact Or.inl rfl | exact Or.inr rfl) (pe_lst pa_nil))
      (pss_cons (ps_for (passes_of rfl) rfl (pi_list (pe_slice sl_all (pv 1) (po_some pe_int) po_none)) (pg_name (i := 4) sc_net_of_l.nd rfl (by first | exact Or.inl rfl | exact Or.inr rfl)) (pss_cons (ps_set (i := 5) sc_net_of_l.nd rfl (by first | exact Or.inl rfl | exact Or.inr rfl) (pe_bm PySem.F.plainAttrs_str PySem.F.slot_str_split PySem.F.type_str_split mtSplit (pv 4) (pa_cons pe_str pa_nil)))
      (pss_cons (ps_if (PW.pt (pw_or (pt_cmpR (opNe hr.units) (pe_callB callLen (by rfl) T.m_len PySem.boot_len (pa_cons (pv 5) pa_nil)) (pe_op opAdd (pe_op opMul pe_int (pe_ix ix_seq (pv 2) pe_int (fun _ _ => rfl))) pe_int) (nomark _)) (pw_or1 (pt_cmpR op_ne (pe_ix ix_seq (pv 5) (pe_ix ix_seq (pv 2) pe_int (fun _ _ => rfl)) (fun _ _ => rfl)) pe_str (nomark _))))) (pss_one (ps_ret pe_non)) pss_nil)
      (pss_cons (ps_set (i := 6) sc_net_of_l.nd rfl (by first | exact Or.inl rfl | exact Or.inr rfl) (pe_tup (pa_cons (pe_callS (ok_numbers_l T) (hr.mono (by decide)) rfl T.g_numbers_l T.F_numbers_l.kp T.b_numbers_l (fun σ => passAt (takes_of rfl rfl rfl rfl) σ) (pa_cons (pe_slice sl_all (pv 5) po_none (po_some (pe_ix ix_seq (pv 2) pe_int (fun _ _ => rfl)))) (pa_cons (pe_ix ix_seq (pv 2) pe_int (fun _ _ => rfl)) pa_nil))) (pa_cons (pe_callS (ok_numbers_l T) (hr.mono (by decide)) rfl T.g_numbers_l T.F_numbers_l.kp T.b_numbers_l (fun σ => passAt (takes_of rfl rfl rfl rfl) σ) (pa_cons (pe_slice sl_all (pv 5) (po_some (pe_op opAdd (pe_ix ix_seq (pv 2) pe_int (fun _ _ => rfl)) pe_int)) po_none) (pa_cons (pe_ix ix_seq (pv 2) pe_int (fun _ _ => rfl)) pa_nil))) pa_nil))))
      (pss_cons (ps_if (PW.pt (pw_or (pt_cmpR opIsN (pe_ix ix_seq (pv 6) pe_int (fun _ _ => rfl)) pe_non (nomark _)) (pw_or1 (pt_cmpR opIsN (pe_ix ix_seq (pv 6) pe_int (fun _ _ => rfl)) pe_non (nomark _))))) (pss_one (ps_ret pe_non)) pss_nil)
      (pss_one (ps_expr (pe_bm PySem.F.plainAttrs_list PySem.F.slot_list_append PySem.F.type_list_append mt_append (pv 3) (pa_cons (pv 6) pa_nil)))))))))
      (pss_one (ps_ret (pe_tup (pa_cons (pe_ix ix_seq (pv 2) pe_int (fun _ _ => rfl)) (pa_cons (pe_callTy callTup (by rfl) T.m_tuple PyProof.Rows.boot_tuple (pa_cons (pv 3) pa_nil)) pa_nil)))))))))), fun ds o h => sem_net_of_l  h⟩)

theorem ok_written_l (T : Txt K mg) : FnOk P w K mg base (L2.CX P w) 1 T.a_written_l T.fd_written_l ["_law_net_here"] (SpD K F_written_l) := by
  refine def_ok T.F_written_l sc_written_l (len_written_l) (fun cdv A outer s H E hr => ⟨t_written_l K E , (pss_cons (ps_set (i := 1) sc_written_l.nd rfl (by first | exact Or.inl rfl | exact Or.inr rfl) (pe_callTy callStrI (by rfl) T.m_str (by decide +kernel) (pa_cons (pe_ix ix_seq (pv 0) pe_int (fun _ _ => rfl)) pa_nil)))
      (pss_cons (ps_for (passes_of rfl) rfl (pi_tup (pe_ix ix_seq (pv 0) pe_int (fun _ _ => rfl))) (pg_name (i := 2) sc_written_l.nd rfl (by first | exact Or.inl rfl | exact Or.inr rfl)) (pss_cons (ps_set (i := 1) sc_written_l.nd rfl (by first | exact Or.inl rfl | exact Or.inr rfl) (pe_op opAdd (pe_op opAdd (pv 1) pe_str) (pe_bm PySem.F.plainAttrs_str PySem.F.slot_str_join PySem.F.type_str_join mtJoin pe_str (pa_cons (pe_lc (own := [("_law_number", 3)]) rfl sc_written_l.nd (pi_tup (pe_ix ix_seq (pv 2) pe_int (fun _ _ => rfl))) (blkOk_by (N := N_written_l) (sc := (defScope s_written_l)) (own := [("_law_number", 3)]) (by decide +kernel)) (fun _ _ _ _ _ => (pg_name (i := 3) sc_written_l.nd rfl (by first | exact Or.inl rfl | exact Or.inr rfl))) (fun _ _ _ _ _ => pts_nil) (fun _ _ _ _ _ => (pe_callTy callStrI (by rfl) T.m_str (by decide +kernel) (pa_cons (pv 3) pa_nil)))) pa_nil))))
      (pss_one (ps_set (i := 1) sc_written_l.nd rfl (by first | exact Or.inl rfl | exact Or.inr rfl) (pe_op opAdd (pe_op opAdd (pv 1) pe_str) (pe_bm PySem.F.plainAttrs_str PySem.F.slot_str_join PySem.F.type_str_join mtJoin pe_str (pa_cons (pe_lc (own := [("_law_number", 3)]) rfl sc_written_l.nd (pi_tup (pe_ix ix_seq (pv 2) pe_int (fun _ _ => rfl))) (blkOk_by (N := N_written_l) (sc := (defScope s_written_l)) (own := [("_law_number", 3)]) (by decide +kernel)) (fun _ _ _ _ _ => (pg_name (i := 3) sc_written_l.nd rfl (by first | exact Or.inl rfl | exact Or.inr rfl))) (fun _ _ _ _ _ => pts_nil) (fun _ _ _ _ _ => (pe_callTy callStrI (by rfl) T.m_str (by decide +kernel) (pa_cons (pv 3) pa_nil)))) pa_nil)))))))
      (pss_one (ps_ret (pv 1))))), fun ds o h => sem_written_l  h⟩)

theorem ok_spoilt_l (T : Txt K mg) : FnOk P w K mg base (L2.CX P w) 1 T.a_spoilt_l T.fd_spoilt_l ["_law_line", "_law_way", "_law_cell"] (SpD K F_spoilt_l) := by
  refine def_ok T.F_spoilt_l sc_spoilt_l (len_spoilt_l) (fun cdv A outer s H E hr => ⟨t_spoilt_l K E , (pss_cons (ps_set (i := 3) sc_spoilt_l.nd rfl (by first | exact Or.inl rfl | exact Or.inr rfl) (pe_op opMod (pv 2) (pe_op opAdd (pe_callB callLen (by rfl) T.m_len PySem.boot_len (pa_cons (pv 0) pa_nil)) pe_int)))
      (pss_cons (ps_if (pt_cmpR opLt (pv 1) pe_int (nomark _)) (pss_one (ps_ret (pe_op opAdd (pe_op opAdd (pe_slice sl_all (pv 0) po_none (po_some (pv 3))) (pe_ix ix_seq (pe_lst (pa_cons pe_str (pa_cons pe_str (pa_cons pe_str (pa_cons pe_str (pa_cons pe_str (pa_cons pe_str (pa_cons pe_str (pa_cons pe_str (pa_cons pe_str (pa_cons pe_str (pa_cons pe_str pa_nil)))))))))))) (pe_op opMod (pe_op opDiv (pv 2) pe_int) pe_int) (fun _ _ => rfl))) (pe_slice sl_all (pv 0) (po_some (pv 3)) po_none)))) pss_nil)
      (pss_cons (ps_if (pt_cmpR opLt (pv 1) pe_int (nomark _)) (pss_one (ps_ret (pe_op opAdd (pe_slice sl_all (pv 0) po_none (po_some (pv 3))) (pe_slice sl_all (pv 0) (po_some (pe_op opAdd (pv 3) pe_int)) po_none)))) pss_nil)
      (pss_cons (ps_set (i := 4) sc_spoilt_l.nd rfl (by first | exact Or.inl rfl | exact Or.inr rfl) (pe_bm PySem.F.plainAttrs_str PySem.F.slot_str_split PySem.F.type_str_split mtSplit (pv 0) (pa_cons pe_str pa_nil)))
      (pss_cons (ps_asg (pe_ix ix_seq (pe_lst (pa_cons pe_str (pa_cons pe_str (pa_cons pe_str (pa_cons pe_str (pa_cons pe_str (pa_cons pe_str (pa_cons pe_str (pa_cons pe_str (pa_cons pe_str (pa_cons pe_str pa_nil))))))))))) (pe_op opMod (pv 2) pe_int) (fun _ _ => rfl)) (pg_sub (pv 4) (pe_op opMod (pe_op opDiv (pv 2) pe_int) (pe_callB callLen (by rfl) T.m_len PySem.boot_len (pa_cons (pv 4) pa_nil))) set_list))
      (pss_one (ps_ret (pe_bm PySem.F.plainAttrs_str PySem.F.slot_str_join PySem.F.type_str_join mtJoin pe_str (pa_cons (pv 4) pa_nil))))))))), fun ds o h => sem_spoilt_l  h⟩)

theorem ok_refused_l (T : Txt K mg) : FnOk P w K mg base (L2.CX P w) 6 T.a_refused_l T.fd_refused_l ["_law_line"] (SpD K (F_refused_l T.a_NoText T.a_TokenError)) := by
  refine def_ok T.F_refused_l sc_refused_l (len_refused_l T.a_NoText T.a_TokenError) (fun cdv A outer s H E hr => ⟨t_refused_l K E T.a_NoText T.a_TokenError, (pss_cons (ps_set (i := 1) sc_refused_l.nd rfl (by first | exact Or.inl rfl | exact Or.inr rfl) pe_int)
      (pss_cons (ps_tryA rfl rfl ⟨rfl, by decide, .inl T.g_NoText⟩ (fun W pn xe tk _ => (pss_one (ps_expr (pe_callS (ok_read T) (hr.mono (by decide)) rfl T.g_read T.F_read.kp T.b_read (fun σ => passAt tk σ) (pa_cons (pv 0) pa_nil))))) (fun a oe cls d pn _ _ => (pss_one (ps_set (i := 1) sc_refused_l.nd rfl (by first | exact Or.inl rfl | exact Or.inr rfl) (pe_op opAdd (pv 1) pe_int)))))
      (pss_cons (ps_tryB (i := 2) rfl rfl sc_refused_l.nd rfl rfl ⟨rfl, by decide, .inl T.g_TokenError⟩ (fun W pn xe tk _ => (pss_one (ps_expr (pe_callS (ok_read T) (hr.mono (by decide)) rfl T.g_read T.F_read.kp T.b_read (fun σ => passAt tk σ) (pa_cons (pv 0) pa_nil))))) (fun a oe cls d pn hz hf => (pss_one (ps_set (i := 1) sc_refused_l.nd rfl (by first | exact Or.inl rfl | exact Or.inr rfl) (pe_op opAdd (pv 1) (pe_callTy callInt (by rfl) T.m_int (by decide +kernel) (pa_cons (pe_callB (call_isX hz hf) (by rfl) T.m_isinstance (by decide +kernel) (pa_cons (pv 2) (pa_cons (pe_bltn (v := .ty "ValueError") (by rfl) T.m_ValueError (by decide +kernel) rfl) pa_nil))) pa_nil)))))))
      (pss_one (ps_ret (pe_cmpR (opEq hr.units) (pv 1) pe_int (nomark _))))))), fun ds o h => sem_refused_l T.a_NoText T.a_TokenError T.ef_NoText h⟩)

theorem ok_law (T : Txt K mg) : FnOk P w K mg base CX0 7 T.a_law T.fd_law ["_law_script"] (SpD K F_law) := by
  refine law_ok T.F_law sc_law (len_law) (fun cdv A outer s H E hr => ⟨t_law K E T.a_NoText T.a_TokenError, (pss_cons (ps_set (i := 1) sc_law.nd rfl (by first | exact Or.inl rfl | exact Or.inr rfl) (pe_callS (ok_mixed_l T) (hr.mono (by decide)) rfl T.g_mixed_l T.F_mixed_l.kp T.b_mixed_l (fun σ => passAt takes0 σ) (pa_cons (pv 0) (pa_cons pe_int (pa_cons pe_int pa_nil)))))
      (pss_cons (ps_set (i := 2) sc_law.nd rfl (by first | exact Or.inl rfl | exact Or.inr rfl) (pe_callS (ok_mixed_l T) (hr.mono (by decide)) rfl T.g_mixed_l T.F_mixed_l.kp T.b_mixed_l (fun σ => passAt takes0 σ) (pa_cons (pv 0) (pa_cons pe_int (pa_cons (pe_op opPow pe_int pe_int) pa_nil)))))
      (pss_cons (ps_if (pt_cmpR (opEq hr.units) (pv 1) pe_int (nomark _)) (pss_one (ps_ret (pe_callS (ok_refused_l T) (hr.mono (by decide)) rfl T.g_refused_l T.F_refused_l.kp T.b_refused_l (fun σ => passAt takes0 σ) (pa_cons (pe_ix ix_seq (pe_lst (pa_cons pe_non (pa_cons pe_int (pa_cons (pe_lst (pa_cons pe_str pa_nil)) (pa_cons (pe_tup (pa_cons pe_int (pa_cons (pe_tup pa_nil) pa_nil))) (pa_cons pe_bl pa_nil)))))) (pe_op opMod (pv 2) pe_int) (fun _ _ => rfl)) pa_nil)))) pss_nil)
      (pss_cons (ps_set (i := 3) sc_law.nd rfl (by first | exact Or.inl rfl | exact Or.inr rfl) (pe_callS (ok_spoilt_l T) (hr.mono (by decide)) rfl T.g_spoilt_l T.F_spoilt_l.kp T.b_spoilt_l (fun σ => passAt takes0 σ) (pa_cons (pe_callS (ok_written_l T) (hr.mono (by decide)) rfl T.g_written_l T.F_written_l.kp T.b_written_l (fun σ => passAt takes0 σ) (pa_cons (pe_callS (ok_net_l T) (hr.mono (by decide)) rfl T.g_net_l T.F_net_l.kp T.b_net_l (fun σ => passAt takes0 σ) (pa_cons (pv 0) (pa_cons pe_int pa_nil))) pa_nil)) (pa_cons (pv 1) (pa_cons (pv 2) pa_nil)))))
      (pss_cons (ps_set (i := 4) sc_law.nd rfl (by first | exact Or.inl rfl | exact Or.inr rfl) (pe_callS (ok_net_of_l T) (hr.mono (by decide)) rfl T.g_net_of_l T.F_net_of_l.kp T.b_net_of_l (fun σ => passAt takes0 σ) (pa_cons (pv 3) pa_nil)))
      (pss_cons (ps_if (pt_cmpR opIsN (pv 4) pe_non (nomark _)) (pss_one (ps_ret (pe_callS (ok_refused_l T) (hr.mono (by decide)) rfl T.g_refused_l T.F_refused_l.kp T.b_refused_l (fun σ => passAt takes0 σ) (pa_cons (pv 3) pa_nil)))) pss_nil)
      (pss_one (ps_ret (pe_cmpR (opEq hr.units) (pe_callS (ok_read T) (hr.mono (by decide)) rfl T.g_read T.F_read.kp T.b_read (fun σ => passAt takes0 σ) (pa_cons (pv 3) pa_nil)) (pv 4) (nomark _)))))))))), fun ds o h => sem_law T.a_NoText T.a_TokenError h⟩)

end

theorem all_mk {l : PySem.W.OpenLaw} {w : World} {K : PySem.W.Frag} {h : Heap} {mg : Str → Option Value} {fa : Addr} (X : K.In h) (G : h.Ns mainGlobals mg) (hfa : mg "law" = some (.ref fa))
    {f0 : Addr} {od0 an0 : Option Addr} {sl0 : Array (Option Value)} {oc0 kV0 dc0 pm0 cd0 ct0 : Value}
    {f1 : Addr} {od1 an1 : Option Addr} {sl1 : Array (Option Value)} {oc1 kV1 dc1 pm1 cd1 ct1 : Value}
    {f2 : Addr} {od2 an2 : Option Addr} {sl2 : Array (Option Value)} {oc2 kV2 dc2 pm2 cd2 ct2 : Value}
    {f3 : Addr} {od3 an3 : Option Addr} {sl3 : Array (Option Value)} {oc3 kV3 dc3 pm3 cd3 ct3 : Value}
    {f4 : Addr} {od4 an4 : Option Addr} {sl4 : Array (Option Value)} {oc4 kV4 dc4 pm4 cd4 ct4 : Value}
    {f5 : Addr} {od5 an5 : Option Addr} {sl5 : Array (Option Value)} {oc5 kV5 dc5 pm5 cd5 ct5 : Value}
    {f6 : Addr} {od6 an6 : Option Addr} {sl6 : Array (Option Value)} {oc6 kV6 dc6 pm6 cd6 ct6 : Value}
    {f7 : Addr} {od7 an7 : Option Addr} {sl7 : Array (Option Value)} {oc7 kV7 dc7 pm7 cd7 ct7 : Value}
    {f8 : Addr} {od8 an8 : Option Addr} {sl8 : Array (Option Value)} {oc8 kV8 dc8 pm8 cd8 ct8 : Value}
    {f9 : Addr} {od9 an9 : Option Addr} {sl9 : Array (Option Value)} {oc9 kV9 dc9 pm9 cd9 ct9 : Value}
    {f10 : Addr} {od10 an10 : Option Addr} {sl10 : Array (Option Value)} {oc10 kV10 dc10 pm10 cd10 ct10 : Value}
    {f11 : Addr} {od11 an11 : Option Addr} {sl11 : Array (Option Value)} {oc11 kV11 dc11 pm11 cd11 ct11 : Value}
    {f12 : Addr} {od12 an12 : Option Addr} {sl12 : Array (Option Value)} {oc12 kV12 dc12 pm12 cd12 ct12 : Value}
    {f13 : Addr} {od13 an13 : Option Addr} {sl13 : Array (Option Value)} {oc13 kV13 dc13 pm13 cd13 ct13 : Value}
    {f14 : Addr} {od14 an14 : Option Addr} {sl14 : Array (Option Value)} {oc14 kV14 dc14 pm14 cd14 ct14 : Value}
    {f15 : Addr} {od15 an15 : Option Addr} {sl15 : Array (Option Value)} {oc15 kV15 dc15 pm15 cd15 ct15 : Value}
    {f16 : Addr} {od16 an16 : Option Addr} {sl16 : Array (Option Value)} {oc16 kV16 dc16 pm16 cd16 ct16 : Value}
    {f17 : Addr} {od17 an17 : Option Addr} {sl17 : Array (Option Value)} {oc17 kV17 dc17 pm17 cd17 ct17 : Value}
    {tk3 : Tok}
    {tk6 : Tok}
    {tk7 : Tok}
    {e12 : Addr}
    {e13 : Addr}
    (a0 : PySem.W.nsIn K mainGlobals "is_whole" = some (some (.ref f0))) (l0 : K.lookup f0 = some ⟨oc0, od0, .func (PySem.W.fnOf "is_whole" "is_whole" (defArgs s_is_whole) (defBody s_is_whole) (defScope s_is_whole) .none kV0 dc0 pm0 an0 cd0 ct0), sl0⟩) (c0 : PySem.W.codeIn K cd0 "is_whole" = true) (k0 : PySem.W.keepIn K (.ref f0) = true)
    (a1 : PySem.W.nsIn K mainGlobals "between" = some (some (.ref f1))) (l1 : K.lookup f1 = some ⟨oc1, od1, .func (PySem.W.fnOf "between" "between" (defArgs s_between) (defBody s_between) (defScope s_between) .none kV1 dc1 pm1 an1 cd1 ct1), sl1⟩) (c1 : PySem.W.codeIn K cd1 "between" = true) (k1 : PySem.W.keepIn K (.ref f1) = true)
    (a2 : PySem.W.nsIn K mainGlobals "are_tokens" = some (some (.ref f2))) (l2 : K.lookup f2 = some ⟨oc2, od2, .func (PySem.W.fnOf "are_tokens" "are_tokens" (defArgs s_are_tokens) (defBody s_are_tokens) (defScope s_are_tokens) .none kV2 dc2 pm2 an2 cd2 ct2), sl2⟩) (c2 : PySem.W.codeIn K cd2 "are_tokens" = true) (k2 : PySem.W.keepIn K (.ref f2) = true)
    (a3 : PySem.W.nsIn K mainGlobals "is_net" = some (some (.ref f3))) (l3 : K.lookup f3 = some ⟨oc3, od3, .func (PySem.W.fnOf "is_net" "is_net" (defArgs s_is_net) (defBody s_is_net) (defScope s_is_net) .none kV3 dc3 pm3 an3 cd3 ct3), sl3⟩) (c3 : PySem.W.codeIn K cd3 "is_net" = true) (k3 : PySem.W.keepIn K (.ref f3) = true)
    (a4 : PySem.W.nsIn K mainGlobals "number_of" = some (some (.ref f4))) (l4 : K.lookup f4 = some ⟨oc4, od4, .func (PySem.W.fnOf "number_of" "number_of" (defArgs s_number_of) (defBody s_number_of) (defScope s_number_of) .none kV4 dc4 pm4 an4 cd4 ct4), sl4⟩) (c4 : PySem.W.codeIn K cd4 "number_of" = true) (k4 : PySem.W.keepIn K (.ref f4) = true)
    (a5 : PySem.W.nsIn K mainGlobals "row_of" = some (some (.ref f5))) (l5 : K.lookup f5 = some ⟨oc5, od5, .func (PySem.W.fnOf "row_of" "row_of" (defArgs s_row_of) (defBody s_row_of) (defScope s_row_of) .none kV5 dc5 pm5 an5 cd5 ct5), sl5⟩) (c5 : PySem.W.codeIn K cd5 "row_of" = true) (k5 : PySem.W.keepIn K (.ref f5) = true)
    (a6 : PySem.W.nsIn K mainGlobals "move_of" = some (some (.ref f6))) (l6 : K.lookup f6 = some ⟨oc6, od6, .func (PySem.W.fnOf "move_of" "move_of" (defArgs s_move_of) (defBody s_move_of) (defScope s_move_of) .none kV6 dc6 pm6 an6 cd6 ct6), sl6⟩) (c6 : PySem.W.codeIn K cd6 "move_of" = true) (k6 : PySem.W.keepIn K (.ref f6) = true)
    (a7 : PySem.W.nsIn K mainGlobals "read" = some (some (.ref f7))) (l7 : K.lookup f7 = some ⟨oc7, od7, .func (PySem.W.fnOf "read" "read" (defArgs s_read) (defBody s_read) (defScope s_read) .none kV7 dc7 pm7 an7 cd7 ct7), sl7⟩) (c7 : PySem.W.codeIn K cd7 "read" = true) (k7 : PySem.W.keepIn K (.ref f7) = true)
    (a8 : PySem.W.nsIn K mainGlobals "_law_cell_at" = some (some (.ref f8))) (l8 : K.lookup f8 = some ⟨oc8, od8, .func (PySem.W.fnOf "_law_cell_at" "_law_cell_at" (defArgs s_cell_at_l) (defBody s_cell_at_l) (defScope s_cell_at_l) .none kV8 dc8 pm8 an8 cd8 ct8), sl8⟩) (c8 : PySem.W.codeIn K cd8 "_law_cell_at" = true) (k8 : PySem.W.keepIn K (.ref f8) = true)
    (a9 : PySem.W.nsIn K mainGlobals "_law_mixed" = some (some (.ref f9))) (l9 : K.lookup f9 = some ⟨oc9, od9, .func (PySem.W.fnOf "_law_mixed" "_law_mixed" (defArgs s_mixed_l) (defBody s_mixed_l) (defScope s_mixed_l) .none kV9 dc9 pm9 an9 cd9 ct9), sl9⟩) (c9 : PySem.W.codeIn K cd9 "_law_mixed" = true) (k9 : PySem.W.keepIn K (.ref f9) = true)
    (a10 : PySem.W.nsIn K mainGlobals "_law_move" = some (some (.ref f10))) (l10 : K.lookup f10 = some ⟨oc10, od10, .func (PySem.W.fnOf "_law_move" "_law_move" (defArgs s_move_l) (defBody s_move_l) (defScope s_move_l) .none kV10 dc10 pm10 an10 cd10 ct10), sl10⟩) (c10 : PySem.W.codeIn K cd10 "_law_move" = true) (k10 : PySem.W.keepIn K (.ref f10) = true)
    (a11 : PySem.W.nsIn K mainGlobals "_law_net" = some (some (.ref f11))) (l11 : K.lookup f11 = some ⟨oc11, od11, .func (PySem.W.fnOf "_law_net" "_law_net" (defArgs s_net_l) (defBody s_net_l) (defScope s_net_l) .none kV11 dc11 pm11 an11 cd11 ct11), sl11⟩) (c11 : PySem.W.codeIn K cd11 "_law_net" = true) (k11 : PySem.W.keepIn K (.ref f11) = true)
    (a12 : PySem.W.nsIn K mainGlobals "_law_numbers" = some (some (.ref f12))) (l12 : K.lookup f12 = some ⟨oc12, od12, .func (PySem.W.fnOf "_law_numbers" "_law_numbers" (defArgs s_numbers_l) (defBody s_numbers_l) (defScope s_numbers_l) .none kV12 dc12 pm12 an12 cd12 ct12), sl12⟩) (c12 : PySem.W.codeIn K cd12 "_law_numbers" = true) (k12 : PySem.W.keepIn K (.ref f12) = true)
    (a13 : PySem.W.nsIn K mainGlobals "_law_net_of" = some (some (.ref f13))) (l13 : K.lookup f13 = some ⟨oc13, od13, .func (PySem.W.fnOf "_law_net_of" "_law_net_of" (defArgs s_net_of_l) (defBody s_net_of_l) (defScope s_net_of_l) .none kV13 dc13 pm13 an13 cd13 ct13), sl13⟩) (c13 : PySem.W.codeIn K cd13 "_law_net_of" = true) (k13 : PySem.W.keepIn K (.ref f13) = true)
    (a14 : PySem.W.nsIn K mainGlobals "_law_written" = some (some (.ref f14))) (l14 : K.lookup f14 = some ⟨oc14, od14, .func (PySem.W.fnOf "_law_written" "_law_written" (defArgs s_written_l) (defBody s_written_l) (defScope s_written_l) .none kV14 dc14 pm14 an14 cd14 ct14), sl14⟩) (c14 : PySem.W.codeIn K cd14 "_law_written" = true) (k14 : PySem.W.keepIn K (.ref f14) = true)
    (a15 : PySem.W.nsIn K mainGlobals "_law_spoilt" = some (some (.ref f15))) (l15 : K.lookup f15 = some ⟨oc15, od15, .func (PySem.W.fnOf "_law_spoilt" "_law_spoilt" (defArgs s_spoilt_l) (defBody s_spoilt_l) (defScope s_spoilt_l) .none kV15 dc15 pm15 an15 cd15 ct15), sl15⟩) (c15 : PySem.W.codeIn K cd15 "_law_spoilt" = true) (k15 : PySem.W.keepIn K (.ref f15) = true)
    (a16 : PySem.W.nsIn K mainGlobals "_law_refused" = some (some (.ref f16))) (l16 : K.lookup f16 = some ⟨oc16, od16, .func (PySem.W.fnOf "_law_refused" "_law_refused" (defArgs s_refused_l) (defBody s_refused_l) (defScope s_refused_l) .none kV16 dc16 pm16 an16 cd16 ct16), sl16⟩) (c16 : PySem.W.codeIn K cd16 "_law_refused" = true) (k16 : PySem.W.keepIn K (.ref f16) = true)
    (a17 : PySem.W.nsIn K mainGlobals "law" = some (some (.ref f17))) (l17 : K.lookup f17 = some ⟨oc17, od17, .func (PySem.W.fnOf "law" "law" (defArgs s_law) (defBody s_law) (defScope s_law) .none kV17 dc17 pm17 an17 cd17 ct17), sl17⟩) (c17 : PySem.W.codeIn K cd17 "law" = true) (k17 : PySem.W.keepIn K (.ref f17) = true)
    (z0 : PySem.W.nsIn K mainGlobals "isinstance" = some none)
    (z1 : PySem.W.nsIn K mainGlobals "int" = some none)
    (z2 : PySem.W.nsIn K mainGlobals "bool" = some none)
    (z3 : PySem.W.nsIn K mainGlobals "TOKENS" = some (some (.int 9 tk3)))
    (z4 : PySem.W.nsIn K mainGlobals "tuple" = some none)
    (z5 : PySem.W.nsIn K mainGlobals "len" = some none)
    (z6 : PySem.W.nsIn K mainGlobals "MOVES" = some (some (.int 10 tk6)))
    (z7 : PySem.W.nsIn K mainGlobals "PLACES" = some (some (.int 6 tk7)))
    (z8 : PySem.W.nsIn K mainGlobals "str" = some none)
    (z9 : PySem.W.nsIn K mainGlobals "range" = some none)
    (z10 : PySem.W.nsIn K mainGlobals "sum" = some none)
    (z11 : PySem.W.nsIn K mainGlobals "ValueError" = some none)
    (z12 : PySem.W.nsIn K mainGlobals "NoText" = some (some (.ref e12)))
    (x12 : PySem.W.excIn K e12 [.type "ValueError", .type "Exception", .type "BaseException", .type "object"] "ValueError.__new__" = true) (kp12 : PySem.W.keepIn K (.ref e12) = true) (sb12 : PySem.W.subIn K (.ref e12) (.type "BaseException") = some true) (ty12 : PySem.W.typeIn K (.ref e12) = some (.type "type"))
    (z13 : PySem.W.nsIn K mainGlobals "TokenError" = some (some (.ref e13)))
    (ef_NoText : ErrF K e12 e13) :
    ∃ fd : FuncData, (∀ (s : Shared) (v : Value), BindsTo s fd ⟨[v], []⟩ [("_law_script", v)]) ∧ ∀ base : Heap, K.In base → base.Ns mainGlobals mg → FnOk l.prog w K mg base CX0 7 fa fd ["_law_script"] (SpD K F_law) := by
  have e := hfa.symm.trans (PySem.W.mg_of X G a17)
  cases e
  exact ⟨PySem.W.fnOf "law" "law" (defArgs s_law) (defBody s_law) (defScope s_law) .none kV17 dc17 pm17 an17 cd17 ct17, fun s v => .of_eq rfl, fun base _ _ => ok_law ⟨f0,
    PySem.W.fnOf "is_whole" "is_whole" (defArgs s_is_whole) (defBody s_is_whole) (defScope s_is_whole) .none kV0 dc0 pm0 an0 cd0 ct0,
    fun_mk (st := s_is_whole) l0 c0 k0,
    (fun_mk (st := s_is_whole) l0 c0 k0).binds (ps := ["thing"]) (fun _ _ _ _ _ _ us hl => match us, hl with | [_], _ => rfl),
    PySem.W.mg_of X G a0,
    f1,
    PySem.W.fnOf "between" "between" (defArgs s_between) (defBody s_between) (defScope s_between) .none kV1 dc1 pm1 an1 cd1 ct1,
    fun_mk (st := s_between) l1 c1 k1,
    (fun_mk (st := s_between) l1 c1 k1).binds (ps := ["thing", "low", "most"]) (fun _ _ _ _ _ _ us hl => match us, hl with | [_, _, _], _ => rfl),
    PySem.W.mg_of X G a1,
    f2,
    PySem.W.fnOf "are_tokens" "are_tokens" (defArgs s_are_tokens) (defBody s_are_tokens) (defScope s_are_tokens) .none kV2 dc2 pm2 an2 cd2 ct2,
    fun_mk (st := s_are_tokens) l2 c2 k2,
    (fun_mk (st := s_are_tokens) l2 c2 k2).binds (ps := ["thing", "size"]) (fun _ _ _ _ _ _ us hl => match us, hl with | [_, _], _ => rfl),
    PySem.W.mg_of X G a2,
    f3,
    PySem.W.fnOf "is_net" "is_net" (defArgs s_is_net) (defBody s_is_net) (defScope s_is_net) .none kV3 dc3 pm3 an3 cd3 ct3,
    fun_mk (st := s_is_net) l3 c3 k3,
    (fun_mk (st := s_is_net) l3 c3 k3).binds (ps := ["thing"]) (fun _ _ _ _ _ _ us hl => match us, hl with | [_], _ => rfl),
    PySem.W.mg_of X G a3,
    f4,
    PySem.W.fnOf "number_of" "number_of" (defArgs s_number_of) (defBody s_number_of) (defScope s_number_of) .none kV4 dc4 pm4 an4 cd4 ct4,
    fun_mk (st := s_number_of) l4 c4 k4,
    (fun_mk (st := s_number_of) l4 c4 k4).binds (ps := ["word"]) (fun _ _ _ _ _ _ us hl => match us, hl with | [_], _ => rfl),
    PySem.W.mg_of X G a4,
    f5,
    PySem.W.fnOf "row_of" "row_of" (defArgs s_row_of) (defBody s_row_of) (defScope s_row_of) .none kV5 dc5 pm5 an5 cd5 ct5,
    fun_mk (st := s_row_of) l5 c5 k5,
    (fun_mk (st := s_row_of) l5 c5 k5).binds (ps := ["words"]) (fun _ _ _ _ _ _ us hl => match us, hl with | [_], _ => rfl),
    PySem.W.mg_of X G a5,
    f6,
    PySem.W.fnOf "move_of" "move_of" (defArgs s_move_of) (defBody s_move_of) (defScope s_move_of) .none kV6 dc6 pm6 an6 cd6 ct6,
    fun_mk (st := s_move_of) l6 c6 k6,
    (fun_mk (st := s_move_of) l6 c6 k6).binds (ps := ["piece"]) (fun _ _ _ _ _ _ us hl => match us, hl with | [_], _ => rfl),
    PySem.W.mg_of X G a6,
    f7,
    PySem.W.fnOf "read" "read" (defArgs s_read) (defBody s_read) (defScope s_read) .none kV7 dc7 pm7 an7 cd7 ct7,
    fun_mk (st := s_read) l7 c7 k7,
    (fun_mk (st := s_read) l7 c7 k7).binds (ps := ["text"]) (fun _ _ _ _ _ _ us hl => match us, hl with | [_], _ => rfl),
    PySem.W.mg_of X G a7,
    f8,
    PySem.W.fnOf "_law_cell_at" "_law_cell_at" (defArgs s_cell_at_l) (defBody s_cell_at_l) (defScope s_cell_at_l) .none kV8 dc8 pm8 an8 cd8 ct8,
    fun_mk (st := s_cell_at_l) l8 c8 k8,
    (fun_mk (st := s_cell_at_l) l8 c8 k8).binds (ps := ["_law_script", "_law_k"]) (fun _ _ _ _ _ _ us hl => match us, hl with | [_, _], _ => rfl),
    PySem.W.mg_of X G a8,
    f9,
    PySem.W.fnOf "_law_mixed" "_law_mixed" (defArgs s_mixed_l) (defBody s_mixed_l) (defScope s_mixed_l) .none kV9 dc9 pm9 an9 cd9 ct9,
    fun_mk (st := s_mixed_l) l9 c9 k9,
    (fun_mk (st := s_mixed_l) l9 c9 k9).binds (ps := ["_law_script", "_law_k", "_law_many"]) (fun _ _ _ _ _ _ us hl => match us, hl with | [_, _, _], _ => rfl),
    PySem.W.mg_of X G a9,
    f10,
    PySem.W.fnOf "_law_move" "_law_move" (defArgs s_move_l) (defBody s_move_l) (defScope s_move_l) .none kV10 dc10 pm10 an10 cd10 ct10,
    fun_mk (st := s_move_l) l10 c10 k10,
    (fun_mk (st := s_move_l) l10 c10 k10).binds (ps := ["_law_script", "_law_at", "_law_size", "_law_even"]) (fun _ _ _ _ _ _ us hl => match us, hl with | [_, _, _, _], _ => rfl),
    PySem.W.mg_of X G a10,
    f11,
    PySem.W.fnOf "_law_net" "_law_net" (defArgs s_net_l) (defBody s_net_l) (defScope s_net_l) .none kV11 dc11 pm11 an11 cd11 ct11,
    fun_mk (st := s_net_l) l11 c11 k11,
    (fun_mk (st := s_net_l) l11 c11 k11).binds (ps := ["_law_script", "_law_at"]) (fun _ _ _ _ _ _ us hl => match us, hl with | [_, _], _ => rfl),
    PySem.W.mg_of X G a11,
    f12,
    PySem.W.fnOf "_law_numbers" "_law_numbers" (defArgs s_numbers_l) (defBody s_numbers_l) (defScope s_numbers_l) .none kV12 dc12 pm12 an12 cd12 ct12,
    fun_mk (st := s_numbers_l) l12 c12 k12,
    (fun_mk (st := s_numbers_l) l12 c12 k12).binds (ps := ["_law_words", "_law_size"]) (fun _ _ _ _ _ _ us hl => match us, hl with | [_, _], _ => rfl),
    PySem.W.mg_of X G a12,
    f13,
    PySem.W.fnOf "_law_net_of" "_law_net_of" (defArgs s_net_of_l) (defBody s_net_of_l) (defScope s_net_of_l) .none kV13 dc13 pm13 an13 cd13 ct13,
    fun_mk (st := s_net_of_l) l13 c13 k13,
    (fun_mk (st := s_net_of_l) l13 c13 k13).binds (ps := ["_law_line"]) (fun _ _ _ _ _ _ us hl => match us, hl with | [_], _ => rfl),
    PySem.W.mg_of X G a13,
    f14,
    PySem.W.fnOf "_law_written" "_law_written" (defArgs s_written_l) (defBody s_written_l) (defScope s_written_l) .none kV14 dc14 pm14 an14 cd14 ct14,
    fun_mk (st := s_written_l) l14 c14 k14,
    (fun_mk (st := s_written_l) l14 c14 k14).binds (ps := ["_law_net_here"]) (fun _ _ _ _ _ _ us hl => match us, hl with | [_], _ => rfl),
    PySem.W.mg_of X G a14,
    f15,
    PySem.W.fnOf "_law_spoilt" "_law_spoilt" (defArgs s_spoilt_l) (defBody s_spoilt_l) (defScope s_spoilt_l) .none kV15 dc15 pm15 an15 cd15 ct15,
    fun_mk (st := s_spoilt_l) l15 c15 k15,
    (fun_mk (st := s_spoilt_l) l15 c15 k15).binds (ps := ["_law_line", "_law_way", "_law_cell"]) (fun _ _ _ _ _ _ us hl => match us, hl with | [_, _, _], _ => rfl),
    PySem.W.mg_of X G a15,
    f16,
    PySem.W.fnOf "_law_refused" "_law_refused" (defArgs s_refused_l) (defBody s_refused_l) (defScope s_refused_l) .none kV16 dc16 pm16 an16 cd16 ct16,
    fun_mk (st := s_refused_l) l16 c16 k16,
    (fun_mk (st := s_refused_l) l16 c16 k16).binds (ps := ["_law_line"]) (fun _ _ _ _ _ _ us hl => match us, hl with | [_], _ => rfl),
    PySem.W.mg_of X G a16,
    fa,
    PySem.W.fnOf "law" "law" (defArgs s_law) (defBody s_law) (defScope s_law) .none kV17 dc17 pm17 an17 cd17 ct17,
    fun_mk (st := s_law) l17 c17 k17,
    (fun_mk (st := s_law) l17 c17 k17).binds (ps := ["_law_script"]) (fun _ _ _ _ _ _ us hl => match us, hl with | [_], _ => rfl),
    PySem.W.mg_of X G a17,
    PySem.W.mg_none_of X G z0,
    PySem.W.mg_none_of X G z1,
    PySem.W.mg_none_of X G z2,
    tk3,
    PySem.W.mg_of X G z3,
    PySem.W.mg_none_of X G z4,
    PySem.W.mg_none_of X G z5,
    tk6,
    PySem.W.mg_of X G z6,
    tk7,
    PySem.W.mg_of X G z7,
    PySem.W.mg_none_of X G z8,
    PySem.W.mg_none_of X G z9,
    PySem.W.mg_none_of X G z10,
    PySem.W.mg_none_of X G z11,
    e12,
    PySem.W.mg_of X G z12,
    x12,
    kp12,
    sb12,
    ty12,
    e13,
    PySem.W.mg_of X G z13,
    ef_NoText⟩⟩
end Tw
open PySem PySem.W PyProof.Rows
set_option maxHeartbeats 0 in
set_option maxRecDepth 100000 in
theorem PySem.Challenge.cw_tokenwall_k19_texts_refused_holds : PySem.Challenge.rw_tokenwall_k19_texts_refused.Holds := by
  w_on; o_law; k_head; (case hw => w_witness2)
  k_fill
  refine L2.walk_of (l := PySem.Challenge.rw_tokenwall_k19_texts_refused) (n := 63) (k := 7) (x := "_law_script") (CX := fun _ => L2.CX0) (sp := fun w => Tw.SpD _ Tw.F_law) rfl (by decide) rfl ⟨rfl, by decide, by decide⟩ (fun w h Y => PySem.W.kIn_of Y) ?F (fun _ H a ns hl _ hS => Tw.law_start (Tw.holds_law ns hl) hS) (fun _ _ _ _ _ h => h)
  case F =>
    intro w mg fa h KX G hmg
    refine' Tw.all_mk KX G hmg ?a0 ?l0 ?c0 ?k0 ?a1 ?l1 ?c1 ?k1 ?a2 ?l2 ?c2 ?k2 ?a3 ?l3 ?c3 ?k3 ?a4 ?l4 ?c4 ?k4 ?a5 ?l5 ?c5 ?k5 ?a6 ?l6 ?c6 ?k6 ?a7 ?l7 ?c7 ?k7 ?a8 ?l8 ?c8 ?k8 ?a9 ?l9 ?c9 ?k9 ?a10 ?l10 ?c10 ?k10 ?a11 ?l11 ?c11 ?k11 ?a12 ?l12 ?c12 ?k12 ?a13 ?l13 ?c13 ?k13 ?a14 ?l14 ?c14 ?k14 ?a15 ?l15 ?c15 ?k15 ?a16 ?l16 ?c16 ?k16 ?a17 ?l17 ?c17 ?k17 ?z0 ?z1 ?z2 ?z3 ?z4 ?z5 ?z6 ?z7 ?z8 ?z9 ?z10 ?z11 ?z12 ?x12 ?kp12 ?sb12 ?ty12 ?z13 ?ef_NoText
    (case a0 => k_is)
    (case l0 => k_is)
    (case c0 => k_is)
    (case k0 => k_is)
    (case a1 => k_is)
    (case l1 => k_is)
    (case c1 => k_is)
    (case k1 => k_is)
    (case a2 => k_is)
    (case l2 => k_is)
    (case c2 => k_is)
    (case k2 => k_is)
    (case a3 => k_is)
    (case l3 => k_is)
    (case c3 => k_is)
    (case k3 => k_is)
    (case a4 => k_is)
    (case l4 => k_is)
    (case c4 => k_is)
    (case k4 => k_is)
    (case a5 => k_is)
    (case l5 => k_is)
    (case c5 => k_is)
    (case k5 => k_is)
    (case a6 => k_is)
    (case l6 => k_is)
    (case c6 => k_is)
    (case k6 => k_is)
    (case a7 => k_is)
    (case l7 => k_is)
    (case c7 => k_is)
    (case k7 => k_is)
    (case a8 => k_is)
    (case l8 => k_is)
    (case c8 => k_is)
    (case k8 => k_is)
    (case a9 => k_is)
    (case l9 => k_is)
    (case c9 => k_is)
    (case k9 => k_is)
    (case a10 => k_is)
    (case l10 => k_is)
    (case c10 => k_is)
    (case k10 => k_is)
    (case a11 => k_is)
    (case l11 => k_is)
    (case c11 => k_is)
    (case k11 => k_is)
    (case a12 => k_is)
    (case l12 => k_is)
    (case c12 => k_is)
    (case k12 => k_is)
    (case a13 => k_is)
    (case l13 => k_is)
    (case c13 => k_is)
    (case k13 => k_is)
    (case a14 => k_is)
    (case l14 => k_is)
    (case c14 => k_is)
    (case k14 => k_is)
    (case a15 => k_is)
    (case l15 => k_is)
    (case c15 => k_is)
    (case k15 => k_is)
    (case a16 => k_is)
    (case l16 => k_is)
    (case c16 => k_is)
    (case k16 => k_is)
    (case a17 => k_is)
    (case l17 => k_is)
    (case c17 => k_is)
    (case k17 => k_is)
    (case z0 => k_is)
    (case z1 => k_is)
    (case z2 => k_is)
    (case z3 => k_is)
    (case z4 => k_is)
    (case z5 => k_is)
    (case z6 => k_is)
    (case z7 => k_is)
    (case z8 => k_is)
    (case z9 => k_is)
    (case z10 => k_is)
    (case z11 => k_is)
    (case z12 => k_is)
    (case x12 => first | k_exc | k_is)
    (case kp12 => k_is)
    (case sb12 => k_is)
    (case ty12 => k_is)
    (case z13 => k_is)
    (case ef_NoText => (refine Tw.errF_of ⟨?_, ?_, ?_, ?_, ?_, ?_, ?_, ?_⟩ ?_ ?_ ?_ ?_ ?_ ?_ ?_ <;> k_is))

