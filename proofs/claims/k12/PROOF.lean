import PyProof.Rows.All
import Wide.All
import OpenK.AllK
import Wide.FinOn
import PySem.Challenge.RW_tokenwall_k12_whole_round_counts
import HandS.ForExc
import HandS.Comp
import HandS.Walk
import HandS.Dict
import HandS.IsInst
import HandS.Wide
import HandS.TupAny
import HandS.TupMul
import HandS.TupLe
import HandS.Deep
import HandS.Zip
import HandS.Style
import HandS.Text
import KE.GoesEnum
import HandS.ExcIs
import HandS.ExcInit
import HandS.ExcField
import KE.KExcIs
import HandS.SetFor
import HandS.Strs
import PyProof.NoPylong
set_option Elab.async false
set_option linter.all false
set_option maxRecDepth 100000
set_option maxHeartbeats 4000000
/-! Tw1: a layer of data over the hand layer. A def is walked over plain data (PyData): what a slot holds (Sl), what an expression
is worth (Ev), what a statement leads to (As); the heap is hidden behind two views: H as it stands, I the part that never changes. -/
namespace Tw
open PySem PySem.Spec PyProof.Rows L2

theorem same_new {H : Hp} {p : Addr} {o : HO} (h : H p = none) : Same H (upd H p o) := fun b x e => by
  rw [upd_ne (ne_of_none e h)]
  exact e
theorem same_t {K : PySem.W.Frag} {H H' : Hp} {a : Addr} {xs : List V} (e : Same H H') (h : SqT K H a xs) : SqT K H' a xs := by
  rcases h with (h | ⟨o, h⟩) | h
  · exact .inl (.inl (e _ _ h))
  · exact .inl (.inr ⟨o, e _ _ h⟩)
  · exact .inr h

/-- the world moves on: (H, I) to (H', I') -/
structure Nx (H I H' I' : Hp) : Prop where
  h : Same H H'
  i : Same I I'
  s : Same I' H'
  f : ∀ p o, H p = some o → I p = none → I' p = none
theorem Nx.refl {H I : Hp} (s : Same I H) : Nx H I H I := ⟨Same.refl _, Same.refl _, s, fun _ _ _ e => e⟩
theorem Nx.trans {H I H1 I1 H2 I2 : Hp} (a : Nx H I H1 I1) (b : Nx H1 I1 H2 I2) : Nx H I H2 I2 :=
  ⟨a.h.trans b.h, a.i.trans b.i, b.s, fun p o e n => b.f p o (a.h p o e) (a.f p o e n)⟩
/-- a new object, known at once -/
theorem Nx.new {H I : Hp} {p : Addr} {o : HO} (s : Same I H) (h : H p = none) : Nx H I (upd H p o) (upd I p o) := by
  have hi : I p = none := s.free h
  refine ⟨same_new h, same_new hi, fun b x e => ?_, fun q x e n => ?_⟩
  · by_cases hb : b = p
    · subst hb
      rw [upd_same] at e ⊢
      exact e
    · rw [upd_ne hb] at e ⊢
      exact s b x e
  · rw [upd_ne (ne_of_none e h)]
    exact n
/-- a new object, not told yet -/
theorem Nx.own {H I : Hp} {p : Addr} {o : HO} (s : Same I H) (h : H p = none) : Nx H I (upd H p o) I :=
  ⟨same_new h, Same.refl _, s.trans (same_new h), fun _ _ _ n => n⟩
/-- the base may be taken later -/
theorem Nx.rebase {G I0 H1 I1 H I : Hp} (a : Nx G I0 H1 I1) (b : Nx G I1 H I) : Nx G I0 H I :=
  ⟨b.h, a.i.trans b.i, b.s, fun p o e n => b.f p o e (a.f p o e n)⟩
theorem Nx.onto {G I0 H1 I1 H I : Hp} (a : Nx G I0 H1 I1) (b : Nx H1 I1 H I) : Nx G I1 H I :=
  ⟨a.h.trans b.h, b.i, b.s, fun p o e n => b.f p o (a.h p o e) n⟩
theorem Nx.here {G I0 H I : Hp} (a : Nx G I0 H I) : Nx G I H I := ⟨a.h, Same.refl _, a.s, fun _ _ _ n => n⟩

/-! ### data -/
mutual
inductive Rp (K : PySem.W.Frag) (I : Hp) : V → PyData → Prop
  | non : Rp K I .non .none
  | bl (b : Bool) : Rp K I (.bl b) (.bool b)
  | int (i : Int) : Rp K I (.int i) (.int i)
  | str (x : Str) : Rp K I (.str x) (.str x)
  | lst {a : Addr} {xs : List V} {ds : List PyData} : I a = some (.lst xs) → RpAll K I xs ds → Rp K I (.ref a) (.list ds)
  | tup {a : Addr} {xs : List V} {ds : List PyData} : I a = some (.tup xs) → RpAll K I xs ds → Rp K I (.ref a) (.tuple ds)
  /-- some dict -/
  | dct {a : Addr} {kvs : List (Key × V)} : I a = some (.dK kvs) → Rp K I (.ref a) (.dict [])
  /-- the script, told as a dict that no program makes -/
  | scr {a : Addr} {ns : List Int} : SqL K I a (ns.map V.int) → Rp K I (.ref a) (.dict [(.none, .list (ns.map .int))])
inductive RpAll (K : PySem.W.Frag) (I : Hp) : List V → List PyData → Prop
  | nil : RpAll K I [] []
  | cons {v : V} {vs : List V} {d : PyData} {ds : List PyData} : Rp K I v d → RpAll K I vs ds → RpAll K I (v :: vs) (d :: ds)
end
section
variable {K : PySem.W.Frag} {I I' : Hp}
mutual
theorem Rp.mono (e : Same I I') : ∀ {v : V} {d : PyData}, Rp K I v d → Rp K I' v d
  | _, _, .non => .non
  | _, _, .bl b => .bl b
  | _, _, .int i => .int i
  | _, _, .str x => .str x
  | _, _, .lst h r => .lst (e _ _ h) (RpAll.mono e r)
  | _, _, .tup h r => .tup (e _ _ h) (RpAll.mono e r)
  | _, _, .dct h => .dct (e _ _ h)
  | _, _, .scr h => .scr (e.seq h)
theorem RpAll.mono (e : Same I I') : ∀ {vs : List V} {ds : List PyData}, RpAll K I vs ds → RpAll K I' vs ds
  | _, _, .nil => .nil
  | _, _, .cons h r => .cons (Rp.mono e h) (RpAll.mono e r)
end
mutual
theorem Rp.dp : ∀ {v : V} {d : PyData}, Rp K I v d → d.canLay0 = true → Dp K I v d
  | _, _, .non, _ => .non
  | _, _, .bl b, _ => .bl b
  | _, _, .int i, _ => .int i
  | _, _, .str x, _ => .str x
  | _, _, .lst h r, c => .lst (.of h) (RpAll.dp r c)
  | _, _, .tup h r, c => .tup (.of h) (RpAll.dp r c)
  | _, _, .dct h, c => by cases c
  | _, _, .scr h, c => by cases c
theorem RpAll.dp : ∀ {vs : List V} {ds : List PyData}, RpAll K I vs ds → PyData.canLayAll0 ds = true → DpAll K I vs ds
  | _, _, .nil, _ => .nil
  | _, _, .cons h r, c => by
    have c' := Bool.and_eq_true_iff.mp (show (_ && _) = true from c)
    exact .cons (Rp.dp h c'.1) (RpAll.dp r c'.2)
end
theorem RpAll.length : ∀ {vs : List V} {ds : List PyData}, RpAll K I vs ds → vs.length = ds.length
  | _, _, .nil => rfl
  | _, _, .cons _ r => by rw [List.length_cons, List.length_cons, RpAll.length r]
theorem RpAll.get : ∀ {vs : List V} {ds : List PyData} {i : Nat} {d : PyData}, RpAll K I vs ds → ds[i]? = some d → ∃ v, vs[i]? = some v ∧ Rp K I v d
  | _, _, _, _, .nil, e => by simp at e
  | _, _, 0, _, .cons h _, e => by simp at e; subst e; exact ⟨_, rfl, h⟩
  | _, _, i + 1, d, .cons _ r, e => by
    obtain ⟨v, h1, h2⟩ := RpAll.get (i := i) (d := d) r (by simpa using e)
    exact ⟨v, by simpa using h1, h2⟩
theorem RpAll.app : ∀ {vs ws : List V} {ds es : List PyData}, RpAll K I vs ds → RpAll K I ws es → RpAll K I (vs ++ ws) (ds ++ es)
  | _, _, _, _, .nil, q => q
  | _, _, _, _, .cons h r, q => .cons h (RpAll.app r q)
theorem RpAll.set {v : V} {d : PyData} (h : Rp K I v d) : ∀ {vs : List V} {ds : List PyData} (i : Nat), RpAll K I vs ds → RpAll K I (vs.set i v) (ds.set i d)
  | _, _, _, .nil => .nil
  | _, _, 0, .cons _ r => .cons h r
  | _, _, i + 1, .cons q r => .cons q (RpAll.set h i r)
theorem RpAll.take : ∀ {vs : List V} {ds : List PyData} (n : Nat), RpAll K I vs ds → RpAll K I (vs.take n) (ds.take n)
  | _, _, 0, _ => .nil
  | _, _, _ + 1, .nil => .nil
  | _, _, n + 1, .cons h r => .cons h (RpAll.take n r)
theorem RpAll.drop : ∀ {vs : List V} {ds : List PyData} (n : Nat), RpAll K I vs ds → RpAll K I (vs.drop n) (ds.drop n)
  | _, _, 0, r => r
  | _, _, _ + 1, .nil => .nil
  | _, _, n + 1, .cons _ r => RpAll.drop n r
theorem RpAll.rev : ∀ {vs : List V} {ds : List PyData}, RpAll K I vs ds → RpAll K I vs.reverse ds.reverse
  | _, _, .nil => .nil
  | _, _, .cons h r => by
    rw [List.reverse_cons, List.reverse_cons]
    exact (RpAll.rev r).app (.cons h .nil)
/-- no list (and no dict) within -/
def solid : PyData → Bool
  | .list _ => false
  | .dict _ => false
  | .tuple ds => solidAll ds
  | _ => true
where solidAll : List PyData → Bool
  | [] => true
  | d :: ds => solid d && solidAll ds
/-- what holds no list doesn't lean on a list -/
theorem tup_off {p : Addr} {vs : List V} (hp : I p = some (.lst vs)) {a : Addr} {xs : List V} (h : I a = some (.tup xs)) : (fun b => if b = p then none else I b) a = some (HO.tup xs) := by
  show (if a = p then none else I a) = _
  rw [if_neg (fun z => by rw [z, hp] at h; cases h)]
  exact h
mutual
theorem Rp.off {p : Addr} {vs : List V} (hp : I p = some (.lst vs)) : ∀ {v : V} {d : PyData}, Rp K I v d → solid d = true → Rp K (fun b => if b = p then none else I b) v d
  | _, _, .non, _ => .non
  | _, _, .bl b, _ => .bl b
  | _, _, .int i, _ => .int i
  | _, _, .str x, _ => .str x
  | _, _, .lst h r, c => by cases c
  | _, _, .tup h r, c => .tup (tup_off hp h) (RpAll.off hp r c)
  | _, _, .dct h, c => by cases c
  | _, _, .scr h, c => by cases c
theorem RpAll.off {p : Addr} {vs : List V} (hp : I p = some (.lst vs)) : ∀ {ws : List V} {ds : List PyData}, RpAll K I ws ds → solid.solidAll ds = true → RpAll K (fun b => if b = p then none else I b) ws ds
  | _, _, .nil, _ => .nil
  | _, _, .cons h r, c => by
    have c' := Bool.and_eq_true_iff.mp (show (_ && _) = true from c)
    exact .cons (Rp.off hp h c'.1) (RpAll.off hp r c'.2)
end
end

/-! ### slots -/
inductive Sl where
  /-- nothing is known -/
  | no
  /-- data that no one changes -/
  | d (x : PyData)
  /-- a list of the def's own, that it may change -/
  | own (xs : List PyData)
structure RelS (K : PySem.W.Frag) (G H I : Hp) (σ : L2.St) (δ : List Sl) : Prop where
  len : σ.length = δ.length
  d : ∀ (i : Nat) (x : PyData), δ[i]? = some (Sl.d x) → ∃ v : V, σ[i]? = some (some v) ∧ Rp K I v x
  own : ∀ (i : Nat) (xs : List PyData), δ[i]? = some (Sl.own xs) → ∃ (p : Addr) (vs : List V), σ[i]? = some (some (V.ref p)) ∧ G p = none ∧ I p = none ∧ H p = some (.lst vs) ∧ RpAll K I vs xs
  sep : ∀ (i j : Nat) (xs ys : List PyData) (p : Addr), i ≠ j → δ[i]? = some (Sl.own xs) → δ[j]? = some (Sl.own ys) → σ[i]? = some (some (V.ref p)) → σ[j]? = some (some (V.ref p)) → False
section
variable {K : PySem.W.Frag} {G H I H' I' : Hp} {σ : L2.St} {δ : List Sl}
theorem RelS.next (r : RelS K G H I σ δ) (n : Nx H I H' I') : RelS K G H' I' σ δ where
  len := r.len
  d := fun i x e => by
    obtain ⟨v, h1, h2⟩ := r.d i x e
    exact ⟨v, h1, h2.mono n.i⟩
  own := fun i xs e => by
    obtain ⟨p, vs, h1, h2, h3, h4, h5⟩ := r.own i xs e
    exact ⟨p, vs, h1, h2, n.f p _ h4 h3, n.h p _ h4, h5.mono n.i⟩
  sep := r.sep
theorem set_get {α : Type} {l : List α} {i j : Nat} {x y : α} (e : (l.set i x)[j]? = some y) : (j = i ∧ i < l.length ∧ y = x) ∨ (j ≠ i ∧ l[j]? = some y) := by
  by_cases h : j = i
  · subst h
    by_cases hl : j < l.length
    · rw [List.getElem?_set_self hl] at e
      exact .inl ⟨rfl, hl, (Option.some.inj e).symm⟩
    · rw [List.getElem?_eq_none_iff.mpr (by rw [List.length_set]; omega)] at e
      cases e
  · rw [List.getElem?_set_ne (Ne.symm h)] at e
    exact .inr ⟨h, e⟩
/-- a slot takes a value -/
theorem RelS.put (r : RelS K G H I σ δ) {i : Nat} {v : V} {x : PyData} (h : Rp K I v x) : RelS K G H I (σ.set i (some v)) (δ.set i (.d x)) where
  len := by rw [List.length_set, List.length_set, r.len]
  d := fun j y e => by
    rcases set_get e with ⟨rfl, hl, e'⟩ | ⟨hn, e'⟩
    · cases e'
      exact ⟨v, by rw [List.getElem?_set_self (by rw [r.len]; exact hl)], h⟩
    · obtain ⟨u, h1, h2⟩ := r.d j y e'
      exact ⟨u, by rw [List.getElem?_set_ne (Ne.symm hn)]; exact h1, h2⟩
  own := fun j xs e => by
    rcases set_get e with ⟨rfl, hl, e'⟩ | ⟨hn, e'⟩
    · cases e'
    · obtain ⟨p, vs, h1, h2⟩ := r.own j xs e'
      exact ⟨p, vs, by rw [List.getElem?_set_ne (Ne.symm hn)]; exact h1, h2⟩
  sep := fun j k xs ys p hn e1 e2 f1 f2 => by
    rcases set_get e1 with ⟨rfl, hl, e'⟩ | ⟨n1, e1'⟩
    · cases e'
    · rcases set_get e2 with ⟨rfl, hl, e'⟩ | ⟨n2, e2'⟩
      · cases e'
      · rw [List.getElem?_set_ne (Ne.symm n1)] at f1
        rw [List.getElem?_set_ne (Ne.symm n2)] at f2
        exact r.sep j k xs ys p hn e1' e2' f1 f2
theorem RelS.none (r : RelS K G H I σ δ) {i : Nat} {o : Option V} : RelS K G H I (σ.set i o) (δ.set i .no) where
  len := by rw [List.length_set, List.length_set, r.len]
  d := fun j y e => by
    rcases set_get e with ⟨rfl, hl, e'⟩ | ⟨hn, e'⟩
    · cases e'
    · obtain ⟨u, h1, h2⟩ := r.d j y e'
      exact ⟨u, by rw [List.getElem?_set_ne (Ne.symm hn)]; exact h1, h2⟩
  own := fun j xs e => by
    rcases set_get e with ⟨rfl, hl, e'⟩ | ⟨hn, e'⟩
    · cases e'
    · obtain ⟨p, vs, h1, h2⟩ := r.own j xs e'
      exact ⟨p, vs, by rw [List.getElem?_set_ne (Ne.symm hn)]; exact h1, h2⟩
  sep := fun j k xs ys p hn e1 e2 f1 f2 => by
    rcases set_get e1 with ⟨rfl, hl, e'⟩ | ⟨n1, e1'⟩
    · cases e'
    · rcases set_get e2 with ⟨rfl, hl, e'⟩ | ⟨n2, e2'⟩
      · cases e'
      · rw [List.getElem?_set_ne (Ne.symm n1)] at f1
        rw [List.getElem?_set_ne (Ne.symm n2)] at f2
        exact r.sep j k xs ys p hn e1' e2' f1 f2
/-- a slot takes a new list of its own -/
theorem RelS.make (r : RelS K G H I σ δ) {i : Nat} {p : Addr} {vs : List V} {xs : List PyData} (s : Same I H) (g : Same G H) (h : H p = Option.none) (q : RpAll K I vs xs) :
    RelS K G (upd H p (.lst vs)) I (σ.set i (some (.ref p))) (δ.set i (.own xs)) where
  len := by rw [List.length_set, List.length_set, r.len]
  d := fun j y e => by
    rcases set_get e with ⟨rfl, hl, e'⟩ | ⟨hn, e'⟩
    · cases e'
    · obtain ⟨u, h1, h2⟩ := r.d j y e'
      exact ⟨u, by rw [List.getElem?_set_ne (Ne.symm hn)]; exact h1, h2⟩
  own := fun j ys e => by
    rcases set_get e with ⟨rfl, hl, e'⟩ | ⟨hn, e'⟩
    · cases e'
      exact ⟨p, vs, by rw [List.getElem?_set_self (by rw [r.len]; exact hl)], g.free h, s.free h, upd_same, q⟩
    · obtain ⟨p', vs', h1, h2, h3, h4, h5⟩ := r.own j ys e'
      exact ⟨p', vs', by rw [List.getElem?_set_ne (Ne.symm hn)]; exact h1, h2, h3, by rw [upd_ne (ne_of_none h4 h)]; exact h4, h5⟩
  sep := fun j k ys zs a hn e1 e2 f1 f2 => by
    rcases set_get e1 with ⟨rfl, hl, e'⟩ | ⟨n1, e1'⟩
    · rcases set_get e2 with ⟨rfl, hl2, e''⟩ | ⟨n2, e2'⟩
      · exact hn rfl
      · obtain ⟨p', vs', h1, h2, h3, h4, h5⟩ := r.own k zs e2'
        rw [List.getElem?_set_self (by rw [r.len]; exact hl)] at f1
        rw [List.getElem?_set_ne (Ne.symm n2), h1] at f2
        cases f1
        cases f2
        rw [h] at h4
        cases h4
    · rcases set_get e2 with ⟨rfl, hl2, e''⟩ | ⟨n2, e2'⟩
      · obtain ⟨p', vs', h1, h2, h3, h4, h5⟩ := r.own j ys e1'
        rw [List.getElem?_set_self (by rw [r.len]; exact hl2)] at f2
        rw [List.getElem?_set_ne (Ne.symm n1), h1] at f1
        cases f1
        cases f2
        rw [h] at h4
        cases h4
      · rw [List.getElem?_set_ne (Ne.symm n1)] at f1
        rw [List.getElem?_set_ne (Ne.symm n2)] at f2
        exact r.sep j k ys zs a hn e1' e2' f1 f2
/-- its own list is changed -/
theorem RelS.write (r : RelS K G H I σ δ) {i : Nat} {p : Addr} {vs : List V} {xs ys : List PyData} (e : δ[i]? = some (.own xs)) (f : σ[i]? = some (some (.ref p))) (q : RpAll K I vs ys) :
    RelS K G (upd H p (.lst vs)) I σ (δ.set i (.own ys)) where
  len := by rw [List.length_set, r.len]
  d := fun j y e1 => by
    rcases set_get e1 with ⟨rfl, hl, e'⟩ | ⟨hn, e'⟩
    · cases e'
    · exact r.d j y e'
  own := fun j zs e1 => by
    rcases set_get e1 with ⟨rfl, hl, e'⟩ | ⟨hn, e'⟩
    · cases e'
      obtain ⟨p', vs', h1, h2, h3, h4, h5⟩ := r.own j xs e
      rw [f] at h1
      cases h1
      exact ⟨p, vs, f, h2, h3, upd_same, q⟩
    · obtain ⟨p', vs', h1, h2, h3, h4, h5⟩ := r.own j zs e'
      refine ⟨p', vs', h1, h2, h3, ?_, h5⟩
      rw [upd_ne (show p' ≠ p from fun z => r.sep i j xs zs p (Ne.symm hn) e e' f (by rw [← z]; exact h1))]
      exact h4
  sep := fun j k as bs a hn e1 e2 f1 f2 => by
    rcases set_get e1 with ⟨rfl, hl, e'⟩ | ⟨n1, e1'⟩
    · rcases set_get e2 with ⟨rfl, hl2, e''⟩ | ⟨n2, e2'⟩
      · exact hn rfl
      · exact r.sep j k xs bs a hn e e2' f1 f2
    · rcases set_get e2 with ⟨rfl, hl2, e''⟩ | ⟨n2, e2'⟩
      · exact r.sep j k as xs a hn e1' e f1 f2
      · exact r.sep j k as bs a hn e1' e2' f1 f2
/-- its own list is told: no one changes it any more -/
theorem RelS.freeze (r : RelS K G H I σ δ) {i : Nat} {p : Addr} {vs : List V} {xs : List PyData} (s : Same I H) (e : δ[i]? = some (.own xs)) (f : σ[i]? = some (some (.ref p))) (h : H p = some (.lst vs)) (n : I p = Option.none) (q : RpAll K I vs xs) :
    RelS K G H (upd I p (.lst vs)) σ (δ.set i (.d (.list xs))) where
  len := by rw [List.length_set, r.len]
  d := fun j y e1 => by
    rcases set_get e1 with ⟨rfl, hl, e'⟩ | ⟨hn, e'⟩
    · cases e'
      exact ⟨_, f, .lst upd_same (q.mono (same_new n))⟩
    · obtain ⟨u, h1, h2⟩ := r.d j y e'
      exact ⟨u, h1, h2.mono (same_new n)⟩
  own := fun j zs e1 => by
    rcases set_get e1 with ⟨rfl, hl, e'⟩ | ⟨hn, e'⟩
    · cases e'
    · obtain ⟨p', vs', h1, h2, h3, h4, h5⟩ := r.own j zs e'
      refine ⟨p', vs', h1, h2, ?_, h4, h5.mono (same_new n)⟩
      rw [upd_ne (show p' ≠ p from fun z => r.sep i j xs zs p (Ne.symm hn) e e' f (by rw [← z]; exact h1))]
      exact h3
  sep := fun j k as bs a hn e1 e2 f1 f2 => by
    rcases set_get e1 with ⟨rfl, hl, e'⟩ | ⟨n1, e1'⟩
    · cases e'
    · rcases set_get e2 with ⟨rfl, hl2, e''⟩ | ⟨n2, e2'⟩
      · cases e''
      · exact r.sep j k as bs a hn e1' e2' f1 f2
end

/-! ### expressions -/
section
variable (K : PySem.W.Frag)
def Ev (te : TE) (δ : List Sl) (x : PyData) : Prop := ∀ G σ H I, Same I H → Same G H → RelS K G H I σ δ → ∀ Q : VK, (∀ v H' I', Nx H I H' I' → Rp K I' v x → Q v H') → te σ H Q
/-- a new list -/
def EvN (te : TE) (δ : List Sl) (xs : List PyData) : Prop := ∀ G σ H I, Same I H → Same G H → RelS K G H I σ δ →
  ∀ Q : VK, (∀ p H1 I' vs, Nx H I H1 I' → H1 p = none → RpAll K I' vs xs → Q (.ref p) (upd H1 p (.lst vs))) → te σ H Q
def EvT (tt : TT) (δ : List Sl) (b : Bool) : Prop := ∀ G σ H I, Same I H → Same G H → RelS K G H I σ δ → ∀ Q : Bool → Hp → Prop, (∀ H' I', Nx H I H' I' → Q b H') → tt σ H Q
def EvA (ta : TA) (δ : List Sl) (xs : List PyData) : Prop := ∀ G σ H I, Same I H → Same G H → RelS K G H I σ δ → ∀ Q : List V → Hp → Prop, (∀ vs H' I', Nx H I H' I' → RpAll K I' vs xs → Q vs H') → ta σ H Q
def EvO (to : TO) (δ : List Sl) (o : Option Int) : Prop := ∀ G σ H I, Same I H → Same G H → RelS K G H I σ δ → ∀ Q : Option Int → Hp → Prop, (∀ H' I', Nx H I H' I' → Q o H') → to σ H Q
/-- it raises an error of the class at c -/
def EvX (E : XK) (te : TE) (δ : List Sl) (c : Value) : Prop := ∀ G σ H I, Same I H → Same G H → RelS K G H I σ δ → (∀ H', Same H H' → E c none H') → ∀ Q : VK, te σ H Q
def EvTX (E : XK) (te : TT) (δ : List Sl) (c : Value) : Prop := ∀ G σ H I, Same I H → Same G H → RelS K G H I σ δ → (∀ H', Same H H' → E c none H') → ∀ Q : Bool → Hp → Prop, te σ H Q
def EvAX (E : XK) (te : TA) (δ : List Sl) (c : Value) : Prop := ∀ G σ H I, Same I H → Same G H → RelS K G H I σ δ → (∀ H', Same H H' → E c none H') → ∀ Q : List V → Hp → Prop, te σ H Q
/-- operators by data: two operands, one, a call's arguments -/
def R2D (r : R2) (x y z : PyData) : Prop := ∀ H I v u, Same I H → Rp K I v x → Rp K I u y → ∀ Q : VK, (∀ w H' I', Nx H I H' I' → Rp K I' w z → Q w H') → r v u H Q
def RAD (r : List V → Hp → VK → Prop) (xs : List PyData) (z : PyData) : Prop := ∀ H I vs, Same I H → RpAll K I vs xs → ∀ Q : VK, (∀ w H' I', Nx H I H' I' → Rp K I' w z → Q w H') → r vs H Q
def RAN (r : List V → Hp → VK → Prop) (xs : List PyData) (zs : List PyData) : Prop := ∀ H I vs, Same I H → RpAll K I vs xs → ∀ Q : VK, (∀ p H1 I' ws, Nx H I H1 I' → H1 p = none → RpAll K I' ws zs → Q (.ref p) (upd H1 p (.lst ws))) → r vs H Q
end
section
variable {K : PySem.W.Frag} {δ : List Sl} {ta tb te : TE} {t u : TT} {x y z : PyData} {xs ys : List PyData}
theorem Nx.g {G H I H' I' : Hp} (n : Nx H I H' I') (g : Same G H) : Same G H' := g.trans n.h
/-- a new list becomes data -/
theorem EvN.ev (h : EvN K te δ xs) : Ev K te δ (.list xs) := fun G σ H I s g r Q q => h G σ H I s g r Q fun p H1 I' vs n hp rr =>
  q (.ref p) _ (upd I' p (.lst vs)) (n.trans (Nx.new n.s hp)) (.lst upd_same (rr.mono (same_new (n.s.free hp))))
theorem ev_var {i : Nat} (h : δ[i]? = some (.d x)) : Ev K (tVar i) δ x := fun G σ H I s g r Q q => by
  obtain ⟨v, h1, h2⟩ := r.d i x h
  exact ⟨v, h1, q v H I (Nx.refl s) h2⟩
theorem ev_int {i : Int} : Ev K (tC (.int i)) δ (.int i) := fun G σ H I s g r Q q => q _ H I (Nx.refl s) (.int i)
theorem ev_bl {b : Bool} : Ev K (tC (.bl b)) δ (.bool b) := fun G σ H I s g r Q q => q _ H I (Nx.refl s) (.bl b)
theorem ev_non : Ev K (tC .non) δ .none := fun G σ H I s g r Q q => q _ H I (Nx.refl s) .non
theorem ev_str {b : Str} : Ev K (tC (.str b)) δ (.str b) := fun G σ H I s g r Q q => q _ H I (Nx.refl s) (.str b)
theorem ev_op {r : R2} (ha : Ev K ta δ x) (hb : Ev K tb δ y) (hr : R2D K r x y z) : Ev K (tOp r ta tb) δ z := fun G σ H I s g rl Q q =>
  ha G σ H I s g rl _ fun v H1 I1 n1 r1 => hb G σ H1 I1 n1.s (n1.g g) (rl.next n1) _ fun u H2 I2 n2 r2 => hr H2 I2 v u n2.s (r1.mono n2.i) r2 Q fun w H3 I3 n3 r3 => q w H3 I3 ((n1.trans n2).trans n3) r3
theorem ev_cb {r : List V → Hp → VK → Prop} {t : TA} (ha : EvA K t δ xs) (hr : RAD K r xs z) : Ev K (tCB r t) δ z := fun G σ H I s g rl Q q =>
  ha G σ H I s g rl _ fun vs H1 I1 n1 r1 => hr H1 I1 vs n1.s r1 Q fun w H3 I3 n3 r3 => q w H3 I3 (n1.trans n3) r3
theorem en_cb {r : List V → Hp → VK → Prop} {t : TA} {zs : List PyData} (ha : EvA K t δ xs) (hr : RAN K r xs zs) : EvN K (tCB r t) δ zs := fun G σ H I s g rl Q q =>
  ha G σ H I s g rl _ fun vs H1 I1 n1 r1 => hr H1 I1 vs n1.s r1 Q fun p H3 I3 ws n3 hp r3 => q p H3 I3 ws (n1.trans n3) hp r3
theorem ea_nil : EvA K tNil δ [] := fun G σ H I s g r Q q => q [] H I (Nx.refl s) .nil
theorem ea_cons {t : TA} (ha : Ev K ta δ x) (hr : EvA K t δ xs) : EvA K (tCons ta t) δ (x :: xs) := fun G σ H I s g rl Q q =>
  ha G σ H I s g rl _ fun v H1 I1 n1 r1 => hr G σ H1 I1 n1.s (n1.g g) (rl.next n1) _ fun vs H2 I2 n2 r2 => q (v :: vs) H2 I2 (n1.trans n2) (.cons (r1.mono n2.i) r2)
theorem small_line {n : Nat} (h : n ≤ 100000) : n ≤ sizeLine := Nat.le_trans h (by decide)
theorem ev_tup {t : TA} (ha : EvA K t δ xs) (hz : xs.length ≤ sizeLine) : Ev K (tTup t) δ (.tuple xs) := fun G σ H I s g rl Q q =>
  ha G σ H I s g rl _ fun vs H1 I1 n1 r1 => ⟨by rw [r1.length]; exact hz, fun p hp => q (.ref p) _ (upd I1 p (.tup vs)) (n1.trans (Nx.new n1.s hp)) (.tup upd_same (r1.mono (same_new (n1.s.free hp))))⟩
theorem en_lst {t : TA} (ha : EvA K t δ xs) (hz : xs.length ≤ sizeLine) : EvN K (tLst t) δ xs := fun G σ H I s g rl Q q =>
  ha G σ H I s g rl _ fun vs H1 I1 n1 r1 => ⟨by rw [r1.length]; exact hz, fun p hp => q p H1 I1 vs n1 hp r1⟩
theorem et_test {b : Bool} (h : Ev K te δ (.bool b)) : EvT K (tTest te) δ b := fun G σ H I s g rl Q q =>
  h G σ H I s g rl _ fun v H1 I1 n1 r1 => by cases r1; exact ⟨b, rfl, q H1 I1 n1⟩
theorem et_B {b : Bool} (h : Ev K te δ (.bool b)) : EvT K (tB te) δ b := fun G σ H I s g rl Q q =>
  h G σ H I s g rl _ fun v H1 I1 n1 r1 => by cases r1; exact ⟨b, rfl, q H1 I1 n1⟩
theorem et_and {a b : Bool} (h1 : EvT K t δ a) (h2 : a = true → EvT K u δ b) : EvT K (tAnd t u) δ (a && b) := fun G σ H I s g rl Q q =>
  h1 G σ H I s g rl _ fun H1 I1 n1 => by
    cases a with
    | true =>
      show u σ H1 Q
      exact h2 rfl G σ H1 I1 n1.s (n1.g g) (rl.next n1) Q fun H2 I2 n2 => q H2 I2 (n1.trans n2)
    | false =>
      show Q false H1
      exact q H1 I1 n1
theorem et_or {a b : Bool} (h1 : EvT K t δ a) (h2 : a = false → EvT K u δ b) : EvT K (tOr t u) δ (a || b) := fun G σ H I s g rl Q q =>
  h1 G σ H I s g rl _ fun H1 I1 n1 => by
    cases a with
    | true =>
      show Q true H1
      exact q H1 I1 n1
    | false =>
      show u σ H1 Q
      exact h2 rfl G σ H1 I1 n1.s (n1.g g) (rl.next n1) Q fun H2 I2 n2 => q H2 I2 (n1.trans n2)
theorem et_not {a : Bool} (h1 : EvT K t δ a) : EvT K (tNot t) δ (!a) := fun G σ H I s g rl Q q => h1 G σ H I s g rl _ fun H1 I1 n1 => q H1 I1 n1
theorem ev_andV {a b : Bool} (h1 : Ev K ta δ (.bool a)) (h2 : a = true → Ev K tb δ (.bool b)) : Ev K (tAndV ta tb) δ (.bool (a && b)) := fun G σ H I s g rl Q q =>
  h1 G σ H I s g rl _ fun v H1 I1 n1 r1 => by
    cases r1
    refine ⟨a, rfl, ?_⟩
    cases a with
    | true =>
      show tb σ H1 Q
      exact h2 rfl G σ H1 I1 n1.s (n1.g g) (rl.next n1) Q fun w H2 I2 n2 r2 => q w H2 I2 (n1.trans n2) r2
    | false =>
      show Q (.bl false) H1
      exact q _ H1 I1 n1 (.bl false)
theorem ev_orV {a b : Bool} (h1 : Ev K ta δ (.bool a)) (h2 : a = false → Ev K tb δ (.bool b)) : Ev K (tOrV ta tb) δ (.bool (a || b)) := fun G σ H I s g rl Q q =>
  h1 G σ H I s g rl _ fun v H1 I1 n1 r1 => by
    cases r1
    refine ⟨a, rfl, ?_⟩
    cases a with
    | true =>
      show Q (.bl true) H1
      exact q _ H1 I1 n1 (.bl true)
    | false =>
      show tb σ H1 Q
      exact h2 rfl G σ H1 I1 n1.s (n1.g g) (rl.next n1) Q fun w H2 I2 n2 r2 => q w H2 I2 (n1.trans n2) r2
theorem ev_notV {a : Bool} (h1 : Ev K ta δ (.bool a)) : Ev K (tNotV ta) δ (.bool (!a)) := fun G σ H I s g rl Q q =>
  h1 G σ H I s g rl _ fun v H1 I1 n1 r1 => by cases r1; exact ⟨a, rfl, q _ H1 I1 n1 (.bl _)⟩
theorem ev_to (h : Ev K te δ x) (e : x = y) : Ev K te δ y := e ▸ h
theorem et_to {a b : Bool} (h : EvT K t δ a) (e : a = b) : EvT K t δ b := e ▸ h
theorem en_to (h : EvN K te δ xs) (e : xs = ys) : EvN K te δ ys := e ▸ h
theorem ev_if {b : Bool} (h : EvT K t δ b) (h1 : b = true → Ev K ta δ x) (h2 : b = false → Ev K tb δ x) : Ev K (tIf t ta tb) δ x := fun G σ H I s g rl Q q =>
  h G σ H I s g rl _ fun H1 I1 n1 => by
    cases b with
    | true =>
      show ta σ H1 Q
      exact h1 rfl G σ H1 I1 n1.s (n1.g g) (rl.next n1) Q fun w H2 I2 n2 r2 => q w H2 I2 (n1.trans n2) r2
    | false =>
      show tb σ H1 Q
      exact h2 rfl G σ H1 I1 n1.s (n1.g g) (rl.next n1) Q fun w H2 I2 n2 r2 => q w H2 I2 (n1.trans n2) r2
/-- a list of its own is read for something that holds no list: it is its own behind it -/
theorem ev_borrow {i : Nat} (e : δ[i]? = some (.own xs)) (h : Ev K te (δ.set i (.d (.list xs))) x) (hs : solid x = true) : Ev K te δ x := fun G σ H I s g r Q q => by
  obtain ⟨p, vs, h1, h2, h3, h4, h5⟩ := r.own i xs e
  have s2 : Same (upd I p (.lst vs)) H := fun b o eb => by
    by_cases hb : b = p
    · subst hb
      rw [upd_same] at eb
      cases eb
      exact h4
    · rw [upd_ne hb] at eb
      exact s b o eb
  refine h G σ H (upd I p (.lst vs)) s2 g (r.freeze s e h1 h4 h3 h5) Q fun v H' I' n rv => ?_
  have hp : I' p = some (.lst vs) := n.i p _ upd_same
  refine q v H' (fun b => if b = p then none else I' b) ⟨n.h, fun b o eb => ?_, fun b o eb => ?_, fun b o eb nb => ?_⟩ (rv.off hp hs)
  · have hb : b ≠ p := ne_of_none eb h3
    show (if b = p then none else I' b) = _
    rw [if_neg hb]
    exact n.i b o (by rw [upd_ne hb]; exact eb)
  · by_cases hb : b = p
    · have z : (if b = p then none else I' b) = some o := eb
      rw [if_pos hb] at z
      cases z
    · have z : (if b = p then none else I' b) = some o := eb
      rw [if_neg hb] at z
      exact n.s b o z
  · show (if b = p then none else I' b) = none
    by_cases hb : b = p
    · rw [if_pos hb]
    · rw [if_neg hb]
      exact n.f b o eb (by rw [upd_ne hb]; exact nb)
theorem et_borrow {i : Nat} {b : Bool} (e : δ[i]? = some (.own xs)) (h : EvT K t (δ.set i (.d (.list xs))) b) : EvT K t δ b := fun G σ H I s g r Q q => by
  obtain ⟨p, vs, h1, h2, h3, h4, h5⟩ := r.own i xs e
  have s2 : Same (upd I p (.lst vs)) H := fun b o eb => by
    by_cases hb : b = p
    · subst hb
      rw [upd_same] at eb
      cases eb
      exact h4
    · rw [upd_ne hb] at eb
      exact s b o eb
  refine h G σ H (upd I p (.lst vs)) s2 g (r.freeze s e h1 h4 h3 h5) Q fun H' I' n => ?_
  refine q H' (fun b => if b = p then none else I' b) ⟨n.h, fun b o eb => ?_, fun b o eb => ?_, fun b o eb nb => ?_⟩
  · have hb : b ≠ p := ne_of_none eb h3
    show (if b = p then none else I' b) = _
    rw [if_neg hb]
    exact n.i b o (by rw [upd_ne hb]; exact eb)
  · by_cases hb : b = p
    · have z : (if b = p then none else I' b) = some o := eb
      rw [if_pos hb] at z
      cases z
    · have z : (if b = p then none else I' b) = some o := eb
      rw [if_neg hb] at z
      exact n.s b o z
  · show (if b = p then none else I' b) = none
    by_cases hb : b = p
    · rw [if_pos hb]
    · rw [if_neg hb]
      exact n.f b o eb (by rw [upd_ne hb]; exact nb)
/-- slots that are not looked at may be forgotten -/
theorem ev_forget {i : Nat} (h : Ev K te (δ.set i .no) x) : Ev K te δ x := fun G σ H I s g r Q q => by
  have hr := r.none (i := i) (o := (σ[i]?).getD none)
  have e : σ.set i ((σ[i]?).getD none) = σ := by
    apply List.ext_getElem?
    intro j
    by_cases hj : j = i
    · subst hj
      by_cases hl : j < σ.length
      · rw [List.getElem?_set_self hl, List.getElem?_eq_getElem hl]
        rfl
      · rw [List.getElem?_eq_none_iff.mpr (by rw [List.length_set]; omega), List.getElem?_eq_none_iff.mpr (by omega)]
    · rw [List.getElem?_set_ne (Ne.symm hj)]
  rw [e] at hr
  exact h G σ H I s g hr Q q
end

/-! ### statements -/
inductive Out where
  | nx (δ : List Sl)
  | bk (δ : List Sl)
  | ct (δ : List Sl)
  | rt (x : PyData)
  /-- an error of the class at c, without a dict that is known; with its dict's fields -/
  | ex (c : Value)
  | exd (c : Value) (fs : List (Str × V))
structure Cov (K : PySem.W.Frag) (E : XK) (G I0 : Hp) (D : Ends) (P : Out → Prop) : Prop where
  nx : ∀ δ' σ' H' I', P (.nx δ') → Nx G I0 H' I' → RelS K G H' I' σ' δ' → D.nx σ' H'
  bk : ∀ δ' σ' H' I', P (.bk δ') → Nx G I0 H' I' → RelS K G H' I' σ' δ' → D.bk σ' H'
  ct : ∀ δ' σ' H' I', P (.ct δ') → Nx G I0 H' I' → RelS K G H' I' σ' δ' → D.ct σ' H'
  rt : ∀ x v H' I', P (.rt x) → Nx G I0 H' I' → Rp K I' v x → D.rt v H'
  ex : ∀ c H', P (.ex c) → Same G H' → E c none H'
  exd : ∀ c fs d H', P (.exd c fs) → Same G H' → H' d = some (.xd fs) → E c (some d) H'
def As (K : PySem.W.Frag) (E : XK) (t : TS) (δ : List Sl) (P : Out → Prop) : Prop := ∀ G I0 σ H I D, Nx G I0 H I → RelS K G H I σ δ → Cov K E G I0 D P → t D σ H
section
variable {K : PySem.W.Frag} {E : XK} {δ : List Sl} {ta tb te : TE} {tt : TT} {t u : TS} {x y z : PyData} {xs ys : List PyData} {P P' : Out → Prop}
/-- behind t comes u -/
def thenP (K : PySem.W.Frag) (E : XK) (u : TS) (P : Out → Prop) : Out → Prop
  | .nx δ' => As K E u δ' P
  | .bk δ' => P (.bk δ')
  | .ct δ' => P (.ct δ')
  | .rt x => P (.rt x)
  | .ex c => P (.ex c)
  | .exd c fs => P (.exd c fs)
theorem Cov.mono {G I0 : Hp} {D : Ends} (c : Cov K E G I0 D P) (h : ∀ o, P' o → P o) : Cov K E G I0 D P' :=
  ⟨fun a b d e p => c.nx a b d e (h _ p), fun a b d e p => c.bk a b d e (h _ p), fun a b d e p => c.ct a b d e (h _ p), fun a b d e p => c.rt a b d e (h _ p), fun a b p => c.ex a b (h _ p), fun a b d e p => c.exd a b d e (h _ p)⟩
theorem As.mono (a : As K E t δ P') (h : ∀ o, P' o → P o) : As K E t δ P := fun G I0 σ H I D n r c => a G I0 σ H I D n r (c.mono h)
theorem as_seq (h : As K E t δ (thenP K E u P)) : As K E (tSeq t u) δ P := fun G I0 σ H I D n r c =>
  h G I0 σ H I { D with nx := u D } n r
    ⟨fun δ' σ' H' I' p n' r' => p G I0 σ' H' I' D n' r' c, c.bk, c.ct, c.rt, c.ex, c.exd⟩
theorem as_next (h : P (.nx δ)) : As K E tNext δ P := fun G I0 σ H I D n r c => c.nx δ σ H I h n r
theorem as_brk (h : P (.bk δ)) : As K E tBreak δ P := fun G I0 σ H I D n r c => c.bk δ σ H I h n r
theorem as_cont (h : P (.ct δ)) : As K E tCont δ P := fun G I0 σ H I D n r c => c.ct δ σ H I h n r
theorem as_set {i : Nat} (h : Ev K te δ x) (k : P (.nx (δ.set i (.d x)))) : As K E (tAsg te (gName i)) δ P := fun G I0 σ H I D n r c =>
  h G σ H I n.s n.h r _ fun v H1 I1 n1 rv => c.nx _ _ H1 I1 k (n.trans n1) ((r.next n1).put rv)
theorem as_setN {i : Nat} (h : EvN K te δ xs) (k : P (.nx (δ.set i (.own xs)))) : As K E (tAsg te (gName i)) δ P := fun G I0 σ H I D n r c =>
  h G σ H I n.s n.h r _ fun p H1 I1 vs n1 hp rv =>
    c.nx _ _ _ I1 k ((n.trans n1).trans (Nx.own n1.s hp)) ((r.next n1).make n1.s (n1.g n.h) hp rv)
/-- a, b = e -/
theorem as_set2 {i j : Nat} (h : Ev K te δ (.tuple [x, y])) (k : P (.nx ((δ.set i (.d x)).set j (.d y)))) : As K E (tAsg te (gTup K 2 (gCons (gName i) (gCons (gName j) gNil)))) δ P := fun G I0 σ H I D n r c =>
  h G σ H I n.s n.h r _ fun v H1 I1 n1 rv => by
    cases rv with
    | tup hs ra =>
      cases ra with
      | cons r1 ra =>
        cases ra with
        | cons r2 ra =>
          cases ra
          exact ⟨_, _, rfl, .of (n1.s _ _ hs), rfl, _, _, rfl, _, _, rfl, rfl, c.nx _ _ H1 I1 k (n.trans n1) (((r.next n1).put r1).put r2)⟩
theorem as_ret (h : Ev K te δ x) (k : P (.rt x)) : As K E (tRet te) δ P := fun G I0 σ H I D n r c =>
  h G σ H I n.s n.h r _ fun v H1 I1 n1 rv => c.rt x v H1 I1 k (n.trans n1) rv
theorem as_retN (k : P (.rt .none)) : As K E tRetN δ P := fun G I0 σ H I D n r c => c.rt .none .non H I k n .non
theorem as_if {b : Bool} (h : EvT K tt δ b) (h1 : b = true → As K E t δ P) (h2 : b = false → As K E u δ P) : As K E (tIfS tt t u) δ P := fun G I0 σ H I D n r c =>
  h G σ H I n.s n.h r _ fun H1 I1 n1 => by
    cases b with
    | true =>
      show t D σ H1
      exact h1 rfl G I0 σ H1 I1 D (n.trans n1) (r.next n1) c
    | false =>
      show u D σ H1
      exact h2 rfl G I0 σ H1 I1 D (n.trans n1) (r.next n1) c
theorem as_drop (h : Ev K te δ x) (k : P (.nx δ)) : As K E (tDrop te) δ P := fun G I0 σ H I D n r c =>
  h G σ H I n.s n.h r _ fun v H1 I1 n1 rv => c.nx _ _ H1 I1 k (n.trans n1) (r.next n1)
theorem as_setX {i : Nat} {g : TG} {cl : Value} (h : EvX K E te δ cl) (k : P (.ex cl)) : As K E (tAsg te g) δ P := fun G I0 σ H I D n r c =>
  h G σ H I n.s n.h r (fun H' e => c.ex cl H' k (n.h.trans e)) _
theorem as_retX {cl : Value} (h : EvX K E te δ cl) (k : P (.ex cl)) : As K E (tRet te) δ P := fun G I0 σ H I D n r c =>
  h G σ H I n.s n.h r (fun H' e => c.ex cl H' k (n.h.trans e)) _
theorem as_dropX {cl : Value} (h : EvX K E te δ cl) (k : P (.ex cl)) : As K E (tDrop te) δ P := fun G I0 σ H I D n r c =>
  h G σ H I n.s n.h r (fun H' e => c.ex cl H' k (n.h.trans e)) _
/-- raise X('..') -/
def tRz (E : XK) (c : Value) : TS := fun _ _ H => E c none H
theorem as_raise {cl : Value} (k : P (.ex cl)) : As K E (tRz E cl) δ P := fun G I0 σ H I D n r c => c.ex cl H k n.h
theorem as_weak {i : Nat} (h : As K E t (δ.set i .no) P) : As K E t δ P := fun G I0 σ H I D n r c => by
  have hr := r.none (i := i) (o := (σ[i]?).getD none)
  have e : σ.set i ((σ[i]?).getD none) = σ := by
    apply List.ext_getElem?
    intro j
    by_cases hj : j = i
    · subst hj
      by_cases hl : j < σ.length
      · rw [List.getElem?_set_self hl, List.getElem?_eq_getElem hl]
        rfl
      · rw [List.getElem?_eq_none_iff.mpr (by rw [List.length_set]; omega), List.getElem?_eq_none_iff.mpr (by omega)]
    · rw [List.getElem?_set_ne (Ne.symm hj)]
  rw [e] at hr
  exact h G I0 σ H I D n hr c
/-- its own list becomes data -/
theorem as_freeze {i : Nat} (e : δ[i]? = some (.own xs)) (h : As K E t (δ.set i (.d (.list xs))) P) : As K E t δ P := fun G I0 σ H I D n r c => by
  obtain ⟨p, vs, h1, h2, h3, h4, h5⟩ := r.own i xs e
  refine h G I0 σ H (upd I p (.lst vs)) D ⟨n.h, n.i.trans (same_new h3), fun b o eb => ?_, fun b o eb nb => ?_⟩ (r.freeze n.s e h1 h4 h3 h5) c
  · by_cases hb : b = p
    · subst hb
      rw [upd_same] at eb
      cases eb
      exact h4
    · rw [upd_ne hb] at eb
      exact n.s b o eb
  · rw [upd_ne (ne_of_none eb h2)]
    exact n.f b o eb nb
/-- xs.append(e), xs its own -/
theorem as_app {i : Nat} (e : δ[i]? = some (.own xs)) (h : Ev K te δ x) (hz : xs.length < sizeLine) (k : P (.nx (δ.set i (.own (xs ++ [x]))))) :
    As K E (tDrop (tBM K "list" rAppend (tVar i) (tCons te tNil))) δ P := fun G I0 σ H I D n r c => by
  obtain ⟨p, vs, h1, h2, h3, h4, h5⟩ := r.own i xs e
  refine ⟨.ref p, h1, .inl ⟨rfl, _, .inl (.inl h4)⟩, ?_⟩
  refine h G σ H I n.s n.h r _ fun v H1 I1 n1 rv => ?_
  have r1 := r.next n1
  obtain ⟨p', vs', h1', h2', h3', h4', h5'⟩ := r1.own i xs e
  rw [h1] at h1'
  cases h1'
  refine ⟨p, vs', v, rfl, rfl, h4', by rw [h5'.length]; exact hz, ?_⟩
  have n2 := n.trans n1
  refine c.nx _ _ _ I1 k ⟨fun b o eb => ?_, n2.i, fun b o eb => ?_, n2.f⟩ (r1.write e h1 (h5'.app (.cons rv .nil)))
  · rw [upd_ne (ne_of_none eb h2)]
    exact n2.h b o eb
  · rw [upd_ne (ne_of_none eb h3')]
    exact n2.s b o eb
/-- xs.append(e), e a new list -/
theorem as_setI {i : Nat} {ti : TE} {j : Nat} {kk : Int} (e : δ[i]? = some (.own xs)) (hv : Ev K te δ x) (hi : Ev K ti δ (.int kk)) (hj : ixN xs.length kk = some j) (k : P (.nx (δ.set i (.own (xs.set j x))))) :
    As K E (tAsg te (gSub (tVar i) ti rSetL)) δ P := fun G I0 σ H I D n r c => by
  refine hv G σ H I n.s n.h r _ fun v H1 I1 n1 rv => ?_
  have r1 := r.next n1
  obtain ⟨p, vs, h1, h2, h3, h4, h5⟩ := r1.own i xs e
  refine ⟨.ref p, h1, ?_⟩
  refine hi G σ H1 I1 n1.s (n1.g n.h) r1 _ fun w H2 I2 n2 rw' => ?_
  cases rw'
  have r2 := r1.next n2
  obtain ⟨p', vs', h1', h2', h3', h4', h5'⟩ := r2.own i xs e
  rw [h1] at h1'
  cases h1'
  have n3 := (n.trans n1).trans n2
  refine ⟨p, vs', kk, j, rfl, rfl, h4', by rw [h5'.length]; exact hj, ?_⟩
  refine c.nx _ _ _ I2 k ⟨fun b o eb => ?_, n3.i, fun b o eb => ?_, n3.f⟩ (r2.write e h1 (RpAll.set (rv.mono n2.i) j h5'))
  · rw [upd_ne (ne_of_none eb h2')]
    exact n3.h b o eb
  · rw [upd_ne (ne_of_none eb h3')]
    exact n3.s b o eb
/-- xs.extend(e), e a new list -/
theorem as_ext {i : Nat} (e : δ[i]? = some (.own xs)) (h : EvN K te δ ys) (hz : xs.length + ys.length ≤ sizeLine) (k : P (.nx (δ.set i (.own (xs ++ ys))))) :
    As K E (tDrop (tBM K "list" rExtend (tVar i) (tCons te tNil))) δ P := fun G I0 σ H I D n r c => by
  obtain ⟨p, vs, h1, h2, h3, h4, h5⟩ := r.own i xs e
  refine ⟨.ref p, h1, .inl ⟨rfl, _, .inl (.inl h4)⟩, ?_⟩
  refine h G σ H I n.s n.h r _ fun q H1 I1 ws n1 hq rv => ?_
  have n1' := n1.trans (Nx.own (o := .lst ws) n1.s hq)
  have r1 := r.next n1'
  obtain ⟨p', vs', h1', h2', h3', h4', h5'⟩ := r1.own i xs e
  rw [h1] at h1'
  cases h1'
  refine ⟨p, q, vs', ws, rfl, rfl, h4', upd_same, by rw [h5'.length, rv.length]; exact hz, ?_⟩
  have n2 := n.trans n1'
  refine c.nx _ _ _ I1 k ⟨fun b o eb => ?_, n2.i, fun b o eb => ?_, n2.f⟩ (r1.write e h1 (h5'.app rv))
  · rw [upd_ne (ne_of_none eb h2)]
    exact n2.h b o eb
  · rw [upd_ne (ne_of_none eb h3')]
    exact n2.s b o eb

/-! ### while -/
theorem as_while (W : Nat → List Sl → Prop) (m0 : Nat) (h0 : W m0 δ)
    (hs : ∀ m δ', W m δ' → ∃ b, EvT K tt δ' b ∧ (b = true → As K E t δ' (fun o => match o with
        | .nx δ3 => ∃ m', m' < m ∧ W m' δ3
        | .ct δ3 => ∃ m', m' < m ∧ W m' δ3
        | .bk δ3 => P (.nx δ3)
        | .rt x => P (.rt x)
        | .ex c => P (.ex c)
        | .exd c fs => P (.exd c fs))) ∧ (b = false → P (.nx δ'))) : As K E (tWhile tt t) δ P := fun G I0 σ H I D n r c => by
  refine ⟨fun m σ' H' => ∃ δ' I', W m δ' ∧ Nx G I0 H' I' ∧ RelS K G H' I' σ' δ', ⟨m0, δ, I, h0, n, r⟩, fun m σ1 H1 w1 => ?_⟩
  obtain ⟨δ1, I1, w1, n1, r1⟩ := w1
  obtain ⟨b, ht, hb1, hb2⟩ := hs m δ1 w1
  refine ht G σ1 H1 I1 n1.s n1.h r1 _ fun H2 I2 n2 => ?_
  cases b with
  | true =>
    rw [if_pos rfl]
    refine ⟨fun σ' H' => ∃ m', m' < m ∧ ∃ δ' I', W m' δ' ∧ Nx G I0 H' I' ∧ RelS K G H' I' σ' δ', fun _ _ q => q, ?_⟩
    refine hb1 rfl G I0 σ1 H2 I2 _ (n1.trans n2) (r1.next n2) ⟨fun δ' σ' H' I' p n' r' => ?_, fun δ' σ' H' I' p n' r' => c.nx δ' σ' H' I' p n' r', fun δ' σ' H' I' p n' r' => ?_, c.rt, c.ex, c.exd⟩
    · obtain ⟨m', hm, w'⟩ := p
      exact ⟨m', hm, δ', I', w', n', r'⟩
    · obtain ⟨m', hm, w'⟩ := p
      exact ⟨m', hm, δ', I', w', n', r'⟩
  | false =>
    rw [if_neg Bool.false_ne_true]
    exact c.nx δ1 σ1 H2 I2 (hb2 rfl) (n1.trans n2) (r1.next n2)
end

/-! ### what is walked -/
/-- J yields these, one after another, wherever the world has come from (H0, I0) -/
structure WalkD (K : PySem.W.Frag) (J : It) (I0 : Hp) (items : List PyData) : Prop where
  goes : ∀ i H I, Same I0 I → Same I H → i < items.length → J.go i H
  stops : ∀ H I, Same I0 I → Same I H → J.stop items.length H
  yields : ∀ i H I x H', Same I0 I → Same I H → i < items.length → J.yld i H x H' → ∃ I', Nx H I H' I' ∧ ∀ d, items[i]? = some d → Rp K I' x d
def EvI (K : PySem.W.Frag) (wi : TI) (δ : List Sl) (items : List PyData) : Prop := ∀ G σ H I, Same I H → Same G H → RelS K G H I σ δ → ∀ R : It → Hp → Prop, (∀ J H' I', Nx H I H' I' → WalkD K J I' items → R J H') → wi σ H R
/-- a target -/
def Ag (K : PySem.W.Frag) (g : TG) (x : PyData) (δ : List Sl) (Pd : List Sl → Prop) : Prop := ∀ G σ H I v, RelS K G H I σ δ → Same I H → Rp K I v x → ∀ Q : L2.St → Hp → Prop, (∀ δ' σ', Pd δ' → RelS K G H I σ' δ' → Q σ' H) → g v σ H Q
section
variable {K : PySem.W.Frag} {E : XK} {δ : List Sl} {ta tb te : TE} {tt : TT} {t u : TS} {x y z : PyData} {xs ys : List PyData} {P P' : Out → Prop} {Pd : List Sl → Prop}
theorem ag_name {i : Nat} (k : Pd (δ.set i (.d x))) : Ag K (gName i) x δ Pd := fun G σ H I v r s rv Q q => q _ _ k (r.put rv)
theorem ag_tup2 {i j : Nat} (k : Pd ((δ.set i (.d x)).set j (.d y))) : Ag K (gTup K 2 (gCons (gName i) (gCons (gName j) gNil))) (.tuple [x, y]) δ Pd := fun G σ H I v r s rv Q q => by
  cases rv with
  | tup hs ra =>
    cases ra with
    | cons r1 ra =>
      cases ra with
      | cons r2 ra =>
        cases ra
        exact ⟨_, _, rfl, .of (s _ _ hs), rfl, _, _, rfl, _, _, rfl, rfl, q _ _ k ((r.put r1).put r2)⟩
theorem ag_tup3 {i j l : Nat} (k : Pd (((δ.set i (.d x)).set j (.d y)).set l (.d z))) : Ag K (gTup K 3 (gCons (gName i) (gCons (gName j) (gCons (gName l) gNil)))) (.tuple [x, y, z]) δ Pd := fun G σ H I v r s rv Q q => by
  cases rv with
  | tup hs ra =>
    cases ra with
    | cons r1 ra =>
      cases ra with
      | cons r2 ra =>
        cases ra with
        | cons r3 ra =>
          cases ra
          exact ⟨_, _, rfl, .of (s _ _ hs), rfl, _, _, rfl, _, _, rfl, _, _, rfl, rfl, q _ _ k (((r.put r1).put r2).put r3)⟩
theorem ei_list (h : Ev K te δ (.list xs)) : EvI K (iList K te) δ xs := fun G σ H I s g r R q =>
  h G σ H I s g r _ fun v H1 I1 n1 rv => by
    cases rv with
    | lst hs ra =>
      refine ⟨_, rfl, ⟨_, .of (n1.s _ _ hs)⟩, q _ H1 I1 n1 ⟨fun i H2 I2 e1 e2 hi => ?_, fun H2 I2 e1 e2 => ?_, fun i H2 I2 w H3 e1 e2 hi y => ?_⟩⟩
      · obtain ⟨v, hv, _⟩ := ra.get (List.getElem?_eq_getElem hi)
        exact ⟨_, v, SqL.of ((e1.trans e2) _ _ hs), hv⟩
      · exact ⟨_, SqL.of ((e1.trans e2) _ _ hs), by rw [ra.length]; exact Nat.le_refl _⟩
      · obtain ⟨e, y⟩ := y
        subst e
        refine ⟨I2, Nx.refl e2, fun d hd => ?_⟩
        obtain ⟨v, hv, rv⟩ := ra.get hd
        have hw := y _ (SqL.of ((e1.trans e2) _ _ hs))
        rw [hv] at hw
        cases hw
        exact rv.mono e1
theorem ei_tup (h : Ev K te δ (.tuple xs)) : EvI K (iTup K te) δ xs := fun G σ H I s g r R q =>
  h G σ H I s g r _ fun v H1 I1 n1 rv => by
    cases rv with
    | tup hs ra =>
      refine ⟨_, rfl, ⟨_, .of (n1.s _ _ hs)⟩, q _ H1 I1 n1 ⟨fun i H2 I2 e1 e2 hi => ?_, fun H2 I2 e1 e2 => ?_, fun i H2 I2 w H3 e1 e2 hi y => ?_⟩⟩
      · obtain ⟨v, hv, _⟩ := ra.get (List.getElem?_eq_getElem hi)
        exact ⟨_, v, SqT.of ((e1.trans e2) _ _ hs), hv⟩
      · exact ⟨_, SqT.of ((e1.trans e2) _ _ hs), by rw [ra.length]; exact Nat.le_refl _⟩
      · obtain ⟨e, y⟩ := y
        subst e
        refine ⟨I2, Nx.refl e2, fun d hd => ?_⟩
        obtain ⟨v, hv, rv⟩ := ra.get hd
        have hw := y _ (SqT.of ((e1.trans e2) _ _ hs))
        rw [hv] at hw
        cases hw
        exact rv.mono e1
/-- lo, lo + 1, .. -/
def nums (lo : Int) (n : Nat) : List PyData := (List.range n).map fun (i : Nat) => PyData.int (lo + i)
theorem nums_len {lo : Int} {n : Nat} : (nums lo n).length = n := by unfold nums; rw [List.length_map, List.length_range]
theorem nums_get {lo : Int} {n i : Nat} {d : PyData} (h : (nums lo n)[i]? = some d) : i < n ∧ d = .int (lo + i) := by
  unfold nums at h
  rw [List.getElem?_map] at h
  by_cases hi : i < n
  · rw [List.getElem?_range hi] at h
    exact ⟨hi, (Option.some.inj h).symm⟩
  · rw [List.getElem?_eq_none_iff.mpr (by rw [List.length_range]; omega)] at h
    cases h
theorem walk_nums {I0 : Hp} {lo : Int} {n : Nat} : WalkD K (Itr lo n) I0 (nums lo n) := by
  refine ⟨fun i H2 I2 e1 e2 hi => ?_, fun H2 I2 e1 e2 => ?_, fun i H2 I2 w H3 e1 e2 hi y => ?_⟩
  · rw [nums_len] at hi
    exact hi
  · show n ≤ (nums lo n).length
    rw [nums_len]
    exact Nat.le_refl _
  · obtain ⟨e, y⟩ := y
    subst e y
    refine ⟨I2, Nx.refl e2, fun d hd => ?_⟩
    obtain ⟨_, rfl⟩ := nums_get hd
    exact .int _
theorem ei_rng1 {t : TA} {n : Int} (h : EvA K t δ [.int n]) (h1 : -(2 ^ 62) ≤ n) (h2 : n < 2 ^ 62) : EvI K (iRng1 t) δ (nums 0 n.toNat) := fun G σ H I s g r R q =>
  h G σ H I s g r _ fun vs H1 I1 n1 rv => by
    cases rv with
    | cons r1 rv =>
      cases rv
      cases r1
      exact ⟨n, rfl, h1, h2, q _ H1 I1 n1 walk_nums⟩

/-- for target in ..: body -/
theorem as_for {wi : TI} {g : TG} (hi : EvI K wi δ xs) (Pv : Nat → List Sl → Prop) (h0 : Pv 0 δ)
    (hs : ∀ i d δ', xs[i]? = some d → Pv i δ' → Ag K g d δ' (fun δ2 => As K E t δ2 (fun o => match o with
        | .nx δ3 => Pv (i + 1) δ3
        | .ct δ3 => Pv (i + 1) δ3
        | .bk δ3 => P (.nx δ3)
        | .rt x => P (.rt x)
        | .ex c => P (.ex c)
        | .exd c fs => P (.exd c fs)))) (hd : ∀ δ', Pv xs.length δ' → P (.nx δ')) : As K E (tFor wi g t) δ P := fun G I0 σ H I D n r c => by
  refine hi G σ H I n.s n.h r _ fun J H1 I1 n1 w => ?_
  have nb := n.trans n1
  refine ⟨fun i m σ' H' => m = xs.length - i ∧ i ≤ xs.length ∧ ∃ δ' I', Pv i δ' ∧ Nx G I1 H' I' ∧ RelS K G H' I' σ' δ', ⟨xs.length, by simp, Nat.zero_le _, δ, I1, h0, nb.here, r.next n1⟩, ?_⟩
  rintro i m σ2 H2 ⟨rfl, hle, δ2, I2, p2, n2, r2⟩
  by_cases hlt : i < xs.length
  · refine .inr ⟨w.goes i H2 I2 n2.i n2.s hlt, fun σ' H' => ∃ δ' I', Pv (i + 1) δ' ∧ Nx G I1 H' I' ∧ RelS K G H' I' σ' δ', fun σ' H' ⟨δ', I', a, b, cc⟩ => ⟨xs.length - (i + 1), by omega, rfl, hlt, δ', I', a, b, cc⟩, fun v H3 y => ?_⟩
    obtain ⟨I3, n3, rv⟩ := w.yields i H2 I2 v H3 n2.i n2.s hlt y
    have n3' := n2.trans n3
    refine hs i _ δ2 (List.getElem?_eq_getElem hlt) p2 G σ2 H3 I3 v (r2.next n3) n3.s (rv _ (List.getElem?_eq_getElem hlt)) _ fun δ4 σ4 a4 r4 => ?_
    refine a4 G I1 σ4 H3 I3 _ n3' r4 ⟨fun δ' σ' H' I' p n' r' => ⟨δ', I', p, n', r'⟩, fun δ' σ' H' I' p n' r' => c.nx δ' σ' H' I' p (nb.rebase n') r', fun δ' σ' H' I' p n' r' => ⟨δ', I', p, n', r'⟩, fun x v H' I' p n' r' => c.rt x v H' I' p (nb.rebase n') r', c.ex, c.exd⟩
  · have e : i = xs.length := by omega
    subst e
    exact .inl ⟨w.stops H2 I2 n2.i n2.s, c.nx δ2 σ2 H2 I2 (hd δ2 p2) (nb.rebase n2) r2⟩

/-! ### comprehensions -/
def wipeD (δ : List Sl) : List Nat → List Sl
  | [] => δ
  | v :: vs => (wipeD δ vs).set v .no
theorem RelS.wipe {G H I : Hp} {σ : L2.St} {δ : List Sl} (r : RelS K G H I σ δ) : ∀ vs : List Nat, RelS K G H I (L2.wipe σ vs) (wipeD δ vs)
  | [] => r
  | v :: vs => (RelS.wipe r vs).none
/-- the target's slots lie among the wiped ones -/
def GWipe (g : TG) (vs : List Nat) : Prop := ∀ v σ H (Q Q' : L2.St → Hp → Prop), (∀ σ', L2.wipe σ' vs = L2.wipe σ vs → Q σ' H → Q' σ' H) → g v (L2.wipe σ vs) H Q → g v (L2.wipe σ vs) H Q'
/-- what a comprehension collects: c i tells whether the i-th item is kept, f i its value -/
def kept (n : Nat) (c : Nat → Bool) (f : Nat → PyData) : List PyData := ((List.range n).filter c).map f
theorem kept_zero {c : Nat → Bool} {f : Nat → PyData} : kept 0 c f = [] := rfl
theorem kept_yes {n : Nat} {c : Nat → Bool} {f : Nat → PyData} (h : c n = true) : kept (n + 1) c f = kept n c f ++ [f n] := by
  unfold kept
  rw [List.range_succ, List.filter_append, List.map_append, List.filter_cons, if_pos h]
  rfl
theorem kept_no {n : Nat} {c : Nat → Bool} {f : Nat → PyData} (h : c n = false) : kept (n + 1) c f = kept n c f := by
  unfold kept
  rw [List.range_succ, List.filter_append, List.map_append, List.filter_cons, if_neg (by rw [h]; decide)]
  show _ ++ [] = _
  rw [List.append_nil]
theorem kept_len (n : Nat) (c : Nat → Bool) (f : Nat → PyData) : (kept n c f).length ≤ n := by
  unfold kept
  rw [List.length_map]
  have h := List.length_filter_le c (List.range n)
  rw [List.length_range] at h
  exact h
theorem en_lc {wi : TI} {g : TG} {vs : List Nat} (c : Nat → Bool) (f : Nat → PyData) (hi : EvI K wi δ xs) (hz : xs.length ≤ sizeLine) (hw : GWipe g vs)
    (hs : ∀ i d, xs[i]? = some d → Ag K g d (wipeD δ vs) (fun δ2 => EvT K tt δ2 (c i) ∧ (c i = true → Ev K te δ2 (f i)))) : EvN K (tLc wi g tt te vs) δ (kept xs.length c f) := fun G σ H I s gg r Q q => by
  refine hi G σ H I s gg r _ fun J H1 I1 n1 w => ?_
  intro D hD
  -- the list at D stands in H alone
  have key : ∀ i m H2, (m = xs.length - i ∧ i ≤ xs.length ∧ ∃ H3 I3 ws, H3 D = none ∧ Nx H1 I1 H3 I3 ∧ H2 = upd H3 D (.lst ws) ∧ RpAll K I3 ws (kept i c f)) →
      (J.stop i H2 ∧ Q (.ref D) H2) ∨ (J.go i H2 ∧ ∃ Nt : Hp → Prop, (∀ H', Nt H' → ∃ m', m' < m ∧ (m' = xs.length - (i + 1) ∧ i + 1 ≤ xs.length ∧ ∃ H3 I3 ws, H3 D = none ∧ Nx H1 I1 H3 I3 ∧ H' = upd H3 D (.lst ws) ∧ RpAll K I3 ws (kept (i + 1) c f))) ∧
        ∀ x H', J.yld i H2 x H' → g x (L2.wipe σ vs) H' fun σ2 H2 => L2.wipe σ2 vs = L2.wipe σ vs ∧ tt σ2 H2 fun b H3 =>
          if b = true then te σ2 H3 fun y H4 => ∃ acc, H4 D = some (.lst acc) ∧ acc.length < sizeLine ∧ Nt (upd H4 D (.lst (acc ++ [y]))) else Nt H3) := by
    rintro i m H2 ⟨rfl, hle, H3, I3, ws, hD3, n3, rfl, rw3⟩
    have s3 : Same I3 (upd H3 D (.lst ws)) := n3.s.trans (same_new hD3)
    have nO : Nx H3 I3 (upd H3 D (.lst ws)) I3 := Nx.own n3.s hD3
    by_cases hlt : i < xs.length
    · refine .inr ⟨w.goes i _ I3 n3.i s3 hlt, fun H' => i + 1 ≤ xs.length ∧ ∃ H3 I3 ws, H3 D = none ∧ Nx H1 I1 H3 I3 ∧ H' = upd H3 D (.lst ws) ∧ RpAll K I3 ws (kept (i + 1) c f), fun H' p => ⟨xs.length - (i + 1), by omega, rfl, p⟩, fun x H4 y => ?_⟩
      obtain ⟨I4, n4, rv⟩ := w.yields i _ I3 x H4 n3.i s3 hlt y
      have hx : xs[i]? = some xs[i] := List.getElem?_eq_getElem hlt
      have hD4 : H4 D = some (.lst ws) := n4.h D _ upd_same
      have iD4 : I4 D = none := n4.f D _ upd_same (n3.s.free hD3)
      have r4 : RelS K G H4 I4 σ δ := ((r.next n1).next (n3.trans nO)).next n4
      have g4 : Same G H4 := ((gg.trans n1.h).trans (n3.trans nO).h).trans n4.h
      -- a state behind H4 in which D still holds ws: what stands without D
      have back : ∀ H5 I5, Nx H4 I4 H5 I5 → ∀ ws' ys, RpAll K I5 ws' ys → ∃ H6 I6 ws2, H6 D = none ∧ Nx H1 I1 H6 I6 ∧ upd H5 D (.lst ws') = upd H6 D (.lst ws2) ∧ RpAll K I6 ws2 ys := fun H5 I5 n5 ws' ys ra => by
        have hD5 : H5 D = some (.lst ws) := n5.h D _ hD4
        have iD5 : I5 D = none := n5.f D _ hD4 iD4
        have nn := (nO.trans n4).trans n5
        refine ⟨fun b => if b = D then none else H5 b, I5, ws', if_pos rfl, ⟨fun b o eb => ?_, (n3.i.trans n4.i).trans n5.i, fun b o eb => ?_, fun b o eb nb => ?_⟩, ?_, ra⟩
        · have hb : b ≠ D := ne_of_none eb hD
          show (if b = D then none else H5 b) = _
          rw [if_neg hb]
          exact nn.h b o (n3.h b o eb)
        · have hb : b ≠ D := ne_of_none eb iD5
          show (if b = D then none else H5 b) = _
          rw [if_neg hb]
          exact n5.s b o eb
        · exact nn.f b o (n3.h b o eb) (n3.f b o eb nb)
        · funext b
          unfold upd
          by_cases hb : b = D
          · rw [if_pos hb, if_pos hb]
          · rw [if_neg hb, if_neg hb]
            exact (if_neg hb).symm
      refine hw x σ H4 (fun σ2 H2 => tt σ2 H2 fun b H3 => if b = true then te σ2 H3 fun y H4 => ∃ acc, H4 D = some (.lst acc) ∧ acc.length < sizeLine ∧ (i + 1 ≤ xs.length ∧ ∃ H3' I3 ws, H3' D = none ∧ Nx H1 I1 H3' I3 ∧ upd H4 D (.lst (acc ++ [y])) = upd H3' D (.lst ws) ∧ RpAll K I3 ws (kept (i + 1) c f)) else (i + 1 ≤ xs.length ∧ ∃ H3' I3 ws, H3' D = none ∧ Nx H1 I1 H3' I3 ∧ H3 = upd H3' D (.lst ws) ∧ RpAll K I3 ws (kept (i + 1) c f))) _ (fun σ' e q => ⟨e, q⟩) ?_
      refine hs i _ hx G (L2.wipe σ vs) H4 I4 x (r4.wipe vs) n4.s (rv _ hx) _ fun δ5 σ5 a5 r5 => ?_
      refine a5.1 G σ5 H4 I4 n4.s g4 r5 _ fun H5 I5 n5 => ?_
      cases hc : c i with
      | true =>
        rw [if_pos rfl]
        refine a5.2 hc G σ5 H5 I5 n5.s (n5.g g4) (r5.next n5) _ fun v H6 I6 n6 rv6 => ?_
        have nn := n5.trans n6
        have hl : ws.length ≤ i := by rw [rw3.length]; exact kept_len _ _ _
        refine ⟨ws, nn.h D _ hD4, by omega, hlt, back H6 I6 nn _ _ ?_⟩
        rw [kept_yes hc]
        exact (rw3.mono (n4.i.trans nn.i)).app (.cons rv6 .nil)
      | false =>
        rw [if_neg Bool.false_ne_true]
        obtain ⟨H6, I6, ws2, b1, b2, b3, b4⟩ := back H5 I5 n5 ws (kept (i + 1) c f) (by rw [kept_no hc]; exact rw3.mono (n4.i.trans n5.i))
        refine ⟨hlt, H6, I6, ws2, b1, b2, ?_, b4⟩
        rw [← b3]
        funext b
        unfold upd
        by_cases hb : b = D
        · rw [if_pos hb, hb]
          exact n5.h D _ hD4
        · rw [if_neg hb]
    · have e : i = xs.length := by omega
      subst e
      exact .inl ⟨w.stops _ I3 n3.i s3, q D H3 I3 ws (n1.trans n3) hD3 rw3⟩
  refine ⟨fun i m H2 => m = xs.length - i ∧ i ≤ xs.length ∧ ∃ H3 I3 ws, H3 D = none ∧ Nx H1 I1 H3 I3 ∧ H2 = upd H3 D (.lst ws) ∧ RpAll K I3 ws (kept i c f), ⟨xs.length, by simp, Nat.zero_le _, H1, I1, [], hD, Nx.refl n1.s, rfl, .nil⟩, fun i m H2 p => key i m H2 p⟩
theorem gw_name {i : Nat} {vs : List Nat} (h : ∀ σ : L2.St, ∀ v, L2.wipe ((L2.wipe σ vs).set i (some v)) vs = L2.wipe σ vs) : GWipe (gName i) vs := fun v σ H Q Q' k q => k _ (h σ v) q
theorem kept_map {n : Nat} {f : Nat → PyData} : kept n (fun _ => true) f = (List.range n).map f := by
  unfold kept
  rw [List.filter_eq_self.mpr (fun _ _ => rfl)]
theorem et_yes : EvT K tYes δ true := fun G σ H I s g r Q q => q H I (Nx.refl s)
end

/-! ### defs -/
/-- the promise of a def over data: F tells what comes of the arguments -/
def SpD (K : PySem.W.Frag) (F : List PyData → Out → Prop) : Sp := fun vs H Q E => ∃ I ds o, Same I H ∧ RpAll K I vs ds ∧ F ds o ∧ match o with
  | .rt x => ∀ v H' I', Nx H I H' I' → Rp K I' v x → Q v H'
  | .ex c => ∀ H', Same H H' → E c none H'
  | .exd c fs => ∀ d H', Same H H' → H' d = some (.xd fs) → E c (some d) H'
  | _ => False
/-- the slots at the start -/
def slots0 (n : Nat) (ds : List PyData) : List Sl := ds.map .d ++ List.replicate (n - ds.length) .no
/-- the body's end is the call's -/
def finP (o : Out) : Out → Prop
  | .rt x => o = .rt x
  | .nx _ => o = .rt .none
  | .ex c => o = .ex c
  | .exd c fs => o = .exd c fs
  | _ => False
theorem rel_start {K : PySem.W.Frag} {H I : Hp} {N : List Str} {vs : List V} {ds : List PyData} (r : RpAll K I vs ds) : RelS K H H I (L2.start N vs) (slots0 N.length ds) where
  len := by
    unfold L2.start slots0
    rw [List.length_append, List.length_append, List.length_map, List.length_map, List.length_replicate, List.length_replicate, r.length]
  d := fun i x e => by
    unfold slots0 at e
    by_cases hi : i < ds.length
    · rw [List.getElem?_append_left (by rw [List.length_map]; exact hi), List.getElem?_map, List.getElem?_eq_getElem hi] at e
      have e' : Sl.d ds[i] = .d x := Option.some.inj e
      cases e'
      obtain ⟨v, hv, rv⟩ := r.get (List.getElem?_eq_getElem hi)
      refine ⟨v, ?_, rv⟩
      unfold L2.start
      rw [List.getElem?_append_left (by rw [List.length_map, r.length]; exact hi), List.getElem?_map, hv]
      rfl
    · rw [List.getElem?_append_right (by rw [List.length_map]; omega)] at e
      have := List.mem_of_getElem? e
      have := List.eq_of_mem_replicate this
      cases this
  own := fun i xs e => by
    unfold slots0 at e
    by_cases hi : i < ds.length
    · rw [List.getElem?_append_left (by rw [List.length_map]; exact hi), List.getElem?_map, List.getElem?_eq_getElem hi] at e
      have e' : Sl.d ds[i] = .own xs := Option.some.inj e
      cases e'
    · rw [List.getElem?_append_right (by rw [List.length_map]; omega)] at e
      have := List.mem_of_getElem? e
      have := List.eq_of_mem_replicate this
      cases this
  sep := fun i j xs ys p hn e1 e2 => by
    unfold slots0 at e1
    by_cases hi : i < ds.length
    · rw [List.getElem?_append_left (by rw [List.length_map]; exact hi), List.getElem?_map, List.getElem?_eq_getElem hi] at e1
      have e' : Sl.d ds[i] = .own xs := Option.some.inj e1
      cases e'
    · rw [List.getElem?_append_right (by rw [List.length_map]; omega)] at e1
      have := List.mem_of_getElem? e1
      have := List.eq_of_mem_replicate this
      cases this
theorem as_run {K : PySem.W.Frag} {N : List Str} {t : TS} {F : List PyData → Out → Prop} {vs : List V} {H : Hp} {Q : VK} {E : XK} (h : SpD K F vs H Q E) (ha : ∀ ds o, F ds o → As K E t (slots0 N.length ds) (finP o)) :
    t { nx := fun _ H' => Q .non H', rt := Q } (L2.start N vs) H := by
  obtain ⟨I, ds, o, s, r, f, k⟩ := h
  refine ha ds o f H I (L2.start N vs) H I _ (Nx.refl s) (rel_start r) ⟨fun δ' σ' H' I' p n' r' => ?_, fun δ' σ' H' I' p => p.elim, fun δ' σ' H' I' p => p.elim, fun x v H' I' p n' r' => ?_, fun c H' p e => ?_, fun c fs d H' p e e2 => ?_⟩
  · have p' : o = .rt .none := p
    subst p'
    exact k .non H' I' n' .non
  · have p' : o = .rt x := p
    subst p'
    exact k v H' I' n' r'
  · have p' : o = .ex c := p
    subst p'
    exact k H' e
  · have p' : o = .exd c fs := p
    subst p'
    exact k d H' e e2
theorem sp_len {K : PySem.W.Frag} {F : List PyData → Out → Prop} {n : Nat} (h : ∀ ds o, F ds o → ds.length = n) : ∀ vs H Q E, SpD K F vs H Q E → vs.length = n := fun vs H Q E ⟨I, ds, o, s, r, f, k⟩ => by
  rw [r.length]
  exact h ds o f
section
variable {P : Program} {w : World} {K : PySem.W.Frag} {mg : Str → Option Value} {base : Heap}
/-- a def: its body's term t, and what it comes to over data -/
theorem def_ok {x qual : Str} {st : Stmt} {f : Addr} {fd : FuncData} {N ps : List Str} {k : Nat} {F : List PyData → Out → Prop} (FF : Fun K x qual st f fd) (S : FnScope N ps (defScope st)) (len : ∀ ds o, F ds o → ds.length = ps.length)
    (hbody : ∀ (cdv : Value) (A : Around) (outer : List Env) (s : Shared) (H : Hp) (E : XK), Room k (A.deeper (envOfC qual (defScope st) s.heap.objs.size f cdv)) →
      ∃ t, PSs (cxOf (L2.CX P w) P w K mg base N qual (defScope st) f cdv A outer s H E) (defBody st) t ∧ ∀ ds o, F ds o → As K E t (slots0 N.length ds) (finP o)) : FnOk P w K mg base (L2.CX P w) (k + 1) f fd ps (SpD K F) := by
  refine FF.okX S (sp_len len) (fun cdv A outer s H vs Q E hr h => ?_)
  obtain ⟨t, h1, h2⟩ := hbody cdv A outer s H E hr
  exact ⟨t, h1, as_run h h2⟩
/-- the law itself: nothing leaves it -/
theorem law_ok {x qual : Str} {st : Stmt} {f : Addr} {fd : FuncData} {N ps : List Str} {k : Nat} {F : List PyData → Out → Prop} (FF : Fun K x qual st f fd) (S : FnScope N ps (defScope st)) (len : ∀ ds o, F ds o → ds.length = ps.length)
    (hbody : ∀ (cdv : Value) (A : Around) (outer : List Env) (s : Shared) (H : Hp) (E : XK), Room k (A.deeper (envOfC qual (defScope st) s.heap.objs.size f cdv)) →
      ∃ t, PSs (cxOf CX0 P w K mg base N qual (defScope st) f cdv A outer s H E).nox (defBody st) t ∧ ∀ ds o, F ds o → As K E t (slots0 N.length ds) (finP o)) : FnOk P w K mg base CX0 (k + 1) f fd ps (SpD K F) := by
  refine FF.ok S (sp_len len) (fun cdv A outer s H vs Q E hr h => ?_)
  obtain ⟨t, h1, h2⟩ := hbody cdv A outer s H E hr
  exact ⟨t, h1, as_run h h2⟩
end
section
variable {K : PySem.W.Frag} {δ : List Sl} {xs : List PyData} {x : PyData} {ta : TA} {F : List PyData → Out → Prop} {W : WX} {c : Value}
/-- a call -/
theorem ev_call (ha : EvA K ta δ xs) (hF : F xs (.rt x)) : Ev K (tCallS (SpD K F) (WE W) ta) δ x := fun G σ H I s g r Q q =>
  ha G σ H I s g r _ fun vs H1 I1 n1 r1 => ⟨I1, xs, .rt x, n1.s, r1, hF, fun v H2 I2 n2 r2 => q v H2 I2 (n1.trans n2) r2⟩
theorem ex_call {E : XK} (ha : EvA K ta δ xs) (hF : F xs (.ex c)) : EvX K E (tCallS (SpD K F) (WE fun cls d _ H => E cls d H) ta) δ c := fun G σ H I s g r he Q =>
  ha G σ H I s g r _ fun vs H1 I1 n1 r1 => ⟨I1, xs, .ex c, n1.s, r1, hF, fun H2 e => he H2 (n1.h.trans e)⟩
end
end Tw

/-! Tw2: operators, built-in calls and subscripts over data. -/
namespace Tw
open PySem PySem.Spec PyProof.Rows L2
section
variable {X : Cx}
def rCatS : R2 := fun x y H Q => ∃ i j, x = .str i ∧ y = .str j ∧ i.length + j.length ≤ sizeLine ∧ Q (.str (i ++ j)) H
def rPlus : R2 := rI0 fun i j => .int (i + j)
def rMinus : R2 := rI0 fun i j => .int (i - j)
def rAddA (K : PySem.W.Frag) : R2 := fun x y H Q => rPlus x y H Q ∨ (fun x y H Q => rCatA K x y H Q ∨ (fun x y H Q => rCat x y H Q ∨ rCatS x y H Q) x y H Q) x y H Q
theorem opAdd : OpR X (binaryOp .Add) (rAddA X.K) := OpR.or op_add (OpR.or op_catA (OpR.or op_cat op_add_str))
theorem opSub : OpR X (binaryOp .Sub) rMinus := op_sub
def rTimes : R2 := rI CMulW fun i j => .int (i * j)
def rTimesB : R2 := rI CMul fun i j => .int (i * j)
def rMulA (K : PySem.W.Frag) : R2 := fun x y H Q => rTimes x y H Q ∨ (fun x y H Q => rTimesB x y H Q ∨ rRepT K x y H Q) x y H Q
theorem opMul : OpR X (binaryOp .Mult) (rMulA X.K) := OpR.or op_mulW (OpR.or op_mul op_repT)
def rQuoW : R2 := rI CDivW fun i j => .int (i / j)
def rQuoN : R2 := rI CDivN fun i j => .int (i.fdiv j)
def rDivA : R2 := fun x y H Q => rQuoW x y H Q ∨ rQuoN x y H Q
theorem opDiv : OpR X (binaryOp .FloorDiv) rDivA := OpR.or op_fdivW op_fdivN
def rModA : R2 := rI (fun _ j => j ≠ 0) fun i j => .int (i.fmod j)
theorem opMod : OpR X (binaryOp .Mod) rModA := op_modN
def rPowA : R2 := rI CPow fun i j => .int (i ^ j.toNat)
theorem opPow : OpR X (binaryOp .Pow) rPowA := op_pow
def rLtA : R2 := rI0 fun i j => .bl (decide (i < j))
def rGtA : R2 := rI0 fun i j => .bl (decide (j < i))
def rGeA : R2 := rI0 fun i j => .bl (decide (j ≤ i))
def rLeI : R2 := rI0 fun i j => .bl (decide (i ≤ j))
def rLeA (K : PySem.W.Frag) : R2 := fun x y H Q => rLeI x y H Q ∨ rLeT K x y H Q
theorem opLt : OpR X (compareOp .Lt) rLtA := op_lt
theorem opGt : OpR X (compareOp .Gt) rGtA := op_gt
theorem opGe : OpR X (compareOp .GtE) rGeA := op_ge
theorem opLe (hu : X.A.units < cLine) : OpR X (compareOp .LtE) (rLeA X.K) := OpR.or op_le (op_leT hu)
theorem opEq (hu : X.A.units + 64 < cLine) : OpR X (compareOp .Eq) (rEqD X.K) := op_eqD hu
theorem opNe (hu : X.A.units + 64 < cLine) : OpR X (compareOp .NotEq) (rNeD X.K) := op_neD hu
def rIsNon : R2 := fun x y H Q => y = .non ∧ Q (.bl (decide (x = .non))) H
def rNotNon : R2 := fun x y H Q => y = .non ∧ Q (.bl (!decide (x = .non))) H
theorem opIsN : OpR X (compareOp .Is) rIsNon := op_isN
theorem opNotN : OpR X (compareOp .IsNot) rNotNon := op_notN
def rNegA : V → Hp → VK → Prop := rU fun i => .int (-i)
theorem unNeg : UnR X (unaryOp .USub) rNegA := un_neg
def rLenA (K : PySem.W.Frag) : List V → Hp → VK → Prop := fun xs H Q => ∃ x n, xs = [x] ∧ LenV K x H n ∧ Q (.int n) H
theorem callLen : CallR X (.builtin "len") (rLenA X.K) := call_len
def rMax2A : List V → Hp → VK → Prop := fun xs H Q => ∃ i j, xs = [.int i, .int j] ∧ Q (.int (if j > i then j else i)) H
def rMin2A : List V → Hp → VK → Prop := fun xs H Q => ∃ i j, xs = [.int i, .int j] ∧ Q (.int (if j < i then j else i)) H
def rTupA (K : PySem.W.Frag) : List V → Hp → VK → Prop := fun xs H Q => ∃ p ys, xs = [.ref p] ∧ ((SqL K H p ys ∧ ∀ l, H l = none → Q (.ref l) (upd H l (.tup ys))) ∨ (SqT K H p ys ∧ Q (.ref p) H))
theorem callTup : CallR X (.type "tuple") (rTupA X.K) := call_tuple_of
def rLstA (K : PySem.W.Frag) : List V → Hp → VK → Prop := fun xs H Q => ∃ p ys, xs = [.ref p] ∧ (SqL K H p ys ∨ SqT K H p ys) ∧ ∀ l, H l = none → Q (.ref l) (upd H l (.lst ys))
theorem callLst : CallR X (.type "list") (rLstA X.K) := call_list_of
def rIntA : List V → Hp → VK → Prop := fun xs H Q => (∃ i, xs = [.int i] ∧ Q (.int i) H) ∨ ∃ k, xs = [.bl k] ∧ Q (.int (if k then 1 else 0)) H
theorem callInt : CallR X (.type "int") rIntA := call_int1
def rAbsA : List V → Hp → VK → Prop := fun xs H Q => ∃ i, xs = [.int i] ∧ Q (.int (if i < 0 then -i else i)) H
theorem callAbs : CallR X (.builtin "abs") rAbsA := call_abs
end
section
variable {K : PySem.W.Frag} {δ : List Sl} {ta tb te : TE} {t u : TT} {x y z : PyData} {xs ys : List PyData} {i j : Int}
/-! ### operators on data -/
theorem rd_plus : R2D K (rAddA K) (.int i) (.int j) (.int (i + j)) := fun H I v u s r1 r2 Q q => by
  cases r1; cases r2
  exact .inl ⟨i, j, rfl, rfl, q _ H I (Nx.refl s) (.int _)⟩
theorem rd_minus : R2D K rMinus (.int i) (.int j) (.int (i - j)) := fun H I v u s r1 r2 Q q => by
  cases r1; cases r2
  exact ⟨i, j, rfl, rfl, q _ H I (Nx.refl s) (.int _)⟩
theorem rd_cat (h : xs.length + ys.length ≤ sizeLine) : R2D K (rAddA K) (.tuple xs) (.tuple ys) (.tuple (xs ++ ys)) := fun H I v u s r1 r2 Q q => by
  cases r1 with
  | tup h1 a1 =>
    cases r2 with
    | tup h2 a2 =>
      refine .inr (.inl ⟨_, _, _, _, rfl, rfl, .of (s _ _ h1), .of (s _ _ h2), by rw [a1.length, a2.length]; exact h, fun e => ?_, fun e e2 => ?_, fun e e2 p hp => ?_⟩)
      · subst e
        cases a1
        exact q _ H I (Nx.refl s) (.tup h2 a2)
      · subst e2
        cases a2
        rw [List.append_nil] at q
        exact q _ H I (Nx.refl s) (.tup h1 a1)
      · exact q _ _ _ (Nx.new s hp) (.tup upd_same ((a1.app a2).mono (same_new (s.free hp))))
theorem rd_cats {a b : Str} (h : a.length + b.length ≤ sizeLine) : R2D K (rAddA K) (.str a) (.str b) (.str (a ++ b)) := fun H I v u s r1 r2 Q q => by
  cases r1; cases r2
  exact .inr (.inr (.inr ⟨a, b, rfl, rfl, h, q _ H I (Nx.refl s) (.str _)⟩))
/-- two lists: a new one -/
theorem en_cat (ha : Ev K ta δ (.list xs)) (hb : Ev K tb δ (.list ys)) (h : xs.length + ys.length ≤ sizeLine) : EvN K (tOp (rAddA K) ta tb) δ (xs ++ ys) := fun G σ H I s g rl Q q =>
  ha G σ H I s g rl _ fun v H1 I1 n1 r1 => hb G σ H1 I1 n1.s (n1.g g) (rl.next n1) _ fun u H2 I2 n2 r2 => by
    cases r1 with
    | lst h1 a1 =>
      cases r2 with
      | lst h2 a2 =>
        have h1' := n2.s _ _ (n2.i _ _ h1)
        exact .inr (.inr (.inl ⟨_, _, _, _, rfl, rfl, h1', n2.s _ _ h2, by rw [a1.length, a2.length]; exact h, fun p hp => q p H2 I2 _ (n1.trans n2) hp ((a1.mono n2.i).app a2)⟩))
theorem rd_times (h : CMulW i j) : R2D K (rMulA K) (.int i) (.int j) (.int (i * j)) := fun H I v u s r1 r2 Q q => by
  cases r1; cases r2
  exact .inl ⟨i, j, rfl, rfl, h, q _ H I (Nx.refl s) (.int _)⟩
/-- one factor is small -/
theorem rd_timesB (h : CMul i j) : R2D K (rMulA K) (.int i) (.int j) (.int (i * j)) := fun H I v u s r1 r2 Q q => by
  cases r1; cases r2
  exact .inr (.inl ⟨i, j, rfl, rfl, h, q _ H I (Nx.refl s) (.int _)⟩)
theorem flat_rep {I : Hp} {vs : List V} (h : RpAll K I vs xs) : ∀ n : Nat, RpAll K I (List.replicate n vs).flatten (List.replicate n xs).flatten
  | 0 => .nil
  | n + 1 => by
    rw [List.replicate_succ, List.replicate_succ, List.flatten_cons, List.flatten_cons]
    exact h.app (flat_rep h n)
theorem rd_rep (h1 : xs ≠ []) (h2 : 2 ≤ j) (h3 : j ≤ 1000) (h4 : xs.length ≤ 1000) : R2D K (rMulA K) (.tuple xs) (.int j) (.tuple (List.replicate j.toNat xs).flatten) := fun H I v u s r1 r2 Q q => by
  cases r1 with
  | tup ht a1 =>
    cases r2
    refine .inr (.inr ⟨_, j, _, rfl, rfl, .of (s _ _ ht), fun e => ?_, h2, h3, by rw [a1.length]; exact h4, fun p hp => ?_⟩)
    · subst e
      cases a1
      exact h1 rfl
    · exact q _ _ _ (Nx.new s hp) (.tup upd_same ((flat_rep a1 _).mono (same_new (s.free hp))))
theorem rd_quo {b : Nat} (h0 : 0 < j) (hb : j < 2 ^ b) (h1 : 0 < b) (h9 : b ≤ 9000) : R2D K rDivA (.int i) (.int j) (.int (i / j)) := fun H I v u s r1 r2 Q q => by
  cases r1; cases r2
  refine .inl ⟨i, j, rfl, rfl, wide_div h0 (b := b) ?_ h1 h9, q _ H I (Nx.refl s) (.int _)⟩
  have e : (j.natAbs : Int) = j := Int.natAbs_of_nonneg (by omega)
  have e2 : ((2 ^ b : Nat) : Int) = (2 : Int) ^ b := by rw [Int.natCast_pow]; rfl
  have : (j.natAbs : Int) < ((2 ^ b : Nat) : Int) := by rw [e, e2]; exact hb
  exact Int.ofNat_lt.mp this
theorem rd_quoN (h : j ≠ 0 ∧ j.natAbs < 1073741824) : R2D K rDivA (.int i) (.int j) (.int (i.fdiv j)) := fun H I v u s r1 r2 Q q => by
  cases r1; cases r2
  exact .inr ⟨i, j, rfl, rfl, h, q _ H I (Nx.refl s) (.int _)⟩
theorem rd_mod (h : 0 < j) : R2D K rModA (.int i) (.int j) (.int (i % j)) := fun H I v u s r1 r2 Q q => by
  cases r1; cases r2
  refine ⟨i, j, rfl, rfl, by omega, ?_⟩
  show Q (.int (i.fmod j)) H
  rw [Int.fmod_eq_emod_of_nonneg i (by omega)]
  exact q _ H I (Nx.refl s) (.int _)
theorem rd_pow (h : CPow i j) : R2D K rPowA (.int i) (.int j) (.int (i ^ j.toNat)) := fun H I v u s r1 r2 Q q => by
  cases r1; cases r2
  exact ⟨i, j, rfl, rfl, h, q _ H I (Nx.refl s) (.int _)⟩
theorem rd_lt : R2D K rLtA (.int i) (.int j) (.bool (decide (i < j))) := fun H I v u s r1 r2 Q q => by
  cases r1; cases r2
  exact ⟨i, j, rfl, rfl, q _ H I (Nx.refl s) (.bl _)⟩
theorem rd_gt : R2D K rGtA (.int i) (.int j) (.bool (decide (j < i))) := fun H I v u s r1 r2 Q q => by
  cases r1; cases r2
  exact ⟨i, j, rfl, rfl, q _ H I (Nx.refl s) (.bl _)⟩
theorem rd_ge : R2D K rGeA (.int i) (.int j) (.bool (decide (j ≤ i))) := fun H I v u s r1 r2 Q q => by
  cases r1; cases r2
  exact ⟨i, j, rfl, rfl, q _ H I (Nx.refl s) (.bl _)⟩
theorem rd_le : R2D K (rLeA K) (.int i) (.int j) (.bool (decide (i ≤ j))) := fun H I v u s r1 r2 Q q => by
  cases r1; cases r2
  exact .inl ⟨i, j, rfl, rfl, q _ H I (Nx.refl s) (.bl _)⟩
theorem rall_ints {I : Hp} : ∀ {ns : List Int} {vs : List V}, RpAll K I vs (ns.map PyData.int) → vs = ns.map V.int
  | [], _, h => by cases h; rfl
  | n :: ns, _, h => by
    cases h with
    | cons h1 h2 =>
      cases h1
      rw [rall_ints h2]
      rfl
theorem ints_rall {I : Hp} : ∀ ns : List Int, RpAll K I (ns.map V.int) (ns.map PyData.int)
  | [] => .nil
  | n :: ns => .cons (.int n) (ints_rall ns)
/-- <= of tuples of whole numbers, as the library tells it -/
def leT (ns ms : List Int) : Bool := Ob.lexAt (fun j => decide (ns.getD j 0 = ms.getD j 0)) (fun j => decide (ns.getD j 0 ≤ ms.getD j 0)) (decide (ns.length ≤ ms.length)) 0 (min ns.length ms.length)
theorem rd_leT {ns ms : List Int} : R2D K (rLeA K) (.tuple (ns.map .int)) (.tuple (ms.map .int)) (.bool (leT ns ms)) := fun H I v u s r1 r2 Q q => by
  cases r1 with
  | tup h1 a1 =>
    cases r2 with
    | tup h2 a2 =>
      have e1 := rall_ints a1
      have e2 := rall_ints a2
      subst e1 e2
      exact .inr ⟨_, _, ns, ms, rfl, rfl, .of (s _ _ h1), .of (s _ _ h2), q _ H I (Nx.refl s) (.bl _)⟩
theorem rd_eq (hx : SeqAt.shaped x = true) (hy : SeqAt.shaped y = true) : R2D K (rEqD K) x y (.bool (PyData.eqv x y)) := fun H I v u s r1 r2 Q q =>
  ⟨x, y, (r1.mono s).dp (SeqAt.canLay_of_shaped hx), (r2.mono s).dp (SeqAt.canLay_of_shaped hy), hx, hy, q _ H I (Nx.refl s) (.bl _)⟩
theorem rd_ne (hx : SeqAt.shaped x = true) (hy : SeqAt.shaped y = true) : R2D K (rNeD K) x y (.bool (!PyData.eqv x y)) := fun H I v u s r1 r2 Q q =>
  ⟨x, y, (r1.mono s).dp (SeqAt.canLay_of_shaped hx), (r2.mono s).dp (SeqAt.canLay_of_shaped hy), hx, hy, q _ H I (Nx.refl s) (.bl _)⟩
def isNon : PyData → Bool
  | .none => true
  | _ => false
theorem rp_non {I : Hp} {v : V} (r : Rp K I v x) : decide (v = .non) = isNon x := by
  cases r <;> rfl
theorem rd_isN : R2D K rIsNon x .none (.bool (isNon x)) := fun H I v u s r1 r2 Q q => by
  cases r2
  exact ⟨rfl, by rw [rp_non r1]; exact q _ H I (Nx.refl s) (.bl _)⟩
theorem rd_notN : R2D K rNotNon x .none (.bool (!isNon x)) := fun H I v u s r1 r2 Q q => by
  cases r2
  exact ⟨rfl, by rw [rp_non r1]; exact q _ H I (Nx.refl s) (.bl _)⟩
theorem ev_neg (h : Ev K ta δ (.int i)) : Ev K (tUn rNegA ta) δ (.int (-i)) := fun G σ H I s g r Q q =>
  h G σ H I s g r _ fun v H1 I1 n1 rv => by
    cases rv
    exact ⟨i, rfl, q _ H1 I1 n1 (.int _)⟩
/-! ### subscripts -/
theorem rd_ixL (h : atI xs i = some z) : R2D K (rIx K) (.list xs) (.int i) z := fun H I v u s r1 r2 Q q => by
  cases r1 with
  | lst h1 a1 =>
    cases r2
    unfold atI at h
    cases e : ixN xs.length i with
    | none => rw [e] at h; cases h
    | some j =>
      rw [e] at h
      obtain ⟨w, hw, rw'⟩ := a1.get (show xs[j]? = some z from h)
      refine .inl ⟨_, _, i, w, rfl, rfl, .of (s _ _ h1), ?_, q w H I (Nx.refl s) rw'⟩
      unfold atI
      rw [a1.length, e]
      exact hw
theorem rd_ixT (h : atI xs i = some z) : R2D K (rIx K) (.tuple xs) (.int i) z := fun H I v u s r1 r2 Q q => by
  cases r1 with
  | tup h1 a1 =>
    cases r2
    unfold atI at h
    cases e : ixN xs.length i with
    | none => rw [e] at h; cases h
    | some j =>
      rw [e] at h
      obtain ⟨w, hw, rw'⟩ := a1.get (show xs[j]? = some z from h)
      refine .inr (.inl ⟨_, _, i, w, rfl, rfl, .of (s _ _ h1), ?_, q w H I (Nx.refl s) rw'⟩)
      unfold atI
      rw [a1.length, e]
      exact hw
theorem at_nat {α : Type} {l : List α} {j : Nat} {a : α} (h : l[j]? = some a) : atI l (j : Int) = some a := atI_nat h
/-! ### slices -/
theorem eo_none : EvO K tNoPart δ none := fun G σ H I s g r Q q => q H I (Nx.refl s)
theorem eo_some (h : Ev K te δ (.int i)) : EvO K (tPart te) δ (some i) := fun G σ H I s g r Q q =>
  h G σ H I s g r _ fun v H1 I1 n1 rv => by
    cases rv
    exact ⟨i, rfl, q H1 I1 n1⟩
def cutD (xs : List PyData) (lo hi : Option Int) : List PyData := (xs.drop (HT.sIx xs.length 0 lo)).take (HT.sIx xs.length xs.length hi - HT.sIx xs.length 0 lo)
theorem cut_rp {I : Hp} {vs : List V} (a : RpAll K I vs xs) (lo hi : Option Int) : RpAll K I (cutV vs lo hi) (cutD xs lo hi) := by
  unfold cutV cutD
  rw [a.length]
  exact (a.drop _).take _
def rSlAll (K : PySem.W.Frag) : V → Option Int → Option Int → Hp → VK → Prop := fun x lo hi H Q => rSlA K x lo hi H Q ∨ (rSlL K x lo hi H Q ∨ rSlS x lo hi H Q)
theorem sl_all {X : Cx} : SlR X (rSlAll X.K) := by
  intro pins s σ H x v vl vu lo hi sl Q I rx hs pl pu h
  rcases h with h | h | h
  · exact sl_tupA pins s σ H x v vl vu lo hi sl Q I rx hs pl pu h
  · exact sl_list pins s σ H x v vl vu lo hi sl Q I rx hs pl pu h
  · exact sl_str pins s σ H x v vl vu lo hi sl Q I rx hs pl pu h
theorem sIx_whole {lo hi : Option Int} (h : HT.sIx xs.length 0 lo = 0 ∧ HT.sIx xs.length xs.length hi = xs.length) : cutD xs lo hi = xs := by
  unfold cutD
  rw [h.1, h.2, List.drop_zero, Nat.sub_zero, List.take_length]
theorem ev_slT {tl th : TO} {lo hi : Option Int} (h : Ev K te δ (.tuple xs)) (hl : EvO K tl δ lo) (hh : EvO K th δ hi) : Ev K (tSl (rSlAll K) te tl th) δ (.tuple (cutD xs lo hi)) := fun G σ H I s g r Q q =>
  h G σ H I s g r _ fun v H1 I1 n1 rv => hl G σ H1 I1 n1.s (n1.g g) (r.next n1) _ fun H2 I2 n2 => hh G σ H2 I2 n2.s (n2.g (n1.g g)) ((r.next n1).next n2) _ fun H3 I3 n3 => by
    cases rv with
    | tup h1 a1 =>
      have nn := n2.trans n3
      have h1' := nn.i _ _ h1
      refine .inl ⟨_, _, rfl, .of (n3.s _ _ h1'), fun e => ?_, fun e p hp => ?_⟩
      · rw [a1.length] at e
        rw [sIx_whole e] at q
        exact q _ H3 I3 (n1.trans nn) (.tup h1' (a1.mono nn.i))
      · exact q _ _ _ ((n1.trans nn).trans (Nx.new n3.s hp)) (.tup upd_same (((cut_rp a1 lo hi).mono nn.i).mono (same_new (n3.s.free hp))))
theorem en_slL {tl th : TO} {lo hi : Option Int} (h : Ev K te δ (.list xs)) (hl : EvO K tl δ lo) (hh : EvO K th δ hi) : EvN K (tSl (rSlAll K) te tl th) δ (cutD xs lo hi) := fun G σ H I s g r Q q =>
  h G σ H I s g r _ fun v H1 I1 n1 rv => hl G σ H1 I1 n1.s (n1.g g) (r.next n1) _ fun H2 I2 n2 => hh G σ H2 I2 n2.s (n2.g (n1.g g)) ((r.next n1).next n2) _ fun H3 I3 n3 => by
    cases rv with
    | lst h1 a1 =>
      have nn := n2.trans n3
      have h1' := nn.i _ _ h1
      exact .inr (.inl ⟨_, _, rfl, .of (n3.s _ _ h1'), fun p hp => q p H3 I3 _ (n1.trans nn) hp ((cut_rp a1 lo hi).mono nn.i)⟩)
theorem ev_slS {tl th : TO} {lo hi : Option Int} {z : Str} (h : Ev K te δ (.str z)) (hl : EvO K tl δ lo) (hh : EvO K th δ hi) (hz : z.length ≤ sizeLine) : Ev K (tSl (rSlAll K) te tl th) δ (.str (cutS z lo hi)) := fun G σ H I s g r Q q =>
  h G σ H I s g r _ fun v H1 I1 n1 rv => hl G σ H1 I1 n1.s (n1.g g) (r.next n1) _ fun H2 I2 n2 => hh G σ H2 I2 n2.s (n2.g (n1.g g)) ((r.next n1).next n2) _ fun H3 I3 n3 => by
    cases rv
    exact .inr (.inr ⟨z, rfl, hz, q _ H3 I3 ((n1.trans n2).trans n3) (.str _)⟩)
/-! ### calls -/
theorem rc_lenL : RAD K (rLenA K) [.list xs] (.int xs.length) := fun H I vs s r Q q => by
  cases r with
  | cons r1 r2 =>
    cases r2
    cases r1 with
    | lst h1 a1 =>
      refine ⟨_, _, rfl, .inl ⟨_, .of (s _ _ h1), rfl⟩, ?_⟩
      rw [a1.length]
      exact q _ H I (Nx.refl s) (.int _)
theorem rc_lenT : RAD K (rLenA K) [.tuple xs] (.int xs.length) := fun H I vs s r Q q => by
  cases r with
  | cons r1 r2 =>
    cases r2
    cases r1 with
    | tup h1 a1 =>
      refine ⟨_, _, rfl, .inr ⟨_, .of (s _ _ h1), rfl⟩, ?_⟩
      rw [a1.length]
      exact q _ H I (Nx.refl s) (.int _)
theorem rc_lenS {z : Str} (hz : z.length ≤ sizeLine) : RAD K (rLenA K) [.str z] (.int z.length) := fun H I vs s r Q q => by
  cases r with
  | cons r1 r2 =>
    cases r2
    cases r1
    exact ⟨_, _, rfl, ⟨hz, rfl⟩, q _ H I (Nx.refl s) (.int _)⟩
theorem rc_max2 : RAD K rMax2A [.int i, .int j] (.int (if j > i then j else i)) := fun H I vs s r Q q => by
  cases r with
  | cons r1 r2 =>
    cases r2 with
    | cons r2 r3 =>
      cases r3; cases r1; cases r2
      exact ⟨i, j, rfl, q _ H I (Nx.refl s) (.int _)⟩
theorem rc_min2 : RAD K rMin2A [.int i, .int j] (.int (if j < i then j else i)) := fun H I vs s r Q q => by
  cases r with
  | cons r1 r2 =>
    cases r2 with
    | cons r2 r3 =>
      cases r3; cases r1; cases r2
      exact ⟨i, j, rfl, q _ H I (Nx.refl s) (.int _)⟩
theorem rc_tup : RAD K (rTupA K) [.list xs] (.tuple xs) := fun H I vs s r Q q => by
  cases r with
  | cons r1 r2 =>
    cases r2
    cases r1 with
    | lst h1 a1 => exact ⟨_, _, rfl, .inl ⟨.of (s _ _ h1), fun p hp => q _ _ _ (Nx.new s hp) (.tup upd_same (a1.mono (same_new (s.free hp))))⟩⟩
theorem rc_lst : RAN K (rLstA K) [.list xs] xs := fun H I vs s r Q q => by
  cases r with
  | cons r1 r2 =>
    cases r2
    cases r1 with
    | lst h1 a1 => exact ⟨_, _, rfl, .inl (.of (s _ _ h1)), fun p hp => q p H I _ (Nx.refl s) hp a1⟩
theorem rc_lstT : RAN K (rLstA K) [.tuple xs] xs := fun H I vs s r Q q => by
  cases r with
  | cons r1 r2 =>
    cases r2
    cases r1 with
    | tup h1 a1 => exact ⟨_, _, rfl, .inr (.of (s _ _ h1)), fun p hp => q p H I _ (Nx.refl s) hp a1⟩
theorem rc_int : RAD K rIntA [.int i] (.int i) := fun H I vs s r Q q => by
  cases r with
  | cons r1 r2 =>
    cases r2
    cases r1
    exact .inl ⟨i, rfl, q _ H I (Nx.refl s) (.int _)⟩
theorem rc_intB {b : Bool} : RAD K rIntA [.bool b] (.int (if b then 1 else 0)) := fun H I vs s r Q q => by
  cases r with
  | cons r1 r2 =>
    cases r2
    cases r1
    exact .inr ⟨b, rfl, q _ H I (Nx.refl s) (.int _)⟩
theorem rc_abs : RAD K rAbsA [.int i] (.int (if i < 0 then -i else i)) := fun H I vs s r Q q => by
  cases r with
  | cons r1 r2 =>
    cases r2
    cases r1
    exact ⟨i, rfl, q _ H I (Nx.refl s) (.int _)⟩
theorem rc_sum {ns : List Int} : RAD K (rSum K) [.list (ns.map .int)] (.int ns.sum) := fun H I vs s r Q q => by
  cases r with
  | cons r1 r2 =>
    cases r2
    cases r1 with
    | lst h1 a1 =>
      have e := rall_ints a1
      subst e
      exact ⟨_, ns, rfl, .of (s _ _ h1), q _ H I (Nx.refl s) (.int _)⟩
theorem rall_bls {I : Hp} : ∀ {ns : List Bool} {vs : List V}, RpAll K I vs (ns.map PyData.bool) → vs = ns.map V.bl
  | [], _, h => by cases h; rfl
  | n :: ns, _, h => by
    cases h with
    | cons h1 h2 =>
      cases h1
      rw [rall_bls h2]
      rfl
theorem rc_any {bs : List Bool} : RAD K (rAny K) [.list (bs.map .bool)] (.bool (bs.any id)) := fun H I vs s r Q q => by
  cases r with
  | cons r1 r2 =>
    cases r2
    cases r1 with
    | lst h1 a1 =>
      have e := rall_bls a1
      subst e
      exact ⟨_, bs, rfl, .of (s _ _ h1), q _ H I (Nx.refl s) (.bl _)⟩
/-! ### isinstance -/
def tyD : PyData → String
  | .none => "NoneType"
  | .bool _ => "bool"
  | .int _ => "int"
  | .str _ => "str"
  | .list _ => "list"
  | .tuple _ => "tuple"
  | .dict [] => "dict"
  | .dict _ => "list"
theorem rp_ty {I H : Hp} (s : Same I H) {v : V} {d : PyData} (r : Rp K I v d) (hd : ∀ q, d ≠ .dict [q]) : TyX K H v (.type (tyD d)) := by
  cases r with
  | non => exact .base .non
  | bl b => exact .base (.bl b)
  | int i => exact .base (.int i)
  | str x => exact .base (.str x)
  | lst h _ => exact .base (.lst (s _ _ h))
  | tup h _ => exact .base (.tup (s _ _ h))
  | dct h => exact .base (.dK (s _ _ h))
  | scr h => exact absurd rfl (hd _)
/-- isinstance(x, T), T a built-in class -/
theorem ev_isi {n : String} {b : Bool} (h : Ev K te δ x) (hb : kitB (tyD x) n = some b) (hd : ∀ q, x ≠ .dict [q]) : Ev K (tCB (rIsi K) (tCons te (tCons (tC (.ty n)) tNil))) δ (.bool b) := fun G σ H I s g r Q q =>
  h G σ H I s g r _ fun v H1 I1 n1 rv => ⟨v, .ty n, .type (tyD x), .type n, b, rfl, .ty n, rp_ty n1.s rv hd, kit_ty hb, q _ H1 I1 n1 (.bl b)⟩
end
end Tw

/-! Tw3: zip of two and of three things, each a list or a tuple, in any mix. -/
namespace Tw
open PySem PySem.Spec PyProof.Rows L2

/-- a list (true) or a tuple (false) that is read -/
def Sr (K : PySem.W.Frag) (k : Bool) (H : Hp) (a : Addr) (xs : List V) : Prop := if k = true then SqL K H a xs else SqT K H a xs
def kHolds (k : Bool) (a : Addr) (items : Array Value) (h : Heap) : Prop := if k = true then h.IsList a items else h.IsTuple a items
def kIter (k : Bool) (it a : Addr) (i : Nat) (h : Heap) : Prop := if k = true then h.IsListIter it a i else h.IsTupleIter it a i
def kObj (k : Bool) (a : Addr) : Obj := { cls := .type (if k = true then "list_iterator" else "tuple_iterator"), data := .fields #[.ref a, .int 0 0] }
theorem k_draws {prog : Program} {w : World} {A : Around} (hh : A.handled = none) (k : Bool) (it a : Addr) (hne : a ≠ it) (items : Array Value) :
    Draws prog w A it [it, a] items.size (fun i v => items[i]? = some v) (fun i h => kIter k it a i h ∧ kHolds k a items h) := by
  cases k with
  | true => exact Draws.list hh it a hne items
  | false => exact Draws.tuple hh it a hne items
theorem k_begins (k : Bool) (a : Addr) (items : Array Value) : Begins (.ref a) (kObj k a) (kHolds k a items) := by
  cases k with
  | true => exact begins_list a items
  | false => exact begins_tuple a items
theorem k_read {X : Cx} {pins : List (Addr × Obj)} {σ : L2.St} {H : Hp} {s : Shared} {k : Bool} {a : Addr} {xs : List V} (I : Inv X pins σ H s) (h : Sr X.K k H a xs) :
    ∃ its : List Value, Vals xs its ∧ kHolds k a its.toArray s.heap ∧ a < s.heap.objs.size := by
  cases k with
  | true =>
    obtain ⟨its, r, p, _⟩ := I.list (show SqL X.K H a xs from h)
    exact ⟨its, r, p.isList, p.lt⟩
  | false =>
    obtain ⟨its, r, p, _⟩ := I.tuple (show SqT X.K H a xs from h)
    obtain ⟨o, ho, _⟩ := id p
    exact ⟨its, r, p, Heap.lt_size ho⟩
theorem k_inj {X : Cx} {pins : List (Addr × Obj)} {σ : L2.St} {H : Hp} {s : Shared} {k : Bool} {a : Addr} {xs ys : List V} (I : Inv X pins σ H s) (h : Sr X.K k H a xs) (h' : Sr X.K k H a ys) : xs = ys := by
  cases k with
  | true => exact I.list_inj (show SqL X.K H a xs from h) h'
  | false => exact I.tuple_inj (show SqT X.K H a xs from h) h'
theorem k_at {k : Bool} {it a : Addr} {i : Nat} {h h' : Heap} (x : kIter k it a i h) (e : ∀ o, h.get? it = some o → h'.get? it = some o) : kIter k it a i h' := by
  cases k with
  | true =>
    obtain ⟨o, h1, h2⟩ := (show h.IsListIter it a i from x)
    exact ⟨o, e o h1, h2⟩
  | false =>
    obtain ⟨o, h1, h2⟩ := (show h.IsTupleIter it a i from x)
    exact ⟨o, e o h1, h2⟩
theorem k_get {k : Bool} {it a : Addr} {i : Nat} {h : Heap} (x : kIter k it a i h) : ∃ o, h.get? it = some o ∧ ∀ v, o.data ≠ .cell v := by
  cases k with
  | true =>
    obtain ⟨o, h1, _, h2⟩ := (show h.IsListIter it a i from x)
    exact ⟨o, h1, fun v z => by rw [h2] at z; cases z⟩
  | false =>
    obtain ⟨o, h1, _, h2⟩ := (show h.IsTupleIter it a i from x)
    exact ⟨o, h1, fun v z => by rw [h2] at z; cases z⟩
theorem k_new {k : Bool} {it a : Addr} {h : Heap} (e : h.get? it = some (kObj k a)) : kIter k it a 0 h := by
  cases k with
  | true => exact ⟨_, e, rfl, rfl⟩
  | false => exact ⟨_, e, rfl, rfl⟩

/-! ### two -/
def ItZ2 (K : PySem.W.Frag) (k1 k2 : Bool) (a b : Addr) : It :=
  ⟨fun i H => ∃ (xs ys : List V) (x y : V), Sr K k1 H a xs ∧ Sr K k2 H b ys ∧ xs[i]? = some x ∧ ys[i]? = some y,
    fun i H v H' => ∃ T x y, v = .ref T ∧ H T = none ∧ H' = upd H T (.tup [x, y]) ∧ (∀ xs, Sr K k1 H a xs → xs[i]? = some x) ∧ (∀ ys, Sr K k2 H b ys → ys[i]? = some y),
    fun i H => ∃ xs ys : List V, Sr K k1 H a xs ∧ Sr K k2 H b ys ∧ i ≤ xs.length ∧ i ≤ ys.length ∧ (i = xs.length ∨ i = ys.length)⟩
theorem turn_z2 {P : Program} {w : World} {K : PySem.W.Frag} {elts : List Expr} {kk : Nat} {tpos : Pos} {k1 k2 : Bool} {a b z TI TO i1 i2 : Addr} (D : ZipSep2 z TI TO i1 i2 [i1, a] [i2, b]) (n1 : a ≠ i1) (n2 : b ≠ i2) :
    Turn P w K (.Tuple elts kk tpos) (ItZ2 K k1 k2 a b) [z, TI, TO, i1, i2] z (fun i h => IsZip h z TI TO .none ∧ IsTupOf2 h TI (.ref i1) (.ref i2) ∧ (∃ x y, IsTupOf2 h TO x y) ∧ kIter k1 i1 a i h ∧ kIter k2 i2 b i h) where
  mem := by simp
  obj := fun i h st c hc => by
    obtain ⟨hz, hTI, ⟨x, y, hTO⟩, h1, h2⟩ := st
    have e' : c = z ∨ c = TI ∨ c = TO ∨ c = i1 ∨ c = i2 := by simpa using hc
    rcases e' with q | q | q | q | q
    · rw [q]; exact ⟨_, hz, fun v q => nomatch q⟩
    · rw [q]; exact ⟨_, hTI, fun v q => nomatch q⟩
    · rw [q]; exact ⟨_, hTO, fun v q => nomatch q⟩
    · rw [q]; exact k_get h1
    · rw [q]; exact k_get h2
  keep := fun i h h' st k => by
    obtain ⟨hz, hTI, ⟨x, y, hTO⟩, h1, h2⟩ := st
    exact ⟨k z (by simp) _ hz, k TI (by simp) _ hTI, ⟨x, y, k TO (by simp) _ hTO⟩, k_at h1 fun o q => k i1 (by simp) o q, k_at h2 fun o q => k i2 (by simp) o q⟩
  item := by
    intro X hP hw hK hc i pins s σ H E I hf st hg
    subst hP hw hK
    obtain ⟨hz, hTI, ⟨x0, y0, hTO⟩, h1, h2⟩ := st
    obtain ⟨xs, ys, x, y, q1, q2, e1, e2⟩ := hg
    obtain ⟨its1, rv1, p1, _⟩ := k_read I q1
    obtain ⟨u1, hu1, ru1⟩ := rv1.get e1
    obtain ⟨its2, rv2, p2, _⟩ := k_read I q2
    obtain ⟨u2, hu2, ru2⟩ := rv2.get e2
    have hh : X.A.in1.handled = none := I.ok.hd hc
    have hzl : z < s.heap.objs.size := Heap.lt_size hz
    have lt1 : i < its1.toArray.size := by
      rw [List.size_toArray]
      exact (List.getElem?_eq_some_iff.mp hu1).1
    have lt2 : i < its2.toArray.size := by
      rw [List.size_toArray]
      exact (List.getElem?_eq_some_iff.mp hu2).1
    refine wpAny_pyNext_zipD2_item D (k_draws (prog := X.prog) (w := X.w) hh k1 i1 a n1 its1.toArray) (k_draws (prog := X.prog) (w := X.w) hh k2 i2 b n2 its2.toArray) hz hTI hTO ⟨h1, p1⟩ ⟨h2, p2⟩ lt1 lt2 fun w1 w2 h' tk y1 y2 z' TO' d1 d2 hT hsz hk => ?_
    have ew1 : w1 = u1 := by
      have q : its1.toArray[i]? = some u1 := by simpa using hu1
      have y1' : its1.toArray[i]? = some w1 := y1
      rw [q] at y1'
      exact (Option.some.inj y1').symm
    subst ew1
    have ew2 : w2 = u2 := by
      have q : its2.toArray[i]? = some u2 := by simpa using hu2
      have y2' : its2.toArray[i]? = some w2 := y2
      rw [q] at y2'
      exact (Option.some.inj y2').symm
    subst ew2
    refine ⟨_, rfl, wpAny_letOwnedTupleGo_zip (s := { s with heap := h', toks := tk }) z' fun h'' z'' sb => ?_⟩
    have hT2 : h''.get? s.heap.objs.size = some { cls := .type "tuple", data := .seq #[w1, w2] } := (sb.2 _ (Nat.ne_of_gt hzl)).trans hT
    have new : ObjOk X.prog X.w (upd H s.heap.objs.size (.tup [x, y])) h'' s.heap.objs.size (.tup [x, y]) := ⟨by show 2 ≤ sizeLine; decide, [w1, w2], .cons ru1 (.cons ru2 (.nil)), ⟨_, hT2, rfl, _, rfl⟩⟩
    have I1 : Inv X pins σ (upd H s.heap.objs.size (.tup [x, y])) { s with heap := h'', toks := tk } :=
      I.turnedNew (ch := [z, TI, TO, i1, i2]) (fun c o hb q => (sb.2 c (fun q' => hb (by simp [q']))).trans (hk c o (fun q' => hb (by simp [q'])) (fun q' => hb (by simp [q'])) (fun q' => hb (by simp [q'])) (fun q' => hb (by simp [q'])) q)) hf (Nat.le_refl _) new
    refine ⟨.ref s.heap.objs.size, _, I1, rfl, ⟨_, x, y, rfl, I.hok.fresh (Nat.le_refl _), rfl, fun l hl => by rw [k_inj I hl q1]; exact e1, fun l hl => by rw [k_inj I hl q2]; exact e2⟩, ⟨z'', (sb.2 _ D.TIz).trans (hk _ _ D.TIz D.TITO D.TIi1 D.TIi2 hTI), ⟨w1, w2, (sb.2 _ D.TOz).trans TO'⟩, k_at d1.1 fun o q => (sb.2 _ (fun e => D.zf1 (by rw [← e]; exact List.mem_cons_self))).trans q, k_at d2.1 fun o q => (sb.2 _ (fun e => D.zf2 (by rw [← e]; exact List.mem_cons_self))).trans q⟩, fun c hcm => ?_⟩
    have hlt : c < s.heap.objs.size := by
      have e' : c = z ∨ c = TI ∨ c = TO ∨ c = i1 ∨ c = i2 := by simpa using hcm
      rcases e' with q | q | q | q | q
      · rw [q]; exact hzl
      · rw [q]; exact Heap.lt_size hTI
      · rw [q]; exact Heap.lt_size hTO
      · rw [q]; obtain ⟨_, e1, _⟩ := k_get h1; exact Heap.lt_size e1
      · rw [q]; obtain ⟨_, e1, _⟩ := k_get h2; exact Heap.lt_size e1
    rw [upd_ne (Nat.ne_of_lt hlt)]
    exact (hf c hcm).1
  done := by
    intro X hP hw hK hc i pins s σ H E I hf st hg
    subst hP hw hK
    obtain ⟨hz, hTI, ⟨x0, y0, hTO⟩, h1, h2⟩ := st
    obtain ⟨xs, ys, q1, q2, l1, l2, hend⟩ := hg
    obtain ⟨its1, rv1, p1, _⟩ := k_read I q1
    have z1 : its1.toArray.size = xs.length := by rw [List.size_toArray]; exact rv1.length.symm
    obtain ⟨its2, rv2, p2, _⟩ := k_read I q2
    have z2 : its2.toArray.size = ys.length := by rw [List.size_toArray]; exact rv2.length.symm
    have hh : X.A.in1.handled = none := I.ok.hd hc
    refine wpAny_pyNext_zipD2_end D (k_draws (prog := X.prog) (w := X.w) hh k1 i1 a n1 its1.toArray) (k_draws (prog := X.prog) (w := X.w) hh k2 i2 b n2 its2.toArray) hz hTI hTO ⟨h1, p1⟩ ⟨h2, p2⟩ (by rw [z1]; exact l1) (by rw [z2]; exact l2) (by rw [z1, z2]; exact hend) fun h' tk hk => ⟨rfl, I.turnedL (ch := [z, TI, TO, i1, i2]) (fun c o hb q => hk c o (fun q' => hb (by simp [q'])) (fun q' => hb (by simp [q'])) (fun q' => hb (by simp [q'])) (fun q' => hb (by simp [q'])) q) hf⟩
  self := fun A i s Q E st h => wpAny_pyIter_zip st.1 h
def iZip2 (K : PySem.W.Frag) (ta : TA) : TI := fun σ H R => ta σ H fun vs H1 => ∃ (k1 k2 : Bool) (a b : Addr) (xs ys : List V), vs = [.ref a, .ref b] ∧ Sr K k1 H1 a xs ∧ Sr K k2 H1 b ys ∧ R (ItZ2 K k1 k2 a b) H1
theorem pi_zip2 {X : Cx} {e e2 : Expr} {ta : TA} {p pos tpos : Pos} {elts : List Expr} {kk : Nat} (hg : Gl X "zip") (hm : X.mg "zip" = none) (ha : PA X [e, e2] ta)
    (hs : starEach [e, e2] X.env = (false, eval e X.env) :: starEach [e2] X.env := by rfl) (hpl : (backTo pos (starEach [e2] X.env)).any (·.1) = false := by rfl) :
    PI X (.Tuple elts kk tpos) (.Call (.Name "zip" p) [e, e2] [] pos) (iZip2 X.K ta) := by
  refine ⟨fun pins s σ H R I h => ?_⟩
  refine Call_ (ld_blt I hg hm PyProof.Rows.boot_zip (PyProof.Rows.callWith_type1 (thn (ha.run pos pins s σ H _ I h) fun us s1 ⟨vs, H1, I1, r1, q1⟩ => ?_) hs hpl))
  obtain ⟨k1, k2, a, b, xs, ys, ex, q1, q2, q⟩ := q1
  subst ex
  have uu : us = [Value.ref a, Value.ref b] := by
    cases r1 with
    | cons r rr =>
      cases rr with
      | cons r2 rr =>
        cases rr
        cases r
        cases r2
        rfl
  subst uu
  obtain ⟨its1, rv1, p1, lt1⟩ := k_read I1 q1
  obtain ⟨its2, rv2, p2, lt2⟩ := k_read I1 q2
  refine zip_begins2 (k_begins k1 a its1.toArray) (k_begins k2 b its2.toArray) p1 p2 fun h' hz hTI hTO g1 g2 hsz hk => wpAny_pyIter_zip hz ?_
  have I2 : Inv X pins σ H1 { s1 with heap := h' } := I1.kept (t' := s1.toks) hk
  have fresh : ∀ c, c ∈ [s1.heap.objs.size + 4, s1.heap.objs.size + 2, s1.heap.objs.size + 3, s1.heap.objs.size, s1.heap.objs.size + 1] → FpOk X pins H1 c := fun c hcm => by
    have e' : c = s1.heap.objs.size + 4 ∨ c = s1.heap.objs.size + 2 ∨ c = s1.heap.objs.size + 3 ∨ c = s1.heap.objs.size ∨ c = s1.heap.objs.size + 1 := by simpa using hcm
    have hle : s1.heap.objs.size ≤ c := by
      rcases e' with z | z | z | z | z
      · rw [z]; exact Nat.le_add_right _ _
      · rw [z]; exact Nat.le_add_right _ _
      · rw [z]; exact Nat.le_add_right _ _
      · rw [z]; exact Nat.le_refl _
      · rw [z]; exact Nat.le_add_right _ _
    exact I1.fpOk hle (I1.hok.fresh hle)
  exact ⟨s1.heap.objs.size + 4, [s1.heap.objs.size + 4, s1.heap.objs.size + 2, s1.heap.objs.size + 3, s1.heap.objs.size, s1.heap.objs.size + 1], _, _, H1, rfl, I2, turn_z2 (zip_sep2 (fun b hb => by rw [List.mem_singleton.mp hb]; exact lt1) (fun b hb => by rw [List.mem_singleton.mp hb]; exact lt2)) (Nat.ne_of_lt (Nat.lt_of_lt_of_le lt1 (Nat.le_refl _))) (Nat.ne_of_lt (Nat.lt_of_lt_of_le lt2 (Nat.le_add_right _ _))), ⟨hz, hTI, ⟨_, _, hTO⟩, k_new g1, k_new g2⟩, fresh, q⟩
/-! ### three -/
def ItZ3 (K : PySem.W.Frag) (k1 k2 k3 : Bool) (a b c : Addr) : It :=
  ⟨fun i H => ∃ (xs ys zs : List V) (x y u : V), Sr K k1 H a xs ∧ Sr K k2 H b ys ∧ Sr K k3 H c zs ∧ xs[i]? = some x ∧ ys[i]? = some y ∧ zs[i]? = some u,
    fun i H v H' => ∃ T x y u, v = .ref T ∧ H T = none ∧ H' = upd H T (.tup [x, y, u]) ∧ (∀ xs, Sr K k1 H a xs → xs[i]? = some x) ∧ (∀ ys, Sr K k2 H b ys → ys[i]? = some y) ∧ (∀ zs, Sr K k3 H c zs → zs[i]? = some u),
    fun i H => ∃ xs ys zs : List V, Sr K k1 H a xs ∧ Sr K k2 H b ys ∧ Sr K k3 H c zs ∧ i ≤ xs.length ∧ i ≤ ys.length ∧ i ≤ zs.length ∧ (i = xs.length ∨ i = ys.length ∨ i = zs.length)⟩
theorem turn_z3 {P : Program} {w : World} {K : PySem.W.Frag} {elts : List Expr} {kk : Nat} {tpos : Pos} {k1 k2 k3 : Bool} {a b c z TI TO i1 i2 i3 : Addr} (D : ZipSep3 z TI TO i1 i2 i3 [i1, a] [i2, b] [i3, c]) (n1 : a ≠ i1) (n2 : b ≠ i2) (n3 : c ≠ i3) :
    Turn P w K (.Tuple elts kk tpos) (ItZ3 K k1 k2 k3 a b c) [z, TI, TO, i1, i2, i3] z (fun i h => IsZip h z TI TO .none ∧ IsTupOf3 h TI (.ref i1) (.ref i2) (.ref i3) ∧ (∃ x y u, IsTupOf3 h TO x y u) ∧ kIter k1 i1 a i h ∧ kIter k2 i2 b i h ∧ kIter k3 i3 c i h) where
  mem := by simp
  obj := fun i h st c hc => by
    obtain ⟨hz, hTI, ⟨x, y, u, hTO⟩, h1, h2, h3⟩ := st
    have e' : c = z ∨ c = TI ∨ c = TO ∨ c = i1 ∨ c = i2 ∨ c = i3 := by simpa using hc
    rcases e' with q | q | q | q | q | q
    · rw [q]; exact ⟨_, hz, fun v q => nomatch q⟩
    · rw [q]; exact ⟨_, hTI, fun v q => nomatch q⟩
    · rw [q]; exact ⟨_, hTO, fun v q => nomatch q⟩
    · rw [q]; exact k_get h1
    · rw [q]; exact k_get h2
    · rw [q]; exact k_get h3
  keep := fun i h h' st k => by
    obtain ⟨hz, hTI, ⟨x, y, u, hTO⟩, h1, h2, h3⟩ := st
    exact ⟨k z (by simp) _ hz, k TI (by simp) _ hTI, ⟨x, y, u, k TO (by simp) _ hTO⟩, k_at h1 fun o q => k i1 (by simp) o q, k_at h2 fun o q => k i2 (by simp) o q, k_at h3 fun o q => k i3 (by simp) o q⟩
  item := by
    intro X hP hw hK hc i pins s σ H E I hf st hg
    subst hP hw hK
    obtain ⟨hz, hTI, ⟨x0, y0, u0, hTO⟩, h1, h2, h3⟩ := st
    obtain ⟨xs, ys, zs, x, y, u, q1, q2, q3, e1, e2, e3⟩ := hg
    obtain ⟨its1, rv1, p1, _⟩ := k_read I q1
    obtain ⟨u1, hu1, ru1⟩ := rv1.get e1
    obtain ⟨its2, rv2, p2, _⟩ := k_read I q2
    obtain ⟨u2, hu2, ru2⟩ := rv2.get e2
    obtain ⟨its3, rv3, p3, _⟩ := k_read I q3
    obtain ⟨u3, hu3, ru3⟩ := rv3.get e3
    have hh : X.A.in1.handled = none := I.ok.hd hc
    have hzl : z < s.heap.objs.size := Heap.lt_size hz
    have lt1 : i < its1.toArray.size := by
      rw [List.size_toArray]
      exact (List.getElem?_eq_some_iff.mp hu1).1
    have lt2 : i < its2.toArray.size := by
      rw [List.size_toArray]
      exact (List.getElem?_eq_some_iff.mp hu2).1
    have lt3 : i < its3.toArray.size := by
      rw [List.size_toArray]
      exact (List.getElem?_eq_some_iff.mp hu3).1
    refine wpAny_pyNext_zipD3_item D (k_draws (prog := X.prog) (w := X.w) hh k1 i1 a n1 its1.toArray) (k_draws (prog := X.prog) (w := X.w) hh k2 i2 b n2 its2.toArray) (k_draws (prog := X.prog) (w := X.w) hh k3 i3 c n3 its3.toArray) hz hTI hTO ⟨h1, p1⟩ ⟨h2, p2⟩ ⟨h3, p3⟩ lt1 lt2 lt3 fun w1 w2 w3 h' tk y1 y2 y3 z' TO' d1 d2 d3 hT hsz hk => ?_
    have ew1 : w1 = u1 := by
      have q : its1.toArray[i]? = some u1 := by simpa using hu1
      have y1' : its1.toArray[i]? = some w1 := y1
      rw [q] at y1'
      exact (Option.some.inj y1').symm
    subst ew1
    have ew2 : w2 = u2 := by
      have q : its2.toArray[i]? = some u2 := by simpa using hu2
      have y2' : its2.toArray[i]? = some w2 := y2
      rw [q] at y2'
      exact (Option.some.inj y2').symm
    subst ew2
    have ew3 : w3 = u3 := by
      have q : its3.toArray[i]? = some u3 := by simpa using hu3
      have y3' : its3.toArray[i]? = some w3 := y3
      rw [q] at y3'
      exact (Option.some.inj y3').symm
    subst ew3
    refine ⟨_, rfl, wpAny_letOwnedTupleGo_zip (s := { s with heap := h', toks := tk }) z' fun h'' z'' sb => ?_⟩
    have hT2 : h''.get? s.heap.objs.size = some { cls := .type "tuple", data := .seq #[w1, w2, w3] } := (sb.2 _ (Nat.ne_of_gt hzl)).trans hT
    have new : ObjOk X.prog X.w (upd H s.heap.objs.size (.tup [x, y, u])) h'' s.heap.objs.size (.tup [x, y, u]) := ⟨by show 3 ≤ sizeLine; decide, [w1, w2, w3], .cons ru1 (.cons ru2 (.cons ru3 (.nil))), ⟨_, hT2, rfl, _, rfl⟩⟩
    have I1 : Inv X pins σ (upd H s.heap.objs.size (.tup [x, y, u])) { s with heap := h'', toks := tk } :=
      I.turnedNew (ch := [z, TI, TO, i1, i2, i3]) (fun c o hb q => (sb.2 c (fun q' => hb (by simp [q']))).trans (hk c o (fun q' => hb (by simp [q'])) (fun q' => hb (by simp [q'])) (fun q' => hb (by simp [q'])) (fun q' => hb (by simp [q'])) (fun q' => hb (by simp [q'])) q)) hf (Nat.le_refl _) new
    refine ⟨.ref s.heap.objs.size, _, I1, rfl, ⟨_, x, y, u, rfl, I.hok.fresh (Nat.le_refl _), rfl, fun l hl => by rw [k_inj I hl q1]; exact e1, fun l hl => by rw [k_inj I hl q2]; exact e2, fun l hl => by rw [k_inj I hl q3]; exact e3⟩, ⟨z'', (sb.2 _ D.TIz).trans (hk _ _ D.TIz D.TITO D.TIi1 D.TIi2 D.TIi3 hTI), ⟨w1, w2, w3, (sb.2 _ D.TOz).trans TO'⟩, k_at d1.1 fun o q => (sb.2 _ (fun e => D.zf1 (by rw [← e]; exact List.mem_cons_self))).trans q, k_at d2.1 fun o q => (sb.2 _ (fun e => D.zf2 (by rw [← e]; exact List.mem_cons_self))).trans q, k_at d3.1 fun o q => (sb.2 _ (fun e => D.zf3 (by rw [← e]; exact List.mem_cons_self))).trans q⟩, fun c hcm => ?_⟩
    have hlt : c < s.heap.objs.size := by
      have e' : c = z ∨ c = TI ∨ c = TO ∨ c = i1 ∨ c = i2 ∨ c = i3 := by simpa using hcm
      rcases e' with q | q | q | q | q | q
      · rw [q]; exact hzl
      · rw [q]; exact Heap.lt_size hTI
      · rw [q]; exact Heap.lt_size hTO
      · rw [q]; obtain ⟨_, e1, _⟩ := k_get h1; exact Heap.lt_size e1
      · rw [q]; obtain ⟨_, e1, _⟩ := k_get h2; exact Heap.lt_size e1
      · rw [q]; obtain ⟨_, e1, _⟩ := k_get h3; exact Heap.lt_size e1
    rw [upd_ne (Nat.ne_of_lt hlt)]
    exact (hf c hcm).1
  done := by
    intro X hP hw hK hc i pins s σ H E I hf st hg
    subst hP hw hK
    obtain ⟨hz, hTI, ⟨x0, y0, u0, hTO⟩, h1, h2, h3⟩ := st
    obtain ⟨xs, ys, zs, q1, q2, q3, l1, l2, l3, hend⟩ := hg
    obtain ⟨its1, rv1, p1, _⟩ := k_read I q1
    have z1 : its1.toArray.size = xs.length := by rw [List.size_toArray]; exact rv1.length.symm
    obtain ⟨its2, rv2, p2, _⟩ := k_read I q2
    have z2 : its2.toArray.size = ys.length := by rw [List.size_toArray]; exact rv2.length.symm
    obtain ⟨its3, rv3, p3, _⟩ := k_read I q3
    have z3 : its3.toArray.size = zs.length := by rw [List.size_toArray]; exact rv3.length.symm
    have hh : X.A.in1.handled = none := I.ok.hd hc
    refine wpAny_pyNext_zipD3_end D (k_draws (prog := X.prog) (w := X.w) hh k1 i1 a n1 its1.toArray) (k_draws (prog := X.prog) (w := X.w) hh k2 i2 b n2 its2.toArray) (k_draws (prog := X.prog) (w := X.w) hh k3 i3 c n3 its3.toArray) hz hTI hTO ⟨h1, p1⟩ ⟨h2, p2⟩ ⟨h3, p3⟩ (by rw [z1]; exact l1) (by rw [z2]; exact l2) (by rw [z3]; exact l3) (by rw [z1, z2, z3]; exact hend) fun h' tk hk => ⟨rfl, I.turnedL (ch := [z, TI, TO, i1, i2, i3]) (fun c o hb q => hk c o (fun q' => hb (by simp [q'])) (fun q' => hb (by simp [q'])) (fun q' => hb (by simp [q'])) (fun q' => hb (by simp [q'])) (fun q' => hb (by simp [q'])) q) hf⟩
  self := fun A i s Q E st h => wpAny_pyIter_zip st.1 h
def iZip3 (K : PySem.W.Frag) (ta : TA) : TI := fun σ H R => ta σ H fun vs H1 => ∃ (k1 k2 k3 : Bool) (a b c : Addr) (xs ys zs : List V), vs = [.ref a, .ref b, .ref c] ∧ Sr K k1 H1 a xs ∧ Sr K k2 H1 b ys ∧ Sr K k3 H1 c zs ∧ R (ItZ3 K k1 k2 k3 a b c) H1
theorem pi_zip3 {X : Cx} {e e2 e3 : Expr} {ta : TA} {p pos tpos : Pos} {elts : List Expr} {kk : Nat} (hg : Gl X "zip") (hm : X.mg "zip" = none) (ha : PA X [e, e2, e3] ta)
    (hs : starEach [e, e2, e3] X.env = (false, eval e X.env) :: starEach [e2, e3] X.env := by rfl) (hpl : (backTo pos (starEach [e2, e3] X.env)).any (·.1) = false := by rfl) :
    PI X (.Tuple elts kk tpos) (.Call (.Name "zip" p) [e, e2, e3] [] pos) (iZip3 X.K ta) := by
  refine ⟨fun pins s σ H R I h => ?_⟩
  refine Call_ (ld_blt I hg hm PyProof.Rows.boot_zip (PyProof.Rows.callWith_type1 (thn (ha.run pos pins s σ H _ I h) fun us s1 ⟨vs, H1, I1, r1, q1⟩ => ?_) hs hpl))
  obtain ⟨k1, k2, k3, a, b, c, xs, ys, zs, ex, q1, q2, q3, q⟩ := q1
  subst ex
  have uu : us = [Value.ref a, Value.ref b, Value.ref c] := by
    cases r1 with
    | cons r rr =>
      cases rr with
      | cons r2 rr =>
        cases rr with
        | cons r3 rr =>
          cases rr
          cases r
          cases r2
          cases r3
          rfl
  subst uu
  obtain ⟨its1, rv1, p1, lt1⟩ := k_read I1 q1
  obtain ⟨its2, rv2, p2, lt2⟩ := k_read I1 q2
  obtain ⟨its3, rv3, p3, lt3⟩ := k_read I1 q3
  refine zip_begins3 (k_begins k1 a its1.toArray) (k_begins k2 b its2.toArray) (k_begins k3 c its3.toArray) p1 p2 p3 fun h' hz hTI hTO g1 g2 g3 hsz hk => wpAny_pyIter_zip hz ?_
  have I2 : Inv X pins σ H1 { s1 with heap := h' } := I1.kept (t' := s1.toks) hk
  have fresh : ∀ c, c ∈ [s1.heap.objs.size + 5, s1.heap.objs.size + 3, s1.heap.objs.size + 4, s1.heap.objs.size, s1.heap.objs.size + 1, s1.heap.objs.size + 2] → FpOk X pins H1 c := fun c hcm => by
    have e' : c = s1.heap.objs.size + 5 ∨ c = s1.heap.objs.size + 3 ∨ c = s1.heap.objs.size + 4 ∨ c = s1.heap.objs.size ∨ c = s1.heap.objs.size + 1 ∨ c = s1.heap.objs.size + 2 := by simpa using hcm
    have hle : s1.heap.objs.size ≤ c := by
      rcases e' with z | z | z | z | z | z
      · rw [z]; exact Nat.le_add_right _ _
      · rw [z]; exact Nat.le_add_right _ _
      · rw [z]; exact Nat.le_add_right _ _
      · rw [z]; exact Nat.le_refl _
      · rw [z]; exact Nat.le_add_right _ _
      · rw [z]; exact Nat.le_add_right _ _
    exact I1.fpOk hle (I1.hok.fresh hle)
  exact ⟨s1.heap.objs.size + 5, [s1.heap.objs.size + 5, s1.heap.objs.size + 3, s1.heap.objs.size + 4, s1.heap.objs.size, s1.heap.objs.size + 1, s1.heap.objs.size + 2], _, _, H1, rfl, I2, turn_z3 (zip_sep3 (fun b hb => by rw [List.mem_singleton.mp hb]; exact lt1) (fun b hb => by rw [List.mem_singleton.mp hb]; exact lt2) (fun b hb => by rw [List.mem_singleton.mp hb]; exact lt3)) (Nat.ne_of_lt (Nat.lt_of_lt_of_le lt1 (Nat.le_refl _))) (Nat.ne_of_lt (Nat.lt_of_lt_of_le lt2 (Nat.le_add_right _ _))) (Nat.ne_of_lt (Nat.lt_of_lt_of_le lt3 (Nat.le_add_right _ _))), ⟨hz, hTI, ⟨_, _, _, hTO⟩, k_new g1, k_new g2, k_new g3⟩, fresh, q⟩

def seqD (k : Bool) (xs : List PyData) : PyData := if k = true then .list xs else .tuple xs
theorem seq_rp {K : PySem.W.Frag} {I : Hp} {k : Bool} {v : V} {xs : List PyData} (r : Rp K I v (seqD k xs)) : ∃ a vs, v = .ref a ∧ RpAll K I vs xs ∧ ∀ H, Same I H → Sr K k H a vs := by
  cases k with
  | true =>
    cases (show Rp K I v (.list xs) from r) with
    | lst h a => exact ⟨_, _, rfl, a, fun H s => SqL.of (s _ _ h)⟩
  | false =>
    cases (show Rp K I v (.tuple xs) from r) with
    | tup h a => exact ⟨_, _, rfl, a, fun H s => SqT.of (s _ _ h)⟩
def pairs (xs ys : List PyData) : List PyData := (List.zip xs ys).map fun p => .tuple [p.1, p.2]
theorem pairs_len {xs ys : List PyData} : (pairs xs ys).length = min xs.length ys.length := by unfold pairs; rw [List.length_map, List.length_zip]
theorem pairs_get {xs ys : List PyData} {i : Nat} {d : PyData} (h : (pairs xs ys)[i]? = some d) : ∃ x y, xs[i]? = some x ∧ ys[i]? = some y ∧ d = .tuple [x, y] := by
  unfold pairs at h
  rw [List.getElem?_map] at h
  cases e : (List.zip xs ys)[i]? with
  | none => rw [e] at h; cases h
  | some p =>
    rw [e] at h
    obtain ⟨h1, h2⟩ := List.getElem?_zip_eq_some.mp e
    exact ⟨p.1, p.2, h1, h2, (Option.some.inj h).symm⟩
def triples (xs ys zs : List PyData) : List PyData := (List.zip xs (List.zip ys zs)).map fun p => .tuple [p.1, p.2.1, p.2.2]
theorem triples_len {xs ys zs : List PyData} : (triples xs ys zs).length = min xs.length (min ys.length zs.length) := by unfold triples; rw [List.length_map, List.length_zip, List.length_zip]
theorem triples_get {xs ys zs : List PyData} {i : Nat} {d : PyData} (h : (triples xs ys zs)[i]? = some d) : ∃ x y z, xs[i]? = some x ∧ ys[i]? = some y ∧ zs[i]? = some z ∧ d = .tuple [x, y, z] := by
  unfold triples at h
  rw [List.getElem?_map] at h
  cases e : (List.zip xs (List.zip ys zs))[i]? with
  | none => rw [e] at h; cases h
  | some p =>
    rw [e] at h
    obtain ⟨h1, h2⟩ := List.getElem?_zip_eq_some.mp e
    obtain ⟨h3, h4⟩ := List.getElem?_zip_eq_some.mp h2
    exact ⟨p.1, p.2.1, p.2.2, h1, h3, h4, (Option.some.inj h).symm⟩
section
variable {K : PySem.W.Frag} {δ : List Sl} {xs ys zs : List PyData} {t : TA}
theorem ei_zip2 (k1 k2 : Bool) (h : EvA K t δ [seqD k1 xs, seqD k2 ys]) : EvI K (iZip2 K t) δ (pairs xs ys) := fun G σ H I s g r R q =>
  h G σ H I s g r _ fun vs H1 I1 n1 rv => by
    cases rv with
    | cons r1 rv =>
      cases rv with
      | cons r2 rv =>
        cases rv
        obtain ⟨a, vs1, rfl, a1, s1⟩ := seq_rp r1
        obtain ⟨b, vs2, rfl, a2, s2⟩ := seq_rp r2
        refine ⟨k1, k2, a, b, vs1, vs2, rfl, s1 _ n1.s, s2 _ n1.s, q _ H1 I1 n1 ⟨fun i H2 I2 e1 e2 hi => ?_, fun H2 I2 e1 e2 => ?_, fun i H2 I2 w H3 e1 e2 hi y => ?_⟩⟩
        · rw [pairs_len] at hi
          obtain ⟨u, hu, _⟩ := a1.get (List.getElem?_eq_getElem (show i < xs.length by omega))
          obtain ⟨u2, hu2, _⟩ := a2.get (List.getElem?_eq_getElem (show i < ys.length by omega))
          exact ⟨vs1, vs2, u, u2, s1 _ (e1.trans e2), s2 _ (e1.trans e2), hu, hu2⟩
        · refine ⟨vs1, vs2, s1 _ (e1.trans e2), s2 _ (e1.trans e2), ?_⟩
          rw [pairs_len, a1.length, a2.length]
          omega
        · obtain ⟨T, x, y', rfl, hT, rfl, f1, f2⟩ := y
          refine ⟨upd I2 T (.tup [x, y']), Nx.new e2 hT, fun d hd => ?_⟩
          obtain ⟨dx, dy, g1, g2, rfl⟩ := pairs_get hd
          obtain ⟨u, hu, ru⟩ := a1.get g1
          obtain ⟨u2, hu2, ru2⟩ := a2.get g2
          have q1 := f1 vs1 (s1 _ (e1.trans e2))
          have q2 := f2 vs2 (s2 _ (e1.trans e2))
          rw [hu] at q1
          rw [hu2] at q2
          cases q1
          cases q2
          have e3 : Same I1 (upd I2 T (.tup [x, y'])) := e1.trans (same_new (e2.free hT))
          exact .tup upd_same (.cons (ru.mono e3) (.cons (ru2.mono e3) .nil))
theorem ei_zip3 (k1 k2 k3 : Bool) (h : EvA K t δ [seqD k1 xs, seqD k2 ys, seqD k3 zs]) : EvI K (iZip3 K t) δ (triples xs ys zs) := fun G σ H I s g r R q =>
  h G σ H I s g r _ fun vs H1 I1 n1 rv => by
    cases rv with
    | cons r1 rv =>
      cases rv with
      | cons r2 rv =>
        cases rv with
        | cons r3 rv =>
          cases rv
          obtain ⟨a, vs1, rfl, a1, s1⟩ := seq_rp r1
          obtain ⟨b, vs2, rfl, a2, s2⟩ := seq_rp r2
          obtain ⟨c, vs3, rfl, a3, s3⟩ := seq_rp r3
          refine ⟨k1, k2, k3, a, b, c, vs1, vs2, vs3, rfl, s1 _ n1.s, s2 _ n1.s, s3 _ n1.s, q _ H1 I1 n1 ⟨fun i H2 I2 e1 e2 hi => ?_, fun H2 I2 e1 e2 => ?_, fun i H2 I2 w H3 e1 e2 hi y => ?_⟩⟩
          · rw [triples_len] at hi
            obtain ⟨u, hu, _⟩ := a1.get (List.getElem?_eq_getElem (show i < xs.length by omega))
            obtain ⟨u2, hu2, _⟩ := a2.get (List.getElem?_eq_getElem (show i < ys.length by omega))
            obtain ⟨u3, hu3, _⟩ := a3.get (List.getElem?_eq_getElem (show i < zs.length by omega))
            exact ⟨vs1, vs2, vs3, u, u2, u3, s1 _ (e1.trans e2), s2 _ (e1.trans e2), s3 _ (e1.trans e2), hu, hu2, hu3⟩
          · refine ⟨vs1, vs2, vs3, s1 _ (e1.trans e2), s2 _ (e1.trans e2), s3 _ (e1.trans e2), ?_⟩
            rw [triples_len, a1.length, a2.length, a3.length]
            omega
          · obtain ⟨T, x, y', z', rfl, hT, rfl, f1, f2, f3⟩ := y
            refine ⟨upd I2 T (.tup [x, y', z']), Nx.new e2 hT, fun d hd => ?_⟩
            obtain ⟨dx, dy, dz, g1, g2, g3, rfl⟩ := triples_get hd
            obtain ⟨u, hu, ru⟩ := a1.get g1
            obtain ⟨u2, hu2, ru2⟩ := a2.get g2
            obtain ⟨u3, hu3, ru3⟩ := a3.get g3
            have q1 := f1 vs1 (s1 _ (e1.trans e2))
            have q2 := f2 vs2 (s2 _ (e1.trans e2))
            have q3 := f3 vs3 (s3 _ (e1.trans e2))
            rw [hu] at q1
            rw [hu2] at q2
            rw [hu3] at q3
            cases q1
            cases q2
            cases q3
            have e3 : Same I1 (upd I2 T (.tup [x, y', z'])) := e1.trans (same_new (e2.free hT))
            exact .tup upd_same (.cons (ru.mono e3) (.cons (ru2.mono e3) (.cons (ru3.mono e3) .nil)))
end
end Tw

/-! Tw4: the script as data; rows, moves, nets; what the laws draw. -/
namespace Tw
open PySem PySem.Spec PyProof.Rows L2

/-! ### the script -/
def scrD (ns : List Int) : PyData := .dict [(.none, .list (ns.map .int))]
section
variable {K : PySem.W.Frag} {δ : List Sl} {ta tb te : TE} {ns : List Int} {i : Int}
theorem map_int_inj : ∀ {a b : List Int}, a.map PyData.int = b.map PyData.int → a = b
  | [], [], _ => rfl
  | [], _ :: _, h => by cases h
  | _ :: _, [], h => by cases h
  | x :: xs, y :: ys, h => by
    rw [List.map_cons, List.map_cons] at h
    injection h with h1 h2
    injection h1 with h1
    rw [h1, map_int_inj h2]
theorem rp_scr {I : Hp} {v : V} (r : Rp K I v (scrD ns)) : ∃ a, v = .ref a ∧ SqL K I a (ns.map V.int) := by
  unfold scrD at r
  generalize e : (PyData.dict [(PyData.none, PyData.list (ns.map PyData.int))]) = d at r
  cases r with
  | @scr a ms h =>
    injection e with e
    injection e with e _
    injection e with _ e
    injection e with e
    rw [map_int_inj e]
    exact ⟨a, rfl, h⟩
  | _ => simp at e
theorem rc_lenZ : RAD K (rLenA K) [scrD ns] (.int ns.length) := fun H I vs s r Q q => by
  cases r with
  | cons r1 r2 =>
    cases r2
    obtain ⟨a, rfl, h⟩ := rp_scr r1
    refine ⟨_, _, rfl, .inl ⟨_, s.seq h, rfl⟩, ?_⟩
    rw [List.length_map]
    exact q _ H I (Nx.refl s) (.int _)
theorem rd_ixZ {z : Int} (h : atI ns i = some z) : R2D K (rIx K) (scrD ns) (.int i) (.int z) := fun H I v u s r1 r2 Q q => by
  obtain ⟨a, rfl, hl⟩ := rp_scr r1
  cases r2
  refine .inl ⟨a, _, i, .int z, rfl, rfl, s.seq hl, ?_, q _ H I (Nx.refl s) (.int z)⟩
  unfold atI at h ⊢
  rw [List.length_map]
  cases e : ixN ns.length i with
  | none => rw [e] at h; cases h
  | some j =>
    rw [e] at h
    show (ns.map V.int)[j]? = _
    rw [List.getElem?_map]
    rw [show ns[j]? = some z from h]
    rfl
theorem lay_ints : ∀ ns : List Int, PyData.canLayAll0 (ns.map PyData.int) = true
  | [] => rfl
  | n :: ns => by
    show (PyData.canLay0 (.int n) && PyData.canLayAll0 (ns.map PyData.int)) = true
    rw [lay_ints ns]
    rfl
theorem depth_ints : ∀ ns : List Int, PyData.depthAll (ns.map PyData.int) ≤ 0
  | [] => by decide
  | n :: ns => by
    have h := depth_ints ns
    show max (PyData.depth (.int n)) (PyData.depthAll (ns.map PyData.int)) ≤ 0
    have : PyData.depth (.int n) = 0 := rfl
    omega
theorem rd_eqZ : R2D K (rEqD K) (scrD ns) (.list []) (.bool (PyData.eqv (.list (ns.map .int)) (.list []))) := fun H I v u s r1 r2 Q q => by
  obtain ⟨a, rfl, hl⟩ := rp_scr r1
  cases r2 with
  | lst h2 a2 =>
    cases a2
    refine ⟨.list (ns.map .int), .list [], .lst (s.seq hl) ((ints_rall (K := K) (I := H) ns).dp (lay_ints ns)), .lst (.of (s _ _ h2)) .nil, ?_, by decide, q _ H I (Nx.refl s) (.bl _)⟩
    · have h1 : (PyData.list (ns.map .int)).canLay0 = true := lay_ints ns
      have h2 : (PyData.list (ns.map .int)).depth ≤ 64 := by
        have := depth_ints ns
        show PyData.depthAll (ns.map .int) + 1 ≤ 64
        omega
      show (PyData.canLay0 _ && decide _) = true
      rw [h1, decide_eq_true h2]
      rfl
end

/-! ### what the laws draw -/
def cellF (ns : List Int) (k : Int) : Int := if k < ns.length then ns.getD k.toNat 0 else if ns = [] then 0 else ns.getD (k % ns.length).toNat 0 * 31 + k
def drawnF (ns : List Int) (k : Int) : Int := (cellF ns k + 7919 * k + 1) * 48271 % 2147483647
def mixedF (ns : List Int) (k many : Int) : Int := (drawnF ns k * drawnF ns k + 7 * drawnF ns k + k) % 2147483629 % many
theorem mixed_lo (ns : List Int) (k : Int) {many : Int} (h : 0 < many) : 0 ≤ mixedF ns k many := Int.emod_nonneg _ (by omega)
theorem mixed_hi (ns : List Int) (k : Int) {many : Int} (h : 0 < many) : mixedF ns k many < many := Int.emod_lt_of_pos _ h
theorem drawn_lo (ns : List Int) (k : Int) : 0 ≤ drawnF ns k := Int.emod_nonneg _ (by decide)
theorem drawn_hi (ns : List Int) (k : Int) : drawnF ns k < 2147483647 := Int.emod_lt_of_pos _ (by decide)

/-! ### rows, moves, nets -/
def rowD (r : List Int) : PyData := .tuple (r.map .int)
def moveD (m : List Int × List Int) : PyData := .tuple [rowD m.1, rowD m.2]
def netD (n : Nat) (ms : List (List Int × List Int)) : PyData := .tuple [.int n, .tuple (ms.map moveD)]
/-- a row of n numbers from 0 to w -/
def RowOk (n : Nat) (w : Int) (r : List Int) : Prop := r.length = n ∧ ∀ x ∈ r, 0 ≤ x ∧ x ≤ w
structure NetOk (n : Nat) (w : Int) (ms : List (List Int × List Int)) : Prop where
  pos : 1 ≤ n
  top : n ≤ 6
  many : ms.length ≤ 10
  rows : ∀ m ∈ ms, RowOk n w m.1 ∧ RowOk n w m.2
theorem RowOk.mono {n : Nat} {w w' : Int} {r : List Int} (h : RowOk n w r) (hw : w ≤ w') : RowOk n w' r := ⟨h.1, fun x hx => ⟨(h.2 x hx).1, Int.le_trans (h.2 x hx).2 hw⟩⟩
theorem NetOk.mono {n : Nat} {w w' : Int} {ms : List (List Int × List Int)} (h : NetOk n w ms) (hw : w ≤ w') : NetOk n w' ms :=
  ⟨h.pos, h.top, h.many, fun m hm => ⟨(h.rows m hm).1.mono hw, (h.rows m hm).2.mono hw⟩⟩
/-- the items of a row -/
theorem row_get {r : List Int} {j : Nat} {z : Int} (h : r[j]? = some z) : (r.map PyData.int)[j]? = some (.int z) := by
  rw [List.getElem?_map, h]
  rfl
theorem row_get' {r : List Int} {j : Nat} {d : PyData} (h : (r.map PyData.int)[j]? = some d) : ∃ z, r[j]? = some z ∧ d = .int z := by
  rw [List.getElem?_map] at h
  cases e : r[j]? with
  | none => rw [e] at h; cases h
  | some z =>
    rw [e] at h
    exact ⟨z, rfl, (Option.some.inj h).symm⟩
theorem getD_get {α : Type} {l : List α} {j : Nat} {d : α} (h : j < l.length) : l[j]? = some (l.getD j d) := by
  rw [List.getD_eq_getElem?_getD, List.getElem?_eq_getElem h]
  rfl
theorem at_getD {l : List Int} {i : Int} (h0 : 0 ≤ i) (h1 : i < l.length) : atI l i = some (l.getD i.toNat 0) := by
  have e : i = (i.toNat : Int) := by omega
  rw [e]
  exact at_nat (getD_get (by omega))
theorem at_row {l : List Int} {i : Int} (h0 : 0 ≤ i) (h1 : i < l.length) : atI (l.map PyData.int) i = some (.int (l.getD i.toNat 0)) := by
  have e : i = (i.toNat : Int) := by omega
  rw [e]
  exact at_nat (row_get (getD_get (by omega)))
theorem at_map {α : Type} {l : List α} {f : α → PyData} {i : Int} {a : α} (h : atI l i = some a) : atI (l.map f) i = some (f a) := by
  unfold atI at h ⊢
  rw [List.length_map]
  cases e : ixN l.length i with
  | none => rw [e] at h; cases h
  | some j =>
    rw [e] at h
    show (l.map f)[j]? = _
    rw [List.getElem?_map]
    rw [show l[j]? = some a from h]
    rfl

/-- a row of draws by a table -/
def tabRow (tab : List Int) (f : Int → Int) (cells : List Int) : List Int := cells.map fun c => tab.getD (f c).toNat 0
def cellsF (ns : List Int) (at_ : Int) (size : Nat) : List Int := (List.range size).map fun (k : Nat) => mixedF ns (at_ + k) 25
/-- one token more at a place, so often -/
def pour (size : Int) : Nat → List Int → Int → List Int
  | 0, g, _ => g
  | n + 1, g, left => pour size n (g.set (left % size).toNat (g.getD (left % size).toNat 0 + 1)) (left / size)
def moveF (tab : List Int) (ns : List Int) (at_ : Int) (size : Nat) (even : Bool) : List Int × List Int :=
  let takes := tabRow tab (· % 5) (cellsF ns at_ size)
  (takes, if even then pour size takes.sum.toNat (List.replicate size 0) (mixedF ns (at_ + 4) 65536) else tabRow tab (· / 5) (cellsF ns at_ size))
theorem cells_get {ns : List Int} {at_ : Int} {size : Nat} {c : Int} (h : c ∈ cellsF ns at_ size) : 0 ≤ c ∧ c < 25 := by
  unfold cellsF at h
  obtain ⟨k, _, rfl⟩ := List.mem_map.mp h
  exact ⟨mixed_lo _ _ (by decide), mixed_hi _ _ (by decide)⟩
theorem tab_ok {tab : List Int} {w : Int} (ht : tab.length = 5) (hw : ∀ x ∈ tab, 0 ≤ x ∧ x ≤ w) {f : Int → Int} {ns : List Int} {at_ : Int} {size : Nat} (hf : ∀ c, 0 ≤ c → c < 25 → 0 ≤ f c ∧ f c < 5) : RowOk size w (tabRow tab f (cellsF ns at_ size)) := by
  refine ⟨by unfold tabRow cellsF; rw [List.length_map, List.length_map, List.length_range], fun x hx => ?_⟩
  unfold tabRow at hx
  obtain ⟨c, hc, rfl⟩ := List.mem_map.mp hx
  obtain ⟨h0, h1⟩ := cells_get hc
  obtain ⟨f0, f1⟩ := hf c h0 h1
  refine hw _ ?_
  rw [List.getD_eq_getElem?_getD, List.getElem?_eq_getElem (show (f c).toNat < tab.length by omega)]
  exact List.getElem_mem _
theorem pour_len {size : Int} : ∀ (n : Nat) (g : List Int) (l : Int), (pour size n g l).length = g.length
  | 0, _, _ => rfl
  | n + 1, g, l => by
    unfold pour
    rw [pour_len n, List.length_set]
theorem pour_ok {size : Int} : ∀ (n : Nat) (g : List Int) (l w : Int), (∀ x ∈ g, 0 ≤ x ∧ x ≤ w) → 0 ≤ w → ∀ x ∈ pour size n g l, 0 ≤ x ∧ x ≤ w + n
  | 0, g, l, w, h, hw, x, hx => by
    have := h x hx
    omega
  | n + 1, g, l, w, h, hw, x, hx => by
    have hd : ∀ j : Nat, 0 ≤ g.getD j 0 ∧ g.getD j 0 ≤ w := fun j => by
      by_cases hj : j < g.length
      · rw [List.getD_eq_getElem?_getD, List.getElem?_eq_getElem hj]
        exact h _ (List.getElem_mem _)
      · rw [List.getD_eq_getElem?_getD, List.getElem?_eq_none_iff.mpr (by omega)]
        exact ⟨Int.le_refl _, hw⟩
    have ih := pour_ok n (g.set (l % size).toNat (g.getD (l % size).toNat 0 + 1)) (l / size) (w + 1) (fun y hy => by
      rcases List.mem_or_eq_of_mem_set hy with q | q
      · have := h y q
        omega
      · have := hd (l % size).toNat
        omega) (by omega) x hx
    omega
theorem sum_le {w : Int} : ∀ (r : List Int), (∀ x ∈ r, 0 ≤ x ∧ x ≤ w) → 0 ≤ r.sum ∧ r.sum ≤ w * r.length
  | [], _ => by simp
  | a :: r, h => by
    have ih := sum_le r fun x hx => h x (List.mem_cons_of_mem _ hx)
    have ha := h a List.mem_cons_self
    rw [List.sum_cons, List.length_cons, Int.natCast_succ, Int.mul_add, Int.mul_one]
    omega
/-- a drawn move: rows of that many numbers, at most w (at most 2 * size where it gives as many as it takes) -/
theorem move_ok {tab : List Int} {w W : Int} (ht : tab.length = 5) (hw : ∀ x ∈ tab, 0 ≤ x ∧ x ≤ w) (ns : List Int) (at_ : Int) (size : Nat) (even : Bool) (hW : w ≤ W) (hE : even = true → w * size ≤ W) (h0 : 0 ≤ w) :
    RowOk size W (moveF tab ns at_ size even).1 ∧ RowOk size W (moveF tab ns at_ size even).2 := by
  have h1 : RowOk size w (tabRow tab (· % 5) (cellsF ns at_ size)) := tab_ok ht hw fun c a b => ⟨Int.emod_nonneg _ (by decide), Int.emod_lt_of_pos _ (by decide)⟩
  have h2 : RowOk size w (tabRow tab (· / 5) (cellsF ns at_ size)) := tab_ok ht hw fun c a b => ⟨by omega, by omega⟩
  refine ⟨h1.mono hW, ?_⟩
  cases even with
  | false => exact h2.mono hW
  | true =>
    show RowOk size W (pour size (tabRow tab (· % 5) (cellsF ns at_ size)).sum.toNat (List.replicate size 0) (mixedF ns (at_ + 4) 65536))
    refine ⟨by rw [pour_len, List.length_replicate], fun x hx => ?_⟩
    have hs := sum_le _ h1.2
    rw [h1.1] at hs
    have hE' := hE rfl
    have := pour_ok _ _ _ 0 (fun y hy => by rw [List.eq_of_mem_replicate hy]; exact ⟨Int.le_refl _, Int.le_refl _⟩) (Int.le_refl _) x hx
    omega
def sizeF (ns : List Int) (at_ : Int) : Nat := if mixedF ns (at_ + 2) 6 = 5 then 4 else (1 + mixedF ns at_ 3).toNat
def manyF (ns : List Int) (at_ : Int) : Nat := (mixedF ns (at_ + 1) 5).toNat
def evenF (ns : List Int) (at_ : Int) : Bool := decide (mixedF ns (at_ + 3) 2 = 1)
theorem size_ok (ns : List Int) (at_ : Int) : 1 ≤ sizeF ns at_ ∧ sizeF ns at_ ≤ 4 := by
  have h0 := mixed_lo ns at_ (many := 3) (by decide)
  have h1 := mixed_hi ns at_ (many := 3) (by decide)
  unfold sizeF
  split <;> omega
theorem many_ok (ns : List Int) (at_ : Int) : manyF ns at_ ≤ 4 := by
  have h1 := mixed_hi ns (at_ + 1) (many := 5) (by decide)
  unfold manyF
  omega
def movesF (tab : List Int) (ns : List Int) (at_ : Int) : List (List Int × List Int) := (List.range (manyF ns at_)).map fun (k : Nat) => moveF tab ns (at_ + 4 + 5 * k) (sizeF ns at_) (evenF ns at_)
def tab0 : List Int := [0, 0, 1, 1, 2]
def tab9 : List Int := [0, 1, 3, 5, 9]
/-- the table by which a net's numbers are drawn: wide ones in a twelfth -/
def tabF (ns : List Int) (even : Bool) : List Int := if even = false ∧ mixedF ns 62 6 = 0 then tab9 else tab0
def hoardF (ns : List Int) (at_ : Int) (size : Nat) (most : Int) : List Int := (List.range size).map fun (k : Nat) => mixedF ns (at_ + k) (most + 1)
theorem hoard_ok (ns : List Int) (at_ : Int) (size : Nat) {most : Int} (h : 0 ≤ most) : RowOk size most (hoardF ns at_ size most) := by
  unfold hoardF
  refine ⟨by rw [List.length_map, List.length_range], fun x hx => ?_⟩
  obtain ⟨k, _, rfl⟩ := List.mem_map.mp hx
  have := mixed_lo ns (at_ + k) (many := most + 1) (by omega)
  have := mixed_hi ns (at_ + k) (many := most + 1) (by omega)
  omega
theorem net_ok0 (ns : List Int) (at_ : Int) : NetOk (sizeF ns at_) 9 (movesF tab0 ns at_) := by
  have h := size_ok ns at_
  refine ⟨h.1, by omega, by unfold movesF; rw [List.length_map, List.length_range]; have := many_ok ns at_; omega, fun m hm => ?_⟩
  unfold movesF at hm
  obtain ⟨k, _, rfl⟩ := List.mem_map.mp hm
  exact move_ok (w := 2) rfl (by decide) ns _ _ _ (by decide) (fun _ => by omega) (by decide)
theorem net_ok9 (ns : List Int) (at_ : Int) : NetOk (sizeF ns at_) 9 (movesF (tabF ns (evenF ns at_)) ns at_) := by
  have h := size_ok ns at_
  refine ⟨h.1, by omega, by unfold movesF; rw [List.length_map, List.length_range]; have := many_ok ns at_; omega, fun m hm => ?_⟩
  unfold movesF at hm
  obtain ⟨k, _, rfl⟩ := List.mem_map.mp hm
  unfold tabF
  split
  · rename_i he
    rw [he.1]
    exact move_ok (w := 9) rfl (by decide) ns _ _ _ (by decide) (fun z => by cases z) (by decide)
  · exact move_ok (w := 2) rfl (by decide) ns _ _ _ (by decide) (fun _ => by omega) (by decide)
theorem net_ok2 (ns : List Int) (at_ : Int) (h : evenF ns at_ = false) : NetOk (sizeF ns at_) 2 (movesF tab0 ns at_) := by
  have h' := size_ok ns at_
  refine ⟨h'.1, by omega, by unfold movesF; rw [List.length_map, List.length_range]; have := many_ok ns at_; omega, fun m hm => ?_⟩
  unfold movesF at hm
  obtain ⟨k, _, rfl⟩ := List.mem_map.mp hm
  exact move_ok (w := 2) rfl (by decide) ns _ _ _ (by decide) (fun z => by rw [h] at z; cases z) (by decide)
end Tw

/-! Tw5: shapes of loops that come often; what is clean data. -/
namespace Tw
open PySem PySem.Spec PyProof.Rows L2
/-! ### data that hold no script -/
mutual
def cln : PyData → Bool
  | .dict [] => true
  | .dict _ => false
  | .list ds => clnAll ds
  | .tuple ds => clnAll ds
  | _ => true
def clnAll : List PyData → Bool
  | [] => true
  | d :: ds => cln d && clnAll ds
end
def NoScr (d : PyData) : Prop := ∀ q, d ≠ .dict [q]
theorem cln_no {d : PyData} (h : cln d = true) : NoScr d := fun q e => by
  subst e
  cases h
theorem clnAll_get : ∀ {ds : List PyData} {i : Nat} {d : PyData}, clnAll ds = true → ds[i]? = some d → cln d = true
  | [], _, _, _, e => by simp at e
  | a :: r, 0, d, h, e => by
    have h' := Bool.and_eq_true_iff.mp (show (cln a && clnAll r) = true from h)
    simp at e
    subst e
    exact h'.1
  | a :: r, i + 1, d, h, e => by
    have h' := Bool.and_eq_true_iff.mp (show (cln a && clnAll r) = true from h)
    exact clnAll_get (i := i) h'.2 (by simpa using e)
theorem cln_ints : ∀ r : List Int, clnAll (r.map .int) = true
  | [] => rfl
  | _ :: r => by
    show (true && clnAll (r.map .int)) = true
    rw [cln_ints r]
    rfl
theorem cln_row (r : List Int) : cln (rowD r) = true := cln_ints r
theorem cln_moves : ∀ ms : List (List Int × List Int), clnAll (ms.map moveD) = true
  | [] => rfl
  | m :: ms => by
    show ((cln (rowD m.1) && (cln (rowD m.2) && true)) && clnAll (ms.map moveD)) = true
    rw [cln_moves ms, cln_row, cln_row]
    rfl
theorem cln_net (n : Nat) (ms : List (List Int × List Int)) : cln (netD n ms) = true := by
  show (true && ((clnAll (ms.map moveD)) && true)) = true
  rw [cln_moves]
  rfl
/-! ### loops -/
section
variable {K : PySem.W.Frag} {E : XK} {δ : List Sl} {ta tb te te1 te2 : TE} {tt : TT} {t u : TS} {x y z r1 r2 : PyData} {xs ys : List PyData} {P P' : Out → Prop}
/-- for ..: if test: return e1 / return e2 -/
theorem as_search {wi : TI} {g : TG} (p : Nat → Bool) (hi : EvI K wi δ xs) (Fr : List Sl → Prop) (h0 : Fr δ)
    (ht : ∀ i d δ', xs[i]? = some d → Fr δ' → (∀ j, j < i → p j = false) → Ag K g d δ' (fun δ2 => EvT K tt δ2 (p i) ∧ Fr δ2)) (h1 : ∀ δ', Fr δ' → Ev K te1 δ' r1) (h2 : ∀ δ', Fr δ' → Ev K te2 δ' r2)
    (k : P (.rt (if (List.range xs.length).any p then r1 else r2))) : As K E (tSeq (tFor wi g (tIfS tt (tRet te1) tNext)) (tRet te2)) δ P := by
  refine as_seq (as_for hi (fun i δ' => Fr δ' ∧ ∀ j, j < i → p j = false) ⟨h0, fun j hj => by omega⟩ (fun i d δ' hd hp => ?_) (fun δ' hp => ?_))
  · refine fun G σ H I v r s rv Q q => ht i d δ' hd hp.1 hp.2 G σ H I v r s rv Q fun δ2 σ' hh rr => q δ2 σ' ?_ rr
    have hlt : i < xs.length := (List.getElem?_eq_some_iff.mp hd).1
    refine as_if hh.1 (fun hb => as_ret (h1 _ hh.2) ?_) (fun hb => as_next ⟨hh.2, fun j hj => ?_⟩)
    · show P (.rt r1)
      rw [if_pos (List.any_eq_true.mpr ⟨i, List.mem_range.mpr hlt, hb⟩)] at k
      exact k
    · rcases Nat.lt_or_eq_of_le (Nat.le_of_lt_succ hj) with q | q
      · exact hp.2 j q
      · rw [q]; exact hb
  · show As K E (tRet te2) δ' P
    refine as_ret (h2 _ hp.1) ?_
    have e : (List.range xs.length).any p = false := by
      rw [List.any_eq_false]
      intro j hj
      rw [hp.2 j (List.mem_range.mp hj)]
      decide
    rw [e] at k
    exact k
/-- [e for x in ..]: every item kept -/
theorem en_map {wi : TI} {g : TG} {vs : List Nat} (f : Nat → PyData) (hi : EvI K wi δ xs) (hz : xs.length ≤ sizeLine) (hw : GWipe g vs)
    (hs : ∀ i d, xs[i]? = some d → Ag K g d (wipeD δ vs) (fun δ2 => Ev K te δ2 (f i))) : EvN K (tLc wi g tYes te vs) δ ((List.range xs.length).map f) := by
  rw [← kept_map]
  exact en_lc (fun _ => true) f hi hz hw fun i d hd G σ H I v r s rv Q q => hs i d hd G σ H I v r s rv Q fun δ2 σ' hh rr => q δ2 σ' ⟨et_yes, fun _ => hh⟩ rr
theorem gw_tup2 {i j : Nat} {vs : List Nat} (h : ∀ σ : L2.St, ∀ v w, L2.wipe (((L2.wipe σ vs).set i (some v)).set j (some w)) vs = L2.wipe σ vs) : GWipe (gTup K 2 (gCons (gName i) (gCons (gName j) gNil))) vs :=
  fun v σ H Q Q' k ⟨a, xs, e, hs, hl, v1, r1, e1, v2, r2, e2, e3, q⟩ => ⟨a, xs, e, hs, hl, v1, r1, e1, v2, r2, e2, e3, k _ (h σ v1 v2) q⟩
theorem gw_tup3 {i j l : Nat} {vs : List Nat} (h : ∀ σ : L2.St, ∀ v w u, L2.wipe ((((L2.wipe σ vs).set i (some v)).set j (some w)).set l (some u)) vs = L2.wipe σ vs) : GWipe (gTup K 3 (gCons (gName i) (gCons (gName j) (gCons (gName l) gNil)))) vs :=
  fun v σ H Q Q' k ⟨a, xs, e, hs, hl, v1, r1, e1, v2, r2, e2, v3, r3, e3, e4, q⟩ => ⟨a, xs, e, hs, hl, v1, r1, e1, v2, r2, e2, v3, r3, e3, e4, k _ (h σ v1 v2 v3) q⟩
theorem wipe_one (i : Nat) (σ : L2.St) (v : V) : L2.wipe ((L2.wipe σ [i]).set i (some v)) [i] = L2.wipe σ [i] := by
  show (((σ.set i none).set i (some v)).set i none) = σ.set i none
  rw [List.set_set, List.set_set]
theorem set_none_set {σ : L2.St} {i j : Nat} {v : V} : ((σ.set i (some v)).set j none).set i none = (σ.set j none).set i none := by
  by_cases h : i = j
  · subst h
    rw [List.set_set, List.set_set, List.set_set]
  · rw [List.set_comm _ _ h, List.set_set]
theorem wipe_two (i j : Nat) (σ : L2.St) (v w : V) : L2.wipe (((L2.wipe σ [i, j]).set i (some v)).set j (some w)) [i, j] = L2.wipe σ [i, j] := by
  apply List.ext_getElem?
  intro k
  show ((((((σ.set j none).set i none).set i (some v)).set j (some w)).set j none).set i none)[k]? = ((σ.set j none).set i none)[k]?
  simp only [List.getElem?_set, List.length_set]
  split <;> split <;> simp_all
theorem wipe_three (i j l : Nat) (σ : L2.St) (v w u : V) : L2.wipe ((((L2.wipe σ [i, j, l]).set i (some v)).set j (some w)).set l (some u)) [i, j, l] = L2.wipe σ [i, j, l] := by
  apply List.ext_getElem?
  intro k
  show ((((((((σ.set l none).set j none).set i none).set i (some v)).set j (some w)).set l (some u)).set l none).set j none |>.set i none)[k]? = (((σ.set l none).set j none).set i none)[k]?
  simp only [List.getElem?_set, List.length_set]
  repeat' (first | rfl | (split <;> first | rfl | skip) | simp_all)
theorem gw1 (i : Nat) : GWipe (gName i) [i] := gw_name (wipe_one i)
theorem gw2 (i j : Nat) : GWipe (gTup K 2 (gCons (gName i) (gCons (gName j) gNil))) [i, j] := gw_tup2 (wipe_two i j)
theorem gw3 (i j l : Nat) : GWipe (gTup K 3 (gCons (gName i) (gCons (gName j) (gCons (gName l) gNil)))) [i, j, l] := gw_tup3 (wipe_three i j l)
theorem row_line {r : List Int} (h : r.length ≤ 1000) : (r.map PyData.int).length ≤ sizeLine := by
  rw [List.length_map]
  exact small_line (by omega)
theorem nums_line {lo : Int} {n : Nat} (h : n ≤ 1000) : (nums lo n).length ≤ sizeLine := by
  rw [nums_len]
  exact small_line (by omega)
/-- a move of a net by its number -/
theorem net_moves {n : Nat} {ms : List (List Int × List Int)} {i : Nat} (h : δ[i]? = some (.d (netD n ms))) : Ev K (tOp (rIx K) (tVar i) (tC (.int 1))) δ (.tuple (ms.map moveD)) := ev_op (ev_var h) ev_int (rd_ixT rfl)
theorem net_size {n : Nat} {ms : List (List Int × List Int)} {i : Nat} (h : δ[i]? = some (.d (netD n ms))) : Ev K (tOp (rIx K) (tVar i) (tC (.int 0))) δ (.int n) := ev_op (ev_var h) ev_int (rd_ixT rfl)
theorem net_move {n : Nat} {ms : List (List Int × List Int)} {i j : Nat} {k : Nat} {m : List Int × List Int} (h : δ[i]? = some (.d (netD n ms))) (hj : δ[j]? = some (.d (.int k))) (hm : ms[k]? = some m) :
    Ev K (tOp (rIx K) (tOp (rIx K) (tVar i) (tC (.int 1))) (tVar j)) δ (moveD m) := ev_op (net_moves h) (ev_var hj) (rd_ixT (at_map (at_nat hm)))
end
theorem eqv_int (i j : Int) : PyData.eqv (.int i) (.int j) = decide (i = j) := by
  show (i == j) = _
  by_cases h : i = j
  · subst h; simp
  · simp [h]
/-! ### kinds of data -/
def isInt : PyData → Bool
  | .int _ => true
  | _ => false
theorem kit_int (d : PyData) (h : NoScr d) : ∃ b, kitB (tyD d) "int" = some b ∧ ∃ c, kitB (tyD d) "bool" = some c ∧ (b && !c) = isInt d := by
  cases d with
  | none => exact ⟨false, (show kitB "NoneType" "int" = some false by decide +kernel), false, (show kitB "NoneType" "bool" = some false by decide +kernel), rfl⟩
  | bool b => exact ⟨true, (show kitB "bool" "int" = some true by decide +kernel), true, (show kitB "bool" "bool" = some true by decide +kernel), rfl⟩
  | int i => exact ⟨true, (show kitB "int" "int" = some true by decide +kernel), false, (show kitB "int" "bool" = some false by decide +kernel), rfl⟩
  | str x => exact ⟨false, (show kitB "str" "int" = some false by decide +kernel), false, (show kitB "str" "bool" = some false by decide +kernel), rfl⟩
  | list xs => exact ⟨false, (show kitB "list" "int" = some false by decide +kernel), false, (show kitB "list" "bool" = some false by decide +kernel), rfl⟩
  | tuple xs => exact ⟨false, (show kitB "tuple" "int" = some false by decide +kernel), false, (show kitB "tuple" "bool" = some false by decide +kernel), rfl⟩
  | dict kvs =>
    cases kvs with
    | nil => exact ⟨false, (show kitB "dict" "int" = some false by decide +kernel), false, (show kitB "dict" "bool" = some false by decide +kernel), rfl⟩
    | cons q r => exact ⟨false, (show kitB "list" "int" = some false by decide +kernel), false, (show kitB "list" "bool" = some false by decide +kernel), rfl⟩
theorem kit_tup (d : PyData) (h : NoScr d) : ∃ b, kitB (tyD d) "tuple" = some b ∧ (b = true → ∃ xs, d = .tuple xs) ∧ (b = false → ∀ xs, d ≠ .tuple xs) := by
  cases d with
  | none => exact ⟨false, (show kitB "NoneType" "tuple" = some false by decide +kernel), (fun z => by cases z), fun _ _ z => by cases z⟩
  | bool b => exact ⟨false, (show kitB "bool" "tuple" = some false by decide +kernel), (fun z => by cases z), fun _ _ z => by cases z⟩
  | int i => exact ⟨false, (show kitB "int" "tuple" = some false by decide +kernel), (fun z => by cases z), fun _ _ z => by cases z⟩
  | str x => exact ⟨false, (show kitB "str" "tuple" = some false by decide +kernel), (fun z => by cases z), fun _ _ z => by cases z⟩
  | list xs => exact ⟨false, (show kitB "list" "tuple" = some false by decide +kernel), (fun z => by cases z), fun _ _ z => by cases z⟩
  | tuple xs => exact ⟨true, (show kitB "tuple" "tuple" = some true by decide +kernel), (fun _ => ⟨xs, rfl⟩), fun z => by cases z⟩
  | dict kvs =>
    cases kvs with
    | nil => exact ⟨false, (show kitB "dict" "tuple" = some false by decide +kernel), (fun z => by cases z), fun _ _ z => by cases z⟩
    | cons q r => exact ⟨false, (show kitB "list" "tuple" = some false by decide +kernel), (fun z => by cases z), fun _ _ z => by cases z⟩
theorem kit_str (d : PyData) (h : NoScr d) : ∃ b, kitB (tyD d) "str" = some b ∧ (b = true → ∃ xs, d = .str xs) ∧ (b = false → ∀ xs, d ≠ .str xs) := by
  cases d with
  | none => exact ⟨false, (show kitB "NoneType" "str" = some false by decide +kernel), (fun z => by cases z), fun _ _ z => by cases z⟩
  | bool b => exact ⟨false, (show kitB "bool" "str" = some false by decide +kernel), (fun z => by cases z), fun _ _ z => by cases z⟩
  | int i => exact ⟨false, (show kitB "int" "str" = some false by decide +kernel), (fun z => by cases z), fun _ _ z => by cases z⟩
  | str x => exact ⟨true, (show kitB "str" "str" = some true by decide +kernel), (fun _ => ⟨x, rfl⟩), fun z => by cases z⟩
  | list xs => exact ⟨false, (show kitB "list" "str" = some false by decide +kernel), (fun z => by cases z), fun _ _ z => by cases z⟩
  | tuple xs => exact ⟨false, (show kitB "tuple" "str" = some false by decide +kernel), (fun z => by cases z), fun _ _ z => by cases z⟩
  | dict kvs =>
    cases kvs with
    | nil => exact ⟨false, (show kitB "dict" "str" = some false by decide +kernel), (fun z => by cases z), fun _ _ z => by cases z⟩
    | cons q r => exact ⟨false, (show kitB "list" "str" = some false by decide +kernel), (fun z => by cases z), fun _ _ z => by cases z⟩
theorem kit_lst (d : PyData) (h : cln d = true) : ∃ b, kitB (tyD d) "list" = some b ∧ (b = true → ∃ xs, d = .list xs) ∧ (b = false → ∀ xs, d ≠ .list xs) := by
  cases d with
  | none => exact ⟨false, (show kitB "NoneType" "list" = some false by decide +kernel), (fun z => by cases z), fun _ _ z => by cases z⟩
  | bool b => exact ⟨false, (show kitB "bool" "list" = some false by decide +kernel), (fun z => by cases z), fun _ _ z => by cases z⟩
  | int i => exact ⟨false, (show kitB "int" "list" = some false by decide +kernel), (fun z => by cases z), fun _ _ z => by cases z⟩
  | str x => exact ⟨false, (show kitB "str" "list" = some false by decide +kernel), (fun z => by cases z), fun _ _ z => by cases z⟩
  | list xs => exact ⟨true, (show kitB "list" "list" = some true by decide +kernel), (fun _ => ⟨xs, rfl⟩), fun z => by cases z⟩
  | tuple xs => exact ⟨false, (show kitB "tuple" "list" = some false by decide +kernel), (fun z => by cases z), fun _ _ z => by cases z⟩
  | dict kvs =>
    cases kvs with
    | nil => exact ⟨false, (show kitB "dict" "list" = some false by decide +kernel), (fun z => by cases z), fun _ _ z => by cases z⟩
    | cons q r => cases h
theorem shaped_int (i : Int) : SeqAt.shaped (.int i) = true := rfl
/-- an item that is there -/
theorem item_eq {xs : List PyData} {i : Nat} {d : PyData} (h : xs[i]? = some d) : xs.getD i .none = d := by
  rw [List.getD_eq_getElem?_getD, h]
  rfl
theorem any_not {n : Nat} {p : Nat → Bool} : ((List.range n).any fun i => !p i) = !(List.range n).all p := by
  rw [List.all_eq_not_any_not, Bool.not_not]
theorem map_getD {r : List Int} {n : Nat} (h : r.length = n) : (List.range n).map (fun k => r.getD k 0) = r := by
  subst h
  apply List.ext_getElem?
  intro k
  rw [List.getElem?_map]
  by_cases hk : k < r.length
  · rw [List.getElem?_range hk, List.getElem?_eq_getElem hk, Option.map_some, List.getD_eq_getElem?_getD, List.getElem?_eq_getElem hk]
    rfl
  · rw [List.getElem?_eq_none_iff.mpr (by rw [List.length_range]; omega), List.getElem?_eq_none_iff.mpr (by omega)]
    rfl
theorem eqv_nat (i j : Nat) : PyData.eqv (.int i) (.int j) = decide (i = j) := by
  rw [eqv_int]
  exact decide_eq_decide.mpr Int.ofNat_inj
section
variable {K : PySem.W.Frag} {E : XK} {δ δ1 : List Sl} {t u : TS} {P : Out → Prop}
/-- t leads to these slots, whichever way -/
theorem as_to (h : As K E t δ (fun o => o = .nx δ1)) (h2 : As K E u δ1 P) : As K E (tSeq t u) δ P := as_seq (h.mono fun o e => by
  subst e
  exact h2)
theorem as_toQ {Q : List Sl → Prop} (h : As K E t δ (fun o => ∃ δ1, Q δ1 ∧ o = .nx δ1)) (h2 : ∀ δ1, Q δ1 → As K E u δ1 P) : As K E (tSeq t u) δ P := as_seq (h.mono fun o e => by
  obtain ⟨δ1, q, rfl⟩ := e
  exact h2 δ1 q)
end
theorem ix_of {n : Nat} {i : Int} (h0 : 0 ≤ i) (h1 : i < n) : ixN n i = some i.toNat := by
  unfold ixN
  rw [if_pos h0, if_pos h1]
theorem tab_len (ns : List Int) (even : Bool) : (tabF ns even).length = 5 := by
  unfold tabF
  split <;> rfl
theorem tab_all (ns : List Int) (even : Bool) : ∀ x ∈ tabF ns even, 0 ≤ x ∧ x ≤ 9 := by
  unfold tabF
  split <;> decide
theorem map_range {α β : Type} (l : List α) (d : α) (f : α → β) : (List.range l.length).map (fun i => f (l.getD i d)) = l.map f := by
  apply List.ext_getElem?
  intro k
  rw [List.getElem?_map, List.getElem?_map]
  by_cases hk : k < l.length
  · rw [List.getElem?_range hk, List.getElem?_eq_getElem hk, Option.map_some, Option.map_some, List.getD_eq_getElem?_getD, List.getElem?_eq_getElem hk]
    rfl
  · rw [List.getElem?_eq_none_iff.mpr (by rw [List.length_range]; omega), List.getElem?_eq_none_iff.mpr (by omega)]
    rfl
theorem map_set_int (l : List Int) (i : Nat) (x : Int) : (l.map PyData.int).set i (.int x) = (l.set i x).map .int := by
  rw [List.map_set]
theorem lay_moves : ∀ ms : List (List Int × List Int), PyData.canLayAll0 (ms.map moveD) = true
  | [] => rfl
  | m :: ms => by
    show ((PyData.canLayAll0 (m.1.map .int) && (PyData.canLayAll0 (m.2.map .int) && true)) && PyData.canLayAll0 (ms.map moveD)) = true
    rw [lay_ints, lay_ints, lay_moves ms]
    rfl
theorem depth_moves : ∀ ms : List (List Int × List Int), PyData.depthAll (ms.map moveD) ≤ 2
  | [] => by decide
  | m :: ms => by
    have h := depth_moves ms
    have h1 := depth_ints m.1
    have h2 := depth_ints m.2
    show max (max (PyData.depthAll (m.1.map .int) + 1) (max (PyData.depthAll (m.2.map .int) + 1) 0) + 1) (PyData.depthAll (ms.map moveD)) ≤ 2
    omega
theorem shaped_of {d : PyData} (h1 : d.canLay0 = true) (h2 : d.depth ≤ 64) : SeqAt.shaped d = true := by
  show (d.canLay0 && decide (d.depth ≤ 64)) = true
  rw [h1, decide_eq_true h2]
  rfl
theorem shaped_moves (ms : List (List Int × List Int)) : SeqAt.shaped (.tuple (ms.map moveD)) = true :=
  shaped_of (lay_moves ms) (by have := depth_moves ms; show PyData.depthAll _ + 1 ≤ 64; omega)
theorem shaped_row (r : List Int) : SeqAt.shaped (rowD r) = true :=
  shaped_of (lay_ints r) (by have := depth_ints r; show PyData.depthAll _ + 1 ≤ 64; omega)
theorem shaped_intsL (r : List Int) : SeqAt.shaped (.list (r.map .int)) = true :=
  shaped_of (lay_ints r) (by have := depth_ints r; show PyData.depthAll _ + 1 ≤ 64; omega)
theorem shaped_net (n : Nat) (ms : List (List Int × List Int)) : SeqAt.shaped (netD n ms) = true :=
  shaped_of (by show (true && (PyData.canLayAll0 (ms.map moveD) && true)) = true; rw [lay_moves]; rfl) (by have := depth_moves ms; show max 0 (max (PyData.depthAll (ms.map moveD) + 1) 0) + 1 ≤ 64; omega)
theorem eqv_moves (ms : List (List Int × List Int)) : PyData.eqv (.tuple (ms.map moveD)) (.tuple []) = decide (ms = []) := by
  cases ms with
  | nil => rfl
  | cons m r => rfl
theorem cut_take {xs : List PyData} {k : Nat} : cutD xs none (some (k : Int)) = xs.take k := by
  unfold cutD
  rw [HT.sIx_none, HT.sIx_nat, List.drop_zero, Nat.sub_zero]
  by_cases h : k ≤ xs.length
  · rw [Nat.min_eq_left h]
  · rw [Nat.min_eq_right (by omega), List.take_length, List.take_of_length_le (by omega)]
theorem cut_drop {xs : List PyData} {k : Nat} : cutD xs (some (k : Int)) none = xs.drop k := by
  unfold cutD
  rw [HT.sIx_none, HT.sIx_nat]
  by_cases h : k ≤ xs.length
  · rw [Nat.min_eq_left h]
    exact List.take_of_length_le (by rw [List.length_drop]; exact Nat.le_refl _)
  · rw [Nat.min_eq_right (by omega), Nat.sub_self, List.take_zero, List.drop_of_length_le (by omega)]
def overB (one other : List Int) : Bool := (List.range other.length).all fun k => decide (other.getD k 0 ≤ one.getD k 0)
theorem lt_not_le (a b : Int) : decide (a < b) = !decide (b ≤ a) := by
  by_cases h : a < b
  · rw [decide_eq_true h, decide_eq_false (by omega)]; rfl
  · rw [decide_eq_false h, decide_eq_true (by omega)]; rfl
theorem search_all {n : Nat} {p : Nat → Bool} : (if ((List.range n).any fun i => !p i) then PyData.bool false else PyData.bool true) = .bool ((List.range n).all p) := by
  rw [any_not]
  cases (List.range n).all p <;> rfl
def ledR (h takes gives : List Int) : List Int := (List.range h.length).map fun k => h.getD k 0 - takes.getD k 0 + gives.getD k 0
theorem overB_iff {a b : List Int} : overB a b = true ↔ ∀ k, k < b.length → b.getD k 0 ≤ a.getD k 0 := by
  unfold overB
  rw [List.all_eq_true]
  exact ⟨fun h k hk => of_decide_eq_true (h k (List.mem_range.mpr hk)), fun h k hk => decide_eq_true (h k (List.mem_range.mp hk))⟩
theorem getD_map_range {n k : Nat} {f : Nat → Int} (h : k < n) : ((List.range n).map f).getD k 0 = f k := by
  rw [List.getD_eq_getElem?_getD, List.getElem?_map, List.getElem?_range h]
  rfl
theorem led_get {h a b : List Int} {k : Nat} (hk : k < h.length) : (ledR h a b).getD k 0 = h.getD k 0 - a.getD k 0 + b.getD k 0 := getD_map_range hk
theorem led_len {h a b : List Int} : (ledR h a b).length = h.length := by unfold ledR; rw [List.length_map, List.length_range]
def natB : PyData → Bool
  | .int i => decide (0 ≤ i)
  | _ => false
def hoardB (n : Nat) : PyData → Bool
  | .tuple ds => decide (ds.length = n) && (List.range ds.length).all fun i => natB (ds.getD i .none)
  | _ => false
theorem hoardB_no {n : Nat} {d : PyData} (h : ∀ xs, d ≠ .tuple xs) : hoardB n d = false := by
  cases d <;> first | rfl | exact absurd rfl (h _)


theorem hoardB_row {n : Nat} {r : List Int} (h : r.length = n) (h0 : ∀ x ∈ r, 0 ≤ x) : hoardB n (rowD r) = true := by
  show (decide ((r.map PyData.int).length = n) && (List.range (r.map PyData.int).length).all fun i => natB ((r.map PyData.int).getD i .none)) = true
  rw [List.length_map, decide_eq_true h, Bool.true_and, List.all_eq_true]
  intro i hi
  have hi' := List.mem_range.mp hi
  rw [item_eq (row_get (List.getElem?_eq_getElem hi'))]
  exact decide_eq_true (h0 _ (List.getElem_mem _))
def inB (d : PyData) (l m : Int) : Bool := match d with
  | .int i => decide (l ≤ i) && decide (i ≤ m)
  | _ => false
theorem inB_nat {ms : List (List Int × List Int)} {k : Nat} {m : List Int × List Int} (h : ms[k]? = some m) : inB (.int (k : Nat)) 0 (ms.length - 1) = true := by
  have := (List.getElem?_eq_some_iff.mp h).1
  show (decide ((0 : Int) ≤ (k : Int)) && decide ((k : Int) ≤ (ms.length : Int) - 1)) = true
  rw [decide_eq_true (by omega), decide_eq_true (by omega)]
  rfl
theorem range_all {f : PyData → Bool} (xs : List PyData) : ((List.range xs.length).all fun i => f (xs.getD i .none)) = xs.all f := by
  cases h : xs.all f with
  | true =>
    rw [List.all_eq_true] at h ⊢
    intro i hi
    have hi' := List.mem_range.mp hi
    rw [item_eq (List.getElem?_eq_getElem hi')]
    exact h _ (List.getElem_mem _)
  | false =>
    rw [List.all_eq_false] at h ⊢
    obtain ⟨x, hx, hf⟩ := h
    obtain ⟨i, hi, e⟩ := List.getElem_of_mem hx
    refine ⟨i, List.mem_range.mpr hi, ?_⟩
    rw [item_eq (List.getElem?_eq_getElem hi), e]
    exact hf
/-- a move made; a run made -/
def stepR (ms : List (List Int × List Int)) (h : List Int) (k : Nat) : Option (List Int) := match ms[k]? with
  | some m => if overB h m.1 then some (ledR h m.1 m.2) else none
  | none => none
def walkR (ms : List (List Int × List Int)) (h : List Int) (run : List Nat) : Option (List Int) := run.foldlM (stepR ms) h
theorem walkR_nil {ms : List (List Int × List Int)} {h : List Int} : walkR ms h [] = some h := rfl
theorem walkR_app {ms : List (List Int × List Int)} {h : List Int} (a b : List Nat) : walkR ms h (a ++ b) = (walkR ms h a).bind fun h' => walkR ms h' b := by
  unfold walkR
  rw [List.foldlM_append]
  rfl
theorem walkR_one {ms : List (List Int × List Int)} {h : List Int} {k : Nat} : walkR ms h [k] = stepR ms h k := by
  unfold walkR
  rw [List.foldlM_cons]
  cases stepR ms h k <;> rfl
theorem take_more {α : Type} {l : List α} {i : Nat} {x : α} (h : l[i]? = some x) : l.take (i + 1) = l.take i ++ [x] := by
  rw [List.take_add_one, h]
  rfl
/-- the law's start: the script stands there -/
theorem law_start {K : PySem.W.Frag} {F : List PyData → Out → Prop} {H : Hp} {a : Addr} {ns : List Int} (h : F [scrD ns] (.rt (.bool true))) (hS : SqL K H a (ns.map V.int)) : SpD K F [.ref a] H (fun v _ => v = .bl true) fun _ _ _ => False :=
  ⟨H, [scrD ns], .rt (.bool true), Same.refl _, .cons (.scr hS) .nil, h, fun v H' I' n r => by cases r; rfl⟩
end Tw

/-! Tw6: xs[::-1] of a list or a tuple; tuples times 0 and 1; is of bools. -/
namespace Tw
open PySem PySem.Spec PyProof.Rows L2 PyProof
section
variable {prog : Program} {w : World} {A : Around} {E : Value → Shared → Prop} {s : Shared}
theorem fm_some {α β : Type} {f : α → Option β} {g : α → β} : ∀ {l : List α}, (∀ x ∈ l, f x = some (g x)) → l.filterMap f = l.map g
  | [], _ => rfl
  | a :: l, h => by
    rw [List.filterMap_cons, h a List.mem_cons_self, List.map_cons, fm_some fun x hx => h x (List.mem_cons_of_mem _ hx)]
theorem rev_range (n : Nat) (xs : Array Value) (hn : xs.size = n) : ((List.range n).filterMap fun (m : Nat) => xs[(((n : Int) - 1) + (m : Int) * -1).toNat]?).toArray = xs.toList.reverse.toArray := by
  subst hn
  congr 1
  have e : ((List.range xs.size).filterMap fun (m : Nat) => xs[(((xs.size : Int) - 1) + (m : Int) * -1).toNat]?) = (List.range xs.size).map fun m => xs.toList.getD (xs.size - 1 - m) default := by
    refine fm_some fun m hm => ?_
    have hm' := List.mem_range.mp hm
    have e1 : (((xs.size : Int) - 1) + (m : Int) * -1).toNat = xs.size - 1 - m := by omega
    have hlt : xs.size - 1 - m < xs.size := by omega
    show xs[(((xs.size : Int) - 1) + (m : Int) * -1).toNat]? = _
    rw [e1, Array.getElem?_eq_getElem hlt, List.getD_eq_getElem?_getD, List.getElem?_eq_getElem (by simpa using hlt)]
    simp
  rw [e]
  apply List.ext_getElem?
  intro k
  by_cases hk : k < xs.size
  · rw [List.getElem?_map, List.getElem?_range hk, List.getElem?_reverse (by simpa using hk)]
    show some (xs.toList.getD (xs.size - 1 - k) default) = _
    have hlt : xs.size - 1 - k < xs.toList.length := by rw [Array.length_toList]; omega
    rw [List.getD_eq_getElem?_getD, Array.length_toList, List.getElem?_eq_getElem hlt]
    rfl
  · rw [List.getElem?_eq_none_iff.mpr (by rw [List.length_map, List.length_range]; omega), List.getElem?_eq_none_iff.mpr (by rw [List.length_reverse, Array.length_toList]; omega)]
theorem getItem_tuple_rev {t sl : Addr} {items : Array Value} {vl vu vs : Value} {Q : Value → Shared → Prop} (ht : IsTup s.heap t items) (hs : s.heap.IsSliceOf sl vl vu vs) (pl : IsPart vl none) (pu : IsPart vu none) (ps : IsPart vs (some (-1)))
    (h : Q (.ref s.heap.objs.size) { s with heap := s.heap.push { cls := .type "tuple", data := .seq items.toList.reverse.toArray } }) (hsz : items.size ≤ sizeLine) : wpAny (model prog w) A (getItem (.ref t) (.ref sl)) Q E s := by
  have htake : sizeOk (.seq items.toList.reverse.toArray) := by
    show items.toList.reverse.toArray.size ≤ sizeLine
    rw [List.size_toArray, List.length_reverse, Array.length_toList]
    exact hsz
  obtain ⟨os, hos, hcs, hds⟩ := id hs
  have hTs : s.TypeIs (.ref sl) "slice" := ⟨os, hos, hcs⟩
  unfold getItem
  try with_reducible refine wpAny_holding ?_
  first | refine wpAny_bind (wpAny_pure ?_) | skip
  refine wpAny_bind (wpAny_sequenceKey ht.typeIs (by decide) ?_)
  refine wpAny_bind (wpAny_callSpecial?_slot (name := Str.ofString "__getitem__") ht.typeIs PyProof.Rows.slot_tuple_getitem
    (wpAny_call_entry PyProof.Rows.slot_tuple_getitem ht.typeIs PyProof.Rows.entry_tuple_getitem ?_ (PyProof.Rows.args_tuple_getitem _ _)))
  show wpAny _ _ (Builtin.Tuple.tupleItemsOf (.ref t) >>= _) _ _ s
  refine wpAny_bind (PyProof.Rows.tupleItemsOf_ ht ?_)
  refine wpAny_bind (wpAny_typeOf hTs ?_)
  rw [if_pos (by decide)]
  refine wpAny_bind ?_
  · unfold Builtin.Slice.sliceApplied Builtin.Slice.sliceFields
    refine wpAny_bind (wpAny_bind (wpAny_field hos hds (x := vl) rfl (wpAny_bind (wpAny_field hos hds (x := vu) rfl (wpAny_bind (wpAny_field hos hds (x := vs) rfl (wpAny_pure ?_)))))))
    refine wpAny_bind (HT.slicePart_ ps ?_)
    show wpAny _ _ (if ((-1 : Int) == 0) = true then _ else _) _ _ s
    rw [if_neg (by decide)]
    refine wpAny_bind (HT.slicePart_ pl (wpAny_bind (HT.slicePart_ pu (wpAny_bind (wpAny_pure ?_)))))
    show wpAny _ _ (pure (((items.size : Int) - 1), (-1 : Int), Builtin.Slice.slicePlaces ((items.size : Int) - 1) (-1) (-1))) _ _ s
    have hp : Builtin.Slice.slicePlaces ((items.size : Int) - 1) (-1) (-1) = items.size := by
      unfold Builtin.Slice.slicePlaces
      have h1 : ¬ (-1 : Int) > 0 := by decide
      have h2 : (-(-1) : Int) = 1 := by decide
      simp only [h1, if_false, h2, Int.ediv_one]
      split <;> omega
    rw [hp]
    refine wpAny_pure ?_
    have hno : ¬ ((((items.size : Int) - 1) == 0 && (-1 : Int) == 1 && items.size == items.size) = true) := by
      intro q
      rw [Bool.and_eq_true, Bool.and_eq_true] at q
      exact absurd q.1.2 (by decide)
    show wpAny _ _ (if (((items.size : Int) - 1) == 0 && (-1 : Int) == 1 && items.size == items.size) = true then _ else _) _ _ s
    rw [if_neg hno, rev_range items.size items rfl]
    first
      | exact wpAny_bind (m := Builtin.Tuple.tupleExact _) (wpAny_newObj_type (wpAny_pure ⟨_, rfl, wpAny_pure h⟩) htake)
      | exact wpAny_bind (m := Builtin.Tuple.tupleExact _) (wpAny_newObj_type (wpAny_bind (wpAny_pure (wpAny_pure ⟨_, rfl, wpAny_pure h⟩))) htake)
      | exact wpAny_bind (wpAny_bind (m := Builtin.Tuple.tupleExact _) (wpAny_newObj_type (wpAny_pure (wpAny_pure ⟨_, rfl, wpAny_pure h⟩)) htake))
      | exact wpAny_bind (wpAny_bind (m := Builtin.Tuple.tupleExact _) (wpAny_newObj_type (wpAny_pure ⟨_, rfl, wpAny_pure h⟩) htake))
end
/-- a[::-1], a list or a tuple -/
def tRevA (K : PySem.W.Frag) (te : TE) : TE := fun σ H Q => te σ H fun x H1 => ∃ a xs, x = .ref a ∧
  ((SqL K H1 a xs ∧ ∀ p, H1 p = none → Q (.ref p) (upd H1 p (.lst xs.reverse))) ∨ (SqT K H1 a xs ∧ ∀ p, H1 p = none → Q (.ref p) (upd H1 p (.tup xs.reverse))))
theorem pe_revA {X : Cx} {e : Expr} {te : TE} {k : Nat} {p1 p2 p3 pos : Pos} (he : PE X e te) : PE X (.Subscript e (.Slice none none (some (.UnaryOp .USub (.Constant (.int 1) k p1) p2)) p3) pos) (tRevA X.K te) := by
  refine ⟨fun pins s σ H Q I h => ?_⟩
  refine Subscript_ (thn (he.run pins s σ H _ I h) fun v s1 ⟨x, H1, I1, r1, q1⟩ => ?_)
  obtain ⟨a, xs, ex, q⟩ := q1
  subst ex
  cases r1
  have hst : PO X (some (.UnaryOp .USub (.Constant (.int 1) k p1) p2)) (tPart (tUn (rU fun i => .int (-i)) (tC (.int 1)))) := po_some (pe_un un_neg pe_int)
  refine wpAny_Slice (thn (po_none.run pins s1 σ H1 (fun o H2 => o = none ∧ H2 = H1) I1 ⟨rfl, rfl⟩) fun vl s2 ⟨l, H2, I2, pl, el, e2⟩ => ?_)
  subst el e2
  refine thn (po_none.run pins s2 σ H2 (fun o H3 => o = none ∧ H3 = H2) I2 ⟨rfl, rfl⟩) fun vu s3 ⟨u, H3, I3, pu, eu, e3⟩ => ?_
  subst eu e3
  refine thn (hst.run pins s3 σ H3 (fun o H4 => o = some (-1) ∧ H4 = H3) I3 ⟨1, rfl, -1, rfl, rfl, rfl⟩) fun vs s4 ⟨o, H4, I4, ps, eo, e4⟩ => ?_
  subst eo e4
  have I5 : Inv X pins σ H4 { s4 with heap := s4.heap.push { cls := .type "slice", data := .fields #[vl, vu, vs] } } := I4.kept (t' := s4.toks) fun b ob q => Heap.get?_push_of_some _ q
  show wpAny (model X.prog X.w) X.A (subscriptTail e (.Slice none none (some (.UnaryOp .USub (.Constant (.int 1) k p1) p2)) p3) (.ref a) (.ref s4.heap.objs.size)) (EP X pins σ Q) X.xe { s4 with heap := s4.heap.push { cls := .type "slice", data := .fields #[vl, vu, vs] } }
  rcases q with ⟨hx, q⟩ | ⟨hx, q⟩
  · obtain ⟨its, r, ht, hz⟩ := I5.list hx
    have hlen := r.length
    refine tail_any (ops := [.ref a, .ref s4.heap.objs.size]) ht.isList.typeIs (PySem.slot_list_getitem.lookup) ?_ (by with_unfolding_all rfl)
    refine wpAny_getItem_list_slice ht.isList (Heap.IsSliceOf.new _ vl vu vs) pl pu ps (by decide) ?_ (by rw [List.size_toArray]; omega)
    rw [PySem.W.krv_pick]
    refine ⟨.ref _, _, I5.laid (t' := s4.toks) (o := .lst xs.reverse) (fun b ob q => Heap.get?_push_of_some _ q) (Nat.le_refl _) ?_, rfl, q _ (I5.hok.fresh (Nat.le_refl _))⟩
    exact ⟨by rw [List.length_reverse]; exact hz, _, 0, r.reverse, Heap.get?_push_size _ rfl⟩
  · obtain ⟨its, r, ht, hz⟩ := I5.tuple hx
    have hlen := r.length
    refine tail_any (ops := [.ref a, .ref s4.heap.objs.size]) ht.typeIs (PyProof.Rows.slot_tuple_getitem.lookup) ?_ (by with_unfolding_all rfl)
    refine getItem_tuple_rev ht (Heap.IsSliceOf.new _ vl vu vs) pl pu ps ?_ (by rw [List.size_toArray]; omega)
    refine ⟨.ref _, _, I5.laid (t' := s4.toks) (o := .tup xs.reverse) (fun b ob q => Heap.get?_push_of_some _ q) (Nat.le_refl _) ?_, rfl, q _ (I5.hok.fresh (Nat.le_refl _))⟩
    exact ⟨by rw [List.length_reverse]; exact hz, _, r.reverse, IsTup.new _ _⟩
section
variable {K : PySem.W.Frag} {δ : List Sl} {te : TE} {xs : List PyData} {x y : PyData} {a b : Bool}
theorem en_rev (h : Ev K te δ (.list xs)) : EvN K (tRevA K te) δ xs.reverse := fun G σ H I s g r Q q =>
  h G σ H I s g r _ fun v H1 I1 n1 rv => by
    cases rv with
    | lst h1 a1 => exact ⟨_, _, rfl, .inl ⟨.of (n1.s _ _ h1), fun p hp => q p H1 I1 _ n1 hp a1.rev⟩⟩
theorem ev_revT (h : Ev K te δ (.tuple xs)) : Ev K (tRevA K te) δ (.tuple xs.reverse) := fun G σ H I s g r Q q =>
  h G σ H I s g r _ fun v H1 I1 n1 rv => by
    cases rv with
    | tup h1 a1 => exact ⟨_, _, rfl, .inr ⟨.of (n1.s _ _ h1), fun p hp => q _ _ _ (n1.trans (Nx.new n1.s hp)) (.tup upd_same (a1.rev.mono (same_new (n1.s.free hp))))⟩⟩
/-! ### is True, is not False .. of bools -/
def rIsB : R2 := fun x y H Q => ∃ a b, x = .bl a ∧ y = .bl b ∧ Q (.bl (decide (a = b))) H
def rNotB : R2 := fun x y H Q => ∃ a b, x = .bl a ∧ y = .bl b ∧ Q (.bl (!decide (a = b))) H
theorem opIsB {X : Cx} : OpR X (compareOp .Is) rIsB := op_is_bl
theorem opNotB {X : Cx} : OpR X (compareOp .IsNot) rNotB := op_isnot_bl
theorem rd_isB : R2D K rIsB (.bool a) (.bool b) (.bool (decide (a = b))) := fun H I v u s r1 r2 Q q => by
  cases r1; cases r2
  exact ⟨a, b, rfl, rfl, q _ H I (Nx.refl s) (.bl _)⟩
theorem rd_notB : R2D K rNotB (.bool a) (.bool b) (.bool (!decide (a = b))) := fun H I v u s r1 r2 Q q => by
  cases r1; cases r2
  exact ⟨a, b, rfl, rfl, q _ H I (Nx.refl s) (.bl _)⟩
end
end Tw

/-! Tw7: plain laws of runs and of equal data. -/
namespace Tw
open PySem PySem.Spec PyProof.Rows L2 PyProof
theorem eqv_self {d : PyData} (h : SeqAt.shaped d = true) : PyData.eqv d d = true := PySem.SeqAt.eqv_refl d (by
  have h : (d.canLay0 && decide (d.depth ≤ 64)) = true := h
  rw [Bool.and_eq_true] at h
  exact h.1)
theorem step_some {ms : List (List Int × List Int)} {h h' : List Int} {k : Nat} (e : stepR ms h k = some h') : ∃ m, ms[k]? = some m ∧ overB h m.1 = true ∧ h' = ledR h m.1 m.2 := by
  unfold stepR at e
  cases em : ms[k]? with
  | none => rw [em] at e; cases e
  | some m =>
    rw [em] at e
    have e : (if overB h m.1 = true then some (ledR h m.1 m.2) else none) = some h' := e
    by_cases ho : overB h m.1 = true
    · rw [if_pos ho] at e
      exact ⟨m, rfl, ho, (Option.some.inj e).symm⟩
    · rw [if_neg ho] at e
      cases e
theorem walk_pre {ms : List (List Int × List Int)} {h h' : List Int} {run : List Nat} (e : walkR ms h run = some h') (i : Nat) : ∃ hi, walkR ms h (run.take i) = some hi ∧ walkR ms hi (run.drop i) = some h' := by
  rw [← List.take_append_drop i run, walkR_app] at e
  cases e1 : walkR ms h (run.take i) with
  | none => rw [e1] at e; cases e
  | some hi =>
    rw [e1] at e
    exact ⟨hi, rfl, e⟩
theorem walk_len {n : Nat} {ms : List (List Int × List Int)} : ∀ {run : List Nat} {h h' : List Int}, h.length = n → walkR ms h run = some h' → h'.length = n
  | [], h, h', hl, e => by
    cases (show some h = some h' from e)
    exact hl
  | k :: run, h, h', hl, e => by
    unfold walkR at e
    rw [List.foldlM_cons] at e
    cases e1 : stepR ms h k with
    | none => rw [e1] at e; cases e
    | some h1 =>
      rw [e1] at e
      obtain ⟨m, _, _, rfl⟩ := step_some e1
      exact walk_len (run := run) (by rw [led_len]; exact hl) e
theorem walk_at {ms : List (List Int × List Int)} {h h' : List Int} {run : List Nat} (e : walkR ms h run = some h') {i k : Nat} (hk : run[i]? = some k) :
    ∃ hi m, walkR ms h (run.take i) = some hi ∧ ms[k]? = some m ∧ overB hi m.1 = true ∧ walkR ms h (run.take (i + 1)) = some (ledR hi m.1 m.2) := by
  obtain ⟨h2, e2, _⟩ := walk_pre e (i + 1)
  rw [take_more hk, walkR_app] at e2
  cases e1 : walkR ms h (run.take i) with
  | none => rw [e1] at e2; cases e2
  | some hi =>
    rw [e1] at e2
    have e3 : stepR ms hi k = some h2 := by
      rw [← walkR_one]
      exact e2
    obtain ⟨m, hm, ho, rfl⟩ := step_some e3
    refine ⟨hi, m, rfl, hm, ho, ?_⟩
    rw [take_more hk, walkR_app, e1]
    exact e2
theorem walk_moves {ms : List (List Int × List Int)} {h h' : List Int} {run : List Nat} (e : walkR ms h run = some h') {i k : Nat} (hk : run[i]? = some k) : k < ms.length := by
  obtain ⟨hi, m, _, hm, _⟩ := walk_at e hk
  exact (List.getElem?_eq_some_iff.mp hm).1
theorem nats_get {run : List Nat} {i : Nat} {d : PyData} (h : (run.map fun (k : Nat) => PyData.int k)[i]? = some d) : ∃ k, run[i]? = some k ∧ d = .int (k : Nat) := by
  rw [List.getElem?_map] at h
  cases e : run[i]? with
  | none => rw [e] at h; cases h
  | some k =>
    rw [e] at h
    exact ⟨k, rfl, (Option.some.inj h).symm⟩
theorem moves_get {ms : List (List Int × List Int)} {i : Nat} {d : PyData} (h : (ms.map moveD)[i]? = some d) : ∃ m, ms[i]? = some m ∧ d = moveD m := by
  rw [List.getElem?_map] at h
  cases e : ms[i]? with
  | none => rw [e] at h; cases h
  | some k =>
    rw [e] at h
    exact ⟨k, rfl, (Option.some.inj h).symm⟩
theorem step_len {ms : List (List Int × List Int)} {h h' : List Int} {k : Nat} (e : stepR ms h k = some h') : h'.length = h.length := by
  obtain ⟨m, hm, ho, rfl⟩ := step_some e
  exact led_len
theorem walk_cons {ms : List (List Int × List Int)} {h h' : List Int} {k : Nat} {run : List Nat} (e : walkR ms h (k :: run) = some h') : ∃ h1, stepR ms h k = some h1 ∧ walkR ms h1 run = some h' := by
  unfold walkR at e
  rw [List.foldlM_cons] at e
  cases e1 : stepR ms h k with
  | none => rw [e1] at e; cases e
  | some h1 =>
    rw [e1] at e
    exact ⟨h1, rfl, e⟩
theorem step_nn {n : Nat} {w : Int} {ms : List (List Int × List Int)} {h h' : List Int} {k : Nat} (hN : NetOk n w ms) (hl : h.length = n) (h0 : ∀ x ∈ h, 0 ≤ x) (e : stepR ms h k = some h') : ∀ x ∈ h', 0 ≤ x := by
  obtain ⟨m, hm, ho, rfl⟩ := step_some e
  obtain ⟨r1, r2⟩ := hN.rows m (List.mem_of_getElem? hm)
  intro x hx
  unfold ledR at hx
  obtain ⟨j, hj, rfl⟩ := List.mem_map.mp hx
  have hj' := List.mem_range.mp hj
  have h1 := overB_iff.mp ho j (by rw [r1.1, ← hl]; exact hj')
  have h2 := (r2.2 (m.2.getD j 0) (by rw [List.getD_eq_getElem?_getD, List.getElem?_eq_getElem (by rw [r2.1, ← hl]; exact hj')]; exact List.getElem_mem _)).1
  omega
theorem cln_nats : ∀ r : List Nat, clnAll (r.map fun (k : Nat) => PyData.int k) = true
  | [] => rfl
  | _ :: r => by
    show (true && clnAll (r.map fun (k : Nat) => PyData.int k)) = true
    rw [cln_nats r]
    rfl
theorem eqv_ints : ∀ a b : List Int, PyData.eqvAll (a.map .int) (b.map .int) = decide (a = b)
  | [], [] => rfl
  | [], _ :: _ => rfl
  | _ :: _, [] => rfl
  | x :: a, y :: b => by
    show (PyData.eqv (.int x) (.int y) && PyData.eqvAll (a.map .int) (b.map .int)) = _
    rw [eqv_int, eqv_ints a b]
    by_cases h : x = y <;> by_cases h2 : a = b <;> simp [h, h2]
theorem eqv_row (a b : List Int) : PyData.eqv (rowD a) (rowD b) = decide (a = b) := eqv_ints a b
end Tw

/-! Tw8: try: f(..) except X: ..; except X as e: r = r + int(isinstance(e, ValueError)). -/
namespace Tw
open PySem PySem.Spec PyProof.Rows L2 PyProof
/-- isinstance of the error that the suite holds at a -/
def rIsX (K : PySem.W.Frag) (a : Addr) (cls : Value) (d : Option Addr) : List V → Hp → VK → Prop := fun xs H Q => ∃ D, cls = .ref D ∧ d = none ∧ ExcC K D ∧ rIsE K D a xs H Q
theorem call_isX {X : Cx} {a : Addr} {cls : Value} {d : Option Addr} {oe : Obj} {pn : List (Addr × Obj)} (hz : Zc cls d oe) (hf : ∃ vs, oe.data = .fields vs) : CallR (X.suite a ((a, oe) :: pn)) (.builtin "isinstance") (rIsX X.K a cls d) := by
  intro pins s σ H xs us Q I r h
  obtain ⟨D, rfl, rfl, C, q⟩ := h
  exact call_isE C hz hf pins s σ H xs us Q I r q
def tTryA (K : PySem.W.Frag) (c : Value) (body : WX → TS) (suite : TS) : TS := fun D σ H => body (wOnly K c (fun _ _ _ => suite) (fun _ _ _ _ => False) D) D σ H
def tTryB (K : PySem.W.Frag) (c : Value) (i : Nat) (body : WX → TS) (suite : Addr → Value → Option Addr → TS) : TS := fun D σ H => body (wAs K c i suite (fun _ _ _ _ => False) D) D σ H
section
variable {X : Cx} {x : Str} {c : Value} {body suite : List Stmt} {b₀ : Stmt} {np pos pos' : Pos} {tb : WX → TS} {su : TS} {ts : Addr → Value → Option Addr → TS} {i : Nat} {n : Str}
theorem ps_tryA (hs : X.stack = X.env :: X.outer) (hf : X.env.frame = some X.env.locals) (hc : Names X x c)
    (hb : ∀ (W : WX) (pn : List (Addr × Obj)) (xe : Value → Shared → Prop), Takes (X.tr pn xe) W → PassesOwn (model X.prog X.w) X.A X.env xe → PSs (X.tr pn xe) body (tb W))
    (hsu : ∀ (a : Addr) (oe : Obj) (cls : Value) (d : Option Addr) (pn : List (Addr × Obj)), Zc cls d oe → (∃ vs, oe.data = .fields vs) → PSs (X.suite a ((a, oe) :: pn)) (b₀ :: suite) su) :
    PS X (.Try body [.ExceptHandler (some (.Name x np)) none (b₀ :: suite) pos'] [] [] pos) (tTryA X.K c tb su) := ps_try_only (ts := fun _ _ _ => su) hs hf hc takes0 hb hsu
theorem ps_tryB (hs : X.stack = X.env :: X.outer) (hf : X.env.frame = some X.env.locals) (hN : X.N.Nodup) (hi : X.N[i]? = some n) (hln : X.env.kindOf n = some .local) (hc : Names X x c)
    (hb : ∀ (W : WX) (pn : List (Addr × Obj)) (xe : Value → Shared → Prop), Takes (X.tr pn xe) W → PassesOwn (model X.prog X.w) X.A X.env xe → PSs (X.tr pn xe) body (tb W))
    (hsu : ∀ (a : Addr) (oe : Obj) (cls : Value) (d : Option Addr) (pn : List (Addr × Obj)), Zc cls d oe → (∃ vs, oe.data = .fields vs) → PSs (X.suite a ((a, oe) :: pn)) (b₀ :: suite) (ts a cls d)) :
    PS X (.Try body [.ExceptHandler (some (.Name x np)) (some n) (b₀ :: suite) pos'] [] [] pos) (tTryB X.K c i tb ts) := ps_try_as hs hf hN hi hln hc takes0 hb hsu
end
/-- what the kit must say of the error class D, of ValueError and of the class T over it -/
structure ErrF (K : PySem.W.Frag) (D T : Addr) : Prop where
  C : ExcC K D
  ve : PySem.W.kitOne K (.ref D) (.type "ValueError") = some true
  own : PySem.W.exmOne K (.ref D) (.ref D) = some true
  top : PySem.W.exmOne K (.ref D) (.ref T) = some true
theorem errF_of {K : PySem.W.Frag} {D T : Addr} (C : ExcC K D) (tD : PySem.W.typeIn K (.ref D) = some (.type "type")) (sv : PySem.W.subIn K (.ref D) (.type "ValueError") = some true) (sD : PySem.W.subIn K (.ref D) (.ref D) = some true)
    (bT : PySem.W.subIn K (.ref T) (.type "BaseException") = some true) (dT : PySem.W.hasDictIn K T = true) (tT : PySem.W.typeIn K (.ref T) = some (.type "type")) (sT : PySem.W.subIn K (.ref D) (.ref T) = some true) : ErrF K D T where
  C := C
  ve := by
    show (if ((Value.ref D == Value.type "ValueError") = true) then some true else if PySem.W.kitMeta "ValueError" = true then PySem.W.subIn K (.ref D) (.type "ValueError") else none) = some true
    rw [if_neg (by intro h; cases (beq_iff_eq.mp h)), if_pos (by decide +kernel)]
    exact sv
  own := PySem.W.exm_ref C.hs C.hd tD sD
  top := PySem.W.exm_ref bT dT tT sT
section
variable {K : PySem.W.Frag} {E : XK} {δ : List Sl} {xs : List PyData} {x : PyData} {ta : TA} {F : List PyData → Out → Prop} {cl c : Value} {su : TS} {P : Out → Prop} {D T : Addr}
theorem as_tryA_ok (ha : EvA K ta δ xs) (hF : F xs (.rt x)) (k : P (.nx δ)) : As K E (tTryA K c (fun W => tDrop (tCallS (SpD K F) (WE W) ta)) su) δ P := fun G I0 σ H I D n r cv =>
  as_drop (ev_call (W := wOnly K c (fun _ _ _ => su) (fun _ _ _ _ => False) D) ha hF) k G I0 σ H I D n r cv
theorem as_tryB_ok {i : Nat} {sb : Addr → Value → Option Addr → TS} (ha : EvA K ta δ xs) (hF : F xs (.rt x)) (k : P (.nx δ)) : As K E (tTryB K c i (fun W => tDrop (tCallS (SpD K F) (WE W) ta)) sb) δ P := fun G I0 σ H I D n r cv =>
  as_drop (ev_call (W := wAs K c i sb (fun _ _ _ _ => False) D) ha hF) k G I0 σ H I D n r cv
theorem nx_same {H I H' : Hp} (s : Same I H) (e : Same H H') : Nx H I H' I := ⟨e, Same.refl _, s.trans e, fun _ _ _ z => z⟩
theorem as_tryA_ex (ha : EvA K ta δ xs) (hF : F xs (.ex cl)) (he : PySem.W.exmOne K cl c = some true) (hs : As K E su δ P) : As K E (tTryA K c (fun W => tDrop (tCallS (SpD K F) (WE W) ta)) su) δ P := fun G I0 σ H I D n r cv =>
  ha G σ H I n.s n.h r _ fun vs H1 I1 n1 r1 => ⟨I1, xs, .ex cl, n1.s, r1, hF, fun H2 e => ⟨true, he, fun _ a _ => hs G I0 σ H2 I1 D ((n.trans n1).trans (nx_same n1.s e)) (r.next (n1.trans (nx_same n1.s e))) cv, fun z => nomatch z⟩⟩
theorem as_tryB_ex {i q : Nat} {m : Int} (ha : EvA K ta δ xs) (hF : F xs (.ex (.ref D))) (hE : ErrF K D T) (hq : δ[q]? = some (.d (.int m))) (hi : i < δ.length) (hiq : i ≠ q) (k : P (.nx ((δ.set q (.d (.int (m + 1)))).set i .no))) :
    As K E (tTryB K (.ref T) i (fun W => tDrop (tCallS (SpD K F) (WE W) ta)) (fun a cls d => tAsg (tOp (rAddA K) (tVar q) (tCB rIntA (tCons (tCB (rIsX K a cls d) (tCons (tVar i) (tCons (tC (.ty "ValueError")) tNil))) tNil))) (gName q))) δ P := fun G I0 σ H I D' n r cv =>
  ha G σ H I n.s n.h r _ fun vs H1 I1 n1 r1 => ⟨I1, xs, .ex (.ref D), n1.s, r1, hF, fun H2 e => ⟨true, hE.top, fun _ a _ => by
    have r2 := r.next (n1.trans (nx_same n1.s e))
    have n2 := (n.trans n1).trans (nx_same n1.s e)
    obtain ⟨v, e1, rv⟩ := r2.d q _ hq
    cases rv
    have hl := r2.len
    have h1 : (σ.set i (some (V.ref a)))[q]? = some (some (.int m)) := by rw [List.getElem?_set_ne hiq]; exact e1
    have h2 : (σ.set i (some (V.ref a)))[i]? = some (some (.ref a)) := List.getElem?_set_self (by omega)
    refine ⟨_, h1, ?_⟩
    refine ⟨_, h2, D, rfl, rfl, hE.C, .ty "ValueError", .type "ValueError", true, rfl, fun u ru => ru, hE.ve, ?_⟩
    refine .inr ⟨true, rfl, ?_⟩
    refine .inl ⟨_, _, rfl, rfl, ?_⟩
    refine cv.nx _ _ _ _ k n2 ?_
    have r3 : RelS K G H2 I1 (σ.set q (some (.int (m + 1)))) (δ.set q (.d (.int (m + 1)))) := r2.put (.int _)
    have r4 := r3.none (i := i) (o := none)
    have ec : ((σ.set i (some (V.ref a))).set q (some (.int (m + 1)))).set i none = (σ.set q (some (.int (m + 1)))).set i none := by
      rw [List.set_comm _ _ hiq, List.set_set]
    show RelS K G H2 I1 (((σ.set i (some (V.ref a))).set q (some (.int (m + 1)))).set i none) _
    rw [ec]
    exact r4, fun z => nomatch z⟩⟩
end
end Tw

/-! Tw9: a tuple times 0, times 1. -/
namespace Tw
open PySem PySem.Spec PyProof.Rows L2 PyProof
theorem tuple_mul1 (l : Addr) (items : Array Value) (n : Nat) (dd : Option Addr) (sl : Array (Option Value)) (u : Tok) :
    Meets (Builtin.«tuple.__mul__» ⟨[.ref l, .int 1 u], []⟩) (fun _ R s => s.heap.get? l = some { cls := .type "tuple", dict := dd, data := .seq items n, slots := sl } ∧
      R (.ok (.ret (Value.ref l))) s) :=
  .of_wp fun prog w A R s h => by
    obtain ⟨hp, g, d, tk, os⟩ := s
    obtain ⟨hl, h⟩ := h
    have f1 := AutoSeq1.idx_int
    have c0 : (decide ((1 : Int) < -(2 ^ 63)) || decide ((1 : Int) ≥ 2 ^ 63)) = false := by decide
    have c1 : (items.isEmpty || (1 : Int) == 1) = true := by rw [Bool.or_eq_true]; exact .inr rfl
    wp_walk using wpAny_loadPart' hl
    repeat (first
      | (refine wpAny_ite_false (decide_eq_false (by rw [c0]; exact Bool.false_ne_true)) ?_; wp_walk using wpAny_loadPart' hl)
      | (refine wpAny_ite_true (decide_eq_true c1) ?_; wp_walk using wpAny_loadPart' hl)
      | (refine wpAny_ite_true (decide_eq_true rfl) ?_; wp_walk using wpAny_loadPart' hl))
    exact ⟨_, rfl, h⟩
theorem tuple_mul0 (l : Addr) (items : Array Value) (n : Nat) (dd : Option Addr) (sl : Array (Option Value)) (u : Tok) (c : items.isEmpty = false) :
    Meets (Builtin.«tuple.__mul__» ⟨[.ref l, .int 0 u], []⟩) (fun _ R s => s.heap.get? l = some { cls := .type "tuple", dict := dd, data := .seq items n, slots := sl } ∧
      R (.ok (.ret (Value.ref s.heap.objs.size))) { s with heap := s.heap.push { cls := Value.type "tuple", data := Data.seq #[] }, toks := s.toks }) :=
  .of_wp fun prog w A R s h => by
    obtain ⟨hp, g, d, tk, os⟩ := s
    obtain ⟨hl, h⟩ := h
    have f1 := AutoSeq1.idx_int
    have c0 : (decide ((0 : Int) < -(2 ^ 63)) || decide ((0 : Int) ≥ 2 ^ 63)) = false := by decide
    have c1 : (items.isEmpty || (0 : Int) == 1) = false := by rw [c] <;> rfl
    have c2 : (decide ((0 : Int) ≤ 0) || items.isEmpty) = true := by rw [Bool.or_eq_true]; exact .inl (by decide)
    wp_walk using wpAny_loadPart' hl
    repeat (first
      | (refine wpAny_ite_false (decide_eq_false (by rw [c0]; exact Bool.false_ne_true)) ?_; wp_walk using wpAny_loadPart' hl)
      | (refine wpAny_ite_false (decide_eq_false (by rw [c1]; exact Bool.false_ne_true)) ?_; wp_walk using wpAny_loadPart' hl)
      | (refine wpAny_ite_true (decide_eq_true c2) ?_; wp_walk using wpAny_loadPart' hl)
      | (refine wpAny_ite_false (decide_eq_false (Nat.not_lt.mpr (Nat.zero_le _))) ?_; wp_walk using wpAny_loadPart' hl))
    exact ⟨_, rfl, h⟩
/-- a tuple times 0 (it is not empty) or 1 -/
def rRepS (K : PySem.W.Frag) : R2 := fun x y H Q => ∃ l xs, x = .ref l ∧ SqT K H l xs ∧ ((y = .int 1 ∧ Q (.ref l) H) ∨ (y = .int 0 ∧ xs ≠ [] ∧ ∀ p, H p = none → Q (.ref p) (upd H p (.tup []))))
section
variable {X : Cx}
theorem op_repS : OpR X (binaryOp .Mult) (rRepS X.K) := by
  intro pins s σ H x y v u Q I rx ry h
  obtain ⟨l, xs, rfl, hT, q⟩ := h
  cases rx
  rcases q with ⟨rfl, q⟩ | ⟨rfl, hne, q⟩
  · obtain ⟨t, rfl⟩ := ry
    obtain ⟨its, r, ⟨⟨cls, dd, data, sl⟩, ho, hc, n, hd⟩, hs⟩ := I.tuple hT
    simp only at hc hd
    subst hc hd
    refine wpAny_binaryOp_repeat_ref (T := "tuple") (U := "int") (by decide) ⟨_, ho, rfl⟩ (fun s' => typeIs_int s' 1 t) noFill_tuple_mul F.fills_int_mul F.slot_int_rmul repeat_tuple F.slot_int_index.lookup
      (call_meets F.slot_int_rmul (typeIs_int s 1 t) F.entry_int_rmul (F.args_int_rmul_2 _ _) (int_rmul_tuple 1 t l its.toArray n dd sl)
        ⟨ho, rfl, ⟨_, ho, rfl⟩, call_meets F.slot_tuple_mul ⟨_, ho, rfl⟩ F.entry_tuple_mul (F.args_tuple_mul_2 _ _) (tuple_mul1 l its.toArray n dd sl t) ⟨ho, ?_⟩⟩)
    exact ⟨.ref l, H, I, rfl, q⟩
  · obtain ⟨t, rfl⟩ := ry
    obtain ⟨its, r, ⟨⟨cls, dd, data, sl⟩, ho, hc, n, hd⟩, hs⟩ := I.tuple hT
    simp only at hc hd
    subst hc hd
    have hle : its.length = xs.length := r.length.symm
    have hi : its.toArray.isEmpty = false := by
      cases its with
      | nil => exact absurd (List.eq_nil_of_length_eq_zero hle.symm) hne
      | cons a b => rfl
    refine wpAny_binaryOp_repeat_ref (T := "tuple") (U := "int") (by decide) ⟨_, ho, rfl⟩ (fun s' => typeIs_int s' 0 t) noFill_tuple_mul F.fills_int_mul F.slot_int_rmul repeat_tuple F.slot_int_index.lookup
      (call_meets F.slot_int_rmul (typeIs_int s 0 t) F.entry_int_rmul (F.args_int_rmul_2 _ _) (int_rmul_tuple 0 t l its.toArray n dd sl)
        ⟨ho, rfl, ⟨_, ho, rfl⟩, call_meets F.slot_tuple_mul ⟨_, ho, rfl⟩ F.entry_tuple_mul (F.args_tuple_mul_2 _ _) (tuple_mul0 l its.toArray n dd sl t hi) ⟨ho, ?_⟩⟩)
    refine ⟨.ref s.heap.objs.size, _, I.laid (t' := s.toks) (o := .tup []) (fun b ob q => Heap.get?_push_of_some _ q) (Nat.le_refl _) ?_, rfl, q _ (I.hok.fresh (Nat.le_refl _))⟩
    exact ⟨Nat.zero_le _, _, .nil, IsTup.new _ _⟩
end
def rMulT (K : PySem.W.Frag) : R2 := fun x y H Q => rMulA K x y H Q ∨ rRepS K x y H Q
theorem opMulT {X : Cx} : OpR X (binaryOp .Mult) (rMulT X.K) := OpR.or opMul op_repS
section
variable {K : PySem.W.Frag} {xs : List PyData} {j : Int} {x y z : PyData}
theorem rd_mulA (h : R2D K (rMulA K) x y z) : R2D K (rMulT K) x y z := fun H I v u s r1 r2 Q q => .inl (h H I v u s r1 r2 Q q)
/-- a tuple that is not empty, times j -/
theorem rd_repT (h1 : xs ≠ []) (h2 : 0 ≤ j) (h3 : j ≤ 1000) (h4 : xs.length ≤ 1000) : R2D K (rMulT K) (.tuple xs) (.int j) (.tuple (List.replicate j.toNat xs).flatten) := fun H I v u s r1 r2 Q q => by
  by_cases g2 : 2 ≤ j
  · exact .inl (rd_rep h1 g2 h3 h4 H I v u s r1 r2 Q q)
  · cases r1 with
    | tup e1 a1 =>
      cases r2
      by_cases g1 : j = 1
      · subst g1
        refine .inr ⟨_, _, rfl, .of (s _ _ e1), .inl ⟨rfl, q _ H I (Nx.refl s) ?_⟩⟩
        have e : (List.replicate (1 : Int).toNat xs).flatten = xs := by simp
        rw [e]
        exact .tup e1 a1
      · have g0 : j = 0 := by omega
        subst g0
        refine .inr ⟨_, _, rfl, .of (s _ _ e1), .inr ⟨rfl, fun z => h1 ?_, fun p hp => q _ _ _ (Nx.new s hp) (.tup upd_same .nil)⟩⟩
        have := a1.length
        rw [z] at this
        exact List.eq_nil_of_length_eq_zero this.symm
end
end Tw

/-! Tw10: Stuck: an own error with an own __init__ that calls its base's; its field read in an except suite. -/
namespace Tw
open PySem PySem.Spec PyProof.Rows L2 PyProof
def atN : Str := "at"
/-- what the kit must say of Stuck at C, of TokenError at T over it, of Stuck's __init__ at fI -/
structure StuckF (K : PySem.W.Frag) (C T fI : Addr) : Prop where
  o : OexC K C
  no : PySem.W.findIn K (.ref C) "at" = some none
  iC : PySem.W.findIn K (.ref C) "__init__" = some (some (.ref fI))
  tI : PySem.W.typeIn K (.ref fI) = some (.type "function")
  rd : PySem.W.readsIn K T (.type "type") = true
  sg : PySem.W.specialIn K (.ref T) "__getattribute__" = some (some (.builtin "type.__getattribute__"))
  ty : PySem.W.typeIn K (.ref T) = some (.type "type")
  fc : PySem.W.findCls K (.ref T) (.type "type") "__init__" = some (.val (.builtin "ValueError.__init__"))
  E : ExcC K C
  kT : PySem.W.kitOne K (.ref C) (.ref T) = some true
  kV : PySem.W.kitOne K (.ref C) (.type "ValueError") = some true
  ex : PySem.W.exmOne K (.ref C) (.ref C) = some true
theorem StuckF.X {K : PySem.W.Frag} {C T fI : Addr} (h : StuckF K C T fI) : XfC K C := ⟨h.E.hg, h.E.hk, h.E.hs, h.E.hd⟩
theorem stuckF_of {K : PySem.W.Frag} {C T fI : Addr} (o : OexC K C) (no : PySem.W.findIn K (.ref C) "at" = some none) (iC : PySem.W.findIn K (.ref C) "__init__" = some (some (.ref fI))) (tI : PySem.W.typeIn K (.ref fI) = some (.type "function"))
    (rd : PySem.W.readsIn K T (.type "type") = true) (sg : PySem.W.specialIn K (.ref T) "__getattribute__" = some (some (.builtin "type.__getattribute__"))) (ty : PySem.W.typeIn K (.ref T) = some (.type "type")) (fc : PySem.W.findCls K (.ref T) (.type "type") "__init__" = some (.val (.builtin "ValueError.__init__")))
    (E : ExcC K C) (dT : PySem.W.hasDictIn K T = true) (sT : PySem.W.subIn K (.ref C) (.ref T) = some true) (sV : PySem.W.subIn K (.ref C) (.type "ValueError") = some true) (sC : PySem.W.subIn K (.ref C) (.ref C) = some true) : StuckF K C T fI where
  o := o
  no := no
  iC := iC
  tI := tI
  rd := rd
  sg := sg
  ty := ty
  fc := fc
  E := E
  kT := by
    obtain ⟨cd, hc, _⟩ := PySem.W.any_some dT
    show (if ((Value.ref C == Value.ref T) = true) then some true else if ((PySem.W.clsIn K T).isSome && PySem.W.typeIn K (.ref T) == some (.type "type")) = true then PySem.W.subIn K (.ref C) (.ref T) else none) = some true
    rw [hc, ty, sT]
    split
    · rfl
    · rw [if_pos (by rfl)]
  kV := by
    show (if ((Value.ref C == Value.type "ValueError") = true) then some true else if PySem.W.kitMeta "ValueError" = true then PySem.W.subIn K (.ref C) (.type "ValueError") else none) = some true
    rw [if_neg (by intro h; cases (beq_iff_eq.mp h)), if_pos (by decide +kernel)]
    exact sV
  ex := PySem.W.exm_ref E.hs E.hd o.tyC sC
section
variable {X : Cx} {e : Expr} {es : List Expr} {ta : TA} {x : Str} {T : Addr} {p1 p2 pos : Pos}
/-- T.__init__(self, ..), T an own class that has ValueError's -/
theorem pe_oinit {pl : Sem Bool} (hg : Gl X x) (hm : X.mg x = some (.ref T)) (rd : PySem.W.readsIn X.K T (.type "type") = true) (sg : PySem.W.specialIn X.K (.ref T) "__getattribute__" = some (some (.builtin "type.__getattribute__"))) (ty : PySem.W.typeIn X.K (.ref T) = some (.type "type"))
    (fc : PySem.W.findCls X.K (.ref T) (.type "type") "__init__" = some (.val (.builtin "ValueError.__init__"))) (ha : PA X (e :: es) ta) (hdb : (x == ("__debug__" : Str)) = false := by decide)
    (hc : eval (.Call (.Attribute (.Name x p1) "__init__" p2) (e :: es) [] pos) X.env = (do
      let ov ← eval (.Name x p1) X.env
      standAt p2.atName
      let (f, first) ← holding [ov] (getMethod ov "__init__" pl)
      callWith pos f first (backTo pos (starEach (e :: es) X.env)) (backToKw pos (keywordEach [] X.env))) := by rfl)
    (he : starEach (e :: es) X.env = (false, eval e X.env) :: starEach es X.env := by rfl) (hpl : (backTo pos (starEach es X.env)).any (·.1) = false := by rfl) :
    PE X (.Call (.Attribute (.Name x p1) "__init__" p2) (e :: es) [] pos) (tVeI X.K ta) := by
  refine ⟨fun pins s σ H Q I h => ?_⟩
  refine PySem.W.methodCall_KW (ld_glob I hg hm ?_ hdb) hc
  obtain ⟨m, fr⟩ := I.fr
  refine PySem.W.method_of_cls fr I.ok.mod.kin sg (PySem.W.cls_val fr I.ok.mod.kin ty rd fc (by decide +kernel) ?_)
  show wpAny _ _ (callWith pos (Value.builtin "ValueError.__init__") [] (backTo pos (starEach (e :: es) X.env)) []) _ _ _
  refine PyProof.Rows.callWith_method1 (thn (ha.run pos pins _ σ H _ (I.tok _) h) fun us s1 ⟨vs, H1, I1, r1, a, C, ws, ev, hl, T, ea, q⟩ => ?_) he hpl
  subst ev
  cases r1 with
  | @cons _ u0 _ ur ra rw' =>
    obtain rfl : u0 = Value.ref a := ra
    have hlen : ur.length ≤ sizeLine := by
      rw [← Paired.length rw', sizeLine_eq]
      omega
    exact oinit_ok T I1 ea hlen fun s' J => ⟨.non, H1, J, rfl, q⟩
end
/-- Stuck.__init__(self, at): the field at is set, nothing else -/
def spI (K : PySem.W.Frag) : Sp := fun vs H Q _ => ∃ (a C : Addr) (k : Int), vs = [.ref a, .int k] ∧ OexC K C ∧ PySem.W.findIn K (.ref C) "at" = some none ∧ H a = some (exo a C none) ∧
  ∀ dx, H dx = none → dx ≠ a → Q .non (upd (upd H dx (exd dx [("at", .int k)])) a (exo a C (some dx)))
/-- raise Stuck(e) -/
def tRzO (K : PySem.W.Frag) (C : Addr) (W : WX) (ta : TA) : TS := fun _ σ H => tMkO C (spI K) [] ta σ H fun cls d H' => W cls d σ H'
def t_init (K : PySem.W.Frag) : TS := tSeq (tDrop (tVeI K (tCons (tVar 0) (tCons (tC (.str (PySem.Str.ofString "a move can't be made"))) tNil)))) (tOst K "at" (tVar 0) (tVar 1))
theorem spI_len {K : PySem.W.Frag} : ∀ vs H Q E, spI K vs H Q E → vs.length = 2 := fun _ _ _ _ ⟨_, _, _, h, _⟩ => by rw [h]; rfl
theorem spI_body {K : PySem.W.Frag} {vs : List V} {H : Hp} {Q : VK} {E : XK} {N : List Str} (h : spI K vs H Q E) : t_init K { nx := fun _ H' => Q .non H', rt := Q } (L2.start N vs) H := by
  obtain ⟨a, C, k, rfl, o, no, ea, q⟩ := h
  refine ⟨.ref a, rfl, ?_⟩
  refine ⟨a, C, [.str (PySem.Str.ofString "a move can't be made")], rfl, by decide, o, ea, ?_⟩
  refine ⟨.int k, rfl, .ref a, rfl, a, C, rfl, o, no, .inl ⟨ea, fun dx h1 h2 => q dx h1 h2⟩⟩
section
variable {K : PySem.W.Frag} {E : XK} {δ : List Sl} {te : TE} {P : Out → Prop} {C : Addr} {k : Int}
theorem as_rzO (he : Ev K te δ (.int k)) (hC : OexC K C) (hno : PySem.W.findIn K (.ref C) "at" = some none) (kP : P (.exd (.ref C) [("at", .int k)])) : As K E (tRzO K C (fun cls d _ H => E cls d H) (tCons te tNil)) δ P := fun G I0 σ H I D n r c => by
    unfold tRzO tMkO
    refine (ea_cons he ea_nil) G σ H I n.s n.h r _ fun vs H1 I1 n1 r1 => ?_
    cases r1 with
    | cons rx rr =>
      cases rr
      cases rx
      refine ⟨by show 1 ≤ 1000; decide, fun a ha => ⟨a, C, k, rfl, hC, hno, upd_same, fun dx hdx hne => ?_⟩⟩
      have h1 : H1 dx = none := by rw [upd_ne hne] at hdx; exact hdx
      refine ⟨rfl, dx, [("at", .int k)], upd_same, by rw [upd_ne hne, upd_same], h1, ?_⟩
      refine c.exd (.ref C) [("at", .int k)] dx _ kP (fun p o hp => ?_) upd_same
      have hp1 := n1.h p o (n.h p o hp)
      have pa : p ≠ a := fun z => by rw [z, ha] at hp1; cases hp1
      have pd : p ≠ dx := fun z => by rw [z, h1] at hp1; cases hp1
      rw [upd_ne pd, del_ne pa, upd_ne pa, upd_ne pd, upd_ne pa]
      exact hp1
end
/-- isinstance of the error that the suite holds at a, its dict known -/
def rIsY (K : PySem.W.Frag) (a : Addr) (cls : Value) (d : Option Addr) : List V → Hp → VK → Prop := fun xs H Q => ∃ (D dd : Addr) (fs : List (Str × V)) (c : V) (cv : Value) (b : Bool), cls = .ref D ∧ d = some dd ∧ H dd = some (.xd fs) ∧ ExcC K D ∧
  xs = [.ref a, c] ∧ (∀ u, RelV c u → u = cv) ∧ PySem.W.kitOne K (.ref D) cv = some b ∧ Q (.bl b) H
theorem call_isY {X : Cx} {a : Addr} {cls : Value} {d : Option Addr} {oe : Obj} {pn : List (Addr × Obj)} (hz : Zc cls d oe) (hf : ∃ vs, oe.data = .fields vs) : CallR (X.suite a ((a, oe) :: pn)) (.builtin "isinstance") (rIsY X.K a cls d) := by
  intro pins s σ H xs us Q I r h
  obtain ⟨D, dd, fs, c, cv, b, rfl, rfl, hdd, C, rfl, hcv, e, q⟩ := h
  cases r with
  | cons rx rr =>
    cases rr with
    | cons rt rr =>
      cases rr
      cases rx
      have ec := hcv _ rt
      subst ec
      obtain ⟨hget, _⟩ := I.pin (a, oe) (List.mem_append.mpr (.inl List.mem_cons_self))
      obtain ⟨vs, hv⟩ := hf
      have hx : ObjOk X.prog X.w H s.heap dd (.xd fs) := I.hok dd _ hdd
      obtain ⟨mA, hns, hr⟩ := hx
      obtain ⟨od, ho, hl⟩ := lookIn_ns hns
      have J : PySem.W.InstAt s.heap a oe D (some od) := ⟨hget, hz.1, by unfold PySem.W.notCls; rw [hv] <;> rfl, by rw [hz.2]; exact ho⟩
      have hcl : (PySem.W.clsIn X.K D).isSome = true := by
        obtain ⟨cd, hc, _⟩ := PySem.W.any_some C.hd
        rw [hc]
        rfl
      exact PySem.W.kia_one (PySem.W.kitx_exc hcl C.hg C.hk C.hs C.ha C.hn C.ht C.hm) I.kIn J e (fun z => nomatch z) fun tk => ⟨.bl b, H, I.kept (t' := tk) fun _ _ z => z, rfl, q⟩
theorem ite_t {A B : Prop} (h : A) : if true = true then A else B := by rw [if_pos rfl]; exact h
section
variable {K : PySem.W.Frag} {E : XK} {δ : List Sl} {xs : List PyData} {x : PyData} {ta : TA} {F : List PyData → Out → Prop} {P : Out → Prop} {C T fI : Addr} {c : Value} {i q : Nat} {k : Int} {z : Str}
theorem as_tryC_ok {sb : Addr → Value → Option Addr → TS} (ha : EvA K ta δ xs) (hF : F xs (.rt x)) (kP : P (.nx (δ.set q (.d x)))) : As K E (tTryB K c i (fun W => tAsg (tCallS (SpD K F) (WE W) ta) (gName q)) sb) δ P := fun G I0 σ H I D n r cv =>
  as_set (ev_call (W := wAs K c i sb (fun _ _ _ _ => False) D) ha hF) kP G I0 σ H I D n r cv
theorem as_tryC_ex (ha : EvA K ta δ xs) (hF : F xs (.exd (.ref C) [("at", .int k)])) (hS : StuckF K C T fI) (hi : i < δ.length) (hiq : i ≠ q) (kP : P (.nx ((δ.set q (.d (.tuple [.str z, .int k]))).set i .no))) :
    As K E (tTryB K (.ref C) i (fun W => tAsg (tCallS (SpD K F) (WE W) ta) (gName q)) (fun a cls d => tIfS (tAnd (tB (tCB (rIsY K a cls d) (tCons (tVar i) (tCons (tC (.ref T)) tNil)))) (tB (tCB (rIsY K a cls d) (tCons (tVar i) (tCons (tC (.ty "ValueError")) tNil)))))
      (tAsg (tTup (tCons (tC (.str z)) (tCons (tXf a cls d C "at" (tVar i)) tNil))) (gName q)) tNext)) δ P := fun G I0 σ H I D' n r cv =>
  ha G σ H I n.s n.h r _ fun vs H1 I1 n1 r1 => ⟨I1, xs, .exd (.ref C) [("at", .int k)], n1.s, r1, hF, fun dd H2 e hdd => ⟨true, hS.ex, fun _ a _ => by
    have r2 := r.next (n1.trans (nx_same n1.s e))
    have n2 := (n.trans n1).trans (nx_same n1.s e)
    have hl := r2.len
    have h2 : (σ.set i (some (V.ref a)))[i]? = some (some (.ref a)) := List.getElem?_set_self (by omega)
    refine ⟨_, h2, C, dd, _, .ref T, .ref T, true, rfl, rfl, hdd, hS.E, rfl, fun u ru => ru, hS.kT, true, rfl, ite_t ?_⟩
    refine ⟨_, h2, C, dd, _, .ty "ValueError", .type "ValueError", true, rfl, rfl, hdd, hS.E, rfl, fun u ru => ru, hS.kV, true, rfl, ite_t ?_⟩
    refine ⟨_, h2, rfl, rfl, dd, _, .int k, rfl, hdd, by simp [List.lookup], ?_⟩
    refine ⟨by show 2 ≤ sizeLine; decide, fun p hp => ?_⟩
    have n3 : Nx H2 I1 (upd H2 p (.tup [.str z, .int k])) (upd I1 p (.tup [.str z, .int k])) := Nx.new n2.s hp
    have r3 : RelS K G (upd H2 p (.tup [.str z, .int k])) (upd I1 p (.tup [.str z, .int k])) (σ.set q (some (.ref p))) (δ.set q (.d (.tuple [.str z, .int k]))) := (r2.next n3).put (.tup upd_same (.cons (.str _) (.cons (.int _) .nil)))
    have r4 := r3.none (i := i) (o := none)
    refine cv.nx _ _ _ _ kP (n2.trans n3) ?_
    have ec : ((σ.set i (some (V.ref a))).set q (some (.ref p))).set i none = (σ.set q (some (.ref p))).set i none := by
      rw [List.set_comm _ _ hiq, List.set_set]
    show RelS K G _ _ (((σ.set i (some (V.ref a))).set q (some (.ref p))).set i none) _
    rw [ec]
    exact r4, fun z => nomatch z⟩⟩
end
end Tw

/-! Tw11: sorted(set(xs)) of a list of ints; in, not in such a list. -/
namespace Tw
open PySem PySem.Spec PyProof.Rows L2 PyProof
section
variable {P : Program} {w : World} {A : Around} {E : Value → Shared → Prop} {s : Shared}
/-- the empty set, as it is made -/
abbrev noneYet (w : World) : Obj := { cls := .type "set", dict := none, data := .set #[] 0 (.fresh 0 0 (!w.params.followText "set-order")) }
/-- the loop that fills the new set from a list of ints -/
theorem fill_list {l : Addr} {items : Array Value} (ns : List Int) {R : Result → Shared → Prop} (hh : A.handled = none) (hl : s.heap.IsList l items) (hit : IntsAre items.toList ns) (hb : ns.length + 1 < scanBound) (hR : ∀ (h' : Heap) (tk c : Nat), SetR w h' s.heap.objs.size (fun j => decide (j ∈ ns)) c → c ≤ ns.length →
      (∀ b o, s.heap.get? b = some o → h'.get? b = some o) → R (.ok (.ret .none)) { s with heap := h', toks := tk }) :
    codeAny (model P w) A (.builtin "set.update.loop" ⟨[.ref s.heap.objs.size, .ref (s.heap.objs.size + 1)], []⟩) R { s with heap := (s.heap.push (noneYet w)).push { cls := .type "list_iterator", data := .fields #[.ref l, .int 0 0] } } := by
  have hlen : items.size = ns.length := by
    have := IntsAre.length hit
    rwa [Array.length_toList] at this
  have hlS : l < s.heap.objs.size := by
    obtain ⟨o, ho, _⟩ := hl
    exact Heap.lt_size ho
  have z1 : (s.heap.push (noneYet w)).objs.size = s.heap.objs.size + 1 := Heap.size_push ..
  have gS : ((s.heap.push (noneYet w)).push { cls := .type "list_iterator", data := .fields #[.ref l, .int 0 0] }).get? s.heap.objs.size = some (noneYet w) := Heap.get?_push_of_some _ (Heap.get?_push_size _ rfl)
  have gI : ((s.heap.push (noneYet w)).push { cls := .type "list_iterator", data := .fields #[.ref l, .int 0 0] }).get? (s.heap.objs.size + 1) = some { cls := .type "list_iterator", data := .fields #[.ref l, .int 0 0] } := by
    rw [← z1]
    exact Heap.get?_push_size _ rfl
  have gl : ((s.heap.push (noneYet w)).push { cls := .type "list_iterator", data := .fields #[.ref l, .int 0 0] }).IsList l items := (hl.push _).push _
  refine set_update_ints ((Walks.list (A := A.in1) (by simp [hh]) (s.heap.objs.size + 1) l (Nat.ne_of_lt (Nat.lt_succ_of_lt hlS)) items).toS) s.heap.objs.size (by simp only [List.mem_cons, List.not_mem_nil, or_false, not_or]; exact ⟨Nat.ne_of_lt (Nat.lt_succ_self _), Nat.ne_of_gt hlS⟩) ns hlen hb (fun i v hv => ?_) items.size 0 _ (Nat.sub_zero _) (Nat.zero_le _) ⟨⟨_, gI, rfl, rfl⟩, gl⟩ ⟨0, Nat.le_refl 0, setR_new_at gS⟩ (fun s' c hm hc hS => ?_)
  · have hi : i < ns.length := by rw [← hlen]; exact (Array.getElem?_eq_some_iff.mp hv).1
    obtain ⟨t, e⟩ := IntsAre.int_at hit i v (by rw [Array.getElem?_toList]; exact hv)
    exact ⟨ns[i], t, List.getElem?_eq_getElem hi, by rw [e, List.getD_eq_getElem?_getD, List.getElem?_eq_getElem hi]; rfl⟩
  · have key := hR s'.heap s'.toks c hS (by rw [← hlen]; exact hc) fun b o e => by
      have hlt := Heap.lt_size e
      exact hm.heap b o (by simp only [List.mem_cons, List.not_mem_nil, or_false, not_or]; exact ⟨Nat.ne_of_lt hlt, Nat.ne_of_lt (Nat.lt_succ_of_lt hlt)⟩) (Heap.get?_push_of_some _ (Heap.get?_push_of_some _ e))
    obtain ⟨h', g', d', tk', os'⟩ := s'
    have e1 : g' = s.gens := hm.gens
    have e2 : d' = s.drawn := hm.drawn
    have e3 : os' = s.os := hm.os
    subst e1 e2 e3
    exact key
/-- set(xs): the call comes to the loop above -/
theorem make_set {l : Addr} {items : Array Value} (ns : List Int) {Q : Value → Shared → Prop} (hh : A.handled = none) (hl : s.heap.IsList l items) (hit : IntsAre items.toList ns) (hb : ns.length + 1 < scanBound)
    (h : ∀ (h' : Heap) (tk c : Nat), SetR w h' s.heap.objs.size (fun j => decide (j ∈ ns)) c → c ≤ ns.length → (∀ b o, s.heap.get? b = some o → h'.get? b = some o) → Q (.ref s.heap.objs.size) { s with heap := h', toks := tk }) :
    wpAny (model P w) A (call (.type "set") [.ref l]) Q E s := by
  obtain ⟨_, _, hmro⟩ := F.called_set.mro
  have hmade := F.called_set.made
  have hsub := F.called_set.sub
  have hnot := F.called_set.notType
  have hcan := F.called_set.canCreate
  have htc := F.typeCall_set_1 (.ref l)
  refine wpAny_call (codeAny_of_tree ?_)
  show wpAny _ _ (callAny (.type "set") _) _ _ _
  refine wpAny_pure ⟨Code.quiet_builtin _ (by decide +kernel), codeAny_builtin F.entry_type_call ?_⟩
  rw [Around.under_plain (weight_type_call_type "set" [.ref l] []) rfl]
  repeat (any_goals (first | assumption | wp_step))
  refine codeAny_mono (code_set_led1 (.ref l) (E := E) (Q₁ := fun v t => v = .ref s.heap.objs.size ∧ t = { s with heap := s.heap.push (noneYet w) }) ⟨rfl, rfl⟩) fun r t hr => ?_
  match r, hr with
  | .error e, hr => exact hr
  | .ok .next, hr => exact hr.elim
  | .ok .brk, hr => exact hr.elim
  | .ok .cont, hr => exact hr.elim
  | .ok (.ret v), hr =>
    obtain ⟨rfl, rfl⟩ := hr
    have hT : Shared.TypeIs { s with heap := s.heap.push (noneYet w) } (.ref s.heap.objs.size) "set" := ⟨_, Heap.get?_push_size _ rfl, rfl⟩
    have hli := F.called_set.init.lookup
    have hbi := F.called_set.init.bind (.ref s.heap.objs.size)
    repeat (any_goals (first | assumption | wp_step))
    refine codeAny_mono (codeAny_call_builtin (R := wants (fun r t => r = .none ∧ ∃ h' tk c, t = { s with heap := h', toks := tk } ∧ SetR w h' s.heap.objs.size (fun j => decide (j ∈ ns)) c ∧ c ≤ ns.length ∧ (∀ b o, s.heap.get? b = some o → h'.get? b = some o)) E) F.called_set.init.plain F.entry_set_init (check_set_init_1 hT ?_)) fun r t hr => ?_
    · obtain ⟨⟨ocls, odict, odata, oslots⟩, hol, hcl, nl, hdl⟩ := id hl
      simp only at hcl hdl
      subst hcl hdl
      have hget : (s.heap.push (noneYet w)).get? l = some { cls := .type "list", dict := odict, data := .seq items nl, slots := oslots } := Heap.get?_push_of_some _ hol
      have k1 := F.sub_list_set
      have k2 := F.sub_list_frozenset
      have k3 : (Value.type "list" == Value.type "dict") = false := by decide
      have hl1 : (s.heap.push (noneYet w)).IsList l items := hl.push _
      unfold Builtin.«set.__init__» noKeywords Builtin.Frozenset.updateFrom
      generalize hPI : pyIter = PI
      wp_walk
      subst hPI
      refine wpAny_pyIter_list hl1 (wpAny_bind (wpAny_runValue ?_))
      rw [show (s.heap.push (noneYet w)).objs.size = s.heap.objs.size + 1 from Heap.size_push ..]
      refine fill_list (A := A.in1.in1) ns (by simp [hh]) hl hit hb fun h' tk c hS hc hk => ?_
      show wpAny _ _ _ _ _ _
      refine wpAny_pure ?_
      show wpAny _ _ (ret Value.none) _ _ _
      exact wpAny_pure ⟨rfl, h', tk, c, rfl, hS, hc, hk⟩
    · match r, hr with
      | .error e, hr => exact hr
      | .ok .next, hr => exact hr.elim
      | .ok .brk, hr => exact hr.elim
      | .ok .cont, hr => exact hr.elim
      | .ok (.ret v), hr =>
        obtain ⟨rfl, h', tk, c, rfl, hS, hc, hk⟩ := hr
        repeat (any_goals (first | assumption | wp_step))
        exact h _ _ _ hS hc hk
end
/-- sorted(set(e)), e a list of ints -/
def tSortSet (K : PySem.W.Frag) (ta : TE) : TE := fun σ H Q => ta σ H fun x H1 => ∃ (l : Addr) (ns : List Int), x = .ref l ∧ SqL K H1 l (ns.map V.int) ∧ ns.length < 64 ∧
  ∀ (out : List Int) (p : Addr), out.Pairwise (· < ·) → (∀ k, k ∈ out ↔ k ∈ ns) → H1 p = none → Q (.ref p) (upd H1 p (.lst (out.map V.int)))
theorem pe_sortSet {X : Cx} {a : Expr} {ta : TE} {p p2 q pos : Pos} (hg : Gl X "sorted") (hm : X.mg "sorted" = none) (hg2 : Gl X "set") (hm2 : X.mg "set" = none) (ha : PE X a ta) (hc : X.calm = true := by rfl)
    (na : starEach [a] X.env = (false, eval a X.env) :: starEach [] X.env := by rfl) : PE X (.Call (.Name "sorted" p) [.Call (.Name "set" p2) [a] [] q] [] pos) (tSortSet X.K ta) := by
  refine ⟨fun pins s σ H Q I h => ?_⟩
  refine Call_ (ld_blt I hg hm boot_sorted ?_)
  refine PyProof.Rows.callWith_builtin1 (PyProof.Rows.args_cons ?_ rfl) rfl rfl
  refine Call_ (ld_blt I hg2 hm2 PyProof.Rows.boot_set ?_)
  refine PyProof.Rows.callWith_type1 (PyProof.Rows.args_cons (thn (ha.run pins s σ H _ I h) fun v s1 ⟨x, H1, I1, r1, q1⟩ => PyProof.Rows.args_nil ?_) na) na rfl
  obtain ⟨l, ns, rfl, hq, hl, q1⟩ := q1
  cases r1
  obtain ⟨its, r, pl, hz⟩ := I1.list hq
  refine make_set ns (I1.ok.hd hc) pl.isList (by simpa using RZ.intsAre_vals r) (by unfold scanBound; omega) fun h' tk c hS hcl hk => ?_
  refine PyProof.Rows.args_nil ?_
  have I2 : Inv X pins σ H1 { s1 with heap := h', toks := tk } := I1.kept hk
  refine sorted_set hS (I2.ok.hd hc) (by omega) fun s' pp out c2 ms k g o hp hg3 hi hs hmm hln => ?_
  have hlen : (ms.map V.int).length ≤ sizeLine := by rw [List.length_map, hln, sizeLine_eq]; omega
  have hn : H1 pp = none := I2.hok.fresh hp
  have J : Inv X pins σ (upd H1 pp (.lst (ms.map V.int))) { s1 with heap := s'.heap, gens := s'.gens, drawn := s'.drawn, toks := s'.toks } :=
    Inv.call (s := { s1 with heap := h', toks := tk }) (ch := []) I2 (Un.laid k hp hn) (I2.hok.laid k hp ⟨hlen, out.toList, c2, vals_of_ints hi, hg3⟩) (by rw [g]; exact I2.bare) (fun _ z => nomatch z)
  have e : s' = { s1 with heap := s'.heap, gens := s'.gens, drawn := s'.drawn, toks := s'.toks } := by
    cases s'
    cases s1
    cases o
    rfl
  rw [e]
  exact ⟨.ref pp, _, J, rfl, q1 ms pp hs (fun k => by rw [hmm k, decide_eq_true_eq]) hn⟩
theorem eqV_int (a b : Int) : eqV (.int a) (.int b) = decide (a = b) := by
  first | rfl | (unfold eqV; by_cases h : a = b <;> simp [h])
theorem inV_ints (i : Int) : ∀ ns : List Int, inV (.int i) (ns.map V.int) = decide (i ∈ ns)
  | [] => by simp [inV]
  | a :: r => by
    show ((eqV (.int a) (.int i)) || inV (.int i) (r.map V.int)) = _
    rw [inV_ints i r, eqV_int]
    by_cases h : a = i
    · simp [h]
    · by_cases h2 : i ∈ r
      · simp [h2]
      · simp [h, h2, Ne.symm h]
theorem flat_ints (ns : List Int) : (ns.map V.int).all flatV = true := by
  rw [List.all_map, List.all_eq_true]
  intro x _
  rfl
section
variable {K : PySem.W.Frag} {i : Int} {ns : List Int}
theorem rd_in : R2D K (rIn K false) (.int i) (.list (ns.map .int)) (.bool (decide (i ∈ ns))) := fun H I v u s r1 r2 Q q => by
  cases r1
  cases r2 with
  | lst h a =>
    have e := rall_ints a
    subst e
    exact ⟨_, _, rfl, .inl (.of (s _ _ h)), rfl, flat_ints ns, by rw [inV_ints]; exact q _ H I (Nx.refl s) (.bl _)⟩
theorem rd_notIn : R2D K (rIn K true) (.int i) (.list (ns.map .int)) (.bool (!decide (i ∈ ns))) := fun H I v u s r1 r2 Q q => by
  cases r1
  cases r2 with
  | lst h a =>
    have e := rall_ints a
    subst e
    exact ⟨_, _, rfl, .inl (.of (s _ _ h)), rfl, flat_ints ns, by rw [inV_ints]; exact q _ H I (Nx.refl s) (.bl _)⟩
end
end Tw

/-! Tw12: sorted without repeats; sinks and traps, in plain Lean. -/
namespace Tw
open PySem PySem.Spec PyProof.Rows L2 PyProof
def insU (x : Int) : List Int → List Int
  | [] => [x]
  | y :: r => if x < y then x :: y :: r else if x = y then y :: r else y :: insU x r
theorem mem_insU {x k : Int} : ∀ {l : List Int}, k ∈ insU x l ↔ k = x ∨ k ∈ l
  | [] => by simp [insU]
  | y :: r => by
    unfold insU
    split
    · simp
    · split
      · rename_i h
        subst h
        simp
      · rw [List.mem_cons, mem_insU (l := r), List.mem_cons]
        constructor
        · rintro (h | h | h) <;> simp [h]
        · rintro (h | h | h) <;> simp [h]
theorem pw_insU {x : Int} : ∀ {l : List Int}, l.Pairwise (· < ·) → (insU x l).Pairwise (· < ·)
  | [], _ => List.pairwise_singleton ..
  | y :: r, h => by
    obtain ⟨h1, h2⟩ := List.pairwise_cons.mp h
    unfold insU
    split
    · rename_i hx
      refine List.pairwise_cons.mpr ⟨fun k hk => ?_, h⟩
      rcases List.mem_cons.mp hk with rfl | hk
      · exact hx
      · exact Int.lt_trans hx (h1 k hk)
    · split
      · exact h
      · rename_i h3 h4
        refine List.pairwise_cons.mpr ⟨fun k hk => ?_, pw_insU h2⟩
        rcases mem_insU.mp hk with rfl | hk
        · omega
        · exact h1 k hk
def sortU (l : List Int) : List Int := l.foldr insU []
theorem mem_sortU {k : Int} : ∀ {l : List Int}, k ∈ sortU l ↔ k ∈ l
  | [] => by simp [sortU]
  | a :: r => by
    show k ∈ insU a (sortU r) ↔ _
    rw [mem_insU, mem_sortU, List.mem_cons]
theorem pw_sortU : ∀ {l : List Int}, (sortU l).Pairwise (· < ·)
  | [] => List.Pairwise.nil
  | a :: r => pw_insU pw_sortU
/-- two that rise and have the same members are one -/
theorem rise_eq : ∀ {a b : List Int}, a.Pairwise (· < ·) → b.Pairwise (· < ·) → (∀ k, k ∈ a ↔ k ∈ b) → a = b
  | [], [], _, _, _ => rfl
  | [], y :: b, _, _, h => absurd ((h y).mpr List.mem_cons_self) (by simp)
  | x :: a, [], _, _, h => absurd ((h x).mp List.mem_cons_self) (by simp)
  | x :: a, y :: b, ha, hb, h => by
    obtain ⟨a1, a2⟩ := List.pairwise_cons.mp ha
    obtain ⟨b1, b2⟩ := List.pairwise_cons.mp hb
    have e : x = y := by
      rcases List.mem_cons.mp ((h x).mp List.mem_cons_self) with e | e
      · exact e
      · rcases List.mem_cons.mp ((h y).mpr List.mem_cons_self) with e2 | e2
        · exact e2.symm
        · have := b1 x e
          have := a1 y e2
          omega
    subst e
    congr 1
    refine rise_eq a2 b2 fun k => ?_
    constructor
    · intro hk
      rcases List.mem_cons.mp ((h k).mp (List.mem_cons_of_mem _ hk)) with e | e
      · have := a1 k hk
        omega
      · exact e
    · intro hk
      rcases List.mem_cons.mp ((h k).mpr (List.mem_cons_of_mem _ hk)) with e | e
      · have := b1 k hk
        omega
      · exact e
section
variable {K : PySem.W.Frag} {E : XK} {δ : List Sl} {te : TE} {ns : List Int} {xs ys : List PyData} {P : Out → Prop}
theorem en_sortSet (h : Ev K te δ (.list (ns.map .int))) (hl : ns.length < 64) : EvN K (tSortSet K te) δ ((sortU ns).map .int) := fun G σ H I s g r Q q =>
  h G σ H I s g r _ fun v H1 I1 n1 rv => by
    cases rv with
    | lst h1 a1 =>
      have e := rall_ints a1
      subst e
      refine ⟨_, ns, rfl, .of (n1.s _ _ h1), hl, fun out p hs hm hp => ?_⟩
      have eo : out = sortU ns := rise_eq hs pw_sortU fun k => by rw [hm k, mem_sortU]
      subst eo
      exact q p H1 I1 _ n1 hp (ints_rall _)
/-- xs.extend(ys), ys data -/
theorem as_extD {i : Nat} (e : δ[i]? = some (.own xs)) (h : Ev K te δ (.list ys)) (hz : xs.length + ys.length ≤ sizeLine) (k : P (.nx (δ.set i (.own (xs ++ ys))))) :
    As K E (tDrop (tBM K "list" rExtend (tVar i) (tCons te tNil))) δ P := fun G I0 σ H I D n r c => by
  obtain ⟨p, vs, h1, h2, h3, h4, h5⟩ := r.own i xs e
  refine ⟨.ref p, h1, .inl ⟨rfl, _, .inl (.inl h4)⟩, ?_⟩
  refine h G σ H I n.s n.h r _ fun v H1 I1 n1 rv => ?_
  cases rv with
  | lst hq rw =>
    have r1 := r.next n1
    obtain ⟨p', vs', h1', h2', h3', h4', h5'⟩ := r1.own i xs e
    rw [h1] at h1'
    cases h1'
    refine ⟨p, _, vs', _, rfl, rfl, h4', n1.s _ _ hq, by rw [h5'.length, rw.length]; exact hz, ?_⟩
    have n2 := n.trans n1
    refine c.nx _ _ _ I1 k ⟨fun b o eb => ?_, n2.i, fun b o eb => ?_, n2.f⟩ (r1.write e h1 (h5'.app rw))
    · rw [upd_ne (ne_of_none eb h2)]
      exact n2.h b o eb
    · rw [upd_ne (ne_of_none eb h3')]
      exact n2.s b o eb
end
theorem getD_of {l : List Int} {i : Nat} {k : Int} (h : l[i]? = some k) : l.getD i 0 = k := by
  rw [List.getD_eq_getElem?_getD, h]
  rfl
theorem kept_filter (ps : List Int) (p : Int → Bool) : kept ps.length (fun i => p (ps.getD i 0)) (fun i => .int (ps.getD i 0)) = (ps.filter p).map PyData.int := by
  unfold kept
  have e : (List.range ps.length).map (fun k => ps.getD k 0) = ps := map_getD rfl
  have e2 : ps.filter p = ((List.range ps.length).filter fun i => p (ps.getD i 0)).map fun k => ps.getD k 0 := by
    conv => lhs; rw [← e]
    rw [List.filter_map]
    rfl
  rw [e2, List.map_map]
  rfl
/-! ### sinks and traps -/
def sd (m : List Int × List Int) (g : Bool) : List Int := if g then m.2 else m.1
def tch (t ps : List Int) : Bool := ps.any fun p => decide (0 < t.getD p.toNat 0)
def badF (ms : List (List Int × List Int)) (g : Bool) (ps : List Int) : List Int := ms.flatMap fun m => if tch (sd m (!g)) ps then [] else ps.filter fun p => decide (0 < (sd m g).getD p.toNat 0)
def staysB (ms : List (List Int × List Int)) (g : Bool) (ps : List Int) : Bool := ms.all fun m => !(tch (sd m g) ps && !tch (sd m (!g)) ps)
def greatG (ms : List (List Int × List Int)) (g : Bool) : Nat → List Int → List Int
  | 0, l => l
  | k + 1, l => if badF ms g l = [] then l else greatG ms g k (l.filter fun p => !decide (p ∈ badF ms g l))
def gS (ms : List (List Int × List Int)) (g : Bool) (ps : List Int) : List Int := greatG ms g (sortU ps).length (sortU ps)
theorem great_done {ms : List (List Int × List Int)} {g : Bool} {k : Nat} {l : List Int} (h : badF ms g l = []) : greatG ms g k l = l := by
  cases k with
  | zero => rfl
  | succ k => exact if_pos h
theorem bad_sub {ms : List (List Int × List Int)} {g : Bool} {l : List Int} {p : Int} (h : p ∈ badF ms g l) : p ∈ l := by
  unfold badF at h
  obtain ⟨m, _, hp⟩ := List.mem_flatMap.mp h
  split at hp
  · cases hp
  · exact (List.mem_filter.mp hp).1
theorem less_len {ms : List (List Int × List Int)} {g : Bool} {l : List Int} (h : badF ms g l ≠ []) : (l.filter fun p => !decide (p ∈ badF ms g l)).length < l.length := by
  obtain ⟨b, hb⟩ := List.exists_mem_of_ne_nil _ h
  exact List.length_filter_lt_length_iff_exists.mpr ⟨b, bad_sub hb, by simp [hb]⟩
theorem great_sub {ms : List (List Int × List Int)} {g : Bool} : ∀ {k : Nat} {l : List Int}, (greatG ms g k l).Sublist l
  | 0, l => List.Sublist.refl _
  | k + 1, l => by
    unfold greatG
    split
    · exact List.Sublist.refl _
    · exact great_sub.trans List.filter_sublist
theorem tch_iff {t ps : List Int} : tch t ps = true ↔ ∃ p ∈ ps, 0 < t.getD p.toNat 0 := by
  unfold tch
  rw [List.any_eq_true]
  constructor
  · rintro ⟨p, h1, h2⟩
    exact ⟨p, h1, of_decide_eq_true h2⟩
  · rintro ⟨p, h1, h2⟩
    exact ⟨p, h1, decide_eq_true h2⟩
theorem stays_iff {ms : List (List Int × List Int)} {g : Bool} {ps : List Int} : staysB ms g ps = true ↔ ∀ m ∈ ms, tch (sd m g) ps = true → tch (sd m (!g)) ps = true := by
  unfold staysB
  rw [List.all_eq_true]
  constructor
  · intro h m hm ht
    have := h m hm
    rw [ht] at this
    cases e : tch (sd m (!g)) ps with
    | true => rfl
    | false => rw [e] at this; cases this
  · intro h m hm
    cases e : tch (sd m g) ps with
    | false => rfl
    | true => rw [h m hm e]; rfl
theorem stays_of {ms : List (List Int × List Int)} {g : Bool} {l : List Int} (h : badF ms g l = []) : staysB ms g l = true := stays_iff.mpr fun m hm ht => by
  cases e : tch (sd m (!g)) l with
  | true => rfl
  | false =>
    obtain ⟨p, hp, h0⟩ := tch_iff.mp ht
    have : p ∈ badF ms g l := by
      unfold badF
      refine List.mem_flatMap.mpr ⟨m, hm, ?_⟩
      rw [e, if_neg Bool.false_ne_true]
      exact List.mem_filter.mpr ⟨hp, decide_eq_true h0⟩
    rw [h] at this
    cases this
theorem great_stays {ms : List (List Int × List Int)} {g : Bool} : ∀ {k : Nat} {l : List Int}, l.length ≤ k → staysB ms g (greatG ms g k l) = true
  | 0, l, h => by
    have e : l = [] := List.eq_nil_of_length_eq_zero (by omega)
    subst e
    refine stays_of (?_ : badF ms g [] = [])
    unfold badF
    rw [List.flatMap_eq_nil_iff]
    intro m _
    split <;> rfl
  | k + 1, l, h => by
    unfold greatG
    by_cases hb : badF ms g l = []
    · rw [if_pos hb]
      exact stays_of hb
    · rw [if_neg hb]
      exact great_stays (by have := less_len hb; omega)
theorem great_max {ms : List (List Int × List Int)} {g : Bool} {S : List Int} (hS : staysB ms g S = true) : ∀ {k : Nat} {l : List Int}, (∀ p ∈ S, p ∈ l) → ∀ p ∈ S, p ∈ greatG ms g k l
  | 0, l, h => h
  | k + 1, l, h => by
    unfold greatG
    split
    · exact h
    · refine great_max hS fun p hp => List.mem_filter.mpr ⟨h p hp, ?_⟩
      cases e : decide (p ∈ badF ms g l) with
      | false => rfl
      | true =>
        exfalso
        have hb := of_decide_eq_true e
        unfold badF at hb
        obtain ⟨m, hm, hq⟩ := List.mem_flatMap.mp hb
        split at hq
        · cases hq
        · rename_i ht
          have h0 := of_decide_eq_true (List.mem_filter.mp hq).2
          obtain ⟨q, q1, q2⟩ := tch_iff.mp (stays_iff.mp hS m hm (tch_iff.mpr ⟨p, hp, h0⟩))
          exact ht (tch_iff.mpr ⟨q, h q q1, q2⟩)
theorem gS_rise {ms : List (List Int × List Int)} {g : Bool} {ps : List Int} : (gS ms g ps).Pairwise (· < ·) := pw_sortU.sublist great_sub
theorem gS_mem {ms : List (List Int × List Int)} {g : Bool} {ps : List Int} {p : Int} (h : p ∈ gS ms g ps) : p ∈ ps := mem_sortU.mp (great_sub.subset h)
theorem gS_stays {ms : List (List Int × List Int)} {g : Bool} {ps : List Int} : staysB ms g (gS ms g ps) = true := great_stays (Nat.le_refl _)
theorem gS_max {ms : List (List Int × List Int)} {g : Bool} {ps S : List Int} (hS : staysB ms g S = true) (h : ∀ p ∈ S, p ∈ ps) : ∀ p ∈ S, p ∈ gS ms g ps := great_max hS fun p hp => mem_sortU.mpr (h p hp)
/-- a rising row stays when it is the greatest of itself -/
theorem gS_iff {ms : List (List Int × List Int)} {g : Bool} {ps row : List Int} (hr : row.Pairwise (· < ·)) (hm : ∀ k, k ∈ ps ↔ k ∈ row) : decide (gS ms g ps = sortU ps) = staysB ms g row := by
  have e : sortU ps = row := rise_eq pw_sortU hr fun k => by rw [mem_sortU, hm]
  rw [e]
  cases h : staysB ms g row with
  | true =>
    refine decide_eq_true (rise_eq gS_rise hr fun k => ⟨fun hk => (hm k).mp (gS_mem hk), fun hk => gS_max h (fun p hp => (hm p).mpr hp) k hk⟩)
  | false =>
    refine decide_eq_false fun e2 => ?_
    have := gS_stays (ms := ms) (g := g) (ps := ps)
    rw [e2, h] at this
    cases this
def setsF : Nat → List (List Int)
  | 0 => [[]]
  | n + 1 => setsF n ++ (setsF n).map fun r => r ++ [(n : Int)]
theorem sets_in : ∀ {n : Nat} {r : List Int}, r ∈ setsF n → r.Pairwise (· < ·) ∧ ∀ k ∈ r, 0 ≤ k ∧ k < n
  | 0, r, h => by
    have e : r = [] := List.mem_singleton.mp h
    subst e
    exact ⟨List.Pairwise.nil, fun k hk => by cases hk⟩
  | n + 1, r, h => by
    rcases List.mem_append.mp h with h | h
    · obtain ⟨a, b⟩ := sets_in h
      exact ⟨a, fun k hk => by have := b k hk; omega⟩
    · obtain ⟨q, hq, rfl⟩ := List.mem_map.mp h
      obtain ⟨a, b⟩ := sets_in hq
      refine ⟨List.pairwise_append.mpr ⟨a, List.pairwise_singleton .., fun x hx y hy => ?_⟩, fun k hk => ?_⟩
      · rw [List.mem_singleton.mp hy]
        exact (b x hx).2
      · rcases List.mem_append.mp hk with hk | hk
        · have := b k hk
          omega
        · rw [List.mem_singleton.mp hk]
          omega
theorem sets_all : ∀ {n : Nat} {r : List Int}, r.Pairwise (· < ·) → (∀ k ∈ r, 0 ≤ k ∧ k < n) → r ∈ setsF n
  | 0, r, _, h => by
    have e : r = [] := by
      cases r with
      | nil => rfl
      | cons a r =>
        have := h a List.mem_cons_self
        omega
    rw [e]
    exact List.mem_singleton.mpr rfl
  | n + 1, r, hr, h => by
    have hf : r.filter (fun (k : Int) => decide (k < (n : Int))) ∈ setsF n := sets_all (hr.filter _) fun k hk => by
      obtain ⟨h1, h2⟩ := List.mem_filter.mp hk
      exact ⟨(h k h1).1, of_decide_eq_true h2⟩
    by_cases hn : (n : Int) ∈ r
    · refine List.mem_append.mpr (.inr (List.mem_map.mpr ⟨_, hf, ?_⟩))
      refine rise_eq (List.pairwise_append.mpr ⟨hr.filter _, List.pairwise_singleton .., fun x hx y hy => ?_⟩) hr fun k => ?_
      · rw [List.mem_singleton.mp hy]
        exact of_decide_eq_true (List.mem_filter.mp hx).2
      · rw [List.mem_append, List.mem_filter, List.mem_singleton]
        constructor
        · rintro (⟨a, _⟩ | rfl)
          · exact a
          · exact hn
        · intro hk
          have := h k hk
          by_cases e : k = n
          · exact .inr e
          · exact .inl ⟨hk, decide_eq_true (by omega)⟩
    · refine List.mem_append.mpr (.inl ?_)
      have e : r.filter (fun (k : Int) => decide (k < (n : Int))) = r := List.filter_eq_self.mpr fun k hk => decide_eq_true (by
        have := h k hk
        have : k ≠ n := fun e => hn (e ▸ hk)
        omega)
      rw [e] at hf
      exact hf
def insideB (row ps : List Int) : Bool := decide (row.filter (fun p => !decide (p ∈ ps)) = [])
theorem inside_iff {row ps : List Int} : insideB row ps = true ↔ ∀ p ∈ row, p ∈ ps := by
  unfold insideB
  rw [decide_eq_true_eq, List.filter_eq_nil_iff]
  constructor
  · intro h p hp
    have := h p hp
    simpa using this
  · intro h p hp
    simp [h p hp]
def unionF (ms : List (List Int × List Int)) (g : Bool) (rows : List (List Int)) (ps : List Int) : List Int := (rows.filter fun row => insideB row ps && staysB ms g row).flatten
def lawG (ms : List (List Int × List Int)) (g : Bool) (n : Nat) (ps : List Int) : List Int := sortU (unionF ms g (setsF n) ps)
theorem great_law {ms : List (List Int × List Int)} {g : Bool} {n : Nat} {ps qs : List Int} (h : ∀ k, k ∈ ps ↔ k ∈ qs) (hn : ∀ k ∈ qs, 0 ≤ k ∧ k < n) : gS ms g ps = lawG ms g n qs := by
  refine rise_eq gS_rise pw_sortU fun k => ?_
  rw [lawG, mem_sortU]
  unfold unionF
  rw [List.mem_flatten]
  constructor
  · intro hk
    refine ⟨gS ms g ps, List.mem_filter.mpr ⟨sets_all gS_rise fun p hp => hn p ((h p).mp (gS_mem hp)), ?_⟩, hk⟩
    rw [gS_stays, Bool.and_true]
    exact inside_iff.mpr fun p hp => (h p).mp (gS_mem hp)
  · rintro ⟨row, hr, hk⟩
    obtain ⟨_, hc⟩ := List.mem_filter.mp hr
    rw [Bool.and_eq_true] at hc
    exact gS_max hc.2 (fun p hp => (h p).mpr (inside_iff.mp hc.1 p hp)) k hk
theorem flat_len (p : List Int → Bool) : ∀ rows : List (List Int), (rows.filter p).flatten.length ≤ rows.flatten.length
  | [] => Nat.le_refl _
  | r :: rows => by
    have ih := flat_len p rows
    rw [List.filter_cons, List.flatten_cons, List.length_append]
    split
    · rw [List.flatten_cons, List.length_append]
      omega
    · omega
theorem union_len {ms : List (List Int × List Int)} {g : Bool} {rows : List (List Int)} {ps : List Int} : (unionF ms g rows ps).length ≤ rows.flatten.length := flat_len _ rows
theorem sets_len {n : Nat} (h : n ≤ 4) : (setsF n).flatten.length ≤ 32 ∧ (setsF n).length ≤ 16 := by
  match n, h with
  | 0, _ => decide
  | 1, _ => decide
  | 2, _ => decide
  | 3, _ => decide
  | 4, _ => decide
end Tw

/-! Tw13: texts: digits, join, split, index. -/
namespace Tw
open PySem PySem.Spec PyProof.Rows L2 PyProof
abbrev mk (l : List Nat) : Str := ⟨l.toArray⟩
theorem tl_mk (l : List Nat) : TL.tl (mk l) = l := rfl
theorem mk_inj {a b : Str} (h : TL.tl a = TL.tl b) : a = b := TL.ext_tl h
theorem app_mk (a b : List Nat) : mk a ++ mk b = mk (a ++ b) := mk_inj (by rw [TL.tl_append])
def dgL (d : Int) : List Nat := [48 + d.toNat]
def rStrI : List V → Hp → VK → Prop := fun xs H Q => ∃ i, xs = [.int i] ∧ i.natAbs.log2 < 1920 ∧ Q (.str (toString i)) H
theorem callStrI {X : Cx} : CallR X (.type "str") rStrI := call_str_int
def rIntS : List V → Hp → VK → Prop := fun xs H Q => ∃ a n, xs = [.str a] ∧ PySem.intText? a = some n ∧ a.length ≤ 640 ∧ Q (.int n) H
theorem callIntS {X : Cx} : CallR X (.type "int") rIntS := call_int_str
def rNotSub : R2 := fun x y H Q => ∃ i j, x = .str i ∧ y = .str j ∧ Q (.bl (!(!(Builtin.Str.occurrences j i 0 j.length 1).isEmpty))) H
theorem opNotSub {X : Cx} : OpR X (compareOp .NotIn) rNotSub := op_notin_str
def rSplitA : V → List V → Hp → VK → Prop := fun x xs H Q => ∃ a b, x = .str a ∧ xs = [.str b] ∧ (b.length == 0) = false ∧ a.length + 2 ≤ sizeLine ∧ rNewStrs (Txt.split a b) H Q
theorem mtSplit {X : Cx} : MtR X "str.split" rSplitA := mt_split
def rJoinA (K : PySem.W.Frag) : V → List V → Hp → VK → Prop := fun x xs H Q => ∃ a p, ∃ ys : List Str, x = .str a ∧ xs = [.ref p] ∧ (SqL K H p (ys.map V.str) ∨ SqT K H p (ys.map V.str)) ∧
    (ys.map (·.length)).sum + ys.length * a.length ≤ 16777216 ∧ Q (.str (Txt.join a ys)) H
theorem mtJoin {X : Cx} : MtR X "str.join" (rJoinA X.K) := mt_join
theorem ten {i : Int} (h0 : 0 ≤ i) (h9 : i ≤ 9) : i = 0 ∨ i = 1 ∨ i = 2 ∨ i = 3 ∨ i = 4 ∨ i = 5 ∨ i = 6 ∨ i = 7 ∨ i = 8 ∨ i = 9 := by omega
theorem str_dg {i : Int} (h0 : 0 ≤ i) (h9 : i ≤ 9) : V.str (toString i) = V.str (mk (dgL i)) := by
  rcases ten h0 h9 with rfl | rfl | rfl | rfl | rfl | rfl | rfl | rfl | rfl | rfl <;> rfl
theorem int_dg {i : Int} (h0 : 0 ≤ i) (h9 : i ≤ 9) : PySem.intText? (mk (dgL i)) = some i := by
  rcases ten h0 h9 with rfl | rfl | rfl | rfl | rfl | rfl | rfl | rfl | rfl | rfl <;> decide +kernel
theorem sub_dg {i : Int} (h0 : 0 ≤ i) (h9 : i ≤ 9) : (Builtin.Str.occurrences (PySem.Str.ofString "0123456789") (mk (dgL i)) 0 (PySem.Str.ofString "0123456789").length 1).isEmpty = false := by
  rcases ten h0 h9 with rfl | rfl | rfl | rfl | rfl | rfl | rfl | rfl | rfl | rfl <;> decide +kernel
section
variable {K : PySem.W.Frag} {δ : List Sl} {ta to te : TE} {ys : List Str} {y z b : Str} {i : Int} {j c : Nat}
theorem rall_strs {I : Hp} : ∀ {ns : List Str} {vs : List V}, RpAll K I vs (ns.map PyData.str) → vs = ns.map V.str
  | [], _, h => by cases h; rfl
  | n :: ns, _, h => by
    cases h with
    | cons a t =>
      cases a
      rw [rall_strs t]
      rfl
theorem strs_rall {I : Hp} : ∀ ns : List Str, RpAll K I (ns.map V.str) (ns.map PyData.str)
  | [] => .nil
  | n :: ns => .cons (.str n) (strs_rall ns)
theorem rc_strI (h0 : 0 ≤ i) (h9 : i ≤ 9) : RAD K rStrI [.int i] (.str (mk (dgL i))) := fun H I vs s r Q q => by
  cases r with
  | cons rx rr =>
    cases rr
    cases rx
    refine ⟨i, rfl, ?_, ?_⟩
    · rcases ten h0 h9 with rfl | rfl | rfl | rfl | rfl | rfl | rfl | rfl | rfl | rfl <;> decide +kernel
    · rw [str_dg h0 h9]
      exact q _ H I (Nx.refl s) (.str _)
theorem rc_intS (h0 : 0 ≤ i) (h9 : i ≤ 9) : RAD K rIntS [.str (mk (dgL i))] (.int i) := fun H I vs s r Q q => by
  cases r with
  | cons rx rr =>
    cases rr
    cases rx
    exact ⟨_, i, rfl, int_dg h0 h9, by show 1 ≤ 640; decide, q _ H I (Nx.refl s) (.int _)⟩
theorem rd_notSub (h0 : 0 ≤ i) (h9 : i ≤ 9) : R2D K rNotSub (.str (mk (dgL i))) (.str (PySem.Str.ofString "0123456789")) (.bool false) := fun H I v u s r1 r2 Q q => by
  cases r1; cases r2
  refine ⟨_, _, rfl, rfl, ?_⟩
  rw [sub_dg h0 h9]
  exact q _ H I (Nx.refl s) (.bl _)
theorem rd_ixS (hz : z.length ≤ sizeLine) (h : atI z.cps.toList i = some c) : R2D K (rIx K) (.str z) (.int i) (.str (mk [c])) := fun H I v u s r1 r2 Q q => by
  cases r1; cases r2
  exact .inr (.inr ⟨z, i, c, rfl, rfl, hz, h, q _ H I (Nx.refl s) (.str _)⟩)
theorem rd_dig (h0 : 0 ≤ i) (h9 : i ≤ 9) : R2D K (rIx K) (.str (PySem.Str.ofString "0123456789")) (.int i) (.str (mk (dgL i))) := rd_ixS (by decide) (by
  rcases ten h0 h9 with rfl | rfl | rfl | rfl | rfl | rfl | rfl | rfl | rfl | rfl <;> decide +kernel)
theorem en_split (h : Ev K to δ (.str z)) (hb : Ev K ta δ (.str b)) (h0 : (b.length == 0) = false) (hz : z.length + 2 ≤ sizeLine) : EvN K (tBM K "str" rSplitA to (tCons ta tNil)) δ ((Txt.split z b).map .str) := fun G σ H I s g r Q q =>
  h G σ H I s g r _ fun v H1 I1 n1 rv => by
    cases rv
    refine ⟨rfl, ?_⟩
    refine (ea_cons hb ea_nil) G σ H1 I1 n1.s (n1.g g) (r.next n1) _ fun vs H2 I2 n2 r2 => ?_
    cases r2 with
    | cons rx rr =>
      cases rr
      cases rx
      exact ⟨z, b, rfl, rfl, h0, hz, fun p hp => q p H2 I2 _ (n1.trans n2) hp (strs_rall _)⟩
theorem ev_join (h : Ev K to δ (.str z)) (hx : Ev K ta δ (.list (ys.map .str))) (hz : (ys.map (·.length)).sum + ys.length * z.length ≤ 16777216) : Ev K (tBM K "str" (rJoinA K) to (tCons ta tNil)) δ (.str (Txt.join z ys)) := fun G σ H I s g r Q q =>
  h G σ H I s g r _ fun v H1 I1 n1 rv => by
    cases rv
    refine ⟨rfl, ?_⟩
    refine (ea_cons hx ea_nil) G σ H1 I1 n1.s (n1.g g) (r.next n1) _ fun vs H2 I2 n2 r2 => ?_
    cases r2 with
    | cons rx rr =>
      cases rr
      cases rx with
      | lst h1 a1 =>
        have e := rall_strs a1
        subst e
        exact ⟨z, _, ys, rfl, rfl, .inl (.of (n2.s _ _ h1)), hz, q _ H2 I2 (n1.trans n2) (.str _)⟩
theorem flat_strs (ns : List Str) : (ns.map V.str).all flatV = true := by
  rw [List.all_map, List.all_eq_true]
  intro x _
  rfl
theorem ev_index (h : Ev K to δ (.list (ys.map .str))) (hy : Ev K ta δ (.str y)) (hj : ys[j]? = some y) (hno : ∀ m, m < j → ∀ w, ys[m]? = some w → w ≠ y) : Ev K (tBM K "list" (rIndex K) to (tCons ta tNil)) δ (.int j) := fun G σ H I s g r Q q =>
  h G σ H I s g r _ fun v H1 I1 n1 rv => by
    cases rv with
    | lst h1 a1 =>
      have e := rall_strs a1
      subst e
      refine ⟨.inl ⟨rfl, _, .of (n1.s _ _ h1)⟩, ?_⟩
      refine (ea_cons hy ea_nil) G σ H1 I1 n1.s (n1.g g) (r.next n1) _ fun vs H2 I2 n2 r2 => ?_
      cases r2 with
      | cons rx rr =>
        cases rr
        cases rx
        refine ⟨_, ys.map V.str, .str y, j, .str y, rfl, rfl, .of ((n1.trans n2).s _ _ (n2.i _ _ h1)), rfl, flat_strs ys, by rw [List.getElem?_map, hj]; rfl, beq_self_eq_true y, fun m z' hm hz => ?_, q _ H2 I2 (n1.trans n2) (.int _)⟩
        rw [List.getElem?_map] at hz
        cases e : ys[m]? with
        | none => rw [e] at hz; cases hz
        | some w =>
          rw [e] at hz
          cases hz
          exact beq_eq_false_iff_ne.mpr (hno m hm w e)
theorem rd_notInS (hy : y ∈ ys) : R2D K (rIn K true) (.str y) (.list (ys.map .str)) (.bool false) := fun H I v u s r1 r2 Q q => by
  cases r1
  cases r2 with
  | lst h a =>
    have e := rall_strs a
    subst e
    refine ⟨_, _, rfl, .inl (.of (s _ _ h)), rfl, flat_strs ys, ?_⟩
    have ei : inV (.str y) (ys.map V.str) = true := by
      show ((ys.map V.str).any fun w => eqV w (.str y)) = true
      rw [List.any_map, List.any_eq_true]
      exact ⟨y, hy, beq_self_eq_true y⟩
    rw [ei]
    exact q _ H I (Nx.refl s) (.bl _)
end
/-! ### joined, cut -/
/-- [32, 59, 32] stands nowhere in p, nor across its end -/
theorem run_piece {p rest : List Nat} (hp : 59 ∉ p) (hr : rest = [] ∨ ∃ t, rest = 32 :: t) {k : Nat} (hk : k < p.length) : TL.pre [32, 59, 32] ((p ++ rest).drop k) = false := by
  cases h : TL.pre [32, 59, 32] ((p ++ rest).drop k) with
  | false => rfl
  | true =>
    exfalso
    have e : ((p ++ rest).drop k).take 3 = [32, 59, 32] := eq_of_beq h
    have e1 : (((p ++ rest).drop k).take 3)[1]? = some 59 := by rw [e]; rfl
    rw [List.getElem?_take_of_lt (by decide), List.getElem?_drop] at e1
    by_cases h1 : k + 1 < p.length
    · rw [List.getElem?_append_left h1] at e1
      exact hp (List.mem_of_getElem? e1)
    · have hk1 : k + 1 = p.length := by omega
      rw [List.getElem?_append_right (by omega), hk1, Nat.sub_self] at e1
      rcases hr with rfl | ⟨t, rfl⟩
      · cases e1
      · cases e1
theorem spl_semi : ∀ {ps : List (List Nat)}, ps ≠ [] → (∀ p ∈ ps, 59 ∉ p) → TL.spl [32, 59, 32] 0 [] (TL.joinL [32, 59, 32] ps) = ps
  | [p], _, hp => by
    have h := TL.spl_run [32, 59, 32] (p ++ []) p.length 0 [] (by rw [List.append_nil]; omega) (fun k _ hk => run_piece (hp p List.mem_cons_self) (.inl rfl) (by omega))
    rw [List.drop_zero, List.nil_append, Nat.zero_add, List.append_nil, List.drop_length, List.take_length, TL.spl_nil] at h
    exact h
  | p :: q :: r, _, hp => by
    show TL.spl [32, 59, 32] 0 [] (p ++ ([32, 59, 32] ++ TL.joinL [32, 59, 32] (q :: r))) = p :: q :: r
    have ih := spl_semi (ps := q :: r) (by simp) fun x hx => hp x (List.mem_cons_of_mem _ hx)
    generalize TL.joinL [32, 59, 32] (q :: r) = rest at ih ⊢
    have h := TL.spl_run [32, 59, 32] (p ++ ([32, 59, 32] ++ rest)) p.length 0 [] (by rw [List.length_append]; omega) (fun k _ hk => run_piece (hp p List.mem_cons_self) (.inr ⟨_, rfl⟩) (by omega))
    rw [List.drop_zero, List.nil_append, Nat.zero_add, List.take_left, List.drop_left] at h
    rw [h]
    have h2 := TL.spl_at (S := [32, 59, 32]) (L := [32, 59, 32] ++ rest) (by simp) (c := 0) (acc := p) (by rw [List.drop_zero]; rfl)
    rw [List.drop_zero] at h2
    rw [h2]
    show p :: TL.spl [32, 59, 32] 0 [] rest = _
    rw [ih]
theorem join_mk (a : List Nat) (ys : List (List Nat)) : Txt.join (mk a) (ys.map mk) = mk (TL.joinL a ys) := mk_inj (by
  rw [TL.join_eq, TL.tl_join, List.map_map]
  congr 1
  exact List.map_id' ys)
theorem join_front (s : List Nat) : ∀ {ps : List (List Nat)}, ps ≠ [] → s ++ TL.joinL s ps = ps.flatMap fun p => s ++ p
  | [p], _ => by simp [TL.joinL]
  | p :: q :: r, _ => by
    have ih := join_front s (ps := q :: r) (by simp)
    show s ++ (p ++ (s ++ TL.joinL s (q :: r))) = (s ++ p) ++ (q :: r).flatMap _
    rw [ih, List.append_assoc]
theorem join_app (s : List Nat) {a b : List (List Nat)} (ha : a ≠ []) (hb : b ≠ []) : TL.joinL s (a ++ b) = TL.joinL s a ++ (s ++ TL.joinL s b) := by
  match a, ha with
  | [p], _ =>
    match b, hb with
    | q :: r, _ => rfl
  | p :: p2 :: r, _ =>
    have ih := join_app s (a := p2 :: r) (b := b) (by simp) hb
    show p ++ (s ++ TL.joinL s ((p2 :: r) ++ b)) = (p ++ (s ++ TL.joinL s (p2 :: r))) ++ (s ++ TL.joinL s b)
    rw [ih]
    simp only [List.append_assoc]
termination_by a.length
/-- a net as it is shown -/
def rowT (r : List Int) : List Nat := TL.joinL [32] (r.map dgL)
def wordsT (m : List Int × List Int) : List (List Nat) := m.1.map dgL ++ ([62] :: m.2.map dgL)
def moveT (m : List Int × List Int) : List Nat := rowT m.1 ++ ([32, 62, 32] ++ rowT m.2)
def piecesT (n : Int) (ms : List (List Int × List Int)) : List (List Nat) := dgL n :: ms.map moveT
def netT (n : Int) (ms : List (List Int × List Int)) : List Nat := TL.joinL [32, 59, 32] (piecesT n ms)
theorem move_words {m : List Int × List Int} (h1 : m.1 ≠ []) (h2 : m.2 ≠ []) : moveT m = TL.joinL [32] (wordsT m) := by
  unfold wordsT
  rw [join_app [32] (by simpa using h1) (by simp)]
  obtain ⟨x, r, e⟩ := List.exists_cons_of_ne_nil h2
  unfold moveT rowT
  rw [e]
  rfl
theorem split_move {m : List Int × List Int} (h1 : m.1 ≠ []) (h2 : m.2 ≠ []) (d1 : ∀ x ∈ m.1, 0 ≤ x ∧ x ≤ 9) (d2 : ∀ x ∈ m.2, 0 ≤ x ∧ x ≤ 9) : Txt.split (mk (moveT m)) (mk [32]) = (wordsT m).map mk := by
  rw [move_words h1 h2, ← join_mk]
  have dig : ∀ x : Int, 32 ∉ dgL x := fun x h => by
    have := List.mem_singleton.mp h
    omega
  refine TL.split_join (y := mk [32]) (s := 32) (S := []) rfl (by decide +kernel) (by unfold wordsT; simp) fun p hp => ?_
  obtain ⟨w, hw, rfl⟩ := List.mem_map.mp hp
  rw [tl_mk]
  unfold wordsT at hw
  rcases List.mem_append.mp hw with hw | hw
  · obtain ⟨x, _, rfl⟩ := List.mem_map.mp hw
    exact dig x
  · rcases List.mem_cons.mp hw with rfl | hw
    · decide
    · obtain ⟨x, _, rfl⟩ := List.mem_map.mp hw
      exact dig x
theorem no59_join {s : List Nat} (hs : 59 ∉ s) : ∀ {ps : List (List Nat)}, (∀ p ∈ ps, 59 ∉ p) → 59 ∉ TL.joinL s ps
  | [], _ => by simp [TL.joinL]
  | [p], h => h p List.mem_cons_self
  | p :: q :: r, h => by
    show 59 ∉ p ++ (s ++ TL.joinL s (q :: r))
    intro hm
    rcases List.mem_append.mp hm with hm | hm
    · exact h p List.mem_cons_self hm
    · rcases List.mem_append.mp hm with hm | hm
      · exact hs hm
      · exact no59_join hs (fun x hx => h x (List.mem_cons_of_mem _ hx)) hm
theorem no59_dg {x : Int} (h : 0 ≤ x ∧ x ≤ 9) : 59 ∉ dgL x := fun hm => by
  have := List.mem_singleton.mp hm
  omega
theorem no59_row {r : List Int} (h : ∀ x ∈ r, 0 ≤ x ∧ x ≤ 9) : 59 ∉ rowT r := no59_join (by decide) fun p hp => by
  obtain ⟨x, hx, rfl⟩ := List.mem_map.mp hp
  exact no59_dg (h x hx)
theorem no59_move {m : List Int × List Int} (d1 : ∀ x ∈ m.1, 0 ≤ x ∧ x ≤ 9) (d2 : ∀ x ∈ m.2, 0 ≤ x ∧ x ≤ 9) : 59 ∉ moveT m := fun hm => by
  rcases List.mem_append.mp hm with hm | hm
  · exact no59_row d1 hm
  · rcases List.mem_append.mp hm with hm | hm
    · exact absurd hm (by decide)
    · exact no59_row d2 hm
theorem split_net {n : Nat} {w : Int} {ms : List (List Int × List Int)} (h : NetOk n w ms) (hw : w ≤ 9) : Txt.split (mk (netT n ms)) (mk [32, 59, 32]) = (piecesT n ms).map mk := by
  refine TL.map_tl_inj ?_
  rw [TL.split_spl _ (mk [32, 59, 32]) (by simp [tl_mk]) (TL.kind_ok (by decide +kernel)), List.map_map]
  have e : (piecesT n ms).map (TL.tl ∘ mk) = piecesT n ms := List.map_id' _
  rw [e]
  refine spl_semi (by unfold piecesT; simp) fun p hp => ?_
  unfold piecesT at hp
  rcases List.mem_cons.mp hp with rfl | hp
  · exact no59_dg (by have := h.top; omega)
  · obtain ⟨m, hm, rfl⟩ := List.mem_map.mp hp
    obtain ⟨r1, r2⟩ := h.rows m hm
    exact no59_move (fun x hx => by have := r1.2 x hx; omega) (fun x hx => by have := r2.2 x hx; omega)
end Tw

/-! Tw14: is True of plain values; count, index, in of truth values; a dict written out; which own error it was. -/
namespace Tw
open PySem PySem.Spec PyProof.Rows L2 PyProof
/-! ### x is True -/
def plainV : V → Bool
  | .int _ | .bl _ | .str _ | .non => true
  | _ => false
def isTrV : V → Bool
  | .bl b => b
  | _ => false
def rIsTr : R2 := fun x y H Q => y = .bl true ∧ plainV x = true ∧ Q (.bl (isTrV x)) H
theorem opIsTr {X : Cx} : OpR X (compareOp .Is) rIsTr := by
  intro pins s σ H x y v u Q I rx ry h
  obtain ⟨rfl, hp, q⟩ := h
  cases (show u = Value.bool true from ry)
  cases x with
  | int i =>
    obtain ⟨t, rfl⟩ := rx
    exact wpAny_is_other rfl (fun z => by cases z) ⟨.bl false, H, I, rfl, q⟩
  | bl b =>
    cases (show v = Value.bool b from rx)
    cases b with
    | true => exact wpAny_is_self rfl ⟨.bl true, H, I, rfl, q⟩
    | false => exact wpAny_is_other rfl (fun z => by cases z) ⟨.bl false, H, I, rfl, q⟩
  | str z =>
    obtain ⟨t, rfl⟩ := rx
    exact wpAny_is_other rfl (fun z => by cases z) ⟨.bl false, H, I, rfl, q⟩
  | non =>
    cases (show v = Value.none from rx)
    exact wpAny_is_other rfl (fun z => by cases z) ⟨.bl false, H, I, rfl, q⟩
  | _ => cases hp
def plainD : PyData → Bool
  | .int _ | .bool _ | .str _ | .none => true
  | _ => false
def isTrD : PyData → Bool
  | .bool b => b
  | _ => false
/-! ### lists of truth values -/
theorem bls_of : ∀ {bs : List Bool} {its : List Value}, Vals (bs.map V.bl) its → its = bs.map Value.bool
  | [], _, .nil => rfl
  | b :: bs, _, .cons r t => by
    cases (show _ = Value.bool b from r)
    rw [bls_of t]
    rfl
def isTrW : Value → Bool
  | .bool b => b
  | _ => false
theorem count_bls : ∀ bs : List Bool, (bs.map Value.bool).countP isTrW = bs.count true
  | [] => rfl
  | b :: bs => by
    rw [List.map_cons, List.countP_cons, List.count_cons, count_bls bs]
    cases b <;> rfl
def rCountB (K : PySem.W.Frag) : V → List V → Hp → VK → Prop := fun x xs H Q => ∃ (p : Addr) (bs : List Bool), x = .ref p ∧ xs = [.bl true] ∧ SqL K H p (bs.map V.bl) ∧ Q (.int (bs.count true : Nat)) H
theorem mtCountB {X : Cx} : MtR X "list.count" (rCountB X.K) := by
  intro pins s σ H x xs v us Q I rx rxs h
  obtain ⟨p, bs, rfl, rfl, hs, q⟩ := h
  cases rx
  obtain ⟨u, rfl, ru⟩ := rxs.one
  cases (show u = Value.bool true from ru)
  obtain ⟨its, rv, ⟨⟨cls, dd, data, sl⟩, n, ho, hc, hdn, hd⟩, hlen⟩ := I.list hs
  simp only at hc hd
  subst hc hd
  have hi := bls_of rv
  subst hi
  refine call_meets PySem.F.slot_list_count ⟨_, ho, rfl⟩ PySem.F.entry_list_count (PySem.F.args_list_count_2 _ _)
    (SeqAt.list_countAt p (bs.map Value.bool).toArray n dd sl (.bool true) isTrW) ⟨ho, fun y hy => ?_, ?_⟩
  · obtain ⟨b, _, rfl⟩ := List.mem_map.mp (by simpa using hy : y ∈ bs.map Value.bool)
    have := eqAt_V (A := X.A.in1) (s := s) (y := .bl b) (x := .bl true) (u := .bool b) (v := .bool true) rfl rfl rfl rfl
    have e : eqV (.bl b) (.bl true) = isTrW (.bool b) := by cases b <;> rfl
    rw [e] at this
    first | exact this | exact this.in1 | simpa using this
  · refine ⟨.int (bs.count true : Nat), H, I.tok _, ⟨s.toks, ?_⟩, q⟩
    show Value.int (((bs.map Value.bool).toArray.toList.countP isTrW : Nat) : Int) s.toks = _
    rw [show (bs.map Value.bool).toArray.toList = bs.map Value.bool from rfl, count_bls]
section
variable {K : PySem.W.Frag} {E : XK} {δ : List Sl} {ta tb to te : TE} {bs : List Bool} {x y z : PyData} {xs : List PyData} {j : Nat} {i : Int} {ns : List Int}
theorem rd_isTr (h : plainD x = true) : R2D K rIsTr x (.bool true) (.bool (isTrD x)) := fun H I v u s r1 r2 Q q => by
  cases r2
  cases x with
  | int i => cases r1; exact ⟨rfl, rfl, q _ H I (Nx.refl s) (.bl _)⟩
  | bool b => cases r1; exact ⟨rfl, rfl, q _ H I (Nx.refl s) (.bl _)⟩
  | str b => cases r1; exact ⟨rfl, rfl, q _ H I (Nx.refl s) (.bl _)⟩
  | none => cases r1; exact ⟨rfl, rfl, q _ H I (Nx.refl s) (.bl _)⟩
  | _ => cases h
theorem flat_bls (bs : List Bool) : (bs.map V.bl).all flatV = true := by
  rw [List.all_map, List.all_eq_true]
  intro x _
  rfl
theorem rd_inB (h : true ∈ bs) : R2D K (rIn K false) (.bool true) (.list (bs.map .bool)) (.bool true) := fun H I v u s r1 r2 Q q => by
  cases r1
  cases r2 with
  | lst h1 a =>
    have e := rall_bls a
    subst e
    refine ⟨_, _, rfl, .inl (.of (s _ _ h1)), rfl, flat_bls bs, ?_⟩
    have ei : inV (.bl true) (bs.map V.bl) = true := by
      show ((bs.map V.bl).any fun w => eqV w (.bl true)) = true
      rw [List.any_map, List.any_eq_true]
      exact ⟨true, h, rfl⟩
    rw [ei]
    exact q _ H I (Nx.refl s) (.bl _)
theorem rd_inT : R2D K (rIn K false) (.int i) (.tuple (ns.map .int)) (.bool (decide (i ∈ ns))) := fun H I v u s r1 r2 Q q => by
  cases r1
  cases r2 with
  | tup h a =>
    have e := rall_ints a
    subst e
    exact ⟨_, _, rfl, .inr (.of (s _ _ h)), rfl, flat_ints ns, by rw [inV_ints]; exact q _ H I (Nx.refl s) (.bl _)⟩
theorem ev_countB (h : Ev K to δ (.list (bs.map .bool))) : Ev K (tBM K "list" (rCountB K) to (tCons (tC (.bl true)) tNil)) δ (.int (bs.count true : Nat)) := fun G σ H I s g r Q q =>
  h G σ H I s g r _ fun v H1 I1 n1 rv => by
    cases rv with
    | lst h1 a1 =>
      have e := rall_bls a1
      subst e
      exact ⟨.inl ⟨rfl, _, .of (n1.s _ _ h1)⟩, _, bs, rfl, rfl, .of (n1.s _ _ h1), q _ H1 I1 n1 (.int _)⟩
theorem ev_indexB (h : Ev K to δ (.list (bs.map .bool))) (hj : bs[j]? = some true) (hno : ∀ m, m < j → bs[m]? = some false) : Ev K (tBM K "list" (rIndex K) to (tCons (tC (.bl true)) tNil)) δ (.int j) := fun G σ H I s g r Q q =>
  h G σ H I s g r _ fun v H1 I1 n1 rv => by
    cases rv with
    | lst h1 a1 =>
      have e := rall_bls a1
      subst e
      refine ⟨.inl ⟨rfl, _, .of (n1.s _ _ h1)⟩, _, bs.map V.bl, .bl true, j, .bl true, rfl, rfl, .of (n1.s _ _ h1), rfl, flat_bls bs, by rw [List.getElem?_map, hj]; rfl, rfl, fun m z' hm hz => ?_, q _ H1 I1 n1 (.int _)⟩
      rw [List.getElem?_map, hno m hm] at hz
      cases hz
      rfl
/-- {0: True}: some dict -/
theorem ev_dict1 : Ev K (tDisp [((tC (.int 0)), (tC (.bl true)))]) δ (.dict []) := fun G σ H I s g r Q q => by
  intro p hp
  refine ⟨upd_same, [(.inl 0, .bl true)], rfl, by show 1 ≤ 15; decide, ?_⟩
  rw [upd_upd]
  exact q _ _ _ (Nx.new s hp) (.dct upd_same)
/-- the left operand raises -/
theorem ex_opL {r : R2} {c : Value} (h : EvX K E ta δ c) : EvX K E (tOp r ta tb) δ c := fun G σ H I s g rl he Q => h G σ H I s g rl he _
end
/-! ### which own error it was -/
theorem kit_yes {K : PySem.W.Frag} {D X : Addr} (dX : PySem.W.hasDictIn K X = true) (tX : PySem.W.typeIn K (.ref X) = some (.type "type")) (s : PySem.W.subIn K (.ref D) (.ref X) = some true) : PySem.W.kitOne K (.ref D) (.ref X) = some true := by
  obtain ⟨cd, hc, _⟩ := PySem.W.any_some dX
  show (if ((Value.ref D == Value.ref X) = true) then some true else if ((PySem.W.clsIn K X).isSome && PySem.W.typeIn K (.ref X) == some (.type "type")) = true then PySem.W.subIn K (.ref D) (.ref X) else none) = some true
  rw [hc, tX, s]
  split
  · rfl
  · rw [if_pos (by rfl)]
theorem kit_no {K : PySem.W.Frag} {D X : Addr} (dX : PySem.W.hasDictIn K X = true) (tX : PySem.W.typeIn K (.ref X) = some (.type "type")) (s : PySem.W.subIn K (.ref D) (.ref X) = some false) (sD : PySem.W.subIn K (.ref D) (.ref D) = some true) : PySem.W.kitOne K (.ref D) (.ref X) = some false := by
  obtain ⟨cd, hc, _⟩ := PySem.W.any_some dX
  have hne : ¬ (Value.ref D == Value.ref X) = true := fun e => by
    have e2 : Value.ref D = Value.ref X := beq_iff_eq.mp e
    rw [← e2, sD] at s
    cases s
  show (if ((Value.ref D == Value.ref X) = true) then some true else if ((PySem.W.clsIn K X).isSome && PySem.W.typeIn K (.ref X) == some (.type "type")) = true then PySem.W.subIn K (.ref D) (.ref X) else none) = some false
  rw [if_neg hne, hc, tX, s, if_pos (by rfl)]
/-- what the kit says of the classes asked of: NoHoard, NoMove, NoPlace; NoNet, Endless, TooBig, NoText, Stuck -/
structure ClsF (K : PySem.W.Frag) (X : Addr) : Prop where
  d : PySem.W.hasDictIn K X = true
  t : PySem.W.typeIn K (.ref X) = some (.type "type")
structure KindF (K : PySem.W.Frag) (D T c0 c1 c2 c3 c4 c5 c6 c7 : Addr) (k : Nat) : Prop where
  C : ExcC K D
  top : PySem.W.exmOne K (.ref D) (.ref T) = some true
  ve : PySem.W.kitOne K (.ref D) (.type "ValueError") = some true
  k0 : PySem.W.kitOne K (.ref D) (.ref c0) = some (decide (k = 0))
  k1 : PySem.W.kitOne K (.ref D) (.ref c1) = some (decide (k = 1))
  k2 : PySem.W.kitOne K (.ref D) (.ref c2) = some (decide (k = 2))
  k3 : PySem.W.kitOne K (.ref D) (.ref c3) = some false
  k4 : PySem.W.kitOne K (.ref D) (.ref c4) = some false
  k5 : PySem.W.kitOne K (.ref D) (.ref c5) = some false
  k6 : PySem.W.kitOne K (.ref D) (.ref c6) = some false
  k7 : PySem.W.kitOne K (.ref D) (.ref c7) = some false
theorem kindF_of {K : PySem.W.Frag} {D T c0 c1 c2 c3 c4 c5 c6 c7 : Addr} {k : Nat} (C : ExcC K D) (tD : PySem.W.typeIn K (.ref D) = some (.type "type")) (sv : PySem.W.subIn K (.ref D) (.type "ValueError") = some true) (sD : PySem.W.subIn K (.ref D) (.ref D) = some true)
    (bT : PySem.W.subIn K (.ref T) (.type "BaseException") = some true) (dT : ClsF K T) (sT : PySem.W.subIn K (.ref D) (.ref T) = some true)
    (f0 : ClsF K c0) (f1 : ClsF K c1) (f2 : ClsF K c2) (f3 : ClsF K c3) (f4 : ClsF K c4) (f5 : ClsF K c5) (f6 : ClsF K c6) (f7 : ClsF K c7)
    (s0 : PySem.W.subIn K (.ref D) (.ref c0) = some (decide (k = 0))) (s1 : PySem.W.subIn K (.ref D) (.ref c1) = some (decide (k = 1))) (s2 : PySem.W.subIn K (.ref D) (.ref c2) = some (decide (k = 2)))
    (s3 : PySem.W.subIn K (.ref D) (.ref c3) = some false) (s4 : PySem.W.subIn K (.ref D) (.ref c4) = some false) (s5 : PySem.W.subIn K (.ref D) (.ref c5) = some false) (s6 : PySem.W.subIn K (.ref D) (.ref c6) = some false) (s7 : PySem.W.subIn K (.ref D) (.ref c7) = some false) :
    KindF K D T c0 c1 c2 c3 c4 c5 c6 c7 k := by
  have any : ∀ {X : Addr} {b : Bool}, ClsF K X → PySem.W.subIn K (.ref D) (.ref X) = some b → PySem.W.kitOne K (.ref D) (.ref X) = some b := fun {X b} f s => by
    cases b with
    | true => exact kit_yes f.d f.t s
    | false => exact kit_no f.d f.t s sD
  exact ⟨C, PySem.W.exm_ref bT dT.d dT.t sT, (errF_of C tD sv sD bT dT.d dT.t sT).ve, any f0 s0, any f1 s1, any f2 s2, any f3 s3, any f4 s4, any f5 s5, any f6 s6, any f7 s7⟩
section
variable {K : PySem.W.Frag} {E : XK} {xs : List PyData} {ta : TA} {F : List PyData → Out → Prop} {P : Out → Prop} {D T c0 c1 c2 c3 c4 c5 c6 c7 : Addr} {k : Nat} {d0 : PyData}
def suiteK (K : PySem.W.Frag) (c0 c1 c2 c3 c4 c5 c6 c7 : Addr) : Addr → Value → Option Addr → TS := fun a cls d => (tSeq (tAsg (tLst (tCons (tCB (rIsX K a cls d) (tCons (tVar 1) (tCons (tC (.ref c0)) tNil))) (tCons (tCB (rIsX K a cls d) (tCons (tVar 1) (tCons (tC (.ref c1)) tNil))) (tCons (tCB (rIsX K a cls d) (tCons (tVar 1) (tCons (tC (.ref c2)) tNil))) tNil)))) (gName 2))
    (tSeq (tAsg (tLst (tCons (tCB (rIsX K a cls d) (tCons (tVar 1) (tCons (tC (.ref c3)) tNil))) (tCons (tCB (rIsX K a cls d) (tCons (tVar 1) (tCons (tC (.ref c4)) tNil))) (tCons (tCB (rIsX K a cls d) (tCons (tVar 1) (tCons (tC (.ref c5)) tNil))) (tCons (tCB (rIsX K a cls d) (tCons (tVar 1) (tCons (tC (.ref c6)) tNil))) tNil))))) (gName 3))
    (tSeq (tDrop (tBM K "list" rAppend (tVar 3) (tCons (tCB (rIsX K a cls d) (tCons (tVar 1) (tCons (tC (.ref c7)) tNil))) tNil)))
    (tIfS (tAnd (tB (tCB (rIsX K a cls d) (tCons (tVar 1) (tCons (tC (.ty "ValueError")) tNil)))) (tAnd (tTest (tOp (rEqD K) (tBM K "list" (rCountB K) (tOp (rAddA K) (tVar 2) (tVar 3)) (tCons (tC (.bl true)) tNil)) (tC (.int 1)))) (tTest (tOp (rIn K false) (tC (.bl true)) (tVar 2))))) (tRet (tBM K "list" (rIndex K) (tVar 2) (tCons (tC (.bl true)) tNil))) tNext))))
theorem as_kind (ha : EvA K ta [.d d0, .no, .no, .no] xs) (hF : F xs (.ex (.ref D))) (hE : KindF K D T c0 c1 c2 c3 c4 c5 c6 c7 k) (hk : k < 3) (kP : P (.rt (.int (k : Nat)))) :
    As K E (tTryB K (.ref T) 1 (fun W => tDrop (tCallS (SpD K F) (WE W) ta)) (suiteK K c0 c1 c2 c3 c4 c5 c6 c7)) [.d d0, .no, .no, .no] P := fun G I0 σ H I D' n r cv =>
  ha G σ H I n.s n.h r _ fun vs H1 I1 n1 r1 => ⟨I1, xs, .ex (.ref D), n1.s, r1, hF, fun H2 e => ⟨true, hE.top, fun _ a _ => by
    have r2 := r.next (n1.trans (nx_same n1.s e))
    have n2 := (n.trans n1).trans (nx_same n1.s e)
    have hl : σ.length = 4 := r2.len
    have ty : ∀ {X : Addr}, ∀ u, RelV (.ref X) u → u = Value.ref X := fun u ru => ru
    have g1 : (σ.set 1 (some (V.ref a)))[1]? = some (some (.ref a)) := List.getElem?_set_self (by omega)
    refine ⟨_, g1, D, rfl, rfl, hE.C, .ref c0, .ref c0, _, rfl, ty, hE.k0, ?_⟩
    refine ⟨_, g1, D, rfl, rfl, hE.C, .ref c1, .ref c1, _, rfl, ty, hE.k1, ?_⟩
    refine ⟨_, g1, D, rfl, rfl, hE.C, .ref c2, .ref c2, _, rfl, ty, hE.k2, ?_⟩
    refine ⟨by show 3 ≤ sizeLine; decide, fun p hp => ?_⟩
    have g2 : ((σ.set 1 (some (V.ref a))).set 2 (some (V.ref p)))[1]? = some (some (.ref a)) := by rw [List.getElem?_set_ne (by decide)]; exact g1
    refine ⟨_, g2, D, rfl, rfl, hE.C, .ref c3, .ref c3, _, rfl, ty, hE.k3, ?_⟩
    refine ⟨_, g2, D, rfl, rfl, hE.C, .ref c4, .ref c4, _, rfl, ty, hE.k4, ?_⟩
    refine ⟨_, g2, D, rfl, rfl, hE.C, .ref c5, .ref c5, _, rfl, ty, hE.k5, ?_⟩
    refine ⟨_, g2, D, rfl, rfl, hE.C, .ref c6, .ref c6, _, rfl, ty, hE.k6, ?_⟩
    refine ⟨by show 4 ≤ sizeLine; decide, fun q hq => ?_⟩
    have g3 : (((σ.set 1 (some (V.ref a))).set 2 (some (V.ref p))).set 3 (some (V.ref q)))[1]? = some (some (.ref a)) := by rw [List.getElem?_set_ne (by decide)]; exact g2
    have g4 : (((σ.set 1 (some (V.ref a))).set 2 (some (V.ref p))).set 3 (some (V.ref q)))[3]? = some (some (.ref q)) := List.getElem?_set_self (by rw [List.length_set, List.length_set]; omega)
    refine ⟨.ref q, g4, .inl ⟨rfl, _, .inl (.inl upd_same)⟩, ?_⟩
    refine ⟨_, g3, D, rfl, rfl, hE.C, .ref c7, .ref c7, _, rfl, ty, hE.k7, ?_⟩
    refine ⟨q, _, .bl false, rfl, rfl, upd_same, by show 4 < sizeLine; decide, ?_⟩
    rw [upd_upd]
    have n3 : Nx H2 I1 (upd H2 p (.lst [.bl (decide (k = 0)), .bl (decide (k = 1)), .bl (decide (k = 2))])) (upd I1 p (.lst [.bl (decide (k = 0)), .bl (decide (k = 1)), .bl (decide (k = 2))])) := Nx.new n2.s hp
    have n4 := Nx.new (o := .lst ([.bl false, .bl false, .bl false, .bl false] ++ [.bl false])) n3.s hq
    have r3 := ((r2.next n3).none (i := 1) (o := some (V.ref a))).put (i := 2) (x := .list ([decide (k = 0), decide (k = 1), decide (k = 2)].map .bool)) (Rp.lst (K := K) upd_same (.cons (.bl _) (.cons (.bl _) (.cons (.bl _) .nil))))
    have r4 := (r3.next n4).put (i := 3) (x := .list ([false, false, false, false, false].map .bool)) (Rp.lst (K := K) upd_same (.cons (.bl _) (.cons (.bl _) (.cons (.bl _) (.cons (.bl _) (.cons (.bl _) .nil))))))
    have n5 := (n2.trans n3).trans n4
    refine ⟨_, g3, D, rfl, rfl, hE.C, .ty "ValueError", .type "ValueError", true, rfl, fun u ru => ru, hE.ve, true, rfl, ite_t ?_⟩
    refine (et_and (a := true) (b := true) (et_test (ev_to (ev_op (ev_countB (bs := [decide (k = 0), decide (k = 1), decide (k = 2)] ++ [false, false, false, false, false]) (ev_to (en_cat (ev_var rfl) (ev_var rfl) (by show 8 ≤ sizeLine; decide)).ev rfl)) ev_int (rd_eq rfl rfl)) ?_)) fun _ => et_test (ev_op (x := .bool true) ev_bl (ev_var (x := .list ([decide (k = 0), decide (k = 1), decide (k = 2)].map .bool)) rfl) (rd_inB ?_))) G _ _ _ n5.s n5.h r4 _ fun H6 I6 n6 => ite_t ?_
    · rcases (by omega : k = 0 ∨ k = 1 ∨ k = 2) with rfl | rfl | rfl <;> rfl
    · rcases (by omega : k = 0 ∨ k = 1 ∨ k = 2) with rfl | rfl | rfl <;> decide
    · refine (ev_indexB (bs := [decide (k = 0), decide (k = 1), decide (k = 2)]) (j := k) (ev_var rfl) ?_ ?_) G _ _ _ (n5.trans n6).s (n5.trans n6).h (r4.next n6) _ fun v H7 I7 n7 rv => cv.rt _ _ _ _ kP ((n5.trans n6).trans n7) rv
      · rcases (by omega : k = 0 ∨ k = 1 ∨ k = 2) with rfl | rfl | rfl <;> rfl
      · rcases (by omega : k = 0 ∨ k = 1 ∨ k = 2) with rfl | rfl | rfl
        · intro m hm; omega
        · intro m hm
          have : m = 0 := by omega
          subst this
          rfl
        · intro m hm
          rcases (by omega : m = 0 ∨ m = 1) with rfl | rfl <;> rfl, fun z => nomatch z⟩⟩
end
end Tw

/-! Tw18: in plain Lean: how long a shortest run over a goal can be, place by place left out (Rackoff), and how many hoards that tells. -/
namespace Tw

/-! ### counting -/
theorem sub_len {α : Type} [DecidableEq α] : ∀ {l m : List α}, l.Nodup → (∀ x ∈ l, x ∈ m) → l.length ≤ m.length
  | [], _, _, _ => Nat.zero_le _
  | x :: t, m, h, hs => by
    have hx := hs x List.mem_cons_self
    obtain ⟨hn, ht⟩ := List.nodup_cons.mp h
    have ih := sub_len (l := t) (m := m.erase x) ht fun y hy => by
      have hne : y ≠ x := fun e => hn (e ▸ hy)
      exact (List.mem_erase_of_ne hne).mpr (hs y (List.mem_cons_of_mem _ hy))
    have hl := List.length_erase_of_mem hx
    have hp := List.length_pos_of_mem hx
    rw [List.length_cons]
    omega
/-- all rows below b, place by place -/
def boxes : List Nat → List (List Nat)
  | [] => [[]]
  | b :: B => (List.range b).flatMap fun h => (boxes B).map (h :: ·)
def prodN : List Nat → Nat
  | [] => 1
  | b :: B => b * prodN B
theorem flat_lenN {α β : Type} {f : α → List β} {c : Nat} : ∀ {l : List α}, (∀ x ∈ l, (f x).length = c) → (l.flatMap f).length = l.length * c
  | [], _ => by simp
  | x :: r, h => by
    rw [List.flatMap_cons, List.length_append, flat_lenN (l := r) fun y hy => h y (List.mem_cons_of_mem _ hy), h x List.mem_cons_self, List.length_cons, Nat.succ_mul]
    omega
theorem boxes_len : ∀ B : List Nat, (boxes B).length = prodN B
  | [] => rfl
  | b :: B => by
    unfold boxes prodN
    rw [flat_lenN (c := prodN B) fun x _ => by rw [List.length_map, boxes_len B], List.length_range]
/-- v lies below B, place by place -/
def Under : List Nat → List Nat → Prop
  | [], [] => True
  | v :: vs, b :: bs => v < b ∧ Under vs bs
  | _, _ => False
theorem boxes_mem : ∀ {v B : List Nat}, Under v B → v ∈ boxes B
  | [], [], _ => by simp [boxes]
  | v :: vs, b :: bs, h => by
    unfold boxes
    exact List.mem_flatMap.mpr ⟨v, List.mem_range.mpr h.1, List.mem_map.mpr ⟨vs, boxes_mem h.2, rfl⟩⟩
  | [], _ :: _, h => h.elim
  | _ :: _, [], h => h.elim
theorem under_iff : ∀ {v B : List Nat}, v.length = B.length → (∀ k, k < B.length → v.getD k 0 < B.getD k 0) → Under v B
  | [], [], _, _ => trivial
  | v :: vs, b :: bs, hl, h => ⟨h 0 (by simp), under_iff (by simpa using hl) fun k hk => by
      have := h (k + 1) (by simpa using hk)
      simpa using this⟩
  | [], _ :: _, hl, _ => by simp at hl
  | _ :: _, [], hl, _ => by simp at hl
/-- rows below one of these bounds -/
theorem count_boxes {l : List (List Nat)} {Bs : List (List Nat)} {c : Nat} (hn : l.Nodup) (hu : ∀ v ∈ l, ∃ B ∈ Bs, Under v B) (hc : ∀ B ∈ Bs, prodN B = c) : l.length ≤ Bs.length * c := by
  have h := sub_len (m := Bs.flatMap boxes) hn fun v hv => by
    obtain ⟨B, hB, h⟩ := hu v hv
    exact List.mem_flatMap.mpr ⟨B, hB, boxes_mem h⟩
  rw [flat_lenN (c := c) fun B hB => by rw [boxes_len, hc B hB]] at h
  exact h
theorem prod_rep (x : Nat) : ∀ n : Nat, prodN (List.replicate n x) = x ^ n
  | 0 => rfl
  | n + 1 => by
    rw [List.replicate_succ]
    show x * prodN _ = _
    rw [prod_rep x n, Nat.pow_succ, Nat.mul_comm]
theorem prod_set (x g : Nat) : ∀ (n k : Nat), k < n + 1 → prodN ((List.replicate (n + 1) x).set k g) = g * x ^ n
  | n, 0, _ => by
    rw [List.replicate_succ, List.set_cons_zero]
    show g * prodN _ = _
    rw [prod_rep]
  | 0, k + 1, h => by omega
  | n + 1, k + 1, h => by
    rw [List.replicate_succ, List.set_cons_succ]
    show x * prodN _ = _
    rw [prod_set x g n k (by omega), Nat.pow_succ, Nat.mul_left_comm, Nat.mul_comm x (x ^ n)]

/-! ### backward, place by place: m a move, k a place -/
section
variable (tk gv : Nat → Nat → Nat)
def pre (m : Nat) (y : Nat → Nat) : Nat → Nat := fun k => tk m k + (y k - gv m k)
/-- the least hoard from which a run leads over g -/
def preR (r : List Nat) (g : Nat → Nat) : Nat → Nat := r.foldr (pre tk gv) g
theorem pre_le {m : Nat} {y z : Nat → Nat} {k : Nat} (h : y k ≤ z k) : pre tk gv m y k ≤ pre tk gv m z k := by
  unfold pre
  omega
theorem preR_le : ∀ {r : List Nat} {y z : Nat → Nat} {k : Nat}, y k ≤ z k → preR tk gv r y k ≤ preR tk gv r z k
  | [], _, _, _, h => h
  | m :: r, _, _, _, h => pre_le tk gv (preR_le (r := r) h)
theorem preR_app (r q : List Nat) (g : Nat → Nat) : preR tk gv (r ++ q) g = preR tk gv r (preR tk gv q g) := by
  unfold preR
  rw [List.foldr_append]
theorem preR_grow {w : Nat} (hw : ∀ m k, tk m k ≤ w) : ∀ (r : List Nat) (g : Nat → Nat) (k : Nat), preR tk gv r g k ≤ g k + w * r.length
  | [], g, k => by
    show g k ≤ _
    omega
  | m :: r, g, k => by
    have ih := preR_grow hw r g k
    have := hw m k
    show tk m k + (preR tk gv r g k - gv m k) ≤ _
    rw [List.length_cons, Nat.mul_succ]
    omega
/-- how long a shortest run can be, s places looked at -/
def shortL (G : Nat) : Nat → Nat
  | 0 => 0
  | s + 1 => (s + 1) * (G * (G + 2 * shortL G s + 1) ^ s)
/-- of e a run leads over g, as far as the places S go -/
def CovR (g : Nat → Nat) (S : List Nat) (r : List Nat) (e : Nat → Nat) : Prop := ∀ k ∈ S, preR tk gv r g k ≤ e k
variable {tk gv}
theorem take_drop_len (r : List Nat) (i : Nat) (h : i ≤ r.length) : (r.drop i).length = r.length - i := by rw [List.length_drop]
theorem cov_cut {g e : Nat → Nat} {S r r0 : List Nat} {i : Nat} (h : CovR tk gv g S r e) (h0 : CovR tk gv g S r0 (preR tk gv (r.drop i) g)) : CovR tk gv g S (r.take i ++ r0) e := fun k hk => by
  have h1 := h k hk
  rw [← List.take_append_drop i r, preR_app] at h1
  rw [preR_app]
  exact Nat.le_trans (preR_le tk gv (h0 k hk)) h1
theorem mapS_getD {S : List Nat} {f : Nat → Nat} {k : Nat} (h : k < S.length) : (S.map f).getD k 0 = f (S[k]) := by
  rw [List.getD_eq_getElem?_getD, List.getElem?_map, List.getElem?_eq_getElem h]
  rfl
theorem short {N G : Nat} {g : Nat → Nat} (hG : ∀ k, g k ≤ G) (hw : ∀ m k, tk m k ≤ 2) : ∀ (s : Nat) (S : List Nat), S.length = s → ∀ (n : Nat) (e : Nat → Nat) (r : List Nat), r.length = n → (∀ m ∈ r, m < N) → CovR tk gv g S r e →
    ∃ r0, r0.length ≤ shortL G s ∧ (∀ m ∈ r0, m < N) ∧ CovR tk gv g S r0 e
  | 0, S, hS, n, e, r, _, _, _ => by
    refine ⟨[], Nat.zero_le _, by simp, fun k hk => ?_⟩
    rw [List.eq_nil_of_length_eq_zero hS] at hk
    cases hk
  | s + 1, S, hS, n, e, r, hr, hm, hc => by
    induction n using Nat.strongRecOn generalizing r with
    | ind n ih =>
      by_cases hb : r.length ≤ shortL G (s + 1)
      · exact ⟨r, hb, hm, hc⟩
      -- a shorter one?
      by_cases hx : ∃ i r0, i ≤ r.length ∧ r0.length < r.length - i ∧ (∀ m ∈ r0, m < N) ∧ CovR tk gv g S r0 (preR tk gv (r.drop i) g)
      · obtain ⟨i, r0, hi, hl, hm0, h0⟩ := hx
        refine ih (r.take i ++ r0).length ?_ (r.take i ++ r0) rfl (fun m h => ?_) (cov_cut hc h0)
        · rw [List.length_append, List.length_take]
          omega
        · rcases List.mem_append.mp h with h | h
          · exact hm m (List.mem_of_mem_take h)
          · exact hm0 m h
      -- none: all that stands on the way lies in a box, and is new each time
      exfalso
      have tight : ∀ i r0, i ≤ r.length → (∀ m ∈ r0, m < N) → CovR tk gv g S r0 (preR tk gv (r.drop i) g) → r.length - i ≤ r0.length := fun i r0 hi hm0 h0 => by
        rcases Nat.lt_or_ge r0.length (r.length - i) with h | h
        · exact absurd ⟨i, r0, hi, h, hm0, h0⟩ hx
        · exact h
      have hbox : ∀ i, i ≤ r.length → ∀ k, k < S.length → ∀ (hk : k < S.length), preR tk gv (r.drop i) g S[k] ≤ G + 2 * shortL G s := fun i hi k _ hk => by
        obtain ⟨r0, l0, m0, c0⟩ := short hG hw s (S.eraseIdx k) (by rw [List.length_eraseIdx_of_lt hk]; omega) (r.drop i).length (preR tk gv (r.drop i) g) (r.drop i) rfl (fun m h => hm m (List.mem_of_mem_drop h)) (fun k _ => Nat.le_refl _)
        have g0 := preR_grow tk gv hw r0 g S[k]
        have gk := hG S[k]
        rcases Nat.lt_or_ge (preR tk gv (r.drop i) g S[k]) (preR tk gv r0 g S[k]) with h | h
        · omega
        · have ht := tight i r0 hi m0 fun p hp => by
            obtain ⟨j, hj, rfl⟩ := List.getElem_of_mem hp
            by_cases hjk : j = k
            · subst hjk
              exact h
            · exact c0 _ (List.mem_eraseIdx_iff_getElem.mpr ⟨j, hj, hjk, rfl⟩)
          have g1 := preR_grow tk gv hw (r.drop i) g S[k]
          rw [List.length_drop] at g1
          omega
      have hnew : ((List.range r.length).map fun i => S.map (preR tk gv (r.drop i) g)).Nodup := by
        refine List.pairwise_map.mpr ?_
        refine List.Pairwise.imp_of_mem ?_ (List.pairwise_lt_range (n := r.length))
        intro i j hi hj hij he
        have hi' := List.mem_range.mp hi
        have hj' := List.mem_range.mp hj
        have := tight i (r.drop j) (by omega) (fun m h => hm m (List.mem_of_mem_drop h)) fun k hk => by
          have := (List.map_inj_left.mp he) k hk
          omega
        rw [List.length_drop] at this
        omega
      have hcnt := count_boxes (Bs := (List.range (s + 1)).map fun k => (List.replicate (s + 1) (G + 2 * shortL G s + 1)).set k G) (c := G * (G + 2 * shortL G s + 1) ^ s) hnew (fun v hv => by
        obtain ⟨i, hi, rfl⟩ := List.mem_map.mp hv
        have hi := List.mem_range.mp hi
        -- at some place it lies below the goal
        have hlow : ∃ k, ∃ hk : k < S.length, preR tk gv (r.drop i) g S[k] < g S[k] := by
          apply Classical.byContradiction
          intro hno
          have := tight i [] (by omega) (by simp) fun p hp => by
            obtain ⟨j, hj, rfl⟩ := List.getElem_of_mem hp
            show g S[j] ≤ _
            rcases Nat.lt_or_ge (preR tk gv (r.drop i) g S[j]) (g S[j]) with h | h
            · exact absurd ⟨j, hj, h⟩ hno
            · exact h
          simp at this
          omega
        obtain ⟨k, hk, hlt⟩ := hlow
        refine ⟨_, List.mem_map.mpr ⟨k, List.mem_range.mpr (by omega), rfl⟩, under_iff (by simp [hS]) fun j hj => ?_⟩
        rw [List.length_set, List.length_replicate] at hj
        have hj' : j < S.length := by omega
        rw [mapS_getD hj']
        have hB := hbox i (by omega) j hj' hj'
        by_cases hjk : j = k
        · subst hjk
          have := hG S[j]
          rw [List.getD_eq_getElem?_getD, List.getElem?_set_self (by rw [List.length_replicate]; exact hj), Option.getD_some]
          omega
        · rw [List.getD_eq_getElem?_getD, List.getElem?_set_ne (Ne.symm hjk), List.getElem?_replicate, if_pos hj, Option.getD_some]
          omega) (fun B hB => by
        obtain ⟨k, hk, rfl⟩ := List.mem_map.mp hB
        exact prod_set _ _ s k (List.mem_range.mp hk))
      rw [List.length_map, List.length_range, List.length_map, List.length_range] at hcnt
      exact hb hcnt
end
end Tw

/-! Tw25: in plain Lean: sums, vectors of whole numbers, how many can be independent. -/
namespace Tw
def sumN : Nat → (Nat → Int) → Int
  | 0, _ => 0
  | n + 1, f => sumN n f + f n
theorem sumN_congr {f g : Nat → Int} : ∀ {n : Nat}, (∀ k, k < n → f k = g k) → sumN n f = sumN n g
  | 0, _ => rfl
  | n + 1, h => by
    unfold sumN
    rw [sumN_congr (n := n) fun k hk => h k (by omega), h n (by omega)]
theorem sumN_zero : ∀ {n : Nat} {f : Nat → Int}, (∀ k, k < n → f k = 0) → sumN n f = 0
  | 0, _, _ => rfl
  | n + 1, f, h => by
    unfold sumN
    rw [sumN_zero (n := n) fun k hk => h k (by omega), h n (by omega)]
    rfl
theorem sumN_add (f g : Nat → Int) : ∀ n : Nat, sumN n (fun k => f k + g k) = sumN n f + sumN n g
  | 0 => rfl
  | n + 1 => by
    show sumN n (fun k => f k + g k) + (f n + g n) = (sumN n f + f n) + (sumN n g + g n)
    rw [sumN_add f g n]
    omega
theorem sumN_mul (c : Int) (f : Nat → Int) : ∀ n : Nat, sumN n (fun k => c * f k) = c * sumN n f
  | 0 => by unfold sumN; rw [Int.mul_zero]
  | n + 1 => by
    show sumN n (fun k => c * f k) + c * f n = c * (sumN n f + f n)
    rw [sumN_mul c f n, Int.mul_add]
theorem sumN_neg (f : Nat → Int) : ∀ n : Nat, sumN n (fun k => - f k) = - sumN n f
  | 0 => rfl
  | n + 1 => by
    show sumN n (fun k => - f k) + (- f n) = - (sumN n f + f n)
    rw [sumN_neg f n]
    omega
theorem sumN_swap (f : Nat → Nat → Int) (n : Nat) : ∀ m : Nat, sumN m (fun i => sumN n (fun j => f i j)) = sumN n (fun j => sumN m (fun i => f i j))
  | 0 => (sumN_zero fun _ _ => rfl).symm
  | m + 1 => by
    show sumN m (fun i => sumN n (fun j => f i j)) + sumN n (fun j => f m j) = sumN n (fun j => sumN m (fun i => f i j) + f m j)
    rw [sumN_swap f n m, sumN_add]
theorem sumN_nn {f : Nat → Int} : ∀ {n : Nat}, (∀ k, k < n → 0 ≤ f k) → 0 ≤ sumN n f
  | 0, _ => Int.le_refl _
  | n + 1, h => by
    unfold sumN
    have := sumN_nn (n := n) fun k hk => h k (by omega)
    have := h n (by omega)
    omega
theorem sumN_none {f : Nat → Int} : ∀ {n : Nat}, (∀ k, k < n → 0 ≤ f k) → sumN n f = 0 → ∀ k, k < n → f k = 0
  | 0, _, _, k, hk => by omega
  | n + 1, h, hs, k, hk => by
    unfold sumN at hs
    have h1 := sumN_nn (n := n) fun k hk => h k (by omega)
    have h2 := h n (by omega)
    by_cases e : k = n
    · subst e; omega
    · exact sumN_none (n := n) (fun k hk => h k (by omega)) (by omega) k (by omega)
theorem sumN_one {f : Nat → Int} {j : Nat} : ∀ {n : Nat}, j < n → (∀ k, k < n → k ≠ j → f k = 0) → sumN n f = f j
  | 0, h, _ => by omega
  | n + 1, h, hz => by
    unfold sumN
    by_cases e : j = n
    · subst e
      rw [sumN_zero fun k hk => hz k (by omega) (by omega), Int.zero_add]
    · rw [sumN_one (n := n) (by omega) fun k hk => hz k (by omega), hz n (by omega) (by omega), Int.add_zero]
theorem sumN_two {f : Nat → Int} {i j : Nat} {n : Nat} (hi : i < n) (hj : j < n) (hij : i ≠ j) (hz : ∀ k, k < n → k ≠ i → k ≠ j → f k = 0) : sumN n f = f i + f j := by
  have e : sumN n f = sumN n (fun k => (if k = i then f k else 0) + (if k = i then 0 else f k)) := sumN_congr fun k _ => by
    by_cases h : k = i <;> simp [h]
  rw [e, sumN_add, sumN_one (j := i) hi (fun k _ h => if_neg h), sumN_one (j := j) hj (fun k hk h => by
    by_cases q : k = i
    · rw [if_pos q]
    · rw [if_neg q]
      exact hz k hk q h), if_pos rfl, if_neg (Ne.symm hij)]
theorem sumN_more {f : Nat → Int} {n : Nat} : ∀ {m : Nat}, (∀ k, n ≤ k → k < n + m → f k = 0) → sumN (n + m) f = sumN n f
  | 0, _ => rfl
  | m + 1, h => by
    show sumN (n + m) f + f (n + m) = _
    rw [sumN_more (m := m) fun k a b => h k a (by omega), h (n + m) (by omega) (by omega), Int.add_zero]
theorem sumN_split (f : Nat → Int) (a : Nat) : ∀ b : Nat, sumN (a + b) f = sumN a f + sumN b (fun i => f (a + i))
  | 0 => by
    show sumN a f = sumN a f + 0
    omega
  | b + 1 => by
    show sumN (a + b) f + f (a + b) = sumN a f + (sumN b _ + f (a + b))
    rw [sumN_split f a b]
    omega
/-- all but the p-th -/
theorem sumN_skip (f : Nat → Int) : ∀ {n p : Nat}, p < n + 1 → sumN (n + 1) f = sumN n (fun i => f (if i < p then i else i + 1)) + f p
  | 0, p, h => by
    have : p = 0 := by omega
    subst this
    rfl
  | n + 1, p, h => by
    by_cases e : p = n + 1
    · subst e
      show sumN (n + 1) f + f (n + 1) = _
      congr 1
      exact sumN_congr fun k hk => by rw [if_pos hk]
    · have ih := sumN_skip f (n := n) (p := p) (by omega)
      show sumN (n + 1) f + f (n + 1) = (sumN n (fun i => f (if i < p then i else i + 1)) + f (if n < p then n else n + 1)) + f p
      rw [ih, if_neg (by omega)]
      omega
/-- one more vector than places: they depend on one another -/
theorem depend : ∀ (k : Nat) (v : Nat → Nat → Int), ∃ c : Nat → Int, (∃ i, i < k + 1 ∧ c i ≠ 0) ∧ ∀ j, j < k → sumN (k + 1) (fun i => c i * v i j) = 0
  | 0, v => ⟨fun _ => 1, ⟨0, by omega, by decide⟩, fun j hj => by omega⟩
  | k + 1, v => by
    by_cases hall : ∀ i, i < k + 2 → v i k = 0
    · obtain ⟨c, ⟨i, hi, hc⟩, hs⟩ := depend k v
      refine ⟨fun i => if i < k + 1 then c i else 0, ⟨i, by omega, by (try dsimp only); rw [if_pos hi]; exact hc⟩, fun j hj => ?_⟩
      show sumN (k + 1) _ + (if k + 1 < k + 1 then c (k + 1) else 0) * v (k + 1) j = 0
      rw [if_neg (by omega), Int.zero_mul, Int.add_zero]
      by_cases e : j = k
      · subst e
        exact sumN_zero fun i hi => by rw [hall i (by omega), Int.mul_zero]
      · exact (sumN_congr fun i hi => by (try dsimp only); rw [if_pos hi]).trans (hs j (by omega))
    · obtain ⟨p, hp, ha⟩ : ∃ p, p < k + 2 ∧ v p k ≠ 0 := by
        apply Classical.byContradiction
        intro hno
        exact hall fun i hi => by
          apply Classical.byContradiction
          intro h
          exact hno ⟨i, hi, h⟩
      obtain ⟨c, ⟨i0, hi0, hc⟩, hs⟩ := depend k fun i j => v p k * v (if i < p then i else i + 1) j - v (if i < p then i else i + 1) k * v p j
      refine ⟨fun i => if i = p then - sumN (k + 1) (fun i => c i * v (if i < p then i else i + 1) k) else v p k * c (if i < p then i else i - 1), ⟨if i0 < p then i0 else i0 + 1, by split <;> omega, ?_⟩, fun j hj => ?_⟩
      · have e1 : (if i0 < p then i0 else i0 + 1) ≠ p := by split <;> omega
        have e2 : (if (if i0 < p then i0 else i0 + 1) < p then (if i0 < p then i0 else i0 + 1) else (if i0 < p then i0 else i0 + 1) - 1) = i0 := by
          by_cases h : i0 < p
          · simp [h]
          · rw [if_neg h, if_neg (by omega)]
            omega
        try dsimp only
        rw [if_neg e1, e2]
        exact Int.mul_ne_zero ha hc
      · rw [sumN_skip _ hp]
        try dsimp only
        rw [if_pos rfl]
        have e3 : sumN (k + 1) (fun i => (if (if i < p then i else i + 1) = p then - sumN (k + 1) (fun i => c i * v (if i < p then i else i + 1) k) else v p k * c (if (if i < p then i else i + 1) < p then (if i < p then i else i + 1) else (if i < p then i else i + 1) - 1)) * v (if i < p then i else i + 1) j) = sumN (k + 1) (fun i => c i * (v p k * v (if i < p then i else i + 1) j)) := sumN_congr fun i hi => by
          have e1 : (if i < p then i else i + 1) ≠ p := by split <;> omega
          have e2 : (if (if i < p then i else i + 1) < p then (if i < p then i else i + 1) else (if i < p then i else i + 1) - 1) = i := by
            by_cases h : i < p
            · simp [h]
            · rw [if_neg h, if_neg (by omega)]
              omega
          try dsimp only
          rw [if_neg e1, e2, Int.mul_comm (v p k) (c i), Int.mul_assoc]
        rw [e3]
        -- what the elimination tells at j; at the last place it is nought by itself
        have e4 : sumN (k + 1) (fun i => c i * (v p k * v (if i < p then i else i + 1) j - v (if i < p then i else i + 1) k * v p j)) = 0 := by
          by_cases e : j = k
          · subst e
            exact sumN_zero fun i hi => by
              try dsimp only
              rw [Int.mul_comm (v p j), Int.sub_self, Int.mul_zero]
          · exact hs j (by omega)
        have e5 : sumN (k + 1) (fun i => c i * (v p k * v (if i < p then i else i + 1) j - v (if i < p then i else i + 1) k * v p j)) = sumN (k + 1) (fun i => c i * (v p k * v (if i < p then i else i + 1) j)) + - (sumN (k + 1) (fun i => c i * v (if i < p then i else i + 1) k) * v p j) := by
          rw [Int.mul_comm (sumN _ _) (v p j), ← sumN_mul, ← sumN_neg, ← sumN_add]
          refine sumN_congr fun i _ => ?_
          try dsimp only
          rw [Int.mul_sub, Int.sub_eq_add_neg, ← Int.mul_assoc (c i) (v _ k) (v p j), Int.mul_comm (c i * v _ k) (v p j)]
        rw [e5] at e4
        rw [Int.neg_mul]
        exact e4
theorem depend' {m k : Nat} (h : k < m) (v : Nat → Nat → Int) : ∃ c : Nat → Int, (∃ i, i < m ∧ c i ≠ 0) ∧ ∀ j, j < k → sumN m (fun i => c i * v i j) = 0 := by
  obtain ⟨c, ⟨i, hi, hc⟩, hs⟩ := depend k v
  obtain ⟨d, rfl⟩ := Nat.le.dest (show k + 1 ≤ m from h)
  refine ⟨fun i => if i < k + 1 then c i else 0, ⟨i, by omega, by (try dsimp only); rw [if_pos hi]; exact hc⟩, fun j hj => ?_⟩
  rw [sumN_more fun i h1 h2 => by (try dsimp only); rw [if_neg (by omega), Int.zero_mul]]
  exact (sumN_congr fun i hi => by (try dsimp only); rw [if_pos hi]).trans (hs j hj)
/-- no sum of them, but for the one without any, is nought -/
def Indep (a N : Nat) (u : Nat → Nat → Int) : Prop := ∀ c : Nat → Int, (∀ j, j < N → sumN a (fun i => c i * u i j) = 0) → ∀ i, i < a → c i = 0
def dotN (N : Nat) (x y : Nat → Int) : Int := sumN N (fun k => x k * y k)
theorem dot_comm (N : Nat) (x y : Nat → Int) : dotN N x y = dotN N y x := sumN_congr fun k _ => Int.mul_comm _ _
theorem dot_sum_right (N a : Nat) (x : Nat → Int) (c : Nat → Int) (u : Nat → Nat → Int) : dotN N x (fun j => sumN a (fun i => c i * u i j)) = sumN a (fun i => c i * dotN N x (u i)) := by
  unfold dotN
  have e : sumN N (fun k => x k * sumN a (fun i => c i * u i k)) = sumN N (fun k => sumN a (fun i => x k * (c i * u i k))) := sumN_congr fun k _ => (sumN_mul _ _ _).symm
  rw [e, sumN_swap]
  refine sumN_congr fun i _ => ?_
  try dsimp only
  rw [← sumN_mul]
  exact sumN_congr fun k _ => by (try dsimp only); rw [← Int.mul_assoc, Int.mul_comm (x k) (c i), Int.mul_assoc]
/-- each with a place of its own -/
theorem indep_own {a N : Nat} {u : Nat → Nat → Int} (col : Nat → Nat) (hc : ∀ i, i < a → col i < N) (h1 : ∀ i, i < a → u i (col i) ≠ 0) (h0 : ∀ i i', i < a → i' < a → i' ≠ i → u i' (col i) = 0) : Indep a N u := fun c hs i hi => by
  have h := hs (col i) (hc i hi)
  rw [sumN_one (j := i) hi fun k hk hki => by rw [h0 i k hi hk hki, Int.mul_zero]] at h
  rcases Int.mul_eq_zero.mp h with q | q
  · exact q
  · exact absurd q (h1 i hi)
theorem dot_self {N : Nat} {x : Nat → Int} (h : dotN N x x = 0) : ∀ j, j < N → x j = 0 := fun j hj => by
  have := sumN_none (f := fun k => x k * x k) (fun k _ => by
    rcases Int.le_total 0 (x k) with q | q
    · exact Int.mul_nonneg q q
    · exact Int.mul_nonneg_of_nonpos_of_nonpos q q) h j hj
  rcases Int.mul_eq_zero.mp this with q | q <;> exact q
/-- two independent families that stand at right angles have no more vectors than there are places -/
theorem orth_count {a b N : Nat} {u v : Nat → Nat → Int} (hu : Indep a N u) (hv : Indep b N v) (ho : ∀ i j, i < a → j < b → dotN N (u i) (v j) = 0) : a + b ≤ N := by
  rcases Nat.lt_or_ge N (a + b) with h | h
  · exfalso
    obtain ⟨c, ⟨i, hi, hc⟩, hs⟩ := depend' h fun i => if i < a then u i else v (i - a)
    have split : ∀ j, j < N → sumN a (fun i => c i * u i j) + sumN b (fun i => c (a + i) * v i j) = 0 := fun j hj => by
      have h1 := hs j hj
      rw [sumN_split] at h1
      rw [← h1]
      congr 1
      · exact sumN_congr fun i hi => by (try dsimp only); rw [if_pos hi]
      · exact sumN_congr fun i hi => by (try dsimp only); rw [if_neg (by omega), show a + i - a = i by omega]
    have hx : dotN N (fun j => sumN a (fun i => c i * u i j)) (fun j => sumN a (fun i => c i * u i j)) = 0 := by
      have e : dotN N (fun j => sumN a (fun i => c i * u i j)) (fun j => sumN a (fun i => c i * u i j)) = - dotN N (fun j => sumN a (fun i => c i * u i j)) (fun j => sumN b (fun i => c (a + i) * v i j)) := by
        unfold dotN
        rw [← sumN_neg]
        refine sumN_congr fun j hj => ?_
        have h1 : sumN a (fun i => c i * u i j) = - sumN b (fun i => c (a + i) * v i j) := by
          have := split j hj
          omega
        rw [← Int.mul_neg, ← h1]
      rw [e, dot_sum_right]
      rw [sumN_zero fun i hi => by
        rw [dot_comm, dot_sum_right, sumN_zero fun k hk => by rw [dot_comm, ho k i hk hi, Int.mul_zero], Int.mul_zero]]
      rfl
    have h0 := dot_self hx
    by_cases hia : i < a
    · exact hc (hu c h0 i hia)
    · have := hv (fun i => c (a + i)) (fun j hj => by
        have h1 := split j hj
        have h2 := h0 j hj
        try dsimp only at h2
        omega) (i - a) (by omega)
      rw [show a + (i - a) = i by omega] at this
      exact hc this
  · exact h
end Tw

/-! Tw26: in plain Lean: rows without a common divisor, elimination, grounds. -/
namespace Tw
def vec (r : List Int) : Nat → Int := fun k => r.getD k 0
def gcdL (r : List Int) : Nat := r.foldl (fun g x => Nat.gcd g x.natAbs) 0
def firstL (r : List Int) : Int := r.foldl (fun f x => if f = 0 then x else f) 0
def sgnL (r : List Int) : Int := if firstL r < 0 then -(gcdL r : Int) else gcdL r
def plainF (r : List Int) : List Int := if gcdL r = 0 then r else r.map fun x => x.fdiv (sgnL r)
theorem gfold_dvd : ∀ (r : List Int) (g : Nat), r.foldl (fun g x => Nat.gcd g x.natAbs) g ∣ g ∧ ∀ x ∈ r, r.foldl (fun g x => Nat.gcd g x.natAbs) g ∣ x.natAbs
  | [], g => ⟨Nat.dvd_refl _, by simp⟩
  | y :: r, g => by
    obtain ⟨h1, h2⟩ := gfold_dvd r (Nat.gcd g y.natAbs)
    refine ⟨Nat.dvd_trans h1 (Nat.gcd_dvd_left _ _), fun x hx => ?_⟩
    rcases List.mem_cons.mp hx with rfl | hx
    · exact Nat.dvd_trans h1 (Nat.gcd_dvd_right _ _)
    · exact h2 x hx
theorem gcdL_dvd {r : List Int} {x : Int} (hx : x ∈ r) : gcdL r ∣ x.natAbs := (gfold_dvd r 0).2 x hx
theorem gcdL_zero {r : List Int} (h : gcdL r = 0) : ∀ x ∈ r, x = 0 := fun x hx => by
  have := gcdL_dvd hx
  rw [h] at this
  have := Nat.eq_zero_of_zero_dvd this
  omega
theorem gfold_mul (c : Int) : ∀ (r : List Int) (g : Nat), (r.map (c * ·)).foldl (fun g x => Nat.gcd g x.natAbs) (c.natAbs * g) = c.natAbs * r.foldl (fun g x => Nat.gcd g x.natAbs) g
  | [], g => rfl
  | y :: r, g => by
    rw [List.map_cons, List.foldl_cons, List.foldl_cons, Int.natAbs_mul, Nat.gcd_mul_left, gfold_mul c r]
theorem gcdL_mul (c : Int) (r : List Int) : gcdL (r.map (c * ·)) = c.natAbs * gcdL r := by
  have := gfold_mul c r 0
  rw [Nat.mul_zero] at this
  exact this
theorem ffold_stay : ∀ (r : List Int) (f : Int), f ≠ 0 → r.foldl (fun f x => if f = 0 then x else f) f = f
  | [], _, _ => rfl
  | y :: r, f, h => by
    rw [List.foldl_cons, if_neg h]
    exact ffold_stay r f h
theorem firstL_at : ∀ {r : List Int} {q : Nat}, q < r.length → r.getD q 0 ≠ 0 → (∀ k, k < q → r.getD k 0 = 0) → firstL r = r.getD q 0
  | [], q, h, _, _ => by simp at h
  | y :: r, 0, _, h, _ => by
    have h : y ≠ 0 := h
    show r.foldl _ (if (0 : Int) = 0 then y else 0) = y
    rw [if_pos rfl]
    exact ffold_stay r y h
  | y :: r, q + 1, hl, h, h0 => by
    have hy : y = 0 := h0 0 (by omega)
    show r.foldl _ (if (0 : Int) = 0 then y else 0) = (y :: r).getD (q + 1) 0
    rw [if_pos rfl, hy]
    exact firstL_at (r := r) (q := q) (by simpa using hl) (by simpa using h) fun k hk => by
      have := h0 (k + 1) (by omega)
      simpa using this
theorem sgn_abs (r : List Int) : (sgnL r).natAbs = gcdL r := by
  unfold sgnL
  split <;> omega
theorem vec_out {r : List Int} {k : Nat} (h : r.length ≤ k) : vec r k = 0 := by
  unfold vec
  rw [List.getD_eq_getElem?_getD, List.getElem?_eq_none_iff.mpr h]
  rfl
theorem vec_mem {r : List Int} {k : Nat} (h : k < r.length) : vec r k ∈ r := by
  unfold vec
  rw [List.getD_eq_getElem?_getD, List.getElem?_eq_getElem h]
  exact List.getElem_mem h
theorem vec_map {r : List Int} {f : Int → Int} (h0 : f 0 = 0) (k : Nat) : vec (r.map f) k = f (vec r k) := by
  unfold vec
  rw [List.getD_eq_getElem?_getD, List.getD_eq_getElem?_getD, List.getElem?_map]
  cases r[k]? with
  | none => exact h0.symm
  | some x => rfl
theorem vec_ext {a b : List Int} (hl : a.length = b.length) (h : ∀ k, k < a.length → vec a k = vec b k) : a = b := by
  apply List.ext_getElem hl
  intro k h1 h2
  have := h k h1
  unfold vec at this
  rw [List.getD_eq_getElem?_getD, List.getD_eq_getElem?_getD, List.getElem?_eq_getElem h1, List.getElem?_eq_getElem h2] at this
  exact this
theorem plain_len (r : List Int) : (plainF r).length = r.length := by
  unfold plainF
  split
  · rfl
  · rw [List.length_map]
/-- the row is so many times the plain one -/
structure Plain (r : List Int) (c : Int) : Prop where
  ne : c ≠ 0
  eq : ∀ k, vec r k = c * vec (plainF r) k
  one : (∃ k, vec r k ≠ 0) → gcdL (plainF r) = 1
  pos : ∀ q, vec r q ≠ 0 → (∀ k, k < q → vec r k = 0) → 0 < vec (plainF r) q
theorem plain_ok (r : List Int) : ∃ c, Plain r c := by
  by_cases hg : gcdL r = 0
  · have e : plainF r = r := by unfold plainF; rw [if_pos hg]
    have hz : ∀ k, vec r k = 0 := fun k => by
      by_cases hk : k < r.length
      · exact gcdL_zero hg _ (vec_mem hk)
      · exact vec_out (by omega)
    refine ⟨1, by decide, fun k => by rw [e, Int.one_mul], fun ⟨k, hk⟩ => absurd (hz k) hk, fun q hq _ => absurd (hz q) hq⟩
  · have hc : sgnL r ≠ 0 := fun z => hg (by rw [← sgn_abs, z]; rfl)
    have e : plainF r = r.map fun x => x.fdiv (sgnL r) := by unfold plainF; rw [if_neg hg]
    have hv : ∀ k, vec (plainF r) k = (vec r k).fdiv (sgnL r) := fun k => by
      rw [e, vec_map (f := fun x => x.fdiv (sgnL r)) (Int.zero_fdiv _)]
    have hd : ∀ k, sgnL r ∣ vec r k := fun k => by
      by_cases hk : k < r.length
      · have := gcdL_dvd (vec_mem hk)
        rw [← sgn_abs] at this
        exact Int.natAbs_dvd_natAbs.mp this
      · rw [vec_out (by omega)]
        exact Int.dvd_zero _
    have heq : ∀ k, vec r k = sgnL r * vec (plainF r) k := fun k => by
      obtain ⟨b, hb⟩ := hd k
      rw [hv k, hb, Int.mul_fdiv_cancel_left _ hc]
    refine ⟨sgnL r, hc, heq, fun _ => ?_, fun q hq h0 => ?_⟩
    · have em : r = (plainF r).map (sgnL r * ·) := vec_ext (by rw [List.length_map, plain_len]) fun k _ => by
        rw [vec_map (f := fun x => sgnL r * x) (Int.mul_zero _)]
        exact heq k
      have hm := gcdL_mul (sgnL r) (plainF r)
      rw [← em, sgn_abs] at hm
      have hp : 0 < gcdL r := by omega
      exact (Nat.mul_eq_left (by omega)).mp hm.symm
    · have hql : q < r.length := by
        rcases Nat.lt_or_ge q r.length with h | h
        · exact h
        · exact absurd (vec_out h) hq
      have hf := firstL_at hql hq h0
      have h1 := heq q
      have hf : firstL r = vec r q := hf
      unfold sgnL at h1
      rw [hf] at h1
      have hp : (0 : Int) < gcdL r := by omega
      split at h1
      · rename_i hneg
        rcases Int.lt_trichotomy (vec (plainF r) q) 0 with a | a | a
        · exfalso
          have := Int.mul_pos hp (show 0 < - vec (plainF r) q by omega)
          rw [Int.mul_neg] at this
          rw [Int.neg_mul] at h1
          omega
        · rw [a, Int.mul_zero] at h1
          exact absurd h1 hq
        · exact a
      · rename_i hneg
        rcases Int.lt_trichotomy (vec (plainF r) q) 0 with a | a | a
        · exfalso
          have := Int.mul_pos hp (show 0 < - vec (plainF r) q by omega)
          rw [Int.mul_neg] at this
          omega
        · rw [a, Int.mul_zero] at h1
          exact absurd h1 hq
        · exact a
theorem plain_small {r : List Int} {b : Nat} (h : ∀ x ∈ r, x.natAbs < 2 ^ b) : ∀ x ∈ plainF r, x.natAbs < 2 ^ b := fun x hx => by
  obtain ⟨k, hk, rfl⟩ := List.getElem_of_mem hx
  obtain ⟨c, P⟩ := plain_ok r
  have hk' : k < r.length := by rw [plain_len] at hk; exact hk
  have e : vec (plainF r) k = (plainF r)[k] := by
    unfold vec
    rw [List.getD_eq_getElem?_getD, List.getElem?_eq_getElem hk]
    rfl
  have h1 := h _ (vec_mem hk')
  rw [P.eq k, e, Int.natAbs_mul] at h1
  have hc : 1 ≤ c.natAbs := by
    have := P.ne
    omega
  have : (plainF r)[k].natAbs ≤ c.natAbs * (plainF r)[k].natAbs := Nat.le_mul_of_pos_left _ hc
  omega
/-- one row less another one, each so often that a place is nought -/
def combL (r o : List Int) (p : Nat) : List Int := (List.range r.length).map fun k => r.getD k 0 * o.getD p 0 - o.getD k 0 * r.getD p 0
def easeF (r o : List Int) (p : Nat) : List Int := plainF (combL r o p)
theorem comb_len (r o : List Int) (p : Nat) : (combL r o p).length = r.length := by
  unfold combL
  rw [List.length_map, List.length_range]
theorem comb_vec {r o : List Int} {p : Nat} (h : o.length ≤ r.length) (k : Nat) : vec (combL r o p) k = vec r k * vec o p - vec o k * vec r p := by
  by_cases hk : k < r.length
  · unfold vec combL
    rw [List.getD_eq_getElem?_getD, List.getElem?_map, List.getElem?_range hk]
    rfl
  · rw [vec_out (r := combL r o p) (k := k) (by rw [comb_len]; omega), vec_out (r := r) (k := k) (by omega), vec_out (r := o) (k := k) (by omega), Int.zero_mul, Int.zero_mul]
    rfl
theorem ease_len (r o : List Int) (p : Nat) : (easeF r o p).length = r.length := by
  unfold easeF
  rw [plain_len, comb_len]
/-! ### elimination -/
def headStep (p : Nat) (s : List (List Int) × List (List Int)) : List (List Int) × List (List Int) := match s.2.filter (fun r => decide (r.getD p 0 ≠ 0)) with
  | [] => s
  | f :: _ => (s.1.map (fun r => easeF r (plainF f) p) ++ [plainF f], s.2.map fun r => easeF r (plainF f) p)
def headsS (R : List (List Int)) : Nat → List (List Int) × List (List Int)
  | 0 => ([], R)
  | p + 1 => headStep p (headsS R p)
def headsF (N : Nat) (R : List (List Int)) : List (List Int) := (headsS R N).1
structure HI (N : Nat) (R : List (List Int)) (p : Nat) (made left : List (List Int)) (ps : List Nat) : Prop where
  lm : ∀ r ∈ made, r.length = N
  ll : ∀ r ∈ left, r.length = N
  z : ∀ r ∈ left, ∀ k, k < p → vec r k = 0
  pl : ps.length = made.length
  pp : ps.Pairwise (· < ·)
  pb : ∀ q ∈ ps, q < p
  hd : ∀ (i : Nat) r q, made[i]? = some r → ps[i]? = some q → 0 < vec r q ∧ (∀ k, k < q → vec r k = 0) ∧ gcdL r = 1
  ow : ∀ (i j : Nat) r q, made[i]? = some r → ps[j]? = some q → i ≠ j → vec r q = 0
  or : ∀ x : Nat → Int, (∀ r ∈ R, dotN N x (vec r) = 0) ↔ (∀ r ∈ made, dotN N x (vec r) = 0) ∧ ∀ r ∈ left, dotN N x (vec r) = 0
theorem dot_scale {N : Nat} {x : Nat → Int} {r s : List Int} {c : Int} (h : ∀ k, vec r k = c * vec s k) : dotN N x (vec r) = c * dotN N x (vec s) := by
  unfold dotN
  rw [← sumN_mul]
  exact sumN_congr fun k _ => by
    rw [h k, ← Int.mul_assoc, Int.mul_comm (x k) c, Int.mul_assoc]
theorem dot_comb {N : Nat} {x : Nat → Int} {r o : List Int} {p : Nat} (h : o.length ≤ r.length) : dotN N x (vec (combL r o p)) = vec o p * dotN N x (vec r) - vec r p * dotN N x (vec o) := by
  unfold dotN
  rw [← sumN_mul, ← sumN_mul, Int.sub_eq_add_neg, ← sumN_neg, ← sumN_add]
  exact sumN_congr fun k _ => by
    rw [comb_vec h, Int.mul_sub, Int.sub_eq_add_neg]
    congr 1
    · rw [← Int.mul_assoc, Int.mul_comm (vec o p)]
    · congr 1
      rw [← Int.mul_assoc, Int.mul_comm (vec r p)]
theorem HI.start {N : Nat} {R : List (List Int)} (h : ∀ r ∈ R, r.length = N) : HI N R 0 [] R [] :=
  ⟨by simp, h, fun r hr k hk => by omega, rfl, List.Pairwise.nil, by simp, fun i r q e => by simp at e, fun i j r q e => by simp at e, fun x => ⟨fun h => ⟨by simp, h⟩, fun h => h.2⟩⟩
theorem HI.step {N : Nat} {R : List (List Int)} {p : Nat} {made left : List (List Int)} {ps : List Nat} (I : HI N R p made left ps) (hp : p < N) :
    ∃ ps', HI N R (p + 1) (headStep p (made, left)).1 (headStep p (made, left)).2 ps' := by
  unfold headStep
  cases hf : left.filter (fun r => decide (r.getD p 0 ≠ 0)) with
  | nil =>
    refine ⟨ps, I.lm, I.ll, fun r hr k hk => ?_, I.pl, I.pp, fun q hq => by have := I.pb q hq; omega, I.hd, I.ow, I.or⟩
    by_cases e : k = p
    · subst e
      have := List.filter_eq_nil_iff.mp hf r hr
      apply Classical.byContradiction
      intro h
      exact this (decide_eq_true h)
    · exact I.z r hr k (by omega)
  | cons f fs =>
    show ∃ ps', HI N R (p + 1) (made.map (fun r => easeF r (plainF f) p) ++ [plainF f]) (left.map fun r => easeF r (plainF f) p) ps'
    have hfm : f ∈ left ∧ decide (f.getD p 0 ≠ 0) = true := List.mem_filter.mp (by rw [hf]; exact List.mem_cons_self)
    have hfl := I.ll f hfm.1
    have hfp : vec f p ≠ 0 := of_decide_eq_true hfm.2
    have hfz := I.z f hfm.1
    obtain ⟨c, P⟩ := plain_ok f
    have hl : (plainF f).length = N := by rw [plain_len, hfl]
    have hhp : 0 < vec (plainF f) p := P.pos p hfp hfz
    have hhz : ∀ k, k < p → vec (plainF f) k = 0 := fun k hk => by
      have := P.eq k
      rw [hfz k hk] at this
      rcases Int.mul_eq_zero.mp this.symm with q | q
      · exact absurd q P.ne
      · exact q
    have hg1 : gcdL (plainF f) = 1 := P.one ⟨p, hfp⟩
    generalize hh : plainF f = head at hl hhp hhz hg1 ⊢
    -- a row, eased
    have eas : ∀ r : List Int, r.length = N → ∃ d, d ≠ 0 ∧ (∀ k, d * vec (easeF r head p) k = vec r k * vec head p - vec head k * vec r p) ∧ (∀ q, vec r q * vec head p - vec head q * vec r p ≠ 0 → (∀ k, k < q → vec r k * vec head p - vec head k * vec r p = 0) → 0 < vec (easeF r head p) q ∧ gcdL (easeF r head p) = 1) := fun r hr => by
      obtain ⟨d, Q⟩ := plain_ok (combL r head p)
      have hle : head.length ≤ r.length := by omega
      refine ⟨d, Q.ne, fun k => by rw [← comb_vec hle]; exact (Q.eq k).symm, fun q h1 h2 => ?_⟩
      rw [← comb_vec hle] at h1
      exact ⟨Q.pos q h1 fun k hk => by rw [comb_vec hle]; exact h2 k hk, Q.one ⟨q, h1⟩⟩
    have ez : ∀ r : List Int, r.length = N → ∀ k, vec r k * vec head p - vec head k * vec r p = 0 → vec (easeF r head p) k = 0 := fun r hr k h => by
      obtain ⟨d, hd, he, _⟩ := eas r hr
      have := he k
      rw [h] at this
      rcases Int.mul_eq_zero.mp this with q | q
      · exact absurd q hd
      · exact q
    have ezp : ∀ r : List Int, r.length = N → vec (easeF r head p) p = 0 := fun r hr => ez r hr p (by rw [Int.mul_comm, Int.sub_self])
    have edot : ∀ (x : Nat → Int) (r : List Int), r.length = N → dotN N x (vec head) = 0 → (dotN N x (vec (easeF r head p)) = 0 ↔ dotN N x (vec r) = 0) := fun x r hr h0 => by
      obtain ⟨d, hd, he, _⟩ := eas r hr
      have hle : head.length ≤ r.length := by omega
      have e1 : dotN N x (vec (combL r head p)) = d * dotN N x (vec (easeF r head p)) := dot_scale fun k => by rw [comb_vec hle]; exact (he k).symm
      rw [dot_comb hle, h0, Int.mul_zero, Int.sub_zero] at e1
      constructor
      · intro h
        rw [h, Int.mul_zero] at e1
        rcases Int.mul_eq_zero.mp e1 with q | q
        · omega
        · exact q
      · intro h
        rw [h, Int.mul_zero] at e1
        rcases Int.mul_eq_zero.mp e1.symm with q | q
        · exact absurd q hd
        · exact q
    have getm : ∀ {i : Nat} {r : List Int}, (made.map (fun r => easeF r head p) ++ [head])[i]? = some r → (∃ s, made[i]? = some s ∧ r = easeF s head p) ∨ (i = made.length ∧ r = head) := fun {i r} e => by
      by_cases hi : i < made.length
      · rw [List.getElem?_append_left (by rw [List.length_map]; exact hi), List.getElem?_map, List.getElem?_eq_getElem hi] at e
        exact .inl ⟨_, List.getElem?_eq_getElem hi, (Option.some.inj e).symm⟩
      · have hil := (List.getElem?_eq_some_iff.mp e).1
        rw [List.length_append, List.length_map, List.length_singleton] at hil
        have : i = made.length := by omega
        subst this
        rw [List.getElem?_append_right (by rw [List.length_map]; exact Nat.le_refl _), List.length_map, Nat.sub_self] at e
        exact .inr ⟨rfl, (Option.some.inj e).symm⟩
    have getp : ∀ {i q : Nat}, (ps ++ [p])[i]? = some q → ps[i]? = some q ∨ (i = made.length ∧ q = p) := fun {i q} e => by
      by_cases hi : i < ps.length
      · rw [List.getElem?_append_left hi] at e
        exact .inl e
      · have hil := (List.getElem?_eq_some_iff.mp e).1
        rw [List.length_append, List.length_singleton] at hil
        have : i = ps.length := by omega
        subst this
        rw [List.getElem?_append_right (Nat.le_refl _), Nat.sub_self] at e
        exact .inr ⟨I.pl, (Option.some.inj e).symm⟩
    refine ⟨ps ++ [p], fun r hr => ?_, fun r hr => ?_, fun r hr k hk => ?_, by rw [List.length_append, List.length_append, List.length_map, I.pl]; rfl, ?_, fun q hq => ?_, fun i r q e1 e2 => ?_, fun i j r q e1 e2 hij => ?_, fun x => ?_⟩
    · rcases List.mem_append.mp hr with q | q
      · obtain ⟨s, hs, rfl⟩ := List.mem_map.mp q
        rw [ease_len, I.lm s hs]
      · rw [List.mem_singleton.mp q, hl]
    · obtain ⟨s, hs, rfl⟩ := List.mem_map.mp hr
      rw [ease_len, I.ll s hs]
    · obtain ⟨s, hs, rfl⟩ := List.mem_map.mp hr
      by_cases e : k = p
      · subst e
        exact ezp s (I.ll s hs)
      · exact ez s (I.ll s hs) k (by rw [I.z s hs k (by omega), hhz k (by omega), Int.zero_mul, Int.zero_mul]; rfl)
    · exact List.pairwise_append.mpr ⟨I.pp, List.pairwise_singleton _ _, fun a ha b hb => by rw [List.mem_singleton.mp hb]; exact I.pb a ha⟩
    · rcases List.mem_append.mp hq with h | h
      · have := I.pb q h
        omega
      · rw [List.mem_singleton.mp h]
        omega
    · rcases getm e1 with ⟨s, hs, rfl⟩ | ⟨h1, rfl⟩
      · rcases getp e2 with h2 | ⟨h2, _⟩
        · have hsm := List.mem_of_getElem? hs
          obtain ⟨a1, a2, a3⟩ := I.hd i s q hs h2
          have hq := I.pb q (List.mem_of_getElem? h2)
          have hhq := hhz q hq
          obtain ⟨d, hd, he, hpos⟩ := eas s (I.lm s hsm)
          have e0 : ∀ k, k < q → vec s k * vec head p - vec head k * vec s p = 0 := fun k hk => by
            rw [a2 k hk, hhz k (by omega), Int.zero_mul, Int.zero_mul]
            rfl
          have e1 : vec s q * vec head p - vec head q * vec s p ≠ 0 := by
            rw [hhq, Int.zero_mul, Int.sub_zero]
            exact Int.mul_ne_zero (by omega) (by omega)
          obtain ⟨b1, b2⟩ := hpos q e1 e0
          exact ⟨b1, fun k hk => ez s (I.lm s hsm) k (e0 k hk), b2⟩
        · have := (List.getElem?_eq_some_iff.mp hs).1
          omega
      · rcases getp e2 with h2 | ⟨_, rfl⟩
        · have := (List.getElem?_eq_some_iff.mp h2).1
          rw [I.pl] at this
          omega
        · exact ⟨hhp, hhz, hg1⟩
    · rcases getm e1 with ⟨s, hs, rfl⟩ | ⟨h1, rfl⟩
      · have hsm := List.mem_of_getElem? hs
        rcases getp e2 with h2 | ⟨_, rfl⟩
        · have hq := I.pb q (List.mem_of_getElem? h2)
          exact ez s (I.lm s hsm) q (by rw [I.ow i j s q hs h2 hij, hhz q hq, Int.zero_mul, Int.zero_mul]; rfl)
        · exact ezp s (I.lm s hsm)
      · rcases getp e2 with h2 | ⟨h2, _⟩
        · exact hhz q (I.pb q (List.mem_of_getElem? h2))
        · omega
    · rw [I.or x]
      have hfd : dotN N x (vec f) = c * dotN N x (vec head) := by
        refine dot_scale fun k => ?_
        rw [← hh]
        exact P.eq k
      constructor
      · rintro ⟨m1, m2⟩
        have h0 : dotN N x (vec head) = 0 := by
          have := m2 f hfm.1
          rw [hfd] at this
          rcases Int.mul_eq_zero.mp this with q | q
          · exact absurd q P.ne
          · exact q
        refine ⟨fun r hr => ?_, fun r hr => ?_⟩
        · rcases List.mem_append.mp hr with q | q
          · obtain ⟨s, hs, rfl⟩ := List.mem_map.mp q
            exact (edot x s (I.lm s hs) h0).mpr (m1 s hs)
          · rw [List.mem_singleton.mp q]
            exact h0
        · obtain ⟨s, hs, rfl⟩ := List.mem_map.mp hr
          exact (edot x s (I.ll s hs) h0).mpr (m2 s hs)
      · rintro ⟨m1, m2⟩
        have h0 : dotN N x (vec head) = 0 := m1 head (List.mem_append_right _ (List.mem_singleton_self _))
        exact ⟨fun r hr => (edot x r (I.lm r hr) h0).mp (m1 _ (List.mem_append_left _ (List.mem_map.mpr ⟨r, hr, rfl⟩))), fun r hr => (edot x r (I.ll r hr) h0).mp (m2 _ (List.mem_map.mpr ⟨r, hr, rfl⟩))⟩
theorem heads_inv {N : Nat} {R : List (List Int)} (h : ∀ r ∈ R, r.length = N) : ∀ p, p ≤ N → ∃ ps, HI N R p (headsS R p).1 (headsS R p).2 ps
  | 0, _ => ⟨[], HI.start h⟩
  | p + 1, hp => by
    obtain ⟨ps, I⟩ := heads_inv h p (by omega)
    exact I.step (by omega)
/-- a ground: the rows' first places rise, each nought in all other rows; no common divisor; the same stands at right angles -/
structure Ground (N : Nat) (R H : List (List Int)) (ps : List Nat) : Prop where
  len : ∀ r ∈ H, r.length = N
  pl : ps.length = H.length
  pp : ps.Pairwise (· < ·)
  pb : ∀ q ∈ ps, q < N
  hd : ∀ (i : Nat) r q, H[i]? = some r → ps[i]? = some q → 0 < vec r q ∧ (∀ k, k < q → vec r k = 0) ∧ gcdL r = 1
  ow : ∀ (i j : Nat) r q, H[i]? = some r → ps[j]? = some q → i ≠ j → vec r q = 0
  or : ∀ x : Nat → Int, (∀ r ∈ R, dotN N x (vec r) = 0) ↔ ∀ r ∈ H, dotN N x (vec r) = 0
theorem heads_ground {N : Nat} {R : List (List Int)} (h : ∀ r ∈ R, r.length = N) : ∃ ps, Ground N R (headsF N R) ps := by
  obtain ⟨ps, I⟩ := heads_inv h N (Nat.le_refl _)
  refine ⟨ps, I.lm, I.pl, I.pp, I.pb, I.hd, I.ow, fun x => ?_⟩
  rw [I.or x]
  refine ⟨fun h => h.1, fun h => ⟨h, fun r hr => sumN_zero fun k hk => by rw [I.z r hr k hk, Int.mul_zero]⟩⟩
theorem ground_indep {N : Nat} {R H : List (List Int)} {ps : List Nat} (g : Ground N R H ps) : Indep H.length N fun i => vec (H.getD i []) := by
  have get : ∀ {i}, i < H.length → H[i]? = some (H.getD i []) := fun {i} hi => by
    rw [List.getD_eq_getElem?_getD, List.getElem?_eq_getElem hi]
    rfl
  have getp : ∀ {i}, i < H.length → ps[i]? = some (ps.getD i 0) := fun {i} hi => by
    rw [List.getD_eq_getElem?_getD, List.getElem?_eq_getElem (by rw [g.pl]; exact hi)]
    rfl
  refine indep_own (fun i => ps.getD i 0) (fun i hi => g.pb _ (List.mem_of_getElem? (getp hi))) (fun i hi => ?_) (fun i i' hi hi' hne => g.ow i' i _ _ (get hi') (getp hi) hne)
  have := (g.hd i _ _ (get hi) (getp hi)).1
  omega
/-! ### the law's own count -/
def rankStep (p : Nat) (s : Nat × List (List Int)) : Nat × List (List Int) := match s.2.filter (fun r => decide (r.getD p 0 ≠ 0)) with
  | [] => s
  | f :: _ => (s.1 + 1, s.2.map fun r => combL r f p)
def rankS (R : List (List Int)) : Nat → Nat × List (List Int)
  | 0 => (0, R)
  | p + 1 => rankStep p (rankS R p)
def rankF (N : Nat) (R : List (List Int)) : Nat := (rankS R N).1
def Like (N : Nat) (r s : List Int) : Prop := r.length = N ∧ s.length = N ∧ ∃ a b : Int, a ≠ 0 ∧ b ≠ 0 ∧ ∀ k, a * vec r k = b * vec s k
inductive LikeAll (N : Nat) : List (List Int) → List (List Int) → Prop
  | nil : LikeAll N [] []
  | cons {r s : List Int} {R S : List (List Int)} : Like N r s → LikeAll N R S → LikeAll N (r :: R) (s :: S)
theorem Like.refl {N : Nat} {r : List Int} (h : r.length = N) : Like N r r := ⟨h, h, 1, 1, by decide, by decide, fun _ => rfl⟩
theorem LikeAll.refl {N : Nat} : ∀ {R : List (List Int)}, (∀ r ∈ R, r.length = N) → LikeAll N R R
  | [], _ => .nil
  | r :: R, h => .cons (Like.refl (h r List.mem_cons_self)) (LikeAll.refl fun s hs => h s (List.mem_cons_of_mem _ hs))
theorem Like.zero {N : Nat} {r s : List Int} (h : Like N r s) (k : Nat) : (vec r k ≠ 0) ↔ (vec s k ≠ 0) := by
  obtain ⟨_, _, a, b, ha, hb, he⟩ := h
  have := he k
  constructor
  · intro h1 h2
    rw [h2, Int.mul_zero] at this
    rcases Int.mul_eq_zero.mp this with q | q
    · exact ha q
    · exact h1 q
  · intro h1 h2
    rw [h2, Int.mul_zero] at this
    rcases Int.mul_eq_zero.mp this.symm with q | q
    · exact hb q
    · exact h1 q
theorem like_filter {N p : Nat} : ∀ {R S : List (List Int)}, LikeAll N R S → LikeAll N (R.filter fun r => decide (r.getD p 0 ≠ 0)) (S.filter fun r => decide (r.getD p 0 ≠ 0))
  | _, _, .nil => .nil
  | _, _, .cons (r := r) (s := s) h t => by
    have ih := like_filter (p := p) t
    have hz : (r.getD p 0 ≠ 0) ↔ (s.getD p 0 ≠ 0) := h.zero p
    by_cases e : r.getD p 0 ≠ 0
    · rw [List.filter_cons, if_pos (decide_eq_true e), List.filter_cons, if_pos (decide_eq_true (hz.mp e))]
      exact .cons h ih
    · rw [List.filter_cons, if_neg (by rw [decide_eq_false e]; decide), List.filter_cons, if_neg (by rw [decide_eq_false (fun q => e (hz.mpr q))]; decide)]
      exact ih
theorem like_plain {N : Nat} {r s : List Int} (h : Like N r s) : Like N (plainF r) s := by
  obtain ⟨h1, h2, a, b, ha, hb, he⟩ := h
  obtain ⟨c, P⟩ := plain_ok r
  refine ⟨by rw [plain_len]; exact h1, h2, a * c, b, Int.mul_ne_zero ha P.ne, hb, fun k => ?_⟩
  rw [Int.mul_assoc, ← P.eq k]
  exact he k
theorem like_comb {N p : Nat} {r s f h : List Int} (h1 : Like N r s) (h2 : Like N f h) : Like N (combL r f p) (combL s h p) := by
  obtain ⟨l1, l2, a, b, ha, hb, he⟩ := h1
  obtain ⟨l3, l4, c, d, hc, hd, hf⟩ := h2
  refine ⟨by rw [comb_len]; exact l1, by rw [comb_len]; exact l2, a * c, b * d, Int.mul_ne_zero ha hc, Int.mul_ne_zero hb hd, fun k => ?_⟩
  rw [comb_vec (by omega), comb_vec (by omega), Int.mul_sub, Int.mul_sub]
  have e : ∀ i j, a * c * (vec r i * vec f j) = b * d * (vec s i * vec h j) := fun i j => by
    have x1 : a * c * (vec r i * vec f j) = (a * vec r i) * (c * vec f j) := by
      rw [Int.mul_assoc, Int.mul_assoc, Int.mul_left_comm c]
    have x2 : b * d * (vec s i * vec h j) = (b * vec s i) * (d * vec h j) := by
      rw [Int.mul_assoc, Int.mul_assoc, Int.mul_left_comm d]
    rw [x1, x2, he i, hf j]
  rw [e k p, Int.mul_comm (vec f k) (vec r p), Int.mul_comm (vec h k) (vec s p), e p k]
theorem like_map {N p : Nat} {f h : List Int} (hf : Like N f h) : ∀ {R S : List (List Int)}, LikeAll N R S → LikeAll N (R.map fun r => easeF r f p) (S.map fun r => combL r h p)
  | _, _, .nil => .nil
  | _, _, .cons a t => .cons (like_plain (like_comb a hf)) (like_map hf t)
theorem rank_heads {N : Nat} {R : List (List Int)} (h : ∀ r ∈ R, r.length = N) : ∀ p, (headsS R p).1.length = (rankS R p).1 ∧ LikeAll N (headsS R p).2 (rankS R p).2
  | 0 => ⟨rfl, LikeAll.refl h⟩
  | p + 1 => by
    obtain ⟨i1, i2⟩ := rank_heads h p
    show (headStep p (headsS R p)).1.length = (rankStep p (rankS R p)).1 ∧ LikeAll N (headStep p (headsS R p)).2 (rankStep p (rankS R p)).2
    have hf := like_filter (p := p) i2
    unfold headStep rankStep
    generalize (headsS R p).2.filter (fun r => decide (r.getD p 0 ≠ 0)) = A at hf
    generalize (rankS R p).2.filter (fun r => decide (r.getD p 0 ≠ 0)) = B at hf
    cases hf with
    | nil => exact ⟨i1, i2⟩
    | cons a t =>
      refine ⟨?_, like_map (like_plain a) i2⟩
      show (List.map _ _ ++ [_]).length = _
      rw [List.length_append, List.length_map, i1]
      rfl
theorem rank_eq {N : Nat} {R : List (List Int)} (h : ∀ r ∈ R, r.length = N) : rankF N R = (headsF N R).length := (rank_heads h N).1.symm
end Tw

/-! Tw27: in plain Lean: what is at right angles to some rows; how many; how large. -/
namespace Tw
def headOf : List Int → Nat
  | [] => 0
  | x :: r => if x = 0 then headOf r + 1 else 0
theorem headOf_at : ∀ {r : List Int} {q : Nat}, vec r q ≠ 0 → (∀ k, k < q → vec r k = 0) → headOf r = q
  | [], q, h, _ => absurd (vec_out (by simp)) h
  | y :: r, 0, h, _ => by
    have h : y ≠ 0 := h
    unfold headOf
    rw [if_neg h]
  | y :: r, q + 1, h, h0 => by
    have hy : y = 0 := h0 0 (by omega)
    unfold headOf
    rw [if_pos hy, headOf_at (r := r) (q := q) (by unfold vec at h ⊢; simpa using h) fun k hk => by
      have := h0 (k + 1) (by omega)
      unfold vec at this ⊢
      simpa using this]
def wStep (w : Int) (x : List Int × Nat) : Int := w.fdiv (Int.gcd w (x.1.getD x.2 0)) * x.1.getD x.2 0
def wholeF (H : List (List Int)) (ps : List Nat) : Int := (H.zip ps).foldl wStep 1
theorem wstep_ok {w h : Int} (hw : 0 < w) (hh : 0 < h) : 0 < w.fdiv (Int.gcd w h) * h ∧ w ∣ w.fdiv (Int.gcd w h) * h ∧ h ∣ w.fdiv (Int.gcd w h) * h ∧ w.fdiv (Int.gcd w h) * h ≤ w * h := by
  have hg : (Int.gcd w h : Int) ≠ 0 := fun z => by
    have h1 : Int.gcd w h = 0 := by omega
    have := (Int.gcd_eq_zero_iff.mp h1).1
    omega
  have hgp : (0 : Int) < Int.gcd w h := by omega
  obtain ⟨a, ha⟩ := Int.gcd_dvd_left (a := w) (b := h)
  obtain ⟨b, hb⟩ := Int.gcd_dvd_right (a := w) (b := h)
  have e : w.fdiv (Int.gcd w h) = a := by
    have : ((Int.gcd w h : Int) * a).fdiv (Int.gcd w h) = a := Int.mul_fdiv_cancel_left _ hg
    rw [← ha] at this
    exact this
  rw [e]
  have hap : 0 < a := by
    rcases Int.lt_trichotomy a 0 with q | q | q
    · have := Int.mul_neg_of_pos_of_neg hgp q
      omega
    · rw [q, Int.mul_zero] at ha
      omega
    · exact q
  refine ⟨Int.mul_pos hap hh, ⟨b, ?_⟩, Int.dvd_mul_left _ _, ?_⟩
  · rw [ha, Int.mul_assoc, Int.mul_left_comm, ← hb]
  · refine Int.mul_le_mul_of_nonneg_right ?_ (by omega)
    rw [ha]
    have : (1 : Int) * a ≤ (Int.gcd w h : Int) * a := Int.mul_le_mul_of_nonneg_right (by omega) (by omega)
    omega
theorem whole_ok : ∀ (l : List (List Int × Nat)) (w : Int), 0 < w → (∀ x ∈ l, 0 < x.1.getD x.2 0) → 0 < l.foldl wStep w ∧ w ∣ l.foldl wStep w ∧ ∀ x ∈ l, x.1.getD x.2 0 ∣ l.foldl wStep w
  | [], w, hw, _ => ⟨hw, Int.dvd_refl _, by simp⟩
  | y :: l, w, hw, h => by
    have hy := h y List.mem_cons_self
    obtain ⟨a1, a2, a3, _⟩ := wstep_ok hw hy
    obtain ⟨b1, b2, b3⟩ := whole_ok l (wStep w y) a1 fun x hx => h x (List.mem_cons_of_mem _ hx)
    refine ⟨b1, Int.dvd_trans a2 b2, fun x hx => ?_⟩
    rcases List.mem_cons.mp hx with rfl | hx
    · exact Int.dvd_trans a3 b2
    · exact b3 x hx
def nStep (f : Nat) (whole : Int) (s : List Int) (x : List Int × Nat) : List Int := s.set x.2 (-(x.1.getD f 0) * whole.fdiv (x.1.getD x.2 0))
def noughtRow (N : Nat) (H : List (List Int)) (ps : List Nat) (whole : Int) (f : Nat) : List Int := (H.zip ps).foldl (nStep f whole) ((List.replicate N 0).set f whole)
def freeF (N : Nat) (ps : List Nat) : List Nat := (List.range N).filter fun f => decide (f ∉ ps)
def madeF (N : Nat) (H : List (List Int)) (ps : List Nat) (whole : Int) : List (List Int) := (freeF N ps).map (noughtRow N H ps whole)
def noughtsF (N : Nat) (R : List (List Int)) : List (List Int) := headsF N (madeF N (headsF N R) ((headsF N R).map headOf) (wholeF (headsF N R) ((headsF N R).map headOf)))
theorem nfold_len (f : Nat) (whole : Int) : ∀ (l : List (List Int × Nat)) (s : List Int), (l.foldl (nStep f whole) s).length = s.length
  | [], s => rfl
  | y :: l, s => by
    rw [List.foldl_cons, nfold_len f whole l]
    unfold nStep
    rw [List.length_set]
theorem nought_len (N : Nat) (H : List (List Int)) (ps : List Nat) (whole : Int) (f : Nat) : (noughtRow N H ps whole f).length = N := by
  unfold noughtRow
  rw [nfold_len, List.length_set, List.length_replicate]
theorem vec_set {s : List Int} {i k : Nat} {v : Int} (hi : i < s.length) : vec (s.set i v) k = if k = i then v else vec s k := by
  unfold vec
  rw [List.getD_eq_getElem?_getD, List.getD_eq_getElem?_getD]
  by_cases h : k = i
  · subst h
    rw [List.getElem?_set_self hi, if_pos rfl]
    rfl
  · rw [List.getElem?_set_ne (Ne.symm h), if_neg h]
theorem nfold_out (f : Nat) (whole : Int) : ∀ (l : List (List Int × Nat)) (s : List Int) (k : Nat), (∀ x ∈ l, x.2 < s.length) → (∀ x ∈ l, x.2 ≠ k) → vec (l.foldl (nStep f whole) s) k = vec s k
  | [], s, k, _, _ => rfl
  | y :: l, s, k, h1, h2 => by
    rw [List.foldl_cons, nfold_out f whole l _ k (fun x hx => by unfold nStep; rw [List.length_set]; exact h1 x (List.mem_cons_of_mem _ hx)) fun x hx => h2 x (List.mem_cons_of_mem _ hx)]
    unfold nStep
    rw [vec_set (h1 y List.mem_cons_self), if_neg (Ne.symm (h2 y List.mem_cons_self))]
theorem nfold_in (f : Nat) (whole : Int) : ∀ (l : List (List Int × Nat)) (s : List Int) (x : List Int × Nat), (∀ x ∈ l, x.2 < s.length) → (l.map (·.2)).Nodup → x ∈ l → vec (l.foldl (nStep f whole) s) x.2 = -(x.1.getD f 0) * whole.fdiv (x.1.getD x.2 0)
  | [], s, x, _, _, h => by cases h
  | y :: l, s, x, h1, h2, h => by
    rw [List.foldl_cons]
    have hl : ∀ x ∈ l, x.2 < (nStep f whole s y).length := fun x hx => by unfold nStep; rw [List.length_set]; exact h1 x (List.mem_cons_of_mem _ hx)
    rw [List.map_cons] at h2
    obtain ⟨n1, n2⟩ := List.nodup_cons.mp h2
    rcases List.mem_cons.mp h with rfl | h
    · rw [nfold_out f whole l _ _ hl fun z hz e => n1 (List.mem_map.mpr ⟨z, hz, e⟩)]
      unfold nStep
      rw [vec_set (h1 x List.mem_cons_self), if_pos rfl]
    · exact nfold_in f whole l _ x hl n2 h
section
variable {N : Nat} {R H : List (List Int)} {ps : List Nat}
theorem Ground.heads (g : Ground N R H ps) : H.map headOf = ps := by
  apply List.ext_getElem (by rw [List.length_map, g.pl])
  intro i h1 h2
  rw [List.length_map] at h1
  rw [List.getElem_map]
  obtain ⟨a, b, _⟩ := g.hd i _ _ (List.getElem?_eq_getElem h1) (List.getElem?_eq_getElem h2)
  exact headOf_at (by omega) b
theorem Ground.nodup (g : Ground N R H ps) : ps.Nodup := g.pp.imp fun {a b} h e => by omega
theorem Ground.pivots (g : Ground N R H ps) : ∀ x ∈ H.zip ps, 0 < x.1.getD x.2 0 := fun x hx => by
  obtain ⟨i, hi, rfl⟩ := List.getElem_of_mem hx
  rw [List.length_zip] at hi
  rw [List.getElem_zip]
  exact (g.hd i _ _ (List.getElem?_eq_getElem (by omega)) (List.getElem?_eq_getElem (by omega))).1
theorem Ground.whole (g : Ground N R H ps) : 0 < wholeF H ps ∧ ∀ x ∈ H.zip ps, x.1.getD x.2 0 ∣ wholeF H ps := by
  obtain ⟨a, _, b⟩ := whole_ok (H.zip ps) 1 (by decide) g.pivots
  exact ⟨a, b⟩
theorem Ground.zip_lt (g : Ground N R H ps) : ∀ x ∈ H.zip ps, x.2 < N := fun x hx => g.pb _ (List.of_mem_zip hx).2
theorem Ground.zip_nodup (g : Ground N R H ps) : ((H.zip ps).map (·.2)).Nodup := by
  rw [List.map_snd_zip (by rw [g.pl]; exact Nat.le_refl _)]
  exact g.nodup
theorem free_mem {f : Nat} : f ∈ freeF N ps ↔ f < N ∧ f ∉ ps := by
  unfold freeF
  rw [List.mem_filter, List.mem_range, decide_eq_true_eq]
/-- the row of a free place: what it holds there, at the heads' places, elsewhere -/
theorem nought_free (g : Ground N R H ps) {f : Nat} (hf : f ∈ freeF N ps) (whole : Int) : vec (noughtRow N H ps whole f) f = whole := by
  obtain ⟨h1, h2⟩ := free_mem.mp hf
  unfold noughtRow
  rw [nfold_out f whole _ _ f (fun x hx => by rw [List.length_set, List.length_replicate]; exact g.zip_lt x hx) fun x hx e => h2 (e ▸ (List.of_mem_zip hx).2), vec_set (by rw [List.length_replicate]; exact h1), if_pos rfl]
theorem nought_head (g : Ground N R H ps) {f i : Nat} {r : List Int} {q : Nat} (hr : H[i]? = some r) (hq : ps[i]? = some q) (whole : Int) : vec (noughtRow N H ps whole f) q = -(vec r f) * whole.fdiv (vec r q) := by
  have hm : (r, q) ∈ H.zip ps := by
    have : (H.zip ps)[i]? = some (r, q) := by rw [List.getElem?_zip_eq_some]; exact ⟨hr, hq⟩
    exact List.mem_of_getElem? this
  unfold noughtRow
  exact nfold_in f whole _ _ (r, q) (fun x hx => by rw [List.length_set, List.length_replicate]; exact g.zip_lt x hx) g.zip_nodup hm
theorem vec_rep (k : Nat) : vec (List.replicate N 0) k = 0 := by
  unfold vec
  rw [List.getD_eq_getElem?_getD, List.getElem?_replicate]
  split <;> rfl
theorem nought_else (g : Ground N R H ps) {f k : Nat} (hf : f ∈ freeF N ps) (hk : k ≠ f) (hkp : k ∉ ps) (whole : Int) : vec (noughtRow N H ps whole f) k = 0 := by
  obtain ⟨h1, h2⟩ := free_mem.mp hf
  unfold noughtRow
  rw [nfold_out f whole _ _ k (fun x hx => by rw [List.length_set, List.length_replicate]; exact g.zip_lt x hx) fun x hx e => hkp (e ▸ (List.of_mem_zip hx).2), vec_set (by rw [List.length_replicate]; exact h1), if_neg hk, vec_rep]
theorem nought_dot (g : Ground N R H ps) {f : Nat} (hf : f ∈ freeF N ps) : ∀ r ∈ H, dotN N (vec (noughtRow N H ps (wholeF H ps) f)) (vec r) = 0 := fun r hr => by
  obtain ⟨i, hi, rfl⟩ := List.getElem_of_mem hr
  have hri : H[i]? = some H[i] := List.getElem?_eq_getElem hi
  have hip : i < ps.length := by rw [g.pl]; exact hi
  have hqi : ps[i]? = some ps[i] := List.getElem?_eq_getElem hip
  obtain ⟨f1, f2⟩ := free_mem.mp hf
  have hq : ps[i] ∈ ps := List.getElem_mem _
  have hne : f ≠ ps[i] := fun e => f2 (e ▸ hq)
  obtain ⟨p1, p2, _⟩ := g.hd i _ _ hri hqi
  unfold dotN
  rw [sumN_two f1 (g.pb _ hq) hne fun k hk k1 k2 => ?_, nought_free g hf, nought_head g hri hqi]
  · obtain ⟨d, hd⟩ := g.whole.2 (H[i], ps[i]) (by
      have : (H.zip ps)[i]? = some (H[i], ps[i]) := by rw [List.getElem?_zip_eq_some]; exact ⟨hri, hqi⟩
      exact List.mem_of_getElem? this)
    have hd : wholeF H ps = vec H[i] ps[i] * d := hd
    have e : (wholeF H ps).fdiv (vec H[i] ps[i]) = d := by rw [hd, Int.mul_fdiv_cancel_left _ (by omega)]
    rw [e, hd, Int.neg_mul, Int.neg_mul, Int.mul_assoc (vec H[i] f) d, Int.mul_comm d, Int.mul_comm (vec H[i] f)]
    omega
  · by_cases hkp : k ∈ ps
    · obtain ⟨j, hj, rfl⟩ := List.getElem_of_mem hkp
      have hij : i ≠ j := fun e => k2 (by subst e; rfl)
      rw [g.ow i j _ _ hri (List.getElem?_eq_getElem hj) hij, Int.mul_zero]
    · rw [nought_else g hf k1 hkp, Int.zero_mul]
theorem free_count (g : Ground N R H ps) : (freeF N ps).length + H.length = N := by
  have h1 : ps.length ≤ ((List.range N).filter fun f => decide (f ∈ ps)).length := sub_len g.nodup fun q hq => List.mem_filter.mpr ⟨List.mem_range.mpr (g.pb q hq), decide_eq_true hq⟩
  have h2 : ((List.range N).filter fun f => decide (f ∈ ps)).length ≤ ps.length := sub_len (List.nodup_range.filter _) fun q hq => of_decide_eq_true (List.mem_filter.mp hq).2
  have h3 : ∀ l : List Nat, (l.filter fun f => decide (f ∈ ps)).length + (l.filter fun f => decide (f ∉ ps)).length = l.length := fun l => by
    induction l with
    | nil => rfl
    | cons x l ih =>
      rw [List.filter_cons, List.filter_cons]
      by_cases q : x ∈ ps
      · rw [if_pos (decide_eq_true q), if_neg (by rw [decide_eq_false (fun z => z q)]; decide), List.length_cons, List.length_cons]
        omega
      · rw [if_neg (by rw [decide_eq_false q]; decide), if_pos (decide_eq_true q), List.length_cons, List.length_cons]
        omega
  have := h3 (List.range N)
  rw [List.length_range] at this
  unfold freeF
  rw [← g.pl]
  omega
theorem made_len (W : Int) : ∀ r ∈ madeF N H ps W, r.length = N := fun r hr => by
  obtain ⟨f, _, rfl⟩ := List.mem_map.mp hr
  exact nought_len ..
theorem nodup_idx {l : List Nat} (h : l.Nodup) {i j a : Nat} (hi : l[i]? = some a) (hj : l[j]? = some a) : i = j := by
  obtain ⟨h1, e1⟩ := List.getElem?_eq_some_iff.mp hi
  obtain ⟨h2, e2⟩ := List.getElem?_eq_some_iff.mp hj
  have hp := List.pairwise_iff_getElem.mp h
  rcases Nat.lt_trichotomy i j with q | q | q
  · exact absurd (e1.trans e2.symm) (hp i j h1 h2 q)
  · exact q
  · exact absurd (e2.trans e1.symm) (hp j i h2 h1 q)
theorem made_indep (g : Ground N R H ps) : Indep (madeF N H ps (wholeF H ps)).length N fun i => vec ((madeF N H ps (wholeF H ps)).getD i []) := by
  have hl : (madeF N H ps (wholeF H ps)).length = (freeF N ps).length := by unfold madeF; rw [List.length_map]
  have get : ∀ {i}, i < (freeF N ps).length → (madeF N H ps (wholeF H ps)).getD i [] = noughtRow N H ps (wholeF H ps) ((freeF N ps).getD i 0) ∧ (freeF N ps).getD i 0 ∈ freeF N ps := fun {i} hi => by
    unfold madeF
    rw [List.getD_eq_getElem?_getD, List.getElem?_map, List.getD_eq_getElem?_getD, List.getElem?_eq_getElem hi]
    exact ⟨rfl, List.getElem_mem _⟩
  rw [hl]
  refine indep_own (fun i => (freeF N ps).getD i 0) (fun i hi => (free_mem.mp (get hi).2).1) (fun i hi => ?_) (fun i i' hi hi' hne => ?_)
  · rw [(get hi).1, nought_free g (get hi).2]
    have := g.whole.1
    omega
  · rw [(get hi').1]
    refine nought_else g (get hi').2 (fun e => ?_) (free_mem.mp (get hi).2).2 _
    have hn : (freeF N ps).Nodup := List.nodup_range.filter _
    have e1 : (freeF N ps)[i]? = some ((freeF N ps).getD i 0) := by rw [List.getD_eq_getElem?_getD, List.getElem?_eq_getElem hi]; rfl
    have e2 : (freeF N ps)[i']? = some ((freeF N ps).getD i' 0) := by rw [List.getD_eq_getElem?_getD, List.getElem?_eq_getElem hi']; rfl
    rw [e] at e1
    exact hne (nodup_idx hn e2 e1)
theorem made_perp (g : Ground N R H ps) : ∀ m ∈ madeF N H ps (wholeF H ps), ∀ r ∈ R, dotN N (vec m) (vec r) = 0 := fun m hm r hr => by
  obtain ⟨f, hf, rfl⟩ := List.mem_map.mp hm
  exact (g.or _).mpr (nought_dot g hf) r hr
end
/-- the ground of what stands at right angles to R -/
theorem noughts_ok {N : Nat} {R : List (List Int)} (h : ∀ r ∈ R, r.length = N) : ∃ qs, (∃ M, Ground N M (noughtsF N R) qs) ∧ (∀ x ∈ noughtsF N R, ∀ r ∈ R, dotN N (vec x) (vec r) = 0) ∧ (noughtsF N R).length + (headsF N R).length = N := by
  obtain ⟨ps, g⟩ := heads_ground h
  have e : noughtsF N R = headsF N (madeF N (headsF N R) ps (wholeF (headsF N R) ps)) := by
    unfold noughtsF
    rw [g.heads]
  obtain ⟨qs, k⟩ := heads_ground (R := madeF N (headsF N R) ps (wholeF (headsF N R) ps)) (made_len _)
  rw [e]
  have hml : (madeF N (headsF N R) ps (wholeF (headsF N R) ps)).length = (freeF N ps).length := by unfold madeF; rw [List.length_map]
  have fc := free_count g
  -- right angles, by the made rows
  have hx : ∀ r ∈ R, ∀ x ∈ headsF N (madeF N (headsF N R) ps (wholeF (headsF N R) ps)), dotN N (vec r) (vec x) = 0 := fun r hr => (k.or (vec r)).mp fun m hm => by
    rw [dot_comm]
    exact made_perp g m hm r hr
  have hH : ∀ r ∈ headsF N R, ∀ x ∈ headsF N (madeF N (headsF N R) ps (wholeF (headsF N R) ps)), dotN N (vec r) (vec x) = 0 := fun r hr => (k.or (vec r)).mp fun m hm => by
    rw [dot_comm]
    obtain ⟨f, hf, rfl⟩ := List.mem_map.mp hm
    exact nought_dot g hf r hr
  refine ⟨qs, ⟨_, k⟩, fun x hx' r hr => by rw [dot_comm]; exact hx r hr x hx', ?_⟩
  have get : ∀ {l : List (List Int)} {i : Nat}, i < l.length → l.getD i [] ∈ l := fun {l i} hi => by
    rw [List.getD_eq_getElem?_getD, List.getElem?_eq_getElem hi]
    exact List.getElem_mem _
  have u1 := orth_count (ground_indep k) (ground_indep g) fun i j hi hj => by
    rw [dot_comm]
    exact hH _ (get hj) _ (get hi)
  -- what stands at right angles to the ground stands so to the made rows, too
  have fc2 := free_count k
  have u2 := orth_count (made_indep k) (made_indep g) fun i j hi hj => made_perp k _ (get hi) _ (get hj)
  have hml2 : (madeF N (headsF N (madeF N (headsF N R) ps (wholeF (headsF N R) ps))) qs (wholeF (headsF N (madeF N (headsF N R) ps (wholeF (headsF N R) ps))) qs)).length = (freeF N qs).length := by unfold madeF; rw [List.length_map]
  rw [hml, hml2] at u2
  omega
/-- as many independent columns as rows -/
theorem rank_le {n m : Nat} {M T : List (List Int)} (hM : ∀ r ∈ M, r.length = n) (hT : ∀ r ∈ T, r.length = m) (lM : M.length = m) (lT : T.length = n) (ht : ∀ i j, i < m → j < n → vec (T.getD j []) i = vec (M.getD i []) j) : (headsF n M).length ≤ (headsF m T).length := by
  obtain ⟨ps, g⟩ := heads_ground hM
  obtain ⟨qs, k⟩ := heads_ground hT
  have get : ∀ {l : List (List Int)} {i : Nat}, i < l.length → l.getD i [] ∈ l := fun {l i} hi => by
    rw [List.getD_eq_getElem?_getD, List.getElem?_eq_getElem hi]
    exact List.getElem_mem _
  have hi : Indep (headsF n M).length m fun i a => dotN n (vec (M.getD a [])) (vec ((headsF n M).getD i [])) := fun c hs i hi => by
    refine ground_indep g c (fun j hj => ?_) i hi
    refine dot_self (N := n) (x := fun j => sumN (headsF n M).length fun i => c i * vec ((headsF n M).getD i []) j) ?_ j hj
    rw [dot_sum_right]
    refine sumN_zero fun i hi => ?_
    have hz := (g.or fun j => sumN (headsF n M).length fun i => c i * vec ((headsF n M).getD i []) j).mp fun r hr => by
      obtain ⟨a, ha, rfl⟩ := List.getElem_of_mem hr
      have e := hs a (by omega)
      have ea : M.getD a [] = M[a] := by rw [List.getD_eq_getElem?_getD, List.getElem?_eq_getElem ha]; rfl
      rw [dot_comm, dot_sum_right, ← ea]
      exact e
    rw [hz _ (get hi), Int.mul_zero]
  have u := orth_count hi (made_indep k) fun i j hi hj => by
    have hw := made_perp k _ (get hj)
    -- sum over a of (M_a . H_i) w_a
    generalize (madeF m (headsF m T) qs (wholeF (headsF m T) qs)).getD j [] = w at hw
    generalize vec ((headsF n M).getD i []) = x
    show sumN m (fun a => dotN n (vec (M.getD a [])) x * vec w a) = 0
    have e1 : sumN m (fun a => dotN n (vec (M.getD a [])) x * vec w a) = sumN m (fun a => sumN n (fun j => vec w a * (vec (M.getD a []) j * x j))) := sumN_congr fun a _ => by
      rw [sumN_mul, Int.mul_comm]
      rfl
    rw [e1, sumN_swap]
    refine sumN_zero fun j hj => ?_
    have e2 : sumN m (fun a => vec w a * (vec (M.getD a []) j * x j)) = sumN m (fun a => x j * (vec w a * vec (T.getD j []) a)) := sumN_congr fun a ha => by
      rw [ht a j ha hj, ← Int.mul_assoc, Int.mul_comm]
    rw [e2, sumN_mul]
    have := hw (T.getD j []) (get (by omega))
    unfold dotN at this
    rw [this, Int.mul_zero]
  have fc := free_count k
  have hml : (madeF m (headsF m T) qs (wholeF (headsF m T) qs)).length = (freeF m qs).length := by unfold madeF; rw [List.length_map]
  rw [hml] at u
  omega
theorem rank_turned {n m : Nat} {M T : List (List Int)} (hM : ∀ r ∈ M, r.length = n) (hT : ∀ r ∈ T, r.length = m) (lM : M.length = m) (lT : T.length = n) (ht : ∀ i j, i < m → j < n → vec (T.getD j []) i = vec (M.getD i []) j) : (headsF n M).length = (headsF m T).length :=
  Nat.le_antisymm (rank_le hM hT lM lT ht) (rank_le hT hM lT lM fun i j hi hj => (ht j i hj hi).symm)

/-! ### how large -/
def Sm (b : Nat) (R : List (List Int)) : Prop := ∀ r ∈ R, ∀ x ∈ r, x.natAbs < 2 ^ b
def bb (b : Nat) : Nat → Nat
  | 0 => b
  | p + 1 => 2 * bb b p + 1
theorem small_vec {r : List Int} {b : Nat} (h : ∀ x ∈ r, x.natAbs < 2 ^ b) (k : Nat) : (r.getD k 0).natAbs < 2 ^ b := by
  by_cases hk : k < r.length
  · exact h _ (vec_mem hk)
  · rw [show r.getD k 0 = 0 from vec_out (by omega)]
    exact Nat.pow_pos (by decide)
theorem sub_small {a b : Int} {k : Nat} (ha : a.natAbs < 2 ^ k) (hb : b.natAbs < 2 ^ k) : (a - b).natAbs < 2 ^ (k + 1) := by
  rw [Nat.pow_succ]
  omega
theorem mul_small {a b : Int} {j k : Nat} (ha : a.natAbs < 2 ^ j) (hb : b.natAbs < 2 ^ k) : (a * b).natAbs < 2 ^ (j + k) := by
  rw [Int.natAbs_mul, Nat.pow_add]
  exact Nat.mul_lt_mul'' ha hb
theorem comb_small {r o : List Int} {p b : Nat} (hr : ∀ x ∈ r, x.natAbs < 2 ^ b) (ho : ∀ x ∈ o, x.natAbs < 2 ^ b) : ∀ x ∈ combL r o p, x.natAbs < 2 ^ (2 * b + 1) := fun x hx => by
  unfold combL at hx
  obtain ⟨k, _, rfl⟩ := List.mem_map.mp hx
  rw [show 2 * b = b + b by omega]
  exact sub_small (mul_small (small_vec hr _) (small_vec ho _)) (mul_small (small_vec ho _) (small_vec hr _))
theorem ease_small {r o : List Int} {p b : Nat} (hr : ∀ x ∈ r, x.natAbs < 2 ^ b) (ho : ∀ x ∈ o, x.natAbs < 2 ^ b) : ∀ x ∈ easeF r o p, x.natAbs < 2 ^ (2 * b + 1) := plain_small (comb_small hr ho)
theorem heads_small {b : Nat} {R : List (List Int)} (h : Sm b R) : ∀ p, Sm (bb b p) (headsS R p).1 ∧ Sm (bb b p) (headsS R p).2
  | 0 => ⟨fun r hr => by simp [headsS] at hr, h⟩
  | p + 1 => by
    obtain ⟨h1, h2⟩ := heads_small h p
    show Sm (2 * bb b p + 1) (headStep p (headsS R p)).1 ∧ Sm (2 * bb b p + 1) (headStep p (headsS R p)).2
    have up : ∀ {L : List (List Int)}, Sm (bb b p) L → Sm (2 * bb b p + 1) L := fun hL r hr x hx => Nat.lt_of_lt_of_le (hL r hr x hx) (Nat.pow_le_pow_right (by decide) (by omega))
    unfold headStep
    cases hf : (headsS R p).2.filter (fun r => decide (r.getD p 0 ≠ 0)) with
    | nil => exact ⟨up h1, up h2⟩
    | cons f fs =>
      have hfm : f ∈ (headsS R p).2 := (List.mem_filter.mp (by rw [hf]; exact List.mem_cons_self)).1
      have hp := plain_small (h2 f hfm)
      refine ⟨fun r hr => ?_, fun r hr => ?_⟩
      · rcases List.mem_append.mp hr with q | q
        · obtain ⟨s, hs, rfl⟩ := List.mem_map.mp q
          exact ease_small (h1 s hs) hp
        · rw [List.mem_singleton.mp q]
          exact fun x hx => Nat.lt_of_lt_of_le (hp x hx) (Nat.pow_le_pow_right (by decide) (by omega))
      · obtain ⟨s, hs, rfl⟩ := List.mem_map.mp hr
        exact ease_small (h2 s hs) hp
theorem whole_small {b : Nat} : ∀ (l : List (List Int × Nat)) (w : Int) (c : Nat), 0 < w → w.natAbs < 2 ^ c → (∀ x ∈ l, 0 < x.1.getD x.2 0 ∧ (x.1.getD x.2 0).natAbs < 2 ^ b) → (l.foldl wStep w).natAbs < 2 ^ (c + l.length * b)
  | [], w, c, _, h, _ => by simpa using h
  | y :: l, w, c, hw, h, hl => by
    obtain ⟨y1, y2⟩ := hl y List.mem_cons_self
    obtain ⟨a1, _, _, a4⟩ := wstep_ok hw y1
    have hs : (wStep w y).natAbs < 2 ^ (c + b) := by
      have := mul_small h y2
      have e : wStep w y = w.fdiv (Int.gcd w (y.1.getD y.2 0)) * y.1.getD y.2 0 := rfl
      rw [e]
      have hp := Int.mul_pos hw y1
      omega
    have ih := whole_small l (wStep w y) (c + b) a1 hs fun x hx => hl x (List.mem_cons_of_mem _ hx)
    rw [List.foldl_cons, List.length_cons, Nat.succ_mul]
    rw [show c + (l.length * b + b) = c + b + l.length * b by omega]
    exact ih
end Tw

/-! Tw28: // by any number that is not nought; lists of lists; what the walks of the elimination need. -/
namespace Tw
open PySem PySem.Spec PyProof.Rows L2 PyProof
/-- a block within a block -/
theorem lookup_rel {env : Env} : ∀ {names : List (Str × NameKind)} {x : Str}, ((match names.lookup x with | some .cell => true | some .free => true | _ => false) = true) → ((match (names.map fun (n, k) => if (k == NameKind.free && env.scope.kind == .function && env.kindOf n == some .cell) then (n, NameKind.cell) else (n, k)).lookup x with | some .cell => true | some .free => true | _ => false) = true)
  | [], x, h => by simp at h
  | (n, k) :: r, x, h => by
    have ih := @lookup_rel env r x
    rw [List.map_cons]
    rw [List.lookup_cons] at h
    by_cases hn : (x == n) = true
    · rw [hn] at h
      by_cases hc : (k == NameKind.free && env.scope.kind == .function && env.kindOf n == some .cell) = true
      · simp only [hc, if_true]
        rw [List.lookup_cons, hn]
      · simp only [hc]
        rw [if_neg (by decide), List.lookup_cons, hn]
        exact h
    · have hn : (x == n) = false := by simpa using hn
      rw [hn] at h
      by_cases hc : (k == NameKind.free && env.scope.kind == .function && env.kindOf n == some .cell) = true
      · simp only [hc, if_true]
        rw [List.lookup_cons, hn]
        exact ih h
      · simp only [hc]
        rw [if_neg (by decide), List.lookup_cons, hn]
        exact ih h
theorem blkOk_rel {N : List Str} {sc scope : Scope} {env : Env} {own : List (Str × Nat)} (h : blkC N sc scope own = true) : BlkOk N (relabel sc env) scope own := by
  refine blkOk_by ?_
  unfold blkC at h ⊢
  rw [Bool.and_eq_true] at h ⊢
  refine ⟨h.1, List.all_eq_true.mpr fun y hy => ?_⟩
  have q := List.all_eq_true.mp h.2 y hy
  cases hk : y.2 with
  | free =>
    rw [hk] at q
    exact lookup_rel q
  | _ => rw [hk] at q; try exact q
def CDivG (_ j : Int) : Prop := j ≠ 0 ∧ j.natAbs.log2 < 9000
def rDivG : R2 := rI CDivG fun i j => .int (i.fdiv j)
section
variable {X : Cx}
theorem opDivG : OpR X (binaryOp .FloorDiv) rDivG := opI fun i j _ _ _ _ _ hc q => floordiv_int hc.1 q (.inl (PyProof.noPylong_of_log2 hc.2))
end
def lstD (r : List Int) : PyData := .list (r.map .int)
def lssD (R : List (List Int)) : PyData := .list (R.map lstD)
theorem lay_lists : ∀ hs : List (List Int), PyData.canLayAll0 (hs.map lstD) = true
  | [] => rfl
  | x :: hs => by
    show (PyData.canLayAll0 (x.map .int) && PyData.canLayAll0 (hs.map lstD)) = true
    rw [lay_ints, lay_lists hs]
    rfl
theorem depth_lists : ∀ hs : List (List Int), PyData.depthAll (hs.map lstD) ≤ 1
  | [] => by decide
  | x :: hs => by
    have h1 := depth_lists hs
    have h2 := depth_ints x
    show max (PyData.depthAll (x.map .int) + 1) (PyData.depthAll (hs.map lstD)) ≤ 1
    omega
theorem shaped_lists (hs : List (List Int)) : SeqAt.shaped (lssD hs) = true := shaped_of (lay_lists hs) (by
  have := depth_lists hs
  show PyData.depthAll (hs.map lstD) + 1 ≤ 64
  omega)
theorem eqv_lst (a b : List Int) : PyData.eqv (lstD a) (lstD b) = decide (a = b) := eqv_ints a b
theorem eqv_lists : ∀ a b : List (List Int), PyData.eqvAll (a.map lstD) (b.map lstD) = decide (a = b)
  | [], [] => rfl
  | [], _ :: _ => rfl
  | _ :: _, [] => rfl
  | x :: a, y :: b => by
    show (PyData.eqv (lstD x) (lstD y) && PyData.eqvAll (a.map lstD) (b.map lstD)) = _
    rw [eqv_lst, eqv_lists a b]
    by_cases h : x = y <;> by_cases h2 : a = b <;> simp [h, h2]
section
variable {K : PySem.W.Frag} {i j : Int}
theorem rd_quoG {b : Nat} (h0 : j ≠ 0) (hb : j.natAbs < 2 ^ b) (h1 : 0 < b) (h9 : b ≤ 9000) : R2D K rDivG (.int i) (.int j) (.int (i.fdiv j)) := fun H I v u s r1 r2 Q q => by
  cases r1; cases r2
  exact ⟨i, j, rfl, rfl, ⟨h0, Nat.lt_of_lt_of_le (PySem.Flt.log2_lt_of h1 hb) h9⟩, q _ H I (Nx.refl s) (.int _)⟩
theorem rd_eqI : R2D K (rEqD K) (.int i) (.int j) (.bool (decide (i = j))) := by
  have := rd_eq (K := K) (x := .int i) (y := .int j) rfl rfl
  rw [eqv_int] at this
  exact this
theorem rd_neI : R2D K (rNeD K) (.int i) (.int j) (.bool (!decide (i = j))) := by
  have := rd_ne (K := K) (x := .int i) (y := .int j) rfl rfl
  rw [eqv_int] at this
  exact this
theorem rd_neL {a b : List (List Int)} : R2D K (rNeD K) (lssD a) (lssD b) (.bool (!decide (a = b))) := by
  have := rd_ne (K := K) (x := lssD a) (y := lssD b) (shaped_lists a) (shaped_lists b)
  rw [show PyData.eqv (lssD a) (lssD b) = decide (a = b) from eqv_lists a b] at this
  exact this
theorem rd_eqR {a b : List Int} : R2D K (rEqD K) (lstD a) (lstD b) (.bool (decide (a = b))) := by
  have := rd_eq (K := K) (x := lstD a) (y := lstD b) (shaped_intsL a) (shaped_intsL b)
  rw [eqv_lst] at this
  exact this
end
theorem lists_get {R : List (List Int)} {i : Nat} {d : PyData} (h : (R.map lstD)[i]? = some d) : ∃ r, R[i]? = some r ∧ d = lstD r := by
  rw [List.getElem?_map] at h
  cases e : R[i]? with
  | none => rw [e] at h; cases h
  | some z =>
    rw [e] at h
    exact ⟨z, rfl, (Option.some.inj h).symm⟩
theorem map_getL (R : List (List Int)) : (List.range R.length).map (fun k => R.getD k []) = R := by
  apply List.ext_getElem?
  intro k
  rw [List.getElem?_map]
  by_cases hk : k < R.length
  · rw [List.getElem?_range hk, Option.map_some, List.getD_eq_getElem?_getD, List.getElem?_eq_getElem hk]
    rfl
  · rw [List.getElem?_eq_none_iff.mpr (by rw [List.length_range]; omega), List.getElem?_eq_none_iff.mpr (by omega)]
    rfl
/-- what is kept of some lists -/
theorem kept_lists (R : List (List Int)) (p : List Int → Bool) : kept R.length (fun i => p (R.getD i [])) (fun i => lstD (R.getD i [])) = (R.filter p).map lstD := by
  unfold kept
  have e := map_getL R
  have e2 : R.filter p = ((List.range R.length).filter fun i => p (R.getD i [])).map fun k => R.getD k [] := by
    conv => lhs; rw [← e]
    rw [List.filter_map]
    rfl
  rw [e2, List.map_map]
  rfl
theorem map_lists {α : Type} {R : List (List Int)} (f : List Int → α) : (List.range R.length).map (fun i => f (R.getD i [])) = R.map f := by
  have e := map_getL R
  conv => rhs; rw [← e]
  rw [List.map_map]
  rfl
theorem map_ints {α : Type} {r : List Int} (f : Int → α) : (List.range r.length).map (fun i => f (r.getD i 0)) = r.map f := by
  have e : (List.range r.length).map (fun k => r.getD k 0) = r := map_getD rfl
  conv => rhs; rw [← e]
  rw [List.map_map]
  rfl
/-! ### the greatest common divisor, step by step -/
theorem gcd_step (c d : Nat) : Nat.gcd d (c % d) = Nat.gcd c d := by
  rw [Nat.gcd_comm d, ← Nat.gcd_rec, Nat.gcd_comm]
theorem abs_eq (a : Int) : (if a < 0 then -a else a) = (a.natAbs : Int) := by
  split <;> omega
theorem gfold_zero : ∀ (r : List Int), (∀ x ∈ r, x = 0) → r.foldl (fun g x => Nat.gcd g x.natAbs) 0 = 0
  | [], _ => rfl
  | x :: r, h => by
    rw [List.foldl_cons, h x List.mem_cons_self]
    exact gfold_zero r fun y hy => h y (List.mem_cons_of_mem _ hy)
theorem gcdL_small {r : List Int} {b : Nat} (h : ∀ x ∈ r, x.natAbs < 2 ^ b) : gcdL r < 2 ^ b := by
  by_cases h0 : ∀ x ∈ r, x = 0
  · rw [show gcdL r = 0 from gfold_zero r h0]
    exact Nat.pow_pos (by decide)
  · obtain ⟨x, hx⟩ := Classical.not_forall.mp h0
    obtain ⟨hx, h1⟩ := Classical.not_imp.mp hx
    exact Nat.lt_of_le_of_lt (Nat.le_of_dvd (by omega) (gcdL_dvd hx)) (h x hx)
/-! ### the head of a row -/
theorem head_zero : ∀ (r : List Int) (k : Nat), k < headOf r → vec r k = 0
  | [], k, h => by simp [headOf] at h
  | x :: r, k, h => by
    unfold headOf at h
    split at h
    · next hx =>
      cases k with
      | zero => exact hx
      | succ k => exact head_zero r k (by omega)
    · omega
theorem head_ne : ∀ (r : List Int), headOf r < r.length → vec r (headOf r) ≠ 0
  | [], h => by simp [headOf] at h
  | x :: r, h => by
    by_cases hx : x = 0
    · have e : headOf (x :: r) = headOf r + 1 := if_pos hx
      rw [e] at h ⊢
      exact head_ne r (by simpa using h)
    · have e : headOf (x :: r) = 0 := if_neg hx
      rw [e]
      exact hx
theorem bb_up (b : Nat) : ∀ {p q : Nat}, p ≤ q → bb b p ≤ bb b q
  | p, 0, h => by rw [show p = 0 by omega]; exact Nat.le_refl _
  | p, q + 1, h => by
    rcases Nat.lt_or_eq_of_le h with h | h
    · have := bb_up b (p := p) (q := q) (by omega)
      show bb b p ≤ 2 * bb b q + 1
      omega
    · rw [h]
      exact Nat.le_refl _
theorem bb_pos {b : Nat} (h : 0 < b) : ∀ p, 0 < bb b p
  | 0 => h
  | p + 1 => Nat.succ_pos _
theorem take_snoc {α β : Type} {l : List α} {i : Nat} {x : α} (h : l[i]? = some x) (f : β → α → β) (s : β) : (l.take (i + 1)).foldl f s = f ((l.take i).foldl f s) x := by
  rw [List.take_add_one, h, Option.toList_some, List.foldl_append]
  rfl
end Tw


namespace Tw
open PySem PySem.Spec PyProof.Rows L2

def F_divisor (ds : List PyData) (o : Out) : Prop := ∃ a b : Int, ds = [.int a, .int b] ∧ o = .rt (.int (Int.gcd a b : Nat))
theorem len_divisor : ∀ ds o, F_divisor ds o → ds.length = 2 := fun _ _ ⟨_, _, h, _⟩ => by rw [h]; rfl
/-! divisor: slots 0 a, 1 b, 2 left (3) -/
def t_divisor (K : PySem.W.Frag) (E : XK)  : TS :=
    (tSeq (tAsg (tCB (rAbsA) (tCons (tVar 0) tNil)) (gName 0))
    (tSeq (tAsg (tCB (rAbsA) (tCons (tVar 1) tNil)) (gName 1))
    (tSeq (tWhile (tTest (tOp (rNeD K) (tVar 1) (tC (.int 0)))) (tSeq (tAsg (tOp rModA (tVar 0) (tVar 1)) (gName 2))
    (tSeq (tAsg (tVar 1) (gName 0))
    (tAsg (tVar 2) (gName 1)))))
    (tRet (tVar 0)))))

theorem sem_divisor {K : PySem.W.Frag} {E : XK} {ds : List PyData} {o : Out} (h : F_divisor ds o) : As K E (t_divisor K E) (slots0 3 ds) (finP o) := by
  obtain ⟨a, b, rfl, rfl⟩ := h
  refine as_seq (as_set (x := .int (a.natAbs : Int)) (ev_to (ev_cb (ea_cons (ev_var (x := .int a) rfl) ea_nil) rc_abs) (by rw [abs_eq])) ?_)
  refine as_seq (as_set (x := .int (b.natAbs : Int)) (ev_to (ev_cb (ea_cons (ev_var (x := .int b) rfl) ea_nil) rc_abs) (by rw [abs_eq])) ?_)
  refine as_seq (as_while (fun m δ' => ∃ (c : Nat) (z : Sl), Nat.gcd c m = Int.gcd a b ∧ δ' = [.d (.int (c : Int)), .d (.int (m : Int)), z]) b.natAbs ⟨a.natAbs, .no, rfl, rfl⟩ (fun m δ' hw => ?_))
  obtain ⟨c, z, hg, rfl⟩ := hw
  refine ⟨!decide ((m : Int) = 0), et_test (ev_op (ev_var rfl) ev_int rd_neI), fun hb => ?_, fun hb => ?_⟩
  · have hm : 0 < m := by
      have : ¬((m : Int) = 0) := by simpa using hb
      omega
    refine as_seq (as_set (x := .int ((c : Int) % (m : Int))) (ev_op (ev_var rfl) (ev_var rfl) (rd_mod (by omega))) (as_seq (as_set (x := .int (m : Int)) (ev_var rfl) (as_set (x := .int ((c : Int) % (m : Int))) (ev_var rfl) ⟨c % m, Nat.mod_lt _ hm, m, .d (.int ((c : Int) % (m : Int))), ?_, ?_⟩))))
    · rw [gcd_step, hg]
    · rw [show ((c % m : Nat) : Int) = (c : Int) % (m : Int) from Int.natCast_emod c m]
      rfl
  · have hm : (m : Int) = 0 := by simpa using hb
    have hm : m = 0 := by omega
    subst hm
    rw [Nat.gcd_zero_right] at hg
    rw [← hg]
    exact as_ret (ev_var rfl) rfl

def F_plain (ds : List PyData) (o : Out) : Prop := ∃ r b, ds = [lstD r] ∧ r.length ≤ 100 ∧ 0 < b ∧ b ≤ 9000 ∧ (∀ x ∈ r, x.natAbs < 2 ^ b) ∧ o = .rt (lstD (plainF r))
theorem len_plain : ∀ ds o, F_plain ds o → ds.length = 1 := fun _ _ ⟨_, _, h, _⟩ => by rw [h]; rfl
/-! plain: slots 0 row, 1 same, 2 first, 3 number (4) -/
def t_plain (K : PySem.W.Frag) (E : XK)  : TS :=
    (tSeq (tAsg (tC (.int 0)) (gName 1))
    (tSeq (tAsg (tC (.int 0)) (gName 2))
    (tSeq (tFor (iList K (tVar 0)) (gName 3) (tSeq (tAsg (tCallS (SpD K F_divisor) (WE (fun cls d _ H => E cls d H)) (tCons (tVar 1) (tCons (tVar 3) tNil))) (gName 1))
    (tIfS (tTest (tOp (rEqD K) (tVar 2) (tC (.int 0)))) (tAsg (tVar 3) (gName 2)) tNext)))
    (tSeq (tIfS (tTest (tOp (rEqD K) (tVar 1) (tC (.int 0)))) (tRet (tCB (rLstA K) (tCons (tVar 0) tNil))) tNext)
    (tSeq (tIfS (tTest (tOp rLtA (tVar 2) (tC (.int 0)))) (tAsg (tUn rNegA (tVar 1)) (gName 1)) tNext)
    (tRet (tLc (iList K (tVar 0)) (gName 3) tYes (tOp rDivG (tVar 3) (tVar 1)) [3])))))))

theorem sem_plain {K : PySem.W.Frag} {E : XK} {ds : List PyData} {o : Out} (h : F_plain ds o) : As K E (t_plain K E) (slots0 4 ds) (finP o) := by
  obtain ⟨r, b, rfl, hl, hb0, hb9, hr, rfl⟩ := h
  refine as_seq (as_set (x := .int 0) ev_int (as_seq (as_set (x := .int 0) ev_int ?_)))
  refine as_seq (as_for (ei_list (xs := r.map .int) (ev_var rfl)) (fun i δ' => ∃ z3, δ' = [.d (lstD r), .d (.int (((r.take i).foldl (fun g x => Nat.gcd g x.natAbs) 0 : Nat) : Int)), .d (.int ((r.take i).foldl (fun f x => if f = 0 then x else f) 0)), z3]) ⟨_, rfl⟩ (fun i d δ' hd hp => ?_) (fun δ' hp => ?_))
  · obtain ⟨z3, rfl⟩ := hp
    obtain ⟨x, hx, rfl⟩ := row_get' hd
    rw [take_snoc hx, take_snoc hx]
    generalize (r.take i).foldl (fun g x => Nat.gcd g x.natAbs) 0 = g
    generalize (r.take i).foldl (fun f x => if f = 0 then x else f) 0 = f
    refine ag_name (as_seq (as_set (x := .int ((Nat.gcd g x.natAbs : Nat) : Int)) (ev_call (ea_cons (ev_var (x := .int (g : Int)) rfl) (ea_cons (ev_var (x := .int x) rfl) ea_nil)) ⟨(g : Int), x, rfl, rfl⟩) ?_))
    refine as_if (et_test (ev_op (ev_var (x := .int f) rfl) ev_int rd_eqI)) (fun z => ?_) (fun z => as_next ?_)
    · have hf : f = 0 := of_decide_eq_true z
      refine as_set (x := .int x) (ev_var rfl) ⟨.d (.int x), ?_⟩
      rw [if_pos hf]
      rfl
    · have hf : ¬f = 0 := of_decide_eq_false z
      rw [if_neg hf]
      exact ⟨_, rfl⟩
  · obtain ⟨z3, rfl⟩ := hp
    rw [List.length_map, List.take_of_length_le (Nat.le_refl _)]
    show As K E _ [.d (lstD r), .d (.int (gcdL r : Int)), .d (.int (firstL r)), z3] _
    refine as_seq (as_if (et_test (ev_op (ev_var rfl) ev_int rd_eqI)) (fun z => ?_) (fun z => as_next ?_))
    · have hg : gcdL r = 0 := by
        have := of_decide_eq_true z
        omega
      have e : plainF r = r := if_pos hg
      rw [e]
      exact as_ret (en_cb (ea_cons (ev_var (x := lstD r) rfl) ea_nil) rc_lst).ev rfl
    · have hg : ¬gcdL r = 0 := by
        have := of_decide_eq_false z
        omega
      have e : plainF r = r.map fun x => x.fdiv (sgnL r) := if_neg hg
      have hs := sgn_abs r
      have hs1 : (sgnL r).natAbs < 2 ^ b := by rw [hs]; exact gcdL_small hr
      have hs0 : sgnL r ≠ 0 := by omega
      refine as_toQ (Q := fun δ' => ∃ z2, δ' = [.d (lstD r), .d (.int (sgnL r)), z2, z3]) (as_if (et_test (ev_op (ev_var rfl) ev_int rd_lt)) (fun z => ?_) (fun z => as_next ⟨_, ⟨.d (.int (firstL r)), ?_⟩, rfl⟩)) ?_
      · have hf : firstL r < 0 := of_decide_eq_true z
        refine as_set (x := .int (sgnL r)) (ev_to (ev_neg (ev_var rfl)) (by unfold sgnL; rw [if_pos hf])) ⟨_, ⟨_, rfl⟩, rfl⟩
      · have hf : ¬firstL r < 0 := of_decide_eq_false z
        unfold sgnL
        rw [if_neg hf]
      · rintro δ' ⟨z2, rfl⟩
        rw [e]
        generalize sgnL r = s at hs0 hs1
        refine as_ret (ev_to (en_map (fun i => .int ((r.getD i 0).fdiv s)) (ei_list (xs := r.map .int) (ev_var (x := lstD r) rfl)) (row_line (by omega)) (gw1 3) (fun i d hd => ?_)).ev ?_) rfl
        · obtain ⟨x, hx, rfl⟩ := row_get' hd
          rw [getD_of hx]
          exact ag_name (ev_op (ev_var rfl) (ev_var rfl) (rd_quoG hs0 hs1 hb0 hb9))
        · rw [List.length_map, map_ints fun x => PyData.int (x.fdiv s)]
          unfold lstD
          rw [List.map_map]
          rfl

def F_eased (ds : List PyData) (o : Out) : Prop := ∃ r q p b, ds = [lstD r, lstD q, .int (p : Nat)] ∧ r.length = q.length ∧ r.length ≤ 100 ∧ p < r.length ∧ 0 < b ∧ 2 * b + 1 ≤ 9000 ∧ (∀ x ∈ r, x.natAbs < 2 ^ b) ∧ (∀ x ∈ q, x.natAbs < 2 ^ b) ∧ o = .rt (lstD (easeF r q p))
theorem len_eased : ∀ ds o, F_eased ds o → ds.length = 3 := fun _ _ ⟨_, _, _, _, h, _⟩ => by rw [h]; rfl
/-! eased: slots 0 row, 1 other, 2 place, 3 a, 4 b (5) -/
def t_eased (K : PySem.W.Frag) (E : XK)  : TS :=
    (tRet (tCallS (SpD K F_plain) (WE (fun cls d _ H => E cls d H)) (tCons (tLc (iZip2 K (tCons (tVar 0) (tCons (tVar 1) tNil))) (gTup K 2 (gCons (gName 3) (gCons (gName 4) gNil))) tYes (tOp rMinus (tOp (rMulA K) (tVar 3) (tOp (rIx K) (tVar 1) (tVar 2))) (tOp (rMulA K) (tVar 4) (tOp (rIx K) (tVar 0) (tVar 2)))) [3, 4]) tNil)))

theorem sem_eased {K : PySem.W.Frag} {E : XK} {ds : List PyData} {o : Out} (h : F_eased ds o) : As K E (t_eased K E) (slots0 5 ds) (finP o) := by
  obtain ⟨r, q, p, b, rfl, hl, hn, hp, hb0, hb9, hr, hq, rfl⟩ := h
  have hm : ∀ {x y : Int}, x.natAbs < 2 ^ b → y.natAbs < 2 ^ b → CMulW x y := fun h1 h2 => wide_mul h1 h2 hb0 hb0 (by omega)
  refine as_ret (ev_call (x := lstD (easeF r q p)) (ea_cons (x := lstD (combL r q p)) (ev_to (en_map (fun i => .int (r.getD i 0 * q.getD p 0 - q.getD i 0 * r.getD p 0)) (ei_zip2 true true (ea_cons (ev_var (x := lstD r) rfl) (ea_cons (ev_var (x := lstD q) rfl) ea_nil))) ?_ (gw2 3 4) (fun i d hd => ?_)).ev ?_) ea_nil) ⟨combL r q p, 2 * b + 1, rfl, by rw [comb_len]; omega, by omega, by omega, comb_small hr hq, rfl⟩) rfl
  · rw [pairs_len, List.length_map]
    exact small_line (by omega)
  · obtain ⟨x, y, g1, g2, rfl⟩ := pairs_get hd
    obtain ⟨a, ha, rfl⟩ := row_get' g1
    obtain ⟨c, hc, rfl⟩ := row_get' g2
    refine ag_tup2 ?_
    rw [getD_of ha, getD_of hc]
    have h1 := hr a (List.mem_of_getElem? ha)
    have h2 := hq c (List.mem_of_getElem? hc)
    exact ev_op (ev_op (ev_var rfl) (ev_op (ev_var (x := lstD q) rfl) (ev_var rfl) (rd_ixL (at_map (at_nat (getD_get (d := 0) (by omega)))))) (rd_times (hm h1 (small_vec hq p)))) (ev_op (ev_var rfl) (ev_op (ev_var (x := lstD r) rfl) (ev_var rfl) (rd_ixL (at_map (at_nat (getD_get (d := 0) hp))))) (rd_times (hm h2 (small_vec hr p)))) rd_minus
  · rw [pairs_len, List.length_map, List.length_map, show min r.length q.length = r.length by omega]
    unfold lstD combL
    rw [List.map_map]
    rfl

def F_heads_of (ds : List PyData) (o : Out) : Prop := ∃ R N b, ds = [lssD R, .int (N : Nat)] ∧ N ≤ 100 ∧ R.length ≤ 100 ∧ (∀ r ∈ R, r.length = N) ∧ 0 < b ∧ bb b N ≤ 9000 ∧ Sm b R ∧ o = .rt (lssD (headsF N R))
theorem len_heads_of : ∀ ds o, F_heads_of ds o → ds.length = 2 := fun _ _ ⟨_, _, _, h, _⟩ => by rw [h]; rfl
theorem heads_len {N : Nat} {R : List (List Int)} (h : ∀ r ∈ R, r.length = N) : ∀ p, (∀ r ∈ (headsS R p).1, r.length = N) ∧ (∀ r ∈ (headsS R p).2, r.length = N) ∧ (headsS R p).1.length ≤ p ∧ (headsS R p).2.length = R.length
  | 0 => ⟨fun r hr => by simp [headsS] at hr, h, Nat.le_refl _, rfl⟩
  | p + 1 => by
    obtain ⟨h1, h2, h3, h4⟩ := heads_len h p
    show (∀ r ∈ (headStep p (headsS R p)).1, r.length = N) ∧ (∀ r ∈ (headStep p (headsS R p)).2, r.length = N) ∧ (headStep p (headsS R p)).1.length ≤ p + 1 ∧ (headStep p (headsS R p)).2.length = R.length
    unfold headStep
    cases hf : (headsS R p).2.filter (fun r => decide (r.getD p 0 ≠ 0)) with
    | nil => exact ⟨h1, h2, Nat.le_succ_of_le h3, h4⟩
    | cons f fs =>
      have hfm : f ∈ (headsS R p).2 := (List.mem_filter.mp (by rw [hf]; exact List.mem_cons_self)).1
      refine ⟨fun r hr => ?_, fun r hr => ?_, ?_, ?_⟩
      · rcases List.mem_append.mp hr with q | q
        · obtain ⟨s, hs, rfl⟩ := List.mem_map.mp q
          rw [ease_len]
          exact h1 s hs
        · rw [List.mem_singleton.mp q, plain_len]
          exact h2 f hfm
      · obtain ⟨s, hs, rfl⟩ := List.mem_map.mp hr
        rw [ease_len]
        exact h2 s hs
      · show (((headsS R p).1.map fun r => easeF r (plainF f) p) ++ [plainF f]).length ≤ p + 1
        rw [List.length_append, List.length_map, List.length_singleton]
        omega
      · show ((headsS R p).2.map fun r => easeF r (plainF f) p).length = R.length
        rw [List.length_map, h4]
theorem lists_line {R : List (List Int)} (h : R.length ≤ 1000) : (R.map lstD).length ≤ sizeLine := by
  rw [List.length_map]
  exact small_line (by omega)
section
variable {K : PySem.W.Frag} {δ : List Sl}
/-- each row of a list copied -/
theorem en_copies {R : List (List Int)} {i j : Nat} (h : δ[i]? = some (.d (lssD R))) (hl : R.length ≤ 1000) (hj : j < δ.length) : EvN K (tLc (iList K (tVar i)) (gName j) tYes (tCB (rLstA K) (tCons (tVar j) tNil)) [j]) δ (R.map lstD) := by
  refine en_to (en_map (fun k => lstD (R.getD k [])) (ei_list (xs := R.map lstD) (ev_var h)) (lists_line hl) (gw1 j) (fun k d hd => ?_)) ?_
  · obtain ⟨r, hr, rfl⟩ := lists_get hd
    refine ag_name ?_
    rw [show R.getD k [] = r by rw [List.getD_eq_getElem?_getD, hr]; rfl]
    refine (en_cb (ea_cons (ev_var (x := lstD r) ?_) ea_nil) rc_lst).ev
    show ((δ.set j .no).set j (.d (lstD r)))[j]? = _
    rw [List.getElem?_set_self (by rw [List.length_set]; exact hj)]
  · rw [List.length_map, map_lists lstD]
/-- the rows that hold a number at a place -/
theorem en_found {R : List (List Int)} {i j q p N : Nat} (h : δ[i]? = some (.d (lssD R))) (hq : δ[q]? = some (.d (.int (p : Nat)))) (hqj : q ≠ j) (hl : R.length ≤ 1000) (hj : j < δ.length) (hN : ∀ r ∈ R, r.length = N) (hp : p < N) :
    EvN K (tLc (iList K (tVar i)) (gName j) (tTest (tOp (rNeD K) (tOp (rIx K) (tVar j) (tVar q)) (tC (.int 0)))) (tVar j) [j]) δ ((R.filter fun r => decide (r.getD p 0 ≠ 0)).map lstD) := by
  refine en_to (en_lc (fun k => decide ((R.getD k []).getD p 0 ≠ 0)) (fun k => lstD (R.getD k [])) (ei_list (xs := R.map lstD) (ev_var h)) (lists_line hl) (gw1 j) (fun k d hd => ?_)) ?_
  · obtain ⟨r, hr, rfl⟩ := lists_get hd
    refine ag_name ?_
    rw [show R.getD k [] = r by rw [List.getD_eq_getElem?_getD, hr]; rfl]
    have e1 : ((δ.set j .no).set j (.d (lstD r)))[j]? = some (.d (lstD r)) := by rw [List.getElem?_set_self (by rw [List.length_set]; exact hj)]
    have e2 : ((δ.set j .no).set j (.d (lstD r)))[q]? = some (.d (.int (p : Nat))) := by rw [List.getElem?_set_ne (Ne.symm hqj), List.getElem?_set_ne (Ne.symm hqj), hq]
    have hrl := hN r (List.mem_of_getElem? hr)
    refine ⟨et_to (et_test (ev_op (ev_op (ev_var (x := lstD r) e1) (ev_var e2) (rd_ixL (at_map (at_nat (getD_get (d := 0) (by omega)))))) ev_int rd_neI)) ?_, fun _ => ev_var e1⟩
    by_cases z : r.getD p 0 = 0
    · rw [decide_eq_true z, decide_eq_false (fun q => q z)]
      rfl
    · rw [decide_eq_false z, decide_eq_true (show r.getD p 0 ≠ 0 from z)]
      rfl
  · rw [List.length_map]
    exact kept_lists R fun r => decide (r.getD p 0 ≠ 0)
/-- each row eased by the head -/
theorem en_eased {R : List (List Int)} {o : List Int} {i j q u p N b : Nat} (h : δ[i]? = some (.d (lssD R))) (hu : δ[u]? = some (.d (lstD o))) (hq : δ[q]? = some (.d (.int (p : Nat)))) (huj : u ≠ j) (hqj : q ≠ j) (hl : R.length ≤ 1000) (hj : j < δ.length) (hN : ∀ r ∈ R, r.length = N) (ho : o.length = N) (hp : p < N) (hn : N ≤ 100)
    (hb0 : 0 < b) (hb9 : 2 * b + 1 ≤ 9000) (hR : Sm b R) (hO : ∀ x ∈ o, x.natAbs < 2 ^ b) :
    EvN K (tLc (iList K (tVar i)) (gName j) tYes (tCallS (SpD K F_eased) (WE (fun _ _ _ _ => False)) (tCons (tVar j) (tCons (tVar u) (tCons (tVar q) tNil)))) [j]) δ ((R.map fun r => easeF r o p).map lstD) := by
  refine en_to (en_map (fun k => lstD (easeF (R.getD k []) o p)) (ei_list (xs := R.map lstD) (ev_var h)) (lists_line hl) (gw1 j) (fun k d hd => ?_)) ?_
  · obtain ⟨r, hr, rfl⟩ := lists_get hd
    refine ag_name ?_
    rw [show R.getD k [] = r by rw [List.getD_eq_getElem?_getD, hr]; rfl]
    have e1 : ((δ.set j .no).set j (.d (lstD r)))[j]? = some (.d (lstD r)) := by rw [List.getElem?_set_self (by rw [List.length_set]; exact hj)]
    have e2 : ((δ.set j .no).set j (.d (lstD r)))[q]? = some (.d (.int (p : Nat))) := by rw [List.getElem?_set_ne (Ne.symm hqj), List.getElem?_set_ne (Ne.symm hqj), hq]
    have e3 : ((δ.set j .no).set j (.d (lstD r)))[u]? = some (.d (lstD o)) := by rw [List.getElem?_set_ne (Ne.symm huj), List.getElem?_set_ne (Ne.symm huj), hu]
    have hrm := List.mem_of_getElem? hr
    have hrl := hN r hrm
    exact ev_call (ea_cons (ev_var (x := lstD r) e1) (ea_cons (ev_var (x := lstD o) e3) (ea_cons (ev_var e2) ea_nil))) ⟨r, o, p, b, rfl, by omega, by omega, by omega, hb0, hb9, hR r hrm, hO, rfl⟩
  · rw [List.length_map, map_lists fun r => lstD (easeF r o p), List.map_map]
    rfl
end
/-! heads_of: slots 0 rows, 1 size, 2 made, 3 left, 4 place, 5 found, 6 head, 7 row (8) -/
def t_heads_of (K : PySem.W.Frag) (E : XK)  : TS :=
    (tSeq (tAsg (tLst tNil) (gName 2))
    (tSeq (tAsg (tLc (iList K (tVar 0)) (gName 7) tYes (tCB (rLstA K) (tCons (tVar 7) tNil)) [7]) (gName 3))
    (tSeq (tFor (iRng1 (tCons (tVar 1) tNil)) (gName 4) (tSeq (tAsg (tLc (iList K (tVar 3)) (gName 7) (tTest (tOp (rNeD K) (tOp (rIx K) (tVar 7) (tVar 4)) (tC (.int 0)))) (tVar 7) [7]) (gName 5))
    (tIfS (tTest (tOp (rNeD K) (tVar 5) (tLst tNil))) (tSeq (tAsg (tCallS (SpD K F_plain) (WE (fun cls d _ H => E cls d H)) (tCons (tOp (rIx K) (tVar 5) (tC (.int 0))) tNil)) (gName 6))
    (tSeq (tAsg (tLc (iList K (tVar 3)) (gName 7) tYes (tCallS (SpD K F_eased) (WE (fun _ _ _ _ => False)) (tCons (tVar 7) (tCons (tVar 6) (tCons (tVar 4) tNil)))) [7]) (gName 3))
    (tAsg (tOp (rAddA K) (tLc (iList K (tVar 2)) (gName 7) tYes (tCallS (SpD K F_eased) (WE (fun _ _ _ _ => False)) (tCons (tVar 7) (tCons (tVar 6) (tCons (tVar 4) tNil)))) [7]) (tLst (tCons (tVar 6) tNil))) (gName 2)))) tNext)))
    (tRet (tVar 2)))))

theorem sem_heads_of {K : PySem.W.Frag} {E : XK} {ds : List PyData} {o : Out} (h : F_heads_of ds o) : As K E (t_heads_of K E) (slots0 8 ds) (finP o) := by
  obtain ⟨R, N, b, rfl, hn, hm, hN, hb0, hb9, hS, rfl⟩ := h
  refine as_seq (as_set (x := lssD []) (en_lst ea_nil (Nat.zero_le _)).ev ?_)
  refine as_seq (as_set (x := lssD R) (en_copies (R := R) rfl (by omega) (by show 7 < 8; omega)).ev ?_)
  refine as_seq (as_for (ei_rng1 (ea_cons (ev_var rfl) ea_nil) (by omega) (by omega)) (fun p δ' => ∃ z4 z5 z6, δ' = [.d (lssD R), .d (.int (N : Nat)), .d (lssD (headsS R p).1), .d (lssD (headsS R p).2), z4, z5, z6, .no]) ⟨_, _, _, rfl⟩ (fun p d δ' hd hp => ?_) (fun δ' hp => ?_))
  · obtain ⟨z4, z5, z6, rfl⟩ := hp
    obtain ⟨hpn, rfl⟩ := nums_get hd
    have hpn : p < N := by omega
    rw [Int.zero_add]
    obtain ⟨l1, l2, l3, l4⟩ := heads_len hN p
    obtain ⟨s1, s2⟩ := heads_small hS p
    have hbp := bb_pos hb0 p
    have hb2 : 2 * bb b p + 1 ≤ 9000 := Nat.le_trans (bb_up b (p := p + 1) (q := N) hpn) hb9
    have hst : headsS R (p + 1) = headStep p (headsS R p) := rfl
    rw [hst]
    generalize headsS R p = S at l1 l2 l3 l4 s1 s2
    generalize bb b p = c at s1 s2 hbp hb2
    refine ag_name (as_seq (as_set (x := lssD (S.2.filter fun r => decide (r.getD p 0 ≠ 0))) (en_found (R := S.2) (N := N) (p := p) rfl rfl (by decide) (by omega) (by show 7 < 8; omega) l2 hpn).ev ?_))
    unfold headStep
    cases hf : S.2.filter (fun r => decide (r.getD p 0 ≠ 0)) with
    | nil =>
      exact as_if (b := false) (et_test (ev_op (ev_var (x := lssD []) rfl) (en_lst (xs := []) ea_nil (Nat.zero_le _)).ev (rd_neL (a := []) (b := [])))) (fun z => nomatch z) (fun _ => as_next ⟨_, _, _, rfl⟩)
    | cons f fs =>
      have hfm : f ∈ S.2 := (List.mem_filter.mp (by rw [hf]; exact List.mem_cons_self)).1
      have hfl := l2 f hfm
      have hps := plain_small (s2 f hfm)
      have hpl : (plainF f).length = N := by rw [plain_len, hfl]
      refine as_if (b := true) (et_to (et_test (ev_op (ev_var (x := lssD (f :: fs)) rfl) (en_lst (xs := []) ea_nil (Nat.zero_le _)).ev (rd_neL (a := f :: fs) (b := [])))) rfl) (fun _ => ?_) (fun z => nomatch z)
      refine as_seq (as_set (x := lstD (plainF f)) (ev_call (x := lstD (plainF f)) (ea_cons (ev_op (ev_var (x := lssD (f :: fs)) rfl) ev_int (rd_ixL (z := lstD f) (at_map (at_nat (j := 0) rfl)))) ea_nil) ⟨f, c, rfl, by omega, hbp, by omega, s2 f hfm, rfl⟩) ?_)
      refine as_seq (as_set (x := lssD (S.2.map fun r => easeF r (plainF f) p)) (en_eased (R := S.2) (o := plainF f) (N := N) (b := c) rfl rfl rfl (by decide) (by decide) (by omega) (by show 7 < 8; omega) l2 hpl hpn hn hbp hb2 s2 hps).ev ?_)
      refine as_set (x := lssD ((S.1.map fun r => easeF r (plainF f) p) ++ [plainF f])) (ev_to (en_cat (en_eased (R := S.1) (o := plainF f) (N := N) (b := c) rfl rfl rfl (by decide) (by decide) (by omega) (by show 7 < 8; omega) l1 hpl hpn hn hbp hb2 s1 hps).ev (en_lst (ea_cons (ev_var (x := lstD (plainF f)) rfl) ea_nil) (by show 1 ≤ sizeLine; decide)).ev ?_).ev ?_) ⟨_, _, _, rfl⟩
      · rw [List.length_map, List.length_map]
        exact small_line (by show S.1.length + 1 ≤ 100000; omega)
      · unfold lssD
        rw [List.map_append]
        rfl
  · obtain ⟨z4, z5, z6, rfl⟩ := hp
    rw [nums_len]
    exact as_ret (ev_var rfl) rfl

def F_head_of (ds : List PyData) (o : Out) : Prop := ∃ r, ds = [lstD r] ∧ headOf r < r.length ∧ o = .rt (.int (headOf r : Nat))
theorem len_head_of : ∀ ds o, F_head_of ds o → ds.length = 1 := fun _ _ ⟨_, h, _⟩ => by rw [h]; rfl
/-! head_of: slots 0 row, 1 k (2) -/
def t_head_of (K : PySem.W.Frag) (E : XK)  : TS :=
    (tSeq (tAsg (tC (.int 0)) (gName 1))
    (tSeq (tWhile (tTest (tOp (rEqD K) (tOp (rIx K) (tVar 0) (tVar 1)) (tC (.int 0)))) (tAsg (tOp (rAddA K) (tVar 1) (tC (.int 1))) (gName 1)))
    (tRet (tVar 1))))

theorem sem_head_of {K : PySem.W.Frag} {E : XK} {ds : List PyData} {o : Out} (h : F_head_of ds o) : As K E (t_head_of K E) (slots0 2 ds) (finP o) := by
  obtain ⟨r, rfl, hl, rfl⟩ := h
  refine as_seq (as_set (x := .int 0) ev_int ?_)
  refine as_seq (as_while (fun m δ' => ∃ k : Nat, k + m = headOf r ∧ δ' = [.d (lstD r), .d (.int (k : Int))]) (headOf r) ⟨0, by omega, rfl⟩ (fun m δ' hw => ?_))
  obtain ⟨k, hk, rfl⟩ := hw
  refine ⟨decide (r.getD k 0 = 0), et_test (ev_op (ev_op (ev_var (x := lstD r) rfl) (ev_var rfl) (rd_ixL (at_map (at_nat (getD_get (d := 0) (by omega)))))) ev_int rd_eqI), fun hb => ?_, fun hb => ?_⟩
  · have hz : vec r k = 0 := of_decide_eq_true hb
    have hm : 0 < m := by
      refine Nat.pos_of_ne_zero fun e => head_ne r hl ?_
      rw [show headOf r = k by omega]
      exact hz
    exact as_set (x := .int ((k : Int) + 1)) (ev_op (ev_var rfl) ev_int rd_plus) ⟨m - 1, by omega, k + 1, by omega, rfl⟩
  · have hz : ¬vec r k = 0 := of_decide_eq_false hb
    have hm : m = 0 := by
      refine Classical.byContradiction fun e => hz (head_zero r k (by omega))
    have e : headOf r = k := by omega
    rw [e]
    exact as_ret (ev_var rfl) rfl

def idxI (ps : List Nat) : List Int := ps.map fun (q : Nat) => (q : Int)
def F_noughts_of (ds : List PyData) (o : Out) : Prop := ∃ R N b, ds = [lssD R, .int (N : Nat)] ∧ N ≤ 100 ∧ R.length ≤ 100 ∧ (∀ r ∈ R, r.length = N) ∧ 0 < b ∧ bb (1 + N * bb b N + bb b N) N ≤ 9000 ∧ Sm b R ∧ o = .rt (lssD (noughtsF N R))
theorem len_noughts_of : ∀ ds o, F_noughts_of ds o → ds.length = 2 := fun _ _ ⟨_, _, _, h, _⟩ => by rw [h]; rfl
theorem bb_ge (b : Nat) : ∀ p, b ≤ bb b p
  | 0 => Nat.le_refl _
  | p + 1 => by
    have := bb_ge b p
    show b ≤ 2 * bb b p + 1
    omega
theorem fdiv_le {x s : Int} (d : s ∣ x) (hs : s ≠ 0) : (x.fdiv s).natAbs ≤ x.natAbs := by
  obtain ⟨a, rfl⟩ := d
  rw [Int.mul_fdiv_cancel_left _ hs, Int.natAbs_mul]
  exact Nat.le_mul_of_pos_left _ (by omega)
theorem zip_at {H : List (List Int)} {ps : List Nat} {i : Nat} {d : PyData} (h : (pairs (H.map lstD) ((idxI ps).map .int))[i]? = some d) : ∃ r q, (H.zip ps)[i]? = some (r, q) ∧ d = .tuple [lstD r, .int (q : Nat)] := by
  obtain ⟨x, y, g1, g2, rfl⟩ := pairs_get h
  obtain ⟨r, hr, rfl⟩ := lists_get g1
  obtain ⟨z, hz, rfl⟩ := row_get' g2
  unfold idxI at hz
  rw [List.getElem?_map] at hz
  cases e : ps[i]? with
  | none => rw [e] at hz; cases hz
  | some q =>
    rw [e] at hz
    cases hz
    exact ⟨r, q, by rw [List.getElem?_zip_eq_some]; exact ⟨hr, e⟩, rfl⟩
theorem idx_mem {ps : List Nat} {f : Nat} : decide ((f : Int) ∈ idxI ps) = decide (f ∈ ps) := by
  unfold idxI
  refine decide_eq_decide.mpr ⟨fun h => ?_, fun h => List.mem_map.mpr ⟨f, h, rfl⟩⟩
  obtain ⟨q, hq, e⟩ := List.mem_map.mp h
  have : q = f := by omega
  rw [← this]
  exact hq
def freeTo (ps : List Nat) (i : Nat) : List Nat := (List.range i).filter fun f => decide (f ∉ ps)
theorem free_step (ps : List Nat) (i : Nat) : freeTo ps (i + 1) = if i ∈ ps then freeTo ps i else freeTo ps i ++ [i] := by
  unfold freeTo
  rw [List.range_succ, List.filter_append, List.filter_cons]
  by_cases h : i ∈ ps
  · rw [if_pos h, if_neg (by rw [decide_eq_false (fun z => z h)]; decide)]
    exact List.append_nil _
  · rw [if_neg h, if_pos (decide_eq_true h)]
    rfl
theorem free_len (ps : List Nat) (i : Nat) : (freeTo ps i).length ≤ i := by
  unfold freeTo
  have := List.length_filter_le (fun f => decide (f ∉ ps)) (List.range i)
  rw [List.length_range] at this
  exact this
theorem nfold_small {f : Nat} {W : Int} {c b : Nat} : ∀ (l : List (List Int × Nat)) (s : List Int), (∀ x ∈ s, x.natAbs < 2 ^ (c + b)) → (∀ x ∈ l, (x.1.getD f 0).natAbs < 2 ^ b ∧ (W.fdiv (x.1.getD x.2 0)).natAbs < 2 ^ c) → ∀ x ∈ l.foldl (nStep f W) s, x.natAbs < 2 ^ (c + b)
  | [], s, h, _, x, hx => h x hx
  | y :: l, s, h, hl, x, hx => by
    rw [List.foldl_cons] at hx
    refine nfold_small l _ (fun z hz => ?_) (fun z hz => hl z (List.mem_cons_of_mem _ hz)) x hx
    unfold nStep at hz
    rcases List.mem_or_eq_of_mem_set hz with q | rfl
    · exact h z q
    · obtain ⟨h1, h2⟩ := hl y List.mem_cons_self
      rw [Nat.add_comm c b]
      exact mul_small (by rw [Int.natAbs_neg]; exact h1) h2
theorem noughts_small {N b : Nat} {R : List (List Int)} (hN : ∀ r ∈ R, r.length = N) (hb0 : 0 < b) (hS : Sm b R) : Sm (bb (1 + N * bb b N + bb b N) N) (noughtsF N R) := by
  obtain ⟨ps, g⟩ := heads_ground hN
  have hps := g.heads
  have hHl : (headsF N R).length ≤ N := (heads_len hN N).2.2.1
  have hHs : Sm (bb b N) (headsF N R) := (heads_small hS N).1
  have hWs : (wholeF (headsF N R) ps).natAbs < 2 ^ (1 + N * bb b N) := by
    have := whole_small (b := bb b N) ((headsF N R).zip ps) 1 1 (by decide) (by decide) fun x hx => ⟨g.pivots x hx, small_vec (hHs _ (List.of_mem_zip hx).1) _⟩
    refine Nat.lt_of_lt_of_le this (Nat.pow_le_pow_right (by decide) ?_)
    have h1 : ((headsF N R).zip ps).length ≤ N := by rw [List.length_zip]; omega
    have := Nat.mul_le_mul_right (bb b N) h1
    omega
  unfold noughtsF
  rw [hps]
  refine (heads_small (b := 1 + N * bb b N + bb b N) (fun r hr => ?_) N).1
  obtain ⟨f, _, rfl⟩ := List.mem_map.mp hr
  unfold noughtRow
  refine nfold_small _ _ (fun x hx => ?_) (fun x hx => ?_)
  · rcases List.mem_or_eq_of_mem_set hx with q | rfl
    · rw [(List.mem_replicate.mp q).2]
      exact Nat.pow_pos (by decide)
    · exact Nat.lt_of_lt_of_le hWs (Nat.pow_le_pow_right (by decide) (by omega))
  · have hp := g.pivots x hx
    exact ⟨small_vec (hHs _ (List.of_mem_zip hx).1) _, Nat.lt_of_le_of_lt (fdiv_le (g.whole.2 x hx) (by omega)) hWs⟩
theorem sumN_list (f : Nat → Int) : ∀ N, sumN N f = ((List.range N).map f).sum
  | 0 => rfl
  | N + 1 => by
    rw [List.range_succ, List.map_append, List.sum_append, ← sumN_list f N, List.map_cons, List.map_nil, List.sum_cons, List.sum_nil, Int.add_zero]
    rfl
/-! noughts_of: slots 0 rows, 1 size, 2 heads, 3 row, 4 places, 5 whole, 6 place, 7 made, 8 free, 9 found, 10 k (11) -/
def t_noughts_of (K : PySem.W.Frag) (E : XK)  : TS :=
    (tSeq (tAsg (tCallS (SpD K F_heads_of) (WE (fun cls d _ H => E cls d H)) (tCons (tVar 0) (tCons (tVar 1) tNil))) (gName 2))
    (tSeq (tAsg (tLc (iList K (tVar 2)) (gName 3) tYes (tCallS (SpD K F_head_of) (WE (fun _ _ _ _ => False)) (tCons (tVar 3) tNil)) [3]) (gName 4))
    (tSeq (tAsg (tC (.int 1)) (gName 5))
    (tSeq (tFor (iZip2 K (tCons (tVar 2) (tCons (tVar 4) tNil))) (gTup K 2 (gCons (gName 3) (gCons (gName 6) gNil))) (tAsg (tOp (rMulA K) (tOp rDivG (tVar 5) (tCallS (SpD K F_divisor) (WE (fun cls d _ H => E cls d H)) (tCons (tVar 5) (tCons (tOp (rIx K) (tVar 3) (tVar 6)) tNil)))) (tOp (rIx K) (tVar 3) (tVar 6))) (gName 5)))
    (tSeq (tAsg (tLst tNil) (gName 7))
    (tSeq (tFor (iRng1 (tCons (tVar 1) tNil)) (gName 8) (tIfS (tTest (tOp (rIn K true) (tVar 8) (tVar 4))) (tSeq (tAsg (tLc (iRng1 (tCons (tVar 1) tNil)) (gName 10) tYes (tC (.int 0)) [10]) (gName 9))
    (tSeq (tAsg (tVar 5) (gSub (tVar 9) (tVar 8) rSetL))
    (tSeq (tFor (iZip2 K (tCons (tVar 2) (tCons (tVar 4) tNil))) (gTup K 2 (gCons (gName 3) (gCons (gName 6) gNil))) (tAsg (tOp (rMulA K) (tUn rNegA (tOp (rIx K) (tVar 3) (tVar 8))) (tOp rDivG (tVar 5) (tOp (rIx K) (tVar 3) (tVar 6)))) (gSub (tVar 9) (tVar 6) rSetL)))
    (tDrop (tBM K "list" rAppend (tVar 7) (tCons (tVar 9) tNil)))))) tNext))
    (tRet (tCallS (SpD K F_heads_of) (WE (fun cls d _ H => E cls d H)) (tCons (tVar 7) (tCons (tVar 1) tNil))))))))))

theorem sem_noughts_of {K : PySem.W.Frag} {E : XK} {ds : List PyData} {o : Out} (h : F_noughts_of ds o) : As K E (t_noughts_of K E) (slots0 11 ds) (finP o) := by
  obtain ⟨R, N, b, rfl, hn, hm, hN, hb0, hB9, hS, rfl⟩ := h
  obtain ⟨ps, g⟩ := heads_ground hN
  have hps := g.heads
  have hln := heads_len hN N
  have hHl : (headsF N R).length ≤ N := hln.2.2.1
  have hHs : Sm (bb b N) (headsF N R) := (heads_small hS N).1
  have hBp := bb_pos hb0 N
  have hB0 := bb_ge (1 + N * bb b N + bb b N) N
  have e0 : noughtsF N R = headsF N (madeF N (headsF N R) ps (wholeF (headsF N R) ps)) := by
    unfold noughtsF
    rw [hps]
  rw [e0]
  refine as_seq (as_set (x := lssD (headsF N R)) (ev_call (ea_cons (ev_var (x := lssD R) rfl) (ea_cons (ev_var (x := .int (N : Nat)) rfl) ea_nil)) ⟨R, N, b, rfl, hn, hm, hN, hb0, by omega, hS, rfl⟩) ?_)
  have hW := g.whole
  have hWs : (wholeF (headsF N R) ps).natAbs < 2 ^ (1 + N * bb b N) := by
    have := whole_small (b := bb b N) ((headsF N R).zip ps) 1 1 (by decide) (by decide) fun x hx => ⟨g.pivots x hx, small_vec (hHs _ (List.of_mem_zip hx).1) _⟩
    refine Nat.lt_of_lt_of_le this (Nat.pow_le_pow_right (by decide) ?_)
    have h1 : ((headsF N R).zip ps).length ≤ N := by rw [List.length_zip]; omega
    have := Nat.mul_le_mul_right (bb b N) h1
    omega
  have hzl : ((headsF N R).zip ps).length = (headsF N R).length := by rw [List.length_zip, g.pl, Nat.min_self]
  have hpl := g.pl
  generalize hHH : headsF N R = H at *
  generalize hBB : bb b N = B at *
  have hidx : (idxI ps).length ≤ 1000 := by unfold idxI; rw [List.length_map]; omega
  have hpairs : (pairs (H.map lstD) ((idxI ps).map .int)).length = (H.zip ps).length := by
    rw [pairs_len, List.length_map, List.length_map, List.length_zip]
    unfold idxI
    rw [List.length_map]
  have hzip : ∀ {i r q}, (H.zip ps)[i]? = some (r, q) → r ∈ H ∧ q ∈ ps ∧ r.length = N ∧ q < N ∧ 0 < r.getD q 0 ∧ (∀ k, (r.getD k 0).natAbs < 2 ^ B) := fun {i r q} e => by
    have hm := List.mem_of_getElem? e
    obtain ⟨m1, m2⟩ := List.of_mem_zip hm
    exact ⟨m1, m2, g.len r m1, g.pb q m2, g.pivots _ hm, fun k => small_vec (hHs r m1) k⟩
  refine as_seq (as_set (x := lstD (idxI ps)) (ev_to (en_map (fun k => .int (headOf (H.getD k []) : Nat)) (ei_list (xs := H.map lstD) (ev_var (x := lssD H) rfl)) (lists_line (by omega)) (gw1 3) (fun k d hd => ?_)).ev ?_) ?_)
  · obtain ⟨r, hr, rfl⟩ := lists_get hd
    rw [show H.getD k [] = r by rw [List.getD_eq_getElem?_getD, hr]; rfl]
    have hrm := List.mem_of_getElem? hr
    have hq : headOf r ∈ ps := by rw [← hps]; exact List.mem_map.mpr ⟨r, hrm, rfl⟩
    exact ag_name (ev_call (ea_cons (ev_var (x := lstD r) rfl) ea_nil) ⟨r, rfl, by rw [g.len r hrm]; exact g.pb _ hq, rfl⟩)
  · rw [List.length_map, map_lists fun r => PyData.int (headOf r : Nat)]
    unfold lstD idxI
    rw [← hps, List.map_map, List.map_map]
    rfl
  refine as_seq (as_set (x := .int 1) ev_int ?_)
  refine as_seq (as_for (ei_zip2 true true (ea_cons (ev_var (x := lssD H) rfl) (ea_cons (ev_var (x := lstD (idxI ps)) rfl) ea_nil))) (fun i δ' => ∃ z3 z6, δ' = [.d (lssD R), .d (.int (N : Nat)), .d (lssD H), z3, .d (lstD (idxI ps)), .d (.int (((H.zip ps).take i).foldl wStep 1)), z6, .no, .no, .no, .no]) ⟨_, _, rfl⟩ (fun i d δ' hd hp => ?_) (fun δ' hp => ?_))
  · obtain ⟨z3, z6, rfl⟩ := hp
    obtain ⟨r, q, hz, rfl⟩ := zip_at hd
    rw [take_snoc hz]
    obtain ⟨m1, m2, rl, ql, rp, rb⟩ := hzip hz
    have hil : i < (H.zip ps).length := (List.getElem?_eq_some_iff.mp hz).1
    have wpos := (whole_ok ((H.zip ps).take i) 1 (by decide) fun x hx => g.pivots x (List.mem_of_mem_take hx)).1
    have wsm : (((H.zip ps).take i).foldl wStep 1).natAbs < 2 ^ (1 + N * B) := by
      have := whole_small (b := B) ((H.zip ps).take i) 1 1 (by decide) (by decide) fun x hx => ⟨g.pivots x (List.mem_of_mem_take hx), small_vec (hHs _ (List.of_mem_zip (List.mem_of_mem_take hx)).1) _⟩
      refine Nat.lt_of_lt_of_le this (Nat.pow_le_pow_right (by decide) ?_)
      have h1 : ((H.zip ps).take i).length ≤ N := by rw [List.length_take]; omega
      have := Nat.mul_le_mul_right B h1
      omega
    generalize ((H.zip ps).take i).foldl wStep 1 = W at wpos wsm
    have hgz : ((Int.gcd W (r.getD q 0) : Nat) : Int) ≠ 0 := fun z => by
      have h1 : Int.gcd W (r.getD q 0) = 0 := by omega
      have := (Int.gcd_eq_zero_iff.mp h1).1
      omega
    have hgs : ((Int.gcd W (r.getD q 0) : Nat) : Int).natAbs < 2 ^ B := by
      rw [Int.natAbs_natCast]
      have h1 : Int.gcd W (r.getD q 0) ∣ (r.getD q 0).natAbs := Nat.gcd_dvd_right _ _
      exact Nat.lt_of_le_of_lt (Nat.le_of_dvd (by omega) h1) (rb q)
    have hat : ∀ {δ : List Sl}, δ[3]? = some (.d (lstD r)) → δ[6]? = some (.d (.int (q : Nat))) → Ev K (tOp (rIx K) (tVar 3) (tVar 6)) δ (.int (r.getD q 0)) := fun e3 e6 => ev_op (ev_var (x := lstD r) e3) (ev_var e6) (rd_ixL (at_map (at_nat (getD_get (d := 0) (by omega)))))
    refine ag_tup2 (as_set (x := .int (wStep W (r, q))) (ev_op (ev_op (ev_var (x := .int W) rfl) (ev_call (x := .int (Int.gcd W (r.getD q 0) : Nat)) (ea_cons (ev_var (x := .int W) rfl) (ea_cons (hat rfl rfl) ea_nil)) ⟨W, r.getD q 0, rfl, rfl⟩) (rd_quoG hgz hgs hBp (by omega))) (hat rfl rfl) (rd_times (wide_mul (Nat.lt_of_le_of_lt (fdiv_le (Int.gcd_dvd_left ..) hgz) wsm) (rb q) (by omega) hBp (by omega)))) ⟨_, _, rfl⟩)
  · obtain ⟨z3, z6, rfl⟩ := hp
    have ew : ((H.zip ps).take (pairs (H.map lstD) ((idxI ps).map .int)).length).foldl wStep 1 = wholeF H ps := by
      rw [hpairs, List.take_of_length_le (Nat.le_refl _)]
      rfl
    rw [show pairs (List.map lstD H) (List.map PyData.int (idxI ps)) = pairs (H.map lstD) ((idxI ps).map .int) from rfl] at *
    rw [ew]
    refine as_seq (as_setN (xs := []) (en_lst ea_nil (Nat.zero_le _)) ?_)
    have hWd := hW.2
    have hWp := hW.1
    have hmade : madeF N H ps (wholeF H ps) = (freeTo ps N).map (noughtRow N H ps (wholeF H ps)) := rfl
    rw [hmade]
    have hms : ∀ f, ∀ x ∈ noughtRow N H ps (wholeF H ps) f, x.natAbs < 2 ^ (1 + N * B + B) := fun f => by
      unfold noughtRow
      refine nfold_small _ _ (fun x hx => ?_) (fun x hx => ?_)
      · rcases List.mem_or_eq_of_mem_set hx with q | rfl
        · rw [(List.mem_replicate.mp q).2]
          exact Nat.pow_pos (by decide)
        · exact Nat.lt_of_lt_of_le hWs (Nat.pow_le_pow_right (by decide) (by omega))
      · have hp := g.pivots x hx
        exact ⟨small_vec (hHs _ (List.of_mem_zip hx).1) _, Nat.lt_of_le_of_lt (fdiv_le (hWd x hx) (by omega)) hWs⟩
    have hml : ∀ f, (noughtRow N H ps (wholeF H ps) f).length = N := fun f => nought_len ..
    have hrow : ∀ f, noughtRow N H ps (wholeF H ps) f = (H.zip ps).foldl (nStep f (wholeF H ps)) ((List.replicate N 0).set f (wholeF H ps)) := fun f => rfl
    generalize wholeF H ps = W at hWs hWd hWp hms hml hrow
    generalize noughtRow N H ps W = nr at hms hml hrow
    refine as_seq (as_for (ei_rng1 (ea_cons (ev_var rfl) ea_nil) (by omega) (by omega)) (fun i δ' => ∃ z3 z6 z8 z9, δ' = [.d (lssD R), .d (.int (N : Nat)), .d (lssD H), z3, .d (lstD (idxI ps)), .d (.int W), z6, .own (((freeTo ps i).map nr).map lstD), z8, z9, .no]) ⟨_, _, _, _, rfl⟩ (fun f d δ' hd hp => ?_) (fun δ' hp => ?_))
    · obtain ⟨z3, z6, z8, z9, rfl⟩ := hp
      obtain ⟨hfn, rfl⟩ := nums_get hd
      have hfn : f < N := by omega
      rw [Int.zero_add, free_step]
      have hfl := free_len ps f
      refine ag_name (as_if (b := !decide (f ∈ ps)) (et_to (et_test (ev_op (ev_var (x := .int (f : Nat)) rfl) (ev_var (x := lstD (idxI ps)) rfl) rd_notIn)) (by rw [idx_mem])) (fun z => ?_) (fun z => as_next ?_))
      · have hf : f ∉ ps := by simpa using z
        rw [if_neg hf]
        refine as_seq (as_setN (xs := (List.replicate N 0).map .int) (en_to (en_map (fun _ => .int 0) (ei_rng1 (ea_cons (ev_var (x := .int (N : Nat)) rfl) ea_nil) (by omega) (by omega)) (nums_line (by omega)) (gw1 10) (fun k d hd => by obtain ⟨_, rfl⟩ := nums_get hd; exact ag_name ev_int)) ?_) ?_)
        · rw [nums_len, List.map_replicate, List.map_const', List.length_range]
          rfl
        refine as_seq (as_setI (xs := (List.replicate N 0).map .int) (x := .int W) (kk := (f : Nat)) (j := f) rfl (ev_var rfl) (ev_var rfl) (ix_of (by omega) (by rw [List.length_map, List.length_replicate]; omega)) ?_)
        refine as_seq (as_for (ei_zip2 true true (ea_cons (ev_var (x := lssD H) rfl) (ea_cons (ev_var (x := lstD (idxI ps)) rfl) ea_nil))) (fun i δ' => ∃ z3 z6, δ' = [.d (lssD R), .d (.int (N : Nat)), .d (lssD H), z3, .d (lstD (idxI ps)), .d (.int W), z6, .own (((freeTo ps f).map nr).map lstD), .d (.int (f : Nat)), .own ((((H.zip ps).take i).foldl (nStep f W) ((List.replicate N 0).set f W)).map .int), .no]) ⟨z3, z6, ?_⟩ (fun i d δ' hd hp => ?_) (fun δ' hp => ?_))
        · rw [List.take_zero, List.foldl_nil, List.map_set]
          rfl
        · obtain ⟨z3, z6, rfl⟩ := hp
          obtain ⟨r, q, hz, rfl⟩ := zip_at hd
          rw [take_snoc hz]
          obtain ⟨m1, m2, rl, ql, rp, rb⟩ := hzip hz
          have hsl : (((H.zip ps).take i).foldl (nStep f W) ((List.replicate N 0).set f W)).length = N := by rw [nfold_len, List.length_set, List.length_replicate]
          generalize ((H.zip ps).take i).foldl (nStep f W) ((List.replicate N 0).set f W) = s at hsl
          have hat : ∀ {δ : List Sl} {j k : Nat}, k < N → δ[3]? = some (.d (lstD r)) → δ[j]? = some (.d (.int (k : Nat))) → Ev K (tOp (rIx K) (tVar 3) (tVar j)) δ (.int (r.getD k 0)) := fun hk e3 e6 => ev_op (ev_var (x := lstD r) e3) (ev_var e6) (rd_ixL (at_map (at_nat (getD_get (d := 0) (by omega)))))
          have hrz : r.getD q 0 ≠ 0 := by omega
          refine ag_tup2 (as_setI (xs := s.map .int) (x := .int (-(r.getD f 0) * W.fdiv (r.getD q 0))) (kk := (q : Nat)) (j := q) rfl (ev_op (ev_neg (hat hfn rfl rfl)) (ev_op (ev_var (x := .int W) rfl) (hat ql rfl rfl) (rd_quoG hrz (rb q) hBp (by omega))) (rd_times (wide_mul (by rw [Int.natAbs_neg]; exact rb f) (Nat.lt_of_le_of_lt (fdiv_le (hWd (r, q) (List.mem_of_getElem? hz)) hrz) hWs) hBp (by omega) (by omega)))) (ev_var rfl) (ix_of (by omega) (by rw [List.length_map]; omega)) ⟨.d (lstD r), .d (.int (q : Nat)), ?_⟩)
          unfold nStep
          rw [List.map_set]
          rfl
        · obtain ⟨z3, z6, rfl⟩ := hp
          rw [show ((H.zip ps).take (pairs (H.map lstD) ((idxI ps).map .int)).length) = H.zip ps by rw [hpairs, List.take_of_length_le (Nat.le_refl _)], ← hrow]
          refine as_freeze (i := 9) (xs := (nr f).map .int) rfl (as_app (i := 7) (xs := ((freeTo ps f).map nr).map lstD) rfl (ev_var (x := lstD (nr f)) rfl) ?_ ⟨z3, z6, .d (.int (f : Nat)), .d (lstD (nr f)), ?_⟩)
          · rw [List.length_map, List.length_map]
            exact Nat.lt_of_lt_of_le (show (freeTo ps f).length < 100000 by omega) (by decide)
          · rw [List.map_append, List.map_append]
            rfl
      · have hf : f ∈ ps := by simpa using z
        rw [if_pos hf]
        exact ⟨_, _, _, _, rfl⟩
    · obtain ⟨z3, z6, z8, z9, rfl⟩ := hp
      rw [nums_len, Int.toNat_natCast]
      have hfl := free_len ps N
      refine as_freeze (i := 7) (xs := ((freeTo ps N).map nr).map lstD) rfl (as_ret (ev_call (ea_cons (ev_var (x := lssD ((freeTo ps N).map nr)) rfl) (ea_cons (ev_var (x := .int (N : Nat)) rfl) ea_nil)) ⟨(freeTo ps N).map nr, N, 1 + N * B + B, rfl, hn, by rw [List.length_map]; omega, fun r hr => ?_, by omega, by omega, fun r hr => ?_, rfl⟩) rfl)
      · obtain ⟨f, _, rfl⟩ := List.mem_map.mp hr
        exact hml f
      · obtain ⟨f, _, rfl⟩ := List.mem_map.mp hr
        exact hms f

def chF (n : Nat) (m : List Int × List Int) : List Int := (List.range n).map fun k => m.2.getD k 0 - m.1.getD k 0
def turF (ms : List (List Int × List Int)) (p : Nat) : List Int := ms.map fun m => m.2.getD p 0 - m.1.getD p 0
def F_round_counts (ds : List PyData) (o : Out) : Prop := ∃ n ms, ds = [netD n ms] ∧ NetOk n 9 ms ∧ ms.length ≤ 4 ∧ o = .rt (lssD (noughtsF ms.length ((List.range n).map (turF ms))))
theorem len_round_counts : ∀ ds o, F_round_counts ds o → ds.length = 1 := fun _ _ ⟨_, _, h, _⟩ => by rw [h]; rfl
theorem ch_small {n : Nat} {m : List Int × List Int} (h1 : RowOk n 9 m.1) (h2 : RowOk n 9 m.2) : ∀ x ∈ chF n m, x.natAbs < 2 ^ 4 := fun x hx => by
  unfold chF at hx
  obtain ⟨k, hk, rfl⟩ := List.mem_map.mp hx
  have hk := List.mem_range.mp hk
  have a := h1.2 _ (vec_mem (r := m.1) (k := k) (by rw [h1.1]; exact hk))
  have b := h2.2 _ (vec_mem (r := m.2) (k := k) (by rw [h2.1]; exact hk))
  unfold vec at a b
  show _ < 16
  omega
theorem ch_len (n : Nat) (m : List Int × List Int) : (chF n m).length = n := by
  unfold chF
  rw [List.length_map, List.length_range]
theorem bits4 : ∀ N, N ≤ 4 → bb (1 + N * bb 4 N + bb 4 N) N ≤ 9000 ∧ bb 4 N ≤ 9000 := fun N h => by
  rcases N with _ | _ | _ | _ | _ | N
  · decide +kernel
  · decide +kernel
  · decide +kernel
  · decide +kernel
  · decide +kernel
  · omega
theorem tur_small {n p : Nat} {ms : List (List Int × List Int)} (h : NetOk n 9 ms) (hp : p < n) : ∀ x ∈ turF ms p, x.natAbs < 2 ^ 4 := fun x hx => by
  unfold turF at hx
  obtain ⟨m, hm, rfl⟩ := List.mem_map.mp hx
  obtain ⟨h1, h2⟩ := h.rows m hm
  have a := h1.2 _ (vec_mem (r := m.1) (k := p) (by rw [h1.1]; exact hp))
  have b := h2.2 _ (vec_mem (r := m.2) (k := p) (by rw [h2.1]; exact hp))
  unfold vec at a b
  show _ < 16
  omega
/-! round_counts: slots 0 net, 1 rows, 2 place, 3 takes, 4 gives (5) -/
def t_round_counts (K : PySem.W.Frag) (E : XK)  : TS :=
    (tSeq (tAsg (tLst tNil) (gName 1))
    (tSeq (tFor (iRng1 (tCons (tOp (rIx K) (tVar 0) (tC (.int 0))) tNil)) (gName 2) (tDrop (tBM K "list" rAppend (tVar 1) (tCons (tLc (iTup K (tOp (rIx K) (tVar 0) (tC (.int 1)))) (gTup K 2 (gCons (gName 3) (gCons (gName 4) gNil))) tYes (tOp rMinus (tOp (rIx K) (tVar 4) (tVar 2)) (tOp (rIx K) (tVar 3) (tVar 2))) [3, 4]) tNil))))
    (tRet (tCallS (SpD K F_noughts_of) (WE (fun cls d _ H => E cls d H)) (tCons (tVar 1) (tCons (tCB (rLenA K) (tCons (tOp (rIx K) (tVar 0) (tC (.int 1))) tNil)) tNil))))))

theorem sem_round_counts {K : PySem.W.Frag} {E : XK} {ds : List PyData} {o : Out} (h : F_round_counts ds o) : As K E (t_round_counts K E) (slots0 5 ds) (finP o) := by
  obtain ⟨n, ms, rfl, hN, h4, rfl⟩ := h
  have hn6 := hN.top
  refine as_seq (as_setN (xs := []) (en_lst ea_nil (Nat.zero_le _)) ?_)
  refine as_seq (as_for (ei_rng1 (ea_cons (net_size rfl) ea_nil) (by omega) (by omega)) (fun i δ' => ∃ z2, δ' = [.d (netD n ms), .own (((List.range i).map (turF ms)).map lstD), z2, .no, .no]) ⟨_, rfl⟩ (fun i d δ' hd hp => ?_) (fun δ' hp => ?_))
  · obtain ⟨z2, rfl⟩ := hp
    obtain ⟨hin, rfl⟩ := nums_get hd
    have hin : i < n := by omega
    rw [Int.zero_add]
    refine ag_name (as_app (i := 1) (xs := ((List.range i).map (turF ms)).map lstD) (x := lstD (turF ms i)) rfl (ev_to (en_map (fun k => .int ((ms.getD k ([], [])).2.getD i 0 - (ms.getD k ([], [])).1.getD i 0)) (ei_tup (net_moves rfl)) ?_ (gw2 3 4) (fun k d hd => ?_)).ev ?_) ?_ ⟨.d (.int (i : Nat)), ?_⟩)
    · rw [List.length_map]
      exact small_line (by omega)
    · obtain ⟨⟨tk, gv⟩, hm, rfl⟩ := moves_get hd
      obtain ⟨r1, r2⟩ := hN.rows _ (List.mem_of_getElem? hm)
      have l1 : tk.length = n := r1.1
      have l2 : gv.length = n := r2.1
      rw [show ms.getD k ([], []) = (tk, gv) by rw [List.getD_eq_getElem?_getD, hm]; rfl]
      exact ag_tup2 (ev_op (ev_op (ev_var (x := rowD gv) rfl) (ev_var rfl) (rd_ixT (at_row (by omega) (by omega)))) (ev_op (ev_var (x := rowD tk) rfl) (ev_var rfl) (rd_ixT (at_row (by omega) (by omega)))) rd_minus)
    · rw [List.length_map]
      unfold lstD turF
      rw [List.map_map]
      congr 1
      apply List.ext_getElem?
      intro k
      rw [List.getElem?_map, List.getElem?_map]
      by_cases hk : k < ms.length
      · have e : ms.getD k ([], []) = ms[k] := by
          rw [List.getD_eq_getElem?_getD, List.getElem?_eq_getElem hk]
          rfl
        rw [List.getElem?_range hk, List.getElem?_eq_getElem hk, Option.map_some, Option.map_some, e]
        rfl
      · rw [List.getElem?_eq_none_iff.mpr (by rw [List.length_range]; omega), List.getElem?_eq_none_iff.mpr (by omega)]
        rfl
    · rw [List.length_map, List.length_map, List.length_range]
      exact Nat.lt_of_lt_of_le (show i < 100000 by omega) (by decide)
    · rw [List.range_succ, List.map_append, List.map_append]
      rfl
  · obtain ⟨z2, rfl⟩ := hp
    rw [nums_len, Int.toNat_natCast]
    refine as_freeze (i := 1) (xs := ((List.range n).map (turF ms)).map lstD) rfl (as_ret (ev_call (ea_cons (ev_var (x := lssD ((List.range n).map (turF ms))) rfl) (ea_cons (x := .int (ms.length : Nat)) (ev_to (ev_cb (ea_cons (net_moves rfl) ea_nil) rc_lenT) (by rw [List.length_map])) ea_nil)) ⟨(List.range n).map (turF ms), ms.length, 4, rfl, by omega, by rw [List.length_map, List.length_range]; omega, fun r hr => ?_, by decide, (bits4 ms.length h4).1, fun r hr => ?_, rfl⟩) rfl)
    · obtain ⟨p, _, rfl⟩ := List.mem_map.mp hr
      unfold turF
      rw [List.length_map]
    · obtain ⟨p, hp, rfl⟩ := List.mem_map.mp hr
      exact tur_small hN (List.mem_range.mp hp)

def F_cell_at_l (ds : List PyData) (o : Out) : Prop := ∃ ns k, ds = [scrD ns, .int k] ∧ 0 ≤ k ∧ o = .rt (.int (cellF ns k))
theorem len_cell_at_l : ∀ ds o, F_cell_at_l ds o → ds.length = 2 := fun _ _ ⟨_, _, h, _⟩ => by rw [h]; rfl
/-! cell_at_l: slots 0 _law_script, 1 _law_k (2) -/
def t_cell_at_l (K : PySem.W.Frag) (E : XK)  : TS :=
    (tSeq (tIfS (tTest (tOp rLtA (tVar 1) (tCB (rLenA K) (tCons (tVar 0) tNil)))) (tRet (tOp (rIx K) (tVar 0) (tVar 1))) tNext)
    (tSeq (tIfS (tTest (tOp (rEqD K) (tVar 0) (tLst tNil))) (tRet (tC (.int 0))) tNext)
    (tRet (tOp (rAddA K) (tOp (rMulA K) (tOp (rIx K) (tVar 0) (tOp rModA (tVar 1) (tCB (rLenA K) (tCons (tVar 0) tNil)))) (tC (.int 31))) (tVar 1)))))

theorem sem_cell_at_l {K : PySem.W.Frag} {E : XK} {ds : List PyData} {o : Out} (h : F_cell_at_l ds o) : As K E (t_cell_at_l K E) (slots0 2 ds) (finP o) := by
  obtain ⟨ns, k, rfl, h0, rfl⟩ := h
  refine as_seq (as_if (et_test (ev_op (ev_var rfl) (ev_cb (ea_cons (ev_var (x := scrD ns) rfl) ea_nil) rc_lenZ) rd_lt)) (fun hb => as_ret (ev_op (ev_var (x := scrD ns) rfl) (ev_var rfl) (rd_ixZ (at_getD h0 (of_decide_eq_true hb)))) ?_) (fun hb => as_next ?_))
  · show Out.rt _ = Out.rt _
    unfold cellF
    rw [if_pos (of_decide_eq_true hb)]
  · have hk := of_decide_eq_false hb
    refine as_seq (as_if (et_test (ev_op (ev_var (x := scrD ns) rfl) (en_lst ea_nil (by decide)).ev rd_eqZ)) (fun he => as_ret ev_int ?_) (fun he => as_next ?_))
    · show Out.rt _ = Out.rt _
      have e : ns = [] := by
        cases ns with
        | nil => rfl
        | cons a r => cases (show false = true from he)
      unfold cellF
      rw [if_neg hk, if_pos e]
    · have e : ns ≠ [] := fun z => by
        subst z
        cases (show true = false from he)
      have hl : 0 < (ns.length : Int) := by
        cases ns with
        | nil => exact absurd rfl e
        | cons a r =>
          rw [List.length_cons]
          omega
      refine as_ret (ev_op (ev_op (ev_op (ev_var (x := scrD ns) rfl) (ev_op (ev_var rfl) (ev_cb (ea_cons (ev_var (x := scrD ns) rfl) ea_nil) rc_lenZ) (rd_mod hl)) (rd_ixZ (at_getD (Int.emod_nonneg _ (by omega)) (Int.emod_lt_of_pos _ hl)))) ev_int (rd_timesB (.inr ⟨by decide, by decide⟩))) (ev_var rfl) rd_plus) ?_
      show Out.rt _ = Out.rt _
      unfold cellF
      rw [if_neg hk, if_neg e]

def F_mixed_l (ds : List PyData) (o : Out) : Prop := ∃ ns k many, ds = [scrD ns, .int k, .int many] ∧ 0 ≤ k ∧ k < 1000 ∧ 0 < many ∧ o = .rt (.int (mixedF ns k many))
theorem len_mixed_l : ∀ ds o, F_mixed_l ds o → ds.length = 3 := fun _ _ ⟨_, _, _, h, _⟩ => by rw [h]; rfl
/-! mixed_l: slots 0 _law_script, 1 _law_k, 2 _law_many, 3 _law_drawn (4) -/
def t_mixed_l (K : PySem.W.Frag) (E : XK)  : TS :=
    (tSeq (tAsg (tOp rModA (tOp (rMulA K) (tOp (rAddA K) (tOp (rAddA K) (tCallS (SpD K F_cell_at_l) (WE (fun cls d _ H => E cls d H)) (tCons (tVar 0) (tCons (tVar 1) tNil))) (tOp (rMulA K) (tC (.int 7919)) (tVar 1))) (tC (.int 1))) (tC (.int 48271))) (tC (.int 2147483647))) (gName 3))
    (tRet (tOp rModA (tOp rModA (tOp (rAddA K) (tOp (rAddA K) (tOp (rMulA K) (tVar 3) (tVar 3)) (tOp (rMulA K) (tC (.int 7)) (tVar 3))) (tVar 1)) (tC (.int 2147483629))) (tVar 2))))

theorem sem_mixed_l {K : PySem.W.Frag} {E : XK} {ds : List PyData} {o : Out} (h : F_mixed_l ds o) : As K E (t_mixed_l K E) (slots0 4 ds) (finP o) := by
  obtain ⟨ns, k, many, rfl, h0, h1, hm, rfl⟩ := h
  refine as_seq (as_set (ev_op (ev_op (ev_op (ev_op (ev_call (ea_cons (ev_var (x := scrD ns) rfl) (ea_cons (ev_var rfl) ea_nil)) ⟨ns, k, rfl, h0, rfl⟩) (ev_op ev_int (ev_var rfl) (rd_timesB (.inl ⟨by decide, by decide⟩))) rd_plus) ev_int rd_plus) ev_int (rd_timesB (.inr ⟨by decide, by decide⟩))) ev_int (rd_mod (by decide))) ?_)
  have b0 := drawn_lo ns k
  have b1 := drawn_hi ns k
  have e : (cellF ns k + 7919 * k + 1) * 48271 % 2147483647 = drawnF ns k := rfl
  rw [e]
  refine as_ret (ev_op (ev_op (ev_op (ev_op (ev_op (ev_var rfl) (ev_var rfl) (rd_timesB (.inl ⟨by omega, by omega⟩))) (ev_op ev_int (ev_var rfl) (rd_timesB (.inl ⟨by decide, by decide⟩))) rd_plus) (ev_var rfl) rd_plus) ev_int (rd_mod (by decide))) (ev_var rfl) (rd_mod hm)) rfl

def F_move_l (ds : List PyData) (o : Out) : Prop := ∃ ns at_ size even, ds = [scrD ns, .int at_, .int (size : Nat), .bool even] ∧ 0 ≤ at_ ∧ at_ < 500 ∧ 1 ≤ size ∧ size ≤ 10 ∧ o = .rt (moveD (moveF (tabF ns even) ns at_ size even))
theorem len_move_l : ∀ ds o, F_move_l ds o → ds.length = 4 := fun _ _ ⟨_, _, _, _, h, _⟩ => by rw [h]; rfl
/-! move_l: slots 0 _law_script, 1 _law_at, 2 _law_size, 3 _law_even, 4 _law_k, 5 _law_cells, 6 _law_some, 7 _law_takes, 8 _law_gives, 9 _law_left, 10 _law_cell (11) -/
def t_move_l (K : PySem.W.Frag) (E : XK)  : TS :=
    (tSeq (tAsg (tLc (iRng1 (tCons (tVar 2) tNil)) (gName 4) tYes (tCallS (SpD K F_mixed_l) (WE (fun _ _ _ _ => False)) (tCons (tVar 0) (tCons (tOp (rAddA K) (tVar 1) (tVar 4)) (tCons (tC (.int 25)) tNil)))) [4]) (gName 5))
    (tSeq (tAsg (tLst (tCons (tC (.int 0)) (tCons (tC (.int 0)) (tCons (tC (.int 1)) (tCons (tC (.int 1)) (tCons (tC (.int 2)) tNil)))))) (gName 6))
    (tSeq (tIfS (tAnd (tNot (tB (tVar 3))) (tTest (tOp (rEqD K) (tCallS (SpD K F_mixed_l) (WE (fun cls d _ H => E cls d H)) (tCons (tVar 0) (tCons (tC (.int 62)) (tCons (tC (.int 6)) tNil)))) (tC (.int 0))))) (tAsg (tLst (tCons (tC (.int 0)) (tCons (tC (.int 1)) (tCons (tC (.int 3)) (tCons (tC (.int 5)) (tCons (tC (.int 9)) tNil)))))) (gName 6)) tNext)
    (tSeq (tAsg (tLc (iList K (tVar 5)) (gName 10) tYes (tOp (rIx K) (tVar 6) (tOp rModA (tVar 10) (tC (.int 5)))) [10]) (gName 7))
    (tSeq (tAsg (tLc (iList K (tVar 5)) (gName 10) tYes (tOp (rIx K) (tVar 6) (tOp rDivA (tVar 10) (tC (.int 5)))) [10]) (gName 8))
    (tSeq (tIfS (tB (tVar 3)) (tSeq (tAsg (tLc (iRng1 (tCons (tVar 2) tNil)) (gName 4) tYes (tC (.int 0)) [4]) (gName 8))
    (tSeq (tAsg (tCallS (SpD K F_mixed_l) (WE (fun cls d _ H => E cls d H)) (tCons (tVar 0) (tCons (tOp (rAddA K) (tVar 1) (tC (.int 4))) (tCons (tOp rPowA (tC (.int 4)) (tC (.int 8))) tNil)))) (gName 9))
    (tFor (iRng1 (tCons (tCB (rSum K) (tCons (tVar 7) tNil)) tNil)) (gName 4) (tSeq (tAsg (tOp (rAddA K) (tOp (rIx K) (tVar 8) (tOp rModA (tVar 9) (tVar 2))) (tC (.int 1))) (gSub (tVar 8) (tOp rModA (tVar 9) (tVar 2)) rSetL))
    (tAsg (tOp rDivA (tVar 9) (tVar 2)) (gName 9)))))) tNext)
    (tRet (tTup (tCons (tCB (rTupA K) (tCons (tVar 7) tNil)) (tCons (tCB (rTupA K) (tCons (tVar 8) tNil)) tNil))))))))))

theorem sem_move_l {K : PySem.W.Frag} {E : XK} {ds : List PyData} {o : Out} (h : F_move_l ds o) : As K E (t_move_l K E) (slots0 11 ds) (finP o) := by
  obtain ⟨ns, at_, size, even, rfl, h0, h1, hs, hs2, rfl⟩ := h
  have hcz : ((cellsF ns at_ size).map PyData.int).length ≤ sizeLine := by
    unfold cellsF
    rw [List.length_map, List.length_map, List.length_range]
    exact small_line (by omega)
  -- cells
  refine as_to (δ1 := [.d (scrD ns), .d (.int at_), .d (.int (size : Nat)), .d (.bool even), .no, .d (.list ((cellsF ns at_ size).map .int)), .no, .no, .no, .no, .no]) (as_set (ev_to (en_map (fun i => .int (mixedF ns (at_ + i) 25)) (ei_rng1 (ea_cons (ev_var rfl) ea_nil) (by omega) (by omega)) (nums_line (by omega)) (gw1 4) (fun i d hd => ?_)).ev ?_) rfl) ?_
  · obtain ⟨hi, rfl⟩ := nums_get hd
    refine ag_name ?_
    rw [Int.zero_add]
    exact ev_call (ea_cons (ev_var (x := scrD ns) rfl) (ea_cons (ev_op (ev_var rfl) (ev_var rfl) rd_plus) (ea_cons ev_int ea_nil))) ⟨ns, _, _, rfl, by omega, by omega, by decide, rfl⟩
  · rw [nums_len]
    unfold cellsF
    rw [List.map_map]
    rfl
  -- the table
  generalize htab : tabF ns even = tab
  have htl : tab.length = 5 := by rw [← htab]; exact tab_len ns even
  have hta : ∀ x ∈ tab, 0 ≤ x ∧ x ≤ 9 := by rw [← htab]; exact tab_all ns even
  refine as_seq (as_set (x := .list (tab0.map .int)) (en_lst (ea_cons ev_int (ea_cons ev_int (ea_cons ev_int (ea_cons ev_int (ea_cons ev_int ea_nil))))) (by decide)).ev ?_)
  refine as_to (δ1 := [.d (scrD ns), .d (.int at_), .d (.int (size : Nat)), .d (.bool even), .no, .d (.list ((cellsF ns at_ size).map .int)), .d (.list (tab.map .int)), .no, .no, .no, .no]) ?_ ?_
  · have hz : ∀ e : Bool, e = true ∨ e = false := fun e => by cases e <;> simp
    have hev : EvT K (tAnd (tNot (tB (tVar 3))) (tTest (tOp (rEqD K) (tCallS (SpD K F_mixed_l) (WE (fun cls d _ H => E cls d H)) (tCons (tVar 0) (tCons (tC (.int 62)) (tCons (tC (.int 6)) tNil)))) (tC (.int 0)))))
        [.d (scrD ns), .d (.int at_), .d (.int (size : Nat)), .d (.bool even), .no, .d (.list ((cellsF ns at_ size).map .int)), .d (.list (tab0.map .int)), .no, .no, .no, .no] (!even && PyData.eqv (.int (mixedF ns 62 6)) (.int 0)) :=
      et_and (et_not (et_B (ev_var rfl))) fun _ => et_test (ev_op (ev_call (ea_cons (ev_var (x := scrD ns) rfl) (ea_cons ev_int (ea_cons ev_int ea_nil))) ⟨ns, 62, 6, rfl, by decide, by decide, by decide, rfl⟩) ev_int (rd_eq rfl rfl))
    refine as_if hev (fun hb => ?_) (fun hb => ?_)
    · have e : tab = tab9 := by
        rw [← htab]
        rw [eqv_int] at hb
        unfold tabF
        rw [if_pos (by simpa using hb)]
      rw [e]
      exact as_set (x := .list (tab9.map .int)) (en_lst (ea_cons ev_int (ea_cons ev_int (ea_cons ev_int (ea_cons ev_int (ea_cons ev_int ea_nil))))) (by decide)).ev rfl
    · have e : tab = tab0 := by
        rw [← htab]
        rw [eqv_int] at hb
        unfold tabF
        rw [if_neg]
        intro ⟨z1, z2⟩
        rw [z1, z2] at hb
        cases hb
      rw [e]
      exact as_next rfl
  have hrow : ∀ f : Int → Int, (∀ c, 0 ≤ c → c < 25 → 0 ≤ f c ∧ f c < 5) → RowOk size 9 (tabRow tab f (cellsF ns at_ size)) := fun f hf => tab_ok htl hta hf
  have hcell : ∀ (i : Nat) (d : PyData), ((cellsF ns at_ size).map PyData.int)[i]? = some d → d = .int ((cellsF ns at_ size).getD i 0) ∧ 0 ≤ (cellsF ns at_ size).getD i 0 ∧ (cellsF ns at_ size).getD i 0 < 25 := fun i d hd => by
    obtain ⟨z, hz, rfl⟩ := row_get' hd
    have hm := cells_get (List.mem_of_getElem? hz)
    rw [List.getD_eq_getElem?_getD, hz]
    exact ⟨rfl, hm⟩
  have t1 := hrow (· % 5) fun c a b => ⟨Int.emod_nonneg _ (by decide), Int.emod_lt_of_pos _ (by decide)⟩
  have t2 := hrow (· / 5) fun c a b => ⟨by omega, by omega⟩
  unfold moveF
  generalize htk : tabRow tab (· % 5) (cellsF ns at_ size) = tk at t1 ⊢
  generalize hgv : tabRow tab (· / 5) (cellsF ns at_ size) = gv at t2 ⊢
  -- takes, gives by the table
  refine as_to (δ1 := [.d (scrD ns), .d (.int at_), .d (.int (size : Nat)), .d (.bool even), .no, .d (.list ((cellsF ns at_ size).map .int)), .d (.list (tab.map .int)), .d (.list (tk.map .int)), .no, .no, .no]) (as_set (ev_to (en_map (fun i => .int (tab.getD ((cellsF ns at_ size).getD i 0 % 5).toNat 0)) (ei_list (ev_var rfl)) hcz (gw1 10) (fun i d hd => ?_)).ev ?_) rfl) ?_
  · obtain ⟨rfl, c0, c1⟩ := hcell i d hd
    exact ag_name (ev_op (ev_var (x := .list (tab.map .int)) rfl) (ev_op (ev_var rfl) ev_int (rd_mod (by decide))) (rd_ixL (at_row (Int.emod_nonneg _ (by decide)) (by rw [htl]; exact Int.emod_lt_of_pos _ (by decide)))))
  · rw [← htk, List.length_map, map_range (cellsF ns at_ size) 0 fun c => PyData.int (tab.getD (c % 5).toNat 0)]
    unfold tabRow
    rw [List.map_map]
    rfl
  refine as_to (δ1 := [.d (scrD ns), .d (.int at_), .d (.int (size : Nat)), .d (.bool even), .no, .d (.list ((cellsF ns at_ size).map .int)), .d (.list (tab.map .int)), .d (.list (tk.map .int)), .own (gv.map .int), .no, .no]) (as_setN (en_to (en_map (fun i => .int (tab.getD ((cellsF ns at_ size).getD i 0 / 5).toNat 0)) (ei_list (ev_var rfl)) hcz (gw1 10) (fun i d hd => ?_)) ?_) rfl) ?_
  · obtain ⟨rfl, c0, c1⟩ := hcell i d hd
    exact ag_name (ev_op (ev_var (x := .list (tab.map .int)) rfl) (ev_op (ev_var rfl) ev_int (rd_quo (b := 30) (by decide) (by decide) (by decide) (by decide))) (rd_ixL (at_row (by omega) (by rw [htl]; omega))))
  · rw [← hgv, List.length_map, map_range (cellsF ns at_ size) 0 fun c => PyData.int (tab.getD (c / 5).toNat 0)]
    unfold tabRow
    rw [List.map_map]
    rfl
  -- as many as it takes
  refine as_toQ (Q := fun δ1 => ∃ z4 z9, δ1 = [.d (scrD ns), .d (.int at_), .d (.int (size : Nat)), .d (.bool even), z4, .d (.list ((cellsF ns at_ size).map .int)), .d (.list (tab.map .int)), .d (.list (tk.map .int)), .own ((if even then pour size tk.sum.toNat (List.replicate size 0) (mixedF ns (at_ + 4) 65536) else gv).map .int), z9, .no]) ?_ ?_
  · refine as_if (et_B (ev_var rfl)) (fun he => ?_) (fun he => as_next ⟨_, ⟨.no, .no, by rw [he]; rfl⟩, rfl⟩)
    subst he
    have hsum := sum_le _ t1.2
    have hsz : (size : Int) ≤ 10 := by omega
    have hsm : 9 * (tk.length : Int) ≤ 90 := by rw [t1.1]; omega
    refine as_to (δ1 := [.d (scrD ns), .d (.int at_), .d (.int (size : Nat)), .d (.bool true), .no, .d (.list ((cellsF ns at_ size).map .int)), .d (.list (tab.map .int)), .d (.list (tk.map .int)), .own ((List.replicate size (0 : Int)).map .int), .no, .no]) (as_setN (en_to (en_map (fun i => .int 0) (ei_rng1 (ea_cons (ev_var rfl) ea_nil) (by omega) (by omega)) (nums_line (by omega)) (gw1 4) (fun i d hd => ag_name ev_int)) ?_) rfl) ?_
    · rw [nums_len, List.map_replicate, Int.toNat_natCast]
      apply List.ext_getElem?
      intro k
      rw [List.getElem?_map, List.getElem?_replicate]
      by_cases hk : k < size
      · rw [List.getElem?_range hk, if_pos hk]; rfl
      · rw [List.getElem?_eq_none_iff.mpr (by rw [List.length_range]; omega), if_neg hk]; rfl
    refine as_to (δ1 := [.d (scrD ns), .d (.int at_), .d (.int (size : Nat)), .d (.bool true), .no, .d (.list ((cellsF ns at_ size).map .int)), .d (.list (tab.map .int)), .d (.list (tk.map .int)), .own ((List.replicate size (0 : Int)).map .int), .d (.int (mixedF ns (at_ + 4) 65536)), .no]) (as_set (ev_call (ea_cons (ev_var (x := scrD ns) rfl) (ea_cons (ev_op (ev_var rfl) ev_int rd_plus) (ea_cons (ev_op ev_int ev_int (rd_pow ⟨by decide, by decide, by decide⟩)) ea_nil))) ⟨ns, at_ + 4, 65536, rfl, by omega, by omega, by decide, rfl⟩) rfl) ?_
    generalize hg0 : pour size tk.sum.toNat (List.replicate size 0) (mixedF ns (at_ + 4) 65536) = res
    refine as_for (ei_rng1 (ea_cons (ev_cb (ea_cons (ev_var (x := .list (tk.map .int)) rfl) ea_nil) rc_sum) ea_nil) (by omega) (by omega)) (fun i δ' => ∃ z4 g l, δ' = [.d (scrD ns), .d (.int at_), .d (.int (size : Nat)), .d (.bool true), z4, .d (.list ((cellsF ns at_ size).map .int)), .d (.list (tab.map .int)), .d (.list (tk.map .int)), .own (g.map .int), .d (.int l), .no] ∧ g.length = size ∧ pour size (tk.sum.toNat - i) g l = res) ⟨.no, _, _, rfl, List.length_replicate, hg0⟩ (fun i d δ' hd hp => ?_) (fun δ' hp => ?_)
    · obtain ⟨z4, g, l, rfl, hgl, hpo⟩ := hp
      obtain ⟨hi, rfl⟩ := nums_get hd
      have m0 : 0 ≤ l % (size : Int) := Int.emod_nonneg _ (by omega)
      have m1 : l % (size : Int) < g.length := by rw [hgl]; exact Int.emod_lt_of_pos _ (by omega)
      refine ag_name (as_seq (as_setI (xs := g.map .int) rfl (ev_borrow (i := 8) (xs := g.map .int) rfl (ev_op (ev_op (ev_var rfl) (ev_op (ev_var rfl) (ev_var rfl) (rd_mod (by omega))) (rd_ixL (at_row m0 m1))) ev_int rd_plus) rfl) (ev_op (ev_var rfl) (ev_var rfl) (rd_mod (by omega))) (ix_of m0 (by rw [List.length_map]; exact m1)) ?_))
      refine as_set (ev_op (ev_var rfl) (ev_var rfl) (rd_quo (b := 30) (by omega) (by omega) (by decide) (by decide))) ⟨_, _, _, by rw [map_set_int]; rfl, by rw [List.length_set]; exact hgl, ?_⟩
      rw [← hpo, show tk.sum.toNat - i = (tk.sum.toNat - (i + 1)) + 1 by omega]
      rfl
    · obtain ⟨z4, g, l, rfl, hgl, hpo⟩ := hp
      rw [nums_len, Nat.sub_self] at hpo
      exact ⟨_, ⟨z4, _, by rw [← hpo]; rfl⟩, rfl⟩
  · rintro δ1 ⟨z4, z9, rfl⟩
    refine as_freeze (i := 8) rfl (as_ret (ev_tup (ea_cons (ev_cb (ea_cons (ev_var rfl) ea_nil) rc_tup) (ea_cons (ev_cb (ea_cons (ev_var rfl) ea_nil) rc_tup) ea_nil)) (by show 2 ≤ sizeLine; decide)) ?_)
    rfl

def F_net_l (ds : List PyData) (o : Out) : Prop := ∃ ns at_, ds = [scrD ns, .int at_] ∧ 0 ≤ at_ ∧ at_ < 300 ∧ o = .rt (netD (sizeF ns at_) (movesF (tabF ns (evenF ns at_)) ns at_))
theorem len_net_l : ∀ ds o, F_net_l ds o → ds.length = 2 := fun _ _ ⟨_, _, h, _⟩ => by rw [h]; rfl
/-! net_l: slots 0 _law_script, 1 _law_at, 2 _law_size, 3 _law_many, 4 _law_even, 5 _law_k (6) -/
def t_net_l (K : PySem.W.Frag) (E : XK)  : TS :=
    (tSeq (tAsg (tOp (rAddA K) (tC (.int 1)) (tCallS (SpD K F_mixed_l) (WE (fun cls d _ H => E cls d H)) (tCons (tVar 0) (tCons (tVar 1) (tCons (tC (.int 3)) tNil))))) (gName 2))
    (tSeq (tAsg (tCallS (SpD K F_mixed_l) (WE (fun cls d _ H => E cls d H)) (tCons (tVar 0) (tCons (tOp (rAddA K) (tVar 1) (tC (.int 1))) (tCons (tC (.int 5)) tNil)))) (gName 3))
    (tSeq (tIfS (tTest (tOp (rEqD K) (tCallS (SpD K F_mixed_l) (WE (fun cls d _ H => E cls d H)) (tCons (tVar 0) (tCons (tOp (rAddA K) (tVar 1) (tC (.int 2))) (tCons (tC (.int 6)) tNil)))) (tC (.int 5)))) (tAsg (tC (.int 4)) (gName 2)) tNext)
    (tSeq (tAsg (tOp (rEqD K) (tCallS (SpD K F_mixed_l) (WE (fun cls d _ H => E cls d H)) (tCons (tVar 0) (tCons (tOp (rAddA K) (tVar 1) (tC (.int 3))) (tCons (tC (.int 2)) tNil)))) (tC (.int 1))) (gName 4))
    (tRet (tTup (tCons (tVar 2) (tCons (tCB (rTupA K) (tCons (tLc (iRng1 (tCons (tVar 3) tNil)) (gName 5) tYes (tCallS (SpD K F_move_l) (WE (fun _ _ _ _ => False)) (tCons (tVar 0) (tCons (tOp (rAddA K) (tOp (rAddA K) (tVar 1) (tC (.int 4))) (tOp (rMulA K) (tC (.int 5)) (tVar 5))) (tCons (tVar 2) (tCons (tVar 4) tNil))))) [5]) tNil)) tNil))))))))

theorem sem_net_l {K : PySem.W.Frag} {E : XK} {ds : List PyData} {o : Out} (h : F_net_l ds o) : As K E (t_net_l K E) (slots0 6 ds) (finP o) := by
  obtain ⟨ns, at_, rfl, h0, h1, rfl⟩ := h
  have b3 := mixed_lo ns at_ (many := 3) (by decide)
  have b5 := mixed_lo ns (at_ + 1) (many := 5) (by decide)
  have hz := size_ok ns at_
  have hm := many_ok ns at_
  refine as_seq (as_set (x := .int (1 + mixedF ns at_ 3)) (ev_op ev_int (ev_call (ea_cons (ev_var (x := scrD ns) rfl) (ea_cons (ev_var rfl) (ea_cons ev_int ea_nil))) ⟨ns, _, _, rfl, h0, by omega, by decide, rfl⟩) rd_plus) ?_)
  refine as_seq (as_set (x := .int (manyF ns at_ : Nat)) (ev_to (ev_call (ea_cons (ev_var (x := scrD ns) rfl) (ea_cons (ev_op (ev_var rfl) ev_int rd_plus) (ea_cons ev_int ea_nil))) ⟨ns, _, _, rfl, by omega, by omega, by decide, rfl⟩) ?_) ?_)
  · unfold manyF
    rw [Int.toNat_of_nonneg b5]
  refine as_to (δ1 := [.d (scrD ns), .d (.int at_), .d (.int (sizeF ns at_ : Nat)), .d (.int (manyF ns at_ : Nat)), .no, .no]) ?_ ?_
  · refine as_if (et_test (ev_op (ev_call (ea_cons (ev_var (x := scrD ns) rfl) (ea_cons (ev_op (ev_var rfl) ev_int rd_plus) (ea_cons ev_int ea_nil))) ⟨ns, _, _, rfl, by omega, by omega, by decide, rfl⟩) ev_int (rd_eq rfl rfl))) (fun hb => ?_) (fun hb => ?_)
    · rw [eqv_int] at hb
      have e : sizeF ns at_ = 4 := by
        unfold sizeF
        rw [if_pos (of_decide_eq_true hb)]
      rw [e]
      exact as_set ev_int rfl
    · rw [eqv_int] at hb
      have e : ((sizeF ns at_ : Nat) : Int) = 1 + mixedF ns at_ 3 := by
        unfold sizeF
        rw [if_neg (of_decide_eq_false hb)]
        omega
      rw [e]
      exact as_next rfl
  refine as_seq (as_set (x := .bool (evenF ns at_)) (ev_to (ev_op (ev_call (ea_cons (ev_var (x := scrD ns) rfl) (ea_cons (ev_op (ev_var rfl) ev_int rd_plus) (ea_cons ev_int ea_nil))) ⟨ns, _, _, rfl, by omega, by omega, by decide, rfl⟩) ev_int (rd_eq rfl rfl)) (by rw [eqv_int]; rfl)) ?_)
  refine as_ret (ev_tup (ea_cons (ev_var rfl) (ea_cons (ev_to (ev_cb (ea_cons (en_map (fun i => moveD (moveF (tabF ns (evenF ns at_)) ns (at_ + 4 + 5 * i) (sizeF ns at_) (evenF ns at_))) (ei_rng1 (ea_cons (ev_var rfl) ea_nil) (by omega) (by omega)) (nums_line (by omega)) (gw1 5) (fun i d hd => ?_)).ev ea_nil) rc_tup) ?_) ea_nil)) (by show 2 ≤ sizeLine; decide)) rfl
  · obtain ⟨hi, rfl⟩ := nums_get hd
    refine ag_name ?_
    rw [Int.zero_add]
    exact ev_call (ea_cons (ev_var (x := scrD ns) rfl) (ea_cons (ev_op (ev_op (ev_var rfl) ev_int rd_plus) (ev_op ev_int (ev_var rfl) (rd_timesB (.inl ⟨by decide, by decide⟩))) rd_plus) (ea_cons (ev_var rfl) (ea_cons (ev_var rfl) ea_nil)))) ⟨ns, _, _, _, rfl, by omega, by omega, hz.1, by omega, rfl⟩
  · rw [nums_len, Int.toNat_natCast]
    unfold movesF
    rw [List.map_map]
    rfl

def F_whole_l (ds : List PyData) (o : Out) : Prop := ∃ d, ds = [d] ∧ NoScr d ∧ o = .rt (.bool (isInt d))
theorem len_whole_l : ∀ ds o, F_whole_l ds o → ds.length = 1 := fun _ _ ⟨_, h, _⟩ => by rw [h]; rfl
/-! whole_l: slots 0 _law_found (1) -/
def t_whole_l (K : PySem.W.Frag) (E : XK)  : TS :=
    (tRet (tAndV (tCB (rIsi K) (tCons (tVar 0) (tCons (tC (.ty "int")) tNil))) (tNotV (tCB (rIsi K) (tCons (tVar 0) (tCons (tC (.ty "bool")) tNil))))))

theorem sem_whole_l {K : PySem.W.Frag} {E : XK} {ds : List PyData} {o : Out} (h : F_whole_l ds o) : As K E (t_whole_l K E) (slots0 1 ds) (finP o) := by
  obtain ⟨d, rfl, hn, rfl⟩ := h
  obtain ⟨b, h1, c, h2, e⟩ := kit_int d hn
  exact as_ret (ev_to (ev_andV (ev_isi (ev_var rfl) h1 hn) (fun _ => ev_notV (ev_isi (ev_var rfl) h2 hn))) (by rw [e])) rfl

def F_rank_l (ds : List PyData) (o : Out) : Prop := ∃ R N b, ds = [lssD R, .int (N : Nat)] ∧ N ≤ 100 ∧ R.length ≤ 100 ∧ (∀ r ∈ R, r.length = N) ∧ 0 < b ∧ bb b N ≤ 9000 ∧ Sm b R ∧ o = .rt (.int (rankF N R : Nat))
theorem len_rank_l : ∀ ds o, F_rank_l ds o → ds.length = 2 := fun _ _ ⟨_, _, _, h, _⟩ => by rw [h]; rfl
theorem rank_inv {N b : Nat} {R : List (List Int)} (h : ∀ r ∈ R, r.length = N) (hS : Sm b R) : ∀ p, (∀ r ∈ (rankS R p).2, r.length = N) ∧ (rankS R p).2.length = R.length ∧ Sm (bb b p) (rankS R p).2
  | 0 => ⟨h, rfl, hS⟩
  | p + 1 => by
    obtain ⟨h1, h2, h3⟩ := rank_inv h hS p
    show (∀ r ∈ (rankStep p (rankS R p)).2, r.length = N) ∧ (rankStep p (rankS R p)).2.length = R.length ∧ Sm (2 * bb b p + 1) (rankStep p (rankS R p)).2
    unfold rankStep
    cases hf : (rankS R p).2.filter (fun r => decide (r.getD p 0 ≠ 0)) with
    | nil => exact ⟨h1, h2, fun r hr x hx => Nat.lt_of_lt_of_le (h3 r hr x hx) (Nat.pow_le_pow_right (by decide) (by omega))⟩
    | cons f fs =>
      have hfm : f ∈ (rankS R p).2 := (List.mem_filter.mp (by rw [hf]; exact List.mem_cons_self)).1
      refine ⟨fun r hr => ?_, ?_, fun r hr => ?_⟩
      · obtain ⟨s, hs, rfl⟩ := List.mem_map.mp hr
        rw [comb_len]
        exact h1 s hs
      · show ((rankS R p).2.map fun r => combL r f p).length = R.length
        rw [List.length_map, h2]
      · obtain ⟨s, hs, rfl⟩ := List.mem_map.mp hr
        exact comb_small (h3 s hs) (h3 f hfm)
/-! rank_l: slots 0 _law_rows, 1 _law_size, 2 _law_left, 3 _law_made, 4 _law_place, 5 _law_found, 6 _law_head, 7 _law_row, 8 _law_k (9) -/
def t_rank_l (K : PySem.W.Frag) (E : XK)  : TS :=
    (tSeq (tAsg (tLc (iList K (tVar 0)) (gName 7) tYes (tCB (rLstA K) (tCons (tVar 7) tNil)) [7]) (gName 2))
    (tSeq (tAsg (tC (.int 0)) (gName 3))
    (tSeq (tFor (iRng1 (tCons (tVar 1) tNil)) (gName 4) (tSeq (tAsg (tLc (iList K (tVar 2)) (gName 7) (tTest (tOp (rNeD K) (tOp (rIx K) (tVar 7) (tVar 4)) (tC (.int 0)))) (tVar 7) [7]) (gName 5))
    (tIfS (tTest (tOp (rNeD K) (tVar 5) (tLst tNil))) (tSeq (tAsg (tOp (rAddA K) (tVar 3) (tC (.int 1))) (gName 3))
    (tSeq (tAsg (tOp (rIx K) (tVar 5) (tC (.int 0))) (gName 6))
    (tAsg (tLc (iList K (tVar 2)) (gName 7) tYes (tLc (iRng1 (tCons (tVar 1) tNil)) (gName 8) tYes (tOp rMinus (tOp (rMulA K) (tOp (rIx K) (tVar 7) (tVar 8)) (tOp (rIx K) (tVar 6) (tVar 4))) (tOp (rMulA K) (tOp (rIx K) (tVar 6) (tVar 8)) (tOp (rIx K) (tVar 7) (tVar 4)))) [8]) [7]) (gName 2)))) tNext)))
    (tRet (tVar 3)))))

theorem sem_rank_l {K : PySem.W.Frag} {E : XK} {ds : List PyData} {o : Out} (h : F_rank_l ds o) : As K E (t_rank_l K E) (slots0 9 ds) (finP o) := by
  obtain ⟨R, N, b, rfl, hn, hm, hN, hb0, hb9, hS, rfl⟩ := h
  refine as_seq (as_set (x := lssD R) (en_copies (R := R) rfl (by omega) (by show 7 < 9; omega)).ev ?_)
  refine as_seq (as_set (x := .int 0) ev_int ?_)
  refine as_seq (as_for (ei_rng1 (ea_cons (ev_var rfl) ea_nil) (by omega) (by omega)) (fun p δ' => ∃ z4 z5 z6, δ' = [.d (lssD R), .d (.int (N : Nat)), .d (lssD (rankS R p).2), .d (.int ((rankS R p).1 : Nat)), z4, z5, z6, .no, .no]) ⟨_, _, _, rfl⟩ (fun p d δ' hd hp => ?_) (fun δ' hp => ?_))
  · obtain ⟨z4, z5, z6, rfl⟩ := hp
    obtain ⟨hpn, rfl⟩ := nums_get hd
    have hpn : p < N := by omega
    rw [Int.zero_add]
    obtain ⟨l2, l4, s2⟩ := rank_inv hN hS p
    have hbp := bb_pos hb0 p
    have hb2 : 2 * bb b p + 1 ≤ 9000 := Nat.le_trans (bb_up b (p := p + 1) (q := N) hpn) hb9
    have hst : rankS R (p + 1) = rankStep p (rankS R p) := rfl
    rw [hst]
    generalize rankS R p = S at l2 l4 s2
    generalize bb b p = c at s2 hbp hb2
    refine ag_name (as_seq (as_set (x := lssD (S.2.filter fun r => decide (r.getD p 0 ≠ 0))) (en_found (R := S.2) (N := N) (p := p) rfl rfl (by decide) (by omega) (by show 7 < 9; omega) l2 hpn).ev ?_))
    unfold rankStep
    cases hf : S.2.filter (fun r => decide (r.getD p 0 ≠ 0)) with
    | nil =>
      exact as_if (b := false) (et_test (ev_op (ev_var (x := lssD []) rfl) (en_lst (xs := []) ea_nil (Nat.zero_le _)).ev (rd_neL (a := []) (b := [])))) (fun z => nomatch z) (fun _ => as_next ⟨_, _, _, rfl⟩)
    | cons f fs =>
      have hfm : f ∈ S.2 := (List.mem_filter.mp (by rw [hf]; exact List.mem_cons_self)).1
      have hfl := l2 f hfm
      have hfs := s2 f hfm
      refine as_if (b := true) (et_to (et_test (ev_op (ev_var (x := lssD (f :: fs)) rfl) (en_lst (xs := []) ea_nil (Nat.zero_le _)).ev (rd_neL (a := f :: fs) (b := [])))) rfl) (fun _ => ?_) (fun z => nomatch z)
      refine as_seq (as_set (x := .int ((S.1 : Nat) + 1)) (ev_op (ev_var rfl) ev_int rd_plus) ?_)
      refine as_seq (as_set (x := lstD f) (ev_op (ev_var (x := lssD (f :: fs)) rfl) ev_int (rd_ixL (z := lstD f) (at_map (at_nat (j := 0) rfl)))) ?_)
      refine as_set (x := lssD (S.2.map fun r => combL r f p)) (ev_to (en_map (fun k => lstD (combL (S.2.getD k []) f p)) (ei_list (xs := S.2.map lstD) (ev_var (x := lssD S.2) rfl)) (lists_line (by omega)) (gw1 7) (fun k d hd => ?_)).ev ?_) ⟨_, _, _, rfl⟩
      · obtain ⟨r, hr, rfl⟩ := lists_get hd
        rw [show S.2.getD k [] = r by rw [List.getD_eq_getElem?_getD, hr]; rfl]
        have hrm := List.mem_of_getElem? hr
        have hrl := l2 r hrm
        have hrs := s2 r hrm
        refine ag_name (ev_to (en_map (fun k => .int (r.getD k 0 * f.getD p 0 - f.getD k 0 * r.getD p 0)) (ei_rng1 (ea_cons (ev_var (x := .int (N : Nat)) rfl) ea_nil) (by omega) (by omega)) (nums_line (by omega)) (gw1 8) (fun k d hd => ?_)).ev ?_)
        · obtain ⟨hk, rfl⟩ := nums_get hd
          have hk : k < N := by omega
          rw [Int.zero_add]
          have hat : ∀ {δ : List Sl} {s : List Int} {i j q : Nat}, s.length = N → q < N → δ[i]? = some (.d (lstD s)) → δ[j]? = some (.d (.int (q : Nat))) → Ev K (tOp (rIx K) (tVar i) (tVar j)) δ (.int (s.getD q 0)) := fun hl hq e1 e2 => ev_op (ev_var e1) (ev_var e2) (rd_ixL (at_map (at_nat (getD_get (d := 0) (by omega)))))
          have hmul : ∀ {x y : Int}, x.natAbs < 2 ^ c → y.natAbs < 2 ^ c → CMulW x y := fun h1 h2 => wide_mul h1 h2 hbp hbp (by omega)
          exact ag_name (ev_op (ev_op (hat hrl hk rfl rfl) (hat hfl hpn rfl rfl) (rd_times (hmul (small_vec hrs k) (small_vec hfs p)))) (ev_op (hat hfl hk rfl rfl) (hat hrl hpn rfl rfl) (rd_times (hmul (small_vec hfs k) (small_vec hrs p)))) rd_minus)
        · rw [nums_len, Int.toNat_natCast]
          unfold lstD combL
          rw [List.map_map, hrl]
          rfl
      · rw [List.length_map, map_lists fun r => lstD (combL r f p)]
        unfold lssD
        rw [List.map_map]
        rfl
  · obtain ⟨z4, z5, z6, rfl⟩ := hp
    rw [nums_len]
    exact as_ret (ev_var rfl) rfl

def F_divisor_l (ds : List PyData) (o : Out) : Prop := ∃ r, ds = [lstD r] ∧ o = .rt (.int (gcdL r : Nat))
theorem len_divisor_l : ∀ ds o, F_divisor_l ds o → ds.length = 1 := fun _ _ ⟨_, h, _⟩ => by rw [h]; rfl
/-! divisor_l: slots 0 _law_row, 1 _law_made, 2 _law_number, 3 _law_a, 4 _law_left (5) -/
def t_divisor_l (K : PySem.W.Frag) (E : XK)  : TS :=
    (tSeq (tAsg (tC (.int 0)) (gName 1))
    (tSeq (tFor (iList K (tVar 0)) (gName 2) (tSeq (tAsg (tCB (rAbsA) (tCons (tVar 2) tNil)) (gName 3))
    (tWhile (tTest (tOp (rNeD K) (tVar 3) (tC (.int 0)))) (tSeq (tAsg (tOp rModA (tVar 1) (tVar 3)) (gName 4))
    (tSeq (tAsg (tVar 3) (gName 1))
    (tAsg (tVar 4) (gName 3)))))))
    (tRet (tVar 1))))

theorem sem_divisor_l {K : PySem.W.Frag} {E : XK} {ds : List PyData} {o : Out} (h : F_divisor_l ds o) : As K E (t_divisor_l K E) (slots0 5 ds) (finP o) := by
  obtain ⟨r, rfl, rfl⟩ := h
  refine as_seq (as_set (x := .int 0) ev_int ?_)
  refine as_seq (as_for (ei_list (xs := r.map .int) (ev_var rfl)) (fun i δ' => ∃ z2 z3 z4, δ' = [.d (lstD r), .d (.int (((r.take i).foldl (fun g x => Nat.gcd g x.natAbs) 0 : Nat) : Int)), z2, z3, z4]) ⟨_, _, _, rfl⟩ (fun i d δ' hd hp => ?_) (fun δ' hp => ?_))
  · obtain ⟨z2, z3, z4, rfl⟩ := hp
    obtain ⟨x, hx, rfl⟩ := row_get' hd
    rw [take_snoc hx]
    generalize (r.take i).foldl (fun g x => Nat.gcd g x.natAbs) 0 = g
    refine ag_name (as_seq (as_set (x := .int (x.natAbs : Int)) (ev_to (ev_cb (ea_cons (ev_var (x := .int x) rfl) ea_nil) rc_abs) (by rw [abs_eq])) ?_))
    refine as_while (fun m δ' => ∃ (c : Nat) (z2 z4 : Sl), Nat.gcd c m = Nat.gcd g x.natAbs ∧ δ' = [.d (lstD r), .d (.int (c : Int)), z2, .d (.int (m : Int)), z4]) x.natAbs ⟨g, _, _, rfl, rfl⟩ (fun m δ' hw => ?_)
    obtain ⟨c, z2, z4, hg, rfl⟩ := hw
    refine ⟨!decide ((m : Int) = 0), et_test (ev_op (ev_var rfl) ev_int rd_neI), fun hb => ?_, fun hb => ?_⟩
    · have hm : 0 < m := by
        have : ¬((m : Int) = 0) := by simpa using hb
        omega
      refine as_seq (as_set (x := .int ((c : Int) % (m : Int))) (ev_op (ev_var rfl) (ev_var rfl) (rd_mod (by omega))) (as_seq (as_set (x := .int (m : Int)) (ev_var rfl) (as_set (x := .int ((c : Int) % (m : Int))) (ev_var rfl) ⟨c % m, Nat.mod_lt _ hm, m, z2, .d (.int ((c : Int) % (m : Int))), ?_, ?_⟩))))
      · rw [gcd_step, hg]
      · rw [show ((c % m : Nat) : Int) = (c : Int) % (m : Int) from Int.natCast_emod c m]
        rfl
    · have hm : (m : Int) = 0 := by simpa using hb
      have hm : m = 0 := by omega
      subst hm
      rw [Nat.gcd_zero_right] at hg
      rw [← hg]
      exact ⟨_, _, _, rfl⟩
  · obtain ⟨z2, z3, z4, rfl⟩ := hp
    rw [List.length_map, List.take_of_length_le (Nat.le_refl _)]
    exact as_ret (ev_var rfl) rfl

def F_is_ground_l (ds : List PyData) (o : Out) : Prop := ∃ N R H ps, ds = [lssD H, .int (N : Nat)] ∧ Ground N R H ps ∧ N ≤ 100 ∧ o = .rt (.bool true)
theorem len_is_ground_l : ∀ ds o, F_is_ground_l ds o → ds.length = 2 := fun _ _ ⟨_, _, _, _, h, _⟩ => by rw [h]; rfl
def lastI (ps : List Nat) : Nat → Int
  | 0 => -1
  | i + 1 => (ps.getD i 0 : Nat)
theorem first_kept {c : Nat → Bool} {q : Nat} (h1 : c q = true) (h2 : ∀ k, k < q → c k = false) : ∀ j, ∃ t, (List.range (q + 1 + j)).filter c = q :: t
  | 0 => by
    refine ⟨[], ?_⟩
    rw [Nat.add_zero, List.range_succ, List.filter_append, List.filter_eq_nil_iff.mpr fun k hk => by rw [h2 k (List.mem_range.mp hk)]; decide, List.filter_cons, if_pos h1]
    rfl
  | j + 1 => by
    obtain ⟨t, ht⟩ := first_kept h1 h2 j
    refine ⟨t ++ [q + 1 + j].filter c, ?_⟩
    rw [← Nat.add_assoc, List.range_succ, List.filter_append, ht]
    rfl
theorem filter_one {c : List Int → Bool} : ∀ {l : List (List Int)} {i : Nat} {r : List Int}, l[i]? = some r → c r = true → (∀ j s, l[j]? = some s → j ≠ i → c s = false) → l.filter c = [r]
  | [], i, r, h, _, _ => by simp at h
  | x :: l, 0, r, h, h1, h2 => by
    have h : x = r := by simpa using h
    subst h
    rw [List.filter_cons, if_pos h1, List.filter_eq_nil_iff.mpr fun s hs => by
      obtain ⟨j, hj, rfl⟩ := List.getElem_of_mem hs
      rw [h2 (j + 1) l[j] (by rw [List.getElem?_cons_succ]; exact List.getElem?_eq_getElem hj) (by omega)]
      decide]
  | x :: l, i + 1, r, h, h1, h2 => by
    rw [List.filter_cons, if_neg (by rw [h2 0 x rfl (by omega)]; decide)]
    exact filter_one (i := i) (by simpa using h) h1 fun j s hs hj => h2 (j + 1) s (by simpa using hs) (by omega)
/-! is_ground_l: slots 0 _law_rows, 1 _law_size, 2 _law_last, 3 _law_row, 4 _law_number, 5 _law_heads, 6 _law_k, 7 _law_other (8) -/
def t_is_ground_l (K : PySem.W.Frag) (E : XK)  : TS :=
    (tSeq (tAsg (tUn rNegA (tC (.int 1))) (gName 2))
    (tSeq (tFor (iList K (tVar 0)) (gName 3) (tSeq (tIfS (tOr (tNot (tB (tCB (rIsi K) (tCons (tVar 3) (tCons (tC (.ty "list")) tNil))))) (tTest (tOp (rNeD K) (tCB (rLenA K) (tCons (tVar 3) tNil)) (tVar 1)))) (tRet (tC (.bl false))) tNext)
    (tSeq (tFor (iList K (tVar 3)) (gName 4) (tIfS (tNot (tB (tCallS (SpD K F_whole_l) (WE (fun cls d _ H => E cls d H)) (tCons (tVar 4) tNil)))) (tRet (tC (.bl false))) tNext))
    (tSeq (tAsg (tLc (iRng1 (tCons (tVar 1) tNil)) (gName 6) (tTest (tOp (rNeD K) (tOp (rIx K) (tVar 3) (tVar 6)) (tC (.int 0)))) (tVar 6) [6]) (gName 5))
    (tSeq (tIfS (tOr (tTest (tOp (rEqD K) (tVar 5) (tLst tNil))) (tOr (tTest (tOp (rLeA K) (tOp (rIx K) (tVar 5) (tC (.int 0))) (tVar 2))) (tOr (tTest (tOp rLtA (tOp (rIx K) (tVar 3) (tOp (rIx K) (tVar 5) (tC (.int 0)))) (tC (.int 0)))) (tTest (tOp (rNeD K) (tCallS (SpD K F_divisor_l) (WE (fun cls d _ H => E cls d H)) (tCons (tVar 3) tNil)) (tC (.int 1))))))) (tRet (tC (.bl false))) tNext)
    (tSeq (tIfS (tTest (tOp (rNeD K) (tLc (iList K (tVar 0)) (gName 7) (tTest (tOp (rNeD K) (tOp (rIx K) (tVar 7) (tOp (rIx K) (tVar 5) (tC (.int 0)))) (tC (.int 0)))) (tVar 7) [7]) (tLst (tCons (tVar 3) tNil)))) (tRet (tC (.bl false))) tNext)
    (tAsg (tOp (rIx K) (tVar 5) (tC (.int 0))) (gName 2))))))))
    (tRet (tC (.bl true)))))

theorem sem_is_ground_l {K : PySem.W.Frag} {E : XK} {ds : List PyData} {o : Out} (h : F_is_ground_l ds o) : As K E (t_is_ground_l K E) (slots0 8 ds) (finP o) := by
  obtain ⟨N, R, H, ps, rfl, g, hn, rfl⟩ := h
  have fc := free_count g
  have hpl := g.pl
  refine as_seq (as_set (x := .int (-1)) (ev_neg ev_int) ?_)
  refine as_seq (as_for (ei_list (xs := H.map lstD) (ev_var (x := lssD H) rfl)) (fun i δ' => ∃ z3 z4 z5, δ' = [.d (lssD H), .d (.int (N : Nat)), .d (.int (lastI ps i)), z3, z4, z5, .no, .no]) ⟨_, _, _, rfl⟩ (fun i d δ' hd hp => ?_) (fun δ' hp => ?_))
  · obtain ⟨z3, z4, z5, rfl⟩ := hp
    obtain ⟨r, hr, rfl⟩ := lists_get hd
    have hil : i < H.length := (List.getElem?_eq_some_iff.mp hr).1
    have hrl := g.len r (List.mem_of_getElem? hr)
    have hqi : ps[i]? = some (ps.getD i 0) := getD_get (by omega)
    have hlast : lastI ps i < ((ps.getD i 0 : Nat) : Int) := by
      cases i with
      | zero => show (-1 : Int) < _; omega
      | succ i =>
        show ((ps.getD i 0 : Nat) : Int) < _
        have hp := List.pairwise_iff_getElem.mp g.pp i (i + 1) (by omega) (by omega) (by omega)
        have e1 : ps.getD i 0 = ps[i]'(by omega) := by rw [List.getD_eq_getElem?_getD, List.getElem?_eq_getElem (by omega)]; rfl
        have e2 : ps.getD (i + 1) 0 = ps[i + 1]'(by omega) := by rw [List.getD_eq_getElem?_getD, List.getElem?_eq_getElem (by omega)]; rfl
        omega
    have hnext : lastI ps (i + 1) = ((ps.getD i 0 : Nat) : Int) := rfl
    rw [hnext]
    generalize hqq : ps.getD i 0 = q at hqi hlast
    obtain ⟨p1, p2, p3⟩ := g.hd i r q hr hqi
    have hqN := g.pb q (List.mem_of_getElem? hqi)
    refine ag_name (as_seq (as_if (b := false || !decide ((r.length : Int) = (N : Nat))) (et_or (et_not (et_B (ev_isi (b := true) (ev_var (x := lstD r) rfl) (by show kitB "list" "list" = some true; decide +kernel) (fun _ h => by cases h)))) (fun _ => et_test (ev_op (ev_to (ev_cb (ea_cons (ev_var (x := lstD r) rfl) ea_nil) (rc_lenL (xs := r.map .int))) (by rw [List.length_map])) (ev_var (x := .int (N : Nat)) rfl) rd_neI))) (fun z => ?_) (fun _ => as_next ?_)))
    · rw [hrl, decide_eq_true rfl] at z
      exact nomatch z
    refine as_seq (as_for (ei_list (xs := r.map .int) (ev_var (x := lstD r) rfl)) (fun j δ' => ∃ z4, δ' = [.d (lssD H), .d (.int (N : Nat)), .d (.int (lastI ps i)), .d (lstD r), z4, z5, .no, .no]) ⟨_, rfl⟩ (fun j d δ' hd hp => ?_) (fun δ' hp => ?_))
    · obtain ⟨z4, rfl⟩ := hp
      obtain ⟨x, hx, rfl⟩ := row_get' hd
      exact ag_name (as_if (b := false) (et_not (et_B (ev_call (x := .bool true) (ea_cons (ev_var (x := .int x) rfl) ea_nil) ⟨.int x, rfl, (fun _ h => by cases h), rfl⟩))) (fun z => nomatch z) (fun _ => as_next ⟨_, rfl⟩))
    obtain ⟨z4, rfl⟩ := hp
    obtain ⟨t, ht⟩ := first_kept (c := fun k => decide (r.getD k 0 ≠ 0)) (q := q) (decide_eq_true (show vec r q ≠ 0 by omega)) (fun k hk => decide_eq_false fun z => z (p2 k hk)) (N - (q + 1))
    rw [show q + 1 + (N - (q + 1)) = N by omega] at ht
    refine as_seq (as_set (x := lstD (idxI (q :: t))) (ev_to (en_lc (fun k => decide (r.getD k 0 ≠ 0)) (fun k => .int (k : Nat)) (ei_rng1 (ea_cons (ev_var (x := .int (N : Nat)) rfl) ea_nil) (by omega) (by omega)) (nums_line (by omega)) (gw1 6) (fun k d hd => ?_)).ev ?_) ?_)
    · obtain ⟨hk, rfl⟩ := nums_get hd
      rw [Int.zero_add]
      refine ag_name ⟨et_to (et_test (ev_op (ev_op (ev_var (x := lstD r) rfl) (ev_var rfl) (rd_ixL (at_map (at_nat (getD_get (d := 0) (by omega)))))) ev_int rd_neI)) ?_, fun _ => ev_var rfl⟩
      by_cases z : r.getD k 0 = 0
      · rw [decide_eq_true z, decide_eq_false (fun q => q z)]
        rfl
      · rw [decide_eq_false z, decide_eq_true (show r.getD k 0 ≠ 0 from z)]
        rfl
    · rw [nums_len, Int.toNat_natCast]
      unfold kept lstD idxI
      rw [ht, List.map_map]
      rfl
    have h0 : ∀ {δ : List Sl}, δ[5]? = some (.d (lstD (idxI (q :: t)))) → Ev K (tOp (rIx K) (tVar 5) (tC (.int 0))) δ (.int (q : Nat)) := fun e => ev_op (ev_var e) ev_int (rd_ixL (at_map (at_nat (j := 0) rfl)))
    have hrq : ∀ {δ : List Sl}, δ[3]? = some (.d (lstD r)) → δ[5]? = some (.d (lstD (idxI (q :: t)))) → Ev K (tOp (rIx K) (tVar 3) (tOp (rIx K) (tVar 5) (tC (.int 0)))) δ (.int (r.getD q 0)) := fun e1 e2 => ev_op (ev_var e1) (h0 e2) (rd_ixL (at_map (at_nat (getD_get (d := 0) (by omega)))))
    have hvq : (0 : Int) < r.getD q 0 := p1
    refine as_seq (as_if (b := decide (idxI (q :: t) = []) || (decide (((q : Nat) : Int) ≤ lastI ps i) || (decide (r.getD q 0 < 0) || !decide (((gcdL r : Nat) : Int) = 1)))) (et_or (et_test (ev_op (ev_var (x := lstD (idxI (q :: t))) rfl) (en_lst (xs := []) ea_nil (Nat.zero_le _)).ev (rd_eqR (a := idxI (q :: t)) (b := [])))) (fun _ => et_or (et_test (ev_op (h0 rfl) (ev_var rfl) rd_le)) (fun _ => et_or (et_test (ev_op (hrq rfl rfl) ev_int rd_lt)) (fun _ => et_test (ev_op (ev_call (x := .int (gcdL r : Nat)) (ea_cons (ev_var (x := lstD r) rfl) ea_nil) ⟨r, rfl, rfl⟩) ev_int rd_neI))))) (fun z => ?_) (fun _ => as_next ?_))
    · rw [decide_eq_false (show ¬((q : Nat) : Int) ≤ lastI ps i by omega), decide_eq_false (show ¬r.getD q 0 < 0 by omega), p3, decide_eq_false (show ¬idxI (q :: t) = [] from fun h => nomatch h)] at z
      exact nomatch z
    have hfo : H.filter (fun s => decide (s.getD q 0 ≠ 0)) = [r] := filter_one hr (decide_eq_true (show vec r q ≠ 0 by omega)) fun j s hs hj => decide_eq_false fun z => z (g.ow j i s q hs hqi hj)
    refine as_seq (as_if (b := !decide ([r] = [r])) (et_test (ev_op (x := lssD [r]) (y := lssD [r]) (ev_to (en_lc (fun k => decide ((H.getD k []).getD q 0 ≠ 0)) (fun k => lstD (H.getD k [])) (ei_list (xs := H.map lstD) (ev_var (x := lssD H) rfl)) (lists_line (by omega)) (gw1 7) (fun k d hd => ?_)).ev ?_) (en_lst (xs := [lstD r]) (ea_cons (ev_var rfl) ea_nil) (by show 1 ≤ sizeLine; decide)).ev (rd_neL (a := [r]) (b := [r])))) (fun z => ?_) (fun _ => as_next ?_))
    · obtain ⟨s, hs, rfl⟩ := lists_get hd
      rw [show H.getD k [] = s by rw [List.getD_eq_getElem?_getD, hs]; rfl]
      have hsl := g.len s (List.mem_of_getElem? hs)
      refine ag_name ⟨et_to (et_test (ev_op (ev_op (ev_var (x := lstD s) rfl) (h0 rfl) (rd_ixL (at_map (at_nat (getD_get (d := 0) (by omega)))))) ev_int rd_neI)) ?_, fun _ => ev_var rfl⟩
      by_cases z : s.getD q 0 = 0
      · rw [decide_eq_true z, decide_eq_false (fun q => q z)]
        rfl
      · rw [decide_eq_false z, decide_eq_true (show s.getD q 0 ≠ 0 from z)]
        rfl
    · rw [List.length_map, kept_lists H fun s => decide (s.getD q 0 ≠ 0), hfo]
      rfl
    · rw [decide_eq_true rfl] at z
      exact nomatch z
    exact as_set (x := .int (q : Nat)) (h0 rfl) ⟨_, _, _, rfl⟩
  · obtain ⟨z3, z4, z5, rfl⟩ := hp
    exact as_ret ev_bl rfl

def F_law (ds : List PyData) (o : Out) : Prop := ∃ ns, ds = [scrD ns] ∧ ns.length ≤ 63 ∧ o = .rt (.bool true)
theorem len_law : ∀ ds o, F_law ds o → ds.length = 1 := fun _ _ ⟨_, h, _⟩ => by rw [h]; rfl
theorem holds_law (ns : List Int) (h : ns.length ≤ 63) : F_law [scrD ns] (.rt (.bool true)) := ⟨ns, rfl, h, rfl⟩
theorem dot_list (N : Nat) (x y : List Int) : ((List.range N).map fun k => x.getD k 0 * y.getD k 0).sum = dotN N (vec x) (vec y) := (sumN_list (fun k => vec x k * vec y k) N).symm
theorem tur_vec {n p k : Nat} {ms : List (List Int × List Int)} (hp : p < n) (hk : k < ms.length) : (turF ms p).getD k 0 = ((ms.map (chF n)).getD k []).getD p 0 := by
  unfold turF
  rw [List.getD_eq_getElem?_getD, List.getElem?_map, List.getElem?_eq_getElem hk, List.getD_eq_getElem?_getD (l := ms.map (chF n)), List.getElem?_map, List.getElem?_eq_getElem hk]
  show _ = (chF n ms[k]).getD p 0
  unfold chF
  rw [List.getD_eq_getElem?_getD, List.getElem?_map, List.getElem?_range hp]
  rfl
/-! law: slots 0 _law_script, 1 _law_net_here, 2 _law_many, 3 _law_rows, 4 _law_changes, 5 _law_move_here, 6 _law_row, 7 _law_place, 8 _law_k (9) -/
def t_law (K : PySem.W.Frag) (E : XK)  : TS :=
    (tSeq (tAsg (tCallS (SpD K F_net_l) (WE (fun _ _ _ _ => False)) (tCons (tVar 0) (tCons (tC (.int 0)) tNil))) (gName 1))
    (tSeq (tAsg (tCB (rLenA K) (tCons (tOp (rIx K) (tVar 1) (tC (.int 1))) tNil)) (gName 2))
    (tSeq (tAsg (tCallS (SpD K F_round_counts) (WE (fun _ _ _ _ => False)) (tCons (tVar 1) tNil)) (gName 3))
    (tSeq (tIfS (tOr (tNot (tB (tCB (rIsi K) (tCons (tVar 3) (tCons (tC (.ty "list")) tNil))))) (tNot (tB (tCallS (SpD K F_is_ground_l) (WE (fun _ _ _ _ => False)) (tCons (tVar 3) (tCons (tVar 2) tNil)))))) (tRet (tC (.bl false))) tNext)
    (tSeq (tAsg (tLst tNil) (gName 4))
    (tSeq (tFor (iTup K (tOp (rIx K) (tVar 1) (tC (.int 1)))) (gName 5) (tDrop (tBM K "list" rAppend (tVar 4) (tCons (tLc (iRng1 (tCons (tOp (rIx K) (tVar 1) (tC (.int 0))) tNil)) (gName 8) tYes (tOp rMinus (tOp (rIx K) (tOp (rIx K) (tVar 5) (tC (.int 1))) (tVar 8)) (tOp (rIx K) (tOp (rIx K) (tVar 5) (tC (.int 0))) (tVar 8))) [8]) tNil))))
    (tSeq (tFor (iList K (tVar 3)) (gName 6) (tFor (iRng1 (tCons (tOp (rIx K) (tVar 1) (tC (.int 0))) tNil)) (gName 7) (tIfS (tTest (tOp (rNeD K) (tCB (rSum K) (tCons (tLc (iRng1 (tCons (tVar 2) tNil)) (gName 8) tYes (tOp (rMulA K) (tOp (rIx K) (tVar 6) (tVar 8)) (tOp (rIx K) (tOp (rIx K) (tVar 4) (tVar 8)) (tVar 7))) [8]) tNil)) (tC (.int 0)))) (tRet (tC (.bl false))) tNext)))
    (tRet (tOp (rEqD K) (tCB (rLenA K) (tCons (tVar 3) tNil)) (tOp rMinus (tVar 2) (tCallS (SpD K F_rank_l) (WE (fun _ _ _ _ => False)) (tCons (tVar 4) (tCons (tOp (rIx K) (tVar 1) (tC (.int 0))) tNil)))))))))))))

theorem sem_law {K : PySem.W.Frag} {E : XK} {ds : List PyData} {o : Out} (h : F_law ds o) : As K E (t_law K E) (slots0 9 ds) (finP o) := by
  obtain ⟨ns, rfl, hl, rfl⟩ := h
  have hok := net_ok9 ns 0
  have hsz := size_ok ns 0
  have hm4 : (movesF (tabF ns (evenF ns 0)) ns 0).length ≤ 4 := by
    unfold movesF
    rw [List.length_map, List.length_range]
    exact many_ok ns 0
  refine as_seq (as_set (x := netD (sizeF ns 0) (movesF (tabF ns (evenF ns 0)) ns 0)) (ev_call (ea_cons (ev_var (x := scrD ns) rfl) (ea_cons ev_int ea_nil)) ⟨ns, 0, rfl, by decide, by decide, rfl⟩) ?_)
  generalize movesF (tabF ns (evenF ns 0)) ns 0 = ms at hok hm4
  generalize sizeF ns 0 = n at hok hsz
  have hcl : ∀ r ∈ ms.map (chF n), r.length = n := fun r hr => by
    obtain ⟨m, _, rfl⟩ := List.mem_map.mp hr
    exact ch_len n m
  have hcs : Sm 4 (ms.map (chF n)) := fun r hr => by
    obtain ⟨m, hm, rfl⟩ := List.mem_map.mp hr
    obtain ⟨r1, r2⟩ := hok.rows m hm
    exact ch_small r1 r2
  have htl : ∀ r ∈ (List.range n).map (turF ms), r.length = ms.length := fun r hr => by
    obtain ⟨p, _, rfl⟩ := List.mem_map.mp hr
    unfold turF
    rw [List.length_map]
  have hts : Sm 4 ((List.range n).map (turF ms)) := fun r hr => by
    obtain ⟨p, hp, rfl⟩ := List.mem_map.mp hr
    exact tur_small hok (List.mem_range.mp hp)
  obtain ⟨qs, ⟨M, g⟩, hperp, hcount⟩ := noughts_ok htl
  have hsm := noughts_small htl (by decide) hts
  have hbits := bits4 ms.length hm4
  have hbitn := (bits4 n hsz.2).2
  have hbp := bb_pos (b := 1 + ms.length * bb 4 ms.length + bb 4 ms.length) (by omega) ms.length
  have hrank := rank_eq hcl
  have hturn := rank_turned (M := ms.map (chF n)) (T := (List.range n).map (turF ms)) hcl htl (List.length_map ..) (by rw [List.length_map, List.length_range]) fun i j hi hj => by
    have e : ((List.range n).map (turF ms)).getD j [] = turF ms j := by
      rw [List.getD_eq_getElem?_getD, List.getElem?_map, List.getElem?_range hj]
      rfl
    rw [e]
    exact tur_vec hj hi
  have hmany := hok.many
  refine as_seq (as_set (x := .int (ms.length : Nat)) (ev_to (ev_cb (ea_cons (net_moves rfl) ea_nil) rc_lenT) (by rw [List.length_map])) ?_)
  refine as_seq (as_set (x := lssD (noughtsF ms.length ((List.range n).map (turF ms)))) (ev_call (ea_cons (ev_var (x := netD n ms) rfl) ea_nil) ⟨n, ms, rfl, hok, hm4, rfl⟩) ?_)
  generalize noughtsF ms.length ((List.range n).map (turF ms)) = rows at g hperp hcount hsm
  generalize bb (1 + ms.length * bb 4 ms.length + bb 4 ms.length) ms.length = B at hsm hbits hbp
  have hrl := g.len
  have fc := free_count g
  refine as_seq (as_if (b := false || !true) (et_or (et_not (et_B (ev_isi (b := true) (ev_var (x := lssD rows) rfl) (by show kitB "list" "list" = some true; decide +kernel) (fun _ h => by cases h)))) (fun _ => et_not (et_B (ev_call (x := .bool true) (ea_cons (ev_var (x := lssD rows) rfl) (ea_cons (ev_var (x := .int (ms.length : Nat)) rfl) ea_nil)) ⟨ms.length, M, rows, qs, rfl, g, by omega, rfl⟩)))) (fun z => nomatch z) (fun _ => as_next ?_))
  refine as_seq (as_setN (xs := []) (en_lst ea_nil (Nat.zero_le _)) ?_)
  -- the changes
  refine as_toQ (Q := fun δ' => ∃ z5, δ' = [.d (scrD ns), .d (netD n ms), .d (.int (ms.length : Nat)), .d (lssD rows), .own ((ms.map (chF n)).map lstD), z5, .no, .no, .no]) (as_for (ei_tup (net_moves rfl)) (fun i δ' => ∃ z5, δ' = [.d (scrD ns), .d (netD n ms), .d (.int (ms.length : Nat)), .d (lssD rows), .own (((ms.take i).map (chF n)).map lstD), z5, .no, .no, .no]) ⟨_, rfl⟩ (fun i d δ' hd hp => ?_) (fun δ' hp => ?_)) ?_
  · obtain ⟨z5, rfl⟩ := hp
    obtain ⟨⟨tk, gv⟩, hm, rfl⟩ := moves_get hd
    have hil : i < ms.length := (List.getElem?_eq_some_iff.mp hm).1
    obtain ⟨r1, r2⟩ := hok.rows _ (List.mem_of_getElem? hm)
    have l1 : tk.length = n := r1.1
    have l2 : gv.length = n := r2.1
    refine ag_name (as_app (i := 4) (xs := ((ms.take i).map (chF n)).map lstD) (x := lstD (chF n (tk, gv))) rfl (ev_to (en_map (fun k => .int (gv.getD k 0 - tk.getD k 0)) (ei_rng1 (ea_cons (net_size rfl) ea_nil) (by omega) (by omega)) (nums_line (by omega)) (gw1 8) (fun k d hd => ?_)).ev ?_) ?_ ⟨.d (moveD (tk, gv)), ?_⟩)
    · obtain ⟨hk, rfl⟩ := nums_get hd
      have hk : k < n := by omega
      refine ag_name ?_
      rw [Int.zero_add]
      exact ev_op (ev_op (ev_op (x := moveD (tk, gv)) (ev_var rfl) ev_int (rd_ixT (z := rowD gv) rfl)) (ev_var rfl) (rd_ixT (at_row (by omega) (by omega)))) (ev_op (ev_op (x := moveD (tk, gv)) (ev_var rfl) ev_int (rd_ixT (z := rowD tk) rfl)) (ev_var rfl) (rd_ixT (at_row (by omega) (by omega)))) rd_minus
    · rw [nums_len, Int.toNat_natCast]
      unfold lstD chF
      rw [List.map_map]
      rfl
    · rw [List.length_map, List.length_map, List.length_take]
      exact Nat.lt_of_lt_of_le (show min i ms.length < 100000 by omega) (by decide)
    · rw [List.take_add_one, hm, Option.toList_some, List.map_append, List.map_append]
      rfl
  · obtain ⟨z5, rfl⟩ := hp
    rw [List.length_map, List.take_of_length_le (Nat.le_refl _)]
    exact ⟨_, ⟨z5, rfl⟩, rfl⟩
  rintro δ' ⟨z5, rfl⟩
  refine as_freeze (i := 4) (xs := (ms.map (chF n)).map lstD) rfl ?_
  have hcle : (ms.map (chF n)).length = ms.length := List.length_map ..
  have htv : ∀ {p k : Nat}, p < n → k < ms.length → (turF ms p).getD k 0 = ((ms.map (chF n)).getD k []).getD p 0 := tur_vec
  have htp : ∀ {p : Nat}, p < n → ∀ r ∈ rows, dotN ms.length (vec r) (vec (turF ms p)) = 0 := fun hp r hr => hperp r hr _ (List.mem_map.mpr ⟨_, List.mem_range.mpr hp, rfl⟩)
  generalize ms.map (chF n) = C at hcl hcs hrank hcle hturn htv
  -- each row, each place
  refine as_toQ (Q := fun δ' => ∃ z6 z7, δ' = [.d (scrD ns), .d (netD n ms), .d (.int (ms.length : Nat)), .d (lssD rows), .d (lssD C), z5, z6, z7, .no]) (as_for (ei_list (xs := rows.map lstD) (ev_var (x := lssD rows) rfl)) (fun i δ' => ∃ z6 z7, δ' = [.d (scrD ns), .d (netD n ms), .d (.int (ms.length : Nat)), .d (lssD rows), .d (lssD C), z5, z6, z7, .no]) ⟨_, _, rfl⟩ (fun i d δ' hd hp => ?_) (fun δ' hp => ?_)) ?_
  · obtain ⟨z6, z7, rfl⟩ := hp
    obtain ⟨r, hr, rfl⟩ := lists_get hd
    have hrm := List.mem_of_getElem? hr
    refine ag_name (as_for (ei_rng1 (ea_cons (net_size rfl) ea_nil) (by omega) (by omega)) (fun j δ' => ∃ z7, δ' = [.d (scrD ns), .d (netD n ms), .d (.int (ms.length : Nat)), .d (lssD rows), .d (lssD C), z5, .d (lstD r), z7, .no]) ⟨_, rfl⟩ (fun j d δ' hd hp => ?_) (fun δ' hp => ?_))
    · obtain ⟨z7, rfl⟩ := hp
      obtain ⟨hjn, rfl⟩ := nums_get hd
      have hjn : j < n := by omega
      rw [Int.zero_add]
      have e0 := htp hjn r hrm
      have hl1 := hrl r hrm
      refine ag_name (as_if (b := false) (et_to (et_test (ev_op (ev_cb (ea_cons (x := .list (((List.range ms.length).map fun k => r.getD k 0 * (turF ms j).getD k 0).map .int)) (ev_to (en_map (fun k => .int (r.getD k 0 * (turF ms j).getD k 0)) (ei_rng1 (ea_cons (ev_var (x := .int (ms.length : Nat)) rfl) ea_nil) (by omega) (by omega)) (nums_line (by omega)) (gw1 8) (fun k d hd => ?_)).ev ?_) ea_nil) rc_sum) ev_int rd_neI)) ?_) (fun z => nomatch z) (fun _ => as_next ⟨_, rfl⟩))
      · obtain ⟨hk, rfl⟩ := nums_get hd
        have hk : k < ms.length := by omega
        refine ag_name ?_
        rw [Int.zero_add, htv hjn hk]
        have hcm : C[k]? = some (C.getD k []) := getD_get (by omega)
        have hcm2 := List.mem_of_getElem? hcm
        have hcl2 := hcl _ hcm2
        exact ev_op (ev_op (ev_var (x := lstD r) rfl) (ev_var rfl) (rd_ixL (at_map (at_nat (getD_get (d := 0) (by omega)))))) (ev_op (x := lstD (C.getD k [])) (ev_op (ev_var (x := lssD C) rfl) (ev_var rfl) (rd_ixL (at_map (at_nat hcm)))) (ev_var rfl) (rd_ixL (at_map (at_nat (getD_get (d := 0) (by omega)))))) (rd_times (wide_mul (small_vec (hsm r hrm) k) (small_vec (hcs _ hcm2) j) hbp (by decide) (by omega)))
      · rw [nums_len, Int.toNat_natCast, List.map_map]
        rfl
      · rw [dot_list, e0]
        rfl
    · obtain ⟨z7, rfl⟩ := hp
      exact ⟨_, _, rfl⟩
  · obtain ⟨z6, z7, rfl⟩ := hp
    exact ⟨_, ⟨z6, z7, rfl⟩, rfl⟩
  rintro δ' ⟨z6, z7, rfl⟩
  refine as_ret (ev_to (ev_op (ev_to (ev_cb (ea_cons (ev_var (x := lssD rows) rfl) ea_nil) (rc_lenL (xs := rows.map lstD))) (by rw [List.length_map])) (ev_op (ev_var (x := .int (ms.length : Nat)) rfl) (ev_call (x := .int (rankF n C : Nat)) (ea_cons (ev_var (x := lssD C) rfl) (ea_cons (net_size rfl) ea_nil)) ⟨C, n, 4, rfl, by omega, by omega, hcl, by decide, hbitn, hcs, rfl⟩) rd_minus) rd_eqI) ?_) rfl
  rw [hrank, decide_eq_true (by omega)]

end Tw

namespace Tw
open PySem PySem.Spec PyProof.Rows L2
def topS (i : Nat) : Stmt := PySem.Challenge.pw_tokenwall_k12_whole_round_counts.main.body.getD i (.Pass ⟨0, 0, 0, 0⟩)

abbrev s_divisor : Stmt := topS 1
abbrev N_divisor : List Str := ["a", "b", "left"]
theorem sc_divisor : FnScope N_divisor ["a", "b"] (defScope s_divisor) := ⟨rfl, rfl, rfl, by decide +kernel, rfl, by decide +kernel, by decide +kernel⟩

abbrev s_plain : Stmt := topS 2
abbrev N_plain : List Str := ["row", "same", "first", "number"]
theorem sc_plain : FnScope N_plain ["row"] (defScope s_plain) := ⟨rfl, rfl, rfl, by decide +kernel, rfl, by decide +kernel, by decide +kernel⟩

abbrev s_eased : Stmt := topS 3
abbrev N_eased : List Str := ["row", "other", "place", "a", "b"]
theorem sc_eased : FnScope N_eased ["row", "other", "place"] (defScope s_eased) := ⟨rfl, rfl, rfl, by decide +kernel, rfl, by decide +kernel, by decide +kernel⟩

abbrev s_heads_of : Stmt := topS 4
abbrev N_heads_of : List Str := ["rows", "size", "made", "left", "place", "found", "head", "row"]
theorem sc_heads_of : FnScope N_heads_of ["rows", "size"] (defScope s_heads_of) := ⟨rfl, rfl, rfl, by decide +kernel, rfl, by decide +kernel, by decide +kernel⟩

abbrev s_head_of : Stmt := topS 5
abbrev N_head_of : List Str := ["row", "k"]
theorem sc_head_of : FnScope N_head_of ["row"] (defScope s_head_of) := ⟨rfl, rfl, rfl, by decide +kernel, rfl, by decide +kernel, by decide +kernel⟩

abbrev s_noughts_of : Stmt := topS 6
abbrev N_noughts_of : List Str := ["rows", "size", "heads", "row", "places", "whole", "place", "made", "free", "found", "k"]
theorem sc_noughts_of : FnScope N_noughts_of ["rows", "size"] (defScope s_noughts_of) := ⟨rfl, rfl, rfl, by decide +kernel, rfl, by decide +kernel, by decide +kernel⟩

abbrev s_round_counts : Stmt := topS 7
abbrev N_round_counts : List Str := ["net", "rows", "place", "takes", "gives"]
theorem sc_round_counts : FnScope N_round_counts ["net"] (defScope s_round_counts) := ⟨rfl, rfl, rfl, by decide +kernel, rfl, by decide +kernel, by decide +kernel⟩

abbrev s_cell_at_l : Stmt := topS 9
abbrev N_cell_at_l : List Str := ["_law_script", "_law_k"]
theorem sc_cell_at_l : FnScope N_cell_at_l ["_law_script", "_law_k"] (defScope s_cell_at_l) := ⟨rfl, rfl, rfl, by decide +kernel, rfl, by decide +kernel, by decide +kernel⟩

abbrev s_mixed_l : Stmt := topS 10
abbrev N_mixed_l : List Str := ["_law_script", "_law_k", "_law_many", "_law_drawn"]
theorem sc_mixed_l : FnScope N_mixed_l ["_law_script", "_law_k", "_law_many"] (defScope s_mixed_l) := ⟨rfl, rfl, rfl, by decide +kernel, rfl, by decide +kernel, by decide +kernel⟩

abbrev s_move_l : Stmt := topS 11
abbrev N_move_l : List Str := ["_law_script", "_law_at", "_law_size", "_law_even", "_law_k", "_law_cells", "_law_some", "_law_takes", "_law_gives", "_law_left", "_law_cell"]
theorem sc_move_l : FnScope N_move_l ["_law_script", "_law_at", "_law_size", "_law_even"] (defScope s_move_l) := ⟨rfl, rfl, rfl, by decide +kernel, rfl, by decide +kernel, by decide +kernel⟩

abbrev s_net_l : Stmt := topS 12
abbrev N_net_l : List Str := ["_law_script", "_law_at", "_law_size", "_law_many", "_law_even", "_law_k"]
theorem sc_net_l : FnScope N_net_l ["_law_script", "_law_at"] (defScope s_net_l) := ⟨rfl, rfl, rfl, by decide +kernel, rfl, by decide +kernel, by decide +kernel⟩

abbrev s_whole_l : Stmt := topS 13
abbrev N_whole_l : List Str := ["_law_found"]
theorem sc_whole_l : FnScope N_whole_l ["_law_found"] (defScope s_whole_l) := ⟨rfl, rfl, rfl, by decide +kernel, rfl, by decide +kernel, by decide +kernel⟩

abbrev s_rank_l : Stmt := topS 14
abbrev N_rank_l : List Str := ["_law_rows", "_law_size", "_law_left", "_law_made", "_law_place", "_law_found", "_law_head", "_law_row", "_law_k"]
theorem sc_rank_l : FnScope N_rank_l ["_law_rows", "_law_size"] (defScope s_rank_l) := ⟨rfl, rfl, rfl, by decide +kernel, rfl, by decide +kernel, by decide +kernel⟩

abbrev s_divisor_l : Stmt := topS 15
abbrev N_divisor_l : List Str := ["_law_row", "_law_made", "_law_number", "_law_a", "_law_left"]
theorem sc_divisor_l : FnScope N_divisor_l ["_law_row"] (defScope s_divisor_l) := ⟨rfl, rfl, rfl, by decide +kernel, rfl, by decide +kernel, by decide +kernel⟩

abbrev s_is_ground_l : Stmt := topS 16
abbrev N_is_ground_l : List Str := ["_law_rows", "_law_size", "_law_last", "_law_row", "_law_number", "_law_heads", "_law_k", "_law_other"]
theorem sc_is_ground_l : FnScope N_is_ground_l ["_law_rows", "_law_size"] (defScope s_is_ground_l) := ⟨rfl, rfl, rfl, by decide +kernel, rfl, by decide +kernel, by decide +kernel⟩

abbrev s_law : Stmt := topS 17
abbrev N_law : List Str := ["_law_script", "_law_net_here", "_law_many", "_law_rows", "_law_changes", "_law_move_here", "_law_row", "_law_place", "_law_k"]
theorem sc_law : FnScope N_law ["_law_script"] (defScope s_law) := ⟨rfl, rfl, rfl, by decide +kernel, rfl, by decide +kernel, by decide +kernel⟩

structure Txt (K : PySem.W.Frag) (mg : Str → Option Value) where
  a_divisor : Addr
  fd_divisor : FuncData
  F_divisor : Fun K "divisor" "divisor" s_divisor a_divisor fd_divisor
  b_divisor : Binds K fd_divisor ["a", "b"] []
  g_divisor : mg "divisor" = some (.ref a_divisor)
  a_plain : Addr
  fd_plain : FuncData
  F_plain : Fun K "plain" "plain" s_plain a_plain fd_plain
  b_plain : Binds K fd_plain ["row"] []
  g_plain : mg "plain" = some (.ref a_plain)
  a_eased : Addr
  fd_eased : FuncData
  F_eased : Fun K "eased" "eased" s_eased a_eased fd_eased
  b_eased : Binds K fd_eased ["row", "other", "place"] []
  g_eased : mg "eased" = some (.ref a_eased)
  a_heads_of : Addr
  fd_heads_of : FuncData
  F_heads_of : Fun K "heads_of" "heads_of" s_heads_of a_heads_of fd_heads_of
  b_heads_of : Binds K fd_heads_of ["rows", "size"] []
  g_heads_of : mg "heads_of" = some (.ref a_heads_of)
  a_head_of : Addr
  fd_head_of : FuncData
  F_head_of : Fun K "head_of" "head_of" s_head_of a_head_of fd_head_of
  b_head_of : Binds K fd_head_of ["row"] []
  g_head_of : mg "head_of" = some (.ref a_head_of)
  a_noughts_of : Addr
  fd_noughts_of : FuncData
  F_noughts_of : Fun K "noughts_of" "noughts_of" s_noughts_of a_noughts_of fd_noughts_of
  b_noughts_of : Binds K fd_noughts_of ["rows", "size"] []
  g_noughts_of : mg "noughts_of" = some (.ref a_noughts_of)
  a_round_counts : Addr
  fd_round_counts : FuncData
  F_round_counts : Fun K "round_counts" "round_counts" s_round_counts a_round_counts fd_round_counts
  b_round_counts : Binds K fd_round_counts ["net"] []
  g_round_counts : mg "round_counts" = some (.ref a_round_counts)
  a_cell_at_l : Addr
  fd_cell_at_l : FuncData
  F_cell_at_l : Fun K "_law_cell_at" "_law_cell_at" s_cell_at_l a_cell_at_l fd_cell_at_l
  b_cell_at_l : Binds K fd_cell_at_l ["_law_script", "_law_k"] []
  g_cell_at_l : mg "_law_cell_at" = some (.ref a_cell_at_l)
  a_mixed_l : Addr
  fd_mixed_l : FuncData
  F_mixed_l : Fun K "_law_mixed" "_law_mixed" s_mixed_l a_mixed_l fd_mixed_l
  b_mixed_l : Binds K fd_mixed_l ["_law_script", "_law_k", "_law_many"] []
  g_mixed_l : mg "_law_mixed" = some (.ref a_mixed_l)
  a_move_l : Addr
  fd_move_l : FuncData
  F_move_l : Fun K "_law_move" "_law_move" s_move_l a_move_l fd_move_l
  b_move_l : Binds K fd_move_l ["_law_script", "_law_at", "_law_size", "_law_even"] []
  g_move_l : mg "_law_move" = some (.ref a_move_l)
  a_net_l : Addr
  fd_net_l : FuncData
  F_net_l : Fun K "_law_net" "_law_net" s_net_l a_net_l fd_net_l
  b_net_l : Binds K fd_net_l ["_law_script", "_law_at"] []
  g_net_l : mg "_law_net" = some (.ref a_net_l)
  a_whole_l : Addr
  fd_whole_l : FuncData
  F_whole_l : Fun K "_law_whole" "_law_whole" s_whole_l a_whole_l fd_whole_l
  b_whole_l : Binds K fd_whole_l ["_law_found"] []
  g_whole_l : mg "_law_whole" = some (.ref a_whole_l)
  a_rank_l : Addr
  fd_rank_l : FuncData
  F_rank_l : Fun K "_law_rank" "_law_rank" s_rank_l a_rank_l fd_rank_l
  b_rank_l : Binds K fd_rank_l ["_law_rows", "_law_size"] []
  g_rank_l : mg "_law_rank" = some (.ref a_rank_l)
  a_divisor_l : Addr
  fd_divisor_l : FuncData
  F_divisor_l : Fun K "_law_divisor" "_law_divisor" s_divisor_l a_divisor_l fd_divisor_l
  b_divisor_l : Binds K fd_divisor_l ["_law_row"] []
  g_divisor_l : mg "_law_divisor" = some (.ref a_divisor_l)
  a_is_ground_l : Addr
  fd_is_ground_l : FuncData
  F_is_ground_l : Fun K "_law_is_ground" "_law_is_ground" s_is_ground_l a_is_ground_l fd_is_ground_l
  b_is_ground_l : Binds K fd_is_ground_l ["_law_rows", "_law_size"] []
  g_is_ground_l : mg "_law_is_ground" = some (.ref a_is_ground_l)
  a_law : Addr
  fd_law : FuncData
  F_law : Fun K "law" "law" s_law a_law fd_law
  b_law : Binds K fd_law ["_law_script"] []
  g_law : mg "law" = some (.ref a_law)
  m_abs : mg "abs" = none
  m_list : mg "list" = none
  m_zip : mg "zip" = none
  m_range : mg "range" = none
  m_len : mg "len" = none
  m_tuple : mg "tuple" = none
  m_sum : mg "sum" = none
  m_isinstance : mg "isinstance" = none
  m_int : mg "int" = none
  m_bool : mg "bool" = none

section
variable {P : Program} {w : World} {K : PySem.W.Frag} {mg : Str → Option Value} {base : Heap}

theorem ok_divisor (T : Txt K mg) : FnOk P w K mg base (L2.CX P w) 1 T.a_divisor T.fd_divisor ["a", "b"] (SpD K F_divisor) := by
  refine def_ok T.F_divisor sc_divisor (len_divisor) (fun cdv A outer s H E hr => ⟨t_divisor K E , (pss_cons (ps_set (i := 0) sc_divisor.nd rfl (by first | exact Or.inl rfl | exact Or.inr rfl) (pe_callB callAbs (by rfl) T.m_abs (by decide +kernel) (pa_cons (pv 0) pa_nil)))
      (pss_cons (ps_set (i := 1) sc_divisor.nd rfl (by first | exact Or.inl rfl | exact Or.inr rfl) (pe_callB callAbs (by rfl) T.m_abs (by decide +kernel) (pa_cons (pv 1) pa_nil)))
      (pss_cons (ps_while (passes_of rfl) (pt_cmpR (opNe hr.units) (pv 1) pe_int (nomark _)) (pss_cons (ps_set (i := 2) sc_divisor.nd rfl (by first | exact Or.inl rfl | exact Or.inr rfl) (pe_op opMod (pv 0) (pv 1)))
      (pss_cons (ps_set (i := 0) sc_divisor.nd rfl (by first | exact Or.inl rfl | exact Or.inr rfl) (pv 1))
      (pss_one (ps_set (i := 1) sc_divisor.nd rfl (by first | exact Or.inl rfl | exact Or.inr rfl) (pv 2))))))
      (pss_one (ps_ret (pv 0)))))), fun ds o h => sem_divisor  h⟩)

theorem ok_plain (T : Txt K mg) : FnOk P w K mg base (L2.CX P w) 2 T.a_plain T.fd_plain ["row"] (SpD K F_plain) := by
  refine def_ok T.F_plain sc_plain (len_plain) (fun cdv A outer s H E hr => ⟨t_plain K E , (pss_cons (ps_set (i := 1) sc_plain.nd rfl (by first | exact Or.inl rfl | exact Or.inr rfl) pe_int)
      (pss_cons (ps_set (i := 2) sc_plain.nd rfl (by first | exact Or.inl rfl | exact Or.inr rfl) pe_int)
      (pss_cons (ps_for (passes_of rfl) rfl (pi_list (pv 0)) (pg_name (i := 3) sc_plain.nd rfl (by first | exact Or.inl rfl | exact Or.inr rfl)) (pss_cons (ps_set (i := 1) sc_plain.nd rfl (by first | exact Or.inl rfl | exact Or.inr rfl) (pe_callS (ok_divisor T) (hr.mono (by decide)) rfl T.g_divisor T.F_divisor.kp T.b_divisor (fun σ => passAt (takes_of rfl rfl rfl rfl) σ) (pa_cons (pv 1) (pa_cons (pv 3) pa_nil))))
      (pss_one (ps_if (pt_cmpR (opEq hr.units) (pv 2) pe_int (nomark _)) (pss_one (ps_set (i := 2) sc_plain.nd rfl (by first | exact Or.inl rfl | exact Or.inr rfl) (pv 3))) pss_nil))))
      (pss_cons (ps_if (pt_cmpR (opEq hr.units) (pv 1) pe_int (nomark _)) (pss_one (ps_ret (pe_callTy callLst (by rfl) T.m_list PyProof.Rows.boot_list (pa_cons (pv 0) pa_nil)))) pss_nil)
      (pss_cons (ps_if (pt_cmpR opLt (pv 2) pe_int (nomark _)) (pss_one (ps_set (i := 1) sc_plain.nd rfl (by first | exact Or.inl rfl | exact Or.inr rfl) (pe_un unNeg (pv 1)))) pss_nil)
      (pss_one (ps_ret (pe_lc (own := [("number", 3)]) rfl sc_plain.nd (pi_list (pv 0)) (blkOk_by (N := N_plain) (sc := (defScope s_plain)) (own := [("number", 3)]) (by decide +kernel)) (fun _ _ _ _ _ => (pg_name (i := 3) sc_plain.nd rfl (by first | exact Or.inl rfl | exact Or.inr rfl))) (fun _ _ _ _ _ => pts_nil) (fun _ _ _ _ _ => (pe_op opDivG (pv 3) (pv 1))))))))))), fun ds o h => sem_plain  h⟩)

theorem ok_eased (T : Txt K mg) : FnOk P w K mg base (L2.CX P w) 3 T.a_eased T.fd_eased ["row", "other", "place"] (SpD K F_eased) := by
  refine def_ok T.F_eased sc_eased (len_eased) (fun cdv A outer s H E hr => ⟨t_eased K E , (pss_one (ps_ret (pe_callS (ok_plain T) (hr.mono (by decide)) rfl T.g_plain T.F_plain.kp T.b_plain (fun σ => passAt (takes_of rfl rfl rfl rfl) σ) (pa_cons (pe_lc (own := [("a", 3), ("b", 4)]) rfl sc_eased.nd (pi_zip2 (by rfl) T.m_zip (pa_cons (pv 0) (pa_cons (pv 1) pa_nil))) (blkOk_by (N := N_eased) (sc := (defScope s_eased)) (own := [("a", 3), ("b", 4)]) (by decide +kernel)) (fun _ _ _ _ _ => (pg_tup rfl (pgs_cons (pg_name (i := 3) sc_eased.nd rfl (by first | exact Or.inl rfl | exact Or.inr rfl)) (pgs_cons (pg_name (i := 4) sc_eased.nd rfl (by first | exact Or.inl rfl | exact Or.inr rfl)) pgs_nil)))) (fun _ _ _ _ _ => pts_nil) (fun _ _ _ _ _ => (pe_op opSub (pe_op opMul (pv 3) (pe_ix ix_seq (pv 1) (pv 2) (fun _ _ => rfl))) (pe_op opMul (pv 4) (pe_ix ix_seq (pv 0) (pv 2) (fun _ _ => rfl)))))) pa_nil)))), fun ds o h => sem_eased  h⟩)

theorem ok_heads_of (T : Txt K mg) : FnOk P w K mg base (L2.CX P w) 4 T.a_heads_of T.fd_heads_of ["rows", "size"] (SpD K F_heads_of) := by
  refine def_ok T.F_heads_of sc_heads_of (len_heads_of) (fun cdv A outer s H E hr => ⟨t_heads_of K E , (pss_cons (ps_set (i := 2) sc_heads_of.nd rfl (by first | exact Or.inl rfl | exact Or.inr rfl) (pe_lst pa_nil))
      (pss_cons (ps_setLc (i := 3) (own := [("row", 7)]) rfl sc_heads_of.nd rfl rfl (sw_true rfl rfl rfl (by decide +kernel)) (pi_list (pv 0)) (blkOk_by (N := N_heads_of) (sc := (defScope s_heads_of)) (own := [("row", 7)]) (by decide +kernel)) (fun _ _ _ _ _ => (pg_name (i := 7) sc_heads_of.nd rfl (by first | exact Or.inl rfl | exact Or.inr rfl))) (fun _ _ _ _ _ => pts_nil) (fun _ _ _ _ _ => (pe_callTy callLst (by rfl) T.m_list PyProof.Rows.boot_list (pa_cons (pv 7) pa_nil))))
      (pss_cons (ps_for (passes_of rfl) rfl (pi_range1 rfl T.m_range (pa_cons (pv 1) pa_nil)) (pg_name (i := 4) sc_heads_of.nd rfl (by first | exact Or.inl rfl | exact Or.inr rfl)) (pss_cons (ps_setLc (i := 5) (own := [("row", 7)]) rfl sc_heads_of.nd rfl rfl (sw_true rfl rfl rfl (by decide +kernel)) (pi_list (pv 3)) (blkOk_by (N := N_heads_of) (sc := (defScope s_heads_of)) (own := [("row", 7)]) (by decide +kernel)) (fun _ _ _ _ _ => (pg_name (i := 7) sc_heads_of.nd rfl (by first | exact Or.inl rfl | exact Or.inr rfl))) (fun _ _ _ _ _ => (pts_one (pt_cmpR (opNe hr.units) (pe_ix ix_seq (pv 7) (pv 4) (fun _ _ => rfl)) pe_int (nomark _)))) (fun _ _ _ _ _ => (pv 7)))
      (pss_one (ps_if (pt_cmpR (opNe hr.units) (pv 5) (pe_lst pa_nil) (nomark _)) (pss_cons (ps_set (i := 6) sc_heads_of.nd rfl (by first | exact Or.inl rfl | exact Or.inr rfl) (pe_callS (ok_plain T) (hr.mono (by decide)) rfl T.g_plain T.F_plain.kp T.b_plain (fun σ => passAt (takes_of rfl rfl rfl rfl) σ) (pa_cons (pe_ix ix_seq (pv 5) pe_int (fun _ _ => rfl)) pa_nil)))
      (pss_cons (ps_setLc (i := 3) (own := [("row", 7)]) rfl sc_heads_of.nd rfl rfl (sw_true rfl rfl rfl (by decide +kernel)) (pi_list (pv 3)) (blkOk_by (N := N_heads_of) (sc := (defScope s_heads_of)) (own := [("row", 7)]) (by decide +kernel)) (fun _ _ _ _ _ => (pg_name (i := 7) sc_heads_of.nd rfl (by first | exact Or.inl rfl | exact Or.inr rfl))) (fun _ _ _ _ _ => pts_nil) (fun _ _ _ _ _ => (pe_callS (ok_eased T) (hr.mono (by decide)) rfl T.g_eased T.F_eased.kp T.b_eased (fun σ => passAt takes0 σ) (pa_cons (pv 7) (pa_cons (pv 6) (pa_cons (pv 4) pa_nil))))))
      (pss_one (ps_set (i := 2) sc_heads_of.nd rfl (by first | exact Or.inl rfl | exact Or.inr rfl) (pe_op opAdd (pe_lc (own := [("row", 7)]) rfl sc_heads_of.nd (pi_list (pv 2)) (blkOk_by (N := N_heads_of) (sc := (defScope s_heads_of)) (own := [("row", 7)]) (by decide +kernel)) (fun _ _ _ _ _ => (pg_name (i := 7) sc_heads_of.nd rfl (by first | exact Or.inl rfl | exact Or.inr rfl))) (fun _ _ _ _ _ => pts_nil) (fun _ _ _ _ _ => (pe_callS (ok_eased T) (hr.mono (by decide)) rfl T.g_eased T.F_eased.kp T.b_eased (fun σ => passAt takes0 σ) (pa_cons (pv 7) (pa_cons (pv 6) (pa_cons (pv 4) pa_nil)))))) (pe_lst (pa_cons (pv 6) pa_nil))))))) pss_nil))))
      (pss_one (ps_ret (pv 2)))))), fun ds o h => sem_heads_of  h⟩)

theorem ok_head_of (T : Txt K mg) : FnOk P w K mg base (L2.CX P w) 1 T.a_head_of T.fd_head_of ["row"] (SpD K F_head_of) := by
  refine def_ok T.F_head_of sc_head_of (len_head_of) (fun cdv A outer s H E hr => ⟨t_head_of K E , (pss_cons (ps_set (i := 1) sc_head_of.nd rfl (by first | exact Or.inl rfl | exact Or.inr rfl) pe_int)
      (pss_cons (ps_while (passes_of rfl) (pt_cmpR (opEq hr.units) (pe_ix ix_seq (pv 0) (pv 1) (fun _ _ => rfl)) pe_int (nomark _)) (pss_one (ps_set (i := 1) sc_head_of.nd rfl (by first | exact Or.inl rfl | exact Or.inr rfl) (pe_op opAdd (pv 1) pe_int))))
      (pss_one (ps_ret (pv 1))))), fun ds o h => sem_head_of  h⟩)

theorem ok_noughts_of (T : Txt K mg) : FnOk P w K mg base (L2.CX P w) 5 T.a_noughts_of T.fd_noughts_of ["rows", "size"] (SpD K F_noughts_of) := by
  refine def_ok T.F_noughts_of sc_noughts_of (len_noughts_of) (fun cdv A outer s H E hr => ⟨t_noughts_of K E , (pss_cons (ps_set (i := 2) sc_noughts_of.nd rfl (by first | exact Or.inl rfl | exact Or.inr rfl) (pe_callS (ok_heads_of T) (hr.mono (by decide)) rfl T.g_heads_of T.F_heads_of.kp T.b_heads_of (fun σ => passAt (takes_of rfl rfl rfl rfl) σ) (pa_cons (pv 0) (pa_cons (pv 1) pa_nil))))
      (pss_cons (ps_setLc (i := 4) (own := [("row", 3)]) rfl sc_noughts_of.nd rfl rfl (sw_true rfl rfl rfl (by decide +kernel)) (pi_list (pv 2)) (blkOk_by (N := N_noughts_of) (sc := (defScope s_noughts_of)) (own := [("row", 3)]) (by decide +kernel)) (fun _ _ _ _ _ => (pg_name (i := 3) sc_noughts_of.nd rfl (by first | exact Or.inl rfl | exact Or.inr rfl))) (fun _ _ _ _ _ => pts_nil) (fun _ _ _ _ _ => (pe_callS (ok_head_of T) (hr.mono (by decide)) rfl T.g_head_of T.F_head_of.kp T.b_head_of (fun σ => passAt takes0 σ) (pa_cons (pv 3) pa_nil))))
      (pss_cons (ps_set (i := 5) sc_noughts_of.nd rfl (by first | exact Or.inl rfl | exact Or.inr rfl) pe_int)
      (pss_cons (ps_for (passes_of rfl) rfl (pi_zip2 (by rfl) T.m_zip (pa_cons (pv 2) (pa_cons (pv 4) pa_nil))) (pg_tup rfl (pgs_cons (pg_name (i := 3) sc_noughts_of.nd rfl (by first | exact Or.inl rfl | exact Or.inr rfl)) (pgs_cons (pg_name (i := 6) sc_noughts_of.nd rfl (by first | exact Or.inl rfl | exact Or.inr rfl)) pgs_nil))) (pss_one (ps_set (i := 5) sc_noughts_of.nd rfl (by first | exact Or.inl rfl | exact Or.inr rfl) (pe_op opMul (pe_op opDivG (pv 5) (pe_callS (ok_divisor T) (hr.mono (by decide)) rfl T.g_divisor T.F_divisor.kp T.b_divisor (fun σ => passAt (takes_of rfl rfl rfl rfl) σ) (pa_cons (pv 5) (pa_cons (pe_ix ix_seq (pv 3) (pv 6) (fun _ _ => rfl)) pa_nil)))) (pe_ix ix_seq (pv 3) (pv 6) (fun _ _ => rfl))))))
      (pss_cons (ps_set (i := 7) sc_noughts_of.nd rfl (by first | exact Or.inl rfl | exact Or.inr rfl) (pe_lst pa_nil))
      (pss_cons (ps_for (passes_of rfl) rfl (pi_range1 rfl T.m_range (pa_cons (pv 1) pa_nil)) (pg_name (i := 8) sc_noughts_of.nd rfl (by first | exact Or.inl rfl | exact Or.inr rfl)) (pss_one (ps_if (pt_cmpR op_notIn_seq (pv 8) (pv 4) (by rfl)) (pss_cons (ps_setLc (i := 9) (own := [("k", 10)]) rfl sc_noughts_of.nd rfl rfl (sw_true rfl rfl rfl (by decide +kernel)) (pi_range1 rfl T.m_range (pa_cons (pv 1) pa_nil)) (blkOk_by (N := N_noughts_of) (sc := (defScope s_noughts_of)) (own := [("k", 10)]) (by decide +kernel)) (fun _ _ _ _ _ => (pg_name (i := 10) sc_noughts_of.nd rfl (by first | exact Or.inl rfl | exact Or.inr rfl))) (fun _ _ _ _ _ => pts_nil) (fun _ _ _ _ _ => pe_int))
      (pss_cons (ps_asg (pv 5) (pg_sub (pv 9) (pv 8) set_list))
      (pss_cons (ps_for (passes_of rfl) rfl (pi_zip2 (by rfl) T.m_zip (pa_cons (pv 2) (pa_cons (pv 4) pa_nil))) (pg_tup rfl (pgs_cons (pg_name (i := 3) sc_noughts_of.nd rfl (by first | exact Or.inl rfl | exact Or.inr rfl)) (pgs_cons (pg_name (i := 6) sc_noughts_of.nd rfl (by first | exact Or.inl rfl | exact Or.inr rfl)) pgs_nil))) (pss_one (ps_asg (pe_op opMul (pe_un unNeg (pe_ix ix_seq (pv 3) (pv 8) (fun _ _ => rfl))) (pe_op opDivG (pv 5) (pe_ix ix_seq (pv 3) (pv 6) (fun _ _ => rfl)))) (pg_sub (pv 9) (pv 6) set_list))))
      (pss_one (ps_expr (pe_bm PySem.F.plainAttrs_list PySem.F.slot_list_append PySem.F.type_list_append mt_append (pv 7) (pa_cons (pv 9) pa_nil))))))) pss_nil)))
      (pss_one (ps_ret (pe_callS (ok_heads_of T) (hr.mono (by decide)) rfl T.g_heads_of T.F_heads_of.kp T.b_heads_of (fun σ => passAt (takes_of rfl rfl rfl rfl) σ) (pa_cons (pv 7) (pa_cons (pv 1) pa_nil))))))))))), fun ds o h => sem_noughts_of  h⟩)

theorem ok_round_counts (T : Txt K mg) : FnOk P w K mg base (L2.CX P w) 6 T.a_round_counts T.fd_round_counts ["net"] (SpD K F_round_counts) := by
  refine def_ok T.F_round_counts sc_round_counts (len_round_counts) (fun cdv A outer s H E hr => ⟨t_round_counts K E , (pss_cons (ps_set (i := 1) sc_round_counts.nd rfl (by first | exact Or.inl rfl | exact Or.inr rfl) (pe_lst pa_nil))
      (pss_cons (ps_for (passes_of rfl) rfl (pi_range1 rfl T.m_range (pa_cons (pe_ix ix_seq (pv 0) pe_int (fun _ _ => rfl)) pa_nil)) (pg_name (i := 2) sc_round_counts.nd rfl (by first | exact Or.inl rfl | exact Or.inr rfl)) (pss_one (ps_expr (pe_bm PySem.F.plainAttrs_list PySem.F.slot_list_append PySem.F.type_list_append mt_append (pv 1) (pa_cons (pe_lc (own := [("takes", 3), ("gives", 4)]) rfl sc_round_counts.nd (pi_tup (pe_ix ix_seq (pv 0) pe_int (fun _ _ => rfl))) (blkOk_by (N := N_round_counts) (sc := (defScope s_round_counts)) (own := [("takes", 3), ("gives", 4)]) (by decide +kernel)) (fun _ _ _ _ _ => (pg_tup rfl (pgs_cons (pg_name (i := 3) sc_round_counts.nd rfl (by first | exact Or.inl rfl | exact Or.inr rfl)) (pgs_cons (pg_name (i := 4) sc_round_counts.nd rfl (by first | exact Or.inl rfl | exact Or.inr rfl)) pgs_nil)))) (fun _ _ _ _ _ => pts_nil) (fun _ _ _ _ _ => (pe_op opSub (pe_ix ix_seq (pv 4) (pv 2) (fun _ _ => rfl)) (pe_ix ix_seq (pv 3) (pv 2) (fun _ _ => rfl))))) pa_nil)))))
      (pss_one (ps_ret (pe_callS (ok_noughts_of T) (hr.mono (by decide)) rfl T.g_noughts_of T.F_noughts_of.kp T.b_noughts_of (fun σ => passAt (takes_of rfl rfl rfl rfl) σ) (pa_cons (pv 1) (pa_cons (pe_callB callLen (by rfl) T.m_len PySem.boot_len (pa_cons (pe_ix ix_seq (pv 0) pe_int (fun _ _ => rfl)) pa_nil)) pa_nil))))))), fun ds o h => sem_round_counts  h⟩)

theorem ok_cell_at_l (T : Txt K mg) : FnOk P w K mg base (L2.CX P w) 1 T.a_cell_at_l T.fd_cell_at_l ["_law_script", "_law_k"] (SpD K F_cell_at_l) := by
  refine def_ok T.F_cell_at_l sc_cell_at_l (len_cell_at_l) (fun cdv A outer s H E hr => ⟨t_cell_at_l K E , (pss_cons (ps_if (pt_cmpR opLt (pv 1) (pe_callB callLen (by rfl) T.m_len PySem.boot_len (pa_cons (pv 0) pa_nil)) (nomark _)) (pss_one (ps_ret (pe_ix ix_seq (pv 0) (pv 1) (fun _ _ => rfl)))) pss_nil)
      (pss_cons (ps_if (pt_cmpR (opEq hr.units) (pv 0) (pe_lst pa_nil) (nomark _)) (pss_one (ps_ret pe_int)) pss_nil)
      (pss_one (ps_ret (pe_op opAdd (pe_op opMul (pe_ix ix_seq (pv 0) (pe_op opMod (pv 1) (pe_callB callLen (by rfl) T.m_len PySem.boot_len (pa_cons (pv 0) pa_nil))) (fun _ _ => rfl)) pe_int) (pv 1)))))), fun ds o h => sem_cell_at_l  h⟩)

theorem ok_mixed_l (T : Txt K mg) : FnOk P w K mg base (L2.CX P w) 2 T.a_mixed_l T.fd_mixed_l ["_law_script", "_law_k", "_law_many"] (SpD K F_mixed_l) := by
  refine def_ok T.F_mixed_l sc_mixed_l (len_mixed_l) (fun cdv A outer s H E hr => ⟨t_mixed_l K E , (pss_cons (ps_set (i := 3) sc_mixed_l.nd rfl (by first | exact Or.inl rfl | exact Or.inr rfl) (pe_op opMod (pe_op opMul (pe_op opAdd (pe_op opAdd (pe_callS (ok_cell_at_l T) (hr.mono (by decide)) rfl T.g_cell_at_l T.F_cell_at_l.kp T.b_cell_at_l (fun σ => passAt (takes_of rfl rfl rfl rfl) σ) (pa_cons (pv 0) (pa_cons (pv 1) pa_nil))) (pe_op opMul pe_int (pv 1))) pe_int) pe_int) pe_int))
      (pss_one (ps_ret (pe_op opMod (pe_op opMod (pe_op opAdd (pe_op opAdd (pe_op opMul (pv 3) (pv 3)) (pe_op opMul pe_int (pv 3))) (pv 1)) pe_int) (pv 2))))), fun ds o h => sem_mixed_l  h⟩)

theorem ok_move_l (T : Txt K mg) : FnOk P w K mg base (L2.CX P w) 3 T.a_move_l T.fd_move_l ["_law_script", "_law_at", "_law_size", "_law_even"] (SpD K F_move_l) := by
  refine def_ok T.F_move_l sc_move_l (len_move_l) (fun cdv A outer s H E hr => ⟨t_move_l K E , (pss_cons (ps_setLc (i := 5) (own := [("_law_k", 4)]) rfl sc_move_l.nd rfl rfl (sw_true rfl rfl rfl (by decide +kernel)) (pi_range1 rfl T.m_range (pa_cons (pv 2) pa_nil)) (blkOk_by (N := N_move_l) (sc := (defScope s_move_l)) (own := [("_law_k", 4)]) (by decide +kernel)) (fun _ _ _ _ _ => (pg_name (i := 4) sc_move_l.nd rfl (by first | exact Or.inl rfl | exact Or.inr rfl))) (fun _ _ _ _ _ => pts_nil) (fun _ _ _ _ _ => (pe_callS (ok_mixed_l T) (hr.mono (by decide)) rfl T.g_mixed_l T.F_mixed_l.kp T.b_mixed_l (fun σ => passAt takes0 σ) (pa_cons (pv 0) (pa_cons (pe_op opAdd (pv 1) (pv 4)) (pa_cons pe_int pa_nil))))))
      (pss_cons (ps_set (i := 6) sc_move_l.nd rfl (by first | exact Or.inl rfl | exact Or.inr rfl) (pe_lst (pa_cons pe_int (pa_cons pe_int (pa_cons pe_int (pa_cons pe_int (pa_cons pe_int pa_nil)))))))
      (pss_cons (ps_if (PW.pt (pw_and (pt_not (pt_val (pv 3))) (pw_and1 (pt_cmpR (opEq hr.units) (pe_callS (ok_mixed_l T) (hr.mono (by decide)) rfl T.g_mixed_l T.F_mixed_l.kp T.b_mixed_l (fun σ => passAt (takes_of rfl rfl rfl rfl) σ) (pa_cons (pv 0) (pa_cons pe_int (pa_cons pe_int pa_nil)))) pe_int (nomark _))))) (pss_one (ps_set (i := 6) sc_move_l.nd rfl (by first | exact Or.inl rfl | exact Or.inr rfl) (pe_lst (pa_cons pe_int (pa_cons pe_int (pa_cons pe_int (pa_cons pe_int (pa_cons pe_int pa_nil)))))))) pss_nil)
      (pss_cons (ps_setLc (i := 7) (own := [("_law_cell", 10)]) rfl sc_move_l.nd rfl rfl (sw_true rfl rfl rfl (by decide +kernel)) (pi_list (pv 5)) (blkOk_by (N := N_move_l) (sc := (defScope s_move_l)) (own := [("_law_cell", 10)]) (by decide +kernel)) (fun _ _ _ _ _ => (pg_name (i := 10) sc_move_l.nd rfl (by first | exact Or.inl rfl | exact Or.inr rfl))) (fun _ _ _ _ _ => pts_nil) (fun _ _ _ _ _ => (pe_ix ix_seq (pv 6) (pe_op opMod (pv 10) pe_int) (fun _ _ => rfl))))
      (pss_cons (ps_setLc (i := 8) (own := [("_law_cell", 10)]) rfl sc_move_l.nd rfl rfl (sw_true rfl rfl rfl (by decide +kernel)) (pi_list (pv 5)) (blkOk_by (N := N_move_l) (sc := (defScope s_move_l)) (own := [("_law_cell", 10)]) (by decide +kernel)) (fun _ _ _ _ _ => (pg_name (i := 10) sc_move_l.nd rfl (by first | exact Or.inl rfl | exact Or.inr rfl))) (fun _ _ _ _ _ => pts_nil) (fun _ _ _ _ _ => (pe_ix ix_seq (pv 6) (pe_op opDiv (pv 10) pe_int) (fun _ _ => rfl))))
      (pss_cons (ps_if (pt_val (pv 3)) (pss_cons (ps_setLc (i := 8) (own := [("_law_k", 4)]) rfl sc_move_l.nd rfl rfl (sw_true rfl rfl rfl (by decide +kernel)) (pi_range1 rfl T.m_range (pa_cons (pv 2) pa_nil)) (blkOk_by (N := N_move_l) (sc := (defScope s_move_l)) (own := [("_law_k", 4)]) (by decide +kernel)) (fun _ _ _ _ _ => (pg_name (i := 4) sc_move_l.nd rfl (by first | exact Or.inl rfl | exact Or.inr rfl))) (fun _ _ _ _ _ => pts_nil) (fun _ _ _ _ _ => pe_int))
      (pss_cons (ps_set (i := 9) sc_move_l.nd rfl (by first | exact Or.inl rfl | exact Or.inr rfl) (pe_callS (ok_mixed_l T) (hr.mono (by decide)) rfl T.g_mixed_l T.F_mixed_l.kp T.b_mixed_l (fun σ => passAt (takes_of rfl rfl rfl rfl) σ) (pa_cons (pv 0) (pa_cons (pe_op opAdd (pv 1) pe_int) (pa_cons (pe_op opPow pe_int pe_int) pa_nil)))))
      (pss_one (ps_for (passes_of rfl) rfl (pi_range1 rfl T.m_range (pa_cons (pe_callB (cr_sum rfl) (by rfl) T.m_sum (by decide +kernel) (pa_cons (pv 7) pa_nil)) pa_nil)) (pg_name (i := 4) sc_move_l.nd rfl (by first | exact Or.inl rfl | exact Or.inr rfl)) (pss_cons (ps_asg (pe_op opAdd (pe_ix ix_seq (pv 8) (pe_op opMod (pv 9) (pv 2)) (fun _ _ => rfl)) pe_int) (pg_sub (pv 8) (pe_op opMod (pv 9) (pv 2)) set_list))
      (pss_one (ps_set (i := 9) sc_move_l.nd rfl (by first | exact Or.inl rfl | exact Or.inr rfl) (pe_op opDiv (pv 9) (pv 2))))))))) pss_nil)
      (pss_one (ps_ret (pe_tup (pa_cons (pe_callTy callTup (by rfl) T.m_tuple PyProof.Rows.boot_tuple (pa_cons (pv 7) pa_nil)) (pa_cons (pe_callTy callTup (by rfl) T.m_tuple PyProof.Rows.boot_tuple (pa_cons (pv 8) pa_nil)) pa_nil))))))))))), fun ds o h => sem_move_l  h⟩)

theorem ok_net_l (T : Txt K mg) : FnOk P w K mg base (L2.CX P w) 4 T.a_net_l T.fd_net_l ["_law_script", "_law_at"] (SpD K F_net_l) := by
  refine def_ok T.F_net_l sc_net_l (len_net_l) (fun cdv A outer s H E hr => ⟨t_net_l K E , (pss_cons (ps_set (i := 2) sc_net_l.nd rfl (by first | exact Or.inl rfl | exact Or.inr rfl) (pe_op opAdd pe_int (pe_callS (ok_mixed_l T) (hr.mono (by decide)) rfl T.g_mixed_l T.F_mixed_l.kp T.b_mixed_l (fun σ => passAt (takes_of rfl rfl rfl rfl) σ) (pa_cons (pv 0) (pa_cons (pv 1) (pa_cons pe_int pa_nil))))))
      (pss_cons (ps_set (i := 3) sc_net_l.nd rfl (by first | exact Or.inl rfl | exact Or.inr rfl) (pe_callS (ok_mixed_l T) (hr.mono (by decide)) rfl T.g_mixed_l T.F_mixed_l.kp T.b_mixed_l (fun σ => passAt (takes_of rfl rfl rfl rfl) σ) (pa_cons (pv 0) (pa_cons (pe_op opAdd (pv 1) pe_int) (pa_cons pe_int pa_nil)))))
      (pss_cons (ps_if (pt_cmpR (opEq hr.units) (pe_callS (ok_mixed_l T) (hr.mono (by decide)) rfl T.g_mixed_l T.F_mixed_l.kp T.b_mixed_l (fun σ => passAt (takes_of rfl rfl rfl rfl) σ) (pa_cons (pv 0) (pa_cons (pe_op opAdd (pv 1) pe_int) (pa_cons pe_int pa_nil)))) pe_int (nomark _)) (pss_one (ps_set (i := 2) sc_net_l.nd rfl (by first | exact Or.inl rfl | exact Or.inr rfl) pe_int)) pss_nil)
      (pss_cons (ps_set (i := 4) sc_net_l.nd rfl (by first | exact Or.inl rfl | exact Or.inr rfl) (pe_cmpR (opEq hr.units) (pe_callS (ok_mixed_l T) (hr.mono (by decide)) rfl T.g_mixed_l T.F_mixed_l.kp T.b_mixed_l (fun σ => passAt (takes_of rfl rfl rfl rfl) σ) (pa_cons (pv 0) (pa_cons (pe_op opAdd (pv 1) pe_int) (pa_cons pe_int pa_nil)))) pe_int (nomark _)))
      (pss_one (ps_ret (pe_tup (pa_cons (pv 2) (pa_cons (pe_callTy callTup (by rfl) T.m_tuple PyProof.Rows.boot_tuple (pa_cons (pe_lc (own := [("_law_k", 5)]) rfl sc_net_l.nd (pi_range1 rfl T.m_range (pa_cons (pv 3) pa_nil)) (blkOk_by (N := N_net_l) (sc := (defScope s_net_l)) (own := [("_law_k", 5)]) (by decide +kernel)) (fun _ _ _ _ _ => (pg_name (i := 5) sc_net_l.nd rfl (by first | exact Or.inl rfl | exact Or.inr rfl))) (fun _ _ _ _ _ => pts_nil) (fun _ _ _ _ _ => (pe_callS (ok_move_l T) (hr.mono (by decide)) rfl T.g_move_l T.F_move_l.kp T.b_move_l (fun σ => passAt takes0 σ) (pa_cons (pv 0) (pa_cons (pe_op opAdd (pe_op opAdd (pv 1) pe_int) (pe_op opMul pe_int (pv 5))) (pa_cons (pv 2) (pa_cons (pv 4) pa_nil))))))) pa_nil)) pa_nil))))))))), fun ds o h => sem_net_l  h⟩)

theorem ok_whole_l (T : Txt K mg) : FnOk P w K mg base (L2.CX P w) 1 T.a_whole_l T.fd_whole_l ["_law_found"] (SpD K F_whole_l) := by
  refine def_ok T.F_whole_l sc_whole_l (len_whole_l) (fun cdv A outer s H E hr => ⟨t_whole_l K E , (pss_one (ps_ret (pe_and (pe_callB call_isi (by rfl) T.m_isinstance (by decide +kernel) (pa_cons (pv 0) (pa_cons (pe_bltn (v := .ty "int") (by rfl) T.m_int (by decide +kernel) rfl) pa_nil))) (pe_one (pe_not (pe_callB call_isi (by rfl) T.m_isinstance (by decide +kernel) (pa_cons (pv 0) (pa_cons (pe_bltn (v := .ty "bool") (by rfl) T.m_bool (by decide +kernel) rfl) pa_nil)))))))), fun ds o h => sem_whole_l  h⟩)

theorem ok_rank_l (T : Txt K mg) : FnOk P w K mg base (L2.CX P w) 1 T.a_rank_l T.fd_rank_l ["_law_rows", "_law_size"] (SpD K F_rank_l) := by
  refine def_ok T.F_rank_l sc_rank_l (len_rank_l) (fun cdv A outer s H E hr => ⟨t_rank_l K E , (pss_cons (ps_setLc (i := 2) (own := [("_law_row", 7)]) rfl sc_rank_l.nd rfl rfl (sw_true rfl rfl rfl (by decide +kernel)) (pi_list (pv 0)) (blkOk_by (N := N_rank_l) (sc := (defScope s_rank_l)) (own := [("_law_row", 7)]) (by decide +kernel)) (fun _ _ _ _ _ => (pg_name (i := 7) sc_rank_l.nd rfl (by first | exact Or.inl rfl | exact Or.inr rfl))) (fun _ _ _ _ _ => pts_nil) (fun _ _ _ _ _ => (pe_callTy callLst (by rfl) T.m_list PyProof.Rows.boot_list (pa_cons (pv 7) pa_nil))))
      (pss_cons (ps_set (i := 3) sc_rank_l.nd rfl (by first | exact Or.inl rfl | exact Or.inr rfl) pe_int)
      (pss_cons (ps_for (passes_of rfl) rfl (pi_range1 rfl T.m_range (pa_cons (pv 1) pa_nil)) (pg_name (i := 4) sc_rank_l.nd rfl (by first | exact Or.inl rfl | exact Or.inr rfl)) (pss_cons (ps_setLc (i := 5) (own := [("_law_row", 7)]) rfl sc_rank_l.nd rfl rfl (sw_true rfl rfl rfl (by decide +kernel)) (pi_list (pv 2)) (blkOk_by (N := N_rank_l) (sc := (defScope s_rank_l)) (own := [("_law_row", 7)]) (by decide +kernel)) (fun _ _ _ _ _ => (pg_name (i := 7) sc_rank_l.nd rfl (by first | exact Or.inl rfl | exact Or.inr rfl))) (fun _ _ _ _ _ => (pts_one (pt_cmpR (opNe hr.units) (pe_ix ix_seq (pv 7) (pv 4) (fun _ _ => rfl)) pe_int (nomark _)))) (fun _ _ _ _ _ => (pv 7)))
      (pss_one (ps_if (pt_cmpR (opNe hr.units) (pv 5) (pe_lst pa_nil) (nomark _)) (pss_cons (ps_set (i := 3) sc_rank_l.nd rfl (by first | exact Or.inl rfl | exact Or.inr rfl) (pe_op opAdd (pv 3) pe_int))
      (pss_cons (ps_set (i := 6) sc_rank_l.nd rfl (by first | exact Or.inl rfl | exact Or.inr rfl) (pe_ix ix_seq (pv 5) pe_int (fun _ _ => rfl)))
      (pss_one (ps_setLc (i := 2) (own := [("_law_row", 7)]) rfl sc_rank_l.nd rfl rfl (sw_true rfl rfl rfl (by decide +kernel)) (pi_list (pv 2)) (blkOk_by (N := N_rank_l) (sc := (defScope s_rank_l)) (own := [("_law_row", 7)]) (by decide +kernel)) (fun _ _ _ _ _ => (pg_name (i := 7) sc_rank_l.nd rfl (by first | exact Or.inl rfl | exact Or.inr rfl))) (fun _ _ _ _ _ => pts_nil) (fun _ _ _ _ _ => (pe_lc (own := [("_law_k", 8)]) rfl sc_rank_l.nd (pi_range1 rfl T.m_range (pa_cons (pv 1) pa_nil)) (by first | exact blkOk_by (N := N_rank_l) (own := [("_law_k", 8)]) (by decide +kernel) | (dsimp only [compEnvC]; exact blkOk_rel (N := N_rank_l) (own := [("_law_k", 8)]) (by decide +kernel))) (fun _ _ _ _ _ => (pg_name (i := 8) sc_rank_l.nd rfl (by first | exact Or.inl rfl | exact Or.inr rfl))) (fun _ _ _ _ _ => pts_nil) (fun _ _ _ _ _ => (pe_op opSub (pe_op opMul (pe_ix ix_seq (pv 7) (pv 8) (fun _ _ => rfl)) (pe_ix ix_seq (pv 6) (pv 4) (fun _ _ => rfl))) (pe_op opMul (pe_ix ix_seq (pv 6) (pv 8) (fun _ _ => rfl)) (pe_ix ix_seq (pv 7) (pv 4) (fun _ _ => rfl))))))))))) pss_nil))))
      (pss_one (ps_ret (pv 3)))))), fun ds o h => sem_rank_l  h⟩)

theorem ok_divisor_l (T : Txt K mg) : FnOk P w K mg base (L2.CX P w) 1 T.a_divisor_l T.fd_divisor_l ["_law_row"] (SpD K F_divisor_l) := by
  refine def_ok T.F_divisor_l sc_divisor_l (len_divisor_l) (fun cdv A outer s H E hr => ⟨t_divisor_l K E , (pss_cons (ps_set (i := 1) sc_divisor_l.nd rfl (by first | exact Or.inl rfl | exact Or.inr rfl) pe_int)
      (pss_cons (ps_for (passes_of rfl) rfl (pi_list (pv 0)) (pg_name (i := 2) sc_divisor_l.nd rfl (by first | exact Or.inl rfl | exact Or.inr rfl)) (pss_cons (ps_set (i := 3) sc_divisor_l.nd rfl (by first | exact Or.inl rfl | exact Or.inr rfl) (pe_callB callAbs (by rfl) T.m_abs (by decide +kernel) (pa_cons (pv 2) pa_nil)))
      (pss_one (ps_while (passes_of rfl) (pt_cmpR (opNe hr.units) (pv 3) pe_int (nomark _)) (pss_cons (ps_set (i := 4) sc_divisor_l.nd rfl (by first | exact Or.inl rfl | exact Or.inr rfl) (pe_op opMod (pv 1) (pv 3)))
      (pss_cons (ps_set (i := 1) sc_divisor_l.nd rfl (by first | exact Or.inl rfl | exact Or.inr rfl) (pv 3))
      (pss_one (ps_set (i := 3) sc_divisor_l.nd rfl (by first | exact Or.inl rfl | exact Or.inr rfl) (pv 4)))))))))
      (pss_one (ps_ret (pv 1))))), fun ds o h => sem_divisor_l  h⟩)

theorem ok_is_ground_l (T : Txt K mg) : FnOk P w K mg base (L2.CX P w) 2 T.a_is_ground_l T.fd_is_ground_l ["_law_rows", "_law_size"] (SpD K F_is_ground_l) := by
  refine def_ok T.F_is_ground_l sc_is_ground_l (len_is_ground_l) (fun cdv A outer s H E hr => ⟨t_is_ground_l K E , (pss_cons (ps_set (i := 2) sc_is_ground_l.nd rfl (by first | exact Or.inl rfl | exact Or.inr rfl) (pe_un unNeg pe_int))
      (pss_cons (ps_for (passes_of rfl) rfl (pi_list (pv 0)) (pg_name (i := 3) sc_is_ground_l.nd rfl (by first | exact Or.inl rfl | exact Or.inr rfl)) (pss_cons (ps_if (PW.pt (pw_or (pt_not (pt_val (pe_callB call_isi (by rfl) T.m_isinstance (by decide +kernel) (pa_cons (pv 3) (pa_cons (pe_bltn (v := .ty "list") (by rfl) T.m_list (by decide +kernel) rfl) pa_nil))))) (pw_or1 (pt_cmpR (opNe hr.units) (pe_callB callLen (by rfl) T.m_len PySem.boot_len (pa_cons (pv 3) pa_nil)) (pv 1) (nomark _))))) (pss_one (ps_ret pe_bl)) pss_nil)
      (pss_cons (ps_for (passes_of rfl) rfl (pi_list (pv 3)) (pg_name (i := 4) sc_is_ground_l.nd rfl (by first | exact Or.inl rfl | exact Or.inr rfl)) (pss_one (ps_if (pt_not (pt_val (pe_callS (ok_whole_l T) (hr.mono (by decide)) rfl T.g_whole_l T.F_whole_l.kp T.b_whole_l (fun σ => passAt (takes_of rfl rfl rfl rfl) σ) (pa_cons (pv 4) pa_nil)))) (pss_one (ps_ret pe_bl)) pss_nil)))
      (pss_cons (ps_set (i := 5) sc_is_ground_l.nd rfl (by first | exact Or.inl rfl | exact Or.inr rfl) (pe_lc (own := [("_law_k", 6)]) rfl sc_is_ground_l.nd (pi_range1 rfl T.m_range (pa_cons (pv 1) pa_nil)) (blkOk_by (N := N_is_ground_l) (sc := (defScope s_is_ground_l)) (own := [("_law_k", 6)]) (by decide +kernel)) (fun _ _ _ _ _ => (pg_name (i := 6) sc_is_ground_l.nd rfl (by first | exact Or.inl rfl | exact Or.inr rfl))) (fun _ _ _ _ _ => (pts_one (pt_cmpR (opNe hr.units) (pe_ix ix_seq (pv 3) (pv 6) (fun _ _ => rfl)) pe_int (nomark _)))) (fun _ _ _ _ _ => (pv 6))))
      (pss_cons (ps_if (PW.pt (pw_or (pt_cmpR (opEq hr.units) (pv 5) (pe_lst pa_nil) (nomark _)) (pw_or (pt_cmpR (opLe hr.units0) (pe_ix ix_seq (pv 5) pe_int (fun _ _ => rfl)) (pv 2) (nomark _)) (pw_or (pt_cmpR opLt (pe_ix ix_seq (pv 3) (pe_ix ix_seq (pv 5) pe_int (fun _ _ => rfl)) (fun _ _ => rfl)) pe_int (nomark _)) (pw_or1 (pt_cmpR (opNe hr.units) (pe_callS (ok_divisor_l T) (hr.mono (by decide)) rfl T.g_divisor_l T.F_divisor_l.kp T.b_divisor_l (fun σ => passAt (takes_of rfl rfl rfl rfl) σ) (pa_cons (pv 3) pa_nil)) pe_int (nomark _))))))) (pss_one (ps_ret pe_bl)) pss_nil)
      (pss_cons (ps_if (pt_cmpR (opNe hr.units) (pe_lc (own := [("_law_other", 7)]) rfl sc_is_ground_l.nd (pi_list (pv 0)) (blkOk_by (N := N_is_ground_l) (sc := (defScope s_is_ground_l)) (own := [("_law_other", 7)]) (by decide +kernel)) (fun _ _ _ _ _ => (pg_name (i := 7) sc_is_ground_l.nd rfl (by first | exact Or.inl rfl | exact Or.inr rfl))) (fun _ _ _ _ _ => (pts_one (pt_cmpR (opNe hr.units) (pe_ix ix_seq (pv 7) (pe_ix ix_seq (pv 5) pe_int (fun _ _ => rfl)) (fun _ _ => rfl)) pe_int (nomark _)))) (fun _ _ _ _ _ => (pv 7))) (pe_lst (pa_cons (pv 3) pa_nil)) (nomark _)) (pss_one (ps_ret pe_bl)) pss_nil)
      (pss_one (ps_set (i := 2) sc_is_ground_l.nd rfl (by first | exact Or.inl rfl | exact Or.inr rfl) (pe_ix ix_seq (pv 5) pe_int (fun _ _ => rfl))))))))))
      (pss_one (ps_ret pe_bl)))), fun ds o h => sem_is_ground_l  h⟩)

theorem ok_law (T : Txt K mg) : FnOk P w K mg base CX0 7 T.a_law T.fd_law ["_law_script"] (SpD K F_law) := by
  refine law_ok T.F_law sc_law (len_law) (fun cdv A outer s H E hr => ⟨t_law K E , (pss_cons (ps_set (i := 1) sc_law.nd rfl (by first | exact Or.inl rfl | exact Or.inr rfl) (pe_callS (ok_net_l T) (hr.mono (by decide)) rfl T.g_net_l T.F_net_l.kp T.b_net_l (fun σ => passAt takes0 σ) (pa_cons (pv 0) (pa_cons pe_int pa_nil))))
      (pss_cons (ps_set (i := 2) sc_law.nd rfl (by first | exact Or.inl rfl | exact Or.inr rfl) (pe_callB callLen (by rfl) T.m_len PySem.boot_len (pa_cons (pe_ix ix_seq (pv 1) pe_int (fun _ _ => rfl)) pa_nil)))
      (pss_cons (ps_set (i := 3) sc_law.nd rfl (by first | exact Or.inl rfl | exact Or.inr rfl) (pe_callS (ok_round_counts T) (hr.mono (by decide)) rfl T.g_round_counts T.F_round_counts.kp T.b_round_counts (fun σ => passAt takes0 σ) (pa_cons (pv 1) pa_nil)))
      (pss_cons (ps_if (PW.pt (pw_or (pt_not (pt_val (pe_callB call_isi (by rfl) T.m_isinstance (by decide +kernel) (pa_cons (pv 3) (pa_cons (pe_bltn (v := .ty "list") (by rfl) T.m_list (by decide +kernel) rfl) pa_nil))))) (pw_or1 (pt_not (pt_val (pe_callS (ok_is_ground_l T) (hr.mono (by decide)) rfl T.g_is_ground_l T.F_is_ground_l.kp T.b_is_ground_l (fun σ => passAt takes0 σ) (pa_cons (pv 3) (pa_cons (pv 2) pa_nil)))))))) (pss_one (ps_ret pe_bl)) pss_nil)
      (pss_cons (ps_set (i := 4) sc_law.nd rfl (by first | exact Or.inl rfl | exact Or.inr rfl) (pe_lst pa_nil))
      (pss_cons (ps_for PassesOwn.never rfl (pi_tup (pe_ix ix_seq (pv 1) pe_int (fun _ _ => rfl))) (pg_name (i := 5) sc_law.nd rfl (by first | exact Or.inl rfl | exact Or.inr rfl)) (pss_one (ps_expr (pe_bm PySem.F.plainAttrs_list PySem.F.slot_list_append PySem.F.type_list_append mt_append (pv 4) (pa_cons (pe_lc (own := [("_law_k", 8)]) rfl sc_law.nd (pi_range1 rfl T.m_range (pa_cons (pe_ix ix_seq (pv 1) pe_int (fun _ _ => rfl)) pa_nil)) (blkOk_by (N := N_law) (sc := (defScope s_law)) (own := [("_law_k", 8)]) (by decide +kernel)) (fun _ _ _ _ _ => (pg_name (i := 8) sc_law.nd rfl (by first | exact Or.inl rfl | exact Or.inr rfl))) (fun _ _ _ _ _ => pts_nil) (fun _ _ _ _ _ => (pe_op opSub (pe_ix ix_seq (pe_ix ix_seq (pv 5) pe_int (fun _ _ => rfl)) (pv 8) (fun _ _ => rfl)) (pe_ix ix_seq (pe_ix ix_seq (pv 5) pe_int (fun _ _ => rfl)) (pv 8) (fun _ _ => rfl))))) pa_nil)))))
      (pss_cons (ps_for PassesOwn.never rfl (pi_list (pv 3)) (pg_name (i := 6) sc_law.nd rfl (by first | exact Or.inl rfl | exact Or.inr rfl)) (pss_one (ps_for PassesOwn.never rfl (pi_range1 rfl T.m_range (pa_cons (pe_ix ix_seq (pv 1) pe_int (fun _ _ => rfl)) pa_nil)) (pg_name (i := 7) sc_law.nd rfl (by first | exact Or.inl rfl | exact Or.inr rfl)) (pss_one (ps_if (pt_cmpR (opNe hr.units) (pe_callB (cr_sum rfl) (by rfl) T.m_sum (by decide +kernel) (pa_cons (pe_lc (own := [("_law_k", 8)]) rfl sc_law.nd (pi_range1 rfl T.m_range (pa_cons (pv 2) pa_nil)) (blkOk_by (N := N_law) (sc := (defScope s_law)) (own := [("_law_k", 8)]) (by decide +kernel)) (fun _ _ _ _ _ => (pg_name (i := 8) sc_law.nd rfl (by first | exact Or.inl rfl | exact Or.inr rfl))) (fun _ _ _ _ _ => pts_nil) (fun _ _ _ _ _ => (pe_op opMul (pe_ix ix_seq (pv 6) (pv 8) (fun _ _ => rfl)) (pe_ix ix_seq (pe_ix ix_seq (pv 4) (pv 8) (fun _ _ => rfl)) (pv 7) (fun _ _ => rfl))))) pa_nil)) pe_int (nomark _)) (pss_one (ps_ret pe_bl)) pss_nil)))))
      (pss_one (ps_ret (pe_cmpR (opEq hr.units) (pe_callB callLen (by rfl) T.m_len PySem.boot_len (pa_cons (pv 3) pa_nil)) (pe_op opSub (pv 2) (pe_callS (ok_rank_l T) (hr.mono (by decide)) rfl T.g_rank_l T.F_rank_l.kp T.b_rank_l (fun σ => passAt takes0 σ) (pa_cons (pv 4) (pa_cons (pe_ix ix_seq (pv 1) pe_int (fun _ _ => rfl)) pa_nil)))) (nomark _))))))))))), fun ds o h => sem_law  h⟩)

end

theorem all_mk {l : PySem.W.OpenLaw} {w : World} {K : PySem.W.Frag} {h : Heap} {mg : Str → Option Value} {fa : Addr} (X : K.In h) (G : h.Ns mainGlobals mg) (hfa : mg "law" = some (.ref fa))
    {f0 : Addr} {od0 an0 : Option Addr} {sl0 : Array (Option Value)} {oc0 kV0 dc0 pm0 cd0 ct0 : Value}
    {f1 : Addr} {od1 an1 : Option Addr} {sl1 : Array (Option Value)} {oc1 kV1 dc1 pm1 cd1 ct1 : Value}
    {f2 : Addr} {od2 an2 : Option Addr} {sl2 : Array (Option Value)} {oc2 kV2 dc2 pm2 cd2 ct2 : Value}
    {f3 : Addr} {od3 an3 : Option Addr} {sl3 : Array (Option Value)} {oc3 kV3 dc3 pm3 cd3 ct3 : Value}
    {f4 : Addr} {od4 an4 : Option Addr} {sl4 : Array (Option Value)} {oc4 kV4 dc4 pm4 cd4 ct4 : Value}
    {f5 : Addr} {od5 an5 : Option Addr} {sl5 : Array (Option Value)} {oc5 kV5 dc5 pm5 cd5 ct5 : Value}
    {f6 : Addr} {od6 an6 : Option Addr} {sl6 : Array (Option Value)} {oc6 kV6 dc6 pm6 cd6 ct6 : Value}
    {f7 : Addr} {od7 an7 : Option Addr} {sl7 : Array (Option Value)} {oc7 kV7 dc7 pm7 cd7 ct7 : Value}
    {f8 : Addr} {od8 an8 : Option Addr} {sl8 : Array (Option Value)} {oc8 kV8 dc8 pm8 cd8 ct8 : Value}
    {f9 : Addr} {od9 an9 : Option Addr} {sl9 : Array (Option Value)} {oc9 kV9 dc9 pm9 cd9 ct9 : Value}
    {f10 : Addr} {od10 an10 : Option Addr} {sl10 : Array (Option Value)} {oc10 kV10 dc10 pm10 cd10 ct10 : Value}
    {f11 : Addr} {od11 an11 : Option Addr} {sl11 : Array (Option Value)} {oc11 kV11 dc11 pm11 cd11 ct11 : Value}
    {f12 : Addr} {od12 an12 : Option Addr} {sl12 : Array (Option Value)} {oc12 kV12 dc12 pm12 cd12 ct12 : Value}
    {f13 : Addr} {od13 an13 : Option Addr} {sl13 : Array (Option Value)} {oc13 kV13 dc13 pm13 cd13 ct13 : Value}
    {f14 : Addr} {od14 an14 : Option Addr} {sl14 : Array (Option Value)} {oc14 kV14 dc14 pm14 cd14 ct14 : Value}
    {f15 : Addr} {od15 an15 : Option Addr} {sl15 : Array (Option Value)} {oc15 kV15 dc15 pm15 cd15 ct15 : Value}
    (a0 : PySem.W.nsIn K mainGlobals "divisor" = some (some (.ref f0))) (l0 : K.lookup f0 = some ⟨oc0, od0, .func (PySem.W.fnOf "divisor" "divisor" (defArgs s_divisor) (defBody s_divisor) (defScope s_divisor) .none kV0 dc0 pm0 an0 cd0 ct0), sl0⟩) (c0 : PySem.W.codeIn K cd0 "divisor" = true) (k0 : PySem.W.keepIn K (.ref f0) = true)
    (a1 : PySem.W.nsIn K mainGlobals "plain" = some (some (.ref f1))) (l1 : K.lookup f1 = some ⟨oc1, od1, .func (PySem.W.fnOf "plain" "plain" (defArgs s_plain) (defBody s_plain) (defScope s_plain) .none kV1 dc1 pm1 an1 cd1 ct1), sl1⟩) (c1 : PySem.W.codeIn K cd1 "plain" = true) (k1 : PySem.W.keepIn K (.ref f1) = true)
    (a2 : PySem.W.nsIn K mainGlobals "eased" = some (some (.ref f2))) (l2 : K.lookup f2 = some ⟨oc2, od2, .func (PySem.W.fnOf "eased" "eased" (defArgs s_eased) (defBody s_eased) (defScope s_eased) .none kV2 dc2 pm2 an2 cd2 ct2), sl2⟩) (c2 : PySem.W.codeIn K cd2 "eased" = true) (k2 : PySem.W.keepIn K (.ref f2) = true)
    (a3 : PySem.W.nsIn K mainGlobals "heads_of" = some (some (.ref f3))) (l3 : K.lookup f3 = some ⟨oc3, od3, .func (PySem.W.fnOf "heads_of" "heads_of" (defArgs s_heads_of) (defBody s_heads_of) (defScope s_heads_of) .none kV3 dc3 pm3 an3 cd3 ct3), sl3⟩) (c3 : PySem.W.codeIn K cd3 "heads_of" = true) (k3 : PySem.W.keepIn K (.ref f3) = true)
    (a4 : PySem.W.nsIn K mainGlobals "head_of" = some (some (.ref f4))) (l4 : K.lookup f4 = some ⟨oc4, od4, .func (PySem.W.fnOf "head_of" "head_of" (defArgs s_head_of) (defBody s_head_of) (defScope s_head_of) .none kV4 dc4 pm4 an4 cd4 ct4), sl4⟩) (c4 : PySem.W.codeIn K cd4 "head_of" = true) (k4 : PySem.W.keepIn K (.ref f4) = true)
    (a5 : PySem.W.nsIn K mainGlobals "noughts_of" = some (some (.ref f5))) (l5 : K.lookup f5 = some ⟨oc5, od5, .func (PySem.W.fnOf "noughts_of" "noughts_of" (defArgs s_noughts_of) (defBody s_noughts_of) (defScope s_noughts_of) .none kV5 dc5 pm5 an5 cd5 ct5), sl5⟩) (c5 : PySem.W.codeIn K cd5 "noughts_of" = true) (k5 : PySem.W.keepIn K (.ref f5) = true)
    (a6 : PySem.W.nsIn K mainGlobals "round_counts" = some (some (.ref f6))) (l6 : K.lookup f6 = some ⟨oc6, od6, .func (PySem.W.fnOf "round_counts" "round_counts" (defArgs s_round_counts) (defBody s_round_counts) (defScope s_round_counts) .none kV6 dc6 pm6 an6 cd6 ct6), sl6⟩) (c6 : PySem.W.codeIn K cd6 "round_counts" = true) (k6 : PySem.W.keepIn K (.ref f6) = true)
    (a7 : PySem.W.nsIn K mainGlobals "_law_cell_at" = some (some (.ref f7))) (l7 : K.lookup f7 = some ⟨oc7, od7, .func (PySem.W.fnOf "_law_cell_at" "_law_cell_at" (defArgs s_cell_at_l) (defBody s_cell_at_l) (defScope s_cell_at_l) .none kV7 dc7 pm7 an7 cd7 ct7), sl7⟩) (c7 : PySem.W.codeIn K cd7 "_law_cell_at" = true) (k7 : PySem.W.keepIn K (.ref f7) = true)
    (a8 : PySem.W.nsIn K mainGlobals "_law_mixed" = some (some (.ref f8))) (l8 : K.lookup f8 = some ⟨oc8, od8, .func (PySem.W.fnOf "_law_mixed" "_law_mixed" (defArgs s_mixed_l) (defBody s_mixed_l) (defScope s_mixed_l) .none kV8 dc8 pm8 an8 cd8 ct8), sl8⟩) (c8 : PySem.W.codeIn K cd8 "_law_mixed" = true) (k8 : PySem.W.keepIn K (.ref f8) = true)
    (a9 : PySem.W.nsIn K mainGlobals "_law_move" = some (some (.ref f9))) (l9 : K.lookup f9 = some ⟨oc9, od9, .func (PySem.W.fnOf "_law_move" "_law_move" (defArgs s_move_l) (defBody s_move_l) (defScope s_move_l) .none kV9 dc9 pm9 an9 cd9 ct9), sl9⟩) (c9 : PySem.W.codeIn K cd9 "_law_move" = true) (k9 : PySem.W.keepIn K (.ref f9) = true)
    (a10 : PySem.W.nsIn K mainGlobals "_law_net" = some (some (.ref f10))) (l10 : K.lookup f10 = some ⟨oc10, od10, .func (PySem.W.fnOf "_law_net" "_law_net" (defArgs s_net_l) (defBody s_net_l) (defScope s_net_l) .none kV10 dc10 pm10 an10 cd10 ct10), sl10⟩) (c10 : PySem.W.codeIn K cd10 "_law_net" = true) (k10 : PySem.W.keepIn K (.ref f10) = true)
    (a11 : PySem.W.nsIn K mainGlobals "_law_whole" = some (some (.ref f11))) (l11 : K.lookup f11 = some ⟨oc11, od11, .func (PySem.W.fnOf "_law_whole" "_law_whole" (defArgs s_whole_l) (defBody s_whole_l) (defScope s_whole_l) .none kV11 dc11 pm11 an11 cd11 ct11), sl11⟩) (c11 : PySem.W.codeIn K cd11 "_law_whole" = true) (k11 : PySem.W.keepIn K (.ref f11) = true)
    (a12 : PySem.W.nsIn K mainGlobals "_law_rank" = some (some (.ref f12))) (l12 : K.lookup f12 = some ⟨oc12, od12, .func (PySem.W.fnOf "_law_rank" "_law_rank" (defArgs s_rank_l) (defBody s_rank_l) (defScope s_rank_l) .none kV12 dc12 pm12 an12 cd12 ct12), sl12⟩) (c12 : PySem.W.codeIn K cd12 "_law_rank" = true) (k12 : PySem.W.keepIn K (.ref f12) = true)
    (a13 : PySem.W.nsIn K mainGlobals "_law_divisor" = some (some (.ref f13))) (l13 : K.lookup f13 = some ⟨oc13, od13, .func (PySem.W.fnOf "_law_divisor" "_law_divisor" (defArgs s_divisor_l) (defBody s_divisor_l) (defScope s_divisor_l) .none kV13 dc13 pm13 an13 cd13 ct13), sl13⟩) (c13 : PySem.W.codeIn K cd13 "_law_divisor" = true) (k13 : PySem.W.keepIn K (.ref f13) = true)
    (a14 : PySem.W.nsIn K mainGlobals "_law_is_ground" = some (some (.ref f14))) (l14 : K.lookup f14 = some ⟨oc14, od14, .func (PySem.W.fnOf "_law_is_ground" "_law_is_ground" (defArgs s_is_ground_l) (defBody s_is_ground_l) (defScope s_is_ground_l) .none kV14 dc14 pm14 an14 cd14 ct14), sl14⟩) (c14 : PySem.W.codeIn K cd14 "_law_is_ground" = true) (k14 : PySem.W.keepIn K (.ref f14) = true)
    (a15 : PySem.W.nsIn K mainGlobals "law" = some (some (.ref f15))) (l15 : K.lookup f15 = some ⟨oc15, od15, .func (PySem.W.fnOf "law" "law" (defArgs s_law) (defBody s_law) (defScope s_law) .none kV15 dc15 pm15 an15 cd15 ct15), sl15⟩) (c15 : PySem.W.codeIn K cd15 "law" = true) (k15 : PySem.W.keepIn K (.ref f15) = true)
    (z0 : PySem.W.nsIn K mainGlobals "abs" = some none)
    (z1 : PySem.W.nsIn K mainGlobals "list" = some none)
    (z2 : PySem.W.nsIn K mainGlobals "zip" = some none)
    (z3 : PySem.W.nsIn K mainGlobals "range" = some none)
    (z4 : PySem.W.nsIn K mainGlobals "len" = some none)
    (z5 : PySem.W.nsIn K mainGlobals "tuple" = some none)
    (z6 : PySem.W.nsIn K mainGlobals "sum" = some none)
    (z7 : PySem.W.nsIn K mainGlobals "isinstance" = some none)
    (z8 : PySem.W.nsIn K mainGlobals "int" = some none)
    (z9 : PySem.W.nsIn K mainGlobals "bool" = some none) :
    ∃ fd : FuncData, (∀ (s : Shared) (v : Value), BindsTo s fd ⟨[v], []⟩ [("_law_script", v)]) ∧ ∀ base : Heap, K.In base → base.Ns mainGlobals mg → FnOk l.prog w K mg base CX0 7 fa fd ["_law_script"] (SpD K F_law) := by
  have e := hfa.symm.trans (PySem.W.mg_of X G a15)
  cases e
  exact ⟨PySem.W.fnOf "law" "law" (defArgs s_law) (defBody s_law) (defScope s_law) .none kV15 dc15 pm15 an15 cd15 ct15, fun s v => .of_eq rfl, fun base _ _ => ok_law ⟨f0,
    PySem.W.fnOf "divisor" "divisor" (defArgs s_divisor) (defBody s_divisor) (defScope s_divisor) .none kV0 dc0 pm0 an0 cd0 ct0,
    fun_mk (st := s_divisor) l0 c0 k0,
    (fun_mk (st := s_divisor) l0 c0 k0).binds (ps := ["a", "b"]) (fun _ _ _ _ _ _ us hl => match us, hl with | [_, _], _ => rfl),
    PySem.W.mg_of X G a0,
    f1,
    PySem.W.fnOf "plain" "plain" (defArgs s_plain) (defBody s_plain) (defScope s_plain) .none kV1 dc1 pm1 an1 cd1 ct1,
    fun_mk (st := s_plain) l1 c1 k1,
    (fun_mk (st := s_plain) l1 c1 k1).binds (ps := ["row"]) (fun _ _ _ _ _ _ us hl => match us, hl with | [_], _ => rfl),
    PySem.W.mg_of X G a1,
    f2,
    PySem.W.fnOf "eased" "eased" (defArgs s_eased) (defBody s_eased) (defScope s_eased) .none kV2 dc2 pm2 an2 cd2 ct2,
    fun_mk (st := s_eased) l2 c2 k2,
    (fun_mk (st := s_eased) l2 c2 k2).binds (ps := ["row", "other", "place"]) (fun _ _ _ _ _ _ us hl => match us, hl with | [_, _, _], _ => rfl),
    PySem.W.mg_of X G a2,
    f3,
    PySem.W.fnOf "heads_of" "heads_of" (defArgs s_heads_of) (defBody s_heads_of) (defScope s_heads_of) .none kV3 dc3 pm3 an3 cd3 ct3,
    fun_mk (st := s_heads_of) l3 c3 k3,
    (fun_mk (st := s_heads_of) l3 c3 k3).binds (ps := ["rows", "size"]) (fun _ _ _ _ _ _ us hl => match us, hl with | [_, _], _ => rfl),
    PySem.W.mg_of X G a3,
    f4,
    PySem.W.fnOf "head_of" "head_of" (defArgs s_head_of) (defBody s_head_of) (defScope s_head_of) .none kV4 dc4 pm4 an4 cd4 ct4,
    fun_mk (st := s_head_of) l4 c4 k4,
    (fun_mk (st := s_head_of) l4 c4 k4).binds (ps := ["row"]) (fun _ _ _ _ _ _ us hl => match us, hl with | [_], _ => rfl),
    PySem.W.mg_of X G a4,
    f5,
    PySem.W.fnOf "noughts_of" "noughts_of" (defArgs s_noughts_of) (defBody s_noughts_of) (defScope s_noughts_of) .none kV5 dc5 pm5 an5 cd5 ct5,
    fun_mk (st := s_noughts_of) l5 c5 k5,
    (fun_mk (st := s_noughts_of) l5 c5 k5).binds (ps := ["rows", "size"]) (fun _ _ _ _ _ _ us hl => match us, hl with | [_, _], _ => rfl),
    PySem.W.mg_of X G a5,
    f6,
    PySem.W.fnOf "round_counts" "round_counts" (defArgs s_round_counts) (defBody s_round_counts) (defScope s_round_counts) .none kV6 dc6 pm6 an6 cd6 ct6,
    fun_mk (st := s_round_counts) l6 c6 k6,
    (fun_mk (st := s_round_counts) l6 c6 k6).binds (ps := ["net"]) (fun _ _ _ _ _ _ us hl => match us, hl with | [_], _ => rfl),
    PySem.W.mg_of X G a6,
    f7,
    PySem.W.fnOf "_law_cell_at" "_law_cell_at" (defArgs s_cell_at_l) (defBody s_cell_at_l) (defScope s_cell_at_l) .none kV7 dc7 pm7 an7 cd7 ct7,
    fun_mk (st := s_cell_at_l) l7 c7 k7,
    (fun_mk (st := s_cell_at_l) l7 c7 k7).binds (ps := ["_law_script", "_law_k"]) (fun _ _ _ _ _ _ us hl => match us, hl with | [_, _], _ => rfl),
    PySem.W.mg_of X G a7,
    f8,
    PySem.W.fnOf "_law_mixed" "_law_mixed" (defArgs s_mixed_l) (defBody s_mixed_l) (defScope s_mixed_l) .none kV8 dc8 pm8 an8 cd8 ct8,
    fun_mk (st := s_mixed_l) l8 c8 k8,
    (fun_mk (st := s_mixed_l) l8 c8 k8).binds (ps := ["_law_script", "_law_k", "_law_many"]) (fun _ _ _ _ _ _ us hl => match us, hl with | [_, _, _], _ => rfl),
    PySem.W.mg_of X G a8,
    f9,
    PySem.W.fnOf "_law_move" "_law_move" (defArgs s_move_l) (defBody s_move_l) (defScope s_move_l) .none kV9 dc9 pm9 an9 cd9 ct9,
    fun_mk (st := s_move_l) l9 c9 k9,
    (fun_mk (st := s_move_l) l9 c9 k9).binds (ps := ["_law_script", "_law_at", "_law_size", "_law_even"]) (fun _ _ _ _ _ _ us hl => match us, hl with | [_, _, _, _], _ => rfl),
    PySem.W.mg_of X G a9,
    f10,
    PySem.W.fnOf "_law_net" "_law_net" (defArgs s_net_l) (defBody s_net_l) (defScope s_net_l) .none kV10 dc10 pm10 an10 cd10 ct10,
    fun_mk (st := s_net_l) l10 c10 k10,
    (fun_mk (st := s_net_l) l10 c10 k10).binds (ps := ["_law_script", "_law_at"]) (fun _ _ _ _ _ _ us hl => match us, hl with | [_, _], _ => rfl),
    PySem.W.mg_of X G a10,
    f11,
    PySem.W.fnOf "_law_whole" "_law_whole" (defArgs s_whole_l) (defBody s_whole_l) (defScope s_whole_l) .none kV11 dc11 pm11 an11 cd11 ct11,
    fun_mk (st := s_whole_l) l11 c11 k11,
    (fun_mk (st := s_whole_l) l11 c11 k11).binds (ps := ["_law_found"]) (fun _ _ _ _ _ _ us hl => match us, hl with | [_], _ => rfl),
    PySem.W.mg_of X G a11,
    f12,
    PySem.W.fnOf "_law_rank" "_law_rank" (defArgs s_rank_l) (defBody s_rank_l) (defScope s_rank_l) .none kV12 dc12 pm12 an12 cd12 ct12,
    fun_mk (st := s_rank_l) l12 c12 k12,
    (fun_mk (st := s_rank_l) l12 c12 k12).binds (ps := ["_law_rows", "_law_size"]) (fun _ _ _ _ _ _ us hl => match us, hl with | [_, _], _ => rfl),
    PySem.W.mg_of X G a12,
    f13,
    PySem.W.fnOf "_law_divisor" "_law_divisor" (defArgs s_divisor_l) (defBody s_divisor_l) (defScope s_divisor_l) .none kV13 dc13 pm13 an13 cd13 ct13,
    fun_mk (st := s_divisor_l) l13 c13 k13,
    (fun_mk (st := s_divisor_l) l13 c13 k13).binds (ps := ["_law_row"]) (fun _ _ _ _ _ _ us hl => match us, hl with | [_], _ => rfl),
    PySem.W.mg_of X G a13,
    f14,
    PySem.W.fnOf "_law_is_ground" "_law_is_ground" (defArgs s_is_ground_l) (defBody s_is_ground_l) (defScope s_is_ground_l) .none kV14 dc14 pm14 an14 cd14 ct14,
    fun_mk (st := s_is_ground_l) l14 c14 k14,
    (fun_mk (st := s_is_ground_l) l14 c14 k14).binds (ps := ["_law_rows", "_law_size"]) (fun _ _ _ _ _ _ us hl => match us, hl with | [_, _], _ => rfl),
    PySem.W.mg_of X G a14,
    fa,
    PySem.W.fnOf "law" "law" (defArgs s_law) (defBody s_law) (defScope s_law) .none kV15 dc15 pm15 an15 cd15 ct15,
    fun_mk (st := s_law) l15 c15 k15,
    (fun_mk (st := s_law) l15 c15 k15).binds (ps := ["_law_script"]) (fun _ _ _ _ _ _ us hl => match us, hl with | [_], _ => rfl),
    PySem.W.mg_of X G a15,
    PySem.W.mg_none_of X G z0,
    PySem.W.mg_none_of X G z1,
    PySem.W.mg_none_of X G z2,
    PySem.W.mg_none_of X G z3,
    PySem.W.mg_none_of X G z4,
    PySem.W.mg_none_of X G z5,
    PySem.W.mg_none_of X G z6,
    PySem.W.mg_none_of X G z7,
    PySem.W.mg_none_of X G z8,
    PySem.W.mg_none_of X G z9⟩⟩
end Tw
open PySem PySem.W PyProof.Rows
set_option maxHeartbeats 0 in
set_option maxRecDepth 100000 in
theorem PySem.Challenge.cw_tokenwall_k12_whole_round_counts_holds : PySem.Challenge.rw_tokenwall_k12_whole_round_counts.Holds := by
  w_on; o_law; k_head; (case hw => w_witness2)
  k_fill
  refine L2.walk_of (l := PySem.Challenge.rw_tokenwall_k12_whole_round_counts) (n := 63) (k := 7) (x := "_law_script") (CX := fun _ => L2.CX0) (sp := fun w => Tw.SpD _ Tw.F_law) rfl (by decide) rfl ⟨rfl, by decide, by decide⟩ (fun w h Y => PySem.W.kIn_of Y) ?F (fun _ H a ns hl _ hS => Tw.law_start (Tw.holds_law ns hl) hS) (fun _ _ _ _ _ h => h)
  case F =>
    intro w mg fa h KX G hmg
    refine' Tw.all_mk KX G hmg ?a0 ?l0 ?c0 ?k0 ?a1 ?l1 ?c1 ?k1 ?a2 ?l2 ?c2 ?k2 ?a3 ?l3 ?c3 ?k3 ?a4 ?l4 ?c4 ?k4 ?a5 ?l5 ?c5 ?k5 ?a6 ?l6 ?c6 ?k6 ?a7 ?l7 ?c7 ?k7 ?a8 ?l8 ?c8 ?k8 ?a9 ?l9 ?c9 ?k9 ?a10 ?l10 ?c10 ?k10 ?a11 ?l11 ?c11 ?k11 ?a12 ?l12 ?c12 ?k12 ?a13 ?l13 ?c13 ?k13 ?a14 ?l14 ?c14 ?k14 ?a15 ?l15 ?c15 ?k15 ?z0 ?z1 ?z2 ?z3 ?z4 ?z5 ?z6 ?z7 ?z8 ?z9
    (case a0 => k_is)
    (case l0 => k_is)
    (case c0 => k_is)
    (case k0 => k_is)
    (case a1 => k_is)
    (case l1 => k_is)
    (case c1 => k_is)
    (case k1 => k_is)
    (case a2 => k_is)
    (case l2 => k_is)
    (case c2 => k_is)
    (case k2 => k_is)
    (case a3 => k_is)
    (case l3 => k_is)
    (case c3 => k_is)
    (case k3 => k_is)
    (case a4 => k_is)
    (case l4 => k_is)
    (case c4 => k_is)
    (case k4 => k_is)
    (case a5 => k_is)
    (case l5 => k_is)
    (case c5 => k_is)
    (case k5 => k_is)
    (case a6 => k_is)
    (case l6 => k_is)
    (case c6 => k_is)
    (case k6 => k_is)
    (case a7 => k_is)
    (case l7 => k_is)
    (case c7 => k_is)
    (case k7 => k_is)
    (case a8 => k_is)
    (case l8 => k_is)
    (case c8 => k_is)
    (case k8 => k_is)
    (case a9 => k_is)
    (case l9 => k_is)
    (case c9 => k_is)
    (case k9 => k_is)
    (case a10 => k_is)
    (case l10 => k_is)
    (case c10 => k_is)
    (case k10 => k_is)
    (case a11 => k_is)
    (case l11 => k_is)
    (case c11 => k_is)
    (case k11 => k_is)
    (case a12 => k_is)
    (case l12 => k_is)
    (case c12 => k_is)
    (case k12 => k_is)
    (case a13 => k_is)
    (case l13 => k_is)
    (case c13 => k_is)
    (case k13 => k_is)
    (case a14 => k_is)
    (case l14 => k_is)
    (case c14 => k_is)
    (case k14 => k_is)
    (case a15 => k_is)
    (case l15 => k_is)
    (case c15 => k_is)
    (case k15 => k_is)
    (case z0 => k_is)
    (case z1 => k_is)
    (case z2 => k_is)
    (case z3 => k_is)
    (case z4 => k_is)
    (case z5 => k_is)
    (case z6 => k_is)
    (case z7 => k_is)
    (case z8 => k_is)
    (case z9 => k_is)

